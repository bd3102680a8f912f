import PyProof.Rows.All
import Wide.All
import OpenK.AllK
import Wide.FinOn
import Lean
import PySem.Challenge.RW_og0114_01
set_option Elab.async false
set_option autoImplicit false
set_option maxRecDepth 100000
set_option bootstrap.genMatcherCode false
set_option tactic.hygienic false
set_option compiler.extract_closed false
set_option linter.all false
set_option genSizeOf false
set_option genInjectivity false
section
set_option backward.match.sparseCases false
open PySem PySem.W PySem.Calls PyProof.Rows
namespace Og
universe u
@[elab_as_elim] theorem H0{α:Sort u}{a b:α}{p:α→Prop}(h:a=b)(x:p b):p a:=h▸x
@[elab_as_elim] theorem rwl{α:Sort u}{a b:α}{p:α→Prop}(h:a=b)(x:p a):p b:=h▸x
theorem cps{P:Prop}(h:∀G:Prop,(P→G)→G):P:=h P id
inductive AV where
 | none
 | bool (b:Bool)
 | int (i:Int)
 | str (l:List Nat)
 | bytes (l:List UInt8)
 | tup (l:List AV)
 | ref (i:Nat)
 | slist (l:List AV)
 | addr (a:Nat)
 | top
 deriving Inhabited
inductive AO where
 | inst (c d:Nat)
 | list (l:List AV)
 | sdict (n:Nat) (es:List (List Nat×AV))
 | idict (es:List (Int×AV))
 | edict
 | ns (fs:List (Nat×AV))
 | barr (l:List UInt8)
 | fmap (es:List (List Nat×Option AV))
 | bag (es:List (List Nat×Bool))
 deriving Inhabited
noncomputable def pres(es:List (List Nat×Option AV)):List (List Nat×AV):=es.filterMap fun e=>e.2.map fun v=>(e.1,v)
noncomputable def DG(es:List (List Nat×Bool)):List (List Nat):=(es.filter (·.2)).map (·.1)
noncomputable def VR(hs h:Heap)(r:List Addr)(v:AV):Value→Prop:=AV.rec (motive_1:=fun _=>Value→Prop) (motive_2:=fun _=>List Value→Prop) (fun V=>V=.none) (fun b V=>V=.bool b) (fun i V=>∃t,V=.int i t) (fun l V=>∃t,V=.str ⟨l.toArray⟩ t) (fun l V=>∃t,V=.bytes l.toArray t) (fun _ q V=>∃a vs,V=.ref a∧IsTup h a vs∧q vs.toList) (fun i V=>∃a,V=.ref a∧r[i]?=some a) (fun _ q V=>∃a vs,V=.ref a∧hs.IsList a vs∧q vs.toList) (fun a V=>V=.ref a) (fun _=>True) (fun L=>L=[]) (fun _ _ q q' L=>∃V M,L=V::M∧q V∧q' M) v
noncomputable def AJ(hs h:Heap)(r:List Addr)(v:List AV):List Value→Prop:=AV.rec_1 (motive_1:=fun _=>Value→Prop) (motive_2:=fun _=>List Value→Prop) (fun V=>V=.none) (fun b V=>V=.bool b) (fun i V=>∃t,V=.int i t) (fun l V=>∃t,V=.str ⟨l.toArray⟩ t) (fun l V=>∃t,V=.bytes l.toArray t) (fun _ q V=>∃a vs,V=.ref a∧IsTup h a vs∧q vs.toList) (fun i V=>∃a,V=.ref a∧r[i]?=some a) (fun _ q V=>∃a vs,V=.ref a∧hs.IsList a vs∧q vs.toList) (fun a V=>V=.ref a) (fun _=>True) (fun L=>L=[]) (fun _ _ q q' L=>∃V M,L=V::M∧q V∧q' M) v
section
variable{hs h:Heap}{r:List Addr}
theorem VR.none:VR hs h r .none .none:=rfl
theorem VR.bool(b:Bool):VR hs h r (.bool b) (.bool b):=rfl
theorem VR.int(i:Int)(t:Tok):VR hs h r (.int i) (.int i t):=⟨t,rfl⟩
theorem VR.str(l:List Nat)(t:Tok):VR hs h r (.str l) (.str ⟨l.toArray⟩ t):=⟨t,rfl⟩
theorem VR.bytes(l:List UInt8)(t:Tok):VR hs h r (.bytes l) (.bytes l.toArray t):=⟨t,rfl⟩
theorem VR.tup{l:List AV}{a:Addr}{vs:Array Value}(x:IsTup h a vs)(y:AJ hs h r l vs.toList):VR hs h r (.tup l) (.ref a):=⟨a,vs,rfl,x,y⟩
theorem VR.ref{i:Nat}{a:Addr}(e:r[i]?=some a):VR hs h r (.ref i) (.ref a):=⟨a,rfl,e⟩
theorem VR.slist{l:List AV}{a:Addr}{vs:Array Value}(x:hs.IsList a vs)(y:AJ hs h r l vs.toList):VR hs h r (.slist l) (.ref a):=⟨a,vs,rfl,x,y⟩
theorem VR.addr(a:Addr):VR hs h r (.addr a) (.ref a):=rfl
theorem VR.top(v:Value):VR hs h r .top v:=trivial
theorem AJ.nil:AJ hs h r [] []:=rfl
theorem AJ.cons{v:AV}{V:Value}{l:List AV}{L:List Value}(x:VR hs h r v V)(y:AJ hs h r l L):AJ hs h r (v::l) (V::L):=⟨V,L,rfl,x,y⟩
end
noncomputable def AF(o:Obj):Prop:=o.cls=.type "tuple"∧∃vs n,o.data=.seq vs n
theorem FT{h h':Heap}{a:Addr}{vs:Array Value}(x:IsTup h a vs)(k:∀o,h.get? a=some o→AF o→h'.get? a=some o):IsTup h' a vs:=by
 obtain⟨o,ho,hc,n,hd⟩:=x
 exact⟨o,k o ho ⟨hc,_,n,hd⟩,hc,n,hd⟩
mutual
noncomputable def FI(p:Nat→Bool):AV→Bool
 | .ref i=>p i
 | .tup l=>avPs p l
 | .slist l=>avPs p l
 | _=>true
noncomputable def avPs(p:Nat→Bool):List AV→Bool
 | []=>true
 | v::l=>FI p v&&avPs p l
end
section
variable{hs h h':Heap}{r r':List Addr}
theorem AV.both{P:AV→Prop}{Q:List AV→Prop}(a:P .none)(b:∀b,P (.bool b))(c:∀i,P (.int i))(d:∀l,P (.str l))(e:∀l,P (.bytes l))(f:∀l,Q l→P (.tup l))(g:∀i,P (.ref i))(i:∀l,Q l→P (.slist l))(j:∀a,P (.addr a))(k:P .top)
  (m:Q []) (n:∀v l,P v→Q l→Q (v::l)):(∀v,P v)∧∀l,Q l :=
 ⟨fun v=>AV.rec (motive_1:=P) (motive_2:=Q) a b c d e f g i j k m n v,fun l=>AV.rec_1 (motive_1:=P) (motive_2:=Q) a b c d e f g i j k m n l⟩
theorem VR.both{P:AV→Value→Prop}{Q:List AV→List Value→Prop}(a:P .none .none)(b:∀b,P (.bool b) (.bool b))(c:∀i t,P (.int i) (.int i t))(d:∀l t,P (.str l) (.str ⟨l.toArray⟩ t))(e:∀l t,P (.bytes l) (.bytes l.toArray t))
  (f:∀{l a} {vs:Array Value},IsTup h a vs→Q l vs.toList→P (.tup l) (.ref a)) (g:∀{i a},r[i]?=some a→P (.ref i) (.ref a)) (i:∀{l a} {vs:Array Value},hs.IsList a vs→Q l vs.toList→P (.slist l) (.ref a)) (j:∀a,P (.addr a) (.ref a)) (k:∀v,P .top v)
  (m:Q [] []) (n:∀{v V l L},P v V→Q l L→Q (v::l) (V::L)):(∀{v V},VR hs h r v V→P v V)∧∀{l L},AJ hs h r l L→Q l L :=
 have z:=AV.both (P:=fun v=>∀V,VR hs h r v V→P v V) (Q:=fun l=>∀L,AJ hs h r l L→Q l L) (fun _ x=>H0 x a) (fun y _ x=>H0 x (b y)) (fun y _ x=>Exists.elim x fun t e=>H0 e (c y t)) (fun y _ x=>Exists.elim x fun t e=>H0 e (d y t)) (fun y _ x=>Exists.elim x fun t z=>H0 z (e y t))
  (fun _ q _ x=>Exists.elim x fun _ x=>Exists.elim x fun _ x=>H0 x.1 (f x.2.1 (q _ x.2.2))) (fun _ _ x=>Exists.elim x fun _ x=>H0 x.1 (g x.2)) (fun _ q _ x=>Exists.elim x fun _ x=>Exists.elim x fun _ x=>H0 x.1 (i x.2.1 (q _ x.2.2))) (fun y _ x=>H0 x (j y)) (fun V _=>k V)
  (fun _ x=>H0 x m) fun _ _ q q' _ x=>Exists.elim x fun _ x=>Exists.elim x fun _ x=>H0 x.1 (n (q _ x.2.1) (q' _ x.2.2))
 ⟨fun {v V}=>z.1 v V,fun {l L}=>z.2 l L⟩
theorem YT:(∀v,FI (fun _=>true) v=true)∧∀l,avPs (fun _=>true) l=true :=
 AV.both rfl (fun _=>rfl) (fun _=>rfl) (fun _=>rfl) (fun _=>rfl) (fun _ x=>x) (fun _=>rfl) (fun _ x=>x) (fun _=>rfl) rfl rfl fun _ _ x y=>Bool.and_eq_true_iff.mpr ⟨x,y⟩
theorem EM(v:AV):FI (fun _=>true) v=true:=YT.1 v
theorem T8(l:List AV):avPs (fun _=>true) l=true:=YT.2 l
theorem VR.monoB{p:Nat→Bool}(k:∀a o,h.get? a=some o→AF o→h'.get? a=some o)(q:∀i a,p i=true→r[i]?=some a→r'[i]?=some a):(∀{v V},VR hs h r v V→FI p v=true→VR hs h' r' v V)∧∀{l L},AJ hs h r l L→avPs p l=true→AJ hs h' r' l L :=
 VR.both (fun _=>.none) (fun b _=>.bool b) (fun i t _=>.int i t) (fun l t _=>.str l t) (fun l t _=>.bytes l t) (fun x y l=>.tup (FT x (k _)) (y l)) (fun e l=>.ref (q _ _ l e)) (fun x y l=>.slist x (y l)) (fun a _=>.addr a) (fun v _=>.top v) (fun _=>.nil)
  fun x y l=>.cons (x (Bool.and_eq_true_iff.mp l).1) (y (Bool.and_eq_true_iff.mp l).2)
theorem VR.monoP{p:Nat→Bool}(k:∀a o,h.get? a=some o→AF o→h'.get? a=some o)(q:∀i a,p i=true→r[i]?=some a→r'[i]?=some a){v:AV}{V:Value}(l:FI p v=true)(x:VR hs h r v V):VR hs h' r' v V:=(VR.monoB k q).1 x l
theorem AJ.monoP{p:Nat→Bool}(k:∀a o,h.get? a=some o→AF o→h'.get? a=some o)(q:∀i a,p i=true→r[i]?=some a→r'[i]?=some a){v:List AV}{V:List Value}(l:avPs p v=true)(x:AJ hs h r v V):AJ hs h' r' v V:=(VR.monoB k q).2 x l
theorem IX{i:Nat}{a:Addr}(p:r <+: r')(e:r[i]?=some a):r'[i]?=some a:=by
 obtain⟨x,rfl⟩:=p
 rw [List.getElem?_append_left (List.getElem?_eq_some_iff.mp e).1];exact e
theorem VR.mono(k:∀a o,h.get? a=some o→AF o→h'.get? a=some o)(p:r <+: r'){v:AV}{V:Value}(x:VR hs h r v V):VR hs h' r' v V:=VR.monoP k (fun _ _ _=>IX p) (EM v) x
theorem AJ.mono(k:∀a o,h.get? a=some o→AF o→h'.get? a=some o)(p:r <+: r'){v:List AV}{V:List Value}(x:AJ hs h r v V):AJ hs h' r' v V:=AJ.monoP k (fun _ _ _=>IX p) (T8 v) x
@[elab_as_elim] theorem AJ.ind{P:List AV→List Value→Prop}{l:List AV}{L:List Value}(x:AJ hs h r l L)(a:P [] [])(b:∀v V l L,VR hs h r v V→AJ hs h r l L→P l L→P (v::l) (V::L)):P l L:=by
 induction l generalizing L with
 | nil=>exact H0 (p:=P []) x a
 | cons v l ih=>exact Exists.elim x fun V h=>Exists.elim h fun M h=>H0 (p:=P (v::l)) h.1 (b v V l M h.2.1 h.2.2 (ih h.2.2))
theorem AJ.length{l:List AV}{L:List Value}(x:AJ hs h r l L):l.length=L.length:=x.ind rfl fun _ _ _ _ _ _ ih=>congrArg (·+1) ih
theorem AJ.append{l l':List AV}{L L':List Value}(x:AJ hs h r l L)(y:AJ hs h r l' L'):AJ hs h r (l++l') (L++L'):=x.ind y fun _ _ _ _ a _ ih=>.cons a ih
theorem AJ.one{v:AV}{V:Value}(x:VR hs h r v V):AJ hs h r [v] [V]:=.cons x .nil
theorem AJ.get{l:List AV}{L:List Value}(x:AJ hs h r l L){i:Nat}{v:AV}(e:l[i]?=some v):∃V,L[i]?=some V∧VR hs h r v V:=by
 suffices key:∀i,l[i]?=some v→∃V,L[i]?=some V∧VR hs h r v V from key i e
 refine x.ind (fun i e=>nomatch e) fun _ _ _ _ a _ ih i e=>?_
 induction i using Nat.casesOn with
 | zero=>have:=Option.some.inj e;exact⟨_,rfl,this▸a⟩
 | succ i=>exact ih i e
theorem AJ.take{l:List AV}{L:List Value}(x:AJ hs h r l L)(n:Nat):AJ hs h r (l.take n) (L.take n):=by
 revert n
 refine x.ind (fun n=>?_) fun _ _ _ _ a _ ih n=>?_
 ·rw [List.take_nil,List.take_nil];exact .nil
 ·induction n using Nat.casesOn with
  | zero=>exact .nil
  | succ n=>exact .cons a (ih n)
theorem AJ.drop{l:List AV}{L:List Value}(x:AJ hs h r l L)(n:Nat):AJ hs h r (l.drop n) (L.drop n):=by
 revert n
 refine x.ind (fun n=>?_) fun _ _ _ _ a b ih n=>?_
 ·rw [List.drop_nil,List.drop_nil];exact .nil
 ·induction n using Nat.casesOn with
  | zero=>exact .cons a b
  | succ n=>exact ih n
theorem AJ.reverse{l:List AV}{L:List Value}(x:AJ hs h r l L):AJ hs h r l.reverse L.reverse:=by
 refine x.ind .nil fun _ _ _ _ a _ ih=>?_
 rw [List.reverse_cons,List.reverse_cons];exact ih.append (.one a)
theorem AJ.set{l:List AV}{L:List Value}(x:AJ hs h r l L){v:AV}{V:Value}(y:VR hs h r v V)(i:Nat):AJ hs h r (l.set i v) (L.set i V):=by
 revert i
 refine x.ind (fun _=>.nil) fun _ _ _ _ a b ih i=>?_
 induction i using Nat.casesOn with
 | zero=>exact .cons y b
 | succ n=>exact .cons a (ih n)
end
section
variable{hs h:Heap}{r:List Addr}{V:Value}
theorem VR.inv_none(x:VR hs h r .none V):V=.none:=x
theorem VR.inv_bool{b:Bool}(x:VR hs h r (.bool b) V):V=.bool b:=x
@[elab_as_elim] theorem VR.eInt{P:Value→Prop}{i:Int}(x:VR hs h r (.int i) V)(u:∀t,P (.int i t)):P V:=Exists.elim x fun t e=>H0 e (u t)
@[elab_as_elim] theorem VR.eStr{P:Value→Prop}{l:List Nat}(x:VR hs h r (.str l) V)(u:∀t,P (.str ⟨l.toArray⟩ t)):P V:=Exists.elim x fun t e=>H0 e (u t)
@[elab_as_elim] theorem VR.eBytes{P:Value→Prop}{l:List UInt8}(x:VR hs h r (.bytes l) V)(u:∀t,P (.bytes l.toArray t)):P V:=Exists.elim x fun t e=>H0 e (u t)
@[elab_as_elim] theorem VR.eRef{P:Value→Prop}{i:Nat}(x:VR hs h r (.ref i) V)(u:∀a,r[i]?=some a→P (.ref a)):P V:=Exists.elim x fun a e=>H0 e.1 (u a e.2)
@[elab_as_elim] theorem VR.eTup{P:Value→Prop}{l:List AV}(x:VR hs h r (.tup l) V)(u:∀a vs,IsTup h a vs→AJ hs h r l vs.toList→P (.ref a)):P V:=Exists.elim x fun a e=>Exists.elim e fun vs e=>H0 e.1 (u a vs e.2.1 e.2.2)
@[elab_as_elim] theorem VR.eSl{P:Value→Prop}{l:List AV}(x:VR hs h r (.slist l) V)(u:∀a vs,hs.IsList a vs→AJ hs h r l vs.toList→P (.ref a)):P V:=Exists.elim x fun a e=>Exists.elim e fun vs e=>H0 e.1 (u a vs e.2.1 e.2.2)
theorem VR.inv_int{i:Int}(x:VR hs h r (.int i) V):∃t,V=.int i t:=x.eInt fun t=>⟨t,rfl⟩
theorem VR.inv_str{l:List Nat}(x:VR hs h r (.str l) V):∃t,V=.str ⟨l.toArray⟩ t:=x.eStr fun t=>⟨t,rfl⟩
theorem VR.inv_bytes{l:List UInt8}(x:VR hs h r (.bytes l) V):∃t,V=.bytes l.toArray t:=x.eBytes fun t=>⟨t,rfl⟩
theorem VR.inv_tup{l:List AV}(x:VR hs h r (.tup l) V):∃a vs,V=.ref a∧IsTup h a vs∧AJ hs h r l vs.toList:=x.eTup fun a vs y z=>⟨a,vs,rfl,y,z⟩
theorem VR.inv_ref{i:Nat}(x:VR hs h r (.ref i) V):∃a,V=.ref a∧r[i]?=some a:=x.eRef fun a e=>⟨a,rfl,e⟩
theorem VR.inv_slist{l:List AV}(x:VR hs h r (.slist l) V):∃a vs,V=.ref a∧hs.IsList a vs∧AJ hs h r l vs.toList:=x.eSl fun a vs y z=>⟨a,vs,rfl,y,z⟩
theorem VR.inv_addr{a:Addr}(x:VR hs h r (.addr a) V):V=.ref a:=x
theorem AJ.inv0{L:List Value}(x:AJ hs h r [] L):L=[]:=x
@[elab_as_elim] theorem AJ.eCons{P:List Value→Prop}{v:AV}{l:List AV}{L:List Value}(x:AJ hs h r (v::l) L)(u:∀V L,VR hs h r v V→AJ hs h r l L→P (V::L)):P L:=Exists.elim x fun V e=>Exists.elim e fun M e=>H0 e.1 (u V M e.2.1 e.2.2)
@[elab_as_elim] theorem AJ.e1{a:AV}{P:List Value→Prop}{L:List Value}(x:AJ hs h r [a] L)(u:∀X,VR hs h r a X→P [X]):P L:=x.eCons fun X L y z=>z.inv0▸u X y
@[elab_as_elim] theorem AJ.e2{a b:AV}{P:List Value→Prop}{L:List Value}(x:AJ hs h r [a,b] L)(u:∀X Y,VR hs h r a X→VR hs h r b Y→P [X,Y]):P L:=x.eCons fun X L y z=>z.e1 fun Y w=>u X Y y w
@[elab_as_elim] theorem AJ.e3{a b d:AV}{P:List Value→Prop}{L:List Value}(x:AJ hs h r [a,b,d] L)(u:∀X Y Z,VR hs h r a X→VR hs h r b Y→VR hs h r d Z→P [X,Y,Z]):P L:=x.eCons fun X L y z=>z.e2 fun Y Z w v=>u X Y Z y w v
theorem VR.at{i:Nat}{a:Addr}(x:VR hs h r (.ref i) (.ref a)):r[i]?=some a:=Exists.elim x fun _ e=>Value.ref.inj e.1▸e.2
theorem AJ.uncons{v:AV}{l:List AV}{L:List Value}(x:AJ hs h r (v::l) (V::L)):VR hs h r v V∧AJ hs h r l L:=Exists.elim x fun _ e=>Exists.elim e fun _ e=>(List.cons.inj e.1).1▸(List.cons.inj e.1).2▸e.2
theorem AJ.inv1{a:AV}{L:List Value}(x:AJ hs h r [a] L):∃X,L=[X]∧VR hs h r a X:=x.e1 fun X y=>⟨X,rfl,y⟩
theorem AJ.inv2{a b:AV}{L:List Value}(x:AJ hs h r [a,b] L):∃X Y,L=[X,Y]∧VR hs h r a X∧VR hs h r b Y:=x.e2 fun X Y y z=>⟨X,Y,rfl,y,z⟩
end
inductive GX(hs h:Heap)(r:List Addr):List (List Nat×AV)→List (Str×Value)→Prop
 | nil:GX hs h r [] []
 | cons {k:List Nat} {v:AV} {V:Value} {l:List (List Nat×AV)} {L:List (Str×Value)}:VR hs h r v V→GX hs h r l L→GX hs h r ((k,v)::l) ((⟨k.toArray⟩,V)::L)
inductive MR(hs h:Heap)(r:List Addr):List (Int×AV)→List (Int×Value)→Prop
 | nil:MR hs h r [] []
 | cons {k:Int} {v:AV} {V:Value} {l:List (Int×AV)} {L:List (Int×Value)}:VR hs h r v V→MR hs h r l L→MR hs h r ((k,v)::l) ((k,V)::L)
structure FE(isA:Nat→Bool)(nm:Nat→Str)(hs h:Heap)(r:List Addr)(e:Nat×AV)(d:DictEntry):Prop where
 isA:isA e.1=true
 key:∃t,d.key=.str (nm e.1) t
 val:VR hs h r e.2 d.val
inductive JP(isA:Nat→Bool)(nm:Nat→Str)(hs h:Heap)(r:List Addr):List (Nat×AV)→List DictEntry→Prop
 | nil:JP isA nm hs h r [] []
 | cons {e:Nat×AV} {d:DictEntry} {l:List (Nat×AV)} {L:List DictEntry}:FE isA nm hs h r e d→JP isA nm hs h r l L→JP isA nm hs h r (e::l) (d::L)
structure Cx where
 prog:Program
 w:World
 hs:Heap
 K:Frag
 nm:Nat→Str
 isA:Nat→Bool
 inj:∀a b,isA a=isA b→nm a=nm b→a=b
 isC:Nat→Bool
 ca:Nat→Addr
 fa:Nat→Addr
 mg:Str→Option Value
 mb:Str→Option Value
 gens:Array GenState
 os:OsState
 X:K.In hs
 clsGet:∀k,isC k=true→findIn K (.ref (ca k)) "__getattribute__"=some (some (.builtin "object.__getattribute__"))
 clsSet:∀k,isC k=true→findIn K (.ref (ca k)) "__setattr__"=some (some (.builtin "object.__setattr__"))
 clsPlain:∀k,isC k=true→plainOver K (ca k)=true
 clsDict:∀k,isC k=true→(clsIn K (ca k)).any (·.hasDict)=true
 clsAttr:∀k a,isC k=true→isA a=true→findIn K (.ref (ca k)) (nm a)=some none
 G:hs.Ns mainGlobals mg
 B:hs.Ns builtinsNs mb
 mc:Str→Option Value
 L:Addr
 hL:L=2∨L=3
 stat:hs.Ns L mc
 nolim:hs.NoLimit
 noK:K.lookup L=none
 modsAt:∃o,hs.get? sysModules=some o
 builtins:∀x:Str,x≠"__name__"→mb x=bootBuiltins x
noncomputable def OR(c:Cx)(h:Heap)(r:List Addr):AO→Obj→Prop
 | .inst k d,o=>∃dx,r[d]?=some dx∧o=instObj (c.ca k) dx∧c.isC k=true
 | .list l,o=>∃vs n,o={ cls:=.type "list",data:=.seq vs n }∧AJ c.hs h r l vs.toList
 | .sdict _ es,o=>∃kvs,o.IsDictOf (strKind c.prog c.w) kvs∧GX c.hs h r es kvs
 | .idict es,o=>∃kvs,o.IsDictOf (intKind c.prog c.w) kvs∧MR c.hs h r es kvs
 | .edict,o=>o.IsDictOf (strKind c.prog c.w) []∧o.IsDictOf (intKind c.prog c.w) []
 | .ns fs,o=>∃ds n,o=dictOf ds n∧JP c.isA c.nm c.hs h r fs ds∧ds.length≤60
 | .barr l,o=>o={ cls:=.type "bytearray",data:=.bytearray l.toArray 0 }
 | .fmap es,o=>(es.map (·.1)).Nodup∧∃(es0:List (List Nat×AV)) (kvs:List (Str×Value)),es0.Perm (pres es)∧o.IsDictOf (strKind c.prog c.w) kvs∧GX c.hs h r es0 kvs
 | .bag es,o=>(es.map (·.1)).Nodup∧∃(xs:List (List Nat)) (vs:Array Value) (n:Nat),xs.Perm (DG es)∧o={ cls:=.type "list",data:=.seq vs n }∧AJ c.hs h r (xs.map .str) vs.toList
theorem BY{prog:Program}{w:World}{K:Type}[DecidableEq K]{knd:KeyKind prog w K}{o:Obj}{kvs:List (K×Value)}(x:o.IsDictOf knd kvs):o.cls=.type "dict":=by
 obtain⟨_,_,e,_⟩:=x;exact e.1
section
variable{hs h h':Heap}{r r':List Addr}
theorem GX.monoP{p:Nat→Bool}(k:∀a o,h.get? a=some o→AF o→h'.get? a=some o)(q:∀i a,p i=true→r[i]?=some a→r'[i]?=some a){l:List (List Nat×AV)}{L:List (Str×Value)}(e:∀x∈l,FI p x.2=true)(x:GX hs h r l L):GX hs h' r' l L:=by
 induction x with
 | nil=>exact .nil
 | cons a _ ih=>exact .cons (a.monoP k q (e _ List.mem_cons_self)) (ih fun x m=>e x (List.mem_cons_of_mem _ m))
theorem MR.monoP{p:Nat→Bool}(k:∀a o,h.get? a=some o→AF o→h'.get? a=some o)(q:∀i a,p i=true→r[i]?=some a→r'[i]?=some a){l:List (Int×AV)}{L:List (Int×Value)}(e:∀x∈l,FI p x.2=true)(x:MR hs h r l L):MR hs h' r' l L:=by
 induction x with
 | nil=>exact .nil
 | cons a _ ih=>exact .cons (a.monoP k q (e _ List.mem_cons_self)) (ih fun x m=>e x (List.mem_cons_of_mem _ m))
theorem JP.monoP{p:Nat→Bool}{isA:Nat→Bool}{nm:Nat→Str}(k:∀a o,h.get? a=some o→AF o→h'.get? a=some o)(q:∀i a,p i=true→r[i]?=some a→r'[i]?=some a){l:List (Nat×AV)}{L:List DictEntry}(e:∀x∈l,FI p x.2=true)(x:JP isA nm hs h r l L):JP isA nm hs h' r' l L:=by
 induction x with
 | nil=>exact .nil
 | cons a _ ih=>exact .cons ⟨a.isA,a.key,a.val.monoP k q (e _ List.mem_cons_self)⟩ (ih fun x m=>e x (List.mem_cons_of_mem _ m))
theorem GX.mono(k:∀a o,h.get? a=some o→AF o→h'.get? a=some o)(p:r <+: r'){l:List (List Nat×AV)}{L:List (Str×Value)}(x:GX hs h r l L):GX hs h' r' l L:=x.monoP k (fun _ _ _=>IX p) fun _ _=>EM _
theorem MR.mono(k:∀a o,h.get? a=some o→AF o→h'.get? a=some o)(p:r <+: r'){l:List (Int×AV)}{L:List (Int×Value)}(x:MR hs h r l L):MR hs h' r' l L:=x.monoP k (fun _ _ _=>IX p) fun _ _=>EM _
theorem FE.mono{isA:Nat→Bool}{nm:Nat→Str}(k:∀a o,h.get? a=some o→AF o→h'.get? a=some o)(p:r <+: r'){e:Nat×AV}{d:DictEntry}(x:FE isA nm hs h r e d):FE isA nm hs h' r' e d:=⟨x.isA,x.key,x.val.mono k p⟩
theorem JP.mono{isA:Nat→Bool}{nm:Nat→Str}(k:∀a o,h.get? a=some o→AF o→h'.get? a=some o)(p:r <+: r'){l:List (Nat×AV)}{L:List DictEntry}(x:JP isA nm hs h r l L):JP isA nm hs h' r' l L:=x.monoP k (fun _ _ _=>IX p) fun _ _=>EM _
theorem M4{i:Nat}{a:Addr}(p:r <+: r')(e:r[i]?=some a):r'[i]?=some a:=IX p e
noncomputable def KM(p:Nat→Bool):AO→Bool
 | .inst _ d=>p d
 | .list l=>avPs p l
 | .sdict _ es=>es.all fun e=>FI p e.2
 | .idict es=>es.all fun e=>FI p e.2
 | .edict=>true
 | .ns fs=>fs.all fun e=>FI p e.2
 | .barr _=>true
 | .fmap es=>es.all fun e=>match e.2 with | some v=>FI p v | none=>true
 | .bag _=>true
theorem T9{es:List (List Nat×Option AV)}{x:List Nat×AV}:x∈pres es↔(x.1,some x.2)∈es:=by
 refine List.mem_filterMap.trans ⟨fun⟨p,m,e⟩=>?_,fun m=>⟨_,m,rfl⟩⟩
 obtain⟨k,o⟩:=p
 induction o using Option.casesOn with
 | none=>exact nomatch e
 | some v=>have z:=Option.some.inj e;exact z▸m
theorem KN{p:Nat→Bool}{l:List (List Nat)}:avPs p (l.map .str)=true:=by
 induction l with
 | nil=>rfl
 | cons a l ih=>exact ih
theorem OR.monoP{c:Cx}{p:Nat→Bool}(k:∀a o,h.get? a=some o→AF o→h'.get? a=some o)(q:∀i a,p i=true→r[i]?=some a→r'[i]?=some a){o:AO}{ob:Obj}(e:KM p o=true)(x:OR c h r o ob):OR c h' r' o ob:=by
 induction o using Og.AO.casesOn with
 | inst c d=>obtain⟨dx,e1,z⟩:=x;exact⟨dx,q _ _ e e1,z⟩
 | list l=>obtain⟨vs,n,e1,y⟩:=x;exact⟨vs,n,e1,y.monoP k q e⟩
 | sdict n es=>obtain⟨kvs,e1,y⟩:=x;exact⟨kvs,e1,y.monoP k q (List.all_eq_true.mp e)⟩
 | idict es=>obtain⟨kvs,e1,y⟩:=x;exact⟨kvs,e1,y.monoP k q (List.all_eq_true.mp e)⟩
 | edict=>exact x
 | ns fs=>obtain⟨ds,n,e1,y,z⟩:=x;exact⟨ds,n,e1,y.monoP k q (List.all_eq_true.mp e),z⟩
 | barr l=>exact x
 | fmap es =>
  obtain⟨nd,es0,kvs,p0,e1,y⟩:=x
  refine⟨nd,es0,kvs,p0,e1,y.monoP k q fun x m=>?_⟩
  have:=List.all_eq_true.mp e _ (T9.mp (p0.mem_iff.mp m))
  exact this
 | bag es =>
  obtain⟨nd,xs,vs,n,p0,e1,y⟩:=x
  exact⟨nd,xs,vs,n,p0,e1,y.monoP k q KN⟩
theorem YU(o:AO):KM (fun _=>true) o=true:=by
 induction o using AO.casesOn with
 | inst=>rfl
 | list l=>exact T8 l
 | sdict n es=>exact List.all_eq_true.mpr fun _ _=>EM _
 | idict es=>exact List.all_eq_true.mpr fun _ _=>EM _
 | edict=>rfl
 | ns fs=>exact List.all_eq_true.mpr fun _ _=>EM _
 | barr=>rfl
 | fmap es =>
  refine List.all_eq_true.mpr fun e _=>?_
  obtain⟨k,v⟩:=e
  induction v using Option.casesOn with
  | none=>rfl
  | some v=>exact EM v
 | bag=>rfl
theorem OR.mono{c:Cx}(k:∀a o,h.get? a=some o→AF o→h'.get? a=some o)(p:r <+: r'){o:AO}{ob:Obj}(x:OR c h r o ob):OR c h' r' o ob:=x.monoP k (fun _ _ _=>IX p) (YU o)
theorem dM{n:String}(h:n≠"tuple"):Value.type n≠.type "tuple":=fun e=>h (Value.type.inj e)
theorem OR.notTup{c:Cx}{o:AO}{ob:Obj}(x:OR c h r o ob):ob.cls≠.type "tuple":=by
 have dc:∀{v:Value},v=.type "dict"→v≠.type "tuple":=fun e=>e▸dM (by decide)
 induction o using AO.casesOn with
 | inst c d=>exact x.elim fun dx e=>e.2.1▸fun z=>Value.noConfusion z
 | list l=>exact x.elim fun vs e=>e.elim fun n e=>e.1▸dM (by decide)
 | sdict n es=>exact x.elim fun _ e=>dc (BY e.1)
 | idict es=>exact x.elim fun _ e=>dc (BY e.1)
 | edict=>exact dc (BY x.1)
 | ns es=>exact x.elim fun vs e=>e.elim fun n e=>e.1▸dM (by decide)
 | barr l=>exact(show ob=_ from x)▸dM (by decide)
 | fmap es=>exact x.2.elim fun _ e=>e.elim fun _ e=>dc (BY e.2.1)
 | bag es=>exact x.2.elim fun _ e=>e.elim fun _ e=>e.elim fun _ e=>e.2.1▸dM (by decide)
end
structure SR(c:Cx)(s:Shared)(r:List Addr)(H:List AO):Prop where
 keep:∀a o,a≠c.L→c.hs.get? a=some o→s.heap.get? a=some o
 stat:s.heap.Ns c.L c.mc
 len:r.length=H.length
 obj:∀(i:Nat) (o:AO),H[i]?=some o→∃a ob,r[i]?=some a∧s.heap.get? a=some ob∧OR c s.heap r o ob
 nodup:r.Nodup
 fresh:∀a∈r,c.hs.get? a=none
 gens:s.gens=c.gens
 os:s.os=c.os
structure dJ(L:Addr)(r r':List Addr)(h h':Heap):Prop where
 keep:∀a o,a≠L→h.get? a=some o→a∉r→h'.get? a=some o
 new:∀a∈r',a∈r∨h.get? a=none
theorem dJ.refl(L:Addr)(r:List Addr)(h:Heap):dJ L r r h h:=⟨fun _ _ _ e _=>e,fun _ m=>.inl m⟩
theorem xN{α:Type}{x:Option α}{a:α}{P:Prop}(e:x=some a)(f:x=none):P:=nomatch f.symm.trans e
theorem dJ.trans{L:Addr}{r r₁ r₂:List Addr}{h h₁ h₂:Heap}(x:dJ L r r₁ h h₁)(y:dJ L r₁ r₂ h₁ h₂)(c3:L∉r₂):dJ L r r₂ h h₂:=by
 refine⟨fun a o z e n=>y.keep a o z (x.keep a o z e n) fun m=>(x.new a m).elim n (xN e),fun a m=>(y.new a m).elim (x.new a) fun q=>?_⟩
 by_cases hm:a∈r
 ·exact .inl hm
 ·exact .inr (Option.eq_none_iff_forall_ne_some.mpr fun o hh=>xN (x.keep a o (fun z=>c3 (z▸m)) hh hm) q)
theorem SR.notStat{c:Cx}{s:Shared}{r:List Addr}{H:List AO}(S:SR c s r H):c.L∉r:=fun m=>c.stat.elim fun _ e=>e.elim fun _ e=>e.elim fun _ e=>xN e.1 (S.fresh _ m)
theorem SR.has{c:Cx}{s:Shared}{r:List Addr}{H:List AO}(S:SR c s r H){a:Addr}(m:a∈r):∃(i:Nat) (o:AO) (ob:Obj),r[i]?=some a∧H[i]?=some o∧s.heap.get? a=some ob∧OR c s.heap r o ob:=by
 obtain⟨i,hi⟩:=List.getElem?_of_mem m
 have hi':i<H.length:=S.len▸(List.getElem?_eq_some_iff.mp hi).1
 obtain⟨b,ob,e1,e2,e3⟩:=S.obj i H[i] (List.getElem?_eq_getElem hi')
 exact⟨i,_,ob,hi,List.getElem?_eq_getElem hi',Option.some.inj (hi.symm.trans e1)▸e2,e3⟩
theorem SR.notIn{c:Cx}{s:Shared}{r:List Addr}{H:List AO}(S:SR c s r H){a:Addr}{o:Obj}(e:s.heap.get? a=some o)(hc:o.cls=.type "tuple"):a∉r:=by
 intro m
 obtain⟨_,_,ob,_,_,e2,e3⟩:=S.has m
 exact e3.notTup (Option.some.inj (e.symm.trans e2)▸hc)
theorem SR.tups{c:Cx}{s:Shared}{r r':List Addr}{H:List AO}{h':Heap}(S:SR c s r H)(x:dJ c.L r r' s.heap h'):∀a o,s.heap.get? a=some o→AF o→h'.get? a=some o :=
 fun a o e hc=>x.keep a o (fun z=>by
  obtain⟨o',es,ep,e',q,_⟩:=S.stat
  obtain⟨_,_,_,d⟩:=hc
  have z2:=Option.some.inj ((z▸e).symm.trans e')
  subst z2
  exact nomatch q.symm.trans d) e (S.notIn e hc.1)
theorem SR.vr{c:Cx}{s:Shared}{r r':List Addr}{H:List AO}{h':Heap}(S:SR c s r H)(x:dJ c.L r r' s.heap h')(p:r <+: r'){v:AV}{V:Value}(y:VR c.hs s.heap r v V):VR c.hs h' r' v V:=y.mono (S.tups x) p
theorem SR.vrs{c:Cx}{s:Shared}{r r':List Addr}{H:List AO}{h':Heap}(S:SR c s r H)(x:dJ c.L r r' s.heap h')(p:r <+: r'){v:List AV}{V:List Value}(y:AJ c.hs s.heap r v V):AJ c.hs h' r' v V:=y.mono (S.tups x) p
theorem SR.toks{c:Cx}{s:Shared}{r:List Addr}{H:List AO}(S:SR c s r H)(t:Nat):SR c { s with toks:=t } r H:=⟨S.keep,S.stat,S.len,S.obj,S.nodup,S.fresh,S.gens,S.os⟩
theorem Cx.ne{c:Cx}{a:Addr}(h:a≠2)(g:a≠3):a≠c.L:=fun z=>c.hL.elim (fun q=>h (z.trans q)) fun q=>g (z.trans q)
theorem SR.nsAt{c:Cx}{s:Shared}{r:List Addr}{H:List AO}(S:SR c s r H){a:Addr}{m:Str→Option Value}(n:c.hs.Ns a m):s.heap.Ns a m:=by
 by_cases z:a=c.L
 ·have e:m=c.mc:=by
   rw [z] at n
   exact(Heap.Ns.eq_nsMap n).trans (Heap.Ns.eq_nsMap c.stat).symm
  rw [e,z];exact S.stat
 ·obtain⟨o,es,ep,ho,q⟩:=n
  exact⟨o,es,ep,S.keep a o z ho,q⟩
theorem SR.nolimit{c:Cx}{s:Shared}{r:List Addr}{H:List AO}(S:SR c s r H):s.heap.NoLimit:=by
 obtain⟨mc,n,e⟩:=c.nolim
 exact⟨mc,S.nsAt n,e⟩
theorem SR.G{c:Cx}{s:Shared}{r:List Addr}{H:List AO}(S:SR c s r H):s.heap.Ns mainGlobals c.mg:=S.nsAt c.G
theorem SR.B{c:Cx}{s:Shared}{r:List Addr}{H:List AO}(S:SR c s r H):s.heap.Ns builtinsNs c.mb:=S.nsAt c.B
theorem SR.X{c:Cx}{s:Shared}{r:List Addr}{H:List AO}(S:SR c s r H):c.K.In s.heap:=fun a o e=>S.keep a o (fun z=>xN e (z▸c.noK)) (c.X a o e)
end Og
end
section
open PySem PySem.W PySem.Calls PyProof.Rows
namespace Og
noncomputable def vc{α:Type}(M:Model)(A:Around)(Q:α→Shared→Prop)(E:Value→Shared→Prop):Nat→List Obj→Sem α→Shared→Prop
 | 0,_,t,s=>wpAny M A t Q E s
 | n+1,os,t,s=>match t with
  | .pure a=>Q a s
  | .raise e=>E e s
  | .rule _ k=>vc M A Q E n os (k ()) s
  | .point _ k=>vc M A Q E n os (k ()) s
  | .ask k=>vc M A Q E n os (k ⟨M.prog,M.w.params⟩) s
  | .fresh k=>vc M A Q E n os (k s.toks) { s with toks:=s.toks+1 }
  | .alloc o k=>vc M A Q E n os (k s.heap.objs.size) { s with heap:=s.heap.push o }
  | .load a p k=>match os with
   | o::os=>s.heap.get? a=some o∧vc M A Q E n os (k o) s
   | []=>wpAny M A (.load a p k) Q E s
  | t=>wpAny M A t Q E s
section
variable{α:Type}{M:Model}{A:Around}{Q:α→Shared→Prop}{E:Value→Shared→Prop}
theorem sQ(n:Nat):∀{os:List Obj} {t:Sem α} {s:Shared},vc M A Q E n os t s→wpAny M A t Q E s:=by
 induction n with
 | zero=>exact fun h=>h
 | succ n ih =>
  intro os t s h
  induction t using Sem.casesOn with
  | pure a=>exact nd_pure h
  | raise e=>exact wpAny_throw h
  | rule _ k=>exact nd_rule (ih h)
  | point _ k=>exact nd_point (ih h)
  | ask k=>exact nd_ask (ih h)
  | fresh k=>exact nd_fresh (ih h)
  | alloc o k=>exact nd_alloc (ih h)
  | load a p k =>
   induction os using List.casesOn with
   | nil=>exact h
   | cons o os=>exact nd_load h.1 (ih h.2)
  | _=>exact h
theorem P5{t:Sem α}{s:Shared}(n:Nat)(os:List Obj){P:Prop}(p:P)(e:vc M A Q E n os t s=P):wpAny M A t Q E s:=sQ n (e▸p)
end
end Og
end
section
set_option backward.match.sparseCases false
open PySem PySem.W PySem.Calls PyProof.Rows
namespace Og
inductive sE where | add | sub | mul | fdiv | mod | pow
 deriving DecidableEq
noncomputable def jY:sE→Operator
 | .add=>.Add
 | .sub=>.Sub
 | .mul=>.Mult
 | .fdiv=>.FloorDiv
 | .mod=>.Mod
 | .pow=>.Pow
inductive Cm where | eq | ne | lt | le | gt | isin | notin | is_ | isnot
 deriving DecidableEq
inductive Bi where | len | abs | max | ord | bytes | list | tuple | sorted
 deriving DecidableEq
inductive PT where
 | one (x:Nat)
 | two (x y:Nat)
inductive PX where
 | const (v:AV)
 | neg (n:Nat)
 | var (x:Nat)
 | glob (x:Nat)
 | attr (e:PX) (a:Nat)
 | bin (o:sE) (l r:PX)
 | cmp (o:Cm) (l r:PX)
 | and2 (l r:PX)
 | or2 (l r:PX)
 | not (e:PX)
 | ite (t a b:PX)
 | idx (e i:PX)
 | slc (e:PX) (lo hi:Option PX)
 | rev (e:PX)
 | tup (l:List PX)
 | list (l:List PX)
 | dict (l:List (PX×PX))
 | comp (elt:PX) (t:PT) (it:PX) (cond:Option PX)
 | enum (e:PX)
 | range (e:PX)
 | zip (a b:PX)
 | callF (f:Nat) (args:List PX)
 | callC (c:Nat) (args:List PX)
 | callB (b:Bi) (args:List PX)
 | meth (e:PX) (m:Nat) (args:List PX)
 | isStr (e:PX)
 | any
inductive PS where
 | assign (x:Nat) (e:PX)
 | attr (o:PX) (a:Nat) (e:PX)
 | sub (o i e:PX)
 | unp (xs:List Nat) (e:PX)
 | expr (e:PX)
 | ifs (t:PX) (a b:List PS)
 | for (t:PT) (it:PX) (body:List PS)
 | whl (t:PX) (body:List PS)
 | ret (e:PX)
 | brk
 | any
inductive GS where
 | leaf (p:PS)
 | assign (x f:Nat) (args:List PX)
 | expr (f:Nat) (args:List PX)
 | ret (f:Nat) (args:List PX)
 | retC (c:Nat) (args:List PX)
 | barr (x:Nat) (e:PX)
 | barrC (o:PX) (a f:Nat) (args:List PX)
 | slc (o lo hi e:PX)
 | ifs (t:PX) (a b:List GS)
 | for (t:PT) (it:PX) (body:List GS)
 | raise (e:PX)
 | try_ (body h:List GS)
abbrev Env':=List (Nat×AV)
abbrev AH:=List AO
inductive Fl where | next | brk | ret (v:AV)
inductive LQ where | go (f:Fl) | exc
structure Fn where
 params:List Nat
 dflts:List AV
 body:List PS
structure GFn where
 params:List Nat
 dflts:List AV
 body:List GS
structure Tab where
 fn:Nat→Option Fn
 gfn:Nat→Option GFn
 init:Nat→Option Nat
 meth:Nat→Nat→Option Nat
 gv:Nat→Option AV
 isAttr:Nat→Bool
noncomputable def OK(f:AV→AV→Option Bool):List AV→List AV→Option Bool
 | [],[]=>some true
 | a::l,b::m=>(f a b).bind fun x=>(OK f l m).map (x&&·)
 | [],_::_=>some false
 | _::_,[]=>some false
noncomputable def dN:AV→Option Bool
 | .bool b=>some b
 | _=>none
noncomputable def EK:AV→Option (List Nat)
 | .str l=>some l
 | _=>none
noncomputable def FU:AV→Option Int
 | .int i=>some i
 | _=>none
noncomputable def GC:AV→Option (List UInt8)
 | .bytes l=>some l
 | _=>none
noncomputable def YV:AV→Option (List AV)
 | .tup l=>some l
 | _=>none
noncomputable def DH:AV→Option Nat
 | .ref i=>some i
 | _=>none
noncomputable def isNone:AV→Bool
 | .none=>true
 | _=>false
noncomputable def jZ:AO→Option (List AV)
 | .list l=>some l
 | _=>none
noncomputable def nM:AO→Option (List UInt8)
 | .barr l=>some l
 | _=>none
noncomputable def dO:AO→Option (Nat×Nat)
 | .inst c d=>some (c,d)
 | _=>none
noncomputable def y0:AO→Option (List (Nat×AV))
 | .ns fs=>some fs
 | _=>none
noncomputable def one{α:Type}:List α→Option α
 | [a]=>some a
 | _=>none
noncomputable def CD{α β:Type}(x:Option (α×AH))(f:α→AH→Option β):Option β:=match x with
 | some (v,H)=>f v H
 | none=>none
noncomputable def CJ{α:Type}(b:Bool)(x:Option α):Option α:=match b with
 | true=>x
 | false=>none
noncomputable def dP{α:Type}(a b:AV)(f:Int→Int→Option α):Option α:=(FU a).bind fun x=>(FU b).bind fun y=>f x y
theorem AU{α:Type}{a:α}{P:Prop}(h:(none:Option α)=some a):P:=nomatch h
theorem BZ{P:Prop}(h:false=true):P:=nomatch h
theorem WI{v:AV}{x:Bool}(e:dN v=some x):v=.bool x:=by
 induction v using AV.casesOn with
 | bool l=>exact congrArg AV.bool (Option.some.inj e)
 | _=>exact AU e
theorem B6{v:AV}{x:List Nat}(e:EK v=some x):v=.str x:=by
 induction v using AV.casesOn with
 | str l=>exact congrArg AV.str (Option.some.inj e)
 | _=>exact AU e
theorem BX{v:AV}{x:Int}(e:FU v=some x):v=.int x:=by
 induction v using AV.casesOn with
 | int l=>exact congrArg AV.int (Option.some.inj e)
 | _=>exact AU e
theorem D8{v:AV}{x:List UInt8}(e:GC v=some x):v=.bytes x:=by
 induction v using AV.casesOn with
 | bytes l=>exact congrArg AV.bytes (Option.some.inj e)
 | _=>exact AU e
theorem I8{v:AV}{x:List AV}(e:YV v=some x):v=.tup x:=by
 induction v using AV.casesOn with
 | tup l=>exact congrArg AV.tup (Option.some.inj e)
 | _=>exact AU e
theorem B7{v:AV}{x:Nat}(e:DH v=some x):v=.ref x:=by
 induction v using AV.casesOn with
 | ref l=>exact congrArg AV.ref (Option.some.inj e)
 | _=>exact AU e
theorem IY{v:AV}(e:isNone v=true):v=.none:=by
 induction v using AV.casesOn with
 | none=>rfl
 | _=>exact BZ e
theorem MV{o:AO}{x:List AV}(e:jZ o=some x):o=.list x:=by
 induction o using AO.casesOn with
 | list l=>exact congrArg AO.list (Option.some.inj e)
 | _=>exact AU e
theorem aW{o:AO}{x:List UInt8}(e:nM o=some x):o=.barr x:=by
 induction o using AO.casesOn with
 | barr l=>exact congrArg AO.barr (Option.some.inj e)
 | _=>exact AU e
theorem P6{o:AO}{x:Nat×Nat}(e:dO o=some x):o=.inst x.1 x.2:=by
 induction o using AO.casesOn with
 | inst c d=>exact congrArg (fun x:Nat×Nat=>AO.inst x.1 x.2) (Option.some.inj e)
 | _=>exact AU e
theorem YW{o:AO}{x:List (Nat×AV)}(e:y0 o=some x):o=.ns x:=by
 induction o using AO.casesOn with
 | ns l=>exact congrArg AO.ns (Option.some.inj e)
 | _=>exact AU e
theorem E5{α:Type}{l:List α}{x:α}(e:one l=some x):l=[x]:=by
 induction l using List.casesOn with
 | nil=>exact AU e
 | cons a l =>
  induction l using List.casesOn with
  | nil=>exact congrArg (fun y=>[y]) (Option.some.inj e)
  | cons b l=>exact AU e
theorem A5{α β:Type}{x:Option (α×AH)}{f:α→AH→Option β}{y:β}{P:Prop}(e:CD x f=some y)(u:∀v H,x=some (v,H)→f v H=some y→P):P:=by
 induction x using Option.casesOn with
 | none=>exact AU e
 | some p=>exact u p.1 p.2 rfl e
theorem xO{α β:Type}{x:Option (α×AH)}{f:α→AH→Option β}{y:β}(e:CD x f=some y):∃v H,x=some (v,H)∧f v H=some y:=A5 e fun v H h e=>⟨v,H,h,e⟩
theorem DI{α:Type}{b:Bool}{x:Option α}{y:α}(e:CJ b x=some y):b=true∧x=some y:=by
 induction b using Bool.casesOn with
 | false=>exact AU e
 | true=>exact⟨rfl,e⟩
theorem B3{a b:Bool}(h:(a&&b)=true):a=true∧b=true:=by
 induction a using Bool.casesOn with
 | false=>exact BZ h
 | true=>exact⟨rfl,h⟩
theorem AA{a b:Bool}(h:(a&&b)=true):a=true:=(B3 h).1
theorem A6{a b:Bool}(h:(a&&b)=true):b=true:=(B3 h).2
theorem A3{α β:Type}{x:Option α}{f:α→Option β}{y:β}{P:Prop}(e:x.bind f=some y)(u:∀v,x=some v→f v=some y→P):P:=by
 induction x using Option.casesOn with
 | none=>exact AU e
 | some v=>exact u v rfl e
theorem sR{α β:Type}{x:Option α}{f:α→Option β}{y:β}(e:x.bind f=some y):∃v,x=some v∧f v=some y:=A3 e fun v h e=>⟨v,h,e⟩
theorem A8{α β:Type}{x:Option α}{f:α→β}{y:β}{P:Prop}(e:x.map f=some y)(u:∀v,x=some v→f v=y→P):P:=by
 induction x using Option.casesOn with
 | none=>exact AU e
 | some v=>exact u v rfl (Option.some.inj e)
theorem xP{α β:Type}{x:Option α}{f:α→β}{y:β}(e:x.map f=some y):∃v,x=some v∧f v=y:=A8 e fun v h e=>⟨v,h,e⟩
theorem H7{α:Type}{a b:AV}{f:Int→Int→Option α}{z:α}{P:Prop}(e:dP a b f=some z)(u:∀x y,a=.int x→b=.int y→f x y=some z→P):P :=
 A3 e fun x h1 e=>A3 e fun y h2 e=>u x y (BX h1) (BX h2) e
theorem xQ{α:Type}{a b:AV}{f:Int→Int→Option α}{z:α}(e:dP a b f=some z):∃x y,a=.int x∧b=.int y∧f x y=some z:=H7 e fun x y h1 h2 e=>⟨x,y,h1,h2,e⟩
theorem YX{α β:Type}{a c:α}{b d:β}(h:some (a,b)=some (c,d)):a=c∧b=d:=⟨congrArg Prod.fst (Option.some.inj h),congrArg Prod.snd (Option.some.inj h)⟩
theorem TA{α β γ:Type}{a c:α}{b d:β}{x y:γ}(h:some (a,b,x)=some (c,d,y)):a=c∧b=d∧x=y:=⟨congrArg Prod.fst (Option.some.inj h),congrArg (·.2.1) (Option.some.inj h),congrArg (·.2.2) (Option.some.inj h)⟩
theorem two{α β:Type}{a c:α}{b d:β}(h:(a,b)=(c,d)):a=c∧b=d:=⟨congrArg Prod.fst h,congrArg Prod.snd h⟩
theorem A7{α:Type}{b:Bool}{x:Option α}{y:α}{P:Prop}(e:CJ b x=some y)(u:b=true→x=some y→P):P:=(DI e).elim u
@[elab_as_elim] theorem FO{α β:Type}{x:Option α}{f:α→β}{y:β}{P:β→Prop}(e:x.map f=some y)(u:∀v,x=some v→P (f v)):P y:=A8 e fun v h e=>e▸u v h
@[elab_as_elim] theorem tk2{α β:Type}{a v:α}{b w:β}{P:α→β→Prop}(e:some (a,b)=some (v,w))(h:P a b):P v w:=(YX e).1▸(YX e).2▸h
@[elab_as_elim] theorem tk3{α β γ:Type}{a v:α}{b w:β}{x y:γ}{P:α→β→γ→Prop}(e:some (a,b,x)=some (v,w,y))(h:P a b x):P v w y:=(TA e).1▸(TA e).2.1▸(TA e).2.2▸h
theorem GQ{P:Prop}(b:Bool)(t:b=true→P)(f:b=false→P):P:=by
 induction b using Bool.casesOn with
 | false=>exact f rfl
 | true=>exact t rfl
theorem YY{P:Prop}(b:Bool)(f:b=false→P)(t:b=true→P):P:=GQ b t f
theorem WJ{α:Type}{P:Prop}(x:Option α)(n:x=none→P)(s:∀a,x=some a→P):P:=by
 induction x using Option.casesOn with
 | none=>exact n rfl
 | some a=>exact s a rfl
theorem sS{α:Type}{P:Prop}(x:Option α)(s:∀a,x=some a→P)(n:x=none→P):P:=WJ x n s
theorem BB{A B C:Prop}{P:Prop}(h:A∧B∧C)(u:A→B→C→P):P:=h.elim fun a t=>t.elim (u a)
theorem aX{A B C D:Prop}{P:Prop}(h:A∧B∧C∧D)(u:A→B→C→D→P):P:=h.elim fun a t=>BB t (u a)
theorem TB{A B C D E:Prop}{P:Prop}(h:A∧B∧C∧D∧E)(u:A→B→C→D→E→P):P:=h.elim fun a t=>aX t (u a)
theorem y7{A B C D E F:Prop}{P:Prop}(h:A∧B∧C∧D∧E∧F)(u:A→B→C→D→E→F→P):P:=h.elim fun a t=>TB t (u a)
theorem AI{α:Type}{A:α→Prop}{P:Prop}(h:∃x,A x)(u:∀x,A x→P):P:=h.elim fun x t=>u x t
theorem AB{α:Type}{A B:α→Prop}{P:Prop}(h:∃x,A x∧B x)(u:∀x,A x→B x→P):P:=h.elim fun x t=>t.elim (u x)
theorem H8{α:Type}{A B C:α→Prop}{P:Prop}(h:∃x,A x∧B x∧C x)(u:∀x,A x→B x→C x→P):P:=h.elim fun x t=>BB t (u x)
theorem LR{α:Type}{A B C D:α→Prop}{P:Prop}(h:∃x,A x∧B x∧C x∧D x)(u:∀x,A x→B x→C x→D x→P):P:=h.elim fun x t=>aX t (u x)
theorem k7{α:Type}{A B C D E:α→Prop}{P:Prop}(h:∃x,A x∧B x∧C x∧D x∧E x)(u:∀x,A x→B x→C x→D x→E x→P):P:=h.elim fun x t=>TB t (u x)
theorem yA{α:Type}{A B C D E F:α→Prop}{P:Prop}(h:∃x,A x∧B x∧C x∧D x∧E x∧F x)(u:∀x,A x→B x→C x→D x→E x→F x→P):P:=h.elim fun x t=>y7 t (u x)
theorem k8{α β:Type}{A:α→β→Prop}{P:Prop}(h:∃x y,A x y)(u:∀x y,A x y→P):P:=h.elim fun x t=>AI t (u x)
theorem ER{α β:Type}{A B:α→β→Prop}{P:Prop}(h:∃x y,A x y∧B x y)(u:∀x y,A x y→B x y→P):P:=h.elim fun x t=>AB t (u x)
theorem BV{α β:Type}{A B C:α→β→Prop}{P:Prop}(h:∃x y,A x y∧B x y∧C x y)(u:∀x y,A x y→B x y→C x y→P):P:=h.elim fun x t=>H8 t (u x)
theorem yB{α β:Type}{A B C D:α→β→Prop}{P:Prop}(h:∃x y,A x y∧B x y∧C x y∧D x y)(u:∀x y,A x y→B x y→C x y→D x y→P):P:=h.elim fun x t=>LR t (u x)
theorem p8{α β:Type}{A B C D E:α→β→Prop}{P:Prop}(h:∃x y,A x y∧B x y∧C x y∧D x y∧E x y)(u:∀x y,A x y→B x y→C x y→D x y→E x y→P):P:=h.elim fun x t=>k7 t (u x)
theorem sU{α β:Type}{A B C D E F:α→β→Prop}{P:Prop}(h:∃x y,A x y∧B x y∧C x y∧D x y∧E x y∧F x y)(u:∀x y,A x y→B x y→C x y→D x y→E x y→F x y→P):P:=h.elim fun x t=>yA t (u x)
theorem dQ{α β γ:Type}{A:α→β→γ→Prop}{P:Prop}(h:∃x y z,A x y z)(u:∀x y z,A x y z→P):P:=h.elim fun x t=>k8 t (u x)
theorem ES{α β γ:Type}{A B:α→β→γ→Prop}{P:Prop}(h:∃x y z,A x y z∧B x y z)(u:∀x y z,A x y z→B x y z→P):P:=h.elim fun x t=>ER t (u x)
theorem IK{α β γ:Type}{A B C:α→β→γ→Prop}{P:Prop}(h:∃x y z,A x y z∧B x y z∧C x y z)(u:∀x y z,A x y z→B x y z→C x y z→P):P:=h.elim fun x t=>BV t (u x)
theorem FG{α β γ:Type}{A B C D:α→β→γ→Prop}{P:Prop}(h:∃x y z,A x y z∧B x y z∧C x y z∧D x y z)(u:∀x y z,A x y z→B x y z→C x y z→D x y z→P):P:=h.elim fun x t=>yB t (u x)
theorem sV{α β γ:Type}{A B C D E:α→β→γ→Prop}{P:Prop}(h:∃x y z,A x y z∧B x y z∧C x y z∧D x y z∧E x y z)(u:∀x y z,A x y z→B x y z→C x y z→D x y z→E x y z→P):P:=h.elim fun x t=>p8 t (u x)
theorem aY{α β γ:Type}{A B C D E F:α→β→γ→Prop}{P:Prop}(h:∃x y z,A x y z∧B x y z∧C x y z∧D x y z∧E x y z∧F x y z)(u:∀x y z,A x y z→B x y z→C x y z→D x y z→E x y z→F x y z→P):P:=h.elim fun x t=>sU t (u x)
theorem A_o{α β γ δ:Type}{A:α→β→γ→δ→Prop}{P:Prop}(h:∃x y z w,A x y z w)(u:∀x y z w,A x y z w→P):P:=h.elim fun x t=>dQ t (u x)
theorem sW{α β γ δ:Type}{A B:α→β→γ→δ→Prop}{P:Prop}(h:∃x y z w,A x y z w∧B x y z w)(u:∀x y z w,A x y z w→B x y z w→P):P:=h.elim fun x t=>ES t (u x)
theorem sX{α β γ δ:Type}{A B C:α→β→γ→δ→Prop}{P:Prop}(h:∃x y z w,A x y z w∧B x y z w∧C x y z w)(u:∀x y z w,A x y z w→B x y z w→C x y z w→P):P:=h.elim fun x t=>IK t (u x)
theorem p9{α β γ δ:Type}{A B C D:α→β→γ→δ→Prop}{P:Prop}(h:∃x y z w,A x y z w∧B x y z w∧C x y z w∧D x y z w)(u:∀x y z w,A x y z w→B x y z w→C x y z w→D x y z w→P):P:=h.elim fun x t=>FG t (u x)
theorem sY{α β γ δ:Type}{A B C D E:α→β→γ→δ→Prop}{P:Prop}(h:∃x y z w,A x y z w∧B x y z w∧C x y z w∧D x y z w∧E x y z w)(u:∀x y z w,A x y z w→B x y z w→C x y z w→D x y z w→E x y z w→P):P:=h.elim fun x t=>sV t (u x)
theorem A_p{α β γ δ:Type}{A B C D E F:α→β→γ→δ→Prop}{P:Prop}(h:∃x y z w,A x y z w∧B x y z w∧C x y z w∧D x y z w∧E x y z w∧F x y z w)(u:∀x y z w,A x y z w→B x y z w→C x y z w→D x y z w→E x y z w→F x y z w→P):P:=h.elim fun x t=>aY t (u x)
noncomputable def D9(H:AH)(o:Nat):Option (List AV):=(H[o]?).bind jZ
noncomputable def dR(H:AH)(o:Nat):Option (List UInt8):=(H[o]?).bind nM
theorem BD{H:AH}{o:Nat}{l:List AV}(e:D9 H o=some l):H[o]?=some (.list l):=A3 e fun _ h e=>h.trans (congrArg some (MV e))
theorem WK{H:AH}{o:Nat}{l:List UInt8}(e:dR H o=some l):H[o]?=some (.barr l):=A3 e fun _ h e=>h.trans (congrArg some (aW e))
noncomputable def T7:Nat→AV→AV→Option Bool
 | 0,_,_=>none
 | n+1,a,b=>match a with
  | .none=>CJ (isNone b) (some true)
  | .bool x=>(dN b).map (x==·)
  | .int x=>(FU b).map (x==·)
  | .str x=>(EK b).map (x==·)
  | .bytes x=>(GC b).map (x==·)
  | .tup x=>(YV b).bind (OK (T7 n) x)
  | _=>none
noncomputable def D0:List AV→Option (List (List Nat))
 | []=>some []
 | v::l=>(EK v).bind fun x=>(D0 l).map (x::·)
theorem GD{l:List AV}{xs:List (List Nat)}(e:D0 l=some xs):l=xs.map .str:=by
 induction l generalizing xs with
 | nil=>exact Option.some.inj e▸rfl
 | cons v l ih=>exact A3 e fun x h e=>FO e fun y h2=>congr (congrArg List.cons (B6 h)) (ih h2)
noncomputable def MW:List AV→Option (List Int)
 | []=>some []
 | v::l=>(FU v).bind fun x=>(MW l).map (x::·)
theorem WL{l:List AV}{xs:List Int}(e:MW l=some xs):l=xs.map .int:=by
 induction l generalizing xs with
 | nil=>exact Option.some.inj e▸rfl
 | cons v l ih=>exact A3 e fun x h e=>FO e fun y h2=>congr (congrArg List.cons (BX h)) (ih h2)
noncomputable def sZ(H:AH)(a b:AV):Option Bool:=match a with
 | .ref i=>(DH b).bind fun j=>(D9 H i).bind fun x=>(D9 H j).bind fun y=>match x.length==y.length with
  | true=>OK (T7 6) x y
  | false=>some false
 | a=>T7 8 a b
noncomputable def CF(n:Nat):Bool:=decide (n≤250)
noncomputable def DA(i:Int):Bool:=decide (i.natAbs≤1000000)
noncomputable def I9{α:Type}(l:List α)(n:Nat):List α:=(List.replicate n l).flatten
noncomputable def yC(H:AH)(a b:AV):Option (AV×AH):=match a with
 | .int x=>(FU b).map fun y=>(.int (x+y),H)
 | .str x=>(EK b).bind fun y=>CJ (CF (x.length+y.length)) (some (.str (x++y),H))
 | .bytes x=>(GC b).bind fun y=>CJ (CF (x.length+y.length)) (some (.bytes (x++y),H))
 | .tup x=>(YV b).bind fun y=>CJ (CF (x.length+y.length)) (some (.tup (x++y),H))
 | .ref i=>(DH b).bind fun j=>(D9 H i).bind fun x=>(D9 H j).bind fun y=>CJ (CF (x.length+y.length)) (some (.ref H.length,H++[.list (x++y)]))
 | _=>none
noncomputable def yD(H:AH)(a:AV)(y:Int):Option (AV×AH):=match a with
 | .int x=>CJ (DA x&&DA y) (some (.int (x*y),H))
 | .bytes x=>CJ (decide (0<x.length)&&(decide (x.length≤16)&&DA y)) (some (.bytes (I9 x y.toNat),H))
 | .ref i=>(D9 H i).bind fun x=>CJ (CF (x.length*y.toNat)&&DA y) (some (.ref H.length,H++[.list (I9 x y.toNat)]))
 | _=>none
noncomputable def dS(H:AH)(o:sE)(a b:AV):Option (AV×AH):=match o with
 | .add=>yC H a b
 | .sub=>dP a b fun x y=>some (.int (x-y),H)
 | .mul=>(FU b).bind (yD H a)
 | .fdiv=>dP a b fun x y=>CJ (DA y&&y != 0) (some (.int (Int.fdiv x y),H))
 | .mod=>dP a b fun x y=>CJ (y != 0) (some (.int (Int.fmod x y),H))
 | .pow=>dP a b fun x y=>CJ (decide (0≤y)&&(DA y&&DA x)) (some (.int (x ^ y.toNat),H))
noncomputable def GE(k:List Nat):List (List Nat×AV)→Option AV
 | []=>none
 | (x,v)::r=>if x==k then some v else GE k r
noncomputable def dT(k:Int):List (Int×AV)→Option AV
 | []=>none
 | (x,v)::r=>if x=k then some v else dT k r
noncomputable def KO(k:List Nat):List (List Nat×Option AV)→Option (Option AV)
 | []=>none
 | (x,v)::r=>if x==k then some v else KO k r
noncomputable def OL(k:List Nat)(v:Option AV):List (List Nat×Option AV)→List (List Nat×Option AV)
 | []=>[]
 | (x,w)::r=>if x==k then(x,v)::r else(x,w)::OL k v r
noncomputable def TC(k:List Nat):List (List Nat×Bool)→Option Bool
 | []=>none
 | (x,v)::r=>if x==k then some v else TC k r
noncomputable def TD(k:List Nat)(v:Bool):List (List Nat×Bool)→List (List Nat×Bool)
 | []=>[]
 | (x,w)::r=>if x==k then(x,v)::r else(x,w)::TD k v r
noncomputable def inO(a:List Nat):AO→Option Bool
 | .list l=>(D0 l).map (·.contains a)
 | .sdict _ es=>some (GE a es).isSome
 | .edict=>some false
 | .fmap es=>(KO a es).map (·.isSome)
 | .bag es=>TC a es
 | _=>none
noncomputable def pA(H:AH)(a b:AV):Option Bool:=(EK a).bind fun x=>match b with
 | .tup l=>(D0 l).map (·.contains x)
 | .ref i=>(H[i]?).bind (inO x)
 | _=>none
noncomputable def dU(a b:AV):Option Bool:=match b with
 | .ref j=>(DH a).map (·==j)
 | .none=>match a with
  | .none=>some true
  | .top=>none
  | _=>some false
 | _=>none
noncomputable def dV(H:AH)(o:Cm)(a b:AV):Option Bool:=match o with
 | .eq=>sZ H a b
 | .ne=>(sZ H a b).map (!·)
 | .lt=>dP a b fun x y=>some (decide (x<y))
 | .le=>dP a b fun x y=>some (decide (x≤y))
 | .gt=>dP a b fun x y=>some (decide (x>y))
 | .isin=>pA H a b
 | .notin=>(pA H a b).map (!·)
 | .is_=>dU a b
 | .isnot=>(dU a b).map (!·)
noncomputable def IN(n:Nat)(i:Int):Option Nat:=if 0≤i then(if i.toNat<n then some i.toNat else none) else(if 0≤i+n then some (i+n).toNat else none)
noncomputable def yE(i:Int):AO→Option AV
 | .list l=>CJ (CF l.length) ((IN l.length i).bind fun k=>l[k]?)
 | .idict es=>dT i es
 | _=>none
noncomputable def yF(k:List Nat):AO→Option AV
 | .sdict _ es=>GE k es
 | .fmap es=>(KO k es).bind id
 | _=>none
noncomputable def dW(H:AH)(a b:AV):Option AV:=match a with
 | .tup l=>(FU b).bind fun i=>CJ (CF l.length) ((IN l.length i).bind fun k=>l[k]?)
 | .str l=>(FU b).bind fun i=>CJ (CF l.length) ((IN l.length i).bind fun k=>(l[k]?).map fun c=>.str [c])
 | .ref o=>match b with
  | .int i=>(H[o]?).bind (yE i)
  | .str k=>(H[o]?).bind (yF k)
  | _=>none
 | _=>none
noncomputable def cut{α:Type}(l:List α)(lo hi:Option Int):Option (List α) :=
 let a:=lo.getD 0
 let b:=hi.getD l.length
 if 0≤a&&0≤b then some ((l.take b.toNat).drop a.toNat) else none
noncomputable def t0(H:AH)(lo hi:Option Int):AO→Option (AV×AH)
 | .list l=>CJ (CF l.length) ((cut l lo hi).map fun x=>(.ref H.length,H++[.list x]))
 | .barr l=>CJ (CF l.length) ((cut l lo hi).map fun x=>(.ref H.length,H++[.barr x]))
 | _=>none
noncomputable def TE(H:AH)(v:AV)(lo hi:Option Int):Option (AV×AH):=match v with
 | .str [x,_]=>CJ (lo==none&&hi==some 1) (some (.str [x],H))
 | .slist l=>CJ (CF l.length) ((cut l lo hi).map fun x=>(.ref H.length,H++[.list x]))
 | .ref o=>(H[o]?).bind (t0 H lo hi)
 | _=>none
noncomputable def nN(H:AH)(v:AV):Option (AV×AH):=(DH v).bind fun o=>(D9 H o).bind fun l=>CJ (CF l.length) (some (.ref H.length,H++[.list l.reverse]))
noncomputable def JQ(a:Nat):List (Nat×AV)→Option AV
 | []=>none
 | (x,v)::r=>if x==a then some v else JQ a r
noncomputable def setField(a:Nat)(v:AV):List (Nat×AV)→List (Nat×AV)
 | []=>[(a,v)]
 | (x,w)::r=>if x==a then(x,v)::r else(x,w)::setField a v r
noncomputable def WM:AV→Bool
 | .top=>false
 | _=>true
noncomputable def nsAt(H:AH)(v:AV):Option (Nat×List (Nat×AV)):=(DH v).bind fun i=>(H[i]?).bind fun ob=>(dO ob).bind fun c=>(H[c.2]?).bind fun od=>(y0 od).map fun fs=>(c.2,fs)
theorem WN{v:AV}(e:WM v=true):v≠.top:=fun h=>BZ ((congrArg WM h).symm.trans e)
theorem TF{H:AH}{v:AV}{x:Nat×List (Nat×AV)}(e:nsAt H v=some x):∃i k,v=.ref i∧H[i]?=some (.inst k x.1)∧H[x.1]?=some (.ns x.2) :=
 A3 e fun i h1 e=>A3 e fun ob h2 e=>A3 e fun p h3 e=>A3 e fun od h4 e=>FO e fun fs h5=>⟨i,p.1,B7 h1,h2.trans (congrArg some (P6 h3)),h4.trans (congrArg some (YW h5))⟩
noncomputable def dX(H:AH)(v:AV)(a:Nat):Option AV:=(nsAt H v).bind fun d=>(JQ a d.2).bind fun x=>CJ (WM x) (some x)
noncomputable def IA(H:AH)(v:AV)(a:Nat)(x:AV):Option AH:=(nsAt H v).bind fun d=>CJ (decide (d.2.length<60)) (some (H.set d.1 (.ns (setField a x d.2))))
noncomputable def OM(k:List Nat)(v:AV):List (List Nat×AV)→List (List Nat×AV)
 | []=>[(k,v)]
 | (x,w)::r=>if x==k then(x,v)::r else(x,w)::OM k v r
noncomputable def k9(k:Int)(v:AV):List (Int×AV)→List (Int×AV)
 | []=>[(k,v)]
 | (x,w)::r=>if x=k then(x,v)::r else(x,w)::k9 k v r
noncomputable def yG(H:AH)(o:Nat)(i:Int)(x:AV):AO→Option AH
 | .list l=>CJ (CF l.length&&(decide (0≤i)&&decide (i<l.length))) (some (H.set o (.list (l.set i.toNat x))))
 | .edict=>some (H.set o (.idict [(i,x)]))
 | .idict es=>CJ (CF es.length) (some (H.set o (.idict (k9 i x es))))
 | _=>none
noncomputable def yH(H:AH)(o:Nat)(k:List Nat)(x:AV):AO→Option AH
 | .sdict n es=>CJ (CF es.length) (some (H.set o (.sdict (n+1) (OM k x es))))
 | .edict=>some (H.set o (.sdict 0 [(k,x)]))
 | .fmap es=>CJ (CF es.length&&(KO k es).isSome) (some (H.set o (.fmap (OL k (some x) es))))
 | _=>none
noncomputable def TH(H:AH)(v i x:AV):Option AH:=(DH v).bind fun o=>(H[o]?).bind fun ob=>match i with
 | .int i=>yG H o i x ob
 | .str k=>yH H o k x ob
 | _=>none
noncomputable def MX(H:AH)(v:AV):Option (AV×AH):=(GC v).bind fun l=>CJ (CF l.length) (some (.ref H.length,H++[.barr l]))
noncomputable def TI(H:AH)(v lo hi x:AV):Option AH:=(DH v).bind fun o=>(GC x).bind fun y=>dP lo hi fun a b=>(dR H o).bind fun l =>
 CJ (decide (0≤a)&&(decide (a≤b)&&(decide (b≤l.length)&&(CF l.length&&y.length==(b-a).toNat)))) (some (H.set o (.barr (l.take a.toNat++y++l.drop b.toNat))))
noncomputable def dY(x:List Nat):List (List Nat)→List (List Nat)
 | []=>[x]
 | y::r=>if decide (y<x)||y==x then y::dY x r else x::y::r
noncomputable def Q8(l:List (List Nat)):List (List Nat):=l.foldr dY []
noncomputable def dZ(x:Int):List Int→List Int
 | []=>[x]
 | y::r=>if y<x||y==x then y::dZ x r else x::y::r
noncomputable def Q9(l:List Int):List Int:=l.foldr dZ []
noncomputable def YZ:List (List Nat)→Bool
 | []=>true
 | x::r=>r.all (fun y=>!decide (y<x))&&YZ r
noncomputable def Z0:List Int→Bool
 | []=>true
 | x::r=>r.all (fun y=>decide (x≤y))&&Z0 r
noncomputable def H9(l:List (List Nat)):Option (List (List Nat)):=CJ ((Q8 l).isPerm l&&YZ (Q8 l)&&decide (l.length<60)) (some (Q8 l))
noncomputable def QA(l:List Int):Option (List Int):=CJ ((Q9 l).isPerm l&&Z0 (Q9 l)&&decide (l.length<60)) (some (Q9 l))
noncomputable def pB(i:Int):Option UInt8:=CJ (decide (0≤i)&&decide (i<256)) (some (UInt8.ofNat i.toNat))
noncomputable def QB:List Int→Option (List UInt8)
 | []=>some []
 | x::l=>(pB x).bind fun u=>(QB l).map (u::·)
noncomputable def yI:AO→Option Nat
 | .list l=>some l.length
 | .barr l=>some l.length
 | _=>none
noncomputable def yJ(H:AH):AV→Option Nat
 | .tup l=>some l.length
 | .bytes l=>some l.length
 | .ref o=>(H[o]?).bind yI
 | _=>none
noncomputable def pC:AO→Option (List UInt8)
 | .list l=>CJ (CF l.length) ((MW l).bind QB)
 | .barr l=>CJ (CF l.length) (some l)
 | _=>none
noncomputable def pD(H:AH):AV→Option (List UInt8)
 | .bytes l=>CJ (CF l.length) (some l)
 | .ref o=>(H[o]?).bind pC
 | _=>none
noncomputable def t8(H:AH):AV→Option (List AV)
 | .tup l=>some l
 | .ref o=>D9 H o
 | _=>none
noncomputable def tA:AO→Option (List AV)
 | .list l=>(D0 l).bind fun x=>(H9 x).map fun y=>y.map .str
 | .sdict _ es=>(H9 (es.map (·.1))).map fun y=>y.map .str
 | .idict es=>(QA (es.map (·.1))).map fun y=>y.map .int
 | .edict=>some []
 | .fmap es=>(H9 ((pres es).map (·.1))).map fun y=>y.map .str
 | .bag es=>(H9 (DG es)).map fun y=>y.map .str
 | _=>none
noncomputable def tB(H:AH)(v:AV):Option Int:=(DH v).bind fun o=>(D9 H o).bind fun l=>(one l).bind FU
noncomputable def tC(H:AH)(b:Bi)(vs:List AV):Option (AV×AH):=match b with
 | .len=>(one vs).bind fun v=>(yJ H v).bind fun n=>CJ (CF n) (some (.int n,H))
 | .abs=>(one vs).bind fun v=>(FU v).map fun i=>(.int (i.natAbs:Int),H)
 | .max=>match vs with
  | [a,b]=>dP a b fun x y=>some (.int (if y>x then y else x),H)
  | l=>(one l).bind fun v=>(tB H v).map fun i=>(.int i,H)
 | .ord=>(one vs).bind fun v=>(EK v).bind fun l=>(one l).map fun(c:Nat)=>(.int (c:Int),H)
 | .bytes=>(one vs).bind fun v=>(pD H v).map fun y=>(.bytes y,H)
 | .list=>(one vs).bind fun v=>(t8 H v).bind fun l=>CJ (CF l.length) (some (.ref H.length,H++[.list l]))
 | .tuple=>(one vs).bind fun v=>(DH v).bind fun o=>(D9 H o).bind fun l=>CJ (CF l.length) (some (.tup l,H))
 | .sorted=>(one vs).bind fun v=>(DH v).bind fun o=>((H[o]?).bind tA).map fun l=>(.ref H.length,H++[.list l])
noncomputable def Z1(l:List Nat):Option (List UInt8) :=
 if l==[48,48] then some [48,48] else if l==[51,53] then some [51,53] else if l==[51,57] then some [51,57] else if l==[52,49] then some [52,49] else if l==[52,50] then some [52,50] else none
noncomputable def idxOf(l:List Nat)(k:Nat):Option Nat:=if l==[70,71,72] then(if k==70 then some 0 else if k==71 then some 1 else if k==72 then some 2 else none) else none
inductive Me where | append | clear | extend | pop | remove | get | encode | index | join
 deriving DecidableEq
noncomputable def kA(m:Nat):Option Me:=[Me.append,.clear,.extend,.pop,.remove,.get,.encode,.index,.join][m]?
inductive Kd where | list | dict | str | bytes
 deriving DecidableEq
noncomputable def kdO:AO→Option Kd
 | .list _=>some .list
 | .sdict _ _=>some .dict
 | .edict=>some .dict
 | .fmap _=>some .dict
 | .bag _=>some .list
 | _=>none
noncomputable def kd(H:AH):AV→Option Kd
 | .ref i=>(H[i]?).bind kdO
 | .str _=>some .str
 | .bytes _=>some .bytes
 | _=>none
noncomputable def WO:Kd→Me→Option String
 | .list,.append=>some "list.append"
 | .list,.clear=>some "list.clear"
 | .list,.extend=>some "list.extend"
 | .list,.pop=>some "list.pop"
 | .list,.remove=>some "list.remove"
 | .dict,.clear=>some "dict.clear"
 | .dict,.get=>some "dict.get"
 | .dict,.pop=>some "dict.pop"
 | .str,.encode=>some "str.encode"
 | .str,.index=>some "str.index"
 | .str,.join=>some "str.join"
 | .bytes,.join=>some "bytes.join"
 | _,_=>none
noncomputable def kB(H:AH)(o:Nat)(x:AV):AO→Option (AV×AH)
 | .list l=>CJ (CF l.length) (some (.none,H.set o (.list (l++[x]))))
 | .bag es=>CJ (CF es.length) ((EK x).bind fun k=>CJ (TC k es==some false) (some (.none,H.set o (.bag (TD k true es)))))
 | _=>none
noncomputable def pE(H:AH)(o:Nat):AO→Option (AV×AH)
 | .list l=>CJ (CF l.length) (some (.none,H.set o (.list [])))
 | .edict=>some (.none,H.set o .edict)
 | _=>none
noncomputable def kC(H:AH)(o:Nat)(x:AV)(ob:AO):Option (AV×AH):=(jZ ob).bind fun l=>(DH x).bind fun j=>(D9 H j).bind fun k=>CJ (CF (l.length+k.length)) (some (.none,H.set o (.list (l++k))))
noncomputable def yK(H:AH)(o:Nat)(ob:AO):Option (AV×AH):=(jZ ob).bind fun l=>CJ (CF l.length) (l[l.length-1]?.map fun x=>(x,H.set o (.list (l.eraseIdx (l.length-1)))))
noncomputable def tD(H:AH)(o:Nat)(k:List Nat):AO→Option (AV×AH)
 | .sdict n es=>CJ (CF es.length) ((GE k es).map fun v=>(v,H.set o (.sdict (n+1) (es.filter fun e=>!(e.1==k)))))
 | .fmap es=>CJ (CF es.length) (((KO k es).bind id).map fun v=>(v,H.set o (.fmap (OL k none es))))
 | _=>none
noncomputable def kD(H:AH)(o:Nat)(x:List Nat):AO→Option (AV×AH)
 | .list l=>CJ (CF l.length) ((D0 l).bind fun xs=>(xs.findIdx? (·==x)).map fun k=>(.none,H.set o (.list (l.eraseIdx k))))
 | .bag es=>CJ (CF es.length) (CJ (TC x es==some true) (some (.none,H.set o (.bag (TD x false es)))))
 | _=>none
noncomputable def sdO:AO→Option (List (List Nat×AV))
 | .sdict _ es=>some es
 | _=>none
noncomputable def yL(H:AH)(k d:AV)(ob:AO):Option (AV×AH):=(sdO ob).bind fun es=>(EK k).map fun k=>((GE k es).getD d,H)
noncomputable def eA(H:AH)(o:Nat)(ob:AO)(m:Me)(vs:List AV):Option (AV×AH):=match m with
 | .append=>(one vs).bind fun x=>kB H o x ob
 | .clear=>CJ vs.isEmpty (pE H o ob)
 | .extend=>(one vs).bind fun x=>kC H o x ob
 | .pop=>match vs with
  | []=>yK H o ob
  | l=>(one l).bind fun x=>(EK x).bind fun k=>tD H o k ob
 | .remove=>(one vs).bind fun x=>(EK x).bind fun k=>kD H o k ob
 | .get=>match vs with
  | [k,d]=>yL H k d ob
  | _=>none
 | _=>none
noncomputable def tE(H:AH)(k:List AV):Option (AV×AH):=(D0 k).bind fun ks=>match ks with
 | [a,b,d]=>CJ (CF (a.length+b.length+d.length)) (some (.str (a++b++d),H))
 | _=>none
noncomputable def tF(H:AH)(k:List AV):Option (AV×AH):=match k with
 | [a,b]=>(GC a).bind fun x=>(GC b).bind fun y=>CJ (x==[32,32]&&y==[32,32]) (some (.bytes [32,32,32,32],H))
 | _=>none
noncomputable def nO(H:AH)(t:List Nat)(m:Me)(v:AV):Option (AV×AH):=match m with
 | .encode=>(EK v).bind fun x=>CJ (x==[97,115,99,105,105]) ((Z1 t).map fun b=>(.bytes b,H))
 | .index=>(EK v).bind fun x=>(one x).bind fun c=>(idxOf t c).map fun(k:Nat)=>(.int (k:Int),H)
 | .join=>CJ t.isEmpty ((DH v).bind fun o=>(D9 H o).bind (tE H))
 | _=>none
noncomputable def nP(H:AH)(t:List UInt8)(m:Me)(v:AV):Option (AV×AH):=match m with
 | .join=>CJ t.isEmpty ((DH v).bind fun o=>(D9 H o).bind (tF H))
 | _=>none
noncomputable def tG(H:AH)(v:AV)(m:Me)(vs:List AV):Option (AV×AH):=match v with
 | .ref o=>(H[o]?).bind fun ob=>eA H o ob m vs
 | .str t=>(one vs).bind (nO H t m)
 | .bytes t=>(one vs).bind (nP H t m)
 | _=>none
noncomputable def P7:AV→Option Bool
 | .bool b=>some b
 | .str l=>if CF l.length then some (!l.isEmpty) else none
 | .none=>some false
 | .int i=>some (decide (i≠0))
 | _=>none
inductive DV where
 | tup (l:List AV)
 | str (l:List Nat)
 | enum (l:List Nat)
 | range (n:Nat)
 | lst (o:Nat)
 | dct (o n:Nat)
 | nil
noncomputable def tH(o:Nat):AO→Option DV
 | .list _=>some (.lst o)
 | .sdict n _=>some (.dct o n)
 | _=>none
noncomputable def TJ(H:AH):AV→Option DV
 | .tup l=>some (.tup l)
 | .str l=>some (.str l)
 | .ref o=>(H[o]?).bind (tH o)
 | _=>none
noncomputable def sdN(n:Nat):AO→Option (List (List Nat×AV))
 | .sdict m es=>CJ (m==n) (some es)
 | _=>none
noncomputable def HA(H:AH)(k:Nat):DV→Option (Option AV)
 | .tup l=>some l[k]?
 | .str l=>some (l[k]?.map fun c=>.str [c])
 | .enum l=>some (l[k]?.map fun c=>.tup [.int k,.str [c]])
 | .range n=>some (if k<n then some (.int k) else none)
 | .lst o=>(D9 H o).map fun l=>l[k]?
 | .dct o n=>((H[o]?).bind (sdN n)).map fun es=>es[k]?.map fun e=>.str e.1
 | .nil=>some none
noncomputable def Z2:AV→Option (AV×AV)
 | .tup [a,b]=>some (a,b)
 | _=>none
noncomputable def IO(t:PT)(v:AV)(σ:Env'):Option Env':=match t with
 | .one x=>some ((x,v)::σ)
 | .two x y=>(Z2 v).map fun p=>(y,p.2)::(x,p.1)::σ
noncomputable def CQ(params:List Nat)(dflts:List AV)(args:List AV):Option Env' :=
 if args.length≤params.length&&params.length-args.length≤dflts.length then
  some (params.zip (args++dflts.drop (dflts.length-(params.length-args.length)))) else none
noncomputable def AG(x:Nat):Env'→Option AV
 | []=>none
 | (y,v)::r=>if y==x then some v else AG x r
structure Ev where
 e:PX→Env'→AH→Option (AV×AH)
 b:PX→Env'→AH→Option (Bool×AH)
 es:List PX→Env'→AH→Option (List AV×AH)
 it:PX→Env'→AH→Option (DV×AH)
 comp:PX→PT→Option PX→DV→Nat→Env'→AH→Option (List AV×AH)
 s:PS→Env'→AH→Option (Fl×Env'×AH)
 ss:List PS→Env'→AH→Option (Fl×Env'×AH)
 loop:PT→List PS→DV→Nat→Env'→AH→Option (Fl×Env'×AH)
 call:Nat→List AV→AH→Option (AV×AH)
section
variable(T:Tab)(V:Ev)
noncomputable def eB(p:Option PX)(σ:Env')(H:AH):Option (Option Int×AH):=match p with
 | none=>some (none,H)
 | some p=>CD (V.e p σ H) fun v H=>(FU v).map fun i=>(some i,H)
noncomputable def WP(H:AH)(v:AV):Option Nat:=(DH v).bind fun i=>(H[i]?).bind fun ob=>(dO ob).bind fun c=>(H[c.2]?).bind fun od=>(y0 od).map fun _=>c.1
noncomputable def QC:PX→Option (List Nat)
 | .const v=>EK v
 | _=>none
noncomputable def IZ:List (PX×PX)→Option (List (List Nat×List Nat))
 | []=>some []
 | e::r=>(QC e.1).bind fun a=>(QC e.2).bind fun b=>(IZ r).map fun l=>(a,b)::l
noncomputable def nQ:PX→Option Nat
 | .var x=>some x
 | _=>none
theorem J0{p:PX}{l:List Nat}(e:QC p=some l):p=.const (.str l):=by
 induction p using PX.casesOn with
 | const v=>exact congrArg PX.const (B6 e)
 | _=>exact AU e
theorem aZ{p:PX}{x:Nat}(e:nQ p=some x):p=.var x:=by
 induction p using PX.casesOn with
 | var y=>exact congrArg PX.var (Option.some.inj e)
 | _=>exact AU e
noncomputable def lit:AV→Bool
 | .str _=>true
 | .int _=>true
 | _=>false
noncomputable def eC(p:PX)(σ:Env'):Option AV:=match p with
 | .const v=>CJ (lit v) (some v)
 | .bin o a b=>CJ (decide (o=.add)) ((QC a).bind fun l=>(nQ b).bind fun x=>(AG x σ).bind fun v=>(EK v).bind fun m=>CJ (CF (l.length+m.length)) (some (.str (l++m))))
 | _=>none
noncomputable def nR(a b:PX)(σ:Env'):Option (AV×AV):=(eC a σ).bind fun x=>(eC b σ).map fun y=>(x,y)
noncomputable def pI(o:Option Nat)(m:Nat)(args:List PX)(v:AV)(σ:Env')(H:AH):Option (AV×AH):=match o with
 | some c=>(T.meth c m).bind fun f=>CD (V.es args σ H) fun vs H=>V.call f (v::vs) H
 | none=>(kA m).bind fun me=>CD (V.es args σ H) fun vs H'=>(kd H v).bind fun kk=>CJ (decide (kd H' v=some kk)&&(WO kk me).isSome) (tG H' v me vs)
noncomputable def pJ:AV→Option Bool
 | .str _=>some true
 | .tup _=>some false
 | _=>none
noncomputable def CN(p:PX)(σ:Env')(H:AH):Option (AV×AH):=match p with
 | .const v=>some (v,H)
 | .neg n=>some (.int (-(n:Int)),H)
 | .var x=>(AG x σ).map fun v=>(v,H)
 | .glob x=>(T.gv x).map fun v=>(v,H)
 | .attr e a=>CD (V.e e σ H) fun v H=>CJ (T.isAttr a) ((dX H v a).map fun x=>(x,H))
 | .bin o l r=>CD (V.e l σ H) fun a H=>CD (V.e r σ H) fun b H=>dS H o a b
 | .cmp o l r=>CD (V.e l σ H) fun a H=>CD (V.e r σ H) fun b H=>(dV H o a b).map fun x=>(.bool x,H)
 | .and2 l r=>CD (V.e l σ H) fun a H=>(P7 a).bind fun x=>cond x (V.e r σ H) (some (a,H))
 | .or2 l r=>CD (V.e l σ H) fun a H=>(P7 a).bind fun x=>cond x (some (a,H)) (V.e r σ H)
 | .not e=>CD (V.e e σ H) fun v H=>(P7 v).map fun x=>(.bool (!x),H)
 | .ite t a b=>CD (V.b t σ H) fun x H=>match nR a b σ with
  | some v=>some (cond x v.1 v.2,H)
  | none=>cond x (V.e a σ H) (V.e b σ H)
 | .idx e i=>CD (V.e e σ H) fun a H=>CD (V.e i σ H) fun b H=>(dW H a b).map fun x=>(x,H)
 | .slc e lo hi=>CD (V.e e σ H) fun a H=>CD (eB V lo σ H) fun x H=>CD (eB V hi σ H) fun y H=>TE H a x y
 | .rev e=>CD (V.e e σ H) fun a H=>nN H a
 | .tup l=>CD (V.es l σ H) fun vs H=>CJ (CF vs.length) (some (.tup vs,H))
 | .list l=>CD (V.es l σ H) fun vs H=>CJ (CF vs.length) (some (.ref H.length,H++[.list vs]))
 | .dict []=>some (.ref H.length,H++[.edict])
 | .dict l=>(IZ l).bind fun es=>CJ (decide (l.length≤15)) (some (.ref H.length,H++[.sdict 0 (es.foldl (fun a e=>OM e.1 (.str e.2) a) [])]))
 | .comp elt t it cond=>CD (V.it it σ H) fun src H=>CD (V.comp elt t cond src 0 σ H) fun l H=>some (.ref H.length,H++[.list l])
 | .callF f args=>CD (V.es args σ H) fun vs H=>V.call f vs H
 | .callC c args=>CD (V.es args σ H) fun vs H=>(T.init c).bind fun f=>CD (V.call f (.ref (H.length+1)::vs) (H++[.ns [],.inst c H.length])) fun v H'=>CJ (isNone v) (some (.ref (H.length+1),H'))
 | .callB b args=>CD (V.es args σ H) fun vs H=>tC H b vs
 | .meth e m args=>CD (V.e e σ H) fun v H=>pI T V (WP H v) m args v σ H
 | .isStr e=>CD (V.e e σ H) fun v H=>(pJ v).map fun b=>(.bool b,H)
 | .enum _=>none
 | .range _=>none
 | .zip _ _=>none
 | .any=>none
noncomputable def WQ(p:PX)(σ:Env')(H:AH):Option (Bool×AH):=CD (V.e p σ H) fun v H=>(P7 v).map fun x=>(x,H)
noncomputable def eD(p:PX)(σ:Env')(H:AH):Option (Bool×AH):=match p with
 | .not e=>CD (V.b e σ H) fun x H=>some (!x,H)
 | .and2 l r=>CD (V.b l σ H) fun x H=>cond x (V.b r σ H) (some (false,H))
 | .or2 l r=>CD (V.b l σ H) fun x H=>cond x (some (true,H)) (V.b r σ H)
 | .cmp o l r=>CD (V.e l σ H) fun a H=>CD (V.e r σ H) fun b H=>(dV H o a b).map fun x=>(x,H)
 | .ite t a b=>CD (V.b t σ H) fun x H=>cond x (V.b a σ H) (V.b b σ H)
 | .any=>none
 | p=>WQ V p σ H
noncomputable def J1:List PX→Env'→AH→Option (List AV×AH)
 | [],_,H=>some ([],H)
 | p::r,σ,H=>CD (V.e p σ H) fun v H=>CD (J1 r σ H) fun l H=>some (v::l,H)
noncomputable def QD(p:PX)(σ:Env')(H:AH):Option (DV×AH):=CD (V.e p σ H) fun v H=>(TJ H v).map fun x=>(x,H)
noncomputable def KP(p:PX)(σ:Env')(H:AH):Option (DV×AH):=match p with
 | .enum e=>CD (V.e e σ H) fun v H=>(EK v).map fun l=>(.enum l,H)
 | .range e=>CD (V.e e σ H) fun v H=>(FU v).bind fun n=>CJ (decide (0≤n)&&DA n) (some (.range n.toNat,H))
 | .zip a b=>CD (V.e a σ H) fun v H=>(DH v).bind fun x=>CD (V.e b σ H) fun w H=>(DH w).bind fun y=>(D9 H x).bind fun l=>(D9 H y).bind fun m=>CJ (l.isEmpty&&m.isEmpty) (some (.nil,H))
 | p=>QD V p σ H
noncomputable def eE(cd:Option PX)(σ:Env')(H:AH):Option (Bool×AH):=match cd with
 | none=>some (true,H)
 | some c=>V.b c σ H
noncomputable def TK(elt:PX)(t:PT)(cd:Option PX)(src:DV)(k:Nat)(σ:Env')(H:AH):Option (List AV×AH):=(HA H k src).bind fun
 | none=>some ([],H)
 | some x=>(IO t x σ).bind fun σ'=>CD (eE V cd σ' H) fun x H=>cond x (CD (V.e elt σ' H) fun v H=>CD (V.comp elt t cd src (k+1) σ H) fun l H=>some (v::l,H)) (V.comp elt t cd src (k+1) σ H)
noncomputable def JR:List Nat→List AV→Env'→Option Env'
 | [],[],σ=>some σ
 | x::xs,v::vs,σ=>JR xs vs ((x,v)::σ)
 | _,_,_=>none
noncomputable def E8(p:PS)(σ:Env')(H:AH):Option (Fl×Env'×AH):=match p with
 | .assign x e=>CD (V.e e σ H) fun v H=>some (.next,(x,v)::σ,H)
 | .attr o a e=>CD (V.e e σ H) fun v H=>CD (V.e o σ H) fun w H=>CJ (T.isAttr a) ((IA H w a v).map fun H=>(.next,σ,H))
 | .sub o i e=>CD (V.e e σ H) fun v H=>CD (V.e o σ H) fun w H=>CD (V.e i σ H) fun k H=>(TH H w k v).map fun H=>(.next,σ,H)
 | .unp xs e=>CD (V.e e σ H) fun v H=>(YV v).bind fun vs=>(JR xs vs σ).map fun σ=>(.next,σ,H)
 | .expr e=>CD (V.e e σ H) fun _ H=>some (.next,σ,H)
 | .ifs t a b=>CD (V.b t σ H) fun x H=>cond x (V.ss a σ H) (V.ss b σ H)
 | .for t it body=>CD (V.it it σ H) fun src H=>V.loop t body src 0 σ H
 | .whl t body=>CD (V.b t σ H) fun x H=>cond x ((V.ss body σ H).bind fun y=>match y.1 with
  | .next=>V.s (.whl t body) y.2.1 y.2.2
  | .ret v=>some (.ret v,y.2)
  | .brk=>none) (some (.next,σ,H))
 | .ret e=>CD (V.e e σ H) fun v H=>some (.ret v,σ,H)
 | .brk=>some (.brk,σ,H)
 | .any=>none
noncomputable def KQ:List PS→Env'→AH→Option (Fl×Env'×AH)
 | [],σ,H=>some (.next,σ,H)
 | p::r,σ,H=>(V.s p σ H).bind fun y=>match y.1 with
  | .next=>KQ r y.2.1 y.2.2
  | _=>some y
noncomputable def MY(t:PT)(body:List PS)(src:DV)(k:Nat)(σ:Env')(H:AH):Option (Fl×Env'×AH):=(HA H k src).bind fun x=>match x with
 | none=>some (.next,σ,H)
 | some x=>(IO t x σ).bind fun σ=>(V.ss body σ H).bind fun y=>match y.1 with
  | .next=>V.loop t body src (k+1) y.2.1 y.2.2
  | .brk=>some (.next,y.2)
  | .ret _=>some y
noncomputable def JS(f:Nat)(args:List AV)(H:AH):Option (AV×AH):=(T.fn f).bind fun d=>(CQ d.params d.dflts args).bind fun σ=>(V.ss d.body σ H).bind fun y=>match y.1 with
 | .next=>some (.none,y.2.2)
 | .ret v=>some (v,y.2.2)
 | .brk=>none
end
noncomputable def Ev.none:Ev:=⟨fun _ _ _=>.none,fun _ _ _=>.none,fun _ _ _=>.none,fun _ _ _=>.none,fun _ _ _ _ _ _ _=>.none,fun _ _ _=>.none,fun _ _ _=>.none,fun _ _ _ _ _ _=>.none,fun _ _ _=>.none⟩
noncomputable def step(T:Tab)(V:Ev):Ev:=⟨CN T V,eD V,J1 V,KP V,TK V,E8 T V,KQ V,MY V,JS T V⟩
noncomputable def ev(T:Tab):Nat→Ev
 | 0=>Ev.none
 | n+1=>step T (ev T n)
structure Eg where
 s:GS→Env'→AH→Option (LQ×Env'×AH)
 ss:List GS→Env'→AH→Option (LQ×Env'×AH)
 loop:PT→List GS→DV→Nat→Env'→AH→Option (LQ×Env'×AH)
 call:Nat→List AV→AH→Option (Option AV×AH)
section
variable(T:Tab)(V:Ev)(W:Eg)
noncomputable def QE(args:List PX)(f:Nat)(σ:Env')(H:AH)(k:AV→AH→Option (LQ×Env'×AH)):Option (LQ×Env'×AH):=CD (V.es args σ H) fun vs H=>CD (W.call f vs H) fun o H=>match o with
 | some v=>k v H
 | none=>some (.exc,σ,H)
noncomputable def eF(p:GS)(σ:Env')(H:AH):Option (LQ×Env'×AH):=match p with
 | .leaf p=>(V.s p σ H).map fun y=>(.go y.1,y.2)
 | .assign x f args=>QE V W args f σ H fun v H=>some (.go .next,(x,v)::σ,H)
 | .expr f args=>QE V W args f σ H fun _ H=>some (.go .next,σ,H)
 | .ret f args=>QE V W args f σ H fun v H=>some (.go (.ret v),σ,H)
 | .retC c args=>CD (V.es args σ H) fun vs H=>(T.init c).bind fun f=>CD (W.call f (.ref (H.length+1)::vs) (H++[.ns [],.inst c H.length])) fun o H'=>o.bind fun v=>CJ (isNone v) (some (.go (.ret (.ref (H.length+1))),σ,H'))
 | .barr x e=>CD (V.e e σ H) fun v H=>CD (MX H v) fun w H=>some (.go .next,(x,w)::σ,H)
 | .barrC o a f args=>CD (V.es args σ H) fun vs H=>CD (W.call f vs H) fun u H=>u.bind fun v=>CD (MX H v) fun w H=>CD (V.e o σ H) fun z H=>CJ (T.isAttr a) ((IA H z a w).map fun H=>(.go .next,σ,H))
 | .slc o lo hi e=>CD (V.e e σ H) fun v H=>CD (V.e o σ H) fun w H=>CD (V.e lo σ H) fun a H=>CD (V.e hi σ H) fun b H=>(TI H w a b v).map fun H=>(.go .next,σ,H)
 | .ifs t a b=>CD (V.b t σ H) fun x H=>cond x (W.ss a σ H) (W.ss b σ H)
 | .for t it body=>CD (V.it it σ H) fun src H=>W.loop t body src 0 σ H
 | .raise e=>CD (V.e e σ H) fun v H=>(EK v).map fun _=>(.exc,σ,H)
 | .try_ _ _=>none
noncomputable def QF:List GS→Env'→AH→Option (LQ×Env'×AH)
 | [],σ,H=>some (.go .next,σ,H)
 | p::r,σ,H=>(W.s p σ H).bind fun y=>match y.1 with
  | .go .next=>QF r y.2.1 y.2.2
  | _=>some y
noncomputable def P8(t:PT)(body:List GS)(src:DV)(k:Nat)(σ:Env')(H:AH):Option (LQ×Env'×AH):=(HA H k src).bind fun x=>match x with
 | none=>some (.go .next,σ,H)
 | some x=>(IO t x σ).bind fun σ=>(W.ss body σ H).bind fun y=>match y.1 with
  | .go .next=>W.loop t body src (k+1) y.2.1 y.2.2
  | .go .brk=>some (.go .next,y.2)
  | _=>some y
noncomputable def P9(f:Nat)(args:List AV)(H:AH):Option (Option AV×AH):=(T.gfn f).bind fun d=>(CQ d.params d.dflts args).bind fun σ=>(W.ss d.body σ H).bind fun y=>match y.1 with
 | .go .next=>some (some .none,y.2.2)
 | .go (.ret v)=>some (some v,y.2.2)
 | .go .brk=>none
 | .exc=>some (none,y.2.2)
end
noncomputable def Eg.none:Eg:=⟨fun _ _ _=>.none,fun _ _ _=>.none,fun _ _ _ _ _ _=>.none,fun _ _ _=>.none⟩
noncomputable def tJ(T:Tab)(V:Ev)(W:Eg):Eg:=⟨eF T V W,QF W,P8 W,P9 T W⟩
noncomputable def eg(T:Tab):Nat→Eg
 | 0=>Eg.none
 | n+1=>tJ T (ev T n) (eg T n)
noncomputable def xR:Bi→Value
 | .len=>.builtin "len"
 | .abs=>.builtin "abs"
 | .max=>.builtin "max"
 | .ord=>.builtin "ord"
 | .sorted=>.builtin "sorted"
 | .bytes=>.type "bytes"
 | .list=>.type "list"
 | .tuple=>.type "tuple"
end Og
end
set_option hygiene false in
local macro_rules | `(tactic| exists $e:ident) => do let t ← [`PySem.Flow.casesOn, `PySem.Data.casesOn, `PySem.Stmt.casesOn, `Og.DV.casesOn, `Og.GS.casesOn, `Og.PS.casesOn, `Og.Fl.casesOn, `Og.Md.casesOn, `Og.Fi.casesOn, `Og.Hd.casesOn, `Og.S5.casesOn, `Og.C5.casesOn, `PySem.Value.casesOn, `PySem.Expr.casesOn, `Og.Kd.casesOn, `Og.Me.casesOn, `Og.Cm.casesOn, `Og.sE.casesOn, `Og.Bi.casesOn, `Og.PX.casesOn, `Bool.casesOn, `List.casesOn, `Option.casesOn, `Og.AO.casesOn, `Og.AV.casesOn].foldlM (fun t n => `(tactic| first | induction $e:term using $(Lean.mkIdent n):ident | $t:tactic)) (← `(tactic| cases $e:term)); `(tactic| first | exact Og.AU $e | exact Og.BZ $e | (rcases Og.TA $e with ⟨hq1, hq2, hq3⟩; (try clear $e); subst hq1 hq2 hq3) | (rcases Og.YX $e with ⟨hq1, hq2⟩; (try clear $e); subst hq1 hq2) | (rcases Og.two $e with ⟨hq1, hq2⟩; (try clear $e); subst hq1 hq2) | (have hq1 := Option.some.inj $e; (try clear $e); subst hq1) | subst $e:term | $t:tactic) | `(tactic| exists $e:term) => `(tactic| first | exact Og.AU $e | exact Og.BZ $e | (rcases Og.TA $e with ⟨hq1, hq2, hq3⟩; subst hq1 hq2 hq3) | (rcases Og.YX $e with ⟨hq1, hq2⟩; subst hq1 hq2) | (rcases Og.two $e with ⟨hq1, hq2⟩; subst hq1 hq2) | (have hq1 := Option.some.inj $e; subst hq1) | (have hq1 := $e; subst hq1) | cases $e:term) | `(tactic| exists $e:ident, $q:ident) => `(tactic| first | exact Og.AU $e | exact Og.BZ $e | (revert $q:ident; refine Og.tk3 $e ?_; (try clear $e); intro $q:ident) | (revert $q:ident; refine Og.tk2 $e ?_; (try clear $e); intro $q:ident) | (refine Og.tk3 $e ?_; (try clear $e)) | (refine Og.tk2 $e ?_; (try clear $e)) | exists $e:ident)
section
set_option backward.match.sparseCases false
open PySem PySem.W PySem.Calls PyProof.Rows PySem.SeqAt
namespace Og
inductive GK where
 | fn (f:Nat) | cls (k:Nat) | bi (b:Bi) | val (x:Nat) | isinst | strT | enum | range | zip | barr | fault
 deriving DecidableEq
structure Nm where
 nm:Nat→Str
 isA:Nat→Bool
 gk:Str→Option GK
noncomputable def eG:Cm→CmpOp
 | .eq=>.Eq
 | .ne=>.NotEq
 | .lt=>.Lt
 | .le=>.LtE
 | .gt=>.Gt
 | .isin=>.In
 | .notin=>.NotIn
 | .is_=>.Is
 | .isnot=>.IsNot
noncomputable def ET(sc:Scope)(x:Str):Bool:=match sc.names.lookup x with
 | some .local=>true
 | some .cell=>true
 | some .free=>true
 | _=>false
noncomputable def AS(sc:Scope)(x:Str):Bool:=match sc.names.lookup x with
 | some .globalImplicit=>true
 | _=>false
noncomputable def EU(sc:Scope)(x:Str):Bool:=match sc.names.lookup x with
 | some .local=>true
 | some .cell=>true
 | _=>false
noncomputable def C7(scope:Scope)(sc:Scope):Scope :=
 { scope with names:=scope.names.map fun(n,k)=>if(k==.free&&sc.kind==.function&&sc.names.lookup n==some .cell) then(n,.cell) else(n,k) }
noncomputable def DW(scope sc:Scope):Bool :=
 decide (scope.kind=.function)&&scope.names.all fun x=>match x.2 with
  | .cell=>false
  | .local=>decide (scope.names.lookup x.1=some .local)
  | .free=>ET sc x.1&&!decide (sc.names.lookup x.1=some .local)
  | _=>true
noncomputable def GR:PX→PT→Bool
 | .enum _,.one _=>false
 | .zip _ _,.one _=>false
 | _,_=>true
noncomputable def FV:PX→Bool
 | .zip _ _=>true
 | _=>false
noncomputable def CB(N:Nm):PT→Str→Bool
 | .one x,n=>decide (N.nm x=n)
 | .two x y,n=>decide (N.nm x=n)||decide (N.nm y=n)
noncomputable def GF(N:Nm)(t:PT)(scope:Scope):Bool:=(scope.names.all fun x=>match x.2 with
 | .local=>decide (x.1=(".0":Str))||CB N t x.1
 | _=>true)&&match t with
 | .one x=>decide (scope.names.lookup (N.nm x)=some .local)
 | .two x y=>decide (scope.names.lookup (N.nm x)=some .local)&&decide (scope.names.lookup (N.nm y)=some .local)
noncomputable def JT:List Nat→List Nat→Bool
 | [],[]=>true
 | a::l,b::m=>match Nat.beq a b with
  | true=>JT l m
  | false=>false
 | _,_=>false
theorem TM(a:List Nat):JT a a=true:=by
 induction a with
 | nil=>rfl
 | cons x l ih=>show(match Nat.beq x x with | true=>JT l l | false=>false)=true;rw [Nat.beq_refl];exact ih
theorem eH{a:List Nat}:∀{b:List Nat},JT a b=true→a=b:=by
 induction a with
 | nil =>
  intro b h
  induction b using List.casesOn with
  | nil=>rfl
  | cons y m=>exact BZ h
 | cons x l ih =>
  intro b h
  induction b using List.casesOn with
  | nil=>exact BZ h
  | cons y m =>
   refine GQ (Nat.beq x y) (fun q=>?_) fun q=>?_
   ·exact congr (congrArg List.cons (Nat.eq_of_beq_eq_true q)) (ih ((congrArg (fun z:Bool=>match z with | true=>JT l m | false=>false) q).symm.trans h))
   ·exact BZ ((congrArg (fun z:Bool=>match z with | true=>JT l m | false=>false) q).symm.trans h)
theorem IB{a b:List Nat}:JT a b=true↔a=b:=⟨eH,fun h=>h▸TM a⟩
noncomputable def J2(a b:Str):Bool:=JT a.cps.toList b.cps.toList
theorem DK{a b:Str}:J2 a b=true↔a=b:=⟨fun h=>by
 obtain⟨⟨a⟩⟩:=a;obtain⟨⟨b⟩⟩:=b
 exact congrArg (fun l=>Str.mk ⟨l⟩) (eH h),fun h=>h▸TM _⟩
theorem Z3(a b:Str):(a==b)=J2 a b:=by
 rw [Bool.eq_iff_iff,DK,beq_iff_eq]
theorem Z4(a b:Str):decide (a=b)=J2 a b:=by
 rw [Bool.eq_iff_iff,DK,decide_eq_true_iff]
noncomputable def PA{α:Type}(x:Str):List (Str×α)→Option α
 | []=>none
 | (k,v)::r=>match J2 x k with
  | true=>some v
  | false=>PA x r
theorem HB{α:Type}(x:Str)(l:List (Str×α)):l.lookup x=PA x l:=by
 induction l with
 | nil=>rfl
 | cons p r ih =>
  obtain⟨k,v⟩:=p
  show(match x==k with | true=>some v | false=>r.lookup x)=match J2 x k with | true=>some v | false=>PA x r
  rw [Z3,ih]
noncomputable def QG(sc:Scope)(x:Str):Bool:=match PA x sc.names with
 | some .local=>true
 | some .cell=>true
 | some .free=>true
 | _=>false
theorem IC(sc:Scope)(x:Str):ET sc x=QG sc x:=by
 unfold ET QG;rw [HB]<;>(rcases PA x sc.names with _ | k<;>first | rfl | (exists k<;>rfl))
noncomputable def Z5(sc:Scope)(x:Str):Bool:=match PA x sc.names with
 | some .globalImplicit=>true
 | _=>false
theorem TN(sc:Scope)(x:Str):AS sc x=Z5 sc x:=by
 unfold AS Z5;rw [HB]<;>(rcases PA x sc.names with _ | k<;>first | rfl | (exists k<;>rfl))
noncomputable def QH(sc:Scope)(x:Str):Bool:=match PA x sc.names with
 | some .local=>true
 | some .cell=>true
 | _=>false
theorem QI(sc:Scope)(x:Str):EU sc x=QH sc x:=by
 unfold EU QH;rw [HB]<;>(rcases PA x sc.names with _ | k<;>first | rfl | (exists k<;>rfl))
noncomputable def nT(k:Option NameKind):Bool:=match k with
 | some .local=>true
 | _=>false
theorem QJ{k:Option NameKind}:nT k=true↔k=some .local:=by
 unfold nT
 split<;>simp_all
noncomputable def HC(k:ScopeKind):Bool:=match k with
 | .function=>true
 | _=>false
theorem J3{k:ScopeKind}:HC k=true↔k=.function:=by
 exists k<;>simp [HC]
noncomputable def QK(scope sc:Scope):Bool:=HC scope.kind&&scope.names.all fun x=>match x.2 with
 | .cell=>false
 | .local=>nT (PA x.1 scope.names)
 | .free=>QG sc x.1&&!nT (PA x.1 sc.names)
 | _=>true
theorem WR(scope sc:Scope):DW scope sc=QK scope sc:=by
 unfold DW QK
 congr 1
 ·rw [Bool.eq_iff_iff,J3,decide_eq_true_iff]
 ·congr 1
  funext x
  obtain⟨n,k⟩:=x
  exists k<;>try rfl
  ·dsimp only
   rw [Bool.eq_iff_iff,QJ,decide_eq_true_iff,HB]
  ·dsimp only
   rw [IC]
   congr 2
   rw [Bool.eq_iff_iff,QJ,decide_eq_true_iff,HB]
noncomputable def HF(scope sc:Scope):Scope :=
 { scope with names:=scope.names.map fun(n,k)=>match k with
  | .free=>(match HC sc.kind&&(match PA n sc.names with | some .cell=>true | _=>false) with | true=>(n,.cell) | false=>(n,.free))
  | k=>(n,k) }
theorem TO(scope sc:Scope):C7 scope sc=HF scope sc:=by
 unfold C7 HF
 congr 1
 refine List.map_congr_left fun x _=>?_
 obtain⟨n,k⟩:=x
 exists k<;>try rfl
 dsimp only
 have h1:(sc.kind==ScopeKind.function)=HC sc.kind:=by rw [Bool.eq_iff_iff,J3,beq_iff_eq]
 have h2:(sc.names.lookup n==some NameKind.cell)=(match PA n sc.names with | some .cell=>true | _=>false):=by
  rw [HB]
  cases PA n sc.names with
  | none=>rfl
  | some k=>exists k<;>rfl
 rw [h1,h2]
 simp only [beq_self_eq_true,Bool.true_and]
 exists (HC sc.kind&&match PA n sc.names with | some .cell=>true | _=>false)<;>rfl
section
variable(N:Nm)
noncomputable def pK:PT→Str→Bool
 | .one x,n=>J2 (N.nm x) n
 | .two x y,n=>J2 (N.nm x) n||J2 (N.nm y) n
theorem kE(t:PT)(n:Str):CB N t n=pK N t n:=by
 cases t<;>simp only [CB,pK,Z4]
noncomputable def QL(t:PT)(scope:Scope):Bool:=(scope.names.all fun x=>match x.2 with
 | .local=>J2 x.1 (".0":Str)||pK N t x.1
 | _=>true)&&match t with
 | .one x=>nT (PA (N.nm x) scope.names)
 | .two x y=>nT (PA (N.nm x) scope.names)&&nT (PA (N.nm y) scope.names)
theorem WS(t:PT)(scope:Scope):GF N t scope=QL N t scope:=by
 unfold GF QL
 congr 1
 ·congr 1
  funext x
  obtain⟨n,k⟩:=x
  exists k<;>try rfl
  dsimp only
  rw [Z4,kE]
 ·have h:∀x,decide (List.lookup (N.nm x) scope.names=some NameKind.local)=nT (PA (N.nm x) scope.names):=fun x=>by
   rw [Bool.eq_iff_iff,QJ,decide_eq_true_iff,HB]
  induction t using Og.PT.casesOn with
  | one x=>exact h x
  | two x y=>dsimp only;rw [h x,h y]
noncomputable def LD(e:Expr):Bool:=Nat.beq e.ctorIdx 22
theorem JU{e:Expr}(h:LD e=false):∀x q,e≠.Starred x q:=fun x q z=>by subst z;exists h
end
theorem BF{a:Bool}(h:(!a)=true):a=false:=by exists a<;>first | rfl | exists h
theorem eJ{c:Prop}[Decidable c]{f:c→Bool}(h:(if h:c then f h else false)=true):∃h,f h=true:=by
 by_cases q:c
 ·rw [dif_pos q] at h;exact⟨q,h⟩
 ·rw [dif_neg q] at h;exists h
theorem AK{c:Prop}[Decidable c]{f:c→Bool}{P:Prop}(h:(if h:c then f h else false)=true)(u:∀h,f h=true→P):P:=(eJ h).elim u
noncomputable def WT(z:Expr)(w:BoolOp→List Expr→Bool):Bool:=if h:z.ctorIdx=0 then Expr.BoolOp.elim (motive_1:=fun _=>Bool) z h (fun o vs _=>w o vs) else false
@[elab_as_elim] theorem LE{z:Expr}{w:BoolOp→List Expr→Bool}{P:Expr→Prop}(h:WT z w=true)(u:∀o vs pos,w o vs=true→P (.BoolOp o vs pos)):P z:=by
 refine AK h fun i h=>?_
 exact Expr.BoolOp.elim (motive_1:=fun z=>∀i:z.ctorIdx=0,Expr.BoolOp.elim (motive_1:=fun _=>Bool) z i (fun o vs _=>w o vs)=true→P z) z i (fun o vs pos _ h=>u o vs pos h) i h
noncomputable def nU(z:Expr)(w:Expr→Operator→Expr→Bool):Bool:=if h:z.ctorIdx=2 then Expr.BinOp.elim (motive_1:=fun _=>Bool) z h (fun l o r _=>w l o r) else false
@[elab_as_elim] theorem WU{z:Expr}{w:Expr→Operator→Expr→Bool}{P:Expr→Prop}(h:nU z w=true)(u:∀l o r pos,w l o r=true→P (.BinOp l o r pos)):P z:=by
 refine AK h fun i h=>?_
 exact Expr.BinOp.elim (motive_1:=fun z=>∀i:z.ctorIdx=2,Expr.BinOp.elim (motive_1:=fun _=>Bool) z i (fun l o r _=>w l o r)=true→P z) z i (fun l o r pos _ h=>u l o r pos h) i h
noncomputable def kF(z:Expr)(w:UnaryOp→Expr→Bool):Bool:=if h:z.ctorIdx=3 then Expr.UnaryOp.elim (motive_1:=fun _=>Bool) z h (fun o x _=>w o x) else false
@[elab_as_elim] theorem KR{z:Expr}{w:UnaryOp→Expr→Bool}{P:Expr→Prop}(h:kF z w=true)(u:∀o x pos,w o x=true→P (.UnaryOp o x pos)):P z:=by
 refine AK h fun i h=>?_
 exact Expr.UnaryOp.elim (motive_1:=fun z=>∀i:z.ctorIdx=3,Expr.UnaryOp.elim (motive_1:=fun _=>Bool) z i (fun o x _=>w o x)=true→P z) z i (fun o x pos _ h=>u o x pos h) i h
noncomputable def tK(z:Expr)(w:Expr→Expr→Expr→Bool):Bool:=if h:z.ctorIdx=5 then Expr.IfExp.elim (motive_1:=fun _=>Bool) z h (fun t a b _=>w t a b) else false
@[elab_as_elim] theorem b6{z:Expr}{w:Expr→Expr→Expr→Bool}{P:Expr→Prop}(h:tK z w=true)(u:∀t a b pos,w t a b=true→P (.IfExp t a b pos)):P z:=by
 refine AK h fun i h=>?_
 exact Expr.IfExp.elim (motive_1:=fun z=>∀i:z.ctorIdx=5,Expr.IfExp.elim (motive_1:=fun _=>Bool) z i (fun t a b _=>w t a b)=true→P z) z i (fun t a b pos _ h=>u t a b pos h) i h
noncomputable def eK(z:Expr)(w:List (Option Expr)→List Expr→Bool):Bool:=if h:z.ctorIdx=6 then Expr.Dict.elim (motive_1:=fun _=>Bool) z h (fun ks vs _=>w ks vs) else false
@[elab_as_elim] theorem TP{z:Expr}{w:List (Option Expr)→List Expr→Bool}{P:Expr→Prop}(h:eK z w=true)(u:∀ks vs pos,w ks vs=true→P (.Dict ks vs pos)):P z:=by
 refine AK h fun i h=>?_
 exact Expr.Dict.elim (motive_1:=fun z=>∀i:z.ctorIdx=6,Expr.Dict.elim (motive_1:=fun _=>Bool) z i (fun ks vs _=>w ks vs)=true→P z) z i (fun ks vs pos _ h=>u ks vs pos h) i h
noncomputable def eL(z:Expr)(w:Expr→List Comprehension→Scope→Bool):Bool:=if h:z.ctorIdx=8 then Expr.ListComp.elim (motive_1:=fun _=>Bool) z h (fun x g sc _=>w x g sc) else false
@[elab_as_elim] theorem TQ{z:Expr}{w:Expr→List Comprehension→Scope→Bool}{P:Expr→Prop}(h:eL z w=true)(u:∀x g sc pos,w x g sc=true→P (.ListComp x g sc pos)):P z:=by
 refine AK h fun i h=>?_
 exact Expr.ListComp.elim (motive_1:=fun z=>∀i:z.ctorIdx=8,Expr.ListComp.elim (motive_1:=fun _=>Bool) z i (fun x g sc _=>w x g sc)=true→P z) z i (fun x g sc pos _ h=>u x g sc pos h) i h
noncomputable def nV(z:Expr)(w:Expr→List CmpOp→List Expr→Bool):Bool:=if h:z.ctorIdx=15 then Expr.Compare.elim (motive_1:=fun _=>Bool) z h (fun l os rs _=>w l os rs) else false
@[elab_as_elim] theorem WV{z:Expr}{w:Expr→List CmpOp→List Expr→Bool}{P:Expr→Prop}(h:nV z w=true)(u:∀l os rs pos,w l os rs=true→P (.Compare l os rs pos)):P z:=by
 refine AK h fun i h=>?_
 exact Expr.Compare.elim (motive_1:=fun z=>∀i:z.ctorIdx=15,Expr.Compare.elim (motive_1:=fun _=>Bool) z i (fun l os rs _=>w l os rs)=true→P z) z i (fun l os rs pos _ h=>u l os rs pos h) i h
noncomputable def DX(z:Expr)(w:Expr→List Expr→List Keyword→Pos→Bool):Bool:=if h:z.ctorIdx=16 then Expr.Call.elim (motive_1:=fun _=>Bool) z h (fun g es kw pos=>w g es kw pos) else false
@[elab_as_elim] theorem HG{z:Expr}{w:Expr→List Expr→List Keyword→Pos→Bool}{P:Expr→Prop}(h:DX z w=true)(u:∀g es kw pos,w g es kw pos=true→P (.Call g es kw pos)):P z:=by
 refine AK h fun i h=>?_
 exact Expr.Call.elim (motive_1:=fun z=>∀i:z.ctorIdx=16,Expr.Call.elim (motive_1:=fun _=>Bool) z i (fun g es kw pos=>w g es kw pos)=true→P z) z i (fun g es kw pos _ h=>u g es kw pos h) i h
noncomputable def M5(z:Expr)(w:Const→Bool):Bool:=if h:z.ctorIdx=19 then Expr.Constant.elim (motive_1:=fun _=>Bool) z h (fun k _ _=>w k) else false
@[elab_as_elim] theorem GG{z:Expr}{w:Const→Bool}{P:Expr→Prop}(h:M5 z w=true)(u:∀k n pos,w k=true→P (.Constant k n pos)):P z:=by
 refine AK h fun i h=>?_
 exact Expr.Constant.elim (motive_1:=fun z=>∀i:z.ctorIdx=19,Expr.Constant.elim (motive_1:=fun _=>Bool) z i (fun k _ _=>w k)=true→P z) z i (fun k n pos _ h=>u k n pos h) i h
noncomputable def J4(z:Expr)(w:Expr→Str→Pos→Bool):Bool:=if h:z.ctorIdx=20 then Expr.Attribute.elim (motive_1:=fun _=>Bool) z h (fun f m pos=>w f m pos) else false
@[elab_as_elim] theorem DB{z:Expr}{w:Expr→Str→Pos→Bool}{P:Expr→Prop}(h:J4 z w=true)(u:∀f m pos,w f m pos=true→P (.Attribute f m pos)):P z:=by
 refine AK h fun i h=>?_
 exact Expr.Attribute.elim (motive_1:=fun z=>∀i:z.ctorIdx=20,Expr.Attribute.elim (motive_1:=fun _=>Bool) z i (fun f m pos=>w f m pos)=true→P z) z i (fun f m pos _ h=>u f m pos h) i h
noncomputable def PB(z:Expr)(w:Expr→Expr→Bool):Bool:=if h:z.ctorIdx=21 then Expr.Subscript.elim (motive_1:=fun _=>Bool) z h (fun f i _=>w f i) else false
@[elab_as_elim] theorem EV{z:Expr}{w:Expr→Expr→Bool}{P:Expr→Prop}(h:PB z w=true)(u:∀f i pos,w f i=true→P (.Subscript f i pos)):P z:=by
 refine AK h fun i h=>?_
 exact Expr.Subscript.elim (motive_1:=fun z=>∀i:z.ctorIdx=21,Expr.Subscript.elim (motive_1:=fun _=>Bool) z i (fun f i _=>w f i)=true→P z) z i (fun f i pos _ h=>u f i pos h) i h
noncomputable def BI(z:Expr)(w:Str→Bool):Bool:=if h:z.ctorIdx=23 then Expr.Name.elim (motive_1:=fun _=>Bool) z h (fun m _=>w m) else false
@[elab_as_elim] theorem B4{z:Expr}{w:Str→Bool}{P:Expr→Prop}(h:BI z w=true)(u:∀m pos,w m=true→P (.Name m pos)):P z:=by
 refine AK h fun i h=>?_
 exact Expr.Name.elim (motive_1:=fun z=>∀i:z.ctorIdx=23,Expr.Name.elim (motive_1:=fun _=>Bool) z i (fun m _=>w m)=true→P z) z i (fun m pos _ h=>u m pos h) i h
noncomputable def QM(z:Expr)(w:Str→Pos→Bool):Bool:=if h:z.ctorIdx=23 then Expr.Name.elim (motive_1:=fun _=>Bool) z h (fun m pos=>w m pos) else false
@[elab_as_elim] theorem JV{z:Expr}{w:Str→Pos→Bool}{P:Expr→Prop}(h:QM z w=true)(u:∀m pos,w m pos=true→P (.Name m pos)):P z:=by
 refine AK h fun i h=>?_
 exact Expr.Name.elim (motive_1:=fun z=>∀i:z.ctorIdx=23,Expr.Name.elim (motive_1:=fun _=>Bool) z i (fun m pos=>w m pos)=true→P z) z i (fun m pos _ h=>u m pos h) i h
noncomputable def eM(z:Expr)(w:List Expr→Bool):Bool:=if h:z.ctorIdx=24 then Expr.List.elim (motive_1:=fun _=>Bool) z h (fun es _=>w es) else false
@[elab_as_elim] theorem TR{z:Expr}{w:List Expr→Bool}{P:Expr→Prop}(h:eM z w=true)(u:∀es pos,w es=true→P (.List es pos)):P z:=by
 refine AK h fun i h=>?_
 exact Expr.List.elim (motive_1:=fun z=>∀i:z.ctorIdx=24,Expr.List.elim (motive_1:=fun _=>Bool) z i (fun es _=>w es)=true→P z) z i (fun es pos _ h=>u es pos h) i h
noncomputable def TS(z:Expr)(w:List Expr→Bool):Bool:=if h:z.ctorIdx=25 then Expr.Tuple.elim (motive_1:=fun _=>Bool) z h (fun es _ _=>w es) else false
@[elab_as_elim] theorem GH{z:Expr}{w:List Expr→Bool}{P:Expr→Prop}(h:TS z w=true)(u:∀es n pos,w es=true→P (.Tuple es n pos)):P z:=by
 refine AK h fun i h=>?_
 exact Expr.Tuple.elim (motive_1:=fun z=>∀i:z.ctorIdx=25,Expr.Tuple.elim (motive_1:=fun _=>Bool) z i (fun es _ _=>w es)=true→P z) z i (fun es n pos _ h=>u es n pos h) i h
noncomputable def M6(z:Expr)(w:Option Expr→Option Expr→Option Expr→Bool):Bool:=if h:z.ctorIdx=26 then Expr.Slice.elim (motive_1:=fun _=>Bool) z h (fun lo hi st _=>w lo hi st) else false
@[elab_as_elim] theorem GI{z:Expr}{w:Option Expr→Option Expr→Option Expr→Bool}{P:Expr→Prop}(h:M6 z w=true)(u:∀lo hi st pos,w lo hi st=true→P (.Slice lo hi st pos)):P z:=by
 refine AK h fun i h=>?_
 exact Expr.Slice.elim (motive_1:=fun z=>∀i:z.ctorIdx=26,Expr.Slice.elim (motive_1:=fun _=>Bool) z i (fun lo hi st _=>w lo hi st)=true→P z) z i (fun lo hi st pos _ h=>u lo hi st pos h) i h
noncomputable def Z6(z:Stmt)(w:Option Expr→Bool):Bool:=if h:z.ctorIdx=3 then Stmt.Return.elim (motive_2:=fun _=>Bool) z h (fun e _=>w e) else false
@[elab_as_elim] theorem J5{z:Stmt}{w:Option Expr→Bool}{P:Stmt→Prop}(h:Z6 z w=true)(u:∀e pos,w e=true→P (.Return e pos)):P z:=by
 refine AK h fun i h=>?_
 exact Stmt.Return.elim (motive_2:=fun z=>∀i:z.ctorIdx=3,Stmt.Return.elim (motive_2:=fun _=>Bool) z i (fun e _=>w e)=true→P z) z i (fun e pos _ h=>u e pos h) i h
noncomputable def D4(z:Stmt)(w:List Expr→Expr→Bool):Bool:=if h:z.ctorIdx=5 then Stmt.Assign.elim (motive_2:=fun _=>Bool) z h (fun ts e _=>w ts e) else false
@[elab_as_elim] theorem BG{z:Stmt}{w:List Expr→Expr→Bool}{P:Stmt→Prop}(h:D4 z w=true)(u:∀ts e pos,w ts e=true→P (.Assign ts e pos)):P z:=by
 refine AK h fun i h=>?_
 exact Stmt.Assign.elim (motive_2:=fun z=>∀i:z.ctorIdx=5,Stmt.Assign.elim (motive_2:=fun _=>Bool) z i (fun ts e _=>w ts e)=true→P z) z i (fun ts e pos _ h=>u ts e pos h) i h
noncomputable def eN(z:Stmt)(w:Expr→Expr→List Stmt→List Stmt→Bool):Bool:=if h:z.ctorIdx=9 then Stmt.For.elim (motive_2:=fun _=>Bool) z h (fun t it b el _=>w t it b el) else false
@[elab_as_elim] theorem J6{z:Stmt}{w:Expr→Expr→List Stmt→List Stmt→Bool}{P:Stmt→Prop}(h:eN z w=true)(u:∀t it b el pos,w t it b el=true→P (.For t it b el pos)):P z:=by
 refine AK h fun i h=>?_
 exact Stmt.For.elim (motive_2:=fun z=>∀i:z.ctorIdx=9,Stmt.For.elim (motive_2:=fun _=>Bool) z i (fun t it b el _=>w t it b el)=true→P z) z i (fun t it b el pos _ h=>u t it b el pos h) i h
noncomputable def Z7(z:Stmt)(w:Expr→List Stmt→List Stmt→Bool):Bool:=if h:z.ctorIdx=11 then Stmt.While.elim (motive_2:=fun _=>Bool) z h (fun t b el _=>w t b el) else false
@[elab_as_elim] theorem QN{z:Stmt}{w:Expr→List Stmt→List Stmt→Bool}{P:Stmt→Prop}(h:Z7 z w=true)(u:∀t b el pos,w t b el=true→P (.While t b el pos)):P z:=by
 refine AK h fun i h=>?_
 exact Stmt.While.elim (motive_2:=fun z=>∀i:z.ctorIdx=11,Stmt.While.elim (motive_2:=fun _=>Bool) z i (fun t b el _=>w t b el)=true→P z) z i (fun t b el pos _ h=>u t b el pos h) i h
noncomputable def eO(z:Stmt)(w:Expr→List Stmt→List Stmt→Bool):Bool:=if h:z.ctorIdx=12 then Stmt.If.elim (motive_2:=fun _=>Bool) z h (fun t a b _=>w t a b) else false
@[elab_as_elim] theorem MZ{z:Stmt}{w:Expr→List Stmt→List Stmt→Bool}{P:Stmt→Prop}(h:eO z w=true)(u:∀t a b pos,w t a b=true→P (.If t a b pos)):P z:=by
 refine AK h fun i h=>?_
 exact Stmt.If.elim (motive_2:=fun z=>∀i:z.ctorIdx=12,Stmt.If.elim (motive_2:=fun _=>Bool) z i (fun t a b _=>w t a b)=true→P z) z i (fun t a b pos _ h=>u t a b pos h) i h
noncomputable def onRaise(z:Stmt)(w:Option Expr→Option Expr→Bool):Bool:=if h:z.ctorIdx=16 then Stmt.Raise.elim (motive_2:=fun _=>Bool) z h (fun e f _=>w e f) else false
@[elab_as_elim] theorem QO{z:Stmt}{w:Option Expr→Option Expr→Bool}{P:Stmt→Prop}(h:onRaise z w=true)(u:∀e f pos,w e f=true→P (.Raise e f pos)):P z:=by
 refine AK h fun i h=>?_
 exact Stmt.Raise.elim (motive_2:=fun z=>∀i:z.ctorIdx=16,Stmt.Raise.elim (motive_2:=fun _=>Bool) z i (fun e f _=>w e f)=true→P z) z i (fun e f pos _ h=>u e f pos h) i h
noncomputable def nW(z:Stmt)(w:List Stmt→List ExceptHandler→List Stmt→List Stmt→Bool):Bool:=if h:z.ctorIdx=17 then Stmt.Try.elim (motive_2:=fun _=>Bool) z h (fun b hs el fi _=>w b hs el fi) else false
@[elab_as_elim] theorem WW{z:Stmt}{w:List Stmt→List ExceptHandler→List Stmt→List Stmt→Bool}{P:Stmt→Prop}(h:nW z w=true)(u:∀b hs el fi pos,w b hs el fi=true→P (.Try b hs el fi pos)):P z:=by
 refine AK h fun i h=>?_
 exact Stmt.Try.elim (motive_2:=fun z=>∀i:z.ctorIdx=17,Stmt.Try.elim (motive_2:=fun _=>Bool) z i (fun b hs el fi _=>w b hs el fi)=true→P z) z i (fun b hs el fi pos _ h=>u b hs el fi pos h) i h
noncomputable def QP(z:Stmt)(w:Expr→Bool):Bool:=if h:z.ctorIdx=24 then Stmt.Expr.elim (motive_2:=fun _=>Bool) z h (fun e _=>w e) else false
@[elab_as_elim] theorem HH{z:Stmt}{w:Expr→Bool}{P:Stmt→Prop}(h:QP z w=true)(u:∀e pos,w e=true→P (.Expr e pos)):P z:=by
 refine AK h fun i h=>?_
 exact Stmt.Expr.elim (motive_2:=fun z=>∀i:z.ctorIdx=24,Stmt.Expr.elim (motive_2:=fun _=>Bool) z i (fun e _=>w e)=true→P z) z i (fun e pos _ h=>u e pos h) i h
noncomputable def Z8(z:Stmt)(w:Bool):Bool:=if h:z.ctorIdx=26 then Stmt.Break.elim (motive_2:=fun _=>Bool) z h (fun _=>w) else false
@[elab_as_elim] theorem QQ{z:Stmt}{w:Bool}{P:Stmt→Prop}(h:Z8 z w=true)(u:∀pos,w=true→P (.Break pos)):P z:=by
 refine AK h fun i h=>?_
 exact Stmt.Break.elim (motive_2:=fun z=>∀i:z.ctorIdx=26,Stmt.Break.elim (motive_2:=fun _=>Bool) z i (fun _=>w)=true→P z) z i (fun pos _ h=>u pos h) i h
section
variable{α:Type}
noncomputable def CH(l:List α)(q:α→Bool):Bool:=match l with
 | [a]=>q a
 | _=>false
@[elab_as_elim] theorem AM{l:List α}{q:α→Bool}{P:List α→Prop}(h:CH l q=true)(u:∀a,q a=true→P [a]):P l:=by
 rcases l with _ | ⟨a,_ | ⟨b,l⟩⟩
 ·exists h
 ·exact u a h
 ·exists h
noncomputable def FW(l:List α)(q:α→α→Bool):Bool:=match l with
 | a::r=>CH r (q a)
 | []=>false
@[elab_as_elim] theorem C9{l:List α}{q:α→α→Bool}{P:List α→Prop}(h:FW l q=true)(u:∀a b,q a b=true→P [a,b]):P l:=by
 induction l using List.casesOn with
 | nil=>exists h
 | cons a r=>exact AM (P:=fun r=>P (a::r)) h (u a)
noncomputable def AZ(o:Option α)(q:α→Bool):Bool:=match o with
 | some a=>q a
 | none=>false
@[elab_as_elim] theorem B9{o:Option α}{q:α→Bool}{P:Option α→Prop}(h:AZ o q=true)(u:∀a,q a=true→P (some a)):P o:=by
 induction o using Option.casesOn with
 | none=>exists h
 | some a=>exact u a h
@[elab_as_elim] theorem CV{o:Option α}{P:Option α→Prop}(h:o.isNone=true)(u:P none):P o:=by exists o<;>first | exact u | exists h
@[elab_as_elim] theorem BQ{l:List α}{P:List α→Prop}(h:l.isEmpty=true)(u:P []):P l:=by exists l<;>first | exact u | exists h
@[elab_as_elim] theorem N1{a b:α}[Decidable (a=b)]{P:α→Prop}(h:decide (a=b)=true)(u:P b):P a:=of_decide_eq_true h▸u
end
@[elab_as_elim] theorem DL{a b:Str}{P:Str→Prop}(h:J2 a b=true)(u:P a):P b:=DK.mp h▸u
noncomputable def FJ(e:Expr):Bool:=!(DX e fun f _ _ _=>BI f fun id=>J2 id ("super":Str))
noncomputable def DM(e:Expr):Bool:=Nat.beq e.ctorIdx 8||(Nat.beq e.ctorIdx 9||Nat.beq e.ctorIdx 10)
noncomputable def QR(e:Expr):Bool:=Nat.beq e.ctorIdx 25
noncomputable def Z9(vs:List Expr):Bool:=vs.any fun x=>PySem.swappedStores.match_5 (motive:=fun _=>Bool) x (fun _ _=>true) fun _=>false
noncomputable def ZA(vs:List Expr):Bool:=!Z9 vs&&(!(vs.all (foldedForSure 8))&&!(vs.all (constantsAlone 8)))
noncomputable def pL(l:List Nat)(s:Str):Bool:=JT l s.cps.toList
theorem TT{l:List Nat}{s:Str}(h:pL l s=true):s=⟨l.toArray⟩:=by
 have:=IB.mp h
 obtain⟨⟨s⟩⟩:=s
 subst this;rfl
noncomputable def eP(v:AV)(k:Const):Bool:=match v with
 | .none=>Nat.beq k.ctorIdx 0
 | .bool b=>(match k with | .bool a=>a==b | _=>false)
 | .int i=>(match k with | .int a=>decide (a=i) | _=>false)
 | .str l=>(match k with | .str s=>pL l s | _=>false)
 | .bytes l=>(match k with | .bytes b=>decide (b=l) | _=>false)
 | _=>false
noncomputable def tL:AV→Const→Prop
 | .none,k=>k=.none
 | .bool b,k=>k=.bool b
 | .int i,k=>k=.int i
 | .str l,k=>k=.str ⟨l.toArray⟩
 | .bytes l,k=>k=.bytes l
 | _,_=>False
theorem TU{v:AV}{k:Const}(h:eP v k=true):tL v k:=by
 induction v using AV.casesOn with
 | none=>induction k using Const.casesOn with
  | none=>rfl
  | _=>exact BZ h
 | bool b=>induction k using Const.casesOn with
  | bool a=>exact congrArg Const.bool (eq_of_beq h)
  | _=>exact BZ h
 | int i=>induction k using Const.casesOn with
  | int a=>exact congrArg Const.int (of_decide_eq_true h)
  | _=>exact BZ h
 | str l=>induction k using Const.casesOn with
  | str a=>exact congrArg Const.str (TT h)
  | _=>exact BZ h
 | bytes l=>induction k using Const.casesOn with
  | bytes a=>exact congrArg Const.bytes (of_decide_eq_true h)
  | _=>exact BZ h
 | _=>exact BZ h
noncomputable def pM(o:UnaryOp):Bool:=match o with | .USub=>true | _=>false
noncomputable def tM(o:UnaryOp):Bool:=match o with | .Not=>true | _=>false
@[elab_as_elim] theorem PC{o:UnaryOp}{P:UnaryOp→Prop}(h:pM o=true)(u:P .USub):P o:=by exists o<;>first | exact u | exists h
@[elab_as_elim] theorem b7{o:UnaryOp}{P:UnaryOp→Prop}(h:tM o=true)(u:P .Not):P o:=by exists o<;>first | exact u | exists h
noncomputable def kG(o:BoolOp):Bool:=match o with | .And=>true | .Or=>false
@[elab_as_elim] theorem b8{o:BoolOp}{P:BoolOp→Prop}(h:kG o=true)(u:P .And):P o:=by exists o<;>first | exact u | exists h
@[elab_as_elim] theorem eQ{o:BoolOp}{P:BoolOp→Prop}(h:(!kG o)=true)(u:P .Or):P o:=by exists o<;>first | exact u | exists h
@[elab_as_elim] theorem PD{i:Int}{k:Const}{P:Const→Prop}(h:eP (.int i) k=true)(u:P (.int i)):P k:=(show k=.int i from TU h)▸u
inductive LS{α β:Type}(R:α→β→Prop):List α→List β→Prop
 | nil:LS R [] []
 | cons {a:α} {b:β} {l:List α} {m:List β}:R a b→LS R l m→LS R (a::l) (b::m)
noncomputable def all2{α β:Type}(f:α→β→Bool):List α→List β→Bool
 | [],m=>m.isEmpty
 | a::l,m=>match m with
  | []=>false
  | b::m=>f a b&&all2 f l m
theorem M7{α β:Type}{f:α→β→Bool}{R:α→β→Prop}(h:∀a b,f a b=true→R a b){l:List α}:∀{m:List β},all2 f l m=true→LS R l m:=by
 induction l with
 | nil=>exact fun e=>BQ (P:=LS R []) e .nil
 | cons a l ih =>
  intro m e
  induction m using List.casesOn with
  | nil=>exact BZ e
  | cons b m=>exact .cons (h a b (AA e)) (ih (A6 e))
section
variable(N:Nm)
noncomputable def JW(sc:Scope)(x:Nat)(m:Str):Bool:=!N.isA x&&(J2 (N.nm x) m&&QH sc m)
inductive MT(sc:Scope):PT→Expr→Prop
 | one {x:Nat} {p:Pos}:N.isA x=false→EU sc (N.nm x)=true→MT sc (.one x) (.Name (N.nm x) p)
 | two {x y:Nat} {p q t:Pos} {k:Nat}:N.isA x=false→N.isA y=false→EU sc (N.nm x)=true→EU sc (N.nm y)=true→MT sc (.two x y) (.Tuple [.Name (N.nm x) p,.Name (N.nm y) q] k t)
inductive MN(sc:Scope):List Nat→List Expr→Prop
 | nil:MN sc [] []
 | cons {x:Nat} {p:Pos} {l:List Nat} {es:List Expr}:N.isA x=false→EU sc (N.nm x)=true→MN sc l es→MN sc (x::l) (.Name (N.nm x) p::es)
variable{N}
@[elab_as_elim] theorem D6{sc:Scope}{x:Nat}{m:Str}{P:Str→Prop}(h:JW N sc x m=true)(u:N.isA x=false→EU sc (N.nm x)=true→P (N.nm x)):P m :=
 DL (P:=fun m=>QH sc m=true→P m) (AA (A6 h)) (fun h3=>u (BF (AA h)) ((QI _ _).trans h3)) (A6 (A6 h))
variable(N)
noncomputable def tN(sc:Scope)(t:PT)(e:Expr):Bool:=match t with
 | .one x=>BI e (JW N sc x)
 | .two x y=>TS e fun es=>FW es fun a b=>BI a (JW N sc x)&&BI b (JW N sc y)
variable{N}
theorem QS{sc:Scope}{t:PT}{e:Expr}(h:tN N sc t e=true):MT N sc t e:=by
 induction t using Og.PT.casesOn with
 | one x=>exact B4 h fun m pos h=>D6 h .one
 | two x y=>exact GH h fun es n pos h=>C9 h fun a b h=>B4 (AA h) fun m p1 h1=>B4 (A6 h) fun m2 p2 h2=>D6 h1 fun h1 h3=>D6 h2 fun h2 h4=>.two h1 h2 h3 h4
theorem kH{sc:Scope}{l:List Nat}:∀{es:List Expr},all2 (fun x e=>BI e (JW N sc x)) l es=true→MN N sc l es:=by
 induction l with
 | nil=>exact fun h=>BQ (P:=MN N sc []) h .nil
 | cons x l ih =>
  intro es h
  induction es using List.casesOn with
  | nil=>exact BZ h
  | cons e es=>exact B4 (P:=fun e=>MN N sc (x::l) (e::es)) (AA h) fun m p h1=>D6 h1 fun h1 h2=>.cons h1 h2 (ih (A6 h))
noncomputable def jV:PX→Nat
 | .const _=>19
 | .neg _=>3
 | .var _=>23
 | .glob _=>23
 | .attr _ _=>20
 | .bin _ _ _=>2
 | .cmp _ _ _=>15
 | .and2 _ _=>0
 | .or2 _ _=>0
 | .not _=>3
 | .ite _ _ _=>5
 | .idx _ _=>21
 | .slc _ _ _=>21
 | .rev _=>21
 | .tup _=>25
 | .list _=>24
 | .dict _=>6
 | .comp _ _ _ _=>8
 | .enum _=>99
 | .range _=>99
 | .zip _ _=>99
 | .callF _ _=>16
 | .callC _ _=>16
 | .callB _ _=>16
 | .meth _ _ _=>16
 | .isStr _=>16
 | .any=>98
noncomputable def nX(p:PX):Bool:=Nat.beq (jV p) 98
noncomputable def pN(p:PX):Bool:=Nat.beq (jV p) 99
variable(N)
noncomputable def ZB(sc:Scope)(k:GK)(g:Str):Bool:=Z5 sc g&&decide (N.gk g=some k)
variable{N}
theorem FK{sc:Scope}{k:GK}{g:Str}(h:ZB N sc k g=true):AS sc g=true∧N.gk g=some k:=⟨(TN _ _).trans (AA h),of_decide_eq_true (A6 h)⟩
section
variable(N)(C:Scope→PX→Expr→Bool)
noncomputable def b9(sc:Scope):List PX→List Expr→Bool:=all2 fun p e=>!LD e&&C sc p e
noncomputable def yM(sc:Scope):List (PX×PX)→List (Option Expr)→List Expr→Bool
 | [],ks,vs=>ks.isEmpty&&vs.isEmpty
 | p::l,ks,vs=>match ks,vs with
  | k::ks,v::vs=>AZ k (C sc p.1)&&(C sc p.2 v&&yM sc l ks vs)
  | _,_=>false
noncomputable def yN(sc:Scope)(p:Option PX)(e:Option Expr):Bool:=match p with
 | none=>e.isNone
 | some p=>AZ e (C sc p)
noncomputable def ckC(sc:Scope)(p:Option PX)(e:List Expr):Bool:=match p with
 | none=>e.isEmpty
 | some p=>CH e (C sc p)
noncomputable def yO(sc:Scope)(p:PX)(e:Expr):Bool:=match p with
 | .enum q=>DX e fun f es kw _=>kw.isEmpty&&(BI f (ZB N sc .enum)&&CH es (C sc q))
 | .range q=>DX e fun f es kw _=>kw.isEmpty&&(BI f (ZB N sc .range)&&CH es (C sc q))
 | .zip a b=>DX e fun f es kw _=>kw.isEmpty&&(BI f (ZB N sc .zip)&&FW es fun x y=>C sc a x&&C sc b y)
 | _=>false
noncomputable def sI(sc:Scope)(p:PX)(e:Expr):Bool:=match pN p with
 | true=>yO N C sc p e
 | false=>!Nat.beq e.ctorIdx 7&&C sc p e
noncomputable def ON(sc:Scope)(k:GK)(l:List PX)(e:Expr):Bool:=DX e fun f es kw _=>kw.isEmpty&&(BI f (ZB N sc k)&&b9 C sc l es)
noncomputable def ckF(sc:Scope)(p:PX)(e:Expr):Bool:=match p with
 | .const v=>M5 e (eP v)
 | .neg n=>kF e fun o x=>pM o&&M5 x (eP (.int (n:Int)))
 | .var x=>BI e fun m=>J2 (N.nm x) m&&QG sc m
 | .glob x=>BI e (ZB N sc (.val x))
 | .attr q a=>J4 e fun f m _=>N.isA a&&(J2 (N.nm a) m&&(FJ f&&C sc q f))
 | .bin o l r=>nU e fun l' o' r'=>decide (o'=jY o)&&(C sc l l'&&C sc r r')
 | .cmp o l r=>nV e fun l' os rs=>CH os fun o'=>CH rs fun r'=>decide (o'=eG o)&&(C sc l l'&&C sc r r')
 | .and2 l r=>WT e fun o vs=>kG o&&FW vs fun l' r'=>C sc l l'&&C sc r r'
 | .or2 l r=>WT e fun o vs=>!kG o&&FW vs fun l' r'=>C sc l l'&&C sc r r'
 | .not q=>kF e fun o x=>tM o&&C sc q x
 | .ite t a b=>tK e fun t' a' b'=>C sc t t'&&(C sc a a'&&C sc b b')
 | .idx q i=>PB e fun f j=>C sc q f&&C sc i j
 | .slc q lo hi=>PB e fun f j=>M6 j fun lo' hi' st=>st.isNone&&(C sc q f&&(yN C sc lo lo'&&yN C sc hi hi'))
 | .rev q=>PB e fun f j=>M6 j fun lo' hi' st=>lo'.isNone&&(hi'.isNone&&(C sc q f&&AZ st fun s=>kF s fun o x=>pM o&&M5 x (eP (.int 1))))
 | .tup l=>TS e (b9 C sc l)
 | .list l=>eM e (b9 C sc l)
 | .dict l=>eK e (yM C sc l)
 | .comp elt t it cond=>eL e fun elt' gs scope=>CH gs fun g=>decide (g.is_async=0)&&(QK scope sc&&(GR it t&&(!FV it&&(QL N t scope&&(tN N (HF scope sc) t g.target&&(sI N C sc it g.iter&&(ckC C (HF scope sc) cond g.ifs&&C (HF scope sc) elt elt')))))))
 | .callF f l=>ON N C sc (.fn f) l e
 | .callC f l=>ON N C sc (.cls f) l e
 | .callB b l=>ON N C sc (.bi b) l e
 | .meth q m l=>DX e fun g es kw pos=>kw.isEmpty&&J4 g fun f a p=>J2 (N.nm m) a&&(FJ f&&((p.endLine==pos.line)&&(Nat.blt es.length 30&&(C sc q f&&b9 C sc l es))))
 | .isStr q=>DX e fun g es kw _=>kw.isEmpty&&(BI g (ZB N sc .isinst)&&FW es fun f k=>BI k (ZB N sc .strT)&&(!LD f&&C sc q f))
 | _=>false
end
noncomputable def ck(N:Nm):Nat→Scope→PX→Expr→Bool
 | 0,_,_,_=>false
 | n+1,sc,p,e=>nX p||(Nat.beq e.ctorIdx (jV p)&&ckF N (ck N n) sc p e)
noncomputable def ME(N:Nm)(sc:Scope)(p:PX)(e:Expr):Prop:=∃n,ck N n sc p e=true
abbrev JO(N:Nm)(sc:Scope):List PX→List Expr→Prop:=LS fun p e=>(∀x q,e≠.Starred x q)∧ME N sc p e
inductive MD(N:Nm)(sc:Scope):List (PX×PX)→List (Option Expr)→List Expr→Prop
 | nil:MD N sc [] [] []
 | cons {p q:PX} {e f:Expr} {l:List (PX×PX)} {ks:List (Option Expr)} {vs:List Expr}:ME N sc p e→ME N sc q f→MD N sc l ks vs→MD N sc ((p,q)::l) (some e::ks) (f::vs)
inductive MO(N:Nm)(sc:Scope):Option PX→Option Expr→Prop
 | none:MO N sc .none .none
 | some {p:PX} {e:Expr}:ME N sc p e→MO N sc (some p) (some e)
inductive MC(N:Nm)(sc:Scope):Option PX→List Expr→Prop
 | none:MC N sc .none []
 | some {p:PX} {e:Expr}:ME N sc p e→MC N sc (some p) [e]
noncomputable def MI(N:Nm)(sc:Scope)(p:PX)(e:Expr):Prop:=match pN p with
 | true=>∀P:Expr→Prop,(match p with
  | .enum q=>∀g f u pos,AS sc g=true→N.gk g=some .enum→ME N sc q f→P (.Call (.Name g u) [f] [] pos)
  | .range q=>∀g f u pos,AS sc g=true→N.gk g=some .range→ME N sc q f→P (.Call (.Name g u) [f] [] pos)
  | .zip a b=>∀g f f' u pos,AS sc g=true→N.gk g=some .zip→ME N sc a f→ME N sc b f'→P (.Call (.Name g u) [f,f'] [] pos)
  | _=>True)→P e
 | false=>e.ctorIdx≠7∧ME N sc p e
noncomputable def MEp(N:Nm)(sc:Scope)(P:Expr→Prop)(p:PX):Prop:=match p with
 | .const v=>∀k n pos,tL v k→P (.Constant k n pos)
 | .neg n=>∀k p pos,P (.UnaryOp .USub (.Constant (.int n) k p) pos)
 | .var x=>∀pos,ET sc (N.nm x)=true→P (.Name (N.nm x) pos)
 | .glob x=>∀g pos,AS sc g=true→N.gk g=some (.val x)→P (.Name g pos)
 | .attr q a=>∀f pos,N.isA a=true→FJ f=true→ME N sc q f→P (.Attribute f (N.nm a) pos)
 | .bin o l r=>∀l' r' pos,ME N sc l l'→ME N sc r r'→P (.BinOp l' (jY o) r' pos)
 | .cmp o l r=>∀l' r' pos,ME N sc l l'→ME N sc r r'→P (.Compare l' [eG o] [r'] pos)
 | .and2 l r=>∀l' r' pos,ME N sc l l'→ME N sc r r'→P (.BoolOp .And [l',r'] pos)
 | .or2 l r=>∀l' r' pos,ME N sc l l'→ME N sc r r'→P (.BoolOp .Or [l',r'] pos)
 | .not q=>∀f pos,ME N sc q f→P (.UnaryOp .Not f pos)
 | .ite t a b=>∀t' a' b' pos,ME N sc t t'→ME N sc a a'→ME N sc b b'→P (.IfExp t' a' b' pos)
 | .idx q i=>∀f j pos,ME N sc q f→ME N sc i j→P (.Subscript f j pos)
 | .slc q lo hi=>∀f lo' hi' u pos,ME N sc q f→MO N sc lo lo'→MO N sc hi hi'→P (.Subscript f (.Slice lo' hi' .none u) pos)
 | .rev q=>∀f k u v w pos,ME N sc q f→P (.Subscript f (.Slice .none .none (some (.UnaryOp .USub (.Constant (.int 1) k u) v)) w) pos)
 | .tup l=>∀es k pos,JO N sc l es→P (.Tuple es k pos)
 | .list l=>∀es pos,JO N sc l es→P (.List es pos)
 | .dict l=>∀ks vs pos,MD N sc l ks vs→P (.Dict ks vs pos)
 | .comp elt t it cond=>∀elt' t' it' ifs scope pos,DW scope sc=true→GR it t=true→FV it=false→GF N t scope=true→MT N (C7 scope sc) t t'→MI N sc it it'→MC N (C7 scope sc) cond ifs→ME N (C7 scope sc) elt elt'→P (.ListComp elt' [⟨t',it',ifs,0⟩] scope pos)
 | .callF f l=>∀g es u pos,AS sc g=true→N.gk g=some (.fn f)→JO N sc l es→P (.Call (.Name g u) es [] pos)
 | .callC f l=>∀g es u pos,AS sc g=true→N.gk g=some (.cls f)→JO N sc l es→P (.Call (.Name g u) es [] pos)
 | .callB b l=>∀g es u pos,AS sc g=true→N.gk g=some (.bi b)→JO N sc l es→P (.Call (.Name g u) es [] pos)
 | .meth q m l=>∀f es u pos,FJ f=true→(u.endLine==pos.line)=true→es.length<30→ME N sc q f→JO N sc l es→P (.Call (.Attribute f (N.nm m) u) es [] pos)
 | .isStr q=>∀g k f u v pos,AS sc g=true→N.gk g=some .isinst→AS sc k=true→N.gk k=some .strT→(∀x q,f≠.Starred x q)→ME N sc q f→P (.Call (.Name g u) [f,.Name k v] [] pos)
 | .any=>∀e,P e
 | _=>True
section
variable{n:Nat}{sc:Scope}
theorem JX{l:List PX}{es:List Expr}(h:b9 (ck N n) sc l es=true):JO N sc l es:=M7 (fun _ _ h=>⟨JU (BF (AA h)),n,(A6 h)⟩) h
theorem kI{l:List (PX×PX)}:∀{ks:List (Option Expr)} {vs:List Expr},yM (ck N n) sc l ks vs=true→MD N sc l ks vs:=by
 induction l with
 | nil=>exact fun {ks vs} h=>BQ (P:=fun ks=>MD N sc [] ks vs) (AA h) (BQ (P:=MD N sc [] []) (A6 h) .nil)
 | cons p l ih =>
  intro ks vs h
  induction ks using List.casesOn with
  | nil=>exact BZ h
  | cons k ks =>
   induction vs using List.casesOn with
   | nil=>exact BZ h
   | cons v vs=>exact B9 (P:=fun k=>MD N sc (p::l) (k::ks) (v::vs)) (AA h) fun e h1=>.cons ⟨n,h1⟩ ⟨n,AA (A6 h)⟩ (ih (A6 (A6 h)))
theorem ZC{p:Option PX}{e:Option Expr}(h:yN (ck N n) sc p e=true):MO N sc p e:=by
 induction p using Option.casesOn with
 | none=>exact CV h .none
 | some p=>exact B9 h fun e h=>.some ⟨n,h⟩
theorem kJ{p:Option PX}{e:List Expr}(h:ckC (ck N n) sc p e=true):MC N sc p e:=by
 induction p using Option.casesOn with
 | none=>exact BQ h .none
 | some p=>exact AM h fun e h=>.some ⟨n,h⟩
@[elab_as_elim] theorem DC{e:Expr}{k:GK}{q:List Expr→Bool}{P:Expr→Prop}(h:(DX e fun f es kw _=>kw.isEmpty&&(BI f (ZB N sc k)&&q es))=true)
  (u:∀g es u pos,AS sc g=true→N.gk g=some k→q es=true→P (.Call (.Name g u) es [] pos)):P e :=
 HG h fun f es kw pos h=>BQ (P:=fun kw=>P (.Call f es kw pos)) (AA h) (B4 (P:=fun f=>P (.Call f es [] pos)) (AA (A6 h)) fun g v h1=>u g es v pos (FK h1).1 (FK h1).2 (A6 (A6 h)))
theorem QT{p:PX}{e:Expr}(h:sI N (ck N n) sc p e=true):MI N sc p e:=by
 unfold sI at h
 unfold MI
 cases z:pN p with
 | false =>
  rw [z] at h
  exact⟨Nat.ne_of_beq_eq_false (BF (AA h)),n,(A6 h)⟩
 | true =>
  rw [z] at h
  intro P w
  induction p using Og.PX.casesOn with
  | enum q=>exact DC (e:=e) (q:=fun es=>CH es (ck N n sc q)) h fun g es u pos h1 h2 h=>AM h fun x h=>w g x u pos h1 h2 ⟨n,h⟩
  | range q=>exact DC (e:=e) (q:=fun es=>CH es (ck N n sc q)) h fun g es u pos h1 h2 h=>AM h fun x h=>w g x u pos h1 h2 ⟨n,h⟩
  | zip a b=>exact DC (e:=e) (q:=fun es=>FW es fun x y=>ck N n sc a x&&ck N n sc b y) h fun g es u pos h1 h2 h=>C9 h fun x y h=>w g x y u pos h1 h2 ⟨n,(AA h)⟩ ⟨n,(A6 h)⟩
  | _=>exact BZ z
@[elab_as_elim] theorem DE{k:GK}{l:List PX}{e:Expr}{P:Expr→Prop}(h:ON N (ck N n) sc k l e=true)(u:∀g es u pos,AS sc g=true→N.gk g=some k→JO N sc l es→P (.Call (.Name g u) es [] pos)):P e :=
 DC (e:=e) (q:=b9 (ck N n) sc l) h fun g es v pos h1 h2 h=>u g es v pos h1 h2 (JX h)
theorem kK{a b:Expr}{p q:PX}(h:(ck N n sc p a&&ck N n sc q b)=true):ME N sc p a:=⟨n,(AA h)⟩
theorem kL{a b:Expr}{p q:PX}(h:(ck N n sc p a&&ck N n sc q b)=true):ME N sc q b:=⟨n,(A6 h)⟩
theorem bA{p:PX}(h:nX p=true):p=.any:=by exists p<;>first | rfl | exact BZ h
theorem ME.step{p:PX}{e:Expr}(m:ME N sc p e):p=.any∨(e.ctorIdx=jV p∧∃n,ckF N (ck N n) sc p e=true):=by
 refine Og.AI m fun n h=>?_;clear m
 induction n using Nat.casesOn with
 | zero=>exists h
 | succ n=>exact(Bool.or_eq_true_iff.mp h).imp bA fun h=>⟨Nat.eq_of_beq_eq_true (AA h),n,(A6 h)⟩
theorem eR(p:PX):(Nat.beq (jV p) 22||Nat.beq (jV p) 7)=false:=by exists p<;>rfl
theorem ME.star{p:PX}{x:Expr}{q:Pos}(m:ME N sc p (.Starred x q)):p=.any:=m.step.elim id fun h=>by
 have:=eR p
 rw [←h.1] at this
 cases this
theorem ME.noSet{p:PX}{e:Expr}(m:ME N sc p e):p=.any∨e.ctorIdx≠7:=m.step.imp id fun h z=>by
 have:=eR p
 rw [←h.1,z] at this
 exists this
@[elab_as_elim] theorem ME.elim{p:PX}{e:Expr}(m:ME N sc p e){P:Expr→Prop}(w:MEp N sc P p):P e:=by
 rcases m.step with rfl | ⟨_,n,h⟩
 ·exact w e
 induction p using Og.PX.casesOn with
 | const v=>exact GG h fun k j pos h=>w k j pos (TU h)
 | neg i=>exact KR h fun o x pos h=>PC (AA h) (GG (A6 h) fun k j u h=>PD h (w j u pos))
 | var x=>exact B4 h fun m pos h=>DL (P:=fun m=>QG sc m=true→P (.Name m pos)) (AA h) (fun h=>w pos ((IC _ _).trans h)) (A6 h)
 | glob x=>exact B4 h fun g pos h=>w g pos (FK h).1 (FK h).2
 | attr q a=>exact DB h fun f m pos h=>DL (AA (A6 h)) (w f pos (AA h) (AA (A6 (A6 h))) ⟨n,(A6 (A6 (A6 h)))⟩)
 | bin o l r=>exact WU h fun l' o' r' pos h=>N1 (AA h) (w l' r' pos (kK (A6 h)) (kL (A6 h)))
 | cmp o l r=>exact WV h fun l' os rs pos h=>AM h fun o' h=>AM h fun r' h=>N1 (AA h) (w l' r' pos (kK (A6 h)) (kL (A6 h)))
 | and2 l r=>exact LE h fun o vs pos h=>b8 (AA h) (C9 (A6 h) fun l' r' h=>w l' r' pos (kK h) (kL h))
 | or2 l r=>exact LE h fun o vs pos h=>eQ (AA h) (C9 (A6 h) fun l' r' h=>w l' r' pos (kK h) (kL h))
 | not q=>exact KR h fun o x pos h=>b7 (AA h) (w x pos ⟨n,(A6 h)⟩)
 | ite t a b=>exact b6 h fun t' a' b' pos h=>w t' a' b' pos ⟨n,(AA h)⟩ (kK (A6 h)) (kL (A6 h))
 | idx q i=>exact EV h fun f j pos h=>w f j pos (kK h) (kL h)
 | slc q lo hi=>exact EV h fun f j pos h=>GI h fun lo' hi' st u h=>CV (AA h) (w f lo' hi' u pos ⟨n,(AA (A6 h))⟩ (ZC (AA (A6 (A6 h)))) (ZC (A6 (A6 (A6 h)))))
 | rev q=>exact EV h fun f j pos h=>GI h fun lo' hi' st x h=>CV (AA h) (CV (AA (A6 h)) (B9 (A6 (A6 (A6 h))) fun s h1=>KR h1 fun o y v h1=>PC (AA h1) (GG (A6 h1) fun k j u h1=>PD h1 (w f j u v x pos ⟨n,(AA (A6 (A6 h)))⟩))))
 | tup l=>exact GH h fun es k pos h=>w es k pos (JX h)
 | list l=>exact TR h fun es pos h=>w es pos (JX h)
 | dict l=>exact TP h fun ks vs pos h=>w ks vs pos (kI h)
 | comp elt t it cond =>
  refine TQ h fun elt' gs scope pos h=>AM h fun g h=>?_
  obtain⟨t',it',ifs,as⟩:=g
  refine N1 (a:=as) (AA h) ?_
  replace h:=(A6 h)
  rw [←TO] at h
  have h4:=(A6 (A6 (A6 h)))
  have h6:=(A6 (A6 h4))
  exact w elt' t' it' ifs scope pos ((WR _ _).trans (AA h)) (AA (A6 h)) (BF (AA (A6 (A6 h)))) ((WS _ _ _).trans (AA h4)) (QS (AA (A6 h4))) (QT (AA h6)) (kJ (AA (A6 h6))) ⟨n,(A6 (A6 h6))⟩
 | callF f l=>exact DE h w
 | callC f l=>exact DE h w
 | callB f l=>exact DE h w
 | meth q m l=>exact HG h fun g es kw pos h=>BQ (AA h) (DB (A6 h) fun f a u h=>DL (AA h) (w f es u pos (AA (A6 h)) (AA (A6 (A6 h))) (Nat.blt_eq.mp (AA (A6 (A6 (A6 h))))) ⟨n,(AA (A6 (A6 (A6 (A6 h)))))⟩ (JX (A6 (A6 (A6 (A6 (A6 h))))))))
 | isStr q=>exact DC (e:=e) (q:=fun es=>FW es fun f k=>BI k (ZB N sc .strT)&&(!LD f&&ck N n sc q f)) h fun g es u pos h1 h2 h=>C9 h fun f k h=>B4 (AA h) fun k v h3=>w g k f u v pos h1 h2 (FK h3).1 (FK h3).2 (JU (BF (AA (A6 h)))) ⟨n,(A6 (A6 h))⟩
 | _=>exact BZ h
theorem ME.mkVar{x:Nat}{pos:Pos}(h:ET sc (N.nm x)=true):ME N sc (.var x) (.Name (N.nm x) pos):=⟨1,by
 show(J2 (N.nm x) (N.nm x)&&QG sc (N.nm x))=true
 rw [DK.mpr rfl,←IC,h];rfl⟩
end
section
variable(N)(sc:Scope)(C:Scope→PX→Expr→Bool)
noncomputable def kM(x:Str)(k:NameKind):Bool:=decide (PA x sc.names=some k)
theorem N2{sc:Scope}{x:Str}{k:NameKind}(h:kM sc x k=true):sc.names.lookup x=some k:=(HB x _).trans (of_decide_eq_true h)
noncomputable def yP(xs:List Nat)(q:PX)(ts:List Expr)(e:Expr):Bool:=match QR e with
 | false=>all2 (fun x e=>BI e (JW N sc x)) xs ts&&(!DM e&&C sc q e)
 | true=>C sc q e&&FW xs fun x y=>FW ts fun a b=>TS e fun es=>FW es fun e1 e2=>QM a fun m u=>QM b fun k v =>
  J2 (N.nm x) m&&(J2 (N.nm y) k&&(!N.isA x&&(!N.isA y&&((QH sc m&&kM sc k .cell)||(kM sc m .local&&(kM sc k .local&&(!J2 m k&&((u.line==v.line)&&ZA [e1,e2]))))))))
noncomputable def yQ(B:List PS→List Stmt→Bool)(p:PS)(st:Stmt):Bool:=match p with
 | .assign x q=>D4 st fun ts e=>CH ts fun t=>BI t (JW N sc x)&&C sc q e
 | .attr o a q=>D4 st fun ts e=>CH ts fun t=>J4 t fun o' m _=>N.isA a&&(J2 (N.nm a) m&&(C sc o o'&&C sc q e))
 | .sub o i q=>D4 st fun ts e=>CH ts fun t=>PB t fun o' i'=>!DM e&&(C sc q e&&(C sc o o'&&C sc i i'))
 | .unp xs q=>D4 st fun ts e=>CH ts fun t=>TS t fun ts=>yP N sc C xs q ts e
 | .expr q=>QP st fun e=>!DM e&&C sc q e
 | .ifs t a b=>eO st fun t' a' b'=>C sc t t'&&(B a a'&&B b b')
 | .for t it b=>eN st fun t' it' b' el=>el.isEmpty&&(GR it t&&(tN N sc t t'&&(sI N C sc it it'&&B b b')))
 | .whl t b=>Z7 st fun t' b' el=>el.isEmpty&&(C sc t t'&&B b b')
 | .ret q=>Z6 st fun e=>AZ e (C sc q)
 | .brk=>Z8 st true
 | .any=>true
noncomputable def tO(S:PS→Stmt→Bool)(B:List GS→List Stmt→Bool)(p:GS)(st:Stmt):Bool:=match p with
 | .leaf q=>S q st
 | .assign x f l=>D4 st fun ts e=>CH ts fun t=>BI t (JW N sc x)&&ON N C sc (.fn f) l e
 | .expr f l=>QP st (ON N C sc (.fn f) l)
 | .ret f l=>Z6 st fun e=>AZ e (ON N C sc (.fn f) l)
 | .retC k l=>Z6 st fun e=>AZ e (ON N C sc (.cls k) l)
 | .barr x q=>D4 st fun ts e=>CH ts fun t=>BI t (JW N sc x)&&DX e fun g es kw _=>kw.isEmpty&&(BI g (ZB N sc .barr)&&CH es fun f=>!LD f&&C sc q f)
 | .barrC o a f l=>D4 st fun ts e=>CH ts fun t=>J4 t fun o' m _=>N.isA a&&(J2 (N.nm a) m&&(C sc o o'&&DX e fun g es kw _=>kw.isEmpty&&(BI g (ZB N sc .barr)&&CH es (ON N C sc (.fn f) l))))
 | .slc o lo hi q=>D4 st fun ts e=>CH ts fun t=>PB t fun o' j=>M6 j fun lo' hi' z=>z.isNone&&(AZ lo' (C sc lo)&&(AZ hi' (C sc hi)&&(!DM e&&(C sc o o'&&C sc q e))))
 | .ifs t a b=>eO st fun t' a' b'=>C sc t t'&&(B a a'&&B b b')
 | .for t it b=>eN st fun t' it' b' el=>el.isEmpty&&(GR it t&&(tN N sc t t'&&(sI N C sc it it'&&B b b')))
 | .raise q=>onRaise st fun e f=>f.isNone&&AZ e fun e=>DX e fun g es kw _=>kw.isEmpty&&(BI g (ZB N sc .fault)&&CH es fun x=>!LD x&&C sc q x)
 | .try_ b h=>nW st fun b' hs el fi=>el.isEmpty&&(fi.isEmpty&&(B b b'&&CH hs fun hd=>match hd with
  | .ExceptHandler ty nm h' _=>nm.isNone&&(AZ ty (fun t=>BI t (ZB N sc .fault))&&B h h')))
end
noncomputable def pO(N:Nm)(sc:Scope):Nat→PS→Stmt→Bool
 | 0,_,_=>false
 | n+1,p,st=>yQ N sc (ck N n) (all2 (pO N sc n)) p st
noncomputable def pP(N:Nm)(sc:Scope):Nat→GS→Stmt→Bool
 | 0,_,_=>false
 | n+1,p,st=>tO N sc (ck N n) (pO N sc (n+1)) (all2 (pP N sc n)) p st
theorem eS{N:Nm}{sc:Scope}:∀{n:Nat} {q:PS} {st:Stmt},pP N sc n (.leaf q) st=pO N sc n q st
 | 0,_,_=>rfl
 | _+1,_,_=>rfl
theorem eU{α β γ:Type}{f:γ→β→Bool}{g:α→γ}{l:List α}:∀{m:List β},all2 f (l.map g) m=all2 (fun a=>f (g a)) l m:=by
 induction l with
 | nil=>exact rfl
 | cons a l ih =>
  intro m
  induction m using List.casesOn with
  | nil=>rfl
  | cons b m=>exact congrArg (f (g a) b&&·) ih
noncomputable def MS(N:Nm)(sc:Scope)(p:PS)(st:Stmt):Prop:=∃n,pO N sc n p st=true
noncomputable def MG(N:Nm)(sc:Scope)(p:GS)(st:Stmt):Prop:=∃n,pP N sc n p st=true
abbrev TV(N:Nm)(sc:Scope):List PS→List Stmt→Prop:=LS (MS N sc)
abbrev eW(N:Nm)(sc:Scope):List GS→List Stmt→Prop:=LS (MG N sc)
noncomputable def MU(N:Nm)(sc:Scope)(xs:List Nat)(q:PX)(ts:List Expr)(e:Expr):Prop :=
 (MN N sc xs ts∧DM e=false∧QR e=false∧ME N sc q e) ∨
 ∃x y u v e1 e2 j w,xs=[x,y]∧ts=[.Name (N.nm x) u,.Name (N.nm y) v]∧e=.Tuple [e1,e2] j w∧N.isA x=false∧N.isA y=false∧ME N sc q (.Tuple [e1,e2] j w) ∧
  ((EU sc (N.nm x)=true∧sc.names.lookup (N.nm y)=some .cell)∨(sc.names.lookup (N.nm x)=some .local∧sc.names.lookup (N.nm y)=some .local∧N.nm x≠N.nm y∧(u.line==v.line)=true∧ZA [e1,e2]=true))
noncomputable def MSp(N:Nm)(sc:Scope)(P:Stmt→Prop)(p:PS):Prop:=match p with
 | .assign x q=>∀u e pos,N.isA x=false→EU sc (N.nm x)=true→ME N sc q e→P (.Assign [.Name (N.nm x) u] e pos)
 | .attr o a q=>∀o' u e pos,N.isA a=true→ME N sc o o'→ME N sc q e→P (.Assign [.Attribute o' (N.nm a) u] e pos)
 | .sub o i q=>∀o' i' u e pos,DM e=false→ME N sc q e→ME N sc o o'→ME N sc i i'→P (.Assign [.Subscript o' i' u] e pos)
 | .unp xs q=>∀ts k u e pos,MU N sc xs q ts e→P (.Assign [.Tuple ts k u] e pos)
 | .expr q=>∀e pos,DM e=false→ME N sc q e→P (.Expr e pos)
 | .ifs t a b=>∀t' a' b' pos,ME N sc t t'→TV N sc a a'→TV N sc b b'→P (.If t' a' b' pos)
 | .for t it b=>∀t' it' b' pos,GR it t=true→MT N sc t t'→MI N sc it it'→TV N sc b b'→P (.For t' it' b' [] pos)
 | .whl t b=>∀t' b' pos,ME N sc t t'→TV N sc b b'→P (.While t' b' [] pos)
 | .ret q=>∀e pos,ME N sc q e→P (.Return (some e) pos)
 | .brk=>∀pos,P (.Break pos)
 | .any=>∀st,P st
noncomputable def MGp(N:Nm)(sc:Scope)(P:Stmt→Prop)(p:GS):Prop:=match p with
 | .leaf p=>∀st,MS N sc p st→P st
 | .assign x f l=>∀g es u q p pos,N.isA x=false→EU sc (N.nm x)=true→AS sc g=true→N.gk g=some (.fn f)→JO N sc l es→P (.Assign [.Name (N.nm x) q] (.Call (.Name g u) es [] p) pos)
 | .expr f l=>∀g es u p pos,AS sc g=true→N.gk g=some (.fn f)→JO N sc l es→P (.Expr (.Call (.Name g u) es [] p) pos)
 | .ret f l=>∀g es u p pos,AS sc g=true→N.gk g=some (.fn f)→JO N sc l es→P (.Return (some (.Call (.Name g u) es [] p)) pos)
 | .retC f l=>∀g es u p pos,AS sc g=true→N.gk g=some (.cls f)→JO N sc l es→P (.Return (some (.Call (.Name g u) es [] p)) pos)
 | .barr x q=>∀g e u v p pos,N.isA x=false→EU sc (N.nm x)=true→AS sc g=true→N.gk g=some .barr→(∀x q,e≠.Starred x q)→ME N sc q e→P (.Assign [.Name (N.nm x) v] (.Call (.Name g u) [e] [] p) pos)
 | .barrC o a f l=>∀g k o' es u v w p q pos,N.isA a=true→ME N sc o o'→AS sc k=true→N.gk k=some .barr→AS sc g=true→N.gk g=some (.fn f)→JO N sc l es→P (.Assign [.Attribute o' (N.nm a) v] (.Call (.Name k u) [.Call (.Name g w) es [] q] [] p) pos)
 | .slc o lo hi p=>∀o' lo' hi' e u v pos,ME N sc o o'→ME N sc lo lo'→ME N sc hi hi'→ME N sc p e→DM e=false→P (.Assign [.Subscript o' (.Slice (some lo') (some hi') .none u) v] e pos)
 | .ifs t a b=>∀t' a' b' pos,ME N sc t t'→eW N sc a a'→eW N sc b b'→P (.If t' a' b' pos)
 | .for t it b=>∀t' it' b' pos,GR it t=true→MT N sc t t'→MI N sc it it'→eW N sc b b'→P (.For t' it' b' [] pos)
 | .raise q=>∀g e u p pos,AS sc g=true→N.gk g=some .fault→(∀x q,e≠.Starred x q)→ME N sc q e→P (.Raise (some (.Call (.Name g u) [e] [] p)) .none pos)
 | .try_ b h=>∀b' h' g u p pos,AS sc g=true→N.gk g=some .fault→eW N sc b b'→eW N sc h h'→P (.Try b' [.ExceptHandler (some (.Name g u)) .none h' p] [] [] pos)
section
variable{N:Nm}{sc:Scope}{n:Nat}
theorem FX{l:List PS}{m:List Stmt}(h:all2 (pO N sc n) l m=true):TV N sc l m:=M7 (fun _ _ h=>⟨n,h⟩) h
theorem EQ{l:List GS}{m:List Stmt}(h:all2 (pP N sc n) l m=true):eW N sc l m:=M7 (fun _ _ h=>⟨n,h⟩) h
theorem kN{xs:List Nat}{q:PX}{ts:List Expr}{e:Expr}(h:yP N sc (ck N n) xs q ts e=true):MU N sc xs q ts e:=by
 unfold yP at h
 cases z:QR e with
 | false =>
  rw [z] at h
  exact .inl ⟨kH (AA h),BF (AA (A6 h)),z,n,(A6 (A6 h))⟩
 | true =>
  rw [z] at h
  clear z
  refine C9 (A6 h) fun x y h1=>C9 h1 fun a b h1=>GH (P:=fun e=>ck N n sc q e=true→MU N sc [x,y] q [a,b] e) h1 (fun es j w h1=>C9 h1 fun e1 e2 h1=>JV h1 fun m u h1=>JV h1 fun k v h=>?_) (AA h)
  exists DK.mp (AA h)
  exists DK.mp (AA (A6 h))
  replace h:=(A6 (A6 h))
  refine fun h0=>.inr ⟨x,y,u,v,e1,e2,j,w,rfl,rfl,rfl,BF (AA h),BF (AA (A6 h)),⟨n,h0⟩,(Bool.or_eq_true_iff.mp (A6 (A6 h))).imp (fun h=>⟨(QI _ _).trans (AA h),N2 (A6 h)⟩) fun h=>?_⟩
  have h2:=(A6 (A6 h))
  have ne:N.nm x≠N.nm y:=fun z=>by
   have:=(AA h2)
   rw [DK.mpr z] at this
   exists this
  exact⟨N2 (AA h),N2 (AA (A6 h)),ne,(AA (A6 h2)),(A6 (A6 h2))⟩
@[elab_as_elim] theorem MS.elim{p:PS}{st:Stmt}(m:MS N sc p st){P:Stmt→Prop}(w:MSp N sc P p):P st:=by
 refine Og.AI m fun n h=>?_;clear m
 cases n with
 | zero=>exact BZ h
 | succ n =>
  induction p using Og.PS.casesOn with
  | assign x q=>exact BG h fun ts e pos h=>AM h fun t h=>B4 (AA h) fun m u h1=>D6 h1 fun h2 h3=>w u e pos h2 h3 ⟨n,(A6 h)⟩
  | attr o a q=>exact BG h fun ts e pos h=>AM h fun t h=>DB h fun o' m u h=>DL (AA (A6 h)) (w o' u e pos (AA h) (kK (A6 (A6 h))) (kL (A6 (A6 h))))
  | sub o i q=>exact BG h fun ts e pos h=>AM h fun t h=>EV h fun o' i' u h=>w o' i' u e pos (BF (AA h)) ⟨n,(AA (A6 h))⟩ (kK (A6 (A6 h))) (kL (A6 (A6 h)))
  | unp xs q=>exact BG h fun ts e pos h=>AM h fun t h=>GH h fun ts k u h=>w ts k u e pos (kN h)
  | expr q=>exact HH h fun e pos h=>w e pos (BF (AA h)) ⟨n,(A6 h)⟩
  | ifs t a b=>exact MZ h fun t' a' b' pos h=>w t' a' b' pos ⟨n,(AA h)⟩ (FX (AA (A6 h))) (FX (A6 (A6 h)))
  | «for» t it b=>exact J6 h fun t' it' b' el pos h=>BQ (AA h) (w t' it' b' pos (AA (A6 h)) (QS (AA (A6 (A6 h)))) (QT (AA (A6 (A6 (A6 h))))) (FX (A6 (A6 (A6 (A6 h))))))
  | whl t b=>exact QN h fun t' b' el pos h=>BQ (AA h) (w t' b' pos ⟨n,(AA (A6 h))⟩ (FX (A6 (A6 h))))
  | ret q=>exact J5 h fun e pos h=>B9 h fun e h=>w e pos ⟨n,h⟩
  | brk=>exact QQ h fun pos _=>w pos
  | any=>exact w st
@[elab_as_elim] theorem MG.elim{p:GS}{st:Stmt}(m:MG N sc p st){P:Stmt→Prop}(w:MGp N sc P p):P st:=by
 refine Og.AI m fun n h=>?_;clear m
 cases n with
 | zero=>exact BZ h
 | succ n =>
  induction p using Og.GS.casesOn with
  | leaf q=>exact w st ⟨n+1,h⟩
  | assign x f l=>exact BG h fun ts e pos h=>AM h fun t h=>B4 (AA h) fun m q h1=>D6 h1 fun h2 h3=>DE (A6 h) fun g es u p h4 h5 h6=>w g es u q p pos h2 h3 h4 h5 h6
  | expr f l=>exact HH h fun e pos h=>DE h fun g es u p h4 h5 h6=>w g es u p pos h4 h5 h6
  | ret f l=>exact J5 h fun e pos h=>B9 h fun e h=>DE h fun g es u p h4 h5 h6=>w g es u p pos h4 h5 h6
  | retC f l=>exact J5 h fun e pos h=>B9 h fun e h=>DE h fun g es u p h4 h5 h6=>w g es u p pos h4 h5 h6
  | barr x q=>exact BG h fun ts e pos h=>AM h fun t h=>B4 (AA h) fun m v h1=>D6 h1 fun h2 h3=>DC (e:=e) (q:=fun es=>CH es fun f=>!LD f&&ck N n sc q f) (A6 h) fun g es u p h4 h5 h=>AM h fun e h=>w g e u v p pos h2 h3 h4 h5 (JU (BF (AA h))) ⟨n,(A6 h)⟩
  | barrC o a f l=>exact BG h fun ts e pos h=>AM h fun t h=>DB h fun o' m v h=>DL (AA (A6 h)) (DC (e:=e) (q:=fun es=>CH es (ON N (ck N n) sc (.fn f) l)) (A6 (A6 (A6 h))) fun k es u p h2 h3 h6=>AM h6 fun e h6=>DE h6 fun g es x q h4 h5 h6 =>
    w g k o' es u v x p q pos (AA h) ⟨n,(AA (A6 (A6 h)))⟩ h2 h3 h4 h5 h6)
  | slc o lo hi q=>exact BG h fun ts e pos h=>AM h fun t h=>EV h fun o' j v h=>GI h fun lo' hi' z u h=>CV (AA h) (B9 (AA (A6 h)) fun lo' h1=>B9 (AA (A6 (A6 h))) fun hi' h2 =>
    w o' lo' hi' e u v pos (kK (A6 (A6 (A6 (A6 h))))) ⟨n,h1⟩ ⟨n,h2⟩ (kL (A6 (A6 (A6 (A6 h))))) (BF (AA (A6 (A6 (A6 h))))))
  | ifs t a b=>exact MZ h fun t' a' b' pos h=>w t' a' b' pos ⟨n,(AA h)⟩ (EQ (AA (A6 h))) (EQ (A6 (A6 h)))
  | «for» t it b=>exact J6 h fun t' it' b' el pos h=>BQ (AA h) (w t' it' b' pos (AA (A6 h)) (QS (AA (A6 (A6 h)))) (QT (AA (A6 (A6 (A6 h))))) (EQ (A6 (A6 (A6 (A6 h))))))
  | raise q=>exact QO h fun e f pos h=>CV (AA h) (B9 (A6 h) fun e h=>DC (e:=e) (q:=fun es=>CH es fun x=>!LD x&&ck N n sc q x) h fun g es u p h4 h5 h=>AM h fun e h=>w g e u p pos h4 h5 (JU (BF (AA h))) ⟨n,(A6 h)⟩)
  | try_ b h' =>
   refine WW h fun b' hs el fi pos h=>BQ (AA h) (BQ (AA (A6 h)) (AM (A6 (A6 (A6 h))) fun hd h1=>?_))
   obtain⟨ty,nm,h',p⟩:=hd
   exact CV (AA h1) (B9 (AA (A6 h1)) fun t h2=>B4 h2 fun g u h2=>w b' h' g u p pos (FK h2).1 (FK h2).2 (EQ (AA (A6 (A6 h)))) (EQ (A6 (A6 h1))))
theorem MG.leafFor{t:PT}{it:PX}{b:List PS}{st:Stmt}(m:MG N sc (.leaf (.for t it b)) st):MG N sc (.for t it (b.map .leaf)) st:=by
 refine Og.AI m fun n h=>?_;clear m
 refine⟨n,?_⟩
 induction n using Nat.casesOn with
 | zero=>exists h
 | succ n =>
  refine J6 h fun t' it' b' el pos h=>?_
  show(el.isEmpty&&(GR it t&&(tN N sc t t'&&(sI N (ck N n) sc it it'&&all2 (pP N sc n) (b.map .leaf) b'))))=true
  rw [eU]
  rw [show(fun a=>pP N sc n (.leaf a))=pO N sc n from funext fun _=>funext fun _=>eS]
  exact h
end
noncomputable def mSs(N:Nm)(sc:Scope)(n:Nat)(p:List PS)(s:List Stmt):Bool:=all2 (pO N sc n) p s
noncomputable def mGs(N:Nm)(sc:Scope)(n:Nat)(p:List GS)(s:List Stmt):Bool:=all2 (pP N sc n) p s
theorem bB{N:Nm}{sc:Scope}{n:Nat}{p:List PS}{s:List Stmt}(h:mSs N sc n p s=true):TV N sc p s:=FX h
theorem bC{N:Nm}{sc:Scope}{n:Nat}{p:List GS}{s:List Stmt}(h:mGs N sc n p s=true):eW N sc p s:=EQ h
end
end Og
end
section
namespace Og
noncomputable def fn1:Fn:=⟨[9,10,11,12,13,14],[],[(.attr (.var 9) 500 (.var 10)),(.attr (.var 9) 501 (.var 11)),(.attr (.var 9) 502 (.var 12)),(.attr (.var 9) 503 (.bin .add (.list [(.tup [(.idx (.var 13) (.const (.int 0))),(.idx (.var 13) (.const (.int 1))),(.const (.bool false))])]) (.callB .list [(.var 14)]))),(.ifs (.and2 (.cmp .eq (.var 11) (.const (.str [101,120,116,101,110,100]))) (.cmp .ne (.var 12) (.const (.str [115,101,113,117,101,110,116,105,97,108])))) [.any] []),(.ifs (.cmp .eq (.var 11) (.const (.str [111,117,116,112,117,116]))) [(.expr (.meth (.var 10) 1 []))] []),(.attr (.var 9) 504 (.comp (.bin .mul (.list [(.var 15)]) (.callB .len [(.attr (.var 9) 503)])) (.one 15) (.range (.callB .len [(.var 10)])) none)),(.attr (.var 9) 505 (.callB .len [(.var 10)])),(.attr (.var 9) 506 (.const (.int 0))),(.attr (.var 9) 507 (.tup [(.const (.bytes [])),(.neg 1)])),(.attr (.var 9) 508 (.const (.bool false))),(.attr (.var 9) 509 (.neg 1)),(.attr (.var 9) 510 (.const (.bytes []))),(.ifs (.and2 (.cmp .eq (.var 11) (.const (.str [101,120,116,101,110,100]))) (.cmp .ne (.var 10) (.list []))) [.any] [])]⟩
noncomputable def fn2:Fn:=⟨[9,10,11,12,16],[(.int 0)],[(.attr (.var 9) 500 (.var 10)),(.attr (.var 9) 501 (.var 11)),(.attr (.var 9) 502 (.var 12)),(.attr (.var 9) 511 (.var 16)),(.attr (.var 9) 512 (.const (.int 1))),(.attr (.var 9) 513 (.const (.bool false))),(.attr (.var 9) 514 (.const (.bool true))),(.attr (.var 9) 515 (.const (.int 0))),(.ifs (.cmp .eq (.var 11) (.const (.str [101,120,116,101,110,100]))) [.any] []),(.ifs (.cmp .eq (.var 11) (.const (.str [111,117,116,112,117,116]))) [(.expr (.meth (.var 10) 1 []))] []),(.attr (.var 9) 516 (.ite (.and2 (.cmp .eq (.var 11) (.const (.str [101,120,116,101,110,100]))) (.var 10)) (.callB .max [(.var 10)]) (.const (.int 0))))]⟩
noncomputable def fn3:Fn:=⟨[9,10,11],[],[(.attr (.var 9) 500 (.var 10)),(.attr (.var 9) 501 (.var 11)),(.attr (.var 9) 507 (.const (.int 0))),(.attr (.var 9) 514 (.const (.bool true))),(.attr (.var 9) 515 (.neg 1)),(.ifs (.cmp .eq (.var 11) (.const (.str [111,117,116,112,117,116]))) [(.expr (.meth (.var 10) 1 []))] [])]⟩
noncomputable def fn4:Fn:=⟨[17],[],[(.ret (.meth (.dict [((.const (.str [48])),(.const (.str []))),((.const (.str [49])),(.const (.str [101,110,100]))),((.const (.str [50])),(.const (.str [105,110,118,97,108,105,100])))]) 5 [(.slc (.var 17) none (some (.const (.int 1)))),(.const (.str [102,97,117,108,116]))]))]⟩
noncomputable def fn5:Fn:=⟨[9],[],[(.attr (.var 9) 517 (.dict []))]⟩
noncomputable def fn6:Fn:=⟨[9],[],[(.ret (.callB .sorted [(.attr (.var 9) 517)]))]⟩
noncomputable def fn7:Fn:=⟨[9,18],[],[(.ret (.ite (.cmp .isin (.var 18) (.attr (.var 9) 517)) (.idx (.idx (.attr (.var 9) 517) (.var 18)) (.const (.int 0))) (.const (.str []))))]⟩
noncomputable def fn8:Fn:=⟨[9,18],[],[(.ifs (.cmp .notin (.var 18) (.attr (.var 9) 517)) [.any] []),(.ret (.idx (.idx (.attr (.var 9) 517) (.var 18)) (.const (.int 1))))]⟩
noncomputable def fn9:Fn:=⟨[9,18,19],[],[(.ifs (.cmp .notin (.var 19) (.glob 20)) [.any] []),(.assign 10 (.ite (.cmp .eq (.var 19) (.const (.str [114,101,108,97,116,105,118,101]))) (.dict []) (.list []))),(.sub (.attr (.var 9) 517) (.var 18) (.tup [(.var 19),(.var 10)])),(.ret (.var 10))]⟩
noncomputable def yR:Fn:=⟨[9,18,19,21],[],[(.ifs (.and2 (.cmp .eq (.var 19) (.const (.str [114,101,108,97,116,105,118,101]))) (.cmp .ne (.comp (.var 22) (.one 22) (.var 21) (some (.cmp .lt (.idx (.var 22) (.const (.int 0))) (.const (.int 1))))) (.list []))) [.any] []),(.assign 10 (.meth (.var 9) 23 [(.var 18),(.var 19)])),(.for (.one 22) (.var 21) [(.ifs (.cmp .eq (.var 19) (.const (.str [114,101,108,97,116,105,118,101]))) [(.sub (.var 10) (.idx (.var 22) (.const (.int 0))) (.callB .bytes [(.idx (.var 22) (.const (.int 1)))]))] [(.expr (.meth (.var 10) 0 [(.callB .bytes [(.var 22)])]))])])]⟩
noncomputable def yS:Fn:=⟨[9,18,19,11],[],[(.ifs (.cmp .eq (.var 11) (.const (.str [111,117,116,112,117,116]))) [(.ret (.tup [(.const (.str [48,48])),(.meth (.var 9) 23 [(.var 18),(.var 19)])]))] []),(.ifs (.cmp .notin (.var 18) (.attr (.var 9) 517)) [(.ret (.tup [(.const (.str [51,53])),(.const .none)]))] []),(.ifs (.cmp .ne (.meth (.var 9) 24 [(.var 18)]) (.var 19)) [(.ret (.tup [(.const (.str [51,57])),(.const .none)]))] []),(.ret (.tup [(.const (.str [48,48])),(.meth (.var 9) 25 [(.var 18)])]))]⟩
noncomputable def yT:Fn:=⟨[9,18],[],[(.assign 10 (.meth (.var 9) 25 [(.var 18)])),(.ifs (.cmp .eq (.meth (.var 9) 24 [(.var 18)]) (.const (.str [114,101,108,97,116,105,118,101]))) [(.ret (.callB .tuple [(.comp (.tup [(.var 26),(.idx (.var 10) (.var 26))]) (.one 26) (.callB .sorted [(.var 10)]) none)]))] []),(.ret (.callB .tuple [(.var 10)]))]⟩
noncomputable def yU:Fn:=⟨[9],[],[(.ret (.callB .tuple [(.comp (.tup [(.var 18),(.meth (.var 9) 24 [(.var 18)]),(.meth (.var 9) 27 [(.var 18)])]) (.one 18) (.meth (.var 9) 28 []) none)]))]⟩
noncomputable def yV:Fn:=⟨[9,29,30],[],[(.attr (.var 9) 518 (.var 29)),(.attr (.var 9) 519 (.var 30)),(.attr (.var 9) 520 (.const .none)),(.attr (.var 9) 521 (.const (.str []))),(.attr (.var 9) 522 (.const (.str []))),(.attr (.var 9) 523 (.const (.bool false))),(.attr (.var 9) 524 (.const .none)),(.attr (.var 9) 525 (.const (.str []))),(.attr (.var 9) 526 (.const .none)),(.attr (.var 9) 527 (.const (.bool false))),(.attr (.var 9) 528 (.const (.bool false))),(.attr (.var 9) 529 (.list [])),(.attr (.var 9) 530 (.list [])),(.attr (.var 9) 531 (.const .none)),(.attr (.var 9) 532 (.const .none)),(.attr (.var 9) 533 (.const (.str []))),(.attr (.var 9) 534 (.const (.int 0))),(.attr (.var 9) 535 (.const (.int 0))),(.attr (.var 9) 536 (.const .none))]⟩
noncomputable def yW:Fn:=⟨[9,31],[],[(.attr (.var 31) 531 (.var 9)),(.expr (.meth (.attr (.var 9) 530) 0 [(.var 31)]))]⟩
noncomputable def yX:Fn:=⟨[9],[],[(.ret (.ite (.cmp .is_ (.attr (.var 9) 524) (.const .none)) (.const (.int 1)) (.attr (.attr (.var 9) 524) 537)))]⟩
noncomputable def yY:Fn:=⟨[9],[],[(.attr (.var 9) 538 (.list [])),(.attr (.var 9) 539 (.list [])),(.attr (.var 9) 517 (.dict [])),(.attr (.var 9) 540 (.list [])),(.attr (.var 9) 535 (.const (.int 0))),(.attr (.var 9) 541 (.dict []))]⟩
noncomputable def yZ:Fn:=⟨[32],[],[(.assign 33 (.list [])),(.for (.one 30) (.attr (.var 32) 517) [(.expr (.meth (.var 33) 2 [(.idx (.attr (.var 32) 517) (.var 30))]))]),(.ret (.bin .add (.bin .add (.var 33) (.attr (.var 32) 538)) (.attr (.var 32) 539)))]⟩
noncomputable def z5:Fn:=⟨[34],[],[(.assign 33 (.list [])),(.assign 35 (.list [(.var 34)])),(.whl (.cmp .ne (.var 35) (.list [])) [(.assign 36 (.meth (.var 35) 3 [])),(.expr (.meth (.var 33) 0 [(.var 36)])),(.expr (.meth (.var 35) 2 [(.rev (.attr (.var 36) 530))]))]),(.ret (.var 33))]⟩
noncomputable def z6:Fn:=⟨[32],[],[(.assign 33 (.list [])),(.for (.one 37) (.callF 18 [(.var 32)]) [(.expr (.meth (.var 33) 2 [(.callF 19 [(.var 37)])]))]),(.ret (.var 33))]⟩
noncomputable def z7:Fn:=⟨[34],[],[(.assign 33 (.list [])),(.assign 38 (.attr (.var 34) 531)),(.whl (.cmp .isnot (.var 38) (.const .none)) [(.expr (.meth (.var 33) 0 [(.var 38)])),(.assign 38 (.attr (.var 38) 531))]),(.ret (.var 33))]⟩
noncomputable def z8:Fn:=⟨[34],[],[(.assign 39 (.callF 21 [(.var 34)])),(.ret (.ite (.cmp .ne (.var 39) (.list [])) (.idx (.var 39) (.neg 1)) (.var 34)))]⟩
noncomputable def z9:Fn:=⟨[34],[],[(.ret (.comp (.attr (.var 36) 519) (.one 36) (.callF 21 [(.var 34)]) (some (.cmp .ne (.attr (.var 36) 519) (.glob 40)))))]⟩
noncomputable def zA:Fn:=⟨[34],[],[(.assign 35 (.bin .add (.rev (.callF 21 [(.var 34)])) (.list [(.var 34)]))),(.ret (.comp (.var 36) (.one 36) (.var 35) (some (.cmp .isnot (.attr (.var 36) 524) (.const .none)))))]⟩
noncomputable def zB:Fn:=⟨[34],[],[(.ret (.cmp .ne (.comp (.var 31) (.one 31) (.attr (.var 34) 530) (some (.cmp .ne (.attr (.var 31) 518) (.glob 41)))) (.list [])))]⟩
noncomputable def zC:Fn:=⟨[34],[],[(.ret (.comp (.var 31) (.one 31) (.attr (.var 34) 530) (some (.cmp .ne (.attr (.var 31) 518) (.glob 41)))))]⟩
noncomputable def zD:Fn:=⟨[9,42,43,44,45,46,47,48,49],[.none,(.str [100,105,115,112,108,97,121]),(.str [116,114,97,105,108,105,110,103]),(.bool false),(.bool false),(.bool false)],[(.attr (.var 9) 542 (.var 42)),(.attr (.var 9) 535 (.var 43)),(.attr (.var 9) 543 (.var 44)),(.attr (.var 9) 521 (.var 45)),(.attr (.var 9) 522 (.var 46)),(.attr (.var 9) 523 (.var 47)),(.attr (.var 9) 527 (.var 48)),(.attr (.var 9) 528 (.var 49)),(.attr (.var 9) 544 (.const (.int 0))),(.attr (.var 9) 545 (.const (.int 0))),(.attr (.var 9) 546 (.const (.bool false))),(.ifs (.and2 (.cmp .isnot (.var 44) (.const .none)) (.cmp .isin (.var 42) (.tup [(.const (.str [110,117,109,101,114,105,99])),(.const (.str [101,100,105,116,101,100]))]))) [.any,.any,.any] [])]⟩
noncomputable def zE:Fn:=⟨[50],[],[(.ret (.cmp .eq (.attr (.var 50) 542) (.const (.str [110,117,109,101,114,105,99]))))]⟩
noncomputable def zF:Fn:=⟨[50],[],[(.ret (.bin .pow (.const (.int 10)) (.attr (.var 50) 544)))]⟩
noncomputable def zG:Fn:=⟨[51],[],[(.ret (.callC 7 [(.const (.str [97,108,112,104,97,110,117,109,101,114,105,99])),(.callB .len [(.var 51)])]))]⟩
noncomputable def zH:Fn:=⟨[42,43,45,52,53,54],[],[(.assign 33 (.callC 7 [(.var 42),(.var 43),(.const .none),(.var 45)])),(.attr (.var 33) 544 (.var 52)),(.attr (.var 33) 545 (.var 53)),(.attr (.var 33) 546 (.var 54)),(.ret (.var 33))]⟩
noncomputable def zI:Fn:=⟨[26],[],[(.unp [55,56] (.tup [(.const (.int 1)),(.bin .fdiv (.var 26) (.const (.int 10)))])),(.whl (.cmp .gt (.var 56) (.const (.int 0))) [.any,.any]),(.ret (.var 55))]⟩
noncomputable def zJ:Fn:=⟨[26],[],[(.unp [57,53] (.var 26)),(.assign 52 (.callB .max [(.callF 32 [(.callB .abs [(.var 57)])]),(.var 53)])),(.ret (.callF 31 [(.const (.str [110,117,109,101,114,105,99])),(.var 52),(.const (.str [100,105,115,112,108,97,121])),(.var 52),(.var 53),(.cmp .lt (.var 57) (.const (.int 0)))]))]⟩
noncomputable def zK:Fn:=⟨[50,57],[],[(.assign 58 (.bin .mod (.callB .abs [(.var 57)]) (.callF 29 [(.var 50)]))),(.ret (.ite (.and2 (.cmp .lt (.var 57) (.const (.int 0))) (.attr (.var 50) 546)) (.bin .sub (.const (.int 0)) (.var 58)) (.var 58)))]⟩
noncomputable def zL:Fn:=⟨[26,55],[],[(.unp [33,56] (.tup [(.list []),(.var 26)])),(.for (.one 59) (.range (.var 55)) [(.expr (.meth (.var 33) 0 [(.bin .mod (.var 56) (.const (.int 10)))])),(.assign 56 (.bin .fdiv (.var 56) (.const (.int 10))))]),(.ret (.rev (.var 33)))]⟩
noncomputable def zM:Fn:=⟨[50,57],[],[(.assign 60 (.comp (.bin .add (.glob 61) (.var 62)) (.one 62) (.callF 35 [(.callB .abs [(.var 57)]),(.attr (.var 50) 544)]) none)),(.ifs (.not (.attr (.var 50) 546)) [(.ret (.callB .bytes [(.var 60)]))] []),.any,.any,.any,.any,.any]⟩
noncomputable def zN:Fn:=⟨[50,57],[],[(.assign 58 (.callF 34 [(.var 50),(.var 57)])),(.ifs (.cmp .eq (.attr (.var 50) 521) (.const (.str [100,105,115,112,108,97,121]))) [(.ret (.callF 36 [(.var 50),(.var 58)]))] []),.any]⟩
noncomputable def zO:Fn:=⟨[34],[],[(.ifs (.or2 (.cmp .eq (.attr (.attr (.var 34) 536) 542) (.const (.str [105,110,100,101,120]))) (.callF 28 [(.attr (.var 34) 536)])) [(.ret (.callF 37 [(.attr (.var 34) 536),(.const (.int 0))]))] []),(.ret (.bin .mul (.const (.bytes [32])) (.attr (.var 34) 535)))]⟩
noncomputable def zP:Fn:=⟨[34],[],[(.ifs (.cmp .isnot (.attr (.var 34) 526) (.const .none)) [.any] []),(.ifs (.not (.callF 25 [(.var 34)])) [(.ret (.callF 38 [(.var 34)]))] []),(.assign 63 (.comp (.var 31) (.one 31) (.callF 26 [(.var 34)]) (some (.cmp .eq (.attr (.var 31) 525) (.const (.str [])))))),(.ret (.meth (.const (.bytes [])) 8 [(.comp (.bin .mul (.callF 39 [(.var 31)]) (.meth (.var 31) 55 [])) (.one 31) (.var 63) none)]))]⟩
noncomputable def zQ:GFn:=⟨[32],[],[(.barr 33 (.bin .mul (.const (.bytes [32])) (.attr (.var 32) 535))),(.for (.one 30) (.attr (.var 32) 517) [(.for (.one 37) (.rev (.idx (.attr (.var 32) 517) (.var 30))) [(.slc (.var 33) (.attr (.var 37) 534) (.bin .add (.attr (.var 37) 534) (.attr (.var 37) 535)) (.callF 39 [(.var 37)]))])]),(.for (.one 37) (.attr (.var 32) 538) [(.ifs (.cmp .eq (.attr (.var 37) 525) (.const (.str []))) [(.slc (.var 33) (.attr (.var 37) 534) (.bin .add (.attr (.var 37) 534) (.attr (.var 37) 535)) (.callF 39 [(.var 37)]))] [])]),(.leaf (.ret (.callB .bytes [(.var 33)])))]⟩
noncomputable def zR:Fn:=⟨[32,34],[],[(.assign 64 (.callF 22 [(.var 34)])),(.for (.one 30) (.attr (.var 32) 517) [(.ifs (.cmp .ne (.comp (.var 37) (.one 37) (.idx (.attr (.var 32) 517) (.var 30)) (some (.cmp .is_ (.var 37) (.var 64)))) (.list [])) [(.ret (.var 30))] [])]),(.ret (.const (.str [])))]⟩
noncomputable def zS:Fn:=⟨[39,65],[],[(.assign 66 (.const (.int 0))),(.for (.one 30) (.var 39) [(.ifs (.and2 (.cmp .lt (.var 66) (.callB .len [(.var 65)])) (.cmp .eq (.var 30) (.idx (.var 65) (.var 66)))) [.any] [])]),(.ret (.cmp .eq (.var 66) (.callB .len [(.var 65)])))]⟩
noncomputable def zT:Fn:=⟨[33,30],[],[(.ifs (.cmp .eq (.callB .len [(.var 33)]) (.const (.int 0))) [.any] []),(.ifs (.cmp .gt (.callB .len [(.var 33)]) (.const (.int 1))) [.any] []),(.ret (.idx (.var 33) (.const (.int 0))))]⟩
noncomputable def zU:Fn:=⟨[32,30,65],[],[(.assign 67 (.comp (.var 34) (.one 34) (.callF 20 [(.var 32)]) (some (.cmp .eq (.attr (.var 34) 519) (.var 30))))),(.ret (.callF 43 [(.comp (.var 34) (.one 34) (.var 67) (some (.callF 42 [(.bin .add (.callF 23 [(.var 34)]) (.list [(.callF 41 [(.var 32),(.var 34)])])),(.var 65)]))),(.var 30)]))]⟩
noncomputable def zV:Fn:=⟨[34,68,69],[],[(.assign 70 (.callF 24 [(.var 34)])),(.ifs (.cmp .ne (.callB .len [(.var 68)]) (.callB .len [(.var 70)])) [.any] []),(.assign 71 (.attr (.var 34) 534)),(.for (.two 72 73) (.zip (.var 70) (.var 68)) [.any,.any]),(.ifs (.cmp .is_ (.var 69) (.const .none)) [(.ret (.tup [(.var 71),(.attr (.var 34) 535)]))] []),.any,.any,.any,.any]⟩
noncomputable def zW:GFn:=⟨[9,74,75,21],[],[(.leaf (.attr (.var 9) 547 (.var 74))),(.leaf (.attr (.var 9) 548 (.var 75))),(.leaf (.attr (.var 9) 549 (.callB .list [(.var 21)]))),(.leaf (.attr (.var 9) 550 (.list []))),(.barrC (.var 9) 551 40 [(.attr (.var 74) 552)]),(.leaf (.attr (.var 9) 541 (.dict []))),(.leaf (.for (.one 30) (.callB .sorted [(.attr (.attr (.var 74) 552) 541)]) [.any])),(.leaf (.attr (.var 9) 553 (.dict []))),(.leaf (.attr (.var 9) 554 (.dict []))),(.leaf (.attr (.var 9) 555 (.const (.bytes [])))),(.leaf (.attr (.var 9) 540 (.dict [])))]⟩
noncomputable def zX:Fn:=⟨[76,34],[],[(.ifs (.cmp .eq (.attr (.var 34) 533) (.const (.str []))) [(.ret (.tup [(.attr (.var 76) 551),(.const (.int 0))]))] []),.any,.any]⟩
noncomputable def zY:Fn:=⟨[76,69],[],[(.ifs (.cmp .is_ (.var 69) (.const .none)) [(.ret (.const .none))] []),.any,.any]⟩
noncomputable def zZ:Fn:=⟨[76,77],[],[(.assign 34 (.callF 44 [(.attr (.attr (.var 76) 547) 552),(.idx (.var 77) (.const (.int 1))),(.idx (.var 77) (.const (.int 2)))])),(.assign 69 (.callF 48 [(.var 76),(.idx (.var 77) (.const (.int 4)))])),(.unp [71,43] (.callF 45 [(.var 34),(.comp .any (.one 78) (.idx (.var 77) (.const (.int 3))) none),(.var 69)])),(.unp [79,23] (.callF 47 [(.var 76),(.var 34)])),(.ifs (.cmp .gt (.bin .add (.bin .add (.var 23) (.var 71)) (.var 43)) (.callB .len [(.var 79)])) [.any] []),(.ret (.tup [(.var 79),(.bin .add (.var 23) (.var 71)),(.ite (.cmp .is_ (.var 69) (.const .none)) (.attr (.var 34) 536) (.callC 7 [(.const (.str [97,108,112,104,97,110,117,109,101,114,105,99])),(.var 43)]))]))]⟩
noncomputable def A_0:GFn:=⟨[76,77,51],[],[(.leaf (.unp [79,71,50] (.callF 49 [(.var 76),(.var 77)]))),(.ifs (.cmp .ne (.callB .len [(.var 51)]) (.attr (.var 50) 535)) [(.leaf .any)] []),(.slc (.var 79) (.var 71) (.bin .add (.var 71) (.attr (.var 50) 535)) (.var 51))]⟩
noncomputable def A_1:Fn:=⟨[30],[],[(.ret (.ite (.isStr (.var 30)) (.tup [(.const (.str [114,101,102])),(.var 30),(.tup []),(.tup []),(.const .none)]) (.var 30)))]⟩
noncomputable def A_2:Fn:=⟨[76,80],[],[(.ifs (.cmp .notin (.var 80) (.attr (.attr (.var 76) 547) 517)) [.any] []),(.ret (.idx (.attr (.attr (.var 76) 547) 517) (.var 80)))]⟩
noncomputable def A_3:Fn:=⟨[76,80],[],[(.assign 81 (.meth (.attr (.attr (.attr (.var 76) 547) 552) 517) 5 [(.var 80),(.list [])])),(.ifs (.cmp .eq (.callB .len [(.var 81)]) (.const (.int 0))) [.any] []),(.ret (.tup [(.attr (.idx (.var 81) (.const (.int 0))) 534),(.callB .max [(.comp (.attr (.var 37) 535) (.one 37) (.var 81) none)])]))]⟩
noncomputable def A_4:Fn:=⟨[76,80,30],[],[(.unp [79,71,50] (.callF 49 [(.var 76),(.callF 51 [(.var 30)])])),(.ret (.tup [(.bin .sub (.var 71) (.idx (.callF 53 [(.var 76),(.var 80)]) (.const (.int 0)))),(.attr (.var 50) 535)]))]⟩
noncomputable def A_5:Fn:=⟨[76,82],[],[(.ifs (.not (.attr (.var 82) 556)) [.any] []),(.unp [79,71,50] (.callF 49 [(.var 76),(.callF 51 [(.attr (.var 82) 556)])])),(.ret (.bin .sub (.bin .pow (.const (.int 10)) (.bin .sub (.attr (.var 50) 544) (.attr (.var 50) 545))) (.const (.int 1))))]⟩
noncomputable def A_6:GFn:=⟨[76,80,17],[],[(.leaf (.assign 82 (.callF 52 [(.var 76),(.var 80)]))),(.ifs (.attr (.var 82) 557) [(.expr 50 [(.var 76),(.callF 51 [(.attr (.var 82) 557)]),(.meth (.var 17) 6 [(.const (.str [97,115,99,105,105]))])])] []),(.leaf (.assign 83 (.callF 4 [(.var 17)]))),(.ifs (.and2 (.cmp .eq (.var 83) (.const (.str [102,97,117,108,116]))) (.not (.attr (.var 82) 557))) [(.raise (.bin .add (.bin .add (.bin .add (.const (.str [102,105,108,101,32])) (.var 80)) (.const (.str [44,32,115,116,97,116,117,115,32]))) (.var 17)))] []),(.leaf (.ret (.var 83)))]⟩
noncomputable def A_7:Fn:=⟨[76,80,10,11],[],[(.assign 82 (.callF 52 [(.var 76),(.var 80)])),(.ifs (.cmp .eq (.attr (.var 82) 558) (.const (.str [115,101,113,117,101,110,116,105,97,108]))) [(.ret (.callC 3 [(.var 10),(.var 11)]))] []),(.ifs (.cmp .eq (.attr (.var 82) 558) (.const (.str [114,101,108,97,116,105,118,101]))) [(.ret (.callC 2 [(.var 10),(.var 11),(.attr (.var 82) 502),(.callF 55 [(.var 76),(.var 82)])]))] []),(.assign 14 (.comp (.bin .add (.callF 54 [(.var 76),(.var 80),(.idx (.var 22) (.const (.int 0)))]) (.tup [(.idx (.var 22) (.const (.int 1)))])) (.one 22) (.attr (.var 82) 559) none)),(.ret (.callC 1 [(.var 10),(.var 11),(.attr (.var 82) 502),(.callF 54 [(.var 76),(.var 80),(.attr (.var 82) 560)]),(.callB .tuple [(.var 14)])]))]⟩
noncomputable def A_8:Fn:=⟨[76,11,80],[],[(.assign 82 (.callF 52 [(.var 76),(.var 80)])),(.ifs (.attr (.var 82) 561) [.any] []),(.ifs (.cmp .isin (.var 80) (.attr (.var 76) 554)) [(.ret (.const (.str [52,49])))] []),(.unp [17,10] (.meth (.attr (.var 76) 548) 84 [(.attr (.var 82) 562),(.attr (.var 82) 558),(.var 11)])),(.ifs (.cmp .is_ (.var 10) (.const .none)) [(.ret (.var 17))] []),(.sub (.attr (.var 76) 554) (.var 80) (.callF 57 [(.var 76),(.var 80),(.var 10),(.var 11)])),(.ret (.var 17))]⟩
noncomputable def tP:GFn:=⟨[76,85],[],[(.for (.two 11 80) (.idx (.var 85) (.const (.int 1))) [(.assign 83 56 [(.var 76),(.var 80),(.callF 58 [(.var 76),(.var 11),(.var 80)])]),(.leaf (.ifs (.cmp .ne (.var 83) (.const (.str []))) [(.ret (.var 83))] []))]),(.leaf (.ret (.const (.str []))))]⟩
noncomputable def A_9:Fn:=⟨[76,80],[],[(.ifs (.cmp .notin (.var 80) (.attr (.var 76) 554)) [(.ret (.const (.str [52,50])))] []),(.expr (.meth (.attr (.var 76) 554) 3 [(.var 80)])),(.ret (.const (.str [48,48])))]⟩
noncomputable def tQ:GFn:=⟨[76,85],[],[(.for (.one 80) (.idx (.var 85) (.const (.int 1))) [(.assign 83 56 [(.var 76),(.var 80),(.callF 60 [(.var 76),(.var 80)])]),(.leaf (.ifs (.cmp .ne (.var 83) (.const (.str []))) [(.ret (.var 83))] []))]),(.leaf (.ret (.const (.str []))))]⟩
noncomputable def A_A:Fn:=⟨[9,30],[],[(.attr (.var 9) 519 (.var 30)),(.attr (.var 9) 562 (.const (.str []))),(.attr (.var 9) 558 (.const (.str [115,101,113,117,101,110,116,105,97,108]))),(.attr (.var 9) 502 (.const (.str [115,101,113,117,101,110,116,105,97,108]))),(.attr (.var 9) 560 (.const (.str []))),(.attr (.var 9) 559 (.tup [])),(.attr (.var 9) 556 (.const (.str []))),(.attr (.var 9) 557 (.const (.str []))),(.attr (.var 9) 561 (.const (.bool false))),(.attr (.var 9) 563 (.tup []))]⟩
noncomputable def A_B:Fn:=⟨[9,30,32,86,87],[],[(.attr (.var 9) 519 (.var 30)),(.attr (.var 9) 552 (.var 32)),(.attr (.var 9) 517 (.var 86)),(.attr (.var 9) 564 (.var 87))]⟩
noncomputable def A_C:Fn:=⟨[30,50,71],[],[(.assign 34 (.callC 5 [(.const (.int 1)),(.var 30)])),(.attr (.var 34) 536 (.var 50)),(.attr (.var 34) 535 (.attr (.var 50) 535)),(.attr (.var 34) 534 (.var 71)),(.ret (.var 34))]⟩
noncomputable def A_D:GFn:=⟨[75,26],[],[(.leaf (.unp [32,88] (.tup [(.callC 6 []),(.dict [])]))),(.leaf (.attr (.var 32) 538 (.bin .add (.comp (.callF 64 [(.bin .add (.const (.str [83])) (.var 46)),(.callF 30 [(.const (.bytes [48,48]))]),(.bin .mul (.const (.int 2)) (.var 66))]) (.two 66 46) (.enum (.const (.str [70,71,72]))) none) (.list [(.callF 64 [(.const (.str [78])),(.callF 33 [(.tup [(.const (.int 9)),(.const (.int 0))])]),(.const (.int 6))])])))),(.leaf (.for (.two 66 46) (.enum (.const (.str [70,71,72]))) [(.assign 89 (.callF 64 [(.bin .add (.const (.str [82])) (.var 46)),(.callF 30 [(.const (.bytes [97,98,99,100]))]),(.bin .add (.const (.int 7)) (.bin .mul (.const (.int 4)) (.var 66)))])),(.for (.two 29 23) (.tup [(.tup [(.const (.str [75])),(.const (.int 0))]),(.tup [(.const (.str [65])),(.const (.int 2))])]) [(.assign 34 (.callF 64 [(.bin .add (.var 29) (.var 46)),(.callF 30 [(.const (.bytes [97,98]))]),(.bin .add (.bin .add (.const (.int 7)) (.bin .mul (.const (.int 4)) (.var 66))) (.var 23))])),(.attr (.var 34) 518 (.const (.int 2))),(.expr (.meth (.var 89) 90 [(.var 34)]))]),(.sub (.attr (.var 32) 517) (.var 46) (.list [(.var 89)])),(.assign 82 (.callC 9 [(.var 46)])),(.attr (.var 82) 562 (.bin .add (.const (.str [112,97,116,104,45])) (.var 46))),(.attr (.var 82) 558 (.idx (.glob 91) (.var 66))),(.attr (.var 82) 502 (.ite (.cmp .eq (.var 66) (.const (.int 0))) (.const (.str [115,101,113,117,101,110,116,105,97,108])) (.const (.str [100,121,110,97,109,105,99])))),(.attr (.var 82) 557 (.ite (.cmp .eq (.bin .mod (.bin .fdiv (.var 26) (.bin .pow (.const (.int 2)) (.var 66))) (.const (.int 2))) (.const (.int 0))) (.bin .add (.const (.str [83])) (.var 46)) (.const (.str [])))),(.sub (.var 88) (.var 46) (.var 82))])),(.leaf (.attr (.idx (.var 88) (.const (.str [71]))) 556 (.const (.str [78])))),(.leaf (.attr (.idx (.var 88) (.const (.str [72]))) 560 (.const (.str [75,72])))),(.leaf (.attr (.idx (.var 88) (.const (.str [72]))) 559 (.tup [(.tup [(.const (.str [65,72])),(.const (.bool true))])]))),(.leaf (.attr (.var 32) 535 (.const (.int 19)))),(.retC 8 [(.callC 10 [(.const (.str [84])),(.var 32),(.var 88),(.const .none)]),(.var 75),(.list [])])]⟩
noncomputable def A_E:Fn:=⟨[92,93,80,11],[],[(.ifs (.cmp .isin (.var 80) (.var 92)) [(.ret (.const (.str [52,49])))] []),(.assign 19 (.idx (.glob 91) (.meth (.const (.str [70,71,72])) 7 [(.var 80)]))),(.ifs (.and2 (.cmp .ne (.var 11) (.const (.str [111,117,116,112,117,116]))) (.cmp .notin (.var 80) (.var 93))) [(.ret (.const (.str [51,53])))] []),(.ifs (.and2 (.cmp .ne (.var 11) (.const (.str [111,117,116,112,117,116]))) (.cmp .ne (.idx (.idx (.var 93) (.var 80)) (.const (.int 0))) (.var 19))) [(.ret (.const (.str [51,57])))] []),(.ifs (.cmp .eq (.var 11) (.const (.str [111,117,116,112,117,116]))) [(.sub (.var 93) (.var 80) (.tup [(.var 19),(.tup [])]))] []),(.expr (.meth (.var 92) 0 [(.var 80)])),(.ret (.const (.str [48,48])))]⟩
noncomputable def fn67:Fn:=⟨[26],[],[(.assign 21 (.list [])),(.for (.one 59) (.range (.bin .add (.const (.int 1)) (.bin .mod (.var 26) (.const (.int 3))))) [(.assign 26 (.bin .fdiv (.var 26) (.const (.int 3)))),(.assign 80 (.idx (.const (.str [70,71,72])) (.bin .mod (.var 26) (.const (.int 3))))),(.assign 26 (.bin .fdiv (.var 26) (.const (.int 3)))),(.expr (.meth (.var 21) 0 [(.tup [(.idx (.tup [(.const (.str [105,110,112,117,116])),(.const (.str [111,117,116,112,117,116])),(.const (.str [105,45,111])),(.ite (.cmp .eq (.var 80) (.const (.str [70]))) (.const (.str [101,120,116,101,110,100])) (.const (.str [105,45,111])))]) (.bin .mod (.var 26) (.const (.int 4)))),(.var 80)])])),(.assign 26 (.bin .fdiv (.var 26) (.const (.int 4))))]),(.ret (.callB .tuple [(.var 21)]))]⟩
noncomputable def tR:GFn:=⟨[76,21,94],[],[(.try_ [(.ifs (.var 94) [(.ret 59 [(.var 76),(.tup [(.const (.str [111,112,101,110])),(.var 21)])])] []),(.ret 61 [(.var 76),(.tup [(.const (.str [99,108,111,115,101])),(.callB .tuple [(.comp (.idx (.var 22) (.const (.int 1))) (.one 22) (.var 21) none)])])])] [(.leaf (.ret (.const (.str [114,97,105,115,101,100]))))])]⟩
noncomputable def A_F:GFn:=⟨[95],[],[(.leaf (.assign 96 (.slc (.var 95) none (some (.const (.int 9)))))),(.leaf (.assign 97 (.ite (.cmp .ne (.var 96) (.list [])) (.idx (.var 96) (.const (.int 0))) (.const (.int 219))))),(.leaf (.unp [75,93] (.tup [(.callC 4 []),(.dict [])]))),(.leaf (.for (.two 66 80) (.enum (.const (.str [70,71,72]))) [(.assign 98 (.bin .mod (.bin .fdiv (.bin .fdiv (.var 97) (.const (.int 8))) (.bin .pow (.const (.int 3)) (.var 66))) (.const (.int 3)))),(.ifs (.cmp .gt (.var 98) (.const (.int 0))) [(.assign 19 (.idx (.glob 91) (.ite (.cmp .eq (.var 98) (.const (.int 2))) (.var 66) (.bin .mod (.bin .add (.var 66) (.const (.int 1))) (.const (.int 3)))))),(.assign 21 (.ite (.cmp .eq (.var 19) (.const (.str [114,101,108,97,116,105,118,101]))) (.tup [(.tup [(.const (.int 1)),(.const (.bytes [107,49,97,49]))]),(.tup [(.const (.int 4)),(.const (.bytes [107,52,97,49]))])]) (.tup [(.const (.bytes [107,49,97,49])),(.const (.bytes [107,52,97,49]))]))),(.expr (.meth (.var 75) 99 [(.bin .add (.const (.str [112,97,116,104,45])) (.var 80)),(.var 19),(.var 21)])),(.sub (.var 93) (.var 80) (.tup [(.var 19),(.var 21)]))] [])])),(.assign 76 65 [(.var 75),(.var 97)]),(.leaf (.unp [92,100] (.tup [(.list []),(.list [(.const (.str [32,32])),(.const (.str [32,32])),(.const (.str [32,32]))])]))),(.for (.one 101) (.slc (.var 96) (some (.const (.int 1))) none) [(.leaf (.assign 21 (.callF 67 [(.bin .fdiv (.var 101) (.const (.int 4)))]))),(.leaf (.assign 94 (.cmp .gt (.bin .mod (.var 101) (.const (.int 4))) (.const (.int 0))))),(.leaf (.assign 102 (.const (.str [])))),(.leaf (.for (.two 11 80) (.var 21) [(.assign 17 (.ite (.cmp .notin (.var 80) (.var 92)) (.const (.str [52,50])) (.const (.str [48,48])))),(.ifs (.var 94) [(.assign 17 (.callF 66 [(.var 92),(.var 93),(.var 80),(.var 11)]))] [(.ifs (.cmp .isin (.var 80) (.var 92)) [(.expr (.meth (.var 92) 4 [(.var 80)]))] [])]),(.assign 103 (.cmp .eq (.bin .mod (.bin .fdiv (.var 97) (.bin .pow (.const (.int 2)) (.meth (.const (.str [70,71,72])) 7 [(.var 80)]))) (.const (.int 2))) (.const (.int 0)))),(.ifs (.var 103) [(.sub (.var 100) (.meth (.const (.str [70,71,72])) 7 [(.var 80)]) (.var 17))] []),(.ifs (.cmp .ne (.var 17) (.const (.str [48,48]))) [(.assign 102 (.ite (.var 103) (.const (.str [102,97,117,108,116])) (.const (.str [114,97,105,115,101,100])))),.brk] [])])),(.assign 104 68 [(.var 76),(.var 21),(.var 94)]),(.leaf (.ifs (.or2 (.cmp .ne (.var 104) (.var 102)) (.cmp .ne (.callB .sorted [(.attr (.var 76) 554)]) (.callB .sorted [(.var 92)]))) [.any] [])),(.leaf (.ifs (.or2 (.cmp .ne (.callB .bytes [(.slc (.attr (.var 76) 551) none (some (.const (.int 6))))]) (.callB .bytes [(.comp (.callB .ord [(.var 46)]) (.one 46) (.meth (.const (.str [])) 8 [(.var 100)]) none)])) (.cmp .ne (.callB .bytes [(.slc (.attr (.var 76) 551) (some (.const (.int 6))) none)]) (.bin .add (.const (.bytes [48])) (.bin .mul (.const (.bytes [32])) (.const (.int 12)))))) [.any] [])),(.leaf (.ifs (.cmp .ne (.meth (.var 75) 105 []) (.callB .tuple [(.comp (.bin .add (.tup [(.bin .add (.const (.str [112,97,116,104,45])) (.var 80))]) (.idx (.var 93) (.var 80))) (.one 80) (.const (.str [70,71,72])) (some (.cmp .isin (.var 80) (.var 93))))])) [.any] []))]),(.leaf (.ret (.const (.bool true))))]⟩
noncomputable def pQ{α:Type}(x:Nat):List (Nat×α)→Option α
 | []=>none
 | (k,v)::r=>match Nat.beq x k with
  | true=>some v
  | false=>pQ x r
noncomputable def xS(x y:Nat):List (Nat×Nat×Nat)→Option Nat
 | []=>none
 | (a,b,v)::r=>match Nat.beq x a&&Nat.beq y b with
  | true=>some v
  | false=>xS x y r
noncomputable def tT:List (Nat×Fn):=[(1,fn1),(2,fn2),(3,fn3),(4,fn4),(5,fn5),(6,fn6),(7,fn7),(8,fn8),(9,fn9),(10,yR),(11,yS),(12,yT),(13,yU),(14,yV),(15,yW),(16,yX),(17,yY),(18,yZ),(19,z5),(20,z6),(21,z7),(22,z8),(23,z9),(24,zA),(25,zB),(26,zC),(27,zD),(28,zE),(29,zF),(30,zG),(31,zH),(32,zI),(33,zJ),(34,zK),(35,zL),(36,zM),(37,zN),(38,zO),(39,zP),(41,zR),(42,zS),(43,zT),(44,zU),(45,zV),(47,zX),(48,zY),(49,zZ),(51,A_1),(52,A_2),(53,A_3),(54,A_4),(55,A_5),(57,A_7),(58,A_8),(60,A_9),(62,A_A),(63,A_B),(64,A_C),(66,A_E),(67,fn67)]
noncomputable def tU:List (Nat×GFn):=[(40,zQ),(46,zW),(50,A_0),(56,A_6),(59,tP),(61,tQ),(65,A_D),(68,tR),(69,A_F)]
noncomputable def initL:List (Nat×Nat):=[(1,1),(2,2),(3,3),(4,5),(5,14),(6,17),(7,27),(8,46),(9,62),(10,63)]
noncomputable def methL:List (Nat×Nat×Nat):=[(4,28,6),(4,24,7),(4,25,8),(4,23,9),(4,99,10),(4,84,11),(4,27,12),(4,105,13),(5,90,15),(5,55,16)]
noncomputable def A_G:List (Nat×AV):=[(20,(.tup [(.str [115,101,113,117,101,110,116,105,97,108]),(.str [114,101,108,97,116,105,118,101]),(.str [105,110,100,101,120,101,100])])),(40,(.str [70,73,76,76,69,82])),(41,(.int 66)),(61,(.int 48)),(91,(.tup [(.str [115,101,113,117,101,110,116,105,97,108]),(.str [114,101,108,97,116,105,118,101]),(.str [105,110,100,101,120,101,100])]))]
noncomputable def xT(f:Nat):Option Fn:=pQ f tT
noncomputable def kO(f:Nat):Option GFn:=pQ f tU
noncomputable def nY(k:Nat):Option Nat:=pQ k initL
noncomputable def nZ(k m:Nat):Option Nat:=xS k m methL
noncomputable def gvT(x:Nat):Option AV:=pQ x A_G
noncomputable def T0:Tab:=⟨xT,kO,nY,nZ,gvT,fun a=>500≤a&&a<600⟩
end Og
end
section
open PySem PySem.W
namespace Og
noncomputable def o0:List (List Nat):=[[97,112,112,101,110,100],[99,108,101,97,114],[101,120,116,101,110,100],[112,111,112],[114,101,109,111,118,101],[103,101,116],[101,110,99,111,100,101],[105,110,100,101,120],[106,111,105,110],[115,101,108,102],[99,111,110,116,101,110,116],[109,111,100,101],[97,99,99,101,115,115],[107,101,121],[97,108,116,101,114,110,97,116,101,115],[112,108,97,99,101],[109,111,115,116],[115,116,97,116,117,115],[112,97,116,104],[107,105,110,100],[75,73,78,68,83],[114,111,119,115],[114,111,119],[98,101,103,105,110],[107,105,110,100,95,111,102],[99,111,110,116,101,110,116,95,111,102],[110,117,109,98,101,114],[114,111,119,115,95,111,102],[112,97,116,104,115],[108,101,118,101,108],[110,97,109,101],[107,105,100],[100,97,116,97],[102,111,117,110,100],[105,116,101,109],[108,105,110,101],[111,110,101],[114,111,111,116],[97,98,111,118,101],[97,114,111,117,110,100],[70,73,76,76,69,82],[82,69,78,65,77,73,78,71],[99,97,116,101,103,111,114,121],[115,105,122,101],[112,105,99,116,117,114,101],[117,115,97,103,101],[115,105,103,110],[105,115,95,115,101,112,97,114,97,116,101],[105,115,95,106,117,115,116,105,102,105,101,100],[105,115,95,98,108,97,110,107,95,122,101,114,111],[115,104,97,112,101],[111,99,116,101,116,115],[100,105,103,105,116,115],[115,99,97,108,101],[105,115,95,115,105,103,110,101,100],[99,111,117,110,116],[114,101,115,116],[117,110,105,116,115],[108,101,102,116],[116,117,114,110],[99,111,100,101,115],[78,79,85,71,72,84],[102,105,103,117,114,101],[107,105,100,115],[116,111,112],[113,117,97,108,105,102,105,101,114,115],[97,116],[97,108,105,107,101],[115,117,98,115,99,114,105,112,116,115],[112,97,114,116],[116,97,98,108,101,115],[111,102,102,115,101,116],[116,97,98,108,101],[115,117,98,115,99,114,105,112,116],[112,114,111,103,114,97,109],[115,104,101,108,102],[119,111,114,108,100],[114,101,102],[101,120,112,114],[109,101,109,111,114,121],[102,105,108,101],[114,111,111,116,115],[115,112,101,99],[111,117,116,99,111,109,101],[111,112,101,110,101,100],[115,116,97,116,101,109,101,110,116],[102,105,108,101,115],[112,114,111,99,101,100,117,114,101,115],[115,112,101,99,115],[114,101,99,111,114,100],[97,100,100],[95,108,97,119,95,107,105,110,100,115],[104,101,108,100],[115,104,101,108,118,101,100],[105,115,95,111,112,101,110],[115,99,114,105,112,116],[99,101,108,108,115],[102,105,114,115,116],[115,111,114,116],[108,97,121],[115,116,97,116,117,115,101,115],[99,101,108,108],[100,117,101],[104,97,115,95,105,116,101,109],[104,101,97,114,100],[116,111,108,100],[119,104,97,116]]
noncomputable def kP:List (List Nat):=[[99,111,110,116,101,110,116],[109,111,100,101],[97,99,99,101,115,115],[107,101,121,115],[115,116,97,109,112,115],[110,101,120,116,95,115,116,97,109,112],[119,104,105,99,104],[97,116],[105,115,95,110,111,119,104,101,114,101],[114,101,97,100,95,108,97,115,116],[104,105,103,104,101,115,116],[109,111,115,116],[112,108,97,99,101],[105,115,95,98,101,104,105,110,100],[105,115,95,118,97,108,105,100],[108,97,115,116],[110,117,109,98,101,114],[102,105,108,101,115],[108,101,118,101,108],[110,97,109,101],[112,105,99,116,117,114,101,95,116,101,120,116],[117,115,97,103,101],[115,105,103,110],[105,115,95,115,101,112,97,114,97,116,101],[111,99,99,117,114,115],[114,101,100,101,102,105,110,101,115],[118,97,108,117,101],[105,115,95,106,117,115,116,105,102,105,101,100],[105,115,95,98,108,97,110,107,95,122,101,114,111],[99,111,110,100,105,116,105,111,110,115],[107,105,100,115],[112,97,114,101,110,116],[114,101,110,97,109,101,115],[98,97,115,101],[111,102,102,115,101,116],[115,105,122,101],[115,104,97,112,101],[104,105,103,104],[119,111,114,107,105,110,103],[108,105,110,107,97,103,101],[115,111,114,116,115],[105,110,100,101,120,101,115],[99,97,116,101,103,111,114,121],[112,105,99,116,117,114,101],[100,105,103,105,116,115],[115,99,97,108,101],[105,115,95,115,105,103,110,101,100],[112,114,111,103,114,97,109],[115,104,101,108,102],[114,111,119,115],[116,111,108,100,95,114,111,119,115],[109,101,109,111,114,121],[100,97,116,97],[108,105,110,107,115],[104,97,110,100,108,101,115],[111,112,101,110,95,114,111,119],[114,101,108,97,116,105,118,101,95,107,101,121],[115,116,97,116,117,115],[111,114,103,97,110,105,122,97,116,105,111,110],[97,108,116,101,114,110,97,116,101,115],[107,101,121],[105,115,95,115,111,114,116],[112,97,116,104],[114,101,99,111,114,100,115],[112,114,111,99,101,100,117,114,101,115]]
noncomputable def gkL:List (List Nat×GK):=[([111,117,116,99,111,109,101,95,111,102],.fn 4),([114,101,99,111,114,100,115],.fn 18),([105,116,101,109,115,95,117,110,100,101,114],.fn 19),([97,108,108,95,105,116,101,109,115],.fn 20),([105,116,101,109,115,95,97,114,111,117,110,100],.fn 21),([114,111,111,116,95,111,102],.fn 22),([110,97,109,101,115,95,97,114,111,117,110,100],.fn 23),([116,97,98,108,101,115,95,97,114,111,117,110,100],.fn 24),([105,115,95,103,114,111,117,112],.fn 25),([112,108,97,105,110,95,107,105,100,115],.fn 26),([105,115,95,110,117,109,101,114,105,99],.fn 28),([117,110,105,116,95,98,111,117,110,100],.fn 29),([116,101,120,116,95,115,104,97,112,101],.fn 30),([110,117,109,98,101,114,101,100,95,115,104,97,112,101],.fn 31),([102,105,103,117,114,101,95,99,111,117,110,116],.fn 32),([110,117,109,98,101,114,95,115,104,97,112,101],.fn 33),([107,101,112,116,95,117,110,105,116,115],.fn 34),([102,105,103,117,114,101,115,95,102,111,114],.fn 35),([100,105,115,112,108,97,121,95,111,99,116,101,116,115],.fn 36),([111,99,116,101,116,115,95,102,111,114],.fn 37),([117,110,118,97,108,117,101,100],.fn 38),([102,105,114,115,116,95,111,99,116,101,116,115],.fn 39),([105,110,105,116,105,97,108,95,109,101,109,111,114,121],.fn 40),([102,105,108,101,95,111,102],.fn 41),([108,101,97,100,115,95,116,104,114,111,117,103,104],.fn 42),([111,110,108,121,95,111,110,101],.fn 43),([102,105,110,100,95,105,116,101,109],.fn 44),([115,116,114,101,116,99,104],.fn 45),([109,101,109,111,114,121,95,111,102],.fn 47),([112,97,114,116,95,111,102],.fn 48),([115,112,111,116,95,105,110],.fn 49),([112,117,116,95,111,99,116,101,116,115],.fn 50),([112,108,97,105,110,95,114,101,102],.fn 51),([115,112,101,99,95,111,102],.fn 52),([97,114,101,97,95,111,102],.fn 53),([107,101,121,95,112,97,114,116],.fn 54),([103,114,101,97,116,101,115,116,95,110,117,109,98,101,114],.fn 55),([99,111,110,99,108,117,100,101,100],.fn 56),([104,97,110,100,108,101,95,111,102],.fn 57),([111,112,101,110,95,115,116,97,116,117,115],.fn 58),([100,111,95,111,112,101,110],.fn 59),([99,108,111,115,101,95,115,116,97,116,117,115],.fn 60),([100,111,95,99,108,111,115,101],.fn 61),([95,108,97,119,95,105,116,101,109],.fn 64),([95,108,97,119,95,119,111,114,108,100],.fn 65),([95,108,97,119,95,115,116,97,116,117,115],.fn 66),([95,108,97,119,95,114,111,119,115],.fn 67),([95,108,97,119,95,116,111,108,100],.fn 68),([108,97,119],.fn 69),([75,101,121,70,105,108,101],.cls 1),([82,101,108,70,105,108,101],.cls 2),([82,111,119,70,105,108,101],.cls 3),([83,104,101,108,102],.cls 4),([73,116,101,109],.cls 5),([68,97,116,97],.cls 6),([83,104,97,112,101],.cls 7),([87,111,114,108,100],.cls 8),([70,105,108,101,83,112,101,99],.cls 9),([80,114,111,103,114,97,109],.cls 10),([97,98,115],.bi .abs),([98,121,116,101,115],.bi .bytes),([108,101,110],.bi .len),([108,105,115,116],.bi .list),([109,97,120],.bi .max),([111,114,100],.bi .ord),([115,111,114,116,101,100],.bi .sorted),([116,117,112,108,101],.bi .tuple),([75,73,78,68,83],.val 20),([70,73,76,76,69,82],.val 40),([82,69,78,65,77,73,78,71],.val 41),([78,79,85,71,72,84],.val 61),([95,108,97,119,95,107,105,110,100,115],.val 91),([105,115,105,110,115,116,97,110,99,101],.isinst),([115,116,114],.strT),([101,110,117,109,101,114,97,116,101],.enum),([114,97,110,103,101],.range),([122,105,112],.zip),([98,121,116,101,97,114,114,97,121],.barr),([82,117,110,70,97,117,108,116],.fault)]
noncomputable def FH(x:Nat):Str:=match (match Nat.blt x 500 with | true=>o0[x]? | false=>kP[x-500]?) with
 | some l=>⟨l.toArray⟩
 | none=>⟨#[2000000+x]⟩
noncomputable def xU{α:Type}(x:List Nat):List (List Nat×α)→Option α
 | []=>none
 | (k,v)::r=>match JT x k with
  | true=>some v
  | false=>xU x r
noncomputable def gkT(x:Str):Option GK:=xU x.cps.toList gkL
noncomputable def N0:Nm:=⟨FH,T0.isAttr,gkT⟩
end Og
end
section
namespace Og
noncomputable def caL:List (Nat×Nat):=[(1,257),(2,357),(3,407),(4,493),(5,640),(6,666),(7,878),(8,1170),(9,1332),(10,1360)]
noncomputable def faL:List (Nat×Nat):=[(1,122),(2,276),(3,376),(4,419),(5,433),(6,440),(7,447),(8,454),(9,461),(10,466),(11,473),(12,478),(13,490),(14,611),(15,618),(16,625),(17,658),(18,677),(19,684),(20,691),(21,698),(22,705),(23,710),(24,715),(25,720),(26,725),(27,861),(28,889),(29,896),(30,903),(31,910),(32,917),(33,924),(34,931),(35,938),(36,943),(37,962),(38,1088),(39,1093),(40,1100),(41,1127),(42,1134),(43,1141),(44,1146),(45,1153),(46,1167),(47,1188),(48,1195),(49,1200),(50,1207),(51,1242),(52,1249),(53,1254),(54,1261),(55,1268),(56,1275),(57,1280),(58,1287),(59,1294),(60,1301),(61,1308),(62,1322),(63,1350),(64,1372),(65,1377),(66,1384),(67,1391),(68,1396),(69,1401),(70,37)]
noncomputable def o5:List Nat:=[257,256,357,356,407,406,493,492,640,639,666,665,878,877,1170,1169,1332,1331,1360,1359,84,83,47,46,37,122,276,376,419,433,440,447,454,461,466,473,478,490,611,618,625,658,677,684,691,698,705,710,715,720,725,861,889,896,903,910,917,924,931,938,943,962,1088,1093,1100,1127,1134,1141,1146,1153,1167,1188,1195,1200,1207,1242,1249,1254,1261,1268,1275,1280,1287,1294,1301,1308,1322,1350,1372,1377,1384,1391,1396,1401]
end Og
end
section
open PySem PySem.W PySem.Calls
namespace Og
noncomputable def lkT(x:Nat):List (Nat×Nat)→Nat
 | []=>0
 | (k,v)::r=>match Nat.beq x k with
  | true=>v
  | false=>lkT x r
noncomputable def QU(k:Nat):Addr:=lkT k caL
noncomputable def ZD(f:Nat):Addr:=lkT f faL
noncomputable def eX(k:Nat):Bool:=Nat.ble 1 k&&Nat.ble k 10
structure HV where
 get?:Addr→Option Obj
noncomputable def HV.nsMap(h:HV)(a:Addr)(name:PySem.Str):Option Value:=match h.get? a with
 | some o=>(match o.data with
  | .dict es _=>nsFind es name
  | _=>none)
 | none=>none
noncomputable def HV.isNs(h:HV)(a:Addr):Bool:=match h.get? a with
 | some o=>(match o.data with
  | .dict es _=>es.all (fun e=>match e.key with | .str _ _=>true | _=>false)
  | _=>false)
 | none=>false
noncomputable def ZE(h:HV)(a:Addr):Obj:=match h.get? a with
 | some o=>o
 | none=>default
noncomputable def M8(h:HV):Frag:=o5.map fun a=>(a,ZE h a)
noncomputable def QV(h:HV):Bool:=o5.all fun a=>(h.get? a).isSome
noncomputable def bD(v:Value):Option Addr:=match v with | .ref a=>some a | _=>none
noncomputable def xV(v:Value):Option String:=match v with | .type t=>some t | _=>none
noncomputable def vBi(v:Value):Option String:=match v with | .builtin t=>some t | _=>none
noncomputable def tV(v:Value):Option (Int×Tok):=match v with | .int i t=>some (i,t) | _=>none
noncomputable def pS(v:Value):Option (Str×Tok):=match v with | .str i t=>some (i,t) | _=>none
noncomputable def eY(v:Value):Bool:=Nat.beq v.ctorIdx 0
noncomputable def pU(d:Data):Option (Array Value×Nat):=match d with | .seq vs n=>some (vs,n) | _=>none
noncomputable def tW(d:Data):Option FuncData:=match d with | .func f=>some f | _=>none
noncomputable def o6(d:Data):Option (Array Value):=match d with | .fields f=>some f | _=>none
noncomputable def tX(d:Data):Option ClassData:=match d with | .cls f=>some f | _=>none
noncomputable def tY(b:FuncBody):Option (List Stmt):=match b with | .stmts b=>some b | _=>none
theorem HI{v:Value}{a:Addr}(e:bD v=some a):v=.ref a:=by exists v<;>first | exact AU e | exact congrArg Value.ref (Option.some.inj e)
theorem QW{v:Value}{a:String}(e:xV v=some a):v=.type a:=by exists v<;>first | exact AU e | exact congrArg Value.type (Option.some.inj e)
theorem ZF{v:Value}{a:String}(e:vBi v=some a):v=.builtin a:=by exists v<;>first | exact AU e | exact congrArg Value.builtin (Option.some.inj e)
theorem eZ{v:Value}{p:Int×Tok}(e:tV v=some p):v=.int p.1 p.2:=by exists v<;>first | exact AU e | exact Option.some.inj e▸rfl
theorem TW{v:Value}{p:Str×Tok}(e:pS v=some p):v=.str p.1 p.2:=by exists v<;>first | exact AU e | exact Option.some.inj e▸rfl
theorem PF{v:Value}(e:eY v=true):v=.none:=by exists v<;>first | rfl | exact BZ e
theorem TX{d:Data}{p:Array Value×Nat}(e:pU d=some p):d=.seq p.1 p.2:=by exists d<;>first | exact AU e | exact Option.some.inj e▸rfl
theorem f6{d:Data}{f:FuncData}(e:tW d=some f):d=.func f:=by exists d<;>first | exact AU e | exact congrArg Data.func (Option.some.inj e)
theorem bE{d:Data}{f:Array Value}(e:o6 d=some f):d=.fields f:=by exists d<;>first | exact AU e | exact congrArg Data.fields (Option.some.inj e)
theorem f7{d:Data}{f:ClassData}(e:tX d=some f):d=.cls f:=by exists d<;>first | exact AU e | exact congrArg Data.cls (Option.some.inj e)
theorem f8{d:FuncBody}{f:List Stmt}(e:tY d=some f):d=.stmts f:=by exists d<;>first | exact AU e | exact congrArg FuncBody.stmts (Option.some.inj e)
theorem AQ{α:Type}{o:Option α}{q:α→Bool}(h:AZ o q=true):∃a,o=some a∧q a=true:=B9 h fun a h=>⟨a,rfl,h⟩
noncomputable def f9(h:HV)(V:Value)(t:String)(q:List Value→Bool):Bool:=AZ (bD V) fun a=>AZ (h.get? a) fun o=>decide (xV o.cls=some t)&&AZ (pU o.data) fun p=>q p.1.toList
noncomputable def sJ(h:HV):Nat→AV→Value→Bool
 | 0,_,_=>false
 | n+1,v,V=>match v with
  | .none=>eY V
  | .bool b=>decide (V=.bool b)
  | .int i=>AZ (tV V) fun p=>decide (p.1=i)
  | .str l=>AZ (pS V) fun p=>pL l p.1
  | .tup l=>f9 h V "tuple" (all2 (sJ h n) l)
  | .slist l=>f9 h V "list" (all2 (sJ h n) l)
  | _=>false
noncomputable def ZG:NameKind→Bool
 | .free=>false
 | _=>true
noncomputable def ZH(h:HV)(dfl:List AV)(D:Value):Bool:=(eY D&&dfl.isEmpty)||AZ (bD D) fun T=>AZ (h.get? T) fun o=>AZ (pU o.data) fun p=>all2 (sJ h 50) dfl p.1.toList
noncomputable def fA:List Arg→List Nat→Bool:=all2 fun a x=>J2 a.arg (FH x)
noncomputable def fB(h:HV)(cd:Value)(q:Str):Bool:=AZ (bD cd) fun c=>AZ (h.get? c) fun o=>AZ (o6 o.data) fun vs=>AZ vs.toList[1]? fun n=>AZ (pS n) fun p=>J2 p.1 q
structure FnP(h:HV)(params:List Nat)(dfl:List AV)(fd:FuncData):Prop where
 clo:fd.closure.isEmpty=true
 co:(!fd.scope.isCoroutine)=true
 gen:(!fd.scope.isGenerator)=true
 kind:HC fd.scope.kind=true
 glob:Nat.beq fd.globals mainGlobals=true
 blt:Nat.beq fd.builtins builtinsNs=true
 free:(fd.scope.names.all fun x=>ZG x.2)=true
 code:fB h fd.code fd.qualname=true
 po:fd.params.posonlyargs.isEmpty=true
 ko:fd.params.kwonlyargs.isEmpty=true
 va:fd.params.vararg.isNone=true
 kw:fd.params.kwarg.isNone=true
 pars:fA fd.params.args params=true
 dflt:ZH h dfl fd.defaults=true
 len:Nat.ble dfl.length params.length=true
 own:(params.all fun x=>QH fd.scope (FH x)&&!T0.isAttr x)=true
noncomputable def fnP(h:HV)(params:List Nat)(dfl:List AV)(fd:FuncData):Bool:=fd.closure.isEmpty&&(!fd.scope.isCoroutine&&(!fd.scope.isGenerator&&(HC fd.scope.kind&&(Nat.beq fd.globals mainGlobals&&(Nat.beq fd.builtins builtinsNs&&((fd.scope.names.all fun x=>ZG x.2) &&
 (fB h fd.code fd.qualname&&(fd.params.posonlyargs.isEmpty&&(fd.params.kwonlyargs.isEmpty&&(fd.params.vararg.isNone&&(fd.params.kwarg.isNone&&(fA fd.params.args params&&(ZH h dfl fd.defaults&&(Nat.ble dfl.length params.length&&(params.all fun x=>QH fd.scope (FH x)&&!T0.isAttr x)))))))))))))))
theorem kQ{h:HV}{params:List Nat}{dfl:List AV}{fd:FuncData}(a:fnP h params dfl fd=true):FnP h params dfl fd:=by
 have a1:=(A6 a)
 have a2:=(A6 a1)
 have a3:=(A6 a2)
 have a4:=(A6 a3)
 have a5:=(A6 a4)
 have a6:=(A6 a5)
 have a7:=(A6 a6)
 have a8:=(A6 a7)
 have a9:=(A6 a8)
 have a10:=(A6 a9)
 have a11:=(A6 a10)
 have a12:=(A6 a11)
 have a13:=(A6 a12)
 have a14:=(A6 a13)
 exact⟨(AA a),(AA a1),(AA a2),(AA a3),(AA a4),(AA a5),(AA a6),(AA a7),(AA a8),(AA a9),(AA a10),(AA a11),(AA a12),(AA a13),(AA a14),(A6 a14)⟩
noncomputable def xW(h:HV)(f:Nat)(params:List Nat)(dfl:List AV)(chk:Scope→List Stmt→Bool):Bool:=AZ (h.get? (ZD f)) fun ob=>AZ (tW ob.data) fun fd=>AZ (tY fd.body) fun b=>fnP h params dfl fd&&chk fd.scope b
noncomputable def pV(h:HV):Bool:=(List.range 70).all fun f =>
 (match T0.fn f with
  | some d=>xW h f d.params d.dflts (fun sc b=>mSs N0 sc 400 d.body b)
  | none=>true) &&
 (match T0.gfn f with
  | some d=>xW h f d.params d.dflts (fun sc b=>mGs N0 sc 400 d.body b)
  | none=>true)
noncomputable def bF(x:Option (Option Value))(b:String):Bool:=decide ((x.bind id).bind vBi=some b)
noncomputable def kR(x:Option (Option Value))(a:Addr):Bool:=decide ((x.bind id).bind bD=some a)
noncomputable def fE(x:Option (Option Value)):Bool:=AZ x fun o=>o.isNone
noncomputable def kS(x:Option Value)(t:String):Bool:=decide (x.bind xV=some t)
noncomputable def kT(K:Frag):Bool:=(List.range 10).all fun i =>
 bF (findIn K (.ref (QU (i+1))) "__getattribute__") "object.__getattribute__"&&bF (findIn K (.ref (QU (i+1))) "__setattr__") "object.__setattr__"&&plainOver K (QU (i+1))&&(PySem.W.clsIn K (QU (i+1))).any (·.hasDict)&&keepIn K (.ref (QU (i+1)))
noncomputable def fF(K:Frag):Bool:=(List.range 10).all fun i=>(List.range 100).all fun j=>fE (findIn K (.ref (QU (i+1))) (FH (500+j)))
noncomputable def fG(K:Frag):Bool:=methL.all fun x=>kR (findIn K (.ref (QU x.1)) (FH x.2.1)) (ZD x.2.2)&&fE (findIn K (.ref (QU x.1)) "__getattr__")&&kS (typeIn K (.ref (ZD x.2.2))) "function"&&keepIn K (.ref (ZD x.2.2))
noncomputable def fH(K:Frag):Bool:=initL.all fun x=>makesIn K (QU x.1)&&kR (findIn K (.ref (QU x.1)) "__init__") (ZD x.2)&&kS (typeIn K (.ref (ZD x.2))) "function"
noncomputable def KS(x:Option Value)(a:Addr):Bool:=decide (x.bind bD=some a)
noncomputable def IP(x:Option Value)(v:Value):Bool:=decide (x=some v)
noncomputable def gkB(h:HV)(x:Str):GK→Bool
 | .fn f=>KS (h.nsMap mainGlobals x) (ZD f)&&keepIn (M8 h) (.ref (ZD f))
 | .cls k=>KS (h.nsMap mainGlobals x) (QU k)&&eX k
 | .bi b=>Option.isNone (h.nsMap mainGlobals x)&&IP (bootBuiltins x) (xR b)
 | .val y=>(match T0.gv y with
  | some v=>AZ (h.nsMap mainGlobals x) (sJ h 50 v)
  | none=>true)
 | .isinst=>Option.isNone (h.nsMap mainGlobals x)&&IP (bootBuiltins x) (.builtin "isinstance")
 | .strT=>Option.isNone (h.nsMap mainGlobals x)&&IP (bootBuiltins x) (.type "str")
 | .enum=>Option.isNone (h.nsMap mainGlobals x)&&IP (bootBuiltins x) (.type "enumerate")
 | .range=>Option.isNone (h.nsMap mainGlobals x)&&IP (bootBuiltins x) (.type "range")
 | .zip=>Option.isNone (h.nsMap mainGlobals x)&&IP (bootBuiltins x) (.type "zip")
 | .barr=>Option.isNone (h.nsMap mainGlobals x)&&IP (bootBuiltins x) (.type "bytearray")
 | .fault=>KS (h.nsMap mainGlobals x) 84
noncomputable def pW:Str:="__debug__"
noncomputable def o8:Str:="__name__"
noncomputable def pX(h:HV):Bool:=gkL.all fun x=>gkB h ⟨x.1.toArray⟩ x.2&&!J2 ⟨x.1.toArray⟩ pW&&!J2 ⟨x.1.toArray⟩ o8
noncomputable def PG(h:HV):Bool:=QV h&&(h.get? sysModules).isSome&&kT (M8 h)&&fF (M8 h)&&fG (M8 h)&&fH (M8 h)&&pX h&&pV h&&h.isNs mainGlobals
noncomputable def JY:Str:="Exception"
noncomputable def fJ:Str:="__init__"
noncomputable def JZ:Str:="what"
noncomputable def xX:Str:="at"
inductive ExcBody(sc:Scope):List Stmt→Prop
 | mk {u1 ap v1 v2 p q1 v3 w1 v4 q2 v5 w2 v6 q3:Pos}:AS sc JY=true→(ap.endLine==p.line)=true→ET sc (FH 9)=true→ET sc (FH 106)=true→ET sc (FH 66)=true →
  ExcBody sc [.Expr (.Call (.Attribute (.Name JY u1) fJ ap) [.Name (FH 9) v1,.Name (FH 106) v2] [] p) q1,.Assign [.Attribute (.Name (FH 9) v3) JZ w1] (.Name (FH 106) v4) q2,.Assign [.Attribute (.Name (FH 9) v5) xX w2] (.Name (FH 66) v6) q3]
noncomputable def KT(s:Str)(e:Expr):Bool:=BI e (J2 s)
@[elab_as_elim] theorem E9{s:Str}{e:Expr}{P:Expr→Prop}(h:KT s e=true)(u:∀pos,P (.Name s pos)):P e:=B4 h fun m pos h=>DL h (u pos)
noncomputable def fK(a m v:Str)(st:Stmt):Bool:=D4 st fun ts e=>KT v e&&CH ts fun t=>J4 t fun o n _=>KT a o&&J2 m n
@[elab_as_elim] theorem N3{a m v:Str}{st:Stmt}{P:Stmt→Prop}(h:fK a m v st=true)(u:∀p q r w,P (.Assign [.Attribute (.Name a p) m q] (.Name v r) w)):P st :=
 BG h fun ts e w h=>E9 (P:=fun e=>P (.Assign ts e w)) (AA h) fun r=>AM (P:=fun ts=>P (.Assign ts (.Name v r) w)) (A6 h) fun t h=>DB (P:=fun t=>P (.Assign [t] (.Name v r) w)) h fun o n q h =>
  E9 (P:=fun o=>P (.Assign [.Attribute o n q] (.Name v r) w)) (AA h) fun p=>DL (P:=fun n=>P (.Assign [.Attribute (.Name a p) n q] (.Name v r) w)) (A6 h) (u p q r w)
noncomputable def ZI(sc:Scope)(b:List Stmt):Bool:=match b with
 | s1::b=>QP s1 (fun e=>DX e fun g es kw p=>kw.isEmpty&&(J4 g (fun f i ap=>KT JY f&&(J2 fJ i&&(ap.endLine==p.line)))&&FW es fun x y=>KT (FH 9) x&&KT (FH 106) y)) &&
  (FW b (fun s2 s3=>fK (FH 9) JZ (FH 106) s2&&fK (FH 9) xX (FH 66) s3)&&(Z5 sc JY&&(QG sc (FH 9)&&(QG sc (FH 106)&&QG sc (FH 66)))))
 | []=>false
theorem WX{sc:Scope}{b:List Stmt}(h:ZI sc b=true):ExcBody sc b:=by
 induction b using List.casesOn with
 | nil=>exact BZ h
 | cons s1 b =>
  have g:=(A6 (A6 h))
  have v:=(A6 (A6 g))
  refine HH (P:=fun s1=>ExcBody sc (s1::b)) (AA h) fun e q1 h1=>HG h1 fun g' es kw p h1=>BQ (AA h1) (DB (AA (A6 h1)) fun f i ap h2=>?_)
  refine E9 (AA h2) fun u1=>DL (AA (A6 h2)) (C9 (A6 (A6 h1)) fun x y h1=>E9 (AA h1) fun v1=>E9 (A6 h1) fun v2=>?_)
  refine C9 (AA (A6 h)) fun s2 s3 h1=>N3 (AA h1) fun v3 w1 v4 q2=>N3 (A6 h1) fun v5 w2 v6 q3=>?_
  exact .mk ((TN _ _).trans (AA g)) (A6 (A6 h2)) ((IC _ _).trans (AA (A6 g))) ((IC _ _).trans (AA v)) ((IC _ _).trans (A6 v))
noncomputable def lawS:PySem.Str:="law"
noncomputable def tZ(l:List Value):Bool:=all2 (fun v w=>decide (v=w)) l [.ref 84,.ref 47,.type "Exception",.type "BaseException",.type "object"]
noncomputable def slB(l:List (Option Value)):Bool:=Nat.beq l.length 6&&decide ((l[4]?.bind id).bind vBi=some "Exception.__new__")
noncomputable def o9(o:Obj):Bool:=decide (xV o.cls=some "type")&&AZ (tX o.data) fun d=>tZ d.mro&&(d.hasDict&&(!d.hasDel&&slB o.slots.toList))
noncomputable def HJ(h:HV):Bool:=AZ (h.get? 84) o9&&(kR (findIn (M8 h) (.ref 84) "__init__") (ZD 70)&&(kS (typeIn (M8 h) (.ref (ZD 70))) "function"&&(bF (findIn (M8 h) (.ref 84) "__setattr__") "object.__setattr__" &&
 (fE (findIn (M8 h) (.ref 84) JZ)&&(fE (findIn (M8 h) (.ref 84) xX)&&(keepIn (M8 h) (.ref 84)&&(Option.isNone (h.nsMap mainGlobals JY)&&(IP (bootBuiltins JY) (.type "Exception")&&(xW h 70 [9,106,66] [.tup [.int 0,.int 0]] ZI&&KS (h.nsMap mainGlobals lawS) (ZD 69))))))))))
end Og
end
section
open PySem PySem.W PySem.Calls PyProof.Rows
set_option maxHeartbeats 0
namespace Og
noncomputable abbrev QX:Program:=PySem.Challenge.pw_og0114_01
noncomputable def fL:List Obj→Nat→BT→BT
 | [],_,t=>t
 | o::l,n,t=>fL l (n+1) (t.ins n o)
noncomputable def kU(stp:SharedT→Thread→Option (SharedT×Thread))(ok:Thread→Bool):Nat→SharedT→Thread→Option SharedT
 | 0,_,_=>none
 | n+1,s,t=>match through t with
  | true=>some s
  | false=>match ok t with
   | false=>none
   | true=>match stp s t with
    | some (s',t')=>kU stp ok n s' t'
    | none=>none
noncomputable def s0T(P:Params)(os:OsState):SharedT:=⟨fL (boot_heap P).objs.toList 0 .nil,(boot_heap P).objs.size,(boot_heap P).life,#[],boot_drawn,boot_toks,os⟩
noncomputable def fM(w:World)(os:OsState):Option SharedT :=
 kU (PySem.W.Fast.tw10156331382660048174 (PySem.W.Fast.tw11892475500146522536 PySem.W.Fast.tw14364793385576792824) QX w) (PySem.W.Fast.tw6613529449190102663 (boot_heap w.params).objs.size ((boot_heap w.params).nsMap mainGlobals "__annotations__")) 9300 (s0T w.params os) (topStub QX)
noncomputable def sK(s:SharedT):HV:=⟨fun a=>match Nat.blt a s.n with
 | true=>(match s.tree.get a with
  | some o=>alive o
  | none=>none)
 | false=>none⟩
theorem pY(s:SharedT):∀a o,(sK s).get? a=some o→s.abs.heap.get? a=some o:=fun a o e=>by
 have e:(match Nat.blt a s.n with
  | true=>(match s.tree.get a with
   | some o=>alive o
   | none=>none)
  | false=>none)=some o:=e
 cases h:Nat.blt a s.n with
 | false=>rw [h] at e;exists e
 | true =>
  rw [h] at e
  cases g:s.tree.get a with
  | none=>rw [g] at e;exists e
  | some ob =>
   rw [g] at e
   exact(abs_get (Nat.blt_eq.mp h) g).trans e
end Og
end
section
open PySem PySem.W PySem.Calls PyProof.Rows
namespace Og
theorem ZJ{a b:Bool}(x:a=true)(y:b=true):(a&&b)=true:=by rw [x,y];rfl
set_option maxHeartbeats 0
theorem fN:PySem.W.Fast.tw12908688711261696721 PySem.Challenge.pw_og0114_01=true:=by
 unfold PySem.W.Fast.tw12908688711261696721
 with_reducible repeat' (refine ZJ ?_ ?_)
 all_goals decide +kernel
theorem kV:PySem.W.Fast.tw2436336058641802641 PySem.Challenge.rw_og0114_01.row=true:=by
 unfold PySem.W.Fast.tw2436336058641802641
 with_reducible repeat' (refine ZJ ?_ ?_)
 ·exact fN
 all_goals decide +kernel
theorem pZ:PySem.W.Fast.tw17960256430627541270 PySem.Challenge.rw_og0114_01.row=true:=by
 unfold PySem.W.Fast.tw17960256430627541270
 with_reducible repeat' (refine ZJ ?_ ?_)
 ·exact kV
 all_goals decide +kernel
theorem q6:PySem.W.Fast.tw9446332074065402090 PySem.Challenge.rw_og0114_01=true:=by
 unfold PySem.W.Fast.tw9446332074065402090
 with_reducible repeat' (refine ZJ ?_ ?_)
 ·exact pZ
 all_goals decide +kernel
theorem TY:PySem.Challenge.rw_og0114_01.wellSaid=true:=(congrFun PySem.W.Fast.te9446332074065402090 _).trans q6
end Og
end
section
set_option backward.match.sparseCases false
open PySem PySem.W PySem.Calls PyProof.Rows
set_option maxHeartbeats 0
namespace Og
noncomputable def oA(w:World)(s:Shared):Bool:=staticsOk (importedModules QX.main.body) (boot_heap w.params) s.heap&&(namesBound QX s.heap&&(gensDone s&&(laidKept (boot_heap w.params) s.heap&&((s.gens.size==0)&&(s.heap.isNs mainGlobals&&(s.heap.isNs builtinsNs&&(s.heap.accountedOkI (importedModules QX.main.body)&&(s.heap.bmainOk&&(s.heap.isNs cStatics&&(s.heap.nsMap cStatics "sys.recursionlimit").isNone)))))))))
noncomputable def q7(h:Heap):Option (PySem.Str×PySem.Str×Arguments×FuncBody×Scope×Addr×List (PySem.Str×Addr)×Addr×Value×Value):=match h.nsMap mainGlobals lawS with
 | some (.ref a)=>(match h.get? a with
  | some o=>(match o.data with
   | .func fd=>some (fd.name,fd.qualname,fd.params,fd.body,fd.scope,fd.globals,fd.closure,fd.builtins,fd.defaults,fd.kwdefaults)
   | _=>none)
  | none=>none)
 | _=>none
noncomputable def q8:Option (PySem.Str×PySem.Str×Arguments×FuncBody×Scope×Addr×List (PySem.Str×Addr)×Addr×Value×Value):=match QX.theDef lawS with
 | some (a,b,sc)=>some (lawS,lawS,a,.stmts b,sc,mainNs,[],builtinsNs,.none,.none)
 | none=>none
noncomputable def fO(h:HV):Bool:=QV h&&(h.get? sysModules).isSome&&kT (M8 h)&&fF (M8 h)&&fG (M8 h)&&fH (M8 h)&&pV h
theorem kW(w:World)(os:OsState):(fM w os).map (fun s=>(oA w s.abs,s.abs.heap.bltView,q7 s.abs.heap))=some (true,bltViewBooted,q8):=by kernel_rfl
theorem kX(w:World)(os:OsState):(fM w os).map (fun s=>fO (sK s))=some true:=by kernel_rfl
theorem kY(w:World)(os:OsState):(fM w os).map (fun s=>pX (sK s)&&(sK s).isNs mainGlobals&&HJ (sK s))=some true:=by kernel_rfl
theorem fP(P:Params)(os:OsState):(s0T P os).abs=⟨boot_heap P,#[],boot_drawn,boot_toks,os⟩:=by kernel_rfl
theorem kZ(P:Params):(boot_heap P).isNs mainGlobals=true:=by kernel_rfl
theorem u0:opening QX=plainProg QX.main.scope.names:=by rfl
theorem u5:∀s,fenceModules? QX s=some s:=fun s=>by rfl
theorem u6:opensWell QX=true:=by decide +kernel
theorem l7:∃a b sc,QX.theDef lawS=some (a,b,sc)∧a.defaults=[]∧kwWritten? a.kwonlyargs a.kw_defaults=some []:=⟨_,_,_,by rfl,by rfl,by rfl⟩
end Og
end
section
open PySem PySem.W PySem.Calls PyProof.Rows
namespace Og
structure AR(k:Nat)(A:Around):Prop where
 depth:A.depth+k≤600
 units:A.units+10*k≤9000
 handled:A.handled=none
theorem AR.le{k n:Nat}{A:Around}(x:AR n A)(h:k≤n):AR k A:=⟨by have:=x.depth;lia,by have:=x.units;lia,x.handled⟩
theorem AR.deeper{k:Nat}{A:Around}(x:AR (k+1) A)(env:Env):AR k (A.deeper env):=⟨by show A.depth+1+k≤600;have:=x.depth;lia,by show A.units+3+10*k≤9000;have:=x.units;lia,x.handled⟩
theorem AR.units_lt{k:Nat}{A:Around}(x:AR k A):A.units+100<cLine:=by have:=x.units;show A.units+100<9900;lia
noncomputable def HK(r:List Addr)(H H':AH)(h h':Heap):Prop :=
 ∀(i n:Nat) (es:List (List Nat×AV)) (a:Addr),H[i]?=some (.sdict n es)→r[i]?=some a→∃n' es',H'[i]?=some (.sdict n' es')∧n≤n'∧(n'=n→h'.get? a=h.get? a)
theorem HK.refl(r:List Addr)(H:AH)(h:Heap):HK r H H h h:=fun _ n es _ e _=>⟨n,es,e,Nat.le_refl _,fun _=>rfl⟩
theorem HK.trans{r r₁:List Addr}{H H₁ H₂:AH}{h h₁ h₂:Heap}(x:HK r H H₁ h h₁)(p:r <+: r₁)(y:HK r₁ H₁ H₂ h₁ h₂):HK r H H₂ h h₂:=fun i n es a e ea=>by
 refine Og.BV (x i n es a e ea) fun n1 es1 e1 l1 k1=>?_
 refine Og.BV (y i n1 es1 a e1 (M4 p ea)) fun n2 es2 e2 l2 k2=>?_
 exact⟨n2,es2,e2,Nat.le_trans l1 l2,fun q=>(k2 (by lia)).trans (k1 (by lia))⟩
structure Go(c:Cx)(s:Shared)(r:List Addr)(H₀ H:AH)(s':Shared)(r':List Addr):Prop where
 sr:SR c s' r' H
 pre:r <+: r'
 evo:dJ c.L r r' s.heap s'.heap
 stamp:HK r H₀ H s.heap s'.heap
section
variable{c:Cx}{s s₁ s₂:Shared}{r r₁ r₂:List Addr}{H H₁ H₂:AH}
theorem Go.refl(S:SR c s r H):Go c s r H H s r:=⟨S,List.prefix_refl r,dJ.refl c.L r _,HK.refl r H _⟩
theorem Go.tok(S:SR c s r H)(t:Nat):Go c s r H H { s with toks:=t } r:=⟨S.toks t,List.prefix_refl r,dJ.refl c.L r _,HK.refl r H _⟩
theorem Go.trans(x:Go c s r H H₁ s₁ r₁)(y:Go c s₁ r₁ H₁ H₂ s₂ r₂):Go c s r H H₂ s₂ r₂:=⟨y.sr,x.pre.trans y.pre,x.evo.trans y.evo y.sr.notStat,x.stamp.trans x.pre y.stamp⟩
theorem Go.grow'(S:SR c s r H){h':Heap}(k:∀a o,a≠c.L→s.heap.get? a=some o→h'.get? a=some o)(n:h'.Ns c.L c.mc)(t:Nat):Go c s r H H { s with heap:=h',toks:=t } r :=
 have tp:∀a o,s.heap.get? a=some o→AF o→h'.get? a=some o:=S.tups (r':=r) ⟨fun a o z e _=>k a o z e,fun _ m=>.inl m⟩
 ⟨⟨fun a o z e=>k a o z (S.keep a o z e),n,S.len,fun i o e=>by
  refine Og.BV (S.obj i o e) fun a ob e1 e2 e3=>?_
  exact⟨a,ob,e1,k a ob (fun z=>S.notStat (z▸List.mem_of_getElem? e1)) e2,e3.mono tp (List.prefix_refl r)⟩,S.nodup,S.fresh,S.gens,S.os⟩,List.prefix_refl r,⟨fun a o z e _=>k a o z e,fun _ m=>.inl m⟩,fun i n es a e ea=>⟨n,es,e,Nat.le_refl _,fun _=>by
  have m:=List.mem_of_getElem? ea
  refine Og.FG (S.has m) fun _ _ ob _ _ q _=>?_
  rw [q];exact k _ _ (fun z=>S.notStat (z▸m)) q⟩⟩
theorem Go.grow(S:SR c s r H){h':Heap}(k:∀a o,s.heap.get? a=some o→h'.get? a=some o)(t:Nat):Go c s r H H { s with heap:=h',toks:=t } r:=Go.grow' S (fun a o _ e=>k a o e) (S.stat.keeps k) t
theorem Go.push(S:SR c s r H)(o:Obj)(t:Nat):Go c s r H H { s with heap:=s.heap.push o,toks:=t } r:=Go.grow S (fun _ _ e=>Heap.get?_push_of_some _ e) t
theorem Go.new(S:SR c s r H){h':Heap}{o:AO}{ob:Obj}{D:Addr}(k:∀a o,a≠c.L→s.heap.get? a=some o→h'.get? a=some o)(n:h'.Ns c.L c.mc)(hD:s.heap.get? D=none)(hD':h'.get? D=some ob)(t:Nat)
  (x:OR c h' (r++[D]) o ob):Go c s r H (H++[o]) { s with heap:=h',toks:=t } (r++[D]):=by
 have nr:D∉r:=fun m=>by
  refine Og.FG (S.has m) fun _ _ ob _ _ q _=>?_
  rw [hD] at q;exists q
 have tp:∀a o,s.heap.get? a=some o→AF o→h'.get? a=some o:=S.tups (r':=r) ⟨fun a o z e _=>k a o z e,fun _ m=>.inl m⟩
 refine⟨⟨fun a o z e=>k a o z (S.keep a o z e),n,by simp [S.len],fun i o' e=>?_,?_,fun a m=>?_,S.gens,S.os⟩,List.prefix_append ..,⟨fun a o z e _=>k a o z e,fun a m=>?_⟩,fun i n es a e ea=>⟨n,es,by
  rw [List.getElem?_append_left (List.getElem?_eq_some_iff.mp e).1];exact e,Nat.le_refl _,fun _=>by
  have m:=List.mem_of_getElem? ea
  refine Og.FG (S.has m) fun _ _ ob _ _ q _=>?_
  rw [q];exact k _ _ (fun z=>S.notStat (z▸m)) q⟩⟩
 ·by_cases hi:i<H.length
  ·rw [List.getElem?_append_left hi] at e
   refine Og.BV (S.obj i o' e) fun a ob' e1 e2 e3=>?_
   exact⟨a,ob',M4 (List.prefix_append ..) e1,k a ob' (fun z=>S.notStat (z▸List.mem_of_getElem? e1)) e2,e3.mono tp (List.prefix_append ..)⟩
  ·have hi2:i=H.length:=by
    have:=(List.getElem?_eq_some_iff.mp e).1
    simp at this;lia
   subst hi2
   simp at e
   subst e
   exact⟨D,ob,by rw [←S.len];simp,hD',x⟩
 ·refine List.nodup_append.mpr ⟨S.nodup,by simp,fun a ha b hb=>?_⟩
  simp at hb;subst hb
  exact fun q=>nr (q▸ha)
 ·rcases List.mem_append.mp m with q | q
  ·exact S.fresh a q
  ·simp at q;subst q
   cases q:c.hs.get? a with
   | none=>rfl
   | some o =>
    have z:a≠c.L:=fun z=>by
     refine Og.ES S.stat fun o' _ _ e' _=>?_
     rw [z,e'] at hD;exists hD
    have:=S.keep _ _ z q
    rw [hD] at this;exists this
 ·rcases List.mem_append.mp m with q | q
  ·exact .inl q
  ·simp at q;subst q;exact .inr hD
theorem CE(h:Heap):h.get? h.objs.size=none:=by
 cases q:h.get? h.objs.size with
 | none=>rfl
 | some o=>exact absurd (Heap.lt_size q) (Nat.lt_irrefl _)
theorem Go.alloc(S:SR c s r H){o:AO}{ob:Obj}(hf:ob.isFreed=false)(t:Nat)(x:OR c (s.heap.push ob) (r++[s.heap.objs.size]) o ob):
  Go c s r H (H++[o]) { s with heap:=s.heap.push ob,toks:=t } (r++[s.heap.objs.size]) :=
 Go.new S (fun _ _ _ e=>Heap.get?_push_of_some _ e) (S.stat.push _) (CE _) (Heap.get?_push_size _ hf) t x
theorem VR.last(S:SR c s r H){h:Heap}(a:Addr):VR c.hs h (r++[a]) (.ref H.length) (.ref a):=.ref (by rw [←S.len];simp)
theorem SR.at(S:SR c s r H){i:Nat}{o:AO}{a:Addr}(e:H[i]?=some o)(ea:r[i]?=some a):∃ob,s.heap.get? a=some ob∧OR c s.heap r o ob:=by
 refine Og.BV (S.obj i o e) fun b ob e1 e2 e3=>?_
 rw [ea] at e1;exists e1
 exact⟨ob,e2,e3⟩
noncomputable def WY(o o':AO):Prop:=∀n es,o=.sdict n es→∃n' es',o'=.sdict n' es'∧n<n'
theorem Go.turn(S:SR c s r H){i:Nat}{a:Addr}{ob:Obj}{o o':AO}{h':Heap}(t:Nat)(hi:r[i]?=some a)(hH:H[i]?=some o)(d:WY o o')(ne:∀b o,b≠c.L→b≠a→s.heap.get? b=some o→h'.get? b=some o)(hn:h'.Ns c.L c.mc)(ho:h'.get? a=some ob)
  (x:OR c s.heap r o' ob):Go c s r H (H.set i o') { s with heap:=h',toks:=t } r:=by
 have am:a∈r:=List.mem_of_getElem? hi
 have tp:∀a o,s.heap.get? a=some o→AF o→h'.get? a=some o:=S.tups (r':=r) ⟨fun b o z e n=>ne b o z (fun q=>n (q▸am)) e,fun _ m=>.inl m⟩
 have hl:i<H.length:=S.len▸(List.getElem?_eq_some_iff.mp hi).1
 refine⟨⟨fun b o z e=>?_,hn,by simp [S.len],fun j o e=>?_,S.nodup,S.fresh,S.gens,S.os⟩,List.prefix_refl r,⟨fun b o z e n=>ne b o z (fun q=>n (q▸am)) e,fun _ m=>.inl m⟩,fun j n es b e eb=>?_⟩
 ·refine ne b o z (fun q=>?_) (S.keep b o z e)
  have:=S.fresh a am
  rw [q,this] at e;exists e
 ·by_cases hj:j=i
  ·subst hj
   rw [List.getElem?_set_self hl] at e
   exists e
   exact⟨a,ob,hi,ho,x.mono tp (List.prefix_refl r)⟩
  ·rw [List.getElem?_set_ne (Ne.symm hj)] at e
   refine Og.BV (S.obj j o e) fun b ob' e1 e2 e3=>?_
   refine⟨b,ob',e1,ne b ob' (fun z=>S.notStat (z▸List.mem_of_getElem? e1)) (fun q=>hj ?_) e2,e3.mono tp (List.prefix_refl r)⟩
   subst q
   exact(List.getElem?_inj (List.getElem?_eq_some_iff.mp e1).1 S.nodup).mp (e1.trans hi.symm)
 ·by_cases hj:j=i
  ·subst hj
   rw [hH] at e;exists e
   refine Og.ER (d n es rfl) fun n' es' hr1 hlt=>?_;subst hr1
   exact⟨n',es',List.getElem?_set_self hl,Nat.le_of_lt hlt,fun q=>by lia⟩
  ·refine⟨n,es,by rw [List.getElem?_set_ne (Ne.symm hj)];exact e,Nat.le_refl _,fun _=>?_⟩
   have bm:=List.mem_of_getElem? eb
   refine Og.FG (S.has bm) fun _ _ ob' _ _ q _=>?_
   rw [q]
   refine ne b ob' (fun z=>S.notStat (z▸bm)) (fun q=>hj ?_) q
   subst q
   exact(List.getElem?_inj (List.getElem?_eq_some_iff.mp eb).1 S.nodup).mp (eb.trans hi.symm)
theorem Go.turnBut(S:SR c s r H){i:Nat}{a:Addr}{ob:Obj}{o o':AO}{h':Heap}(t:Nat)(hi:r[i]?=some a)(hH:H[i]?=some o)(d:WY o o')(hs:Heap.SameBut a s.heap h')(ho:h'.get? a=some ob)
  (x:OR c s.heap r o' ob):Go c s r H (H.set i o') { s with heap:=h',toks:=t } r :=
 Go.turn S t hi hH d (fun b o _ hb e=>(hs.2 b hb).trans e) (S.stat.sameBut hs fun z=>S.notStat (z▸List.mem_of_getElem? hi)) ho x
noncomputable def all(L:Addr)(h:Heap):List (Addr×Obj):=(List.range h.objs.size).filterMap fun a=>if a=L then none else(h.get? a).map fun o=>(a,o)
theorem EN{L:Addr}{h:Heap}{p:Addr×Obj}:p∈all L h↔p.1≠L∧h.get? p.1=some p.2:=by
 unfold all
 rw [List.mem_filterMap]
 constructor
 ·rintro⟨a,_,e⟩
  split at e
  ·exists e
  ·rename_i n
   refine FO e fun o e1=>?_
   exact⟨n,e1⟩
 ·rintro⟨n,e⟩
  exact⟨p.1,List.mem_range.mpr (Heap.lt_size e),by rw [if_neg n,e];rfl⟩
noncomputable def fQ:Heap:=⟨#[],{}⟩
theorem TZ(a:Addr):fQ.get? a=none:=by
 refine Og.WJ (fQ.get? a) (fun q=>?_) fun o q=>?_
 ·rfl
 ·exact absurd (Heap.lt_size q) (Nat.not_lt_zero _)
theorem SR.fr(S:SR c s r H):Fr fQ c.L s.heap c.mc:=⟨S.stat,fun b o e=>(by rw [TZ] at e;exists e),Nat.zero_le _⟩
theorem SR.news(_:SR c s r H):News fQ c.L s.heap (all c.L s.heap):=fun _ hp=>⟨(EN.mp hp).2,(EN.mp hp).1,TZ _⟩
theorem HL{L:Addr}{h h':Heap}{more:List (Addr×Obj)}(N:News fQ L h' (more++all L h)):∀a o,a≠L→h.get? a=some o→h'.get? a=some o :=
 fun a o z e=>(N (a,o) (List.mem_append.mpr (.inr (EN.mpr ⟨z,e⟩)))).1
theorem Go.ofNews(S:SR c s r H){h':Heap}{more:List (Addr×Obj)}(F:Fr fQ c.L h' c.mc)(N:News fQ c.L h' (more++all c.L s.heap))(t:Nat):Go c s r H H { s with heap:=h',toks:=t } r :=
 Go.grow' S (HL N) F.ns t
theorem Go.newOf(S:SR c s r H){h':Heap}{o:AO}{ob:Obj}{D:Addr}{more:List (Addr×Obj)}(F:Fr fQ c.L h' c.mc)(N:News fQ c.L h' (more++all c.L s.heap))(m:(D,ob)∈more)(hD:s.heap.get? D=none)(t:Nat)
  (x:OR c h' (r++[D]) o ob):Go c s r H (H++[o]) { s with heap:=h',toks:=t } (r++[D]) :=
 Go.new S (HL N) F.ns hD (N (D,ob) (List.mem_append.mpr (.inl m))).1 t x
end
noncomputable def AE(c:Cx)(A:Around)(t:Sem Value)(s:Shared)(r:List Addr)(H:AH)(v:AV)(H':AH):Prop :=
 ∀(Q:Value→Shared→Prop) (E:Value→Shared→Prop),(∀V s' r',Go c s r H H' s' r'→VR c.hs s'.heap r' v V→Q V s')→wpAny (model c.prog c.w) A t Q E s
noncomputable def l8(c:Cx)(A:Around)(t:Sem Unit)(s:Shared)(r:List Addr)(H H':AH):Prop :=
 ∀(Q:Unit→Shared→Prop) (E:Value→Shared→Prop),(∀s' r',Go c s r H H' s' r'→Q () s')→wpAny (model c.prog c.w) A t Q E s
section
variable{c:Cx}{A:Around}{s:Shared}{r:List Addr}{H:AH}
theorem Go.vr{s':Shared}{r':List Addr}{H':AH}(G:Go c s r H H' s' r')(S:SR c s r H){v:AV}{V:Value}(y:VR c.hs s.heap r v V):VR c.hs s'.heap r' v V:=S.vr G.evo G.pre y
theorem Go.vrs{s':Shared}{r':List Addr}{H':AH}(G:Go c s r H H' s' r')(S:SR c s r H){v:List AV}{V:List Value}(y:AJ c.hs s.heap r v V):AJ c.hs s'.heap r' v V:=S.vrs G.evo G.pre y
theorem EW{a:Int}(h:DA a=true):a.natAbs≤1000000:=of_decide_eq_true h
theorem D1{n:Nat}(h:CF n=true):n≤250:=of_decide_eq_true h
theorem WZ{a:Int}(h:DA a=true):Builtin.Int.intBits a≤20:=by
 have h:=EW h
 unfold Builtin.Int.intBits
 split
 ·lia
 ·rename_i q
  have q':a≠0:=by simpa using q
  have:a.natAbs.log2<20:=(Nat.log2_lt (by lia)).mpr (by lia)
  lia
theorem bG{a b:Int}(h:DA a=true):IntMulOk a b:=by
 have h1:=WZ h
 intro hh
 rw [Bool.and_eq_true,Bool.and_eq_true] at hh
 have:Builtin.Int.intBits a>shortFactorBits:=of_decide_eq_true hh.1.1
 have:shortFactorBits=64:=rfl
 omega
theorem u7{a b:Int}{t u:Tok}(S:SR c s r H):AE c A (binaryOp .Add (.int a t) (.int b u)) s r H (.int (a+b)) H:=by
 intro Q E q
 with_reducible refine PyProof.Rows.add_int ?_
 exact q _ _ r (Go.tok S _) (.int _ _)
theorem u8{a b:Int}{t u:Tok}(S:SR c s r H):AE c A (binaryOp .Sub (.int a t) (.int b u)) s r H (.int (a-b)) H:=by
 intro Q E q
 with_reducible refine PyProof.Rows.sub_int ?_
 exact q _ _ r (Go.tok S _) (.int _ _)
theorem u9{a b:Int}{t u:Tok}(S:SR c s r H)(h:DA a=true):AE c A (binaryOp .Mult (.int a t) (.int b u)) s r H (.int (a*b)) H:=by
 intro Q E q
 with_reducible refine PyProof.Rows.mul_int ?_ (bG h)
 exact q _ _ r (Go.tok S _) (.int _ _)
theorem q9{a b:Int}{t u:Tok}(S:SR c s r H)(h:DA b=true)(h0:b≠0):AE c A (binaryOp .FloorDiv (.int a t) (.int b u)) s r H (.int (Int.fdiv a b)) H:=by
 intro Q E q
 with_reducible refine PyProof.Rows.floordiv_int h0 ?_ (.inl (PyProof.noPylong_small (by have:=EW h;lia)))
 exact q _ _ r (Go.tok S _) (.int _ _)
theorem uA{a b:Int}{t u:Tok}(S:SR c s r H)(h0:b≠0):AE c A (binaryOp .Mod (.int a t) (.int b u)) s r H (.int (Int.fmod a b)) H:=by
 intro Q E q
 with_reducible refine PyProof.Rows.mod_int h0 ?_
 exact q _ _ r (Go.tok S _) (.int _ _)
theorem uB{a b:Int}{t u:Tok}(S:SR c s r H)(h:0≤b)(hb:DA b=true)(ha:DA a=true):AE c A (binaryOp .Pow (.int a t) (.int b u)) s r H (.int (a ^ b.toNat)) H:=by
 intro Q E q
 have h1:=EW hb
 have h2:a.natAbs<2 ^ 64:=Nat.lt_of_le_of_lt (EW ha) (by decide)
 with_reducible refine PyProof.Rows.pow_int_small h (by lia) h2 ?_
 exact q _ _ r (Go.tok S _) (.int _ _)
end
section
theorem N4{k:List Nat}{ov:Option AV}:∀{es:List (List Nat×Option AV)},KO k es=some ov→(k,ov)∈es
 | (x,v)::r,h=>by
  unfold KO at h
  split at h
  ·rename_i e;exists h;rw [eq_of_beq e];exact List.mem_cons_self
  ·exact List.mem_cons_of_mem _ (N4 h)
theorem PH{es:List (List Nat×Option AV)}{k:List Nat}(h:k∈(pres es).map (·.1)):k∈es.map (·.1):=by
 refine Og.AB (List.mem_map.mp h) fun p m hr1=>?_;subst hr1
 unfold pres at m
 refine Og.AB (List.mem_filterMap.mp m) fun e me q=>?_
 refine FO q fun v _=>?_
 exact List.mem_map.mpr ⟨e,me,rfl⟩
theorem J7:∀{es:List (List Nat×Option AV)},(es.map (·.1)).Nodup→((pres es).map (·.1)).Nodup
 | [],_=>List.nodup_nil
 | (x,v)::r,h=>by
  rw [List.map_cons,List.nodup_cons] at h
  have ih:=J7 h.2
  induction v using Option.casesOn with
  | none=>exact ih
  | some v =>
   show((x,v)::pres r).map (·.1) |>.Nodup
   rw [List.map_cons,List.nodup_cons]
   exact⟨fun m=>h.1 (PH m),ih⟩
theorem fR{k:List Nat}{v:AV}{es:List (List Nat×AV)}(nd:(es.map (·.1)).Nodup)(h:(k,v)∈es):GE k es=some v:=by
 induction es with
 | nil=>exact nomatch h
 | cons p r ih =>
  obtain⟨x,w⟩:=p
  rw [List.map_cons,List.nodup_cons] at nd
  unfold GE
  rcases List.mem_cons.mp h with e | h
  ·exists e;rw [if_pos (by simp)]
  ·have:x≠k:=fun z=>nd.1 (List.mem_map.mpr ⟨(k,v),h,z.symm⟩)
   rw [if_neg (by simpa using this)]
   exact ih nd.2 h
theorem ZK{k:List Nat}:∀{es:List (List Nat×AV)},k∉es.map (·.1)→GE k es=none
 | [],_=>rfl
 | (x,w)::r,h=>by
  rw [List.map_cons,List.mem_cons,not_or] at h
  unfold GE
  rw [if_neg (by simpa using Ne.symm h.1)]
  exact ZK h.2
theorem KU{es:List (List Nat×Option AV)}{es0:List (List Nat×AV)}{k:List Nat}{ov:Option AV}(nd:(es.map (·.1)).Nodup)(p:es0.Perm (pres es))(h:KO k es=some ov):GE k es0=ov:=by
 have nd0:(es0.map (·.1)).Nodup:=(p.map (·.1)).nodup_iff.mpr (J7 nd)
 have m:=N4 h
 induction ov using Option.casesOn with
 | some v =>
  refine fR nd0 (p.mem_iff.mpr ?_)
  exact List.mem_filterMap.mpr ⟨(k,some v),m,rfl⟩
 | none =>
  refine ZK fun q=>?_
  have q2:=(p.map (·.1)).mem_iff.mp q
  refine Og.AB (List.mem_map.mp q2) fun x mx e=>?_
  refine Og.AB (List.mem_filterMap.mp mx) fun y my e2=>?_
  refine Og.AB (Option.map_eq_some_iff.mp e2) fun v ev hr1=>?_;subst hr1
  have e':y.1=k:=e
  have:y=(k,none):=by
   clear p nd0 q q2 h mx e2
   induction es with
   | nil=>cases m
   | cons z r ih =>
    rw [List.map_cons,List.nodup_cons] at nd
    rcases List.mem_cons.mp m with h1 | h1<;>rcases List.mem_cons.mp my with h2 | h2
    ·rw [h2,←h1]
    ·exact absurd (List.mem_map.mpr ⟨y,h2,by rw [e',←h1]⟩) nd.1
    ·exact absurd (List.mem_map.mpr ⟨_,h1,by rw [←h2,e']⟩) nd.1
    ·exact ih nd.2 h1 h2
  rw [this] at ev
  exists ev
theorem KV(k:List Nat)(v:Option AV):∀es:List (List Nat×Option AV),(OL k v es).map (·.1)=es.map (·.1)
 | []=>rfl
 | (x,w)::r=>by
  unfold OL
  split
  ·rfl
  ·rw [List.map_cons,List.map_cons,KV k v r]
theorem PI{k:List Nat}{v:AV}{es:List (List Nat×Option AV)}(nd:(es.map (·.1)).Nodup)(h:(KO k es).isSome=true):((k,v)::(pres es).filter (fun e=>!(e.1==k))).Perm (pres (OL k (some v) es))∧((pres es).filter (fun e=>!(e.1==k))).Perm (pres (OL k none es)):=by
 induction es with
 | nil=>exact BZ h
 | cons p r ih =>
  obtain⟨x,w⟩:=p
  rw [List.map_cons,List.nodup_cons] at nd
  unfold KO at h
  unfold OL
  by_cases hx:(x==k)=true
  ·have:=eq_of_beq hx;subst this
   rw [if_pos hx,if_pos hx]
   have hr:(pres r).filter (fun e=>!(e.1==x))=pres r:=by
    refine List.filter_eq_self.mpr fun e m=>?_
    have:e.1≠x:=fun z=>nd.1 (z▸PH (List.mem_map.mpr ⟨e,m,rfl⟩))
    simpa using this
   have hp:(pres ((x,w)::r)).filter (fun e=>!(e.1==x))=pres r:=by
    induction w using Option.casesOn with
    | none=>exact hr
    | some u =>
     show((x,u)::pres r).filter _=_
     rw [List.filter_cons,if_neg (by simp)]
     exact hr
   rw [hp]
   exact⟨List.Perm.refl _,List.Perm.refl _⟩
  ·rw [if_neg hx] at h ⊢
   rw [if_neg hx]
   obtain⟨a,b⟩:=ih nd.2 h
   induction w using Option.casesOn with
   | none=>exact⟨a,b⟩
   | some u =>
    have e1:(pres ((x,some u)::r)).filter (fun e=>!(e.1==k))=(x,u)::(pres r).filter (fun e=>!(e.1==k)):=by
     show((x,u)::pres r).filter _=_
     rw [List.filter_cons,if_pos (by simpa using hx)]
    rw [e1]
    exact⟨(List.Perm.swap _ _ _).trans (a.cons _),b.cons _⟩
theorem bH{k:List Nat}{v:AV}{es:List (List Nat×AV)}(nd:(es.map (·.1)).Nodup):(OM k v es).Perm ((k,v)::es.filter (fun e=>!(e.1==k))):=by
 induction es with
 | nil=>exact List.Perm.refl _
 | cons p r ih =>
  obtain⟨x,w⟩:=p
  rw [List.map_cons,List.nodup_cons] at nd
  unfold OM
  by_cases hx:(x==k)=true
  ·have:=eq_of_beq hx;subst this
   rw [if_pos hx,List.filter_cons,if_neg (by simp)]
   have hr:r.filter (fun e=>!(e.1==x))=r:=by
    refine List.filter_eq_self.mpr fun e m=>?_
    have:e.1≠x:=fun z=>nd.1 (z▸List.mem_map.mpr ⟨e,m,rfl⟩)
    simpa using this
   rw [hr]
  ·rw [if_neg hx,List.filter_cons,if_pos (by simpa using hx)]
   exact((ih nd.2).cons _).trans (List.Perm.swap _ _ _)
theorem bI{es:List (List Nat×Option AV)}{es0:List (List Nat×AV)}{k:List Nat}{v:AV}(nd:(es.map (·.1)).Nodup)(p:es0.Perm (pres es))(h:(KO k es).isSome=true):(OM k v es0).Perm (pres (OL k (some v) es)) :=
 (bH ((p.map (·.1)).nodup_iff.mpr (J7 nd))).trans (((p.filter _).cons _).trans (PI nd h).1)
theorem U0{es:List (List Nat×Option AV)}{es0:List (List Nat×AV)}{k:List Nat}(nd:(es.map (·.1)).Nodup)(p:es0.Perm (pres es))(h:(KO k es).isSome=true):(es0.filter fun e=>!(e.1==k)).Perm (pres (OL k none es)) :=
 (p.filter _).trans (PI (v:=.none) nd h).2
theorem PJ{es:List (List Nat×Bool)}{k:List Nat}(h:k∈DG es):k∈es.map (·.1):=by
 refine Og.AB (List.mem_map.mp h) fun p m hr1=>?_;subst hr1
 exact List.mem_map.mpr ⟨p,(List.mem_filter.mp m).1,rfl⟩
theorem QY{k:List Nat}{b:Bool}{es:List (List Nat×Bool)}(nd:(es.map (·.1)).Nodup)(h:TC k es=some b):(DG es).contains k=b:=by
 induction es with
 | nil=>exact AU h
 | cons p r ih =>
  obtain⟨x,w⟩:=p
  rw [List.map_cons,List.nodup_cons] at nd
  unfold TC at h
  by_cases hx:(x==k)=true
  ·rw [if_pos hx] at h
   exists h
   have:=eq_of_beq hx;subst this
   induction w using Bool.casesOn with
   | true =>
    show(x::DG r).contains x=true
    simp
   | false =>
    show(DG r).contains x=false
    have:x∉DG r:=fun m=>nd.1 (PJ m)
    simpa using this
  ·rw [if_neg hx] at h
   have ih:=ih nd.2 h
   induction w using Bool.casesOn with
   | false=>exact ih
   | true =>
    show(x::DG r).contains k=b
    rw [List.contains_cons,ih]
    have:(k==x)=false:=by
     have hne:¬x=k:=by simpa using hx
     exact beq_eq_false_iff_ne.mpr fun z=>hne z.symm
    rw [this,Bool.false_or]
theorem KW(k:List Nat)(v:Bool):∀es:List (List Nat×Bool),(TD k v es).map (·.1)=es.map (·.1)
 | []=>rfl
 | (x,w)::r=>by
  unfold TD
  split
  ·rfl
  ·rw [List.map_cons,List.map_cons,KW k v r]
theorem U1{k:List Nat}{es:List (List Nat×Bool)}(nd:(es.map (·.1)).Nodup)(h:(TC k es).isSome=true):(k::(DG es).erase k).Perm (DG (TD k true es))∧((DG es).erase k).Perm (DG (TD k false es)):=by
 induction es with
 | nil=>exact BZ h
 | cons p r ih =>
  obtain⟨x,w⟩:=p
  rw [List.map_cons,List.nodup_cons] at nd
  unfold TC at h
  unfold TD
  by_cases hx:(x==k)=true
  ·have:=eq_of_beq hx;subst this
   rw [if_pos hx,if_pos hx]
   have hr:(DG r).erase x=DG r:=List.erase_of_not_mem fun m=>nd.1 (PJ m)
   have hp:(DG ((x,w)::r)).erase x=DG r:=by
    induction w using Bool.casesOn with
    | false=>exact hr
    | true =>
     show(x::DG r).erase x=_
     rw [List.erase_cons_head]
   rw [hp]
   exact⟨List.Perm.refl _,List.Perm.refl _⟩
  ·rw [if_neg hx] at h ⊢
   rw [if_neg hx]
   obtain⟨a,b⟩:=ih nd.2 h
   induction w using Bool.casesOn with
   | false=>exact⟨a,b⟩
   | true =>
    have e1:(DG ((x,true)::r)).erase k=x::(DG r).erase k:=by
     show(x::DG r).erase k=_
     rw [List.erase_cons_tail hx]
    rw [e1]
    exact⟨(List.Perm.swap _ _ _).trans (a.cons _),b.cons _⟩
theorem EX:∀xs:List (List Nat),D0 (xs.map AV.str)=some xs
 | []=>rfl
 | x::xs=>by
  have ih:=EX xs
  rw [List.map_cons,D0,ih]
  rfl
end
section
variable{c:Cx}{A:Around}{s s':Shared}{r r':List Addr}{H H':AH}
theorem SR.other(S:SR c s r H){i:Nat}{o o':AO}(e:H[i]?=some o)(h:∀a ob,r[i]?=some a→s.heap.get? a=some ob→OR c s.heap r o ob→OR c s.heap r o' ob):SR c s r (H.set i o'):=by
 have hl:i<H.length:=(List.getElem?_eq_some_iff.mp e).1
 refine⟨S.keep,S.stat,by simp [S.len],fun j o2 e2=>?_,S.nodup,S.fresh,S.gens,S.os⟩
 by_cases hj:j=i
 ·subst hj
  rw [List.getElem?_set_self hl] at e2
  exists e2
  refine Og.BV (S.obj j o e) fun a ob e1 e3 e4=>?_
  exact⟨a,ob,e1,e3,h a ob e1 e3 e4⟩
 ·rw [List.getElem?_set_ne (Ne.symm hj)] at e2
  exact S.obj j o2 e2
theorem Go.other{i:Nat}{o1 o2 o3 o4:AO}(e:H[i]?=some o1)(G:Go c s r (H.set i o2) H' s' r')(e':H'[i]?=some o3)(h:∀a ob,r'[i]?=some a→s'.heap.get? a=some ob→OR c s'.heap r' o3 ob→OR c s'.heap r' o4 ob)
  (n1:∀n es,o1≠.sdict n es):Go c s r H (H'.set i o4) s' r':=by
 have hl:i<H'.length:=(List.getElem?_eq_some_iff.mp e').1
 refine⟨G.sr.other e' h,G.pre,G.evo,fun j n es a ej ea=>?_⟩
 by_cases hj:j=i
 ·subst hj
  rw [e] at ej;exists ej
  exact absurd rfl (n1 n es)
 ·obtain⟨n',es',e1,e2⟩:=G.stamp j n es a (by rw [List.getElem?_set_ne (Ne.symm hj)];exact ej) ea
  exact⟨n',es',by rw [List.getElem?_set_ne (Ne.symm hj)];exact e1,e2⟩
theorem U2{α:Type}{l:List α}{i:Nat}{x y:α}(h:l[i]?=some x):(l.set i y).set i x=l:=by
 rw [List.set_set]
 refine List.ext_getElem? fun j=>?_
 by_cases hj:j=i
 ·subst hj
  rw [List.getElem?_set_self (List.getElem?_eq_some_iff.mp h).1,h]
 ·rw [List.getElem?_set_ne (Ne.symm hj)]
theorem DY(S:SR c s r H){i:Nat}{es:List (List Nat×Option AV)}(e:H[i]?=some (.fmap es)):(es.map (·.1)).Nodup∧∃es0,es0.Perm (pres es)∧SR c s r (H.set i (.sdict 0 es0)):=by
 obtain⟨a,ob,e1,e2,nd,es0,kvs,p,d,q⟩:=S.obj i _ e
 exact⟨nd,es0,p,S.other e fun a' ob' e1' e2' _=>by
  rw [e1] at e1';cases e1'
  rw [e2] at e2';cases e2'
  exact⟨kvs,d,q⟩⟩
theorem HM(S:SR c s r H){i:Nat}{es:List (List Nat×Bool)}(e:H[i]?=some (.bag es)):(es.map (·.1)).Nodup∧∃xs:List (List Nat),xs.Perm (DG es)∧SR c s r (H.set i (.list (xs.map .str))):=by
 obtain⟨a,ob,e1,e2,nd,xs,vs,n,p,d,q⟩:=S.obj i _ e
 exact⟨nd,xs,p,S.other e fun a' ob' e1' e2' _=>by
  rw [e1] at e1';cases e1'
  rw [e2] at e2';cases e2'
  exact⟨vs,n,d,q⟩⟩
theorem ZL{es:List (List Nat×Option AV)}{es0:List (List Nat×AV)}{n:Nat}{h:Heap}{ob:Obj}(nd:(es.map (·.1)).Nodup)(p:es0.Perm (pres es))(x:OR c h r (.sdict n es0) ob):OR c h r (.fmap es) ob:=by
 refine Og.AB x fun kvs d q=>?_;clear x
 exact⟨nd,es0,kvs,p,d,q⟩
theorem fS{es:List (List Nat×Bool)}{xs:List (List Nat)}{h:Heap}{ob:Obj}(nd:(es.map (·.1)).Nodup)(p:xs.Perm (DG es))(x:OR c h r (.list (xs.map .str)) ob):OR c h r (.bag es) ob:=by
 refine Og.ER x fun vs n d q=>?_;clear x
 exact⟨nd,xs,vs,n,p,d,q⟩
theorem D2{i:Nat}{o o':AO}(e:H[i]?=some o):(H.set i o')[i]?=some o':=List.getElem?_set_self (List.getElem?_eq_some_iff.mp e).1
theorem Go.fmap{i:Nat}{es:List (List Nat×Option AV)}{es0:List (List Nat×AV)}(e:H[i]?=some (.fmap es))(nd:(es.map (·.1)).Nodup)(p:es0.Perm (pres es)){more:AH}(G:Go c s r (H.set i (.sdict 0 es0)) (H.set i (.sdict 0 es0)++more) s' r'):Go c s r H (H++more) s' r':=by
 have hl:=(List.getElem?_eq_some_iff.mp e).1
 have G2:=Go.other (o4:=.fmap es) e G (o3:=.sdict 0 es0) (by rw [List.getElem?_append_left (by simpa using hl)];exact D2 e) (fun _ _ _ _ x=>ZL nd p x) (fun _ _ h=>nomatch h)
 rwa [List.set_append_left _ _ (by simpa using hl),U2 e] at G2
theorem Go.bag{i:Nat}{es:List (List Nat×Bool)}{xs:List (List Nat)}(e:H[i]?=some (.bag es))(nd:(es.map (·.1)).Nodup)(p:xs.Perm (DG es)){more:AH}(G:Go c s r (H.set i (.list (xs.map .str))) (H.set i (.list (xs.map .str))++more) s' r'):Go c s r H (H++more) s' r':=by
 have hl:=(List.getElem?_eq_some_iff.mp e).1
 have G2:=Go.other (o4:=.bag es) e G (o3:=.list (xs.map .str)) (by rw [List.getElem?_append_left (by simpa using hl)];exact D2 e) (fun _ _ _ _ x=>fS nd p x) (fun _ _ h=>nomatch h)
 rwa [List.set_append_left _ _ (by simpa using hl),U2 e] at G2
theorem Go.fmapS{i:Nat}{es es':List (List Nat×Option AV)}{es0 es1:List (List Nat×AV)}{n:Nat}(e:H[i]?=some (.fmap es))(nd:(es'.map (·.1)).Nodup)(p:es1.Perm (pres es'))(G:Go c s r (H.set i (.sdict 0 es0)) ((H.set i (.sdict 0 es0)).set i (.sdict n es1)) s' r'):Go c s r H (H.set i (.fmap es')) s' r':=by
 rw [List.set_set] at G
 have G2:=Go.other (o4:=.fmap es') e G (o3:=.sdict n es1) (D2 e) (fun _ _ _ _ x=>ZL nd p x) (fun _ _ h=>nomatch h)
 rwa [List.set_set] at G2
theorem Go.bagS{i:Nat}{es es':List (List Nat×Bool)}{o2:AO}{xs:List (List Nat)}(e:H[i]?=some (.bag es))(nd:(es'.map (·.1)).Nodup)(p:xs.Perm (DG es'))(G:Go c s r (H.set i o2) ((H.set i o2).set i (.list (xs.map .str))) s' r'):Go c s r H (H.set i (.bag es')) s' r':=by
 rw [List.set_set] at G
 have G2:=Go.other (o4:=.bag es') e G (o3:=.list (xs.map .str)) (D2 e) (fun _ _ _ _ x=>fS nd p x) (fun _ _ h=>nomatch h)
 rwa [List.set_set] at G2
end
section
variable{c:Cx}{A:Around}{s:Shared}{r:List Addr}{H:AH}
theorem AT{n:Nat}(h:CF n=true):n≤sizeLine:=Nat.le_trans (D1 h) (by decide)
theorem bJ{a b:List Nat}{t u:Tok}(S:SR c s r H)(h:CF (a.length+b.length)=true):AE c A (binaryOp .Add (.str ⟨a.toArray⟩ t) (.str ⟨b.toArray⟩ u)) s r H (.str (a++b)) H:=by
 intro Q E q
 have hsz:(⟨a.toArray⟩:PySem.Str).length+(⟨b.toArray⟩:PySem.Str).length≤sizeLine:=AT h
 have e:(⟨a.toArray⟩++⟨b.toArray⟩:PySem.Str)=⟨(a++b).toArray⟩:=by
  show PySem.Str.mk (a.toArray++b.toArray)=_
  rw [List.append_toArray]
 with_reducible refine PyProof.Rows.add_str (fun t' tk=>?_) hsz
 rw [e]
 exact q _ _ r (Go.tok S _) (.str _ _)
theorem U3{a b:List UInt8}{t u:Tok}(S:SR c s r H)(h:CF (a.length+b.length)=true):AE c A (binaryOp .Add (.bytes a.toArray t) (.bytes b.toArray u)) s r H (.bytes (a++b)) H:=by
 intro Q E q
 have hsz:a.toArray.size+b.toArray.size≤16777216:=AT h
 with_reducible refine PySem.W.KBy.add_bytes hsz (fun t' tk=>?_)
 rw [List.append_toArray]
 exact q _ _ r (Go.tok S _) (.bytes _ _)
theorem PK{h:Heap}{a:Addr}{vs:Array Value}(x:IsTup h a vs):∃n dd sl,h.get? a=some { cls:=.type "tuple",dict:=dd,data:=.seq vs n,slots:=sl }:=by
 obtain⟨⟨c,d,da,sl⟩,e,hc,n,hd⟩:=x
 dsimp only at hc hd;subst hc hd
 exact⟨n,d,sl,e⟩
theorem GJ:Slot "tuple" (PySem.Str.ofString "__add__") "tuple.__add__":=PySem.F.slot_tuple_add
theorem bK{a b:List AV}{V W:Value}(S:SR c s r H)(ha:VR c.hs s.heap r (.tup a) V)(hb:VR c.hs s.heap r (.tup b) W)(h:CF (a.length+b.length)=true):AE c A (binaryOp .Add V W) s r H (.tup (a++b)) H:=by
 intro Q E q
 refine VR.eTup ha fun x vs ta va=>?_
 refine VR.eTup hb fun y ws tb vb=>?_
 refine Og.dQ (PK ta) fun n dd sl ea=>?_
 refine Og.dQ (PK tb) fun n2 dd2 sl2 eb=>?_
 have l1:a.length=vs.size:=va.length
 have l2:b.length=ws.size:=vb.length
 by_cases h1:vs.isEmpty=true
 ·with_reducible refine PySem.concat_meets ta.typeIs tb.typeIs PySem.noFill_tuple_add PySem.seq_tuple_add GJ PySem.F.entry_tuple_add (PySem.F.args_tuple_add_2 _ _) (PyProof.Rows.tuple_addW0 x y vs ws n n2 dd dd2 sl sl2 h1) ⟨ea,eb,?_⟩
  have:a=[]:=List.length_eq_zero_iff.mp (l1.trans (by simpa using h1))
  subst this
  exact q _ _ r (Go.tok S _) (.tup tb vb)
 ·by_cases h2:ws.isEmpty=true
  ·with_reducible refine PySem.concat_meets ta.typeIs tb.typeIs PySem.noFill_tuple_add PySem.seq_tuple_add GJ PySem.F.entry_tuple_add (PySem.F.args_tuple_add_2 _ _) (PyProof.Rows.tuple_addW1 x y vs ws n n2 dd dd2 sl sl2 h1 h2) ⟨ea,eb,?_⟩
   have:b=[]:=List.length_eq_zero_iff.mp (l2.trans (by simpa using h2))
   subst this
   rw [List.append_nil] at q
   exact q _ _ r (Go.tok S _) (.tup ta va)
  ·have hsz:vs.size+ws.size≤sizeLine:=by rw [←l1,←l2];exact AT h
   with_reducible refine PySem.concat_meets ta.typeIs tb.typeIs PySem.noFill_tuple_add PySem.seq_tuple_add GJ PySem.F.entry_tuple_add (PySem.F.args_tuple_add_2 _ _) (PyProof.Rows.tuple_addW2 x y vs ws n n2 dd dd2 sl sl2 h1 h2 hsz) ⟨ea,eb,?_⟩
   have G:=Go.push S { cls:=Value.type "tuple",data:=Data.seq (vs++ws) } s.toks
   refine q _ _ r G (.tup ⟨_,Heap.get?_push_size _ rfl,rfl,_,rfl⟩ ?_)
   rw [Array.toList_append]
   exact(G.vrs S va).append (G.vrs S vb)
theorem QZ(S:SR c s r H){i:Nat}{l:List AV}{a:Addr}(e:H[i]?=some (.list l))(ea:r[i]?=some a):∃vs n,s.heap.get? a=some { cls:=.type "list",data:=.seq vs n }∧AJ c.hs s.heap r l vs.toList:=by
 obtain⟨ob,e1,vs,n,rfl,x⟩:=S.at e ea
 exact⟨vs,n,e1,x⟩
theorem AW(S:SR c s r H){i:Nat}{l:List AV}{a:Addr}(e:H[i]?=some (.list l))(ea:r[i]?=some a){P:Prop}(u:∀vs n,s.heap.get? a=some { cls:=.type "list",data:=.seq vs n }→AJ c.hs s.heap r l vs.toList→P):P:=by
 refine Og.ER (QZ S e ea) fun vs n f1 y=>?_
 exact u vs n f1 y
theorem Go.newList(S:SR c s r H){l:List AV}{vs:Array Value}(t:Nat)(x:AJ c.hs s.heap r l vs.toList):
  Go c s r H (H++[.list l]) { s with heap:=s.heap.push { cls:=.type "list",data:=.seq vs },toks:=t } (r++[s.heap.objs.size]):=by
 have G:=Go.push S { cls:=.type "list",data:=.seq vs } t
 exact Go.alloc S rfl t ⟨vs,0,rfl,(G.vrs S x).mono (fun _ _ e _=>e) (List.prefix_append ..)⟩
theorem X0{i j:Nat}{a b:List AV}{V W:Value}(S:SR c s r H)(ha:VR c.hs s.heap r (.ref i) V)(hb:VR c.hs s.heap r (.ref j) W)(e1:H[i]?=some (.list a))(e2:H[j]?=some (.list b))(h:CF (a.length+b.length)=true):
  AE c A (binaryOp .Add V W) s r H (.ref H.length) (H++[.list (a++b)]):=by
 intro Q E q
 refine VR.eRef ha fun x ra=>?_
 refine VR.eRef hb fun y rb=>?_
 refine AW S e1 ra fun vs n f1 g1=>?_
 refine AW S e2 rb fun ws m f2 g2=>?_
 have l1:a.length=vs.size:=g1.length
 have l2:b.length=ws.size:=g2.length
 have hsz:vs.size+ws.size≤sizeLine:=by rw [←l1,←l2];exact AT h
 with_reducible refine PySem.P.add_list f1 f2 ?_ hsz
 exact q _ _ _ (Go.newList S s.toks (by rw [Array.toList_append];exact g1.append g2)) (VR.last S _)
theorem U4{a:List UInt8}{b:Int}{t u:Tok}(S:SR c s r H)(h0:0<a.length)(h1:a.length≤16)(h2:DA b=true):AE c A (binaryOp .Mult (.bytes a.toArray t) (.int b u)) s r H (.bytes (I9 a b.toNat)) H:=by
 intro Q E q
 have h3:=EW h2
 have h4:a≠[]:=List.length_pos_iff.mp h0
 with_reducible refine PySem.W.bytes_mul_any h4 (by omega) (by omega) h1 (fun t' tk=>?_)
 exact q _ _ r (Go.tok S _) (.bytes _ _)
theorem AJ.rep{hs h:Heap}{r:List Addr}{l:List AV}{L:List Value}(x:AJ hs h r l L)(n:Nat):AJ hs h r (I9 l n) ((List.replicate n L).flatten):=by
 unfold I9
 induction n with
 | zero=>exact .nil
 | succ n ih=>rw [List.replicate_succ,List.replicate_succ,List.flatten_cons,List.flatten_cons];exact x.append ih
theorem FY(S:SR c s r H){i:Nat}{l:List AV}{a:Addr}(e:H[i]?=some (.list l))(ea:r[i]?=some a):∃vs:List Value,s.heap.IsList a vs.toArray∧AJ c.hs s.heap r l vs:=by
 refine AW S e ea fun vs n e1 x=>?_
 exact⟨vs.toList,⟨_,e1,rfl,n,rfl⟩,x⟩
theorem Go.listOf(S:SR c s r H){h':Heap}{D:Addr}{l:List AV}{vs:List Value}(k:Nat)(F:Fr fQ c.L h' c.mc)(N:News fQ c.L h' ((D,listOf vs.toArray k)::all c.L s.heap))(lt:∀p∈all c.L s.heap,p.1<D)(x:AJ c.hs s.heap r l vs):
  Go c s r H (H++[.list l]) { s with heap:=h' } (r++[D]):=by
 have hD:s.heap.get? D=none:=by
  cases q:s.heap.get? D with
  | none=>rfl
  | some o=>exact absurd (lt (D,o) (EN.mpr ⟨(N _ (.head _)).2.1,q⟩)) (Nat.lt_irrefl _)
 have G:=Go.ofNews (more:=[(D,PySem.W.listOf vs.toArray k)]) S F N s.toks
 exact Go.newOf (more:=[(D,PySem.W.listOf vs.toArray k)]) S F N (.head _) hD s.toks ⟨vs.toArray,k,rfl,(G.vrs S x).mono (fun _ _ e _=>e) (List.prefix_append ..)⟩
theorem X4{i:Nat}{a:List AV}{b:Int}{V:Value}{u:Tok}(S:SR c s r H)(ha:VR c.hs s.heap r (.ref i) V)(e1:H[i]?=some (.list a))(h:CF (a.length*b.toNat)=true)(h2:DA b=true):
  AE c A (binaryOp .Mult V (.int b u)) s r H (.ref H.length) (H++[.list (I9 a b.toNat)]):=by
 intro Q E q
 refine VR.eRef ha fun x ra=>?_
 refine Og.AB (FY S e1 ra) fun vs f g=>?_
 have h3:=EW h2
 have h4:=D1 h
 have h5:vs.length*b.toNat≤256:=by rw [←g.length];lia
 with_reducible refine PySem.W.KMa.mul S.fr S.news f (by lia) (by lia) h5 rfl fun D h' F N lt=>?_
 exact q _ _ _ (Go.listOf S 0 F N lt (g.rep _)) (VR.last S _)
end
end Og
end
section
open PySem PySem.W PySem.Calls PyProof.Rows PySem.SeqAt
namespace Og
theorem J8(a b:List Nat):((⟨a.toArray⟩:PySem.Str)==⟨b.toArray⟩)=(a==b):=by
 rw [←str_beq]
theorem EqAt.bytes{A:Around}{s:Shared}(a b:List UInt8)(t u:Tok):EqAt A s (.bytes a.toArray t) (.bytes b.toArray u) (a==b):=fun prog w E Q h=>by
 unfold eqBool
 refine wpAny_holding ?_
 refine wpAny_ite_split (fun hab=>?_) (fun _=>?_)
 ·have e:a=b:=by
   have:=eq_of_beq hab
   injection this with e1 _
   simpa using congrArg Array.toList e1
  subst e
  exact wpAny_bind (wpAny_rule (wpAny_pure (by simpa using h)))
 ·exact wpAny_bind (PySem.W.eq_bytes (wpAny_truthy_bool h))
theorem RcAt.bytes{A:Around}{s:Shared}(a b:List UInt8)(t u:Tok):RcAt A s (.bytes a.toArray t) (.bytes b.toArray u) (a==b):=fun _ _ _ _ h=>PySem.W.eq_bytes h
theorem RcNeAt.bytes{A:Around}{s:Shared}(a b:List UInt8)(t u:Tok):RcNeAt A s (.bytes a.toArray t) (.bytes b.toArray u) (!(a==b)):=fun _ _ _ _ h=>PySem.W.ne_bytes h
theorem KX{f:AV→AV→Option Bool}{P:List AV→List AV→Bool→Prop}(h0:P [] [] true)(h1:∀a l b m x y,f a b=some x→P l m y→P (a::l) (b::m) (x&&y))(h2:∀b m,P [] (b::m) false)(h3:∀a l,P (a::l) [] false):∀{a b:List AV} {k:Bool},OK f a b=some k→P a b k:=by
 intro a
 induction a with
 | nil =>
  intro b k e
  induction b using List.casesOn with
  | nil=>exact Option.some.inj e▸h0
  | cons b m=>exact Option.some.inj e▸h2 b m
 | cons a l ih =>
  intro b k e
  induction b using List.casesOn with
  | nil=>exact Option.some.inj e▸h3 a l
  | cons b m =>
   refine A3 e ?_
   clear e
   intro x hx e
   refine FO e fun y hy=>?_
   exact h1 a l b m x y hx (ih hy)
theorem fT{f:AV→AV→Option Bool}{a b:List AV}{k:Bool}(e:OK f a b=some k):∀j (h1:j<a.length) (h2:j<b.length),∃x,f a[j] b[j]=some x :=
 KX (P:=fun a b _=>∀j (h1:j<a.length) (h2:j<b.length),∃x,f a[j] b[j]=some x) (fun _ h _=>absurd h (Nat.not_lt_zero _)) (fun a l b m x y hx ih j=>Nat.casesOn (motive:=fun j=>∀(h1:j<(a::l).length) (h2:j<(b::m).length),∃x,f (a::l)[j] (b::m)[j]=some x) j (fun _ _=>⟨x,hx⟩) fun j h1 h2=>ih j (Nat.lt_of_succ_lt_succ h1) (Nat.lt_of_succ_lt_succ h2))
  (fun _ _ _ h _=>absurd h (Nat.not_lt_zero _)) (fun _ _ _ _ h=>absurd h (Nat.not_lt_zero _)) e
noncomputable def EG(f:AV→AV→Option Bool)(a b:List AV)(j:Nat):Bool:=match a[j]?,b[j]? with
 | some x,some y=>(f x y).getD true
 | _,_=>true
theorem U5{f:AV→AV→Option Bool}{a b:List AV}{k:Bool}(e:OK f a b=some k):((List.range (min a.length b.length)).all (EG f a b)&&a.length==b.length)=k:=by
 refine KX (P:=fun a b k=>((List.range (min a.length b.length)).all (EG f a b)&&a.length==b.length)=k) rfl (fun a l b m x y hx ih=>?_) (fun b m=>?_) (fun a l=>?_) e
 ·rw [List.length_cons,List.length_cons,Nat.succ_min_succ,List.range_succ_eq_map,List.all_cons,List.all_map]
  have e1:EG f (a::l) (b::m) 0=x:=congrArg (·.getD true) hx
  have e2:(EG f (a::l) (b::m)∘Nat.succ)=EG f l m:=rfl
  have e3:(l.length+1==m.length+1)=(l.length==m.length):=by rw [Bool.eq_iff_iff,beq_iff_eq,beq_iff_eq];exact Nat.add_right_cancel_iff
  rw [e1,e2,←ih,Bool.and_assoc,e3]
 ·exact Bool.and_false _
 ·exact Bool.and_false _
theorem fU{hs h:Heap}{r:List Addr}{b:AV}{m:List AV}{L:List Value}(x:AJ hs h r [] L)(y:AJ hs h r (b::m) L):False:=Nat.succ_ne_zero _ (y.length.trans x.length.symm)
theorem bL{hs h:Heap}{r:List Addr}{f:AV→AV→Option Bool}{a b:List AV}{k:Bool}(g:∀x y V k,VR hs h r x V→VR hs h r y V→f x y=some k→k=true)(e:OK f a b=some k):∀{L},AJ hs h r a L→AJ hs h r b L→k=true :=
 KX (P:=fun a b k=>∀{L},AJ hs h r a L→AJ hs h r b L→k=true) (fun _ _=>rfl) (fun a l b m x y hx ih L u=>AJ.eCons u fun V L u1 u2 w=>by
   rw [g _ _ _ _ u1 w.uncons.1 hx,ih u2 w.uncons.2];rfl)
  (fun _ _ _ x y=>(fU x y).elim) (fun _ _ _ x y=>(fU y x).elim) e
theorem fV{h:Heap}{a:Addr}{vs ws:Array Value}(x:IsTup h a vs)(y:IsTup h a ws):vs=ws:=by
 obtain⟨o,e1,_,n,d1⟩:=x
 obtain⟨o',e2,_,m,d2⟩:=y
 have e:=Option.some.inj (e1.symm.trans e2)
 subst e
 exact(Data.seq.inj (d1.symm.trans d2)).1
theorem N5{n:Nat}{P:AV→AV→Bool→Prop}{a b:AV}{k:Bool}(e:T7 (n+1) a b=some k)(h0:P .none .none true)(h1:∀x y,P (.bool x) (.bool y) (x==y))(h2:∀x y,P (.int x) (.int y) (x==y))(h3:∀x y,P (.str x) (.str y) (x==y))(h4:∀x y,P (.bytes x) (.bytes y) (x==y))
  (h5:∀l m k,OK (T7 n) l m=some k→P (.tup l) (.tup m) k):P a b k:=by
 induction a using Og.AV.casesOn with
 | none=>obtain⟨h,e⟩:=DI e;have h:=IY h;subst h;exact Option.some.inj e▸h0
 | bool x=>exact FO e fun y h=>WI h▸h1 x y
 | int x=>exact FO e fun y h=>BX h▸h2 x y
 | str x=>exact FO e fun y h=>B6 h▸h3 x y
 | bytes x=>exact FO e fun y h=>D8 h▸h4 x y
 | tup x=>exact A3 e fun y h e=>I8 h▸h5 x y k e
 | _=>exact AU e
theorem fW{hs h:Heap}{r:List Addr}(n:Nat):∀(a b:AV) (V:Value) (k:Bool),VR hs h r a V→VR hs h r b V→T7 n a b=some k→k=true:=by
 induction n with
 | zero=>exact fun _ _ _ _ _ _ e=>AU e
 | succ n ih =>
  intro a b V k x y e
  refine N5 (P:=fun a b k=>VR hs h r a V→VR hs h r b V→k=true) e (fun _ _=>rfl) (fun u v x y=>?_) (fun u v x y=>?_) (fun u v x y=>?_) (fun u v x y=>?_) (fun l m k e x y=>?_) x y
  ·exact beq_iff_eq.mpr (Value.bool.inj (x.inv_bool.symm.trans y.inv_bool))
  ·refine Og.AI x.inv_int fun _ e1=>?_;obtain⟨_,e2⟩:=y.inv_int
   exact beq_iff_eq.mpr (Value.int.inj (e1.symm.trans e2)).1
  ·refine Og.AI x.inv_str fun _ e1=>?_;obtain⟨_,e2⟩:=y.inv_str
   exact beq_iff_eq.mpr (List.toArray_inj (Str.mk.inj (Value.str.inj (e1.symm.trans e2)).1))
  ·refine Og.AI x.inv_bytes fun _ e1=>?_;obtain⟨_,e2⟩:=y.inv_bytes
   exact beq_iff_eq.mpr (List.toArray_inj (Value.bytes.inj (e1.symm.trans e2)).1)
  ·refine Og.BV x.inv_tup fun a vs e1 t1 x1=>?_
   refine Og.BV y.inv_tup fun b ws e2 t2 y1=>?_
   have z:=Value.ref.inj (e1.symm.trans e2)
   subst z
   have z:=fV t1 t2
   subst z
   exact bL ih e x1 y1
theorem N6{hs:Heap}{s:Shared}{r:List Addr}{n:Nat}{A:Around}{l m:List AV}{vs ws:Array Value}{k:Bool}(x:AJ hs s.heap r l vs.toList)(y:AJ hs s.heap r m ws.toList)(e:OK (T7 n) l m=some k)
  (g:∀(a b:AV) (V W:Value) (k:Bool),VR hs s.heap r a V→VR hs s.heap r b W→T7 n a b=some k→EqAt A s V W k) :
  ∀j (h1:j<vs.size) (h2:j<ws.size),EqAt A s vs[j] ws[j] (EG (T7 n) l m j):=fun j h1 h2=>by
 have l1:l.length=vs.size:=x.length
 have l2:m.length=ws.size:=y.length
 refine Og.AI (fT e j (l1▸h1) (l2▸h2)) fun z hz=>?_
 refine Og.AB (x.get (List.getElem?_eq_getElem (l1▸h1))) fun V e1 v1=>?_
 refine Og.AB (y.get (List.getElem?_eq_getElem (l2▸h2))) fun W e2 v2=>?_
 rw [Array.getElem?_toList,Array.getElem?_eq_getElem h1] at e1
 rw [Array.getElem?_toList,Array.getElem?_eq_getElem h2] at e2
 exists e1;exists e2
 have:EG (T7 n) l m j=z:=by
  unfold EG
  rw [List.getElem?_eq_getElem (l1▸h1),List.getElem?_eq_getElem (l2▸h2)]
  show(T7 n l[j] m[j]).getD true=z
  rw [hz];rfl
 rw [this]
 exact g _ _ _ _ _ v1 v2 hz
theorem PL{l m:List AV}{n k:Nat}(l1:l.length=n)(l2:m.length=k){f:AV→AV→Option Bool}{b:Bool}(e:OK f l m=some b):((List.range (min n k)).all (EG f l m)&&n==k)=b:=by
 subst l1 l2;exact U5 e
theorem U6{hs:Heap}{s:Shared}{r:List Addr}(n:Nat):∀(A:Around) (a b:AV) (V W:Value) (k:Bool),VR hs s.heap r a V→VR hs s.heap r b W→T7 n a b=some k→A.units+n<cLine→EqAt A s V W k:=by
 induction n with
 | zero=>exact fun _ _ _ _ _ _ _ _ e _=>AU e
 | succ n ih =>
  intro A a b V W k x y e hu
  refine N5 (P:=fun a b k=>VR hs s.heap r a V→VR hs s.heap r b W→T7 (n+1) a b=some k→EqAt A s V W k) e (fun x y _=>?_) (fun u v x y _=>?_) (fun u v x y _=>?_) (fun u v x y _=>?_) (fun u v x y _=>?_) (fun l m k e' x y e=>?_) x y e
  ·rw [x.inv_none,y.inv_none];exact EqAt.same _
  ·rw [x.inv_bool,y.inv_bool];exact EqAt.bool_bool _ _
  ·exact VR.eInt x fun _=>VR.eInt y fun _=>EqAt.int_int _ _ _ _
  ·exact VR.eStr x fun _=>VR.eStr y fun _=>J8 u v▸EqAt.str_str _ _ _ _
  ·exact VR.eBytes x fun _=>VR.eBytes y fun _=>EqAt.bytes _ _ _ _
  ·by_cases q:V=W
   ·subst q
    rw [fW (n+1) _ _ _ _ x y e]
    exact EqAt.same _
   ·clear e
    revert q
    refine VR.eTup x fun a vs t1 x1=>VR.eTup y fun b ws t2 y1 q=>?_
    refine EqAt.of_refs (fun z=>q (z▸rfl)) ?_
    exact PL x1.length y1.length e'▸RcAt.tuples (A:=A) (e:=EG (T7 n) l m) t1 t2 (Nat.lt_of_le_of_lt (Nat.le_add_right _ _) hu) (N6 x1 y1 e' fun a b V W k x y e=>ih A.in1 a b V W k x y e (by show A.units+1+n<cLine;rw [Nat.add_assoc,Nat.add_comm 1 n];exact hu))
theorem fX{hs:Heap}{s:Shared}{r:List Addr}{n:Nat}{A:Around}{a b:AV}{V W:Value}{k:Bool}(x:VR hs s.heap r a V)(y:VR hs s.heap r b W)(e:T7 (n+1) a b=some k)(hu:A.units+(n+1)<cLine):RcAt A s V W k∧RcNeAt A s V W (!k):=by
 refine N5 (P:=fun a b k=>VR hs s.heap r a V→VR hs s.heap r b W→RcAt A s V W k∧RcNeAt A s V W (!k)) e (fun x y=>?_) (fun u v x y=>?_) (fun u v x y=>?_) (fun u v x y=>?_) (fun u v x y=>?_) (fun l m k e' x y=>?_) x y
 ·rw [x.inv_none,y.inv_none];exact⟨RcAt.none_none,RcNeAt.none_none⟩
 ·rw [x.inv_bool,y.inv_bool];exact⟨RcAt.bool_bool _ _,RcNeAt.bool_bool _ _⟩
 ·exact VR.eInt x fun _=>VR.eInt y fun _=>⟨RcAt.int_int _ _ _ _,RcNeAt.int_int _ _ _ _⟩
 ·exact VR.eStr x fun _=>VR.eStr y fun _=>J8 u v▸⟨RcAt.str_str _ _ _ _,RcNeAt.str_str _ _ _ _⟩
 ·exact VR.eBytes x fun _=>VR.eBytes y fun _=>⟨RcAt.bytes _ _ _ _,RcNeAt.bytes _ _ _ _⟩
 ·refine VR.eTup x fun a vs t1 x1=>VR.eTup y fun b ws t2 y1=>?_
  have P:=N6 x1 y1 e' fun a b V W k x y e=>U6 n A.in1 a b V W k x y e (by show A.units+1+n<cLine;rw [Nat.add_assoc,Nat.add_comm 1 n];exact hu)
  have hu':A.units<cLine:=Nat.lt_of_le_of_lt (Nat.le_add_right _ _) hu
  exact PL x1.length y1.length e'▸⟨RcAt.tuples (A:=A) (e:=EG (T7 n) l m) t1 t2 hu' P,RcNeAt.tuples (A:=A) (e:=EG (T7 n) l m) t1 t2 hu' P⟩
section
variable{c:Cx}{A:Around}{s:Shared}{r:List Addr}{H:AH}
set_option tactic.hygienic true in
theorem fY(S:SR c s r H){j:Nat}(R:AR j A){a b:AV}{V W:Value}{k:Bool}(x:VR c.hs s.heap r a V)(y:VR c.hs s.heap r b W)(e:sZ H a b=some k):RcAt A s V W k∧RcNeAt A s V W (!k):=by
 have hu:=R.units_lt
 by_cases ha:∃i,a=.ref i
 ·obtain⟨i,rfl⟩:=ha
  refine A3 e ?_
  clear e
  intro j hb e
  exists B7 hb
  refine A3 e ?_
  clear e
  intro l e1 e
  refine A3 e ?_
  clear e
  intro m e2 e
  replace e1:=BD e1
  replace e2:=BD e2
  ·refine VR.eRef x fun a ra=>?_
   refine VR.eRef y fun b rb=>?_
   refine AW S e1 ra fun vs n f1 g1=>?_
   refine AW S e2 rb fun ws n2 f2 g2=>?_
   have i1:s.heap.IsList a vs:=⟨_,f1,rfl,n,rfl⟩
   have i2:s.heap.IsList b ws:=⟨_,f2,rfl,n2,rfl⟩
   have l1:l.length=vs.size:=g1.length
   have l2:m.length=ws.size:=g2.length
   refine Og.GQ (l.length==m.length) (fun hl=>?_) fun hl=>?_
   ·
    rw [hl] at e
    have hl':l.length=m.length:=eq_of_beq hl
    have P:=N6 (A:=A.in1) g1 g2 e fun a b V W k x y e=>U6 6 A.in1 a b V W k x y e (by show A.units+1+6<cLine;lia)
    have:=U5 e
    rw [l1,l2,show vs.size=ws.size by lia,Nat.min_self,beq_self_eq_true,Bool.and_true] at this
    have R:=RcAt.lists (A:=A) i1 i2 (by lia) (by lia) P
    have R':=RcNeAt.lists (A:=A) i1 i2 (by lia) (by lia) P
    rw [show vs.size=ws.size by lia,this] at R R'
    exact⟨R,R'⟩
   ·
    rw [hl] at e
    have hl':l.length≠m.length:=ne_of_beq_false hl
    exists e
    have hn:(vs.size != ws.size)=true:=by simp;lia
    exact⟨RcAt.lists_lengths i1 i2 hn (by lia),RcNeAt.lists_lengths i1 i2 hn (by lia)⟩
 ·have e':T7 8 a b=some k:=by
   exists a
   case ref i=>exact absurd ⟨i,rfl⟩ ha
   all_goals exact e
  exact fX (n:=7) x y e' (by lia)
theorem A_H(S:SR c s r H){j:Nat}(R:AR j A){a b:AV}{V W:Value}{k:Bool}(x:VR c.hs s.heap r a V)(y:VR c.hs s.heap r b W)(e:sZ H a b=some k):AE c A (compareOp .Eq V W) s r H (.bool k) H :=
 fun Q E q=>(fY S R x y e).1 c.prog c.w E Q (q _ _ r (Go.refl S) (.bool k))
theorem A_I(S:SR c s r H){j:Nat}(R:AR j A){a b:AV}{V W:Value}{k:Bool}(x:VR c.hs s.heap r a V)(y:VR c.hs s.heap r b W)(e:sZ H a b=some k):AE c A (compareOp .NotEq V W) s r H (.bool (!k)) H :=
 fun Q E q=>(fY S R x y e).2 c.prog c.w E Q (q _ _ r (Go.refl S) (.bool _))
end
section
variable{c:Cx}{A:Around}{s:Shared}{r:List Addr}{H:AH}
theorem A_J{a b:Int}{t u:Tok}(S:SR c s r H):AE c A (compareOp .Lt (.int a t) (.int b u)) s r H (.bool (decide (a<b))) H:=by
 intro Q E q
 with_reducible refine PyProof.Rows.lt_int ?_
 exact q _ _ r (Go.refl S) (.bool _)
theorem A_K{a b:Int}{t u:Tok}(S:SR c s r H):AE c A (compareOp .LtE (.int a t) (.int b u)) s r H (.bool (decide (a≤b))) H:=by
 intro Q E q
 with_reducible refine PyProof.Rows.le_int ?_
 exact q _ _ r (Go.refl S) (.bool _)
theorem A_L{a b:Int}{t u:Tok}(S:SR c s r H):AE c A (compareOp .Gt (.int a t) (.int b u)) s r H (.bool (decide (a>b))) H:=by
 intro Q E q
 with_reducible refine PyProof.Rows.gt_int ?_
 exact q _ _ r (Go.refl S) (.bool _)
set_option tactic.hygienic true in
theorem oB(S:SR c s r H){a b:AV}{V W:Value}{k:Bool}(x:VR c.hs s.heap r a V)(y:VR c.hs s.heap r b W)(e:dU a b=some k):
  (W=.none∧(V==.none)=k)∨∃u w ou ow,V=.ref u∧W=.ref w∧s.heap.get? u=some ou∧s.heap.get? w=some ow∧ou.cls≠.type "tuple"∧k=(u==w):=by
 exists b
 case ref j =>
  refine A8 e ?_
  clear e
  intro i h e
  exists B7 h
  exists e
  refine VR.eRef x fun a ra=>?_
  refine VR.eRef y fun b rb=>?_
  refine Og.FG (S.has (List.mem_of_getElem? ra)) fun _ o1 ob _ _ f1 g1=>?_
  refine Og.FG (S.has (List.mem_of_getElem? rb)) fun _ o2 ob2 _ _ f2 g2=>?_
  refine .inr ⟨a,b,ob,ob2,rfl,rfl,f1,f2,g1.notTup,?_⟩
  rw [Bool.eq_iff_iff,beq_iff_eq,beq_iff_eq]
  constructor
  ·rintro rfl;rw [ra] at rb;exists rb;rfl
  ·rintro rfl
   exact(List.getElem?_inj (List.getElem?_eq_some_iff.mp ra).1 S.nodup).mp (ra.trans rb.symm)
 case none =>
  refine .inl ⟨y.inv_none,?_⟩
  induction a using AV.casesOn with
  | none=>exact H0 x.inv_none (Option.some.inj e)
  | bool b=>exact H0 x.inv_bool (Option.some.inj e)
  | int i=>exact VR.eInt x fun _=>Option.some.inj e
  | str i=>exact VR.eStr x fun _=>Option.some.inj e
  | bytes i=>exact VR.eBytes x fun _=>Option.some.inj e
  | tup i=>exact VR.eTup x fun _ _ _ _=>Option.some.inj e
  | ref i=>exact VR.eRef x fun _ _=>Option.some.inj e
  | slist i=>exact VR.eSl x fun _ _ _ _=>Option.some.inj e
  | addr i=>exact H0 x.inv_addr (Option.some.inj e)
  | top=>exact AU e
 all_goals exists e
theorem A_M(S:SR c s r H){a b:AV}{V W:Value}{k:Bool}(x:VR c.hs s.heap r a V)(y:VR c.hs s.heap r b W)(e:dU a b=some k):AE c A (compareOp .Is V W) s r H (.bool k) H:=by
 intro Q E q
 have q':=q (.bool k) s r (Go.refl S) (.bool _)
 rcases oB S x y e with ⟨rfl,e⟩ | ⟨u,w,ou,ow,rfl,rfl,f1,f2,nt,rfl⟩
 ·with_reducible refine PySem.is_none ?_
  rw [e];exact q'
 ·by_cases h:u=w
  ·subst h
   rw [beq_self_eq_true] at q'
   with_reducible exact PySem.wpAny_is_ref_self q'
  ·rw [beq_false_of_ne h] at q'
   with_reducible exact PySem.wpAny_is_ref_other h f1 f2 nt q'
theorem l9(S:SR c s r H){a b:AV}{V W:Value}{k:Bool}(x:VR c.hs s.heap r a V)(y:VR c.hs s.heap r b W)(e:dU a b=some k):AE c A (compareOp .IsNot V W) s r H (.bool (!k)) H:=by
 intro Q E q
 have q':=q (.bool !k) s r (Go.refl S) (.bool _)
 rcases oB S x y e with ⟨rfl,e⟩ | ⟨u,w,ou,ow,rfl,rfl,f1,f2,nt,rfl⟩
 ·with_reducible refine PySem.isNot_none ?_
  rw [e];exact q'
 ·by_cases h:u=w
  ·subst h
   rw [beq_self_eq_true] at q'
   have q2:Q (.bool false) s:=q'
   with_reducible exact PySem.wpAny_isNot_ref_self q2
  ·rw [beq_false_of_ne h] at q'
   have q2:Q (.bool true) s:=q'
   with_reducible exact PySem.wpAny_isNot_ref_other h f1 f2 nt q2
theorem bM{hs h:Heap}{r:List Addr}{xs:List (List Nat)}:∀{L:List Value},AJ hs h r (xs.map .str) L→L.length=xs.length∧∀V∈L,∃(x:List Nat) (t:Tok),V=.str ⟨x.toArray⟩ t:=by
 induction xs with
 | nil=>exact fun y=>H0 y.inv0 ⟨rfl,fun _ h=>nomatch h⟩
 | cons x xs ih =>
  intro L y
  refine AJ.eCons (show AJ hs h r (.str x::xs.map .str) L from y) fun V L a b=>?_
  exact VR.eStr a fun t=>⟨congrArg (·+1) (ih b).1,fun W hV=>(List.mem_cons.mp hV).elim (fun z=>⟨x,t,z⟩) ((ih b).2 W)⟩
theorem K0{hs h:Heap}{r:List Addr}{l:List AV}{L:List Value}{xs:List (List Nat)}(x:AJ hs h r l L)(e:D0 l=some xs):L.length=xs.length∧∀V∈L,∃(x:List Nat) (t:Tok),V=.str ⟨x.toArray⟩ t:=by
 cases GD e;exact bM x
noncomputable def CI(a:List Nat)(V:Value):Bool:=match V with
 | .str y _=>y==⟨a.toArray⟩
 | _=>false
theorem bN{hs h:Heap}{r:List Addr}(a:List Nat){xs:List (List Nat)}:∀{L:List Value},AJ hs h r (xs.map .str) L→L.any (CI a)=xs.contains a:=by
 induction xs with
 | nil=>exact fun y=>H0 y.inv0 rfl
 | cons y ys ih =>
  intro L z
  refine AJ.eCons (show AJ hs h r (.str y::ys.map .str) L from z) fun V L x b=>?_
  refine VR.eStr x fun t=>?_
  rw [List.any_cons,ih b,List.contains_cons]
  refine congrArg (·||ys.contains a) ?_
  show((⟨y.toArray⟩:PySem.Str)==⟨a.toArray⟩)=_
  rw [J8,Bool.beq_comm]
theorem N7{hs h:Heap}{r:List Addr}(a:List Nat){l:List AV}{L:List Value}{xs:List (List Nat)}(x:AJ hs h r l L)(e:D0 l=some xs):L.any (CI a)=xs.contains a:=by
 cases GD e;exact bN a x
theorem KY{hs h:Heap}{r:List Addr}{l:List AV}{L:List Value}{xs:List (List Nat)}{A:Around}{s:Shared}{a:List Nat}{t:Tok}(x:AJ hs h r l L)(e:D0 l=some xs):∀y,y∈L→EqAt A s y (.str ⟨a.toArray⟩ t) (CI a y):=fun y hy=>by
 refine Og.k8 ((K0 x e).2 y hy) fun z u hr1=>?_;subst hr1
 exact EqAt.str_str _ _ _ _
theorem FZ{hs h:Heap}{r:List Addr}{es:List (List Nat×AV)}{kvs:List (PySem.Str×Value)}(x:GX hs h r es kvs)(k:List Nat):match GE k es with
  | some v=>∃V,valueAt kvs (⟨k.toArray⟩:PySem.Str)=some V∧VR hs h r v V
  | none=>valueAt kvs (⟨k.toArray⟩:PySem.Str)=none:=by
 induction x with
 | nil=>rfl
 | @cons y v V l L a b ih =>
  have key:(decide ((⟨y.toArray⟩:PySem.Str)=⟨k.toArray⟩))=(y==k):=by rw [←J8];rfl
  rw [GE]
  simp only [valueAt,List.find?_cons,key]
  cases q:y==k with
  | true=>exact⟨V,rfl,a⟩
  | false=>exact ih
theorem bO{hs h:Heap}{r:List Addr}{es:List (Int×AV)}{kvs:List (Int×Value)}(x:MR hs h r es kvs)(k:Int):match dT k es with
  | some v=>∃V,valueAt kvs k=some V∧VR hs h r v V
  | none=>valueAt kvs k=none:=by
 induction x with
 | nil=>rfl
 | @cons y v V l L a b ih =>
  rw [dT]
  simp only [valueAt,List.find?_cons]
  by_cases q:y=k
  ·rw [if_pos q];simp only [q,decide_true];exact⟨V,rfl,a⟩
  ·rw [if_neg q];simp only [q,decide_false];exact ih
theorem SR.notMods(S:SR c s r H){a:Addr}(m:a∈r):(a==sysModules)=false:=by
 refine beq_false_of_ne fun q=>?_
 have:=S.fresh a m
 refine Og.AI c.modsAt fun o e=>?_
 rw [q,e] at this;exists this
theorem EA(S:SR c s r H){i n:Nat}{es:List (List Nat×AV)}{a:Addr}(e:H[i]?=some (.sdict n es))(ea:r[i]?=some a):∃kvs,s.heap.DictOf (strKind c.prog c.w) a kvs∧GX c.hs s.heap r es kvs:=by
 obtain⟨ob,e1,kvs,x,y⟩:=S.at e ea
 exact⟨kvs,Heap.dictOf_iff.mpr ⟨ob,e1,x⟩,y⟩
theorem N8(S:SR c s r H){i:Nat}{es:List (Int×AV)}{a:Addr}(e:H[i]?=some (.idict es))(ea:r[i]?=some a):∃kvs,s.heap.DictOf (intKind c.prog c.w) a kvs∧MR c.hs s.heap r es kvs:=by
 obtain⟨ob,e1,kvs,x,y⟩:=S.at e ea
 exact⟨kvs,Heap.dictOf_iff.mpr ⟨ob,e1,x⟩,y⟩
theorem HN(S:SR c s r H){i:Nat}{a:Addr}(e:H[i]?=some .edict)(ea:r[i]?=some a):s.heap.DictOf (strKind c.prog c.w) a []∧s.heap.DictOf (intKind c.prog c.w) a []:=by
 refine Og.H8 (S.at e ea) fun ob e1 x y=>?_
 exact⟨Heap.dictOf_iff.mpr ⟨ob,e1,x⟩,Heap.dictOf_iff.mpr ⟨ob,e1,y⟩⟩
set_option tactic.hygienic true in
theorem uC(S:SR c s r H){a b:AV}{V W:Value}{k:Bool}(x:VR c.hs s.heap r a V)(y:VR c.hs s.heap r b W)(e:pA H a b=some k):
  AE c A (compareOp .In V W) s r H (.bool k) H∧AE c A (compareOp .NotIn V W) s r H (.bool (!k)) H:=by
 refine A3 e ?_
 clear e
 intro a h e
 exists B6 h
 refine VR.eStr x fun t=>?_
 exists b
 case tup l =>
  refine A8 e ?_
  rintro xs hx rfl
  refine VR.eTup y fun b vs t1 y1=>?_
  have t2:s.heap.IsTuple b vs:=t1
  have he:∀y,y∈vs→EqAt A.in1 s y (.str ⟨a.toArray⟩ t) (CI a y):=fun y hy=>KY y1 hx y (by simpa using hy)
  have an:=N7 a y1 hx
  rw [Array.any_toList] at an
  refine⟨fun Q E q=>?_,fun Q E q=>?_⟩
  ·with_reducible refine PySem.SeqAt.in_tupleAt (CI a) t2 he ?_
   rw [an];exact q _ _ r (Go.refl S) (.bool _)
  ·with_reducible refine PySem.SeqAt.notIn_tupleAt (CI a) t2 he ?_
   rw [an];exact q _ _ r (Go.refl S) (.bool _)
 case ref i =>
  refine VR.eRef y fun b rb=>?_
  have bm:=S.notMods (List.mem_of_getElem? rb)
  refine A3 e ?_
  clear e
  intro ob el e
  exists ob
  case list l =>
   refine A8 e ?_
   rintro xs hx rfl
   refine AW S el rb fun vs n f1 y1=>?_
   have i1:s.heap.IsList b vs:=⟨_,f1,rfl,n,rfl⟩
   have he:∀y,y∈vs→EqAt A.in1 s y (.str ⟨a.toArray⟩ t) (CI a y):=fun y hy=>KY y1 hx y (by simpa using hy)
   have an:=N7 a y1 hx
   rw [Array.any_toList] at an
   refine⟨fun Q E q=>?_,fun Q E q=>?_⟩
   ·with_reducible refine PySem.SeqAt.in_listAt (CI a) i1 he ?_
    rw [an];exact q _ _ r (Go.refl S) (.bool _)
   ·with_reducible refine PySem.SeqAt.notIn_listAt (CI a) i1 he ?_
    rw [an];exact q _ _ r (Go.refl S) (.bool _)
  case sdict n es =>
   exists e
   refine Og.AB (EA S el rb) fun kvs D y1=>?_
   have va:=FZ y1 a
   have eq:(valueAt kvs (⟨a.toArray⟩:PySem.Str)).isSome=(GE a es).isSome:=by
    cases q:GE a es with
    | none=>rw [q] at va;dsimp only at va;rw [va];rfl
    | some v=>rw [q] at va;obtain⟨V,e1,_⟩:=va;rw [e1];rfl
   refine⟨fun Q E q=>?_,fun Q E q=>?_⟩
   ·with_reducible refine PySem.wpAny_in_of (strKind_is _ _ _ _) bm D.mapOf ?_
    rw [eq];exact q _ _ r (Go.tok S _) (.bool _)
   ·with_reducible refine PySem.wpAny_notIn_of (strKind_is _ _ _ _) bm D.mapOf ?_
    rw [eq];exact q _ _ r (Go.tok S _) (.bool _)
  case edict =>
   exists e
   obtain⟨D,_⟩:=HN S el rb
   refine⟨fun Q E q=>?_,fun Q E q=>?_⟩
   ·with_reducible refine PySem.wpAny_in_of (strKind_is _ _ _ _) bm D.mapOf ?_
    exact q _ _ r (Go.tok S _) (.bool _)
   ·with_reducible refine PySem.wpAny_notIn_of (strKind_is _ _ _ _) bm D.mapOf ?_
    exact q _ _ r (Go.tok S _) (.bool _)
  case fmap es =>
   refine A8 e ?_
   rintro ov e1 rfl
   obtain⟨nd,es0,p,S0⟩:=DY S el
   refine Og.AB (EA S0 (D2 el) rb) fun kvs D y1=>?_
   have va:=FZ y1 a
   have sg:=KU nd p e1
   have eq:(valueAt kvs (⟨a.toArray⟩:PySem.Str)).isSome=ov.isSome:=by
    cases q:GE a es0 with
    | none=>rw [q] at va sg;dsimp only at va;rw [va,←sg];rfl
    | some v=>rw [q] at va sg;obtain⟨V,e1,_⟩:=va;rw [e1,←sg];rfl
   refine⟨fun Q E q=>?_,fun Q E q=>?_⟩
   ·with_reducible refine PySem.wpAny_in_of (strKind_is _ _ _ _) bm D.mapOf ?_
    rw [eq];exact q _ _ r (Go.tok S _) (.bool _)
   ·with_reducible refine PySem.wpAny_notIn_of (strKind_is _ _ _ _) bm D.mapOf ?_
    rw [eq];exact q _ _ r (Go.tok S _) (.bool _)
  case bag es =>
   obtain⟨nd,xs,p,S0⟩:=HM S el
   refine AW S0 (D2 el) rb fun vs n f1 y1=>?_
   have hk:xs.contains a=k:=by
    rw [←QY nd e]
    have:=p.mem_iff (a:=a)
    rw [Bool.eq_iff_iff,List.contains_iff_mem,List.contains_iff_mem];exact this
   have i1:s.heap.IsList b vs:=⟨_,f1,rfl,n,rfl⟩
   have he:∀y,y∈vs→EqAt A.in1 s y (.str ⟨a.toArray⟩ t) (CI a y):=fun y hy=>KY y1 (EX xs) y (by simpa using hy)
   have an:=N7 a y1 (EX xs)
   rw [Array.any_toList] at an
   refine⟨fun Q E q=>?_,fun Q E q=>?_⟩
   ·with_reducible refine PySem.SeqAt.in_listAt (CI a) i1 he ?_
    rw [an,hk];exact q _ _ r (Go.refl S) (.bool _)
   ·with_reducible refine PySem.SeqAt.notIn_listAt (CI a) i1 he ?_
    rw [an,hk];exact q _ _ r (Go.refl S) (.bool _)
  all_goals exists e
 all_goals exists e
end
theorem BA(slice:Expr)(o i:Value):∃ops,subscripted slice false o i=operate ops (getItem o i):=by
 cases slice with
 | Slice lo hi st p=>induction st using Option.casesOn with
  | none=>exact⟨_,rfl⟩
  | some x=>exact⟨_,rfl⟩
 | _=>exact⟨_,rfl⟩
theorem U7(n:Nat)(i:Int):IN n i=seqIndex? i n:=by
 unfold IN seqIndex?
 by_cases h:0≤i
 ·have h':¬i<0:=by lia
  simp only [if_pos h,if_neg h']
  by_cases h2:i.toNat<n
  ·rw [if_pos h2,if_pos (by simp;lia)]
  ·rw [if_neg h2,if_neg (by simp;lia)]
 ·have h':i<0:=by lia
  simp only [if_neg h,if_pos h']
  by_cases h2:0≤i+n
  ·rw [if_pos h2,if_pos (by simp;lia)]
  ·rw [if_neg h2,if_neg (by simp;lia)]
theorem GL{n:Nat}{i:Int}{k:Nat}(e:IN n i=some k):k<n∧(0≤i→k=i.toNat)∧(i<0→-(n:Int)≤i∧k=(i+n).toNat)∧i<n∧-(n:Int)≤i:=by
 unfold IN at e
 split at e
 ·split at e
  ·exists e;exact⟨by assumption,fun _=>rfl,by lia,by lia,by lia⟩
  ·exists e
 ·split at e
  ·exists e;exact⟨by lia,by lia,fun _=>⟨by lia,rfl⟩,by lia,by lia⟩
  ·exists e
section
variable{c:Cx}{A:Around}{s:Shared}{r:List Addr}{H:AH}{value slice:Expr}
theorem fZ(S:SR c s r H){i:Nat}{l:List AV}{k:Int}{u:Tok}{V:Value}{j:Nat}{v:AV}(x:VR c.hs s.heap r (.ref i) V)(e:H[i]?=some (.list l))(hf:CF l.length=true)(hp:IN l.length k=some j)(hv:l[j]?=some v):
  AE c A (subscriptTail value slice V (.int k u)) s r H v H:=by
 intro Q E q
 refine Og.AI (BA slice V (.int k u)) fun ops ho=>?_
 refine Og.AB x.inv_ref fun a hr1 ra=>?_;subst hr1
 refine Og.ER (QZ S e ra) fun vs n f1 y1=>?_
 have i1:s.heap.IsList a vs:=⟨_,f1,rfl,n,rfl⟩
 have hl:l.length=vs.size:=y1.length
 have hb:=GL hp
 have hf':=D1 hf
 refine Og.AB (y1.get hv) fun W e1 w1=>?_
 rw [Array.getElem?_toList] at e1
 have tI:s.TypeIs (.ref a) "list":=⟨_,f1,rfl⟩
 with_reducible refine PyProof.Rows.tail_any tI PySem.F.slot_list_getitem.lookup ?_ ho
 have q':=q W s r (Go.refl S) w1
 by_cases h0:0≤k
 ·have hx:vs[k.toNat]?=some W:=by rw [←hb.2.1 h0];exact e1
  with_reducible exact PySem.wpAny_getItem_list i1 h0 (by omega) hx q'
 ·have hb2:=hb.2.2.1 (by omega)
  have hx:vs[(k+vs.size).toNat]?=some W:=by rw [←hl,←hb2.2];exact e1
  with_reducible exact PySem.wpAny_getItem_list_neg i1 (by omega) (by omega) (by omega) hx q'
theorem lA(S:SR c s r H){l:List AV}{k:Int}{u:Tok}{V:Value}{j:Nat}{v:AV}(x:VR c.hs s.heap r (.tup l) V)(hf:CF l.length=true)(hp:IN l.length k=some j)(hv:l[j]?=some v):
  AE c A (subscriptTail value slice V (.int k u)) s r H v H:=by
 intro Q E q
 refine Og.AI (BA slice V (.int k u)) fun ops ho=>?_
 refine Og.BV x.inv_tup fun a vs hr1 t1 y1=>?_;subst hr1
 have hl:l.length=vs.size:=y1.length
 have hb:=GL hp
 have hf':=D1 hf
 refine Og.AB (y1.get hv) fun W e1 w1=>?_
 rw [Array.getElem?_toList] at e1
 with_reducible refine PyProof.Rows.tail_any t1.typeIs PySem.F.slot_tuple_getitem.lookup ?_ ho
 have hj:seqIndex? k vs.size=some j:=by rw [←hl,←U7];exact hp
 with_reducible exact PyProof.Rows.getItem_tuple t1 (by omega) (by omega) hj e1 (q W s r (Go.refl S) w1)
theorem lB(S:SR c s r H){l:List Nat}{k:Int}{t u:Tok}{j:Nat}{ch:Nat}(hf:CF l.length=true)(hp:IN l.length k=some j)(hv:l[j]?=some ch):
  AE c A (subscriptTail value slice (.str ⟨l.toArray⟩ t) (.int k u)) s r H (.str [ch]) H:=by
 intro Q E q
 refine Og.AI (BA slice (.str ⟨l.toArray⟩ t) (.int k u)) fun ops ho=>?_
 have hb:=GL hp
 have hf':=D1 hf
 with_reducible refine PyProof.Rows.tail_any (PySem.typeIs_str s _ t) PySem.F.slot_str_getitem.lookup ?_ ho
 have h1:(decide (k < -(2 ^ 63:Int))||decide (k≥2 ^ 63))=false:=by simp;omega
 have h2:(seqIndex? k (⟨l.toArray⟩:PySem.Str).length).bind ((⟨l.toArray⟩:PySem.Str).cps[·]?)=some ch:=by
  have:(⟨l.toArray⟩:PySem.Str).length=l.length:=rfl
  rw [this,←U7,hp]
  simpa using hv
 with_reducible refine PyProof.Rows.getItem_str h1 h2 ?_
 exact q _ _ r (Go.tok S _) (.str [ch] _)
theorem PM(S:SR c s r H){i n:Nat}{es:List (List Nat×AV)}{k:List Nat}{u:Tok}{V:Value}{v:AV}(x:VR c.hs s.heap r (.ref i) V)(e:H[i]?=some (.sdict n es))(hv:GE k es=some v):
  AE c A (subscriptTail value slice V (.str ⟨k.toArray⟩ u)) s r H v H:=by
 intro Q E q
 refine Og.AI (BA slice V (.str ⟨k.toArray⟩ u)) fun ops ho=>?_
 refine Og.AB x.inv_ref fun a hr1 ra=>?_;subst hr1
 refine Og.AB (EA S e ra) fun kvs D y1=>?_
 have va:=FZ y1 k
 rw [hv] at va
 refine Og.AB va fun W e1 w1=>?_;clear va
 with_reducible refine PyProof.Rows.tail_any D.typeIs PySem.F.slot_dict_getitem.lookup ?_ ho
 with_reducible refine PySem.wpAny_getItem_of (strKind_is _ _ _ _) D.mapOf e1 ?_
 exact q W _ r (Go.tok S _) w1
theorem bP(S:SR c s r H){i:Nat}{es:List (Int×AV)}{k:Int}{u:Tok}{V:Value}{v:AV}(x:VR c.hs s.heap r (.ref i) V)(e:H[i]?=some (.idict es))(hv:dT k es=some v):
  AE c A (subscriptTail value slice V (.int k u)) s r H v H:=by
 intro Q E q
 refine Og.AI (BA slice V (.int k u)) fun ops ho=>?_
 refine Og.AB x.inv_ref fun a hr1 ra=>?_;subst hr1
 refine Og.AB (N8 S e ra) fun kvs D y1=>?_
 have va:=bO y1 k
 rw [hv] at va
 refine Og.AB va fun W e1 w1=>?_;clear va
 with_reducible refine PyProof.Rows.tail_any D.typeIs PySem.F.slot_dict_getitem.lookup ?_ ho
 with_reducible refine PySem.wpAny_getItem_of (intKind_is _ _ _ _) D.mapOf e1 ?_
 exact q W _ r (Go.tok S _) w1
set_option tactic.hygienic true in
theorem uD(S:SR c s r H){a b v:AV}{V W:Value}(x:VR c.hs s.heap r a V)(y:VR c.hs s.heap r b W)(e:dW H a b=some v):AE c A (subscriptTail value slice V W) s r H v H:=by
 exists a
 case tup l =>
   refine A3 e ?_
   clear e
   intro i h e
   exists BX h
   refine A7 e ?_
   clear e
   intro hf e
   refine A3 e ?_
   intro j hp hv
   refine VR.eInt y fun u=>?_
   exact lA S x hf hp hv
 case str l =>
   refine A3 e ?_
   clear e
   intro i h e
   exists BX h
   refine A7 e ?_
   clear e
   intro hf e
   refine A3 e ?_
   intro j hp hv
   refine A8 hv ?_
   rintro ch hw rfl
   refine VR.eInt y fun u=>?_
   refine VR.eStr x fun t=>?_
   exact lB S hf hp hw
 case ref o =>
  exists b
  case int i =>
   refine VR.eInt y fun u=>?_
   refine A3 e ?_
   clear e
   intro ob hl e
   exists ob
   case list l =>
    refine A7 e ?_
    clear e
    intro hf e
    refine A3 e ?_
    intro j hp hv
    exact fZ S x hl hf hp hv
   case idict es=>exact bP S x hl e
   all_goals exists e
  case str k =>
   refine VR.eStr y fun u=>?_
   refine A3 e ?_
   clear e
   intro ob hl e
   exists ob
   case sdict n es=>exact PM S x hl e
   case fmap es =>
    refine A3 e ?_
    intro ov e1 e2
    obtain⟨nd,es0,p,S0⟩:=DY S hl
    intro Q E q
    refine PM (H:=H.set _ (.sdict 0 es0)) S0 x (D2 hl) ((KU nd p e1).trans e2) Q E fun V s' r' G y=>?_
    have G2:=Go.fmap (more:=[]) hl nd p (by rw [List.append_nil];exact G)
    rw [List.append_nil] at G2
    exact q V s' r' G2 y
   all_goals exists e
  all_goals exists e
 all_goals exists e
end
theorem J9{lo hi:Option Int}{n:Nat}(h0:∀x,lo=some x→0≤x)(h1:∀x,hi=some x→0≤x):
  sliceBounds lo hi none n=(((min (lo.getD 0).toNat n:Nat):Int),((min (hi.getD n).toNat n:Nat):Int),1):=by
 have a:∀x:Int,0≤x→max 0 (min x (n:Int))=((min x.toNat n:Nat):Int):=fun x hx=>by lia
 induction lo using Option.casesOn with
 | none =>
  induction hi using Option.casesOn with
  | none=>simp [sliceBounds]
  | some y =>
   have hy:=h1 y rfl
   have:¬y<0:=by lia
   simp [sliceBounds,if_neg this,a y hy]
 | some x =>
  have hx:=h0 x rfl
  have nx:¬x<0:=by lia
  induction hi using Option.casesOn with
  | none=>simp [sliceBounds,if_neg nx,a x hx]
  | some y =>
   have hy:=h1 y rfl
   have:¬y<0:=by lia
   simp [sliceBounds,if_neg nx,if_neg this,a y hy,a x hx]
theorem R0{α:Type}{l k:List α}{lo hi:Option Int}(e:cut l lo hi=some k):(∀x,lo=some x→0≤x)∧(∀x,hi=some x→0≤x)∧k=(l.take (hi.getD l.length).toNat).drop (lo.getD 0).toNat:=by
 unfold cut at e
 dsimp only at e
 split at e
 ·rename_i h
  simp only [Bool.and_eq_true,decide_eq_true_eq] at h
  exists e
  refine⟨?_,?_,rfl⟩
  ·rintro x rfl;exact h.1
  ·rintro x rfl;exact h.2
 ·exists e
theorem U8{α:Type}(l:List α)(a b:Nat):(l.take b).drop a=(l.drop (min a l.length)).take (min b l.length-min a l.length):=by
 rw [List.drop_take]
 by_cases h:a≤l.length
 ·rw [Nat.min_eq_left h]
  by_cases h2:b≤l.length
  ·rw [Nat.min_eq_left h2]
  ·rw [Nat.min_eq_right (show l.length≤b by lia),List.take_of_length_le (by simp;lia),List.take_of_length_le (by simp)]
 ·rw [Nat.min_eq_right (show l.length≤a by lia),List.drop_of_length_le (show l.length≤a by lia),List.drop_of_length_le (Nat.le_refl _)];simp
theorem AJ.cut{hs h:Heap}{r:List Addr}{l k:List AV}{L:List Value}(x:AJ hs h r l L){lo hi:Option Int}(e:cut l lo hi=some k):AJ hs h r k (slicePick L.toArray lo hi none).toList:=by
 refine Og.BB (R0 e) fun h0 h1 hr1=>?_;subst hr1
 have b:=J9 (n:=L.toArray.size) h0 h1
 rw [kmk_pick_nat _ b]
 have hl:=x.length
 have e1:L.toArray.size=l.length:=by simp [hl]
 rw [e1]
 rw [U8]
 exact(x.drop _).take _
section
variable{c:Cx}{A:Around}{s:Shared}{r:List Addr}{H:AH}{value slice:Expr}
abbrev B0(vl vu vs:Value):Obj:={ cls:=.type "slice",data:=.fields #[vl,vu,vs] }
theorem R1(S:SR c s r H){a:Addr}{vs:Array Value}{vl vu vk:Value}{lo hi st:Option Int}{k:List AV}(f:s.heap.IsList a vs)(pl:IsPart vl lo)(pu:IsPart vu hi)(pk:IsPart vk st)(h0:st≠some 0)(hsz:vs.size≤sizeLine)
  (y:AJ c.hs s.heap r k (slicePick vs lo hi st).toList) (Q:Value→Shared→Prop) (E:Value→Shared→Prop)
  (q:∀V s' r',Go c s r H (H++[.list k]) s' r'→VR c.hs s'.heap r' (.ref H.length) V→Q V s') :
  wpAny (model c.prog c.w) A (subscriptTail value slice (.ref a) (.ref s.heap.objs.size)) Q E { s with heap:=s.heap.push (B0 vl vu vk) }:=by
 refine Og.AI (BA slice (.ref a) (.ref s.heap.objs.size)) fun ops ho=>?_
 have G:=Go.push S (B0 vl vu vk) s.toks
 have f':(s.heap.push (B0 vl vu vk)).IsList a vs:=by
  refine Og.AB f fun o e x=>?_;clear f
  exact⟨o,Heap.get?_push_of_some _ e,x⟩
 have tI:({ s with heap:=s.heap.push (B0 vl vu vk) }:Shared).TypeIs (.ref a) "list":=by
  refine Og.H8 f' fun o e x _=>?_
  exact⟨o,e,x⟩
 have sl:(s.heap.push (B0 vl vu vk)).IsSliceOf s.heap.objs.size vl vu vk:=⟨_,Heap.get?_push_size _ rfl,rfl,rfl⟩
 with_reducible refine PyProof.Rows.tail_any tI PySem.F.slot_list_getitem.lookup ?_ ho
 with_reducible refine PySem.wpAny_getItem_list_slice f' sl pl pu pk h0 ?_ hsz
 exact q _ _ _ (G.trans (Go.newList G.sr s.toks (G.vrs S y))) (VR.last G.sr _)
set_option tactic.hygienic true in
theorem uE(S:SR c s r H){a v:AV}{V:Value}{H':AH}{lo hi:Option Int}{vl vu:Value}(x:VR c.hs s.heap r a V)(pl:IsPart vl lo)(pu:IsPart vu hi)(e:TE H a lo hi=some (v,H'))(nb:∀o l,a=.ref o→H[o]?≠some (.barr l))
  (Q:Value→Shared→Prop) (E:Value→Shared→Prop) (q:∀V s' r',Go c s r H H' s' r'→VR c.hs s'.heap r' v V→Q V s') :
  wpAny (model c.prog c.w) A (subscriptTail value slice V (.ref s.heap.objs.size)) Q E { s with heap:=s.heap.push (B0 vl vu .none) }:=by
 cases a
 case str l =>
  rcases l with _ | ⟨x1,_ | ⟨x2,_ | ⟨x3,l⟩⟩⟩
  ·exists e
  ·exists e
  ·refine A7 e ?_
   clear e
   intro h e
   obtain⟨h1,h2⟩:=B3 h
   cases eq_of_beq h1
   cases eq_of_beq h2
   exists e
   refine VR.eStr x fun t=>?_
   refine Og.AI (BA slice (.str ⟨[x1,x2].toArray⟩ t) (.ref s.heap.objs.size)) fun ops ho=>?_
   cases pl
   cases pu with
   | int _ u =>
   have sl:(s.heap.push (B0 .none (.int 1 u) .none)).IsSlice s.heap.objs.size none (some (1,u)) none:=⟨_,Heap.get?_push_size _ rfl,rfl,rfl⟩
   with_reducible refine PyProof.Rows.tail_any (PySem.typeIs_str _ _ t) PySem.F.slot_str_getitem.lookup ?_ ho
   with_reducible refine PySem.wpAny_getItem_str_slice sl rfl ?_
   refine⟨by show 1≤sizeLine;decide,?_⟩
   have G:=Go.push S (B0 .none (.int 1 u) .none) (s.toks+1)
   exact q _ _ r G (.str [x1] _)
  ·exists e
 case slist l =>
  ·refine A7 e ?_
   clear e
   intro hf e
   refine A8 e ?_
   intro k hk e2
   exists e2
   refine VR.eSl x fun a vs f y=>?_
   have hl:l.length=vs.size:=y.length
   have nc:a≠c.L:=fun z=>by
    obtain⟨o,e1,e2,n,e3⟩:=f
    refine Og.IK c.stat fun o' es ep e4 e5 _=>?_
    rw [z,e4] at e1;exists e1
    rw [e5] at e3;exists e3
   have f':s.heap.IsList a vs:=by
    refine Og.AB f fun o e z=>?_;clear f
    exact⟨o,S.keep a o nc e,z⟩
   exact R1 S f' pl pu .none (by decide) (by rw [←hl];exact AT hf) (y.cut hk) Q E q
 case ref o =>
  refine A3 e ?_
  clear e
  intro ob el e
  cases ob
  case list l =>
   ·refine A7 e ?_
    clear e
    intro hf e
    refine A8 e ?_
    intro k hk e2
    exists e2
    refine VR.eRef x fun a ra=>?_
    refine AW S el ra fun vs n f1 y=>?_
    have hl:l.length=vs.size:=y.length
    exact R1 S ⟨_,f1,rfl,n,rfl⟩ pl pu .none (by decide) (by rw [←hl];exact AT hf) (y.cut hk) Q E q
  case barr l=>exact absurd el (nb _ _ rfl)
  all_goals exists e
 all_goals exists e
theorem uF(S:SR c s r H){a v:AV}{V:Value}{H':AH}{t:Tok}(x:VR c.hs s.heap r a V)(e:nN H a=some (v,H'))
  (Q:Value→Shared→Prop) (E:Value→Shared→Prop) (q:∀V s' r',Go c s r H H' s' r'→VR c.hs s'.heap r' v V→Q V s') :
  wpAny (model c.prog c.w) A (subscriptTail value slice V (.ref s.heap.objs.size)) Q E { s with heap:=s.heap.push (B0 .none .none (.int (-1) t)) }:=by
 refine A3 e ?_
 clear e
 intro o h e
 refine A3 e ?_
 clear e
 intro l el e
 refine A7 e ?_
 intro hf e2
 exists B7 h
 replace el:=BD el
 ···exists e2,q
    refine VR.eRef x fun a ra=>?_
    refine AW S el ra fun vs n f1 y=>?_
    have hl:l.length=vs.size:=y.length
    refine R1 S ⟨_,f1,rfl,n,rfl⟩ .none .none (.int (-1) t) (by decide) (by rw [←hl];exact AT hf) ?_ Q E q
    rw [krv_pick]
    exact y.reverse
end
section
variable{c:Cx}{A:Around}{s:Shared}{r:List Addr}{H:AH}
theorem PN(c:Cx){x a:Nat}{t:Tok}(hx:c.isA x=true)(ha:c.isA a=true):(Value.str (c.nm x) t).isStr (c.nm a)=(x==a):=by
 show(c.nm x==c.nm a)=_
 rw [Bool.eq_iff_iff,beq_iff_eq,beq_iff_eq]
 exact⟨fun e=>c.inj x a (hx.trans ha.symm) e,fun e=>e▸rfl⟩
theorem U9{h:Heap}{fs:List (Nat×AV)}{ds:List DictEntry}(x:JP c.isA c.nm c.hs h r fs ds){a:Nat}(ha:c.isA a=true):match JQ a fs with
  | some v=>∃V,getL (c.nm a) ds=some (some V)∧VR c.hs h r v V
  | none=>getL (c.nm a) ds=some none:=by
 induction x with
 | nil=>rfl
 | @cons e d l L p _ ih =>
  obtain⟨i,v⟩:=e
  refine Og.AI p.key fun t hk=>?_
  have key:d.key.isStr (c.nm a)=(i==a):=by rw [hk];exact PN c p.isA ha
  have rk:d.refKey=false:=by unfold DictEntry.refKey;rw [hk]
  rw [JQ]
  unfold getL
  rw [List.find?_cons,key]
  cases q:i==a with
  | true=>exact⟨d.val,rfl,p.val⟩
  | false =>
   unfold getL at ih
   simp only [Bool.false_eq_true,if_false]
   rw [List.any_cons,rk,Bool.false_or]
   exact ih
theorem R4(S:SR c s r H){i k d:Nat}{fs:List (Nat×AV)}{a:Addr}(e:H[i]?=some (.inst k d))(ea:r[i]?=some a)(ed:H[d]?=some (.ns fs)):
  ∃dx ds n,r[d]?=some dx∧s.heap.get? a=some (instObj (c.ca k) dx)∧c.isC k=true∧s.heap.get? dx=some (dictOf ds n)∧JP c.isA c.nm c.hs s.heap r fs ds∧ds.length≤60:=by
 obtain⟨ob,e1,dx,e2,rfl,hc⟩:=S.at e ea
 obtain⟨ob2,e3,ds,n,rfl,x,hl⟩:=S.at ed e2
 exact⟨dx,ds,n,e2,e1,hc,e3,x,hl⟩
theorem R5{h:Heap}{a dx k:Addr}{ds:List DictEntry}{n:Nat}(e1:h.get? a=some (instObj k dx))(e2:h.get? dx=some (dictOf ds n)):PySem.W.InstAt h a (instObj k dx) k (some (dictOf ds n)):=⟨e1,rfl,rfl,e2⟩
theorem N9{h:Heap}{v:AV}{V:Value}(x:VR c.hs h r v V)(hn:v≠.top):handedIn V=true:=by
 induction v using AV.casesOn with
 | none=>exact H0 x.inv_none rfl
 | bool b=>exact H0 x.inv_bool rfl
 | int i=>exact VR.eInt x fun _=>rfl
 | str i=>exact VR.eStr x fun _=>rfl
 | bytes i=>exact VR.eBytes x fun _=>rfl
 | tup i=>exact VR.eTup x fun _ _ _ _=>rfl
 | ref i=>exact VR.eRef x fun _ _=>rfl
 | slist i=>exact VR.eSl x fun _ _ _ _=>rfl
 | addr i=>exact H0 x.inv_addr rfl
 | top=>exact absurd rfl hn
theorem qA(S:SR c s r H){a:Nat}{v x:AV}{V:Value}{b:Bool}(y:VR c.hs s.heap r v V)(ha:c.isA a=true)(e:dX H v a=some x):AE c A (getAttr V (c.nm a) b) s r H x H:=by
 intro Q E q
 refine A3 e ?_
 clear e
 rintro⟨d,fs⟩ h e
 refine A3 e ?_
 clear e
 intro x' hx e
 refine A7 e ?_
 intro kn e2
 cases e2
 have nt:x≠.top∧JQ a fs=some x:=⟨WN kn,hx⟩
 refine Og.BV (TF h) fun i k hr1 ei ed=>?_;subst hr1
 ···skip
    refine VR.eRef y fun w rw_=>?_
    refine Og.aY (R4 S ei rw_ ed) fun dx ds n _ e1 hc e2 F _=>?_
    have g:=U9 F ha
    rw [nt.2] at g
    refine Og.AB g fun W g1 g2=>?_;clear g
    have hcls:=c.clsAttr k a hc ha
    refine Og.AB (any_some (c.clsDict k hc)) fun cd hcd hdict=>?_
    have own:PySem.W.ownOf cd (some (dictOf ds n)) (c.nm a)=some (some W):=by
     unfold PySem.W.ownOf;rw [if_pos hdict];exact g1
    have fo:findObj c.K (c.ca k) (some (dictOf ds n)) (c.nm a)=some (.value W):=by
     show(clsIn c.K (c.ca k)).bind (fun cd=>_)=_
     rw [hcd,hcls]
     show(PySem.W.ownOf cd (some (dictOf ds n)) (c.nm a)).bind _=_
     rw [own];rfl
    with_reducible refine PySem.W.get_value S.X (R5 e1 e2) (c.clsGet k hc) fo (N9 g2 nt.1) ?_
    exact q W _ r (Go.tok S _) g2
theorem JP.put{h:Heap}{fs:List (Nat×AV)}{ds:List DictEntry}(x:JP c.isA c.nm c.hs h r fs ds){a:Nat}{v:AV}{V:Value}{hsh:Int}{t:Tok}(ha:c.isA a=true)(y:VR c.hs h r v V):
  JP c.isA c.nm c.hs h r (setField a v fs) (putL (c.nm a) hsh (.str (c.nm a) t) V ds):=by
 induction x with
 | nil=>exact .cons ⟨ha,⟨t,rfl⟩,y⟩ .nil
 | @cons e d l L p z ih =>
  obtain⟨i,w⟩:=e
  refine Og.AI p.key fun u hk=>?_
  have key:d.key.isStr (c.nm a)=(i==a):=by rw [hk];exact PN c p.isA ha
  rw [setField,putL,key]
  cases q:i==a with
  | true=>exact .cons ⟨p.isA,p.key,y⟩ z
  | false=>exact .cons p ih
theorem NA(n:PySem.Str)(hsh:Int)(k v:Value):∀ds:List DictEntry,(putL n hsh k v ds).length≤ds.length+1
 | []=>Nat.le_refl _
 | d::ds=>by
  rw [putL]
  split
  ·simp
  ·have:=NA n hsh k v ds
   simp;omega
theorem ZM{h:Heap}{fs:List (Nat×AV)}{ds:List DictEntry}(x:JP c.isA c.nm c.hs h r fs ds):ds.length=fs.length:=by
 induction x with
 | nil=>rfl
 | cons _ _ ih=>simp [ih]
theorem bQ{h:Heap}{fs:List (Nat×AV)}{ds:List DictEntry}(x:JP c.isA c.nm c.hs h r fs ds):ds.any (·.refKey)=false:=by
 induction x with
 | nil=>rfl
 | @cons e d l L p _ ih =>
  refine Og.AI p.key fun u hk=>?_
  have rk:d.refKey=false:=by unfold DictEntry.refKey;rw [hk]
  rw [List.any_cons,rk,Bool.false_or]
  exact ih
open Builtin Builtin.ObjectAttr in
theorem PO(S:SR c s r H){a:Nat}{v x:AV}{V W:Value}{H':AH}(y:VR c.hs s.heap r v V)(z:VR c.hs s.heap r x W)(ha:c.isA a=true)(e:IA H v a x=some H'):l8 c A (setAttr V (c.nm a) W) s r H H':=by
 intro Q E q
 refine A3 e ?_
 clear e
 rintro⟨d,fs⟩ h e
 refine A7 e ?_
 intro hlen e2
 exists e2
 refine Og.BV (TF h) fun i k hr1 ei ed=>?_;subst hr1
 ····skip
     have hlen:=of_decide_eq_true hlen
     refine VR.eRef y fun w rw_=>?_
     refine Og.aY (R4 S ei rw_ ed) fun dx ds n rd e1 hc e2 F _=>?_
     have hcls:=c.clsAttr k a hc ha
     refine Og.AB (any_some (c.clsDict k hc)) fun cd hcd hdict=>?_
     have hl:=U9 F ha
     with_reducible refine PySem.W.set_plain S.X (R5 e1 e2) (c.clsSet k hc) ?_
     have S1:=S.toks (s.toks+1)
     have ht:takerIn c.K (c.ca k) (c.nm a)=some none:=by unfold takerIn;rw [hcls];rfl
     with_reducible refine PySem.W.osa_open S1.X (R5 e1 e2) (c.clsPlain k hc) ht fun b=>?_
     dsimp only
     have D':(s.heap.update dx (Obj.putName (c.nm a) (PyData.keyHash c.w.params (c.nm a)) (.str (c.nm a) (s.toks+1)) W)).get? dx=some (dictOf (putL (c.nm a) (PyData.keyHash c.w.params (c.nm a)) (.str (c.nm a) (s.toks+1)) W ds) (putN (c.nm a) ds n)):=by
      have:=Heap.get?_update_self (Obj.putName (c.nm a) (PyData.keyHash c.w.params (c.nm a)) (.str (c.nm a) (s.toks+1)) W) e2 (by rw [putName_dict];rfl)
      rw [putName_dict] at this
      exact this
     have fin:∀R:Unit→Shared→Prop,(∀s' r',Go c s r H (H.set d (.ns (setField a x fs))) s' r'→R () s') →
       R () { s with heap:=s.heap.update dx (Obj.putName (c.nm a) (PyData.keyHash c.w.params (c.nm a)) (.str (c.nm a) (s.toks+1)) W),toks:=s.toks+1+1 }:=fun R hR=>by
      refine hR _ r (Go.turnBut S _ rd ed (fun _ _ h=>nomatch h) (Heap.SameBut.update ..) D' ⟨_,_,rfl,F.put ha z,?_⟩)
      have:=NA (c.nm a) (PyData.keyHash c.w.params (c.nm a)) (.str (c.nm a) (s.toks+1)) W ds
      have:=ZM F
      lia
     refine wpAny_bind (wpAny_pure (wpAny_bind (wpAny_bind (wpAny_loadPart e1 (wpAny_bind ((looks_clsIn S1.X hcd).here ?_))))))
     rw [hdict]
     refine wpAny_pure (a:=some dx) (wpAny_bind (wpAny_pure (wpAny_bind ?_)))
     unfold nsSet
     refine wpAny_bind (wpAny_bind (wpAny_askSetting (wpAny_pure (wpAny_bind (wpAny_mkText (wpAny_bind (wpAny_loadPart e2 ?_)))))))
     have cnd:(!(ds.toArray).any (·.key.isStr (c.nm a))&&(ds.toArray).any (·.refKey))=false:=by
      have nr:=bQ F
      rw [List.any_toArray,List.any_toArray,nr,Bool.and_false]
     dsimp only [dictOf]
     rw [aRefKeyMayBeTheName_at,cnd]
     refine wpAny_updatePart e2 ?_
     refine wpAny_bind (wpAny_lookBehind D' (pastItsLine_dict (by
      have:=NA (c.nm a) (PyData.keyHash c.w.params (c.nm a)) (.str (c.nm a) (s.toks+1)) W ds
      have:=ZM F
      rw [List.size_toArray,sizeLine_eq];lia)) ?_)
     exact wpAny_pure (fin _ q)
end
theorem HO{hs h:Heap}{r:List Addr}{es:List (List Nat×AV)}{kvs:List (PySem.Str×Value)}(x:GX hs h r es kvs)(nd:(kvs.map (·.1)).Nodup)(k:List Nat){v:AV}{V:Value}(y:VR hs h r v V):GX hs h r (OM k v es) (stored kvs (⟨k.toArray⟩:PySem.Str) V):=by
 have key:∀a:List Nat,(decide ((⟨a.toArray⟩:PySem.Str)=⟨k.toArray⟩))=(a==k):=fun a=>by rw [←J8];rfl
 induction x with
 | nil=>exact .cons y .nil
 | @cons a w W l L p q ih =>
  rw [List.map_cons,List.nodup_cons] at nd
  have ih:=ih nd.2
  rw [OM]
  unfold stored at ih ⊢
  rw [List.any_cons,List.map_cons]
  have ka:=key a
  cases e:a==k with
  | true =>
   rw [e] at ka
   have ka':(⟨a.toArray⟩:PySem.Str)=⟨k.toArray⟩:=of_decide_eq_true ka
   have rest:L.map (fun kv=>if kv.1=(⟨k.toArray⟩:PySem.Str) then(kv.1,V) else kv)=L:=by
    refine(List.map_congr_left (g:=id) fun kv hk=>if_neg fun z=>?_).trans (List.map_id L)
    exact nd.1 (List.mem_map.mpr ⟨kv,hk,z.trans ka'.symm⟩)
   simp only [ka',decide_true,Bool.true_or,if_true]
   rw [rest,←ka']
   exact .cons y q
  | false =>
   rw [e] at ka
   have ka':¬(⟨a.toArray⟩:PySem.Str)=⟨k.toArray⟩:=of_decide_eq_false ka
   simp only [ka',decide_false,Bool.false_or,if_false,Bool.false_eq_true]
   split
   ·rename_i h;rw [if_pos h] at ih;exact .cons p ih
   ·rename_i h;rw [if_neg h] at ih;exact .cons p ih
theorem UA{hs h:Heap}{r:List Addr}{es:List (Int×AV)}{kvs:List (Int×Value)}(x:MR hs h r es kvs)(nd:(kvs.map (·.1)).Nodup)(k:Int){v:AV}{V:Value}(y:VR hs h r v V):MR hs h r (k9 k v es) (stored kvs k V):=by
 induction x with
 | nil=>exact .cons y .nil
 | @cons a w W l L p q ih =>
  rw [List.map_cons,List.nodup_cons] at nd
  have ih:=ih nd.2
  rw [k9]
  unfold stored at ih ⊢
  rw [List.any_cons,List.map_cons]
  by_cases e:a=k
  ·have rest:L.map (fun kv=>if kv.1=k then(kv.1,V) else kv)=L:=by
    refine(List.map_congr_left (g:=id) fun kv hk=>if_neg fun z=>?_).trans (List.map_id L)
    exact nd.1 (List.mem_map.mpr ⟨kv,hk,z.trans e.symm⟩)
   simp only [e,decide_true,Bool.true_or,if_true]
   rw [rest]
   exact .cons y q
  ·simp only [e,decide_false,Bool.false_or,if_false,Bool.false_eq_true]
   split
   ·rename_i h;rw [if_pos h] at ih;exact .cons p ih
   ·rename_i h;rw [if_neg h] at ih;exact .cons p ih
theorem M9{hs h:Heap}{r:List Addr}{es:List (List Nat×AV)}{kvs:List (PySem.Str×Value)}(x:GX hs h r es kvs):kvs.length=es.length:=by
 induction x with
 | nil=>rfl
 | cons _ _ ih=>simp [ih]
theorem ZN{hs h:Heap}{r:List Addr}{es:List (Int×AV)}{kvs:List (Int×Value)}(x:MR hs h r es kvs):kvs.length=es.length:=by
 induction x with
 | nil=>rfl
 | cons _ _ ih=>simp [ih]
theorem JA{K:Type}[DecidableEq K]{prog:Program}{w:World}{knd:KeyKind prog w K}{h:Heap}{a:Addr}{kvs:List (K×Value)}(D:h.DictOf knd a kvs):(kvs.map (·.1)).Nodup:=by
 refine Og.aY D fun _ _ _ _ _ _ _ _ z=>?_;clear D;exact z
section
variable{c:Cx}{A:Around}{s:Shared}{r:List Addr}{H:AH}
set_option tactic.hygienic true in
theorem g4(S:SR c s r H){v i x:AV}{V I W:Value}{H':AH}(y:VR c.hs s.heap r v V)(yi:VR c.hs s.heap r i I)(z:VR c.hs s.heap r x W)(e:TH H v i x=some H'):l8 c A (setItem V I W) s r H H':=by
 intro Q E q
 refine A3 e ?_
 clear e
 intro o h e
 exists B7 h
 refine VR.eRef y fun a ra=>?_
 refine A3 e ?_
 clear e
 intro ob el e
 exists i
 case int i =>
  exists ob
  case list l =>
   ·refine A7 e ?_
    clear e
    intro hb e
    ·exists e
     obtain⟨hf,hb⟩:=B3 hb
     obtain⟨h0,h1⟩:=B3 hb
     replace h0:=of_decide_eq_true h0
     replace h1:=of_decide_eq_true h1
     refine VR.eInt yi fun t=>?_
     refine AW S el ra fun vs n f1 y1=>?_
     have hl:l.length=vs.size:=y1.length
     have hf':=D1 hf
     with_reducible refine PySem.W.ki_setAt (n:=n) f1 h0 (by lia) (by lia) ?_
     have u:=Heap.get?_update_self (Obj.mapSeq (·.setIfInBounds i.toNat W)) f1 rfl
     refine q _ r (Go.turnBut S s.toks ra el (fun _ _ h=>nomatch h) (Heap.SameBut.update ..) u ⟨vs.setIfInBounds i.toNat W,_,rfl,?_⟩)
     rw [Array.toList_setIfInBounds]
     exact y1.set z _
  case edict =>
   ·skip
    exists e
    refine VR.eInt yi fun t=>?_
    obtain⟨_,D⟩:=HN S el ra
    with_reducible refine PySem.wpAny_setItem_pairs (intKind_is _ _ _ _) D (fun h' D' hs=>?_) (Nat.zero_le _)
    refine Og.AB (Heap.dictOf_iff.mp D') fun o' e' D'=>?_
    exact q _ r (Go.turnBut S _ ra el (fun _ _ h=>nomatch h) hs e' ⟨_,D',.cons z .nil⟩)
  case idict es =>
   ·refine A7 e ?_
    clear e
    intro hf e
    ·exists e
     refine VR.eInt yi fun t=>?_
     refine Og.AB (N8 S el ra) fun kvs D y1=>?_
     have hsz:kvs.length≤sizeLine:=by rw [ZN y1];exact AT hf
     with_reducible refine PySem.wpAny_setItem_pairs (intKind_is _ _ _ _) D (fun h' D' hs=>?_) hsz
     refine Og.AB (Heap.dictOf_iff.mp D') fun o' e' D'=>?_
     exact q _ r (Go.turnBut S _ ra el (fun _ _ h=>nomatch h) hs e' ⟨_,D',UA y1 (JA D) _ z⟩)
  all_goals exists e
 case str k =>
  exists ob
  case sdict n es =>
   ·refine A7 e ?_
    clear e
    intro hf e
    ·exists e
     refine VR.eStr yi fun t=>?_
     refine Og.AB (EA S el ra) fun kvs D y1=>?_
     have hsz:kvs.length≤sizeLine:=by rw [M9 y1];exact AT hf
     with_reducible refine PySem.wpAny_setItem_pairs (strKind_is _ _ _ _) D (fun h' D' hs=>?_) hsz
     refine Og.AB (Heap.dictOf_iff.mp D') fun o' e' D'=>?_
     exact q _ r (Go.turnBut S _ ra el (fun n' es' h=>by exists h;exact⟨_,_,rfl,Nat.lt_succ_self _⟩) hs e' ⟨_,D',HO y1 (JA D) _ z⟩)
  case edict =>
   ·skip
    exists e
    refine VR.eStr yi fun t=>?_
    obtain⟨D,_⟩:=HN S el ra
    with_reducible refine PySem.wpAny_setItem_pairs (strKind_is _ _ _ _) D (fun h' D' hs=>?_) (Nat.zero_le _)
    refine Og.AB (Heap.dictOf_iff.mp D') fun o' e' D'=>?_
    exact q _ r (Go.turnBut S _ ra el (fun _ _ h=>nomatch h) hs e' ⟨_,D',.cons z .nil⟩)
  case fmap es =>
   ·refine A7 e ?_
    clear e
    intro hf e
    ·exists e
     replace hf:=B3 hf
     obtain⟨nd,es0,p,S0⟩:=DY S el
     refine VR.eStr yi fun t=>?_
     refine Og.AB (EA S0 (D2 el) ra) fun kvs D y1=>?_
     have hsz:kvs.length≤sizeLine:=by
      rw [M9 y1,p.length_eq]
      exact Nat.le_trans (List.length_filterMap_le _ _) (AT hf.1)
     with_reducible refine PySem.wpAny_setItem_pairs (strKind_is _ _ _ _) D (fun h' D' hs=>?_) hsz
     refine Og.AB (Heap.dictOf_iff.mp D') fun o' e' D'=>?_
     refine q _ r (Go.fmapS (es0:=es0) el (by rw [KV];exact nd) (bI nd p hf.2) (n:=1) ?_)
     exact Go.turnBut S0 _ ra (D2 el) (fun n' es' h=>by exists h;exact⟨_,_,rfl,Nat.lt_succ_self _⟩) hs e' ⟨_,D',HO y1 (JA D) _ z⟩
  all_goals exists e
 all_goals exists e
end
section
variable{c:Cx}{A:Around}{s:Shared}{r:List Addr}{H:AH}
theorem bR(S:SR c s r H){l:List AV}{V:Value}(x:VR c.hs s.heap r (.tup l) V)(hf:CF l.length=true):AE c A (call (.builtin "len") [V]) s r H (.int l.length) H:=by
 intro Q E q
 refine VR.eTup x fun a vs t1 y1=>?_
 have hl:l.length=vs.size:=y1.length
 have:=D1 hf
 have hz:(vs.size:Int)<2 ^ 63:=by lia
 with_reducible refine PyProof.Rows.len_tuple t1 hz ?_
 rw [←hl]
 exact q _ _ r (Go.tok S _) (.int _ _)
theorem X7(S:SR c s r H){i:Nat}{l:List AV}{V:Value}(x:VR c.hs s.heap r (.ref i) V)(e:H[i]?=some (.list l))(hf:CF l.length=true):AE c A (call (.builtin "len") [V]) s r H (.int l.length) H:=by
 intro Q E q
 refine VR.eRef x fun a ra=>?_
 refine AW S e ra fun vs n f1 y1=>?_
 have i1:s.heap.IsList a vs:=⟨_,f1,rfl,n,rfl⟩
 have hl:l.length=vs.size:=y1.length
 have:=D1 hf
 have hz:(vs.size:Int)<2 ^ 63:=by lia
 with_reducible refine PySem.Calls.call_len_list i1 hz ?_
 rw [←hl]
 exact q _ _ r (Go.tok S _) (.int _ _)
theorem UB(S:SR c s r H){l:List UInt8}{t:Tok}(hf:CF l.length=true):AE c A (call (.builtin "len") [.bytes l.toArray t]) s r H (.int l.length) H:=by
 intro Q E q
 have:=D1 hf
 have hz:l.toArray.size≤1099511627776:=by simp;lia
 with_reducible refine PySem.W.len_bytes hz ?_
 have hl:l.toArray.size=l.length:=by simp
 rw [hl]
 exact q _ _ r (Go.tok S _) (.int _ _)
theorem uG(S:SR c s r H){a:Int}{t:Tok}:AE c A (call (.builtin "abs") [.int a t]) s r H (.int (a.natAbs:Int)) H:=by
 intro Q E q
 with_reducible refine PyProof.Rows.call_abs_int fun u tk=>?_
 have:(if a<0 then -a else a)=(a.natAbs:Int):=by split<;>lia
 rw [this]
 exact q _ _ r (Go.tok S _) (.int _ _)
theorem uH(S:SR c s r H){a b:Int}{t u:Tok}(hh:A.handled=none):AE c A (call (.builtin "max") [.int a t,.int b u]) s r H (.int (if b>a then b else a)) H:=by
 intro Q E q
 with_reducible refine PyProof.Rows.max_two_N hh S.fr S.news fun h' tk F N=>?_
 exact q _ _ r (Go.ofNews (more:=[]) S F N tk) (.int _ _)
theorem uI(S:SR c s r H){ch:Nat}{t:Tok}:AE c A (call (.builtin "ord") [.str ⟨[ch].toArray⟩ t]) s r H (.int ch) H:=by
 intro Q E q
 have h1:(⟨[ch].toArray⟩:PySem.Str).length=1:=rfl
 with_reducible refine PyProof.Rows.ord_of_one h1 ?_
 exact q _ _ r (Go.tok S _) (.int _ _)
theorem NB(S:SR c s r H){a:Addr}{T:String}{o:Obj}{vs:Array Value}{n:Nat}{l:List AV}(hT:T="list"∨T="tuple")(ho:s.heap.get? a=some o)(hc:o.cls=.type T)(hd:o.data=.seq vs n)(y:AJ c.hs s.heap r l vs.toList)(hf:CF l.length=true):
  AE c A (call (.type "list") [.ref a]) s r H (.ref H.length) (H++[.list l]):=by
 intro Q E q
 have hl:l.length=vs.size:=y.length
 have hz:vs.size≤sizeLine:=by rw [←hl];exact AT hf
 with_reducible refine PySem.call_list_seq a hT ho hc hd (fun h' c' k e=>?_) hz
 have G:=Go.grow S k s.toks
 exact q _ _ _ (Go.new S (fun a o _ e=>k a o e) (S.stat.keeps k) (CE _) e s.toks ⟨vs,c',rfl,(G.vrs S y).mono (fun _ _ e _=>e) (List.prefix_append ..)⟩) (VR.last S _)
theorem XA(S:SR c s r H){l:List AV}{V:Value}(x:VR c.hs s.heap r (.tup l) V)(hf:CF l.length=true):AE c A (call (.type "list") [V]) s r H (.ref H.length) (H++[.list l]):=by
 obtain⟨a,vs,rfl,⟨o,e,hc,n,hd⟩,y1⟩:=x.inv_tup
 exact NB S (.inr rfl) e hc hd y1 hf
theorem UC(S:SR c s r H){i:Nat}{l:List AV}{V:Value}(x:VR c.hs s.heap r (.ref i) V)(e:H[i]?=some (.list l))(hf:CF l.length=true):AE c A (call (.type "list") [V]) s r H (.ref H.length) (H++[.list l]):=by
 refine VR.eRef x fun a ra=>?_
 refine AW S e ra fun vs n f1 y1=>?_
 exact NB S (.inl rfl) f1 rfl rfl y1 hf
theorem lC(S:SR c s r H){i:Nat}{l:List AV}{V:Value}(x:VR c.hs s.heap r (.ref i) V)(e:H[i]?=some (.list l))(hf:CF l.length=true):AE c A (call (.type "tuple") [V]) s r H (.tup l) H:=by
 intro Q E q
 refine VR.eRef x fun a ra=>?_
 refine AW S e ra fun vs n f1 y1=>?_
 have i1:s.heap.IsList a vs:=⟨_,f1,rfl,n,rfl⟩
 have hl:l.length=vs.size:=y1.length
 have hz:vs.size≤sizeLine:=by rw [←hl];exact AT hf
 with_reducible refine PySem.call_tuple_list i1 (fun h' k=>?_) hz
 have k':∀b o,s.heap.get? b=some o→(h'.push { cls:=.type "tuple",data:=.seq vs }).get? b=some o:=fun b o e=>Heap.get?_push_of_some _ (k b o e)
 have G:=Go.grow S k' s.toks
 exact q _ _ r G (.tup ⟨_,Heap.get?_push_size _ rfl,rfl,_,rfl⟩ (G.vrs S y1))
theorem bS{hs h:Heap}{r:List Addr}{xs:List Int}:∀{L:List Value},AJ hs h r (xs.map .int) L→IntsAre L xs:=by
 induction xs with
 | nil=>exact fun y=>H0 y.inv0 .nil
 | cons x xs ih=>exact fun {L} y=>AJ.eCons (show AJ hs h r (.int x::xs.map .int) L from y) fun V L a b=>VR.eInt a fun t=>.cons _ _ (ih b)
theorem UD{hs h:Heap}{r:List Addr}{l:List AV}{L:List Value}{xs:List Int}(x:AJ hs h r l L)(e:MW l=some xs):IntsAre L xs:=by
 cases WL e;exact bS x
theorem XB{xs:List Int}{b:List UInt8}(e:QB xs=some b):(∀n∈xs,0≤n∧n<256)∧byteArr xs=b.toArray:=by
 induction xs generalizing b with
 | nil=>exact⟨fun _ h=>(nomatch h),Option.some.inj e▸rfl⟩
 | cons x xs ih =>
  refine A3 e ?_
  clear e
  intro u hu e
  refine FO e fun ys hy=>?_
  obtain⟨h1,h2⟩:=ih hy
  obtain⟨hx,hu⟩:=DI hu
  refine⟨fun n hn=>(List.mem_cons.mp hn).elim (fun z=>z▸⟨of_decide_eq_true (AA hx),of_decide_eq_true (A6 hx)⟩) (h1 n),?_⟩
  exact congrArg List.toArray (congr (congrArg List.cons (Option.some.inj hu)) (congrArg Array.toList h2))
theorem R6(S:SR c s r H){i:Nat}{l:List AV}{xs:List Int}{b:List UInt8}{V:Value}(hh:A.handled=none)(x:VR c.hs s.heap r (.ref i) V)(e:H[i]?=some (.list l))(e1:MW l=some xs)(e2:QB xs=some b)(hf:CF l.length=true):
  AE c A (call (.type "bytes") [V]) s r H (.bytes b) H:=by
 intro Q E q
 refine VR.eRef x fun a ra=>?_
 refine Og.AB (FY S e ra) fun vs i1 y1=>?_
 have hl:l.length=vs.length:=y1.length
 have hz:vs.length≤sizeLine:=by rw [←hl];exact AT hf
 obtain⟨h1,h2⟩:=XB e2
 with_reducible refine PySem.call_bytes_ints i1 (UD y1 e1) h1 hz hh fun h' t k kp=>?_
 rw [h2]
 exact q _ _ r (Go.grow S kp k) (.bytes _ _)
end
noncomputable def NotLt(a b:List Nat):Prop:=¬b<a
theorem NotLt.trans{a b d:List Nat}(h1:NotLt a b)(h2:NotLt b d):NotLt a d:=by
 unfold NotLt at *
 rw [List.not_lt] at *
 exact List.le_trans h1 h2
theorem NotLt.anti{a b:List Nat}(h1:NotLt a b)(h2:NotLt b a):a=b:=by
 unfold NotLt at *
 rw [List.not_lt] at *
 exact List.le_antisymm h1 h2
theorem NC:∀{l:List (List Nat)},YZ l=true→l.Pairwise NotLt
 | [],_=>.nil
 | x::r,h=>by
  simp only [YZ,Bool.and_eq_true,List.all_eq_true,Bool.not_eq_true',decide_eq_false_iff_not] at h
  exact .cons h.1 (NC h.2)
theorem ND:∀{l:List Int},Z0 l=true→l.Pairwise (·≤·)
 | [],_=>.nil
 | x::r,h=>by
  simp only [Z0,Bool.and_eq_true,List.all_eq_true,decide_eq_true_eq] at h
  exact .cons h.1 (ND h.2)
theorem R7{p:PySem.Str}{l:List PySem.Str}(h:risingS p l=true):((p::l).map fun x=>x.cps.toList).Pairwise NotLt:=by
 induction l generalizing p with
 | nil=>exact List.pairwise_singleton _ _
 | cons x r ih =>
  rw [risingS,Bool.and_eq_true,Bool.not_eq_true',ltCps_eq,decide_eq_false_iff_not] at h
  have ih:=ih h.2
  rw [List.map_cons]
  refine .cons (fun y hy=>?_) ih
  rw [List.map_cons] at hy ih
  exact(List.mem_cons.mp hy).elim (fun z=>z▸h.1) fun hy=>NotLt.trans h.1 ((List.pairwise_cons.mp ih).1 y hy)
theorem R8{l:List PySem.Str}(h:sortedS l=true):(l.map fun x=>x.cps.toList).Pairwise NotLt:=by
 induction l using List.casesOn with
 | nil=>exact .nil
 | cons x r=>exact R7 h
theorem PP{l y:List (List Nat)}{ss ss':List PySem.Str}(e:H9 l=some y)(h1:(ss.map (fun x=>x.cps.toList)).Perm l)(p:ss'.Perm ss)(o:sortedS ss'=true):ss'.map (fun x=>x.cps.toList)=y∧l.length<60:=by
 refine A7 e ?_
 clear e
 intro h e
 obtain⟨h,h3⟩:=B3 h
 obtain⟨h4,h2⟩:=B3 h
 exists e
 refine⟨List.Perm.eq_of_pairwise (fun a b _ _=>NotLt.anti) (R8 o) (NC h2) ?_,of_decide_eq_true h3⟩
 have p1:=p.map fun x:PySem.Str=>x.cps.toList
 exact(p1.trans h1).trans (List.isPerm_iff.mp h4).symm
theorem NE{l y:List (List Nat)}(e:H9 l=some y):l.length<60:=by
 exact of_decide_eq_true (A6 (DI e).1)
theorem bT{l y ns':List Int}(e:QA l=some y)(p:ns'.Perm l)(o:ns'.Pairwise (·≤·)):ns'=y:=by
 refine A7 e ?_
 clear e
 intro h e
 obtain⟨h,h3⟩:=B3 h
 obtain⟨h4,h2⟩:=B3 h
 exists e
 exact PySem.W.lks_uniq (p.trans (List.isPerm_iff.mp h4).symm) o (ND h2)
theorem XD{l y:List Int}(e:QA l=some y):l.length<60:=by
 exact of_decide_eq_true (A6 (DI e).1)
theorem bU{hs h:Heap}{r:List Addr}{xs:List (List Nat)}:∀{L:List Value},AJ hs h r (xs.map .str) L→∃ss,StrsAre L ss∧ss.map (fun x=>x.cps.toList)=xs:=by
 induction xs with
 | nil=>exact fun y=>H0 y.inv0 ⟨[],.nil,rfl⟩
 | cons x xs ih =>
  exact fun {L} y=>AJ.eCons (show AJ hs h r (.str x::xs.map .str) L from y) fun V L a b=>VR.eStr a fun t=>(ih b).elim fun ss h=>⟨_,.cons _ t h.1,congrArg (x::·) h.2⟩
theorem bV{hs h:Heap}{r:List Addr}{l:List AV}{L:List Value}{xs:List (List Nat)}(x:AJ hs h r l L)(e:D0 l=some xs):∃ss,StrsAre L ss∧ss.map (fun x=>x.cps.toList)=xs:=by
 cases GD e;exact bU x
theorem UE{hs h:Heap}{r:List Addr}{L:List Value}{ss:List PySem.Str}(x:StrsAre L ss):AJ hs h r ((ss.map fun x=>x.cps.toList).map .str) L:=by
 induction x with
 | nil=>exact .nil
 | cons y t _ ih=>exact .cons (.str y.cps.toList t) ih
theorem g5{hs h:Heap}{r:List Addr}{L:List Value}{ns:List Int}(x:IntsAre L ns):AJ hs h r (ns.map .int) L:=by
 induction x with
 | nil=>exact .nil
 | cons n t _ ih=>exact .cons (.int n t) ih
section
variable{c:Cx}{A:Around}{s:Shared}{r:List Addr}{H:AH}
theorem IQ(S:SR c s r H){i:Nat}{l:List AV}{xs y:List (List Nat)}{V:Value}(x:VR c.hs s.heap r (.ref i) V)(e:H[i]?=some (.list l)){ks:List (List Nat)}(e1:D0 l=some xs)(hp:xs.Perm ks)(e2:H9 ks=some y):
  AE c A (call (.builtin "sorted") [V]) s r H (.ref H.length) (H++[.list (y.map .str)]):=by
 intro Q E q
 refine VR.eRef x fun a ra=>?_
 refine Og.AB (FY S e ra) fun vs i1 y1=>?_
 refine Og.AB (bV y1 e1) fun ss h1 h2=>?_
 have hl:vs.length<64:=by
  have l1:=(K0 y1 e1).1
  have:=NE e2
  have:=hp.length_eq
  lia
 with_reducible refine PyProof.Rows.sorted_strs i1 h1 hl fun out ss' a1 a2 a3=>?_
 refine Og.AI (sortedAll_at s.heap vs out) fun n he=>?_
 have k:∀b o,s.heap.get? b=some o→(sortedAll s.heap vs out).get? b=some o:=fun _ _ e=>sortedAll_old e
 have hD:s.heap.get? (s.heap.objs.size+1)=none:=by
  cases q:s.heap.get? (s.heap.objs.size+1) with
  | none=>rfl
  | some o=>exact absurd (Heap.lt_size q) (Nat.not_lt.mpr (Nat.le_succ _))
 refine q _ _ _ (Go.new S (fun a o _ e=>k a o e) (S.stat.keeps k) hD he s.toks ⟨out,n,rfl,?_⟩) (VR.last S _)
 rw [←(PP e2 (by rw [h2];exact hp) a2 a3).1]
 exact UE a1
theorem ZO{s:Shared}{D:Addr}{vs:List Value}{n:Nat}{Q:Value→Shared→Prop}{E:Value→Shared→Prop}{ss:List PySem.Str}(ho:s.heap.get? D=some (listOf vs.toArray n))(h1:StrsAre vs ss)(h64:vs.length<64)
  (h:∀(h':Heap) (out:Array Value) (ss':List PySem.Str) (k:Nat),(∀b o,b≠D→s.heap.get? b=some o→h'.get? b=some o)→h'.get? D=some (listOf out k)→StrsAre out.toList ss'→ss'.Perm ss→sortedS ss'=true→Q .none { s with heap:=h' }) :
  wpAny (model c.prog c.w) A (call (.builtin "list.sort") [.ref D]) Q E s:=by
 have tI:s.TypeIs (.ref D) "list":=⟨_,ho,rfl⟩
 refine wpAny_call_entry PyProof.Rows.slot_list_sort tI PyProof.Rows.entry_list_sort (list_sort_treeK PyProof.Rows.strKind_oneLt (n:=n) ho h1.keysOf (fun v₁ v₂ rest e=>keyKind_strs (by rw [←e];exact h1)) h64 fun st' hp hs=>⟨.none,rfl,?_⟩) (PyProof.Rows.args_list_sort _)
 refine Og.H8 (sorted_out_str h1 hp hs) fun ss' b1 b2 b3=>?_
 refine Og.AI (sortedHeap_at (out:=(PyProof.Rows.arrOf st').map (·.2)) (n:=n) ho) fun k hk=>?_
 refine h _ _ ss' k (fun b o hb e=>?_) hk b1 b2 b3
 rw [sortedHeap_old hb (Heap.lt_size e)];exact e
theorem UF{s:Shared}{D:Addr}{vs:List Value}{n:Nat}{Q:Value→Shared→Prop}{E:Value→Shared→Prop}{ns:List Int}(ho:s.heap.get? D=some (listOf vs.toArray n))(h1:IntsAre vs ns)(h64:vs.length<64)
  (h:∀(h':Heap) (out:Array Value) (ns':List Int) (k:Nat),(∀b o,b≠D→s.heap.get? b=some o→h'.get? b=some o)→h'.get? D=some (listOf out k)→IntsAre out.toList ns'→ns'.Perm ns→ns'.Pairwise (·≤·)→Q .none { s with heap:=h' }) :
  wpAny (model c.prog c.w) A (call (.builtin "list.sort") [.ref D]) Q E s:=by
 have tI:s.TypeIs (.ref D) "list":=⟨_,ho,rfl⟩
 refine wpAny_call_entry PyProof.Rows.slot_list_sort tI PyProof.Rows.entry_list_sort (list_sort_tree (n:=n) ho h1 h64 fun out ns' b1 b2 b3=>⟨.none,rfl,?_⟩) (PyProof.Rows.args_list_sort _)
 obtain⟨k,hk⟩:=sortedHeap_at (out:=out) (n:=n) ho
 refine h _ _ ns' k (fun b o hb e=>?_) hk b1 b2 b3
 rw [sortedHeap_old hb (Heap.lt_size e)];exact e
theorem UG{kvs:List (PySem.Str×Value)}:∀{vs:List Value},vs.length=kvs.length→(∀(j:Nat) (v:Value),vs[j]?=some v→∃k x,kvs[j]?=some (k,x)∧(PySem.strKind c.prog c.w).is k v=true)→StrsAre vs (kvs.map (·.1)):=by
 induction kvs with
 | nil=>intro vs hl _;cases vs with | nil=>exact .nil | cons _ _=>exists hl
 | cons kv kvs ih =>
  intro vs hl h
  induction vs using List.casesOn with
  | nil=>exists hl
  | cons v vs =>
   refine Og.ER (h 0 v rfl) fun k x e hk=>?_
   cases e
   have:∃t,v=.str k t:=by
    cases v<;>simp [PySem.strKind,Value.isStrOf] at hk
    subst hk;exact⟨_,rfl⟩
   refine Og.AI this fun t hr1=>?_;clear this;subst hr1
   exact .cons _ t (ih (by simpa using hl) fun j v e=>h (j+1) v (by simpa using e))
theorem g7{kvs:List (Int×Value)}:∀{vs:List Value},vs.length=kvs.length→(∀(j:Nat) (v:Value),vs[j]?=some v→∃k x,kvs[j]?=some (k,x)∧(PySem.intKind c.prog c.w).is k v=true)→IntsAre vs (kvs.map (·.1)):=by
 induction kvs with
 | nil=>intro vs hl _;cases vs with | nil=>exact .nil | cons _ _=>exists hl
 | cons kv kvs ih =>
  intro vs hl h
  induction vs using List.casesOn with
  | nil=>exists hl
  | cons v vs =>
   refine Og.ER (h 0 v rfl) fun k x e hk=>?_
   cases e
   have:∃t,v=.int k t:=by
    cases v<;>simp [PySem.intKind,Value.isInt] at hk
    subst hk;exact⟨_,rfl⟩
   refine Og.AI this fun t hr1=>?_;clear this;subst hr1
   exact .cons _ t (ih (by simpa using hl) fun j v e=>h (j+1) v (by simpa using e))
theorem HP(S:SR c s r H){i n:Nat}{es:List (List Nat×AV)}{y:List (List Nat)}{V:Value}(hh:A.handled=none)(x:VR c.hs s.heap r (.ref i) V){ks:List (List Nat)}(e:H[i]?=some (.sdict n es))(hp:(es.map (·.1)).Perm ks)(e2:H9 ks=some y):
  AE c A (call (.builtin "sorted") [V]) s r H (.ref H.length) (H++[.list (y.map .str)]):=by
 intro Q E q
 refine VR.eRef x fun a ra=>?_
 refine Og.AB (EA S e ra) fun kvs D y1=>?_
 refine Og.AI D.dictAt fun ep D'=>?_
 have hl:=M9 y1
 have h60:=NE e2
 rw [←hp.length_eq,List.length_map] at h60
 have hn:kvs.length≤sizeLine:=by rw [hl];exact Nat.le_trans (Nat.le_of_lt h60) (by decide)
 have keys:∀{es:List (List Nat×AV)} {kvs:List (PySem.Str×Value)},GX c.hs s.heap r es kvs→(kvs.map (·.1)).map (fun x=>x.cps.toList)=es.map (·.1):=by
  intro es kvs z
  induction z with
  | nil=>rfl
  | cons _ _ ih=>rw [List.map_cons,List.map_cons,List.map_cons,ih]
 with_reducible refine PySem.W.kdu_sorted (PySem.W.kdl_dict (S.notMods (List.mem_of_getElem? ra))) hh S.fr S.news D' hn fun B h' tk vs F N lt hv hP=>?_
 have G:=Go.ofNews (more:=[(B,PySem.W.listOf vs.toArray 0)]) S F N tk
 have hB:s.heap.get? B=none:=by
  cases q:s.heap.get? B with
  | none=>rfl
  | some o=>exact absurd (lt (B,o) (EN.mpr ⟨(N _ (.head _)).2.1,q⟩)) (Nat.lt_irrefl _)
 have SA:=UG (c:=c) hv hP
 have h64:vs.length<64:=by rw [hv,hl];exact Nat.lt_trans h60 (by decide)
 refine ZO (c:=c) (N _ (.head _)).1 SA h64 fun h2 out ss' k kp hk a1 a2 a3=>?_
 have nB:B≠c.L:=(N _ (.head _)).2.1
 have k2:∀b o,b≠c.L→s.heap.get? b=some o→h2.get? b=some o:=fun b o z e=>kp b o (fun z=>by rw [z,hB] at e;exists e) (HL (more:=[(B,PySem.W.listOf vs.toArray 0)]) N b o z e)
 have st:h2.Ns c.L c.mc:=by
  refine Og.ES F.ns fun o es ep e z=>?_
  exact⟨o,es,ep,kp _ o (Ne.symm nB) e,z⟩
 refine q _ _ _ (Go.new S k2 st hB hk tk ⟨out,k,rfl,?_⟩) (VR.last S _)
 rw [←(PP e2 (by rw [keys y1];exact hp) a2 a3).1]
 exact UE a1
theorem NF(S:SR c s r H){i:Nat}{es:List (Int×AV)}{y:List Int}{V:Value}(hh:A.handled=none)(x:VR c.hs s.heap r (.ref i) V)(e:H[i]?=some (.idict es))(e2:QA (es.map (·.1))=some y):
  AE c A (call (.builtin "sorted") [V]) s r H (.ref H.length) (H++[.list (y.map .int)]):=by
 intro Q E q
 refine VR.eRef x fun a ra=>?_
 refine Og.AB (N8 S e ra) fun kvs D y1=>?_
 refine Og.AI D.dictAt fun ep D'=>?_
 have hl:=ZN y1
 have h60:=XD e2
 rw [List.length_map] at h60
 have hn:kvs.length≤sizeLine:=by rw [hl];exact Nat.le_trans (Nat.le_of_lt h60) (by decide)
 have keys:∀{es:List (Int×AV)} {kvs:List (Int×Value)},MR c.hs s.heap r es kvs→kvs.map (·.1)=es.map (·.1):=by
  intro es kvs z
  induction z with
  | nil=>rfl
  | cons _ _ ih=>rw [List.map_cons,List.map_cons,ih]
 with_reducible refine PySem.W.kdu_sorted (PySem.W.kdl_dict (S.notMods (List.mem_of_getElem? ra))) hh S.fr S.news D' hn fun B h' tk vs F N lt hv hP=>?_
 have hB:s.heap.get? B=none:=by
  cases q:s.heap.get? B with
  | none=>rfl
  | some o=>exact absurd (lt (B,o) (EN.mpr ⟨(N _ (.head _)).2.1,q⟩)) (Nat.lt_irrefl _)
 have SA:=g7 (c:=c) hv hP
 rw [keys y1] at SA
 have h64:vs.length<64:=by rw [hv,hl];exact Nat.lt_trans h60 (by decide)
 refine UF (c:=c) (N _ (.head _)).1 SA h64 fun h2 out ns' k kp hk a1 a2 a3=>?_
 have nB:B≠c.L:=(N _ (.head _)).2.1
 have k2:∀b o,b≠c.L→s.heap.get? b=some o→h2.get? b=some o:=fun b o z e=>kp b o (fun z=>by rw [z,hB] at e;exists e) (HL (more:=[(B,PySem.W.listOf vs.toArray 0)]) N b o z e)
 have st:h2.Ns c.L c.mc:=by
  refine Og.ES F.ns fun o es ep e z=>?_
  exact⟨o,es,ep,kp _ o (Ne.symm nB) e,z⟩
 refine q _ _ _ (Go.new S k2 st hB hk tk ⟨out,k,rfl,?_⟩) (VR.last S _)
 rw [←bT e2 a2 a3]
 exact g5 a1
theorem NG(S:SR c s r H){i:Nat}{V:Value}(hh:A.handled=none)(x:VR c.hs s.heap r (.ref i) V)(e:H[i]?=some .edict):
  AE c A (call (.builtin "sorted") [V]) s r H (.ref H.length) (H++[.list []]):=by
 intro Q E q
 refine VR.eRef x fun a ra=>?_
 obtain⟨D,_⟩:=HN S e ra
 refine Og.AI D.dictAt fun ep D'=>?_
 with_reducible refine PySem.W.kdu_sorted (PySem.W.kdl_dict (S.notMods (List.mem_of_getElem? ra))) hh S.fr S.news D' (Nat.zero_le _) fun B h' tk vs F N lt hv hP=>?_
 have hB:s.heap.get? B=none:=by
  cases q:s.heap.get? B with
  | none=>rfl
  | some o=>exact absurd (lt (B,o) (EN.mpr ⟨(N _ (.head _)).2.1,q⟩)) (Nat.lt_irrefl _)
 have SA:=UG (c:=c) hv hP
 have h64:vs.length<64:=by rw [hv];decide
 refine ZO (c:=c) (N _ (.head _)).1 SA h64 fun h2 out ss' k kp hk a1 a2 a3=>?_
 have nB:B≠c.L:=(N _ (.head _)).2.1
 have k2:∀b o,b≠c.L→s.heap.get? b=some o→h2.get? b=some o:=fun b o z e=>kp b o (fun z=>by rw [z,hB] at e;exists e) (HL (more:=[(B,PySem.W.listOf vs.toArray 0)]) N b o z e)
 have st:h2.Ns c.L c.mc:=by
  refine Og.ES F.ns fun o es ep e z=>?_
  exact⟨o,es,ep,kp _ o (Ne.symm nB) e,z⟩
 have:ss'=[]:=by simpa using a2
 subst this
 cases out with
 | mk out=>cases a1;exact q _ _ _ (Go.new S k2 st hB hk tk ⟨#[],k,rfl,.nil⟩) (VR.last S _)
end
section
variable{c:Cx}{A:Around}{s:Shared}{r:List Addr}{H:AH}
theorem g8{l:List AV}{o':AO}:WY (.list l) o':=fun _ _ h=>nomatch h
theorem UH(S:SR c s r H){i:Nat}{l:List AV}{x:AV}{V W:Value}(y:VR c.hs s.heap r (.ref i) V)(z:VR c.hs s.heap r x W)(e:H[i]?=some (.list l))(hf:CF l.length=true):
  AE c A (call (.builtin "list.append") [V,W]) s r H .none (H.set i (.list (l++[x]))):=by
 intro Q E q
 refine VR.eRef y fun a ra=>?_
 refine AW S e ra fun vs n f1 y1=>?_
 have hl:l.length=vs.size:=y1.length
 have hz:vs.size≤sizeLine:=by rw [←hl];exact AT hf
 have tI:s.TypeIs (.ref a) "list":=⟨_,f1,rfl⟩
 with_reducible refine PySem.call_meets PySem.F.slot_list_append tI PySem.F.entry_list_append (PySem.F.args_list_append_2 _ _) (PySem.list_append a vs n W hz) ⟨f1,?_⟩
 have u:=Heap.get?_update_self (Obj.mapSeq fun xs=>xs.push W) f1 rfl
 refine q _ _ r (Go.turnBut S s.toks ra e g8 (Heap.SameBut.update ..) u ⟨vs.push W,_,rfl,?_⟩) .none
 rw [Array.toList_push]
 exact y1.append (.one z)
theorem lD(S:SR c s r H){i:Nat}{l:List AV}{V:Value}(y:VR c.hs s.heap r (.ref i) V)(e:H[i]?=some (.list l))(hf:CF l.length=true):
  AE c A (call (.builtin "list.clear") [V]) s r H .none (H.set i (.list [])):=by
 intro Q E q
 refine VR.eRef y fun a ra=>?_
 refine AW S e ra fun vs n f1 y1=>?_
 have hl:l.length=vs.size:=y1.length
 have hz:vs.size≤sizeLine:=by rw [←hl];exact AT hf
 have tI:s.TypeIs (.ref a) "list":=⟨_,f1,rfl⟩
 with_reducible refine PySem.call_meets PySem.F.slot_list_clear tI PySem.F.entry_list_clear (PySem.F.args_list_clear_1 _) (PySem.AutoSeq1.list_clear_list_0 a vs n hz) ⟨f1,?_⟩
 have u:=Heap.get?_update_self (Obj.mapSeq fun _=>(#[]:Array Value)) f1 rfl
 exact q _ _ r (Go.turnBut S s.toks ra e g8 (Heap.SameBut.update ..) u ⟨#[],_,rfl,.nil⟩) .none
theorem gA(S:SR c s r H){i j:Nat}{l k:List AV}{V W:Value}(y:VR c.hs s.heap r (.ref i) V)(z:VR c.hs s.heap r (.ref j) W)(e:H[i]?=some (.list l))(e2:H[j]?=some (.list k))(hf:CF (l.length+k.length)=true):
  AE c A (call (.builtin "list.extend") [V,W]) s r H .none (H.set i (.list (l++k))):=by
 intro Q E q
 refine VR.eRef y fun a ra=>?_
 refine VR.eRef z fun b rb=>?_
 refine AW S e ra fun vs n f1 y1=>?_
 refine AW S e2 rb fun ws n2 f2 y2=>?_
 have hl:l.length=vs.size:=y1.length
 have hl2:k.length=ws.size:=y2.length
 have h3:vs.size+ws.size≤sizeLine:=by rw [←hl,←hl2];exact AT hf
 have tI:s.TypeIs (.ref a) "list":=⟨_,f1,rfl⟩
 have hc0:¬(!vs.isEmpty&&Builtin.List.listTooLong (vs.size+ws.size))=true:=by
  rw [Bool.and_eq_true]
  intro hh
  have:Builtin.List.listTooLong (vs.size+ws.size)=false:=by
   unfold Builtin.List.listTooLong;simp;exact h3
  rw [this] at hh
  exact absurd hh.2 Bool.false_ne_true
 with_reducible refine PySem.call_meets PySem.F.slot_list_extend tI PySem.F.entry_list_extend (PySem.F.args_list_extend_2 _ _) (PySem.AutoSeq1.list_extend_list_list_0 a vs n b ws n2 hc0 (by lia) (by lia)) ⟨f1,f2,?_⟩
 have u:=Heap.get?_update_self (Obj.mapSeq fun x=>x++ws) f1 rfl
 refine q _ _ r (Go.turnBut S s.toks ra e g8 (Heap.SameBut.update ..) u ⟨vs++ws,_,rfl,?_⟩) .none
 rw [Array.toList_append]
 exact y1.append y2
theorem AJ.erase{hs h:Heap}{r:List Addr}{l:List AV}{L:List Value}(x:AJ hs h r l L)(n:Nat):AJ hs h r (l.eraseIdx n) (L.eraseIdx n):=by
 revert n
 refine x.ind (fun _=>.nil) fun _ _ _ _ a b ih n=>?_
 induction n using Nat.casesOn with
 | zero=>exact b
 | succ n=>exact .cons a (ih n)
theorem K3(vs:Array Value)(k:Nat):(vs.eraseIdxIfInBounds k).toList=vs.toList.eraseIdx k:=by
 unfold Array.eraseIdxIfInBounds
 split
 ·rw [Array.toList_eraseIdx]
 ·rw [List.eraseIdx_of_length_le];simpa using by lia
theorem uJ(S:SR c s r H){i:Nat}{l:List AV}{x:AV}{V:Value}(y:VR c.hs s.heap r (.ref i) V)(e:H[i]?=some (.list l))(hf:CF l.length=true)(hx:l[l.length-1]?=some x):
  AE c A (call (.builtin "list.pop") [V]) s r H x (H.set i (.list (l.eraseIdx (l.length-1)))):=by
 intro Q E q
 refine VR.eRef y fun a ra=>?_
 refine AW S e ra fun vs n f1 y1=>?_
 have hl:l.length=vs.size:=y1.length
 have hz:vs.size≤sizeLine:=by rw [←hl];exact AT hf
 have tI:s.TypeIs (.ref a) "list":=⟨_,f1,rfl⟩
 refine Og.AB (y1.get hx) fun W e1 w1=>?_
 rw [Array.getElem?_toList,hl] at e1
 with_reducible refine PySem.call_meets PySem.F.slot_list_pop tI PySem.F.entry_list_pop (PySem.F.args_list_pop_1 _) (PySem.MeetsSeq.list_pop_last a vs n W e1 hz) ⟨f1,?_⟩
 have u:=Heap.get?_update_self (Obj.mapSeq fun xs=>xs.eraseIdxIfInBounds (vs.size-1)) f1 rfl
 have G:=Go.turnBut (o':=.list (l.eraseIdx (l.length-1))) S s.toks ra e g8 (Heap.SameBut.update ..) u ⟨vs.eraseIdxIfInBounds (vs.size-1),_,rfl,by rw [K3,←hl];exact y1.erase _⟩
 exact q _ _ r G (G.vr S w1)
theorem lE{hs h:Heap}{r:List Addr}{x:List Nat}{l:List AV}:∀{L:List Value} {xs:List (List Nat)},AJ hs h r l L→D0 l=some xs→∀m (hm:m<L.length),CI x L[m]=((xs[m]?).map (·==x)).getD false:=by
 induction l with
 | nil =>
  intro L xs h1 _ m hm
  have z:=h1.inv0
  subst z
  exact absurd hm (Nat.not_lt_zero _)
 | cons v l ih =>
  intro L xs h1 h2
  refine A3 h2 fun y hv h2=>FO h2 fun ys hy=>?_
  have z:=B6 hv
  subst z
  refine AJ.eCons h1 fun V L a b=>?_
  refine VR.eStr a fun t m hm=>?_
  induction m using Nat.casesOn with
  | zero=>show((⟨_⟩:PySem.Str)==⟨x.toArray⟩)=_;rw [J8];rfl
  | succ m=>exact ih b hy m (Nat.lt_of_succ_lt_succ hm)
theorem UI(S:SR c s r H){i k:Nat}{l:List AV}{x:List Nat}{xs:List (List Nat)}{V:Value}{t:Tok}(y:VR c.hs s.heap r (.ref i) V)(e:H[i]?=some (.list l))(hf:CF l.length=true)(e1:D0 l=some xs)(hk:xs.findIdx? (·==x)=some k):
  AE c A (call (.builtin "list.remove") [V,.str ⟨x.toArray⟩ t]) s r H .none (H.set i (.list (l.eraseIdx k))):=by
 intro Q E q
 refine VR.eRef y fun a ra=>?_
 refine AW S e ra fun vs n f1 y1=>?_
 have hl:l.length=vs.size:=y1.length
 have hz:vs.size≤sizeLine:=by rw [←hl];exact AT hf
 have tI:s.TypeIs (.ref a) "list":=⟨_,f1,rfl⟩
 have he:∀y,y∈vs→PySem.MeetsSeq.EqGives y (.str ⟨x.toArray⟩ t) (CI x y):=fun y hy=>by
  obtain⟨z,u,rfl⟩:=(K0 y1 e1).2 y (by simpa using hy)
  have:CI x (.str ⟨z.toArray⟩ u)=((⟨z.toArray⟩:PySem.Str).cps.toList==(⟨x.toArray⟩:PySem.Str).cps.toList):=by
   rw [str_beq];rfl
  rw [this]
  exact PySem.SeqRoads2.EqGives.str _ _ _ _
 have at_:∀m (hm:m<vs.size),CI x vs[m]=((xs[m]?).map (·==x)).getD false:=fun m hm=>by
  have:=lE (x:=x) y1 e1 m (by simpa using hm)
  simpa using this
 have hkk:=List.findIdx?_eq_some_iff_getElem.mp hk
 obtain⟨hk1,hk2,hk3⟩:=hkk
 have hlx:vs.size=xs.length:=by have:=(K0 y1 e1).1;simpa using this
 have hj:k<vs.size:=by lia
 have hit:CI x vs[k]=true:=by
  rw [at_ k hj,List.getElem?_eq_getElem hk1];exact hk2
 have hno:∀m (hm:m<vs.size),m<k→CI x vs[m]=false:=fun m hm hmk=>by
  rw [at_ m hm,List.getElem?_eq_getElem (by lia)]
  have:=hk3 m hmk
  simpa using this
 with_reducible refine PySem.call_meets PySem.F.slot_list_remove tI PySem.F.entry_list_remove (PySem.F.args_list_remove_2 _ _) (PySem.MeetsSeq.list_remove a vs n _ (CI x) he k hj hit hno hz) ⟨f1,?_⟩
 have u:=Heap.get?_update_self (Obj.mapSeq fun xs=>xs.eraseIdxIfInBounds k) f1 rfl
 exact q _ _ r (Go.turnBut S s.toks ra e g8 (Heap.SameBut.update ..) u ⟨vs.eraseIdxIfInBounds k,_,rfl,by rw [K3];exact y1.erase _⟩) .none
theorem uK(S:SR c s r H){i n:Nat}{es:List (List Nat×AV)}{k:List Nat}{d:AV}{V D:Value}{t:Tok}(y:VR c.hs s.heap r (.ref i) V)(z:VR c.hs s.heap r d D)(e:H[i]?=some (.sdict n es)):
  AE c A (call (.builtin "dict.get") [V,.str ⟨k.toArray⟩ t,D]) s r H ((GE k es).getD d) H:=by
 intro Q E q
 refine Og.AB y.inv_ref fun a hr1 ra=>?_;subst hr1
 refine Og.AB (EA S e ra) fun kvs DD y1=>?_
 have va:=FZ y1 k
 with_reducible refine PySem.call_meetsIn PySem.F.slot_dict_get DD.typeIs PySem.F.entry_dict_get (PySem.F.args_dict_get_3 _ _ _) (PySem.meets_dict_get_default (PySem.strKind c.prog c.w) a (strKind_is _ _ _ t) (S.notMods (List.mem_of_getElem? ra)) D) ⟨_,DD.mapOf,?_⟩
 refine Og.WJ (GE k es) (fun hq=>?_) fun v hq=>?_
 ·
  rw [hq] at va q
  dsimp only at va
  rw [va]
  exact q _ _ r (Go.tok S _) z
 ·
  rw [hq] at va q
  refine Og.AB va fun W e1 w1=>?_;clear va
  rw [e1]
  exact q _ _ r (Go.tok S _) w1
theorem UJ{hs h:Heap}{r:List Addr}{es:List (List Nat×AV)}{kvs:List (PySem.Str×Value)}(x:GX hs h r es kvs)(k:List Nat):GX hs h r (es.filter fun e=>!(e.1==k)) (without kvs (⟨k.toArray⟩:PySem.Str)):=by
 have key:∀a:List Nat,(decide ((⟨a.toArray⟩:PySem.Str)≠⟨k.toArray⟩))=!(a==k):=fun a=>by rw [←J8,decide_not];rfl
 unfold without
 induction x with
 | nil=>exact .nil
 | @cons a v V l L p q ih =>
  rw [List.filter_cons,List.filter_cons]
  have ka:=key a
  simp only [ka]
  split
  ·exact .cons p ih
  ·exact ih
theorem gB(S:SR c s r H){i n:Nat}{es:List (List Nat×AV)}{k:List Nat}{v:AV}{V:Value}{t:Tok}(y:VR c.hs s.heap r (.ref i) V)(e:H[i]?=some (.sdict n es))(hf:CF es.length=true)(hv:GE k es=some v):
  AE c A (call (.builtin "dict.pop") [V,.str ⟨k.toArray⟩ t]) s r H v (H.set i (.sdict (n+1) (es.filter fun e=>!(e.1==k)))):=by
 intro Q E q
 refine VR.eRef y fun a ra=>?_
 refine Og.AB (EA S e ra) fun kvs DD y1=>?_
 have va:=FZ y1 k
 rw [hv] at va
 refine Og.AB va fun W e1 w1=>?_;clear va
 have hz:kvs.length≤sizeLine:=by rw [M9 y1];exact AT hf
 with_reducible refine PySem.call_meetsIn PySem.F.slot_dict_pop DD.typeIs PySem.F.entry_dict_pop (PySem.F.args_dict_pop_2 _ _) (PySem.meets_dict_pop_there (PySem.strKind c.prog c.w) a (strKind_is _ _ _ t) [] (.inl rfl) rfl) ⟨kvs,W,DD,hz,e1,fun h' D' hs=>?_⟩
 refine Og.AB (Heap.dictOf_iff.mp D') fun o' e' D'=>?_
 have G:=Go.turnBut (ob:=o') (o':=.sdict (n+1) (es.filter fun e=>!(e.1==k))) S (s.toks+1) ra e (fun n' es' h=>by exists h,q;exact⟨_,_,rfl,Nat.lt_succ_self _⟩) hs e' ⟨_,D',UJ y1 k⟩
 exact q _ _ r G (G.vr S w1)
theorem XE{prog:Program}{w:World}{o:Obj}(x:o.IsDictOf (PySem.strKind prog w) []):o.IsDictOf (PySem.intKind prog w) []:=by
 refine Og.p8 x fun es ep a b _ p _=>?_;clear x
 have:es.toList=[]:=by
  generalize es.toList=l at p
  exists p;rfl
 have he:es=#[]:=by exists es;simpa using this
 subst he
 exact⟨#[],ep,a,b,fun _ h=>by simp at h,.nil,List.nodup_nil⟩
theorem gC(S:SR c s r H){i:Nat}{V:Value}(y:VR c.hs s.heap r (.ref i) V)(e:H[i]?=some .edict):
  AE c A (call (.builtin "dict.clear") [V]) s r H .none (H.set i .edict):=by
 intro Q E q
 refine VR.eRef y fun a ra=>?_
 obtain⟨DD,_⟩:=HN S e ra
 with_reducible refine PySem.call_meetsIn PySem.F.slot_dict_clear DD.typeIs PySem.F.entry_dict_clear (PySem.F.args_dict_clear_1 _) (PySem.meets_dict_clear (PySem.strKind c.prog c.w) a) ⟨_,DD,Nat.zero_le _,fun h' D' hs=>?_⟩
 refine Og.AB (Heap.dictOf_iff.mp D') fun o' e' D'=>?_
 exact q _ _ r (Go.turnBut (ob:=o') S s.toks ra e (fun _ _ h=>nomatch h) hs e' ⟨D',XE D'⟩) .none
end
theorem GT:Slot "bytes" "join" "bytes.join" :=
 .of (owner:="bytes") (n:="join") (by rw [typeLookup_type,builtinLookup_eq_fast];kernel_rfl) (by decide +kernel) (by decide +kernel) (by decide +kernel)
  (by first | exact .inl (by decide +kernel) | exact .inr (by decide +kernel)) (by rw [isSubtype_type];kernel_rfl)
theorem LT:typeOf (.builtin "bytes.join")=pure (.type "method_descriptor"):=by show builtinType _=_;rw [builtinType_eq_fast];kernel_rfl
theorem KZ:entryFor table "bytes.join"=some Builtin.«bytes.join»:=entryFor_of_tree (by kernel_rfl)
theorem LU(a b:Value):argsOk "bytes.join" ⟨[a,b],[]⟩:=by
 unfold argsOk;rw [signature?_of (id:="bytes.join") (n:=['n','i','o','j']) (o:=['s','e','t','y','b']) (by kernel_rfl) PySem.W.FB.owner_bytes];kernel_rfl
theorem uL(t t1 t2:Tok)(a:Addr)(n:Nat):Meets (Builtin.«bytes.join» ⟨[.bytes #[] t,.ref a],[]⟩)
  (fun _ R s=>s.heap.get? a=some { cls:=.type "list",data:=.seq #[.bytes #[32,32] t1,.bytes #[32,32] t2] n }∧∀t' k,R (.ok (.ret (.bytes #[32,32,32,32] t'))) { s with toks:=k }):=by
 intro prog w A R s h
 obtain⟨hl,h⟩:=h
 exact P5 40 (List.replicate 6 { cls:=.type "list",data:=.seq #[.bytes #[32,32] t1,.bytes #[32,32] t2] n }) (And.intro hl<|And.intro hl<|And.intro hl<|And.intro hl<|And.intro hl<|And.intro hl<|h s.toks (s.toks+1)) (by kernel_rfl!)
theorem HQ{α β:Type}[BEq α][LawfulBEq α]{a b:α}{x y:Option β}{z:β}{P:α→Prop}(e:(if a==b then x else y)=some z)(u:x=some z→P b)(v:y=some z→P a):P a:=by
 by_cases h:(a==b)=true
 ·rw [if_pos h] at e;exact eq_of_beq h▸u e
 ·rw [if_neg h] at e;exact v e
theorem gD{P:List Nat→List UInt8→Prop}{l:List Nat}{b:List UInt8}(e:Z1 l=some b)(h0:P [48,48] [48,48])(h1:P [51,53] [51,53])(h2:P [51,57] [51,57])(h3:P [52,49] [52,49])(h4:P [52,50] [52,50]):P l b :=
 HQ (P:=fun l=>P l b) e (fun e=>Option.some.inj e▸h0) fun e=>HQ (P:=fun l=>P l b) e (fun e=>Option.some.inj e▸h1) fun e=>HQ (P:=fun l=>P l b) e (fun e=>Option.some.inj e▸h2) fun e =>
  HQ (P:=fun l=>P l b) e (fun e=>Option.some.inj e▸h3) fun e=>HQ (P:=fun l=>P l b) e (fun e=>Option.some.inj e▸h4) AU
theorem gE{l:List Nat}{b:List UInt8}(t u:Tok)(e:Z1 l=some b):Builtin.«str.encode» ⟨[.str ⟨l.toArray⟩ t,.str ⟨[97,115,99,105,105].toArray⟩ u],[]⟩=(Made.bytes b.toArray).tree∧b.toArray.size≤sizeLine :=
 gD (P:=fun l b=>Builtin.«str.encode» ⟨[.str ⟨l.toArray⟩ t,.str ⟨[97,115,99,105,105].toArray⟩ u],[]⟩=(Made.bytes b.toArray).tree∧b.toArray.size≤sizeLine) e ⟨by kernel_rfl!,by decide⟩ ⟨by kernel_rfl!,by decide⟩ ⟨by kernel_rfl!,by decide⟩ ⟨by kernel_rfl!,by decide⟩ ⟨by kernel_rfl!,by decide⟩
theorem gF{l:List Nat}{k n:Nat}(t u:Tok)(e:idxOf l k=some n):Builtin.«str.index» ⟨[.str ⟨l.toArray⟩ t,.str ⟨[k].toArray⟩ u],[]⟩=(Made.int n).tree:=by
 unfold idxOf at e
 split at e
 ·rename_i h;rw [beq_iff_eq] at h;subst h
  split at e
  ·rename_i h;rw [beq_iff_eq] at h;subst h;exists e;kernel_rfl!
  split at e
  ·rename_i h;rw [beq_iff_eq] at h;subst h;exists e;kernel_rfl!
  split at e
  ·rename_i h;rw [beq_iff_eq] at h;subst h;exists e;kernel_rfl!
  exists e
 ·exists e
section
variable{c:Cx}{A:Around}{s:Shared}{r:List Addr}{H:AH}
theorem gG(S:SR c s r H){l:List Nat}{b:List UInt8}{t u:Tok}(e:Z1 l=some b):AE c A (call (.builtin "str.encode") [.str ⟨l.toArray⟩ t,.str ⟨[97,115,99,105,105].toArray⟩ u]) s r H (.bytes b) H:=by
 intro Q E q
 obtain⟨h1,h2⟩:=gE t u e
 have hp:(Made.bytes b.toArray).post Q s:=⟨h2,q _ _ r (Go.tok S _) (.bytes _ _)⟩
 with_reducible exact PySem.call_gives PySem.F.slot_str_encode (PySem.typeIs_str s _ t) PySem.F.entry_str_encode (PySem.F.args_str_encode_2 _ _) (Gives.of_eq h1) hp
theorem lF(S:SR c s r H){l:List Nat}{k n:Nat}{t u:Tok}(e:idxOf l k=some n):AE c A (call (.builtin "str.index") [.str ⟨l.toArray⟩ t,.str ⟨[k].toArray⟩ u]) s r H (.int n) H:=by
 intro Q E q
 have hp:(Made.int n).post Q s:=q _ _ r (Go.tok S _) (.int _ _)
 with_reducible exact PySem.call_gives PySem.F.slot_str_index (PySem.typeIs_str s _ t) PySem.F.entry_str_index (PySem.F.args_str_index_2 _ _) (Gives.of_eq (gF t u e)) hp
theorem lG(S:SR c s r H){i:Nat}{a b d:List Nat}{V:Value}{t:Tok}(y:VR c.hs s.heap r (.ref i) V)(e:H[i]?=some (.list [.str a,.str b,.str d]))(hf:CF (a.length+b.length+d.length)=true):
  AE c A (call (.builtin "str.join") [.str ⟨[].toArray⟩ t,V]) s r H (.str (a++b++d)) H:=by
 intro Q E q
 refine Og.AB y.inv_ref fun w hr1 ra=>?_;subst hr1
 refine Og.AB (FY S e ra) fun vs i1 y1=>?_
 revert i1
 refine AJ.e3 y1 fun V1 V2 V3 a1 a2 a3=>VR.eStr a1 fun t1=>VR.eStr a2 fun t2=>VR.eStr a3 fun t3 i1=>?_
 have hsz:=AT hf
 have hl:Builtin.Str.tooLong ((([((⟨a.toArray⟩:PySem.Str),t1),(⟨b.toArray⟩,t2),(⟨d.toArray⟩,t3)]:List (PySem.Str×Tok)).map (·.1)).toArray.foldl (·+·.length+(⟨[].toArray⟩:PySem.Str).length) 0)=false:=by
  unfold Builtin.Str.tooLong
  have e0:(⟨[].toArray⟩:PySem.Str).length=0:=rfl
  have e1:(⟨a.toArray⟩:PySem.Str).length=a.length:=rfl
  have e2:(⟨b.toArray⟩:PySem.Str).length=b.length:=rfl
  have e3:(⟨d.toArray⟩:PySem.Str).length=d.length:=rfl
  simp only [List.map_cons,List.map_nil,List.foldl_toArray,List.foldl_cons,List.foldl_nil,e0,e1,e2,e3]
  simp;omega
 have i2:s.heap.IsList w (PySem.strValues [((⟨a.toArray⟩:PySem.Str),t1),(⟨b.toArray⟩,t2),(⟨d.toArray⟩,t3)]).toArray:=i1
 with_reducible refine PySem.call_meets PySem.F.slot_str_join (PySem.typeIs_str s _ t) PySem.F.entry_str_join (PySem.F.args_str_join_2 _ _) (PySem.meets_str_join_list _ t w [(⟨a.toArray⟩,t1),(⟨b.toArray⟩,t2),(⟨d.toArray⟩,t3)] hl) ⟨i2,?_⟩
 have eg:Builtin.Str.glued (⟨[].toArray⟩:PySem.Str) [⟨a.toArray⟩,⟨b.toArray⟩,⟨d.toArray⟩]=⟨(a++b++d).toArray⟩:=by
  unfold Builtin.Str.glued
  simp
 refine⟨?_,?_⟩
 ·show(Builtin.Str.glued (⟨[].toArray⟩:PySem.Str) [⟨a.toArray⟩,⟨b.toArray⟩,⟨d.toArray⟩]).length≤sizeLine
  rw [eg]
  show(a++b++d).length≤sizeLine
  simp;omega
 ·show Q (.str (Builtin.Str.glued (⟨[].toArray⟩:PySem.Str) [⟨a.toArray⟩,⟨b.toArray⟩,⟨d.toArray⟩]) _) _
  rw [eg]
  exact q _ _ r (Go.tok S _) (.str _ _)
theorem gH(S:SR c s r H){i:Nat}{V:Value}{t:Tok}(y:VR c.hs s.heap r (.ref i) V)(e:H[i]?=some (.list [.bytes [32,32],.bytes [32,32]])):
  AE c A (call (.builtin "bytes.join") [.bytes [].toArray t,V]) s r H (.bytes [32,32,32,32]) H:=by
 intro Q E q
 refine Og.AB y.inv_ref fun w hr1 ra=>?_;subst hr1
 refine Og.ER (QZ S e ra) fun vs n f1 y1=>?_
 obtain⟨vs⟩:=vs
 revert f1
 refine AJ.e2 (L:=vs) y1 fun V1 V2 a1 a2=>VR.eBytes a1 fun t1=>VR.eBytes a2 fun t2 f1=>?_
 with_reducible refine PySem.call_meets GT (PySem.W.typeIs_bytes s _ t) KZ (LU _ _) (uL t t1 t2 w n) ⟨f1,fun t' k=>?_⟩
 exact q _ _ r (Go.tok S _) (.bytes _ _)
end
theorem IR:Slot "bytearray" "__len__" "bytearray.__len__" :=
 .of (owner:="bytearray") (n:="__len__") (by rw [typeLookup_type,builtinLookup_eq_fast];kernel_rfl) (by decide +kernel) (by decide +kernel) (by decide +kernel)
  (by first | exact .inl (by decide +kernel) | exact .inr (by decide +kernel)) (by rw [isSubtype_type];kernel_rfl)
theorem NH:entryFor table "bytearray.__len__"=some Builtin.«bytearray.__len__»:=entryFor_of_tree (by kernel_rfl)
theorem OO(a:Value):argsOk "bytearray.__len__" ⟨[a],[]⟩:=by unfold argsOk;kernel_rfl
theorem FP:Slot "bytearray" "__getitem__" "bytearray.__getitem__" :=
 .of (owner:="bytearray") (n:="__getitem__") (by rw [typeLookup_type,builtinLookup_eq_fast];kernel_rfl) (by decide +kernel) (by decide +kernel) (by decide +kernel)
  (by first | exact .inl (by decide +kernel) | exact .inr (by decide +kernel)) (by rw [isSubtype_type];kernel_rfl)
theorem NI:entryFor table "bytearray.__getitem__"=some Builtin.«bytearray.__getitem__»:=entryFor_of_tree (by kernel_rfl)
theorem OP(a b:Value):argsOk "bytearray.__getitem__" ⟨[a,b],[]⟩:=by unfold argsOk;kernel_rfl
theorem E6:Slot "bytearray" "__setitem__" "bytearray.__setitem__" :=
 .of (owner:="bytearray") (n:="__setitem__") (by rw [typeLookup_type,builtinLookup_eq_fast];kernel_rfl) (by decide +kernel) (by decide +kernel) (by decide +kernel)
  (by first | exact .inl (by decide +kernel) | exact .inr (by decide +kernel)) (by rw [isSubtype_type];kernel_rfl)
theorem NJ:entryFor table "bytearray.__setitem__"=some Builtin.«bytearray.__setitem__»:=entryFor_of_tree (by kernel_rfl)
theorem OQ(a b d:Value):argsOk "bytearray.__setitem__" ⟨[a,b,d],[]⟩:=by unfold argsOk;kernel_rfl
abbrev BK(b:List UInt8):Obj:={ cls:=.type "bytearray",data:=.bytearray b.toArray 0 }
theorem gI(a:Addr)(b:List UInt8):Meets (Builtin.«bytearray.__len__» ⟨[.ref a],[]⟩)
  (fun _ R s=>s.heap.get? a=some (BK b)∧R (.ok (.ret (.int b.length s.toks))) { s with toks:=s.toks+1 }):=by
 intro prog w A R s h
 exact P5 20 [BK b] (And.intro h.1 h.2) (by kernel_rfl!)
theorem XF{b k:List UInt8}{lo hi:Option Int}(e:cut b lo hi=some k):Builtin.Bytes.sliced b.toArray (sliceBounds lo hi none b.toArray.size).1 (sliceBounds lo hi none b.toArray.size).2.1 (sliceBounds lo hi none b.toArray.size).2.2=k.toArray:=by
 refine Og.BB (R0 e) fun h0 h1 hr1=>?_;subst hr1
 rw [J9 h0 h1]
 unfold Builtin.Bytes.sliced
 simp only [sliceRange_one,pick_run]
 have e1:b.toArray.size=b.length:=by simp
 rw [e1,U8]
section
variable{M:Model}{A:Around}{E:Value→Shared→Prop}{s:Shared}{a sl:Addr}{b:List UInt8}{vl vu:Value}{lo hi:Option Int}
theorem oE{Q:Option Int→Shared→Prop}(hsl:s.heap.get? sl=some (B0 vl vu .none))(h:Q none s):wpAny M A (Builtin.Bytes.subscript? (.ref sl)) Q E s :=
 P5 20 (List.replicate 6 (B0 vl vu .none)) (And.intro hsl h) (by kernel_rfl!)
theorem NK{Q:Value×Value×Value→Shared→Prop}(hsl:s.heap.get? sl=some (B0 vl vu .none))(pl:IsPart vl lo)(pu:IsPart vu hi)(h:Q (rawPart lo,rawPart hi,.none) s):wpAny M A (Builtin.Bytes.sliceParts (.ref sl)) Q E s:=by
 refine wpAny_bind (wpAny_field hsl rfl rfl ?_)
 refine wpAny_bind (wpAny_of_eq (a:=.none) rfl ?_)
 refine wpAny_bind (wpAny_field hsl rfl rfl ?_)
 refine wpAny_bind (wpAny_of_eq (a:=rawPart lo) (by exists pl<;>kernel_rfl!) ?_)
 refine wpAny_bind (wpAny_field hsl rfl rfl ?_)
 refine wpAny_bind (wpAny_of_eq (a:=rawPart hi) (by exists pu<;>kernel_rfl!) ?_)
 exact wpAny_pure h
theorem JB{Q:Array UInt8→Shared→Prop}(hl:s.heap.get? a=some (BK b))(h:Q b.toArray s):wpAny M A (Builtin.Bytes.payload (.ref a)) Q E s :=
 wpAny_bind (wpAny_bind (wpAny_load hl (wpAny_pure (wpAny_pure h))))
end
theorem gJ(a sl:Addr)(b k:List UInt8)(vl vu:Value)(lo hi:Option Int)(pl:IsPart vl lo)(pu:IsPart vu hi)(e:cut b lo hi=some k)(hz:k.length≤sizeLine):Meets (Builtin.«bytearray.__getitem__» ⟨[.ref a,.ref sl],[]⟩)
  (fun _ R s=>s.heap.get? a=some (BK b)∧s.heap.get? sl=some { cls:=.type "slice",data:=.fields #[vl,vu,.none] }∧R (.ok (.ret (.ref s.heap.objs.size))) { s with heap:=s.heap.push (BK k) }):=by
 intro prog w A R s h
 obtain⟨hl,hsl,h⟩:=h
 have tS:s.TypeIs (.ref sl) "slice":=⟨_,hsl,rfl⟩
 have hs:=XF e
 have raw:=sliceIndices_raw lo hi none b.toArray.size (fun e=>nomatch e)
 clear e
 refine wpAny_bind (wpAny_of_eq (a:=(.ref a,[.ref sl])) rfl ?_)
 refine wpAny_bind (oE hsl ?_)
 refine wpAny_bind (wpAny_typeOf tS ?_)
 refine wpAny_bind (NK hsl pl pu ?_)
 refine wpAny_bind (JB hl ?_)
 refine wpAny_bind (wpAny_of_eq raw ?_)
 refine wpAny_bind (m:=Builtin.Bytes.newBytearray (Builtin.Bytes.sliced b.toArray (sliceBounds lo hi none b.toArray.size).1 (sliceBounds lo hi none b.toArray.size).2.1 (sliceBounds lo hi none b.toArray.size).2.2)) ?_
 rw [hs]
 refine wpAny_newObj_type ?_
 exact wpAny_pure h
theorem UK:mroOf (.type "bytearray")=pure [.type "bytearray",.type "object"]:=by rw [mroOf_type];kernel_rfl
theorem LV:typeLookup (.type "bytearray") "__new__"=pure (some (.builtin "bytearray.__new__")):=by rw [typeLookup_type,builtinLookup_eq_fast];kernel_rfl
theorem EY:Slot "bytearray" "__init__" "bytearray.__init__" :=
 .of (owner:="bytearray") (n:="__init__") (by rw [typeLookup_type,builtinLookup_eq_fast];kernel_rfl) (by decide +kernel) (by decide +kernel) (by decide +kernel)
  (by first | exact .inl (by decide +kernel) | exact .inr (by decide +kernel)) (by rw [isSubtype_type];kernel_rfl)
theorem LX:entryFor table "bytearray.__init__"=some Builtin.«bytearray.__init__»:=entryFor_of_tree (by kernel_rfl)
theorem NL(a b:Value):argsOk "bytearray.__init__" ⟨[a,b],[]⟩:=by unfold argsOk;kernel_rfl
theorem CR:TypeCalled "bytearray" "bytearray.__new__" "bytearray.__init__" :=
 ⟨by decide +kernel,by decide +kernel,⟨_,_,UK⟩,madeBy_type UK LV (by decide +kernel),by decide +kernel,by rw [isSubtype_type];kernel_rfl,EY⟩
theorem OS(a:Value):checkTypeCall "bytearray" ⟨[a],[]⟩=pure ():=by kernel_rfl
theorem R9(a:Value):checkBuiltinCall "bytearray.__new__" ⟨[.type "bytearray",a],[]⟩=pure ():=by kernel_rfl
theorem NM:entryFor table "bytearray.__new__"=some Builtin.«list.__new__»:=entryFor_alias (id':="list.__new__") (by kernel_rfl) rfl (by decide +kernel) (by kernel_rfl)
theorem HR:plainId "bytearray.__new__"=true:=by decide +kernel
theorem NN:("bytearray.__new__".splitOn ".__new__").headD ""="bytearray":=by rw [split_bytearray];rfl
theorem IS:isSubtype (.type "bytearray") (.type "bytearray")=pure true:=by rw [isSubtype_type];kernel_rfl
theorem OT{prog:Program}{w:World}{A:Around}{E:Value→Shared→Prop}{s:Shared}(a:Value){Q₁:Value→Shared→Prop}
  (h:Q₁ (.ref s.heap.objs.size) { s with heap:=s.heap.push (BK []) }) :
  codeAny (model prog w) A (.call (.builtin "bytearray.__new__") ⟨[.type "bytearray",a],[]⟩) (wants Q₁ E) s:=by
 refine codeAny_of_tree ?_
 show wpAny _ A.in1 (do checkBuiltinCall "bytearray.__new__" ⟨[.type "bytearray",a],[]⟩;again (.builtin "bytearray.__new__" ⟨[.type "bytearray",a],[]⟩)) _ _ s
 refine wpAny_bind (wpAny_of_eq (R9 a) (wpAny_pure ⟨plainId_quiet HR _,codeAny_builtin_stack NM rfl fun p st=>?_⟩))
 rw [Around.under_plainId HR _]
 have hsub:=IS
 have hown:=NN
 obtain⟨hp,g,d,tk,os⟩:=s
 simp only [hown]
 repeat lk
 exact h
theorem UL(id:String)(b:Array UInt8)(t:Tok):Builtin.Bytes.buffer? id (.bytes b t) true=pure (some b):=by kernel_rfl!
theorem LF(b:Array UInt8)(t:Tok):asStr? (.bytes b t)=pure none:=by kernel_rfl!
end Og
end
section
open PySem PySem.W PySem.Calls PyProof.Rows PySem.SeqAt
open Sem (wp)
namespace Og
noncomputable def GM:List String:=["bytearray.__contains__","bytearray.__mod__","bytearray.__rmod__","_struct.pack_into.held","bytearray.find.held"]++Builtin.Bytes.decodersThatHold
noncomputable def JC:Code→Bool
 | .builtin id _=>!(GM.contains id)
 | _=>true
structure RA(Γ:Ctx):Prop where
 code:JC Γ.code=true
 below:∀x∈Γ.below,JC x.1=true
theorem RA.enter{Γ:Ctx}(x:RA Γ){c:Code}(h:JC c=true)(hd:Option Value)(p:Pos):RA (Γ.enter c hd p):=⟨h,fun y hy=>by
 have hy':y∈(Γ.code,p)::Γ.below:=hy
 rcases List.mem_cons.mp hy' with rfl | hy'
 ·exact x.code
 ·exact x.below y hy'⟩
theorem RA.goto{Γ:Ctx}(x:RA Γ){c:Code}(h:JC c=true):RA (Γ.goto c):=⟨h,x.below⟩
noncomputable def wpG{α:Type}(M:Model)(A:Around)(t:Sem α)(Q:α→Shared→Prop)(E:Value→Shared→Prop)(s:Shared):Prop :=
 ∀Γ p,Γ.In A→RA Γ→wp M Γ t (fun a _ s'=>Q a s') (fun e _ s'=>E e s') p s
noncomputable def codeG(M:Model)(A:Around)(c:Code)(R:Result→Shared→Prop)(s:Shared):Prop :=
 ∀Γ p,Γ.code=c→Γ.Below A→RA Γ→wpCode M Γ R p s
section
variable{α β:Type}{M:Model}{A:Around}{E:Value→Shared→Prop}{s:Shared}
theorem wpAny.g{t:Sem α}{Q:α→Shared→Prop}(h:wpAny M A t Q E s):wpG M A t Q E s:=fun Γ p hΓ _=>h Γ p hΓ
theorem codeAny.g{c:Code}{R:Result→Shared→Prop}(h:codeAny M A c R s):codeG M A c R s:=fun Γ p hc hΓ _=>h Γ p hc hΓ
theorem AX{a:α}{Q:α→Shared→Prop}(h:Q a s):wpG M A (pure a) Q E s:=fun _ _ _ _=>h
theorem CM{t:Sem α}{Q Q':α→Shared→Prop}{E':Value→Shared→Prop}(h:wpG M A t Q E s)(hQ:∀a s,Q a s→Q' a s)(hE:∀e s,E e s→E' e s):wpG M A t Q' E' s :=
 fun Γ p hΓ k=>Sem.wp_mono M Γ t (fun a _ s=>hQ a s) (fun e _ s=>hE e s) p s (h Γ p hΓ k)
theorem AN{m:Sem α}{f:α→Sem β}{Q:β→Shared→Prop}(h:wpG M A m (fun a s'=>wpG M A (f a) Q E s') E s):wpG M A (m>>=f) Q E s:=fun Γ p hΓ k=>by
 rw [Sem.wp_bind']
 exact Sem.wp_mono M Γ m (fun a p' s' h'=>h' Γ p' hΓ k) (fun _ _ _ h'=>h') p s (h Γ p hΓ k)
theorem A9{m:Sem α}{f:α→Sem β}{Q:β→Shared→Prop}(h:wpAny M A m (fun a s'=>wpG M A (f a) Q E s') E s):wpG M A (m>>=f) Q E s:=AN (wpAny.g h)
theorem L0{m:Sem α}{k:Value→Sem Unit}{Q:α→Shared→Prop}(h:wpG M A m Q (fun e s'=>wpG M A (k e) (fun _ s''=>E e s'') E s') s):wpG M A (m.onRaise k) Q E s:=fun Γ p hΓ c=>by
 rw [Sem.wp_onRaise]
 exact Sem.wp_mono M Γ m (fun _ _ _ h'=>h') (fun e p' s' h'=>h' Γ p' hΓ c) p s (h Γ p hΓ c)
theorem bW{m:Sem α}{Q:Except Value α→Shared→Prop}(h:wpG M A m (fun a=>Q (.ok a)) (fun e=>Q (.error e)) s):wpG M A m.attempt Q E s:=fun Γ p hΓ c=>by rw [Sem.wp_attempt];exact h Γ p hΓ c
theorem CX{vs:List Value}{m:Sem α}{Q:α→Shared→Prop}(h:wpG M A m Q E s):wpG M A (holding vs m) Q E s:=fun Γ p hΓ c=>by rw [Sem.wp_holding];exact h Γ p hΓ c
theorem RB{t:Sem α}{a:α}{Q:α→Shared→Prop}(h:t=pure a)(q:Q a s):wpG M A t Q E s:=h▸AX q
theorem NO{c:Code}{R R':Result→Shared→Prop}(h:codeG M A c R s)(hR:∀r s,R r s→R' r s):codeG M A c R' s:=fun Γ p hc hΓ k=>wpCode_mono hR (h Γ p hc hΓ k)
theorem uM{c:Code}{h:Option Value}{Q:Flow→Shared→Prop}(hk:JC c=true)
  (hc:codeG M (A.mark h) c (fun r s'=>match r with | .ok f=>Q f s' | .error e=>E e s') s) (hnb:h≠some byPass:=by intro x;exists x):wpG M A (run c h) Q E s :=
 fun Γ p hΓ k=>by rw [Sem.wp_run];exact hc _ p rfl (hΓ.enter c h p hnb) (k.enter hk h p)
theorem XG{c:Code}{Q:Value→Shared→Prop}(hk:JC c=true)
  (hc:codeG M A c (fun r s'=>match r with | .ok (.ret v)=>Q v s' | .ok _=>False | .error e=>E e s') s):wpG M A (runValue c) Q E s :=
 fun Γ p hΓ k=>by rw [Sem.wp_runValue];exact hc _ p rfl (hΓ.enter c none p (by intro x;exists x)) (k.enter hk none p)
theorem JD{f:Value}{pos:List Value}{kw:List (PySem.Str×Value)}{Q:Value→Shared→Prop}
 (hc:codeG M A (.call f ⟨pos,kw⟩) (fun r s'=>match r with | .ok (.ret v)=>Q v s' | .ok _=>False | .error e=>E e s') s):wpG M A (call f pos kw) Q E s:=XG rfl hc
theorem CA{c:Code}{R:Result→Shared→Prop}
  (h:wpG M (A.under c) (M.den c) (fun fin s'=>match fin with | .done f=>R (.ok f) s' | .again c'=>c'.quiet=true∧JC c'=true∧codeG M A c' R s') (fun e s'=>R (.error e) s') s):codeG M A c R s:=fun Γ p hc hΓ k=>by
 rw [wpCode_iff_wp,hc]
 refine Sem.wp_mono M Γ _ (fun fin p' s' h'=>?_) (fun _ _ _ h'=>h') p s (h Γ p (hc▸hΓ.in) k)
 cases fin with
 | done f=>exact h'
 | again c'=>exact⟨h'.1,h'.2.2 (Γ.goto c') p' rfl (hΓ.goto c') (k.goto h'.2.1)⟩
theorem ZP{id:String}{args:Args}(hx:JC (.builtin id args)=true)(h:GM.contains id=true):False:=by
 have hx':(!(GM.contains id))=true:=hx
 rw [h] at hx';exists hx'
theorem UM{f:Code×Pos→Bool}(hf:∀x,JC x.1=true→f x=false):∀{l:List (Code×Pos)},(∀x∈l,JC x.1=true)→l.any f=false
 | [],_=>rfl
 | x::l,h=>by rw [List.any_cons,hf x (h x List.mem_cons_self),UM hf fun y hy=>h y (List.mem_cons_of_mem _ hy)];rfl
theorem XH{v:Value}{Q:Bool→Shared→Prop}(h:Q false s):wpG M A (Builtin.Bytes.exported v) Q E s:=fun Γ p hΓ k=>by
 show Q (List.any ((Γ.code,p)::Γ.below) _) s
 have all:∀x∈(Γ.code,p)::Γ.below,JC x.1=true:=fun x hx=>by
  rcases List.mem_cons.mp hx with rfl | hx
  ·exact k.code
  ·exact k.below x hx
 rw [UM (fun x hx=>?_) all]
 ·exact h
 ·obtain⟨c,p⟩:=x
  cases c with
  | builtin id args =>
   obtain⟨pos,kw⟩:=args
   have n:∀y,GM.contains y=true→id≠y:=fun y h z=>ZP hx (z▸h)
   delta PySem.Builtin.Bytes.exported.match_1
   refine(dif_neg (c:=id="bytearray.__contains__") (n "bytearray.__contains__" (by decide))).trans ?_
   refine(dif_neg (c:=id="bytearray.__mod__") (n "bytearray.__mod__" (by decide))).trans ?_
   refine(dif_neg (c:=id="bytearray.__rmod__") (n "bytearray.__rmod__" (by decide))).trans ?_
   refine(dif_neg (c:=id="_struct.pack_into.held") (n "_struct.pack_into.held" (by decide))).trans ?_
   refine(dif_neg (c:=id="bytearray.find.held") (n "bytearray.find.held" (by decide))).trans ?_
   cases pos with
   | nil=>rfl
   | cons v l =>
    show(_&&Builtin.Bytes.decodersThatHold.contains id)=false
    cases q:Builtin.Bytes.decodersThatHold.contains id with
    | false=>exact Bool.and_false _
    | true =>
     refine(ZP hx ?_).elim
     unfold GM
     rw [List.contains_iff_mem] at q ⊢
     exact List.mem_append_right _ q
  | _=>rfl
end
abbrev uN(M:Model)(A:Around)(R:Result→Shared→Prop):PySem.Fin→Shared→Prop:=fun fin s'=>match fin with
 | .done f=>R (.ok f) s'
 | .again c'=>c'.quiet=true∧JC c'=true∧codeG M A c' R s'
section
variable{prog:Program}{w:World}{A:Around}{s:Shared}{R:Result→Shared→Prop}
theorem IT{id:String}{args:Args}{b:Builtin}(hb:entryFor table id=some b)
  (h:wpG (model prog w) (A.under (.builtin id args)) (b args) (uN (model prog w) A R) (fun e s'=>R (.error e) s') s):codeG (model prog w) A (.builtin id args) R s:=by
 refine CA ?_
 show wpG _ _ (match entryFor table id with | some b=>b args | none=>unsupported ((withoutEnding? id "#data").getD id)) _ _ s
 rw [hb];exact h
theorem D7{id:String}{args:Args}{b:Builtin}(hq:(Code.builtin id args).quiet=true)(hk:JC (.builtin id args)=true)(hb:entryFor table id=some b)
  (h:wpAny (model prog w) A.in1 (checkBuiltinCall id args) (fun _ s₁=>wpG (model prog w) (A.under (.builtin id args)) (b args) (uN (model prog w) A R) (fun e s'=>R (.error e) s') s₁) (fun e s'=>R (.error e) s') s) :
  codeG (model prog w) A (.call (.builtin id) args) R s:=by
 refine CA ?_
 show wpG _ A.in1 (do checkBuiltinCall id args;again (.builtin id args)) _ _ s
 refine A9 (wpAny_mono h (fun _ s₁ h₁=>AX ⟨hq,hk,IT hb h₁⟩) fun _ _ h'=>h')
theorem XI{body:List Stmt}{env:Env}
  (h:wpG (model prog w) (A.deeper env) (execs body env) (fun f s'=>R (.ok (.ret (match f with | .ret v=>v | _=>.none))) s')
   (fun e s'=>wpAny (model prog w) (A.deeper env) (leaving env e) (fun _ s''=>R (.error e) s'') (fun e' s''=>R (.error e') s'') s') s):codeG (model prog w) A (.func body env) R s:=by
 refine CA ?_
 show wpG _ (A.deeper env) (do point;match←(execs body env).onRaise (leaving env) with | .ret v=>ret v | _=>ret .none) _ _ s
 refine A9 (wpAny_point (AN (L0 (CM h (fun f s' h'=>?_) fun _ _ h'=>wpAny.g h'))))
 exists f<;>exact AX h'
theorem IL{a:Addr}{args:Args}{o:Obj}{fd:FuncData}{body:List Stmt}(hroom:A.depth<recursionLimit)(ho:s.heap.get? a=some o)
  (hd':o.data=.func fd) (hco:fd.scope.isCoroutine=false) (hgen:fd.scope.isGenerator=false) (hbody:fd.body=.stmts body) (hcd:s.heap.CodeRec fd.code fd.qualname)
  (h:wpAny (model prog w) A.in1 (bindArgs fd args) (fun CQ s₁ =>
   wpAny (model prog w) A.in1 (newFunctionEnv fd.scope fd.globals fd.closure CQ (fd.qualname++".<locals>.") (some a) fd.code none fd.builtins)
    (fun env s₂=>s₂.heap.NoLimit∧codeG (model prog w) A (.func body env) R s₂) (fun e s'=>R (.error e) s') s₁) (fun e s'=>R (.error e) s') s) :
  codeG (model prog w) A (.call (.ref a) args) R s:=by
 refine CA ?_
 obtain⟨oc,od,oda,osl⟩:=o
 dsimp only at hd'
 subst hd'
 refine A9 (m:=load a) (wpAny_load ho ?_)
 refine Og.p9 hcd fun c oc vs tq hc hoc hdc hq=>?_
 show wpG _ A.in1 (callFunction a fd args) _ _ s
 unfold callFunction
 rw [hc] at h ⊢
 refine A9 (m:=field (.ref c) 1) (wpAny_field hoc hdc hq (AN (AX ?_)))
 refine A9 (wpAny_mono h (fun CQ s₁ h₁=>A9 (wpAny_mono h₁ (fun env s₂ h₂=>A9 (wpAny_enterFrame h₂.1 hroom ?_)) fun _ _ h'=>h')) fun _ _ h'=>h')
 rw [hbody,hgen,hco]
 exact AX ⟨rfl,rfl,h₂.2⟩
end
end Og
end
section
open PySem PySem.W PySem.Calls PyProof.Rows PySem.SeqAt
namespace Og
theorem K4:typeLookup (.type "bytearray") "__release_buffer__"=pure (some (.builtin "bytearray.__release_buffer__")):=by rw [typeLookup_type,builtinLookup_eq_fast];kernel_rfl
theorem L1{M:Model}{A:Around}{E:Value→Shared→Prop}{s:Shared}{o:Addr}{Q:Bool→Shared→Prop}(hT:s.TypeIs (.ref o) "bytearray")(h:Q false s):wpAny M A (Builtin.Bytes.ownRelease (.ref o)) Q E s:=by
 unfold Builtin.Bytes.ownRelease Builtin.Bytes.slotIsOwn
 refine wpAny_bind (wpAny_bind (wpAny_specialOf hT K4 ?_))
 have h1:("bytearray.__release_buffer__".endsWith ("."++"__release_buffer__"))=true:=by kernel_rfl!
 have h2:("bytearray.__release_buffer__".dropRight ("__release_buffer__".length+1))="bytearray":=by kernel_rfl!
 dsimp only
 rw [h1,h2]
 refine wpAny_isInstance hT IS ?_
 exact wpAny_pure h
theorem RC{M:Model}{A:Around}{E:Value→Shared→Prop}{s:Shared}{o:Addr}{y:List UInt8}{Q:Nat→Shared→Prop}(hl:s.heap.get? o=some (BK y))(h:Q 0 s):wpAny M A (Builtin.Bytes.exportsOf (.ref o)) Q E s:=by
 unfold Builtin.Bytes.exportsOf
 refine wpAny_bind (wpAny_load hl ?_)
 exact wpAny_pure h
theorem JE{M:Model}{A:Around}{E:Value→Shared→Prop}{s:Shared}{o:Addr}{b:List UInt8}{f:Array UInt8→Array UInt8}{Q:Unit→Shared→Prop}(hl:s.heap.get? o=some (BK b))(hz:(f b.toArray).size≤250)
  (h:∀h',Heap.SameBut o s.heap h'→h'.get? o=some { cls:=.type "bytearray",data:=.bytearray (f b.toArray) 0 }→Q () { s with heap:=h' }):wpAny M A (Builtin.Bytes.write (.ref o) f) Q E s:=by
 have u:=Heap.get?_update_self (Obj.mapBytearray f) hl rfl
 unfold Builtin.Bytes.write updateBytearray
 refine wpAny_bind (wpAny_load hl ?_)
 refine wpAny_bind (wpAny_update hl ?_)
 refine wpAny_lookBehind u ?_ (h _ (Heap.SameBut.update ..) u)
 show(Data.bytearray (f b.toArray) 0).pastItsLine=none
 unfold Data.pastItsLine
 dsimp only
 rw [if_neg]
 rw [sizeLine_eq];lia
theorem bX(v:Value):Builtin.Bytes.bindOptional "bytearray.__init__" "bytearray" ["source","encoding","errors"] [v] []=pure [some v,none,none]:=by kernel_rfl!
theorem OU(b:Array UInt8)(t:Tok):specialOf (.bytes b t) "__index__"=pure none:=by kernel_rfl!
set_option maxHeartbeats 2000000 in
theorem bY{prog:Program}{w:World}{A:Around}{E:Value→Shared→Prop}{s:Shared}{o:Addr}{y:List UInt8}{t:Tok}{P:PySem.Fin→Shared→Prop}(hz:y.length≤250)(hl:s.heap.get? o=some (BK []))
  (h:∀h',Heap.SameBut o s.heap h'→h'.get? o=some (BK y)→P (.done (.ret .none)) { s with heap:=h' }):wpG (model prog w) A (Builtin.«bytearray.__init__» ⟨[.ref o,.bytes y.toArray t],[]⟩) P E s:=by
 have tI:s.TypeIs (.ref o) "bytearray":=⟨_,hl,rfl⟩
 refine A9 (L1 tI ?_)
 refine A9 (wpAny_of_eq (bX _) ?_)
 refine AN (RB (a:=()) rfl ?_)
 refine AN (RB (a:=()) rfl ?_)
 refine AN (AN (XH ?_))
 refine wpAny.g (wpAny_bind (RC hl (wpAny_pure ?_)))
 refine A9 (JE hl (Nat.zero_le _) fun h1 sb1 hl1=>?_)
 refine A9 (wpAny_of_eq (LF _ _) ?_)
 refine AN (AX ?_)
 refine A9 (wpAny_of_eq (OU _ _) ?_)
 refine A9 (wpAny_of_eq (UL _ _ _) ?_)
 refine A9 (wpAny_rule ?_)
 refine A9 (JE (b:=[]) hl1 (by simpa using hz) fun h2 sb2 hl2=>?_)
 exact AX (h h2 ⟨sb2.1.trans sb1.1,fun b hb=>(sb2.2 b hb).trans (sb1.2 b hb)⟩ hl2)
theorem MA{id:String}{args:Args}(h:GM.contains id=false):JC (.builtin id args)=true:=by
 show(!(GM.contains id))=true
 rw [h];rfl
set_option maxHeartbeats 4000000 in
theorem LG{prog:Program}{w:World}{A:Around}{E:Value→Shared→Prop}{s:Shared}{y:List UInt8}{t:Tok}{Q:Value→Shared→Prop}(hz:y.length≤250)
  (h:∀h',(∀b o,s.heap.get? b=some o→h'.get? b=some o)→h'.get? s.heap.objs.size=some (BK y)→Q (.ref s.heap.objs.size) { s with heap:=h' }) :
  wpG (model prog w) A (call (.type "bytearray") [.bytes y.toArray t]) Q E s:=by
 refine Og.k8 CR.mro fun c tl hmro=>?_
 have hmade:=CR.made
 have hsub:=CR.sub
 refine JD (CA ?_)
 show wpG _ _ (callAny (.type "bytearray") _) _ _ _
 refine AX ⟨Code.quiet_builtin _ (by decide +kernel),MA (by decide),IT PySem.F.entry_type_call ?_⟩
 rw [Around.under_plain (weight_type_call_type "bytearray" _ []) rfl]
 have h1:=CR.notType
 have h2:=CR.canCreate
 unfold Builtin.«type.__call__»
 dsimp only
 simp only [h1,h2,Bool.false_eq_true,if_false]
 refine A9 (wpAny_of_eq (OS _) ?_)
 refine A9 (wpAny_of_eq hmro ?_)
 simp only [List.isEmpty_cons,Bool.false_eq_true,if_false]
 refine A9 (wpAny_of_eq hmade ?_)
 dsimp only
 refine AN (AX ?_)
 refine A9 (wpAny_holding ?_)
 refine wpAny_call (OT (Q₁:=fun obj s₁=>obj=.ref s.heap.objs.size∧s₁={ s with heap:=s.heap.push (BK []) }) _ ⟨rfl,rfl⟩) |> fun z=>wpAny_mono z (fun obj s₁ h₁=>?_) fun _ _ e=>e
 obtain⟨rfl,rfl⟩:=h₁
 have hb:(s.heap.push (BK [])).get? s.heap.objs.size=some (BK []):=Heap.get?_push_size _ rfl
 have tI:({ s with heap:=s.heap.push (BK []) }:Shared).TypeIs (.ref s.heap.objs.size) "bytearray":=⟨_,hb,rfl⟩
 refine A9 (wpAny_isInstance tI hsub ?_)
 simp only [Bool.not_true,Bool.false_eq_true,if_false]
 refine AN (CX ?_)
 unfold callSpecial?
 refine A9 (wpAny_specialOf tI CR.init.lookup ?_)
 dsimp only
 rw [CR.init.bind]
 refine CX (AN (AX ?_))
 dsimp only
 refine AN (JD (D7 (plainId_quiet EY.plain _) (MA (by decide)) LX (EY.check _ _ _ _ _ _ _ _ tI (NL _ _) ?_)))
 refine bY hz hb fun h' sb hl=>?_
 refine AX ?_
 dsimp only
 rw [if_neg (by decide)]
 refine AX ?_
 refine h h' (fun b o e=>?_) hl
 exact(sb.2 b (Nat.ne_of_lt (Heap.lt_size e))).trans (Heap.get?_push_of_some _ e)
theorem OV(b:Array UInt8)(t:Tok):isInstance (.bytes b t) (.type "bytearray")=pure false:=by kernel_rfl!
theorem RD(b:Array UInt8)(t:Tok):((do return (←specialOf (.bytes b t) (PySem.Str.ofString "__index__")).isSome:Sem Bool) <||> (do return (←specialOf (.bytes b t) (PySem.Str.ofString "__int__")).isSome) <||> (do return (←specialOf (.bytes b t) (PySem.Str.ofString "__float__")).isSome) <||> isInstance (.bytes b t) (.type "complex"))=pure false:=by kernel_rfl!
section
variable{b y:List UInt8}{m n:Nat}
theorem ZQ(h1:m≤n):max (m:Int) (n:Int)=n:=Int.max_eq_right (Int.ofNat_le.mpr h1)
theorem gK(h1:m≤n)(hy:(y.length:Int)=(n:Int)-m):(((y.toArray.size:Nat):Int) != max (m:Int) (n:Int)-(m:Int))=false:=by
 rw [ZQ h1,List.size_toArray,hy];exact bne_self_eq_false _
theorem UN(h1:m≤n):b.toArray.extract 0 ((m:Int)).toNat++y.toArray++b.toArray.extract (max (m:Int) (n:Int)).toNat b.toArray.size=(b.take m++y++b.drop n).toArray:=by
 have e2:(b.drop n).take (b.length-n)=b.drop n:=List.take_of_length_le (by rw [List.length_drop];exact Nat.le_refl _)
 rw [ZQ h1,Int.toNat_natCast,Int.toNat_natCast]
 simp [e2]
theorem gL(h1:m≤n)(h2:n≤b.length)(hy:y.length=n-m)(hz:b.length≤250):(b.take m++y++b.drop n).toArray.size≤250:=by
 rw [List.size_toArray,List.length_append,List.length_append,List.length_take,List.length_drop,Nat.min_eq_left (Nat.le_trans h1 h2),hy,Nat.add_sub_cancel' h1,Nat.add_sub_cancel' h2];exact hz
theorem lH(h1:m≤n)(h2:n≤b.length):sliceIndices (rawInt m) (rawInt n) .none b.toArray.size=pure ((m:Int),(n:Int),1):=by
 have raw:=sliceIndices_raw (some (m:Int)) (some (n:Int)) none b.toArray.size (fun e=>nomatch e)
 rw [J9 (lo:=some (m:Int)) (hi:=some (n:Int)) (n:=b.toArray.size) (fun x e=>by exists e;exact Int.natCast_nonneg m) (fun x e=>by exists e;exact Int.natCast_nonneg n)] at raw
 have e1:b.toArray.size=b.length:=List.size_toArray ..
 simp only [Option.getD_some,e1,Int.toNat_natCast,Nat.min_eq_left (Nat.le_trans h1 h2),Nat.min_eq_left h2] at raw
 rw [e1];exact raw
end
set_option maxHeartbeats 4000000 in
theorem UO{prog:Program}{w:World}{A:Around}{E:Value→Shared→Prop}{s:Shared}{a sl:Addr}{b y:List UInt8}{lo hi:Int}{t u v:Tok}{Q:Unit→Shared→Prop}
  (hl:s.heap.get? a=some (BK b)) (hsl:s.heap.get? sl=some (B0 (.int lo t) (.int hi u) .none)) (h0:0≤lo) (h1:lo≤hi) (h2:hi≤b.length) (hy:(y.length:Int)=hi-lo) (hz:b.length≤250)
  (h:∀h',(∀c o,c≠a→s.heap.get? c=some o→h'.get? c=some o)→h'.get? a=some (BK (b.take lo.toNat++y++b.drop hi.toNat))→Q () { s with heap:=h' }) :
  wpG (model prog w) A (setItem (.ref a) (.ref sl) (.bytes y.toArray v)) Q E s:=by
 refine Og.AI (Int.eq_ofNat_of_zero_le h0) fun m hr1=>?_;subst hr1
 refine Og.AI (Int.eq_ofNat_of_zero_le (Int.le_trans h0 h1)) fun n hr1=>?_;subst hr1
 replace h1:=Int.ofNat_le.mp h1
 replace h2:=Int.ofNat_le.mp h2
 have hy':y.length=n-m:=Int.ofNat.inj (hy.trans (Int.ofNat_sub h1).symm)
 clear h0
 have tI:s.TypeIs (.ref a) "bytearray":=⟨_,hl,rfl⟩
 have tS:s.TypeIs (.ref sl) "slice":=⟨_,hsl,rfl⟩
 unfold setItem
 refine CX ?_
 refine A9 (wpAny_sequenceKey tI (by decide) ?_)
 refine AN ?_
 unfold callSpecial?
 refine A9 (wpAny_specialOf tI E6.lookup ?_)
 dsimp only
 rw [E6.bind]
 refine CX (AN (AX ?_))
 dsimp only
 refine AN (JD (D7 (plainId_quiet E6.plain _) (MA (by decide)) NJ (E6.check _ _ _ _ _ _ _ _ tI (OQ _ _ _) ?_)))
 unfold Builtin.«bytearray.__setitem__»
 refine A9 (oE hsl ?_)
 refine A9 (wpAny_typeOf tS ?_)
 refine A9 (NK hsl (.int _ _) (.int _ _) ?_)
 refine A9 (wpAny_of_eq (OV y.toArray v) ?_)
 refine AN (RB (RD y.toArray v) ?_)
 refine A9 (wpAny_of_eq (LF y.toArray v) ?_)
 refine A9 (wpAny_rule ?_)
 refine AN (LG (hy'▸Nat.le_trans (Nat.sub_le _ _) (Nat.le_trans h2 hz)) fun h9 keep hl1=>?_)
 refine A9 (wpAny_holding (NK (keep _ _ hsl) (.int _ _) (.int _ _) ?_))
 refine A9 (JB hl1 ?_)
 refine A9 (JB (keep _ _ hl) ?_)
 refine A9 (wpAny_of_eq (lH h1 h2) ?_)
 refine A9 (wpAny_rule ?_)
 show wpG _ _ (if(((y.toArray.size:Nat):Int) != max (m:Int) (n:Int)-(m:Int))=true then _ else _) _ _ _
 rw [gK h1 hy]
 refine A9 (JE (keep _ _ hl) ?_ fun h2 sb hl2=>?_)
 ·rw [UN h1];exact gL h1 h2 hy' hz
 rw [UN h1] at hl2
 exact AX (AX (AX (h h2 (fun c o n e=>(sb.2 c n).trans (keep _ _ e)) hl2)))
noncomputable def RE(h:Heap)(env:Env)(x:Str)(V:Value):Prop :=
 (env.kindOf x=some .local∧∃m,h.Ns env.locals m∧m x=some V) ∨
 ((env.kindOf x=some .cell∨env.kindOf x=some .free)∧∃a,env.cells.lookup x=some a∧h.IsCell a (some V))
noncomputable def IU(env:Env)(x:Str):Prop:=env.kindOf x=some .local∨env.kindOf x=some .cell∨env.kindOf x=some .free
noncomputable def CC(env:Env)(a:Addr):Prop:=a=env.locals∨∃n,env.cells.lookup n=some a
structure FR(c:Cx)(s:Shared)(r:List Addr)(env:Env)(σ:Env'):Prop where
 kind:env.scope.kind=.function
 globals:env.globals=mainGlobals
 builtins:env.builtins=builtinsNs
 ns:∃m,s.heap.Ns env.locals m
 vars:∀x v,AG x σ=some v→IU env (c.nm x)→∃V,RE s.heap env (c.nm x) V∧VR c.hs s.heap r v V
 cells:∀n a,env.cells.lookup n=some a→∃v,s.heap.IsCell a v
 apart:∀n,env.cells.lookup n≠some env.locals
 inj:∀n m a,env.cells.lookup n=some a→env.cells.lookup m=some a→n=m
 notHs:∀a,CC env a→c.hs.get? a=none
 notIn:∀a,CC env a→a∉r
 plain:∀x v,AG x σ=some v→c.isA x=false
 own:∀x,env.kindOf x=some .cell∨env.kindOf x=some .free→(env.cells.lookup x).isSome=true
theorem FR.notStat{c:Cx}{s:Shared}{r:List Addr}{env:Env}{σ:Env'}(F:FR c s r env σ){a:Addr}(o:CC env a):a≠c.L:=fun z=>by
 have:=F.notHs a o
 refine Og.ES c.stat fun o _ _ e _=>?_
 rw [z,e] at this;exists this
theorem ZR{h:Heap}{L:Addr}{m m':Str→Option Value}(x:h.Ns L m)(y:h.Ns L m')(n:Str):m n=m' n:=by
 refine Og.FG x fun o es n1 e d _ q=>?_;clear x
 refine Og.FG y fun o' es' n2 e' d' _ q'=>?_;clear y
 rw [e] at e';exists e'
 rw [d] at d';exists d'
 rw [←q,←q']
theorem CY{h h':Heap}{L:Addr}{m:Str→Option Value}(x:h.Ns L m)(k:∀o,h.get? L=some o→h'.get? L=some o):h'.Ns L m:=by
 refine Og.ES x fun o ds n e q=>?_;clear x
 exact⟨o,ds,n,k o e,q⟩
theorem BO{h h':Heap}{a:Addr}{v:Option Value}(x:h.IsCell a v)(k:∀o,h.get? a=some o→h'.get? a=some o):h'.IsCell a v:=by
 refine Og.AB x fun o e d=>?_;clear x
 exact⟨o,k o e,d⟩
theorem RE.keep{h h':Heap}{env:Env}{x:Str}{V:Value}(y:RE h env x V)(k:∀a o,CC env a→h.get? a=some o→h'.get? a=some o):RE h' env x V:=by
 rcases y with ⟨e,m,n,q⟩ | ⟨e,a,l,i⟩
 ·exact .inl ⟨e,m,CY n fun o=>k _ o (.inl rfl),q⟩
 ·exact .inr ⟨e,a,l,BO i fun o=>k _ o (.inr ⟨_,l⟩)⟩
theorem FR.has{c:Cx}{s:Shared}{r:List Addr}{env:Env}{σ:Env'}(F:FR c s r env σ){a:Addr}(o:CC env a):∃ob,s.heap.get? a=some ob:=by
 rcases o with rfl | ⟨n,e⟩
 ·refine Og.sW F.ns fun m o _ _ e _=>?_;exact⟨o,e⟩
 ·refine Og.ER (F.cells n a e) fun v o e _=>?_;exact⟨o,e⟩
theorem FR.go{c:Cx}{s s':Shared}{r r':List Addr}{H H':AH}{env:Env}{σ:Env'}(F:FR c s r env σ)(S:SR c s r H)(G:Go c s r H H' s' r'):FR c s' r' env σ:=by
 have k:∀a o,CC env a→s.heap.get? a=some o→s'.heap.get? a=some o:=fun a o w e=>G.evo.keep a o (F.notStat w) e (F.notIn a w)
 refine⟨F.kind,F.globals,F.builtins,?_,fun x v e kn=>?_,fun n a e=>?_,F.apart,F.inj,F.notHs,fun a w m=>?_,F.plain,F.own⟩
 ·refine Og.AI F.ns fun m n=>?_;exact⟨m,CY n fun o=>k _ o (.inl rfl)⟩
 ·refine Og.AB (F.vars x v e kn) fun V n y=>?_;exact⟨V,n.keep k,G.vr S y⟩
 ·refine Og.AI (F.cells n a e) fun v i=>?_;exact⟨v,BO i fun o=>k _ o (.inr ⟨_,e⟩)⟩
 ·rcases G.evo.new a m with q | q
  ·exact F.notIn a w q
  ·refine Og.AI (F.has w) fun ob e=>?_;rw [e] at q;exists q
structure BU(c:Cx)(W:Addr→Prop)(s:Shared)(r:List Addr)(H₀ H:AH)(s':Shared)(r':List Addr):Prop where
 sr:SR c s' r' H
 pre:r <+: r'
 keep:∀a o,a≠c.L→¬W a→s.heap.get? a=some o→a∉r→s'.heap.get? a=some o
 new:∀a∈r',a∈r∨s.heap.get? a=none
 stamp:HK r H₀ H s.heap s'.heap
structure B5(c:Cx)(s:Shared)(r:List Addr)(W:Addr→Prop):Prop where
 hs:∀a,W a→c.hs.get? a=none
 nr:∀a,W a→a∉r
 nt:∀a o,W a→s.heap.get? a=some o→¬AF o
theorem B5.notStat{c:Cx}{s:Shared}{r:List Addr}{W:Addr→Prop}(F:B5 c s r W){a:Addr}(w:W a):a≠c.L:=fun z=>by
 have:=F.hs a w
 refine Og.ES c.stat fun o _ _ e _=>?_
 rw [z,e] at this;exists this
theorem FR.apartW{c:Cx}{s:Shared}{r:List Addr}{env:Env}{σ:Env'}(F:FR c s r env σ):B5 c s r (CC env):=⟨F.notHs,F.notIn,fun a o w e t=>by
 obtain⟨_,_,_,d⟩:=t
 rcases w with rfl | ⟨n,l⟩
 ·refine Og.sX F.ns fun m o' _ _ e' q _=>?_
  rw [e] at e';exists e';rw [d] at q;exists q
 ·refine Og.ER (F.cells n a l) fun v o' e' q=>?_
  rw [e] at e';exists e';rw [d] at q;cases q⟩
section
variable{c:Cx}{s s₁ s₂:Shared}{r r₁ r₂:List Addr}{H H₁ H₂:AH}{env:Env}{σ σ₁:Env'}{W W':Addr→Prop}
theorem Go.f(G:Go c s r H H₁ s₁ r₁):BU c W s r H H₁ s₁ r₁:=⟨G.sr,G.pre,fun a o z _ e n=>G.evo.keep a o z e n,G.evo.new,G.stamp⟩
theorem BU.go(G:BU c W s r H H₁ s₁ r₁)(n:∀a,W a→s.heap.get? a=none):Go c s r H H₁ s₁ r₁:=⟨G.sr,G.pre,⟨fun a o z e m=>G.keep a o z (fun w=>by rw [n a w] at e;exists e) e m,G.new⟩,G.stamp⟩
theorem BU.drop(G:BU c W s r H H₁ s₁ r₁)(n:∀a,W a→W' a∨s.heap.get? a=none):BU c W' s r H H₁ s₁ r₁:=⟨G.sr,G.pre,fun a o z w e q=>G.keep a o z (fun w'=>by
 rcases n a w' with h | h
 ·exact w h
 ·rw [h] at e;exists e) e q,G.new,G.stamp⟩
theorem BU.widen(G:BU c W s r H H₁ s₁ r₁)(n:∀a,W a→W' a):BU c W' s r H H₁ s₁ r₁ :=
 ⟨G.sr,G.pre,fun a o z w e q=>G.keep a o z (fun w'=>w (n a w')) e q,G.new,G.stamp⟩
theorem BU.trans(x:BU c W s r H H₁ s₁ r₁)(y:BU c W s₁ r₁ H₁ H₂ s₂ r₂)(n:∀a,W a→a∉r₂):BU c W s r H H₂ s₂ r₂:=by
 refine⟨y.sr,x.pre.trans y.pre,fun a o z w e q=>?_,fun a m=>?_,x.stamp.trans x.pre y.stamp⟩
 ·refine y.keep a o z w (x.keep a o z w e q) fun m=>?_
  rcases x.new a m with h | h
  ·exact q h
  ·rw [e] at h;exists h
 ·rcases y.new a m with h | h
  ·exact x.new a h
  ·by_cases hm:a∈r
   ·exact .inl hm
   ·refine .inr ?_
    cases hh:s.heap.get? a with
    | none=>rfl
    | some o =>
     by_cases w:W a
     ·exact absurd m (n a w)
     ·have z:a≠c.L:=fun z=>y.sr.notStat (z▸m)
      rw [x.keep a o z w hh hm] at h;exists h
theorem BU.refl(S:SR c s r H):BU c W s r H H s r:=⟨S,List.prefix_refl r,fun _ _ _ _ e _=>e,fun _ m=>.inl m,HK.refl r H _⟩
theorem SR.notTup(S:SR c s r H){a:Addr}{o:Obj}(e:s.heap.get? a=some o)(t:AF o):a≠c.L∧a∉r:=by
 refine⟨fun z=>?_,S.notIn e t.1⟩
 refine Og.IK S.stat fun o' es ep e' q _=>?_
 subst z
 rw [e] at e';exists e'
 obtain⟨_,_,_,d⟩:=t
 rw [q] at d;exists d
theorem BU.tups(G:BU c W s r H H₁ s₁ r₁)(F:B5 c s r W)(S:SR c s r H):∀a o,s.heap.get? a=some o→AF o→s₁.heap.get? a=some o :=
 fun a o e t=>G.keep a o (S.notTup e t).1 (fun w=>F.nt a o w e t) e (S.notTup e t).2
theorem BU.vr(G:BU c W s r H H₁ s₁ r₁)(F:B5 c s r W)(S:SR c s r H){v:AV}{V:Value}(y:VR c.hs s.heap r v V):VR c.hs s₁.heap r₁ v V:=y.mono (G.tups F S) G.pre
theorem BU.vrs(G:BU c W s r H H₁ s₁ r₁)(F:B5 c s r W)(S:SR c s r H){v:List AV}{V:List Value}(y:AJ c.hs s.heap r v V):AJ c.hs s₁.heap r₁ v V:=y.mono (G.tups F S) G.pre
theorem BU.one(F:B5 c s r W)(S:SR c s r H){b:Addr}(w:W b){h':Heap}(k:∀a o,a≠c.L→a≠b→s.heap.get? a=some o→h'.get? a=some o)(hn:h'.Ns c.L c.mc)(t:Nat):BU c W s r H H { s with heap:=h',toks:=t } r:=by
 have ns:∀a,a∈r→a≠c.L:=fun a m z=>S.notStat (z▸m)
 have nb:∀a,a∈r→a≠b:=fun a m z=>F.nr b w (z▸m)
 have tp:∀a o,s.heap.get? a=some o→AF o→h'.get? a=some o:=fun a o e to=>k a o (S.notTup e to).1 (fun z=>F.nt a o (z▸w) e to) e
 refine⟨⟨fun a o z e=>k a o z (fun z=>?_) (S.keep a o z e),hn,S.len,fun i o e=>?_,S.nodup,S.fresh,S.gens,S.os⟩,List.prefix_refl r,fun a o z n e m=>k a o z (fun z=>n (z▸w)) e,fun _ m=>.inl m,fun i n es a e ea=>⟨n,es,e,Nat.le_refl _,fun _=>?_⟩⟩
 ·rw [z,F.hs b w] at e;exists e
 ·refine Og.BV (S.obj i o e) fun a ob e1 e2 e3=>?_
  have m:=List.mem_of_getElem? e1
  exact⟨a,ob,e1,k a ob (ns a m) (nb a m) e2,e3.mono tp (List.prefix_refl r)⟩
 ·have m:=List.mem_of_getElem? ea
  refine Og.FG (S.has m) fun _ _ ob _ _ q _=>?_
  show h'.get? a=s.heap.get? a
  rw [q];exact k a ob (ns a m) (nb a m) q
theorem BU.oneBut(F:B5 c s r W)(S:SR c s r H){b:Addr}(w:W b){h':Heap}(sb:Heap.SameBut b s.heap h')(t:Nat):BU c W s r H H { s with heap:=h',toks:=t } r :=
 BU.one F S w (fun a o _ z e=>(sb.2 a z).trans e) (S.stat.sameBut sb fun z=>F.notStat w z.symm) t
theorem FR.store{M:Model}{A:Around}{x:Nat}{v:AV}{V:Value}{Q:Unit→Shared→Prop}{E:Value→Shared→Prop}(F:FR c s r env σ)(S:SR c s r H)(y:VR c.hs s.heap r v V)(hA:c.isA x=false)
  (hk₀:env.kindOf (c.nm x)=some .local∨env.kindOf (c.nm x)=some .cell)
  (q:∀s',BU c (CC env) s r H H s' r→FR c s' r env ((x,v)::σ)→Q () s'):wpAny M A (storeName env (c.nm x) V) Q E s:=by
 have hk:env.kindOf (c.nm x)=some .local∨(env.kindOf (c.nm x)=some .cell∧(env.cells.lookup (c.nm x)).isSome=true):=hk₀.imp_right fun z=>⟨z,F.own _ (.inl z)⟩
 have other:∀z w,AG z ((x,v)::σ)=some w→(z=x∧w=v)∨(c.nm z≠c.nm x∧AG z σ=some w):=fun z w e=>by
  unfold AG at e
  by_cases hz:x=z
  ·subst hz;simp at e;exact .inl ⟨rfl,e.symm⟩
  ·rw [if_neg (by simpa using hz)] at e
   exact .inr ⟨fun q=>hz (c.inj _ _ ((F.plain z w e).trans hA.symm) q).symm,e⟩
 have plain:∀z w,AG z ((x,v)::σ)=some w→c.isA z=false:=fun z w e=>(other z w e).elim (fun q=>q.1▸hA) fun q=>F.plain z w q.2
 rcases hk with hl | ⟨hc,hs⟩
 ·refine Og.AI F.ns fun m n=>?_
  refine wpAny_storeName_local hl n (fun h' n' sb=>?_) (by rw [F.kind];rfl)
  have G:=BU.oneBut F.apartW S (.inl rfl) sb (s.toks+1)
  refine q _ G ⟨F.kind,F.globals,F.builtins,⟨_,n'⟩,fun z w e kn=>?_,fun n a e=>?_,F.apart,F.inj,F.notHs,F.notIn,plain,F.own⟩
  ·rcases other z w e with ⟨rfl,rfl⟩ | ⟨ne,e⟩
   ·exact⟨V,.inl ⟨hl,_,n',by simp⟩,G.vr F.apartW S y⟩
   ·refine Og.AB (F.vars z w e kn) fun V' nz yz=>?_
    refine⟨V',?_,G.vr F.apartW S yz⟩
    rcases nz with ⟨hl',m',n2,q2⟩ | ⟨hc',a,l,i⟩
    ·refine .inl ⟨hl',_,n',?_⟩
     rw [if_neg ne,ZR n n2];exact q2
    ·exact .inr ⟨hc',a,l,BO i fun o e=>(sb.2 a fun z=>F.apart _ (z▸l)).trans e⟩
  ·refine Og.AI (F.cells n a e) fun v i=>?_
   exact⟨v,BO i fun o e'=>(sb.2 a fun z=>F.apart _ (z▸e)).trans e'⟩
 ·refine Og.AI (Option.isSome_iff_exists.mp hs) fun a l=>?_
  refine Og.AI (F.cells _ a l) fun v₀ i=>?_
  refine wpAny_storeName_cell F.kind hc l i fun h' i' sb=>?_
  have G:=BU.oneBut F.apartW S (.inr ⟨_,l⟩) sb s.toks
  have nl:env.locals≠a:=fun z=>F.apart _ (z▸l)
  refine q _ G ⟨F.kind,F.globals,F.builtins,?_,fun z w e kn=>?_,fun n b e=>?_,F.apart,F.inj,F.notHs,F.notIn,plain,F.own⟩
  ·refine Og.AI F.ns fun m n=>?_
   exact⟨m,CY n fun o e=>(sb.2 _ nl).trans e⟩
  ·rcases other z w e with ⟨rfl,rfl⟩ | ⟨ne,e⟩
   ·exact⟨V,.inr ⟨.inl hc,a,l,i'⟩,G.vr F.apartW S y⟩
   ·refine Og.AB (F.vars z w e kn) fun V' nz yz=>?_
    refine⟨V',?_,G.vr F.apartW S yz⟩
    rcases nz with ⟨hl',m',n2,q2⟩ | ⟨hc',b,lb,ib⟩
    ·exact .inl ⟨hl',m',CY n2 fun o e=>(sb.2 _ nl).trans e,q2⟩
    ·exact .inr ⟨hc',b,lb,BO ib fun o e=>(sb.2 b fun z=>ne (F.inj _ _ _ (z▸lb) l)).trans e⟩
  ·by_cases z:b=a
   ·subst z;exact⟨_,i'⟩
   ·refine Og.AI (F.cells n b e) fun v ib=>?_
    exact⟨v,BO ib fun o e'=>(sb.2 b z).trans e'⟩
theorem FR.gof(F:FR c s r env σ)(S:SR c s r H)(G:BU c W s r H H₁ s₁ r₁)(W':B5 c s r W)(nw:∀a,CC env a→¬W a):FR c s₁ r₁ env σ:=by
 have k:∀a o,CC env a→s.heap.get? a=some o→s₁.heap.get? a=some o:=fun a o w e=>G.keep a o (F.notStat w) (nw a w) e (F.notIn a w)
 refine⟨F.kind,F.globals,F.builtins,?_,fun x v e kn=>?_,fun n a e=>?_,F.apart,F.inj,F.notHs,fun a w m=>?_,F.plain,F.own⟩
 ·refine Og.AI F.ns fun m n=>?_;exact⟨m,CY n fun o=>k _ o (.inl rfl)⟩
 ·refine Og.AB (F.vars x v e kn) fun V n y=>?_;exact⟨V,n.keep k,G.vr W' S y⟩
 ·refine Og.AI (F.cells n a e) fun v i=>?_;exact⟨v,BO i fun o=>k _ o (.inr ⟨_,e⟩)⟩
 ·rcases G.new a m with q | q
  ·exact F.notIn a w q
  ·refine Og.AI (F.has w) fun ob e=>?_;rw [e] at q;exists q
theorem FR.sub{σ':Env'}(F:FR c s r env σ)(h:∀z u,AG z σ'=some u→c.isA z=false∧(IU env (c.nm z)→AG z σ=some u)):FR c s r env σ' :=
 ⟨F.kind,F.globals,F.builtins,F.ns,fun x v e kn=>F.vars x v ((h x v e).2 kn) kn,F.cells,F.apart,F.inj,F.notHs,F.notIn,fun x v e=>(h x v e).1,F.own⟩
theorem DF{h:Heap}{a:Addr}{m:Str→Option Value}{o:Obj}(x:h.Ns a m)(e:h.get? a=some o):¬AF o:=fun t=>by
 obtain⟨_,_,_,d⟩:=t
 refine Og.IK x fun o' _ _ e' q _=>?_;clear x
 rw [e] at e';exists e';rw [d] at q;exists q
theorem BU.loose(G:BU c W s r H H₁ s₁ r₁)(hW:∀a,W a→c.hs.get? a=none∧a∉r₁∧∀o,s₁.heap.get? a=some o→¬AF o){C:Addr}(f:s.heap.get? C=none)(hs:c.hs.get? C=none)(nr:C∉r₁)(nt:∀o,s₁.heap.get? C=some o→¬AF o)
  {h':Heap} (sb:Heap.SameBut C s₁.heap h'):BU c W s r H H₁ { s₁ with heap:=h' } r₁:=by
 have A1:B5 c s₁ r₁ (fun a=>W a∨a=C):=⟨fun a w=>w.elim (fun w=>(hW a w).1) (fun z=>z▸hs),fun a w=>w.elim (fun w=>(hW a w).2.1) (fun z=>z▸nr),fun a o w e=>w.elim (fun w=>(hW a w).2.2 o e) (fun z=>nt o (z▸e))⟩
 have G2:=BU.oneBut A1 G.sr (b:=C) (.inr rfl) sb s₁.toks
 exact((G.widen (W':=fun a=>W a∨a=C) fun a w=>.inl w).trans G2 fun a w=>A1.nr a w).drop fun a w=>w.elim .inl fun z=>.inr (z▸f)
end
end Og
end
section
set_option backward.match.sparseCases false
open PySem PySem.W PySem.Calls PyProof.Rows PySem.SeqAt
namespace Og
noncomputable def oF(c:Cx)(s:Shared)(r:List Addr)(H:AH)(j:Nat)(P:Value→List Addr→Prop)(src:DV):Prop:=match src with
 | .tup l=>∀I ax (items:Array Value),s.heap.IsTupleIter I ax j→IsTup s.heap ax items→AJ c.hs s.heap r l items.toList→P (.ref I) [I]
 | .str l=>∀I ty t,(ty="str_ascii_iterator"∨ty="str_iterator")→j≤l.length→s.heap.IsStrIter I ty ⟨l.toArray⟩ t j→P (.ref I) [I]
 | .lst o=>∀I ax,s.heap.IsListIter I ax j→r[o]?=some ax→P (.ref I) [I]
 | .range n=>∀I,IsRangeIter s.heap I j ((n:Int)-j) 1→P (.ref I) [I]
 | .enum l=>∀e it ty t old,(ty="str_ascii_iterator"∨ty="str_iterator")→j≤l.length→e≠it→IsEnum s.heap e it j old→s.heap.IsStrIter it ty ⟨l.toArray⟩ t j→P (.ref e) [e,it]
 | .dct o n=>∀I d (kvs:List (Str×Value)) ep,s.heap.IsKeyIter I d j kvs.length ep→r[o]?=some d→(∃m es,H[o]?=some (.sdict m es)∧n≤m)→(∀es,H[o]?=some (.sdict n es)→s.heap.DictAt (strKind c.prog c.w) d kvs ep)→P (.ref I) [I]
 | .nil=>True
noncomputable def It(c:Cx)(s:Shared)(r:List Addr)(H:AH)(src:DV)(j:Nat)(itv:Value)(w:List Addr):Prop:=∀P:Value→List Addr→Prop,oF c s r H j P src→P itv w
section
variable{c:Cx}{s:Shared}{r:List Addr}{H:AH}{src:DV}{j:Nat}{itv:Value}{w:List Addr}
@[elab_as_elim] theorem It.elim(x:It c s r H src j itv w){P:Value→List Addr→Prop}(u:oF c s r H j P src):P itv w:=x P u
theorem It.tup{l:List AV}{I ax:Addr}{items:Array Value}(a:s.heap.IsTupleIter I ax j)(b:IsTup s.heap ax items)(d:AJ c.hs s.heap r l items.toList):It c s r H (.tup l) j (.ref I) [I]:=fun _ u=>u I ax items a b d
theorem It.str{l:List Nat}{I:Addr}{ty:String}{t:Tok}(a:ty="str_ascii_iterator"∨ty="str_iterator")(b:j≤l.length)(d:s.heap.IsStrIter I ty ⟨l.toArray⟩ t j):It c s r H (.str l) j (.ref I) [I]:=fun _ u=>u I ty t a b d
theorem It.lst{o:Nat}{I ax:Addr}(a:s.heap.IsListIter I ax j)(b:r[o]?=some ax):It c s r H (.lst o) j (.ref I) [I]:=fun _ u=>u I ax a b
theorem It.range{n:Nat}{I:Addr}(a:IsRangeIter s.heap I j ((n:Int)-j) 1):It c s r H (.range n) j (.ref I) [I]:=fun _ u=>u I a
theorem It.enum{l:List Nat}{e it:Addr}{ty:String}{t:Tok}{old:Value}(a:ty="str_ascii_iterator"∨ty="str_iterator")(b:j≤l.length)(d:e≠it)(f:IsEnum s.heap e it j old)(g:s.heap.IsStrIter it ty ⟨l.toArray⟩ t j):It c s r H (.enum l) j (.ref e) [e,it]:=fun _ u=>u e it ty t old a b d f g
theorem It.dct{o n:Nat}{I d:Addr}{kvs:List (Str×Value)}{ep:Nat}(a:s.heap.IsKeyIter I d j kvs.length ep)(b:r[o]?=some d)(f:∃m es,H[o]?=some (.sdict m es)∧n≤m)(g:∀es,H[o]?=some (.sdict n es)→s.heap.DictAt (strKind c.prog c.w) d kvs ep):It c s r H (.dct o n) j (.ref I) [I]:=fun _ u=>u I d kvs ep a b f g
noncomputable def RF(n:String):Bool:=["tuple_iterator","str_ascii_iterator","str_iterator","list_iterator","range_iterator","enumerate","dict_keyiterator"].contains n
theorem UP{ty:String}(h:ty="str_ascii_iterator"∨ty="str_iterator"):RF ty=true:=by rcases h with rfl | rfl<;>decide
theorem ID{I:Addr}{Q:Addr→Prop}(h:Q I):∀a∈[I],Q a:=fun a m=>List.mem_singleton.mp m▸h
theorem It.obj(x:It c s r H src j itv w):∀a∈w,∃o n,s.heap.get? a=some o∧o.cls=.type n∧RF n=true:=by
 refine x.elim (P:=fun _ w=>∀a∈w,∃o n,s.heap.get? a=some o∧o.cls=.type n∧RF n=true) ?_
 induction src using Og.DV.casesOn with
 | tup l=>exact fun I ax items i _ _=>ID (i.imp fun o h=>⟨_,h.1,h.2.1,by decide⟩)
 | str l=>exact fun I ty t hty _ i=>ID (i.imp fun o h=>⟨_,h.1,h.2.1,UP hty⟩)
 | lst o=>exact fun I ax i _=>ID (i.imp fun o h=>⟨_,h.1,h.2.1,by decide⟩)
 | range n=>exact fun I i=>ID ⟨_,_,i,rfl,by decide⟩
 | enum l=>exact fun e it ty t old hty _ _ ie st a m=>(List.mem_cons.mp m).elim (fun z=>z▸⟨_,_,ie,rfl,by decide⟩) fun m=>ID (Q:=fun a=>∃o n,s.heap.get? a=some o∧o.cls=.type n∧RF n=true) (st.imp fun o h=>⟨_,h.1,h.2.1,UP hty⟩) a m
 | dct o n=>exact fun I d kvs ep i _ _ _=>ID (i.imp fun o h=>⟨_,h.1,h.2.1,by decide⟩)
 | nil=>exact trivial
theorem It.has(x:It c s r H src j itv w):∀a∈w,∃o,s.heap.get? a=some o:=fun a m=>(x.obj a m).imp fun _ h=>h.elim fun _ h=>h.1
end
theorem XJ{prog:Program}{w:World}{K:Type}[DecidableEq K]{knd:KeyKind prog w K}{es:List DictEntry}{k k':List (K×Value)}(x:Pairs knd es k)(y:Pairs knd es k'):k=k':=by
 induction x generalizing k' with
 | nil=>cases y;rfl
 | @cons e kv es kvs h1 h2 _ ih =>
  cases y with
  | @cons _ kv' _ _ h1' h2' y'=>exact congr (congrArg List.cons (Prod.ext (knd.inj _ _ _ h1 h1') (h2.symm.trans h2'))) (ih y')
theorem GX.length{hs h:Heap}{r:List Addr}{l:List (List Nat×AV)}{L:List (Str×Value)}(x:GX hs h r l L):l.length=L.length:=by
 induction x with
 | nil=>rfl
 | cons _ _ ih=>exact congrArg (·+1) ih
theorem GX.at{hs h:Heap}{r:List Addr}{l:List (List Nat×AV)}{L:List (Str×Value)}(x:GX hs h r l L){j:Nat}{p:List Nat×AV}(e:l[j]?=some p):∃X,L[j]?=some (⟨p.1.toArray⟩,X):=by
 induction x generalizing j with
 | nil=>exact AU e
 | cons _ _ ih=>induction j using Nat.casesOn with
  | zero=>exact Option.some.inj e▸⟨_,rfl⟩
  | succ j=>exact ih (j:=j) e
theorem gM(prog:Program)(w:World)(A:Around)(hh:A.handled=none)(I:Addr)(x:Str)(t:Tok){ty:String}(h:ty="str_ascii_iterator"∨ty="str_iterator"):
  Walks prog w A I [I] [I] x.cps.size (SignAt x) (fun i h=>h.IsStrIter I ty x t i):=by
 rcases h with rfl | rfl
 ·exact Walks.strAscii hh I x t
 ·exact Walks.strWide hh I x t
section
variable{c:Cx}{s s':Shared}{r r':List Addr}{H H':AH}{W:Addr→Prop}{src:DV}{j:Nat}{itv:Value}{w:List Addr}
theorem It.carry(x:It c s r H src j itv w)(k:∀I∈w,∀o,s.heap.get? I=some o→s'.heap.get? I=some o)(tp:∀a o,s.heap.get? a=some o→AF o→s'.heap.get? a=some o)(hv:∀l,src=.tup l→∀L,AJ c.hs s.heap r l L→AJ c.hs s'.heap r' l L)
  (hr:∀o a,src=.lst o∨(∃n,src=.dct o n)→r[o]?=some a→r'[o]?=some a) (hs:∀o n,src=.dct o n→∀m es a,H[o]?=some (.sdict m es)→r[o]?=some a→∃m' es',H'[o]?=some (.sdict m' es')∧m≤m'∧(m'=m→s'.heap.get? a=s.heap.get? a)):It c s' r' H' src j itv w:=by
 revert k
 refine x.elim (P:=fun itv w=>(∀I∈w,∀o,s.heap.get? I=some o→s'.heap.get? I=some o)→It c s' r' H' src j itv w) ?_
 induction src using Og.DV.casesOn with
 | tup l=>exact fun I ax items i t y k=>.tup (i.imp fun o h=>⟨k I (.head _) o h.1,h.2⟩) (FT t fun o e q=>tp _ o e q) (hv l rfl _ y)
 | str l=>exact fun I ty t hty hl i k=>.str hty hl (i.imp fun o h=>⟨k I (.head _) o h.1,h.2⟩)
 | lst o=>exact fun I ax i e k=>.lst (i.imp fun o h=>⟨k I (.head _) o h.1,h.2⟩) (hr o ax (.inl rfl) e)
 | range n=>exact fun I i k=>.range (k I (.head _) _ i)
 | enum l=>exact fun e it ty t old hty hl hne ie st k=>.enum hty hl hne (k e (.head _) _ ie) (st.imp fun o h=>⟨k it (.tail _ (.head _)) o h.1,h.2⟩)
 | dct o n =>
  intro I d kvs ep i ed hm hd k
  refine Og.ER hm fun m es eh le=>?_;clear hm
  refine Og.BV (hs o n rfl m es d eh ed) fun m' es' eh' le' same=>?_
  refine .dct (i.imp fun o h=>⟨k I (.head _) o h.1,h.2⟩) (hr o d (.inr ⟨n,rfl⟩) ed) ⟨m',es',eh',Nat.le_trans le le'⟩ fun es2 e2=>?_
  have em:=Option.some.inj (eh'.symm.trans e2)
  injection em with e1 e3
  exists Nat.le_antisymm (e1▸le') le
  refine Og.ER (hd es eh) fun o2 es3 e6 q=>?_
  exact⟨o2,es3,(same e1).trans e6,q⟩
 | nil=>exact trivial
theorem It.keep(x:It c s r H src j itv w)(S:SR c s r H)(F:B5 c s r W)(G:BU c W s r H H' s' r')(nw:∀a∈w,¬W a∧a∉r∧a≠c.L):It c s' r' H' src j itv w :=
 x.carry (fun I m o e=>G.keep I o (nw I m).2.2 (nw I m).1 e (nw I m).2.1) (fun a o e q=>G.tups F S a o e q) (fun _ _ _ y=>G.vrs F S y) (fun _ _ _ e=>M4 G.pre e) fun o n _ m es a eh ed=>G.stamp _ _ _ _ eh ed
theorem L2(F:B5 c s r W)(S:SR c s r H){I:Addr}(w:W I){h':Heap}(k:∀b o,b∉[I]→s.heap.get? b=some o→h'.get? b=some o)(t:Nat):BU c W s r H H { s with heap:=h',toks:=t } r :=
 BU.one F S w (fun a o _ z e=>k a o (by simpa using z) e) (CY S.stat fun o e=>k _ o (by simpa using (F.notStat w).symm) e) t
theorem gN(prog:Program)(w:World)(A:Around)(hh:A.handled=none)(I:Addr)(x:Str)(t:Tok){ty:String}(h:ty="str_ascii_iterator"∨ty="str_iterator"):
  Draws prog w A I [I] x.cps.size (fun i v=>∃c u,x.cps[i]?=some c∧v=.str ⟨#[c]⟩ u) (fun i h=>h.IsStrIter I ty x t i):=by
 rcases h with rfl | rfl
 ·exact Draws.strAscii hh I x t
 ·exact Draws.strWide hh I x t
theorem RG(F:B5 c s r W)(S:SR c s r H){I J:Addr}(w:W I)(w2:W J){h':Heap}(k:∀b o,b∉[I,J]→s.heap.get? b=some o→h'.get? b=some o)(t:Nat):BU c W s r H H { s with heap:=h',toks:=t } r:=by
 have ns:∀a,a∈r→a≠c.L:=fun a m z=>S.notStat (z▸m)
 have nb:∀a,a∈r→a∉[I,J]:=fun a m z=>by
  simp at z
  rcases z with rfl | rfl
  ·exact F.nr _ w m
  ·exact F.nr _ w2 m
 have hW:∀a,a∈[I,J]→W a:=fun a m=>by
  simp at m
  rcases m with rfl | rfl
  ·exact w
  ·exact w2
 have tp:∀a o,s.heap.get? a=some o→AF o→h'.get? a=some o:=fun a o e to=>k a o (fun z=>F.nt a o (hW a z) e to) e
 have hn:h'.Ns c.L c.mc:=CY S.stat fun o e=>k _ o (fun z=>F.notStat (hW _ z) rfl) e
 refine⟨⟨fun a o z e=>k a o (fun z=>?_) (S.keep a o z e),hn,S.len,fun i o e=>?_,S.nodup,S.fresh,S.gens,S.os⟩,List.prefix_refl r,fun a o z n e m=>k a o (fun z=>n (hW a z)) e,fun _ m=>.inl m,fun i n es a e ea=>⟨n,es,e,Nat.le_refl _,fun _=>?_⟩⟩
 ·have:=F.hs a (hW a z)
  rw [this] at e;exists e
 ·refine Og.BV (S.obj i o e) fun a ob e1 e2 e3=>?_
  have m:=List.mem_of_getElem? e1
  exact⟨a,ob,e1,k a ob (nb a m) e2,e3.mono tp (List.prefix_refl r)⟩
 ·have m:=List.mem_of_getElem? ea
  refine Og.FG (S.has m) fun _ _ ob _ _ q _=>?_
  show h'.get? a=s.heap.get? a
  rw [q];exact k a ob (nb a m) q
noncomputable def NP:List String:=["enumerate","zip","dict_itemiterator","dict_reverseitemiterator","odict_iterator","itertools.zip_longest","itertools.pairwise"]
theorem lI{M:Model}{A:Around}{E:Value→Shared→Prop}{Q:Unit→Shared→Prop}{tg:Expr}{I:Addr}{V:Value}{o:Obj}{n:String}(e:s.heap.get? I=some o)(hc:o.cls=.type n)(hn:NP.contains n=false)(q:Q () s):
  wpAny M A (letOwnedTupleGo tg (.ref I) V) Q E s:=by
 have key:∀(a:Addr) es k p,wpAny M A (letOwnedTupleGo (.Tuple es k p) (.ref I) (.ref a)) Q E s:=fun a es k p=>by
  refine wpAny_bind (wpAny_load e ?_)
  obtain⟨c,di,da,sl⟩:=o
  dsimp only at hc;subst hc
  induction da using Data.casesOn with
  | fields vs =>
   show wpAny M A (if(NP.contains n&&vs[0]?==some (rawInt a))=true then _ else _) Q E s
   rw [hn]
   exact wpAny_pure q
  | _=>exact wpAny_pure q
 induction tg using Expr.casesOn with
 | Tuple es k p=>induction V using Value.casesOn with
  | ref a=>exact key a es k p
  | _=>exact wpAny_pure q
 | List es p=>induction V using Value.casesOn with
  | ref a=>exact key a es 0 p
  | _=>exact wpAny_pure q
 | _=>exact wpAny_pure q
noncomputable def DN:DV→Bool
 | .enum _=>true
 | _=>false
noncomputable def K5(c:Cx)(W:Addr→Prop)(A:Around)(s:Shared)(r:List Addr)(H:AH)(s':Shared)(src:DV)(j:Nat)(itv:Value)(w:List Addr):Option AV→Option Value→Prop
 | none,none=>BU c W s r H H s' r
 | some v,some V=>BU c W s r H H s' r∧∀(tg:Expr) (Q:Unit→Shared→Prop) (E:Value→Shared→Prop),(DN src=true→∃es k p,tg=.Tuple es k p) →
  (∀s'',BU c W s r H H s'' r→VR c.hs s''.heap r v V→It c s'' r H src (j+1) itv w→Q () s'')→wpAny (model c.prog c.w) A (letOwnedTupleGo tg itv V) Q E s'
 | _,_=>False
theorem K5.skip{A:Around}{v:AV}{V:Value}{I:Addr}{o:Obj}{n:String}(G:BU c W s r H H s' r)(y:VR c.hs s'.heap r v V)(x:It c s' r H src (j+1) (.ref I) w)(e:s'.heap.get? I=some o)(hc:o.cls=.type n)(hn:NP.contains n=false):
 K5 c W A s r H s' src j (.ref I) w (some v) (some V):=⟨G,fun _ _ _ _ q=>lI e hc hn (q s' G y x)⟩
theorem AJ.none{hs h:Heap}{r:List Addr}{l:List AV}{items:Array Value}(y:AJ hs h r l items.toList){j:Nat}(e:l[j]?=none):items[j]?=none:=by
 exact Array.getElem?_eq_none (by rw [←Array.length_toList,←y.length];exact List.getElem?_eq_none_iff.mp e)
theorem AJ.some{hs h:Heap}{r:List Addr}{l:List AV}{items:Array Value}(y:AJ hs h r l items.toList){j:Nat}{v:AV}(e:l[j]?=some v):∃V,items[j]?=some V∧VR hs h r v V:=by
 refine Og.AB (y.get e) fun V e2 yv=>?_
 exact⟨V,by rw [←Array.getElem?_toList];exact e2,yv⟩
noncomputable def JF(c:Cx)(A:Around)(s:Shared)(r:List Addr)(H:AH)(W:Addr→Prop)(src:DV)(j:Nat)(ov:Option AV)(itv:Value)(w:List Addr):Prop :=
 ∀(E:Value→Shared→Prop) (Q:Option Value→Shared→Prop),(∀a∈w,W a)→(∀V s',K5 c W A s r H s' src j itv w ov V→Q V s')→wpAny (model c.prog c.w) A (pyNext itv) Q E s
section
variable{A:Around}{ov:Option AV}(S:SR c s r H)(F:B5 c s r W)(hh:A.handled=none)
include S F hh
theorem gO{l:List AV}(e:l[j]?=ov):oF c s r H j (JF c A s r H W (.tup l) j ov) (.tup l):=by
 intro I ax items i t y E Q hw q
 have hI:W I:=hw I (.head _)
 induction ov using Option.casesOn with
 | none=>exact wpAny_pyNext_tuple_end hh i t (y.none e) fun h' sb=>q none _ (L2 F S hI (fun b o m e=>sb b o (fun z=>m (z▸.head _)) e) s.toks)
 | some v =>
  refine Og.AB (y.some e) fun V e2 yv=>?_
  refine wpAny_pyNext_tuple_item i t (x:=V) e2 fun h' i' sb=>?_
  have G:=BU.oneBut F S hI sb s.toks
  refine Og.H8 i' fun o eo co d=>?_
  exact q (some V) _ (K5.skip G (G.vr F S yv) (.tup ⟨o,eo,co,d⟩ (FT t fun o e q=>G.tups F S _ o e q) (G.vrs F S y)) eo co (by decide))
theorem gP{l:List Nat}(e:(l[j]?.map fun c=>AV.str [c])=ov):oF c s r H j (JF c A s r H W (.str l) j ov) (.str l):=by
 intro I ty t hty hj st E Q hw q
 have hI:W I:=hw I (.head _)
 have Wk:=gM c.prog c.w A hh I ⟨l.toArray⟩ t hty
 refine Og.WJ (l[j]?) (fun q1=>?_) fun n q1=>?_
 ·
  rw [q1] at e
  exists e
  exists Nat.le_antisymm hj (List.getElem?_eq_none_iff.mp q1)
  exact Wk.done _ _ _ st fun h' tk k=>q none _ (L2 F S hI k tk)
 ·
  rw [q1] at e
  exists e
  have lt:j<l.length:=(List.getElem?_eq_some_iff.mp q1).1
  refine Wk.item _ _ _ _ lt st fun V h' tk sg st' k=>?_
  refine Og.ER sg fun m u e2 hr1=>?_;clear sg;subst hr1
  exists (Option.some.inj (q1.symm.trans ((List.getElem?_toArray ..).symm.trans e2)))
  refine Og.H8 st' fun o eo co d=>?_
  exact q (some _) _ (K5.skip (L2 F S hI k tk) (.str _ _) (.str hty lt ⟨o,eo,co,d⟩) eo co (by rcases hty with rfl | rfl<;>decide))
theorem gQ{o:Nat}(e:(D9 H o).map (fun l=>l[j]?)=some ov):oF c s r H j (JF c A s r H W (.lst o) j ov) (.lst o):=by
 intro I ax i ea E Q hw q
 have hI:W I:=hw I (.head _)
 refine A8 e ?_
 clear e
 intro l el e
 obtain⟨ob,eo,vs,n,rfl,y⟩:=S.at (BD el) ea
 have hl:s.heap.IsList ax vs:=⟨_,eo,rfl,n,rfl⟩
 induction ov using Option.casesOn with
 | none=>exact wpAny_pyNext_list_end hh i hl (y.none e) fun h' sb=>q none _ (L2 F S hI (fun b o m e=>sb b o (fun z=>m (z▸.head _)) e) s.toks)
 | some v =>
  refine Og.AB (y.some e) fun V e2 yv=>?_
  refine wpAny_pyNext_list_item i hl (x:=V) e2 fun h' i' sb=>?_
  have G:=BU.oneBut F S hI sb s.toks
  refine Og.H8 i' fun o eo co d=>?_
  exact q (some V) _ (K5.skip G (G.vr F S yv) (.lst ⟨o,eo,co,d⟩ ea) eo co (by decide))
theorem XL{n:Nat}(e:(if j<n then some (AV.int j) else none)=ov):oF c s r H j (JF c A s r H W (.range n) j ov) (.range n):=by
 intro I i E Q hw q
 have hI:W I:=hw I (.head _)
 by_cases lt:j<n
 ·rw [if_pos lt] at e
  exists e
  refine wpAny_pyNext_range_item i (Int.sub_pos_of_lt (Int.ofNat_lt.mpr lt)) fun h' i' sb=>?_
  have G:=BU.oneBut F S hI sb (s.toks+1)
  refine q (some _) _ (K5.skip G (.int _ _) (.range ?_) i' rfl (by decide))
  rw [show(n:Int)-((j+1:Nat):Int)=(n:Int)-j-1 from Int.sub_sub ..▸rfl];exact i'
 ·rw [if_neg lt] at e
  exists e
  exact wpAny_pyNext_range_end hh i (Int.sub_nonpos_of_le (Int.ofNat_le.mpr (Nat.le_of_not_lt lt))) fun h' sb=>q none _ (L2 F S hI (fun b o m e=>sb b o (fun z=>m (z▸.head _)) e) s.toks)
theorem bZ{l:List Nat}(e:(l[j]?.map fun c=>AV.tup [.int j,.str [c]])=ov):oF c s r H j (JF c A s r H W (.enum l) j ov) (.enum l):=by
 intro I it ty t old hty hj hne ie st E Q hw q
 have hI:W I:=hw I (.head _)
 have hit:W it:=hw it (.tail _ (.head _))
 have Wk:=WalksT.enumerateD (gN c.prog c.w A.in1 hh it ⟨l.toArray⟩ t hty) I hne (fun m=>hne (List.mem_singleton.mp m)) (.head _)
 refine Og.WJ (l[j]?) (fun q1=>?_) fun n q1=>?_
 ·
  rw [q1] at e
  exists e
  exists Nat.le_antisymm hj (List.getElem?_eq_none_iff.mp q1)
  exact Wk.done _ _ _ ⟨⟨old,ie⟩,st⟩ fun h' tk k=>q none _ (RG F S hI hit k tk)
 ·
  rw [q1] at e
  exists e
  have lt:j<l.length:=(List.getElem?_eq_some_iff.mp q1).1
  refine Wk.item _ _ _ _ lt ⟨⟨old,ie⟩,st⟩ fun T vals h' tk sg sz tu mid k=>?_
  obtain⟨t1,x,⟨m,u,e2,rfl⟩,rfl⟩:=sg
  exists (Option.some.inj (q1.symm.trans ((List.getElem?_toArray ..).symm.trans e2)))
  refine q (some _) _ ⟨RG F S hI hit k tk,fun tg Q' E' ht q'=>?_⟩
  refine Og.dQ (ht rfl) fun es kk pp hr1=>?_;subst hr1
  obtain⟨⟨x',io⟩,⟨os,eos,zs⟩,nT1,nT2⟩:=mid
  refine wpAny_letOwnedTupleGo_enum (i:=(j:Int)+1) io fun h2 ie2 sb2=>?_
  have G2:BU c W s r H H { s with heap:=h2,toks:=tk } r:=RG F S hI hit (fun b o hb e=>(sb2.2 b (fun z=>hb (z▸.head _))).trans (k b o hb e)) tk
  refine Og.AB tu fun o eo z=>?_;clear tu
  have tu2:IsTup h2 T #[.int j t1,.str ⟨#[n]⟩ u]:=⟨o,(sb2.2 T nT1).trans eo,z⟩
  exact q' _ G2 (.tup tu2 (.cons (.int _ _) (.cons (.str _ _) .nil))) (.enum (old:=x') (t:=t) hty lt hne (by exact_mod_cast ie2) ⟨os,(sb2.2 it (Ne.symm hne)).trans eos,zs⟩)
theorem gR{o n:Nat}(e:((H[o]?).bind (sdN n)).map (fun es=>es[j]?.map fun e=>AV.str e.1)=some ov):oF c s r H j (JF c A s r H W (.dct o n) j ov) (.dct o n):=by
 intro I d kvs ep i ed hm hd E Q hw q
 have hI:W I:=hw I (.head _)
 refine A8 e ?_
 clear e
 intro es h e
 refine A3 h ?_
 clear h
 intro ob eh h
 cases ob with
 | sdict m es1 =>
  replace h:=DI h
  cases eq_of_beq h.1
  cases h.2
  clear hm h
  have D:=hd es eh
  obtain⟨ob,eo,kvs',D',y⟩:=S.at eh ed
  have same:kvs=kvs':=by
   refine Og.sU D fun o2 es2 e2 _ d2 _ p2 _=>?_;clear D
   refine Og.p8 D' fun es3 ep3 _ d3 _ p3 _=>?_
   cases eo.symm.trans e2
   cases d2.symm.trans d3
   exact XJ p2 p3
  cases same
  clear D'
  refine Og.WJ (es[j]?) (fun q1=>?_) fun p q1=>?_
  ·
   rw [q1] at e
   cases e
   exact wpAny_pyNext_dict_end hh i D (List.getElem?_eq_none_iff.mpr (y.length▸List.getElem?_eq_none_iff.mp q1)) fun h' sb=>q none _ (L2 F S hI (fun b o m e=>sb b o (fun z=>m (z▸.head _)) e) s.toks)
  ·
   rw [q1] at e
   cases e
   refine Og.AI (y.at q1) fun X e2=>?_
   refine wpAny_pyNext_dict_item i D e2 fun key h' hk i' sb=>?_
   refine Og.AI (Value.isStrOf_shape hk) fun t hr1=>?_;subst hr1
   have G:=BU.oneBut F S hI sb s.toks
   refine Og.H8 i' fun oi ei ci di=>?_
   refine q (some _) _ (K5.skip G (.str _ _) (.dct ⟨oi,ei,ci,di⟩ ed ⟨_,es,eh,Nat.le_refl _⟩ fun es' e3=>?_) ei ci (by decide))
   refine Og.ER (hd es' e3) fun o2 es2 e2 z=>?_
   exact⟨o2,es2,(sb.2 d fun z=>F.nr I hI (z▸List.mem_of_getElem? ed)).trans e2,z⟩
 | _=>exact AU h
end
theorem It.next{A:Around}{E:Value→Shared→Prop}{Q:Option Value→Shared→Prop}(x:It c s r H src j itv w)(S:SR c s r H)(F:B5 c s r W)(hw:∀a∈w,W a)(hh:A.handled=none){ov:Option AV}(e:HA H j src=some ov)
  (q:∀V s',K5 c W A s r H s' src j itv w ov V→Q V s'):wpAny (model c.prog c.w) A (pyNext itv) Q E s:=by
 refine x.elim (P:=JF c A s r H W src j ov) ?_ E Q hw q
 induction src using Og.DV.casesOn with
 | tup l=>exact gO S F hh (Option.some.inj e)
 | str l=>exact gP S F hh (Option.some.inj e)
 | lst o=>exact gQ S F hh e
 | range n=>exact XL S F hh (Option.some.inj e)
 | enum l=>exact bZ S F hh (Option.some.inj e)
 | dct o n=>exact gR S F hh e
 | nil=>exact trivial
theorem FL(S:SR c s r H){a:Addr}(e:s.heap.get? a=none):c.hs.get? a=none∧a∉r:=by
 refine⟨?_,fun m=>?_⟩
 ·cases q:c.hs.get? a with
  | none=>rfl
  | some o =>
   have z:a≠c.L:=fun z=>by
    refine Og.ES S.stat fun o' _ _ e' _=>?_
    rw [z,e'] at e;exists e
   rw [S.keep a o z q] at e;exists e
 ·refine Og.FG (S.has m) fun _ _ ob _ _ q _=>?_
  rw [e] at q;exists q
theorem qB{o:Obj}{n:String}(t:AF o)(cl:o.cls=.type n)(h:n≠"tuple"):False:=h (Value.type.inj (cl.symm.trans t.1))
theorem It.nt(x:It c s r H src j itv w):∀a∈w,∀o,s.heap.get? a=some o→¬AF o:=fun a m o e t=>by
 refine Og.BV (x.obj a m) fun o' n e' cl k=>?_
 exists e.symm.trans e'
 exact qB t cl fun z=>by rw [z] at k;exact absurd k (by decide)
theorem HS(x:Str):strIterType x="str_ascii_iterator"∨strIterType x="str_iterator":=by
 show(if _ then _ else _)=_∨(if _ then _ else _)=_
 exact(Decidable.em _).imp (fun h=>if_pos h) fun h=>if_neg h
set_option tactic.hygienic true in
theorem It.start{A:Around}{E:Value→Shared→Prop}{Q:Value→Shared→Prop}(S:SR c s r H){v:AV}{V:Value}(y:VR c.hs s.heap r v V)(e:TJ H v=some src)
  (q:∀itv w s',Go c s r H H s' r→It c s' r H src 0 itv w→(∀a∈w,s.heap.get? a=none)→Q itv s'):wpAny (model c.prog c.w) A (pyIter V) Q E s:=by
 exists v
 case tup l =>
  exists e
  refine VR.eTup y fun a vs t z=>?_
  have t':s.heap.IsTuple a vs:=t
  refine wpAny_pyIter_tuple t' ?_
  have G:=Go.push S { cls:=.type "tuple_iterator",data:=.fields #[.ref a,.int 0 0] } s.toks
  exact q _ [s.heap.objs.size] _ G (.tup ⟨_,Heap.get?_push_size _ rfl,rfl,rfl⟩ (FT t fun o e _=>Heap.get?_push_of_some _ e) (G.vrs S z)) (fun a m=>by simp at m;subst m;exact CE _)
 case str l =>
  exists e
  refine VR.eStr y fun t=>?_
  refine wpAny_pyIter_strU ?_
  have G:=Go.push S { cls:=.type (strIterType ⟨l.toArray⟩),data:=.fields #[.str ⟨l.toArray⟩ t,.int 0 0] } s.toks
  exact q _ [s.heap.objs.size] _ G (.str (HS _) (Nat.zero_le _) ⟨_,Heap.get?_push_size _ rfl,rfl,rfl⟩) (fun a m=>by simp at m;subst m;exact CE _)
 case ref o =>
  refine A3 e ?_
  clear e
  intro ob el e
  exists ob
  case list l =>
   exists e
   refine VR.eRef y fun a ea=>?_
   obtain⟨ob,eo,vs,n,rfl,z⟩:=S.at el ea
   refine wpAny_pyIter_list ⟨_,eo,rfl,n,rfl⟩ ?_
   have G:=Go.push S { cls:=.type "list_iterator",data:=.fields #[.ref a,.int 0 0] } s.toks
   exact q _ [s.heap.objs.size] _ G (.lst ⟨_,Heap.get?_push_size _ rfl,rfl,rfl⟩ ea) (fun a m=>by simp at m;subst m;exact CE _)
  case sdict n es =>
   exists e
   refine VR.eRef y fun a ea=>?_
   obtain⟨ob,eo,kvs,D,z⟩:=S.at el ea
   refine Og.AI ((Heap.dictOf_iff.mpr ⟨ob,eo,D⟩).dictAt) fun ep Da=>?_
   have ns:(a==sysModules)=false:=by
    cases q:a==sysModules with
    | false=>rfl
    | true =>
     have:=eq_of_beq q
     subst this
     refine Og.AI c.modsAt fun o2 e2=>?_
     have:=S.fresh _ (List.mem_of_getElem? ea)
     rw [e2] at this;exists this
   refine wpAny_pyIter_dict ns Da ?_
   have G:=Go.push S { cls:=.type "dict_keyiterator",data:=.fields #[.ref a,.int 0 0,.int kvs.length 0,.int ep 0] } s.toks
   exact q _ [s.heap.objs.size] _ G (.dct ⟨_,Heap.get?_push_size _ rfl,rfl,rfl⟩ ea ⟨n,es,el,Nat.le_refl _⟩ fun es' _=>Da.push _) (fun a m=>by simp at m;subst m;exact CE _)
  all_goals exists e
 all_goals exists e
noncomputable def EZ(c:Cx)(A:Around)(h₀:Heap)(s:Shared)(r:List Addr)(H:AH)(src:DV)(V:Value):Prop :=
 ∀(Q:Value→Shared→Prop) (E:Value→Shared→Prop),(∀itv w s',Go c s r H H s' r→It c s' r H src 0 itv w→(∀a∈w,h₀.get? a=none)→Q itv s')→wpAny (model c.prog c.w) A (pyIter V) Q E s
theorem EZ.of{A:Around}{h₀:Heap}(S:SR c s r H){v:AV}{V:Value}(y:VR c.hs s.heap r v V)(e:TJ H v=some src)(k:∀a,s.heap.get? a=none→h₀.get? a=none):EZ c A h₀ s r H src V :=
 fun _ _ q=>It.start S y e fun itv w s' G I f=>q itv w s' G I fun a m=>k a (f a m)
theorem It.startEnum{A:Around}{E:Value→Shared→Prop}{Q:Value→Shared→Prop}(S:SR c s r H){l:List Nat}{t:Tok}
  (q:∀V s',Go c s r H H s' r→EZ c A s.heap s' r H (.enum l) V→Q V s'):wpAny (model c.prog c.w) A (call (.type "enumerate") [.str ⟨l.toArray⟩ t]) Q E s:=by
 refine call_enumerate_str fun h' ie st sz k=>?_
 have G:=Go.grow S k s.toks
 refine q _ _ G fun Q' E' q'=>wpAny_pyIter_enum ie (q' _ [s.heap.objs.size+1,s.heap.objs.size] _ (Go.refl G.sr) (.enum (t:=t) (HS _) (Nat.zero_le _) (Nat.succ_ne_self _) ie st) fun a m=>?_)
 have m':s.heap.objs.size≤a:=by
  simp at m
  rcases m with rfl | rfl
  ·exact Nat.le_succ _
  ·exact Nat.le_refl _
 cases hh:s.heap.get? a with
 | none=>rfl
 | some o=>exact absurd (Heap.lt_size hh) (Nat.not_lt.mpr m')
theorem It.startRange{A:Around}{E:Value→Shared→Prop}{Q:Value→Shared→Prop}(S:SR c s r H){n:Nat}{t:Tok}(hn:n≤1000000)
  (q:∀V s',Go c s r H H s' r→EZ c A s.heap s' r H (.range n) V→Q V s'):wpAny (model c.prog c.w) A (call (.type "range") [.int n t]) Q E s:=by
 refine call_range_1 ?_
 have G:=Go.push S { cls:=.type "range",data:=.fields #[.int 0 s.toks,.int n t,.int 1 (s.toks+1)] } (s.toks+1+1)
 refine q _ _ G fun Q' E' q'=>wpAny_pyIter_range (IsRange.new s.heap 0 n 1 s.toks t (s.toks+1)) (small_one (by decide) (by decide) (by lia) (by lia)) ?_
 have G':=Go.push G.sr { cls:=.type "range_iterator",data:=.fields #[rawInt 0,rawInt (Builtin.Range.rangeSize 0 n 1),rawInt 1] } (s.toks+1+1)
 refine q' _ [(s.heap.push { cls:=.type "range",data:=.fields #[.int 0 s.toks,.int n t,.int 1 (s.toks+1)] }).objs.size] _ G' (.range ?_) fun a m=>?_
 ·have e:Builtin.Range.rangeSize 0 (n:Int) 1=(n:Int)-((0:Nat):Int):=by rw [rangeSize_one];split<;>lia
  have z:((0:Nat):Int)=0:=rfl
  rw [←e]
  exact Heap.get?_push_size _ rfl
 ·simp at m
  cases hh:s.heap.get? a with
  | none=>rfl
  | some o=>exact absurd (Heap.lt_size hh) (Nat.not_lt.mpr (m▸Nat.le_succ _))
end
end Og
end
section
open PySem PySem.W PySem.Calls PyProof.Rows PySem.SeqAt
namespace Og
noncomputable def A_N(c:Cx)(T:Tab)(x:Str):GK→Prop
 | .fn f=>c.mg x=some (.ref (c.fa f))
 | .cls k=>c.mg x=some (.ref (c.ca k))∧c.isC k=true
 | .bi b=>c.mg x=none∧c.mb x=some (xR b)
 | .val y=>∀v,T.gv y=some v→∃V,c.mg x=some V∧VR c.hs c.hs [] v V
 | .isinst=>c.mg x=none∧c.mb x=some (.builtin "isinstance")
 | .strT=>c.mg x=none∧c.mb x=some (.type "str")
 | .enum=>c.mg x=none∧c.mb x=some (.type "enumerate")
 | .range=>c.mg x=none∧c.mb x=some (.type "range")
 | .zip=>c.mg x=none∧c.mb x=some (.type "zip")
 | .barr=>c.mg x=none∧c.mb x=some (.type "bytearray")
 | .fault=>True
structure Lk(c:Cx)(T:Tab)(N:Nm):Prop where
 nm:N.nm=c.nm
 isA:N.isA=c.isA
 isAT:T.isAttr=c.isA
 gk:∀x k,N.gk x=some k→A_N c T x k∧(x==("__debug__":Str))=false
section
variable{c:Cx}{T:Tab}{N:Nm}{A:Around}{E:Value→Shared→Prop}{s:Shared}{r:List Addr}{H:AH}{env:Env}{σ:Env'}
theorem NQ(L:Lk c T N)(F:FR c s r env σ)(S:SR c s r H){x:Str}{k:GK}{pos:Pos}{V:Value}{Q:Value→Shared→Prop}(hg:AS env.scope x=true)(hk:N.gk x=some k)(hv:c.mg x=some V)(q:Q V s):wpAny (model c.prog c.w) A (eval (.Name x pos) env) Q E s:=by
 refine wpAny_Name ?_ (L.gk x k hk).2
 have hx:env.kindOf x=some .globalImplicit:=by
  unfold AS at hg
  split at hg
  ·assumption
  ·exists hg
 rw [loadName_read F.kind hx]
 have G:s.heap.Ns env.globals c.mg:=by
  rw [F.globals]
  exact S.G
 exact loadGlobal_global G hv q
theorem LH(L:Lk c T N)(F:FR c s r env σ)(S:SR c s r H){x:Str}{k:GK}{pos:Pos}{V:Value}{Q:Value→Shared→Prop}(hg:AS env.scope x=true)(hk:N.gk x=some k)(hm:c.mg x=none)(hv:c.mb x=some V)(q:Q V s):wpAny (model c.prog c.w) A (eval (.Name x pos) env) Q E s:=by
 refine wpAny_Name ?_ (L.gk x k hk).2
 have hx:env.kindOf x=some .globalImplicit:=by
  unfold AS at hg
  split at hg
  ·assumption
  ·exists hg
 rw [loadName_read F.kind hx]
 have G:s.heap.Ns env.globals c.mg:=by
  rw [F.globals]
  exact S.G
 have B:s.heap.Ns env.builtins c.mb:=by
  rw [F.builtins]
  exact S.B
 exact loadGlobal_builtin G hm B hv q
end
section
variable{c:Cx}{A:Around}{s:Shared}{r:List Addr}{H H':AH}
set_option tactic.hygienic true in
theorem oG(S:SR c s r H){o:sE}{a b v:AV}{V W:Value}(x:VR c.hs s.heap r a V)(y:VR c.hs s.heap r b W)(e:dS H o a b=some (v,H')):AE c A (binaryOp (jY o) V W) s r H v H':=by
 exists o,q
 case add =>
  exists a,q
  case int a =>
   refine A8 e ?_
   clear e
   intro b' h e
   exists BX h
   refine VR.eInt x fun t=>?_
   refine VR.eInt y fun u=>?_
   exists e,q;exact u7 S
  case str a =>
   refine A3 e ?_
   clear e
   intro b' h e
   exists B6 h
   refine A7 e ?_
   intro hf e
   refine VR.eStr x fun t=>?_
   refine VR.eStr y fun u=>?_
   exists e,q;exact bJ S hf
  case bytes a =>
   refine A3 e ?_
   clear e
   intro b' h e
   exists D8 h
   refine A7 e ?_
   intro hf e
   refine VR.eBytes x fun t=>?_
   refine VR.eBytes y fun u=>?_
   exists e,q;exact U3 S hf
  case tup a =>
   refine A3 e ?_
   clear e
   intro b' h e
   exists I8 h
   refine A7 e ?_
   intro hf e
   exists e,q;exact bK S x y hf
  case ref i =>
   refine A3 e ?_
   clear e
   intro j h e
   exists B7 h
   refine A3 e ?_
   clear e
   intro l e1 e
   refine A3 e ?_
   clear e
   intro m e2 e
   refine A7 e ?_
   intro hf e
   exists e,q;exact X0 S x y (BD e1) (BD e2) hf
  all_goals exists e,q
 case mul =>
  refine A3 e ?_
  clear e
  intro n h e
  exists BX h
  refine VR.eInt y fun u=>?_
  exists a,q
  case int a =>
   refine A7 e ?_
   intro hf e
   refine VR.eInt x fun t=>?_
   exists e,q;exact u9 S (AA hf)
  case bytes a =>
   refine A7 e ?_
   intro hf e
   refine VR.eBytes x fun t=>?_
   obtain⟨h1,hf⟩:=B3 hf
   obtain⟨h2,h3⟩:=B3 hf
   exists e,q;exact U4 S (of_decide_eq_true h1) (of_decide_eq_true h2) h3
  case ref i =>
   refine A3 e ?_
   clear e
   intro l e1 e
   refine A7 e ?_
   intro hf e
   obtain⟨h1,h2⟩:=B3 hf
   exists e,q;exact X4 S x (BD e1) h1 h2
  all_goals exists e,q
 all_goals
  refine H7 e ?_
  rintro m n rfl rfl e
  refine VR.eInt x fun t=>?_
  refine VR.eInt y fun u=>?_
 case sub=>exists e,q;exact u8 S
 all_goals obtain⟨hf,e⟩:=DI e
 case fdiv =>
  obtain⟨h1,h2⟩:=B3 hf
  exists e,q;exact q9 S h1 (bne_iff_ne.mp h2)
 case mod=>exists e,q;exact uA S (bne_iff_ne.mp hf)
 case pow =>
  obtain⟨h1,hf⟩:=B3 hf
  obtain⟨h2,h3⟩:=B3 hf
  exists e,q;exact uB S (of_decide_eq_true h1) h2 h3
set_option tactic.hygienic true in
theorem IE(S:SR c s r H){a:AV}{V:Value}{k:Bool}{Q:Bool→Shared→Prop}{E:Value→Shared→Prop}(x:VR c.hs s.heap r a V)(e:P7 a=some k)(q:∀s',Go c s r H H s' r→Q k s'):wpAny (model c.prog c.w) A (truthy V) Q E s:=by
 unfold P7 at e
 split at e
 ·exists e,q;have:=x.inv_bool;subst this;exact wpAny_pure (q s (Go.refl S))
 ·split at e
  ·rename_i l hf
   exists e,q
   refine VR.eStr x fun t=>?_
   have hl:=D1 hf
   refine PySem.P.truthy_str (by show ¬(((⟨l.toArray⟩:Str).length:Int)≥2 ^ 63);simp [Str.length];lia) ?_
   have:(((⟨l.toArray⟩:Str).length:Int) != 0)=!l.isEmpty:=by
    induction l using List.casesOn with
    | nil=>rfl
    | cons a l=>simp [Str.length];lia
   rw [this]
   exact q _ (Go.tok S _)
  ·exists e,q
 ·exists e,q;have:=x.inv_none;subst this;exact wpAny_pure (q s (Go.refl S))
 ·exists e,q
  refine VR.eInt x fun t=>?_
  refine truthy_int ?_
  rename_i i
  have:(i != 0)=decide (i≠0):=by
   by_cases h:i=0<;>simp [h]
  rw [this]
  exact q s (Go.refl S)
 ·exists e,q
theorem oH(S:SR c s r H){j:Nat}(R:AR j A){o:Cm}{a b:AV}{V W:Value}{k:Bool}(x:VR c.hs s.heap r a V)(y:VR c.hs s.heap r b W)(e:dV H o a b=some k):AE c A (compareOp (eG o) V W) s r H (.bool k) H:=by
 exists o,q
 case eq=>exact A_H S R x y e
 case ne =>
  refine A8 e ?_
  rintro k' e' rfl
  exact A_I S R x y e'
 case isin=>exact(uC S x y e).1
 case notin =>
  refine A8 e ?_
  rintro k' e' rfl
  exact(uC S x y e').2
 case is_=>exact A_M S x y e
 case isnot =>
  refine A8 e ?_
  rintro k' e' rfl
  exact l9 S x y e'
 all_goals
  refine H7 e ?_
  rintro m n rfl rfl e
  refine VR.eInt x fun t=>?_
  refine VR.eInt y fun u=>?_
  exists e,q
 case lt=>exact A_J S
 case le=>exact A_K S
 case gt=>exact A_L S
end
section
variable{prog:Program}{w:World}{A:Around}{E:Value→Shared→Prop}{R:Result→Shared→Prop}{s:Shared}{env:Env}
abbrev Nb(prog:Program)(w:World)(A:Around)(env:Env)(R:Result→Shared→Prop):Value→Shared→Prop:=notedBy (model prog w) A env fun e s'=>R (.error e) s'
theorem UQ{target:Expr}{it:Value}{body orelse:List Stmt}
  (h:wpAny (model prog w) A (pyNext it) (fun r s₁=>match r with
   | none=>wpAny (model prog w) A (execs orelse env) (fun f s₃=>R (.ok f) s₃) (Nb prog w A env R) s₁
   | some v=>wpAny (model prog w) A (letOwnedTupleGo target it v) (fun _ s₁'=>wpAny (model prog w) A (assign target env v) (fun _ s₂=>wpAny (model prog w) A (execs body env) (fun f s₃=>match f with
    | .next | .cont=>codeAny (model prog w) A (.forLoop target it body orelse env) R s₃
    | .brk=>R (.ok .next) s₃
    | .ret v=>R (.ok (.ret v)) s₃) (Nb prog w A env R) s₂) (Nb prog w A env R) s₁') (Nb prog w A env R) s₁) (Nb prog w A env R) s) :
  codeAny (model prog w) A (.forLoop target it body orelse env) R s:=by
 refine codeAny_of_tree ?_
 show wpAny _ A ((forTurn target it body orelse env).onRaise (fun x=>do noteFrame x env;theTreesLotGoes x)) _ _ s
 refine wpAny_noted ?_
 simp only [forTurn]
 refine wpAny_bind (wpAny_standAt (wpAny_bind (wpAny_onRaise (wpAny_mono h (fun r s₁ h₁=>?_) fun _ _ h'=>wpAny_standAt h'))))
 cases r with
 | none=>exact wpAny_pure ⟨rfl,codeAny_block h₁⟩
 | some v =>
  refine wpAny_bind (wpAny_mono h₁ (fun _ s₁' h₁'=>?_) fun _ _ h'=>h')
  refine wpAny_bind (wpAny_mono h₁' (fun _ s₂ h₂=>wpAny_bind (wpAny_mono h₂ (fun f s₃ h₃=>?_) fun _ _ h'=>h')) fun _ _ h'=>h')
  cases f with
  | next=>exact wpAny_pure ⟨rfl,h₃⟩
  | cont=>exact wpAny_pure ⟨rfl,h₃⟩
  | brk=>exact wpAny_pure h₃
  | ret v=>exact wpAny_pure h₃
theorem XM{test:Expr}{body orelse:List Stmt}
  (h:wpAny (model prog w) A (isTrue test env (eval test env)) (fun b s₂=>if b then wpAny (model prog w) A (execs body env) (fun f s₃=>match f with
    | .next | .cont=>codeAny (model prog w) A (.whileLoop test body orelse env) R s₃
    | .brk=>R (.ok .next) s₃
    | .ret v=>R (.ok (.ret v)) s₃) (Nb prog w A env R) s₂
   else wpAny (model prog w) A (execs orelse env) (fun f s₃=>R (.ok f) s₃) (Nb prog w A env R) s₂) (Nb prog w A env R) s) :
  codeAny (model prog w) A (.whileLoop test body orelse env) R s:=by
 refine codeAny_of_tree ?_
 show wpAny _ A ((whileTurn test body orelse env).onRaise (fun x=>do noteFrame x env;theTreesLotGoes x)) _ _ s
 refine wpAny_noted ?_
 simp only [whileTurn]
 refine wpAny_bind (wpAny_mono h (fun b s₂ h₂=>?_) fun _ _ h'=>h')
 cases b with
 | true =>
  simp only [if_true] at h₂ ⊢
  refine wpAny_bind (wpAny_mono h₂ (fun f s₃ h₃=>?_) fun _ _ h'=>h')
  cases f with
  | next=>exact wpAny_pure ⟨rfl,h₃⟩
  | cont=>exact wpAny_pure ⟨rfl,h₃⟩
  | brk=>exact wpAny_pure h₃
  | ret v=>exact wpAny_pure h₃
 | false =>
  simp only [Bool.false_eq_true,if_false] at h₂ ⊢
  exact wpAny_bind (wpAny_mono h₂ (fun f s₃ h₃=>wpAny_pure h₃) fun _ _ h'=>h')
noncomputable def ZS(ifs:List Expr)(env:Env):Sem Bool:=forIn ifs true fun c r=>if r=true then do let ok←isTrue c env (eval c env);pure (ForInStep.yield ok) else pure (ForInStep.yield r)
theorem c0{elt target iter:Expr}{ifs:List Expr}{scope:Scope}{pos:Pos}{it acc:Value}
  (h:wpAny (model prog w) A (pyNext it) (fun r s₁=>match r with
   | none=>R (.ok .next) s₁
   | some v=>wpAny (model prog w) A (letOwnedTupleGo target it v) (fun _ s₁'=>wpAny (model prog w) A (assign target env v) (fun _ s₂ =>
    wpAny (model prog w) A (ZS ifs env) (fun ok s₃ =>
     if ok=true then wpAny (model prog w) A (eval elt env) (fun x s₄=>wpAny (model prog w) A (call (.builtin "list.append") [acc,x]) (fun _ s₅=>codeAny (model prog w) A (.compLoop (.ListComp elt [⟨target,iter,ifs,0⟩] scope pos) 0 it acc env) R s₅) (Nb prog w A env R) s₄) (Nb prog w A env R) s₃
     else codeAny (model prog w) A (.compLoop (.ListComp elt [⟨target,iter,ifs,0⟩] scope pos) 0 it acc env) R s₃) (Nb prog w A env R) s₂) (Nb prog w A env R) s₁') (Nb prog w A env R) s₁) (Nb prog w A env R) s) :
  codeAny (model prog w) A (.compLoop (.ListComp elt [⟨target,iter,ifs,0⟩] scope pos) 0 it acc env) R s:=by
 refine codeAny_of_tree ?_
 show wpAny _ A ((compTurn (.ListComp elt [⟨target,iter,ifs,0⟩] scope pos) 0 it acc env).onRaise (fun x=>do noteFrame x env;theTreesLotGoes x)) _ _ s
 refine wpAny_noted ?_
 rw [compTurn_list]
 refine wpAny_bind (wpAny_standAt (wpAny_bind (wpAny_mono h (fun r s₁ h₁=>?_) fun _ _ h'=>h')))
 cases r with
 | none=>exact wpAny_pure h₁
 | some v =>
  refine wpAny_bind (wpAny_mono h₁ (fun _ s₁' h₁'=>?_) fun _ _ h'=>h')
  refine wpAny_bind (wpAny_mono h₁' (fun _ s₂ h₂=>?_) fun _ _ h'=>h')
  refine wpAny_bind (wpAny_mono h₂ (fun ok s₃ h₃=>?_) fun _ _ h'=>h')
  induction ok using Bool.casesOn with
  | true =>
   simp only [if_true] at h₃ ⊢
   exact wpAny_bind (wpAny_bind (wpAny_mono h₃ (fun x s₄ h₄=>wpAny_bind (wpAny_mono h₄ (fun _ s₅ h₅=>wpAny_pure (wpAny_pure ⟨rfl,h₅⟩)) fun _ _ h'=>h')) fun _ _ h'=>h'))
  | false =>
   simp only [Bool.false_eq_true,if_false] at h₃ ⊢
   exact wpAny_bind (wpAny_pure (wpAny_pure ⟨rfl,h₃⟩))
theorem XN{Q:Bool→Shared→Prop}(h:Q true s):wpAny (model prog w) A (ZS [] env) Q E s:=wpAny_pure h
theorem c8{c:Expr}{Q:Bool→Shared→Prop}(h:wpAny (model prog w) A (isTrue c env (eval c env)) Q E s):wpAny (model prog w) A (ZS [c] env) Q E s:=wpAny_tests_one h
theorem UR{e:Expr}{pos:Pos}{v:Value}{Q:Flow→Shared→Prop}(h:Q .next s):wpAny (model prog w) A (dropValue e pos v) Q E s:=by
 unfold dropValue
 split
 ·exact wpAny_pure h
 ·refine wpAny_bind (wpAny_standAt (wpAny_bind (wpAny_runValue ?_)))
  refine codeAny_builtin entry_let_go ?_
  exact wpAny_pure (wpAny_pure h)
 ·exact wpAny_pure h
theorem US{e:Expr}{pos:Pos}{Q:Flow→Shared→Prop}(h:wpAny (model prog w) A (eval e env) (fun _ s'=>Q .next s') E s)
  (hi:interactive env=false) (hs:swapsWith e none pos.line env=pure false) :
  wpAny (model prog w) A (exec (.Expr e pos) env) Q E s:=by
 rw [exec_Expr env e pos hi hs]
 exact wpAny_bind (wpAny_standAt (wpAny_bind (wpAny_mono h (fun v s' h'=>UR h') fun _ _ x=>x)))
end
theorem AR.make{k:Nat}{A:Around}{C:Addr}{rest:List Value}{kw:List (PySem.Str×Value)}(x:AR (k+1) A):AR k (A.under (.builtin "type.__call__" ⟨.ref C::rest,kw⟩)):=by
 refine⟨?_,?_,?_⟩
 ·have h1:=x.depth
  have:(A.under (.builtin "type.__call__" ⟨.ref C::rest,kw⟩)).depth=A.depth+1:=rfl
  lia
 ·have h1:=x.units
  have:(A.under (.builtin "type.__call__" ⟨.ref C::rest,kw⟩)).units=A.units+1:=rfl
  lia
 ·exact x.handled
section
variable{c:Cx}{A:Around}{s:Shared}{r:List Addr}{H H':AH}
theorem RH(S:SR c s r H){i:Nat}{l:List UInt8}{a:Addr}(e:H[i]?=some (.barr l))(ea:r[i]?=some a):s.heap.get? a=some (BK l):=by
 refine Og.AB (S.at e ea) fun ob e1 e2=>?_
 have e3:ob={ cls:=.type "bytearray",data:=.bytearray l.toArray 0 }:=e2
 rw [e1,e3]
theorem XO(S:SR c s r H){i:Nat}{l:List UInt8}{V:Value}(x:VR c.hs s.heap r (.ref i) V)(e:H[i]?=some (.barr l))(hf:CF l.length=true):AE c A (call (.builtin "len") [V]) s r H (.int l.length) H:=by
 intro Q E q
 refine VR.eRef x fun a ra=>?_
 have f1:=RH S e ra
 have hl:=D1 hf
 have tI:s.TypeIs (.ref a) "bytearray":=⟨_,f1,rfl⟩
 refine call_function_entry kind_len plain_len entry_len (args_len1 _) ?_
 unfold Builtin.«len»
 refine wpAny_bind (m:=oneArg "len" _) (wpAny_pure ?_)
 refine wpAny_bind (m:=callSpecial? (.ref a) (Str.ofString "__len__")) (wpAny_callSpecial?_slot (name:=Str.ofString "__len__") tI IR
  (call_meets IR tI NH (OO _) (gI a l) ⟨f1,?_⟩))
 refine wpAny_bind (wpAny_holding (wpAny_pure ?_))
 refine wpAny_bind (wpAny_letGo ?_)
 show wpAny _ _ (if((l.length:Nat):Int)<0 then _ else _) _ _ _
 rw [if_neg (by lia)]
 show wpAny _ _ (if((l.length:Nat):Int)≥2 ^ 63 then _ else _) _ _ _
 rw [if_neg (by lia)]
 exact wpAny_bind (wpAny_mkInt (wpAny_pure ⟨_,rfl,q _ _ r (Go.tok S _) (.int _ _)⟩))
theorem gS(S:SR c s r H){i:Nat}{l k:List UInt8}{V vl vu:Value}{lo hi:Option Int}{value slice:Expr}(x:VR c.hs s.heap r (.ref i) V)(pl:IsPart vl lo)(pu:IsPart vu hi)(e:H[i]?=some (.barr l))(hf:CF l.length=true)(hk:cut l lo hi=some k)
  (Q:Value→Shared→Prop) (E:Value→Shared→Prop) (q:∀V s' r',Go c s r H (H++[.barr k]) s' r'→VR c.hs s'.heap r' (.ref H.length) V→Q V s') :
  wpAny (model c.prog c.w) A (subscriptTail value slice V (.ref s.heap.objs.size)) Q E { s with heap:=s.heap.push (B0 vl vu .none) }:=by
 refine VR.eRef x fun a ra=>?_
 have f1:=RH S e ra
 have hl:=D1 hf
 have G:=Go.push S (B0 vl vu .none) s.toks
 refine Og.AI (BA slice (.ref a) (.ref s.heap.objs.size)) fun ops ho=>?_
 have f2:(s.heap.push (B0 vl vu .none)).get? a=some (BK l):=Heap.get?_push_of_some _ f1
 have tI:({ s with heap:=s.heap.push (B0 vl vu .none) }:Shared).TypeIs (.ref a) "bytearray":=⟨_,f2,rfl⟩
 have hz:k.length≤sizeLine:=by
  refine Og.BB (R0 hk) fun _ _ hr1=>?_;subst hr1
  have:((l.take (hi.getD l.length).toNat).drop (lo.getD 0).toNat).length≤l.length:=by simp;lia
  have:=AT hf
  lia
 with_reducible refine PyProof.Rows.tail_any tI FP.lookup ?_ ho
 unfold getItem
 refine wpAny_holding ?_
 refine wpAny_bind (wpAny_sequenceKey tI (by decide) ?_)
 refine wpAny_bind (wpAny_callSpecial?_slot (name:=Str.ofString "__getitem__") tI FP (call_meets FP tI NI (OP _ _) (gJ a s.heap.objs.size l k vl vu lo hi pl pu hk hz) ⟨f2,Heap.get?_push_size (o:=B0 vl vu .none) _ rfl,?_⟩))
 refine wpAny_pure ?_
 have G2:Go c { s with heap:=s.heap.push (B0 vl vu .none) } r H (H++[.barr k]) _ _:=Go.alloc (o:=.barr k) (ob:=BK k) G.sr rfl s.toks rfl
 exact q _ _ _ (G.trans G2) (VR.last G.sr _)
theorem gT:typeLookup (.type "bytes") "__bytes__"=pure (some (.builtin "bytes.__bytes__")):=by rw [typeLookup_type,builtinLookup_eq_fast];kernel_rfl
theorem LY(A:Around)(b:Array UInt8)(t:Tok){Q:Value→Shared→Prop}{E:Value→Shared→Prop}(h:Q (.bytes b t) s):
  codeAny (model c.prog c.w) A (.call (.builtin "bytes.__new__") ⟨[.type "bytes",.bytes b t],[]⟩) (wants Q E) s:=by
 refine codeAny_of_tree ?_
 show wpAny _ A.in1 (do checkBuiltinCall "bytes.__new__" ⟨[.type "bytes",.bytes b t],[]⟩;again (.builtin "bytes.__new__" ⟨[.type "bytes",.bytes b t],[]⟩)) _ _ s
 refine wpAny_bind (wpAny_of_eq (PySem.F.bm_newCall _) (wpAny_pure ⟨plainId_quiet PySem.F.bm_plain _,codeAny_builtin PySem.F.bm_entry ?_⟩))
 rw [Around.under_plainId PySem.F.bm_plain _]
 unfold Builtin.«bytes.__new__»
 obtain⟨hp,g,d,tk,os⟩:=s
 refine wpAny_bind (wpAny_of_eq (a:=true) rfl ?_)
 refine bm_if_false rfl ?_
 refine wpAny_bind (wpAny_of_eq PySem.F.bm_sub ?_)
 refine bm_if_false rfl ?_
 refine wpAny_bind (wpAny_of_eq (PySem.F.bm_bind _) ?_)
 refine wpAny_bind (wpAny_of_eq (a:=()) rfl ?_)
 refine wpAny_bind (wpAny_of_eq (a:=()) rfl ?_)
 refine bm_if_false rfl ?_
 refine wpAny_bind (wpAny_specialOf (PySem.W.typeIs_bytes _ _ _) gT ?_)
 repeat lk
 exact h
theorem OW(S:SR c s r H){b:List UInt8}{t:Tok}:AE c A (call (.type "bytes") [.bytes b.toArray t]) s r H (.bytes b) H:=by
 intro Q E q
 refine callType_codes (Q₁:=fun obj s₁=>s₁.TypeIs obj "bytes"∧Q obj s₁) PySem.F.bm_called (PySem.F.bm_typeCall _) PySem.F.entry_object_init (LY (c:=c) (Q:=fun obj s₁=>s₁.TypeIs obj "bytes"∧Q obj s₁) A.in1 _ t ⟨PySem.W.typeIs_bytes _ _ _,q _ _ r (Go.refl S) (.bytes _ _)⟩) fun obj s₁ h₁=>?_
 exact⟨h₁.1,PySem.F.args_object_init_2 obj _,object_init_meets PySem.F.bm_called.init.lookup PySem.F.bm_called.made (by decide) c.prog c.w A.in1 _ s₁ ⟨h₁.1,rfl,h₁.2⟩⟩
theorem jW:typeLookup (.type "bytearray") "__bytes__"=pure none:=by rw [typeLookup_type,builtinLookup_eq_fast];kernel_rfl
theorem NR(A:Around)(a:Addr)(b:List UInt8){Q:Value→Shared→Prop}{E:Value→Shared→Prop}(f1:s.heap.get? a=some (BK b))(hz:b.length≤sizeLine)(h:∀t k,Q (.bytes b.toArray t) { s with toks:=k }):
  codeAny (model c.prog c.w) A (.call (.builtin "bytes.__new__") ⟨[.type "bytes",.ref a],[]⟩) (wants Q E) s:=by
 refine codeAny_of_tree (wpAny_bind (wpAny_of_eq (PySem.F.bm_newCall _) (wpAny_pure ⟨plainId_quiet PySem.F.bm_plain _,codeAny_builtin PySem.F.bm_entry ?_⟩)))
 rw [Around.under_plainId PySem.F.bm_plain _]
 have u:wpAny (model c.prog c.w) A.in1 ((if b.toArray.size>sizeLine then Sem.unsupported "bytes:memory" else Sem.fresh fun t=>Sem.pure (Value.bytes b.toArray t)).bind fun v=>Sem.pure (PySem.Fin.done (.ret v))) (fun fin s'=>match fin with | .done f=>wants Q E (.ok f) s' | .again c'=>c'.quiet=true∧codeAny (model c.prog c.w) A c' (wants Q E) s') (fun e s'=>wants Q E (.error e) s') s:=by
  rw [if_neg (show ¬b.toArray.size>sizeLine from Nat.not_lt.mpr hz)]
  exact nd_fresh (nd_pure (h s.toks (s.toks+1)))
 exact P5 11 (List.replicate 10 (BK b)) (And.intro f1<|And.intro f1<|And.intro f1<|And.intro f1<|And.intro f1<|And.intro f1<|And.intro f1<|And.intro f1<|And.intro f1<|And.intro f1 u) (by kernel_rfl!)
theorem RI(S:SR c s r H){i:Nat}{l:List UInt8}{V:Value}(x:VR c.hs s.heap r (.ref i) V)(e:H[i]?=some (.barr l))(hf:CF l.length=true):AE c A (call (.type "bytes") [V]) s r H (.bytes l) H:=by
 intro Q E q
 refine VR.eRef x fun a ra=>?_
 have f1:=RH S e ra
 refine callType_codes (Q₁:=fun obj s₁=>s₁.TypeIs obj "bytes"∧Q obj s₁) PySem.F.bm_called (PySem.F.bm_typeCall _) PySem.F.entry_object_init (NR (c:=c) (Q:=fun obj s₁=>s₁.TypeIs obj "bytes"∧Q obj s₁) A.in1 a l f1 (AT hf) fun t k=>⟨PySem.W.typeIs_bytes _ _ _,q _ _ r (Go.tok S _) (.bytes _ _)⟩) fun obj s₁ h₁=>?_
 exact⟨h₁.1,PySem.F.args_object_init_2 obj _,object_init_meets PySem.F.bm_called.init.lookup PySem.F.bm_called.made (by decide) c.prog c.w A.in1 _ s₁ ⟨h₁.1,rfl,h₁.2⟩⟩
theorem c9(S:SR c s r H){i:Nat}{n:Int}{V:Value}(hh:A.handled=none)(x:VR c.hs s.heap r (.ref i) V)(e:H[i]?=some (.list [.int n])):AE c A (call (.builtin "max") [V]) s r H (.int n) H:=by
 intro Q E q
 refine VR.eRef x fun a ra=>?_
 refine Og.AB (FY S e ra) fun vs i1 y1=>?_
 with_reducible refine PySem.W.kso_max S.fr S.news i1 (UD y1 (xs:=[n]) rfl) (by simp) hh fun h' M t tk F N hM _=>?_
 have:M=n:=by simpa using hM
 subst this
 exact q _ _ r (Go.ofNews (more:=[]) S F N tk) (.int _ _)
set_option tactic.hygienic true in
theorem A_O(S:SR c s r H){k:Nat}(R:AR k A){b:Bi}{vs:List AV}{Vs:List Value}{v:AV}(x:AJ c.hs s.heap r vs Vs)(e:tC H b vs=some (v,H')):AE c A (call (xR b) Vs) s r H v H':=by
 have hh:=R.handled
 exists b,q
 case max =>
  rcases vs with _ | ⟨v1,_ | ⟨v2,_ | ⟨v3,vs⟩⟩⟩
  ·exists e,q
  ·replace e:(one [v1]).bind (fun v=>(tB H v).map fun i=>(AV.int i,H))=some (v,H'):=e
   refine A3 e ?_
   clear e
   intro v' h e
   exists h,q
   refine A8 e ?_
   clear e
   intro n hn e
   refine A3 hn ?_
   intro o ho hn
   refine A3 hn ?_
   intro l hl hn
   refine A3 hn ?_
   intro z hz hn
   exists B7 ho
   exists E5 hz
   exists BX hn
   exists e,q
   refine AJ.e1 x fun X1 a=>?_
   exact c9 S hh a (BD hl)
  ·refine H7 e ?_
   rintro m n rfl rfl e
   exists e,q
   refine AJ.e2 x fun X1 X2 a a'=>?_
   refine VR.eInt a fun t=>?_
   refine VR.eInt a' fun u=>?_
   exact uH S hh
  ·exists e,q
 all_goals
  refine A3 e ?_
  clear e
  intro v' h e
  exists E5 h
  refine AJ.e1 x fun X1 a=>?_
 case len =>
  refine A3 e ?_
  clear e
  intro n hn e
  refine A7 e ?_
  intro hf e
  exists e,q
  exists v',q
  case tup l=>exists hn,q;exact bR S a hf
  case bytes l =>
   exists hn,q
   refine VR.eBytes a fun t=>?_
   exact UB S hf
  case ref o =>
   refine A3 hn ?_
   clear hn
   intro ob el hn
   exists ob,q
   case list l=>exists hn,q;exact X7 S a el hf
   case barr l=>exists hn,q;exact XO S a el hf
   all_goals exists hn,q
  all_goals exists hn,q
 case abs =>
  refine A8 e ?_
  intro n hn e
  exists BX hn
  exists e,q
  refine VR.eInt a fun t=>?_
  exact uG S
 case ord =>
  refine A3 e ?_
  clear e
  intro l hl e
  exists B6 hl
  refine A8 e ?_
  intro ch hc e
  exists E5 hc
  exists e,q
  refine VR.eStr a fun t=>?_
  exact uI S
 case bytes =>
  refine A8 e ?_
  clear e
  intro y hy e
  exists e,q
  exists v',q
  case bytes l =>
   refine A7 hy ?_
   intro hf hy
   exists hy,q
   refine VR.eBytes a fun t=>?_
   exact OW S
  case ref o =>
   refine A3 hy ?_
   clear hy
   intro ob el hy
   exists ob,q
   case list l =>
    refine A7 hy ?_
    intro hf hy
    refine A3 hy ?_
    intro xs e1 e2
    exact R6 S hh a el e1 e2 hf
   case barr l =>
    refine A7 hy ?_
    intro hf hy
    exists hy,q
    exact RI S a el hf
   all_goals exists hy,q
  all_goals exists hy,q
 case list =>
  refine A3 e ?_
  clear e
  intro l hl e
  refine A7 e ?_
  intro hf e
  exists e,q
  exists v',q
  case tup l=>exists hl,q;exact XA S a hf
  case ref o=>exact UC S a (BD hl) hf
  all_goals exists hl,q
 case tuple =>
  refine A3 e ?_
  clear e
  intro o ho e
  exists B7 ho
  refine A3 e ?_
  clear e
  intro l hl e
  refine A7 e ?_
  intro hf e
  exists e,q
  exact lC S a (BD hl) hf
 case sorted =>
  refine A3 e ?_
  clear e
  intro o ho e
  exists B7 ho
  refine A8 e ?_
  clear e
  intro l hl e
  exists e,q
  refine A3 hl ?_
  intro ob el hl
  exists ob,q
  case list l =>
   refine A3 hl ?_
   intro xs e1 hl
   refine A8 hl ?_
   intro y e2 hl
   exists hl,q
   exact IQ S a el e1 (List.Perm.refl _) e2
  case sdict n es =>
   refine A8 hl ?_
   intro y e2 hl
   exists hl,q
   exact HP S hh a el (List.Perm.refl _) e2
  case idict es =>
   refine A8 hl ?_
   intro y e2 hl
   exists hl,q
   exact NF S hh a el e2
  case edict =>
   exists hl,q
   exact NG S hh a el
  case fmap es =>
   refine A8 hl ?_
   intro y e2 hl
   exists hl,q
   obtain⟨nd,es0,p,S0⟩:=DY S el
   intro Q E q
   refine HP (H:=H.set _ (.sdict 0 es0)) S0 hh a (D2 el) (p.map (·.1)) e2 Q E fun V s' r' G y=>?_
   rw [List.length_set] at y
   exact q V s' r' (Go.fmap el nd p G) y
  case bag es =>
   refine A8 hl ?_
   intro y e2 hl
   exists hl,q
   obtain⟨nd,xs,p,S0⟩:=HM S el
   intro Q E q
   refine IQ (H:=H.set _ (.list (xs.map .str))) S0 a (D2 el) (EX xs) p e2 Q E fun V s' r' G y=>?_
   rw [List.length_set] at y
   exact q V s' r' (Go.bag el nd p G) y
  all_goals exists hl,q
end
noncomputable def RJ:Me→PySem.Str
 | .append=>"append"
 | .clear=>"clear"
 | .extend=>"extend"
 | .pop=>"pop"
 | .remove=>"remove"
 | .get=>"get"
 | .encode=>"encode"
 | .index=>"index"
 | .join=>"join"
noncomputable def XP:Kd→String
 | .list=>"list"
 | .dict=>"dict"
 | .str=>"str"
 | .bytes=>"bytes"
theorem gU(k:Kd):PlainAttrs (XP k):=by
 exists k
 ·exact PySem.F.plainAttrs_list
 ·exact PySem.F.plainAttrs_dict
 ·exact PySem.F.plainAttrs_str
 ·exact PySem.W.FB.plainAttrs_bytes
theorem lJ{k:Kd}{m:Me}{id:String}(e:WO k m=some id):Slot (XP k) (RJ m) id∧typeOf (.builtin id)=pure (.type "method_descriptor"):=by
 exists k<;>exists m<;>exists e
 ·exact⟨PySem.F.slot_list_append,PySem.F.type_list_append⟩
 ·exact⟨PySem.F.slot_list_clear,PySem.F.type_list_clear⟩
 ·exact⟨PySem.F.slot_list_extend,PySem.F.type_list_extend⟩
 ·exact⟨PySem.F.slot_list_pop,PySem.F.type_list_pop⟩
 ·exact⟨PySem.F.slot_list_remove,PySem.F.type_list_remove⟩
 ·exact⟨PySem.F.slot_dict_clear,PySem.F.type_dict_clear⟩
 ·exact⟨PySem.F.slot_dict_pop,PySem.F.type_dict_pop⟩
 ·exact⟨PySem.F.slot_dict_get,PySem.F.type_dict_get⟩
 ·exact⟨PySem.F.slot_str_encode,PySem.F.type_str_encode⟩
 ·exact⟨PySem.F.slot_str_index,PySem.F.type_str_index⟩
 ·exact⟨PySem.F.slot_str_join,PySem.F.type_str_join⟩
 ·exact⟨GT,LT⟩
section
variable{c:Cx}{A:Around}{s:Shared}{r:List Addr}{H H':AH}
set_option tactic.hygienic true in
theorem uO(S:SR c s r H){v:AV}{V:Value}{k:Kd}(x:VR c.hs s.heap r v V)(e:kd H v=some k):s.TypeIs V (XP k)∧∀a,V=.ref a→∃o,s.heap.get? a=some o∧o.dict=none:=by
 exists v
 case ref i =>
  refine A3 e ?_
  clear e
  intro o el e
  refine VR.eRef x fun a ra=>?_
  exists o
  case list l =>
   exists e
   refine AW S el ra fun vs n f1 y1=>?_
   exact⟨⟨_,f1,rfl⟩,fun b hb=>by exists hb;exact⟨_,f1,rfl⟩⟩
  case sdict n l =>
   exists e
   obtain⟨ob,e1,kvs,⟨es,ep,ex,z⟩,_⟩:=S.at el ra
   exact⟨⟨_,e1,ex.1⟩,fun b hb=>by exists hb;exact⟨_,e1,ex.2.1⟩⟩
  case edict =>
   exists e
   obtain⟨ob,e1,⟨es,ep,ex,z⟩,_⟩:=S.at el ra
   exact⟨⟨_,e1,ex.1⟩,fun b hb=>by exists hb;exact⟨_,e1,ex.2.1⟩⟩
  case fmap l =>
   exists e
   obtain⟨nd,es0,p,S0⟩:=DY S el
   obtain⟨ob,e1,kvs,⟨es,ep,ex,z⟩,_⟩:=S0.at (D2 el) ra
   exact⟨⟨_,e1,ex.1⟩,fun b hb=>by exists hb;exact⟨_,e1,ex.2.1⟩⟩
  case bag l =>
   exists e
   obtain⟨nd,xs,p,S0⟩:=HM S el
   refine AW S0 (D2 el) ra fun vs n f1 y1=>?_
   exact⟨⟨_,f1,rfl⟩,fun b hb=>by exists hb;exact⟨_,f1,rfl⟩⟩
  all_goals exists e
 case str l =>
  exists e
  refine VR.eStr x fun t=>?_
  exact⟨PySem.typeIs_str _ _ _,fun a h=>nomatch h⟩
 case bytes l =>
  exists e
  refine VR.eBytes x fun t=>?_
  exact⟨PySem.W.typeIs_bytes _ _ _,fun a h=>nomatch h⟩
 all_goals exists e
theorem qC(S:SR c s r H){v:AV}{V:Value}{k:Kd}{m:Me}{id:String}{pl:Sem Bool}{Q:Value×List Value→Shared→Prop}{E:Value→Shared→Prop}(x:VR c.hs s.heap r v V)(e:kd H v=some k)(e2:WO k m=some id)(q:Q (.builtin id,[V]) s):
  wpAny (model c.prog c.w) A (getMethod V (RJ m) pl) Q E s:=by
 obtain⟨t,d⟩:=uO S x e
 obtain⟨sl,ty⟩:=lJ e2
 exact getMethod_builtin t (gU k) sl ty d q
theorem cA{α:Type}[BEq α][LawfulBEq α]{xs:List α}{x:α}{k:Nat}(h:xs.findIdx? (·==x)=some k):xs.eraseIdx k=xs.erase x:=by
 induction xs generalizing k with
 | nil=>exists h
 | cons y r ih =>
  rw [List.findIdx?_cons] at h
  refine Og.GQ (y==x) (fun hy=>?_) fun hy=>?_
  ·
   rw [hy] at h
   exists h
   have:=eq_of_beq hy;subst this
   rw [List.erase_cons_head];rfl
  ·
   rw [hy] at h
   simp only [Bool.false_eq_true,if_false] at h
   refine FO h fun j hj=>?_
   rw [List.erase_cons_tail (by rw [hy];decide),←ih hj];rfl
theorem PQ{α β:Type}(f:α→β):∀(l:List α) (j:Nat),(l.eraseIdx j).map f=(l.map f).eraseIdx j
 | [],_=>rfl
 | _::_,0=>rfl
 | x::l,j+1=>by
  show f x::(l.eraseIdx j).map f=f x::(l.map f).eraseIdx j
  rw [PQ f l j]
theorem gV{xs:List (List Nat)}{x:List Nat}(h:x∈xs):∃k,xs.findIdx? (·==x)=some k:=by
 cases q:xs.findIdx? (·==x) with
 | some k=>exact⟨k,rfl⟩
 | none =>
  rw [List.findIdx?_eq_none_iff] at q
  have:=q x h
  simp at this
theorem UT{es:List (List Nat×Bool)}{ys:List (List Nat)}(p:ys.Perm (DG es))(hf:CF es.length=true):CF (ys.map AV.str).length=true:=by
 have h1:=p.length_eq
 have h2:(DG es).length≤es.length:=by unfold DG;rw [List.length_map];exact List.length_filter_le _ _
 have:=D1 hf
 exact decide_eq_true (by rw [List.length_map];lia)
set_option tactic.hygienic true in
theorem qD(S:SR c s r H){o:Nat}{ob:AO}{V:Value}{k:Kd}{m:Me}{id:String}{vs:List AV}{Vs:List Value}{w:AV}(x:VR c.hs s.heap r (.ref o) V)(xs:AJ c.hs s.heap r vs Vs)(el:H[o]?=some ob)(ek:kdO ob=some k)(ei:WO k m=some id)(e:eA H o ob m vs=some (w,H')):
  AE c A (call (.builtin id) (V::Vs)) s r H w H':=by
 exists m,q
 case append =>
  refine A3 e ?_
  clear e
  intro x1 h e
  exists E5 h
  refine AJ.e1 xs fun X1 a=>?_
  exists ob,q
  case list l =>
   exists ek,q;exists ei,q
   refine A7 e ?_
   intro hf e
   exists e,q
   exact UH S x a el hf
  case bag es =>
   exists ek,q;exists ei,q
   refine A7 e ?_
   clear e
   intro hf e
   refine A3 e ?_
   clear e
   intro kk hk e
   exists B6 hk
   refine A7 e ?_
   intro hb e
   exists e,q
   replace hb:=eq_of_beq hb
   obtain⟨nd,ys,p,S0⟩:=HM S el
   intro Q E q
   refine UH (H:=H.set _ (.list (ys.map .str))) S0 x a (D2 el) (UT p hf) Q E fun V s' r' G y=>?_
   refine q V s' r' (Go.bagS el (by rw [KW];exact nd) (xs:=ys++[kk]) ?_ (by rw [List.map_append];exact G)) y
   have h1:=(U1 nd (by rw [hb];rfl)).1
   have h2:(DG es).erase kk=DG es:=List.erase_of_not_mem fun m=>by
    have:=QY nd hb
    simp at this;exact this m
   rw [h2] at h1
   exact(List.perm_append_comm.trans (p.cons kk)).trans h1
  all_goals exists e,q
 case clear =>
  refine A7 e ?_
  intro h e
  exists List.isEmpty_iff.mp h
  exists xs.inv0
  exists ob,q
  case list l =>
   exists ek,q;exists ei,q
   refine A7 e ?_
   intro hf e
   exists e,q
   exact lD S x el hf
  case edict =>
   exists ek,q;exists ei,q
   exists e,q
   exact gC S x el
  all_goals exists e,q
 case extend =>
  refine A3 e ?_
  clear e
  intro x1 h e
  exists E5 h
  refine AJ.e1 xs fun X1 a=>?_
  refine A3 e ?_
  clear e
  intro l hl e
  exists MV hl
  exists ek,q;exists ei,q
  refine A3 e ?_
  clear e
  intro j hj e
  exists B7 hj
  refine A3 e ?_
  clear e
  intro l2 el2 e
  refine A7 e ?_
  intro hf e
  exists e,q
  exact gA S x a el (BD el2) hf
 case pop =>
  induction vs using List.casesOn with
  | nil =>
   exists xs.inv0
   refine A3 e ?_
   clear e
   intro l hl e
   exists MV hl
   exists ek,q;exists ei,q
   refine A7 e ?_
   intro hf e
   refine A8 e ?_
   intro y e1 e2
   exists e2,q
   exact uJ S x el hf e1
  | cons v vs =>
   refine A3 e ?_
   clear e
   intro x1 h e
   exists E5 h
   refine AJ.e1 xs fun X1 a=>?_
   refine A3 e ?_
   clear e
   intro kk hk e
   exists B6 hk
   refine VR.eStr a fun t=>?_
   exists ob,q
   case sdict n es =>
    exists ek,q;exists ei,q
    refine A7 e ?_
    intro hf e
    refine A8 e ?_
    intro y e1 e2
    exists e2,q
    exact gB S x el hf e1
   case fmap es =>
    exists ek,q;exists ei,q
    refine A7 e ?_
    intro hf e
    refine A8 e ?_
    intro y e1 e2
    refine A3 e1 ?_
    intro ov e3 e4
    exists e2,q
    obtain⟨nd,es0,p,S0⟩:=DY S el
    intro Q E q
    have hf0:CF es0.length=true:=by
     have h1:=p.length_eq
     have h2:(pres es).length≤es.length:=List.length_filterMap_le _ _
     have:=D1 hf
     exact decide_eq_true (by lia)
    refine gB (H:=H.set _ (.sdict 0 es0)) S0 x (D2 el) hf0 ((KU nd p e3).trans e4) Q E fun V s' r' G y=>?_
    exact q V s' r' (Go.fmapS el (by rw [KV];exact nd) (U0 nd p (by rw [e3];rfl)) G) y
   all_goals exists e,q
 case remove =>
  refine A3 e ?_
  clear e
  intro x1 h e
  exists E5 h
  refine AJ.e1 xs fun X1 a=>?_
  refine A3 e ?_
  clear e
  intro kk hk e
  exists B6 hk
  refine VR.eStr a fun t=>?_
  exists ob,q
  case list l =>
   exists ek,q;exists ei,q
   refine A7 e ?_
   intro hf e
   refine A3 e ?_
   intro ys e1 e
   refine A8 e ?_
   intro j e2 e3
   exists e3,q
   exact UI S x el hf e1 e2
  case bag es =>
   exists ek,q;exists ei,q
   refine A7 e ?_
   intro hf e
   refine A7 e ?_
   intro hb e
   exists e,q
   replace hb:=eq_of_beq hb
   obtain⟨nd,ys,p,S0⟩:=HM S el
   intro Q E q
   have hm:kk∈ys:=p.mem_iff.mpr (by have:=QY nd hb;simpa using this)
   refine Og.AI (gV hm) fun j hj=>?_
   refine UI (H:=H.set _ (.list (ys.map .str))) S0 x (D2 el) (UT p hf) (EX ys) hj Q E fun V s' r' G y=>?_
   refine q V s' r' (Go.bagS el (by rw [KW];exact nd) (xs:=ys.eraseIdx j) ?_ (by rw [PQ];exact G)) y
   rw [cA hj]
   exact(p.erase kk).trans (U1 nd (by rw [hb];rfl)).2
  all_goals exists e,q
 case get =>
  rcases vs with _ | ⟨v1,_ | ⟨v2,_ | ⟨v3,vs⟩⟩⟩
  ·exists e,q
  ·exists e,q
  ·refine AJ.e2 xs fun X1 X2 a b=>?_
   refine A3 e ?_
   clear e
   intro es h e
   exists ob,q
   case sdict n es' =>
    exists h,q
    exists ek,q;exists ei,q
    refine A8 e ?_
    clear e
    intro kk hk e
    exists B6 hk
    refine VR.eStr a fun t=>?_
    exists e,q
    exact uK S x b el
   all_goals exists h,q
  ·exists e,q
 all_goals exists e,q
theorem qE(S:SR c s r H){l:List Nat}{v w:AV}{t:Tok}{V:Value}{m:Me}{id:String}(a:VR c.hs s.heap r v V)(ei:WO .str m=some id)(e:nO H l m v=some (w,H')):AE c A (call (.builtin id) [.str ⟨l.toArray⟩ t,V]) s r H w H':=by
 exists m,q
 case encode =>
  exists ei,q
  refine A3 e ?_
  clear e
  intro u hu e
  exists B6 hu
  refine VR.eStr a fun u=>?_
  refine A7 e ?_
  intro hx e
  refine A8 e ?_
  intro y e1 e2
  exists eq_of_beq hx
  exists e2,q
  exact gG S e1
 case index =>
  exists ei,q
  refine A3 e ?_
  clear e
  intro u hu e
  exists B6 hu
  refine VR.eStr a fun u'=>?_
  refine A3 e ?_
  clear e
  intro ch hc e
  exists E5 hc
  refine A8 e ?_
  intro n hq e2
  exists e2,q
  exact lF S hq
 case join =>
  exists ei,q
  refine A7 e ?_
  clear e
  intro hl e
  exists List.isEmpty_iff.mp hl
  refine A3 e ?_
  clear e
  intro o ho e
  exists B7 ho
  refine A3 e ?_
  clear e
  intro k hk e
  refine A3 e ?_
  clear e
  intro ks hks e
  exists GD hks
  rcases ks with _ | ⟨a1,_ | ⟨a2,_ | ⟨a3,_ | ⟨a4,ks⟩⟩⟩⟩
  ·exists e,q
  ·exists e,q
  ·exists e,q
  ·refine A7 e ?_
   intro hf e
   exists e,q
   exact lG S a (BD hk) hf
  ·exists e,q
 all_goals exists e,q
theorem gW(S:SR c s r H){l:List UInt8}{v w:AV}{t:Tok}{V:Value}{m:Me}{id:String}(a:VR c.hs s.heap r v V)(ei:WO .bytes m=some id)(e:nP H l m v=some (w,H')):AE c A (call (.builtin id) [.bytes l.toArray t,V]) s r H w H':=by
 exists m,q
 case join =>
  exists ei,q
  refine A7 e ?_
  clear e
  intro hl e
  exists List.isEmpty_iff.mp hl
  refine A3 e ?_
  clear e
  intro o ho e
  exists B7 ho
  refine A3 e ?_
  clear e
  intro k hk e
  rcases k with _ | ⟨a1,_ | ⟨a2,_ | ⟨a3,ks⟩⟩⟩
  ·exists e,q
  ·exists e,q
  ·refine A3 e ?_
   clear e
   intro b1 h1 e
   refine A3 e ?_
   clear e
   intro b2 h2 e
   refine A7 e ?_
   intro hf e
   exists D8 h1
   exists D8 h2
   obtain⟨h3,h4⟩:=B3 hf
   exists eq_of_beq h3
   exists eq_of_beq h4
   exists e,q
   exact gH S a (BD hk)
  ·exists e,q
 all_goals exists e,q
set_option tactic.hygienic true in
theorem A_P(S:SR c s r H){v:AV}{V:Value}{k:Kd}{m:Me}{id:String}{vs:List AV}{Vs:List Value}{w:AV}(x:VR c.hs s.heap r v V)(xs:AJ c.hs s.heap r vs Vs)(ek:kd H v=some k)(ei:WO k m=some id)(e:tG H v m vs=some (w,H')):
  AE c A (call (.builtin id) (V::Vs)) s r H w H':=by
 exists v,q
 case ref o =>
  refine A3 e ?_
  clear e
  intro ob el e
  refine A3 ek ?_
  intro ob' el' ek
  exists el.symm.trans el'
  exact qD S x xs el ek ei e
 case str l =>
  exists ek,q
  refine A3 e ?_
  clear e
  intro a h e
  exists E5 h
  refine VR.eStr x fun t=>?_
  refine AJ.e1 xs fun X1 a=>?_
  exact qE S a ei e
 case bytes l =>
  exists ek,q
  refine A3 e ?_
  clear e
  intro a h e
  exists E5 h
  refine VR.eBytes x fun t=>?_
  refine AJ.e1 xs fun X1 a=>?_
  exact gW S a ei e
 all_goals exists e,q
end
structure CP(c:Cx)(T:Tab)(N:Nm):Prop extends Lk c T N where
 dbg:∀x,(c.nm x==("__debug__":Str))=false∧(c.nm x==("__classdict__":Str))=false∧c.nm x≠(".0":Str)
 me:∀m me,kA m=some me→c.nm m=RJ me
 keepF:∀x f,N.gk x=some (.fn f)→keepIn c.K (.ref (c.fa f))=true
 keepC:∀x k,N.gk x=some (.cls k)→keepIn c.K (.ref (c.ca k))=true
 meth:∀k m f,T.meth k m=some f→c.isC k=true→findIn c.K (.ref (c.ca k)) (c.nm m)=some (some (.ref (c.fa f)))∧findIn c.K (.ref (c.ca k)) "__getattr__"=some none∧typeIn c.K (.ref (c.fa f))=some (.type "function")∧(∀a,c.isA a=true→c.nm a≠c.nm m)∧keepIn c.K (.ref (c.fa f))=true
 init:∀k f,T.init k=some f→c.isC k=true→makesIn c.K (c.ca k)=true∧findIn c.K (.ref (c.ca k)) "__init__"=some (some (.ref (c.fa f)))∧typeIn c.K (.ref (c.fa f))=some (.type "function")
noncomputable def NS(c:Cx)(A:Around)(t:Sem Bool)(s:Shared)(r:List Addr)(H:AH)(k:Bool)(H':AH):Prop :=
 ∀(Q:Bool→Shared→Prop) (E:Value→Shared→Prop),(∀s' r',Go c s r H H' s' r'→Q k s')→wpAny (model c.prog c.w) A t Q E s
noncomputable def GN(c:Cx)(A:Around)(t:Sem (List Value))(s:Shared)(r:List Addr)(H:AH)(vs:List AV)(H':AH):Prop :=
 ∀(Q:List Value→Shared→Prop) (E:Value→Shared→Prop),(∀Vs s' r',Go c s r H H' s' r'→AJ c.hs s'.heap r' vs Vs→Q Vs s')→wpAny (model c.prog c.w) A t Q E s
noncomputable def L3(c:Cx)(A:Around)(t:Sem Value)(s:Shared)(r:List Addr)(H:AH)(src:DV)(H':AH):Prop :=
 ∀(Q:Value→Shared→Prop) (E:Value→Shared→Prop),(∀X s' r',Go c s r H H' s' r'→EZ c A s.heap s' r' H' src X→Q X s')→wpAny (model c.prog c.w) A t Q E s
noncomputable def uP(c:Cx)(h:Heap)(r:List Addr):Fl→Flow→Prop
 | .next,.next=>True
 | .brk,.brk=>True
 | .ret v,.ret V=>VR c.hs h r v V
 | _,_=>False
noncomputable def CT(c:Cx)(A:Around)(t:Sem Flow)(env:Env)(s:Shared)(r:List Addr)(H:AH)(f:Fl)(σ':Env')(H':AH):Prop :=
 ∀(Q:Flow→Shared→Prop) (E:Value→Shared→Prop),(∀fl s' r',BU c (CC env) s r H H' s' r'→FR c s' r' env σ'→uP c s'.heap r' f fl→Q fl s')→wpAny (model c.prog c.w) A t Q E s
noncomputable def RK(c:Cx)(A:Around)(cd:Code)(W:Addr→Prop)(env:Env)(s:Shared)(r:List Addr)(H:AH)(f:Fl)(σ':Env')(H':AH):Prop :=
 ∀(R:Result→Shared→Prop),(∀fl s' r',BU c W s r H H' s' r'→FR c s' r' env σ'→uP c s'.heap r' f fl→R (.ok fl) s')→codeAny (model c.prog c.w) A cd R s
theorem AE.go{c:Cx}{A:Around}{t:Sem Value}{s:Shared}{r:List Addr}{H H':AH}{v:AV}(h:AE c A t s r H v H'){Q:Value→Shared→Prop}{E:Value→Shared→Prop}(q:∀X s' r',Go c s r H H' s' r'→VR c.hs s'.heap r' v X→Q X s'):wpAny (model c.prog c.w) A t Q E s:=h Q E q
theorem l8.go{c:Cx}{A:Around}{t:Sem Unit}{s:Shared}{r:List Addr}{H H':AH}(h:l8 c A t s r H H'){Q:Unit→Shared→Prop}{E:Value→Shared→Prop}(q:∀s' r',Go c s r H H' s' r'→Q () s'):wpAny (model c.prog c.w) A t Q E s:=h Q E q
theorem NS.go{c:Cx}{A:Around}{t:Sem Bool}{s:Shared}{r:List Addr}{H H':AH}{k:Bool}(h:NS c A t s r H k H'){Q:Bool→Shared→Prop}{E:Value→Shared→Prop}(q:∀s' r',Go c s r H H' s' r'→Q k s'):wpAny (model c.prog c.w) A t Q E s:=h Q E q
theorem GN.go{c:Cx}{A:Around}{t:Sem (List Value)}{s:Shared}{r:List Addr}{H H':AH}{vs:List AV}(h:GN c A t s r H vs H'){Q:List Value→Shared→Prop}{E:Value→Shared→Prop}(q:∀Vs s' r',Go c s r H H' s' r'→AJ c.hs s'.heap r' vs Vs→Q Vs s'):wpAny (model c.prog c.w) A t Q E s:=h Q E q
theorem L3.go{c:Cx}{A:Around}{t:Sem Value}{s:Shared}{r:List Addr}{H H':AH}{src:DV}(h:L3 c A t s r H src H'){Q:Value→Shared→Prop}{E:Value→Shared→Prop}(q:∀X s' r',Go c s r H H' s' r'→EZ c A s.heap s' r' H' src X→Q X s'):wpAny (model c.prog c.w) A t Q E s:=h Q E q
theorem CT.go{c:Cx}{A:Around}{t:Sem Flow}{env:Env}{s:Shared}{r:List Addr}{H H':AH}{f:Fl}{σ':Env'}(h:CT c A t env s r H f σ' H'){Q:Flow→Shared→Prop}{E:Value→Shared→Prop}(q:∀fl s' r',BU c (CC env) s r H H' s' r'→FR c s' r' env σ'→uP c s'.heap r' f fl→Q fl s'):wpAny (model c.prog c.w) A t Q E s:=h Q E q
noncomputable def A_Q(c:Cx)(A:Around)(s:Shared)(r:List Addr)(H:AH)(r':List Addr)(H':AH)(X:Value)(s₁:Shared):Prop :=
 ∀(Q:Value→Shared→Prop) (E:Value→Shared→Prop),(∀itv s₂,(∀(Q₂:Option Value→Shared→Prop) (E₂:Value→Shared→Prop),(∀s₃,Go c s r H H' s₃ r'→Q₂ none s₃)→wpAny (model c.prog c.w) A (pyNext itv) Q₂ E₂ s₂)→Q itv s₂)→wpAny (model c.prog c.w) A (pyIter X) Q E s₁
noncomputable def XQ(c:Cx)(A:Around)(t:Sem Value)(s:Shared)(r:List Addr)(H:AH)(H':AH):Prop :=
 ∀(Q:Value→Shared→Prop) (E:Value→Shared→Prop),(∀X s₁ r',A_Q c A s r H r' H' X s₁→Q X s₁)→wpAny (model c.prog c.w) A t Q E s
abbrev A_R(c:Cx)(T:Tab)(N:Nm)(k:Nat)(V:Ev):Prop:=∀{A:Around} {s:Shared} {r:List Addr} {H:AH} {env:Env} {σ:Env'} {p:PX} {ex:Expr} {v:AV} {H':AH},AR k A→SR c s r H→FR c s r env σ→ME N env.scope p ex→V.e p σ H=some (v,H')→AE c A (eval ex env) s r H v H'
abbrev A_S(c:Cx)(T:Tab)(N:Nm)(k:Nat)(V:Ev):Prop:=∀{A:Around} {s:Shared} {r:List Addr} {H:AH} {env:Env} {σ:Env'} {p:PX} {ex:Expr} {v:Bool} {H':AH},AR k A→SR c s r H→FR c s r env σ→ME N env.scope p ex→V.b p σ H=some (v,H')→NS c A (isTrue ex env (eval ex env)) s r H v H'
abbrev uQ(c:Cx)(T:Tab)(N:Nm)(k:Nat)(V:Ev):Prop:=∀{A:Around} {s:Shared} {r:List Addr} {H:AH} {env:Env} {σ:Env'} {l:List PX} {exs:List Expr} {vs:List AV} {H':AH} (pos:Pos),AR k A→SR c s r H→FR c s r env σ→JO N env.scope l exs→V.es l σ H=some (vs,H')→GN c A (spliced (backTo pos (starEach exs env))) s r H vs H'
abbrev uR(c:Cx)(T:Tab)(N:Nm)(k:Nat)(V:Ev):Prop:=∀{A:Around} {s:Shared} {r:List Addr} {H:AH} {env:Env} {σ:Env'} {p:PX} {ex:Expr} {src:DV} {H':AH},AR k A→SR c s r H→FR c s r env σ→MI N env.scope p ex→FV p=false→V.it p σ H=some (src,H')→L3 c A (eval ex env) s r H src H'
abbrev A_T(c:Cx)(T:Tab)(N:Nm)(k:Nat)(V:Ev):Prop:=∀{A:Around} {s:Shared} {r:List Addr} {H:AH} {env:Env} {σ:Env'} {p:PX} {ex:Expr} {src:DV} {H':AH},AR k A→SR c s r H→FR c s r env σ→MI N env.scope p ex→FV p=true→V.it p σ H=some (src,H')→src=.nil∧XQ c A (eval ex env) s r H H'
abbrev lK(c:Cx)(T:Tab)(N:Nm)(k:Nat)(V:Ev):Prop:=∀{A:Around} {s:Shared} {r:List Addr} {H:AH} {cenv:Env} {σ₀ σ:Env'} {elt:PX} {t:PT} {cond:Option PX} {src:DV} {j:Nat} {l:List AV} {H':AH} {elt' t' it':Expr} {ifs:List Expr} {scope:Scope} {pos:Pos} {itv:Value} {w:List Addr} {D:Addr} {xs:Array Value},
 AR k A→SR c s r H→FR c s r cenv σ₀→(∀z u,AG z σ=some u→c.isA z=false∧(IU cenv (c.nm z)→AG z σ₀=some u∨CB N t (c.nm z)=true))→(∀z u,AG z σ₀=some u→CB N t (c.nm z)=false) →
 MT N cenv.scope t t'→MC N cenv.scope cond ifs→ME N cenv.scope elt elt'→(DN src=true→∃es k p,t'=.Tuple es k p) →
 It c s r H src j itv w→B5 c s r (fun a=>a=cenv.locals∨a∈w∨a=D)→(∀a,CC cenv a→a∉w∧a≠D)→D∉w→s.heap.PlainList D xs→xs.size+k≤700→(∀x y,t=.one x∨t=.two x y→cenv.kindOf (c.nm x)=some .local) →
 (∀x y,t=.two x y→cenv.kindOf (c.nm y)=some .local)→V.comp elt t cond src j σ H=some (l,H') →
 ∀(R:Result→Shared→Prop),(∀s' r' ys,BU c (fun a=>a=cenv.locals∨a∈w∨a=D) s r H H' s' r'→s'.heap.PlainList D (xs++ys)→AJ c.hs s'.heap r' l ys.toList→FR c s' r' cenv σ₀→R (.ok .next) s') →
  codeAny (model c.prog c.w) A (.compLoop (.ListComp elt' [⟨t',it',ifs,0⟩] scope pos) 0 itv (.ref D) cenv) R s
abbrev uS(c:Cx)(T:Tab)(N:Nm)(k:Nat)(V:Ev):Prop:=∀{A:Around} {s:Shared} {r:List Addr} {H:AH} {env:Env} {σ:Env'} {elt it:PX} {t:PT} {cond:Option PX} {elt' t' it':Expr} {ifs:List Expr} {scope:Scope} {pos p2:Pos} {use:Option (Value→Sem Unit)} {v:AV} {H':AH},AR k A→SR c s r H→FR c s r env σ →
 DW scope env.scope=true→GR it t=true→FV it=false→GF N t scope=true→MT N (C7 scope env.scope) t t'→MI N env.scope it it'→MC N (C7 scope env.scope) cond ifs→ME N (C7 scope env.scope) elt elt'→V.e (.comp elt t it cond) σ H=some (v,H') →
 ∀{Q:Value→Shared→Prop} {E:Value→Shared→Prop},(∀D C s' r',Go c s r H H' s' r'→VR c.hs s'.heap r' v (.ref D)→s.heap.get? C=none→C∉r'→c.hs.get? C=none→(∃m,s'.heap.Ns C m)→compPost (model c.prog c.w) A E use Q (.ref D) C (.ok .next) s') →
 wpAny (model c.prog c.w) A (comprehension (.ListComp elt' [⟨t',it',ifs,0⟩] scope pos) scope env p2 (newList []) false (eval it' env) use) Q E s
abbrev A_U(c:Cx)(T:Tab)(N:Nm)(k:Nat)(V:Ev):Prop:=∀{A:Around} {s:Shared} {r:List Addr} {H:AH} {env:Env} {σ σ':Env'} {p:PS} {st:Stmt} {f:Fl} {H':AH},AR k A→SR c s r H→FR c s r env σ→MS N env.scope p st→V.s p σ H=some (f,σ',H')→CT c A (exec st env) env s r H f σ' H'
abbrev uT(c:Cx)(T:Tab)(N:Nm)(k:Nat)(V:Ev):Prop:=∀{A:Around} {s:Shared} {r:List Addr} {H:AH} {env:Env} {σ σ':Env'} {p:List PS} {st:List Stmt} {f:Fl} {H':AH},AR k A→SR c s r H→FR c s r env σ→TV N env.scope p st→V.ss p σ H=some (f,σ',H')→CT c A (execs st env) env s r H f σ' H'
abbrev A_V(c:Cx)(T:Tab)(N:Nm)(k:Nat)(V:Ev):Prop:=∀{A:Around} {s:Shared} {r:List Addr} {H:AH} {env:Env} {σ σ':Env'} {t:PX} {b:List PS} {t':Expr} {b':List Stmt} {f:Fl} {H':AH},AR k A→SR c s r H→FR c s r env σ→ME N env.scope t t'→TV N env.scope b b'→V.s (.whl t b) σ H=some (f,σ',H')→RK c A (.whileLoop t' b' [] env) (CC env) env s r H f σ' H'
abbrev lL(c:Cx)(T:Tab)(N:Nm)(k:Nat)(V:Ev):Prop:=∀{A:Around} {s:Shared} {r:List Addr} {H:AH} {env:Env} {σ σ':Env'} {t:PT} {b:List PS} {t':Expr} {b':List Stmt} {src:DV} {j:Nat} {f:Fl} {H':AH} {itv:Value} {w:List Addr},AR k A→SR c s r H→FR c s r env σ→MT N env.scope t t'→TV N env.scope b b'→(DN src=true→∃es k p,t'=.Tuple es k p) →
 It c s r H src j itv w→B5 c s r (fun a=>CC env a∨a∈w)→(∀a,CC env a→a∉w)→V.loop t b src j σ H=some (f,σ',H')→RK c A (.forLoop t' itv b' [] env) (fun a=>CC env a∨a∈w) env s r H f σ' H'
abbrev lM(c:Cx)(T:Tab)(N:Nm)(k:Nat)(V:Ev):Prop:=∀{A:Around} {s:Shared} {r:List Addr} {H:AH} {f:Nat} {vs:List AV} {Vs:List Value} {v:AV} {H':AH},AR k A→SR c s r H→AJ c.hs s.heap r vs Vs→V.call f vs H=some (v,H') →
 ∀(R:Result→Shared→Prop),(∀X s' r',Go c s r H H' s' r'→VR c.hs s'.heap r' v X→R (.ok (.ret X)) s')→codeAny (model c.prog c.w) A (.call (.ref (c.fa f)) ⟨Vs,[]⟩) R s
structure Sd(c:Cx)(T:Tab)(N:Nm)(k:Nat)(V:Ev):Prop where
 any:∀σ H,V.e .any σ H=none
 pr:∀p σ H src H',V.it p σ H=some (src,H')→DN src=true→∃q,p=.enum q
 e:A_R c T N k V
 b:A_S c T N k V
 es:uQ c T N k V
 it:uR c T N k V
 z:A_T c T N k V
 ln:∀{t:PT} {b:List PS} {j:Nat} {σ σ':Env'} {H H':AH} {f:Fl},V.loop t b .nil j σ H=some (f,σ',H')→f=.next∧σ'=σ∧H'=H
 comp:lK c T N k V
 cu:uS c T N k V
 s:A_U c T N k V
 ss:uT c T N k V
 w:A_V c T N k V
 loop:lL c T N k V
 call:lM c T N k V
section
variable{c:Cx}{T:Tab}{N:Nm}{k:Nat}{V:Ev}{A:Around}{s:Shared}{r:List Addr}{H H':AH}{env:Env}{σ:Env'}{v:AV}{pos:Pos}
theorem gX(L:CP c T N)(F:FR c s r env σ)(S:SR c s r H){x:Nat}(hx:ET env.scope (N.nm x)=true)(e:AG x σ=some v):AE c A (eval (.Name (N.nm x) pos) env) s r H v H:=by
 intro Q E q
 have kn:IU env (c.nm x):=by
  rw [L.nm] at hx
  unfold ET at hx
  split at hx<;>first | exact .inl (by assumption) | exact .inr (.inl (by assumption)) | exact .inr (.inr (by assumption)) | exists hx,q
 refine Og.AB (F.vars x v e kn) fun X n y=>?_
 rw [L.nm]
 refine wpAny_Name ?_ (L.dbg x).1
 have q':=q X s r (Go.refl S) y
 rcases n with ⟨e1,m,n,e2⟩ | ⟨e1 | e1,a,l,i⟩
 ·exact wpAny_loadName_local F.kind e1 n e2 q'
 ·exact wpAny_loadName_cell F.kind e1 l i q'
 ·exact wpAny_loadName_free F.kind e1 l i q' (L.dbg x).2.1
theorem uU(D:Sd c T N k V)(R:AR k A)(S:SR c s r H)(F:FR c s r env σ){o:sE}{l l2:PX}{l' l2':Expr}(m1:ME N env.scope l l')(m2:ME N env.scope l2 l2')
  (e:CN T V (.bin o l l2) σ H=some (v,H')):AE c A (eval (.BinOp l' (jY o) l2' pos) env) s r H v H':=by
 intro Q E q
 refine A5 e ?_
 clear e
 intro a H1 e1 e
 ·refine A5 e ?_
  clear e
  intro b H2 e2 e
  ·with_reducible refine wpAny_BinOp ((D.e R S F m1 e1).go fun X s1 r1 G1 y1=>?_)
   with_reducible refine(D.e R G1.sr (F.go S G1) m2 e2).go fun Y s2 r2 G2 y2=>?_
   with_reducible refine(oG G2.sr (G2.vr G1.sr y1) y2 e).go fun Z s3 r3 G3 y3=>?_
   exact q Z s3 r3 ((G1.trans G2).trans G3) y3
theorem PR(D:Sd c T N k V){o:Cm}{l2:PX}{l2':Expr}{sc:Scope}(m2:ME N sc l2 l2'){σ:Env'}{H1:AH}{p:AV×AH}(e2:V.e l2 σ H1=some p):behindInMarks (eG o) l2'=false:=by
 rcases m2.noSet with rfl | h
 ·rw [D.any] at e2;exact AU e2
 ·exists l2'<;>first | rfl | exact absurd rfl h
theorem uV(D:Sd c T N k V)(R:AR k A)(S:SR c s r H)(F:FR c s r env σ){o:Cm}{l l2:PX}{l' l2':Expr}(m1:ME N env.scope l l')(m2:ME N env.scope l2 l2')
  (e:CN T V (.cmp o l l2) σ H=some (v,H')):AE c A (eval (.Compare l' [eG o] [l2'] pos) env) s r H v H':=by
 intro Q E q
 refine A5 e ?_
 clear e
 intro a H1 e1 e
 ·refine A5 e ?_
  clear e
  intro b H2 e2 e
  ·refine A8 e ?_
   intro x e3 e4
   exists e4,q
   with_reducible refine wpAny_Compare1 ((D.e R S F m1 e1).go fun X s1 r1 G1 y1=>?_) (PR D m2 e2)
   with_reducible refine(D.e R G1.sr (F.go S G1) m2 e2).go fun Y s2 r2 G2 y2=>?_
   with_reducible refine(oH G2.sr R (G2.vr G1.sr y1) y2 e3).go fun Z s3 r3 G3 y3=>?_
   exact q Z s3 r3 ((G1.trans G2).trans G3) y3
theorem uW(D:Sd c T N k V)(R:AR k A)(S:SR c s r H)(F:FR c s r env σ){l l2:PX}{l' l2':Expr}(m1:ME N env.scope l l')(m2:ME N env.scope l2 l2')
  (e:CN T V (.and2 l l2) σ H=some (v,H')):AE c A (eval (.BoolOp .And [l',l2'] pos) env) s r H v H':=by
 intro Q E q
 refine A5 e ?_
 clear e
 intro a H1 e1 e
 ·with_reducible refine BoolOp_and ((D.e R S F m1 e1).go fun X s1 r1 G1 y1=>?_)
  refine A3 e ?_
  clear e
  intro b et e
  induction b using Bool.casesOn with
  | true =>
   with_reducible refine IE G1.sr y1 et fun s2 G2=>?_
   rw [if_pos rfl]
   have G:=G1.trans G2
   replace e:V.e l2 σ H1=some (v,H'):=e
   with_reducible refine BoolOp_one ((D.e R G.sr (F.go S G) m2 e).go fun Y s3 r3 G3 y3=>?_)
   exact q Y s3 r3 (G.trans G3) y3
  | false =>
   exists e,q
   with_reducible refine IE G1.sr y1 et fun s2 G2=>?_
   rw [if_neg (by decide)]
   exact q X s2 r1 (G1.trans G2) (G2.vr G1.sr y1)
theorem A_W(D:Sd c T N k V)(R:AR k A)(S:SR c s r H)(F:FR c s r env σ){l l2:PX}{l' l2':Expr}(m1:ME N env.scope l l')(m2:ME N env.scope l2 l2')
  (e:CN T V (.or2 l l2) σ H=some (v,H')):AE c A (eval (.BoolOp .Or [l',l2'] pos) env) s r H v H':=by
 intro Q E q
 refine A5 e ?_
 clear e
 intro a H1 e1 e
 ·with_reducible refine BoolOp_or ((D.e R S F m1 e1).go fun X s1 r1 G1 y1=>?_)
  refine A3 e ?_
  clear e
  intro b et e
  induction b using Bool.casesOn with
  | true =>
   exists e,q
   with_reducible refine IE G1.sr y1 et fun s2 G2=>?_
   rw [if_pos rfl]
   exact q X s2 r1 (G1.trans G2) (G2.vr G1.sr y1)
  | false =>
   with_reducible refine IE G1.sr y1 et fun s2 G2=>?_
   rw [if_neg (by decide)]
   have G:=G1.trans G2
   replace e:V.e l2 σ H1=some (v,H'):=e
   with_reducible refine BoolOp_one ((D.e R G.sr (F.go S G) m2 e).go fun Y s3 r3 G3 y3=>?_)
   exact q Y s3 r3 (G.trans G3) y3
theorem uX(D:Sd c T N k V)(R:AR k A)(S:SR c s r H)(F:FR c s r env σ){l:PX}{l':Expr}(m1:ME N env.scope l l')
  (e:CN T V (.not l) σ H=some (v,H')):AE c A (eval (.UnaryOp .Not l' pos) env) s r H v H':=by
 intro Q E q
 refine A5 e ?_
 clear e
 intro a H1 e1 e
 ·refine A8 e ?_
  intro x e3 e4
  exists e4
  with_reducible refine UnaryOp_ ((D.e R S F m1 e1).go fun X s1 r1 G1 y1=>?_)
  with_reducible refine not_of (IE G1.sr y1 e3 fun s2 G2=>?_)
  exact q _ s2 r1 (G1.trans G2) (.bool _)
theorem MB(S:SR c s r H){v:AV}{ex:Expr}{sc:Scope}(m:ME N sc (.const v) ex):AE c A (eval ex env) s r H v H:=by
 refine m.elim fun kk n pos h=>?_
 clear m
 intro Q E q
 induction v using Og.AV.casesOn with
 | none=>exists h,q;with_reducible exact wpAny_Constant_none (q _ _ r (Go.refl S) .none)
 | bool b=>exists h,q;with_reducible exact wpAny_Constant_bool (q _ _ r (Go.refl S) (.bool _))
 | int i=>exists h,q;with_reducible exact wpAny_Constant_int (q _ _ r (Go.tok S _) (.int _ _))
 | str l=>exists h,q;with_reducible exact wpAny_Constant_str (q _ _ r (Go.tok S _) (.str _ _))
 | bytes l=>exists h,q;with_reducible exact PySem.W.Constant_bytes (q _ _ r (Go.tok S _) (.bytes _ _))
 | _=>exact h.elim
theorem uY(S:SR c s r H){n kk:Nat}{p:Pos}:AE c A (eval (.UnaryOp .USub (.Constant (.int n) kk p) pos) env) s r H (.int (-(n:Int))) H:=by
 intro Q E q
 with_reducible refine UnaryOp_ (wpAny_Constant_int (PyProof.Rows.neg_int ?_))
 exact q _ _ r (Go.tok S _) (.int _ _)
theorem uZ(S:SR c s r H){v:AV}{V:Value}(y:VR c.hs c.hs [] v V):VR c.hs s.heap r v V :=
 y.mono (fun a o e t=>S.keep a o (fun z=>by
  refine Og.IK c.stat fun o' es ep e' q _=>?_
  subst z
  rw [e] at e';exists e'
  obtain⟨_,_,_,d⟩:=t
  rw [q] at d;exists d) e) (List.nil_prefix)
theorem qF(S:SR c s r H){v:List AV}{V:List Value}(y:AJ c.hs c.hs [] v V):AJ c.hs s.heap r v V :=
 y.mono (fun a o e t=>S.keep a o (fun z=>by
  refine Og.IK c.stat fun o' es ep e' q _=>?_
  subst z
  rw [e] at e';exists e'
  obtain⟨_,_,_,d⟩:=t
  rw [q] at d;exists d) e) (List.nil_prefix)
theorem qG(L:CP c T N)(S:SR c s r H)(F:FR c s r env σ){x:Nat}{g:Str}(hg:AS env.scope g=true)(hk:N.gk g=some (.val x))(e:T.gv x=some v):AE c A (eval (.Name g pos) env) s r H v H:=by
 intro Q E q
 refine Og.AB ((L.gk g _ hk).1 v e) fun X e1 y=>?_
 exact NQ L.toLk F S hg hk e1 (q X s r (Go.refl S) (uZ S y))
theorem NT(L:CP c T N)(S:SR c s r H)(F:FR c s r env σ){p:PX}{ex:Expr}(m:ME N env.scope p ex)(e:eC p σ=some v):AE c A (eval ex env) s r H v H:=by
 induction p using Og.PX.casesOn with
 | const v' =>
  exists (DI e).2
  exact MB S m
 | bin o pa pb =>
  refine A7 e ?_
  clear e
  intro ho e
  exists of_decide_eq_true ho
  refine A3 e ?_
  clear e
  intro l hl e
  exists J0 hl
  refine A3 e ?_
  clear e
  intro x hx e
  exists aZ hx
  refine A3 e ?_
  clear e
  intro v' e1 e
  refine A3 e ?_
  clear e
  intro m' hm e
  exists B6 hm
  refine A7 e ?_
  clear e
  intro hf e
  exists e,q
  clear ho hl hx hm
  refine m.elim fun l' r' pos m1 m2=>m2.elim fun p2 hx=>?_
  intro Q E q
  with_reducible refine wpAny_BinOp ((MB S m1).go fun X s1 r1 G1 y1=>?_)
  with_reducible refine(gX L (F.go S G1) G1.sr hx e1).go fun Y s2 r2 G2 y2=>?_
  have e2:dS H .add (.str l) (.str m')=some (.str (l++m'),H):=by
   show CJ (CF (l.length+m'.length)) _=_
   rw [hf];rfl
  with_reducible refine(oG G2.sr (G2.vr G1.sr y1) y2 e2).go fun Z s3 r3 G3 y3=>?_
  exact q Z s3 r3 ((G1.trans G2).trans G3) y3
 | _=>exact AU e
theorem v7(L:CP c T N)(D:Sd c T N k V)(R:AR k A)(S:SR c s r H)(F:FR c s r env σ){t a b:PX}{t' a' b':Expr}(m1:ME N env.scope t t')(m2:ME N env.scope a a')(m3:ME N env.scope b b')
  (e:CN T V (.ite t a b) σ H=some (v,H')):AE c A (eval (.IfExp t' a' b' pos) env) s r H v H':=by
 intro Q E q
 refine A5 e ?_
 clear e
 intro x H1 e1 e
 with_reducible refine wpAny_IfExp ((D.b R S F m1 e1).go fun s1 r1 G1=>?_)
 refine Og.sS (nR a b σ) (fun p hp=>?_) fun hp=>?_
 ·
  rw [hp] at e
  refine A3 hp ?_
  intro va ea hp
  refine A8 hp ?_
  intro vb eb hp
  exists hp,q
  induction x using Bool.casesOn with
  | true =>
   exists e,q
   rw [if_pos rfl]
   with_reducible refine(NT L G1.sr (F.go S G1) m2 ea).go fun Y s3 r3 G3 y3=>?_
   exact q Y s3 r3 (G1.trans G3) y3
  | false =>
   exists e,q
   rw [if_neg (by decide)]
   with_reducible refine(NT L G1.sr (F.go S G1) m3 eb).go fun Y s3 r3 G3 y3=>?_
   exact q Y s3 r3 (G1.trans G3) y3
 ·
  rw [hp] at e
  induction x using Bool.casesOn with
  | true =>
   rw [if_pos rfl]
   replace e:V.e a σ H1=some (v,H'):=e
   with_reducible refine(D.e R G1.sr (F.go S G1) m2 e).go fun Y s3 r3 G3 y3=>?_
   exact q Y s3 r3 (G1.trans G3) y3
  | false =>
   rw [if_neg (by decide)]
   replace e:V.e b σ H1=some (v,H'):=e
   with_reducible refine(D.e R G1.sr (F.go S G1) m3 e).go fun Y s3 r3 G3 y3=>?_
   exact q Y s3 r3 (G1.trans G3) y3
theorem NU{e:Expr}(h:FJ e=true){attr:PySem.Str}{env:Env}{x:Sem Value}:attributeBase e attr env x=x:=by
 induction e using Expr.casesOn with
 | Call f es kw pos =>
  induction f using Expr.casesOn with
  | Name id p =>
   induction es using List.casesOn with
   | nil =>
    induction kw using List.casesOn with
    | nil =>
     have h:(!J2 id ("super":PySem.Str))=true:=h
     refine if_pos ?_
     show(((id != ("super":PySem.Str)||_)||_)||_)=true
     rw [show(id != ("super":PySem.Str))=true from(congrArg (!·) (Z3 id ("super":PySem.Str))).trans h];rfl
    | cons=>rfl
   | cons=>rfl
  | _=>rfl
 | _=>rfl
theorem qH(L:CP c T N)(D:Sd c T N k V)(R:AR k A)(S:SR c s r H)(F:FR c s r env σ){p:PX}{a:Nat}{ex:Expr}(ha:N.isA a=true)(hs:FJ ex=true)(m1:ME N env.scope p ex)
  (e:CN T V (.attr p a) σ H=some (v,H')):AE c A (eval (.Attribute ex (N.nm a) pos) env) s r H v H':=by
 intro Q E q
 refine A5 e ?_
 clear e
 intro x H1 e1 e
 ·refine A7 e ?_
  clear e
  intro _ e
  ·refine A8 e ?_
   intro y e3 e4
   exists e4,q
   refine Attribute_any_ (he:=by rw [arm_eval_Attribute,NU hs]) ((D.e R S F m1 e1).go fun X s1 r1 G1 y1=>?_)
   rw [L.nm]
   rw [L.isA] at ha
   with_reducible refine(qA G1.sr y1 ha e3).go fun Y s2 r2 G2 y2=>?_
   exact q Y s2 r2 (G1.trans G2) y2
theorem v8(D:Sd c T N k V)(R:AR k A)(S:SR c s r H)(F:FR c s r env σ){p i:PX}{ex j:Expr}(m1:ME N env.scope p ex)(m2:ME N env.scope i j)
  (e:CN T V (.idx p i) σ H=some (v,H')):AE c A (eval (.Subscript ex j pos) env) s r H v H':=by
 intro Q E q
 refine A5 e ?_
 clear e
 intro a H1 e1 e
 ·refine A5 e ?_
  clear e
  intro b H2 e2 e
  ·refine A8 e ?_
   intro y e3 e4
   exists e4,q
   with_reducible refine Subscript_ ((D.e R S F m1 e1).go fun X s1 r1 G1 y1=>?_)
   with_reducible refine(D.e R G1.sr (F.go S G1) m2 e2).go fun Y s2 r2 G2 y2=>?_
   with_reducible refine(uD G2.sr (G2.vr G1.sr y1) y2 e3).go fun Z s3 r3 G3 y3=>?_
   exact q Z s3 r3 ((G1.trans G2).trans G3) y3
theorem oJ(D:Sd c T N k V)(R:AR k A)(S:SR c s r H)(F:FR c s r env σ){p:Option PX}{ex:Option Expr}{o:Option Int}(m:MO N env.scope p ex)(e:eB V p σ H=some (o,H')){Q:Value→Shared→Prop}{E:Value→Shared→Prop}
  (q:∀X s' r',Go c s r H H' s' r'→IsPart X o→Q X s'):wpAny (model c.prog c.w) A (evalPart ex env) Q E s:=by
 cases m with
 | none =>
  exists e
  exact wpAny_evalPart_none (q _ _ r (Go.refl S) .none)
 | some m =>
  refine A5 e ?_
  clear e
  intro v H1 e1 e
  refine A8 e ?_
  clear e
  intro i hi e
  cases BX hi
  exists e
  refine wpAny_evalPart_some ((D.e R S F m e1).go fun X s1 r1 G1 y1=>?_)
  refine VR.eInt y1 fun t=>?_
  exact q _ s1 r1 G1 (.int _ _)
theorem qI(S:SR c s r H){a v:AV}{V vl vu:Value}{H':AH}{lo hi:Option Int}{value slice:Expr}(x:VR c.hs s.heap r a V)(pl:IsPart vl lo)(pu:IsPart vu hi)(e:TE H a lo hi=some (v,H'))(Q:Value→Shared→Prop)(E:Value→Shared→Prop)(q:∀V s' r',Go c s r H H' s' r'→VR c.hs s'.heap r' v V→Q V s'):
  wpAny (model c.prog c.w) A (subscriptTail value slice V (.ref s.heap.objs.size)) Q E { s with heap:=s.heap.push (B0 vl vu .none) }:=by
 by_cases nb:∀o l,a=.ref o→H[o]?≠some (.barr l)
 ·exact uE S x pl pu e nb Q E q
 ·obtain⟨o,l,rfl,el⟩:∃o l,a=.ref o∧H[o]?=some (.barr l):=by
   refine Classical.byContradiction fun z=>nb fun o l e1 e2=>z ⟨o,l,e1,e2⟩
  refine A3 e ?_
  clear e
  intro ob el' e
  exists el.symm.trans el'
  refine A7 e ?_
  clear e
  intro hf e
  ·refine A8 e ?_
   intro y e3 e4
   exists e4,q
   exact gS S x pl pu el hf e3 Q E q
theorem v9(D:Sd c T N k V)(R:AR k A)(S:SR c s r H)(F:FR c s r env σ){p:PX}{lo hi:Option PX}{ex:Expr}{lo' hi':Option Expr}{q1:Pos}(m1:ME N env.scope p ex)(m2:MO N env.scope lo lo')(m3:MO N env.scope hi hi')
  (e:CN T V (.slc p lo hi) σ H=some (v,H')):AE c A (eval (.Subscript ex (.Slice lo' hi' .none q1) pos) env) s r H v H':=by
 intro Q E q
 refine A5 e ?_
 clear e
 intro a H1 e1 e
 ·refine A5 e ?_
  clear e
  intro x H2 e2 e
  ·refine A5 e ?_
   clear e
   intro y H3 e3 e
   ·with_reducible refine Subscript_ ((D.e R S F m1 e1).go fun X s1 r1 G1 y1=>?_)
    have F1:=F.go S G1
    with_reducible refine wpAny_Slice (oJ D R G1.sr F1 m2 e2 fun X2 s2 r2 G2 p2=>?_)
    with_reducible refine oJ D R G2.sr (F1.go G1.sr G2) m3 e3 fun X3 s3 r3 G3 p3=>?_
    refine wpAny_evalPart_none ?_
    with_reducible refine qI G3.sr (G3.vr G2.sr (G2.vr G1.sr y1)) p2 p3 e _ _ fun Z s4 r4 G4 y4=>?_
    exact q Z s4 r4 (((G1.trans G2).trans G3).trans G4) y4
theorem vA(D:Sd c T N k V)(R:AR k A)(S:SR c s r H)(F:FR c s r env σ){p:PX}{ex:Expr}{kk:Nat}{q1 u1 v1:Pos}(m1:ME N env.scope p ex)
  (e:CN T V (.rev p) σ H=some (v,H')):AE c A (eval (.Subscript ex (.Slice .none .none (some (.UnaryOp .USub (.Constant (.int 1) kk u1) v1)) q1) pos) env) s r H v H':=by
 intro Q E q
 refine A5 e ?_
 clear e
 intro a H1 e1 e
 ·with_reducible refine Subscript_ ((D.e R S F m1 e1).go fun X s1 r1 G1 y1=>?_)
  with_reducible refine wpAny_Slice (wpAny_evalPart_none (wpAny_evalPart_none (wpAny_evalPart_some ?_)))
  with_reducible refine UnaryOp_ (wpAny_Constant_int (PyProof.Rows.neg_int ?_))
  have G2:=Go.tok G1.sr (s1.toks+1+1)
  with_reducible refine uF G2.sr (G2.vr G1.sr y1) e _ _ fun Z s4 r4 G4 y4=>?_
  exact q Z s4 r4 ((G1.trans G2).trans G4) y4
theorem vB(D:Sd c T N k V)(R:AR k A)(S:SR c s r H)(F:FR c s r env σ){l:List PX}{exs:List Expr}{kk:Nat}(m:JO N env.scope l exs)
  (e:CN T V (.tup l) σ H=some (v,H')):AE c A (eval (.Tuple exs kk pos) env) s r H v H':=by
 intro Q E q
 refine A5 e ?_
 clear e
 intro vs H1 e1 e
 ·refine A7 e ?_
  clear e
  intro hf e
  ·exists e,q
   with_reducible refine Tuple_ ((D.es _ R S F m e1).go fun Vs s1 r1 G1 y1=>?_)
   have hz:Vs.length≤sizeLine:=by rw [←y1.length];exact AT hf
   with_reducible refine newTuple_N G1.sr.fr G1.sr.news (fun h' Fh Nh=>?_) hz
   have G2:=Go.ofNews (more:=[(s1.heap.objs.size,_)]) G1.sr Fh Nh s1.toks
   have hm:=(Nh (s1.heap.objs.size,{ cls:=.type "tuple",data:=.seq Vs.toArray }) (List.mem_cons_self)).1
   exact q _ _ r1 (G1.trans G2) (.tup ⟨_,hm,rfl,_,rfl⟩ (by simpa using G2.vrs G1.sr y1))
theorem qJ(D:Sd c T N k V)(R:AR k A)(S:SR c s r H)(F:FR c s r env σ){l:List PX}{exs:List Expr}(m:JO N env.scope l exs)
  (e:CN T V (.list l) σ H=some (v,H')):AE c A (eval (.List exs pos) env) s r H v H':=by
 intro Q E q
 refine A5 e ?_
 clear e
 intro vs H1 e1 e
 ·refine A7 e ?_
  clear e
  intro hf e
  ·exists e,q
   with_reducible refine List_ ((D.es _ R S F m e1).go fun Vs s1 r1 G1 y1=>?_)
   have hz:Vs.length≤sizeLine:=by rw [←y1.length];exact AT hf
   with_reducible refine newList_N G1.sr.fr G1.sr.news (fun h' Fh Nh=>?_) hz
   have G0:=Go.ofNews (more:=[(s1.heap.objs.size,_)]) G1.sr Fh Nh s1.toks
   have G2:=Go.newOf (o:=.list vs) (D:=s1.heap.objs.size) (more:=[(s1.heap.objs.size,{ cls:=.type "list",data:=.seq Vs.toArray })]) G1.sr Fh Nh List.mem_cons_self (CE _) s1.toks
    ⟨Vs.toArray,0,rfl,(G0.vrs G1.sr y1).mono (fun _ _ e _=>e) (List.prefix_append ..)⟩
   exact q _ _ _ (G1.trans G2) (VR.last G1.sr _)
end
section
variable{c:Cx}{T:Tab}{N:Nm}{k:Nat}{V:Ev}{A:Around}{s s₁:Shared}{r r₁:List Addr}{H H₁ H':AH}{env:Env}{σ:Env'}{v:AV}{pos:Pos}{W:Addr→Prop}
theorem SR.adopt(S:SR c s r H){a:Addr}{o:AO}{ob:Obj}(ha:s.heap.get? a=some ob)(hs:c.hs.get? a=none)(nr:a∉r)(x:OR c s.heap (r++[a]) o ob):SR c s (r++[a]) (H++[o]):=by
 refine⟨S.keep,S.stat,by simp [S.len],fun i o' e=>?_,?_,fun b m=>?_,S.gens,S.os⟩
 ·by_cases hi:i<H.length
  ·rw [List.getElem?_append_left hi] at e
   refine Og.BV (S.obj i o' e) fun b ob' e1 e2 e3=>?_
   exact⟨b,ob',M4 (List.prefix_append ..) e1,e2,e3.mono (fun _ _ e _=>e) (List.prefix_append ..)⟩
  ·have hi2:i=H.length:=by
    have:=(List.getElem?_eq_some_iff.mp e).1
    simp at this;lia
   subst hi2
   simp at e
   subst e
   exact⟨a,ob,by rw [←S.len];simp,ha,x⟩
 ·refine List.nodup_append.mpr ⟨S.nodup,by simp,fun b hb d hd=>?_⟩
  simp at hd;subst hd
  exact fun q=>nr (q▸hb)
 ·rcases List.mem_append.mp m with q | q
  ·exact S.fresh b q
  ·simp at q;subst q;exact hs
theorem FM(S:SR c s r H){a:Addr}(e:s.heap.get? a=none):c.hs.get? a=none:=(FL S e).1
theorem Go.adopt(S:SR c s r H)(G:Go c s r H H₁ s₁ r₁){a:Addr}{o:AO}{ob:Obj}(f:s.heap.get? a=none)(ha:s₁.heap.get? a=some ob)(nr:a∉r₁)(x:OR c s₁.heap (r₁++[a]) o ob):Go c s r H (H₁++[o]) s₁ (r₁++[a]):=by
 refine⟨G.sr.adopt ha (FM S f) nr x,G.pre.trans (List.prefix_append ..),⟨G.evo.keep,fun b m=>?_⟩,fun i n es b e eb=>?_⟩
 ·rcases List.mem_append.mp m with q | q
  ·exact G.evo.new b q
  ·simp at q;subst q;exact .inr f
 ·refine Og.ER (G.stamp i n es b e eb) fun n' es' e1 e2=>?_
  exact⟨n',es',by rw [List.getElem?_append_left (List.getElem?_eq_some_iff.mp e1).1];exact e1,e2⟩
theorem BP{e:Expr}{es:List Expr}(h:∀x q,e≠.Starred x q):starEach (e::es) env=(false,eval e env)::starEach es env:=by
 exists e<;>first | rfl | exact absurd rfl (h _ _)
theorem CU{sc:Scope}{l:List PX}{exs:List Expr}(m:JO N sc l exs):(backTo pos (starEach exs env)).any (·.1)=false∧(backTo pos (starEach exs env)).all (!·.1)=true:=by
 induction exs generalizing l with
 | nil=>exact⟨rfl,rfl⟩
 | cons e exs ih =>
  cases m with | cons h m =>
  rw [BP h.1]
  obtain⟨a,b⟩:=ih m
  exact⟨by show(false||(backTo pos (starEach exs env)).any (·.1))=false;rw [a];rfl,by show(true&&(backTo pos (starEach exs env)).all (!·.1))=true;rw [b];rfl⟩
theorem IF{f:Value}{sc:Scope}{l:List PX}{exs:List Expr}{vs:List AV}{Q:Args→Shared→Prop}{E:Value→Shared→Prop}(m:JO N sc l exs)(h:GN c A (spliced (backTo pos (starEach exs env))) s r H vs H')
  (q:∀Vs s' r',Go c s r H H' s' r'→AJ c.hs s'.heap r' vs Vs→Q ⟨Vs,[]⟩ s'):wpAny (model c.prog c.w) A (evalArgs f true (backTo pos (starEach exs env)) []) Q E s:=by
 have h':=GN.go h (E:=E) (Q:=fun Vs s'=>Q ⟨Vs,[]⟩ s') q
 cases m with
 | nil=>exact fun Γ p hΓ=>(PyProof.Rows.evalArgs_none (M:=model c.prog c.w) (A:=A) (E:=E) (f:=f) (Q:=Q) (show Q ⟨[],[]⟩ s from h' Γ p hΓ)) Γ p hΓ
 | cons hn m =>
  rw [BP hn.1] at h' ⊢
  exact evalArgs_plain h'
theorem RL{a:Addr}{first:List Value}{sc:Scope}{l:List PX}{exs:List Expr}{vs:List AV}{Q:Value→Shared→Prop}{E:Value→Shared→Prop}(hk:keepIn c.K (.ref a)=true)(m:JO N sc l exs)(h:GN c A (spliced (backTo pos (starEach exs env))) s r H vs H')
  (q:∀Vs s' r',Go c s r H H' s' r'→AJ c.hs s'.heap r' vs Vs→wpAny (model c.prog c.w) A (call (.ref a) (first++Vs)) Q E s'):wpAny (model c.prog c.w) A (callWith pos (.ref a) first (backTo pos (starEach exs env)) []) Q E s :=
 callWith_of (P:=c.K.In) (by rw [(CU m).1];rfl) (keeps_K hk) (IF m h fun Vs s' r' G y=>⟨G.sr.X,q Vs s' r' G y⟩)
theorem JG{id:String}{first:List Value}{sc:Scope}{l:List PX}{exs:List Expr}{vs:List AV}{Q:Value→Shared→Prop}{E:Value→Shared→Prop}(m:JO N sc l exs)(h:GN c A (spliced (backTo pos (starEach exs env))) s r H vs H')
  (q:∀Vs s' r',Go c s r H H' s' r'→AJ c.hs s'.heap r' vs Vs→wpAny (model c.prog c.w) A (call (.builtin id) (first++Vs)) Q E s'):wpAny (model c.prog c.w) A (callWith pos (.builtin id) first (backTo pos (starEach exs env)) []) Q E s :=
 callWith_builtin (CU m).1 (IF m h fun Vs s' r' G y=>q Vs s' r' G y)
theorem lN{t:String}{first:List Value}{sc:Scope}{l:List PX}{exs:List Expr}{vs:List AV}{Q:Value→Shared→Prop}{E:Value→Shared→Prop}(m:JO N sc l exs)(h:GN c A (spliced (backTo pos (starEach exs env))) s r H vs H')
  (q:∀Vs s' r',Go c s r H H' s' r'→AJ c.hs s'.heap r' vs Vs→wpAny (model c.prog c.w) A (call (.type t) (first++Vs)) Q E s'):wpAny (model c.prog c.w) A (callWith pos (.type t) first (backTo pos (starEach exs env)) []) Q E s :=
 PyProof.Rows.callWith_type (CU m).1 (IF m h fun Vs s' r' G y=>q Vs s' r' G y)
theorem lO(L:CP c T N)(D:Sd c T N k V)(R:AR k A)(S:SR c s r H)(F:FR c s r env σ){f:Nat}{g:Str}{l:List PX}{exs:List Expr}{p:Pos}(hg:AS env.scope g=true)(hk:N.gk g=some (.fn f))(m:JO N env.scope l exs)
  (e:CN T V (.callF f l) σ H=some (v,H')):AE c A (eval (.Call (.Name g p) exs [] pos) env) s r H v H':=by
 intro Q E q
 refine A5 e ?_
 clear e
 intro vs H1 e1 e
 ·refine Call_ (NQ L.toLk F S hg hk (L.gk g _ hk).1 ?_)
  refine RL (L.keepF g f hk) m (D.es _ R S F m e1) fun Vs s1 r1 G1 y1=>?_
  refine wpAny_call (D.call R G1.sr y1 e _ fun X s2 r2 G2 y2=>?_)
  exact q X s2 r2 (G1.trans G2) y2
theorem lP(L:CP c T N)(S:SR c s r H){kk f:Nat}(hi:T.init kk=some f)(hc:c.isC kk=true){Vs:List Value}{R:Result→Shared→Prop}
  (h:∀x s1 r1,Go c s r H (H++[.ns [],.inst kk H.length]) s1 r1→VR c.hs s1.heap r1 (.ref (H.length+1)) (.ref x)→codeAny (model c.prog c.w) (A.under (.builtin "type.__call__" ⟨.ref (c.ca kk)::Vs,[]⟩)) (.call (.ref (c.fa f)) ⟨.ref x::Vs,[]⟩) (InitBack x R) s1) :
  codeAny (model c.prog c.w) A (.call (.ref (c.ca kk)) ⟨Vs,[]⟩) R s:=by
 refine Og.BB (L.init kk f hi hc) fun h1 h2 h3=>?_
 refine make_K S.fr S.news S.X h1 h2 h3 fun x dx h' Fh Nh lo lt=>?_
 have fx:s.heap.get? x=none:=by
  cases q:s.heap.get? x with
  | none=>rfl
  | some o =>
   by_cases z:x=c.L
   ·exact absurd z (Nh (x,_) List.mem_cons_self).2.1
   ·exact absurd (lo (x,o) (EN.mpr ⟨z,q⟩)) (Nat.not_lt.mpr (Nat.le_of_lt lt))
 have fd:s.heap.get? dx=none:=by
  cases q:s.heap.get? dx with
  | none=>rfl
  | some o =>
   by_cases z:dx=c.L
   ·exact absurd z (Nh (dx,_) (List.mem_cons_of_mem _ List.mem_cons_self)).2.1
   ·exact absurd (lo (dx,o) (EN.mpr ⟨z,q⟩)) (Nat.lt_irrefl _)
 have G0:Go c s r H H { s with heap:=h',toks:=s.toks } r:=Go.ofNews (more:=[(x,instObj (c.ca kk) dx),(dx,emptyDict)]) S Fh Nh s.toks
 have nr:∀a,s.heap.get? a=none→a∉r:=fun a e m=>by
  refine Og.FG (S.has m) fun _ _ ob _ _ q _=>?_
  rw [e] at q;exists q
 have hd:h'.get? dx=some emptyDict:=(Nh (dx,_) (List.mem_cons_of_mem _ List.mem_cons_self)).1
 have hx:h'.get? x=some (instObj (c.ca kk) dx):=(Nh (x,_) List.mem_cons_self).1
 have G1:=Go.adopt (o:=.ns []) S G0 fd hd (nr _ fd) ⟨[],0,rfl,.nil,Nat.zero_le _⟩
 have nx:x∉r++[dx]:=fun m=>by
  rcases List.mem_append.mp m with m | m
  ·exact nr _ fx m
  ·simp at m;rw [m] at lt;exact Nat.lt_irrefl _ lt
 have G2:=Go.adopt (o:=.inst kk H.length) S G1 fx hx nx ⟨dx,by rw [←S.len];simp,rfl,hc⟩
 rw [List.append_assoc] at G2
 exact h x _ _ G2 (.ref (by rw [←S.len];simp))
theorem lQ(L:CP c T N)(D:Sd c T N k V)(R:AR (k+1) A)(S:SR c s r H)(F:FR c s r env σ){kk:Nat}{g:Str}{l:List PX}{exs:List Expr}{p:Pos}(hg:AS env.scope g=true)(hk:N.gk g=some (.cls kk))(m:JO N env.scope l exs)
  (e:CN T V (.callC kk l) σ H=some (v,H')):AE c A (eval (.Call (.Name g p) exs [] pos) env) s r H v H':=by
 intro Q E q
 refine A5 e ?_
 clear e
 intro vs H1 e1 e
 ·refine A3 e ?_
  clear e
  intro f hi e
  ·refine A5 e ?_
   clear e
   intro v' H2 e2 e
   refine A7 e ?_
   clear e
   intro hn e
   exists IY hn
   ·exists e,q
    obtain⟨h1,hc⟩:=(L.gk g _ hk).1
    refine Call_ (NQ L.toLk F S hg hk h1 ?_)
    refine RL (L.keepC g kk hk) m (D.es _ (R.le (Nat.le_succ _)) S F m e1) fun Vs s1 r1 G1 y1=>?_
    refine wpAny_call (lP L G1.sr hi hc fun x s2 r2 G2 yx=>?_)
    refine D.call R.make G2.sr (.cons yx (G2.vrs G1.sr y1)) e2 _ fun X s3 r3 G3 y3=>?_
    exact⟨y3.inv_none,q _ s3 r3 ((G1.trans G2).trans G3) (G3.vr G2.sr yx)⟩
theorem lR(L:CP c T N)(D:Sd c T N k V)(R:AR k A)(S:SR c s r H)(F:FR c s r env σ){b:Bi}{g:Str}{l:List PX}{exs:List Expr}{p:Pos}(hg:AS env.scope g=true)(hk:N.gk g=some (.bi b))(m:JO N env.scope l exs)
  (e:CN T V (.callB b l) σ H=some (v,H')):AE c A (eval (.Call (.Name g p) exs [] pos) env) s r H v H':=by
 intro Q E q
 refine A5 e ?_
 clear e
 intro vs H1 e1 e
 ·obtain⟨h1,h2⟩:=(L.gk g _ hk).1
  refine Call_ (LH L.toLk F S hg hk h1 h2 ?_)
  have fin:∀Vs s' r',Go c s r H H1 s' r'→AJ c.hs s'.heap r' vs Vs→wpAny (model c.prog c.w) A (call (xR b) ([]++Vs)) Q E s':=fun Vs s1 r1 G1 y1 =>
   (A_O G1.sr R y1 e).go fun X s2 r2 G2 y2=>q X s2 r2 (G1.trans G2) y2
  exists b<;>first | exact JG m (D.es _ R S F m e1) fin | exact lN m (D.es _ R S F m e1) fin
theorem UU:isSubtype (.type "str") (.type "str")=pure true:=by rw [isSubtype_type];kernel_rfl
theorem UV:isSubtype (.type "tuple") (.type "str")=pure false:=by rw [isSubtype_type];kernel_rfl
theorem gY:typeOf (.type "str")=pure (.type "type"):=by kernel_rfl
set_option tactic.hygienic true in
theorem lS(L:CP c T N)(D:Sd c T N k V)(R:AR k A)(S:SR c s r H)(F:FR c s r env σ){q':PX}{g kn:Str}{ex:Expr}{p u:Pos}(hg:AS env.scope g=true)(hk:N.gk g=some .isinst)(hg2:AS env.scope kn=true)(hk2:N.gk kn=some .strT)(hn:∀x q,ex≠.Starred x q)(m:ME N env.scope q' ex)
  (e:CN T V (.isStr q') σ H=some (v,H')):AE c A (eval (.Call (.Name g p) [ex,.Name kn u] [] pos) env) s r H v H':=by
 intro Q E q
 obtain⟨h1,h2⟩:=(L.gk g _ hk).1
 obtain⟨h3,h4⟩:=(L.gk kn _ hk2).1
 have fin:∀a H1,V.e q' σ H=some (a,H1)→(∀X s1 r1,Go c s r H H1 s1 r1→VR c.hs s1.heap r1 a X→wpAny (model c.prog c.w) A (call (.builtin "isinstance") [X,.type "str"]) Q E s1)→wpAny (model c.prog c.w) A (eval (.Call (.Name g p) [ex,.Name kn u] [] pos) env) Q E s:=fun a H1 e1 hq=>by
  refine Call_ (LH L.toLk F S hg hk h1 h2 ?_)
  refine callWith_builtin (by rw [BP hn];rfl) ?_
  rw [BP hn]
  refine evalArgs_plain (spliced_cons ((D.e R S F m e1).go fun X s1 r1 G1 y1=>?_))
  refine spliced_cons (LH L.toLk (F.go S G1) G1.sr hg2 hk2 h3 h4 ?_)
  exact spliced_nil (hq X s1 r1 G1 y1)
 refine A5 e ?_
 clear e
 intro a H1 e1 e
 exists a,q
 case str l =>
  exists e,q
  refine fin _ _ e1 fun X s1 r1 G1 y1=>?_
  refine VR.eStr y1 fun t=>?_
  exact call_isinstance (isinstance_true gY UU) ⟨PySem.typeIs_str _ _ _,q _ _ _ G1 (.bool _)⟩
 case tup l =>
  exists e,q
  refine fin _ _ e1 fun X s1 r1 G1 y1=>?_
  obtain⟨a,vs,rfl,⟨o,eo,co,_⟩,_⟩:=y1.inv_tup
  exact call_isinstance (isinstance_false_tuple (by decide) gY UV) ⟨⟨o,eo,co⟩,q _ _ _ (G1.trans (Go.tok G1.sr _)) (.bool _)⟩
 all_goals exists e,q
end
section
variable{c:Cx}{T:Tab}{N:Nm}{k:Nat}{V:Ev}{A:Around}{s s₁:Shared}{r r₁:List Addr}{H H₁ H':AH}{env:Env}{σ:Env'}{v:AV}{pos:Pos}{W:Addr→Prop}
theorem cB(o:Expr)(name:PySem.Str)(apos pos:Pos)(exs:List Expr)(env:Env):eval (.Call (.Attribute o name apos) exs [] pos) env=(do
 let ov←attributeBase o name env (eval o env)
 standAt apos.atName
 methodCall o name apos pos env ov (exs.length+0) (backTo pos (starEach exs env)) []):=rfl
theorem PU{o:Expr}{name:PySem.Str}{apos:Pos}{exs:List Expr}{Q:Value→Shared→Prop}{E:Value→Shared→Prop}(hs:FJ o=true)(hp:(apos.endLine==pos.line)=true)(hl:exs.length<30)(ha:(backTo pos (starEach exs env)).all (!·.1)=true)
  (h:wpAny (model c.prog c.w) A (eval o env) (fun ov s₁=>∀pl,wpAny (model c.prog c.w) A (getMethod ov name pl) (fun fx s₂=>wpAny (model c.prog c.w) A (callWith pos fx.1 fx.2 (backTo pos (starEach exs env)) []) Q E s₂) E s₁) E s) :
  wpAny (model c.prog c.w) A (eval (.Call (.Attribute o name apos) exs [] pos) env) Q E s:=by
 rw [cB,NU hs]
 have CF:methodCallForm (exs.length+0) (backTo pos (starEach exs env)) []=true:=by
  unfold methodCallForm
  rw [ha]
  simpa using hl
 refine wpAny_bind (wpAny_mono h (fun ov s₁ h₁=>?_) fun _ _ e=>e)
 refine wpAny_bind (wpAny_standAt ?_)
 unfold methodCall
 rw [CF]
 unfold calleeOf methodCallPos
 rw [hp]
 simp only [if_true]
 refine wpAny_bind (wpAny_holding (wpAny_mono (h₁ _) (fun fx s₂ h₂=>?_) fun _ _ e=>e))
 obtain⟨f,first⟩:=fx
 exact wpAny_bind (wpAny_pure h₂)
theorem UW{h:Heap}{fs:List (Nat×AV)}{ds:List DictEntry}{n:Nat}{name:PySem.Str}(x:JP c.isA c.nm c.hs h r fs ds)(hn:∀a,c.isA a=true→c.nm a≠name):shadowIn (some (dictOf ds n)) name=some false:=by
 have key:getL name ds=some none:=by
  induction x with
  | nil=>rfl
  | @cons e d l L p _ ih =>
   obtain⟨i,v⟩:=e
   refine Og.AI p.key fun t hk=>?_
   have key:d.key.isStr name=false:=by
    rw [hk]
    show(c.nm i==name)=false
    rw [beq_eq_false_iff_ne]
    exact hn i p.isA
   have rk:d.refKey=false:=by unfold DictEntry.refKey;rw [hk]
   unfold getL at ih ⊢
   rw [List.find?_cons,key,List.any_cons,rk,Bool.false_or]
   exact ih
 show(lookIn name (dictOf ds n)).map (·.isSome)=some false
 rw [lookIn_dict,key]
 rfl
theorem qK(L:CP c T N)(D:Sd c T N k V)(R:AR k A)(S:SR c s r H)(F:FR c s r env σ){q1:PX}{m:Nat}{ex:Expr}{l:List PX}{exs:List Expr}{p:Pos}(hs:FJ ex=true)(hp:(p.endLine==pos.line)=true)(hl:exs.length<30)(m1:ME N env.scope q1 ex)(m2:JO N env.scope l exs)
  (e:CN T V (.meth q1 m l) σ H=some (v,H')):AE c A (eval (.Call (.Attribute ex (N.nm m) p) exs [] pos) env) s r H v H':=by
 intro Q E q
 refine A5 e ?_
 clear e
 intro a H1 e1 e
 refine PU hs hp hl (CU m2).2 ((D.e R S F m1 e1).go fun X s1 r1 G1 y1 pl=>?_)
 have F1:=F.go S G1
 rw [L.nm]
 refine Og.sS (WP H1 a) (fun kk hk=>?_) fun hk=>?_
 ·
  rw [hk] at e
  refine A3 e ?_
  clear e
  intro f hf e
  refine A5 e ?_
  clear e
  intro vs H2 e2 e
  refine A3 hk ?_
  intro i h1 hk
  refine A3 hk ?_
  intro ob el hk
  refine A3 hk ?_
  intro cd h2 hk
  refine A3 hk ?_
  intro od ed hk
  refine A8 hk ?_
  intro fs h3 hk
  exists B7 h1
  exists P6 h2
  exists YW h3
  exists hk,q
  refine Og.AB y1.inv_ref fun a' hr1 ra=>?_;subst hr1
  refine Og.aY (R4 G1.sr el ra ed) fun dx ds n rd g1 hc g2 fe _=>?_
  refine Og.TB (L.meth _ m f hf hc) fun t1 t2 t3 t4 t5=>?_
  refine method_fn G1.sr.X (R5 g1 g2) (c.clsGet _ hc) t2 t1 t3 (UW fe t4) ?_
  refine RL t5 m2 (D.es _ R G1.sr F1 m2 e2) fun Vs s2 r2 G2 y2=>?_
  refine wpAny_call (D.call R G2.sr (.cons (G2.vr G1.sr y1) y2) e _ fun Z s3 r3 G3 y3=>?_)
  exact q Z s3 r3 ((G1.trans G2).trans G3) y3
 ·
  rw [hk] at e
  refine A3 e ?_
  clear e
  intro me hm e
  refine A5 e ?_
  clear e
  intro vs H2 e2 e
  refine A3 e ?_
  clear e
  intro kk hk1 e
  refine A7 e ?_
  clear e
  intro hb e
  obtain⟨hk2,hi⟩:=B3 hb
  replace hk2:=of_decide_eq_true hk2
  refine Og.AI (Option.isSome_iff_exists.mp hi) fun id hid=>?_
  rw [L.me m me hm]
  refine qC G1.sr y1 hk1 hid ?_
  refine JG m2 (D.es _ R G1.sr F1 m2 e2) fun Vs s2 r2 G2 y2=>?_
  exact(A_P (A:=A) G2.sr (G2.vr G1.sr y1) y2 hk2 hid e).go fun Z s3 r3 G3 y3=>q Z s3 r3 ((G1.trans G2).trans G3) y3
end
end Og
end
section
set_option backward.match.sparseCases false
open PySem PySem.W PySem.Calls PyProof.Rows PySem.SeqAt
namespace Og
section
variable{c:Cx}{T:Tab}{N:Nm}{k:Nat}{V:Ev}{A:Around}{s s₁:Shared}{r r₁:List Addr}{H H₁ H':AH}{env:Env}{σ:Env'}{v:AV}{pos:Pos}{W:Addr→Prop}
theorem A_X(D:Sd c T N k V)(R:AR k A){l:List PX}{exs:List Expr}{vs:List AV}{s:Shared}{r:List Addr}{H H':AH}(S:SR c s r H)(F:FR c s r env σ)(m:JO N env.scope l exs)(e:J1 V l σ H=some (vs,H')):
  GN c A (spliced (backTo pos (starEach exs env))) s r H vs H':=by
 induction m generalizing s r H H' vs with
 | nil =>
  intro Q E q
  exists e,q
  exact spliced_nil (q _ _ r (Go.refl S) .nil)
 | cons hm ms ih =>
  obtain⟨hn,m⟩:=hm
  intro Q E q
  refine A5 e ?_
  clear e
  intro v H1 e1 e
  ·refine A5 e ?_
   clear e
   intro l H2 e2 e
   ·exists e,q
    rw [BP hn]
    refine spliced_cons ?_
    have hb:=(D.e R S F m e1).go (E:=E) (Q:=fun X s1=>wpAny (model c.prog c.w) A (spliced (backTo pos (starEach _ env))) (fun vs s₂=>Q (X::vs) s₂) E s1) fun X s1 r1 G1 y1 =>
     (ih G1.sr (F.go S G1) e2).go fun Ys s2 r2 G2 y2=>q _ s2 r2 (G1.trans G2) (.cons (G2.vr G1.sr y1) y2)
    first
     | exact hb
     | exact wpAny_bind (wpAny_mono hb (fun _ _ h=>wpAny_bind (wpAny_standAt (wpAny_pure h))) fun _ _ e=>e)
theorem ZT(D:Sd c T N k V)(R:AR k A)(S:SR c s r H)(F:FR c s r env σ){p:PX}{ex:Expr}{b:Bool}(m:ME N env.scope p ex)(hp:∀(M:Model) (w:Sem Value),isTrue ex env w=(do let v←w;standAt ex.pos;holding [v] (truthy v)))
  (e:WQ V p σ H=some (b,H')):NS c A (isTrue ex env (eval ex env)) s r H b H':=by
 intro Q E q
 refine A5 e ?_
 clear e
 intro v H1 e1 e
 ·refine A8 e ?_
  intro x e2 e3
  exists e3,q
  refine isTrue_plain ((D.e R S F m e1).go fun X s1 r1 G1 y1=>?_) (hp (model c.prog c.w) _)
  with_reducible refine IE G1.sr y1 e2 fun s2 G2=>?_
  exact q s2 r1 (G1.trans G2)
noncomputable def isB:PX→Bool
 | .not _=>true
 | .and2 _ _=>true
 | .or2 _ _=>true
 | .cmp _ _ _=>true
 | .ite _ _ _=>true
 | .any=>true
 | .neg _=>true
 | _=>false
theorem UX{p:PX}(h:isB p=false):eD V p σ H=WQ V p σ H:=by
 exists p<;>first | rfl | exact BZ h.symm
noncomputable def ZU(i:Nat):Bool:=!(Nat.beq i 0||(Nat.beq i 3||(Nat.beq i 5||Nat.beq i 15)))
theorem lT{p:PX}(h:isB p=false):ZU (jV p)=true:=by
 exists p<;>first | rfl | exact BZ h.symm
theorem RM{ex:Expr}(h:ZU ex.ctorIdx=true){w:Sem Value}:isTrue ex env w=(do let v←w;standAt ex.pos;holding [v] (truthy v)):=by
 exists ex<;>first | rfl | exact BZ h
theorem x_b(L:CP c T N)(D:Sd c T N k V)(R:AR k A)(S:SR c s r H)(F:FR c s r env σ){p:PX}{ex:Expr}{b:Bool}(m:ME N env.scope p ex)(e:eD V p σ H=some (b,H')):NS c A (isTrue ex env (eval ex env)) s r H b H':=by
 by_cases hb:isB p=false
 ·rcases m.step with rfl | ⟨hi,_⟩
  ·exact AU e
  ·rw [UX hb] at e
   exact ZT D R S F m (fun _ _=>RM (by rw [hi];exact lT hb)) e
 cases p with
 | not q =>
  refine m.elim fun f pos m1=>?_
  intro Q E q
  refine A5 e ?_
  clear e
  intro x H1 e1 e
  ·exists e,q
   exact isTrue_not ((D.b R S F m1 e1).go q)
 | and2 l r =>
  refine m.elim fun l' r' pos m1 m2=>?_
  intro Q E q
  refine A5 e ?_
  clear e
  intro x H1 e1 e
  induction x using Bool.casesOn with
  | true =>
   replace e:V.b _ σ H1=some (b,H'):=e
   refine isTrue_and ((D.b R S F m1 e1).go fun s1 r1 G1=>?_)
   rw [if_pos rfl]
   refine isTrue_and ((D.b R G1.sr (F.go S G1) m2 e).go fun s2 r2 G2=>?_)
   have q2:=q s2 r2 (G1.trans G2)
   induction b using Bool.casesOn with
   | true=>rw [if_pos rfl];exact isTrue_and_nil q2
   | false=>rw [if_neg (by decide)];exact q2
  | false =>
   exists e,q
   refine isTrue_and ((D.b R S F m1 e1).go fun s1 r1 G1=>?_)
   rw [if_neg (by decide)]
   exact q s1 r1 G1
 | or2 l r =>
  refine m.elim fun l' r' pos m1 m2=>?_
  intro Q E q
  refine A5 e ?_
  clear e
  intro x H1 e1 e
  induction x using Bool.casesOn with
  | true =>
   exists e,q
   refine isTrue_or ((D.b R S F m1 e1).go fun s1 r1 G1=>?_)
   rw [if_pos rfl]
   exact q s1 r1 G1
  | false =>
   replace e:V.b _ σ H1=some (b,H'):=e
   refine isTrue_or ((D.b R S F m1 e1).go fun s1 r1 G1=>?_)
   rw [if_neg (by decide)]
   refine isTrue_or ((D.b R G1.sr (F.go S G1) m2 e).go fun s2 r2 G2=>?_)
   have q2:=q s2 r2 (G1.trans G2)
   induction b using Bool.casesOn with
   | true=>rw [if_pos rfl];exact q2
   | false=>rw [if_neg (by decide)];exact isTrue_or_nil q2
 | cmp o l r1 =>
  refine m.elim fun l' r' pos m1 m2=>?_
  intro Q E q
  refine A5 e ?_
  clear e
  intro a H1 e1 e
  ·refine A5 e ?_
   clear e
   intro b' H2 e2 e
   ·refine A8 e ?_
    intro x e3 e4
    exists e4,q
    with_reducible refine wpAny_isTrue_Compare1 ((D.e R S F m1 e1).go fun X s1 r1 G1 y1=>?_) (PR D m2 e2)
    with_reducible refine(D.e R G1.sr (F.go S G1) m2 e2).go fun Y s2 r2 G2 y2=>?_
    with_reducible refine(oH G2.sr R (G2.vr G1.sr y1) y2 e3).go fun Z s3 r3 G3 y3=>?_
    have:=y3.inv_bool;subst this
    with_reducible refine wpAny_truthy_bool ?_
    exact q s3 r3 ((G1.trans G2).trans G3)
 | ite t a b' =>
  refine m.elim fun t' a' b1 pos m1 m2 m3=>?_
  intro Q E q
  refine A5 e ?_
  clear e
  intro x H1 e1 e
  induction x using Bool.casesOn with
  | true =>
   replace e:V.b _ σ H1=some (b,H'):=e
   refine isTrue_IfExp ((D.b R S F m1 e1).go fun s1 r1 G1=>?_)
   rw [if_pos rfl]
   exact(D.b R G1.sr (F.go S G1) m2 e).go fun s2 r2 G2=>q s2 r2 (G1.trans G2)
  | false =>
   replace e:V.b _ σ H1=some (b,H'):=e
   refine isTrue_IfExp ((D.b R S F m1 e1).go fun s1 r1 G1=>?_)
   rw [if_neg (by decide)]
   exact(D.b R G1.sr (F.go S G1) m3 e).go fun s2 r2 G2=>q s2 r2 (G1.trans G2)
 | neg n =>
  exact ZT D R S F m (m.elim (P:=fun ex=>Model→∀w:Sem Value,isTrue ex env w=(do let v←w;standAt ex.pos;holding [v] (truthy v))) fun _ _ _ _ _=>rfl) e
 | any=>exact AU e
 | _=>exact(hb rfl).elim
theorem vC(S:SR c s r H)(G:Go c s r H H₁ s₁ r₁){src:DV}{X:Value}(y:VR c.hs s₁.heap r₁ v X)(e:TJ H₁ v=some src):EZ c A s.heap s₁ r₁ H₁ src X :=
 EZ.of G.sr y e fun a h=>by
  cases q:s.heap.get? a with
  | none=>rfl
  | some o =>
   by_cases z:a=c.L
   ·refine Og.ES G.sr.stat fun o' _ _ e' _=>?_
    rw [z,e'] at h;exists h
   ·by_cases m:a∈r
    ·refine Og.FG (G.sr.has (G.pre.subset m)) fun _ _ ob _ _ e' _=>?_
     rw [h] at e';exists e'
    ·rw [G.evo.keep a o z q m] at h;exists h
theorem EZ.mono{h₀ h₁:Heap}{src:DV}{X:Value}(b:EZ c A h₁ s r H src X)(k:∀a,h₁.get? a=none→h₀.get? a=none):EZ c A h₀ s r H src X :=
 fun Q E q=>b Q E fun itv w s' G I f=>q itv w s' G I fun a m=>k a (f a m)
theorem L4(S:SR c s r H)(G:Go c s r H H₁ s₁ r₁):∀a,s₁.heap.get? a=none→s.heap.get? a=none:=fun a h=>by
 cases q:s.heap.get? a with
 | none=>rfl
 | some o =>
  by_cases z:a=c.L
  ·refine Og.ES G.sr.stat fun o' _ _ e' _=>?_
   rw [z,e'] at h;exists h
  ·by_cases m:a∈r
   ·refine Og.FG (G.sr.has (G.pre.subset m)) fun _ _ ob _ _ e' _=>?_
    rw [h] at e';exists e'
   ·rw [G.evo.keep a o z q m] at h;exists h
theorem K6{p:PX}(h:pN p=false):KP V p σ H=QD V p σ H:=by
 exists p<;>first | rfl | exists h
theorem A_Y(L:CP c T N)(D:Sd c T N k V)(R:AR k A)(S:SR c s r H)(F:FR c s r env σ){p:PX}{ex:Expr}{src:DV}(m:MI N env.scope p ex)(hz:FV p=false)(e:KP V p σ H=some (src,H')):L3 c A (eval ex env) s r H src H':=by
 unfold MI at m
 refine Og.GQ (pN p) (fun z=>?_) fun z=>?_
 ·
  rw [z] at m
  induction p using Og.PX.casesOn with
  | enum q1 =>
   refine m (fun ex=>L3 c A (eval ex env) s r H src H') fun g ex1 p1 pos1 hg hk m1=>?_
   intro Q E q
   refine A5 e ?_
   clear e
   intro v H1 e1 e
   refine A8 e ?_
   clear e
   intro l h e
   ·exists e,q
    exists B6 h
    obtain⟨h1,h2⟩:=(L.gk _ _ hk).1
    refine Call_ (LH L.toLk F S hg hk h1 h2 ?_)
    have hn:∀x q,ex1≠.Starred x q:=fun x q z=>by subst z;rw [m1.star,D.any] at e1;exists e1,q
    refine PyProof.Rows.callWith_type (by rw [BP hn];rfl) ?_
    rw [BP hn]
    refine evalArgs_plain (spliced_cons ((D.e R S F m1 e1).go fun X s1 r1 G1 y1=>?_))
    refine spliced_nil ?_
    refine VR.eStr y1 fun t=>?_
    refine It.startEnum G1.sr fun Y s2 G2 b2=>?_
    exact q Y s2 r1 (G1.trans G2) (b2.mono (L4 S G1))
  | range q1 =>
   refine m (fun ex=>L3 c A (eval ex env) s r H src H') fun g ex1 p1 pos1 hg hk m1=>?_
   intro Q E q
   refine A5 e ?_
   clear e
   intro v H1 e1 e
   refine A3 e ?_
   clear e
   intro n h e
   exists BX h
   ·refine A7 e ?_
    clear e
    intro hs e
    ·exists e,q
     simp only [Bool.and_eq_true,decide_eq_true_eq] at hs
     obtain⟨h1,h2⟩:=(L.gk _ _ hk).1
     refine Call_ (LH L.toLk F S hg hk h1 h2 ?_)
     have hn:∀x q,ex1≠.Starred x q:=fun x q z=>by subst z;rw [m1.star,D.any] at e1;exists e1,q
     refine PyProof.Rows.callWith_type (by rw [BP hn];rfl) ?_
     rw [BP hn]
     refine evalArgs_plain (spliced_cons ((D.e R S F m1 e1).go fun X s1 r1 G1 y1=>?_))
     refine spliced_nil ?_
     refine VR.eInt y1 fun t=>?_
     have en:n=(n.toNat:Int):=by lia
     have hl:n.toNat≤1000000:=by have:=EW hs.2;lia
     rw [en]
     refine It.startRange G1.sr (by simpa using hl) fun Y s2 G2 b2=>?_
     exact q Y s2 r1 (G1.trans G2) (b2.mono (L4 S G1))
  | zip a b=>exact BZ hz.symm
  | _=>exact BZ z
 ·
   rw [z] at m
   obtain⟨_,m1⟩:=m
   intro Q E q
   rw [K6 z] at e
   refine A5 e ?_
   clear e
   intro v H1 e1 e
   refine A8 e ?_
   intro x e2 e3
   exists e3,q
   exact(D.e R S F m1 e1).go fun X s1 r1 G1 y1=>q X s1 r1 G1 (vC S G1 y1 e2)
theorem MD.lens{sc:Scope}{l:List (PX×PX)}{ks:List (Option Expr)}{vs:List Expr}(m:MD N sc l ks vs):ks.all (·.isSome)=true∧ks.length=l.length∧vs.length=l.length:=by
 induction l generalizing ks vs with
 | nil=>exists m;exact⟨rfl,rfl,rfl⟩
 | cons p l ih =>
  cases m with | cons _ _ m =>
  refine Og.BB (ih m) fun a b c=>?_
  exact⟨by simpa using a,by simp [b],by simp [c]⟩
theorem RN{kvs:List (PySem.Str×Value)}{k:PySem.Str}{v:Value}(nd:(kvs.map (·.1)).Nodup):((stored kvs k v).map (·.1)).Nodup:=by
 unfold stored
 split
 ·have:(kvs.map (fun kv=>if kv.1=k then(kv.1,v) else kv)).map (·.1)=kvs.map (·.1):=by
   rw [List.map_map]
   refine List.map_congr_left fun kv _=>?_
   dsimp only [Function.comp]
   split<;>rfl
  rw [this];exact nd
 ·rename_i h
  rw [List.map_append]
  refine List.nodup_append.mpr ⟨nd,by simp,fun a ha b hb=>?_⟩
  simp at hb;subst hb
  intro z;subst z
  refine h ?_
  refine Og.AB (List.mem_map.mp ha) fun kv m hr1=>?_;subst hr1
  exact List.any_eq_true.mpr ⟨kv,m,by simp⟩
set_option tactic.hygienic true in
theorem XR{hs h:Heap}{r:List Addr}{es:List (List Nat×List Nat)}{more:List (PySem.Str×Value)}{es0:List (List Nat×AV)}{kvs:List (PySem.Str×Value)}(x:GX hs h r (es.map fun e=>(e.1,AV.str e.2)) more)(y:GX hs h r es0 kvs)(nd:(kvs.map (·.1)).Nodup):
  GX hs h r (es.foldl (fun a e=>OM e.1 (.str e.2) a) es0) (merged kvs more):=by
 induction es generalizing more es0 kvs with
 | nil=>cases x;exact y
 | cons p es ih =>
  cases x with
  | @cons _ _ V _ L z x =>
   have:=ih (more:=L) (es0:=OM p.1 (.str p.2) es0) (kvs:=stored kvs (⟨p.1.toArray⟩:PySem.Str) V) x (HO y nd p.1 z) (RN nd)
   exact this
theorem lU{E:Value→Shared→Prop}{l:List (PX×PX)}:∀{es:List (List Nat×List Nat)} {ks:List (Option Expr)} {vs:List Expr} {s:Shared} {r:List Addr} {H:AH},SR c s r H→MD N env.scope l ks vs→IZ l=some es →
  ∀{Q:List (Value×Value)→Shared→Prop},(∀ps more t,Carries (PySem.strKind c.prog c.w) ps more→(∀h r',GX c.hs h r' (es.map fun e=>(e.1,AV.str e.2)) more)→Q ps { s with toks:=t })→wpAny (model c.prog c.w) A (evalPairs (pairTrees ks vs env pos)) Q E s:=by
 induction l with
 | nil =>
  intro es ks vs s r H S m e Q q
  exists m
  exists e
  exact pairTrees_nil_walk (q [] [] s.toks trivial fun _ _=>.nil)
 | cons p l ih =>
  intro es ks vs s r H S m e Q q
  obtain⟨p,p'⟩:=p
  cases m with | cons m1 m2 m =>
  refine A3 e ?_
  clear e
  intro x h1 e
  refine A3 e ?_
  clear e
  intro y h2 e
  refine A8 e ?_
  clear e
  intro es' e1 e
  exists e
  replace h1:p=.const (.str x):=J0 h1
  replace h2:p'=.const (.str y):=J0 h2
  subst h1 h2
  refine m1.elim fun _ _ _ h=>m2.elim fun _ _ _ h2=>?_
  exists h
  exists h2
  refine pairTrees_cons_walk (wpAny_Constant_str (wpAny_Constant_str ?_))
  refine ih (S.toks _) m e1 fun ps more t hc hs=>?_
  exact q _ ((_,_)::more) t ⟨by simp [PySem.strKind,Value.isStrOf],rfl,hc⟩ fun h r'=>.cons (.str _ _) (hs h r')
theorem qL(S:SR c s r H){l:List (PX×PX)}{ks:List (Option Expr)}{vs:List Expr}(m:MD N env.scope l ks vs)
  (e:CN T V (.dict l) σ H=some (v,H')):AE c A (eval (.Dict ks vs pos) env) s r H v H':=by
 intro Q E q
 induction l using List.casesOn with
 | nil =>
  exists m,q
  exists e,q
  refine wpAny_Dict_empty ?_
  refine q _ _ _ (Go.alloc (o:=.edict) S rfl s.toks ?_) (VR.last S _)
  constructor
  ·refine Og.AB (Heap.dictOf_iff.mp (Heap.DictOf.new (knd:=PySem.strKind c.prog c.w) s.heap)) fun o ho hd=>?_
   rw [Heap.get?_push_size _ rfl] at ho
   exact(Option.some.inj ho)▸hd
  ·refine Og.AB (Heap.dictOf_iff.mp (Heap.DictOf.new (knd:=PySem.intKind c.prog c.w) s.heap)) fun o ho hd=>?_
   rw [Heap.get?_push_size _ rfl] at ho
   exact(Option.some.inj ho)▸hd
 | cons p l =>
  refine A3 e ?_
  clear e
  intro es e1 e
  ·refine A7 e ?_
   clear e
   intro hl e
   ·exists e,q
    refine Og.BB m.lens fun h1 h2 h3=>?_
    have hl:=of_decide_eq_true hl
    refine wpAny_Dict_walk (knd:=PySem.strKind c.prog c.w) h1 (h2.trans h3.symm) (fun z=>by rw [z] at h2;simp at h2) (by lia) ?_
    have G0:=Go.push S { cls:=.type "dict",data:=.dict #[] } s.toks
    refine lU G0.sr m e1 fun ps more t hc hs=>⟨more,hc,Heap.DictOf.new s.heap,fun h' hd sb=>?_⟩
    refine Og.AB (Heap.dictOf_iff.mp hd) fun o ho hd=>?_
    have kp:∀a ob,a≠c.L→s.heap.get? a=some ob→h'.get? a=some ob:=fun a ob _ ea=>(sb.2 a (Nat.ne_of_lt (Heap.lt_size ea))).trans (Heap.get?_push_of_some _ ea)
    refine q _ _ _ (Go.new (o:=.sdict 0 _) (D:=s.heap.objs.size) S kp ((S.stat.push _).sameBut sb (Nat.ne_of_lt S.stat.lt)) (CE _) ho _ ⟨merged [] more,hd,?_⟩) (VR.last S _)
    exact XR (hs _ _) .nil (by simp)
end
end Og
end
section
open PySem PySem.W PySem.Calls PyProof.Rows PySem.SeqAt
namespace Og
section
variable{c:Cx}{T:Tab}{N:Nm}{k:Nat}{V:Ev}{A:Around}{s s₁:Shared}{r r₁:List Addr}{H H₁ H':AH}{env:Env}{σ σ₁:Env'}{v:AV}{pos:Pos}{W:Addr→Prop}{src:DV}{j:Nat}{itv:Value}{w:List Addr}
theorem It.self(x:It c s r H src j itv w){Q:Value→Shared→Prop}{E:Value→Shared→Prop}(q:Q itv s):wpAny (model c.prog c.w) A (pyIter itv) Q E s:=by
 refine x.elim (P:=fun itv _=>Q itv s→wpAny (model c.prog c.w) A (pyIter itv) Q E s) ?_ q
 induction src using Og.DV.casesOn with
 | tup l=>exact fun I ax items i _ _ q=>wpAny_pyIter_tupleiter i q
 | str l =>
  intro I ty t hty _ st q
  rcases hty with rfl | rfl
  ·exact wpAny_pyIter_striter_ascii st q
  ·exact wpAny_pyIter_striter_wide st q
 | lst o=>exact fun I ax i _ q=>wpAny_pyIter_listiter i q
 | range n=>exact fun I i q=>wpAny_pyIter_rangeiter i q
 | enum l=>exact fun e it ty t old _ _ _ ie _ q=>wpAny_pyIter_enum ie q
 | dct o n=>exact fun I d kvs ep i _ _ _ q=>wpAny_pyIter_keyiter i q
 | nil=>exact trivial
set_option tactic.hygienic true in
theorem HT{v:AV}{p:AV×AV}(e:Z2 v=some p):v=.tup [p.1,p.2]:=by
 exists v
 case tup l =>
  rcases l with _ | ⟨a,_ | ⟨b,_ | ⟨d,l⟩⟩⟩<;>exists e
  rfl
 all_goals exists e
theorem DO{sc:Scope}{x:PySem.Str}(h:EU sc x=true):sc.names.lookup x=some .local∨sc.names.lookup x=some .cell:=by
 unfold EU at h
 split at h
 ·exact .inl (by assumption)
 ·exact .inr (by assumption)
 ·exists h
theorem asg(L:Lk c T N)(hh:A.handled=none)(F:FR c s r env σ)(S:SR c s r H){t:PT}{t':Expr}(m:MT N env.scope t t'){X:Value}(y:VR c.hs s.heap r v X)(e:IO t v σ=some σ₁){Q:Unit→Shared→Prop}{E:Value→Shared→Prop}
  (q:∀s',BU c (CC env) s r H H s' r→FR c s' r env σ₁→Q () s'):wpAny (model c.prog c.w) A (assign t' env X) Q E s:=by
 cases m with
 | @one x p hA ho =>
  exists e
  rw [L.nm] at ho ⊢
  rw [L.isA] at hA
  refine assign_Name (F.store S y hA (DO ho) q)
 | @two x z p p' t kk hA hA' ho ho' =>
  refine A8 e ?_
  clear e
  rintro⟨a,b⟩ h e
  exists e
  ·cases HT h
   rw [L.nm] at ho ho' ⊢
   rw [L.isA] at hA hA'
   refine VR.eTup y fun T' items it' ys=>?_
   refine Og.BV ys.inv2 fun X Y hi y1 y2=>?_
   have hit:s.heap.IsTuple T' items:=it'
   have hsz:items.size=2:=by rw [←Array.length_toList,hi];rfl
   refine wpAny_assign_Tuple hh hit (by rw [hsz];rfl) rfl fun h' he=>?_
   rw [hi]
   have G0:Go c s r H H { s with heap:=h' } r:=Go.grow S (fun b o e=>he b o (Nat.ne_of_lt (Heap.lt_size e)) e) s.toks
   have F0:=F.go S G0
   refine assignInOrder_cons (assign_Name (F0.store G0.sr (G0.vr S y1) hA (DO ho) fun s2 G2 F2=>?_))
   have A0:=F0.apartW
   refine assignInOrder_cons (assign_Name (F2.store G2.sr (G2.vr A0 G0.sr (G0.vr S y2)) hA' (DO ho') fun s3 G3 F3=>?_))
   refine assignInOrder_nil (q s3 ?_ F3)
   exact(((Go.f G0).trans G2 fun a w=>F2.notIn a w).trans G3 fun a w=>F3.notIn a w)
theorem BE(x z:Nat)(v:AV)(σ:Env'):AG z ((x,v)::σ)=if x=z then some v else AG z σ:=by
 show(if(x==z)=true then some v else AG z σ)=_
 by_cases h:x=z<;>simp [h]
theorem cC(L:Lk c T N){t:PT}{t':Expr}{sc:Scope}(m:MT N sc t t'){σ₀ σ σ₂:Env'}{x:AV}(e:IO t x σ=some σ₂)(P:Nat→Prop)
  (h:∀z u,AG z σ=some u→c.isA z=false∧(P z→AG z σ₀=some u∨CB N t (c.nm z)=true)) (h0:∀z u,AG z σ₀=some u→CB N t (c.nm z)=false) :
  ∃σ₃,IO t x σ₀=some σ₃∧(∀z u,AG z σ₂=some u→c.isA z=false∧(P z→AG z σ₃=some u))∧(∀z u,AG z σ₀=some u→AG z σ₃=some u) ∧
   (∀z u,AG z σ₂=some u→c.isA z=false∧(P z→AG z σ₀=some u∨CB N t (c.nm z)=true)):=by
 cases m with
 | @one y p hA ho =>
  exists e
  rw [L.isA] at hA
  have tg:∀z,CB N (.one y) (c.nm z)=true↔c.nm y=c.nm z:=fun z=>by simp [CB,L.nm]
  refine⟨_,rfl,fun z u e=>?_,fun z u e=>?_,fun z u e=>?_⟩
  ·rw [BE] at e ⊢
   by_cases hz:y=z
   ·rw [if_pos hz] at e ⊢;exact⟨hz▸hA,fun _=>e⟩
   ·rw [if_neg hz] at e ⊢
    obtain⟨a,b⟩:=h z u e
    refine⟨a,fun p=>(b p).elim id fun q=>absurd (c.inj _ _ (hA.trans a.symm) ((tg z).mp q)) hz⟩
  ·rw [BE]
   have:=h0 z u e
   have hz:y≠z:=fun q=>by rw [(tg z).mpr (by rw [q])] at this;exists this
   rw [if_neg hz];exact e
  ·rw [BE] at e
   by_cases hz:y=z
   ·rw [if_pos hz] at e;exact⟨hz▸hA,fun _=>.inr ((tg z).mpr (by rw [hz]))⟩
   ·rw [if_neg hz] at e;exact h z u e
 | @two y y2 p p' t kk hA hA' ho ho' =>
  refine A8 e ?_
  clear e
  rintro⟨a,b⟩ hp e
  exists e
  ·cases HT hp
   rw [L.isA] at hA hA'
   have tg:∀z,CB N (.two y y2) (c.nm z)=true↔(c.nm y=c.nm z∨c.nm y2=c.nm z):=fun z=>by simp [CB,L.nm]
   refine⟨_,rfl,fun z u e=>?_,fun z u e=>?_,fun z u e=>?_⟩
   ·rw [BE,BE] at e ⊢
    by_cases hz:y2=z
    ·rw [if_pos hz] at e ⊢;exact⟨hz▸hA',fun _=>e⟩
    ·rw [if_neg hz] at e ⊢
     by_cases hz1:y=z
     ·rw [if_pos hz1] at e ⊢;exact⟨hz1▸hA,fun _=>e⟩
     ·rw [if_neg hz1] at e ⊢
      obtain⟨a,b⟩:=h z u e
      refine⟨a,fun p=>(b p).elim id fun q=>((tg z).mp q).elim (fun q=>absurd (c.inj _ _ (hA.trans a.symm) q) hz1) (fun q=>absurd (c.inj _ _ (hA'.trans a.symm) q) hz)⟩
   ·rw [BE,BE]
    have:=h0 z u e
    have hz:y≠z:=fun q=>by rw [(tg z).mpr (.inl (by rw [q]))] at this;exists this
    have hz2:y2≠z:=fun q=>by rw [(tg z).mpr (.inr (by rw [q]))] at this;exists this
    rw [if_neg hz2,if_neg hz];exact e
   ·rw [BE,BE] at e
    by_cases hz:y2=z
    ·rw [if_pos hz] at e;exact⟨hz▸hA',fun _=>.inr ((tg z).mpr (.inr (by rw [hz])))⟩
    ·rw [if_neg hz] at e
     by_cases hz1:y=z
     ·rw [if_pos hz1] at e;exact⟨hz1▸hA,fun _=>.inr ((tg z).mpr (.inl (by rw [hz1])))⟩
     ·rw [if_neg hz1] at e;exact h z u e
end
section
variable{c:Cx}{T:Tab}{N:Nm}{k:Nat}{V:Ev}{A:Around}{s s₁:Shared}{r r₁:List Addr}{H H₁ H':AH}{env cenv:Env}{σ σ₁ σ₀:Env'}{v:AV}{pos:Pos}{W W':Addr→Prop}{src:DV}{j:Nat}{itv:Value}{w:List Addr}{D:Addr}{xs:Array Value}
theorem FR.storeL{M:Model}{A:Around}{x:Nat}{v:AV}{V:Value}{Q:Unit→Shared→Prop}{E:Value→Shared→Prop}(F:FR c s r env σ)(S:SR c s r H)(y:VR c.hs s.heap r v V)(hA:c.isA x=false)(hl:env.kindOf (c.nm x)=some .local)
  (q:∀s',BU c (fun a=>a=env.locals) s r H H s' r→FR c s' r env ((x,v)::σ)→Q () s'):wpAny M A (storeName env (c.nm x) V) Q E s:=by
 have other:∀z w,AG z ((x,v)::σ)=some w→(z=x∧w=v)∨(c.nm z≠c.nm x∧AG z σ=some w):=fun z w e=>by
  rw [BE] at e
  by_cases hz:x=z
  ·rw [if_pos hz] at e;exact .inl ⟨hz.symm,by exists e;rfl⟩
  ·rw [if_neg hz] at e
   exact .inr ⟨fun q=>hz (c.inj _ _ ((F.plain z w e).trans hA.symm) q).symm,e⟩
 have plain:∀z w,AG z ((x,v)::σ)=some w→c.isA z=false:=fun z w e=>(other z w e).elim (fun q=>q.1▸hA) fun q=>F.plain z w q.2
 refine Og.AI F.ns fun m n=>?_
 refine wpAny_storeName_local hl n (fun h' n' sb=>?_) (by rw [F.kind];rfl)
 have A1:B5 c s r (fun a=>a=env.locals):=⟨fun a w=>F.notHs a (.inl w),fun a w=>F.notIn a (.inl w),fun a o w e=>F.apartW.nt a o (.inl w) e⟩
 have G:=BU.oneBut A1 S rfl sb (s.toks+1)
 refine q _ G ⟨F.kind,F.globals,F.builtins,⟨_,n'⟩,fun z w e kn=>?_,fun n a e=>?_,F.apart,F.inj,F.notHs,F.notIn,plain,F.own⟩
 ·rcases other z w e with ⟨rfl,rfl⟩ | ⟨ne,e⟩
  ·exact⟨V,.inl ⟨hl,_,n',by simp⟩,G.vr A1 S y⟩
  ·refine Og.AB (F.vars z w e kn) fun V' nz yz=>?_
   refine⟨V',?_,G.vr A1 S yz⟩
   rcases nz with ⟨hl',m',n2,q2⟩ | ⟨hc',a,l,i⟩
   ·refine .inl ⟨hl',_,n',?_⟩
    rw [if_neg ne,ZR n n2];exact q2
   ·exact .inr ⟨hc',a,l,BO i fun o e=>(sb.2 a fun z=>F.apart _ (z▸l)).trans e⟩
 ·refine Og.AI (F.cells n a e) fun v i=>?_
  exact⟨v,BO i fun o e'=>(sb.2 a fun z=>F.apart _ (z▸e)).trans e'⟩
theorem A_Z(L:Lk c T N)(hh:A.handled=none)(F:FR c s r env σ)(S:SR c s r H){t:PT}{t':Expr}(m:MT N env.scope t t'){X:Value}(y:VR c.hs s.heap r v X)(e:IO t v σ=some σ₁)
  (h1:∀x y,t=.one x∨t=.two x y→env.kindOf (c.nm x)=some .local) (h2:∀x y,t=.two x y→env.kindOf (c.nm y)=some .local) {Q:Unit→Shared→Prop} {E:Value→Shared→Prop}
  (q:∀s',BU c (fun a=>a=env.locals) s r H H s' r→FR c s' r env σ₁→Q () s'):wpAny (model c.prog c.w) A (assign t' env X) Q E s:=by
 cases m with
 | @one x p hA ho =>
  exists e
  rw [L.nm]
  rw [L.isA] at hA
  exact assign_Name (F.storeL S y hA (h1 x 0 (.inl rfl)) q)
 | @two x z p p' t kk hA hA' ho ho' =>
  refine A8 e ?_
  clear e
  rintro⟨a,b⟩ h e
  exists e
  ·cases HT h
   rw [L.nm]
   rw [L.isA] at hA hA'
   refine VR.eTup y fun T' items it' ys=>?_
   refine Og.BV ys.inv2 fun X Y hi y1 y2=>?_
   have hit:s.heap.IsTuple T' items:=it'
   have hsz:items.size=2:=by rw [←Array.length_toList,hi];rfl
   refine wpAny_assign_Tuple hh hit (by rw [hsz];rfl) rfl fun h' he=>?_
   rw [hi]
   have G0:Go c s r H H { s with heap:=h' } r:=Go.grow S (fun b o e=>he b o (Nat.ne_of_lt (Heap.lt_size e)) e) s.toks
   have F0:=F.go S G0
   refine assignInOrder_cons (assign_Name (F0.storeL G0.sr (G0.vr S y1) hA (h1 x z (.inr rfl)) fun s2 G2 F2=>?_))
   have A0:B5 c { s with heap:=h' } r (fun a=>a=env.locals):=⟨fun a w=>F0.notHs a (.inl w),fun a w=>F0.notIn a (.inl w),fun a o w e=>F0.apartW.nt a o (.inl w) e⟩
   refine assignInOrder_cons (assign_Name (F2.storeL G2.sr (G2.vr A0 G0.sr (G0.vr S y2)) hA' (h2 x z rfl) fun s3 G3 F3=>?_))
   refine assignInOrder_nil (q s3 ?_ F3)
   exact(((Go.f G0).trans G2 fun a w=>F2.notIn a (.inl w)).trans G3 fun a w=>F3.notIn a (.inl w))
abbrev CW(cenv:Env)(w:List Addr)(D:Addr):Addr→Prop:=fun a=>a=cenv.locals∨a∈w∨a=D
structure CS(c:Cx)(cenv:Env)(src:DV)(itv:Value)(w:List Addr)(D:Addr)(σ₀:Env')(j:Nat)(xs:Array Value)(s:Shared)(r:List Addr)(H:AH):Prop where
 S:SR c s r H
 F:FR c s r cenv σ₀
 I:It c s r H src j itv w
 hl:s.heap.PlainList D xs
 ap:B5 c s r (CW cenv w D)
 own:∀a,CC cenv a→a∉w∧a≠D
 dw:D∉w
theorem CS.has(x:CS c cenv src itv w D σ₀ j xs s r H):∀a,CW cenv w D a→∃o,s.heap.get? a=some o:=fun a m=>by
 rcases m with rfl | m | rfl
 ·refine Og.sW x.F.ns fun m o _ _ e _=>?_;exact⟨o,e⟩
 ·exact x.I.has a m
 ·refine Og.AB x.hl.isList fun o e _=>?_;exact⟨o,e⟩
theorem CS.step(x:CS c cenv src itv w D σ₀ j xs s r H){j':Nat}{xs':Array Value}{σ':Env'}(G:BU c (CW cenv w D) s r H H₁ s₁ r₁)(F:FR c s₁ r₁ cenv σ')(I:It c s₁ r₁ H₁ src j' itv w)(hl:s₁.heap.PlainList D xs'):CS c cenv src itv w D σ' j' xs' s₁ r₁ H₁:=by
 refine⟨G.sr,F,I,hl,⟨x.ap.hs,fun a m q=>?_,fun a o m e=>?_⟩,x.own,x.dw⟩
 ·rcases G.new a q with q | q
  ·exact x.ap.nr a m q
  ·refine Og.AI (x.has a m) fun o e=>?_;rw [e] at q;exists q
 ·rcases m with rfl | m | rfl
  ·refine Og.AI F.ns fun m n=>?_;exact DF n e
  ·exact I.nt a m o e
  ·refine Og.H8 hl.isList fun o' e' cl _=>?_
   rw [e] at e';exists e'
   intro t;rw [t.1] at cl;simp at cl
theorem IG{h h':Heap}{a:Addr}(x:h.PlainList a xs)(k:∀o,h.get? a=some o→h'.get? a=some o):h'.PlainList a xs:=x.at k
theorem CS.go(x:CS c cenv src itv w D σ₀ j xs s r H)(G:Go c s r H H₁ s₁ r₁):CS c cenv src itv w D σ₀ j xs s₁ r₁ H₁ :=
 x.step (Go.f G) (x.F.go x.S G) (x.I.keep (W:=fun _=>False) x.S ⟨fun _ f=>f.elim,fun _ f=>f.elim,fun _ _ f=>f.elim⟩ (Go.f G) fun a m=>⟨fun f=>f,x.ap.nr a (.inr (.inl m)),x.ap.notStat (.inr (.inl m))⟩)
  (IG x.hl fun o e=>G.evo.keep D o (x.ap.notStat (.inr (.inr rfl))) e (x.ap.nr D (.inr (.inr rfl))))
end
section
variable{c:Cx}{T:Tab}{N:Nm}{k:Nat}{V:Ev}{A:Around}{s s₁:Shared}{r r₁:List Addr}{H H₁ H':AH}{env cenv:Env}{σ σ₁ σ₀:Env'}{v:AV}{pos:Pos}{W W':Addr→Prop}{src:DV}{j:Nat}{itv:Value}{w:List Addr}{D:Addr}{xs:Array Value}
theorem B5.none:B5 c s r (fun _=>False):=⟨fun _ f=>f.elim,fun _ f=>f.elim,fun _ _ f=>f.elim⟩
theorem BU.transW(x:BU c W s r H H₁ s₁ r₁){s₂:Shared}{r₂:List Addr}(y:BU c W s₁ r₁ H₁ H' s₂ r₂)(ap:∀a,W a→a∉r₁)(has:∀a,W a→∃o,s₁.heap.get? a=some o):BU c W s r H H' s₂ r₂ :=
 x.trans y fun a w m=>by
  rcases y.new a m with q | q
  ·exact ap a w q
  ·refine Og.AI (has a w) fun o e=>?_;rw [e] at q;exists q
abbrev vD(c:Cx)(A:Around)(cenv:Env)(w:List Addr)(D:Addr)(σ₀:Env')(xs:Array Value)(cd:Code)(s:Shared)(r:List Addr)(H:AH)(l:List AV)(H':AH):Prop :=
 ∀(R:Result→Shared→Prop),(∀s' r' ys,BU c (CW cenv w D) s r H H' s' r'→s'.heap.PlainList D (xs++ys)→AJ c.hs s'.heap r' l ys.toList→FR c s' r' cenv σ₀→R (.ok .next) s')→codeAny (model c.prog c.w) A cd R s
set_option maxHeartbeats 1000000 in
theorem A_a(L:Lk c T N)(Dd:Sd c T N k V)(R:AR k A)(C:CS c cenv src itv w D σ₀ j xs s r H){elt:PX}{t:PT}{cond:Option PX}{l:List AV}{elt' t' it':Expr}{ifs:List Expr}{scope:Scope}
  (hσ:∀z u,AG z σ=some u→c.isA z=false∧(IU cenv (c.nm z)→AG z σ₀=some u∨CB N t (c.nm z)=true)) (h0:∀z u,AG z σ₀=some u→CB N t (c.nm z)=false)
  (mt:MT N cenv.scope t t') (mc:MC N cenv.scope cond ifs) (me:ME N cenv.scope elt elt') (hp:DN src=true→∃es k p,t'=.Tuple es k p) (hk:xs.size+(k+1)≤700)
  (k1:∀x y,t=.one x∨t=.two x y→cenv.kindOf (c.nm x)=some .local) (k2:∀x y,t=.two x y→cenv.kindOf (c.nm y)=some .local) (e:TK V elt t cond src j σ H=some (l,H')) :
  vD c A cenv w D σ₀ xs (.compLoop (.ListComp elt' [⟨t',it',ifs,0⟩] scope pos) 0 itv (.ref D) cenv) s r H l H':=by
 intro Q q
 have hw:∀a∈w,a∈w:=fun _ m=>m
 have Aw:B5 c s r (fun a=>a∈w):=⟨fun a m=>C.ap.hs a (.inr (.inl m)),fun a m=>C.ap.nr a (.inr (.inl m)),fun a o m e=>C.ap.nt a o (.inr (.inl m)) e⟩
 refine c0 ?_
 refine A3 e ?_
 clear e
 intro ox en e
 cases ox with
 | none =>
  exists e
  refine It.next C.I C.S Aw hw R.handled en fun ov s1 g=>?_
  cases ov with
  | some X=>exact g.elim
  | none =>
   have g:BU c (fun a=>a∈w) s r H H s1 r:=g
   refine q s1 r #[] (g.widen fun a m=>.inr (.inl m)) ?_ .nil (C.F.gof C.S g Aw fun a o m=>(C.own a o).1 m)
   rw [Array.append_empty]
   exact IG C.hl fun o e=>g.keep D o (C.ap.notStat (.inr (.inr rfl))) C.dw e (C.ap.nr D (.inr (.inr rfl)))
 | some x =>
  refine It.next C.I C.S Aw hw R.handled en fun ov s1 g=>?_
  cases ov with
  | none=>exact g.elim
  | some X =>
   obtain⟨g0,g⟩:=g
   dsimp only
   refine g t' _ _ hp fun s2 G2 y2 I2=>?_
   refine A3 e ?_
   clear e
   intro σ' eb e
   ·have F2:=C.F.gof C.S G2 Aw fun a o m=>(C.own a o).1 m
    have C2:CS c cenv src itv w D σ₀ (j+1) xs s2 r H:=C.step (G2.widen fun a m=>.inr (.inl m)) F2 I2 (IG C.hl fun o e=>G2.keep D o (C.ap.notStat (.inr (.inr rfl))) C.dw e (C.ap.nr D (.inr (.inr rfl))))
    refine Og.LR (cC L mt eb (fun z=>IU cenv (c.nm z)) hσ h0) fun σ3 eb3 hs3 hb3 hσ3=>?_
    refine A_Z L R.handled F2 C2.S mt y2 eb3 k1 k2 fun s3 G3 F3=>?_
    have AL:B5 c s2 r (fun a=>a=cenv.locals):=⟨fun a m=>C2.ap.hs a (.inl m),fun a m=>C2.ap.nr a (.inl m),fun a o m e=>C2.ap.nt a o (.inl m) e⟩
    have I3:It c s3 r H src (j+1) itv w:=C2.I.keep C2.S AL G3 fun a m=>⟨fun z=>(C.own a (.inl z)).1 m,C2.ap.nr a (.inr (.inl m)),C2.ap.notStat (.inr (.inl m))⟩
    have C3:CS c cenv src itv w D σ3 (j+1) xs s3 r H:=C2.step (G3.widen fun a m=>.inl m) F3 I3 (IG C2.hl fun o e=>G3.keep D o (C2.ap.notStat (.inr (.inr rfl))) (fun z=>(C.own D (.inl z)).2 rfl) e (C2.ap.nr D (.inr (.inr rfl))))
    have G03:BU c (CW cenv w D) s r H H s3 r:=(G2.widen (W':=CW cenv w D) fun a m=>.inr (.inl m)).transW (G3.widen fun a m=>.inl m) C2.ap.nr C2.has
    have sub:∀{s r},FR c s r cenv σ3→FR c s r cenv σ':=fun F=>F.sub hs3
    have back:∀{s r},FR c s r cenv σ3→FR c s r cenv σ₀:=fun F=>F.sub fun z u e=>⟨F.plain z u (hb3 z u e),fun _=>hb3 z u e⟩
    have tst:∀{b:Bool} {H4:AH},eE V cond σ' H=some (b,H4)→∀{Q':Bool→Shared→Prop} {E':Value→Shared→Prop},(∀s4 r4,Go c s3 r H H4 s4 r4→Q' b s4)→wpAny (model c.prog c.w) A (ZS ifs cenv) Q' E' s3:=fun {b H4} ec Q' E' q'=>by
     cases mc with
     | none =>
      exists ec
      exact XN (q' s3 r (Go.refl C3.S))
     | some m=>exact c8 ((Dd.b R C3.S (sub F3) m ec).go q')
    refine A5 e ?_
    clear e
    intro x H4 ec e
    cases x with
    | true =>
     refine tst ec fun s4 r4 G4=>?_
     rw [if_pos rfl]
     have C4:=C3.go G4
     refine A5 e ?_
     clear e
     intro v5 H5 e5 e
     ·refine A5 e ?_
      clear e
      intro l6 H6 e6 e
      ·exists e
       refine(Dd.e R C4.S (sub C4.F) me e5).go fun X5 s5 r5 G5 y5=>?_
       have C5:=C4.go G5
       have hz:xs.size≤sizeLine:=Nat.le_trans (by lia) (by decide:700≤sizeLine)
       refine wpAny_list_append_plain C5.hl (fun h6 hl6 sb6=>?_) hz
       have AD:B5 c s5 r5 (fun a=>a=D):=⟨fun a m=>C5.ap.hs a (.inr (.inr m)),fun a m=>C5.ap.nr a (.inr (.inr m)),fun a o m e=>C5.ap.nt a o (.inr (.inr m)) e⟩
       have G6:=BU.oneBut AD C5.S rfl sb6 s5.toks
       have F6:=C5.F.gof C5.S G6 AD fun a o z=>(C.own a o).2 z
       have I6:=C5.I.keep C5.S AD G6 fun a m=>⟨fun z=>C.dw (z▸m),C5.ap.nr a (.inr (.inl m)),C5.ap.notStat (.inr (.inl m))⟩
       have C6:CS c cenv src itv w D σ₀ (j+1) (xs.push X5) { s5 with heap:=h6,toks:=s5.toks } r5 H5:=C5.step (G6.widen fun a m=>.inr (.inr m)) (back F6) I6 hl6
       have G05:BU c (CW cenv w D) s r H H5 s5 r5:=(G03.transW (Go.f G4) C3.ap.nr C3.has).transW (Go.f G5) C4.ap.nr C4.has
       have G06:BU c (CW cenv w D) s r H H5 { s5 with heap:=h6,toks:=s5.toks } r5:=G05.transW (G6.widen fun a m=>.inr (.inr m)) C5.ap.nr C5.has
       refine Dd.comp R C6.S C6.F hσ h0 mt mc me hp C6.I C6.ap C6.own C6.dw C6.hl (by simp;lia) k1 k2 e6 Q fun s' r' ys G' hl' y' F'=>?_
       refine q s' r' (#[X5]++ys) (G06.transW G' C6.ap.nr C6.has) ?_ ?_ F'
       ·rw [←Array.append_assoc,←Array.push_eq_append];exact hl'
       ·have y6:=G6.vr AD C5.S y5
        have:=G'.vr C6.ap C6.S y6
        simpa using AJ.cons this y'
    | false =>
     replace e:V.comp elt t cond src (j+1) σ H4=some (l,H'):=e
     refine tst ec fun s4 r4 G4=>?_
     rw [if_neg (by decide)]
     have C4:=C3.go G4
     have G04:BU c (CW cenv w D) s r H H4 s4 r4:=G03.transW (Go.f G4) C3.ap.nr C3.has
     have F4:=back C4.F
     refine Dd.comp R C4.S F4 hσ h0 mt mc me hp C4.I C4.ap C4.own C4.dw C4.hl (by lia) k1 k2 e Q fun s' r' ys G' hl' y' F'=>?_
     exact q s' r' ys (G04.transW G' C4.ap.nr C4.has) hl' y' F'
end
section
variable{c:Cx}{T:Tab}{N:Nm}{k:Nat}{V:Ev}{A:Around}{s s₁:Shared}{r r₁:List Addr}{H H₁ H':AH}{env cenv:Env}{σ σ₁ σ₀:Env'}{v:AV}{pos:Pos}{W W':Addr→Prop}{src:DV}{j:Nat}{itv:Value}{w:List Addr}{D:Addr}{xs:Array Value}
noncomputable def CK(env:Env):List (PySem.Str×NameKind)→List (PySem.Str×Addr)→List (PySem.Str×Addr)
 | [],cs=>cs
 | (n,kd)::r,cs=>CK env r (if kd==.free then(match env.cells.lookup n with | some a=>(n,a)::cs | none=>cs) else cs)
theorem lV(ns:List (PySem.Str×NameKind)):∀(cs:List (PySem.Str×Addr)),(∀x∈ns,x.2=.free→(env.cells.lookup x.1).isSome=true) →
  (forIn ns cs fun(x:PySem.Str×NameKind) (cs:List (PySem.Str×Addr))=>if(x.2==.free)=true then(do let a←cellOf env x.1;pure (ForInStep.yield ((x.1,a)::cs))) else pure (ForInStep.yield cs):Sem (List (PySem.Str×Addr)))=pure (CK env ns cs):=by
 induction ns with
 | nil=>exact fun _ _=>rfl
 | cons p r ih =>
  intro cs h
  obtain⟨n,kd⟩:=p
  rw [List.forIn_cons]
  have ih:=fun cs=>ih cs fun x m=>h x (List.mem_cons_of_mem _ m)
  by_cases hk:kd=.free
  ·subst hk
   refine Og.AI (Option.isSome_iff_exists.mp (h (n,.free) List.mem_cons_self rfl)) fun a ea=>?_
   have e1:cellOf env n=pure a:=by unfold cellOf;rw [ea]
   have e2:CK env ((n,.free)::r) cs=CK env r ((n,a)::cs):=by
    rw [CK]
    dsimp only at ea
    rw [ea];rfl
   rw [e2,←ih]
   show(do let a←cellOf env n;pure (ForInStep.yield ((n,a)::cs)):Sem (ForInStep (List (PySem.Str×Addr))))>>=_=_
   rw [e1];rfl
  ·have hb:(kd==NameKind.free)=false:=beq_eq_false_iff_ne.mpr hk
   have e2:CK env ((n,kd)::r) cs=CK env r cs:=by rw [CK,hb];rfl
   rw [e2,←ih]
   dsimp only
   rw [hb];rfl
theorem lW{scope:Scope}(h:∀x∈scope.names,x.2=.free→(env.cells.lookup x.1).isSome=true):closureFor scope env=pure (CK env scope.names []):=by
 unfold closureFor
 have:=lV (env:=env) scope.names [] h
 rw [←this]
 exact bind_pure _
set_option tactic.hygienic true in
theorem NV:∀(ns:List (PySem.Str×NameKind)) (cs:List (PySem.Str×Addr)),(∀n a,cs.lookup n=some a→env.cells.lookup n=some a)→∀n a,(CK env ns cs).lookup n=some a→env.cells.lookup n=some a
 | [],_,h=>h
 | (m,kd)::r,cs,h=>by
  unfold CK
  refine NV r _ ?_
  by_cases hk:(kd==NameKind.free)=true
  ·rw [if_pos hk]
   split
   ·rename_i a ea
    intro n b e
    rw [List.lookup_cons] at e
    refine Og.GQ (n==m) (fun hn=>?_) fun hn=>?_
    ·rw [hn] at e;exists e;rw [eq_of_beq hn];exact ea
    ·rw [hn] at e;exact h n b e
   ·exact h
  ·rw [if_neg hk];exact h
theorem NW:∀(ns:List (PySem.Str×NameKind)) (cs:List (PySem.Str×Addr)) (n:PySem.Str),(cs.lookup n).isSome=true→((CK env ns cs).lookup n).isSome=true
 | [],_,_,h=>h
 | (m,kd)::r,cs,n,h=>by
  unfold CK
  refine NW r _ n ?_
  by_cases hk:(kd==NameKind.free)=true
  ·rw [if_pos hk]
   split
   ·rw [List.lookup_cons]
    cases hn:n==m with
    | true=>rfl
    | false=>exact h
   ·exact h
  ·rw [if_neg hk];exact h
theorem PV(ns:List (PySem.Str×NameKind)):∀(cs:List (PySem.Str×Addr)) (n:PySem.Str),(n,NameKind.free)∈ns→(env.cells.lookup n).isSome=true→((CK env ns cs).lookup n).isSome=true:=by
 induction ns with
 | nil=>exact fun _ _ h=>nomatch h
 | cons p r ih =>
  intro cs n h hs
  obtain⟨m,kd⟩:=p
  unfold CK
  refine(List.mem_cons.mp h).elim (fun e=>?_) fun h=>ih _ n h hs
  obtain⟨e1,e2⟩:=Prod.mk.inj e
  subst e1 e2
  refine NW r _ _ ?_
  refine Og.AI (Option.isSome_iff_exists.mp hs) fun a ea=>?_
  rw [if_pos (by rfl),ea]
  dsimp only
  rw [List.lookup_cons,beq_self_eq_true];rfl
theorem FA{ns:List (PySem.Str×NameKind)}{n:PySem.Str}{kd:NameKind}(e:ns.lookup n=some kd):(n,kd)∈ns:=by
 induction ns with
 | nil=>exists e
 | cons x r ih =>
  obtain⟨m,k2⟩:=x
  rw [List.lookup_cons] at e
  refine Og.GQ (n==m) (fun hn=>?_) fun hn=>?_
  ·rw [hn] at e;exists e;rw [eq_of_beq hn];exact List.mem_cons_self
  ·rw [hn] at e;exact List.mem_cons_of_mem _ (ih e)
theorem EO{scope:Scope}{n:PySem.Str}{kd:NameKind}{ns:List (PySem.Str×NameKind)}(h:(ns.map fun(x:PySem.Str×NameKind)=>if(x.2==.free&&scope.kind==.function&&scope.names.lookup x.1==some .cell)=true then(x.1,NameKind.cell) else(x.1,x.2)).lookup n=some kd):
  ns.lookup n=some kd∨(kd=.cell∧ns.lookup n=some .free):=by
 induction ns with
 | nil=>exact AU h
 | cons p r ih =>
  obtain⟨m,k2⟩:=p
  rw [List.map_cons] at h
  rw [List.lookup_cons]
  by_cases hc:(k2==NameKind.free&&scope.kind==.function&&scope.names.lookup m==some .cell)=true
  ·rw [if_pos hc] at h
   rw [List.lookup_cons] at h
   cases hn:n==m with
   | true =>
    rw [hn] at h;exists h
    simp only [Bool.and_eq_true,beq_iff_eq] at hc
    exact .inr ⟨rfl,by rw [hc.1.1]⟩
   | false=>rw [hn] at h;exact ih h
  ·rw [if_neg hc] at h
   rw [List.lookup_cons] at h
   cases hn:n==m with
   | true=>rw [hn] at h;exact .inl h
   | false=>rw [hn] at h;exact ih h
theorem XS(L:CP c T N)(F:FR c s r env σ)(S:SR c s r H){scope:Scope}{t:PT}(h1:DW scope env.scope=true)(h2:GF N t scope=true){C:Addr}(hC:c.hs.get? C=none)(nC:C∉r)(oC:¬CC env C)(hn:∃m,s.heap.Ns C m):
  FR c s r (compEnvC scope (CK env scope.names []) C env) (σ.filter fun p=>!CB N t (c.nm p.1))∧(∀z u,AG z σ=some u→c.isA z=false∧(IU (compEnvC scope (CK env scope.names []) C env) (c.nm z)→AG z (σ.filter fun p=>!CB N t (c.nm p.1))=some u∨CB N t (c.nm z)=true)) ∧
  (∀z u,AG z (σ.filter fun p=>!CB N t (c.nm p.1))=some u→CB N t (c.nm z)=false):=by
 have lf:∀z,AG z (σ.filter fun p=>!CB N t (c.nm p.1))=if CB N t (c.nm z)=true then none else AG z σ:=by
  intro z
  clear F
  induction σ with
  | nil=>simp [AG]
  | cons p σ ih =>
   obtain⟨y,u⟩:=p
   rw [List.filter_cons,BE]
   by_cases hy:CB N t (c.nm y)=true
   ·rw [if_neg (by simp [hy]),ih]
    by_cases hz:y=z
    ·subst hz;simp [hy]
    ·simp [hz]
   ·rw [if_pos (by simp [hy]),BE,ih]
    by_cases hz:y=z
    ·subst hz;simp [hy]
    ·simp [hz]
 have hin:=NV (env:=env) scope.names [] (fun _ _ e=>nomatch e)
 have hs0:scope.kind=.function:=by
  unfold DW at h1
  rw [Bool.and_eq_true] at h1
  exact of_decide_eq_true h1.1
 have hall:∀x∈scope.names,match x.2 with
  | .cell=>False
  | .local=>scope.names.lookup x.1=some .local
  | .free=>ET env.scope x.1=true∧¬env.scope.names.lookup x.1=some .local
  | _=>True:=by
  unfold DW at h1
  rw [Bool.and_eq_true] at h1
  intro x m
  have:=List.all_eq_true.mp h1.2 x m
  obtain⟨n,kd⟩:=x
  exists kd<;>simp_all
 have hcov:∀x∈scope.names,x.2=.local→x.1=(".0":PySem.Str)∨CB N t x.1=true:=by
  unfold GF at h2
  rw [Bool.and_eq_true] at h2
  intro x m hx
  have:=List.all_eq_true.mp h2.1 x m
  rw [hx] at this
  simpa using this
 refine⟨⟨hs0,F.globals,F.builtins,hn,fun x v e kn=>?_,fun n a e=>?_,fun n e=>?_,fun n m a e1 e2=>F.inj n m a (hin n a e1) (hin m a e2),fun a o=>?_,fun a o=>?_,fun x v e=>?_,fun x e=>?_⟩,fun z u e=>⟨F.plain z u e,fun _=>?_⟩,fun z u e=>?_⟩
 ·rw [lf] at e
  by_cases ht:CB N t (c.nm x)=true
  ·rw [if_pos ht] at e;exists e
  ·rw [if_neg ht] at e
   have nl:scope.names.lookup (c.nm x)≠some .local:=fun z=>by
    rcases hcov _ (FA z) rfl with q | q
    ·exact(L.dbg x).2.2 q
    ·exact ht q
   have fr:∀kd,(compEnvC scope (CK env scope.names []) C env).kindOf (c.nm x)=some kd→kd=.local∨kd=.cell∨kd=.free→scope.names.lookup (c.nm x)=some .free:=fun kd z hk=>by
    rcases EO (scope:=env.scope) (ns:=scope.names) z with q | ⟨_,q⟩
    ·rcases hk with rfl | rfl | rfl
     ·exact absurd q nl
     ·exact(hall _ (FA q)).elim
     ·exact q
    ·exact q
   have hf:scope.names.lookup (c.nm x)=some .free:=by
    rcases kn with z | z | z
    ·exact fr _ z (.inl rfl)
    ·exact fr _ z (.inr (.inl rfl))
    ·exact fr _ z (.inr (.inr rfl))
   obtain⟨hv,hnl⟩:=hall _ (FA hf)
   have kn2:IU env (c.nm x):=by
    unfold ET at hv
    split at hv
    ·exact .inl (by assumption)
    ·exact .inr (.inl (by assumption))
    ·exact .inr (.inr (by assumption))
    ·exists hv
   refine Og.AB (F.vars x v e kn2) fun X nx yx=>?_
   refine⟨X,?_,yx⟩
   rcases nx with ⟨z,_⟩ | ⟨_,a,la,ia⟩
   ·exact absurd z hnl
   ·have:=PV (env:=env) scope.names [] (c.nm x) (FA hf) (by rw [la];rfl)
    refine Og.AI (Option.isSome_iff_exists.mp this) fun b eb=>?_
    have:=hin _ _ eb
    rw [la] at this;exists this
    refine .inr ⟨?_,a,eb,ia⟩
    rcases kn with z | z
    ·exfalso
     rcases EO (scope:=env.scope) (ns:=scope.names) z with q | ⟨q,_⟩
     ·exact nl q
     ·exists q
    ·exact z
 ·exact F.cells n a (hin n a e)
 ·exact oC (.inr ⟨n,hin n C e⟩)
 ·rcases o with rfl | ⟨n,e⟩
  ·exact hC
  ·exact F.notHs a (.inr ⟨n,hin n a e⟩)
 ·rcases o with rfl | ⟨n,e⟩
  ·exact nC
  ·exact F.notIn a (.inr ⟨n,hin n a e⟩)
 ·rw [lf] at e
  by_cases ht:CB N t (c.nm x)=true
  ·rw [if_pos ht] at e;exists e
  ·rw [if_neg ht] at e;exact F.plain x v e
 ·have hf:scope.names.lookup x=some .free:=by
   rcases e with e | e
   ·rcases EO (scope:=env.scope) (ns:=scope.names) e with q | ⟨_,q⟩
    ·exact(hall _ (FA q)).elim
    ·exact q
   ·rcases EO (scope:=env.scope) (ns:=scope.names) e with q | ⟨_,q⟩
    ·exact q
    ·exact q
  have hc2:env.kindOf x=some .cell∨env.kindOf x=some .free:=by
   obtain⟨hv,hnl⟩:=hall _ (FA hf)
   unfold ET at hv
   split at hv
   ·rename_i z;exact absurd z hnl
   ·exact .inl (by assumption)
   ·exact .inr (by assumption)
   ·exists hv
  exact PV (env:=env) scope.names [] x (FA hf) (F.own x hc2)
 ·rw [lf]
  by_cases ht:CB N t (c.nm z)=true
  ·exact .inr ht
  ·rw [if_neg ht];exact .inl e
 ·rw [lf] at e
  by_cases ht:CB N t (c.nm z)=true
  ·rw [if_pos ht] at e;exists e
  ·simpa using ht
end
section
variable{c:Cx}{T:Tab}{N:Nm}{k:Nat}{V:Ev}{A:Around}{s s₁:Shared}{r r₁:List Addr}{H H₁ H':AH}{env cenv:Env}{σ σ₁ σ₀:Env'}{v:AV}{pos:Pos}{W W':Addr→Prop}{src:DV}{j:Nat}{itv:Value}{w:List Addr}{D:Addr}{xs:Array Value}
theorem MI.folded{sc:Scope}{it:PX}{ex:Expr}(m:MI N sc it ex)(x:Value):foldedSetIterable ex env x=pure x:=by
 have h:ex.ctorIdx≠7:=by
  unfold MI at m
  refine Og.YY (pN it) (fun z=>?_) fun z=>?_
  ·rw [z] at m;exact m.1
  ·
   rw [z] at m
   induction it using Og.PX.casesOn with
   | enum q=>exact m (fun ex=>ex.ctorIdx≠7) fun _ _ _ _ _ _ _ h=>nomatch h
   | range q=>exact m (fun ex=>ex.ctorIdx≠7) fun _ _ _ _ _ _ _ h=>nomatch h
   | zip a b=>exact m (fun ex=>ex.ctorIdx≠7) fun _ _ _ _ _ _ _ _ _ h=>nomatch h
   | _=>exact BZ z
 exists ex<;>first | rfl | exact absurd rfl h
theorem NX{sc:Scope}{it:PX}{t:PT}{t':Expr}(m:MT N sc t t')(h:GR it t=true){q:PX}(e:it=.enum q):∃es k p,t'=.Tuple es k p:=by
 subst e
 cases m with
 | one=>exists h
 | two=>exact⟨_,_,_,rfl⟩
theorem OR.cls{h:Heap}{o:AO}{ob:Obj}(x:OR c h r o ob):(∃a,ob.cls=.ref a)∨ob.cls=.type "list"∨ob.cls=.type "dict"∨ob.cls=.type "bytearray":=by
 induction o using Og.AO.casesOn with
 | inst k d=>obtain⟨dx,e,rfl,_⟩:=x;exact .inl ⟨_,rfl⟩
 | list l=>obtain⟨vs,n,rfl,q⟩:=x;exact .inr (.inl rfl)
 | sdict n es=>obtain⟨kvs,e,q⟩:=x;exact .inr (.inr (.inl (BY e)))
 | idict es=>obtain⟨kvs,e,q⟩:=x;exact .inr (.inr (.inl (BY e)))
 | edict=>exact .inr (.inr (.inl (BY x.1)))
 | ns es=>obtain⟨ds,n,rfl,q⟩:=x;exact .inr (.inr (.inl rfl))
 | barr l=>exists x;exact .inr (.inr (.inr rfl))
 | fmap es=>obtain⟨_,_,kvs,_,e,q⟩:=x;exact .inr (.inr (.inl (BY e)))
 | bag es=>obtain⟨_,_,vs,n,_,rfl,q⟩:=x;exact .inr (.inl rfl)
theorem vE(S:SR c s r H){a:Addr}{o:Obj}(e:s.heap.get? a=some o){T:String}(hc:o.cls=.type T)(h:T≠"list"∧T≠"dict"∧T≠"bytearray"):a∉r:=fun m=>by
 refine Og.FG (S.has m) fun _ _ ob _ _ e2 e3=>?_
 rw [e] at e2;exists e2
 rcases e3.cls with ⟨b,q⟩ | q | q | q<;>rw [hc] at q
 ·exists q
 ·injection q with q;exact h.1 q
 ·injection q with q;exact h.2.1 q
 ·injection q with q;exact h.2.2 q
theorem It.nr(x:It c s r H src j itv w)(S:SR c s r H):∀a∈w,a∉r:=fun a m=>by
 refine Og.BV (x.obj a m) fun o n e cl k=>?_
 exact vE S e cl ⟨fun z=>by rw [z] at k;exact absurd k (by decide),fun z=>by rw [z] at k;exact absurd k (by decide),fun z=>by rw [z] at k;exact absurd k (by decide)⟩
theorem UY(S:SR c s r H){a:Addr}(e:s.heap.get? a=none):a≠c.L:=fun z=>by
 refine Og.ES S.stat fun o' _ _ e' _=>?_
 rw [z,e'] at e;exists e
theorem cD(S:SR c s r H)(G:Go c s r H H₁ s₁ r₁)(C:CS c cenv src itv w D σ₀ j xs s₁ r₁ H₁)(f:∀a,CW cenv w D a→s.heap.get? a=none){s₂:Shared}{r₂:List Addr}{H₂:AH}{l:List AV}{ys:Array Value}
  (G2:BU c (CW cenv w D) s₁ r₁ H₁ H₂ s₂ r₂) (hl:s₂.heap.PlainList D ys) (y:AJ c.hs s₂.heap r₂ l ys.toList):Go c s r H (H₂++[.list l]) s₂ (r₂++[D])∧VR c.hs s₂.heap (r₂++[D]) (.ref H₂.length) (.ref D):=by
 have G3:Go c s r H H₂ s₂ r₂:=((Go.f G).transW G2 C.ap.nr C.has).go f
 have nD:D∉r₂:=fun m=>by
  rcases G2.new D m with q | q
  ·exact C.ap.nr D (.inr (.inr rfl)) q
  ·refine Og.AI (C.has D (.inr (.inr rfl))) fun o e=>?_;rw [e] at q;exists q
 refine Og.AI hl fun n e=>?_;clear hl
 refine⟨Go.adopt S G3 (f D (.inr (.inr rfl))) e nD ⟨ys,n,rfl,y.mono (fun _ _ e _=>e) (List.prefix_append ..)⟩,VR.last G3.sr D⟩
set_option maxHeartbeats 1000000 in
theorem ZV(L:CP c T N)(Dd:Sd c T N k V)(R:AR k A)(hk:k≤700)(S:SR c s r H)(F:FR c s r env σ){elt it:PX}{t:PT}{cond:Option PX}{elt' t' it':Expr}{ifs:List Expr}{scope:Scope}{p2:Pos}{use:Option (Value→Sem Unit)}
  (h1:DW scope env.scope=true) (h2:GR it t=true) (hz:FV it=false) (h3:GF N t scope=true) (mt:MT N (C7 scope env.scope) t t') (mi:MI N env.scope it it') (mc:MC N (C7 scope env.scope) cond ifs) (me:ME N (C7 scope env.scope) elt elt')
  (e:CN T V (.comp elt t it cond) σ H=some (v,H')) {Q:Value→Shared→Prop} {E:Value→Shared→Prop}
  (q:∀D C s' r',Go c s r H H' s' r'→VR c.hs s'.heap r' v (.ref D)→s.heap.get? C=none→C∉r'→c.hs.get? C=none→(∃m,s'.heap.Ns C m)→compPost (model c.prog c.w) A E use Q (.ref D) C (.ok .next) s') :
  wpAny (model c.prog c.w) A (comprehension (.ListComp elt' [⟨t',it',ifs,0⟩] scope pos) scope env p2 (newList []) false (eval it' env) use) Q E s:=by
 refine A5 e ?_
 clear e
 intro src H1 e1 e
 ·refine A5 e ?_
  clear e
  intro l H2 e2 e
  ·exists e
   have hfree:∀x∈scope.names,x.2=.free→(env.cells.lookup x.1).isSome=true:=fun x m hx=>by
    unfold DW at h1
    rw [Bool.and_eq_true] at h1
    have:=List.all_eq_true.mp h1.2 x m
    rw [hx] at this
    simp only [Bool.and_eq_true,Bool.not_eq_true',decide_eq_false_iff_not] at this
    obtain⟨hv,hnl⟩:=this
    unfold ET at hv
    split at hv
    ·rename_i z;exact absurd z hnl
    ·exact F.own _ (.inl (by assumption))
    ·exact F.own _ (.inr (by assumption))
    ·exists hv
   have hcell:∀x∈scope.names,x.2≠.cell:=fun x m hx=>by
    unfold DW at h1
    rw [Bool.and_eq_true] at h1
    have:=List.all_eq_true.mp h1.2 x m
    rw [hx] at this;exists this
   have hloc:∀x∈scope.names,x.2=.local→scope.names.lookup x.1=some .local:=fun x m hx=>by
    unfold DW at h1
    rw [Bool.and_eq_true] at h1
    have:=List.all_eq_true.mp h1.2 x m
    rw [hx] at this;exact of_decide_eq_true this
   have hkind:scope.kind=.function:=by
    unfold DW at h1
    rw [Bool.and_eq_true] at h1
    exact of_decide_eq_true h1.1
   refine wpAny_comprehension_free rfl mi.folded (lW hfree) hkind hloc ((Dd.it R S F mi hz e1).go fun X s1 r1 G1 B1=>?_)
   refine B1 _ _ fun itv w s2 G2 I2 fw=>?_
   have G02:=G1.trans G2
   refine wpAny_newObj_type (wpAny_newFunctionEnv hcell (by intro y hy;simp at hy) (fun h₁ hns₁ hsb₁=>?_) hkind)
   dsimp only at hns₁ hsb₁ ⊢
   generalize hH2:s2.heap.push { cls:=.type "list",dict:=none,data:=.seq ([]:List Value).toArray }=Hp at hns₁ hsb₁ ⊢
   generalize hC:Hp.objs.size=C at hns₁ hsb₁ ⊢
   have hC':C=s2.heap.objs.size+1:=by rw [←hC,←hH2,Heap.size_push]
   have hlt:s2.heap.objs.size<C:=by rw [hC'];exact Nat.lt_succ_self _
   have keep:∀b o,s2.heap.get? b=some o→h₁.get? b=some o:=fun b o e=>hsb₁.extBut b o (Nat.ne_of_lt (Nat.lt_trans (Heap.lt_size e) hlt)) (Heap.get?_push_of_some _ (hH2▸Heap.get?_push_of_some _ e))
   have fD:s2.heap.get? s2.heap.objs.size=none:=CE _
   have fC:s2.heap.get? C=none:=by
    cases q:s2.heap.get? C with
    | none=>rfl
    | some o=>exact absurd (Heap.lt_size q) (Nat.not_lt.mpr (Nat.le_of_lt hlt))
   have nb:=L4 S G02
   have hD₁:h₁.PlainList s2.heap.objs.size #[]:=⟨_,hsb₁.extBut _ _ (Nat.ne_of_lt hlt) (Heap.get?_push_of_some _ (hH2▸Heap.get?_push_size _ rfl))⟩
   have G3:Go c s2 r1 H1 H1 { s2 with heap:=h₁,toks:=s2.toks+([]:List (PySem.Str×Value)).length } r1:=Go.grow G02.sr keep _
   have G03:=G02.trans G3
   have I3:=I2.keep (W:=fun _=>False) G2.sr B5.none (Go.f G3) fun a m=>⟨fun f=>f,I2.nr G2.sr a m,UY S (fw a m)⟩
   have fr:∀a,CW (compEnvC scope (CK env scope.names []) C env) w s2.heap.objs.size a→s.heap.get? a=none:=fun a o=>by
    rcases o with rfl | m | rfl
    ·exact nb _ fC
    ·exact fw a m
    ·exact nb _ fD
   have oC:¬CC env C:=fun o=>by obtain⟨ob,e⟩:=(F.go S G02).has o;rw [fC] at e;exists e
   have nrC:C∉r1:=(FL G02.sr fC).2
   refine Og.BB (XS L (F.go S G03) G03.sr h1 h3 (FM G02.sr fC) nrC oC ⟨_,hns₁⟩) fun F3 hσ h0=>?_
   have CS3:CS c (compEnvC scope (CK env scope.names []) C env) src itv w s2.heap.objs.size (σ.filter fun p=>!CB N t (c.nm p.1)) 0 #[] { s2 with heap:=h₁,toks:=s2.toks+([]:List (PySem.Str×Value)).length } r1 H1:=by
    refine⟨G3.sr,F3,I3,hD₁,⟨fun a o=>FM S (fr a o),fun a o=>?_,fun a ob o e=>?_⟩,fun a o=>?_,fun m=>?_⟩
    ·rcases o with rfl | m | rfl
     ·exact nrC
     ·exact I3.nr G3.sr a m
     ·exact(FL G02.sr fD).2
    ·rcases o with rfl | m | rfl
     ·exact DF hns₁ e
     ·exact I3.nt a m ob e
     ·refine Og.H8 hD₁.isList fun o' e' cl _=>?_
      rw [e] at e';exists e'
      intro t;rw [t.1] at cl;simp at cl
    ·rcases o with rfl | ⟨n,e⟩
     ·refine⟨fun m=>?_,Nat.ne_of_gt hlt⟩
      refine Og.AI (I2.has _ m) fun o e=>?_
      rw [fC] at e;exists e
     ·have oe:CC env a:=.inr ⟨n,NV (env:=env) scope.names [] (fun _ _ e=>nomatch e) n a e⟩
      refine Og.AI (F.has oe) fun ob eo=>?_
      refine⟨fun m=>?_,fun z=>?_⟩
      ·rw [fw a m] at eo;exists eo
      ·subst z;rw [nb _ fD] at eo;exists eo
    ·refine Og.AI (I2.has _ m) fun o e=>?_
     rw [fD] at e;exists e
   have mt':MT N (compEnvC scope (CK env scope.names []) C env).scope t t':=mt
   have loc:∀x,scope.names.lookup (c.nm x)=some .local→(compEnvC scope (CK env scope.names []) C env).kindOf (c.nm x)=some .local:=fun x e=>lookup_relabel_local e
   have hcv:match t with | .one x=>scope.names.lookup (c.nm x)=some .local | .two x y=>scope.names.lookup (c.nm x)=some .local∧scope.names.lookup (c.nm y)=some .local:=by
    unfold GF at h3
    rw [Bool.and_eq_true] at h3
    have h4:=h3.2
    rw [L.nm] at h4
    induction t using Og.PT.casesOn with
    | one x=>exact of_decide_eq_true h4
    | two x y=>simpa using h4
   have k1:∀x y,t=.one x∨t=.two x y→(compEnvC scope (CK env scope.names []) C env).kindOf (c.nm x)=some .local:=fun x y e=>by
    rcases e with rfl | rfl
    ·exact loc x hcv
    ·exact loc x hcv.1
   have k2:∀x y,t=.two x y→(compEnvC scope (CK env scope.names []) C env).kindOf (c.nm y)=some .local:=fun x y e=>by
    subst e;exact loc y hcv.2
   have hp:DN src=true→∃es k p,t'=.Tuple es k p:=fun hp=>by
    refine Og.AI (Dd.pr _ _ _ _ _ e1 hp) fun q e=>?_
    exact NX mt h2 e
   have body:codeAny (model c.prog c.w) A (.compLoop (.ListComp elt' [⟨t',it',ifs,0⟩] scope pos) 0 itv (.ref s2.heap.objs.size) (compEnvC scope (CK env scope.names []) C env)) (compPost (model c.prog c.w) A E use Q (.ref s2.heap.objs.size) C) { s2 with heap:=h₁,toks:=s2.toks+([]:List (PySem.Str×Value)).length }:=by
    refine Dd.comp R CS3.S CS3.F hσ h0 mt' mc me hp CS3.I CS3.ap CS3.own CS3.dw CS3.hl (by simpa using hk) k1 k2 e2 _ fun s' r' ys G' hl' y' F'=>?_
    rw [Array.empty_append] at hl'
    obtain⟨g1,g2⟩:=cD S G03 CS3 fr G' hl' y'
    refine q _ C s' _ g1 g2 (nb _ fC) ?_ (FM G02.sr fC) F'.ns
    intro m
    rcases List.mem_append.mp m with m | m
    ·exact F'.notIn C (.inl rfl) m
    ·simp at m;exact absurd m.symm (Nat.ne_of_lt hlt)
   exact codeAny_compStart_list body (CS3.I.self body)
end
end Og
end
section
set_option backward.match.sparseCases false
open PySem PySem.W PySem.Calls PyProof.Rows PySem.SeqAt
namespace Og
section
variable{c:Cx}{T:Tab}{N:Nm}{k:Nat}{V:Ev}{A:Around}{s s₁:Shared}{r r₁:List Addr}{H H₁ H':AH}{env cenv:Env}{σ σ' σ₁ σ₀:Env'}{v:AV}{pos:Pos}{W W':Addr→Prop}{f:Fl}
theorem Go.loose(S:SR c s r H)(G:Go c s r H H₁ s₁ r₁){C:Addr}(h:s.heap.get? C=none)(nr:C∉r₁)(hn:∃m,s₁.heap.Ns C m){h':Heap}(sb:Heap.SameBut C s₁.heap h'):Go c s r H H₁ { s₁ with heap:=h' } r₁:=by
 refine Og.AI hn fun m n=>?_;clear hn
 exact(BU.loose (W:=fun _=>False) (Go.f G) (fun _ f=>f.elim) h (FM S h) nr (fun o e=>DF n e) sb).go fun _ f=>f.elim
theorem qM(L:CP c T N)(Dd:Sd c T N k V)(R:AR k A)(S:SR c s r H)(F:FR c s r env σ){elt it:PX}{t:PT}{cond:Option PX}{elt' t' it':Expr}{ifs:List Expr}{scope:Scope}
  (h1:DW scope env.scope=true) (h2:GR it t=true) (hz:FV it=false) (h3:GF N t scope=true) (mt:MT N (C7 scope env.scope) t t') (mi:MI N env.scope it it') (mc:MC N (C7 scope env.scope) cond ifs) (me:ME N (C7 scope env.scope) elt elt')
  (e:CN T V (.comp elt t it cond) σ H=some (v,H')):AE c A (eval (.ListComp elt' [⟨t',it',ifs,0⟩] scope pos) env) s r H v H':=by
 intro Q E q
 rw [eval_ListComp]
 refine ZV (use:=none) L Dd R (by have:=R.depth;lia) S F h1 h2 hz h3 mt mi mc me e fun D C s' r' G y f nr _ hn=>?_
 refine Og.AI hn fun m n=>?_;clear hn
 exact⟨m,n,fun h' sb=>q _ _ r' (Go.loose S G f nr ⟨m,n⟩ sb) (by
  have n2:C∉r':=nr
  exact y.mono (fun a o e t=>(sb.2 a (fun z=>DF n (z▸e) t)).trans e) (List.prefix_refl _))⟩
theorem K7{e:Expr}(h:DM e=false)(tgt:Option Expr)(line:Nat)(env:Env):swapsWith e tgt line env=pure false:=by
 exists e<;>first | rfl | exists h
theorem IH(e:Expr)(o:Expr)(a:PySem.Str)(p:Pos)(line:Nat)(env:Env):swapsWith e (some (.Attribute o a p)) line env=pure false:=by
 exists e<;>rfl
noncomputable def vI:PX→Bool
 | .comp _ _ _ _=>true
 | _=>false
theorem lX{p:PX}(h:(Nat.beq (jV p) 8||(Nat.beq (jV p) 9||Nat.beq (jV p) 10))=true):vI p=true:=by
 exists p<;>first | rfl | exact BZ h
theorem gZ(L:CP c T N)(D:Sd c T N k V)(R:AR k A)(S:SR c s r H)(F:FR c s r env σ){x:Nat}{p:PX}{e':Expr}{q1:Pos}(hA:N.isA x=false)(ho:EU env.scope (N.nm x)=true)(m:ME N env.scope p e')
  (e:E8 T V (.assign x p) σ H=some (f,σ',H')):CT c A (exec (.Assign [.Name (N.nm x) q1] e' pos) env) env s r H f σ' H':=by
 intro Q E q
 refine A5 e ?_
 clear e
 intro v H1 e1 e
 ·exists e,q
  rw [L.nm] at ho ⊢
  rw [L.isA] at hA
  have plain:swapsWith e' (some (.Name (c.nm x) q1)) pos.line env=pure false→wpAny (model c.prog c.w) A (exec (.Assign [.Name (c.nm x) q1] e' pos) env) Q E s:=fun hs=>by
   refine wpAny_Assign_Name ((D.e R S F m e1).go fun X s1 r1 G1 y1=>?_) hs
   have F1:=F.go S G1
   refine F1.store G1.sr y1 hA (DO ho) fun s2 G2 F2=>?_
   exact q .next s2 r1 ((Go.f G1).trans G2 fun a w=>F2.notIn a w) F2 trivial
  refine Og.YY (DM e') (fun hc=>?_) fun hc=>?_
  ·exact plain (K7 hc _ _ _)
  ·
   have m0:=m
   rcases m.step with rfl | ⟨hi,_⟩
   ·rw [D.any] at e1;exact AU e1
   have hp:vI p=true:=by
    have hc:(Nat.beq e'.ctorIdx 8||(Nat.beq e'.ctorIdx 9||Nat.beq e'.ctorIdx 10))=true:=hc
    rw [hi] at hc
    exact lX hc
   cases p with
   | comp elt t it cond =>
    revert plain
    clear hc hi hp
    refine m0.elim fun elt' t' it' ifs scope p2 h1 h2 hz h3 mt mi mc me=>?_
    intro plain
    have hb:∃b,swapsWith (.ListComp elt' [⟨t',it',ifs,0⟩] scope p2) (some (.Name (c.nm x) q1)) pos.line env=pure b:=⟨_,rfl⟩
    obtain⟨b,hb⟩:=hb
    induction b using Bool.casesOn with
    | false=>exact plain hb
    | true =>
     rw [exec_Assign_Name_used _ _ _ _ hb]
     refine wpAny_bind (wpAny_standAt (wpAny_bind ?_))
     show wpAny _ A (do let _←comprehension (.ListComp elt' [⟨t',it',ifs,0⟩] scope p2) scope env _ (newList []) false (eval it' env) (some (assign (.Name (c.nm x) q1) env))) _ _ s
     refine wpAny_bind (wpAny_mono (D.cu (use:=some (assign (.Name (c.nm x) q1) env)) (Q:=fun _ s'=>Q .next s') (E:=E) R S F h1 h2 hz h3 mt mi mc me e1 fun Dd C s1 r1 G1 y1 fC nC hC hn=>?_) (fun _ s' hq=>wpAny_pure (wpAny_pure hq)) fun _ _ e=>e)
     have F1:=F.go S G1
     have oC:¬CC env C:=fun o=>by obtain⟨ob,e⟩:=F.has o;rw [fC] at e;exists e,q
     refine assign_Name (F1.store G1.sr y1 hA (DO ho) fun s2 G2 F2=>?_)
     refine Og.AI hn fun m2 n2=>?_;clear hn
     have n3:s2.heap.Ns C m2:=CY n2 fun o e=>G2.keep C o (UY S fC) oC e nC
     refine⟨m2,n3,fun h' sb=>?_⟩
     have G12:BU c (CC env) s r H _ s2 r1:=(Go.f G1).trans G2 fun a w=>F2.notIn a w
     have G3:=G12.loose (fun a o=>⟨F2.notHs a o,F2.notIn a o,fun ob e=>F2.apartW.nt a ob o e⟩) fC hC nC (fun o e=>DF n3 e) sb
     have AC:B5 c s2 r1 (fun a=>a=C):=⟨fun a z=>z▸hC,fun a z=>z▸nC,fun a o z e=>DF n3 (z▸e)⟩
     refine q .next _ r1 G3 (F2.gof G2.sr (BU.oneBut AC G2.sr rfl sb s2.toks) AC fun a o z=>oC (z▸o)) trivial
   | _=>exact BZ hp
theorem qN(L:CP c T N)(D:Sd c T N k V)(R:AR k A)(S:SR c s r H)(F:FR c s r env σ){o p:PX}{a:Nat}{o' e':Expr}{q1:Pos}(hA:N.isA a=true)(m1:ME N env.scope o o')(m2:ME N env.scope p e')
  (e:E8 T V (.attr o a p) σ H=some (f,σ',H')):CT c A (exec (.Assign [.Attribute o' (N.nm a) q1] e' pos) env) env s r H f σ' H':=by
 intro Q E q
 refine A5 e ?_
 clear e
 intro v H1 e1 e
 ·refine A5 e ?_
  clear e
  intro w H2 e2 e
  ·refine A7 e ?_
   intro _ e0
   clear e
   ·refine A8 e0 ?_
    intro H3 e3 e4
    exists e4
    rw [L.nm]
    rw [L.isA] at hA
    refine plainObj_wpAny_Assign_Attribute ((D.e R S F m2 e1).go fun X s1 r1 G1 y1=>?_) (IH _ _ _ _ _ _)
    have F1:=F.go S G1
    refine(D.e R G1.sr F1 m1 e2).go fun Y s2 r2 G2 y2=>?_
    refine(PO G2.sr y2 (G2.vr G1.sr y1) hA e3).go fun s3 r3 G3=>?_
    have G:=(G1.trans G2).trans G3
    exact q .next s3 r3 (Go.f G) (F.go S G) trivial
theorem vJ(D:Sd c T N k V)(R:AR k A)(S:SR c s r H)(F:FR c s r env σ){o i p:PX}{o' i' e':Expr}{q1:Pos}(m1:ME N env.scope o o')(m2:ME N env.scope i i')(m3:ME N env.scope p e')(hc:DM e'=false)
  (e:E8 T V (.sub o i p) σ H=some (f,σ',H')):CT c A (exec (.Assign [.Subscript o' i' q1] e' pos) env) env s r H f σ' H':=by
 intro Q E q
 refine A5 e ?_
 clear e
 intro v H1 e1 e
 ·refine A5 e ?_
  clear e
  intro w H2 e2 e
  ·refine A5 e ?_
   clear e
   intro kk H3 e3 e
   ·refine A8 e ?_
    intro H4 e4 e5
    exists e5,q
    refine wpAny_Assign_Subscript ((D.e R S F m3 e1).go fun X s1 r1 G1 y1=>?_) (K7 hc _ _ _)
    have F1:=F.go S G1
    refine(D.e R G1.sr F1 m1 e2).go fun Y s2 r2 G2 y2=>?_
    have F2:=F1.go G1.sr G2
    refine(D.e R G2.sr F2 m2 e3).go fun Z s3 r3 G3 y3=>?_
    refine(g4 G3.sr (G3.vr G2.sr y2) y3 (G3.vr G2.sr (G2.vr G1.sr y1)) e4).go fun s4 r4 G4=>?_
    have G:=((G1.trans G2).trans G3).trans G4
    exact q .next s4 r4 (Go.f G) (F.go S G) trivial
theorem vK(D:Sd c T N k V)(R:AR k A)(S:SR c s r H)(F:FR c s r env σ){p:PX}{e':Expr}(m:ME N env.scope p e')
  (e:E8 T V (.ret p) σ H=some (f,σ',H')):CT c A (exec (.Return (some e') pos) env) env s r H f σ' H':=by
 intro Q E q
 refine A5 e ?_
 clear e
 intro v H1 e1 e
 ·exists e,q
  refine wpAny_Return_some ((D.e R S F m e1).go fun X s1 r1 G1 y1=>?_)
  exact q (.ret X) s1 r1 (Go.f G1) (F.go S G1) y1
theorem vL(S:SR c s r H)(F:FR c s r env σ)(e:E8 T V .brk σ H=some (f,σ',H')):CT c A (exec (.Break pos) env) env s r H f σ' H':=by
 intro Q E q
 exists e,q
 have h:exec (.Break pos) env=(do standAt pos;pure .brk):=rfl
 rw [h]
 exact wpAny_bind (wpAny_standAt (wpAny_pure (q .brk s r (BU.refl S) F trivial)))
theorem qO(D:Sd c T N k V)(R:AR k A)(S:SR c s r H)(F:FR c s r env σ){p:PX}{e':Expr}(m:ME N env.scope p e')(hc:DM e'=false)
  (e:E8 T V (.expr p) σ H=some (f,σ',H')):CT c A (exec (.Expr e' pos) env) env s r H f σ' H':=by
 intro Q E q
 refine A5 e ?_
 clear e
 intro v H1 e1 e
 ·exists e,q
  refine US ((D.e R S F m e1).go fun X s1 r1 G1 y1=>?_) (by unfold interactive;rw [F.kind];rfl) (K7 hc _ _ _)
  exact q .next s1 r1 (Go.f G1) (F.go S G1) trivial
theorem vM(D:Sd c T N k V)(R:AR k A)(S:SR c s r H)(F:FR c s r env σ){t:PX}{a b:List PS}{t':Expr}{a' b':List Stmt}(m1:ME N env.scope t t')(m2:TV N env.scope a a')(m3:TV N env.scope b b')
  (e:E8 T V (.ifs t a b) σ H=some (f,σ',H')):CT c A (exec (.If t' a' b' pos) env) env s r H f σ' H':=by
 intro Q E q
 refine A5 e ?_
 clear e
 intro x H1 e1 e
 induction x using Bool.casesOn with
 | true =>
  replace e:V.ss a σ H1=some (f,σ',H'):=e
  refine wpAny_If ((D.b R S F m1 e1).go fun s1 r1 G1=>?_)
  rw [if_pos rfl]
  have F1:=F.go S G1
  refine(D.ss R G1.sr F1 m2 e).go fun fl s2 r2 G2 F2 x=>q fl s2 r2 ((Go.f G1).trans G2 fun a w=>F2.notIn a w) F2 x
 | false =>
  replace e:V.ss b σ H1=some (f,σ',H'):=e
  refine wpAny_If ((D.b R S F m1 e1).go fun s1 r1 G1=>?_)
  rw [if_neg (by decide)]
  have F1:=F.go S G1
  refine(D.ss R G1.sr F1 m3 e).go fun fl s2 r2 G2 F2 x=>q fl s2 r2 ((Go.f G1).trans G2 fun a w=>F2.notIn a w) F2 x
theorem A_b(D:Sd c T N k V)(R:AR k A){p:List PS}{st:List Stmt}{s:Shared}{r:List Addr}{H H':AH}{σ σ':Env'}{f:Fl}(S:SR c s r H)(F:FR c s r env σ)(m:TV N env.scope p st)(e:KQ V p σ H=some (f,σ',H')):CT c A (execs st env) env s r H f σ' H':=by
 induction m generalizing s r H σ with
 | nil =>
  intro Q E q
  exists e,q
  exact wpAny_execs_nil (q .next s r (BU.refl S) F trivial)
 | cons m ms ih =>
  intro Q E q
  refine wpAny_execs_cons ?_
  refine A3 e ?_
  clear e
  rintro⟨f1,σ1,H1⟩ e1 e
  refine(D.s R S F m e1).go fun fl s1 r1 G1 F1 x=>?_
  induction f1 using Og.Fl.casesOn with
  | next =>
   exists fl<;>first | exact x.elim | skip
   exact(ih G1.sr F1 e).go fun fl s2 r2 G2 F2 x=>q fl s2 r2 (G1.trans G2 fun a w=>F2.notIn a w) F2 x
  | _ =>
   exists e,q
   exists fl<;>first | exact x.elim | exact q _ s1 r1 G1 F1 x
end
end Og
end
section
open PySem PySem.W PySem.Calls PyProof.Rows PySem.SeqAt
namespace Og
structure XT(c:Cx)(f:Nat)(params:List Nat)(dflts:List AV)(fd:FuncData)(body:List Stmt)(dv:List Value):Prop where
 obj:∃ob,c.hs.get? (c.fa f)=some ob∧ob.data=.func fd
 code:c.hs.CodeRec fd.code fd.qualname
 body:fd.body=.stmts body
 clo:fd.closure=[]
 co:fd.scope.isCoroutine=false
 gen:fd.scope.isGenerator=false
 kind:fd.scope.kind=.function
 globals:fd.globals=mainGlobals
 builtins:fd.builtins=builtinsNs
 nofree:∀x∈fd.scope.names,x.2≠.free
 dfl:AJ c.hs c.hs [] dflts dv
 bind:∀(s:Shared) (Vs:List Value),(∀a o,a≠c.L→c.hs.get? a=some o→s.heap.get? a=some o)→Vs.length≤params.length→params.length-Vs.length≤dflts.length →
  BindsTo s fd ⟨Vs,[]⟩ ((params.map c.nm).zip (Vs++dv.drop (dv.length-(params.length-Vs.length))))
 plain:∀x∈params,c.isA x=false
 kinds:∀x∈params,fd.scope.names.lookup (c.nm x)=some .local∨fd.scope.names.lookup (c.nm x)=some .cell
 nodup:params.Nodup
section
variable{c:Cx}{T:Tab}{N:Nm}{k:Nat}{V:Ev}{A:Around}{s s₁:Shared}{r r₁:List Addr}{H H₁ H':AH}{env cenv:Env}{σ σ' σ₁ σ₀:Env'}{v:AV}{pos:Pos}{W W':Addr→Prop}{f:Nat}
theorem HU{prog:Program}{w:World}{R:Result→Shared→Prop}{a:Addr}{o:Obj}{fd:FuncData}{body:List Stmt}{vals:List Value}{CQ:List (PySem.Str×Value)}
  (hroom:A.depth<recursionLimit) (ho:s.heap.get? a=some o) (hdata:o.data=.func fd) (hlim:s.heap.NoLimit) (hcd:s.heap.CodeRec fd.code fd.qualname)
  (hbody:fd.body=.stmts body) (hbind:BindsTo s fd ⟨vals,[]⟩ CQ) (hclo:fd.closure=[])
  (hkind:∀x∈CQ,fd.scope.names.lookup x.1=some .local∨(fd.scope.names.lookup x.1=some .cell∧((cellsFrom (s.heap.objs.size+1) fd.scope.names []).lookup x.1).isSome=true))
  (h:∀s₁,InCallC s (callEnvC fd s.heap.objs.size a).locals (bindL (callEnvC fd s.heap.objs.size a).kindOf CQ fun _=>none) (callEnvC fd s.heap.objs.size a).cells
    (bindC (callEnvC fd s.heap.objs.size a).kindOf CQ fun _=>none) s₁ →
   wpAny (model prog w) (A.deeper (callEnvC fd s.heap.objs.size a)) (execs body (callEnvC fd s.heap.objs.size a)) (fun f s'=>R (.ok (.ret (match f with | .ret v=>v | _=>.none))) s')
    (fun e s'=>wpAny (model prog w) (A.deeper (callEnvC fd s.heap.objs.size a)) (leaving (callEnvC fd s.heap.objs.size a) e) (fun _ s''=>R (.error e) s'') (fun e' s''=>R (.error e') s'') s') s₁)
  (hco:fd.scope.isCoroutine=false) (hgen:fd.scope.isGenerator=false) (hk:fd.scope.kind=.function) :
  codeAny (model prog w) A (.call (.ref a) ⟨vals,[]⟩) R s:=by
 refine codeAny_call_function hroom ho hdata hco hgen hbody hcd (hbind _ _ _ _ ?_)
 rw [hclo]
 refine wpAny_newFunctionEnv_cells hk hkind fun env he s' x=>?_
 subst he
 exact⟨hlim.keeps x.toInCall.keep,codeAny_func (h s' x)⟩
theorem RO{prog:Program}{w:World}{R:Result→Shared→Prop}{a:Addr}{o:Obj}{fd:FuncData}{body:List Stmt}{vals:List Value}{CQ:List (PySem.Str×Value)}
  (hroom:A.depth<recursionLimit) (ho:s.heap.get? a=some o) (hdata:o.data=.func fd) (hlim:s.heap.NoLimit) (hcd:s.heap.CodeRec fd.code fd.qualname)
  (hbody:fd.body=.stmts body) (hbind:BindsTo s fd ⟨vals,[]⟩ CQ) (hclo:fd.closure=[])
  (hkind:∀x∈CQ,fd.scope.names.lookup x.1=some .local∨(fd.scope.names.lookup x.1=some .cell∧((cellsFrom (s.heap.objs.size+1) fd.scope.names []).lookup x.1).isSome=true))
  (h:∀s₁,InCallC s (callEnvC fd s.heap.objs.size a).locals (bindL (callEnvC fd s.heap.objs.size a).kindOf CQ fun _=>none) (callEnvC fd s.heap.objs.size a).cells
    (bindC (callEnvC fd s.heap.objs.size a).kindOf CQ fun _=>none) s₁ →
   wpG (model prog w) (A.deeper (callEnvC fd s.heap.objs.size a)) (execs body (callEnvC fd s.heap.objs.size a)) (fun f s'=>R (.ok (.ret (match f with | .ret v=>v | _=>.none))) s')
    (fun e s'=>wpAny (model prog w) (A.deeper (callEnvC fd s.heap.objs.size a)) (leaving (callEnvC fd s.heap.objs.size a) e) (fun _ s''=>R (.error e) s'') (fun e' s''=>R (.error e') s'') s') s₁)
  (hco:fd.scope.isCoroutine=false) (hgen:fd.scope.isGenerator=false) (hk:fd.scope.kind=.function) :
  codeG (model prog w) A (.call (.ref a) ⟨vals,[]⟩) R s:=by
 refine IL hroom ho hdata hco hgen hbody hcd (hbind _ _ _ _ ?_)
 rw [hclo]
 refine wpAny_newFunctionEnv_cells hk hkind fun env he s' x=>?_
 subst he
 exact⟨hlim.keeps x.toInCall.keep,XI (h s' x)⟩
theorem UZ{kindOf:PySem.Str→Option NameKind}{n:PySem.Str}:∀{l:List (PySem.Str×Value)} (m:PySem.Str→Option Value),n∉l.map (·.1)→bindL kindOf l m n=m n
 | [],_,_=>rfl
 | (k,v)::l,m,h=>by
  rw [List.map_cons,List.mem_cons,not_or] at h
  unfold bindL
  rw [UZ _ h.2]
  split
  ·exact if_neg h.1
  ·rfl
theorem V0{kindOf:PySem.Str→Option NameKind}{n:PySem.Str}:∀{l:List (PySem.Str×Value)} (m:PySem.Str→Option Value),n∉l.map (·.1)→bindC kindOf l m n=m n
 | [],_,_=>rfl
 | (k,v)::l,m,h=>by
  rw [List.map_cons,List.mem_cons,not_or] at h
  unfold bindC
  rw [V0 _ h.2]
  split
  ·rfl
  ·exact if_neg h.1
theorem NY{kindOf:PySem.Str→Option NameKind}{n:PySem.Str}{X:Value}(hk:kindOf n=some .local):∀{l:List (PySem.Str×Value)} (m:PySem.Str→Option Value),(l.map (·.1)).Nodup→l.lookup n=some X→bindL kindOf l m n=some X
 | [],_,_,h=>nomatch h
 | (k,v)::l,m,nd,h=>by
  rw [List.map_cons,List.nodup_cons] at nd
  rw [List.lookup_cons] at h
  unfold bindL
  refine Og.GQ (n==k) (fun hn=>?_) fun hn=>?_
  ·
   rw [hn] at h;exists h
   have:=eq_of_beq hn;subst this
   rw [UZ _ nd.1,if_pos hk];simp
  ·rw [hn] at h;exact NY hk _ nd.2 h
theorem XU{kindOf:PySem.Str→Option NameKind}{n:PySem.Str}{X:Value}(hk:kindOf n≠some .local){l:List (PySem.Str×Value)}(m:PySem.Str→Option Value)(nd:(l.map (·.1)).Nodup)(h:l.lookup n=some X):bindC kindOf l m n=some X:=by
 induction l generalizing m with
 | nil=>exact AU h
 | cons p l ih =>
  obtain⟨k,v⟩:=p
  rw [List.map_cons,List.nodup_cons] at nd
  rw [List.lookup_cons] at h
  refine Og.GQ (n==k) (fun hn=>?_) fun hn=>?_
  ·rw [hn] at h
   have z:=eq_of_beq hn
   subst z
   refine(V0 _ nd.1).trans ?_
   rw [if_neg hk,Option.some.inj h];exact if_pos rfl
  ·rw [hn] at h;exact ih _ nd.2 h
theorem V4{h:Heap}{ps:List Nat}{vs:List AV}{Vs:List Value}(y:AJ c.hs h r vs Vs)(pl:∀x∈ps,c.isA x=false){x:Nat}{v:AV}(e:AG x (ps.zip vs)=some v):∃X,((ps.map c.nm).zip Vs).lookup (c.nm x)=some X∧VR c.hs h r v X∧x∈ps:=by
 induction ps generalizing vs Vs with
 | nil=>exact AU e
 | cons p ps ih =>
  induction vs using List.casesOn with
  | nil=>exact AU e
  | cons u vs =>
   refine AJ.eCons (P:=fun Vs=>∃X,(((p::ps).map c.nm).zip Vs).lookup (c.nm x)=some X∧VR c.hs h r v X∧x∈p::ps) y fun X Vs y ys=>?_
   rw [List.zip_cons_cons,BE] at e
   by_cases hx:p=x
   ·subst hx
    rw [if_pos rfl] at e
    exact⟨X,by rw [List.map_cons,List.zip_cons_cons,List.lookup_cons,beq_self_eq_true],Option.some.inj e▸y,List.mem_cons_self⟩
   ·rw [if_neg hx] at e
    refine(ih ys (fun x m=>pl x (List.mem_cons_of_mem _ m)) e).imp fun X2 h=>⟨?_,h.2.1,List.mem_cons_of_mem _ h.2.2⟩
    rw [List.map_cons,List.zip_cons_cons,List.lookup_cons,beq_eq_false_iff_ne.mpr fun z=>hx (c.inj p x ((pl p List.mem_cons_self).trans (pl x (List.mem_cons_of_mem _ h.2.2)).symm) z.symm)]
    exact h.1
theorem V5{ps:List Nat}(h:ps.Nodup)(pl:∀x∈ps,c.isA x=false):(ps.map c.nm).Nodup:=by
 induction ps with
 | nil=>exact List.nodup_nil
 | cons p ps ih =>
  rw [List.nodup_cons] at h
  rw [List.map_cons,List.nodup_cons]
  refine⟨fun z=>?_,ih h.2 fun x m=>pl x (List.mem_cons_of_mem _ m)⟩
  refine Og.AB (List.mem_map.mp z) fun q mq e=>?_
  have:=c.inj q p ((pl q (List.mem_cons_of_mem _ mq)).trans (pl p List.mem_cons_self).symm) e
  exact h.1 (this▸mq)
theorem V6{ps:List PySem.Str}{Vs:List Value}(h:Vs.length=ps.length):(ps.zip Vs).map (·.1)=ps:=by
 rw [List.map_fst_zip];exact Nat.le_of_eq h.symm
theorem L5{params:List Nat}{dflts args:List AV}{σ:Env'}(e:CQ params dflts args=some σ):args.length≤params.length∧params.length-args.length≤dflts.length∧σ=params.zip (args++dflts.drop (dflts.length-(params.length-args.length))):=by
 unfold CQ at e
 split at e
 ·rename_i h
  simp only [Bool.and_eq_true,decide_eq_true_eq] at h
  exists e
  exact⟨h.1,h.2,rfl⟩
 ·exists e
theorem JH{params:List Nat}{dflts args:List AV}{fd:FuncData}{body:List Stmt}{dv Vs:List Value}(Fn:XT c f params dflts fd body dv)(S:SR c s r H)(y:AJ c.hs s.heap r args Vs)(e:CQ params dflts args=some σ)
  (I:InCallC s (callEnvC fd s.heap.objs.size (c.fa f)).locals (bindL (callEnvC fd s.heap.objs.size (c.fa f)).kindOf ((params.map c.nm).zip (Vs++dv.drop (dv.length-(params.length-Vs.length)))) fun _=>none) (callEnvC fd s.heap.objs.size (c.fa f)).cells
    (bindC (callEnvC fd s.heap.objs.size (c.fa f)).kindOf ((params.map c.nm).zip (Vs++dv.drop (dv.length-(params.length-Vs.length)))) fun _=>none) s₁) :
  Go c s r H H s₁ r∧FR c s₁ r (callEnvC fd s.heap.objs.size (c.fa f)) σ∧(∀a,CC (callEnvC fd s.heap.objs.size (c.fa f)) a→s.heap.get? a=none):=by
 refine Og.k8 I.toInCall.same fun h' tk hr1=>?_;subst hr1
 have G:Go c s r H H { s with heap:=h',toks:=tk } r:=Go.grow S I.toInCall.keep tk
 refine Og.BB (L5 e) fun l1 l2 hr1=>?_;subst hr1
 have lv:args.length=Vs.length:=y.length
 have ld:dflts.length=dv.length:=Fn.dfl.length
 have ys:=(G.vrs S (y.append ((qF S Fn.dfl).drop (dflts.length-(params.length-args.length)))))
 have hlen:(Vs++dv.drop (dv.length-(params.length-Vs.length))).length=(params.map c.nm).length:=by simp;lia
 have nd:(((params.map c.nm).zip (Vs++dv.drop (dv.length-(params.length-Vs.length)))).map (·.1)).Nodup:=by
  rw [V6 hlen];exact V5 Fn.nodup Fn.plain
 have big:∀a,s.heap.objs.size≤a→s.heap.get? a=none:=fun a ha=>by
  cases q:s.heap.get? a with
  | none=>rfl
  | some o=>exact absurd (Heap.lt_size q) (Nat.not_lt.mpr ha)
 have ownN:∀a,CC (callEnvC fd s.heap.objs.size (c.fa f)) a→s.heap.get? a=none:=fun a o=>by
  rcases o with rfl | ⟨n,e⟩
  ·exact CE _
  ·exact big a (Nat.le_of_lt (I.above n a (mem_of_lookup e)))
 refine⟨G,⟨Fn.kind,Fn.globals,Fn.builtins,⟨_,I.toInCall.ns⟩,fun x v e _=>?_,fun n a e=>⟨_,I.cell n a e⟩,fun n e=>?_,fun n m a e1 e2=>name_of_addr I.apart (mem_of_lookup e1) (mem_of_lookup e2),fun a o=>FM S (ownN a o),fun a o=>(FL S (ownN a o)).2,fun x v e=>?_,fun x e=>?_⟩,ownN⟩
 ·rw [lv,ld] at ys e
  refine Og.H8 (V4 ys Fn.plain e) fun X a b m=>?_
  refine⟨X,?_,b⟩
  rcases Fn.kinds x m with hk | hk
  ·exact .inl ⟨hk,_,I.toInCall.ns,NY hk _ nd a⟩
  ·refine Og.AI (Option.isSome_iff_exists.mp (cellsFrom_some (x:=c.nm x) fd.scope.names (s.heap.objs.size+1) [] (.inl hk))) fun ad ea=>?_
   refine .inr ⟨.inl hk,ad,ea,?_⟩
   have:=I.cell _ ad ea
   rw [XU (fun z=>by
    have z':fd.scope.names.lookup (c.nm x)=some .local:=z
    rw [hk] at z';cases z') _ nd a] at this
   exact this
 ·exact absurd (I.above n _ (mem_of_lookup e)) (Nat.lt_irrefl _)
 ·refine Og.H8 (V4 ys Fn.plain e) fun X a b m=>?_
  exact Fn.plain x m
 ·rcases e with e | e
  ·exact cellsFrom_some _ _ _ (.inl e)
  ·exact absurd rfl (Fn.nofree _ (mem_of_lookup e))
theorem JI{params:List Nat}{dflts:List AV}{fd:FuncData}{body:List Stmt}{dv:List Value}(Fn:XT c f params dflts fd body dv){Ws:List Value}{L:Nat}:∀x∈(params.map c.nm).zip Ws,fd.scope.names.lookup x.1=some .local∨(fd.scope.names.lookup x.1=some .cell∧((cellsFrom (L+1) fd.scope.names []).lookup x.1).isSome=true):=fun x m=>by
 obtain⟨n,v⟩:=x
 refine Og.AB (List.mem_map.mp (List.of_mem_zip m).1) fun p mp hr1=>?_;subst hr1
 rcases Fn.kinds p mp with h | h
 ·exact .inl h
 ·exact .inr ⟨h,cellsFrom_some _ _ _ (.inl h)⟩
theorem GO{h h':Heap}{cd:Value}{q:PySem.Str}(x:h.CodeRec cd q)(hs:h=c.hs)(k:∀a o,a≠c.L→c.hs.get? a=some o→h'.get? a=some o):h'.CodeRec cd q:=by
 subst hs
 refine Og.p9 x fun a o vs t e g d z=>?_;clear x
 refine⟨a,o,vs,t,e,k a o (fun zz=>?_) g,d,z⟩
 subst zz
 refine Og.IK c.stat fun o' es ep e' q _=>?_
 rw [g] at e';exists e'
 rw [d] at q;exists q
theorem XV{params:List Nat}{dflts:List AV}{fd:FuncData}{body:List Stmt}{dv:List Value}(Fn:XT c f params dflts fd body dv)(S:SR c s r H):∃ob,s.heap.get? (c.fa f)=some ob∧ob.data=.func fd:=by
 refine Og.AB Fn.obj fun ob e d=>?_
 refine⟨ob,S.keep _ ob (fun z=>?_) e,d⟩
 refine Og.IK c.stat fun o' es ep e' q _=>?_
 rw [z,e'] at e;exists e
 rw [d] at q;exists q
structure AY(c:Cx)(T:Tab)(N:Nm):Prop where
 fn:∀f d,T.fn f=some d→∃fd body dv,XT c f d.params d.dflts fd body dv∧TV N fd.scope d.body body
 gfn:∀f d,T.gfn f=some d→∃fd body dv,XT c f d.params d.dflts fd body dv∧eW N fd.scope d.body body
theorem qP(K:AY c T N)(D:Sd c T N k V)(R:AR (k+1) A)(S:SR c s r H){vs:List AV}{Vs:List Value}(y:AJ c.hs s.heap r vs Vs)(e:JS T V f vs H=some (v,H'))
  (Q:Result→Shared→Prop) (q:∀X s' r',Go c s r H H' s' r'→VR c.hs s'.heap r' v X→Q (.ok (.ret X)) s'):codeAny (model c.prog c.w) A (.call (.ref (c.fa f)) ⟨Vs,[]⟩) Q s:=by
 refine A3 e ?_
 clear e
 intro d hd e
 ·refine A3 e ?_
  clear e
  intro σ hb e
  ·refine Og.ES (K.fn f d hd) fun fd body dv Fn mm=>?_
   refine Og.AB (XV Fn S) fun ob eo ed=>?_
   refine Og.BB (L5 hb) fun l1 l2 _=>?_
   rw [y.length] at l1 l2
   refine HU (by have:=R.depth;show A.depth<1000;lia) eo ed S.nolimit (GO Fn.code rfl S.keep) Fn.body (Fn.bind s Vs S.keep l1 l2) Fn.clo (JI Fn) (fun s1 I=>?_) Fn.co Fn.gen Fn.kind
   refine Og.BB (JH Fn S y hb I) fun G1 F1 fr=>?_
   have fin:∀{σ':Env'} {H2:AH} {s2:Shared} {r2:List Addr},BU c (CC (callEnvC fd s.heap.objs.size (c.fa f))) s1 r H H2 s2 r2→FR c s2 r2 (callEnvC fd s.heap.objs.size (c.fa f)) σ'→Go c s r H H2 s2 r2:=fun G2 F2 =>
    ((Go.f G1).trans G2 fun a w=>F2.notIn a w).go fr
   refine A3 e ?_
   clear e
   rintro⟨f2,σ',H2⟩ e2 e
   refine(D.ss (R.deeper _) G1.sr F1 mm e2).go fun fl s2 r2 G2 F2 x=>?_
   induction f2 using Og.Fl.casesOn with
   | ret v' =>
    exists e,q
    exists fl<;>first | exact x.elim | exact q _ s2 r2 (fin G2 F2) x
   | next =>
    exists e,q
    exists fl<;>first | exact x.elim | exact q _ s2 r2 (fin G2 F2) .none
   | brk=>exists e,q
end
end Og
end
section
set_option backward.match.sparseCases false
open PySem PySem.W PySem.Calls PyProof.Rows PySem.SeqAt
namespace Og
section
variable{c:Cx}{T:Tab}{N:Nm}{k:Nat}{V:Ev}{A:Around}{s s₁:Shared}{r r₁:List Addr}{H H₁ H':AH}{env cenv:Env}{σ σ' σ₁ σ₀:Env'}{v:AV}{pos:Pos}{W W':Addr→Prop}{f:Fl}{src:DV}{j:Nat}{itv:Value}{w:List Addr}
theorem cE(L:Lk c T N){xs:List Nat}{ts:List Expr}{vs:List AV}{Vs:List Value}{s:Shared}{r:List Addr}{H:AH}{σ:Env'}(F:FR c s r env σ)(S:SR c s r H)(m:MN N env.scope xs ts)(y:AJ c.hs s.heap r vs Vs)(e:JR xs vs σ=some σ'){Q:Unit→Shared→Prop}{E:Value→Shared→Prop}
  (q:∀s',BU c (CC env) s r H H s' r→FR c s' r env σ'→Q () s'):wpAny (model c.prog c.w) A (assignInOrder ((assignEach ts env).map (·.2)) Vs) Q E s:=by
 induction m generalizing vs Vs s σ with
 | nil =>
  induction vs using List.casesOn with
  | nil=>rw [y.inv0];exact assignInOrder_nil (q s (BU.refl S) (Option.some.inj e▸F))
  | cons=>exact AU e
 | cons hA ho m ih =>
  induction vs using List.casesOn with
  | nil=>exact AU e
  | cons v vs =>
   refine AJ.eCons y fun X Vs y ys=>?_
   rw [L.nm] at ho ⊢
   rw [L.isA] at hA
   refine assignInOrder_cons (t:=assign (.Name (c.nm _) _) env) (assign_Name (F.store S y hA (DO ho) fun s2 G2 F2=>?_))
   exact ih F2 G2.sr (G2.vrs F.apartW S ys) e fun s3 G3 F3=>q s3 (G2.trans G3 fun a w=>F3.notIn a w) F3
theorem MN.len{sc:Scope}{xs:List Nat}{ts:List Expr}(m:MN N sc xs ts):(assignEach ts env).length=xs.length∧(assignEach ts env).findIdx? (·.1)=none:=by
 induction xs generalizing ts with
 | nil=>exists m;exact⟨rfl,rfl⟩
 | cons x xs ih =>
  cases m with | cons hA ho m =>
  obtain⟨a,b⟩:=ih m
  refine⟨congrArg (·+1) a,?_⟩
  show((false,assign (.Name (N.nm x) _) env)::assignEach _ env).findIdx? (·.1)=none
  rw [List.findIdx?_cons]
  simp [b]
theorem LI{xs:List Nat}:∀{vs:List AV} {σ σ':Env'},JR xs vs σ=some σ'→vs.length=xs.length:=by
 induction xs with
 | nil =>
  intro vs σ σ' e
  induction vs using List.casesOn with
  | nil=>rfl
  | cons=>exact AU e
 | cons x xs ih =>
  intro vs σ σ' e
  induction vs using List.casesOn with
  | nil=>exact AU e
  | cons v vs=>exact congrArg (·+1) (ih e)
theorem cF{x y:Nat}{vs:List AV}{σ σ':Env'}(e:JR [x,y] vs σ=some σ'):∃a b,vs=[a,b]∧σ'=(y,b)::(x,a)::σ:=by
 induction vs using List.casesOn with
 | nil=>exact AU e
 | cons a vs=>induction vs using List.casesOn with
  | nil=>exact AU e
  | cons b vs=>induction vs using List.casesOn with
   | nil=>exact⟨a,b,rfl,(Option.some.inj e).symm⟩
   | cons=>exact AU e
theorem hJ(L:CP c T N)(D:Sd c T N k V)(R:AR k A)(S:SR c s r H)(F:FR c s r env σ){xs:List Nat}{p:PX}{ts:List Expr}{e':Expr}{kk:Nat}{q1:Pos}(mn:MN N env.scope xs ts)(m:ME N env.scope p e')(hc:DM e'=false)(hw:swappedStores [.Tuple ts kk q1] e' env=pure none)
  (e:E8 T V (.unp xs p) σ H=some (f,σ',H')):CT c A (exec (.Assign [.Tuple ts kk q1] e' pos) env) env s r H f σ' H':=by
 intro Q E q
 refine A5 e ?_
 clear e
 intro v1 H1 e1 e
 refine A3 e ?_
 clear e
 intro vs ev e
 exists I8 ev
 ·refine A8 e ?_
  intro σ1 e2 e3
  exists e3
  refine Assign_Tuple ((D.e R S F m e1).go fun X s1 r1 G1 y1=>?_) (hs:=by unfold swapsWithSole;exact K7 hc _ _ _) (hw:=hw)
  have F1:=F.go S G1
  refine VR.eTup y1 fun a items it' ys=>?_
  have hlen:xs.length=items.size:=by
   have h1:=ys.length
   rw [LI e2] at h1
   simpa using h1
  have hit:s1.heap.IsTuple a items:=it'
  obtain⟨ml,mf⟩:=mn.len (env:=env)
  refine wpAny_assign_Tuple R.handled hit (ml.trans hlen) mf fun h' he=>?_
  have G0:Go c s1 r1 H' H' { s1 with heap:=h' } r1:=Go.grow G1.sr (fun b o e=>he b o (Nat.ne_of_lt (Heap.lt_size e)) e) s1.toks
  have F0:=F1.go G1.sr G0
  refine cE L.toLk F0 G0.sr mn (G0.vrs G1.sr ys) e2 fun s2 G2 F2=>?_
  exact q .next s2 r1 ((Go.f (G1.trans G0)).trans G2 fun a w=>F2.notIn a w) F2 trivial
theorem vN(L:CP c T N)(D:Sd c T N k V)(R:AR k A)(S:SR c s r H)(F:FR c s r env σ){xs:List Nat}{p:PX}{ts:List Expr}{e':Expr}{kk:Nat}{q1:Pos}(mn:MN N env.scope xs ts)(m:ME N env.scope p e')(hc:DM e'=false)(ht:QR e'=false)
  (e:E8 T V (.unp xs p) σ H=some (f,σ',H')):CT c A (exec (.Assign [.Tuple ts kk q1] e' pos) env) env s r H f σ' H' :=
 hJ L D R S F mn m hc (by exists e'<;>first | rfl | exists ht) e
noncomputable def swB(ns:List Str):Bool:=ns.length != 2||ns.eraseDups.length != ns.length
noncomputable def swG(b c:Bool)(ns:List Str)(d f:Bool):Sem (Option (List Str)) :=
 if b then pure none else if c then pure none else if swB ns then pure none else if d then pure none else if f then(unsupported "assign.tuple-of-constant-expressions:order-of-the-stores":Sem Unit)>>=fun _=>pure (some ns) else pure (some ns)
noncomputable def swN(p q:Bool)(x y:Str):List Str:=[(p,x),(q,y)].filterMap fun z=>if z.1 then some z.2 else none
theorem NZ{env:Env}{x y:PySem.Str}{u v q1 w:Pos}{kk j:Nat}{e1 e2:Expr}:swappedStores [.Tuple [.Name x u,.Name y v] kk q1] (.Tuple [e1,e2] j w) env
 = swG (env.blockKind != .function) (Z9 [e1,e2]) (swN (env.kindOf x==some .local&&u.line==u.line) (env.kindOf y==some .local&&v.line==u.line) x y) ([e1,e2].all (foldedForSure 8)) ([e1,e2].all (constantsAlone 8)):=by kernel_rfl!
theorem hO{b c d f:Bool}{ns:List Str}(h:swB ns=true):swG b c ns d f=pure none:=by
 induction b using Bool.casesOn with
 | true=>rfl
 | false=>induction c using Bool.casesOn with
  | true=>rfl
  | false=>exact if_pos h
theorem hS{ns:List Str}(h:swB ns=false):swG false false ns false false=pure (some ns):=if_neg (fun z=>BZ (h.symm.trans z))
theorem RP{x y:PySem.Str}{u v q1 w:Pos}{kk j:Nat}{e1 e2:Expr}(hy:env.scope.names.lookup y=some .cell):
  swappedStores [.Tuple [.Name x u,.Name y v] kk q1] (.Tuple [e1,e2] j w) env=pure none:=by
 rw [NZ,show env.kindOf y=some .cell from hy]
 generalize (env.kindOf x==some NameKind.local&&u.line==u.line)=p
 induction p using Bool.casesOn<;>exact hO rfl
theorem V7{x y:PySem.Str}{u v q1 w:Pos}{kk j:Nat}{e1 e2:Expr}(F:FR c s r env σ)(hx:env.scope.names.lookup x=some .local)(hy:env.scope.names.lookup y=some .local)(hne:x≠y)(hl:(u.line==v.line)=true)(hs:ZA [e1,e2]=true):
  swappedStores [.Tuple [.Name x u,.Name y v] kk q1] (.Tuple [e1,e2] j w) env=pure (some [x,y]):=by
 rw [NZ,show env.kindOf x=some .local from hx,show env.kindOf y=some .local from hy,show env.blockKind=.function from(by unfold Env.blockKind;rw [F.kind];rfl),BF (AA hs),BF (AA (A6 hs)),BF (A6 (A6 hs)),←eq_of_beq hl,beq_self_eq_true,beq_self_eq_true]
 have ed:[x,y].eraseDups=[x,y]:=by rw [List.eraseDups_cons,List.filter_cons,beq_eq_false_iff_ne.mpr (Ne.symm hne)];rfl
 exact hS (show([x,y].length != 2||[x,y].eraseDups.length != [x,y].length)=false by rw [ed];rfl)
theorem qQ(L:CP c T N)(D:Sd c T N k V)(R:AR k A)(S:SR c s r H)(F:FR c s r env σ){x y:Nat}{p:PX}{e1 e2:Expr}{kk j:Nat}{u v q1 w:Pos}(hA:N.isA x=false)(hA':N.isA y=false)(hx:env.scope.names.lookup (N.nm x)=some .local)(hy:env.scope.names.lookup (N.nm y)=some .local)
  (hne:N.nm x≠N.nm y) (hl:(u.line==v.line)=true) (hs:ZA [e1,e2]=true) (m:ME N env.scope p (.Tuple [e1,e2] j w))
  (e:E8 T V (.unp [x,y] p) σ H=some (f,σ',H')):CT c A (exec (.Assign [.Tuple [.Name (N.nm x) u,.Name (N.nm y) v] kk q1] (.Tuple [e1,e2] j w) pos) env) env s r H f σ' H':=by
 intro Q E q
 refine A5 e ?_
 clear e
 intro v1 H1 ee e
 refine A3 e ?_
 clear e
 intro vs ev e
 exists I8 ev
 ·refine A8 e ?_
  intro σ1 e3 e4
  exists e4
  rw [L.nm] at hx hy hne ⊢
  rw [L.isA] at hA hA'
  refine Assign_Tuple_swapped (names:=[c.nm x,c.nm y]) ((D.e R S F m ee).go fun X s1 r1 G1 y1=>?_) rfl (V7 F hx hy hne hl hs)
  have F1:=F.go S G1
  refine VR.eTup y1 fun a items it' ys=>?_
  have hlen:items.size=2:=by
   have h1:=ys.length
   rw [LI e3] at h1
   simpa using h1.symm
  have hit:s1.heap.IsTuple a items:=it'
  show wpAny _ A (unpackItems (.ref a) 2 none) _ _ _
  rw [←hlen]
  refine wpAny_unpackItems_tuple R.handled hit fun h' he=>?_
  have G0:Go c s1 r1 H' H' { s1 with heap:=h' } r1:=Go.grow G1.sr (fun b o e=>he b o (Nat.ne_of_lt (Heap.lt_size e)) e) s1.toks
  have F0:=F1.go G1.sr G0
  refine Og.ER (cF e3) fun va vb z1 z2=>?_
  subst z1 z2
  ·clear e3
   refine Og.BV ys.inv2 fun Xa Xb hi ya yb=>?_
   rw [hi]
   show wpAny _ A (assignInOrder [fun z=>bindName env (c.nm y) z,fun z=>bindName env (c.nm x) z] [Xb,Xa]) _ _ _
   refine assignInOrder_cons (bindName_ (F0.store G0.sr (G0.vr G1.sr yb) hA' (.inl hy) fun s2 G2 F2=>?_))
   have A0:=F0.apartW
   refine assignInOrder_cons (bindName_ (F2.store G2.sr (G2.vr A0 G0.sr (G0.vr G1.sr ya)) hA (.inl hx) fun s3 G3 F3=>?_))
   refine assignInOrder_nil ?_
   refine q .next s3 r1 (((Go.f (G1.trans G0)).trans G2 fun a w=>F2.notIn a w).trans G3 fun a w=>F3.notIn a w) (F3.sub fun z t ez=>?_) trivial
   rw [BE,BE] at ez ⊢
   by_cases z1:y=z
   ·rw [if_pos z1] at ez
    have z2:¬x=z:=fun h=>hne (by rw [h,z1])
    rw [if_neg z2,if_pos z1]
    exact⟨z1▸hA',fun _=>ez⟩
   ·rw [if_neg z1] at ez ⊢
    by_cases z2:x=z
    ·rw [if_pos z2] at ez ⊢
     exact⟨z2▸hA,fun _=>ez⟩
    ·rw [if_neg z2] at ez ⊢
     exact⟨F.plain z t ez,fun _=>ez⟩
theorem s_w(L:CP c T N)(D:Sd c T N k V)(R:AR k A)(S:SR c s r H)(F:FR c s r env σ){t:PX}{b:List PS}{t':Expr}{b':List Stmt}(m1:ME N env.scope t t')(m2:TV N env.scope b b')(e:E8 T V (.whl t b) σ H=some (f,σ',H')):
  RK c A (.whileLoop t' b' [] env) (CC env) env s r H f σ' H':=by
 intro Q q
 refine XM ?_
 refine A5 e ?_
 clear e
 intro x H1 e1 e
 cases x with
 | true =>
  refine(D.b R S F m1 e1).go fun s1 r1 G1=>?_
  rw [if_pos rfl]
  have F1:=F.go S G1
  refine A3 e ?_
  clear e
  rintro⟨f2,σ2,H2⟩ e2 e
  refine(D.ss R G1.sr F1 m2 e2).go fun fl s2 r2 G2 F2 x=>?_
  have G12:=(Go.f G1).trans G2 fun a w=>F2.notIn a w
  induction f2 using Og.Fl.casesOn with
  | next =>
   exists fl<;>first | exact x.elim | skip
   exact D.w R G2.sr F2 m1 m2 e _ fun fl s3 r3 G3 F3 x=>q fl s3 r3 (G12.trans G3 fun a w=>F3.notIn a w) F3 x
  | ret v2 =>
   exists e,q
   exists fl<;>first | exact x.elim | skip
   exact q _ s2 r2 G12 F2 x
  | brk=>exists e,q
 | false =>
  exists e,q
  refine(D.b R S F m1 e1).go fun s1 r1 G1=>?_
  rw [if_neg (by decide)]
  exact wpAny_execs_nil (q .next s1 r1 (Go.f G1) (F.go S G1) trivial)
theorem vO(L:CP c T N)(D:Sd c T N k V)(R:AR k A)(S:SR c s r H)(F:FR c s r env σ){t:PX}{b:List PS}{t':Expr}{b':List Stmt}(m1:ME N env.scope t t')(m2:TV N env.scope b b')(e:E8 T V (.whl t b) σ H=some (f,σ',H')):
  CT c A (exec (.While t' b' [] pos) env) env s r H f σ' H':=by
 intro Q E q
 exact wpAny_While (s_w L D R S F m1 m2 e _ fun fl s' r' G F' x=>q fl s' r' G F' x)
abbrev LW(env:Env)(w:List Addr):Addr→Prop:=fun a=>CC env a∨a∈w
theorem MF(F:FR c s r env σ)(I:It c s r H src j itv w)(hs:∀a∈w,c.hs.get? a=none)(S:SR c s r H):B5 c s r (LW env w) :=
 ⟨fun a o=>o.elim (F.notHs a) (hs a),fun a o=>o.elim (F.notIn a) (I.nr S a),fun a ob o e=>o.elim (fun o=>F.apartW.nt a ob o e) (fun m=>I.nt a m ob e)⟩
theorem O0(F:FR c s r env σ)(I:It c s r H src j itv w):∀a,LW env w a→∃o,s.heap.get? a=some o:=fun a o=>o.elim (fun o=>F.has o) (fun m=>I.has a m)
theorem qR(L:Lk c T N)(D:Sd c T N k V)(R:AR k A)(S:SR c s r H)(F:FR c s r env σ){t:PT}{b:List PS}{t':Expr}{b':List Stmt}(mt:MT N env.scope t t')(m2:TV N env.scope b b')(hp:DN src=true→∃es k p,t'=.Tuple es k p)
  (I:It c s r H src j itv w) (ap:B5 c s r (LW env w)) (ow:∀a,CC env a→a∉w) (e:MY V t b src j σ H=some (f,σ',H')):RK c A (.forLoop t' itv b' [] env) (LW env w) env s r H f σ' H':=by
 intro Q q
 have Aw:B5 c s r (fun a=>a∈w):=⟨fun a m=>ap.hs a (.inr m),fun a m=>ap.nr a (.inr m),fun a o m e=>ap.nt a o (.inr m) e⟩
 refine UQ ?_
 refine A3 e ?_
 clear e
 intro ox en e
 induction ox using Option.casesOn with
 | none =>
  exists e,q
  refine It.next I S Aw (fun _ m=>m) R.handled en fun ov s1 g=>?_
  induction ov using Option.casesOn with
  | some X=>exact g.elim
  | none =>
   have g:BU c (fun a=>a∈w) s r H H s1 r:=g
   exact wpAny_execs_nil (q .next s1 r (g.widen fun a m=>.inr m) (F.gof S g Aw ow) trivial)
 | some x =>
  refine It.next I S Aw (fun _ m=>m) R.handled en fun ov s1 g=>?_
  induction ov using Option.casesOn with
  | none=>exact g.elim
  | some X =>
   obtain⟨g0,g⟩:=g
   dsimp only
   refine g t' _ _ hp fun s2 G2 y2 I2=>?_
   refine A3 e ?_
   clear e
   intro σ2 eb e
   ·have F2:=F.gof S G2 Aw ow
    refine asg L R.handled F2 G2.sr mt y2 eb fun s3 G3 F3=>?_
    have A2:=F2.apartW
    have I3:It c s3 r H src (j+1) itv w:=I2.keep G2.sr A2 G3 fun a m=>⟨fun o=>ow a o m,ap.nr a (.inr m),ap.notStat (.inr m)⟩
    have G03:BU c (LW env w) s r H H s3 r:=(G2.widen (W':=LW env w) fun a m=>.inr m).transW (G3.widen fun a m=>.inl m) ap.nr fun a o=>by
     rcases o with o | m
     ·exact F2.has o
     ·exact I2.has a m
    have nt3:∀{s4:Shared} {r4:List Addr} {H4:AH} {σ4:Env'},BU c (LW env w) s r H H4 s4 r4→FR c s4 r4 env σ4→It c s4 r4 H4 src (j+1) itv w→B5 c s4 r4 (LW env w):=fun G F I=>MF F I (fun a m=>ap.hs a (.inr m)) G.sr
    have trans:∀{s4:Shared} {r4:List Addr} {H4:AH},BU c (CC env) s3 r H H4 s4 r4→BU c (LW env w) s r H H4 s4 r4:=fun G4=>G03.transW (G4.widen fun a m=>.inl m) ap.nr (O0 F3 I3)
    refine A3 e ?_
    clear e
    rintro⟨f4,σ4,H4⟩ e4 e
    refine(D.ss R G3.sr F3 m2 e4).go fun fl s4 r4 G4 F4 x=>?_
    induction f4 using Og.Fl.casesOn with
    | next =>
     exists fl<;>first | exact x.elim | skip
     have I4:It c s4 r4 H4 src (j+1) itv w:=I3.keep G3.sr F3.apartW G4 fun a m=>⟨fun o=>ow a o m,ap.nr a (.inr m),ap.notStat (.inr m)⟩
     have G04:=trans G4
     have A4:=nt3 G04 F4 I4
     refine D.loop R G4.sr F4 mt m2 hp I4 A4 ow e _ fun fl s5 r5 G5 F5 x=>?_
     exact q fl s5 r5 (G04.transW G5 A4.nr (O0 F4 I4)) F5 x
    | brk =>
     exists e,q
     exists fl<;>first | exact x.elim | skip
     exact q .next s4 r4 (trans G4) F4 trivial
    | ret v =>
     exists e,q
     exists fl<;>first | exact x.elim | skip
     exact q _ s4 r4 (trans G4) F4 x
theorem vP(L:CP c T N)(D:Sd c T N k V)(R:AR k A)(S:SR c s r H)(F:FR c s r env σ){t:PT}{it:PX}{b:List PS}{t' it':Expr}{b':List Stmt}(ht:GR it t=true)(mt:MT N env.scope t t')(mi:MI N env.scope it it')(m2:TV N env.scope b b')
  (e:E8 T V (.for t it b) σ H=some (f,σ',H')):CT c A (exec (.For t' it' b' [] pos) env) env s r H f σ' H':=by
 intro Q E q
 refine A5 e ?_
 clear e
 intro src H1 e1 e
 ·refine Og.YY (FV it) (fun hz=>?_) fun hz=>?_
  ·
   refine wpAny_For ((D.it R S F mi hz e1).go fun X s1 r1 G1 B1=>?_) mi.folded
   refine B1 _ _ fun itv w s2 G2 I2 fw=>?_
   have G:=G1.trans G2
   have F2:=F.go S G
   have A2:=MF F2 I2 (fun a m=>FM S (fw a m)) G.sr
   have hp:DN src=true→∃es k p,t'=.Tuple es k p:=fun hp=>by
    refine Og.AI (D.pr _ _ _ _ _ e1 hp) fun q e=>?_
    exact NX mt ht e
   have ow:∀a,CC env a→a∉w:=fun a o m=>by
    refine Og.AI (F.has o) fun ob e=>?_
    rw [fw a m] at e;exists e,q
   refine D.loop R G.sr F2 mt m2 hp I2 A2 ow e _ fun fl s3 r3 G3 F3 x=>?_
   refine q fl s3 r3 ?_ F3 x
   exact((Go.f G).transW G3 A2.nr (O0 F2 I2)).drop fun a o=>o.elim .inl fun m=>.inr (fw a m)
  ·
   obtain⟨rfl,tz⟩:=D.z R S F mi hz e1
   refine Og.BB (D.ln e) fun hr1 hr2 hr3=>?_;subst hr1 hr2 hr3
   refine wpAny_For (tz _ _ fun X s1 r1 Z=>?_) mi.folded
   refine Z _ _ fun itv s2 en=>?_
   refine UQ (en _ _ fun s3 G3=>?_)
   exact wpAny_execs_nil (q .next s3 r1 (Go.f G3) (F.go S G3) trivial)
theorem vQ(L:CP c T N)(D:Sd c T N k V)(R:AR k A)(S:SR c s r H)(F:FR c s r env σ){p:PX}{ex:Expr}(m:MI N env.scope p ex)(hz:FV p=true)(e:KP V p σ H=some (src,H')):src=.nil∧XQ c A (eval ex env) s r H H':=by
 induction p using Og.PX.casesOn with
 | zip a b =>
  refine m (fun ex=>src=.nil∧XQ c A (eval ex env) s r H H') fun g ex1 ex2 p1 pos1 hg hk m1 m2=>?_
  refine A5 e ?_
  clear e
  intro v1 H1 e1 e
  refine A3 e ?_
  clear e
  intro x h1 e
  exists B7 h1
  ·refine A5 e ?_
   clear e
   intro v2 H2 e2 e
   refine A3 e ?_
   clear e
   intro y h2 e
   exists B7 h2
   refine A3 e ?_
   clear e
   intro l1 hx e
   refine A3 e ?_
   clear e
   intro l2 hy e
   refine A7 e ?_
   intro he e0
   clear e
   ··exists e0,q
     obtain⟨he1,he2⟩:=B3 he
     exists List.isEmpty_iff.mp he1
     exists List.isEmpty_iff.mp he2
     replace hx:=BD hx
     replace hy:=BD hy
     refine⟨rfl,fun Q E q=>?_⟩
     obtain⟨h1,h2⟩:=(L.gk _ _ hk).1
     refine Call_ (LH L.toLk F S hg hk h1 h2 ?_)
     have hn1:∀x q,ex1≠.Starred x q:=fun x q z=>by subst z;rw [m1.star,D.any] at e1;exists e1,q
     have hn2:∀x q,ex2≠.Starred x q:=fun x q z=>by subst z;rw [m2.star,D.any] at e2;exists e2,q
     refine PyProof.Rows.callWith_type (by rw [BP hn1,BP hn2];rfl) ?_
     rw [BP hn1,BP hn2]
     refine evalArgs_plain (spliced_cons ((D.e R S F m1 e1).go fun X s1 r1 G1 y1=>?_))
     refine spliced_cons ((D.e R G1.sr (F.go S G1) m2 e2).go fun Y s2 r2 G2 y2=>?_)
     refine spliced_nil ?_
     have G:=G1.trans G2
     refine VR.eRef (G2.vr G1.sr y1) fun a1 ea1=>?_
     refine VR.eRef y2 fun a2 ea2=>?_
     refine AW G.sr hx ea1 fun vs1 n1 f1 z1=>?_
     refine AW G.sr hy ea2 fun vs2 n2 f2 z2=>?_
     have hl1:s2.heap.IsList a1 vs1:=⟨_,f1,rfl,n1,rfl⟩
     have hl2:s2.heap.IsList a2 vs2:=⟨_,f2,rfl,n2,rfl⟩
     have hv:vs1[0]?=none:=by
      have h0:vs1.size=0:=by simpa using z1.length.symm
      exact Array.getElem?_eq_none (Nat.le_of_eq h0)
     refine call_zip_2 hl1 hl2 fun h' iz ip1 ip2 it1 it2 hsz keep=>?_
     refine q _ _ r2 ?_
     intro Q2 E2 q2
     refine wpAny_pyIter_zip iz (q2 _ _ fun Q3 E3 q3=>?_)
     have lt1:=Heap.lt_size f1
     have lt2:=Heap.lt_size f2
     have ne:∀{a b:Nat},a<s2.heap.objs.size→s2.heap.objs.size≤b→a≠b:=fun h h'=>Nat.ne_of_lt (Nat.lt_of_lt_of_le h h')
     have dd:∀{i j:Nat},i≠j→s2.heap.objs.size+i≠s2.heap.objs.size+j:=fun h z=>h (Nat.add_left_cancel z)
     refine wpAny_pyNext_zip_end (k1:=0) (k2:=0) (xs:=vs1) (ys:=vs2) R.handled
      ⟨dd (by decide),dd (by decide),dd (i:=0) (by decide),dd (by decide),dd (by decide),dd (j:=0) (by decide),dd (by decide),dd (j:=0) (by decide),dd (by decide),dd (i:=0) (by decide),
       ne lt1 (Nat.le_add_right _ _),ne lt1 (Nat.le_add_right _ _),ne lt1 (Nat.le_refl _),ne lt1 (Nat.le_add_right _ _),ne lt2 (Nat.le_add_right _ _),ne lt2 (Nat.le_add_right _ _),ne lt2 (Nat.le_refl _),ne lt2 (Nat.le_add_right _ _)⟩
      iz ip1 ip2 it1 it2 ⟨_,keep _ _ f1,rfl,n1,rfl⟩ ⟨_,keep _ _ f2,rfl,n2,rfl⟩ (.inl hv) fun h3 k3=>?_
     refine q3 _ (G.trans (Go.grow G.sr (h':=h3) (fun b o e=>?_) _))
     have lb:=Heap.lt_size e
     exact k3 b o (ne lb (Nat.le_add_right _ _)) (ne lb (Nat.le_add_right _ _)) (ne lb (Nat.le_refl _)) (ne lb (Nat.le_add_right _ _)) (keep b o e)
 | _=>exact BZ hz
end
end Og
end
section
open PySem PySem.W PySem.Calls PyProof.Rows PySem.SeqAt
namespace Og
section
variable{c:Cx}{T:Tab}{N:Nm}{k:Nat}{V:Ev}
theorem vR{p:PX}{σ:Env'}{H:AH}{src:DV}{H':AH}(e:KP V p σ H=some (src,H'))(h:DN src=true):∃q,p=.enum q:=by
 have key:∀(_:QD V p σ H=some (src,H')),False:=fun e=>by
  refine A5 e ?_
  intro v H1 e1 e
  refine A8 e ?_
  intro x e2 e3
  exists e3
  induction v using Og.AV.casesOn with
  | tup l=>exists e2;exists h
  | str l=>exists e2;exists h
  | ref o =>
   refine A3 e2 ?_
   intro ob e4 e2
   exists ob<;>exists e2<;>exists h
  | _=>exists e2
 by_cases q:pN p=false
 ·rw [K6 q] at e;exact(key e).elim
 ·induction p using Og.PX.casesOn with
  | enum z=>exact⟨z,rfl⟩
  | range q =>
   exfalso
   refine A5 e ?_
   intro v H1 e1 e
   refine A3 e ?_
   intro n e2 e
   exists (DI e).2
   exists h
  | zip a b =>
   exfalso
   refine A5 e ?_
   intro v H1 e1 e
   refine A3 e ?_
   intro x e2 e
   refine A5 e ?_
   intro w H2 e3 e
   refine A3 e ?_
   intro y e4 e
   refine A3 e ?_
   intro l e5 e
   refine A3 e ?_
   intro m e6 e
   exists (DI e).2
   exists h
  | _=>exact(q rfl).elim
theorem XW(L:CP c T N)(K:AY c T N)(D:Sd c T N k V):Sd c T N (k+1) (step T V) where
 any:=fun _ _=>rfl
 pr:=fun _ _ _ _ _ e h=>vR e h
 e:=fun {A s r H env σ p ex v H'} R S F m e=>by
  have R':=R.le (Nat.le_succ k)
  induction p using Og.PX.casesOn with
  | const v =>
   have h:=DI (show CJ true (some (v,H))=_ from e)
   exists h.2
   exact MB S m
  | neg n =>
   refine m.elim fun _ _ _=>?_
   exists e
   exact uY S
  | var x =>
   refine m.elim fun _ h=>?_
   refine A8 e fun u e1 e2=>?_
   exists e2
   exact gX L F S h e1
  | glob x =>
   refine m.elim fun _ _ h1 h2=>?_
   refine A8 e fun u e1 e2=>?_
   exists e2
   exact qG L S F h1 h2 e1
  | attr q a =>
   exact m.elim fun _ _ h1 h2 m=>qH L D R' S F h1 h2 m e
  | bin o l r =>
   exact m.elim fun _ _ _ m1 m2=>uU D R' S F m1 m2 e
  | cmp o l r =>
   exact m.elim fun _ _ _ m1 m2=>uV D R' S F m1 m2 e
  | and2 l r =>
   exact m.elim fun _ _ _ m1 m2=>uW D R' S F m1 m2 e
  | or2 l r =>
   exact m.elim fun _ _ _ m1 m2=>A_W D R' S F m1 m2 e
  | not q =>
   exact m.elim fun _ _ m=>uX D R' S F m e
  | ite t a b =>
   exact m.elim fun _ _ _ _ m1 m2 m3=>v7 L D R' S F m1 m2 m3 e
  | idx q i =>
   exact m.elim fun _ _ _ m1 m2=>v8 D R' S F m1 m2 e
  | slc q lo hi =>
   exact m.elim fun _ _ _ _ _ m1 m2 m3=>v9 D R' S F m1 m2 m3 e
  | rev q =>
   exact m.elim fun _ _ _ _ _ _ m=>vA D R' S F m e
  | tup l =>
   exact m.elim fun _ _ _ m=>vB D R' S F m e
  | list l =>
   exact m.elim fun _ _ m=>qJ D R' S F m e
  | dict l =>
   exact m.elim fun _ _ _ m=>qL S m e
  | comp elt t it cond =>
   exact m.elim fun _ _ _ _ _ _ h1 h2 hz h3 mt mi mc me=>qM L D R' S F h1 h2 hz h3 mt mi mc me e
  | callF f l =>
   exact m.elim fun _ _ _ _ h h' m=>lO L D R' S F h h' m e
  | callC f l =>
   exact m.elim fun _ _ _ _ h h' m=>lQ L D R S F h h' m e
  | callB f l =>
   exact m.elim fun _ _ _ _ h h' m=>lR L D R' S F h h' m e
  | meth q n l =>
   exact m.elim fun _ _ _ _ h1 h2 h3 m1 m2=>qK L D R' S F h1 h2 h3 m1 m2 e
  | isStr q =>
   exact m.elim fun _ _ _ _ _ _ h1 h2 h3 h4 h5 m=>lS L D R' S F h1 h2 h3 h4 h5 m e
  | _=>exact AU e
 b:=fun R S F m e=>x_b L D (R.le (Nat.le_succ k)) S F m e
 es:=fun _ R S F m e=>A_X D (R.le (Nat.le_succ k)) S F m e
 it:=fun R S F m hz e=>A_Y L D (R.le (Nat.le_succ k)) S F m hz e
 z:=fun R S F m hz e=>vQ L D (R.le (Nat.le_succ k)) S F m hz e
 ln:=fun e=>by exists e;exact⟨rfl,rfl,rfl⟩
 comp:=fun R S F hσ h0 mt mc me hp I ap own dw hl hk k1 k2 e=>A_a L.toLk D (R.le (Nat.le_succ k)) ⟨S,F,I,hl,ap,own,dw⟩ hσ h0 mt mc me hp hk k1 k2 e
 cu:=fun R S F h1 h2 hz h3 mt mi mc me e _ _ q=>ZV L D (R.le (Nat.le_succ k)) (by have:=R.depth;lia) S F h1 h2 hz h3 mt mi mc me e q
 s:=fun {A s r H env σ σ' p st f H'} R S F m e=>by
  have R':=R.le (Nat.le_succ k)
  induction p using Og.PS.casesOn with
  | assign x q =>
   exact m.elim fun _ _ _ h1 h2 m=>gZ L D R' S F h1 h2 m e
  | attr o a q =>
   exact m.elim fun _ _ _ _ h1 m1 m2=>qN L D R' S F h1 m1 m2 e
  | sub o i q =>
   exact m.elim fun _ _ _ _ _ h m3 m1 m2=>vJ D R' S F m1 m2 m3 h e
  | unp xs q =>
   refine m.elim fun _ _ _ _ _ m=>?_
   rcases m with ⟨mn,h1,h2,m⟩ | ⟨_,_,_,_,_,_,_,_,rfl,rfl,rfl,h1,h3,m,h⟩
   ·exact vN L D R' S F mn m h1 h2 e
   rcases h with ⟨h2,h4⟩ | ⟨h4,h5,h6,h7,h8⟩
   ·exact hJ L D R' S F (.cons h1 h2 (.cons h3 (by unfold EU;rw [h4]) .nil)) m rfl (RP h4) e
   ·exact qQ L D R' S F h1 h3 h4 h5 h6 h7 h8 m e
  | expr q =>
   exact m.elim fun _ _ h m=>qO D R' S F m h e
  | ifs t a b =>
   exact m.elim fun _ _ _ _ m1 m2 m3=>vM D R' S F m1 m2 m3 e
  | «for» t it b =>
   exact m.elim fun _ _ _ _ h mt mi m2=>vP L D R' S F h mt mi m2 e
  | whl t b =>
   exact m.elim fun _ _ _ m1 m2=>vO L D R' S F m1 m2 e
  | ret q =>
   exact m.elim fun _ _ m=>vK D R' S F m e
  | brk =>
   exact m.elim fun _=>vL (T:=T) (V:=V) S F e
  | any=>exact AU e
 ss:=fun R S F m e=>A_b D (R.le (Nat.le_succ k)) S F m e
 w:=fun R S F m1 m2 e=>s_w L D (R.le (Nat.le_succ k)) S F m1 m2 e
 loop:=fun R S F mt m2 hp I ap ow e=>qR L.toLk D (R.le (Nat.le_succ k)) S F mt m2 hp I ap ow e
 call:=fun R S y e Q q=>qP K D R S y e Q q
theorem HW(L:CP c T N)(K:AY c T N)(n:Nat):Sd c T N n (ev T n):=by
 induction n with
 | zero=>exact⟨fun _ _=>rfl,fun _ _ _ _ _ e=>AU e,fun _ _ _ _ e=>AU e,fun _ _ _ _ e=>AU e,fun _ _ _ _ _ e=>AU e,fun _ _ _ _ _ e=>AU e,fun _ _ _ _ _ e=>AU e,fun e=>AU e,fun _ _ _ _ _ _ _ _ _ _ _ _ _ _ _ _ _ e=>AU e,fun _ _ _ _ _ _ _ _ _ _ _ e=>AU e,fun _ _ _ _ e=>AU e,fun _ _ _ _ e=>AU e,fun _ _ _ _ _ e=>AU e,fun _ _ _ _ _ _ _ _ _ e=>AU e,fun _ _ _ e=>AU e⟩
 | succ n ih=>exact XW L K ih
end
end Og
end
section
open PySem PySem.W PySem.Calls
namespace Og
noncomputable def EB:List (Str×Value)→List (Str×Value)→List (Str×Value)
 | sl,[]=>sl
 | sl,(n,d)::r=>EB (if(sl.lookup n).isNone then sl++[(n,d)] else sl) r
theorem XX(l:List (Str×Value))(sl:List (Str×Value)):
  (forIn (m:=Sem) l sl fun(x:Str×Value) r=>if(r.lookup x.1).isNone then pure (ForInStep.yield (r++[(x.1,x.2)])) else pure (ForInStep.yield r))=pure (EB sl l):=by
 induction l generalizing sl with
 | nil=>rfl
 | cons x l ih =>
  obtain⟨n,d⟩:=x
  rw [List.forIn_cons]
  unfold EB
  split<;>(rw [pure_bind];exact ih _)
theorem EH{x:Str}:∀{ns:List Str} {vs:List Value} {i:Nat},i<vs.length→ns[i]?=some x→((ns.zip vs).lookup x).isSome=true
 | [],_,_,_,h=>by simp at h
 | n::ns,[],i,h,_=>by simp at h
 | n::ns,v::vs,i,h,e=>by
  rw [List.zip_cons_cons,List.lookup_cons]
  cases q:x==n with
  | true=>rfl
  | false =>
   induction i using Nat.casesOn with
   | zero=>simp at e;subst e;simp at q
   | succ i=>simp at e h;exact EH (by omega) e
theorem GU{x:Str}:∀{ns:List Str} {vs:List Value},x∉ns.take vs.length→(ns.zip vs).lookup x=none
 | [],_,_=>rfl
 | _::_,[],_=>rfl
 | n::ns,v::vs,h=>by
  simp at h
  rw [List.zip_cons_cons,List.lookup_cons,beq_eq_false_iff_ne.mpr h.1]
  exact GU (by simpa using h.2)
theorem O1:∀{l sl:List (Str×Value)},(∀x∈l,(sl.lookup x.1).isSome=true)→EB sl l=sl
 | [],_,_=>rfl
 | (n,d)::l,sl,h=>by
  unfold EB
  have:=h _ (List.mem_cons_self)
  rw [if_neg (by dsimp only at this;cases q:sl.lookup n<;>rw [q] at this<;>simp at this ⊢)]
  exact O1 fun x m=>h x (List.mem_cons_of_mem _ m)
theorem V8:∀{l sl:List (Str×Value)},(l.map (·.1)).Nodup→(∀x∈l,sl.lookup x.1=none)→EB sl l=sl++l
 | [],sl,_,_=>by simp [EB]
 | (n,d)::l,sl,nd,h=>by
  unfold EB
  rw [List.map_cons,List.nodup_cons] at nd
  have h0:=h _ (List.mem_cons_self)
  dsimp only at h0
  rw [if_pos (by rw [h0];rfl)]
  rw [V8 nd.2 fun x m=>?_]
  ·simp
  ·rw [List.lookup_append,h x (List.mem_cons_of_mem _ m)]
   have:x.1≠n:=fun e=>nd.1 (e▸List.mem_map.mpr ⟨x,m,rfl⟩)
   simp [List.lookup_cons,beq_eq_false_iff_ne.mpr this]
theorem V9:∀{l1 l2 sl:List (Str×Value)},EB sl (l1++l2)=EB (EB sl l1) l2
 | [],_,_=>rfl
 | (n,d)::l1,l2,sl=>by
  show EB (if(sl.lookup n).isNone then sl++[(n,d)] else sl) (l1++l2)=EB (EB (if(sl.lookup n).isNone then sl++[(n,d)] else sl) l1) l2
  exact V9
theorem VA{ns:List Str}{vs:List Value}(nd:ns.Nodup)(h:vs.length=ns.length)(m:List (Str×Value))(hm:∀x∈ns,m.lookup x=(ns.zip vs).lookup x):ns.filterMap (fun n=>(m.lookup n).map (n,·))=ns.zip vs:=by
 induction ns generalizing vs with
 | nil=>rfl
 | cons n ns ih =>
  induction vs using List.casesOn with
  | nil=>exact nomatch h
  | cons v vs =>
   rw [List.nodup_cons] at nd
   have h0:=hm n List.mem_cons_self
   rw [List.zip_cons_cons,List.lookup_cons,beq_self_eq_true] at h0
   rw [List.filterMap_cons,h0]
   refine congrArg ((n,v)::·) (ih nd.2 (Nat.succ.inj h) fun x mx=>?_)
   rw [hm x (List.mem_cons_of_mem _ mx),List.zip_cons_cons,List.lookup_cons,beq_eq_false_iff_ne.mpr fun(e:x=n)=>nd.1 (e▸mx)]
theorem LZ{α β:Type}{a:List α}{b c:List β}(h:b.length≤a.length):a.zip (b++c)=a.zip b++(a.drop b.length).zip c:=by
 induction b generalizing a with
 | nil=>rw [List.zip_nil_right];rfl
 | cons y b ih =>
  induction a using List.casesOn with
  | nil=>exact absurd h (Nat.not_succ_le_zero _)
  | cons x a=>exact congrArg ((x,y)::·) (ih (Nat.le_of_succ_le_succ h))
theorem lY{α:Type}{o:Option α}(h:o.isSome=true):¬o.isNone=true:=fun q=>by exists o<;>exists h<;>exists q
section
variable{names:List Str}{dv Vs:List Value}
theorem qS(l2:names.length-Vs.length≤dv.length):(names.take (names.length-dv.length)).filter (fun n=>((names.zip Vs).lookup n).isNone)=[]:=by
 rw [List.filter_eq_nil_iff]
 intro x mx
 obtain⟨i,hi,rfl⟩:=List.getElem_of_mem mx
 rw [List.length_take] at hi
 exact lY (EH (i:=i) (Nat.lt_of_lt_of_le (Nat.lt_of_lt_of_le hi (Nat.min_le_left _ _)) (Nat.sub_le_iff_le_add'.mpr (Nat.sub_le_iff_le_add.mp l2))) (by rw [List.getElem_take];exact List.getElem?_eq_getElem _))
theorem qT(nd:names.Nodup)(l0:dv.length≤names.length)(l1:Vs.length≤names.length)(l2:names.length-Vs.length≤dv.length):
  EB (names.zip Vs) ((names.drop (names.length-dv.length)).zip dv)=names.zip (Vs++dv.drop (dv.length-(names.length-Vs.length))):=by
 have kk:names.length-dv.length+(dv.length-(names.length-Vs.length))=Vs.length:=by
  rw [←Nat.add_sub_assoc l2,Nat.sub_add_cancel l0,Nat.sub_sub_self l1]
 have k1:EB (names.zip Vs) (((names.drop (names.length-dv.length)).zip dv).take (dv.length-(names.length-Vs.length)))=names.zip Vs:=O1 fun x mx=>by
  obtain⟨i,hi,e⟩:=List.getElem_of_mem mx
  rw [List.length_take] at hi
  rw [List.getElem_take,List.getElem_zip] at e
  subst e
  refine EH (i:=names.length-dv.length+i) (Nat.lt_of_lt_of_eq (Nat.add_lt_add_left (Nat.lt_of_lt_of_le hi (Nat.min_le_left _ _)) _) kk) ?_
  rw [List.getElem_drop];exact List.getElem?_eq_getElem _
 have k2:((names.drop (names.length-dv.length)).zip dv).drop (dv.length-(names.length-Vs.length))=(names.drop Vs.length).zip (dv.drop (dv.length-(names.length-Vs.length))):=by
  rw [List.zip,List.drop_zipWith,List.drop_drop]
  rw [kk]
 conv=>lhs;rw [←List.take_append_drop (dv.length-(names.length-Vs.length)) ((names.drop (names.length-dv.length)).zip dv)]
 rw [V9,k1,k2,LZ l1]
 refine V8 ?_ fun x mx=>?_
 ·rw [V6 (by rw [List.length_drop,List.length_drop,Nat.sub_sub_self l2])]
  exact nd.sublist (List.drop_sublist _ _)
 ·refine GU fun m=>?_
  have m2:=(List.of_mem_zip (a:=x.1) (b:=x.2) mx).1
  have:=nd
  rw [←List.take_append_drop Vs.length names,List.nodup_append] at this
  exact this.2.2 _ m _ m2 rfl
theorem vS(nd:names.Nodup)(l1:Vs.length≤names.length)(l2:names.length-Vs.length≤dv.length):
  names.filterMap (fun n=>((names.zip (Vs++dv.drop (dv.length-(names.length-Vs.length)))).lookup n).map (n,·))=names.zip (Vs++dv.drop (dv.length-(names.length-Vs.length))) :=
 VA nd (by rw [List.length_append,List.length_drop,Nat.sub_sub_self l2,Nat.add_sub_cancel' l1]) _ fun _ _=>rfl
end
theorem vT{fd:FuncData}(p0:fd.params.posonlyargs=[])(p2:fd.params.kwonlyargs=[])(p3:fd.params.vararg=none)(p4:fd.params.kwarg=none):fd={ fd with params:=⟨[],fd.params.args,none,[],fd.params.kw_defaults,none,fd.params.defaults⟩ }:=by
 obtain⟨_,_,⟨_,_,_,_,_,_,_⟩,_,_,_,_,_,_,_,_,_,_,_,_⟩:=fd
 exists p0;exists p2;exists p3;exists p4;rfl
noncomputable def hU(fd:FuncData)(ar:List Arg)(kd:List (Option Expr))(df:List Expr)(Vs:List Value):{ k:Option (Array Value)→Sem (List (Str×Value)) // bindArgs { fd with params:=⟨[],ar,none,[],kd,none,df⟩ } ⟨Vs,[]⟩=seqItems? fd.defaults>>=k }:=⟨_,rfl⟩
section
variable{s:Shared}{fd:FuncData}{ar:List Arg}{kd:List (Option Expr)}{df:List Expr}{dv Vs:List Value}{B:List (Str×Value)}{ds:Option (Array Value)}
theorem hX{N:List Str}(hN:ar.map (·.arg)=N){D:List Value}(hD:(ds.getD #[]).toList.drop ((ds.getD #[]).toList.length-(ar.map (·.arg)).length)=D)(hg:(decide (Vs.length>(ar.map (·.arg)).length)&&true)=false)
  (hm:(N.take (N.length-D.length)).filter (fun n=>((N.zip Vs).lookup n).isNone)=[]) (hf:EB (N.zip Vs) ((N.drop (N.length-D.length)).zip D)=B)
  (ha:N.filterMap (fun n=>(B.lookup n).map (n,·))=B):(hU fd ar kd df Vs).1 ds=pure B:=by
 subst hN hD
 refine(if_neg (c:=(decide (Vs.length>(ar.map (·.arg)).length)&&true)=true) (fun h=>BZ (hg.symm.trans h))).trans ?_
 refine(if_neg (c:=(!(((ar.map (·.arg)).take ((ar.map (·.arg)).length-((ds.getD #[]).toList.drop ((ds.getD #[]).toList.length-(ar.map (·.arg)).length)).length)).filter (fun n=>(((ar.map (·.arg)).zip Vs).lookup n).isNone)).isEmpty)=true) (fun h=>BZ ((congrArg (fun l:List Str=>!l.isEmpty) hm).symm.trans h))).trans ?_
 refine(congrArg (fun m=>m>>=_) ((XX _ _).trans (congrArg pure hf))).trans ?_
 rw [←List.append_nil (ar.map (·.arg))] at ha
 exact congrArg (pure (f:=Sem)) ha
end
theorem VB{s:Shared}{fd:FuncData}{names:List Str}{dv Vs:List Value}(p0:fd.params.posonlyargs=[])(p1:fd.params.args.map (·.arg)=names)(p2:fd.params.kwonlyargs=[])(p3:fd.params.vararg=none)(p4:fd.params.kwarg=none)(nd:names.Nodup)
  (hd:(fd.defaults=.none∧dv=[])∨∃T o vs n,fd.defaults=.ref T∧s.heap.get? T=some o∧o.data=.seq vs n∧vs.toList=dv) (l0:dv.length≤names.length) (l1:Vs.length≤names.length) (l2:names.length-Vs.length≤dv.length) :
  BindsTo s fd ⟨Vs,[]⟩ (names.zip (Vs++dv.drop (dv.length-(names.length-Vs.length)))):=by
 rw [vT p0 p2 p3 p4]
 have key:∀ds:Option (Array Value),(ds.getD #[]).toList=dv→(hU fd fd.params.args fd.params.kw_defaults fd.params.defaults Vs).1 ds=pure (names.zip (Vs++dv.drop (dv.length-(names.length-Vs.length)))):=fun ds e =>
  hX p1 (D:=dv) (by rw [e,p1,Nat.sub_eq_zero_of_le l0];rfl) (by rw [p1,Bool.and_true];exact decide_eq_false (Nat.not_lt.mpr l1)) (qS l2) (qT nd l0 l1 l2) (vS nd l1 l2)
 intro M A E Q q
 have AG:∀P:Option (Array Value)→Shared→Prop,(∀ds,(ds.getD #[]).toList=dv→P ds s)→wpAny M A (seqItems? fd.defaults) P E s:=fun P h=>by
  rcases hd with ⟨e,rfl⟩ | ⟨T,o,vs,n,e,ho,hs,rfl⟩
  ·rw [e]
   exact wpAny_bind (wpAny_pure (wpAny_pure (h none rfl)))
  ·rw [e]
   exact wpAny_seqItems ho hs (h _ rfl)
 rw [(hU fd fd.params.args fd.params.kw_defaults fd.params.defaults Vs).2]
 exact wpAny_bind (AG _ fun ds e=>by rw [key ds e];exact wpAny_pure q)
theorem HV.ns{h:HV}{h':Heap}(le:∀a o,h.get? a=some o→h'.get? a=some o){a:Addr}(x:h.isNs a=true):h'.Ns a (h.nsMap a):=by
 have y:h'.isNs a=true∧h'.nsMap a=h.nsMap a:=by
  unfold HV.isNs at x
  refine Og.WJ (h.get? a) (fun e=>?_) fun o e=>?_
  ·rw [e] at x;exists x
  ·
   rw [e] at x
   have e':=le a o e
   refine⟨by unfold Heap.isNs;rw [e'];exact x,funext fun n=>?_⟩
   unfold Heap.nsMap HV.nsMap
   rw [e,e']
   rfl
 rw [←y.2]
 exact Heap.Ns.of_isNs y.1
theorem L6{h:HV}:∀{l:List Nat} {a:Addr} {o:Obj},(l.map fun a=>(a,ZE h a)).lookup a=some o→a∈l∧o=ZE h a
 | [],_,_,e=>by exists e
 | b::l,a,o,e=>by
  rw [List.map_cons,List.lookup_cons] at e
  refine Og.GQ (a==b) (fun q=>?_) fun q=>?_
  ·rw [q] at e;exists e;have:=beq_iff_eq.mp q;subst this;exact⟨List.mem_cons_self,rfl⟩
  ·rw [q] at e;obtain⟨m,x⟩:=L6 e;exact⟨List.mem_cons_of_mem _ m,x⟩
theorem qU{h:HV}{h':Heap}(k:QV h=true)(le:∀a o,h.get? a=some o→h'.get? a=some o):(M8 h).In h':=fun a o e=>by
 obtain⟨m,rfl⟩:=L6 e
 refine Og.AI (Option.isSome_iff_exists.mp (List.all_eq_true.mp k a m)) fun o eo=>?_
 refine le a _ ?_
 rw [eo]
 unfold ZE
 rw [eo]
theorem HX{α:Type}{l:List α}(h:l.isEmpty=true):l=[]:=BQ (P:=fun l=>l=[]) h rfl
theorem K8{hs h:Heap}{r:List Addr}{f:AV→Value→Bool}(k:∀{v V},f v V=true→VR hs h r v V):∀{l:List AV} {L:List Value},all2 f l L=true→AJ hs h r l L
 | [],L,e=>BQ (P:=AJ hs h r []) e .nil
 | _::_,[],e=>nomatch e
 | _::_,_::_,e=>.cons (k (AA e)) (K8 k (A6 e))
theorem PY{h:HV}{V:Value}{t:String}{q:List Value→Bool}(e:f9 h V t q=true):∃a o vs n,V=.ref a∧h.get? a=some o∧o.cls=.type t∧o.data=.seq vs n∧q vs.toList=true:=by
 refine Og.AB (AQ e) fun a ea e=>?_
 refine Og.AB (AQ e) fun o eo e=>?_
 obtain⟨ec,e⟩:=B3 e
 refine Og.AB (AQ e) fun p ep e=>?_
 exact⟨a,o,p.1,p.2,HI ea,eo,QW (of_decide_eq_true ec),TX ep,e⟩
theorem VC{h:HV}{h':Heap}(le:∀a o,h.get? a=some o→h'.get? a=some o)(n:Nat):∀{v V},sJ h n v V=true→VR h' h' [] v V:=by
 induction n with
 | zero=>exact fun e=>BZ e
 | succ n ih =>
  intro v V e
  induction v using Og.AV.casesOn with
  | none=>exact PF e▸.none
  | bool b=>exact of_decide_eq_true e▸.bool b
  | int i =>
   refine Og.AB (AQ e) fun p ep e=>?_
   exact eZ ep▸of_decide_eq_true e▸.int _ _
  | str l =>
   refine Og.AB (AQ e) fun p ep e=>?_
   exact TW ep▸TT e▸.str _ _
  | tup l =>
   obtain⟨a,o,vs,n,rfl,eo,ec,ed,e⟩:=PY e
   exact .tup ⟨o,le _ _ eo,ec,n,ed⟩ (K8 (fun {v V}=>ih) e)
  | slist l =>
   obtain⟨a,⟨_,_,_,_⟩,vs,n,rfl,eo,rfl,rfl,e⟩:=PY e
   exact .slist ⟨_,le _ _ eo,rfl,n,rfl⟩ (K8 (fun {v V}=>ih) e)
  | _=>exact BZ e
theorem VD:∀{l:List Arg} {m:List Nat},fA l m=true→l.map (·.arg)=m.map FH
 | [],m,h=>by cases HX h;rfl
 | a::l,[],h=>nomatch h
 | a::l,x::m,h=>by
  rw [List.map_cons,List.map_cons,DK.mp (AA h),VD (A6 h)]
theorem hZ{h:HV}{h':Heap}(le:∀a o,h.get? a=some o→h'.get? a=some o){cd:Value}{q:Str}(x:fB h cd q=true):h'.CodeRec cd q:=by
 refine Og.AB (AQ x) fun c ec x=>?_
 refine Og.AB (AQ x) fun o eo x=>?_
 refine Og.AB (AQ x) fun vs ev x=>?_
 refine Og.AB (AQ x) fun n en x=>?_
 refine Og.AB (AQ x) fun p ep x=>?_
 exists HI ec
 exists TW ep
 exact⟨c,o,vs,p.2,rfl,le _ _ eo,bE ev,by rw [←Array.getElem?_toList,en,DK.mp x]⟩
theorem O2{x:Option (Option Value)}{α:Type}{f:Value→Option α}{a:α}{v:Value}(h:(x.bind id).bind f=some a)(k:∀{w},f w=some a→w=v):x=some (some v):=by
 refine A3 h fun w e h=>?_
 refine A3 e fun u e1 e2=>?_
 rw [e1,show u=some w from e2,k h]
theorem VE{x:Option Value}{α:Type}{f:Value→Option α}{a:α}{v:Value}(h:x.bind f=some a)(k:∀{w},f w=some a→w=v):x=some v:=by
 refine A3 h fun w e h=>?_
 rw [e,k h]
theorem RQ{x:Option (Option Value)}{b:String}(h:bF x b=true):x=some (some (.builtin b)):=O2 (of_decide_eq_true h) ZF
theorem MH{x:Option (Option Value)}{a:Addr}(h:kR x a=true):x=some (some (.ref a)):=O2 (of_decide_eq_true h) HI
theorem K9{x:Option (Option Value)}(h:fE x=true):x=some none:=B9 h fun _ h=>CV h rfl
theorem RR{x:Option Value}{t:String}(h:kS x t=true):x=some (.type t):=VE (of_decide_eq_true h) QW
theorem ZW{x y v:Nat}:∀{l:List (Nat×Nat×Nat)},xS x y l=some v→(x,y,v)∈l
 | [],h=>nomatch h
 | (a,b,w)::r,h=>by
  unfold xS at h
  refine Og.GQ (Nat.beq x a&&Nat.beq y b) (fun e=>?_) fun e=>?_
  ·
   rw [e] at h
   obtain⟨e1,e2⟩:=Bool.and_eq_true_iff.mp e
   exists h
   rw [Nat.eq_of_beq_eq_true e1,Nat.eq_of_beq_eq_true e2]
   exact List.mem_cons_self
  ·rw [e] at h;exact List.mem_cons_of_mem _ (ZW h)
theorem MJ{α:Type}{x:Nat}{v:α}:∀{l:List (Nat×α)},pQ x l=some v→(x,v)∈l
 | [],h=>nomatch h
 | (a,w)::r,h=>by
  unfold pQ at h
  refine Og.GQ (Nat.beq x a) (fun e=>?_) fun e=>?_
  ·
   rw [e] at h
   exists h
   rw [Nat.eq_of_beq_eq_true e]
   exact List.mem_cons_self
  ·rw [e] at h;exact List.mem_cons_of_mem _ (MJ h)
theorem cG{k m f:Nat}(h:nZ k m=some f):(k,m,f)∈methL:=ZW h
theorem cH{k f:Nat}(h:nY k=some f):(k,f)∈initL:=MJ h
theorem II{x:Option Value}{a:Addr}(h:KS x a=true):x=some (.ref a):=VE (of_decide_eq_true h) HI
theorem VF{x:Option Value}{v:Value}(h:IP x v=true):x=some v:=of_decide_eq_true h
noncomputable def RS(l:List Nat):Bool:=l.all fun x=>Nat.blt x 2000000
theorem PZ:(o0.all RS)=true:=by decide +kernel
theorem Q0:(kP.all RS)=true:=by decide +kernel
noncomputable def XY:List (List Nat)→Bool
 | []=>true
 | a::l=>(l.all fun b=>!JT a b)&&XY l
theorem L7:∀{l:List (List Nat)},XY l=true→l.Nodup
 | [],_=>List.nodup_nil
 | a::l,h=>by
  unfold XY at h
  simp only [Bool.and_eq_true,List.all_eq_true,Bool.not_eq_true'] at h
  refine List.nodup_cons.mpr ⟨fun m=>?_,L7 h.2⟩
  have:=h.1 a m
  rw [IB.mpr rfl] at this
  exists this
theorem cI:o0.Nodup:=L7 (by decide +kernel)
theorem cJ:kP.Nodup:=L7 (by decide +kernel)
theorem lZ:kP.length≤100:=by decide +kernel
theorem ZX{L:List (List Nat)}(nd:L.Nodup){a b:Nat}{l:List Nat}(h1:L[a]?=some l)(h2:L[b]?=some l):a=b:=by
 obtain⟨ha,ea⟩:=List.getElem?_eq_some_iff.mp h1
 obtain⟨hb,eb⟩:=List.getElem?_eq_some_iff.mp h2
 rcases Nat.lt_trichotomy a b with h | h | h
 ·exact absurd (ea.trans eb.symm) (List.pairwise_iff_getElem.mp nd a b ha hb h)
 ·exact h
 ·exact absurd (eb.trans ea.symm) (List.pairwise_iff_getElem.mp nd b a hb ha h)
noncomputable def M0(x:Nat):List Nat:=match (match Nat.blt x 500 with | true=>o0[x]? | false=>kP[x-500]?) with
 | some l=>l
 | none=>[2000000+x]
theorem XZ(x:Nat):FH x=⟨(M0 x).toArray⟩:=by
 unfold FH M0
 cases Nat.blt x 500 with
 | true=>dsimp only;exists o0[x]?<;>rfl
 | false=>dsimp only;cases kP[x-500]?<;>rfl
theorem i0{a b:Nat}(h:T0.isAttr a=T0.isAttr b)(e:M0 a=M0 b):a=b:=by
 have hA:∀x,T0.isAttr x=(decide (500≤x)&&decide (x<600)):=fun _=>rfl
 have big:∀{L:List (List Nat)} {i k:Nat} {l:List Nat},(L.all RS)=true→L[i]?=some l→l≠[2000000+k]:=fun {L i k l} hs hi z=>by
  have:=List.all_eq_true.mp hs l (List.mem_of_getElem? hi)
  subst z
  unfold RS at this
  simp [Nat.blt_eq] at this
  omega
 have key:∀x,(∃l,M0 x=l∧x<500∧o0[x]?=some l)∨(∃l,M0 x=l∧500≤x∧x<600∧kP[x-500]?=some l)∨(M0 x=[2000000+x]):=fun x=>by
  unfold M0
  by_cases hx:x<500
  ·have:Nat.blt x 500=true:=by rw [Nat.blt_eq];exact hx
   rw [this]
   cases q:o0[x]? with
   | none=>exact .inr (.inr rfl)
   | some l=>exact .inl ⟨l,rfl,hx,rfl⟩
  ·have:Nat.blt x 500=false:=by
    rw [Bool.eq_false_iff];intro z;rw [Nat.blt_eq] at z;exact hx z
   rw [this]
   cases q:kP[x-500]? with
   | none=>exact .inr (.inr rfl)
   | some l =>
    obtain⟨hb,_⟩:=List.getElem?_eq_some_iff.mp q
    have:=lZ
    exact .inr (.inl ⟨l,rfl,by omega,by omega,rfl⟩)
 rw [hA,hA] at h
 rcases key a with ⟨l,q,h1,h2⟩ | ⟨l,q,h1,h3,h2⟩ | q<;>rcases key b with ⟨m,q',h1',h2'⟩ | ⟨m,q',h1',h3',h2'⟩ | q'<;>rw [q,q'] at e
 ·subst e;exact ZX cI h2 h2'
 ·exfalso
  have x1:decide (500≤a)=false:=decide_eq_false (by omega)
  have x2:decide (500≤b)=true:=decide_eq_true (by omega)
  have x3:decide (b<600)=true:=decide_eq_true (by omega)
  rw [x1,x2,x3] at h;exists h
 ·exact absurd e (big PZ h2)
 ·exfalso
  have x1:decide (500≤b)=false:=decide_eq_false (by omega)
  have x2:decide (500≤a)=true:=decide_eq_true (by omega)
  have x3:decide (a<600)=true:=decide_eq_true (by omega)
  rw [x1,x2,x3] at h;exists h
 ·subst e
  have:=ZX cJ h2 h2'
  omega
 ·exact absurd e (big Q0 h2)
 ·exact absurd e.symm (big PZ h2')
 ·exact absurd e.symm (big Q0 h2')
 ·injection e with e;exact Nat.add_left_cancel e
theorem m6{a b:Nat}(h:T0.isAttr a=T0.isAttr b)(e:FH a=FH b):a=b:=by
 rw [XZ,XZ] at e
 injection e with e
 exact i0 h (by simpa using e)
noncomputable def i3(l:List Nat):Bool:=!JT l pW.cps.toList&&!JT l ("__classdict__":Str).cps.toList&&!JT l (".0":Str).cps.toList
set_option tactic.hygienic true in
theorem qV(x:Nat):(FH x==("__debug__":Str))=false∧(FH x==("__classdict__":Str))=false∧FH x≠(".0":Str):=by
 have a1:(o0.all i3)=true:=by decide +kernel
 have a2:(kP.all i3)=true:=by decide +kernel
 have a3:i3 (M0 x)=true:=by
  unfold M0
  split
  ·rename_i l hl
   split at hl
   ·exact List.all_eq_true.mp a1 l (List.mem_of_getElem? hl)
   ·exact List.all_eq_true.mp a2 l (List.mem_of_getElem? hl)
  ·unfold i3
   have:∀(m:List Nat),(m.all fun y=>Nat.blt y 1000)=true→JT [2000000+x] m=false:=fun m hm=>by
    rw [Bool.eq_false_iff]
    intro z
    rw [IB] at z
    subst z
    simp [Nat.blt_eq] at hm
    lia
   rw [this _ (by decide +kernel),this _ (by decide +kernel),this _ (by decide +kernel)]
   rfl
 rw [XZ]
 unfold i3 at a3
 simp only [Bool.and_eq_true,Bool.not_eq_true'] at a3
 obtain⟨⟨b1,b2⟩,b3⟩:=a3
 have q:∀(s:Str),JT (M0 x) s.cps.toList=false→(⟨(M0 x).toArray⟩:Str)≠s:=fun s h z=>by
  subst z
  rw [IB.mpr (by simp)] at h
  exists h
 exact⟨beq_eq_false_iff_ne.mpr (q _ b1),beq_eq_false_iff_ne.mpr (q _ b2),q _ b3⟩
theorem vU(m:Nat)(me:Me)(h:kA m=some me):FH m=RJ me:=by
 unfold kA at h
 match m with
 | 0=>exists h;decide +kernel
 | 1=>exists h;decide +kernel
 | 2=>exists h;decide +kernel
 | 3=>exists h;decide +kernel
 | 4=>exists h;decide +kernel
 | 5=>exists h;decide +kernel
 | 6=>exists h;decide +kernel
 | 7=>exists h;decide +kernel
 | 8=>exists h;decide +kernel
 | _+9=>exists h
structure VG(h:HV):Prop where
 keep:QV h=true
 mods:(h.get? sysModules).isSome=true
 cls:kT (M8 h)=true
 attr:fF (M8 h)=true
 meth:fG (M8 h)=true
 init:fH (M8 h)=true
 gks:pX h=true
 fns:pV h=true
structure EI(h0:HV)(s:Shared)(L:Addr)(mg mb mc:Str→Option Value):Prop where
 le:∀a o,h0.get? a=some o→s.heap.get? a=some o
 G:s.heap.Ns mainGlobals mg
 B:s.heap.Ns builtinsNs mb
 hL:L=2∨L=3
 C:s.heap.Ns L mc
 nolim:s.heap.NoLimit
 blt:∀x:Str,x≠"__name__"→mb x=bootBuiltins x
 main:h0.isNs mainGlobals=true
theorem RT{k:Nat}(h:eX k=true):∃i,k=i+1∧i∈List.range 10:=by
 unfold eX at h
 simp only [Bool.and_eq_true,Nat.ble_eq] at h
 exact⟨k-1,by lia,by rw [List.mem_range];lia⟩
theorem ZY{a:Nat}(h:T0.isAttr a=true):∃j,a=500+j∧j∈List.range 100:=by
 have h:(decide (500≤a)&&decide (a<600))=true:=h
 simp only [Bool.and_eq_true,decide_eq_true_eq] at h
 exact⟨a-500,by omega,by rw [List.mem_range];omega⟩
theorem KA{K:Frag}(h:kT K=true){k:Nat}(hk:eX k=true):(bF (findIn K (.ref (QU k)) "__getattribute__") "object.__getattribute__"=true∧bF (findIn K (.ref (QU k)) "__setattr__") "object.__setattr__"=true∧plainOver K (QU k)=true∧(PySem.W.clsIn K (QU k)).any (·.hasDict)=true∧keepIn K (.ref (QU k))=true):=by
 refine Og.AB (RT hk) fun i hr1 m=>?_;subst hr1
 have:=List.all_eq_true.mp h i m
 simp only [Bool.and_eq_true] at this
 obtain⟨⟨⟨⟨a,b⟩,c⟩,d⟩,e⟩:=this
 exact⟨a,b,c,d,e⟩
section
variable{h0:HV}{s:Shared}{L:Addr}{mg mb mc:Str→Option Value}
noncomputable def O3(prog:Program)(w:World)(Z:VG h0)(Y:EI h0 s L mg mb mc):Cx where
 prog:=prog
 w:=w
 hs:=s.heap
 K:=M8 h0
 nm:=FH
 isA:=T0.isAttr
 inj:=fun _ _=>m6
 isC:=eX
 ca:=QU
 fa:=ZD
 mg:=mg
 mb:=mb
 gens:=s.gens
 os:=s.os
 X:=qU Z.keep Y.le
 clsGet:=fun _ h=>RQ (KA Z.cls h).1
 clsSet:=fun _ h=>RQ (KA Z.cls h).2.1
 clsPlain:=fun _ h=>(KA Z.cls h).2.2.1
 clsDict:=fun _ h=>(KA Z.cls h).2.2.2.1
 clsAttr:=fun k a hk ha=>by
  refine Og.AB (RT hk) fun i hr1 m=>?_;subst hr1
  refine Og.AB (ZY ha) fun j hr1 m'=>?_;subst hr1
  exact K9 (List.all_eq_true.mp (List.all_eq_true.mp Z.attr i m) j m')
 G:=Y.G
 B:=Y.B
 mc:=mc
 L:=L
 hL:=Y.hL
 stat:=Y.C
 nolim:=Y.nolim
 noK:=by
  cases q:(M8 h0).lookup L with
  | none=>rfl
  | some o =>
   obtain⟨m,_⟩:=L6 q
   rcases Y.hL with z | z<;>(rw [z] at m;exact absurd m (by decide))
 modsAt:=by
  refine Og.AI (Option.isSome_iff_exists.mp Z.mods) fun o e=>?_
  exact⟨o,Y.le _ _ e⟩
 builtins:=Y.blt
theorem O4(Y:EI h0 s L mg mb mc)(x:Str):mg x=h0.nsMap mainGlobals x:=by
 have b:s.heap.Ns mainGlobals (h0.nsMap mainGlobals):=HV.ns Y.le Y.main
 rw [Heap.Ns.eq_nsMap Y.G,Heap.Ns.eq_nsMap b]
theorem KB{α:Type}{x:Option α}(h:x.isNone=true):x=none:=CV (P:=fun x=>x=none) h rfl
theorem ZZ{α:Type}{x:List Nat}{k:α}:∀{l:List (List Nat×α)},xU x l=some k→(x,k)∈l
 | [],h=>by exists h
 | (a,v)::r,h=>by
  unfold xU at h
  split at h
  ·rename_i q
   exists h
   rw [IB.mp q]
   exact List.mem_cons_self
  ·exact List.mem_cons_of_mem _ (ZZ h)
theorem aA(Z:VG h0){x:Str}{k:GK}(h:N0.gk x=some k):gkB h0 x k=true∧(x==("__debug__":Str))=false∧x≠"__name__":=by
 have h':=List.all_eq_true.mp Z.gks _ (ZZ h)
 have ex:(⟨x.cps.toList.toArray⟩:Str)=x:=by
  obtain⟨⟨x⟩⟩:=x;rfl
 simp only [Bool.and_eq_true,Bool.not_eq_true'] at h'
 rw [ex] at h'
 refine⟨h'.1.1,?_,fun z=>?_⟩
 ·refine beq_eq_false_iff_ne.mpr fun z=>?_
  have:=h'.1.2
  have z':J2 x pW=true:=DK.mpr z
  rw [z'] at this
  exists this
 ·have:=h'.2
  have z':J2 x o8=true:=DK.mpr z
  rw [z'] at this
  exists this
theorem JJ(Y:EI h0 s L mg mb mc){x:Str}{v:Value}(h:(Option.isNone (h0.nsMap mainGlobals x)&&IP (bootBuiltins x) v)=true)(hx:x≠"__name__"):mg x=none∧mb x=some v:=by
 simp only [Bool.and_eq_true] at h
 exact⟨by rw [O4 Y];exact KB h.1,by rw [Y.blt x hx];exact VF h.2⟩
theorem qW(prog:Program)(w:World)(Z:VG h0)(Y:EI h0 s L mg mb mc):CP (O3 prog w Z Y) T0 N0 where
 nm:=rfl
 isA:=rfl
 isAT:=rfl
 gk:=fun x k h=>by
  refine Og.BB (aA Z h) fun a b c=>?_
  refine⟨?_,b⟩
  cases k with
  | fn f =>
   exact(O4 Y x).trans (II (AA a))
  | cls k =>
   exact⟨(O4 Y x).trans (II (AA a)),A6 a⟩
  | bi b=>exact JJ Y a c
  | val y =>
   intro v hv
   simp only [gkB,hv] at a
   refine Og.AB (AQ a) fun V hV a=>?_
   exact⟨V,(O4 Y x).trans hV,VC Y.le 50 a⟩
  | isinst=>exact JJ Y a c
  | strT=>exact JJ Y a c
  | enum=>exact JJ Y a c
  | range=>exact JJ Y a c
  | zip=>exact JJ Y a c
  | barr=>exact JJ Y a c
  | fault=>trivial
 dbg:=qV
 me:=vU
 keepF:=fun x f h=>by
  refine Og.BB (aA Z h) fun a b c=>?_
  exact A6 a
 keepC:=fun x k h=>by
  refine Og.BB (aA Z h) fun a b c=>?_
  exact(KA Z.cls (A6 a)).2.2.2.2
 meth:=fun k m f h hk=>by
  have a:=List.all_eq_true.mp Z.meth _ (cG h)
  simp only [Bool.and_eq_true] at a
  obtain⟨⟨⟨a1,a2⟩,a3⟩,a4⟩:=a
  refine⟨MH a1,K9 a2,RR a3,fun x hx e=>?_,a4⟩
  refine Og.AB (RT hk) fun i hr1 m1=>?_;subst hr1
  refine Og.AB (ZY hx) fun j hr1 m2=>?_;subst hr1
  have b1:findIn (M8 h0) (.ref (QU (i+1))) (FH (500+j))=some none:=K9 (List.all_eq_true.mp (List.all_eq_true.mp Z.attr i m1) j m2)
  have b2:findIn (M8 h0) (.ref (QU (i+1))) (FH m)=_:=MH a1
  have e:FH (500+j)=FH m:=e
  rw [e,b2] at b1
  cases b1
 init:=fun k f h hk=>by
  have a:=List.all_eq_true.mp Z.init _ (cH h)
  simp only [Bool.and_eq_true] at a
  exact⟨a.1.1,MH a.1.2,RR a.2⟩
theorem qX{f:Nat}{d:Fn}(h:xT f=some d):f<70:=Nat.blt_eq.mp (List.all_eq_true.mp (show(tT.all fun x=>Nat.blt x.1 70)=true by decide +kernel) _ (MJ h))
theorem m7{f:Nat}{d:GFn}(h:kO f=some d):f<70:=Nat.blt_eq.mp (List.all_eq_true.mp (show(tU.all fun x=>Nat.blt x.1 70)=true by decide +kernel) _ (MJ h))
noncomputable def O5:List Nat→Bool
 | []=>true
 | a::l=>(l.all fun b=>!Nat.beq a b)&&O5 l
theorem L8:∀{l:List Nat},O5 l=true→l.Nodup
 | [],_=>List.nodup_nil
 | a::l,h=>by
  unfold O5 at h
  simp only [Bool.and_eq_true,List.all_eq_true,Bool.not_eq_true'] at h
  refine List.nodup_cons.mpr ⟨fun m=>?_,L8 h.2⟩
  have:=h.1 a m
  rw [Nat.beq_refl] at this
  exists this
noncomputable def Y0(f:Nat):Bool:=(match xT f with
 | some d=>O5 d.params
 | none=>true)&&(match kO f with
 | some d=>O5 d.params
 | none=>true)
theorem VH:((List.range 70).all Y0)=true:=by decide +kernel
theorem m8{sc:Scope}{x:Str}(h:QH sc x=true):sc.names.lookup x=some .local∨sc.names.lookup x=some .cell:=DO ((QI _ _).trans h)
theorem cK{h0:HV}{dfl:List AV}{D:Value}(h:ZH h0 dfl D=true):(D=.none∧dfl=[])∨∃T o vs n,D=.ref T∧h0.get? T=some o∧o.data=.seq vs n∧all2 (sJ h0 50) dfl vs.toList=true:=by
 refine(Bool.or_eq_true_iff.mp h).imp (fun h=>⟨PF (AA h),HX (A6 h)⟩) fun h=>?_
 refine Og.AB (AQ h) fun T eT h=>?_
 refine Og.AB (AQ h) fun o eo h=>?_
 refine Og.AB (AQ h) fun p ep h=>?_
 exact⟨T,o,p.1,p.2,HI eT,eo,TX ep,h⟩
theorem m9(Y:EI h0 s L mg mb mc){dfl:List AV}{D:Value}(h:ZH h0 dfl D=true):∃dv,AJ s.heap s.heap [] dfl dv∧((D=.none∧dv=[])∨∃T o vs n,D=.ref T∧T≠L∧s.heap.get? T=some o∧o.data=.seq vs n∧vs.toList=dv):=by
 rcases cK h with ⟨rfl,rfl⟩ | ⟨T,o,vs,n,rfl,eo,ed,h⟩
 ·exact⟨[],.nil,.inl ⟨rfl,rfl⟩⟩
 ·refine⟨vs.toList,K8 (VC Y.le 50) h,.inr ⟨T,o,vs,n,rfl,fun z=>?_,Y.le _ _ eo,ed,rfl⟩⟩
  refine Og.IK Y.C fun o' es ep e' q _=>?_
  rw [←z,Y.le _ _ eo] at e'
  exists e'
  exists ed.symm.trans q
theorem Y1(prog:Program)(w:World)(Z:VG h0)(Y:EI h0 s L mg mb mc){f:Nat}{params:List Nat}{dfl:List AV}{chk:Scope→List Stmt→Bool}(nd:params.Nodup)(h:xW h0 f params dfl chk=true):
  ∃fd body dv,XT (O3 prog w Z Y) f params dfl fd body dv∧chk fd.scope body=true:=by
 refine Og.AB (AQ h) fun ob ho h=>?_
 refine Og.AB (AQ h) fun fd hd h=>?_
 refine Og.AB (AQ h) fun b hb h=>?_
 have P:=kQ (AA h)
 refine Og.AB (m9 Y P.dflt) fun dv hv hdd=>?_
 have own:∀x∈params,QH fd.scope (FH x)=true∧(!T0.isAttr x)=true:=fun x m=>B3 (List.all_eq_true.mp P.own x m)
 have nd2:(params.map FH).Nodup:=V5 (c:=O3 prog w Z Y) nd fun x m=>BF (own x m).2
 have lv:dv.length≤(params.map FH).length:=by rw [List.length_map,←hv.length];exact Nat.le_of_ble_eq_true P.len
 refine⟨fd,b,dv,⟨⟨ob,Y.le _ _ ho,f6 hd⟩,hZ Y.le P.code,f8 hb,HX P.clo,BF P.co,BF P.gen,J3.mp P.kind,Nat.eq_of_beq_eq_true P.glob,Nat.eq_of_beq_eq_true P.blt,fun x m z=>?_,hv,fun s' Vs k l1 l2=>?_,
  fun x m=>BF (own x m).2,fun x m=>m8 (own x m).1,nd⟩,(A6 h)⟩
 ·have:=List.all_eq_true.mp P.free x m
  rw [z] at this
  cases this
 ·have:=VB (s:=s') (Vs:=Vs) (dv:=dv) (HX P.po) (VD P.pars) (HX P.ko) (KB P.va) (KB P.kw) nd2 (hdd.imp id fun⟨T,o,vs,n,e1,e2,e3,e4,e5⟩=>⟨T,o,vs,n,e1,k T o e2 e3,e4,e5⟩)
   lv (by rw [List.length_map];exact l1) (by rw [List.length_map,←hv.length];exact l2)
  rw [List.length_map] at this
  exact this
theorem mB(prog:Program)(w:World)(Z:VG h0)(Y:EI h0 s L mg mb mc):AY (O3 prog w Z Y) T0 N0 where
 fn:=fun f d h=>by
  have h1:xT f=some d:=h
  have hm:f∈List.range 70:=by rw [List.mem_range];exact qX h1
  have a:=List.all_eq_true.mp Z.fns f hm
  have b:=List.all_eq_true.mp VH f hm
  unfold Y0 at b
  simp only [Bool.and_eq_true,h,h1] at a b
  refine Og.ES (Y1 prog w Z Y (L8 b.1) a.1) fun fd body dv F e=>?_
  exact⟨fd,body,dv,F,bB e⟩
 gfn:=fun f d h=>by
  have h1:kO f=some d:=h
  have hm:f∈List.range 70:=by rw [List.mem_range];exact m7 h1
  have a:=List.all_eq_true.mp Z.fns f hm
  have b:=List.all_eq_true.mp VH f hm
  unfold Y0 at b
  simp only [Bool.and_eq_true,h,h1] at a b
  refine Og.ES (Y1 prog w Z Y (L8 b.2) a.2) fun fd body dv F e=>?_
  exact⟨fd,body,dv,F,bC e⟩
end
theorem O6{h:HV}(e:PG h=true):VG h∧h.isNs mainGlobals=true:=by
 unfold PG at e
 simp only [Bool.and_eq_true] at e
 obtain⟨⟨⟨⟨⟨⟨⟨⟨a,b⟩,c⟩,d⟩,e⟩,f⟩,g⟩,i⟩,j⟩:=e
 exact⟨⟨a,b,c,d,e,f,g,i⟩,j⟩
abbrev jX(CL:Addr):List Value:=[.ref CL,.type "Exception",.type "BaseException",.type "object"]
abbrev A_c(nm q:PySem.Str)(C CL N:Addr)(bs:List Value)(hdct:Bool)(sn:List PySem.Str)(sub:List Value)(ab:Bool)(col:Option Bool)(dd:Option Addr)(k0 k1 k2 k3 k5:Option Value):Obj:=excClassObj nm q C N bs (jX CL) hdct sn sub ab col dd k0 k1 k2 k3 k5 "Exception.__new__"
structure XC where
 (nm q:PySem.Str) (N:Addr) (bs:List Value) (sn:List PySem.Str) (sub:List Value) (ab:Bool) (col:Option Bool) (dd:Option Addr) (k0 k1 k2 k3 k5:Option Value)
abbrev XC.o(x:XC)(C CL:Addr)(hd:Bool):Obj:=A_c x.nm x.q C CL x.N x.bs hd x.sn x.sub x.ab x.col x.dd x.k0 x.k1 x.k2 x.k3 x.k5
section
variable{prog:Program}{w:World}{A:Around}{E:Value→Shared→Prop}{R:Result→Shared→Prop}{h:Heap}{g:Array GenState}{d:Drawn}{t:Nat}{os:OsState}
variable{xc:XC}{C CL:Addr}{hdct:Bool}
theorem i4(C CL:Addr):(Value.ref C::jX CL).contains (.type "Exception")=true:=by simp
theorem mC(C CL:Addr):(Value.ref C::jX CL).contains (.type "BaseException")=true:=by simp
theorem A_d(C CL:Addr):(Value.ref C::jX CL).contains (.type "object")=true:=by simp
theorem mD(C CL:Addr):(Value.ref C::jX CL).contains (.type "AttributeError")=false:=by simp
theorem mE(C CL:Addr):(Value.ref C::jX CL).contains (.type "NameError")=false:=by simp
theorem VI{rest:List Value}{Q:Unit→Shared→Prop}{M:Model}(hC:h.get? C=some (xc.o C CL hdct))
  (hq:Q () ⟨h,g,d,t,os⟩):wpAny M A (checkBuiltinCall "Exception.__new__" ⟨.ref C::rest,[]⟩) Q E ⟨h,g,d,t,os⟩ :=
 P5 30 (List.replicate 7 (xc.o C CL hdct)) (And.intro hC<|And.intro hC<|And.intro hC<|And.intro hC<|And.intro hC<|And.intro hC<|And.intro hC hq) (by kernel_rfl!)
theorem vV{rest:List Value}(hC:h.get? C=some (xc.o C CL hdct))
  (hq:R (.ok (.ret (.ref (h.objs.size+1)))) ⟨(h.push { cls:=.type "tuple",data:=.seq rest.toArray }).push
   { cls:=.ref C,data:=.fields #[.ref h.objs.size,.none,.none,.none,.bool false,.none] },g,d,t,os⟩) (hrest:rest.length≤sizeLine) :
  codeAny (model prog w) A (.builtin "Exception.__new__" ⟨.ref C::rest,[]⟩) R ⟨h,g,d,t,os⟩:=by
 have F:=PySem.F.excBase_Exception
 have hends:=F.ends
 have hcB:=i4 C CL
 have hcA:=mD C CL
 have hcN:=mE C CL
 refine codeAny_builtinAt F.entry ?_
 unfold Builtin.«BaseException.__new__»
 refine wpAt_bind ?_
 show wpAt _ _ _ (stack>>=_) _ _ _
 refine wpAt_bind (wpAt_stack fun p below=>wpAt_of_wpAny ?_)
 wp_walk
 refine wpAt_of_wpAny ?_
 rw [F.owner]
 repeat (first | with_reducible refine wpAny_madeHere_exc F.canon hC ?_ | with_reducible refine wpAny_loadPart_at hC ?_ | (with_reducible refine wpAny_isSubtype_exc hC ?_;first | rw [hcB] | rw [hcA] | rw [hcN]) | wp_step)
 show R _ _
 rw [Heap.size_push]
 exact hq
theorem VJ{rest:List Value}{fI:Addr}{Q:PySem.Fin→Shared→Prop}(hC:h.get? C=some (xc.o C CL hdct))
  (hi:Looks (model prog w) h (typeLookup (.ref C) "__init__") (some (.ref fI))) (hb:∀self,Looks (model prog w) h (bindSpecial (.ref fI) self) (.ref fI,[self]))
  (hq:∀h' e,Heap.MadeExcOf h h' e (.ref C) rest →
   wpAny (model prog w) A (call (.ref fI) (.ref e::rest)) (fun r s'=>r=.none∧Q (.done (.ret (.ref e))) s') E ⟨h',g,d,t,os⟩) (hrest:rest.length≤sizeLine) :
  wpAny (model prog w) A (Builtin.«type.__call__» ⟨.ref C::rest,[]⟩) Q E ⟨h,g,d,t,os⟩:=by
 have F:=PySem.F.excBase_Exception
 repeat (first | with_reducible refine wpAny_loadPart_at hC ?_ | with_reducible refine wpAny_madeBy_exc hC ?_ | wp_step)
 refine codeAny_call_builtin_code (Code.quiet_builtin _ F.quiet) (VI hC ?_)
 refine vV hC ?_ hrest
 show wpAny _ _ _ _ _ _
 have k:∀b o,h.get? b=some o→((h.push { cls:=.type "tuple",data:=.seq rest.toArray }).push { cls:=.ref C,data:=.fields #[.ref h.objs.size,.none,.none,.none,.bool false,.none] }).get? b=some o:=fun b o e=>Heap.get?_push_of_some _ (Heap.get?_push_of_some _ e)
 have hC₁:=k _ _ hC
 have hget:((h.push { cls:=.type "tuple",data:=.seq rest.toArray }).push
   { cls:=.ref C,data:=.fields #[.ref h.objs.size,.none,.none,.none,.bool false,.none] }).get? (h.objs.size+1)=some
   { cls:=.ref C,data:=.fields #[.ref h.objs.size,.none,.none,.none,.bool false,.none] }:=by heap_get
 have hcC:(Value.ref C::jX CL).contains (.ref C)=true:=by simp
 unfold isInstance
 repeat (first | with_reducible refine wpAny_loadPart_at hget ?_ | (with_reducible refine wpAny_isSubtype_exc hC₁ ?_;rw [hcC]) | wp_step)
 show wpAny _ _ (typeLookup (.ref C) _) _ _ _
 refine(hi.keeps k).here ?_
 refine wpAny_holding (wpAny_bind (((hb _).keeps k).here ?_))
 refine wpAny_bind (wpAny_mono (hq _ (h.objs.size+1) ⟨k,Heap.get?_none_of_le (Nat.le_succ _),h.objs.size,hget,Heap.get?_none_of_le (Nat.le_refl _),?_⟩) (fun r s' hr=>?_) fun _ _ x=>x)
 ·exact Heap.get?_push_of_some _ (Heap.get?_push_at rfl rfl)
 ·obtain⟨rfl,hQ⟩:=hr
  wp_walk
  exact hQ
theorem Y4{rest:List Value}{fI:Addr}{Q:Value→Shared→Prop}(hC:h.get? C=some (xc.o C CL hdct))
  (hi:Looks (model prog w) h (typeLookup (.ref C) "__init__") (some (.ref fI))) (hb:∀self,Looks (model prog w) h (bindSpecial (.ref fI) self) (.ref fI,[self]))
  (hq:∀h' e,Heap.MadeExcOf h h' e (.ref C) rest →
   wpAny (model prog w) (A.under (.builtin "type.__call__" ⟨.ref C::rest,[]⟩)) (call (.ref fI) (.ref e::rest)) (fun r s'=>r=.none∧Q (.ref e) s') E ⟨h',g,d,t,os⟩) (hrest:rest.length≤sizeLine) :
  wpAny (model prog w) A (call (.ref C) rest) Q E ⟨h,g,d,t,os⟩:=by
 have f1:=tc_lookup
 have f2:=PySem.tc_bind (.ref C)
 have hT:(⟨h,g,d,t,os⟩:Shared).TypeIs (.ref C) "type":=⟨_,hC,rfl⟩
 refine wpAny_call (codeAny_of_tree ?_)
 show wpAny _ _ (callAny (.ref C) _) _ _ _
 repeat (any_goals (first | assumption | with_reducible refine wpAny_loadPart_at hC ?_ | wp_step))
 refine⟨rfl,?_⟩
 refine codeAny_call_builtin_at (Code.quiet_builtin _ (by decide +kernel)) entry_typeCall (wpAny_check_type_call_sub hC (VJ hC hi hb (fun h' e hm=>?_) hrest))
 exact hq h' e hm
theorem RU{M:Model}{e:Addr}{oe:Obj}{rest:List Value}{Q:Unit→Shared→Prop}
  (hC:h.get? C=some (xc.o C CL hdct)) (he:h.get? e=some oe) (hcls:oe.cls=.ref C) (hq:Q () ⟨h,g,d,t,os⟩) :
  wpAny M A (checkBuiltinCall "Exception.__init__" ⟨.ref e::rest,[]⟩) Q E ⟨h,g,d,t,os⟩:=by
 have F:=PySem.F.excBase_Exception
 have hcB:=i4 C CL
 have hshort:=F.noStar
 simp only [checkBuiltinCall,F.initKind,F.initSplit,F.initRow]
 repeat (first | (with_reducible refine wpAny_loadPart_at he ?_;rw [hcls]) | with_reducible refine wpAny_loadPart_at hC ?_ | (with_reducible refine wpAny_isSubtype_exc hC ?_;rw [hcB]) | wp_step)
 refine wpAny_onRaise ?_
 rw [show ∀(a b:String) (n:Nat),Bind.check ⟨.positional,"*","Exception",.self,[⟨"args",.varPos,false⟩]⟩ a b n (List.map (fun x=>x.fst) ({ pos:=Value.ref e::rest }:Args).kw)=pure () from
  fun a b n=>check_star_args _ _ _ _ _ _]
 exact wpAny_pure hq
theorem qY{e:Addr}{oe:Obj}{V:Value}{vs:Array Value}{old:Value}{Q:Value→Shared→Prop}(hC:h.get? C=some (xc.o C CL hdct))(he:h.get? e=some oe)(hcls:oe.cls=.ref C)(hd:oe.data=.fields vs)(h0:vs[0]?=some old)
  (hq:∀h' tt,(∀b o,b≠e→h.get? b=some o→h'.get? b=some o)→h'.get? e=some (oe.mapFields (·.setIfInBounds 0 (.ref tt)))→Q .none ⟨h',g,d,t,os⟩) :
  wpAny (model prog w) A (call (.builtin "Exception.__init__") [.ref e,V]) Q E ⟨h,g,d,t,os⟩:=by
 have F:=PySem.F.excBase_Exception
 refine wpAny_call (codeAny_call_builtin F.init.plain F.initEntry (RU hC he hcls ?_))
 unfold Builtin.«BaseException.__init__» newTuple
 dsimp only [List.isEmpty_nil]
 refine wpAny_bind (wpAny_newObj_type ?_)
 have he1:=Heap.get?_push_of_some { cls:=.type "tuple",data:=.seq ([V]:List Value).toArray } he
 refine wpAny_bind ?_
 show wpAny _ _ (do
  let old←field (.ref e) 0
  PySem.setField (.ref e) 0 (.ref h.objs.size)
  if let .ref _:=old then letGo [old] []) _ _ _
 refine wpAny_bind (wpAny_field he1 hd h0 (wpAny_bind (wpAny_setField he1 hd (Array.getElem?_eq_some_iff.mp h0).1 ?_)))
 have hd3:=Obj.data_mapFields hd (·.setIfInBounds 0 (Value.ref h.objs.size))
 have fin:Q .none ⟨(h.push { cls:=.type "tuple",data:=.seq ([V]:List Value).toArray }).update e (Obj.mapFields (·.setIfInBounds 0 (.ref h.objs.size))),g,d,t,os⟩:=by
  refine hq _ h.objs.size (fun b o hb e1=>?_) (Heap.get?_update_self _ he1 (Obj.isFreed_of_fields hd3))
  rw [Heap.get?_update_other _ _ (Ne.symm hb)]
  exact Heap.get?_push_of_some _ e1
 cases old with
 | ref o =>
  exact wpAny_letGo (wpAny_pure fin)
 | _=>exact wpAny_pure (wpAny_pure fin)
end
end Og
end
section
open PySem PySem.W PySem.Calls PySem.Builtin PySem.Builtin.ObjectAttr
namespace Og
section
variable{prog:Program}{w:World}{A:Around}{E:Value→Shared→Prop}{R:Result→Shared→Prop}{h:Heap}{g:Array GenState}{d:Drawn}{t:Nat}{os:OsState}
variable{xc:XC}{name:PySem.Str}{C CL x:Addr}{mA:PySem.Str→Option Value}{v:Value}{K:Frag}
theorem qZ(self:Value):refuseLoop self "__setattr__" (.ref C::jX CL)=pure ():=by
 rw [refuseLoop_ref,refuseLoop_ref]
 exact PySem.F.store_Exception.passes self
noncomputable def i5(h h':Heap)(x:Addr):Prop :=
 (∀b o,b≠x→(∀o₀ dx,h.get? x=some o₀→o₀.dict=some dx→b≠dx)→h.get? b=some o→h'.get? b=some o) ∧
 (∀o₀,h.get? x=some o₀→∃o₁,h'.get? x=some o₁∧o₁.cls=o₀.cls∧o₁.data=o₀.data∧o₁.slots=o₀.slots∧(∀dx,o₀.dict=some dx→o₁.dict=some dx)∧(o₀.dict=none→∃dx,o₁.dict=some dx∧h.get? dx=none))
theorem OX{tk:Tok}{Q:PySem.Fin→Shared→Prop}{ns:List PySem.Str}
  (hC:h.get? C=some (xc.o C CL true)) (X:K.In h) (hf:findIn K (.ref C) name=some none) (I:h.Inst x C mA)
  (hq:∀h' tk',h'.Inst x C (fun y=>if y=name then some v else mA y)→i5 h h' x→Q (.done (.ret .none)) ⟨h',g,d,tk',os⟩) (hw:Within mA ns) (hsz:ns.length≤sizeLine) :
  wpAny (model prog w) A (Builtin.«object.__setattr__» ⟨[.ref x,.str name tk,v],[]⟩) Q E ⟨h,g,d,t,os⟩:=by
 have I0:=I
 refine Og.LR I fun o hx hc hnc hd=>?_;clear I
 have hpass:=qZ (C:=C) (CL:=CL) (.ref x)
 have hlk:=looks_findIn (M:=model prog w) X hf
 unfold Builtin.«object.__setattr__»
 repeat (first | rw [refuse_eq] | (rw [hpass]) | (with_reducible refine wpAny_loadPart_at hx ?_;rw [hc]) | with_reducible refine wpAny_mroOf_exc hC ?_ | with_reducible refine hlk.here ?_ | wp_step)
 rcases hd with ⟨hdn,hmA⟩ | ⟨dx,hdx,hne,hns⟩
 ·rw [hdn,if_neg (by simp [typeHasDict])]
  split
  ·rename_i hcd
   exists hcd
  split
  ·rename_i c hcd
   exact absurd hcd (hnc c)
  ·have hx₁:(h.push { cls:=.type "dict",data:=.dict #[] }).get? x=some o:=Heap.get?_push_of_some _ hx
   have hxs:x≠h.objs.size:=Nat.ne_of_lt (Heap.lt_size hx)
   refine wpAny_bind (wpAny_alloc' ?_)
   refine wpAny_bind (wpAny_update' hx₁ ?_)
   refine wpAny_pure ?_
   have hgd:((h.push { cls:=.type "dict",data:=.dict #[] }).update x fun o=>{ cls:=o.cls,dict:=some h.objs.size,data:=o.data,slots:=o.slots }).get? h.objs.size
     = some { cls:=.type "dict",data:=.dict #[] } :=
    (Heap.get?_update_ne _ _ _ _ hxs.symm).trans (Heap.get?_push_at rfl rfl)
   have hnd:((h.push { cls:=.type "dict",data:=.dict #[] }).update x fun o=>{ cls:=o.cls,dict:=some h.objs.size,data:=o.data,slots:=o.slots }).Ns h.objs.size (fun _=>none) :=
    ⟨_,#[],_,hgd,rfl,fun e he=>absurd he (by simp),fun _=>rfl⟩
   show wpAny _ _ (storeInDict h.objs.size (.str name tk) name v) _ _ _
   unfold storeInDict newKeyGuard
   refine wpAny_bind (wpAny_pure (wpAny_bind (wpAny_nsSet1 (Heap.Ns1.of_empty hnd) fun h' hn' hs=>?_)))
   refine Og.IK (hn'.count (Within.cons name v Within.nil)) fun oD esD epD hoD hdD hcD=>?_
   refine wpAny_bind (wpAny_lookBehind hoD (by rw [hdD];exact pastItsLine_dict (Nat.le_trans hcD (by rw [List.length_cons,List.length_nil,sizeLine_eq];lia))) ?_)
   wp_walk
   have hx':h'.get? x=some { cls:=o.cls,dict:=some h.objs.size,data:=o.data,slots:=o.slots }:=?_
   refine hq h' _ ⟨{ cls:=o.cls,dict:=some h.objs.size,data:=o.data,slots:=o.slots },hx',hc,hnc,.inr ⟨h.objs.size,rfl,hxs.symm,?_⟩⟩ ⟨fun b ob hbx _ hb=>?_,
    fun o₀ h₀=>by obtain rfl:o=o₀:=Option.some.inj (hx.symm.trans h₀);exact⟨_,hx',rfl,rfl,rfl,(fun dx e=>by rw [hdn] at e;exists e),fun _=>⟨h.objs.size,rfl,Heap.get?_none_of_le (Nat.le_refl _)⟩⟩⟩
   ·refine Og.sV hn' fun o' es ep e1 e2 e3 eu e4=>?_
    exact⟨o',es,ep,e1,e2,e3,eu,fun y=>by rw [e4 y];by_cases hy:y=name<;>simp [hy,hmA]⟩
   ·exact(hs.2 b (Nat.ne_of_lt (Heap.lt_size hb))).trans ((Heap.get?_update_ne _ _ _ _ hbx).trans (Heap.get?_push_of_some _ hb))
   ·refine(hs.2 x hxs).trans (Heap.get?_update_self _ hx₁ ?_)
    have hfr:=(Heap.get?_some_iff.mp hx).2
    obtain⟨oc,od,odt,osl⟩:=o
    exists odt<;>first | rfl | exact hfr
 ·rw [hdx]
  refine wpAny_pure ?_
  show wpAny _ _ (storeInDict dx (.str name tk) name v) _ _ _
  unfold storeInDict newKeyGuard
  refine wpAny_bind (wpAny_pure (wpAny_bind (wpAny_nsSet1 hns fun h' hn' hs=>?_)))
  refine Og.IK (hn'.count (Within.cons name v hw)) fun oD esD epD hoD hdD hcD=>?_
  refine wpAny_bind (wpAny_lookBehind hoD (by rw [hdD];exact pastItsLine_dict (Nat.le_trans hcD (by rw [List.length_cons];lia))) ?_)
  wp_walk
  refine hq h' _ ⟨o,(hs.2 x hne.symm).trans hx,hc,hnc,.inr ⟨dx,hdx,hne,hn'⟩⟩ ⟨fun b ob _ hbd hb=>?_,
   fun o₀ h₀=>⟨o₀,(hs.2 x hne.symm).trans h₀,rfl,rfl,rfl,(fun _ e=>e),fun e=>by obtain rfl:o=o₀:=Option.some.inj (hx.symm.trans h₀);rw [hdx] at e;cases e⟩⟩
  exact(hs.2 b (hbd o dx hx hdx)).trans hb
theorem Y5{M:Model}{o:Obj}{nameV:Value}{Q:Unit→Shared→Prop}
  (hC:h.get? C=some (xc.o C CL true)) (hx:h.get? x=some o) (hc:o.cls=.ref C) (hq:Q () ⟨h,g,d,t,os⟩) :
  wpAny M A (checkBuiltinCall "object.__setattr__" ⟨[.ref x,nameV,v],[]⟩) Q E ⟨h,g,d,t,os⟩:=by
 obtain⟨oc,od,oda,osl⟩:=o
 dsimp only at hc
 subst hc
 exact P5 30 [⟨.ref C,od,oda,osl⟩,xc.o C CL true] (And.intro hx<|And.intro hC hq) (by kernel_rfl!)
theorem Q1{Q:Unit→Shared→Prop}{ns:List PySem.Str}
  (hC:h.get? C=some (xc.o C CL true)) (X:K.In h) (hs:findIn K (.ref C) "__setattr__"=some (some (.builtin "object.__setattr__"))) (hf:findIn K (.ref C) name=some none) (I:h.Inst x C mA)
  (hq:∀h' tk',h'.Inst x C (fun y=>if y=name then some v else mA y)→i5 h h' x→Q () ⟨h',g,d,tk',os⟩) (hw:Within mA ns) (hsz:ns.length≤sizeLine) :
  wpAny (model prog w) A (setAttr (.ref x) name v) Q E ⟨h,g,d,t,os⟩:=by
 have SF:=PySem.F.store_Exception
 have I0:=I
 refine Og.H8 I fun o hx hc _=>?_;clear I
 have f3:=SF.slot.bind (.ref x)
 have hlk:=looks_findIn (M:=model prog w) X hs
 unfold setAttr callSpecial? specialOf
 repeat (any_goals (first | assumption | (with_reducible refine wpAny_loadPart_at hx ?_;rw [hc]) | with_reducible refine hlk.here ?_ | wp_step))
 refine codeAny_call_builtin SF.slot.plain SF.entry (Y5 hC hx hc (OX hC X hf I0 (fun h' tk' I' hk=>?_) hw hsz))
 repeat (any_goals (first | assumption | wp_step))
 exact hq h' tk' I' hk
end
end Og
end
section
open PySem PySem.W PySem.Calls PyProof.Rows PySem.SeqAt
namespace Og
structure OI(c:Cx):Prop where
 obj:∃xc:XC,c.hs.get? 84=some (xc.o 84 47 true)
 init:findIn c.K (.ref 84) "__init__"=some (some (.ref (c.fa 70)))
 ty:typeIn c.K (.ref (c.fa 70))=some (.type "function")
 set:findIn c.K (.ref 84) "__setattr__"=some (some (.builtin "object.__setattr__"))
 what:findIn c.K (.ref 84) JZ=some none
 at_:findIn c.K (.ref 84) xX=some none
 fault:∀g,N0.gk g=some .fault→c.mg g=some (.ref 84)
 keep:keepIn c.K (.ref 84)=true
 exc:c.mg JY=none∧c.mb JY=some (.type "Exception")
 fn:∃fd body dv,XT c 70 [9,106,66] [.tup [.int 0,.int 0]] fd body dv∧ExcBody fd.scope body
theorem BU.many{c:Cx}{s:Shared}{r:List Addr}{H:AH}{W:Addr→Prop}(F:B5 c s r W)(S:SR c s r H){h':Heap}(k:∀a o,a≠c.L→¬W a→s.heap.get? a=some o→h'.get? a=some o)(hn:h'.Ns c.L c.mc)(t:Nat):BU c W s r H H { s with heap:=h',toks:=t } r:=by
 have ns:∀a,a∈r→a≠c.L:=fun a m z=>S.notStat (z▸m)
 have nb:∀a,a∈r→¬W a:=fun a m z=>F.nr a z m
 have tp:∀a o,s.heap.get? a=some o→AF o→h'.get? a=some o:=fun a o e to=>k a o (S.notTup e to).1 (fun z=>F.nt a o z e to) e
 refine⟨⟨fun a o z e=>k a o z (fun z=>?_) (S.keep a o z e),hn,S.len,fun i o e=>?_,S.nodup,S.fresh,S.gens,S.os⟩,List.prefix_refl r,fun a o z n e m=>k a o z n e,fun _ m=>.inl m,fun i n es a e ea=>⟨n,es,e,Nat.le_refl _,fun _=>?_⟩⟩
 ·rw [F.hs a z] at e;exists e
 ·refine Og.BV (S.obj i o e) fun a ob e1 e2 e3=>?_
  have m:=List.mem_of_getElem? e1
  exact⟨a,ob,e1,k a ob (ns a m) (nb a m) e2,e3.mono tp (List.prefix_refl r)⟩
 ·have m:=List.mem_of_getElem? ea
  refine Og.FG (S.has m) fun _ _ ob _ _ q _=>?_
  show h'.get? a=s.heap.get? a
  rw [q];exact k a ob (ns a m) (nb a m) q
section
variable{c:Cx}{A:Around}{s s₁:Shared}{r:List Addr}{H:AH}{env:Env}{σ:Env'}{e:Addr}
theorem mF(XK:OI c)(F:FR c s r env σ)(S:SR c s r H)(hg:AS env.scope JY=true){pos:Pos}{Q:Value→Shared→Prop}{E:Value→Shared→Prop}(q:Q (.type "Exception") s):wpAny (model c.prog c.w) A (eval (.Name JY pos) env) Q E s:=by
 refine wpAny_Name ?_ (by decide +kernel)
 have hx:env.kindOf JY=some .globalImplicit:=by
  unfold AS at hg
  split at hg
  ·assumption
  ·exists hg
 rw [loadName_read F.kind hx]
 have G:s.heap.Ns env.globals c.mg:=by
  rw [F.globals]
  exact S.G
 have B:s.heap.Ns env.builtins c.mb:=by
  rw [F.builtins]
  exact S.B
 exact loadGlobal_builtin G XK.exc.1 B XK.exc.2 q
noncomputable def vW(h:Heap)(e:Addr):Prop:=∃a0 dx sl,h.get? e=some ⟨.ref 84,dx,.fields #[a0,.none,.none,.none,.bool false,.none],sl⟩
theorem r0(S:SR c s r H)(x:∃o,s.heap.get? e=some o∧o.cls=.ref 84)(hs:c.hs.get? e=none)(nr:e∉r):B5 c s r (fun a=>a=e) :=
 ⟨fun _ z=>z▸hs,fun _ z=>z▸nr,fun a o z q t=>by
  refine Og.AB x fun o' q' cl=>?_;clear x
  subst z
  rw [q] at q';exists q'
  have:=t.1
  rw [cl] at this
  cases this⟩
theorem aB(S:SR c s r H){a:Addr}(h:s.heap.get? a=none):c.hs.get? a=none:=by
 cases q:c.hs.get? a with
 | none=>rfl
 | some o =>
  by_cases z:a=c.L
  ·refine Og.ES S.stat fun o' _ _ e' _=>?_
   rw [z,e'] at h;exists h
  ·rw [S.keep a o z q] at h;exists h
theorem L9(S:SR c s r H){a:Addr}(h:s.heap.get? a=none):a∉r:=fun m=>by
 refine Og.FG (S.has m) fun _ _ ob _ _ q _=>?_
 rw [h] at q;exists q
theorem O7{s2:Shared}(S1:SR c s₁ r H)(F1:FR c s₁ r env σ)(x:∃o,s₁.heap.get? e=some o∧o.cls=.ref 84)(hs:c.hs.get? e=none)(nr:e∉r)(no:∀a,CC env a→a≠e){W:Addr→Prop}(hW:∀a,W a→a=e∨(c.hs.get? a=none∧a∉r∧¬CC env a∧∀o,s₁.heap.get? a=some o→¬AF o))
  {h':Heap} (k:∀a o,¬W a→s₁.heap.get? a=some o→h'.get? a=some o) {t:Nat} (es:s2={ s₁ with heap:=h',toks:=t }):BU c W s₁ r H H s2 r∧FR c s2 r env σ:=by
 subst es
 have A0:=r0 S1 x hs nr
 have A1:B5 c s₁ r W:=⟨fun a w=>(hW a w).elim (A0.hs a) (·.1),fun a w=>(hW a w).elim (A0.nr a) (·.2.1),fun a o w q=>(hW a w).elim (fun z=>A0.nt a o z q) (fun z=>z.2.2.2 o q)⟩
 have hn:h'.Ns c.L c.mc:=CY S1.stat fun o q=>k _ o (fun w=>A1.notStat w rfl) q
 have G:=BU.many A1 S1 (W:=W) (fun a o _ w q=>k a o w q) hn t
 exact⟨G,F1.gof S1 G A1 fun a o w=>(hW a w).elim (no a o) fun z=>z.2.2.1 o⟩
end
theorem mG:findCls [] (.type "Exception") (.type "type") fJ=some (.val (.builtin "Exception.__init__")):=by kernel_rfl!
theorem vX{h:Heap}:Frag.In [] h:=fun _ _ e=>(by exists e)
theorem rA:typeOf (.type "Exception")=pure (.type "type"):=by kernel_rfl!
theorem i6:Manifest.isStub "Exception"=false:=by decide +kernel
section
variable{c:Cx}{A:Around}{s s₁ s0:Shared}{r:List Addr}{H:AH}{env:Env}{σ:Env'}{e:Addr}{k:Nat}
theorem Go.same_r{s':Shared}{r':List Addr}(G:Go c s r H H s' r')(S:SR c s r H):r'=r:=(List.IsPrefix.eq_of_length G.pre (by rw [S.len,G.sr.len])).symm
theorem cL(L:CP c T0 N0)(Fs:AY c T0 N0)(XK:OI c)(R:AR 20 A){h1:Heap}{V:Value}(S0:SR c s0 r H)(hm:Heap.MadeExcOf s0.heap h1 e (.ref 84) [V])
  (S1:SR c s₁ r H) (F1:FR c s₁ r env σ) (k1:∀b o,h1.get? b=some o→s₁.heap.get? b=some o) (no:∀a,CC env a→h1.get? a=none) (l1:AG 9 σ=some (.addr e)) (l2:AG 106 σ=some .top) (l3:AG 66 σ=some (.tup [.int 0,.int 0]))
  {b:List Stmt} (B:ExcBody env.scope b) (Q:Flow→Shared→Prop) (E:Value→Shared→Prop) (q:∀s',BU c (fun a=>CC env a∨h1.get? a=none∨a=e) s₁ r H H s' r→vW s'.heap e→Q .next s') :
  wpAny (model c.prog c.w) A (execs b env) Q E s₁:=by
 have D:=HW L Fs 20
 cases B with | @mk u1 ap v1 v2 p q1 v3 w1 v4 q2 v5 w2 v6 q3 b1 b2 b3 b4 b5 =>
 have kk:∀b o,s0.heap.get? b=some o→s₁.heap.get? b=some o:=fun b o q=>k1 b o (hm.keeps b o q)
 have hE:c.hs.get? e=none:=aB S0 hm.new
 have nE:e∉r:=L9 S0 hm.new
 have nrm:∀a,h1.get? a=none→a∉r:=fun a z=>L9 S0 (by
  cases q:s0.heap.get? a with
  | none=>rfl
  | some o=>rw [hm.keeps a o q] at z;exists z)
 have nhs:∀a,h1.get? a=none→c.hs.get? a=none:=fun a z=>aB S0 (by
  cases q:s0.heap.get? a with
  | none=>rfl
  | some o=>rw [hm.keeps a o q] at z;exists z)
 obtain⟨t,ht,_,_⟩:=hm.there
 have noE:∀a,CC env a→a≠e:=fun a o z=>by
  rw [z] at o
  have:=no e o
  rw [ht] at this;exists this
 have hwAll:∀a,(h1.get? a=none∨a=e)→a∉r:=fun a w=>w.elim (nrm a) fun z=>z▸nE
 obtain⟨xc,hC⟩:=XK.obj
 have cls:∀{s:Shared},SR c s r H→s.heap.get? 84=some (xc.o 84 47 true):=fun S=>S.keep 84 _ (Cx.ne (by decide) (by decide)) hC
 have eV:∀{s:Shared} {E:Value→Shared→Prop} {Q:Value→Shared→Prop} {v:Pos} {x:Nat} {av:AV},SR c s r H→FR c s r env σ→ET env.scope (FH x)=true→AG x σ=some av→(∀X s',Go c s r H H s' r→VR c.hs s'.heap r av X→Q X s')→wpAny (model c.prog c.w) A (eval (.Name (FH x) v) env) Q E s:=fun {s E Q v x av} S F b l q=>by
  refine(D.e R S F (ME.mkVar (N:=N0) (x:=x) b) (v:=av) (H':=H) (by show(AG x σ).map _=_;rw [l];rfl)).go fun X s' r' G y=>?_
  have:=G.same_r S
  subst this
  exact q X s' G y
 have mes:JO N0 env.scope [.var 9,.var 106] [.Name (FH 9) v1,.Name (FH 106) v2]:=.cons ⟨(fun _ _ h=>nomatch h),ME.mkVar (N:=N0) (x:=9) b3⟩ (.cons ⟨(fun _ _ h=>nomatch h),ME.mkVar (N:=N0) (x:=106) b4⟩ .nil)
 refine wpAny_execs_cons (US (PU rfl b2 (by show 2<30;decide) (CU mes).2 (mF XK F1 S1 b1 fun pl=>?_)) (by unfold interactive;rw [F1.kind];rfl) (by rfl))
 with_reducible refine PySem.W.method_type (K:=[]) S1.fr vX rA i6 mG (by decide +kernel) ?_
 have S2:=S1.toks (s₁.toks+1)
 have G2:Go c s₁ r H H { s₁ with toks:=s₁.toks+1 } r:=Go.tok S1 _
 have F2:=F1.go S1 G2
 refine JG (c:=c) (r:=r) (H:=H) (first:=[]) (sc:=env.scope) (l:=[.var 9,.var 106]) (vs:=[.addr e,.top]) (H':=H) (N:=N0) mes ?_ fun Vs s3 r3 G3 y3=>?_
 ·exact D.es _ R S2 F2 mes (by
   show J1 (ev T0 19) [.var 9,.var 106] σ H=_
   have u1:(ev T0 19).e (.var 9) σ H=some (.addr e,H):=by show(AG 9 σ).map _=_;rw [l1];rfl
   have u2:(ev T0 19).e (.var 106) σ H=some (.top,H):=by show(AG 106 σ).map _=_;rw [l2];rfl
   show CD _ _=_
   rw [u1]
   show CD (CD _ _) _=_
   rw [u2]
   rfl)
 have z3:=(G3.same_r S2).symm
 subst z3
 refine AJ.e2 y3 fun X1 X2 x1 x2=>?_
 exists x1
 have F3:=F2.go S2 G3
 have G13:=G2.trans G3
 have e3:s3.heap.get? e=some { cls:=.ref 84,data:=.fields #[.ref t,.none,.none,.none,.bool false,.none] }:=G13.evo.keep e _ (fun z=>by
   obtain⟨o,_,_,q,_⟩:=c.stat
   rw [z,q] at hE;exists hE) (k1 _ _ ht) nE
 obtain⟨h3,g3,d3,t3,os3⟩:=s3
 refine qY (cls G3.sr) e3 rfl rfl rfl fun h4 tt k4 e4=>?_
 obtain⟨G4,F4⟩:=O7 (W:=fun a=>a=e) G3.sr F3 ⟨_,e3,rfl⟩ hE nE noE (fun a w=>.inl w) (fun a o w q=>k4 a o w q) (t:=t3) rfl
 refine wpAny_execs_cons (plainObj_wpAny_Assign_Attribute (eV G4.sr F4 b4 l2 fun X s5 G5 y5=>?_) (IH _ _ _ _ _ _))
 have F5:=F4.go G4.sr G5
 refine eV G5.sr F5 b3 l1 fun X6 s6 G6 y6=>?_
 exists y6
 have F6:=F5.go G5.sr G6
 have G56:=G5.trans G6
 have e6:=G56.evo.keep e _ (fun z=>by
   obtain⟨o,_,_,q,_⟩:=c.stat
   rw [z,q] at hE;exists hE) e4 nE
 obtain⟨h6,g6,d6,t6,os6⟩:=s6
 refine Q1 (mA:=fun _=>none) (ns:=[]) (cls G6.sr) G6.sr.X XK.set XK.what ⟨_,e6,rfl,(fun _ z=>by exists z),.inl ⟨rfl,fun _=>rfl⟩⟩ (fun h7 t7 I7 st7=>?_) Within.nil (by decide)
 obtain⟨o7,e7,c7,dd7,sl7,_,n7⟩:=st7.2 _ e6
 obtain⟨dx,ex,fx⟩:=n7 rfl
 obtain⟨G7,F7⟩:=O7 (W:=fun a=>a=e) G6.sr F6 ⟨_,e6,rfl⟩ hE nE noE (fun a w=>.inl w) (fun a o w q=>st7.1 a o w (fun o₀ d1 q1 q2=>by rw [e6] at q1;exists q1;exists q2) q) (t:=t7) rfl
 obtain⟨oc,od,oda,osl⟩:=o7
 dsimp only at c7 dd7 sl7 ex
 subst c7 dd7 sl7 ex
 have dxe:dx≠e:=fun z=>by
  rw [z,e6] at fx;exists fx
 refine wpAny_execs_cons (plainObj_wpAny_Assign_Attribute (eV G7.sr F7 b5 l3 fun X8 s8 G8 y8=>?_) (IH _ _ _ _ _ _))
 have F8:=F7.go G7.sr G8
 refine eV G8.sr F8 b3 l1 fun X9 s9 G9 y9=>?_
 exists y9
 have F9:=F8.go G8.sr G9
 have G89:=G8.trans G9
 have hst:e≠c.L:=fun z=>by
   obtain⟨o,_,_,q,_⟩:=c.stat
   rw [z,q] at hE;exists hE
 have e9:=G89.evo.keep e _ hst e7 nE
 have xr:dx∉r:=L9 G6.sr fx
 have xh:c.hs.get? dx=none:=aB G6.sr fx
 have xs:dx≠c.L:=fun z=>by
   obtain⟨o,_,_,q,_⟩:=c.stat
   rw [z,q] at xh;exists xh
 obtain⟨oI,eI,_,_,dI⟩:=I7
 have eI':h7.get? e=some oI:=eI
 rw [e7] at eI'
 exists eI'
 have nsx:h7.Ns1 dx (fun y=>if y=JZ then some X else none):=by
  rcases dI with ⟨z,_⟩ | ⟨dz,z,_,n⟩
  ·exists z
  ·exists z;exact n
 have keepX:∀ob,h7.get? dx=some ob→s9.heap.get? dx=some ob:=fun ob q=>G89.evo.keep dx ob xs q xr
 have nsx9:s9.heap.Ns1 dx (fun y=>if y=JZ then some X else none):=by
  obtain⟨o',es,ep,q1,q2⟩:=nsx
  exact⟨o',es,ep,keepX _ q1,q2⟩
 have nox:∀a,CC env a→a≠dx:=fun a o z=>by
  obtain⟨ob,q⟩:=F6.has o
  rw [z,fx] at q;exists q
 obtain⟨h9,g9,d9,t9,os9⟩:=s9
 refine Q1 (mA:=fun y=>if y=JZ then some X else none) (ns:=[JZ]) (cls G9.sr) G9.sr.X XK.set XK.at_ ⟨_,e9,rfl,(fun _ z=>by exists z),.inr ⟨dx,rfl,dxe,nsx9⟩⟩ (fun h10 t10 I10 st10=>?_) (Within.cons JZ X Within.nil) (by decide)
 obtain⟨o10,e10,c10,dd10,sl10,k10,_⟩:=st10.2 _ e9
 obtain⟨G10,F10⟩:=O7 (W:=fun a=>a=e∨a=dx) G9.sr F9 ⟨_,e9,rfl⟩ hE nE noE (fun a w=>w.imp id fun(z:a=dx)=>⟨by rw [z];exact xh,by rw [z];exact xr,fun o=>nox a o z,fun o q tt=>by
   obtain⟨_,_,_,tq⟩:=tt
   obtain⟨o',es,ep,q1,q2,_⟩:=nsx9
   have q:h9.get? a=some o:=q
   rw [z] at q
   rw [q] at q1;exists q1
   rw [tq] at q2;cases q2⟩) (fun a o w q=>st10.1 a o (fun z=>w (.inl z)) (fun o₀ d1 q1 q2=>by
   have q1:h9.get? e=some o₀:=q1
   rw [e9] at q1;exists q1;exists q2
   exact fun z=>w (.inr z)) q) (t:=t10) rfl
 have fin:vW h10 e:=by
  obtain⟨oc,od,oda,osl⟩:=o10
  dsimp only at c10 dd10 sl10
  subst c10 dd10
  exact⟨_,_,_,e10⟩
 refine wpAny_execs_nil (q _ ?_ fin)
 have up:∀{a},a=e∨a=dx→(CC env a∨h1.get? a=none∨a=e):=fun {a} w=>w.elim (fun z=>.inr (.inr z)) fun z=>.inr (.inl (by
   subst z
   cases q:h1.get? a with
   | none=>rfl
   | some o =>
    exfalso
    have z1:=k1 a o q
    have z2:=(G13.evo.keep a o xs z1 xr)
    have z3:=k4 a o dxe z2
    have z4:=G56.evo.keep a o xs z3 xr
    rw [fx] at z4;exists z4))
 have nw:∀a,(CC env a∨h1.get? a=none∨a=e)→a∉r:=fun a w=>w.elim (F1.notIn a) fun w=>w.elim (nrm a) fun z=>z▸nE
 have A1:=((Go.f G13).trans (G4.widen fun a w=>up (.inl w)) nw)
 have A2:=(A1.trans (Go.f G56) nw).trans (G7.widen fun a w=>up (.inl w)) nw
 exact(A2.trans (Go.f G89) nw).trans (G10.widen fun a w=>up w) nw
end
section
variable{c:Cx}{A:Around}{s s₁ s0:Shared}{r:List Addr}{H:AH}{env:Env}{σ:Env'}{e:Addr}{k:Nat}
theorem i7(L:CP c T0 N0)(Fs:AY c T0 N0)(XK:OI c)(R:AR 25 A)(S:SR c s r H){V:Value}{Q:Value→Shared→Prop}{E:Value→Shared→Prop}(q:∀e s',s.heap.get? e=none→vW s'.heap e→Go c s r H H s' r→Q (.ref e) s'):
  wpAny (model c.prog c.w) A (call (.ref 84) [V]) Q E s:=by
 refine Og.AI XK.obj fun xc hC=>?_
 have cls:=S.keep 84 _ (Cx.ne (by decide) (by decide)) hC
 have X:=S.X
 obtain⟨h,g,d,t,os⟩:=s
 refine Y4 cls (looks_findIn X XK.init) (fun self=>bind_fn X self XK.ty) (fun h1 e hm=>?_) (by show 1≤sizeLine;decide)
 have G1:Go c ⟨h,g,d,t,os⟩ r H H ⟨h1,g,d,t,os⟩ r:=Go.grow S hm.keeps t
 refine Og.ES XK.fn fun fd body dv Fn B=>?_
 refine Og.AB (XV Fn G1.sr) fun ob eo ed=>?_
 have R':AR 24 (A.under (.builtin "type.__call__" ⟨.ref 84::[V],[]⟩)):=R.make
 have y:AJ c.hs h1 r [.addr e,.top] [.ref e,V]:=.cons (.addr e) (.cons (.top V) .nil)
 have hb:CQ [9,106,66] [.tup [.int 0,.int 0]] [.addr e,.top]=some [(9,.addr e),(106,.top),(66,.tup [.int 0,.int 0])]:=rfl
 refine wpAny_call (HU (by have:=R'.depth;show Around.depth _<1000;lia) eo ed G1.sr.nolimit (GO Fn.code rfl G1.sr.keep) Fn.body (Fn.bind _ [.ref e,V] G1.sr.keep (by show 2≤3;decide) (by show 3-2≤1;decide)) Fn.clo (JI Fn) (fun s1 I=>?_) Fn.co Fn.gen Fn.kind)
 refine Og.BB (JH Fn G1.sr y hb I) fun G2 F2 fr=>?_
 refine cL (s0:=⟨h,g,d,t,os⟩) (V:=V) L Fs XK ((R'.le (by decide:21≤24)).deeper _) S hm G2.sr F2 I.toInCall.keep fr rfl rfl rfl B _ _ fun s' G3 x=>⟨rfl,?_⟩
 refine q e s' hm.new x ((((Go.f (G1.trans G2)).trans G3 fun a w=>?_)).go fun a w=>?_)
 ·rcases w with w | w | w
  ·exact F2.notIn a w
  ·exact L9 S (by
    cases q:h.get? a with
    | none=>rfl
    | some o=>rw [hm.keeps a o q] at w;exists w)
  ·exact w▸L9 S hm.new
 ·rcases w with w | w | w
  ·have:=fr a w
   show h.get? a=none
   cases q:h.get? a with
   | none=>rfl
   | some o =>
    have z:h1.get? a=some o:=hm.keeps a o q
    rw [this] at z;exists z
  ·show h.get? a=none
   cases q:h.get? a with
   | none=>rfl
   | some o=>rw [hm.keeps a o q] at w;exists w
  ·exact w▸hm.new
theorem mH{M:Model}{env:Env}{s:Shared}{x:Sem Value}{Q:Flow→Shared→Prop}{E:Value→Shared→Prop}{xc:XC}{CL:Addr}{hd:Bool}(hh:A.handled=none)
  (h:wpAny M A x (fun v s₁=>∃e,v=.ref e∧s₁.heap.get? 84=some (xc.o 84 CL hd)∧vW s₁.heap e∧E (.ref e) s₁) E s) :
  wpAny M A (raiseStmt env (some x) none) Q E s:=by
 have hcB:=mC 84 CL
 unfold raiseStmt
 refine wpAny_bind (wpAny_mono h (fun v s₁ h₁=>?_) fun _ _ x=>x)
 obtain⟨e,rfl,hC,⟨a0,dx,sl,he⟩,hE⟩:=h₁
 obtain⟨hp,g,d,tk,os⟩:=s₁
 repeat (first | with_reducible refine wpAny_loadPart_at he ?_ | with_reducible refine wpAny_loadPart_at hC ?_ | (with_reducible refine wpAny_isSubtype_exc hC ?_;rw [hcB]) | wp_step)
 exact wpAny_raiseNew_none hh hE
end
noncomputable def O8(c:Cx)(s:Shared)(r:List Addr)(l:List Env):Prop:=∀env∈l,FR c s r env []∧env.frame=some env.locals
noncomputable def aC(l:List Env)(a:Addr):Prop:=∃env∈l,a=env.locals
structure cM(c:Cx)(s₁:Shared)(r₁:List Addr)(B:Heap)(F:List Addr)(s':Shared):Prop where
 sub:∀b o,s₁.heap.get? b=some o→b∉F→B.get? b=some o
 fr:∀b∈F,b∉r₁∧c.hs.get? b=none∧∃m,s₁.heap.Ns b m
 up:s₁.heap.UpToSlots s'.heap
 gens:s'.gens=s₁.gens
 os:s'.os=s₁.os
theorem cM.next{c:Cx}{s₁:Shared}{r₁:List Addr}{B:Heap}{F:List Addr}{s':Shared}(x:cM c s₁ r₁ B F s'){h':Heap}(k:s'.heap.UpToSlots h'):cM c s₁ r₁ B F { s' with heap:=h' }:=⟨x.sub,x.fr,x.up.trans k,x.gens,x.os⟩
noncomputable def OY(c:Cx)(P:Addr→Prop)(env:Env)(outer:List Env)(s₁:Shared)(r₁:List Addr)(ea:Addr)(s':Shared):Prop :=
 s₁.heap.get? ea=none∧((vW s'.heap ea∧(∀b o,s₁.heap.get? b=some o→s'.heap.get? b=some o)∧s'.gens=s₁.gens∧s'.os=s₁.os) ∨
  ∃B F a0,cM c s₁ r₁ B F s'∧(∀b∈F,P b)∧(Heap.FlyingW B (env::outer) ea (.ref 84) a0 s'.heap∨Heap.HeldW B (env::outer) ea (.ref 84) a0 env.locals s'.heap))
noncomputable def LJ(c:Cx)(P:Addr→Prop)(outer:List Env)(s₁:Shared)(r₁:List Addr)(ea:Addr)(s':Shared):Prop :=
 s₁.heap.get? ea=none∧∃B F a0,cM c s₁ r₁ B F s'∧(∀b∈F,P b)∧Heap.FlyingW B outer ea (.ref 84) a0 s'.heap
theorem LJ.flew{c:Cx}{P:Addr→Prop}{env:Env}{outer:List Env}{s₁:Shared}{r₁:List Addr}{ea:Addr}{s':Shared}(x:LJ c P (env::outer) s₁ r₁ ea s'):OY c P env outer s₁ r₁ ea s':=by
 obtain⟨f,B,F,a0,u,p,y⟩:=x
 exact⟨f,.inr ⟨B,F,a0,u,p,.inl y⟩⟩
section
variable{c:Cx}{M:Model}{A:Around}{s s₁ s':Shared}{r r₁:List Addr}{H H₁:AH}{env:Env}{outer:List Env}{ea:Addr}{P:Addr→Prop}{Q:Unit→Shared→Prop}{E:Value→Shared→Prop}
theorem mI{h:Heap}{as:List Addr}{s:Shared}{l:List Env}(x:O8 c s r l)(k:∀b o,s.heap.get? b=some o→h.get? b=some o)(m:∀env∈l,env.locals∈as):h.FunFrames (hideAll s.heap as) l:=by
 induction l with
 | nil=>trivial
 | cons env l ih =>
  obtain⟨F,e⟩:=x env List.mem_cons_self
  refine Og.sX F.ns fun mm o es ep ho hd _=>?_
  exact⟨by rw [F.kind];decide,⟨env.locals,o,e,hideAll_none _ (m env List.mem_cons_self),k _ _ ho,fun vs q=>by exact nomatch hd.symm.trans q⟩,ih (fun e he=>x e (List.mem_cons_of_mem _ he)) fun e he=>m e (List.mem_cons_of_mem _ he)⟩
theorem Q4(Fs:O8 c s₁ r₁ (env::outer))(f:s₁.heap.get? ea=none)(k:∀b o,s₁.heap.get? b=some o→s'.heap.get? b=some o)(hg:s'.gens=s₁.gens)(ho:s'.os=s₁.os){h':Heap}(st:(hideAll s₁.heap ((env::outer).map (·.locals))).StaysIn s'.heap→s'.heap.UpToSlots h'):
  (hideAll s₁.heap ((env::outer).map (·.locals))).StaysIn s'.heap∧(hideAll s₁.heap ((env::outer).map (·.locals))).get? ea=none∧s'.heap.FunFrames (hideAll s₁.heap ((env::outer).map (·.locals))) (env::outer) ∧
   cM c s₁ r₁ (hideAll s₁.heap ((env::outer).map (·.locals))) ((env::outer).map (·.locals)) { s' with heap:=h' }∧∀b∈(env::outer).map (·.locals),aC (env::outer) b:=by
 have a1:(hideAll s₁.heap ((env::outer).map (·.locals))).StaysIn s'.heap:=fun b o q=>k b o (of_hideAll _ q)
 have a5:∀b∈(env::outer).map (·.locals),aC (env::outer) b:=fun b m=>by
  refine Og.AB (List.mem_map.mp m) fun e he hr1=>?_;subst hr1
  exact⟨e,he,rfl⟩
 refine⟨a1,?_,mI Fs k fun e he=>List.mem_map.mpr ⟨e,he,rfl⟩,⟨fun b o q n=>hideAll_get _ q n,fun b m=>?_,(Heap.UpToSlots.of_keeps k).trans (st a1),hg,ho⟩,a5⟩
 ·cases q:(hideAll s₁.heap ((env::outer).map (·.locals))).get? ea with
  | none=>rfl
  | some o=>rw [of_hideAll _ q] at f;exists f
 ·refine Og.AB (a5 b m) fun e he hr1=>?_;subst hr1
  obtain⟨F,_⟩:=Fs e he
  exact⟨F.notIn _ (.inl rfl),F.notHs _ (.inl rfl),F.ns⟩
theorem Y6(hfr:A.frames=some (env::outer))(Fs:O8 c s₁ r₁ (env::outer))(x:OY c P env outer s₁ r₁ ea s')(hP:∀b,aC (env::outer) b→P b)
  (q:∀s'',LJ c P outer s₁ r₁ ea s''→Q () s''):wpAny M A (leaving env (.ref ea)) Q E s':=by
 have hf:=(Fs env List.mem_cons_self).2
 obtain⟨f,⟨⟨a0,dx,sl,he⟩,k,hg,ho⟩ | ⟨B,F,a0,u,p,y | y⟩⟩:=x
 ·have z:=fun h' st=>Q4 (h':=h') Fs f k hg ho st
  refine Og.TB (z s'.heap fun _=>.refl _) fun b1 b2 b3 _ _=>?_
  refine wpAny_leaving_firstW (a0:=a0) hfr b3 hf he b1 b2 rfl rfl rfl fun h' hL=>?_
  obtain⟨k1,⟨_,_,k2⟩,k3,k4⟩:=hL
  refine Og.TB (z h' fun _=>k4) fun _ _ _ b4 b5=>?_
  exact q _ ⟨f,_,_,a0,b4,fun b m=>hP b (b5 b m),k1,b2,k2,k3⟩
 ·exact wpAny_leaves_onW hfr hf y fun h' y' k=>q _ ⟨f,B,F,a0,u.next k,p,y'⟩
 ·unfold leaving
  refine wpAny_bind (wpAny_noteFrame_againW hf y.2.2.2 ?_)
  refine wpAny_landsW y fun h' hfl k=>?_
  obtain⟨k1,k2,⟨_,_,k3⟩,k4⟩:=hfl
  exact q _ ⟨f,B,F,a0,u.next k,p,k1,k2,k3,k4⟩
theorem Q5(hfr:A.frames=some (env::outer))(Fs:O8 c s₁ r₁ (env::outer))(x:OY c P env outer s₁ r₁ ea s')(hP:∀b,aC (env::outer) b→P b)
  (q:∀s'',(∃B F a0,cM c s₁ r₁ B F s''∧(∀b∈F,P b)∧Heap.HeldW B (env::outer) ea (.ref 84) a0 env.locals s''.heap)→Q () s''):wpAny M A (noteFrame (.ref ea) env) Q E s':=by
 have hf:=(Fs env List.mem_cons_self).2
 obtain⟨f,⟨⟨a0,dx,sl,he⟩,k,hg,ho⟩ | ⟨B,F,a0,u,p,y | y⟩⟩:=x
 ·have z:=fun h' st=>Q4 (h':=h') Fs f k hg ho st
  refine Og.TB (z s'.heap fun _=>.refl _) fun b1 b2 b3 _ _=>?_
  unfold noteFrame
  simp only [hf]
  refine wpAny_bind (wpAny_field he rfl (x:=.none) rfl ?_)
  rw [if_neg (by decide)]
  refine wpAny_entryW (a0:=a0) hfr b3 hf he b1 b2 rfl (by show 1<6;decide) rfl fun h' hL=>?_
  refine Og.aX hL fun k1 k2 k3 k4=>?_;clear hL
  refine Og.TB (z h' fun _=>k4) fun _ _ _ b4 b5=>?_
  exact q _ ⟨_,_,a0,b4,fun b m=>hP b (b5 b m),k1,b2,k2,k3⟩
 ·exact wpAny_looks_onW hfr hf y fun h' y' k=>q _ ⟨B,F,a0,u.next k,p,y'⟩
 ·exact wpAny_noteFrame_againW hf y.2.2.2 (q _ ⟨B,F,a0,u,p,y⟩)
theorem cN(f:s₁.heap.get? ea=none)(x:∃B F a0,cM c s₁ r₁ B F s'∧(∀b∈F,P b)∧Heap.HeldW B (env::outer) ea (.ref 84) a0 env.locals s'.heap):OY c P env outer s₁ r₁ ea s':=by
 refine Og.IK x fun B F a0 u p y=>?_;clear x
 exact⟨f,.inr ⟨B,F,a0,u,p,.inr y⟩⟩
theorem cO{E:Value→Shared→Prop}(hf:env.frame=some env.locals)(x:∃B F a0,cM c s₁ r₁ B F s'∧(∀b∈F,P b)∧Heap.HeldW B (env::outer) ea (.ref 84) a0 env.locals s'.heap)
  (q:∀s'',(∃B F a0,cM c s₁ r₁ B F s''∧(∀b∈F,P b)∧Heap.HeldW B (env::outer) ea (.ref 84) a0 env.locals s''.heap)→E (.ref ea) s''):cameBackBy M A env E (.ref ea) s':=by
 refine Og.aY x fun B F a0 u p hkb hen hl ht=>?_;clear x
 obtain⟨oe,vs,T,oT,ts,he,hcls,hd,h1,hnT,hTe,hT,hdT,h3⟩:=ht
 have hsz3:3<ts.size:=(Array.getElem?_eq_some_iff.mp h3).1
 have other:∀b,b≠T→(s'.heap.update T (Obj.mapFields (·.setIfInBounds 3 ((some env.locals:Option Addr).elim Value.none fun f=>rawInt f)))).get? b=s'.heap.get? b :=
  fun b hb=>Heap.get?_update_other _ _ (Ne.symm hb)
 have noRecord:∀b o,s'.heap.get? b=some o→(∀vs,o.data≠.fields vs)→b≠T:=fun b o hb hnf q=>by
  rw [q,hT] at hb;injection hb with hb;subst hb;exact hnf ts hdT
 unfold cameBackBy
 refine wpAny_bind (wpAny_field he hd h1 ?_)
 rw [if_neg (by simp)]
 unfold setFlight
 rw [hf]
 refine wpAny_bind (wpAny_field he hd h1 ?_)
 rw [if_pos (show(Value.ref T != Value.none)=true from by simp)]
 refine wpAny_setField hT hdT hsz3 (q _ ⟨B,F,a0,u.next fun b o hb hnf=>⟨o.slots,(other b (noRecord b o hb hnf)).trans hb⟩,p,fun b o hbo=>(other b fun q=>by rw [q,hnT] at hbo;exists hbo).trans (hkb b o hbo),hen,
  hl.of_keeps fun b o hb hnf=>⟨o,(other b (noRecord b o hb hnf)).trans hb,rfl⟩,oe,vs,T,_,_,(other ea (Ne.symm hTe)).trans he,hcls,hd,h1,hnT,hTe,Heap.get?_update_self _ hT (Obj.isFreed_of_fields (Obj.data_mapFields hdT _)),Obj.data_mapFields hdT _,by simp [hsz3]⟩)
end
end Og
end
section
open PySem PySem.W PySem.Calls PyProof.Rows PySem.SeqAt
open Sem (wp)
namespace Og
section
variable{α β:Type}{M:Model}{A:Around}{E:Value→Shared→Prop}{s:Shared}{env:Env}
theorem rB{vs:List Value}{m:Sem α}{Q:α→Shared→Prop}(h:wpG M A m Q E s):wpG M A (m.keep vs) Q E s:=fun Γ p hΓ k=>by rw [Sem.wp_keep];exact h Γ p hΓ k
theorem LK{Q:Flow→Shared→Prop}(h:Q .next s):wpG M A (execs [] env) Q E s:=wpAny.g (wpAny_execs_nil h)
theorem KC{st:Stmt}{rest:List Stmt}{Q:Flow→Shared→Prop}
  (h:wpG M A (exec st env) (fun f s'=>match f with | .next=>wpG M A (execs rest env) Q E s' | f=>Q f s') E s):wpG M A (execs (st::rest) env) Q E s:=by
 rw [execs_cons]
 refine AN (CM h (fun f s' h'=>?_) fun _ _ x=>x)
 exists f<;>first | exact h' | exact AX h'
theorem A_e{test:Expr}{body orelse:List Stmt}{pos:Pos}{Q:Flow→Shared→Prop}
  (h:wpAny M A (isTrue test env (eval test env)) (fun b s₂=>if b then wpG M A (execs body env) Q E s₂ else wpG M A (execs orelse env) Q E s₂) E s) :
  wpG M A (exec (.If test body orelse pos) env) Q E s:=by
 rw [arm_exec_If]
 refine A9 (wpAny_standAt (A9 (wpAny_mono h (fun b s₂ h₂=>?_) fun _ _ x=>x)))
 exists b<;>exact h₂
theorem VK{e:Expr}{pos:Pos}{Q:Flow→Shared→Prop}(h:wpG M A (eval e env) (fun v=>Q (.ret v)) E s):wpG M A (exec (.Return (some e) pos) env) Q E s:=by
 rw [exec_Return_some]
 exact A9 (wpAny_standAt (AN (CM h (fun v s' h'=>AX h') fun _ _ x=>x)))
theorem IV{x:PySem.Str}{value:Expr}{pos' pos:Pos}{Q:Flow→Shared→Prop}
  (h:wpG M A (eval value env) (fun v s₁=>wpAny M A (storeName env x v) (fun _=>Q .next) E s₁) E s)
  (hs:swapsWith value (some (.Name x pos')) pos.line env=pure false:=by rfl):wpG M A (exec (.Assign [.Name x pos'] value pos) env) Q E s:=by
 rw [exec_Assign_Name env x pos' value pos hs]
 refine A9 (wpAny_standAt (AN (CM h (fun v s₁ h₁=>?_) fun _ _ x=>x)))
 refine wpAny.g ?_
 repeat (first | refine wpAny_bind (wpAny_standAt ?_) | refine wpAny_bind (wpAny_bindName (wpAny_mono h₁ (fun _ _ z=>wpAny_pure z) fun _ _ z=>z)))
theorem RV{func:Expr}{args:List Expr}{pos:Pos}{Q:Value→Shared→Prop}
  (h:wpAny M A (eval func env) (fun f s₁=>wpG M A (callWith pos f [] (backTo pos (starEach args env)) []) Q E s₁) E s)
  (he:eval (.Call func args [] pos) env=(do callWith pos (←eval func env) [] (backTo pos (starEach args env)) (backToKw pos (keywordEach [] env))):=by rfl) :
  wpG M A (eval (.Call func args [] pos) env) Q E s:=by
 rw [he];exact A9 h
theorem oK{α:Type}{c:Prop}[Decidable c]{a b:Sem α}{Q:α→Shared→Prop}(x:wpG M A a Q E s)(y:wpG M A b Q E s):wpG M A (if c then a else b) Q E s:=by
 by_cases h:c
 ·rw [if_pos h];exact x
 ·rw [if_neg h];exact y
theorem O9{pos:Pos}{f:Value}{first:List Value}{P:Heap→Prop}{args:List (Bool×Sem Value)}{keywords:List (Option PySem.Str×Sem Value)}{Q:Value→Shared→Prop}(hplain:(args.any (·.1)||keywords.any (·.1.isNone))=false)
  (hk:∀h,P h→∃k,(k=Keeper.frame∨k=Keeper.machine∨k=Keeper.boundFrame)∧Looks M h (keeperOf f) k)
  (h:wpAny M A (evalArgs f true args keywords) (fun a s₁=>P s₁.heap∧wpG M A (call f (first++a.pos) a.kw) Q E s₁) E s):wpG M A (callWith pos f first args keywords) Q E s:=by
 unfold callWith
 refine A9 (wpAny_holding (wpAny_mono h (fun a s₁ h₁=>A9 (wpAny_standAt ?_)) fun _ _ x=>x))
 refine Og.AB (hk _ h₁.1) fun k hk' L=>?_
 rw [hplain]
 refine A9 (L.here ?_)
 have tail:∀{t:Sem Value},wpG M A t Q E s₁→wpG M A (t>>=fun r=>holding [r] point>>=fun _=>pure r) Q E s₁ :=
  fun ht=>AN (CM ht (fun r s₂ hr=>wpAny.g (wpAny_bind (wpAny_holding (wpAny_point (wpAny_pure hr))))) fun _ _ x=>x)
 have marked (mk:Value):wpG M A (callMarked mk f (first++a.pos) a.kw) Q E s₁:=by unfold callMarked;exact rB h₁.2
 rcases hk' with rfl | rfl | rfl
 ·exact oK (c:=args.length+2*keywords.length>30) (tail h₁.2) (tail (marked _))
 ·exact tail h₁.2
 ·exact oK (c:=args.length+2*keywords.length>30) (tail h₁.2) (tail (marked _))
theorem i8{c:Code}{h:Option Value}{Q:Flow→Shared→Prop}(hk:JC c=true)
  (hc:codeG M (A.mark h) c (fun r s'=>match r with | .ok f=>Q f s' | .error e=>cameBackBy M A env E e s') s) (hnb:h≠some byPass:=by intro x;cases x):wpG M A (runOwn c env h) Q E s:=by
 unfold runOwn
 refine L0 (uM hk (NO hc fun r s' z=>?_) hnb)
 cases r with
 | ok f=>exact z
 | error e=>exact wpAny.g z
theorem oL{target iter:Expr}{body orelse:List Stmt}{pos:Pos}{Q:Flow→Shared→Prop}
  (h:wpAny M A (eval iter env) (fun x s₁=>wpAny M A (pyIter x) (fun it s₂ =>
   codeG M A (.forLoop target it body orelse env) (fun r s'=>match r with | .ok f=>Q f s' | .error e=>cameBackBy M A env E e s') s₂) E s₁) E s)
  (hs:∀x,foldedSetIterable iter env x=pure x:=by intro _;rfl):wpG M A (exec (.For target iter body orelse pos) env) Q E s:=by
 rw [exec_For]
 exact A9 (wpAny_standAt (A9 (wpAny_mono h (fun x s₁ h₁=>A9 (wpAny_of_eq (hs x) (A9 (wpAny_standAt (A9 (wpAny_holding
  (wpAny_mono h₁ (fun it s₂ h₂=>i8 rfl h₂) fun _ _ h'=>h'))))))) fun _ _ h'=>h')))
theorem mJ{m:Sem α}{Q:α→Shared→Prop}(h:wpG M A m Q (notedBy M A env E) s):wpG M A (m.onRaise fun x=>do noteFrame x env;theTreesLotGoes x) Q E s:=by
 refine L0 (CM h (fun _ _ z=>z) fun e s' z=>wpAny.g ?_)
 exact wpAny_bind (wpAny_mono z (fun _ _ y=>wpAny_theTreesLotGoes y) fun _ _ y=>y)
end
section
variable{prog:Program}{w:World}{A:Around}{s:Shared}{env:Env}{R:Result→Shared→Prop}
theorem VL{stmts:List Stmt}(h:wpAny (model prog w) A (execs stmts env) (fun f s'=>R (.ok f) s') (Nb prog w A env R) s):codeG (model prog w) A (.block stmts env) R s:=codeAny.g (codeAny_block h)
theorem Y7{target:Expr}{it:Value}{body orelse:List Stmt}
  (h:wpAny (model prog w) A (pyNext it) (fun r s₁=>match r with
   | none=>wpAny (model prog w) A (execs orelse env) (fun f s₃=>R (.ok f) s₃) (Nb prog w A env R) s₁
   | some v=>wpAny (model prog w) A (letOwnedTupleGo target it v) (fun _ s₁'=>wpAny (model prog w) A (assign target env v) (fun _ s₂=>wpG (model prog w) A (execs body env) (fun f s₃=>match f with
    | .next | .cont=>codeG (model prog w) A (.forLoop target it body orelse env) R s₃
    | .brk=>R (.ok .next) s₃
    | .ret v=>R (.ok (.ret v)) s₃) (Nb prog w A env R) s₂) (Nb prog w A env R) s₁') (Nb prog w A env R) s₁) (Nb prog w A env R) s) :
  codeG (model prog w) A (.forLoop target it body orelse env) R s:=by
 refine CA ?_
 show wpG _ A ((forTurn target it body orelse env).onRaise (fun x=>do noteFrame x env;theTreesLotGoes x)) _ _ s
 refine mJ ?_
 simp only [forTurn]
 refine A9 (wpAny_standAt (A9 (wpAny_onRaise (wpAny_mono h (fun r s₁ h₁=>?_) fun _ _ h'=>wpAny_standAt h'))))
 cases r with
 | none=>exact AX ⟨rfl,rfl,VL h₁⟩
 | some v =>
  refine A9 (wpAny_mono h₁ (fun _ s₁' h₁'=>?_) fun _ _ h'=>h')
  refine A9 (wpAny_mono h₁' (fun _ s₂ h₂=>AN (CM h₂ (fun f s₃ h₃=>?_) fun _ _ h'=>h')) fun _ _ h'=>h')
  cases f with
  | next=>exact AX ⟨rfl,rfl,h₃⟩
  | cont=>exact AX ⟨rfl,rfl,h₃⟩
  | brk=>exact AX h₃
  | ret v=>exact AX h₃
end
end Og
end
section
set_option backward.match.sparseCases false
open PySem PySem.W PySem.Calls PyProof.Rows PySem.SeqAt
namespace Og
noncomputable def MK(K:Nat):AV→Bool:=FI fun i=>decide (i<K)
noncomputable def OA(K:Nat):List AV→Bool:=avPs fun i=>decide (i<K)
section
variable{hs h h':Heap}{r r':List Addr}{K:Nat}
theorem HY{i:Nat}{a:Addr}(p:r'.take K=r.take K)(l:i<K)(e:r[i]?=some a):r'[i]?=some a:=by
 have h1:(r'.take K)[i]?=some a:=by rw [p,List.getElem?_take,if_pos l];exact e
 rw [List.getElem?_take,if_pos l] at h1;exact h1
theorem VR.monoK(k:∀a o,h.get? a=some o→AF o→h'.get? a=some o)(p:r'.take K=r.take K){v:AV}{V:Value}(l:MK K v=true)(x:VR hs h r v V):VR hs h' r' v V:=x.monoP k (fun _ _ l e=>HY p (of_decide_eq_true l) e) l
theorem AJ.monoK(k:∀a o,h.get? a=Option.some o→AF o→h'.get? a=Option.some o)(p:r'.take K=r.take K){v:List AV}{V:List Value}(l:OA K v=true)(x:AJ hs h r v V):AJ hs h' r' v V:=x.monoP k (fun _ _ l e=>HY p (of_decide_eq_true l) e) l
end
theorem aD{hs h:Heap}{r:List Addr}:(∀{v V},VR hs h r v V→MK r.length v=true)∧∀{l L},AJ hs h r l L→OA r.length l=true :=
 VR.both rfl (fun _=>rfl) (fun _ _=>rfl) (fun _ _=>rfl) (fun _ _=>rfl) (fun _ x=>x) (fun e=>decide_eq_true (List.getElem?_eq_some_iff.mp e).1) (fun _ x=>x) (fun _=>rfl) (fun _=>rfl) rfl fun x y=>Bool.and_eq_true_iff.mpr ⟨x,y⟩
theorem RW{hs h:Heap}{r:List Addr}{v:AV}{V:Value}(x:VR hs h r v V):MK r.length v=true:=aD.1 x
theorem i9{hs h:Heap}{r:List Addr}{v:List AV}{V:List Value}(x:AJ hs h r v V):OA r.length v=true:=aD.2 x
noncomputable def DJ(l:List Env):Prop:=l.Pairwise fun e1 e2=>∀a,CC e1 a→¬CC e2 a
structure C8(c:Cx)(K:Nat)(W:Addr→Prop)(l:List Env)(s:Shared)(r:List Addr)(H H':AH)(s':Shared)(r':List Addr):Prop where
 sr:SR c s' r' H'
 le:K≤r.length
 pre:r'.take K=r.take K
 keep:∀a o,a≠c.L→¬W a→s.heap.get? a=some o→a∉r→(¬aC l a→s'.heap.get? a=some o)∧∃sl,s'.heap.get? a=some { o with slots:=sl }
 new:∀a∈r',a∈r∨s.heap.get? a=none
 dom:∀a,s'.heap.get? a=none→W a∨s.heap.get? a=none
 stamp:∀i n es a,i<K→H[i]?=some (.sdict n es)→r[i]?=some a→∃n' es',H'[i]?=some (.sdict n' es')∧n≤n'∧(n'=n→s'.heap.get? a=s.heap.get? a)
section
variable{c:Cx}{K K':Nat}{W W':Addr→Prop}{l l':List Env}{s s₁ s₂ s':Shared}{r r₁ r₂ r':List Addr}{H H₁ H₂ H':AH}{env:Env}{σ:Env'}
theorem BU.dom(G:BU c W s r H H' s' r'):∀a,s'.heap.get? a=none→W a∨s.heap.get? a=none:=fun a e=>by
 cases q:s.heap.get? a with
 | none=>exact .inr rfl
 | some o =>
  refine Classical.byContradiction fun n=>?_
  have w:¬W a:=fun w=>n (.inl w)
  by_cases z:a=c.L
  ·refine Og.ES G.sr.stat fun o _ _ e' _=>?_
   rw [z,e'] at e;exists e
  ·by_cases m:a∈r
   ·refine Og.FG (G.sr.has (G.pre.subset m)) fun _ _ ob _ _ e' _=>?_
    rw [e'] at e;exists e
   ·rw [G.keep a o z w q m] at e;exists e
theorem C8.of_goF(G:BU c W s r H H' s' r')(le:K≤r.length):C8 c K W l s r H H' s' r':=by
 refine⟨G.sr,le,?_,fun a o z w e m=>⟨fun _=>G.keep a o z w e m,o.slots,G.keep a o z w e m⟩,G.new,G.dom,fun i n es a _=>G.stamp i n es a⟩
 refine Og.AI G.pre fun x hr1=>?_;subst hr1
 rw [List.take_append_of_le_length le]
theorem C8.of_go(G:Go c s r H H' s' r')(le:K≤r.length):C8 c K W l s r H H' s' r':=by
 have:=C8.of_goF (W:=fun _=>False) (l:=l) G.f le
 exact⟨this.sr,this.le,this.pre,fun a o z _=>this.keep a o z id,this.new,fun a e=>.inr ((this.dom a e).elim (fun w=>w.elim) id),this.stamp⟩
theorem C8.len(x:C8 c K W l s r H H' s' r'):K≤r'.length:=by
 have:=congrArg List.length x.pre
 rw [List.length_take,List.length_take] at this
 have:=x.le
 lia
theorem C8.trans(x:C8 c K W l s r H H₁ s₁ r₁)(y:C8 c K' W l s₁ r₁ H₁ H₂ s₂ r₂)(le:K≤K')(n:∀a,W a→a∉r₂):C8 c K W l s r H H₂ s₂ r₂:=by
 have nr:∀a o,s.heap.get? a=some o→a∉r→a∉r₁:=fun a o e m z=>by
  rcases x.new a z with h | h
  ·exact m h
  ·rw [e] at h;exists h
 refine⟨y.sr,x.le,?_,fun a o z w e m=>⟨fun f=>?_,?_⟩,fun a m=>?_,fun a e=>(y.dom a e).elim .inl (x.dom a),fun i n es a lt e ea=>?_⟩
 ·have:=congrArg (List.take K) y.pre
  rw [List.take_take,List.take_take,Nat.min_eq_left le] at this
  rw [this,x.pre]
 ·exact(y.keep a o z w ((x.keep a o z w e m).1 f) (nr a o e m)).1 f
 ·refine Og.AI ((x.keep a o z w e m).2) fun sl e1=>?_
  exact(y.keep a _ z w e1 (nr a o e m)).2
 ·rcases y.new a m with h | h
  ·exact x.new a h
  ·exact .inr ((x.dom a h).elim (fun w=>absurd m (n a w)) id)
 ·refine Og.BV (x.stamp i n es a lt e ea) fun n1 es1 e1 l1 q1=>?_
  refine Og.BV (y.stamp i n1 es1 a (Nat.lt_of_lt_of_le lt le) e1 (HY x.pre lt ea)) fun n2 es2 e2 l2 q2=>?_
  refine⟨n2,es2,e2,Nat.le_trans l1 l2,fun z=>?_⟩
  rw [q2 (by lia),q1 (by lia)]
theorem C8.widen(x:C8 c K W l s r H H' s' r')(n:∀a,W a→W' a):C8 c K W' l s r H H' s' r':=⟨x.sr,x.le,x.pre,fun a o z w=>x.keep a o z fun w'=>w (n a w'),x.new,fun a e=>(x.dom a e).imp (n a) id,x.stamp⟩
theorem C8.drop(x:C8 c K W l s r H H' s' r')(n:∀a,W a→W' a∨s.heap.get? a=none):C8 c K W' l s r H H' s' r':=⟨x.sr,x.le,x.pre,fun a o z w e=>x.keep a o z (fun w'=>by
 rcases n a w' with h | h
 ·exact w h
 ·rw [h] at e;exists e) e,x.new,fun a e=>(x.dom a e).elim (fun w=>n a w) .inr,x.stamp⟩
theorem C8.le_K(x:C8 c K W l s r H H' s' r')(h:K'≤K):C8 c K' W l s r H H' s' r':=by
 refine⟨x.sr,Nat.le_trans h x.le,?_,x.keep,x.new,x.dom,fun i n es a lt=>x.stamp i n es a (Nat.lt_of_lt_of_le lt h)⟩
 have:=congrArg (List.take K') x.pre
 rw [List.take_take,List.take_take,Nat.min_eq_left h] at this
 exact this
theorem C8.frames(x:C8 c K W l s r H H' s' r')(n:∀a,aC l a→aC l' a∨s.heap.get? a=none):C8 c K W l' s r H H' s' r':=by
 refine⟨x.sr,x.le,x.pre,fun a o z w e m=>⟨fun f=>(x.keep a o z w e m).1 fun q=>?_,(x.keep a o z w e m).2⟩,x.new,x.dom,x.stamp⟩
 rcases n a q with h | h
 ·exact f h
 ·rw [h] at e;exists e
theorem Y8(Fs:O8 c s r l){a:Addr}{o:Obj}(e:s.heap.get? a=some o)(t:AF o):¬aC l a:=fun⟨en,m,z⟩=>by
 subst z
 refine Og.AI ((Fs en m).1.ns) fun mm n=>?_
 exact DF n e t
theorem C8.tups(x:C8 c K W l s r H H' s' r')(S:SR c s r H)(Fs:O8 c s r l)(hW:∀a o,W a→s.heap.get? a=some o→¬AF o):∀a o,s.heap.get? a=some o→AF o→s'.heap.get? a=some o:=fun a o e t =>
 (x.keep a o (S.notTup e t).1 (fun w=>hW a o w e t) e (S.notTup e t).2).1 (Y8 Fs e t)
theorem VM{h h':Heap}{a:Addr}{m:PySem.Str→Option Value}(x:h.Ns a m)(k:∀o,h.get? a=some o→∃sl,h'.get? a=some { o with slots:=sl }):h'.Ns a m:=by
 refine Og.IK x fun o es ep ho hd r=>?_;clear x
 refine Og.AI (k o ho) fun sl e=>?_
 exact⟨_,es,ep,e,hd,r⟩
theorem FR.gok(F:FR c s r env σ)(S:SR c s r H)(G:C8 c K W l s r H H' s' r')(Fs:O8 c s r l)(hW:∀a o,W a→s.heap.get? a=some o→¬AF o)(nw:∀a,CC env a→¬W a)(nf:∀n a,env.cells.lookup n=some a→¬aC l a)
  (hσ:∀x v,AG x σ=some v→IU env (c.nm x)→MK K v=true):FR c s' r' env σ:=by
 have kl:∀o,s.heap.get? env.locals=some o→∃sl,s'.heap.get? env.locals=some { o with slots:=sl }:=fun o e=>(G.keep _ o (F.notStat (.inl rfl)) (nw _ (.inl rfl)) e (F.notIn _ (.inl rfl))).2
 have kc:∀n a,env.cells.lookup n=some a→∀o,s.heap.get? a=some o→s'.heap.get? a=some o:=fun n a q o e=>(G.keep a o (F.notStat (.inr ⟨n,q⟩)) (nw a (.inr ⟨n,q⟩)) e (F.notIn a (.inr ⟨n,q⟩))).1 (nf n a q)
 refine⟨F.kind,F.globals,F.builtins,?_,fun x v e kn=>?_,fun n a e=>?_,F.apart,F.inj,F.notHs,fun a w m=>?_,F.plain,F.own⟩
 ·refine Og.AI F.ns fun m n=>?_;exact⟨m,VM n kl⟩
 ·refine Og.AB (F.vars x v e kn) fun V n y=>?_
  refine⟨V,?_,y.monoK (G.tups S Fs hW) G.pre (hσ x v e kn)⟩
  rcases n with ⟨e,m,n,q⟩ | ⟨e,a,l,i⟩
  ·exact .inl ⟨e,m,VM n kl,q⟩
  ·exact .inr ⟨e,a,l,BO i (kc _ a l)⟩
 ·refine Og.AI (F.cells n a e) fun v i=>?_;exact⟨v,BO i (kc n a e)⟩
 ·rcases G.new a m with q | q
  ·exact F.notIn a w q
  ·refine Og.AI (F.has w) fun ob e=>?_;rw [e] at q;exists q
theorem FR.bare(F:FR c s r env σ):FR c s r env []:=F.sub fun z u e=>by exists e
theorem RX{e1:Env}{a:Addr}(dj:DJ l)(m:e1∈l){n:PySem.Str}(F:FR c s r e1 [])(q:e1.cells.lookup n=some a):¬aC l a:=fun⟨e2,m2,z⟩=>by
 by_cases h:e1=e2
 ·subst h;exact F.apart n (z▸q)
 ·obtain⟨i,hi,ei⟩:=List.getElem_of_mem m
  obtain⟨j,hj,ej⟩:=List.getElem_of_mem m2
  have ij:i≠j:=fun e=>h (by subst e;rw [←ei,←ej])
  rcases Nat.lt_or_gt_of_ne ij with lt | lt
  ·have:=List.pairwise_iff_getElem.mp dj i j hi hj lt
   rw [ei,ej] at this
   exact this a (.inr ⟨n,q⟩) (.inl z)
  ·have:=List.pairwise_iff_getElem.mp dj j i hj hi lt
   rw [ei,ej] at this
   exact this a (.inl z) (.inr ⟨n,q⟩)
theorem O8.gok(Fs:O8 c s r l)(S:SR c s r H)(dj:DJ l)(G:C8 c K W l s r H H' s' r')(hW:∀a o,W a→s.heap.get? a=some o→¬AF o){l2:List Env}(sub:∀e∈l2,e∈l)(nw:∀e∈l2,∀a,CC e a→¬W a):O8 c s' r' l2:=fun e m=>by
 obtain⟨F,q⟩:=Fs e (sub e m)
 exact⟨F.gok S G Fs hW (nw e m) (fun n a z=>RX dj (sub e m) F z) (fun x v z _=>by exists z),q⟩
theorem O8.go(Fs:O8 c s r l)(S:SR c s r H)(G:Go c s r H H' s' r'):O8 c s' r' l:=fun e m=>⟨(Fs e m).1.go S G,(Fs e m).2⟩
end
end Og
end
section
open PySem PySem.W PySem.Calls PyProof.Rows PySem.SeqAt
namespace Og
structure Cf(c:Cx)(A:Around)(s:Shared)(r:List Addr)(env:Env)(outer:List Env):Prop where
 fr:A.frames=some (env::outer)
 fs:O8 c s r (env::outer)
 dj:DJ (env::outer)
noncomputable def Fp(l:List Env)(W:Addr→Prop)(s:Shared)(b:Addr):Prop:=aC l b∨W b∨s.heap.get? b=none
noncomputable def FQ(κ:Option Nat)(r:List Addr):Nat:=match κ with
 | some K=>K
 | none=>r.length
noncomputable def dK(κ:Option Nat)(r:List Addr):Prop:=∀K,κ=some K→K≤r.length
theorem dK.le{κ:Option Nat}{r:List Addr}(h:dK κ r):FQ κ r≤r.length:=by
 induction κ using Option.casesOn with
 | none=>exact Nat.le_refl _
 | some K=>exact h K rfl
abbrev PostP:=Fl→Env'→AH→Prop
noncomputable def EJ:Addr→Prop:=fun _=>False
noncomputable def TG(c:Cx)(A:Around)(t:Sem Flow)(env:Env)(outer:List Env)(κ:Option Nat)(s:Shared)(r:List Addr)(H:AH)(P:PostP)(X:AH→Prop):Prop :=
 ∀(Q:Flow→Shared→Prop) (E:Value→Shared→Prop),
  (∀f σ' H',P f σ' H'→∀fl s' r',C8 c (FQ κ r) (CC env) (env::outer) s r H H' s' r'→FR c s' r' env σ'→uP c s'.heap r' f fl→Q fl s') →
  (∀H',X H'→∀ea s₁ r₁ s',C8 c (FQ κ r) (CC env) (env::outer) s r H H' s₁ r₁→FR c s₁ r₁ env []→OY c (Fp (env::outer) (CC env) s) env outer s₁ r₁ ea s'→E (.ref ea) s') →
  wpG (model c.prog c.w) A t Q E s
structure BR(c:Cx)(N:Nm)(κ:Option Nat)(k:Nat)(l:List GS)(σ:Env')(H:AH)(P:PostP)(X:AH→Prop):Prop where
 run:∀{A:Around} {s:Shared} {r:List Addr} {env:Env} {outer:List Env} {st:List Stmt},AR k A→Cf c A s r env outer→SR c s r H→FR c s r env σ→dK κ r→eW N env.scope l st→TG c A (execs st env) env outer κ s r H P X
structure BH(c:Cx)(N:Nm)(κ:Option Nat)(k:Nat)(p:GS)(σ:Env')(H:AH)(P:PostP)(X:AH→Prop):Prop where
 run:∀{A:Around} {s:Shared} {r:List Addr} {env:Env} {outer:List Env} {st:Stmt},AR k A→Cf c A s r env outer→SR c s r H→FR c s r env σ→dK κ r→MG N env.scope p st→TG c A (exec st env) env outer κ s r H P X
structure CG(c:Cx)(κ:Option Nat)(k:Nat)(f:Nat)(vs:List AV)(H:AH)(P:AV→AH→Prop)(X:AH→Prop):Prop where
 run:∀{A:Around} {s:Shared} {r:List Addr} {outer:List Env} {Vs:List Value},AR k A→A.frames=some outer→O8 c s r outer→DJ outer→SR c s r H→AJ c.hs s.heap r vs Vs→dK κ r →
  ∀(R:Result→Shared→Prop),
   (∀v H',P v H'→∀V s' r',C8 c (FQ κ r) EJ outer s r H H' s' r'→VR c.hs s'.heap r' v V→R (.ok (.ret V)) s') →
   (∀H',X H'→∀ea s₁ r₁ s',C8 c (FQ κ r) EJ outer s r H H' s₁ r₁→LJ c (Fp outer EJ s) outer s₁ r₁ ea s'→R (.error (.ref ea)) s') →
   codeG (model c.prog c.w) A (.call (.ref (c.fa f)) ⟨Vs,[]⟩) R s
section
variable{c:Cx}{T:Tab}{N:Nm}{κ κ':Option Nat}{k:Nat}{A:Around}{s s₁ s₂ s':Shared}{r r₁ r₂ r':List Addr}{H H₁ H':AH}{env:Env}{outer:List Env}{σ σ':Env'}{P P₁:PostP}{X X₁:AH→Prop}{pos:Pos}
theorem FR.ownNt(F:FR c s r env σ):∀a o,CC env a→s.heap.get? a=some o→¬AF o:=F.apartW.nt
theorem RY{e2:Env}(dj:DJ (env::outer))(m:e2∈outer)(a:Addr)(o:CC e2 a):¬CC env a:=fun w=>(List.pairwise_cons.mp dj).1 e2 m a w o
theorem Cf.gok{K:Nat}(C:Cf c A s r env outer)(S:SR c s r H)(F:FR c s r env σ)(G:C8 c K (CC env) (env::outer) s r H H' s' r')(F':FR c s' r' env σ'):Cf c A s' r' env outer:=by
 refine⟨C.fr,fun e m=>?_,C.dj⟩
 rcases List.mem_cons.mp m with rfl | m'
 ·exact⟨F'.bare,(C.fs e m).2⟩
 ·exact O8.gok C.fs S C.dj G F.ownNt (l2:=outer) (fun e m=>List.mem_cons_of_mem _ m) (fun e m a o=>RY C.dj m a o) e m'
theorem Fp.dom{l:List Env}{b:Addr}{W W':Addr→Prop}(d:∀a,s'.heap.get? a=none→W a∨s.heap.get? a=none)(h:∀b,W' b→W b)(x:Fp l W' s' b):Fp l W s b:=x.imp id fun x=>x.elim (fun w=>.inl (h b w)) (d b)
theorem OY.mono{P P':Addr→Prop}{ea:Addr}(x:OY c P env outer s₁ r₁ ea s')(h:∀b,P b→P' b):OY c P' env outer s₁ r₁ ea s':=by
 obtain⟨f,a | ⟨B,F,a0,u,p,y⟩⟩:=x
 ·exact⟨f,.inl a⟩
 ·exact⟨f,.inr ⟨B,F,a0,u,fun b m=>h b (p b m),y⟩⟩
theorem EC{K:Nat}{W:Addr→Prop}{l:List Env}(G:C8 c K W l s r H H' s' r')(e:K=FQ κ r):FQ κ r≤FQ κ r':=by
 induction κ using Option.casesOn with
 | some K=>exact Nat.le_refl _
 | none=>subst e;exact G.len
theorem dK.gok{W:Addr→Prop}{l:List Env}(h:dK κ r)(G:C8 c (FQ κ r) W l s r H H' s' r'):dK κ r':=fun K e=>by
 subst e;exact G.len
theorem BR.nil(h:P .next σ H):BR c N κ k [] σ H P X:=.mk fun {A s r env outer st} R C S F ko m=>by
 intro Q E q x
 exists m
 exact LK (q _ _ _ h .next s r (C8.of_goF (BU.refl S) ko.le) F trivial)
theorem BR.cons{p:GS}{l:List GS}(h1:BH c N κ k p σ H P₁ X₁)(h2:∀σ' H',P₁ .next σ' H'→BR c N κ k l σ' H' P X)(h3:∀f σ' H',P₁ f σ' H'→f≠.next→P f σ' H')(h4:∀H',X₁ H'→X H'):BR c N κ k (p::l) σ H P X:=.mk fun {A s r env outer st} R C S F ko m=>by
 intro Q E q x
 cases m with | cons m ms =>
 refine KC (h1.run R C S F ko m _ E (fun f σ' H' pp fl s1 r1 G1 F1 fr=>?_) fun H' xx=>x H' (h4 H' xx))
 induction f using Og.Fl.casesOn with
 | next =>
  exists fl<;>first | exact fr.elim | skip
  dsimp only
  refine(h2 σ' H' pp).run R (C.gok S F G1 F1) G1.sr F1 (ko.gok G1) ms Q E (fun f2 σ2 H2 p2 fl2 s2 r2 G2 F2 fr2=>?_) fun H2 x2 ea sx rx s2 Gx Fx y=>?_
  ·exact q f2 σ2 H2 p2 fl2 s2 r2 (G1.trans G2 (EC G1 rfl) fun a w=>F2.notIn a w) F2 fr2
  ·exact x H2 x2 ea sx rx s2 (G1.trans Gx (EC G1 rfl) fun a w=>Fx.notIn a w) Fx (y.mono fun b=>Fp.dom G1.dom fun _ w=>w)
 | brk =>
  have z:=q .brk σ' H' (h3 _ _ _ pp (by simp)) fl s1 r1 G1 F1 fr
  exists fl<;>first | exact fr.elim | exact z
 | ret v =>
  have z:=q (.ret v) σ' H' (h3 _ _ _ pp (by simp)) fl s1 r1 G1 F1 fr
  exists fl<;>first | exact fr.elim | exact z
theorem BH.leaf(L:CP c T N)(Fn:AY c T N){p:PS}{f:Fl}{j:Nat}(hj:j≤k)(e:(ev T j).s p σ H=some (f,σ',H')):BH c N κ k (.leaf p) σ H (fun f' σ'' H''=>f'=f∧σ''=σ'∧H''=H') X:=.mk fun {A s r env outer st} R C S F ko m=>by
 intro Q E q x
 have m:MS N env.scope p st:=m.elim (P:=MS N env.scope p) fun _ m=>m
 refine wpAny.g ((HW L Fn j).s (R.le hj) S F m e |>.go fun fl s1 r1 G1 F1 fr=>?_)
 exact q _ _ _ ⟨rfl,rfl,rfl⟩ fl s1 r1 (C8.of_goF G1 ko.le) F1 fr
theorem BH.post{l:GS}(h:BH c N κ k l σ H P₁ X₁)(h1:∀f σ' H',P₁ f σ' H'→P f σ' H')(h2:∀H',X₁ H'→X H'):BH c N κ k l σ H P X:=.mk fun {A s r env outer st} R C S F ko m Q E q x =>
 h.run R C S F ko m Q E (fun f σ' H' pp=>q f σ' H' (h1 _ _ _ pp)) fun H' xx=>x H' (h2 H' xx)
noncomputable def Q6(κ κ':Option Nat)(σ:Env')(H:AH):Prop:=match κ',κ with
 | none,_=>True
 | some K',some K=>K≤K'∧K'≤H.length∧∀x v,AG x σ=some v→MK K' v=true
 | some _,none=>False
theorem mK(h:Q6 κ κ' σ H)(F:FR c s r env σ)(S:SR c s r H):∀x v,AG x σ=some v→IU env (c.nm x)→MK (FQ κ' r) v=true:=fun x v e kn=>by
 induction κ' using Option.casesOn with
 | none=>obtain⟨V,_,y⟩:=F.vars x v e kn;exact RW y
 | some K' =>
  induction κ using Option.casesOn with
  | none=>exact h.elim
  | some K=>exact h.2.2 x v e
theorem mL(h:Q6 κ κ' σ H)(S:SR c s r H)(ko:dK κ r):FQ κ r≤FQ κ' r∧dK κ' r:=by
 induction κ' using Option.casesOn with
 | none=>exact⟨ko.le,fun K e=>by cases e⟩
 | some K' =>
  induction κ using Option.casesOn with
  | none=>exact h.elim
  | some K=>exact⟨h.1,fun z e=>by exists e;rw [S.len];exact h.2.1⟩
theorem IJ(L:CP c T N)(Fn:AY c T N){f:Nat}{l:List PX}{es:List Expr}{g:PySem.Str}{u p:Pos}{vs:List AV}{Pc:AV→AH→Prop}{Xc:AH→Prop}(R:AR k A)(C:Cf c A s r env outer)(S:SR c s r H)(F:FR c s r env σ)(ko:dK κ r)
  (hg:AS env.scope g=true) (hk:N.gk g=some (.fn f)) (m:JO N env.scope l es) {j:Nat} (hj:j≤k) (e:(ev T j).es l σ H=some (vs,H₁)) (cg:CG c κ' k f vs H₁ Pc Xc) (fit:Q6 κ κ' σ H₁) {Q:Value→Shared→Prop} {E:Value→Shared→Prop}
  (q:∀v H',Pc v H'→∀V s' r',C8 c (FQ κ r) (CC env) (env::outer) s r H H' s' r'→FR c s' r' env σ→VR c.hs s'.heap r' v V→Q V s')
  (x:∀H',Xc H'→∀ea s₁ r₁ s',C8 c (FQ κ r) (CC env) (env::outer) s r H H' s₁ r₁→FR c s₁ r₁ env []→OY c (Fp (env::outer) (CC env) s) env outer s₁ r₁ ea s'→E (.ref ea) s') :
  wpG (model c.prog c.w) A (eval (.Call (.Name g u) es [] p) env) Q E s:=by
 have D:=HW L Fn j
 refine RV (NQ L.toLk F S hg hk (L.gk g _ hk).1 ?_)
 refine O9 (P:=c.K.In) (by rw [(CU m).1];rfl) (keeps_K (L.keepF g f hk)) (IF m (D.es p (R.le hj) S F m e) fun Vs s1 r1 G1 y1=>⟨G1.sr.X,?_⟩)
 have F1:=F.go S G1
 have Fs1:O8 c s1 r1 (env::outer):=C.fs.go S G1
 have K1:C8 c (FQ κ r) (CC env) (env::outer) s r H H₁ s1 r1:=C8.of_go G1 ko.le
 obtain⟨le,ko'⟩:=mL fit G1.sr (ko.gok K1)
 have le:FQ κ r≤FQ κ' r1:=Nat.le_trans (EC K1 rfl) le
 have keepF:∀{H2 s2 r2},C8 c (FQ κ' r1) EJ (env::outer) s1 r1 H₁ H2 s2 r2→FR c s2 r2 env σ:=fun G2 =>
  F1.gok G1.sr G2 Fs1 (fun _ _ w=>w.elim) (fun _ _ w=>w) (fun n a z=>RX C.dj List.mem_cons_self F1.bare z) (mK fit F1 G1.sr)
 refine JD (cg.run R C.fr Fs1 C.dj G1.sr y1 ko' _ (fun v H' pv V s2 r2 G2 yv=>?_) fun H' xv ea sx rx s' Gx Fx=>?_)
 ·exact q v H' pv V s2 r2 (K1.trans (G2.widen fun _ w=>w.elim) le fun a w=>(keepF G2).notIn a w) (keepF G2) yv
 ·exact x H' xv ea sx rx s' (K1.trans (Gx.widen fun _ w=>w.elim) le fun a w=>(keepF Gx).notIn a w) (keepF Gx).bare ((LJ.flew Fx).mono fun b=>Fp.dom K1.dom fun _ w=>w.elim)
theorem BH.assign(L:CP c T N)(Fn:AY c T N){y f:Nat}{l:List PX}{vs:List AV}{Pc:AV→AH→Prop}{Xc:AH→Prop}{j:Nat}(hj:j≤k)(e:(ev T j).es l σ H=some (vs,H₁))(cg:CG c κ' k f vs H₁ Pc Xc)(fit:Q6 κ κ' σ H₁):
  BH c N κ k (.assign y f l) σ H (fun fl σ' H'=>∃v,fl=.next∧σ'=(y,v)::σ∧Pc v H') Xc:=.mk fun {A s r env outer st} R C S F ko m=>by
 intro Q E q x
 refine m.elim fun _ _ _ _ _ _ hA ho hg hk m=>?_
 show wpG _ _ (exec _ _) _ _ _
 rw [L.nm] at ho ⊢
 rw [L.isA] at hA
 refine IV (IJ L Fn R C S F ko hg hk m hj e cg fit (fun v H' pv V s2 r2 G2 F2 yv=>?_) x)
 refine F2.store G2.sr yv hA (DO ho) fun s3 G3 F3=>?_
 exact q .next _ H' ⟨v,rfl,rfl,pv⟩ .next s3 r2 (G2.trans (C8.of_goF (K:=FQ κ r) G3 G2.len) (Nat.le_refl _) fun a w=>F3.notIn a w) F3 trivial
theorem BH.expr(L:CP c T N)(Fn:AY c T N){f:Nat}{l:List PX}{vs:List AV}{Pc:AV→AH→Prop}{Xc:AH→Prop}{j:Nat}(hj:j≤k)(e:(ev T j).es l σ H=some (vs,H₁))(cg:CG c κ' k f vs H₁ Pc Xc)(fit:Q6 κ κ' σ H₁):
  BH c N κ k (.expr f l) σ H (fun fl σ' H'=>∃v,fl=.next∧σ'=σ∧Pc v H') Xc:=.mk fun {A s r env outer st} R C S F ko m=>by
 intro Q E q x
 refine m.elim fun _ _ u p pos hg hk m=>?_
 show wpG _ _ (exec _ _) _ _ _
 rw [exec_Expr env _ pos (by unfold interactive;rw [F.kind];rfl) (by rfl)]
 refine A9 (wpAny_standAt (AN (CM (IJ L Fn R C S F ko hg hk m hj e cg fit (fun v H' pv V s2 r2 G2 F2 yv=>?_) x) (fun v s' h'=>wpAny.g (UR h')) fun _ _ z=>z)))
 exact q .next _ H' ⟨v,rfl,rfl,pv⟩ .next s2 r2 G2 F2 trivial
theorem BH.ret(L:CP c T N)(Fn:AY c T N){f:Nat}{l:List PX}{vs:List AV}{Pc:AV→AH→Prop}{Xc:AH→Prop}{j:Nat}(hj:j≤k)(e:(ev T j).es l σ H=some (vs,H₁))(cg:CG c κ' k f vs H₁ Pc Xc)(fit:Q6 κ κ' σ H₁):
  BH c N κ k (.ret f l) σ H (fun fl σ' H'=>∃v,fl=.ret v∧σ'=σ∧Pc v H') Xc:=.mk fun {A s r env outer st} R C S F ko m=>by
 intro Q E q x
 refine m.elim fun _ _ _ _ _ hg hk m=>?_
 refine VK (IJ L Fn R C S F ko hg hk m hj e cg fit (fun v H' pv V s2 r2 G2 F2 yv=>?_) x)
 exact q (.ret v) _ H' ⟨v,rfl,rfl,pv⟩ (.ret V) s2 r2 G2 F2 yv
theorem BH.ifs(L:CP c T N)(Fn:AY c T N){t:PX}{a b:List GS}{d:Bool}{j:Nat}(hj:j≤k)(e:(ev T j).b t σ H=some (d,H₁))(h:BR c N κ k (if d then a else b) σ H₁ P X):BH c N κ k (.ifs t a b) σ H P X:=.mk fun {A s r env outer st} R C S F ko m=>by
 intro Q E q x
 refine m.elim fun _ _ _ _ m1 m2 m3=>?_
 refine A_e (((HW L Fn j).b (R.le hj) S F m1 e).go fun s1 r1 G1=>?_)
 have K1:C8 c (FQ κ r) (CC env) (env::outer) s r H H₁ s1 r1:=C8.of_go G1 ko.le
 have F1:=F.go S G1
 have C1:=C.gok S F K1 F1
 have go:∀{st:List Stmt},eW N env.scope (if d then a else b) st→wpG (model c.prog c.w) A (execs st env) Q E s1:=fun ms=>by
  refine h.run R C1 G1.sr F1 (ko.gok K1) ms Q E (fun f2 σ2 H2 p2 fl2 s2 r2 G2 F2 fr2=>?_) fun H2 x2 ea sx rx s2 Gx Fx y=>?_
  ·exact q f2 σ2 H2 p2 fl2 s2 r2 (K1.trans G2 (EC K1 rfl) fun a w=>F2.notIn a w) F2 fr2
  ·exact x H2 x2 ea sx rx s2 (K1.trans Gx (EC K1 rfl) fun a w=>Fx.notIn a w) Fx (y.mono fun b=>Fp.dom K1.dom fun _ w=>w)
 induction d using Bool.casesOn with
 | true=>exact go m2
 | false=>exact go m3
end
section
variable{prog:Program}{w:World}{A:Around}{C:Addr}{R:Result→Shared→Prop}{h:Heap}{g:Array GenState}{d:Drawn}{t:Nat}{os:OsState}
set_option maxHeartbeats 4000000 in
theorem VN{rest:List Value}{fI:Addr}(Y:Makes (model prog w) h C)(hi:Looks (model prog w) h (typeLookup (.ref C) "__init__") (some (.ref fI)))
  (hb:∀self,Looks (model prog w) h (bindSpecial (.ref fI) self) (.ref fI,[self]))
  (hq:codeG (model prog w) (A.under (.builtin "type.__call__" ⟨.ref C::rest,[]⟩)) (.call (.ref fI) ⟨.ref (h.objs.size+1)::rest,[]⟩) (InitBack (h.objs.size+1) R) ⟨(h.push emptyDict).push (instObj C h.objs.size),g,d,t,os⟩) :
  codeG (model prog w) A (.call (.ref C) ⟨rest,[]⟩) R ⟨h,g,d,t,os⟩:=by
 have Y':=Y
 obtain⟨⟨oc,od,cd,sl,hC,e1,e2,e4⟩,made,base,self,top,call,typ⟩:=Y
 refine CA ?_
 show wpG _ _ (callAny (.ref C) _) _ _ _
 simp only [callAny]
 refine A9 (wpAny_load hC ?_)
 show wpG _ _ (callAny.viaDunder (.ref C) _) _ _ _
 unfold callAny.viaDunder
 refine A9 (call.at ?_)
 dsimp only
 rw [tc_bind]
 refine AN (AX (AN (AX ?_)))
 refine AX (a:=Fin.again (.call (.builtin "type.__call__") ⟨.ref C::rest,[]⟩)) ⟨rfl,rfl,?_⟩
 refine D7 (Code.quiet_builtin _ (by decide +kernel)) (MA (by decide)) entry_typeCall (check_slot tc_kind tc_split typ (tc_args _ _ _) ?_)
 unfold Builtin.«type.__call__»
 have hm:Looks (model prog w) h (mroOf (.ref C)) cd.mro:=((Looks.ld (part:=none) hC).andThen .now).andThen .now
 have nt:((Value.ref C)==Value.type "type")=false:=rfl
 simp only [nt,Bool.false_eq_true,if_false]
 refine A9 (hm.at ?_)
 simp only [e4,Bool.false_eq_true,if_false]
 refine A9 (made.at ?_)
 dsimp only
 refine AN (AX ?_)
 refine A9 (wpAny_holding ?_)
 refine wpAny_call (codeAny_mono (new_K (R:=fun r s'=>r=.ok (.ret (.ref (h.objs.size+1)))∧s'=⟨(h.push emptyDict).push (instObj C h.objs.size),g,d,t,os⟩) Y' hi (.inl rfl) ⟨rfl,rfl⟩) fun r s₁ h₁=>?_)
 ·obtain⟨rfl,rfl⟩:=h₁
  dsimp only
  have k:∀b o,h.get? b=some o→((h.push emptyDict).push (instObj C h.objs.size)).get? b=some o:=fun b o e=>Heap.get?_push_of_some _ (Heap.get?_push_of_some _ e)
  have hx:((h.push emptyDict).push (instObj C h.objs.size)).get? (h.objs.size+1)=some (instObj C h.objs.size):=by heap_get
  have t1:Looks (model prog w) ((h.push emptyDict).push (instObj C h.objs.size)) (typeOf (.ref (h.objs.size+1))) (.ref C):=(Looks.ld hx).andThen .now
  have s1:=self.keeps k
  have i1:=hi.keeps k
  have b1:=(hb (.ref (h.objs.size+1))).keeps k
  unfold isInstance
  refine A9 (wpAny_bind (t1.at (s1.at ?_)))
  simp only [Bool.not_true,Bool.false_eq_true,if_false]
  refine AN (CX ?_)
  unfold callSpecial? specialOf
  refine A9 (wpAny_bind (t1.at (i1.at ?_)))
  dsimp only
  refine CX (A9 (b1.at ?_))
  dsimp only
  refine AN (JD (NO hq fun r s' z=>?_))
  rcases r with e | (v | _ | _ | _)<;>first | exact z | exact z.elim | skip
  obtain⟨rfl,z⟩:=z
  refine AX ?_
  dsimp only
  rw [if_neg (by decide)]
  exact AX z
end
section
variable{c:Cx}{T:Tab}{N:Nm}{κ κ':Option Nat}{k:Nat}{A:Around}{s s₁ s₂ s':Shared}{r r₁ r₂ r':List Addr}{H H₁ H':AH}{env:Env}{outer:List Env}{σ σ':Env'}{P P₁:PostP}{X X₁:AH→Prop}{pos:Pos}
theorem cP(L:CP c T N)(S:SR c s r H){kk f:Nat}(hi:T.init kk=some f)(hc:c.isC kk=true){Vs:List Value}{R:Result→Shared→Prop}
  (h:∀x s1 r1,Go c s r H (H++[.ns [],.inst kk H.length]) s1 r1→VR c.hs s1.heap r1 (.ref (H.length+1)) (.ref x)→codeG (model c.prog c.w) (A.under (.builtin "type.__call__" ⟨.ref (c.ca kk)::Vs,[]⟩)) (.call (.ref (c.fa f)) ⟨.ref x::Vs,[]⟩) (InitBack x R) s1) :
  codeG (model c.prog c.w) A (.call (.ref (c.ca kk)) ⟨Vs,[]⟩) R s:=by
 refine Og.BB (L.init kk f hi hc) fun h1 h2 h3=>?_
 have X:=S.X
 have G1:Go c s r H (H++[.ns []]) { s with heap:=s.heap.push emptyDict,toks:=s.toks } (r++[s.heap.objs.size]):=Go.alloc S rfl s.toks ⟨[],0,rfl,.nil,Nat.zero_le _⟩
 have G2:=Go.alloc G1.sr (o:=.inst kk H.length) (ob:=instObj (c.ca kk) s.heap.objs.size) rfl s.toks ⟨s.heap.objs.size,by rw [←S.len];simp,rfl,hc⟩
 have G:=G1.trans G2
 rw [List.append_assoc] at G
 obtain⟨hh,g,d,t,os⟩:=s
 refine VN (makes_of X h1) (looks_findIn X h2) (fun self=>bind_fn X self h3) ?_
 have e1:(hh.push emptyDict).objs.size=hh.objs.size+1:=Heap.size_push ..
 refine h (hh.objs.size+1) _ _ G (.ref ?_)
 have hl:H.length=r.length:=S.len.symm
 dsimp only at e1 ⊢
 rw [hl,List.append_assoc,List.getElem?_append_right (by lia),Nat.add_sub_cancel_left,e1]
 rfl
theorem BH.retC(L:CP c T N)(Fn:AY c T N){kk f:Nat}{l:List PX}{vs:List AV}{Pc:AH→Prop}{j:Nat}(hj:j≤k+1)(e:(ev T j).es l σ H=some (vs,H₁))(hi:T.init kk=some f)
  (cg:CG c none k f (.ref (H₁.length+1)::vs) (H₁++[.ns [],.inst kk H₁.length]) (fun v H'=>v=.none∧Pc H') (fun _=>False)) :
  BH c N κ (k+1) (.retC kk l) σ H (fun fl σ' H'=>fl=.ret (.ref (H₁.length+1))∧σ'=σ∧Pc H') X:=.mk fun {A s r env outer st} R C S F ko m=>by
 intro Q E q x
 refine m.elim fun _ _ _ _ _ hg hk m=>?_
 obtain⟨hm,hc⟩:=(L.gk _ _ hk).1
 have D:=HW L Fn j
 refine VK (RV (NQ L.toLk F S hg hk hm ?_))
 refine O9 (P:=c.K.In) (by rw [(CU m).1];rfl) (keeps_K (L.keepC _ kk hk)) (IF m (D.es _ (R.le hj) S F m e) fun Vs s1 r1 G1 y1=>⟨G1.sr.X,?_⟩)
 have F1:=F.go S G1
 have K1:C8 c (FQ κ r) (CC env) (env::outer) s r H H₁ s1 r1:=C8.of_go G1 ko.le
 refine JD (cP L G1.sr hi hc fun a s2 r2 G2 y2=>?_)
 have F2:=F1.go G1.sr G2
 have fr:(A.under (.builtin "type.__call__" ⟨.ref (c.ca kk)::([]++Vs),[]⟩)).frames=some (env::outer):=C.fr
 refine cg.run R.make fr ((C.fs.go S G1).go G1.sr G2) C.dj G2.sr (.cons y2 (G2.vrs G1.sr y1)) (fun _ z=>by exists z) _ (fun v H' pv V s3 r3 G3 y3=>?_) (fun H' z=>z.elim)
 obtain⟨rfl,pv⟩:=pv
 have K12:=K1.trans (C8.of_go (K:=FQ κ r) (W:=CC env) (l:=env::outer) G2 K1.len) (Nat.le_refl _) fun a w=>F2.notIn a w
 have F3:FR c s3 r3 env σ:=F2.gok G2.sr G3 ((C.fs.go S G1).go G1.sr G2) (fun _ _ w=>w.elim) (fun _ _ w=>w) (fun n a z=>RX C.dj List.mem_cons_self F2.bare z) (fun x v e kn=>by obtain⟨V,_,y⟩:=F2.vars x v e kn;exact RW y)
 refine⟨y3.inv_none,?_⟩
 have yr:VR c.hs s3.heap r3 (.ref (H₁.length+1)) (.ref a):=y2.monoK (G3.tups G2.sr ((C.fs.go S G1).go G1.sr G2) (fun _ _ w=>w.elim)) G3.pre (RW y2)
 exact q _ _ H' ⟨rfl,rfl,pv⟩ (.ret (.ref a)) s3 r3 (K12.trans (G3.widen fun _ w=>w.elim) K12.len fun a w=>F3.notIn a w) F3 yr
theorem M1{M:Model}{pos:Pos}{T:String}{first:List Value}{args:List (Bool×Sem Value)}{Q:Value→Shared→Prop}{E:Value→Shared→Prop}(hplain:args.any (·.1)=false)
  (h:wpAny M A (evalArgs (.type T) true args []) (fun a s₁=>wpG M A (call (.type T) (first++a.pos) a.kw) Q E s₁) E s):wpG M A (callWith pos (.type T) first args []) Q E s:=by
 unfold callWith
 refine A9 (wpAny_holding (wpAny_mono h (fun a s₁ h₁=>A9 (wpAny_standAt ?_)) fun _ _ x=>x))
 simp only [hplain,List.any_nil,Bool.or_false]
 refine AN (m:=keeperOf (.type T)) (AX ?_)
 exact AN (CM h₁ (fun r s₂ hr=>wpAny.g (wpAny_bind (wpAny_holding (wpAny_point (wpAny_pure hr))))) fun _ _ x=>x)
theorem iA(S:SR c s r H){v w:AV}{V:Value}(y:VR c.hs s.heap r v V)(e:MX H v=some (w,H')){Q:Value→Shared→Prop}{E:Value→Shared→Prop}(q:∀X s' r',Go c s r H H' s' r'→VR c.hs s'.heap r' w X→Q X s'):
  wpG (model c.prog c.w) A (call (.type "bytearray") [V]) Q E s:=by
 refine A3 e ?_
 clear e
 intro l el e
 exists D8 el
 ·refine A7 e ?_
  clear e
  intro hf e
  ·exists e,q
   refine Og.AI y.inv_bytes fun t hr1=>?_;subst hr1
   have:=D1 hf
   refine LG (by omega) fun h' k hl=>?_
   have G:=Go.new S (h':=h') (o:=.barr l) (ob:=BK l) (D:=s.heap.objs.size) (fun a o _ e=>k a o e) (S.stat.keeps k) (CE _) hl s.toks rfl
   exact q _ _ _ G (.ref (by rw [←S.len];simp))
theorem BH.barr(L:CP c T N)(Fn:AY c T N){y:Nat}{p:PX}{v w:AV}{j:Nat}(hj:j≤k)(e:(ev T j).es [p] σ H=some ([v],H₁))(eb:MX H₁ v=some (w,H')):
  BH c N κ k (.barr y p) σ H (fun fl σ' H''=>fl=.next∧σ'=(y,w)::σ∧H''=H') X:=.mk fun {A s r env outer st} R C S F ko m=>by
 intro Q E q x
 refine m.elim fun _ _ _ _ _ _ hA ho hg hk hn m=>?_
 show wpG _ _ (exec _ _) _ _ _
 rw [L.nm] at ho ⊢
 rw [L.isA] at hA
 obtain⟨h1,h2⟩:=(L.gk _ _ hk).1
 have D:=HW L Fn j
 have ms:JO N env.scope [p] [_]:=.cons ⟨hn,m⟩ .nil
 refine IV (RV (LH L.toLk F S hg hk h1 h2 (M1 (CU ms).1 (IF ms (D.es _ (R.le hj) S F ms e) fun Vs s1 r1 G1 y1=>?_))))
 refine AJ.e1 y1 fun Y y1=>?_
 refine iA G1.sr y1 eb fun Z s2 r2 G2 y2=>?_
 have F2:=(F.go S G1).go G1.sr G2
 refine F2.store G2.sr y2 hA (DO ho) fun s3 G3 F3=>?_
 have K12:C8 c (FQ κ r) (CC env) (env::outer) s r H H' s2 r2:=C8.of_go (G1.trans G2) ko.le
 exact q .next _ H' ⟨rfl,rfl,rfl⟩ .next s3 r2 (K12.trans (C8.of_goF (K:=FQ κ r) G3 K12.len) (Nat.le_refl _) fun a w=>F3.notIn a w) F3 trivial
end
end Og
end
section
open PySem PySem.W PySem.Calls PyProof.Rows PySem.SeqAt
open Sem (wp)
namespace Og
section
variable{M:Model}{A:Around}{E:Value→Shared→Prop}{s:Shared}{env:Env}
theorem OZ{o:Expr}{attr:PySem.Str}{value:Expr}{pos' pos:Pos}{Q:Flow→Shared→Prop}
  (h:wpG M A (eval value env) (fun v s₁=>wpAny M A (eval o env) (fun ov s₂=>wpAny M A (setAttr ov attr v) (fun _=>Q .next) E s₂) E s₁) E s)
  (hs:swapsWith value (some (.Attribute o attr pos')) pos.line env=pure false:=by rfl) :
  wpG M A (exec (.Assign [.Attribute o attr pos'] value pos) env) Q E s:=by
 rw [plainObj_exec_Assign_Attribute o attr pos' value pos hs]
 refine A9 (wpAny_standAt (AN (CM h (fun v s₁ h₁=>AN ?_) fun _ _ e=>e)))
 rw [assign_Attribute]
 exact A9 (wpAny_holding (wpAny_mono h₁ (fun ov s₂ h₂=>A9 (wpAny_standAt (A9 (wpAny_holding (wpAny_mono h₂ (fun _ s₄ h₄=>wpAny.g (wpAny_release (AX h₄))) fun _ _ e=>e))))) fun _ _ e=>e))
theorem RZ{o i:Expr}{value:Expr}{pos' pos:Pos}{Q:Flow→Shared→Prop}
  (h:wpAny M A (eval value env) (fun v s₁=>wpAny M A (eval o env) (fun ov s₂=>wpAny M A (eval i env) (fun iv s₃=>wpG M A (setItem ov iv v) (fun _=>Q .next) E s₃) E s₂) E s₁) E s)
  (hs:swapsWith value (some (.Subscript o i pos')) pos.line env=pure false:=by rfl) :
  wpG M A (exec (.Assign [.Subscript o i pos'] value pos) env) Q E s:=by
 rw [exec_Assign_Subscript o i pos' value pos hs]
 refine A9 (wpAny_standAt (A9 (wpAny_mono h (fun v s₁ h₁=>AN ?_) fun _ _ e=>e)))
 rw [assign_Subscript]
 exact A9 (wpAny_holding (wpAny_mono h₁ (fun ov s₂ h₂=>A9 (wpAny_holding (wpAny_mono h₂ (fun iv s₃ h₃=>A9 (wpAny_standAt (AN (CX (CM h₃ (fun _ s₄ h₄=>wpAny.g (wpAny_release (AX h₄))) fun _ _ e=>e))))) fun _ _ e=>e))) fun _ _ e=>e))
theorem Y9{x:Sem Value}{Q:List Value→Shared→Prop}(h:wpG M A x (fun v s'=>Q [v] s') E s):wpG M A (spliced [(false,x)]) Q E s:=by
 rw [spliced]
 refine AN (CM h (fun v s' h'=>?_) fun _ _ z=>z)
 simp only [Bool.false_eq_true,if_false]
 exact wpAny.g (wpAny_bind (wpAny_pure (wpAny_bind (wpAny_holding (spliced_nil (wpAny_pure h'))))))
theorem VO{f:Value}{x:Sem Value}{Q:Args→Shared→Prop}(h:wpG M A x (fun v s'=>Q ⟨[v],[]⟩ s') E s):wpG M A (evalArgs f true [(false,x)] []) Q E s:=by
 unfold evalArgs
 show wpG M A (spliced [(false,x)]>>=_) Q E s
 refine AN (Y9 (CM h (fun v s' h'=>?_) fun _ _ z=>z))
 refine CX ?_
 exact wpAny.g (wpAny_bind (wpAny_pure (wpAny_bind (wpAny_pure (wpAny_pure h')))))
theorem LA{pos:Pos}{T:String}{x:Sem Value}{Q:Value→Shared→Prop}(h:wpG M A x (fun v s₁=>wpG M A (call (.type T) [v]) Q E s₁) E s):wpG M A (callWith pos (.type T) [] [(false,x)] []) Q E s:=by
 unfold callWith
 refine AN (CX (VO (CM h (fun v s₁ h₁=>A9 (wpAny_standAt ?_)) fun _ _ x=>x)))
 refine AN (m:=keeperOf (.type T)) (AX ?_)
 exact AN (CM h₁ (fun r s₂ hr=>wpAny.g (wpAny_bind (wpAny_holding (wpAny_point (wpAny_pure hr))))) fun _ _ x=>x)
end
section
variable{c:Cx}{T:Tab}{N:Nm}{κ κ':Option Nat}{k:Nat}{A:Around}{s s₁ s₂ s':Shared}{r r₁ r₂ r':List Addr}{H H₁ H':AH}{env:Env}{outer:List Env}{σ σ':Env'}{P P₁:PostP}{X X₁:AH→Prop}{pos:Pos}
theorem BH.barrC(L:CP c T N)(Fn:AY c T N){o:PX}{a f:Nat}{l:List PX}{vs:List AV}{Pc:AV→AH→Prop}{Pd:AH→Prop}{j:Nat}(hj:j≤k)(e:(ev T j).es l σ H=some (vs,H₁))(cg:CG c none k f vs H₁ Pc (fun _=>False))(ha:T.isAttr a=true)
  (hp:∀v H2,Pc v H2→∃w H3 z H4 H5,MX H2 v=some (w,H3)∧(ev T j).e o σ H3=some (z,H4)∧IA H4 z a w=some H5∧Pd H5) :
  BH c N κ k (.barrC o a f l) σ H (fun fl σ' H'=>fl=.next∧σ'=σ∧Pd H') X:=.mk fun {A s r env outer st} R C S F ko m=>by
 intro Q E q x
 refine m.elim fun _ _ _ _ _ _ _ _ _ _ hA mo hk1 hk2 hg hk m=>?_
 show wpG _ _ (exec _ _) _ _ _
 rw [L.nm]
 rw [L.isA] at hA
 obtain⟨h1,h2⟩:=(L.gk _ _ hk2).1
 have D:=HW L Fn j
 refine OZ (RV (LH L.toLk F S hk1 hk2 h1 h2 (LA (IJ L Fn R C S F ko hg hk m hj e cg trivial (fun v H2 pv V s2 r2 K2 F2 yv=>?_) (fun _ z=>z.elim))))) (IH _ _ _ _ _ _)
 obtain⟨w,H3,z,H4,H5,e1,e2,e3,pd⟩:=hp v H2 pv
 refine iA K2.sr yv e1 fun Z s3 r3 G3 y3=>?_
 have F3:=F2.go K2.sr G3
 refine(D.e (R.le hj) G3.sr F3 mo e2).go fun Y s4 r4 G4 y4=>?_
 have F4:=F3.go G3.sr G4
 refine(PO G4.sr y4 (G4.vr G3.sr y3) hA e3).go fun s5 r5 G5=>?_
 have F5:=F4.go G4.sr G5
 exact q .next _ H5 ⟨rfl,rfl,pd⟩ .next s5 r5 (K2.trans (C8.of_go (K:=FQ κ r) ((G3.trans G4).trans G5) K2.len) (Nat.le_refl _) fun a w=>F5.notIn a w) F5 trivial
theorem BH.slc(L:CP c T N)(Fn:AY c T N){o lo hi p:PX}{vo vl vh vp:AV}{H1 H2 H3 H4 H5:AH}{j:Nat}(hj:j≤k)(e1:(ev T j).e p σ H=some (vp,H1))(e2:(ev T j).e o σ H1=some (vo,H2))(e3:(ev T j).e lo σ H2=some (vl,H3))(e4:(ev T j).e hi σ H3=some (vh,H4))(e5:TI H4 vo vl vh vp=some H5):
  BH c N κ k (.slc o lo hi p) σ H (fun fl σ' H'=>fl=.next∧σ'=σ∧H'=H5) X:=.mk fun {A s r env outer st} R C S F ko m=>by
 intro Q E q x
 refine m.elim fun _ _ _ _ _ _ _ m1 m2 m3 m4 hc=>?_
 have D:=HW L Fn j
 refine RZ ((D.e (R.le hj) S F m4 e1).go fun Vp s1 r1 G1 y1=>?_) (K7 hc _ _ _)
 have F1:=F.go S G1
 refine(D.e (R.le hj) G1.sr F1 m1 e2).go fun Vo s2 r2 G2 y2=>?_
 have F2:=F1.go G1.sr G2
 refine wpAny_Slice (wpAny_evalPart_some ((D.e (R.le hj) G2.sr F2 m2 e3).go fun Vl s3 r3 G3 y3=>?_))
 have F3:=F2.go G2.sr G3
 refine wpAny_evalPart_some ((D.e (R.le hj) G3.sr F3 m3 e4).go fun Vh s4 r4 G4 y4=>?_)
 have F4:=F3.go G3.sr G4
 refine wpAny_evalPart_none ?_
 have yp:=G4.vr G3.sr (G3.vr G2.sr (G2.vr G1.sr y1))
 have yo:=G4.vr G3.sr (G3.vr G2.sr y2)
 have yl:=G4.vr G3.sr y3
 refine A3 e5 ?_
 clear e5
 intro oi eoi e5
 exists B7 eoi
 refine A3 e5 ?_
 clear e5
 intro y ey e5
 exists D8 ey
 refine H7 e5 ?_
 clear e5
 intro a b ea eb e5
 exists ea
 exists eb
 refine A3 e5 ?_
 clear e5
 intro bl eo e5
 replace eo:=WK eo
 refine A7 e5 ?_
 clear e5
 intro hcnd e5
 ···exists e5
    obtain⟨c1,hcnd⟩:=B3 hcnd
    obtain⟨c2,hcnd⟩:=B3 hcnd
    obtain⟨c3,hcnd⟩:=B3 hcnd
    obtain⟨c4,c5⟩:=B3 hcnd
    replace c1:=of_decide_eq_true c1
    replace c2:=of_decide_eq_true c2
    replace c3:=of_decide_eq_true c3
    replace c5:=eq_of_beq c5
    refine Og.AB yo.inv_ref fun ad hr1 ra=>?_;subst hr1
    refine Og.AI yl.inv_int fun t1 hr1=>?_;subst hr1
    refine Og.AI y4.inv_int fun t2 hr1=>?_;subst hr1
    refine Og.AI yp.inv_bytes fun t3 hr1=>?_;subst hr1
    refine Og.AB (G4.sr.at eo ra) fun ob eb hob=>?_
    have hob:ob=BK bl:=hob
    subst hob
    have:=D1 c4
    have G5:Go c s4 r4 H4 H4 { s4 with heap:=s4.heap.push (B0 (.int a t1) (.int b t2) .none),toks:=s4.toks } r4:=Go.push G4.sr _ s4.toks
    refine UO (b:=bl) (lo:=a) (hi:=b) (Heap.get?_push_of_some _ eb) (Heap.get?_push_size _ rfl) c1 c2 (by omega) (by omega) (by omega) fun h' k hl=>?_
    have G6:=Go.turn G5.sr s4.toks ra eo (fun _ _ h=>nomatch h) (fun b o _ hb e=>k b o hb e) (CY G5.sr.stat fun o e=>k c.L o (fun z=>G5.sr.notStat (z▸List.mem_of_getElem? ra)) e) hl (o':=.barr (bl.take a.toNat++y++bl.drop b.toNat)) rfl
    have G:=(((G1.trans G2).trans G3).trans G4).trans (G5.trans G6)
    have F6:=F.go S G
    exact q .next _ _ ⟨rfl,rfl,rfl⟩ .next _ _ (C8.of_go G ko.le) F6 trivial
end
end Og
end
section
open PySem PySem.W PySem.Calls PyProof.Rows PySem.SeqAt
namespace Og
noncomputable def OB(K:Nat):DV→Bool
 | .tup l=>OA K l
 | .lst o=>decide (o<K)
 | .dct o _=>decide (o<K)
 | _=>true
noncomputable def aE(c:Cx)(P:Addr→Prop)(env:Env)(outer:List Env)(s₁:Shared)(r₁:List Addr)(ea:Addr)(s':Shared):Prop :=
 s₁.heap.get? ea=none∧∃B F a0,cM c s₁ r₁ B F s'∧(∀b∈F,P b)∧Heap.HeldW B (env::outer) ea (.ref 84) a0 env.locals s'.heap
section
variable{c:Cx}{T:Tab}{N:Nm}{κ κ':Option Nat}{k K:Nat}{A:Around}{s s₁ s₂ s':Shared}{r r₁ r₂ r':List Addr}{H H₁ H':AH}{env:Env}{outer l:List Env}{σ σ' σ₁:Env'}{P P₁:PostP}{X X₁:AH→Prop}{pos:Pos}{W:Addr→Prop}{src:DV}{j:Nat}{itv:Value}{w:List Addr}{t:PT}{b:List GS}
theorem It.keepK(x:It c s r H src j itv w)(S:SR c s r H)(Fs:O8 c s r l)(hW:∀a o,W a→s.heap.get? a=some o→¬AF o)(G:C8 c K W l s r H H' s' r')(nw:∀a∈w,¬W a∧a∉r∧a≠c.L∧¬aC l a)(lt:OB K src=true):It c s' r' H' src j itv w:=by
 have tp:=G.tups S Fs hW
 refine x.carry (fun I m o e=>(G.keep I o (nw I m).2.2.1 (nw I m).1 e (nw I m).2.1).1 (nw I m).2.2.2) (fun a o e q=>tp a o e q) (fun l z L y=>?_) (fun o a h e=>?_) fun o n z m es a eh ed=>?_
 ·subst z;exact y.monoK tp G.pre lt
 ·rcases h with rfl | ⟨n,rfl⟩<;>exact HY G.pre (of_decide_eq_true lt) e
 ·subst z;exact G.stamp _ _ _ _ (of_decide_eq_true lt) eh ed
theorem It.lt(x:It c s r H src j itv w):OB r.length src=true:=by
 refine x.elim (P:=fun _ _=>OB r.length src=true) ?_
 induction src using Og.DV.casesOn with
 | tup l=>exact fun _ _ _ _ _ y=>i9 y
 | lst o=>exact fun _ _ _ e=>decide_eq_true (List.getElem?_eq_some_iff.mp e).1
 | dct o n=>exact fun _ _ _ _ _ e _ _=>decide_eq_true (List.getElem?_eq_some_iff.mp e).1
 | nil=>exact trivial
 | str l=>exact fun _ _ _ _ _ _=>rfl
 | range n=>exact fun _ _=>rfl
 | enum l=>exact fun _ _ _ _ _ _ _ _ _ _=>rfl
noncomputable def YA(κ:Option Nat)(src:DV):Prop:=match κ with
 | some K=>OB K src=true
 | none=>True
theorem YA.lt(h:YA κ src)(x:It c s r H src j itv w):OB (FQ κ r) src=true:=by
 induction κ using Option.casesOn with
 | none=>exact x.lt
 | some K=>exact h
structure TL(c:Cx)(N:Nm)(κ:Option Nat)(k:Nat)(t:PT)(b:List GS)(src:DV)(j:Nat)(σ:Env')(H:AH)(P:PostP)(X:AH→Prop):Prop where
 run:∀{A:Around} {s:Shared} {r:List Addr} {env:Env} {outer:List Env} {t':Expr} {b':List Stmt} {itv:Value} {w:List Addr},AR k A→Cf c A s r env outer→SR c s r H→FR c s r env σ→dK κ r→MT N env.scope t t'→eW N env.scope b b' →
  (DN src=true→∃es k p,t'=.Tuple es k p)→It c s r H src j itv w→B5 c s r (LW env w)→(∀e∈env::outer,∀a,CC e a→a∉w) →
  ∀(R:Result→Shared→Prop),
   (∀f σ' H',P f σ' H'→∀fl s' r',C8 c (FQ κ r) (LW env w) (env::outer) s r H H' s' r'→FR c s' r' env σ'→uP c s'.heap r' f fl→R (.ok fl) s') →
   (∀H',X H'→∀ea s₁ r₁ s',C8 c (FQ κ r) (LW env w) (env::outer) s r H H' s₁ r₁→FR c s₁ r₁ env []→aE c (Fp (env::outer) (LW env w) s) env outer s₁ r₁ ea s'→R (.error (.ref ea)) s') →
   codeG (model c.prog c.w) A (.forLoop t' itv b' [] env) R s
theorem Cf.gokW(C:Cf c A s r env outer)(S:SR c s r H)(hW:∀a o,W a→s.heap.get? a=some o→¬AF o)(nw:∀e∈outer,∀a,CC e a→¬W a)(G:C8 c K W (env::outer) s r H H' s' r')(F':FR c s' r' env σ'):Cf c A s' r' env outer:=by
 refine⟨C.fr,fun e m=>?_,C.dj⟩
 rcases List.mem_cons.mp m with rfl | m'
 ·exact⟨F'.bare,(C.fs e m).2⟩
 ·exact O8.gok C.fs S C.dj G hW (l2:=outer) (fun e m=>List.mem_cons_of_mem _ m) nw e m'
theorem aF{a:Addr}(x:aC l a):∃e∈l,CC e a:=by
 refine Og.AB x fun e m z=>?_;clear x
 exact⟨e,m,.inl z⟩
theorem TL.done(L:CP c T N)(en:HA H j src=some none)(h:P .next σ H):TL c N κ k t b src j σ H P X:=.mk fun {A s r env outer t' b' itv w} R C S F ko mt mb hp I ap ow=>by
 intro Q q x
 have Aw:B5 c s r (fun a=>a∈w):=⟨fun a m=>ap.hs a (.inr m),fun a m=>ap.nr a (.inr m),fun a o m e=>ap.nt a o (.inr m) e⟩
 refine Y7 ?_
 refine It.next I S Aw (fun _ m=>m) R.handled en fun ov s1 g=>?_
 induction ov using Option.casesOn with
 | some X=>exact g.elim
 | none =>
  have g:BU c (fun a=>a∈w) s r H H s1 r:=g
  have F1:=F.gof S g Aw fun a o=>ow env List.mem_cons_self a o
  exact wpAny_execs_nil (q .next _ _ h .next s1 r (C8.of_goF (g.widen fun a m=>.inr m) ko.le) F1 trivial)
theorem LW.nt(I:It c s r H src j itv w)(F:FR c s r env σ):∀a o,LW env w a→s.heap.get? a=some o→¬AF o:=fun a o x e=>x.elim (fun x=>F.ownNt a o x e) fun m=>I.nt a m o e
theorem aE.mono{P P':Addr→Prop}{ea:Addr}(x:aE c P env outer s₁ r₁ ea s')(h:∀b,P b→P' b):aE c P' env outer s₁ r₁ ea s':=by
 obtain⟨f,B,F,a0,u,p,y⟩:=x
 exact⟨f,B,F,a0,u,fun b m=>h b (p b m),y⟩
theorem TL.step(L:CP c T N){x:AV}(en:HA H j src=some (some x))(eb:IO t x σ=some σ₁)(fit:YA κ src)(hb:BR c N κ k b σ₁ H P₁ X₁)(h1:∀σ2 H2,P₁ .next σ2 H2→TL c N κ k t b src (j+1) σ2 H2 P X)(h2:∀σ2 H2,P₁ .brk σ2 H2→P .next σ2 H2)
  (h3:∀v σ2 H2,P₁ (.ret v) σ2 H2→P (.ret v) σ2 H2) (h4:∀H2,X₁ H2→X H2):TL c N κ k t b src j σ H P X:=.mk fun {A s r env outer t' b' itv w} R C S F ko mt mb hp I ap ow=>by
 intro Q q x
 have Aw:B5 c s r (fun a=>a∈w):=⟨fun a m=>ap.hs a (.inr m),fun a m=>ap.nr a (.inr m),fun a o m e=>ap.nt a o (.inr m) e⟩
 have ow1:∀a,CC env a→a∉w:=fun a o=>ow env List.mem_cons_self a o
 refine Y7 ?_
 refine It.next I S Aw (fun _ m=>m) R.handled en fun ov s1 g=>?_
 induction ov using Option.casesOn with
 | none=>exact g.elim
 | some V =>
  obtain⟨g0,g⟩:=g
  dsimp only
  refine g t' _ _ hp fun s2 G2 y2 I2=>?_
  have F2:=F.gof S G2 Aw ow1
  refine asg L.toLk R.handled F2 G2.sr mt y2 eb fun s3 G3 F3=>?_
  have A2:=F2.apartW
  have I3:It c s3 r H src (j+1) itv w:=I2.keep G2.sr A2 G3 fun a m=>⟨fun o=>ow1 a o m,ap.nr a (.inr m),ap.notStat (.inr m)⟩
  have G03:BU c (LW env w) s r H H s3 r:=(G2.widen (W':=LW env w) fun a m=>.inr m).transW (G3.widen fun a m=>.inl m) ap.nr fun a o=>by
   rcases o with o | m
   ·exact F2.has o
   ·exact I2.has a m
  have K03:C8 c (FQ κ r) (LW env w) (env::outer) s r H H s3 r:=C8.of_goF G03 ko.le
  have C3:Cf c A s3 r env outer:=C.gokW S (LW.nt I F) (fun e m a o x=>x.elim (fun x=>RY C.dj m a o x) fun x=>ow e (List.mem_cons_of_mem _ m) a o x) K03 F3
  have I4:∀{H4 s4 r4},C8 c (FQ κ r) (CC env) (env::outer) s3 r H H4 s4 r4→It c s4 r4 H4 src (j+1) itv w:=fun G4=>I3.keepK G3.sr C3.fs F3.ownNt G4 (fun a m=>⟨fun o=>ow1 a o m,ap.nr a (.inr m),ap.notStat (.inr m),fun fx=>by
   refine Og.AB (aF fx) fun e me o=>?_
   exact ow e me a o m⟩) (fit.lt I3)
  have nw:∀{H4 s4 r4 σ4},C8 c (FQ κ r) (CC env) (env::outer) s3 r H H4 s4 r4→FR c s4 r4 env σ4→∀a,LW env w a→a∉r4:=fun G4 F4 a o=>o.elim (F4.notIn a) fun m m4=>(I4 G4).nr G4.sr a m m4
  have trans:∀{H4 s4 r4 σ4},C8 c (FQ κ r) (CC env) (env::outer) s3 r H H4 s4 r4→FR c s4 r4 env σ4→C8 c (FQ κ r) (LW env w) (env::outer) s r H H4 s4 r4:=fun G4 F4=>K03.trans (G4.widen fun a o=>.inl o) (Nat.le_refl _) (nw G4 F4)
  refine hb.run R C3 G3.sr F3 ko mb _ _ (fun f σ4 H4 p4 fl s4 r4 G4 F4 x4=>?_) fun H4 xx ea sx rx s' Gx Fx y=>?_
  ·induction f using Og.Fl.casesOn with
   | next =>
    exists fl<;>first | exact x4.elim | skip
    dsimp only
    have C4:Cf c A s4 r4 env outer:=C3.gok G3.sr F3 G4 F4
    have ap4:=MF F4 (I4 G4) (fun a m=>ap.hs a (.inr m)) G4.sr
    refine(h1 σ4 H4 p4).run R C4 G4.sr F4 (ko.gok G4) mt mb hp (I4 G4) ap4 ow Q (fun f5 σ5 H5 p5 fl5 s5 r5 G5 F5 x5=>?_) fun H5 x5 ea sx rx s' Gx Fx y=>?_
    ·refine q f5 σ5 H5 p5 fl5 s5 r5 ((trans G4 F4).trans G5 (EC G4 rfl) fun a o=>?_) F5 x5
     rcases G5.new a |> fun _=>o with o | m
     ·exact F5.notIn a o
     ·intro m5
      rcases G5.new a m5 with z | z
      ·exact ap4.nr a (.inr m) z
      ·refine Og.AI ((I4 G4).has a m) fun ob e=>?_
       rw [e] at z;exists z
    ·refine x H5 x5 ea sx rx s' ((trans G4 F4).trans Gx (EC G4 rfl) fun a o=>?_) Fx (y.mono fun b=>Fp.dom (trans G4 F4).dom fun _ w=>w)
     rcases o with o | m
     ·exact Fx.notIn a o
     ·intro m5
      rcases Gx.new a m5 with z | z
      ·exact ap4.nr a (.inr m) z
      ·refine Og.AI ((I4 G4).has a m) fun ob e=>?_
       rw [e] at z;exists z
   | brk =>
    exists fl<;>first | exact x4.elim | skip
    exact q .next σ4 H4 (h2 _ _ p4) .next s4 r4 (trans G4 F4) F4 trivial
   | ret v =>
    exists fl<;>first | exact x4.elim | skip
    exact q (.ret v) σ4 H4 (h3 _ _ _ p4) _ s4 r4 (trans G4 F4) F4 x4
  ·have Cx:Cf c A sx rx env outer:=C3.gok G3.sr F3 Gx Fx
   refine Q5 C.fr Cx.fs y (fun b z=>.inl z) fun s'' hh=>?_
   exact x H4 (h4 _ xx) ea sx rx s'' (trans Gx Fx) Fx ⟨y.1,by
    refine Og.IK hh fun B F a0 u p z=>?_;clear hh
    exact⟨B,F,a0,u,fun b m=>Fp.dom K03.dom (fun _ w=>.inl w) (p b m),z⟩⟩
theorem BH.for(L:CP c T N)(Fn:AY c T N){it:PX}{j':Nat}(hj:j'≤k)(e:(ev T j').it it σ H=some (src,H₁))(hz:FV it=false)(h:TL c N κ k t b src 0 σ H₁ P X):BH c N κ k (.for t it b) σ H P X:=.mk fun {A s r env outer st} R C S F ko m=>by
 intro Q E q x
 refine m.elim fun _ _ _ _ ht mt mi mb=>?_
 have D:=HW L Fn j'
 refine oL ((D.it (R.le hj) S F mi hz e).go fun V s1 r1 G1 B1=>?_) mi.folded
 refine B1 _ _ fun itv w s2 G2 I2 fw=>?_
 have G:=G1.trans G2
 have F2:=F.go S G
 have A2:=MF F2 I2 (fun a m=>FM S (fw a m)) G.sr
 have hp:=fun(hp:DN src=true)=>NX mt ht (D.pr _ _ _ _ _ e hp).choose_spec
 have K2:C8 c (FQ κ r) (CC env) (env::outer) s r H H₁ s2 r1:=C8.of_go G ko.le
 have C2:=C.gok S F K2 F2
 have ow:∀e∈env::outer,∀a,CC e a→a∉w:=fun e m a o mw=>by
  refine Og.AI ((C.fs e m).1.has o) fun ob q=>?_
  rw [fw a mw] at q;exists q
 have fin:∀{H3 s3 r3},C8 c (FQ κ r1) (LW env w) (env::outer) s2 r1 H₁ H3 s3 r3→(∀a,LW env w a→a∉r3)→C8 c (FQ κ r) (CC env) (env::outer) s r H H3 s3 r3:=fun G3 n=>by
  have:=(K2.widen (W':=LW env w) fun a o=>.inl o).trans G3 (EC K2 rfl) n
  exact this.drop fun a o=>o.elim .inl fun m=>.inr (fw a m)
 have nr:∀{H3 s3 r3 σ3},C8 c (FQ κ r1) (LW env w) (env::outer) s2 r1 H₁ H3 s3 r3→FR c s3 r3 env σ3→∀a,LW env w a→a∉r3:=fun G3 F3 a o=>by
  rcases o with o | m
  ·exact F3.notIn a o
  ·intro m3
   rcases G3.new a m3 with z | z
   ·exact A2.nr a (.inr m) z
   ·refine Og.AI (I2.has a m) fun ob e=>?_
    rw [e] at z;exists z
 refine h.run R C2 G.sr F2 (ko.gok K2) mt mb hp I2 A2 ow _ (fun f σ3 H3 p3 fl s3 r3 G3 F3 x3=>?_) fun H3 x3 ea sx rx s' Gx Fx y=>?_
 ·exact q f σ3 H3 p3 fl s3 r3 (fin G3 (nr G3 F3)) F3 x3
 ·have Cx:O8 c sx rx (env::outer):=(C2.gokW G.sr (LW.nt I2 F2) (fun e m a o x=>x.elim (fun x=>RY C.dj m a o x) fun x=>ow e (List.mem_cons_of_mem _ m) a o x) Gx Fx).fs
  refine cO (C.fs _ List.mem_cons_self).2 y.2 fun s'' hh=>?_
  refine x H3 x3 ea sx rx s'' (fin Gx (nr Gx Fx)) Fx (OY.mono (cN y.1 hh) fun b z=>?_)
  rcases z with z | (z | z) | z
  ·exact .inl z
  ·exact .inr (.inl z)
  ·exact .inr (.inr (fw b z))
  ·exact(K2.dom b z).elim (fun w=>.inr (.inl w)) fun z=>.inr (.inr z)
end
section
variable{c:Cx}{T:Tab}{N:Nm}{κ κ':Option Nat}{k K:Nat}{A:Around}{s s₁ s₂ s':Shared}{r r₁ r₂ r':List Addr}{H H₁ H':AH}{env:Env}{outer l:List Env}{σ σ' σ₁:Env'}{P P₁:PostP}{X X₁:AH→Prop}{pos:Pos}{W:Addr→Prop}{ea:Addr}
theorem ED{h:Heap}{b:Addr}{o:Obj}(e:h.get? b=some o)(n:b≠ea):(hideAll h [ea]).get? b=some o:=hideAll_get _ e (by simpa using n)
theorem SR.hide(S:SR c s r H)(nt:∀o,s.heap.get? ea=some o→¬AF o)(hs:c.hs.get? ea=none)(nr:ea∉r)(ns:ea≠c.L):SR c { s with heap:=hideAll s.heap [ea] } r H:=by
 have tp:∀a o,s.heap.get? a=some o→AF o→(hideAll s.heap [ea]).get? a=some o:=fun a o e t=>ED e fun z=>nt o (z▸e) t
 refine⟨fun a o z e=>ED (S.keep a o z e) fun q=>?_,CY S.stat fun o e=>ED e fun q=>ns q.symm,S.len,fun i o e=>?_,S.nodup,S.fresh,S.gens,S.os⟩
 ·rw [q,hs] at e;exists e
 ·refine Og.BV (S.obj i o e) fun a ob e1 e2 e3=>?_
  exact⟨a,ob,e1,ED e2 fun q=>nr (q▸List.mem_of_getElem? e1),e3.mono tp (List.prefix_refl r)⟩
theorem FR.hide(F:FR c s r env σ)(S:SR c s r H)(nt:∀o,s.heap.get? ea=some o→¬AF o)(no:∀a,CC env a→a≠ea):FR c { s with heap:=hideAll s.heap [ea] } r env []:=by
 have kp:∀a o,CC env a→s.heap.get? a=some o→(hideAll s.heap [ea]).get? a=some o:=fun a o w e=>ED e (no a w)
 refine⟨F.kind,F.globals,F.builtins,?_,fun x v e _=>(by exists e),fun n a e=>?_,F.apart,F.inj,F.notHs,F.notIn,fun x v e=>(by exists e),F.own⟩
 ·obtain⟨m,n⟩:=F.ns;exact⟨m,CY n fun o=>kp _ o (.inl rfl)⟩
 ·obtain⟨v,i⟩:=F.cells n a e;exact⟨v,BO i fun o=>kp _ o (.inr ⟨_,e⟩)⟩
theorem BH.raise(L:CP c T0 N0)(Fn:AY c T0 N0)(XK:OI c){p:PX}{v:AV}(hk25:25≤k){j:Nat}(hj:j≤k)(e:(ev T0 j).es [p] σ H=some ([v],H₁)):BH c N0 κ k (.raise p) σ H (fun _ _ _=>False) (fun H'=>H'=H₁):=.mk fun {A s r env outer st} R C S F ko m=>by
 intro Q E q x
 refine m.elim fun _ _ _ _ _ hg hk hn m=>?_
 show wpG _ _ (exec _ _) _ _ _
 have D:=HW L Fn j
 have ms:JO N0 env.scope [p] [_]:=.cons ⟨hn,m⟩ .nil
 refine Og.AI XK.obj fun xc hC=>?_
 rw [arm_exec_Raise]
 refine wpAny.g (wpAny_bind (wpAny_standAt ?_))
 refine mH (CL:=47) (xc:=xc) (hd:=true) R.handled ?_
 refine wpAny_bind (wpAny_mono (Call_ (NQ L.toLk F S hg hk (XK.fault _ hk) ?_)) (fun v s₃ h₃=>wpAny_bind (wpAny_standAt (wpAny_pure h₃))) fun _ _ z=>z)
 refine RL (first:=[]) XK.keep ms (D.es _ (R.le hj) S F ms e) fun Vs s1 r1 G1 y1=>?_
 refine AJ.e1 y1 fun Y y1=>?_
 refine i7 L Fn XK (R.le hk25) G1.sr fun ea s2 f0 ix G2=>?_
 have G12:=G1.trans G2
 have fs:s.heap.get? ea=none:=(BU.dom (W:=EJ) G1.f ea f0).elim (fun w=>w.elim) id
 have F2:=F.go S G12
 have nt:∀o,s2.heap.get? ea=some o→¬AF o:=fun o e t=>by
  refine Og.dQ ix fun a0 dx sl he=>?_;clear ix
  rw [he] at e;exists e
  exists t.1
 have hs:c.hs.get? ea=none:=aB S fs
 have nr:ea∉r1:=L9 G1.sr f0
 have ns:ea≠c.L:=fun z=>by
  refine Og.ES S.stat fun o _ _ e' _=>?_
  rw [z,e'] at fs;exists fs
 have nos:∀{a o},s.heap.get? a=some o→a≠ea:=fun e z=>by rw [z,fs] at e;exists e
 have no:∀a,CC env a→a≠ea:=fun a o=>by
  refine Og.AI (F.has o) fun ob e=>?_
  exact nos e
 refine⟨ea,rfl,G2.sr.keep 84 _ (Cx.ne (by decide) (by decide)) hC,ix,?_⟩
 refine x H₁ rfl ea { s2 with heap:=hideAll s2.heap [ea] } r1 s2 ⟨G2.sr.hide nt hs nr ns,ko.le,(C8.of_go (W:=EJ) (l:=[]) G12 ko.le).pre,fun a o z w e m=>?_,G12.evo.new,fun a e=>?_,fun i n es a lt e ea'=>?_⟩ (F2.hide G2.sr nt no) ⟨?_,.inl ⟨ix,fun b o e=>of_hideAll _ e,rfl,rfl⟩⟩
 ·have:=ED (G12.evo.keep a o z e m) (nos e)
  exact⟨fun _=>this,o.slots,this⟩
 ·by_cases z:a=ea
  ·exact .inr (z▸fs)
  ·refine(BU.dom (W:=CC env) G12.f a ?_)
   cases q:s2.heap.get? a with
   | none=>rfl
   | some o=>rw [ED q z] at e;exists e
 ·refine Og.BV (G12.stamp i n es a e ea') fun n' es' e1 l1 q1=>?_
  refine⟨n',es',e1,l1,fun z=>?_⟩
  rw [←q1 z]
  refine Og.FG (S.has (List.mem_of_getElem? ea')) fun _ _ ob _ _ q _=>?_
  refine Og.FG (G12.sr.has (G12.pre.subset (List.mem_of_getElem? ea'))) fun _ _ ob2 _ _ q2 _=>?_
  rw [q2]
  exact ED q2 (nos q)
 ·exact hideAll_none _ (by simp)
theorem vY{h:Heap}{a:Addr}{v:Option Value}(x:h.IsCell a v):¬∃m,h.Ns a m:=fun⟨m,n⟩=>by
 refine Og.AB x fun o e d=>?_;clear x
 refine Og.IK n fun o' es ep e' q _=>?_;clear n
 rw [e] at e';exists e';rw [d] at q;exists q
theorem aG{B:Heap}{F:List Addr}(G:C8 c K W l s r H H' s₁ r₁)(u:cM c s₁ r₁ B F s')(p:∀b∈F,Fp l W s b)(st:B.StaysIn s'.heap):C8 c K W l s r H H' s' r₁:=by
 have kp:∀a o,s₁.heap.get? a=some o→a∉F→s'.heap.get? a=some o:=fun a o e n=>st a o (u.sub a o e n)
 have sl:∀a o,s₁.heap.get? a=some o→∃sl,s'.heap.get? a=some { o with slots:=sl }:=fun a o e=>by
  by_cases m:a∈F
  ·obtain⟨_,_,mm,o',es,ep,e',d,_⟩:=u.fr a m
   rw [e] at e';exists e'
   exact u.up a o e fun vs q=>by rw [d] at q;exists q
  ·exact⟨o.slots,kp a o e m⟩
 have nF:∀a,a∈r₁→a∉F:=fun a m f=>(u.fr a f).1 m
 have tp:∀a o,s₁.heap.get? a=some o→AF o→s'.heap.get? a=some o:=fun a o e t=>kp a o e fun f=>by
  obtain⟨_,_,mm,n⟩:=u.fr a f
  exact DF n e t
 have S1:=G.sr
 refine⟨⟨fun a o z e=>kp a o (S1.keep a o z e) fun f=>?_,CY S1.stat fun o e=>kp _ o e fun f=>?_,S1.len,fun i o e=>?_,S1.nodup,S1.fresh,by rw [u.gens];exact S1.gens,by rw [u.os];exact S1.os⟩,G.le,G.pre,fun a o z w e m=>⟨fun f=>?_,?_⟩,G.new,fun a e=>G.dom a ?_,fun i n es a lt e ea=>?_⟩
 ·rw [(u.fr a f).2.1] at e;exists e
 ·have:=(u.fr _ f).2.1
  refine Og.ES c.stat fun o _ _ e _=>?_
  rw [e] at this;exists this
 ·refine Og.BV (S1.obj i o e) fun a ob e1 e2 e3=>?_
  exact⟨a,ob,e1,kp a ob e2 (nF a (List.mem_of_getElem? e1)),e3.mono tp (List.prefix_refl _)⟩
 ·refine kp a o ((G.keep a o z w e m).1 f) fun mf=>?_
  rcases p a mf with q | q | q
  ·exact f q
  ·exact w q
  ·rw [e] at q;exists q
 ·refine Og.AI ((G.keep a o z w e m).2) fun s1 e1=>?_
  refine Og.AI (sl a _ e1) fun s2 e2=>?_
  exact⟨s2,e2⟩
 ·cases q:s₁.heap.get? a with
  | none=>rfl
  | some o =>
   refine Og.AI (sl a o q) fun _ e'=>?_
   rw [e] at e';exists e'
 ·refine Og.BV (G.stamp i n es a lt e ea) fun n' es' e1 l1 q1=>?_
  refine⟨n',es',e1,l1,fun z=>?_⟩
  have ea1:=HY G.pre lt ea
  refine Og.FG (S1.has (List.mem_of_getElem? ea1)) fun _ _ ob2 _ _ q2 _=>?_
  rw [←q1 z,q2]
  exact kp a ob2 q2 (nF a (List.mem_of_getElem? ea1))
theorem iB{B:Heap}{F:List Addr}(F1:FR c s₁ r₁ env [])(u:cM c s₁ r₁ B F s')(st:B.StaysIn s'.heap):FR c s' r₁ env []:=by
 have kp:∀a o,s₁.heap.get? a=some o→a∉F→s'.heap.get? a=some o:=fun a o e n=>st a o (u.sub a o e n)
 refine⟨F1.kind,F1.globals,F1.builtins,?_,fun x v e _=>(by exists e),fun n a e=>?_,F1.apart,F1.inj,F1.notHs,F1.notIn,fun x v e=>(by exists e),F1.own⟩
 ·refine Og.AI F1.ns fun m n=>?_
  exact⟨m,u.up.ns n⟩
 ·refine Og.AI (F1.cells n a e) fun v i=>?_
  exact⟨v,BO i fun o q=>kp a o q fun f=>vY i (u.fr a f).2.2⟩
end
noncomputable def vZ:Fl→AV
 | .ret v=>v
 | _=>.none
section
variable{c:Cx}{T:Tab}{N:Nm}{κ κ':Option Nat}{k k' K:Nat}{A:Around}{s s₁ s₂ s':Shared}{r r₁ r₂ r':List Addr}{H H₁ H':AH}{env:Env}{outer l:List Env}{σ σ' σ₁:Env'}{P P₁:PostP}{X X₁:AH→Prop}{pos:Pos}{W:Addr→Prop}{ea:Addr}
theorem CG.of_body(Fn:AY c T N){f:Nat}{d:GFn}{vs:List AV}{Pc:AV→AH→Prop}(hd:T.gfn f=some d)(hb:CQ d.params d.dflts vs=some σ)(h:BR c N κ k d.body σ H P X)(hp:∀fl σ' H',P fl σ' H'→fl≠.brk∧Pc (vZ fl) H'):
  CG c κ (k+1) f vs H Pc X:=.mk fun {A s r outer Vs} R hfr Fs dj S y ko=>by
 intro Q q x
 refine Og.ES (Fn.gfn f d hd) fun fd body dv Fa mm=>?_
 refine Og.AB (XV Fa S) fun ob eo ed=>?_
 refine Og.BB (L5 hb) fun l1 l2 _=>?_
 rw [y.length] at l1 l2
 refine RO (by have:=R.depth;show A.depth<1000;lia) eo ed S.nolimit (GO Fa.code rfl S.keep) Fa.body (Fa.bind s Vs S.keep l1 l2) Fa.clo (JI Fa) (fun s1 I=>?_) Fa.co Fa.gen Fa.kind
 refine Og.BB (JH Fa S y hb I) fun G1 F1 fr=>?_
 have K1:C8 c (FQ κ r) (CC (callEnvC fd s.heap.objs.size (c.fa f))) (callEnvC fd s.heap.objs.size (c.fa f)::outer) s r H H s1 r:=C8.of_go G1 ko.le
 have Fs1:O8 c s1 r (callEnvC fd s.heap.objs.size (c.fa f)::outer):=fun e m=>by
  rcases List.mem_cons.mp m with rfl | m
  ·exact⟨F1.bare,rfl⟩
  ·exact Fs.go S G1 e m
 have dj1:DJ (callEnvC fd s.heap.objs.size (c.fa f)::outer):=List.pairwise_cons.mpr ⟨fun e m a o1 o2=>(by
  refine Og.AI ((Fs e m).1.has o2) fun ob q=>?_
  rw [fr a o1] at q;exists q),dj⟩
 have C1:Cf c (A.deeper (callEnvC fd s.heap.objs.size (c.fa f))) s1 r (callEnvC fd s.heap.objs.size (c.fa f)) outer:=⟨Around.frames_deeper hfr,Fs1,dj1⟩
 have fin:∀{H2 s2 r2},C8 c (FQ κ r) (CC (callEnvC fd s.heap.objs.size (c.fa f))) (callEnvC fd s.heap.objs.size (c.fa f)::outer) s1 r H H2 s2 r2→(∀a,CC (callEnvC fd s.heap.objs.size (c.fa f)) a→a∉r2)→C8 c (FQ κ r) EJ outer s r H H2 s2 r2:=fun G2 n =>
  (((K1.trans G2 (Nat.le_refl _) n).drop (W':=EJ) fun a w=>.inr (fr a w))).frames fun a z=>by
   refine Og.AB z fun e m hr1=>?_;clear z;subst hr1
   rcases List.mem_cons.mp m with rfl | m
   ·exact .inr (fr _ (.inl rfl))
   ·exact .inl ⟨e,m,rfl⟩
 refine h.run (R.deeper _) C1 G1.sr F1 ko mm _ _ (fun fl σ' H' pp flow s2 r2 G2 F2 z=>?_) fun H' xx ea sx rx s2 Gx Fx y2=>?_
 ·obtain⟨nb,pc⟩:=hp fl σ' H' pp
  have G3:=fin G2 fun a w=>F2.notIn a w
  induction fl using Og.Fl.casesOn with
  | brk=>exact absurd rfl nb
  | next=>exists flow<;>first | exact z.elim | exact q _ H' pc .none s2 r2 G3 .none
  | ret v=>exists flow<;>first | exact z.elim | exact q _ H' pc _ s2 r2 G3 z
 ·have G3:=fin Gx fun a w=>Fx.notIn a w
  have Cx:=C1.gok G1.sr F1 Gx Fx
  refine Y6 C1.fr Cx.fs y2 (fun b w=>.inl w) fun s3 z=>?_
  refine x H' xx ea sx rx s3 G3 ?_
  obtain⟨f0,B,F,a0,u,p,fl⟩:=z
  refine⟨f0,B,F,a0,u,fun b m=>?_,fl⟩
  rcases p b m with w | w | w
  ·refine Og.AB w fun e me hr1=>?_;clear w;subst hr1
   rcases List.mem_cons.mp me with rfl | me
   ·exact .inr (.inr (fr _ (.inl rfl)))
   ·exact .inl ⟨e,me,rfl⟩
  ·exact .inr (.inr (fr b w))
  ·exact .inr (.inr ((K1.dom b w).elim (fr b) id))
theorem CG.le{f:Nat}{vs:List AV}{Pc:AV→AH→Prop}(h:CG c κ k f vs H Pc X)(le:k≤k'):CG c κ k' f vs H Pc X:=.mk fun {A s r outer Vs} R=>h.run (R.le le)
theorem CG.post{f:Nat}{vs:List AV}{Pc Pd:AV→AH→Prop}(h:CG c κ k f vs H Pc X)(h1:∀v H',Pc v H'→Pd v H')(h2:∀H',X H'→X₁ H'):CG c κ k f vs H Pd X₁:=.mk fun {A s r outer Vs} R hfr Fs dj S y ko Q q x=>h.run R hfr Fs dj S y ko Q (fun v H' p=>q v H' (h1 v H' p)) fun H' z=>x H' (h2 H' z)
theorem BR.le{l:List GS}(h:BR c N κ k l σ H P X)(le:k≤k'):BR c N κ k' l σ H P X:=.mk fun {A s r env outer st} R=>h.run (R.le le)
theorem BH.le{l:GS}(h:BH c N κ k l σ H P X)(le:k≤k'):BH c N κ k' l σ H P X:=.mk fun {A s r env outer st} R=>h.run (R.le le)
theorem TL.le{t:PT}{b:List GS}{src:DV}{j:Nat}(h:TL c N κ k t b src j σ H P X)(le:k≤k'):TL c N κ k' t b src j σ H P X:=.mk fun {A s r env outer t' b' itv w} R=>h.run (R.le le)
theorem CG.cut{f:Nat}{vs:List AV}{Pc:AV→AH→Prop}(h:CG c none k f vs H Pc X):CG c κ k f vs H Pc X:=.mk fun {A s r outer Vs} R hfr Fs dj S y ko Q q x =>
 h.run R hfr Fs dj S y (fun _ z=>by exists z) Q (fun v H' p V s' r' G=>q v H' p V s' r' (G.le_K ko.le)) fun H' z ea s₁ r₁ s' G=>x H' z ea s₁ r₁ s' (G.le_K ko.le)
structure VP(c:Cx)(K:Nat)(σ:Env')(H:AH)(σ₂:Env')(H₂:AH):Prop where
 le:∀{s:Shared} {r:List Addr},SR c s r H→∃r₂,SR c s r₂ H₂∧r₂.take K=r.take K∧K≤r.length∧(∀a∈r₂,a∈r)∧(∀{env:Env},FR c s r env σ→FR c s r₂ env σ₂)
theorem FC{W:Addr→Prop}{l:List Env}{H₂:AH}(S2:SR c s r₂ H₂)(pre:r₂.take K=r.take K)(le:K≤r.length)(sub:∀a∈r₂,a∈r)(hst:∀i n es,i<K→H[i]?=some (.sdict n es)→∃es',H₂[i]?=some (.sdict n es')):C8 c K W l s r H H₂ s r₂ :=
 ⟨S2,le,pre,fun a o _ _ e _=>⟨fun _=>e,o.slots,e⟩,fun a m=>.inl (sub a m),fun a e=>.inr e,fun i n es a lt e _=>by
  refine Og.AI (hst i n es lt e) fun es' e'=>?_
  exact⟨n,es',e',Nat.le_refl _,fun _=>rfl⟩⟩
theorem BR.weak{l:List GS}{σ₂:Env'}{H₂:AH}(wk:VP c K σ H σ₂ H₂)(hst:∀i n es,i<K→H[i]?=some (.sdict n es)→∃es',H₂[i]?=some (.sdict n es'))(h:BR c N (some K) k l σ₂ H₂ P X):BR c N (some K) k l σ H P X:=.mk fun {A s r env outer st} R C S F ko m Q E q x=>by
 refine Og.k7 (wk.le S) fun r₂ S2 pre le sub fr=>?_
 have F2:=fr F
 have G:C8 c K (CC env) (env::outer) s r H H₂ s r₂:=FC S2 pre le sub hst
 exact h.run R (C.gok S F G F2) S2 F2 (fun K' e=>by exists e;exact G.len) m Q E (fun f σ' H' p fl s' r' G' F' z=>q f σ' H' p fl s' r' (G.trans G' (Nat.le_refl _) fun a w=>F'.notIn a w) F' z) fun H' z ea s₁ r₁ s' G' F' y=>x H' z ea s₁ r₁ s' (G.trans G' (Nat.le_refl _) fun a w=>F'.notIn a w) F' y
end
section
variable{M:Model}{A:Around}{E:Value→Shared→Prop}{s:Shared}{env:Env}
theorem cQ{body orelse:Sem Flow}{h₀:ExceptHandler}{hs:List ExceptHandler}{Q:Flow→Shared→Prop}
  (h:wpG M A body (fun f s₁=>match f with | .next=>wpG M A orelse Q E s₁ | f=>Q f s₁)
   (fun e s₁=>wpAny M A (noteFrame e env) (fun _ s₂=>wpAny M A (setFlight e none) (fun _ s₃=>wpAny M A (handleBy e env (h₀::hs)) Q E s₃) E s₂) E s₁) s) :
  wpG M A (tryStmt false body (h₀::hs) orelse [] env) Q E s:=by
 show wpG M A (body.attempt>>=_) Q E s
 refine AN (bW (CM h (fun f s₁ h₁=>?_) fun e s₁ h₁=>?_))
 ·cases f<;>first | exact h₁ | exact AX h₁
 ·exact wpAny.g (wpAny_bind (wpAny_mono h₁ (fun _ _ h₂=>wpAny_bind h₂) fun _ _ x=>x))
end
theorem iC(CL:Addr):(jX CL).contains (.type "BaseException")=true:=by simp
section
variable{c:Cx}{κ:Option Nat}{k:Nat}{H:AH}{σ:Env'}{P P₁:PostP}{X X₁:AH→Prop}
set_option maxHeartbeats 1000000 in
theorem BH.try_(L:CP c T0 N0)(Fn:AY c T0 N0)(XK:OI c){b:List GS}{m:List Nat}(hb:BR c N0 κ k b σ H P₁ X₁)(h1:∀f σ' H',P₁ f σ' H'→P f σ' H')(h2:∀H',X₁ H'→P (.ret (.str m)) [] H'):
  BH c N0 κ k (.try_ b [.leaf (.ret (.const (.str m)))]) σ H P X:=.mk fun {A s r env outer st} R C S F ko mt=>by
 intro Q E q x
 refine mt.elim fun _ _ _ _ _ _ hg hk mb mh=>?_
 show wpG _ _ (exec _ _) _ _ _
 cases mh with | cons mh1 mh2 =>
 exists mh2
 rw [arm_exec_Try]
 refine A9 (wpAny_standAt (cQ (hb.run R C S F ko mb _ _ (fun f σ' H' p fl s' r' G F' z=>?_) fun H' xx ea s₁ r₁ s' G F' y=>?_)))
 ·have qq:=q f σ' H' (h1 _ _ _ p) fl s' r' G F' z
  induction f using Og.Fl.casesOn with
  | next=>exists fl<;>first | exact z.elim | exact LK qq
  | brk=>exists fl<;>first | exact z.elim | exact qq
  | ret v=>exists fl<;>first | exact z.elim | exact qq
 ·have C1:=C.gok S F G F'
  refine Og.AI XK.obj fun xc hC=>?_
  refine Q5 C.fr C1.fs y (fun b w=>.inl w) fun s2 hh=>?_
  refine Og.IK hh fun B Fr a0 u p hl=>?_;clear hh
  refine wpAny_landsW hl fun h3 fl3 k3=>?_
  have u3:=u.next k3
  have G3:C8 c (FQ κ r) (CC env) (env::outer) s r H H' { s2 with heap:=h3 } r₁:=aG G u3 p fl3.1
  have F3:=iB F' u3 fl3.1
  refine wpAny_handleBy_cons (codeAny_handlers_test (NQ L.toLk F3 G3.sr hg hk (XK.fault _ hk) ?_)) (by intro z;exists z)
  refine Og.aX fl3 fun fa fb fc fd=>?_;clear fl3
  obtain⟨oe,vs,T,oT,ts,he,⟨hcls,h0⟩,hd,ht,hnT,hTe,hT,hdT,h3'⟩:=fd
  have hC3:=G3.sr.keep 84 _ (Cx.ne (by decide) (by decide)) hC
  obtain⟨hp3,g3,d3,t3,os3⟩:=s2
  refine wpAny_excMatches_sub_self hC3 he hcls (iC 47) ?_
  refine codeAny_handlers_suite ?_
  refine wpAny_setFlight_noneW (base:=B) (l:=env::outer) (e:=ea) (cls:=.ref 84) (a0:=a0) (fl:=.none) fa fc ⟨oe,vs,T,oT,ts,he,⟨hcls,h0⟩,hd,ht,hnT,hTe,hT,hdT,h3'⟩ fun h4 k1 k2 k4 k5=>?_
  have u4:=u3.next (h':=h4) fun b o e hn=>⟨o.slots,k5 b o e hn⟩
  have G4:C8 c (FQ κ r) (CC env) (env::outer) s r H H' ⟨h4,g3,d3,t3,os3⟩ r₁:=aG G u4 p k1
  have F4:FR c ⟨h4,g3,d3,t3,os3⟩ r₁ env []:=iB F' u4 k1
  have mh3:=mh1.elim (P:=MS N0 env.scope (.ret (.const (.str m)))) fun _ m=>m
  clear mh1
  refine mh3.elim fun _ _ me=>?_
  refine wpAny_execs_cons (wpAny_Return_some ?_)
  refine(MB G4.sr me).go fun V s5 r5 G5 y5=>?_
  have F5:=F4.go G4.sr G5
  exact q (.ret (.str m)) [] H' (h2 H' xx) (.ret V) s5 r5 (G4.trans (C8.of_go (K:=FQ κ r) G5 G4.len) (Nat.le_refl _) fun a w=>F5.notIn a w) F5 y5
end
noncomputable def KD(fl:LQ)(σ':Env')(H':AH):PostP:=fun f σ2 H2=>fl=.go f∧σ2=σ'∧H2=H'
noncomputable def P0(fl:LQ)(H':AH):AH→Prop:=fun H2=>fl=.exc∧H2=H'
structure Sg(c:Cx)(n:Nat):Prop where
 s:∀{p σ H fl σ' H'},(eg T0 n).s p σ H=some (fl,σ',H')→BH c N0 none (n+30) p σ H (KD fl σ' H') (P0 fl H')
 ss:∀{l σ H fl σ' H'},(eg T0 n).ss l σ H=some (fl,σ',H')→BR c N0 none (n+30) l σ H (KD fl σ' H') (P0 fl H')
 loop:∀{t b src j σ H fl σ' H'},(eg T0 n).loop t b src j σ H=some (fl,σ',H')→TL c N0 none (n+30) t b src j σ H (KD fl σ' H') (P0 fl H')
 call:∀{f vs H out H'},(eg T0 n).call f vs H=some (out,H')→CG c none (n+30) f vs H (fun v H2=>out=some v∧H2=H') (fun H2=>out=none∧H2=H')
section
variable{c:Cx}{n:Nat}
theorem iD{p:PX}{σ:Env'}{H H₁:AH}{v:AV}(e:(ev T0 n).e p σ H=some (v,H₁)):(ev T0 (n+1)).es [p] σ H=some ([v],H₁):=by
 show CD _ _=_
 rw [e];rfl
theorem iE{args:List PX}{f:Nat}{σ:Env'}{H:AH}{k:AV→AH→Option (LQ×Env'×AH)}{z:LQ×Env'×AH}{P:Prop}(e:QE (ev T0 n) (eg T0 n) args f σ H k=some z)
  (h:∀vs H₁ out H₂,(ev T0 n).es args σ H=some (vs,H₁)→(eg T0 n).call f vs H₁=some (out,H₂)→(∀v,out=some v→k v H₂=some z)→(out=none→(LQ.exc,σ,H₂)=z)→P):P:=by
 refine A5 e ?_
 intro vs H1 e1 e
 refine A5 e ?_
 intro out H2 e2 e
 refine h vs H1 out H2 e1 e2 (fun v q=>?_) (fun q=>?_)
 ·subst q;exact e
 ·subst q;exact Option.some.inj e
theorem IW{fl:LQ}{σ':Env'}{H':AH}{f:Fl}{σ:Env'}{H:AH}(e:some (LQ.go f,σ,H)=some (fl,σ',H')):KD fl σ' H' f σ H:=by exists e;exact⟨rfl,rfl,rfl⟩
theorem S4{fl:LQ}{σ':Env'}{H':AH}{σ:Env'}{H:AH}(e:(LQ.exc,σ,H)=(fl,σ',H')):P0 fl H' H:=by exists e;exact⟨rfl,rfl⟩
theorem rC{t:PT}{b:List GS}{src:DV}{j:Nat}{σ σ':Env'}{H H':AH}{fl:LQ}(e:(eg T0 n).loop t b src j σ H=some (fl,σ',H'))(h:src=.nil):fl=.go .next∧σ'=σ∧H'=H:=by
 subst h
 induction n using Nat.casesOn with
 | zero=>exists e
 | succ n=>exists e;exact⟨rfl,rfl,rfl⟩
theorem BH.zip(L:CP c T0 N0)(Fn:AY c T0 N0){k:Nat}{t:PT}{b:List GS}{src:DV}{σ σ':Env'}{H H₁ H':AH}{fl:LQ}{it:PX}{j':Nat}(hj:j'≤k)(e:(ev T0 j').it it σ H=some (src,H₁))(hz:FV it=true)(h:src=.nil→fl=.go .next∧σ'=σ∧H'=H₁):
  BH c N0 none k (.for t it b) σ H (KD fl σ' H') (P0 fl H'):=.mk fun {A s r env outer st} R C S F ko m=>by
 intro Q E q x
 refine m.elim fun _ _ _ _ ht mt mi mb=>?_
 have D:=HW L Fn j'
 obtain⟨hs,tz⟩:=D.z (R.le hj) S F mi hz e
 refine Og.BB (h hs) fun hr1 hr2 hr3=>?_;subst hr1 hr2 hr3
 refine oL (tz _ _ fun V s1 r1 Z=>?_) mi.folded
 refine Z _ _ fun itv s2 en=>?_
 refine Y7 (en _ _ fun s3 G3=>?_)
 exact wpAny_execs_nil (q .next _ _ ⟨rfl,rfl,rfl⟩ .next s3 r1 (C8.of_go G3 ko.le) (F.go S G3) trivial)
theorem S6{p:GS}{σ:Env'}{H:AH}{z:LQ×Env'×AH}{out:Option AV}{H2:AH}{m:Nat}(F:AV→Fl)(G:AV→Env')
  (t:BH c N0 none m p σ H (fun fl σ' H'=>∃v,fl=F v∧σ'=G v∧out=some v∧H'=H2) (fun H'=>out=none∧H'=H2))
  (e1:∀v,out=some v→some (LQ.go (F v),G v,H2)=some z) (e2:out=none→(LQ.exc,σ,H2)=z):BH c N0 none m p σ H (KD z.1 z.2.1 z.2.2) (P0 z.1 z.2.2):=by
 refine BH.post t (fun f2 σ2 H3 q=>?_) fun H3 q=>?_
 ·obtain⟨v,rfl,rfl,q,rfl⟩:=q
  exact IW (e1 v q)
 ·obtain⟨q,rfl⟩:=q
  exact S4 (e2 q)
theorem A_f(L:CP c T0 N0)(Fn:AY c T0 N0)(XK:OI c)(D:Sg c n){p:GS}{σ σ':Env'}{H H':AH}{fl:LQ}(e:eF T0 (ev T0 n) (eg T0 n) p σ H=some (fl,σ',H')):BH c N0 none (n+1+30) p σ H (KD fl σ' H') (P0 fl H'):=by
 have le:n+30≤n+1+30:=Nat.add_le_add_right (Nat.le_succ n) 30
 have ln:n≤n+1+30:=Nat.le_trans (Nat.le_add_right n 30) le
 have ln1:n+1≤n+1+30:=Nat.le_add_right _ _
 cases p with
 | leaf p =>
  refine A8 e ?_
  rintro⟨f,σ1,H1⟩ e1 e2
  exact BH.post (BH.leaf (X:=fun _=>False) L Fn ln e1) (fun f2 σ2 H2 z=>by obtain⟨rfl,rfl,rfl⟩:=z;exact IW (congrArg some e2)) fun _ z=>z.elim
 | assign x f args=>exact iE e fun vs H1 out H2 e1 e2 e3 e4=>S6 (fun _=>.next) (fun v=>(x,v)::σ) (BH.assign L Fn ln e1 (CG.le (D.call e2) le) (κ':=none) trivial) e3 e4
 | expr f args=>exact iE e fun vs H1 out H2 e1 e2 e3 e4=>S6 (fun _=>.next) (fun _=>σ) (BH.expr L Fn ln e1 (CG.le (D.call e2) le) (κ':=none) trivial) e3 e4
 | ret f args=>exact iE e fun vs H1 out H2 e1 e2 e3 e4=>S6 .ret (fun _=>σ) (BH.ret L Fn ln e1 (CG.le (D.call e2) le) (κ':=none) trivial) e3 e4
 | retC f args =>
  refine A5 e ?_
  intro vs H1 e1 e
  refine A3 e ?_
  intro f hi e
  refine A5 e ?_
  intro o H2 e2 e
  refine A3 e ?_
  rintro v rfl e
  refine A7 e ?_
  intro hv e
  exists IY hv
  refine BH.post (BH.retC (X:=fun _=>False) L Fn (k:=n+30) ln e1 hi (Pc:=fun H3=>H3=H2) (CG.post (D.call e2) (fun v H3 z=>?_) fun H3 z=>?_)) (fun f2 σ2 H3 z=>?_) fun _ z=>z.elim
  ·obtain⟨z,rfl⟩:=z;exists z;exact⟨rfl,rfl⟩
  ·exists z.1
  ·refine Og.BB z fun hr1 hr2 hr3=>?_;clear z;subst hr1 hr2 hr3;exact IW e
 | barr x p =>
  refine A5 e ?_
  intro v H1 e1 e
  refine A5 e ?_
  intro w H2 e2 e
  exact BH.post (BH.barr (X:=fun _=>False) L Fn ln1 (iD e1) e2) (fun f2 σ2 H3 z=>by obtain⟨rfl,rfl,rfl⟩:=z;exact IW e) fun _ z=>z.elim
 | barrC o a f args =>
  refine A5 e ?_
  intro vs H1 e1 e
  refine A5 e ?_
  intro u H2 e2 e
  refine A3 e ?_
  rintro v rfl e
  refine A5 e ?_
  intro w H3 e3 e
  refine A5 e ?_
  intro z H4 e4 e
  refine A7 e ?_
  intro ha e
  refine A8 e ?_
  intro H5 e5 e
  refine BH.post (BH.barrC (X:=fun _=>False) L Fn ln e1 (CG.post (CG.le (D.call e2) le) (Pd:=fun v' H'=>v'=v∧H'=H2) (X₁:=fun _=>False) (fun v H z=>?_) fun H z=>?_) ha (Pd:=fun H=>H=H5) (fun v' H' z=>?_)) (fun f2 σ2 H3 z=>?_) fun _ z=>z.elim
  ·obtain⟨z,rfl⟩:=z;exists z;exact⟨rfl,rfl⟩
  ·exists z.1
  ·obtain⟨rfl,rfl⟩:=z
   exact⟨w,H3,_,H4,_,e3,e4,e5,rfl⟩
  ·refine Og.BB z fun hr1 hr2 hr3=>?_;clear z;subst hr1 hr2 hr3;exact IW (congrArg some e)
 | slc o lo hi p =>
  refine A5 e ?_
  intro v H1 e1 e
  refine A5 e ?_
  intro w H2 e2 e
  refine A5 e ?_
  intro a H3 e3 e
  refine A5 e ?_
  intro b H4 e4 e
  refine A8 e ?_
  intro H5 e5 e
  exact BH.post (BH.slc (X:=fun _=>False) L Fn ln e1 e2 e3 e4 e5) (fun f2 σ2 H3 z=>by obtain⟨rfl,rfl,rfl⟩:=z;exact IW (congrArg some e)) fun _ z=>z.elim
 | ifs t a b =>
  refine A5 e ?_
  intro x H1 e1 e
  induction x using Bool.casesOn with
  | true=>exact BH.ifs L Fn (d:=true) ln e1 (BR.le (D.ss e) le)
  | false=>exact BH.ifs L Fn (d:=false) ln e1 (BR.le (D.ss e) le)
 | «for» t it b =>
  refine A5 e ?_
  intro src H1 e1 e
  refine Og.YY (FV it) (fun hz=>?_) fun hz=>?_
  ·exact BH.for L Fn ln e1 hz (TL.le (D.loop e) le)
  ·exact BH.zip L Fn ln e1 hz (rC e)
 | raise q =>
  refine A5 e ?_
  intro v H1 e1 e
  refine A8 e ?_
  intro m hm e4
  exists B6 hm
  exact BH.post (BH.raise L Fn XK (Nat.le_trans (by decide) (Nat.le_add_left 30 (n+1))) ln1 (iD e1)) (fun _ _ _ z=>z.elim) fun H2 z=>by subst z;exact S4 e4
 | try_ a b=>exists e
theorem w0(D:Sg c n){l:List GS}{σ σ':Env'}{H H':AH}{fl:LQ}(e:QF (eg T0 n) l σ H=some (fl,σ',H')):BR c N0 none (n+1+30) l σ H (KD fl σ' H') (P0 fl H'):=by
 induction l generalizing σ H with
 | nil =>
  exists e
  exact BR.nil ⟨rfl,rfl,rfl⟩
 | cons p l ih =>
  have le:n+30≤n+1+30:=Nat.add_le_add_right (Nat.le_succ n) 30
  refine A3 e ?_
  rintro⟨f1,σ1,H1⟩ e1 e
  refine BR.cons (BH.le (D.s e1) le) (fun σ2 H2 z=>?_) (fun f σ2 H2 z nz=>?_) fun H2 z=>?_
  ·refine Og.BB z fun hr1 hr2 hr3=>?_;clear z;subst hr1 hr2 hr3
   exact ih e
  ·refine Og.BB z fun hr1 hr2 hr3=>?_;clear z;subst hr1 hr2 hr3
   exists f<;>first | exact absurd rfl nz | exact IW e
  ·obtain⟨rfl,rfl⟩:=z
   exact S4 (Option.some.inj e)
theorem mM(L:CP c T0 N0)(D:Sg c n){t:PT}{b:List GS}{src:DV}{j:Nat}{σ σ':Env'}{H H':AH}{fl:LQ}(e:P8 (eg T0 n) t b src j σ H=some (fl,σ',H')):TL c N0 none (n+1+30) t b src j σ H (KD fl σ' H') (P0 fl H'):=by
 have le:n+30≤n+1+30:=by lia
 refine A3 e ?_
 intro ox en e
 induction ox using Option.casesOn with
 | none=>exact TL.done L en (IW e)
 | some x =>
  refine A3 e ?_
  intro σ1 eb e
  refine A3 e ?_
  rintro⟨f1,σ2,H2⟩ e2 e
  refine TL.step L en eb trivial (BR.le (D.ss e2) le) (fun σ3 H3 z=>?_) (fun σ3 H3 z=>?_) (fun v σ3 H3 z=>?_) fun H3 z=>?_
  ·refine Og.BB z fun hr1 hr2 hr3=>?_;clear z;subst hr1 hr2 hr3
   exact TL.le (D.loop e) le
  ·refine Og.BB z fun hr1 hr2 hr3=>?_;clear z;subst hr1 hr2 hr3
   exact IW e
  ·refine Og.BB z fun hr1 hr2 hr3=>?_;clear z;subst hr1 hr2 hr3
   exact IW e
  ·obtain⟨rfl,rfl⟩:=z
   exact S4 (Option.some.inj e)
theorem mN(Fn:AY c T0 N0)(D:Sg c n){f:Nat}{vs:List AV}{H H':AH}{out:Option AV}(e:P9 T0 (eg T0 n) f vs H=some (out,H')):CG c none (n+1+30) f vs H (fun v H2=>out=some v∧H2=H') (fun H2=>out=none∧H2=H'):=by
 refine A3 e ?_
 intro d hd e
 refine A3 e ?_
 intro σ hb e
 refine A3 e ?_
 rintro⟨f1,σ1,H1⟩ e1 e
 refine CG.post (X:=P0 f1 H1) (Pc:=fun v' H2=>out=some v'∧H2=H') (CG.of_body Fn hd hb (D.ss e1) fun fl σ2 H2 z=>?_) (fun _ _ z=>z) fun _ z=>?_
 ·refine Og.BB z fun hr1 hr2 hr3=>?_;clear z;subst hr1 hr2 hr3
  exists fl<;>exists e<;>exact⟨by simp,rfl,rfl⟩
 ·obtain⟨rfl,rfl⟩:=z
  exists e;exact⟨rfl,rfl⟩
theorem OC(L:CP c T0 N0)(Fn:AY c T0 N0)(XK:OI c):∀n,Sg c n
 | 0=>⟨fun e=>(by exists e),fun e=>(by exists e),fun e=>(by exists e),fun e=>(by exists e)⟩
 | n+1 =>
  have D:=OC L Fn XK n
  ⟨fun e=>A_f L Fn XK D e,fun e=>w0 D e,fun e=>mM L D e,fun e=>mN Fn D e⟩
end
end Og
end
section
set_option backward.match.sparseCases false
open PySem PySem.W PySem.Calls PyProof.Rows PySem.SeqAt
namespace Og
section
variable{c:Cx}{hs h h':Heap}{r r':List Addr}{p:Nat→Bool}
noncomputable def WE(hs h:Heap)(r r':List Addr)(e e':List Nat×Option AV):Prop:=e.1=e'.1∧(match e.2,e'.2 with
 | none,none=>True
 | some v,some v'=>∀V,VR hs h r v V→VR hs h r' v' V
 | _,_=>False)
inductive WH(hs h:Heap)(r r':List Addr):List (List Nat×Option AV)→List (List Nat×Option AV)→Prop
 | nil:WH hs h r r' [] []
 | cons {e e' l l'}:WE hs h r r' e e'→WH hs h r r' l l'→WH hs h r r' (e::l) (e'::l')
theorem WH.keys{es es':List (List Nat×Option AV)}(x:WH hs h r r' es es'):es.map (·.1)=es'.map (·.1):=by
 induction x with
 | nil=>rfl
 | cons a _ ih=>rw [List.map_cons,List.map_cons,a.1,ih]
theorem cR{α:Type}{R:α→α→Prop}{l m:List α}(p:l.Perm m):∀{m':List α},LS R m m'→∃l',l'.Perm m'∧LS R l l':=by
 induction p with
 | nil=>exact fun h=>⟨_,.refl _,h⟩
 | cons x _ ih =>
  intro m' h
  cases h with | cons a b =>
  exact(ih b).elim fun l' c=>⟨_::l',c.1.cons _,.cons a c.2⟩
 | swap x y l =>
  intro m' h
  cases h with | cons a h=>cases h with | cons b h =>
  exact⟨_,List.Perm.swap ..,.cons b (.cons a h)⟩
 | trans _ _ ih1 ih2=>exact fun h=>(ih2 h).elim fun l1 c=>(ih1 c.2).elim fun l2 d=>⟨l2,d.1.trans c.1,d.2⟩
theorem WH.pres{es es':List (List Nat×Option AV)}(w:WH hs h r r' es es'):LS (fun p p'=>p.1=p'.1∧∀V,VR hs h r p.2 V→VR hs h r' p'.2 V) (Og.pres es) (Og.pres es'):=by
 induction w with
 | nil=>exact .nil
 | @cons e e' l l' a _ ih =>
  obtain⟨k,v⟩:=e
  obtain⟨k',v'⟩:=e'
  induction v using Option.casesOn with
  | none=>induction v' using Option.casesOn with
   | none=>exact ih
   | some v'=>exact a.2.elim
  | some v=>induction v' using Option.casesOn with
   | none=>exact a.2.elim
   | some v'=>exact .cons (a:=(k,v)) (b:=(k',v')) a ih
theorem GX.all2{l:List (List Nat×AV)}{kvs:List (Str×Value)}(x:GX hs h r l kvs):∀{l'},LS (fun p p'=>p.1=p'.1∧∀V,VR hs h r p.2 V→VR hs h r' p'.2 V) l l'→GX hs h r' l' kvs:=by
 induction x with
 | nil=>intro l' z;cases z;exact .nil
 | cons y _ ih =>
  intro l' z
  cases z with | @cons _ b _ _ a z =>
  obtain⟨k,v⟩:=b
  obtain⟨a1,a2⟩:=a
  dsimp only at a1
  subst a1
  exact .cons (a2 _ y) (ih z)
theorem OR.fmapW{es es':List (List Nat×Option AV)}{ob:Obj}(w:WH hs h r r' es es')(hh:hs=c.hs)(x:OR c h r (.fmap es) ob):OR c h r' (.fmap es') ob:=by
 subst hh
 obtain⟨nd,es0,kvs,p0,e1,y⟩:=x
 refine Og.AB (cR p0 w.pres) fun l' p' z=>?_
 exact⟨w.keys▸nd,l',kvs,p',e1,y.all2 z⟩
end
section
variable{c:Cx}{s:Shared}{r r₂:List Addr}{H H₂:AH}{p:Nat→Bool}
theorem SR.pick(S:SR c s r H)(sub:∀a∈r₂,a∈r)(nd:r₂.Nodup)(len:r₂.length=H₂.length)(hp:∀(i:Nat) (a:Addr),p i=true→r[i]?=some a→r₂[i]?=some a)
  (h:∀(i:Nat) (o:AO),H₂[i]?=some o→(H[i]?=some o∧KM p o=true∧r₂[i]?=r[i]?)∨∃a ob,r₂[i]?=some a∧s.heap.get? a=some ob∧OR c s.heap r₂ o ob):SR c s r₂ H₂:=by
 refine⟨S.keep,S.stat,len,fun i o e=>?_,nd,fun a m=>S.fresh a (sub a m),S.gens,S.os⟩
 rcases h i o e with ⟨e1,e2,e3⟩ | x
 ·refine Og.BV (S.obj i o e1) fun a ob ea eo x=>?_
  exact⟨a,ob,by rw [e3];exact ea,eo,x.monoP (fun _ _ e _=>e) hp e2⟩
 ·exact x
end
end Og
end
section
open PySem PySem.W
namespace Og
inductive C5 where | no | oth | own | emp
 deriving DecidableEq
inductive S5 where | bl | s00 | s41 | s35 | s39 | s42
 deriving DecidableEq
structure F1 where
 h:Bool
 x:C5
 s:S5
structure P3 where
 f:F1
 g:F1
 h:F1
noncomputable def k1:List UInt8:=[107,49,97,49]
noncomputable def k4:List UInt8:=[107,52,97,49]
noncomputable def HZ:List Nat:=[115,101,113,117,101,110,116,105,97,108]
noncomputable def I1:List Nat:=[114,101,108,97,116,105,118,101]
noncomputable def I5:List Nat:=[105,110,100,101,120,101,100]
noncomputable def aH:AV:=.tup [.bytes k1,.bytes k4]
noncomputable def oM:AV:=.tup [.tup [.int 1,.bytes k1],.tup [.int 4,.bytes k4]]
noncomputable def LL:AO:=.list [.bytes k1,.bytes k4]
noncomputable def aI:AO:=.idict [(1,.bytes k1),(4,.bytes k4)]
noncomputable def iI:C5→AO | .no=>.list [] | .oth=>aI | .own=>LL | .emp=>.list []
noncomputable def iJ:C5→AO | .no=>.list [] | .oth=>LL | .own=>aI | .emp=>.edict
noncomputable def iK:C5→AO | .no=>.list [] | .oth=>LL | .own=>LL | .emp=>.list []
noncomputable def BN(own oth:List Nat)(i:Nat):C5→Option AV | .no=>none | .oth=>some (.tup [.str oth,.ref i]) | .own=>some (.tup [.str own,.ref i]) | .emp=>some (.tup [.str own,.ref i])
noncomputable def CO(k:Nat):List Nat:=[112,97,116,104,45,k]
noncomputable def LB(a:P3):AO:=.fmap [(CO 70,BN HZ I1 112 a.f.x),(CO 71,BN I1 I5 113 a.g.x),(CO 72,BN I5 HZ 114 a.h.x)]
noncomputable def DP:C5→Option AV | .no=>none | .oth=>some (.tup [.str I1,oM]) | .own=>some (.tup [.str HZ,aH]) | .emp=>some (.tup [.str HZ,.tup []])
noncomputable def DQ:C5→Option AV | .no=>none | .oth=>some (.tup [.str I5,aH]) | .own=>some (.tup [.str I1,oM]) | .emp=>some (.tup [.str I1,.tup []])
noncomputable def DR:C5→Option AV | .no=>none | .oth=>some (.tup [.str HZ,aH]) | .own=>some (.tup [.str I5,aH]) | .emp=>some (.tup [.str I5,.tup []])
noncomputable def KE(e:P3):AO:=.fmap [([70],DP e.f.x),([71],DQ e.g.x),([72],DR e.h.x)]
noncomputable def xY(i:Bool)(k:Nat):List Nat:=match i with | true=>[83,k] | false=>[]
noncomputable def OJ:S5→List Nat | .bl=>[32,32] | .s00=>[48,48] | .s41=>[52,49] | .s35=>[51,53] | .s39=>[51,57] | .s42=>[52,50]
noncomputable def st0:S5→UInt8 | .bl=>32 | .s00=>48 | .s41=>52 | .s35=>51 | .s39=>51 | .s42=>52
noncomputable def st1:S5→UInt8 | .bl=>32 | .s00=>48 | .s41=>49 | .s35=>53 | .s39=>57 | .s42=>50
noncomputable def A_g(a:P3):AO:=.barr [st0 a.f.s,st1 a.f.s,st0 a.g.s,st1 a.g.s,st0 a.h.s,st1 a.h.s,48,32,32,32,32,32,32,32,32,32,32,32,32]
noncomputable def VQ:Bool→Option AV | true=>some .top | false=>none
noncomputable def DS(a:P3):AO:=.fmap [([70],VQ a.f.h),([71],VQ a.g.h),([72],VQ a.h.h)]
noncomputable def oN(e:P3):AO:=.bag [([70],e.f.h),([71],e.g.h),([72],e.h.h)]
noncomputable def mO(e:P3):AO:=.list [.str (OJ e.f.s),.str (OJ e.g.s),.str (OJ e.h.s)]
noncomputable def L(iF iG iH:Bool)(e a:P3)(tl:List Int):AH :=
 [.ns [(517,(.ref 2))],
  .inst 4 0,
  LB a,
  KE e,
  .ns [(538,(.ref 38)),(539,(.ref 7)),(517,(.ref 8)),(540,(.ref 9)),(535,(.int (19))),(541,(.ref 10))],
  .inst 6 4,
  .list [],
  .list [],
  .sdict 2 [([70],(.ref 57)),([71],(.ref 78)),([72],(.ref 99))],
  .list [],
  .edict,
  .sdict 2 [([70],(.ref 59)),([71],(.ref 80)),([72],(.ref 101))],
  .ns [(542,(.str [97,108,112,104,97,110,117,109,101,114,105,99])),(535,(.int (2))),(543,.none),(521,(.str [100,105,115,112,108,97,121])),(522,(.str [116,114,97,105,108,105,110,103])),(523,(.bool false)),(527,(.bool false)),(528,(.bool false)),(544,(.int (0))),(545,(.int (0))),(546,(.bool false))],
  .inst 7 12,
  .ns [(518,(.int (1))),(519,(.str [83,70])),(520,.none),(521,(.str [])),(522,(.str [])),(523,(.bool false)),(524,.none),(525,(.str [])),(526,.none),(527,(.bool false)),(528,(.bool false)),(529,(.ref 16)),(530,(.ref 17)),(531,.none),(532,.none),(533,(.str [])),(534,(.int (0))),(535,(.int (2))),(536,(.ref 13))],
  .inst 5 14,
  .list [],
  .list [],
  .ns [(542,(.str [97,108,112,104,97,110,117,109,101,114,105,99])),(535,(.int (2))),(543,.none),(521,(.str [100,105,115,112,108,97,121])),(522,(.str [116,114,97,105,108,105,110,103])),(523,(.bool false)),(527,(.bool false)),(528,(.bool false)),(544,(.int (0))),(545,(.int (0))),(546,(.bool false))],
  .inst 7 18,
  .ns [(518,(.int (1))),(519,(.str [83,71])),(520,.none),(521,(.str [])),(522,(.str [])),(523,(.bool false)),(524,.none),(525,(.str [])),(526,.none),(527,(.bool false)),(528,(.bool false)),(529,(.ref 22)),(530,(.ref 23)),(531,.none),(532,.none),(533,(.str [])),(534,(.int (2))),(535,(.int (2))),(536,(.ref 19))],
  .inst 5 20,
  .list [],
  .list [],
  .ns [(542,(.str [97,108,112,104,97,110,117,109,101,114,105,99])),(535,(.int (2))),(543,.none),(521,(.str [100,105,115,112,108,97,121])),(522,(.str [116,114,97,105,108,105,110,103])),(523,(.bool false)),(527,(.bool false)),(528,(.bool false)),(544,(.int (0))),(545,(.int (0))),(546,(.bool false))],
  .inst 7 24,
  .ns [(518,(.int (1))),(519,(.str [83,72])),(520,.none),(521,(.str [])),(522,(.str [])),(523,(.bool false)),(524,.none),(525,(.str [])),(526,.none),(527,(.bool false)),(528,(.bool false)),(529,(.ref 28)),(530,(.ref 29)),(531,.none),(532,.none),(533,(.str [])),(534,(.int (4))),(535,(.int (2))),(536,(.ref 25))],
  .inst 5 26,
  .list [],
  .list [],
  .list [(.ref 15),(.ref 21),(.ref 27)],
  .ns [(542,(.str [110,117,109,101,114,105,99])),(535,(.int (1))),(543,.none),(521,(.str [100,105,115,112,108,97,121])),(522,(.str [116,114,97,105,108,105,110,103])),(523,(.bool false)),(527,(.bool false)),(528,(.bool false)),(544,(.int (1))),(545,(.int (0))),(546,(.bool false))],
  .inst 7 31,
  .ns [(518,(.int (1))),(519,(.str [78])),(520,.none),(521,(.str [])),(522,(.str [])),(523,(.bool false)),(524,.none),(525,(.str [])),(526,.none),(527,(.bool false)),(528,(.bool false)),(529,(.ref 35)),(530,(.ref 36)),(531,.none),(532,.none),(533,(.str [])),(534,(.int (6))),(535,(.int (1))),(536,(.ref 32))],
  .inst 5 33,
  .list [],
  .list [],
  .list [(.ref 34)],
  .list [(.ref 15),(.ref 21),(.ref 27),(.ref 34)],
  .ns [(542,(.str [97,108,112,104,97,110,117,109,101,114,105,99])),(535,(.int (4))),(543,.none),(521,(.str [100,105,115,112,108,97,121])),(522,(.str [116,114,97,105,108,105,110,103])),(523,(.bool false)),(527,(.bool false)),(528,(.bool false)),(544,(.int (0))),(545,(.int (0))),(546,(.bool false))],
  .inst 7 39,
  .ns [(518,(.int (1))),(519,(.str [82,70])),(520,.none),(521,(.str [])),(522,(.str [])),(523,(.bool false)),(524,.none),(525,(.str [])),(526,.none),(527,(.bool false)),(528,(.bool false)),(529,(.ref 43)),(530,(.ref 44)),(531,.none),(532,.none),(533,(.str [])),(534,(.int (7))),(535,(.int (4))),(536,(.ref 40))],
  .inst 5 41,
  .list [],
  .list [(.ref 48),(.ref 54)],
  .ns [(542,(.str [97,108,112,104,97,110,117,109,101,114,105,99])),(535,(.int (2))),(543,.none),(521,(.str [100,105,115,112,108,97,121])),(522,(.str [116,114,97,105,108,105,110,103])),(523,(.bool false)),(527,(.bool false)),(528,(.bool false)),(544,(.int (0))),(545,(.int (0))),(546,(.bool false))],
  .inst 7 45,
  .ns [(518,(.int (2))),(519,(.str [75,70])),(520,.none),(521,(.str [])),(522,(.str [])),(523,(.bool false)),(524,.none),(525,(.str [])),(526,.none),(527,(.bool false)),(528,(.bool false)),(529,(.ref 49)),(530,(.ref 50)),(531,(.ref 42)),(532,.none),(533,(.str [])),(534,(.int (7))),(535,(.int (2))),(536,(.ref 46))],
  .inst 5 47,
  .list [],
  .list [],
  .ns [(542,(.str [97,108,112,104,97,110,117,109,101,114,105,99])),(535,(.int (2))),(543,.none),(521,(.str [100,105,115,112,108,97,121])),(522,(.str [116,114,97,105,108,105,110,103])),(523,(.bool false)),(527,(.bool false)),(528,(.bool false)),(544,(.int (0))),(545,(.int (0))),(546,(.bool false))],
  .inst 7 51,
  .ns [(518,(.int (2))),(519,(.str [65,70])),(520,.none),(521,(.str [])),(522,(.str [])),(523,(.bool false)),(524,.none),(525,(.str [])),(526,.none),(527,(.bool false)),(528,(.bool false)),(529,(.ref 55)),(530,(.ref 56)),(531,(.ref 42)),(532,.none),(533,(.str [])),(534,(.int (9))),(535,(.int (2))),(536,(.ref 52))],
  .inst 5 53,
  .list [],
  .list [],
  .list [(.ref 42)],
  .ns [(519,(.str [70])),(562,(.str [112,97,116,104,45,70])),(558,(.str [115,101,113,117,101,110,116,105,97,108])),(502,(.str [115,101,113,117,101,110,116,105,97,108])),(560,(.str [])),(559,(.tup [])),(556,(.str [])),(557,.str (xY iF 70)),(561,(.bool false)),(563,(.tup []))],
  .inst 9 58,
  .ns [(542,(.str [97,108,112,104,97,110,117,109,101,114,105,99])),(535,(.int (4))),(543,.none),(521,(.str [100,105,115,112,108,97,121])),(522,(.str [116,114,97,105,108,105,110,103])),(523,(.bool false)),(527,(.bool false)),(528,(.bool false)),(544,(.int (0))),(545,(.int (0))),(546,(.bool false))],
  .inst 7 60,
  .ns [(518,(.int (1))),(519,(.str [82,71])),(520,.none),(521,(.str [])),(522,(.str [])),(523,(.bool false)),(524,.none),(525,(.str [])),(526,.none),(527,(.bool false)),(528,(.bool false)),(529,(.ref 64)),(530,(.ref 65)),(531,.none),(532,.none),(533,(.str [])),(534,(.int (11))),(535,(.int (4))),(536,(.ref 61))],
  .inst 5 62,
  .list [],
  .list [(.ref 69),(.ref 75)],
  .ns [(542,(.str [97,108,112,104,97,110,117,109,101,114,105,99])),(535,(.int (2))),(543,.none),(521,(.str [100,105,115,112,108,97,121])),(522,(.str [116,114,97,105,108,105,110,103])),(523,(.bool false)),(527,(.bool false)),(528,(.bool false)),(544,(.int (0))),(545,(.int (0))),(546,(.bool false))],
  .inst 7 66,
  .ns [(518,(.int (2))),(519,(.str [75,71])),(520,.none),(521,(.str [])),(522,(.str [])),(523,(.bool false)),(524,.none),(525,(.str [])),(526,.none),(527,(.bool false)),(528,(.bool false)),(529,(.ref 70)),(530,(.ref 71)),(531,(.ref 63)),(532,.none),(533,(.str [])),(534,(.int (11))),(535,(.int (2))),(536,(.ref 67))],
  .inst 5 68,
  .list [],
  .list [],
  .ns [(542,(.str [97,108,112,104,97,110,117,109,101,114,105,99])),(535,(.int (2))),(543,.none),(521,(.str [100,105,115,112,108,97,121])),(522,(.str [116,114,97,105,108,105,110,103])),(523,(.bool false)),(527,(.bool false)),(528,(.bool false)),(544,(.int (0))),(545,(.int (0))),(546,(.bool false))],
  .inst 7 72,
  .ns [(518,(.int (2))),(519,(.str [65,71])),(520,.none),(521,(.str [])),(522,(.str [])),(523,(.bool false)),(524,.none),(525,(.str [])),(526,.none),(527,(.bool false)),(528,(.bool false)),(529,(.ref 76)),(530,(.ref 77)),(531,(.ref 63)),(532,.none),(533,(.str [])),(534,(.int (13))),(535,(.int (2))),(536,(.ref 73))],
  .inst 5 74,
  .list [],
  .list [],
  .list [(.ref 63)],
  .ns [(519,(.str [71])),(562,(.str [112,97,116,104,45,71])),(558,(.str [114,101,108,97,116,105,118,101])),(502,(.str [100,121,110,97,109,105,99])),(560,(.str [])),(559,(.tup [])),(556,(.str [78])),(557,.str (xY iG 71)),(561,(.bool false)),(563,(.tup []))],
  .inst 9 79,
  .ns [(542,(.str [97,108,112,104,97,110,117,109,101,114,105,99])),(535,(.int (4))),(543,.none),(521,(.str [100,105,115,112,108,97,121])),(522,(.str [116,114,97,105,108,105,110,103])),(523,(.bool false)),(527,(.bool false)),(528,(.bool false)),(544,(.int (0))),(545,(.int (0))),(546,(.bool false))],
  .inst 7 81,
  .ns [(518,(.int (1))),(519,(.str [82,72])),(520,.none),(521,(.str [])),(522,(.str [])),(523,(.bool false)),(524,.none),(525,(.str [])),(526,.none),(527,(.bool false)),(528,(.bool false)),(529,(.ref 85)),(530,(.ref 86)),(531,.none),(532,.none),(533,(.str [])),(534,(.int (15))),(535,(.int (4))),(536,(.ref 82))],
  .inst 5 83,
  .list [],
  .list [(.ref 90),(.ref 96)],
  .ns [(542,(.str [97,108,112,104,97,110,117,109,101,114,105,99])),(535,(.int (2))),(543,.none),(521,(.str [100,105,115,112,108,97,121])),(522,(.str [116,114,97,105,108,105,110,103])),(523,(.bool false)),(527,(.bool false)),(528,(.bool false)),(544,(.int (0))),(545,(.int (0))),(546,(.bool false))],
  .inst 7 87,
  .ns [(518,(.int (2))),(519,(.str [75,72])),(520,.none),(521,(.str [])),(522,(.str [])),(523,(.bool false)),(524,.none),(525,(.str [])),(526,.none),(527,(.bool false)),(528,(.bool false)),(529,(.ref 91)),(530,(.ref 92)),(531,(.ref 84)),(532,.none),(533,(.str [])),(534,(.int (15))),(535,(.int (2))),(536,(.ref 88))],
  .inst 5 89,
  .list [],
  .list [],
  .ns [(542,(.str [97,108,112,104,97,110,117,109,101,114,105,99])),(535,(.int (2))),(543,.none),(521,(.str [100,105,115,112,108,97,121])),(522,(.str [116,114,97,105,108,105,110,103])),(523,(.bool false)),(527,(.bool false)),(528,(.bool false)),(544,(.int (0))),(545,(.int (0))),(546,(.bool false))],
  .inst 7 93,
  .ns [(518,(.int (2))),(519,(.str [65,72])),(520,.none),(521,(.str [])),(522,(.str [])),(523,(.bool false)),(524,.none),(525,(.str [])),(526,.none),(527,(.bool false)),(528,(.bool false)),(529,(.ref 97)),(530,(.ref 98)),(531,(.ref 84)),(532,.none),(533,(.str [])),(534,(.int (17))),(535,(.int (2))),(536,(.ref 94))],
  .inst 5 95,
  .list [],
  .list [],
  .list [(.ref 84)],
  .ns [(519,(.str [72])),(562,(.str [112,97,116,104,45,72])),(558,(.str [105,110,100,101,120,101,100])),(502,(.str [100,121,110,97,109,105,99])),(560,(.str [75,72])),(559,(.tup [(.tup [(.str [65,72]),(.bool true)])])),(556,(.str [])),(557,.str (xY iH 72)),(561,(.bool false)),(563,(.tup []))],
  .inst 9 100,
  .ns [(519,(.str [84])),(552,(.ref 5)),(517,(.ref 11)),(564,.none)],
  .inst 10 102,
  .list [],
  .ns [(547,.ref 103),(548,.ref 1),(549,.top),(550,.top),(551,.ref 107),(541,.top),(553,.top),(554,.ref 108),(555,(.bytes [])),(540,.top)],
  .inst 8 105,
  A_g a,
  DS a,
  oN e,
  mO e,
  .list (tl.map .int),
  iI a.f.x,
  iJ a.g.x,
  iK a.h.x]
end Og
end
section
set_option backward.match.sparseCases false
open PySem PySem.W PySem.Calls PyProof.Rows PySem.SeqAt
namespace Og
noncomputable def GV(k:List Nat):AO→AO
 | .fmap es=>.fmap (es.map fun e=>match JT e.1 k with | true=>(e.1,e.2.map fun _=>.top) | false=>e)
 | o=>o
noncomputable def w4(j slot:Nat):AV→AV
 | .tup [.str k,.ref i]=>match Nat.beq i j with | true=>.tup [.str k,.ref slot] | false=>.tup [.str k,.ref i]
 | v=>v
noncomputable def mP(k:List Nat)(j slot:Nat):AO→AO
 | .fmap es=>.fmap (es.map fun e=>match JT e.1 k with | true=>(e.1,e.2.map (w4 j slot)) | false=>e)
 | o=>o
noncomputable def jOf(k:List Nat):AO→Option Nat
 | .fmap es=>match KO k es with
  | some (some (.tup [.str _,.ref j]))=>some j
  | _=>none
 | _=>none
noncomputable def fin(key path:List Nat)(slot:Nat)(H:AH):Option AH:=match H[108]?,H[2]? with
 | some o,some o2=>match jOf path o2 with
  | some j=>match Nat.blt j 115 with
   | true=>some ((H.take 115).set 108 (GV key o))
   | false=>match H[j]? with
    | some oj=>some ((((H.take 115).set 108 (GV key o)).set 2 (mP path j slot o2)).set slot oj)
    | none=>none
  | none=>some ((H.take 115).set 108 (GV key o))
 | _,_=>none
noncomputable def cS(K:Nat):Nat→Bool:=fun i=>Nat.blt i K
theorem Q7{p:Nat→Bool}{l:List Int}:avPs p (l.map .int)=true:=by
 induction l with
 | nil=>rfl
 | cons a l ih=>exact ih
theorem DT{p:Nat→Bool}(x:C5):KM p (iI x)=true∧KM p (iJ x)=true∧KM p (iK x)=true:=by
 exists x<;>exact⟨rfl,rfl,rfl⟩
theorem LM{p:Nat→Bool}(a:P3):KM p (DS a)=true:=by
 obtain⟨⟨f,_,_⟩,⟨g,_,_⟩,⟨h,_,_⟩⟩:=a
 exists f<;>exists g<;>exists h<;>rfl
theorem LN{p:Nat→Bool}(a:P3):KM p (KE a)=true:=by
 obtain⟨⟨_,f,_⟩,⟨_,g,_⟩,⟨_,h,_⟩⟩:=a
 exists f<;>exists g<;>exists h<;>rfl
theorem cT(a:P3):KM (cS 115) (LB a)=true:=by
 obtain⟨⟨_,f,_⟩,⟨_,g,_⟩,⟨_,h,_⟩⟩:=a
 exists f<;>exists g<;>exists h<;>rfl
inductive M2(p:AO→Prop):AH→Prop
 | nil:M2 p []
 | cons {o:AO} {l:AH}:p o→M2 p l→M2 p (o::l)
theorem M2.at{p:AO→Prop}{l:AH}(x:M2 p l){i:Nat}{o:AO}(e:l[i]?=some o):p o:=by
 induction x generalizing i with
 | nil=>simp at e
 | cons a _ ih=>induction i using Nat.casesOn with
  | zero=>simp at e;subst e;exact a
  | succ i=>exact ih (by simpa using e)
theorem IM{iF iG iH:Bool}{e a:P3}{tl:List Int}:(L iF iG iH e a tl).length=115:=rfl
set_option maxHeartbeats 1000000 in
theorem oO{a b}(h:AO.fmap a=AO.fmap b):a=b:=by exists h;rfl
theorem aJ{iF iG iH:Bool}{e a:P3}{tl:List Int}:M2 (fun o=>KM (cS 115) o=true) (L iF iG iH e a tl):=by
 unfold L
 repeat (refine M2.cons (by first | exact rfl | exact(LN e) | exact cT a | exact(LM a) | exact Q7 | exact(DT _).1 | exact(DT _).2.1 | exact(DT _).2.2) ?_)
 exact M2.nil
set_option maxHeartbeats 1000000 in
theorem mQ{iF iG iH:Bool}{e a:P3}{tl:List Int}:M2 (fun o=>KM (cS 112) o=true) ((L iF iG iH e a tl).set 2 .edict):=by
 unfold L
 repeat rw [List.set]
 repeat (refine M2.cons (by first | exact rfl | exact(LN e) | exact(LM a) | exact Q7 | exact(DT _).1 | exact(DT _).2.1 | exact(DT _).2.2) ?_)
 exact M2.nil
section
variable{c:Cx}{s:Shared}{r r₂:List Addr}{p:Nat→Bool}
theorem S7{hs h:Heap}{f:List Nat×Option AV→List Nat×Option AV}:∀{es:List (List Nat×Option AV)},(∀e∈es,WE hs h r r₂ e (f e))→WH hs h r r₂ es (es.map f)
 | [],_=>.nil
 | e::es,w=>.cons (w e List.mem_cons_self) (S7 fun x m=>w x (List.mem_cons_of_mem _ m))
theorem WE.same{hs h:Heap}(q:∀(i:Nat) (a:Addr),p i=true→r[i]?=some a→r₂[i]?=some a){e:List Nat×Option AV}(x:∀v,e.2=some v→FI p v=true):WE hs h r r₂ e e:=by
 refine⟨rfl,?_⟩
 obtain⟨k,v⟩:=e
 induction v using Option.casesOn with
 | none=>trivial
 | some v=>exact fun V y=>y.monoP (fun _ _ e _=>e) q (x v rfl)
theorem mR{hs h:Heap}{key:List Nat}{es:List (List Nat×Option AV)}(q:∀(i:Nat) (a:Addr),p i=true→r[i]?=some a→r₂[i]?=some a)
  (cl:∀e∈es.map (fun e:List Nat×Option AV=>match JT e.1 key with | true=>(e.1,e.2.map fun _=>AV.top) | false=>e),∀v,e.2=some v→FI p v=true) :
  WH hs h r r₂ es (es.map fun e=>match JT e.1 key with | true=>(e.1,e.2.map fun _=>AV.top) | false=>e):=S7 fun e m=>by
 have cl:=cl _ (List.mem_map_of_mem m)
 cases hk:JT e.1 key with
 | true =>
  refine⟨rfl,?_⟩
  obtain⟨k,v⟩:=e
  induction v using Option.casesOn with
  | none=>trivial
  | some v=>exact fun V _=>.top V
 | false =>
  rw [hk] at cl
  exact WE.same q cl
theorem rD{hs h:Heap}{path:List Nat}{j slot:Nat}{es:List (List Nat×Option AV)}(q:∀(i:Nat) (a:Addr),p i=true→r[i]?=some a→r₂[i]?=some a)(hj:∀a,r[j]?=some a→r₂[slot]?=some a)
  (np:∀e∈es,JT e.1 path=false→∀v,e.2=some v→FI p v=true) (ji:∀e∈es,JT e.1 path=true→∃k,e.2=some (.tup [.str k,.ref j])) :
  WH hs h r r₂ es (es.map fun e=>match JT e.1 path with | true=>(e.1,e.2.map (w4 j slot)) | false=>e):=S7 fun e m=>by
 cases hk:JT e.1 path with
 | true =>
  refine Og.AI (ji e m hk) fun k ek=>?_
  refine⟨rfl,?_⟩
  obtain⟨k',v⟩:=e
  dsimp only at ek
  subst ek
  intro V y
  have er:w4 j slot (.tup [.str k,.ref j])=.tup [.str k,.ref slot]:=by
   show(match Nat.beq j j with | true=>AV.tup [.str k,.ref slot] | false=>AV.tup [.str k,.ref j])=_
   rw [Nat.beq_refl]
  rw [er]
  refine VR.eTup y fun a vs t ys=>?_
  refine .tup t ?_
  refine AJ.e2 ys fun V1 V2 y1 y2=>VR.eRef y2 fun a2 ra=>VR.eStr y1 fun t1=>?_
  exact .cons (.str _ _) (.cons (.ref (hj a2 ra)) .nil)
 | false=>exact WE.same q (np e m hk)
end
noncomputable def OD(slot:Nat):Nat→Bool:=fun i=>Nat.blt i 115&&!Nat.beq i slot
inductive Fi where | f | g | h
 deriving DecidableEq
noncomputable def BC:Fi→List Nat | .f=>[70] | .g=>[71] | .h=>[72]
noncomputable def FD:Fi→List Nat | .f=>CO 70 | .g=>CO 71 | .h=>CO 72
noncomputable def B2:Fi→Nat | .f=>112 | .g=>113 | .h=>114
noncomputable def YB(a:P3):List (List Nat×Option AV):=[(CO 70,BN HZ I1 112 a.f.x),(CO 71,BN I1 I5 113 a.g.x),(CO 72,BN I5 HZ 114 a.h.x)]
theorem iL(fi:Fi)(a:P3):∀e∈YB a,JT e.1 (FD fi)=false→∀v,e.2=some v→FI (OD (B2 fi)) v=true:=by
 have key:∀(o1 o2:List Nat) (i:Nat) (x:C5),OD (B2 fi) i=true→∀v,BN o1 o2 i x=some v→FI (OD (B2 fi)) v=true:=fun o1 o2 i x hi v hv=>by
  exists x<;>simp [BN] at hv<;>subst hv<;>simp [FI,avPs,hi]
 intro e m hk
 unfold YB at m
 simp only [List.mem_cons,List.not_mem_nil,or_false] at m
 rcases m with rfl | rfl | rfl<;>dsimp only at hk ⊢<;>refine key _ _ _ _ ?_<;>clear key<;>revert hk<;>exists fi<;>decide
theorem YC{es:List (List Nat×Option AV)}(nd:(es.map (·.1)).Nodup){e:List Nat×Option AV}{k:List Nat}{v:Option AV}(m:e∈es)(m2:(k,v)∈es)(h:e.1=k):e.2=v:=by
 induction es with
 | nil=>exists m
 | cons x es ih =>
  rw [List.map_cons,List.nodup_cons] at nd
  rcases List.mem_cons.mp m with rfl | m
  ·rcases List.mem_cons.mp m2 with z | m2
   ·rw [←z]
   ·exact absurd (List.mem_map.mpr ⟨_,m2,h.symm⟩) nd.1
  ·rcases List.mem_cons.mp m2 with z | m2
   ·exact absurd (List.mem_map.mpr ⟨e,m,by rw [h,←z]⟩) nd.1
   ·exact ih nd.2 m m2
theorem S8{r:List Addr}{slot:Nat}{a:Addr}(h:112≤slot)(hl:115≤r.length):((r.take 115).set slot a).take 112=r.take 112:=by
 rw [List.take_set,List.take_take,List.set_eq_of_length_le]
 ·rfl
 ·rw [List.length_take];lia
set_option tactic.hygienic true in
theorem rE{c:Cx}{s:Shared}{r:List Addr}{H:AH}{key:List Nat}{fi:Fi}{iF iG iH:Bool}{e a:P3}{tl:List Int}(S:SR c s r H)(E:fin key (FD fi) (B2 fi) H=some (L iF iG iH e a tl)):
  ∃r₂,SR c s r₂ (L iF iG iH e a tl)∧r₂.take 112=r.take 112∧(∀x∈r₂,x∈r)∧112≤r.length:=by
 unfold fin at E
 split at E
 ·rename_i o o2 h108 h2
  have topE:∀{M:AH} {r₂:List Addr} {p:Nat→Bool},GV key o=DS a→(∀(i:Nat) (x:Addr),p i=true→r[i]?=some x→r₂[i]?=some x)→∀ob,OR c s.heap r o ob→OR c s.heap r₂ (DS a) ob:=by
   intro M r₂ p ht q ob x
   induction o using Og.AO.casesOn with
   | fmap es =>
    have ht':(es.map fun e=>match JT e.1 key with | true=>(e.1,e.2.map fun _=>AV.top) | false=>e)=[([70],VQ a.f.h),([71],VQ a.g.h),([72],VQ a.h.h)]:=oO ht
    have w:=mR (hs:=c.hs) (h:=s.heap) (key:=key) (es:=es) q (fun e m v hv=>by
     rw [ht'] at m
     have tt:∀b,VQ b=some v→FI p v=true:=fun b hb=>by exists b<;>simp [VQ] at hb;subst hb;rfl
     simp only [List.mem_cons,List.not_mem_nil,or_false] at m
     rcases m with rfl | rfl | rfl<;>exact tt _ hv)
    have:=OR.fmapW (c:=c) w rfl x
    rw [ht'] at this
    exact this
   | _=>exists ht
  have noswap:(H.take 115).set 108 (GV key o)=L iF iG iH e a tl→∃r₂,SR c s r₂ (L iF iG iH e a tl)∧r₂.take 112=r.take 112∧(∀x∈r₂,x∈r)∧112≤r.length:=fun EL=>by
   have hl:115≤H.length:=by
    have:=congrArg List.length EL
    rw [IM,List.length_set,List.length_take] at this
    lia
   have ht:GV key o=DS a:=by
    have:((H.take 115).set 108 (GV key o))[108]?=(L iF iG iH e a tl)[108]?:=by rw [EL]
    rw [List.getElem?_set_self (by rw [List.length_take];lia)] at this
    exact Option.some.inj this
   have rl:115≤r.length:=by rw [S.len];exact hl
   have q:∀(i:Nat) (x:Addr),cS 115 i=true→r[i]?=some x→(r.take 115)[i]?=some x:=fun i x hi hx=>by
    have hi:i<115:=by unfold cS at hi;rw [Nat.blt_eq] at hi;exact hi
    rw [List.getElem?_take,if_pos hi];exact hx
   refine⟨r.take 115,S.pick (p:=cS 115) (fun x m=>List.mem_of_mem_take m) (S.nodup.sublist (List.take_sublist _ _)) (by rw [IM,List.length_take];lia) q fun i ob hi=>?_,by rw [List.take_take];rfl,fun x m=>List.mem_of_mem_take m,by lia⟩
   have il:i<115:=by
    have:=(List.getElem?_eq_some_iff.mp hi).1
    rw [IM] at this;exact this
   by_cases z:i=108
   ·subst z
    exists (show some (DS a)=some ob from hi)
    refine Og.BV (S.obj 108 o h108) fun x ob e1 e2 e3=>?_
    exact .inr ⟨x,ob,q 108 x rfl e1,e2,topE (M:=H) ht q ob e3⟩
   ·refine .inl ⟨?_,aJ.at hi,?_⟩
    ·rw [←EL,List.getElem?_set_ne (Ne.symm z),List.getElem?_take,if_pos il] at hi
     exact hi
    ·rw [List.getElem?_take,if_pos il]
  split at E
  ·rename_i j hj
   split at E
   ·exact noswap (Option.some.inj E)
   ·rename_i hb
    split at E
    ·rename_i oj hoj
     have EL:=Option.some.inj E
     have jl:115≤j:=by
      refine Nat.not_lt.mp fun z=>?_
      rw [Nat.blt_eq.mpr z] at hb;exists hb
     have hl:j<H.length:=(List.getElem?_eq_some_iff.mp hoj).1
     have rl:j<r.length:=by rw [S.len];exact hl
     have sl:112≤B2 fi∧B2 fi<115:=by exists fi<;>decide
     refine Og.BV (S.obj j oj hoj) fun aj obj ej1 ej2 ej3=>?_
     have q:∀(i:Nat) (x:Addr),OD (B2 fi) i=true→r[i]?=some x→((r.take 115).set (B2 fi) aj)[i]?=some x:=fun i x hi hx=>by
      unfold OD at hi
      simp only [Bool.and_eq_true,Bool.not_eq_true',Nat.blt_eq] at hi
      have hn:B2 fi≠i:=fun z=>by rw [z,Nat.beq_refl] at hi;exists hi.2
      rw [List.getElem?_set_ne hn,List.getElem?_take,if_pos hi.1];exact hx
     have q2:∀(i:Nat) (x:Addr),cS 112 i=true→r[i]?=some x→((r.take 115).set (B2 fi) aj)[i]?=some x:=fun i x hi hx=>q i x (by
      unfold cS at hi;rw [Nat.blt_eq] at hi
      unfold OD
      have:Nat.beq i (B2 fi)=false:=by
       cases hb:Nat.beq i (B2 fi) with
       | false=>rfl
       | true=>have:=Nat.eq_of_beq_eq_true hb;lia
      rw [this,Nat.blt_eq.mpr (by lia:i<115)];rfl) hx
     have gs:((r.take 115).set (B2 fi) aj)[B2 fi]?=some aj:=List.getElem?_set_self (by rw [List.length_take];lia)
     have s2:B2 fi≠2:=by lia
     have s108:B2 fi≠108:=by lia
     have hL:∀i,i<115→i≠B2 fi→i≠2→i≠108→(L iF iG iH e a tl)[i]?=H[i]?:=fun i il n1 n2 n3=>by
      rw [←EL,List.getElem?_set_ne (Ne.symm n1),List.getElem?_set_ne (Ne.symm n2),List.getElem?_set_ne (Ne.symm n3),List.getElem?_take,if_pos il]
     have ht:GV key o=DS a:=by
      have:((((H.take 115).set 108 (GV key o)).set 2 (mP (FD fi) j (B2 fi) o2)).set (B2 fi) oj)[108]?=(L iF iG iH e a tl)[108]?:=by rw [EL]
      rw [List.getElem?_set_ne s108,List.getElem?_set_ne (by decide),List.getElem?_set_self (by rw [List.length_take];lia)] at this
      exact Option.some.inj this
     have ht2:mP (FD fi) j (B2 fi) o2=LB a:=by
      have:((((H.take 115).set 108 (GV key o)).set 2 (mP (FD fi) j (B2 fi) o2)).set (B2 fi) oj)[2]?=(L iF iG iH e a tl)[2]?:=by rw [EL]
      rw [List.getElem?_set_ne s2,List.getElem?_set_self (by rw [List.length_set,List.length_take];lia)] at this
      exact Option.some.inj this
     have nd:((r.take 115).set (B2 fi) aj).Nodup:=by
      refine List.pairwise_iff_getElem.mpr fun i i' hi hi' lt=>?_
      rw [List.length_set,List.length_take] at hi hi'
      have ne:∀{u v:Nat} (hu:u<r.length) (hv:v<r.length),u≠v→r[u]≠r[v]:=fun {u v} hu hv n z=>by
       rcases Nat.lt_or_gt_of_ne n with h | h
       ·exact List.pairwise_iff_getElem.mp S.nodup u v hu hv h z
       ·exact List.pairwise_iff_getElem.mp S.nodup v u hv hu h z.symm
      have ej:aj=r[j]:=by rw [List.getElem?_eq_getElem rl] at ej1;exact(Option.some.inj ej1).symm
      subst ej
      rw [List.getElem_set,List.getElem_set,List.getElem_take,List.getElem_take]
      split
      ·split
       ·lia
       ·exact ne _ _ (by lia)
      ·split
       ·exact ne _ _ (by lia)
       ·exact ne _ _ (by lia)
     refine⟨(r.take 115).set (B2 fi) aj,S.pick (p:=cS 112) (fun x m=>?_) nd (by rw [IM,List.length_set,List.length_take];lia) q2 fun i ob hi=>?_,S8 sl.1 (by lia),fun x m=>?_,by lia⟩
     ·rcases List.mem_or_eq_of_mem_set m with m | rfl
      ·exact List.mem_of_mem_take m
      ·exact List.mem_of_getElem? ej1
     ·have il:i<115:=by
       have:=(List.getElem?_eq_some_iff.mp hi).1
       rw [IM] at this;exact this
      by_cases z1:i=B2 fi
      ·subst z1
       have eo:oj=ob:=by
        rw [←EL,List.getElem?_set_self (by rw [List.length_set,List.length_set,List.length_take];lia)] at hi
        exact Option.some.inj hi
       subst eo
       have cl:KM (cS 112) oj=true:=by
        exists fi
        ·cases (show some (iI a.f.x)=some oj from hi);exact(DT _).1
        ·cases (show some (iJ a.g.x)=some oj from hi);exact(DT _).2.1
        ·cases (show some (iK a.h.x)=some oj from hi);exact(DT _).2.2
       exact .inr ⟨aj,obj,gs,ej2,ej3.monoP (fun _ _ e _=>e) q2 cl⟩
      ·by_cases z2:i=2
       ·subst z2
        exists (show some (LB a)=some ob from hi)
        refine Og.BV (S.obj 2 o2 h2) fun x ob e1 e2 e3=>?_
        refine .inr ⟨x,ob,q2 2 x rfl e1,e2,?_⟩
        induction o2 using Og.AO.casesOn with
        | fmap es =>
         have ht':(es.map fun e=>match JT e.1 (FD fi) with | true=>(e.1,e.2.map (w4 j (B2 fi))) | false=>e)=YB a:=oO ht2
         have nk:(es.map (·.1)).Nodup:=e3.1
         have w:=rD (hs:=c.hs) (h:=s.heap) (path:=FD fi) (j:=j) (slot:=B2 fi) (es:=es) (r:=r) (r₂:=(r.take 115).set (B2 fi) aj) (p:=OD (B2 fi)) q (fun y hy=>by rw [ej1] at hy;exists hy;exact gs)
          (fun e m hk v hv=>iL fi a e (by
           rw [←ht']
           have:=List.mem_map_of_mem (f:=fun e:List Nat×Option AV=>match JT e.1 (FD fi) with | true=>(e.1,e.2.map (w4 j (B2 fi))) | false=>e) m
           rw [hk] at this
           exact this) hk v hv) (fun e m hk=>?_)
         ·have:=OR.fmapW (c:=c) w rfl e3
          rw [ht'] at this
          exact this
         ·unfold jOf at hj
          dsimp only at hj
          split at hj
          ·rename_i k j' hg
           exists hj
           have m2:=N4 hg
           have:e.1=FD fi:=IB.mp hk
           refine⟨k,?_⟩
           have:=YC nk m m2 this
           rw [this]
          ·exists hj
        | _=>exists ht2
       ·by_cases z3:i=108
        ·subst z3
         exists (show some (DS a)=some ob from hi)
         refine Og.BV (S.obj 108 o h108) fun x ob e1 e2 e3=>?_
         exact .inr ⟨x,ob,q2 108 x rfl e1,e2,topE (M:=H) ht q2 ob e3⟩
        ·refine .inl ⟨by rw [←hL i il z1 z2 z3];exact hi,?_,?_⟩
         ·refine M2.at (mQ (iF:=iF) (iG:=iG) (iH:=iH) (e:=e) (a:=a) (tl:=tl)) (i:=i) ?_
          rw [List.getElem?_set_ne (Ne.symm z2)];exact hi
         ·rw [List.getElem?_set_ne (Ne.symm z1),List.getElem?_take,if_pos il]
     ·rcases List.mem_or_eq_of_mem_set m with m | rfl
      ·exact List.mem_of_mem_take m
      ·exact List.mem_of_getElem? ej1
    ·exists E
  ·exact noswap (Option.some.inj E)
 ·exists E
end Og
end
section
open PySem PySem.W PySem.Calls PyProof.Rows PySem.SeqAt
namespace Og
inductive Md where | inp | out | io | ext
 deriving DecidableEq
noncomputable def KF:Md→List Nat
 | .inp=>[105,110,112,117,116]
 | .out=>[111,117,116,112,117,116]
 | .io=>[105,45,111]
 | .ext=>[101,120,116,101,110,100]
noncomputable def F1.get:Fi→P3→F1 | .f,a=>a.f | .g,a=>a.g | .h,a=>a.h
noncomputable def F1.put:Fi→F1→P3→P3 | .f,u,a=>⟨u,a.g,a.h⟩ | .g,u,a=>⟨a.f,u,a.h⟩ | .h,u,a=>⟨a.f,a.g,u⟩
noncomputable def YD(m:Md)(u:F1):S5×F1:=match u.h with
 | true=>(.s41,u)
 | false=>match m,u.x with
  | .out,_=>(.s00,⟨true,.emp,u.s⟩)
  | _,.no=>(.s35,u)
  | _,.oth=>(.s39,u)
  | _,.own=>(.s00,⟨true,.own,u.s⟩)
  | _,.emp=>(.s00,⟨true,.emp,u.s⟩)
noncomputable def clo(u:F1):S5×F1:=match u.h with
 | true=>(.s00,⟨false,u.x,u.s⟩)
 | false=>(.s42,u)
noncomputable def σR(m:Md)(fi:Fi):Env':=[(80,.str (BC fi)),(11,.str (KF m)),(76,.ref 106)]
noncomputable def iM:List PX:=[.var 76,.var 80,.callF 58 [.var 76,.var 11,.var 80]]
noncomputable def iN:List PX:=[.var 76,.var 80,.callF 60 [.var 76,.var 80]]
noncomputable def mS(fi:Fi)(x:Option (List AV×AH)):Option (List AV×AH):=match x with
 | some (vs,H)=>match fin (BC fi) (FD fi) (B2 fi) H with
  | some H2=>some (vs,H2)
  | none=>none
 | none=>none
noncomputable def BW(m:Md)(fi:Fi)(u:F1)(b:P3):Prop:=∀(iF iG iH:Bool) (e:P3) (tl:List Int),mS fi ((ev T0 150).es iM (σR m fi) (L iF iG iH e (F1.put fi u b) tl))=some ([.ref 106,.str (BC fi),.str (OJ (YD m u).1)],L iF iG iH e (F1.put fi (YD m u).2 b) tl)
noncomputable def A_h(fi:Fi)(u:F1)(b:P3):Prop:=∀(iF iG iH:Bool) (e:P3) (tl:List Int),mS fi ((ev T0 150).es iN [(80,.str (BC fi)),(76,.ref 106)] (L iF iG iH e (F1.put fi u b) tl))=some ([.ref 106,.str (BC fi),.str (OJ (clo u).1)],L iF iG iH e (F1.put fi (clo u).2 b) tl)
theorem mT(m:Md)(fi:Fi)(x:C5)(s:S5)(b:P3):BW m fi ⟨true,x,s⟩ b:=by
 intro iF iG iH e tl
 cases fi<;>cases m<;>cases x<;>kernel_rfl
theorem w5(fi:Fi)(u:F1)(b:P3):A_h fi u b:=by
 obtain⟨h,x,s⟩:=u
 intro iF iG iH e tl
 cases fi<;>exists h<;>cases x<;>kernel_rfl
theorem VS(s:S5)(b:P3):BW .inp .f ⟨false,.no,s⟩ b:=by
 intro iF iG iH e tl
 kernel_rfl
theorem S9(s:S5)(b:P3):BW .inp .f ⟨false,.oth,s⟩ b:=by
 intro iF iG iH e tl
 kernel_rfl
theorem SB(s:S5)(b:P3):BW .inp .f ⟨false,.own,s⟩ b:=by
 intro iF iG iH e tl
 kernel_rfl
theorem SC(s:S5)(b:P3):BW .inp .f ⟨false,.emp,s⟩ b:=by
 intro iF iG iH e tl
 kernel_rfl
theorem VT(s:S5)(b:P3):BW .out .f ⟨false,.no,s⟩ b:=by
 intro iF iG iH e tl
 kernel_rfl
theorem SD(s:S5)(b:P3):BW .out .f ⟨false,.oth,s⟩ b:=by
 intro iF iG iH e tl
 kernel_rfl
theorem SE(s:S5)(b:P3):BW .out .f ⟨false,.own,s⟩ b:=by
 intro iF iG iH e tl
 kernel_rfl
theorem SG(s:S5)(b:P3):BW .out .f ⟨false,.emp,s⟩ b:=by
 intro iF iG iH e tl
 kernel_rfl
theorem YE(s:S5)(b:P3):BW .io .f ⟨false,.no,s⟩ b:=by
 intro iF iG iH e tl
 kernel_rfl
theorem VU(s:S5)(b:P3):BW .io .f ⟨false,.oth,s⟩ b:=by
 intro iF iG iH e tl
 kernel_rfl
theorem VV(s:S5)(b:P3):BW .io .f ⟨false,.own,s⟩ b:=by
 intro iF iG iH e tl
 kernel_rfl
theorem VW(s:S5)(b:P3):BW .io .f ⟨false,.emp,s⟩ b:=by
 intro iF iG iH e tl
 kernel_rfl
theorem VX(s:S5)(b:P3):BW .ext .f ⟨false,.no,s⟩ b:=by
 intro iF iG iH e tl
 kernel_rfl
theorem SH(s:S5)(b:P3):BW .ext .f ⟨false,.oth,s⟩ b:=by
 intro iF iG iH e tl
 kernel_rfl
theorem SI(s:S5)(b:P3):BW .ext .f ⟨false,.own,s⟩ b:=by
 intro iF iG iH e tl
 kernel_rfl
theorem SJ(s:S5)(b:P3):BW .ext .f ⟨false,.emp,s⟩ b:=by
 intro iF iG iH e tl
 kernel_rfl
theorem A_i(m:Md)(x:C5)(s:S5)(b:P3):BW m .f ⟨false,x,s⟩ b:=by
 cases m
 ·cases x
  ·exact VS s b
  ·exact S9 s b
  ·exact SB s b
  ·exact SC s b
 ·cases x
  ·exact VT s b
  ·exact SD s b
  ·exact SE s b
  ·exact SG s b
 ·cases x
  ·exact YE s b
  ·exact VU s b
  ·exact VV s b
  ·exact VW s b
 ·cases x
  ·exact VX s b
  ·exact SH s b
  ·exact SI s b
  ·exact SJ s b
theorem VY(s:S5)(b:P3):BW .inp .g ⟨false,.no,s⟩ b:=by
 intro iF iG iH e tl
 kernel_rfl
theorem SK(s:S5)(b:P3):BW .inp .g ⟨false,.oth,s⟩ b:=by
 intro iF iG iH e tl
 kernel_rfl
theorem SL(s:S5)(b:P3):BW .inp .g ⟨false,.own,s⟩ b:=by
 intro iF iG iH e tl
 kernel_rfl
theorem SM(s:S5)(b:P3):BW .inp .g ⟨false,.emp,s⟩ b:=by
 intro iF iG iH e tl
 kernel_rfl
theorem VZ(s:S5)(b:P3):BW .out .g ⟨false,.no,s⟩ b:=by
 intro iF iG iH e tl
 kernel_rfl
theorem SN(s:S5)(b:P3):BW .out .g ⟨false,.oth,s⟩ b:=by
 intro iF iG iH e tl
 kernel_rfl
theorem SO(s:S5)(b:P3):BW .out .g ⟨false,.own,s⟩ b:=by
 intro iF iG iH e tl
 kernel_rfl
theorem SP(s:S5)(b:P3):BW .out .g ⟨false,.emp,s⟩ b:=by
 intro iF iG iH e tl
 kernel_rfl
theorem YF(s:S5)(b:P3):BW .io .g ⟨false,.no,s⟩ b:=by
 intro iF iG iH e tl
 kernel_rfl
theorem W0(s:S5)(b:P3):BW .io .g ⟨false,.oth,s⟩ b:=by
 intro iF iG iH e tl
 kernel_rfl
theorem W1(s:S5)(b:P3):BW .io .g ⟨false,.own,s⟩ b:=by
 intro iF iG iH e tl
 kernel_rfl
theorem W2(s:S5)(b:P3):BW .io .g ⟨false,.emp,s⟩ b:=by
 intro iF iG iH e tl
 kernel_rfl
theorem A_j(m:Md)(hm:m≠.ext)(x:C5)(s:S5)(b:P3):BW m .g ⟨false,x,s⟩ b:=by
 cases m
 ·cases x
  ·exact VY s b
  ·exact SK s b
  ·exact SL s b
  ·exact SM s b
 ·cases x
  ·exact VZ s b
  ·exact SN s b
  ·exact SO s b
  ·exact SP s b
 ·cases x
  ·exact YF s b
  ·exact W0 s b
  ·exact W1 s b
  ·exact W2 s b
 ·exact absurd rfl hm
theorem W3(s:S5)(b:P3):BW .inp .h ⟨false,.no,s⟩ b:=by
 intro iF iG iH e tl
 kernel_rfl
theorem SQ(s:S5)(b:P3):BW .inp .h ⟨false,.oth,s⟩ b:=by
 intro iF iG iH e tl
 kernel_rfl
theorem ST(s:S5)(b:P3):BW .inp .h ⟨false,.own,s⟩ b:=by
 intro iF iG iH e tl
 kernel_rfl
theorem SU(s:S5)(b:P3):BW .inp .h ⟨false,.emp,s⟩ b:=by
 intro iF iG iH e tl
 kernel_rfl
theorem W4(s:S5)(b:P3):BW .out .h ⟨false,.no,s⟩ b:=by
 intro iF iG iH e tl
 kernel_rfl
theorem SV(s:S5)(b:P3):BW .out .h ⟨false,.oth,s⟩ b:=by
 intro iF iG iH e tl
 kernel_rfl
theorem SW(s:S5)(b:P3):BW .out .h ⟨false,.own,s⟩ b:=by
 intro iF iG iH e tl
 kernel_rfl
theorem SX(s:S5)(b:P3):BW .out .h ⟨false,.emp,s⟩ b:=by
 intro iF iG iH e tl
 kernel_rfl
theorem YG(s:S5)(b:P3):BW .io .h ⟨false,.no,s⟩ b:=by
 intro iF iG iH e tl
 kernel_rfl
theorem W5(s:S5)(b:P3):BW .io .h ⟨false,.oth,s⟩ b:=by
 intro iF iG iH e tl
 kernel_rfl
theorem W6(s:S5)(b:P3):BW .io .h ⟨false,.own,s⟩ b:=by
 intro iF iG iH e tl
 kernel_rfl
theorem W7(s:S5)(b:P3):BW .io .h ⟨false,.emp,s⟩ b:=by
 intro iF iG iH e tl
 kernel_rfl
theorem A_k(m:Md)(hm:m≠.ext)(x:C5)(s:S5)(b:P3):BW m .h ⟨false,x,s⟩ b:=by
 cases m
 ·cases x
  ·exact W3 s b
  ·exact SQ s b
  ·exact ST s b
  ·exact SU s b
 ·cases x
  ·exact W4 s b
  ·exact SV s b
  ·exact SW s b
  ·exact SX s b
 ·cases x
  ·exact YG s b
  ·exact W5 s b
  ·exact W6 s b
  ·exact W7 s b
 ·exact absurd rfl hm
theorem mU{c:Cx}{s:Shared}{r:List Addr}{H:AH}{iF iG iH:Bool}{e a:P3}{tl:List Int}(S:SR c s r H)(E:H.take 115=L iF iG iH e a tl):
  ∃r₂,SR c s r₂ (L iF iG iH e a tl)∧r₂.take 112=r.take 112∧(∀x∈r₂,x∈r)∧112≤r.length:=by
 have hl:115≤H.length:=by
  have:=congrArg List.length E
  rw [IM,List.length_take] at this
  lia
 have rl:115≤r.length:=by rw [S.len];exact hl
 have q:∀(i:Nat) (x:Addr),cS 115 i=true→r[i]?=some x→(r.take 115)[i]?=some x:=fun i x hi hx=>by
  have hi:i<115:=by unfold cS at hi;rw [Nat.blt_eq] at hi;exact hi
  rw [List.getElem?_take,if_pos hi];exact hx
 refine⟨r.take 115,S.pick (p:=cS 115) (fun x m=>List.mem_of_mem_take m) (S.nodup.sublist (List.take_sublist _ _)) (by rw [IM,List.length_take];lia) q fun i ob hi=>?_,by rw [List.take_take];rfl,fun x m=>List.mem_of_mem_take m,by lia⟩
 have il:i<115:=by
  have:=(List.getElem?_eq_some_iff.mp hi).1
  rw [IM] at this;exact this
 refine .inl ⟨?_,aJ.at hi,by rw [List.getElem?_take,if_pos il]⟩
 rw [←E,List.getElem?_take,if_pos il] at hi
 exact hi
noncomputable def GB(fi:Fi)(iF iG iH:Bool):Bool:=match fi with | .f=>iF | .g=>iG | .h=>iH
noncomputable def FS:List Nat:=[102,97,117,108,116]
noncomputable def iO(i:Bool)(st:S5):Option (List Nat):=match st,i with
 | .s00,_=>some []
 | _,true=>some FS
 | _,false=>none
noncomputable def mark(i:Bool)(st:S5)(u:F1):F1:=match i with
 | true=>⟨u.h,u.x,st⟩
 | false=>u
noncomputable def w6(x:Option (Option AV×AH)):Option (Option AV×AH):=match x with
 | some (o,H)=>some (o,H.take 115)
 | none=>none
theorem w7(fi:Fi)(st:S5)(hs:st≠.bl)(iF iG iH:Bool)(e:P3)(u:F1)(b:P3)(tl:List Int):
  w6 ((eg T0 150).call 56 [.ref 106,.str (BC fi),.str (OJ st)] (L iF iG iH e (F1.put fi u b) tl))=some ((iO (GB fi iF iG iH) st).map .str,L iF iG iH e (F1.put fi (mark (GB fi iF iG iH) st u) b) tl):=by
 cases st with
 | bl=>exact absurd rfl hs
 | _ =>
  cases fi with
  | f=>exists iF<;>kernel_rfl
  | g=>exists iG<;>kernel_rfl
  | h=>exists iH<;>kernel_rfl
structure YH(c:Cx)(K:Nat)(H H₂:AH):Prop where
 le:∀{s:Shared} {r:List Addr},SR c s r H→∃r₂,SR c s r₂ H₂∧r₂.take K=r.take K∧(∀x∈r₂,x∈r)∧K≤r.length
 st:∀(i n:Nat) (es:List (List Nat×AV)),i<K→H[i]?=some (.sdict n es)→∃es',H₂[i]?=some (.sdict n es')
set_option tactic.hygienic true in
theorem cU{key path:List Nat}{slot:Nat}{H H₂:AH}(hs:112≤slot)(E:fin key path slot H=some H₂):∀(i n:Nat) (es:List (List Nat×AV)),i<112→H[i]?=some (.sdict n es)→∃es',H₂[i]?=some (.sdict n es'):=by
 intro i n es hi e
 unfold fin at E
 split at E
 ·rename_i o o2 h108 h2
  have ns:∃es',((H.take 115).set 108 (GV key o))[i]?=some (.sdict n es'):=by
   by_cases z:i=108
   ·subst z
    rw [h108] at e
    exists e
    refine⟨es,?_⟩
    rw [List.getElem?_set_self (by have:=(List.getElem?_eq_some_iff.mp h108).1;rw [List.length_take];lia)]
    rfl
   ·exact⟨es,by rw [List.getElem?_set_ne (Ne.symm z),List.getElem?_take,if_pos (by lia)];exact e⟩
  split at E
  ·split at E
   ·(exists E;exact ns)
   ·split at E
    ·exists E
     rw [List.getElem?_set_ne (by lia)]
     by_cases z2:i=2
     ·subst z2
      rw [h2] at e
      exists e
      refine⟨es,?_⟩
      rw [List.getElem?_set_self (by have:=(List.getElem?_eq_some_iff.mp h2).1;rw [List.length_set,List.length_take];lia)]
      rfl
     ·rw [List.getElem?_set_ne (Ne.symm z2)]
      exact ns
    ·exists E
  ·(exists E;exact ns)
 ·exists E
theorem iP{c:Cx}{H:AH}{key:List Nat}{fi:Fi}{iF iG iH:Bool}{e a:P3}{tl:List Int}(E:fin key (FD fi) (B2 fi) H=some (L iF iG iH e a tl)):YH c 112 H (L iF iG iH e a tl) :=
 ⟨fun S=>rE S E,cU (by exists fi<;>decide) E⟩
theorem EP{c:Cx}{H:AH}{iF iG iH:Bool}{e a:P3}{tl:List Int}(E:H.take 115=L iF iG iH e a tl):YH c 112 H (L iF iG iH e a tl) :=
 ⟨fun S=>mU S E,fun i n es hi h=>⟨es,by rw [←E,List.getElem?_take,if_pos (by lia)];exact h⟩⟩
section
variable{c:Cx}{N:Nm}{K k:Nat}{H H₂:AH}{σ σ₂:Env'}{P P₂:PostP}{X X₂:AH→Prop}
theorem LJ.sub{c:Cx}{P:Addr→Prop}{outer:List Env}{s₁:Shared}{r₁ r₂:List Addr}{ea:Addr}{s':Shared}(x:LJ c P outer s₁ r₁ ea s')(h:∀a∈r₂,a∈r₁):LJ c P outer s₁ r₂ ea s':=by
 obtain⟨f,B,F,a0,u,p,y⟩:=x
 exact⟨f,B,F,a0,⟨u.sub,fun b m=>⟨fun z=>(u.fr b m).1 (h b z),(u.fr b m).2⟩,u.up,u.gens,u.os⟩,p,y⟩
theorem CG.pre{f:Nat}{vs:List AV}{Pc:AV→AH→Prop}(w:YH c K H H₂)(hv:OA K vs=true)(h:CG c (some K) k f vs H₂ Pc X):CG c (some K) k f vs H Pc X:=.mk fun {A s r outer Vs} R hfr Fs dj S y ko=>by
 intro Q q x
 refine Og.LR (w.le S) fun r₂ S2 pre sub le=>?_
 have G:C8 c K EJ outer s r H H₂ s r₂:=FC S2 pre le sub w.st
 have Fs2:O8 c s r₂ outer:=O8.gok Fs S dj G (fun _ _ z=>z.elim) (fun _ m=>m) fun _ _ _ _ z=>z
 exact h.run R hfr Fs2 dj S2 (y.monoK (fun _ _ e _=>e) pre hv) (fun K' e=>by exists e;exact G.len) Q (fun v H' p V s' r' G'=>q v H' p V s' r' (G.trans G' (Nat.le_refl _) fun _ z=>z.elim)) fun H' z ea s₁ r₁ s' G' y'=>x H' z ea s₁ r₁ s' (G.trans G' (Nat.le_refl _) fun _ z=>z.elim) y'
theorem CG.fin{f:Nat}{vs:List AV}{Pc Pd:AV→AH→Prop}(h:CG c (some K) k f vs H Pc X)(h1:∀v H',Pc v H'→MK K v=true∧∃H₂,YH c K H' H₂∧Pd v H₂)(h2:∀H',X H'→∃H₂,YH c K H' H₂∧X₂ H₂):CG c (some K) k f vs H Pd X₂:=.mk fun {A s r outer Vs} R hfr Fs dj S y ko=>by
 intro Q q x
 refine h.run R hfr Fs dj S y ko Q (fun v H' p V s' r' G yv=>?_) fun H' z ea s₁ r₁ s' G yv=>?_
 ·obtain⟨lv,H2,w,pd⟩:=h1 v H' p
  refine Og.LR (w.le G.sr) fun r₂ S2 pre sub le=>?_
  exact q v H2 pd V s' r₂ (G.trans (FC S2 pre le sub w.st) (Nat.le_refl _) fun _ z=>z.elim) (yv.monoK (fun _ _ e _=>e) pre lv)
 ·refine Og.AB (h2 H' z) fun H2 w xx=>?_
  refine Og.LR (w.le G.sr) fun r₂ S2 pre sub le=>?_
  exact x H2 xx ea s₁ r₂ s' (G.trans (FC S2 pre le sub w.st) (Nat.le_refl _) fun _ z=>z.elim) (yv.sub sub)
theorem FR.wk{s:Shared}{r r₂:List Addr}{env:Env}(F:FR c s r env σ)(pre:r₂.take K=r.take K)(sub:∀x∈r₂,x∈r)(hσ:∀z u,AG z σ₂=some u→AG z σ=some u∧MK K u=true):FR c s r₂ env σ₂:=by
 refine⟨F.kind,F.globals,F.builtins,F.ns,fun x v e kn=>?_,F.cells,F.apart,F.inj,F.notHs,fun a w m=>F.notIn a w (sub a m),fun x v e=>F.plain x v (hσ x v e).1,F.own⟩
 refine Og.AB (F.vars x v (hσ x v e).1 kn) fun V n y=>?_
 exact⟨V,n,y.monoK (fun _ _ e _=>e) pre (hσ x v e).2⟩
theorem BR.pre{l:List GS}(w:YH c K H H₂)(hσ:∀z u,AG z σ₂=some u→AG z σ=some u∧MK K u=true)(h:BR c N (some K) k l σ₂ H₂ P X):BR c N (some K) k l σ H P X :=
 BR.weak ⟨fun S=>by
  refine Og.LR (w.le S) fun r₂ S2 pre sub le=>?_
  exact⟨r₂,S2,pre,le,sub,fun F=>F.wk pre sub hσ⟩⟩ w.st h
theorem TL.pre{t:PT}{b:List GS}{src:DV}{j:Nat}(w:YH c K H H₂)(hs:OB K src=true)(hσ:∀z u,AG z σ₂=some u→AG z σ=some u∧MK K u=true)(h:TL c N (some K) k t b src j σ₂ H₂ P X):TL c N (some K) k t b src j σ H P X:=.mk fun {A s r env outer t' b' itv w'} R C S F ko mt mb hp I ap ow=>by
 intro Q q x
 refine Og.LR (w.le S) fun r₂ S2 pre sub le=>?_
 have F2:=F.wk (σ₂:=σ₂) pre sub hσ
 have G:∀W,C8 c K W (env::outer) s r H H₂ s r₂:=fun W=>FC S2 pre le sub w.st
 have I2:It c s r₂ H₂ src j itv w':=I.keepK S C.fs (W:=EJ) (fun _ _ z=>z.elim) (G EJ) (fun a m=>⟨id,I.nr S a m,ap.notStat (.inr m),fun fx=>by
  refine Og.AB (aF fx) fun e me o=>?_
  exact ow e me a o m⟩) hs
 have ap2:B5 c s r₂ (LW env w'):=⟨ap.hs,fun a o m=>ap.nr a o (sub a m),ap.nt⟩
 have nr:∀{H3 s3 r3},C8 c K (LW env w') (env::outer) s r₂ H₂ H3 s3 r3→(∀a,CC env a→a∉r3)→∀a,LW env w' a→a∉r3:=fun G3 n a o=>o.elim (n a) fun m m3=>by
  rcases G3.new a m3 with z | z
  ·exact ap2.nr a (.inr m) z
  ·refine Og.AI (I2.has a m) fun ob e=>?_
   rw [e] at z;exists z
 refine h.run R (C.gok S F (G (CC env)) F2) S2 F2 (fun K' e=>by exists e;exact(G EJ).len) mt mb hp I2 ap2 ow Q (fun f σ' H' p fl s' r' G' F' z=>?_) fun H' z ea s₁ r₁ s' G' F' y=>?_
 ·exact q f σ' H' p fl s' r' ((G _).trans G' (Nat.le_refl _) (nr G' F'.notIn)) F' z
 ·exact x H' z ea s₁ r₁ s' ((G _).trans G' (Nat.le_refl _) (nr G' F'.notIn)) F' y
end
end Og
end
section
set_option backward.match.sparseCases false
open PySem PySem.W PySem.Calls PyProof.Rows PySem.SeqAt
namespace Og
section
variable{c:Cx}{k:Nat}{iF iG iH:Bool}{e a b:P3}{tl:List Int}
set_option tactic.hygienic true in
theorem iQ(Lk:CP c T0 N0)(Fn:AY c T0 N0)(XK:OI c)(fi:Fi)(st:S5)(hs:st≠.bl)(u:F1):
  CG c (some 112) 180 56 [.ref 106,.str (BC fi),.str (OJ st)] (L iF iG iH e (F1.put fi u b) tl) (fun v H'=>∃o,iO (GB fi iF iG iH) st=some o∧v=.str o∧H'=L iF iG iH e (F1.put fi (mark (GB fi iF iG iH) st u) b) tl)
   (fun H'=>iO (GB fi iF iG iH) st=none∧H'=L iF iG iH e (F1.put fi (mark (GB fi iF iG iH) st u) b) tl):=by
 have E:=w7 fi st hs iF iG iH e u b tl
 unfold w6 at E
 split at E
 ·rename_i out H he
  have E:=Prod.mk.inj (Option.some.inj E)
  refine CG.fin (CG.cut ((OC Lk Fn XK 150).call he)) (fun v H' p=>?_) fun H' p=>?_
  ·obtain⟨p1,rfl⟩:=p
   rw [E.1] at p1
   refine FO p1 fun o ho=>?_
   exact⟨rfl,_,EP E.2,o,ho,rfl,rfl⟩
  ·obtain⟨p1,rfl⟩:=p
   rw [E.1] at p1
   exact⟨_,EP E.2,by simpa using p1,rfl⟩
 ·exists E
inductive Hd | fine | fault | raised
 deriving DecidableEq
noncomputable def GP(i:Bool):S5→Hd
 | .s00=>.fine
 | _=>match i with | true=>.fault | false=>.raised
noncomputable def KG(i:Fi→Bool)(x:Md×Fi)(a:P3):P3×Hd:=(F1.put x.2 (mark (i x.2) (YD x.1 (F1.get x.2 a)).1 (YD x.1 (F1.get x.2 a)).2) a,GP (i x.2) (YD x.1 (F1.get x.2 a)).1)
noncomputable def KH(i:Fi→Bool)(fi:Fi)(a:P3):P3×Hd:=(F1.put fi (mark (i fi) (clo (F1.get fi a)).1 (clo (F1.get fi a)).2) a,GP (i fi) (clo (F1.get fi a)).1)
noncomputable def BL{α:Type}(step:α→P3→P3×Hd):List α→P3→P3×Hd
 | [],a=>(a,.fine)
 | x::l,a=>match step x a with
  | (a',.fine)=>BL step l a'
  | y=>y
theorem OE{α:Type}{step:α→P3→P3×Hd}{x:α}{l:List α}{a:P3}(h:(step x a).2=.fine):BL step (x::l) a=BL step l (step x a).1:=by
 show(match step x a with | (a',.fine)=>BL step l a' | y=>y)=_
 generalize step x a=y at h ⊢
 obtain⟨y1,y2⟩:=y
 dsimp only at h
 subst h;rfl
theorem KI{α:Type}{step:α→P3→P3×Hd}{x:α}{l:List α}{a:P3}{o:Hd}(h:(step x a).2=o)(n:o≠.fine):BL step (x::l) a=step x a:=by
 show(match step x a with | (a',.fine)=>BL step l a' | y=>y)=_
 subst h
 generalize step x a=y at n ⊢
 obtain⟨y1,y2⟩:=y
 induction y2 using Hd.casesOn with
 | fine=>exact absurd rfl n
 | _=>rfl
noncomputable def B8(x:Md×Fi):AV:=.tup [.str (KF x.1),.str (BC x.2)]
noncomputable def FN(x:Md×Fi):Prop:=x.1=.ext→x.2=.f
theorem rF(m:Md)(fi:Fi)(h:FN (m,fi))(u:F1)(b:P3):BW m fi u b:=by
 obtain⟨hh,x,s⟩:=u
 cases hh with
 | true=>exact mT m fi x s b
 | false =>
  cases fi with
  | f=>exact A_i m x s b
  | g=>exact A_j m (fun z=>by have:=h z;exists this) x s b
  | h=>exact A_k m (fun z=>by have:=h z;exists this) x s b
theorem ML(fi:Fi)(a:P3):F1.put fi (F1.get fi a) a=a:=by exists fi<;>rfl
theorem aK(fi:Fi)(u v:F1)(a:P3):F1.put fi u (F1.put fi v a)=F1.put fi u a:=by exists fi<;>rfl
theorem iR(m:Md)(u:F1):(YD m u).1≠.bl:=by
 obtain⟨h,x,s⟩:=u
 exists h<;>exists m<;>exists x<;>exact fun z=>nomatch z
theorem iS(u:F1):(clo u).1≠.bl:=by
 obtain⟨h,x,s⟩:=u
 exists h<;>exact fun z=>nomatch z
theorem aL{key path:List Nat}{slot:Nat}{H:AH}{iF iG iH:Bool}{e a:P3}{tl:List Int}(E:fin key path slot H=some (L iF iG iH e a tl)):115≤H.length:=by
 unfold fin at E
 have ns:∀{o:AO},((H.take 115).set 108 (GV key o)).length=115→115≤H.length:=fun h=>by
  rw [List.length_set,List.length_take] at h;omega
 split at E
 ·split at E
  ·split at E
   ·exact ns (by rw [Option.some.inj E];rfl)
   ·split at E
    ·have:=congrArg List.length (Option.some.inj E)
     rw [IM,List.length_set,List.length_set,List.length_set,List.length_take] at this
     omega
    ·exists E
  ·exact ns (by rw [Option.some.inj E];rfl)
 ·exists E
noncomputable def w8:List GS:=[.assign 83 56 iM,.leaf (.ifs (.cmp .ne (.var 83) (.const (.str []))) [.ret (.var 83)] [])]
noncomputable def w9:List GS:=[.assign 83 56 iN,.leaf (.ifs (.cmp .ne (.var 83) (.const (.str []))) [.ret (.var 83)] [])]
noncomputable def iT(iF iG iH:Bool)(e:P3)(tl:List Int)(x:P3×Hd):PostP:=fun f σ' H'=>AG 76 σ'=some (.ref 106)∧H'=L iF iG iH e x.1 tl∧((x.2=.fine∧f=.next)∨(x.2=.fault∧f=.ret (.str FS)))
noncomputable def SY(iF iG iH:Bool)(e:P3)(tl:List Int)(x:P3×Hd):AH→Prop:=fun H'=>H'=L iF iG iH e x.1 tl∧x.2=.raised
theorem rG{i:Bool}{st:S5}{o:List Nat}(ho:iO i st=some o):(o=[]∧GP i st=.fine)∨(o=FS∧GP i st=.fault):=by
 induction st using S5.casesOn<;>induction i using Bool.casesOn<;>first | exact AU ho | exact .inl ⟨(Option.some.inj ho).symm,rfl⟩ | exact .inr ⟨(Option.some.inj ho).symm,rfl⟩
theorem iU{i:Bool}{st:S5}(ho:iO i st=none):GP i st=.raised:=by
 induction st using S5.casesOn<;>induction i using Bool.casesOn<;>first | rfl | exact nomatch ho
theorem W8(Lk:CP c T0 N0)(Fn:AY c T0 N0)(XK:OI c)(fi:Fi){st:S5}(hs:st≠.bl){u:F1}{σ:Env'}{H:AH}{args:List PX}{vs:List AV}(hv:vs=[.ref 106,.str (BC fi),.str (OJ st)]){a':AH}(E:(ev T0 150).es args σ H=some (vs,a'))
  (w:YH c 112 a' (L iF iG iH e (F1.put fi u b) tl)) (hl:115≤a'.length) (hσ:∀z u,AG z σ=some u→MK 112 u=true) (h76:AG 76 σ=some (.ref 106)) :
  BR c N0 (some 112) 180 [.assign 83 56 args,.leaf (.ifs (.cmp .ne (.var 83) (.const (.str []))) [.ret (.var 83)] [])] σ H (iT iF iG iH e tl (F1.put fi (mark (GB fi iF iG iH) st u) b,GP (GB fi iF iG iH) st)) (SY iF iG iH e tl (F1.put fi (mark (GB fi iF iG iH) st u) b,GP (GB fi iF iG iH) st)):=by
 subst hv
 refine BR.cons (BH.assign Lk Fn (by decide) E (CG.pre w (by exists fi<;>exists st<;>rfl) (iQ Lk Fn XK fi st hs u)) (κ':=some 112) ⟨by decide,by lia,hσ⟩) (fun σ' H' z=>?_) (fun f σ' H' z nz=>?_) fun H' z=>?_
 ·obtain⟨v,_,rfl,o,ho,rfl,rfl⟩:=z
  have hh:(o=[]∧GP (GB fi iF iG iH) st=.fine)∨(o=FS∧GP (GB fi iF iG iH) st=.fault):=by
   exact rG ho
  rcases hh with ⟨rfl,hd⟩ | ⟨rfl,hd⟩
  ·refine BR.cons (BH.leaf (X:=fun _=>False) Lk Fn (j:=20) (by decide) (f:=.next) (σ':=(83,.str [])::σ) (by rfl)) (fun σ2 H2 z=>?_) (fun f σ2 H2 z nz=>absurd z.1 nz) fun _ z=>z.elim
   refine Og.BB z fun _ hr1 hr2=>?_;clear z;subst hr1 hr2
   exact BR.nil ⟨h76,rfl,.inl ⟨hd,rfl⟩⟩
  ·refine BR.cons (P₁:=fun f σ2 H2=>f=.ret (.str FS)∧AG 76 σ2=some (.ref 106)∧H2=L iF iG iH e (F1.put fi (mark (GB fi iF iG iH) st u) b) tl) (X₁:=fun _=>False) (BH.post (BH.leaf (X:=fun _=>False) Lk Fn (j:=20) (by decide) (f:=.ret (.str FS)) (σ':=(83,.str FS)::σ) (by rfl)) (fun f σ2 H2 z=>⟨z.1,by rw [z.2.1];exact h76,z.2.2⟩) fun _ z=>z) (fun σ2 H2 z=>by exists z.1) (fun f σ2 H2 z nz=>?_) fun _ z=>z.elim
   exact⟨z.2.1,z.2.2,.inr ⟨hd,z.1⟩⟩
 ·obtain⟨v,z,_⟩:=z
  exact absurd z nz
 ·obtain⟨z,rfl⟩:=z
  refine⟨rfl,?_⟩
  exact iU z
end
end Og
end
section
open PySem PySem.W PySem.Calls PyProof.Rows PySem.SeqAt
namespace Og
theorem YH.refl{c:Cx}{K:Nat}{H:AH}(h:K≤H.length):YH c K H H:=⟨fun {s r} S=>⟨r,S,rfl,fun _ m=>m,by rw [S.len];exact h⟩,fun i n es _ e=>⟨es,e⟩⟩
section
variable{c:Cx}{k:Nat}{iF iG iH:Bool}{e a b:P3}{tl:List Int}
noncomputable def GY(iF iG iH:Bool):Fi→Bool:=fun fi=>GB fi iF iG iH
set_option tactic.hygienic true in
theorem mV(m:Md)(fi:Fi)(h:FN (m,fi))(a:P3):∃H1,(ev T0 150).es iM (σR m fi) (L iF iG iH e a tl)=some ([.ref 106,.str (BC fi),.str (OJ (YD m (F1.get fi a)).1)],H1) ∧
  YH c 112 H1 (L iF iG iH e (F1.put fi (YD m (F1.get fi a)).2 a) tl)∧115≤H1.length:=by
 have E:=rF m fi h (F1.get fi a) a iF iG iH e tl
 rw [ML] at E
 unfold mS at E
 split at E
 ·rename_i vs H1 he
  split at E
  ·rename_i H2 hf
   obtain⟨rfl,rfl⟩:=Prod.mk.inj (Option.some.inj E)
   exact⟨H1,he,iP hf,aL hf⟩
  ·exists E
 ·exists E
set_option tactic.hygienic true in
theorem iV(fi:Fi)(a:P3):∃H1,(ev T0 150).es iN [(80,.str (BC fi)),(76,.ref 106)] (L iF iG iH e a tl)=some ([.ref 106,.str (BC fi),.str (OJ (clo (F1.get fi a)).1)],H1) ∧
  YH c 112 H1 (L iF iG iH e (F1.put fi (clo (F1.get fi a)).2 a) tl)∧115≤H1.length:=by
 have E:=w5 fi (F1.get fi a) a iF iG iH e tl
 rw [ML] at E
 unfold mS at E
 split at E
 ·rename_i vs H1 he
  split at E
  ·rename_i H2 hf
   obtain⟨rfl,rfl⟩:=Prod.mk.inj (Option.some.inj E)
   exact⟨H1,he,iP hf,aL hf⟩
  ·exists E
 ·exists E
theorem rH:∀z u,AG z ([(76,.ref 106)]:Env')=some u→z=76∧u=.ref 106:=fun z u e=>by
 unfold AG at e
 split at e
 ·rename_i h;exists e;exact⟨(eq_of_beq h).symm,rfl⟩
 ·exists e
theorem E7{σ:Env'}(h:(σ.all fun x=>MK 112 x.2)=true):∀z u,AG z σ=some u→MK 112 u=true:=fun z u e=>by
 induction σ with
 | nil=>exists e
 | cons x σ ih =>
  rw [List.all_cons,Bool.and_eq_true] at h
  obtain⟨y,v⟩:=x
  unfold AG at e
  split at e
  ·exists e;exact h.1
  ·exact ih h.2 e
theorem JK{α:Type}{K:Nat}{val:α→AV}(h:∀x,MK K (val x)=true)(l:List α):OA K (l.map val)=true:=by
 induction l with
 | nil=>rfl
 | cons x l ih=>exact Bool.and_eq_true_iff.mpr ⟨h x,ih⟩
theorem MM{K:Nat}(x:Md×Fi):MK K (B8 x)=true:=rfl
theorem rI{σ:Env'}(h:AG 76 σ=some (.ref 106)):∀z u,AG z ([(76,.ref 106)]:Env')=some u→AG z σ=some u∧MK 112 u=true:=fun z u e=>by
 obtain⟨z1,z2⟩:=rH z u e
 subst z1 z2
 exact⟨h,rfl⟩
theorem aM{α:Type}(Lk:CP c T0 N0){t:PT}{bd:List GS}{val:α→AV}(hv:∀x,MK 112 (val x)=true){step:α→P3→P3×Hd}{σ1:α→Env'}(all:List α)(bind:∀x,IO t (val x) [(76,.ref 106)]=some (σ1 x))
  (row:∀x∈all,∀a,BR c N0 (some 112) 180 bd (σ1 x) (L iF iG iH e a tl) (iT iF iG iH e tl (step x a)) (SY iF iG iH e tl (step x a))) (rest:List α) :
  ∀(j:Nat) (a:P3),all.drop j=rest→TL c N0 (some 112) 180 t bd (.tup (all.map val)) j [(76,.ref 106)] (L iF iG iH e a tl) (iT iF iG iH e tl (BL step rest a)) (SY iF iG iH e tl (BL step rest a)):=by
 induction rest with
 | nil=>exact fun j a hd=>TL.done Lk (congrArg some (List.getElem?_eq_none (by rw [List.length_map];exact List.drop_eq_nil_iff.mp hd))) ⟨rfl,rfl,.inl ⟨rfl,rfl⟩⟩
 | cons x rest ih =>
  intro j a hd
  have ej:all[j]?=some x:=by rw [←List.head?_drop,hd];rfl
  refine TL.step Lk (x:=val x) (σ₁:=σ1 x) (congrArg some (by rw [List.getElem?_map,ej];rfl)) (bind x) (JK hv all) (row x (List.mem_of_getElem? ej) a) (fun σ2 H2 z=>?_) (fun σ2 H2 z=>?_) (fun v σ2 H2 z=>?_) fun H2 z=>?_
  ·refine Og.BB z fun z1 z0 z2=>?_;clear z
   subst z0
   rw [OE (z2.elim (·.1) fun z=>nomatch z.2)]
   exact TL.pre (YH.refl (by rw [IM];decide)) (JK hv all) (rI z1) (ih (j+1) _ (by rw [←List.tail_drop,hd];rfl))
  ·exact z.2.2.elim (fun z=>nomatch z.2) fun z=>nomatch z.2
  ·rw [KI (z.2.2.elim (fun z=>nomatch z.2) (·.1)) (by decide)];exact z
  ·rw [KI z.2 (by decide)];exact z
theorem mW(Lk:CP c T0 N0)(Fn:AY c T0 N0)(XK:OI c)(all:List (Md×Fi))(ok:∀x∈all,FN x)(rest:List (Md×Fi))(j:Nat)(a:P3)(hd:all.drop j=rest):
  TL c N0 (some 112) 180 (.two 11 80) w8 (.tup (all.map B8)) j [(76,.ref 106)] (L iF iG iH e a tl) (iT iF iG iH e tl (BL (KG (GY iF iG iH)) rest a)) (SY iF iG iH e tl (BL (KG (GY iF iG iH)) rest a)):=by
 refine aM Lk (σ1:=fun x=>σR x.1 x.2) MM all (fun _=>rfl) (fun x mx a=>?_) rest j a hd
 obtain⟨m,fi⟩:=x
 refine Og.H8 (mV (c:=c) (iF:=iF) (iG:=iG) (iH:=iH) (e:=e) (tl:=tl) m fi (ok _ mx) a) fun H1 he w hl=>?_
 exact W8 Lk Fn XK fi (iR m _) rfl he w hl (E7 rfl) rfl
end
section
variable{c:Cx}{k:Nat}{iF iG iH:Bool}{e a b:P3}{tl:List Int}
theorem iW(Lk:CP c T0 N0)(Fn:AY c T0 N0)(XK:OI c)(all:List Fi)(rest:List Fi)(j:Nat)(a:P3)(hd:all.drop j=rest):
  TL c N0 (some 112) 180 (.one 80) w9 (.tup (all.map fun x=>.str (BC x))) j [(76,.ref 106)] (L iF iG iH e a tl) (iT iF iG iH e tl (BL (KH (GY iF iG iH)) rest a)) (SY iF iG iH e tl (BL (KH (GY iF iG iH)) rest a)):=by
 refine aM Lk (val:=fun x=>.str (BC x)) (σ1:=fun fi=>[(80,.str (BC fi)),(76,.ref 106)]) (fun _=>rfl) all (fun _=>rfl) (fun fi _ a=>?_) rest j a hd
 refine Og.H8 (iV (c:=c) (iF:=iF) (iG:=iG) (iH:=iH) (e:=e) (tl:=tl) fi a) fun H1 he w hl=>?_
 exact W8 Lk Fn XK fi (iS _) rfl he w hl (E7 rfl) rfl
noncomputable def YI:Hd→List Nat | .fine=>[] | .fault=>FS | .raised=>[114,97,105,115,101,100]
noncomputable def PDo(iF iG iH:Bool)(e:P3)(tl:List Int)(x:P3×Hd):AV→AH→Prop:=fun v H'=>H'=L iF iG iH e x.1 tl∧x.2≠.raised∧v=.str (YI x.2)
theorem mX(Lk:CP c T0 N0)(Fn:AY c T0 N0)(XK:OI c)(all:List (Md×Fi))(ok:∀x∈all,FN x):CG c (some 112) 181 59 [.ref 106,.tup [.str [111,112,101,110],.tup (all.map B8)]] (L iF iG iH e a tl)
  (PDo iF iG iH e tl (BL (KG (GY iF iG iH)) all a)) (SY iF iG iH e tl (BL (KG (GY iF iG iH)) all a)):=by
 refine CG.of_body Fn (d:=tP) rfl (σ:=[(76,.ref 106),(85,.tup [.str [111,112,101,110],.tup (all.map B8)])]) rfl (P:=fun f σ' H'=>H'=L iF iG iH e (BL (KG (GY iF iG iH)) all a).1 tl∧(((BL (KG (GY iF iG iH)) all a).2=.fine∧f=.ret (.str []))∨((BL (KG (GY iF iG iH)) all a).2=.fault∧f=.ret (.str FS)))) ?_ (fun fl σ' H' z=>?_)
 ·refine BR.cons (BH.for Lk Fn (j':=20) (by decide) (src:=.tup (all.map B8)) (H₁:=L iF iG iH e a tl) (by rfl) rfl (TL.pre (YH.refl (by rw [IM];decide)) (JK MM all) (rI rfl) (mW Lk Fn XK all ok all 0 a rfl))) (fun σ' H' z=>?_) (fun f σ' H' z nz=>?_) fun H' z=>z
  ·obtain⟨_,rfl,z | z⟩:=z
   ·refine BR.cons (BH.leaf (X:=fun _=>False) Lk Fn (j:=10) (by decide) (f:=.ret (.str [])) (σ':=σ') (by rfl)) (fun σ2 H2 z=>by exists z.1) (fun f σ2 H2 y nz=>?_) fun _ z=>z.elim
    refine Og.BB y fun hr1 hr2 hr3=>?_;clear y;subst hr1 hr2 hr3
    exact⟨rfl,.inl ⟨z.1,rfl⟩⟩
   ·exists z.2
  ·obtain⟨_,rfl,z | z⟩:=z
   ·exact absurd z.2 nz
   ·exact⟨rfl,.inr z⟩
 ·obtain⟨rfl,z | z⟩:=z
  ·rw [z.2]
   exact⟨by simp,rfl,by rw [z.1];simp,by rw [z.1];rfl⟩
  ·rw [z.2]
   exact⟨by simp,rfl,by rw [z.1];simp,by rw [z.1];rfl⟩
theorem iX(Lk:CP c T0 N0)(Fn:AY c T0 N0)(XK:OI c)(all:List Fi):CG c (some 112) 181 61 [.ref 106,.tup [.str [99,108,111,115,101],.tup (all.map fun x=>.str (BC x))]] (L iF iG iH e a tl)
  (PDo iF iG iH e tl (BL (KH (GY iF iG iH)) all a)) (SY iF iG iH e tl (BL (KH (GY iF iG iH)) all a)):=by
 refine CG.of_body Fn (d:=tQ) rfl (σ:=[(76,.ref 106),(85,.tup [.str [99,108,111,115,101],.tup (all.map fun x=>.str (BC x))])]) rfl (P:=fun f σ' H'=>H'=L iF iG iH e (BL (KH (GY iF iG iH)) all a).1 tl∧(((BL (KH (GY iF iG iH)) all a).2=.fine∧f=.ret (.str []))∨((BL (KH (GY iF iG iH)) all a).2=.fault∧f=.ret (.str FS)))) ?_ (fun fl σ' H' z=>?_)
 ·refine BR.cons (BH.for Lk Fn (j':=20) (by decide) (src:=.tup (all.map fun x=>.str (BC x))) (H₁:=L iF iG iH e a tl) (by rfl) rfl (TL.pre (YH.refl (by rw [IM];decide)) (JK (fun _=>rfl) all) (rI rfl) (iW Lk Fn XK all all 0 a rfl))) (fun σ' H' z=>?_) (fun f σ' H' z nz=>?_) fun H' z=>z
  ·obtain⟨_,rfl,z | z⟩:=z
   ·refine BR.cons (BH.leaf (X:=fun _=>False) Lk Fn (j:=10) (by decide) (f:=.ret (.str [])) (σ':=σ') (by rfl)) (fun σ2 H2 z=>by exists z.1) (fun f σ2 H2 y nz=>?_) fun _ z=>z.elim
    refine Og.BB y fun hr1 hr2 hr3=>?_;clear y;subst hr1 hr2 hr3
    exact⟨rfl,.inl ⟨z.1,rfl⟩⟩
   ·exists z.2
  ·obtain⟨_,rfl,z | z⟩:=z
   ·exact absurd z.2 nz
   ·exact⟨rfl,.inr z⟩
 ·obtain⟨rfl,z | z⟩:=z
  ·rw [z.2]
   exact⟨by simp,rfl,by rw [z.1];simp,by rw [z.1];rfl⟩
  ·rw [z.2]
   exact⟨by simp,rfl,by rw [z.1];simp,by rw [z.1];rfl⟩
end
section
variable{c:Cx}{k:Nat}{iF iG iH:Bool}{e a b:P3}{tl:List Int}
noncomputable def cV(l:List (Md×Fi)):Prop:=(∃x,l=[x])∨(∃x y,l=[x,y])∨∃x y z,l=[x,y,z]
noncomputable def GZ(i:Fi→Bool)(o:Bool)(rows:List (Md×Fi))(a:P3):P3×Hd:=match o with
 | true=>BL (KG i) rows a
 | false=>BL (KH i) (rows.map (·.2)) a
noncomputable def wA:List PX:=[.var 76,.tup [.const (.str [99,108,111,115,101]),.callB .tuple [.comp (.idx (.var 22) (.const (.int 1))) (.one 22) (.var 21) none]]]
theorem cW(rows:List (Md×Fi))(h:cV rows):∃o,(ev T0 30).es wA [(76,.ref 106),(21,.tup (rows.map B8)),(94,.bool false)] (L iF iG iH e a tl)=some ([.ref 106,.tup [.str [99,108,111,115,101],.tup ((rows.map (·.2)).map fun x=>.str (BC x))]],L iF iG iH e a tl++[o]):=by
 rcases h with ⟨x,rfl⟩ | ⟨x,y,rfl⟩ | ⟨x,y,z,rfl⟩
 ·exact⟨.list [.str (BC x.2)],by kernel_rfl⟩
 ·exact⟨.list [.str (BC x.2),.str (BC y.2)],by kernel_rfl⟩
 ·exact⟨.list [.str (BC x.2),.str (BC y.2),.str (BC z.2)],by kernel_rfl⟩
theorem aN(rows:List (Md×Fi))(o:Bool):∀z u,AG z ([(76,.ref 106),(21,.tup (rows.map B8)),(94,.bool o)]:Env')=some u→MK 112 u=true:=E7 (show(OA 112 (rows.map B8)&&true)=true by rw [JK MM];rfl)
theorem mY(Lk:CP c T0 N0)(Fn:AY c T0 N0)(XK:OI c)(rows:List (Md×Fi))(ok:∀x∈rows,FN x)(h3:cV rows)(o:Bool):
  CG c (some 112) 190 68 [.ref 106,.tup (rows.map B8),.bool o] (L iF iG iH e a tl) (fun v H'=>H'=L iF iG iH e (GZ (GY iF iG iH) o rows a).1 tl∧v=.str (YI (GZ (GY iF iG iH) o rows a).2)) (fun _=>False):=by
 refine CG.le (k:=182) (CG.of_body Fn (d:=tR) rfl (σ:=[(76,.ref 106),(21,.tup (rows.map B8)),(94,.bool o)]) rfl (P:=fun f σ' H'=>H'=L iF iG iH e (GZ (GY iF iG iH) o rows a).1 tl∧f=.ret (.str (YI (GZ (GY iF iG iH) o rows a).2))) (X:=fun _=>False) ?_ (fun fl σ' H' z=>?_)) (by decide)
 ·refine BR.cons (P₁:=fun f σ' H'=>H'=L iF iG iH e (GZ (GY iF iG iH) o rows a).1 tl∧f=.ret (.str (YI (GZ (GY iF iG iH) o rows a).2))) (X₁:=fun _=>False) (BH.try_ Lk Fn XK (P₁:=fun f σ' H'=>H'=L iF iG iH e (GZ (GY iF iG iH) o rows a).1 tl∧f=.ret (.str (YI (GZ (GY iF iG iH) o rows a).2))) (X₁:=SY iF iG iH e tl (GZ (GY iF iG iH) o rows a)) ?_ (fun _ _ _ z=>z) fun H' z=>?_) (fun σ' H' z=>by exists z.2) (fun f σ' H' z nz=>z) fun _ z=>z
  ·induction o using Bool.casesOn with
   | true =>
    refine BR.cons (BH.ifs Lk Fn (j:=10) (by decide) (d:=true) (H₁:=L iF iG iH e a tl) (by rfl) (BR.cons (P:=fun f σ' H'=>H'=L iF iG iH e (GZ (GY iF iG iH) true rows a).1 tl∧f=.ret (.str (YI (GZ (GY iF iG iH) true rows a).2))) (X:=SY iF iG iH e tl (GZ (GY iF iG iH) true rows a)) (BH.ret Lk Fn (j:=10) (by decide) (vs:=[.ref 106,.tup [.str [111,112,101,110],.tup (rows.map B8)]]) (H₁:=L iF iG iH e a tl) (by rfl) (mX Lk Fn XK rows ok) (κ':=some 112) ⟨by decide,by rw [IM];decide,aN rows true⟩) (fun σ' H' z=>?_) (fun f σ' H' z nz=>?_) fun H' z=>z)) (fun σ' H' z=>by exists z.2) (fun f σ' H' z nz=>z) fun _ z=>z
    ·obtain⟨v,z,_⟩:=z;exists z
    ·refine Og.k7 z fun v hr1 _ hr2 _ hr3=>?_;clear z;subst hr1 hr2 hr3;exact⟨rfl,rfl⟩
   | false =>
    refine BR.cons (P₁:=fun f σ' H'=>f=.next∧σ'=[(76,.ref 106),(21,.tup (rows.map B8)),(94,.bool false)]∧H'=L iF iG iH e a tl) (X₁:=fun _=>False) (BH.ifs Lk Fn (j:=10) (by decide) (d:=false) (H₁:=L iF iG iH e a tl) (by rfl) (BR.nil ⟨rfl,rfl,rfl⟩)) (fun σ' H' z=>?_) (fun f σ' H' z nz=>absurd z.1 nz) fun _ z=>z.elim
    refine Og.BB z fun _ hr1 hr2=>?_;clear z;subst hr1 hr2
    refine Og.AI (cW (iF:=iF) (iG:=iG) (iH:=iH) (e:=e) (a:=a) (tl:=tl) rows h3) fun ob he=>?_
    have hl:112≤(L iF iG iH e a tl++[ob]).length:=by rw [List.length_append,IM];lia
    refine BR.cons (BH.ret Lk Fn (j:=30) (by decide) he (CG.pre (EP (e:=e) (a:=a) (tl:=tl) (iF:=iF) (iG:=iG) (iH:=iH) (by rw [List.take_append_of_le_length (by rw [IM];decide)];rfl)) (show((OA 112 ((rows.map (·.2)).map fun x=>AV.str (BC x))&&true)&&true)=true by rw [JK fun _=>rfl];rfl) (iX Lk Fn XK (rows.map (·.2)))) (κ':=some 112) ⟨by decide,hl,aN rows false⟩) (fun σ' H' z=>?_) (fun f σ' H' z nz=>?_) fun H' z=>z
    ·obtain⟨v,z,_⟩:=z;exists z
    ·refine Og.k7 z fun v hr1 _ hr2 _ hr3=>?_;clear z;subst hr1 hr2 hr3;exact⟨rfl,rfl⟩
  ·obtain⟨rfl,z⟩:=z
   exact⟨rfl,by rw [z];rfl⟩
 ·obtain⟨rfl,rfl⟩:=z
  exact⟨by simp,rfl,rfl⟩
end
section
variable{T:Tab}{k:Nat}
theorem wB:(ev T (k+1)).e=CN T (ev T k):=rfl
theorem wC:(ev T (k+1)).es=J1 (ev T k):=rfl
theorem wD:(ev T (k+1)).s=E8 T (ev T k):=rfl
theorem wE:(ev T (k+1)).ss=KQ (ev T k):=rfl
theorem aO:(ev T (k+1)).loop=MY (ev T k):=rfl
end
noncomputable def SZ:List PS:=[(.assign 26 (.bin .fdiv (.var 26) (.const (.int 3)))),(.assign 80 (.idx (.const (.str [70,71,72])) (.bin .mod (.var 26) (.const (.int 3))))),(.assign 26 (.bin .fdiv (.var 26) (.const (.int 3)))),(.expr (.meth (.var 21) 0 [(.tup [(.idx (.tup [(.const (.str [105,110,112,117,116])),(.const (.str [111,117,116,112,117,116])),(.const (.str [105,45,111])),(.ite (.cmp .eq (.var 80) (.const (.str [70]))) (.const (.str [101,120,116,101,110,100])) (.const (.str [105,45,111])))]) (.bin .mod (.var 26) (.const (.int 4)))),(.var 80)])])),(.assign 26 (.bin .fdiv (.var 26) (.const (.int 4))))]
noncomputable def DZ:Int→Fi | 0=>.f | 1=>.g | _=>.h
noncomputable def P1(fi:Fi):Int→Md | 0=>.inp | 1=>.out | 2=>.io | _=>match fi with | .f=>.ext | _=>.io
section
variable{T:Tab}{V:Ev}{σ σ1:Env'}{H H1 H2:AH}
theorem D3{α β:Type}{x:Option (α×AH)}{f:α→AH→Option β}{v:α}{H:AH}(e:x=some (v,H)):CD x f=f v H:=by rw [e];rfl
theorem CZ{α β:Type}{x:Option α}{f:α→Option β}{v:α}(e:x=some v):x.bind f=f v:=by rw [e];rfl
theorem YJ{k x:Nat}{v:AV}(h:AG x σ=some v):(ev T (k+1)).e (.var x) σ H=some (v,H):=by show(AG x σ).map _=_;rw [h];rfl
theorem oP{a b:PX}{va vb:AV}(h1:V.e a σ H=some (va,H1))(h2:V.e b σ H1=some (vb,H2)):CN T V (.idx a b) σ H=(dW H2 va vb).map fun x=>(x,H2):=(D3 h1).trans (D3 h2)
theorem KJ{x:Nat}{e:PX}{v:AV}(h:V.e e σ H=some (v,H1)):E8 T V (.assign x e) σ H=some (.next,(x,v)::σ,H1):=D3 h
theorem JL{p:PS}{l:List PS}(h:V.s p σ H=some (.next,σ1,H1)):KQ V (p::l) σ H=KQ V l σ1 H1:=CZ h
theorem iY{a:PX}{va:AV}(h1:V.e a σ H=some (va,H1)):J1 V [a] σ H=some ([va],H1):=D3 h1
theorem wF{a b:PX}{va vb:AV}(h1:V.e a σ H=some (va,H1))(h2:V.e b σ H1=some (vb,H2)):J1 V [a,b] σ H=some ([va,vb],H2):=(D3 h1).trans (D3 (iY h2))
theorem rJ{e:PX}{v:AV}(h:V.e e σ H=some (v,H1)):E8 T V (.expr e) σ H=some (.next,σ,H1):=D3 h
end
noncomputable def wG:PX:=.tup [(.const (.str [105,110,112,117,116])),(.const (.str [111,117,116,112,117,116])),(.const (.str [105,45,111])),(.ite (.cmp .eq (.var 80) (.const (.str [70]))) (.const (.str [101,120,116,101,110,100])) (.const (.str [105,45,111])))]
noncomputable def iZ:PX:=.idx wG (.bin .mod (.var 26) (.const (.int 4)))
noncomputable def wH:PX:=.meth (.var 21) 0 [.tup [iZ,.var 80]]
theorem j0{T:Tab}{k x:Nat}{n d:Int}{σ:Env'}{H:AH}(h:AG x σ=some (.int n))(hd:(DA d&&d != 0)=true):(ev T (k+3)).s (.assign x (.bin .fdiv (.var x) (.const (.int d)))) σ H=some (.next,(x,.int (Int.fdiv n d))::σ,H):=by
 refine KJ (T:=T) (V:=ev T (k+2)) (H1:=H) ((D3 (YJ h)).trans ?_)
 show CJ (DA d&&d != 0) (some (AV.int (Int.fdiv n d),H))=_
 rw [hd];rfl
theorem wI{V:Ev}{σ:Env'}{H:AH}{idx:Nat}{l:List AV}{x:AV}(h1:V.e (.var 21) σ H=some (.ref idx,H))(h2:V.es [.tup [iZ,.var 80]] σ H=some ([x],H))(hl:H[idx]?=some (.list l))(hf:CF l.length=true):
  CN T0 V wH σ H=some (.none,H.set idx (.list (l++[x]))):=by
 refine(D3 h1).trans ?_
 have e1:WP H (.ref idx)=none:=CZ hl
 have e2:kd H (.ref idx)=some .list:=CZ hl
 rw [e1]
 refine(D3 h2).trans ((CZ e2).trans ?_)
 rw [e2]
 refine(CZ (f:=fun ob=>eA H idx ob .append [x]) hl).trans ?_
 show CJ (CF l.length) _=_
 rw [hf];rfl
theorem rK{k:Nat}{n i m:Int}{v:AV}{H:AH}{idx:Nat}{l:List AV}(h1:Int.fmod (Int.fdiv n 3) 3=i)(hi:i=0∨i=1∨i=2)(h2:Int.fmod (Int.fdiv (Int.fdiv n 3) 3) 4=m)(hm:m=0∨m=1∨m=2∨m=3)(hl:H[idx]?=some (.list l))(hf:CF l.length=true){σ:Env'}
  (hn:AG 26 σ=some (.int n)) (hx:AG 21 σ=some (.ref idx)) :
  ∃σ',(ev T0 (k+20)).ss SZ ((59,v)::σ) H=some (.next,σ',H.set idx (.list (l++[B8 (P1 (DZ i) m,DZ i)])))∧AG 26 σ'=some (.int (Int.fdiv (Int.fdiv (Int.fdiv n 3) 3) 4))∧AG 21 σ'=some (.ref idx):=by
 have a1:(ev T0 (k+19)).s (.assign 26 (.bin .fdiv (.var 26) (.const (.int 3)))) ((59,v)::σ) H=some (.next,(26,.int (Int.fdiv n 3))::(59,v)::σ,H):=j0 (k:=k+16) (σ:=(59,v)::σ) hn rfl
 have e80:(ev T0 (k+17)).e (.bin .mod (.var 26) (.const (.int 3))) ((26,.int (Int.fdiv n 3))::(59,v)::σ) H=some (.int i,H):=by rw [←h1];rfl
 have a3:(ev T0 (k+18)).e (.idx (.const (.str [70,71,72])) (.bin .mod (.var 26) (.const (.int 3)))) ((26,.int (Int.fdiv n 3))::(59,v)::σ) H=some (.str (BC (DZ i)),H):=by
  refine(oP (T:=T0) (V:=ev T0 (k+17)) (a:=.const (.str [70,71,72])) (va:=.str [70,71,72]) (H1:=H) rfl e80).trans ?_
  rcases hi with rfl | rfl | rfl<;>rfl
 generalize hp:((26,AV.int (Int.fdiv n 3))::(59,v)::σ:Env')=σ1 at a1 a3
 have x1:AG 26 σ1=some (.int (Int.fdiv n 3)):=by rw [←hp];rfl
 have y1:AG 21 σ1=some (.ref idx):=by rw [←hp];exact hx
 have a5:(ev T0 (k+19)).s (.assign 26 (.bin .fdiv (.var 26) (.const (.int 3)))) ((80,.str (BC (DZ i)))::σ1) H=some (.next,(26,.int (Int.fdiv (Int.fdiv n 3) 3))::(80,.str (BC (DZ i)))::σ1,H):=j0 (k:=k+16) (σ:=(80,.str (BC (DZ i)))::σ1) x1 rfl
 have b1:(ev T0 (k+13)).e (.bin .mod (.var 26) (.const (.int 4))) ((26,.int (Int.fdiv (Int.fdiv n 3) 3))::(80,.str (BC (DZ i)))::σ1) H=some (.int m,H):=by rw [←h2];rfl
 have t:(ev T0 (k+13)).e wG ((26,.int (Int.fdiv (Int.fdiv n 3) 3))::(80,.str (BC (DZ i)))::σ1) H=some (.tup [.str (KF .inp),.str (KF .out),.str (KF .io),.str (KF (P1 (DZ i) 3))],H):=by
  rcases hi with rfl | rfl | rfl<;>kernel_rfl
 generalize hq:((26,AV.int (Int.fdiv (Int.fdiv n 3) 3))::(80,.str (BC (DZ i)))::σ1:Env')=σ2 at a5 b1 t
 have x2:AG 26 σ2=some (.int (Int.fdiv (Int.fdiv n 3) 3)):=by rw [←hq];rfl
 have y2:AG 21 σ2=some (.ref idx):=by rw [←hq];exact y1
 have z2:AG 80 σ2=some (.str (BC (DZ i))):=by rw [←hq];rfl
 have b2:(ev T0 (k+14)).e iZ σ2 H=some (.str (KF (P1 (DZ i) m)),H):=by
  refine(oP (T:=T0) (V:=ev T0 (k+13)) t b1).trans ?_
  rcases hm with rfl | rfl | rfl | rfl<;>rfl
 have t1:(ev T0 (k+15)).es [iZ,.var 80] σ2 H=some ([.str (KF (P1 (DZ i) m)),.str (BC (DZ i))],H):=wF (V:=ev T0 (k+14)) b2 (YJ z2)
 have b3:(ev T0 (k+17)).es [.tup [iZ,.var 80]] σ2 H=some ([B8 (P1 (DZ i) m,DZ i)],H):=iY (V:=ev T0 (k+16)) (D3 t1)
 have b4:(ev T0 (k+19)).s (.expr wH) σ2 H=some (.next,σ2,H.set idx (.list (l++[B8 (P1 (DZ i) m,DZ i)]))) :=
  rJ (T:=T0) (V:=ev T0 (k+18)) (wI (V:=ev T0 (k+17)) (YJ y2) b3 hl hf)
 have b5:(ev T0 (k+19)).s (.assign 26 (.bin .fdiv (.var 26) (.const (.int 4)))) σ2 (H.set idx (.list (l++[B8 (P1 (DZ i) m,DZ i)])))=some (.next,(26,.int (Int.fdiv (Int.fdiv (Int.fdiv n 3) 3) 4))::σ2,H.set idx (.list (l++[B8 (P1 (DZ i) m,DZ i)]))):=j0 (k:=k+16) x2 rfl
 have a4:(ev T0 (k+19)).s (.assign 80 (.idx (.const (.str [70,71,72])) (.bin .mod (.var 26) (.const (.int 3))))) σ1 H=some (.next,(80,.str (BC (DZ i)))::σ1,H):=KJ (T:=T0) (V:=ev T0 (k+18)) a3
 exact⟨_,(JL (V:=ev T0 (k+19)) a1).trans ((JL (V:=ev T0 (k+19)) a4).trans ((JL (V:=ev T0 (k+19)) a5).trans ((JL (V:=ev T0 (k+19)) b4).trans (JL (V:=ev T0 (k+19)) b5)))),rfl,y2⟩
noncomputable def j1(n:Int)(idx:Nat)(σ:Env'):Prop:=AG 26 σ=some (.int n)∧AG 21 σ=some (.ref idx)
theorem j2(y:Int):Int.fmod y 3=0∨Int.fmod y 3=1∨Int.fmod y 3=2:=by
 rw [Int.fmod_eq_emod_of_nonneg y (by decide)];lia
theorem oQ(y:Int):Int.fmod y 4=0∨Int.fmod y 4=1∨Int.fmod y 4=2∨Int.fmod y 4=3:=by
 rw [Int.fmod_eq_emod_of_nonneg y (by decide)];lia
theorem wJ(i m:Int)(hi:i=0∨i=1∨i=2)(hm:m=0∨m=1∨m=2∨m=3):FN (P1 (DZ i) m,DZ i):=by
 rcases hi with rfl | rfl | rfl<;>rcases hm with rfl | rfl | rfl | rfl<;>intro h<;>first | rfl | (exact absurd h (by decide))
theorem rL(k N idx:Nat)(m:Nat):∀(j:Nat) (l:List AV) (n:Int) (σ:Env') (H:AH),j+m=N→l.length+m≤3→H[idx]?=some (.list l)→j1 n idx σ →
  ∃(rows:List (Md×Fi)) (σ':Env'),rows.length=m∧(∀x∈rows,FN x)∧(ev T0 (k+21+m)).loop (.one 59) SZ (.range N) j σ H=some (.next,σ',H.set idx (.list (l++rows.map B8)))∧∃n',j1 n' idx σ':=by
 induction m with
 | zero =>
  intro j l n σ H hj hl hi ht
  refine⟨[],σ,rfl,fun x h=>(by exists h),?_,n,ht⟩
  have hs:H.set idx (.list (l++[]))=H:=by
   apply List.ext_getElem?
   intro i
   rw [List.getElem?_set]
   split
   ·subst idx
    split
    ·rw [hi];simp
    ·rename_i h;rw [List.getElem?_eq_none (by lia)]
   ·rfl
  show(ev T0 (k+21)).loop _ _ _ _ _ _=_
  rw [List.map_nil,hs,aO]
  have hn:HA H j (.range N)=some none:=by
   show some (if j<N then _ else none)=_
   rw [if_neg (by lia)]
  exact CZ hn
 | succ m ih =>
  intro j l n σ H hj hl hi ht
  have hx:idx<H.length:=(List.getElem?_eq_some_iff.mp hi).1
  obtain⟨σ1,e1,t1⟩:=rK (k:=k+m+1) (v:=.int (j:Nat)) (m:=Int.fmod (Int.fdiv (Int.fdiv n 3) 3) 4) (n:=n) rfl (j2 _) rfl (oQ _) hi (by show decide (_≤_)=true;exact decide_eq_true (by lia)) ht.1 ht.2
  have okr:=wJ _ _ (j2 (Int.fdiv n 3)) (oQ (Int.fdiv (Int.fdiv n 3) 3))
  revert e1 t1 okr
  generalize (P1 (DZ (Int.fmod (Int.fdiv n 3) 3)) (Int.fmod (Int.fdiv (Int.fdiv n 3) 3) 4),DZ (Int.fmod (Int.fdiv n 3) 3))=row
  generalize Int.fdiv (Int.fdiv (Int.fdiv n 3) 3) 4=n'
  intro e1 t1 okr
  obtain⟨rows,σ',hr,ok,e2,t2⟩:=ih (j+1) (l++[B8 row]) n' σ1 (H.set idx (.list (l++[B8 row]))) (by lia) (by simp;lia) (by rw [List.getElem?_set_self hx]) t1
  refine⟨row::rows,σ',by rw [List.length_cons,hr],?_,?_,t2⟩
  ·intro x hx
   rcases List.mem_cons.mp hx with rfl | hx
   ·exact okr
   ·exact ok x hx
  ·have hn:HA H j (.range N)=some (some (.int (j:Nat))):=by
    show some (if j<N then _ else none)=_
    rw [if_pos (by lia)]
   have hb:IO (.one 59) (.int (j:Nat)) σ=some ((59,.int (j:Nat))::σ):=rfl
   rw [show k+m+1+20=k+21+m by lia] at e1
   show(ev T0 (k+21+m+1)).loop _ _ _ _ _ _=_
   rw [aO]
   refine(CZ hn).trans ((CZ hb).trans ((CZ e1).trans (e2.trans ?_)))
   rw [List.set_set,List.append_assoc,List.map_cons,List.singleton_append]
theorem mZ{V:Ev}{σ:Env'}{H H1:AH}{e:PX}{n:Int}(h:V.e e σ H=some (.int n,H1)):KP V (.range e) σ H=CJ (decide (0≤n)&&DA n) (some (.range n.toNat,H1)):=D3 h
theorem rM{T:Tab}{V:Ev}{f:Nat}{d:Fn}{args:List AV}{σ σ':Env'}{H H':AH}{v:AV}(hf:T.fn f=some d)(hb:CQ d.params d.dflts args=some σ)(b:V.ss d.body σ H=some (.ret v,σ',H')):JS T V f args H=some (v,H'):=by
 unfold JS
 rw [hf]
 show((CQ d.params d.dflts args).bind _)=_
 rw [hb]
 exact CZ b
theorem n0:∀(rows:List (Md×Fi)),rows.length≤3→rows.length≠0→cV rows
 | [],_,h=>absurd rfl h
 | [x],_,_=>.inl ⟨x,rfl⟩
 | [x,y],_,_=>.inr (.inl ⟨x,y,rfl⟩)
 | [x,y,z],_,_=>.inr (.inr ⟨x,y,z,rfl⟩)
 | _::_::_::_::_,h,_=>absurd h (by simp)
theorem YK{H:AH}{l:List AV}:D9 (H++[.list l]) H.length=some l:=by
 unfold D9
 rw [List.getElem?_concat_length];rfl
theorem rN(k:Nat)(x:Int)(H:AH):∃rows:List (Md×Fi),cV rows∧(∀x∈rows,FN x)∧(ev T0 (k+40)).call 67 [.int x] H=some (.tup (rows.map B8),H++[.list (rows.map B8)]):=by
 have key:∀(N:Nat),(Int.fmod x 3=(N:Int))→N<3→∃rows:List (Md×Fi),cV rows∧(∀x∈rows,FN x)∧(ev T0 (k+40)).call 67 [.int x] H=some (.tup (rows.map B8),H++[.list (rows.map B8)]):=by
  intro N hN hl
  obtain⟨rows,σ',hr,ok,e2,n',t2⟩:=rL (k+15-N) (N+1) H.length (N+1) 0 [] x [(21,.ref H.length),(26,.int x)] (H++[.list []]) (by lia) (by simp;lia) (by simp) ⟨rfl,rfl⟩
  have hz:(H++[AO.list []]).set H.length (.list ([]++rows.map B8))=H++[.list (rows.map B8)]:=by simp
  rw [hz,show k+15-N+21+(N+1)=k+37 by lia] at e2
  have a1:(ev T0 (k+38)).s (.assign 21 (.list [])) [(26,.int x)] H=some (.next,[(21,.ref H.length),(26,.int x)],H++[.list []]):=by kernel_rfl
  have a2:(ev T0 (k+36)).e (.bin .add (.const (.int 1)) (.bin .mod (.var 26) (.const (.int 3)))) [(21,.ref H.length),(26,.int x)] (H++[.list []])=some (.int (1+Int.fmod x 3),H++[.list []]):=by kernel_rfl
  rw [hN] at a2
  have a3:(ev T0 (k+37)).it (.range (.bin .add (.const (.int 1)) (.bin .mod (.var 26) (.const (.int 3))))) [(21,.ref H.length),(26,.int x)] (H++[.list []])=some (.range (N+1),H++[.list []]):=by
   refine(mZ (V:=ev T0 (k+36)) a2).trans ?_
   have:N=0∨N=1∨N=2:=by lia
   rcases this with rfl | rfl | rfl<;>rfl
  have a4:(ev T0 (k+38)).s (.for (.one 59) (.range (.bin .add (.const (.int 1)) (.bin .mod (.var 26) (.const (.int 3))))) SZ) [(21,.ref H.length),(26,.int x)] (H++[.list []])=some (.next,σ',H++[.list (rows.map B8)]):=by
   exact(D3 a3).trans e2
  have h21:AG 21 σ'=some (.ref H.length):=by
   exact t2.2
  have a5:(ev T0 (k+37)).e (.callB .tuple [.var 21]) σ' (H++[.list (rows.map B8)])=some (.tup (rows.map B8),H++[.list (rows.map B8)]):=by
   have v1:(ev T0 (k+36)).e (.var 21) σ' (H++[.list (rows.map B8)])=some (.ref H.length,H++[.list (rows.map B8)]):=by
    show(AG 21 σ').map _=_;rw [h21];rfl
   have v2:(ev T0 (k+36)).es [.var 21] σ' (H++[.list (rows.map B8)])=some ([.ref H.length],H++[.list (rows.map B8)]):=by
    rw [wC];exact iY (by show(AG 21 σ').map _=_;rw [h21];rfl)
   refine(D3 v2).trans ?_
   show((D9 (H++[.list (rows.map B8)]) H.length).bind fun l=>CJ (CF l.length) (some (AV.tup l,H++[AO.list (rows.map B8)])))=_
   refine(CZ (YK (l:=rows.map B8))).trans ?_
   rw [show CF (rows.map B8).length=true from decide_eq_true (by rw [List.length_map];lia)]
   rfl
  refine⟨rows,n0 rows (hr▸Nat.succ_le_of_lt hl) (by rw [hr];exact Nat.succ_ne_zero N),ok,?_⟩
  ·show(ev T0 (k+39+1)).call 67 _ _=_
   have b:(ev T0 (k+39)).ss fn67.body [(26,.int x)] H=some (.ret (.tup (rows.map B8)),σ',H++[.list (rows.map B8)]):=by
    show(ev T0 (k+38+1)).ss [.assign 21 (.list []),.for (.one 59) (.range (.bin .add (.const (.int 1)) (.bin .mod (.var 26) (.const (.int 3))))) SZ,.ret (.callB .tuple [.var 21])] _ _=_
    rw [wE,JL a1,JL a4]
    have a6:(ev T0 (k+38)).s (.ret (.callB .tuple [.var 21])) σ' (H++[.list (rows.map B8)])=some (.ret (.tup (rows.map B8)),σ',H++[.list (rows.map B8)]):=by
     exact D3 a5
    exact CZ a6
   have hf:T0.fn 67=some fn67:=rfl
   have hb:CQ fn67.params fn67.dflts [.int x]=some [(26,.int x)]:=rfl
   exact rM (V:=ev T0 (k+39)) hf hb b
 rcases j2 x with h | h | h
 ·exact key 0 h (by decide)
 ·exact key 1 h (by decide)
 ·exact key 2 h (by decide)
noncomputable def e1E:PS:=.assign 17 (.ite (.cmp .notin (.var 80) (.var 92)) (.const (.str [52,50])) (.const (.str [48,48])))
noncomputable def e2E:PS:=.ifs (.var 94) [(.assign 17 (.callF 66 [(.var 92),(.var 93),(.var 80),(.var 11)]))] [(.ifs (.cmp .isin (.var 80) (.var 92)) [(.expr (.meth (.var 92) 4 [(.var 80)]))] [])]
noncomputable def e3E:PS:=.assign 103 (.cmp .eq (.bin .mod (.bin .fdiv (.var 97) (.bin .pow (.const (.int 2)) (.meth (.const (.str [70,71,72])) 7 [(.var 80)]))) (.const (.int 2))) (.const (.int 0)))
noncomputable def e4E:PS:=.ifs (.var 103) [(.sub (.var 100) (.meth (.const (.str [70,71,72])) 7 [(.var 80)]) (.var 17))] []
noncomputable def e5E:PS:=.ifs (.cmp .ne (.var 17) (.const (.str [48,48]))) [(.assign 102 (.ite (.var 103) (.const (.str [102,97,117,108,116])) (.const (.str [114,97,105,115,101,100])))),.brk] []
noncomputable def W9:List PS:=[e1E,e2E,e3E,e4E,e5E]
section
variable{f cell:Int}{rows:List (Md×Fi)}{o:Bool}{due:List Nat}
noncomputable def σE(f cell:Int)(rows:List (Md×Fi))(o:Bool)(due:List Nat):Env':=[(102,.str due),(94,.bool o),(21,.tup (rows.map B8)),(101,.int cell),(75,.ref 1),(93,.ref 3),(97,.int f),(76,.ref 106),(92,.ref 109),(100,.ref 110)]
noncomputable def σX(f cell:Int)(rows:List (Md×Fi))(o:Bool)(m:Md)(fi:Fi):Env':=(80,.str (BC fi))::(11,.str (KF m))::σE f cell rows o []
noncomputable def BJ(f:Int):Fi→Bool
 | .f=>Int.fmod (Int.fdiv f 1) 2==0
 | .g=>Int.fmod (Int.fdiv f 2) 2==0
 | .h=>Int.fmod (Int.fdiv f 4) 2==0
noncomputable def j3(h:Bool):List Nat:=match h with | true=>[48,48] | false=>[52,50]
variable{iF iG iH:Bool}{e a b:P3}{tl:List Int}
noncomputable def wK(x:Option (Fl×Env'×AH)):Option (Fl×Env'×AH):=x.map fun y=>(y.1,y.2.1,y.2.2.take 115)
theorem oR(k:Nat)(fi:Fi)(m:Md)(x:C5)(s:S5)(h:Bool):(ev T0 (k+20)).s e1E (σX f cell rows o m fi) (L iF iG iH (F1.put fi ⟨h,x,s⟩ b) a tl)=some (.next,(17,.str (j3 h))::σX f cell rows o m fi,L iF iG iH (F1.put fi ⟨h,x,s⟩ b) a tl):=by
 exists fi<;>exists h<;>kernel_rfl
theorem n4(k:Nat)(fi:Fi)(m:Md)(ok:FN (m,fi))(u:F1)(y:AV):wK ((ev T0 (k+40)).s e2E ((17,y)::σX f cell rows true m fi) (L iF iG iH (F1.put fi u b) a tl))=some (.next,(17,.str (OJ (YD m u).1))::(17,y)::σX f cell rows true m fi,L iF iG iH (F1.put fi (YD m u).2 b) a tl):=by
 obtain⟨h,x,s⟩:=u
 cases h with
 | true=>exists fi<;>exists m<;>exists x<;>kernel_rfl
 | false =>
  cases fi with
  | f=>exists m<;>exists x<;>kernel_rfl
  | g=>cases m<;>first | exact absurd (ok rfl) (by decide) | (cases x<;>kernel_rfl)
  | h=>cases m<;>first | exact absurd (ok rfl) (by decide) | (cases x<;>kernel_rfl)
theorem j4(k:Nat)(fi:Fi)(m:Md)(x:C5)(s:S5)(h:Bool):(ev T0 (k+40)).s e2E ((17,.str (j3 h))::σX f cell rows false m fi) (L iF iG iH (F1.put fi ⟨h,x,s⟩ b) a tl)=some (.next,(17,.str (OJ (clo ⟨h,x,s⟩).1))::σX f cell rows false m fi,L iF iG iH (F1.put fi (clo ⟨h,x,s⟩).2 b) a tl):=by
 exists fi<;>exists h<;>kernel_rfl
theorem wL(k:Nat)(fi:Fi)(m:Md)(y:AV)(H:AH):(ev T0 (k+20)).s e3E ((17,y)::σX f cell rows o m fi) H=some (.next,(103,.bool (BJ f fi))::(17,y)::σX f cell rows o m fi,H):=by
 exists fi<;>kernel_rfl
theorem rO(k:Nat)(fi:Fi)(m:Md)(y y':AV)(H:AH):(ev T0 (k+20)).s e3E ((17,y)::(17,y')::σX f cell rows o m fi) H=some (.next,(103,.bool (BJ f fi))::(17,y)::(17,y')::σX f cell rows o m fi,H):=by
 exists fi<;>kernel_rfl
theorem wM(k:Nat)(fi:Fi)(m:Md)(st:S5)(i:Bool)(u:F1):(ev T0 (k+20)).s e4E ((103,.bool i)::(17,.str (OJ st))::σX f cell rows o m fi) (L iF iG iH (F1.put fi u b) a tl)=some (.next,(103,.bool i)::(17,.str (OJ st))::σX f cell rows o m fi,L iF iG iH (F1.put fi (mark i st u) b) a tl):=by
 exists fi<;>exists i<;>kernel_rfl
theorem rP(k:Nat)(fi:Fi)(m:Md)(st:S5)(i:Bool)(u:F1)(y:AV):(ev T0 (k+20)).s e4E ((103,.bool i)::(17,.str (OJ st))::(17,y)::σX f cell rows o m fi) (L iF iG iH (F1.put fi u b) a tl)=some (.next,(103,.bool i)::(17,.str (OJ st))::(17,y)::σX f cell rows o m fi,L iF iG iH (F1.put fi (mark i st u) b) a tl):=by
 exists fi<;>exists i<;>kernel_rfl
noncomputable def rQ:Hd→Fl | .fine=>.next | _=>.brk
noncomputable def n5:Hd→Env'→Env' | .fine,σ=>σ | .fault,σ=>(102,.str (YI .fault))::σ | .raised,σ=>(102,.str (YI .raised))::σ
theorem oU(k:Nat)(st:S5)(hs:st≠.bl)(i:Bool)(τ:Env')(H:AH):(ev T0 (k+20)).s e5E ((103,.bool i)::(17,.str (OJ st))::τ) H=some (rQ (GP i st),n5 (GP i st) ((103,.bool i)::(17,.str (OJ st))::τ),H):=by
 exists st<;>first | exact absurd rfl hs | (exists i<;>kernel_rfl)
end
end Og
end
section
open PySem PySem.W PySem.Calls PyProof.Rows PySem.SeqAt
namespace Og
variable{c:Cx}{k:Nat}{iF iG iH:Bool}{e a b:P3}{tl:List Int}{f cell:Int}{rows:List (Md×Fi)}{o:Bool}
theorem BH.leafFor{N:Nm}{κ:Option Nat}{t:PT}{it:PX}{b:List PS}{σ:Env'}{H:AH}{P:PostP}{X:AH→Prop}(h:BH c N κ k (.for t it (b.map .leaf)) σ H P X):BH c N κ k (.leaf (.for t it b)) σ H P X:=.mk fun {A s r env outer st} R C S F ko m=>h.run R C S F ko m.leafFor
noncomputable def KL(σ₂ σ:Env'):Prop:=∀z u,AG z σ₂=some u→AG z σ=some u
theorem KL.refl{σ:Env'}:KL σ σ:=fun _ _ h=>h
theorem KL.cons{σ₂ σ:Env'}{x:Nat}{v:AV}(hx:AG x σ₂=none)(h:KL σ₂ σ):KL σ₂ ((x,v)::σ):=fun z u e=>by
 unfold AG
 split
 ·rename_i q
  have:x=z:=by simpa using q
  subst this
  rw [hx] at e;exists e
 ·exact h z u e
theorem KL.over{σ₂ σ:Env'}{x:Nat}{v v':AV}(h:KL ((x,v)::σ₂) σ):KL ((x,v')::σ₂) ((x,v')::σ):=fun z u e=>by
 unfold AG at e ⊢
 split
 ·rename_i q;rw [if_pos q] at e;exact e
 ·rename_i q;rw [if_neg q] at e;exact h z u (by unfold AG;rw [if_neg q];exact e)
noncomputable def PE(iF iG iH:Bool)(a:P3)(tl:List Int)(f cell:Int)(rows:List (Md×Fi))(o:Bool)(x:P3×Hd):PostP:=fun g σ' H'=>H'.take 115=L iF iG iH x.1 a tl∧KL (σE f cell rows o (YI x.2)) σ'∧g=rQ x.2
theorem WA{hd:Hd}{τ:Env'}(h:KL (σE f cell rows o []) τ):KL (σE f cell rows o (YI hd)) (n5 hd τ):=by
 cases hd with
 | fine=>exact h
 | fault=>exact h.over
 | raised=>exact h.over
theorem T1(rows:List (Md×Fi)):OA 112 (rows.map B8)=true:=JK MM rows
theorem wN{due:List Nat}:((σE f cell rows o due).all fun x=>MK 112 x.2)=true:=show(OA 112 (rows.map B8)&&true)=true by rw [T1];rfl
theorem ltX{m:Md}{fi:Fi}:((σX f cell rows o m fi).all fun x=>MK 112 x.2)=true:=by
 unfold σX
 rw [List.all_cons,List.all_cons,wN];rfl
theorem aP(fi:Fi)(u:F1)(b:P3):F1.get fi (F1.put fi u b)=u:=by exists fi<;>rfl
theorem cX(Lk:CP c T0 N0)(Fn:AY c T0 N0)(hp:∀fi,BJ f fi=GB fi iF iG iH)(m:Md)(fi:Fi)(ok:FN (m,fi))(e:P3):
  BR c N0 (some 112) 180 (W9.map .leaf) (σX f cell rows true m fi) (L iF iG iH e a tl) (PE iF iG iH a tl f cell rows true (KG (GY iF iG iH) (m,fi) e)) (fun _=>False):=by
 have g1:KL (σE f cell rows true []) (σX f cell rows true m fi):=(KL.refl.cons rfl).cons rfl
 obtain⟨u,b,rfl⟩:∃u b,e=F1.put fi u b:=⟨F1.get fi e,e,(ML fi e).symm⟩
 obtain⟨h,x,s⟩:=u
 have hr:KG (GY iF iG iH) (m,fi) (F1.put fi ⟨h,x,s⟩ b)=(F1.put fi (mark (GB fi iF iG iH) (YD m ⟨h,x,s⟩).1 (YD m ⟨h,x,s⟩).2) b,GP (GB fi iF iG iH) (YD m ⟨h,x,s⟩).1):=by
  unfold KG
  simp only [aP,aK,GY]
 rw [hr]
 have E1:=oR (f:=f) (cell:=cell) (rows:=rows) (o:=true) (iF:=iF) (iG:=iG) (iH:=iH) (a:=a) (b:=b) (tl:=tl) 0 fi m x s h
 have E2:=n4 (f:=f) (cell:=cell) (rows:=rows) (iF:=iF) (iG:=iG) (iH:=iH) (a:=a) (b:=b) (tl:=tl) 0 fi m ok ⟨h,x,s⟩ (.str (j3 h))
 have hb:=iR m ⟨h,x,s⟩
 revert E2 hb
 generalize (YD m ⟨h,x,s⟩).1=st
 generalize (YD m ⟨h,x,s⟩).2=w
 intro E2 hb
 refine BR.cons (X₁:=fun _=>False) (BH.leaf Lk Fn (j:=20) (by decide) E1) (fun σ2 H2 z=>?_) (fun f σ2 H2 z nz=>absurd z.1 nz) fun _ z=>z
 refine Og.BB z fun _ hr1 hr2=>?_;clear z;subst hr1 hr2
 unfold wK at E2
 obtain⟨⟨f2,σ2,H2⟩,E2,q⟩:=Option.map_eq_some_iff.mp E2
 obtain⟨rfl,q⟩:=Prod.mk.inj q
 obtain⟨rfl,q⟩:=Prod.mk.inj q
 dsimp only at q
 refine BR.cons (X₁:=fun _=>False) (BH.leaf Lk Fn (j:=40) (by decide) E2) (fun σ2 H2 z=>?_) (fun f σ2 H2 z nz=>absurd z.1 nz) fun _ z=>z
 refine Og.BB z fun _ hr1 hr2=>?_;clear z;subst hr1 hr2
 refine BR.pre (EP q) (fun z u hz=>⟨hz,E7 (by rw [List.all_cons,List.all_cons,ltX];rfl) z u hz⟩) ?_
 refine BR.cons (X₁:=fun _=>False) (BH.leaf Lk Fn (j:=20) (by decide) (rO 0 fi m _ _ _)) (fun σ2 H2 z=>?_) (fun f σ2 H2 z nz=>absurd z.1 nz) fun _ z=>z
 refine Og.BB z fun _ hr1 hr2=>?_;clear z;subst hr1 hr2
 rw [hp fi]
 refine BR.cons (X₁:=fun _=>False) (BH.leaf Lk Fn (j:=20) (by decide) (rP 0 fi m st (GB fi iF iG iH) w _)) (fun σ2 H2 z=>?_) (fun f σ2 H2 z nz=>absurd z.1 nz) fun _ z=>z
 refine Og.BB z fun _ hr1 hr2=>?_;clear z;subst hr1 hr2
 have last:∀g σ2 H2,g=rQ (GP (GB fi iF iG iH) st)∧σ2=n5 (GP (GB fi iF iG iH) st) ((103,.bool (GB fi iF iG iH))::(17,.str (OJ st))::(17,.str (j3 h))::σX f cell rows true m fi)∧H2=L iF iG iH (F1.put fi (mark (GB fi iF iG iH) st w) b) a tl →
   PE iF iG iH a tl f cell rows true (F1.put fi (mark (GB fi iF iG iH) st w) b,GP (GB fi iF iG iH) st) g σ2 H2:=fun g σ2 H2 z=>by
  refine Og.BB z fun hr1 hr2 hr3=>?_;clear z;subst hr1 hr2 hr3
  exact⟨rfl,WA (((g1.cons rfl).cons rfl).cons rfl),rfl⟩
 exact BR.cons (X₁:=fun _=>False) (BH.leaf Lk Fn (j:=20) (by decide) (oU 0 st hb (GB fi iF iG iH) _ _)) (fun σ2 H2 z=>BR.nil (last _ _ _ z)) (fun f σ2 H2 z nz=>last _ _ _ z) fun _ z=>z
theorem YL(Lk:CP c T0 N0)(Fn:AY c T0 N0)(hp:∀fi,BJ f fi=GB fi iF iG iH)(m:Md)(fi:Fi)(e:P3):
  BR c N0 (some 112) 180 (W9.map .leaf) (σX f cell rows false m fi) (L iF iG iH e a tl) (PE iF iG iH a tl f cell rows false (KH (GY iF iG iH) fi e)) (fun _=>False):=by
 have g1:KL (σE f cell rows false []) (σX f cell rows false m fi):=(KL.refl.cons rfl).cons rfl
 obtain⟨u,b,rfl⟩:∃u b,e=F1.put fi u b:=⟨F1.get fi e,e,(ML fi e).symm⟩
 obtain⟨h,x,s⟩:=u
 have hr:KH (GY iF iG iH) fi (F1.put fi ⟨h,x,s⟩ b)=(F1.put fi (mark (GB fi iF iG iH) (clo ⟨h,x,s⟩).1 (clo ⟨h,x,s⟩).2) b,GP (GB fi iF iG iH) (clo ⟨h,x,s⟩).1):=by
  unfold KH
  simp only [aP,aK,GY]
 rw [hr]
 have E1:=oR (f:=f) (cell:=cell) (rows:=rows) (o:=false) (iF:=iF) (iG:=iG) (iH:=iH) (a:=a) (b:=b) (tl:=tl) 0 fi m x s h
 have E2:=j4 (f:=f) (cell:=cell) (rows:=rows) (iF:=iF) (iG:=iG) (iH:=iH) (a:=a) (b:=b) (tl:=tl) 0 fi m x s h
 have E3:=fun H=>wL (f:=f) (cell:=cell) (rows:=rows) (o:=false) 0 fi m (.str (OJ (clo ⟨h,x,s⟩).1)) H
 have hb:=iS ⟨h,x,s⟩
 have hs:OJ (clo ⟨h,x,s⟩).1=j3 h:=by exists h<;>rfl
 revert E2 hb E3 hs
 generalize (clo ⟨h,x,s⟩).1=st
 generalize (clo ⟨h,x,s⟩).2=w
 intro E2 E3 hb hs
 refine BR.cons (X₁:=fun _=>False) (BH.leaf Lk Fn (j:=20) (by decide) E1) (fun σ2 H2 z=>?_) (fun f σ2 H2 z nz=>absurd z.1 nz) fun _ z=>z
 refine Og.BB z fun _ hr1 hr2=>?_;clear z;subst hr1 hr2
 refine BR.cons (X₁:=fun _=>False) (BH.leaf Lk Fn (j:=40) (by decide) E2) (fun σ2 H2 z=>?_) (fun f σ2 H2 z nz=>absurd z.1 nz) fun _ z=>z
 refine Og.BB z fun _ hr1 hr2=>?_;clear z;subst hr1 hr2
 refine BR.cons (X₁:=fun _=>False) (BH.leaf Lk Fn (j:=20) (by decide) (E3 _)) (fun σ2 H2 z=>?_) (fun f σ2 H2 z nz=>absurd z.1 nz) fun _ z=>z
 refine Og.BB z fun _ hr1 hr2=>?_;clear z;subst hr1 hr2
 rw [hp fi]
 refine BR.cons (X₁:=fun _=>False) (BH.leaf Lk Fn (j:=20) (by decide) (wM 0 fi m st (GB fi iF iG iH) w)) (fun σ2 H2 z=>?_) (fun f σ2 H2 z nz=>absurd z.1 nz) fun _ z=>z
 refine Og.BB z fun _ hr1 hr2=>?_;clear z;subst hr1 hr2
 have last:∀g σ2 H2,g=rQ (GP (GB fi iF iG iH) st)∧σ2=n5 (GP (GB fi iF iG iH) st) ((103,.bool (GB fi iF iG iH))::(17,.str (OJ st))::σX f cell rows false m fi)∧H2=L iF iG iH (F1.put fi (mark (GB fi iF iG iH) st w) b) a tl →
   PE iF iG iH a tl f cell rows false (F1.put fi (mark (GB fi iF iG iH) st w) b,GP (GB fi iF iG iH) st) g σ2 H2:=fun g σ2 H2 z=>by
  refine Og.BB z fun hr1 hr2 hr3=>?_;clear z;subst hr1 hr2 hr3
  exact⟨rfl,WA ((g1.cons rfl).cons rfl),rfl⟩
 exact BR.cons (X₁:=fun _=>False) (BH.leaf Lk Fn (j:=20) (by decide) (oU 0 st hb (GB fi iF iG iH) _ _)) (fun σ2 H2 z=>BR.nil (last _ _ _ z)) (fun f σ2 H2 z nz=>last _ _ _ z) fun _ z=>z
end Og
end
section
open PySem PySem.W PySem.Calls PyProof.Rows PySem.SeqAt
namespace Og
variable{c:Cx}{k:Nat}{iF iG iH:Bool}{e a b:P3}{tl:List Int}{f cell:Int}
noncomputable def A_l(iF iG iH:Bool)(a:P3)(tl:List Int)(f cell:Int)(rows:List (Md×Fi))(o:Bool)(x:P3×Hd):PostP:=fun g σ' H'=>H'.take 115=L iF iG iH x.1 a tl∧KL (σE f cell rows o (YI x.2)) σ'∧g=.next
noncomputable def cY(i:Fi→Bool)(o:Bool)(x:Md×Fi)(e:P3):P3×Hd:=match o with
 | true=>KG i x e
 | false=>KH i x.2 e
theorem A_m(Lk:CP c T0 N0)(Fn:AY c T0 N0)(hp:∀fi,BJ f fi=GB fi iF iG iH)(rows:List (Md×Fi))(o:Bool)(m:Md)(fi:Fi)(ok:FN (m,fi))(e:P3):
  BR c N0 (some 112) 180 (W9.map .leaf) (σX f cell rows o m fi) (L iF iG iH e a tl) (PE iF iG iH a tl f cell rows o (cY (GY iF iG iH) o (m,fi) e)) (fun _=>False):=by
 induction o using Bool.casesOn with
 | true=>exact cX Lk Fn hp m fi ok e
 | false=>exact YL Lk Fn hp m fi e
theorem cZ{i:Fi→Bool}{o:Bool}{x:Md×Fi}{rest:List (Md×Fi)}{e:P3}(h:(cY i o x e).2=.fine):GZ i o (x::rest) e=GZ i o rest (cY i o x e).1:=by
 induction o using Bool.casesOn with
 | true=>exact OE (step:=KG i) h
 | false=>exact OE (step:=KH i) (x:=x.2) (l:=rest.map (·.2)) h
theorem d0{i:Fi→Bool}{o:Bool}{x:Md×Fi}{rest:List (Md×Fi)}{e:P3}(h:(cY i o x e).2≠.fine):GZ i o (x::rest) e=cY i o x e:=by
 induction o using Bool.casesOn with
 | true=>exact KI (step:=KG i) rfl h
 | false=>exact KI (step:=KH i) (x:=x.2) (l:=rest.map (·.2)) rfl h
theorem n6{h:Hd}(z:Fl.next=rQ h):h=.fine:=by
 induction h using Hd.casesOn with
 | fine=>rfl
 | _=>exact nomatch z
theorem rR{v:AV}{h:Hd}(z:Fl.ret v=rQ h):False:=by induction h using Hd.casesOn<;>exact nomatch z
theorem tlE(Lk:CP c T0 N0)(Fn:AY c T0 N0)(hp:∀fi,BJ f fi=GB fi iF iG iH)(all:List (Md×Fi))(ok:∀x∈all,FN x)(o:Bool)(rest:List (Md×Fi)):∀(j:Nat) (e:P3),all.drop j=rest →
  TL c N0 (some 112) 180 (.two 11 80) (W9.map .leaf) (.tup (all.map B8)) j (σE f cell all o []) (L iF iG iH e a tl) (A_l iF iG iH a tl f cell all o (GZ (GY iF iG iH) o rest e)) (fun _=>False):=by
 induction rest with
 | nil =>
  exact fun j e hd=>TL.done Lk (congrArg some (List.getElem?_eq_none (by rw [List.length_map];exact List.drop_eq_nil_iff.mp hd))) (by induction o using Bool.casesOn<;>exact⟨rfl,KL.refl,rfl⟩)
 | cons x rest ih =>
  intro j e hd
  obtain⟨m,fi⟩:=x
  have ej:all[j]?=some (m,fi):=by rw [←List.head?_drop,hd];rfl
  refine TL.step Lk (x:=B8 (m,fi)) (σ₁:=σX f cell all o m fi) (congrArg some (by rw [List.getElem?_map,ej];rfl)) rfl (T1 all) (A_m Lk Fn hp all o m fi (ok _ (List.mem_of_getElem? ej)) e) (fun σ2 H2 z=>?_) (fun σ2 H2 z=>?_) (fun v σ2 H2 z=>?_) fun H2 z=>z
  ·refine Og.BB z fun z1 z2 z3=>?_;clear z
   have hf:(cY (GY iF iG iH) o (m,fi) e).2=.fine:=n6 z3
   rw [cZ hf]
   rw [hf] at z2
   exact TL.pre (EP z1) (T1 all) (fun z u h=>⟨z2 z u h,E7 wN z u h⟩) (ih (j+1) _ (by rw [←List.tail_drop,hd];rfl))
  ·refine Og.BB z fun z1 z2 z3=>?_;clear z
   rw [d0 fun w=>nomatch (w▸z3:Fl.brk=rQ .fine)]
   exact⟨z1,z2,rfl⟩
  ·exact(rR z.2.2).elim
noncomputable def c5:PS:=.ifs (.or2 (.cmp .ne (.var 104) (.var 102)) (.cmp .ne (.callB .sorted [(.attr (.var 76) 554)]) (.callB .sorted [(.var 92)]))) [.any] []
noncomputable def c6:PS:=.ifs (.or2 (.cmp .ne (.callB .bytes [(.slc (.attr (.var 76) 551) none (some (.const (.int 6))))]) (.callB .bytes [(.comp (.callB .ord [(.var 46)]) (.one 46) (.meth (.const (.str [])) 8 [(.var 100)]) none)])) (.cmp .ne (.callB .bytes [(.slc (.attr (.var 76) 551) (some (.const (.int 6))) none)]) (.bin .add (.const (.bytes [48])) (.bin .mul (.const (.bytes [32])) (.const (.int 12)))))) [.any] []
noncomputable def c7:PS:=.ifs (.cmp .ne (.meth (.var 75) 105 []) (.callB .tuple [(.comp (.bin .add (.tup [(.bin .add (.const (.str [112,97,116,104,45])) (.var 80))]) (.idx (.var 93) (.var 80))) (.one 80) (.const (.str [70,71,72])) (some (.cmp .isin (.var 80) (.var 93))))])) [.any] []
noncomputable def σC(f cell:Int)(rows:List (Md×Fi))(o:Bool)(d:List Nat):Env':=(104,.str d)::σE f cell rows o d
noncomputable def j5(x:Option (Fl×Env'×AH)):Option (Fl×Env'×AH):=x.map fun y=>(y.1,y.2.1,y.2.2.take 115)
theorem wO(f cell:Int)(rows:List (Md×Fi))(o:Bool)(hd:Hd)(e:P3)(tl:List Int)(iF iG iH:Bool):j5 ((ev T0 60).s c5 (σC f cell rows o (YI hd)) (L iF iG iH e e tl))=some (.next,σC f cell rows o (YI hd),L iF iG iH e e tl):=by
 obtain⟨⟨f1,f2,f3⟩,⟨g1,g2,g3⟩,⟨h1,h2,h3⟩⟩:=e
 exists hd<;>exists f1<;>exists g1<;>exists h1<;>kernel_rfl
theorem wP(f cell:Int)(rows:List (Md×Fi))(o:Bool)(d:List Nat)(e:P3)(tl:List Int)(iF iG iH:Bool):j5 ((ev T0 60).s c7 (σC f cell rows o d) (L iF iG iH e e tl))=some (.next,σC f cell rows o d,L iF iG iH e e tl):=by
 obtain⟨⟨f1,f2,f3⟩,⟨g1,g2,g3⟩,⟨h1,h2,h3⟩⟩:=e
 exists f2<;>exists g2<;>exists h2<;>kernel_rfl
end Og
end
section
open PySem PySem.W PySem.Calls PyProof.Rows PySem.SeqAt
namespace Og
theorem wQ(f cell:Int)(rows:List (Md×Fi))(o:Bool)(d:List Nat)(e:P3)(tl:List Int)(iF iG iH:Bool):j5 ((ev T0 60).s c6 (σC f cell rows o d) (L iF iG iH e e tl))=some (.next,σC f cell rows o d,L iF iG iH e e tl):=by
 obtain⟨⟨f1,f2,f3⟩,⟨g1,g2,g3⟩,⟨h1,h2,h3⟩⟩:=e
 exists f3<;>exists g3<;>exists h3<;>kernel_rfl
end Og
end
section
open PySem PySem.W PySem.Calls PyProof.Rows PySem.SeqAt
namespace Og
variable{c:Cx}{k:Nat}{iF iG iH:Bool}{tl:List Int}{f cell:Int}
noncomputable def b0:PS:=.assign 21 (.callF 67 [(.bin .fdiv (.var 101) (.const (.int 4)))])
noncomputable def b1:PS:=.assign 94 (.cmp .gt (.bin .mod (.var 101) (.const (.int 4))) (.const (.int 0)))
noncomputable def b2:PS:=.assign 102 (.const (.str []))
noncomputable def b3:PS:=.for (.two 11 80) (.var 21) W9
noncomputable def WB:List GS:=[.leaf b0,.leaf b1,.leaf b2,.leaf b3,.assign 104 68 [(.var 76),(.var 21),(.var 94)],.leaf c5,.leaf c6,.leaf c7]
noncomputable def σ0(f:Int):Env':=[(75,.ref 1),(93,.ref 3),(97,.int f),(76,.ref 106),(92,.ref 109),(100,.ref 110)]
theorem wR(H:AH):∃rows:List (Md×Fi),cV rows∧(∀x∈rows,FN x)∧∃x,(ev T0 60).s b0 ((101,.int cell)::σ0 f) H=some (.next,(21,.tup (rows.map B8))::(101,.int cell)::σ0 f,H++[x]):=by
 refine Og.H8 (rN 18 (Int.fdiv cell 4) H) fun rows h3 ok e=>?_
 refine⟨rows,h3,ok,.list (rows.map B8),?_⟩
 show(ev T0 (59+1)).s _ _ _=_
 rw [wD]
 refine KJ ?_
 show(ev T0 (58+1)).e _ _ _=_
 rw [wB]
 have h1:(ev T0 58).es [(.bin .fdiv (.var 101) (.const (.int 4)))] ((101,.int cell)::σ0 f) H=some ([.int (Int.fdiv cell 4)],H):=by kernel_rfl
 exact(congrArg (fun x=>CD x fun vs H=>(ev T0 58).call 67 vs H) h1).trans e
noncomputable def wS(iF iG iH:Bool)(tl:List Int)(f:Int):PostP:=fun g σ' H'=>g=.next∧(∃e,H'.take 115=L iF iG iH e e tl)∧KL (σ0 f) σ'
theorem lt0:((σ0 f).all fun x=>MK 112 x.2)=true:=rfl
theorem ltC{rows:List (Md×Fi)}{o:Bool}{d:List Nat}:((σC f cell rows o d).all fun x=>MK 112 x.2)=true:=by
 unfold σC
 rw [List.all_cons,wN];rfl
theorem OF(Lk:CP c T0 N0)(Fn:AY c T0 N0){p:PS}{l:List GS}{rows:List (Md×Fi)}{o:Bool}{d:List Nat}{e:P3}{P:PostP}{X:AH→Prop}(E:j5 ((ev T0 60).s p (σC f cell rows o d) (L iF iG iH e e tl))=some (.next,σC f cell rows o d,L iF iG iH e e tl))
  (h:BR c N0 (some 112) 190 l (σC f cell rows o d) (L iF iG iH e e tl) P X):BR c N0 (some 112) 190 (.leaf p::l) (σC f cell rows o d) (L iF iG iH e e tl) P X:=by
 unfold j5 at E
 obtain⟨⟨f2,σ2,H2⟩,E2,q⟩:=Option.map_eq_some_iff.mp E
 obtain⟨rfl,q⟩:=Prod.mk.inj q
 obtain⟨rfl,q⟩:=Prod.mk.inj q
 dsimp only at q
 refine BR.cons (X₁:=fun _=>False) (BH.leaf Lk Fn (j:=60) (by decide) E2) (fun σ2 H2 z=>?_) (fun f σ2 H2 z nz=>absurd z.1 nz) fun _ z=>z.elim
 refine Og.BB z fun _ hr1 hr2=>?_;clear z;subst hr1 hr2
 exact BR.pre (EP q) (fun z u hz=>⟨hz,E7 ltC z u hz⟩) h
theorem j6(Lk:CP c T0 N0)(Fn:AY c T0 N0)(XK:OI c)(hp:∀fi,BJ f fi=GB fi iF iG iH)(e:P3):
  BR c N0 (some 112) 190 WB ((101,.int cell)::σ0 f) (L iF iG iH e e tl) (wS iF iG iH tl f) (fun _=>False):=by
 obtain⟨rows,h3,ok,x,E0⟩:=wR (f:=f) (cell:=cell) (L iF iG iH e e tl)
 refine BR.cons (X₁:=fun _=>False) (BH.leaf Lk Fn (j:=60) (by decide) E0) (fun σ2 H2 z=>?_) (fun f σ2 H2 z nz=>absurd z.1 nz) fun _ z=>z
 obtain⟨_,rfl,rfl⟩:=z
 refine BR.pre (H₂:=L iF iG iH e e tl) (EP rfl) (σ₂:=(21,.tup (rows.map B8))::(101,.int cell)::σ0 f) (fun z u hz=>⟨hz,E7 (σ:=(21,.tup (rows.map B8))::(101,.int cell)::σ0 f) (show(OA 112 (rows.map B8)&&true)=true by rw [T1];rfl) z u hz⟩) ?_
 have E1:(ev T0 60).s b1 ((21,.tup (rows.map B8))::(101,.int cell)::σ0 f) (L iF iG iH e e tl)=some (.next,(94,.bool (decide (Int.fmod cell 4>0)))::(21,.tup (rows.map B8))::(101,.int cell)::σ0 f,L iF iG iH e e tl):=by kernel_rfl
 revert E1
 generalize decide (Int.fmod cell 4>0)=o
 intro E1
 refine BR.cons (X₁:=fun _=>False) (BH.leaf Lk Fn (j:=60) (by decide) E1) (fun σ2 H2 z=>?_) (fun f σ2 H2 z nz=>absurd z.1 nz) fun _ z=>z
 obtain⟨_,rfl,rfl⟩:=z
 have E2:(ev T0 60).s b2 ((94,.bool o)::(21,.tup (rows.map B8))::(101,.int cell)::σ0 f) (L iF iG iH e e tl)=some (.next,σE f cell rows o [],L iF iG iH e e tl):=by kernel_rfl
 refine BR.cons (X₁:=fun _=>False) (BH.leaf Lk Fn (j:=60) (by decide) E2) (fun σ2 H2 z=>?_) (fun f σ2 H2 z nz=>absurd z.1 nz) fun _ z=>z
 obtain⟨_,rfl,rfl⟩:=z
 refine BR.cons (X₁:=fun _=>False) (BH.leafFor (BH.for Lk Fn (j':=20) (by decide) (src:=.tup (rows.map B8)) (H₁:=L iF iG iH e e tl) (by rfl) rfl (TL.le (tlE Lk Fn hp rows ok o rows 0 e rfl) (by decide)))) (fun σ2 H2 z=>?_) (fun f σ2 H2 z nz=>absurd z.2.2 nz) fun _ z=>z
 obtain⟨z1,z2,_⟩:=z
 refine BR.pre (EP z1) (fun z u h=>⟨z2 z u h,E7 wN z u h⟩) ?_
 have told:=mY (iF:=iF) (iG:=iG) (iH:=iH) (e:=(GZ (GY iF iG iH) o rows e).1) (a:=e) (tl:=tl) Lk Fn XK rows ok h3 o
 revert told
 generalize GZ (GY iF iG iH) o rows e=y
 intro told
 obtain⟨e',hd⟩:=y
 refine BR.cons (X₁:=fun _=>False) (BH.assign Lk Fn (j:=20) (by decide) (vs:=[.ref 106,.tup (rows.map B8),.bool o]) (H₁:=L iF iG iH e' e tl) (by rfl) told (κ':=some 112) ⟨by decide,by rw [IM];decide,E7 wN⟩) (fun σ2 H2 z=>?_) (fun g σ2 H2 z nz=>?_) fun _ z=>z
 ·obtain⟨v,_,rfl,rfl,rfl⟩:=z
  refine OF Lk Fn (wO f cell rows o hd e' tl iF iG iH) ?_
  refine OF Lk Fn (wQ f cell rows o (YI hd) e' tl iF iG iH) ?_
  refine OF Lk Fn (wP f cell rows o (YI hd) e' tl iF iG iH) ?_
  exact BR.nil ⟨rfl,⟨e',rfl⟩,((((KL.refl.cons rfl).cons rfl).cons rfl).cons rfl).cons rfl⟩
 ·obtain⟨v,z,_⟩:=z
  exact absurd z nz
theorem wT(Lk:CP c T0 N0)(Fn:AY c T0 N0)(XK:OI c)(hp:∀fi,BJ f fi=GB fi iF iG iH)(m:Nat):∀(j:Nat) (e:P3),tl.length-j=m →
  TL c N0 (some 112) 190 (.one 101) WB (.lst 111) j (σ0 f) (L iF iG iH e e tl) (wS iF iG iH tl f) (fun _=>False):=by
 induction m with
 | zero =>
  exact fun j e hm=>TL.done Lk (show some ((tl.map AV.int)[j]?)=some none by rw [List.getElem?_eq_none (by rw [List.length_map];exact Nat.sub_eq_zero_iff_le.mp hm)]) ⟨rfl,⟨e,rfl⟩,KL.refl⟩
 | succ m ih =>
  intro j e hm
  have hj:j<tl.length:=Nat.lt_of_sub_eq_succ hm
  refine TL.step Lk (x:=.int tl[j]) (σ₁:=(101,.int tl[j])::σ0 f) (show some ((tl.map AV.int)[j]?)=some (some (AV.int tl[j])) by rw [List.getElem?_map,List.getElem?_eq_getElem hj];rfl) rfl (show OB 112 (.lst 111)=true from rfl) (j6 Lk Fn XK hp e) (fun σ2 H2 z=>?_) (fun σ2 H2 z=>nomatch z.1) (fun v σ2 H2 z=>nomatch z.1) fun H2 z=>z
  obtain⟨_,⟨e',z1⟩,z2⟩:=z
  exact TL.pre (EP z1) rfl (fun z u h=>⟨z2 z u h,E7 lt0 z u h⟩) (ih (j+1) e' (by rw [Nat.sub_add_eq,hm];rfl))
end Og
end
section
set_option backward.match.sparseCases false
open PySem PySem.W PySem.Calls PyProof.Rows PySem.SeqAt
namespace Og
mutual
noncomputable def BM(ρ:Nat→AV):AV→AV
 | .ref i=>ρ i
 | .tup l=>.tup (renVs ρ l)
 | .slist l=>.slist (renVs ρ l)
 | v=>v
noncomputable def renVs(ρ:Nat→AV):List AV→List AV
 | []=>[]
 | v::l=>BM ρ v::renVs ρ l
end
noncomputable def D5(ρ:Nat→AV):AO→AO
 | .inst c d=>match ρ d with | .ref d'=>.inst c d' | _=>.inst c d
 | .list l=>.list (renVs ρ l)
 | .sdict n es=>.sdict n (es.map fun e=>(e.1,BM ρ e.2))
 | .idict es=>.idict (es.map fun e=>(e.1,BM ρ e.2))
 | .ns fs=>.ns (fs.map fun e=>(e.1,BM ρ e.2))
 | .fmap es=>.fmap (es.map fun e=>(e.1,e.2.map (BM ρ)))
 | o=>o
noncomputable def oW(ρ:Nat→AV):AO→Bool
 | .inst _ d=>(DH (ρ d)).isSome
 | .sdict _ _=>true
 | _=>true
section
variable{c:Cx}{hs h h':Heap}{r r':List Addr}{p:Nat→Bool}{ρ:Nat→AV}
theorem VR.renB(k:∀a o,h.get? a=some o→AF o→h'.get? a=some o)(q:∀i a,p i=true→r[i]?=some a→VR hs h' r' (ρ i) (.ref a)):(∀{v V},VR hs h r v V→FI p v=true→VR hs h' r' (BM ρ v) V)∧∀{l L},AJ hs h r l L→avPs p l=true→AJ hs h' r' (renVs ρ l) L :=
 VR.both (fun _=>.none) (fun b _=>.bool b) (fun i t _=>.int i t) (fun l t _=>.str l t) (fun l t _=>.bytes l t) (fun x y l=>.tup (FT x (k _)) (y l)) (fun e l=>q _ _ l e) (fun x y l=>.slist x (y l)) (fun a _=>.addr a) (fun v _=>.top v) (fun _=>.nil)
  fun x y l=>.cons (x (Bool.and_eq_true_iff.mp l).1) (y (Bool.and_eq_true_iff.mp l).2)
theorem VR.ren(k:∀a o,h.get? a=some o→AF o→h'.get? a=some o)(q:∀i a,p i=true→r[i]?=some a→VR hs h' r' (ρ i) (.ref a)){v:AV}{V:Value}(l:FI p v=true)(x:VR hs h r v V):VR hs h' r' (BM ρ v) V:=(VR.renB k q).1 x l
theorem AJ.ren(k:∀a o,h.get? a=Option.some o→AF o→h'.get? a=Option.some o)(q:∀i a,p i=true→r[i]?=Option.some a→VR hs h' r' (ρ i) (.ref a)){v:List AV}{V:List Value}(l:avPs p v=true)(x:AJ hs h r v V):AJ hs h' r' (renVs ρ v) V:=(VR.renB k q).2 x l
theorem GX.ren(k:∀a o,h.get? a=some o→AF o→h'.get? a=some o)(q:∀i a,p i=true→r[i]?=some a→VR hs h' r' (ρ i) (.ref a)){l:List (List Nat×AV)}{L:List (Str×Value)}(e:∀x∈l,FI p x.2=true)(x:GX hs h r l L):GX hs h' r' (l.map fun e=>(e.1,BM ρ e.2)) L:=by
 induction x with
 | nil=>exact .nil
 | cons a _ ih=>exact .cons (a.ren k q (e _ List.mem_cons_self)) (ih fun x m=>e x (List.mem_cons_of_mem _ m))
theorem MR.ren(k:∀a o,h.get? a=some o→AF o→h'.get? a=some o)(q:∀i a,p i=true→r[i]?=some a→VR hs h' r' (ρ i) (.ref a)){l:List (Int×AV)}{L:List (Int×Value)}(e:∀x∈l,FI p x.2=true)(x:MR hs h r l L):MR hs h' r' (l.map fun e=>(e.1,BM ρ e.2)) L:=by
 induction x with
 | nil=>exact .nil
 | cons a _ ih=>exact .cons (a.ren k q (e _ List.mem_cons_self)) (ih fun x m=>e x (List.mem_cons_of_mem _ m))
theorem JP.ren{isA:Nat→Bool}{nm:Nat→Str}(k:∀a o,h.get? a=some o→AF o→h'.get? a=some o)(q:∀i a,p i=true→r[i]?=some a→VR hs h' r' (ρ i) (.ref a)){l:List (Nat×AV)}{L:List DictEntry}(e:∀x∈l,FI p x.2=true)(x:JP isA nm hs h r l L):JP isA nm hs h' r' (l.map fun e=>(e.1,BM ρ e.2)) L:=by
 induction x with
 | nil=>exact .nil
 | cons a _ ih=>exact .cons ⟨a.isA,a.key,a.val.ren k q (e _ List.mem_cons_self)⟩ (ih fun x m=>e x (List.mem_cons_of_mem _ m))
theorem j7(es:List (List Nat×Option AV)):pres (es.map fun e=>(e.1,e.2.map (BM ρ)))=(pres es).map fun e=>(e.1,BM ρ e.2):=by
 unfold pres
 rw [List.filterMap_map,List.map_filterMap]
 congr 1
 funext ⟨k,o⟩
 exists o<;>rfl
theorem OR.ren(k:∀a o,h.get? a=some o→AF o→h'.get? a=some o)(q:∀i a,p i=true→r[i]?=some a→VR c.hs h' r' (ρ i) (.ref a)){o:AO}{ob:Obj}(e:KM p o=true)(ok:oW ρ o=true)(x:OR c h r o ob):OR c h' r' (D5 ρ o) ob:=by
 induction o using Og.AO.casesOn with
 | inst cc d =>
  refine Og.AB x fun dx e1 z=>?_;clear x
  have y:=q _ _ e e1
  obtain⟨d',hd⟩:∃d',ρ d=.ref d':=by
   have ok:(DH (ρ d)).isSome=true:=ok
   revert ok
   cases ρ d<;>intro ok<;>first | exact⟨_,rfl⟩ | exists ok
  rw [hd] at y
  have e2:D5 ρ (.inst cc d)=.inst cc d':=by
   show(match ρ d with | .ref d'=>AO.inst cc d' | _=>.inst cc d)=_
   rw [hd]
  rw [e2]
  exact⟨dx,y.at,z⟩
 | list l=>obtain⟨vs,n,e1,y⟩:=x;exact⟨vs,n,e1,y.ren k q e⟩
 | sdict n es=>obtain⟨kvs,e1,y⟩:=x;exact⟨kvs,e1,y.ren k q (List.all_eq_true.mp e)⟩
 | idict es=>obtain⟨kvs,e1,y⟩:=x;exact⟨kvs,e1,y.ren k q (List.all_eq_true.mp e)⟩
 | edict=>exact x
 | ns fs=>obtain⟨ds,n,e1,y,z⟩:=x;exact⟨ds,n,e1,y.ren k q (List.all_eq_true.mp e),z⟩
 | barr l=>exact x
 | fmap es =>
  obtain⟨nd,es0,kvs,p0,e1,y⟩:=x
  refine⟨by rw [List.map_map];exact nd,es0.map fun e=>(e.1,BM ρ e.2),kvs,by rw [j7];exact p0.map _,e1,y.ren k q fun x m=>?_⟩
  have:=List.all_eq_true.mp e _ (T9.mp (p0.mem_iff.mp m))
  exact this
 | bag es =>
  obtain⟨nd,xs,vs,n,p0,e1,y⟩:=x
  exact⟨nd,xs,vs,n,p0,e1,y.monoP (p:=fun _=>false) k (fun _ _ z=>by exists z) KN⟩
noncomputable def AP{α:Type}(sel:List Nat)(l:List α):List α:=sel.filterMap fun j=>l[j]?
theorem FF{α:Type}{l:List α}:∀{sel:List Nat},(∀j∈sel,j<l.length)→∀(i:Nat),(AP sel l)[i]?=(sel[i]?).bind fun j=>l[j]?
 | [],_,i=>by simp [AP]
 | j::sel,h,i=>by
  have hj:=h j List.mem_cons_self
  have ih:=FF (sel:=sel) fun j m=>h j (List.mem_cons_of_mem _ m)
  have e:AP (j::sel) l=l[j]::AP sel l:=by
   unfold AP;rw [List.filterMap_cons,List.getElem?_eq_getElem hj]
  rw [e]
  induction i using Nat.casesOn with
  | zero=>simp [List.getElem?_eq_getElem hj]
  | succ i=>simpa using ih i
theorem WC{α:Type}{l:List α}{sel:List Nat}(h:∀j∈sel,j<l.length):(AP sel l).length=sel.length:=by
 induction sel with
 | nil=>rfl
 | cons j sel ih =>
  have hj:=h j List.mem_cons_self
  have e:AP (j::sel) l=l[j]::AP sel l:=by
   unfold AP;rw [List.filterMap_cons,List.getElem?_eq_getElem hj]
  rw [e,List.length_cons,List.length_cons,ih fun j m=>h j (List.mem_cons_of_mem _ m)]
theorem GA{α:Type}{l:List α}{sel:List Nat}{a:α}(m:a∈AP sel l):∃j∈sel,l[j]?=some a:=by
 unfold AP at m
 rw [List.mem_filterMap] at m
 exact m
theorem JM{α:Type}{l:List α}(nd:l.Nodup):∀{sel:List Nat},sel.Nodup→(AP sel l).Nodup
 | [],_=>List.nodup_nil
 | j::sel,h=>by
  obtain⟨h1,h2⟩:=List.nodup_cons.mp h
  unfold AP
  rw [List.filterMap_cons]
  cases e:l[j]? with
  | none=>exact JM nd h2
  | some a =>
   refine List.nodup_cons.mpr ⟨fun m=>?_,JM nd h2⟩
   refine Og.AB (GA m) fun i m e2=>?_
   obtain⟨hj,ej⟩:=List.getElem?_eq_some_iff.mp e
   obtain⟨hi,ei⟩:=List.getElem?_eq_some_iff.mp e2
   have:i=j:=by
    have nd':=List.pairwise_iff_getElem.mp nd
    rcases Nat.lt_trichotomy i j with z | z | z
    ·exact absurd (ei.trans ej.symm) (nd' i j hi hj z)
    ·exact z
    ·exact absurd (ej.trans ei.symm) (nd' j i hj hi z)
   exact h1 (this▸m)
theorem WD{α:Type}{l:List α}{sel:List Nat}(h:∀j∈sel,j<l.length){i:Nat}(m:i∈sel):(AP sel l)[sel.idxOf i]?=l[i]?:=by
 rw [FF h]
 have:=List.idxOf_lt_length_iff.mpr m
 rw [List.getElem?_eq_getElem this,List.getElem_idxOf];rfl
end
section
variable{c:Cx}{s:Shared}{r:List Addr}{H:AH}{p:Nat→Bool}{ρ:Nat→AV}
theorem SR.ren(S:SR c s r H){sel:List Nat}(nd:sel.Nodup)(hsel:∀j∈sel,j<H.length)(q:∀i a,p i=true→r[i]?=some a→VR c.hs s.heap (AP sel r) (ρ i) (.ref a))
  (ok:∀o∈AP sel H,KM p o=true∧oW ρ o=true):SR c s (AP sel r) ((AP sel H).map (D5 ρ)):=by
 have hr:∀j∈sel,j<r.length:=fun j m=>by rw [S.len];exact hsel j m
 refine⟨S.keep,S.stat,by rw [List.length_map,WC hr,WC hsel],fun i o e=>?_,JM S.nodup nd,fun a m=>?_,S.gens,S.os⟩
 ·rw [List.getElem?_map] at e
  refine FO e fun o1 e1=>?_
  have ok1:=ok o1 (List.mem_of_getElem? e1)
  rw [FF hsel] at e1
  refine Og.AB (Option.bind_eq_some_iff.mp e1) fun j ej e2=>?_
  refine Og.BV (S.obj j o1 e2) fun a ob ea eo x=>?_
  exact⟨a,ob,by rw [FF hr,ej];exact ea,eo,x.ren (fun _ _ e _=>e) q ok1.1 ok1.2⟩
 ·refine Og.AB (GA m) fun j _ e=>?_
  exact S.fresh a (List.mem_of_getElem? e)
end
noncomputable def ρF(n:Nat)(q:List Addr)(i:Nat):AV:=if i<n then .ref i else match q[i-n]? with | some a=>.addr a | none=>.ref i
noncomputable def M3(ρ:Nat→AV)(σ:Env'):Env':=σ.map fun x=>(x.1,BM ρ x.2)
theorem DU{ρ:Nat→AV}{x:Nat}:∀{σ:Env'},AG x (M3 ρ σ)=(AG x σ).map (BM ρ)
 | []=>rfl
 | (y,v)::σ=>by
  show AG x ((y,BM ρ v)::M3 ρ σ)=_
  unfold AG
  split
  ·rfl
  ·exact DU
section
variable{c:Cx}{hs h h':Heap}{r r':List Addr}{ρ:Nat→AV}
theorem VR.backB(k:∀a o,h.get? a=some o→AF o→h'.get? a=some o)(q:∀i V,VR hs h r (ρ i) V→VR hs h' r' (.ref i) V):(∀v V,VR hs h r (BM ρ v) V→VR hs h' r' v V)∧∀v V,AJ hs h r (renVs ρ v) V→AJ hs h' r' v V :=
 AV.both (fun V x=>H0 x VR.none) (fun b V x=>H0 x (VR.bool b)) (fun i V x=>VR.eInt (show VR hs h r (.int i) V from x) fun t=>VR.int i t) (fun l V x=>VR.eStr (show VR hs h r (.str l) V from x) fun t=>VR.str l t) (fun l V x=>VR.eBytes (show VR hs h r (.bytes l) V from x) fun t=>VR.bytes l t)
  (fun l y V x=>VR.eTup (show VR hs h r (.tup (renVs ρ l)) V from x) fun a vs t z=>VR.tup (FT t (k _)) (y _ z)) q
  (fun l y V x=>VR.eSl (show VR hs h r (.slist (renVs ρ l)) V from x) fun a vs t z=>VR.slist t (y _ z)) (fun a V x=>H0 x (VR.addr a)) (fun V _=>VR.top V) (fun V x=>H0 x AJ.nil) fun v l y z V x=>AJ.eCons (show AJ hs h r (BM ρ v::renVs ρ l) V from x) fun X L a b=>AJ.cons (y _ a) (z _ b)
theorem VR.back(k:∀a o,h.get? a=some o→AF o→h'.get? a=some o)(q:∀i V,VR hs h r (ρ i) V→VR hs h' r' (.ref i) V)(v:AV){V:Value}(x:VR hs h r (BM ρ v) V):VR hs h' r' v V:=(VR.backB k q).1 v V x
theorem AJ.back(k:∀a o,h.get? a=Option.some o→AF o→h'.get? a=Option.some o)(q:∀i V,VR hs h r (ρ i) V→VR hs h' r' (.ref i) V)(v:List AV){V:List Value}(x:AJ hs h r (renVs ρ v) V):AJ hs h' r' v V:=(VR.backB k q).2 v V x
theorem GX.back(k:∀a o,h.get? a=some o→AF o→h'.get? a=some o)(q:∀i V,VR hs h r (ρ i) V→VR hs h' r' (.ref i) V)(l:List (List Nat×AV)):∀{L:List (Str×Value)},GX hs h r (l.map fun e=>(e.1,BM ρ e.2)) L→GX hs h' r' l L:=by
 induction l with
 | nil=>intro L x;cases x;exact .nil
 | cons p l ih =>
  obtain⟨_,v⟩:=p
  intro L x;cases x with | cons a b=>exact .cons (VR.back k q v a) (ih b)
theorem MR.back(k:∀a o,h.get? a=some o→AF o→h'.get? a=some o)(q:∀i V,VR hs h r (ρ i) V→VR hs h' r' (.ref i) V)(l:List (Int×AV)):∀{L:List (Int×Value)},MR hs h r (l.map fun e=>(e.1,BM ρ e.2)) L→MR hs h' r' l L:=by
 induction l with
 | nil=>intro L x;cases x;exact .nil
 | cons p l ih =>
  obtain⟨_,v⟩:=p
  intro L x;cases x with | cons a b=>exact .cons (VR.back k q v a) (ih b)
theorem JP.back{isA:Nat→Bool}{nm:Nat→Str}(k:∀a o,h.get? a=some o→AF o→h'.get? a=some o)(q:∀i V,VR hs h r (ρ i) V→VR hs h' r' (.ref i) V)(l:List (Nat×AV)):∀{L:List DictEntry},JP isA nm hs h r (l.map fun e=>(e.1,BM ρ e.2)) L→JP isA nm hs h' r' l L:=by
 induction l with
 | nil=>intro L x;cases x;exact .nil
 | cons p l ih=>intro L x;cases x with | cons a b=>exact .cons ⟨a.isA,a.key,VR.back k q p.2 a.val⟩ (ih b)
theorem WH.back(q:∀i V,VR hs h r (ρ i) V→VR hs h r' (.ref i) V):∀(es:List (List Nat×Option AV)),WH hs h r r' (es.map fun e=>(e.1,e.2.map (BM ρ))) es
 | []=>.nil
 | (_,.none)::es=>.cons ⟨rfl,trivial⟩ (WH.back q es)
 | (_,.some v)::es=>.cons ⟨rfl,fun _ x=>VR.back (fun _ _ e _=>e) q v x⟩ (WH.back q es)
theorem OR.back{n:Nat}{q:List Addr}(pre:∀(i:Nat) (a:Addr),r[i]?=some a→r'[i]?=some a)(hq:∀i V,VR c.hs h r (ρF n q i) V→VR c.hs h r' (.ref i) V){o:AO}{ob:Obj}(x:OR c h r (D5 (ρF n q) o) ob):OR c h r' o ob:=by
 induction o using Og.AO.casesOn with
 | inst cc d =>
  have:D5 (ρF n q) (.inst cc d)=.inst cc d:=by
   show(match ρF n q d with | .ref d'=>AO.inst cc d' | _=>.inst cc d)=_
   by_cases hd:d<n
   ·rw [show ρF n q d=.ref d from if_pos hd]
   ·rw [show ρF n q d=_ from if_neg hd]
    cases q[d-n]?<;>rfl
  rw [this] at x
  refine Og.AB x fun dx e z=>?_;clear x
  exact⟨dx,pre _ _ e,z⟩
 | list l=>obtain⟨vs,n,e1,y⟩:=x;exact⟨vs,n,e1,AJ.back (fun _ _ e _=>e) hq l y⟩
 | sdict n es=>obtain⟨kvs,e1,y⟩:=x;exact⟨kvs,e1,GX.back (fun _ _ e _=>e) hq es y⟩
 | idict es=>obtain⟨kvs,e1,y⟩:=x;exact⟨kvs,e1,MR.back (fun _ _ e _=>e) hq es y⟩
 | edict=>exact x
 | ns fs=>obtain⟨ds,n,e1,y,z⟩:=x;exact⟨ds,n,e1,JP.back (fun _ _ e _=>e) hq fs y,z⟩
 | barr l=>exact x
 | fmap es=>exact OR.fmapW (WH.back hq es) rfl x
 | bag es =>
  obtain⟨nd,xs,vs,n,p0,e1,y⟩:=x
  exact⟨nd,xs,vs,n,p0,e1,y.monoP (p:=fun _=>false) (fun _ _ e _=>e) (fun _ _ z=>by exists z) KN⟩
end
section
variable{c:Cx}{N:Nm}{k n:Nat}{A:Around}{s s':Shared}{r r':List Addr}{H:AH}{env:Env}{outer:List Env}{σ:Env'}
theorem EE{α:Type}(l:List α)(n:Nat):AP (List.range n) l=l.take n:=by
 apply List.ext_getElem?
 intro i
 induction n generalizing i with
 | zero=>simp [AP]
 | succ n ih =>
  have:AP (List.range (n+1)) l=AP (List.range n) l++AP [n] l:=by
   unfold AP;rw [List.range_succ,List.filterMap_append]
  rw [this,List.ext_getElem? ih]
  unfold AP
  cases e:l[n]? with
  | none =>
   have hl:l.length≤n:=List.getElem?_eq_none_iff.mp e
   rw [List.filterMap_cons,e]
   simp only [List.filterMap_nil,List.append_nil]
   rw [List.take_of_length_le hl,List.take_of_length_le (by lia)]
  | some a =>
   rw [List.filterMap_cons,e]
   rw [List.filterMap_nil,List.take_succ,e];rfl
theorem oX(r:List Addr)(n:Nat)(i:Nat)(a:Addr)(e:r[i]?=some a){hs h:Heap}:VR hs h (r.take n) (ρF n (r.drop n) i) (.ref a):=by
 unfold ρF
 split
 ·rename_i hi
  exact .ref (by rw [List.getElem?_take,if_pos hi];exact e)
 ·rename_i hi
  have:(r.drop n)[i-n]?=some a:=by
   rw [List.getElem?_drop,show n+(i-n)=i by omega];exact e
  rw [this]
  exact .addr a
theorem j8(S:SR c s r H)(hn:n≤H.length)(ok:∀o∈H.take n,oW (ρF n (r.drop n)) o=true):SR c s (r.take n) ((H.take n).map (D5 (ρF n (r.drop n)))):=by
 have:=SR.ren (p:=fun _=>true) (ρ:=ρF n (r.drop n)) S (sel:=List.range n) List.nodup_range (fun j m=>by have:=List.mem_range.mp m;lia) (fun i a _ e=>by rw [EE];exact oX r n i a e) (by rw [EE];exact fun o m=>⟨YU o,ok o m⟩)
 rw [EE,EE] at this
 exact this
theorem j9(F:FR c s r env σ):FR c s (r.take n) env (M3 (ρF n (r.drop n)) σ):=by
 refine⟨F.kind,F.globals,F.builtins,F.ns,fun x v e kn=>?_,F.cells,F.apart,F.inj,F.notHs,fun a w m=>F.notIn a w (List.mem_of_mem_take m),fun x v e=>?_,F.own⟩
 ·rw [DU] at e
  refine FO e fun v0 e0=>?_
  refine Og.AB (F.vars x v0 e0 kn) fun V nm y=>?_
  exact⟨V,nm,VR.ren (p:=fun _=>true) (fun _ _ e _=>e) (fun i a _ e=>oX r n i a e) (EM v0) y⟩
 ·rw [DU] at e
  refine FO e fun v0 e0=>?_
  exact F.plain x v0 e0
theorem aQ{q:List Addr}{hs h:Heap}(i:Nat)(V:Value)(x:VR hs h r (ρF r.length q i) V):VR hs h (r++q) (.ref i) V:=by
 unfold ρF at x
 split at x
 ·rename_i hi
  exact VR.eRef x fun a e=>.ref (by rw [List.getElem?_append_left hi];exact e)
 ·rename_i hi
  cases e:q[i-r.length]? with
  | some a =>
   rw [e] at x
   exact H0 x.inv_addr (.ref (by rw [List.getElem?_append_right (Nat.le_of_not_lt hi)];exact e))
  | none =>
   rw [e] at x
   exact VR.eRef x fun a e=>absurd (List.getElem?_eq_some_iff.mp e).1 hi
theorem d7{K:Nat}{Hi H' Hb:AH}{σb:Env'}(S:SR c s r H)(F:FR c s r env σ)(C:Cf c A s r env outer)(S0:SR c s (r.take n) Hi)(okx:∀o∈H.drop n,KM (fun _=>false) o=true)(G:C8 c K (CC env) (env::outer) s (r.take n) Hi H' s' r')
  (F':FR c s' r' env (M3 (ρF H'.length (r.drop n)) σb)) (hb:Hb.map (D5 (ρF H'.length (r.drop n)))=H') :
  SR c s' (r'++r.drop n) (Hb++H.drop n)∧FR c s' (r'++r.drop n) env σb∧C8 c 0 (CC env) (env::outer) s r H (Hb++H.drop n) s' (r'++r.drop n):=by
 have S':=G.sr
 have hl:H'.length=r'.length:=S'.len.symm
 have hbl:Hb.length=H'.length:=by rw [←hb,List.length_map]
 have inr:∀a∈r.drop n,a∈r:=fun a m=>List.mem_of_mem_drop m
 have nin:∀a∈r.drop n,a∉r.take n:=fun a m m2=>by
  have nd:=S.nodup
  rw [←List.take_append_drop n r] at nd
  exact(List.nodup_append.mp nd).2.2 a m2 a m rfl
 have hob:∀a∈r.drop n,∃ob,s.heap.get? a=some ob:=fun a m=>by
  obtain⟨i,hi,e⟩:=List.getElem_of_mem (inr a m)
  have hi2:i<H.length:=by rw [←S.len];exact hi
  refine Og.BV (S.obj i _ (List.getElem?_eq_getElem hi2)) fun a' ob e1 e2 _=>?_
  rw [List.getElem?_eq_getElem hi,e] at e1;exists e1
  exact⟨ob,e2⟩
 have nst:∀a∈r.drop n,a≠c.L:=fun a m z=>by
  have:=S.fresh a (inr a m)
  refine Og.ES c.stat fun o _ _ e _=>?_
  rw [z,e] at this;exists this
 have nfra:∀a∈r.drop n,¬aC (env::outer) a:=fun a m ⟨en,me,z⟩=>by
  subst z
  exact(C.fs en me).1.notIn _ (.inl rfl) (inr _ m)
 have same:∀a∈r.drop n,∀ob,s.heap.get? a=some ob→s'.heap.get? a=some ob:=fun a m ob e =>
  (G.keep a ob (nst a m) (fun w=>F.notIn a w (inr a m)) e (nin a m)).1 (nfra a m)
 have tups:=G.tups S0 (fun e m=>by
  have:=C.fs e m
  exact⟨⟨this.1.kind,this.1.globals,this.1.builtins,this.1.ns,fun x v e=>(by exists e),this.1.cells,this.1.apart,this.1.inj,this.1.notHs,fun a w m=>this.1.notIn a w (List.mem_of_mem_take m),fun x v e=>(by exists e),this.1.own⟩,this.2⟩) F.ownNt
 have nr':∀a∈r.drop n,a∉r':=fun a m m2=>by
  rcases G.new a m2 with z | z
  ·exact nin a m z
  ·refine Og.AI (hob a m) fun ob e=>?_
   rw [e] at z;exists z
 have nd:(r'++r.drop n).Nodup:=List.nodup_append.mpr ⟨S'.nodup,(List.Sublist.nodup (List.drop_sublist n r) S.nodup),fun a m b m2 z=>nr' b m2 (z▸m)⟩
 have SS:SR c s' (r'++r.drop n) (Hb++H.drop n):=by
  refine⟨S'.keep,S'.stat,by rw [List.length_append,List.length_append,hbl,hl,List.length_drop,List.length_drop,S.len],fun i o e=>?_,nd,fun a m=>?_,S'.gens,S'.os⟩
  ·by_cases hi:i<Hb.length
   ·rw [List.getElem?_append_left hi] at e
    have e2:H'[i]?=some (D5 (ρF H'.length (r.drop n)) o):=by rw [←hb,List.getElem?_map,e];rw [hb];rfl
    refine Og.BV (S'.obj i _ e2) fun a ob ea eo x=>?_
    refine⟨a,ob,by rw [List.getElem?_append_left (by rw [←hl,←hbl];exact hi)];exact ea,eo,?_⟩
    rw [hl] at x
    exact OR.back (fun j b e=>by rw [List.getElem?_append_left (List.getElem?_eq_some_iff.mp e).1];exact e) aQ x
   ·rw [List.getElem?_append_right (by lia)] at e
    have e2:H[n+(i-Hb.length)]?=some o:=by rw [←List.getElem?_drop];exact e
    refine Og.BV (S.obj _ _ e2) fun a ob ea eo x=>?_
    have ea2:(r.drop n)[i-Hb.length]?=some a:=by rw [List.getElem?_drop];exact ea
    refine⟨a,ob,by rw [List.getElem?_append_right (by lia),←hl,←hbl];exact ea2,same a (List.mem_of_getElem? ea2) ob eo,?_⟩
    exact x.monoP (p:=fun _=>false) tups (fun _ _ z=>by exists z) (okx o (List.mem_of_getElem? e))
  ·rcases List.mem_append.mp m with m | m
   ·exact S'.fresh a m
   ·exact S.fresh a (inr a m)
 refine⟨SS,?_,?_⟩
 ·refine⟨F'.kind,F'.globals,F'.builtins,F'.ns,fun x v e kn=>?_,F'.cells,F'.apart,F'.inj,F'.notHs,fun a w m=>?_,fun x v e=>?_,F'.own⟩
  ·obtain⟨V,nm,y⟩:=F'.vars x (BM (ρF H'.length (r.drop n)) v) (by rw [DU,e];rfl) kn
   rw [hl] at y
   exact⟨V,nm,VR.back (fun _ _ e _=>e) aQ v y⟩
  ·rcases List.mem_append.mp m with m | m
   ·exact F'.notIn a w m
   ·exact F.notIn a w (inr a m)
  ·exact F'.plain x (BM (ρF H'.length (r.drop n)) v) (by rw [DU,e];rfl)
 ·refine⟨SS,Nat.zero_le _,by simp,fun a o z w e m=>G.keep a o z w e fun m2=>m (List.mem_of_mem_take m2),fun a m=>?_,G.dom,fun i n es a lt=>absurd lt (Nat.not_lt_zero _)⟩
  rcases List.mem_append.mp m with m | m
  ·exact(G.new a m).imp List.mem_of_mem_take id
  ·exact .inl (inr a m)
end
end Og
end
section
open PySem PySem.W PySem.Calls PyProof.Rows PySem.SeqAt
namespace Og
section
variable{c:Cx}{N:Nm}{k n:Nat}{A:Around}{s s':Shared}{r r':List Addr}{H:AH}{env:Env}{outer:List Env}{σ:Env'}{P:PostP}{X:AH→Prop}
theorem BR.frame{p:GS}{l:List GS}{P₁:List Addr→PostP}(hn:n≤H.length)(okH:∀q:List Addr,q.length=H.length-n→∀o∈H.take n,oW (ρF n q) o=true)(okx:∀o∈H.drop n,KM (fun _=>false) o=true)
  (h1:∀q:List Addr,q.length=H.length-n→BH c N (some 0) k p (M3 (ρF n q) σ) ((H.take n).map (D5 (ρF n q))) (P₁ q) (fun _=>False))
  (h2:∀(q:List Addr) f σ' H',q.length=H.length-n→P₁ q f σ' H'→f=.next∧∃σb Hb,M3 (ρF H'.length q) σb=σ'∧Hb.map (D5 (ρF H'.length q))=H'∧BR c N (some 0) k l σb (Hb++H.drop n) P X):BR c N (some 0) k (p::l) σ H P X:=.mk fun {A s r env outer st} R C S F ko m=>by
 intro Q E q x
 cases m with | cons m ms =>
 have hq:(r.drop n).length=H.length-n:=by rw [List.length_drop,S.len]
 have S0:=j8 S hn (okH _ hq)
 have F0:FR c s (r.take n) env (M3 (ρF n (r.drop n)) σ):=j9 F
 have C0:Cf c A s (r.take n) env outer:=⟨C.fr,fun e m=>by
  have this:=C.fs e m
  exact⟨⟨this.1.kind,this.1.globals,this.1.builtins,this.1.ns,fun x v e=>(by exists e),this.1.cells,this.1.apart,this.1.inj,this.1.notHs,fun a w m=>this.1.notIn a w (List.mem_of_mem_take m),fun x v e=>(by exists e),this.1.own⟩,this.2⟩,C.dj⟩
 refine KC ((h1 _ hq).run R C0 S0 F0 (fun _ z=>by exists z;exact Nat.zero_le _) m _ E (fun f σ' H' pp fl s1 r1 G1 F1 fr=>?_) fun H' xx=>xx.elim)
 obtain⟨rfl,σb,Hb,e1,e2,h⟩:=h2 _ f σ' H' hq pp
 exists fl<;>first | exact fr.elim | skip
 dsimp only
 subst e1
 refine Og.BB (d7 S F C S0 okx G1 F1 e2) fun S2 F2 G2=>?_
 refine h.run R (C.gok S F G2 F2) S2 F2 (fun K e=>by exists e;exact Nat.zero_le _) ms Q E (fun f3 σ3 H3 p3 fl3 s3 r3 G3 F3 fr3=>?_) fun H3 x3 ea sx rx s3 Gx Fx y=>?_
 ·exact q f3 σ3 H3 p3 fl3 s3 r3 (G2.trans G3 (Nat.le_refl _) fun a w=>F3.notIn a w) F3 fr3
 ·exact x H3 x3 ea sx rx s3 (G2.trans Gx (Nat.le_refl _) fun a w=>Fx.notIn a w) Fx (y.mono fun b=>Fp.dom G2.dom fun _ w=>w)
noncomputable def ρS(sel:List Nat)(i:Nat):AV:=.ref (sel.idxOf i)
theorem VP.ren{sel:List Nat}(nd:sel.Nodup)(hsel:∀j∈sel,j<H.length)(ok:∀o∈AP sel H,KM sel.contains o=true∧oW (ρS sel) o=true){σ₁:Env'}(hs:KL σ₁ σ)(hσ:(σ₁.all fun x=>FI sel.contains x.2)=true):
  VP c 0 σ H (M3 (ρS sel) σ₁) ((AP sel H).map (D5 (ρS sel))):=⟨fun {s r} S=>by
 have hr:∀j∈sel,j<r.length:=fun j m=>by rw [S.len];exact hsel j m
 have q:∀{h:Heap} (i:Nat) (a:Addr),sel.contains i=true→r[i]?=some a→VR c.hs h (AP sel r) (ρS sel i) (.ref a):=fun i a m e=>.ref (by
  rw [WD hr (by simpa using m)];exact e)
 refine⟨AP sel r,SR.ren S nd hsel q ok,by simp,Nat.zero_le _,fun a m=>?_,fun {env} F=>?_⟩
 ·refine Og.AB (GA m) fun j _ e=>?_
  exact List.mem_of_getElem? e
 ·have lk:∀{σ₁:Env'},(σ₁.all fun x=>FI sel.contains x.2)=true→∀x v,AG x σ₁=some v→FI sel.contains v=true:=fun {σ₁} h x v e=>by
   induction σ₁ with
   | nil=>exists e
   | cons y l ih =>
    rw [List.all_cons,Bool.and_eq_true] at h
    obtain⟨y,w⟩:=y
    unfold AG at e
    split at e
    ·exists e;exact h.1
    ·exact ih h.2 e
  refine⟨F.kind,F.globals,F.builtins,F.ns,fun x v e kn=>?_,F.cells,F.apart,F.inj,F.notHs,fun a w m=>?_,fun x v e=>?_,F.own⟩
  ·rw [DU] at e
   refine FO e fun v0 e0=>?_
   refine Og.AB (F.vars x v0 (hs x v0 e0) kn) fun V nm y=>?_
   exact⟨V,nm,VR.ren (fun _ _ e _=>e) q (lk hσ x v0 e0) y⟩
  ·refine Og.AB (GA m) fun j _ e=>?_
   exact F.notIn a w (List.mem_of_getElem? e)
  ·rw [DU] at e
   refine FO e fun v0 e0=>?_
   exact F.plain x v0 (hs x v0 e0)⟩
noncomputable def E4(c:Cx)(o o2:AO):Prop:=∀(h:Heap) (r:List Addr) (ob:Obj),OR c h r o ob→OR c h r o2 ob
theorem E4.refl(o:AO):E4 c o o:=fun _ _ _ x=>x
inductive BS(c:Cx):AH→AH→Prop
 | nil:BS c [] []
 | cons {o o2:AO} {l l2:AH}:E4 c o o2→BS c l l2→BS c (o::l) (o2::l2)
theorem BS.refl:∀H:AH,BS c H H
 | []=>.nil
 | o::l=>.cons (E4.refl o) (BS.refl l)
theorem BS.len{H H₂:AH}(x:BS c H H₂):H.length=H₂.length:=by
 induction x with
 | nil=>rfl
 | cons _ _ ih=>simp [ih]
theorem BS.at{H H₂:AH}(x:BS c H H₂):∀{i:Nat} {o2:AO},H₂[i]?=some o2→∃o,H[i]?=some o∧E4 c o o2:=by
 induction x with
 | nil=>intro i o2 e;exists e
 | cons a _ ih =>
  intro i o2 e
  induction i using Nat.casesOn with
  | zero=>exists e;exact⟨_,rfl,a⟩
  | succ i=>exact ih e
theorem VP.less{H₂:AH}(x:BS c H H₂):VP c 0 σ H σ H₂:=⟨fun {s r} S=>⟨r,⟨S.keep,S.stat,by rw [S.len,x.len],fun i o e=>by
 refine Og.AB (x.at e) fun o1 e1 l=>?_
 refine Og.BV (S.obj i o1 e1) fun a ob ea eo y=>?_
 exact⟨a,ob,ea,eo,l _ _ _ y⟩,S.nodup,S.fresh,S.gens,S.os⟩,rfl,Nat.zero_le _,fun _ m=>m,fun F=>F⟩⟩
theorem BR.weak0{l:List GS}{σ₂:Env'}{H₂:AH}(wk:VP c 0 σ H σ₂ H₂)(h:BR c N (some 0) k l σ₂ H₂ P X):BR c N (some 0) k l σ H P X :=
 BR.weak wk (fun i n es lt=>absurd lt (Nat.not_lt_zero _)) h
theorem E4.edict{es:List (List Nat×Option AV)}(nd:(es.map (·.1)).Nodup)(z:pres es=[]):E4 c .edict (.fmap es):=fun h r ob x=>⟨nd,[],[],by rw [z],x.1,.nil⟩
theorem E4.bag{es:List (List Nat×Bool)}(nd:(es.map (·.1)).Nodup)(z:DG es=[]):E4 c (.list []) (.bag es):=fun h r ob x=>by
 refine Og.ER x fun vs n d q=>?_;clear x
 exact⟨nd,[],vs,n,by rw [z],d,q⟩
inductive LO:List (Nat×AV)→List (Nat×AV)→Prop
 | nil:LO [] []
 | same {e:Nat×AV} {l l2:List (Nat×AV)}:LO l l2→LO (e::l) (e::l2)
 | top {x:Nat} {v:AV} {l l2:List (Nat×AV)}:LO l l2→LO ((x,v)::l) ((x,.top)::l2)
theorem JP.less{isA:Nat→Bool}{nm:Nat→Str}{hs h:Heap}{r:List Addr}{fs fs2:List (Nat×AV)}(w:LO fs fs2):∀{L:List DictEntry},JP isA nm hs h r fs L→JP isA nm hs h r fs2 L:=by
 induction w with
 | nil=>intro L x;exact x
 | same _ ih=>intro L x;cases x with | cons a b=>exact .cons a (ih b)
 | top _ ih=>intro L x;cases x with | cons a b=>exact .cons ⟨a.isA,a.key,.top _⟩ (ih b)
theorem E4.ns{fs fs2:List (Nat×AV)}(w:LO fs fs2):E4 c (.ns fs) (.ns fs2):=fun h r ob x=>by
 refine Og.BV x fun ds n e1 y z=>?_;clear x
 exact⟨ds,n,e1,JP.less w y,z⟩
theorem TL.lower{K K':Nat}{t:PT}{b:List GS}{src:DV}{j:Nat}(h:TL c N (some K) k t b src j σ H P X)(le:K'≤K)(hK:K≤H.length):TL c N (some K') k t b src j σ H P X:=.mk fun {A s r env outer t' b' itv w} R C S F ko mt mb hp I ap ow=>by
 intro Q q x
 exact h.run R C S F (fun z e=>by exists e;rw [S.len];exact hK) mt mb hp I ap ow Q (fun f σ' H' p fl s' r' G F' z=>q f σ' H' p fl s' r' (G.le_K le) F' z) fun H' z ea s₁ r₁ s' G F' y=>x H' z ea s₁ r₁ s' (G.le_K le) F' y
end
noncomputable def p0:PS:=(.assign 96 (.slc (.var 95) none (some (.const (.int 9)))))
noncomputable def p1:PS:=(.assign 97 (.ite (.cmp .ne (.var 96) (.list [])) (.idx (.var 96) (.const (.int 0))) (.const (.int 219))))
noncomputable def p2:PS:=(.unp [75,93] (.tup [(.callC 4 []),(.dict [])]))
theorem wU(l:List Int)(hl:l.length≤250):(ev T0 60).s p0 [(95,.slist (l.map .int))] []=some (.next,[(96,.ref 0),(95,.slist (l.map .int))],[.list ((l.take 9).map .int)]):=by
 show(ev T0 (59+1)).s _ _ _=_
 rw [wD]
 refine KJ ?_
 rw [show 59=58+1 from rfl,wB]
 show TE [] (.slist (l.map .int)) none (some 9)=_
 show CJ (CF (l.map AV.int).length) _=_
 rw [show CF (l.map AV.int).length=true from decide_eq_true (by rw [List.length_map];exact hl)]
 show some (AV.ref 0,[AO.list (((l.map AV.int).take 9).drop 0)])=_
 rw [List.drop_zero,List.map_take]
theorem wV(l:List Int)(hl:l.length≤9)(v:AV):∃f:Int,(ev T0 60).s p1 [(96,.ref 0),(95,v)] [.list (l.map .int)]=some (.next,[(97,.int f),(96,.ref 0),(95,v)],[.list (l.map .int),.list []]):=by
 rcases l with _ | ⟨x0,_ | ⟨x1,_ | ⟨x2,_ | ⟨x3,_ | ⟨x4,_ | ⟨x5,_ | ⟨x6,_ | ⟨x7,_ | ⟨x8,_ | ⟨x9,l⟩⟩⟩⟩⟩⟩⟩⟩⟩⟩
 ·exact⟨219,by kernel_rfl⟩
 ·exact⟨x0,by kernel_rfl⟩
 ·exact⟨x0,by kernel_rfl⟩
 ·exact⟨x0,by kernel_rfl⟩
 ·exact⟨x0,by kernel_rfl⟩
 ·exact⟨x0,by kernel_rfl⟩
 ·exact⟨x0,by kernel_rfl⟩
 ·exact⟨x0,by kernel_rfl⟩
 ·exact⟨x0,by kernel_rfl⟩
 ·exact⟨x0,by kernel_rfl⟩
 ·exfalso;simp at hl
theorem wW(l:List AV)(f:Int)(v:AV):(ev T0 60).s p2 [(97,.int f),(96,.ref 0),(95,v)] [.list l,.list []]=some (.next,[(93,.ref 5),(75,.ref 3),(97,.int f),(96,.ref 0),(95,v)],[.list l,.list [],.ns [(517,.ref 4)],.inst 4 2,.edict,.edict]):=by
 kernel_rfl
noncomputable def tidy(p:Nat→Bool):AO→AO
 | .ns fs=>.ns (fs.map fun e=>match FI p e.2 with | true=>e | false=>(e.1,.top))
 | o=>o
theorem jA(p:Nat→Bool):∀fs:List (Nat×AV),LO fs (fs.map fun e=>match FI p e.2 with | true=>e | false=>(e.1,.top))
 | []=>.nil
 | (x,v)::fs=>by
  rw [List.map_cons]
  cases h:FI p v with
  | true=>simp only [h];exact .same (jA p fs)
  | false=>simp only [h];exact .top (jA p fs)
theorem E4.tidy{c:Cx}(p:Nat→Bool)(o:AO):E4 c o (tidy p o):=by
 induction o using Og.AO.casesOn with
 | ns fs=>exact E4.ns (jA p fs)
 | _=>exact E4.refl _
noncomputable def LP(sel:List Nat)(i:Nat):Bool:=sel.any (Nat.beq i)
noncomputable def EF:List Nat:=List.range 107++[151,155,116,117,118]
noncomputable def Hw(vF vG vH sF sG sH:Option AV):AH:=[.ns [(517,.ref 2)],.inst 4 0,.fmap [(CO 70,vF),(CO 71,vG),(CO 72,vH)],.fmap [([70],sF),([71],sG),([72],sH)]]
noncomputable def e0:P3:=⟨⟨false,.no,.bl⟩,⟨false,.no,.bl⟩,⟨false,.no,.bl⟩⟩
noncomputable def xZ(b:Bool)(k:Nat):AV:=match b with | true=>.str [83,k] | false=>.str []
theorem YM(b:Bool)(k:Nat):xZ b k=.str (xY b k):=by exists b<;>rfl
noncomputable def YN(n:Nat)(v:AV):AO→AO
 | .ns fs=>.ns (setField n v fs)
 | o=>o
noncomputable def PW(f:Int)(vF vG vH sF sG sH:Option AV):AH :=
 (((((((((((L true true true e0 e0 []).take 112).set 2 (.fmap [(CO 70,vF),(CO 71,vG),(CO 72,vH)])).set 3 (.fmap [([70],sF),([71],sG),([72],sH)])).modify 58 (YN 557 (xZ (BJ f .f) 70))).modify 79 (YN 557 (xZ (BJ f .g) 71))).modify 100 (YN 557 (xZ (BJ f .h) 72))).modify 105 fun o=>YN 551 (.ref 151) (YN 554 (.ref 155) o)).set 108 .edict).set 109 (.list [])).set 110 (.list [])).set 111 (.list [])
noncomputable def wX(H:AH):AH:=AP EF (H.modify 105 (tidy (LP EF)))
theorem jB(f:Int)(vF vG vH sF sG sH:Option AV):((eg T0 160).call 65 [.ref 1,.int f] (Hw vF vG vH sF sG sH)).map (fun x=>(x.1,x.2.length,wX x.2))=some (some (.ref 106),157,PW f vF vG vH sF sG sH):=by kernel_rfl
section
variable{c:Cx}{N:Nm}{k f n K:Nat}{vs:List AV}{H:AH}{P Pd:AV→AH→Prop}
structure jC(c:Cx)(K:Nat)(v:AV)(H:AH)(v₂:AV)(H₂:AH):Prop where
 le:∀{s:Shared} {r:List Addr},SR c s r H→∃r₂,SR c s r₂ H₂∧r₂.take K=r.take K∧(∀a∈r₂,a∈r)∧∀V,VR c.hs s.heap r v V→VR c.hs s.heap r₂ v₂ V
theorem jC.trans{v v₂ v₃:AV}{H₂ H₃:AH}(x:jC c K v H v₂ H₂)(y:jC c K v₂ H₂ v₃ H₃):jC c K v H v₃ H₃:=⟨fun S=>by
 refine Og.LR (x.le S) fun r₂ S2 p2 sub h=>?_
 refine Og.LR (y.le S2) fun r₃ S3 p3 sub3 h3=>?_
 exact⟨r₃,S3,p3.trans p2,fun a m=>sub a (sub3 a m),fun V z=>h3 V (h V z)⟩⟩
theorem jC.less{v:AV}{H₂:AH}(x:BS c H H₂):jC c K v H v H₂:=⟨fun {s r} S=>⟨r,⟨S.keep,S.stat,by rw [S.len,x.len],fun i o e=>by
 refine Og.AB (x.at e) fun o1 e1 l=>?_
 refine Og.BV (S.obj i o1 e1) fun a ob ea eo y=>?_
 exact⟨a,ob,ea,eo,l _ _ _ y⟩,S.nodup,S.fresh,S.gens,S.os⟩,rfl,fun _ m=>m,fun _ z=>z⟩⟩
theorem d8{α:Type}{sel rest:List Nat}(hs:sel=List.range K++rest){l:List α}(hl:K≤l.length):(AP sel l).take K=l.take K:=by
 subst hs
 have:AP (List.range K++rest) l=AP (List.range K) l++AP rest l:=by unfold AP;rw [List.filterMap_append]
 rw [this,EE,List.take_append_of_le_length (by rw [List.length_take];lia),List.take_take,Nat.min_self]
theorem jC.ren{v:AV}{sel rest:List Nat}(hs:sel=List.range K++rest)(hK:K≤H.length)(nd:sel.Nodup)(hsel:∀j∈sel,j<H.length)(ok:∀o∈AP sel H,KM sel.contains o=true∧oW (ρS sel) o=true)(hv:FI sel.contains v=true):jC c K v H (BM (ρS sel) v) ((AP sel H).map (D5 (ρS sel))):=⟨fun {s r} S=>by
 have hr:∀j∈sel,j<r.length:=fun j m=>by rw [S.len];exact hsel j m
 have q:∀{h:Heap} (i:Nat) (a:Addr),sel.contains i=true→r[i]?=some a→VR c.hs h (AP sel r) (ρS sel i) (.ref a):=fun i a m e=>.ref (by
  rw [WD hr (by simpa using m)];exact e)
 exact⟨AP sel r,SR.ren S nd hsel q ok,d8 hs (by rw [S.len];exact hK),fun a m=>by
  refine Og.AB (GA m) fun j _ e=>?_
  exact List.mem_of_getElem? e,fun V z=>VR.ren (fun _ _ e _=>e) q hv z⟩⟩
theorem CG.finR{X:AH→Prop}(h:CG c (some K) k f vs H P X)(h1:∀v H',P v H'→∃v₂ H₂,jC c K v H' v₂ H₂∧Pd v₂ H₂∧∀i n es,i<K→H'[i]?=some (.sdict n es)→∃es',H₂[i]?=some (.sdict n es')):CG c (some K) k f vs H Pd X:=.mk fun {A s r outer Vs} R hfr Fs dj S y ko=>by
 intro Q q x
 refine h.run R hfr Fs dj S y ko Q (fun v H' p V s' r' G yv=>?_) x
 refine Og.BV (h1 v H' p) fun v2 H2 w pd hst=>?_
 refine Og.LR (w.le G.sr) fun r₂ S2 pre sub hv=>?_
 exact q v2 H2 pd V s' r₂ (G.trans (FC S2 pre G.len sub hst) (Nat.le_refl _) fun _ z=>z.elim) (hv V yv)
end
theorem dA{ρ:Nat→AV}:(∀v,FI (fun _=>false) v=true→BM ρ v=v)∧∀l,avPs (fun _=>false) l=true→renVs ρ l=l :=
 AV.both (fun _=>rfl) (fun _ _=>rfl) (fun _ _=>rfl) (fun _ _=>rfl) (fun _ _=>rfl) (fun _ y h=>congrArg AV.tup (y h)) (fun _ h=>BZ h) (fun _ y h=>congrArg AV.slist (y h)) (fun _ _=>rfl) (fun _=>rfl) (fun _=>rfl)
  fun v l x y h=>show BM ρ v::renVs ρ l=v::l from congr (congrArg List.cons (x (AA h))) (y (A6 h))
theorem jD{ρ:Nat→AV}{v:AV}(h:FI (fun _=>false) v=true):BM ρ v=v:=dA.1 v h
theorem dB{p:Nat→Bool}:(∀v,FI (fun _=>false) v=true→FI p v=true)∧∀l,avPs (fun _=>false) l=true→avPs p l=true :=
 AV.both (fun _=>rfl) (fun _ _=>rfl) (fun _ _=>rfl) (fun _ _=>rfl) (fun _ _=>rfl) (fun _ y h=>y h) (fun _ h=>BZ h) (fun _ y h=>y h) (fun _ _=>rfl) (fun _=>rfl) (fun _=>rfl)
  fun _ _ x y h=>Bool.and_eq_true_iff.mpr ⟨x (AA h),y (A6 h)⟩
theorem jE{p:Nat→Bool}{v:AV}(h:FI (fun _=>false) v=true):FI p v=true:=dB.1 v h
noncomputable def P2(o:Option AV):Prop:=∀v,o=some v→FI (fun _=>false) v=true
theorem P2.map{o:Option AV}{ρ:Nat→AV}(h:P2 o):o.map (BM ρ)=o:=by
 induction o using Option.casesOn with
 | none=>rfl
 | some v=>show some (BM ρ v)=some v;rw [jD (h v rfl)]
noncomputable def oV(p:Nat→Bool):Option AV→Bool
 | some v=>FI p v
 | none=>true
theorem P2.ok{o:Option AV}{p:Nat→Bool}(h:P2 o):oV p o=true:=by
 induction o using Option.casesOn with
 | none=>rfl
 | some v=>exact jE (h v rfl)
noncomputable def dL(k1 k2 k3:List Nat)(a b d:Option AV):AO:=.fmap [(k1,a),(k2,b),(k3,d)]
theorem MP{k1 k2 k3:List Nat}{a b d:Option AV}{ρ:Nat→AV}(ha:P2 a)(hb:P2 b)(hd:P2 d):D5 ρ (dL k1 k2 k3 a b d)=dL k1 k2 k3 a b d:=by
 show AO.fmap [(k1,a.map (BM ρ)),(k2,b.map (BM ρ)),(k3,d.map (BM ρ))]=_
 rw [ha.map,hb.map,hd.map];rfl
theorem jF{k1 k2 k3:List Nat}{a b d:Option AV}{p:Nat→Bool}(ha:P2 a)(hb:P2 b)(hd:P2 d):KM p (dL k1 k2 k3 a b d)=true:=by
 show(oV p a&&(oV p b&&(oV p d&&true)))=true
 rw [ha.ok,hb.ok,hd.ok];rfl
noncomputable def Bw(pF pG pH:Bool):AH:=(((((L pF pG pH e0 e0 []).take 112).modify 105 fun o=>YN 551 (.ref 151) (YN 554 (.ref 155) o)).set 108 .edict).set 109 (.list [])).set 110 (.list []) |>.set 111 (.list [])
noncomputable def Cw(pF pG pH:Bool):AH:=((((L pF pG pH e0 e0 []).take 112).set 108 .edict).set 109 (.list [])).set 110 (.list []) |>.set 111 (.list [])
noncomputable def Lw(pF pG pH:Bool)(vF vG vH sF sG sH:Option AV):AH:=((Cw pF pG pH).set 2 (dL (CO 70) (CO 71) (CO 72) vF vG vH)).set 3 (dL [70] [71] [72] sF sG sH)
theorem wY(f:Int)(vF vG vH sF sG sH:Option AV):PW f vF vG vH sF sG sH=((Bw (BJ f .f) (BJ f .g) (BJ f .h)).set 2 (dL (CO 70) (CO 71) (CO 72) vF vG vH)).set 3 (dL [70] [71] [72] sF sG sH):=by
 unfold PW
 rw [YM,YM,YM]
 generalize BJ f .f=a
 generalize BJ f .g=b
 generalize BJ f .h=d
 kernel_rfl
theorem oY(C:AH)(F S A B:AO):(((C.set 2 F).set 3 S).set 2 A).set 3 B=(C.set 2 A).set 3 B:=by
 rw [List.set_comm S A (by decide:(3:Nat)≠2),List.set_set,List.set_set]
theorem rS(pF pG pH:Bool)(A B:AO):(((Bw pF pG pH).set 2 A).set 3 B).map (D5 (ρS EF))=((Cw pF pG pH).set 2 (D5 (ρS EF) A)).set 3 (D5 (ρS EF) B):=by
 rw [List.map_set,List.map_set]
 have:(Bw pF pG pH).map (D5 (ρS EF))=((Cw pF pG pH).set 2 (D5 (ρS EF) (LB e0))).set 3 (D5 (ρS EF) (KE e0)):=by kernel_rfl
 rw [this,oY]
noncomputable def oZ(p:Nat→Bool)(ρ:Nat→AV)(o:AO):Bool:=KM p o&&oW ρ o
theorem wZ(pF pG pH:Bool):(Bw pF pG pH).all (oZ EF.contains (ρS EF))=true:=by kernel_rfl
theorem BS.modify{c:Cx}{f:AO→AO}(hf:∀o,E4 c o (f o)):∀(H:AH) (i:Nat),BS c H (H.modify i f)
 | [],i=>by exists i<;>exact .nil
 | o::l,0=>.cons (hf o) (BS.refl l)
 | o::l,i+1=>.cons (E4.refl o) (BS.modify hf l i)
theorem jG{c:Cx}(Lk:CP c T0 N0)(Fn:AY c T0 N0)(XK:OI c)(f:Int){vF vG vH sF sG sH:Option AV}(h1:P2 vF)(h2:P2 vG)(h3:P2 vH)(h4:P2 sF)(h5:P2 sG)(h6:P2 sH):
  CG c (some 4) 190 65 [.ref 1,.int f] (Hw vF vG vH sF sG sH) (fun v H'=>v=.ref 106∧H'=Lw (BJ f .f) (BJ f .g) (BJ f .h) vF vG vH sF sG sH) (fun _=>False):=by
 obtain⟨⟨out,H1⟩,e,q⟩:=Option.map_eq_some_iff.mp (jB f vF vG vH sF sG sH)
 obtain⟨q1,q4⟩:=Prod.mk.inj q
 obtain⟨q2,q3⟩:=Prod.mk.inj q4
 clear q q4
 dsimp only at q1 q2 q3
 subst q1
 rw [wY] at q3
 have hl:(H1.modify 105 (tidy (LP EF))).length=157:=by rw [List.length_modify];exact q2
 refine CG.finR (CG.cut (CG.post ((OC Lk Fn XK 160).call e) (Pd:=fun v H'=>v=.ref 106∧H'=H1) (X₁:=fun _=>False) (fun v H' z=>⟨by exists z.1;rfl,z.2⟩) fun _ z=>by exists z.1)) fun v H' z=>?_
 obtain⟨rfl,rfl⟩:=z
 refine⟨_,_,(jC.less (BS.modify (E4.tidy (LP EF)) H' 105)).trans (jC.ren (sel:=EF) (rest:=EF.drop 4) (by decide) (by rw [hl];decide) (by decide) (fun j m=>by rw [hl];revert j;decide) (fun o m=>?_) (by decide)),⟨by rfl,?_⟩,fun i n es hi hh=>?_⟩
 ·rw [show AP EF (H'.modify 105 (tidy (LP EF)))=_ from q3] at m
  have:=wZ (BJ f .f) (BJ f .g) (BJ f .h)
  have key:oZ EF.contains (ρS EF) o=true:=by
   rcases List.mem_or_eq_of_mem_set m with m | rfl
   ·rcases List.mem_or_eq_of_mem_set m with m | rfl
    ·exact List.all_eq_true.mp this o m
    ·unfold oZ;rw [jF h1 h2 h3];rfl
   ·unfold oZ;rw [jF h4 h5 h6];rfl
  exact Bool.and_eq_true_iff.mp key
 ·rw [show AP EF (H'.modify 105 (tidy (LP EF)))=_ from q3,rS,MP h1 h2 h3,MP h4 h5 h6];rfl
 ·exfalso
  have e1:=FF (sel:=EF) (l:=H'.modify 105 (tidy (LP EF))) (fun j m=>by rw [hl];revert j;decide) i
  rw [show AP EF (H'.modify 105 (tidy (LP EF)))=_ from q3] at e1
  have e2:EF[i]?=some i:=by
   have:i=0∨i=1∨i=2∨i=3:=by lia
   rcases this with rfl | rfl | rfl | rfl<;>rfl
  rw [e2] at e1
  have e3:(H'.modify 105 (tidy (LP EF)))[i]?=some (.sdict n es):=by
   rw [List.getElem?_modify,hh]
   show some (if 105=i then _ else _)=_
   rw [if_neg (by lia)]
  dsimp only [Option.bind] at e1
  rw [e3] at e1
  have:i=0∨i=1∨i=2∨i=3:=by lia
  rcases this with rfl | rfl | rfl | rfl<;>exists e1
end Og
end
section
set_option backward.match.sparseCases false
open PySem PySem.W PySem.Calls PyProof.Rows PySem.SeqAt
namespace Og
noncomputable def sL:PS:=.assign 98 (.bin .mod (.bin .fdiv (.bin .fdiv (.var 97) (.const (.int 8))) (.bin .pow (.const (.int 3)) (.var 66))) (.const (.int 3)))
noncomputable def sM:PS:=.ifs (.cmp .gt (.var 98) (.const (.int 0))) [(.assign 19 (.idx (.glob 91) (.ite (.cmp .eq (.var 98) (.const (.int 2))) (.var 66) (.bin .mod (.bin .add (.var 66) (.const (.int 1))) (.const (.int 3)))))),(.assign 21 (.ite (.cmp .eq (.var 19) (.const (.str [114,101,108,97,116,105,118,101]))) (.tup [(.tup [(.const (.int 1)),(.const (.bytes [107,49,97,49]))]),(.tup [(.const (.int 4)),(.const (.bytes [107,52,97,49]))])]) (.tup [(.const (.bytes [107,49,97,49])),(.const (.bytes [107,52,97,49]))]))),(.expr (.meth (.var 75) 99 [(.bin .add (.const (.str [112,97,116,104,45])) (.var 80)),(.var 19),(.var 21)])),(.sub (.var 93) (.var 80) (.tup [(.var 19),(.var 21)]))] []
noncomputable def p3:PS:=.for (.two 66 80) (.enum (.const (.str [70,71,72]))) [sL,sM]
noncomputable def jH:List GS:=[.leaf sL,.leaf sM]
noncomputable def jI:C5→Int | .no=>0 | .oth=>1 | .own=>2 | .emp=>0
theorem jJ(y:Int):∃x:C5,x≠.emp∧Int.fmod y 3=jI x:=by
 have h1:=Int.fmod_nonneg_of_pos y (b:=3) (by decide)
 have h2:=Int.fmod_lt_of_pos y (b:=3) (by decide)
 have:Int.fmod y 3=0∨Int.fmod y 3=1∨Int.fmod y 3=2:=by lia
 rcases this with h | h | h
 ·exact⟨.no,by simp,h⟩
 ·exact⟨.oth,by simp,h⟩
 ·exact⟨.own,by simp,h⟩
noncomputable def YO:C5→AH | .oth=>[.list [],.list [],aI] | .own=>[LL] | _=>[]
noncomputable def aR:C5→AH | .own=>[.list [],.list [],aI] | .oth=>[LL] | _=>[]
noncomputable def dC:C5→AH | .own=>[LL] | .oth=>[LL] | _=>[]
noncomputable def sN:C5→Nat | .oth=>7 | _=>5
noncomputable def sO(x y:C5):Nat:=5+(YO x).length+(match y with | .own=>2 | _=>0)
noncomputable def sP(x y:C5):Nat:=5+(YO x).length+(aR y).length
noncomputable def Hc(iF iG iH:Nat)(x y z:C5)(l:List AV)(cs:AH):AH:=.ns [(517,.ref 2)]::.inst 4 0::dL (CO 70) (CO 71) (CO 72) (BN HZ I1 iF x) (BN I1 I5 iG y) (BN I5 HZ iH z)::dL [70] [71] [72] (DP x) (DQ y) (DR z)::.list l::cs
noncomputable def Hs(x y z:C5)(l:List AV):AH:=Hc (sN x) (sO x y) (sP x y) x y z l (YO x++(aR y++dC z))
noncomputable def σs(f:Int):Env':=[(93,.ref 3),(75,.ref 1),(97,.int f),(96,.ref 4)]
noncomputable def YP(v:Option AV)(σ:Env'):Env':=match v with
 | some (.tup [k,rows])=>(21,rows)::(19,k)::σ
 | _=>σ
noncomputable def σt(f:Int)(j ch:Nat):Env':=(80,.str [ch])::(66,.int j)::σs f
theorem rT(f:Int)(H:AH):(ev T0 60).s sL (σt f 0 70) H=some (.next,(98,.int (Int.fmod (Int.fdiv (Int.fdiv f 8) 1) 3))::σt f 0 70,H):=by kernel_rfl
theorem rU(f:Int)(H:AH):(ev T0 60).s sL (σt f 1 71) H=some (.next,(98,.int (Int.fmod (Int.fdiv (Int.fdiv f 8) 3) 3))::σt f 1 71,H):=by kernel_rfl
theorem rV(f:Int)(H:AH):(ev T0 60).s sL (σt f 2 72) H=some (.next,(98,.int (Int.fmod (Int.fdiv (Int.fdiv f 8) 9) 3))::σt f 2 72,H):=by kernel_rfl
theorem rW(f:Int)(l:List AV):∀x:C5,x≠.emp→(ev T0 60).s sM ((98,.int (jI x))::σt f 0 70) (Hs .no .no .no l)=some (.next,YP (DP x) ((98,.int (jI x))::σt f 0 70),Hs x .no .no l)
 | .no,_=>by kernel_rfl
 | .oth,_=>by kernel_rfl
 | .own,_=>by kernel_rfl
 | .emp,h=>absurd rfl h
theorem rX(f:Int)(l:List AV):∀x y:C5,x≠.emp→y≠.emp→(ev T0 60).s sM ((98,.int (jI y))::σt f 1 71) (Hs x .no .no l)=some (.next,YP (DQ y) ((98,.int (jI y))::σt f 1 71),Hs x y .no l):=by
 intro x y hx hy
 exists x<;>exists y<;>first | exact absurd rfl hx | exact absurd rfl hy | skip
 all_goals kernel_rfl
theorem rY(f:Int)(l:List AV):∀x y z:C5,x≠.emp→y≠.emp→z≠.emp→(ev T0 60).s sM ((98,.int (jI z))::σt f 2 72) (Hs x y .no l)=some (.next,YP (DR z) ((98,.int (jI z))::σt f 2 72),Hs x y z l):=by
 intro x y z hx hy hz
 exists x<;>exists y<;>exists z<;>first | exact absurd rfl hx | exact absurd rfl hy | exact absurd rfl hz | skip
 all_goals kernel_rfl
theorem rZ{f:Int}{j ch:Nat}{v:Option AV}{w:AV}:KL (σs f) (YP v ((98,w)::σt f j ch)):=by
 have h0:KL (σs f) ((98,w)::σt f j ch):=((KL.refl.cons rfl).cons rfl).cons rfl
 unfold YP
 split
 ·exact(h0.cons rfl).cons rfl
 ·exact h0
section
variable{c:Cx}{N:Nm}{κ:Option Nat}{k:Nat}{H H₂:AH}{σ σ₂:Env'}{P:PostP}{X:AH→Prop}
theorem TL.has{t:PT}{b:List GS}{src:DV}{j:Nat}(hs:∀{s r env},FR c s r env σ→FR c s r env σ₂)(h:TL c N κ k t b src j σ₂ H P X):TL c N κ k t b src j σ H P X:=.mk fun R C S F=>h.run R C S (hs F)
theorem FR.sel{s:Shared}{r:List Addr}{env:Env}(F:FR c s r env σ)(h:KL σ₂ σ):FR c s r env σ₂:=F.sub fun z u e=>⟨F.plain z u (h z u e),fun _=>h z u e⟩
theorem JN(Lk:CP c T0 N0)(Fn:AY c T0 N0){f y:Int}{j ch:Nat}{x:C5}{v:Option AV}(hj:[70,71,72][j]?=some ch)(E1:(ev T0 60).s sL (σt f j ch) H=some (.next,(98,.int (Int.fmod y 3))::σt f j ch,H))(hx:Int.fmod y 3=jI x)
  (E2:(ev T0 60).s sM ((98,.int (jI x))::σt f j ch) H=some (.next,YP v ((98,.int (jI x))::σt f j ch),H₂)) (h:TL c N0 (some 0) 60 (.two 66 80) jH (.enum [70,71,72]) (j+1) (σs f) H₂ P X):TL c N0 (some 0) 60 (.two 66 80) jH (.enum [70,71,72]) j (σs f) H P X:=by
 refine TL.step Lk (x:=.tup [.int j,.str [ch]]) (σ₁:=σt f j ch) (P₁:=fun g σ' H'=>g=.next∧σ'=YP v ((98,.int (jI x))::σt f j ch)∧H'=H₂) (X₁:=fun _=>False) (by show some (([70,71,72][j]?).map _)=_;rw [hj];rfl) rfl rfl ?_ (fun σ2 H2 z=>?_) (fun σ2 H2 z=>by exists z.1) (fun v σ2 H2 z=>by exists z.1) fun H2 z=>z.elim
 ·refine BR.cons (X₁:=fun _=>False) (BH.leaf Lk Fn (j:=60) (by decide) E1) (fun σ2 H2 z=>?_) (fun f σ2 H2 z nz=>absurd z.1 nz) fun _ z=>z
  refine Og.BB z fun _ hr1 hr2=>?_;clear z;subst hr1 hr2
  rw [hx]
  refine BR.cons (X₁:=fun _=>False) (BH.leaf Lk Fn (j:=60) (by decide) E2) (fun σ2 H2 z=>?_) (fun f σ2 H2 z nz=>absurd z.1 nz) fun _ z=>z
  refine Og.BB z fun _ hr1 hr2=>?_;clear z;subst hr1 hr2
  exact BR.nil ⟨rfl,rfl,rfl⟩
 ·refine Og.BB z fun _ hr1 hr2=>?_;clear z;subst hr1 hr2
  exact TL.has (fun F=>F.sel rZ) h
theorem YQ(Lk:CP c T0 N0)(Fn:AY c T0 N0)(f:Int)(l:List AV):TL c N0 (some 0) 60 (.two 66 80) jH (.enum [70,71,72]) 0 (σs f) (Hs .no .no .no l) (fun g σ' H'=>g=.next∧σ'=σs f∧∃x y z:C5,x≠.emp∧y≠.emp∧z≠.emp∧H'=Hs x y z l) (fun _=>False):=by
 refine Og.AB (jJ (Int.fdiv (Int.fdiv f 8) 1)) fun x hx ex=>?_
 refine Og.AB (jJ (Int.fdiv (Int.fdiv f 8) 3)) fun y hy ey=>?_
 refine Og.AB (jJ (Int.fdiv (Int.fdiv f 8) 9)) fun z hz ez=>?_
 refine JN Lk Fn rfl (rT f _) ex (rW f l x hx) ?_
 refine JN Lk Fn rfl (rU f _) ey (rX f l x y hx hy) ?_
 refine JN Lk Fn rfl (rV f _) ez (rY f l x y z hx hy hz) ?_
 exact TL.done Lk rfl ⟨rfl,rfl,x,y,z,hx,hy,hz,rfl⟩
end
end Og
end
section
open PySem PySem.W PySem.Calls PyProof.Rows PySem.SeqAt
namespace Og
theorem A_n{α:Type}{a b d e:α}{p:α→Prop}(h1:p a)(h2:p b)(h3:p d)(h4:p e):∀o∈[a,b,d,e],p o:=fun o m=>by
 simp only [List.mem_cons,List.not_mem_nil,or_false] at m
 rcases m with rfl | rfl | rfl | rfl
 ·exact h1
 ·exact h2
 ·exact h3
 ·exact h4
theorem xA{m n:Nat}{q:List Addr}{i:Nat}(h:n≤i):i-n<q.length→ρF (n+m) q (i+m)=ρF n q i:=fun hl=>by
 unfold ρF
 rw [if_neg (by lia),if_neg (by lia),show i+m-(n+m)=i-n by lia,List.getElem?_eq_getElem hl]
theorem LC{own oth:List Nat}{i:Nat}{ρ:Nat→AV}{x:C5}:(BN own oth i x).map (BM ρ)=match x with | .no=>none | .oth=>some (.tup [.str oth,ρ i]) | .own=>some (.tup [.str own,ρ i]) | .emp=>some (.tup [.str own,ρ i]):=by
 exists x<;>rfl
theorem jK{own oth:List Nat}{i:Nat}{q:List Addr}{x:C5}(h:4≤i)(hl:i-4<q.length):(BN own oth (i+108) x).map (BM (ρF 112 q))=(BN own oth i x).map (BM (ρF 4 q)):=by
 rw [LC,LC,xA (m:=108) (n:=4) h hl]
theorem dD{own oth:List Nat}{i:Nat}{q:List Addr}{x:C5}(h:4≤i)(hl:i-4<q.length):P2 ((BN own oth i x).map (BM (ρF 4 q))):=fun v e=>by
 rw [LC] at e
 have:ρF 4 q i=.addr (q[i-4]):=by
  unfold ρF
  rw [if_neg (by omega),List.getElem?_eq_getElem hl]
 rw [this] at e
 exists x<;>exists e<;>rfl
theorem T2(x:C5):P2 (DP x):=fun v e=>by exists x<;>exists e<;>rfl
theorem T3(x:C5):P2 (DQ x):=fun v e=>by exists x<;>exists e<;>rfl
theorem T4(x:C5):P2 (DR x):=fun v e=>by exists x<;>exists e<;>rfl
theorem s7(pF pG pH:Bool)(q:List Addr)(A B:AO):(((Cw pF pG pH).set 2 A).set 3 B).map (D5 (ρF 112 q))=((Cw pF pG pH).set 2 (D5 (ρF 112 q) A)).set 3 (D5 (ρF 112 q) B):=by
 rw [List.map_set,List.map_set]
 have:(Cw pF pG pH).map (D5 (ρF 112 q))=((Cw pF pG pH).set 2 (D5 (ρF 112 q) (LB e0))).set 3 (D5 (ρF 112 q) (KE e0)):=by kernel_rfl
 rw [this,oY]
theorem jL{K:Nat}{σ:Env'}(h:(σ.all fun x=>MK K x.2)=true):∀z u,AG z σ=some u→MK K u=true:=fun z u e=>by
 induction σ with
 | nil=>exists e
 | cons x σ ih =>
  rw [List.all_cons,Bool.and_eq_true] at h
  obtain⟨y,v⟩:=x
  unfold AG at e
  split at e
  ·exists e;exact h.1
  ·exact ih h.2 e
theorem OG{pF pG pH:Bool}{a b d e g h:Option AV}:(Lw pF pG pH a b d e g h).length=112:=by
 unfold Lw;rw [List.length_set,List.length_set];kernel_rfl
noncomputable def σw(f:Int):Env':=(76,.ref 106)::[(93,.ref 3),(75,.ref 1),(97,.int f),(96,.ref 112)]
section
variable{c:Cx}{k:Nat}{P:PostP}{X:AH→Prop}{iF iG iH:Nat}{x y z:C5}{f:Int}{l:List AV}{cs:AH}{gl:List GS}
theorem YR(Lk:CP c T0 N0)(Fn:AY c T0 N0)(XK:OI c)(hk:190≤k)(hF:5≤iF∧(iF<5+cs.length∨x=.no))(hG:5≤iG∧(iG<5+cs.length∨y=.no))(hH:5≤iH∧(iH<5+cs.length∨z=.no))(okc:∀o∈.list l::cs,KM (fun _=>false) o=true)
  (h:BR c N0 (some 0) k gl (σw f) (Lw (BJ f .f) (BJ f .g) (BJ f .h) (BN HZ I1 (iF+108) x) (BN I1 I5 (iG+108) y) (BN I5 HZ (iH+108) z) (DP x) (DQ y) (DR z)++.list l::cs) P X) :
  BR c N0 (some 0) k (.assign 76 65 [.var 75,.var 97]::gl) (σs f) (Hc iF iG iH x y z l cs) P X:=by
 have qlen:∀q:List Addr,q.length=(Hc iF iG iH x y z l cs).length-4→q.length=1+cs.length:=fun q e=>by
  rw [e];show cs.length+1+4-4=_;lia
 have no:∀(own oth:List Nat) (i j:Nat) (ρ ρ':Nat→AV) (x:C5),x=.no→(BN own oth i x).map (BM ρ)=(BN own oth j x).map (BM ρ'):=fun own oth i j ρ ρ' x e=>by subst e;rfl
 have nr:∀(own oth:List Nat) (i:Nat) (x:C5) (q:List Addr),q.length=1+cs.length→(5≤i∧(i<5+cs.length∨x=.no))→P2 ((BN own oth i x).map (BM (ρF 4 q))):=fun own oth i x q e hh=>by
  rcases hh.2 with g | g
  ·exact dD (by lia) (by lia)
  ·subst g;exact fun v e=>by exists e
 have up:∀(own oth:List Nat) (i:Nat) (x:C5) (q:List Addr),q.length=1+cs.length→(5≤i∧(i<5+cs.length∨x=.no))→(BN own oth (i+108) x).map (BM (ρF 112 q))=(BN own oth i x).map (BM (ρF 4 q)):=fun own oth i x q e hh=>by
  rcases hh.2 with g | g
  ·exact jK (by lia) (by lia)
  ·exact no _ _ _ _ _ _ _ g
 refine BR.frame (n:=4) (P₁:=fun q g σ' H'=>g=.next∧σ'=(76,.ref 106)::M3 (ρF 4 q) (σs f)∧H'=Lw (BJ f .f) (BJ f .g) (BJ f .h) ((BN HZ I1 iF x).map (BM (ρF 4 q))) ((BN I1 I5 iG y).map (BM (ρF 4 q))) ((BN I5 HZ iH z).map (BM (ρF 4 q))) (DP x) (DQ y) (DR z))
  (by show 4≤cs.length+1+4;lia) (fun q e=>A_n rfl rfl rfl rfl) okc (fun q e=>?_) fun q g σ' H' e p=>?_
 ·have e:=qlen q e
  have eq:((Hc iF iG iH x y z l cs).take 4).map (D5 (ρF 4 q))=Hw ((BN HZ I1 iF x).map (BM (ρF 4 q))) ((BN I1 I5 iG y).map (BM (ρF 4 q))) ((BN I5 HZ iH z).map (BM (ρF 4 q))) (DP x) (DQ y) (DR z):=by
   show [AO.ns [(517,.ref 2)],.inst 4 0,D5 (ρF 4 q) (dL _ _ _ _ _ _),D5 (ρF 4 q) (dL _ _ _ (DP x) (DQ y) (DR z))]=_
   rw [MP (T2 x) (T3 y) (T4 z)];rfl
  rw [eq]
  refine BH.post (X₁:=fun _=>False) (BH.assign Lk Fn (j:=20) (by lia) (vs:=[.ref 1,.int f]) (by rfl) (CG.le (jG Lk Fn XK f (nr _ _ _ _ q e hF) (nr _ _ _ _ q e hG) (nr _ _ _ _ q e hH) (T2 x) (T3 y) (T4 z)) hk) (κ':=some 4) ⟨Nat.zero_le _,Nat.le_refl _,?_⟩) (fun g σ' H' w=>?_) fun _ w=>w
  ·obtain⟨a,q',rfl⟩:∃a q',q=a::q':=by
    induction q using List.casesOn with
    | nil=>simp at e;lia
    | cons a q'=>exact⟨a,q',rfl⟩
   exact jL rfl
  ·refine Og.LR w fun v hr1 hr2 hr3 hr4=>?_;clear w;subst hr1 hr2 hr3 hr4
   exact⟨rfl,rfl,rfl⟩
 ·refine Og.BB p fun hr1 hr2 hr3=>?_;clear p;subst hr1 hr2 hr3
  have e:=qlen q e
  obtain⟨q0,q',rfl⟩:∃a q',q=a::q':=by
   induction q using List.casesOn with
   | nil=>simp at e;lia
   | cons a q'=>exact⟨a,q',rfl⟩
  refine⟨rfl,σw f,_,by rw [OG];rfl,?_,h⟩
  rw [OG]
  unfold Lw
  rw [s7,MP (T2 x) (T3 y) (T4 z)]
  show(((Cw _ _ _).set 2 (dL _ _ _ (Option.map _ _) (Option.map _ _) (Option.map _ _))).set 3 _)=_
  rw [up _ _ _ _ _ e hF,up _ _ _ _ _ e hG,up _ _ _ _ _ e hH]
end
noncomputable def pT(m:Nat)(tail:List Nat)(i:Nat):Bool:=Nat.blt i m||tail.contains i
noncomputable def ρT(m:Nat)(tail:List Nat)(i:Nat):AV:=match Nat.blt i m with | true=>.ref i | false=>.ref (m+tail.idxOf i)
section
variable{c:Cx}{N:Nm}{k m:Nat}{tail:List Nat}{H H₂:AH}{σ σ₁ σ₂:Env'}{P:PostP}{X:AH→Prop}
theorem YS{i:Nat}(h:i<m):(List.range m++tail)[i]?=some i:=by
 rw [List.getElem?_append_left (by rw [List.length_range];exact h),List.getElem?_range h]
theorem xB{i:Nat}(h:pT m tail i=true):∃j,ρT m tail i=.ref j∧(List.range m++tail)[j]?=some i:=by
 unfold pT at h
 unfold ρT
 cases e:Nat.blt i m with
 | true=>exact⟨i,rfl,YS (by simpa [Nat.blt_eq] using e)⟩
 | false =>
  rw [e] at h
  have mm:i∈tail:=by simpa using h
  refine⟨_,rfl,?_⟩
  rw [List.getElem?_append_right (by rw [List.length_range];lia),List.length_range,Nat.add_sub_cancel_left]
  have:=List.idxOf_lt_length_iff.mpr mm
  rw [List.getElem?_eq_getElem this,List.getElem_idxOf]
theorem n8{p:Nat→Bool}{σ:Env'}(h:(σ.all fun x=>FI p x.2)=true):∀x v,AG x σ=some v→FI p v=true:=fun x v e=>by
 induction σ with
 | nil=>exists e
 | cons y l ih =>
  rw [List.all_cons,Bool.and_eq_true] at h
  obtain⟨y,w⟩:=y
  unfold AG at e
  split at e
  ·exists e;exact h.1
  ·exact ih h.2 e
theorem TL.ren{t:PT}{b:List GS}{o o' j:Nat}(hl:m≤H.length)(ht:∀j∈tail,j<H.length)(nd:tail.Nodup)(lo:∀j∈tail,m≤j)(ok:∀o∈AP (List.range m++tail) H,KM (pT m tail) o=true∧oW (ρT m tail) o=true)
  (hs:KL σ₁ σ) (hσ:(σ₁.all fun x=>FI (pT m tail) x.2)=true) (ho:(List.range m++tail)[o']?=some o) (less:BS c ((AP (List.range m++tail) H).map (D5 (ρT m tail))) H₂)
  (h:TL c N (some 0) k t b (.lst o') j (M3 (ρT m tail) σ₁) H₂ P X):TL c N (some 0) k t b (.lst o) j σ H P X:=.mk fun {A s r env outer t' b' itv w'} R C S F ko mt mb hp I ap ow=>by
 intro Q q x
 have hsel:∀j∈List.range m++tail,j<H.length:=fun j mj=>by
  rcases List.mem_append.mp mj with z | z
  ·have:=List.mem_range.mp z;lia
  ·exact ht j z
 have hr:∀j∈List.range m++tail,j<r.length:=fun j mj=>by rw [S.len];exact hsel j mj
 have ndS:(List.range m++tail).Nodup:=List.nodup_append.mpr ⟨List.nodup_range,nd,fun a ma b mb z=>by
  have:=List.mem_range.mp ma
  have:=lo b mb
  lia⟩
 have qq:∀{h:Heap} (i:Nat) (a:Addr),pT m tail i=true→r[i]?=some a→VR c.hs h (AP (List.range m++tail) r) (ρT m tail i) (.ref a):=fun i a mi e=>by
  refine Og.AB (xB mi) fun j e1 e2=>?_
  rw [e1]
  exact .ref (by rw [FF hr,e2];exact e)
 have S1:=SR.ren S ndS hsel qq ok
 have S2:SR c s (AP (List.range m++tail) r) H₂:=⟨S1.keep,S1.stat,by rw [S1.len,less.len],fun i o e=>by
  refine Og.AB (less.at e) fun o1 e1 l=>?_
  refine Og.BV (S1.obj i o1 e1) fun a ob ea eo y=>?_
  exact⟨a,ob,ea,eo,l _ _ _ y⟩,S1.nodup,S1.fresh,S1.gens,S1.os⟩
 have sub:∀a∈AP (List.range m++tail) r,a∈r:=fun a ma=>by
  refine Og.AB (GA ma) fun j _ e=>?_
  exact List.mem_of_getElem? e
 have F2:FR c s (AP (List.range m++tail) r) env (M3 (ρT m tail) σ₁):=by
  refine⟨F.kind,F.globals,F.builtins,F.ns,fun x v e kn=>?_,F.cells,F.apart,F.inj,F.notHs,fun a w ma=>F.notIn a w (sub a ma),fun x v e=>?_,F.own⟩
  ·rw [DU] at e
   refine FO e fun v0 e0=>?_
   refine Og.AB (F.vars x v0 (hs x v0 e0) kn) fun V nm y=>?_
   exact⟨V,nm,VR.ren (fun _ _ e _=>e) qq (n8 hσ x v0 e0) y⟩
  ·rw [DU] at e
   refine FO e fun v0 e0=>?_
   exact F.plain x v0 (hs x v0 e0)
 have G:∀W,C8 c 0 W (env::outer) s r H H₂ s (AP (List.range m++tail) r):=fun W=>FC S2 (by simp) (Nat.zero_le _) sub fun _ _ _ z=>absurd z (Nat.not_lt_zero _)
 have I2:It c s (AP (List.range m++tail) r) H₂ (.lst o') j itv w':=by
  exact I.elim (P:=fun itv w'=>It c s (AP (List.range m++tail) r) H₂ (.lst o') j itv w') fun _ _ i e=>.lst i (by rw [FF hr,ho];exact e)
 have ap2:B5 c s (AP (List.range m++tail) r) (LW env w'):=⟨ap.hs,fun a o m=>ap.nr a o (sub a m),ap.nt⟩
 have nr:∀{H3 s3 r3},C8 c 0 (LW env w') (env::outer) s (AP (List.range m++tail) r) H₂ H3 s3 r3→(∀a,CC env a→a∉r3)→∀a,LW env w' a→a∉r3:=fun G3 n a o=>o.elim (n a) fun m m3=>by
  rcases G3.new a m3 with z | z
  ·exact ap2.nr a (.inr m) z
  ·refine Og.AI (I2.has a m) fun ob e=>?_
   rw [e] at z;exists z
 refine h.run R (C.gok S F (G (CC env)) F2) S2 F2 (fun K' e=>by exists e;exact Nat.zero_le _) mt mb (fun z=>by exists z) I2 ap2 ow Q (fun f σ' H' p fl s' r' G' F' z=>?_) fun H' z ea s₁ r₁ s' G' F' y=>?_
 ·exact q f σ' H' p fl s' r' ((G _).trans G' (Nat.le_refl _) (nr G' F'.notIn)) F' z
 ·exact x H' z ea s₁ r₁ s' ((G _).trans G' (Nat.le_refl _) (nr G' F'.notIn)) F' y
end
theorem BS.set{c:Cx}:∀{H:AH} {i:Nat} {o o2:AO},H[i]?=some o2→E4 c o o2→BS c (H.set i o) H
 | [],i,o,o2,e,_=>by exists e
 | a::l,0,o,o2,e,w=>by exists e;exact .cons w (BS.refl l)
 | a::l,i+1,o,o2,e,w=>.cons (E4.refl a) (BS.set (H:=l) (i:=i) e w)
theorem BS.trans{c:Cx}{H₁ H₂:AH}(x:BS c H₁ H₂):∀{H₃},BS c H₂ H₃→BS c H₁ H₃:=by
 induction x with
 | nil=>intro H₃ y;exact y
 | cons a _ ih=>intro H₃ y;cases y with | cons b y=>exact .cons (fun h r ob z=>b h r ob (a h r ob z)) (ih y)
noncomputable def p5:PS:=.unp [92,100] (.tup [(.list []),(.list [(.const (.str [32,32])),(.const (.str [32,32])),(.const (.str [32,32]))])])
noncomputable def p6:PX:=.slc (.var 96) (some (.const (.int 1))) none
noncomputable def xC:AO:=.list [.str [32,32],.str [32,32],.str [32,32]]
noncomputable def σv(f:Int)(n:Nat):Env':=(100,.ref (n+1))::(92,.ref n)::σw f
theorem xD(f:Int)(H:AH):(ev T0 60).s p5 (σw f) H=some (.next,σv f H.length,(H++[.list []])++[xC]):=by
 have:(ev T0 60).s p5 (σw f) H=some (.next,(100,.ref (H++[AO.list []]).length)::(92,.ref H.length)::σw f,(H++[.list []])++[xC]):=by kernel_rfl
 rw [this,List.length_append];rfl
theorem xE(f:Int)(n:Nat)(H:AH)(l:List AV)(hl:CF l.length=true)(h:H[112]?=some (.list l)):(ev T0 60).it p6 (σv f n) H=some (.lst H.length,H++[.list (l.drop 1)]):=by
 have h1:(ev T0 59).e p6 (σv f n) H=some (.ref H.length,H++[.list (l.drop 1)]):=by
  have h2:(ev T0 59).e p6 (σv f n) H=TE H (.ref 112) (some 1) none:=by kernel_rfl
  rw [h2]
  refine(CZ (f:=t0 H (some 1) none) h).trans ?_
  show CJ (CF l.length) _=_
  rw [hl]
  have:cut l (some 1) none=some (l.drop 1):=by unfold cut;simp
  show(cut l (some 1) none).map (fun x=>(AV.ref H.length,H++[AO.list x]))=_
  rw [this];rfl
 have h3:(ev T0 60).it p6 (σv f n) H=CD ((ev T0 59).e p6 (σv f n) H) fun v H=>(TJ H v).map fun x=>(x,H):=by kernel_rfl
 rw [h3]
 refine(D3 h1).trans ?_
 show(((H++[AO.list (l.drop 1)])[H.length]?).bind (tH H.length)).map (fun x=>(x,H++[AO.list (l.drop 1)]))=_
 rw [List.getElem?_concat_length];rfl
noncomputable def nS(x y z:C5):Nat:=113+(YO x++(aR y++dC z)).length
noncomputable def slF(x:C5):Nat:=match x with | .no=>109 | _=>sN x+108
noncomputable def slG(x y:C5):Nat:=match y with | .no=>110 | _=>sO x y+108
noncomputable def slH(x y z:C5):Nat:=match z with | .no=>111 | _=>sP x y+108
noncomputable def GW(x y z:C5):List Nat:=[nS x y z,nS x y z+1,nS x y z+2,slF x,slG x y,slH x y z]
noncomputable def HD(x y z:C5)(pF pG pH:Bool)(cl:List AV):AH:=Lw pF pG pH (BN HZ I1 (sN x+108) x) (BN I1 I5 (sO x y+108) y) (BN I5 HZ (sP x y+108) z) (DP x) (DQ y) (DR z)++.list cl::(YO x++(aR y++dC z))
noncomputable def HE(x y z:C5)(pF pG pH:Bool)(cl:List AV)(oS:AO):AH:=((HD x y z pF pG pH cl++[.list []])++[xC])++[oS]
noncomputable def aS(x y z:C5):P3:=⟨⟨false,x,.bl⟩,⟨false,y,.bl⟩,⟨false,z,.bl⟩⟩
noncomputable def xF(tail:List Nat)(H:AH)(n:Nat):Bool:=Nat.blt 109 n&&(tail.all (fun j=>Nat.blt j n)&&(decide tail.Nodup&&(tail.all (fun j=>Nat.ble 109 j)&&(AP (List.range 109++tail) H).all (oZ (pT 109 tail) (ρT 109 tail)))))
theorem jM(x y z:C5)(pF pG pH:Bool)(cl:List AV):(HD x y z pF pG pH cl).length=nS x y z:=by
 unfold HD nS
 rw [List.length_append,OG,List.length_cons];lia
theorem n9(x y z:C5)(hx:x≠.emp)(hy:y≠.emp)(hz:z≠.emp)(pF pG pH:Bool)(cl:List AV)(oS:AO):xF (GW x y z) (HE x y z pF pG pH cl oS) (nS x y z+3)=(oZ (pT 109 (GW x y z)) (ρT 109 (GW x y z)) oS&&true):=by
 exists x<;>exists y<;>exists z<;>first | exact absurd rfl hx | exact absurd rfl hy | exact absurd rfl hz | skip
 all_goals kernel_rfl
theorem sA(x y z:C5)(hx:x≠.emp)(hy:y≠.emp)(hz:z≠.emp)(pF pG pH:Bool)(cl:List AV)(oS:AO):(AP (List.range 109++GW x y z) (HE x y z pF pG pH cl oS)).map (D5 (ρT 109 (GW x y z)))=(((L pF pG pH (aS x y z) (aS x y z) []).set 108 .edict).set 109 (.list [])).set 111 (D5 (ρT 109 (GW x y z)) oS):=by
 exists x<;>exists y<;>exists z<;>first | exact absurd rfl hx | exact absurd rfl hy | exact absurd rfl hz | skip
 all_goals kernel_rfl
noncomputable def σy(f:Int)(n:Nat):Env':=[(75,.ref 1),(93,.ref 3),(97,.int f),(76,.ref 106),(92,.ref n),(100,.ref (n+1))]
theorem sB(f:Int)(n:Nat):KL (σy f n) (σv f n):=by
 have all:∀{σ₁ σ:Env'},(∀p∈σ₁,AG p.1 σ=some p.2)→KL σ₁ σ:=fun {σ₁ σ} h z u e=>by
  induction σ₁ with
  | nil=>exists e
  | cons p l ih =>
   obtain⟨y,v⟩:=p
   unfold AG at e
   split at e
   ·rename_i q
    exists e
    have:=h _ List.mem_cons_self
    rw [show y=z by simpa using q] at this
    exact this
   ·exact ih (fun p m=>h p (List.mem_cons_of_mem _ m)) e
 refine all fun p m=>?_
 simp only [σy,List.mem_cons,List.not_mem_nil,or_false] at m
 rcases m with rfl | rfl | rfl | rfl | rfl | rfl<;>rfl
theorem xG(x y z:C5)(hx:x≠.emp)(hy:y≠.emp)(hz:z≠.emp)(f:Int):((σy f (nS x y z)).all fun p=>FI (pT 109 (GW x y z)) p.2)=true∧M3 (ρT 109 (GW x y z)) (σy f (nS x y z))=σ0 f:=by
 exists x<;>exists y<;>exists z<;>first | exact absurd rfl hx | exact absurd rfl hy | exact absurd rfl hz | skip
 all_goals exact⟨by kernel_rfl,by kernel_rfl⟩
theorem MQ{p:Nat→Bool}:∀tl:List Int,avPs p (tl.map .int)=true
 | []=>rfl
 | a::tl=>by rw [List.map_cons];unfold avPs;rw [MQ tl];rfl
theorem OH{ρ:Nat→AV}:∀tl:List Int,renVs ρ (tl.map .int)=tl.map .int
 | []=>rfl
 | a::tl=>by rw [List.map_cons];unfold renVs;rw [OH tl];rfl
theorem xH{c:Cx}(x y z:C5)(pF pG pH:Bool)(tl:List Int):BS c ((((L pF pG pH (aS x y z) (aS x y z) []).set 108 .edict).set 109 (.list [])).set 111 (.list (tl.map .int))) (L pF pG pH (aS x y z) (aS x y z) tl):=by
 have e:(((L pF pG pH (aS x y z) (aS x y z) []).set 108 .edict).set 109 (.list [])).set 111 (.list (tl.map .int))=((L pF pG pH (aS x y z) (aS x y z) tl).set 108 .edict).set 109 (.list []):=by kernel_rfl
 rw [e]
 refine BS.trans (BS.set (o2:=oN (aS x y z)) (by rfl) (E4.bag (by show List.Nodup [[70],[71],[72]];decide) rfl)) (BS.set (o2:=DS (aS x y z)) (by rfl) (E4.edict (by show List.Nodup [[70],[71],[72]];decide) rfl))
noncomputable def pR:PS:=.ret (.const (.bool true))
theorem xI(σ:Env')(H:AH):(ev T0 60).s pR σ H=some (.ret (.bool true),σ,H):=by kernel_rfl
section
variable{c:Cx}
theorem TL.post{N:Nm}{κ:Option Nat}{k j:Nat}{t:PT}{b:List GS}{src:DV}{σ:Env'}{H:AH}{P P₁:PostP}{X:AH→Prop}(h:TL c N κ k t b src j σ H P₁ X)(h1:∀f σ' H',P₁ f σ' H'→P f σ' H'):TL c N κ k t b src j σ H P X:=.mk fun R C S F ko mt mb hp I ap ow Q q x =>
 h.run R C S F ko mt mb hp I ap ow Q (fun f σ' H' pp=>q f σ' H' (h1 _ _ _ pp)) x
noncomputable def xJ:PostP:=fun g _ _=>g=.ret (.bool true)
theorem nA(Lk:CP c T0 N0)(Fn:AY c T0 N0)(XK:OI c)(f:Int)(x y z:C5)(hx:x≠.emp)(hy:y≠.emp)(hz:z≠.emp)(cl:List Int)(hl:cl.length≤9):
  BR c N0 (some 0) 200 [.leaf p5,.for (.one 101) p6 WB,.leaf pR] (σw f) (HD x y z (BJ f .f) (BJ f .g) (BJ f .h) (cl.map .int)) xJ (fun _=>False):=by
 refine BR.cons (X₁:=fun _=>False) (BH.leaf Lk Fn (j:=60) (by decide) (xD f _)) (fun σ2 H2 w=>?_) (fun f σ2 H2 w nz=>absurd w.1 nz) fun _ w=>w
 refine Og.BB w fun _ hr1 hr2=>?_;clear w;subst hr1 hr2
 rw [jM]
 have h112:((HD x y z (BJ f .f) (BJ f .g) (BJ f .h) (cl.map .int)++[AO.list []])++[xC])[112]?=some (.list (cl.map .int)):=by
  unfold HD
  rw [List.append_assoc,List.append_assoc,List.getElem?_append_right (by rw [OG];lia),OG];rfl
 have it:=xE f (nS x y z) _ _ (by unfold CF;rw [List.length_map];exact decide_eq_true (by lia)) h112
 have hlen:((HD x y z (BJ f .f) (BJ f .g) (BJ f .h) (cl.map .int)++[AO.list []])++[xC]).length=nS x y z+2:=by rw [List.length_append,List.length_append,jM];rfl
 rw [hlen,←List.map_drop] at it
 have hE:(HE x y z (BJ f .f) (BJ f .g) (BJ f .h) (cl.map .int) (.list ((cl.drop 1).map .int))).length=nS x y z+3:=by
  unfold HE;rw [List.length_append,hlen];rfl
 have ck:=n9 x y z hx hy hz (BJ f .f) (BJ f .g) (BJ f .h) (cl.map .int) (.list ((cl.drop 1).map .int))
 have eq:=sA x y z hx hy hz (BJ f .f) (BJ f .g) (BJ f .h) (cl.map .int) (.list ((cl.drop 1).map .int))
 rw [show oZ (pT 109 (GW x y z)) (ρT 109 (GW x y z)) (.list ((cl.drop 1).map .int))=true from by
  unfold oZ;rw [show KM _ (.list _)=avPs _ _ from rfl,MQ];rfl] at ck
 rw [show D5 (ρT 109 (GW x y z)) (.list ((cl.drop 1).map .int))=.list ((cl.drop 1).map .int) from by
  show AO.list (renVs _ _)=_;rw [OH]] at eq
 unfold xF at ck
 simp only [Bool.and_eq_true,Bool.and_true] at ck
 refine Og.TB ck fun c1 c2 c3 c4 c5=>?_;clear ck
 obtain⟨y1,y2⟩:=xG x y z hx hy hz f
 refine BR.cons (X₁:=fun _=>False) (P₁:=fun g _ _=>g=.next) (BH.for Lk Fn (j':=60) (by decide) it rfl ?_) (fun σ2 H2 w=>?_) (fun f σ2 H2 w nz=>absurd w nz) fun _ w=>w
 ·refine TL.ren (m:=109) (tail:=GW x y z) (o':=111) (σ₁:=σy f (nS x y z)) (H₂:=L (BJ f .f) (BJ f .g) (BJ f .h) (aS x y z) (aS x y z) (cl.drop 1)) ?_ ?_ (of_decide_eq_true c3) ?_ ?_ (sB f _) y1 (by kernel_rfl) ?_ ?_
  ·have:=hE;unfold HE at this;rw [this];have:=Nat.blt_eq.mp c1;lia
  ·intro j m
   have:=hE;unfold HE at this;rw [this]
   exact Nat.blt_eq.mp (List.all_eq_true.mp c2 j m)
  ·intro j m
   exact Nat.le_of_ble_eq_true (List.all_eq_true.mp c4 j m)
  ·intro o m
   exact Bool.and_eq_true_iff.mp (List.all_eq_true.mp c5 o m)
  ·have:=eq;unfold HE at this;rw [this]
   exact xH x y z _ _ _ _
  ·rw [y2]
   refine TL.le (TL.lower (K:=112) (TL.post (wT Lk Fn XK (fun fi=>by exists fi<;>rfl) _ 0 _ rfl) fun g σ' H' w=>w.1) (Nat.zero_le _) ?_) (by decide)
   exact Nat.le_trans (by decide:112≤115) (Nat.le_of_eq (by kernel_rfl))
 ·refine BR.cons (X₁:=fun _=>False) (BH.leaf Lk Fn (j:=60) (by decide) (xI _ _)) (fun σ2 H2 w=>by exists w.1) (fun f σ2 H2 w nz=>w.1) fun _ w=>w
end
theorem nG:T0.gfn 69=some ⟨[95],[],[.leaf p0,.leaf p1,.leaf p2,.leaf p3,.assign 76 65 [.var 75,.var 97],.leaf p5,.for (.one 101) p6 WB,.leaf pR]⟩:=by kernel_rfl
section
variable{c:Cx}
noncomputable def nH(i n:Nat)(x:C5):Bool:=Nat.ble 5 i&&(Nat.blt i (5+n)||(match x with | .no=>true | _=>false))
noncomputable def nI:C5→Bool | .emp=>true | _=>false
noncomputable def p7(x y z:C5):Bool:=nI x||(nI y||(nI z||(nH (sN x) (YO x++(aR y++dC z)).length x&&(nH (sO x y) (YO x++(aR y++dC z)).length y&&(nH (sP x y) (YO x++(aR y++dC z)).length z&&(YO x++(aR y++dC z)).all (KM fun _=>false))))))
theorem jN(x y z:C5):p7 x y z=true:=by exists x<;>exists y<;>exists z<;>rfl
theorem T5{i n:Nat}{x:C5}(h:nH i n x=true):5≤i∧(i<5+n∨x=.no):=by
 obtain⟨h1,h2⟩:=Bool.and_eq_true_iff.mp h
 refine⟨Nat.le_of_ble_eq_true h1,(Bool.or_eq_true_iff.mp h2).imp Nat.blt_eq.mp fun h=>?_⟩
 exists x<;>first | rfl | exists h
theorem T6{x:C5}(h:x≠.emp):nI x=false:=by exists x<;>first | rfl | exact absurd rfl h
theorem xK{x y z:C5}(hx:x≠.emp)(hy:y≠.emp)(hz:z≠.emp):(5≤sN x∧(sN x<5+(YO x++(aR y++dC z)).length∨x=.no))∧(5≤sO x y∧(sO x y<5+(YO x++(aR y++dC z)).length∨y=.no)) ∧
  (5≤sP x y∧(sP x y<5+(YO x++(aR y++dC z)).length∨z=.no))∧(YO x++(aR y++dC z)).all (KM fun _=>false)=true:=by
 have h:=jN x y z
 unfold p7 at h
 rw [T6 hx,T6 hy,T6 hz] at h
 obtain⟨h1,h⟩:=Bool.and_eq_true_iff.mp h
 obtain⟨h2,h⟩:=Bool.and_eq_true_iff.mp h
 obtain⟨h3,h4⟩:=Bool.and_eq_true_iff.mp h
 exact⟨T5 h1,T5 h2,T5 h3,h4⟩
theorem jO{x y z:C5}(h:(YO x++(aR y++dC z)).all (KM fun _=>false)=true)(l:List Int):∀o∈AO.list (l.map .int)::(YO x++(aR y++dC z)),KM (fun _=>false) o=true:=fun o m=>by
 rcases List.mem_cons.mp m with rfl | m
 ·exact MQ l
 ·exact List.all_eq_true.mp h o m
theorem jP(Lk:CP c T0 N0)(Fn:AY c T0 N0)(XK:OI c)(l:List Int)(hl:l.length≤63):
  BR c N0 (some 0) 200 [.leaf p0,.leaf p1,.leaf p2,.leaf p3,.assign 76 65 [.var 75,.var 97],.leaf p5,.for (.one 101) p6 WB,.leaf pR] [(95,.slist (l.map .int))] [] xJ (fun _=>False):=by
 refine BR.cons (X₁:=fun _=>False) (BH.leaf Lk Fn (j:=60) (by decide) (wU l (by lia))) (fun σ2 H2 w=>?_) (fun f σ2 H2 w nz=>absurd w.1 nz) fun _ w=>w
 refine Og.BB w fun _ hr1 hr2=>?_;clear w;subst hr1 hr2
 have hc:(l.take 9).length≤9:=List.length_take_le 9 l
 generalize l.take 9=cl at hc
 refine Og.AI (wV cl hc (.slist (l.map .int))) fun f E1=>?_
 refine BR.cons (X₁:=fun _=>False) (BH.leaf Lk Fn (j:=60) (by decide) E1) (fun σ2 H2 w=>?_) (fun f σ2 H2 w nz=>absurd w.1 nz) fun _ w=>w
 refine Og.BB w fun _ hr1 hr2=>?_;clear w;subst hr1 hr2
 refine BR.cons (X₁:=fun _=>False) (BH.leaf Lk Fn (j:=60) (by decide) (wW _ f _)) (fun σ2 H2 w=>?_) (fun f σ2 H2 w nz=>absurd w.1 nz) fun _ w=>w
 refine Og.BB w fun _ hr1 hr2=>?_;clear w;subst hr1 hr2
 refine BR.weak0 (VP.ren (H:=[AO.list (cl.map .int),.list [],.ns [(517,.ref 4)],.inst 4 2,.edict,.edict]) (sel:=[2,3,4,5,0]) (σ₁:=[(93,.ref 5),(75,.ref 3),(97,.int f),(96,.ref 0)]) (by decide) (show ∀j∈[2,3,4,5,0],j<6 by decide) ?_ ?_ rfl) ?_
 ·intro o m
  have m:o∈[AO.ns [(517,.ref 4)],.inst 4 2,.edict,.edict,.list (cl.map .int)]:=m
  simp only [List.mem_cons,List.not_mem_nil,or_false] at m
  rcases m with rfl | rfl | rfl | rfl | rfl
  ·exact⟨by kernel_rfl,by kernel_rfl⟩
  ·exact⟨by kernel_rfl,by kernel_rfl⟩
  ·exact⟨by kernel_rfl,by kernel_rfl⟩
  ·exact⟨by kernel_rfl,by kernel_rfl⟩
  ·exact⟨MQ cl,by kernel_rfl⟩
 ·intro z u e
  unfold AG at e
  split at e
  ·rename_i q;exists e;rw [←show 93=z by simpa using q];rfl
  ·unfold AG at e
   split at e
   ·rename_i q;exists e;rw [←show 75=z by simpa using q];rfl
   ·unfold AG at e
    split at e
    ·rename_i q;exists e;rw [←show 97=z by simpa using q];rfl
    ·unfold AG at e
     split at e
     ·rename_i q;exists e;rw [←show 96=z by simpa using q];rfl
     ·exists e
 refine BR.weak0 (σ₂:=σs f) (H₂:=Hs .no .no .no (cl.map .int)) (VP.less ?_) ?_
 ·show BS c [AO.ns [(517,.ref 2)],.inst 4 0,.edict,.edict,.list (renVs (ρS [2,3,4,5,0]) (cl.map .int))] _
  rw [OH]
  exact .cons (E4.refl _) (.cons (E4.refl _) (.cons (E4.edict (by decide) rfl) (.cons (E4.edict (by decide) rfl) (.cons (E4.refl _) .nil))))
 refine BR.cons (X₁:=fun _=>False) (BH.leafFor (BH.for Lk Fn (j':=60) (by decide) (src:=.enum [70,71,72]) (H₁:=Hs .no .no .no (cl.map .int)) (by kernel_rfl) rfl (TL.le (YQ Lk Fn f (cl.map .int)) (by decide)))) (fun σ2 H2 w=>?_) (fun f σ2 H2 w nz=>absurd w.1 nz) fun _ w=>w
 obtain⟨_,rfl,x,y,z,hx,hy,hz,rfl⟩:=w
 refine Og.aX (xK hx hy hz) fun x1 x2 x3 x4=>?_
 refine YR Lk Fn XK (by decide) x1 x2 x3 (jO x4 cl) ?_
 exact nA Lk Fn XK f x y z hx hy hz cl hc
theorem sC(Lk:CP c T0 N0)(Fn:AY c T0 N0)(XK:OI c)(l:List Int)(hl:l.length≤63):CG c (some 0) 201 69 [.slist (l.map .int)] [] (fun v _=>v=.bool true) (fun _=>False) :=
 CG.of_body Fn nG rfl (jP Lk Fn XK l hl) fun fl σ' H' w=>by
  exists w
  exact⟨by simp,rfl⟩
end
end Og
end
section
open PySem PySem.W PySem.Calls PyProof.Rows
namespace Og
structure dE(M:Model)(t:Sem Value)(s:Shared)(R:Result→Shared→Prop):Prop where
 two:∃R2 R3:Result→Shared→Prop,wpG M callerA t (fun v s'=>R2 (.ok (.ret v)) s'∧s'.gens=#[]) (fun e s'=>R2 (.error e) s'∧s'.gens=#[]) s ∧
  wpG M callerA t (fun v s'=>R3 (.ok (.ret v)) s'∧s'.gens=#[]) (fun e s'=>R3 (.error e) s'∧s'.gens=#[]) s∧∀r s' s'',R2 r s'→R3 r s''→s''.heap=s'.heap→R r s'
theorem WF:RA ⟨.builtin "claim.caller" {},none,none,[],none⟩:=⟨by decide +kernel,fun x m=>by cases m⟩
theorem WG{prog:Program}{w:World}{t:Sem PySem.Fin}{s:Shared}{R:Result→Shared→Prop}(hz:s.asleep)(h:wpG (model prog w) callerA t (fun fin s'=>∃f,fin=.done f∧(R (.ok f) s'∧s'.gens=#[])) (fun e s'=>R (.error e) s'∧s'.gens=#[]) s):
  ∃n r s' s'',schedN (denote table) prog w n (.single s ⟨t,.builtin "claim.caller" {},default,[]⟩)=.halted (outcomeOf r) s''∧runN (denote table) prog w n s ⟨t,.builtin "claim.caller" {},default,[]⟩=.halted (outcomeOf r) s''∧s''.forget=s'.forget∧R r s'∧s'.gens=#[]:=by
 have bare:∀{s':Shared},s'.gens=#[]→leftWithCleanup s'.gens=false:=fun e=>by rw [e];simp [leftWithCleanup]
 have h2:=Sem.wp_mono (model prog w) ⟨.builtin "claim.caller" {},none,none,[],none⟩ t (post':=Sem.finPost (model prog w) ⟨.builtin "claim.caller" {},none,none,[],none⟩ fun r s'=>(R r s'∧s'.gens=#[])∧leftWithCleanup s'.gens=false)
  (exc':=fun e _ s'=>(R (.error e) s'∧s'.gens=#[])∧leftWithCleanup s'.gens=false) (fun fin p' s' h'=>by
   refine Og.H8 h' fun f hr1 a b=>?_;subst hr1
   exact⟨⟨a,b⟩,bare b⟩) (fun e p' s' h'=>⟨h',bare h'.2⟩) default s (h _ default caller_in WF)
 refine Og.p9 (wp_halts_full (M:=model prog w) hz h2) fun n r s' s'' a b d e=>?_
 exact⟨n,r,s',s'',a,b,d,e.1,e.2⟩
theorem P4{r r':Result}(h:outcomeOf r=outcomeOf r'):r=r':=by
 exists r<;>exists r'<;>first | (exists h;rfl) | exists h
theorem dF{prog:Program}{w:World}{s:Shared}{R:Result→Shared→Prop}{name:PySem.Str}{mg:PySem.Str→Option Value}{f:Value}{vs:List Value}(hz:s.asleep)(hg:s.heap.Ns mainGlobals mg)(hf:mg name=some f)(h:dE (model prog w) (call f vs) s R):
  ∃n r s' s'',schedN (denote table) prog w n (.single s ⟨do match←nsGet mainNs name with
   | some f=>do ret (←PySem.call f vs)
   | none=>unsupported "claim.caller:no-such-global",.builtin "claim.caller" {},default,[]⟩)=.halted (outcomeOf r) s''∧s''.heap.life=s.heap.life∧s''.forget=s'.forget∧R r s'∧s'.gens=#[]:=by
 refine Og.BV h.two fun R2 R3 w2 w3 fit=>?_
 have tree:∀{R:Result→Shared→Prop},wpG (model prog w) callerA (call f vs) (fun v s'=>R (.ok (.ret v)) s'∧s'.gens=#[]) (fun e s'=>R (.error e) s'∧s'.gens=#[]) s →
   wpG (model prog w) callerA (do match←nsGet mainNs name with
    | some f=>do ret (←PySem.call f vs)
    | none=>unsupported "claim.caller:no-such-global") (fun fin s'=>∃f,fin=.done f∧(R (.ok f) s'∧s'.gens=#[])) (fun e s'=>R (.error e) s'∧s'.gens=#[]) s:=fun {R} w =>
  A9 (wpAny_nsGet hg (by
   rw [hf]
   exact AN (CM w (fun v s' x=>AX ⟨_,rfl,x⟩) fun _ _ x=>x)))
 refine Og.sY (WG hz (tree w2)) fun n r s' s'' a b d e g=>?_
 refine Og.sY (WG hz (tree w3)) fun n3 r3 s3 s4 a3 b3 d3 e3 g3=>?_
 obtain⟨u1,u2⟩:=schedN_unique a a3
 exists P4 u1
 subst u2
 refine⟨n,r,s',s'',a,runN_life _ _ _ b,d,fit r s' s3 e e3 ?_,g⟩
 exact(Shared.forget_eq d3).1.symm.trans (Shared.forget_eq d).1
theorem nJ{l:List Value}(h:tZ l=true):l=.ref 84::jX 47:=by
 have key:∀{l m:List Value},all2 (fun v w=>decide (v=w)) l m=true→l=m:=fun {l m} h=>by
  induction M7 (R:=fun v w=>v=w) (fun _ _ h=>of_decide_eq_true h) h with
  | nil=>rfl
  | cons a _ ih=>rw [a,ih (A6 h)]
 exact key h
theorem six{α:Type}{l:List α}(h:l.length=6):∃a b c d e f,l=[a,b,c,d,e,f]:=by
 have nx:∀{l:List α} {n:Nat},l.length=n+1→∃a m,l=a::m∧m.length=n:=fun {l n} h=>by
  induction l using List.casesOn with
  | nil=>exact nomatch h
  | cons a m=>exact⟨a,m,rfl,Nat.succ.inj h⟩
 refine Og.ER (nx h) fun a l1 e1 h=>?_
 refine Og.ER (nx h) fun b l2 e2 h=>?_
 refine Og.ER (nx h) fun c l3 e3 h=>?_
 refine Og.ER (nx h) fun d l4 e4 h=>?_
 refine Og.ER (nx h) fun e l5 e5 h=>?_
 refine Og.ER (nx h) fun f l6 e6 h=>?_
 exact⟨a,b,c,d,e,f,by rw [e1,e2,e3,e4,e5,e6,List.eq_nil_of_length_eq_zero h]⟩
theorem sD{l:List (Option Value)}(h:slB l=true):∃k0 k1 k2 k3 k5,l=[k0,k1,k2,k3,some (.builtin "Exception.__new__"),k5]:=by
 obtain⟨a,b,c,d,e,f,rfl⟩:=six (Nat.eq_of_beq_eq_true (AA h))
 have:=O2 (x:=some e) (of_decide_eq_true (A6 h)) ZF
 exists Option.some.inj this
 exact⟨_,_,_,_,_,rfl⟩
theorem jQ{o:Obj}(h:o9 o=true):∃xc:XC,o=xc.o 84 47 true:=by
 obtain⟨cl,dd,da,sl⟩:=o
 exists QW (of_decide_eq_true (AA h))
 refine Og.AB (AQ (A6 h)) fun d hd h=>?_
 exists f7 hd
 obtain⟨k0,k1,k2,k3,k5,e⟩:=sD (A6 (A6 (A6 h)))
 have m:=nJ (AA h)
 have h1:=(AA (A6 h))
 have h2:=BF (AA (A6 (A6 h)))
 obtain⟨nm,bs,mro,ns,q,hd,sn,sub,ab,col,dl⟩:=d
 exists m
 exists h1
 exists h2
 obtain⟨sl⟩:=sl
 exists e
 exact⟨⟨nm,q,ns,bs,sn,sub,ab,col,dd,k0,k1,k2,k3,k5⟩,rfl⟩
section
variable{h0:HV}{s:Shared}{L:Addr}{mg mb mc:PySem.Str→Option Value}
theorem xL(prog:Program)(w:World)(Z:VG h0)(Y:EI h0 s L mg mb mc)(e:HJ h0=true):OI (O3 prog w Z Y):=by
 unfold HJ at e
 simp only [Bool.and_eq_true] at e
 obtain⟨e1,e2,e3,e4,e5,e6,e7,e8,e9,e10,e11⟩:=e
 refine⟨?_,MH e2,RR e3,RQ e4,K9 e5,K9 e6,fun g hg=>?_,e7,?_,?_⟩
 ·refine Og.AB (AQ e1) fun o ho e1=>?_
  refine Og.AI (jQ e1) fun xc hr1=>?_;subst hr1
  exact⟨xc,Y.le _ _ ho⟩
 ·exact(O4 Y g).trans (II (aA Z hg).1)
 ·exact⟨by show mg JY=none;rw [O4 Y];exact KB e8,by show mb JY=_;rw [Y.blt JY (by decide)];exact VF e9⟩
 ·refine Og.ES (Y1 prog w Z Y (f:=70) (params:=[9,106,66]) (by decide) e10) fun fd body dv F q=>?_
  exact⟨fd,body,dv,F,WX q⟩
theorem jR(prog:Program)(w:World)(Z:VG h0)(Y:EI h0 s L mg mb mc)(e:HJ h0=true)(hgz:s.gens=#[]){a:Addr}{vs:Array Value}{l:List Int}(hl:s.heap.IsList a vs)(hi:IntsAre vs.toList l)(hn:l.length≤63){f:Value}(hf:mg lawS=some f):
  wpG (model prog w) callerA (call f [.ref a]) (fun v s'=>(v=.bool true∧(∀b o,b≠L→s.heap.get? b=some o→s'.heap.get? b=some o)∧s'.os=s.os)∧s'.gens=#[]) (fun _ _=>False) s:=by
 have hf':f=.ref (ZD 69):=by
  have e11:KS (h0.nsMap mainGlobals lawS) (ZD 69)=true:=by
   unfold HJ at e
   simp only [Bool.and_eq_true] at e
   exact e.2.2.2.2.2.2.2.2.2.2
  have:=II e11
  rw [←O4 Y,hf] at this
  exists this;rfl
 subst hf'
 have S:SR (O3 prog w Z Y) s [] []:=⟨fun _ _ _ e=>e,Y.C,rfl,fun i o e=>(by exists e),List.nodup_nil,fun a m=>(by exists m),rfl,rfl⟩
 have y:AJ (O3 prog w Z Y).hs s.heap [] [.slist (l.map .int)] [.ref a]:=.cons (.slist hl (by
  clear hl hn
  obtain⟨vs⟩:=vs
  simp only at hi
  induction hi with
  | nil=>exact .nil
  | cons n t _ ih=>exact .cons (.int n t) ih)) .nil
 refine JD ((sC (qW prog w Z Y) (mB prog w Z Y) (xL prog w Z Y e) l hn).run (A:=callerA) ⟨by decide,by decide,rfl⟩ rfl (fun e m=>by exists m) List.Pairwise.nil S y (fun K e=>by exists e;exact Nat.zero_le _) _ (fun v H' p V s' r' G yv=>?_) fun _ z=>z.elim)
 subst p
 exists yv
 exact⟨⟨rfl,fun b o nb eb=>(G.keep b o nb id eb (by simp)).1 (fun⟨e,m,_⟩=>by exists m),G.sr.os⟩,G.sr.gens.trans hgz⟩
end
theorem jS{prog:Program}{w:World}{s:Shared}{mg mb:PySem.Str→Option Value}(hY:∃h0,(PG h0&&HJ h0)=true∧∀a o,h0.get? a=some o→s.heap.get? a=some o)(G:s.heap.Ns mainGlobals mg)(B:s.heap.Ns builtinsNs mb)(nol:s.heap.NoLimit)(blt:∀x:PySem.Str,x≠"__name__"→mb x=bootBuiltins x)
  (hgz:s.gens=#[]) {a:Addr} {vs:Array Value} {l:List Int} (hl:s.heap.IsList a vs) (hi:IntsAre vs.toList l) (hn:l.length≤63) {f:Value} (hf:mg lawS=some f) :
  dE (model prog w) (call f [.ref a]) s fun r s'=>r=.ok (.ret (.bool true))∧(∀b o,s.heap.get? b=some o→s'.heap.get? b=some o)∧s'.os=s.os∧s'.gens=#[]:=by
 refine Og.AB hY fun h0 e le=>?_;clear hY
 obtain⟨e1,e2⟩:=Bool.and_eq_true_iff.mp e
 obtain⟨Z,main⟩:=O6 e1
 refine Og.AB (id nol) fun mc C _=>?_
 have Y2:EI h0 s 2 mg mb mc:=⟨le,G,B,.inl rfl,C,nol,blt,main⟩
 have Y3:EI h0 s 3 mg mb mg:=⟨le,G,B,.inr rfl,G,nol,blt,main⟩
 have side:∀{L mc} (Y:EI h0 s L mg mb mc),wpG (model prog w) callerA (call f [.ref a]) (fun v s'=>((.ok (.ret v):Result)=.ok (.ret (.bool true))∧(∀b o,b≠L→s.heap.get? b=some o→s'.heap.get? b=some o)∧s'.os=s.os∧s'.gens=#[])∧s'.gens=#[])
   (fun e s'=>((.error e:Result)=.ok (.ret (.bool true))∧(∀b o,b≠L→s.heap.get? b=some o→s'.heap.get? b=some o)∧s'.os=s.os∧s'.gens=#[])∧s'.gens=#[]) s:=fun {L mc} Y =>
  CM (jR prog w Z Y e2 hgz hl hi hn hf) (fun v s' x=>by
   obtain⟨⟨rfl,k,o⟩,g⟩:=x
   exact⟨⟨rfl,k,o,g⟩,g⟩) fun _ _ x=>x.elim
 refine⟨⟨fun r s'=>r=.ok (.ret (.bool true))∧(∀b o,b≠2→s.heap.get? b=some o→s'.heap.get? b=some o)∧s'.os=s.os∧s'.gens=#[],fun r s'=>r=.ok (.ret (.bool true))∧(∀b o,b≠3→s.heap.get? b=some o→s'.heap.get? b=some o)∧s'.os=s.os∧s'.gens=#[],side Y2,side Y3,fun r s' s'' x y q=>⟨x.1,fun b o e=>?_,x.2.2⟩⟩⟩
 by_cases z:b=2
 ·rw [←q];exact y.2.1 b o (fun u=>by rw [z] at u;exact absurd u (by decide)) e
 ·exact x.2.1 b o z e
theorem dE.mono{M:Model}{t:Sem Value}{s:Shared}{R R':Result→Shared→Prop}(h:dE M t s R)(k:∀r s',R r s'→R' r s'):dE M t s R':=by
 refine Og.BV h.two fun R2 R3 a b fit=>?_
 exact⟨⟨R2,R3,a,b,fun r s' s'' x y e=>k _ _ (fit r s' s'' x y e)⟩⟩
set_option tactic.hygienic true in
theorem nK(w:World)(s₀ s₁:Shared)(mg mb:PySem.Str→Option Value)(Y:∃h0,(PG h0&&HJ h0)=true∧∀a o,h0.get? a=some o→s₁.heap.get? a=some o)(g:s₁.heap.Ns mainGlobals mg)(b:s₁.heap.Ns builtinsNs mb)(nol:s₁.heap.NoLimit)
  (blt:∀x:PySem.Str,x≠"__name__"→mb x=bootBuiltins x) (f:Value) (hf:mg lawS=some f) (hgz:s₁.gens=#[])
  (args:List WData) (vals:List Value) (as:List Addr) (hpre:PySem.Challenge.rw_og0114_01.row.claim.pre args=true) (hlay:WData.layableAll args=true) (hrd:ReadsAllW PySem.Challenge.rw_og0114_01.row.records (classAt s₀.heap) s₁.heap vals args as) (hwl:WellAll w.params s₁.heap vals args) (hlo:∀a∈as,(a==sysModules)=false) :
  dE (model PySem.Challenge.rw_og0114_01.row.prog w) (call f vals) s₁ (fun x s'=>GoodW PySem.Challenge.rw_og0114_01.row.claim (classAt s₀.heap) (ExcName.means s₀.heap) args s₁ x s'):=by
 wrow_args hpre hlay hrd hwl hlo
 rename_i l _ _ _ _ _ _ _ a vs _ hL _ _ _ hI _ hn _
 exact(jS Y g b nol blt hgz hL hI (by omega) hf).mono fun r s' x=>by
  refine Og.aX x fun hr1 k o g=>?_;clear x;subst hr1
  exact⟨.inl ⟨.bool true,.bool true,[],rfl,raisesW_false (by wrow_none_raised),.bool true,by wrow_post,fun _=>⟨List.nodup_nil,fun a m=>by cases m⟩⟩,k,o,g⟩
theorem aT{den:Code→Sem PySem.Fin}{tb:String→Option Builtin}{p:Program}{w:World}{n₀:Nat}{ann:Option Value}(hd:den=denote tb):∀{n:Nat} {s s':SharedT} {t:Thread},kU (stepT den p w) (stepOk n₀ ann) n s t=some s'→topRun tb p w n₀ ann n s.abs t=some s'.abs
 | 0,_,_,_,h=>by exists h
 | n+1,s,s',t,h=>by
  unfold kU at h
  unfold topRun
  cases ht:through t with
  | true=>rw [ht] at h;exists h;rfl
  | false =>
   rw [ht] at h
   cases hk:stepOk n₀ ann t with
   | false=>rw [hk] at h;exists h
   | true =>
    rw [hk] at h
    cases hs:stepT den p w s t with
    | none=>rw [hs] at h;exists h
    | some r =>
     obtain⟨s₂,t₂⟩:=r
     rw [hs] at h
     dsimp only
     rw [←hd,stepT_spec hs]
     exact aT hd h
theorem jT{w:World}{os:OsState}{s':SharedT}(h:fM w os=some s'):topRun table QX w (boot_heap w.params).objs.size ((boot_heap w.params).nsMap mainGlobals "__annotations__") 9300 ⟨boot_heap w.params,#[],boot_drawn,boot_toks,os⟩ (topStub QX)=some s'.abs:=by
 unfold fM at h
 rw [←PySem.W.Fast.te10156331382660048174,←PySem.W.Fast.te11892475500146522536,←PySem.W.Fast.te14364793385576792824,←PySem.W.Fast.te6613529449190102663] at h
 rw [←fP,table_eq_tree]
 exact aT rfl h
theorem aU{h:Heap}(e:q7 h=q8):∃ad o fd a b sc,h.nsMap mainGlobals lawS=some (.ref ad)∧h.get? ad=some o∧o.data=.func fd∧QX.theDef lawS=some (a,b,sc)∧a.defaults=[]∧kwWritten? a.kwonlyargs a.kw_defaults=some [] ∧
  (fd.name,fd.qualname,fd.params,fd.body,fd.scope,fd.globals,fd.closure,fd.builtins,fd.defaults,fd.kwdefaults)=(lawS,lawS,a,FuncBody.stmts b,sc,mainNs,[],builtinsNs,Value.none,Value.none):=by
 obtain⟨a,b,sc,hd,h1,h2⟩:=l7
 unfold q8 at e
 rw [hd] at e
 unfold q7 at e
 cases x1:h.nsMap mainGlobals lawS with
 | none=>rw [x1] at e;exists e
 | some v =>
  rw [x1] at e
  cases v with
  | ref ad =>
   dsimp only at e
   cases x2:h.get? ad with
   | none=>rw [x2] at e;exists e
   | some o =>
    rw [x2] at e
    dsimp only at e
    cases x3:o.data with
    | func fd=>rw [x3] at e;exact⟨ad,o,fd,a,b,sc,rfl,x2,x3,hd,h1,h2,Option.some.inj e⟩
    | _=>rw [x3] at e;exists e
  | _=>exists e
structure nL(s:Shared):Prop where
 hv:∃h0,(PG h0&&HJ h0)=true∧∀a o,h0.get? a=some o→s.heap.get? a=some o
 g:s.heap.isNs mainGlobals=true
 b:s.heap.isNs builtinsNs=true
 blt:s.heap.bltView=bltViewBooted
 nol:s.heap.NoLimit
 law:∃a,s.heap.nsMap mainGlobals lawS=some (.ref a)
 gens:s.gens=#[]
theorem dG{s:Shared}{a:Heap}{b:Array GenState}{c:Drawn}{d:Nat}(h:(s.heap,s.gens,s.drawn,s.toks)=(a,b,c,d)):∃os,s=⟨a,b,c,d,os⟩:=by
 obtain⟨h1,h⟩:=Prod.mk.inj h
 obtain⟨h2,h⟩:=Prod.mk.inj h
 obtain⟨h3,h4⟩:=Prod.mk.inj h
 exact⟨s.os,h1▸h2▸h3▸h4▸rfl⟩
theorem aV(w:World):(∃s,AfterRun (opening QX) w s)∧∀s,AfterRun (opening QX) w s→∃s₀,fenceModules? QX s=some s₀∧s₀.gens=#[]∧∃s₁,TopRan QX w s₀ s₁∧s₁.asleep∧isTheDefsW QX s₁.heap lawS∧nL s₁:=by
 obtain⟨s₀,h2,hv⟩:=Option.map_eq_some_iff.mp (boot_open (N:=600) u0 rfl u5 w)
 obtain⟨s,h4,h5⟩:=Option.bind_eq_some_iff.mp h2
 rw [←table_eq_tree] at h4
 have A:=AfterImport.of_importEnds h4
 refine⟨⟨s,A⟩,fun s' hs'=>?_⟩
 obtain rfl:s'=s:=AfterImport.unique hs' A
 have z:s₀.asleep:=Shared.asleep_of_life (fence_lifeW h5) A.life
 obtain⟨os,hv⟩:=dG hv
 subst hv
 obtain⟨sT,hr,e1⟩:=Option.map_eq_some_iff.mp (kW w os)
 obtain⟨_,hr2,e2⟩:=Option.map_eq_some_iff.mp (kX w os)
 exists hr.symm.trans hr2
 obtain⟨_,hr3,e3⟩:=Option.map_eq_some_iff.mp (kY w os)
 exists hr.symm.trans hr3
 obtain⟨e1,e4⟩:=Prod.mk.inj e1
 obtain⟨e4,e5⟩:=Prod.mk.inj e4
 unfold oA at e1
 simp only [Bool.and_eq_true] at e1
 obtain⟨hs,hnb,hgd,hlk,hn,hg,hb,k2,hm,hc,hcn⟩:=e1
 obtain⟨a,l,os',fr⟩:=topRun_spec _ _ _ _ z (jT hr)
 have g0:=kZ w.params
 obtain⟨bm,ob,b1,_,b3,b4,b5,_⟩:=Heap.bmainOk_spec hm
 refine⟨_,h5,rfl,sT.abs,⟨a,l,Shared.rest_eq os',fun b o hb hn=>fr b o (Heap.lt_size hb) (fun q=>hn (.inl q)) (fun q=>hn (.inr (.inl q))) (fun q=>hn (.inr (.inr ((Pin.globalOf_eq g0 _).trans q)))) hb,
  Heap.accountedI_of_ok k2,statics_of_ok hs,Pin.keysAreStrs_of hg,fun x hx=>(Pin.builtinOf_eq hb x).trans (Heap.of_bltView hb e4 x hx),⟨bm,ob,(Pin.globalOf_eq hg _).trans b1,b3,b4,b5⟩,gens_of_done hgd,names_of_bound hnb,laid_of_kept hlk⟩,Shared.asleep_of_life l z,?_,?_⟩
 ·obtain⟨ad,o,fd,a,b,sc,q1,q2,q3,hd,q4,q5,q⟩:=aU e5
  simp only [Prod.mk.injEq] at q
  obtain⟨r1,r2,r3,r4,r5,r6,r7,r8,r9,r10⟩:=q
  exact⟨ad,o,fd,a,b,sc,(Pin.globalOf_eq hg _).trans q1,q2,q3,hd,r1,r2,r3,r4,r5,r6,r7,r8,.inl ⟨q4,r9⟩,[],q5,.inl ⟨rfl,r10⟩⟩
 ·obtain⟨ad,o,fd,a,b,sc,q1,_⟩:=aU e5
  refine⟨⟨sK sT,?_,pY sT⟩,hg,hb,e4,⟨_,.of_isNs hc,Option.isNone_iff_eq_none.mp hcn⟩,⟨ad,q1⟩,Array.eq_empty_of_size_eq_zero (beq_iff_eq.mp hn)⟩
  unfold fO at e2
  simp only [Bool.and_eq_true] at e2 e3
  obtain⟨⟨⟨⟨⟨⟨a1,a2⟩,a3⟩,a4⟩,a5⟩,a6⟩,a7⟩:=e2
  obtain⟨⟨b1,b2⟩,b3⟩:=e3
  unfold PG
  simp only [a1,a2,a3,a4,a5,a6,a7,b1,b2,b3,Bool.and_self]
theorem xM:(frees PySem.Challenge.rw_og0114_01.row.toRowW&&PySem.Challenge.rw_og0114_01.row.within.isEmpty)=true:=by decide +kernel
theorem KK:PySem.Challenge.rw_og0114_01.row.toRowW.promised:=by w_witness2
theorem jU:PySem.Challenge.rw_og0114_01.row.prog.bare:=⟨rfl,rfl,rfl,rfl,rfl,by decide +kernel⟩
theorem dH:PySem.Challenge.rw_og0114_01.row.Holds:=by
 obtain⟨k5,k6⟩:=Bool.and_eq_true_iff.mp xM
 obtain⟨hsame,hu,ha,hap,hm⟩:=frees_parts k5
 have hi:=ident_freeW hu ha hap
 have hwi:PySem.Challenge.rw_og0114_01.row.toRowW.claim.within=[]:=List.isEmpty_iff.mp k6
 refine⟨row_said TY,KK,⟨jU,u6,rfl⟩,KK.witness,fun w=>⟨(aV w).1,fun s' hs'=>cps fun Gq kq=>?_⟩⟩
 obtain⟨s₀,hf,hg0,s,hT,hz,hdef,B⟩:=(aV w).2 s' hs'
 refine kq ⟨s₀,hf,hg0,s,hT,fun n hn=>?_,fun x hx=>(nomatch hx),fun x hx=>(nomatch hx),fun args hpre hlay ord hord=>cps fun Gr kr=>?_⟩
 ·obtain rfl:n=lawS:=by
   have:n∈(if PySem.Challenge.rw_og0114_01.row.pinned then [lawS] else []):=hn
   split at this<;>simp_all
  exact hdef
 ·obtain⟨⟨vs,s₁⟩,hlaid⟩:=Option.isSome_iff_exists.mp (layAllW_isSome (R:=PySem.Challenge.rw_og0114_01.row.records) (P:=w.params) (ord:=ord) (fun c hc=>by exists hc) args PySem.Challenge.rw_og0114_01.row.args s (pre_splitW hpre).1)
  have keeps:=layAllW_keeps _ _ _ hlaid
  have hal:=layAllW_rest _ _ _ hlaid
  obtain⟨as,hrd,hin,hold⟩:=reads_layAllW hord _ _ _ hlaid hlay s₁.heap (fun _ _ e=>e)
  have L:Laid PySem.Challenge.rw_og0114_01.row.records w s s₁ args vs as:=⟨⟨ord,hord,hlaid⟩,hrd,hin,hold,keeps,hal.1.trans B.gens,hal.2.2.1⟩
  obtain⟨a,h1⟩:=B.law
  have g1:s₁.heap.Ns mainGlobals (s.heap.nsMap mainGlobals):=(Heap.Ns.of_isNs B.g).keeps keeps
  obtain⟨h0,hl,le⟩:=B.hv
  have low:sysModules<s.heap.objs.size:=by
   obtain⟨e1,_⟩:=Bool.and_eq_true_iff.mp hl
   obtain⟨Z,_⟩:=O6 e1
   obtain⟨o,e⟩:=Option.isSome_iff_exists.mp Z.mods
   exact Heap.lt_size (le _ _ e)
  obtain⟨mc,nc,ne⟩:=B.nol
  have D:=nK w s s₁ _ _ ⟨h0,hl,fun b o e=>keeps b o (le b o e)⟩ g1 ((Heap.Ns.of_isNs B.b).keeps keeps) ⟨mc,nc.keeps keeps,ne⟩ (fun x hx=>Heap.of_bltView B.b B.blt x hx) (.ref a) h1 L.gens args vs as hpre hlay L.reads L.well (L.low low)
  obtain⟨n,x,s2,s3,hs,hlf,hfo,g,hgz⟩:=dF (Shared.asleep_of_life hal.2.2.2 hz) g1 h1 D
  have z:=(GoodW.toG g).laid (c:=PySem.Challenge.rw_og0114_01.row.toRowW.claim) hsame hwi hi L
  obtain⟨eh,_,_,eo,_⟩:=Shared.forget_eq hfo
  have hcase:=z.1.congr eh
  refine kr ⟨vs,s₁,hlaid,n,_,s3,hs,?_,(fun _ i x hx=>by rw [B.gens] at hx;simp at hx),fun q=>(nomatch q),by rw [hlf.trans hal.2.2.2],Shared.rest_eq (eo.trans z.2.1)⟩
  rcases hcase with ⟨v,rfl,d1,d2,d3,d4,d5⟩ | ⟨e,ob,cls,rfl,d1,d2,d3,d4,d5⟩
  ·exact .inl ⟨v,rfl,d1,d2,d3,fun b o y _=>d4 b o y,d5⟩
  ·exact .inr ⟨e,ob,cls,rfl,d1,d2,d3,d4,fun b o y _=>d5 b o y⟩
theorem law_holds:PySem.Challenge.rw_og0114_01.Holds:=⟨TY,dH⟩
end Og
end
theorem PySem.Challenge.cw_og0114_01_holds : PySem.Challenge.rw_og0114_01.Holds := by
  exact Og.law_holds
