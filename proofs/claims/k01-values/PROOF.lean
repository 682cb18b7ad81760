import PyProof.Rows.All
import Wide.All
import OpenK.AllK
import Wide.FinOn
import HandS.ForMost
import HandS.Flow
import HandS.IsInst
import HandS.Wide
import HandS.WideBits
import HandS.TupAny
import HandS.Zip
import HandS.Style
import HandS.Star
import HandS.RaiseMore
import HandS.EndBits
import KE.KeyNested
import HandS.Lambda
import HandS.HeadHook3
import HandS.Exc
import HandS.WordsExc
import HandS.Defaults
import KE.KDictZip
import PyProof.CollectIter
import PyProof.WalksMore
import PyProof.RulesMatch
import HandS.More
import HandS.DictComp
import HandS.Deep
import HandS.Conv
import HandS.TupMul
import HandS.ReCall
import HandS.Text
import HandS.StrMore
import PyProof.SumAny
import HandS.Property
import HandS.MakeKw
import KE.KStateDown
import HandS.Head0
import HandS.Head1
import HandS.Head2
import HandS.HeadEnd
import HandS.HeadHook1
import HandS.HeadHook2
import KE.GoesMore
import KE.GoesEnum
import PyProof.Rows.SortShellAny
import HandS.Strs
import HandS.MakeKwOnly
import KE.KEqDict
import HandS.Codes
import HandS.OwnEq
import KE.KRevSl
import KE.KDictPairs
import PyProof.P3In
import PyProof.ListStr
import KE.KEqNest
import KE.KExcSuper
import KE.KExcInit
import KE.KSuper
import HandS.ExcField
import HandS.TryMany
import PyProof.ExcBaseAll.LookupError
import PyProof.Rows.FactsExc_KeyError
import HandS.ExcInit
import KE.KExcIs
import PyProof.ExcBaseAll.IndexError
import PyProof.ExcBaseAll.OverflowError
import HandS.HeadWalk
import PyProof.ReprRoads
import HandS.TupLen
import KE.KDictDisplayH
import KE.KDictCopyH
import HandS.SetBool
import KE.KWithOwn
import KE.DataMinMax
import HandS.HotCalls
import PyProof.NeKinds
import HandS.ExcValue
import HandS.DictSubView
import PySem.Challenge.RW_mendedruns_k01_values_keys_and_names
set_option Elab.async false
set_option linter.all false
set_option maxRecDepth 100000
set_option autoImplicit false
set_option maxHeartbeats 4000000
theorem zgz.{u} {α : Type u} {a:α} {l:List α}:(a :: l)[0]?=some a:=List.getElem?_cons_zero
theorem zgs.{u} {α : Type u} {a:α} {i:Nat} {l:List α}:(a :: l)[i+1]?=l[i]? := List.getElem?_cons_succ
theorem zsz.{u} {α : Type u} {x:α} {xs:List α} {a:α}:(x :: xs).set 0 a=a :: xs:=List.set_cons_zero
theorem zss.{u} {α : Type u} {x:α} {xs:List α} {n:Nat} {a:α}:(x :: xs).set (n+1) a=x :: xs.set n a:=List.set_cons_succ
namespace VL
open PySem PySem.Spec PyProof.Rows L2
inductive D where
 | non | bl (b:Bool) | int (i:Int) | str (x:Str) | ty (n:String)
 | tup (xs:List D) | ctp (xs:List D) | lst (xs:List D) | dic (ks:List Key) (vs:List D) | dct (ks:List (List Key)) (vs:List D)
 | obj (c:String) (ns:List Str) (vs:List D)
 | scr (ns:List Int) | ref (n:Nat) | kref (s:String)
inductive Ob where
 | lst (xs:List D)
 | dic (ks:List Key) (vs:List D)
 | dct (ks:List (List Key)) (vs:List D)
 | dnt (ks:List NestedKey) (vs:List D)
 | dlk (ks:List Key) (vs:List D)
 | ins (c:String) (ns:List Str) (vs:List D)
 | tab (q:Str)
 | exn (c:String) (f:Str) (d:D)
 | odk (k:D) (i:Int)
 | dead
abbrev Sto:=List Ob
abbrev Lc:=List (Option D)
inductive R (a:Type) where
 | ok (x:a) (S:Sto)
 | exc (c:String) (fs:List (Str × D)) (S:Sto)
 | bad
def R.bind {a b:Type} (r:R a) (k:a->Sto->R b):R b:=match r with
 | .ok x S=>k x S
 | .exc c fs S=>.exc c fs S
 | .bad=>.bad
@[simp] theorem R.bind_ok {a b:Type} (x:a) (S:Sto) (k:a->Sto->R b):(R.ok x S).bind k=k x S:=rfl
@[simp] theorem R.bind_exc {a b:Type} (c:String) (fs:List (Str × D)) (S:Sto) (k:a->Sto->R b):(R.exc c fs S:R a).bind k=.exc c fs S:=rfl
@[simp] theorem R.bind_bad {a b:Type} (k:a->Sto->R b):(R.bad:R a).bind k=.bad:=rfl
structure Mp where
 l:List (Addr × Bool)
 o:List Addr
 k:List (Nat × Addr)
def Mp.nil:Mp:=⟨[],[],[]⟩
def Un (m:Mp) (a:Addr):Prop:=(∀n:Nat,m.l[n]?≠some (a,true))/\a∉m.o
def Lockable:HO->Prop
 | .dK _=>True
 | .dT _=>True
 | _=>False
def Sm (o:HO) (x:Option HO):Prop:=x=some o∨(Lockable o/\∃od,x=some (.frz od o))
structure Exw (m:Mp) (H:Hp) (m':Mp) (H':Hp):Prop where
 pre:∀(n:Nat) (a:Addr) (b:Bool),m.l[n]?=some (a,b)->∃b',m'.l[n]?=some (a,b')/\(b=false->b'=false)
 own:∀a o,H a=some o->Un m a->Un m' a/\Sm o (H' a)
structure G where
 K:PySem.W.Frag
 ka:String->Option Addr
 cl:String->Option Addr
 J:Mp->Hp->Prop
 st:∀{m:Mp} {H:Hp} {m':Mp} {H':Hp},Exw m H m' H'->J m H->J m' H'
 w:World
def SqK (g:G) (a:Addr) (xs:List V):Prop := ∃(o:Obj) (its:Array Value) (n:Nat),g.K.lookup a=some o/\o.cls=.type "tuple" /\ o.data=.seq its n/\its.size<=sizeLine/\Vals xs its.toList
theorem SqK.sq {g:G} {H:Hp} {a:Addr} {xs:List V} (h:SqK g a xs):SqT g.K H a xs := .inr h
def SqTv (g:G) (m:Mp) (H:Hp) (a:Addr) (xs:List V):Prop:=H a=some (.tup xs)/\Un m a
theorem SqTv.sq {g:G} {m:Mp} {H:Hp} {a:Addr} {xs:List V} (h:SqTv g m H a xs):SqT g.K H a xs := .inl (.inl h.1)
def Scr (g:G) (m:Mp) (H:Hp) (a:Addr) (xs:List V):Prop :=
 (Rd H a (.lst xs)/\Un m a)∨∃(o:Obj) (its:Array Value) (n:Nat),g.K.lookup a=some o/\o.cls=.type "list" /\ o.dict=none/\o.data=.seq its n/\its.size<=sizeLine/\Vals xs its.toList
theorem Scr.sq {g:G} {m:Mp} {H:Hp} {a:Addr} {xs:List V} (h:Scr g m H a xs):SqL g.K H a xs:=by
 rcases h with ⟨h,_⟩ | h
 ·exact .inl h
 ·exact .inr h
mutual
def RV (g:G) (m:Mp) (H:Hp):D->V->Prop
 | .non,v=>v=.non
 | .bl b,v=>v=.bl b
 | .int i,v=>v=.int i
 | .str x,v=>v=.str x
 | .ty n,v=>v=.ty n
 | .tup ds,v=>∃a vs,v=.ref a/\SqTv g m H a vs/\RVs g m H ds vs
 | .ctp ds,v=>∃a vs,v=.ref a/\SqK g a vs/\RVs g m H ds vs
 | .lst ds,v=>∃a vs,v=.ref a/\H a=some (.lst vs)/\Un m a/\RVs g m H ds vs
 | .dic ks ds,v=>∃(a:Addr) (kvs:List (Key × V)),v=.ref a/\Rd H a (.dK kvs)/\Un m a/\kvs.map (·.1)=ks/\RVs g m H ds (kvs.map (·.2))
 | .dct ks ds,v=>∃(a:Addr) (kvs:List (List Key × V)),v=.ref a/\Rd H a (.dT kvs)/\Un m a/\kvs.map (·.1)=ks/\RVs g m H ds (kvs.map (·.2))
 | .obj c ns ds,v=>∃(a C dx:Addr) (fs:List (Str × V)),v=.ref a/\g.cl c=some C/\H a=some (.ins C dx fs)/\Un m a/\fs.map (·.1)=ns/\RVs g m H ds (fs.map (·.2))
 | .scr ns,v=>∃a,v=.ref a/\Scr g m H a (ns.map V.int)
 | .ref n,v=>∃a b,v=.ref a/\m.l[n]?=some (a,b)
 | .kref s,v=>∃a,v=.ref a/\g.ka s=some a
def RVs (g:G) (m:Mp) (H:Hp):List D->List V->Prop
 | [],vs=>vs=[]
 | d :: ds,vs=>∃v r,vs=v :: r/\RV g m H d v/\RVs g m H ds r
end
structure Exk (m:Mp) (H:Hp) (m':Mp) (H':Hp):Prop extends Exw m H m' H' where
 privk:m'.k=m.k
 keepk:∀x∈m.k,H' x.2=H x.2
structure Ext (g:G) (m:Mp) (H:Hp) (m':Mp) (H':Hp):Prop extends Exk m H m' H' where
 priv:m'.o=m.o
 keep:∀a∈m.o,H' a=H a
theorem Ext.of {g:G} {m:Mp} {H:Hp} {m':Mp} {H':Hp} (w:Exw m H m' H') (p:m'.o=m.o) (k:∀a∈m.o,H' a=H a) (pk:m'.k=m.k) (kk:∀x∈m.k,H' x.2=H x.2):Ext g m H m' H':=⟨⟨w,pk,kk⟩,p,k⟩
theorem Sm.refl {o:HO} {x:Option HO} (h:x=some o):Sm o x := .inl h
theorem Sm.trans {o:HO} {x y:Option HO} (h:Sm o x) (k:∀u,x=some u->Sm u y):Sm o y:=by
 rcases h with h | ⟨h0,od,h⟩
 ·exact k o h
 ·rcases k _ h with e | ⟨e0,e⟩
  ·exact .inr ⟨h0,od,e⟩
  ·exact e0.elim
theorem Sm.of {o:HO} {x:Option HO} (h:Sm o x) (n:¬Lockable o):x=some o:=by
 rcases h with h | ⟨h0,_⟩
 ·exact h
 ·exact absurd h0 n
theorem Sm.rd {u:HO} {H H':Hp} {a:Addr} (h:∀o,H a=some o->Sm o (H' a)) (r:Rd H a u) (hu:Lockable u):Rd H' a u:=by
 rcases r with r | ⟨o,r⟩
 ·rcases h _ r with e | ⟨_,od,e⟩
  ·exact .inl e
  ·exact .inr ⟨od,e⟩
 ·exact .inr ⟨o,(h _ r).of fun z=>z⟩
theorem Ext.refl {g:G} {m:Mp} {H:Hp}:Ext g m H m H := .of ⟨fun n a b h=>⟨b,h,fun z=>z⟩,fun a o h u=>⟨u,.inl h⟩⟩ rfl (fun _ _=>rfl) rfl (fun _ _=>rfl)
theorem Exw.trans {m m1 m2:Mp} {H H1 H2:Hp} (a:Exw m H m1 H1) (b:Exw m1 H1 m2 H2):Exw m H m2 H2:=by
 refine ⟨fun n x k h=>?_,fun x o h u=>?_⟩
 ·obtain ⟨k1,e1,f1⟩:=a.pre n x k h
  obtain ⟨k2,e2,f2⟩:=b.pre n x k1 e1
  exact ⟨k2,e2,fun z=>f2 (f1 z)⟩
 ·obtain ⟨u1,s1⟩:=a.own x o h u
  have s2:Sm o (H2 x):=s1.trans fun w hw=>(b.own x w hw u1).2
  rcases s1 with e | ⟨_,od,e⟩
  ·exact ⟨(b.own x _ e u1).1,s2⟩
  ·exact ⟨(b.own x _ e u1).1,s2⟩
theorem Ext.trans {g:G} {m m1 m2:Mp} {H H1 H2:Hp} (a:Ext g m H m1 H1) (b:Ext g m1 H1 m2 H2):Ext g m H m2 H2 :=
 .of (a.toExw.trans b.toExw) (b.priv.trans a.priv) (fun x hx=>(b.keep x (by rw [a.priv]; exact hx)).trans (a.keep x hx)) (b.privk.trans a.privk) (fun x hx=>(b.keepk x (by rw [a.privk]; exact hx)).trans (a.keepk x hx))
theorem Exk.trans {m m1 m2:Mp} {H H1 H2:Hp} (a:Exk m H m1 H1) (b:Exk m1 H1 m2 H2):Exk m H m2 H2 :=
 ⟨a.toExw.trans b.toExw,b.privk.trans a.privk,fun x hx=>(b.keepk x (by rw [a.privk]; exact hx)).trans (a.keepk x hx)⟩
theorem Exw.get {m m':Mp} {H H':Hp} (e:Exw m H m' H') {n:Nat} {a:Addr} {b:Bool} (h:m.l[n]?=some (a,b)):∃b',m'.l[n]?=some (a,b'):=let ⟨b',h1,_⟩:=e.pre n a b h; ⟨b',h1⟩
theorem Exw.tupv {g:G} {m m':Mp} {H H':Hp} (e:Exw m H m' H') {a:Addr} {xs:List V} (h:SqTv g m H a xs):SqTv g m' H' a xs:=by
 obtain ⟨u1,s⟩:=e.own a _ h.1 h.2
 exact ⟨s.of fun z=>z,u1⟩
theorem Exw.scr {g:G} {m m':Mp} {H H':Hp} (e:Exw m H m' H') {a:Addr} {xs:List V} (h:Scr g m H a xs):Scr g m' H' a xs:=by
 rcases h with ⟨h | ⟨o,h⟩,u⟩ | h
 ·obtain ⟨u1,s⟩:=e.own a _ h u
  exact .inl ⟨.inl (s.of fun z=>z),u1⟩
 ·obtain ⟨u1,s⟩:=e.own a _ h u
  exact .inl ⟨.inr ⟨o,s.of fun z=>z⟩,u1⟩
 ·exact .inr h
theorem Exw.rd {m m':Mp} {H H':Hp} (e:Exw m H m' H') {a:Addr} {o:HO} (h:Rd H a o) (u:Un m a) (hl:Lockable o):Rd H' a o/\Un m' a:=by
 refine ⟨Sm.rd (fun o h=>(e.own a o h u).2) h hl,?_⟩
 rcases h with h | ⟨od,h⟩
 ·exact (e.own a _ h u).1
 ·exact (e.own a _ h u).1
mutual
theorem RV.extw {g:G} {m m':Mp} {H H':Hp} (e:Exw m H m' H'):∀{d:D} {v:V},RV g m H d v->RV g m' H' d v
 | .non,_,h=>by unfold RV at h ⊢; exact h
 | .bl b,_,h=>by unfold RV at h ⊢; exact h
 | .int i,_,h=>by unfold RV at h ⊢; exact h
 | .str x,_,h=>by unfold RV at h ⊢; exact h
 | .ty n,_,h=>by unfold RV at h ⊢; exact h
 | .tup ds,v,h=>by
  unfold RV at h ⊢
  obtain ⟨a,vs,rfl,h1,h2⟩:=h
  exact ⟨a,vs,rfl,e.tupv h1,RVs.extw e h2⟩
 | .ctp ds,v,h=>by
  unfold RV at h ⊢
  obtain ⟨a,vs,rfl,h1,h2⟩:=h
  exact ⟨a,vs,rfl,h1,RVs.extw e h2⟩
 | .lst ds,v,h=>by
  unfold RV at h ⊢
  obtain ⟨a,vs,rfl,h1,u,h2⟩:=h
  obtain ⟨u1,s⟩:=e.own a _ h1 u
  exact ⟨a,vs,rfl,s.of fun z=>z,u1,RVs.extw e h2⟩
 | .dic ks ds,v,h=>by
  unfold RV at h ⊢
  obtain ⟨a,kvs,rfl,h1,u,hk,h2⟩:=h
  obtain ⟨h3,u1⟩:=e.rd h1 u trivial
  exact ⟨a,kvs,rfl,h3,u1,hk,RVs.extw e h2⟩
 | .dct ks ds,v,h=>by
  unfold RV at h ⊢
  obtain ⟨a,kvs,rfl,h1,u,hk,h2⟩:=h
  obtain ⟨h3,u1⟩:=e.rd h1 u trivial
  exact ⟨a,kvs,rfl,h3,u1,hk,RVs.extw e h2⟩
 | .obj c ns ds,v,h=>by
  unfold RV at h ⊢
  obtain ⟨a,C,dx,fs,rfl,hC,h1,u,hk,h2⟩:=h
  obtain ⟨u1,s⟩:=e.own a _ h1 u
  exact ⟨a,C,dx,fs,rfl,hC,s.of fun z=>z,u1,hk,RVs.extw e h2⟩
 | .scr ns,v,h=>by
  unfold RV at h ⊢
  obtain ⟨a,rfl,h1⟩:=h
  exact ⟨a,rfl,e.scr h1⟩
 | .ref n,v,h=>by
  unfold RV at h ⊢
  obtain ⟨a,b,rfl,h1⟩:=h
  obtain ⟨b',h2⟩:=e.get h1
  exact ⟨a,b',rfl,h2⟩
 | .kref s,v,h=>by unfold RV at h ⊢; exact h
theorem RVs.extw {g:G} {m m':Mp} {H H':Hp} (e:Exw m H m' H'):∀{ds:List D} {vs:List V},RVs g m H ds vs->RVs g m' H' ds vs
 | [],_,h=>by unfold RVs at h ⊢; exact h
 | d :: ds,vs,h=>by
  unfold RVs at h ⊢
  obtain ⟨v,r,rfl,h1,h2⟩:=h
  exact ⟨v,r,rfl,RV.extw e h1,RVs.extw e h2⟩
end
theorem RV.ext {g:G} {m m':Mp} {H H':Hp} (e:Ext g m H m' H') {d:D} {v:V} (h:RV g m H d v):RV g m' H' d v:=RV.extw e.toExw h
theorem RVs.ext {g:G} {m m':Mp} {H H':Hp} (e:Ext g m H m' H') {ds:List D} {vs:List V} (h:RVs g m H ds vs):RVs g m' H' ds vs:=RVs.extw e.toExw h
section
variable {g:G} {m:Mp} {H:Hp}
theorem RVs.nil:RVs g m H [] []:=by unfold RVs; rfl
theorem RVs.cons {d:D} {v:V} {ds:List D} {vs:List V} (h:RV g m H d v) (t:RVs g m H ds vs):RVs g m H (d :: ds) (v :: vs):=by unfold RVs; exact ⟨v,vs,rfl,h,t⟩
theorem RVs.nil_iff {vs:List V} (h:RVs g m H [] vs):vs=[]:=by unfold RVs at h; exact h
theorem RVs.cons_iff {d:D} {ds:List D} {vs:List V} (h:RVs g m H (d :: ds) vs):∃v r,vs=v :: r/\RV g m H d v/\RVs g m H ds r:=by unfold RVs at h; exact h
theorem RVs.length:∀{ds:List D} {vs:List V},RVs g m H ds vs->vs.length=ds.length
 | [],_,h=>by rw [h.nil_iff]; rfl
 | d :: ds,vs,h=>by
  obtain ⟨v,r,rfl,_,t⟩:=h.cons_iff
  simp [RVs.length t]
theorem RVs.get:∀{ds:List D} {vs:List V},RVs g m H ds vs->∀{i:Nat} {d:D},ds[i]?=some d->∃v,vs[i]?=some v/\RV g m H d v
 | [],_,_,i,d,e=>by simp at e
 | d0 :: ds,vs,h,0,d,e=>by
  obtain ⟨v,r,rfl,h1,_⟩:=h.cons_iff
  simp at e; subst e
  exact ⟨v,rfl,h1⟩
 | d0 :: ds,vs,h,i+1,d,e=>by
  obtain ⟨v,r,rfl,_,t⟩:=h.cons_iff
  simpa using RVs.get t (i:=i) (by simpa using e)
theorem RVs.append:∀{ds es:List D} {vs us:List V},RVs g m H ds vs->RVs g m H es us->RVs g m H (ds++es) (vs++us)
 | [],es,vs,us,h,k=>by rw [h.nil_iff]; exact k
 | d :: ds,es,vs,us,h,k=>by
  obtain ⟨v,r,rfl,h1,t⟩:=h.cons_iff
  exact .cons h1 (RVs.append t k)
theorem RVs.take:∀{ds:List D} {vs:List V} (n:Nat),RVs g m H ds vs->RVs g m H (ds.take n) (vs.take n)
 | _,_,0,_=>by simpa using RVs.nil
 | [],vs,n+1,h=>by rw [h.nil_iff]; simpa using RVs.nil
 | d :: ds,vs,n+1,h=>by
  obtain ⟨v,r,rfl,h1,t⟩:=h.cons_iff
  simpa using RVs.cons h1 (RVs.take n t)
theorem RVs.drop:∀{ds:List D} {vs:List V} (n:Nat),RVs g m H ds vs->RVs g m H (ds.drop n) (vs.drop n)
 | _,_,0,h=>by simpa using h
 | [],vs,n+1,h=>by rw [h.nil_iff]; simpa using RVs.nil
 | d :: ds,vs,n+1,h=>by
  obtain ⟨v,r,rfl,h1,t⟩:=h.cons_iff
  simpa using RVs.drop n t
theorem RVs.set:∀{ds:List D} {vs:List V} (n:Nat) {d:D} {v:V},RVs g m H ds vs->RV g m H d v->RVs g m H (ds.set n d) (vs.set n v)
 | [],vs,n,_,_,h,_=>by rw [h.nil_iff]; simpa using RVs.nil
 | d0 :: ds,vs,0,d,v,h,k=>by
  obtain ⟨v',r,rfl,h1,t⟩:=h.cons_iff
  simpa using RVs.cons k t
 | d0 :: ds,vs,n+1,d,v,h,k=>by
  obtain ⟨v',r,rfl,h1,t⟩:=h.cons_iff
  simpa using RVs.cons h1 (RVs.set n t k)
theorem RVs.rep {ds:List D} {vs:List V} (h:RVs g m H ds vs):∀n:Nat,RVs g m H (List.replicate n ds).flatten (List.replicate n vs).flatten
 | 0=>by simpa using RVs.nil
 | n+1=>by rw [List.replicate_succ,List.replicate_succ,List.flatten_cons,List.flatten_cons]; exact h.append (RVs.rep h n)
theorem zqm {i:Int}:RV g m H (.int i) (.int i):=by unfold RV; rfl
theorem zjk {i:Str}:RV g m H (.str i) (.str i):=by unfold RV; rfl
theorem zqr {i:Bool}:RV g m H (.bl i) (.bl i):=by unfold RV; rfl
theorem rv_non:RV g m H .non .non:=by unfold RV; rfl
theorem zjn {a:Addr} {vs:List V} {ds:List D} (h:SqTv g m H a vs) (r:RVs g m H ds vs):RV g m H (.tup ds) (.ref a):=by unfold RV; exact ⟨a,vs,rfl,h,r⟩
theorem rv_lst {a:Addr} {vs:List V} {ds:List D} (h:H a=some (.lst vs)) (u:Un m a) (r:RVs g m H ds vs):RV g m H (.lst ds) (.ref a):=by unfold RV; exact ⟨a,vs,rfl,h,u,r⟩
theorem rv_dic {a:Addr} {kvs:List (Key × V)} {ks:List Key} {ds:List D} (h:Rd H a (.dK kvs)) (u:Un m a) (hk:kvs.map (·.1)=ks) (r:RVs g m H ds (kvs.map (·.2))):RV g m H (.dic ks ds) (.ref a):=by unfold RV; exact ⟨a,kvs,rfl,h,u,hk,r⟩
theorem rv_ref {a:Addr} {n:Nat} {b:Bool} (h:m.l[n]?=some (a,b)):RV g m H (.ref n) (.ref a):=by unfold RV; exact ⟨a,b,rfl,h⟩
theorem rv_scr {a:Addr} {ns:List Int} (h:Scr g m H a (ns.map V.int)):RV g m H (.scr ns) (.ref a):=by unfold RV; exact ⟨a,rfl,h⟩
theorem zq6 {i:Int} {v:V} (h:RV g m H (.int i) v):v=.int i:=by unfold RV at h; exact h
theorem zqo {i:Str} {v:V} (h:RV g m H (.str i) v):v=.str i:=by unfold RV at h; exact h
theorem of_bl {i:Bool} {v:V} (h:RV g m H (.bl i) v):v=.bl i:=by unfold RV at h; exact h
theorem of_non {v:V} (h:RV g m H .non v):v=.non:=by unfold RV at h; exact h
theorem rv_ctp {a:Addr} {vs:List V} {ds:List D} (h:SqK g a vs) (r:RVs g m H ds vs):RV g m H (.ctp ds) (.ref a):=by unfold RV; exact ⟨a,vs,rfl,h,r⟩
theorem of_ctp {v:V} {ds:List D} (h:RV g m H (.ctp ds) v):∃a vs,v=.ref a/\SqK g a vs/\RVs g m H ds vs:=by unfold RV at h; exact h
theorem zjc {v:V} {ds:List D} (h:RV g m H (.tup ds) v):∃a vs,v=.ref a/\SqTv g m H a vs/\RVs g m H ds vs:=by unfold RV at h; exact h
theorem of_tup {v:V} {ds:List D} (h:RV g m H (.tup ds) v):∃a vs,v=.ref a/\SqT g.K H a vs/\RVs g m H ds vs:=let ⟨a,vs,e,h1,h2⟩:=zjc h; ⟨a,vs,e,h1.sq,h2⟩
theorem of_lst {v:V} {ds:List D} (h:RV g m H (.lst ds) v):∃a vs,v=.ref a/\H a=some (.lst vs)/\Un m a/\RVs g m H ds vs:=by unfold RV at h; exact h
theorem of_dic {v:V} {ks:List Key} {ds:List D} (h:RV g m H (.dic ks ds) v):∃(a:Addr) (kvs:List (Key × V)),v=.ref a/\Rd H a (.dK kvs)/\Un m a/\kvs.map (·.1)=ks/\RVs g m H ds (kvs.map (·.2)):=by unfold RV at h; exact h
theorem of_dct {v:V} {ks:List (List Key)} {ds:List D} (h:RV g m H (.dct ks ds) v):∃(a:Addr) (kvs:List (List Key × V)),v=.ref a/\Rd H a (.dT kvs)/\Un m a/\kvs.map (·.1)=ks/\RVs g m H ds (kvs.map (·.2)):=by unfold RV at h; exact h
theorem of_scr {v:V} {ns:List Int} (h:RV g m H (.scr ns) v):∃a,v=.ref a/\Scr g m H a (ns.map V.int):=by unfold RV at h; exact h
theorem of_ref {v:V} {n:Nat} (h:RV g m H (.ref n) v):∃a b,v=.ref a/\m.l[n]?=some (a,b):=by unfold RV at h; exact h
end
mutual
def dkN:NestedKey->D
 | .none=>.non
 | .num i=>.int i
 | .text x=>.str x
 | .tup ks=>.tup (dkNs ks)
def dkNs:List NestedKey->List D
 | []=>[]
 | k :: ks=>dkN k :: dkNs ks
end
def NsO (w:World) (a:Addr) (xs:List (NestedKey × Addr × Value)):HO := .ext fun h=>(a == sysModules)=false/\∃(o:Obj) (es:Array DictEntry) (ep:Nat),h.get? a=some o/\o.ExactDict/\o.data=.dict es ep/\es.toList=xs.map fun q=>⟨NestedKey.hash w q.1,.ref q.2.1,q.2.2⟩
def ExO (a C dx:Addr):HO := .ext fun h=>∃(oe:Obj) (vs:Array Value),h.get? a=some oe/\oe.cls=.ref C/\oe.dict=some dx/\oe.data=.fields vs
def OdO (a:Addr) (hs:Int) (ep:Nat) (k v:Value):HO := .frz { cls := .type "dict",data := .dict #[⟨hs,k,v⟩] ep } (.ext fun h=>(a == sysModules)=false/\h.get? a=some { cls := .type "dict",data := .dict #[⟨hs,k,v⟩] ep })
def OR (g:G) (m:Mp) (H:Hp):Ob->HO->Prop
 | .lst ds,o=>∃vs,o=.lst vs/\RVs g m H ds vs
 | .dic ks ds,o=>∃kvs:List (Key × V),o=.dK kvs/\kvs.map (·.1)=ks/\RVs g m H ds (kvs.map (·.2))
 | .dct ks ds,o=>∃kvs:List (List Key × V),o=.dT kvs/\kvs.map (·.1)=ks/\RVs g m H ds (kvs.map (·.2))
 | .dnt ks ds,o=>∃(a:Addr) (xs:List (NestedKey × Addr × Value)) (vs:List V),o=NsO g.w a xs/\xs.map (·.1)=ks/\ks.Nodup/\(∀k∈ks,k.depth<=8)/\ks.length<=sizeLine/\RVs g m H (dkNs ks) (xs.map fun q=>V.ref q.2.1)/\Vals vs (xs.map fun q=>q.2.2)/\RVs g m H ds vs
 | .dlk ks ds,o=>∃(od:Obj) (kvs:List (Key × V)),o=.frz od (.dK kvs)/\kvs.map (·.1)=ks/\RVs g m H ds (kvs.map (·.2))
 | .ins c ns ds,o=>∃(C dx:Addr) (fs:List (Str × V)),g.cl c=some C/\o=.ins C dx fs/\fs.map (·.1)=ns/\RVs g m H ds (fs.map (·.2))
 | .tab q,o=>∃ps:Array Value,o=.tbl ps/\TriplesOk ps.toList/\∀(pos:Pos) (cv:Value),codeAmong pos ps.toList=some cv->∃c,cv=.ref c/\H c=some (LamX.CodeO c q)/\Un m c
 | .exn c f d,o=>∃(a C dx:Addr) (v:V),g.cl c=some C/\o=ExO a C dx/\H dx=some (.xd [(f,v)])/\Un m dx/\RV g m H d v
 | .odk k i,o=>∃(a:Addr) (hs:Int) (ep:Nat) (kv:V) (ku:Value) (t:Tok),o=OdO a hs ep ku (.int i t)/\L2.RelV kv ku/\RV g m H k kv
 | .dead,_=>False
theorem OR.extw {g:G} {m m':Mp} {H H':Hp} (e:Exw m H m' H'):∀{ob:Ob} {o:HO},OR g m H ob o->OR g m' H' ob o
 | .lst ds,o,⟨vs,h1,h2⟩=>⟨vs,h1,h2.extw e⟩
 | .dic ks ds,o,⟨vs,h1,h2,h3⟩=>⟨vs,h1,h2,h3.extw e⟩
 | .dct ks ds,o,⟨vs,h1,h2,h3⟩=>⟨vs,h1,h2,h3.extw e⟩
 | .dnt ks ds,o,⟨a,xs,vs,h1,h2,h3,h4,h5,h6,h7,h8⟩=>⟨a,xs,vs,h1,h2,h3,h4,h5,h6.extw e,h7,h8.extw e⟩
 | .dlk ks ds,o,⟨od,vs,h1,h2,h3⟩=>⟨od,vs,h1,h2,h3.extw e⟩
 | .ins c ns ds,o,⟨C,dx,fs,h1,h2,h3,h4⟩=>⟨C,dx,fs,h1,h2,h3,h4.extw e⟩
 | .tab q,o,⟨ps,h1,h2,h3⟩=>⟨ps,h1,h2,fun pos cv hc=>by
  obtain ⟨c,e1,e2,u⟩:=h3 pos cv hc
  obtain ⟨u3,e3⟩:=e.own c _ e2 u
  exact ⟨c,e1,e3.of fun z=>z,u3⟩⟩
 | .exn c f d,o,⟨a,C,dx,v,h1,h2,h3,u,h4⟩=>by
  obtain ⟨u3,e3⟩:=e.own dx _ h3 u
  exact ⟨a,C,dx,v,h1,h2,e3.of fun z=>z,u3,h4.extw e⟩
 | .odk k i,o,⟨a,hs,ep,kv,ku,t,h1,h2,h3⟩=>⟨a,hs,ep,kv,ku,t,h1,h2,h3.extw e⟩
theorem OR.ext {g:G} {m m':Mp} {H H':Hp} (e:Ext g m H m' H') {ob:Ob} {o:HO} (h:OR g m H ob o):OR g m' H' ob o:=h.extw e.toExw
structure Rel (g:G) (m:Mp) (S:Sto) (H:Hp):Prop where
 len:m.l.length=S.length
 inj:∀(n k:Nat) (a:Addr),m.l[n]?=some (a,true)->m.l[k]?=some (a,true)->n=k
 ob:∀(n:Nat) (a:Addr) (ob:Ob),m.l[n]?=some (a,true)->S[n]?=some ob->∃o,H a=some o/\OR g m H ob o
 gone:∀(n:Nat) (a:Addr),m.l[n]?=some (a,false)->S[n]?=some .dead
 prv:∀a∈m.o,(∃o,H a=some o)/\∀n:Nat,m.l[n]?≠some (a,true)
 lks:∀x∈m.k,m.l[x.1]?=some (x.2,true)/\∃ks ds,S[x.1]?=some (.dlk ks ds)
 inv:g.J m H
section
variable {g:G} {m:Mp} {S:Sto} {H:Hp}
theorem Rel.live (r:Rel g m S H) {n:Nat} {a:Addr} {b:Bool} {ob:Ob} (h:m.l[n]?=some (a,b)) (e:S[n]?=some ob) (hd:ob≠.dead):m.l[n]?=some (a,true):=by
 cases b with
 | true=>exact h
 | false=>rw [r.gone n a h] at e; exact absurd (Option.some.inj e).symm hd
theorem Rel.at (r:Rel g m S H) {n:Nat} {v:V} {ob:Ob} (rv:RV g m H (.ref n) v) (e:S[n]?=some ob) (hd:ob≠.dead):∃a o,v=.ref a/\m.l[n]?=some (a,true)/\H a=some o/\OR g m H ob o:=by
 obtain ⟨a,b,rfl,h⟩:=of_ref rv
 have h1:=r.live h e hd
 obtain ⟨o,h2,h3⟩:=r.ob n a ob h1 e
 exact ⟨a,o,rfl,h1,h2,h3⟩
theorem Rel.fresh (r:Rel g m S H) {p:Addr} (hp:H p=none) (n:Nat):m.l[n]?≠some (p,true):=fun e=>by
 have hn:n < S.length:=by rw [← r.len]; exact (List.getElem?_eq_some_iff.mp e).1
 obtain ⟨o,e',_⟩:=r.ob n p S[n] e (List.getElem?_eq_getElem hn)
 rw [hp] at e'; cases e'
theorem Rel.freshO (r:Rel g m S H) {p:Addr} (hp:H p=none):p∉m.o:=fun e=>by
 obtain ⟨⟨o,e'⟩,_⟩:=r.prv p e
 rw [hp] at e'; cases e'
theorem Rel.freshK (r:Rel g m S H) {p:Addr} (hp:H p=none) {x:Nat × Addr} (hx:x∈m.k):x.2≠p:=fun z=>r.fresh hp x.1 (by rw [(r.lks x hx).1,z])
theorem Rel.nlk (r:Rel g m S H) {n:Nat} {a:Addr} {ob:Ob} (h1:m.l[n]?=some (a,true)) (h2:S[n]?=some ob) (hf:∀ks ds,ob≠.dlk ks ds) {x:Nat × Addr} (hx:x∈m.k):x.1≠n/\x.2≠a:=by
 obtain ⟨h3,ks,ds,h4⟩:=r.lks x hx
 have h5:x.1≠n:=fun z=>by rw [z,h2] at h4; exact hf ks ds (Option.some.inj h4)
 exact ⟨h5,fun z=>h5 (r.inj x.1 n a (by rw [h3,z]) h1)⟩
theorem Rel.un (r:Rel g m S H) {p:Addr} (hp:H p=none):Un m p:=⟨r.fresh hp,r.freshO hp⟩
theorem zqn {p:Addr} {o':HO} (r:Rel g m S H) (hp:H p=none):Ext g m H m (upd H p o'):=by
 refine .of ⟨fun n a b h=>⟨b,h,fun z=>z⟩,fun a o h u=>⟨u,?_⟩⟩ rfl (fun a ha=>?_) rfl (fun x hx=>upd_ne (r.freshK hp hx))
 ·refine .inl ?_
  rw [upd_ne (ne_of_none h hp)]
  exact h
 ·rw [upd_ne]
  rintro rfl
  exact r.freshO hp ha
theorem Rel.lay (r:Rel g m S H) {p:Addr} {o:HO} (hp:H p=none):Rel g m S (upd H p o):=by
 have e:Ext g m H m (upd H p o):=zqn r hp
 refine ⟨r.len,r.inj,fun n a ob' h1 h2=>?_,r.gone,fun a ha=>?_,r.lks,g.st e.toExw r.inv⟩
 ·obtain ⟨o',e1,e2⟩:=r.ob n a ob' h1 h2
  refine ⟨o',?_,e2.ext e⟩
  rw [upd_ne (ne_of_none e1 hp)]
  exact e1
 ·obtain ⟨⟨o',e1⟩,e2⟩:=r.prv a ha
  refine ⟨⟨o',?_⟩,e2⟩
  rw [upd_ne (ne_of_none e1 hp)]
  exact e1
def Mp.add (m:Mp) (p:Addr):Mp:=⟨m.l++[(p,true)],m.o,m.k⟩
theorem zj4 {p:Addr} {n:Nat} {x:Addr × Bool} (h:(m.add p).l[n]?=some x):m.l[n]?=some x∨(n=m.l.length/\x=(p,true)):=by
 unfold Mp.add at h
 by_cases hn:n < m.l.length
 ·rw [List.getElem?_append_left hn] at h; exact .inl h
 ·rw [List.getElem?_append_right (by omega),List.getElem?_singleton] at h
  split at h
  ·exact .inr ⟨by omega,(Option.some.inj h).symm⟩
  ·cases h
theorem add_old {p:Addr} {n:Nat} {x:Addr × Bool} (h:m.l[n]?=some x):(m.add p).l[n]?=some x:=by
 unfold Mp.add
 rw [List.getElem?_append_left (List.getElem?_eq_some_iff.mp h).1]
 exact h
theorem ext_new {p:Addr} {o':HO} (r:Rel g m S H) (hp:H p=none):Ext g m H (m.add p) (upd H p o'):=by
 refine .of ⟨fun n a b h=>⟨b,add_old h,fun z=>z⟩,fun a o h u=>⟨⟨fun n z=>?_,u.2⟩,?_⟩⟩ rfl (fun a ha=>?_) rfl (fun x hx=>upd_ne (r.freshK hp hx))
 ·rcases zj4 z with z | ⟨_,z⟩
  ·exact u.1 n z
  ·cases z; rw [hp] at h; cases h
 ·refine .inl ?_
  rw [upd_ne (ne_of_none h hp)]
  exact h
 ·rw [upd_ne]
  rintro rfl
  exact r.freshO hp ha
theorem Rel.last (r:Rel g m S H) {p:Addr}:(m.add p).l[S.length]?=some (p,true):=by rw [← r.len]; unfold Mp.add; simp
theorem Rel.alloc (r:Rel g m S H) {p:Addr} {o:HO} {ob:Ob} (hp:H p=none) (h:OR g m H ob o):Rel g (m.add p) (S++[ob]) (upd H p o):=by
 have e:Ext g m H (m.add p) (upd H p o):=ext_new r hp
 have hl:=r.len
 refine ⟨by simp [hl,Mp.add],fun n k a h1 h2=>?_,fun n a ob' h1 h2=>?_,fun n a h1=>?_,fun a ha=>?_,fun x hx=>⟨add_old (r.lks x hx).1,let ⟨ks,ds,h3⟩:=(r.lks x hx).2; ⟨ks,ds,by rw [List.getElem?_append_left (List.getElem?_eq_some_iff.mp h3).1]; exact h3⟩⟩,g.st e.toExw r.inv⟩
 ·rcases zj4 h1 with h3 | ⟨h3,h4⟩
  ·rcases zj4 h2 with h5 | ⟨h5,h6⟩
   ·exact r.inj n k a h3 h5
   ·have:a=p:=congrArg Prod.fst h6
    subst this
    exact absurd h3 (r.fresh hp n)
  ·have:a=p:=congrArg Prod.fst h4
   subst this
   rcases zj4 h2 with h5 | ⟨h5,h6⟩
   ·exact absurd h5 (r.fresh hp k)
   ·omega
 ·rcases zj4 h1 with h3 | ⟨h3,h4⟩
  ·rw [List.getElem?_append_left (by rw [← hl]; exact (List.getElem?_eq_some_iff.mp h3).1)] at h2
   obtain ⟨o',e1,e2⟩:=r.ob n a ob' h3 h2
   refine ⟨o',?_,e2.ext e⟩
   rw [upd_ne (ne_of_none e1 hp)]
   exact e1
  ·have:a=p:=congrArg Prod.fst h4
   subst this
   rw [h3,hl,List.getElem?_append_right (by omega)] at h2
   simp at h2
   subst h2
   exact ⟨o,upd_same,h.ext e⟩
 ·rcases zj4 h1 with h3 | ⟨h3,h4⟩
  ·rw [List.getElem?_append_left (by rw [← hl]; exact (List.getElem?_eq_some_iff.mp h3).1)]
   exact r.gone n a h3
  ·have:=congrArg Prod.snd h4
   cases this
 ·obtain ⟨⟨o',e1⟩,e2⟩:=r.prv a ha
  refine ⟨⟨o',?_⟩,fun n z=>?_⟩
  ·rw [upd_ne (ne_of_none e1 hp)]
   exact e1
  ·rcases zj4 z with h3 | ⟨h3,h4⟩
   ·exact e2 n h3
   ·have:a=p:=congrArg Prod.fst h4
    subst this
    rw [hp] at e1; cases e1
theorem ext_set {n:Nat} {a:Addr} {ob:Ob} {o':HO} (r:Rel g m S H) (h1:m.l[n]?=some (a,true)) (h2:S[n]?=some ob) (hf:∀ks ds,ob≠.dlk ks ds:=by intro _ _ z; cases z):Ext g m H m (upd H a o'):=by
 refine .of ⟨fun n a b h=>⟨b,h,fun z=>z⟩,fun b o h u=>⟨u,.inl ?_⟩⟩ rfl (fun b hb=>?_) rfl (fun x hx=>upd_ne (r.nlk h1 h2 hf hx).2)
 ·rw [upd_ne]
  ·exact h
  ·rintro rfl
   exact u.1 n h1
 ·rw [upd_ne]
  rintro rfl
  exact (r.prv b hb).2 n h1
theorem Rel.set (r:Rel g m S H) {n:Nat} {a:Addr} {ob ob':Ob} {o':HO} (h1:m.l[n]?=some (a,true)) (h2:S[n]?=some ob) (h:OR g m H ob' o') (hf:∀ks ds,ob≠.dlk ks ds:=by intro _ _ z; cases z):Rel g m (S.set n ob') (upd H a o'):=by
 have e:Ext g m H m (upd H a o'):=ext_set r h1 h2 hf
 refine ⟨by simp [r.len],r.inj,fun k b ob2 h3 h4=>?_,fun k b h3=>?_,fun b hb=>?_,fun x hx=>⟨(r.lks x hx).1,let ⟨ks,ds,h3⟩:=(r.lks x hx).2; ⟨ks,ds,by rw [List.getElem?_set_ne (Ne.symm (r.nlk h1 h2 hf hx).1)]; exact h3⟩⟩,g.st e.toExw r.inv⟩
 ·by_cases hk:k=n
  ·subst hk
   rw [h1] at h3; cases h3
   rw [List.getElem?_set_self (List.getElem?_eq_some_iff.mp h2).1] at h4
   cases h4
   exact ⟨o',upd_same,h.ext e⟩
  ·rw [List.getElem?_set_ne (Ne.symm hk)] at h4
   obtain ⟨o2,e1,e2⟩:=r.ob k b ob2 h3 h4
   refine ⟨o2,?_,e2.ext e⟩
   rw [upd_ne]
   ·exact e1
   ·rintro rfl
    exact hk (r.inj k n _ h3 h1)
 ·have hk:k≠n:=by rintro rfl; rw [h1] at h3; cases h3
  rw [List.getElem?_set_ne (Ne.symm hk)]
  exact r.gone k b h3
 ·obtain ⟨⟨o2,e1⟩,e2⟩:=r.prv b hb
  refine ⟨⟨o2,?_⟩,e2⟩
  rw [upd_ne]
  ·exact e1
  ·rintro rfl
   exact e2 n h1
def Mp.kill (m:Mp) (n:Nat) (a:Addr):Mp:=⟨m.l.set n (a,false),m.o,m.k⟩
theorem zk8 {n k:Nat} {a:Addr} {x:Addr × Bool} (h:(m.kill n a).l[k]?=some x):(k=n/\x=(a,false))∨(k≠n/\m.l[k]?=some x):=by
 unfold Mp.kill at h
 by_cases hk:k=n
 ·subst hk
  rw [List.getElem?_set] at h
  simp at h
  exact .inl ⟨rfl,h.2.symm⟩
 ·rw [List.getElem?_set_ne (Ne.symm hk)] at h
  exact .inr ⟨hk,h⟩
theorem ext_kill {n:Nat} {a:Addr} (h1:m.l[n]?=some (a,true)):Ext g m H (m.kill n a) H:=by
 refine .of ⟨fun k b x h=>?_,fun b o h u=>⟨⟨fun k z=>?_,u.2⟩,.inl h⟩⟩ rfl (fun _ _=>rfl) rfl (fun _ _=>rfl)
 ·by_cases hk:k=n
  ·subst hk
   rw [h1] at h; cases h
   exact ⟨false,by unfold Mp.kill; rw [List.getElem?_set_self (List.getElem?_eq_some_iff.mp h1).1],fun _=>rfl⟩
  ·exact ⟨x,by unfold Mp.kill; rw [List.getElem?_set_ne (Ne.symm hk)]; exact h,fun z=>z⟩
 ·rcases zk8 z with ⟨_,z⟩ | ⟨_,z⟩
  ·cases z
  ·exact u.1 k z
theorem kill_un (r:Rel g m S H) {n:Nat} {a:Addr} (h1:m.l[n]?=some (a,true)):Un (m.kill n a) a:=by
 refine ⟨fun k z=>?_,fun z=>(r.prv a z).2 n h1⟩
 rcases zk8 z with ⟨_,z⟩ | ⟨hk,z⟩
 ·cases z
 ·exact hk (r.inj k n a z h1)
theorem Rel.kill (r:Rel g m S H) {n:Nat} {a:Addr} {ob:Ob} (h1:m.l[n]?=some (a,true)) (h2:S[n]?=some ob) (hf:∀ks ds,ob≠.dlk ks ds:=by intro _ _ z; cases z):Rel g (m.kill n a) (S.set n .dead) H:=by
 have e:Ext g m H (m.kill n a) H:=ext_kill h1
 have hn:n < S.length:=by rw [← r.len]; exact (List.getElem?_eq_some_iff.mp h1).1
 refine ⟨by simp [r.len,Mp.kill],fun k j b h3 h4=>?_,fun k b ob2 h3 h4=>?_,fun k b h3=>?_,fun b hb=>?_,fun x hx=>⟨by unfold Mp.kill; rw [List.getElem?_set_ne (Ne.symm (r.nlk h1 h2 hf hx).1)]; exact (r.lks x hx).1,let ⟨ks,ds,h3⟩:=(r.lks x hx).2; ⟨ks,ds,by rw [List.getElem?_set_ne (Ne.symm (r.nlk h1 h2 hf hx).1)]; exact h3⟩⟩,g.st e.toExw r.inv⟩
 ·rcases zk8 h3 with ⟨_,z⟩ | ⟨_,z⟩
  ·cases z
  ·rcases zk8 h4 with ⟨_,y⟩ | ⟨_,y⟩
   ·cases y
   ·exact r.inj k j b z y
 ·rcases zk8 h3 with ⟨_,z⟩ | ⟨hk,z⟩
  ·cases z
  ·rw [List.getElem?_set_ne (Ne.symm hk)] at h4
   obtain ⟨o,e1,e2⟩:=r.ob k b ob2 z h4
   exact ⟨o,e1,e2.ext e⟩
 ·rcases zk8 h3 with ⟨hk,z⟩ | ⟨hk,z⟩
  ·subst hk
   rw [List.getElem?_set_self hn]
  ·rw [List.getElem?_set_ne (Ne.symm hk)]
   exact r.gone k b z
 ·obtain ⟨e1,e2⟩:=r.prv b hb
  refine ⟨e1,fun k z=>?_⟩
  rcases zk8 z with ⟨_,y⟩ | ⟨_,y⟩
  ·cases y
  ·exact e2 k y
def Mp.hold (m:Mp) (p:Addr):Mp:=⟨m.l,p :: m.o,m.k⟩
theorem hold_un {p a:Addr} (h:Un (m.hold p) a):Un m a/\a≠p:=⟨⟨h.1,fun z=>h.2 (List.mem_cons_of_mem _ z)⟩,fun z=>h.2 (by subst z; exact List.mem_cons_self)⟩
theorem un_hold {p a:Addr} (h:Un m a) (n:a≠p):Un (m.hold p) a:=⟨h.1,fun z=>by
 rcases List.mem_cons.mp z with z | z
 ·exact n z
 ·exact h.2 z⟩
theorem exw_hold {p:Addr} {o:HO} (hp:H p=none):Exw m H (m.hold p) (upd H p o) :=
 ⟨fun n a b h=>⟨b,h,fun z=>z⟩,fun a u h un=>⟨un_hold un (ne_of_none h hp),.inl (by rw [upd_ne (ne_of_none h hp)]; exact h)⟩⟩
theorem exw_held {p:Addr} {o:HO}:Exw (m.hold p) H (m.hold p) (upd H p o) :=
 ⟨fun n a b h=>⟨b,h,fun z=>z⟩,fun a u h un=>⟨un,.inl (by rw [upd_ne (hold_un un).2]; exact h)⟩⟩
theorem exw_free {p:Addr}:Exw (m.hold p) H m H :=
 ⟨fun n a b h=>⟨b,h,fun z=>z⟩,fun a u h un=>⟨(hold_un un).1,.inl h⟩⟩
theorem Rel.hold (r:Rel g m S H) {p:Addr} {o:HO} (hp:H p=none):Rel g (m.hold p) S (upd H p o):=by
 refine ⟨r.len,r.inj,fun n a ob h1 h2=>?_,r.gone,fun a ha=>?_,r.lks,g.st (exw_hold hp) r.inv⟩
 ·obtain ⟨u,e1,e2⟩:=r.ob n a ob h1 h2
  exact ⟨u,by rw [upd_ne (ne_of_none e1 hp)]; exact e1,e2.extw (exw_hold hp)⟩
 ·rcases List.mem_cons.mp ha with z | z
  ·subst z
   exact ⟨⟨o,upd_same⟩,r.fresh hp⟩
  ·obtain ⟨⟨u,e1⟩,e2⟩:=r.prv a z
   exact ⟨⟨u,by rw [upd_ne (ne_of_none e1 hp)]; exact e1⟩,e2⟩
theorem Rel.held {p:Addr} {o:HO} (r:Rel g (m.hold p) S H):Rel g (m.hold p) S (upd H p o):=by
 have hp:∀n:Nat,m.l[n]?≠some (p,true):=(r.prv p List.mem_cons_self).2
 refine ⟨r.len,r.inj,fun n a ob h1 h2=>?_,r.gone,fun a ha=>?_,r.lks,g.st exw_held r.inv⟩
 ·obtain ⟨u,e1,e2⟩:=r.ob n a ob h1 h2
  refine ⟨u,?_,e2.extw exw_held⟩
  rw [upd_ne]
  ·exact e1
  ·rintro rfl
   exact hp n h1
 ·obtain ⟨⟨u,e1⟩,e2⟩:=r.prv a ha
  by_cases z:a=p
  ·subst z; exact ⟨⟨o,upd_same⟩,e2⟩
  ·exact ⟨⟨u,by rw [upd_ne z]; exact e1⟩,e2⟩
theorem Rel.free {p:Addr} (r:Rel g (m.hold p) S H):Rel g m S H :=
 ⟨r.len,r.inj,fun n a ob h1 h2=>let ⟨u,e1,e2⟩:=r.ob n a ob h1 h2; ⟨u,e1,e2.extw exw_free⟩,r.gone,fun a ha=>r.prv a (List.mem_cons_of_mem _ ha),r.lks,g.st exw_free r.inv⟩
theorem Mp.of_hold {m m':Mp} {p:Addr} (ho:m'.o=p :: m.o):m'=(⟨m'.l,m.o,m'.k⟩:Mp).hold p:=by
 cases m'; simp at ho; subst ho; rfl
theorem exw_own {p:Addr}:Exw (m.hold p) H (m.add p) H:=by
 refine ⟨fun n a b h=>⟨b,add_old h,fun z=>z⟩,fun a u h un=>⟨⟨fun n z=>?_,(hold_un un).1.2⟩,.inl h⟩⟩
 rcases zj4 z with z | ⟨_,z⟩
 ·exact un.1 n z
 ·exact (hold_un un).2 (congrArg Prod.fst z)
theorem Rel.own {p:Addr} {o:HO} {ob:Ob} (r:Rel g (m.hold p) S H) (hp:p∉m.o) (h:H p=some o) (ho:OR g (m.hold p) H ob o):Rel g (m.add p) (S++[ob]) H:=by
 have hl:m.l.length=S.length:=r.len
 have hn:∀n:Nat,m.l[n]?≠some (p,true):=(r.prv p List.mem_cons_self).2
 refine ⟨by simp [hl,Mp.add],fun n k a h1 h2=>?_,fun n a ob' h1 h2=>?_,fun n a h1=>?_,fun a ha=>?_,fun x hx=>⟨add_old (r.lks x hx).1,let ⟨ks,ds,h3⟩:=(r.lks x hx).2; ⟨ks,ds,by rw [List.getElem?_append_left (List.getElem?_eq_some_iff.mp h3).1]; exact h3⟩⟩,g.st exw_own r.inv⟩
 ·rcases zj4 h1 with h3 | ⟨h3,h4⟩
  ·rcases zj4 h2 with h5 | ⟨h5,h6⟩
   ·exact r.inj n k a h3 h5
   ·have:a=p:=congrArg Prod.fst h6
    subst this
    exact absurd h3 (hn n)
  ·have:a=p:=congrArg Prod.fst h4
   subst this
   rcases zj4 h2 with h5 | ⟨h5,h6⟩
   ·exact absurd h5 (hn k)
   ·omega
 ·rcases zj4 h1 with h3 | ⟨h3,h4⟩
  ·rw [List.getElem?_append_left (by rw [← hl]; exact (List.getElem?_eq_some_iff.mp h3).1)] at h2
   obtain ⟨o',e1,e2⟩:=r.ob n a ob' h3 h2
   exact ⟨o',e1,e2.extw exw_own⟩
  ·have:a=p:=congrArg Prod.fst h4
   subst this
   rw [h3,hl,List.getElem?_append_right (by omega)] at h2
   simp at h2
   subst h2
   exact ⟨o,h,ho.extw exw_own⟩
 ·rcases zj4 h1 with h3 | ⟨h3,h4⟩
  ·rw [List.getElem?_append_left (by rw [← hl]; exact (List.getElem?_eq_some_iff.mp h3).1)]
   exact r.gone n a h3
  ·have:=congrArg Prod.snd h4
   cases this
 ·obtain ⟨e1,e2⟩:=r.prv a (List.mem_cons_of_mem _ ha)
  refine ⟨e1,fun n z=>?_⟩
  rcases zj4 z with h3 | ⟨h3,h4⟩
  ·exact e2 n h3
  ·have:a=p:=congrArg Prod.fst h4
   subst this
   exact hp ha
end
end VL
namespace VL
open PySem PySem.Spec PyProof.Rows L2
def fobs (K:PySem.W.Frag) (a:Addr):He.FnW:=(K.lookup a).bind fun o=>match o.data with
 | .func q=>some (q.name,q.qualname,q.params,q.body,q.scope,q.globals,q.closure,q.builtins)
 | _=>none
def fokB (K:PySem.W.Frag) (a:Addr) (d:He.DefD):Bool:=PySem.W.keepIn K (.ref a) && (match (K.lookup a).map (fun (o:Obj)=>o.data) with
 | some (.func q)=>(PySem.W.codeIn K q.code d.qual && He.dflB K q.defaults (d.dvs K)) && He.kwdB K q.kwdefaults (d.kws K)
 | _=>false)
def refsH (o:Obj):List Addr:=match o.data with
 | .seq its _=>its.toList.flatMap He.refV
 | .dict es _=>es.toList.flatMap fun e=>He.refV e.val
 | .func q=>He.refV q.code++(He.refV q.defaults++(He.refV q.kwdefaults++q.closure.map (·.2)))
 | .cls c=>[c.ns]
 | .fields vs=>(match o.cls with
  | .type t=>if t = "property" then vs.toList.flatMap He.refV else []
  | _=>[])
 | _=>[]
def frontH (g:Addr->Option Obj):Nat->List Addr->List Addr
 | 0,as=>as
 | n+1,as=>as++frontH g n (as.flatMap fun a=>match g a with
  | some o=>refsH o
  | none=>[])
abbrev AtD:Type:=(PySem.W.Frag->Addr) × He.DefD
abbrev AlH:Type:=Bool × List He.FnW × List (Option (List (Option (Str × Int))))
def obsH (fa:List He.Fa) (fn:List AtD) (ts:List (Str × List Str)) (ex:PySem.W.Frag->Bool) (K:PySem.W.Frag):AlH :=
 ((fa.all fun f=>f.ok K) && ((fn.all fun p=>fokB K (p.1 K) p.2) && ex K),fn.map fun p=>fobs K (p.1 K),ts.map fun t=>He.dicW K (He.ga K t.1))
def valH (fn:List AtD) (ts:List (Str × List Str)) (w:World):AlH:=(true,fn.map fun p=>p.2.val,ts.map fun t=>some (He.keysIn w.params t.2))
def SaysH (fa:List He.Fa) (fn:List AtD) (ts:List (Str × List Str)) (ex:PySem.W.Frag->Bool) (w:World) (K:PySem.W.Frag):Prop:=obsH fa fn ts ex K=valH fn ts w
def obsHG (n:Nat) (fa:List He.Fa) (fn:List AtD) (ts:List (Str × List Str)) (ex:PySem.W.Frag->Bool) (g:Addr->Option Obj):AlH:=obsH fa fn ts ex (He.frG g (frontH g n [mainGlobals,cStatics]++[sysModules]))
def hookH (n:Nat) (fa:List He.Fa) (fn:List AtD) (ts:List (Str × List Str)) (ex:PySem.W.Frag->Bool):PySem.W.Hook where
 α := AlH
 obs:=fun s=>obsHG n fa fn ts ex s.heap.get?
 val:=fun w=>valH fn ts w
 says:=fun w h=>∃K:PySem.W.Frag,K.In h/\SaysH fa fn ts ex w K
 of:=fun _ _ e=>⟨_,He.frG_in,e⟩
 keeps:=fun _ _ _ ⟨K,hK,c⟩ k=>⟨K,PySem.W.Frag.In.keeps hK k,c⟩
theorem obsHG_eq {n:Nat} {fa:List He.Fa} {fn:List AtD} {ts:List (Str × List Str)} {ex:PySem.W.Frag->Bool} {g:Addr->Option Obj} {s:Shared} (h:∀a,g a=s.heap.get? a):obsHG n fa fn ts ex g=(hookH n fa fn ts ex).obs s:=by
 have e:g=s.heap.get? := funext h
 rw [e] <;> rfl
def strs?:List D->Option (List Str)
 | []=>some []
 | .str x :: r=>(strs? r).map (x :: ·)
 | _=>none
def dB (K:PySem.W.Frag) (d:D) (u:Value):Bool:=match d,u with
 | .str x,.str y _=>decide (x=y)
 | .int i,.int j _=>decide (i=j)
 | .ctp xs,.ref b=>(match strs? xs,K.lookup b with
  | some ss,some ⟨.type c,_,.seq its _,_⟩=>(decide (c = "tuple") && decide (its.size<=sizeLine)) && He.relAll (ss.map V.str) its.toList
  | _,_=>false)
 | _,_=>false
def tabB (K:PySem.W.Frag) (x:Str) (ks:List Str) (ds:List D):Bool:=decide (ks.length=ds.length) && (ks.zip ds).all fun p=>match PySem.W.nsIn K (He.ga K x) p.1 with
 | some (some u)=>dB K p.2 u
 | _=>false
def clsB (K:PySem.W.Frag) (x:Str) (fl:List Str):Bool:=((He.Fa.glo x).ok K && (He.Fa.cls x).ok K) && fl.all fun f=>(He.Fa.noat x f).ok K
def mAd (x m:Str) (K:PySem.W.Frag):Addr:=He.ma K (He.ga K x) m
def gAd (x:Str) (K:PySem.W.Frag):Addr:=He.ga K x
def pAd (x m:Str) (K:PySem.W.Frag):Addr:=match PySem.W.recIn K (mAd x m K) "property" with
 | some (.ref g :: _)=>g
 | _=>0
def propB (K:PySem.W.Frag) (x m:Str):Bool:=(He.eqO (PySem.W.findIn K (.ref (He.ga K x)) m) (some (some (.ref (mAd x m K)))) && He.eqO (PySem.W.specialIn K (.ref (mAd x m K)) "__get__") (some (some (.builtin "property.__get__")))) &&
 (decide (PySem.W.takesIn K (.ref (mAd x m K))=some true) && (match PySem.W.recIn K (mAd x m K) "property" with
  | some (.ref _ :: _)=>true
  | _=>false))
def nilB (K:PySem.W.Frag) (a:Addr):Bool:=match K.lookup a with
 | some ⟨.type c,_,.seq its _,_⟩=>decide (c = "tuple") && decide (its.size=0)
 | _=>false
def RunOb (r:PySem.W.OpenRow) {α : Type} (f:PySem.W.SharedT->α) (M:Nat) (v:α) (w:World):Prop := ∀os:OsState,(HandSHeadRun.endF (HandSHeadRun.stepQ (HandSHeadRun.denQ HandSHeadRun.tabQ) r.prog w) M r.prog w os).map f=some v
theorem RunOb.map {r:PySem.W.OpenRow} {α β : Type} {f:PySem.W.SharedT->α} {g:PySem.W.SharedT->β} {M:Nat} {v:α} {u:β} {w:World} (h:RunOb r f M v w) (k:∀s,f s=v->g s=u):RunOb r g M u w:=by
 intro os
 have a:=h os
 cases e:HandSHeadRun.endF (HandSHeadRun.stepQ (HandSHeadRun.denQ HandSHeadRun.tabQ) r.prog w) M r.prog w os with
 | none=>rw [e] at a; cases a
 | some s=>rw [e] at a; exact congrArg some (k s (Option.some.inj a))
theorem RunOb.and {r:PySem.W.OpenRow} {α β : Type} {f:PySem.W.SharedT->α} {g:PySem.W.SharedT->β} {M:Nat} {v:α} {u:β} {w:World} (h1:RunOb r f M v w) (h2:RunOb r g M u w):RunOb r (fun s=>(f s,g s)) M (v,u) w:=by
 intro os
 have a:=h1 os
 have b:=h2 os
 cases e:HandSHeadRun.endF (HandSHeadRun.stepQ (HandSHeadRun.denQ HandSHeadRun.tabQ) r.prog w) M r.prog w os with
 | none=>rw [e] at a; cases a
 | some s =>
  rw [e] at a b
  exact congrArg some (Prod.ext (Option.some.inj a) (Option.some.inj b))
def RunLS (r:PySem.W.OpenRow) (q:Program) (M:Nat) (loose:List Str) (w:World):Prop:=RunOb r (fun s=>(HandSHeadRun.looksF r.prog (PySem.W.boot_heap w.params) s.abs,HandSHeadRun.seenQ q loose (importedModules r.prog.main.body) (fun s=>PySem.W.xlAt q [] s && PySem.W.recOk r.toRowW.records s) s.abs)) M (true,PySem.W.openGood q loose) w
theorem runEq_of {r:PySem.W.OpenRow} {q:Program} {H:PySem.W.Hook} {ob:PySem.W.SharedT->H.α} {M:Nat} {loose:List Str} {w:World} (h1:RunLS r q M loose w) (h3:RunOb r ob M (H.val w) w):HandSHeadRun.RunEq r q H ob M loose w:=(RunOb.and h1 h3).map fun s e=>by
 injection e with e1 e2
 injection e1 with e3 e4
 rw [e2,e3,e4]
def obsX (n:Nat) (fa:List He.Fa) (fn:List AtD) (ts:List (Str × List Str)) (exs:PySem.W.Frag->List Bool) (s:PySem.W.SharedT):AlH:=obsHG n fa fn ts (fun K=>(exs K).all id) (HandSHeadRun.getT s)
def fileB (vs:Array Value) (file:Str):Bool:=match vs.toList with
 | _ :: _ :: Value.str f' _ :: _=>decide (file=f')
 | _=>false
def xfnB (K:PySem.W.Frag) (file:Str) (C:Addr) (f p:Str) (fd:FuncData):Bool:=match fd.body,fd.params,fd.code,fd.closure with
 | .stmts [.Expr (.Call (.Attribute (.Call (.Name s0 p0) [] [] p1) a1 p2) [.Constant (.str t) j p3] [] p4) p5,.Assign [.Attribute (.Name s6 p6) f' p7] (.Name q8 p8) p9],⟨[],[⟨z1,none,_⟩,⟨z2,none,_⟩],none,[],[],none,[]⟩,.ref cda,[(z3,cc)] =>
  ((((decide (s0 = "super") && decide (a1 = "__init__")) && (decide (s6 = "self") && decide (f'=f))) && ((decide (q8=p) && decide (z1 = "self")) && (decide (z2=p) && decide (z3 = "__class__")))) &&
   (((fd.defaults == .none) && decide (fd.globals=mainGlobals)) && (decide (fd.builtins=builtinsNs) && (p2.endLine == p4.line)))) &&
  ((((decide (fd.scope.kind=.function) && !fd.scope.isCoroutine) && (!fd.scope.isGenerator && fd.scope.names.all fun x=>!decide (x.2=.cell))) && ((decide (fd.scope.names.lookup ("super" : Str)=some .globalImplicit) && decide (fd.scope.names.lookup ("__class__" : Str)=some .free)) && (decide (fd.scope.names.lookup ("self" : Str)=some .local) && decide (fd.scope.names.lookup p=some .local)))) &&
   ((PySem.W.codeIn K (.ref cda) fd.qualname && (match K.lookup cda with
    | some ⟨_,_,.fields vs,_⟩=>fileB vs file
    | _=>false)) && (match K.lookup cc with
    | some ⟨_,_,.cell (some (.ref C')),_⟩=>decide (C'=C)
    | _=>false)))
 | _,_,_,_=>false
def xfB (K:PySem.W.Frag) (file:Str) (C:Addr) (f p:Str) (B newId i:String) (bm:List Value):Bool:=match PySem.W.findIn K (.ref C) "__init__" with
 | some (some (.ref fI))=>(PySem.W.isFn K (.ref fI) && (match K.lookup fI with
  | some ⟨_,_,.func fd,_⟩=>xfnB K file C f p fd
  | _=>false)) &&
  ((((((PySem.W.clsIn K C).isSome && decide (PySem.W.mroIn K C (.ref C)=some true)) && (PySem.W.excInitIn K C bm newId && He.eqO (PySem.W.ks_superIn K C C "__init__") (some (some (.builtin i))))) &&
   ((decide (PySem.W.subIn K (.ref C) (.type B)=some true) && He.eqO (PySem.W.nsIn K cStatics "thirdparty.any") (some none)) && (He.eqO (PySem.W.findIn K (.ref C) "__setattr__") (some (some (.builtin "object.__setattr__"))) && PySem.W.excOver K C bm))) &&
   (He.eqO (PySem.W.takerIn K C f) (some none) && PySem.W.hasDictIn K C)))
 | _=>false
def xtB (K:PySem.W.Frag) (file:Str) (x f p:Str) (B newId i:String) (bm:List Value):Bool:=(He.Fa.glo x).ok K && ((PySem.W.keepIn K (.ref (He.ga K x)) && decide (PySem.W.subIn K (.ref (He.ga K x)) (.type "BaseException")=some true)) && (decide (PySem.W.typeIn K (.ref (He.ga K x))=some (.type "type")) && xfB K file (He.ga K x) f p B newId i bm))
def xhB (K:PySem.W.Frag) (x f:Str):Bool:=((xfB' K x && (PySem.W.clsIn K (He.ga K x)).isSome) && (He.eqO (PySem.W.findIn K (.ref (He.ga K x)) "__class__") (some (some (.builtin "object.__class__"))) && He.eqO (PySem.W.specialIn K (.builtin "object.__class__") "__get__") (some (some (.builtin "getset_descriptor.__get__"))))) &&
 ((decide (PySem.W.takesIn K (.builtin "object.__class__")=some true) && decide (PySem.W.mroIn K (He.ga K x) (.type "object")=some true)) && He.eqO (PySem.W.findIn K (.ref (He.ga K x)) f) (some none))
where xfB' (K:PySem.W.Frag) (x:Str):Bool:=L2.xfB K (He.ga K x)
def kxB (K:PySem.W.Frag) (x x2:Str) (b:Bool):Bool:=(He.Fa.glo x2).ok K && decide (PySem.W.kitOne K (.ref (He.ga K x)) (.ref (He.ga K x2))=some b)
def kwB (K:PySem.W.Frag) (xq:List (String × Str)) (tbl:List (String × Bool)) (v:Value):Bool:=xq.all fun q=>decide (PySem.W.kitOne K (.ref (He.ga K q.2)) v=tbl.lookup q.1)
def kvB (K:PySem.W.Frag) (xq:List (String × Str)) (tbl:List (String × Bool)) (x2:Str):Bool:=(He.Fa.glo x2).ok K && kwB K xq tbl (.ref (He.ga K x2))
end VL
namespace K01
open PySem PySem.Spec PyProof.Rows L2 VL
end K01
namespace K01
open PySem PySem.Spec PyProof.Rows L2 VL
def topS (i:Nat):Stmt:=PySem.Challenge.pw_mendedruns_k01_values_keys_and_names.main.body.getD i (.Pass ⟨0,0,0,0⟩)
abbrev s_is_word:Stmt:=topS 9
abbrev N_is_word:List Str:=["value", "signs", "least", "most", "sign"]
theorem sc_is_word:FnScope N_is_word ["value", "signs", "least", "most"] (defScope s_is_word):=⟨rfl,rfl,rfl,by decide +kernel,rfl,by decide +kernel,by decide +kernel⟩
abbrev s_is_key:Stmt:=topS 14
abbrev N_is_key:List Str:=["value"]
theorem sc_is_key:FnScope N_is_key ["value"] (defScope s_is_key):=⟨rfl,rfl,rfl,by decide +kernel,rfl,by decide +kernel,by decide +kernel⟩
abbrev s_is_text:Stmt:=topS 10
abbrev N_is_text:List Str:=["value"]
theorem sc_is_text:FnScope N_is_text ["value"] (defScope s_is_text):=⟨rfl,rfl,rfl,by decide +kernel,rfl,by decide +kernel,by decide +kernel⟩
abbrev s_is_integer:Stmt:=topS 8
abbrev N_is_integer:List Str:=["value"]
theorem sc_is_integer:FnScope N_is_integer ["value"] (defScope s_is_integer):=⟨rfl,rfl,rfl,by decide +kernel,rfl,by decide +kernel,by decide +kernel⟩
abbrev s_is_within_levels:Stmt:=topS 11
abbrev zju:List Str:=["value", "levels", "item"]
theorem sc_is_within_levels:FnScope zju ["value", "levels"] (defScope s_is_within_levels):=⟨rfl,rfl,rfl,by decide +kernel,rfl,by decide +kernel,by decide +kernel⟩
abbrev s_size_within:Stmt:=topS 12
abbrev N_size_within:List Str:=["value", "item"]
theorem sc_size_within:FnScope N_size_within ["value"] (defScope s_size_within):=⟨rfl,rfl,rfl,by decide +kernel,rfl,by decide +kernel,by decide +kernel⟩
abbrev s_is_value:Stmt:=topS 13
abbrev N_is_value:List Str:=["value"]
theorem sc_is_value:FnScope N_is_value ["value"] (defScope s_is_value):=⟨rfl,rfl,rfl,by decide +kernel,rfl,by decide +kernel,by decide +kernel⟩
abbrev s_is_state:Stmt:=topS 16
abbrev N_is_state:List Str:=["value", "key", "worth"]
theorem sc_is_state:FnScope N_is_state ["value"] (defScope s_is_state):=⟨rfl,rfl,rfl,by decide +kernel,rfl,by decide +kernel,by decide +kernel⟩
abbrev s_text:Stmt:=topS 21
abbrev N_text:List Str:=["_law_thing_here", "_law_least", "_law_sign"]
theorem sc_text:FnScope N_text ["_law_thing_here", "_law_least"] (defScope s_text):=⟨rfl,rfl,rfl,by decide +kernel,rfl,by decide +kernel,by decide +kernel⟩
abbrev s_value:Stmt:=topS 20
abbrev N_value:List Str:=["_law_thing_here", "_law_levels", "_law_one"]
theorem sc_value:FnScope N_value ["_law_thing_here", "_law_levels"] (defScope s_value):=⟨rfl,rfl,rfl,by decide +kernel,rfl,by decide +kernel,by decide +kernel⟩
abbrev s_count:Stmt:=topS 24
abbrev N_count:List Str:=["_law_thing_here", "_law_one"]
theorem sc_count:FnScope N_count ["_law_thing_here"] (defScope s_count):=⟨rfl,rfl,rfl,by decide +kernel,rfl,by decide +kernel,by decide +kernel⟩
abbrev s_good:Stmt:=topS 25
abbrev N_good:List Str:=["_law_thing_here"]
theorem sc_good:FnScope N_good ["_law_thing_here"] (defScope s_good):=⟨rfl,rfl,rfl,by decide +kernel,rfl,by decide +kernel,by decide +kernel⟩
abbrev s_is_name:Stmt:=topS 15
abbrev N_is_name:List Str:=["value"]
theorem sc_is_name:FnScope N_is_name ["value"] (defScope s_is_name):=⟨rfl,rfl,rfl,by decide +kernel,rfl,by decide +kernel,by decide +kernel⟩
abbrev s_name:Stmt:=topS 22
abbrev N_name:List Str:=["_law_thing_here", "_law_sign"]
theorem sc_name:FnScope N_name ["_law_thing_here"] (defScope s_name):=⟨rfl,rfl,rfl,by decide +kernel,rfl,by decide +kernel,by decide +kernel⟩
abbrev s_holds : Stmt := topS 26
abbrev N_holds : List Str := ["_law_thing_here", "_law_pairs"]
theorem sc_holds : FnScope N_holds ["_law_thing_here"] (defScope s_holds) := ⟨rfl, rfl, rfl, by decide +kernel, rfl, by decide +kernel, by decide +kernel⟩
abbrev s_draw:Stmt:=topS 19
abbrev N_draw:List Str:=["_law_pool_here", "_law_many", "_law_found"]
theorem sc_draw:FnScope N_draw ["_law_pool_here", "_law_many"] (defScope s_draw):=⟨rfl,rfl,rfl,by decide +kernel,rfl,by decide +kernel,by decide +kernel⟩
abbrev s_thing:Stmt:=topS 23
abbrev N_thing:List Str:=["_law_pool_here", "_law_depth", "_law_choice", "_law_many", "_law_turn"]
theorem sc_thing:FnScope N_thing ["_law_pool_here", "_law_depth"] (defScope s_thing):=⟨rfl,rfl,rfl,by decide +kernel,rfl,by decide +kernel,by decide +kernel⟩
abbrev s_pool:Stmt:=topS 18
abbrev N_pool:List Str:=["_law_script", "_law_k", "_law_cell", "_law_great", "_law_mixed"]
theorem sc_pool:FnScope N_pool ["_law_script", "_law_k"] (defScope s_pool):=⟨rfl,rfl,rfl,by decide +kernel,rfl,by decide +kernel,by decide +kernel⟩
abbrev s_law:Stmt:=topS 27
abbrev N_law:List Str:=["_law_script", "_law_deep", "_law_levels", "_law_many", "_law_some", "_law_k", "_law_pool_here", "_law_turn", "_law_thing_here"]
theorem sc_law:FnScope N_law ["_law_script"] (defScope s_law):=⟨rfl,rfl,rfl,by decide +kernel,rfl,by decide +kernel,by decide +kernel⟩
end K01
namespace K01.Hd
open PySem PySem.Spec PyProof.Rows L2 VL
def d_0:He.DefD:=⟨("law",none), "is_word", "is_word",defArgs s_is_word,defBody s_is_word,defScope s_is_word,[],[]⟩
def d_1:He.DefD:=⟨("law",none), "is_key", "is_key",defArgs s_is_key,defBody s_is_key,defScope s_is_key,[],[]⟩
def d_2:He.DefD:=⟨("law",none), "is_text", "is_text",defArgs s_is_text,defBody s_is_text,defScope s_is_text,[],[]⟩
def d_3:He.DefD:=⟨("law",none), "is_integer", "is_integer",defArgs s_is_integer,defBody s_is_integer,defScope s_is_integer,[],[]⟩
def d_4:He.DefD:=⟨("law",none), "is_within_levels", "is_within_levels",defArgs s_is_within_levels,defBody s_is_within_levels,defScope s_is_within_levels,[],[]⟩
def d_5:He.DefD:=⟨("law",none), "size_within", "size_within",defArgs s_size_within,defBody s_size_within,defScope s_size_within,[],[]⟩
def d_6:He.DefD:=⟨("law",none), "is_value", "is_value",defArgs s_is_value,defBody s_is_value,defScope s_is_value,[],[]⟩
def d_7:He.DefD:=⟨("law",none), "is_state", "is_state",defArgs s_is_state,defBody s_is_state,defScope s_is_state,[],[]⟩
def d_8:He.DefD:=⟨("law",none), "_law_text", "_law_text",defArgs s_text,defBody s_text,defScope s_text,[],[]⟩
def d_9:He.DefD:=⟨("law",none), "_law_value", "_law_value",defArgs s_value,defBody s_value,defScope s_value,[],[]⟩
def d_10:He.DefD:=⟨("law",none), "_law_count", "_law_count",defArgs s_count,defBody s_count,defScope s_count,[],[]⟩
def d_11:He.DefD:=⟨("law",none), "_law_good", "_law_good",defArgs s_good,defBody s_good,defScope s_good,[],[]⟩
def d_12:He.DefD:=⟨("law",none), "is_name", "is_name",defArgs s_is_name,defBody s_is_name,defScope s_is_name,[],[]⟩
def d_13:He.DefD:=⟨("law",none), "_law_name", "_law_name",defArgs s_name,defBody s_name,defScope s_name,[],[]⟩
def d_14 : He.DefD := ⟨("law", none), "_law_holds", "_law_holds", defArgs s_holds, defBody s_holds, defScope s_holds, [], []⟩
def d_15:He.DefD:=⟨("law",none), "_law_draw", "_law_draw",defArgs s_draw,defBody s_draw,defScope s_draw,[],[]⟩
def d_16:He.DefD:=⟨("law",none), "_law_thing", "_law_thing",defArgs s_thing,defBody s_thing,defScope s_thing,[],[]⟩
def d_17:He.DefD:=⟨("law",none), "_law_pool", "_law_pool",defArgs s_pool,defBody s_pool,defScope s_pool,[],[]⟩
def d_18:He.DefD:=⟨("law",none), "law", "law",defArgs s_law,defBody s_law,defScope s_law,[],[]⟩
def fn0 : List AtD := [(gAd "is_word", d_0), (gAd "is_key", d_1), (gAd "is_text", d_2), (gAd "is_integer", d_3), (gAd "is_within_levels", d_4), (gAd "size_within", d_5), (gAd "is_value", d_6), (gAd "is_state", d_7), (gAd "_law_text", d_8), (gAd "_law_value", d_9), (gAd "_law_count", d_10), (gAd "_law_good", d_11), (gAd "is_name", d_12), (gAd "_law_name", d_13), (gAd "_law_holds", d_14), (gAd "_law_draw", d_15), (gAd "_law_thing", d_16), (gAd "_law_pool", d_17), (gAd "law", d_18)]
def fa0 : List He.Fa := [.glo "is_word", .glo "is_key", .glo "is_text", .glo "is_integer", .glo "is_within_levels", .glo "size_within", .glo "is_value", .glo "is_state", .glo "_law_text", .glo "_law_value", .glo "_law_count", .glo "_law_good", .glo "is_name", .glo "_law_name", .glo "_law_holds", .glo "_law_draw", .glo "_law_thing", .glo "_law_pool", .glo "law", .int "MAX_TEXT" (60), .str "SIGNS" "abcdefghijklmnopqrstuvwxyz0123456789", .int "MAX_INTEGER" (1000000000000000000000000000000000000000000000000000000000000), .int "MAX_ITEMS" (50), .int "MAX_LEVELS" (5), .int "MAX_NAME" (12), .str "LETTERS" "abcdefghijklmnopqrstuvwxyz", .free "isinstance", .free "str", .free "len", .free "all", .free "int", .free "bool", .free "tuple", .free "sum", .free "dict", .free "abs", .free "list", .free "range", .free "min", .free "max"]
def ts0:List (Str × List Str):=[]
def exs0 (K:PySem.W.Frag):List Bool:=[]
def fn:List AtD:=fn0
def fa:List He.Fa:=fa0
def ts:List (Str × List Str):=ts0
def exs (K:PySem.W.Frag):List Bool:=exs0 K
def ex (K:PySem.W.Frag):Bool:=(exs K).all id
def cs:List (String × Str):=[]
def names0 : List PySem.Str := ["LETTERS", "SIGNS", "MAX_TEXT", "MAX_ITEMS", "MAX_LEVELS", "MAX_NAME", "MAX_INTEGER", "is_integer", "is_word", "is_text", "is_within_levels", "size_within", "is_value", "is_key", "is_name", "is_state", "_law_pool", "_law_draw", "_law_value", "_law_text", "_law_name", "_law_thing", "_law_count", "_law_good", "_law_holds"]
def names:List PySem.Str:=names0
abbrev R:PySem.W.OpenRow:=PySem.W.OpenLaw.row PySem.Challenge.rw_mendedruns_k01_values_keys_and_names
abbrev qv:Program:=PySem.W.view R.prog [27]
abbrev hk:PySem.W.Hook:=hookH 5 fa fn ts ex
def ob (s:PySem.W.SharedT):AlH:=obsX 5 fa fn ts exs s
theorem ob_eq (s:PySem.W.SharedT):ob s=hk.obs s.abs:=obsHG_eq (n:=5) (fa:=fa) (fn:=fn) (ts:=ts) (ex:=ex) (HandSHeadRun.getT_eq s)
theorem runL_false (w:World):RunLS R qv 20000 names (w.withFollow "special-get-raises" false):=by
 intro os
 kernel_rfl
theorem runX0_false (w:World):RunOb R (obsX 5 fa0 fn0 ts0 exs0) 20000 (valH fn0 ts0 (w.withFollow "special-get-raises" false)) (w.withFollow "special-get-raises" false):=by
 intro os
 kernel_rfl
theorem run_false (w:World):HandSHeadRun.RunEq R qv hk ob 20000 names (w.withFollow "special-get-raises" false):=runEq_of (runL_false w) (runX0_false w)
theorem runL_true (w:World):RunLS R qv 20000 names (w.withFollow "special-get-raises" true):=by
 intro os
 kernel_rfl
theorem runX0_true (w:World):RunOb R (obsX 5 fa0 fn0 ts0 exs0) 20000 (valH fn0 ts0 (w.withFollow "special-get-raises" true)) (w.withFollow "special-get-raises" true):=by
 intro os
 kernel_rfl
theorem run_true (w:World):HandSHeadRun.RunEq R qv hk ob 20000 names (w.withFollow "special-get-raises" true):=runEq_of (runL_true w) (runX0_true w)
theorem run (w:World):HandSHeadRun.RunEq R qv hk ob 20000 names w:=PySem.W.byRow2 "special-get-raises" (P:=fun w=>HandSHeadRun.RunEq R qv hk ob 20000 names w) run_false run_true w
end K01.Hd
section
open PySem PySem.W PySem.Calls PyProof.Rows
set_option maxHeartbeats 0 in
def K01.Hd.lnk : (P : Prop) ×' (P → PySem.Challenge.rw_mendedruns_k01_values_keys_and_names.Holds) := ⟨_, fun zhc => by
 w_on; o_law
 refine HandSHeadRun.head_any (r:=OpenLaw.row PySem.Challenge.rw_mendedruns_k01_values_keys_and_names) (q:=K01.Hd.qv) (H:=K01.Hd.hk) (ob:=K01.Hd.ob) (M:=20000) (loose:=K01.Hd.names) (d:=HandSHeadRun.topDef (OpenLaw.row PySem.Challenge.rw_mendedruns_k01_values_keys_and_names).prog 27) (kwd:=[]) K01.Hd.ob_eq
  (by kernel_rfl) (fun s=>by kernel_rfl) K01.Hd.run (by kernel_rfl) (by kernel_rfl) (by kernel_rfl) (by rfl) (by first | assumption | decide +kernel) (by decide +kernel) ⟨rfl,rfl,rfl,rfl,rfl,by decide +kernel⟩ ?hw ?hc
 case hw=>w_witness2
 case hc => exact zhc⟩
end
namespace VL
open PySem PySem.Spec PyProof.Rows L2
abbrev St:=L2.St
abbrev XD:=String->List (Str × D)->Mp->Sto->Hp->Prop
abbrev NoX:XD:=fun _ _ _ _ _=>False
def R.post {a:Type} (r:R a) (Q:a->Sto->Prop) (E:String->List (Str × D)->Sto->Prop):Prop:=match r with
 | .ok x S=>Q x S
 | .exc c fs S=>E c fs S
 | .bad=>False
def Aft {a:Type} (g:G) (E:XD) (m:Mp) (H:Hp) (r:R a) (Q:a->Mp->Sto->Hp->Prop):Prop :=
 r.post (fun x S'=>∀m' H',Ext g m H m' H'->Rel g m' S' H'->Q x m' S' H') (fun c fs S'=>∀m' H',Ext g m H m' H'->Rel g m' S' H'->E c fs m' S' H')
section
variable {a b:Type} {g:G} {E:XD} {m m1:Mp} {H H1:Hp} {r:R a} {Q Q':a->Mp->Sto->Hp->Prop}
theorem Aft.later (h:Aft g E m H r Q) (e:Ext g m H m1 H1):Aft g E m1 H1 r Q:=by
 cases r with
 | ok x S=>exact fun m' H' e' q=>h m' H' (e.trans e') q
 | exc c fs S=>exact fun m' H' e' q=>h m' H' (e.trans e') q
 | bad=>exact h
theorem Aft.bind {k:a->Sto->R b} {Q:b->Mp->Sto->Hp->Prop} (h:Aft g E m H (r.bind k) Q):Aft g E m H r fun x m1 S1 H1=>Aft g E m1 H1 (k x S1) Q:=by
 cases r with
 | ok x S=>exact fun m' H' e' q=>Aft.later (r:=k x S) h e'
 | exc c fs S=>exact h
 | bad=>exact h
theorem Aft.mono (h:Aft g E m H r Q) (k:∀x m' S' H',Ext g m H m' H'->Rel g m' S' H'->Q x m' S' H'->Q' x m' S' H'):Aft g E m H r Q':=by
 cases r with
 | ok x S=>exact fun m' H' e' q=>k x m' S H' e' q (h m' H' e' q)
 | exc c fs S=>exact h
 | bad=>exact h
theorem Aft.ok {x:a} {S:Sto} (h:Aft g E m H (.ok x S) Q) (r:Rel g m S H):Q x m S H:=h m H .refl r
theorem Aft.at {x:a} {S:Sto} (h:Aft g E m H (.ok x S) Q) (e:Ext g m H m1 H1) (r:Rel g m1 S H1):Q x m1 S H1:=h m1 H1 e r
end
def RL (g:G) (m:Mp) (H:Hp) (L:Lc) (σ : St):Prop:=L.length=σ.length/\∀(i:Nat) (d:D),L[i]?=some (some d)->∃v,σ[i]?=some (some v)/\RV g m H d v
theorem RL.ext {g:G} {m m':Mp} {H H':Hp} {L:Lc} {σ : St} (h:RL g m H L σ) (e:Ext g m H m' H'):RL g m' H' L σ :=
 ⟨h.1,fun i d q=>let ⟨v,h1,h2⟩:=h.2 i d q; ⟨v,h1,h2.ext e⟩⟩
theorem RL.set {g:G} {m:Mp} {H:Hp} {L:Lc} {σ : St} (h:RL g m H L σ) {d:D} {v:V} (r:RV g m H d v) (i:Nat):RL g m H (L.set i (some d)) (σ.set i (some v)):=by
 refine ⟨by simp [h.1],fun j d' e=>?_⟩
 by_cases hj:i=j
 ·subst hj
  by_cases hi:i < L.length
  ·rw [List.getElem?_set_self hi] at e
   cases e
   exact ⟨v,by rw [List.getElem?_set_self (by rw [← h.1]; exact hi)],r⟩
  ·rw [List.getElem?_eq_none (by simpa using hi)] at e
   cases e
 ·rw [List.getElem?_set_ne hj] at e ⊢
  exact h.2 j d' e
theorem RL.wipe1 {g:G} {m:Mp} {H:Hp} {L:Lc} {σ : St} (h:RL g m H L σ) (i:Nat):RL g m H (L.set i none) (σ.set i none):=by
 refine ⟨by simp [h.1],fun j d' e=>?_⟩
 by_cases hj:i=j
 ·subst hj
  by_cases hi:i < L.length
  ·rw [List.getElem?_set_self hi] at e
   cases e
  ·rw [List.getElem?_eq_none (by simpa using hi)] at e
   cases e
 ·rw [List.getElem?_set_ne hj] at e ⊢
  exact h.2 j d' e
def zjb (L:Lc):List Nat->Lc
 | []=>L
 | v :: vs=>(zjb L vs).set v none
theorem RL.wipe {g:G} {m:Mp} {H:Hp} {L:Lc} {σ : St} (h:RL g m H L σ):∀vs:List Nat,RL g m H (zjb L vs) (wipe σ vs)
 | []=>h
 | v :: vs=>(RL.wipe h vs).wipe1 v
theorem RL.begin {g:G} {m:Mp} {H:Hp} {ds:List D} {vs:List V} (h:RVs g m H ds vs) (N:List Str):RL g m H (ds.map some++List.replicate (N.length - ds.length) none) (L2.start N vs):=by
 have hl:=h.length
 unfold L2.start
 refine ⟨by simp [hl],fun i d e=>?_⟩
 by_cases hi:i < ds.length
 ·rw [List.getElem?_append_left (by simpa using hi),List.getElem?_map] at e
  rw [List.getElem?_append_left (by simpa [hl] using hi),List.getElem?_map]
  cases q:ds[i]? with
  | none=>rw [q] at e; cases e
  | some d' =>
   rw [q] at e
   cases e
   obtain ⟨v,e1,r⟩:=h.get q
   exact ⟨v,by rw [e1]; rfl,r⟩
 ·rw [List.getElem?_append_right (by simpa using hi),List.getElem?_replicate] at e
  split at e <;> cases e
def vQ (g:G) (Q:VK):D->Mp->Sto->Hp->Prop:=fun d m' _ H'=>∀v,RV g m' H' d v->Q v H'
def tD (g:G) (E:XD) (e:Lc->Sto->R D):TE:=fun σ H Q=>∃m S L,Rel g m S H/\RL g m H L σ/\Aft g E m H (e L S) (vQ g Q)
def tT (g:G) (E:XD) (e:Lc->Sto->R Bool):TT:=fun σ H Q=>∃m S L,Rel g m S H/\RL g m H L σ/\Aft g E m H (e L S) fun b _ _ H'=>Q b H'
def tL (g:G) (E:XD) (e:Lc->Sto->R (List D)):TA:=fun σ H Q=>∃m S L,Rel g m S H/\RL g m H L σ/\Aft g E m H (e L S) fun ds m' _ H'=>∀vs,RVs g m' H' ds vs->Q vs H'
inductive Fl where
 | nx (L:Lc) | rt (d:D) | bk (L:Lc) | ct (L:Lc)
def fQ (g:G) (Dn:Ends):Fl->Mp->Sto->Hp->Prop:=fun f m' _ H'=>match f with
 | .nx L=>∀ σ,RL g m' H' L σ->Dn.nx σ H'
 | .rt d=>∀v,RV g m' H' d v->Dn.rt v H'
 | .bk L=>∀ σ,RL g m' H' L σ->Dn.bk σ H'
 | .ct L=>∀ σ,RL g m' H' L σ->Dn.ct σ H'
def tF (g:G) (E:XD) (f:Lc->Sto->R Fl):TS:=fun Dn σ H=>∃m S L,Rel g m S H/\RL g m H L σ/\Aft g E m H (f L S) (fQ g Dn)
def rD1 (g:G) (E:XD) (f:D->Sto->R D):V->Hp->VK->Prop:=fun x H Q=>∃m S d,Rel g m S H/\RV g m H d x/\Aft g E m H (f d S) (vQ g Q)
def rD2 (g:G) (E:XD) (f:D->D->Sto->R D):R2:=fun x y H Q=>∃m S d d',Rel g m S H/\RV g m H d x/\RV g m H d' y/\Aft g E m H (f d d' S) (vQ g Q)
def rDs (g:G) (E:XD) (f:List D->Sto->R D):List V->Hp->VK->Prop:=fun xs H Q=>∃m S ds,Rel g m S H/\RVs g m H ds xs/\Aft g E m H (f ds S) (vQ g Q)
theorem _root_.L2.PE.imp {X:Cx} {e:Expr} {t t':TE} (h:PE X e t) (k:∀ σ H Q,t' σ H Q->t σ H Q):PE X e t':=⟨fun pins s σ H Q I q=>h.run pins s σ H Q I (k σ H Q q)⟩
theorem _root_.L2.PT.imp {X:Cx} {e:Expr} {t t':TT} (h:PT X e t) (k:∀ σ H Q,t' σ H Q->t σ H Q):PT X e t':=⟨fun pins s σ H Q I q=>h.run pins s σ H Q I (k σ H Q q)⟩
theorem _root_.L2.PW.imp {X:Cx} {e:Expr} {t t':TT} (h:PW X e t) (k:∀ σ H Q,t' σ H Q->t σ H Q):PW X e t':=⟨fun wh pins s σ H Q I q=>h.run wh pins s σ H Q I (k σ H Q q)⟩
theorem _root_.L2.PA.imp {X:Cx} {e:List Expr} {t t':TA} (h:PA X e t) (k:∀ σ H Q,t' σ H Q->t σ H Q):PA X e t':=⟨fun pos pins s σ H Q I q=>h.run pos pins s σ H Q I (k σ H Q q)⟩
theorem _root_.L2.PS.imp {X:Cx} {e:Stmt} {t t':TS} (h:PS X e t) (k:∀D σ H,t' D σ H->t D σ H):PS X e t':=⟨fun pins s σ H D I q=>h.run pins s σ H D I (k D σ H q)⟩
theorem _root_.L2.PSs.imp {X:Cx} {e:List Stmt} {t t':TS} (h:PSs X e t) (k:∀D σ H,t' D σ H->t D σ H):PSs X e t':=⟨fun pins s σ H D I q=>h.run pins s σ H D I (k D σ H q)⟩
def eVar (i:Nat):Lc->Sto->R D:=fun L S=>match L[i]? with
 | some (some d)=>.ok d S
 | _=>.bad
def eC (d:D):Lc->Sto->R D:=fun _ S=>.ok d S
def eUn (f:D->Sto->R D) (a:Lc->Sto->R D):Lc->Sto->R D:=fun L S=>(a L S).bind fun x S1=>f x S1
def eBin (f:D->D->Sto->R D) (a b:Lc->Sto->R D):Lc->Sto->R D:=fun L S=>(a L S).bind fun x S1=>(b L S1).bind fun y S2=>f x y S2
def aNil:Lc->Sto->R (List D):=fun _ S=>.ok [] S
def aCons (a:Lc->Sto->R D) (r:Lc->Sto->R (List D)):Lc->Sto->R (List D):=fun L S=>(a L S).bind fun x S1=>(r L S1).bind fun xs S2=>.ok (x :: xs) S2
def zq7 (f:List D->Sto->R D) (a:Lc->Sto->R (List D)):Lc->Sto->R D:=fun L S=>(a L S).bind fun xs S1=>f xs S1
def eTup (a:Lc->Sto->R (List D)):Lc->Sto->R D:=fun L S=>(a L S).bind fun xs S1=>if xs.length<=sizeLine then .ok (.tup xs) S1 else .bad
def newL (xs:List D) (S:Sto):R D:=if xs.length<=sizeLine then .ok (.lst xs) S else .bad
def newM (xs:List D) (S:Sto):R D:=if xs.length<=sizeLine then .ok (.ref S.length) (S++[.lst xs]) else .bad
def eLst (a:Lc->Sto->R (List D)):Lc->Sto->R D:=fun L S=>(a L S).bind fun xs S1=>newL xs S1
def eLstM (a:Lc->Sto->R (List D)):Lc->Sto->R D:=fun L S=>(a L S).bind fun xs S1=>newM xs S1
def truD (d:D) (S:Sto):R Bool:=match d with
 | .non=>.ok false S
 | .bl b=>.ok b S
 | .int i=>.ok (i != 0) S
 | .str x=>if x.length<=sizeLine then .ok ((x.length:Int) != 0) S else .bad
 | .tup ds=>.ok (!ds.isEmpty) S
 | .lst ds=>.ok (!ds.isEmpty) S
 | .ref n=>match S[n]? with
  | some (.lst ds)=>.ok (!ds.isEmpty) S
  | some (.dic ks _)=>.ok (!ks.isEmpty) S
  | _=>.bad
 | _=>.bad
def eAnd (a b:Lc->Sto->R D):Lc->Sto->R D:=fun L S=>(a L S).bind fun x S1=>(truD x S1).bind fun c S2=>if c=true then b L S2 else .ok x S2
def eOr (a b:Lc->Sto->R D):Lc->Sto->R D:=fun L S=>(a L S).bind fun x S1=>(truD x S1).bind fun c S2=>if c=true then .ok x S2 else b L S2
def eNot (a:Lc->Sto->R D):Lc->Sto->R D:=fun L S=>(a L S).bind fun x S1=>(truD x S1).bind fun c S2=>.ok (.bl (!c)) S2
def eIf (t:Lc->Sto->R Bool) (a b:Lc->Sto->R D):Lc->Sto->R D:=fun L S=>(t L S).bind fun c S1=>if c=true then a L S1 else b L S1
def eChain (f f':D->D->Sto->R D) (a b c:Lc->Sto->R D):Lc->Sto->R D:=fun L S=>(a L S).bind fun x S1=>(b L S1).bind fun y S2=>(f x y S2).bind fun z S3=>match z with
 | .bl true=>(c L S3).bind fun w S4=>f' y w S4
 | .bl false=>.ok (.bl false) S3
 | _=>.bad
def tTru (a:Lc->Sto->R D):Lc->Sto->R Bool:=fun L S=>(a L S).bind fun x S1=>truD x S1
def tBl (a:Lc->Sto->R D):Lc->Sto->R Bool:=fun L S=>(a L S).bind fun x S1=>match x with
 | .bl b=>.ok b S1
 | _=>.bad
def tAnd2 (a b:Lc->Sto->R Bool):Lc->Sto->R Bool:=fun L S=>(a L S).bind fun c S1=>if c=true then b L S1 else .ok false S1
def tOr2 (a b:Lc->Sto->R Bool):Lc->Sto->R Bool:=fun L S=>(a L S).bind fun c S1=>if c=true then .ok true S1 else b L S1
def tNot1 (a:Lc->Sto->R Bool):Lc->Sto->R Bool:=fun L S=>(a L S).bind fun c S1=>.ok (!c) S1
abbrev SF:=Lc->Sto->R Fl
def sNx:SF:=fun L S=>.ok (.nx L) S
def sSeq (a b:SF):SF:=fun L S=>(a L S).bind fun f S1=>match f with
 | .nx L1=>b L1 S1
 | f=>.ok f S1
def sSet (i:Nat) (e:Lc->Sto->R D):SF:=fun L S=>(e L S).bind fun d S1=>.ok (.nx (L.set i (some d))) S1
def sRet (e:Lc->Sto->R D):SF:=fun L S=>(e L S).bind fun d S1=>.ok (.rt d) S1
def sDrop (e:Lc->Sto->R D):SF:=fun L S=>(e L S).bind fun _ S1=>.ok (.nx L) S1
def sIf (t:Lc->Sto->R Bool) (a b:SF):SF:=fun L S=>(t L S).bind fun c S1=>if c=true then a L S1 else b L S1
def sAsg (e:Lc->Sto->R D) (t:D->Lc->Sto->R Lc):SF:=fun L S=>(e L S).bind fun d S1=>(t d L S1).bind fun L2 S2=>.ok (.nx L2) S2
def gNm (i:Nat):D->Lc->Sto->R Lc:=fun d L S=>.ok (L.set i (some d)) S
def gCons2 (t:D->Lc->Sto->R Lc) (u:List D->Lc->Sto->R Lc):List D->Lc->Sto->R Lc:=fun ds L S=>match ds with
 | d :: r=>(t d L S).bind fun L1 S1=>u r L1 S1
 | []=>.bad
def gNil2:List D->Lc->Sto->R Lc:=fun ds L S=>match ds with
 | []=>.ok L S
 | _=>.bad
def gTp (n:Nat) (t:List D->Lc->Sto->R Lc):D->Lc->Sto->R Lc:=fun d L S=>match d with
 | .tup ds=>if ds.length=n then t ds L S else .bad
 | _=>.bad
def gIx (o i:Lc->Sto->R D) (f:D->D->D->Sto->R Unit):D->Lc->Sto->R Lc:=fun d L S=>(o L S).bind fun x S1=>(i L S1).bind fun y S2=>(f x y d S2).bind fun _ S3=>.ok L S3
section
variable {X:Cx} {g:G} {E:XD} {pos:Pos} {e c:Expr} {es rest:List Expr} {ea eb ec:Lc->Sto->R D} {a b:Expr}
theorem zq1 (i:Nat) {x:Str} (hN:X.N[i]?=some x:=by rfl) (hv:Vis X.env.scope x:=by first | exact Or.inl rfl | exact Or.inr (Or.inl rfl) | exact Or.inr (Or.inr rfl)) (hd:(x == ("__debug__" : Str))=false:=by decide)
  (hcd:(x == ("__classdict__" : Str))=false:=by decide):PE X (.Name x pos) (tD g E (eVar i)):=by
 refine (pe_var hN hv hd hcd).imp fun σ H Q h=>?_
 obtain ⟨m,S,L,r,l,q⟩:=h
 unfold eVar at q
 split at q
 ·rename_i d e
  obtain ⟨v,e1,e2⟩:=l.2 i d e
  exact ⟨v,e1,q.ok r v e2⟩
 ·exact q.elim
theorem de_c {v:V} (d:D) (h:PE X e (tC v)) (hd:∀m H,RV g m H d v):PE X e (tD g E (eC d)):=by
 refine h.imp fun σ H Q h=>?_
 obtain ⟨m,S,L,r,l,q⟩:=h
 exact q.ok r v (hd m H)
theorem zq3 {i:Int} {j:Nat}:PE X (.Constant (.int i) j pos) (tD g E (eC (.int i))):=de_c _ pe_int fun _ _=>zqm
theorem de_bl {i:Bool} {j:Nat}:PE X (.Constant (.bool i) j pos) (tD g E (eC (.bl i))):=de_c _ pe_bl fun _ _=>zqr
theorem zjd {i:Str} {j:Nat}:PE X (.Constant (.str i) j pos) (tD g E (eC (.str i))):=de_c _ pe_str fun _ _=>zjk
theorem de_non {j:Nat}:PE X (.Constant .none j pos) (tD g E (eC .non)):=de_c _ pe_non fun _ _=>rv_non
theorem de_un {op:UnaryOp} {f:D->Sto->R D} (ho:UnR X (unaryOp op) (rD1 g E f)) (ha:PE X a (tD g E ea)):PE X (.UnaryOp op a pos) (tD g E (eUn f ea)):=by
 refine (pe_un ho ha).imp fun σ H Q h=>?_
 obtain ⟨m,S,L,r,l,q⟩:=h
 refine ⟨m,S,L,r,l,(Aft.bind q).mono fun d m1 S1 H1 e1 r1 q1 v rv=>?_⟩
 exact ⟨m1,S1,d,r1,rv,q1⟩
theorem bin2 {f:D->D->Sto->R D} {σ : St} {H:Hp} {Q:VK} (h:tD g E (eBin f ea eb) σ H Q):tOp (rD2 g E f) (tD g E ea) (tD g E eb) σ H Q:=by
 obtain ⟨m,S,L,r,l,q⟩:=h
 refine ⟨m,S,L,r,l,(Aft.bind q).mono fun d m1 S1 H1 e1 r1 q1 v rv=>?_⟩
 refine ⟨m1,S1,L,r1,l.ext e1,(Aft.bind q1).mono fun d' m2 S2 H2 e2 r2 q2 v' rv'=>?_⟩
 exact ⟨m2,S2,d,d',r2,rv.ext e2,rv',q2⟩
theorem zqe {op:Operator} {f:D->D->Sto->R D} (ho:OpR X (binaryOp op) (rD2 g E f)) (ha:PE X a (tD g E ea)) (hb:PE X b (tD g E eb)):PE X (.BinOp a op b pos) (tD g E (eBin f ea eb)) :=
 (pe_op ho ha hb).imp fun σ H Q h=>bin2 h
theorem zk0 {op:CmpOp} {f:D->D->Sto->R D} (ho:OpR X (compareOp op) (rD2 g E f)) (ha:PE X a (tD g E ea)) (hb:PE X b (tD g E eb)) (hm:behindInMarks op b=false):PE X (.Compare a [op] [b] pos) (tD g E (eBin f ea eb)) :=
 (pe_cmpR ho ha hb hm).imp fun σ H Q h=>bin2 h
theorem tBl_test {σ : St} {H:Hp} {Q:Bool->Hp->Prop} {e:Lc->Sto->R D} (h:tT g E (tBl e) σ H Q):tTest (tD g E e) σ H Q:=by
 obtain ⟨m,S,L,r,l,q⟩:=h
 refine ⟨m,S,L,r,l,(Aft.bind q).mono fun d m1 S1 H1 e1 r1 q1 v rv=>?_⟩
 cases d with
 | bl b=>exact ⟨b,of_bl rv,q1.ok r1⟩
 | _=>exact q1.elim
theorem tTest.imp {t t':TE} (k:∀ σ H Q,t' σ H Q->t σ H Q) {σ : St} {H:Hp} {Q:Bool->Hp->Prop} (h:tTest t' σ H Q):tTest t σ H Q:=k _ _ _ h
theorem zqz {op:CmpOp} {f:D->D->Sto->R D} (ho:OpR X (compareOp op) (rD2 g E f)) (ha:PE X a (tD g E ea)) (hb:PE X b (tD g E eb)) (hm:behindInMarks op b=false):PT X (.Compare a [op] [b] pos) (tT g E (tBl (eBin f ea eb))) :=
 (pt_cmpR ho ha hb hm).imp fun σ H Q h=>tTest.imp (fun _ _ _ h=>bin2 h) (tBl_test h)
theorem de_ix {f:D->D->Sto->R D} (ho:IxR X (rD2 g E f)) (ha:PE X a (tD g E ea)) (hb:PE X b (tD g E eb)) (hs:PlainIx b:=by intro _ _; rfl):PE X (.Subscript a b pos) (tD g E (eBin f ea eb)) :=
 (pe_ix ho ha hb hs).imp fun σ H Q h=>bin2 h
theorem zq4:PA X [] (tL g E aNil):=pa_nil.imp fun σ H Q h=>by
 obtain ⟨m,S,L,r,l,q⟩:=h
 exact q.ok r _ .nil
theorem zq0 {ls:Lc->Sto->R (List D)} (ha:PE X e (tD g E ea)) (hr:PA X es (tL g E ls)) (hs:starEach (e :: es) X.env=(false,eval e X.env) :: starEach es X.env:=by rfl):PA X (e :: es) (tL g E (aCons ea ls)):=by
 refine (pa_cons ha hr hs).imp fun σ H Q h=>?_
 obtain ⟨m,S,L,r,l,q⟩:=h
 refine ⟨m,S,L,r,l,(Aft.bind q).mono fun d m1 S1 H1 e1 r1 q1 v rv=>?_⟩
 refine ⟨m1,S1,L,r1,l.ext e1,(Aft.bind q1).mono fun ds m2 S2 H2 e2 r2 q2 vs rvs=>?_⟩
 exact q2.ok r2 _ (.cons (rv.ext e2) rvs)
theorem calls {f:List D->Sto->R D} {ls:Lc->Sto->R (List D)} {σ : St} {H:Hp} {Q:VK} (h:tD g E (zq7 f ls) σ H Q):tCB (rDs g E f) (tL g E ls) σ H Q:=by
 obtain ⟨m,S,L,r,l,q⟩:=h
 refine ⟨m,S,L,r,l,(Aft.bind q).mono fun ds m1 S1 H1 e1 r1 q1 vs rvs=>?_⟩
 exact ⟨m1,S1,ds,r1,rvs,q1⟩
theorem zqh {f:List D->Sto->R D} {ls:Lc->Sto->R (List D)} {id:String} {x:Str} {p:Pos} (hc:CallR X (.builtin id) (rDs g E f)) (hg:Gl X x) (hm:X.mg x=none) (hv:bootBuiltins x=some (.builtin id)) (ha:PA X (e :: es) (tL g E ls)) (hn:x ≠ "__name__" := by decide) (hdb:(x == ("__debug__" : Str))=false:=by decide)
  (he:starEach (e :: es) X.env=(false,eval e X.env) :: starEach es X.env:=by rfl) (hpl:(backTo pos (starEach es X.env)).any (·.1)=false:=by rfl):PE X (.Call (.Name x p) (e :: es) [] pos) (tD g E (zq7 f ls)) :=
 (pe_callB hc hg hm hv ha hn hdb he hpl).imp fun σ H Q h=>calls h
theorem de_callTy {f:List D->Sto->R D} {ls:Lc->Sto->R (List D)} {id:String} {x:Str} {p:Pos} (hc:CallR X (.type id) (rDs g E f)) (hg:Gl X x) (hm:X.mg x=none) (hv:bootBuiltins x=some (.type id)) (ha:PA X (e :: es) (tL g E ls)) (hn:x ≠ "__name__" := by decide) (hdb:(x == ("__debug__" : Str))=false:=by decide)
  (he:starEach (e :: es) X.env=(false,eval e X.env) :: starEach es X.env:=by rfl) (hpl:(backTo pos (starEach es X.env)).any (·.1)=false:=by rfl):PE X (.Call (.Name x p) (e :: es) [] pos) (tD g E (zq7 f ls)) :=
 (pe_callTy hc hg hm hv ha hn hdb he hpl).imp fun σ H Q h=>calls h
theorem zjy {ls:Lc->Sto->R (List D)} {k:Nat} (ha:PA X es (tL g E ls)):PE X (.Tuple es k pos) (tD g E (eTup ls)):=by
 refine (pe_tup ha).imp fun σ H Q h=>?_
 obtain ⟨m,S,L,r,l,q⟩:=h
 refine ⟨m,S,L,r,l,(Aft.bind q).mono fun ds m1 S1 H1 e1 r1 q1 vs rvs=>?_⟩
 split at q1
 ·rename_i hz
  refine ⟨by rw [rvs.length]; exact hz,fun p hp=>?_⟩
  exact q1.at (zqn r1 hp) (r1.lay hp) _ (zjn ⟨upd_same,r1.un hp⟩ (rvs.ext (zqn r1 hp)))
 ·exact q1.elim
theorem newL_run {xs:List D} {vs:List V} {m:Mp} {S:Sto} {H:Hp} {Q:VK} (q:Aft g E m H (newL xs S) (vQ g Q)) (r:Rel g m S H) (rvs:RVs g m H xs vs):vs.length<=sizeLine/\∀p,H p=none->Q (.ref p) (upd H p (.lst vs)):=by
 unfold newL at q
 split at q
 ·rename_i hz
  refine ⟨by rw [rvs.length]; exact hz,fun p hp=>?_⟩
  exact q.at (zqn r hp) (r.lay hp) _ (rv_lst upd_same (r.un hp) (rvs.ext (zqn r hp)))
 ·exact q.elim
theorem newM_run {xs:List D} {vs:List V} {m:Mp} {S:Sto} {H:Hp} {Q:VK} (q:Aft g E m H (newM xs S) (vQ g Q)) (r:Rel g m S H) (rvs:RVs g m H xs vs):vs.length<=sizeLine/\∀p,H p=none->Q (.ref p) (upd H p (.lst vs)):=by
 unfold newM at q
 split at q
 ·rename_i hz
  refine ⟨by rw [rvs.length]; exact hz,fun p hp=>?_⟩
  exact q.at (ext_new r hp) (r.alloc hp ⟨vs,rfl,rvs⟩) _ (rv_ref r.last)
 ·exact q.elim
theorem de_lst {ls:Lc->Sto->R (List D)} (ha:PA X es (tL g E ls)):PE X (.List es pos) (tD g E (eLst ls)):=by
 refine (pe_lst ha).imp fun σ H Q h=>?_
 obtain ⟨m,S,L,r,l,q⟩:=h
 refine ⟨m,S,L,r,l,(Aft.bind q).mono fun ds m1 S1 H1 e1 r1 q1 vs rvs=>?_⟩
 exact newL_run q1 r1 rvs
theorem de_lstM {ls:Lc->Sto->R (List D)} (ha:PA X es (tL g E ls)):PE X (.List es pos) (tD g E (eLstM ls)):=by
 refine (pe_lst ha).imp fun σ H Q h=>?_
 obtain ⟨m,S,L,r,l,q⟩:=h
 refine ⟨m,S,L,r,l,(Aft.bind q).mono fun ds m1 S1 H1 e1 r1 q1 vs rvs=>?_⟩
 exact newM_run q1 r1 rvs
theorem tru_run {m:Mp} {S:Sto} {H:Hp} {d:D} {v:V} {Q:Bool->Mp->Sto->Hp->Prop} (hK:X.K=g.K) (q:Aft g E m H (truD d S) Q) (r:Rel g m S H) (rv:RV g m H d v):∃k,TruV X.K v H k/\truD d S=.ok k S:=by
 rw [hK]
 unfold truD at q ⊢
 cases d with
 | non=>rw [of_non rv]; exact ⟨false,rfl,rfl⟩
 | bl b=>rw [of_bl rv]; exact ⟨b,rfl,rfl⟩
 | int i=>rw [zq6 rv]; exact ⟨_,rfl,rfl⟩
 | str x =>
  rw [zqo rv]
  simp only at q ⊢
  split at q
  ·rename_i hz
   rw [if_pos hz]
   exact ⟨_,⟨hz,rfl⟩,rfl⟩
  ·exact q.elim
 | ctp ds=>exact q.elim
 | tup ds =>
  obtain ⟨a,vs,rfl,h1,h2⟩:=of_tup rv
  refine ⟨!ds.isEmpty,.inr (.inl ⟨vs,h1,?_⟩),rfl⟩
  have:=h2.length
  cases ds with
  | nil=>rw [h2.nil_iff]; rfl
  | cons _ _=>obtain ⟨_,_,rfl,_⟩:=h2.cons_iff; rfl
 | lst ds =>
  obtain ⟨a,vs,rfl,h1,_,h2⟩:=of_lst rv
  refine ⟨!ds.isEmpty,.inl ⟨vs,.of h1,?_⟩,rfl⟩
  cases ds with
  | nil=>rw [h2.nil_iff]; rfl
  | cons _ _=>obtain ⟨_,_,rfl,_⟩:=h2.cons_iff; rfl
 | ref n =>
  simp only at q ⊢
  split at q
  ·rename_i ds e
   obtain ⟨a,o,rfl,_,h1,vs,rfl,h2⟩:=r.at rv e (by intro z; cases z)
   refine ⟨!ds.isEmpty,.inl ⟨vs,.of h1,?_⟩,rfl⟩
   cases ds with
   | nil=>rw [h2.nil_iff]; rfl
   | cons _ _=>obtain ⟨_,_,rfl,_⟩:=h2.cons_iff; rfl
  ·rename_i ks ds e
   obtain ⟨a,o,rfl,_,h1,kvs,rfl,h2,_⟩:=r.at rv e (by intro z; cases z)
   refine ⟨!ks.isEmpty,.inr (.inr ⟨kvs,h1,?_⟩),rfl⟩
   rw [← h2]
   cases kvs <;> rfl
  ·exact q.elim
 | ty _=>exact q.elim
 | kref _=>exact q.elim
 | dic _ _=>exact q.elim
 | dct _ _=>exact q.elim
 | obj _ _ _=>exact q.elim
 | scr _=>exact q.elim
theorem zjm (hK:X.K=g.K) (ha:PE X a (tD g E ea)) (he:∀whole,isTrue a X.env whole=(do let v ← whole; standAt a.pos; holding [v] (truthy v)):=by intro _; rfl):PT X a (tT g E (tTru ea)):=by
 refine (pt_truth ha he).imp fun σ H Q h=>?_
 obtain ⟨m,S,L,r,l,q⟩:=h
 refine ⟨m,S,L,r,l,(Aft.bind q).mono fun d m1 S1 H1 e1 r1 q1 v rv=>?_⟩
 obtain ⟨k,h1,h2⟩:=tru_run hK q1 r1 rv
 rw [h2] at q1
 exact ⟨k,h1,q1.ok r1⟩
theorem de_and (hK:X.K=g.K) (ha:PE X a (tD g E ea)) (hb:PE X (.BoolOp .And (b :: rest) pos) (tD g E eb)):PE X (.BoolOp .And (a :: b :: rest) pos) (tD g E (eAnd ea eb)):=by
 refine (pe_andT ha hb).imp fun σ H Q h=>?_
 obtain ⟨m,S,L,r,l,q⟩:=h
 refine ⟨m,S,L,r,l,(Aft.bind q).mono fun d m1 S1 H1 e1 r1 q1 v rv=>?_⟩
 obtain ⟨k,h1,h2⟩:=tru_run hK (Aft.bind q1) r1 rv
 rw [h2] at q1
 refine ⟨k,h1,?_⟩
 cases k with
 | true=>exact ⟨m1,S1,L,r1,l.ext e1,q1⟩
 | false=>exact q1.ok r1 _ rv
theorem de_not (hK:X.K=g.K) (ha:PE X a (tD g E ea)):PE X (.UnaryOp .Not a pos) (tD g E (eNot ea)):=by
 refine (pe_notT ha).imp fun σ H Q h=>?_
 obtain ⟨m,S,L,r,l,q⟩:=h
 refine ⟨m,S,L,r,l,(Aft.bind q).mono fun d m1 S1 H1 e1 r1 q1 v rv=>?_⟩
 obtain ⟨k,h1,h2⟩:=tru_run hK (Aft.bind q1) r1 rv
 rw [h2] at q1
 exact ⟨k,h1,q1.ok r1 _ zqr⟩
variable {ta tb:Lc->Sto->R Bool}
theorem dw_and1 (ha:PT X a (tT g E ta)):PW X (.BoolOp .And [a] pos) (tT g E ta):=pw_and1 ha
theorem dw_or1 (ha:PT X a (tT g E ta)):PW X (.BoolOp .Or [a] pos) (tT g E ta):=pw_or1 ha
theorem dw_and (ha:PT X a (tT g E ta)) (hb:PW X (.BoolOp .And (b :: rest) pos) (tT g E tb)):PW X (.BoolOp .And (a :: b :: rest) pos) (tT g E (tAnd2 ta tb)):=by
 refine (pw_and ha hb).imp fun σ H Q h=>?_
 obtain ⟨m,S,L,r,l,q⟩:=h
 refine ⟨m,S,L,r,l,(Aft.bind q).mono fun c m1 S1 H1 e1 r1 q1=>?_⟩
 cases c with
 | true=>exact ⟨m1,S1,L,r1,l.ext e1,q1⟩
 | false=>exact q1.ok r1
theorem dw_or (ha:PT X a (tT g E ta)) (hb:PW X (.BoolOp .Or (b :: rest) pos) (tT g E tb)):PW X (.BoolOp .Or (a :: b :: rest) pos) (tT g E (tOr2 ta tb)):=by
 refine (pw_or ha hb).imp fun σ H Q h=>?_
 obtain ⟨m,S,L,r,l,q⟩:=h
 refine ⟨m,S,L,r,l,(Aft.bind q).mono fun c m1 S1 H1 e1 r1 q1=>?_⟩
 cases c with
 | false=>exact ⟨m1,S1,L,r1,l.ext e1,q1⟩
 | true=>exact q1.ok r1
theorem dt_not (ha:PT X a (tT g E ta)):PT X (.UnaryOp .Not a pos) (tT g E (tNot1 ta)):=by
 refine (pt_not ha).imp fun σ H Q h=>?_
 obtain ⟨m,S,L,r,l,q⟩:=h
 refine ⟨m,S,L,r,l,(Aft.bind q).mono fun c m1 S1 H1 e1 r1 q1=>q1.ok r1⟩
theorem de_if (hc:PT X c (tT g E ta)) (ha:PE X a (tD g E ea)) (hb:PE X b (tD g E eb)):PE X (.IfExp c a b pos) (tD g E (eIf ta ea eb)):=by
 refine (pe_ifExp hc ha hb).imp fun σ H Q h=>?_
 obtain ⟨m,S,L,r,l,q⟩:=h
 refine ⟨m,S,L,r,l,(Aft.bind q).mono fun k m1 S1 H1 e1 r1 q1=>?_⟩
 cases k with
 | true=>exact ⟨m1,S1,L,r1,l.ext e1,q1⟩
 | false=>exact ⟨m1,S1,L,r1,l.ext e1,q1⟩
theorem chain2 {f f':D->D->Sto->R D} {σ : St} {H:Hp} {Q:VK} (h:tD g E (eChain f f' ea eb ec) σ H Q):tChain (rD2 g E f) (rD2 g E f') (tD g E ea) (tD g E eb) (tD g E ec) σ H Q:=by
 obtain ⟨m,S,L,r,l,q⟩:=h
 refine ⟨m,S,L,r,l,(Aft.bind q).mono fun d m1 S1 H1 e1 r1 q1 v rv=>?_⟩
 refine ⟨m1,S1,L,r1,l.ext e1,(Aft.bind q1).mono fun d' m2 S2 H2 e2 r2 q2 v' rv'=>?_⟩
 refine ⟨m2,S2,d,d',r2,rv.ext e2,rv',(Aft.bind q2).mono fun z m3 S3 H3 e3 r3 q3 vz rz=>?_⟩
 cases z with
 | bl k =>
  refine ⟨k,of_bl rz,?_⟩
  cases k with
  | true =>
   refine ⟨m3,S3,L,r3,(l.ext e1).ext (e2.trans e3),(Aft.bind q3).mono fun w m4 S4 H4 e4 r4 q4 vw rw'=>?_⟩
   exact ⟨m4,S4,d',w,r4,rv'.ext (e3.trans e4),rw',q4⟩
  | false=>exact q3.ok r3 _ zqr
 | _=>exact q3.elim
theorem de_chain {op op':CmpOp} {f f':D->D->Sto->R D} (ho:OpR X (compareOp op) (rD2 g E f)) (ho':OpR X (compareOp op') (rD2 g E f')) (ha:PE X a (tD g E ea)) (hb:PE X b (tD g E eb)) (hc:PE X c (tD g E ec))
  (hm:lastMarks [op,op'] [b,c]=false:=by with_unfolding_all rfl):PE X (.Compare a [op,op'] [b,c] pos) (tD g E (eChain f f' ea eb ec)) :=
 (pe_chain ho ho' ha hb hc hm).imp fun σ H Q h=>chain2 h
theorem dt_chain {op op':CmpOp} {f f':D->D->Sto->R D} (ho:OpR X (compareOp op) (rD2 g E f)) (ho':OpR X (compareOp op') (rD2 g E f')) (ha:PE X a (tD g E ea)) (hb:PE X b (tD g E eb)) (hc:PE X c (tD g E ec))
  (hm:lastMarks [op,op'] [b,c]=false:=by with_unfolding_all rfl):PT X (.Compare a [op,op'] [b,c] pos) (tT g E (tBl (eChain f f' ea eb ec))) :=
 (pt_chain ho ho' ha hb hc hm).imp fun σ H Q h=>tTest.imp (fun _ _ _ h=>chain2 h) (tBl_test h)
end
section
variable {X:Cx} {g:G} {E:XD} {pos:Pos} {e c:Expr} {ea:Lc->Sto->R D} {st:Stmt} {rest sa sb:List Stmt} {fa fb:SF} {ta:Lc->Sto->R Bool}
theorem zqx:PSs X [] (tF g E sNx):=pss_nil.imp fun D σ H h=>by
 obtain ⟨m,S,L,r,l,q⟩:=h
 exact q.ok r σ l
theorem zqa (h1:PS X st (tF g E fa)) (h2:PSs X rest (tF g E fb)):PSs X (st :: rest) (tF g E (sSeq fa fb)):=by
 refine (pss_cons h1 h2).imp fun D σ H h=>?_
 obtain ⟨m,S,L,r,l,q⟩:=h
 refine ⟨m,S,L,r,l,(Aft.bind q).mono fun f m1 S1 H1 e1 r1 q1=>?_⟩
 cases f with
 | nx L1=>exact fun σ1 l1=>⟨m1,S1,L1,r1,l1,q1⟩
 | rt d=>exact fun v rv=>q1.ok r1 v rv
 | bk L1=>exact fun σ1 l1=>q1.ok r1 σ1 l1
 | ct L1=>exact fun σ1 l1=>q1.ok r1 σ1 l1
theorem zqb (h1:PS X st (tF g E fa)):PSs X [st] (tF g E fa):=pss_one h1
theorem zqc (he:PE X e (tD g E ea)):PS X (.Return (some e) pos) (tF g E (sRet ea)):=by
 refine (ps_ret he).imp fun D σ H h=>?_
 obtain ⟨m,S,L,r,l,q⟩:=h
 exact ⟨m,S,L,r,l,(Aft.bind q).mono fun d m1 S1 H1 e1 r1 q1 v rv=>q1.ok r1 v rv⟩
theorem zjw (hc:PT X c (tT g E ta)) (ha:PSs X sa (tF g E fa)) (hb:PSs X sb (tF g E fb)):PS X (.If c sa sb pos) (tF g E (sIf ta fa fb)):=by
 refine (ps_if hc ha hb).imp fun D σ H h=>?_
 obtain ⟨m,S,L,r,l,q⟩:=h
 refine ⟨m,S,L,r,l,(Aft.bind q).mono fun k m1 S1 H1 e1 r1 q1=>?_⟩
 cases k with
 | true=>exact ⟨m1,S1,L,r1,l.ext e1,q1⟩
 | false=>exact ⟨m1,S1,L,r1,l.ext e1,q1⟩
theorem ds_set {i:Nat} {x:Str} {pos':Pos} (hN:X.N.Nodup) (hi:X.N[i]?=some x) (hx:L2.Loc X.env.scope x) (he:PE X e (tD g E ea)) (hs:swapsWith e (some (.Name x pos')) pos.line X.env=pure false:=by rfl) (hf:X.fn x=true∨X.env.scope.names.lookup x=some .local:=by first | exact .inl rfl | exact .inr rfl | assumption) :
  PS X (.Assign [.Name x pos'] e pos) (tF g E (sSet i ea)):=by
 refine (ps_set hN hi hx he hs hf).imp fun D σ H h=>?_
 obtain ⟨m,S,L,r,l,q⟩:=h
 exact ⟨m,S,L,r,l,(Aft.bind q).mono fun d m1 S1 H1 e1 r1 q1 v rv=>q1.ok r1 _ ((l.ext e1).set rv i)⟩
abbrev AnyP:St->St->Prop:=fun _ _=>True
abbrev WpP (vs:List Nat):St->St->Prop:=fun σ σ2=>wipe σ2 vs=wipe σ vs
def gQ (g:G) (P:St->St->Prop) (σ0:St) (Q:St->Hp->Prop):Lc->Mp->Sto->Hp->Prop:=fun L m' _ H'=>∀ σ,RL g m' H' L σ->P σ0 σ->Q σ H'
def tG (g:G) (E:XD) (P:St->St->Prop) (t:D->Lc->Sto->R Lc):TG:=fun v σ H Q=>∃m S L d,Rel g m S H/\RL g m H L σ/\RV g m H d v/\Aft g E m H (t d L S) (gQ g P σ Q)
def tGs (g:G) (E:XD) (P:St->St->Prop) (t:List D->Lc->Sto->R Lc):TGs:=fun vs σ H Q=>∃m S L ds,Rel g m S H/\RL g m H L σ/\RVs g m H ds vs/\Aft g E m H (t ds L S) (gQ g P σ Q)
theorem _root_.L2.PG.imp {X:Cx} {e:Expr} {t t':TG} (h:PG X e t) (k:∀v σ H Q,t' v σ H Q->t v σ H Q):PG X e t':=⟨fun pins s σ H v u Q I r q=>h.run pins s σ H v u Q I r (k v σ H Q q)⟩
theorem _root_.L2.PGs.imp {X:Cx} {e:List Expr} {t t':TGs} (h:PGs X e t) (k:∀v σ H Q,t' v σ H Q->t v σ H Q):PGs X e t':=⟨fun pins s σ H v u Q I r q=>h.run pins s σ H v u Q I r (k v σ H Q q)⟩
theorem wipe_set {σ : St} {i:Nat} {x:Option V}:∀{vs:List Nat},i∈vs->wipe (σ.set i x) vs=wipe σ vs
 | [],h=>by cases h
 | v :: vs,h=>by
  show (wipe (σ.set i x) vs).set v none=(wipe σ vs).set v none
  by_cases hi:i=v
  ·subst hi
   have:∀vs:List Nat,(wipe (σ.set i x) vs).set i none=(wipe σ vs).set i none:=by
    intro vs
    induction vs with
    | nil=>show (σ.set i x).set i none=σ.set i none; rw [List.set_set]
    | cons w vs ih =>
     show ((wipe (σ.set i x) vs).set w none).set i none=((wipe σ vs).set w none).set i none
     by_cases hw:w=i
     ·subst hw; rw [List.set_set,List.set_set,ih]
     ·rw [List.set_comm _ _ hw,ih,List.set_comm _ _ (Ne.symm hw)]
   exact this vs
  ·rw [wipe_set (List.mem_of_ne_of_mem hi h)]
theorem wp_nm {vs:List Nat} {i:Nat} (h:i∈vs) (σ : St) (v:V):WpP vs σ (σ.set i (some v)):=wipe_set h
variable {P:St->St->Prop}
theorem zqy {i:Nat} {x:Str} (hN:X.N.Nodup) (hi:X.N[i]?=some x) (hx:L2.Loc X.env.scope x) (hP:∀(σ : St) (v:V),P σ (σ.set i (some v))) (hf:X.fn x=true∨X.env.scope.names.lookup x=some .local:=by first | exact .inl rfl | exact .inr rfl | assumption):PG X (.Name x pos) (tG g E P (gNm i)):=by
 refine (pg_name hN hi hx hf).imp fun v σ H Q h=>?_
 obtain ⟨m,S,L,d,r,l,rv,q⟩:=h
 exact q.ok r _ (l.set rv i) (hP σ v)
theorem dgs_nil (hP:∀ σ,P σ σ):PGs X [] (tGs g E P gNil2):=by
 refine pgs_nil.imp fun v σ H Q h=>?_
 obtain ⟨m,S,L,ds,r,l,rv,q⟩:=h
 cases ds with
 | nil=>exact ⟨rv.nil_iff,q.ok r _ l (hP σ)⟩
 | cons _ _=>exact q.elim
theorem dgs_cons {es:List Expr} {t:D->Lc->Sto->R Lc} {u:List D->Lc->Sto->R Lc} (hP:∀a b c,P a b->P b c->P a c) (h1:PG X e (tG g E P t)) (h2:PGs X es (tGs g E P u)) (hs:(assignEach (e :: es) X.env).map (·.2)=assign e X.env :: (assignEach es X.env).map (·.2):=by rfl):PGs X (e :: es) (tGs g E P (gCons2 t u)):=by
 refine (pgs_cons h1 h2 hs).imp fun v σ H Q h=>?_
 obtain ⟨m,S,L,ds,r,l,rv,q⟩:=h
 cases ds with
 | nil=>exact q.elim
 | cons d ds =>
  obtain ⟨v1,r1,rfl,h1,h2⟩:=rv.cons_iff
  refine ⟨v1,r1,rfl,m,S,L,d,r,l,h1,(Aft.bind q).mono fun L1 m1 S1 H1 e1 r1 q1 σ1 l1 p1=>?_⟩
  exact ⟨m1,S1,L1,ds,r1,l1,h2.ext e1,q1.mono fun L2 m2 S2 H2 e2 r2 q2 σ2 l2 p2=>q2 σ2 l2 (hP _ _ _ p1 p2)⟩
theorem dg_tup {es:List Expr} {k n:Nat} {t:List D->Lc->Sto->R Lc} (hK:X.K=g.K) (hc:X.calm=true) (h:PGs X es (tGs g E P t)) (hn:(assignEach es X.env).length=n:=by rfl) (hst:(assignEach es X.env).findIdx? (·.1)=none:=by rfl) :
  PG X (.Tuple es k pos) (tG g E P (gTp n t)):=by
 refine (pg_tup hc h hn hst).imp fun v σ H Q h=>?_
 obtain ⟨m,S,L,d,r,l,rv,q⟩:=h
 unfold gTp at q
 split at q
 ·rename_i ds
  split at q
  ·rename_i hz
   obtain ⟨a,vs,rfl,h1,h2⟩:=of_tup rv
   exact ⟨a,vs,rfl,by rw [hK]; exact h1,by rw [h2.length]; exact hz,m,S,L,ds,r,l,h2,q⟩
  ·exact q.elim
 ·exact q.elim
theorem ds_asg {tg:Expr} {t:D->Lc->Sto->R Lc} (he:PE X e (tD g E ea)) (hg:PG X tg (tG g E AnyP t)) (hs:swapsWithSole [tg] e pos.line X.env=pure false:=by rfl) (hw:swappedStores [tg] e X.env=pure none:=by rfl)
  (h1:(assignEach [tg] X.env).map (·.2)=[assign tg X.env]:=by rfl):PS X (.Assign [tg] e pos) (tF g E (sAsg ea t)):=by
 refine (ps_asg he hg hs hw h1).imp fun D σ H h=>?_
 obtain ⟨m,S,L,r,l,q⟩:=h
 refine ⟨m,S,L,r,l,(Aft.bind q).mono fun d m1 S1 H1 e1 r1 q1 v rv=>?_⟩
 refine ⟨m1,S1,L,d,r1,l.ext e1,rv,(Aft.bind q1).mono fun L2 m2 S2 H2 e2 r2 q2=>?_⟩
 exact fun σ2 l2 _=>q2.ok r2 σ2 l2
def rSet (g:G) (E:XD) (f:D->D->D->Sto->R Unit):TSet:=fun o i v H Q=>∃m S d1 d2 d3,Rel g m S H/\RV g m H d1 o/\RV g m H d2 i/\RV g m H d3 v/\Aft g E m H (f d1 d2 d3 S) fun _ m' S' H'=>Q H'
theorem dg_ix {o i:Expr} {f:D->D->D->Sto->R Unit} {eo ei:Lc->Sto->R D} (hP:∀ σ,P σ σ) (ho:PE X o (tD g E eo)) (hi:PE X i (tD g E ei)) (hs:PSet X (rSet g E f))
  (ha:∀v,assign (.Subscript o i pos) X.env v=(do
   let ov ← holding [v] (eval o X.env)
   let iv ← holding [v,ov] (eval i X.env)
   standAt pos
   holding [v,ov,iv] (setItem ov iv v)
   release [v,ov,iv] []):=by intro _; rfl):PG X (.Subscript o i pos) (tG g E P (gIx eo ei f)):=by
 refine (pg_sub ho hi hs ha).imp fun v σ H Q h=>?_
 obtain ⟨m,S,L,d,r,l,rv,q⟩:=h
 refine ⟨m,S,L,r,l,(Aft.bind q).mono fun d1 m1 S1 H1 e1 r1 q1 v1 rv1=>?_⟩
 refine ⟨m1,S1,L,r1,l.ext e1,(Aft.bind q1).mono fun d2 m2 S2 H2 e2 r2 q2 v2 rv2=>?_⟩
 refine ⟨m2,S2,d1,d2,d,r2,rv1.ext e2,rv2,rv.ext (e1.trans e2),(Aft.bind q2).mono fun _ m3 S3 H3 e3 r3 q3=>?_⟩
 exact q3.ok r3 σ (l.ext (e1.trans (e2.trans e3))) (hP σ)
end
end VL
namespace VL
open PySem PySem.Spec PyProof.Rows L2
mutual
def D.beq:D->D->Bool
 | .non,.non=>true
 | .bl a,.bl b=>a == b
 | .int a,.int b=>a == b
 | .str a,.str b=>decide (a=b)
 | .ty a,.ty b=>a == b
 | .tup a,.tup b=>D.beqs a b
 | .ctp a,.ctp b=>D.beqs a b
 | .lst a,.lst b=>D.beqs a b
 | .dic a x,.dic b y=>decide (a=b) && D.beqs x y
 | .dct a x,.dct b y=>decide (a=b) && D.beqs x y
 | .obj a k x,.obj b l y=>decide (a=b) && (decide (k=l) && D.beqs x y)
 | .scr a,.scr b=>decide (a=b)
 | .ref a,.ref b=>a == b
 | .kref a,.kref b=>a == b
 | _,_=>false
def D.beqs:List D->List D->Bool
 | [],[]=>true
 | a :: as,b :: bs=>D.beq a b && D.beqs as bs
 | _,_=>false
end
mutual
theorem D.beq_eq:∀{a b:D},D.beq a b=true->a=b
 | .non,b,h=>by cases b <;> simp [D.beq] at h; rfl
 | .bl _,b,h=>by cases b <;> simp [D.beq] at h; subst h; rfl
 | .int _,b,h=>by cases b <;> simp [D.beq] at h; subst h; rfl
 | .str _,b,h=>by cases b <;> simp [D.beq] at h; subst h; rfl
 | .ty _,b,h=>by cases b <;> simp [D.beq] at h; subst h; rfl
 | .ref _,b,h=>by cases b <;> simp [D.beq] at h; subst h; rfl
 | .kref _,b,h=>by cases b <;> simp [D.beq] at h; subst h; rfl
 | .scr _,b,h=>by cases b <;> simp [D.beq] at h; subst h; rfl
 | .tup as,b,h=>by
  cases b <;> simp [D.beq] at h
  rw [D.beqs_eq h]
 | .ctp as,b,h=>by
  cases b <;> simp [D.beq] at h
  rw [D.beqs_eq h]
 | .lst as,b,h=>by
  cases b <;> simp [D.beq] at h
  rw [D.beqs_eq h]
 | .dic _ as,b,h=>by
  cases b <;> simp [D.beq] at h
  rw [h.1,D.beqs_eq h.2]
 | .dct _ as,b,h=>by
  cases b <;> simp [D.beq] at h
  rw [h.1,D.beqs_eq h.2]
 | .obj _ _ as,b,h=>by
  cases b <;> simp [D.beq] at h
  rw [h.1,h.2.1,D.beqs_eq h.2.2]
theorem D.beqs_eq:∀{as bs:List D},D.beqs as bs=true->as=bs
 | [],bs,h=>by cases bs <;> simp [D.beqs] at h; rfl
 | a :: as,bs,h=>by
  cases bs with
  | nil=>simp [D.beqs] at h
  | cons b bs =>
   simp [D.beqs] at h
   rw [D.beq_eq h.1,D.beqs_eq h.2]
end
mutual
theorem D.beq_refl:∀a:D,D.beq a a=true
 | .non=>rfl
 | .bl a=>by simp [D.beq]
 | .int _=>by simp [D.beq]
 | .str _=>by simp [D.beq]
 | .ty _=>by simp [D.beq]
 | .ref _=>by simp [D.beq]
 | .kref _=>by simp [D.beq]
 | .scr _=>by simp [D.beq]
 | .tup as=>by simp [D.beq,D.beqs_refl as]
 | .ctp as=>by simp [D.beq,D.beqs_refl as]
 | .lst as=>by simp [D.beq,D.beqs_refl as]
 | .dic _ as=>by simp [D.beq,D.beqs_refl as]
 | .dct _ as=>by simp [D.beq,D.beqs_refl as]
 | .obj _ _ as=>by simp [D.beq,D.beqs_refl as]
theorem D.beqs_refl:∀as:List D,D.beqs as as=true
 | []=>rfl
 | a :: as=>by simp [D.beqs,D.beq_refl a,D.beqs_refl as]
end
def R.calm {a:Type} (r:R a):R a:=match r with
 | .exc _ _ _=>.bad
 | r=>r
@[simp] theorem R.calm_ok {a:Type} (x:a) (S:Sto):(R.ok x S).calm=.ok x S:=rfl
@[simp] theorem R.calm_bad {a:Type}:(R.bad:R a).calm=.bad:=rfl
theorem Aft.calmA {a b:Type} {g:G} {E:XD} {m:Mp} {H:Hp} {r:R a} {k:a->Sto->R b} {Q:b->Mp->Sto->Hp->Prop} (h:Aft g E m H (r.calm.bind k) Q) (m0:Mp) (H0:Hp):Aft g NoX m0 H0 r fun x _ S1 _=>Aft g E m H (k x S1) Q:=by
 cases r with
 | ok x S=>exact fun m' H' e' q=>h
 | exc c fs S=>exact (show False from h).elim
 | bad=>exact h
structure Wk where
 ds:List D
 ok:Sto->Bool
def okL (n:Nat) (ds:List D):Sto->Bool:=fun S=>match S[n]? with
 | some (.lst ds')=>D.beqs ds ds'
 | _=>false
def JD (g:G) (J:It) (W:Wk) (m0:Mp) (H0:Hp):Prop :=
 ∀(i:Nat) (m:Mp) (S:Sto) (H:Hp),Exk m0 H0 m H->Rel g m S H->W.ok S=true ->
  (W.ds[i]?=none->J.stop i H)/\∀d,W.ds[i]?=some d->J.go i H/\∀x H',J.yld i H x H'->Ext g m H m H'/\Rel g m S H'/\RV g m H' d x
def tI (g:G) (E:XD) (w:Lc->Sto->R Wk):TI:=fun σ H Q=>∃m S L,Rel g m S H/\RL g m H L σ/\Aft g E m H (w L S) fun W m' _ H'=>∀J,JD g J W m' H'->Q J H'
theorem _root_.L2.PI.imp {X:Cx} {tg e:Expr} {t t':TI} (h:PI X tg e t) (k:∀ σ H Q,t' σ H Q->t σ H Q):PI X tg e t':=⟨fun pins s σ H Q I q=>h.run pins s σ H Q I (k σ H Q q)⟩
def forL (ok:Sto->Bool) (t:D->Lc->Sto->R Lc) (fb:SF):List D->SF
 | []=>fun L S=>if ok S=true then .ok (.nx L) S else .bad
 | d :: ds=>fun L S=>if ok S=true then (t d L S).bind fun L1 S1=>(fb L1 S1).bind fun f S2=>match f with
   | .nx L2=>forL ok t fb ds L2 S2
   | .ct L2=>forL ok t fb ds L2 S2
   | .bk L2=>.ok (.nx L2) S2
   | .rt d=>.ok (.rt d) S2
  else .bad
def sFor (w:Lc->Sto->R Wk) (t:D->Lc->Sto->R Lc) (fb:SF):SF:=fun L S=>(w L S).bind fun W S1=>forL W.ok t fb W.ds L S1
theorem drop_cons {ds:List D} {i:Nat} {d:D} (h:ds[i]?=some d):ds.drop i=d :: ds.drop (i+1):=by
 obtain ⟨hi,rfl⟩:=List.getElem?_eq_some_iff.mp h
 exact List.drop_eq_getElem_cons hi
section
variable {X:Cx} {g:G} {E:XD} {pos:Pos} {tg iter:Expr} {body:List Stmt} {w:Lc->Sto->R Wk} {t:D->Lc->Sto->R Lc} {fb:SF}
theorem ds_for (hp:PassesOwn (model X.prog X.w) X.A X.env X.xe) (hc:X.calm=true) (hi:PI X tg iter (tI g E w)) (hg:PG X tg (tG g E AnyP t)) (hb:PSs X body (tF g E fb))
  (hs:∀x,foldedSetIterable iter X.env x=pure x:=by intro _; rfl):PS X (.For tg iter body [] pos) (tF g E (sFor w t fb)):=by
 refine (ps_for hp hc hi hg hb hs).imp fun Dn σ H h=>?_
 obtain ⟨m,S,L,r,l,q⟩:=h
 refine ⟨m,S,L,r,l,(Aft.bind q).mono fun W m1 S1 H1 e1 r1 q1 J hJ=>?_⟩
 refine ⟨fun i k σ' H'=>∃m' S' L',Ext g m1 H1 m' H'/\Rel g m' S' H'/\RL g m' H' L' σ'/\k=W.ds.length - i/\i<=W.ds.length/\Aft g E m' H' (forL W.ok t fb (W.ds.drop i) L' S') (fQ g Dn),
  ⟨_,m1,S1,L,.refl,r1,l.ext e1,rfl,Nat.zero_le _,q1⟩,?_⟩
 rintro i k σ' H' ⟨m',S',L',e',r',l',rfl,hle,q'⟩
 cases hd:W.ds[i]? with
 | none =>
  have hlen:W.ds.length<=i:=List.getElem?_eq_none_iff.mp hd
  rw [List.drop_eq_nil_of_le hlen] at q'
  unfold forL at q'
  split at q'
  ·rename_i hok
   exact .inl ⟨(hJ i m' S' H' e'.toExk r' hok).1 hd,q'.ok r' σ' l'⟩
  ·exact q'.elim
 | some d =>
  have hlt:i < W.ds.length:=(List.getElem?_eq_some_iff.mp hd).1
  rw [drop_cons hd] at q'
  unfold forL at q'
  split at q'
  ·rename_i hok
   obtain ⟨hgo,hy⟩:=(hJ i m' S' H' e'.toExk r' hok).2 d hd
   refine .inr ⟨hgo,fun σ2 H2=>∃m2 S2 L2,Ext g m1 H1 m2 H2/\Rel g m2 S2 H2/\RL g m2 H2 L2 σ2/\Aft g E m2 H2 (forL W.ok t fb (W.ds.drop (i+1)) L2 S2) (fQ g Dn),?_,fun x H3 y=>?_⟩
   ·rintro σ2 H2 ⟨m2,S2,L2,e2,r2,l2,q2⟩
    exact ⟨_,by omega,m2,S2,L2,e2,r2,l2,rfl,hlt,q2⟩
   ·obtain ⟨ex,rx,rv⟩:=hy x H3 y
    refine ⟨m',S',L',d,rx,l'.ext ex,rv,((Aft.bind q').later ex).mono fun L1 m4 S4 H4 e4 r4 q4 σ4 l4 _=>?_⟩
    refine ⟨m4,S4,L1,r4,l4,(Aft.bind q4).mono fun f m5 S5 H5 e5 r5 q5=>?_⟩
    have e15:Ext g m1 H1 m5 H5:=e'.trans (ex.trans (e4.trans e5))
    cases f with
    | nx L2=>exact fun σ5 l5=>⟨m5,S5,L2,e15,r5,l5,q5⟩
    | ct L2=>exact fun σ5 l5=>⟨m5,S5,L2,e15,r5,l5,q5⟩
    | bk L2=>exact fun σ5 l5=>q5.ok r5 σ5 l5
    | rt d=>exact fun v rv=>q5.ok r5 v rv
  ·exact q'.elim
end
def lcL (ok:Sto->Bool) (t:D->Lc->Sto->R Lc) (tt:Lc->Sto->R Bool) (te:Lc->Sto->R D) (L:Lc):List D->List D->Sto->R D
 | [],acc=>fun S=>if ok S=true then .ok (.lst acc) S else .bad
 | d :: ds,acc=>fun S=>if ok S=true then (t d L S).calm.bind fun L1 S1=>(tt L1 S1).calm.bind fun b S2 =>
   if b=true then (te L1 S2).calm.bind fun y S3=>if acc.length < sizeLine then lcL ok t tt te L ds (acc++[y]) S3 else .bad
   else lcL ok t tt te L ds acc S2
  else .bad
def eLc (w:Lc->Sto->R Wk) (t:D->Lc->Sto->R Lc) (tt:Lc->Sto->R Bool) (te:Lc->Sto->R D) (vs:List Nat):Lc->Sto->R D:=fun L S=>(w L S).bind fun W S1=>lcL W.ok t tt te (zjb L vs) W.ds [] S1
def tYesD:Lc->Sto->R Bool:=fun _ S=>.ok true S
theorem wipe_wipe (σ : St) (vs:List Nat):wipe (wipe σ vs) vs=wipe σ vs:=by
 apply List.ext_getElem?
 intro j
 cases hj:(wipe (wipe σ vs) vs)[j]? with
 | none =>
  have:=List.getElem?_eq_none_iff.mp hj
  rw [wipe_length,wipe_length] at this
  rw [List.getElem?_eq_none (by rw [wipe_length]; exact this)]
 | some o =>
  have hl:j < σ.length:=by have:=(List.getElem?_eq_some_iff.mp hj).1; rwa [wipe_length,wipe_length] at this
  cases o with
  | some v=>exact (wipe_some hj).1.symm
  | none =>
   have hl2:j < (wipe σ vs).length:=by rw [wipe_length]; exact hl
   cases hk:(wipe σ vs)[j]? with
   | none=>rw [List.getElem?_eq_getElem hl2] at hk; cases hk
   | some o2 =>
    cases o2 with
    | none=>rfl
    | some v2 =>
     exfalso
     have hnj:=(wipe_some hk).2
     have keep:∀(us:List Nat),j∉us->(wipe (wipe σ vs) us)[j]?=some (some v2):=by
      intro us hu
      induction us with
      | nil=>exact hk
      | cons u us ih =>
       show ((wipe (wipe σ vs) us).set u none)[j]?=some (some v2)
       have h1:u≠j:=fun z=>hu (by simp [z])
       rw [List.getElem?_set_ne h1]
       exact ih fun z=>hu (List.mem_cons_of_mem _ z)
     rw [keep vs hnj] at hj
     cases hj
section
variable {X:Cx} {g:G} {E:XD} {pos:Pos} {elt tg iter:Expr} {ifs:List Expr} {scope:Scope} {own:List (Str × Nat)} {w:Lc->Sto->R Wk} {t:D->Lc->Sto->R Lc} {tt:Lc->Sto->R Bool} {te:Lc->Sto->R D}
theorem _root_.L2.PTs.imp {X:Cx} {e:List Expr} {t t':TT} (h:PTs X e t) (k:∀ σ H Q,t' σ H Q->t σ H Q):PTs X e t':=⟨fun pins s σ H Q I q=>h.run pins s σ H Q I (k σ H Q q)⟩
theorem dts_nil {E:XD}:PTs X [] (tT g E tYesD):=pts_nil.imp fun σ H Q h=>by
 obtain ⟨m,S,L,r,l,q⟩:=h
 exact q.ok r
theorem dts_one {E:XD} {c:Expr} (h:PT X c (tT g E tt)):PTs X [c] (tT g E tt):=pts_one h
theorem RL.extw {m m':Mp} {H H':Hp} {L:Lc} {σ : St} (h:RL g m H L σ) (e:Exw m H m' H'):RL g m' H' L σ :=
 ⟨h.1,fun i d q=>let ⟨v,h1,h2⟩:=h.2 i d q; ⟨v,h1,h2.extw e⟩⟩
structure Mk1 (g:G) (m1:Mp) (H1:Hp) (p:Addr) (o:HO) (m':Mp) (S':Sto) (H':Hp):Prop where
 ex:Exw m1 H1 m' H'
 po:m'.o=p :: m1.o
 kp:∀a∈m1.o,H' a=H1 a
 pk:m'.k=m1.k
 kk:∀x∈m1.k,H' x.2=H1 x.2
 at_:H' p=some o
 r:Rel g m' S' H'
theorem Mk1.start {m1:Mp} {S1:Sto} {H1:Hp} {p:Addr} {o:HO} (r1:Rel g m1 S1 H1) (hp:H1 p=none):Mk1 g m1 H1 p o (m1.hold p) S1 (upd H1 p o) :=
 ⟨exw_hold hp,rfl,fun a ha=>upd_ne (fun z=>by subst z; exact r1.freshO hp ha),rfl,fun x hx=>upd_ne (r1.freshK hp hx),upd_same,r1.hold hp⟩
theorem Mk1.on {m1 m' m2:Mp} {S' S2:Sto} {H1 H' H2:Hp} {p:Addr} {o:HO} (k:Mk1 g m1 H1 p o m' S' H') (e:Ext g m' H' m2 H2) (r:Rel g m2 S2 H2):Mk1 g m1 H1 p o m2 S2 H2 :=
 ⟨k.ex.trans e.toExw,e.priv.trans k.po,fun a ha=>(e.keep a (by rw [k.po]; exact List.mem_cons_of_mem _ ha)).trans (k.kp a ha),e.privk.trans k.pk,fun x hx=>(e.keepk x (by rw [k.pk]; exact hx)).trans (k.kk x hx),(e.keep p (by rw [k.po]; exact List.mem_cons_self)).trans k.at_,r⟩
theorem Mk1.step {m1 m':Mp} {S':Sto} {H1 H':Hp} {p:Addr} {o o':HO} (k:Mk1 g m1 H1 p o m' S' H') (hp:H1 p=none):Exw m' H' m' (upd H' p o')/\Mk1 g m1 H1 p o' m' S' (upd H' p o'):=by
 have e:m'=(⟨m'.l,m1.o,m'.k⟩:Mp).hold p:=Mp.of_hold k.po
 have hh:Exw m' H' m' (upd H' p o'):=by rw [e]; exact exw_held
 refine ⟨hh,k.ex.trans hh,k.po,fun a ha=>?_,k.pk,fun x hx=>?_,upd_same,?_⟩
 ·by_cases z:a=p
  ·subst z
   have hr:=k.r
   rw [e] at hr
   exfalso
   have hn:H1 a=H' a:=(k.kp a ha).symm
   rw [hp,k.at_] at hn
   cases hn
  ·rw [upd_ne z]; exact k.kp a ha
 ·by_cases z:x.2=p
  ·exfalso
   have hn:H1 x.2=H' x.2:=(k.kk x hx).symm
   rw [z,hp,k.at_] at hn
   cases hn
  ·rw [upd_ne z]; exact k.kk x hx
 ·have hr:=k.r
  rw [e] at hr ⊢
  exact hr.held
theorem Mk1.done {m1 m':Mp} {S1 S':Sto} {H1 H':Hp} {p:Addr} {o:HO} (k:Mk1 g m1 H1 p o m' S' H') (r1:Rel g m1 S1 H1) (hp:H1 p=none) :
  Exw m' H' ⟨m'.l,m1.o,m'.k⟩ H'/\Ext g m1 H1 ⟨m'.l,m1.o,m'.k⟩ H'/\Rel g ⟨m'.l,m1.o,m'.k⟩ S' H'/\Un ⟨m'.l,m1.o,m'.k⟩ p:=by
 have e:m'=(⟨m'.l,m1.o,m'.k⟩:Mp).hold p:=Mp.of_hold k.po
 have hw:Exw m' H' ⟨m'.l,m1.o,m'.k⟩ H':=by
  have:=exw_free (m:=⟨m'.l,m1.o,m'.k⟩) (H:=H') (p:=p)
  rw [← e] at this
  exact this
 have hr:=k.r
 rw [e] at hr
 refine ⟨hw,.of (k.ex.trans hw) rfl k.kp k.pk k.kk,hr.free,(k.r.prv p (by rw [k.po]; exact List.mem_cons_self)).2,r1.freshO hp⟩
theorem Mk1.toSto {m1 m':Mp} {S1 S':Sto} {H1 H':Hp} {p:Addr} {o:HO} {ob:Ob} (k:Mk1 g m1 H1 p o m' S' H') (r1:Rel g m1 S1 H1) (hp:H1 p=none) (h:OR g m' H' ob o) :
  Exw m' H' ((⟨m'.l,m1.o,m'.k⟩:Mp).add p) H'/\Ext g m1 H1 ((⟨m'.l,m1.o,m'.k⟩:Mp).add p) H'/\Rel g ((⟨m'.l,m1.o,m'.k⟩:Mp).add p) (S'++[ob]) H'/\((⟨m'.l,m1.o,m'.k⟩:Mp).add p).l[S'.length]?=some (p,true):=by
 have e:m'=(⟨m'.l,m1.o,m'.k⟩:Mp).hold p:=Mp.of_hold k.po
 have hw:Exw m' H' ((⟨m'.l,m1.o,m'.k⟩:Mp).add p) H':=by
  have:=exw_own (m:=⟨m'.l,m1.o,m'.k⟩) (H:=H') (p:=p)
  rw [← e] at this
  exact this
 have hr:=k.r
 rw [e] at hr h
 refine ⟨hw,.of (k.ex.trans hw) rfl k.kp k.pk k.kk,hr.own (r1.freshO hp) k.at_ h,?_⟩
 have hl:m'.l.length=S'.length:=k.r.len
 show (m'.l++[(p,true)])[S'.length]?=some (p,true)
 rw [← hl]
 simp
theorem lc_loop {σ : St} {L:Lc} {vs:List Nat} {W:Wk} {J:It} {m1:Mp} {S1:Sto} {H1:Hp} {Q:VK} {P:D->Mp->Sto->Hp->Prop} (r1:Rel g m1 S1 H1) (l:RL g m1 H1 L σ) (hJ:JD g J W m1 H1) (q1:Aft g E m1 H1 (lcL W.ok t tt te (zjb L vs) W.ds [] S1) P)
  (hP:∀d m S H v,Ext g m1 H1 m H->Rel g m S H->P d m S H->RV g m H d v->Q v H) :
  ∀p,H1 p=none->∃Wp:Nat->Nat->Hp->Prop,(∃m,Wp 0 m (upd H1 p (.lst [])))/\∀i m H,Wp i m H ->
   (J.stop i H/\Q (.ref p) H)∨(J.go i H/\∃Nx:Hp->Prop,(∀H',Nx H'->∃m',m' < m/\Wp (i+1) m' H')/\∀x H',J.yld i H x H'->tG g NoX (WpP vs) t x (wipe σ vs) H' fun σ2 H2=>wipe σ2 vs=wipe σ vs/\tT g NoX tt σ2 H2 fun b H3 =>
    if b=true then tD g NoX te σ2 H3 fun v H4=>∃acc,H4 p=some (.lst acc)/\acc.length < sizeLine/\Nx (upd H4 p (.lst (acc++[v]))) else Nx H3):=by
 intro p hp
 refine ⟨fun i k H'=>∃m' S' acc us,Mk1 g m1 H1 p (.lst us) m' S' H'/\RVs g m' H' acc us/\k=W.ds.length - i/\i<=W.ds.length/\Aft g E m1 H1 (lcL W.ok t tt te (zjb L vs) (W.ds.drop i) acc S') P,
  ⟨_,_,_,[],[],.start r1 hp,.nil,rfl,Nat.zero_le _,q1⟩,?_⟩
 rintro i k H' ⟨m',S',acc,us,mk,ra,rfl,hle,q'⟩
 cases hd:W.ds[i]? with
 | none =>
  have hlen:W.ds.length<=i:=List.getElem?_eq_none_iff.mp hd
  rw [List.drop_eq_nil_of_le hlen] at q'
  unfold lcL at q'
  split at q'
  ·rename_i hok
   obtain ⟨hw,he,hr,hu⟩:=mk.done r1 hp
   exact .inl ⟨(hJ i m' S' H' ⟨mk.ex,mk.pk,mk.kk⟩ mk.r hok).1 hd,hP _ _ _ _ _ he hr (q'.at he hr) (rv_lst mk.at_ hu (ra.extw hw))⟩
  ·exact q'.elim
 | some d =>
  have hlt:i < W.ds.length:=(List.getElem?_eq_some_iff.mp hd).1
  rw [drop_cons hd] at q'
  unfold lcL at q'
  split at q'
  ·rename_i hok
   obtain ⟨hgo,hy⟩:=(hJ i m' S' H' ⟨mk.ex,mk.pk,mk.kk⟩ mk.r hok).2 d hd
   refine .inr ⟨hgo,fun H2=>∃m2 S2 acc us,Mk1 g m1 H1 p (.lst us) m2 S2 H2/\RVs g m2 H2 acc us/\Aft g E m1 H1 (lcL W.ok t tt te (zjb L vs) (W.ds.drop (i+1)) acc S2) P,?_,fun x H3 y=>?_⟩
   ·rintro H2 ⟨m2,S2,acc2,us2,mk2,ra2,q2⟩
    exact ⟨_,by omega,m2,S2,acc2,us2,mk2,ra2,rfl,hlt,q2⟩
   ·obtain ⟨ex,rx,rv⟩:=hy x H3 y
    have mk3:=mk.on ex rx
    have lw:RL g m' H3 (zjb L vs) (wipe σ vs):=(l.wipe vs).extw mk3.ex
    refine ⟨m',S',zjb L vs,d,rx,lw,rv,(Aft.calmA q' m' H3).mono fun L1 m4 S4 H4 e4 r4 q4 σ4 l4 w4=>?_⟩
    refine ⟨by rw [w4,wipe_wipe],m4,S4,L1,r4,l4,(Aft.calmA q4 m4 H4).mono fun b m5 S5 H5 e5 r5 q5=>?_⟩
    have e35:Ext g m' H' m5 H5:=ex.trans (e4.trans e5)
    cases b with
    | false=>exact ⟨m5,S5,acc,us,mk.on e35 r5,ra.ext e35,q5⟩
    | true =>
     refine ⟨m5,S5,L1,r5,l4.ext e5,(Aft.calmA q5 m5 H5).mono fun y m6 S6 H6 e6 r6 q6 v rv6=>?_⟩
     have mk6:=mk.on (e35.trans e6) r6
     have ra6:=ra.ext (e35.trans e6)
     split at q6
     ·rename_i hz
      obtain ⟨e7,mk7⟩:=mk6.step (o' := .lst (us++[v])) hp
      exact ⟨us,mk6.at_,by rw [ra6.length]; exact hz,m6,S6,acc++[y],us++[v],mk7,(ra6.append (.cons rv6 .nil)).extw e7,q6⟩
     ·exact q6.elim
  ·exact q'.elim
theorem lc_run {σ : St} {H:Hp} {Q:VK} {vs:List Nat} (h:tD g E (eLc w t tt te vs) σ H Q):tLc (tI g E w) (tG g NoX (WpP vs) t) (tT g NoX tt) (tD g NoX te) vs σ H Q:=by
 obtain ⟨m,S,L,r,l,q⟩:=h
 refine ⟨m,S,L,r,l,(Aft.bind q).mono fun W m1 S1 H1 e1 r1 q1 J hJ=>?_⟩
 exact lc_loop r1 (l.ext e1) hJ q1 fun d m2 S2 H2 v _ _ q2 rv=>q2 v rv
theorem de_lc {vs:List Nat} (hc:X.calm=true) (hN:X.N.Nodup) (hvs:own.map (·.2)=vs) (hi:PI X tg iter (tI g E w)) (ok:BlkOk X.N X.env.scope scope own)
  (hg:∀(s:Shared) (H:Hp) (C:Addr) (cl:List (Str × Addr)) (fp:List Addr),PG (X.blk s H scope (compEnvC scope cl C X.env) fp) tg (tG g NoX (WpP vs) t)) (ht:∀(s:Shared) (H:Hp) (C:Addr) (cl:List (Str × Addr)) (fp:List Addr),PTs (X.blk s H scope (compEnvC scope cl C X.env) fp) ifs (tT g NoX tt))
  (he:∀(s:Shared) (H:Hp) (C:Addr) (cl:List (Str × Addr)) (fp:List Addr),PE (X.blk s H scope (compEnvC scope cl C X.env) fp) elt (tD g NoX te)) (hs:∀x,foldedSetIterable iter X.env x=pure x:=by intro _; rfl) :
  PE X (.ListComp elt [⟨tg,iter,ifs,0⟩] scope pos) (tD g E (eLc w t tt te vs)):=by
 subst hvs
 exact (pe_lc hc hN hi ok hg ht he hs).imp fun σ H Q h=>lc_run h
end
def XW (g:G) (E:XK):XD:=fun c fs m _ H=>∀(C dx:Addr) (fvs:List (Str × V)),g.cl c=some C->H dx=some (.xd fvs)->Un m dx->fvs.map (·.1)=fs.map (·.1)->RVs g m H (fs.map (·.2)) (fvs.map (·.2))->E (.ref C) (some dx) H
def PX (X:Cx) (g:G) (E:XD):Prop := ∃E0:XK,Passes (L2.CX X.prog X.w) X E0/\∀c fs m S H,E c fs m S H->XW g E0 c fs m S H
theorem px_no {X:Cx} {g:G}:PX X g NoX:=⟨E0,passL,fun _ _ _ _ _ h=>h.elim⟩
theorem Aft.monoE {a:Type} {g:G} {E E':XD} {m:Mp} {H:Hp} {r:R a} {Q:a->Mp->Sto->Hp->Prop} (h:Aft g E m H r Q) (k:∀c fs m S H,E c fs m S H->E' c fs m S H):Aft g E' m H r Q:=by
 cases r with
 | ok x S=>exact h
 | exc c fs S=>exact fun m' H' e q=>k _ _ _ _ _ (h m' H' e q)
 | bad=>exact h
def spD (g:G) (n:Nat) (F:List D->Sto->R D):Sp:=fun vs H Q E=>vs.length=n/\∃m S ds,Rel g m S H/\RVs g m H ds vs/\Aft g (XW g E) m H (F ds S) (vQ g Q)
def dDef (n:Nat) (fb:SF):List D->Sto->R D:=fun ds S=>(fb (ds.map some++List.replicate (n - ds.length) none) S).bind fun f S'=>match f with
 | .rt d=>.ok d S'
 | .nx _=>.ok .non S'
 | _=>.bad
def ari (n:Nat) (F:List D->Sto->R D):List D->Sto->R D:=fun ds S=>if ds.length=n then F ds S else .bad
section
variable {P:Program} {w:World} {K:PySem.W.Frag} {mg:Str->Option Value} {base:Heap} {g:G}
theorem zqd {CX:CXT} {k n:Nat} {f:Addr} {fd:FuncData} {ps:List Str}:FnOk P w K mg base CX k f fd ps (spD g n fun _ _=>.bad) :=
 ⟨fun vs H Q E h=>by obtain ⟨_,m,S,ds,_,_,q⟩:=h; exact q.elim,fun A outer s H args us vs Q E hr h0 hb hv h=>by obtain ⟨_,m,S,ds,_,_,q⟩:=h; exact q.elim⟩
theorem zk4 {x qual:Str} {params:Arguments} {body:List Stmt} {scope:Scope} {dvs:List V} {kws:List (Str × V)} {f:Addr} {fd:FuncData} {N ps:List Str} {k n nn:Nat} {fb:SF} (F:FunD K x qual params body scope dvs kws f fd) (Sc:FnScope N ps scope) (hn:ps.length=n) (hN:N.length=nn)
  (hbody:∀(cdv:Value) (A:Around) (outer:List Env) (s:Shared) (H:Hp) (E:XK) (X:Cx),X=cxOf (L2.CX P w) P w K mg base N qual scope f cdv A outer s H E->Room k X.A->PX X g (XW g E)->Takes X (fun cls d _ H=>E cls d H)->PassesOwn (model X.prog X.w) X.A X.env X.xe ->
   PSs (cxOf (L2.CX P w) P w K mg base N qual scope f cdv A outer s H E) body (tF g (XW g E) fb)):FnOk P w K mg base (L2.CX P w) (k+1) f fd ps (spD g n (dDef nn fb)):=by
 refine F.ok Sc (fun vs H Q E h=>h.1.trans hn.symm) fun cdv A outer s H vs Q E hr h=>?_
 obtain ⟨hl,m,S,ds,r,rv,q⟩:=h
 have tk:Takes (cxOf (L2.CX P w) P w K mg base N qual scope f cdv A outer s H E) (fun cls d _ H=>E cls d H):=takes_of rfl rfl rfl rfl
 refine ⟨_,hbody cdv A outer s H E _ rfl hr ⟨E,passes_call tk fun _ _ _ _ h=>h,fun _ _ _ _ _ h=>h⟩ tk (passes_of rfl),m,S,_,r,RL.begin rv N,?_⟩
 rw [hN]
 refine (Aft.bind q).mono fun fl m1 S1 H1 e1 r1 q1=>?_
 cases fl with
 | rt d=>exact fun v rv=>q1.ok r1 v rv
 | nx L=>exact fun σ _=>q1.ok r1 _ rv_non
 | bk L=>exact q1.elim
 | ct L=>exact q1.elim
end
section
variable {X:Cx} {g:G} {E:XD} {k n:Nat} {f:Addr} {fd:FuncData} {ps:List Str} {Fn:List D->Sto->R D} {x:Str} {p pos:Pos} {e:Expr} {es:List Expr} {ls:Lc->Sto->R (List D)}
theorem sp_call {E0:XK} {m1:Mp} {S1:Sto} {H1:Hp} {ds:List D} {vs:List V} {Q:VK} (hE:∀c fs m S H,E c fs m S H->XW g E0 c fs m S H) (r1:Rel g m1 S1 H1) (rvs:RVs g m1 H1 ds vs) (q1:Aft g E m1 H1 (ari n Fn ds S1) (vQ g Q)):spD g n Fn vs H1 Q E0:=by
 unfold ari at q1
 split at q1
 ·rename_i hz
  exact ⟨by rw [rvs.length]; exact hz,m1,S1,ds,r1,rvs,q1.monoE hE⟩
 ·exact q1.elim
theorem zq9 (F:FnOk X.prog X.w X.K X.mg X.base (L2.CX X.prog X.w) k f fd ps (spD g n Fn)) (hr:Room k X.A) (hg:Gl X x) (hm:X.mg x=some (.ref f)) (hk:PySem.W.keepIn X.K (.ref f)=true) (hb:Binds X.K fd ps []) (hx:PX X g E)
  (ha:PA X (e :: es) (tL g E ls)) (hdb:(x == ("__debug__" : Str))=false:=by decide) (he:starEach (e :: es) X.env=(false,eval e X.env) :: starEach es X.env:=by rfl) (hpl:(backTo pos (starEach es X.env)).any (·.1)=false:=by rfl) :
  PE X (.Call (.Name x p) (e :: es) [] pos) (tD g E (zq7 (ari n Fn) ls)):=by
 obtain ⟨E0,hp,hE⟩:=hx
 refine (pe_call F hr hg hm hk hb .nil hp ha hdb he hpl).imp fun σ H Q h=>?_
 obtain ⟨m,S,L,r,l,q⟩:=h
 refine ⟨m,S,L,r,l,(Aft.bind q).mono fun ds m1 S1 H1 e1 r1 q1 vs rvs=>?_⟩
 show spD g n Fn (vs++[]) H1 Q E0
 rw [List.append_nil]
 exact sp_call hE r1 rvs q1
end
end VL
namespace VL
open PySem PySem.Spec PyProof.Rows L2
def zjj (d:D) (S:Sto):Option (List D):=match d with
 | .lst ds=>some ds
 | .ref n=>match S[n]? with
  | some (.lst ds)=>some ds
  | _=>none
 | .scr ns=>some (ns.map D.int)
 | _=>none
def lstO (d:D) (S:Sto):Option (List D):=match d with
 | .lst ds=>some ds
 | .ref n=>match S[n]? with
  | some (.lst ds)=>some ds
  | _=>none
 | _=>none
theorem rvs_ints {g:G} {m:Mp} {H:Hp}:∀ns:List Int,RVs g m H (ns.map D.int) (ns.map V.int)
 | []=>.nil
 | n :: ns=>.cons zqm (rvs_ints ns)
theorem zk7 {g:G} {m:Mp} {S:Sto} {H:Hp} (r:Rel g m S H) {d:D} {v:V} (rv:RV g m H d v) {ds:List D} (h:lstO d S=some ds):∃a vs,v=.ref a/\H a=some (.lst vs)/\RVs g m H ds vs:=by
 unfold lstO at h
 split at h
 ·cases h
  obtain ⟨a,vs,rfl,h1,_,h2⟩:=of_lst rv
  exact ⟨a,vs,rfl,h1,h2⟩
 ·split at h
  ·rename_i e
   cases h
   obtain ⟨a,o,rfl,_,h1,vs,rfl,h2⟩:=r.at rv e (by intro z; cases z)
   exact ⟨a,vs,rfl,h1,h2⟩
  ·cases h
 ·cases h
theorem zjx {g:G} {m:Mp} {S:Sto} {H:Hp} (r:Rel g m S H) {d:D} {v:V} (rv:RV g m H d v) {ds:List D} (h:zjj d S=some ds):∃a vs,v=.ref a/\SqL g.K H a vs/\RVs g m H ds vs:=by
 cases d with
 | scr ns =>
  cases h
  obtain ⟨a,rfl,h1⟩:=of_scr rv
  exact ⟨a,_,rfl,h1.sq,rvs_ints ns⟩
 | lst ds' =>
  obtain ⟨a,vs,rfl,h1,h2⟩:=zk7 r rv (d := .lst ds') h
  exact ⟨a,vs,rfl,.of h1,h2⟩
 | ref n =>
  obtain ⟨a,vs,rfl,h1,h2⟩:=zk7 r rv (d := .ref n) h
  exact ⟨a,vs,rfl,.of h1,h2⟩
 | _=>cases h
theorem lst_ref {g:G} {m:Mp} {S:Sto} {H:Hp} (r:Rel g m S H) {n:Nat} {v:V} (rv:RV g m H (.ref n) v) {ds:List D} (h:S[n]?=some (.lst ds)):∃a vs,v=.ref a/\m.l[n]?=some (a,true)/\H a=some (.lst vs)/\RVs g m H ds vs:=by
 obtain ⟨a,o,rfl,ha,h1,vs,rfl,h2⟩:=r.at rv h (by intro z; cases z)
 exact ⟨a,vs,rfl,ha,h1,h2⟩
section
variable {X:Cx} {g:G} {E:XD}
def addD (x y:D) (S:Sto):R D:=match x,y with
 | .int i,.int j=>.ok (.int (i+j)) S
 | .str a,.str b=>if a.length+b.length<=sizeLine then .ok (.str (a++b)) S else .bad
 | .tup a,.tup b=>if a.length+b.length<=sizeLine then .ok (.tup (a++b)) S else .bad
 | x,y=>match lstO x S,lstO y S with
  | some xs,some ys=>newL (xs++ys) S
  | _,_=>.bad
theorem od_add (hK:X.K=g.K):OpR X (binaryOp .Add) (rD2 g E addD):=by
 intro pins s σ H x y v u Q I rx ry h
 obtain ⟨m,S,d,d',r,h1,h2,q⟩:=h
 unfold addD at q
 split at q
 ·exact op_add pins s σ H x y v u Q I rx ry ⟨_,_,zq6 h1,zq6 h2,q.ok r _ zqm⟩
 ·split at q
  ·rename_i hz
   exact op_add_str pins s σ H x y v u Q I rx ry ⟨_,_,zqo h1,zqo h2,hz,q.ok r _ zjk⟩
  ·exact q.elim
 ·split at q
  ·rename_i ds es hz
   obtain ⟨a,vs,rfl,t1,v1⟩:=zjc h1
   obtain ⟨b,us,rfl,t2,v2⟩:=zjc h2
   have s1:=t1.sq
   have s2:=t2.sq
   refine op_catA pins s σ H _ _ v u Q I rx ry ⟨a,b,vs,us,rfl,rfl,by rw [hK]; exact s1,by rw [hK]; exact s2,by rw [v1.length,v2.length]; exact hz,fun e=>?_,fun _ e=>?_,fun _ _ p hp=>?_⟩
   ·subst e
    have:ds=[]:=by have:=v1.length; cases ds; rfl; simp at this
    subst this
    exact q.ok r _ (zjn t2 v2)
   ·subst e
    have:es=[]:=by have:=v2.length; cases es; rfl; simp at this
    subst this
    rw [List.append_nil] at q
    exact q.ok r _ (zjn t1 v1)
   ·exact q.at (zqn r hp) (r.lay hp) _ (zjn ⟨upd_same,r.un hp⟩ ((v1.append v2).ext (zqn r hp)))
  ·exact q.elim
 ·split at q
  ·rename_i xs ys e1 e2
   obtain ⟨a,vs,rfl,H1,v1⟩:=zk7 r h1 e1
   obtain ⟨b,us,rfl,H2,v2⟩:=zk7 r h2 e2
   obtain ⟨hz,q'⟩:=newL_run q r (v1.append v2)
   exact op_cat pins s σ H _ _ v u Q I rx ry ⟨a,b,vs,us,rfl,rfl,H1,H2,by rw [← List.length_append]; exact hz,q'⟩
  ·exact q.elim
def subD (x y:D) (S:Sto):R D:=match x,y with
 | .int i,.int j=>.ok (.int (i - j)) S
 | _,_=>.bad
theorem od_sub:OpR X (binaryOp .Sub) (rD2 g E subD):=by
 intro pins s σ H x y v u Q I rx ry h
 obtain ⟨m,S,d,d',r,h1,h2,q⟩:=h
 unfold subD at q
 split at q
 ·exact op_sub pins s σ H x y v u Q I rx ry ⟨_,_,zq6 h1,zq6 h2,q.ok r _ zqm⟩
 ·exact q.elim
def mulD (x y:D) (S:Sto):R D:=match x,y with
 | .int i,.int j=>if Builtin.Int.intBits i+Builtin.Int.intBits j<=134217728 then .ok (.int (i * j)) S else .bad
 | x,.int k=>match lstO x S with
  | some xs=>if -(2 ^ 63)<=k/\k < 2 ^ 63 then newL (List.replicate k.toNat xs).flatten S else .bad
  | _=>.bad
 | _,_=>.bad
theorem od_mul:OpR X (binaryOp .Mult) (rD2 g E mulD):=by
 intro pins s σ H x y v u Q I rx ry h
 obtain ⟨m,S,d,d',r,h1,h2,q⟩:=h
 unfold mulD at q
 split at q
 ·split at q
  ·rename_i hz
   exact op_mulX pins s σ H x y v u Q I rx ry ⟨_,_,zq6 h1,zq6 h2,by unfold CMulX; omega,q.ok r _ zqm⟩
  ·exact q.elim
 ·split at q
  ·rename_i xs e1
   split at q
   ·rename_i hz
    obtain ⟨a,vs,rfl,H1,v1⟩:=zk7 r h1 e1
    obtain ⟨hz',q'⟩:=newL_run q r (v1.rep _)
    refine op_rep pins s σ H _ _ v u Q I rx ry ⟨a,_,vs,rfl,zq6 h2,H1,hz.1,hz.2,?_,q'⟩
    simpa [List.length_flatten,Nat.mul_comm] using hz'
   ·exact q.elim
  ·exact q.elim
 ·exact q.elim
def modD (x y:D) (S:Sto):R D:=match x,y with
 | .int i,.int j=>if 0 < j then .ok (.int (i % j)) S else .bad
 | _,_=>.bad
theorem od_mod:OpR X (binaryOp .Mod) (rD2 g E modD):=by
 intro pins s σ H x y v u Q I rx ry h
 obtain ⟨m,S,d,d',r,h1,h2,q⟩:=h
 unfold modD at q
 split at q
 ·split at q
  ·rename_i hz
   exact op_mod pins s σ H x y v u Q I rx ry ⟨_,_,zq6 h1,zq6 h2,hz,q.ok r _ zqm⟩
  ·exact q.elim
 ·exact q.elim
def powD (x y:D) (S:Sto):R D:=match x,y with
 | .int i,.int j=>if 0<=j/\j<=1000000/\i.natAbs < 2 ^ 64 then .ok (.int (i ^ j.toNat)) S else .bad
 | _,_=>.bad
theorem od_pow:OpR X (binaryOp .Pow) (rD2 g E powD):=by
 intro pins s σ H x y v u Q I rx ry h
 obtain ⟨m,S,d,d',r,h1,h2,q⟩:=h
 unfold powD at q
 split at q
 ·split at q
  ·rename_i hz
   exact op_pow pins s σ H x y v u Q I rx ry ⟨_,_,zq6 h1,zq6 h2,hz,q.ok r _ zqm⟩
  ·exact q.elim
 ·exact q.elim
def negD (x:D) (S:Sto):R D:=match x with
 | .int i=>.ok (.int (-i)) S
 | _=>.bad
theorem ud_neg:UnR X (unaryOp .USub) (rD1 g E negD):=by
 intro pins s σ H x v Q I rx h
 obtain ⟨m,S,d,r,h1,q⟩:=h
 unfold negD at q
 split at q
 ·exact un_neg pins s σ H x v Q I rx ⟨_,zq6 h1,q.ok r _ zqm⟩
 ·exact q.elim
def ordD (fi:Int->Int->Bool) (x y:D) (S:Sto):R D:=match x,y with
 | .int i,.int j=>.ok (.bl (fi i j)) S
 | _,_=>.bad
theorem od_lt:OpR X (compareOp .Lt) (rD2 g E (ordD fun i j=>decide (i < j))):=by
 intro pins s σ H x y v u Q I rx ry h
 obtain ⟨m,S,d,d',r,h1,h2,q⟩:=h
 unfold ordD at q
 split at q
 ·exact op_lt pins s σ H x y v u Q I rx ry ⟨_,_,zq6 h1,zq6 h2,q.ok r _ zqr⟩
 ·exact q.elim
theorem od_le:OpR X (compareOp .LtE) (rD2 g E (ordD fun i j=>decide (i<=j))):=by
 intro pins s σ H x y v u Q I rx ry h
 obtain ⟨m,S,d,d',r,h1,h2,q⟩:=h
 unfold ordD at q
 split at q
 ·exact op_le pins s σ H x y v u Q I rx ry ⟨_,_,zq6 h1,zq6 h2,q.ok r _ zqr⟩
 ·exact q.elim
theorem od_gt:OpR X (compareOp .Gt) (rD2 g E (ordD fun i j=>decide (j < i))):=by
 intro pins s σ H x y v u Q I rx ry h
 obtain ⟨m,S,d,d',r,h1,h2,q⟩:=h
 unfold ordD at q
 split at q
 ·exact op_gt pins s σ H x y v u Q I rx ry ⟨_,_,zq6 h1,zq6 h2,q.ok r _ zqr⟩
 ·exact q.elim
theorem od_ge:OpR X (compareOp .GtE) (rD2 g E (ordD fun i j=>decide (j<=i))):=by
 intro pins s σ H x y v u Q I rx ry h
 obtain ⟨m,S,d,d',r,h1,h2,q⟩:=h
 unfold ordD at q
 split at q
 ·exact op_ge pins s σ H x y v u Q I rx ry ⟨_,_,zq6 h1,zq6 h2,q.ok r _ zqr⟩
 ·exact q.elim
def D.isNon:D->Bool
 | .non=>true
 | _=>false
def isD (neg:Bool) (x y:D) (S:Sto):R D:=match y with
 | .non=>.ok (.bl (neg != x.isNon)) S
 | .bl b=>match x with
  | .bl a=>.ok (.bl (neg != decide (a=b))) S
  | _=>.bad
 | _=>.bad
def mapO (f:D->Option PyData):List D->Option (List PyData)
 | []=>some []
 | d :: ds=>match f d,mapO f ds with
  | some p,some ps=>some (p :: ps)
  | _,_=>none
def toP (S:Sto):Nat->D->Option PyData
 | 0=>fun _=>none
 | k+1=>fun d=>match d with
  | .non=>some .none
  | .bl b=>some (.bool b)
  | .int i=>some (.int i)
  | .str x=>some (.str x)
  | .tup ds=>(mapO (toP S k) ds).map .tuple
  | .lst ds=>(mapO (toP S k) ds).map .list
  | .ref n=>match S[n]? with
   | some (.lst ds)=>(mapO (toP S k) ds).map .list
   | _=>none
  | _=>none
theorem mapO_run {g:G} {m:Mp} {H:Hp} {f:D->Option PyData} (hf:∀{d:D} {v:V} {p:PyData},RV g m H d v->f d=some p->Dp g.K H v p):∀{ds:List D} {vs:List V} {ps:List PyData},RVs g m H ds vs->mapO f ds=some ps->DpAll g.K H vs ps
 | [],vs,ps,h,e=>by rw [h.nil_iff]; simp [mapO] at e; subst e; exact .nil
 | d :: ds,vs,ps,h,e=>by
  obtain ⟨v,rr,rfl,h1,h2⟩:=h.cons_iff
  simp only [mapO] at e
  split at e
  ·rename_i p ps' e1 e2
   cases e
   exact .cons (hf h1 e1) (mapO_run hf h2 e2)
  ·cases e
theorem zj7 {g:G} {m:Mp} {S:Sto} {H:Hp} (r:Rel g m S H):∀(k:Nat) {d:D} {v:V} {p:PyData},RV g m H d v->toP S k d=some p->Dp g.K H v p
 | 0,d,v,p,_,e=>by simp [toP] at e
 | k+1,d,v,p,h,e=>by
  cases d with
  | non=>simp [toP] at e; subst e; rw [of_non h]; exact .non
  | bl b=>simp [toP] at e; subst e; rw [of_bl h]; exact .bl b
  | int b=>simp [toP] at e; subst e; rw [zq6 h]; exact .int b
  | str b=>simp [toP] at e; subst e; rw [zqo h]; exact .str b
  | ctp ds=>simp [toP] at e
  | tup ds =>
   simp [toP] at e
   obtain ⟨ps,e1,rfl⟩:=e
   obtain ⟨a,vs,rfl,h1,h2⟩:=of_tup h
   exact .tup h1 (mapO_run (fun h e=>zj7 r k h e) h2 e1)
  | lst ds =>
   simp [toP] at e
   obtain ⟨ps,e1,rfl⟩:=e
   obtain ⟨a,vs,rfl,h1,_,h2⟩:=of_lst h
   exact .lst (.of h1) (mapO_run (fun h e=>zj7 r k h e) h2 e1)
  | ref n =>
   simp only [toP] at e
   split at e
   ·rename_i ds e0
    simp at e
    obtain ⟨ps,e1,rfl⟩:=e
    obtain ⟨a,vs,rfl,_,h1,h2⟩:=lst_ref r h e0
    exact .lst (.of h1) (mapO_run (fun h e=>zj7 r k h e) h2 e1)
   ·cases e
  | ty b=>simp [toP] at e
  | kref n=>simp [toP] at e
  | dic _ _=>simp [toP] at e
  | dct _ _=>simp [toP] at e
  | obj _ _ _=>simp [toP] at e
  | scr _=>simp [toP] at e
def eqD (neg:Bool) (x y:D) (S:Sto):R D:=match x,y with
 | .int i,.int j=>.ok (.bl (neg != decide (i=j))) S
 | .str i,.str j=>.ok (.bl (neg != decide (i=j))) S
 | .bl i,.bl j=>.ok (.bl (neg != decide (i=j))) S
 | x,y=>match toP S 65 x,toP S 65 y with
  | some p,some q=>if SeqAt.shaped p=true/\SeqAt.shaped q=true then .ok (.bl (neg != PyData.eqv p q)) S else .bad
  | _,_=>.bad
theorem od_eq (hK:X.K=g.K) (hu:X.A.units+64 < cLine):OpR X (compareOp .Eq) (rD2 g E (eqD false )):=by
 intro pins s σ H x y v u Q I rx ry h
 obtain ⟨m,S,d,d',r,h1,h2,q⟩:=h
 unfold eqD at q
 split at q
 ·cases zq6 h1
  cases zq6 h2
  exact op_eq pins s σ H _ _ v u Q I rx ry ⟨rfl,q.ok r _ (by simp [RV])⟩
 ·cases zqo h1
  cases zqo h2
  exact op_eq pins s σ H _ _ v u Q I rx ry ⟨rfl,q.ok r _ (by simp [RV])⟩
 ·cases of_bl h1
  cases of_bl h2
  exact op_eq pins s σ H _ _ v u Q I rx ry ⟨rfl,q.ok r _ (by simp [RV])⟩
 ·split at q
  ·rename_i p p' e1 e2
   split at q
   ·rename_i hs
    refine op_eqD hu pins s σ H _ _ v u Q I rx ry ⟨p,p',by rw [hK]; exact zj7 r _ h1 e1,by rw [hK]; exact zj7 r _ h2 e2,hs.1,hs.2,q.ok r _ (by simp [zqr])⟩
   ·exact q.elim
  ·exact q.elim
theorem od_ne (hK:X.K=g.K) (hu:X.A.units+64 < cLine):OpR X (compareOp .NotEq) (rD2 g E (eqD true )):=by
 intro pins s σ H x y v u Q I rx ry h
 obtain ⟨m,S,d,d',r,h1,h2,q⟩:=h
 unfold eqD at q
 split at q
 ·cases zq6 h1
  cases zq6 h2
  exact op_ne pins s σ H _ _ v u Q I rx ry ⟨rfl,q.ok r _ (by simp [RV])⟩
 ·cases zqo h1
  cases zqo h2
  exact op_ne pins s σ H _ _ v u Q I rx ry ⟨rfl,q.ok r _ (by simp [RV])⟩
 ·cases of_bl h1
  cases of_bl h2
  exact op_ne pins s σ H _ _ v u Q I rx ry ⟨rfl,q.ok r _ (by simp [RV])⟩
 ·split at q
  ·rename_i p p' e1 e2
   split at q
   ·rename_i hs
    refine op_neD hu pins s σ H _ _ v u Q I rx ry ⟨p,p',by rw [hK]; exact zj7 r _ h1 e1,by rw [hK]; exact zj7 r _ h2 e2,hs.1,hs.2,q.ok r _ (by simp [zqr])⟩
   ·exact q.elim
  ·exact q.elim
def ixD (x y:D) (S:Sto):R D:=match y with
 | .int i=>match x with
  | .tup ds=>match atI ds i with
   | some d=>.ok d S
   | none=>.bad
  | .str z=>if z.length<=sizeLine then (match atI z.cps.toList i with
   | some c=>.ok (.str ⟨#[c]⟩) S
   | none=>.bad) else .bad
  | x=>match zjj x S with
   | some ds=>match atI ds i with
    | some d=>.ok d S
    | none=>.bad
   | none=>.bad
 | _=>.bad
theorem at_run {g:G} {m:Mp} {H:Hp} {ds:List D} {vs:List V} (h:RVs g m H ds vs) {i:Int} {d:D} (e:atI ds i=some d):∃v,atI vs i=some v/\RV g m H d v:=by
 unfold atI at e ⊢
 rw [h.length]
 cases q:ixN ds.length i with
 | none=>rw [q] at e; cases e
 | some j =>
  rw [q] at e
  exact h.get e
theorem xd_ix (hK:X.K=g.K):IxR X (rD2 g E (ixD )):=by
 intro value slice pins s σ H x y v u Q I rx ry h hs
 obtain ⟨m,S,d,d',r,h1,h2,q⟩:=h
 unfold ixD at q
 split at q
 ·rename_i i
  split at q
  ·split at q
   ·rename_i e
    obtain ⟨a,vs,rfl,s1,v1⟩:=of_tup h1
    obtain ⟨w,e1,e2⟩:=at_run v1 e
    exact ix_tup value slice pins s σ H _ _ v u Q I rx ry ⟨a,vs,_,w,rfl,zq6 h2,by rw [hK]; exact s1,e1,q.ok r _ e2⟩ hs
   ·exact q.elim
  ·split at q
   ·rename_i hz
    split at q
    ·rename_i e
     exact ix_str value slice pins s σ H _ _ v u Q I rx ry ⟨_,_,_,zqo h1,zq6 h2,hz,e,q.ok r _ zjk⟩ hs
    ·exact q.elim
   ·exact q.elim
  ·split at q
   ·rename_i e0
    split at q
    ·rename_i e
     obtain ⟨a,vs,rfl,s1,v1⟩:=zjx r h1 e0
     obtain ⟨w,e1,e2⟩:=at_run v1 e
     exact ix_list value slice pins s σ H _ _ v u Q I rx ry ⟨a,vs,_,w,rfl,zq6 h2,by rw [hK]; exact s1,e1,q.ok r _ e2⟩ hs
    ·exact q.elim
   ·exact q.elim
 ·exact q.elim
def setD (x y z:D) (S:Sto):R Unit:=match x,y with
 | .ref n,.int k=>match S[n]? with
  | some (.lst ds)=>match ixN ds.length k with
   | some j=>.ok () (S.set n (.lst (ds.set j z)))
   | none=>.bad
  | _=>.bad
 | _,_=>.bad
theorem sd_set:PSet X (rSet g E setD):=by
 intro pins s σ H o i v ov iv u Q I ro ri rv h
 obtain ⟨m,S,d1,d2,d3,r,h1,h2,h3,q⟩:=h
 unfold setD at q
 split at q
 ·split at q
  ·rename_i ds e0
   split at q
   ·rename_i j e1
    obtain ⟨a,vs,rfl,ha,H1,v1⟩:=lst_ref r h1 e0
    refine set_list pins s σ H _ _ v ov iv u Q I ro ri rv ⟨a,vs,_,j,rfl,zq6 h2,H1,by rw [v1.length]; exact e1,?_⟩
    exact q.at (ext_set r ha e0) (r.set ha e0 ⟨_,rfl,v1.set j h3⟩)
   ·exact q.elim
  ·exact q.elim
 ·exact q.elim
def pNo:Lc->Sto->R (Option Int):=fun _ S=>.ok none S
def pSo (e:Lc->Sto->R D):Lc->Sto->R (Option Int):=fun L S=>(e L S).bind fun d S1=>match d with
 | .int i=>.ok (some i) S1
 | _=>.bad
def cutD (xs:List D) (lo hi:Option Int):List D:=(xs.drop (HT.sIx xs.length 0 lo)).take (HT.sIx xs.length xs.length hi - HT.sIx xs.length 0 lo)
theorem RVs.cut {g:G} {m:Mp} {H:Hp} {ds:List D} {vs:List V} (h:RVs g m H ds vs) (lo hi:Option Int):RVs g m H (cutD ds lo hi) (cutV vs lo hi):=by
 unfold cutD cutV
 rw [h.length]
 exact (h.drop _).take _
def slD (x:D) (lo hi:Option Int) (S:Sto):R D:=match x with
 | .tup ds=>.ok (.tup (cutD ds lo hi)) S
 | .str z=>if z.length<=sizeLine then .ok (.str (cutS z lo hi)) S else .bad
 | x=>match zjj x S with
  | some ds=>newL (cutD ds lo hi) S
  | none=>.bad
def eSl (e:Lc->Sto->R D) (lo hi:Lc->Sto->R (Option Int)):Lc->Sto->R D:=fun L S=>(e L S).bind fun x S1=>(lo L S1).bind fun l S2=>(hi L S2).bind fun h S3=>slD x l h S3
def tP (g:G) (E:XD) (e:Lc->Sto->R (Option Int)):TO:=fun σ H Q=>∃m S L,Rel g m S H/\RL g m H L σ/\Aft g E m H (e L S) fun o _ _ H'=>Q o H'
theorem dp_none:PO X none (tP g E pNo):=by
 refine ⟨fun pins s σ H Q I h=>?_⟩
 obtain ⟨m,S,L,r,l,q⟩:=h
 exact po_none.run pins s σ H Q I (q.ok r)
theorem dp_some {e:Expr} {ea:Lc->Sto->R D} (he:PE X e (tD g E ea)):PO X (some e) (tP g E (pSo ea)):=by
 refine ⟨fun pins s σ H Q I h=>?_⟩
 refine (po_some he).run pins s σ H Q I ?_
 obtain ⟨m,S,L,r,l,q⟩:=h
 refine ⟨m,S,L,r,l,(Aft.bind q).mono fun d m1 S1 H1 e1 r1 q1 v rv=>?_⟩
 split at q1
 ·exact ⟨_,zq6 rv,q1.ok r1⟩
 ·exact q1.elim
def rSl (g:G) (E:XD) (f:D->Option Int->Option Int->Sto->R D):V->Option Int->Option Int->Hp->VK->Prop:=fun x lo hi H Q=>∃m S d,Rel g m S H/\RV g m H d x/\Aft g E m H (f d lo hi S) (vQ g Q)
theorem sx_sl (hK:X.K=g.K):SlR X (rSl g E (slD )):=by
 intro pins s σ H x v vl vu lo hi sl Q I rx hs pl pu h
 obtain ⟨m,S,d,r,h1,q⟩:=h
 unfold slD at q
 split at q
 ·rename_i ds
  obtain ⟨a,vs,rfl,t1,v1⟩:=zjc h1
  have s1:=t1.sq
  refine sl_tupA pins s σ H _ v vl vu lo hi sl Q I rx hs pl pu ⟨a,vs,rfl,by rw [hK]; exact s1,fun hw=>?_,fun _ p hp=>?_⟩
  ·have:cutD ds lo hi=ds:=by
    unfold cutD
    rw [v1.length] at hw
    rw [hw.1,hw.2]
    simp
   rw [this] at q
   exact q.ok r _ (zjn t1 v1)
  ·exact q.at (zqn r hp) (r.lay hp) _ (zjn ⟨upd_same,r.un hp⟩ ((v1.cut lo hi).ext (zqn r hp)))
 ·split at q
  ·rename_i hz
   exact sl_str pins s σ H _ v vl vu lo hi sl Q I rx hs pl pu ⟨_,zqo h1,hz,q.ok r _ zjk⟩
  ·exact q.elim
 ·split at q
  ·rename_i ds e0
   obtain ⟨a,vs,rfl,s1,v1⟩:=zjx r h1 e0
   obtain ⟨_,q'⟩:=newL_run q r (v1.cut lo hi)
   exact sl_list pins s σ H _ v vl vu lo hi sl Q I rx hs pl pu ⟨a,vs,rfl,by rw [hK]; exact s1,q'⟩
  ·exact q.elim
theorem de_sl {e:Expr} {lo hi:Option Expr} {p2 pos:Pos} {ea:Lc->Sto->R D} {el eh:Lc->Sto->R (Option Int)} (hK:X.K=g.K) (he:PE X e (tD g E ea)) (hl:PO X lo (tP g E el)) (hu:PO X hi (tP g E eh)):PE X (.Subscript e (.Slice lo hi none p2) pos) (tD g E (eSl  ea el eh)):=by
 refine (pe_slice (sx_sl (E:=E) hK) he hl hu).imp fun σ H Q h=>?_
 obtain ⟨m,S,L,r,l,q⟩:=h
 refine ⟨m,S,L,r,l,(Aft.bind q).mono fun d m1 S1 H1 e1 r1 q1 v rv=>?_⟩
 refine ⟨m1,S1,L,r1,l.ext e1,(Aft.bind q1).mono fun lo m2 S2 H2 e2 r2 q2=>?_⟩
 refine ⟨m2,S2,L,r2,l.ext (e1.trans e2),(Aft.bind q2).mono fun hi m3 S3 H3 e3 r3 q3=>?_⟩
 exact ⟨m3,S3,d,r3,rv.ext (e2.trans e3),q3⟩
end
end VL
namespace VL
open PySem PySem.Spec PyProof.Rows L2
section
variable {X:Cx} {g:G} {E:XD}
theorem rvs1 {m:Mp} {H:Hp} {d:D} {vs:List V} (h:RVs g m H [d] vs):∃v,vs=[v]/\RV g m H d v:=by
 obtain ⟨v,r,rfl,h1,h2⟩:=h.cons_iff
 rw [h2.nil_iff]
 exact ⟨v,rfl,h1⟩
theorem rvs2 {m:Mp} {H:Hp} {d d':D} {vs:List V} (h:RVs g m H [d,d'] vs):∃v v',vs=[v,v']/\RV g m H d v/\RV g m H d' v':=by
 obtain ⟨v,r,rfl,h1,h2⟩:=h.cons_iff
 obtain ⟨v',rfl,h3⟩:=rvs1 h2
 exact ⟨v,v',rfl,h1,h3⟩
def lenD (ds:List D) (S:Sto):R D:=match ds with
 | [.str z]=>if z.length<=sizeLine then .ok (.int z.length) S else .bad
 | [.tup ds]=>.ok (.int ds.length) S
 | [x]=>match zjj x S with
  | some ds=>.ok (.int ds.length) S
  | none=>.bad
 | _=>.bad
theorem cd_len (hK:X.K=g.K):CallR X (.builtin "len") (rDs g E (lenD)):=by
 intro pins s σ H xs us Q I r h
 obtain ⟨m,S,ds,rl,h1,q⟩:=h
 unfold lenD at q
 split at q
 ·split at q
  ·rename_i hz
   obtain ⟨v,rfl,h2⟩:=rvs1 h1
   exact call_len_str pins s σ H _ us Q I r ⟨_,by rw [zqo h2],hz,q.ok rl _ zqm⟩
  ·exact q.elim
 ·obtain ⟨v,rfl,h2⟩:=rvs1 h1
  obtain ⟨a,vs,rfl,s1,v1⟩:=of_tup h2
  exact call_len_seq pins s σ H _ us Q I r ⟨a,vs,rfl,.inr (by rw [hK]; exact s1),by rw [v1.length]; exact q.ok rl _ zqm⟩
 ·split at q
  ·rename_i e
   obtain ⟨v,rfl,h2⟩:=rvs1 h1
   obtain ⟨a,vs,rfl,s1,v1⟩:=zjx rl h2 e
   exact call_len_seq pins s σ H _ us Q I r ⟨a,vs,rfl,.inl (by rw [hK]; exact s1),by rw [v1.length]; exact q.ok rl _ zqm⟩
  ·exact q.elim
 ·exact q.elim
def absD (ds:List D) (S:Sto):R D:=match ds with
 | [.int i]=>.ok (.int (if i < 0 then -i else i)) S
 | _=>.bad
theorem cd_abs:CallR X (.builtin "abs") (rDs g E absD):=by
 intro pins s σ H xs us Q I r h
 obtain ⟨m,S,ds,rl,h1,q⟩:=h
 unfold absD at q
 split at q
 ·obtain ⟨v,rfl,h2⟩:=rvs1 h1
  exact call_abs pins s σ H _ us Q I r ⟨_,by rw [zq6 h2],q.ok rl _ zqm⟩
 ·exact q.elim
def intD (ds:List D) (S:Sto):R D:=match ds with
 | [.int i]=>.ok (.int i) S
 | [.bl k]=>.ok (.int (if k=true then 1 else 0)) S
 | _=>.bad
theorem cd_int:CallR X (.type "int") (rDs g E intD):=by
 intro pins s σ H xs us Q I r h
 obtain ⟨m,S,ds,rl,h1,q⟩:=h
 unfold intD at q
 split at q
 ·obtain ⟨v,rfl,h2⟩:=rvs1 h1
  exact call_int1 pins s σ H _ us Q I r (.inl ⟨_,by rw [zq6 h2],q.ok rl _ zqm⟩)
 ·obtain ⟨v,rfl,h2⟩:=rvs1 h1
  exact call_int1 pins s σ H _ us Q I r (.inr ⟨_,by rw [of_bl h2],q.ok rl _ zqm⟩)
 ·exact q.elim
def max2D (ds:List D) (S:Sto):R D:=match ds with
 | [.int i,.int j]=>.ok (.int (if j > i then j else i)) S
 | _=>.bad
def min2D (ds:List D) (S:Sto):R D:=match ds with
 | [.int i,.int j]=>.ok (.int (if j < i then j else i)) S
 | _=>.bad
theorem cd_max2 (hc:X.calm=true):CallR X (.builtin "max") (rDs g E max2D):=by
 intro pins s σ H xs us Q I r h
 obtain ⟨m,S,ds,rl,h1,q⟩:=h
 unfold max2D at q
 split at q
 ·obtain ⟨v,v',rfl,h2,h3⟩:=rvs2 h1
  exact call_max2 hc pins s σ H _ us Q I r ⟨_,_,by rw [zq6 h2,zq6 h3],q.ok rl _ zqm⟩
 ·exact q.elim
theorem cd_min2 (hc:X.calm=true):CallR X (.builtin "min") (rDs g E min2D):=by
 intro pins s σ H xs us Q I r h
 obtain ⟨m,S,ds,rl,h1,q⟩:=h
 unfold min2D at q
 split at q
 ·obtain ⟨v,v',rfl,h2,h3⟩:=rvs2 h1
  exact call_min2 hc pins s σ H _ us Q I r ⟨_,_,by rw [zq6 h2,zq6 h3],q.ok rl _ zqm⟩
 ·exact q.elim
def tupleD (ds:List D) (S:Sto):R D:=match ds with
 | [.tup ds]=>.ok (.tup ds) S
 | [x]=>match zjj x S with
  | some ds=>.ok (.tup ds) S
  | none=>.bad
 | _=>.bad
theorem cd_tuple (hK:X.K=g.K):CallR X (.type "tuple") (rDs g E (tupleD)):=by
 intro pins s σ H xs us Q I r h
 obtain ⟨m,S,ds,rl,h1,q⟩:=h
 unfold tupleD at q
 split at q
 ·obtain ⟨v,rfl,h2⟩:=rvs1 h1
  obtain ⟨a,vs,rfl,t1,v1⟩:=zjc h2
  exact call_tuple_of pins s σ H _ us Q I r ⟨a,vs,rfl,.inr ⟨by rw [hK]; exact t1.sq,q.ok rl _ (zjn t1 v1)⟩⟩
 ·split at q
  ·rename_i e
   obtain ⟨v,rfl,h2⟩:=rvs1 h1
   obtain ⟨a,vs,rfl,s1,v1⟩:=zjx rl h2 e
   exact call_tuple_of pins s σ H _ us Q I r ⟨a,vs,rfl,.inl ⟨by rw [hK]; exact s1,fun p hp=>q.at (zqn rl hp) (rl.lay hp) _ (zjn ⟨upd_same,rl.un hp⟩ (v1.ext (zqn rl hp)))⟩⟩
  ·exact q.elim
 ·exact q.elim
def ints?:List D->Option (List Int)
 | []=>some []
 | .int i :: ds=>(ints? ds).map (i :: ·)
 | _ :: _=>none
theorem ints_run {m:Mp} {H:Hp}:∀{ds:List D} {vs:List V} {ns:List Int},RVs g m H ds vs->ints? ds=some ns->vs=ns.map V.int
 | [],vs,ns,h,e=>by rw [h.nil_iff]; simp [ints?] at e; subst e; rfl
 | d :: ds,vs,ns,h,e=>by
  obtain ⟨v,r,rfl,h1,h2⟩:=h.cons_iff
  cases d with
  | int i =>
   simp [ints?] at e
   obtain ⟨ns',e1,rfl⟩:=e
   rw [zq6 h1,ints_run h2 e1]
   rfl
  | _=>simp [ints?] at e
def bls?:List D->Option (List Bool)
 | []=>some []
 | .bl i :: ds=>(bls? ds).map (i :: ·)
 | _ :: _=>none
theorem bls_run {m:Mp} {H:Hp}:∀{ds:List D} {vs:List V} {ns:List Bool},RVs g m H ds vs->bls? ds=some ns->vs=ns.map V.bl
 | [],vs,ns,h,e=>by rw [h.nil_iff]; simp [bls?] at e; subst e; rfl
 | d :: ds,vs,ns,h,e=>by
  obtain ⟨v,r,rfl,h1,h2⟩:=h.cons_iff
  cases d with
  | bl i =>
   simp [bls?] at e
   obtain ⟨ns',e1,rfl⟩:=e
   rw [of_bl h1,bls_run h2 e1]
   rfl
  | _=>simp [bls?] at e
def sumD (ds:List D) (S:Sto):R D:=match ds with
 | [x]=>match zjj x S with
  | some ds=>match ints? ds with
   | some ns=>.ok (.int ns.sum) S
   | none=>.bad
  | none=>.bad
 | _=>.bad
theorem cd_sum (hK:X.K=g.K) (hc:X.calm=true):CallR X (.builtin "sum") (rDs g E (sumD)):=by
 intro pins s σ H xs us Q I r h
 obtain ⟨m,S,ds,rl,h1,q⟩:=h
 unfold sumD at q
 split at q
 ·split at q
  ·rename_i e
   split at q
   ·rename_i e2
    obtain ⟨v,rfl,h2⟩:=rvs1 h1
    obtain ⟨a,vs,rfl,s1,v1⟩:=zjx rl h2 e
    exact cr_sum hc pins s σ H _ us Q I r ⟨a,_,rfl,by rw [hK,← ints_run v1 e2]; exact s1,q.ok rl _ zqm⟩
   ·exact q.elim
  ·exact q.elim
 ·exact q.elim
def allD (ds:List D) (S:Sto):R D:=match ds with
 | [x]=>match zjj x S with
  | some ds=>match bls? ds with
   | some ns=>.ok (.bl (ns.all id)) S
   | none=>.bad
  | none=>.bad
 | _=>.bad
theorem cd_all (hK:X.K=g.K) (hc:X.calm=true):CallR X (.builtin "all") (rDs g E (allD)):=by
 intro pins s σ H xs us Q I r h
 obtain ⟨m,S,ds,rl,h1,q⟩:=h
 unfold allD at q
 split at q
 ·split at q
  ·rename_i e
   split at q
   ·rename_i e2
    obtain ⟨v,rfl,h2⟩:=rvs1 h1
    obtain ⟨a,vs,rfl,s1,v1⟩:=zjx rl h2 e
    exact cr_all hc pins s σ H _ us Q I r ⟨a,_,rfl,by rw [hK,← bls_run v1 e2]; exact s1,q.ok rl _ zqr⟩
   ·exact q.elim
  ·exact q.elim
 ·exact q.elim
inductive Tg where
 | non | bl | int | str | lst | tup | dic
def Tg.nm:Tg->String
 | .non => "NoneType" | .bl => "bool" | .int => "int" | .str => "str" | .lst => "list" | .tup => "tuple" | .dic => "dict"
def tgD (d:D) (S:Sto):Option Tg:=match d with
 | .non=>some .non
 | .bl _=>some .bl
 | .int _=>some .int
 | .str _=>some .str
 | .tup _=>some .tup
 | .lst _=>some .lst
 | .dic _ _=>some .dic
 | .ref n=>match S[n]? with
  | some (.lst _)=>some .lst
  | some (.dic _ _)=>some .dic
  | some (.dct _ _)=>some .dic
  | some (.dlk _ _)=>some .dic
  | _=>none
 | _=>none
inductive Ki where
 | int | bool | str | tuple | list | dict
def Ki.nm:Ki->String
 | .int => "int" | .bool => "bool" | .str => "str" | .tuple => "tuple" | .list => "list" | .dict => "dict"
def isTg:Tg->Ki->Bool
 | .int,.int=>true | .bl,.int=>true | .bl,.bool=>true | .str,.str=>true | .tup,.tuple=>true | .lst,.list=>true | .dic,.dict=>true
 | _,_=>false
theorem isTg_ok:∀(t:Tg) (k:Ki),kitB t.nm k.nm=some (isTg t k):=by
 intro t k
 cases t <;> cases k <;> decide +kernel
theorem tg_run {m:Mp} {S:Sto} {H:Hp} (r:Rel g m S H) {d:D} {v:V} (rv:RV g m H d v) {t:Tg} (e:tgD d S=some t):TyX g.K H v (.type t.nm):=by
 unfold tgD at e
 cases d with
 | non=>cases e; rw [of_non rv]; exact .base .non
 | bl b=>cases e; rw [of_bl rv]; exact .base (.bl b)
 | int b=>cases e; rw [zq6 rv]; exact .base (.int b)
 | str b=>cases e; rw [zqo rv]; exact .base (.str b)
 | tup ds =>
  cases e
  obtain ⟨a,vs,rfl,s1,v1⟩:=of_tup rv
  rcases s1 with (h | ⟨o,h⟩) | ⟨o,its,n,h1,h2,_⟩
  ·exact .base (.tup h)
  ·exact .fTuple h
  ·exact .kTuple h1 h2
 | lst ds =>
  cases e
  obtain ⟨a,vs,rfl,h1,_⟩:=of_lst rv
  exact .base (.lst h1)
 | dic ks ds =>
  cases e
  obtain ⟨a,kvs,rfl,h1 | ⟨od,h1⟩,_⟩:=of_dic rv
  ·exact .base (.dK h1)
  ·exact .fDict h1
 | ref n =>
  simp only at e
  split at e
  ·cases e
   rename_i e0
   obtain ⟨a,o,rfl,_,h1,vs,rfl,h2⟩:=r.at rv e0 (by intro z; cases z)
   exact .base (.lst h1)
  ·cases e
   rename_i e0
   obtain ⟨a,o,rfl,_,h1,vs,rfl,h2,_⟩:=r.at rv e0 (by intro z; cases z)
   exact .base (.dK h1)
  ·cases e
   rename_i e0
   obtain ⟨a,o,rfl,_,h1,vs,rfl,h2,_⟩:=r.at rv e0 (by intro z; cases z)
   exact .base (.dT h1)
  ·cases e
   rename_i e0
   obtain ⟨a,o,rfl,_,h1,od,vs,rfl,h2,_⟩:=r.at rv e0 (by intro z; cases z)
   exact .fDict h1
  ·cases e
 | _=>cases e
def isiD (k:Ki) (x:D) (S:Sto):R D:=match tgD x S with
 | some t=>.ok (.bl (isTg t k)) S
 | none=>.bad
theorem zjz {a:Expr} {ea:Lc->Sto->R D} {p p2 pos:Pos} {x:Str} (k:Ki) (hK:X.K=g.K) (hgi:Gl X "isinstance") (hmi:X.mg "isinstance" = none) (hg:Gl X x) (hm:X.mg x=none) (hv:bootBuiltins x=some (.type k.nm)) (ha:PE X a (tD g E ea))
  (hn:x ≠ "__name__" := by decide) (hdb:(x == ("__debug__" : Str))=false:=by decide) (he:starEach [a,.Name x p2] X.env=[(false,eval a X.env),(false,eval (.Name x p2) X.env)]:=by rfl) (hs2:starEach [Expr.Name x p2] X.env=[(false,eval (.Name x p2) X.env)]:=by rfl) :
  PE X (.Call (.Name "isinstance" p) [a,.Name x p2] [] pos) (tD g E (eUn (isiD k) ea)):=by
 refine (pe_callB call_isi hgi hmi (by decide +kernel) (pa_cons ha (pa_cons (pe_bltn (v := .ty k.nm) hg hm hv rfl hn hdb) pa_nil hs2) (by rw [he,hs2])) (by decide) (by decide) (by rw [he,hs2]) (by rw [hs2]; rfl)).imp fun σ H Q h=>?_
 obtain ⟨m,S,L,r,l,q⟩:=h
 refine ⟨m,S,L,r,l,(Aft.bind q).mono fun d m1 S1 H1 e1 r1 q1 v rv=>?_⟩
 unfold isiD at q1
 split at q1
 ·rename_i t e
  exact ⟨v,.ty k.nm,.type t.nm,.type k.nm,isTg t k,rfl,.ty _,by rw [hK]; exact tg_run r1 rv e,kit_ty (isTg_ok t k),q1.ok r1 _ zqr⟩
 ·exact q1.elim
def rngL (lo:Int) (n:Nat):List D:=(List.range n).map fun (i:Nat)=>D.int (lo+(i:Int))
theorem rngL_get (lo:Int) (n i:Nat):(rngL lo n)[i]?=if i < n then some (.int (lo+(i:Int))) else none:=by
 unfold rngL
 rw [List.getElem?_map]
 by_cases h:i < n
 ·rw [if_pos h,List.getElem?_range h]; rfl
 ·rw [if_neg h,List.getElem?_eq_none (by simpa using h)]; rfl
def wRng1 (a:Lc->Sto->R (List D)):Lc->Sto->R Wk:=fun L S=>(a L S).bind fun ds S1=>match ds with
 | [.int j]=>if -(2 ^ 62)<=j/\j < 2 ^ 62 then .ok ⟨rngL 0 j.toNat,fun _=>true⟩ S1 else .bad
 | _=>.bad
def wRng2 (a:Lc->Sto->R (List D)):Lc->Sto->R Wk:=fun L S=>(a L S).bind fun ds S1=>match ds with
 | [.int i,.int j]=>if (-(2 ^ 62)<=i/\i < 2 ^ 62)/\(-(2 ^ 62)<=j/\j < 2 ^ 62) then .ok ⟨rngL i (j - i).toNat,fun _=>true⟩ S1 else .bad
 | _=>.bad
theorem jd_rng (lo:Int) (n:Nat) (m0:Mp) (H0:Hp):JD g (Itr lo n) ⟨rngL lo n,fun _=>true⟩ m0 H0:=by
 intro i m S H e r _
 have hg:=rngL_get lo n i
 by_cases h:i < n
 ·rw [if_pos h] at hg
  refine ⟨fun z=>?_,fun d hd=>⟨h,fun x H' y=>?_⟩⟩
  ·have z':(rngL lo n)[i]?=none:=z
   rw [hg] at z'; cases z'
  ·have z':(rngL lo n)[i]?=some d:=hd
   rw [hg] at z'
   cases z'
   obtain ⟨e1,e2⟩:=y
   subst e1 e2
   exact ⟨.refl,r,zqm⟩
 ·rw [if_neg h] at hg
  refine ⟨fun _=>Nat.le_of_not_lt h,fun d hd=>?_⟩
  have z':(rngL lo n)[i]?=some d:=hd
  rw [hg] at z'; cases z'
theorem di_rng1 {tg a:Expr} {p pos:Pos} {ls:Lc->Sto->R (List D)} (hg:Gl X "range") (hm:X.mg "range" = none) (ha:PA X [a] (tL g E ls)) (hs:starEach [a] X.env=[(false,eval a X.env)]:=by rfl):PI X tg (.Call (.Name "range" p) [a] [] pos) (tI g E (wRng1 ls)):=by
 refine (pi_range1 hg hm ha hs).imp fun σ H Q h=>?_
 obtain ⟨m,S,L,r,l,q⟩:=h
 refine ⟨m,S,L,r,l,(Aft.bind q).mono fun ds m1 S1 H1 e1 r1 q1 vs rvs=>?_⟩
 split at q1
 ·split at q1
  ·rename_i hz
   obtain ⟨v,rfl,h2⟩:=rvs1 rvs
   exact ⟨_,by rw [zq6 h2],hz.1,hz.2,q1.ok r1 _ (jd_rng _ _ _ _)⟩
  ·exact q1.elim
 ·exact q1.elim
theorem di_rng2 {tg a b:Expr} {p pos:Pos} {ls:Lc->Sto->R (List D)} (hg:Gl X "range") (hm:X.mg "range" = none) (ha:PA X [a,b] (tL g E ls)) (hs:starEach [a,b] X.env=[(false,eval a X.env),(false,eval b X.env)]:=by rfl) (hs2:starEach [b] X.env=[(false,eval b X.env)]:=by rfl):PI X tg (.Call (.Name "range" p) [a,b] [] pos) (tI g E (wRng2 ls)):=by
 refine (pi_range2 hg hm ha hs hs2).imp fun σ H Q h=>?_
 obtain ⟨m,S,L,r,l,q⟩:=h
 refine ⟨m,S,L,r,l,(Aft.bind q).mono fun ds m1 S1 H1 e1 r1 q1 vs rvs=>?_⟩
 split at q1
 ·split at q1
  ·rename_i hz
   obtain ⟨v,v',rfl,h2,h3⟩:=rvs2 rvs
   exact ⟨_,_,by rw [zq6 h2,zq6 h3],⟨hz.1.1,hz.1.2,hz.2.1,hz.2.2⟩,q1.ok r1 _ (jd_rng _ _ _ _)⟩
  ·exact q1.elim
 ·exact q1.elim
end
end VL
namespace DZ
open PySem PySem.Spec PyProof.Rows L2 RZ
abbrev ZG (h:Heap) (z TI TO:Addr) (f0:Value) (f1:Bool):Prop :=
 h.get? z=some { cls := .type "zip",dict:=none,data := .fields #[f0,.bool f1,.bool false,.ref TI,.ref TO],slots := #[] }
def Keeps (f0:Value) (f1:Bool):Prop:=(f0=.none/\f1=false)∨∃T:Nat,f0=rawInt T
section
variable {prog:Program} {w:World} {A:Around} {E:Value->Shared->Prop} {s:Shared}
theorem dead {a:Addr} {Q:Option Obj->Shared->Prop} (ho:s.heap.get? a=none) (h:Q none s):wpAny (model prog w) A (loadIfAlive a) Q E s:=by
 have q:Q (s.heap.get? a) s:=by rw [ho]; exact h
 exact fun _ _ _=>q
end
end DZ
namespace VL
open PySem PySem.Spec PyProof.Rows L2
section
def eStar (f:List D->Sto->R D) (e:Lc->Sto->R D):Lc->Sto->R D:=fun L S=>(e L S).bind fun d S1=>match d with
 | .tup ds=>f ds S1
 | d=>match zjj d S1 with
  | some ds=>f ds S1
  | none=>.bad
end
end VL
namespace VL
open PySem PySem.Spec PyProof.Rows L2
section
variable {X:Cx} {g:G} {E:XD}
theorem okL_iff {n:Nat} {ds:List D} {S:Sto} (h:okL n ds S=true):S[n]?=some (.lst ds):=by
 unfold okL at h
 split at h
 ·rename_i ds' e
  rw [e,D.beqs_eq h]
 ·cases h
@[simp] theorem okL_of {n:Nat} {ds:List D} {S:Sto} (h:S[n]?=some (.lst ds)):okL n ds S=true:=by
 unfold okL
 rw [h]
 exact D.beqs_refl ds
theorem jd_list {a:Addr} {W:Wk} {m0:Mp} {H0:Hp} (h:∀m S H,Exk m0 H0 m H->Rel g m S H->W.ok S=true->∃vs,SqL g.K H a vs/\RVs g m H W.ds vs):JD g (Itl g.K a) W m0 H0:=by
 intro i m S H e r hok
 obtain ⟨vs,hs,hv⟩:=h m S H e r hok
 refine ⟨fun z=>⟨vs,hs,by rw [hv.length]; exact List.getElem?_eq_none_iff.mp z⟩,fun d hd=>?_⟩
 obtain ⟨v,ev,rv⟩:=hv.get hd
 refine ⟨⟨vs,v,hs,ev⟩,fun x H' y=>?_⟩
 obtain ⟨e1,e2⟩:=y
 subst e1
 have:x=v:=Option.some.inj ((e2 vs hs).symm.trans ev)
 subst this
 exact ⟨.refl,r,rv⟩
theorem jd_tup {a:Addr} {ds:List D} {vs:List V} {m0:Mp} {H0:Hp} (hs0:SqTv g m0 H0 a vs) (hv0:RVs g m0 H0 ds vs):JD g (Itt g.K a) ⟨ds,fun _=>true⟩ m0 H0:=by
 intro i m S H e r hok
 have hs:=(e.toExw.tupv hs0).sq
 have hv:=hv0.extw e.toExw
 refine ⟨fun z=>⟨vs,hs,by rw [hv.length]; exact List.getElem?_eq_none_iff.mp z⟩,fun d hd=>?_⟩
 obtain ⟨v,ev,rv⟩:=hv.get hd
 refine ⟨⟨vs,v,hs,ev⟩,fun x H' y=>?_⟩
 obtain ⟨e1,e2⟩:=y
 subst e1
 have:x=v:=Option.some.inj ((e2 vs hs).symm.trans ev)
 subst this
 exact ⟨.refl,r,rv⟩
theorem jd_ctp {a:Addr} {ds:List D} {vs:List V} {m0:Mp} {H0:Hp} (hs0:SqK g a vs) (hv0:RVs g m0 H0 ds vs):JD g (Itt g.K a) ⟨ds,fun _=>true⟩ m0 H0:=by
 intro i m S H e r hok
 have hs:SqT g.K H a vs:=hs0.sq
 have hv:=hv0.extw e.toExw
 refine ⟨fun z=>⟨vs,hs,by rw [hv.length]; exact List.getElem?_eq_none_iff.mp z⟩,fun d hd=>?_⟩
 obtain ⟨v,ev,rv⟩:=hv.get hd
 refine ⟨⟨vs,v,hs,ev⟩,fun x H' y=>?_⟩
 obtain ⟨e1,e2⟩:=y
 subst e1
 have:x=v:=Option.some.inj ((e2 vs hs).symm.trans ev)
 subst this
 exact ⟨.refl,r,rv⟩
def wSeq (e:Lc->Sto->R D):Lc->Sto->R Wk:=fun L S=>(e L S).bind fun d S1=>match d with
 | .lst ds=>.ok ⟨ds,fun _=>true⟩ S1
 | .ref n=>match S1[n]? with
  | some (.lst ds)=>.ok ⟨ds,okL n ds⟩ S1
  | _=>.bad
 | .scr ns=>.ok ⟨ns.map D.int,fun _=>true⟩ S1
 | _=>.bad
def wTup (e:Lc->Sto->R D):Lc->Sto->R Wk:=fun L S=>(e L S).bind fun d S1=>match d with
 | .tup ds=>.ok ⟨ds,fun _=>true⟩ S1
 | .ctp ds=>.ok ⟨ds,fun _=>true⟩ S1
 | _=>.bad
theorem di_lst {tg e:Expr} {ea:Lc->Sto->R D} (hK:X.K=g.K) (he:PE X e (tD g E ea)):PI X tg e (tI g E (wSeq ea)):=by
 refine (pi_list he).imp fun σ H Q h=>?_
 obtain ⟨m,S,L,r,l,q⟩:=h
 refine ⟨m,S,L,r,l,(Aft.bind q).mono fun d m1 S1 H1 e1 r1 q1 v rv=>?_⟩
 split at q1
 ·rename_i ds
  obtain ⟨a,vs,rfl,h1,_,h2⟩:=of_lst rv
  refine ⟨a,rfl,⟨vs,.of h1⟩,q1.ok r1 _ ?_⟩
  rw [hK]
  refine jd_list fun m' S' H' e' r' hok=>?_
  have rv':=RV.extw e'.toExw rv
  obtain ⟨a',vs',z,h1',_,h2'⟩:=of_lst rv'
  cases z
  exact ⟨vs',.of h1',h2'⟩
 ·rename_i n
  split at q1
  ·rename_i ds e0
   obtain ⟨a,vs,rfl,ha,h1,h2⟩:=lst_ref r1 rv e0
   refine ⟨a,rfl,⟨vs,.of h1⟩,q1.ok r1 _ ?_⟩
   rw [hK]
   refine jd_list fun m' S' H' e' r' hok=>?_
   obtain ⟨a',vs',z,_,h1',h2'⟩:=lst_ref r' (RV.extw e'.toExw rv) (okL_iff hok)
   cases z
   exact ⟨vs',.of h1',h2'⟩
  ·exact q1.elim
 ·rename_i ns
  obtain ⟨a,rfl,h1⟩:=of_scr rv
  refine ⟨a,rfl,⟨_,by rw [hK]; exact h1.sq⟩,q1.ok r1 _ ?_⟩
  rw [hK]
  refine jd_list fun m' S' H' e' r' hok=>?_
  exact ⟨_,(e'.toExw.scr h1).sq,rvs_ints ns⟩
 ·exact q1.elim
theorem di_tup {tg e:Expr} {ea:Lc->Sto->R D} (hK:X.K=g.K) (he:PE X e (tD g E ea)):PI X tg e (tI g E (wTup ea)):=by
 refine (pi_tup he).imp fun σ H Q h=>?_
 obtain ⟨m,S,L,r,l,q⟩:=h
 refine ⟨m,S,L,r,l,(Aft.bind q).mono fun d m1 S1 H1 e1 r1 q1 v rv=>?_⟩
 split at q1
 ·obtain ⟨a,vs,rfl,s1,v1⟩:=zjc rv
  refine ⟨a,rfl,⟨vs,by rw [hK]; exact s1.sq⟩,q1.ok r1 _ ?_⟩
  rw [hK]
  exact jd_tup s1 v1
 ·obtain ⟨a,vs,rfl,s1,v1⟩:=of_ctp rv
  refine ⟨a,rfl,⟨vs,by rw [hK]; exact s1.sq⟩,q1.ok r1 _ ?_⟩
  rw [hK]
  exact jd_ctp s1 v1
 ·exact q1.elim
def chars (x:Str):List D:=x.cps.toList.map fun c=>D.str ⟨#[c]⟩
theorem jd_str {x:Str} {m0:Mp} {H0:Hp}:JD g (Its x) ⟨chars x,fun _=>true⟩ m0 H0:=by
 intro i m S H e r _
 have hg:(chars x)[i]?=(x.cps[i]?).map fun c=>D.str ⟨#[c]⟩:=by unfold chars; rw [List.getElem?_map,Array.getElem?_toList]
 refine ⟨fun z=>?_,fun d hd=>?_⟩
 ·have z':(chars x)[i]?=none:=z
  rw [hg] at z'
  cases q:x.cps[i]? with
  | none=>exact Array.getElem?_eq_none_iff.mp q
  | some c=>rw [q] at z'; cases z'
 ·have z':(chars x)[i]?=some d:=hd
  rw [hg] at z'
  cases q:x.cps[i]? with
  | none=>rw [q] at z'; cases z'
  | some c =>
   rw [q] at z'
   cases z'
   refine ⟨(Array.getElem?_eq_some_iff.mp q).1,fun v H' y=>?_⟩
   obtain ⟨e1,c',e2,e3⟩:=y
   subst e1 e3
   rw [q] at e2
   cases e2
   exact ⟨.refl,r,zjk⟩
def wkOf (d:D) (S:Sto):R Wk:=match d with
 | .tup ds=>.ok ⟨ds,fun _=>true⟩ S
 | .ctp ds=>.ok ⟨ds,fun _=>true⟩ S
 | .str x=>.ok ⟨chars x,fun _=>true⟩ S
 | .lst ds=>.ok ⟨ds,fun _=>true⟩ S
 | .ref n=>match S[n]? with
  | some (.lst ds)=>.ok ⟨ds,okL n ds⟩ S
  | _=>.bad
 | .scr ns=>.ok ⟨ns.map D.int,fun _=>true⟩ S
 | _=>.bad
def wAny (e:Lc->Sto->R D):Lc->Sto->R Wk:=fun L S=>(e L S).bind fun d S1=>wkOf d S1
theorem di_any {tg e:Expr} {ea:Lc->Sto->R D} (hK:X.K=g.K) (he:PE X e (tD g E ea)):PI X tg e (tI g E (wAny ea)):=by
 refine ⟨fun pins s σ H Q I h=>?_⟩
 obtain ⟨m,S,L,r,l,q⟩:=h
 /- by the value's kind -/
 have hb:=Aft.bind q
 cases hr:ea L S with
 | bad=>rw [hr] at hb; exact hb.elim
 | exc c fs S' =>
  rw [hr] at hb
  have q2:tI g E (wTup ea) σ H Q:=⟨m,S,L,r,l,by unfold wTup; rw [hr]; exact hb⟩
  exact (di_tup hK he).run pins s σ H Q I q2
 | ok d S' =>
  have q0:Aft g E m H (wkOf d S') fun W m' _ H'=>∀J,JD g J W m' H'->Q J H':=by
   have:Aft g E m H ((ea L S).bind fun d S1=>wkOf d S1) fun W m' _ H'=>∀J,JD g J W m' H'->Q J H':=q
   rw [hr] at this
   exact this
  unfold wkOf at q0
  cases d with
  | tup ds =>
   refine (di_tup hK he).run pins s σ H Q I ⟨m,S,L,r,l,?_⟩
   unfold wTup
   rw [hr]
   exact q0
  | ctp ds =>
   refine (di_tup hK he).run pins s σ H Q I ⟨m,S,L,r,l,?_⟩
   unfold wTup
   rw [hr]
   exact q0
  | str x =>
   refine (pi_str he).run pins s σ H Q I ⟨m,S,L,r,l,?_⟩
   rw [hr]
   intro m' H' e' r' v rv
   exact ⟨x,zqo rv,q0.at e' r' _ jd_str⟩
  | lst n =>
   refine (di_lst hK he).run pins s σ H Q I ⟨m,S,L,r,l,?_⟩
   unfold wSeq
   rw [hr]
   exact q0
  | ref n =>
   refine (di_lst hK he).run pins s σ H Q I ⟨m,S,L,r,l,?_⟩
   unfold wSeq
   rw [hr]
   exact q0
  | scr n =>
   refine (di_lst hK he).run pins s σ H Q I ⟨m,S,L,r,l,?_⟩
   unfold wSeq
   rw [hr]
   exact q0
  | _=>exact q0.elim
def eDict0:Lc->Sto->R D:=fun _ S=>.ok (.dic [] []) S
theorem de_dict0 {pos:Pos}:PE X (.Dict [] [] pos) (tD g E eDict0):=by
 refine pe_dnewK.imp fun σ H Q h=>?_
 obtain ⟨m,S,L,r,l,q⟩:=h
 exact fun p hp=>q.at (zqn r hp) (r.lay hp) _ (rv_dic (.of upd_same) (r.un hp) rfl .nil)
end
theorem bt_int:bootBuiltins "int" = some (.type "int"):=by decide +kernel
theorem bt_bool:bootBuiltins "bool" = some (.type "bool"):=by decide +kernel
theorem bt_str:bootBuiltins "str" = some (.type "str"):=by decide +kernel
theorem bt_tuple:bootBuiltins "tuple" = some (.type "tuple"):=by decide +kernel
theorem bt_list:bootBuiltins "list" = some (.type "list"):=by decide +kernel
theorem bt_dict:bootBuiltins "dict" = some (.type "dict"):=by decide +kernel
theorem bt_len:bootBuiltins "len" = some (.builtin "len"):=by decide +kernel
theorem bt_abs:bootBuiltins "abs" = some (.builtin "abs"):=by decide +kernel
theorem bt_sum:bootBuiltins "sum" = some (.builtin "sum"):=by decide +kernel
theorem bt_all:bootBuiltins "all" = some (.builtin "all"):=by decide +kernel
theorem bt_max:bootBuiltins "max" = some (.builtin "max"):=by decide +kernel
theorem bt_min:bootBuiltins "min" = some (.builtin "min"):=by decide +kernel
end VL
namespace VL
open PySem PySem.Spec PyProof.Rows L2
section
end
section
variable {e:Expr}
def mCase (i:Nat) (t:Lc->Sto->R Bool) (b:SF) (rest:D->SF):D->SF:=fun d L S=>(t (L.set i (some d)) S).bind fun k S1=>if k=true then b (L.set i (some d)) S1 else rest d (L.set i (some d)) S1
def mElse (b:SF):D->SF:=fun _ L S=>b L S
def sMatch (e:Lc->Sto->R D) (f:D->SF):SF:=fun L S=>(e L S).bind fun d S1=>f d L S1
end
end VL
namespace VL
open PySem PySem.Spec PyProof.Rows L2
def keyD:D->Option Key
 | .int i=>some (.inl i)
 | .str x=>some (.inr x)
 | _=>none
def keyV:Key->D
 | .inl i=>.int i
 | .inr x=>.str x
theorem key_run {g:G} {m:Mp} {H:Hp} {d:D} {v:V} {k:Key} (h:RV g m H d v) (e:keyD d=some k):v=kV k:=by
 cases d with
 | int i=>cases e; exact zq6 h
 | str i=>cases e; exact zqo h
 | _=>cases e
theorem keyV_run {g:G} {m:Mp} {H:Hp} (k:Key):RV g m H (keyV k) (kV k):=by
 cases k with
 | inl i=>exact zqm
 | inr x=>exact zjk
def lookK:List Key->List D->Key->Option D
 | k' :: ks,d :: ds,k=>if k'=k then some d else lookK ks ds k
 | _,_,_=>none
def hasK (ks:List Key) (k:Key):Bool:=ks.any fun k'=>decide (k'=k)
def putKs (ks:List Key) (k:Key):List Key:=if hasK ks k=true then ks else ks++[k]
def putVs (ks:List Key) (ds:List D) (k:Key) (d:D):List D:=if hasK ks k=true then List.zipWith (fun k' d'=>if k'=k then d else d') ks ds else ds++[d]
section
variable {g:G} {m:Mp} {H:Hp}
theorem look_run:∀{kvs:List (Key × V)} {ds:List D},RVs g m H ds (kvs.map (·.2))->∀k,(∀d,lookK (kvs.map (·.1)) ds k=some d->∃v,valV kvs k=some v/\RV g m H d v)/\(lookK (kvs.map (·.1)) ds k=none->valV kvs k=none)
 | [],ds,h,k=>⟨fun d e=>by cases ds <;> simp [lookK] at e,fun _=>valV_nil⟩
 | (k',v) :: kvs,[],h,k=>by have:=h.nil_iff; simp at this
 | (k',v) :: kvs,d :: ds,h,k=>by
  obtain ⟨v',r,e,h1,h2⟩:=h.cons_iff
  simp only [List.map_cons,List.cons.injEq] at e
  obtain ⟨rfl,rfl⟩:=e
  obtain ⟨i1,i2⟩:=look_run h2 k
  simp only [List.map_cons,lookK]
  by_cases e:k'=k
  ·rw [if_pos e]
   refine ⟨fun d' e'=>?_,fun e'=>by cases e'⟩
   cases e'
   exact ⟨_,valV_pos (p:=(k',v)) e,h1⟩
  ·rw [if_neg e,valV_neg (p:=(k',v)) e]
   exact ⟨i1,i2⟩
theorem any_mem (k:Key) (kvs:List (Key × V)):(kvs.any fun kv=>decide (kv.1=k))=hasK (kvs.map (·.1)) k:=by
 unfold hasK
 rw [List.any_map]
 rfl
theorem zip_run {k:Key} {d:D} {v:V} (hv:RV g m H d v):∀{kvs:List (Key × V)} {ds:List D},RVs g m H ds (kvs.map (·.2)) ->
  RVs g m H (List.zipWith (fun k' d'=>if k'=k then d else d') (kvs.map (·.1)) ds) ((kvs.map fun kv=>if kv.1=k then (kv.1,v) else kv).map (·.2))
 | [],ds,h=>by cases ds <;> simpa using RVs.nil
 | (k',v') :: kvs,[],h=>by have:=h.nil_iff; simp at this
 | (k',v') :: kvs,d' :: ds,h=>by
  obtain ⟨v2,r,e,h1,h2⟩:=h.cons_iff
  simp only [List.map_cons,List.cons.injEq] at e
  obtain ⟨rfl,rfl⟩:=e
  simp only [List.map_cons,List.zipWith_cons_cons]
  refine .cons ?_ (zip_run hv h2)
  by_cases e:k'=k
  ·simp only [e,if_true]; exact hv
  ·simp only [e,if_false]; exact h1
theorem put_run {kvs:List (Key × V)} {ds:List D} {k:Key} {d:D} {v:V} (h:RVs g m H ds (kvs.map (·.2))) (hv:RV g m H d v) :
  (putK kvs k v).map (·.1)=putKs (kvs.map (·.1)) k/\RVs g m H (putVs (kvs.map (·.1)) ds k d) ((putK kvs k v).map (·.2)):=by
 unfold putK putKs putVs
 rw [any_mem]
 by_cases e:hasK (kvs.map (·.1)) k=true
 ·rw [if_pos e,if_pos e,if_pos e]
  refine ⟨?_,zip_run hv h⟩
  rw [List.map_map]
  apply List.map_congr_left
  intro a _
  show (if a.1=k then (a.1,v) else a).1=a.1
  split <;> rfl
 ·rw [if_neg e,if_neg e,if_neg e]
  refine ⟨by simp,?_⟩
  rw [List.map_append]
  exact h.append (.cons hv .nil)
def zjq (d:D) (S:Sto):Option (List Key × List D):=match d with
 | .dic ks ds=>some (ks,ds)
 | .ref n=>match S[n]? with
  | some (.dic ks ds)=>some (ks,ds)
  | some (.dlk ks ds)=>some (ks,ds)
  | _=>none
 | _=>none
theorem zk5 {S:Sto} (r:Rel g m S H) {d:D} {v:V} (rv:RV g m H d v) {p:List Key × List D} (e:zjq d S=some p):∃a kvs,v=.ref a/\Rd H a (.dK kvs)/\kvs.map (·.1)=p.1/\RVs g m H p.2 (kvs.map (·.2)):=by
 unfold zjq at e
 cases d with
 | dic ks ds =>
  cases e
  obtain ⟨a,kvs,rfl,h1,_,h2,h3⟩:=of_dic rv
  exact ⟨a,kvs,rfl,h1,h2,h3⟩
 | ref n =>
  simp only at e
  split at e
  ·rename_i e0
   cases e
   obtain ⟨a,o,rfl,_,h1,kvs,rfl,h2,h3⟩:=r.at rv e0 (by intro z; cases z)
   exact ⟨a,kvs,rfl,.inl h1,h2,h3⟩
  ·rename_i e0
   cases e
   obtain ⟨a,o,rfl,_,h1,od,kvs,rfl,h2,h3⟩:=r.at rv e0 (by intro z; cases z)
   exact ⟨a,kvs,rfl,.inr ⟨od,h1⟩,h2,h3⟩
  ·cases e
 | _=>cases e
def keyL:List D->Option (List Key)
 | []=>some []
 | d :: ds=>match keyD d,keyL ds with
  | some k,some ks=>some (k :: ks)
  | _,_=>none
def keyT:D->Option (List Key)
 | .tup ds=>keyL ds
 | _=>none
theorem keyL_run:∀{ds:List D} {vs:List V} {ks:List Key},RVs g m H ds vs->keyL ds=some ks->vs=ks.map kV
 | [],vs,ks,h,e=>by cases e; exact h.nil_iff
 | d :: ds,vs,ks,h,e=>by
  obtain ⟨v,r,rfl,h1,h2⟩:=h.cons_iff
  simp only [keyL] at e
  split at e
  ·rename_i e1 e2
   cases e
   rw [key_run h1 e1,keyL_run h2 e2]
   rfl
  ·cases e
def lookT:List (List Key)->List D->List Key->Option D
 | k' :: ks,d :: ds,k=>if k'=k then some d else lookT ks ds k
 | _,_,_=>none
theorem lookT_run:∀{kvs:List (List Key × V)} {ds:List D},RVs g m H ds (kvs.map (·.2))->∀k,(∀d,lookT (kvs.map (·.1)) ds k=some d->∃v,valV kvs k=some v/\RV g m H d v)/\(lookT (kvs.map (·.1)) ds k=none->valV kvs k=none)
 | [],ds,h,k=>⟨fun d e=>by cases ds <;> simp [lookT] at e,fun _=>valV_nil⟩
 | (k',v) :: kvs,[],h,k=>by have:=h.nil_iff; simp at this
 | (k',v) :: kvs,d :: ds,h,k=>by
  obtain ⟨v',r,e,h1,h2⟩:=h.cons_iff
  simp only [List.map_cons,List.cons.injEq] at e
  obtain ⟨rfl,rfl⟩:=e
  obtain ⟨i1,i2⟩:=lookT_run h2 k
  simp only [List.map_cons,lookT]
  by_cases e:k'=k
  ·rw [if_pos e]
   refine ⟨fun d' e'=>?_,fun e'=>by cases e'⟩
   cases e'
   exact ⟨_,valV_pos (p:=(k',v)) e,h1⟩
  ·rw [if_neg e,valV_neg (p:=(k',v)) e]
   exact ⟨i1,i2⟩
def dctOf (d:D) (S:Sto):Option (List (List Key) × List D):=match d with
 | .dct ks ds=>some (ks,ds)
 | .ref n=>match S[n]? with
  | some (.dct ks ds)=>some (ks,ds)
  | _=>none
 | _=>none
theorem dct_run {S:Sto} (r:Rel g m S H) {d:D} {v:V} (rv:RV g m H d v) {p:List (List Key) × List D} (e:dctOf d S=some p):∃a kvs,v=.ref a/\Rd H a (.dT kvs)/\kvs.map (·.1)=p.1/\RVs g m H p.2 (kvs.map (·.2)):=by
 unfold dctOf at e
 cases d with
 | dct ks ds =>
  cases e
  obtain ⟨a,kvs,rfl,h1,_,h2,h3⟩:=of_dct rv
  exact ⟨a,kvs,rfl,h1,h2,h3⟩
 | ref n =>
  simp only at e
  split at e
  ·rename_i e0
   cases e
   obtain ⟨a,o,rfl,_,h1,kvs,rfl,h2,h3⟩:=r.at rv e0 (by intro z; cases z)
   exact ⟨a,kvs,rfl,.inl h1,h2,h3⟩
  ·cases e
 | _=>cases e
end
section
variable {X:Cx} {g:G} {E:XD}
def ix2D (x y:D) (S:Sto):R D:=match zjq x S with
 | some p=>match keyD y with
  | some k=>match lookK p.1 p.2 k with
   | some d=>.ok d S
   | none=>.bad
  | none=>.bad
 | none=>ixD x y S
theorem ix_dict (hu:X.A.units+1 < cLine):IxR X (fun x y H Q=>∃a v,x=.ref a/\DGet H a y (some v)/\Q v H):=by
 intro value slice pins s σ H x y v u Q I rx ry h hs
 obtain ⟨a,z,rfl,dg,q⟩:=h
 cases rx
 have hT:=dict_typeIs I dg
 unfold subscriptTail
 refine wpAny_bind ?_
 rw [getitemInPython_of_ne hT.not_modules]
 refine wpAny_bind (wpAny_specialOf hT PySem.F.slot_dict_getitem.lookup ?_)
 have fin:wpAny (model X.prog X.w) X.A (subscripted slice false (.ref a) u) (fun r s₃=>wpAny (model X.prog X.w) X.A (letTemporaryGo value (.ref a) r >>= fun _=>pure r) (EP X pins σ Q) X.xe s₃) X.xe s:=by
  rw [hs]
  exact wpAny_operating (thn (d_getItem (Q:=EP X pins σ Q) hu I dg ry fun w' s3 I3 rw'=>⟨z,H,I3,rw',q⟩) fun r s₃ h₃=>wpAny_bind (wpAny_letTemporaryGo (wpAny_pure h₃)))
 first
  | exact wpAny_pure (wpAny_bind fin)
  | exact wpAny_bind (wpAny_pure (wpAny_bind fin))
  | exact wpAny_bind fin
theorem xd_ix2 (hK:X.K=g.K) (hu:X.A.units+64 < cLine):IxR X (rD2 g E (ix2D)):=by
 intro value slice pins s σ H x y v u Q I rx ry h hs
 obtain ⟨m,S,d,d',r,h1,h2,q⟩:=h
 unfold ix2D at q
 split at q
 ·rename_i p ep
  split at q
  ·rename_i k ek
   split at q
   ·rename_i z ez
    obtain ⟨a,kvs,rfl,hr,e1,e2⟩:=zk5 r h1 ep
    rw [← e1] at ez
    obtain ⟨w,w1,w2⟩:=(look_run e2 k).1 _ ez
    exact ix_dict (by omega) value slice pins s σ H _ _ v u Q I rx ry ⟨a,w,rfl,.inl ⟨kvs,k,hr,key_run h2 ek,w1.symm⟩,q.ok r _ w2⟩ hs
   ·exact q.elim
  ·exact q.elim
 ·exact xd_ix hK value slice pins s σ H x y v u Q I rx ry ⟨m,S,d,d',r,h1,h2,q⟩ hs
def set2D (x y z:D) (S:Sto):R Unit:=match x with
 | .ref n=>match S[n]? with
  | some (.dic ks ds)=>match keyD y with
   | some k=>if ks.length < sizeLine then .ok () (S.set n (.dic (putKs ks k) (putVs ks ds k z))) else .bad
   | none=>.bad
  | _=>setD x y z S
 | _=>.bad
theorem sd_set2 (hu:X.A.units+64 < cLine):PSet X (rSet g E set2D):=by
 intro pins s σ H o i v ov iv u Q I ro ri rv h
 obtain ⟨m,S,d1,d2,d3,r,h1,h2,h3,q⟩:=h
 unfold set2D at q
 split at q
 ·rename_i n
  split at q
  ·rename_i ks ds e0
   split at q
   ·rename_i k ek
    split at q
    ·rename_i hz
     obtain ⟨a,ob,rfl,ha,e1,kvs,rfl,e2,e3⟩:=r.at h1 e0 (by intro z; cases z)
     cases ro
     obtain ⟨p1,p2⟩:=put_run (k:=k) e3 h3
     rw [e2] at p1 p2
     have hl:kvs.length < sizeLine:=by rw [← e2,List.length_map] at hz; exact hz
     refine d_setItem (by omega) I (y:=i) (.inl ⟨kvs,k,e1,key_run h2 ek,hl,rfl⟩) ri rv fun s' I'=>⟨_,I',?_⟩
     exact q.at (ext_set r ha e0) (r.set (ob' := .dic (putKs ks k) (putVs ks ds k d3)) ha e0 ⟨_,rfl,p1,p2⟩)
    ·exact q.elim
   ·exact q.elim
  ·exact sd_set pins s σ H o i v ov iv u Q I ro ri rv ⟨m,S,_,d2,d3,r,h1,h2,h3,q⟩
 ·exact q.elim
end
end VL
namespace VL
open PySem PySem.Spec PyProof.Rows L2
section
variable {X:Cx} {g:G} {E:XD}
def vOf:D->Option V
 | .non=>some .non
 | .bl b=>some (.bl b)
 | .int i=>some (.int i)
 | .str x=>some (.str x)
 | _=>none
theorem vOf_run {m:Mp} {H:Hp} {d:D} {v w:V} (h:RV g m H d v) (e:vOf d=some w):v=w/\flatV w=true:=by
 cases d with
 | non=>cases e; exact ⟨of_non h,rfl⟩
 | bl b=>cases e; exact ⟨of_bl h,rfl⟩
 | int b=>cases e; exact ⟨zq6 h,rfl⟩
 | str b=>cases e; exact ⟨zqo h,rfl⟩
 | _=>cases e
def vsOf:List D->Option (List V)
 | []=>some []
 | d :: ds=>match vOf d,vsOf ds with
  | some v,some vs=>some (v :: vs)
  | _,_=>none
theorem vsOf_run {m:Mp} {H:Hp}:∀{ds:List D} {vs ws:List V},RVs g m H ds vs->vsOf ds=some ws->vs=ws/\ws.all flatV=true
 | [],vs,ws,h,e=>by cases e; exact ⟨h.nil_iff,rfl⟩
 | d :: ds,vs,ws,h,e=>by
  obtain ⟨v,r,rfl,h1,h2⟩:=h.cons_iff
  simp only [vsOf] at e
  split at e
  ·rename_i a b e1 e2
   cases e
   obtain ⟨rfl,f1⟩:=vOf_run h1 e1
   obtain ⟨rfl,f2⟩:=vsOf_run h2 e2
   exact ⟨rfl,by simp [f1,f2]⟩
  ·cases e
def itemsOf (d:D) (S:Sto):Option (List D):=match d with
 | .tup ds=>some ds
 | .ctp ds=>some ds
 | d=>zjj d S
theorem items_run {m:Mp} {S:Sto} {H:Hp} (r:Rel g m S H) {d:D} {v:V} (rv:RV g m H d v) {ds:List D} (e:itemsOf d S=some ds):∃a vs,v=.ref a/\(SqL g.K H a vs∨SqT g.K H a vs)/\RVs g m H ds vs:=by
 unfold itemsOf at e
 split at e
 ·cases e
  obtain ⟨a,vs,rfl,h1,h2⟩:=of_tup rv
  exact ⟨a,vs,rfl,.inr h1,h2⟩
 ·cases e
  obtain ⟨a,vs,rfl,h1,h2⟩:=of_ctp rv
  exact ⟨a,vs,rfl,.inr h1.sq,h2⟩
 ·obtain ⟨a,vs,rfl,h1,h2⟩:=zjx r rv e
  exact ⟨a,vs,rfl,.inl h1,h2⟩
def inStr (a z:Str):Bool:=match a.cps.toList with
 | [c]=>decide (c∈z.cps.toList)
 | _=>!(Builtin.Str.occurrences z a 0 z.length 1).isEmpty
def inD (neg:Bool) (x y:D) (S:Sto):R D:=match y with
 | .str z=>match x with
  | .str a=>.ok (.bl (neg != inStr a z)) S
  | _=>.bad
 | y=>match zjq y S with
  | some p=>match keyD x with
   | some k=>.ok (.bl (neg != (lookK p.1 p.2 k).isSome)) S
   | none=>.bad
  | none=>match itemsOf y S with
   | some ds=>match vOf x,vsOf ds with
    | some v,some vs=>.ok (.bl (neg != inV v vs)) S
    | _,_=>match zjj y S with
     | some ds=>match toP S 65 x,mapO (toP S 64) ds with
      | some p,some ps=>if SeqAt.shaped p=true/\SeqAt.shaped (.list ps)=true then .ok (.bl (neg != ps.any fun z=>PyData.eqv z p)) S else .bad
      | _,_=>.bad
     | none=>.bad
   | none=>.bad
theorem sign_of {a:Str} {c:Nat} (h:a.cps.toList=[c]):a=⟨#[c]⟩:=by
 cases a with
 | mk cps =>
  have:cps=#[c]:=by
   apply Array.toList_inj.mp
   exact h
  rw [this]
theorem look_some {m:Mp} {H:Hp} {kvs:List (Key × V)} {ds:List D} (h:RVs g m H ds (kvs.map (·.2))) (k:Key):(lookK (kvs.map (·.1)) ds k).isSome=(valV kvs k).isSome:=by
 obtain ⟨h1,h2⟩:=look_run h k
 cases e:lookK (kvs.map (·.1)) ds k with
 | some d=>obtain ⟨v,e1,_⟩:=h1 d e; rw [e1]; rfl
 | none=>rw [h2 e]; rfl
theorem od_in (hK:X.K=g.K) (hu:X.A.units+65 < cLine):OpR X (compareOp .In) (rD2 g E (inD false)):=by
 intro pins s σ H x y v u Q I rx ry h
 obtain ⟨m,S,d,d',r,h1,h2,q⟩:=h
 unfold inD at q
 split at q
 ·rename_i z
  split at q
  ·rename_i a
   have ex:=zqo h1
   have ey:=zqo h2
   subst ex ey
   unfold inStr at q
   split at q
   ·rename_i c hc
    have:=sign_of hc
    subst this
    exact op_in_sign pins s σ H _ _ v u Q I rx ry ⟨c,z,rfl,rfl,q.ok r _ (by simp [zqr])⟩
   ·exact op_in_str pins s σ H _ _ v u Q I rx ry ⟨_,_,rfl,rfl,q.ok r _ (by simp [zqr])⟩
  ·exact q.elim
 ·split at q
  ·rename_i p ep
   split at q
   ·rename_i k ek
    obtain ⟨a,kvs,rfl,hr,e1,e2⟩:=zk5 r h2 ep
    rw [← e1] at q
    rw [look_some e2 k] at q
    cases ry
    exact d_in (by omega) I (.inl ⟨kvs,k,hr,key_run h1 ek,rfl⟩) rx fun s' I'=>⟨.bl _,H,I',rfl,q.ok r _ (by simp [zqr])⟩
   ·exact q.elim
  ·split at q
   ·rename_i ds ed
    split at q
    ·rename_i w ws ew es
     obtain ⟨a,vs,rfl,hs,e2⟩:=items_run r h2 ed
     obtain ⟨rfl,f1⟩:=vOf_run h1 ew
     obtain ⟨rfl,f2⟩:=vsOf_run e2 es
     exact op_in_seq pins s σ H _ _ v u Q I rx ry ⟨a,vs,rfl,by rw [hK]; exact hs,f1,f2,q.ok r _ (by simp [zqr])⟩
    ·split at q
     ·rename_i ds2 ed2
      split at q
      ·rename_i p ps e3 e4
       split at q
       ·rename_i hs
        obtain ⟨a,vs,rfl,hl,e2⟩:=zjx r h2 ed2
        exact op_inD (by omega) pins s σ H _ _ v u Q I rx ry ⟨p,ps,by rw [hK]; exact zj7 r _ h1 e3,by rw [hK]; exact .lst hl (mapO_run (fun h e=>zj7 r _ h e) e2 e4),hs.1,hs.2,q.ok r _ (by simp [zqr])⟩
       ·exact q.elim
      ·exact q.elim
     ·exact q.elim
   ·exact q.elim
theorem od_notin (hK:X.K=g.K) (hu:X.A.units+65 < cLine):OpR X (compareOp .NotIn) (rD2 g E (inD true)):=by
 intro pins s σ H x y v u Q I rx ry h
 obtain ⟨m,S,d,d',r,h1,h2,q⟩:=h
 unfold inD at q
 split at q
 ·rename_i z
  split at q
  ·rename_i a
   have ex:=zqo h1
   have ey:=zqo h2
   subst ex ey
   unfold inStr at q
   split at q
   ·rename_i c hc
    have:=sign_of hc
    subst this
    exact op_notIn_sign pins s σ H _ _ v u Q I rx ry ⟨c,z,rfl,rfl,q.ok r _ (by simp [zqr])⟩
   ·exact op_notIn_str pins s σ H _ _ v u Q I rx ry ⟨_,_,rfl,rfl,q.ok r _ (by simp [zqr])⟩
  ·exact q.elim
 ·split at q
  ·rename_i p ep
   split at q
   ·rename_i k ek
    obtain ⟨a,kvs,rfl,hr,e1,e2⟩:=zk5 r h2 ep
    rw [← e1] at q
    rw [look_some e2 k] at q
    cases ry
    exact d_notIn (by omega) I (.inl ⟨kvs,k,hr,key_run h1 ek,rfl⟩) rx fun s' I'=>⟨.bl _,H,I',rfl,q.ok r _ (by simp [zqr])⟩
   ·exact q.elim
  ·split at q
   ·rename_i ds ed
    split at q
    ·rename_i w ws ew es
     obtain ⟨a,vs,rfl,hs,e2⟩:=items_run r h2 ed
     obtain ⟨rfl,f1⟩:=vOf_run h1 ew
     obtain ⟨rfl,f2⟩:=vsOf_run e2 es
     exact op_notIn_seq pins s σ H _ _ v u Q I rx ry ⟨a,vs,rfl,by rw [hK]; exact hs,f1,f2,q.ok r _ (by simp [zqr])⟩
    ·split at q
     ·rename_i ds2 ed2
      split at q
      ·rename_i p ps e3 e4
       split at q
       ·rename_i hs
        obtain ⟨a,vs,rfl,hl,e2⟩:=zjx r h2 ed2
        exact op_notInD (by omega) pins s σ H _ _ v u Q I rx ry ⟨p,ps,by rw [hK]; exact zj7 r _ h1 e3,by rw [hK]; exact .lst hl (mapO_run (fun h e=>zj7 r _ h e) e2 e4),hs.1,hs.2,q.ok r _ (by simp [zqr])⟩
       ·exact q.elim
      ·exact q.elim
     ·exact q.elim
   ·exact q.elim
theorem op_fdivA:OpR X (binaryOp .FloorDiv) (rI (fun _ j=>j≠0/\j.natAbs.log2 < 9000) fun i j=>.int (i.fdiv j)):=opI fun i j _ _ _ _ _ hc q=>floordiv_int hc.1 q (.inl (PyProof.noPylong_of_log2 hc.2))
def fdiv2D (x y:D) (S:Sto):R D:=match x,y with
 | .int i,.int j=>if j≠0/\j.natAbs.log2 < 9000 then .ok (.int (i.fdiv j)) S else .bad
 | _,_=>.bad
theorem od_fdiv2:OpR X (binaryOp .FloorDiv) (rD2 g E fdiv2D):=by
 intro pins s σ H x y v u Q I rx ry h
 obtain ⟨m,S,d,d',r,h1,h2,q⟩:=h
 unfold fdiv2D at q
 split at q
 ·split at q
  ·rename_i hz
   exact op_fdivA pins s σ H x y v u Q I rx ry ⟨_,_,zq6 h1,zq6 h2,hz,q.ok r _ zqm⟩
  ·exact q.elim
 ·exact q.elim
def mul2D (x y:D) (S:Sto):R D:=match x,y with
 | .str a,.int k=>if 0<=k/\k<=10000/\a.length<=1000 then .ok (.str (Txt.mul a k)) S else .bad
 | .tup ds,.int k=>if ds≠[]/\2<=k/\k<=1000/\ds.length<=1000 then .ok (.tup (List.replicate k.toNat ds).flatten) S else .bad
 | x,y=>mulD x y S
theorem zql (hK:X.K=g.K):OpR X (binaryOp .Mult) (rD2 g E mul2D):=by
 intro pins s σ H x y v u Q I rx ry h
 obtain ⟨m,S,d,d',r,h1,h2,q⟩:=h
 unfold mul2D at q
 split at q
 ·rename_i a k
  split at q
  ·rename_i hz
   have ex:=zqo h1
   have ey:=zq6 h2
   subst ex ey
   obtain ⟨t,rfl⟩:=(show ∃t,v=Value.str a t from rx)
   obtain ⟨t',rfl⟩:=(show ∃t,u=Value.int k t from ry)
   have hm:MulOk a k:=by
    refine ⟨by simp; omega,fun h1 _=>?_,fun h1 _=>?_⟩
    ·intro hh
     have:(a.length:Int)<=1000:=by exact_mod_cast hz.2.2
     have h3:(1000:Int)<=(2 ^ 63 - 1) / k:=by
      rw [Int.le_ediv_iff_mul_le (by omega)]
      omega
     omega
    ·show decide (_ > sizeLine)=false
     have h3:a.length * k.toNat<=1000 * 10000:=Nat.mul_le_mul hz.2.2 (by omega)
     have h4:(1000 * 10000:Nat)<=sizeLine:=by decide
     simp; omega
   exact SB.mul hm fun t2 k2=>⟨.str _,H,I.tok _,⟨_,rfl⟩,q.ok r _ zjk⟩
  ·exact q.elim
 ·rename_i ds k
  split at q
  ·rename_i hz
   obtain ⟨a,vs,rfl,s1,v1⟩:=of_tup h1
   refine op_repT pins s σ H _ _ v u Q I rx ry ⟨a,k,vs,rfl,zq6 h2,by rw [hK]; exact s1,?_,hz.2.1,hz.2.2.1,by rw [v1.length]; exact hz.2.2.2,fun p hp=>?_⟩
   ·rintro rfl
    have:=v1.length
    exact hz.1 (List.length_eq_zero_iff.mp this.symm)
   ·exact q.at (zqn r hp) (r.lay hp) _ (zjn ⟨upd_same,r.un hp⟩ ((v1.rep _).ext (zqn r hp)))
  ·exact q.elim
 ·exact od_mul pins s σ H x y v u Q I rx ry ⟨m,S,d,d',r,h1,h2,q⟩
def strD (ds:List D) (S:Sto):R D:=match ds with
 | [.int i]=>if i.natAbs.log2 < 1920 then .ok (.str (toString i)) S else .bad
 | [.str a]=>.ok (.str a) S
 | _=>.bad
theorem cd_str:CallR X (.type "str") (rDs g E strD):=by
 intro pins s σ H xs us Q I r h
 obtain ⟨m,S,ds,rl,h1,q⟩:=h
 unfold strD at q
 split at q
 ·split at q
  ·rename_i hz
   obtain ⟨v,rfl,h2⟩:=rvs1 h1
   exact call_str_int pins s σ H _ us Q I r ⟨_,by rw [zq6 h2],hz,q.ok rl _ zjk⟩
  ·exact q.elim
 ·obtain ⟨v,rfl,h2⟩:=rvs1 h1
  exact SkE.call_str_str pins s σ H _ us Q I r ⟨_,by rw [zqo h2],q.ok rl _ zjk⟩
 ·exact q.elim
def zjv (ds:List D) (S:Sto):R D:=match ds with
 | [x]=>match zjq x S with
  | some p=>.ok (.int p.1.length) S
  | none=>lenD [x] S
 | _=>.bad
theorem cd_len2 (hK:X.K=g.K):CallR X (.builtin "len") (rDs g E (zjv)):=by
 intro pins s σ H xs us Q I r h
 obtain ⟨m,S,ds,rl,h1,q⟩:=h
 unfold zjv at q
 split at q
 ·split at q
  ·rename_i p ep
   obtain ⟨v,rfl,h2⟩:=rvs1 h1
   obtain ⟨a,kvs,rfl,hr,e1,e2⟩:=zk5 rl h2 ep
   obtain ⟨u,rfl,ru⟩:=vals1 r
   cases ru
   have hl:p.1.length=kvs.length:=by rw [← e1,List.length_map]
   exact d_len I hr fun t s' I'=>⟨.int _,H,I',⟨t,rfl⟩,by rw [hl] at q; exact q.ok rl _ zqm⟩
  ·exact cd_len hK pins s σ H xs us Q I r ⟨m,S,_,rl,h1,q⟩
 ·exact q.elim
def nwL (mu:Bool) (xs:List D) (S:Sto):R D:=if mu=true then .ok (.ref S.length) (S++[.lst xs]) else .ok (.lst xs) S
def nwD (mu:Bool) (ks:List Key) (xs:List D) (S:Sto):R D:=if mu=true then .ok (.ref S.length) (S++[.dic ks xs]) else .ok (.dic ks xs) S
def mergeD (ks:List Key) (ds:List D):List (Key × D)->List Key × List D
 | []=>(ks,ds)
 | (k,d) :: r=>mergeD (putKs ks k) (putVs ks ds k d) r
theorem merge_run {m:Mp} {H:Hp}:∀{ps:List (Key × D)} {qs:List (Key × V)} {kvs:List (Key × V)} {ds:List D},ps.map (·.1)=qs.map (·.1)->RVs g m H (ps.map (·.2)) (qs.map (·.2))->RVs g m H ds (kvs.map (·.2)) ->
  (mergeK kvs qs).map (·.1)=(mergeD (kvs.map (·.1)) ds ps).1/\RVs g m H (mergeD (kvs.map (·.1)) ds ps).2 ((mergeK kvs qs).map (·.2))
 | [],[],kvs,ds,_,_,h=>⟨rfl,h⟩
 | [],_ :: _,kvs,ds,e,_,h=>by simp at e
 | _ :: _,[],kvs,ds,e,_,h=>by simp at e
 | (k,d) :: ps,(k',v) :: qs,kvs,ds,e,h1,h=>by
  simp only [List.map_cons,List.cons.injEq] at e
  obtain ⟨e0,e1⟩:=e
  have e0':k=k':=e0
  subst e0'
  obtain ⟨v',r,e2,h2,h3⟩:=h1.cons_iff
  simp only [List.map_cons,List.cons.injEq] at e2
  obtain ⟨rfl,rfl⟩:=e2
  obtain ⟨p1,p2⟩:=put_run (k:=k) h h2
  have:=merge_run (kvs:=putK kvs k v) e1 h3 p2
  rw [p1] at this
  exact this
end
end VL
namespace VL
open PySem PySem.Spec PyProof.Rows L2
section
variable {X:Cx} {g:G} {E:XD} {o e f:Expr} {pos:Pos} {eo:Lc->Sto->R D}
abbrev EF:=Lc->Sto->R D
def prsD:List (EF × EF)->Lc->Sto->R (List (D × D))
 | []=>fun _ S=>.ok [] S
 | (a,b) :: r=>fun L S=>(a L S).bind fun x S1=>(b L S1).bind fun y S2=>(prsD r L S2).bind fun ps S3=>.ok ((x,y) :: ps) S3
def keysP:List (D × D)->Option (List (Key × D))
 | []=>some []
 | (a,b) :: r=>match keyD a,keysP r with
  | some k,some ps=>some ((k,b) :: ps)
  | _,_=>none
def eDisp (mu:Bool) (ps:List (EF × EF)):EF:=fun L S=>(prsD ps L S).calm.bind fun kds S2=>match keysP kds with
 | some kps=>if kps.length<=15 then nwD mu (mergeD [] [] kps).1 (mergeD [] [] kps).2 S2 else .bad
 | none=>.bad
inductive RP (g:G) (m:Mp) (H:Hp):List (D × D)->List (V × V)->Prop
 | nil:RP g m H [] []
 | cons {a b:D} {x y:V} {r:List (D × D)} {t:List (V × V)}:RV g m H a x->RV g m H b y->RP g m H r t->RP g m H ((a,b) :: r) ((x,y) :: t)
theorem prs_run:∀{ps:List (EF × EF)} {σ : St} {H:Hp} {m:Mp} {S:Sto} {L:Lc} {Q:List (V × V)->Hp->Prop},Rel g m S H->RL g m H L σ ->
  Aft g E m H (prsD ps L S) (fun kds m' S' H'=>∀vvs,RP g m' H' kds vvs->Q vvs H')->tPairs (ps.map fun p=>(tD g E p.1,tD g E p.2)) σ H Q
 | [],σ,H,m,S,L,Q,r,l,q=>q.ok r [] .nil
 | (a,b) :: ps,σ,H,m,S,L,Q,r,l,q=>by
  refine ⟨m,S,L,r,l,(Aft.bind q).mono fun x m1 S1 H1 e1 r1 q1 v rv=>?_⟩
  refine ⟨m1,S1,L,r1,l.ext e1,(Aft.bind q1).mono fun y m2 S2 H2 e2 r2 q2 w rw'=>?_⟩
  refine prs_run r2 (l.ext (e1.trans e2)) ((Aft.bind q2).mono fun kds m3 S3 H3 e3 r3 q3 vvs hv=>?_)
  exact q3.ok r3 _ (.cons (rv.ext (e2.trans e3)) (rw'.ext e3) hv)
theorem keysP_run {m:Mp} {H:Hp}:∀{kds:List (D × D)} {vvs:List (V × V)} {kps:List (Key × D)},RP g m H kds vvs->keysP kds=some kps ->
  ∃qs:List (Key × V),vvs=qs.map (fun kv=>(kV kv.1,kv.2))/\kps.map (·.1)=qs.map (·.1)/\RVs g m H (kps.map (·.2)) (qs.map (·.2))
 | _,_,kps,.nil,e=>by cases e; exact ⟨[],rfl,rfl,.nil⟩
 | _,_,kps,.cons h1 h2 h3,e=>by
  simp only [keysP] at e
  split at e
  ·rename_i k ps e1 e2
   cases e
   obtain ⟨qs,rfl,q1,q2⟩:=keysP_run h3 e2
   have:=key_run h1 e1
   subst this
   exact ⟨(k,_) :: qs,rfl,by simp [q1],.cons h2 q2⟩
  ·cases e
theorem mk_dic {mu:Bool} {m1 m':Mp} {S1 S':Sto} {H1 H':Hp} {p:Addr} {kvs kvs':List (Key × V)} {ks:List Key} {ds:List D} {Q:VK} (k:Mk1 g m1 H1 p (.dK kvs) m' S' H') (r1:Rel g m1 S1 H1) (hp:H1 p=none) (hk:kvs'.map (·.1)=ks) (rv:RVs g m' H' ds (kvs'.map (·.2)))
  (q:Aft g E m1 H1 (nwD mu ks ds S') (vQ g Q)):Q (.ref p) (upd H' p (.dK kvs')):=by
 obtain ⟨e7,k7⟩:=k.step (o' := .dK kvs') hp
 obtain ⟨hw,he,hr,hu⟩:=k7.done r1 hp
 have rv2:=(rv.extw e7).extw hw
 unfold nwD at q
 split at q
 ·obtain ⟨_,he2,hr2,hl2⟩:=k7.toSto (ob := .dic ks ds) r1 hp ⟨kvs',rfl,hk,rv.extw e7⟩
  exact q.at he2 hr2 _ (rv_ref hl2)
 ·exact q.at he hr _ (rv_dic (.of upd_same) hu hk rv2)
theorem de_disp {mu:Bool} {ps:List (EF × EF)} {keys:List (Option Expr)} {values:List Expr} (h:PPs X pos keys values (ps.map fun p=>(tD g NoX p.1,tD g NoX p.2))) (hall:keys.all (·.isSome)=true) (hl:keys.length=values.length) (h0:keys≠[]) (h15:keys.length<=15) :
  PE X (.Dict keys values pos) (tD g E (eDisp mu ps)):=by
 refine (pe_disp h hall hl h0 h15).imp fun σ H Q h=>?_
 obtain ⟨m,S,L,r,l,q⟩:=h
 intro p hp
 have mk:=Mk1.start (o := .dK []) r hp
 refine prs_run mk.r (l.extw mk.ex) ((Aft.calmA q (m.hold p) _).mono fun kds m2 S2 H2 e2 r2 q2 vvs hv=>?_)
 have mk2:=mk.on e2 r2
 split at q2
 ·rename_i kps ek
  split at q2
  ·rename_i hz
   obtain ⟨qs,rfl,q1,q3⟩:=keysP_run hv ek
   obtain ⟨p1,p2⟩:=merge_run (kvs:=[]) (ds:=[]) q1 q3 .nil
   have hlen:qs.length<=15:=by
    have h1:kps.length=qs.length:=by have:=congrArg List.length q1; simpa using this
    omega
   exact ⟨mk2.at_,qs,rfl,hlen,mk_dic mk2 r hp p1 p2 q2⟩
  ·exact q2.elim
 ·exact q2.elim
def eM (ty:D->Sto->Bool) (f:D->List D->Sto->R D) (eo:EF) (a:Lc->Sto->R (List D)):EF:=fun L S=>(eo L S).bind fun x S1=>if ty x S1=true then (a L S1).bind fun ds S2=>f x ds S2 else .bad
end
end VL
namespace VL
open PySem PySem.Spec PyProof.Rows L2
inductive DW where
 | keys | vals | items
def DW.ds:DW->List Key->List D->List D
 | .keys,ks,_=>ks.map keyV
 | .vals,_,vs=>vs
 | .items,ks,vs=>List.zipWith (fun k v=>.tup [keyV k,v]) ks vs
def DW.it:DW->Addr->Obj->List (Key × V)->It
 | .keys,a,o,kvs=>Itk a o kvs
 | .vals,a,o,kvs=>Itd a o kvs
 | .items,a,o,kvs=>Iti a o kvs
def wkA (wk:DW) (d:D) (S:Sto):R Wk:=match d with
 | .dic ks vs=>.ok ⟨wk.ds ks vs,fun _=>true⟩ S
 | d=>match wk with
  | .keys=>wkOf d S
  | _=>.bad
def wAk (wk:DW) (ea:EF):Lc->Sto->R Wk:=fun L S=>(ea L S).bind fun d S1=>wkA wk d S1
def isSD (d:D) (S:Sto):Option (Nat × List Key × List D):=match d with
 | .ref n=>match S[n]? with
  | some (.dic ks vs)=>some (n,ks,vs)
  | _=>none
 | _=>none
def unlk (n:Nat) (S:Sto):R Unit:=match S[n]? with
 | some (.dlk ks vs)=>.ok () (S.set n (.dic ks vs))
 | _=>.bad
section
variable {X:Cx} {g:G} {E:XD}
def NF (X:Cx) (a:Addr):Prop := ∀o' u',X.H_0 a≠some (.frz o' u')
theorem get_zip {ks:List Key} {vs:List D} {i:Nat}:(List.zipWith (fun k v=>D.tup [keyV k,v]) ks vs)[i]?=match ks[i]?,vs[i]? with
 | some k,some v=>some (.tup [keyV k,v])
 | _,_=>none:=by
 rw [List.getElem?_zipWith]
 cases ks[i]? <;> cases vs[i]? <;> rfl
theorem jd_U (wk:DW) {m1:Mp} {Hl:Hp} {a:Addr} {od:Obj} {ks:List Key} {vs:List D} {kvs:List (Key × V)} (hl:∀m H,Exk m1 Hl m H->H a=some (.frz od (.dK kvs))) (h1:kvs.map (·.1)=ks) (h2:RVs g m1 Hl vs (kvs.map (·.2))) :
  JD g (wk.it a od kvs) ⟨wk.ds ks vs,fun _=>true⟩ m1 Hl:=by
 intro i m S H e r _
 have hH:H a=some (.frz od (.dK kvs)):=hl m H e
 have hvl:vs.length=kvs.length:=by have:=h2.length; simpa using this.symm
 have hkl:ks.length=kvs.length:=by rw [← h1]; simp
 have hlen:(wk.ds ks vs).length=kvs.length:=by
  cases wk with
  | keys=>simp [DW.ds,hkl]
  | vals=>simp [DW.ds,hvl]
  | items=>simp [DW.ds,List.length_zipWith,hkl,hvl]
 refine ⟨fun z=>?_,fun d hd=>?_⟩
 ·have:kvs.length<=i:=by rw [← hlen]; exact List.getElem?_eq_none_iff.mp z
  cases wk <;> exact ⟨hH,this⟩
 ·have hi:i < kvs.length:=by rw [← hlen]; exact (List.getElem?_eq_some_iff.mp hd).1
  have ek:kvs[i]?=some kvs[i]:=List.getElem?_eq_getElem hi
  have eks:ks[i]?=some (kvs[i]).1:=by rw [← h1,List.getElem?_map,ek]; rfl
  have evs:(kvs.map (·.2))[i]?=some (kvs[i]).2:=by rw [List.getElem?_map,ek]; rfl
  cases wk with
  | keys =>
   refine ⟨⟨hH,hi⟩,fun x H' y=>?_⟩
   obtain ⟨rfl,k,v,e1,rfl⟩:=y
   rw [ek] at e1
   have hd':(ks.map keyV)[i]?=some d:=hd
   rw [List.getElem?_map,eks] at hd'
   cases hd'
   have e1':=Option.some.inj e1
   rw [e1']
   exact ⟨.refl,r,keyV_run _⟩
  | vals =>
   refine ⟨⟨hH,hi⟩,fun x H' y=>?_⟩
   obtain ⟨rfl,k,e1⟩:=y
   have hd':vs[i]?=some d:=hd
   obtain ⟨w,w1,w2⟩:=h2.get hd'
   rw [evs] at w1
   rw [ek] at e1
   have e1':=Option.some.inj e1
   rw [e1'] at w1
   cases w1
   exact ⟨.refl,r,w2.extw e.toExw⟩
  | items =>
   refine ⟨⟨hH,hi⟩,fun x H' y=>?_⟩
   obtain ⟨T,k,v,e1,rfl,hT,rfl⟩:=y
   have hd':(List.zipWith (fun k v=>D.tup [keyV k,v]) ks vs)[i]?=some d:=hd
   have hiv:i < vs.length:=by omega
   have evd:vs[i]?=some vs[i]:=List.getElem?_eq_getElem hiv
   rw [get_zip,eks,evd] at hd'
   cases hd'
   obtain ⟨w,w1,w2⟩:=h2.get evd
   rw [evs] at w1
   rw [ek] at e1
   have e1':=Option.some.inj e1
   rw [e1'] at w1 ⊢
   cases w1
   exact ⟨zqn r hT,r.lay hT,zjn ⟨upd_same,r.un hT⟩ (.cons (keyV_run k) (.cons ((w2.extw e.toExw).ext (zqn r hT)) .nil))⟩
theorem ext_lockv {m:Mp} {H:Hp} {a:Addr} {od:Obj} {kvs:List (Key × V)} {S:Sto} (r:Rel g m S H) (h:H a=some (.dK kvs)) (u:Un m a):Ext g m H m (upd H a (.frz od (.dK kvs)))/\Rel g m S (upd H a (.frz od (.dK kvs))):=by
 have e:Ext g m H m (upd H a (.frz od (.dK kvs))):=by
  refine .of ⟨fun n b f h=>⟨f,h,fun z=>z⟩,fun b o hb un=>⟨un,?_⟩⟩ rfl (fun b hb=>?_) rfl (fun x hx=>?_)
  ·by_cases z:b=a
   ·subst z
    rw [h] at hb; cases hb
    exact .inr ⟨trivial,od,upd_same⟩
   ·exact .inl (by rw [upd_ne z]; exact hb)
  ·rw [upd_ne]; rintro rfl; exact u.2 hb
  ·rw [upd_ne]; intro z; exact u.1 x.1 (by rw [(r.lks x hx).1,z])
 refine ⟨e,r.len,r.inj,fun n b ob h1 h2=>?_,r.gone,fun b hb=>?_,r.lks,g.st e.toExw r.inv⟩
 ·obtain ⟨o,e1,e2⟩:=r.ob n b ob h1 h2
  refine ⟨o,?_,e2.ext e⟩
  rw [upd_ne]
  ·exact e1
  ·rintro rfl
   exact u.1 n h1
 ·obtain ⟨⟨o,e1⟩,e2⟩:=r.prv b hb
  refine ⟨⟨o,?_⟩,e2⟩
  rw [upd_ne]
  ·exact e1
  ·rintro rfl
   exact u.2 hb
theorem PE.lockedV {e:Expr} {ea:EF} (he:PE X e (tD g E ea)) (wk:DW) {pins:List (Addr × Obj)} {s:Shared} {σ : St} {H:Hp} {Q:It->Hp->Prop} {m:Mp} {S S':Sto} {L:Lc} {ks:List Key} {vs:List D} (I:Inv X pins σ H s) (r:Rel g m S H) (l:RL g m H L σ) (hr:ea L S=.ok (.dic ks vs) S')
  (q:Aft g E m H (.ok (⟨wk.ds ks vs,fun _=>true⟩:Wk) S') fun W m' _ H'=>∀J,JD g J W m' H'->Q J H') :
  wpAny (model X.prog X.w) X.A (eval e X.env) (fun u s1=>∃d o kvs H1,u=.ref d/\Inv X pins σ H1 s1/\H1 d=some (.frz o (.dK kvs))/\Q (wk.it d o kvs) H1) X.xe s:=by
 refine thn (he.run pins s σ H (fun v H1=>∃m1:Mp,Ext g m H m1 H1/\Rel g m1 S' H1/\RV g m1 H1 (.dic ks vs) v) I ⟨m,S,L,r,l,by rw [hr]; exact fun m' H' e' r' v rv=>⟨m',e',r',rv⟩⟩) fun u s1 hu=>?_
 obtain ⟨v,H1,I1,ru,m1,e1,r1,rv⟩:=hu
 obtain ⟨a,kvs,rfl,h1,u1,h2,h3⟩:=of_dic rv
 cases ru
 rcases h1 with h1 | ⟨od,h1⟩
 ·obtain ⟨od,I2⟩:=I1.lock h1 (by trivial)
  obtain ⟨ex,r2⟩:=ext_lockv (od:=od) r1 h1 u1
  refine ⟨a,od,kvs,_,rfl,I2,upd_same,q.at (e1.trans ex) r2 _ (jd_U wk (fun m' H' e'=>?_) h2 (h3.ext ex))⟩
  exact (e'.own a _ upd_same u1).2.of fun z=>z
 ·refine ⟨a,od,kvs,_,rfl,I1,h1,q.at e1 r1 _ (jd_U wk (fun m' H' e'=>?_) h2 h3)⟩
  exact (e'.own a _ h1 u1).2.of fun z=>z
def tIU (X:Cx) (g:G) (E:XD) (wk:DW) (ea:EF):TI:=fun σ H Q=>∃m S L,Rel g m S H/\RL g m H L σ/\Aft g E m H (ea L S) fun d m1 S1 H1=>∃n a ks vs kvs,d=.ref n/\m1.l[n]?=some (a,true)/\S1[n]?=some (.dic ks vs)/\H1 a=some (.dK kvs)/\kvs.map (·.1)=ks/\RVs g m1 H1 vs (kvs.map (·.2)) /\
 ∀od,NF X a->∀J,JD g J ⟨wk.ds ks vs,fun _=>true⟩ ⟨m1.l,m1.o,(n,a) :: m1.k⟩ (upd H1 a (.frz od (.dK kvs)))->Q J (upd H1 a (.frz od (.dK kvs)))
structure Lk1 (g:G) (m1:Mp) (H1:Hp) (n:Nat) (a:Addr) (od:Obj) (kvs:List (Key × V)) (m':Mp) (S':Sto) (H':Hp):Prop where
 ex:Exw m1 H1 m' H'
 po:m'.o=m1.o
 kp:∀b∈m1.o,H' b=H1 b
 pk:m'.k=(n,a) :: m1.k
 kk:∀x∈m1.k,H' x.2=H1 x.2
 at_:H' a=some (.frz od (.dK kvs))
 r:Rel g m' S' H'
theorem exw_own1 {m:Mp} {H:Hp} {n:Nat} {a:Addr} {o:HO} {k:List (Nat × Addr)} (h:m.l[n]?=some (a,true)):Exw m H ⟨m.l,m.o,k⟩ (upd H a o) :=
 ⟨fun n b f h=>⟨f,h,fun z=>z⟩,fun b u hb un=>⟨un,.inl (by rw [upd_ne]; exact hb; rintro rfl; exact un.1 n h)⟩⟩
theorem Lk1.start {m1:Mp} {S1:Sto} {H1:Hp} {n:Nat} {a:Addr} {od:Obj} {kvs:List (Key × V)} {ks:List Key} {vs:List D} (r1:Rel g m1 S1 H1) (ha:m1.l[n]?=some (a,true)) (e0:S1[n]?=some (.dic ks vs)) (hH:H1 a=some (.dK kvs)) (hk:kvs.map (·.1)=ks) (hv:RVs g m1 H1 vs (kvs.map (·.2))) :
  Lk1 g m1 H1 n a od kvs ⟨m1.l,m1.o,(n,a) :: m1.k⟩ (S1.set n (.dlk ks vs)) (upd H1 a (.frz od (.dK kvs))):=by
 have ew:Exw m1 H1 ⟨m1.l,m1.o,(n,a) :: m1.k⟩ (upd H1 a (.frz od (.dK kvs))):=exw_own1 ha
 have es:Ext g m1 H1 m1 (upd H1 a (.frz od (.dK kvs))):=ext_set r1 ha e0
 have rs:Rel g m1 (S1.set n (.dlk ks vs)) (upd H1 a (.frz od (.dK kvs))):=r1.set (ob' := .dlk ks vs) ha e0 ⟨od,kvs,rfl,hk,hv⟩
 have en:Exw m1 (upd H1 a (.frz od (.dK kvs))) ⟨m1.l,m1.o,(n,a) :: m1.k⟩ (upd H1 a (.frz od (.dK kvs))):=⟨fun n b f h=>⟨f,h,fun z=>z⟩,fun b u hb un=>⟨un,.inl hb⟩⟩
 refine ⟨ew,rfl,es.keep,rfl,es.keepk,upd_same,⟨rs.len,rs.inj,fun k b ob h1 h2=>?_,rs.gone,rs.prv,fun x hx=>?_,g.st en rs.inv⟩⟩
 ·obtain ⟨o,e1,e2⟩:=rs.ob k b ob h1 h2
  exact ⟨o,e1,e2.extw en⟩
 ·rcases List.mem_cons.mp hx with z | z
  ·subst z
   exact ⟨ha,ks,vs,by rw [List.getElem?_set_self (List.getElem?_eq_some_iff.mp e0).1]⟩
  ·exact rs.lks x z
theorem Lk1.on {m1 m' m2:Mp} {S' S2:Sto} {H1 H' H2:Hp} {n:Nat} {a:Addr} {od:Obj} {kvs:List (Key × V)} (k:Lk1 g m1 H1 n a od kvs m' S' H') (e:Ext g m' H' m2 H2) (r:Rel g m2 S2 H2):Lk1 g m1 H1 n a od kvs m2 S2 H2 :=
 ⟨k.ex.trans e.toExw,e.priv.trans k.po,fun b hb=>(e.keep b (by rw [k.po]; exact hb)).trans (k.kp b hb),e.privk.trans k.pk,fun x hx=>(e.keepk x (by rw [k.pk]; exact List.mem_cons_of_mem _ hx)).trans (k.kk x hx),(e.keepk (n,a) (by rw [k.pk]; exact List.mem_cons_self)).trans k.at_,r⟩
theorem Lk1.done {b:Type} {m1 m':Mp} {S1 S':Sto} {H1 H':Hp} {n:Nat} {a:Addr} {od:Obj} {kvs:List (Key × V)} {k:Sto->R b} {Q:b->Mp->Sto->Hp->Prop} (lk:Lk1 g m1 H1 n a od kvs m' S' H') (r1:Rel g m1 S1 H1) (ha:m1.l[n]?=some (a,true)) (h0:H1 a=some (.dK kvs))
  (q:Aft g E m1 H1 ((unlk n S').bind fun _ S3=>k S3) Q):∃m2 S3,Exw m' H' m2 (upd H' a (.dK kvs))/\Rel g m2 S3 (upd H' a (.dK kvs))/\Aft g E m2 (upd H' a (.dK kvs)) (k S3) Q:=by
 unfold unlk at q
 split at q
 ·rename_i ks vs e0
  have hl:=lk.r.lks (n,a) (by rw [lk.pk]; exact List.mem_cons_self)
  have ha':m'.l[n]?=some (a,true):=hl.1
  obtain ⟨o,e1,od',kvs',e2,e3,e4⟩:=lk.r.ob n a _ ha' e0
  rw [lk.at_] at e1
  cases e1
  cases e2
  have ew:Exw m' H' ⟨m'.l,m'.o,m1.k⟩ (upd H' a (.dK kvs)):=exw_own1 ha'
  have hno:∀x∈m1.k,x.1≠n/\x.2≠a:=fun x hx=>by
   have h5:x.1≠n:=fun z=>by
    obtain ⟨h6,ks',ds',h7⟩:=r1.lks x hx
    rw [z,ha] at h6
    obtain ⟨o,e1,od'',kvs'',e5,_⟩:=r1.ob n a _ ha (by rw [← z]; exact h7)
    rw [h0,e5] at e1
    cases e1
   refine ⟨h5,fun z=>h5 (r1.inj x.1 n a ?_ ha)⟩
   rw [(r1.lks x hx).1,z]
  have ex:Ext g m1 H1 ⟨m'.l,m'.o,m1.k⟩ (upd H' a (.dK kvs)):=by
   refine .of (lk.ex.trans ew) lk.po (fun b hb=>?_) rfl (fun x hx=>?_)
   ·rw [upd_ne]
    ·exact lk.kp b hb
    ·rintro rfl
     exact (r1.prv b hb).2 n ha
   ·rw [upd_ne (hno x hx).2]
    exact lk.kk x hx
  have rr:Rel g ⟨m'.l,m'.o,m1.k⟩ (S'.set n (.dic ks vs)) (upd H' a (.dK kvs)):=by
   refine ⟨by simpa using lk.r.len,lk.r.inj,fun k b ob h1 h2=>?_,fun k b h1=>?_,fun b hb=>?_,fun x hx=>?_,g.st ew lk.r.inv⟩
   ·by_cases hk:k=n
    ·subst hk
     have h1':m'.l[k]?=some (b,true):=h1
     rw [ha'] at h1'; cases h1'
     rw [List.getElem?_set_self (List.getElem?_eq_some_iff.mp e0).1] at h2
     cases h2
     exact ⟨_,upd_same,kvs,rfl,e3,e4.extw ew⟩
    ·rw [List.getElem?_set_ne (Ne.symm hk)] at h2
     obtain ⟨o,f1,f2⟩:=lk.r.ob k b ob h1 h2
     refine ⟨o,?_,f2.extw ew⟩
     rw [upd_ne]
     ·exact f1
     ·rintro rfl
      exact hk (lk.r.inj k n _ h1 ha')
   ·have hk:k≠n:=by rintro rfl; have h1':m'.l[k]?=some (b,false):=h1; rw [ha'] at h1'; cases h1'
    rw [List.getElem?_set_ne (Ne.symm hk)]
    exact lk.r.gone k b h1
   ·obtain ⟨⟨o,f1⟩,f2⟩:=lk.r.prv b hb
    refine ⟨⟨o,?_⟩,f2⟩
    rw [upd_ne]
    ·exact f1
    ·rintro rfl
     exact f2 n ha'
   ·obtain ⟨f1,ks',ds',f2⟩:=lk.r.lks x (by rw [lk.pk]; exact List.mem_cons_of_mem _ hx)
    exact ⟨f1,ks',ds',by rw [List.getElem?_set_ne (Ne.symm (hno x hx).1)]; exact f2⟩
  exact ⟨_,_,ew,rr,Aft.later (r:=k _) q ex⟩
 ·exact q.elim
theorem PE.locked {e:Expr} {ea:EF} (he:PE X e (tD g E ea)) (wk:DW) {pins:List (Addr × Obj)} {s:Shared} {σ : St} {H:Hp} {Q:It->Hp->Prop} (I:Inv X pins σ H s) (h:tIU X g E wk ea σ H Q) :
  wpAny (model X.prog X.w) X.A (eval e X.env) (fun u s1=>∃d o kvs H1,u=.ref d/\Inv X pins σ H1 s1/\H1 d=some (.frz o (.dK kvs))/\Q (wk.it d o kvs) H1) X.xe s:=by
 obtain ⟨m,S,L,r,l,q⟩:=h
 refine thn (he.run pins s σ H (fun v H1=>∃(n:Nat) (a:Addr) (ks:List Key) (vs:List D) (kvs:List (Key × V)) (m1:Mp) (S1:Sto),v=.ref a/\Rel g m1 S1 H1/\m1.l[n]?=some (a,true)/\S1[n]?=some (.dic ks vs)/\H1 a=some (.dK kvs)/\kvs.map (·.1)=ks/\RVs g m1 H1 vs (kvs.map (·.2)) /\
   ∀od,NF X a->∀J,JD g J ⟨wk.ds ks vs,fun _=>true⟩ ⟨m1.l,m1.o,(n,a) :: m1.k⟩ (upd H1 a (.frz od (.dK kvs)))->Q J (upd H1 a (.frz od (.dK kvs)))) I ⟨m,S,L,r,l,q.mono fun d m1 S1 H1 e1 r1 q1 v rv=>?_⟩) fun u s1 hu=>?_
 ·obtain ⟨n,a,ks,vs,kvs,rfl,h1,h2,h3,h4,h5,h6⟩:=q1
  obtain ⟨a',b,rfl,h7⟩:=of_ref rv
  rw [h1] at h7; cases h7
  exact ⟨n,a,ks,vs,kvs,m1,S1,rfl,r1,h1,h2,h3,h4,h5,h6⟩
 ·obtain ⟨v,H1,I1,ru,n,a,ks,vs,kvs,m1,S1,rfl,r1,h1,h2,h3,h4,h5,h6⟩:=hu
  cases ru
  obtain ⟨od,I2⟩:=I1.lock h3 (by trivial)
  have lk:Lk1 g m1 H1 n a od kvs _ _ _:=Lk1.start r1 h1 h2 h3 h4 h5
  exact ⟨a,od,kvs,_,rfl,I2,upd_same,h6 od (I1.nofrz h3 (by trivial)) _ (jd_U wk (fun m' H' e'=>(e'.keepk (n,a) List.mem_cons_self).trans upd_same) h4 (h5.extw lk.ex))⟩
structure PIA (X:Cx) (g:G) (E:XD) (wk:DW) (tg iter:Expr) (ea:EF):Prop where
 v:PI X tg iter (tI g E (wAk wk ea))
 u:PI X tg iter (tIU X g E wk ea)
theorem keys_end {tg:Expr} {pins:List (Addr × Obj)} {σ : St} {R:It->Hp->Prop} {u:Value} {s1:Shared} (h:∃d o kvs H1,u=.ref d/\Inv X pins σ H1 s1/\H1 d=some (.frz o (.dK kvs))/\R (DW.keys.it d o kvs) H1):wpAny (model X.prog X.w) X.A (pyIter u) (PIE X pins σ tg R) X.xe s1:=by
 obtain ⟨d,o,kvs,H1,eu,I1,hd,q⟩:=h
 subst eu
 obtain ⟨hs,hgd,hx,es,ep,vs,hdt,hsz,kv,hm⟩:=I1.frzK hd
 refine iter_keys hs hgd hx hdt (pi_one (tk:=s1.toks) I1 _ (turn_keys _ hdt) ⟨_,Heap.get?_push_size _ rfl,rfl,?_⟩ q)
 rw [hsz] <;> rfl
theorem dA_keys {tg e:Expr} {ea:EF} (hK:X.K=g.K) (he:PE X e (tD g E ea)):PIA X g E .keys tg e ea:=by
 refine ⟨⟨fun pins s σ H R I h=>?_⟩,⟨fun pins s σ H R I h=>?_⟩⟩
 ·obtain ⟨m,S,L,r,l,q⟩:=h
  by_cases hv:∃ks vs S',ea L S=.ok (.dic ks vs) S'
  ·obtain ⟨ks,vs,S',hr⟩:=hv
   refine thn (PE.lockedV he .keys I r l hr (by unfold wAk at q; rw [hr] at q; exact q)) fun u s1 h1=>keys_end h1
  ·refine (di_any hK he).run pins s σ H R I ⟨m,S,L,r,l,?_⟩
   unfold wAk at q
   unfold wAny
   cases hr:ea L S with
   | ok d S' =>
    rw [hr] at q
    cases d with
    | dic ks vs=>exact absurd ⟨ks,vs,S',hr⟩ hv
    | _=>exact q
   | exc c fs S'=>rw [hr] at q; exact q
   | bad=>rw [hr] at q; exact q
 ·exact thn (PE.locked he .keys I h) fun u s1 h1=>keys_end h1
theorem items_end {elts:List Expr} {kk:Nat} {tpos apos cpos:Pos} {e:Expr} {pins:List (Addr × Obj)} {s:Shared} {σ : St} {R:It->Hp->Prop} (hbase:attributeBase e "items" X.env (eval e X.env)=eval e X.env) (hline:(apos.endLine == cpos.line)=true)
  (h:wpAny (model X.prog X.w) X.A (eval e X.env) (fun u s1=>∃d o kvs H1,u=.ref d/\Inv X pins σ H1 s1/\H1 d=some (.frz o (.dK kvs))/\R (DW.items.it d o kvs) H1) X.xe s) :
  wpAny (model X.prog X.w) X.A (eval (.Call (.Attribute e "items" apos) [] [] cpos) X.env) (fun itv s2=>wpAny (model X.prog X.w) X.A (pyIter itv) (PIE X pins σ (.Tuple elts kk tpos) R) X.xe s2) X.xe s:=by
 refine wpAny_Call_method (T := "dict") (id := "dict.items") hbase rfl hline F.plainAttrs_dict F.slot_dict_items F.type_dict_items (thn h fun u s1 ⟨d,o,kvs,H1,eu,I1,hd,q⟩=>?_)
 subst eu
 obtain ⟨hs,hgd,hx,es,ep,vs,hdt,hsz,kv,hm⟩:=I1.frzK hd
 have hl:kvs.length=vs.length:=Paired.length kv
 refine ⟨hm.dictOf.typeIs,hm.dictOf.mapOf.noDict,?_⟩
 have I2:Inv X pins σ H1 { s1 with heap:=s1.heap.push { cls := .type "dict_items",data := .fields #[.ref d] } }:=I1.kept (t':=s1.toks) fun b ob q=>Heap.get?_push_of_some _ q
 have fin:wpAny (model X.prog X.w) X.A (pyIter (.ref s1.heap.objs.size)) (PIE X pins σ (.Tuple elts kk tpos) R) X.xe { s1 with heap:=s1.heap.push { cls := .type "dict_items",data := .fields #[.ref d] } }:=by
  refine wpAny_pyIter_items (d:=d) (knd:=mixKind X.prog X.w) ⟨_,Heap.get?_push_size _ rfl,rfl,rfl⟩ (hm.push _) (pi_one (tk:=s1.toks) I2 _ (turn_items _ hdt) ⟨.none,.none,?_⟩ q)
  rw [hl]
  exact Heap.get?_push_size _ rfl
 show wpAny _ _ (callWith cpos (.builtin "dict.items") [.ref d] [] []) _ X.xe s1
 exact method_meetsIn F.slot_dict_items F.entry_dict_items rfl (PySem.evalArgs_none ⟨rfl,hm.dictOf.typeIs,F.args_dict_items_1 _,_,meets_dict_items (mixKind X.prog X.w) d hs,⟨vs,hm.dictOf⟩,fin⟩)
theorem dA_items {elts:List Expr} {kk:Nat} {tpos apos cpos:Pos} {e:Expr} {ea:EF} (he:PE X e (tD g E ea)) (hbase:attributeBase e "items" X.env (eval e X.env)=eval e X.env:=by rfl) (hline:(apos.endLine == cpos.line)=true:=by rfl) :
  PIA X g E .items (.Tuple elts kk tpos) (.Call (.Attribute e "items" apos) [] [] cpos) ea:=by
 refine ⟨⟨fun pins s σ H R I h=>?_⟩,⟨fun pins s σ H R I h=>?_⟩⟩
 ·obtain ⟨m,S,L,r,l,q⟩:=h
  by_cases hv:∃ks vs S',ea L S=.ok (.dic ks vs) S'
  ·obtain ⟨ks,vs,S',hr⟩:=hv
   exact items_end hbase hline (PE.lockedV he .items I r l hr (by unfold wAk at q; rw [hr] at q; exact q))
  ·refine items_end hbase hline (thn (he.run pins s σ H (fun _ _=>False) I ⟨m,S,L,r,l,?_⟩) fun u s1 ⟨_,_,_,_,z⟩=>z.elim)
   unfold wAk at q
   cases hr:ea L S with
   | ok d S' =>
    rw [hr] at q
    cases d with
    | dic ks vs=>exact absurd ⟨ks,vs,S',hr⟩ hv
    | _=>exact (show False from q).elim
   | exc c fs S'=>rw [hr] at q; exact q
   | bad=>rw [hr] at q; exact q
 ·exact items_end hbase hline (PE.locked he .items I h)
end
end VL
namespace VL
open PySem PySem.Spec PyProof.Rows L2
section
variable {X:Cx} {g:G} {E:XD}
theorem pe_unl {e:Expr} {t:TE} (h:PE X e t):PE X e (fun σ H Q=>t σ H fun v H'=>∃d od u,H' d=some (.frz od u)/\NF X d/\Q v (upd H' d u)):=by
 refine ⟨fun pins s σ H Q I hw=>?_⟩
 refine thn (h.run pins s σ H _ I hw) fun v s1 ⟨x,H1,I2,r,d,od,u,e,nf,q⟩=>?_
 exact ⟨x,_,I2.unlock e nf,r,q⟩
theorem sd_at {m1:Mp} {S1:Sto} {H1:Hp} {d:D} {n:Nat} {ks:List Key} {vs:List D} (r1:Rel g m1 S1 H1) (e:isSD d S1=some (n,ks,vs)):d=.ref n/\S1[n]?=some (.dic ks vs)/\∃a kvs,m1.l[n]?=some (a,true)/\H1 a=some (.dK kvs)/\kvs.map (·.1)=ks/\RVs g m1 H1 vs (kvs.map (·.2)):=by
 unfold isSD at e
 split at e
 ·rename_i k
  split at e
  ·rename_i ks' vs' e0
   cases e
   refine ⟨rfl,e0,?_⟩
   have hn:n < m1.l.length:=by rw [r1.len]; exact (List.getElem?_eq_some_iff.mp e0).1
   cases hx:m1.l[n] with
   | mk a b =>
    have h1:m1.l[n]?=some (a,b):=by rw [List.getElem?_eq_getElem hn,hx]
    have h2:=r1.live h1 e0 (by intro z; cases z)
    obtain ⟨o,h3,kvs,rfl,h4,h5⟩:=r1.ob n a _ h2 e0
    exact ⟨a,kvs,h2,h3,h4,h5⟩
  ·cases e
 ·cases e
def eLcA (wk:DW) (ea:EF) (t:D->Lc->Sto->R Lc) (tt:Lc->Sto->R Bool) (te:EF) (vs:List Nat):EF:=fun L S=>(ea L S).bind fun d S1=>match isSD d S1 with
 | some p=>(lcL (fun _=>true) t tt te (zjb L vs) (wk.ds p.2.1 p.2.2) [] (S1.set p.1 (.dlk p.2.1 p.2.2))).calm.bind fun x S3=>(unlk p.1 S3).bind fun _ S4=>.ok x S4
 | none=>(wkA wk d S1).bind fun W S2=>lcL W.ok t tt te (zjb L vs) W.ds [] S2
variable {pos:Pos} {elt tg iter:Expr} {ifs:List Expr} {scope:Scope} {own:List (Str × Nat)} {wk:DW} {ea:EF} {t:D->Lc->Sto->R Lc} {tt:Lc->Sto->R Bool} {te:EF}
theorem de_lcA {vs:List Nat} (hc:X.calm=true) (hN:X.N.Nodup) (hvs:own.map (·.2)=vs) (hi:PIA X g E wk tg iter ea) (ok:BlkOk X.N X.env.scope scope own)
  (hg:∀(s:Shared) (H:Hp) (C:Addr) (cl:List (Str × Addr)) (fp:List Addr),PG (X.blk s H scope (compEnvC scope cl C X.env) fp) tg (tG g NoX (WpP vs) t)) (ht:∀(s:Shared) (H:Hp) (C:Addr) (cl:List (Str × Addr)) (fp:List Addr),PTs (X.blk s H scope (compEnvC scope cl C X.env) fp) ifs (tT g NoX tt))
  (he:∀(s:Shared) (H:Hp) (C:Addr) (cl:List (Str × Addr)) (fp:List Addr),PE (X.blk s H scope (compEnvC scope cl C X.env) fp) elt (tD g NoX te)) (hs:∀x,foldedSetIterable iter X.env x=pure x:=by intro _; rfl) :
  PE X (.ListComp elt [⟨tg,iter,ifs,0⟩] scope pos) (tD g E (eLcA wk ea t tt te vs)):=by
 refine ⟨fun pins s σ H Q I h=>?_⟩
 obtain ⟨m,S,L,r,l,q⟩:=h
 by_cases hv:∃n ks vs' d S',ea L S=.ok d S'/\isSD d S'=some (n,ks,vs')
 ·obtain ⟨n,ks,vs',d0,S',hr,hsd⟩:=hv
  subst hvs
  have q':Aft g E m H ((lcL (fun _=>true) t tt te (zjb L (own.map (·.2))) (wk.ds ks vs') [] (S'.set n (.dlk ks vs'))).calm.bind fun x S3=>(unlk n S3).bind fun _ S4=>.ok x S4) (vQ g Q):=by
   unfold eLcA at q
   rw [hr] at q
   have q0:Aft g E m H (match isSD d0 S' with
    | some p=>(lcL (fun _=>true) t tt te (zjb L (own.map (·.2))) (wk.ds p.2.1 p.2.2) [] (S'.set p.1 (.dlk p.2.1 p.2.2))).calm.bind fun x S3=>(unlk p.1 S3).bind fun _ S4=>.ok x S4
    | none=>(wkA wk d0 S').bind fun W S2=>lcL W.ok t tt te (zjb L (own.map (·.2))) W.ds [] S2) (vQ g Q):=q
   rw [hsd] at q0
   exact q0
  refine (pe_unl (pe_lc hc hN hi.u ok hg ht he hs)).run pins s σ H Q I ⟨m,S,L,r,l,?_⟩
  rw [hr]
  intro m1 H1 e1 r1
  obtain ⟨rfl,e0,a,kvs,ha,hH,h4,h5⟩:=sd_at r1 hsd
  refine ⟨n,a,ks,vs',kvs,rfl,ha,e0,hH,h4,h5,fun od nf J hJ=>?_⟩
  have lk:=Lk1.start (od:=od) r1 ha e0 hH h4 h5
  have q3:=Aft.calmA (Aft.later q' e1) ⟨m1.l,m1.o,(n,a) :: m1.k⟩ (upd H1 a (.frz od (.dK kvs)))
  refine lc_loop (W:=⟨wk.ds ks vs',fun _=>true⟩) (Q:=fun v H'=>∃d od u,H' d=some (.frz od u)/\NF X d/\Q v (upd H' d u)) lk.r ((l.ext e1).extw lk.ex) hJ q3 fun d m2 S2 H2 v e2 r2 q4 rv=>?_
  obtain ⟨m3,S3,e3,r3,q5⟩:=(lk.on e2 r2).done r1 ha hH q4
  exact ⟨a,od,_,(lk.on e2 r2).at_,nf,q5.ok r3 v (rv.extw e3)⟩
 ·refine (de_lc hc hN hvs hi.v ok hg ht he hs).run pins s σ H Q I ⟨m,S,L,r,l,?_⟩
  unfold eLcA at q
  unfold eLc wAk
  cases hr:ea L S with
  | ok d S' =>
   rw [hr] at q
   cases hsd:isSD d S' with
   | some p=>exact absurd ⟨p.1,p.2.1,p.2.2,d,S',hr,hsd⟩ hv
   | none =>
    have q':Aft g E m H (match isSD d S' with
     | some p=>(lcL (fun _=>true) t tt te (zjb L vs) (wk.ds p.2.1 p.2.2) [] (S'.set p.1 (.dlk p.2.1 p.2.2))).calm.bind fun x S3=>(unlk p.1 S3).bind fun _ S4=>.ok x S4
     | none=>(wkA wk d S').bind fun W S2=>lcL W.ok t tt te (zjb L vs) W.ds [] S2) (vQ g Q):=q
    rw [hsd] at q'
    exact q'
  | exc c fs S'=>rw [hr] at q; exact q
  | bad=>rw [hr] at q; exact q
end
end VL
namespace VL
open PySem PySem.Spec PyProof.Rows L2
abbrev lobj (vs:List Value) (n:Nat):Obj:={ cls := .type "list",data := .seq vs.toArray n }
section
variable {prog:Program} {w:World} {A:Around} {R:Result->Shared->Prop}
theorem sum_loopL {it l S:Addr} {items:Array Value} (hh:A.handled=none) (hiS:it≠S) (hli:l≠it) (hlS:l≠S):∀(rest:List (Addr × List Value)) (i:Nat) (s:Shared) (T:Addr) (acc:List Value) (nT cS:Nat),
  items.toList.drop i=rest.map (fun p=>Value.ref p.1)->s.heap.IsListIter it l i->s.heap.IsList l items->s.heap.get? S=some { cls := .type "list",dict:=none,data := .seq #[.ref T] cS,slots := #[] }->s.heap.get? T=some (lobj acc nT) ->
  T≠it->T≠S->(∀p∈rest,p.1≠it/\p.1≠S/\∃n,s.heap.get? p.1=some (lobj p.2 n))->(acc++(rest.map (·.2)).flatten).length<=sizeLine ->
  (∀(h':Heap) (tk:Nat) (T':Addr) (n':Nat),(∀b o,b≠it->b≠S->s.heap.get? b=some o->h'.get? b=some o)->h'.get? T'=some (lobj (acc++(rest.map (·.2)).flatten) n')->(rest=[]->T'=T)->(rest≠[]->s.heap.objs.size<=T')->R (.ok (.ret (.ref T'))) { s with heap:=h',toks:=tk }) ->
  codeAny (model prog w) A (.builtin "sum.loop" ⟨[.ref it,.ref S,rawInt 2,rawInt 0],[]⟩) R s
 | [],i,s,T,acc,nT,cS,hd,hit,hl,hS,hT,h1,h2,h3,h4,hR=>by
  refine codeAny_builtin F.entry_sum_loop ?_
  rw [Around.under_plainId F.plain_sum_loop _]
  show wpAny _ A.in1 (seqItems? (.ref S) >>= _) _ _ s
  refine wpAny_bind (wpAny_seqItems hS rfl ?_)
  show wpAny _ A.in1 (tryCatch (pyNext (.ref it)) _ >>= _) _ _ s
  have hi:items.size<=i:=by
   have:=congrArg List.length hd
   simp at this
   omega
  refine wpAny_bind (wpAny_tryCatch (wpAny_pyNext_list_end (A:=A.in1) hh hit hl (by simp [hi]) fun h' he'=>?_))
  refine wpAny_pure (hR h' s.toks T nT (fun b o hb _ e=>he' b o hb e) ?_ (fun _=>rfl) (fun z=>absurd rfl z))
  simpa using he' T _ h1 hT
 | p :: rest,i,s,T,acc,nT,cS,hd,hit,hl,hS,hT,h1,h2,h3,h4,hR=>by
  refine codeAny_builtin F.entry_sum_loop ?_
  rw [Around.under_plainId F.plain_sum_loop _]
  show wpAny _ A.in1 (seqItems? (.ref S) >>= _) _ _ s
  refine wpAny_bind (wpAny_seqItems hS rfl ?_)
  show wpAny _ A.in1 (tryCatch (pyNext (.ref it)) _ >>= _) _ _ s
  have hx:items[i]?=some (.ref p.1):=by
   have e1:(items.toList.drop i)[0]?=some (.ref p.1):=by rw [hd]; rfl
   rw [List.getElem?_drop] at e1
   simpa using e1
  have hd':items.toList.drop (i+1)=rest.map (fun p=>Value.ref p.1):=by
   rw [← List.tail_drop,hd]; rfl
  refine wpAny_bind (wpAny_tryCatch (wpAny_pyNext_list_item (A:=A.in1) hit hl hx fun h1' hit1 hs1=>?_))
  obtain ⟨hp1,hp2,np,hp3⟩:=h3 p List.mem_cons_self
  have k1:∀b o,b≠it->s.heap.get? b=some o->h1'.get? b=some o:=fun b o hb e=>hs1.extBut b o hb e
  show wpAny _ A.in1 ((holding [Value.ref p.1] (binaryOp .Add (.ref T) (.ref p.1))).attempt >>= _) _ _ _
  have hlen:acc.length+p.2.length<=sizeLine:=by
   simp [List.length_append] at h4
   omega
  refine wpAny_bind (wpAny_attempt (wpAny_holding (PySem.P.add_list (s:={ s with heap:=h1' }) (k1 T _ h1 hT) (k1 p.1 _ hp1 hp3) ?_ (by simpa using hlen))))
  have hS1:h1'.get? S=some { cls := .type "list",dict:=none,data := .seq #[.ref T] cS,slots := #[] }:=k1 S _ (Ne.symm hiS) hS
  have hSsz:S < h1'.objs.size:=Heap.lt_size hS1
  have hS2:(h1'.push { cls := .type "list",data := .seq (acc.toArray++p.2.toArray) }).get? S=some { cls := .type "list",dict:=none,data := .seq #[.ref T] cS,slots := #[] }:=Heap.get?_push_of_some _ hS1
  show wpAny _ A.in1 (updateSeq S (fun _=>#[.ref h1'.objs.size]) >>= _) _ _ _
  refine wpAny_bind (wpAny_updateSeq hS2 rfl ?_)
  have hS3:=Heap.get?_update_self (Obj.mapSeq fun _=>#[Value.ref h1'.objs.size]) hS2 rfl
  refine wpAny_bind (wpAny_letGo ?_)
  refine wpAny_bind (wpAny_updateSeq hS3 rfl (wpAny_pure ⟨plainId_quiet F.plain_sum_loop _,?_⟩))
  have keep:∀b o,b≠it->b≠S->s.heap.get? b=some o->(((h1'.push { cls := .type "list",data := .seq (acc.toArray++p.2.toArray) }).update S (Obj.mapSeq fun _=>#[Value.ref h1'.objs.size])).update S (Obj.mapSeq fun _=>#[Value.ref h1'.objs.size])).get? b=some o:=fun b o hb hb2 e =>
   (Heap.get?_update_other _ _ (Ne.symm hb2)).trans ((Heap.get?_update_other _ _ (Ne.symm hb2)).trans (Heap.get?_push_of_some _ (k1 b o hb e)))
  have hTn:h1'.objs.size≠S:=Nat.ne_of_gt hSsz
  obtain ⟨oi,hoi,ri⟩:=hit1
  have hil:it < h1'.objs.size:=Heap.lt_size hoi
  have hsz1:s.heap.objs.size<=h1'.objs.size:=by
   rw [hs1.1]
   exact Nat.le_refl _
  refine sum_loopL hh hiS hli hlS rest (i+1) _ h1'.objs.size (acc++p.2) 0 _ hd' ?_ ?_ (Heap.get?_update_self _ hS3 rfl) ?_ (Nat.ne_of_gt hil) hTn (fun q hq=>?_) (by simpa [List.append_assoc] using h4) fun h' tk T' n' e1 e2 e3 e4=>?_
  ·exact ⟨oi,(Heap.get?_update_other _ _ (Ne.symm hiS)).trans ((Heap.get?_update_other _ _ (Ne.symm hiS)).trans (Heap.get?_push_of_some _ hoi)),ri⟩
  ·obtain ⟨ol,hol,rl⟩:=hl
   exact ⟨ol,keep l _ hli hlS hol,rl⟩
  ·refine (Heap.get?_update_other _ _ (Ne.symm hTn)).trans ((Heap.get?_update_other _ _ (Ne.symm hTn)).trans ?_)
   rw [Heap.get?_push_size _ rfl]
   simp
  ·obtain ⟨q1,q2,nq,q3⟩:=h3 q (List.mem_cons_of_mem _ hq)
   exact ⟨q1,q2,nq,keep _ _ q1 q2 q3⟩
  ·refine hR h' tk T' n' (fun b o hb hb2 e=>e1 b o hb hb2 (keep b o hb hb2 e)) (by simpa [List.append_assoc] using e2) (fun z=>by cases z) fun _=>?_
   cases rest with
   | nil=>rw [e3 rfl]; exact hsz1
   | cons a b =>
    have:=e4 (by simp)
    simp at this
    omega
theorem args_sum2 (a b:Value):argsOk "sum" ⟨[a,b],[]⟩:=by unfold argsOk; kernel_rfl
theorem sub_list_str:isSubtype (.type "list") (.type "str")=pure false:=by rw [isSubtype_type]; kernel_rfl
theorem sub_list_bytes:isSubtype (.type "list") (.type "bytes")=pure false:=by rw [isSubtype_type]; kernel_rfl
theorem sub_list_bytearray:isSubtype (.type "list") (.type "bytearray")=pure false:=by rw [isSubtype_type]; kernel_rfl
theorem call_sumL {E:Value->Shared->Prop} {s:Shared} {l T:Addr} {items:Array Value} {rest:List (Addr × List Value)} {acc:List Value} {nT:Nat} {Q:Value->Shared->Prop} (hh:A.handled=none) (hl:s.heap.IsList l items) (hT:s.heap.get? T=some (lobj acc nT)) (hd:items.toList=rest.map (fun p=>Value.ref p.1))
  (hr:∀p∈rest,∃n,s.heap.get? p.1=some (lobj p.2 n)) (hz:(acc++(rest.map (·.2)).flatten).length<=sizeLine)
  (hQ:∀(h':Heap) (tk:Nat) (T':Addr) (n':Nat),(∀b o,s.heap.get? b=some o->h'.get? b=some o)->h'.get? T'=some (lobj (acc++(rest.map (·.2)).flatten) n')->(rest=[]->T'=T)->(rest≠[]->s.heap.objs.size<=T')->Q (.ref T') { s with heap:=h',toks:=tk }) :
  wpAny (model prog w) A (call (.builtin "sum") [.ref l,.ref T]) Q E s:=by
 have hlt:l < s.heap.objs.size:=by obtain ⟨o,ho,_⟩:=hl; exact Heap.lt_size ho
 have hTt:T < s.heap.objs.size:=Heap.lt_size hT
 refine call_function_tree F.kind_sum F.plain_sum F.entry_sum (args_sum2 _ _) ?_
 unfold Builtin.«sum»
 simp only [List.length_cons,List.length_nil]
 rw [if_neg (by decide)]
 refine wpAny_bind (wpAny_of_eq (show Builtin.Builtins.bindParams "sum" ["start"] 0 ⟨[.ref T],[]⟩=pure [some (.ref T)] from rfl) ?_)
 refine wpAny_bind (wpAny_pyIter_list hl ?_)
 have hTp:(s.heap.push { cls := .type "list_iterator",data := .fields #[.ref l,.int 0 0] }).get? T=some (lobj acc nT):=Heap.get?_push_of_some _ hT
 have tyL:∀s2:Shared,s2.heap=s.heap.push { cls := .type "list_iterator",data := .fields #[.ref l,.int 0 0] }->s2.TypeIs (.ref T) "list" := fun s2 e=>⟨_,by rw [e]; exact hTp,rfl⟩
 refine wpAny_bind (wpAny_pure ?_)
 simp only [List.forIn_cons,List.forIn_nil]
 refine wpAny_bind (wpAny_bind (wpAny_bind (wpAny_isInstance (T := "list") (b:=false) (tyL _ rfl) sub_list_str ?_)))
 simp only [Bool.false_eq_true,if_false]
 refine wpAny_pure (wpAny_bind (wpAny_bind (wpAny_isInstance (T := "list") (b:=false) (tyL _ rfl) sub_list_bytes ?_)))
 simp only [Bool.false_eq_true,if_false]
 refine wpAny_pure (wpAny_bind (wpAny_bind (wpAny_isInstance (T := "list") (b:=false) (tyL _ rfl) sub_list_bytearray ?_)))
 simp only [Bool.false_eq_true,if_false]
 refine wpAny_pure (wpAny_pure ?_)
 refine wpAny_bind (wpAny_newObj_type ?_)
 have hsz:(s.heap.push { cls := .type "list_iterator",data := .fields #[.ref l,.int 0 0] }).objs.size=s.heap.objs.size+1:=by simp [Heap.push]
 refine wpAny_pure ⟨plainId_quiet F.plain_sum_loop _,sum_loopL (it:=s.heap.objs.size) (l:=l) (S:=(s.heap.push { cls := .type "list_iterator",data := .fields #[.ref l,.int 0 0] }).objs.size) hh (by rw [hsz]; exact Nat.ne_of_lt (Nat.lt_succ_self _)) (Nat.ne_of_lt hlt) (by rw [hsz]; exact Nat.ne_of_lt (Nat.lt_succ_of_lt hlt)) rest 0 _ T acc nT 0 (by simpa using hd)
  ⟨_,Heap.get?_push_of_some _ (Heap.get?_push_size _ rfl),rfl,rfl⟩ ?_ (Heap.get?_push_size _ rfl) (Heap.get?_push_of_some _ hTp) (Nat.ne_of_lt hTt) (by rw [hsz]; exact Nat.ne_of_lt (Nat.lt_succ_of_lt hTt)) (fun p hp=>?_) hz fun h' tk T' n' e1 e2 e3 e4=>?_⟩
 ·obtain ⟨o,ho,r⟩:=hl
  exact ⟨o,Heap.get?_push_of_some _ (Heap.get?_push_of_some _ ho),r⟩
 ·obtain ⟨n,hn⟩:=hr p hp
  have hp':=Heap.lt_size hn
  exact ⟨Nat.ne_of_lt hp',by rw [hsz]; exact Nat.ne_of_lt (Nat.lt_succ_of_lt hp'),n,Heap.get?_push_of_some _ (Heap.get?_push_of_some _ hn)⟩
 ·refine hQ h' tk T' n' (fun b o hb=>?_) e2 e3 fun z=>?_
  ·have:=Heap.lt_size hb
   exact e1 b o (Nat.ne_of_lt this) (by rw [hsz]; exact Nat.ne_of_lt (Nat.lt_succ_of_lt this)) (Heap.get?_push_of_some _ (Heap.get?_push_of_some _ hb))
  ·have:=e4 z
   have h2:((s.heap.push { cls := .type "list_iterator",data := .fields #[.ref l,.int 0 0] }).push { cls := .type "list",data := .seq #[.ref T] }).objs.size=s.heap.objs.size+2:=by simp [Heap.push]
   have h3:((s.heap.push { cls := .type "list_iterator",data := .fields #[.ref l,.int 0 0] }).push { cls := .type "list",data := .seq #[.ref T] }).objs.size<=T':=this
   rw [h2] at h3
   exact Nat.le_trans (Nat.le_add_right _ 2) h3
end
def lstsOf (S:Sto):List D->Option (List (List D))
 | []=>some []
 | d :: r=>match lstO d S,lstsOf S r with
  | some ds,some rs=>some (ds :: rs)
  | _,_=>none
def sum2D (ds:List D) (S:Sto):R D:=match ds with
 | [x]=>sumD [x] S
 | [x,n]=>match zjj x S,lstO n S with
  | some ds,some acc=>match lstsOf S ds with
   | some rs=>if (acc++rs.flatten).length<=sizeLine then (if rs.isEmpty=true then .ok n S else .ok (.lst (acc++rs.flatten)) S) else .bad
   | none=>.bad
  | _,_=>.bad
 | _=>.bad
section
variable {X:Cx} {g:G} {E:XD}
theorem lsts_run {m:Mp} {S:Sto} {H:Hp} {pins:List (Addr × Obj)} {σ : St} {s:Shared} (I:Inv X pins σ H s) (r:Rel g m S H):∀{ds:List D} {vs:List V} {us:List Value} {rs:List (List D)},RVs g m H ds vs->Vals vs us->lstsOf S ds=some rs ->
  ∃(rest:List (Addr × List Value)) (ws:List V),us=rest.map (fun p=>Value.ref p.1)/\(∀p∈rest,∃n,s.heap.get? p.1=some (lobj p.2 n))/\RVs g m H rs.flatten ws/\Vals ws (rest.map (·.2)).flatten/\rest.length=rs.length
 | [],vs,us,rs,h,hv,e=>by
  cases e
  have:=h.nil_iff
  subst this
  cases hv
  exact ⟨[],[],rfl,by simp,.nil,.nil,rfl⟩
 | d :: ds,vs,us,rs,h,hv,e=>by
  obtain ⟨v,t,rfl,h1,h2⟩:=h.cons_iff
  cases hv with
  | cons hu hv =>
   simp only [lstsOf] at e
   split at e
   ·rename_i xs rs' e1 e2
    cases e
    obtain ⟨a,vs1,rfl,hH,rv1⟩:=zk7 r h1 e1
    cases hu
    obtain ⟨z,its,n1,rv,hl,hg⟩:=I.lstM hH
    obtain ⟨rest,ws,rfl,q1,q2,q3,q4⟩:=lsts_run I r h2 hv e2
    refine ⟨(a,its) :: rest,vs1++ws,rfl,fun p hp=>?_,?_,?_,by simp [q4]⟩
    ·rcases List.mem_cons.mp hp with rfl | hp
     ·exact ⟨n1,hg⟩
     ·exact q1 p hp
    ·simpa using rv1.append q2
    ·simpa using rv.append q3
   ·cases e
theorem cd_sum2 (hK:X.K=g.K) (hc:X.calm=true):CallR X (.builtin "sum") (rDs g E (sum2D)):=by
 intro pins s σ H xs us Q I r h
 obtain ⟨m,S,ds,rl,h1,q⟩:=h
 unfold sum2D at q
 split at q
 ·exact cd_sum hK hc pins s σ H xs us Q I r ⟨m,S,_,rl,h1,q⟩
 ·rename_i x n
  split at q
  ·rename_i ds acc ed en
   split at q
   ·rename_i rs er
    split at q
    ·rename_i hz
     obtain ⟨vx,vn,rfl,hx,hn⟩:=rvs2 h1
     obtain ⟨a,vs,rfl,hs,rvs⟩:=zjx rl hx ed
     obtain ⟨T,accV,rfl,hHT,racc⟩:=zk7 rl hn en
     cases r with
     | cons r1 r =>
      cases r with
      | cons r2 r =>
       cases r
       cases r1
       cases r2
       rw [← hK] at hs
       obtain ⟨its,rits,pl,hlz⟩:=I.list hs
       obtain ⟨zT,itT,nT,rT,hlT,hgT⟩:=I.lstM hHT
       obtain ⟨rest,ws,e1,e2,e3,e4,e5⟩:=lsts_run I rl rvs rits er
       have hlen:(itT++(rest.map (·.2)).flatten).length=(acc++rs.flatten).length:=by
        have a1:=racc.length
        have a2:=e3.length
        have a3:=e4.length
        simp only [List.length_append]
        omega
       refine call_sumL (I.ok.hd hc) pl.isList hgT (by simpa using e1) e2 (by rw [hlen]; exact hz) fun h' tk T' n' k1 k2 k3 k4=>?_
       have I1:Inv X pins σ H { s with heap:=h',toks:=tk }:=I.kept k1
       split at q
       ·rename_i hem
        have hr0:rest=[]:=by
         cases rest with
         | nil=>rfl
         | cons _ _=>simp at e5; cases rs <;> simp at hem e5
        rw [k3 hr0]
        exact ⟨.ref T,H,I1,rfl,q.ok rl _ hn⟩
       ·rename_i hem
        have hr0:rest≠[]:=fun z=>by
         subst z
         cases rs with
         | nil=>exact hem rfl
         | cons _ _=>simp at e5
        have hTs:=k4 hr0
        have hfr:H T'=none:=I.hok.fresh hTs
        have ra:=racc.append e3
        have rz:Vals (accV++ws) (itT++(rest.map (·.2)).flatten):=rT.append e4
        have hzz:(accV++ws).length<=sizeLine:=by rw [rz.length,hlen]; exact hz
        refine ⟨.ref T',upd H T' (.lst (accV++ws)),I.laid k1 hTs ⟨hzz,_,n',rz,k2⟩,rfl,?_⟩
        exact q.at (zqn rl hfr) (rl.lay hfr) _ (rv_lst upd_same (rl.un hfr) (ra.ext (zqn rl hfr)))
    ·exact q.elim
   ·exact q.elim
  ·exact q.elim
 ·exact q.elim
def isLst (d:D) (S:Sto):Bool:=match d with
 | .ref n=>match S[n]? with
  | some (.lst _)=>true
  | _=>false
 | _=>false
end
theorem de_glob {X:Cx} {g:G} {E:XD} {x:Str} {v:V} {u:Value} {pos:Pos} (d:D) (hg:Gl X x) (hm:X.mg x=some u) (r:RelV v u) (hd:∀m H,RV g m H d v) (hdb:(x == ("__debug__" : Str))=false:=by decide):PE X (.Name x pos) (tD g E (eC d)):=de_c d (pe_glob hg hm r hdb) hd
def KD (K:PySem.W.Frag) (mg:Str->Option Value) (x:Str) (d:D):Prop := ∃v u,mg x=some u/\RelV v u/\∀(g:G) m H,g.K=K->RV g m H d v
theorem de_kd {X:Cx} {g:G} {E:XD} {x:Str} {pos:Pos} {mg:Str->Option Value} {d:D} (hg:Gl X x) (hm:X.mg=mg) (h:KD g.K mg x d) (hdb:(x == ("__debug__" : Str))=false:=by decide):PE X (.Name x pos) (tD g E (eC d)):=by
 obtain ⟨v,u,h1,h2,h3⟩:=h
 exact de_glob d hg (by rw [hm]; exact h1) h2 (fun m H=>h3 g m H rfl) hdb
theorem KD.int {K:PySem.W.Frag} {mg:Str->Option Value} {x:Str} {i:Int} {t:Tok} (h:mg x=some (.int i t)):KD K mg x (.int i):=⟨.int i,_,h,⟨t,rfl⟩,fun _ _ _ _=>zqm⟩
theorem KD.str {K:PySem.W.Frag} {mg:Str->Option Value} {x:Str} {i:Str} {t:Tok} (h:mg x=some (.str i t)):KD K mg x (.str i):=⟨.str i,_,h,⟨t,rfl⟩,fun _ _ _ _=>zjk⟩
theorem rvs_strs {g:G} {m:Mp} {H:Hp}:∀xs:List Str,RVs g m H (xs.map D.str) (xs.map V.str)
 | []=>.nil
 | x :: xs=>.cons zjk (rvs_strs xs)
theorem _root_.L2.Room.units65 {k:Nat} {A:Around} (r:Room k A):A.units+65 < cLine:=by have:=r.un; omega
def sPar (i j:Nat) (a:Lc->Sto->R (List D)):SF:=fun L S=>(a L S).bind fun ds S1=>match ds with
 | [v,w]=>.ok (.nx ((L.set i (some v)).set j (some w))) S1
 | _=>.bad
end VL
namespace VL
open PySem PySem.Spec PyProof.Rows L2
structure FT (K:PySem.W.Frag) (mg:Str->Option Value) (x:Str) (st:Stmt) (ps:List Str) where
 f:Addr
 fd:FuncData
 fn:FunD K x x (defArgs st) (defBody st) (defScope st) [] [] f fd
 bn:Binds K fd ps []
 mgx:mg x=some (.ref f)
section
end
end VL
namespace VL
open PySem PySem.Spec PyProof.Rows L2
structure CT (K:PySem.W.Frag) (cl:String->Option Addr) (mg:Str->Option Value) (c:String) (x:Str) (fl:List Str) where
 C:Addr
 cle:cl c=some C
 cls:Cls K C
 noat:∀f∈fl,NoAttr K C f
 mgx:mg x=some (.ref C)
structure MT (K:PySem.W.Frag) (C:Addr) (m q:Str) (st:Stmt) (ps:List Str) where
 f:Addr
 fd:FuncData
 fn:FunD K m q (defArgs st) (defBody st) (defScope st) [] [] f fd
 bn:Binds K fd ps []
 me:Meth K C m f
structure IT (K:PySem.W.Frag) (C:Addr) (q:Str) (st:Stmt) (ps:List Str) where
 f:Addr
 fd:FuncData
 fn:FunD K "__init__" q (defArgs st) (defBody st) (defScope st) [] [] f fd
 bn:Binds K fd ps []
 mkc:Mk K C f
structure RT (K:PySem.W.Frag) (C:Addr) (m q:Str) (st:Stmt) (ps:List Str) where
 p:Addr
 f:Addr
 fd:FuncData
 fn:FunD K m q (defArgs st) (defBody st) (defScope st) [] [] f fd
 bn:Binds K fd ps []
 pr:PropOf K C m p f
def insOf (d:D) (S:Sto):Option (String × List Str × List D):=match d with
 | .obj c ns vs=>some (c,ns,vs)
 | .ref n=>match S[n]? with
  | some (.ins c ns vs)=>some (c,ns,vs)
  | _=>none
 | _=>none
section
end
section
end
end VL
namespace VL
open PySem PySem.Spec PyProof.Rows L2
structure Ok {a:Type} (r:R a) (Q:a->Sto->Prop):Prop where
 out:∃x S,r=.ok x S/\Q x S
abbrev AlE:Type:=He.AlD × Bool
def obsE (fa:List He.Fa) (fn:List He.DefD) (ex:PySem.W.Frag->Bool) (K:PySem.W.Frag):AlE:=(He.obsD fa fn K,ex K)
def SaysE (fa:List He.Fa) (fn:List He.DefD) (ex:PySem.W.Frag->Bool) (K:PySem.W.Frag):Prop:=obsE fa fn ex K=(He.valD fn,true)
theorem SaysE.d {fa:List He.Fa} {fn:List He.DefD} {ex:PySem.W.Frag->Bool} {K:PySem.W.Frag} (c:SaysE fa fn ex K):He.SaysD fa fn K:=congrArg (fun z:AlE=>z.1) c
theorem SaysE.x {fa:List He.Fa} {fn:List He.DefD} {ex:PySem.W.Frag->Bool} {K:PySem.W.Frag} (c:SaysE fa fn ex K):ex K=true:=congrArg (fun z:AlE=>z.2) c
theorem walk_ofEB {l:PySem.W.OpenLaw} {n k:Nat} {q:Program} {loose:List Str} {XP:(Str->Option Value)->Heap->Prop} {YP:World->Heap->Prop} {d:DefRec} {CX:World->CXT} {x:Str}
  (hn:l.most=some n) (hn2:n<=sizeLine) (hdf:d.params.defaults=[]) (hr:Room k callerA)
  (F:∀(w:World) (mg:Str->Option Value) (fa:Addr) (h:Heap),YP w h->h.Ns mainGlobals mg->mg d.name=some (.ref fa) ->
   ∃(K:PySem.W.Frag) (fd:FuncData) (sp:Sp),K.In h/\(∀(s:Shared) (u:Value),BindsTo s fd ⟨[u],[]⟩ [(x,u)]) /\
    (∀(H:Hp) (a:Addr) (ns:List Int),ns.length<=n->(∀z∈ns,Builtin.Int.intBits z<=1048576)->Only H->SqL K H a (ns.map V.int)->sp [.ref a] H (fun v _=>v=.bl true) fun _ _ _=>False) /\
    ∀base:Heap,K.In base->base.Ns mainGlobals mg->FnOk l.prog w K mg base (CX w) k fa fd [x] sp)
  (hCX:∀(w:World) (H:Hp) (s:Shared) (e:Value) (s':Shared),CX w [] H s (fun _ _ _=>False) e s'->False) :
  PySem.W.WalkO q loose XP YP l.row.toRowW d [] (fun f vs=>PySem.call f vs):=by
 refine Att.attach_callB hn hdf fun w s₀ s₁ mg mb fa o pm cd doc a vs ns G Y ho hd hcd hmg hobj hints hlen hbits hg=>?_
 obtain ⟨K,fd,sp,KX,hb,hsp,hF⟩:=F w mg fa _ Y G.T.g hmg
 exact law_call KX G.T.g G.T.b G.T.builtins G.T.nolimit hg hobj hints (Nat.le_trans hlen hn2) hr hF hb (fun H hO hS=>hsp H a ns hlen hbits hO hS) fun H e s'=>hCX w H s₁ e s'
def gS (K:PySem.W.Frag) (cs:List (String × Str)) (w:World):G:=⟨K,fun _=>none,fun c=>(cs.lookup c).map fun x=>He.ga K x,fun _ _=>True,fun _ _=>trivial,w⟩
theorem law_sp {F:List D->Sto->R D} (hF:∀ns:List Int,ns.length<=63->(∀z∈ns,Builtin.Int.intBits z<=1048576)->Ok (F [.scr ns] []) fun d _=>d=.bl true)
  (K:PySem.W.Frag) (cs:List (String × Str)) (H:Hp) (a:Addr) (ns:List Int) (hl:ns.length<=63) (hb:∀z∈ns,Builtin.Int.intBits z<=1048576) (hO:Only H) (hS:SqL K H a (ns.map V.int)) (E:XK) {w:World}:spD (gS K cs w) 1 F [.ref a] H (fun v _=>v=.bl true) E:=by
 refine ⟨rfl,Mp.nil,[],[.scr ns],⟨rfl,fun n k b h=>by simp [Mp.nil] at h,fun n b ob h=>by simp [Mp.nil] at h,fun n b h=>by simp [Mp.nil] at h,fun b h=>by simp [Mp.nil] at h,fun b h=>by simp [Mp.nil] at h,trivial⟩,.cons (rv_scr ?_) .nil,?_⟩
 ·rcases hS with (h | ⟨o,h⟩) | h
  ·rcases hO a with z | ⟨o,xs,z⟩
   ·rw [z] at h; cases h
   ·rw [z] at h; cases h
  ·exact .inl ⟨.inr ⟨o,h⟩,fun n=>by simp [Mp.nil],by simp [Mp.nil]⟩
  ·exact .inr h
 ·obtain ⟨d,S',e,rfl⟩:=(hF ns hl hb).out
  show Aft _ _ _ _ (F [.scr ns] []) _
  rw [e]
  exact fun m' H' _ _ v rv=>of_bl rv
theorem noCX (P:Program) (w:World) (H:Hp) (s:Shared) (e:Value) (s':Shared) (h:L2.CX P w [] H s (fun _ _ _=>False) e s'):False:=by
 obtain ⟨_,_,_,_,_,_,_,_,_,_,_,_,z⟩:=h
 exact z
section
variable {K:PySem.W.Frag} {h:Heap} {mg:Str->Option Value}
theorem KD.ofInt (X:K.In h) (G:h.Ns mainGlobals mg) {x:Str} {i:Int} (c:(He.Fa.int x i).ok K=true):KD K mg x (.int i):=by
 obtain ⟨t,e⟩:=He.int_ok X G c
 exact KD.int e
theorem KD.ofStr (X:K.In h) (G:h.Ns mainGlobals mg) {x i:Str} (c:(He.Fa.str x i).ok K=true):KD K mg x (.str i):=by
 obtain ⟨t,e⟩:=He.str_ok X G c
 exact KD.str e
end
end VL
namespace VL
open PySem PySem.Spec PyProof.Rows L2
inductive Src where
 | lst (a:Addr)
 | tup (a:Addr)
 | str (x:Str)
def Src.v:Src->V
 | .lst a=>.ref a
 | .tup a=>.ref a
 | .str x=>.str x
def Src.adr:Src->Option Addr
 | .lst a=>some a
 | .tup a=>some a
 | .str _=>none
def charsV (x:Str):List V:=x.cps.toList.map fun c=>V.str ⟨#[c]⟩
def Src.has (K:PySem.W.Frag) (H:Hp):Src->List V->Prop
 | .lst a,xs=>SqL K H a xs
 | .tup a,xs=>SqT K H a xs
 | .str x,xs=>xs=charsV x
def Src.at:Src->Addr->Nat->Heap->Prop
 | .lst a,it,i,h=>h.IsListIter it a i
 | .tup a,it,i,h=>h.IsTupleIter it a i
 | .str x,it,i,h=>∃t,h.IsStrIter it (strIterType x) x t i
theorem Src.inj {X:Cx} {pins:List (Addr × Obj)} {σ : L2.St} {H:Hp} {s:Shared} (I:Inv X pins σ H s) {c:Src} {xs ys:List V} (h:c.has X.K H xs) (h':c.has X.K H ys):xs=ys:=by
 cases c with
 | lst a=>exact I.list_inj h h'
 | tup a=>exact I.tuple_inj h h'
 | str x=>exact Eq.trans h (Eq.symm h')
theorem Src.keep {c:Src} {it:Addr} {i:Nat} {h h':Heap} (st:c.at it i h) (k:∀o,h.get? it=some o->h'.get? it=some o):c.at it i h':=by
 cases c with
 | lst a=>exact Heap.IsListIter.at st k
 | tup a=>exact Heap.IsTupleIter.at st k
 | str x=>obtain ⟨t,o,ho,r⟩:=st; exact ⟨t,o,k o ho,r⟩
theorem Src.obj {c:Src} {it:Addr} {i:Nat} {h:Heap} (st:c.at it i h):∃o,h.get? it=some o/\∀v,o.data≠.cell v:=by
 cases c with
 | lst a=>obtain ⟨o,ho,_,hd⟩:=st; exact ⟨o,ho,fun v z=>by rw [hd] at z; cases z⟩
 | tup a=>obtain ⟨o,ho,_,hd⟩:=st; exact ⟨o,ho,fun v z=>by rw [hd] at z; cases z⟩
 | str x=>obtain ⟨t,o,ho,_,hd⟩:=st; exact ⟨o,ho,fun v z=>by rw [hd] at z; cases z⟩
theorem Vals.get2 {xs:List V} {us:List Value} (r:Vals xs us) {i:Nat} {u:Value} (h:us[i]?=some u):∃x,xs[i]?=some x/\RelV x u:=by
 have hi:i < xs.length:=by rw [r.length]; exact (List.getElem?_eq_some_iff.mp h).1
 obtain ⟨u',e,q⟩:=r.get (List.getElem?_eq_getElem hi)
 rw [h] at e; cases e
 exact ⟨_,List.getElem?_eq_getElem hi,q⟩
theorem Src.draws {X:Cx} {pins:List (Addr × Obj)} {σ : L2.St} {H:Hp} {s:Shared} (I:Inv X pins σ H s) (hc:X.calm=true) {c:Src} {it:Addr} (hne:c.adr≠some it) {i:Nat} {xs:List V} (hx:c.has X.K H xs) (st:c.at it i s.heap) :
  ∃fp Pd St,Draws X.prog X.w X.A.in1 it fp xs.length Pd St/\St i s.heap/\it∈fp/\(∀b∈fp,b=it∨c.adr=some b)/\(∀j h,St j h->c.at it j h)/\∀j u,Pd j u->∃x,xs[j]?=some x/\RelV x u:=by
 have hh:X.A.in1.handled=none:=I.ok.hd hc
 cases c with
 | lst a =>
  obtain ⟨its,rv,p,_⟩:=I.list hx
  have D:=Draws.list (prog:=X.prog) (w:=X.w) hh it a (fun z=>hne (by rw [← z]; rfl)) its.toArray
  rw [show its.toArray.size=xs.length by simp [rv.length]] at D
  refine ⟨_,_,_,D,⟨st,p.isList⟩,by simp,fun b hb=>?_,fun j h q=>q.1,fun j u q=>Vals.get2 rv (by simpa using q)⟩
  rcases List.mem_cons.mp hb with z | z
  ·exact .inl z
  ·exact .inr (by rw [List.mem_singleton.mp z]; rfl)
 | tup a =>
  obtain ⟨its,rv,p,_⟩:=I.tuple hx
  have D:=Draws.tuple (prog:=X.prog) (w:=X.w) hh it a (fun z=>hne (by rw [← z]; rfl)) its.toArray
  rw [show its.toArray.size=xs.length by simp [rv.length]] at D
  refine ⟨_,_,_,D,⟨st,p⟩,by simp,fun b hb=>?_,fun j h q=>q.1,fun j u q=>Vals.get2 rv (by simpa using q)⟩
  rcases List.mem_cons.mp hb with z | z
  ·exact .inl z
  ·exact .inr (by rw [List.mem_singleton.mp z]; rfl)
 | str x =>
  obtain ⟨t,st⟩:=st
  have hx':xs=charsV x:=hx
  subst hx'
  have D:=Draws.text (prog:=X.prog) (w:=X.w) hh it x t
  rw [show x.cps.size=(charsV x).length by simp [charsV]] at D
  refine ⟨_,_,_,D,st,by simp,fun b hb=>.inl (List.mem_singleton.mp hb),fun j h q=>⟨t,q⟩,fun j u q=>?_⟩
  obtain ⟨c,u',h1,rfl⟩:=q
  refine ⟨.str ⟨#[c]⟩,?_,⟨u',rfl⟩⟩
  unfold charsV
  rw [List.getElem?_map,Array.getElem?_toList,h1]
  rfl
end VL
namespace VL
open PySem PySem.Spec PyProof.Rows L2
set_option maxHeartbeats 1000000 in
section
end
end VL
namespace VL
open PySem PySem.Spec PyProof.Rows L2
section
end
end VL
namespace VL
open PySem PySem.Spec PyProof.Rows L2 DZ
section
end
section
end
end VL
namespace VL
open PySem PySem.Spec PyProof.Rows L2 DZ
structure Zk (N:Addr) (s1 s2:Src) (i:Nat) (h:Heap):Prop where
 z:∃f0 f1,ZG h (N+4) (N+2) (N+3) f0 f1/\Keeps f0 f1
 ti:IsTupOf2 h (N+2) (.ref N) (.ref (N+1))
 to:∃a1 a2,IsTupOf2 h (N+3) a1 a2
 a1:s1.at N i h
 a2:s2.at (N+1) i h
theorem Zk.keep {N:Addr} {s1 s2:Src} {i:Nat} {h h':Heap} (st:Zk N s1 s2 i h) (k:∀b∈[N+4,N+2,N+3,N,N+1],∀o,h.get? b=some o->h'.get? b=some o):Zk N s1 s2 i h':=by
 obtain ⟨⟨f0,f1,z,kz⟩,ti,⟨a1,a2,e⟩,b1,b2⟩:=st
 exact ⟨⟨f0,f1,k _ (by simp) _ z,kz⟩,k _ (by simp) _ ti,⟨a1,a2,k _ (by simp) _ e⟩,Src.keep b1 fun o q=>k _ (by simp) o q,Src.keep b2 fun o q=>k _ (by simp) o q⟩
end VL
namespace VL
open PySem PySem.Spec PyProof.Rows L2 DZ
section
end
end VL
namespace VL
open PySem PySem.Spec PyProof.Rows L2 DZ
section
end
end VL
namespace VL
open PySem PySem.Spec PyProof.Rows L2
section
def isStr (d:D) (_:Sto):Bool:=match d with
 | .str _=>true
 | _=>false
end
end VL
namespace VL
open PySem PySem.Spec PyProof.Rows L2
section
end
section
end
end VL
namespace VL
open PySem PySem.Spec PyProof.Rows L2
section
end
structure FK (K:PySem.W.Frag) (mg:Str->Option Value) (x:Str) (st:Stmt) (ps:List Str) (n:Nat) (ks:List Str) where
 f:Addr
 fd:FuncData
 fn:FunD K x x (defArgs st) (defBody st) (defScope st) [] (ks.map fun k=>(k,V.non)) f fd
 dus:List Value
 bv:Vals (ks.map fun _=>V.non) dus
 bd:Binds K fd ps dus
 gg:List Value->List Value->List Value
 kb:KBn K fd ps n ks gg (fun vs zs=>vs++zs)
 mgx:mg x=some (.ref f)
end VL
namespace VL
open PySem PySem.Spec PyProof.Rows L2
section
end
end VL
namespace VL
open PySem PySem.Spec PyProof.Rows L2
def hasT (ks:List (List Key)) (k:List Key):Bool:=ks.any fun k'=>decide (k'=k)
def putKT (ks:List (List Key)) (k:List Key):List (List Key):=if hasT ks k=true then ks else ks++[k]
def putVT (ks:List (List Key)) (ds:List D) (k:List Key) (d:D):List D:=if hasT ks k=true then List.zipWith (fun k' d'=>if k'=k then d else d') ks ds else ds++[d]
section
variable {g:G} {m:Mp} {H:Hp}
theorem zipT_run {k:List Key} {d:D} {v:V} (hv:RV g m H d v):∀{kvs:List (List Key × V)} {ds:List D},RVs g m H ds (kvs.map (·.2)) ->
  (kvs.map fun kv=>if kv.1=k then (kv.1,v) else kv).map (·.1)=kvs.map (·.1)/\RVs g m H (List.zipWith (fun k' d'=>if k'=k then d else d') (kvs.map (·.1)) ds) ((kvs.map fun kv=>if kv.1=k then (kv.1,v) else kv).map (·.2))
 | [],ds,h=>by cases ds <;> exact ⟨rfl,.nil⟩
 | (k',w) :: kvs,[],h=>by have:=h.nil_iff; simp at this
 | (k',w) :: kvs,d' :: ds,h=>by
  obtain ⟨v',r,e,h1,h2⟩:=h.cons_iff
  simp only [List.map_cons,List.cons.injEq] at e
  obtain ⟨rfl,rfl⟩:=e
  obtain ⟨i1,i2⟩:=zipT_run hv h2
  simp only [List.map_cons,List.zipWith_cons_cons]
  by_cases e:k'=k
  ·rw [if_pos e,if_pos e]
   exact ⟨by rw [i1],.cons hv i2⟩
  ·rw [if_neg e,if_neg e]
   exact ⟨by rw [i1],.cons h1 i2⟩
theorem putT_run {kvs:List (List Key × V)} {ds:List D} {k:List Key} {d:D} {v:V} (h:RVs g m H ds (kvs.map (·.2))) (hv:RV g m H d v) :
  (putK kvs k v).map (·.1)=putKT (kvs.map (·.1)) k/\RVs g m H (putVT (kvs.map (·.1)) ds k d) ((putK kvs k v).map (·.2)):=by
 have ha:(kvs.any fun kv=>decide (kv.1=k))=hasT (kvs.map (·.1)) k:=by
  unfold hasT
  rw [List.any_map]
  rfl
 unfold putK putKT putVT
 rw [ha]
 cases hasT (kvs.map (·.1)) k with
 | true =>
  simp only [if_true]
  exact zipT_run hv h
 | false =>
  simp only [Bool.false_eq_true,if_false,List.map_append,List.map_cons,List.map_nil]
  exact ⟨trivial,h.append (.cons hv .nil)⟩
theorem keyT_run {d:D} {v:V} {k:List Key} (h:RV g m H d v) (e:keyT d=some k):∃b,v=.ref b/\H b=some (.tup (k.map kV)):=by
 cases d <;> simp only [keyT] at e <;> try cases e
 rename_i ds
 obtain ⟨a,vs,rfl,h1,h2⟩:=zjc h
 rw [keyL_run h2 e] at h1
 exact ⟨a,rfl,h1.1⟩
end
section
variable {X:Cx} {g:G} {E:XD}
def ix3D (x y:D) (S:Sto):R D:=match dctOf x S with
 | some p=>match keyT y with
  | some k=>match lookT p.1 p.2 k with
   | some d=>.ok d S
   | none=>.bad
  | none=>.bad
 | none=>ix2D x y S
theorem xd_ix3 (hK:X.K=g.K) (hu:X.A.units+64 < cLine):IxR X (rD2 g E (ix3D)):=by
 intro value slice pins s σ H x y v u Q I rx ry h hs
 obtain ⟨m,S,d,d',r,h1,h2,q⟩:=h
 unfold ix3D at q
 split at q
 ·rename_i p ep
  split at q
  ·rename_i k ek
   split at q
   ·rename_i z ez
    obtain ⟨a,kvs,rfl,hr,e1,e2⟩:=dct_run r h1 ep
    rw [← e1] at ez
    obtain ⟨w,w1,w2⟩:=(lookT_run e2 k).1 _ ez
    obtain ⟨b,rfl,hb⟩:=keyT_run h2 ek
    exact ix_dict (by omega) value slice pins s σ H _ _ v u Q I rx ry ⟨a,w,rfl,.inr ⟨kvs,k,b,hr,rfl,hb,w1.symm⟩,q.ok r _ w2⟩ hs
   ·exact q.elim
  ·exact q.elim
 ·exact xd_ix2 hK hu value slice pins s σ H x y v u Q I rx ry ⟨m,S,d,d',r,h1,h2,q⟩ hs
def set3D (x y z:D) (S:Sto):R Unit:=match x with
 | .ref n=>match S[n]? with
  | some (.dct ks ds)=>match keyT y with
   | some k=>if ks.length < sizeLine then .ok () (S.set n (.dct (putKT ks k) (putVT ks ds k z))) else .bad
   | none=>.bad
  | _=>set2D x y z S
 | _=>.bad
theorem sd_set3 (hu:X.A.units+64 < cLine):PSet X (rSet g E set3D):=by
 intro pins s σ H o i v ov iv u Q I ro ri rv h
 obtain ⟨m,S,d1,d2,d3,r,h1,h2,h3,q⟩:=h
 unfold set3D at q
 split at q
 ·rename_i n
  split at q
  ·rename_i ks ds e0
   split at q
   ·rename_i k ek
    split at q
    ·rename_i hz
     obtain ⟨a,ob,rfl,ha,e1,kvs,rfl,e2,e3⟩:=r.at h1 e0 (by intro z; cases z)
     cases ro
     obtain ⟨p1,p2⟩:=putT_run (k:=k) e3 h3
     rw [e2] at p1 p2
     have hl:kvs.length < sizeLine:=by rw [← e2,List.length_map] at hz; exact hz
     obtain ⟨b,rfl,hb⟩:=keyT_run h2 ek
     refine d_setItem (by omega) I (.inr ⟨kvs,k,b,e1,rfl,hb,hl,rfl⟩) ri rv fun s' I'=>⟨_,I',?_⟩
     exact q.at (ext_set r ha e0) (r.set (ob' := .dct (putKT ks k) (putVT ks ds k d3)) ha e0 ⟨_,rfl,p1,p2⟩)
    ·exact q.elim
   ·exact q.elim
  ·exact sd_set2 hu pins s σ H o i v ov iv u Q I ro ri rv ⟨m,S,_,d2,d3,r,h1,h2,h3,q⟩
 ·exact q.elim
def in3D (neg:Bool) (x y:D) (S:Sto):R D:=match dctOf y S with
 | some p=>match keyT x with
  | some k=>.ok (.bl (neg != (lookT p.1 p.2 k).isSome)) S
  | none=>.bad
 | none=>inD neg x y S
theorem lookT_some {m:Mp} {H:Hp} {kvs:List (List Key × V)} {ds:List D} (h:RVs g m H ds (kvs.map (·.2))) (k:List Key):(lookT (kvs.map (·.1)) ds k).isSome=(valV kvs k).isSome:=by
 obtain ⟨l1,l2⟩:=lookT_run h k
 cases e:lookT (kvs.map (·.1)) ds k with
 | none=>rw [l2 e] <;> rfl
 | some d=>obtain ⟨v,v1,_⟩:=l1 d e; rw [v1]; rfl
theorem od_in3 (hK:X.K=g.K) (hu:X.A.units+65 < cLine):OpR X (compareOp .In) (rD2 g E (in3D false)):=by
 intro pins s σ H x y v u Q I rx ry h
 obtain ⟨m,S,d,d',r,h1,h2,q⟩:=h
 unfold in3D at q
 split at q
 ·rename_i p ep
  split at q
  ·rename_i k ek
   obtain ⟨a,kvs,rfl,hr,e1,e2⟩:=dct_run r h2 ep
   rw [← e1,lookT_some e2 k] at q
   obtain ⟨b,rfl,hb⟩:=keyT_run h1 ek
   cases ry
   exact d_in (by omega) I (.inr ⟨kvs,k,b,hr,rfl,hb,rfl⟩) rx fun s' I'=>⟨.bl _,H,I',rfl,q.ok r _ (by simp [zqr])⟩
  ·exact q.elim
 ·exact od_in hK hu pins s σ H x y v u Q I rx ry ⟨m,S,d,d',r,h1,h2,q⟩
theorem od_notin3 (hK:X.K=g.K) (hu:X.A.units+65 < cLine):OpR X (compareOp .NotIn) (rD2 g E (in3D true)):=by
 intro pins s σ H x y v u Q I rx ry h
 obtain ⟨m,S,d,d',r,h1,h2,q⟩:=h
 unfold in3D at q
 split at q
 ·rename_i p ep
  split at q
  ·rename_i k ek
   obtain ⟨a,kvs,rfl,hr,e1,e2⟩:=dct_run r h2 ep
   rw [← e1,lookT_some e2 k] at q
   obtain ⟨b,rfl,hb⟩:=keyT_run h1 ek
   cases ry
   exact d_notIn (by omega) I (.inr ⟨kvs,k,b,hr,rfl,hb,rfl⟩) rx fun s' I'=>⟨.bl _,H,I',rfl,q.ok r _ (by simp [zqr])⟩
  ·exact q.elim
 ·exact od_notin hK hu pins s σ H x y v u Q I rx ry ⟨m,S,d,d',r,h1,h2,q⟩
variable {o e:Expr}
end
end VL
namespace VL
open PySem PySem.Spec PyProof.Rows L2
def lookS:List Str->List D->Str->Option D
 | k :: ks,d :: ds,z=>if k=z then some d else lookS ks ds z
 | _,_,_=>none
structure KDc (K:PySem.W.Frag) (w:World) (mg:Str->Option Value) (x:Str) (ks:List Str) (ds:List D) where
 a:Addr
 es:Array DictEntry
 n:Nat
 mgx:mg x=some (.ref a)
 kd:KDict K w a es n
 has:∀(z:Str) (d:D),lookS ks ds z=some d->∃u v,PySem.W.nsIn K a z=some (some u)/\RelV v u/\∀(g:G) (m:Mp) (H:Hp),g.K=K->RV g m H d v
 not:∀z:Str,lookS ks ds z=none->PySem.W.nsIn K a z=some none
section
end
end VL
namespace VL
open PySem PySem.Spec PyProof.Rows L2
def eqHits (S:Sto) (ks':List Key) (ds':List D):List Key->List D->Option Bool
 | [],[]=>some true
 | k :: ks,d :: ds=>match lookK ks' ds' k with
  | none=>some false
  | some d'=>match toP S 65 d,toP S 65 d' with
   | some p,some q=>if SeqAt.shaped p=true/\SeqAt.shaped q=true then (eqHits S ks' ds' ks ds).map fun b=>PyData.eqv p q && b else none
   | _,_=>none
 | _,_=>none
def eq4D (neg:Bool) (x y:D) (S:Sto):R D:=match zjq x S,zjq y S with
 | some p,some q=>if p.1.length=q.1.length then (match eqHits S q.1 q.2 p.1 p.2 with
  | some b=>.ok (.bl (neg != b)) S
  | none=>.bad) else .ok (.bl (neg != false)) S
 | _,_=>eqD neg x y S
section
variable {X:Cx} {g:G} {E:XD}
theorem hits_run {pins:List (Addr × Obj)} {σ : St} {H:Hp} {s:Shared} {m:Mp} {S:Sto} (I:Inv X pins σ H s) (hK:X.K=g.K) (hu:X.A.units+65 < cLine) (r:Rel g m S H) {kvs':List (Key × V)} {ds':List D} {vb:List (Key × Value)} (rb:KV kvs' vb) (hb:RVs g m H ds' (kvs'.map (·.2))) :
  ∀{kvs:List (Key × V)} {ds:List D} {va:List (Key × Value)} {b:Bool},KV kvs va->RVs g m H ds (kvs.map (·.2))->eqHits S (kvs'.map (·.1)) ds' (kvs.map (·.1)) ds=some b->PySem.W.KeqHits X.A.in1 s vb va b
 | [],ds,va,b,ra,ha,e=>by
  cases ra
  cases ds with
  | nil=>simp [eqHits] at e; subst e; exact .nil
  | cons d ds=>simp [eqHits] at e
 | (k,v) :: kvs,[],va,b,ra,ha,e=>by simp [eqHits] at e
 | (k,v) :: kvs,d :: ds,va,b,ra,ha,e=>by
  obtain ⟨v',rr,e1,h1,h2⟩:=ha.cons_iff
  simp only [List.map_cons,List.cons.injEq] at e1
  obtain ⟨rfl,rfl⟩:=e1
  cases ra with
  | @cons _ q _ qs hq ht =>
   obtain ⟨k2,u⟩:=q
   obtain ⟨q1,q2⟩:=hq
   have q1':k=k2:=q1
   subst q1'
   simp only [List.map_cons,eqHits] at e
   have rv:=rb.val k
   cases hl:lookK (kvs'.map (·.1)) ds' k with
   | none =>
    rw [hl] at e
    cases e
    rw [(look_run hb k).2 hl] at rv
    refine .miss ?_
    cases hz:valueAt vb k with
    | none=>rfl
    | some y=>rw [hz] at rv; exact rv.elim
   | some d' =>
    rw [hl] at e
    obtain ⟨w,w1,w2⟩:=(look_run hb k).1 _ hl
    rw [w1] at rv
    obtain ⟨y,hy,ry⟩:=rv.some_of
    simp only at e
    split at e
    ·rename_i p p' ep ep'
     split at e
     ·rename_i hs
      cases hh:eqHits S (kvs'.map (·.1)) ds' (kvs.map (·.1)) ds with
      | none=>rw [hh] at e; cases e
      | some b' =>
       rw [hh] at e
       cases e
       have hp:=zj7 r 65 h1 ep
       rw [← hK] at hp
       obtain ⟨as,r1⟩:=Dp.reads I _ _ u hp q2
       have hp':=zj7 r 65 w2 ep'
       rw [← hK] at hp'
       obtain ⟨bs,r2⟩:=Dp.reads I _ _ y hp' ry
       exact .hit hy (PySem.W.keq_at r1 r2 hs.1 hs.2 (by show X.A.units+1+64 < cLine; omega)) (hits_run I hK hu r rb hb ht h2 hh)
     ·cases e
    ·cases e
theorem od_eq4 (hK:X.K=g.K) (hu:X.A.units+65 < cLine):OpR X (compareOp .Eq) (rD2 g E (eq4D false)):=by
 intro pins s σ H x y v u Q I rx ry h
 obtain ⟨m,S,d,d',r,h1,h2,q⟩:=h
 unfold eq4D at q
 split at q
 ·rename_i p p' e1 e2
  obtain ⟨a,kvs,rfl,hr,k1,k2⟩:=zk5 r h1 e1
  obtain ⟨a',kvs',rfl,hr',k1',k2'⟩:=zk5 r h2 e2
  obtain rfl:v=Value.ref a:=rx
  obtain rfl:u=Value.ref a':=ry
  obtain ⟨_,ya,va,ra,da⟩:=dk_rd I.hok hr
  obtain ⟨_,yb,vb,rb,db⟩:=dk_rd I.hok hr'
  have la:va.length=p.1.length:=by rw [← ra.length,← k1,List.length_map]
  have lb:vb.length=p'.1.length:=by rw [← rb.length,← k1',List.length_map]
  split at q
  ·rename_i hlen
   split at q
   ·rename_i b eb
    rw [← k1,← k1'] at eb
    exact PySem.W.keq_eq (knd:=mixKind X.prog X.w) (r:=b) ya yb da db (by omega) (fun _=>hits_run I hK hu r rb k2' ra k2 eb) (fin_bl (k:=(false != b)) I (q.ok r _ (by simp [zqr])) (by simp [la,lb,hlen]))
   ·exact q.elim
  ·rename_i hlen
   exact PySem.W.keq_eq (knd:=mixKind X.prog X.w) (r:=true) ya yb da db (by omega) (fun z=>absurd (by rw [← la,← lb,z]) hlen) (fin_bl (k:=(false != false)) I (q.ok r _ (by simp [zqr])) (by simp [la,lb,hlen]))
 ·exact od_eq hK (by omega) pins s σ H x y v u Q I rx ry ⟨m,S,d,d',r,h1,h2,q⟩
theorem od_ne4 (hK:X.K=g.K) (hu:X.A.units+65 < cLine):OpR X (compareOp .NotEq) (rD2 g E (eq4D true)):=by
 intro pins s σ H x y v u Q I rx ry h
 obtain ⟨m,S,d,d',r,h1,h2,q⟩:=h
 unfold eq4D at q
 split at q
 ·rename_i p p' e1 e2
  obtain ⟨a,kvs,rfl,hr,k1,k2⟩:=zk5 r h1 e1
  obtain ⟨a',kvs',rfl,hr',k1',k2'⟩:=zk5 r h2 e2
  obtain rfl:v=Value.ref a:=rx
  obtain rfl:u=Value.ref a':=ry
  obtain ⟨_,ya,va,ra,da⟩:=dk_rd I.hok hr
  obtain ⟨_,yb,vb,rb,db⟩:=dk_rd I.hok hr'
  have la:va.length=p.1.length:=by rw [← ra.length,← k1,List.length_map]
  have lb:vb.length=p'.1.length:=by rw [← rb.length,← k1',List.length_map]
  split at q
  ·rename_i hlen
   split at q
   ·rename_i b eb
    rw [← k1,← k1'] at eb
    exact PySem.W.keq_ne (knd:=mixKind X.prog X.w) (r:=b) ya yb da db (by omega) (fun _=>hits_run I hK hu r rb k2' ra k2 eb) (fin_bl (k:=(true != b)) I (q.ok r _ (by simp [zqr])) (by simp [la,lb,hlen]))
   ·exact q.elim
  ·rename_i hlen
   exact PySem.W.keq_ne (knd:=mixKind X.prog X.w) (r:=true) ya yb da db (by omega) (fun z=>absurd (by rw [← la,← lb,z]) hlen) (fin_bl (k:=(true != false)) I (q.ok r _ (by simp [zqr])) (by simp [la,lb,hlen]))
 ·exact od_ne hK (by omega) pins s σ H x y v u Q I rx ry ⟨m,S,d,d',r,h1,h2,q⟩
end
end VL
namespace VL
open PySem PySem.Spec PyProof.Rows L2
theorem fobs_ok {K:PySem.W.Frag} {a:Addr} {d:He.DefD} (e:fobs K a=d.val) (c:fokB K a d=true):∃fd,FunD K d.name d.qual d.params d.body d.scope (d.dvs K) (d.kws K) a fd:=by
 obtain ⟨c1,c2⟩:=He.ba c
 unfold fobs at e
 cases hl:K.lookup a with
 | none=>rw [hl] at e; cases e
 | some o =>
  obtain ⟨oc,od,dt,sl⟩:=o
  rw [hl] at e c2
  cases dt with
  | func q =>
   obtain ⟨q1,q2,q3,q4,q5,q6,q7,q8,q9,q10,q11,q12,q13,q14,q15⟩:=q
   have e':(some (q1,q2,q3,q4,q5,q6,q7,q15):He.FnW)=d.val:=e
   unfold He.DefD.val at e'
   injection e' with e'
   injection e' with z1 e'
   injection e' with z2 e'
   injection e' with z3 e'
   injection e' with z4 e'
   injection e' with z5 e'
   injection e' with z6 e'
   injection e' with z7 z8
   subst z1 z2 z3 z4 z5 z6 z7 z8
   obtain ⟨c3,c4⟩:=He.ba (show ((PySem.W.codeIn K q13 d.qual && He.dflB K q8 (d.dvs K)) && He.kwdB K q9 (d.kws K))=true from c2)
   obtain ⟨c5,c6⟩:=He.ba c3
   exact ⟨_,⟨oc,od,q8,q9,q10,q11,q12,q13,q14,sl,rfl,hl,c5,He.dflB_ok c6,He.kwdB_ok c4⟩,c1⟩
  | _=>cases e
section
variable {fa:List He.Fa} {fn:List AtD} {ts:List (Str × List Str)} {ex:PySem.W.Frag->Bool} {w:World} {K:PySem.W.Frag}
theorem SaysH.b (c:SaysH fa fn ts ex w K):(fa.all fun f=>f.ok K)=true/\(fn.all fun p=>fokB K (p.1 K) p.2)=true/\ex K=true:=by
 have h:((fa.all fun f=>f.ok K) && ((fn.all fun p=>fokB K (p.1 K) p.2) && ex K))=true:=congrArg (fun z:AlH=>z.1) c
 obtain ⟨h1,h2⟩:=He.ba h
 exact ⟨h1,He.ba h2⟩
theorem SaysH.fact (c:SaysH fa fn ts ex w K) (i:Nat) {f:He.Fa} (h:fa[i]?=some f:=by rfl):f.ok K=true:=List.all_eq_true.mp c.b.1 f (List.mem_of_getElem? h)
theorem SaysH.x (c:SaysH fa fn ts ex w K):ex K=true:=c.b.2.2
theorem SaysH.def_ (c:SaysH fa fn ts ex w K) (i:Nat) {p:AtD} (h:fn[i]?=some p:=by rfl):∃fd,FunD K p.2.name p.2.qual p.2.params p.2.body p.2.scope (p.2.dvs K) (p.2.kws K) (p.1 K) fd:=by
 have e:(fn.map fun p=>fobs K (p.1 K))=fn.map fun p=>p.2.val:=congrArg (fun z:AlH=>z.2.1) c
 have e2:(fn.map fun p=>fobs K (p.1 K))[i]?=(fn.map fun p=>p.2.val)[i]? := by rw [e]
 rw [List.getElem?_map,List.getElem?_map,h] at e2
 exact fobs_ok (Option.some.inj e2) (List.all_eq_true.mp c.b.2.1 p (List.mem_of_getElem? h))
theorem SaysH.tab (c:SaysH fa fn ts ex w K) (i:Nat) {t:Str × List Str} (h:ts[i]?=some t:=by rfl):He.dicW K (He.ga K t.1)=some (He.keysIn w.params t.2):=by
 have e:(ts.map fun t=>He.dicW K (He.ga K t.1))=ts.map fun t=>some (He.keysIn w.params t.2):=congrArg (fun z:AlH=>z.2.2) c
 have e2:(ts.map fun t=>He.dicW K (He.ga K t.1))[i]?=(ts.map fun t=>some (He.keysIn w.params t.2))[i]? := by rw [e]
 rw [List.getElem?_map,List.getElem?_map,h] at e2
 exact Option.some.inj e2
end
theorem strs_eq:∀{xs:List D} {ss:List Str},strs? xs=some ss->xs=ss.map D.str
 | [],ss,h=>by simp [strs?] at h; subst h; rfl
 | x :: xs,ss,h=>by
  cases x with
  | str z =>
   simp only [strs?] at h
   cases hq:strs? xs with
   | none=>rw [hq] at h; cases h
   | some t =>
    rw [hq] at h
    cases h
    rw [strs_eq hq] <;> rfl
  | _=>simp [strs?] at h
theorem dB_ok {K:PySem.W.Frag} {d:D} {u:Value} (h:dB K d u=true):∃v,RelV v u/\∀(g:G) (m:Mp) (H:Hp),g.K=K->RV g m H d v:=by
 unfold dB at h
 split at h
 ·rw [of_decide_eq_true h]
  exact ⟨.str _,⟨_,rfl⟩,fun _ _ _ _=>zjk⟩
 ·rw [of_decide_eq_true h]
  exact ⟨.int _,⟨_,rfl⟩,fun _ _ _ _=>zqm⟩
 ·rename_i xs b
  split at h
  ·rename_i ss c od its n sl e1 e2
   obtain ⟨h1,h2⟩:=He.ba h
   obtain ⟨h3,h4⟩:=He.ba h1
   rw [of_decide_eq_true h3] at e2
   refine ⟨.ref b,rfl,fun g m H hK=>?_⟩
   rw [strs_eq e1]
   exact rv_ctp (vs:=ss.map V.str) ⟨_,its,n,by rw [hK]; exact e2,rfl,rfl,of_decide_eq_true h4,He.relAll_ok h2⟩ (rvs_strs ss)
  ·cases h
 ·cases h
theorem lookS_mem:∀{ks:List Str} {ds:List D} {z:Str} {d:D},lookS ks ds z=some d->(z,d)∈ks.zip ds
 | [],ds,z,d,h=>by simp [lookS] at h
 | k :: ks,[],z,d,h=>by simp [lookS] at h
 | k :: ks,d' :: ds,z,d,h=>by
  simp only [lookS] at h
  split at h
  ·rename_i e
   cases h
   rw [e]
   exact List.mem_cons_self
  ·exact List.mem_cons_of_mem _ (lookS_mem h)
theorem lookS_not:∀{ks:List Str} {ds:List D} {z:Str},ks.length=ds.length->lookS ks ds z=none->z∉ks
 | [],ds,z,_,_=>by simp
 | k :: ks,[],z,hl,_=>by simp at hl
 | k :: ks,d' :: ds,z,hl,h=>by
  simp only [lookS] at h
  split at h
  ·cases h
  ·rename_i e
   simp only [List.mem_cons,not_or]
   exact ⟨fun q=>e q.symm,lookS_not (by simpa using hl) h⟩
theorem keyOf_not {z:Str} {P:Params}:∀{l:List DictEntry} {ks:List Str},l.map He.keyOf=He.keysIn P ks->z∉ks->l.find? (·.key.isStr z)=none/\l.any (·.refKey)=false
 | [],_,_,_=>⟨rfl,rfl⟩
 | e :: l,[],h,_=>by cases h
 | e :: l,k :: ks,h,hn=>by
  have h1:He.keyOf e :: l.map He.keyOf=some (k,PyData.keyHash P k) :: He.keysIn P ks:=h
  injection h1 with h2 h3
  simp only [List.mem_cons,not_or] at hn
  obtain ⟨i1,i2⟩:=keyOf_not h3 hn.2
  unfold He.keyOf at h2
  split at h2
  ·rename_i x t q
   have h4:=Option.some.inj h2
   obtain ⟨rfl,_⟩:=Prod.mk.inj h4
   have e1:e.key.isStr z=false:=by
    rw [q]
    have:¬x=z:=fun q=>hn.1 q.symm
    simp [Value.isStr,this]
   have e2:e.refKey=false:=by simp [DictEntry.refKey,q]
   simp [List.find?_cons,e1,e2,i1,i2]
  ·cases h2
theorem KDc.of {K:PySem.W.Frag} {w:World} {h:Heap} {mg:Str->Option Value} {x:Str} {ks:List Str} {ds:List D} (X:K.In h) (G:h.Ns mainGlobals mg) (c:(He.Fa.glo x).ok K=true) (t:He.dicW K (He.ga K x)=some (He.keysIn w.params ks)) (b:tabB K x ks ds=true):Nonempty (KDc K w mg x ks ds):=by
 obtain ⟨b1,b2⟩:=He.ba b
 obtain ⟨es,n,kd⟩:=He.dicW_ok t
 refine ⟨⟨He.ga K x,es,n,He.glo_ok X G c,kd,fun z d e=>?_,fun z e=>?_⟩⟩
 ·have:=List.all_eq_true.mp b2 (z,d) (lookS_mem e)
  cases hn:PySem.W.nsIn K (He.ga K x) z with
  | none=>simp [hn] at this
  | some r =>
   cases r with
   | none=>simp [hn] at this
   | some u =>
    simp only [hn] at this
    obtain ⟨v,h1,h2⟩:=dB_ok this
    exact ⟨u,v,rfl,h1,h2⟩
 ·have hz:=lookS_not (of_decide_eq_true b1) e
  have hk:es.toList.map He.keyOf=He.keysIn w.params ks:=by
   unfold He.dicW at t
   rw [kd.at_] at t
   have hs:(He.ga K x == sysModules)=false:=kd.low
   simp [hs] at t
   exact t
  obtain ⟨i1,i2⟩:=keyOf_not hk hz
  unfold PySem.W.nsIn
  rw [kd.at_]
  simp only [i1,i2]
  rfl
theorem CT.of {K:PySem.W.Frag} {h:Heap} {mg:Str->Option Value} {cl:String->Option Addr} {c:String} {x:Str} {fl:List Str} (X:K.In h) (G:h.Ns mainGlobals mg) (hc:cl c=some (He.ga K x)) (b:clsB K x fl=true):∃T:CT K cl mg c x fl,T.C=He.ga K x:=by
 obtain ⟨b1,b2⟩:=He.ba b
 obtain ⟨b3,b4⟩:=He.ba b1
 exact ⟨⟨He.ga K x,hc,He.cls_ok b4,fun f hf=>He.noat_ok (List.all_eq_true.mp b2 f hf),He.glo_ok X G b3⟩,rfl⟩
theorem MT.of {K:PySem.W.Frag} {C:Addr} {x m q:Str} {st:Stmt} {ps:List Str} {fd:FuncData} (hC:C=He.ga K x) (F:FunD K m q (defArgs st) (defBody st) (defScope st) [] [] (mAd x m K) fd)
  (hb:∀(kV doc pm:Value) (an:Option Addr) (cdv ct:Value) (us:List Value),us.length=ps.length->bindArgs (PySem.W.fnOf m q (defArgs st) (defBody st) (defScope st) .none kV doc pm an cdv ct) ⟨us,[]⟩=pure (ps.zip us))
  (c:(He.Fa.meth x m).ok K=true):Nonempty (MT K C m q st ps):=by
 subst hC
 exact ⟨⟨_,fd,F,FunD.bindsN F hb,He.meth_ok c⟩⟩
theorem IT.of {K:PySem.W.Frag} {C:Addr} {x q:Str} {st:Stmt} {ps:List Str} {fd:FuncData} (hC:C=He.ga K x) (F:FunD K "__init__" q (defArgs st) (defBody st) (defScope st) [] [] (mAd x "__init__" K) fd)
  (hb:∀(kV doc pm:Value) (an:Option Addr) (cdv ct:Value) (us:List Value),us.length=ps.length->bindArgs (PySem.W.fnOf "__init__" q (defArgs st) (defBody st) (defScope st) .none kV doc pm an cdv ct) ⟨us,[]⟩=pure (ps.zip us))
  (c:(He.Fa.mkr x).ok K=true):Nonempty (IT K C q st ps):=by
 subst hC
 exact ⟨⟨_,fd,F,FunD.bindsN F hb,He.mkr_ok c⟩⟩
theorem RT.of {K:PySem.W.Frag} {C:Addr} {x m q:Str} {st:Stmt} {ps:List Str} {fd:FuncData} (hC:C=He.ga K x) (F:FunD K m q (defArgs st) (defBody st) (defScope st) [] [] (pAd x m K) fd)
  (hb:∀(kV doc pm:Value) (an:Option Addr) (cdv ct:Value) (us:List Value),us.length=ps.length->bindArgs (PySem.W.fnOf m q (defArgs st) (defBody st) (defScope st) .none kV doc pm an cdv ct) ⟨us,[]⟩=pure (ps.zip us))
  (c:propB K x m=true):Nonempty (RT K C m q st ps):=by
 subst hC
 obtain ⟨c1,c2⟩:=He.ba c
 obtain ⟨c3,c4⟩:=He.ba c1
 obtain ⟨c5,c6⟩:=He.ba c2
 refine ⟨⟨mAd x m K,_,fd,F,FunD.bindsN F hb,⟨He.eqO_ok c3,He.eqO_ok c4,of_decide_eq_true c5,?_⟩⟩⟩
 unfold pAd
 split at c6
 ·rename_i g rest e
  rw [e]
  exact ⟨rest,rfl⟩
 ·cases c6
theorem FT.ofH {K:PySem.W.Frag} {h:Heap} {mg:Str->Option Value} (X:K.In h) (G:h.Ns mainGlobals mg) {x:Str} {st:Stmt} {ps:List Str} {fd:FuncData} (F:FunD K x x (defArgs st) (defBody st) (defScope st) [] [] (gAd x K) fd)
  (hb:∀(kV doc pm:Value) (an:Option Addr) (cdv ct:Value) (us:List Value),us.length=ps.length->bindArgs (PySem.W.fnOf x x (defArgs st) (defBody st) (defScope st) .none kV doc pm an cdv ct) ⟨us,[]⟩=pure (ps.zip us))
  (c:(He.Fa.glo x).ok K=true):Nonempty (FT K mg x st ps):=⟨⟨_,fd,F,FunD.bindsN F hb,He.glo_ok X G c⟩⟩
theorem FK.ofH {K:PySem.W.Frag} {h:Heap} {mg:Str->Option Value} (X:K.In h) (G:h.Ns mainGlobals mg) {x:Str} {st:Stmt} {ps:List Str} {fd:FuncData} {n:Nat} {ks:List Str} (F:FunD K x x (defArgs st) (defBody st) (defScope st) [] (ks.map fun k=>(k,V.non)) (gAd x K) fd) (hk:ks≠[]) (hn:n+ks.length=ps.length)
  (h0:∀(D:Addr) (doc pm:Value) (an:Option Addr) (cdv ct:Value) (us zs:List Value),us.length=n->zs.length=ks.length->KwChain D (ks.zip zs) (bindArgs (PySem.W.fnOf x x (defArgs st) (defBody st) (defScope st) .none (.ref D) doc pm an cdv ct) ⟨us,[]⟩) (ps.zip (us++zs)))
  (h1:∀(D:Addr) (doc pm:Value) (an:Option Addr) (cdv ct:Value) (us ws:List Value),us.length=n->ws.length=ks.length->KwChain D [] (bindArgs (PySem.W.fnOf x x (defArgs st) (defBody st) (defScope st) .none (.ref D) doc pm an cdv ct) ⟨us,ks.zip ws⟩) (ps.zip (us++ws)))
  (c:(He.Fa.glo x).ok K=true):Nonempty (FK K mg x st ps n ks):=by
 have hk2:(ks.map fun k=>(k,V.non))≠[]:=by simpa using hk
 obtain ⟨dus,bv,bd⟩:=FunD.binds0 (ps:=ps) F n hk2 (by simpa using hn) fun D doc pm an cdv ct us zs hu hz=>by
  have:=h0 D doc pm an cdv ct us zs hu (by simpa using hz)
  have e:(ks.map fun k=>(k,V.non)).map (·.1)=ks:=by rw [List.map_map]; exact List.map_id ks
  rw [e]
  exact this
 obtain ⟨mv,kb⟩:=FunD.kbinds0 (ps:=ps) F n ks [] (fun vs _ zs=>vs++zs) hk2 (by simp) (fun a _ b=>a.append b) fun D doc pm an cdv ct us mv ws hu hm hw=>by
  have:=h1 D doc pm an cdv ct us ws hu hw
  simpa using this
 exact ⟨⟨_,fd,F,dus,by rw [List.map_map] at bv; exact bv,bd,_,kb,He.glo_ok X G c⟩⟩
end VL
namespace VL
open PySem PySem.Spec PyProof.Rows L2
mutual
def clo:D->Bool
 | .ref _=>false
 | .tup xs=>clos xs
 | .ctp xs=>clos xs
 | .lst xs=>clos xs
 | .dic _ vs=>clos vs
 | .dct _ vs=>clos vs
 | .obj _ _ vs=>clos vs
 | .non=>true
 | .bl _=>true
 | .int _=>true
 | .str _=>true
 | .ty _=>true
 | .scr _=>true
 | .kref _=>true
def clos:List D->Bool
 | []=>true
 | d :: ds=>clo d && clos ds
end
section
variable {g:G} {m m':Mp} {H:Hp}
mutual
theorem RV.mv (hu:∀a o,H a=some o->Un m a->Un m' a):∀{d:D} {v:V},clo d=true->RV g m H d v->RV g m' H d v
 | .non,v,_,h=>by rw [of_non h]; exact rv_non
 | .bl b,v,_,h=>by rw [of_bl h]; exact zqr
 | .int b,v,_,h=>by rw [zq6 h]; exact zqm
 | .str b,v,_,h=>by rw [zqo h]; exact zjk
 | .ty b,v,_,h=>by unfold RV at h ⊢; exact h
 | .ref n,v,c,h=>by simp [clo] at c
 | .kref n,v,_,h=>by unfold RV at h ⊢; exact h
 | .scr ns,v,_,h=>by
  unfold RV at h ⊢
  obtain ⟨a,rfl,h⟩:=h
  refine ⟨a,rfl,?_⟩
  rcases h with ⟨h1 | ⟨o,h1⟩,h2⟩ | h
  ·exact .inl ⟨.inl h1,hu a _ h1 h2⟩
  ·exact .inl ⟨.inr ⟨o,h1⟩,hu a _ h1 h2⟩
  ·exact .inr h
 | .tup xs,v,c,h=>by
  unfold RV at h ⊢
  obtain ⟨a,vs,rfl,⟨h1,h2⟩,h3⟩:=h
  exact ⟨a,vs,rfl,⟨h1,hu a _ h1 h2⟩,RVs.mv hu (by simpa [clo] using c) h3⟩
 | .ctp xs,v,c,h=>by
  unfold RV at h ⊢
  obtain ⟨a,vs,rfl,h1,h3⟩:=h
  exact ⟨a,vs,rfl,h1,RVs.mv hu (by simpa [clo] using c) h3⟩
 | .lst xs,v,c,h=>by
  unfold RV at h ⊢
  obtain ⟨a,vs,rfl,h1,h2,h3⟩:=h
  exact ⟨a,vs,rfl,h1,hu a _ h1 h2,RVs.mv hu (by simpa [clo] using c) h3⟩
 | .dic ks xs,v,c,h=>by
  unfold RV at h ⊢
  obtain ⟨a,vs,rfl,h1,h2,h3,h4⟩:=h
  exact ⟨a,vs,rfl,h1,h1.elim (fun z=>hu a _ z h2) (fun ⟨o,z⟩=>hu a _ z h2),h3,RVs.mv hu (by simpa [clo] using c) h4⟩
 | .dct ks xs,v,c,h=>by
  unfold RV at h ⊢
  obtain ⟨a,vs,rfl,h1,h2,h3,h4⟩:=h
  exact ⟨a,vs,rfl,h1,h1.elim (fun z=>hu a _ z h2) (fun ⟨o,z⟩=>hu a _ z h2),h3,RVs.mv hu (by simpa [clo] using c) h4⟩
 | .obj cn ns xs,v,c,h=>by
  unfold RV at h ⊢
  obtain ⟨a,C,dx,fs,rfl,h0,h1,h2,h3,h4⟩:=h
  exact ⟨a,C,dx,fs,rfl,h0,h1,hu a _ h1 h2,h3,RVs.mv hu (by simpa [clo] using c) h4⟩
theorem RVs.mv (hu:∀a o,H a=some o->Un m a->Un m' a):∀{ds:List D} {vs:List V},clos ds=true->RVs g m H ds vs->RVs g m' H ds vs
 | [],vs,_,h=>by rw [h.nil_iff]; exact .nil
 | d :: ds,vs,c,h=>by
  obtain ⟨v,r,rfl,h1,h2⟩:=h.cons_iff
  obtain ⟨c1,c2⟩:=He.ba (show (clo d && clos ds)=true from c)
  exact .cons (RV.mv hu c1 h1) (RVs.mv hu c2 h2)
end
end
section
end
end VL
namespace VL
open PySem PySem.Spec PyProof.Rows L2
end VL
namespace VL
open PySem PySem.Spec PyProof.Rows L2
section
end
end VL
namespace VL
open PySem PySem.Spec PyProof.Rows L2
end VL
namespace VL
open PySem PySem.Spec PyProof.Rows L2
section
end
end VL
namespace VL
open PySem PySem.Spec PyProof.Rows L2
section
def TAt (n:Nat) (l:List (Addr × List Value)) (T':Addr):Prop:=n<=T'∨∃l1 q l2,l=l1++q :: l2/\(∀x∈l1++l2,x.2=[])/\T'=q.1
theorem TAt.new {n n':Nat} {T' T2:Addr} {acc:List Value} {l rest:List (Addr × List Value)} (hp:acc≠[]) (hs:n<=n') (h2:n<=T2) (a:TAt n' ((T2,acc) :: rest) T'):TAt n l T':=by
 rcases a with a | ⟨l1,q,l2,e,h1,h2'⟩
 ·exact .inl (Nat.le_trans hs a)
 ·cases l1 with
  | nil=>cases e; exact .inl (by rw [h2']; exact h2)
  | cons y l1=>cases e; exact absurd (h1 (T2,acc) (by simp)) hp
end
section
end
section
end
end VL
namespace VL
open PySem PySem.Spec PyProof.Rows L2
section
end
def eqO (c:String) (F:List D->Sto->R D) (base:D->D->Sto->R D) (x y:D) (S:Sto):R D:=match insOf x S,insOf y S with
 | some p,some p2=>if p.1=c/\p2.1=c then (F [x,y] S).calm.bind fun z S1=>(match z with
   | .bl b=>.ok (.bl b) S1
   | _=>.bad) else base x y S
 | _,_=>base x y S
end VL
namespace VL
open PySem PySem.Spec PyProof.Rows L2
section
end
end VL
namespace VL
open PySem PySem.Spec PyProof.Rows L2 HT
section
end
section
end
end VL
namespace VL
open PySem PySem.Spec PyProof.Rows L2
section
end
end VL
namespace VL
open PySem PySem.Spec PyProof.Rows L2
section
end
section
end
section
end
section
end
section
end
end VL
namespace VL
open PySem PySem.Spec PyProof.Rows L2
section
end
end VL
namespace VL
open PySem PySem.Spec PyProof.Rows L2
section
end
end VL
namespace PyProof.Rows
open PySem PySem.Spec
section
end
end PyProof.Rows
namespace VL
open PySem PySem.Spec PyProof.Rows L2
section
end
end VL
namespace VL
open PySem PySem.Spec PyProof.Rows L2
section
variable {prog:Program} {w:World} {K:Type} [DecidableEq K]
end
section
end
end VL
namespace VL
open PySem PySem.Spec PyProof.Rows L2
section
end
end VL
namespace VL
open PySem PySem.Spec PyProof.Rows L2 HT
section
end
end VL
namespace VL
open PySem PySem.Spec PyProof.Rows L2
section
end
end VL
namespace VL
open PySem PySem.Spec PyProof.Rows L2
section
open PySem.W
end
end VL
namespace VL
open PySem PySem.Spec PyProof.Rows L2
section
end
end VL
namespace VL
open PySem PySem.Spec PyProof.Rows L2
def eqXs (f:D->D->Option Bool):List D->List D->Option Bool
 | x :: xs,y :: ys=>match f x y,eqXs f xs ys with
  | some b,some c=>some (b && c)
  | _,_=>none
 | _,_=>some true
def allO (g:Key->Option Bool):List Key->Option Bool
 | []=>some true
 | k :: r=>match g k,allO g r with
  | some b,some c=>some (b && c)
  | _,_=>none
def eqXe (f:D->D->Option Bool) (ks:List Key) (ds:List D) (ks':List Key) (ds':List D) (k:Key):Option Bool:=match lookK ks ds k with
 | none=>none
 | some d=>match lookK ks' ds' k with
  | none=>some false
  | some d'=>f d d'
def tupO:D->Option (List D)
 | .tup ds=>some ds
 | .ctp ds=>some ds
 | _=>none
def leafX (S:Sto) (x y:D):Option Bool:=match toP S 65 x,toP S 65 y with
 | some p,some q=>if SeqAt.shaped p=true/\SeqAt.shaped q=true then some (PyData.eqv p q) else none
 | _,_=>none
def eqX (S:Sto):Nat->D->D->Option Bool
 | 0=>fun _ _=>none
 | k+1=>fun x y=>match leafX S x y with
  | some b=>some b
  | none=>match lstO x S,lstO y S with
   | some xs,some ys=>if xs.length=ys.length then eqXs (eqX S k) xs ys else some false
   | _,_=>match zjq x S,zjq y S with
    | some p,some q=>if p.1.length=q.1.length then allO (eqXe (eqX S k) p.1 p.2 q.1 q.2) p.1 else some false
    | _,_=>match tupO x,tupO y with
     | some xs,some ys=>(eqXs (eqX S k) xs ys).map fun b=>b && decide (xs.length=ys.length)
     | _,_=>none
section
variable {X:Cx} {g:G} {E:XD} {pins:List (Addr × Obj)} {σ : St} {H:Hp} {s:Shared} {m:Mp} {S:Sto}
def EqN (prog:Program) (w:World) (s:Shared) (n:Nat) (v y:Value) (b:Bool):Prop := ∀A:Around,A.units+n < cLine->SeqAt.EqIn prog w A s v y b
section
variable {prog:Program} {w:World} {s:Shared}
theorem EqN.same {n:Nat} {v:Value}:EqN prog w s n v v true:=fun A hu=>(SeqAt.EqAt.same _).inModel prog w
theorem EqN.lists {n:Nat} {l l':Addr} {vs vs':Array Value} {e:Nat->Bool} (hne:l≠l') (hl:s.heap.IsList l vs) (hl':s.heap.IsList l' vs') (hsz:vs.size=vs'.size) (ih:∀j (h1:j < vs.size) (h2:j < vs'.size),EqN prog w s n vs[j] vs'[j] (e j)) :
  EqN prog w s (n+1) (.ref l) (.ref l') ((List.range vs.size).all e) :=
 fun A hu=>SeqAt.EqIn.of_refs hne fun E Q hq=>SeqAt.rcIn_lists hl hl' hsz (by omega) (fun j h1 h2=>ih j h1 h2 A.in1 (by show A.units+1+_ < cLine; omega)) hq
theorem EqN.tuples {n:Nat} {l l':Addr} {vs vs':Array Value} {e:Nat->Bool} (hne:l≠l') (hl:s.heap.IsTuple l vs) (hl':s.heap.IsTuple l' vs') (ih:∀j (h1:j < vs.size) (h2:j < vs'.size),EqN prog w s n vs[j] vs'[j] (e j)) :
  EqN prog w s (n+1) (.ref l) (.ref l') ((List.range (min vs.size vs'.size)).all e && vs.size == vs'.size) :=
 fun A hu=>SeqAt.EqIn.of_refs hne fun E Q hq=>SeqAt.rcIn_tuples hl hl' (by omega) (fun j h1 h2=>ih j h1 h2 A.in1 (by show A.units+1+_ < cLine; omega)) hq
theorem EqN.dicts {K:Type} [DecidableEq K] {knd:KeyKind prog w K} {n:Nat} {a b:Addr} {ka kb:List (K × Value)} {e:K->Bool} (hne:a≠b) (ha:(a == sysModules)=false) (hb:(b == sysModules)=false) (da:s.heap.DictOf knd a ka) (db:s.heap.DictOf knd b kb)
  (ih:∀k v y,(k,v)∈ka->valueAt kb k=some y->EqN prog w s n v y (e k)):EqN prog w s (n+1) (.ref a) (.ref b) (ka.length == kb.length && ka.all fun p=>(valueAt kb p.1).isSome && e p.1) :=
 fun A hu=>SeqAt.EqIn.of_refs hne fun E Q hq=>PySem.W.keq_eqIn ha hb da db (by omega) (fun _=>PySem.W.KeqHitsIn.of _ fun k v y hm hv=>ih k v y hm hv A.in1 (by show A.units+1+_ < cLine; omega)) hq
end
end
end VL
namespace VL
open PySem PySem.Spec PyProof.Rows L2
section
open PySem.SeqAt PySem.MeetsSeq PySem.MeetsSeq2 PySem.MeetsSeq3 PySem.SeqRoads2
open PySem.AutoSeq1 (wpAny_loadPart')
end
def eqT (S:Sto) (x y:D):Option Bool:=match lstO x S,lstO y S with
 | some xs,some ys=>if xs.length=ys.length then eqXs (eqX S 40) xs ys else none
 | _,_=>match tupO x,tupO y with
  | some xs,some ys=>if xs.length=ys.length then eqXs (eqX S 40) xs ys else none
  | _,_=>none
def eqT2 (S:Sto) (x y:D):Option Bool:=match zjq x S,zjq y S with
 | some p,some q=>if p.1.length=q.1.length then allO (eqXe (eqX S 40) p.1 p.2 q.1 q.2) p.1 else some false
 | _,_=>eqT S x y
def eq5D (neg:Bool) (x y:D) (S:Sto):R D:=match eq4D neg x y S with
 | .bad=>(match neg with
  | false=>(match eqT2 S x y with
   | some b=>.ok (.bl b) S
   | none=>.bad)
  | true=>(match eqT S x y with
   | some true=>.ok (.bl false) S
   | _=>.bad))
 | r=>r
section
end
end VL
namespace VL
open PySem PySem.Spec PyProof.Rows L2
section
end
section
end
section
end
end VL
namespace VL
open PySem PySem.Spec PyProof.Rows L2
structure MD (K:PySem.W.Frag) (C:Addr) (m q:Str) (st:Stmt) (ps:List Str) (dvs:List V) where
 f:Addr
 fd:FuncData
 fn:FunD K m q (defArgs st) (defBody st) (defScope st) dvs [] f fd
 bn:Binds K fd ps []
 dus:List Value
 bv:Vals dvs dus
 bd:Binds K fd ps dus
 me:Meth K C m f
structure MK (K:PySem.W.Frag) (C:Addr) (m q:Str) (st:Stmt) (ps:List Str) (n:Nat) (ks:List Str) where
 f:Addr
 fd:FuncData
 fn:FunD K m q (defArgs st) (defBody st) (defScope st) [] (ks.map fun k=>(k,V.non)) f fd
 dus:List Value
 bv:Vals (ks.map fun _=>V.non) dus
 bd:Binds K fd ps dus
 gg:List Value->List Value->List Value
 kb:KBn K fd ps n ks gg (fun vs zs=>vs++zs)
 me:Meth K C m f
structure IK (K:PySem.W.Frag) (C:Addr) (q:Str) (st:Stmt) (ps:List Str) (n:Nat) (kn:Str) where
 f:Addr
 fd:FuncData
 a:Addr
 fn:FunD K "__init__" q (defArgs st) (defBody st) (defScope st) [] [(kn,V.ref a)] f fd
 sq:∀g:G,g.K=K->SqK g a []
 dus:List Value
 bv:Vals [V.ref a] dus
 bd:Binds K fd ps dus
 gg:List Value->List Value->List Value
 kb:KBn K fd ps n [kn] gg (fun vs zs=>vs++zs)
 mkc:Mk K C f
theorem MD.of {K:PySem.W.Frag} {C:Addr} {x m q:Str} {st:Stmt} {ps:List Str} {fd:FuncData} {dvs:List V} (n:Nat) (hC:C=He.ga K x) (F:FunD K m q (defArgs st) (defBody st) (defScope st) dvs [] (mAd x m K) fd) (hd:dvs≠[]) (hn:n+dvs.length=ps.length)
  (h0:∀(T:Addr) (kV doc pm:Value) (an:Option Addr) (cdv ct:Value) (us its:List Value),us.length=n->its.length=dvs.length->∃k,bindArgs (PySem.W.fnOf m q (defArgs st) (defBody st) (defScope st) (.ref T) kV doc pm an cdv ct) ⟨us,[]⟩=seqItems? (.ref T) >>= k/\k (some its.toArray)=pure (ps.zip (us++its)))
  (h1:∀(T:Addr) (kV doc pm:Value) (an:Option Addr) (cdv ct:Value) (us its:List Value),us.length=ps.length->its.length=dvs.length->∃k,bindArgs (PySem.W.fnOf m q (defArgs st) (defBody st) (defScope st) (.ref T) kV doc pm an cdv ct) ⟨us,[]⟩=seqItems? (.ref T) >>= k/\k (some its.toArray)=pure (ps.zip us))
  (c:(He.Fa.meth x m).ok K=true):Nonempty (MD K C m q st ps dvs):=by
 subst hC
 obtain ⟨dus,bv,bd⟩:=FunD.binds1 (ps:=ps) F n 0 hd (by simpa using hn) h0
 obtain ⟨ds,bv1,bn⟩:=FunD.binds1 (ps:=ps) F ps.length dvs.length hd (by simp) fun T kV doc pm an cdv ct us its hu hi=>by
  obtain ⟨k,e1,e2⟩:=h1 T kV doc pm an cdv ct us its hu hi
  exact ⟨k,e1,by rw [e2,← hi,List.drop_length,List.append_nil]⟩
 rw [List.drop_length] at bv1
 cases bv1
 exact ⟨⟨_,fd,F,bn,dus,bv,bd,He.meth_ok c⟩⟩
theorem MK.of {K:PySem.W.Frag} {C:Addr} {x m q:Str} {st:Stmt} {ps:List Str} {fd:FuncData} {n:Nat} {ks:List Str} (hC:C=He.ga K x) (F:FunD K m q (defArgs st) (defBody st) (defScope st) [] (ks.map fun k=>(k,V.non)) (mAd x m K) fd) (hk:ks≠[]) (hn:n+ks.length=ps.length)
  (h0:∀(D:Addr) (doc pm:Value) (an:Option Addr) (cdv ct:Value) (us zs:List Value),us.length=n->zs.length=ks.length->KwChain D (ks.zip zs) (bindArgs (PySem.W.fnOf m q (defArgs st) (defBody st) (defScope st) .none (.ref D) doc pm an cdv ct) ⟨us,[]⟩) (ps.zip (us++zs)))
  (h1:∀(D:Addr) (doc pm:Value) (an:Option Addr) (cdv ct:Value) (us ws:List Value),us.length=n->ws.length=ks.length->KwChain D [] (bindArgs (PySem.W.fnOf m q (defArgs st) (defBody st) (defScope st) .none (.ref D) doc pm an cdv ct) ⟨us,ks.zip ws⟩) (ps.zip (us++ws)))
  (c:(He.Fa.meth x m).ok K=true):Nonempty (MK K C m q st ps n ks):=by
 subst hC
 have hk2:(ks.map fun k=>(k,V.non))≠[]:=by simpa using hk
 obtain ⟨dus,bv,bd⟩:=FunD.binds0 (ps:=ps) F n hk2 (by simpa using hn) fun D doc pm an cdv ct us zs hu hz=>by
  have:=h0 D doc pm an cdv ct us zs hu (by simpa using hz)
  have e:(ks.map fun k=>(k,V.non)).map (·.1)=ks:=by rw [List.map_map]; exact List.map_id ks
  rw [e]
  exact this
 obtain ⟨mv,kb⟩:=FunD.kbinds0 (ps:=ps) F n ks [] (fun vs _ zs=>vs++zs) hk2 (by simp) (fun a _ b=>a.append b) fun D doc pm an cdv ct us mv ws hu hm hw=>by
  have:=h1 D doc pm an cdv ct us ws hu hw
  simpa using this
 exact ⟨⟨_,fd,F,dus,by rw [List.map_map] at bv; exact bv,bd,_,kb,He.meth_ok c⟩⟩
theorem nilB_ok {K:PySem.W.Frag} {a:Addr} (h:nilB K a=true) (g:G) (hK:g.K=K):SqK g a []:=by
 subst hK
 unfold nilB at h
 split at h
 ·rename_i c d its n sl e
  obtain ⟨h1,h2⟩:=He.ba h
  have h1':=of_decide_eq_true h1
  have h2':=of_decide_eq_true h2
  have e2:its=#[]:=Array.eq_empty_of_size_eq_zero h2'
  subst h1' e2
  exact ⟨_,_,_,e,rfl,rfl,by simp,.nil⟩
 ·cases h
theorem IK.of {K:PySem.W.Frag} {C:Addr} {x q:Str} {st:Stmt} {ps:List Str} {fd:FuncData} {n:Nat} {kn:Str} {a:Addr} (hC:C=He.ga K x) (F:FunD K "__init__" q (defArgs st) (defBody st) (defScope st) [] [(kn,V.ref a)] (mAd x "__init__" K) fd) (hn:n+1=ps.length)
  (h0:∀(D:Addr) (doc pm:Value) (an:Option Addr) (cdv ct:Value) (us zs:List Value),us.length=n->zs.length=1->KwChain D ([kn].zip zs) (bindArgs (PySem.W.fnOf "__init__" q (defArgs st) (defBody st) (defScope st) .none (.ref D) doc pm an cdv ct) ⟨us,[]⟩) (ps.zip (us++zs)))
  (h1:∀(D:Addr) (doc pm:Value) (an:Option Addr) (cdv ct:Value) (us ws:List Value),us.length=n->ws.length=1->KwChain D [] (bindArgs (PySem.W.fnOf "__init__" q (defArgs st) (defBody st) (defScope st) .none (.ref D) doc pm an cdv ct) ⟨us,[kn].zip ws⟩) (ps.zip (us++ws)))
  (c:(He.Fa.mkr x).ok K=true) (t:nilB K a=true):Nonempty (IK K C q st ps n kn):=by
 subst hC
 obtain ⟨dus,bv,bd⟩:=FunD.binds0 (ps:=ps) F n (by simp) (by simpa using hn) fun D doc pm an cdv ct us zs hu hz=>h0 D doc pm an cdv ct us zs hu (by simpa using hz)
 obtain ⟨mv,kb⟩:=FunD.kbinds0 (ps:=ps) F n [kn] [] (fun vs _ zs=>vs++zs) (by simp) (by simp) (fun a _ b=>a.append b) fun D doc pm an cdv ct us mv ws hu hm hw=>by
  have:=h1 D doc pm an cdv ct us ws hu hw
  simpa using this
 exact ⟨⟨_,fd,a,F,nilB_ok t,dus,bv,bd,_,kb,He.mkr_ok c⟩⟩
end VL
namespace VL
open PySem PySem.Spec PyProof.Rows L2
section
end
section
end
end VL
namespace VL
open PySem PySem.Spec PyProof.Rows L2
section
end
end VL
namespace VL
open PySem PySem.Spec PyProof.Rows L2
mutual
def shD (n:Nat):D->D
 | .ref k=>.ref (n+k)
 | .tup xs=>.tup (shDs n xs)
 | .ctp xs=>.ctp (shDs n xs)
 | .lst xs=>.lst (shDs n xs)
 | .dic ks vs=>.dic ks (shDs n vs)
 | .dct ks vs=>.dct ks (shDs n vs)
 | .obj c ns vs=>.obj c ns (shDs n vs)
 | .non=>.non
 | .bl b=>.bl b
 | .int i=>.int i
 | .str x=>.str x
 | .ty x=>.ty x
 | .scr ns=>.scr ns
 | .kref s=>.kref s
def shDs (n:Nat):List D->List D
 | []=>[]
 | d :: ds=>shD n d :: shDs n ds
end
def shO (n:Nat):Ob->Ob
 | .lst xs=>.lst (shDs n xs)
 | .dic ks vs=>.dic ks (shDs n vs)
 | .dct ks vs=>.dct ks (shDs n vs)
 | .dlk ks vs=>.dlk ks (shDs n vs)
 | .dnt ks vs=>.dnt ks (shDs n vs)
 | .ins c ns vs=>.ins c ns (shDs n vs)
 | .tab q=>.tab q
 | .exn c f d=>.exn c f (shD n d)
 | .odk k i=>.odk (shD n k) i
 | .dead=>.dead
mutual
theorem sh_clo (n:Nat):∀{d:D},clo d=true->shD n d=d
 | .non,_=>rfl
 | .bl _,_=>rfl
 | .int _,_=>rfl
 | .str _,_=>rfl
 | .ty _,_=>rfl
 | .scr _,_=>rfl
 | .kref _,_=>rfl
 | .ref _,h=>by simp [clo] at h
 | .tup xs,h=>by rw [shD,shs_clo n (ds:=xs) (by simpa [clo] using h)]
 | .ctp xs,h=>by rw [shD,shs_clo n (ds:=xs) (by simpa [clo] using h)]
 | .lst xs,h=>by rw [shD,shs_clo n (ds:=xs) (by simpa [clo] using h)]
 | .dic _ xs,h=>by rw [shD,shs_clo n (ds:=xs) (by simpa [clo] using h)]
 | .dct _ xs,h=>by rw [shD,shs_clo n (ds:=xs) (by simpa [clo] using h)]
 | .obj _ _ xs,h=>by rw [shD,shs_clo n (ds:=xs) (by simpa [clo] using h)]
theorem shs_clo (n:Nat):∀{ds:List D},clos ds=true->shDs n ds=ds
 | [],_=>rfl
 | d :: ds,h=>by
  obtain ⟨h1,h2⟩:=He.ba (show (clo d && clos ds)=true from h)
  rw [shDs,sh_clo n h1,shs_clo n h2]
end
mutual
theorem sh_dkN (n:Nat):∀k:NestedKey,shD n (dkN k)=dkN k
 | .none=>rfl
 | .num _=>rfl
 | .text _=>rfl
 | .tup ks=>by rw [dkN,shD,shs_dkN n ks]
theorem shs_dkN (n:Nat):∀ks:List NestedKey,shDs n (dkNs ks)=dkNs ks
 | []=>rfl
 | k :: ks=>by rw [dkNs,shDs,sh_dkN n k,shs_dkN n ks]
end
section
variable {g:G} {m m':Mp} {H:Hp} {n:Nat}
mutual
theorem RV.sh (hl:∀(k:Nat) (x:Addr × Bool),m.l[k]?=some x->m'.l[n+k]?=some x) (hu:∀a o,H a=some o->Un m a->Un m' a):∀{d:D} {v:V},RV g m H d v->RV g m' H (shD n d) v
 | .non,v,h=>by rw [of_non h]; exact rv_non
 | .bl b,v,h=>by rw [of_bl h]; exact zqr
 | .int b,v,h=>by rw [zq6 h]; exact zqm
 | .str b,v,h=>by rw [zqo h]; exact zjk
 | .ty b,v,h=>by rw [shD]; unfold RV at h ⊢; exact h
 | .ref k,v,h=>by
  rw [shD]
  unfold RV at h ⊢
  obtain ⟨a,b,rfl,h⟩:=h
  exact ⟨a,b,rfl,hl k _ h⟩
 | .kref k,v,h=>by rw [shD]; unfold RV at h ⊢; exact h
 | .scr ns,v,h=>by
  rw [shD]
  unfold RV at h ⊢
  obtain ⟨a,rfl,h⟩:=h
  refine ⟨a,rfl,?_⟩
  rcases h with ⟨h1 | ⟨o,h1⟩,h2⟩ | h
  ·exact .inl ⟨.inl h1,hu a _ h1 h2⟩
  ·exact .inl ⟨.inr ⟨o,h1⟩,hu a _ h1 h2⟩
  ·exact .inr h
 | .tup xs,v,h=>by
  rw [shD]
  unfold RV at h ⊢
  obtain ⟨a,vs,rfl,⟨h1,h2⟩,h3⟩:=h
  exact ⟨a,vs,rfl,⟨h1,hu a _ h1 h2⟩,RVs.sh hl hu h3⟩
 | .ctp xs,v,h=>by
  rw [shD]
  unfold RV at h ⊢
  obtain ⟨a,vs,rfl,h1,h3⟩:=h
  exact ⟨a,vs,rfl,h1,RVs.sh hl hu h3⟩
 | .lst xs,v,h=>by
  rw [shD]
  unfold RV at h ⊢
  obtain ⟨a,vs,rfl,h1,h2,h3⟩:=h
  exact ⟨a,vs,rfl,h1,hu a _ h1 h2,RVs.sh hl hu h3⟩
 | .dic ks xs,v,h=>by
  rw [shD]
  unfold RV at h ⊢
  obtain ⟨a,vs,rfl,h1,h2,h3,h4⟩:=h
  exact ⟨a,vs,rfl,h1,h1.elim (fun z=>hu a _ z h2) (fun ⟨o,z⟩=>hu a _ z h2),h3,RVs.sh hl hu h4⟩
 | .dct ks xs,v,h=>by
  rw [shD]
  unfold RV at h ⊢
  obtain ⟨a,vs,rfl,h1,h2,h3,h4⟩:=h
  exact ⟨a,vs,rfl,h1,h1.elim (fun z=>hu a _ z h2) (fun ⟨o,z⟩=>hu a _ z h2),h3,RVs.sh hl hu h4⟩
 | .obj cn ns xs,v,h=>by
  rw [shD]
  unfold RV at h ⊢
  obtain ⟨a,C,dx,fs,rfl,h0,h1,h2,h3,h4⟩:=h
  exact ⟨a,C,dx,fs,rfl,h0,h1,hu a _ h1 h2,h3,RVs.sh hl hu h4⟩
theorem RVs.sh (hl:∀(k:Nat) (x:Addr × Bool),m.l[k]?=some x->m'.l[n+k]?=some x) (hu:∀a o,H a=some o->Un m a->Un m' a):∀{ds:List D} {vs:List V},RVs g m H ds vs->RVs g m' H (shDs n ds) vs
 | [],vs,h=>by rw [h.nil_iff]; exact .nil
 | d :: ds,vs,h=>by
  obtain ⟨v,r,rfl,h1,h2⟩:=h.cons_iff
  exact .cons (RV.sh hl hu h1) (RVs.sh hl hu h2)
end
theorem OR.sh (hl:∀(k:Nat) (x:Addr × Bool),m.l[k]?=some x->m'.l[n+k]?=some x) (hu:∀a o,H a=some o->Un m a->Un m' a):∀{ob:Ob} {o:HO},OR g m H ob o->OR g m' H (shO n ob) o
 | .lst ds,o,⟨vs,h1,h2⟩=>⟨vs,h1,h2.sh hl hu⟩
 | .dic ks ds,o,⟨vs,h1,h2,h3⟩=>⟨vs,h1,h2,h3.sh hl hu⟩
 | .dct ks ds,o,⟨vs,h1,h2,h3⟩=>⟨vs,h1,h2,h3.sh hl hu⟩
 | .dlk ks ds,o,⟨od,vs,h1,h2,h3⟩=>⟨od,vs,h1,h2,h3.sh hl hu⟩
 | .dnt ks ds,o,⟨a,xs,vs,h1,h2,h3,h4,h5,h6,h7,h8⟩=>⟨a,xs,vs,h1,h2,h3,h4,h5,by have e:=h6.sh hl hu; rw [shs_dkN] at e; exact e,h7,h8.sh hl hu⟩
 | .ins c ns ds,o,⟨C,dx,fs,h1,h2,h3,h4⟩=>⟨C,dx,fs,h1,h2,h3,h4.sh hl hu⟩
 | .tab q,o,⟨ps,h1,h2,h3⟩=>⟨ps,h1,h2,fun pos cv hc=>by
  obtain ⟨c,e1,e2,u⟩:=h3 pos cv hc
  exact ⟨c,e1,e2,hu c _ e2 u⟩⟩
 | .exn c f d,o,⟨a,C,dx,v,h1,h2,h3,u,h4⟩=>⟨a,C,dx,v,h1,h2,h3,hu dx _ h3 u,h4.sh hl hu⟩
 | .odk k i,o,⟨a,hs,ep,kv,ku,t,h1,h2,h3⟩=>⟨a,hs,ep,kv,ku,t,h1,h2,h3.sh hl hu⟩
end
section
end
end VL
namespace VL
open PySem PySem.Spec PyProof.Rows L2
section
end
end VL
namespace VL
open PySem PySem.Spec PyProof.Rows L2
section
open PySem.SeqAt
open AutoSeq1 (wpAny_loadPart')
open MeetsSeq MeetsSeq2 MeetsSeq3 SeqRoads2
end
section
end
end VL
namespace VL
open PySem PySem.Spec PyProof.Rows L2
section
end
end VL
namespace VL
open PySem PySem.Spec PyProof.Rows L2
section
end
end VL
namespace VL
open PySem PySem.Spec PyProof.Rows L2
section
end
end VL
namespace VL
open PySem PySem.Spec PyProof.Rows L2
section
end
end VL
namespace VL
open PySem PySem.W PySem.Calls PyProof.Rows PyProof.V PySem.Spec
def XMade (newId:String) (bmB:List Value):Prop :=
 ∀{prog:Program} {w:World} {A:Around} {R:Result->Shared->Prop} {h:Heap} {g:Array GenState} {d:Drawn} {t:Nat} {os:OsState} {nm q:Str} {C N:Addr} {bs bm:List Value} {hdct:Bool} {sn:List Str} {sub:List Value} {ab:Bool} {col:Option Bool} {dd:Option Addr} {k0 k1 k2 k3 k5:Option Value} {rest:List Value} {kw:List (Str × Value)} {fI:Addr},
  (∀X:String,bm.contains (.type X)=bmB.contains (.type X))->h.get? C=some (excClassObj nm q C N bs bm hdct sn sub ab col dd k0 k1 k2 k3 k5 newId) ->
  W.Looks (model prog w) h (typeLookup (.ref C) "__init__") (some (.ref fI))->(∀self,W.Looks (model prog w) h (bindSpecial (.ref fI) self) (.ref fI,[self]))->rest.length<=sizeLine ->
  codeAny (model prog w) (A.under (.builtin "type.__call__" ⟨.ref C :: rest,kw⟩)) (.call (.ref fI) ⟨.ref (h.objs.size+1) :: rest,kw⟩) (W.InitBack (h.objs.size+1) R) ⟨(h.push (W.kdv_tup rest)).push (PySem.HandSPX.excO C h.objs.size),g,d,t,os⟩ ->
  codeAny (model prog w) A (.call (.ref C) ⟨rest,kw⟩) R ⟨h,g,d,t,os⟩
def XInit (newId i:String) (bmB:List Value):Prop :=
 ∀{prog:Program} {w:World} {A:Around} {E:Value->Shared->Prop} {s:Shared} {h₀:Heap} {L:Addr} {m:Str->Option Value} {news:List (Addr × Obj)} {K:Frag} {x C u t:Addr} {dv:Option Addr} {c2:Value} {rest:List Value} {nw:Obj->List (Addr × Obj)} {Q:Value->Shared->Prop},
  Fr h₀ L s.heap m->K.In h₀->News h₀ L s.heap news->excInitIn K C bmB newId=true->(u,kxs_mw i x)∈news->UpdF x (excObj C t dv c2) news nw->rest.length<=sizeLine ->
  (∀t' h',Fr h₀ L h' m->News h₀ L h' ((t',excTup rest) :: nw (excObj C t' dv c2))->(∀p∈news,p.1 < t')->Q .none { s with heap:=h' }) ->
  wpAny (model prog w) A (call (.ref u) rest) Q E s
structure XBase (B newId i:String) (bm:List Value):Prop where
 made:XMade newId bm
 ini:XInit newId i bm
 kf:KxsFacts B i
 sf:StoreFacts B bm "object.__setattr__" "object"
structure NewAt (D newId:String) (bm:List Value):Prop where
 fb:∃i bmD,ExcBaseFacts D newId i bmD
 has:bm.contains (.type D)=true
 noA:bm.contains (.type "AttributeError")=false
 noN:bm.contains (.type "NameError")=false
section
variable {prog:Program} {w:World} {A:Around} {E:Value->Shared->Prop} {R:Result->Shared->Prop} {h:Heap} {g:Array GenState} {d:Drawn} {t:Nat} {os:OsState}
variable {nm q:Str} {C N:Addr} {bs bm bmB:List Value} {hdct:Bool} {sn:List Str} {sub:List Value} {ab:Bool} {col:Option Bool} {dd:Option Addr} {k0 k1 k2 k3 k5:Option Value} {D newId:String}
theorem na_check {M:Model} (Z:NewAt D newId bmB) (hT:∀X:String,bm.contains (.type X)=bmB.contains (.type X)) {rest:List Value} {kw:List (Str × Value)} {Q:Unit->Shared->Prop}
  (hC:h.get? C=some (excClassObj nm q C N bs bm hdct sn sub ab col dd k0 k1 k2 k3 k5 newId)) (hq:Q () ⟨h,g,d,t,os⟩):wpAny M A (checkBuiltinCall newId ⟨.ref C :: rest,kw⟩) Q E ⟨h,g,d,t,os⟩:=by
 obtain ⟨i,bmD,F⟩:=Z.fb
 have above:(Value.ref C :: bm).contains (.type D)=true:=by rw [List.contains_cons,hT,Z.has,Bool.or_true]
 have star:=F.noStar
 simp only [checkBuiltinCall,F.newKind,F.newSplit,F.newRow]
 repeat (first | (refine wpAny_isSubtype_exc hC ?_; rw [above]) | refine wpAny_loadPart_at hC ?_ | refine wpAny_madeBy_exc hC ?_ | refine wpAny_staticBase_exc hC ?_ | simp only [bne_self_eq_false,Bool.false_eq_true,if_false] | wp_step)
 exact hq
theorem na_new (Z:NewAt D newId bmB) (hT:∀X:String,bm.contains (.type X)=bmB.contains (.type X)) {rest:List Value} {kw:List (Str × Value)}
  (hC:h.get? C=some (excClassObj nm q C N bs bm hdct sn sub ab col dd k0 k1 k2 k3 k5 newId)) (hrest:rest.length<=sizeLine)
  (hq:R (.ok (.ret (.ref (h.objs.size+1)))) ⟨(h.push (W.kdv_tup rest)).push (PySem.HandSPX.excO C h.objs.size),g,d,t,os⟩) :
  codeAny (model prog w) A (.builtin newId ⟨.ref C :: rest,kw⟩) R ⟨h,g,d,t,os⟩:=by
 obtain ⟨i,bmD,F⟩:=Z.fb
 have a1:(Value.ref C :: bm).contains (.type D)=true:=by rw [List.contains_cons,hT,Z.has,Bool.or_true]
 have a2:(Value.ref C :: bm).contains (.type "AttributeError")=false:=by rw [List.contains_cons,hT,Z.noA]; rfl
 have a3:(Value.ref C :: bm).contains (.type "NameError")=false:=by rw [List.contains_cons,hT,Z.noN]; rfl
 have dot:=F.ends
 refine codeAny_builtinAt F.entry ?_
 unfold Builtin.«BaseException.__new__»
 refine PySem.wpAt_bind ?_
 show PySem.wpAt _ _ _ (stack >>= _) _ _ _
 refine PySem.wpAt_bind (PySem.wpAt_stack fun _ _=>PySem.wpAt_of_wpAny ?_)
 wp_walk
 refine PySem.wpAt_of_wpAny ?_
 rw [F.owner]
 repeat (first | with_reducible refine wpAny_madeHere_exc F.canon hC ?_ | (with_reducible refine wpAny_isSubtype_exc hC ?_; first | rw [a1] | rw [a2] | rw [a3]) | with_reducible refine wpAny_loadPart_at hC ?_ | wp_step)
 show R _ _
 rw [Heap.size_push]
 exact hq
theorem na_tree (Z:NewAt D newId bmB) (hT:∀X:String,bm.contains (.type X)=bmB.contains (.type X)) {rest:List Value} {kw:List (Str × Value)} {fI:Addr} {Q:Fin->Shared->Prop}
  (hC:h.get? C=some (excClassObj nm q C N bs bm hdct sn sub ab col dd k0 k1 k2 k3 k5 newId))
  (hi:W.Looks (model prog w) h (typeLookup (.ref C) "__init__") (some (.ref fI))) (hb:∀self,W.Looks (model prog w) h (bindSpecial (.ref fI) self) (.ref fI,[self])) (hrest:rest.length<=sizeLine)
  (hq:codeAny (model prog w) A (.call (.ref fI) ⟨.ref (h.objs.size+1) :: rest,kw⟩) (fun r s'=>match r with | .ok (.ret v)=>v=.none/\Q (.done (.ret (.ref (h.objs.size+1)))) s' | .ok _=>False | .error e=>E e s')
   ⟨(h.push (W.kdv_tup rest)).push (PySem.HandSPX.excO C h.objs.size),g,d,t,os⟩) :
  wpAny (model prog w) A (Builtin.«type.__call__» ⟨.ref C :: rest,kw⟩) Q E ⟨h,g,d,t,os⟩:=by
 have Fq:newId.startsWith "lifetime." = false:=by
  obtain ⟨i,bmD,F⟩:=Z.fb
  exact F.quiet
 repeat (first | with_reducible refine wpAny_madeBy_exc hC ?_ | with_reducible refine wpAny_loadPart_at hC ?_ | wp_step)
 refine codeAny_call_builtin_code (Code.quiet_builtin _ Fq) (na_check Z hT hC (na_new Z hT hC hrest ?_))
 show wpAny _ _ _ _ _ _
 have up:∀b o,h.get? b=some o->((h.push (W.kdv_tup rest)).push (PySem.HandSPX.excO C h.objs.size)).get? b=some o:=fun b o e=>Heap.get?_push_of_some _ (Heap.get?_push_of_some _ e)
 have hC':=up _ _ hC
 have got:((h.push (W.kdv_tup rest)).push (PySem.HandSPX.excO C h.objs.size)).get? (h.objs.size+1)=some (PySem.HandSPX.excO C h.objs.size):=by heap_get
 have own:(Value.ref C :: bm).contains (.ref C)=true:=by simp
 unfold isInstance
 repeat (first | with_reducible refine wpAny_loadPart_at got ?_ | (with_reducible refine wpAny_isSubtype_exc hC' ?_; rw [own]) | wp_step)
 show wpAny _ _ (typeLookup (.ref C) _) _ _ _
 refine (hi.keeps up).at (wpAny_holding (wpAny_bind (((hb _).keeps up).at (wpAny_bind (wpAny_call (codeAny_mono hq fun r s' z=>?_))))))
 rcases r with e | (v | _ | _ | _) <;> first | exact z | exact z.elim | skip
 obtain ⟨rfl,z⟩:=z
 first | exact wpAny_pure (wpAny_pure z) | (wp_walk; exact z)
end
theorem NewAt.made {D newId:String} {bmB:List Value} (Z:NewAt D newId bmB):XMade newId bmB:=by
 intro prog w A R h g d t os nm q C N bs bm hdct sn sub ab col dd k0 k1 k2 k3 k5 rest kw fI hT hC hi hb hr hq
 have f1:=tc_lookup
 have f2:=tc_bind (.ref C)
 have ty:(⟨h,g,d,t,os⟩:Shared).TypeIs (.ref C) "type" := ⟨_,hC,rfl⟩
 refine codeAny_of_tree ?_
 show wpAny _ _ (callAny (.ref C) _) _ _ _
 repeat (any_goals (first | assumption | with_reducible refine wpAny_loadPart_at hC ?_ | wp_step))
 refine ⟨rfl,codeAny_call_builtin_at (Code.quiet_builtin _ (by decide +kernel)) entry_typeCall (wpAny_check_type_call_sub hC (na_tree Z hT hC hi hb hr (codeAny_mono hq fun r s' z=>?_)))⟩
 rcases r with e | (v | _ | _ | _) <;> exact z
theorem XBase.of {B newId i:String} {bm:List Value} (F:ExcBaseFacts B newId i bm) (kf:KxsFacts B i) (sf:StoreFacts B bm "object.__setattr__" "object") (hA:bm.contains (.type "AttributeError")=false) (hN:bm.contains (.type "NameError")=false):XBase B newId i bm where
 made:=NewAt.made ⟨⟨_,_,F⟩,F.hasB,hA,hN⟩
 ini:=fun F1 X N q hm U hz h=>kxs_call F1 X N F q hm U hz h
 kf:=kf
 sf:=sf
end VL
namespace VL
open PySem PySem.W PySem.Calls PyProof.Rows PyProof.V PySem.Spec
structure XF (K:Frag) (file:Str) (C:Addr) (f:Str) (B newId i:String) (bm:List Value) where
 fI:Addr
 cc:Addr
 cda:Addr
 nm:Str
 qual:Str
 p:Str
 params:Arguments
 scope:Scope
 text:Str
 p0:Pos
 p1:Pos
 p2:Pos
 p3:Pos
 p4:Pos
 p5:Pos
 p6:Pos
 p7:Pos
 p8:Pos
 p9:Pos
 j:Nat
 dV:Value
 kV:Value
 doc:Value
 pm:Value
 ct:Value
 an:Option Addr
 oc:Value
 od:Option Addr
 osl:Array (Option Value)
 hI:findIn K (.ref C) "__init__" = some (some (.ref fI))
 hfn:isFn K (.ref fI)=true
 lk:K.lookup fI=some ⟨oc,od,.func (ksFn nm qual params [.Expr (.Call (.Attribute (.Call (.Name "super" p0) [] [] p1) "__init__" p2) [.Constant (.str text) j p3] [] p4) p5,.Assign [.Attribute (.Name "self" p6) f p7] (.Name p p8) p9] scope dV kV doc pm an (.ref cda) ct cc),osl⟩
 bind:∀a u:Value,bindArgs (ksFn nm qual params [.Expr (.Call (.Attribute (.Call (.Name "super" p0) [] [] p1) "__init__" p2) [.Constant (.str text) j p3] [] p4) p5,.Assign [.Attribute (.Name "self" p6) f p7] (.Name p p8) p9] scope dV kV doc pm an (.ref cda) ct cc) ⟨[a,u],[]⟩=pure ([(("self" : Str),a),(p,u)]:List (Str × Value))
 bindK:∀a u:Value,bindArgs (ksFn nm qual params [.Expr (.Call (.Attribute (.Call (.Name "super" p0) [] [] p1) "__init__" p2) [.Constant (.str text) j p3] [] p4) p5,.Assign [.Attribute (.Name "self" p6) f p7] (.Name p p8) p9] scope dV kV doc pm an (.ref cda) ct cc) ⟨[a],[(p,u)]⟩=pure ([(("self" : Str),a),(p,u)]:List (Str × Value))
 arg1:∃ar,(params.posonlyargs++params.args).head?=some ar/\ar.arg = "self"
 kind:scope.kind=.function
 co:scope.isCoroutine=false
 gen:scope.isGenerator=false
 nocell:∀x∈scope.names,x.2≠.cell
 ks:scope.names.lookup ("super" : Str)=some .globalImplicit
 kc:scope.names.lookup ("__class__" : Str)=some .free
 kse:scope.names.lookup ("self" : Str)=some .local
 kp:scope.names.lookup p=some .local
 pne:p ≠ "self"
 pdb:(p == ("__debug__" : Str))=false
 pl:(p2.endLine == p4.line)=true
 hcd:codeIn K (.ref cda) qual=true
 hcode:∃(ccl:Value) (cdd:Option Addr) (ccs:Array (Option Value)) (vs:Array Value) (tf:Tok) (file':Str),K.lookup cda=some ⟨ccl,cdd,.fields vs,ccs⟩/\vs[2]?=some (.str file' tf)/\(file == file')=true
 hcell:∃(cl:Value) (cld:Option Addr) (csl:Array (Option Value)),K.lookup cc=some ⟨cl,cld,.cell (some (.ref C)),csl⟩
 hcls:∃cd,clsIn K C=some cd
 hsub:mroIn K C (.ref C)=some true
 hin:excInitIn K C bm newId=true
 hsup:ks_superIn K C C "__init__" = some (some (.builtin i))
 hB:subIn K (.ref C) (.type B)=some true
 hop:nsIn K cStatics "thirdparty.any" = some none
 hs:findIn K (.ref C) "__setattr__" = some (some (.builtin "object.__setattr__"))
 hov:excOver K C bm=true
 htk:takerIn K C f=some none
 hhd:hasDictIn K C=true
section
end
end VL
namespace VL
open PySem PySem.Spec PyProof.Rows L2
structure XT (K:PySem.W.Frag) (cl:String->Option Addr) (mg:Str->Option Value) (file:Str) (c:String) (x f:Str) where
 C:Addr
 hC:cl c=some C
 mgx:mg x=some (.ref C)
 kp:PySem.W.keepIn K (.ref C)=true
 exC:PySem.W.subIn K (.ref C) (.type "BaseException")=some true
 tyC:PySem.W.typeIn K (.ref C)=some (.type "type")
 B:String
 newId:String
 i:String
 bm:List Value
 xb:XBase B newId i bm
 xf:XF K file C f B newId i bm
section
variable {X:Cx} {g:G} {E:XD} {c:String}
def PT (X:Cx) (g:G) (E:XD):Prop := ∃E0:XK,Takes X (fun cls d _ H=>E0 cls d H)/\∀c fs m S H,E c fs m S H->XW g E0 c fs m S H
end
end VL
namespace VL
open PySem PySem.Spec PyProof.Rows L2
abbrev Cl:Type:=Value × Option Nat × (Addr->Value->Option Addr->TS)
inductive ClOk (X:Cx):List ExceptHandler->List Cl->Prop
 | nil:ClOk X [] []
 | bare {x:Str} {c:Value} {ts:Addr->Value->Option Addr->TS} {b:Stmt} {bs:List Stmt} {p p':Pos} {hs:List ExceptHandler} {l:List Cl} (hc:Names X x c)
   (k:∀(a:Addr) (oe:Obj) (cls:Value) (d:Option Addr) (pn:List (Addr × Obj)),Zc cls d oe->(∃vs,oe.data=.fields vs)->PSs (X.suite a ((a,oe) :: pn)) (b :: bs) (ts a cls d)) (r:ClOk X hs l) :
   ClOk X (.ExceptHandler (some (.Name x p)) none (b :: bs) p' :: hs) ((c,none,ts) :: l)
 | as {x n:Str} {c:Value} {i:Nat} {ts:Addr->Value->Option Addr->TS} {b:Stmt} {bs:List Stmt} {p p':Pos} {hs:List ExceptHandler} {l:List Cl} (hc:Names X x c) (hi:X.N[i]?=some n) (hl:X.env.kindOf n=some .local)
   (k:∀(a:Addr) (oe:Obj) (cls:Value) (d:Option Addr) (pn:List (Addr × Obj)),Zc cls d oe->(∃vs,oe.data=.fields vs)->PSs (X.suite a ((a,oe) :: pn)) (b :: bs) (ts a cls d)) (r:ClOk X hs l) :
   ClOk X (.ExceptHandler (some (.Name x p)) (some n) (b :: bs) p' :: hs) ((c,some i,ts) :: l)
section
end
end VL
namespace VL
open PySem PySem.Spec PyProof.Rows L2
abbrev HF:=List (Str × D)->Sto->R D
structure HC (g:G) (o:Option Nat) (a:Addr) (cls:Value) (d:Option Addr) (C:Addr) (σ : St) (fs:List (Str × D)) (m:Mp) (H:Hp):Prop where
 cl:cls=.ref C
 at_:∀i,o=some i->σ[i]?=some (some (.ref a))
 ex:∃dd fvs,d=some dd/\H dd=some (.xd fvs)/\Un m dd/\fvs.map (·.1)=fs.map (·.1)/\RVs g m H (fs.map (·.2)) (fvs.map (·.2))
theorem HC.ext {g:G} {o:Option Nat} {a:Addr} {cls:Value} {d:Option Addr} {C:Addr} {σ : St} {fs:List (Str × D)} {m m':Mp} {H H':Hp} (h:HC g o a cls d C σ fs m H) (e:Ext g m H m' H'):HC g o a cls d C σ fs m' H':=by
 obtain ⟨dd,fvs,h1,h2,h3,h4,h5⟩:=h.ex
 obtain ⟨u,s⟩:=e.own dd _ h2 h3
 exact ⟨h.cl,h.at_,dd,fvs,h1,s.of fun z=>z,u,h4,h5.ext e⟩
def tR (g:G) (o:Option Nat) (C:Addr) (e:HF) (a:Addr) (cls:Value) (d:Option Addr):TS:=fun Z σ H=>∃fs m S,HC g o a cls d C σ fs m H/\Rel g m S H/\Aft g NoX m H (e fs S) fun x m' _ H'=>∀v,RV g m' H' x v->Z.rt v H'
structure Cq where
 cv:Value
 o:Option Nat
 C:Addr
 m:String
 e:HF
def Cq.cl (g:G) (q:Cq):Cl:=(q.cv,q.o,tR g q.o q.C q.e)
section
end
end VL
namespace VL
open PySem PySem.Spec PyProof.Rows L2
def hC (d:D):HF:=fun _ S=>.ok d S
abbrev HFs:=List (Str × D)->Sto->R (List D)
structure XiC (K:PySem.W.Frag) (C:Addr):Prop where
 cl:(PySem.W.clsIn K C).isSome=true
 xf:XfC K C
 ha:PySem.W.findIn K (.ref C) "__class__" = some (some (.builtin "object.__class__"))
 hn:PySem.W.specialIn K (.builtin "object.__class__") "__get__" = some (some (.builtin "getset_descriptor.__get__"))
 ht:PySem.W.takesIn K (.builtin "object.__class__")=some true
 hm:PySem.W.mroIn K C (.type "object")=some true
section
end
end VL
namespace VL
open PySem PySem.Spec PyProof.Rows L2
theorem fileB_ok {vs:Array Value} {file:Str} (h:fileB vs file=true):∃t,vs[2]?=some (.str file t):=by
 unfold fileB at h
 split at h
 ·rename_i a b f' t r e
  refine ⟨t,?_⟩
  rw [← Array.getElem?_toList,e,of_decide_eq_true h]
  rfl
 ·cases h
theorem xf_of {K:PySem.W.Frag} {file:Str} {C:Addr} {f p:Str} {B newId i:String} {bm:List Value}
  (hb:∀(nm qual:Str) (q1 q2:Pos) (body:List Stmt) (scope:Scope) (kV doc pm ct:Value) (an:Option Addr) (cda cc:Addr) (a u:Value),bindArgs (PySem.W.ksFn nm qual ⟨[],[⟨"self",none,q1⟩,⟨p,none,q2⟩],none,[],[],none,[]⟩ body scope .none kV doc pm an (.ref cda) ct cc) ⟨[a,u],[]⟩=pure ([(("self" : Str),a),(p,u)]:List (Str × Value)))
  (hbk:∀(nm qual:Str) (q1 q2:Pos) (body:List Stmt) (scope:Scope) (kV doc pm ct:Value) (an:Option Addr) (cda cc:Addr) (a u:Value),bindArgs (PySem.W.ksFn nm qual ⟨[],[⟨"self",none,q1⟩,⟨p,none,q2⟩],none,[],[],none,[]⟩ body scope .none kV doc pm an (.ref cda) ct cc) ⟨[a],[(p,u)]⟩=pure ([(("self" : Str),a),(p,u)]:List (Str × Value)))
  (hp:p ≠ "self") (hpd:(p == ("__debug__" : Str))=false) (h:xfB K file C f p B newId i bm=true):∃T:XF K file C f B newId i bm,T.p=p:=by
 unfold xfB at h
 split at h
 ·rename_i fI hI
  obtain ⟨h1,h2⟩:=He.ba h
  obtain ⟨h3,h4⟩:=He.ba h1
  obtain ⟨h5,h6⟩:=He.ba h2
  obtain ⟨h7,h8⟩:=He.ba h5
  obtain ⟨h9,h10⟩:=He.ba h7
  obtain ⟨h11,h12⟩:=He.ba h9
  obtain ⟨h13,h14⟩:=He.ba h10
  obtain ⟨h15,h16⟩:=He.ba h8
  obtain ⟨h17,h18⟩:=He.ba h15
  obtain ⟨h19,h20⟩:=He.ba h16
  obtain ⟨h21,h22⟩:=He.ba h6
  split at h4
  ·rename_i oc od fd osl lk
   obtain ⟨nm,qual,params,fbody,scope,gl,clo,dV,kV,doc,pm,an,code,ct,bl⟩:=fd
   unfold xfnB at h4
   simp only at h4
   split at h4
   ·rename_i s0 p0 p1 a1 p2 t j p3 p4 p5 s6 p6 f' p7 q8 p8 p9 z1 y1 z2 y2 cda z3 cc
    obtain ⟨a1',a2⟩:=He.ba h4
    obtain ⟨b1,b2⟩:=He.ba a1'
    obtain ⟨b3,b4⟩:=He.ba b1
    obtain ⟨b5,b6⟩:=He.ba b3
    obtain ⟨b7,b8⟩:=He.ba b5
    obtain ⟨b9,b10⟩:=He.ba b6
    obtain ⟨b11,b12⟩:=He.ba b4
    obtain ⟨b13,b14⟩:=He.ba b11
    obtain ⟨b15,b16⟩:=He.ba b12
    obtain ⟨b17,b18⟩:=He.ba b2
    obtain ⟨b19,b20⟩:=He.ba b17
    obtain ⟨b21,b22⟩:=He.ba b18
    obtain ⟨c1,c2⟩:=He.ba a2
    obtain ⟨c3,c4⟩:=He.ba c1
    obtain ⟨c5,c6⟩:=He.ba c3
    obtain ⟨c7,c8⟩:=He.ba c5
    obtain ⟨c9,c10⟩:=He.ba c6
    obtain ⟨c11,c12⟩:=He.ba c4
    obtain ⟨c13,c14⟩:=He.ba c11
    obtain ⟨c15,c16⟩:=He.ba c12
    obtain ⟨c17,c18⟩:=He.ba c2
    obtain ⟨c19,c20⟩:=He.ba c17
    have e0:=of_decide_eq_true b7
    have e1:=of_decide_eq_true b8
    have e2:=of_decide_eq_true b9
    have e3:=of_decide_eq_true b10
    have e4:=of_decide_eq_true b13
    have e5:=of_decide_eq_true b14
    have e6:=of_decide_eq_true b15
    have e7:=of_decide_eq_true b16
    have e8:dV=.none:=beq_iff_eq.mp b19
    have e9:=of_decide_eq_true b20
    have e10:=of_decide_eq_true b21
    subst e0 e1 e2 e3 e4 e5 e6 e7 e8
    have e9':gl=mainGlobals:=e9
    have e10':bl=builtinsNs:=e10
    subst e9' e10'
    obtain ⟨cd,hcd⟩:=Option.isSome_iff_exists.mp h11
    split at c20
    ·rename_i ccl cdd vs ccs lc
     obtain ⟨tf,hv⟩:=fileB_ok c20
     split at c18
     ·rename_i cl cld C' csl lk2
      have e11:=of_decide_eq_true c18
      subst e11
      exact ⟨{ fI := fI, cc := cc, cda := cda, nm := nm, qual := qual, p := z2, params := _, scope := scope, text := t, p0 := p0, p1 := p1, p2 := p2, p3 := p3, p4 := p4, p5 := p5, p6 := p6, p7 := p7, p8 := p8, p9 := p9, j := j, dV := .none, kV := kV, doc := doc, pm := pm, ct := ct, an := an, oc := oc, od := od, osl := osl
               hI:=hI,hfn:=h3,lk:=lk,bind:=fun a u=>hb _ _ _ _ _ _ _ _ _ _ _ _ _ a u,bindK:=fun a u=>hbk _ _ _ _ _ _ _ _ _ _ _ _ _ a u,arg1:=⟨_,rfl,rfl⟩,kind:=of_decide_eq_true c7,co:=by simpa using c8,gen:=by simpa using c9
               nocell:=fun x hx=>by
                have:=List.all_eq_true.mp c10 x hx
                simpa using this
               ks:=of_decide_eq_true c13,kc:=of_decide_eq_true c14,kse:=of_decide_eq_true c15,kp:=of_decide_eq_true c16,pne:=hp,pdb:=hpd,pl:=b22,hcd:=c19,hcode:=⟨ccl,cdd,ccs,vs,tf,file,lc,hv,by simp⟩,hcell:=⟨cl,cld,csl,lk2⟩
               hcls:=⟨cd,hcd⟩,hsub:=of_decide_eq_true h12,hin:=h13,hsup:=He.eqO_ok h14,hB:=of_decide_eq_true h17,hop:=He.eqO_ok h18,hs:=He.eqO_ok h19,hov:=h20,htk:=He.eqO_ok h21,hhd:=h22 },rfl⟩
     ·cases c18
    ·cases c20
   ·cases h4
  ·cases h4
 ·cases h
theorem XT.of {K:PySem.W.Frag} {h:Heap} {mg:Str->Option Value} {cl:String->Option Addr} {file:Str} {c:String} {x f p:Str} {B newId i:String} {bm:List Value} (X:K.In h) (G:h.Ns mainGlobals mg) (hc:cl c=some (He.ga K x)) (xb:XBase B newId i bm)
  (hb:∀(nm qual:Str) (q1 q2:Pos) (body:List Stmt) (scope:Scope) (kV doc pm ct:Value) (an:Option Addr) (cda cc:Addr) (a u:Value),bindArgs (PySem.W.ksFn nm qual ⟨[],[⟨"self",none,q1⟩,⟨p,none,q2⟩],none,[],[],none,[]⟩ body scope .none kV doc pm an (.ref cda) ct cc) ⟨[a,u],[]⟩=pure ([(("self" : Str),a),(p,u)]:List (Str × Value)))
  (hbk:∀(nm qual:Str) (q1 q2:Pos) (body:List Stmt) (scope:Scope) (kV doc pm ct:Value) (an:Option Addr) (cda cc:Addr) (a u:Value),bindArgs (PySem.W.ksFn nm qual ⟨[],[⟨"self",none,q1⟩,⟨p,none,q2⟩],none,[],[],none,[]⟩ body scope .none kV doc pm an (.ref cda) ct cc) ⟨[a],[(p,u)]⟩=pure ([(("self" : Str),a),(p,u)]:List (Str × Value)))
  (hp:p ≠ "self") (hpd:(p == ("__debug__" : Str))=false) (b:xtB K file x f p B newId i bm=true):∃T:XT K cl mg file c x f,T.C=He.ga K x/\T.xf.p=p:=by
 obtain ⟨b1,b2⟩:=He.ba b
 obtain ⟨b3,b4⟩:=He.ba b2
 obtain ⟨b5,b6⟩:=He.ba b3
 obtain ⟨b7,b8⟩:=He.ba b4
 obtain ⟨T,hT⟩:=xf_of hb hbk hp hpd b8
 exact ⟨⟨He.ga K x,hc,He.glo_ok X G b1,b5,of_decide_eq_true b6,of_decide_eq_true b7,B,newId,i,bm,xb,T⟩,rfl,hT⟩
structure XH (K:PySem.W.Frag) (C:Addr) (f:Str):Prop where
 xi:XiC K C
 na:PySem.W.findIn K (.ref C) f=some none
theorem XH.of {K:PySem.W.Frag} {C:Addr} {x f:Str} (hC:C=He.ga K x) (b:xhB K x f=true):XH K C f:=by
 subst hC
 obtain ⟨b1,b2⟩:=He.ba b
 obtain ⟨b3,b4⟩:=He.ba b1
 obtain ⟨b5,b6⟩:=He.ba b3
 obtain ⟨b7,b8⟩:=He.ba b4
 obtain ⟨b9,b10⟩:=He.ba b2
 obtain ⟨b11,b12⟩:=He.ba b9
 exact ⟨⟨b6,xfB_ok b5,He.eqO_ok b7,He.eqO_ok b8,of_decide_eq_true b11,of_decide_eq_true b12⟩,He.eqO_ok b10⟩
structure KX (K:PySem.W.Frag) (mg:Str->Option Value) (C:Addr) (x2:Str) (b:Bool) where
 A:Addr
 mgx:mg x2=some (.ref A)
 k:PySem.W.kitOne K (.ref C) (.ref A)=some b
theorem KX.of {K:PySem.W.Frag} {h:Heap} {mg:Str->Option Value} {C:Addr} {x x2:Str} {b:Bool} (X:K.In h) (G:h.Ns mainGlobals mg) (hC:C=He.ga K x) (e:kxB K x x2 b=true):Nonempty (KX K mg C x2 b):=by
 subst hC
 obtain ⟨b1,b2⟩:=He.ba e
 exact ⟨⟨_,He.glo_ok X G b1,of_decide_eq_true b2⟩⟩
structure KY (K:PySem.W.Frag) (mg:Str->Option Value) (cl:String->Option Addr) (tbl:List (String × Bool)) (x2:Str) where
 A:Addr
 mgx:mg x2=some (.ref A)
 k:∀c b,tbl.lookup c=some b->∀C,cl c=some C->PySem.W.kitOne K (.ref C) (.ref A)=some b
theorem lookup_mem {α β : Type} [BEq α] [LawfulBEq α] {l:List (α × β)} {c:α} {b:β} (h:l.lookup c=some b):c∈l.map (·.1):=by
 induction l with
 | nil=>cases h
 | cons p l ih =>
  obtain ⟨k,y⟩:=p
  by_cases e:c=k
  ·rw [e]
   exact List.mem_cons_self
  ·have:(c == k)=false:=by simpa using e
   simp only [List.lookup,this] at h
   exact List.mem_cons_of_mem _ (ih h)
theorem kw_of {K:PySem.W.Frag} {cl:String->Option Addr} {xq:List (String × Str)} {tbl:List (String × Bool)} {v:Value} (hcl:∀q∈xq,cl q.1=some (He.ga K q.2)) (ht:tbl.map (·.1)=xq.map (·.1)) (e:kwB K xq tbl v=true) :
  ∀c b,tbl.lookup c=some b->∀C,cl c=some C->PySem.W.kitOne K (.ref C) v=some b:=by
 intro c b hb C hC
 have m:=lookup_mem hb
 rw [ht] at m
 obtain ⟨q,hq,rfl⟩:=List.mem_map.mp m
 rw [hcl q hq] at hC
 cases hC
 rw [← hb]
 exact of_decide_eq_true (List.all_eq_true.mp e q hq)
theorem KY.of {K:PySem.W.Frag} {h:Heap} {mg:Str->Option Value} {cl:String->Option Addr} {xq:List (String × Str)} {tbl:List (String × Bool)} {x2:Str} (X:K.In h) (G:h.Ns mainGlobals mg) (hcl:∀q∈xq,cl q.1=some (He.ga K q.2)) (ht:tbl.map (·.1)=xq.map (·.1)) (e:kvB K xq tbl x2=true):Nonempty (KY K mg cl tbl x2):=by
 obtain ⟨b1,b2⟩:=He.ba e
 exact ⟨⟨_,He.glo_ok X G b1,kw_of hcl ht b2⟩⟩
end VL
namespace VL
open PySem PySem.Spec PyProof.Rows L2 PySem.Calls
section
open PySem.SeqAt PySem.MeetsSeq PySem.MeetsSeq2 PySem.MeetsSeq3 PySem.SeqRoads2
open PySem.AutoSeq1 (wpAny_loadPart')
variable {prog:Program} {w:World} {A:Around} {E:Value->Shared->Prop} {s:Shared}
theorem int_declines_dict (b:Int) (u:Tok) (l:Addr) (c:Value) (es:Array DictEntry) (n:Nat) (dd:Option Addr) (sl:Array (Option Value)) :
  Meets (Builtin.«int.__eq__» ⟨[.int b u,.ref l],[]⟩) (fun _ R s=>s.heap.get? l=some { cls:=c,dict:=dd,data := .dict es n,slots:=sl }/\R (.ok (.ret .notImplemented)) s) :=
 .of_wp fun prog w A R s h=>by obtain ⟨hp,g,d,tk,os⟩:=s; obtain ⟨hl,h⟩:=h; wp_walk using wpAny_loadPart' hl,wpAny_load hl; exact ⟨_,rfl,h⟩
theorem bool_declines_dict (b:Bool) (l:Addr) (c:Value) (es:Array DictEntry) (n:Nat) (dd:Option Addr) (sl:Array (Option Value)) :
  Meets (Builtin.«int.__eq__» ⟨[.bool b,.ref l],[]⟩) (fun _ R s=>s.heap.get? l=some { cls:=c,dict:=dd,data := .dict es n,slots:=sl }/\R (.ok (.ret .notImplemented)) s) :=
 .of_wp fun prog w A R s h=>by obtain ⟨hp,g,d,tk,os⟩:=s; obtain ⟨hl,h⟩:=h; wp_walk using wpAny_loadPart' hl,wpAny_load hl; exact ⟨_,rfl,h⟩
theorem str_declines_dict (b:Str) (u:Tok) (l:Addr) (c:Value) (es:Array DictEntry) (n:Nat) (dd:Option Addr) (sl:Array (Option Value)) :
  Meets (Builtin.«str.__eq__» ⟨[.str b u,.ref l],[]⟩) (fun _ R s=>s.heap.get? l=some { cls:=c,dict:=dd,data := .dict es n,slots:=sl }/\R (.ok (.ret .notImplemented)) s) :=
 .of_wp fun prog w A R s h=>by obtain ⟨hp,g,d,tk,os⟩:=s; obtain ⟨hl,h⟩:=h; wp_walk using wpAny_loadPart' hl,wpAny_load hl; exact ⟨_,rfl,h⟩
theorem list_declines_dict (l b:Addr) (items:Array Value) (es:Array DictEntry) (n n2:Nat) (dd dd2:Option Addr) (sl sl2:Array (Option Value)) :
  Meets (Builtin.«list.__eq__» ⟨[.ref l,.ref b],[]⟩) (fun _ R s=>s.heap.get? l=some { cls := .type "list",dict:=dd,data := .seq items n,slots:=sl }/\s.heap.get? b=some { cls := .type "dict",dict:=dd2,data := .dict es n2,slots:=sl2 }/\R (.ok (.ret .notImplemented)) s) :=
 .of_wp fun prog w A R s h=>by obtain ⟨hp,g,d,tk,os⟩:=s; obtain ⟨hl,hb,h⟩:=h; have f1:=PySem.F.sub_dict_list; wp_walk using wpAny_loadPart' hl,wpAny_loadPart' hb; exact ⟨_,rfl,h⟩
theorem tuple_declines_dict (l b:Addr) (items:Array Value) (es:Array DictEntry) (n n2:Nat) (dd dd2:Option Addr) (sl sl2:Array (Option Value)) :
  Meets (Builtin.«tuple.__eq__» ⟨[.ref l,.ref b],[]⟩) (fun _ R s=>s.heap.get? l=some { cls := .type "tuple",dict:=dd,data := .seq items n,slots:=sl }/\s.heap.get? b=some { cls := .type "dict",dict:=dd2,data := .dict es n2,slots:=sl2 }/\R (.ok (.ret .notImplemented)) s) :=
 .of_wp fun prog w A R s h=>by obtain ⟨hp,g,d,tk,os⟩:=s; obtain ⟨hl,hb,h⟩:=h; have f1:=PySem.F.sub_dict_tuple; wp_walk using wpAny_loadPart' hl,wpAny_loadPart' hb; exact ⟨_,rfl,h⟩
theorem zqw {a:Addr} {v:Value} {T:String} {Q:Value->Shared->Prop} (ha:s.TypeIs (.ref a) "dict") (hv:s.TypeIs v T) (hs:isSubtype (.type T) (.type "dict")=pure false) (slot:Slot "dict" (cmpInfo .Eq).2.1 "dict.__eq__" := PySem.F.slot_dict_eq)
  (h:Q .notImplemented s):wpAny (model prog w) A (call (.builtin "dict.__eq__") [.ref a,v]) Q E s:=by
 refine wpAny_call_entry PySem.F.slot_dict_eq ha PySem.F.entry_dict_eq ?_ (PySem.F.args_dict_eq_2 _ _)
 show wpAny _ _ (Builtin.Dict.dictSlotArgs "__eq__" ⟨[.ref a,v],[]⟩ >>= _) _ _ s
 refine wpAny_bind ?_
 unfold Builtin.Dict.dictSlotArgs
 refine wpAny_bind (wpAny_notOrdered_dict ha ?_)
 show wpAny _ _ (pure (Value.ref a,v)) _ _ s
 refine wpAny_pure ?_
 refine wpAny_bind (wpAny_isInstance (T:=T) hv hs ?_)
 simp only [Bool.not_false,if_true]
 refine wpAny_bind (wpAny_rule ?_)
 exact wpAny_pure ⟨_,rfl,h⟩
def DictAt (s:Shared) (a:Addr):Prop := ∃(dd:Option Addr) (es:Array DictEntry) (n:Nat) (sl:Array (Option Value)),s.heap.get? a=some { cls := .type "dict",dict:=dd,data := .dict es n,slots:=sl }
theorem DictAt.ty {a:Addr} (h:DictAt s a):s.TypeIs (.ref a) "dict" := by
 obtain ⟨dd,es,n,sl,ho⟩:=h
 exact ⟨_,ho,rfl⟩
noncomputable def eItem (s:Shared) (p:PyData) (y:Value):Bool:=open Classical in if ∃d as,Reads s.heap y d as/\d.canLay0=true then PyData.eqv (readOf s.heap y) p else false
end
section
variable {X:Cx} {g:G} {pins:List (Addr × Obj)} {σ : St} {H:Hp} {s:Shared} {m:Mp} {S:Sto}
theorem dictAt_of (I:Inv X pins σ H s) (hK:X.K=g.K) (r:Rel g m S H) {d:D} {v:V} {u:Value} (rv:RV g m H d v) (ru:RelV v u) (e:(zjq d S).isSome):∃a,u=.ref a/\DictAt s a:=by
 obtain ⟨p,e⟩:=Option.isSome_iff_exists.mp e
 obtain ⟨a,kvs,rfl,hr,k1,k2⟩:=zk5 r rv e
 obtain rfl:u=Value.ref a:=ru
 obtain ⟨_,ya,va,ra,da⟩:=dk_rd I.hok hr
 obtain ⟨⟨cls,dd,data,sl⟩,es,n,ho,hx,hd,_⟩:=da
 refine ⟨a,rfl,dd,es,n,sl,?_⟩
 simp only at hd
 subst hd
 have:cls=.type "dict" := hx.1
 subst this
 exact ho
end
end VL
namespace VL
open PySem PySem.Spec PyProof.Rows L2
section
end
end VL
namespace VL
open PySem PySem.Spec PyProof.Rows L2
def JT (T:List Addr) (m:Mp) (_:Hp):Prop := ∀(i:Nat) (p:Addr),T[i]?=some p->∃b,m.l[i]?=some (p,b)
def G.up (g:G) (T:List Addr):G:=⟨g.K,g.ka,g.cl,JT T,fun e h i p hp=>let ⟨_,hb⟩:=h i p hp; e.get hb,g.w⟩
section
variable {g:G} {T:List Addr} {m m':Mp} {H H':Hp} {S:Sto}
mutual
theorem rv_up:∀{d:D} {v:V},RV (g.up T) m H d v↔RV g m H d v
 | .non,v=>by unfold RV; rfl
 | .bl b,v=>by unfold RV; rfl
 | .int i,v=>by unfold RV; rfl
 | .str x,v=>by unfold RV; rfl
 | .ty n,v=>by unfold RV; rfl
 | .scr ns,v=>by unfold RV; rfl
 | .ref n,v=>by unfold RV; rfl
 | .kref s,v=>by unfold RV; rfl
 | .tup ds,v=>by
  unfold RV
  exact exists_congr fun a=>exists_congr fun vs=>and_congr Iff.rfl (and_congr Iff.rfl rvs_up)
 | .ctp ds,v=>by
  unfold RV
  exact exists_congr fun a=>exists_congr fun vs=>and_congr Iff.rfl (and_congr Iff.rfl rvs_up)
 | .lst ds,v=>by
  unfold RV
  exact exists_congr fun a=>exists_congr fun vs=>and_congr Iff.rfl (and_congr Iff.rfl (and_congr Iff.rfl rvs_up))
 | .dic ks ds,v=>by
  unfold RV
  exact exists_congr fun a=>exists_congr fun vs=>and_congr Iff.rfl (and_congr Iff.rfl (and_congr Iff.rfl (and_congr Iff.rfl rvs_up)))
 | .dct ks ds,v=>by
  unfold RV
  exact exists_congr fun a=>exists_congr fun vs=>and_congr Iff.rfl (and_congr Iff.rfl (and_congr Iff.rfl (and_congr Iff.rfl rvs_up)))
 | .obj c ns ds,v=>by
  unfold RV
  exact exists_congr fun a=>exists_congr fun C=>exists_congr fun dx=>exists_congr fun fs=>and_congr Iff.rfl (and_congr Iff.rfl (and_congr Iff.rfl (and_congr Iff.rfl (and_congr Iff.rfl rvs_up))))
theorem rvs_up:∀{d:List D} {v:List V},RVs (g.up T) m H d v↔RVs g m H d v
 | [],v=>by unfold RVs; rfl
 | d :: ds,v=>by
  unfold RVs
  exact exists_congr fun a=>exists_congr fun r=>and_congr Iff.rfl (and_congr rv_up rvs_up)
end
end
end VL
namespace VL
open PySem PySem.Spec PyProof.Rows L2
section
variable {H:Hp}
inductive Made (H:Hp) (P:Addr) (ps:Array Value) (q:Str) (c':Addr):Hp->Prop
 | old {pos:Pos} (h:codeAmong pos ps.toList=some (.ref c')):Made H P ps q c' H
 | new {ps':Array Value} (n:H c'=none) (t:TriplesOk ps'.toList) (k:∀(pos:Pos) (cv:Value),codeAmong pos ps'.toList=some cv->codeAmong pos ps.toList=some cv∨cv=.ref c'):Made H P ps q c' (upd (upd H P (.tbl ps')) c' (LamX.CodeO c' q))
end
section
variable {g:G} {m:Mp} {S:Sto} {H H1:Hp}
theorem Made.rel {P c':Addr} {ps:Array Value} {q:Str} {n:Nat} (r:Rel g m S H) (hn:m.l[n]?=some (P,true)) (hS:S[n]?=some (.tab q)) (hP:H P=some (.tbl ps))
  (ha:∀(pos:Pos) (cv:Value),codeAmong pos ps.toList=some cv->∃c,cv=.ref c/\H c=some (LamX.CodeO c q)/\Un m c) (M:Made H P ps q c' H1):Rel g m S H1/\Ext g m H m H1/\Un m c':=by
 cases M with
 | old h =>
  obtain ⟨c,e,_,u⟩:=ha _ _ h
  cases e
  exact ⟨r,.refl,u⟩
 | @new ps' nC t k =>
  have ne:P≠c':=ne_of_none hP nC
  have eH:upd (upd H P (.tbl ps')) c' (LamX.CodeO c' q)=upd (upd H c' (LamX.CodeO c' q)) P (.tbl ps'):=by
   funext b
   by_cases h1:b=c'
   ·rw [h1,upd_same,upd_ne (Ne.symm ne),upd_same]
   ·rw [upd_ne h1]
    by_cases h2:b=P
    ·rw [h2,upd_same,upd_same]
    ·rw [upd_ne h2,upd_ne h2,upd_ne h1]
  rw [eH]
  have ra:=r.lay (o:=LamX.CodeO c' q) nC
  have ea:=zqn (g:=g) (o':=LamX.CodeO c' q) r nC
  have u:=r.un nC
  have rb:Rel g m (S.set n (.tab q)) (upd (upd H c' (LamX.CodeO c' q)) P (.tbl ps')):=by
   refine ra.set hn hS ⟨ps',rfl,t,fun pos cv hc=>?_⟩
   rcases k pos cv hc with z | z
   ·obtain ⟨c,e1,e2,e3⟩:=ha pos cv z
    have nP:c≠P:=fun z=>e3.1 n (by rw [z]; exact hn)
    exact ⟨c,e1,by rw [upd_ne (ne_of_none e2 nC)]; exact e2,e3⟩
   ·exact ⟨c',z,upd_same,u⟩
  have eS:S.set n (.tab q)=S:=by
   refine List.ext_getElem? fun j=>?_
   by_cases hj:n=j
   ·subst hj
    rw [List.getElem?_set_self (List.getElem?_eq_some_iff.mp hS).1,hS]
   ·rw [List.getElem?_set_ne hj]
  rw [eS] at rb
  exact ⟨rb,ea.trans (ext_set ra hn hS),u⟩
end
end VL
namespace VL
open PySem PySem.Spec PyProof.Rows L2
section
end
section
end
end VL
namespace VL
open PySem PySem.Spec PyProof.Rows L2
section
end
end VL
namespace VL
open PySem PySem.Spec PyProof.Rows L2
section
end
end VL
namespace VL
open PySem PySem.Spec PyProof.Rows L2
section
end
end VL
namespace VL
open PySem PySem.Spec PyProof.Rows L2
section
end
end VL
namespace VL
open PySem PySem.Spec PyProof.Rows L2
structure FnG (P:Program) (w:World) (K:PySem.W.Frag) (mg:Str->Option Value) (base:Heap) (k:Nat) (f:Addr) (fd:FuncData) (ps:List Str) (sp:Sp):Prop where
 len:∀vs H Q E,sp vs H Q E->vs.length=ps.length
 run:∀(A:Around) (outer:List Env) (s:Shared) (H:Hp) (args:Args) (us:List Value) (vs:List V) (Q:VK) (E:XK),A.guards=some []->Room k A->Env0 P w K mg base A outer s H->BindsTo s fd args (ps.zip us)->Vals vs us->sp vs H Q E ->
  codeAny (model P w) A (.call (.ref f) args) (CR (L2.CX P w) outer P w H s Q E) s
section
variable {P:Program} {w:World} {K:PySem.W.Frag} {mg:Str->Option Value} {base:Heap}
theorem FnG.of {k:Nat} {f:Addr} {fd:FuncData} {ps:List Str} {sp:Sp} (F:FnOk P w K mg base (L2.CX P w) k f fd ps sp):FnG P w K mg base k f fd ps sp:=⟨F.len,fun A outer s H args us vs Q E _=>F.run A outer s H args us vs Q E⟩
end
section
end
end VL
namespace VL
open PySem PySem.Spec PyProof.Rows L2
section
variable {X:Cx} {pins:List (Addr × Obj)} {σ : L2.St} {H:Hp} {s:Shared}
def SmK (K:PySem.W.Frag):Prop := ∃o,K.lookup sysModules=some o/\o.cls=.type "dict"
theorem sm_list (I:Inv X pins σ H s) (hs:SmK X.K) {a:Addr} {xs:List V} (h:SqL X.K H a xs):a≠sysModules:=fun e=>by
 subst e
 obtain ⟨o,h1,h2⟩:=hs
 have hn:H sysModules=none:=(I.env0.bs _ _ (I.ok.mod.kin _ _ h1)).2
 rcases h with (h | ⟨_,h⟩) | ⟨o',_,_,h,hc,_⟩
 ·rw [hn] at h; cases h
 ·rw [hn] at h; cases h
 ·rw [h1] at h
  cases h
  rw [h2] at hc
  exact absurd hc (by simp)
mutual
theorem Dp.rdm (I:Inv X pins σ H s) (hm:SmK X.K):∀(d:PyData) (v:V) (u:Value),Dp X.K H v d->RelV v u->∃as,Reads s.heap u d as/\sysModules∉as
 | .none,_,_,h,r=>by
  cases h
  cases r
  exact ⟨_,Reads.none,by simp⟩
 | .bool b,_,_,h,r=>by
  cases h
  cases r
  exact ⟨_,Reads.bool b,by simp⟩
 | .int i,_,_,h,r=>by
  cases h
  obtain ⟨t,rfl⟩:=r
  exact ⟨_,Reads.int i t,by simp⟩
 | .str x,_,_,h,r=>by
  cases h
  obtain ⟨t,rfl⟩:=r
  exact ⟨_,Reads.str x t,by simp⟩
 | .list ds,_,_,h,r=>by
  cases h with
  | lst hs ha =>
   cases r
   have hne:=sm_list I hm hs
   obtain ⟨its,rv,⟨o,n,ho,hc,_,hd⟩,_⟩:=I.list hs
   obtain ⟨as,hr,hn⟩:=Dp.rdms I hm ds _ its ha rv
   exact ⟨_,Reads.list ho hc hd hr,by
    rw [List.mem_cons]
    exact fun z=>z.elim (fun e=>hne e.symm) hn⟩
 | .tuple ds,_,_,h,r=>by
  cases h with
  | tup hs ha =>
   cases r
   obtain ⟨its,rv,⟨o,ho,hc,n,hd⟩,_⟩:=I.tuple hs
   obtain ⟨as,hr,hn⟩:=Dp.rdms I hm ds _ its ha rv
   exact ⟨_,Reads.tuple ho hc hd hr,hn⟩
 | .dict _,_,_,h,_=>by cases h
theorem Dp.rdms (I:Inv X pins σ H s) (hm:SmK X.K):∀(ds:List PyData) (vs:List V) (us:List Value),DpAll X.K H vs ds->Vals vs us->∃as,ReadsAll s.heap us ds as/\sysModules∉as
 | [],_,_,h,r=>by
  cases h
  cases r
  exact ⟨_,ReadsAll.nil,by simp⟩
 | d :: ds,_,_,h,r=>by
  cases h with
  | cons h1 h2 =>
   cases r with
   | cons r1 r2 =>
    obtain ⟨as,q1,n1⟩:=Dp.rdm I hm d _ _ h1 r1
    obtain ⟨bs,q2,n2⟩:=Dp.rdms I hm ds _ _ h2 r2
    exact ⟨_,ReadsAll.cons q1 q2,fun z=>(List.mem_append.mp z).elim n1 n2⟩
end
end
section
end
end VL
namespace VL
open PySem PySem.Spec PyProof.Rows L2
section
end
section
end
end VL
namespace VL
open PySem PySem.Spec PyProof.Rows L2
section
variable {K:PySem.W.Frag} {a:Addr} {cs:List (Addr × Addr)} {s₁:Shared} {vs:List Value} {ns:List Int}
def H0 (s₁:Shared) (K:PySem.W.Frag) (a:Addr) (cs:List (Addr × Addr)) (vs:List Value) (ns:List Int):Hp:=fun b =>
 if b∈cs.map (·.2) then some (.tbl #[]) else if b=a/\K.lookup a=none then some (.frz { cls := .type "list",data := .seq vs.toArray } (.lst (ns.map V.int))) else none
end
end VL
namespace VL
open PySem PySem.Spec PyProof.Rows L2
section
end
end VL
namespace VL
open PySem PySem.Spec PyProof.Rows L2
mutual
def nkD:D->Option NestedKey
 | .non=>some .none
 | .int i=>some (.num i)
 | .str x=>some (.text x)
 | .tup ds=>(nkDs ds).map .tup
 | _=>none
def nkDs:List D->Option (List NestedKey)
 | []=>some []
 | d :: ds=>match nkD d,nkDs ds with
  | some k,some ks=>some (k :: ks)
  | _,_=>none
end
mutual
theorem dk_nk:∀{d:D} {k:NestedKey},nkD d=some k->dkN k=d
 | .non,k,h=>by simp only [nkD,Option.some.injEq] at h; subst h; rfl
 | .int i,k,h=>by simp only [nkD,Option.some.injEq] at h; subst h; rfl
 | .str x,k,h=>by simp only [nkD,Option.some.injEq] at h; subst h; rfl
 | .tup ds,k,h=>by
  simp only [nkD,Option.map_eq_some_iff] at h
  obtain ⟨ks,h1,rfl⟩:=h
  rw [dkN,dks_nks h1]
 | .bl _,_,h=>by simp [nkD] at h
 | .ty _,_,h=>by simp [nkD] at h
 | .ctp _,_,h=>by simp [nkD] at h
 | .lst _,_,h=>by simp [nkD] at h
 | .dic _ _,_,h=>by simp [nkD] at h
 | .dct _ _,_,h=>by simp [nkD] at h
 | .obj _ _ _,_,h=>by simp [nkD] at h
 | .scr _,_,h=>by simp [nkD] at h
 | .ref _,_,h=>by simp [nkD] at h
 | .kref _,_,h=>by simp [nkD] at h
theorem dks_nks:∀{ds:List D} {ks:List NestedKey},nkDs ds=some ks->dkNs ks=ds
 | [],ks,h=>by simp only [nkDs,Option.some.injEq] at h; subst h; rfl
 | d :: ds,ks,h=>by
  unfold nkDs at h
  split at h
  ·rename_i k ks' h1 h2
   cases h
   rw [dkNs,dk_nk h1,dks_nks h2]
  ·cases h
end
section
variable {X:Cx} {pins:List (Addr × Obj)} {σ : St} {H:Hp} {s:Shared} {g:G} {m:Mp} {S:Sto} {E:XD}
mutual
theorem nk_is (hok:HOk X.prog X.w H s.heap):∀{k:NestedKey} {v:V} {u:Value},RV g m H (dkN k) v->RelV v u->NestedIs s.heap k u
 | .none,v,u,h,r=>by
  rw [of_non (show RV g m H .non v from h)] at r
  cases r
  exact .none
 | .num i,v,u,h,r=>by
  rw [zq6 (show RV g m H (.int i) v from h)] at r
  obtain ⟨t,rfl⟩:=r
  exact .int i t
 | .text x,v,u,h,r=>by
  rw [zqo (show RV g m H (.str x) v from h)] at r
  obtain ⟨t,rfl⟩:=r
  exact .text x t
 | .tup ks,v,u,h,r=>by
  obtain ⟨a,vs,rfl,h1,h2⟩:=zjc (show RV g m H (.tup (dkNs ks)) v from h)
  cases (show u=Value.ref a from r)
  obtain ⟨_,its,hv,o,e1,e2,n,e3⟩:=(show ObjOk X.prog X.w H s.heap a (.tup vs) from hok a _ h1.1)
  exact .tup e1 e2 e3 (by simpa using nks_is hok h2 hv)
theorem nks_is (hok:HOk X.prog X.w H s.heap):∀{ks:List NestedKey} {vs:List V} {us:List Value},RVs g m H (dkNs ks) vs->Vals vs us->NestedAll s.heap ks us
 | [],vs,us,h,r=>by
  rw [(show RVs g m H [] vs from h).nil_iff] at r
  cases r
  exact .nil
 | k :: ks,vs,us,h,r=>by
  obtain ⟨v,r',rfl,h1,h2⟩:=(show RVs g m H (dkN k :: dkNs ks) vs from h).cons_iff
  cases r with
  | cons r1 r2=>exact .cons (nk_is hok h1 r1) (nks_is hok h2 r2)
end
theorem nso_at {P:Program} {w w':World} {h:Heap} {a a':Addr} {xs:List (NestedKey × Addr × Value)} (x:ObjOk P w H h a (NsO w' a' xs)):a'=a:=by
 obtain ⟨⟨hs,o,es,ep,h1,h2,h3,h4⟩,⟨o2,e2⟩,st⟩:=x
 refine Decidable.byContradiction fun ne=>?_
 have q:=st h (h.update a' fun _=>{ cls := .none,data := .seq #[] }) ⟨hs,o,es,ep,h1,h2,h3,h4⟩ fun u hu=>(Heap.get?_update_other _ _ ne).trans hu
 obtain ⟨_,o',es',ep',k1,_,k3,_⟩:=q
 have e:=Heap.get?_update_self (fun _:Obj=>({ cls := .none,data := .seq #[] }:Obj)) h1 rfl
 rw [e] at k1
 cases k1
 cases k3
theorem nso_new {P:Program} {w w':World} {H:Hp} {h:Heap} {a:Addr} {xs:List (NestedKey × Addr × Value)} (h0:(a == sysModules)=false) (hh:∃(o:Obj) (es:Array DictEntry) (ep:Nat),h.get? a=some o/\o.ExactDict/\o.data=.dict es ep/\es.toList=xs.map fun q=>⟨NestedKey.hash w' q.1,.ref q.2.1,q.2.2⟩):ObjOk P w H h a (NsO w' a xs):=by
 obtain ⟨o,es,ep,h1,h2,h3,h4⟩:=hh
 exact ⟨⟨h0,o,es,ep,h1,h2,h3,h4⟩,⟨o,h1⟩,fun _ _ ⟨q0,o,es,ep,q1,q2⟩ k=>⟨q0,o,es,ep,k o q1,q2⟩⟩
theorem rvs_keys (hok:HOk X.prog X.w H s.heap):∀{xs:List (NestedKey × Addr × Value)},RVs g m H (dkNs (xs.map (·.1))) (xs.map fun q=>V.ref q.2.1)->∀x∈xs,NestedIs s.heap x.1 (.ref x.2.1)
 | [],_,x,hx=>nomatch hx
 | y :: xs,h,x,hx=>by
  obtain ⟨v,r',e,h1,h2⟩:=(show RVs g m H (dkN y.1 :: dkNs (xs.map (·.1))) (V.ref y.2.1 :: xs.map fun q=>V.ref q.2.1) from h).cons_iff
  cases e
  rcases List.mem_cons.mp hx with rfl | hx
  ·exact nk_is hok h1 rfl
  ·exact rvs_keys hok h2 x hx
def putN (ks:List NestedKey) (k:NestedKey):List NestedKey:=if k∈ks then ks else ks++[k]
def putNv:List NestedKey->List D->NestedKey->D->List D
 | k' :: ks,d :: ds,k,z=>if k'=k then z :: ds else d :: putNv ks ds k z
 | _,ds,_,z=>ds++[z]
theorem at_none {xs:List (NestedKey × Addr × Value)} {k:NestedKey}:atKey xs k=none↔k∉xs.map (·.1):=by
 unfold atKey
 rw [Option.map_eq_none_iff,List.find?_eq_none]
 constructor
 ·intro h hm
  obtain ⟨x,hx,e⟩:=List.mem_map.mp hm
  exact h x hx (by simp [e])
 ·intro h x hx
  have:x.1≠k:=fun e=>h (e ▸ List.mem_map_of_mem hx)
  simpa using this
theorem stored_run {k:NestedKey} {b:Addr} {v:V} {u:Value} {z:D} (hv:RelV v u) (rz:RV g m H z v):∀{xs:List (NestedKey × Addr × Value)} {vs:List V} {ds:List D},(xs.map (·.1)).Nodup->Vals vs (xs.map fun q=>q.2.2)->RVs g m H ds vs ->
  ∃vs',Vals vs' ((if k∈xs.map (·.1) then xs.map (putAt k u) else xs++[(k,b,u)]).map fun q=>q.2.2)/\RVs g m H (putNv (xs.map (·.1)) ds k z) vs'
 | [],vs,ds,_,h,r=>by
  cases h
  cases ds with
  | nil=>exact ⟨[v],.cons hv .nil,.cons rz .nil⟩
  | cons d ds=>exact absurd r.length (by simp)
 | x :: xs,vs,ds,nd,h,r=>by
  rw [List.map_cons,List.nodup_cons] at nd
  cases h with
  | @cons v0 u0 vs us h1 h2 =>
   cases ds with
   | nil=>exact absurd r.length (by simp)
   | cons d ds =>
    obtain ⟨v',r',e,r1,r2⟩:=r.cons_iff
    cases e
    by_cases hx:x.1=k
    ·have hm:k∈(x :: xs).map (·.1):=by rw [List.map_cons,hx]; exact List.mem_cons_self
     rw [if_pos hm]
     have hno:xs.map (putAt k u)=xs:=by
      have:∀y∈xs,putAt k u y=y:=fun y hy=>by
       unfold putAt
       rw [if_neg fun z=>nd.1 (by rw [hx,← z]; exact List.mem_map_of_mem hy)]
      rw [List.map_congr_left this,List.map_id']
     refine ⟨v :: vs,?_,?_⟩
     ·rw [List.map_cons,List.map_cons,hno]
      unfold putAt
      rw [if_pos hx]
      exact .cons hv h2
     ·rw [List.map_cons]
      unfold putNv
      rw [if_pos hx]
      exact .cons rz r2
    ·obtain ⟨vs',q1,q2⟩:=stored_run (k:=k) (b:=b) hv rz nd.2 h2 r2
     refine ⟨v0 :: vs',?_,?_⟩
     ·have e:(k∈(x :: xs).map (·.1))↔k∈xs.map (·.1):=by
       rw [List.map_cons,List.mem_cons]
       exact ⟨fun z=>z.resolve_left fun z=>hx z.symm,.inr⟩
      by_cases hm:k∈xs.map (·.1)
      ·rw [if_pos (e.mpr hm)]
       rw [if_pos hm] at q1
       rw [List.map_cons,List.map_cons]
       refine .cons ?_ q1
       unfold putAt
       rw [if_neg hx]
       exact h1
      ·rw [if_neg fun z=>hm (e.mp z)]
       rw [if_neg hm] at q1
       rw [List.cons_append,List.map_cons]
       exact .cons h1 q1
     ·rw [List.map_cons]
      unfold putNv
      rw [if_neg hx]
      exact .cons r1 q2
theorem dkNs_app (a b:List NestedKey):dkNs (a++b)=dkNs a++dkNs b:=by
 induction a with
 | nil=>rfl
 | cons x a ih=>rw [List.cons_append,dkNs,ih,dkNs]; rfl
end
end VL
namespace VL
open PySem PySem.Spec PyProof.Rows L2
section
end
end VL
namespace VL
open PySem PySem.Spec PyProof.Rows L2
section
variable {X:Cx} {g:G} {m:Mp} {H:Hp}
structure NsR (g:G) (m:Mp) (H:Hp) (ks:List NestedKey) (ws:List D) (xs:List (NestedKey × Addr × Value)):Prop where
 hk:xs.map (·.1)=ks
 nd:ks.Nodup
 hd:∀k∈ks,k.depth<=8
 rk:RVs g m H (dkNs ks) (xs.map fun q=>V.ref q.2.1)
 ex:∃vs,Vals vs (xs.map fun q=>q.2.2)/\RVs g m H ws vs
theorem NsR.nil:NsR g m H [] [] []:=⟨rfl,.nil,(fun _ z=>nomatch z),.nil,[],.nil,.nil⟩
theorem NsR.extw {m':Mp} {H':Hp} {ks:List NestedKey} {ws:List D} {xs:List (NestedKey × Addr × Value)} (h:NsR g m H ks ws xs) (e:Exw m H m' H'):NsR g m' H' ks ws xs:=by
 obtain ⟨vs,h1,h2⟩:=h.ex
 exact ⟨h.hk,h.nd,h.hd,h.rk.extw e,vs,h1,h2.extw e⟩
theorem NsR.ext {m':Mp} {H':Hp} {ks:List NestedKey} {ws:List D} {xs:List (NestedKey × Addr × Value)} (h:NsR g m H ks ws xs) (e:Ext g m H m' H'):NsR g m' H' ks ws xs:=h.extw e.toExw
theorem NsR.len {ks:List NestedKey} {ws:List D} {xs:List (NestedKey × Addr × Value)} (h:NsR g m H ks ws xs):xs.length=ks.length:=by rw [← h.hk,List.length_map]
theorem stored_if {xs:List (NestedKey × Addr × Value)} {k:NestedKey} {b:Addr} {u:Value}:storedH xs k b u=if k∈xs.map (·.1) then xs.map (putAt k u) else xs++[(k,b,u)]:=by
 unfold storedH
 by_cases hm:k∈xs.map (·.1)
 ·rw [if_pos hm,if_pos]
  rw [Option.isSome_iff_ne_none]
  exact fun z=>at_none.mp z hm
 ·rw [if_neg hm,if_neg]
  rw [at_none.mpr hm]
  simp
theorem stored_keys {xs:List (NestedKey × Addr × Value)} {k:NestedKey} {b:Addr} {u:Value}:(storedH xs k b u).map (·.1)=putN (xs.map (·.1)) k:=by
 rw [stored_if]
 unfold putN
 by_cases hm:k∈xs.map (·.1)
 ·rw [if_pos hm,if_pos hm,List.map_map]
  refine List.map_congr_left fun y _=>?_
  show (putAt k u y).1=y.1
  unfold putAt
  split <;> rfl
 ·rw [if_neg hm,if_neg hm,List.map_append]
  rfl
theorem putN_nd {ks:List NestedKey} {k:NestedKey} (h:ks.Nodup):(putN ks k).Nodup:=by
 unfold putN
 split
 ·exact h
 ·rename_i hm
  rw [List.nodup_append]
  exact ⟨h,by simp,fun y hy z hz e=>hm (by rw [List.mem_singleton] at hz; rw [← hz,← e]; exact hy)⟩
theorem NsR.put {ks:List NestedKey} {ws:List D} {xs:List (NestedKey × Addr × Value)} {k:NestedKey} {b:Addr} {z:D} {v:V} {u:Value} (h:NsR g m H ks ws xs) (hb:RV g m H (dkN k) (.ref b)) (hz:k.depth<=8) (hv:RelV v u) (rz:RV g m H z v):NsR g m H (putN ks k) (putNv ks ws k z) (storedH xs k b u):=by
 obtain ⟨vs,h1,h2⟩:=h.ex
 have rk:=h.rk
 obtain ⟨vs',q1,q2⟩:=stored_run (k:=k) (b:=b) hv rz (by rw [h.hk]; exact h.nd) h1 h2
 refine ⟨by rw [stored_keys,h.hk],putN_nd h.nd,fun k' hk'=>?_,?_,vs',by rw [stored_if]; exact q1,by rw [← h.hk]; exact q2⟩
 ·unfold putN at hk'
  split at hk'
  ·exact h.hd k' hk'
  ·rcases List.mem_append.mp hk' with z | z
   ·exact h.hd k' z
   ·rw [List.mem_singleton.mp z]; exact hz
 ·rw [stored_if]
  unfold putN
  rw [← h.hk] at rk ⊢
  by_cases hm:k∈xs.map (·.1)
  ·rw [if_pos hm,if_pos hm,List.map_map]
   have:(fun q:NestedKey × Addr × Value=>V.ref q.2.1) ∘ putAt k u=fun q=>V.ref q.2.1:=funext fun y=>by
    show V.ref (putAt k u y).2.1=_
    unfold putAt
    split <;> rfl
   rw [this]
   exact rk
  ·rw [if_neg hm,if_neg hm,List.map_append,dkNs_app]
   exact rk.append (.cons hb .nil)
def KOk (X:Cx) (H:Hp) (xs:List (NestedKey × Addr × Value)):Prop := ∀s:Shared,HOk X.prog X.w H s.heap->(∀x∈xs,(nestedKind X.prog X.w).is s.heap x.1 x.2.1)/\(xs.map (·.1)).Nodup
theorem NsR.ok {ks:List NestedKey} {ws:List D} {xs:List (NestedKey × Addr × Value)} (h:NsR g m H ks ws xs):KOk X H xs:=fun s hok=>by
 have rk:=h.rk
 have hd:=h.hd
 have nd:=h.nd
 rw [← h.hk] at rk hd nd
 exact ⟨fun x hx=>⟨rvs_keys hok rk x hx,hd _ (List.mem_map_of_mem hx)⟩,nd⟩
theorem nso_heap {pins:List (Addr × Obj)} {σ : L2.St} {s:Shared} {a a':Addr} {xs:List (NestedKey × Addr × Value)} (I:Inv X pins σ H s) (e:H a=some (NsO X.w a' xs)) (hk:KOk X H xs):a'=a/\(a == sysModules)=false/\s.heap.DictOfH (nestedKind X.prog X.w) a xs:=by
 have ok:=I.hok a _ e
 cases nso_at ok
 obtain ⟨⟨hs,o,es,ep,h1,h2,h3,h4⟩,_,_⟩:=ok
 obtain ⟨q1,q2⟩:=hk s I.hok
 exact ⟨rfl,hs,o,es,ep,h1,h2,h3,h4,q1,q2⟩
end
end VL
namespace VL
open PySem PySem.Spec PyProof.Rows L2
section
variable {X:Cx} {g:G} {m:Mp} {H:Hp}
theorem kok_nil:KOk X H []:=fun _ _=>⟨(fun x hx=>nomatch hx),List.nodup_nil⟩
def putAll:List NestedKey->List D->List NestedKey->List D->List NestedKey × List D
 | ks,ws,k :: ks2,z :: ws2=>putAll (putN ks k) (putNv ks ws k z) ks2 ws2
 | ks,ws,_,_=>(ks,ws)
theorem NsR.all:∀{xs2 xs:List (NestedKey × Addr × Value)} {ks:List NestedKey} {ws:List D} {ks2:List NestedKey} {ws2:List D},NsR g m H ks ws xs->NsR g m H ks2 ws2 xs2->NsR g m H (putAll ks ws ks2 ws2).1 (putAll ks ws ks2 ws2).2 (storedAllH xs xs2)
 | [],xs,ks,ws,ks2,ws2,h,h2=>by
  have e:=h2.hk
  simp only [List.map_nil] at e
  subst e
  have e:putAll ks ws [] ws2=(ks,ws):=by cases ws2 <;> rfl
  rw [e]
  exact h
 | (k,b,u) :: xs2,xs,ks,ws,ks2,ws2,h,h2=>by
  obtain ⟨hk,nd,hd,rk,vs,hv,rd⟩:=h2
  rw [List.map_cons] at hk
  subst hk
  cases hv with
  | @cons v0 u0 vs us q1 q2 =>
   cases ws2 with
   | nil=>exact absurd rd.length (by simp)
   | cons d ws2 =>
    obtain ⟨v',r',e,r1,r2⟩:=rd.cons_iff
    cases e
    rw [List.nodup_cons] at nd
    obtain ⟨vb,rb,e,k1,k2⟩:=(show RVs g m H (dkN k :: dkNs (xs2.map (·.1))) (V.ref b :: xs2.map fun q=>V.ref q.2.1) from rk).cons_iff
    cases e
    have h':=NsR.put h k1 (hd k (by simp)) q1 r1
    have fin:=NsR.all (xs2:=xs2) h' ⟨rfl,nd.2,fun k' hk'=>hd k' (by simp [hk']),k2,vs,q2,r2⟩
    exact fin
end
end VL
namespace VL
open PySem PySem.Spec PyProof.Rows L2
section
end
section
end
end VL
namespace VL
open PySem PySem.Spec PyProof.Rows L2
section
end
end VL
namespace VL
open PySem PySem.Spec PyProof.Rows L2
section
end
end VL
namespace VL
end VL
namespace VL
open PySem PySem.Spec PyProof.Rows L2
section
end
end VL
namespace VL
open PySem PySem.Spec PyProof.Rows L2
section
end
end VL
namespace VL
open PySem PySem.Spec PyProof.Rows L2 PpSet
def keyX (e:Int × Value):Str:=strOf e.2
def GoodT (w:World) (e:Int × Value):Prop := ∃x tk,e.2=Value.str x tk/\e.1=hashStr w x
def SetT (w:World) (h:Heap) (a:Addr) (l:List Str):Prop :=
 ∃o es ep t,h.get? a=some o/\o.ExactSet/\o.data=.set es ep t/\(∀e∈es.toList,GoodT w e)/\(es.toList.map keyX).Perm l/\l.Nodup /\
  es.size < scanBound/\t.fits es.size=true/\Ris t.place.toList/\(w.params.followText "set-order" = true∨t.led=true)
section
variable {w:World} {a:Addr} {l:List Str}
theorem SetT.to {h h':Heap} (r:SetT w h a l) (k:∀o,h.get? a=some o->h'.get? a=some o):SetT w h' a l:=by
 obtain ⟨o,es,ep,t,ho,q⟩:=r
 exact ⟨o,es,ep,t,k o ho,q⟩
end
section
end
end VL
namespace VL
open PySem PySem.Spec PyProof.Rows L2
section
end
section
end
end VL
namespace VL
open PySem PySem.Spec PyProof.Rows L2
section
end
end VL
namespace VL
open PySem PySem.Spec PyProof.Rows L2 StX
structure FS (K:PySem.W.Frag) (mg:Str->Option Value) (x:Str) (st:Stmt) (ps:List Str) (pv:Str) where
 f:Addr
 fd:FuncData
 fn:FunD K x x (defArgs st) (defBody st) (defScope st) [] [] f fd
 bs:∀us rest:List Value,us.length=ps.length->bindArgs fd ⟨us++rest,[]⟩=(newTuple rest >>= fun t=>pure (ps.zip us++[(pv,t)]))
 mgx:mg x=some (.ref f)
theorem FS.ofH {K:PySem.W.Frag} {h:Heap} {mg:Str->Option Value} (X:K.In h) (G:h.Ns mainGlobals mg) {x:Str} {st:Stmt} {ps:List Str} {pv:Str} {fd:FuncData} (F:FunD K x x (defArgs st) (defBody st) (defScope st) [] [] (gAd x K) fd)
  (hb:∀(kV doc pm:Value) (an:Option Addr) (cdv ct:Value) (us rest:List Value),us.length=ps.length->bindArgs (PySem.W.fnOf x x (defArgs st) (defBody st) (defScope st) .none kV doc pm an cdv ct) ⟨us++rest,[]⟩=(newTuple rest >>= fun t=>pure (ps.zip us++[(pv,t)])))
  (c:(He.Fa.glo x).ok K=true):Nonempty (FS K mg x st ps pv):=by
 refine ⟨⟨_,fd,F,fun us rest hu=>?_,He.glo_ok X G c⟩⟩
 obtain ⟨oc,od,dV,kV,doc,pm,an,cdv,ct,osl,rfl,lk,hcd,hd,_⟩:=F.ex
 have e:dV=.none:=by
  rcases hd with ⟨_,z⟩ | ⟨z,_⟩
  ·exact z
  ·exact absurd rfl z
 subst e
 exact hb kV doc pm an cdv ct us rest hu
section
end
section
end
end VL
namespace VL
open PySem PySem.Spec PyProof.Rows L2
section
end
end VL
namespace VL
open PySem PySem.Spec PyProof.Rows L2
section
end
end VL
namespace VL
open PySem PySem.Spec PyProof.Rows L2
section
end
end VL
namespace VL
open PySem PySem.Spec PyProof.Rows L2
section
end
end VL
namespace PySem.W
open PySem PySem.Spec PyProof.Rows PyProof.V
section
variable {prog:Program} {w:World} {K:Type} [DecidableEq K]
end
end PySem.W
namespace VL
open PySem PySem.Spec PyProof.Rows L2
section
end
section
section
end
end
end VL
namespace VL
open PySem PySem.Spec PyProof.Rows L2
open PySem.W (alike AlikeAll dataLt iter_listW readsAll_len moved_old cmpIn_lt)
end VL
namespace VL
open PySem PySem.Spec PyProof.Rows L2
section
end
section
end
end VL
namespace VL
open PySem PySem.Spec PyProof.Rows L2
mutual
def low (n:Nat):D->Bool
 | .ref k=>Nat.blt k n
 | .tup xs=>lows n xs
 | .ctp xs=>lows n xs
 | .lst xs=>lows n xs
 | .dic _ vs=>lows n vs
 | .dct _ vs=>lows n vs
 | .obj _ _ vs=>lows n vs
 | .non=>true
 | .bl _=>true
 | .int _=>true
 | .str _=>true
 | .ty _=>true
 | .scr _=>true
 | .kref _=>true
def lows (n:Nat):List D->Bool
 | []=>true
 | d :: ds=>low n d && lows n ds
end
def lowO (n:Nat):Ob->Bool
 | .lst xs=>lows n xs
 | .dic _ vs=>lows n vs
 | .dct _ vs=>lows n vs
 | .dlk _ vs=>lows n vs
 | .dnt _ vs=>lows n vs
 | .ins _ _ vs=>lows n vs
 | .tab _=>true
 | .exn _ _ d=>low n d
 | .odk k _=>low n k
 | .dead=>true
section
variable {g:G} {m m':Mp} {H:Hp} {n:Nat}
mutual
theorem RV.lo (hl:∀(k:Nat) (x:Addr × Bool),k < n->m.l[k]?=some x->m'.l[k]?=some x) (hu:∀a,Un m a->Un m' a):∀{d:D} {v:V},low n d=true->RV g m H d v->RV g m' H d v
 | .non,v,_,h=>by rw [of_non h]; exact rv_non
 | .bl b,v,_,h=>by rw [of_bl h]; exact zqr
 | .int b,v,_,h=>by rw [zq6 h]; exact zqm
 | .str b,v,_,h=>by rw [zqo h]; exact zjk
 | .ty b,v,_,h=>by unfold RV at h ⊢; exact h
 | .ref k,v,c,h=>by
  unfold RV at h ⊢
  obtain ⟨a,b,rfl,h⟩:=h
  have hk:k < n:=by
   have c2:Nat.blt k n=true:=c
   exact Nat.le_of_ble_eq_true c2
  exact ⟨a,b,rfl,hl k _ hk h⟩
 | .kref k,v,_,h=>by unfold RV at h ⊢; exact h
 | .scr ns,v,_,h=>by
  unfold RV at h ⊢
  obtain ⟨a,rfl,h⟩:=h
  refine ⟨a,rfl,?_⟩
  rcases h with ⟨h1,h2⟩ | h
  ·exact .inl ⟨h1,hu a h2⟩
  ·exact .inr h
 | .tup xs,v,c,h=>by
  unfold RV at h ⊢
  obtain ⟨a,vs,rfl,⟨h1,h2⟩,h3⟩:=h
  exact ⟨a,vs,rfl,⟨h1,hu a h2⟩,RVs.lo hl hu c h3⟩
 | .ctp xs,v,c,h=>by
  unfold RV at h ⊢
  obtain ⟨a,vs,rfl,h1,h3⟩:=h
  exact ⟨a,vs,rfl,h1,RVs.lo hl hu c h3⟩
 | .lst xs,v,c,h=>by
  unfold RV at h ⊢
  obtain ⟨a,vs,rfl,h1,h2,h3⟩:=h
  exact ⟨a,vs,rfl,h1,hu a h2,RVs.lo hl hu c h3⟩
 | .dic ks xs,v,c,h=>by
  unfold RV at h ⊢
  obtain ⟨a,vs,rfl,h1,h2,h3,h4⟩:=h
  exact ⟨a,vs,rfl,h1,hu a h2,h3,RVs.lo hl hu c h4⟩
 | .dct ks xs,v,c,h=>by
  unfold RV at h ⊢
  obtain ⟨a,vs,rfl,h1,h2,h3,h4⟩:=h
  exact ⟨a,vs,rfl,h1,hu a h2,h3,RVs.lo hl hu c h4⟩
 | .obj cn ns xs,v,c,h=>by
  unfold RV at h ⊢
  obtain ⟨a,C,dx,fs,rfl,h0,h1,h2,h3,h4⟩:=h
  exact ⟨a,C,dx,fs,rfl,h0,h1,hu a h2,h3,RVs.lo hl hu c h4⟩
theorem RVs.lo (hl:∀(k:Nat) (x:Addr × Bool),k < n->m.l[k]?=some x->m'.l[k]?=some x) (hu:∀a,Un m a->Un m' a):∀{ds:List D} {vs:List V},lows n ds=true->RVs g m H ds vs->RVs g m' H ds vs
 | [],vs,_,h=>by rw [h.nil_iff]; exact .nil
 | d :: ds,vs,c,h=>by
  obtain ⟨v,r,rfl,h1,h2⟩:=h.cons_iff
  obtain ⟨c1,c2⟩:=He.ba (show (low n d && lows n ds)=true from c)
  exact .cons (RV.lo hl hu c1 h1) (RVs.lo hl hu c2 h2)
end
mutual
theorem lo_dkN:∀k:NestedKey,low n (dkN k)=true
 | .none=>rfl
 | .num _=>rfl
 | .text _=>rfl
 | .tup ks=>by
  show lows n (dkNs ks)=true
  exact los_dkN ks
theorem los_dkN:∀ks:List NestedKey,lows n (dkNs ks)=true
 | []=>rfl
 | k :: ks=>by
  show (low n (dkN k) && lows n (dkNs ks))=true
  rw [lo_dkN k,los_dkN ks]; rfl
end
theorem OR.lo (hl:∀(k:Nat) (x:Addr × Bool),k < n->m.l[k]?=some x->m'.l[k]?=some x) (hu:∀a,Un m a->Un m' a):∀{ob:Ob} {o:HO},lowO n ob=true->OR g m H ob o->OR g m' H ob o
 | .lst ds,o,c,⟨vs,h1,h2⟩=>⟨vs,h1,h2.lo hl hu c⟩
 | .dic ks ds,o,c,⟨vs,h1,h2,h3⟩=>⟨vs,h1,h2,h3.lo hl hu c⟩
 | .dct ks ds,o,c,⟨vs,h1,h2,h3⟩=>⟨vs,h1,h2,h3.lo hl hu c⟩
 | .dlk ks ds,o,c,⟨od,vs,h1,h2,h3⟩=>⟨od,vs,h1,h2,h3.lo hl hu c⟩
 | .dnt ks ds,o,c,⟨a,xs,vs,h1,h2,h3,h4,h5,h6,h7,h8⟩=>⟨a,xs,vs,h1,h2,h3,h4,h5,h6.lo hl hu (los_dkN ks),h7,h8.lo hl hu c⟩
 | .ins cn ns ds,o,c,⟨C,dx,fs,h1,h2,h3,h4⟩=>⟨C,dx,fs,h1,h2,h3,h4.lo hl hu c⟩
 | .tab q,o,_,⟨ps,h1,h2,h3⟩=>⟨ps,h1,h2,fun pos cv hc=>by
  obtain ⟨c,e1,e2,u⟩:=h3 pos cv hc
  exact ⟨c,e1,e2,hu c u⟩⟩
 | .exn c f d,o,k,⟨a,C,dx,v,h1,h2,h3,u,h4⟩=>⟨a,C,dx,v,h1,h2,h3,hu dx u,h4.lo hl hu k⟩
 | .odk d i,o,k,⟨a,hs,ep,kv,ku,t,h1,h2,h3⟩=>⟨a,hs,ep,kv,ku,t,h1,h2,h3.lo hl hu k⟩
end
def Mp.cut (m:Mp) (n:Nat):Mp:=⟨m.l.take n,m.o,m.k⟩
section
end
section
end
end VL
namespace VL
open PySem PySem.Spec PyProof.Rows L2
theorem RL.first {g:G} {m:Mp} {H:Hp} {d:D} {v:V} (h:RV g m H d v) (rest:List V) (N:List Str) (hn:rest.length+1=N.length):RL g m H ([d].map some++List.replicate (N.length - 1) none) (L2.start N (v :: rest)):=by
 unfold L2.start
 refine ⟨?_,fun i x e=>?_⟩
 ·simp; omega
 ·cases i with
  | zero=>simp at e; subst e; exact ⟨v,by simp,h⟩
  | succ i =>
   simp [List.getElem?_replicate] at e
section
end
section
end
section
end
end VL
namespace VL
open PySem PySem.Spec PyProof.Rows L2 PySem.Calls
section
open PySem.SeqAt PySem.MeetsSeq PySem.MeetsSeq2 PySem.MeetsSeq3 PySem.SeqRoads2
open PySem.AutoSeq1 (wpAny_loadPart')
end
section
end
end VL
namespace VL
open PySem PySem.Spec PyProof.Rows L2
section
end
end VL
namespace VL
open PySem PySem.Spec PyProof.Rows L2 PySem.Calls
section
open PySem.SeqAt PySem.MeetsSeq PySem.MeetsSeq2 PySem.MeetsSeq3 PySem.SeqRoads2
variable {prog:Program} {w:World} {A:Around} {E:Value->Shared->Prop} {s:Shared}
theorem none_dictE {a:Addr} (h:DictAt s a) (hu:A.units < cLine):RcAt A s .none (.ref a) false:=fun prog w E Q hq=>by
 obtain ⟨dd,es,n,sl,ho⟩:=id h
 exact rc_eq_decline_or (k:=false) (Ta := "NoneType") (Tb := "dict") rfl ⟨_,ho,rfl⟩ (by decide) PySem.F.sub_dict_NoneType PySem.F.slot_NoneType_eq PySem.F.slot_dict_eq_refl
  (fun _ hq=>call_gives PySem.F.slot_NoneType_eq rfl PySem.F.entry_NoneType_eq (PySem.F.args_NoneType_eq_2 _ _) (NoneType___eq___none_ref_0 a) hq)
  (fun _ hq=>zqw (T := "NoneType") h.ty rfl PySem.F.sub_NoneType_dict (h:=hq))
  (fun _ hq=>wpAny_of_eq (rfl:isSame .none (.ref a)=pure false) hq) (.inr hu) hq
theorem bool_dictE {a:Addr} (b:Bool) (h:DictAt s a) (hu:A.units < cLine):RcAt A s (.bool b) (.ref a) false:=fun prog w E Q hq=>by
 obtain ⟨dd,es,n,sl,ho⟩:=id h
 exact rc_eq_decline_or (k:=false) (Ta := "bool") (Tb := "dict") rfl ⟨_,ho,rfl⟩ (by decide) PySem.F.sub_dict_bool PySem.F.slot_bool_eq PySem.F.slot_dict_eq_refl
  (fun _ hq=>call_meets PySem.F.slot_bool_eq rfl PySem.F.entry_int_eq (PySem.F.args_int_eq_2 _ _) (bool_declines_dict b a (.type "dict") es n dd sl) ⟨ho,hq⟩)
  (fun _ hq=>zqw (T := "bool") h.ty rfl PySem.F.sub_bool_dict (h:=hq))
  (fun _ hq=>wpAny_of_eq (rfl:isSame (.bool b) (.ref a)=pure false) hq) (.inr hu) hq
theorem int_dictE {a:Addr} (b:Int) (u:Tok) (h:DictAt s a) (hu:A.units < cLine):RcAt A s (.int b u) (.ref a) false:=fun prog w E Q hq=>by
 obtain ⟨dd,es,n,sl,ho⟩:=id h
 exact rc_eq_decline_or (k:=false) (Ta := "int") (Tb := "dict") (typeIs_int s b u) ⟨_,ho,rfl⟩ (by decide) PySem.F.sub_dict_int PySem.F.slot_int_eq PySem.F.slot_dict_eq_refl
  (fun _ hq=>call_meets PySem.F.slot_int_eq (typeIs_int s b u) PySem.F.entry_int_eq (PySem.F.args_int_eq_2 _ _) (int_declines_dict b u a (.type "dict") es n dd sl) ⟨ho,hq⟩)
  (fun _ hq=>zqw (T := "int") h.ty (typeIs_int s b u) PySem.F.sub_int_dict (h:=hq))
  (fun _ hq=>wpAny_of_eq (rfl:isSame (.int b u) (.ref a)=pure false) hq) (.inr hu) hq
theorem str_dictE {a:Addr} (b:Str) (u:Tok) (h:DictAt s a) (hu:A.units < cLine):RcAt A s (.str b u) (.ref a) false:=fun prog w E Q hq=>by
 obtain ⟨dd,es,n,sl,ho⟩:=id h
 exact rc_eq_decline_or (k:=false) (Ta := "str") (Tb := "dict") (typeIs_str s b u) ⟨_,ho,rfl⟩ (by decide) PySem.F.sub_dict_str PySem.F.slot_str_eq PySem.F.slot_dict_eq_refl
  (fun _ hq=>call_meets PySem.F.slot_str_eq (typeIs_str s b u) PySem.F.entry_str_eq (PySem.F.args_str_eq_2 _ _) (str_declines_dict b u a (.type "dict") es n dd sl) ⟨ho,hq⟩)
  (fun _ hq=>zqw (T := "str") h.ty (typeIs_str s b u) PySem.F.sub_str_dict (h:=hq))
  (fun _ hq=>wpAny_of_eq (rfl:isSame (.str b u) (.ref a)=pure false) hq) (.inr hu) hq
theorem list_dictE {a l:Addr} {items:Array Value} (h:DictAt s a) (hl:s.heap.IsList l items) (hu:A.units < cLine):RcAt A s (.ref l) (.ref a) false:=fun prog w E Q hq=>by
 obtain ⟨dd,es,n,sl,ho⟩:=id h
 obtain ⟨⟨cls2,dd2,data2,sl2⟩,ho2,hc2,n2,hd2⟩:=id hl
 simp only at hc2 hd2
 subst hc2 hd2
 have hne:l≠a:=fun e=>by subst e; rw [ho] at ho2; simp at ho2
 exact rc_eq_decline_or (k:=false) (Ta := "list") (Tb := "dict") ⟨_,ho2,rfl⟩ ⟨_,ho,rfl⟩ (by decide) PySem.F.sub_dict_list PySem.F.slot_list_eq PySem.F.slot_dict_eq_refl
  (fun _ hq=>call_meets PySem.F.slot_list_eq ⟨_,ho2,rfl⟩ PySem.F.entry_list_eq (PySem.F.args_list_eq_2 _ _) (list_declines_dict l a items es n2 n dd2 dd sl2 sl) ⟨ho2,ho,hq⟩)
  (fun _ hq=>zqw (T := "list") h.ty ⟨_,ho2,rfl⟩ PySem.F.sub_list_dict (h:=hq))
  (fun _ hq=>wpAny_isSame_ref_other hne ho2 ho (by simp) hq) (.inr hu) hq
theorem tuple_dictE {a l:Addr} {items:Array Value} (h:DictAt s a) (hl:s.heap.IsTuple l items) (hu:A.units < cLine):RcAt A s (.ref l) (.ref a) false:=fun prog w E Q hq=>by
 obtain ⟨dd,es,n,sl,ho⟩:=id h
 obtain ⟨⟨cls2,dd2,data2,sl2⟩,ho2,hc2,n2,hd2⟩:=id hl
 simp only at hc2 hd2
 subst hc2 hd2
 have hne:l≠a:=fun e=>by subst e; rw [ho] at ho2; simp at ho2
 exact rc_eq_decline_or (k:=false) (Ta := "tuple") (Tb := "dict") ⟨_,ho2,rfl⟩ ⟨_,ho,rfl⟩ (by decide) PySem.F.sub_dict_tuple PySem.F.slot_tuple_eq PySem.F.slot_dict_eq_refl
  (fun _ hq=>call_meets PySem.F.slot_tuple_eq ⟨_,ho2,rfl⟩ PySem.F.entry_tuple_eq (PySem.F.args_tuple_eq_2 _ _) (tuple_declines_dict l a items es n2 n dd2 dd sl2 sl) ⟨ho2,ho,hq⟩)
  (fun _ hq=>zqw (T := "tuple") h.ty ⟨_,ho2,rfl⟩ PySem.F.sub_tuple_dict (h:=hq))
  (fun _ hq=>wpAny_isSame_ref_other' hne ho2 ho (by simp) hq) (.inr hu) hq
end
section
open PySem.SeqAt PySem.MeetsSeq PySem.MeetsSeq2 PySem.MeetsSeq3 PySem.SeqRoads2
open PySem.AutoSeq1 (wpAny_loadPart')
variable {prog:Program} {w:World}
theorem ne_empty {A:Around} {E:Value->Shared->Prop} {s:Shared} {p q:Addr} {xs:Array Value} {Q:Value->Shared->Prop} (hl:s.heap.IsTuple p xs) (hr:s.heap.IsTuple q #[]) (hu:A.units < cLine)
  (fin:Q (.bool (xs.size != 0)) s):wpAny (model prog w) A (richCompare .NotEq (.ref p) (.ref q)) Q E s:=by
 obtain ⟨⟨k1,d1,v1,z1⟩,e1,rfl,c1,rfl⟩:=hl
 obtain ⟨⟨k2,d2,v2,z2⟩,e2,rfl,c2,rfl⟩:=hr
 have meets:MeetsIn prog w (Builtin.«tuple.__ne__» ⟨[.ref p,.ref q],[]⟩) (fun A R s=>s.heap.get? p=some ⟨.type "tuple",d1,.seq xs c1,z1⟩/\s.heap.get? q=some ⟨.type "tuple",d2,.seq #[] c2,z2⟩ /\
   R (.ok (.ret (.bool (xs.size != 0)))) s) := .of_wp fun A R s hh=>by
  obtain ⟨hp,gg,dd,tk,os⟩:=s
  obtain ⟨e1,e2,fin⟩:=hh
  have sub:=PySem.AutoSeq1.sub_tuple_tuple
  wp_walk using wpAny_loadPart' e1,wpAny_loadPart' e2,wpAny_forIn_list _ (fun left acc st=>acc.1=none/\st=⟨hp,gg,dd,tk,os⟩/\left=[]) _
  case turn =>
   rintro ⟨x,y⟩ left acc st ⟨e0,rfl,el⟩
   cases el
  case fin =>
   rintro ⟨a1,a2⟩ st ⟨e0,rfl,el⟩
   have e0':a1=none:=e0
   subst e0'
   wp_walk
   refine ⟨_,rfl,?_⟩
   simpa [Builtin.Tuple.tupleCompareSizes] using fin
  case h =>
   exact ⟨rfl,rfl,by simp⟩
 refine wpAny_richCompare_same_room (T := "tuple") (op := .NotEq) ⟨_,e1,rfl⟩ ⟨_,e2,rfl⟩ PySem.F.slot_tuple_ne (call_meetsIn PySem.F.slot_tuple_ne ⟨_,e1,rfl⟩ PySem.F.entry_tuple_ne (PySem.F.args_tuple_ne_2 _ _) meets ⟨e1,e2,?_⟩) hu
 exact ⟨(fun z=>nomatch z),fin⟩
theorem eq_list0 {A:Around} {E:Value->Shared->Prop} {s:Shared} {p q:Addr} {xs:Array Value} {Q:Value->Shared->Prop} (hl:s.heap.IsList p xs) (hr:s.heap.IsList q #[]) (hz:xs.size≠0) (hu:A.units < cLine)
  (fin:Q (.bool false) s):wpAny (model prog w) A (richCompare .Eq (.ref p) (.ref q)) Q E s:=by
 obtain ⟨⟨k1,d1,v1,z1⟩,e1,rfl,c1,rfl⟩:=hl
 obtain ⟨⟨k2,d2,v2,z2⟩,e2,rfl,c2,rfl⟩:=hr
 have meets:MeetsIn prog w (Builtin.«list.__eq__» ⟨[.ref p,.ref q],[]⟩) (fun A R s=>s.heap.get? p=some ⟨.type "list",d1,.seq xs c1,z1⟩/\s.heap.get? q=some ⟨.type "list",d2,.seq #[] c2,z2⟩ /\
   R (.ok (.ret (.bool false))) s):=fun A R s hh=>by
  obtain ⟨hp,gg,dd,tk,os⟩:=s
  obtain ⟨e1,e2,fin⟩:=hh
  have sub:=PySem.AutoSeq1.sub_list_list
  have ns:(xs.size != (#[]:Array Value).size)=true:=by simpa using hz
  wp_walk using wpAny_loadPart' e1,wpAny_loadPart' e2
  exact fin
 refine wpAny_richCompare_same_room (T := "list") (op := .Eq) ⟨_,e1,rfl⟩ ⟨_,e2,rfl⟩ PySem.F.slot_list_eq (call_meetsIn PySem.F.slot_list_eq ⟨_,e1,rfl⟩ PySem.F.entry_list_eq (PySem.F.args_list_eq_2 _ _) meets ⟨e1,e2,?_⟩) hu
 exact ⟨(fun z=>nomatch z),fin⟩
end
def leafK:D->Bool
 | .non=>true
 | .bl _=>true
 | .int _=>true
 | .str _=>true
 | .tup _=>true
 | .lst _=>true
 | _=>false
def eqMD (x y:D) (S:Sto):R D:=match zjq x S,zjq y S with
 | none,some _=>if leafK x=true then .ok (.bl false) S else eq4D false x y S
 | _,_=>eq4D false x y S
def eqLE (x y:D) (S:Sto):R D:=match x,y with
 | .lst (_ :: _),.lst []=>.ok (.bl false) S
 | x,y=>eq4D false x y S
def neTE (x y:D) (S:Sto):R D:=match x,y with
 | .tup ds,.tup []=>.ok (.bl (ds.length != 0)) S
 | x,y=>eq4D true x y S
section
variable {X:Cx} {g:G} {E:XD}
theorem od_eqMD (hK:X.K=g.K) (hu:X.A.units+65 < cLine):OpR X (compareOp .Eq) (rD2 g E eqMD):=by
 intro pins s σ H x y v u Q I rx ry h
 obtain ⟨m,S,d,d',r,h1,h2,q⟩:=h
 have old:Aft g E m H (eq4D false d d' S) (vQ g Q)->wpAny (model X.prog X.w) X.A (compareOp .Eq v u) (EP X pins σ Q) X.xe s:=fun q=>od_eq4 hK hu pins s σ H x y v u Q I rx ry ⟨m,S,d,d',r,h1,h2,q⟩
 unfold eqMD at q
 split at q
 ·rename_i z e0 e
  split at q
  ·rename_i hk
   obtain ⟨a,rfl,hda⟩:=dictAt_of I hK r h2 ry (by rw [e]; rfl)
   have fin:∀{v:Value},SeqAt.RcAt X.A s v (.ref a) false->wpAny (model X.prog X.w) X.A (compareOp .Eq v (.ref a)) (EP X pins σ Q) X.xe s:=fun h=>h _ _ _ _ ⟨.bl false,H,I,rfl,q.ok r _ zqr⟩
   cases d with
   | non =>
    rw [of_non h1] at rx
    cases rx
    exact fin (none_dictE hda (by omega))
   | bl b =>
    rw [of_bl h1] at rx
    cases rx
    exact fin (bool_dictE _ hda (by omega))
   | int i =>
    rw [zq6 h1] at rx
    obtain ⟨t,rfl⟩:=rx
    exact fin (int_dictE _ _ hda (by omega))
   | str z =>
    rw [zqo h1] at rx
    obtain ⟨t,rfl⟩:=rx
    exact fin (str_dictE _ _ hda (by omega))
   | tup ds =>
    obtain ⟨b,vs,rfl,hs,_⟩:=zjc h1
    obtain rfl:v=Value.ref b:=rx
    obtain ⟨_,its,_,ht⟩:=(show ObjOk X.prog X.w H s.heap b (.tup vs) from I.hok b _ hs.1)
    exact fin (tuple_dictE hda ht (by omega))
   | lst ds =>
    obtain ⟨b,vs,rfl,hs,_⟩:=of_lst h1
    obtain rfl:v=Value.ref b:=rx
    obtain ⟨_,its,n,_,ht⟩:=(show ObjOk X.prog X.w H s.heap b (.lst vs) from I.hok b _ hs)
    exact fin (list_dictE (items:=its.toArray) hda ⟨_,ht,rfl,n,rfl⟩ (by omega))
   | _=>cases hk
  ·exact old q
 ·exact old q
theorem od_neTE (hK:X.K=g.K) (hu:X.A.units+65 < cLine):OpR X (compareOp .NotEq) (rD2 g E neTE):=by
 intro pins s σ H x y v u Q I rx ry h
 obtain ⟨m,S,d,d',r,h1,h2,q⟩:=h
 unfold neTE at q
 split at q
 ·rename_i ds
  obtain ⟨a,vs,rfl,h3,h4⟩:=zjc h1
  obtain ⟨b,ws,rfl,h5,h6⟩:=zjc h2
  obtain rfl:v=Value.ref a:=rx
  obtain rfl:u=Value.ref b:=ry
  rw [(show RVs g m H [] ws from h6).nil_iff] at h5
  obtain ⟨_,its,p1,ht⟩:=(show ObjOk X.prog X.w H s.heap a (.tup vs) from I.hok a _ h3.1)
  obtain ⟨_,its2,p2,ht2⟩:=(show ObjOk X.prog X.w H s.heap b (.tup []) from I.hok b _ h5.1)
  cases p2
  refine ne_empty (xs:=its.toArray) ht ht2 (by omega) ⟨.bl (ds.length != 0),H,I,?_,q.ok r _ zqr⟩
  have e:its.length=ds.length:=by rw [← p1.length,h4.length]
  show Value.bool (its.length != 0)=Value.bool (ds.length != 0)
  rw [e]
 ·exact od_ne4 hK hu pins s σ H x y v u Q I rx ry ⟨m,S,_,_,r,h1,h2,q⟩
theorem od_eqLE (hK:X.K=g.K) (hu:X.A.units+65 < cLine):OpR X (compareOp .Eq) (rD2 g E eqLE):=by
 intro pins s σ H x y v u Q I rx ry h
 obtain ⟨m,S,d,d',r,h1,h2,q⟩:=h
 unfold eqLE at q
 split at q
 ·rename_i d0 ds
  obtain ⟨a,vs,rfl,h3,_,h4⟩:=of_lst h1
  obtain ⟨b,ws,rfl,h5,_,h6⟩:=of_lst h2
  obtain rfl:v=Value.ref a:=rx
  obtain rfl:u=Value.ref b:=ry
  rw [(show RVs g m H [] ws from h6).nil_iff] at h5
  obtain ⟨_,its,n1,p1,ht⟩:=(show ObjOk X.prog X.w H s.heap a (.lst vs) from I.hok a _ h3)
  obtain ⟨_,its2,n2,p2,ht2⟩:=(show ObjOk X.prog X.w H s.heap b (.lst []) from I.hok b _ h5)
  cases p2
  have e:its.length=ds.length+1:=by rw [← p1.length,h4.length,List.length_cons]
  exact eq_list0 (xs:=its.toArray) ⟨_,ht,rfl,n1,rfl⟩ ⟨_,ht2,rfl,n2,rfl⟩ (by rw [List.size_toArray,e]; omega) (by omega) ⟨.bl false,H,I,rfl,q.ok r _ zqr⟩
 ·exact od_eq4 hK hu pins s σ H x y v u Q I rx ry ⟨m,S,_,_,r,h1,h2,q⟩
end
end VL
namespace VL
open PySem PySem.Spec PyProof.Rows L2 PySem.Calls
def oddV:Option Bool->Value
 | none=>.none
 | some b=>.bool b
def oddVV:Option Bool->V
 | none=>.non
 | some b=>.bl b
def oddDD:Option Bool->D
 | none=>.non
 | some b=>.bl b
def oddL:Option Bool->Leaf
 | none=>.none
 | some b=>.num (if b then 1 else 0)
def oddIs:Option Bool->Value->Bool
 | none,.none=>true
 | some b,.bool c=>b == c
 | _,_=>false
theorem odd_eq:∀{k:Option Bool} {v:Value},oddIs k v=true->v=oddV k
 | none,.none,_=>rfl
 | some b,.bool c,h=>by
  have e:b=c:=by simpa [oddIs] using h
  rw [e]
  rfl
theorem odd_is (k:Option Bool):oddIs k (oddV k)=true:=by
 cases k <;> simp [oddIs,oddV]
theorem odd_leaf {k:Option Bool} {v:Value} (h:oddIs k v=true):Leaf.isOf (oddL k) v=true:=by
 rw [odd_eq h]
 cases k with
 | none=>rfl
 | some b=>cases b <;> rfl
theorem oddL_inj:∀{a b:Option Bool},oddL a=oddL b->a=b
 | none,none,_=>rfl
 | none,some b,h=>by cases h
 | some a,none,h=>by cases h
 | some a,some b,h=>by
  cases a <;> cases b <;> first | rfl | (simp [oddL] at h)
def oddKind (prog:Program) (w:World):KeyKind prog w (Option Bool) where
 is:=oddIs
 hash:=fun k=>(oddL k).key.hash w
 inj:=fun v a b ha hb=>oddL_inj (Leaf.key_inj (NestedIs.inj (h:=default) _ _ v (Leaf.nested (odd_leaf ha)) (Leaf.nested (odd_leaf hb))))
 byValue:=fun _ _ h=>Leaf.byValue (odd_leaf h)
 pyHash:=fun hv h=>pyHash_leaf (odd_leaf hv) h
 eqBool:=fun {A E s a b u v Q} hu hv h=>by
  have e:decide (a=b)=decide (oddL a=oddL b):=by
   by_cases q:a=b
   ·rw [decide_eq_true q,decide_eq_true (congrArg oddL q)]
   ·rw [decide_eq_false q,decide_eq_false fun r=>q (oddL_inj r)]
  rw [e] at h
  exact eqAt_leaf (odd_leaf hu) (odd_leaf hv) _ _ _ _ h
 «strs» := fun k x t v h=>by cases k <;> exact absurd h Bool.false_ne_true
theorem dictOf_nil {prog:Program} {w:World} {K K':Type} [DecidableEq K] [DecidableEq K'] {k1:KeyKind prog w K} {k2:KeyKind prog w K'} {h:Heap} {a:Addr} (d:h.DictOf k1 a []):h.DictOf k2 a []:=by
 obtain ⟨o,es,ep,h1,h2,h3,h4,h5,h6⟩:=d
 have e:es.toList=[]:=List.length_eq_zero_iff.mp (by have:=h5.length; simpa using this)
 have e2:es=#[]:=Array.toList_eq_nil_iff.mp e
 subst e2
 exact ⟨o,#[],ep,h1,h2,h3,fun x hx=>absurd hx (by simp),by rw [e]; exact .nil,List.nodup_nil⟩
theorem one_obj {o:Obj} {e:DictEntry} {es:Array DictEntry} {ep:Nat} (h1:o.ExactDict) (h2:o.data=.dict es ep) (h3:es.toList=[e]):o={ cls := .type "dict",data := .dict #[e] ep }:=by
 obtain ⟨c,d,dt,sl⟩:=o
 obtain ⟨rfl,rfl,rfl⟩:=h1
 have e2:es=#[e]:=by
  apply Array.toList_inj.mp
  rw [h3]
 subst e2
 simp only at h2
 subst h2
 rfl
theorem odd_obj {P:Program} {w:World} {h:Heap} {a:Addr} {k:Option Bool} {u:Value} (d:h.DictOf (oddKind P w) a [(k,u)]):∃hs ep,h.get? a=some { cls := .type "dict",data := .dict #[⟨hs,oddV k,u⟩] ep }:=by
 obtain ⟨o,es,ep,h1,h2,h3,h4,h5,h6⟩:=d
 cases hl:es.toList with
 | nil =>
  rw [hl] at h5
  cases h5
 | cons e r =>
  rw [hl] at h5
  cases h5 with
  | cons q1 q2 q3 =>
   cases q3
   obtain ⟨hs,kk,vv⟩:=e
   simp only at q1 q2
   have:=odd_eq (show oddIs k kk=true from q1)
   subst this
   subst q2
   exact ⟨hs,ep,by rw [h1,one_obj h2 h3 hl]⟩
theorem odo_ok {P:Program} {w:World} {H:Hp} {h:Heap} {a:Addr} {hs:Int} {k v:Value} {ep:Nat} (h0:(a == sysModules)=false) (e:h.get? a=some { cls := .type "dict",data := .dict #[⟨hs,k,v⟩] ep }):ObjOk P w H h a (OdO a hs ep k v) :=
 ⟨e,⟨h0,e⟩,⟨_,e⟩,fun _ _ ⟨q0,q⟩ kk=>⟨q0,kk _ q⟩⟩
theorem odo_at {P:Program} {w:World} {H:Hp} {h:Heap} {a a':Addr} {hs:Int} {k v:Value} {ep:Nat} (x:ObjOk P w H h a (OdO a' hs ep k v)):h.get? a=some { cls := .type "dict",data := .dict #[⟨hs,k,v⟩] ep }:=x.1
theorem odo_sm {P:Program} {w:World} {H:Hp} {h:Heap} {a a':Addr} {hs:Int} {k v:Value} {ep:Nat} (x:ObjOk P w H h a (OdO a' hs ep k v)):(a == sysModules)=false:=by
 obtain ⟨e,⟨h0,h1⟩,⟨o2,e2⟩,st⟩:=x
 have ee:a'=a:=by
  refine Decidable.byContradiction fun ne=>?_
  have q:=st h (h.update a' fun _=>{ cls := .none,data := .seq #[] }) ⟨h0,h1⟩ fun u hu=>(Heap.get?_update_other _ _ ne).trans hu
  obtain ⟨_,k1⟩:=q
  have e:=Heap.get?_update_self (fun _:Obj=>({ cls := .none,data := .seq #[] }:Obj)) h1 rfl
  rw [e] at k1
  cases k1
 rw [← ee]
 exact h0
section
variable {X:Cx} {g:G} {E:XD} {m:Mp} {S:Sto} {H:Hp}
def tDispO (trs:List (TE × TE)):TE:=fun σ H Q=>∀p,H p=none->tPairs trs σ (upd H p (.dK [])) fun ps H2=>H2 p=some (.dK [])/\∃(k:Option Bool) (z:V),ps=[(oddVV k,z)]/\∀r hs ep,L2.RelV z r->Q (.ref p) (upd H2 p (OdO p hs ep (oddV k) r))
theorem pe_dispO {pos:Pos} {keys:List (Option Expr)} {values:List Expr} {trs:List (TE × TE)} (h:PPs X pos keys values trs) (hall:keys.all (·.isSome)=true) (hl:keys.length=values.length) (h0:keys≠[])
  (h15:keys.length<=15):PE X (.Dict keys values pos) (tDispO trs):=by
 refine ⟨fun pins s σ H Q I q=>?_⟩
 have hn:=I.hok.fresh (Nat.le_refl s.heap.objs.size)
 have I1:=I.laid (a:=s.heap.objs.size) (o := .dK []) (h':=s.heap.push { cls := .type "dict",data := .dict #[] }) (t':=s.toks) (fun _ _ q=>Heap.get?_push_of_some _ q) (Nat.le_refl _) (dk_empty s.heap I.big)
 refine wpAny_Dict_walk (knd:=oddKind X.prog X.w) hall hl h0 h15 (thn (h.run pins _ σ _ _ I1 (q _ hn)) fun ws s2 ⟨ps,H2,I2,rel,e,k,z,ep,q2⟩=>?_)
 subst ep
 cases rel with
 | @cons p0 w0 _ ws' hpw t =>
  cases t
  obtain ⟨w1,w2⟩:=w0
  obtain ⟨r1,r2⟩:=hpw
  have ew:w1=oddV k:=by
   cases k with
   | none=>exact r1
   | some b=>exact r1
  subst ew
  obtain ⟨_,hd,vs0,r0,dd⟩:=dk_of I2.hok e
  cases r0
  refine ⟨[(k,w2)],⟨odd_is k,rfl,True.intro⟩,dictOf_nil dd,fun h' dd' hs=>?_⟩
  have dd2:h'.DictOf (oddKind X.prog X.w) s.heap.objs.size [(k,w2)]:=dd'
  obtain ⟨hx,ep,ho⟩:=odd_obj dd2
  exact ⟨.ref s.heap.objs.size,_,d_write I2 (by rw [e]; exact True.intro) hs ⟨_,ho⟩ (odo_ok hd ho),rfl,q2 w2 hx ep r2⟩
def odd0 (kds:List (D × D)) (S:Sto):R D:=match kds with
 | [(.non,.int i)]=>.ok (.ref S.length) (S++[.odk .non i])
 | [(.bl b,.int i)]=>.ok (.ref S.length) (S++[.odk (.bl b) i])
 | _=>.bad
def eOdd (ek ev:EF):EF:=fun L S=>(prsD [(ek,ev)] L S).calm.bind fun kds S1=>odd0 kds S1
theorem de_odd {pos:Pos} {ek ev:EF} {keys:List (Option Expr)} {values:List Expr} (h:PPs X pos keys values [(tD g NoX ek,tD g NoX ev)]) (hall:keys.all (·.isSome)=true) (hl:keys.length=values.length) (h0:keys≠[]) (h15:keys.length<=15) :
  PE X (.Dict keys values pos) (tD g E (eOdd ek ev)):=by
 refine (pe_dispO h hall hl h0 h15).imp fun σ H Q h=>?_
 obtain ⟨m,S,L,r,l,q⟩:=h
 intro p hp
 have mk:=Mk1.start (o := .dK []) r hp
 refine prs_run (ps:=[(ek,ev)]) mk.r (l.extw mk.ex) ((Aft.calmA q (m.hold p) _).mono fun kds m2 S2 H2 e2 r2 q2 vvs hv=>?_)
 have mk2:=mk.on e2 r2
 have fin:∀(k:Option Bool) (i:Int) (vy vz:V),RV g m2 H2 (oddDD k) vy->RV g m2 H2 (.int i) vz->Aft g E m H (.ok (.ref S2.length) (S2++[.odk (oddDD k) i])) (vQ g Q)->vvs=[(vy,vz)] ->
   H2 p=some (.dK [])/\∃(k:Option Bool) (z:V),vvs=[(oddVV k,z)]/\∀r hs ep,L2.RelV z r->Q (.ref p) (upd H2 p (OdO p hs ep (oddV k) r)):=by
  intro k i vy vz h1 h2 q3 hv'
  have ey:vy=oddVV k:=by
   cases k with
   | none=>exact of_non h1
   | some b=>exact of_bl h1
  subst ey
  have ez:=zq6 h2
  subst ez
  refine ⟨mk2.at_,k,.int i,hv',fun r0 hs ep hr=>?_⟩
  obtain ⟨t,rfl⟩:=hr
  obtain ⟨e7,k7⟩:=mk2.step (o':=OdO p hs ep (oddV k) (.int i t)) hp
  obtain ⟨_,he2,hr2,hl2⟩:=k7.toSto (ob := .odk (oddDD k) i) r hp ⟨p,hs,ep,oddVV k,oddV k,t,rfl,by cases k <;> exact rfl,h1.extw e7⟩
  exact q3.at he2 hr2 _ (rv_ref hl2)
 unfold odd0 at q2
 split at q2
 ·cases hv with
  | cons h1 h2 h3 =>
   cases h3
   exact fin none _ _ _ h1 h2 q2 rfl
 ·cases hv with
  | cons h1 h2 h3 =>
   cases h3
   exact fin (some _) _ _ _ h1 h2 q2 rfl
 ·exact q2.elim
def tDispT (X:Cx) (trs:List (TE × TE)):TE:=fun σ H Q=>∀p,H p=none->tPairs trs σ (upd H p (NsO X.w p [])) fun ps H2=>H2 p=some (NsO X.w p [])/\∃(y:V) (z:V) (k:NestedKey) (b:Addr),ps=[(y,z)]/\y=.ref b /\
 (∀s:Shared,HOk X.prog X.w H2 s.heap->(nestedKind X.prog X.w).is s.heap k b)/\∀r hs ep,L2.RelV z r->Q (.ref p) (upd H2 p (OdO p hs ep (.ref b) r))
theorem pe_dispT {pos:Pos} {keys:List (Option Expr)} {values:List Expr} {trs:List (TE × TE)} (hu:X.A.units+64 < cLine) (h:PPs X pos keys values trs) (hall:keys.all (·.isSome)=true) (hl:keys.length=values.length) (h0:keys≠[])
  (h15:keys.length<=15):PE X (.Dict keys values pos) (tDispT X trs):=by
 refine ⟨fun pins s σ H Q I q=>?_⟩
 have hn:=I.hok.fresh (Nat.le_refl s.heap.objs.size)
 have I1:=I.laid (a:=s.heap.objs.size) (o:=NsO X.w s.heap.objs.size []) (h':=s.heap.push { cls := .type "dict",data := .dict #[] }) (t':=s.toks) (fun _ _ q=>Heap.get?_push_of_some _ q) (Nat.le_refl _)
  (nso_new (beq_eq_false_iff_ne.mpr (Ne.symm (Nat.ne_of_lt I.big))) ⟨_,#[],0,Heap.get?_push_size _ rfl,⟨rfl,rfl,rfl⟩,rfl,rfl⟩)
 have hpl:=pairTrees_length keys values X.env pos hall hl
 have hp0:pairTrees keys values X.env pos≠[]:=fun he=>by
  rw [he] at hpl
  exact h0 (List.length_eq_zero_iff.mp hpl.symm)
 rw [arm_eval_Dict,zip_pairTrees keys values X.env pos hall hl,dictDisplay_pairs (pairTrees keys values X.env pos) hp0 (by omega)]
 refine wpAny_bind (wpAny_standAt (wpAny_bind (wpAny_subDictH (knd:=nestedKind X.prog X.w) (Q:=fun d s'=>wpAny (model X.prog X.w) X.A (pure (Value.ref d)) (EP X pins σ Q) X.xe s') (show X.A.units+8 < cLine by omega) (by omega)
  (thn (h.run pins _ σ _ _ I1 (q _ hn)) fun ws s2 ⟨ps,H2,I2,rel,e,y,z,k,b,ep,ey,hk,q2⟩=>?_))))
 subst ep ey
 cases rel with
 | @cons p0 w0 _ ws' hpw t =>
  cases t
  obtain ⟨w1,w2⟩:=w0
  obtain ⟨r1,r2⟩:=hpw
  cases (show w1=Value.ref b from r1)
  obtain ⟨_,hs,dd⟩:=nso_heap I2 e kok_nil
  refine ⟨[(k,b,w2)],⟨rfl,rfl,hk s2 I2.hok,True.intro⟩,dd,fun h' tk dd' sb=>?_⟩
  obtain ⟨o',es',ep',k1,k2,k3,k4,_,k6⟩:=dd'
  exact wpAny_pure ⟨.ref s.heap.objs.size,_,d_write I2 (by rw [e]; exact True.intro) sb ⟨o',k1⟩ (odo_ok hs (k1.trans (congrArg some (one_obj k2 k3 k4)))),rfl,q2 w2 _ _ r2⟩
def odd1 (kds:List (D × D)) (S:Sto):R D:=match kds with
 | [(.tup [],.int i)]=>.ok (.ref S.length) (S++[.odk (.tup []) i])
 | _=>.bad
def eOddT (ek ev:EF):EF:=fun L S=>(prsD [(ek,ev)] L S).calm.bind fun kds S1=>odd1 kds S1
theorem de_oddT {pos:Pos} {ek ev:EF} {keys:List (Option Expr)} {values:List Expr} (hu:X.A.units+64 < cLine) (h:PPs X pos keys values [(tD g NoX ek,tD g NoX ev)]) (hall:keys.all (·.isSome)=true) (hl:keys.length=values.length) (h0:keys≠[]) (h15:keys.length<=15) :
  PE X (.Dict keys values pos) (tD g E (eOddT ek ev)):=by
 refine (pe_dispT hu h hall hl h0 h15).imp fun σ H Q h=>?_
 obtain ⟨m,S,L,r,l,q⟩:=h
 intro p hp
 have mk:=Mk1.start (o:=NsO X.w p []) r hp
 refine prs_run (ps:=[(ek,ev)]) mk.r (l.extw mk.ex) ((Aft.calmA q (m.hold p) _).mono fun kds m2 S2 H2 e2 r2 q2 vvs hv=>?_)
 have mk2:=mk.on e2 r2
 unfold odd1 at q2
 split at q2
 ·rename_i i
  cases hv with
  | cons h1 h2 h3 =>
   cases h3
   rename_i vy vz
   have h1':=h1
   obtain ⟨b,vs,rfl,_,_⟩:=zjc h1
   have ez:=zq6 h2
   subst ez
   have e0:nkD (.tup [])=some (.tup []):=rfl
   refine ⟨mk2.at_,.ref b,.int i,.tup [],b,rfl,rfl,fun s hok=>⟨nk_is (v := .ref b) (g:=g) (m:=m2) hok (by rw [dk_nk e0]; exact h1') rfl,by decide⟩,fun r0 hs ep hr=>?_⟩
   obtain ⟨t,rfl⟩:=hr
   obtain ⟨e7,k7⟩:=mk2.step (o':=OdO p hs ep (.ref b) (.int i t)) hp
   obtain ⟨_,he2,hr2,hl2⟩:=k7.toSto (ob := .odk (.tup []) i) r hp ⟨p,hs,ep,.ref b,.ref b,t,rfl,rfl,h1.extw e7⟩
   exact q2.at he2 hr2 _ (rv_ref hl2)
 ·exact q2.elim
def eDispO (ek ev:EF):EF:=fun L S=>match (prsD [(ek,ev)] L S).calm with
 | .ok [(.non,.int _)] _=>eOdd ek ev L S
 | .ok [(.bl _,.int _)] _=>eOdd ek ev L S
 | .ok [(.tup [],.int _)] _=>eOddT ek ev L S
 | _=>eDisp false [(ek,ev)] L S
theorem de_dispO {pos:Pos} {ek ev:EF} {keys:List (Option Expr)} {values:List Expr} (hu:X.A.units+64 < cLine) (h:PPs X pos keys values [(tD g NoX ek,tD g NoX ev)]) (hall:keys.all (·.isSome)=true) (hl:keys.length=values.length) (h0:keys≠[]) (h15:keys.length<=15) :
  PE X (.Dict keys values pos) (tD g E (eDispO ek ev)):=by
 refine ⟨fun pins s σ H Q I hh=>?_⟩
 obtain ⟨m,S,L,r,l,q⟩:=hh
 unfold eDispO at q
 split at q
 ·exact (de_odd (E:=E) h hall hl h0 h15).run pins s σ H Q I ⟨m,S,L,r,l,q⟩
 ·exact (de_odd (E:=E) h hall hl h0 h15).run pins s σ H Q I ⟨m,S,L,r,l,q⟩
 ·exact (de_oddT (E:=E) hu h hall hl h0 h15).run pins s σ H Q I ⟨m,S,L,r,l,q⟩
 ·exact (de_disp (E:=E) (mu:=false) (ps:=[(ek,ev)]) h hall hl h0 h15).run pins s σ H Q I ⟨m,S,L,r,l,q⟩
def isiO (x:D) (S:Sto):R D:=match x with
 | .ref n=>(match S[n]? with
  | some (.odk _ _)=>.ok (.bl true) S
  | _=>isiD .dict x S)
 | x=>isiD .dict x S
theorem call_isiO:CallR X (.builtin "isinstance") (fun xs H Q=>rIsi X.K xs H Q∨∃a a' hs ep k v,xs=[.ref a,.ty "dict"]/\H a=some (OdO a' hs ep k v)/\Q (.bl true) H):=by
 intro pins s σ H xs us Q I r h
 rcases h with h | ⟨a,a',hs,ep,k,v,rfl,e,q⟩
 ·exact call_isi pins s σ H xs us Q I r h
 ·obtain ⟨u1,u2,rfl,r1,r2⟩:=vals2 r
  obtain rfl:u1=Value.ref a:=r1
  obtain rfl:u2=Value.type "dict" := r2
  exact IsiPair.dict_dict (odo_at (I.hok a _ e)) rfl ⟨.bl true,H,I,rfl,q⟩
theorem de_isiO {a:Expr} {ea:EF} {p p2 pos:Pos} (hK:X.K=g.K) (hgi:Gl X "isinstance") (hmi:X.mg "isinstance" = none) (hg:Gl X "dict") (hm:X.mg "dict" = none) (hv:bootBuiltins "dict" = some (.type "dict")) (ha:PE X a (tD g E ea))
  (he:starEach [a,.Name "dict" p2] X.env=[(false,eval a X.env),(false,eval (.Name "dict" p2) X.env)]:=by rfl) (hs2:starEach [Expr.Name "dict" p2] X.env=[(false,eval (.Name "dict" p2) X.env)]:=by rfl) :
  PE X (.Call (.Name "isinstance" p) [a,.Name "dict" p2] [] pos) (tD g E (eUn isiO ea)):=by
 refine (pe_callB call_isiO hgi hmi (by decide +kernel) (pa_cons ha (pa_cons (pe_bltn (v := .ty "dict") hg hm hv rfl (by decide) (by decide)) pa_nil hs2) (by rw [he,hs2])) (by decide) (by decide) (by rw [he,hs2]) (by rw [hs2]; rfl)).imp fun σ H Q h=>?_
 obtain ⟨m,S,L,r,l,q⟩:=h
 refine ⟨m,S,L,r,l,(Aft.bind q).mono fun d m1 S1 H1 e1 r1 q1 v rv=>?_⟩
 have old:Aft g E m1 H1 (isiD .dict d S1) (vQ g Q)->rIsi X.K [v,.ty "dict"] H1 Q∨∃a a' hs ep k w,[v,V.ty "dict"]=[.ref a,.ty "dict"]/\H1 a=some (OdO a' hs ep k w)/\Q (.bl true) H1:=fun q1=>by
  unfold isiD at q1
  split at q1
  ·rename_i t e
   exact .inl ⟨v,.ty "dict",.type t.nm,.type "dict",isTg t .dict,rfl,.ty _,by rw [hK]; exact tg_run r1 rv e,kit_ty (isTg_ok t .dict),q1.ok r1 _ zqr⟩
  ·exact q1.elim
 unfold isiO at q1
 split at q1
 ·rename_i n
  split at q1
  ·rename_i k i e0
   obtain ⟨a,o,rfl,hl,h1,a',hs,ep,kv,ku,t,rfl,h2,h3⟩:=r1.at rv e0 (by intro z; cases z)
   exact .inr ⟨a,a',hs,ep,ku,_,rfl,h1,q1.ok r1 _ zqr⟩
  ·exact old q1
 ·exact old q1
def ItO (d:Addr) (o:HO) (kv:V) (j:Int):It:=⟨fun i H=>H d=some o/\i < 1,fun _ H x H'=>∃T,x=.ref T/\H T=none/\H'=upd H T (.tup [kv,.int j]),fun i H=>H d=some o/\1<=i⟩
theorem turn_itemsO {P:Program} {w:World} {K:PySem.W.Frag} {elts:List Expr} {kk:Nat} {tpos:Pos} (it d a':Addr) (hs:Int) (ep:Nat) (ku:Value) (t:Tok) (j:Int) (kv:V) (rk:L2.RelV kv ku) :
  Turn P w K (.Tuple elts kk tpos) (ItO d (OdO a' hs ep ku (.int j t)) kv j) [it] it (fun i h=>∃ok ov,h.get? it=some (DVw.itmOb d .none i 1 ep ok ov)) where
 mem:=by simp
 obj:=fun i h st b hb=>by
  have e:b=it:=by simpa using hb
  subst e
  obtain ⟨ok,ov,e⟩:=st
  exact ⟨_,e,fun v z=>nomatch z⟩
 keep:=fun i h h' st k=>let ⟨ok,ov,e⟩:=st; ⟨ok,ov,k it (by simp) _ e⟩
 item:=by
  intro X hP hw hK hc i pins s σ H E I hf st hg
  subst hP hw hK
  obtain ⟨hd,hi⟩:=hg
  obtain rfl:i=0:=by omega
  have ho:=odo_at (I.hok d _ hd)
  obtain ⟨ok,ov,hit⟩:=st
  have hlt:it < s.heap.objs.size:=Heap.lt_size hit
  refine DVw.itm_item hit ho rfl rfl (e:=⟨hs,ku,.int j t⟩) rfl fun h' b1 b2 b3 b4=>?_
  refine ⟨_,rfl,wpAny_letOwnedTupleGo_items (s:={ s with heap:=h' }) (d:=d) (i:=0+1) (n:=1) (ep:=ep) (ok:=ku) (ov := .int j t) b1 fun h'' he' sb=>?_⟩
  have hT2:h''.get? s.heap.objs.size=some { cls := .type "tuple",data := .seq #[ku,.int j t] }:=(sb.2 _ (Nat.ne_of_gt hlt)).trans b2
  have new:ObjOk X.prog X.w (upd H s.heap.objs.size (.tup [kv,.int j])) h'' s.heap.objs.size (.tup [kv,.int j]) :=
   ⟨by show 2<=sizeLine; decide,[ku,.int j t],.cons rk (.cons ⟨t,rfl⟩ .nil),⟨_,hT2,rfl,_,rfl⟩⟩
  have I1:Inv X pins σ (upd H s.heap.objs.size (.tup [kv,.int j])) { s with heap:=h'' } :=
   I.turnedNew (t':=s.toks) (ch:=[it]) (fun b ob hb z=>(sb.2 b (by simpa using hb)).trans (b4 b ob (by simpa using hb) z)) hf (Nat.le_refl _) new
  refine ⟨.ref s.heap.objs.size,_,I1,rfl,⟨_,rfl,I.hok.fresh (Nat.le_refl _),rfl⟩,⟨ku,.int j t,he'⟩,fun b hb=>?_⟩
  have z:b=it:=by simpa using hb
  rw [z,upd_ne (Nat.ne_of_lt hlt)]
  exact (hf it (by simp)).1
 done:=by
  intro X hP hw hK hc i pins s σ H E I hf st hg
  subst hP hw hK
  obtain ⟨hd,hi⟩:=hg
  obtain ⟨f0,f1,f2,f3,f4,f5⟩:=hf it (by simp)
  have ho:=odo_at (I.hok d _ hd)
  obtain ⟨ok,ov,hit⟩:=st
  have he:(#[(⟨hs,ku,.int j t⟩:DictEntry)])[i]?=none:=Array.getElem?_eq_none (by simpa using hi)
  exact DVw.itm_end (I.ok.hd hc) hit ho rfl rfl he fun h' eb=>⟨rfl,I.turned (t':=s.toks) (fun b ob hb e=>eb b ob hb e) f0 f1 f3 f4 f5⟩
 self:=fun A i s Q E st h=>let ⟨_,_,e⟩:=st; PySem.W.kcp_self e h
theorem meets_items_raw {prog:Program} {w:World} (d:Addr) (hd:(d == sysModules)=false) :
  MeetsIn prog w (Builtin.«dict.items» ⟨[.ref d],[]⟩) (fun _ R s=>s.TypeIs (.ref d) "dict" /\
   R (.ok (.ret (.ref s.heap.objs.size))) { s with heap:=s.heap.push (DSub.viewOb "dict_items" d) }) :=
 .of_wp fun A R s ⟨hm,h⟩=>by
  unfold Builtin.«dict.items»
  refine wpAny_bind ?_
  unfold Builtin.Dict.noArgs
  refine wpAny_bind (wpAny_notOrdered_dict hm ?_)
  show wpAny _ _ (pure d) _ _ s
  refine wpAny_pure ?_
  show wpAny _ _ (Builtin.Dict.showsAll d >>= _) _ _ s
  unfold Builtin.Dict.showsAll
  rw [if_neg (by rw [hd]; exact Bool.false_ne_true)]
  refine wpAny_bind (wpAny_pure ?_)
  exact wpAny_bind (wpAny_newObj_type (wpAny_pure ⟨_,rfl,h⟩))
def wOdi (ea:EF):Lc->Sto->R Wk:=fun L S=>(ea L S).bind fun d S1=>match d with
 | .ref n=>(match S1[n]? with
  | some (.odk k i)=>.ok ⟨[.tup [k,.int i]],fun _=>true⟩ (S1.set n .dead)
  | _=>.bad)
 | _=>.bad
theorem di_odi {elts:List Expr} {kk:Nat} {tpos apos cpos:Pos} {e:Expr} {ea:EF} (he:PE X e (tD g E ea)) (hbase:attributeBase e "items" X.env (eval e X.env)=eval e X.env:=by rfl) (hline:(apos.endLine == cpos.line)=true:=by rfl) :
  PI X (.Tuple elts kk tpos) (.Call (.Attribute e "items" apos) [] [] cpos) (tI g E (wOdi ea)):=by
 refine ⟨fun pins s σ H R I h=>?_⟩
 obtain ⟨m,S,L,r,l,q⟩:=h
 refine wpAny_Call_method (T := "dict") (id := "dict.items") hbase rfl hline F.plainAttrs_dict F.slot_dict_items F.type_dict_items (thn (he.run pins s σ H (fun v H1=>∃d a' hs ep ku t j kv,v=.ref d/\H1 d=some (OdO a' hs ep ku (.int j t))/\L2.RelV kv ku/\R (ItO d (OdO a' hs ep ku (.int j t)) kv j) H1) I ⟨m,S,L,r,l,(Aft.bind q).mono fun d m1 S1 H1 e1 r1 q1 v rv=>?_⟩) fun u s1 ⟨v,H1,I1,ru,d,a',hs,ep,ku,t,j,kv,ev,hd,rk,q1⟩=>?_)
 ·split at q1
  ·rename_i n
   split at q1
   ·rename_i k i e0
    obtain ⟨a,o,rfl,hl,h1,a',hs,ep,kv,ku,t,rfl,h2,h3⟩:=r1.at rv e0 (by intro z; cases z)
    refine ⟨a,a',hs,ep,ku,t,i,kv,rfl,h1,h2,?_⟩
    have ek:Ext g m1 H1 (m1.kill n a) H1:=ext_kill hl
    have q2:=q1.at ek (r1.kill hl e0)
    refine q2 _ ?_
    intro i2 m2 S2 H2 e2 r2 _
    have un:=kill_un r1 hl
    have hH:H2 a=some (OdO a' hs ep ku (.int i t)):=((e2.own a _ h1 un).2).of fun z=>z
    refine ⟨fun z=>⟨hH,?_⟩,fun d hd=>⟨⟨hH,?_⟩,fun x H' hy=>?_⟩⟩
    ·have:=List.getElem?_eq_none_iff.mp z
     simpa using this
    ·have:=(List.getElem?_eq_some_iff.mp hd).1
     simpa using this
    ·have h0:i2=0:=by
      have:=(List.getElem?_eq_some_iff.mp hd).1
      simp at this
      exact this
     subst h0
     cases hd
     obtain ⟨T,rfl,hT,rfl⟩:=hy
     have e5:Ext g m2 H2 m2 (upd H2 T (.tup [kv,.int i])):=zqn r2 hT
     exact ⟨e5,r2.lay hT,zjn ⟨upd_same,r2.un hT⟩ (.cons (((h3.ext ek).extw e2.toExw).ext e5) (.cons zqm .nil))⟩
   ·exact q1.elim
  ·exact q1.elim
 ·subst ev
  obtain rfl:u=Value.ref d:=ru
  have ho:=odo_at (I1.hok d _ hd)
  have hsm:=odo_sm (I1.hok d _ hd)
  refine ⟨⟨_,ho,rfl⟩,?_,?_⟩
  ·intro o ho'
   cases ho'
   exact ⟨_,ho,rfl⟩
  ·have I2:Inv X pins σ H1 { s1 with heap:=s1.heap.push (DSub.viewOb "dict_items" d) }:=I1.kept (t':=s1.toks) fun b ob q=>Heap.get?_push_of_some _ q
   have fin:wpAny (model X.prog X.w) X.A (pyIter (.ref s1.heap.objs.size)) (PIE X pins σ (.Tuple elts kk tpos) R) X.xe { s1 with heap:=s1.heap.push (DSub.viewOb "dict_items" d) }:=by
    refine DSub.iter_itms (a:=d) (Heap.get?_push_size _ rfl) (Heap.get?_push_of_some _ ho) rfl ?_
    exact pi_one (tk:=s1.toks) I2 _ (turn_itemsO _ d a' hs ep ku t j kv rk) ⟨.none,.none,Heap.get?_push_size _ rfl⟩ q1
   show wpAny _ _ (callWith cpos (.builtin "dict.items") [.ref d] [] []) _ X.xe s1
   exact method_meetsIn F.slot_dict_items F.entry_dict_items rfl (PySem.evalArgs_none ⟨rfl,⟨_,ho,rfl⟩,F.args_dict_items_1 _,_,meets_items_raw d hsm,⟨_,ho,rfl⟩,fin⟩)
end
section
variable {X:Cx} {g:G} {E:XD} {pos:Pos} {elt tg iter:Expr} {ifs:List Expr} {scope:Scope} {own:List (Str × Nat)} {ea:EF} {t:D->Lc->Sto->R Lc} {tt:Lc->Sto->R Bool} {te:EF}
def isOdk (d:D) (S:Sto):Bool:=match d with
 | .ref n=>(match S[n]? with
  | some (.odk _ _)=>true
  | _=>false)
 | _=>false
def eLcO (ea:EF) (t:D->Lc->Sto->R Lc) (tt:Lc->Sto->R Bool) (te:EF) (vs:List Nat):EF:=fun L S=>match ea L S with
 | .ok d S1=>if isOdk d S1=true then eLc (wOdi ea) t tt te vs L S else eLcA .items ea t tt te vs L S
 | _=>eLcA .items ea t tt te vs L S
theorem de_lcO {vs:List Nat} (hc:X.calm=true) (hN:X.N.Nodup) (hvs:own.map (·.2)=vs) (hi:PIA X g E .items tg iter ea) (ho:PI X tg iter (tI g E (wOdi ea))) (ok:BlkOk X.N X.env.scope scope own)
  (hg:∀(s:Shared) (H:Hp) (C:Addr) (cl:List (Str × Addr)) (fp:List Addr),PG (X.blk s H scope (compEnvC scope cl C X.env) fp) tg (tG g NoX (WpP vs) t)) (ht:∀(s:Shared) (H:Hp) (C:Addr) (cl:List (Str × Addr)) (fp:List Addr),PTs (X.blk s H scope (compEnvC scope cl C X.env) fp) ifs (tT g NoX tt))
  (he:∀(s:Shared) (H:Hp) (C:Addr) (cl:List (Str × Addr)) (fp:List Addr),PE (X.blk s H scope (compEnvC scope cl C X.env) fp) elt (tD g NoX te)) (hs:∀x,foldedSetIterable iter X.env x=pure x:=by intro _; rfl) :
  PE X (.ListComp elt [⟨tg,iter,ifs,0⟩] scope pos) (tD g E (eLcO ea t tt te vs)):=by
 refine ⟨fun pins s σ H Q I h=>?_⟩
 obtain ⟨m,S,L,r,l,q⟩:=h
 unfold eLcO at q
 split at q
 ·split at q
  ·exact (de_lc hc hN hvs ho ok hg ht he hs).run pins s σ H Q I ⟨m,S,L,r,l,q⟩
  ·exact (de_lcA hc hN hvs hi ok hg ht he hs).run pins s σ H Q I ⟨m,S,L,r,l,q⟩
 ·exact (de_lcA hc hN hvs hi ok hg ht he hs).run pins s σ H Q I ⟨m,S,L,r,l,q⟩
end
end VL
namespace VL
open PySem PySem.Spec PyProof.Rows L2
section
variable {a b:Type} {Q Q':a->Sto->Prop}
theorem zq2 (x:a) (S:Sto):Ok (.ok x S) Q=Q x S:=propext ⟨fun h=>by obtain ⟨y,S',e,q⟩:=h.out; cases e; exact q,fun h=>⟨x,S,rfl,h⟩⟩
theorem zj0:Ok (.bad:R a) Q=False:=propext ⟨fun h=>(by obtain ⟨y,S',e,q⟩:=h.out; cases e),fun h=>h.elim⟩
theorem Ok_exc (c:String) (fs:List (Str × D)) (S:Sto):Ok (.exc c fs S:R a) Q=False:=propext ⟨fun h=>(by obtain ⟨y,S',e,q⟩:=h.out; cases e),fun h=>h.elim⟩
theorem zq5 (r:R b) (k:b->Sto->R a):Ok (r.bind k) Q=Ok r fun x S=>Ok (k x S) Q:=by cases r <;> simp only [R.bind_ok,R.bind_exc,R.bind_bad,zq2,Ok_exc,zj0]
theorem Ok_calm (r:R a):Ok r.calm Q=Ok r Q:=by
 cases r with
 | exc c fs S=>rw [Ok_exc,show (R.exc c fs S:R a).calm=.bad from rfl,zj0]
 | _=>rfl
theorem Ok_ite (c:Prop) [Decidable c] (x y:R a):Ok (if c then x else y) Q=if c then Ok x Q else Ok y Q:=by split <;> rfl
theorem Ok.mono {r:R a} (h:Ok r Q) (k:∀x S,Q x S->Q' x S):Ok r Q':=by
 obtain ⟨x,S,e,q⟩:=h.out
 exact ⟨x,S,e,k x S q⟩
end
section
variable {L:Lc} {S:Sto} {Q:D->Sto->Prop} {Qb:Bool->Sto->Prop} {Ql:List D->Sto->Prop} {Qf:Fl->Sto->Prop} {Qg:Lc->Sto->Prop} {Qw:Wk->Sto->Prop}
theorem ok_eC (d:D):Ok (eC d L S) Q=Q d S:=zq2 _ _
theorem ok_eUn (f:D->Sto->R D) (x:Lc->Sto->R D):Ok (eUn f x L S) Q=Ok (x L S) fun d S1=>Ok (f d S1) Q:=by simp only [eUn,zq5]
theorem zj3 (f:D->D->Sto->R D) (x y:Lc->Sto->R D):Ok (eBin f x y L S) Q=Ok (x L S) fun d S1=>Ok (y L S1) fun d' S2=>Ok (f d d' S2) Q:=by simp only [eBin,zq5]
theorem zqt:Ok (aNil L S) Ql=Ql [] S:=zq2 _ _
theorem zqi (x:Lc->Sto->R D) (y:Lc->Sto->R (List D)):Ok (aCons x y L S) Ql=Ok (x L S) fun d S1=>Ok (y L S1) fun ds S2=>Ql (d :: ds) S2:=by simp only [aCons,zq5,zq2]
theorem zqq (f:List D->Sto->R D) (x:Lc->Sto->R (List D)):Ok (zq7 f x L S) Q=Ok (x L S) fun d S1=>Ok (f d S1) Q:=by simp only [zq7,zq5]
theorem ok_newL {xs:List D}:Ok (newL xs S) Q=(xs.length<=sizeLine/\Q (.lst xs) S):=by
 unfold newL
 by_cases h:xs.length<=sizeLine
 ·rw [if_pos h,zq2]; simp [h]
 ·rw [if_neg h,zj0]; simp [h]
theorem ok_newM {xs:List D}:Ok (newM xs S) Q=(xs.length<=sizeLine/\Q (.ref S.length) (S++[.lst xs])):=by
 unfold newM
 by_cases h:xs.length<=sizeLine
 ·rw [if_pos h,zq2]; simp [h]
 ·rw [if_neg h,zj0]; simp [h]
theorem ok_eTup (x:Lc->Sto->R (List D)):Ok (eTup x L S) Q=Ok (x L S) fun ds S1=>ds.length<=sizeLine/\Q (.tup ds) S1:=by
 simp only [eTup,zq5,Ok_ite]
 congr 1
 funext ds S1
 by_cases h:ds.length<=sizeLine <;> simp [h,zq2,zj0]
theorem ok_eLst (x:Lc->Sto->R (List D)):Ok (eLst x L S) Q=Ok (x L S) fun ds S1=>ds.length<=sizeLine/\Q (.lst ds) S1:=by simp only [eLst,zq5,ok_newL]
theorem ok_eLstM (x:Lc->Sto->R (List D)):Ok (eLstM x L S) Q=Ok (x L S) fun ds S1=>ds.length<=sizeLine/\Q (.ref S1.length) (S1++[.lst ds]):=by simp only [eLstM,zq5,ok_newM]
theorem ok_eAnd (x y:Lc->Sto->R D):Ok (eAnd x y L S) Q=Ok (x L S) fun d S1=>Ok (truD d S1) fun c S2=>if c=true then Ok (y L S2) Q else Q d S2:=by simp only [eAnd,zq5,Ok_ite,zq2]
theorem ok_eOr (x y:Lc->Sto->R D):Ok (eOr x y L S) Q=Ok (x L S) fun d S1=>Ok (truD d S1) fun c S2=>if c=true then Q d S2 else Ok (y L S2) Q:=by simp only [eOr,zq5,Ok_ite,zq2]
theorem ok_eNot (x:Lc->Sto->R D):Ok (eNot x L S) Q=Ok (x L S) fun d S1=>Ok (truD d S1) fun c S2=>Q (.bl (!c)) S2:=by simp only [eNot,zq5,zq2]
theorem ok_eIf (t:Lc->Sto->R Bool) (x y:Lc->Sto->R D):Ok (eIf t x y L S) Q=Ok (t L S) fun c S1=>if c=true then Ok (x L S1) Q else Ok (y L S1) Q:=by simp only [eIf,zq5,Ok_ite]
theorem ok_tTru (x:Lc->Sto->R D):Ok (tTru x L S) Qb=Ok (x L S) fun d S1=>Ok (truD d S1) Qb:=by simp only [tTru,zq5]
theorem ok_tBl (x:Lc->Sto->R D):Ok (tBl x L S) Qb=Ok (x L S) fun d S1=>match d with | .bl b=>Qb b S1 | _=>False:=by
 simp only [tBl,zq5]
 congr 1
 funext d S1
 cases d <;> simp only [zq2,zj0]
theorem ok_tAnd2 (x y:Lc->Sto->R Bool):Ok (tAnd2 x y L S) Qb=Ok (x L S) fun c S1=>if c=true then Ok (y L S1) Qb else Qb false S1:=by simp only [tAnd2,zq5,Ok_ite,zq2]
theorem ok_tOr2 (x y:Lc->Sto->R Bool):Ok (tOr2 x y L S) Qb=Ok (x L S) fun c S1=>if c=true then Qb true S1 else Ok (y L S1) Qb:=by simp only [tOr2,zq5,Ok_ite,zq2]
theorem ok_tNot1 (x:Lc->Sto->R Bool):Ok (tNot1 x L S) Qb=Ok (x L S) fun c S1=>Qb (!c) S1:=by simp only [tNot1,zq5,zq2]
theorem ok_sNx:Ok (sNx L S) Qf=Qf (.nx L) S:=zq2 _ _
theorem zqs (x y:SF):Ok (sSeq x y L S) Qf=Ok (x L S) fun f S1=>match f with | .nx L1=>Ok (y L1 S1) Qf | f=>Qf f S1:=by
 simp only [sSeq,zq5]
 congr 1
 funext f S1
 cases f <;> simp only [zq2]
theorem zj8 (i:Nat) (x:Lc->Sto->R D):Ok (sSet i x L S) Qf=Ok (x L S) fun d S1=>Qf (.nx (L.set i (some d))) S1:=by simp only [sSet,zq5,zq2]
theorem ok_sRet (x:Lc->Sto->R D):Ok (sRet x L S) Qf=Ok (x L S) fun d S1=>Qf (.rt d) S1:=by simp only [sRet,zq5,zq2]
theorem ok_sDrop (x:Lc->Sto->R D):Ok (sDrop x L S) Qf=Ok (x L S) fun _ S1=>Qf (.nx L) S1:=by simp only [sDrop,zq5,zq2]
theorem ok_sIf (t:Lc->Sto->R Bool) (x y:SF):Ok (sIf t x y L S) Qf=Ok (t L S) fun c S1=>if c=true then Ok (x L S1) Qf else Ok (y L S1) Qf:=by simp only [sIf,zq5,Ok_ite]
theorem ok_sAsg (x:Lc->Sto->R D) (t:D->Lc->Sto->R Lc):Ok (sAsg x t L S) Qf=Ok (x L S) fun d S1=>Ok (t d L S1) fun L2 S2=>Qf (.nx L2) S2:=by simp only [sAsg,zq5,zq2]
theorem ok_gNm (i:Nat) (d:D):Ok (gNm i d L S) Qg=Qg (L.set i (some d)) S:=zq2 _ _
theorem ok_gIx (o i:Lc->Sto->R D) (f:D->D->D->Sto->R Unit) (d:D):Ok (gIx o i f d L S) Qg=Ok (o L S) fun x S1=>Ok (i L S1) fun y S2=>Ok (f x y d S2) fun _ S3=>Qg L S3:=by simp only [gIx,zq5,zq2]
theorem ok_tYesD:Ok (tYesD L S) Qb=Qb true S:=zq2 _ _
theorem ok_wAk (wk:DW) (x:Lc->Sto->R D):Ok (wAk wk x L S) Qw=Ok (x L S) fun d S1=>Ok (wkA wk d S1) Qw:=by simp only [wAk,zq5]
theorem ok_eSl (x:Lc->Sto->R D) (lo hi:Lc->Sto->R (Option Int)):Ok (eSl x lo hi L S) Q=Ok (x L S) fun d S1=>Ok (lo L S1) fun l S2=>Ok (hi L S2) fun h S3=>Ok (slD d l h S3) Q:=by simp only [eSl,zq5]
theorem zqp (i:Nat):Ok (eVar i L S) Q=match L[i]? with | some (some d)=>Q d S | _=>False:=by
 unfold eVar
 cases L[i]? with
 | none=>exact zj0
 | some o=>cases o <;> simp only [zq2,zj0]
theorem zqu (c:Bool):Ok (truD (.bl c) S) Qb=Qb c S:=zq2 _ _
theorem ok_pNo {Qp:Option Int->Sto->Prop}:Ok (pNo L S) Qp=Qp none S:=zq2 _ _
theorem ok_pSo {Qp:Option Int->Sto->Prop} (x:Lc->Sto->R D):Ok (pSo x L S) Qp=Ok (x L S) fun d S1=>match d with | .int i=>Qp (some i) S1 | _=>False:=by
 simp only [pSo,zq5]
 congr 1
 funext d S1
 cases d <;> simp only [zq2,zj0]
theorem ari0 {F:List D->Sto->R D}:ari 0 F [] S=F [] S:=rfl
theorem ari1 {F:List D->Sto->R D} {a:D}:ari 1 F [a] S=F [a] S:=rfl
theorem ari2 {F:List D->Sto->R D} {a b:D}:ari 2 F [a,b] S=F [a,b] S:=rfl
theorem ari3 {F:List D->Sto->R D} {a b c:D}:ari 3 F [a,b,c] S=F [a,b,c] S:=rfl
theorem ari4 {F:List D->Sto->R D} {a b c d:D}:ari 4 F [a,b,c,d] S=F [a,b,c,d] S:=rfl
theorem ari5 {F:List D->Sto->R D} {a b c d e:D}:ari 5 F [a,b,c,d,e] S=F [a,b,c,d,e] S:=rfl
theorem ok_dDef {n:Nat} {fb:SF} {ds:List D}:Ok (dDef n fb ds S) Q=Ok (fb (ds.map some++List.replicate (n - ds.length) none) S) fun f S'=>match f with | .rt d=>Q d S' | .nx _=>Q .non S' | _=>False:=by
 simp only [dDef,zq5]
 congr 1
 funext f S1
 cases f <;> simp only [zq2,zj0]
theorem ok_sFor {w:Lc->Sto->R Wk} {t:D->Lc->Sto->R Lc} {fb:SF}:Ok (sFor w t fb L S) Qf=Ok (w L S) fun W S1=>Ok (forL W.ok t fb W.ds L S1) Qf:=by simp only [sFor,zq5]
theorem ok_eLc {w:Lc->Sto->R Wk} {t:D->Lc->Sto->R Lc} {tt:Lc->Sto->R Bool} {te:Lc->Sto->R D} {vs:List Nat}:Ok (eLc w t tt te vs L S) Q=Ok (w L S) fun W S1=>Ok (lcL W.ok t tt te (zjb L vs) W.ds [] S1) Q:=by simp only [eLc,zq5]
theorem ok_eChain (f f':D->D->Sto->R D) (a b c:Lc->Sto->R D):Ok (eChain f f' a b c L S) Q=Ok (a L S) fun x S1=>Ok (b L S1) fun y S2=>Ok (f x y S2) fun z S3=>match z with | .bl true=>Ok (c L S3) fun w S4=>Ok (f' y w S4) Q | .bl false=>Q (.bl false) S3 | _=>False:=by
 simp only [eChain,zq5]
 congr 1
 funext x S1
 congr 1
 funext y S2
 congr 1
 funext z S3
 cases z with
 | bl q=>cases q <;> simp only [zq2,zq5,if_true,Bool.false_eq_true,if_false]
 | _=>simp only [zj0]
theorem ok_sMatch (e:Lc->Sto->R D) (f:D->SF):Ok (sMatch e f L S) Qf=Ok (e L S) fun d S1=>Ok (f d L S1) Qf:=by simp only [sMatch,zq5]
theorem ok_mCase (i:Nat) (t:Lc->Sto->R Bool) (b:SF) (rest:D->SF) (d:D):Ok (mCase i t b rest d L S) Qf=Ok (t (L.set i (some d)) S) fun k S1=>if k=true then Ok (b (L.set i (some d)) S1) Qf else Ok (rest d (L.set i (some d)) S1) Qf:=by simp only [mCase,zq5,Ok_ite]
theorem ok_mElse (b:SF) (d:D):Ok (mElse b d L S) Qf=Ok (b L S) Qf:=rfl
theorem ok_gCons2 (t:D->Lc->Sto->R Lc) (u:List D->Lc->Sto->R Lc) (d:D) (ds:List D):Ok (gCons2 t u (d :: ds) L S) Qg=Ok (t d L S) fun L1 S1=>Ok (u ds L1 S1) Qg:=by simp only [gCons2,zq5]
theorem ok_gNil2:Ok (gNil2 [] L S) Qg=Qg L S:=zq2 _ _
theorem ok_sPar2 (i j:Nat) (a:Lc->Sto->R (List D)):Ok (sPar i j a L S) Qf=Ok (a L S) fun ds S1=>match ds with | [v,w]=>Qf (.nx ((L.set i (some v)).set j (some w))) S1 | _=>False:=by
 simp only [sPar,zq5]
 congr 1
 funext ds S1
 rcases ds with _ | ⟨a,_ | ⟨b,_ | ⟨c,ds⟩⟩⟩ <;> simp only [zq2,zj0]
end
theorem for_inv {ok:Sto->Bool} {t:D->Lc->Sto->R Lc} {fb:SF} {Q:Fl->Sto->Prop} (I:List D->Lc->Sto->Prop)
  (step:∀d ds L S,I (d :: ds) L S->ok S=true/\Ok (t d L S) fun L1 S1=>Ok (fb L1 S1) fun f S2=>match f with
   | .nx L2=>I ds L2 S2
   | .ct L2=>I ds L2 S2
   | .bk L2=>Q (.nx L2) S2
   | .rt v=>Q (.rt v) S2)
  (fin:∀L S,I [] L S->ok S=true/\Q (.nx L) S):∀(ds:List D) (L:Lc) (S:Sto),I ds L S->Ok (forL ok t fb ds L S) Q
 | [],L,S,h=>by
  obtain ⟨h1,h2⟩:=fin L S h
  unfold forL
  rw [if_pos h1,zq2]
  exact h2
 | d :: ds,L,S,h=>by
  obtain ⟨h1,h2⟩:=step d ds L S h
  unfold forL
  rw [if_pos h1,zq5]
  refine h2.mono fun L1 S1 h3=>?_
  rw [zq5]
  refine h3.mono fun f S2 h4=>?_
  cases f with
  | nx L2=>exact for_inv I step fin ds L2 S2 h4
  | ct L2=>exact for_inv I step fin ds L2 S2 h4
  | bk L2=>simp only [zq2]; exact h4
  | rt v=>simp only [zq2]; exact h4
theorem lc_inv {ok:Sto->Bool} {t:D->Lc->Sto->R Lc} {tt:Lc->Sto->R Bool} {te:Lc->Sto->R D} {L:Lc} {Q:D->Sto->Prop} (I:List D->List D->Sto->Prop)
  (step:∀d ds acc S,I (d :: ds) acc S->ok S=true/\Ok (t d L S) fun L1 S1=>Ok (tt L1 S1) fun c S2=>if c=true then Ok (te L1 S2) fun y S3=>acc.length < sizeLine/\I ds (acc++[y]) S3 else I ds acc S2)
  (fin:∀acc S,I [] acc S->ok S=true/\Q (.lst acc) S):∀(ds acc:List D) (S:Sto),I ds acc S->Ok (lcL ok t tt te L ds acc S) Q
 | [],acc,S,h=>by
  obtain ⟨h1,h2⟩:=fin acc S h
  unfold lcL
  rw [if_pos h1,zq2]
  exact h2
 | d :: ds,acc,S,h=>by
  obtain ⟨h1,h2⟩:=step d ds acc S h
  unfold lcL
  rw [if_pos h1,zq5,Ok_calm]
  refine h2.mono fun L1 S1 h3=>?_
  rw [zq5,Ok_calm]
  refine h3.mono fun c S2 h4=>?_
  cases c with
  | false=>exact lc_inv I step fin ds acc S2 h4
  | true =>
   simp only [if_true] at h4 ⊢
   rw [zq5,Ok_calm]
   refine h4.mono fun y S3 h5=>?_
   obtain ⟨hz,h6⟩:=h5
   rw [if_pos hz]
   exact lc_inv I step fin ds (acc++[y]) _ h6
theorem lc_map {ok:Sto->Bool} {t:D->Lc->Sto->R Lc} {te:Lc->Sto->R D} {L:Lc} {S:Sto} (f:D->D) (hok:ok S=true):∀(ds acc:List D),acc.length+ds.length<=sizeLine ->
  (∀d∈ds,Ok (t d L S) fun L1 S1=>S1=S/\te L1 S=.ok (f d) S)->lcL ok t tYesD te L ds acc S=.ok (.lst (acc++ds.map f)) S
 | [],acc,_,_=>by
  unfold lcL
  rw [if_pos hok]
  simp
 | d :: ds,acc,hl,h=>by
  obtain ⟨L1,S1,e1,rfl,e2⟩:=(h d (by simp)).out
  unfold lcL
  rw [if_pos hok,e1]
  simp only [R.calm_ok,R.bind_ok,tYesD,if_true,e2]
  simp only [List.length_cons] at hl
  rw [if_pos (by omega),lc_map f hok ds (acc++[f d]) (by simp; omega) fun d' hd'=>h d' (by simp [hd'])]
  simp
theorem zk1 {ok:Sto->Bool} {t:D->Lc->Sto->R Lc} {tt:Lc->Sto->R Bool} {te:Lc->Sto->R D} {L:Lc} {S:Sto} (p:D->Bool) (f:D->D) (hok:ok S=true):∀(ds acc:List D),acc.length+ds.length<=sizeLine ->
  (∀d∈ds,Ok (t d L S) fun L1 S1=>S1=S/\tt L1 S=.ok (p d) S/\te L1 S=.ok (f d) S)->lcL ok t tt te L ds acc S=.ok (.lst (acc++(ds.filter p).map f)) S
 | [],acc,_,_=>by
  unfold lcL
  rw [if_pos hok]
  simp
 | d :: ds,acc,hl,h=>by
  obtain ⟨L1,S1,e1,rfl,e2,e3⟩:=(h d (by simp)).out
  unfold lcL
  rw [if_pos hok,e1]
  simp only [R.calm_ok,R.bind_ok,e2]
  simp only [List.length_cons] at hl
  cases hp:p d with
  | true =>
   simp only [if_true,e3,R.calm_ok,R.bind_ok]
   rw [if_pos (by omega),zk1 p f hok ds (acc++[f d]) (by simp; omega) fun d' hd'=>h d' (by simp [hd'])]
   simp [hp]
  | false =>
   simp only [Bool.false_eq_true,if_false]
   rw [zk1 p f hok ds acc (by omega) fun d' hd'=>h d' (by simp [hd'])]
   simp [hp]
def Grow (S S':Sto):Prop := ∃t,S'=S++t
theorem Grow.refl (S:Sto):Grow S S:=⟨[],by simp⟩
theorem Grow.trans {S S1 S2:Sto} (a:Grow S S1) (b:Grow S1 S2):Grow S S2:=by
 obtain ⟨t,rfl⟩:=a
 obtain ⟨u,rfl⟩:=b
 exact ⟨t++u,by simp⟩
theorem Grow.add (S:Sto) (t:Sto):Grow S (S++t):=⟨t,rfl⟩
theorem Grow.get {S S':Sto} (h:Grow S S') {n:Nat} {o:Ob} (e:S[n]?=some o):S'[n]?=some o:=by
 obtain ⟨t,rfl⟩:=h
 rw [List.getElem?_append_left (List.getElem?_eq_some_iff.mp e).1]
 exact e
theorem Grow.len {S S':Sto} (h:Grow S S'):S.length<=S'.length:=by
 obtain ⟨t,rfl⟩:=h
 simp
theorem bits_le {x:Int} {n:Nat} (h:x.natAbs < 2 ^ n):Builtin.Int.intBits x<=n:=PyProof.Rows.intBits_le h
theorem lt_bits {x:Int} {n:Nat} (h:Builtin.Int.intBits x<=n):x.natAbs < 2 ^ n:=by
 unfold Builtin.Int.intBits at h
 by_cases h0:x.natAbs=0
 ·rw [h0]
  exact Nat.pow_pos (by decide)
 ·rw [if_neg (by intro e; exact h0 (Int.natAbs_eq_zero.mpr (beq_iff_eq.mp e)))] at h
  exact (Nat.log2_lt h0).mp (by omega)
theorem p64:(2:Nat) ^ 64=18446744073709551616:=by decide
theorem bits_64 {x:Int} (h0:0<=x) (h:x < 18446744073709551616):Builtin.Int.intBits x<=64:=bits_le (n:=64) (by rw [p64]; omega)
section
variable {S:Sto} {Q:D->Sto->Prop} {x y:Int}
theorem ok_mul {m n:Nat} (hx:Builtin.Int.intBits x<=m) (hy:Builtin.Int.intBits y<=n) (hmn:m+n<=134217728):Ok (mul2D (.int x) (.int y) S) Q=Q (.int (x * y)) S:=by
 unfold mul2D mulD
 simp only
 rw [if_pos (by omega),zq2]
theorem zjf (h0:0<=x) (h1:x < 18446744073709551616) (h2:0<=y) (h3:y < 18446744073709551616):Ok (mul2D (.int x) (.int y) S) Q=Q (.int (x * y)) S:=ok_mul (bits_64 h0 h1) (bits_64 h2 h3) (by decide)
theorem zj2:Ok (addD (.int x) (.int y) S) Q=Q (.int (x+y)) S:=zq2 _ _
theorem zjh:Ok (subD (.int x) (.int y) S) Q=Q (.int (x - y)) S:=zq2 _ _
theorem zj1 (h:0 < y):Ok (modD (.int x) (.int y) S) Q=Q (.int (x % y)) S:=by unfold modD; simp only; rw [if_pos h,zq2]
theorem ok_div_int (h:0 < y) (h2:y < 18446744073709551616):Ok (fdiv2D (.int x) (.int y) S) Q=Q (.int (x / y)) S:=by
 have h3:y.natAbs.log2 < 9000:=by
  have h0:y.natAbs≠0:=by omega
  have:=(Nat.log2_lt (k:=64) h0).mpr (by rw [p64]; omega)
  omega
 unfold fdiv2D
 simp only
 rw [if_pos ⟨by omega,h3⟩,zq2,Int.fdiv_eq_ediv_of_nonneg _ (by omega)]
theorem zqg {f:Int->Int->Bool}:Ok (ordD f (.int x) (.int y) S) Q=Q (.bl (f x y)) S:=zq2 _ _
theorem ok_abs_int:Ok (absD [.int x] S) Q=Q (.int (if x < 0 then -x else x)) S:=zq2 _ _
theorem zk2 {b:Bool}:Ok (intD [.bl b] S) Q=Q (.int (if b=true then 1 else 0)) S:=zq2 _ _
theorem ok_intD_int:Ok (intD [.int x] S) Q=Q (.int x) S:=zq2 _ _
theorem ok_neg_int:Ok (negD (.int x) S) Q=Q (.int (-x)) S:=zq2 _ _
theorem ok_pow_int (h:0<=y/\y<=1000000/\x.natAbs < 2 ^ 64):Ok (powD (.int x) (.int y) S) Q=Q (.int (x ^ y.toNat)) S:=by unfold powD; simp only; rw [if_pos h,zq2]
theorem ok_isNon {neg:Bool} {x:D}:Ok (isD neg x .non S) Q=Q (.bl (neg != x.isNon)) S:=zq2 _ _
theorem ok_isBl {neg a b:Bool}:Ok (isD neg (.bl a) (.bl b) S) Q=Q (.bl (neg != decide (a=b))) S:=zq2 _ _
theorem ok_isi_tup {k:Ki} {x:List D}:Ok (isiD k (.tup x) S) Q=Q (.bl (isTg .tup k)) S:=zq2 _ _
theorem ok_isi_lst {k:Ki} {x:List D}:Ok (isiD k (.lst x) S) Q=Q (.bl (isTg .lst k)) S:=zq2 _ _
theorem ok_isi_int {k:Ki} {x:Int}:Ok (isiD k (.int x) S) Q=Q (.bl (isTg .int k)) S:=zq2 _ _
theorem ok_isi_str {k:Ki} {x:Str}:Ok (isiD k (.str x) S) Q=Q (.bl (isTg .str k)) S:=zq2 _ _
theorem ok_isi_bl {k:Ki} {x:Bool}:Ok (isiD k (.bl x) S) Q=Q (.bl (isTg .bl k)) S:=zq2 _ _
theorem ok_isi_non {k:Ki}:Ok (isiD k .non S) Q=Q (.bl (isTg .non k)) S:=zq2 _ _
theorem ok_isi_dic {k:Ki} {a:List Key} {b:List D}:Ok (isiD k (.dic a b) S) Q=Q (.bl (isTg .dic k)) S:=zq2 _ _
end
def PoolOk (S:Sto) (i:Nat):Prop := ∃a b:Int,S[i]?=some (.lst [.int a,.int b])/\0<=a/\0<=b/\b < 2147483647
structure Stp (i:Nat) (S S':Sto):Prop where
 len:S.length<=S'.length
 same:∀j,j < S.length->j≠i->S'[j]?=S[j]?
 pool:PoolOk S' i
theorem Stp.refl {i:Nat} {S:Sto} (h:PoolOk S i):Stp i S S:=⟨Nat.le_refl _,fun _ _ _=>rfl,h⟩
theorem Stp.trans {i:Nat} {S S1 S2:Sto} (a:Stp i S S1) (b:Stp i S1 S2):Stp i S S2 :=
 ⟨Nat.le_trans a.len b.len,fun j h1 h2=>(b.same j (Nat.lt_of_lt_of_le h1 a.len) h2).trans (a.same j h1 h2),b.pool⟩
theorem PoolOk.grow {S S':Sto} {i:Nat} (h:PoolOk S i) (g:Grow S S'):PoolOk S' i:=by
 obtain ⟨a,b,e,r⟩:=h
 exact ⟨a,b,g.get e,r⟩
theorem Stp.grow {i:Nat} {S S':Sto} (h:PoolOk S i) (g:Grow S S'):Stp i S S':=by
 refine ⟨g.len,fun j h1 _=>?_,h.grow g⟩
 obtain ⟨t,rfl⟩:=g
 rw [List.getElem?_append_left h1]
theorem Stp.get {i:Nat} {S S':Sto} (h:Stp i S S') {j:Nat} {o:Ob} (hj:j≠i) (e:S[j]?=some o):S'[j]?=some o:=by
 rw [h.same j (List.getElem?_eq_some_iff.mp e).1 hj]
 exact e
theorem lst_at {S:Sto} {n:Nat} {ds:List D} (e:S[n]?=some (.lst ds)):zjj (.ref n) S=some ds:=by simp [zjj,e]
section
variable {S:Sto} {n:Nat} {ds:List D} {i:Int} {d:D} {Q:D->Sto->Prop}
theorem ok_ix_ref (e:S[n]?=some (.lst ds)) (h:atI ds i=some d):Ok (ix3D (.ref n) (.int i) S) Q=Q d S:=by
 simp [ix3D,dctOf,ix2D,zjq,e,ixD,lst_at e,h,zq2]
theorem ok_ix_lst (h:atI ds i=some d):Ok (ix3D (.lst ds) (.int i) S) Q=Q d S:=by
 simp [ix3D,dctOf,ix2D,zjq,ixD,zjj,h,zq2]
theorem ok_set_ref {j:Nat} {Q:Unit->Sto->Prop} (e:S[n]?=some (.lst ds)) (h:ixN ds.length i=some j):Ok (set3D (.ref n) (.int i) d S) Q=Q () (S.set n (.lst (ds.set j d))):=by
 simp [set3D,set2D,setD,e,h,zq2]
end
def b_draw0:SF :=
 (sSeq (sIf (tBl (eBin (ordD fun i j=>decide (j < i)) (eBin ix3D (eVar 0) (eC (.int 0))) (eC (.int 0))))
  (sSeq (sSet 2 (eBin modD (eBin ix3D (eVar 0) (eC (.int 0))) (eVar 1)))
 (sSeq (sAsg (eBin fdiv2D (eBin ix3D (eVar 0) (eC (.int 0))) (eVar 1)) (gIx (eVar 0) (eC (.int 0)) set3D))
 (sRet (eVar 2))))
  sNx)
 (sSeq (sAsg (eBin modD (eBin addD (eBin mul2D (eBin ix3D (eVar 0) (eC (.int 1))) (eC (.int 48271))) (eC (.int 11))) (eC (.int 2147483647))) (gIx (eVar 0) (eC (.int 1)) set3D))
 (sRet (eBin modD (eBin fdiv2D (eBin modD (eBin mul2D (eBin ix3D (eVar 0) (eC (.int 1))) (eBin ix3D (eVar 0) (eC (.int 1)))) (eC (.int 2147483629))) (eC (.int 16))) (eVar 1)))))
theorem draw0 {S:Sto} {i:Nat} {m:Int} {Q:D->Sto->Prop} (hp:PoolOk S i) (h0:0 < m) (h1:m < 18446744073709551616) (h:∀r o,0<=r->r < m->PoolOk (S.set i o) i->Q (.int r) (S.set i o)):Ok (dDef 3 b_draw0 [.ref i,.int m] S) Q:=by
 obtain ⟨a,b,e,ha,hb,hb2⟩:=hp
 have hi:=(List.getElem?_eq_some_iff.mp e).1
 have at0:atI [D.int a,D.int b] 0=some (.int a):=rfl
 have at1:atI [D.int a,D.int b] 1=some (.int b):=rfl
 have stp:∀{x y:Int},0<=x->0<=y->y < 2147483647->PoolOk (S.set i (.lst [.int x,.int y])) i:=fun {x y} hx hy hy2 =>
  ⟨x,y,by rw [List.getElem?_set_self hi],hx,hy,hy2⟩
 rw [ok_dDef]
 unfold b_draw0
 simp only [List.map_cons,List.map_nil,List.length_cons,List.length_nil,zqs,ok_sIf,ok_tBl,zj3,zqp,ok_eC,zj8,ok_sAsg,ok_gIx,ok_sRet,List.cons_append,List.nil_append,zgz,zgs,ok_ix_ref e at0,zqg,zsz,zss,zj1 h0,ok_div_int h0 h1,List.replicate_succ,List.replicate_zero,
  show 3 - (0+1+1)=1 from rfl]
 by_cases hpos:0 < a
 ·simp only [hpos,decide_true,if_true]
  have hset:ixN [D.int a,D.int b].length 0=some 0:=rfl
  simp only [ok_ix_ref e at0,zj1 h0,ok_div_int h0 h1,ok_set_ref e hset,zsz]
  exact h _ _ (Int.emod_nonneg _ (by omega)) (Int.emod_lt_of_pos _ h0) (stp (Int.ediv_nonneg ha (by omega)) hb hb2)
 ·simp only [hpos,decide_false,Bool.false_eq_true,if_false,ok_sNx]
  have hset:ixN [D.int a,D.int b].length 1=some 1:=rfl
  simp only [zgz,zgs]
  rw [ok_ix_ref e at1,zjf hb (by omega) (by decide) (by decide)]
  simp only [zj2,zj1 (show (0:Int) < 2147483647 by decide),ok_set_ref e hset,zss,zsz]
  have hb':0<=(b * 48271+11) % 2147483647:=Int.emod_nonneg _ (by decide)
  have hb2':(b * 48271+11) % 2147483647 < 2147483647:=Int.emod_lt_of_pos _ (by decide)
  generalize (b * 48271+11) % 2147483647=c at hb' hb2'
  have e':(S.set i (.lst [.int a,.int c]))[i]?=some (.lst [.int a,.int c]):=List.getElem?_set_self hi
  have at1':atI [D.int a,D.int c] 1=some (.int c):=rfl
  rw [ok_ix_ref e' at1',ok_ix_ref e' at1',zjf hb' (by omega) hb' (by omega)]
  simp only [zj1 (show (0:Int) < 2147483629 by decide),ok_div_int (show (0:Int) < 16 by decide) (by decide),zj1 h0]
  exact h _ _ (Int.emod_nonneg _ (by omega)) (Int.emod_lt_of_pos _ h0) (stp ha hb' hb2')
theorem PoolOk.stp {S:Sto} {i:Nat} {o:Ob} (h:PoolOk (S.set i o) i):Stp i S (S.set i o):=⟨by simp,fun j _ hne=>List.getElem?_set_ne (Ne.symm hne),h⟩
def b_pool0:SF :=
 (sSeq (sSet 2 (eBin addD (eBin mul2D (eC (.int 11)) (zq7 (sum2D) (aCons (eSl (eVar 0) pNo (pSo (eC (.int 63)))) aNil))) (eVar 1)))
 (sSeq (sIf (tBl (eBin (ordD fun i j=>decide (i < j)) (eVar 1) (zq7 (zjv) (aCons (eVar 0) aNil))))
  (sSet 2 (eBin ix3D (eVar 0) (eVar 1)))
  sNx)
 (sSeq (sSet 3 (zq7 (absD) (aCons (eVar 2) aNil)))
 (sSeq (sSet 4 (eBin modD (eBin mul2D (eBin addD (eBin addD (eBin addD (eBin modD (eVar 3) (eC (.int 2147483629))) (eBin mul2D (eBin mul2D (eC (.int 7919)) (eVar 1)) (eVar 1))) (eBin mul2D (eC (.int 31)) (eVar 1))) (eC (.int 17))) (eC (.int 48271))) (eC (.int 2147483647))))
 (sRet (eLstM (aCons (eBin mul2D (eVar 3) (zq7 (intD) (aCons (eBin (ordD fun i j=>decide (j<=i)) (eVar 3) (eBin powD (eC (.int 10)) (eC (.int 18)))) aNil))) (aCons (eBin modD (eBin mul2D (eVar 4) (eVar 4)) (eC (.int 2147483629))) aNil))))))))
theorem ints_map:∀ns:List Int,ints? (ns.map D.int)=some ns
 | []=>rfl
 | n :: ns=>by simp [ints?,ints_map ns]
theorem sum_abs {B:Nat}:∀ns:List Int,(∀z∈ns,z.natAbs < B)->ns.sum.natAbs<=ns.length * B
 | [],_=>by simp
 | n :: ns,h=>by
  have h1:=h n (by simp)
  have h2:=sum_abs ns fun z hz=>h z (by simp [hz])
  rw [List.sum_cons,List.length_cons,Nat.succ_mul]
  omega
theorem pool0 {ns:List Int} {S:Sto} {j:Int} {Q:D->Sto->Prop} (hn:ns.length<=63) (hb:∀z∈ns,Builtin.Int.intBits z<=1048576) (h0:0<=j) (h1:j < 1000) (h:∀o,PoolOk (S++[o]) S.length->Q (.ref S.length) (S++[o])):Ok (dDef 5 b_pool0 [.scr ns,.int j] S) Q:=by
 have big:∀z∈ns,z.natAbs < 2 ^ 1048576:=fun z hz=>lt_bits (hb z hz)
 generalize hB:1048576=B at big
 have hB':B=1048576:=hB.symm
 have cut:cutD (ns.map D.int) none (some 63)=(ns.take 63).map D.int:=by
  unfold cutD
  rw [HT.sIx_none,show HT.sIx (ns.map D.int).length (ns.map D.int).length (some 63)=min 63 (ns.map D.int).length from HT.sIx_nat _ _ 63]
  rw [List.drop_zero,Nat.sub_zero,List.length_map,List.map_take,Nat.min_eq_right hn,List.take_of_length_le (by simp),List.take_of_length_le (by simpa using hn)]
 have lk:∀S:Sto,zjj (.scr ns) S=some (ns.map D.int):=fun _=>rfl
 have hsum:(ns.take 63).sum.natAbs < 2 ^ (B+6):=by
  have:=sum_abs (B:=2 ^ B) (ns.take 63) fun z hz=>big z (List.mem_of_mem_take hz)
  have hl:(ns.take 63).length<=63:=by simp; omega
  have h2:(ns.take 63).length * 2 ^ B<=63 * 2 ^ B:=Nat.mul_le_mul_right _ hl
  have h3:2 ^ (B+6)=64 * 2 ^ B:=by rw [Nat.pow_add]; omega
  have h4:0 < 2 ^ B:=Nat.pow_pos (by decide)
  omega
 rw [ok_dDef]
 unfold b_pool0
 simp only [List.map_cons,List.map_nil,List.length_cons,List.length_nil,show 5 - (0+1+1)=3 from rfl,List.replicate_succ,List.replicate_zero,List.cons_append,List.nil_append]
 rw [zqs]
 simp only [zj8,zj3,ok_eC,zqq,zqi,zqt,ok_eSl,ok_pNo,ok_pSo,zqp,zgz,zgs]
 have sl:∀{Q:D->Sto->Prop},Ok (slD (.scr ns) none (some 63) S) Q=Q (.lst ((ns.take 63).map D.int)) S:=by
  intro Q
  unfold slD
  simp only [lk,ok_newL,cut]
  have:((ns.take 63).map D.int).length<=sizeLine:=by
   rw [List.length_map,sizeLine_eq]
   simp
   omega
  exact propext ⟨fun q=>q.2,fun q=>⟨this,q⟩⟩
 rw [sl]
 have sm:∀{Q:D->Sto->Prop},Ok (sum2D [.lst ((ns.take 63).map D.int)] S) Q=Q (.int (ns.take 63).sum) S:=by
  intro Q
  unfold sum2D sumD zjj
  simp only [ints_map,zq2]
 rw [sm,ok_mul (m:=64) (n:=B+6) (bits_64 (by decide) (by decide)) (bits_le hsum) (by omega)]
 simp only [zj2,zsz,zss]
 rw [zqs,ok_sIf]
 simp only [ok_tBl,zj3,zqp,zgz,zgs,zqq,zqi,zqt]
 have ln:∀{Q:D->Sto->Prop},Ok (zjv [.scr ns] S) Q=Q (.int (ns.map D.int).length) S:=by
  intro Q
  simp [zjv,zjq,lenD,lk,zq2]
 rw [ln]
 simp only [zqg,List.length_map]
 have fin:∀c:Int,c.natAbs < 2 ^ (B+11)->Ok (sSeq (sSet 3 (zq7 (absD) (aCons (eVar 2) aNil)))
   (sSeq (sSet 4 (eBin modD (eBin mul2D (eBin addD (eBin addD (eBin addD (eBin modD (eVar 3) (eC (.int 2147483629))) (eBin mul2D (eBin mul2D (eC (.int 7919)) (eVar 1)) (eVar 1))) (eBin mul2D (eC (.int 31)) (eVar 1))) (eC (.int 17))) (eC (.int 48271))) (eC (.int 2147483647))))
   (sRet (eLstM (aCons (eBin mul2D (eVar 3) (zq7 (intD) (aCons (eBin (ordD fun i j=>decide (j<=i)) (eVar 3) (eBin powD (eC (.int 10)) (eC (.int 18)))) aNil))) (aCons (eBin modD (eBin mul2D (eVar 4) (eVar 4)) (eC (.int 2147483629))) aNil))))) [some (.scr ns),some (.int j),some (.int c),none,none] S) fun f S'=>match f with | .rt d=>Q d S' | .nx _=>Q .non S' | _=>False:=by
  intro c hc
  rw [zqs]
  simp only [zj8,zqq,zqi,zqt,zqp,zgz,zgs,ok_abs_int,zsz,zss]
  rw [zqs]
  simp only [zj8,zqp,zgz,zgs,zj3,ok_eC,zj1 (show (0:Int) < 2147483629 by decide)]
  have hg0:0<=(if c < 0 then -c else c):=by split <;> omega
  have hg1:(if c < 0 then -c else c).natAbs < 2 ^ (B+11):=by split <;> omega
  generalize (if c < 0 then -c else c)=gr at hg0 hg1
  have hm0:0<=gr % 2147483629:=Int.emod_nonneg _ (by decide)
  have hm1:gr % 2147483629 < 2147483629:=Int.emod_lt_of_pos _ (by decide)
  have hjj:0<=7919 * j * j/\7919 * j * j < 7919000001:=by
   have h2:0<=j * j:=Int.mul_nonneg h0 h0
   have h3:j * j<=1000 * 1000:=Int.mul_le_mul (by omega) (by omega) h0 (by decide)
   rw [Int.mul_assoc]
   omega
  rw [zjf (by decide) (by decide) h0 (by omega),zjf (by omega) (by omega) h0 (by omega)]
  simp only [zj2,zjf (show (0:Int)<=31 by decide) (by decide) h0 (show j < 18446744073709551616 by omega)]
  rw [zjf (by omega) (by omega) (by decide) (by decide),zj1 (show (0:Int) < 2147483647 by decide)]
  generalize hmx:(gr % 2147483629+7919 * j * j+31 * j+17) * 48271 % 2147483647=mx
  have hx0:0<=mx:=by rw [← hmx]; exact Int.emod_nonneg _ (by decide)
  have hx1:mx < 2147483647:=by rw [← hmx]; exact Int.emod_lt_of_pos _ (by decide)
  simp only [ok_sRet,ok_eLstM,zqi,zqt,zj3,zqp,zsz,zss,zgz,zgs,zqq,ok_eC,ok_pow_int (x:=10) (y:=18) ⟨by decide,by decide,by decide⟩,zqg,zk2]
  rw [ok_mul (m:=B+11) (n:=64) (bits_le hg1) (bits_64 (by split <;> decide) (by split <;> decide)) (by omega)]
  rw [zjf hx0 (by omega) hx0 (by omega),zj1 (show (0:Int) < 2147483629 by decide)]
  have hq0:0<=mx * mx % 2147483629:=Int.emod_nonneg _ (by decide)
  have hq1:mx * mx % 2147483629 < 2147483629:=Int.emod_lt_of_pos _ (by decide)
  have ha0:0<=gr * (if decide ((10:Int) ^ (18:Int).toNat<=gr)=true then 1 else 0):=by
   split
   ·omega
   ·omega
  generalize gr * (if decide ((10:Int) ^ (18:Int).toNat<=gr)=true then 1 else 0)=a0 at ha0
  generalize mx * mx % 2147483629=b0 at hq0 hq1
  refine ⟨by rw [sizeLine_eq]; simp,?_⟩
  have pk:PoolOk (S++[.lst [.int a0,.int b0]]) S.length:=⟨a0,b0,by simp,ha0,hq0,by omega⟩
  exact h _ pk
 have hj2:(11 * (ns.take 63).sum+j).natAbs < 2 ^ (B+11):=by
  have h3:2 ^ (B+11)=32 * 2 ^ (B+6):=by rw [show B+11=(B+6)+5 from rfl,Nat.pow_add _ (B+6) 5]; omega
  have h4:2 ^ (B+6)=64 * 2 ^ B:=by rw [Nat.pow_add]; omega
  have h5:2 ^ 10<=2 ^ B:=Nat.pow_le_pow_right (by decide) (by omega)
  have h6:(2:Nat) ^ 10=1024:=by decide
  omega
 by_cases hlt:j < (ns.length:Int)
 ·simp only [hlt,decide_true,if_true,zj8,zj3,zqp,zgz,zgs]
  obtain ⟨jn,rfl⟩:=Int.eq_ofNat_of_zero_le h0
  have hjn:jn < ns.length:=by omega
  have ix:∀{Q:D->Sto->Prop},Ok (ix3D (.scr ns) (.int jn) S) Q=Q (.int ns[jn]) S:=by
   intro Q
   have at':atI (ns.map D.int) (jn:Int)=some (.int ns[jn]):=atI_nat (by rw [List.getElem?_map,List.getElem?_eq_getElem hjn]; rfl)
   unfold ix3D dctOf ix2D zjq ixD
   simp only [lk,at',zq2]
  rw [ix]
  simp only [zsz,zss]
  refine fin _ (Nat.lt_of_lt_of_le (big _ (List.getElem_mem hjn)) (Nat.pow_le_pow_right (by decide) (by omega)))
 ·simp only [hlt,decide_false,Bool.false_eq_true,if_false,ok_sNx]
  exact fin _ hj2
end VL
namespace VL
open PySem PySem.Spec PyProof.Rows L2
theorem zq8 {a:Type} {r:R a} {x:a} {S:Sto} (h:Ok r fun d S'=>d=x/\S'=S):r=.ok x S:=by
 obtain ⟨y,S',e,rfl,rfl⟩:=h.out
 exact e
section
variable {L:Lc} {S:Sto} {Q:D->Sto->Prop}
theorem ok_eLcA (wk:DW) (ea:EF) (t:D->Lc->Sto->R Lc) (tt:Lc->Sto->R Bool) (te:EF) (vs:List Nat):Ok (eLcA wk ea t tt te vs L S) Q=Ok (ea L S) fun d S1=>match isSD d S1 with
 | some p=>Ok (lcL (fun _=>true) t tt te (zjb L vs) (wk.ds p.2.1 p.2.2) [] (S1.set p.1 (.dlk p.2.1 p.2.2))) fun x S3=>Ok (unlk p.1 S3) fun _ S4=>Q x S4
 | none=>Ok (wkA wk d S1) fun W S2=>Ok (lcL W.ok t tt te (zjb L vs) W.ds [] S2) Q:=by
 simp only [eLcA,zq5]
 congr 1
 funext d S1
 generalize isSD d S1=o
 cases o <;> simp only [zq5,Ok_calm,zq2]
theorem ok_eStar (f:List D->Sto->R D) (e:EF):Ok (eStar f e L S) Q=Ok (e L S) fun d S1=>match d with
 | .tup ds=>Ok (f ds S1) Q
 | d=>match zjj d S1 with
  | some ds=>Ok (f ds S1) Q
  | none=>False:=by
 simp only [eStar,zq5]
 congr 1
 funext d S1
 cases d with
 | tup ds=>rfl
 | _ =>
  simp only
  generalize zjj _ _=o
  cases o <;> simp only [zj0]
theorem ok_wRng1 {Q:Wk->Sto->Prop} (a:Lc->Sto->R (List D)):Ok (wRng1 a L S) Q=Ok (a L S) fun ds S1=>match ds with
 | [.int j]=>(-(2 ^ 62)<=j/\j < 2 ^ 62)/\Q ⟨rngL 0 j.toNat,fun _=>true⟩ S1
 | _=>False:=by
 simp only [wRng1,zq5]
 congr 1
 funext ds S1
 rcases ds with _ | ⟨d,_ | ⟨d',ds⟩⟩
 ·simp only [zj0]
 ·cases d with
  | int j =>
   by_cases h:-(2 ^ 62)<=j/\j < 2 ^ 62
   ·simp only [if_pos h,zq2]; exact propext ⟨fun q=>⟨h,q⟩,fun q=>q.2⟩
   ·simp only [if_neg h,zj0]; exact propext ⟨fun q=>q.elim,fun q=>h q.1⟩
  | _=>simp only [zj0]
 ·cases d <;> simp only [zj0]
theorem ok_eM (ty:D->Sto->Bool) (f:D->List D->Sto->R D) (eo:EF) (a:Lc->Sto->R (List D)):Ok (eM ty f eo a L S) Q=Ok (eo L S) fun x S1=>if ty x S1=true then Ok (a L S1) fun ds S2=>Ok (f x ds S2) Q else False:=by
 simp only [eM,zq5,Ok_ite,zj0]
theorem ok_prsD_nil {Q:List (D × D)->Sto->Prop}:Ok (prsD [] L S) Q=Q [] S:=zq2 _ _
theorem ok_prsD_cons {Q:List (D × D)->Sto->Prop} (a b:EF) (r:List (EF × EF)):Ok (prsD ((a,b) :: r) L S) Q=Ok (a L S) fun x S1=>Ok (b L S1) fun y S2=>Ok (prsD r L S2) fun ps S3=>Q ((x,y) :: ps) S3:=by
 simp only [prsD,zq5,zq2]
theorem ok_eDisp (mu:Bool) (ps:List (EF × EF)):Ok (eDisp mu ps L S) Q=Ok (prsD ps L S) fun kds S2=>match keysP kds with
 | some kps=>if kps.length<=15 then Ok (nwD mu (mergeD [] [] kps).1 (mergeD [] [] kps).2 S2) Q else False
 | none=>False:=by
 simp only [eDisp,zq5,Ok_calm]
 congr 1
 funext kds S2
 generalize keysP kds=o
 cases o
 ·rw [zj0]
 ·simp only [Ok_ite,zj0]
theorem ok_nwD_f (ks:List Key) (vs:List D):Ok (nwD false ks vs S) Q=Q (.dic ks vs) S:=zq2 _ _
theorem ok_nwD_t (ks:List Key) (vs:List D):Ok (nwD true ks vs S) Q=Q (.ref S.length) (S++[.dic ks vs]):=zq2 _ _
theorem ok_nwL_f (vs:List D):Ok (nwL false vs S) Q=Q (.lst vs) S:=zq2 _ _
theorem ok_nwL_t (vs:List D):Ok (nwL true vs S) Q=Q (.ref S.length) (S++[.lst vs]):=zq2 _ _
theorem ok_gTp {Q:Lc->Sto->Prop} {n:Nat} {t:List D->Lc->Sto->R Lc} {ds:List D} (h:ds.length=n):Ok (gTp n t (.tup ds) L S) Q=Ok (t ds L S) Q:=by
 simp only [gTp,if_pos h]
theorem bls_map:∀ns:List Bool,bls? (ns.map D.bl)=some ns
 | []=>rfl
 | n :: ns=>by simp [bls?,bls_map ns]
theorem ok_all_map {a:Type} (xs:List a) (p:a->Bool):Ok (allD [.lst (xs.map fun x=>D.bl (p x))] S) Q=Q (.bl (xs.all p)) S:=by
 have e:(xs.map fun x=>D.bl (p x))=(xs.map p).map D.bl:=by rw [List.map_map]; rfl
 unfold allD zjj
 simp only [e,bls_map,zq2,List.all_map]
 rfl
theorem ok_sum_map {a:Type} (xs:List a) (p:a->Int):Ok (sum2D [.lst (xs.map fun x=>D.int (p x))] S) Q=Q (.int (xs.map p).sum) S:=by
 have e:(xs.map fun x=>D.int (p x))=(xs.map p).map D.int:=by rw [List.map_map]; rfl
 unfold sum2D sumD zjj
 simp only [e,ints_map,zq2]
theorem ok_len_str {z:Str} (h:z.length<=sizeLine):Ok (zjv [.str z] S) Q=Q (.int z.length) S:=by
 simp only [zjv,zjq,lenD,if_pos h,zq2]
theorem ok_len_tup {ds:List D}:Ok (zjv [.tup ds] S) Q=Q (.int ds.length) S:=by
 simp only [zjv,zjq,lenD,zq2]
theorem ok_len_lst {ds:List D}:Ok (zjv [.lst ds] S) Q=Q (.int ds.length) S:=by
 simp only [zjv,zjq,lenD,zjj,zq2]
end
def wordB (z sg:Str) (lo hi:Int):Bool:=decide (lo<=(z.length:Int)) && (decide ((z.length:Int)<=hi) && z.cps.toList.all fun c=>decide (c∈sg.cps.toList))
def SG:Str := "abcdefghijklmnopqrstuvwxyz0123456789"
def LT:Str := "abcdefghijklmnopqrstuvwxyz"
def MXI:Int:=1000000000000000000000000000000000000000000000000000000000000
mutual
def wl:Nat->D->Bool
 | 0,.tup _=>false
 | l+1,.tup ds=>decide (ds.length<=50) && wls l ds
 | _,.int i=>decide (-MXI < i) && decide (i < MXI)
 | _,.str z=>wordB z SG 0 60
 | _,_=>false
def wls:Nat->List D->Bool
 | _,[]=>true
 | l,d :: ds=>wl l d && wls l ds
end
mutual
def sz:D->Nat
 | .tup ds=>szs ds
 | _=>0
def szs:List D->Nat
 | []=>0
 | d :: ds=>1+sz d+szs ds
end
mutual
def dep:D->Nat
 | .tup ds=>deps ds+1
 | _=>0
def deps:List D->Nat
 | []=>0
 | d :: ds=>max (dep d) (deps ds)
end
mutual
def Fit:D->Prop
 | .tup ds=>ds.length<=1000/\Fits ds
 | .str z=>z.length<=1000
 | .int _=>True
 | .bl _=>True
 | .non=>True
 | .lst _=>True
 | .dic _ _=>True
 | _=>False
def Fits:List D->Prop
 | []=>True
 | d :: ds=>Fit d/\Fits ds
end
def isVal (d:D):Bool:=wl 5 d && decide (sz d<=50)
theorem wls_all (l:Nat):∀ds:List D,wls l ds=ds.all (wl l)
 | []=>by simp [wls]
 | d :: ds=>by simp [wls,wls_all l ds]
theorem szs_sum:∀ds:List D,(szs ds:Int)=(ds.map fun d=>(1+(sz d:Int))).sum
 | []=>by simp [szs]
 | d :: ds=>by
  have:=szs_sum ds
  simp [szs]
  omega
theorem dep_mem:∀{ds:List D} {d:D},d∈ds->dep d<=deps ds
 | a :: ds,d,h=>by
  rw [deps]
  rcases List.mem_cons.mp h with rfl | h
  ·omega
  ·have:=dep_mem h; omega
theorem Fits_mem:∀{ds:List D} {d:D},Fits ds->d∈ds->Fit d
 | a :: ds,d,h,m=>by
  rw [Fits] at h
  rcases List.mem_cons.mp m with rfl | m
  ·exact h.1
  ·exact Fits_mem h.2 m
theorem deps_le {n:Nat}:∀{ds:List D},(∀d∈ds,dep d<=n)->deps ds<=n
 | [],_=>by simp [deps]
 | a :: ds,h=>by
  have h1:=h a (by simp)
  have h2:=deps_le (n:=n) (ds:=ds) fun d hd=>h d (by simp [hd])
  rw [deps]; omega
theorem wl_int (l:Nat) (i:Int):wl l (.int i)=(decide (-MXI < i) && decide (i < MXI)):=by cases l <;> simp [wl]
theorem wl_tup0 (ds:List D):wl 0 (.tup ds)=false:=by simp [wl]
theorem wl_tup (l:Nat) (ds:List D):wl (l+1) (.tup ds)=(decide (ds.length<=50) && ds.all (wl l)):=by rw [wl,wls_all]
theorem wl_dep:∀(l:Nat) (d:D),wl l d=true->dep d<=l:=by
 intro l
 induction l with
 | zero =>
  intro d h
  cases d <;> first | (simp [wl] at h; done) | simp [dep]
 | succ l ih =>
  intro d h
  cases d with
  | tup ds =>
   rw [wl_tup] at h
   simp only [Bool.and_eq_true,List.all_eq_true] at h
   rw [dep]
   have:=deps_le fun d hd=>ih d (h.2 d hd)
   omega
  | _=>simp [dep]
end VL
namespace VL
open PySem PySem.Spec PyProof.Rows L2
theorem ofs_inj (a b:String):((Str.ofString a)=(Str.ofString b))=(a=b):=by
 apply propext
 constructor
 ·intro h
  rw [Str.ofString_eq_toList,Str.ofString_eq_toList] at h
  injection h with h
  have h2:a.toList.map Char.toNat=b.toList.map Char.toNat:=by simpa using congrArg Array.toList h
  have h3:a.toList=b.toList:=List.map_inj_right (f:=Char.toNat) (fun x y e=>Char.toNat_inj.mp e) |>.mp h2
  exact String.toList_inj.mp h3
 ·intro h; rw [h]
def intB (d:D):Bool:=match d with
 | .int _=>true
 | _=>false
theorem fbne (b:Bool):(false != b)=b:=by cases b <;> rfl
theorem tbne (b:Bool):(true != b)=!b:=by cases b <;> rfl
mutual
def toV:D->PyData
 | .bl b=>.bool b
 | .int i=>.int i
 | .str z=>.str z
 | .tup ds=>.tuple (toVs ds)
 | .lst ds=>.list (toVs ds)
 | _=>.none
def toVs:List D->List PyData
 | []=>[]
 | d :: ds=>toV d :: toVs ds
end
mutual
def Nb:D->Prop
 | .non=>True
 | .int _=>True
 | .str z=>PyData.strOk z=true
 | .tup ds=>Nbs ds
 | .lst ds=>Nbs ds
 | _=>False
def Nbs:List D->Prop
 | []=>True
 | d :: ds=>Nb d/\Nbs ds
end
mutual
def dpt:D->Nat
 | .tup ds=>dpts ds+1
 | .lst ds=>dpts ds+1
 | _=>0
def dpts:List D->Nat
 | []=>0
 | d :: ds=>max (dpt d) (dpts ds)
end
section
variable {S:Sto} {Q:D->Sto->Prop}
theorem ok_eq4_int {neg:Bool} {x y:Int}:Ok (eq4D neg (.int x) (.int y) S) Q=Q (.bl (neg != decide (x=y))) S:=zq2 _ _
theorem ok_eq4_str {neg:Bool} {x y:Str}:Ok (eq4D neg (.str x) (.str y) S) Q=Q (.bl (neg != decide (x=y))) S:=zq2 _ _
theorem ari6 {F:List D->Sto->R D} {a b c d e f:D}:ari 6 F [a,b,c,d,e,f] S=F [a,b,c,d,e,f] S:=rfl
end
end VL
namespace VL
open PySem PySem.Spec PyProof.Rows L2
mutual
def pl:Nat->D->Bool
 | _,.non=>true
 | _,.int _=>true
 | _,.bl _=>true
 | _,.str z=>PyData.strOk z
 | n+1,.tup ds=>pls n ds
 | n+1,.lst ds=>pls n ds
 | _,_=>false
def pls:Nat->List D->Bool
 | _,[]=>true
 | n,d :: ds=>pl n d && pls n ds
end
end VL
namespace VL
open PySem PySem.Spec PyProof.Rows L2
end VL
namespace VL
open PySem PySem.Spec PyProof.Rows L2
mutual
theorem can_nb:∀(d:D),Nb d->(toV d).canLay0=true/\(toV d).depth<=dpt d+1
 | .non,_=>by simp [toV,PyData.canLay0,PyData.depth,dpt]
 | .int _,_=>by simp [toV,PyData.canLay0,PyData.depth,dpt]
 | .str _,n=>by rw [Nb] at n; simp [toV,PyData.canLay0,PyData.depth,dpt,n]
 | .tup ds,n=>by
  rw [Nb] at n
  have:=cans_nb ds n
  rw [toV,dpt,PyData.canLay0,PyData.depth]
  exact ⟨this.1,by omega⟩
 | .lst ds,n=>by
  rw [Nb] at n
  have:=cans_nb ds n
  rw [toV,dpt,PyData.canLay0,PyData.depth]
  exact ⟨this.1,by omega⟩
 | .bl _,n=>by simp [Nb] at n
 | .ty _,n=>by simp [Nb] at n
 | .dic _ _,n=>by simp [Nb] at n
 | .dct _ _,n=>by simp [Nb] at n
 | .obj _ _ _,n=>by simp [Nb] at n
 | .scr _,n=>by simp [Nb] at n
 | .ref _,n=>by simp [Nb] at n
 | .kref _,n=>by simp [Nb] at n
 | .ctp _,n=>by simp [Nb] at n
theorem cans_nb:∀(ds:List D),Nbs ds->PyData.canLayAll0 (toVs ds)=true/\PyData.depthAll (toVs ds)<=dpts ds+1
 | [],_=>by simp [toVs,PyData.canLayAll0,PyData.depthAll]
 | d :: ds,n=>by
  rw [Nbs] at n
  have h1:=can_nb d n.1
  have h2:=cans_nb ds n.2
  rw [toVs,PyData.canLayAll0,PyData.depthAll,dpts,h1.1,h2.1]
  exact ⟨rfl,by omega⟩
end
theorem beq_dec {a:Type} [DecidableEq a] [BEq a] [LawfulBEq a] (x y:a):(x == y)=decide (x=y):=by
 by_cases h:x=y
 ·subst h; simp
 ·simp [h]
mutual
theorem eqv_nb:∀(x y:D),Nb x->Nb y->PyData.eqv (toV x) (toV y)=D.beq x y
 | .tup as,.tup bs,n,m=>by
  rw [Nb] at n m
  rw [toV,toV,PyData.eqv,eqvs_nb as bs n m,D.beq]
 | .lst as,.lst bs,n,m=>by
  rw [Nb] at n m
  rw [toV,toV,PyData.eqv,eqvs_nb as bs n m,D.beq]
 | .non,y,_,m=>by cases y <;> first | (simp [Nb] at m; done) | simp [toV,PyData.eqv,D.beq]
 | .int i,y,_,m=>by cases y <;> first | (simp [Nb] at m; done) | simp [toV,PyData.eqv,D.beq]
 | .str i,y,_,m=>by cases y <;> first | (simp [Nb] at m; done) | simp [toV,PyData.eqv,D.beq,beq_dec]
 | .tup _,.non,_,_=>by simp [toV,PyData.eqv,D.beq]
 | .tup _,.int _,_,_=>by simp [toV,PyData.eqv,D.beq]
 | .tup _,.str _,_,_=>by simp [toV,PyData.eqv,D.beq]
 | .tup _,.lst _,_,_=>by simp [toV,PyData.eqv,D.beq]
 | .lst _,.non,_,_=>by simp [toV,PyData.eqv,D.beq]
 | .lst _,.int _,_,_=>by simp [toV,PyData.eqv,D.beq]
 | .lst _,.str _,_,_=>by simp [toV,PyData.eqv,D.beq]
 | .lst _,.tup _,_,_=>by simp [toV,PyData.eqv,D.beq]
 | .bl _,_,n,_=>by simp [Nb] at n
 | .ty _,_,n,_=>by simp [Nb] at n
 | .dic _ _,_,n,_=>by simp [Nb] at n
 | .dct _ _,_,n,_=>by simp [Nb] at n
 | .obj _ _ _,_,n,_=>by simp [Nb] at n
 | .scr _,_,n,_=>by simp [Nb] at n
 | .ref _,_,n,_=>by simp [Nb] at n
 | .kref _,_,n,_=>by simp [Nb] at n
 | .ctp _,_,n,_=>by simp [Nb] at n
 | .tup _,.bl _,_,n=>by simp [Nb] at n
 | .tup _,.ty _,_,n=>by simp [Nb] at n
 | .tup _,.dic _ _,_,n=>by simp [Nb] at n
 | .tup _,.dct _ _,_,n=>by simp [Nb] at n
 | .tup _,.obj _ _ _,_,n=>by simp [Nb] at n
 | .tup _,.scr _,_,n=>by simp [Nb] at n
 | .tup _,.ref _,_,n=>by simp [Nb] at n
 | .tup _,.kref _,_,n=>by simp [Nb] at n
 | .tup _,.ctp _,_,n=>by simp [Nb] at n
 | .lst _,.bl _,_,n=>by simp [Nb] at n
 | .lst _,.ty _,_,n=>by simp [Nb] at n
 | .lst _,.dic _ _,_,n=>by simp [Nb] at n
 | .lst _,.dct _ _,_,n=>by simp [Nb] at n
 | .lst _,.obj _ _ _,_,n=>by simp [Nb] at n
 | .lst _,.scr _,_,n=>by simp [Nb] at n
 | .lst _,.ref _,_,n=>by simp [Nb] at n
 | .lst _,.kref _,_,n=>by simp [Nb] at n
 | .lst _,.ctp _,_,n=>by simp [Nb] at n
theorem eqvs_nb:∀(xs ys:List D),Nbs xs->Nbs ys->PyData.eqvAll (toVs xs) (toVs ys)=D.beqs xs ys
 | [],ys,_,_=>by cases ys <;> simp [toVs,PyData.eqvAll,D.beqs]
 | x :: xs,[],_,_=>by simp [toVs,PyData.eqvAll,D.beqs]
 | x :: xs,y :: ys,n,m=>by
  rw [Nbs] at n m
  rw [toVs,toVs,PyData.eqvAll,eqv_nb x y n.1 m.1,eqvs_nb xs ys n.2 m.2,D.beqs]
end
mutual
def Vl:D->Prop
 | .int _=>True
 | .str z=>z.length<=1000/\∀c∈z.cps.toList,c∈SG.cps.toList
 | .tup ds=>ds.length<=1000/\Vls ds
 | _=>False
def Vls:List D->Prop
 | []=>True
 | d :: ds=>Vl d/\Vls ds
end
theorem strOk_SG {z:Str} (h:∀c∈z.cps.toList,c∈SG.cps.toList):PyData.strOk z=true:=by
 have hs:∀c∈SG.cps.toList,c < 1114112:=by decide +kernel
 unfold PyData.strOk
 simp only [Array.all_eq_true',decide_eq_true_eq]
 intro c hc
 exact hs c (h c (by simpa using hc))
mutual
theorem Vl.all:∀{d:D},Vl d->Nb d/\Fit d/\dpt d=dep d
 | .int _,_=>by simp [Nb,Fit,dpt,dep]
 | .str z,h=>by rw [Vl] at h; simp [Nb,Fit,dpt,dep,strOk_SG h.2,h.1]
 | .tup ds,h=>by
  rw [Vl] at h
  have:=Vls.all h.2
  rw [Nb,Fit,dpt,dep,this.2.2]
  exact ⟨this.1,⟨h.1,this.2.1⟩,rfl⟩
 | .non,n=>by simp [Vl] at n
 | .bl _,n=>by simp [Vl] at n
 | .ty _,n=>by simp [Vl] at n
 | .lst _,n=>by simp [Vl] at n
 | .dic _ _,n=>by simp [Vl] at n
 | .dct _ _,n=>by simp [Vl] at n
 | .obj _ _ _,n=>by simp [Vl] at n
 | .scr _,n=>by simp [Vl] at n
 | .ref _,n=>by simp [Vl] at n
 | .kref _,n=>by simp [Vl] at n
 | .ctp _,n=>by simp [Vl] at n
theorem Vls.all:∀{ds:List D},Vls ds->Nbs ds/\Fits ds/\dpts ds=deps ds
 | [],_=>by simp [Nbs,Fits,dpts,deps]
 | d :: ds,h=>by
  rw [Vls] at h
  have h1:=Vl.all h.1
  have h2:=Vls.all h.2
  rw [Nbs,Fits,dpts,deps,h1.2.2,h2.2.2]
  exact ⟨⟨h1.1,h2.1⟩,⟨h1.2.1,h2.2.1⟩,rfl⟩
end
end VL
namespace K01
open PySem PySem.Spec PyProof.Rows L2 VL
def k_LETTERS:D:=(.str "abcdefghijklmnopqrstuvwxyz")
def k_MAX_NAME:D:=(.int (12))
def k_MAX_LEVELS:D:=(.int (5))
def zjp:D:=(.int (50))
def zj5:D:=(.int (1000000000000000000000000000000000000000000000000000000000000))
def k_SIGNS:D:=(.str "abcdefghijklmnopqrstuvwxyz0123456789")
def zk3:D:=(.int (60))
def b_is_word (k:Nat):SF :=
 (sRet (eAnd (eUn (isiD .str) (eVar 0)) (eAnd (eChain (ordD fun i j=>decide (i<=j)) (ordD fun i j=>decide (i<=j)) (eVar 2) (zq7 (zjv) (aCons (eVar 0) aNil)) (eVar 3)) (zq7 (allD) (aCons (eLcA .keys (eVar 0) (gNm 4) tYesD (eBin (in3D false) (eVar 4) (eVar 1)) [4]) aNil)))))
def zj9:Nat->List D->Sto->R D
 | 0=>fun _ _=>.bad
 | 1=>fun _ _=>.bad
 | k+2=>dDef 5 (b_is_word k)
def b_is_key (k:Nat):SF :=
 (sRet (zq7 (ari 4 (zj9 (k+1))) (aCons (eVar 0) (aCons (eC k_SIGNS) (aCons (eC (.int 1)) (aCons (eC zk3) aNil))))))
def zk9:Nat->List D->Sto->R D
 | 0=>fun _ _=>.bad
 | 1=>fun _ _=>.bad
 | k+2=>dDef 1 (b_is_key k)
def b_is_text (k:Nat):SF :=
 (sRet (zq7 (ari 4 (zj9 (k+1))) (aCons (eVar 0) (aCons (eC k_SIGNS) (aCons (eC (.int 0)) (aCons (eC zk3) aNil))))))
def f_is_text:Nat->List D->Sto->R D
 | 0=>fun _ _=>.bad
 | 1=>fun _ _=>.bad
 | k+2=>dDef 1 (b_is_text k)
def zjs (k:Nat):SF :=
 (sRet (eAnd (eUn (isiD .int) (eVar 0)) (eNot (eUn (isiD .bool) (eVar 0)))))
def zja:Nat->List D->Sto->R D
 | 0=>fun _ _=>.bad
 | 1=>fun _ _=>.bad
 | k+2=>dDef 1 (zjs k)
def zqk (k:Nat) (sf:Nat->List D->Sto->R D):SF :=
 (sSeq (sIf (tTru (eUn (isiD .tuple) (eVar 0)))
  (sSeq (sIf (tOr2 (tBl (eBin (eq4D false) (eVar 1) (eC (.int 0)))) (tBl (eBin (ordD fun i j=>decide (j < i)) (zq7 (zjv) (aCons (eVar 0) aNil)) (eC zjp))))
  (sRet (eC (.bl false)))
  sNx)
 (sRet (zq7 (allD) (aCons (eLcA .keys (eVar 0) (gNm 2) tYesD (zq7 (ari 2 (sf 0)) (aCons (eVar 2) (aCons (eBin subD (eVar 1) (eC (.int 1))) aNil))) [2]) aNil))))
  sNx)
 (sSeq (sIf (tTru (zq7 (ari 1 (zja (k+1))) (aCons (eVar 0) aNil)))
  (sRet (eChain (ordD fun i j=>decide (i < j)) (ordD fun i j=>decide (i < j)) (eUn negD (eC zj5)) (eVar 0) (eC zj5)))
  sNx)
 (sRet (zq7 (ari 1 (f_is_text (k+1))) (aCons (eVar 0) aNil)))))
def fs_is_within_levels:Nat->Nat->List D->Sto->R D
 | 0=>fun _ _ _=>.bad
 | 1=>fun _ _ _=>.bad
 | k+2=>fun i=>match i with
  | 0=>dDef 3 (zqk k (fs_is_within_levels (k+1)))
  | _=>fun _ _=>.bad
def zqj (k:Nat):List D->Sto->R D:=fs_is_within_levels k 0
def zjg (k:Nat) (sf:Nat->List D->Sto->R D):SF :=
 (sRet (eIf (tTru (eUn (isiD .tuple) (eVar 0))) (zq7 (sum2D) (aCons (eLcA .keys (eVar 0) (gNm 1) tYesD (eBin addD (eC (.int 1)) (zq7 (ari 1 (sf 0)) (aCons (eVar 1) aNil))) [1]) aNil)) (eC (.int 0))))
def fs_size_within:Nat->Nat->List D->Sto->R D
 | 0=>fun _ _ _=>.bad
 | 1=>fun _ _ _=>.bad
 | k+2=>fun i=>match i with
  | 0=>dDef 2 (zjg k (fs_size_within (k+1)))
  | _=>fun _ _=>.bad
def zj6 (k:Nat):List D->Sto->R D:=fs_size_within k 0
def b_is_value (k:Nat):SF :=
 (sRet (eAnd (zq7 (ari 2 (zqj (k+1))) (aCons (eVar 0) (aCons (eC k_MAX_LEVELS) aNil))) (eBin (ordD fun i j=>decide (i<=j)) (zq7 (ari 1 (zj6 (k+1))) (aCons (eVar 0) aNil)) (eC zjp))))
def zqv:Nat->List D->Sto->R D
 | 0=>fun _ _=>.bad
 | 1=>fun _ _=>.bad
 | k+2=>dDef 1 (b_is_value k)
def zji (k:Nat):SF :=
 (sSeq (sIf (tNot1 (tTru (eUn isiO (eVar 0))))
  (sRet (eC (.bl false)))
  sNx)
 (sRet (zq7 (allD) (aCons (eLcO (eVar 0) (gTp 2 (gCons2 (gNm 1) (gCons2 (gNm 2) gNil2))) tYesD (eAnd (zq7 (ari 1 (zk9 (k+1))) (aCons (eVar 1) aNil)) (zq7 (ari 1 (zqv (k+1))) (aCons (eVar 2) aNil))) [1,2]) aNil))))
def zqf:Nat->List D->Sto->R D
 | 0=>fun _ _=>.bad
 | 1=>fun _ _=>.bad
 | k+2=>dDef 3 (zji k)
def b_text (k:Nat):SF :=
 (sSeq (sIf (tOr2 (tNot1 (tTru (eUn (isiD .str) (eVar 0)))) (tNot1 (tBl (eChain (ordD fun i j=>decide (i<=j)) (ordD fun i j=>decide (i<=j)) (eVar 1) (zq7 (zjv) (aCons (eVar 0) aNil)) (eC (.int 60))))))
  (sRet (eC (.bl false)))
  sNx)
 (sRet (eBin eqLE (eLcA .keys (eVar 0) (gNm 2) (tBl (eBin (in3D true) (eVar 2) (eC (.str "abcdefghijklmnopqrstuvwxyz0123456789")))) (eVar 2) [2]) (eLst aNil))))
def f_text:Nat->List D->Sto->R D
 | 0=>fun _ _=>.bad
 | 1=>fun _ _=>.bad
 | k+2=>dDef 3 (b_text k)
def zk6 (k:Nat) (sf:Nat->List D->Sto->R D):SF :=
 (sSeq (sIf (tTru (eUn (isiD .tuple) (eVar 0)))
  (sSeq (sIf (tOr2 (tBl (eBin (eq4D false) (eVar 1) (eC (.int 0)))) (tBl (eBin (ordD fun i j=>decide (j < i)) (zq7 (zjv) (aCons (eVar 0) aNil)) (eC (.int 50)))))
  (sRet (eC (.bl false)))
  sNx)
 (sRet (eBin eqLE (eLcA .keys (eVar 0) (gNm 2) (tNot1 (tTru (zq7 (ari 2 (sf 0)) (aCons (eVar 2) (aCons (eBin subD (eVar 1) (eC (.int 1))) aNil))))) (eVar 2) [2]) (eLst aNil))))
  sNx)
 (sSeq (sIf (tAnd2 (tTru (eUn (isiD .int) (eVar 0))) (tNot1 (tTru (eUn (isiD .bool) (eVar 0)))))
  (sRet (eBin (ordD fun i j=>decide (i<=j)) (zq7 (zjv) (aCons (zq7 (strD) (aCons (zq7 (absD) (aCons (eVar 0) aNil)) aNil)) aNil)) (eC (.int 60))))
  sNx)
 (sRet (zq7 (ari 2 (f_text (k+1))) (aCons (eVar 0) (aCons (eC (.int 0)) aNil))))))
def fs_value:Nat->Nat->List D->Sto->R D
 | 0=>fun _ _ _=>.bad
 | 1=>fun _ _ _=>.bad
 | k+2=>fun i=>match i with
  | 0=>dDef 3 (zk6 k (fs_value (k+1)))
  | _=>fun _ _=>.bad
def f_value (k:Nat):List D->Sto->R D:=fs_value k 0
def b_count (k:Nat) (sf:Nat->List D->Sto->R D):SF :=
 (sRet (eIf (tTru (eUn (isiD .tuple) (eVar 0))) (zq7 (sum2D) (aCons (eLcA .keys (eVar 0) (gNm 1) tYesD (eBin addD (eC (.int 1)) (zq7 (ari 1 (sf 0)) (aCons (eVar 1) aNil))) [1]) aNil)) (eC (.int 0))))
def fs_count:Nat->Nat->List D->Sto->R D
 | 0=>fun _ _ _=>.bad
 | 1=>fun _ _ _=>.bad
 | k+2=>fun i=>match i with
  | 0=>dDef 2 (b_count k (fs_count (k+1)))
  | _=>fun _ _=>.bad
def f_count (k:Nat):List D->Sto->R D:=fs_count k 0
def b_good (k:Nat):SF :=
 (sRet (eAnd (zq7 (ari 2 (f_value (k+1))) (aCons (eVar 0) (aCons (eC (.int 5)) aNil))) (eBin (ordD fun i j=>decide (i<=j)) (zq7 (ari 1 (f_count (k+1))) (aCons (eVar 0) aNil)) (eC (.int 50)))))
def f_good:Nat->List D->Sto->R D
 | 0=>fun _ _=>.bad
 | 1=>fun _ _=>.bad
 | k+2=>dDef 1 (b_good k)
def b_is_name (k:Nat):SF :=
 (sRet (zq7 (ari 4 (zj9 (k+1))) (aCons (eVar 0) (aCons (eC k_LETTERS) (aCons (eC (.int 1)) (aCons (eC k_MAX_NAME) aNil))))))
def f_is_name:Nat->List D->Sto->R D
 | 0=>fun _ _=>.bad
 | 1=>fun _ _=>.bad
 | k+2=>dDef 1 (b_is_name k)
def b_name (k:Nat):SF :=
 (sSeq (sIf (tOr2 (tNot1 (tTru (eUn (isiD .str) (eVar 0)))) (tNot1 (tBl (eChain (ordD fun i j=>decide (i<=j)) (ordD fun i j=>decide (i<=j)) (eC (.int 1)) (zq7 (zjv) (aCons (eVar 0) aNil)) (eC (.int 12))))))
  (sRet (eC (.bl false)))
  sNx)
 (sRet (eBin eqLE (eLcA .keys (eVar 0) (gNm 1) (tBl (eBin (in3D true) (eVar 1) (eC (.str "abcdefghijklmnopqrstuvwxyz")))) (eVar 1) [1]) (eLst aNil))))
def f_name:Nat->List D->Sto->R D
 | 0=>fun _ _=>.bad
 | 1=>fun _ _=>.bad
 | k+2=>dDef 2 (b_name k)
def b_holds (k : Nat) : SF :=
 (sSeq (sIf (tOr2 (tBl (eBin (eq4D true) (zq7 (ari 1 (zqv (k+1))) (aCons (eVar 0) aNil)) (zq7 (ari 1 (f_good (k+1))) (aCons (eVar 0) aNil)))) (tBl (eBin (eq4D true) (zq7 (ari 1 (zk9 (k+1))) (aCons (eVar 0) aNil)) (zq7 (ari 2 (f_text (k+1))) (aCons (eVar 0) (aCons (eC (.int 1)) aNil))))))
  (sRet (eC (.bl false)))
  sNx)
 (sSeq (sIf (tBl (eBin (eq4D true) (zq7 (ari 1 (f_is_name (k+1))) (aCons (eVar 0) aNil)) (zq7 (ari 1 (f_name (k+1))) (aCons (eVar 0) aNil))))
  (sRet (eC (.bl false)))
  sNx)
 (sSeq (sSet 1 (eDisp false [((eC (.str "a")),(eC (.int 1))),((eC (.str "x")),(eVar 0))]))
 (sSeq (sIf (tOr2 (tBl (eBin (eq4D true) (zq7 (ari 1 (zqf (k+1))) (aCons (eVar 1) aNil)) (zq7 (ari 1 (f_good (k+1))) (aCons (eVar 0) aNil)))) (tBl (eBin (eq4D true) (zq7 (ari 1 (zqf (k+1))) (aCons (eVar 0) aNil)) (eAnd (eBin eqMD (eVar 0) eDict0) (eUn isiO (eVar 0))))))
  (sRet (eC (.bl false)))
  sNx)
 (sSeq (sIf (tOr2 (tTru (eUn (isiD .list) (eVar 0))) (tOr2 (tTru (eUn isiO (eVar 0))) (tAnd2 (tTru (eUn (isiD .tuple) (eVar 0))) (tBl (eBin neTE (eVar 0) (eTup aNil))))))
  (sRet (eC (.bl true)))
  sNx)
 (sRet (eBin (eq4D false) (zq7 (ari 1 (zqf (k+1))) (aCons (eDispO (eVar 0) (eC (.int 1))) aNil)) (zq7 (ari 2 (f_text (k+1))) (aCons (eVar 0) (aCons (eC (.int 1)) aNil))))))))))
def f_holds : Nat → List D → Sto → R D
 | 0=>fun _ _=>.bad
 | 1=>fun _ _=>.bad
 | k + 2 => dDef 2 (b_holds k)
def b_draw (k:Nat):SF :=
 (sSeq (sIf (tBl (eBin (ordD fun i j=>decide (j < i)) (eBin ix3D (eVar 0) (eC (.int 0))) (eC (.int 0))))
  (sSeq (sSet 2 (eBin modD (eBin ix3D (eVar 0) (eC (.int 0))) (eVar 1)))
 (sSeq (sAsg (eBin fdiv2D (eBin ix3D (eVar 0) (eC (.int 0))) (eVar 1)) (gIx (eVar 0) (eC (.int 0)) set3D))
 (sRet (eVar 2))))
  sNx)
 (sSeq (sAsg (eBin modD (eBin addD (eBin mul2D (eBin ix3D (eVar 0) (eC (.int 1))) (eC (.int 48271))) (eC (.int 11))) (eC (.int 2147483647))) (gIx (eVar 0) (eC (.int 1)) set3D))
 (sRet (eBin modD (eBin fdiv2D (eBin modD (eBin mul2D (eBin ix3D (eVar 0) (eC (.int 1))) (eBin ix3D (eVar 0) (eC (.int 1)))) (eC (.int 2147483629))) (eC (.int 16))) (eVar 1)))))
def zjl:Nat->List D->Sto->R D
 | 0=>fun _ _=>.bad
 | 1=>fun _ _=>.bad
 | k+2=>dDef 3 (b_draw k)
def b_thing (k:Nat) (sf:Nat->List D->Sto->R D):SF :=
 (sSeq (sSet 2 (zq7 (ari 2 (zjl (k+1))) (aCons (eVar 0) (aCons (eIf (tBl (eBin (ordD fun i j=>decide (j < i)) (eVar 1) (eC (.int 0)))) (eC (.int 9)) (eC (.int 6))) aNil))))
 (sSeq (sIf (tBl (eBin (ordD fun i j=>decide (i < j)) (eVar 2) (eC (.int 2))))
  (sRet (eBin ix3D (eLst (aCons (eC (.int 0)) (aCons (eUn negD (eC (.int 5))) (aCons (eBin subD (eBin powD (eC (.int 10)) (eC (.int 60))) (eC (.int 1))) (aCons (eBin powD (eC (.int 10)) (eC (.int 60))) (aCons (eUn negD (eBin powD (eC (.int 10)) (eC (.int 60)))) (aCons (eBin subD (eC (.int 1)) (eBin powD (eC (.int 10)) (eC (.int 60)))) aNil))))))) (zq7 (ari 2 (zjl (k+1))) (aCons (eVar 0) (aCons (eC (.int 6)) aNil)))))
  sNx)
 (sSeq (sIf (tBl (eBin (ordD fun i j=>decide (i < j)) (eVar 2) (eC (.int 4))))
  (sRet (eBin ix3D (eLst (aCons (eC (.str "")) (aCons (eC (.str "a")) (aCons (eC (.str "x7")) (aCons (eC (.str "7")) (aCons (eC (.str "A")) (aCons (eC (.str "a b")) (aCons (eBin mul2D (eC (.str "a")) (eC (.int 12))) (aCons (eBin mul2D (eC (.str "a")) (eC (.int 13))) (aCons (eBin mul2D (eC (.str "b")) (eC (.int 60))) (aCons (eBin mul2D (eC (.str "b")) (eC (.int 61))) (aCons (eC (.str "\n")) aNil)))))))))))) (zq7 (ari 2 (zjl (k+1))) (aCons (eVar 0) (aCons (eC (.int 11)) aNil)))))
  sNx)
 (sSeq (sIf (tBl (eBin (ordD fun i j=>decide (i < j)) (eVar 2) (eC (.int 6))))
  (sRet (eBin ix3D (eLst (aCons (eC .non) (aCons (eC (.bl true)) (aCons (eC (.bl false)) (aCons (eTup aNil) (aCons (eLst aNil) (aCons eDict0 (aCons (eTup (aCons (eC (.int 1)) (aCons (eC (.bl true)) aNil))) aNil)))))))) (zq7 (ari 2 (zjl (k+1))) (aCons (eVar 0) (aCons (eC (.int 7)) aNil)))))
  sNx)
 (sSeq (sSet 3 (eBin ix3D (eLst (aCons (eC (.int 0)) (aCons (eC (.int 1)) (aCons (eC (.int 2)) (aCons (eC (.int 3)) (aCons (eC (.int 50)) (aCons (eC (.int 51)) aNil))))))) (zq7 (ari 2 (zjl (k+1))) (aCons (eVar 0) (aCons (eC (.int 6)) aNil)))))
 (sRet (zq7 (tupleD) (aCons (eLc (wRng1 (aCons (eVar 3) aNil)) (gNm 4) tYesD (zq7 (ari 2 (sf 0)) (aCons (eVar 0) (aCons (eBin subD (eBin subD (eVar 1) (eC (.int 1))) (eBin mul2D (zq7 (intD) (aCons (eBin (ordD fun i j=>decide (j < i)) (eVar 3) (eC (.int 3))) aNil)) (eVar 1))) aNil))) [4]) aNil))))))))
def fs_thing:Nat->Nat->List D->Sto->R D
 | 0=>fun _ _ _=>.bad
 | 1=>fun _ _ _=>.bad
 | k+2=>fun i=>match i with
  | 0=>dDef 5 (b_thing k (fs_thing (k+1)))
  | _=>fun _ _=>.bad
def f_thing (k:Nat):List D->Sto->R D:=fs_thing k 0
def b_pool (k:Nat):SF :=
 (sSeq (sSet 2 (eBin addD (eBin mul2D (eC (.int 11)) (zq7 (sum2D) (aCons (eSl (eVar 0) pNo (pSo (eC (.int 63)))) aNil))) (eVar 1)))
 (sSeq (sIf (tBl (eBin (ordD fun i j=>decide (i < j)) (eVar 1) (zq7 (zjv) (aCons (eVar 0) aNil))))
  (sSet 2 (eBin ix3D (eVar 0) (eVar 1)))
  sNx)
 (sSeq (sSet 3 (zq7 (absD) (aCons (eVar 2) aNil)))
 (sSeq (sSet 4 (eBin modD (eBin mul2D (eBin addD (eBin addD (eBin addD (eBin modD (eVar 3) (eC (.int 2147483629))) (eBin mul2D (eBin mul2D (eC (.int 7919)) (eVar 1)) (eVar 1))) (eBin mul2D (eC (.int 31)) (eVar 1))) (eC (.int 17))) (eC (.int 48271))) (eC (.int 2147483647))))
 (sRet (eLstM (aCons (eBin mul2D (eVar 3) (zq7 (intD) (aCons (eBin (ordD fun i j=>decide (j<=i)) (eVar 3) (eBin powD (eC (.int 10)) (eC (.int 18)))) aNil))) (aCons (eBin modD (eBin mul2D (eVar 4) (eVar 4)) (eC (.int 2147483629))) aNil))))))))
def f_pool:Nat->List D->Sto->R D
 | 0=>fun _ _=>.bad
 | 1=>fun _ _=>.bad
 | k+2=>dDef 5 (b_pool k)
def b_law_1 (k:Nat):SF :=
 (sIf (tNot1 (tTru (zq7 (ari 1 (f_holds (k + 1))) (aCons (zq7 (ari 2 (f_thing (k + 1))) (aCons (eVar 6) (aCons (eC (.int 3)) aNil))) aNil))))
  (sRet (eC (.bl false)))
  sNx)
def b_law_2 (k:Nat):SF :=
 (sSeq (sSet 6 (zq7 (ari 2 (f_pool (k+1))) (aCons (eVar 0) (aCons (eVar 5) aNil))))
 (sFor (wRng1 (aCons (eC (.int 20)) aNil)) (gNm 7)
  (b_law_1 k)))
def b_law_3 (k:Nat):SF :=
 (sSeq (sSet 4 (eLst (aCons (eBin mul2D (eTup (aCons (eC (.int 1)) aNil)) (eVar 3)) (aCons (eTup (aCons (eBin mul2D (eTup (aCons (eC (.int 1)) aNil)) (eBin subD (eVar 3) (eC (.int 1)))) aNil)) (aCons (eTup (aCons (eBin mul2D (eTup (aCons (eC (.int 2)) aNil)) (eBin subD (eVar 3) (eC (.int 5)))) (aCons (eBin mul2D (eTup (aCons (eC (.int 3)) aNil)) (eC (.int 3))) aNil))) (aCons (eBin addD (eBin mul2D (eTup (aCons (eC (.str "a")) aNil)) (eBin subD (eVar 3) (eC (.int 2)))) (eBin mul2D (eTup (aCons (eTup aNil) aNil)) (eC (.int 2)))) aNil))))))
 (sIf (tBl (eBin (eq4D true) (eLcA .keys (eVar 4) (gNm 8) tYesD (zq7 (ari 1 (zqv (k+1))) (aCons (eVar 8) aNil)) [8]) (eBin mul2D (eLst (aCons (eBin (ordD fun i j=>decide (i<=j)) (eVar 3) (eC (.int 50))) aNil)) (eC (.int 4)))))
  (sRet (eC (.bl false)))
  sNx))
def b_law_4 (k:Nat):SF :=
 (sSeq (sSet 1 (eTup (aCons (eVar 1) (aCons (eVar 2) aNil))))
 (sIf (tBl (eBin (eq4D true) (zq7 (ari 1 (zqv (k+1))) (aCons (eVar 1) aNil)) (eBin (ordD fun i j=>decide (i<=j)) (eVar 2) (eC (.int 5)))))
  (sRet (eC (.bl false)))
  sNx))
def b_law (k:Nat):SF :=
 (sSeq (sSet 1 (eC (.int 3)))
 (sSeq (sFor (wRng2 (aCons (eC (.int 1)) (aCons (eC (.int 8)) aNil))) (gNm 2)
  (b_law_4 k))
 (sSeq (sFor (wRng2 (aCons (eC (.int 46)) (aCons (eC (.int 54)) aNil))) (gNm 3)
  (b_law_3 k))
 (sSeq (sFor (wRng1 (aCons (zq7 (max2D) (aCons (eC (.int 1)) (aCons (zq7 (min2D) (aCons (zq7 (zjv) (aCons (eVar 0) aNil)) (aCons (eC (.int 8)) aNil))) aNil))) aNil)) (gNm 5)
  (b_law_2 k))
 (sRet (eC (.bl true)))))))
def f_law:Nat->List D->Sto->R D
 | 0=>fun _ _=>.bad
 | 1=>fun _ _=>.bad
 | k+2=>dDef 9 (b_law k)
end K01
namespace K01
open PySem PySem.Spec PyProof.Rows L2 VL
structure Tx (g:G) (w:World) (mg:Str->Option Value) where
 tj:∀m H,g.J m H
 is_word:FT g.K mg "is_word" s_is_word ["value", "signs", "least", "most"]
 is_key:FT g.K mg "is_key" s_is_key ["value"]
 is_text:FT g.K mg "is_text" s_is_text ["value"]
 is_integer:FT g.K mg "is_integer" s_is_integer ["value"]
 is_within_levels:FT g.K mg "is_within_levels" s_is_within_levels ["value", "levels"]
 size_within:FT g.K mg "size_within" s_size_within ["value"]
 is_value:FT g.K mg "is_value" s_is_value ["value"]
 is_state:FT g.K mg "is_state" s_is_state ["value"]
 text:FT g.K mg "_law_text" s_text ["_law_thing_here", "_law_least"]
 value:FT g.K mg "_law_value" s_value ["_law_thing_here", "_law_levels"]
 count:FT g.K mg "_law_count" s_count ["_law_thing_here"]
 good:FT g.K mg "_law_good" s_good ["_law_thing_here"]
 is_name:FT g.K mg "is_name" s_is_name ["value"]
 name:FT g.K mg "_law_name" s_name ["_law_thing_here"]
 holds : FT g.K mg "_law_holds" s_holds ["_law_thing_here"]
 draw:FT g.K mg "_law_draw" s_draw ["_law_pool_here", "_law_many"]
 thing:FT g.K mg "_law_thing" s_thing ["_law_pool_here", "_law_depth"]
 pool:FT g.K mg "_law_pool" s_pool ["_law_script", "_law_k"]
 law:FT g.K mg "law" s_law ["_law_script"]
 c_MAX_TEXT:KD g.K mg "MAX_TEXT" zk3
 c_SIGNS:KD g.K mg "SIGNS" k_SIGNS
 c_MAX_INTEGER:KD g.K mg "MAX_INTEGER" zj5
 c_MAX_ITEMS:KD g.K mg "MAX_ITEMS" zjp
 c_MAX_LEVELS:KD g.K mg "MAX_LEVELS" k_MAX_LEVELS
 c_MAX_NAME:KD g.K mg "MAX_NAME" k_MAX_NAME
 c_LETTERS:KD g.K mg "LETTERS" k_LETTERS
 m_isinstance:mg "isinstance" = none
 m_str:mg "str" = none
 m_len:mg "len" = none
 m_all:mg "all" = none
 m_int:mg "int" = none
 m_bool:mg "bool" = none
 m_tuple:mg "tuple" = none
 m_sum:mg "sum" = none
 m_dict:mg "dict" = none
 m_abs:mg "abs" = none
 m_list:mg "list" = none
 m_range:mg "range" = none
 m_min:mg "min" = none
 m_max:mg "max" = none
section
variable {P:Program} {w:World} {mg:Str->Option Value} {base:Heap} {g:G}
theorem st_is_word (T:Tx g w mg) (k:Nat):FnOk P w g.K mg base (L2.CX P w) (k+2) T.is_word.f T.is_word.fd ["value", "signs", "least", "most"] (spD g 4 (zj9 (k+2))):=by
  exact zk4 (fb:=b_is_word k) (nn:=5) T.is_word.fn sc_is_word rfl rfl fun cdv A outer s H E X hX hr hx tk hp=>by
   subst hX
   have hu:=hr.units
   have hu2:=hr.units65
   exact (zqb (zqc (de_and rfl (zjz .str rfl rfl T.m_isinstance rfl T.m_str bt_str (zq1 0)) (de_and rfl (de_chain od_le od_le (zq1 2) (zqh (cd_len2 rfl) rfl T.m_len bt_len (zq0 (zq1 0) zq4)) (zq1 3)) (pe_one (zqh (cd_all rfl rfl) rfl T.m_all bt_all (zq0 (de_lcA (own:=[("sign",4)]) rfl sc_is_word.nd rfl (dA_keys rfl (zq1 0)) (blkOk_by (N:=N_is_word) (sc:=defScope s_is_word) (by decide +kernel)) (fun _ _ _ _ _=>(zqy (i:=4) sc_is_word.nd rfl (by first | exact Or.inl rfl | exact Or.inr rfl) (wp_nm (by decide)))) (fun _ _ _ _ _=>dts_nil) (fun _ _ _ _ _=>(zk0 (od_in3 rfl hu2) (zq1 4) (zq1 1) (by rfl)))) zq4)))))))
theorem ok_is_word (T:Tx g w mg):∀k,FnOk P w g.K mg base (L2.CX P w) k T.is_word.f T.is_word.fd ["value", "signs", "least", "most"] (spD g 4 (zj9 k))
 | 0=>zqd
 | 1=>zqd
 | k+2=>st_is_word T k
theorem st_is_key (T:Tx g w mg) (k:Nat):FnOk P w g.K mg base (L2.CX P w) (k+2) T.is_key.f T.is_key.fd ["value"] (spD g 1 (zk9 (k+2))):=by
  exact zk4 (fb:=b_is_key k) (nn:=1) T.is_key.fn sc_is_key rfl rfl fun cdv A outer s H E X hX hr hx tk hp=>by
   subst hX
   have hu:=hr.units
   have hu2:=hr.units65
   exact (zqb (zqc (zq9 (ok_is_word T (k+1)) hr rfl T.is_word.mgx T.is_word.fn.kp T.is_word.bn hx (zq0 (zq1 0) (zq0 (de_kd rfl rfl T.c_SIGNS) (zq0 zq3 (zq0 (de_kd rfl rfl T.c_MAX_TEXT) zq4)))))))
theorem ok_is_key (T:Tx g w mg):∀k,FnOk P w g.K mg base (L2.CX P w) k T.is_key.f T.is_key.fd ["value"] (spD g 1 (zk9 k))
 | 0=>zqd
 | 1=>zqd
 | k+2=>st_is_key T k
theorem st_is_text (T:Tx g w mg) (k:Nat):FnOk P w g.K mg base (L2.CX P w) (k+2) T.is_text.f T.is_text.fd ["value"] (spD g 1 (f_is_text (k+2))):=by
  exact zk4 (fb:=b_is_text k) (nn:=1) T.is_text.fn sc_is_text rfl rfl fun cdv A outer s H E X hX hr hx tk hp=>by
   subst hX
   have hu:=hr.units
   have hu2:=hr.units65
   exact (zqb (zqc (zq9 (ok_is_word T (k+1)) hr rfl T.is_word.mgx T.is_word.fn.kp T.is_word.bn hx (zq0 (zq1 0) (zq0 (de_kd rfl rfl T.c_SIGNS) (zq0 zq3 (zq0 (de_kd rfl rfl T.c_MAX_TEXT) zq4)))))))
theorem ok_is_text (T:Tx g w mg):∀k,FnOk P w g.K mg base (L2.CX P w) k T.is_text.f T.is_text.fd ["value"] (spD g 1 (f_is_text k))
 | 0=>zqd
 | 1=>zqd
 | k+2=>st_is_text T k
theorem st_is_integer (T:Tx g w mg) (k:Nat):FnOk P w g.K mg base (L2.CX P w) (k+2) T.is_integer.f T.is_integer.fd ["value"] (spD g 1 (zja (k+2))):=by
  exact zk4 (fb:=zjs k) (nn:=1) T.is_integer.fn sc_is_integer rfl rfl fun cdv A outer s H E X hX hr hx tk hp=>by
   subst hX
   have hu:=hr.units
   have hu2:=hr.units65
   exact (zqb (zqc (de_and rfl (zjz .int rfl rfl T.m_isinstance rfl T.m_int bt_int (zq1 0)) (pe_one (de_not rfl (zjz .bool rfl rfl T.m_isinstance rfl T.m_bool bt_bool (zq1 0)))))))
theorem ok_is_integer (T:Tx g w mg):∀k,FnOk P w g.K mg base (L2.CX P w) k T.is_integer.f T.is_integer.fd ["value"] (spD g 1 (zja k))
 | 0=>zqd
 | 1=>zqd
 | k+2=>st_is_integer T k
theorem st_is_within_levels (T:Tx g w mg) (k:Nat) (ih0:FnOk P w g.K mg base (L2.CX P w) (k+1) T.is_within_levels.f T.is_within_levels.fd ["value", "levels"] (spD g 2 (fs_is_within_levels (k+1) 0))):FnOk P w g.K mg base (L2.CX P w) (k+2) T.is_within_levels.f T.is_within_levels.fd ["value", "levels"] (spD g 2 (fs_is_within_levels (k+2) 0)):=by
  exact zk4 (fb:=zqk k (fs_is_within_levels (k+1))) (nn:=3) T.is_within_levels.fn sc_is_within_levels rfl rfl fun cdv A outer s H E X hX hr hx tk hp=>by
   subst hX
   have hu:=hr.units
   have hu2:=hr.units65
   exact (zqa (zjw (zjm rfl (zjz .tuple rfl rfl T.m_isinstance rfl T.m_tuple bt_tuple (zq1 0)))
   (zqa (zjw (PW.pt (dw_or (zqz (od_eq4 rfl hu2) (zq1 1) zq3 (nomark _)) (dw_or1 (zqz od_gt (zqh (cd_len2 rfl) rfl T.m_len bt_len (zq0 (zq1 0) zq4)) (de_kd rfl rfl T.c_MAX_ITEMS) (nomark _)))))
   (zqb (zqc de_bl))
   zqx)
  (zqb (zqc (zqh (cd_all rfl rfl) rfl T.m_all bt_all (zq0 (de_lcA (own:=[("item",2)]) rfl sc_is_within_levels.nd rfl (dA_keys rfl (zq1 0)) (blkOk_by (N:=zju) (sc:=defScope s_is_within_levels) (by decide +kernel)) (fun _ _ _ _ _=>(zqy (i:=2) sc_is_within_levels.nd rfl (by first | exact Or.inl rfl | exact Or.inr rfl) (wp_nm (by decide)))) (fun _ _ _ _ _=>dts_nil) (fun _ _ _ _ _=>(zq9 ih0 hr rfl T.is_within_levels.mgx T.is_within_levels.fn.kp T.is_within_levels.bn px_no (zq0 (zq1 2) (zq0 (zqe (od_sub) (zq1 1) zq3) zq4))))) zq4)))))
   zqx)
  (zqa (zjw (zjm rfl (zq9 (ok_is_integer T (k+1)) hr rfl T.is_integer.mgx T.is_integer.fn.kp T.is_integer.bn hx (zq0 (zq1 0) zq4)))
   (zqb (zqc (de_chain od_lt od_lt (de_un ud_neg (de_kd rfl rfl T.c_MAX_INTEGER)) (zq1 0) (de_kd rfl rfl T.c_MAX_INTEGER))))
   zqx)
  (zqb (zqc (zq9 (ok_is_text T (k+1)) hr rfl T.is_text.mgx T.is_text.fn.kp T.is_text.bn hx (zq0 (zq1 0) zq4))))))
theorem zje (T:Tx g w mg):∀k,FnOk P w g.K mg base (L2.CX P w) k T.is_within_levels.f T.is_within_levels.fd ["value", "levels"] (spD g 2 (fs_is_within_levels k 0))
 | 0=>(zqd)
 | 1=>(zqd)
 | k+2=>by
  have ih:=zje T (k+1)
  exact (st_is_within_levels T k ih)
theorem ok_is_within_levels (T:Tx g w mg) (k:Nat):FnOk P w g.K mg base (L2.CX P w) k T.is_within_levels.f T.is_within_levels.fd ["value", "levels"] (spD g 2 (zqj k)):=(zje T k)
theorem st_size_within (T:Tx g w mg) (k:Nat) (ih0:FnOk P w g.K mg base (L2.CX P w) (k+1) T.size_within.f T.size_within.fd ["value"] (spD g 1 (fs_size_within (k+1) 0))):FnOk P w g.K mg base (L2.CX P w) (k+2) T.size_within.f T.size_within.fd ["value"] (spD g 1 (fs_size_within (k+2) 0)):=by
  exact zk4 (fb:=zjg k (fs_size_within (k+1))) (nn:=2) T.size_within.fn sc_size_within rfl rfl fun cdv A outer s H E X hX hr hx tk hp=>by
   subst hX
   have hu:=hr.units
   have hu2:=hr.units65
   exact (zqb (zqc (de_if (zjm rfl (zjz .tuple rfl rfl T.m_isinstance rfl T.m_tuple bt_tuple (zq1 0))) (zqh (cd_sum2 rfl rfl) rfl T.m_sum bt_sum (zq0 (de_lcA (own:=[("item",1)]) rfl sc_size_within.nd rfl (dA_keys rfl (zq1 0)) (blkOk_by (N:=N_size_within) (sc:=defScope s_size_within) (by decide +kernel)) (fun _ _ _ _ _=>(zqy (i:=1) sc_size_within.nd rfl (by first | exact Or.inl rfl | exact Or.inr rfl) (wp_nm (by decide)))) (fun _ _ _ _ _=>dts_nil) (fun _ _ _ _ _=>(zqe (od_add rfl) zq3 (zq9 ih0 hr rfl T.size_within.mgx T.size_within.fn.kp T.size_within.bn px_no (zq0 (zq1 1) zq4))))) zq4)) zq3)))
theorem oks_size_within (T:Tx g w mg):∀k,FnOk P w g.K mg base (L2.CX P w) k T.size_within.f T.size_within.fd ["value"] (spD g 1 (fs_size_within k 0))
 | 0=>(zqd)
 | 1=>(zqd)
 | k+2=>by
  have ih:=oks_size_within T (k+1)
  exact (st_size_within T k ih)
theorem ok_size_within (T:Tx g w mg) (k:Nat):FnOk P w g.K mg base (L2.CX P w) k T.size_within.f T.size_within.fd ["value"] (spD g 1 (zj6 k)):=(oks_size_within T k)
theorem st_is_value (T:Tx g w mg) (k:Nat):FnOk P w g.K mg base (L2.CX P w) (k+2) T.is_value.f T.is_value.fd ["value"] (spD g 1 (zqv (k+2))):=by
  exact zk4 (fb:=b_is_value k) (nn:=1) T.is_value.fn sc_is_value rfl rfl fun cdv A outer s H E X hX hr hx tk hp=>by
   subst hX
   have hu:=hr.units
   have hu2:=hr.units65
   exact (zqb (zqc (de_and rfl (zq9 (ok_is_within_levels T (k+1)) hr rfl T.is_within_levels.mgx T.is_within_levels.fn.kp T.is_within_levels.bn hx (zq0 (zq1 0) (zq0 (de_kd rfl rfl T.c_MAX_LEVELS) zq4))) (pe_one (zk0 od_le (zq9 (ok_size_within T (k+1)) hr rfl T.size_within.mgx T.size_within.fn.kp T.size_within.bn hx (zq0 (zq1 0) zq4)) (de_kd rfl rfl T.c_MAX_ITEMS) (nomark _))))))
theorem zka (T:Tx g w mg):∀k,FnOk P w g.K mg base (L2.CX P w) k T.is_value.f T.is_value.fd ["value"] (spD g 1 (zqv k))
 | 0=>zqd
 | 1=>zqd
 | k+2=>st_is_value T k
theorem st_is_state (T:Tx g w mg) (k:Nat):FnOk P w g.K mg base (L2.CX P w) (k+2) T.is_state.f T.is_state.fd ["value"] (spD g 1 (zqf (k+2))):=by
  exact zk4 (fb:=zji k) (nn:=3) T.is_state.fn sc_is_state rfl rfl fun cdv A outer s H E X hX hr hx tk hp=>by
   subst hX
   have hu:=hr.units
   have hu2:=hr.units65
   exact (zqa (zjw (dt_not (zjm rfl (de_isiO rfl rfl T.m_isinstance rfl T.m_dict bt_dict (zq1 0))))
   (zqb (zqc de_bl))
   zqx)
  (zqb (zqc (zqh (cd_all rfl rfl) rfl T.m_all bt_all (zq0 (de_lcO (own:=[("key",1),("worth",2)]) rfl sc_is_state.nd rfl (dA_items (zq1 0)) (di_odi (zq1 0)) (blkOk_by (N:=N_is_state) (sc:=defScope s_is_state) (by decide +kernel)) (fun _ _ _ _ _=>(dg_tup (n:=2) rfl rfl (dgs_cons (fun _ _ _ p q=>Eq.trans q p) (zqy (i:=1) sc_is_state.nd rfl (by first | exact Or.inl rfl | exact Or.inr rfl) (wp_nm (by decide))) (dgs_cons (fun _ _ _ p q=>Eq.trans q p) (zqy (i:=2) sc_is_state.nd rfl (by first | exact Or.inl rfl | exact Or.inr rfl) (wp_nm (by decide))) (dgs_nil (fun _=>rfl)))))) (fun _ _ _ _ _=>dts_nil) (fun _ _ _ _ _=>(de_and rfl (zq9 (ok_is_key T (k+1)) hr rfl T.is_key.mgx T.is_key.fn.kp T.is_key.bn px_no (zq0 (zq1 1) zq4)) (pe_one (zq9 (zka T (k+1)) hr rfl T.is_value.mgx T.is_value.fn.kp T.is_value.bn px_no (zq0 (zq1 2) zq4)))))) zq4)))))
theorem ok_is_state (T:Tx g w mg):∀k,FnOk P w g.K mg base (L2.CX P w) k T.is_state.f T.is_state.fd ["value"] (spD g 1 (zqf k))
 | 0=>zqd
 | 1=>zqd
 | k+2=>st_is_state T k
theorem st_text (T:Tx g w mg) (k:Nat):FnOk P w g.K mg base (L2.CX P w) (k+2) T.text.f T.text.fd ["_law_thing_here", "_law_least"] (spD g 2 (f_text (k+2))):=by
  exact zk4 (fb:=b_text k) (nn:=3) T.text.fn sc_text rfl rfl fun cdv A outer s H E X hX hr hx tk hp=>by
   subst hX
   have hu:=hr.units
   have hu2:=hr.units65
   exact (zqa (zjw (PW.pt (dw_or (dt_not (zjm rfl (zjz .str rfl rfl T.m_isinstance rfl T.m_str bt_str (zq1 0)))) (dw_or1 (dt_not (dt_chain od_le od_le (zq1 1) (zqh (cd_len2 rfl) rfl T.m_len bt_len (zq0 (zq1 0) zq4)) zq3)))))
   (zqb (zqc de_bl))
   zqx)
  (zqb (zqc (zk0 (od_eqLE rfl hu2) (de_lcA (own:=[("_law_sign",2)]) rfl sc_text.nd rfl (dA_keys rfl (zq1 0)) (blkOk_by (N:=N_text) (sc:=defScope s_text) (by decide +kernel)) (fun _ _ _ _ _=>(zqy (i:=2) sc_text.nd rfl (by first | exact Or.inl rfl | exact Or.inr rfl) (wp_nm (by decide)))) (fun _ _ _ _ _=>(dts_one (zqz (od_notin3 rfl hu2) (zq1 2) zjd (by rfl)))) (fun _ _ _ _ _=>(zq1 2))) (de_lst zq4) (nomark _)))))
theorem ok_text (T:Tx g w mg):∀k,FnOk P w g.K mg base (L2.CX P w) k T.text.f T.text.fd ["_law_thing_here", "_law_least"] (spD g 2 (f_text k))
 | 0=>zqd
 | 1=>zqd
 | k+2=>st_text T k
theorem st_value (T:Tx g w mg) (k:Nat) (ih0:FnOk P w g.K mg base (L2.CX P w) (k+1) T.value.f T.value.fd ["_law_thing_here", "_law_levels"] (spD g 2 (fs_value (k+1) 0))):FnOk P w g.K mg base (L2.CX P w) (k+2) T.value.f T.value.fd ["_law_thing_here", "_law_levels"] (spD g 2 (fs_value (k+2) 0)):=by
  exact zk4 (fb:=zk6 k (fs_value (k+1))) (nn:=3) T.value.fn sc_value rfl rfl fun cdv A outer s H E X hX hr hx tk hp=>by
   subst hX
   have hu:=hr.units
   have hu2:=hr.units65
   exact (zqa (zjw (zjm rfl (zjz .tuple rfl rfl T.m_isinstance rfl T.m_tuple bt_tuple (zq1 0)))
   (zqa (zjw (PW.pt (dw_or (zqz (od_eq4 rfl hu2) (zq1 1) zq3 (nomark _)) (dw_or1 (zqz od_gt (zqh (cd_len2 rfl) rfl T.m_len bt_len (zq0 (zq1 0) zq4)) zq3 (nomark _)))))
   (zqb (zqc de_bl))
   zqx)
  (zqb (zqc (zk0 (od_eqLE rfl hu2) (de_lcA (own:=[("_law_one",2)]) rfl sc_value.nd rfl (dA_keys rfl (zq1 0)) (blkOk_by (N:=N_value) (sc:=defScope s_value) (by decide +kernel)) (fun _ _ _ _ _=>(zqy (i:=2) sc_value.nd rfl (by first | exact Or.inl rfl | exact Or.inr rfl) (wp_nm (by decide)))) (fun _ _ _ _ _=>(dts_one (dt_not (zjm rfl (zq9 ih0 hr rfl T.value.mgx T.value.fn.kp T.value.bn px_no (zq0 (zq1 2) (zq0 (zqe (od_sub) (zq1 1) zq3) zq4))))))) (fun _ _ _ _ _=>(zq1 2))) (de_lst zq4) (nomark _)))))
   zqx)
  (zqa (zjw (PW.pt (dw_and (zjm rfl (zjz .int rfl rfl T.m_isinstance rfl T.m_int bt_int (zq1 0))) (dw_and1 (dt_not (zjm rfl (zjz .bool rfl rfl T.m_isinstance rfl T.m_bool bt_bool (zq1 0)))))))
   (zqb (zqc (zk0 od_le (zqh (cd_len2 rfl) rfl T.m_len bt_len (zq0 (de_callTy (cd_str) rfl T.m_str bt_str (zq0 (zqh (cd_abs) rfl T.m_abs bt_abs (zq0 (zq1 0) zq4)) zq4)) zq4)) zq3 (nomark _))))
   zqx)
  (zqb (zqc (zq9 (ok_text T (k+1)) hr rfl T.text.mgx T.text.fn.kp T.text.bn hx (zq0 (zq1 0) (zq0 zq3 zq4)))))))
theorem oks_value (T:Tx g w mg):∀k,FnOk P w g.K mg base (L2.CX P w) k T.value.f T.value.fd ["_law_thing_here", "_law_levels"] (spD g 2 (fs_value k 0))
 | 0=>(zqd)
 | 1=>(zqd)
 | k+2=>by
  have ih:=oks_value T (k+1)
  exact (st_value T k ih)
theorem ok_value (T:Tx g w mg) (k:Nat):FnOk P w g.K mg base (L2.CX P w) k T.value.f T.value.fd ["_law_thing_here", "_law_levels"] (spD g 2 (f_value k)):=(oks_value T k)
theorem st_count (T:Tx g w mg) (k:Nat) (ih0:FnOk P w g.K mg base (L2.CX P w) (k+1) T.count.f T.count.fd ["_law_thing_here"] (spD g 1 (fs_count (k+1) 0))):FnOk P w g.K mg base (L2.CX P w) (k+2) T.count.f T.count.fd ["_law_thing_here"] (spD g 1 (fs_count (k+2) 0)):=by
  exact zk4 (fb:=b_count k (fs_count (k+1))) (nn:=2) T.count.fn sc_count rfl rfl fun cdv A outer s H E X hX hr hx tk hp=>by
   subst hX
   have hu:=hr.units
   have hu2:=hr.units65
   exact (zqb (zqc (de_if (zjm rfl (zjz .tuple rfl rfl T.m_isinstance rfl T.m_tuple bt_tuple (zq1 0))) (zqh (cd_sum2 rfl rfl) rfl T.m_sum bt_sum (zq0 (de_lcA (own:=[("_law_one",1)]) rfl sc_count.nd rfl (dA_keys rfl (zq1 0)) (blkOk_by (N:=N_count) (sc:=defScope s_count) (by decide +kernel)) (fun _ _ _ _ _=>(zqy (i:=1) sc_count.nd rfl (by first | exact Or.inl rfl | exact Or.inr rfl) (wp_nm (by decide)))) (fun _ _ _ _ _=>dts_nil) (fun _ _ _ _ _=>(zqe (od_add rfl) zq3 (zq9 ih0 hr rfl T.count.mgx T.count.fn.kp T.count.bn px_no (zq0 (zq1 1) zq4))))) zq4)) zq3)))
theorem oks_count (T:Tx g w mg):∀k,FnOk P w g.K mg base (L2.CX P w) k T.count.f T.count.fd ["_law_thing_here"] (spD g 1 (fs_count k 0))
 | 0=>(zqd)
 | 1=>(zqd)
 | k+2=>by
  have ih:=oks_count T (k+1)
  exact (st_count T k ih)
theorem ok_count (T:Tx g w mg) (k:Nat):FnOk P w g.K mg base (L2.CX P w) k T.count.f T.count.fd ["_law_thing_here"] (spD g 1 (f_count k)):=(oks_count T k)
theorem st_good (T:Tx g w mg) (k:Nat):FnOk P w g.K mg base (L2.CX P w) (k+2) T.good.f T.good.fd ["_law_thing_here"] (spD g 1 (f_good (k+2))):=by
  exact zk4 (fb:=b_good k) (nn:=1) T.good.fn sc_good rfl rfl fun cdv A outer s H E X hX hr hx tk hp=>by
   subst hX
   have hu:=hr.units
   have hu2:=hr.units65
   exact (zqb (zqc (de_and rfl (zq9 (ok_value T (k+1)) hr rfl T.value.mgx T.value.fn.kp T.value.bn hx (zq0 (zq1 0) (zq0 zq3 zq4))) (pe_one (zk0 od_le (zq9 (ok_count T (k+1)) hr rfl T.count.mgx T.count.fn.kp T.count.bn hx (zq0 (zq1 0) zq4)) zq3 (nomark _))))))
theorem ok_good (T:Tx g w mg):∀k,FnOk P w g.K mg base (L2.CX P w) k T.good.f T.good.fd ["_law_thing_here"] (spD g 1 (f_good k))
 | 0=>zqd
 | 1=>zqd
 | k+2=>st_good T k
theorem st_is_name (T:Tx g w mg) (k:Nat):FnOk P w g.K mg base (L2.CX P w) (k+2) T.is_name.f T.is_name.fd ["value"] (spD g 1 (f_is_name (k+2))):=by
  exact zk4 (fb:=b_is_name k) (nn:=1) T.is_name.fn sc_is_name rfl rfl fun cdv A outer s H E X hX hr hx tk hp=>by
   subst hX
   have hu:=hr.units
   have hu2:=hr.units65
   exact (zqb (zqc (zq9 (ok_is_word T (k+1)) hr rfl T.is_word.mgx T.is_word.fn.kp T.is_word.bn hx (zq0 (zq1 0) (zq0 (de_kd rfl rfl T.c_LETTERS) (zq0 zq3 (zq0 (de_kd rfl rfl T.c_MAX_NAME) zq4)))))))
theorem ok_is_name (T:Tx g w mg):∀k,FnOk P w g.K mg base (L2.CX P w) k T.is_name.f T.is_name.fd ["value"] (spD g 1 (f_is_name k))
 | 0=>zqd
 | 1=>zqd
 | k+2=>st_is_name T k
theorem st_name (T:Tx g w mg) (k:Nat):FnOk P w g.K mg base (L2.CX P w) (k+2) T.name.f T.name.fd ["_law_thing_here"] (spD g 1 (f_name (k+2))):=by
  exact zk4 (fb:=b_name k) (nn:=2) T.name.fn sc_name rfl rfl fun cdv A outer s H E X hX hr hx tk hp=>by
   subst hX
   have hu:=hr.units
   have hu2:=hr.units65
   exact (zqa (zjw (PW.pt (dw_or (dt_not (zjm rfl (zjz .str rfl rfl T.m_isinstance rfl T.m_str bt_str (zq1 0)))) (dw_or1 (dt_not (dt_chain od_le od_le zq3 (zqh (cd_len2 rfl) rfl T.m_len bt_len (zq0 (zq1 0) zq4)) zq3)))))
   (zqb (zqc de_bl))
   zqx)
  (zqb (zqc (zk0 (od_eqLE rfl hu2) (de_lcA (own:=[("_law_sign",1)]) rfl sc_name.nd rfl (dA_keys rfl (zq1 0)) (blkOk_by (N:=N_name) (sc:=defScope s_name) (by decide +kernel)) (fun _ _ _ _ _=>(zqy (i:=1) sc_name.nd rfl (by first | exact Or.inl rfl | exact Or.inr rfl) (wp_nm (by decide)))) (fun _ _ _ _ _=>(dts_one (zqz (od_notin3 rfl hu2) (zq1 1) zjd (by rfl)))) (fun _ _ _ _ _=>(zq1 1))) (de_lst zq4) (nomark _)))))
theorem ok_name (T:Tx g w mg):∀k,FnOk P w g.K mg base (L2.CX P w) k T.name.f T.name.fd ["_law_thing_here"] (spD g 1 (f_name k))
 | 0=>zqd
 | 1=>zqd
 | k+2=>st_name T k
theorem st_holds (T : Tx g w mg) (k : Nat) : FnOk P w g.K mg base (L2.CX P w) (k + 2) T.holds.f T.holds.fd ["_law_thing_here"] (spD g 1 (f_holds (k + 2))) := by
  exact zk4 (fb := b_holds k) (nn := 2) T.holds.fn sc_holds rfl rfl fun cdv A outer s H E X hX hr hx tk hp => by
   subst hX
   have hu:=hr.units
   have hu2:=hr.units65
   exact (zqa (zjw (PW.pt (dw_or (zqz (od_ne4 rfl hu2) (zq9 (zka T (k+1)) hr rfl T.is_value.mgx T.is_value.fn.kp T.is_value.bn hx (zq0 (zq1 0) zq4)) (zq9 (ok_good T (k+1)) hr rfl T.good.mgx T.good.fn.kp T.good.bn hx (zq0 (zq1 0) zq4)) (nomark _)) (dw_or1 (zqz (od_ne4 rfl hu2) (zq9 (ok_is_key T (k+1)) hr rfl T.is_key.mgx T.is_key.fn.kp T.is_key.bn hx (zq0 (zq1 0) zq4)) (zq9 (ok_text T (k+1)) hr rfl T.text.mgx T.text.fn.kp T.text.bn hx (zq0 (zq1 0) (zq0 zq3 zq4))) (nomark _)))))
   (zqb (zqc de_bl))
   zqx)
  (zqa (zjw (zqz (od_ne4 rfl hu2) (zq9 (ok_is_name T (k+1)) hr rfl T.is_name.mgx T.is_name.fn.kp T.is_name.bn hx (zq0 (zq1 0) zq4)) (zq9 (ok_name T (k+1)) hr rfl T.name.mgx T.name.fn.kp T.name.bn hx (zq0 (zq1 0) zq4)) (nomark _))
   (zqb (zqc de_bl))
   zqx)
  (zqa (ds_set (i := 1) sc_holds.nd rfl (by first | exact Or.inl rfl | exact Or.inr rfl) (de_disp (mu := false) (pps_cons zjd zq3 (pps_cons zjd (zq1 0) pps_nil)) rfl rfl (by simp) (by decide)))
  (zqa (zjw (PW.pt (dw_or (zqz (od_ne4 rfl hu2) (zq9 (ok_is_state T (k+1)) hr rfl T.is_state.mgx T.is_state.fn.kp T.is_state.bn hx (zq0 (zq1 1) zq4)) (zq9 (ok_good T (k+1)) hr rfl T.good.mgx T.good.fn.kp T.good.bn hx (zq0 (zq1 0) zq4)) (nomark _)) (dw_or1 (zqz (od_ne4 rfl hu2) (zq9 (ok_is_state T (k+1)) hr rfl T.is_state.mgx T.is_state.fn.kp T.is_state.bn hx (zq0 (zq1 0) zq4)) (de_and rfl (zk0 (od_eqMD rfl hu2) (zq1 0) de_dict0 (nomark _)) (pe_one (de_isiO rfl rfl T.m_isinstance rfl T.m_dict bt_dict (zq1 0)))) (nomark _)))))
   (zqb (zqc de_bl))
   zqx)
  (zqa (zjw (PW.pt (dw_or (zjm rfl (zjz .list rfl rfl T.m_isinstance rfl T.m_list bt_list (zq1 0))) (dw_or (zjm rfl (de_isiO rfl rfl T.m_isinstance rfl T.m_dict bt_dict (zq1 0))) (dw_or1 (PW.pt (dw_and (zjm rfl (zjz .tuple rfl rfl T.m_isinstance rfl T.m_tuple bt_tuple (zq1 0))) (dw_and1 (zqz (od_neTE rfl hu2) (zq1 0) (zjy zq4) (nomark _)))))))))
   (zqb (zqc de_bl))
   zqx)
  (zqb (zqc (zk0 (od_eq4 rfl hu2) (zq9 (ok_is_state T (k+1)) hr rfl T.is_state.mgx T.is_state.fn.kp T.is_state.bn hx (zq0 (de_dispO hu (pps_cons (zq1 0) zq3 pps_nil) rfl rfl (by simp) (by decide)) zq4)) (zq9 (ok_text T (k+1)) hr rfl T.text.mgx T.text.fn.kp T.text.bn hx (zq0 (zq1 0) (zq0 zq3 zq4))) (nomark _)))))))))
theorem ok_holds (T : Tx g w mg) : ∀ k, FnOk P w g.K mg base (L2.CX P w) k T.holds.f T.holds.fd ["_law_thing_here"] (spD g 1 (f_holds k))
 | 0=>zqd
 | 1=>zqd
 | k + 2 => st_holds T k
theorem st_draw (T:Tx g w mg) (k:Nat):FnOk P w g.K mg base (L2.CX P w) (k+2) T.draw.f T.draw.fd ["_law_pool_here", "_law_many"] (spD g 2 (zjl (k+2))):=by
  exact zk4 (fb:=b_draw k) (nn:=3) T.draw.fn sc_draw rfl rfl fun cdv A outer s H E X hX hr hx tk hp=>by
   subst hX
   have hu:=hr.units
   have hu2:=hr.units65
   exact (zqa (zjw (zqz od_gt (de_ix (xd_ix3 rfl hu) (zq1 0) zq3) zq3 (nomark _))
   (zqa (ds_set (i:=2) sc_draw.nd rfl (by first | exact Or.inl rfl | exact Or.inr rfl) (zqe (od_mod) (de_ix (xd_ix3 rfl hu) (zq1 0) zq3) (zq1 1)))
  (zqa (ds_asg (zqe (od_fdiv2) (de_ix (xd_ix3 rfl hu) (zq1 0) zq3) (zq1 1)) (dg_ix (fun _=>trivial) (zq1 0) zq3 (sd_set3 hu)))
  (zqb (zqc (zq1 2)))))
   zqx)
  (zqa (ds_asg (zqe (od_mod) (zqe (od_add rfl) (zqe (zql rfl) (de_ix (xd_ix3 rfl hu) (zq1 0) zq3) zq3) zq3) zq3) (dg_ix (fun _=>trivial) (zq1 0) zq3 (sd_set3 hu)))
  (zqb (zqc (zqe (od_mod) (zqe (od_fdiv2) (zqe (od_mod) (zqe (zql rfl) (de_ix (xd_ix3 rfl hu) (zq1 0) zq3) (de_ix (xd_ix3 rfl hu) (zq1 0) zq3)) zq3) zq3) (zq1 1))))))
theorem ok_draw (T:Tx g w mg):∀k,FnOk P w g.K mg base (L2.CX P w) k T.draw.f T.draw.fd ["_law_pool_here", "_law_many"] (spD g 2 (zjl k))
 | 0=>zqd
 | 1=>zqd
 | k+2=>st_draw T k
theorem st_thing (T:Tx g w mg) (k:Nat) (ih0:FnOk P w g.K mg base (L2.CX P w) (k+1) T.thing.f T.thing.fd ["_law_pool_here", "_law_depth"] (spD g 2 (fs_thing (k+1) 0))):FnOk P w g.K mg base (L2.CX P w) (k+2) T.thing.f T.thing.fd ["_law_pool_here", "_law_depth"] (spD g 2 (fs_thing (k+2) 0)):=by
  exact zk4 (fb:=b_thing k (fs_thing (k+1))) (nn:=5) T.thing.fn sc_thing rfl rfl fun cdv A outer s H E X hX hr hx tk hp=>by
   subst hX
   have hu:=hr.units
   have hu2:=hr.units65
   exact (zqa (ds_set (i:=2) sc_thing.nd rfl (by first | exact Or.inl rfl | exact Or.inr rfl) (zq9 (ok_draw T (k+1)) hr rfl T.draw.mgx T.draw.fn.kp T.draw.bn hx (zq0 (zq1 0) (zq0 (de_if (zqz od_gt (zq1 1) zq3 (nomark _)) zq3 zq3) zq4))))
  (zqa (zjw (zqz od_lt (zq1 2) zq3 (nomark _))
   (zqb (zqc (de_ix (xd_ix3 rfl hu) (de_lst (zq0 zq3 (zq0 (de_un ud_neg zq3) (zq0 (zqe (od_sub) (zqe (od_pow) zq3 zq3) zq3) (zq0 (zqe (od_pow) zq3 zq3) (zq0 (de_un ud_neg (zqe (od_pow) zq3 zq3)) (zq0 (zqe (od_sub) zq3 (zqe (od_pow) zq3 zq3)) zq4))))))) (zq9 (ok_draw T (k+1)) hr rfl T.draw.mgx T.draw.fn.kp T.draw.bn hx (zq0 (zq1 0) (zq0 zq3 zq4))))))
   zqx)
  (zqa (zjw (zqz od_lt (zq1 2) zq3 (nomark _))
   (zqb (zqc (de_ix (xd_ix3 rfl hu) (de_lst (zq0 zjd (zq0 zjd (zq0 zjd (zq0 zjd (zq0 zjd (zq0 zjd (zq0 (zqe (zql rfl) zjd zq3) (zq0 (zqe (zql rfl) zjd zq3) (zq0 (zqe (zql rfl) zjd zq3) (zq0 (zqe (zql rfl) zjd zq3) (zq0 zjd zq4)))))))))))) (zq9 (ok_draw T (k+1)) hr rfl T.draw.mgx T.draw.fn.kp T.draw.bn hx (zq0 (zq1 0) (zq0 zq3 zq4))))))
   zqx)
  (zqa (zjw (zqz od_lt (zq1 2) zq3 (nomark _))
   (zqb (zqc (de_ix (xd_ix3 rfl hu) (de_lst (zq0 de_non (zq0 de_bl (zq0 de_bl (zq0 (zjy zq4) (zq0 (de_lst zq4) (zq0 de_dict0 (zq0 (zjy (zq0 zq3 (zq0 de_bl zq4))) zq4)))))))) (zq9 (ok_draw T (k+1)) hr rfl T.draw.mgx T.draw.fn.kp T.draw.bn hx (zq0 (zq1 0) (zq0 zq3 zq4))))))
   zqx)
  (zqa (ds_set (i:=3) sc_thing.nd rfl (by first | exact Or.inl rfl | exact Or.inr rfl) (de_ix (xd_ix3 rfl hu) (de_lst (zq0 zq3 (zq0 zq3 (zq0 zq3 (zq0 zq3 (zq0 zq3 (zq0 zq3 zq4))))))) (zq9 (ok_draw T (k+1)) hr rfl T.draw.mgx T.draw.fn.kp T.draw.bn hx (zq0 (zq1 0) (zq0 zq3 zq4)))))
  (zqb (zqc (de_callTy (cd_tuple rfl) rfl T.m_tuple bt_tuple (zq0 (de_lc (own:=[("_law_turn",4)]) rfl sc_thing.nd rfl (di_rng1 rfl T.m_range (zq0 (zq1 3) zq4)) (blkOk_by (N:=N_thing) (sc:=defScope s_thing) (by decide +kernel)) (fun _ _ _ _ _=>(zqy (i:=4) sc_thing.nd rfl (by first | exact Or.inl rfl | exact Or.inr rfl) (wp_nm (by decide)))) (fun _ _ _ _ _=>dts_nil) (fun _ _ _ _ _=>(zq9 ih0 hr rfl T.thing.mgx T.thing.fn.kp T.thing.bn px_no (zq0 (zq1 0) (zq0 (zqe (od_sub) (zqe (od_sub) (zq1 1) zq3) (zqe (zql rfl) (de_callTy (cd_int) rfl T.m_int bt_int (zq0 (zk0 od_gt (zq1 3) zq3 (nomark _)) zq4)) (zq1 1))) zq4))))) zq4)))))))))
theorem oks_thing (T:Tx g w mg):∀k,FnOk P w g.K mg base (L2.CX P w) k T.thing.f T.thing.fd ["_law_pool_here", "_law_depth"] (spD g 2 (fs_thing k 0))
 | 0=>(zqd)
 | 1=>(zqd)
 | k+2=>by
  have ih:=oks_thing T (k+1)
  exact (st_thing T k ih)
theorem ok_thing (T:Tx g w mg) (k:Nat):FnOk P w g.K mg base (L2.CX P w) k T.thing.f T.thing.fd ["_law_pool_here", "_law_depth"] (spD g 2 (f_thing k)):=(oks_thing T k)
theorem st_pool (T:Tx g w mg) (k:Nat):FnOk P w g.K mg base (L2.CX P w) (k+2) T.pool.f T.pool.fd ["_law_script", "_law_k"] (spD g 2 (f_pool (k+2))):=by
  exact zk4 (fb:=b_pool k) (nn:=5) T.pool.fn sc_pool rfl rfl fun cdv A outer s H E X hX hr hx tk hp=>by
   subst hX
   have hu:=hr.units
   have hu2:=hr.units65
   exact (zqa (ds_set (i:=2) sc_pool.nd rfl (by first | exact Or.inl rfl | exact Or.inr rfl) (zqe (od_add rfl) (zqe (zql rfl) zq3 (zqh (cd_sum2 rfl rfl) rfl T.m_sum bt_sum (zq0 (de_sl rfl (zq1 0) dp_none (dp_some zq3)) zq4))) (zq1 1)))
  (zqa (zjw (zqz od_lt (zq1 1) (zqh (cd_len2 rfl) rfl T.m_len bt_len (zq0 (zq1 0) zq4)) (nomark _))
   (zqb (ds_set (i:=2) sc_pool.nd rfl (by first | exact Or.inl rfl | exact Or.inr rfl) (de_ix (xd_ix3 rfl hu) (zq1 0) (zq1 1))))
   zqx)
  (zqa (ds_set (i:=3) sc_pool.nd rfl (by first | exact Or.inl rfl | exact Or.inr rfl) (zqh (cd_abs) rfl T.m_abs bt_abs (zq0 (zq1 2) zq4)))
  (zqa (ds_set (i:=4) sc_pool.nd rfl (by first | exact Or.inl rfl | exact Or.inr rfl) (zqe (od_mod) (zqe (zql rfl) (zqe (od_add rfl) (zqe (od_add rfl) (zqe (od_add rfl) (zqe (od_mod) (zq1 3) zq3) (zqe (zql rfl) (zqe (zql rfl) zq3 (zq1 1)) (zq1 1))) (zqe (zql rfl) zq3 (zq1 1))) zq3) zq3) zq3))
  (zqb (zqc (de_lstM (zq0 (zqe (zql rfl) (zq1 3) (de_callTy (cd_int) rfl T.m_int bt_int (zq0 (zk0 od_ge (zq1 3) (zqe (od_pow) zq3 zq3) (nomark _)) zq4))) (zq0 (zqe (od_mod) (zqe (zql rfl) (zq1 4) (zq1 4)) zq3) zq4)))))))))
theorem ok_pool (T:Tx g w mg):∀k,FnOk P w g.K mg base (L2.CX P w) k T.pool.f T.pool.fd ["_law_script", "_law_k"] (spD g 2 (f_pool k))
 | 0=>zqd
 | 1=>zqd
 | k+2=>st_pool T k
theorem st_law (T:Tx g w mg) (k:Nat):FnOk P w g.K mg base (L2.CX P w) (k+2) T.law.f T.law.fd ["_law_script"] (spD g 1 (f_law (k+2))):=by
  exact zk4 (fb:=b_law k) (nn:=9) T.law.fn sc_law rfl rfl fun cdv A outer s H E X hX hr hx tk hp=>by
   subst hX
   have hu:=hr.units
   have hu2:=hr.units65
   exact (zqa (ds_set (i:=1) sc_law.nd rfl (by first | exact Or.inl rfl | exact Or.inr rfl) zq3)
  (zqa (ds_for hp rfl (di_rng2 rfl T.m_range (zq0 zq3 (zq0 zq3 zq4))) (zqy (i:=2) sc_law.nd rfl (by first | exact Or.inl rfl | exact Or.inr rfl) (fun _ _=>trivial))
   (zqa (ds_set (i:=1) sc_law.nd rfl (by first | exact Or.inl rfl | exact Or.inr rfl) (zjy (zq0 (zq1 1) (zq0 (zq1 2) zq4))))
  (zqb (zjw (zqz (od_ne4 rfl hu2) (zq9 (zka T (k+1)) hr rfl T.is_value.mgx T.is_value.fn.kp T.is_value.bn hx (zq0 (zq1 1) zq4)) (zk0 od_le (zq1 2) zq3 (nomark _)) (nomark _))
   (zqb (zqc de_bl))
   zqx))))
  (zqa (ds_for hp rfl (di_rng2 rfl T.m_range (zq0 zq3 (zq0 zq3 zq4))) (zqy (i:=3) sc_law.nd rfl (by first | exact Or.inl rfl | exact Or.inr rfl) (fun _ _=>trivial))
   (zqa (ds_set (i:=4) sc_law.nd rfl (by first | exact Or.inl rfl | exact Or.inr rfl) (de_lst (zq0 (zqe (zql rfl) (zjy (zq0 zq3 zq4)) (zq1 3)) (zq0 (zjy (zq0 (zqe (zql rfl) (zjy (zq0 zq3 zq4)) (zqe (od_sub) (zq1 3) zq3)) zq4)) (zq0 (zjy (zq0 (zqe (zql rfl) (zjy (zq0 zq3 zq4)) (zqe (od_sub) (zq1 3) zq3)) (zq0 (zqe (zql rfl) (zjy (zq0 zq3 zq4)) zq3) zq4))) (zq0 (zqe (od_add rfl) (zqe (zql rfl) (zjy (zq0 zjd zq4)) (zqe (od_sub) (zq1 3) zq3)) (zqe (zql rfl) (zjy (zq0 (zjy zq4) zq4)) zq3)) zq4))))))
  (zqb (zjw (zqz (od_ne4 rfl hu2) (de_lcA (own:=[("_law_thing_here",8)]) rfl sc_law.nd rfl (dA_keys rfl (zq1 4)) (blkOk_by (N:=N_law) (sc:=defScope s_law) (by decide +kernel)) (fun _ _ _ _ _=>(zqy (i:=8) sc_law.nd rfl (by first | exact Or.inl rfl | exact Or.inr rfl) (wp_nm (by decide)))) (fun _ _ _ _ _=>dts_nil) (fun _ _ _ _ _=>(zq9 (zka T (k+1)) hr rfl T.is_value.mgx T.is_value.fn.kp T.is_value.bn px_no (zq0 (zq1 8) zq4)))) (zqe (zql rfl) (de_lst (zq0 (zk0 od_le (zq1 3) zq3 (nomark _)) zq4)) zq3) (nomark _))
   (zqb (zqc de_bl))
   zqx))))
  (zqa (ds_for hp rfl (di_rng1 rfl T.m_range (zq0 (zqh (cd_max2 rfl) rfl T.m_max bt_max (zq0 zq3 (zq0 (zqh (cd_min2 rfl) rfl T.m_min bt_min (zq0 (zqh (cd_len2 rfl) rfl T.m_len bt_len (zq0 (zq1 0) zq4)) (zq0 zq3 zq4))) zq4))) zq4)) (zqy (i:=5) sc_law.nd rfl (by first | exact Or.inl rfl | exact Or.inr rfl) (fun _ _=>trivial))
   (zqa (ds_set (i:=6) sc_law.nd rfl (by first | exact Or.inl rfl | exact Or.inr rfl) (zq9 (ok_pool T (k+1)) hr rfl T.pool.mgx T.pool.fn.kp T.pool.bn hx (zq0 (zq1 0) (zq0 (zq1 5) zq4))))
  (zqb (ds_for hp rfl (di_rng1 rfl T.m_range (zq0 zq3 zq4)) (zqy (i:=7) sc_law.nd rfl (by first | exact Or.inl rfl | exact Or.inr rfl) (fun _ _=>trivial))
   (zqb (zjw (dt_not (zjm rfl (zq9 (ok_holds T (k + 1)) hr rfl T.holds.mgx T.holds.fn.kp T.holds.bn hx (zq0 (zq9 (ok_thing T (k + 1)) hr rfl T.thing.mgx T.thing.fn.kp T.thing.bn hx (zq0 (zq1 6) (zq0 zq3 zq4))) zq4))))
   (zqb (zqc de_bl))
   zqx))))))
  (zqb (zqc de_bl))))))
theorem ok_law (T:Tx g w mg):∀k,FnOk P w g.K mg base (L2.CX P w) k T.law.f T.law.fd ["_law_script"] (spD g 1 (f_law k))
 | 0=>zqd
 | 1=>zqd
 | k+2=>st_law T k
end
end K01
namespace K01
open PySem PySem.Spec PyProof.Rows L2 VL
local macro_rules | `(tactic| walk_at "mx")=>`(tactic| simp only [ok_dDef,zqs,zj8,ok_sRet,ok_sDrop,ok_sIf,ok_sNx,ok_sAsg,zj3,ok_eUn,ok_eC,zqq,zqi,zqt,ok_eTup,ok_eLst,ok_eLstM,ok_eAnd,ok_eOr,ok_eNot,ok_eIf,ok_eChain,ok_tTru,ok_tBl,ok_tAnd2,ok_tOr2,ok_tNot1,ok_eSl,ok_pNo,ok_pSo,zqp,ok_gNm,ok_gIx,zqu,ok_tYesD,ok_wAk,ok_eLcA,ok_eStar,ok_eM,ok_eDisp,ok_prsD_nil,ok_prsD_cons,ok_nwD_f,ok_nwD_t,ok_nwL_f,ok_nwL_t,ok_gCons2,ok_gNil2,ok_sPar2,ok_sMatch,ok_mCase,ok_mElse,zj2,zjh,zqg,ok_neg_int,ok_abs_int,zk2,ok_intD_int,ok_eq4_int,ok_eq4_str,ok_len_tup,ok_len_lst,isSD,wkA,wkOf,zjb,List.map_cons,List.map_nil,List.length_cons,List.length_nil,List.replicate_succ,List.replicate_zero,List.cons_append,List.nil_append,zgz,zgs,zsz,zss,if_true,Bool.false_eq_true,if_false,Bool.not_true,Bool.not_false,ok_isi_tup,ok_isi_lst,ok_isi_int,ok_isi_str,ok_isi_bl,ok_isi_non,ok_isi_dic,ok_isNon,ok_isBl,isTg,D.isNon,ari0,ari1,ari2,ari3,ari4,ari5,zq2,Nat.reduceSub,Nat.reduceAdd,ofs_inj,String.reduceEq,decide_true,decide_false,fbne,tbne,intB])
local macro_rules | `(tactic| walk_at "my")=>`(tactic| try simp only [ok_dDef,zqs,zj8,ok_sRet,ok_sDrop,ok_sIf,ok_sNx,ok_sAsg,zj3,ok_eUn,ok_eC,zqq,zqi,zqt,ok_eTup,ok_eLst,ok_eLstM,ok_eAnd,ok_eOr,ok_eNot,ok_eIf,ok_eChain,ok_tTru,ok_tBl,ok_tAnd2,ok_tOr2,ok_tNot1,ok_eSl,ok_pNo,ok_pSo,zqp,ok_gNm,ok_gIx,zqu,ok_tYesD,ok_wAk,ok_eLcA,ok_eStar,ok_eM,ok_eDisp,ok_prsD_nil,ok_prsD_cons,ok_nwD_f,ok_nwD_t,ok_nwL_f,ok_nwL_t,ok_gCons2,ok_gNil2,ok_sPar2,ok_sMatch,ok_mCase,ok_mElse,zj2,zjh,zqg,ok_neg_int,ok_abs_int,zk2,ok_intD_int,ok_eq4_int,ok_eq4_str,ok_len_tup,ok_len_lst,isSD,wkA,wkOf,zjb,List.map_cons,List.map_nil,List.length_cons,List.length_nil,List.replicate_succ,List.replicate_zero,List.cons_append,List.nil_append,zgz,zgs,zsz,zss,if_true,Bool.false_eq_true,if_false,Bool.not_true,Bool.not_false,ok_isi_tup,ok_isi_lst,ok_isi_int,ok_isi_str,ok_isi_bl,ok_isi_non,ok_isi_dic,ok_isNon,ok_isBl,isTg,D.isNon,ari0,ari1,ari2,ari3,ari4,ari5,zq2,Nat.reduceSub,Nat.reduceAdd,ofs_inj,String.reduceEq,decide_true,decide_false,fbne,tbne,intB])
local macro_rules | `(tactic| walk_at "mz")=>`(tactic| try simp only [ok_dDef,zqs,zj8,ok_sRet,ok_sDrop,ok_sIf,ok_sNx,ok_sAsg,zj3,ok_eUn,ok_eC,zqq,zqi,zqt,ok_eTup,ok_eLst,ok_eLstM,ok_eAnd,ok_eOr,ok_eNot,ok_eIf,ok_eChain,ok_tTru,ok_tBl,ok_tAnd2,ok_tOr2,ok_tNot1,ok_eSl,ok_pNo,ok_pSo,zqp,ok_gNm,ok_gIx,zqu,ok_tYesD,ok_eM,ok_gCons2,ok_gNil2,ok_sMatch,ok_mCase,ok_mElse,zj2,zjh,zqg,ok_neg_int,zk2,ok_intD_int,ok_eq4_int,ok_eq4_str,List.map_cons,List.map_nil,List.length_cons,List.length_nil,List.replicate_succ,List.replicate_zero,List.cons_append,List.nil_append,zgz,zgs,zsz,zss,if_true,Bool.false_eq_true,if_false,Bool.not_true,Bool.not_false,ok_isNon,D.isNon,ari1,ari2,ari3,ari4,ari5,ari6,zq2,Nat.reduceSub,Nat.reduceAdd,ofs_inj,String.reduceEq,decide_true,decide_false,fbne,tbne])
theorem u_is_integer (k:Nat):zja (k+2)=dDef 1 (zjs k):=rfl
theorem u_is_word (k:Nat):zj9 (k+2)=dDef 5 (b_is_word k):=rfl
theorem u_is_text (k:Nat):f_is_text (k+2)=dDef 1 (b_is_text k):=rfl
theorem u_is_key (k:Nat):zk9 (k+2)=dDef 1 (b_is_key k):=rfl
theorem u_is_name (k:Nat):f_is_name (k+2)=dDef 1 (b_is_name k):=rfl
theorem zjt (k:Nat):zqj (k+2)=dDef 3 (zqk k fun _=>zqj (k+1)):=rfl
theorem u_size_within (k:Nat):zj6 (k+2)=dDef 2 (zjg k fun _=>zj6 (k+1)):=rfl
theorem u_is_value (k:Nat):zqv (k+2)=dDef 1 (b_is_value k):=rfl
theorem u_is_state (k:Nat):zqf (k+2)=dDef 3 (zji k):=rfl
theorem zjr {n:Nat} {d:D} {S:Sto} (hn:2<=n) (h:Fit d):zja n [d] S=.ok (.bl (intB d)) S:=by
 obtain ⟨k,rfl⟩:∃k,n=k+2:=⟨n - 2,by omega⟩
 refine zq8 ?_
 rw [u_is_integer]
 unfold zjs
 cases d <;> first
  | (simp only [Fit] at h; done)
  | (walk_at "mx"; exact ⟨rfl,rfl⟩)
  | (walk_at "mx"; simp)
theorem e_is_word {n:Nat} {z sg:Str} {lo hi:Int} {S:Sto} (hn:2<=n) (h:z.length<=1000):zj9 n [.str z,.str sg,.int lo,.int hi] S=.ok (.bl (wordB z sg lo hi)) S:=by
 obtain ⟨k,rfl⟩:∃k,n=k+2:=⟨n - 2,by omega⟩
 refine zq8 ?_
 rw [u_is_word]
 unfold b_is_word
 have hl:z.length<=sizeLine:=by rw [sizeLine_eq]; omega
 walk_at "mx"
 rw [ok_len_str hl]
 walk_at "mx"
 unfold wordB
 cases h1:decide (lo<=(z.length:Int)) with
 | false=>simp [zqu]
 | true =>
  simp only [zqg,Bool.true_and]
  cases h2:decide ((z.length:Int)<=hi) with
  | false=>simp [zqu]
  | true =>
   walk_at "mx"
   have hc:(chars z).length=z.length:=by unfold chars; rw [List.length_map,Array.length_toList]; rfl
   rw [lc_map (f:=fun d=>match d with | .str a=>.bl (inStr a sg) | _=>.non) rfl _ _ (by simp; omega) ?hm,zq2]
   case hm =>
    intro d hd
    unfold chars at hd
    obtain ⟨c,hc,rfl⟩:=List.mem_map.mp hd
    walk_at "mx"
    refine ⟨trivial,zq8 ?_⟩
    walk_at "mx"
    simp only [in3D,dctOf,inD,zq2]
    simp
   have e:(chars z).map (fun d=>match d with | .str a=>D.bl (inStr a sg) | _=>.non)=z.cps.toList.map fun c=>D.bl (decide (c∈sg.cps.toList)):=by
    unfold chars
    rw [List.map_map]
    rfl
   rw [List.nil_append,e,ok_all_map]
   exact ⟨rfl,rfl⟩
theorem e_is_word_no {n:Nat} {d a b c:D} {S:Sto} (hn:2<=n) (h:Fit d) (hs:∀z,d≠.str z):zj9 n [d,a,b,c] S=.ok (.bl false) S:=by
 obtain ⟨k,rfl⟩:∃k,n=k+2:=⟨n - 2,by omega⟩
 refine zq8 ?_
 rw [u_is_word]
 unfold b_is_word
 cases d <;> first
  | (simp only [Fit] at h; done)
  | exact absurd rfl (hs _)
  | (walk_at "mx"; simp)
def txtB (d:D):Bool:=match d with | .str z=>wordB z SG 0 60 | _=>false
def keyB (d:D):Bool:=match d with | .str z=>wordB z SG 1 60 | _=>false
def nameB (d:D):Bool:=match d with | .str z=>wordB z LT 1 12 | _=>false
theorem e_is_text {n:Nat} {d:D} {S:Sto} (hn:3<=n) (h:Fit d):f_is_text n [d] S=.ok (.bl (txtB d)) S:=by
 obtain ⟨k,rfl⟩:∃k,n=k+2:=⟨n - 2,by omega⟩
 refine zq8 ?_
 rw [u_is_text]
 unfold b_is_text k_SIGNS zk3
 walk_at "mx"
 by_cases hs:∃z,d=.str z
 ·obtain ⟨z,rfl⟩:=hs
  rw [e_is_word (by omega) (by rw [Fit] at h; exact h),zq2]
  exact ⟨rfl,rfl⟩
 ·have hs':∀z,d≠.str z:=fun z e=>hs ⟨z,e⟩
  rw [e_is_word_no (by omega) h hs',zq2]
  cases d <;> first | exact absurd rfl (hs' _) | exact ⟨rfl,rfl⟩
theorem e_is_within_levels:∀(l n:Nat) (d:D) (S:Sto),l+4<=n->Fit d->zqj n [d,.int (l:Int)] S=.ok (.bl (wl l d)) S:=by
 intro l
 induction l with
 | zero =>
  intro n d S hn h
  obtain ⟨k,rfl⟩:∃k,n=k+2:=⟨n - 2,by omega⟩
  refine zq8 ?_
  rw [zjt]
  unfold zqk zj5
  cases d with
  | tup ds=>walk_at "mx"; simp [zq2,wl_tup0]
  | int i =>
   walk_at "mx"
   rw [zjr (by omega) (by simp [Fit])]
   walk_at "mx"
   rw [wl_int]
   unfold MXI
   cases h1:decide (-1000000000000000000000000000000000000000000000000000000000000 < i) <;> simp [zq2]
  | _ =>
   walk_at "mx"
   first
    | (simp only [Fit] at h; done)
    | (rw [zjr (by omega) h]; walk_at "mx"; rw [e_is_text (by omega) h]; simp [zq2,txtB,wl])
 | succ l ih =>
  intro n d S hn h
  obtain ⟨k,rfl⟩:∃k,n=k+2:=⟨n - 2,by omega⟩
  refine zq8 ?_
  rw [zjt]
  unfold zqk zj5 zjp
  cases d with
  | tup ds =>
   rw [Fit] at h
   walk_at "mx"
   rw [wl_tup]
   simp only [show ¬(((l+1:Nat):Int)=0) by omega,decide_false,Bool.bne_false,Bool.false_eq_true,if_false,show decide ((ds.length:Int)<=50)=decide (ds.length<=50) by simp; omega]
   by_cases h50:(50:Int) < ds.length
   ·have:¬ds.length<=50:=by omega
    simp [h50,this,zq2]
   ·have:ds.length<=50:=by omega
    simp only [h50,this,decide_false,decide_true,Bool.false_eq_true,if_false,Bool.true_and]
    try walk_at "mx"
    rw [lc_map (f:=fun d=>.bl (wl l d)) rfl _ _ (by rw [sizeLine_eq]; simp; omega) ?hm,zq2]
    case hm =>
     intro d hd
     walk_at "mx"
     refine ⟨trivial,zq8 ?_⟩
     walk_at "mx"
     rw [show ((l+1:Nat):Int) - 1=(l:Int) by omega,ih (k+1) d S (by omega) (Fits_mem h.2 hd),zq2]
     exact ⟨rfl,rfl⟩
    rw [List.nil_append,ok_all_map]
    exact ⟨rfl,rfl⟩
  | int i =>
   walk_at "mx"
   rw [zjr (by omega) (by simp [Fit])]
   walk_at "mx"
   rw [wl_int]
   unfold MXI
   cases h1:decide (-1000000000000000000000000000000000000000000000000000000000000 < i) <;> simp [zq2]
  | _ =>
   walk_at "mx"
   first
    | (simp only [Fit] at h; done)
    | (rw [zjr (by omega) h]; walk_at "mx"; rw [e_is_text (by omega) h]; simp [zq2,txtB,wl])
theorem e_size_within:∀(n:Nat) (d:D) (S:Sto),dep d+2<=n->Fit d->zj6 n [d] S=.ok (.int (sz d)) S:=by
 intro n
 induction n with
 | zero=>intro d S hn; omega
 | succ k ih =>
  intro d S hn h
  obtain ⟨k,rfl⟩:∃j,k=j+1:=⟨k - 1,by omega⟩
  refine zq8 ?_
  rw [u_size_within]
  unfold zjg
  cases d with
  | tup ds =>
   rw [Fit] at h
   rw [dep] at hn
   walk_at "mx"
   rw [lc_map (f:=fun d=>.int (1+(sz d:Int))) rfl _ _ (by rw [sizeLine_eq]; simp; omega) ?hm,zq2]
   case hm =>
    intro d hd
    have:=dep_mem hd
    walk_at "mx"
    refine ⟨trivial,zq8 ?_⟩
    walk_at "mx"
    rw [ih d S (by omega) (Fits_mem h.2 hd),zq2,zj2]
    exact ⟨rfl,rfl⟩
   rw [List.nil_append,ok_sum_map,← szs_sum,sz]
   exact ⟨rfl,rfl⟩
  | _ =>
   walk_at "mx"
   first
    | (simp only [Fit] at h; done)
    | simp [sz]
theorem e_is_value {n:Nat} {d:D} {S:Sto} (hn:10<=n) (h:Fit d):zqv n [d] S=.ok (.bl (isVal d)) S:=by
 obtain ⟨k,rfl⟩:∃k,n=k+2:=⟨n - 2,by omega⟩
 refine zq8 ?_
 rw [u_is_value]
 unfold b_is_value k_MAX_LEVELS zjp
 walk_at "mx"
 rw [show (5:Int)=((5:Nat):Int) from rfl,e_is_within_levels 5 (k+1) d S (by omega) h,zq2]
 unfold isVal
 cases h5:wl 5 d with
 | false=>walk_at "mx"; simp
 | true =>
  have:=wl_dep 5 d h5
  walk_at "mx"
  rw [e_size_within (k+1) d S (by omega) h]
  walk_at "mx"
  simp
  omega
theorem e_is_key {n:Nat} {d:D} {S:Sto} (hn:3<=n) (h:Fit d):zk9 n [d] S=.ok (.bl (keyB d)) S:=by
 obtain ⟨k,rfl⟩:∃k,n=k+2:=⟨n - 2,by omega⟩
 refine zq8 ?_
 rw [u_is_key]
 unfold b_is_key k_SIGNS zk3
 walk_at "mx"
 by_cases hs:∃z,d=.str z
 ·obtain ⟨z,rfl⟩:=hs
  rw [e_is_word (by omega) (by rw [Fit] at h; exact h),zq2]
  exact ⟨rfl,rfl⟩
 ·have hs':∀z,d≠.str z:=fun z e=>hs ⟨z,e⟩
  rw [e_is_word_no (by omega) h hs',zq2]
  cases d <;> first | exact absurd rfl (hs' _) | exact ⟨rfl,rfl⟩
theorem e_is_name {n:Nat} {d:D} {S:Sto} (hn:3<=n) (h:Fit d):f_is_name n [d] S=.ok (.bl (nameB d)) S:=by
 obtain ⟨k,rfl⟩:∃k,n=k+2:=⟨n - 2,by omega⟩
 refine zq8 ?_
 rw [u_is_name]
 unfold b_is_name k_LETTERS k_MAX_NAME
 walk_at "mx"
 by_cases hs:∃z,d=.str z
 ·obtain ⟨z,rfl⟩:=hs
  rw [e_is_word (by omega) (by rw [Fit] at h; exact h),zq2]
  exact ⟨rfl,rfl⟩
 ·have hs':∀z,d≠.str z:=fun z e=>hs ⟨z,e⟩
  rw [e_is_word_no (by omega) h hs',zq2]
  cases d <;> first | exact absurd rfl (hs' _) | exact ⟨rfl,rfl⟩
theorem u_text (k:Nat):f_text (k+2)=dDef 3 (b_text k):=rfl
theorem u_name (k:Nat):f_name (k+2)=dDef 2 (b_name k):=rfl
theorem u_value (k:Nat):f_value (k+2)=dDef 3 (zk6 k fun _=>f_value (k+1)):=rfl
theorem u_count (k:Nat):f_count (k+2)=dDef 2 (b_count k fun _=>f_count (k+1)):=rfl
theorem u_good (k:Nat):f_good (k+2)=dDef 1 (b_good k):=rfl
theorem eqLE_nil {fs:List D} {S:Sto}:eqLE (.lst fs) (.lst []) S=.ok (.bl fs.isEmpty) S:=by
 cases fs with
 | nil=>rfl
 | cons d ds=>rfl
theorem ok_eqLE_nil {fs:List D} {S:Sto} {Q:D->Sto->Prop}:Ok (eqLE (.lst fs) (.lst []) S) Q=Q (.bl fs.isEmpty) S:=by rw [eqLE_nil,zq2]
theorem filt_empty {a:Type} (p:a->Bool) (xs:List a):(xs.filter fun x=>!p x).isEmpty=xs.all p:=by
 induction xs with
 | nil=>rfl
 | cons x xs ih=>cases h:p x <;> simp [h,ih]
theorem chars_len (z:Str):(chars z).length=z.length:=by unfold chars; rw [List.length_map,Array.length_toList]; rfl
def inB (sg:Str) (d:D):Bool:=match d with
 | .str a=>inStr a sg
 | _=>false
theorem chars_all (z sg:Str):(chars z).all (inB sg)=z.cps.toList.all fun c=>decide (c∈sg.cps.toList):=by
 unfold chars
 rw [List.all_map]
 rfl
theorem e_text {n:Nat} {z:Str} {lo:Int} {S:Sto} (hn:2<=n) (h:z.length<=1000):f_text n [.str z,.int lo] S=.ok (.bl (wordB z SG lo 60)) S:=by
 obtain ⟨k,rfl⟩:∃k,n=k+2:=⟨n - 2,by omega⟩
 refine zq8 ?_
 rw [u_text]
 unfold b_text
 have hl:z.length<=sizeLine:=by rw [sizeLine_eq]; omega
 walk_at "mx"
 rw [ok_len_str hl]
 walk_at "mx"
 unfold wordB
 cases h1:decide (lo<=(z.length:Int)) with
 | false=>simp [zqu]
 | true =>
  simp only [zqg,Bool.true_and]
  cases h2:decide ((z.length:Int)<=60) with
  | false=>simp [zqu]
  | true =>
   walk_at "mx"
   rw [zk1 (fun d=>!inB "abcdefghijklmnopqrstuvwxyz0123456789" d) (fun d=>d) rfl _ _ (by rw [chars_len]; simp; omega) ?hm,zq2]
   case hm =>
    intro d hd
    unfold chars at hd
    obtain ⟨c,hc,rfl⟩:=List.mem_map.mp hd
    walk_at "mx"
    refine ⟨trivial,?_,?_⟩ <;> refine zq8 ?_
    ·walk_at "mx"
     simp only [in3D,dctOf,inD,zq2]
     walk_at "mx"
     constructor <;> first | trivial | rfl
    ·walk_at "mx"
     constructor <;> first | trivial | rfl
   rw [List.nil_append,List.map_id']
   walk_at "mz"
   rw [ok_eqLE_nil,filt_empty,chars_all]
   refine ⟨Nat.zero_le _,?_,rfl⟩
   rw [Bool.true_and]
   rfl
theorem e_text_no {n:Nat} {d a:D} {S:Sto} (hn:2<=n) (h:Fit d) (hs:∀z,d≠.str z):f_text n [d,a] S=.ok (.bl false) S:=by
 obtain ⟨k,rfl⟩:∃k,n=k+2:=⟨n - 2,by omega⟩
 refine zq8 ?_
 rw [u_text]
 unfold b_text
 cases d <;> first
  | (simp only [Fit] at h; done)
  | exact absurd rfl (hs _)
  | (walk_at "mx"; simp)
theorem e_name {n:Nat} {z:Str} {S:Sto} (hn:2<=n) (h:z.length<=1000):f_name n [.str z] S=.ok (.bl (wordB z LT 1 12)) S:=by
 obtain ⟨k,rfl⟩:∃k,n=k+2:=⟨n - 2,by omega⟩
 refine zq8 ?_
 rw [u_name]
 unfold b_name
 have hl:z.length<=sizeLine:=by rw [sizeLine_eq]; omega
 walk_at "mx"
 rw [ok_len_str hl]
 walk_at "mx"
 unfold wordB
 cases h1:decide (1<=(z.length:Int)) with
 | false=>simp [zqu]
 | true =>
  simp only [zqg,Bool.true_and]
  cases h2:decide ((z.length:Int)<=12) with
  | false=>simp [zqu]
  | true =>
   walk_at "mx"
   rw [zk1 (fun d=>!inB "abcdefghijklmnopqrstuvwxyz" d) (fun d=>d) rfl _ _ (by rw [chars_len]; simp; omega) ?hm,zq2]
   case hm =>
    intro d hd
    unfold chars at hd
    obtain ⟨c,hc,rfl⟩:=List.mem_map.mp hd
    walk_at "mx"
    refine ⟨trivial,?_,?_⟩ <;> refine zq8 ?_
    ·walk_at "mx"
     simp only [in3D,dctOf,inD,zq2]
     walk_at "mx"
     constructor <;> first | trivial | rfl
    ·walk_at "mx"
     constructor <;> first | trivial | rfl
   rw [List.nil_append,List.map_id']
   walk_at "mz"
   rw [ok_eqLE_nil,filt_empty,chars_all]
   refine ⟨Nat.zero_le _,?_,rfl⟩
   rw [Bool.true_and]
   rfl
theorem e_name_no {n:Nat} {d:D} {S:Sto} (hn:2<=n) (h:Fit d) (hs:∀z,d≠.str z):f_name n [d] S=.ok (.bl false) S:=by
 obtain ⟨k,rfl⟩:∃k,n=k+2:=⟨n - 2,by omega⟩
 refine zq8 ?_
 rw [u_name]
 unfold b_name
 cases d <;> first
  | (simp only [Fit] at h; done)
  | exact absurd rfl (hs _)
  | (walk_at "mx"; simp)
def sixL:List Int:=[0,-5,1000000000000000000000000000000000000000000000000000000000000 - 1,1000000000000000000000000000000000000000000000000000000000000,-1000000000000000000000000000000000000000000000000000000000000,1 - 1000000000000000000000000000000000000000000000000000000000000,1]
mutual
def Tg:D->Prop
 | .non=>True
 | .bl _=>True
 | .int i=>i∈sixL
 | .str z=>z.length<=100
 | .tup ds=>ds.length<=60/\Tgs ds
 | .lst ds=>ds=[]
 | .dic ks vs=>ks=[]/\vs=[]
 | _=>False
def Tgs:List D->Prop
 | []=>True
 | d :: ds=>Tg d/\Tgs ds
end
theorem Tgs_mem:∀{ds:List D} {d:D},Tgs ds->d∈ds->Tg d
 | a :: ds,d,h,m=>by
  rw [Tgs] at h
  rcases List.mem_cons.mp m with rfl | m
  ·exact h.1
  ·exact Tgs_mem h.2 m
theorem Tgs_of:∀{ds:List D},(∀d∈ds,Tg d)->Tgs ds
 | [],_=>by rw [Tgs]; trivial
 | a :: ds,h=>by rw [Tgs]; exact ⟨h a (by simp),Tgs_of fun d hd=>h d (by simp [hd])⟩
mutual
theorem Tg_fit:∀{d:D},Tg d->Fit d
 | .non,_=>trivial
 | .bl _,_=>trivial
 | .int _,_=>trivial
 | .str z,h=>by rw [Tg] at h; rw [Fit]; omega
 | .tup ds,h=>by rw [Tg] at h; rw [Fit]; exact ⟨by omega,Tgs_fit h.2⟩
 | .lst _,_=>trivial
 | .dic _ _,_=>trivial
 | .ty _,h=>by simp [Tg] at h
 | .ctp _,h=>by simp [Tg] at h
 | .dct _ _,h=>by simp [Tg] at h
 | .obj _ _ _,h=>by simp [Tg] at h
 | .scr _,h=>by simp [Tg] at h
 | .ref _,h=>by simp [Tg] at h
 | .kref _,h=>by simp [Tg] at h
theorem Tgs_fit:∀{ds:List D},Tgs ds->Fits ds
 | [],_=>by rw [Fits]; trivial
 | d :: ds,h=>by rw [Tgs] at h; rw [Fits]; exact ⟨Tg_fit h.1,Tgs_fit h.2⟩
end
theorem e_value_int {k:Nat} {i l:Int} {S:Sto} (h:i∈sixL):f_value (k+2) [.int i,.int l] S=.ok (.bl (decide (-MXI < i) && decide (i < MXI))) S:=by
 simp only [sixL,List.mem_cons,List.not_mem_nil,or_false] at h
 rcases h with rfl | rfl | rfl | rfl | rfl | rfl | rfl <;> kernel_rfl
theorem e_value:∀(l n:Nat) (d:D) (S:Sto),l+4<=n->Tg d->f_value n [d,.int (l:Int)] S=.ok (.bl (wl l d)) S:=by
 intro l
 induction l with
 | zero =>
  intro n d S hn ht
  have h:=Tg_fit ht
  obtain ⟨k,rfl⟩:∃k,n=k+2:=⟨n - 2,by omega⟩
  cases d with
  | int i=>rw [e_value_int (by rw [Tg] at ht; exact ht),wl_int]
  | tup ds =>
   refine zq8 ?_
   rw [u_value]
   unfold zk6
   walk_at "mx"; simp [zq2,wl_tup0]
  | str z =>
   refine zq8 ?_
   rw [u_value]
   unfold zk6
   walk_at "mx"
   rw [e_text (by omega) (by rw [Fit] at h; exact h)]
   simp [zq2,wl]
  | _ =>
   refine zq8 ?_
   rw [u_value]
   unfold zk6
   walk_at "mx"
   first
    | (simp only [Fit] at h; done)
    | (rw [e_text_no (by omega) h (by intro z e; cases e)]; simp [zq2,wl])
 | succ l ih =>
  intro n d S hn ht
  have h:=Tg_fit ht
  obtain ⟨k,rfl⟩:∃k,n=k+2:=⟨n - 2,by omega⟩
  cases d with
  | int i=>rw [e_value_int (by rw [Tg] at ht; exact ht),wl_int]
  | tup ds =>
   rw [Tg] at ht
   refine zq8 ?_
   rw [u_value]
   unfold zk6
   walk_at "mx"
   rw [wl_tup]
   simp only [show ¬(((l+1:Nat):Int)=0) by omega,decide_false,Bool.bne_false,Bool.false_eq_true,if_false,show decide ((ds.length:Int)<=50)=decide (ds.length<=50) by simp; omega]
   by_cases h50:(50:Int) < ds.length
   ·have:¬ds.length<=50:=by omega
    simp [h50,this,zq2]
   ·have:ds.length<=50:=by omega
    simp only [h50,this,decide_false,decide_true,Bool.false_eq_true,if_false,Bool.true_and]
    try walk_at "mx"
    rw [zk1 (fun d=>!wl l d) (fun d=>d) rfl _ _ (by rw [sizeLine_eq]; simp; omega) ?hm,zq2]
    case hm =>
     intro d hd
     walk_at "mx"
     refine ⟨trivial,?_,?_⟩ <;> refine zq8 ?_
     ·walk_at "mx"
      rw [show ((l+1:Nat):Int) - 1=(l:Int) by omega,ih (k+1) d S (by omega) (Tgs_mem ht.2 hd),zq2]
      walk_at "mx"
      simp [zq2,truD]
     ·walk_at "mx"
      constructor <;> first | trivial | rfl
    rw [List.nil_append,List.map_id']
    walk_at "mz"
    rw [ok_eqLE_nil,filt_empty]
    exact ⟨Nat.zero_le _,rfl,rfl⟩
  | str z =>
   refine zq8 ?_
   rw [u_value]
   unfold zk6
   walk_at "mx"
   rw [e_text (by omega) (by rw [Fit] at h; exact h)]
   simp [zq2,wl]
  | _ =>
   refine zq8 ?_
   rw [u_value]
   unfold zk6
   walk_at "mx"
   first
    | (simp only [Fit] at h; done)
    | (rw [e_text_no (by omega) h (by intro z e; cases e)]; simp [zq2,wl])
theorem e_count:∀(n:Nat) (d:D) (S:Sto),dep d+2<=n->Fit d->f_count n [d] S=.ok (.int (sz d)) S:=by
 intro n
 induction n with
 | zero=>intro d S hn; omega
 | succ k ih =>
  intro d S hn h
  obtain ⟨k,rfl⟩:∃j,k=j+1:=⟨k - 1,by omega⟩
  refine zq8 ?_
  rw [u_count]
  unfold b_count
  cases d with
  | tup ds =>
   rw [Fit] at h
   rw [dep] at hn
   walk_at "mx"
   rw [lc_map (f:=fun d=>.int (1+(sz d:Int))) rfl _ _ (by rw [sizeLine_eq]; simp; omega) ?hm,zq2]
   case hm =>
    intro d hd
    have:=dep_mem hd
    walk_at "mx"
    refine ⟨trivial,zq8 ?_⟩
    walk_at "mx"
    rw [ih d S (by omega) (Fits_mem h.2 hd),zq2,zj2]
    exact ⟨rfl,rfl⟩
   rw [List.nil_append,ok_sum_map,← szs_sum,sz]
   exact ⟨rfl,rfl⟩
  | _ =>
   walk_at "mx"
   first
    | (simp only [Fit] at h; done)
    | simp [sz]
theorem e_good {n:Nat} {d:D} {S:Sto} (hn:10<=n) (h:Tg d):f_good n [d] S=.ok (.bl (isVal d)) S:=by
 obtain ⟨k,rfl⟩:∃k,n=k+2:=⟨n - 2,by omega⟩
 refine zq8 ?_
 rw [u_good]
 unfold b_good
 walk_at "mx"
 rw [show (5:Int)=((5:Nat):Int) from rfl,e_value 5 (k+1) d S (by omega) h,zq2]
 unfold isVal
 cases h5:wl 5 d with
 | false=>walk_at "mx"; simp
 | true =>
  have:=wl_dep 5 d h5
  walk_at "mx"
  rw [e_count (k+1) d S (by omega) (Tg_fit h)]
  walk_at "mx"
  simp
  omega
theorem isiO_no {d:D} {S:Sto} (h:Tg d) (hd:∀ks vs,d≠.dic ks vs):isiO d S=.ok (.bl false) S:=by
 cases d <;> first | rfl | (simp [Tg] at h; done) | exact absurd rfl (hd _ _)
theorem all_one {a:Bool} {S:Sto} {Q:D->Sto->Prop}:Ok (allD [.lst [.bl a]] S) Q=Q (.bl a) S:=by
 have e:([.bl a]:List D)=[a].map fun x=>D.bl ((fun y=>y) x):=rfl
 rw [e,ok_all_map]
 simp
def stF:D->D
 | .tup [a,b]=>.bl (keyB a && isVal b)
 | _=>.non
theorem st_lc {k:Nat} {x0:Option D} {S:Sto} {Q:D->Sto->Prop} (hk:12<=k) (ps:List (D × D)) (hl:ps.length<=100) (hps:∀p∈ps,Fit p.1/\Fit p.2) :
  Ok (lcL (fun _=>true) (gTp 2 (gCons2 (gNm 1) (gCons2 (gNm 2) gNil2))) tYesD (eAnd (zq7 (ari 1 (zk9 k)) (aCons (eVar 1) aNil)) (zq7 (ari 1 (zqv k)) (aCons (eVar 2) aNil))) [x0,none,none] (ps.map fun p=>D.tup [p.1,p.2]) [] S) Q =
   Q (.lst (ps.map fun p=>.bl (keyB p.1 && isVal p.2))) S:=by
 rw [zk1 (fun _=>true) stF rfl _ _ (by rw [sizeLine_eq]; simp; omega) ?hm,zq2,List.nil_append,List.filter_eq_self.mpr (fun _ _=>rfl),List.map_map]
 ·rfl
 case hm =>
  intro d hd
  obtain ⟨⟨a,b⟩,hp,rfl⟩:=List.mem_map.mp hd
  have h1:=(hps _ hp).1
  have h2:=(hps _ hp).2
  rw [ok_gTp (n:=2) rfl]
  walk_at "mz"
  refine ⟨trivial,rfl,zq8 ?_⟩
  walk_at "mz"
  rw [e_is_key (by omega) h1,zq2]
  cases hb:keyB a with
  | false =>
   walk_at "mz"
   simp [stF,hb,zq2,truD]
  | true =>
   walk_at "mz"
   try simp only [truD,zq2,if_true]
   walk_at "mz"
   rw [e_is_value (by omega) h2,zq2]
   simp [stF,hb]
theorem lcO_dic {ea:EF} {t:D->Lc->Sto->R Lc} {tt:Lc->Sto->R Bool} {te:EF} {vs:List Nat} {L:Lc} {S S1:Sto} {ks:List Key} {ds:List D} {Q:D->Sto->Prop} (he:ea L S=.ok (.dic ks ds) S1) :
  Ok (eLcO ea t tt te vs L S) Q=Ok (lcL (fun _=>true) t tt te (zjb L vs) (DW.ds .items ks ds) [] S1) Q:=by
 unfold eLcO
 rw [he]
 simp only [isOdk,Bool.false_eq_true,if_false]
 rw [ok_eLcA,he,zq2,show isSD (.dic ks ds) S1=none from rfl]
 simp only
 rw [show wkA .items (.dic ks ds) S1=.ok ⟨DW.ds .items ks ds,fun _=>true⟩ S1 from rfl,zq2]
theorem lcO_odk {ea:EF} {t:D->Lc->Sto->R Lc} {tt:Lc->Sto->R Bool} {te:EF} {vs:List Nat} {L:Lc} {S S1:Sto} {m:Nat} {k:D} {i:Int} {Q:D->Sto->Prop} (he:ea L S=.ok (.ref m) S1) (hm:S1[m]?=some (.odk k i)) :
  Ok (eLcO ea t tt te vs L S) Q=Ok (lcL (fun _=>true) t tt te (zjb L vs) [.tup [k,.int i]] [] (S1.set m .dead)) Q:=by
 unfold eLcO
 rw [he]
 simp only [isOdk,hm,if_true]
 rw [ok_eLc]
 unfold wOdi
 rw [he]
 simp only [R.bind_ok,hm,zq2]
theorem e_state_no {n:Nat} {d:D} {S:Sto} (hn:2<=n) (h:Tg d) (hd:∀ks vs,d≠.dic ks vs):zqf n [d] S=.ok (.bl false) S:=by
 obtain ⟨k,rfl⟩:∃k,n=k+2:=⟨n - 2,by omega⟩
 refine zq8 ?_
 rw [u_is_state]
 unfold zji
 walk_at "mz"
 rw [isiO_no h hd,zq2]
 walk_at "mz"
 simp [truD,zq2]
theorem zkb {n:Nat} {ks:List Key} {ds:List D} {S:Sto} (ps:List (D × D)) (hn:14<=n) (he:DW.ds .items ks ds=ps.map fun p=>D.tup [p.1,p.2]) (hl:ps.length<=100) (hps:∀p∈ps,Fit p.1/\Fit p.2) :
  zqf n [.dic ks ds] S=.ok (.bl (ps.all fun p=>keyB p.1 && isVal p.2)) S:=by
 obtain ⟨k,rfl⟩:∃k,n=k+2:=⟨n - 2,by omega⟩
 refine zq8 ?_
 rw [u_is_state]
 unfold zji
 walk_at "mz"
 rw [show isiO (.dic ks ds) S=.ok (.bl true) S from rfl,zq2]
 walk_at "mz"
 try simp only [truD,zq2,Bool.not_true,Bool.false_eq_true,if_false]
 walk_at "mz"
 rw [lcO_dic (ks:=ks) (ds:=ds) (S1:=S) rfl,he]
 simp only [zjb,List.foldl_cons,List.foldl_nil,zsz,zss]
 rw [st_lc (by omega) ps hl hps]
 have e:(ps.map fun p=>D.bl (keyB p.1 && isVal p.2))=ps.map fun x=>D.bl ((fun p:D × D=>keyB p.1 && isVal p.2) x):=rfl
 rw [e,ok_all_map]
 exact ⟨rfl,rfl⟩
theorem e_state_odk {n m:Nat} {k:D} {i:Int} {S:Sto} (hn:14<=n) (hm:S[m]?=some (.odk k i)) (hk:Fit k) (hs:keyB k=false):zqf n [.ref m] S=.ok (.bl false) (S.set m .dead):=by
 obtain ⟨j,rfl⟩:∃k,n=k+2:=⟨n - 2,by omega⟩
 refine zq8 ?_
 rw [u_is_state]
 unfold zji
 walk_at "mz"
 have e0:isiO (.ref m) S=.ok (.bl true) S:=by
  unfold isiO
  simp only [hm]
 rw [e0,zq2]
 walk_at "mz"
 try simp only [truD,zq2,Bool.not_true,Bool.false_eq_true,if_false]
 walk_at "mz"
 rw [lcO_odk (m:=m) (k:=k) (i:=i) (S1:=S) rfl hm]
 simp only [zjb,List.foldl_cons,List.foldl_nil,zsz,zss]
 have e1:([.tup [k,.int i]]:List D)=[(k,D.int i)].map fun p=>D.tup [p.1,p.2]:=rfl
 rw [e1,st_lc (by omega) _ (by simp) (by intro p hp; simp only [List.mem_cons,List.not_mem_nil,or_false] at hp; subst hp; exact ⟨hk,trivial⟩)]
 simp only [List.map_cons,List.map_nil,hs,Bool.false_and]
 rw [all_one]
 exact ⟨rfl,rfl⟩
theorem u_holds (k : Nat) : f_holds (k + 2) = dDef 2 (b_holds k) := rfl
theorem zjo {neg x y:Bool} {S:Sto} {Q:D->Sto->Prop}:Ok (eq4D neg (.bl x) (.bl y) S) Q=Q (.bl (neg != decide (x=y))) S:=zq2 _ _
theorem e_text1 {n:Nat} {d:D} {S:Sto} (hn:2<=n) (h:Fit d):f_text n [d,.int 1] S=.ok (.bl (keyB d)) S:=by
 by_cases hs:∃z,d=.str z
 ·obtain ⟨z,rfl⟩:=hs
  rw [e_text hn (by rw [Fit] at h; exact h)]
  rfl
 ·have hs':∀z,d≠.str z:=fun z e=>hs ⟨z,e⟩
  rw [e_text_no hn h hs']
  cases d <;> first | exact absurd rfl (hs' _) | rfl
theorem e_name1 {n:Nat} {d:D} {S:Sto} (hn:2<=n) (h:Fit d):f_name n [d] S=.ok (.bl (nameB d)) S:=by
 by_cases hs:∃z,d=.str z
 ·obtain ⟨z,rfl⟩:=hs
  rw [e_name hn (by rw [Fit] at h; exact h)]
  rfl
 ·have hs':∀z,d≠.str z:=fun z e=>hs ⟨z,e⟩
  rw [e_name_no hn h hs']
  cases d <;> first | exact absurd rfl (hs' _) | rfl
theorem pair_disp {d:D} {o:Option D} {S:Sto}:eDisp false [((eC (.str "a")),(eC (.int 1))),((eC (.str "x")),(eVar 0))] [some d,o] S=.ok (.dic [.inr "a",.inr "x"] [.int 1,d]) S:=by kernel_rfl
theorem key_a:keyB (.str "a")=true:=by decide +kernel
theorem key_x:keyB (.str "x")=true:=by decide +kernel
theorem val_1:isVal (.int 1)=true:=by decide +kernel
theorem e_state_pair {n:Nat} {d:D} {S:Sto} (hn:14<=n) (h:Fit d):zqf n [.dic [.inr "a",.inr "x"] [.int 1,d]] S=.ok (.bl (isVal d)) S:=by
 rw [zkb [(.str "a",.int 1),(.str "x",d)] hn rfl (by simp) (by
  intro p hp
  simp only [List.mem_cons,List.not_mem_nil,or_false] at hp
  rcases hp with rfl | rfl
  ·exact ⟨(by show (1:Nat)<=1000; omega),trivial⟩
  ·exact ⟨(by show (1:Nat)<=1000; omega),h⟩)]
 simp [key_a,key_x,val_1]
def isDic:D->Bool
 | .dic _ _=>true
 | _=>false
theorem e_state_d {n:Nat} {d:D} {S:Sto} (hn:14<=n) (h:Tg d):zqf n [d] S=.ok (.bl (isDic d)) S:=by
 by_cases hd:∃ks vs,d=.dic ks vs
 ·obtain ⟨ks,vs,rfl⟩:=hd
  rw [Tg] at h
  obtain ⟨rfl,rfl⟩:=h
  rw [zkb [] hn rfl (by simp) (by intro p hp; cases hp)]
  rfl
 ·have hs:∀ks vs,d≠.dic ks vs:=fun ks vs e=>hd ⟨ks,vs,e⟩
  rw [e_state_no (by omega) h hs]
  cases d <;> first | rfl | exact absurd rfl (hs _ _)
theorem eqMD_d {d:D} {S:Sto} (h:Tg d):eqMD d (.dic [] []) S=.ok (.bl (isDic d)) S:=by
 cases d <;> first
  | (simp [Tg] at h; done)
  | rfl
  | (rw [Tg] at h; obtain ⟨rfl,rfl⟩:=h; kernel_rfl)
theorem isiO_d {d:D} {S:Sto} (h:Tg d):isiO d S=.ok (.bl (isDic d)) S:=by
 cases d <;> first | rfl | (simp [Tg] at h; done)
theorem disp_int {i:Int} {o:Option D} {S:Sto}:eDispO (eVar 0) (eC (.int 1)) [some (.int i),o] S=.ok (.dic [.inl i] [.int 1]) S:=by kernel_rfl
theorem disp_str {z:Str} {o:Option D} {S:Sto}:eDispO (eVar 0) (eC (.int 1)) [some (.str z),o] S=.ok (.dic [.inr z] [.int 1]) S:=by kernel_rfl
theorem disp_non {o:Option D} {S:Sto}:eDispO (eVar 0) (eC (.int 1)) [some .non,o] S=.ok (.ref S.length) (S++[.odk .non 1]):=by rfl
theorem disp_bl {b:Bool} {o:Option D} {S:Sto}:eDispO (eVar 0) (eC (.int 1)) [some (.bl b),o] S=.ok (.ref S.length) (S++[.odk (.bl b) 1]):=by rfl
theorem disp_tup {o:Option D} {S:Sto}:eDispO (eVar 0) (eC (.int 1)) [some (.tup []),o] S=.ok (.ref S.length) (S++[.odk (.tup []) 1]):=by rfl
theorem st_disp {n:Nat} {d:D} {o:Option D} {S:Sto} {Q:D->Sto->Prop} (hn:14<=n) (h:Tg d) (h1:∀ds,d≠.lst ds) (h2:isDic d=false) (h3:∀ds,d=.tup ds->ds=[]) (q:∀T,Q (.bl (keyB d)) (S++T)) :
  Ok (eDispO (eVar 0) (eC (.int 1)) [some d,o] S) fun x S1=>Ok (zqf n [x] S1) Q:=by
 have q0:Q (.bl (keyB d)) S:=by
  have:=q []
  rwa [List.append_nil] at this
 have odk:∀k:D,d=k->keyB k=false->Fit k->Ok (zqf n [.ref S.length] (S++[.odk k 1])) Q:=fun k e hk hf=>by
  rw [e_state_odk hn (k:=k) (i:=1) (by simp) hf hk,zq2]
  have e2:(S++[Ob.odk k 1]).set S.length .dead=S++[.dead]:=by
   rw [List.set_append_right _ _ (Nat.le_refl _),Nat.sub_self]
   rfl
  rw [e2,← hk,← e]
  exact q _
 cases d with
 | non =>
  rw [disp_non,zq2]
  exact odk _ rfl rfl trivial
 | bl b =>
  rw [disp_bl,zq2]
  exact odk _ rfl rfl trivial
 | tup ds =>
  cases h3 ds rfl
  rw [disp_tup,zq2]
  exact odk _ rfl rfl ⟨by simp,trivial⟩
 | int i =>
  rw [disp_int,zq2,zkb [(.int i,.int 1)] hn rfl (by simp) (by intro p hp; simp only [List.mem_cons,List.not_mem_nil,or_false] at hp; subst hp; exact ⟨trivial,trivial⟩),zq2]
  exact q0
 | str z =>
  rw [disp_str,zq2,zkb [(.str z,.int 1)] hn rfl (by simp) (by intro p hp; simp only [List.mem_cons,List.not_mem_nil,or_false] at hp; subst hp; exact ⟨Tg_fit h,trivial⟩),zq2]
  have e:([(D.str z,D.int 1)].all fun p=>keyB p.1 && isVal p.2)=keyB (.str z):=by simp [val_1]
  rw [e]
  exact q0
 | lst ds=>exact absurd rfl (h1 ds)
 | dic ks vs=>cases h2
 | _=>simp [Tg] at h
def isLst:D->Bool
 | .lst _=>true
 | _=>false
def isTup:D->Bool
 | .tup _=>true
 | _=>false
theorem isiL_d {d:D} {S:Sto} (h:Tg d):isiD .list d S=.ok (.bl (isLst d)) S:=by
 cases d <;> first | rfl | (simp [Tg] at h; done)
theorem isiT_d {d:D} {S:Sto} (h:Tg d):isiD .tuple d S=.ok (.bl (isTup d)) S:=by
 cases d <;> first | rfl | (simp [Tg] at h; done)
theorem tru_bl {b:Bool} {S:Sto} {Q:Bool->Sto->Prop}:Ok (truD (.bl b) S) Q=Q b S:=zq2 _ _
theorem st_tail {k:Nat} {d:D} {o:Option D} {S:Sto} (hn:18<=k) (h:Tg d) (h1:∀ds,d≠.lst ds) (h2:isDic d=false) (h3:∀ds,d=.tup ds->ds=[]) :
  Ok (eDispO (eVar 0) (eC (.int 1)) [some d,o] S) fun d_5 S1=>Ok (zqf (k+1) [d_5] S1) fun d_6 S1=>Ok (f_text (k+1) [d,.int 1] S1) fun d' S2=>Ok (eq4D false d_6 d' S2) fun r S'=>r=.bl true/\∃T,S'=S++T:=by
 refine st_disp (by omega) h h1 h2 h3 fun T=>?_
 rw [e_text1 (by omega) (Tg_fit h),zq2,zjo]
 exact ⟨by simp,T,rfl⟩
theorem q_holds {n : Nat} {d : D} {S : Sto} (hn : 20 ≤ n) (h : Tg d) : Ok (f_holds n [d] S) fun r S' => r = .bl true ∧ ∃ T, S' = S ++ T := by
 have hf:=Tg_fit h
 obtain ⟨k,rfl⟩:∃k,n=k+2:=⟨n - 2,by omega⟩
 rw [u_holds]
 unfold b_holds
 walk_at "mz"
 rw [e_is_value (by omega) hf,zq2]
 walk_at "mz"
 rw [e_good (by omega) h,zq2,zjo]
 walk_at "mz"
 rw [e_is_key (by omega) hf,zq2,e_text1 (by omega) hf,zq2,zjo]
 walk_at "mz"
 rw [e_is_name (by omega) hf,zq2,e_name1 (by omega) hf,zq2,zjo]
 walk_at "mz"
 rw [pair_disp,zq2,e_state_pair (by omega) hf,zq2,e_good (by omega) h,zq2,zjo]
 walk_at "mz"
 rw [e_state_d (by omega) h,zq2,show ∀L,eDict0 L S=.ok (.dic [] []) S from fun _=>rfl,zq2,eqMD_d h,zq2,show truD (.bl (isDic d)) S=.ok (isDic d) S from rfl,zq2]
 cases hd:isDic d with
 | true =>
  simp only [if_true]
  rw [isiO_d h,zq2,hd,zjo]
  walk_at "mz"
  rw [isiL_d h,zq2,tru_bl]
  have hl:isLst d=false:=by
   cases d <;> first | rfl | cases hd
  simp only [hl,Bool.false_eq_true,if_false]
  rw [isiO_d h,zq2,tru_bl]
  simp only [hd,if_true]
  exact ⟨trivial,[],(List.append_nil S).symm⟩
 | false =>
  simp only [Bool.false_eq_true,if_false]
  rw [zjo]
  walk_at "mz"
  rw [isiL_d h,zq2,tru_bl]
  cases hl:isLst d with
  | true =>
   simp only [if_true]
   exact ⟨trivial,[],(List.append_nil S).symm⟩
  | false =>
   have hl':∀ds,d≠.lst ds:=fun ds e=>by
    subst e
    cases hl
   simp only [Bool.false_eq_true,if_false]
   rw [isiO_d h,zq2,tru_bl]
   simp only [hd,Bool.false_eq_true,if_false]
   rw [isiT_d h,zq2,tru_bl]
   cases ht:isTup d with
   | true =>
    simp only [if_true]
    refine ⟨Nat.zero_le _,?_⟩
    cases d with
    | tup ds =>
     rw [show neTE (.tup ds) (.tup []) S=.ok (.bl (ds.length != 0)) S from rfl,zq2]
     simp only
     cases ds with
     | cons a ds =>
      simp only [List.length_cons,show (ds.length+1 != 0)=true from rfl,if_true]
      exact ⟨trivial,[],(List.append_nil S).symm⟩
     | nil =>
      simp only [List.length_nil,show (0 != 0)=false from rfl,Bool.false_eq_true,if_false]
      exact st_tail (by omega) h hl' rfl fun ds e=>by cases e; rfl
    | _=>cases ht
   | false =>
    simp only [Bool.false_eq_true,if_false]
    exact st_tail (by omega) h hl' hd fun ds e=>by
     subst e
     cases ht
def txtL:List D:=[.str "",.str "a",.str "x7",.str "7",.str "A",.str "a b",.str "aaaaaaaaaaaa",.str "aaaaaaaaaaaaa",.str "bbbbbbbbbbbbbbbbbbbbbbbbbbbbbbbbbbbbbbbbbbbbbbbbbbbbbbbbbbbb",.str "bbbbbbbbbbbbbbbbbbbbbbbbbbbbbbbbbbbbbbbbbbbbbbbbbbbbbbbbbbbbb",.str "\n"]
def othL:List D:=[.non,.bl true,.bl false,.tup [],.lst [],.dic [] [],.tup [.int 1,.bl true]]
def manyL:List D:=[.int 0,.int 1,.int 2,.int 3,.int 50,.int 51]
def sixE:EF:=(eLst (aCons (eC (.int 0)) (aCons (eUn negD (eC (.int 5))) (aCons (eBin subD (eBin powD (eC (.int 10)) (eC (.int 60))) (eC (.int 1))) (aCons (eBin powD (eC (.int 10)) (eC (.int 60))) (aCons (eUn negD (eBin powD (eC (.int 10)) (eC (.int 60)))) (aCons (eBin subD (eC (.int 1)) (eBin powD (eC (.int 10)) (eC (.int 60)))) aNil)))))))
theorem six_eq (L:Lc) (S:Sto):sixE L S=.ok (.lst ((sixL.take 6).map .int)) S:=by kernel_rfl
def txtE:EF:=(eLst (aCons (eC (.str "")) (aCons (eC (.str "a")) (aCons (eC (.str "x7")) (aCons (eC (.str "7")) (aCons (eC (.str "A")) (aCons (eC (.str "a b")) (aCons (eBin mul2D (eC (.str "a")) (eC (.int 12))) (aCons (eBin mul2D (eC (.str "a")) (eC (.int 13))) (aCons (eBin mul2D (eC (.str "b")) (eC (.int 60))) (aCons (eBin mul2D (eC (.str "b")) (eC (.int 61))) (aCons (eC (.str "\n")) aNil))))))))))))
theorem txt_eq (L:Lc) (S:Sto):txtE L S=.ok (.lst txtL) S:=by kernel_rfl
def othE:EF:=(eLst (aCons (eC .non) (aCons (eC (.bl true)) (aCons (eC (.bl false)) (aCons (eTup aNil) (aCons (eLst aNil) (aCons eDict0 (aCons (eTup (aCons (eC (.int 1)) (aCons (eC (.bl true)) aNil))) aNil))))))))
theorem oth_eq (L:Lc) (S:Sto):othE L S=.ok (.lst othL) S:=by kernel_rfl
def manyE:EF:=(eLst (aCons (eC (.int 0)) (aCons (eC (.int 1)) (aCons (eC (.int 2)) (aCons (eC (.int 3)) (aCons (eC (.int 50)) (aCons (eC (.int 51)) aNil)))))))
theorem many_eq (L:Lc) (S:Sto):manyE L S=.ok (.lst manyL) S:=by kernel_rfl
def thing_last (k:Nat) (sf:Nat->List D->Sto->R D):SF:=(sSeq (sSet 3 (eBin ix3D manyE (zq7 (ari 2 (zjl (k+1))) (aCons (eVar 0) (aCons (eC (.int 6)) aNil))))) (sRet (zq7 (tupleD) (aCons (eLc (wRng1 (aCons (eVar 3) aNil)) (gNm 4) tYesD (zq7 (ari 2 (sf 0)) (aCons (eVar 0) (aCons (eBin subD (eBin subD (eVar 1) (eC (.int 1))) (eBin mul2D (zq7 (intD) (aCons (eBin (ordD fun i j=>decide (j < i)) (eVar 3) (eC (.int 3))) aNil)) (eVar 1))) aNil))) [4]) aNil))))
def thing_mid (k:Nat) (sf:Nat->List D->Sto->R D):SF:=(sSeq (sIf (tBl (eBin (ordD fun i j=>decide (i < j)) (eVar 2) (eC (.int 2)))) (sRet (eBin ix3D sixE (zq7 (ari 2 (zjl (k+1))) (aCons (eVar 0) (aCons (eC (.int 6)) aNil))))) sNx) (sSeq (sIf (tBl (eBin (ordD fun i j=>decide (i < j)) (eVar 2) (eC (.int 4)))) (sRet (eBin ix3D txtE (zq7 (ari 2 (zjl (k+1))) (aCons (eVar 0) (aCons (eC (.int 11)) aNil))))) sNx) (sSeq (sIf (tBl (eBin (ordD fun i j=>decide (i < j)) (eVar 2) (eC (.int 6)))) (sRet (eBin ix3D othE (zq7 (ari 2 (zjl (k+1))) (aCons (eVar 0) (aCons (eC (.int 7)) aNil))))) sNx) (thing_last k sf))))
theorem thing_eq (k:Nat) (sf:Nat->List D->Sto->R D):b_thing k sf=(sSeq (sSet 2 (zq7 (ari 2 (zjl (k+1))) (aCons (eVar 0) (aCons (eIf (tBl (eBin (ordD fun i j=>decide (j < i)) (eVar 1) (eC (.int 0)))) (eC (.int 9)) (eC (.int 6))) aNil)))) (thing_mid k sf)):=rfl
theorem g_draw {n i:Nat} {m:Int} {S:Sto} {Q:D->Sto->Prop} (hn:2<=n) (hp:PoolOk S i) (h0:0 < m) (h1:m < 18446744073709551616) (h:∀r S',0<=r->r < m->PoolOk S' i->Q (.int r) S'):Ok (zjl n [.ref i,.int m] S) Q:=by
 obtain ⟨k,rfl⟩:∃k,n=k+2:=⟨n - 2,by omega⟩
 exact draw0 hp h0 h1 fun r o a b c=>h r _ a b c
theorem atI_in {ds:List D} {i:Int} (h0:0<=i) (h1:i < ds.length):∃d∈ds,atI ds i=some d:=by
 obtain ⟨j,rfl⟩:=Int.eq_ofNat_of_zero_le h0
 have hj:j < ds.length:=by omega
 refine ⟨ds[j],List.getElem_mem hj,?_⟩
 unfold atI
 simp [ixN,hj]
theorem at_range {ds:List D} {r:Int} (h0:0<=r) (h1:r < ds.length):∃d∈ds,atI ds r=some d:=atI_in h0 h1
theorem tg_six:∀d∈(sixL.take 6).map D.int,Tg d:=fun d hd=>by
 obtain ⟨i,hi,rfl⟩:=List.mem_map.mp hd
 exact List.mem_of_mem_take hi
theorem tg_txt:∀d∈txtL,Tg d:=by
 have:txtL.all (fun d=>match d with | .str z=>decide (z.length<=100) | _=>false)=true:=by decide +kernel
 intro d hd
 have h:=List.all_eq_true.mp this d hd
 cases d with
 | str z =>
  show z.length<=100
  exact of_decide_eq_true h
 | _=>cases h
theorem tg_oth:∀d∈othL,Tg d:=by
 intro d hd
 simp only [othL,List.mem_cons,List.not_mem_nil,or_false] at hd
 rcases hd with rfl | rfl | rfl | rfl | rfl | rfl | rfl
 ·trivial
 ·trivial
 ·trivial
 ·exact ⟨Nat.zero_le _,trivial⟩
 ·rfl
 ·exact ⟨rfl,rfl⟩
 ·refine ⟨by simp,?_,trivial,trivial⟩
  show (1:Int)∈sixL
  simp [sixL]
theorem u_thing (k:Nat):f_thing (k+2)=dDef 5 (b_thing k fun _=>f_thing (k+1)):=rfl
theorem q_pick {ls:List D} {e:EF} {L:Lc} {S:Sto} {p k:Nat} {m:Int} (hk:2<=k) (he:∀L S,e L S=.ok (.lst ls) S) (hm:m=ls.length) (h0:0 < m) (h1:m < 1000) (hL:L[0]?=some (some (.ref p))) (hp:PoolOk S p) :
  Ok (eBin ix3D e (zq7 (ari 2 (zjl k)) (aCons (eVar 0) (aCons (eC (.int m)) aNil))) L S) fun d S'=>d∈ls/\PoolOk S' p:=by
 rw [zj3,he,zq2]
 simp only [zqq,zqi,zqt,zqp,ok_eC,hL,ari2]
 refine g_draw hk hp h0 (by omega) fun r S' r0 r1 hp'=>?_
 obtain ⟨d,hd,e2⟩:=at_range (ds:=ls) r0 (by omega)
 rw [ok_ix_lst e2]
 exact ⟨hd,hp'⟩
theorem ok_lt {c i:Int} {S:Sto} {Q:D->Sto->Prop}:Ok (ordD (fun i j=>decide (i < j)) (.int c) (.int i) S) Q=Q (.bl (decide (c < i))) S:=by rw [zqg]
def Gd (p:Nat) (f:Fl) (S':Sto):Prop:=match f with
 | .rt d=>Tg d/\PoolOk S' p
 | _=>False
theorem q_mid {k p:Nat} {sf:Nat->List D->Sto->R D} {dp c:Int} {S:Sto} (hk:1<=k) (hp:PoolOk S p) (hc:0<=c)
  (hl:6<=c->Ok (thing_last k sf [some (.ref p),some (.int dp),some (.int c),none,none] S) (Gd p)):Ok (thing_mid k sf [some (.ref p),some (.int dp),some (.int c),none,none] S) (Gd p):=by
 unfold thing_mid
 have step:∀{e:EF} {ls:List D} {m i:Int} {B:SF} (_:∀L S,e L S=.ok (.lst ls) S) (_:m=ls.length) (_:0 < m) (_:m < 1000) (_:∀d∈ls,Tg d) (_:i<=c->Ok (B [some (.ref p),some (.int dp),some (.int c),none,none] S) (Gd p)),
   Ok (sSeq (sIf (tBl (eBin (ordD fun i j=>decide (i < j)) (eVar 2) (eC (.int i)))) (sRet (eBin ix3D e (zq7 (ari 2 (zjl (k+1))) (aCons (eVar 0) (aCons (eC (.int m)) aNil))))) sNx) B [some (.ref p),some (.int dp),some (.int c),none,none] S) (Gd p):=by
  intro e ls m i B he hm h0 h1 ht hB
  rw [zqs,ok_sIf]
  simp only [ok_tBl,zj3,zqp,ok_eC,zgz,zgs,ok_lt]
  by_cases h:c < i
  ·simp only [h,decide_true,if_true]
   rw [ok_sRet]
   refine (q_pick (by omega) he hm h0 h1 rfl hp).mono fun d S' hh=>?_
   exact ⟨ht d hh.1,hh.2⟩
  ·simp only [h,decide_false,Bool.false_eq_true,if_false,ok_sNx]
   exact hB (by omega)
 refine step six_eq rfl (by decide) (by decide) tg_six fun _=>?_
 refine step txt_eq rfl (by decide) (by decide) tg_txt fun _=>?_
 exact step oth_eq rfl (by decide) (by decide) tg_oth hl
theorem q_thing:∀(t n:Nat) (dp:Int) (S:Sto) (p:Nat),t+3<=n->dp<=t->dp<=100->PoolOk S p->Ok (f_thing n [.ref p,.int dp] S) fun d S'=>Tg d/\PoolOk S' p:=by
 intro t
 induction t with
 | zero =>
  intro n dp S p hn hdp hdp2 hp
  obtain ⟨k,rfl⟩:∃k,n=k+2:=⟨n - 2,by omega⟩
  rw [u_thing,thing_eq,ok_dDef]
  simp only [List.map_cons,List.map_nil,List.length_cons,List.length_nil,Nat.reduceAdd,Nat.reduceSub,List.replicate_succ,List.replicate_zero,List.cons_append,List.nil_append]
  rw [zqs,zj8]
  simp only [zqq,zqi,zqt,ok_eIf,ok_tBl,zj3,zqp,ok_eC,zgz,zgs,zqg,ari2]
  have h0:¬(0 < dp):=by omega
  simp only [h0,decide_false,Bool.false_eq_true,if_false]
  refine g_draw (by omega) hp (by decide) (by decide) fun c S' c0 c1 hp'=>?_
  try simp only [zsz,zss]
  refine (q_mid (by omega) hp' c0 fun h6=>by omega).mono fun f S2 hh=>?_
  cases f with
  | rt d=>exact hh
  | _=>exact hh.elim
 | succ t ih =>
  intro n dp S p hn hdp hdp2 hp
  obtain ⟨k,rfl⟩:∃k,n=k+2:=⟨n - 2,by omega⟩
  rw [u_thing,thing_eq,ok_dDef]
  simp only [List.map_cons,List.map_nil,List.length_cons,List.length_nil,Nat.reduceAdd,Nat.reduceSub,List.replicate_succ,List.replicate_zero,List.cons_append,List.nil_append]
  rw [zqs,zj8]
  simp only [zqq,zqi,zqt,ok_eIf,ok_tBl,zj3,zqp,ok_eC,zgz,zgs,zqg,ari2]
  have go:∀c S',0<=c->PoolOk S' p->(6<=c->0 < dp)->Ok (thing_mid k (fun _=>f_thing (k+1)) [some (.ref p),some (.int dp),some (.int c),none,none] S') (Gd p):=by
   intro c S' c0 hp' hc
   refine q_mid (by omega) hp' c0 fun h6=>?_
   have hd:=hc h6
   unfold thing_last
   rw [zqs,zj8]
   refine (q_pick (by omega) many_eq rfl (by decide) (by decide) rfl hp').mono fun mm S2 hh=>?_
   obtain ⟨hm,hp2⟩:=hh
   obtain ⟨q,rfl,q0,q1⟩:∃q:Int,mm=.int q/\0<=q/\q<=51:=by
    simp only [manyL,List.mem_cons,List.not_mem_nil,or_false] at hm
    rcases hm with rfl | rfl | rfl | rfl | rfl | rfl <;> exact ⟨_,rfl,by decide,by decide⟩
   simp only [zsz,zss]
   rw [ok_sRet,zqq]
   simp only [zqi,zqt]
   rw [ok_eLc,ok_wRng1]
   simp only [zqi,zqt,zqp,zgz,zgs]
   refine ⟨⟨by omega,by omega⟩,?_⟩
   simp only [zjb,List.foldl_cons,List.foldl_nil,zsz,zss]
   have hlen:(rngL 0 q.toNat).length=q.toNat:=by simp [rngL]
   refine lc_inv (I:=fun ds acc S1=>ds.length+acc.length=q.toNat/\(∀t∈acc,Tg t)/\PoolOk S1 p) (fun d ds acc S1 hI=>?_) (fun acc S1 hI=>?_) _ _ _ ⟨by simp [hlen],by simp,hp2⟩
   ·obtain ⟨h1,h2,st⟩:=hI
    refine ⟨rfl,?_⟩
    simp only [ok_gNm,zsz,zss,ok_tYesD,if_true]
    simp only [zqq,zqi,zqt,zqp,zj3,ok_eC,zjh,zgz,zgs,ari2,zqg]
    have fin:∀dq:Int,dq<=t->dq<=100->Ok (f_thing (k+1) [.ref p,.int dq] S1) fun y S3=>acc.length < sizeLine/\ds.length+(acc++[y]).length=q.toNat/\(∀t∈acc++[y],Tg t)/\PoolOk S3 p:=by
     intro dq d1 d2
     refine (ih (k+1) dq S1 p (by omega) d1 d2 st).mono fun y S3 hy=>?_
     simp only [List.length_cons] at h1
     refine ⟨by rw [sizeLine_eq]; omega,by simp; omega,fun t' ht'=>?_,hy.2⟩
     rcases List.mem_append.mp ht' with h | h
     ·exact h2 t' h
     ·rw [List.mem_singleton] at h
      rw [h]
      exact hy.1
    rw [zk2]
    by_cases h3:3 < q
    ·simp only [h3,decide_true,if_true]
     rw [zjf (by decide) (by decide) (by omega) (by omega),zjh]
     exact fin _ (by omega) (by omega)
    ·simp only [h3,decide_false,Bool.false_eq_true,if_false]
     rw [zjf (by decide) (by decide) (by omega) (by omega),zjh]
     exact fin _ (by omega) (by omega)
   ·obtain ⟨h1,h2,st⟩:=hI
    refine ⟨rfl,?_⟩
    simp only [List.length_nil,Nat.zero_add] at h1
    rw [show tupleD [.lst acc] S1=.ok (.tup acc) S1 from by simp [tupleD,zjj],zq2]
    exact ⟨⟨by omega,Tgs_of h2⟩,st⟩
  by_cases h0:0 < dp
  ·simp only [h0,decide_true,if_true]
   refine g_draw (by omega) hp (by decide) (by decide) fun c S' c0 c1 hp'=>?_
   try simp only [zsz,zss]
   refine (go c S' c0 hp' fun _=>h0).mono fun f S2 hh=>?_
   cases f with
   | rt d=>exact hh
   | _=>exact hh.elim
  ·simp only [h0,decide_false,Bool.false_eq_true,if_false]
   refine g_draw (by omega) hp (by decide) (by decide) fun c S' c0 c1 hp'=>?_
   try simp only [zsz,zss]
   refine (go c S' c0 hp' fun _=>by omega).mono fun f S2 hh=>?_
   cases f with
   | rt d=>exact hh
   | _=>exact hh.elim
def fnL (r:R Fl):Option (Option D × Nat × Nat):=match r with
 | .ok (.nx (y0 :: r)) S=>some (y0,r.length,S.length)
 | _=>none
theorem fnL_ok {r:R Fl} {x:Option D} {n m:Nat} (h:fnL r=some (x,n,m)):Ok r fun fl S=>∃L,fl=.nx (x :: L)/\L.length=n/\S.length=m:=by
 unfold fnL at h
 split at h
 ·cases h
  rw [zq2]
  exact ⟨_,rfl,rfl,rfl⟩
 ·cases h
theorem l4_ok (x0 x2 x3 x4 x5 x6 x7 x8:Option D):fnL (sFor (wRng2 (aCons (eC (.int 1)) (aCons (eC (.int 8)) aNil))) (gNm 2) (b_law_4 98) [x0,some (.int 3),x2,x3,x4,x5,x6,x7,x8] [])=some (x0,8,0):=by kernel_rfl
theorem l3_ok (x0 x1 x2 x3 x4 x5 x6 x7 x8:Option D):fnL (sFor (wRng2 (aCons (eC (.int 46)) (aCons (eC (.int 54)) aNil))) (gNm 3) (b_law_3 98) [x0,x1,x2,x3,x4,x5,x6,x7,x8] [])=some (x0,8,0):=by kernel_rfl
theorem pool_app {S T:Sto} {i:Nat} (h:PoolOk S i):PoolOk (S++T) i:=by
 obtain ⟨a,b,e,r⟩:=h
 refine ⟨a,b,?_,r⟩
 rw [List.getElem?_append_left (List.getElem?_eq_some_iff.mp e).1]
 exact e
theorem pool_s01 {S:Sto} {Q:D->Sto->Prop} {k:Nat} {ns:List Int} {j:Int} (hk:2<=k) (hn:ns.length<=63) (hb:∀z∈ns,Builtin.Int.intBits z<=1048576) (h0:0<=j) (h1:j < 1000) (h:∀S',PoolOk S' S.length->Q (.ref S.length) S'):Ok (f_pool k [.scr ns,.int j] S) Q:=by
 obtain ⟨i,rfl⟩:∃i,k=i+2:=⟨k - 2,by omega⟩
 exact pool0 hn hb h0 h1 fun o hp=>h _ hp
theorem rng_mem {n:Nat} {d:D} (h:d∈rngL 0 n):∃j:Int,d=.int j/\0<=j/\j < n:=by
 unfold rngL at h
 obtain ⟨i,hi,rfl⟩:=List.mem_map.mp h
 have:=List.mem_range.mp hi
 exact ⟨_,rfl,by omega,by omega⟩
theorem l1_ok {p:Nat} {x0 x1 x2 x3 x4 x5 x7 x8:Option D} {S:Sto} (hp:PoolOk S p):Ok (b_law_1 98 [x0,x1,x2,x3,x4,x5,some (.ref p),x7,x8] S) fun fl S'=>fl=.nx [x0,x1,x2,x3,x4,x5,some (.ref p),x7,x8]/\PoolOk S' p:=by
 unfold b_law_1
 rw [ok_sIf,ok_tNot1,ok_tTru]
 simp only [zqq,zqi,zqt,zqp,ok_eC,zgz,zgs,ari1,ari2]
 refine (q_thing 3 99 3 S p (by omega) (by decide) (by decide) hp).mono fun d S1 hh=>?_
 refine (q_holds (by omega) hh.1).mono fun r S2 h2 => ?_
 obtain ⟨rfl,T,rfl⟩:=h2
 rw [tru_bl]
 simp only [Bool.not_true,Bool.false_eq_true,if_false,ok_sNx]
 exact ⟨trivial,pool_app hh.2⟩
theorem l2_ok {ns:List Int} {j:Int} (hn:ns.length<=63) (hb:∀z∈ns,Builtin.Int.intBits z<=1048576) (h0:0<=j) (h1:j < 1000) {x1 x2 x3 x4 x6 x7 x8:Option D} {S:Sto} :
  Ok (b_law_2 98 [some (.scr ns),x1,x2,x3,x4,some (.int j),x6,x7,x8] S) fun fl S'=>∃L,fl=.nx (some (.scr ns) :: L)/\L.length=8:=by
 unfold b_law_2
 rw [zqs,zj8]
 simp only [zqq,zqi,zqt,zqp,ok_eC,zgz,zgs,ari2]
 refine pool_s01 (by omega) hn hb h0 h1 fun S' hp=>?_
 try simp only [zsz,zss]
 rw [ok_sFor,ok_wRng1]
 simp only [zqi,zqt,ok_eC]
 refine ⟨⟨by omega,by omega⟩,?_⟩
 refine (for_inv (Q:=fun fl S'=>∃L,fl=.nx (some (.scr ns) :: L)/\L.length=8) (I:=fun ds L S1=>PoolOk S1 S.length/\∃y7,L=[some (.scr ns),x1,x2,x3,x4,some (.int j),some (.ref S.length),y7,x8]) (fun d ds L S1 h=>?_) (fun L S1 h=>⟨rfl,?_⟩) _ _ _ ⟨hp,x7,rfl⟩)
 ·obtain ⟨hp1,y7,rfl⟩:=h
  refine ⟨rfl,?_⟩
  rw [ok_gNm]
  simp only [zsz,zss]
  refine (l1_ok hp1).mono fun fl S2 hf=>?_
  obtain ⟨rfl,hp2⟩:=hf
  exact ⟨hp2,_,rfl⟩
 ·obtain ⟨hp1,y7,rfl⟩:=h
  exact ⟨_,rfl,rfl⟩
theorem law_ok (ns:List Int) (hn:ns.length<=63) (hb:∀z∈ns,Builtin.Int.intBits z<=1048576):Ok (f_law 100 [.scr ns] []) fun d _=>d=.bl true:=by
 show Ok (dDef 9 (b_law 98) [.scr ns] []) _
 rw [ok_dDef]
 unfold b_law
 simp only [List.map_cons,List.map_nil,List.length_cons,List.length_nil,Nat.reduceSub,Nat.reduceAdd,List.replicate_succ,List.replicate_zero,List.cons_append,List.nil_append]
 rw [zqs,zj8,ok_eC]
 simp only [zsz,zss]
 rw [zqs]
 refine (fnL_ok (l4_ok ..)).mono fun fl S1 h1=>?_
 obtain ⟨L1,rfl,hL1,hS1⟩:=h1
 obtain rfl:=List.length_eq_zero_iff.mp hS1
 obtain ⟨y1,y2,y3,y4,y5,y6,y7,y8,rfl⟩:∃y1 y2 y3 y4 y5 y6 y7 y8,L1=[y1,y2,y3,y4,y5,y6,y7,y8]:=by
  match L1,hL1 with
  | [y1,y2,y3,y4,y5,y6,y7,y8],_=>exact ⟨_,_,_,_,_,_,_,_,rfl⟩
 simp only
 rw [zqs]
 refine (fnL_ok (l3_ok ..)).mono fun fl S1 h1=>?_
 obtain ⟨L1,rfl,hL1,hS1⟩:=h1
 obtain rfl:=List.length_eq_zero_iff.mp hS1
 obtain ⟨z1,z2,z3,z4,z5,z6,z7,z8,rfl⟩:∃y1 y2 y3 y4 y5 y6 y7 y8,L1=[y1,y2,y3,y4,y5,y6,y7,y8]:=by
  match L1,hL1 with
  | [y1,y2,y3,y4,y5,y6,y7,y8],_=>exact ⟨_,_,_,_,_,_,_,_,rfl⟩
 simp only
 rw [zqs,ok_sFor]
 simp only [ok_wRng1,zqi,zqq,ok_eC,zqt,zqp,zgz]
 have hns:∀S,zjv [.scr ns] S=.ok (.int ns.length) S:=fun S=>by simp [zjv,zjq,lenD,zjj]
 rw [hns,zq2]
 simp only [min2D,max2D,zq2]
 generalize hc:(if (if (8:Int) < ns.length then (8:Int) else ns.length) > 1 then (if (8:Int) < ns.length then (8:Int) else ns.length) else 1)=c
 have hc1:1<=c/\c<=8:=by
  rw [← hc]
  split <;> split <;> omega
 refine ⟨⟨by omega,by omega⟩,?_⟩
 refine (for_inv (Q:=fun fl S'=>∃L,fl=.nx L) (I:=fun ds L S=>(∀d∈ds,∃j:Int,d=.int j/\0<=j/\j < 1000)/\∃a1 a2 a3 a4 a5 a6 a7 a8,L=[some (.scr ns),a1,a2,a3,a4,a5,a6,a7,a8]) (fun d ds L S h=>?_) (fun L S h=>⟨rfl,L,rfl⟩) _ _ _ ⟨fun d hd=>?_,_,_,_,_,_,_,_,_,rfl⟩).mono fun fl S' hf=>?_
 ·obtain ⟨hd,a1,a2,a3,a4,a5,a6,a7,a8,rfl⟩:=h
  obtain ⟨j,rfl,j0,j1⟩:=hd d (by simp)
  refine ⟨rfl,?_⟩
  rw [ok_gNm]
  simp only [zsz,zss]
  refine (l2_ok (ns:=ns) (j:=j) hn hb j0 j1).mono fun fl S2 hf=>?_
  obtain ⟨L,rfl,hL⟩:=hf
  obtain ⟨y1,y2,y3,y4,y5,y6,y7,y8,rfl⟩:∃y1 y2 y3 y4 y5 y6 y7 y8,L=[y1,y2,y3,y4,y5,y6,y7,y8]:=by
   match L,hL with
   | [y1,y2,y3,y4,y5,y6,y7,y8],_=>exact ⟨_,_,_,_,_,_,_,_,rfl⟩
  exact ⟨fun d hd'=>hd d (by simp [hd']),_,_,_,_,_,_,_,_,rfl⟩
 ·obtain ⟨j,rfl,j0,j1⟩:=rng_mem hd
  exact ⟨j,rfl,j0,by omega⟩
 ·obtain ⟨L,rfl⟩:=hf
  simp only [ok_sRet,ok_eC]
end K01
namespace K01.Hd
open PySem PySem.Spec PyProof.Rows L2 VL
theorem facts {P:Program} {w:World} {K:PySem.W.Frag} {h:Heap} {mg:Str->Option Value} {f:Addr} (X:K.In h) (G:h.Ns mainGlobals mg) (hfa:mg ("law" : Str)=some (.ref f)) (c:SaysH fa fn ts ex w K) :
  ∃fd:FuncData,(∀(s:Shared) (v:Value),BindsTo s fd ⟨[v],[]⟩ [("_law_script",v)])/\∀base:Heap,K.In base->base.Ns mainGlobals mg->FnOk P w K mg base (L2.CX P w) 100 f fd ["_law_script"] (spD (gS K cs w) 1 (f_law 100)):=by
 have cx:∀(i:Nat) (b:Bool),(exs K)[i]?=some b->b=true:=fun i b e=>List.all_eq_true.mp c.x b (List.mem_of_getElem? e)
 obtain ⟨fd0,F0⟩:=c.def_ 0 (p:=(gAd "is_word",d_0)) rfl
 obtain ⟨t0⟩:=FT.ofH (mg:=mg) (x := "is_word") (st:=s_is_word) (ps:=["value", "signs", "least", "most"]) X G F0 (fun _ _ _ _ _ _ us hl=>match us,hl with | [_,_,_,_],_=>rfl) (c.fact 0 rfl)
 obtain ⟨fd1,F1⟩:=c.def_ 1 (p:=(gAd "is_key",d_1)) rfl
 obtain ⟨t1⟩:=FT.ofH (mg:=mg) (x := "is_key") (st:=s_is_key) (ps:=["value"]) X G F1 (fun _ _ _ _ _ _ us hl=>match us,hl with | [_],_=>rfl) (c.fact 1 rfl)
 obtain ⟨fd2,F2⟩:=c.def_ 2 (p:=(gAd "is_text",d_2)) rfl
 obtain ⟨t2⟩:=FT.ofH (mg:=mg) (x := "is_text") (st:=s_is_text) (ps:=["value"]) X G F2 (fun _ _ _ _ _ _ us hl=>match us,hl with | [_],_=>rfl) (c.fact 2 rfl)
 obtain ⟨fd3,F3⟩:=c.def_ 3 (p:=(gAd "is_integer",d_3)) rfl
 obtain ⟨t3⟩:=FT.ofH (mg:=mg) (x := "is_integer") (st:=s_is_integer) (ps:=["value"]) X G F3 (fun _ _ _ _ _ _ us hl=>match us,hl with | [_],_=>rfl) (c.fact 3 rfl)
 obtain ⟨fd4,F4⟩:=c.def_ 4 (p:=(gAd "is_within_levels",d_4)) rfl
 obtain ⟨t4⟩:=FT.ofH (mg:=mg) (x := "is_within_levels") (st:=s_is_within_levels) (ps:=["value", "levels"]) X G F4 (fun _ _ _ _ _ _ us hl=>match us,hl with | [_,_],_=>rfl) (c.fact 4 rfl)
 obtain ⟨fd5,F5⟩:=c.def_ 5 (p:=(gAd "size_within",d_5)) rfl
 obtain ⟨t5⟩:=FT.ofH (mg:=mg) (x := "size_within") (st:=s_size_within) (ps:=["value"]) X G F5 (fun _ _ _ _ _ _ us hl=>match us,hl with | [_],_=>rfl) (c.fact 5 rfl)
 obtain ⟨fd6,F6⟩:=c.def_ 6 (p:=(gAd "is_value",d_6)) rfl
 obtain ⟨t6⟩:=FT.ofH (mg:=mg) (x := "is_value") (st:=s_is_value) (ps:=["value"]) X G F6 (fun _ _ _ _ _ _ us hl=>match us,hl with | [_],_=>rfl) (c.fact 6 rfl)
 obtain ⟨fd7,F7⟩:=c.def_ 7 (p:=(gAd "is_state",d_7)) rfl
 obtain ⟨t7⟩:=FT.ofH (mg:=mg) (x := "is_state") (st:=s_is_state) (ps:=["value"]) X G F7 (fun _ _ _ _ _ _ us hl=>match us,hl with | [_],_=>rfl) (c.fact 7 rfl)
 obtain ⟨fd8,F8⟩:=c.def_ 8 (p:=(gAd "_law_text",d_8)) rfl
 obtain ⟨t8⟩:=FT.ofH (mg:=mg) (x := "_law_text") (st:=s_text) (ps:=["_law_thing_here", "_law_least"]) X G F8 (fun _ _ _ _ _ _ us hl=>match us,hl with | [_,_],_=>rfl) (c.fact 8 rfl)
 obtain ⟨fd9,F9⟩:=c.def_ 9 (p:=(gAd "_law_value",d_9)) rfl
 obtain ⟨t9⟩:=FT.ofH (mg:=mg) (x := "_law_value") (st:=s_value) (ps:=["_law_thing_here", "_law_levels"]) X G F9 (fun _ _ _ _ _ _ us hl=>match us,hl with | [_,_],_=>rfl) (c.fact 9 rfl)
 obtain ⟨fd10,F10⟩:=c.def_ 10 (p:=(gAd "_law_count",d_10)) rfl
 obtain ⟨t10⟩:=FT.ofH (mg:=mg) (x := "_law_count") (st:=s_count) (ps:=["_law_thing_here"]) X G F10 (fun _ _ _ _ _ _ us hl=>match us,hl with | [_],_=>rfl) (c.fact 10 rfl)
 obtain ⟨fd11,F11⟩:=c.def_ 11 (p:=(gAd "_law_good",d_11)) rfl
 obtain ⟨t11⟩:=FT.ofH (mg:=mg) (x := "_law_good") (st:=s_good) (ps:=["_law_thing_here"]) X G F11 (fun _ _ _ _ _ _ us hl=>match us,hl with | [_],_=>rfl) (c.fact 11 rfl)
 obtain ⟨fd12,F12⟩:=c.def_ 12 (p:=(gAd "is_name",d_12)) rfl
 obtain ⟨t12⟩:=FT.ofH (mg:=mg) (x := "is_name") (st:=s_is_name) (ps:=["value"]) X G F12 (fun _ _ _ _ _ _ us hl=>match us,hl with | [_],_=>rfl) (c.fact 12 rfl)
 obtain ⟨fd13,F13⟩:=c.def_ 13 (p:=(gAd "_law_name",d_13)) rfl
 obtain ⟨t13⟩:=FT.ofH (mg:=mg) (x := "_law_name") (st:=s_name) (ps:=["_law_thing_here"]) X G F13 (fun _ _ _ _ _ _ us hl=>match us,hl with | [_],_=>rfl) (c.fact 13 rfl)
 obtain ⟨fd14, F14⟩ := c.def_ 14 (p := (gAd "_law_holds", d_14)) rfl
 obtain ⟨t14⟩ := FT.ofH (mg := mg) (x := "_law_holds") (st := s_holds) (ps := ["_law_thing_here"]) X G F14 (fun _ _ _ _ _ _ us hl => match us, hl with | [_], _ => rfl) (c.fact 14 rfl)
 obtain ⟨fd15,F15⟩:=c.def_ 15 (p:=(gAd "_law_draw",d_15)) rfl
 obtain ⟨t15⟩:=FT.ofH (mg:=mg) (x := "_law_draw") (st:=s_draw) (ps:=["_law_pool_here", "_law_many"]) X G F15 (fun _ _ _ _ _ _ us hl=>match us,hl with | [_,_],_=>rfl) (c.fact 15 rfl)
 obtain ⟨fd16,F16⟩:=c.def_ 16 (p:=(gAd "_law_thing",d_16)) rfl
 obtain ⟨t16⟩:=FT.ofH (mg:=mg) (x := "_law_thing") (st:=s_thing) (ps:=["_law_pool_here", "_law_depth"]) X G F16 (fun _ _ _ _ _ _ us hl=>match us,hl with | [_,_],_=>rfl) (c.fact 16 rfl)
 obtain ⟨fd17,F17⟩:=c.def_ 17 (p:=(gAd "_law_pool",d_17)) rfl
 obtain ⟨t17⟩:=FT.ofH (mg:=mg) (x := "_law_pool") (st:=s_pool) (ps:=["_law_script", "_law_k"]) X G F17 (fun _ _ _ _ _ _ us hl=>match us,hl with | [_,_],_=>rfl) (c.fact 17 rfl)
 obtain ⟨fd18,F18⟩:=c.def_ 18 (p:=(gAd "law",d_18)) rfl
 obtain ⟨t18⟩:=FT.ofH (mg:=mg) (x := "law") (st:=s_law) (ps:=["_law_script"]) X G F18 (fun _ _ _ _ _ _ us hl=>match us,hl with | [_],_=>rfl) (c.fact 18 rfl)
 have T:Tx (gS K cs w) w mg:=⟨fun _ _=>trivial,t0,t1,t2,t3,t4,t5,t6,t7,t8,t9,t10,t11,t12,t13,t14,t15,t16,t17,t18,KD.ofInt X G (c.fact 19 rfl),KD.ofStr X G (c.fact 20 rfl),KD.ofInt X G (c.fact 21 rfl),KD.ofInt X G (c.fact 22 rfl),KD.ofInt X G (c.fact 23 rfl),KD.ofInt X G (c.fact 24 rfl),KD.ofStr X G (c.fact 25 rfl),He.free_ok X G (c.fact 26 rfl),He.free_ok X G (c.fact 27 rfl),He.free_ok X G (c.fact 28 rfl),He.free_ok X G (c.fact 29 rfl),He.free_ok X G (c.fact 30 rfl),He.free_ok X G (c.fact 31 rfl),He.free_ok X G (c.fact 32 rfl),He.free_ok X G (c.fact 33 rfl),He.free_ok X G (c.fact 34 rfl),He.free_ok X G (c.fact 35 rfl),He.free_ok X G (c.fact 36 rfl),He.free_ok X G (c.fact 37 rfl),He.free_ok X G (c.fact 38 rfl),He.free_ok X G (c.fact 39 rfl)⟩
 have e:=hfa.symm.trans T.law.mgx
 cases e
 refine ⟨T.law.fd,fun s v=>?_,fun base _ _=>ok_law (g:=gS K cs w) T 100⟩
 exact FunD.bindsA (ps:=["_law_script"]) T.law.fn (fun _ _ _ _ _ _ us hl=>match us,hl with | [_],_=>rfl) s [v] rfl
end K01.Hd
open PySem PySem.W PySem.Calls PyProof.Rows
set_option maxHeartbeats 0 in
theorem PySem.Challenge.cw_mendedruns_k01_values_keys_and_names_holds : PySem.Challenge.rw_mendedruns_k01_values_keys_and_names.Holds := by
 refine K01.Hd.lnk.2 ?_
 unfold K01.Hd.lnk
 refine VL.walk_ofEB (l:=PySem.Challenge.rw_mendedruns_k01_values_keys_and_names) (n:=63) (k:=100) (x := "_law_script") (CX:=fun w=>L2.CX (PySem.Challenge.rw_mendedruns_k01_values_keys_and_names).prog w) rfl (by decide) (by kernel_rfl) ⟨rfl,by decide,by decide⟩ ?F (fun w H s e s' z=>VL.noCX _ w H s e s' z)
 intro w mg fa h Y G hmg0
 obtain ⟨K,KX,c⟩:=Y
 have hmg:mg ("law" : PySem.Str)=some (.ref fa):=by
  have e:(HandSHeadRun.topDef (OpenLaw.row PySem.Challenge.rw_mendedruns_k01_values_keys_and_names).prog 27).name=("law" : PySem.Str):=by kernel_rfl
  rw [← e]
  exact hmg0
 obtain ⟨fd,hb,hF⟩:=K01.Hd.facts (P:=(PySem.Challenge.rw_mendedruns_k01_values_keys_and_names).prog) (w:=w) KX G hmg c
 exact ⟨K,fd,_,KX,hb,fun H a ns hl hbb hO hS=>VL.law_sp K01.law_ok K K01.Hd.cs H a ns hl hbb hO hS _,hF⟩
