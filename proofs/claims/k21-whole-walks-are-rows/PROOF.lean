import PyProof.Rows.All
import Wide.All
import OpenK.AllK
import Wide.FinOn
import HandS.ForMost
import HandS.Wide
import HandS.Exc
import HandS.Lambda
import HandS.TupAny
import HandS.IsInst
import HandS.Zip
import HandS.Rev
import HandS.RevRange
import HandS.Codes
import HandS.Deep
import HandS.Strs
import HandS.Defaults
import HandS.Replace
import HandS.Style
import HandS.Flt
import HandS.FStr
import HandS.Text
import PyProof.StrOps2
import PyProof.FitsStr
import KE.GoesNew
import KE.GoesMore
import KE.GoesEnumKw
import HandS.TupMul
import HandS.Flow
import KE.IntTextLaws
import HandS.TupLe
import KE.KDictDisplayH
import HandS.SetFor
import HandS.WideBits
import HandS.TupSets
import HandS.SetKeys
import HandS.SortKw
import PyProof.MinMaxWalk
import PyProof.WalkInts
import HandS.Walk
import HandS.Set
import KE.KDictPairs
import HandS.WordsDict
import PySem.Challenge.RW_heaploom_k21_whole_walks_are_rows
set_option Elab.async false
set_option linter.all false
set_option maxRecDepth 100000
set_option maxHeartbeats 4000000
set_option autoImplicit false
namespace Mir
open PySem PySem.Spec PyProof.Rows L2
abbrev SL:=L2.St
theorem nr {α:Sort _} {a b:α} (h:a=b):a=b:=h
inductive D where
 | non | bl (b:Bool) | int (i:Int) | str (x:Str) | tup (ds:List D) | lst (ds:List D) | scr (ds:List D) | ref (i:Nat) | fn (x:Str)
inductive Cell where
 | lst (ds:List D) | dK (kvs:List (Key×D)) | dT (kvs:List (List Int×D)) | ins (c:Str) (fs:List (Str×D)) | dKz (kvs:List (Key×D)) | dTz (kvs:List (List Int×D)) | exc (c:Str) (fs:List (Str×D)) | tab (x q:Str) | dX (hs:Str→Int) (kvs:List (List Key×D))
abbrev Mem:=List Cell
abbrev au:=List (Option D)
structure Exn where
 cls:Str
 fs:List (Str×D)
inductive R (α:Type) where
 | ok (a:α) (m:Mem) | exc (x:Exn) (m:Mem) | stk
def R.bind {α β:Type} (r:R α) (f:α→Mem→R β):R β:=match r with
 | .ok a m=>f a m
 | .exc x m=>.exc x m
 | .stk=>.stk
@[simp] theorem bV {α β:Type} (a:α) (m:Mem) (f:α→Mem→R β):(R.ok a m).bind f=f a m:=nr rfl
@[simp] theorem A2 {α β:Type} (x:Exn) (m:Mem) (f:α→Mem→R β):(R.exc x m:R α).bind f=.exc x m:=nr rfl
@[simp] theorem Bi {α β:Type} (f:α→Mem→R β):(R.stk:R α).bind f=.stk:=nr rfl
structure Wd where
 i:List Addr
 z:List Addr
def LIm (K:PySem.W.Frag) (W:Wd) (H:Hp) (a:Addr) (xs:List V):Prop:=
 (Rd H a (.lst xs)∧a∉W.i∧a∉W.z)∨
  ∃ (o:Obj) (its:Array Value) (n:Nat),K.lookup a=some o∧o.cls=.type "list"∧o.dict=none∧o.data=.seq its n∧its.size≤sizeLine∧Vals xs its.toList
theorem LIm.sq {K:PySem.W.Frag} {W:Wd} {H:Hp} {a:Addr} {xs:List V} (h:LIm K W H a xs):SqL K H a xs:=by
 rcases h with h | h
 ·exact .inl h.1
 ·exact .inr h
def SqF (K:PySem.W.Frag) (H:Hp) (a:Addr) (xs:List V):Prop:=
 (∃ o,H a=some (.frz o (.tup xs))∧o.dict=none∧o.cls=.type "tuple")∨
  ∃ (o:Obj) (its:Array Value) (n:Nat),K.lookup a=some o∧o.cls=.type "tuple"∧o.dict=none∧o.data=.seq its n∧its.size≤sizeLine∧Vals xs its.toList
theorem SqF.t {K:PySem.W.Frag} {H:Hp} {a:Addr} {xs:List V} (h:SqF K H a xs):SqT K H a xs:=by
 rcases h with ⟨o,h,_⟩ | ⟨o,its,n,h1,h2,_,h3⟩
 ·exact .inl (.inr ⟨o,h⟩)
 ·exact .inr ⟨o,its,n,h1,h2,h3⟩
mutual
def Rep (K:PySem.W.Frag) (W:Wd) (H:Hp):D→V→Prop
 | .non,v=>v=.non
 | .bl b,v=>v=.bl b
 | .int i,v=>v=.int i
 | .str x,v=>v=.str x
 | .tup ds,v=>∃ a vs,v=.ref a∧SqF K H a vs∧Reps K W H ds vs
 | .lst ds,v=>∃ a vs,v=.ref a∧(H a=some (.lst vs)∧a∉W.i∧a∉W.z)∧Reps K W H ds vs
 | .scr ds,v=>∃ a vs,v=.ref a∧LIm K W H a vs∧Reps K W H ds vs
 | .ref i,v=>∃ a,v=.ref a∧W.i[i]?=some a
 | .fn x,v=>∃ f,v=.ref f∧PySem.W.nsIn K mainGlobals x=some (some (.ref f))
def Reps (K:PySem.W.Frag) (W:Wd) (H:Hp):List D→List V→Prop
 | [],vs=>vs=[]
 | d ::ds,vs=>∃ v r,vs=v ::r∧Rep K W H d v∧Reps K W H ds r
end
def mY:HO→Bool
 | .tup _=>true
 | .frz _ _=>true
 | _=>false
structure Ext (W:Wd) (H:Hp) (W':Wd) (H':Hp):Prop where
 z:W'.z=W.z
 pre:∃ t,W'.i=W.i++t
 new:∀ a∈W'.i,a∉W.i→H a=none∧a∉W.z
 keep:∀ a o,H a=some o→(mY o=true∨a∉W.i)→H' a=some o
theorem Ext.refl (W:Wd) (H:Hp):Ext W H W H:=⟨rfl,⟨[],by simp⟩,fun a h n=>absurd h n,fun _ _ h _=>h⟩
theorem Ext.trans {W W1 W2:Wd} {H H1 H2:Hp} (a:Ext W H W1 H1) (b:Ext W1 H1 W2 H2):Ext W H W2 H2:=by
 obtain ⟨t1,e1⟩:=a.pre
 obtain ⟨t2,e2⟩:=b.pre
 refine ⟨b.z.trans a.z,⟨t1++t2,by rw [e2,e1,List.append_assoc]⟩,fun x hx hn=>?_,fun x o h k=>?_⟩
 ·by_cases h1:x∈W1.i
  ·exact a.new x h1 hn
  ·have q:=b.new x hx h1
   have hz:x∉W.z:=by rw [←a.z]; exact q.2
   refine ⟨?_,hz⟩
   cases hh:H x with
   | none=>rfl
   | some o=>
    have:=a.keep x o hh (.inr hn)
    rw [q.1] at this
    cases this
 ·have h1:=a.keep x o h k
  refine b.keep x o h1 ?_
  rcases k with k | k1
  ·exact .inl k
  ·refine .inr fun hx=>?_
   have:=(a.new x hx k1).1
   rw [this] at h
   cases h
theorem Ext.sqF {K:PySem.W.Frag} {W W':Wd} {H H':Hp} (e:Ext W H W' H') {a:Addr} {vs:List V} (h:SqF K H a vs):SqF K H' a vs:=by
 rcases h with ⟨o,h,k⟩ | h
 ·exact .inl ⟨o,e.keep _ _ h (.inl rfl),k⟩
 ·exact .inr h
theorem Ext.lim {K:PySem.W.Frag} {W W':Wd} {H H':Hp} (e:Ext W H W' H') {a:Addr} {vs:List V} (h:LIm K W H a vs):LIm K W' H' a vs:=by
 rcases h with ⟨h,k1,k2⟩ | h
 ·have hs:∃ o,H a=some o:=by
   rcases h with h | ⟨o,h⟩
   ·exact ⟨_,h⟩
   ·exact ⟨_,h⟩
  obtain ⟨o,ho⟩:=hs
  refine .inl ⟨?_,fun hx=>?_,by rw [e.z]; exact k2⟩
  ·rcases h with h | ⟨o,h⟩
   ·exact .inl (e.keep _ _ h (.inr k1))
   ·exact .inr ⟨o,e.keep _ _ h (.inl rfl)⟩
  ·have:=(e.new a hx k1).1
   rw [this] at ho
   cases ho
 ·exact .inr h
theorem Ext.lims {W W':Wd} {H H':Hp} (e:Ext W H W' H') {a:Addr} {o:HO} (h:H a=some o∧a∉W.i∧a∉W.z):H' a=some o∧a∉W'.i∧a∉W'.z:=
 ⟨e.keep a o h.1 (.inr h.2.1),(fun hx=>by
  have:=(e.new a hx h.2.1).1
  rw [h.1] at this
  cases this),by rw [e.z]; exact h.2.2⟩
mutual
theorem Rep.ext {K:PySem.W.Frag} {W W':Wd} {H H':Hp} (e:Ext W H W' H'):∀ {d:D} {v:V},Rep K W H d v→Rep K W' H' d v
 | .non,v,h=>by unfold Rep at h ⊢; exact h
 | .bl b,v,h=>by unfold Rep at h ⊢; exact h
 | .int i,v,h=>by unfold Rep at h ⊢; exact h
 | .str x,v,h=>by unfold Rep at h ⊢; exact h
 | .tup ds,v,h=>by
  unfold Rep at h ⊢
  obtain ⟨a,vs,e1,e2,e3⟩:=h
  exact ⟨a,vs,e1,e.sqF e2,Reps.ext e e3⟩
 | .lst ds,v,h=>by
  unfold Rep at h ⊢
  obtain ⟨a,vs,e1,e2,e3⟩:=h
  exact ⟨a,vs,e1,e.lims e2,Reps.ext e e3⟩
 | .scr ds,v,h=>by
  unfold Rep at h ⊢
  obtain ⟨a,vs,e1,e2,e3⟩:=h
  exact ⟨a,vs,e1,e.lim e2,Reps.ext e e3⟩
 | .ref i,v,h=>by
  unfold Rep at h ⊢
  obtain ⟨a,e1,e2⟩:=h
  obtain ⟨t,et⟩:=e.pre
  refine ⟨a,e1,?_⟩
  rw [et,List.getElem?_append_left (List.getElem?_eq_some_iff.mp e2).1]
  exact e2
 | .fn x,v,h=>by unfold Rep at h ⊢; exact h
theorem Reps.ext {K:PySem.W.Frag} {W W':Wd} {H H':Hp} (e:Ext W H W' H'):∀ {ds:List D} {vs:List V},Reps K W H ds vs→Reps K W' H' ds vs
 | [],vs,h=>by unfold Reps at h ⊢; exact h
 | d ::ds,vs,h=>by
  unfold Reps at h ⊢
  obtain ⟨v,r,e1,e2,e3⟩:=h
  exact ⟨v,r,e1,Rep.ext e e2,Reps.ext e e3⟩
end
section
variable {K:PySem.W.Frag} {W:Wd} {H:Hp}
theorem nh:Rep K W H .non .non:=by unfold Rep; rfl
theorem bf {b:Bool}:Rep K W H (.bl b) (.bl b):=by unfold Rep; rfl
theorem bw {i:Int}:Rep K W H (.int i) (.int i):=by unfold Rep; rfl
theorem cW {x:Str}:Rep K W H (.str x) (.str x):=by unfold Rep; rfl
theorem bN:Reps K W H [] []:=by unfold Reps; rfl
theorem bB {d:D} {ds:List D} {v:V} {vs:List V} (h:Rep K W H d v) (t:Reps K W H ds vs):Reps K W H (d ::ds) (v ::vs):=by unfold Reps; exact ⟨v,vs,rfl,h,t⟩
theorem iq {a:Addr} {vs:List V} {ds:List D} (h:SqF K H a vs) (r:Reps K W H ds vs):Rep K W H (.tup ds) (.ref a):=by unfold Rep; exact ⟨a,vs,rfl,h,r⟩
theorem yg {a:Addr} {vs:List V} {ds:List D} (h:LIm K W H a vs) (r:Reps K W H ds vs):Rep K W H (.scr ds) (.ref a):=by unfold Rep; exact ⟨a,vs,rfl,h,r⟩
theorem Rep.scr' {ds:List D} {v:V} (h:Rep K W H (.scr ds) v):∃ a vs,v=.ref a∧LIm K W H a vs∧Reps K W H ds vs:=by unfold Rep at h; exact h
theorem uw {a:Addr} {vs:List V} {ds:List D} (h:H a=some (.lst vs)∧a∉W.i∧a∉W.z) (r:Reps K W H ds vs):Rep K W H (.lst ds) (.ref a):=by unfold Rep; exact ⟨a,vs,rfl,h,r⟩
theorem nj {a:Addr} {i:Nat} (h:W.i[i]?=some a):Rep K W H (.ref i) (.ref a):=by unfold Rep; exact ⟨a,rfl,h⟩
theorem Rep.non' {v:V} (h:Rep K W H .non v):v=.non:=by unfold Rep at h; exact h
theorem Rep.bl' {b:Bool} {v:V} (h:Rep K W H (.bl b) v):v=.bl b:=by unfold Rep at h; exact h
theorem Rep.int' {i:Int} {v:V} (h:Rep K W H (.int i) v):v=.int i:=by unfold Rep at h; exact h
theorem Rep.str' {x:Str} {v:V} (h:Rep K W H (.str x) v):v=.str x:=by unfold Rep at h; exact h
theorem Rep.tupF' {ds:List D} {v:V} (h:Rep K W H (.tup ds) v):∃ a vs,v=.ref a∧SqF K H a vs∧Reps K W H ds vs:=by unfold Rep at h; exact h
theorem Rep.tup' {ds:List D} {v:V} (h:Rep K W H (.tup ds) v):∃ a vs,v=.ref a∧SqT K H a vs∧Reps K W H ds vs:=let ⟨a,vs,e1,e2,e3⟩:=h.tupF'; ⟨a,vs,e1,e2.t,e3⟩
theorem Rep.lst' {ds:List D} {v:V} (h:Rep K W H (.lst ds) v):∃ a vs,v=.ref a∧(H a=some (.lst vs)∧a∉W.i∧a∉W.z)∧Reps K W H ds vs:=by unfold Rep at h; exact h
theorem Rep.ref' {i:Nat} {v:V} (h:Rep K W H (.ref i) v):∃ a,v=.ref a∧W.i[i]?=some a:=by unfold Rep at h; exact h
theorem Rep.fn' {x:Str} {v:V} (h:Rep K W H (.fn x) v):∃ f,v=.ref f∧PySem.W.nsIn K mainGlobals x=some (some (.ref f)):=by unfold Rep at h; exact h
theorem Reps.nil' {vs:List V} (h:Reps K W H [] vs):vs=[]:=by unfold Reps at h; exact h
theorem Reps.cons' {d:D} {ds:List D} {vs:List V} (h:Reps K W H (d ::ds) vs):∃ v r,vs=v ::r∧Rep K W H d v∧Reps K W H ds r:=by unfold Reps at h; exact h
theorem Reps.length:∀ {ds:List D} {vs:List V},Reps K W H ds vs→vs.length=ds.length
 | [],vs,h=>by rw [h.nil']; rfl
 | d ::ds,vs,h=>by
  obtain ⟨v,r,rfl,_,h3⟩:=h.cons'
  rw [List.length_cons,List.length_cons,Reps.length h3]
theorem Reps.get:∀ {ds:List D} {vs:List V} {i:Nat} {d:D},Reps K W H ds vs→ds[i]?=some d→∃ v,vs[i]?=some v∧Rep K W H d v
 | [],vs,i,d,h,e=>by simp at e
 | x ::ds,vs,0,d,h,e=>by
  obtain ⟨v,r,rfl,h2,h3⟩:=h.cons'
  simp at e
  subst e
  exact ⟨v,rfl,h2⟩
 | x ::ds,vs,i+1,d,h,e=>by
  obtain ⟨v,r,rfl,h2,h3⟩:=h.cons'
  obtain ⟨u,e1,e2⟩:=Reps.get (i:=i) h3 (by simpa using e)
  exact ⟨u,by simpa using e1,e2⟩
theorem Reps.append:∀ {ds es:List D} {vs us:List V},Reps K W H ds vs→Reps K W H es us→Reps K W H (ds++es) (vs++us)
 | [],es,vs,us,h,k=>by rw [h.nil']; exact k
 | d ::ds,es,vs,us,h,k=>by
  obtain ⟨v,r,rfl,h2,h3⟩:=h.cons'
  exact bB h2 (Reps.append h3 k)
theorem fE {d:D} {v:V} (h:Rep K W H d v):Reps K W H [d] [v]:=bB h bN
theorem Reps.take:∀ {ds:List D} {vs:List V} (n:Nat),Reps K W H ds vs→Reps K W H (ds.take n) (vs.take n)
 | _,_,0,_=>by simpa using bN
 | [],vs,n+1,h=>by rw [h.nil']; simpa using bN
 | d ::ds,vs,n+1,h=>by
  obtain ⟨v,r,rfl,h2,h3⟩:=h.cons'
  exact bB h2 (Reps.take n h3)
theorem Reps.drop:∀ {ds:List D} {vs:List V} (n:Nat),Reps K W H ds vs→Reps K W H (ds.drop n) (vs.drop n)
 | _,_,0,h=>by simpa using h
 | [],vs,n+1,h=>by rw [h.nil']; simpa using bN
 | d ::ds,vs,n+1,h=>by
  obtain ⟨v,r,rfl,h2,h3⟩:=h.cons'
  exact Reps.drop n h3
theorem Reps.set:∀ {ds:List D} {vs:List V} {d:D} {v:V} (n:Nat),Reps K W H ds vs→Rep K W H d v→Reps K W H (ds.set n d) (vs.set n v)
 | [],vs,d,v,n,h,k=>by rw [h.nil']; simpa using bN
 | x ::ds,vs,d,v,0,h,k=>by
  obtain ⟨u,r,rfl,h2,h3⟩:=h.cons'
  exact bB k h3
 | x ::ds,vs,d,v,n+1,h,k=>by
  obtain ⟨u,r,rfl,h2,h3⟩:=h.cons'
  exact bB h2 (Reps.set n h3 k)
theorem qp:∀ ns:List Int,Reps K W H (ns.map D.int) (ns.map V.int)
 | []=>bN
 | n ::ns=>bB bw (qp ns)
end
def xb (x:List Int×Addr×Value):DictEntry:=⟨reduceHash (Builtin.Tuple.tupleHashOf (x.1.map hashInt)),.ref x.2.1,x.2.2⟩
def d8 (a:Addr) (kvs:List (List Int×Addr×V)):HO:=.ext fun h=>kvs.length≤sizeLine∧(a ==sysModules)=false∧∃ xs:List (List Int×Addr×Value),
 Paired (fun (p:List Int×Addr×V) (q:List Int×Addr×Value)=>p.1=q.1∧p.2.1=q.2.1∧RelV p.2.2 q.2.2) kvs xs∧
 ∃ o es ep,h.get? a=some o∧o.ExactDict∧o.data=.dict es ep∧es.toList=xs.map xb∧(xs.map (·.1)).Nodup
def Ai (hs:Str→Int):Key→Int
 | .inl i=>hashInt i
 | .inr x=>hs x
def entX (hs:Str→Int) (x:List Key×Addr×Value):DictEntry:=⟨reduceHash (Builtin.Tuple.tupleHashOf (x.1.map (Ai hs))),.ref x.2.1,x.2.2⟩
def Ar (hs:Str→Int) (a:Addr) (kvs:List (List Key×Addr×V)):HO:=.ext fun h=>kvs.length≤sizeLine∧(a ==sysModules)=false∧∃ xs:List (List Key×Addr×Value),
 Paired (fun (p:List Key×Addr×V) (q:List Key×Addr×Value)=>p.1=q.1∧p.2.1=q.2.1∧RelV p.2.2 q.2.2) kvs xs∧
 ∃ o es ep,h.get? a=some o∧o.ExactDict∧o.data=.dict es ep∧es.toList=xs.map (entX hs)∧(xs.map (·.1)).Nodup
def ExH (C:Value) (o:Option Addr) (a:Addr):HO:=.ext fun h=>∃ (oe:Obj) (vs:Array Value),h.get? a=some oe∧Zc C o oe∧oe.data=.fields vs
def XFs (K:PySem.W.Frag) (W:Wd) (H:Hp) (fs:List (Str×D)) (o:Option Addr):Prop:=
 (fs=[]∧o=none)∨∃ d gs,o=some d∧(H d=some (.xd gs)∧d∉W.i∧d∉W.z)∧gs.map (·.1)=fs.map (·.1)∧Reps K W H (fs.map (·.2)) (gs.map (·.2))
theorem XFs.ext {K:PySem.W.Frag} {W W':Wd} {H H':Hp} {fs:List (Str×D)} {o:Option Addr} (e:Ext W H W' H') (h:XFs K W H fs o):XFs K W' H' fs o:=by
 rcases h with h | ⟨d,gs,e1,e2,e3,e4⟩
 ·exact .inl h
 ·exact .inr ⟨d,gs,e1,e.lims e2,e3,e4.ext e⟩
def TabK (K:PySem.W.Frag) (x:Str) (a:Addr):Prop:=∃ (f c:Addr) (fo oc:Obj) (fd:FuncData) (us:Array Value),PySem.W.nsIn K mainGlobals x=some (some (.ref f))∧K.lookup f=some fo∧fo.data=.func fd∧fd.code=.ref c∧K.lookup c=some oc∧oc.data=.fields us∧us[11]?=some (.ref a)
def TabAt (K:PySem.W.Frag) (W:Wd) (H:Hp) (x q:Str) (a:Addr):Prop:=∃ ps:Array Value,H a=some (.tbl ps)∧TriplesOk ps.toList∧TabK K x a∧
 ∀ (pos:Pos) (cv:Value),codeAmong pos ps.toList=some cv→∃ c,cv=.ref c∧(H c=some (LamX.CodeO c q)∧c∉W.i∧c∉W.z)
section
variable (K:PySem.W.Frag) (mg:Str→Option Value)
def CellOk (W:Wd) (H:Hp) (a:Addr):Cell→Prop
 | .lst ds=>∃ vs,H a=some (.lst vs)∧Reps K W H ds vs
 | .dK kvs=>∃ kvs',H a=some (.dK kvs')∧kvs'.map (·.1)=kvs.map (·.1)∧Reps K W H (kvs.map (·.2)) (kvs'.map (·.2))
 | .dT kvs=>∃ kvs',H a=some (d8 a kvs')∧kvs'.map (·.1)=kvs.map (·.1)∧(∀ x∈kvs',SqF K H x.2.1 (x.1.map V.int))∧Reps K W H (kvs.map (·.2)) (kvs'.map (·.2.2))
 | .ins c fs=>∃ C dx fs',mg c=some (.ref C)∧H a=some (.ins C dx fs')∧fs'.map (·.1)=fs.map (·.1)∧Reps K W H (fs.map (·.2)) (fs'.map (·.2))
 | .dKz kvs=>∃ o kvs',H a=some (.frz o (.dK kvs'))∧kvs'.map (·.1)=kvs.map (·.1)∧Reps K W H (kvs.map (·.2)) (kvs'.map (·.2))
 | .dTz kvs=>∃ o kvs',H a=some (.frz o (d8 a kvs'))∧kvs'.map (·.1)=kvs.map (·.1)∧(∀ x∈kvs',SqF K H x.2.1 (x.1.map V.int))∧Reps K W H (kvs.map (·.2)) (kvs'.map (·.2.2))
 | .exc c fs=>∃ C o,mg c=some C∧H a=some (ExH C o a)∧XFs K W H fs o
 | .tab x q=>TabAt K W H x q a
 | .dX hs kvs=>∃ kvs',H a=some (Ar hs a kvs')∧kvs'.map (·.1)=kvs.map (·.1)∧(∀ x∈kvs',SqF K H x.2.1 (x.1.map kV))∧Reps K W H (kvs.map (·.2)) (kvs'.map (·.2.2))
structure Sim (W:Wd) (H:Hp) (m:Mem):Prop where
 nd:W.i.Nodup
 len:W.i.length=m.length
 cell:∀ (i:Nat) (a:Addr) (c:Cell),W.i[i]?=some a→m[i]?=some c→CellOk K mg W H a c
 sep:∀ a∈W.i,a∉W.z
 zs:∀ a∈W.z,∃ o,H a=some o
theorem jS {H:Hp} {p a:Addr} {o:HO} (h:∃ u,H a=some u):∃ u,upd H p o a=some u:=by
 by_cases e:a=p
 ·subst e; exact ⟨_,upd_same⟩
 ·rw [upd_ne e]; exact h
def REnv (W:Wd) (H:Hp) (η:au) (σ:SL):Prop:=η.length=σ.length∧∀ (i:Nat) (d:D),η[i]?=some (some d)→∃ v,σ[i]?=some (some v)∧Rep K W H d v
end
section
variable {K:PySem.W.Frag} {mg:Str→Option Value} {W W':Wd} {H H':Hp} {m:Mem}
theorem CellOk.mut {a:Addr} {c:Cell} (h:CellOk K mg W H a c):∃ o,H a=some o∧True:=by
 cases c with
 | lst ds=>obtain ⟨vs,e,_⟩:=h; exact ⟨_,e,trivial⟩
 | dK kvs=>obtain ⟨vs,e,_⟩:=h; exact ⟨_,e,trivial⟩
 | dT kvs=>obtain ⟨vs,e,_⟩:=h; exact ⟨_,e,trivial⟩
 | ins c fs=>obtain ⟨_,_,_,_,e,_⟩:=h; exact ⟨_,e,trivial⟩
 | dKz kvs=>obtain ⟨_,_,e,_⟩:=h; exact ⟨_,e,trivial⟩
 | dTz kvs=>obtain ⟨_,_,e,_⟩:=h; exact ⟨_,e,trivial⟩
 | exc c fs=>obtain ⟨_,_,_,e,_⟩:=h; exact ⟨_,e,trivial⟩
 | tab x q=>obtain ⟨_,e,_⟩:=h; exact ⟨_,e,trivial⟩
 | dX hs kvs=>obtain ⟨vs,e,_⟩:=h; exact ⟨_,e,trivial⟩
theorem Sim.at (s:Sim K mg W H m) {a:Addr} (h:a∈W.i):∃ o,H a=some o∧True:=by
 obtain ⟨i,hi,e⟩:=List.mem_iff_getElem.mp h
 have hm:i < m.length:=by rw [←s.len]; exact hi
 exact (s.cell i a m[i] (by rw [←e]; exact List.getElem?_eq_getElem hi) (List.getElem?_eq_getElem hm)).mut
theorem CellOk.ext {a:Addr} {c:Cell} (e:Ext W H W' H') (ha:H' a=H a) (h:CellOk K mg W H a c):CellOk K mg W' H' a c:=by
 cases c with
 | lst ds=>obtain ⟨vs,e1,e2⟩:=h; exact ⟨vs,ha.trans e1,e2.ext e⟩
 | dK kvs=>obtain ⟨vs,e1,e2,e3⟩:=h; exact ⟨vs,ha.trans e1,e2,e3.ext e⟩
 | dT kvs=>obtain ⟨vs,e1,e2,e3,e4⟩:=h; exact ⟨vs,ha.trans e1,e2,fun x hx=>e.sqF (e3 x hx),e4.ext e⟩
 | ins c fs=>obtain ⟨C,dx,fs',e0,e1,e2,e3⟩:=h; exact ⟨C,dx,fs',e0,ha.trans e1,e2,e3.ext e⟩
 | dKz kvs=>obtain ⟨o,vs,e1,e2,e3⟩:=h; exact ⟨o,vs,ha.trans e1,e2,e3.ext e⟩
 | dTz kvs=>obtain ⟨o,vs,e1,e2,e3,e4⟩:=h; exact ⟨o,vs,ha.trans e1,e2,fun x hx=>e.sqF (e3 x hx),e4.ext e⟩
 | exc c fs=>obtain ⟨C,o,e0,e1,e2⟩:=h; exact ⟨C,o,e0,ha.trans e1,e2.ext e⟩
 | tab x q=>obtain ⟨ps,e1,e2,e3,e4⟩:=h; exact ⟨ps,ha.trans e1,e2,e3,fun pos cv hc=>let ⟨c,z1,z2⟩:=e4 pos cv hc; ⟨c,z1,e.lims z2⟩⟩
 | dX hs kvs=>obtain ⟨vs,e1,e2,e3,e4⟩:=h; exact ⟨vs,ha.trans e1,e2,fun x hx=>e.sqF (e3 x hx),e4.ext e⟩
theorem Ext.fresh {p:Addr} {o:HO} (h:H p=none):Ext W H W (upd H p o):=
 ⟨rfl,⟨[],by simp⟩,fun a h n=>absurd h n,fun a u e _=>by rw [upd_ne (ne_of_none e h)]; exact e⟩
theorem Sim.fresh (s:Sim K mg W H m) {p:Addr} {o:HO} (h:H p=none):Sim K mg W (upd H p o) m:=
 ⟨s.nd,s.len,fun i a c e1 e2=>(s.cell i a c e1 e2).ext (Ext.fresh h) (by
  obtain ⟨u,e,_⟩:=(s.cell i a c e1 e2).mut
  exact upd_ne (ne_of_none e h)),s.sep,fun a ha=>jS (s.zs a ha)⟩
theorem Sim.nin (s:Sim K mg W H m) {p:Addr} (h:H p=none):p∉W.i:=fun hp=>by
 obtain ⟨o,e,_⟩:=s.at hp
 rw [h] at e
 cases e
theorem Sim.ninz (s:Sim K mg W H m) {p:Addr} (h:H p=none):p∉W.z:=fun hp=>by
 obtain ⟨o,e⟩:=s.zs p hp
 rw [h] at e
 cases e
def Wd.add (W:Wd) (p:Addr):Wd:=⟨W.i++[p],W.z⟩
theorem Ext.alloc {p:Addr} {o:HO} (h:H p=none) (hz:p∉W.z):Ext W H (W.add p) (upd H p o):=
 ⟨rfl,⟨[p],rfl⟩,fun a h' n=>by
  have:a=p:=by
   rcases List.mem_append.mp h' with q | q
   ·exact absurd q n
   ·simpa using q
  subst this
  exact ⟨h,hz⟩,fun a u e _=>by rw [upd_ne (ne_of_none e h)]; exact e⟩
theorem Sim.alloc (s:Sim K mg W H m) {p:Addr} {o:HO} {c:Cell} (h:H p=none) (hc:CellOk K mg (W.add p) (upd H p o) p c):Sim K mg (W.add p) (upd H p o) (m++[c]):=by
 have hz:=s.ninz h
 refine ⟨?_,?_,fun i a c' e1 e2=>?_,fun a ha=>?_,fun a ha=>jS (s.zs a ha)⟩
 ·refine List.nodup_append.mpr ⟨s.nd,by simp,fun a ha b hb=>?_⟩
  rintro rfl
  have:a=p:=by simpa using hb
  subst this
  exact s.nin h ha
 ·show (W.i++[p]).length=_
  rw [List.length_append,List.length_append,s.len]
  rfl
 ·have e1:(W.i++[p])[i]?=some a:=e1
  by_cases hi:i < W.i.length
  ·rw [List.getElem?_append_left hi] at e1
   rw [List.getElem?_append_left (by rw [←s.len]; exact hi)] at e2
   have k:=s.cell i a c' e1 e2
   obtain ⟨u,e,_⟩:=k.mut
   exact k.ext (Ext.alloc h hz) (upd_ne (ne_of_none e h))
  ·have hi':i=W.i.length:=by
    have:=(List.getElem?_eq_some_iff.mp e1).1
    rw [List.length_append] at this
    simp at this
    omega
   subst hi'
   rw [List.getElem?_append_right (Nat.le_refl _),Nat.sub_self] at e1
   rw [s.len,List.getElem?_append_right (Nat.le_refl _),Nat.sub_self] at e2
   simp at e1 e2
   subst e1
   subst e2
   exact hc
 ·rcases List.mem_append.mp ha with q | q
  ·exact s.sep a q
  ·have:a=p:=by simpa using q
   subst this
   exact hz
theorem Ext.mut {a:Addr} {o o':HO} (ha:a∈W.i) (h:H a=some o) (hi:mY o=false):Ext W H W (upd H a o'):=
 ⟨rfl,⟨[],by simp⟩,fun a h n=>absurd h n,fun b u e k=>by
  have:b≠a:=by
   rintro rfl
   rcases k with k | k
   ·rw [h] at e
    cases e
    rw [hi] at k
    cases k
   ·exact k ha
  rw [upd_ne this]
  exact e⟩
theorem Sim.mut (s:Sim K mg W H m) {i:Nat} {a:Addr} {o':HO} {c:Cell} (hi:W.i[i]?=some a) (hc:CellOk K mg W (upd H a o') a c) (hq:∃ o,H a=some o∧mY o=false:=by exact ⟨_,by assumption,rfl⟩):Sim K mg W (upd H a o') (m.set i c):=by
 have ha:a∈W.i:=List.mem_of_getElem? hi
 obtain ⟨o,ho,hm⟩:=hq
 refine ⟨s.nd,by rw [List.length_set]; exact s.len,fun j b c' e1 e2=>?_,s.sep,fun a ha=>jS (s.zs a ha)⟩
 by_cases hj:j=i
 ·subst hj
  rw [hi] at e1
  cases e1
  have hl:j < m.length:=by
   rw [←s.len]
   exact (List.getElem?_eq_some_iff.mp hi).1
  rw [List.getElem?_set_self hl] at e2
  cases e2
  exact hc
 ·rw [List.getElem?_set_ne (Ne.symm hj)] at e2
  have hb:b≠a:=by
   rintro rfl
   exact hj ((List.getElem?_inj (List.getElem?_eq_some_iff.mp e1).1 s.nd).mp (e1.trans hi.symm))
  exact (s.cell j b c' e1 e2).ext (Ext.mut ha ho hm) (upd_ne hb)
theorem REnv.ext {η:au} {σ:SL} (e:Ext W H W' H') (h:REnv K W H η σ):REnv K W' H' η σ:=
 ⟨h.1,fun i d q=>let ⟨v,a,b⟩:=h.2 i d q; ⟨v,a,b.ext e⟩⟩
theorem REnv.set {η:au} {σ:SL} {i:Nat} {d:D} {v:V} (h:REnv K W H η σ) (r:Rep K W H d v):REnv K W H (η.set i (some d)) (σ.set i (some v)):=by
 refine ⟨by rw [List.length_set,List.length_set]; exact h.1,fun j d' q=>?_⟩
 by_cases hj:i=j
 ·subst hj
  have hl:=(List.getElem?_eq_some_iff.mp q).1
  rw [List.length_set] at hl
  rw [List.getElem?_set_self hl] at q
  cases q
  exact ⟨v,List.getElem?_set_self (by rw [←h.1]; exact hl),r⟩
 ·rw [List.getElem?_set_ne hj] at q
  obtain ⟨v',a,b⟩:=h.2 j d' q
  exact ⟨v',by rw [List.getElem?_set_ne hj]; exact a,b⟩
end
section
variable (K:PySem.W.Frag) (mg:Str→Option Value) (E:XK)
def ExR (x:Exn) (W:Wd) (H:Hp) (c:Value) (o:Option Addr):Prop:=mg x.cls=some c∧XFs K W H x.fs o
def Post {α β:Type} (Rl:Wd→Hp→α→β→Prop) (W:Wd) (H:Hp) (Q:β→Hp→Prop):R α→Prop
 | .ok a m=>∀ b W' H',Ext W H W' H'→Sim K mg W' H' m→Rl W' H' a b→Q b H'
 | .exc x m=>∀ c o W' H',Ext W H W' H'→Sim K mg W' H' m→ExR K mg x W' H' c o→E c o H'
 | .stk=>False
end
section
variable {K:PySem.W.Frag} {mg:Str→Option Value} {E:XK} {W W':Wd} {H H':Hp} {α β γ δ:Type} {Rl:Wd→Hp→α→β→Prop} {Rm:Wd→Hp→γ→δ→Prop}
theorem Post.ext {Q:β→Hp→Prop} {r:R α} (e:Ext W H W' H') (h:Post K mg E Rl W H Q r):Post K mg E Rl W' H' Q r:=by
 cases r with
 | ok a m=>exact fun b W2 H2 e2 s q=>h b W2 H2 (e.trans e2) s q
 | exc x m=>exact fun c o W2 H2 e2 s q=>h c o W2 H2 (e.trans e2) s q
 | stk=>exact h
theorem Post.imp {Q Q':β→Hp→Prop} {r:R α} (h:Post K mg E Rl W H Q r) (k:∀ b H',Q b H'→Q' b H'):Post K mg E Rl W H Q' r:=by
 cases r with
 | ok a m=>exact fun b W2 H2 e2 s q=>k _ _ (h b W2 H2 e2 s q)
 | exc x m=>exact h
 | stk=>exact h
theorem Post.bind {Q:δ→Hp→Prop} {r:R α} {f:α→Mem→R γ} (h:Post K mg E Rm W H Q (r.bind f)) :
  Post K mg E Rl W H (fun b H1=>∃ W1 a m1,Ext W H W1 H1∧Sim K mg W1 H1 m1∧Rl W1 H1 a b∧Post K mg E Rm W1 H1 Q (f a m1)) r:=by
 cases r with
 | ok a m=>exact fun b W2 H2 e2 s q=>⟨W2,a,m,e2,s,q,Post.ext e2 h⟩
 | exc x m=>exact h
 | stk=>exact h
theorem Post.now {Q:β→Hp→Prop} {a:α} {m:Mem} {b:β} (h:Post K mg E Rl W H Q (.ok a m)) (s:Sim K mg W H m) (r:Rl W H a b):Q b H:=h b W H (Ext.refl W H) s r
end
def mkL (al:Bool) (ds:List D) (m:Mem):R D:=match al with
 | true=>.ok (.ref m.length) (m++[.lst ds])
 | false=>.ok (.lst ds) m
section
variable {K:PySem.W.Frag} {mg:Str→Option Value} {E:XK} {W:Wd} {H:Hp} {m:Mem} {Q:VK} {ds:List D} {vs:List V} {p:Addr}
theorem Sim.newL {al:Bool} (s:Sim K mg W H m) (hp:H p=none) (r:Reps K W H ds vs) (h:Post K mg E (Rep K) W H Q (mkL al ds m)):Q (.ref p) (upd H p (.lst vs)):=by
 cases al with
 | false=>exact h _ W _ (Ext.fresh hp) (s.fresh hp) (uw ⟨upd_same,s.nin hp,s.ninz hp⟩ (r.ext (Ext.fresh hp)))
 | true=>
  have e:Ext W H (W.add p) (upd H p (.lst vs)):=Ext.alloc hp (s.ninz hp)
  refine h _ (W.add p) _ e (s.alloc hp ⟨vs,upd_same,r.ext e⟩) (nj ?_)
  show (W.i++[p])[m.length]?=some p
  rw [←s.len,List.getElem?_append_right (Nat.le_refl _),Nat.sub_self]
  rfl
theorem Sim.newT {o:Obj} (s:Sim K mg W H m) (hp:H p=none) (ho:o.dict=none∧o.cls=.type "tuple") (r:Reps K W H ds vs) (h:Post K mg E (Rep K) W H Q (.ok (.tup ds) m)):Q (.ref p) (upd H p (.frz o (.tup vs))):=
 h _ W _ (Ext.fresh hp) (s.fresh hp) (iq (.inl ⟨o,upd_same,ho⟩) (r.ext (Ext.fresh hp)))
end
def bW:Option Cell→Option (List D)
 | some (.lst ds)=>some ds
 | _=>none
def ba (m:Mem):D→Option (List D)
 | .lst ds=>some ds
 | .scr ds=>some ds
 | .ref i=>bW m[i]?
 | _=>none
def dD (m:Mem):D→Option (List D)
 | .lst ds=>some ds
 | .ref i=>bW m[i]?
 | _=>none
section
variable {K:PySem.W.Frag} {mg:Str→Option Value} {W:Wd} {H:Hp} {m:Mem} {d:D} {v:V} {ds:List D}
theorem Sim.own (s:Sim K mg W H m) (r:Rep K W H d v) (h:dD m d=some ds):∃ a vs,v=.ref a∧H a=some (.lst vs)∧Reps K W H ds vs:=by
 cases d with
 | lst xs=>
  cases h
  obtain ⟨a,vs,e1,e2,e3⟩:=r.lst'
  exact ⟨a,vs,e1,e2.1,e3⟩
 | ref i=>
  obtain ⟨a,e1,e2⟩:=r.ref'
  have h:bW m[i]?=some ds:=h
  cases hm:m[i]? with
  | none=>rw [hm] at h; cases h
  | some c=>
   rw [hm] at h
   cases c with
   | lst xs=>
    cases h
    obtain ⟨vs,q1,q2⟩:=s.cell i a _ e2 hm
    exact ⟨a,vs,e1,q1,q2⟩
   | _=>cases h
 | _=>cases h
theorem Sim.lst (s:Sim K mg W H m) (r:Rep K W H d v) (h:ba m d=some ds):∃ a vs,v=.ref a∧SqL K H a vs∧Reps K W H ds vs:=by
 cases d with
 | scr xs=>
  cases h
  obtain ⟨a,vs,e1,e2,e3⟩:=r.scr'
  exact ⟨a,vs,e1,e2.sq,e3⟩
 | lst xs=>
  obtain ⟨a,vs,e1,e2,e3⟩:=s.own r (ds:=ds) h
  exact ⟨a,vs,e1,.inl (.inl e2),e3⟩
 | ref i=>
  obtain ⟨a,vs,e1,e2,e3⟩:=s.own r (ds:=ds) h
  exact ⟨a,vs,e1,.inl (.inl e2),e3⟩
 | _=>cases h
end
def gH {α:Type} (_:Wd) (_:Hp) (a b:α):Prop:=a=b
section
variable (K:PySem.W.Frag) (mg:Str→Option Value) (E:XK)
def rd {α β:Type} (Rl:Wd→Hp→α→β→Prop) (c:au→Mem→R α):SL→Hp→(β→Hp→Prop)→Prop:=fun σ H Q=>
 ∃ W η m,Sim K mg W H m∧REnv K W H η σ∧Post K mg E Rl W H Q (c η m)
abbrev rdE (c:au→Mem→R D):TE:=rd K mg E (Rep K) c
abbrev rdA (c:au→Mem→R (List D)):TA:=rd K mg E (Reps K) c
abbrev rdT (c:au→Mem→R Bool):TT:=rd K mg E gH c
end
theorem _root_.L2.PE.imp {X:Cx} {e:Expr} {t t':TE} (h:PE X e t) (k:∀ σ H Q,t' σ H Q→t σ H Q):PE X e t':=⟨fun pins s σ H Q I q=>h.run pins s σ H Q I (k σ H Q q)⟩
theorem _root_.L2.PT.imp {X:Cx} {e:Expr} {t t':TT} (h:PT X e t) (k:∀ σ H Q,t' σ H Q→t σ H Q):PT X e t':=⟨fun pins s σ H Q I q=>h.run pins s σ H Q I (k σ H Q q)⟩
theorem _root_.L2.PW.imp {X:Cx} {e:Expr} {t t':TT} (h:PW X e t) (k:∀ σ H Q,t' σ H Q→t σ H Q):PW X e t':=⟨fun wh pins s σ H Q I q=>h.run wh pins s σ H Q I (k σ H Q q)⟩
theorem _root_.L2.PA.imp {X:Cx} {e:List Expr} {t t':TA} (h:PA X e t) (k:∀ σ H Q,t' σ H Q→t σ H Q):PA X e t':=⟨fun pos pins s σ H Q I q=>h.run pos pins s σ H Q I (k σ H Q q)⟩
theorem _root_.L2.PK.imp {X:Cx} {e:List Keyword} {t t':TA} (h:PK X e t) (k:∀ σ H Q,t' σ H Q→t σ H Q):PK X e t':=⟨fun pos pins s σ H Q I q=>h.run pos pins s σ H Q I (k σ H Q q)⟩
theorem _root_.L2.PS.imp {X:Cx} {e:Stmt} {t t':TS} (h:PS X e t) (k:∀ Dn σ H,t' Dn σ H→t Dn σ H):PS X e t':=⟨fun pins s σ H Dn I q=>h.run pins s σ H Dn I (k Dn σ H q)⟩
theorem _root_.L2.PSs.imp {X:Cx} {e:List Stmt} {t t':TS} (h:PSs X e t) (k:∀ Dn σ H,t' Dn σ H→t Dn σ H):PSs X e t':=⟨fun pins s σ H Dn I q=>h.run pins s σ H Dn I (k Dn σ H q)⟩
end Mir
namespace Mir
open PySem PySem.Spec PyProof.Rows L2
def pK (xs:List V) (H:Hp) (Q:VK):Prop:=∀ p o,H p=none→(o:Obj).dict=none∧o.cls=.type "tuple"→Q (.ref p) (upd H p (.frz o (.tup xs)))
def Ae (t:TA):TE:=fun σ H Q=>t σ H fun xs H1=>xs.length≤sizeLine∧pK xs H1 Q
theorem yI {X:Cx} {es:List Expr} {t:TA} {x1:Nat} {pos:Pos} (h:PA X es t):PE X (.Tuple es x1 pos) (Ae t):=by
 refine ⟨fun pins s σ H Q I hq=>?_⟩
 refine wpAny_Tuple_spliced (thn (h.run pos pins s σ H _ I hq) fun us s1 ⟨xs,H1,I1,r,z,q⟩=>⟨by rw [←r.length]; exact z,?_⟩)
 have hf:H1 s1.heap.objs.size=none:=I1.hok.fresh (Nat.le_refl _)
 refine ⟨.ref s1.heap.objs.size,_,I1.laid (o:=.frz { cls:=.type "tuple",data:=.seq us.toArray } (.tup xs)) (t':=s1.toks) (fun b u e=>Heap.get?_push_of_some _ e) (Nat.le_refl _) ?_,rfl,q _ _ hf ⟨rfl,rfl⟩⟩
 exact ⟨Heap.get?_push_size _ rfl,z,us,r,⟨_,Heap.get?_push_size _ rfl,rfl,_,rfl⟩⟩
section
variable {X:Cx}
theorem ze:OpR X (binaryOp .Add) (fun x y H Q=>∃ a b xs ys,x=.ref a∧y=.ref b∧SqT X.K H a xs∧SqT X.K H b ys∧xs.length+ys.length≤sizeLine∧(xs=[]→Q (.ref b) H)∧(xs≠[]→ys=[]→Q (.ref a) H)∧(xs≠[]→ys≠[]→pK (xs++ys) H Q)):=by
 intro pins s σ H x y v u Q I rx ry h
 obtain ⟨a,b,xs,ys,rfl,rfl,ha,hb,hz,q0,q1,q2⟩:=h
 cases rx
 cases ry
 obtain ⟨its,r1,p1,_⟩:=I.tuple ha
 obtain ⟨its2,r2,p2,_⟩:=I.tuple hb
 by_cases hx:xs=[]
 ·subst hx
  cases r1
  exact cat_tup0 p1 p2 ⟨.ref b,H,I,rfl,q0 rfl⟩
 ·refine HT.cat_tup p1 p2 (fun z=>hx (r1.nil_iff.mp z)) (fun z=>⟨.ref a,H,I,rfl,q1 hx (r2.nil_iff.mp z)⟩) (fun z=>?_) (by rw [←r1.length,←r2.length]; exact hz)
  refine ⟨.ref s.heap.objs.size,_,I.laid (t':=s.toks) (o:=.frz { cls:=.type "tuple",data:=.seq (its++its2).toArray } (.tup (xs++ys))) (fun b ob q=>Heap.get?_push_of_some _ q) (Nat.le_refl _) ?_,rfl,q2 hx (fun w=>z (r2.nil_iff.mpr w)) _ _ (I.hok.fresh (Nat.le_refl _)) ⟨rfl,rfl⟩⟩
  exact ⟨Heap.get?_push_size _ rfl,by rw [List.length_append]; exact hz,_,r1.append r2,IsTup.new _ _⟩
theorem zg:SlR X (fun x lo hi H Q=>∃ a xs,x=.ref a∧SqT X.K H a xs∧(HT.sIx xs.length 0 lo=0∧HT.sIx xs.length xs.length hi=xs.length→Q (.ref a) H)∧(¬ (HT.sIx xs.length 0 lo=0∧HT.sIx xs.length xs.length hi=xs.length)→pK (cutV xs lo hi) H Q)):=by
 intro pins s σ H x v vl vu lo hi sl Q I rx hs pl pu h
 obtain ⟨a,xs,rfl,hx,q1,q2⟩:=h
 cases rx
 obtain ⟨its,r,ht,hz⟩:=I.tuple hx
 have hlen:its.toArray.size=xs.length:=by rw [List.size_toArray]; exact r.length.symm
 refine ⟨"tuple",_,PyProof.Rows.slot_tuple_getitem.lookup,ht.typeIs,?_⟩
 by_cases hw:HT.sIx xs.length 0 lo=0∧HT.sIx xs.length xs.length hi=xs.length
 ·exact getItem_tuple_whole ht hs pl pu (by rw [hlen]; exact hw) ⟨.ref a,H,I,rfl,q1 hw⟩
 ·refine HT.getItem_tuple_cut ht hs pl pu (by rw [hlen]; exact hw) ?_ (by rw [hlen]; exact hz)
  rw [hlen]
  refine ⟨.ref s.heap.objs.size,_,I.laid (t':=s.toks) (o:=.frz { cls:=.type "tuple",data:=.seq ((its.drop (HT.sIx xs.length 0 lo)).take (HT.sIx xs.length xs.length hi - HT.sIx xs.length 0 lo)).toArray } (.tup (cutV xs lo hi))) (fun b ob q=>Heap.get?_push_of_some _ q) (Nat.le_refl _) ?_,rfl,q2 hw _ _ (I.hok.fresh (Nat.le_refl _)) ⟨rfl,rfl⟩⟩
  exact ⟨Heap.get?_push_size _ rfl,Nat.le_trans (cutV_length xs lo hi) hz,_,(r.drop (HT.sIx xs.length 0 lo)).take (HT.sIx xs.length xs.length hi - HT.sIx xs.length 0 lo),IsTup.new _ _⟩
theorem nM:CallR X (.type "tuple") (fun xs H Q=>∃ p ys,xs=[.ref p]∧((SqL X.K H p ys∧pK ys H Q)∨(SqT X.K H p ys∧Q (.ref p) H))):=by
 intro pins s σ H xs us Q I r h
 obtain ⟨p,ys,rfl,h⟩:=h
 obtain ⟨u,rfl,rx⟩:=vals1 r
 cases rx
 rcases h with ⟨hq,q⟩ | ⟨hq,q⟩
 ·obtain ⟨its,r',pl,hz⟩:=I.list hq
  have hlen:=r'.length
  refine call_tuple_list pl.isList (fun h' kp=>?_) (by simp only [List.size_toArray]<;>omega)
  have I1:Inv X pins σ H { s with heap:=h' }:=I.kept (t':=s.toks) kp
  have I2:Inv X pins σ (upd H h'.objs.size (.frz { cls:=.type "tuple",data:=.seq its.toArray } (.tup ys))) { s with heap:=h'.push { cls:=.type "tuple",data:=.seq its.toArray } }:=
   I1.laid (t':=s.toks) (fun b o e=>Heap.get?_push_of_some _ e) (Nat.le_refl _) (show ObjOk X.prog X.w _ _ _ (.frz _ (.tup ys)) from ⟨Heap.get?_push_size _ rfl,hz,its,r',IsTup.new _ _⟩)
  exact ⟨.ref h'.objs.size,_,I2,rfl,q _ _ (I1.hok.fresh (Nat.le_refl _)) ⟨rfl,rfl⟩⟩
 ·obtain ⟨its,r',pl,hz⟩:=I.tuple hq
  exact call_tuple_same pl ⟨.ref p,H,I,rfl,q⟩
end
abbrev EM:=au→Mem→R D
abbrev TM:=au→Mem→R Bool
abbrev AM:=au→Mem→R (List D)
abbrev OM:=au→Mem→R (Option Int)
def ab (i:Nat):EM:=fun η m=>match η[i]? with
 | some (some d)=>.ok d m
 | _=>.stk
def mC (d:D):EM:=fun _ m=>.ok d m
def mOp (g:D→D→Mem→R D) (a b:EM):EM:=fun η m=>(a η m).bind fun x m1=>(b η m1).bind fun y m2=>g x y m2
def mUn (g:D→Mem→R D) (a:EM):EM:=fun η m=>(a η m).bind fun x m1=>g x m1
def toB:D→Mem→R Bool
 | .bl b,m=>.ok b m
 | _,_=>.stk
def aG (a:EM):TM:=fun η m=>(a η m).bind toB
def jG (a b:TM):TM:=fun η m=>(a η m).bind fun x m1=>if x=true then b η m1 else .ok false m1
def mOr (a b:TM):TM:=fun η m=>(a η m).bind fun x m1=>if x=true then .ok true m1 else b η m1
def ir (a:TM):TM:=fun η m=>(a η m).bind fun x m1=>.ok (!x) m1
def iy (a b:EM):EM:=fun η m=>(a η m).bind fun x m1=>(toB x m1).bind fun k m2=>if k=true then b η m2 else .ok (.bl false) m2
def wY (a b:EM):EM:=fun η m=>(a η m).bind fun x m1=>(toB x m1).bind fun k m2=>if k=true then .ok (.bl true) m2 else b η m2
def vp (a:EM):EM:=fun η m=>(a η m).bind fun x m1=>(toB x m1).bind fun k m2=>.ok (.bl (!k)) m2
def mIf (c:TM) (a b:EM):EM:=fun η m=>(c η m).bind fun k m1=>if k=true then a η m1 else b η m1
def jT (g h:D→D→Mem→R D) (a b c:EM):EM:=fun η m=>(a η m).bind fun x m1=>(b η m1).bind fun y m2=>(g x y m2).bind fun z m3=>(toB z m3).bind fun k m4=>
 if k=true then (c η m4).bind fun w m5=>h y w m5 else .ok (.bl false) m4
def ag:AM:=fun _ m=>.ok [] m
def ae (a:EM) (b:AM):AM:=fun η m=>(a η m).bind fun x m1=>(b η m1).bind fun xs m2=>.ok (x ::xs) m2
def bJ (a:AM):EM:=fun η m=>(a η m).bind fun xs m1=>if xs.length≤sizeLine then .ok (.tup xs) m1 else .stk
def eS (al:Bool) (a:AM):EM:=fun η m=>(a η m).bind fun xs m1=>if xs.length≤sizeLine then mkL al xs m1 else .stk
def mCB (g:List D→Mem→R D) (a:AM):EM:=fun η m=>(a η m).bind fun xs m1=>g xs m1
def je:OM:=fun _ m=>.ok none m
def m9 (a:EM):OM:=fun η m=>(a η m).bind fun x m1=>match x with
 | .int i=>.ok (some i) m1
 | _=>.stk
def mSl (g:D→Option Int→Option Int→Mem→R D) (a:EM) (lo hi:OM):EM:=fun η m=>(a η m).bind fun x m1=>(lo η m1).bind fun l m2=>(hi η m2).bind fun u m3=>g x l u m3
section
variable {X:Cx} {E:XK} {a b c e:Expr} {ca cb cc:EM} {pos:Pos}
abbrev MEx (X:Cx) (E:XK) (e:Expr) (c:EM):Prop:=PE X e (rdE X.K X.mg E c)
abbrev MT (X:Cx) (E:XK) (e:Expr) (c:TM):Prop:=PT X e (rdT X.K X.mg E c)
abbrev MW (X:Cx) (E:XK) (e:Expr) (c:TM):Prop:=PW X e (rdT X.K X.mg E c)
abbrev MA (X:Cx) (E:XK) (e:List Expr) (c:AM):Prop:=PA X e (rdA X.K X.mg E c)
abbrev MO (X:Cx) (E:XK) (e:Option Expr) (c:OM):Prop:=PO X e (rd X.K X.mg E gH c)
theorem zw {i:Nat} (h:PE X e (tVar i)):MEx X E e (ab i):=h.imp fun σ H Q ⟨W,η,m,s,n,p⟩=>by
 unfold ab at p
 cases hi:η[i]? with
 | none=>rw [hi] at p; exact p.elim
 | some o=>
  cases o with
  | none=>rw [hi] at p; exact p.elim
  | some d=>
   rw [hi] at p
   obtain ⟨v,e1,e2⟩:=n.2 i d hi
   exact ⟨v,e1,p.now s e2⟩
theorem mv (i:Nat) {x:Str} {pos:Pos} (hN:X.N[i]?=some x:=by rfl) (hv:Vis X.env.scope x:=by first | exact Or.inl rfl | exact Or.inr (Or.inl rfl) | exact Or.inr (Or.inr rfl)) (hd:(x ==("__debug__":Str))=false:=by decide)
  (hcd:(x ==("__classdict__":Str))=false:=by decide):MEx X E (.Name x pos) (ab i):=zw (pe_var hN hv hd hcd)
theorem sv {v:V} {d:D} (h:PE X e (tC v)) (hd:∀ W H,Rep X.K W H d v):MEx X E e (mC d):=h.imp fun σ H Q ⟨W,η,m,s,n,p⟩=>p.now s (hd W H)
theorem ah {i j pos}:MEx X E (.Constant (.int i) j pos) (mC (.int i)):=sv pe_int fun _ _=>bw
theorem eH {b j pos}:MEx X E (.Constant (.bool b) j pos) (mC (.bl b)):=sv pe_bl fun _ _=>bf
theorem bP {j pos}:MEx X E (.Constant .none j pos) (mC .non):=sv pe_non fun _ _=>nh
theorem cF {x j pos}:MEx X E (.Constant (.str x) j pos) (mC (.str x)):=sv pe_str fun _ _=>cW
structure rK (K:PySem.W.Frag) (mg:Str→Option Value) (x:Str) (d:D):Prop where
 ex:∃ u v,mg x=some u∧RelV v u∧∀ W H,Rep K W H d v
theorem pS {x:Str} {d:D} {pos:Pos} (g:rK X.K X.mg x d) (hg:Gl X x) (hd:(x ==("__debug__":Str))=false:=by decide):MEx X E (.Name x pos) (mC d):=by
 obtain ⟨u,v,h1,h2,h3⟩:=g.ex
 exact sv (pe_glob hg h1 h2 hd) h3
def rM (K:PySem.W.Frag) (mg:Str→Option Value) (E:XK) (g:D→D→Mem→R D):R2:=fun x y H Q=>∃ W m d e,Sim K mg W H m∧Rep K W H d x∧Rep K W H e y∧Post K mg E (Rep K) W H Q (g d e m)
abbrev OpM (X:Cx) (E:XK) (f:Value→Value→Sem Value) (g:D→D→Mem→R D):Prop:=OpR X f (rM X.K X.mg E g)
def rU1 (K:PySem.W.Frag) (mg:Str→Option Value) (E:XK) (g:D→Mem→R D):V→Hp→VK→Prop:=fun x H Q=>∃ W m d,Sim K mg W H m∧Rep K W H d x∧Post K mg E (Rep K) W H Q (g d m)
theorem two {g:D→D→Mem→R D} {σ:SL} {H:Hp} {Q:VK} (h:rdE X.K X.mg E (mOp g ca cb) σ H Q):tOp (rM X.K X.mg E g) (rdE X.K X.mg E ca) (rdE X.K X.mg E cb) σ H Q:=by
 obtain ⟨W,η,m,s,n,p⟩:=h
 refine ⟨W,η,m,s,n,(Post.bind (Rl:=Rep X.K) p).imp fun x H1 ⟨W1,d,m1,e1,s1,r1,p1⟩=>?_⟩
 refine ⟨W1,η,m1,s1,n.ext e1,(Post.bind (Rl:=Rep X.K) p1).imp fun y H2 ⟨W2,d2,m2,e2,s2,r2,p2⟩=>?_⟩
 exact ⟨W2,m2,d,d2,s2,r1.ext e2,r2,p2⟩
theorem aK {op:Operator} {g:D→D→Mem→R D} (ho:OpM X E (binaryOp op) g) (ha:MEx X E a ca) (hb:MEx X E b cb):MEx X E (.BinOp a op b pos) (mOp g ca cb):=(pe_op ho ha hb).imp fun _ _ _ h=>two h
theorem An {op:UnaryOp} {g:D→Mem→R D} (ho:UnR X (unaryOp op) (rU1 X.K X.mg E g)) (ha:MEx X E a ca):MEx X E (.UnaryOp op a pos) (mUn g ca):=(pe_un ho ha).imp fun σ H Q ⟨W,η,m,s,n,p⟩=>
 ⟨W,η,m,s,n,(Post.bind (Rl:=Rep X.K) p).imp fun x H1 ⟨W1,d,m1,e1,s1,r1,p1⟩=>⟨W1,m1,d,s1,r1,p1⟩⟩
theorem bO {op:CmpOp} {g:D→D→Mem→R D} (ho:OpM X E (compareOp op) g) (ha:MEx X E a ca) (hb:MEx X E b cb) (hm:behindInMarks op b=false):MEx X E (.Compare a [op] [b] pos) (mOp g ca cb):=(pe_cmpR ho ha hb hm).imp fun _ _ _ h=>two h
theorem xO {W:Wd} {H:Hp} {d:D} {m:Mem} {x:V} {Q:Bool→Hp→Prop} (s:Sim X.K X.mg W H m) (r:Rep X.K W H d x) (p:Post X.K X.mg E gH W H Q (toB d m)):∃ k,x=.bl k∧Q k H:=by
 cases d with
 | bl b=>exact ⟨b,r.bl',p.now s rfl⟩
 | _=>exact p.elim
theorem uk {c:EM} {t:TE} {σ:SL} {H:Hp} {Q:Bool→Hp→Prop} (ht:∀ Q,rdE X.K X.mg E c σ H Q→t σ H Q) (h:rdT X.K X.mg E (aG c) σ H Q):tTest t σ H Q:=by
 obtain ⟨W,η,m,s,n,p⟩:=h
 refine ht _ ⟨W,η,m,s,n,(Post.bind (Rl:=Rep X.K) p).imp fun x H1 ⟨W1,d,m1,e1,s1,r1,p1⟩=>?_⟩
 obtain ⟨k,e,q⟩:=xO s1 r1 p1
 exact ⟨k,e,q⟩
theorem aI {op:CmpOp} {g:D→D→Mem→R D} (ho:OpM X E (compareOp op) g) (ha:MEx X E a ca) (hb:MEx X E b cb) (hm:behindInMarks op b=false):MT X E (.Compare a [op] [b] pos) (aG (mOp g ca cb)):=(pt_cmpR ho ha hb hm).imp fun _ _ _ h=>uk (fun _ h=>two h) h
theorem wM {g h:D→D→Mem→R D} {σ:SL} {H:Hp} {Q:VK} (z:rdE X.K X.mg E (jT g h ca cb cc) σ H Q):tChain (rM X.K X.mg E g) (rM X.K X.mg E h) (rdE X.K X.mg E ca) (rdE X.K X.mg E cb) (rdE X.K X.mg E cc) σ H Q:=by
 obtain ⟨W,η,m,s,n,p⟩:=z
 refine ⟨W,η,m,s,n,(Post.bind (Rl:=Rep X.K) p).imp fun x H1 ⟨W1,d,m1,e1,s1,r1,p1⟩=>?_⟩
 refine ⟨W1,η,m1,s1,n.ext e1,(Post.bind (Rl:=Rep X.K) p1).imp fun y H2 ⟨W2,d2,m2,e2,s2,r2,p2⟩=>?_⟩
 refine ⟨W2,m2,d,d2,s2,r1.ext e2,r2,(Post.bind (Rl:=Rep X.K) p2).imp fun z H3 ⟨W3,d3,m3,e3,s3,r3,p3⟩=>?_⟩
 cases d3 with
 | bl k=>
  refine ⟨k,r3.bl',?_⟩
  have p3:Post X.K X.mg E (Rep X.K) W3 H3 Q (if k=true then (cc η m3).bind fun w m5=>h d2 w m5 else .ok (.bl false) m3):=p3
  cases k with
  | true=>
   rw [if_pos rfl] at p3 ⊢
   refine ⟨W3,η,m3,s3,((n.ext e1).ext e2).ext e3,(Post.bind (Rl:=Rep X.K) p3).imp fun w H4 ⟨W4,d4,m4,e4,s4,r4,p4⟩=>?_⟩
   exact ⟨W4,m4,d2,d4,s4,(r2.ext e3).ext e4,r4,p4⟩
  | false=>
   rw [if_neg Bool.false_ne_true] at p3 ⊢
   exact p3.now s3 bf
 | _=>exact p3.elim
theorem kT {op op':CmpOp} {g h:D→D→Mem→R D} (ho:OpM X E (compareOp op) g) (ho':OpM X E (compareOp op') h) (ha:MEx X E a ca) (hb:MEx X E b cb) (hc:MEx X E c cc)
  (hm:lastMarks [op,op'] [b,c]=false:=by with_unfolding_all rfl):MT X E (.Compare a [op,op'] [b,c] pos) (aG (jT g h ca cb cc)):=(pt_chain ho ho' ha hb hc hm).imp fun _ _ _ z=>uk (fun _ h=>wM h) z
def mV (m:Mem):D→Option Bool
 | .non=>some false
 | .bl b=>some b
 | .int i=>some (i !=0)
 | .str x=>if x.length≤sizeLine then some ((x.length:Int) !=0) else none
 | .tup ds=>some (!ds.isEmpty)
 | .lst ds=>some (!ds.isEmpty)
 | .scr ds=>some (!ds.isEmpty)
 | .ref i=>match m[i]? with
  | some (.lst ds)=>some (!ds.isEmpty)
  | some (.dK kvs)=>some (!kvs.isEmpty)
  | _=>none
 | .fn _=>none
def eJ (a:EM):TM:=fun η m=>(a η m).bind fun x m1=>match mV m1 x with
 | some b=>.ok b m1
 | none=>.stk
theorem jd {W:Wd} {H:Hp} {ds:List D} {vs:List V} (r:Reps X.K W H ds vs):(!ds.isEmpty)=!vs.isEmpty:=by
 cases ds with
 | nil=>rw [r.nil']; rfl
 | cons d ds=>obtain ⟨v,r',rfl,_,_⟩:=r.cons'; rfl
theorem zX {W:Wd} {H:Hp} {m:Mem} {d:D} {v:V} {k:Bool} (s:Sim X.K X.mg W H m) (r:Rep X.K W H d v) (h:mV m d=some k):TruV X.K v H k:=by
 cases d with
 | non=>rw [r.non']; cases h; rfl
 | bl b=>rw [r.bl']; cases h; rfl
 | int i=>rw [r.int']; cases h; rfl
 | str x=>
  rw [r.str']
  unfold mV at h
  by_cases q:x.length≤sizeLine
  ·simp only [q,if_true] at h
   cases h
   exact ⟨q,rfl⟩
  ·simp only [q,if_false] at h
   cases h
 | tup ds=>
  obtain ⟨a,vs,rfl,e2,e3⟩:=r.tup'
  cases h
  exact .inr (.inl ⟨vs,e2,jd e3⟩)
 | lst ds=>
  obtain ⟨a,vs,rfl,e2,e3⟩:=r.lst'
  cases h
  exact .inl ⟨vs,.inl (.inl e2.1),jd e3⟩
 | scr ds=>
  obtain ⟨a,vs,rfl,e2,e3⟩:=r.scr'
  cases h
  exact .inl ⟨vs,e2.sq,jd e3⟩
 | ref i=>
  obtain ⟨a,rfl,e2⟩:=r.ref'
  simp only [mV] at h
  cases hm:m[i]? with
  | none=>rw [hm] at h; cases h
  | some c=>
   rw [hm] at h
   have q:=s.cell i a c e2 hm
   cases c with
   | lst xs=>
    cases h
    obtain ⟨vs,q1,q2⟩:=q
    exact .inl ⟨vs,.inl (.inl q1),jd q2⟩
   | dK kvs=>
    cases h
    obtain ⟨vs,q1,q2,q3⟩:=q
    refine .inr (.inr ⟨vs,q1,?_⟩)
    have:=congrArg List.length q2
    simp only [List.length_map] at this
    cases vs<;>cases kvs<;>simp_all
   | _=>cases h
 | fn x=>cases h
theorem cV (ha:MEx X E a ca) (he:∀ whole,isTrue a X.env whole=(do let v ← whole; standAt a.pos; holding [v] (truthy v)):=by intro _; rfl):MT X E a (eJ ca):=(pt_truth ha he).imp fun σ H Q ⟨W,η,m,s,n,p⟩=>
 ⟨W,η,m,s,n,(Post.bind (Rl:=Rep X.K) p).imp fun x H1 ⟨W1,d,m1,e1,s1,r1,p1⟩=>by
  cases h:mV m1 d with
  | none=>rw [h] at p1; exact p1.elim
  | some k=>rw [h] at p1; exact ⟨k,zX s1 r1 h,p1.now s1 rfl⟩⟩
theorem fK {ta:TM} (ha:MT X E a ta):MT X E (.UnaryOp .Not a pos) (ir ta):=(pt_not ha).imp fun σ H Q ⟨W,η,m,s,n,p⟩=>
 ⟨W,η,m,s,n,(Post.bind (Rl:=gH) p).imp fun x H1 ⟨W1,d,m1,e1,s1,r1,p1⟩=>by
  cases (show d=x from r1)
  exact p1.now s1 rfl⟩
theorem gz {ta:TM} (ha:MT X E a ta):MW X E (.BoolOp .And [a] pos) ta:=pw_and1 ha
theorem eZ {ta:TM} (ha:MT X E a ta):MW X E (.BoolOp .Or [a] pos) ta:=pw_or1 ha
theorem iN {ta tb:TM} {rest:List Expr} (ha:MT X E a ta) (hb:MW X E (.BoolOp .And (b ::rest) pos) tb):MW X E (.BoolOp .And (a ::b ::rest) pos) (jG ta tb):=(pw_and ha hb).imp fun σ H Q ⟨W,η,m,s,n,p⟩=>
 ⟨W,η,m,s,n,(Post.bind (Rl:=gH) p).imp fun x H1 ⟨W1,d,m1,e1,s1,r1,p1⟩=>by
  cases (show d=x from r1)
  cases x with
  | true=>rw [if_pos rfl] at p1 ⊢; exact ⟨W1,η,m1,s1,n.ext e1,p1⟩
  | false=>rw [if_neg Bool.false_ne_true] at p1 ⊢; exact p1.now s1 rfl⟩
theorem fv {ta tb:TM} {rest:List Expr} (ha:MT X E a ta) (hb:MW X E (.BoolOp .Or (b ::rest) pos) tb):MW X E (.BoolOp .Or (a ::b ::rest) pos) (mOr ta tb):=(pw_or ha hb).imp fun σ H Q ⟨W,η,m,s,n,p⟩=>
 ⟨W,η,m,s,n,(Post.bind (Rl:=gH) p).imp fun x H1 ⟨W1,d,m1,e1,s1,r1,p1⟩=>by
  cases (show d=x from r1)
  cases x with
  | true=>rw [if_pos rfl] at p1 ⊢; exact p1.now s1 rfl
  | false=>rw [if_neg Bool.false_ne_true] at p1 ⊢; exact ⟨W1,η,m1,s1,n.ext e1,p1⟩⟩
theorem iB {rest:List Expr} (ha:MEx X E a ca) (hb:MEx X E (.BoolOp .And (b ::rest) pos) cb):MEx X E (.BoolOp .And (a ::b ::rest) pos) (iy ca cb):=(pe_and ha hb).imp fun σ H Q ⟨W,η,m,s,n,p⟩=>
 ⟨W,η,m,s,n,(Post.bind (Rl:=Rep X.K) p).imp fun x H1 ⟨W1,d,m1,e1,s1,r1,p1⟩=>by
  cases d with
  | bl k=>
   refine ⟨k,r1.bl',?_⟩
   cases k with
   | true=>rw [if_pos rfl]; exact ⟨W1,η,m1,s1,n.ext e1,p1⟩
   | false=>rw [if_neg Bool.false_ne_true]; exact Post.now p1 s1 bf
  | _=>exact p1.elim⟩
theorem Ak {rest:List Expr} (ha:MEx X E a ca) (hb:MEx X E (.BoolOp .Or (b ::rest) pos) cb):MEx X E (.BoolOp .Or (a ::b ::rest) pos) (wY ca cb):=(pe_or ha hb).imp fun σ H Q ⟨W,η,m,s,n,p⟩=>
 ⟨W,η,m,s,n,(Post.bind (Rl:=Rep X.K) p).imp fun x H1 ⟨W1,d,m1,e1,s1,r1,p1⟩=>by
  cases d with
  | bl k=>
   refine ⟨k,r1.bl',?_⟩
   cases k with
   | true=>rw [if_pos rfl]; exact Post.now p1 s1 bf
   | false=>rw [if_neg Bool.false_ne_true]; exact ⟨W1,η,m1,s1,n.ext e1,p1⟩
  | _=>exact p1.elim⟩
theorem z9 (ha:MEx X E a ca):MEx X E (.UnaryOp .Not a pos) (vp ca):=(pe_not ha).imp fun σ H Q ⟨W,η,m,s,n,p⟩=>
 ⟨W,η,m,s,n,(Post.bind (Rl:=Rep X.K) p).imp fun x H1 ⟨W1,d,m1,e1,s1,r1,p1⟩=>by
  cases d with
  | bl k=>exact ⟨k,r1.bl',Post.now p1 s1 bf⟩
  | _=>exact p1.elim⟩
theorem Aj {t:Expr} {tc:TM} (hc:MT X E t tc) (ha:MEx X E a ca) (hb:MEx X E b cb):MEx X E (.IfExp t a b pos) (mIf tc ca cb):=(pe_ifExp hc ha hb).imp fun σ H Q ⟨W,η,m,s,n,p⟩=>
 ⟨W,η,m,s,n,(Post.bind (Rl:=gH) p).imp fun x H1 ⟨W1,d,m1,e1,s1,r1,p1⟩=>by
  cases (show d=x from r1)
  cases x with
  | true=>rw [if_pos rfl] at p1 ⊢; exact ⟨W1,η,m1,s1,n.ext e1,p1⟩
  | false=>rw [if_neg Bool.false_ne_true] at p1 ⊢; exact ⟨W1,η,m1,s1,n.ext e1,p1⟩⟩
theorem af:MA X E [] ag:=pa_nil.imp fun σ H Q ⟨W,η,m,s,n,p⟩=>p.now s bN
theorem cons_of {ta:AM} {σ:SL} {H:Hp} {Q:List V→Hp→Prop} (h:rdA X.K X.mg E (ae ca ta) σ H Q):tCons (rdE X.K X.mg E ca) (rdA X.K X.mg E ta) σ H Q:=by
 obtain ⟨W,η,m,s,n,p⟩:=h
 refine ⟨W,η,m,s,n,(Post.bind (Rl:=Rep X.K) p).imp fun x H1 ⟨W1,d,m1,e1,s1,r1,p1⟩=>?_⟩
 refine ⟨W1,η,m1,s1,n.ext e1,(Post.bind (Rl:=Reps X.K) p1).imp fun y H2 ⟨W2,d2,m2,e2,s2,r2,p2⟩=>?_⟩
 exact p2.now s2 (bB (r1.ext e2) r2)
theorem aa {es:List Expr} {ta:AM} (ha:MEx X E a ca) (hr:MA X E es ta) (hs:starEach (a ::es) X.env=(false,eval a X.env) ::starEach es X.env:=by rfl):MA X E (a ::es) (ae ca ta):=(pa_cons ha hr hs).imp fun _ _ _ h=>cons_of h
theorem aY {es:List Expr} {ta:AM} {k:Nat} (h:MA X E es ta):MEx X E (.Tuple es k pos) (bJ ta):=(yI h).imp fun σ H Q ⟨W,η,m,s,n,p⟩=>
 ⟨W,η,m,s,n,(Post.bind (Rl:=Reps X.K) p).imp fun x H1 ⟨W1,d,m1,e1,s1,r1,p1⟩=>by
  by_cases q:d.length≤sizeLine
  ·rw [if_pos q] at p1
   exact ⟨by rw [r1.length]; exact q,fun pp oo hp ho=>s1.newT hp ho r1 p1⟩
  ·rw [if_neg q] at p1
   exact p1.elim⟩
theorem cR (al:Bool) {es:List Expr} {ta:AM} (h:MA X E es ta):MEx X E (.List es pos) (eS al ta):=(pe_lst h).imp fun σ H Q ⟨W,η,m,s,n,p⟩=>
 ⟨W,η,m,s,n,(Post.bind (Rl:=Reps X.K) p).imp fun x H1 ⟨W1,d,m1,e1,s1,r1,p1⟩=>by
  by_cases q:d.length≤sizeLine
  ·rw [if_pos q] at p1
   exact ⟨by rw [r1.length]; exact q,fun pp hp=>s1.newL hp r1 p1⟩
  ·rw [if_neg q] at p1
   exact p1.elim⟩
def rCM (K:PySem.W.Frag) (mg:Str→Option Value) (E:XK) (g:List D→Mem→R D):List V→Hp→VK→Prop:=fun xs H Q=>∃ W m ds,Sim K mg W H m∧Reps K W H ds xs∧Post K mg E (Rep K) W H Q (g ds m)
theorem yc {g:List D→Mem→R D} {ta:AM} {σ:SL} {H:Hp} {Q:VK} (h:rdE X.K X.mg E (mCB g ta) σ H Q):tCB (rCM X.K X.mg E g) (rdA X.K X.mg E ta) σ H Q:=by
 obtain ⟨W,η,m,s,n,p⟩:=h
 exact ⟨W,η,m,s,n,(Post.bind (Rl:=Reps X.K) p).imp fun x H1 ⟨W1,d,m1,e1,s1,r1,p1⟩=>⟨W1,m1,d,s1,r1,p1⟩⟩
section
variable {g:List D→Mem→R D} {x:Str} {p:Pos} {es:List Expr} {ta:AM} {id T:String}
theorem ay (hc:CallR X (.builtin id) (rCM X.K X.mg E g)) (hm:X.mg x=none) (hg:Gl X x) (hv:bootBuiltins x=some (.builtin id)) (ha:MA X E (e ::es) ta) (hn:x≠"__name__":=by decide) (hdb:(x ==("__debug__":Str))=false:=by decide)
  (he:starEach (e ::es) X.env=(false,eval e X.env) ::starEach es X.env:=by rfl) (hpl:(backTo pos (starEach es X.env)).any (·.1)=false:=by rfl):MEx X E (.Call (.Name x p) (e ::es) [] pos) (mCB g ta):=(pe_callB hc hg hm hv ha hn hdb he hpl).imp fun _ _ _ h=>yc h
theorem aJ (hc:CallR X (.type T) (rCM X.K X.mg E g)) (hm:X.mg x=none) (hg:Gl X x) (hv:bootBuiltins x=some (.type T)) (ha:MA X E (e ::es) ta) (hn:x≠"__name__":=by decide) (hdb:(x ==("__debug__":Str))=false:=by decide)
  (he:starEach (e ::es) X.env=(false,eval e X.env) ::starEach es X.env:=by rfl) (hpl:(backTo pos (starEach es X.env)).any (·.1)=false:=by rfl):MEx X E (.Call (.Name x p) (e ::es) [] pos) (mCB g ta):=(pe_callTy hc hg hm hv ha hn hdb he hpl).imp fun _ _ _ h=>yc h
end
theorem av {g:D→D→Mem→R D} (hr:IxR X (rM X.K X.mg E g)) (ha:MEx X E a ca) (hb:MEx X E b cb) (hs:PlainIx b):MEx X E (.Subscript a b pos) (mOp g ca cb):=(pe_ix hr ha hb hs).imp fun _ _ _ h=>two h
theorem ni:MO X E none je:=⟨fun pins s σ H Q I h=>po_none.run pins s σ H Q I (by
 obtain ⟨W,η,m,s,n,p⟩:=h
 exact p.now s rfl)⟩
theorem nk (h:MEx X E a ca):MO X E (some a) (m9 ca):=⟨fun pins s σ H Q I h'=>(po_some h).run pins s σ H Q I (by
 obtain ⟨W,η,m,s,n,p⟩:=h'
 refine ⟨W,η,m,s,n,(Post.bind (Rl:=Rep X.K) p).imp fun x H1 ⟨W1,d,m1,e1,s1,r1,p1⟩=>?_⟩
 cases d with
 | int i=>exact ⟨i,r1.int',p1.now s1 rfl⟩
 | _=>exact p1.elim)⟩
def rSM (K:PySem.W.Frag) (mg:Str→Option Value) (E:XK) (g:D→Option Int→Option Int→Mem→R D):V→Option Int→Option Int→Hp→VK→Prop:=fun x lo hi H Q=>∃ W m d,Sim K mg W H m∧Rep K W H d x∧Post K mg E (Rep K) W H Q (g d lo hi m)
theorem rH {g:D→Option Int→Option Int→Mem→R D} {lo hi:Option Expr} {tl th:OM} {p2:Pos} (hr:SlR X (rSM X.K X.mg E g)) (he:MEx X E a ca) (hl:MO X E lo tl) (hu:MO X E hi th):MEx X E (.Subscript a (.Slice lo hi none p2) pos) (mSl g ca tl th):=
 (pe_slice hr he hl hu).imp fun σ H Q ⟨W,η,m,s,n,p⟩=>by
  refine ⟨W,η,m,s,n,(Post.bind (Rl:=Rep X.K) p).imp fun x H1 ⟨W1,d,m1,e1,s1,r1,p1⟩=>?_⟩
  refine ⟨W1,η,m1,s1,n.ext e1,(Post.bind (Rl:=gH) p1).imp fun y H2 ⟨W2,d2,m2,e2,s2,r2,p2⟩=>?_⟩
  cases (show d2=y from r2)
  refine ⟨W2,η,m2,s2,(n.ext e1).ext e2,(Post.bind (Rl:=gH) p2).imp fun z H3 ⟨W3,d3,m3,e3,s3,r3,p3⟩=>?_⟩
  cases (show d3=z from r3)
  exact ⟨W3,m3,d,s3,(r1.ext e2).ext e3,p3⟩
end
end Mir
namespace Mir
open PySem PySem.Spec PyProof.Rows L2
structure Tr (K:PySem.W.Frag) (W:Wd) (H:Hp) (W':Wd) (H':Hp):Prop where
 rf:∀ (i:Nat) (a:Addr),W.i[i]?=some a→W'.i[i]?=some a
 tp:∀ a vs,SqF K H a vs→SqF K H' a vs
 ls:∀ a (o:HO),(H a=some o∧a∉W.i∧a∉W.z)→(H' a=some o∧a∉W'.i∧a∉W'.z)
 sc:∀ a vs,LIm K W H a vs→LIm K W' H' a vs
mutual
theorem Rep.tr {K:PySem.W.Frag} {W W':Wd} {H H':Hp} (e:Tr K W H W' H'):∀ {d:D} {v:V},Rep K W H d v→Rep K W' H' d v
 | .non,v,h=>by unfold Rep at h ⊢; exact h
 | .bl b,v,h=>by unfold Rep at h ⊢; exact h
 | .int i,v,h=>by unfold Rep at h ⊢; exact h
 | .str x,v,h=>by unfold Rep at h ⊢; exact h
 | .tup ds,v,h=>by
  unfold Rep at h ⊢
  obtain ⟨a,vs,e1,e2,e3⟩:=h
  exact ⟨a,vs,e1,e.tp _ _ e2,Reps.tr e e3⟩
 | .lst ds,v,h=>by
  unfold Rep at h ⊢
  obtain ⟨a,vs,e1,e2,e3⟩:=h
  exact ⟨a,vs,e1,e.ls _ _ e2,Reps.tr e e3⟩
 | .scr ds,v,h=>by
  unfold Rep at h ⊢
  obtain ⟨a,vs,e1,e2,e3⟩:=h
  exact ⟨a,vs,e1,e.sc _ _ e2,Reps.tr e e3⟩
 | .ref i,v,h=>by
  unfold Rep at h ⊢
  obtain ⟨a,e1,e2⟩:=h
  exact ⟨a,e1,e.rf _ _ e2⟩
 | .fn x,v,h=>by unfold Rep at h ⊢; exact h
theorem Reps.tr {K:PySem.W.Frag} {W W':Wd} {H H':Hp} (e:Tr K W H W' H'):∀ {ds:List D} {vs:List V},Reps K W H ds vs→Reps K W' H' ds vs
 | [],vs,h=>by unfold Reps at h ⊢; exact h
 | d ::ds,vs,h=>by
  unfold Reps at h ⊢
  obtain ⟨v,r,e1,e2,e3⟩:=h
  exact ⟨v,r,e1,Rep.tr e e2,Reps.tr e e3⟩
end
structure ExtZ (W:Wd) (H:Hp) (W':Wd) (H':Hp):Prop where
 z:∀ p∈W'.z,p∉W.z→H p=none
 zs:∀ p∈W.z,p∈W'.z
 pre:∃ t,W'.i=W.i++t
 new:∀ a∈W'.i,a∉W.i→H a=none
 keep:∀ a o,H a=some o→(mY o=true∨a∉W.i)→H' a=some o
theorem Ext.toZ {W W':Wd} {H H':Hp} (e:Ext W H W' H'):ExtZ W H W' H':=⟨fun p hp hn=>absurd (e.z▸hp) hn,fun p hp=>e.z▸hp,e.pre,fun a h n=>(e.new a h n).1,e.keep⟩
theorem ExtZ.trans {W W1 W2:Wd} {H H1 H2:Hp} (a:ExtZ W H W1 H1) (b:Ext W1 H1 W2 H2):ExtZ W H W2 H2:=by
 obtain ⟨t1,e1⟩:=a.pre
 obtain ⟨t2,e2⟩:=b.pre
 refine ⟨fun p hp hn=>a.z p (b.z▸hp) hn,fun p hp=>b.z▸a.zs p hp,⟨t1++t2,by rw [e2,e1,List.append_assoc]⟩,fun x hx hn=>?_,fun x o h k=>?_⟩
 ·by_cases h1:x∈W1.i
  ·exact a.new x h1 hn
  ·have q:=b.new x hx h1
   cases hh:H x with
   | none=>rfl
   | some o=>
    have hz:x∉W.z:=fun hz=>q.2 (a.zs x hz)
    have:=a.keep x o hh (.inr hn)
    rw [q.1] at this
    cases this
 ·have h1:=a.keep x o h k
  refine b.keep x o h1 ?_
  rcases k with k | k1
  ·exact .inl k
  ·refine .inr fun hx=>?_
   have:=a.new x hx k1
   rw [this] at h
   cases h
theorem ExtZ.tr {K:PySem.W.Frag} {W W':Wd} {H H':Hp} (e:ExtZ W H W' H'):Tr K W H W' H':=by
 have nn:∀ a o,H a=some o→a∉W.i→a∉W.z→a∉W'.i∧a∉W'.z:=fun a o h k1 k2=>by
  refine ⟨fun hx=>?_,fun hx=>?_⟩
  ·have:=e.new a hx k1
   rw [h] at this
   cases this
  ·have:=e.z a hx k2
   rw [h] at this
   cases this
 refine ⟨fun i a h=>?_,fun a vs h=>?_,fun a vs ⟨h,k1,k2⟩=>⟨e.keep a _ h (.inr k1),nn a _ h k1 k2⟩,fun a vs h=>?_⟩
 ·obtain ⟨t,et⟩:=e.pre
  rw [et,List.getElem?_append_left (List.getElem?_eq_some_iff.mp h).1]
  exact h
 ·rcases h with ⟨o,h,k⟩ | h
  ·exact .inl ⟨o,e.keep _ _ h (.inl rfl),k⟩
  ·exact .inr h
 ·rcases h with ⟨h | ⟨o,h⟩,k1,k2⟩ | h
  ·exact .inl ⟨.inl (e.keep a _ h (.inr k1)),nn a _ h k1 k2⟩
  ·exact .inl ⟨.inr ⟨o,e.keep a _ h (.inl rfl)⟩,nn a _ h k1 k2⟩
  ·exact .inr h
theorem Rep.extZ {K:PySem.W.Frag} {W W':Wd} {H H':Hp} {d:D} {v:V} (e:ExtZ W H W' H') (h:Rep K W H d v):Rep K W' H' d v:=Rep.tr e.tr h
def km (K:PySem.W.Frag) (W:Wd) (H:Hp) (d:D) (v:V):Prop:=Rep K W H d v∨∃ ds a vs,d=.tup ds∧v=.ref a∧SqT K H a vs∧Reps K W H ds vs
abbrev RX:=PySem.W.Frag→Wd→Hp→D→V→Prop
inductive RS where
 | nxt (η:au) (m:Mem) | ret (d:D) (m:Mem) | brk (η:au) (m:Mem) | cnt (η:au) (m:Mem) | exc (x:Exn) (m:Mem) | stk
abbrev SM:=au→Mem→RS
abbrev GM:=D→au→Mem→R au
abbrev GsM:=List D→au→Mem→R au
def R.toS {α:Type} (r:R α) (f:α→Mem→RS):RS:=match r with
 | .ok a m=>f a m
 | .exc x m=>.exc x m
 | .stk=>.stk
@[simp] theorem oO {α:Type} (a:α) (m:Mem) (f:α→Mem→RS):(R.ok a m).toS f=f a m:=nr rfl
@[simp] theorem B7 {α:Type} (x:Exn) (m:Mem) (f:α→Mem→RS):(R.exc x m:R α).toS f=.exc x m:=nr rfl
@[simp] theorem BK {α:Type} (f:α→Mem→RS):(R.stk:R α).toS f=.stk:=nr rfl
section
variable (K:PySem.W.Frag) (mg:Str→Option Value) (E:XK)
def PostS (W:Wd) (H:Hp) (Dn:Ends):RS→Prop
 | .nxt η m=>∀ σ W' H',Ext W H W' H'→Sim K mg W' H' m→REnv K W' H' η σ→Dn.nx σ H'
 | .ret d m=>∀ v W' H',Ext W H W' H'→Sim K mg W' H' m→Rep K W' H' d v→Dn.rt v H'
 | .brk η m=>∀ σ W' H',Ext W H W' H'→Sim K mg W' H' m→REnv K W' H' η σ→Dn.bk σ H'
 | .cnt η m=>∀ σ W' H',Ext W H W' H'→Sim K mg W' H' m→REnv K W' H' η σ→Dn.ct σ H'
 | .exc x m=>∀ c o W' H',Ext W H W' H'→Sim K mg W' H' m→ExR K mg x W' H' c o→E c o H'
 | .stk=>False
def rdS (c:SM):TS:=fun Dn σ H=>∃ W η m,Sim K mg W H m∧REnv K W H η σ∧PostS K mg E W H Dn (c η m)
def rdG (Rx:RX) (vs:List Nat) (g:GM):TG:=fun v σ H Q=>∃ W η m d,Sim K mg W H m∧REnv K W H η σ∧Rx K W H d v∧Post K mg E (fun W H η' σ'=>REnv K W H η' σ'∧wipe σ' vs=wipe σ vs) W H Q (g d η m)
def rdGs (vs:List Nat) (g:GsM):TGs:=fun us σ H Q=>∃ W η m ds,Sim K mg W H m∧REnv K W H η σ∧Reps K W H ds us∧Post K mg E (fun W H η' σ'=>REnv K W H η' σ'∧wipe σ' vs=wipe σ vs) W H Q (g ds η m)
end
section
variable {K:PySem.W.Frag} {mg:Str→Option Value} {E:XK} {W W':Wd} {H H':Hp} {Dn:Ends}
theorem PostS.ext {r:RS} (e:Ext W H W' H') (h:PostS K mg E W H Dn r):PostS K mg E W' H' Dn r:=by
 cases r with
 | nxt η m=>exact fun σ W2 H2 e2 s q=>h σ W2 H2 (e.trans e2) s q
 | ret d m=>exact fun σ W2 H2 e2 s q=>h σ W2 H2 (e.trans e2) s q
 | brk η m=>exact fun σ W2 H2 e2 s q=>h σ W2 H2 (e.trans e2) s q
 | cnt η m=>exact fun σ W2 H2 e2 s q=>h σ W2 H2 (e.trans e2) s q
 | exc x m=>exact fun c o W2 H2 e2 s q=>h c o W2 H2 (e.trans e2) s q
 | stk=>exact h
theorem PostS.bind {α β:Type} {Rl:Wd→Hp→α→β→Prop} {r:R α} {f:α→Mem→RS} (h:PostS K mg E W H Dn (r.toS f)) :
  Post K mg E Rl W H (fun b H1=>∃ W1 a m1,Ext W H W1 H1∧Sim K mg W1 H1 m1∧Rl W1 H1 a b∧PostS K mg E W1 H1 Dn (f a m1)) r:=by
 cases r with
 | ok a m=>exact fun b W2 H2 e2 s q=>⟨W2,a,m,e2,s,q,PostS.ext e2 h⟩
 | exc x m=>exact h
 | stk=>exact h
end
def aV:SM:=fun η m=>.nxt η m
def RS.seq (r:RS) (f:SM):RS:=match r with
 | .nxt η m=>f η m
 | r=>r
@[simp] theorem B9 (η:au) (m:Mem) (f:SM):(RS.nxt η m).seq f=f η m:=nr rfl
@[simp] theorem Cg (d:D) (m:Mem) (f:SM):(RS.ret d m).seq f=.ret d m:=nr rfl
@[simp] theorem Co (η:au) (m:Mem) (f:SM):(RS.brk η m).seq f=.brk η m:=nr rfl
@[simp] theorem Cu (x:Exn) (m:Mem) (f:SM):(RS.exc x m).seq f=.exc x m:=nr rfl
@[simp] theorem BP (f:SM):RS.stk.seq f=.stk:=nr rfl
def ar (a b:SM):SM:=fun η m=>(a η m).seq b
def aN (c:EM):SM:=fun η m=>(c η m).toS fun d m1=>.ret d m1
def gn (c:EM):SM:=fun η m=>(c η m).toS fun _ m1=>.nxt η m1
def bo (c:TM) (a b:SM):SM:=fun η m=>(c η m).toS fun k m1=>if k=true then a η m1 else b η m1
def aC (c:EM) (g:GM):SM:=fun η m=>(c η m).toS fun d m1=>(g d η m1).toS fun η' m2=>.nxt η' m2
def gNm (i:Nat):GM:=fun d η m=>.ok (η.set i (some d)) m
def cg:GsM:=fun ds η m=>match ds with
 | []=>.ok η m
 | _=>.stk
def aP (g:GM) (r:GsM):GsM:=fun ds η m=>match ds with
 | d ::ds=>(g d η m).bind fun η1 m1=>r ds η1 m1
 | []=>.stk
def gTp (n:Nat) (g:GsM):GM:=fun d η m=>match d with
 | .tup ds=>if ds.length=n then g ds η m else .stk
 | _=>.stk
section
variable {X:Cx} {E:XK} {pos:Pos} {e:Expr} {ce:EM}
abbrev MS (X:Cx) (E:XK) (st:Stmt) (c:SM):Prop:=PS X st (rdS X.K X.mg E c)
abbrev MSs (X:Cx) (E:XK) (st:List Stmt) (c:SM):Prop:=PSs X st (rdS X.K X.mg E c)
abbrev MG (X:Cx) (E:XK) (Rx:RX) (vs:List Nat) (tg:Expr) (g:GM):Prop:=PG X tg (rdG X.K X.mg E Rx vs g)
abbrev MGs (X:Cx) (E:XK) (vs:List Nat) (tg:List Expr) (g:GsM):Prop:=PGs X tg (rdGs X.K X.mg E vs g)
theorem aH:MSs X E [] aV:=pss_nil.imp fun Dn σ H ⟨W,η,m,s,n,p⟩=>p σ W H (Ext.refl W H) s n
theorem ai {st:Stmt} {rest:List Stmt} {c1 c2:SM} (h1:MS X E st c1) (h2:MSs X E rest c2):MSs X E (st ::rest) (ar c1 c2):=(pss_cons h1 h2).imp fun Dn σ H ⟨W,η,m,s,n,p⟩=>by
 refine ⟨W,η,m,s,n,?_⟩
 unfold ar at p
 cases h:c1 η m with
 | nxt η1 m1=>rw [h] at p; exact fun σ1 W1 H1 e1 s1 n1=>⟨W1,η1,m1,s1,n1,PostS.ext e1 p⟩
 | ret d m1=>rw [h] at p; exact p
 | brk η1 m1=>rw [h] at p; exact p
 | cnt η1 m1=>rw [h] at p; exact p
 | exc x m1=>rw [h] at p; exact p
 | stk=>rw [h] at p; exact p
theorem aj {st:Stmt} {c1:SM} (h1:MS X E st c1):MSs X E [st] c1:=pss_one h1
theorem fe (he:MEx X E e ce) (hs:swapsWith e none pos.line X.env=pure false:=by rfl):MS X E (.Expr e pos) (gn ce):=(ps_expr he hs).imp fun Dn σ H ⟨W,η,m,s,n,p⟩=>
 ⟨W,η,m,s,n,(PostS.bind (Rl:=Rep X.K) p).imp fun x H1 ⟨W1,d,m1,e1,s1,r1,p1⟩=>p1 σ W1 H1 (Ext.refl _ _) s1 (n.ext e1)⟩
theorem aA (he:MEx X E e ce):MS X E (.Return (some e) pos) (aN ce):=(ps_ret he).imp fun Dn σ H ⟨W,η,m,s,n,p⟩=>
 ⟨W,η,m,s,n,(PostS.bind (Rl:=Rep X.K) p).imp fun x H1 ⟨W1,d,m1,e1,s1,r1,p1⟩=>p1 x W1 H1 (Ext.refl _ _) s1 r1⟩
theorem bb {c:Expr} {a b:List Stmt} {tc:TM} {ca cb:SM} (hc:MT X E c tc) (ha:MSs X E a ca) (hb:MSs X E b cb):MS X E (.If c a b pos) (bo tc ca cb):=(ps_if hc ha hb).imp fun Dn σ H ⟨W,η,m,s,n,p⟩=>
 ⟨W,η,m,s,n,(PostS.bind (Rl:=gH) p).imp fun x H1 ⟨W1,d,m1,e1,s1,r1,p1⟩=>by
  cases (show d=x from r1)
  cases x with
  | true=>rw [if_pos rfl] at p1 ⊢; exact ⟨W1,η,m1,s1,n.ext e1,p1⟩
  | false=>rw [if_neg Bool.false_ne_true] at p1 ⊢; exact ⟨W1,η,m1,s1,n.ext e1,p1⟩⟩
theorem mh {σ:SL}:∀ {vs:List Nat} {i:Nat} {x:Option V},i∈vs→wipe (σ.set i x) vs=wipe σ vs
 | v ::vs,i,x,h=>by
  unfold wipe
  by_cases hi:i∈vs
  ·rw [mh hi]
  ·have e:i=v:=by
    rcases List.mem_cons.mp h with h | h
    ·exact h
    ·exact absurd h hi
   subst e
   rw [wipe_set hi]
   apply List.ext_getElem?
   intro j
   by_cases hj:i=j
   ·subst hj
    by_cases hl:i < (wipe σ vs).length
    ·rw [List.getElem?_set_self (by rw [List.length_set]; exact hl),List.getElem?_set_self hl]
    ·rw [List.getElem?_eq_none (by rw [List.length_set,List.length_set]; omega),List.getElem?_eq_none (by rw [List.length_set]; omega)]
   ·rw [List.getElem?_set_ne hj,List.getElem?_set_ne hj,List.getElem?_set_ne hj]
where
 wipe_set {σ:SL}:∀ {vs:List Nat} {i:Nat} {x:Option V},i∉vs→wipe (σ.set i x) vs=(wipe σ vs).set i x
  | [],i,x,h=>rfl
  | v ::vs,i,x,h=>by
   unfold wipe
   rw [wipe_set (fun q=>h (List.mem_cons_of_mem _ q))]
   exact List.set_comm _ _ (fun e=>h (by rw [e]; exact List.mem_cons_self))
theorem o7 {σ:SL}:∀ {us vs:List Nat},(∀ u∈us,u∈vs)→wipe (wipe σ us) vs=wipe σ vs
 | [],vs,_=>rfl
 | u ::us,vs,h=>by
  show wipe ((wipe σ us).set u none) vs=_
  rw [mh (h u List.mem_cons_self),o7 fun x hx=>h x (List.mem_cons_of_mem _ hx)]
theorem wb {σ:SL} {vs:List Nat}:wipe (wipe σ vs) vs=wipe σ vs:=o7 fun _ h=>h
theorem ao {vs:List Nat} {i:Nat} {x:Str} (hv:i∈vs) (hN:X.N.Nodup) (hi:X.N[i]?=some x) (hx:Loc X.env.scope x) (hf:X.fn x=true∨X.env.scope.names.lookup x=some .local:=by first | exact .inl rfl | exact .inr rfl | assumption):MG X E Rep vs (.Name x pos) (gNm i):=by
 refine ⟨fun pins s σ H v u Q I r h=>(pg_name hN hi hx hf).run pins s σ H v u Q I r ?_⟩
 obtain ⟨W,η,m,d,s,n,rp,p⟩:=h
 exact p.now s ⟨n.set rp,mh hv⟩
theorem bL {vs:List Nat}:MGs X E vs [] cg:=by
 refine ⟨fun pins s σ H us u Q I r h=>pgs_nil.run pins s σ H us u Q I r ?_⟩
 obtain ⟨W,η,m,ds,s,n,rp,p⟩:=h
 cases ds with
 | nil=>exact ⟨rp.nil',p.now s ⟨n,rfl⟩⟩
 | cons d ds=>exact p.elim
theorem aD {vs:List Nat} {es:List Expr} {g:GM} {gs:GsM} (h1:MG X E Rep vs e g) (h2:MGs X E vs es gs) (hs:(assignEach (e ::es) X.env).map (·.2)=assign e X.env ::(assignEach es X.env).map (·.2):=by rfl):MGs X E vs (e ::es) (aP g gs):=by
 refine ⟨fun pins s σ H us u Q I r h=>(pgs_cons h1 h2 hs).run pins s σ H us u Q I r ?_⟩
 obtain ⟨W,η,m,ds,s,n,rp,p⟩:=h
 cases ds with
 | nil=>exact p.elim
 | cons d ds=>
  obtain ⟨v,vr,rfl,r1,r2⟩:=rp.cons'
  refine ⟨v,vr,rfl,W,η,m,d,s,n,r1,(Post.bind (Rl:=fun W H η' σ'=>REnv X.K W H η' σ'∧wipe σ' vs=wipe σ vs) p).imp fun σ1 H1 ⟨W1,η1,m1,e1,s1,n1,p1⟩=>?_⟩
  refine ⟨W1,η1,m1,ds,s1,n1.1,r2.ext e1,?_⟩
  rw [n1.2]
  exact p1
theorem fS {vs:List Nat} {es:List Expr} {k:Nat} {gs:GsM} {n:Nat} (hc:X.calm=true) (h:MGs X E vs es gs) (hn:(assignEach es X.env).length=n:=by rfl) (hst:(assignEach es X.env).findIdx? (·.1)=none:=by rfl):MG X E km vs (.Tuple es k pos) (gTp n gs):=by
 refine ⟨fun pins s σ H us u Q I r h'=>(pg_tup hc h hn hst).run pins s σ H us u Q I r ?_⟩
 obtain ⟨W,η,m,d,s,nn,rp,p⟩:=h'
 have key:∀ ds,d=.tup ds→(∃ a vs,us=.ref a∧SqT X.K H a vs∧Reps X.K W H ds vs)→∃ a xs,us=.ref a∧SqT X.K H a xs∧xs.length=n∧rdGs X.K X.mg E vs gs xs σ H Q:=fun ds e ⟨a,xs,e1,q1,q2⟩=>by
  subst e
  have p:Post X.K X.mg E _ W H Q (if ds.length=n then gs ds η m else .stk):=p
  by_cases hl:ds.length=n
  ·rw [if_pos hl] at p
   exact ⟨a,xs,e1,q1,by rw [q2.length]; exact hl,W,η,m,ds,s,nn,q2,p⟩
  ·rw [if_neg hl] at p
   exact p.elim
 rcases rp with rp | ⟨ds,a,xs,e0,e1,q1,q2⟩
 ·cases d with
  | tup ds=>exact key ds rfl rp.tup'
  | _=>exact p.elim
 ·exact key ds e0 ⟨a,xs,e1,q1,q2⟩
theorem mg_w {vs:List Nat} {tg:Expr} {g:GM} (h:MG X E km vs tg g):MG X E Rep vs tg g:=⟨fun pins s σ H v u Q I r h'=>h.run pins s σ H v u Q I r (by
 obtain ⟨W,η,m,d,s,nn,rp,p⟩:=h'
 exact ⟨W,η,m,d,s,nn,.inl rp,p⟩)⟩
theorem dY {vs:List Nat} {es:List Expr} {k:Nat} {gs:GsM} {n:Nat} (hc:X.calm=true) (h:MGs X E vs es gs) (hn:(assignEach es X.env).length=n:=by rfl) (hst:(assignEach es X.env).findIdx? (·.1)=none:=by rfl):MG X E Rep vs (.Tuple es k pos) (gTp n gs):=mg_w (fS hc h hn hst)
theorem cm {vs:List Nat} {tg:Expr} {g:GM} (he:MEx X E e ce) (hg:MG X E Rep vs tg g) (hs:swapsWithSole [tg] e pos.line X.env=pure false:=by rfl) (hw:swappedStores [tg] e X.env=pure none:=by rfl)
  (h1:(assignEach [tg] X.env).map (·.2)=[assign tg X.env]:=by rfl):MS X E (.Assign [tg] e pos) (aC ce g):=(ps_asg he hg hs hw h1).imp fun Dn σ H ⟨W,η,m,s,n,p⟩=>
 ⟨W,η,m,s,n,(PostS.bind (Rl:=Rep X.K) p).imp fun x H1 ⟨W1,d,m1,e1,s1,r1,p1⟩=>
  ⟨W1,η,m1,d,s1,n.ext e1,r1,(PostS.bind (Rl:=fun W H η' σ'=>REnv X.K W H η' σ'∧wipe σ' vs=wipe σ vs) p1).imp fun σ2 H2 ⟨W2,η2,m2,e2,s2,n2,p2⟩=>p2 σ2 W2 H2 (Ext.refl _ _) s2 n2.1⟩⟩
theorem aE {i:Nat} {x:Str} {pos':Pos} (hN:X.N.Nodup) (hi:X.N[i]?=some x) (hx:Loc X.env.scope x) (he:MEx X E e ce) (hs:swapsWith e (some (.Name x pos')) pos.line X.env=pure false:=by rfl) (hf:X.fn x=true∨X.env.scope.names.lookup x=some .local:=by first | exact .inl rfl | exact .inr rfl | assumption) :
  MS X E (.Assign [.Name x pos'] e pos) (aC ce (gNm i)):=(ps_set hN hi hx he hs hf).imp fun Dn σ H ⟨W,η,m,s,n,p⟩=>
 ⟨W,η,m,s,n,(PostS.bind (Rl:=Rep X.K) p).imp fun x H1 ⟨W1,d,m1,e1,s1,r1,p1⟩=>p1 _ W1 H1 (Ext.refl _ _) s1 ((n.ext e1).set r1)⟩
end
abbrev Src:=Nat→Mem→Option (Option D)
abbrev IM:=au→Mem→R (Src×Nat)
structure JOk (K:PySem.W.Frag) (mg:Str→Option Value) (Rx:RX) (W₀:Wd) (H₀:Hp) (J:It) (src:Src):Prop where
 go:∀ W H m k d,ExtZ W₀ H₀ W H→Sim K mg W H m→src k m=some (some d)→J.go k H∧∀ x H',J.yld k H x H'→∃ W',Ext W H W' H'∧Sim K mg W' H' m∧Rx K W' H' d x
 stop:∀ W H m k,ExtZ W₀ H₀ W H→Sim K mg W H m→src k m=some none→J.stop k H
def RlI (K:PySem.W.Frag) (mg:Str→Option Value) (Rx:RX) (W:Wd) (H:Hp) (p:Src×Nat) (J:It):Prop:=JOk K mg Rx W H J p.1
abbrev MI (X:Cx) (E:XK) (Rx:RX) (tg it:Expr) (c:IM):Prop:=PI X tg it (rd X.K X.mg E (RlI X.K X.mg Rx) c)
def bH (src:Src) (g:GM) (body:SM):Nat→Nat→au→Mem→RS
 | 0,k,η,m=>match src k m with
  | some none=>.nxt η m
  | _=>.stk
 | f+1,k,η,m=>match src k m with
  | none=>.stk
  | some none=>.nxt η m
  | some (some d)=>(g d η m).toS fun η1 m1=>match body η1 m1 with
   | .nxt η2 m2=>bH src g body f (k+1) η2 m2
   | .cnt η2 m2=>bH src g body f (k+1) η2 m2
   | .brk η2 m2=>.nxt η2 m2
   | r=>r
def fF (ci:IM) (g:GM) (body:SM):SM:=fun η m=>(ci η m).toS fun p m1=>bH p.1 g body p.2 0 η m1
section
variable {X:Cx} {E:XK} {pos:Pos}
theorem dE {Rx:RX} {vs:List Nat} {tg it:Expr} {body:List Stmt} {ci:IM} {g:GM} {cb:SM} (hp:PassesOwn (model X.prog X.w) X.A X.env X.xe) (hc:X.calm=true) (hi:MI X E Rx tg it ci) (hg:MG X E Rx vs tg g) (hb:MSs X E body cb) (hs:∀ x,foldedSetIterable it X.env x=pure x:=by intro _; rfl):MS X E (.For tg it body [] pos) (fF ci g cb):=by
 refine (ps_for hp hc hi hg hb hs).imp fun Dn σ H ⟨W,η,m,s,n,p⟩=>?_
 refine ⟨W,η,m,s,n,(PostS.bind (Rl:=RlI X.K X.mg Rx) p).imp fun J H1 ⟨W1,q1,m1,e1,s1,j1,p1⟩=>?_⟩
 obtain ⟨src,fuel⟩:=q1
 have j1:JOk X.K X.mg Rx W1 H1 J src:=j1
 have p1:PostS X.K X.mg E W1 H1 Dn (bH src g cb fuel 0 η m1):=p1
 refine ⟨fun i f σ H=>∃ W η m,Ext W1 H1 W H∧Sim X.K X.mg W H m∧REnv X.K W H η σ∧PostS X.K X.mg E W H Dn (bH src g cb f i η m),⟨fuel,W1,η,m1,Ext.refl _ _,s1,n.ext e1,p1⟩,fun i f σ H ⟨W,η,m,e2,s2,n2,p2⟩=>?_⟩
 cases hs:src i m with
 | none=>cases f<;>(unfold bH at p2; rw [hs] at p2; exact p2.elim)
 | some o=>
  cases o with
  | none=>
   refine .inl ⟨j1.stop W H m i e2.toZ s2 hs,?_⟩
   cases f<;>(unfold bH at p2; rw [hs] at p2; exact p2 σ W H (Ext.refl _ _) s2 n2)
  | some d=>
   cases f with
   | zero=>unfold bH at p2; rw [hs] at p2; exact p2.elim
   | succ f=>
    unfold bH at p2
    rw [hs] at p2
    obtain ⟨g1,g2⟩:=j1.go W H m i d e2.toZ s2 hs
    refine .inr ⟨g1,fun σ' H'=>∃ W η m,Ext W1 H1 W H'∧Sim X.K X.mg W H' m∧REnv X.K W H' η σ'∧PostS X.K X.mg E W H' Dn (bH src g cb f (i+1) η m),fun σ' H' h=>⟨f,Nat.lt_succ_self f,h⟩,fun x H' hy=>?_⟩
    obtain ⟨W3,e3,s3,r3⟩:=g2 x H' hy
    refine ⟨W3,η,m,d,s3,n2.ext e3,r3,(PostS.bind (Rl:=fun W H η' σ'=>REnv X.K W H η' σ'∧wipe σ' vs=wipe σ vs) (PostS.ext e3 p2)).imp fun σ4 H4 ⟨W4,η4,m4,e4,s4,n4,p4⟩=>?_⟩
    refine ⟨W4,η4,m4,s4,n4.1,?_⟩
    have e34:=(e2.trans e3).trans e4
    revert p4
    generalize cb η4 m4=r
    intro p4
    cases r with
    | nxt η5 m5=>exact fun σ5 W5 H5 e5 s5 n5=>⟨W5,η5,m5,e34.trans e5,s5,n5,PostS.ext e5 p4⟩
    | cnt η5 m5=>exact fun σ5 W5 H5 e5 s5 n5=>⟨W5,η5,m5,e34.trans e5,s5,n5,PostS.ext e5 p4⟩
    | brk η5 m5=>exact p4
    | ret d5 m5=>exact p4
    | exc x5 m5=>exact p4
    | stk=>exact p4
end
def noX {α:Type}:R α→R α
 | .exc _ _=>.stk
 | r=>r
@[simp] theorem iF {α:Type} (a:α) (m:Mem):noX (.ok a m)=.ok a m:=nr rfl
@[simp] theorem BO {α:Type}:noX (.stk:R α)=.stk:=nr rfl
@[simp] theorem Cq {α:Type} (x:Exn) (m:Mem):noX (.exc x m:R α)=.stk:=nr rfl
theorem Post.nox {K:PySem.W.Frag} {mg:Str→Option Value} {E E':XK} {W:Wd} {H:Hp} {α β:Type} {Rl:Wd→Hp→α→β→Prop} {Q:β→Hp→Prop} {r:R α} (h:Post K mg E Rl W H Q (noX r)):Post K mg E' Rl W H Q r:=by
 cases r with
 | ok a m=>exact h
 | exc x m=>exact h.elim
 | stk=>exact h.elim
def aR (η:au):List Nat→au
 | []=>η
 | v ::vs=>(aR η vs).set v none
theorem REnv.wipe {K:PySem.W.Frag} {W:Wd} {H:Hp} {η:au} {σ:SL} (h:REnv K W H η σ):∀ vs:List Nat,REnv K W H (aR η vs) (L2.wipe σ vs)
 | []=>h
 | v ::vs=>by
  have ih:=h.wipe vs
  refine ⟨?_,fun i d q=>?_⟩
  ·show ((aR η vs).set v none).length=((L2.wipe σ vs).set v none).length
   rw [List.length_set,List.length_set]
   exact ih.1
  ·have q:((aR η vs).set v none)[i]?=some (some d):=q
   by_cases hv:v=i
   ·subst hv
    by_cases hl:v < (aR η vs).length
    ·rw [List.getElem?_set_self hl] at q
     cases q
    ·rw [List.getElem?_eq_none (by rw [List.length_set]; omega)] at q
     cases q
   ·rw [List.getElem?_set_ne hv] at q
    obtain ⟨u,a,b⟩:=ih.2 i d q
    refine ⟨u,?_,b⟩
    show ((L2.wipe σ vs).set v none)[i]?=_
    rw [List.getElem?_set_ne hv]
    exact a
def bF (src:Src) (g:GM) (t:TM) (e:EM) (η:au):Nat→Nat→Mem→List D→R (List D)
 | 0,k,m,acc=>match src k m with
  | some none=>.ok acc m
  | _=>.stk
 | f+1,k,m,acc=>match src k m with
  | none=>.stk
  | some none=>.ok acc m
  | some (some d)=>(noX (g d η m)).bind fun η1 m1=>(noX (t η1 m1)).bind fun b m2=>
   if b=true then (noX (e η1 m2)).bind fun y m3=>if acc.length < sizeLine then bF src g t e η f (k+1) m3 (acc++[y]) else .stk
   else bF src g t e η f (k+1) m2 acc
def mLc (vs:List Nat) (al:Bool) (ci:IM) (g:GM) (t:TM) (e:EM):EM:=fun η m=>(ci η m).bind fun p m1=>(bF p.1 g t e (aR η vs) p.2 0 m1 []).bind fun acc m2=>mkL al acc m2
def bz:TM:=fun _ m=>.ok true m
def Wd.scr (W:Wd) (p:Addr):Wd:=⟨W.i,p ::W.z⟩
section
variable {K:PySem.W.Frag} {mg:Str→Option Value} {W W':Wd} {H H':Hp} {m:Mem} {p:Addr} {o o':HO}
theorem ExtZ.scr (s:Sim K mg W H m) (h:H p=none):ExtZ W H (W.scr p) (upd H p o):=
 ⟨fun a ha hn=>by
  rcases List.mem_cons.mp ha with e | e
  ·rw [e]; exact h
  ·exact absurd e hn,fun a ha=>List.mem_cons_of_mem _ ha,⟨[],by simp [Wd.scr]⟩,fun a ha hn=>absurd ha hn,fun a u e _=>by rw [upd_ne (ne_of_none e h)]; exact e⟩
theorem _root_.Mir.XFs.tr {fs:List (Str×D)} {o:Option Addr} (e:Tr K W H W' H') (h:XFs K W H fs o):XFs K W' H' fs o:=by
 rcases h with h | ⟨d,gs,e1,e2,e3,e4⟩
 ·exact .inl h
 ·exact .inr ⟨d,gs,e1,e.ls _ _ e2,e3,Reps.tr e e4⟩
theorem CellOk.tr {a:Addr} {c:Cell} (e:Tr K W H W' H') (ha:H' a=H a) (h:CellOk K mg W H a c):CellOk K mg W' H' a c:=by
 cases c with
 | lst ds=>obtain ⟨vs,e1,e2⟩:=h; exact ⟨vs,ha.trans e1,Reps.tr e e2⟩
 | dK kvs=>obtain ⟨vs,e1,e2,e3⟩:=h; exact ⟨vs,ha.trans e1,e2,Reps.tr e e3⟩
 | dT kvs=>obtain ⟨vs,e1,e2,e3,e4⟩:=h; exact ⟨vs,ha.trans e1,e2,fun x hx=>e.tp _ _ (e3 x hx),Reps.tr e e4⟩
 | dKz kvs=>obtain ⟨o,vs,e1,e2,e3⟩:=h; exact ⟨o,vs,ha.trans e1,e2,Reps.tr e e3⟩
 | dTz kvs=>obtain ⟨o,vs,e1,e2,e3,e4⟩:=h; exact ⟨o,vs,ha.trans e1,e2,fun x hx=>e.tp _ _ (e3 x hx),Reps.tr e e4⟩
 | ins c fs=>obtain ⟨C,dx,fs',e0,e1,e2,e3⟩:=h; exact ⟨C,dx,fs',e0,ha.trans e1,e2,Reps.tr e e3⟩
 | exc c fs=>obtain ⟨C,o,e0,e1,e2⟩:=h; exact ⟨C,o,e0,ha.trans e1,e2.tr e⟩
 | tab x q=>obtain ⟨ps,e1,e2,e3,e4⟩:=h; exact ⟨ps,ha.trans e1,e2,e3,fun pos cv hc=>let ⟨c,z1,z2⟩:=e4 pos cv hc; ⟨c,z1,e.ls _ _ z2⟩⟩
 | dX hs kvs=>obtain ⟨vs,e1,e2,e3,e4⟩:=h; exact ⟨vs,ha.trans e1,e2,fun x hx=>e.tp _ _ (e3 x hx),Reps.tr e e4⟩
theorem Sim.scr (s:Sim K mg W H m) (h:H p=none):Sim K mg (W.scr p) (upd H p o) m:=
 ⟨s.nd,s.len,fun i a c e1 e2=>(s.cell i a c e1 e2).tr (ExtZ.scr s h).tr (by
  obtain ⟨u,e,_⟩:=(s.cell i a c e1 e2).mut
  exact upd_ne (ne_of_none e h)),fun a ha hz=>by
  rcases List.mem_cons.mp hz with e | e
  ·rw [e] at ha
   exact s.nin h ha
  ·exact s.sep a ha e,fun a ha=>by
  rcases List.mem_cons.mp ha with e | e
  ·rw [e]; exact ⟨_,upd_same⟩
  ·exact jS (s.zs a e)⟩
theorem Tr.scr (hp:p∈W.z) (h:H p=some o) (hi:mY o=false):Tr K W H W (upd H p o'):=by
 refine ⟨fun _ _ h=>h,fun a vs k=>?_,fun a vs k=>?_,fun a vs k=>?_⟩
 ·rcases k with ⟨u,k,k2⟩ | k
  ·exact .inl ⟨u,by
    rw [upd_ne (fun e=>by subst e; rw [h] at k; cases k; cases hi)]
    exact k,k2⟩
  ·exact .inr k
 ·have:a≠p:=fun e=>k.2.2 (e▸hp)
  exact ⟨by rw [upd_ne this]; exact k.1,k.2⟩
 ·rcases k with ⟨k,k1,k2⟩ | k
  ·have:a≠p:=fun e=>k2 (e▸hp)
   refine .inl ⟨?_,k1,k2⟩
   rcases k with k | ⟨u,k⟩
   ·exact .inl (by rw [upd_ne this]; exact k)
   ·exact .inr ⟨u,by rw [upd_ne this]; exact k⟩
  ·exact .inr k
theorem Sim.mscr (s:Sim K mg W H m) (hp:p∈W.z) (h:H p=some o) (hi:mY o=false):Sim K mg W (upd H p o') m:=
 ⟨s.nd,s.len,fun i a c e1 e2=>(s.cell i a c e1 e2).tr (Tr.scr hp h hi) (upd_ne fun e=>s.sep a (List.mem_of_getElem? e1) (e▸hp)),s.sep,fun a ha=>jS (s.zs a ha)⟩
theorem ExtZ.mscr {W₀:Wd} {H₀:Hp} (e:ExtZ W₀ H₀ W H) (hp:H₀ p=none):ExtZ W₀ H₀ W (upd H p o'):=
 ⟨e.z,e.zs,e.pre,e.new,fun a u q k=>by rw [upd_ne (ne_of_none q hp)]; exact e.keep a u q k⟩
theorem Tr.unscr:Tr K (W.scr p) H W H:=by
 refine ⟨fun _ _ h=>h,fun _ _ h=>h,fun a vs h=>⟨h.1,h.2.1,fun q=>h.2.2 (List.mem_cons_of_mem _ q)⟩,fun a vs h=>?_⟩
 rcases h with ⟨k,k1,k2⟩ | k
 ·exact .inl ⟨k,k1,fun q=>k2 (List.mem_cons_of_mem _ q)⟩
 ·exact .inr k
theorem Sim.unscr (s:Sim K mg (W.scr p) H m):Sim K mg W H m:=
 ⟨s.nd,s.len,fun i a c e1 e2=>(s.cell i a c e1 e2).tr Tr.unscr rfl,fun a ha hz=>s.sep a ha (List.mem_cons_of_mem _ hz),fun a ha=>s.zs a (List.mem_cons_of_mem _ ha)⟩
end
section
variable {X:Cx} {E:XK} {pos:Pos}
theorem xU {Rx:RX} {vs:List Nat} {al:Bool} {ci:IM} {g:GM} {t:TM} {e:EM} {σ:SL} {H:Hp} {Q:VK} (h:rdE X.K X.mg E (mLc vs al ci g t e) σ H Q) :
  tLc (rd X.K X.mg E (RlI X.K X.mg Rx) ci) (rdG X.K X.mg E0 Rx vs g) (rdT X.K X.mg E0 t) (rdE X.K X.mg E0 e) vs σ H Q:=by
 obtain ⟨W,η,m,s,n,p⟩:=h
 refine ⟨W,η,m,s,n,(Post.bind (Rl:=RlI X.K X.mg Rx) p).imp fun J H1 ⟨W1,q1,m1,e1,s1,j1,p1⟩=>?_⟩
 obtain ⟨src,fuel⟩:=q1
 have j1:JOk X.K X.mg Rx W1 H1 J src:=j1
 intro A hA
 have n1:=n.ext e1
 have p1:Post X.K X.mg E (Rep X.K) W1 H1 Q ((bF src g t e (aR η vs) fuel 0 m1 []).bind fun acc m2=>mkL al acc m2):=p1
 refine ⟨fun i f H=>∃ W m acc as,ExtZ W1 H1 (W.scr A) H∧Ext W1 H1 W H∧Sim X.K X.mg (W.scr A) H m∧H A=some (.lst as)∧Reps X.K (W.scr A) H acc as∧acc.length≤sizeLine∧
   Post X.K X.mg E (Rep X.K) W1 H1 Q ((bF src g t e (aR η vs) f i m acc).bind fun acc m2=>mkL al acc m2),
  ⟨fuel,W1,m1,[],[],ExtZ.scr s1 hA,Ext.fresh hA,s1.scr hA,upd_same,bN,Nat.zero_le _,p1⟩,fun i f H ⟨W,m,acc,as,ez,ex,s2,hAs,ra,hl,p2⟩=>?_⟩
 have hAz:A∈(W.scr A).z:=List.mem_cons_self
 have nW:REnv X.K (W.scr A) H (aR η vs) (L2.wipe σ vs):=by
  have:=n1.wipe vs
  exact ⟨this.1,fun j d q=>let ⟨v,a,b⟩:=this.2 j d q; ⟨v,a,b.extZ ez⟩⟩
 have fin:Post X.K X.mg E (Rep X.K) W1 H1 Q (mkL al acc m)→Q (.ref A) H:=fun q=>by
  have s3:=s2.unscr
  have hni:A∉W.i:=fun hx=>s2.sep A hx hAz
  have hz:A∉W.z:=by
   rw [ex.z]
   exact s1.ninz hA
  have ra':=Reps.tr (Tr.unscr) ra
  cases al with
  | false=>exact q (.ref A) W H ex s3 (uw ⟨hAs,hni,hz⟩ ra')
  | true=>
   have e3:Ext W1 H1 (W.add A) H:=by
    obtain ⟨tt,et⟩:=ex.pre
    refine ⟨ex.z,⟨tt++[A],by show W.i++[A]=_; rw [et,List.append_assoc]⟩,fun a ha hn=>?_,ex.keep⟩
    rcases List.mem_append.mp ha with ha | ha
    ·exact ex.new a ha hn
    ·have:a=A:=by simpa using ha
     subst this
     exact ⟨hA,s1.ninz hA⟩
   have tr:Tr X.K (W.scr A) H (W.add A) H:=by
    refine ⟨fun j a h=>?_,fun _ _ h=>h,fun a vs h=>⟨h.1,fun ha=>?_,fun q=>h.2.2 (List.mem_cons_of_mem _ q)⟩,fun a vs h=>?_⟩
    ·have h:W.i[j]?=some a:=h
     show (W.i++[A])[j]?=some a
     rw [List.getElem?_append_left (List.getElem?_eq_some_iff.mp h).1]
     exact h
    ·rcases List.mem_append.mp ha with ha | ha
     ·exact h.2.1 ha
     ·have:a=A:=by simpa using ha
      exact h.2.2 (this▸hAz)
    ·rcases h with ⟨k,k1,k2⟩ | k
     ·refine .inl ⟨k,fun ha=>?_,fun q=>k2 (List.mem_cons_of_mem _ q)⟩
      rcases List.mem_append.mp ha with ha | ha
      ·exact k1 ha
      ·have:a=A:=by simpa using ha
       exact k2 (this▸hAz)
     ·exact .inr k
   refine q (.ref A) (W.add A) H e3 ⟨?_,?_,fun j a c h1 h2=>?_,fun a ha=>?_,s3.zs⟩ (nj ?_)
   ·refine List.nodup_append.mpr ⟨s3.nd,by simp,fun a ha b hb=>?_⟩
    rintro rfl
    have:a=A:=by simpa using hb
    exact hni (this▸ha)
   ·show (W.i++[A]).length=(m++[Cell.lst acc]).length
    rw [List.length_append,List.length_append,s3.len]
    rfl
   ·have h1:(W.i++[A])[j]?=some a:=h1
    by_cases hj:j < W.i.length
    ·rw [List.getElem?_append_left hj] at h1
     rw [List.getElem?_append_left (by rw [←s3.len]; exact hj)] at h2
     exact (s2.cell j a c h1 h2).tr tr rfl
    ·have hj':j=W.i.length:=by
      have:=(List.getElem?_eq_some_iff.mp h1).1
      rw [List.length_append] at this
      simp at this
      omega
     subst hj'
     rw [List.getElem?_append_right (Nat.le_refl _),Nat.sub_self] at h1
     rw [s3.len,List.getElem?_append_right (Nat.le_refl _),Nat.sub_self] at h2
     simp at h1 h2
     subst h1
     subst h2
     exact ⟨as,hAs,Reps.tr tr ra⟩
   ·rcases List.mem_append.mp ha with ha | ha
    ·exact s3.sep a ha
    ·have:a=A:=by simpa using ha
     rw [this]
     exact hz
   ·show (W.i++[A])[m.length]?=some A
    rw [←s3.len,List.getElem?_append_right (Nat.le_refl _),Nat.sub_self]
    rfl
 cases hs:src i m with
 | none=>cases f<;>(unfold bF at p2; rw [hs] at p2; exact p2.elim)
 | some o=>
  cases o with
  | none=>
   refine .inl ⟨j1.stop _ H m i ez s2 hs,fin ?_⟩
   cases f<;>(unfold bF at p2; rw [hs] at p2; exact p2)
  | some d=>
   cases f with
   | zero=>unfold bF at p2; rw [hs] at p2; exact p2.elim
   | succ f=>
    unfold bF at p2
    rw [hs] at p2
    dsimp only at p2
    obtain ⟨g1,g2⟩:=j1.go _ H m i d ez s2 hs
    refine .inr ⟨g1,fun H'=>∃ W m acc as,ExtZ W1 H1 (W.scr A) H'∧Ext W1 H1 W H'∧Sim X.K X.mg (W.scr A) H' m∧H' A=some (.lst as)∧Reps X.K (W.scr A) H' acc as∧acc.length≤sizeLine∧
     Post X.K X.mg E (Rep X.K) W1 H1 Q ((bF src g t e (aR η vs) f (i+1) m acc).bind fun acc m2=>mkL al acc m2),fun H' h=>⟨f,Nat.lt_succ_self f,h⟩,fun x H' hy=>?_⟩
    obtain ⟨W3,e3,s3,r3⟩:=g2 x H' hy
    have keepA:∀ {Wb:Wd} {Hb:Hp},Ext (W.scr A) H Wb Hb→Hb A=some (.lst as):=fun e=>e.keep A _ hAs (.inr fun hx=>s2.sep A hx hAz)
    have back:∀ {Wb:Wd} {Hb:Hp},Ext (W.scr A) H Wb Hb→Wb=(Wd.mk Wb.i W.z).scr A:=fun {Wb Hb} e=>by
     have:=e.z
     cases Wb
     simp only [Wd.scr] at this ⊢
     rw [this]
    have exb:∀ {Wb:Wd} {Hb:Hp},Ext (W.scr A) H Wb Hb→Ext W1 H1 (Wd.mk Wb.i W.z) Hb:=fun {Wb Hb} e=>by
     refine ⟨ex.z,(ez.trans e).pre,fun a ha hn=>⟨(ez.trans e).new a ha hn,?_⟩,(ez.trans e).keep⟩
     intro hz
     by_cases hw:a∈W.i
     ·exact (ex.new a hw hn).2 hz
     ·have:=(e.new a ha hw).2
      exact this (List.mem_cons_of_mem _ (by rw [ex.z]; exact hz))
    cases hg:g d (aR η vs) m with
    | stk=>rw [hg] at p2; exact p2.elim
    | exc x m'=>rw [hg] at p2; exact p2.elim
    | ok η4 m4=>
     rw [hg] at p2
     refine ⟨W3,aR η vs,m,d,s3,nW.ext e3,r3,?_⟩
     rw [hg]
     intro σ4 W4 H4 e4 s4 n4
     refine ⟨by rw [n4.2,wb],?_⟩
     have e34:=e3.trans e4
     have p2:Post X.K X.mg E (Rep X.K) W1 H1 Q (((noX (t η4 m4)).bind fun b m2=>if b=true then (noX (e η4 m2)).bind fun y m3=>if acc.length < sizeLine then bF src g t e (aR η vs) f (i+1) m3 (acc++[y]) else .stk
      else bF src g t e (aR η vs) f (i+1) m2 acc).bind fun acc m2=>mkL al acc m2):=p2
     cases ht:t η4 m4 with
     | stk=>rw [ht] at p2; exact p2.elim
     | exc x m'=>rw [ht] at p2; exact p2.elim
     | ok b m5=>
      rw [ht] at p2
      refine ⟨W4,η4,m4,s4,n4.1,?_⟩
      rw [ht]
      intro b' W5 H5 e5 s5 hb
      cases (show b=b' from hb)
      have e35:=e34.trans e5
      cases b with
      | false=>
       rw [if_neg Bool.false_ne_true]
       refine ⟨Wd.mk W5.i W.z,m5,acc,as,?_,exb e35,?_,keepA e35,?_,hl,p2⟩
       ·rw [←back e35]
        exact ez.trans e35
       ·rw [←back e35]
        exact s5
       ·rw [←back e35]
        exact ra.ext e35
      | true=>
       rw [if_pos rfl]
       have p2:Post X.K X.mg E (Rep X.K) W1 H1 Q (((noX (e η4 m5)).bind fun y m3=>if acc.length < sizeLine then bF src g t e (aR η vs) f (i+1) m3 (acc++[y]) else .stk).bind fun acc m2=>mkL al acc m2):=p2
       cases he:e η4 m5 with
       | stk=>rw [he] at p2; exact p2.elim
       | exc x m'=>rw [he] at p2; exact p2.elim
       | ok y m6=>
        rw [he] at p2
        have p2:Post X.K X.mg E (Rep X.K) W1 H1 Q ((if acc.length < sizeLine then bF src g t e (aR η vs) f (i+1) m6 (acc++[y]) else .stk).bind fun acc m2=>mkL al acc m2):=p2
        by_cases hlt:acc.length < sizeLine
        ·rw [if_pos hlt] at p2
         refine ⟨W5,η4,m5,s5,n4.1.ext e5,?_⟩
         rw [he]
         intro v W6 H6 e6 s6 r6
         have e36:=e35.trans e6
         have hA6:=keepA e36
         refine ⟨as,hA6,by rw [ra.length]; exact hlt,Wd.mk W6.i W.z,m6,acc++[y],as++[v],?_,?_,?_,upd_same,?_,?_,p2⟩
         ·rw [←back e36]
          exact (ez.trans e36).mscr hA
         ·have q:=exb e36
          exact ⟨q.z,q.pre,q.new,fun a o h k=>by rw [upd_ne (ne_of_none h hA)]; exact q.keep a o h k⟩
         ·rw [←back e36]
          exact s6.mscr (by rw [e36.z]; exact hAz) hA6 rfl
         ·rw [←back e36]
          have z6:A∈W6.z:=by rw [e36.z]; exact hAz
          exact Reps.tr (Tr.scr z6 hA6 rfl) ((ra.ext e36).append (fE r6))
         ·rw [List.length_append]
          exact hlt
        ·rw [if_neg hlt] at p2
         exact p2.elim
end
end Mir
namespace Mir
open PySem PySem.Spec PyProof.Rows L2
def gSub:D→D→Mem→R D
 | .int i,.int j,m=>.ok (.int (i - j)) m
 | _,_,_=>.stk
def kZ (i j:Int):Prop:=i.natAbs < 2^64∨j.natAbs < 2^64∨i.natAbs.log2+j.natAbs.log2 < 1000000
instance (i j:Int):Decidable (kZ i j):=by unfold kZ; infer_instance
def ng (j:Int):Prop:=j≠0∧j.natAbs.log2 < 9000
instance (j:Int):Decidable (ng j):=by unfold ng; infer_instance
def oA (i j:Int):Prop:=0≤j∧j≤1000000∧i.natAbs < 2^64
instance (i j:Int):Decidable (oA i j):=by unfold oA; infer_instance
def eN:D→D→Mem→R D
 | .int i,.int j,m=>if kZ i j then .ok (.int (i*j)) m else .stk
 | _,_,_=>.stk
def i8:D→D→Mem→R D
 | .int i,.int j,m=>if ng j then .ok (.int (i.fdiv j)) m else .stk
 | _,_,_=>.stk
def eA:D→D→Mem→R D
 | .int i,.int j,m=>if j=0 then .stk else .ok (.int (i.fmod j)) m
 | _,_,_=>.stk
def tL:D→D→Mem→R D
 | .int i,.int j,m=>if oA i j then .ok (.int (i^j.toNat)) m else .stk
 | _,_,_=>.stk
def wG:D→Mem→R D
 | .int i,m=>.ok (.int (-i)) m
 | _,_=>.stk
section
variable {X:Cx} {E:XK}
theorem ky:OpM X E (binaryOp .Sub) gSub:=by
 rintro pins s σ H x y v u Q I rx ry ⟨W,m,d,e,sm,rd,re,p⟩
 cases d<;>try exact p.elim
 cases e<;>try exact p.elim
 rw [rd.int'] at rx; rw [re.int'] at ry
 exact op_sub pins s σ H _ _ v u Q I rx ry ⟨_,_,rfl,rfl,p.now sm bw⟩
theorem mO:OpM X E (binaryOp .Mult) eN:=by
 rintro pins s σ H x y v u Q I rx ry ⟨W,m,d,e,sm,rd,re,p⟩
 cases d<;>try exact p.elim
 cases e<;>try exact p.elim
 rename_i i j
 rw [rd.int'] at rx; rw [re.int'] at ry
 unfold eN at p
 by_cases h:kZ i j
 ·simp only [h,if_true] at p
  rcases h with h | h | h
  ·exact op_mul pins s σ H _ _ v u Q I rx ry ⟨_,_,rfl,rfl,.inl ⟨by omega,by omega⟩,p.now sm bw⟩
  ·exact op_mul pins s σ H _ _ v u Q I rx ry ⟨_,_,rfl,rfl,.inr ⟨by omega,by omega⟩,p.now sm bw⟩
  ·exact op_mulW pins s σ H _ _ v u Q I rx ry ⟨_,_,rfl,rfl,h,p.now sm bw⟩
 ·simp only [h,if_false] at p
  exact p.elim
theorem pU:OpM X E (binaryOp .FloorDiv) i8:=by
 rintro pins s σ H x y v u Q I rx ry ⟨W,m,d,e,sm,rd,re,p⟩
 cases d<;>try exact p.elim
 cases e<;>try exact p.elim
 rename_i i j
 rw [rd.int'] at rx; rw [re.int'] at ry
 unfold i8 at p
 by_cases h:ng j
 ·simp only [h,if_true] at p
  have ho:OpR X (binaryOp .FloorDiv) (rI (fun _ j=>ng j) fun i j=>.int (i.fdiv j)):=opI fun _ _ _ _ _ _ _ hc q=>floordiv_int hc.1 q (.inl (PyProof.noPylong_of_log2 hc.2))
  exact ho pins s σ H _ _ v u Q I rx ry ⟨_,_,rfl,rfl,h,p.now sm bw⟩
 ·simp only [h,if_false] at p
  exact p.elim
theorem iD:OpM X E (binaryOp .Mod) eA:=by
 rintro pins s σ H x y v u Q I rx ry ⟨W,m,d,e,sm,rd,re,p⟩
 cases d<;>try exact p.elim
 cases e<;>try exact p.elim
 rename_i i j
 rw [rd.int'] at rx; rw [re.int'] at ry
 unfold eA at p
 by_cases h:j=0
 ·simp only [h,if_true] at p
  exact p.elim
 ·simp only [h,if_false] at p
  exact op_modN pins s σ H _ _ v u Q I rx ry ⟨_,_,rfl,rfl,h,p.now sm bw⟩
theorem zL:OpM X E (binaryOp .Pow) tL:=by
 rintro pins s σ H x y v u Q I rx ry ⟨W,m,d,e,sm,rd,re,p⟩
 cases d<;>try exact p.elim
 cases e<;>try exact p.elim
 rename_i i j
 rw [rd.int'] at rx; rw [re.int'] at ry
 unfold tL at p
 by_cases h:oA i j
 ·simp only [h,if_true] at p
  exact op_pow pins s σ H _ _ v u Q I rx ry ⟨_,_,rfl,rfl,h,p.now sm bw⟩
 ·simp only [h,if_false] at p
  exact p.elim
theorem zP:UnR X (unaryOp .USub) (rU1 X.K X.mg E wG):=by
 rintro pins s σ H x v Q I rx ⟨W,m,d,sm,rd,p⟩
 cases d<;>try exact p.elim
 rw [rd.int'] at rx
 exact un_neg pins s σ H _ v Q I rx ⟨_,rfl,p.now sm bw⟩
end
def w4 (al:Bool) (m:Mem):Option (List D)→Option (List D)→R D
 | some xs,some ys=>if xs.length+ys.length≤sizeLine then mkL al (xs++ys) m else .stk
 | _,_=>.stk
def bp (al:Bool) (d e:D) (m:Mem):R D:=match d,e with
 | .int i,.int j=>.ok (.int (i+j)) m
 | .str x,.str y=>if x.length+y.length≤sizeLine then .ok (.str (x++y)) m else .stk
 | .tup xs,.tup ys=>if xs.length+ys.length≤sizeLine then .ok (.tup (xs++ys)) m else .stk
 | d,e=>w4 al m (dD m d) (dD m e)
@[simp] theorem wI (al:Bool) (i j:Int) (m:Mem):bp al (.int i) (.int j) m=.ok (.int (i+j)) m:=nr rfl
section
variable {X:Cx} {E:XK}
theorem z8 {al:Bool} {pins:List (Addr×Obj)} {s:Shared} {σ:SL} {H:Hp} {x y:V} {v u:Value} {Q:VK} {W:Wd} {m:Mem} {d e:D} (I:Inv X pins σ H s) (rx:RelV x v) (ry:RelV y u) (sm:Sim X.K X.mg W H m) (rd:Rep X.K W H d x) (re:Rep X.K W H e y)
  (p:Post X.K X.mg E (Rep X.K) W H Q (w4 al m (dD m d) (dD m e))):wpAny (model X.prog X.w) X.A (binaryOp .Add v u) (EP X pins σ Q) X.xe s:=by
 cases h1:dD m d with
 | none=>rw [h1] at p; exact p.elim
 | some xs=>
  cases h2:dD m e with
  | none=>rw [h1,h2] at p; exact p.elim
  | some ys=>
   rw [h1,h2] at p
   have p:Post X.K X.mg E (Rep X.K) W H Q (if xs.length+ys.length≤sizeLine then mkL al (xs++ys) m else .stk):=p
   obtain ⟨a,vs,rfl,q1,q2⟩:=sm.own rd h1
   obtain ⟨b,us,rfl,q3,q4⟩:=sm.own re h2
   by_cases hl:xs.length+ys.length≤sizeLine
   ·rw [if_pos hl] at p
    exact op_cat pins s σ H _ _ v u Q I rx ry ⟨a,b,vs,us,rfl,rfl,q1,q3,by rw [q2.length,q4.length]; exact hl,fun pp hp=>sm.newL hp (q2.append q4) p⟩
   ·rw [if_neg hl] at p
    exact p.elim
theorem bq (al:Bool):OpM X E (binaryOp .Add) (bp al):=by
 rintro pins s σ H x y v u Q I rx ry ⟨W,m,d,e,sm,rd,re,p⟩
 unfold bp at p
 split at p
 ·rw [rd.int'] at rx; rw [re.int'] at ry
  exact op_add pins s σ H _ _ v u Q I rx ry ⟨_,_,rfl,rfl,p.now sm bw⟩
 ·rw [rd.str'] at rx; rw [re.str'] at ry
  split at p
  ·rename_i hl
   exact op_add_str pins s σ H _ _ v u Q I rx ry ⟨_,_,rfl,rfl,hl,p.now sm cW⟩
  ·exact p.elim
 ·rename_i xs ys
  obtain ⟨a,vs,rfl,q1,q2⟩:=rd.tupF'
  obtain ⟨b,us,rfl,q3,q4⟩:=re.tupF'
  split at p
  ·rename_i hl
   refine ze pins s σ H _ _ v u Q I rx ry ⟨a,b,vs,us,rfl,rfl,q1.t,q3.t,by rw [q2.length,q4.length]; exact hl,fun e=>?_,fun e1 e2=>?_,fun _ _ pp oo hp ho=>sm.newT hp ho (q2.append q4) p⟩
   ·have:xs=[]:=by
     have:=q2.length
     rw [e] at this
     exact List.length_eq_zero_iff.mp this.symm
    subst this
    exact p.now sm (iq q3 q4)
   ·have:ys=[]:=by
     have:=q4.length
     rw [e2] at this
     exact List.length_eq_zero_iff.mp this.symm
    subst this
    rw [List.append_nil] at p
    exact p.now sm (iq q1 q2)
  ·exact p.elim
 ·exact z8 I rx ry sm rd re p
end
def aF {α β:Type} (f:α→Option β):List α→Option (List β)
 | []=>some []
 | d ::ds=>match f d,aF f ds with
  | some a,some as=>some (a ::as)
  | _,_=>none
def toP (m:Mem):Nat→D→Option PyData
 | 0,_=>none
 | n+1,d=>match d with
  | .non=>some .none
  | .bl b=>some (.bool b)
  | .int i=>some (.int i)
  | .str x=>if PyData.strOk x=true then some (.str x) else none
  | .tup ds=>(aF (toP m n) ds).map .tuple
  | .lst ds=>(aF (toP m n) ds).map .list
  | .scr ds=>(aF (toP m n) ds).map .list
  | .ref i=>((bW m[i]?).bind fun ds=>aF (toP m n) ds).map .list
  | .fn _=>none
theorem dt {α β:Type} {f:α→Option β} {d:α} {ds:List α} {bs:List β} (h:aF f (d ::ds)=some bs):∃ a as,bs=a ::as∧f d=some a∧aF f ds=some as:=by
 unfold aF at h
 cases h1:f d with
 | none=>rw [h1] at h; simp at h
 | some a=>
  cases h2:aF f ds with
  | none=>rw [h1,h2] at h; simp at h
  | some as=>rw [h1,h2] at h; simp at h; exact ⟨a,as,h.symm,rfl,rfl⟩
section
variable {X:Cx} {E:XK} {W:Wd} {H:Hp} {m:Mem}
def POk (K:PySem.W.Frag) (H:Hp) (v:V) (p:PyData) (n:Nat):Prop:=Dp K H v p∧p.canLay0=true∧p.depth≤n
theorem kq {n:Nat} (ih:∀ (d:D) (v:V) (p:PyData),Rep X.K W H d v→toP m n d=some p→POk X.K H v p n):∀ (ds:List D) (vs:List V) (ps:List PyData),Reps X.K W H ds vs→aF (toP m n) ds=some ps→DpAll X.K H vs ps∧PyData.canLayAll0 ps=true∧PyData.depthAll ps≤n
 | [],vs,ps,r,h=>by
  rw [r.nil']
  cases h
  exact ⟨.nil,rfl,Nat.zero_le _⟩
 | d ::ds,vs,ps,r,h=>by
  obtain ⟨v,vr,rfl,r1,r2⟩:=r.cons'
  obtain ⟨a,as,rfl,h1,h2⟩:=dt h
  obtain ⟨q1,q2,q3⟩:=ih d v a r1 h1
  obtain ⟨k1,k2,k3⟩:=kq ih ds vr as r2 h2
  refine ⟨.cons q1 k1,?_,?_⟩
  ·show (PyData.canLay0 a && PyData.canLayAll0 as)=true
   rw [q2,k2]; rfl
  ·show max (PyData.depth a) (PyData.depthAll as)≤n
   omega
theorem jN (sm:Sim X.K X.mg W H m):∀ (n:Nat) (d:D) (v:V) (p:PyData),Rep X.K W H d v→toP m n d=some p→POk X.K H v p n
 | 0,d,v,p,r,h=>by cases h
 | n+1,d,v,p,r,h=>by
  have ih:=jN sm n
  have lst:∀ (ds:List D) (a:Addr) (vs:List V),SqL X.K H a vs→Reps X.K W H ds vs→(aF (toP m n) ds).map PyData.list=some p→POk X.K H (.ref a) p (n+1):=fun ds a vs q1 q2 h=>by
   cases hm:aF (toP m n) ds with
   | none=>rw [hm] at h; cases h
   | some ps=>
    rw [hm] at h; cases h
    obtain ⟨k1,k2,k3⟩:=kq ih ds vs ps q2 hm
    exact ⟨.lst q1 k1,k2,Nat.succ_le_succ k3⟩
  cases d with
  | non=>rw [r.non']; cases h; exact ⟨.non,rfl,Nat.zero_le _⟩
  | bl b=>rw [r.bl']; cases h; exact ⟨.bl b,rfl,Nat.zero_le _⟩
  | int i=>rw [r.int']; cases h; exact ⟨.int i,rfl,Nat.zero_le _⟩
  | str x=>
   rw [r.str']
   unfold toP at h
   by_cases hs:PyData.strOk x=true
   ·simp only [hs,if_true] at h
    cases h
    exact ⟨.str x,hs,Nat.zero_le _⟩
   ·simp only [hs] at h
    cases h
  | tup ds=>
   obtain ⟨a,vs,rfl,q1,q2⟩:=r.tup'
   have h:(aF (toP m n) ds).map PyData.tuple=some p:=h
   cases hm:aF (toP m n) ds with
   | none=>rw [hm] at h; cases h
   | some ps=>
    rw [hm] at h; cases h
    obtain ⟨k1,k2,k3⟩:=kq ih ds vs ps q2 hm
    exact ⟨.tup q1 k1,k2,Nat.succ_le_succ k3⟩
  | lst ds=>
   obtain ⟨a,vs,rfl,q1,q2⟩:=sm.lst r (ds:=ds) rfl
   exact lst ds a vs q1 q2 h
  | scr ds=>
   obtain ⟨a,vs,rfl,q1,q2⟩:=sm.lst r (ds:=ds) rfl
   exact lst ds a vs q1 q2 h
  | ref i=>
   have h:((bW m[i]?).bind fun ds=>aF (toP m n) ds).map PyData.list=some p:=h
   cases hl:bW m[i]? with
   | none=>rw [hl] at h; cases h
   | some ds=>
    rw [hl] at h
    obtain ⟨a,vs,rfl,q1,q2⟩:=sm.lst r (ds:=ds) hl
    exact lst ds a vs q1 q2 h
  | fn x=>cases h
end
def cn:D→Option V
 | .non=>some .non
 | .bl b=>some (.bl b)
 | .int i=>some (.int i)
 | .str x=>some (.str x)
 | _=>none
theorem jD {K:PySem.W.Frag} {W:Wd} {H:Hp} {d:D} {v x:V} (r:Rep K W H d v) (h:cn d=some x):v=x∧flatV x=true:=by
 cases d<;>try (cases h)
 ·exact ⟨r.non',rfl⟩
 ·exact ⟨r.bl',rfl⟩
 ·exact ⟨r.int',rfl⟩
 ·exact ⟨r.str',rfl⟩
def iO (neg:Bool) (m:Mem) (d e:D):R D:=match toP m 60 d,toP m 60 e with
 | some p,some q=>.ok (.bl (PyData.eqv p q^^neg)) m
 | _,_=>.stk
def gEq (neg:Bool) (d e:D) (m:Mem):R D:=match cn d,cn e with
 | some x,some y=>if scal x y=true then .ok (.bl (decide (x=y)^^neg)) m else iO neg m d e
 | _,_=>iO neg m d e
section
variable {X:Cx} {E:XK}
theorem ue {neg:Bool} (hu:X.A.units+64 < cLine) {pins:List (Addr×Obj)} {s:Shared} {σ:SL} {H:Hp} {x y:V} {v u:Value} {Q:VK} {W:Wd} {m:Mem} {d e:D} (I:Inv X pins σ H s) (rx:RelV x v) (ry:RelV y u) (sm:Sim X.K X.mg W H m) (rd:Rep X.K W H d x) (re:Rep X.K W H e y)
  (p:Post X.K X.mg E (Rep X.K) W H Q (iO neg m d e)):wpAny (model X.prog X.w) X.A (compareOp (if neg then .NotEq else .Eq) v u) (EP X pins σ Q) X.xe s:=by
 unfold iO at p
 split at p
 ·rename_i p1 p2 h1 h2
  obtain ⟨a1,a2,a3⟩:=jN sm 60 d x p1 rd h1
  obtain ⟨b1,b2,b3⟩:=jN sm 60 e y p2 re h2
  have s1:SeqAt.shaped p1=true:=by
   unfold SeqAt.shaped
   rw [a2,decide_eq_true (by omega)]; rfl
  have s2:SeqAt.shaped p2=true:=by
   unfold SeqAt.shaped
   rw [b2,decide_eq_true (by omega)]; rfl
  cases neg with
  | false=>exact op_eqD hu pins s σ H _ _ v u Q I rx ry ⟨p1,p2,a1,b1,s1,s2,by simpa using p.now sm bf⟩
  | true=>exact op_neD hu pins s σ H _ _ v u Q I rx ry ⟨p1,p2,a1,b1,s1,s2,by simpa using p.now sm bf⟩
 ·exact p.elim
theorem vH {neg:Bool} (hu:X.A.units+64 < cLine):OpM X E (compareOp (if neg then .NotEq else .Eq)) (gEq neg):=by
 rintro pins s σ H x y v u Q I rx ry ⟨W,m,d,e,sm,rd,re,p⟩
 unfold gEq at p
 split at p
 ·rename_i x' y' h1 h2
  obtain ⟨e1,_⟩:=jD rd h1
  obtain ⟨e2,_⟩:=jD re h2
  split at p
  ·rename_i hs
   subst e1 e2
   cases neg with
   | false=>exact op_eq pins s σ H _ _ v u Q I rx ry ⟨hs,by simpa using p.now sm bf⟩
   | true=>exact op_ne pins s σ H _ _ v u Q I rx ry ⟨hs,by simpa using p.now sm bf⟩
  ·exact ue hu I rx ry sm rd re p
 ·exact ue hu I rx ry sm rd re p
theorem dH (hu:X.A.units+64 < cLine):OpM X E (compareOp .Eq) (gEq false):=vH (neg:=false) hu
theorem eX (hu:X.A.units+64 < cLine):OpM X E (compareOp .NotEq) (gEq true):=vH (neg:=true) hu
end
def kn (fi:Int→Int→Bool) (fs:List Nat→List Nat→Bool):D→D→Mem→R D
 | .int i,.int j,m=>.ok (.bl (fi i j)) m
 | .str x,.str y,m=>.ok (.bl (fs x.cps.toList y.cps.toList)) m
 | _,_,_=>.stk
abbrev gLt:=kn (fun i j=>decide (i < j)) (fun x y=>decide (x < y))
abbrev gLe:=kn (fun i j=>decide (i≤j)) (fun x y=>!decide (y < x))
abbrev gGt:=kn (fun i j=>decide (j < i)) (fun x y=>decide (y < x))
abbrev gGe:=kn (fun i j=>decide (j≤i)) (fun x y=>!decide (x < y))
section
variable {X:Cx} {E:XK}
theorem oM:OpM X E (compareOp .Lt) gLt:=by
 rintro pins s σ H x y v u Q I rx ry ⟨W,m,d,e,sm,rd,re,p⟩
 unfold gLt kn at p
 split at p
 ·rw [rd.int'] at rx; rw [re.int'] at ry
  exact op_lt pins s σ H _ _ v u Q I rx ry ⟨_,_,rfl,rfl,p.now sm bf⟩
 ·rw [rd.str'] at rx; rw [re.str'] at ry
  exact op_lt_str pins s σ H _ _ v u Q I rx ry ⟨_,_,rfl,rfl,p.now sm bf⟩
 ·exact p.elim
theorem mZ:OpM X E (compareOp .LtE) gLe:=by
 rintro pins s σ H x y v u Q I rx ry ⟨W,m,d,e,sm,rd,re,p⟩
 unfold gLe kn at p
 split at p
 ·rw [rd.int'] at rx; rw [re.int'] at ry
  exact op_le pins s σ H _ _ v u Q I rx ry ⟨_,_,rfl,rfl,p.now sm bf⟩
 ·rw [rd.str'] at rx; rw [re.str'] at ry
  exact op_le_str pins s σ H _ _ v u Q I rx ry ⟨_,_,rfl,rfl,p.now sm bf⟩
 ·exact p.elim
theorem jY:OpM X E (compareOp .Gt) gGt:=by
 rintro pins s σ H x y v u Q I rx ry ⟨W,m,d,e,sm,rd,re,p⟩
 unfold gGt kn at p
 split at p
 ·rw [rd.int'] at rx; rw [re.int'] at ry
  exact op_gt pins s σ H _ _ v u Q I rx ry ⟨_,_,rfl,rfl,p.now sm bf⟩
 ·rw [rd.str'] at rx; rw [re.str'] at ry
  exact op_gt_str pins s σ H _ _ v u Q I rx ry ⟨_,_,rfl,rfl,p.now sm bf⟩
 ·exact p.elim
theorem rS:OpM X E (compareOp .GtE) gGe:=by
 rintro pins s σ H x y v u Q I rx ry ⟨W,m,d,e,sm,rd,re,p⟩
 unfold gGe kn at p
 split at p
 ·rw [rd.int'] at rx; rw [re.int'] at ry
  exact op_ge pins s σ H _ _ v u Q I rx ry ⟨_,_,rfl,rfl,p.now sm bf⟩
 ·rw [rd.str'] at rx; rw [re.str'] at ry
  exact op_ge_str pins s σ H _ _ v u Q I rx ry ⟨_,_,rfl,rfl,p.now sm bf⟩
 ·exact p.elim
end
end Mir
namespace Mir
open PySem PySem.Spec PyProof.Rows L2
def xZ (x y:Str):Bool:=match x.cps.toList with
 | [c]=>decide (c∈y.cps.toList)
 | _=>!(Builtin.Str.occurrences y x 0 y.length 1).isEmpty
def rN (m:Mem) (d:D) (ds:List D):Option Bool:=match toP m 60 d,aF (toP m 59) ds with
 | some p,some ps=>some (ps.any fun z=>PyData.eqv z p)
 | _,_=>none
def gT (d:D) (ds:List D):Option Bool:=match cn d,aF cn ds with
 | some x,some xs=>some (inV x xs)
 | _,_=>none
def bR (neg:Bool) (m:Mem):Option Bool→R D
 | some b=>.ok (.bl (b^^neg)) m
 | none=>.stk
def pX (m:Mem) (d e:D):Option Bool:=match e with
 | .tup ds=>gT d ds
 | e=>match ba m e with
  | some ds=>match gT d ds with
   | some b=>some b
   | none=>rN m d ds
  | none=>none
def gIn (neg:Bool) (d e:D) (m:Mem):R D:=match d,e with
 | .str x,.str y=>.ok (.bl (xZ x y^^neg)) m
 | d,e=>bR neg m (pX m d e)
section
variable {X:Cx} {E:XK}
theorem mF {W:Wd} {H:Hp}:∀ {ds:List D} {vs xs:List V},Reps X.K W H ds vs→aF cn ds=some xs→vs=xs∧xs.all flatV=true
 | [],vs,xs,r,h=>by rw [r.nil']; cases h; exact ⟨rfl,rfl⟩
 | d ::ds,vs,xs,r,h=>by
  obtain ⟨v,vr,rfl,r1,r2⟩:=r.cons'
  obtain ⟨a,as,rfl,h1,h2⟩:=dt h
  obtain ⟨e1,e2⟩:=jD r1 h1
  obtain ⟨e3,e4⟩:=mF r2 h2
  subst e1 e3
  exact ⟨rfl,by rw [List.all_cons,e2,e4]; rfl⟩
abbrev vk (neg:Bool):CmpOp:=if neg then .NotIn else .In
theorem qC {neg:Bool} {pins:List (Addr×Obj)} {s:Shared} {σ:SL} {H:Hp} {x:V} {v u:Value} {Q:VK} {W:Wd} {m:Mem} {d:D} {b:Bool} {a:Addr} {ds:List D} {vs:List V} (I:Inv X pins σ H s) (rx:RelV x v) (ry:RelV (.ref a) u) (sm:Sim X.K X.mg W H m) (rd:Rep X.K W H d x)
  (rs:Reps X.K W H ds vs) (hq:SqL X.K H a vs∨SqT X.K H a vs) (h:gT d ds=some b) (p:Post X.K X.mg E (Rep X.K) W H Q (bR neg m (some b))):wpAny (model X.prog X.w) X.A (compareOp (vk neg) v u) (EP X pins σ Q) X.xe s:=by
 unfold gT at h
 split at h
 ·rename_i x' xs' h1 h2
  cases h
  obtain ⟨e1,e2⟩:=jD rd h1
  obtain ⟨e3,e4⟩:=mF rs h2
  subst e1 e3
  cases neg with
  | false=>exact op_in_seq pins s σ H _ _ v u Q I rx ry ⟨a,_,rfl,hq,e2,e4,by simpa using p.now sm bf⟩
  | true=>exact op_notIn_seq pins s σ H _ _ v u Q I rx ry ⟨a,_,rfl,hq,e2,e4,by simpa using p.now sm bf⟩
 ·cases h
theorem vE {neg:Bool} (hu:X.A.units+65 < cLine):OpM X E (compareOp (vk neg)) (gIn neg):=by
 rintro pins s σ H x y v u Q I rx ry ⟨W,m,d,e,sm,rd,re,p⟩
 unfold gIn at p
 split at p
 ·rename_i x' y'
  rw [rd.str'] at rx; rw [re.str'] at ry
  unfold xZ at p
  split at p
  ·rename_i c hc
   obtain ⟨⟨l⟩⟩:=x'
   simp only at hc
   subst hc
   cases neg with
   | false=>exact op_in_sign pins s σ H _ _ v u Q I rx ry ⟨c,_,rfl,rfl,by simpa using p.now sm bf⟩
   | true=>exact op_notIn_sign pins s σ H _ _ v u Q I rx ry ⟨c,_,rfl,rfl,by simpa using p.now sm bf⟩
  ·cases neg with
   | false=>exact op_in_str pins s σ H _ _ v u Q I rx ry ⟨_,_,rfl,rfl,by simpa using p.now sm bf⟩
   | true=>exact op_notin_str pins s σ H _ _ v u Q I rx ry ⟨_,_,rfl,rfl,by simpa using p.now sm bf⟩
 ·unfold pX at p
  split at p
  ·rename_i ds _
   obtain ⟨a,vs,rfl,q1,q2⟩:=re.tup'
   cases h:gT d ds with
   | none=>rw [h] at p; exact p.elim
   | some b=>rw [h] at p; exact qC I rx ry sm rd q2 (.inr q1) h p
  ·split at p
   ·rename_i ds hl
    obtain ⟨a,vs,rfl,q1,q2⟩:=sm.lst re hl
    split at p
    ·rename_i b h
     exact qC I rx ry sm rd q2 (.inl q1) h p
    ·cases h:rN m d ds with
     | none=>rw [h] at p; exact p.elim
     | some b=>
      rw [h] at p
      unfold rN at h
      split at h
      ·rename_i p1 ps h1 h2
       cases h
       obtain ⟨a1,a2,a3⟩:=jN sm 60 d x p1 rd h1
       obtain ⟨b1,b2,b3⟩:=kq (jN sm 59) ds vs ps q2 h2
       have s1:SeqAt.shaped p1=true:=by
        unfold SeqAt.shaped
        rw [a2,decide_eq_true (by omega)]; rfl
       have s2:SeqAt.shaped (.list ps)=true:=by
        unfold SeqAt.shaped
        have e1:PyData.canLay0 (.list ps)=true:=b2
        have e2:PyData.depth (.list ps)≤60:=Nat.succ_le_succ b3
        rw [e1,decide_eq_true (by omega)]; rfl
       cases neg with
       | false=>exact op_inD hu pins s σ H _ _ v u Q I rx ry ⟨p1,ps,a1,.lst q1 b1,s1,s2,by simpa using p.now sm bf⟩
       | true=>exact op_notInD hu pins s σ H _ _ v u Q I rx ry ⟨p1,ps,a1,.lst q1 b1,s1,s2,by simpa using p.now sm bf⟩
      ·cases h
   ·exact p.elim
theorem oH (hu:X.A.units+65 < cLine):OpM X E (compareOp .In) (gIn false):=vE (neg:=false) hu
theorem jk (hu:X.A.units+65 < cLine):OpM X E (compareOp .NotIn) (gIn true):=vE (neg:=true) hu
end
def isNon:D→Bool
 | .non=>true
 | _=>false
def gIs (neg:Bool):D→D→Mem→R D
 | d,.non,m=>.ok (.bl (isNon d^^neg)) m
 | _,_,_=>.stk
section
variable {X:Cx} {E:XK}
theorem qr {W:Wd} {H:Hp} {d:D} {v:V} (r:Rep X.K W H d v):decide (v=.non)=isNon d:=by
 cases d with
 | non=>rw [r.non']; rfl
 | bl b=>rw [r.bl']; rfl
 | int i=>rw [r.int']; rfl
 | str x=>rw [r.str']; rfl
 | tup ds=>obtain ⟨a,vs,rfl,_⟩:=r.tup'; rfl
 | lst ds=>obtain ⟨a,vs,rfl,_⟩:=r.lst'; rfl
 | scr ds=>obtain ⟨a,vs,rfl,_⟩:=r.scr'; rfl
 | ref i=>obtain ⟨a,rfl,_⟩:=r.ref'; rfl
 | fn x=>obtain ⟨a,rfl,_⟩:=r.fn'; rfl
theorem kf:OpM X E (compareOp .Is) (gIs false):=by
 rintro pins s σ H x y v u Q I rx ry ⟨W,m,d,e,sm,rd,re,p⟩
 cases e<;>try exact p.elim
 rw [re.non'] at ry
 refine op_isN pins s σ H _ _ v u Q I rx ry ⟨rfl,?_⟩
 rw [qr rd]
 have:=Post.now (b:=V.bl (isNon d^^false)) p sm bf
 simpa using this
theorem gu:OpM X E (compareOp .IsNot) (gIs true):=by
 rintro pins s σ H x y v u Q I rx ry ⟨W,m,d,e,sm,rd,re,p⟩
 cases e<;>try exact p.elim
 rw [re.non'] at ry
 refine op_notN pins s σ H _ _ v u Q I rx ry ⟨rfl,?_⟩
 rw [qr rd]
 have:=Post.now (b:=V.bl (isNon d^^true)) p sm bf
 simpa using this
end
def oR (m:Mem):Option D→R D
 | some d=>.ok d m
 | none=>.stk
def qd (m:Mem) (d:D) (i:Int):Option D:=match d with
 | .tup ds=>atI ds i
 | .str z=>if z.length≤sizeLine then (atI z.cps.toList i).map fun c=>.str ⟨#[c]⟩ else none
 | d=>(ba m d).bind fun ds=>atI ds i
def gIx (d e:D) (m:Mem):R D:=match e with
 | .int i=>oR m (qd m d i)
 | _=>.stk
def cutD (xs:List D) (lo hi:Option Int):List D:=(xs.drop (HT.sIx xs.length 0 lo)).take (HT.sIx xs.length xs.length hi - HT.sIx xs.length 0 lo)
def lR (al:Bool) (m:Mem):Option (List D)→R D
 | some ds=>mkL al ds m
 | none=>.stk
def gSl (al:Bool) (d:D) (lo hi:Option Int) (m:Mem):R D:=match d with
 | .str z=>if z.length≤sizeLine then .ok (.str (cutS z lo hi)) m else .stk
 | .tup ds=>.ok (.tup (cutD ds lo hi)) m
 | d=>lR al m ((ba m d).map fun ds=>cutD ds lo hi)
section
variable {X:Cx} {E:XK}
theorem ux {W:Wd} {H:Hp} {ds:List D} {vs:List V} {i:Int} {d:D} (r:Reps X.K W H ds vs) (h:atI ds i=some d):∃ v,atI vs i=some v∧Rep X.K W H d v:=by
 unfold atI at h ⊢
 rw [r.length]
 cases hj:ixN ds.length i with
 | none=>rw [hj] at h; cases h
 | some j=>rw [hj] at h; exact r.get h
theorem uM {W:Wd} {H:Hp} {ds:List D} {vs:List V} {lo hi:Option Int} (r:Reps X.K W H ds vs):Reps X.K W H (cutD ds lo hi) (cutV vs lo hi):=by
 unfold cutD cutV
 rw [r.length]
 exact (r.drop _).take _
theorem aw:IxR X (rM X.K X.mg E gIx):=by
 rintro value slice pins s σ H x y v u Q I rx ry ⟨W,m,d,e,sm,rd,re,p⟩ hs
 cases e<;>try exact p.elim
 rename_i i
 rw [re.int'] at ry
 replace p:Post X.K X.mg E (Rep X.K) W H Q (oR m (qd m d i)):=p
 cases h:qd m d i with
 | none=>rw [h] at p; exact p.elim
 | some z=>
  rw [h] at p
  replace p:Post X.K X.mg E (Rep X.K) W H Q (.ok z m):=p
  have lst:∀ ds,ba m d=some ds→atI ds i=some z→wpAny (model X.prog X.w) X.A (subscriptTail value slice v u) (EP X pins σ Q) X.xe s:=fun ds h1 h2=>by
   obtain ⟨a,vs,rfl,q1,q2⟩:=sm.lst rd h1
   obtain ⟨w,k1,k2⟩:=ux q2 h2
   exact ix_list value slice pins s σ H _ _ v u Q I rx ry ⟨a,vs,i,w,rfl,rfl,q1,k1,p.now sm k2⟩ hs
  cases d with
  | tup ds=>
   obtain ⟨a,vs,rfl,q1,q2⟩:=rd.tup'
   obtain ⟨w,k1,k2⟩:=ux q2 h
   exact ix_tup value slice pins s σ H _ _ v u Q I rx ry ⟨a,vs,i,w,rfl,rfl,q1,k1,p.now sm k2⟩ hs
  | str t=>
   rw [rd.str'] at rx
   unfold qd at h
   by_cases hz:t.length≤sizeLine
   ·simp only [hz,if_true] at h
    cases hc:atI t.cps.toList i with
    | none=>rw [hc] at h; cases h
    | some c=>
     rw [hc] at h
     cases h
     exact ix_str value slice pins s σ H _ _ v u Q I rx ry ⟨t,i,c,rfl,rfl,hz,hc,p.now sm cW⟩ hs
   ·simp only [hz,if_false] at h
    cases h
  | lst ds=>exact lst ds rfl h
  | scr ds=>exact lst ds rfl h
  | ref j=>
   have h:(ba m (.ref j)).bind (fun ds=>atI ds i)=some z:=h
   cases hl:ba m (.ref j) with
   | none=>rw [hl] at h; cases h
   | some ds=>rw [hl] at h; exact lst ds hl h
  | _=>cases h
theorem rQ (al:Bool):SlR X (rSM X.K X.mg E (gSl al)):=by
 rintro pins s σ H x v vl vu lo hi sl Q I rx hs pl pu ⟨W,m,d,sm,rd,p⟩
 have lst:∀ ds,ba m d=some ds→Post X.K X.mg E (Rep X.K) W H Q (mkL al (cutD ds lo hi) m)→∃ T id,typeLookup (.type T) "__getitem__"=pure (some (.builtin id))∧s.TypeIs v T∧wpAny (model X.prog X.w) X.A (getItem v (.ref sl)) (EP X pins σ Q) X.xe s:=fun ds h1 p=>by
  obtain ⟨a,vs,rfl,q1,q2⟩:=sm.lst rd h1
  exact sl_list pins s σ H _ v vl vu lo hi sl Q I rx hs pl pu ⟨a,vs,rfl,q1,fun pp hp=>sm.newL hp (uM q2) p⟩
 cases d with
 | str z=>
  rw [rd.str'] at rx
  unfold gSl at p
  by_cases hz:z.length≤sizeLine
  ·simp only [hz,if_true] at p
   exact sl_str pins s σ H _ v vl vu lo hi sl Q I rx hs pl pu ⟨z,rfl,hz,p.now sm cW⟩
  ·simp only [hz,if_false] at p
   exact p.elim
 | tup ds=>
  obtain ⟨a,vs,rfl,q1,q2⟩:=rd.tupF'
  have p:Post X.K X.mg E (Rep X.K) W H Q (.ok (.tup (cutD ds lo hi)) m):=p
  refine zg pins s σ H _ v vl vu lo hi sl Q I rx hs pl pu ⟨a,vs,rfl,q1.t,fun hw=>?_,fun _ pp oo hp ho=>sm.newT hp ho (uM q2) p⟩
  have e:cutD ds lo hi=ds:=by
   unfold cutD
   rw [q2.length] at hw
   rw [hw.1,hw.2]
   simp
  rw [e] at p
  exact p.now sm (iq q1 q2)
 | lst ds=>exact lst ds rfl p
 | scr ds=>exact lst ds rfl p
 | ref j=>
  have p:Post X.K X.mg E (Rep X.K) W H Q (lR al m ((ba m (.ref j)).map fun ds=>cutD ds lo hi)):=p
  cases hl:ba m (.ref j) with
  | none=>rw [hl] at p; exact p.elim
  | some ds=>rw [hl] at p; exact lst ds hl p
 | _=>exact p.elim
end
def vn (m:Mem) (i:Nat) (k:Int) (d:D):R Unit:=match bW m[i]? with
 | some ds=>match ixN ds.length k with
  | some j=>.ok () (m.set i (.lst (ds.set j d)))
  | none=>.stk
 | none=>.stk
def ow (o i d:D) (m:Mem):R Unit:=match o,i with
 | .ref j,.int k=>vn m j k d
 | _,_=>.stk
def eQ (co ci:EM):GM:=fun d η m=>(co η m).bind fun o m1=>(ci η m1).bind fun i m2=>(ow o i d m2).bind fun _ m3=>.ok η m3
def Ag (K:PySem.W.Frag) (mg:Str→Option Value) (E:XK):V→V→V→Hp→(Hp→Prop)→Prop:=fun o i v H Q=>∃ W m do' di d,Sim K mg W H m∧Rep K W H do' o∧Rep K W H di i∧Rep K W H d v∧Post K mg E (fun _ _ _ (_:Unit)=>True) W H (fun _ H'=>Q H') (ow do' di d m)
section
variable {X:Cx} {E:XK} {pos:Pos}
theorem As:PSet X (Ag X.K X.mg E):=by
 rintro pins s σ H o i v ov iv u Q I ro ri rv ⟨W,m,do',di,d,sm,r1,r2,r3,p⟩
 unfold ow at p
 split at p
 ·rename_i j k
  obtain ⟨a,rfl,e2⟩:=r1.ref'
  rw [r2.int'] at ri
  unfold vn at p
  split at p
  ·rename_i ds hl
   split at p
   ·rename_i t ht
    have hc:m[j]?=some (.lst ds):=by
     cases hm:m[j]? with
     | none=>rw [hm] at hl; cases hl
     | some c=>cases c<;>(rw [hm] at hl; cases hl)<;>rfl
    obtain ⟨vs,q1,q2⟩:=sm.cell j a _ e2 hc
    have ha:a∈W.i:=List.mem_of_getElem? e2
    refine set_list pins s σ H _ _ v ov iv u Q I ro ri rv ⟨a,vs,k,t,rfl,rfl,q1,by rw [q2.length]; exact ht,?_⟩
    have ex:Ext W H W (upd H a (.lst (vs.set t v))):=Ext.mut ha q1 rfl
    exact p () W _ ex (sm.mut e2 ⟨vs.set t v,upd_same,((q2.ext ex).set t (r3.ext ex))⟩) True.intro
   ·exact p.elim
  ·exact p.elim
 ·exact p.elim
theorem jO {vs:List Nat} {o i:Expr} {co ci:EM} (ho:MEx X E o co) (hi:MEx X E i ci)
  (ha:∀ v,assign (.Subscript o i pos) X.env v=(do
   let ov ← holding [v] (eval o X.env)
   let iv ← holding [v,ov] (eval i X.env)
   standAt pos
   holding [v,ov,iv] (setItem ov iv v)
   release [v,ov,iv] []):=by intro _; rfl):MG X E Rep vs (.Subscript o i pos) (eQ co ci):=by
 refine ⟨fun pins s σ H v u Q I r h=>(pg_sub ho hi (As (E:=E)) ha).run pins s σ H v u Q I r ?_⟩
 obtain ⟨W,η,m,d,s,n,rp,p⟩:=h
 refine ⟨W,η,m,s,n,(Post.bind (Rl:=Rep X.K) p).imp fun x H1 ⟨W1,d1,m1,e1,s1,r1,p1⟩=>?_⟩
 refine ⟨W1,η,m1,s1,n.ext e1,(Post.bind (Rl:=Rep X.K) p1).imp fun y H2 ⟨W2,d2,m2,e2,s2,r2,p2⟩=>?_⟩
 refine ⟨W2,m2,d1,d2,d,s2,r1.ext e2,r2,(rp.ext e1).ext e2,(Post.bind (Rl:=fun _ _ _ (_:Unit)=>True) p2).imp fun z H3 ⟨W3,_,m3,e3,s3,_,p3⟩=>?_⟩
 exact p3.now s3 ⟨((n.ext e1).ext e2).ext e3,rfl⟩
end
def lenOf (m:Mem):D→Option Nat
 | .str x=>if x.length≤sizeLine then some x.length else none
 | .tup ds=>some ds.length
 | d=>(ba m d).map List.length
def aU (ds:List D) (m:Mem):R D:=match ds with
 | [d]=>match lenOf m d with
  | some n=>.ok (.int n) m
  | none=>.stk
 | _=>.stk
def fx (m:Mem):D→Option (List D)
 | .tup ds=>some ds
 | d=>ba m d
def fY (al:Bool) (ds:List D) (m:Mem):R D:=match ds with
 | [d]=>lR al m (fx m d)
 | _=>.stk
def br (ds:List D) (m:Mem):R D:=match ds with
 | [d]=>match fx m d with
  | some ds=>.ok (.tup ds) m
  | none=>.stk
 | _=>.stk
def boolOf:D→Option Bool
 | .bl b=>some b
 | _=>none
def intOf:D→Option Int
 | .int i=>some i
 | _=>none
def strOf:D→Option Str
 | .str i=>some i
 | _=>none
def fC (f:List Bool→Bool) (ds:List D) (m:Mem):R D:=match ds with
 | [d]=>match (ba m d).bind (aF boolOf) with
  | some bs=>.ok (.bl (f bs)) m
  | none=>.stk
 | _=>.stk
section
variable {X:Cx} {E:XK}
theorem Sim.seq {K:PySem.W.Frag} {mg:Str→Option Value} {W:Wd} {H:Hp} {m:Mem} {d:D} {v:V} {ds:List D} (s:Sim K mg W H m) (r:Rep K W H d v) (h:fx m d=some ds):∃ a vs,v=.ref a∧(SqL K H a vs∨SqT K H a vs)∧Reps K W H ds vs:=by
 unfold fx at h
 split at h
 ·cases h
  obtain ⟨a,vs,rfl,q1,q2⟩:=r.tup'
  exact ⟨a,vs,rfl,.inr q1,q2⟩
 ·obtain ⟨a,vs,rfl,q1,q2⟩:=s.lst r h
  exact ⟨a,vs,rfl,.inl q1,q2⟩
theorem aT:CallR X (.builtin "len") (rCM X.K X.mg E aU):=by
 rintro pins s σ H xs us Q I rv ⟨W,m,ds,sm,rs,p⟩
 unfold aU at p
 split at p
 ·rename_i d
  obtain ⟨v,vr,rfl,r1,r2⟩:=rs.cons'
  rw [r2.nil'] at rv
  split at p
  ·rename_i n hn
   unfold lenOf at hn
   split at hn
   ·rename_i x
    rw [r1.str'] at rv
    split at hn
    ·rename_i hz
     cases hn
     exact call_len_str pins s σ H _ us Q I rv ⟨x,rfl,hz,p.now sm bw⟩
    ·cases hn
   ·rename_i ds
    cases hn
    obtain ⟨a,vs,rfl,q1,q2⟩:=r1.tup'
    exact call_len_seq pins s σ H _ us Q I rv ⟨a,vs,rfl,.inr q1,by rw [q2.length]; exact p.now sm bw⟩
   ·cases hl:ba m d with
    | none=>rw [hl] at hn; cases hn
    | some ds=>
     rw [hl] at hn
     cases hn
     obtain ⟨a,vs,rfl,q1,q2⟩:=sm.lst r1 hl
     exact call_len_seq pins s σ H _ us Q I rv ⟨a,vs,rfl,.inl q1,by rw [q2.length]; exact p.now sm bw⟩
  ·exact p.elim
 ·exact p.elim
theorem mW (al:Bool):CallR X (.type "list") (rCM X.K X.mg E (fY al)):=by
 rintro pins s σ H xs us Q I rv ⟨W,m,ds,sm,rs,p⟩
 unfold fY at p
 split at p
 ·rename_i d
  obtain ⟨v,vr,rfl,r1,r2⟩:=rs.cons'
  rw [r2.nil'] at rv
  cases h:fx m d with
  | none=>rw [h] at p; exact p.elim
  | some ds=>
   rw [h] at p
   obtain ⟨a,vs,rfl,q1,q2⟩:=sm.seq r1 h
   exact call_list_of pins s σ H _ us Q I rv ⟨a,vs,rfl,q1,fun pp hp=>sm.newL hp q2 p⟩
 ·exact p.elim
theorem bu:CallR X (.type "tuple") (rCM X.K X.mg E br):=by
 rintro pins s σ H xs us Q I rv ⟨W,m,ds,sm,rs,p⟩
 unfold br at p
 split at p
 ·rename_i d
  obtain ⟨v,vr,rfl,r1,r2⟩:=rs.cons'
  rw [r2.nil'] at rv
  split at p
  ·rename_i ds h
   unfold fx at h
   split at h
   ·cases h
    obtain ⟨a,vs,rfl,q1,q2⟩:=r1.tupF'
    exact nM pins s σ H _ us Q I rv ⟨a,vs,rfl,.inr ⟨q1.t,p.now sm (iq q1 q2)⟩⟩
   ·obtain ⟨a,vs,rfl,q1,q2⟩:=sm.lst r1 h
    exact nM pins s σ H _ us Q I rv ⟨a,vs,rfl,.inl ⟨q1,fun pp oo hp ho=>sm.newT hp ho q2 p⟩⟩
  ·exact p.elim
 ·exact p.elim
theorem mj {W:Wd} {H:Hp}:∀ {ds:List D} {vs:List V} {bs:List Bool},Reps X.K W H ds vs→aF boolOf ds=some bs→vs=bs.map V.bl
 | [],vs,bs,r,h=>by rw [r.nil']; cases h; rfl
 | d ::ds,vs,bs,r,h=>by
  obtain ⟨v,vr,rfl,r1,r2⟩:=r.cons'
  obtain ⟨a,as,rfl,h1,h2⟩:=dt h
  rw [mj r2 h2]
  cases d<;>cases h1
  rw [r1.bl']; rfl
theorem ints_rep {W:Wd} {H:Hp}:∀ {ds:List D} {vs:List V} {bs:List Int},Reps X.K W H ds vs→aF intOf ds=some bs→vs=bs.map V.int
 | [],vs,bs,r,h=>by rw [r.nil']; cases h; rfl
 | d ::ds,vs,bs,r,h=>by
  obtain ⟨v,vr,rfl,r1,r2⟩:=r.cons'
  obtain ⟨a,as,rfl,h1,h2⟩:=dt h
  rw [ints_rep r2 h2]
  cases d<;>cases h1
  rw [r1.int']; rfl
theorem lj {W:Wd} {H:Hp}:∀ {ds:List D} {vs:List V} {bs:List Str},Reps X.K W H ds vs→aF strOf ds=some bs→vs=bs.map V.str
 | [],vs,bs,r,h=>by rw [r.nil']; cases h; rfl
 | d ::ds,vs,bs,r,h=>by
  obtain ⟨v,vr,rfl,r1,r2⟩:=r.cons'
  obtain ⟨a,as,rfl,h1,h2⟩:=dt h
  rw [lj r2 h2]
  cases d<;>cases h1
  rw [r1.str']; rfl
theorem gN (hc:X.calm=true):CallR X (.builtin "all") (rCM X.K X.mg E (fC fun bs=>bs.all id)):=by
 rintro pins s σ H xs us Q I rv ⟨W,m,ds,sm,rs,p⟩
 unfold fC at p
 split at p
 ·rename_i d
  obtain ⟨v,vr,rfl,r1,r2⟩:=rs.cons'
  rw [r2.nil'] at rv
  cases h:ba m d with
  | none=>rw [h] at p; exact p.elim
  | some ds=>
   rw [h] at p
   cases hb:aF boolOf ds with
   | none=>simp only [Option.bind_some,hb] at p; exact p.elim
   | some bs=>
    simp only [Option.bind_some,hb] at p
    obtain ⟨a,vs,rfl,q1,q2⟩:=sm.lst r1 h
    exact cr_all hc pins s σ H _ us Q I rv ⟨a,bs,rfl,by rw [←mj q2 hb]; exact q1,p.now sm bf⟩
 ·exact p.elim
theorem zt (hc:X.calm=true):CallR X (.builtin "any") (rCM X.K X.mg E (fC fun bs=>bs.any id)):=by
 rintro pins s σ H xs us Q I rv ⟨W,m,ds,sm,rs,p⟩
 unfold fC at p
 split at p
 ·rename_i d
  obtain ⟨v,vr,rfl,r1,r2⟩:=rs.cons'
  rw [r2.nil'] at rv
  cases h:ba m d with
  | none=>rw [h] at p; exact p.elim
  | some ds=>
   rw [h] at p
   cases hb:aF boolOf ds with
   | none=>simp only [Option.bind_some,hb] at p; exact p.elim
   | some bs=>
    simp only [Option.bind_some,hb] at p
    obtain ⟨a,vs,rfl,q1,q2⟩:=sm.lst r1 h
    exact cr_any hc pins s σ H _ us Q I rv ⟨a,bs,rfl,by rw [←mj q2 hb]; exact q1,p.now sm bf⟩
 ·exact p.elim
end
end Mir
namespace Mir
open PySem PySem.Spec PyProof.Rows L2
def ig (T:String) (m:Mem) (d:D):Bool:=match d with
 | .str _=>T =="str"
 | .tup _=>T =="tuple"
 | d=>T =="list" && (ba m d).isSome
def mBM (T:String) (g:D→List D→Mem→R D) (o:EM) (a:AM):EM:=fun η m=>(o η m).bind fun x m1=>if ig T m1 x=true then (a η m1).bind fun xs m2=>g x xs m2 else .stk
def tyF (K:PySem.W.Frag) (T:String) (x:V) (H:Hp):Prop:=tyV K T x H∨(T="tuple"∧∃ a xs,x=.ref a∧SqF K H a xs)
def rMM (K:PySem.W.Frag) (mg:Str→Option Value) (E:XK) (g:D→List D→Mem→R D):V→List V→Hp→VK→Prop:=fun x xs H Q=>∃ W m d ds,Sim K mg W H m∧Rep K W H d x∧Reps K W H ds xs∧Post K mg E (Rep K) W H Q (g d ds m)
section
variable {X:Cx} {E:XK} {o e:Expr} {es:List Expr} {name:Str} {apos cpos:Pos} {T id:String} {g:D→List D→Mem→R D} {co:EM} {ca:AM}
theorem zY {pins:List (Addr×Obj)} {σ:SL} {H:Hp} {s:Shared} {T:String} {x:V} {v:Value} (I:L2.Inv X pins σ H s) (r:L2.RelV x v) (ty:tyF X.K T x H) :
  s.TypeIs v T∧∀ a,v=.ref a→∃ ob,s.heap.get? a=some ob∧ob.dict=none:=by
 rcases ty with ty | ⟨rfl,a,xs,rfl,h⟩
 ·exact tyV_is I r ty
 ·cases r
  rcases h with ⟨ob,h,hd,hc⟩ | ⟨ob,its,n,h1,h2,h3,_⟩
  ·have k:=(I.hok a _ h).1
   exact ⟨⟨ob,k,hc⟩,fun b e=>by cases e; exact ⟨ob,k,hd⟩⟩
  ·exact ⟨⟨ob,I.kIn a ob h1,h2⟩,fun b e=>by cases e; exact ⟨ob,I.kIn _ ob h1,h3⟩⟩
theorem yS {W:Wd} {H:Hp} {m:Mem} {d:D} {x:V} (sm:Sim X.K X.mg W H m) (r:Rep X.K W H d x) (h:ig T m d=true):tyF X.K T x H:=by
 have lst:(T =="list" && (ba m d).isSome)=true→tyF X.K T x H:=fun h=>by
  rw [Bool.and_eq_true] at h
  obtain ⟨ds,hl⟩:=Option.isSome_iff_exists.mp h.2
  obtain ⟨a,vs,rfl,q1,q2⟩:=sm.lst r hl
  exact .inl (.inl ⟨by simpa using h.1,vs,q1⟩)
 cases d with
 | str z=>rw [r.str']; exact .inl (show T="str" by simpa [ig] using h)
 | tup ds=>
  obtain ⟨a,vs,rfl,q1,q2⟩:=r.tupF'
  exact .inr ⟨by simpa [ig] using h,a,vs,rfl,q1⟩
 | _=>exact lst h
theorem cE (pa:PlainAttrs T) (slot:Slot T name id) (hty:typeOf (.builtin id)=pure (.type "method_descriptor")) (hm:MtR X id (rMM X.K X.mg E g)) (ho:MEx X E o co) (ha:MA X E (e ::es) ca)
  (hbase:attributeBase o name X.env (eval o X.env)=eval o X.env:=by rfl)
  (hfew:((backTo cpos (starEach (e ::es) X.env)).all (fun x=>!x.1) && (backToKw cpos (keywordEach [] X.env)).all (fun x=>x.1.isSome)
   && decide ((e ::es).length+([]:List Keyword).length+(if ([]:List Keyword).isEmpty then 0 else 1) < 30))=true:=by rfl)
  (hline:(apos.endLine ==cpos.line)=true:=by rfl) (hs:starEach (e ::es) X.env=(false,eval e X.env) ::starEach es X.env:=by rfl) (hplain:(backTo cpos (starEach es X.env)).any (·.1)=false:=by rfl) :
  MEx X E (.Call (.Attribute o name apos) (e ::es) [] cpos) (mBM T g co ca):=by
 refine ⟨fun pins s σ H Q I h=>?_⟩
 have h2:rdE X.K X.mg E co σ H (fun x H1=>tyF X.K T x H1∧rdA X.K X.mg E ca σ H1 fun xs H2=>rMM X.K X.mg E g x xs H2 Q):=by
  obtain ⟨W,η,m,s,n,p⟩:=h
  refine ⟨W,η,m,s,n,(Post.bind (Rl:=Rep X.K) p).imp fun x H1 ⟨W1,d,m1,e1,s1,r1,p1⟩=>?_⟩
  by_cases hT:ig T m1 d=true
  ·rw [if_pos hT] at p1
   refine ⟨yS s1 r1 hT,W1,η,m1,s1,n.ext e1,(Post.bind (Rl:=Reps X.K) p1).imp fun xs H2 ⟨W2,ds,m2,e2,s2,r2,p2⟩=>⟨W2,m2,d,ds,s2,r1.ext e2,r2,p2⟩⟩
  ·rw [if_neg hT] at p1
   exact p1.elim
 refine wpAny_Call_method_late hbase hfew hline rfl (thn (ho.run pins s σ H _ I h2) fun v s1 ⟨x,H1,I1,r1,ty,q1⟩=>?_)
 obtain ⟨k1,k2⟩:=zY I1 r1 ty
 refine ⟨T,id,pa,slot,hty,k1,k2,?_⟩
 have hA:=ha.run cpos pins s1 σ H1 _ I1 q1
 rw [hs] at hA ⊢
 refine Calls.callWith_builtin (by show (false || (backTo cpos (starEach es X.env)).any (·.1))=false; rw [hplain]<;>rfl) (Calls.evalArgs_plain ?_)
 exact thn hA fun us s2 ⟨vs,H2,I2,r2,q2⟩=>hm pins s2 σ H2 x vs v us Q I2 r1 r2 q2
end
def kM (d:D) (ds:List D) (m:Mem):R D:=match d,ds with
 | .str a,[e]=>match (fx m e).bind (aF strOf) with
  | some ys=>if (ys.map (·.length)).sum+ys.length*a.length≤16777216 then .ok (.str (Txt.join a ys)) m else .stk
  | none=>.stk
 | _,_=>.stk
def df (d:D) (ds:List D) (m:Mem):R D:=match d,ds with
 | .ref i,[x]=>match bW m[i]? with
  | some xs=>if xs.length < sizeLine then .ok .non (m.set i (.lst (xs++[x]))) else .stk
  | none=>.stk
 | _,_=>.stk
def BZ (d:D) (ds:List D) (m:Mem):R D:=match d,ds with
 | .ref i,[x]=>match bW m[i]?,dD m x with
  | some xs,some ys=>if xs.length+ys.length≤sizeLine then .ok .non (m.set i (.lst (xs++ys))) else .stk
  | _,_=>.stk
 | _,_=>.stk
def eD (z:Str):List Str→Option Nat
 | []=>none
 | y ::ys=>if y=z then some 0 else (eD z ys).map (·+1)
def fX (d:D) (ds:List D) (m:Mem):R D:=match d,ds with
 | .tup xs,[.str z]=>match (aF strOf xs).bind (eD z) with
  | some j=>.ok (.int (j:Nat)) m
  | none=>.stk
 | _,_=>.stk
section
variable {X:Cx} {E:XK}
theorem pj {z:Str}:∀ {ys:List Str} {j:Nat},eD z ys=some j→ys[j]?=some z∧∀ m,m < j→ys[m]?≠some z
 | [],j,h=>by cases h
 | y ::ys,j,h=>by
  unfold eD at h
  by_cases e:y=z
  ·rw [if_pos e] at h
   cases h
   exact ⟨by rw [e]; rfl,fun m hm=>absurd hm (Nat.not_lt_zero m)⟩
  ·rw [if_neg e] at h
   cases hf:eD z ys with
   | none=>rw [hf] at h; cases h
   | some k=>
    rw [hf] at h
    cases h
    obtain ⟨h1,h2⟩:=pj hf
    refine ⟨h1,fun m hm=>?_⟩
    cases m with
    | zero=>intro q; exact e (Option.some.inj q)
    | succ m=>exact h2 m (Nat.lt_of_succ_lt_succ hm)
theorem kr {m:Mem} {i:Nat} {ds:List D} (h:bW m[i]?=some ds):m[i]?=some (.lst ds):=by
 cases hm:m[i]? with
 | none=>rw [hm] at h; cases h
 | some c=>cases c<;>(rw [hm] at h; cases h)<;>rfl
theorem uD:MtR X "str.join" (rMM X.K X.mg E kM):=by
 rintro pins s σ H x xs v us Q I rx rxs ⟨W,m,d,ds,sm,rd,rds,p⟩
 unfold kM at p
 split at p
 ·rename_i a e
  rw [rd.str'] at rx
  obtain ⟨w,wr,rfl,r1,r2⟩:=rds.cons'
  rw [r2.nil'] at rxs
  split at p
  ·rename_i ys hy
   cases hs:fx m e with
   | none=>rw [hs] at hy; cases hy
   | some zs=>
    rw [hs] at hy
    obtain ⟨b,vs,rfl,q1,q2⟩:=sm.seq r1 hs
    have ev:=lj q2 hy
    subst ev
    split at p
    ·rename_i hl
     exact mt_join pins s σ H _ _ v us Q I rx rxs ⟨a,b,ys,rfl,rfl,q1,hl,p.now sm cW⟩
    ·exact p.elim
  ·exact p.elim
 ·exact p.elim
theorem du:MtR X "list.append" (rMM X.K X.mg E df):=by
 rintro pins s σ H x xs v us Q I rx rxs ⟨W,m,d,ds,sm,rd,rds,p⟩
 unfold df at p
 split at p
 ·rename_i i e
  obtain ⟨a,rfl,e2⟩:=rd.ref'
  obtain ⟨w,wr,rfl,r1,r2⟩:=rds.cons'
  rw [r2.nil'] at rxs
  split at p
  ·rename_i zs hl
   split at p
   ·rename_i hlt
    obtain ⟨vs,q1,q2⟩:=sm.cell i a _ e2 (kr hl)
    have ex:Ext W H W (upd H a (.lst (vs++[w]))):=Ext.mut (List.mem_of_getElem? e2) q1 rfl
    exact mt_append pins s σ H _ _ v us Q I rx rxs ⟨a,vs,w,rfl,rfl,q1,by rw [q2.length]; exact hlt,p .non W _ ex (sm.mut e2 ⟨_,upd_same,(q2.append (fE r1)).ext ex⟩) nh⟩
   ·exact p.elim
  ·exact p.elim
 ·exact p.elim
theorem j3:MtR X "tuple.index" (rMM X.K X.mg E fX):=by
 rintro pins s σ H x xs v us Q I rx rxs ⟨W,m,d,ds,sm,rd,rds,p⟩
 unfold fX at p
 split at p
 ·rename_i zs z
  obtain ⟨a,vs,rfl,q1,q2⟩:=rd.tup'
  obtain ⟨w,wr,rfl,r1,r2⟩:=rds.cons'
  rw [r2.nil',r1.str'] at rxs
  split at p
  ·rename_i j hj
   cases hs:aF strOf zs with
   | none=>rw [hs] at hj; cases hj
   | some ys=>
    rw [hs] at hj
    obtain ⟨h1,h2⟩:=pj hj
    have ev:=lj q2 hs
    subst ev
    exact mt_tup_index pins s σ H _ _ v us Q I rx rxs ⟨a,ys,z,j,rfl,rfl,q1,h1,h2,p.now sm bw⟩
  ·exact p.elim
 ·exact p.elim
end
def ej (m:Mem):D→Option String
 | .non=>some "NoneType"
 | .bl _=>some "bool"
 | .int _=>some "int"
 | .str _=>some "str"
 | .tup _=>some "tuple"
 | .lst _=>some "list"
 | .scr _=>none
 | .ref i=>match m[i]? with
  | some (.lst _)=>some "list"
  | some (.dK _)=>some "dict"
  | _=>none
 | .fn _=>none
def eV (T:String) (c:EM):EM:=fun η m=>(c η m).bind fun d m1=>match (ej m1 d).bind fun t=>kitB t T with
 | some b=>.ok (.bl b) m1
 | none=>.stk
section
variable {X:Cx} {E:XK}
theorem um {W:Wd} {H:Hp} {m:Mem} {d:D} {v:V} {t:String} (sm:Sim X.K X.mg W H m) (r:Rep X.K W H d v) (h:ej m d=some t):TyX X.K H v (.type t):=by
 cases d with
 | non=>rw [r.non']; cases h; exact .base .non
 | bl b=>rw [r.bl']; cases h; exact .base (.bl b)
 | int i=>rw [r.int']; cases h; exact .base (.int i)
 | str x=>rw [r.str']; cases h; exact .base (.str x)
 | tup ds=>
  obtain ⟨a,vs,rfl,q1,q2⟩:=r.tupF'
  cases h
  rcases q1 with ⟨o,q,_⟩ | ⟨o,its,n,h1,h2,_⟩
  ·exact .fTuple q
  ·exact .kTuple h1 h2
 | lst ds=>
  obtain ⟨a,vs,rfl,q1,q2⟩:=r.lst'
  cases h
  exact .base (.lst q1.1)
 | scr ds=>cases h
 | ref i=>
  obtain ⟨a,rfl,e2⟩:=r.ref'
  simp only [ej] at h
  cases hm:m[i]? with
  | none=>rw [hm] at h; cases h
  | some c=>
   rw [hm] at h
   have q:=sm.cell i a c e2 hm
   cases c with
   | lst ds=>cases h; obtain ⟨vs,q1,_⟩:=q; exact .base (.lst q1)
   | dK ds=>cases h; obtain ⟨vs,q1,_⟩:=q; exact .base (.dK q1)
   | dT ds=>cases h
   | ins c fs=>cases h
   | dKz ds=>cases h
   | dTz ds=>cases h
   | exc c fs=>cases h
   | tab x q=>cases h
   | dX hs ds=>cases h
 | fn x=>cases h
theorem cS (T:String) {e:Expr} {c:EM} {p p2 pos:Pos} {tn:Str} (hm:X.mg "isinstance"=none) (hmT:X.mg tn=none) (hg:Gl X "isinstance") (hgT:Gl X tn) (hvT:bootBuiltins tn=some (.type T)) (he:MEx X E e c)
  (hnT:tn≠"__name__":=by decide) (hdT:(tn ==("__debug__":Str))=false:=by decide)
  (hs1:starEach [e,.Name tn p2] X.env=(false,eval e X.env) ::starEach [.Name tn p2] X.env:=by rfl) (hs2:starEach [.Name tn p2] X.env=(false,eval (.Name tn p2) X.env) ::starEach [] X.env:=by rfl)
  (hpl:(backTo pos (starEach [.Name tn p2] X.env)).any (·.1)=false:=by rfl):MEx X E (.Call (.Name "isinstance" p) [e,.Name tn p2] [] pos) (eV T c):=by
 refine (pe_callB call_isi hg hm boot_isinstance (pa_cons he (pa_cons (pe_bltn (v:=.ty T) hgT hmT hvT rfl hnT hdT) pa_nil hs2) hs1) (by decide) (by decide) hs1 hpl).imp fun σ H Q ⟨W,η,m,s,n,p⟩=>?_
 refine ⟨W,η,m,s,n,(Post.bind (Rl:=Rep X.K) p).imp fun x H1 ⟨W1,d,m1,e1,s1,r1,p1⟩=>?_⟩
 cases h:ej m1 d with
 | none=>rw [h] at p1; exact p1.elim
 | some t=>
  rw [h] at p1
  cases hk:kitB t T with
  | none=>simp only [Option.bind_some,hk] at p1; exact p1.elim
  | some b=>
   simp only [Option.bind_some,hk] at p1
   exact ⟨x,.ty T,.type t,.type T,b,rfl,.ty T,um s1 r1 h,kit_ty hk,p1.now s1 bf⟩
end
def d6 (ds:List D):Src:=fun k _=>some ds[k]?
def dr (ds:List D):Src×Nat:=(d6 ds,ds.length)
def chD (x:Str):List D:=x.cps.toList.map fun c=>.str ⟨#[c]⟩
def fu (i:Nat):Src:=fun k m=>(bW m[i]?).map fun ds=>ds[k]?
def srcOf (m:Mem):D→Option (Src×Nat)
 | .tup ds=>some (dr ds)
 | .lst ds=>some (dr ds)
 | .scr ds=>some (dr ds)
 | .str x=>some (dr (chD x))
 | .ref i=>(bW m[i]?).map fun ds=>(fu i,ds.length)
 | _=>none
def mIt (c:EM):IM:=fun η m=>(c η m).bind fun d m1=>match srcOf m1 d with
 | some p=>.ok p m1
 | none=>.stk
def eM (lo:Int) (n:Nat):List D:=(List.range n).map fun k=>.int (lo+(k:Nat))
@[irreducible] def md (j:Int):Bool:=decide (-(2^62)≤j∧j < 2^62)
theorem kJ (j:Int):md j=true↔(-(2^62)≤j∧j < 2^62):=by unfold md; exact decide_eq_true_iff
def dc (a:EM):IM:=fun η m=>(a η m).bind fun x m1=>match x with
 | .int j=>if md j=true then .ok (dr (eM 0 j.toNat)) m1 else .stk
 | _=>.stk
section
variable {X:Cx} {E:XK} {tg it:Expr} {K:PySem.W.Frag} {mg:Str→Option Value}
theorem _root_.L2.PI.imp {X:Cx} {tg it:Expr} {w w':TI} (h:PI X tg it w) (k:∀ σ H R,w' σ H R→w σ H R):PI X tg it w':=⟨fun pins s σ H R I q=>h.run pins s σ H R I (k σ H R q)⟩
theorem _root_.L2.PI.or {X:Cx} {tg it:Expr} {w w':TI} (h:PI X tg it w) (h':PI X tg it w'):PI X tg it (fun σ H R=>w σ H R∨w' σ H R):=⟨fun pins s σ H R I q=>by
 rcases q with q | q
 ·exact h.run pins s σ H R I q
 ·exact h'.run pins s σ H R I q⟩
theorem xu {lo:Int} {n k:Nat} {d:D} (h:(eM lo n)[k]?=some d):k < n∧d=.int (lo+(k:Nat)):=by
 unfold eM at h
 rw [List.getElem?_map] at h
 cases hk:(List.range n)[k]? with
 | none=>rw [hk] at h; cases h
 | some j=>
  rw [hk] at h
  have:=List.getElem?_eq_some_iff.mp hk
  obtain ⟨h1,h2⟩:=this
  rw [List.getElem_range] at h2
  rw [List.length_range] at h1
  subst h2
  cases h
  exact ⟨h1,rfl⟩
theorem vV {lo:Int} {n k:Nat} (h:(eM lo n)[k]?=none):n≤k:=by
 have:=List.getElem?_eq_none_iff.mp h
 unfold eM at this
 rw [List.length_map,List.length_range] at this
 exact this
theorem yw {W:Wd} {H:Hp} {lo:Int} {n:Nat}:JOk K mg Rep W H (Itr lo n) (d6 (eM lo n)):=by
 refine ⟨fun W' H' m k d _ s h=>?_,fun W' H' m k _ s h=>?_⟩
 ·obtain ⟨h1,rfl⟩:=xu (Option.some.inj h)
  refine ⟨h1,fun x H2 hy=>?_⟩
  obtain ⟨rfl,rfl⟩:=hy
  exact ⟨W',Ext.refl _ _,s,bw⟩
 ·exact vV (Option.some.inj h)
theorem cf {a:Expr} {ca:EM} {p pos:Pos} (hm:X.mg "range"=none) (hg:Gl X "range") (ha:MEx X E a ca) (hs:starEach [a] X.env=[(false,eval a X.env)]:=by rfl):MI X E Rep tg (.Call (.Name "range" p) [a] [] pos) (dc ca):=by
 refine (pi_range1 hg hm (aa ha af hs) hs).imp fun σ H R ⟨W,η,m,s,n,p⟩=>?_
 have q:Post X.K X.mg E (RlI X.K X.mg Rep) W H R ((ae ca ag η m).bind fun xs m1=>match xs with
  | [.int j]=>if md j=true then .ok (dr (eM 0 j.toNat)) m1 else .stk
  | _=>.stk):=by
  unfold dc at p
  unfold ae ag
  cases h:ca η m with
  | ok d m1=>rw [h] at p; cases d<;>exact p
  | exc x m1=>rw [h] at p; exact p
  | stk=>rw [h] at p; exact p
 refine ⟨W,η,m,s,n,(Post.bind (Rl:=Reps X.K) q).imp fun xs H1 ⟨W1,ds,m1,e1,s1,r1,p1⟩=>?_⟩
 split at p1
 ·rename_i j
  obtain ⟨v,vr,rfl,k1,k2⟩:=r1.cons'
  rw [k2.nil',k1.int']
  split at p1
  ·rename_i hj
   have hj:=(kJ j).mp hj
   exact ⟨j,rfl,hj.1,hj.2,p1.now s1 yw⟩
  ·exact p1.elim
 ·exact p1.elim
theorem yy {W:Wd} {H:Hp} {a:Addr} {ds:List D} {vs:List V} (q1:SqF K H a vs) (q2:Reps K W H ds vs):JOk K mg Rep W H (Itt K a) (d6 ds):=by
 refine ⟨fun W' H' m k d e s h=>?_,fun W' H' m k e s h=>?_⟩
 ·have t:=(e.tr (K:=K)).tp a vs q1
  obtain ⟨v,k1,k2⟩:=q2.get (Option.some.inj h)
  refine ⟨⟨vs,v,t.t,k1⟩,fun x H2 hy=>?_⟩
  obtain ⟨rfl,hx⟩:=hy
  have:=hx vs t.t
  rw [k1] at this
  cases this
  exact ⟨W',Ext.refl _ _,s,k2.extZ e⟩
 ·have t:=(e.tr (K:=K)).tp a vs q1
  have:=List.getElem?_eq_none_iff.mp (Option.some.inj h)
  exact ⟨vs,t.t,by rw [q2.length]; exact this⟩
theorem yp {W:Wd} {H:Hp} {a:Addr} {ds:List D} {vs:List V} (q1:∀ W' H',ExtZ W H W' H'→SqL K H' a vs) (q2:Reps K W H ds vs):JOk K mg Rep W H (Itl K a) (d6 ds):=by
 refine ⟨fun W' H' m k d e s h=>?_,fun W' H' m k e s h=>?_⟩
 ·have t:=q1 W' H' e
  obtain ⟨v,k1,k2⟩:=q2.get (Option.some.inj h)
  refine ⟨⟨vs,v,t,k1⟩,fun x H2 hy=>?_⟩
  obtain ⟨rfl,hx⟩:=hy
  have:=hx vs t
  rw [k1] at this
  cases this
  exact ⟨W',Ext.refl _ _,s,k2.extZ e⟩
 ·have:=List.getElem?_eq_none_iff.mp (Option.some.inj h)
  exact ⟨vs,q1 W' H' e,by rw [q2.length]; exact this⟩
theorem y6 {W:Wd} {H:Hp} {a:Addr} {i:Nat} (e2:W.i[i]?=some a):JOk K mg Rep W H (Itl K a) (fu i):=by
 refine ⟨fun W' H' m k d e s h=>?_,fun W' H' m k e s h=>?_⟩
 ·unfold fu at h
  cases hl:bW m[i]? with
  | none=>rw [hl] at h; cases h
  | some ds=>
   rw [hl] at h
   obtain ⟨vs,q1,q2⟩:=s.cell i a _ (e.tr (K:=K) |>.rf i a e2) (kr hl)
   obtain ⟨v,k1,k2⟩:=q2.get (Option.some.inj h)
   refine ⟨⟨vs,v,.inl (.inl q1),k1⟩,fun x H2 hy=>?_⟩
   obtain ⟨rfl,hx⟩:=hy
   have:=hx vs (.inl (.inl q1))
   rw [k1] at this
   cases this
   exact ⟨W',Ext.refl _ _,s,k2⟩
 ·unfold fu at h
  cases hl:bW m[i]? with
  | none=>rw [hl] at h; cases h
  | some ds=>
   rw [hl] at h
   obtain ⟨vs,q1,q2⟩:=s.cell i a _ (e.tr (K:=K) |>.rf i a e2) (kr hl)
   have:=List.getElem?_eq_none_iff.mp (Option.some.inj h)
   exact ⟨vs,.inl (.inl q1),by rw [q2.length]; exact this⟩
theorem yW {W:Wd} {H:Hp} {x:Str}:JOk K mg Rep W H (Its x) (d6 (x.cps.toList.map fun c=>.str ⟨#[c]⟩)):=by
 refine ⟨fun W' H' m k d e s h=>?_,fun W' H' m k e s h=>?_⟩
 ·have h:=Option.some.inj h
  rw [List.getElem?_map] at h
  cases hc:x.cps.toList[k]? with
  | none=>rw [hc] at h; cases h
  | some c=>
   rw [hc] at h
   cases h
   have hl:k < x.cps.size:=by
    have:=(List.getElem?_eq_some_iff.mp hc).1
    simpa using this
   refine ⟨hl,fun v H2 hy=>?_⟩
   obtain ⟨rfl,c',h1,rfl⟩:=hy
   have:x.cps[k]?=some c:=by rw [←Array.getElem?_toList]; exact hc
   rw [this] at h1
   cases h1
   exact ⟨W',Ext.refl _ _,s,cW⟩
 ·have h:=List.getElem?_eq_none_iff.mp (Option.some.inj h)
  rw [List.length_map] at h
  show x.cps.size≤k
  simpa using h
theorem bZ {c:EM} (he:MEx X E it c):MI X E Rep tg it (mIt c):=by
 refine (((pi_list he).or (pi_tup he)).or (pi_str he)).imp fun σ H R ⟨W,η,m,s,n,p⟩=>?_
 unfold mIt at p
 cases hc:c η m with
 | stk=>rw [hc] at p; exact p.elim
 | exc x m1=>
  rw [hc] at p
  refine .inl (.inl ⟨W,η,m,s,n,?_⟩)
  rw [hc]
  exact p
 | ok d m1=>
  rw [hc] at p
  replace p:Post X.K X.mg E (RlI X.K X.mg Rep) W H R (match srcOf m1 d with | some p=>.ok p m1 | none=>.stk):=p
  have lst:∀ ds,(d=.lst ds∨d=.scr ds)→Post X.K X.mg E (RlI X.K X.mg Rep) W H R (.ok (dr ds) m1)→iList X.K (rdE X.K X.mg E c) σ H R:=fun ds hd p=>by
   refine ⟨W,η,m,s,n,?_⟩
   rw [hc]
   intro v W1 H1 e1 s1 r1
   have key:∃ a vs,v=.ref a∧(∀ W' H',ExtZ W1 H1 W' H'→SqL X.K H' a vs)∧Reps X.K W1 H1 ds vs:=by
    rcases hd with rfl | rfl
    ·obtain ⟨a,vs,e,q1,q2⟩:=r1.lst'
     exact ⟨a,vs,e,fun W' H' ez=>.inl (.inl (ez.tr (K:=X.K) |>.ls a _ q1).1),q2⟩
    ·obtain ⟨a,vs,e,q1,q2⟩:=r1.scr'
     exact ⟨a,vs,e,fun W' H' ez=>(ez.tr (K:=X.K) |>.sc a vs q1).sq,q2⟩
   obtain ⟨a,vs,rfl,q1,q2⟩:=key
   exact ⟨a,rfl,⟨vs,q1 W1 H1 (Ext.refl _ _).toZ⟩,p _ W1 H1 e1 s1 (yp q1 q2)⟩
  cases d with
  | tup ds=>
   refine .inl (.inr ⟨W,η,m,s,n,?_⟩)
   rw [hc]
   intro v W1 H1 e1 s1 r1
   obtain ⟨a,vs,rfl,q1,q2⟩:=r1.tupF'
   exact ⟨a,rfl,⟨vs,q1.t⟩,p _ W1 H1 e1 s1 (yy q1 q2)⟩
  | lst ds=>exact .inl (.inl (lst ds (.inl rfl) p))
  | scr ds=>exact .inl (.inl (lst ds (.inr rfl) p))
  | str x=>
   refine .inr ⟨W,η,m,s,n,?_⟩
   rw [hc]
   intro v W1 H1 e1 s1 r1
   exact ⟨x,r1.str',p _ W1 H1 e1 s1 yW⟩
  | ref i=>
   refine .inl (.inl ⟨W,η,m,s,n,?_⟩)
   rw [hc]
   intro v W1 H1 e1 s1 r1
   obtain ⟨a,rfl,e2⟩:=r1.ref'
   replace p:Post X.K X.mg E (RlI X.K X.mg Rep) W H R (match (bW m1[i]?).map fun ds=>(fu i,ds.length) with | some p=>.ok p m1 | none=>.stk):=p
   cases hl:bW m1[i]? with
   | none=>rw [hl] at p; exact p.elim
   | some ds=>
    rw [hl] at p
    obtain ⟨vs,q1,q2⟩:=s1.cell i a _ e2 (kr hl)
    exact ⟨a,rfl,⟨vs,.inl (.inl q1)⟩,p _ W1 H1 e1 s1 (y6 e2)⟩
  | _=>exact p.elim
end
section
variable {X:Cx} {E:XK}
theorem aX:PTs X [] (rdT X.K X.mg E bz):=⟨fun pins s σ H Q I h=>pts_nil.run pins s σ H Q I (by
 obtain ⟨W,η,m,s,n,p⟩:=h
 exact p.now s rfl)⟩
theorem uK {c:Expr} {t:TM} (h:MT X E c t):PTs X [c] (rdT X.K X.mg E t):=pts_one h
theorem bG {Rx:RX} (al:Bool) {elt tg iter:Expr} {ifs:List Expr} {scope:Scope} (own:List (Str×Nat)) {pos:Pos} {ci:IM} {g:GM} {t:TM} {e:EM} (hc:X.calm=true) (hN:X.N.Nodup) (hi:MI X E Rx tg iter ci) (ok:BlkOk X.N X.env.scope scope own)
  (hg:∀ (s:Shared) (H:Hp) (C:Addr) (cl:List (Str×Addr)) (fp:List Addr),MG (X.blk s H scope (compEnvC scope cl C X.env) fp) E0 Rx (own.map (·.2)) tg g) (ht:∀ (s:Shared) (H:Hp) (C:Addr) (cl:List (Str×Addr)) (fp:List Addr),PTs (X.blk s H scope (compEnvC scope cl C X.env) fp) ifs (rdT X.K X.mg E0 t))
  (he:∀ (s:Shared) (H:Hp) (C:Addr) (cl:List (Str×Addr)) (fp:List Addr),MEx (X.blk s H scope (compEnvC scope cl C X.env) fp) E0 elt e) (hs:∀ x,foldedSetIterable iter X.env x=pure x:=by intro _; rfl) :
  MEx X E (.ListComp elt [⟨tg,iter,ifs,0⟩] scope pos) (mLc (own.map (·.2)) al ci g t e):=(pe_lc hc hN hi ok hg ht he hs).imp fun σ H Q h=>xU h
theorem rZ {Rx:RX} (al:Bool) {i:Nat} {y:Str} {py:Pos} {elt tg iter:Expr} {ifs:List Expr} {scope:Scope} (own:List (Str×Nat)) {pos spos:Pos} {ci:IM} {g:GM} {t:TM} {e:EM} (hc:X.calm=true) (hN:X.N.Nodup) (hy:X.N[i]?=some y) (hyl:X.env.scope.names.lookup y=some .local)
  (hsw:swapsWith (.ListComp elt [⟨tg,iter,ifs,0⟩] scope pos) (some (.Name y py)) spos.line X.env=pure true) (hi:MI X E Rx tg iter ci) (ok:BlkOk X.N X.env.scope scope own)
  (hg:∀ (s:Shared) (H:Hp) (C:Addr) (cl:List (Str×Addr)) (fp:List Addr),MG (X.blk s H scope (compEnvC scope cl C X.env) fp) E0 Rx (own.map (·.2)) tg g) (ht:∀ (s:Shared) (H:Hp) (C:Addr) (cl:List (Str×Addr)) (fp:List Addr),PTs (X.blk s H scope (compEnvC scope cl C X.env) fp) ifs (rdT X.K X.mg E0 t))
  (he:∀ (s:Shared) (H:Hp) (C:Addr) (cl:List (Str×Addr)) (fp:List Addr),MEx (X.blk s H scope (compEnvC scope cl C X.env) fp) E0 elt e) (hs:∀ x,foldedSetIterable iter X.env x=pure x:=by intro _; rfl) :
  MS X E (.Assign [.Name y py] (.ListComp elt [⟨tg,iter,ifs,0⟩] scope pos) spos) (aC (mLc (own.map (·.2)) al ci g t e) (gNm i)):=(ps_setLc hc hN hy hyl hsw hi ok hg ht he hs).imp fun Dn σ H ⟨W,η,m,s,n,p⟩=>
 xU ⟨W,η,m,s,n,(PostS.bind (Rl:=Rep X.K) p).imp fun x H1 ⟨W1,d,m1,e1,s1,r1,p1⟩=>p1 _ W1 H1 (Ext.refl _ _) s1 ((n.ext e1).set r1)⟩
end
abbrev FM:=List D→Mem→R D
def mFn (n N:Nat) (body:SM):FM:=fun ds m=>if ds.length=n then (match body (ds.map some++List.replicate (N - ds.length) none) m with
 | .nxt _ m'=>.ok .non m'
 | .ret d m'=>.ok d m'
 | .exc x m'=>.exc x m'
 | _=>.stk) else .stk
def sp0 (K:PySem.W.Frag) (mg:Str→Option Value) (fm:FM):Sp:=fun vs H Q _=>∃ W m ds,Sim K mg W H m∧Reps K W H ds vs∧Post K mg E0 (Rep K) W H Q (fm ds m)
section
variable {P:Program} {w:World} {K:PySem.W.Frag} {mg:Str→Option Value} {base:Heap}
theorem o5 {W:Wd} {H:Hp} {N:List Str} {ds:List D} {vs:List V} (r:Reps K W H ds vs):REnv K W H (ds.map some++List.replicate (N.length - ds.length) none) (L2.start N vs):=by
 refine ⟨?_,fun i d h=>?_⟩
 ·unfold L2.start
  rw [List.length_append,List.length_append,List.length_map,List.length_map,List.length_replicate,List.length_replicate,r.length]
 ·by_cases hi:i < ds.length
  ·rw [List.getElem?_append_left (by rw [List.length_map]; exact hi),List.getElem?_map,List.getElem?_eq_getElem hi] at h
   cases h
   obtain ⟨v,k1,k2⟩:=r.get (List.getElem?_eq_getElem hi)
   refine ⟨v,?_,k2⟩
   unfold L2.start
   rw [List.getElem?_append_left (by rw [List.length_map,r.length]; exact hi),List.getElem?_map,k1]
   rfl
  ·rw [List.getElem?_append_right (by rw [List.length_map]; omega),List.getElem?_replicate] at h
   split at h<;>cases h
theorem aW {x qual:Str} {st:Stmt} {f:Addr} {fd:FuncData} {N ps:List Str} {k:Nat} {body:SM} (F:Fun K x qual st f fd) (S:FnScope N ps (defScope st))
  (h:∀ (cdv:Value) (A:Around) (outer:List Env) (s:Shared) (H:Hp) (E:XK),Room k (A.deeper (envOfC qual (defScope st) s.heap.objs.size f cdv))→MSs (cxOf CX0 P w K mg base N qual (defScope st) f cdv A outer s H E).nox E0 (defBody st) body) :
  FnOk P w K mg base CX0 (k+1) f fd ps (sp0 K mg (mFn ps.length N.length body)):=by
 have hlen:∀ {vs H Q E},sp0 K mg (mFn ps.length N.length body) vs H Q E→vs.length=ps.length:=fun {vs H Q E} ⟨W,m,ds,s,r,p⟩=>by
  unfold mFn at p
  split at p
  ·rename_i hl
   rw [r.length]
   exact hl
  ·exact p.elim
 refine F.ok S (fun vs H Q E q=>hlen q) (fun cdv A outer s H vs Q E hr q=>?_)
 have hl:=hlen q
 obtain ⟨W,m,ds,sm,r,p⟩:=q
 refine ⟨_,h cdv A outer s H E hr,W,ds.map some++List.replicate (N.length - ds.length) none,m,sm,o5 r,?_⟩
 unfold mFn at p
 rw [if_pos (by rw [←r.length]; exact hl)] at p
 revert p
 generalize body (ds.map some++List.replicate (N.length - ds.length) none) m=res
 intro p
 cases res with
 | nxt η m'=>exact fun σ W' H' e s n=>p .non W' H' e s nh
 | ret d m'=>exact fun v W' H' e s n=>p v W' H' e s n
 | exc x m'=>exact p
 | brk η m'=>exact p.elim
 | cnt η m'=>exact p.elim
 | stk=>exact p.elim
structure FnD (P:Program) (w:World) (K:PySem.W.Frag) (mg:Str→Option Value) (base:Heap) (k:Nat) (x:Str) (ps:List Str) (fm:FM):Prop where
 ex:∃ f fd,mg x=some (.ref f)∧PySem.W.keepIn K (.ref f)=true∧Binds K fd ps []∧FnOk P w K mg base CX0 k f fd ps (sp0 K mg fm)
end
def ax (fm:FM) (a:AM):EM:=fun η m=>(a η m).bind fun xs m1=>noX (fm xs m1)
section
variable {X:Cx} {E:XK} {k:Nat} {x:Str} {ps:List Str} {fm:FM} {p pos:Pos} {e:Expr} {es:List Expr} {ca:AM}
theorem ak (F:FnD X.prog X.w X.K X.mg X.base k x ps fm) (hr:Room k X.A) (hg:Gl X x) (ha:MA X E (e ::es) ca) (hdb:(x ==("__debug__":Str))=false:=by decide) (he:starEach (e ::es) X.env=(false,eval e X.env) ::starEach es X.env:=by rfl) (hpl:(backTo pos (starEach es X.env)).any (·.1)=false:=by rfl) :
  MEx X E (.Call (.Name x p) (e ::es) [] pos) (ax fm ca):=by
 obtain ⟨f,fd,h1,h2,h3,h4⟩:=F.ex
 refine (pe_call h4 hr hg h1 h2 h3 .nil pass0 ha hdb he hpl).imp fun σ H Q ⟨W,η,m,s,n,p⟩=>?_
 refine ⟨W,η,m,s,n,(Post.bind (Rl:=Reps X.K) p).imp fun xs H1 ⟨W1,ds,m1,e1,s1,r1,p1⟩=>?_⟩
 refine ⟨W1,m1,ds,s1,by rw [List.append_nil]; exact r1,Post.nox p1⟩
end
end Mir
namespace Mir
open PySem PySem.Spec PyProof.Rows L2
def arr {α:Type} (ix:List Nat) (l:List α):List α:=ix.filterMap fun i=>l[i]?
theorem sC {K:PySem.W.Frag} {W:Wd} {H:Hp} {ds:List D} {vs:List V} (r:Reps K W H ds vs):∀ ix:List Nat,Reps K W H (arr ix ds) (arr ix vs)
 | []=>bN
 | i ::ix=>by
  have ih:=sC r ix
  unfold arr at ih ⊢
  rw [List.filterMap_cons,List.filterMap_cons]
  cases h:ds[i]? with
  | none=>
   have:vs[i]?=none:=by
    rw [List.getElem?_eq_none_iff] at h ⊢
    rw [r.length]
    exact h
   rw [this]
   exact ih
  | some d=>
   obtain ⟨v,k1,k2⟩:=r.get h
   rw [k1]
   exact bB k2 ih
theorem tm {vs:List V} {us:List Value} (r:Vals vs us):∀ ix:List Nat,Vals (arr ix vs) (arr ix us)
 | []=>.nil
 | i ::ix=>by
  have ih:=tm r ix
  unfold arr at ih ⊢
  rw [List.filterMap_cons,List.filterMap_cons]
  cases h:vs[i]? with
  | none=>
   rw [Vals.none_of r h]
   exact ih
  | some d=>
   obtain ⟨v,k1,k2⟩:=Vals.get r h
   rw [k1]
   exact .cons k2 ih
structure FnK (P:Program) (w:World) (K:PySem.W.Frag) (mg:Str→Option Value) (base:Heap) (k:Nat) (x:Str) (n:Nat) (ks:List Str) (ix:List Nat) (dd:List D) (fm:FM):Prop where
 ex:∃ f fd ps dvs dv,mg x=some (.ref f)∧PySem.W.keepIn K (.ref f)=true∧Vals dvs dv∧(∀ W H,Reps K W H dd dvs)∧
  (∀ (s:Shared) (us ws:List Value),K.In s.heap→us.length=n→ws.length=ks.length→BindsTo s fd ⟨us,ks.zip ws⟩ (ps.zip (arr ix (us++ws++dv))))∧FnOk P w K mg base CX0 k f fd ps (sp0 K mg fm)
def mH (n m:Nat) (ix:List Nat) (dd:List D) (fm:FM) (a b:AM):EM:=fun η mm=>(a η mm).bind fun xs m1=>(b η m1).bind fun ys m2=>if xs.length=n∧ys.length=m then noX (fm (arr ix (xs++ys++dd)) m2) else .stk
abbrev MK (X:Cx) (E:XK) (e:List Keyword) (c:AM):Prop:=PK X e (rdA X.K X.mg E c)
section
variable {X:Cx} {E:XK} {k n:Nat} {x:Str} {ks:List Str} {ix:List Nat} {dd:List D} {fm:FM} {p pos kpos:Pos} {e:Expr} {es:List Expr} {kws:List Keyword} {ca cb:AM} {ce:EM} {nm:Option Str}
theorem zS:MK X E [] ag:=pk_nil.imp fun σ H Q ⟨W,η,m,s,n,p⟩=>p.now s bN
theorem Am {f:Addr} {fd:FuncData} {ps:List Str} {dvs:List V} {dv:List Value} {pins:List (Addr×Obj)} {σ:SL} {H:Hp} {s:Shared} {Q:VK} {us ws:List Value} {vs zs:List V} {W:Wd} {m:Mem} {xs ys:List D}
  (F:FnOk X.prog X.w X.K X.mg X.base CX0 k f fd ps (sp0 X.K X.mg fm)) (hr:Room k X.A) (hdv:Vals dvs dv) (hdd:∀ W H,Reps X.K W H dd dvs)
  (hb:∀ (s:Shared) (us ws:List Value),X.K.In s.heap→us.length=n→ws.length=ks.length→BindsTo s fd ⟨us,ks.zip ws⟩ (ps.zip (arr ix (us++ws++dv))))
  (I:L2.Inv X pins σ H s) (r:Vals vs us) (rz:Vals zs ws) (sm:Sim X.K X.mg W H m) (r1:Reps X.K W H xs vs) (r2:Reps X.K W H ys zs) (hx:xs.length=n) (hy:ys.length=ks.length)
  (h:Post X.K X.mg E (Rep X.K) W H Q (noX (fm (arr ix (xs++ys++dd)) m))):wpAny (model X.prog X.w) X.A (call (.ref f) us (ks.zip ws)) (EP X pins σ Q) X.xe s:=by
 have l1:us.length=n:=by rw [←r.length,r1.length,hx]
 have l2:ws.length=ks.length:=by rw [←rz.length,r2.length,hy]
 have rr:Vals (arr ix (vs++zs++dvs)) (arr ix (us++ws++dv)):=tm ((r.append rz).append hdv) ix
 refine wpAny_call (codeAny_mono (F.run X.A X.stack s H ⟨us,ks.zip ws⟩ _ _ Q E0 hr I.env0 (hb s us ws I.kIn l1 l2) rr ⟨W,m,_,sm,sC ((r1.append r2).append (hdd W H)) ix,Post.nox h⟩) fun r s' hq=>?_)
 cases r with
 | error e=>exact False.elim hq
 | ok fl=>
  cases fl with
  | ret u=>exact I.after hq
  | next=>exact False.elim hq
  | brk=>exact False.elim hq
  | cont=>exact False.elim hq
theorem w3 (F:FnK X.prog X.w X.K X.mg X.base k x n ks ix dd fm) (hr:Room k X.A) (hg:Gl X x) (ha:MA X E (e ::es) ca) (hkw:MK X E kws cb) (hall:(backToKw pos (keywordEach kws X.env)).all (·.1.isSome)=true:=by rfl) (hks:(backToKw pos (keywordEach kws X.env)).filterMap (·.1)=ks:=by rfl)
  (hdb:(x ==("__debug__":Str))=false:=by decide) (he:starEach (e ::es) X.env=(false,eval e X.env) ::starEach es X.env:=by rfl)
  (hpl:((backTo pos (starEach (e ::es) X.env)).any (·.1) || (backToKw pos (keywordEach kws X.env)).any (·.1.isNone))=false:=by rfl) :
  MEx X E (.Call (.Name x p) (e ::es) kws pos) (mH n ks.length ix dd fm ca cb):=by
 obtain ⟨f,fd,ps,dvs,dv,h1,h2,h3,h4,h5,h6⟩:=F.ex
 refine ⟨fun pins s σ H Q I ⟨W,η,m,sm,nn,p⟩=>?_⟩
 refine wpAny_Call_Name_kw (ld_glob I hg h1 ?_ hdb)
 refine PySem.W.callWith_KW (h₀:=X.base) I.ok.mod.kin h2 hall (thn (ha.run pos pins s σ H _ I ⟨W,η,m,sm,nn,Post.bind (Rl:=Reps X.K) p⟩) fun us s1 ⟨vs,H1,I1,r,W1,xs,m1,e1,s1',r1,p1⟩=>?_) hpl he
 refine thn (hkw.run pos pins s1 σ H1 _ I1 ⟨W1,η,m1,s1',nn.ext e1,Post.bind (Rl:=Reps X.K) p1⟩) fun ws s2 ⟨zs,H2,I2,rz,W2,ys,m2,e2,s2',r2,p2⟩=>⟨I2.kIn,?_⟩
 rw [hks]
 by_cases hl:xs.length=n∧ys.length=ks.length
 ·rw [if_pos hl] at p2
  exact Am h6 hr h3 h4 h5 I2 r rz s2' (r1.ext e2) r2 hl.1 hl.2 p2
 ·rw [if_neg hl] at p2
  exact p2.elim
theorem r5 (F:FnK X.prog X.w X.K X.mg X.base k x n [] ix dd fm) (hr:Room k X.A) (hg:Gl X x) (ha:MA X E (e ::es) ca)
  (hdb:(x ==("__debug__":Str))=false:=by decide) (he:starEach (e ::es) X.env=(false,eval e X.env) ::starEach es X.env:=by rfl)
  (hpl:((backTo pos (starEach (e ::es) X.env)).any (·.1) || (backToKw pos (keywordEach [] X.env)).any (·.1.isNone))=false:=by rfl) :
  MEx X E (.Call (.Name x p) (e ::es) [] pos) (mH n 0 ix dd fm ca ag):=w3 F hr hg ha zS rfl rfl hdb he hpl
end
end Mir
namespace Mir
open PySem PySem.Spec PyProof.Rows L2
def mWh (c:TM) (body:SM):Nat→au→Mem→RS
 | 0,_,_=>.stk
 | f+1,η,m=>(c η m).toS fun k m1=>if k=true then (match body η m1 with
   | .nxt η2 m2=>mWh c body f η2 m2
   | .cnt η2 m2=>mWh c body f η2 m2
   | .brk η2 m2=>.nxt η2 m2
   | r=>r) else .nxt η m1
@[irreducible] def te:Nat:=10^4000
def pq (c:TM) (body:SM):SM:=fun η m=>mWh c body te η m
section
variable {X:Cx} {E:XK} {pos:Pos}
theorem sP {t:Expr} {body:List Stmt} {tc:TM} {cb:SM} (hp:PassesOwn (model X.prog X.w) X.A X.env X.xe) (hc:MT X E t tc) (hb:MSs X E body cb):MS X E (.While t body [] pos) (pq tc cb):=by
 refine (ps_while hp hc hb).imp fun Dn σ H ⟨W,η,m,s,n,p⟩=>?_
 refine ⟨fun f σ H=>∃ W η m,Sim X.K X.mg W H m∧REnv X.K W H η σ∧PostS X.K X.mg E W H Dn (mWh tc cb f η m),⟨te,W,η,m,s,n,p⟩,fun f σ H ⟨W,η,m,s2,n2,p2⟩=>?_⟩
 cases f with
 | zero=>exact p2.elim
 | succ f=>
  unfold mWh at p2
  refine ⟨W,η,m,s2,n2,(PostS.bind (Rl:=gH) p2).imp fun b H1 ⟨W1,b',m1,e1,s1,hb',p3⟩=>?_⟩
  cases (show b'=b from hb')
  cases b with
  | false=>
   rw [if_neg Bool.false_ne_true] at p3 ⊢
   exact p3 σ W1 H1 (Ext.refl _ _) s1 (n2.ext e1)
  | true=>
   rw [if_pos rfl] at p3 ⊢
   refine ⟨fun σ' H'=>∃ W η m,Sim X.K X.mg W H' m∧REnv X.K W H' η σ'∧PostS X.K X.mg E W H' Dn (mWh tc cb f η m),fun σ' H' h=>⟨f,Nat.lt_succ_self f,h⟩,W1,η,m1,s1,n2.ext e1,?_⟩
   revert p3
   generalize cb η m1=r
   intro p3
   cases r with
   | nxt η5 m5=>exact fun σ5 W5 H5 e5 s5 n5=>⟨W5,η5,m5,s5,n5,PostS.ext e5 p3⟩
   | cnt η5 m5=>exact fun σ5 W5 H5 e5 s5 n5=>⟨W5,η5,m5,s5,n5,PostS.ext e5 p3⟩
   | brk η5 m5=>exact p3
   | ret d5 m5=>exact p3
   | exc x5 m5=>exact p3
   | stk=>exact p3
end
def sO (i j:Nat) (a:AM):SM:=fun η m=>(a η m).toS fun xs m1=>match xs with
 | [x,y]=>.nxt ((η.set i (some x)).set j (some y)) m1
 | _=>.stk
section
variable {X:Cx} {E:XK} {pos:Pos} {e:Expr} {ce:EM}
theorem vY {i j:Nat} {x y:Str} {a b:Expr} {ta:AM} {px py pt:Pos} {kt k2 pt2} (hc:X.calm=true) (hN:X.N.Nodup) (hi:X.N[i]?=some x) (hj:X.N[j]?=some y) (hij:i≠j)
  (hx:X.env.scope.names.lookup x=some .local) (hy:X.env.scope.names.lookup y=some .local) (ha:MA X E [a,b] ta)
  (hw:swappedStores [.Tuple [.Name x px,.Name y py] kt pt] (.Tuple [a,b] k2 pt2) X.env=pure (some [x,y]):=by rfl)
  (hs:swapsWithSole [.Tuple [.Name x px,.Name y py] kt pt] (.Tuple [a,b] k2 pt2) pos.line X.env=pure false:=by rfl) :
  MS X E (.Assign [.Tuple [.Name x px,.Name y py] kt pt] (.Tuple [a,b] k2 pt2) pos) (sO i j ta):=(ps_par hc hN hi hj hij hx hy ha hw hs).imp fun Dn σ H ⟨W,η,m,s,n,p⟩=>
 ⟨W,η,m,s,n,(PostS.bind (Rl:=Reps X.K) p).imp fun vs H1 ⟨W1,ds,m1,e1,s1,r1,p1⟩=>by
  split at p1
  ·rename_i d1 d2
   obtain ⟨v,vr,rfl,k1,k2⟩:=r1.cons'
   obtain ⟨w,vr2,rfl,k3,k4⟩:=k2.cons'
   rw [k4.nil']
   exact ⟨v,w,rfl,p1 _ W1 H1 (Ext.refl _ _) s1 (((n.ext e1).set k1).set k3)⟩
  ·exact p1.elim⟩
end
def jn (ds:List D) (m:Mem):R D:=match ds with
 | [.int i]=>.ok (.int i) m
 | [.bl b]=>.ok (.int (if b then 1 else 0)) m
 | [.str a]=>match PySem.intText? a with
  | some n=>if a.length≤640 then .ok (.int n) m else .stk
  | none=>.stk
 | _=>.stk
section
variable {X:Cx} {E:XK}
theorem kx:CallR X (.type "int") (rCM X.K X.mg E jn):=by
 rintro pins s σ H xs us Q I rv ⟨W,m,ds,sm,rs,p⟩
 unfold jn at p
 split at p
 ·obtain ⟨v,vr,rfl,r1,r2⟩:=rs.cons'
  rw [r2.nil',r1.int'] at rv
  exact call_int1 pins s σ H _ us Q I rv (.inl ⟨_,rfl,p.now sm bw⟩)
 ·obtain ⟨v,vr,rfl,r1,r2⟩:=rs.cons'
  rw [r2.nil',r1.bl'] at rv
  exact call_int1 pins s σ H _ us Q I rv (.inr ⟨_,rfl,p.now sm bw⟩)
 ·obtain ⟨v,vr,rfl,r1,r2⟩:=rs.cons'
  rw [r2.nil',r1.str'] at rv
  split at p
  ·rename_i n hn
   split at p
   ·rename_i hl
    exact call_int_str pins s σ H _ us Q I rv ⟨_,n,rfl,hn,hl,p.now sm bw⟩
   ·exact p.elim
  ·exact p.elim
 ·exact p.elim
end
section
variable {P:Program} {w:World} {K:PySem.W.Frag} {mg:Str→Option Value} {base:Heap}
structure uP (K:PySem.W.Frag) (x qual:Str) (st:Stmt) (dvs:List V) (f:Addr) (fd:FuncData):Prop where
 ex:∃ (oc:Value) (od:Option Addr) (T:Addr) (o:Obj) (its:List Value) (n:Nat) (kV doc pm:Value) (an:Option Addr) (cdv ct:Value) (osl:Array (Option Value)),
  fd=PySem.W.fnOf x qual (defArgs st) (defBody st) (defScope st) (.ref T) kV doc pm an cdv ct∧K.lookup f=some ⟨oc,od,.func fd,osl⟩∧PySem.W.codeIn K cdv qual=true∧K.lookup T=some o∧o.data=.seq its.toArray n∧Vals dvs its
 kp:PySem.W.keepIn K (.ref f)=true
theorem z7 {x qual:Str} {st:Stmt} {f:Addr} {fd:FuncData} {N ps:List Str} {k:Nat} {body:SM} {dvs:List V} (F:uP K x qual st dvs f fd) (S:FnScope N ps (defScope st))
  (h:∀ (cdv:Value) (A:Around) (outer:List Env) (s:Shared) (H:Hp) (E:XK),Room k (A.deeper (envOfC qual (defScope st) s.heap.objs.size f cdv))→MSs (cxOf CX0 P w K mg base N qual (defScope st) f cdv A outer s H E).nox E0 (defBody st) body) :
  FnOk P w K mg base CX0 (k+1) f fd ps (sp0 K mg (mFn ps.length N.length body)):=by
 have hlen:∀ {vs H Q E},sp0 K mg (mFn ps.length N.length body) vs H Q E→vs.length=ps.length:=fun {vs H Q E} ⟨W,m,ds,s,r,p⟩=>by
  unfold mFn at p
  split at p
  ·rename_i hl
   rw [r.length]
   exact hl
  ·exact p.elim
 obtain ⟨oc,od,T,o,its,n,kV,doc,pm,an,cdv,ct,osl,rfl,lk,hcd,_⟩:=F.ex
 refine fn_of lk hcd S (fun vs H Q E q=>hlen q) fun A outer s H vs Q E hr q=>?_
 have hl:=hlen q
 obtain ⟨W,m,ds,sm,r,p⟩:=q
 refine ⟨_,(h cdv A outer s H E hr).nox,W,ds.map some++List.replicate (N.length - ds.length) none,m,sm,o5 r,?_⟩
 unfold mFn at p
 rw [if_pos (by rw [←r.length]; exact hl)] at p
 revert p
 generalize body (ds.map some++List.replicate (N.length - ds.length) none) m=res
 intro p
 cases res with
 | nxt η m'=>exact fun σ W' H' e s n=>p .non W' H' e s nh
 | ret d m'=>exact fun v W' H' e s n=>p v W' H' e s n
 | exc x m'=>exact p
 | brk η m'=>exact p.elim
 | cnt η m'=>exact p.elim
 | stk=>exact p.elim
theorem Au {x qual:Str} {st:Stmt} {f:Addr} {fd:FuncData} {ps:List Str} {k n:Nat} {ks:List Str} {ix:List Nat} {dd:List D} {dvs:List V} {fm:FM} (F:uP K x qual st dvs f fd) (hm:mg x=some (.ref f)) (ok:FnOk P w K mg base CX0 k f fd ps (sp0 K mg fm)) (hdd:∀ W H,Reps K W H dd dvs)
  (h:∀ (T:Addr) (kV doc pm:Value) (an:Option Addr) (cdv ct:Value) (us ws its:List Value),us.length=n→ws.length=ks.length→its.length=dvs.length→
   ∃ c,bindArgs (PySem.W.fnOf x qual (defArgs st) (defBody st) (defScope st) (.ref T) kV doc pm an cdv ct) ⟨us,ks.zip ws⟩=seqItems? (.ref T) >>=c∧c (some its.toArray)=pure (ps.zip (arr ix (us++ws++its)))) :
  FnK P w K mg base k x n ks ix dd fm:=by
 have kp:=F.kp
 obtain ⟨oc,od,T,o,its,nn,kV,doc,pm,an,cdv,ct,osl,rfl,lk,hcd,lT,oT,rv⟩:=F.ex
 refine ⟨f,_,ps,dvs,its,hm,kp,rv,hdd,fun s us ws hK l1 l2=>?_,ok⟩
 obtain ⟨c,h1,h2⟩:=h T kV doc pm an cdv ct us ws its l1 l2 rv.length.symm
 exact PySem.W.binds_K hK rfl lT oT h1 h2
end
end Mir
namespace Mir
open PySem PySem.Spec PyProof.Rows L2
def bMin (ds:List D) (m:Mem):R D:=match ds with
 | [.int i,.int j]=>.ok (.int (if j < i then j else i)) m
 | _=>.stk
def pF (ds:List D) (m:Mem):R D:=match ds with
 | [.int i,.int j]=>.ok (.int (if j > i then j else i)) m
 | _=>.stk
section
variable {X:Cx} {E:XK}
theorem uo (hc:X.calm=true):CallR X (.builtin "max") (rCM X.K X.mg E pF):=by
 rintro pins s σ H xs us Q I rv ⟨W,m,ds,sm,rs,p⟩
 unfold pF at p
 split at p
 ·obtain ⟨v,vr,rfl,r1,r2⟩:=rs.cons'
  obtain ⟨v2,vr2,rfl,r3,r4⟩:=r2.cons'
  rw [r4.nil',r1.int',r3.int'] at rv
  exact call_max2 hc pins s σ H _ us Q I rv ⟨_,_,rfl,p.now sm bw⟩
 ·exact p.elim
end
end Mir
namespace Mir
open PySem PySem.Spec PyProof.Rows L2
def jsD (acc:Str) (k:Str→Mem→R D) (x:D) (m:Mem):R D:=match x with
 | .str y=>if (acc++y).length≤sizeLine then k (acc++y) m else .stk
 | _=>.stk
def repS (x:Str) (n:Int):Str:=if n < 1 then Str.empty else if (n ==1 || x.length ==0)=true then x else ⟨(List.replicate n.toNat x.cps).foldl (·++·) #[]⟩
def rJ (d e:D) (m:Mem):R D:=match d,e with
 | .str x,.int n=>if -(2^63)≤n∧n < 2^63∧x.length*n.toNat≤sizeLine then .ok (.str (repS x n)) m else .stk
 | _,_=>.stk
section
variable {X:Cx} {E:XK}
theorem qS {K:PySem.W.Frag} {W:Wd} {H:Hp}:∀ ys:List Str,Reps K W H (ys.map .str) (ys.map V.str)
 | []=>bN
 | y ::ys=>⟨_,_,rfl,cW,qS ys⟩
theorem yK:OpM X E (binaryOp .Mult) rJ:=by
 rintro pins s σ H x y v u Q I rx ry ⟨W,m,d,e,sm,rd,re,p⟩
 unfold rJ at p
 split at p
 ·rename_i x n
  rw [rd.str'] at rx
  rw [re.int'] at ry
  obtain ⟨t,rfl⟩:=rx
  obtain ⟨u,rfl⟩:=ry
  split at p
  ·rename_i hl
   obtain ⟨h1,h2,h3⟩:=hl
   have q:=p.now sm cW
   unfold repS at q
   refine P.mul_str ?_ ?_ ?_ ?_
   ·rw [decide_eq_false (by omega),decide_eq_false (by omega)]; rfl
   ·intro hn hb
    have hz:(sizeLine:Int)≤(2^63 - 1):=by decide
    have hxn:(x.length:Int)*n≤2^63 - 1:=by
     have:((x.length*n.toNat:Nat):Int)≤(sizeLine:Nat):=by omega
     rw [Int.natCast_mul,Int.toNat_of_nonneg (by omega)] at this
     omega
    have:=(Int.le_ediv_iff_mul_le (show 0 < n by omega)).mpr hxn
    omega
   ·intro hn hb
    have hz:¬ (x.length*n.toNat > sizeLine):=by omega
    simp only [Builtin.Str.tooLong,decide_eq_false_iff_not]
    exact hz
   ·split
    ·rename_i hn
     rw [if_pos hn] at q
     exact ⟨by decide,.str _,H,I.tok _,⟨_,rfl⟩,q⟩
    ·rename_i hn
     rw [if_neg hn] at q
     split
     ·rename_i hb
      rw [if_pos hb] at q
      exact ⟨.str _,H,I,⟨_,rfl⟩,q⟩
     ·rename_i hb
      rw [if_neg hb] at q
      refine ⟨?_,.str _,H,I.tok _,⟨_,rfl⟩,q⟩
      show Array.size _≤sizeLine
      rw [size_reps]
      have:x.cps.size*n.toNat≤sizeLine:=h3
      rw [Nat.mul_comm n.toNat]
      simpa using this
  ·exact p.elim
 ·exact p.elim
end
end Mir
namespace Mir
open PySem PySem.Spec PyProof.Rows L2
inductive SK where
 | l | t
def SqK (K:PySem.W.Frag) (H:Hp) (k:SK) (a:Addr) (xs:List V):Prop:=match k with
 | .l=>SqL K H a xs
 | .t=>SqT K H a xs
def IsIt (h:Heap) (k:SK) (it a:Addr) (i:Nat):Prop:=match k with
 | .l=>h.IsListIter it a i
 | .t=>h.IsTupleIter it a i
def IsSq (h:Heap) (k:SK) (a:Addr) (items:Array Value):Prop:=match k with
 | .l=>h.IsList a items
 | .t=>h.IsTuple a items
def vi (k:SK) (a:Addr):Obj:=match k with
 | .l=>{ cls:=.type "list_iterator",data:=.fields #[.ref a,.int 0 0] }
 | .t=>{ cls:=.type "tuple_iterator",data:=.fields #[.ref a,.int 0 0] }
theorem iM {prog:Program} {w:World} {A:Around} (k:SK) (hh:A.handled=none) (it a:Addr) (hne:a≠it) (items:Array Value) :
  Draws prog w A it [it,a] items.size (fun i v=>items[i]?=some v) (fun i h=>IsIt h k it a i∧IsSq h k a items):=by
 cases k with
 | l=>exact Draws.list hh it a hne items
 | t=>exact Draws.tuple hh it a hne items
theorem kD (k:SK) (a:Addr) (items:Array Value):Begins (.ref a) (vi k a) fun h=>IsSq h k a items:=by
 cases k with
 | l=>exact begins_list a items
 | t=>exact begins_tuple a items
theorem jF {h:Heap} {k:SK} {it a:Addr} (e:h.get? it=some (vi k a)):IsIt h k it a 0:=by
 cases k with
 | l=>exact ⟨_,e,rfl,rfl⟩
 | t=>exact ⟨_,e,rfl,rfl⟩
theorem IsIt.get {h:Heap} {k:SK} {it a:Addr} {i:Nat} (x:IsIt h k it a i):∃ o vs,h.get? it=some o∧o.data=.fields vs:=by
 cases k with
 | l=>obtain ⟨o,e,_,d⟩:=x; exact ⟨o,_,e,d⟩
 | t=>obtain ⟨o,e,_,d⟩:=x; exact ⟨o,_,e,d⟩
theorem IsIt.at {h h':Heap} {k:SK} {it a:Addr} {i:Nat} (x:IsIt h k it a i) (hk:∀ o,h.get? it=some o→h'.get? it=some o):IsIt h' k it a i:=by
 cases k with
 | l=>exact Heap.IsListIter.at x hk
 | t=>exact Heap.IsTupleIter.at x hk
theorem sqK {X:Cx} {pins:List (Addr×Obj)} {σ:SL} {H:Hp} {s:Shared} {k:SK} {a:Addr} {xs:List V} (I:Inv X pins σ H s) (h:SqK X.K H k a xs):∃ its:List Value,Vals xs its∧IsSq s.heap k a its.toArray∧a < s.heap.objs.size∧xs.length≤sizeLine:=by
 cases k with
 | l=>
  obtain ⟨its,r,p,z⟩:=I.list h
  exact ⟨its,r,p.isList,p.lt,z⟩
 | t=>
  obtain ⟨its,r,p,z⟩:=I.tuple h
  obtain ⟨o,e,_⟩:=id p
  exact ⟨its,r,p,Heap.lt_size e,z⟩
theorem pD {X:Cx} {pins:List (Addr×Obj)} {σ:SL} {H:Hp} {s:Shared} {k:SK} {a:Addr} {xs ys:List V} (I:Inv X pins σ H s) (h:SqK X.K H k a xs) (h':SqK X.K H k a ys):xs=ys:=by
 cases k with
 | l=>exact I.list_inj h h'
 | t=>exact I.tuple_inj h h'
def ItZ (K:PySem.W.Frag) (k1 k2:SK) (a b:Addr):It:=
 ⟨fun i H=>∃ (xs ys:List V) (x y:V),SqK K H k1 a xs∧SqK K H k2 b ys∧xs[i]?=some x∧ys[i]?=some y,
  fun i H v H'=>∃ T x y,v=.ref T∧H T=none∧H'=upd H T (.tup [x,y])∧(∀ xs,SqK K H k1 a xs→xs[i]?=some x)∧∀ ys,SqK K H k2 b ys→ys[i]?=some y,
  fun i H=>∃ xs ys:List V,SqK K H k1 a xs∧SqK K H k2 b ys∧(i=min xs.length ys.length)⟩
theorem zH {P:Program} {w:World} {K:PySem.W.Frag} {elts:List Expr} {kk:Nat} {tpos:Pos} {k1 k2:SK} {a b z TI TO i1 i2:Addr} (D:ZipSep2 z TI TO i1 i2 [i1,a] [i2,b]) :
  Turn P w K (.Tuple elts kk tpos) (ItZ K k1 k2 a b) [z,TI,TO,i1,i2] z (fun i h=>IsZip h z TI TO .none∧IsTupOf2 h TI (.ref i1) (.ref i2)∧(∃ x y,IsTupOf2 h TO x y)∧IsIt h k1 i1 a i∧IsIt h k2 i2 b i) where
 mem:=by simp
 obj:=fun i h st c hc=>by
  obtain ⟨hz,hTI,⟨x,y,hTO⟩,h1,h2⟩:=st
  obtain ⟨o1,v1,e1,d1⟩:=h1.get
  obtain ⟨o2,v2,e2,d2⟩:=h2.get
  have e':c=z∨c=TI∨c=TO∨c=i1∨c=i2:=by simpa using hc
  rcases e' with q | q | q | q | q
  ·rw [q]; exact ⟨_,hz,fun v q=>nomatch q⟩
  ·rw [q]; exact ⟨_,hTI,fun v q=>nomatch q⟩
  ·rw [q]; exact ⟨_,hTO,fun v q=>nomatch q⟩
  ·rw [q]; exact ⟨o1,e1,fun v q=>by rw [d1] at q; cases q⟩
  ·rw [q]; exact ⟨o2,e2,fun v q=>by rw [d2] at q; cases q⟩
 keep:=fun i h h' st k=>by
  obtain ⟨hz,hTI,⟨x,y,hTO⟩,h1,h2⟩:=st
  exact ⟨k z (by simp) _ hz,k TI (by simp) _ hTI,⟨x,y,k TO (by simp) _ hTO⟩,h1.at fun o q=>k i1 (by simp) o q,h2.at fun o q=>k i2 (by simp) o q⟩
 item:=by
  intro X hP hw hK hc i pins s σ H E I hf st hg
  subst hP hw hK
  obtain ⟨hz,hTI,hTO,h1,h2⟩:=st
  obtain ⟨xs,ys,x,y,hqx,hqy,hx,hy⟩:=hg
  obtain ⟨its,rv,p,_,_⟩:=sqK I hqx
  obtain ⟨its2,rv2,p2,_,_⟩:=sqK I hqy
  obtain ⟨u,hu,ru⟩:=rv.get hx
  obtain ⟨u2,hu2,ru2⟩:=rv2.get hy
  have hh:X.A.in1.handled=none:=I.ok.hd hc
  have n1:a≠i1:=fun e=>by
   subst e
   exact absurd D.mem1 (fun _=>by
    obtain ⟨o1,v1,e1,d1⟩:=h1.get
    cases k1 with
    | l=>obtain ⟨o,e,_,n,d⟩:=p; rw [e1] at e; cases e; rw [d1] at d; cases d
    | t=>obtain ⟨o,e,_,n,d⟩:=p; rw [e1] at e; cases e; rw [d1] at d; cases d)
  have n2:b≠i2:=fun e=>by
   subst e
   exact absurd D.mem2 (fun _=>by
    obtain ⟨o1,v1,e1,d1⟩:=h2.get
    cases k2 with
    | l=>obtain ⟨o,e,_,n,d⟩:=p2; rw [e1] at e; cases e; rw [d1] at d; cases d
    | t=>obtain ⟨o,e,_,n,d⟩:=p2; rw [e1] at e; cases e; rw [d1] at d; cases d)
  have G:=GoesN.zip2 (prog:=X.prog) (w:=X.w) (A:=X.A) (elts:=elts) (x1:=kk) (pos:=tpos) D (iM k1 hh i1 a n1 its.toArray) (iM k2 hh i2 b n2 its2.toArray)
  have hi1:i < its.length:=(List.getElem?_eq_some_iff.mp hu).1
  have hi2:i < its2.length:=(List.getElem?_eq_some_iff.mp hu2).1
  refine wpAny_mono (G.goes i s (fun v s2=>∃ x H',Inv X pins σ H' s2∧RelV x v∧(ItZ X.K k1 k2 a b).yld i H x H'∧(IsZip s2.heap z TI TO .none∧IsTupOf2 s2.heap TI (.ref i1) (.ref i2)∧(∃ x y,IsTupOf2 s2.heap TO x y)∧IsIt s2.heap k1 i1 a (i+1)∧IsIt s2.heap k2 i2 b (i+1))∧∀ c∈[z,TI,TO,i1,i2],H' c=none) E (by simp; omega) ⟨hz,hTI,hTO,⟨h1,p⟩,⟨h2,p2⟩⟩ fun v h' tk hY st' hk ht=>?_) (fun r s1 h=>h) (fun _ _ h=>h)
  obtain ⟨T,w1,w2,rfl,hT,e1,e2,hTup⟩:=hY
  have e1:w1=u:=by
   have:its.toArray[i]?=some u:=by simpa using hu
   rw [this] at e1; cases e1; rfl
  have e2:w2=u2:=by
   have:its2.toArray[i]?=some u2:=by simpa using hu2
   rw [this] at e2; cases e2; rfl
  subst e1 e2
  have hn:H T=none:=I.hok.fresh hT
  have new:ObjOk X.prog X.w (upd H T (.tup [x,y])) h' T (.tup [x,y]):=
   ⟨by show 2≤sizeLine; decide,[w1,w2],.cons ru (.cons ru2 .nil),hTup⟩
  have hsub:∀ c,c∈[z,TO,i1,i2]→c∈[z,TI,TO,i1,i2]:=fun c hcm=>by
   have:c=z∨c=TO∨c=i1∨c=i2:=by simpa using hcm
   rcases this with q | q | q | q<;>simp [q]
  have I1:Inv X pins σ (upd H T (.tup [x,y])) { s with heap:=h',toks:=tk }:=
   I.turnedNew (ch:=[z,TO,i1,i2]) (fun c o hb q=>hk c o hb q) (fun c hcm=>hf c (hsub c hcm)) hT new
  refine ⟨.ref T,_,I1,rfl,⟨T,x,y,rfl,hn,rfl,fun l hl=>by rw [pD I hl hqx]; exact hx,fun l hl=>by rw [pD I hl hqy]; exact hy⟩,⟨st'.1,st'.2.1,st'.2.2.1,st'.2.2.2.1.1,st'.2.2.2.2.1⟩,fun c hcm=>?_⟩
  have hlt:c < s.heap.objs.size:=by
   obtain ⟨x0,y0,hTO⟩:=hTO
   obtain ⟨o1,v1,e1,d1⟩:=h1.get
   obtain ⟨o2,v2,e2,d2⟩:=h2.get
   have e':c=z∨c=TI∨c=TO∨c=i1∨c=i2:=by simpa using hcm
   rcases e' with q | q | q | q | q
   ·rw [q]; exact Heap.lt_size hz
   ·rw [q]; exact Heap.lt_size hTI
   ·rw [q]; exact Heap.lt_size hTO
   ·rw [q]; exact Heap.lt_size e1
   ·rw [q]; exact Heap.lt_size e2
  rw [upd_ne (Nat.ne_of_lt (Nat.lt_of_lt_of_le hlt hT))]
  exact (hf c hcm).1
 done:=by
  intro X hP hw hK hc i pins s σ H E I hf st hg
  subst hP hw hK
  obtain ⟨hz,hTI,hTO,h1,h2⟩:=st
  obtain ⟨xs,ys,hqx,hqy,hi⟩:=hg
  obtain ⟨its,rv,p,_,_⟩:=sqK I hqx
  obtain ⟨its2,rv2,p2,_,_⟩:=sqK I hqy
  have hh:X.A.in1.handled=none:=I.ok.hd hc
  have n1:a≠i1:=fun e=>by
   subst e
   obtain ⟨o1,v1,e1,d1⟩:=h1.get
   cases k1 with
   | l=>obtain ⟨o,e,_,n,d⟩:=p; rw [e1] at e; cases e; rw [d1] at d; cases d
   | t=>obtain ⟨o,e,_,n,d⟩:=p; rw [e1] at e; cases e; rw [d1] at d; cases d
  have n2:b≠i2:=fun e=>by
   subst e
   obtain ⟨o1,v1,e1,d1⟩:=h2.get
   cases k2 with
   | l=>obtain ⟨o,e,_,n,d⟩:=p2; rw [e1] at e; cases e; rw [d1] at d; cases d
   | t=>obtain ⟨o,e,_,n,d⟩:=p2; rw [e1] at e; cases e; rw [d1] at d; cases d
  have G:=GoesN.zip2 (prog:=X.prog) (w:=X.w) (A:=X.A) (elts:=elts) (x1:=kk) (pos:=tpos) D (iM k1 hh i1 a n1 its.toArray) (iM k2 hh i2 b n2 its2.toArray)
  have l1:=rv.length
  have l2:=rv2.length
  have e:min its.toArray.size its2.toArray.size=i:=by simp; omega
  rw [e] at G
  refine G.stops s (fun s1=>Inv X pins σ H s1) E ⟨hz,hTI,hTO,⟨h1,p⟩,⟨h2,p2⟩⟩ fun h' tk hk _=>?_
  have hsub:∀ c,c∈[z,TO,i1,i2]→c∈[z,TI,TO,i1,i2]:=fun c hcm=>by
   have:c=z∨c=TO∨c=i1∨c=i2:=by simpa using hcm
   rcases this with q | q | q | q<;>simp [q]
  exact I.turnedL (ch:=[z,TO,i1,i2]) (fun c o hb q=>hk c o hb q) (fun c hcm=>hf c (hsub c hcm))
 self:=fun A i s Q E st h=>wpAny_pyIter_zip st.1 h
def dC (f g:Mem→Option (List D)):Src:=fun k m=>match f m,g m with
 | some xs,some ys=>match xs[k]?,ys[k]? with
  | some x,some y=>some (some (.tup [x,y]))
  | _,_=>if k=min xs.length ys.length then some none else none
 | _,_=>none
def aO:D→Mem→Option (List D)
 | .tup ds,_=>some ds
 | d,m=>ba m d
def og (a b:EM):IM:=fun η m=>(a η m).bind fun x m1=>(b η m1).bind fun y m2=>match aO x m2,aO y m2 with
 | some xs,some ys=>.ok (dC (aO x) (aO y),min xs.length ys.length) m2
 | _,_=>.stk
section
variable {K:PySem.W.Frag} {mg:Str→Option Value}
def d9:D→SK
 | .tup _=>.t
 | _=>.l
theorem walked {W W':Wd} {H H':Hp} {m:Mem} {d:D} {v:V} {ds:List D} (r:Rep K W H d v) (e:ExtZ W H W' H') (s:Sim K mg W' H' m) (h:aO d m=some ds):∃ a vs,v=.ref a∧SqK K H' (d9 d) a vs∧Reps K W' H' ds vs:=by
 have r':=r.extZ e
 cases d with
 | tup xs=>
  cases h
  obtain ⟨a,vs,e1,q1,q2⟩:=r'.tup'
  exact ⟨a,vs,e1,q1,q2⟩
 | lst xs=>obtain ⟨a,vs,e1,q1,q2⟩:=s.lst r' (ds:=ds) h; exact ⟨a,vs,e1,q1,q2⟩
 | scr xs=>obtain ⟨a,vs,e1,q1,q2⟩:=s.lst r' (ds:=ds) h; exact ⟨a,vs,e1,q1,q2⟩
 | ref i=>obtain ⟨a,vs,e1,q1,q2⟩:=s.lst r' (ds:=ds) h; exact ⟨a,vs,e1,q1,q2⟩
 | _=>cases h
theorem tu {W:Wd} {H:Hp} {m:Mem} {T:Addr} {x y:V} {d e:D} (s:Sim K mg W H m) (hT:H T=none) (r1:Rep K W H d x) (r2:Rep K W H e y) :
  Ext W H W (upd H T (.tup [x,y]))∧Sim K mg W (upd H T (.tup [x,y])) m∧km K W (upd H T (.tup [x,y])) (.tup [d,e]) (.ref T):=
 ⟨Ext.fresh hT,s.fresh hT,.inr ⟨[d,e],T,[x,y],rfl,rfl,.inl (.inl upd_same),(bB r1 (fE r2)).ext (Ext.fresh hT)⟩⟩
theorem yX {W:Wd} {H:Hp} {x y:D} {a b:Addr} (r1:Rep K W H x (.ref a)) (r2:Rep K W H y (.ref b)):JOk K mg km W H (ItZ K (d9 x) (d9 y) a b) (dC (aO x) (aO y)) where
 go:=fun W' H' m k d e s hs=>by
  unfold dC at hs
  split at hs
  ·rename_i xs ys h1 h2
   obtain ⟨a',vs,e1,q1,q2⟩:=walked r1 e s h1
   obtain ⟨b',us,e2,q3,q4⟩:=walked r2 e s h2
   cases e1
   cases e2
   split at hs
   ·rename_i x' y' g1 g2
    cases hs
    obtain ⟨v,k1,k2⟩:=q2.get g1
    obtain ⟨u,k3,k4⟩:=q4.get g2
    refine ⟨⟨vs,us,v,u,q1,q3,k1,k3⟩,fun z H2 hy=>?_⟩
    obtain ⟨T,v',u',rfl,hT,rfl,f1,f2⟩:=hy
    have:=f1 vs q1
    rw [k1] at this
    cases this
    have:=f2 us q3
    rw [k3] at this
    cases this
    obtain ⟨n1,n2,n3⟩:=tu s hT k2 k4
    exact ⟨W',n1,n2,n3⟩
   ·split at hs<;>cases hs
  ·cases hs
 stop:=fun W' H' m k e s hs=>by
  unfold dC at hs
  split at hs
  ·rename_i xs ys h1 h2
   obtain ⟨a',vs,e1,q1,q2⟩:=walked r1 e s h1
   obtain ⟨b',us,e2,q3,q4⟩:=walked r2 e s h2
   cases e1
   cases e2
   split at hs
   ·cases hs
   ·split at hs
    ·rename_i hk
     exact ⟨vs,us,q1,q3,by rw [q2.length,q4.length]; exact hk⟩
    ·cases hs
  ·cases hs
end
section
variable {X:Cx} {E:XK} {pos:Pos}
theorem nm2 {c x y:Nat} (h1:c≠x) (h2:c≠y):(show Addr from c)∉([x,y]:List Addr):=fun h=>by
 rcases List.mem_cons.mp h with h | h
 ·exact h1 h
 ·rcases List.mem_cons.mp h with h | h
  ·exact h2 h
  ·cases h
theorem uL (N a b:Nat) (l1:a < N) (l2:b < N):ZipSep2 (N+4) (N+2) (N+3) N (N+1) [N,a] [N+1,b]:=by
 have e1:N+2≠N+4:=by omega
 have e2:N+3≠N+4:=by omega
 have e3:N+2≠N+3:=by omega
 have e4:N+2≠N:=by omega
 have e5:N+2≠N+1:=by omega
 exact ⟨e1,e2,e3,e4,List.mem_cons_self,nm2 (by omega) (by omega),nm2 (by omega) (by omega),e5,List.mem_cons_self,nm2 (by omega) (by omega),nm2 (by omega) (by omega),nm2 (by omega) (by omega),nm2 (by omega) (by omega)⟩
theorem mI {e e2:Expr} {ca cb:EM} {p tpos:Pos} {elts:List Expr} {kk:Nat} (hm:X.mg "zip"=none) (hg:Gl X "zip") (ha:MEx X E e ca) (hb:MEx X E e2 cb)
  (hs:starEach [e,e2] X.env=(false,eval e X.env) ::starEach [e2] X.env:=by rfl) (hpl:(backTo pos (starEach [e2] X.env)).any (·.1)=false:=by rfl) (hs2:starEach [e2] X.env=(false,eval e2 X.env) ::starEach [] X.env:=by rfl) :
  MI X E km (.Tuple elts kk tpos) (.Call (.Name "zip" p) [e,e2] [] pos) (og ca cb):=by
 refine ⟨fun pins s σ H R I h=>?_⟩
 obtain ⟨W,η,m,sm,n,pp⟩:=h
 have h2:(tCons (rdE X.K X.mg E ca) (tCons (rdE X.K X.mg E cb) (rdA X.K X.mg E ag))) σ H (fun vs H1=>∃ x y W1 m1 d1 d2,vs=[x,y]∧Sim X.K X.mg W1 H1 m1∧Rep X.K W1 H1 d1 x∧Rep X.K W1 H1 d2 y∧Post X.K X.mg E (RlI X.K X.mg km) W1 H1 R (match aO d1 m1,aO d2 m1 with
   | some xs,some ys=>.ok (dC (aO d1) (aO d2),min xs.length ys.length) m1
   | _,_=>.stk)):=by
  refine ⟨W,η,m,sm,n,(Post.bind (Rl:=Rep X.K) pp).imp fun x H1 ⟨W1,d1,m1,e1,s1,r1,p1⟩=>?_⟩
  refine ⟨W1,η,m1,s1,n.ext e1,(Post.bind (Rl:=Rep X.K) p1).imp fun y H2 ⟨W2,d2,m2,e2,s2,r2,p2⟩=>?_⟩
  exact ⟨W2,η,m2,s2,(n.ext e1).ext e2,fun b W' H' ex s' r'=>by
   rw [Reps.nil' r']
   exact ⟨x,y,W',m2,d1,d2,rfl,s',(r1.ext e2).ext ex,r2.ext ex,Post.ext ex p2⟩⟩
 have hA:PA X [e,e2] (tCons (rdE X.K X.mg E ca) (tCons (rdE X.K X.mg E cb) (rdA X.K X.mg E ag))):=pa_cons ha (pa_cons hb af hs2) hs
 refine Call_ (ld_blt I hg hm PyProof.Rows.boot_zip (PyProof.Rows.callWith_type1 (thn (hA.run pos pins s σ H _ I h2) fun us s1 ⟨vs,H1,I1,rv,q1⟩=>?_) hs hpl))
 obtain ⟨x,y,W1,m1,d1,d2,rfl,sm1,r1,r2,q⟩:=q1
 split at q
 ·rename_i xs ys h1 h2
  obtain ⟨a,vs,e1,k1,k2⟩:=walked r1 (Ext.refl _ _).toZ sm1 h1
  obtain ⟨b,us',e2,k3,k4⟩:=walked r2 (Ext.refl _ _).toZ sm1 h2
  subst e1 e2
  cases rv with
  | cons r rr=>
  cases rr with
  | cons r' rr=>
  cases rr
  cases r
  cases r'
  obtain ⟨its,rv1,p1,l1,_⟩:=sqK I1 k1
  obtain ⟨its2,rv2,p2,l2,_⟩:=sqK I1 k3
  refine zip_begins2 (kD (d9 d1) a its.toArray) (kD (d9 d2) b its2.toArray) p1 p2 fun h' hz hTI hTO g1 g2 hsz hk=>wpAny_pyIter_zip hz ?_
  have I2:Inv X pins σ H1 { s1 with heap:=h' }:=I1.kept (t':=s1.toks) hk
  refine ⟨s1.heap.objs.size+4,[s1.heap.objs.size+4,s1.heap.objs.size+2,s1.heap.objs.size+3,s1.heap.objs.size,s1.heap.objs.size+1],_,_,H1,rfl,I2,zH (k1:=d9 d1) (k2:=d9 d2) (a:=a) (b:=b) ?_,⟨hz,hTI,⟨_,_,hTO⟩,jF g1,jF g2⟩,fun c hcm=>?_,?_⟩
  ·exact uL _ a b l1 l2
  ·have e':c=s1.heap.objs.size+4∨c=s1.heap.objs.size+2∨c=s1.heap.objs.size+3∨c=s1.heap.objs.size∨c=s1.heap.objs.size+1:=by simpa using hcm
   have hle:s1.heap.objs.size≤c:=by
    rcases e' with z | z | z | z | z
    ·rw [z]; exact Nat.le_add_right _ _
    ·rw [z]; exact Nat.le_add_right _ _
    ·rw [z]; exact Nat.le_add_right _ _
    ·rw [z]; exact Nat.le_refl _
    ·rw [z]; exact Nat.le_add_right _ _
   exact I1.fpOk hle (I1.hok.fresh hle)
  ·exact q.now sm1 (yX r1 r2)
 ·exact q.elim
end
theorem kO {v:Value} {o:Obj} {H:Heap→Prop} (B:Begins v o H) :
  Meets (Builtin.«enumerate.__new__» ⟨[.type "enumerate",v],[]⟩) (fun _ R s=>H s.heap∧
   R (.ok (.ret (.ref (s.heap.push o).objs.size))) { s with heap:=(s.heap.push o).push { cls:=.type "enumerate",data:=.fields #[.none,.bool false,.ref s.heap.objs.size,rawInt 0,.none,.none] } }):=
 .of_wp fun prog w A R s h=>by
  obtain ⟨hp,g,d,tk,os⟩:=s; obtain ⟨h1,h⟩:=h
  have hsub:=sub_enumerate
  have q1:∀ {A':Around} {E:Value→Shared→Prop} {Q:Value→Shared→Prop},Q (.ref hp.objs.size) ⟨hp.push o,g,d,tk,os⟩→wpAny (model prog w) A' (pyIter v) Q E ⟨hp,g,d,tk,os⟩:=
   fun q=>B.iter prog w _ _ ⟨hp,g,d,tk,os⟩ _ h1 q
  wp_walk using q1
  refine wpAny_stack_any fun st=>wpAny_pure ?_
  split
  ·rename_i c _ _ _ _ _
   cases (c ==Value.type "enumerate")
   ·wp_walk using q1
    exact ⟨_,rfl,h⟩
   ·wp_walk using q1
    exact ⟨_,rfl,h⟩
  ·wp_walk using q1
   exact ⟨_,rfl,h⟩
theorem sW {prog:Program} {w:World} {A:Around} {E:Value→Shared→Prop} {s:Shared} {v:Value} {o:Obj} {H:Heap→Prop} {Q:Value→Shared→Prop} (B:Begins v o H) (h1:H s.heap)
  (h:∀ h',IsEnum h' (s.heap.objs.size+1) s.heap.objs.size 0 .none→h'.get? s.heap.objs.size=some o→h'.objs.size=s.heap.objs.size+2→
   (∀ b o,s.heap.get? b=some o→h'.get? b=some o)→Q (.ref (s.heap.objs.size+1)) { s with heap:=h' }) :
  wpAny (model prog w) A (call (.type "enumerate") [v]) Q E s:=by
 refine callType_new F.called_enumerate (by decide) (F.typeCall_enumerate_1 _) (F.newCall_enumerate_1 _) (fun obj=>F.args_object_init_2 obj _) F.entry_enumerate_new
  (kO B) ⟨h1,?_⟩
 have hz:(s.heap.push o).objs.size=s.heap.objs.size+1:=Heap.size_push ..
 show _∧_
 rw [hz]
 have he:IsEnum ((s.heap.push o).push { cls:=.type "enumerate",data:=.fields #[.none,.bool false,.ref s.heap.objs.size,rawInt 0,.none,.none] }) (s.heap.objs.size+1) s.heap.objs.size 0 .none:=by
  have:=Heap.get?_push_size (s.heap.push o) (o:={ cls:=.type "enumerate",data:=.fields #[.none,.bool false,.ref s.heap.objs.size,rawInt 0,.none,.none] }) rfl
  rw [hz] at this; exact this
 refine ⟨⟨_,he,rfl⟩,h _ he (Heap.get?_push_of_some _ (Heap.get?_push_size _ B.free)) (by rw [Heap.size_push,hz]) fun b o x=>Heap.get?_push_of_some _ (Heap.get?_push_of_some _ x)⟩
def ItE (K:PySem.W.Frag) (c:Int) (k:SK) (a:Addr):It:=
 ⟨fun i H=>∃ (xs:List V) (x:V),SqK K H k a xs∧xs[i]?=some x,fun i H v H'=>∃ T x,v=.ref T∧H T=none∧H'=upd H T (.tup [.int (c+(i:Nat)),x])∧∀ xs,SqK K H k a xs→xs[i]?=some x,fun i H=>∃ xs:List V,SqK K H k a xs∧xs.length=i⟩
theorem IsIt.ne {h:Heap} {k:SK} {it a:Addr} {i:Nat} {its:Array Value} (x:IsIt h k it a i) (p:IsSq h k a its):a≠it:=fun e=>by
 subst e
 obtain ⟨o1,v1,e1,d1⟩:=x.get
 cases k with
 | l=>obtain ⟨o,e,_,n,d⟩:=p; rw [e1] at e; cases e; rw [d1] at d; cases d
 | t=>obtain ⟨o,e,_,n,d⟩:=p; rw [e1] at e; cases e; rw [d1] at d; cases d
theorem zN {P:Program} {w:World} {K:PySem.W.Frag} {elts:List Expr} {kk:Nat} {tpos:Pos} {c:Int} {k:SK} (a e it:Addr) (hei:e≠it) (hea:e≠a) :
  Turn P w K (.Tuple elts kk tpos) (ItE K c k a) [e,it] e (fun i h=>(∃ old,IsEnum h e it (c+((i:Nat):Int)) old)∧IsIt h k it a i) where
 mem:=by simp
 obj:=fun i h st b hb=>by
  obtain ⟨⟨old,he⟩,hi⟩:=st
  obtain ⟨o,vs,ho,hd⟩:=hi.get
  have e':b=e∨b=it:=by simpa using hb
  rcases e' with z | z
  ·rw [z]; exact ⟨_,he,fun v q=>nomatch q⟩
  ·rw [z]; exact ⟨o,ho,fun v q=>by rw [hd] at q; cases q⟩
 keep:=fun i h h' st k=>let ⟨⟨old,he⟩,hi⟩:=st; ⟨⟨old,k e (by simp) _ he⟩,hi.at fun o q=>k it (by simp) o q⟩
 item:=by
  intro X hP hw hK hc i pins s σ H E I hf st hg
  subst hP hw hK
  obtain ⟨hE,hit⟩:=st
  obtain ⟨xs,x,hq,hx⟩:=hg
  obtain ⟨its,rv,p,_,_⟩:=sqK I hq
  obtain ⟨u,hu,ru⟩:=rv.get hx
  have hh:X.A.in1.handled=none:=I.ok.hd hc
  have G:=GoesN.enumFrom (prog:=X.prog) (w:=X.w) (A:=X.A) (elts:=elts) (x1:=kk) (pos:=tpos) c (iM k hh it a (hit.ne p) its.toArray) e hei (nm2 hei hea) List.mem_cons_self
  have hi1:i < its.length:=(List.getElem?_eq_some_iff.mp hu).1
  refine wpAny_mono (G.goes i s (fun v s2=>∃ x H',Inv X pins σ H' s2∧RelV x v∧(ItE X.K c k a).yld i H x H'∧((∃ old,IsEnum s2.heap e it (c+((i+1:Nat):Int)) old)∧IsIt s2.heap k it a (i+1))∧∀ b∈[e,it],H' b=none) E (by simpa using hi1) ⟨hE,⟨hit,p⟩⟩ fun v h' tk hY st' hk ht=>?_) (fun r s1 h=>h) (fun _ _ h=>h)
  obtain ⟨T,t,w1,rfl,hT,e1,hTup⟩:=hY
  have e1:w1=u:=by
   have:its.toArray[i]?=some u:=by simpa using hu
   rw [this] at e1; cases e1; rfl
  subst e1
  have hn:H T=none:=I.hok.fresh hT
  have new:ObjOk X.prog X.w (upd H T (.tup [.int (c+(i:Nat)),x])) h' T (.tup [.int (c+(i:Nat)),x]):=
   ⟨by show 2≤sizeLine; decide,[.int (c+(i:Nat)) t,w1],.cons ⟨_,rfl⟩ (.cons ru .nil),hTup⟩
  have I1:Inv X pins σ (upd H T (.tup [.int (c+(i:Nat)),x])) { s with heap:=h',toks:=tk }:=
   I.turnedNew (ch:=[e,it]) (fun c o hb q=>hk c o hb q) hf hT new
  refine ⟨.ref T,_,I1,rfl,⟨T,x,rfl,hn,rfl,fun l hl=>by rw [pD I hl hq]; exact hx⟩,⟨st'.1,st'.2.1⟩,fun b hb=>?_⟩
  have hlt:b < s.heap.objs.size:=by
   obtain ⟨old,he⟩:=hE
   obtain ⟨o1,v1,e1,d1⟩:=hit.get
   have e':b=e∨b=it:=by simpa using hb
   rcases e' with q | q
   ·rw [q]; exact Heap.lt_size he
   ·rw [q]; exact Heap.lt_size e1
  rw [upd_ne (Nat.ne_of_lt (Nat.lt_of_lt_of_le hlt hT))]
  exact (hf b hb).1
 done:=by
  intro X hP hw hK hc i pins s σ H E I hf st hg
  subst hP hw hK
  obtain ⟨hE,hit⟩:=st
  obtain ⟨xs,hq,hi⟩:=hg
  obtain ⟨its,rv,p,_,_⟩:=sqK I hq
  have hh:X.A.in1.handled=none:=I.ok.hd hc
  have G:=GoesN.enumFrom (prog:=X.prog) (w:=X.w) (A:=X.A) (elts:=elts) (x1:=kk) (pos:=tpos) c (iM k hh it a (hit.ne p) its.toArray) e hei (nm2 hei hea) List.mem_cons_self
  have l1:=rv.length
  have e:its.toArray.size=i:=by simp; omega
  rw [e] at G
  exact G.stops s (fun s1=>Inv X pins σ H s1) E ⟨hE,⟨hit,p⟩⟩ fun h' tk hk _=>I.turnedL (ch:=[_,it]) (fun c o hb q=>hk c o hb q) hf
 self:=fun A i s Q E st h=>let ⟨⟨_,he⟩,_⟩:=st; wpAny_pyIter_enum he h
def gc (c:Int) (f:Mem→Option (List D)):Src:=fun k m=>match f m with
 | some xs=>match xs[k]? with
  | some x=>some (some (.tup [.int (c+(k:Nat)),x]))
  | none=>if k=xs.length then some none else none
 | none=>none
def pf (c:Int) (a:EM):IM:=fun η m=>(a η m).bind fun x m1=>match aO x m1 with
 | some xs=>.ok (gc c (aO x),xs.length) m1
 | none=>.stk
theorem xC {K:PySem.W.Frag} {mg:Str→Option Value} {W:Wd} {H:Hp} {x:D} {a:Addr} {c:Int} (r1:Rep K W H x (.ref a)):JOk K mg km W H (ItE K c (d9 x) a) (gc c (aO x)) where
 go:=fun W' H' m k d e s hs=>by
  unfold gc at hs
  split at hs
  ·rename_i xs h1
   obtain ⟨a',vs,e1,q1,q2⟩:=walked r1 e s h1
   cases e1
   split at hs
   ·rename_i x' g1
    cases hs
    obtain ⟨v,k1,k2⟩:=q2.get g1
    refine ⟨⟨vs,v,q1,k1⟩,fun z H2 hy=>?_⟩
    obtain ⟨T,v',rfl,hT,rfl,f1⟩:=hy
    have:=f1 vs q1
    rw [k1] at this
    cases this
    obtain ⟨n1,n2,n3⟩:=tu s hT bw k2
    exact ⟨W',n1,n2,n3⟩
   ·split at hs<;>cases hs
  ·cases hs
 stop:=fun W' H' m k e s hs=>by
  unfold gc at hs
  split at hs
  ·rename_i xs h1
   obtain ⟨a',vs,e1,q1,q2⟩:=walked r1 e s h1
   cases e1
   split at hs
   ·cases hs
   ·split at hs
    ·rename_i hk
     exact ⟨vs,q1,by rw [q2.length]; exact hk.symm⟩
    ·cases hs
  ·cases hs
section
variable {X:Cx} {E:XK} {pos:Pos}
theorem xD {f:Sem Value} {R:It→Hp→Prop} {c:Int} {pins:List (Addr×Obj)} {σ:SL} {elts:List Expr} {kk:Nat} {tpos:Pos} {W:Wd} {H:Hp} {m:Mem} {d:D} {x:V} {u:Value} {s:Shared} (I:Inv X pins σ H s) (rv:RelV x u) (sm:Sim X.K X.mg W H m) (r1:Rep X.K W H d x) (q:Post X.K X.mg E (RlI X.K X.mg km) W H R (match aO d m with
   | some xs=>.ok (gc c (aO d),xs.length) m
   | none=>.stk)) (hcall:∀ a its,u=.ref a→IsSq s.heap (d9 d) a its→∀ {Q:Value→Shared→Prop},(∀ h',IsEnum h' (s.heap.objs.size+1) s.heap.objs.size c .none→h'.get? s.heap.objs.size=some (vi (d9 d) a)→h'.objs.size=s.heap.objs.size+2→
   (∀ b o,s.heap.get? b=some o→h'.get? b=some o)→Q (.ref (s.heap.objs.size+1)) { s with heap:=h' })→wpAny (model X.prog X.w) X.A f Q X.xe s):wpAny (model X.prog X.w) X.A f (fun v s1=>wpAny (model X.prog X.w) X.A (pyIter v) (PIE X pins σ (.Tuple elts kk tpos) R) X.xe s1) X.xe s:=by
 split at q
 ·rename_i xs h1
  obtain ⟨a,vs,e1,k1,k2⟩:=walked r1 (Ext.refl _ _).toZ sm h1
  subst e1
  cases rv
  obtain ⟨its,rv1,p1,l1,_⟩:=sqK I k1
  refine hcall a its.toArray rfl p1 fun h' he g1 hsz hk=>wpAny_pyIter_enum he ?_
  have I2:Inv X pins σ H { s with heap:=h' }:=I.kept (t':=s.toks) hk
  refine ⟨s.heap.objs.size+1,[s.heap.objs.size+1,s.heap.objs.size],_,_,H,rfl,I2,zN (c:=c) (k:=d9 d) a (s.heap.objs.size+1) s.heap.objs.size (Nat.succ_ne_self _) (fun e=>?_),⟨⟨.none,?_⟩,jF g1⟩,fun b hb=>?_,q.now sm (xC r1)⟩
  ·have l1:a < s.heap.objs.size:=l1
   rw [←e] at l1
   exact absurd (Nat.lt_of_succ_lt l1) (Nat.lt_irrefl _)
  ·have:c+((0:Nat):Int)=c:=by omega
   rw [this]
   exact he
  ·have e':b=s.heap.objs.size+1∨b=s.heap.objs.size:=by simpa using hb
   have hle:s.heap.objs.size≤b:=by
    rcases e' with z | z
    ·rw [z]; exact Nat.le_add_right _ _
    ·rw [z]; exact Nat.le_refl _
   exact I.fpOk hle (I.hok.fresh hle)
 ·exact q.elim
theorem pO {e:Expr} {ca:EM} {p tpos:Pos} {elts:List Expr} {kk:Nat} (hm:X.mg "enumerate"=none) (hg:Gl X "enumerate") (ha:MEx X E e ca)
  (hs:starEach [e] X.env=(false,eval e X.env) ::starEach [] X.env:=by rfl) :
  MI X E km (.Tuple elts kk tpos) (.Call (.Name "enumerate" p) [e] [] pos) (pf 0 ca):=by
 refine ⟨fun pins s σ H R I h=>?_⟩
 obtain ⟨W,η,m,sm,n,pp⟩:=h
 have h2:(tCons (rdE X.K X.mg E ca) (rdA X.K X.mg E ag)) σ H (fun vs H1=>∃ x W1 m1 d1,vs=[x]∧Sim X.K X.mg W1 H1 m1∧Rep X.K W1 H1 d1 x∧Post X.K X.mg E (RlI X.K X.mg km) W1 H1 R (match aO d1 m1 with
   | some xs=>.ok (gc 0 (aO d1),xs.length) m1
   | none=>.stk)):=by
  refine ⟨W,η,m,sm,n,(Post.bind (Rl:=Rep X.K) pp).imp fun x H1 ⟨W1,d1,m1,e1,s1,r1,p1⟩=>?_⟩
  exact ⟨W1,η,m1,s1,n.ext e1,fun b W' H' ex s' r'=>by
   rw [Reps.nil' r']
   exact ⟨x,W',m1,d1,rfl,s',r1.ext ex,Post.ext ex p1⟩⟩
 have hA:PA X [e] (tCons (rdE X.K X.mg E ca) (rdA X.K X.mg E ag)):=pa_cons ha af hs
 refine Call_ (ld_blt I hg hm PyProof.Rows.boot_enumerate (PyProof.Rows.callWith_type1 (thn (hA.run pos pins s σ H _ I h2) fun us s1 ⟨vs,H1,I1,rv,q1⟩=>?_) hs rfl))
 obtain ⟨x,W1,m1,d1,rfl,sm1,r1,q⟩:=q1
 cases rv with
 | cons r rr=>
 cases rr
 exact xD I1 r sm1 r1 q fun a its e p1 {Q} h=>by subst e; exact sW (kD (d9 d1) a its) p1 h
end
end Mir
namespace Mir
open PySem PySem.Spec PyProof.Rows L2
def ma (d:D) (ds:List D) (m:Mem):R D:=match d,ds with
 | .ref i,[.int k]=>match bW m[i]? with
  | some zs=>match ixN zs.length k with
   | some j=>match zs[j]? with
    | some y=>.ok y (m.set i (.lst (zs.eraseIdx j)))
    | none=>.stk
   | none=>.stk
  | none=>.stk
 | _,_=>.stk
theorem Reps.eraseIdx {K:PySem.W.Frag} {W:Wd} {H:Hp}:∀ {ds:List D} {vs:List V} (n:Nat),Reps K W H ds vs→Reps K W H (ds.eraseIdx n) (vs.eraseIdx n)
 | [],vs,n,h=>by rw [h.nil']; simpa using bN
 | x ::ds,vs,0,h=>by
  obtain ⟨u,r,rfl,h2,h3⟩:=h.cons'
  exact h3
 | x ::ds,vs,n+1,h=>by
  obtain ⟨u,r,rfl,h2,h3⟩:=h.cons'
  exact bB h2 (Reps.eraseIdx n h3)
section
variable {X:Cx} {E:XK}
theorem wV:MtR X "list.pop" (rMM X.K X.mg E ma):=by
 rintro pins s σ H x xs v us Q I rx rxs ⟨W,m,d,ds,sm,rd,rds,p⟩
 unfold ma at p
 split at p
 ·rename_i i k
  obtain ⟨a,rfl,e2⟩:=rd.ref'
  obtain ⟨w,wr,rfl,r1,r2⟩:=rds.cons'
  rw [r2.nil',r1.int'] at rxs
  split at p
  ·rename_i zs hl
   split at p
   ·rename_i j hj
    split at p
    ·rename_i y hy
     obtain ⟨vs,q1,q2⟩:=sm.cell i a _ e2 (kr hl)
     obtain ⟨w,k1,k2⟩:=q2.get hy
     have ex:Ext W H W (upd H a (.lst (vs.eraseIdx j))):=Ext.mut (List.mem_of_getElem? e2) q1 rfl
     obtain ⟨h1,h2,h3,h4⟩:=ixN_seq hj
     have hz:vs.length≤sizeLine:=by
      obtain ⟨_,_,_,_,z⟩:=I.lst q1
      exact z
     have hln:=line63
     rw [←q2.length] at h1 h3 h4
     exact mt_popAt pins s σ H _ _ v us Q I rx rxs ⟨a,vs,k,j,w,rfl,rfl,q1,by omega,by omega,h1,k1,p w W _ ex (sm.mut e2 ⟨_,upd_same,(Reps.eraseIdx j q2).ext ex⟩) (k2.ext ex)⟩
    ·exact p.elim
   ·exact p.elim
  ·exact p.elim
 ·exact p.elim
def jv (d:D) (ds:List D):Option Nat:=match cn d,aF cn ds with
 | some x,some xs=>xs.findIdx? fun z=>eqV z x
 | _,_=>none
def tN (m:Mem) (d:D) (ds:List D):Option Nat:=match toP m 60 d,aF (toP m 59) ds with
 | some p,some ps=>ps.findIdx? fun z=>PyData.eqv z p
 | _,_=>none
def cB (d:D) (ds:List D) (m:Mem):R D:=match ds with
 | [y]=>match ba m d with
  | some zs=>match jv y zs with
   | some j=>.ok (.int (j:Nat)) m
   | none=>match tN m y zs with
    | some j=>.ok (.int (j:Nat)) m
    | none=>.stk
  | none=>.stk
 | _=>.stk
theorem uf {α:Type} {p:α→Bool}:∀ {l:List α} {j:Nat},l.findIdx? p=some j→∃ z,l[j]?=some z∧p z=true∧∀ m z',m < j→l[m]?=some z'→p z'=false:=by
 intro l j h
 rw [List.findIdx?_eq_some_iff_getElem] at h
 obtain ⟨h1,h2,h3⟩:=h
 refine ⟨l[j],List.getElem?_eq_getElem h1,h2,fun m z' hm hz=>?_⟩
 have:=h3 m hm
 rw [List.getElem?_eq_getElem (by omega)] at hz
 cases hz
 simpa using this
theorem iK (hu:X.A.units+65 < cLine):MtR X "list.index" (rMM X.K X.mg E cB):=by
 rintro pins s σ H x xs v us Q I rx rxs ⟨W,m,d,ds,sm,rd,rds,p⟩
 unfold cB at p
 split at p
 ·rename_i y
  obtain ⟨w,wr,rfl,r1,r2⟩:=rds.cons'
  rw [r2.nil'] at rxs
  split at p
  ·rename_i zs hl
   obtain ⟨a,vs,rfl,q1,q2⟩:=sm.lst rd hl
   split at p
   ·rename_i j hj
    unfold jv at hj
    split at hj
    ·rename_i x' xs' h1 h2
     obtain ⟨e1,e2⟩:=jD r1 h1
     obtain ⟨e3,e4⟩:=mF q2 h2
     subst e1 e3
     obtain ⟨z,k1,k2,k3⟩:=uf hj
     exact mt_index pins s σ H _ _ v us Q I rx rxs ⟨a,_,_,j,z,rfl,rfl,q1,e2,e4,k1,k2,k3,p.now sm bw⟩
    ·cases hj
   ·split at p
    ·rename_i j hj
     unfold tN at hj
     split at hj
     ·rename_i pd ps h1 h2
      obtain ⟨o1,o2,o3⟩:=jN sm 60 _ _ _ r1 h1
      obtain ⟨b1,b2,b3⟩:=kq (fun d v p=>jN sm 59 d v p) zs vs ps q2 h2
      have s1:SeqAt.shaped pd=true:=by
       unfold SeqAt.shaped
       rw [o2,decide_eq_true (Nat.le_trans o3 (by decide))]
       rfl
      have s2:SeqAt.shaped (.list ps)=true:=by
       unfold SeqAt.shaped
       have e1:(PyData.list ps).canLay0=true:=b2
       have e2:(PyData.list ps).depth≤64:=by
        show PyData.depthAll ps+1≤64
        omega
       rw [e1,decide_eq_true e2]
       rfl
      obtain ⟨z,k1,k2,k3⟩:=uf hj
      exact mt_indexD hu pins s σ H _ _ v us Q I rx rxs ⟨a,_,pd,ps,j,z,rfl,rfl,.lst q1 b1,o1,s2,s1,k1,k2,k3,p.now sm bw⟩
     ·cases hj
    ·exact p.elim
  ·exact p.elim
 ·exact p.elim
end
def n6 (x:Str):List Str→List Str
 | []=>[x]
 | y ::r=>if y.cps.toList < x.cps.toList then y ::n6 x r else x ::y ::r
def fR:List Str→List Str
 | []=>[]
 | x ::r=>n6 x (fR r)
def leS (a b:Str):Prop:=¬ b.cps.toList < a.cps.toList
theorem mA {a b:Str} (h1:leS a b) (h2:leS b a):a=b:=by
 have h:a.cps.toList=b.cps.toList:=List.le_antisymm h1 h2
 cases a with
 | mk a=>cases b with
  | mk b=>congr; exact Array.toList_inj.mp h
theorem lZ (x:Str):∀ l:List Str,(n6 x l).Perm (x ::l)
 | []=>.refl _
 | y ::r=>by
  unfold n6
  split
  ·exact ((lZ x r).cons y).trans (.swap x y r)
  ·exact .refl _
theorem jb:∀ l:List Str,(fR l).Perm l
 | []=>.refl _
 | x ::r=>(lZ x _).trans ((jb r).cons x)
theorem nA (x:Str):∀ l:List Str,l.Pairwise leS→(n6 x l).Pairwise leS
 | [],_=>by unfold n6; exact List.pairwise_singleton _ _
 | y ::r,h=>by
  unfold n6
  have h1:=List.pairwise_cons.mp h
  split
  ·rename_i hlt
   refine List.pairwise_cons.mpr ⟨fun z hz=>?_,nA x r h1.2⟩
   rcases List.mem_cons.mp ((lZ x r).mem_iff.mp hz) with rfl | hz
   ·exact fun q=>List.lt_irrefl _ (List.lt_trans q hlt)
   ·exact h1.1 z hz
  ·rename_i hlt
   refine List.pairwise_cons.mpr ⟨fun z hz=>?_,h⟩
   rcases List.mem_cons.mp hz with rfl | hz
   ·exact hlt
   ·exact List.le_trans (show x.cps.toList≤y.cps.toList from hlt) (h1.1 z hz)
theorem jL:∀ l:List Str,(fR l).Pairwise leS
 | []=>.nil
 | x ::r=>nA x _ (jL r)
theorem qO:∀ (p:Str) (l:List Str),risingS p l=true→(p ::l).Pairwise leS
 | p,[],_=>List.pairwise_singleton _ _
 | p,x ::r,h=>by
  unfold risingS at h
  rw [Bool.and_eq_true] at h
  have ih:=qO x r h.2
  have hx:leS p x:=by
   have:=h.1
   rw [ltCps_eq] at this
   simpa [leS] using this
  refine List.pairwise_cons.mpr ⟨fun z hz=>?_,ih⟩
  rcases List.mem_cons.mp hz with rfl | hz
  ·exact hx
  ·exact List.le_trans (show p.cps.toList≤x.cps.toList from hx) ((List.pairwise_cons.mp ih).1 z hz)
theorem t7 {ys xs:List Str} (hp:ys.Perm xs) (hs:sortedS ys=true):ys=fR xs:=by
 refine List.Perm.eq_of_pairwise (le:=leS) (fun a b _ _ h1 h2=>mA h1 h2) ?_ (jL xs) (hp.trans (jb xs).symm)
 cases ys with
 | nil=>exact .nil
 | cons y r=>exact qO y r hs
def jB (al:Bool) (ds:List D) (m:Mem):R D:=match ds with
 | [d]=>match (ba m d).bind (aF strOf) with
  | some xs=>if xs.length < 64 then mkL al ((fR xs).map .str) m else .stk
  | none=>.stk
 | _=>.stk
section
variable {X:Cx} {E:XK}
theorem uW (al:Bool):CallR X (.builtin "sorted") (rCM X.K X.mg E (jB al)):=by
 rintro pins s σ H xs us Q I r ⟨W,m,ds,sm,rs,p⟩
 unfold jB at p
 split at p
 ·rename_i d
  obtain ⟨w,wr,rfl,r1,r2⟩:=rs.cons'
  have e:=r2.nil'
  subst e
  split at p
  ·rename_i ys hy
   cases hl:ba m d with
   | none=>rw [hl] at hy; cases hy
   | some zs=>
    rw [hl] at hy
    obtain ⟨a,vs,rfl,q1,q2⟩:=sm.lst r1 hl
    have ev:=lj q2 hy
    subst ev
    split at p
    ·rename_i h64
     refine cr_sortedS pins s σ H _ us Q I r ⟨a,ys,rfl,q1,h64,fun zs pp hp hs hn=>?_⟩
     rw [t7 hp hs]
     exact sm.newL hn (qS _) p
    ·exact p.elim
  ·exact p.elim
 ·exact p.elim
def fT (t:String):List String→Option Bool
 | []=>some false
 | T ::r=>match kitB t T with
  | some true=>some true
  | some false=>fT t r
  | none=>none
theorem sI {K:PySem.W.Frag} {t:String}:∀ {Ts:List String} {b:Bool},fT t Ts=some b→PySem.W.kitAny K (.type t) (Ts.map Value.type)=some b
 | [],b,h=>by cases h; exact kitAny_nil
 | T ::r,b,h=>by
  unfold fT at h
  cases hk:kitB t T with
  | none=>rw [hk] at h; cases h
  | some k=>
   rw [hk] at h
   cases k with
   | true=>cases h; exact kitAny_cons (kit_ty hk) (fun q=>by cases q) (fun _=>rfl)
   | false=>exact kitAny_cons (kit_ty hk) (fun _=>sI h) (fun q=>by cases q)
def uQ (Ts:List String) (c:EM):EM:=fun η m=>(c η m).bind fun d m1=>match (ej m1 d).bind fun t=>fT t Ts with
 | some b=>.ok (.bl b) m1
 | none=>.stk
theorem wX (T1 T2:String) {e:Expr} {c:EM} {p p2 p3 pt pos:Pos} {kt:Nat} {t1 t2:Str} (hm:X.mg "isinstance"=none) (hm1:X.mg t1=none) (hm2:X.mg t2=none) (hg:Gl X "isinstance") (hg1:Gl X t1) (hg2:Gl X t2) (hv1:bootBuiltins t1=some (.type T1)) (hv2:bootBuiltins t2=some (.type T2)) (he:MEx X E e c)
  (hn1:t1≠"__name__":=by decide) (hd1:(t1 ==("__debug__":Str))=false:=by decide) (hn2:t2≠"__name__":=by decide) (hd2:(t2 ==("__debug__":Str))=false:=by decide)
  (ht1:starEach [.Name t1 p2,.Name t2 p3] X.env=(false,eval (.Name t1 p2) X.env) ::starEach [.Name t2 p3] X.env:=by rfl) (ht2:starEach [.Name t2 p3] X.env=(false,eval (.Name t2 p3) X.env) ::starEach [] X.env:=by rfl)
  (hs1:starEach [e,.Tuple [.Name t1 p2,.Name t2 p3] kt pt] X.env=(false,eval e X.env) ::starEach [.Tuple [.Name t1 p2,.Name t2 p3] kt pt] X.env:=by rfl) (hs2:starEach [.Tuple [.Name t1 p2,.Name t2 p3] kt pt] X.env=(false,eval (.Tuple [.Name t1 p2,.Name t2 p3] kt pt) X.env) ::starEach [] X.env:=by rfl)
  (hpl:(backTo pos (starEach [.Tuple [.Name t1 p2,.Name t2 p3] kt pt] X.env)).any (·.1)=false:=by rfl):MEx X E (.Call (.Name "isinstance" p) [e,.Tuple [.Name t1 p2,.Name t2 p3] kt pt] [] pos) (uQ [T1,T2] c):=by
 refine (pe_callB call_isiT hg hm boot_isinstance (pa_cons he (pa_cons (pe_tup (pa_cons (pe_bltn (v:=.ty T1) hg1 hm1 hv1 rfl hn1 hd1) (pa_cons (pe_bltn (v:=.ty T2) hg2 hm2 hv2 rfl hn2 hd2) pa_nil ht2) ht1)) pa_nil hs2) hs1) (by decide) (by decide) hs1 hpl).imp fun σ H Q ⟨W,η,m,s,n,p⟩=>?_
 refine ⟨W,η,m,s,n,(Post.bind (Rl:=Rep X.K) p).imp fun x H1 ⟨W1,d,m1,e1,s1,r1,p1⟩=>?_⟩
 refine ⟨show 2≤sizeLine by decide,fun tp hp=>?_⟩
 have ex:Ext W1 H1 W1 (upd H1 tp (.tup [.ty T1,.ty T2])):=Ext.fresh hp
 have sx:=s1.fresh (o:=.tup [.ty T1,.ty T2]) hp
 cases h:ej m1 d with
 | none=>rw [h] at p1; exact p1.elim
 | some t=>
  rw [h] at p1
  cases hk:fT t [T1,T2] with
  | none=>simp only [Option.bind_some,hk] at p1; exact p1.elim
  | some b=>
   simp only [Option.bind_some,hk] at p1
   exact ⟨x,tp,[.ty T1,.ty T2],.type t,[.type T1,.type T2],b,rfl,upd_same,.cons (.ty T1) (.cons (.ty T2) .nil),um sx (r1.ext ex) h,sI hk,(Post.ext ex p1).now sx bf⟩
end
def rO (al:Bool) (d e:D) (m:Mem):R D:=match dD m d,e with
 | some ds,.int k=>if md k=true∧ds.length*k.toNat≤sizeLine then mkL al (List.replicate k.toNat ds).flatten m else .stk
 | _,_=>.stk
theorem Reps.rep {K:PySem.W.Frag} {W:Wd} {H:Hp} {ds:List D} {vs:List V} (h:Reps K W H ds vs):∀ n:Nat,Reps K W H (List.replicate n ds).flatten (List.replicate n vs).flatten
 | 0=>bN
 | n+1=>by
  rw [List.replicate_succ,List.replicate_succ,List.flatten_cons,List.flatten_cons]
  exact h.append (Reps.rep h n)
section
variable {X:Cx} {E:XK} {pos:Pos}
theorem yP (al:Bool):OpM X E (binaryOp .Mult) (rO al):=by
 rintro pins s σ H x y v u Q I rx ry ⟨W,m,d,e,sm,rd,re,p⟩
 unfold rO at p
 split at p
 ·rename_i ds k hl
  obtain ⟨a,vs,rfl,q1,q2⟩:=sm.own rd hl
  rw [re.int'] at ry
  split at p
  ·rename_i hk
   have hr:=(kJ k).mp hk.1
   exact op_rep pins s σ H _ _ v u Q I rx ry ⟨a,k,vs,rfl,rfl,q1,by omega,by omega,by rw [q2.length]; exact hk.2,fun pp hp=>sm.newL hp (q2.rep _) p⟩
  ·exact p.elim
 ·exact p.elim
end
end Mir
namespace Mir
open PySem PySem.Spec PyProof.Rows L2
theorem o8 (l:Addr) (items:Array Value) (n:Nat) (dd:Option Addr) (sl:Array (Option Value)) (x:Int) (u:Tok) (c0:(decide (x < -(2^63)) || decide (x≥2^63))=false) (c1:(items.isEmpty || x ==1)=true) :
  Meets (Builtin.«tuple.__mul__» ⟨[.ref l,.int x u],[]⟩) (fun _ R s=>s.heap.get? l=some { cls:=.type "tuple",dict:=dd,data:=.seq items n,slots:=sl }∧
   R (.ok (.ret (Value.ref l))) s):=
 .of_wp fun prog w A R s h=>by
  obtain ⟨hp,g,d,tk,os⟩:=s
  obtain ⟨hl,h⟩:=h
  have f1:=AutoSeq1.idx_int
  wp_walk using wpAny_loadPart' hl
  repeat (first
   | (refine wpAny_ite_false (decide_eq_false (by rw [c0]; exact Bool.false_ne_true)) ?_; wp_walk using wpAny_loadPart' hl)
   | (refine wpAny_ite_true (decide_eq_true (by rw [c1])) ?_; wp_walk using wpAny_loadPart' hl))
  exact ⟨_,rfl,h⟩
theorem u5 (l:Addr) (items:Array Value) (n:Nat) (dd:Option Addr) (sl:Array (Option Value)) (x:Int) (u:Tok) (c0:(decide (x < -(2^63)) || decide (x≥2^63))=false) (c1:(items.isEmpty || x ==1)=false) (c2:(decide (x≤0) || items.isEmpty)=true) :
  Meets (Builtin.«tuple.__mul__» ⟨[.ref l,.int x u],[]⟩) (fun _ R s=>s.heap.get? l=some { cls:=.type "tuple",dict:=dd,data:=.seq items n,slots:=sl }∧
   R (.ok (.ret (Value.ref s.heap.objs.size))) { s with heap:=s.heap.push { cls:=Value.type "tuple",data:=Data.seq #[] },toks:=s.toks }):=
 .of_wp fun prog w A R s h=>by
  obtain ⟨hp,g,d,tk,os⟩:=s
  obtain ⟨hl,h⟩:=h
  have f1:=AutoSeq1.idx_int
  wp_walk using wpAny_loadPart' hl
  repeat (first
   | (refine wpAny_ite_false (decide_eq_false (by rw [c0]; exact Bool.false_ne_true)) ?_; wp_walk using wpAny_loadPart' hl)
   | (refine wpAny_ite_false (decide_eq_false (by rw [c1]; exact Bool.false_ne_true)) ?_; wp_walk using wpAny_loadPart' hl)
   | (refine wpAny_ite_true (decide_eq_true (by rw [c2])) ?_; wp_walk using wpAny_loadPart' hl))
  exact ⟨_,rfl,h⟩
section
variable {X:Cx} {E:XK}
theorem yf:OpR X (binaryOp .Mult) (fun x y H Q=>∃ l k xs,x=.ref l∧y=.int k∧SqT X.K H l xs∧-1000≤k∧k≤1000∧xs.length≤1000∧((xs=[]∨k=1)→Q (.ref l) H)∧(xs≠[]→k≤0→pK [] H Q)∧(xs≠[]→2≤k→pK (List.replicate k.toNat xs).flatten H Q)):=by
 intro pins s σ H x y v u Q I rx ry h
 obtain ⟨l,k,xs,rfl,rfl,hT,h0,h2,hz,q1,q0,q⟩:=h
 cases rx
 obtain ⟨t,rfl⟩:=ry
 obtain ⟨its,r,⟨⟨cls,dd,data,sl⟩,ho,hc,n,hd⟩,hs⟩:=I.tuple hT
 simp only at hc hd
 subst hc hd
 have hle:its.length=xs.length:=r.length.symm
 have hsz0:its.toArray.size=xs.length:=by rw [List.size_toArray,hle]
 have c0:(decide (k < -(2^63)) || decide (k≥2^63))=false:=by
  rw [decide_eq_false (by omega),decide_eq_false (by omega)]<;>rfl
 by_cases hn:xs=[]
 ·have hi:its.toArray.isEmpty=true:=by
   subst hn
   cases its with
   | nil=>rfl
   | cons a b=>simp at hle
  refine wpAny_binaryOp_repeat_ref (T:="tuple") (U:="int") (by decide) ⟨_,ho,rfl⟩ (fun s'=>typeIs_int s' k t) noFill_tuple_mul F.fills_int_mul F.slot_int_rmul repeat_tuple F.slot_int_index.lookup
   (call_meets F.slot_int_rmul (typeIs_int s k t) F.entry_int_rmul (F.args_int_rmul_2 _ _) (int_rmul_tuple k t l its.toArray n dd sl)
    ⟨ho,rfl,⟨_,ho,rfl⟩,call_meets F.slot_tuple_mul ⟨_,ho,rfl⟩ F.entry_tuple_mul (F.args_tuple_mul_2 _ _) (o8 l its.toArray n dd sl k t c0 (by rw [hi]; rfl)) ⟨ho,?_⟩⟩)
  exact ⟨.ref l,H,I,rfl,q1 (.inl hn)⟩
 ·have hn':its≠[]:=fun e=>hn (by
   rw [e] at hle
   exact List.eq_nil_of_length_eq_zero hle.symm)
  have hi:its.toArray.isEmpty=false:=by
   cases its with
   | nil=>exact absurd rfl hn'
   | cons a b=>rfl
  by_cases hk1:k=1
  ·refine wpAny_binaryOp_repeat_ref (T:="tuple") (U:="int") (by decide) ⟨_,ho,rfl⟩ (fun s'=>typeIs_int s' k t) noFill_tuple_mul F.fills_int_mul F.slot_int_rmul repeat_tuple F.slot_int_index.lookup
    (call_meets F.slot_int_rmul (typeIs_int s k t) F.entry_int_rmul (F.args_int_rmul_2 _ _) (int_rmul_tuple k t l its.toArray n dd sl)
     ⟨ho,rfl,⟨_,ho,rfl⟩,call_meets F.slot_tuple_mul ⟨_,ho,rfl⟩ F.entry_tuple_mul (F.args_tuple_mul_2 _ _) (o8 l its.toArray n dd sl k t c0 (by rw [hk1]; simp)) ⟨ho,?_⟩⟩)
   exact ⟨.ref l,H,I,rfl,q1 (.inr hk1)⟩
  ·have c1:(its.toArray.isEmpty || k ==1)=false:=by
    rw [hi,Bool.false_or]
    exact beq_eq_false_iff_ne.mpr hk1
   by_cases hk0:k≤0
   ·have c2:(decide (k≤0) || its.toArray.isEmpty)=true:=by rw [decide_eq_true hk0]; rfl
    refine wpAny_binaryOp_repeat_ref (T:="tuple") (U:="int") (by decide) ⟨_,ho,rfl⟩ (fun s'=>typeIs_int s' k t) noFill_tuple_mul F.fills_int_mul F.slot_int_rmul repeat_tuple F.slot_int_index.lookup
     (call_meets F.slot_int_rmul (typeIs_int s k t) F.entry_int_rmul (F.args_int_rmul_2 _ _) (int_rmul_tuple k t l its.toArray n dd sl)
      ⟨ho,rfl,⟨_,ho,rfl⟩,call_meets F.slot_tuple_mul ⟨_,ho,rfl⟩ F.entry_tuple_mul (F.args_tuple_mul_2 _ _) (u5 l its.toArray n dd sl k t c0 c1 c2) ⟨ho,?_⟩⟩)
    refine ⟨.ref s.heap.objs.size,_,I.laid (t':=s.toks) (o:=.frz { cls:=.type "tuple",data:=.seq #[] } (.tup [])) (fun b ob q=>Heap.get?_push_of_some _ q) (Nat.le_refl _) ?_,rfl,q0 hn hk0 _ _ (I.hok.fresh (Nat.le_refl _)) ⟨rfl,rfl⟩⟩
    exact ⟨Heap.get?_push_size _ rfl,Nat.zero_le _,[],.nil,IsTup.new _ _⟩
   ·have hm:((its.toArray.size:Nat):Int)*k≤1000000:=by
     rw [hsz0]
     have a1:((xs.length:Nat):Int)*k≤1000*k:=Int.mul_le_mul_of_nonneg_right (by omega) (by omega)
     omega
    have flen:(List.replicate k.toNat its).flatten.length≤sizeLine:=by
     rw [PyProof.Rows.lm_len_rep_flat,hle,sizeLine_eq]
     have a1:k.toNat*xs.length≤1000*1000:=Nat.mul_le_mul (by omega) hz
     omega
    have c2:(decide (k≤0) || its.toArray.isEmpty)=false:=by
     rw [hi,Bool.or_false]
     exact decide_eq_false (by omega)
    have c4:Builtin.Tuple.tupleTooMany (((its.toArray.size:Nat):Int)*k)=false:=by
     unfold Builtin.Tuple.tupleTooMany
     rw [sizeLine_eq]
     exact decide_eq_false (by omega)
    refine wpAny_binaryOp_repeat_ref (T:="tuple") (U:="int") (by decide) ⟨_,ho,rfl⟩ (fun s'=>typeIs_int s' k t) noFill_tuple_mul F.fills_int_mul F.slot_int_rmul repeat_tuple F.slot_int_index.lookup
     (call_meets F.slot_int_rmul (typeIs_int s k t) F.entry_int_rmul (F.args_int_rmul_2 _ _) (int_rmul_tuple k t l its.toArray n dd sl)
      ⟨ho,rfl,⟨_,ho,rfl⟩,call_meets F.slot_tuple_mul ⟨_,ho,rfl⟩ F.entry_tuple_mul (F.args_tuple_mul_2 _ _) (tuple_mulW l its.toArray n dd sl k t c0 c1 c2 (by omega) c4 (by rw [size_rep,List.size_toArray]; exact flen)) ⟨ho,?_⟩⟩)
    rw [size_rep]
    refine ⟨.ref s.heap.objs.size,_,I.laid (t':=s.toks) (o:=.frz { cls:=.type "tuple",data:=.seq (List.replicate k.toNat its).flatten.toArray } (.tup (List.replicate k.toNat xs).flatten)) (fun b ob q=>Heap.get?_push_of_some _ q) (Nat.le_refl _) ?_,rfl,q hn (by omega) _ _ (I.hok.fresh (Nat.le_refl _)) ⟨rfl,rfl⟩⟩
    exact ⟨Heap.get?_push_size _ rfl,by rw [PyProof.Rows.lm_len_rep_flat,sizeLine_eq]; have a1:k.toNat*xs.length≤1000*1000:=Nat.mul_le_mul (by omega) hz; omega,_,r.rep k.toNat,IsTup.new _ _⟩
@[irreducible] def sf (k:Int):Bool:=decide (-1000≤k∧k≤1000)
theorem nV (k:Int):sf k=true↔(-1000≤k∧k≤1000):=by unfold sf; exact decide_eq_true_iff
def kW (d e:D) (m:Mem):R D:=match d,e with
 | .tup ds,.int k=>if sf k=true∧ds.length≤1000 then .ok (.tup (List.replicate k.toNat ds).flatten) m else .stk
 | _,_=>.stk
theorem qa:OpM X E (binaryOp .Mult) kW:=by
 rintro pins s σ H x y v u Q I rx ry ⟨W,m,d,e,sm,rd,re,p⟩
 unfold kW at p
 split at p
 ·rename_i ds k
  obtain ⟨a,vs,rfl,q1,q2⟩:=rd.tup'
  have rd0:=rd
  rw [re.int'] at ry
  split at p
  ·rename_i hk
   have hr:=(nV k).mp hk.1
   have hl:=q2.length
   refine yf pins s σ H _ _ v u Q I rx ry ⟨a,k,vs,rfl,rfl,q1,hr.1,hr.2,by rw [hl]; exact hk.2,fun h=>?_,fun h1 h2 pp oo hp ho=>?_,fun h1 h2 pp oo hp ho=>sm.newT hp ho (q2.rep _) p⟩
   ·have e:(List.replicate k.toNat ds).flatten=ds:=by
     rcases h with h | h
     ·subst h
      have:ds=[]:=List.eq_nil_of_length_eq_zero (by simpa using hl.symm)
      subst this
      simp
     ·subst h; simp
    rw [e] at p
    exact p.now sm rd
   ·have e:k.toNat=0:=by omega
    rw [e] at p
    exact sm.newT hp ho bN p
  ·exact p.elim
 ·exact p.elim
end
def mK:SM:=fun _ _=>.stk
theorem ij {X:Cx} {E:XK} {b:List Stmt}:MSs X E b mK:=⟨fun pins s σ H Dn I ⟨W,η,m,_,_,h⟩=>h.elim⟩
end Mir
namespace Mir
open PySem PySem.Spec PyProof.Rows L2
abbrev kl (h:Heap) (z TI TO T:Addr) (b:Bool):Prop:=
 h.get? z=some { cls:=.type "zip",dict:=none,data:=.fields #[rawInt T,.bool b,.bool false,.ref TI,.ref TO],slots:=#[] }
section
variable {prog:Program} {w:World} {A:Around} {E:Value→Shared→Prop} {s:Shared} {z TI TO T i1 i2:Addr} {fp1 fp2:List Addr} {n1 n2 i:Nat} {P1 P2:Nat→Value→Prop} {St1 St2:Nat→Heap→Prop} {a1 a2:Value} {b:Bool}
theorem t5 {M:Model} {a:Addr} {Q:Option Obj→Shared→Prop} (h:Q (s.heap.get? a) s):wpAny M A (loadIfAlive a) Q E s:=by
 intro Γ p hΓ
 show Sem.wp M Γ (.loadIfAlive a .pure) _ _ p s
 rw [Sem.wp_loadIfAlive]
 exact h
theorem uj {Q:Bool→Shared→Prop} (hz:kl s.heap z TI TO T b) (hT:∃ o,s.heap.get? T=some o)
  (hQ:∀ h',kl h' z TI TO T true→Heap.SameBut z s.heap h'→Q false { s with heap:=h' }):wpAny (model prog w) A (Builtin.SmallTypes.ownedTupleIsFree (.ref z)) Q E s:=by
 unfold Builtin.SmallTypes.ownedTupleIsFree
 refine wpAny_bind (wpAny_field hz rfl (x:=rawInt T) rfl ?_)
 show wpAny _ _ (loadIfAlive ((T:Int).toNat) >>=_) _ _ _
 refine wpAny_bind (t5 ?_)
 obtain ⟨o,ho⟩:=hT
 rw [Int.toNat_natCast,ho]
 simp only [Option.isNone_some,Bool.false_eq_true,if_false]
 refine wpAny_bind (wpAny_field hz rfl (x:=.bool b) rfl ?_)
 cases b with
 | true=>
  show wpAny _ _ (if (Value.bool true !=Value.bool true)=true then _ else _) _ _ _
  rw [if_neg (by decide)]
  refine wpAny_pure ?_
  exact hQ s.heap hz ⟨rfl,fun _ _=>rfl⟩
 | false=>
  show wpAny _ _ (if (Value.bool false !=Value.bool true)=true then _ else _) _ _ _
  rw [if_pos (by decide)]
  refine wpAny_bind (wpAny_setField_rec hz (by simp) fun g0 hz0 hs0=>?_)
  exact wpAny_pure (hQ g0 hz0 hs0)
theorem pQ {Q:Value→Shared→Prop} (S:ZipSep2 z TI TO i1 i2 fp1 fp2) (D1:Draws prog w A i1 fp1 n1 P1 St1) (D2:Draws prog w A i2 fp2 n2 P2 St2)
  (hz:kl s.heap z TI TO T b) (hT:∃ o,s.heap.get? T=some o) (hTI:IsTupOf2 s.heap TI (.ref i1) (.ref i2)) (st1:St1 i s.heap) (st2:St2 i s.heap) (hlt1:i < n1) (hlt2:i < n2)
  (hQ:∀ x1 x2 h' tk,P1 i x1→P2 i x2→kl h' z TI TO T true→St1 (i+1) h'→St2 (i+1) h'→IsTupOf2 h' s.heap.objs.size x1 x2→h'.objs.size=s.heap.objs.size+1→
   (∀ c o,c≠z→c≠i1→c≠i2→s.heap.get? c=some o→h'.get? c=some o)→Q (.ref s.heap.objs.size) { s with heap:=h',toks:=tk }) :
  wpAny (model prog w) A (Builtin.«zip.__next__» ⟨[.ref z],[]⟩) (fun fin s'=>∃ v,fin=.done (.ret v)∧Q v s') E s:=by
 obtain ⟨hp,g,d,tk0,os⟩:=s
 show wpAny _ _ (field (.ref z) 2 >>=_) _ _ _
 refine wpAny_bind (wpAny_field hz rfl (x:=.bool false) rfl ?_)
 show wpAny _ _ (field (.ref z) 3 >>=_) _ _ _
 refine wpAny_bind (wpAny_field hz rfl (x:=.ref TI) rfl ?_)
 refine wpAny_bind (wpAny_seqItems hTI rfl ?_)
 show wpAny _ _ (Builtin.SmallTypes.ownedTupleIsFree (.ref z) >>=_) _ _ _
 refine wpAny_bind (uj hz hT fun g0 hz0 hs0=>?_)
 simp only [Bool.false_eq_true,if_false]
 replace hs0:Heap.SameBut z hp g0:=hs0
 refine wpAny_bind ?_
 rw [←Array.forIn_toList]
 simp only [List.forIn_cons,List.forIn_nil]
 refine wpAny_bind (wpAny_bind (wpAny_holding ?_))
 show wpAny _ _ (Builtin.SmallTypes.nextOf (.ref i1) >>=_) _ _ ⟨g0,g,d,tk0,os⟩
 refine wpAny_bind (D1.item i _ _ _ hlt1 (D1.over st1 hs0 S.zf1) fun x1 p1 tk1 hx1 sn1 hp1=>wpAny_pure ?_)
 replace hp1:Heap.SameBut i1 g0 p1:=hp1
 refine wpAny_pure ?_
 refine wpAny_bind (wpAny_bind (wpAny_holding ?_))
 show wpAny _ _ (Builtin.SmallTypes.nextOf (.ref i2) >>=_) _ _ ⟨p1,g,d,tk1,os⟩
 refine wpAny_bind (D2.item i _ _ _ hlt2 (D2.over (D2.over st2 hs0 S.zf2) hp1 S.sep1_2) fun x2 p2 tk2 hx2 sn2 hp2=>wpAny_pure ?_)
 replace hp2:Heap.SameBut i2 p1 p2:=hp2
 refine wpAny_pure ?_
 refine wpAny_pure ?_
 have hsz:p2.objs.size=hp.objs.size:=by rw [hp2.1,hp1.1,hs0.1]
 show wpAny _ _ (newTuple [x1,x2] >>=_) _ _ ⟨p2,g,d,tk2,os⟩
 refine wpAny_bind (wpAny_newTuple ?_)
 refine wpAny_pure ⟨_,rfl,?_⟩
 show Q (.ref p2.objs.size) ⟨p2.push { cls:=.type "tuple",data:=.seq #[x1,x2] },g,d,tk2,os⟩
 have hzz:kl p2 z TI TO T true:=hp2.extBut _ _ S.zi2 (hp1.extBut _ _ S.zi1 hz0)
 have up:∀ c o,p2.get? c=some o→(p2.push { cls:=.type "tuple",data:=.seq #[x1,x2] }).get? c=some o:=fun c o e=>Heap.get?_push_of_some _ e
 have hT2:IsTupOf2 (p2.push { cls:=.type "tuple",data:=.seq #[x1,x2] }) p2.objs.size x1 x2:=Heap.get?_push_size _ rfl
 rw [hsz] at hT2 ⊢
 refine hQ x1 x2 _ tk2 hx1 hx2 (up _ _ hzz) (D1.frame _ _ _ (D1.over sn1 hp2 S.sep2_1) fun b hb o e=>up b o e) (D2.frame _ _ _ sn2 fun b hb o e=>up b o e) hT2 (by rw [Heap.size_push,hsz]) fun c o cz c1 c2 e=>?_
 exact up _ _ (hp2.extBut _ _ c2 (hp1.extBut _ _ c1 (hs0.extBut _ _ cz e)))
theorem rg {Q:Fin→Shared→Prop} (S:ZipSep2 z TI TO i1 i2 fp1 fp2) (D1:Draws prog w A i1 fp1 n1 P1 St1) (D2:Draws prog w A i2 fp2 n2 P2 St2)
  (hz:kl s.heap z TI TO T b) (hT:∃ o,s.heap.get? T=some o) (hTI:IsTupOf2 s.heap TI (.ref i1) (.ref i2)) (st1:St1 i s.heap) (st2:St2 i s.heap) (hle1:i≤n1) (hle2:i≤n2) (hend:i=n1∨i=n2)
  (hE:∀ h' tk e,(∀ c o,c≠z→c≠i1→c≠i2→s.heap.get? c=some o→h'.get? c=some o)→(∃ o,h'.get? e=some o∧o.cls=.type "StopIteration")→E (.ref e) { s with heap:=h',toks:=tk }) :
  wpAny (model prog w) A (Builtin.«zip.__next__» ⟨[.ref z],[]⟩) Q E s:=by
 obtain ⟨hp,g,d,tk0,os⟩:=s
 show wpAny _ _ (field (.ref z) 2 >>=_) _ _ _
 refine wpAny_bind (wpAny_field hz rfl (x:=.bool false) rfl ?_)
 show wpAny _ _ (field (.ref z) 3 >>=_) _ _ _
 refine wpAny_bind (wpAny_field hz rfl (x:=.ref TI) rfl ?_)
 refine wpAny_bind (wpAny_seqItems hTI rfl ?_)
 show wpAny _ _ (Builtin.SmallTypes.ownedTupleIsFree (.ref z) >>=_) _ _ _
 refine wpAny_bind (uj hz hT fun g0 hz0 hs0=>?_)
 simp only [Bool.false_eq_true,if_false]
 replace hs0:Heap.SameBut z hp g0:=hs0
 refine wpAny_bind ?_
 rw [←Array.forIn_toList]
 simp only [List.forIn_cons,List.forIn_nil]
 refine wpAny_bind (wpAny_bind (wpAny_holding ?_))
 show wpAny _ _ (Builtin.SmallTypes.nextOf (.ref i1) >>=_) _ _ ⟨g0,g,d,tk0,os⟩
 by_cases hlt1:i < n1
 ·refine wpAny_bind (D1.item i _ _ _ hlt1 (D1.over st1 hs0 S.zf1) fun x1 p1 tk1 hx1 sn1 hp1=>wpAny_pure ?_)
  replace hp1:Heap.SameBut i1 g0 p1:=hp1
  refine wpAny_pure ?_
  have hi2:i=n2:=by omega
  refine wpAny_bind (wpAny_bind (wpAny_holding ?_))
  show wpAny _ _ (Builtin.SmallTypes.nextOf (.ref i2) >>=_) _ _ ⟨p1,g,d,tk1,os⟩
  refine wpAny_bind (D2.done ⟨p1,g,d,tk1,os⟩ _ _ (by rw [←hi2]; exact (D2.over (D2.over st2 hs0 S.zf2) hp1 S.sep1_2)) fun q e hq he=>?_)
  replace hq:Heap.ExtBut i2 p1 q:=hq
  exact hE q tk1 e (fun c o cz c1 c2 x=>hq _ _ c2 (hp1.extBut _ _ c1 (hs0.extBut _ _ cz x))) he
 ·have hi1:i=n1:=by omega
  refine wpAny_bind (D1.done ⟨g0,g,d,tk0,os⟩ _ _ (by rw [←hi1]; exact (D1.over st1 hs0 S.zf1)) fun q e hq he=>?_)
  replace hq:Heap.ExtBut i1 g0 q:=hq
  exact hE q tk0 e (fun c o cz c1 c2 x=>hq _ _ c1 (hs0.extBut _ _ cz x)) he
theorem nX {Q:Option Value→Shared→Prop} (S:ZipSep2 z TI TO i1 i2 fp1 fp2) (D1:Draws prog w A.in1 i1 fp1 n1 P1 St1) (D2:Draws prog w A.in1 i2 fp2 n2 P2 St2)
  (hz:kl s.heap z TI TO T b) (hT:∃ o,s.heap.get? T=some o) (hTI:IsTupOf2 s.heap TI (.ref i1) (.ref i2)) (st1:St1 i s.heap) (st2:St2 i s.heap) (hlt1:i < n1) (hlt2:i < n2)
  (hQ:∀ x1 x2 h' tk,P1 i x1→P2 i x2→kl h' z TI TO T true→St1 (i+1) h'→St2 (i+1) h'→IsTupOf2 h' s.heap.objs.size x1 x2→h'.objs.size=s.heap.objs.size+1→
   (∀ c o,c≠z→c≠i1→c≠i2→s.heap.get? c=some o→h'.get? c=some o)→Q (some (.ref s.heap.objs.size)) { s with heap:=h',toks:=tk }) :
  wpAny (model prog w) A (pyNext (.ref z)) Q E s:=by
 have hTy:s.TypeIs (.ref z) "zip":=⟨_,hz,rfl⟩
 unfold pyNext
 exact wpAny_bind (wpAny_attempt (wpAny_callSpecial?_slot (name:=Str.ofString "__next__") hTy F.slot_zip_next
  (wpAny_call_entry F.slot_zip_next hTy F.entry_zip_next
   (pQ S D1 D2 hz hT hTI st1 st2 hlt1 hlt2 fun x1 x2 h' tk y1 y2 b1 d1 d2 b5 b6 b7=>wpAny_pure (hQ x1 x2 h' tk y1 y2 b1 d1 d2 b5 b6 b7)) (F.args_zip_next_1 _))))
theorem ox {Q:Option Value→Shared→Prop} (S:ZipSep2 z TI TO i1 i2 fp1 fp2) (D1:Draws prog w A.in1 i1 fp1 n1 P1 St1) (D2:Draws prog w A.in1 i2 fp2 n2 P2 St2)
  (hz:kl s.heap z TI TO T b) (hT:∃ o,s.heap.get? T=some o) (hTI:IsTupOf2 s.heap TI (.ref i1) (.ref i2)) (st1:St1 i s.heap) (st2:St2 i s.heap) (hle1:i≤n1) (hle2:i≤n2) (hend:i=n1∨i=n2)
  (hQ:∀ h' tk,(∀ c o,c≠z→c≠i1→c≠i2→s.heap.get? c=some o→h'.get? c=some o)→Q none { s with heap:=h',toks:=tk }):wpAny (model prog w) A (pyNext (.ref z)) Q E s:=by
 have hTy:s.TypeIs (.ref z) "zip":=⟨_,hz,rfl⟩
 unfold pyNext
 refine wpAny_bind (wpAny_attempt (wpAny_callSpecial?_slot (name:=Str.ofString "__next__") hTy F.slot_zip_next
  (wpAny_call_entry F.slot_zip_next hTy F.entry_zip_next (rg S D1 D2 hz hT hTI st1 st2 hle1 hle2 hend fun h' tk e hk he=>?_) (F.args_zip_next_1 _))))
 obtain ⟨o,ho,hc⟩:=he
 refine wpAny_bind (wpAny_isInstance (T:="StopIteration") (b:=true) ⟨o,ho,hc⟩ isSubtype_stop ?_)
 exact wpAny_pure (hQ _ _ hk)
end
structure ZS (z TI TO i1 i2 N:Addr) (St1 St2:Nat→Heap→Prop) (i:Nat) (h:Heap):Prop where
 tI:IsTupOf2 h TI (.ref i1) (.ref i2)
 s1:St1 i h
 s2:St2 i h
 zz:(IsZip h z TI TO .none∧∃ x y,IsTupOf2 h TO x y)∨∃ (b:Bool) (T:Addr),kl h z TI TO T b∧T≠N∧∃ o,h.get? T=some o
def oz (P1 P2:Nat→Value→Prop) (N:Addr) (h:Heap) (Ts:List Addr):Prop:=
 Ts.Nodup∧∀ j T,Ts[j]?=some T→N < T∧∃ x1 x2,P1 j x1∧P2 j x2∧IsTupOf2 h T x1 x2
section
variable {prog:Program} {w:World} {A:Around} {E:Value→Shared→Prop} {s:Shared} {z TI TO i1 i2 N:Addr} {fp1 fp2:List Addr} {n1 n2 i:Nat} {P1 P2:Nat→Value→Prop} {St1 St2:Nat→Heap→Prop} {R:Result→Shared→Prop}
theorem ZS.type (x:ZS z TI TO i1 i2 N St1 St2 i s.heap):s.TypeIs (.ref z) "zip":=by
 rcases x.zz with ⟨h,_⟩ | ⟨b,T,h,_⟩
 ·exact ⟨_,h,rfl⟩
 ·exact ⟨_,h,rfl⟩
theorem ZS.keep {h h':Heap} (D1:Draws prog w A i1 fp1 n1 P1 St1) (D2:Draws prog w A i2 fp2 n2 P2 St2) (x:ZS z TI TO i1 i2 N St1 St2 i h) (hz:z≠N) (hI:TI≠N) (hO:TO≠N) (h1:N∉fp1) (h2:N∉fp2)
  (k:∀ b o,b≠N→h.get? b=some o→h'.get? b=some o):ZS z TI TO i1 i2 N St1 St2 i h':=by
 refine ⟨k _ _ hI x.tI,D1.frame _ _ _ x.s1 fun b hb o e=>k b o (fun q=>h1 (q▸hb)) e,D2.frame _ _ _ x.s2 fun b hb o e=>k b o (fun q=>h2 (q▸hb)) e,?_⟩
 rcases x.zz with ⟨q,a,b,q2⟩ | ⟨b,T,q,nT,o,e⟩
 ·exact .inl ⟨k _ _ hz q,a,b,k _ _ hO q2⟩
 ·exact .inr ⟨b,T,k _ _ hz q,nT,o,k _ _ nT e⟩
theorem yx {Q:Option Value→Shared→Prop} (S:ZipSep2 z TI TO i1 i2 fp1 fp2) (D1:Draws prog w A.in1 i1 fp1 n1 P1 St1) (D2:Draws prog w A.in1 i2 fp2 n2 P2 St2) (x:ZS z TI TO i1 i2 N St1 St2 i s.heap) (hN:N < s.heap.objs.size) (hlt1:i < n1) (hlt2:i < n2)
  (hQ:∀ x1 x2 h' tk,P1 i x1→P2 i x2→ZS z TI TO i1 i2 N St1 St2 (i+1) h'→IsTupOf2 h' s.heap.objs.size x1 x2→h'.objs.size=s.heap.objs.size+1→
   (∀ c o,c≠z→c≠TO→c≠i1→c≠i2→s.heap.get? c=some o→h'.get? c=some o)→Q (some (.ref s.heap.objs.size)) { s with heap:=h',toks:=tk }) :
  wpAny (model prog w) A (pyNext (.ref z)) Q E s:=by
 have tI:∀ h':Heap,(∀ c o,c≠z→c≠TO→c≠i1→c≠i2→s.heap.get? c=some o→h'.get? c=some o)→IsTupOf2 h' TI (.ref i1) (.ref i2):=fun h' k=>k _ _ S.TIz S.TITO S.TIi1 S.TIi2 x.tI
 rcases x.zz with ⟨q,a,b,q2⟩ | ⟨b,T,q,nT,hT⟩
 ·refine wpAny_pyNext_zipD2_item S D1 D2 q x.tI q2 x.s1 x.s2 hlt1 hlt2 fun x1 x2 h' tk p1 p2 g1 g2 g3 g4 g5 g6 g7=>?_
  exact hQ x1 x2 h' tk p1 p2 ⟨tI h' g7,g3,g4,.inr ⟨false,_,g1,Nat.ne_of_gt hN,_,g5⟩⟩ g5 g6 g7
 ·refine nX S D1 D2 q hT x.tI x.s1 x.s2 hlt1 hlt2 fun x1 x2 h' tk p1 p2 g1 g2 g3 g4 g5 g6=>?_
  have k:∀ c o,c≠z→c≠TO→c≠i1→c≠i2→s.heap.get? c=some o→h'.get? c=some o:=fun c o c1 _ c2 c3 e=>g6 c o c1 c2 c3 e
  refine hQ x1 x2 h' tk p1 p2 ⟨tI h' k,g2,g3,?_⟩ g4 g5 k
  obtain ⟨o,e⟩:=hT
  by_cases e1:T=z
  ·exact .inr ⟨true,T,g1,nT,⟨_,(congrArg h'.get? e1).trans g1⟩⟩
  ·by_cases e2:T=i1
   ·obtain ⟨o',e'⟩:=D1.live _ _ g2
    exact .inr ⟨true,T,g1,nT,o',e2▸e'⟩
   ·by_cases e3:T=i2
    ·obtain ⟨o',e'⟩:=D2.live _ _ g3
     exact .inr ⟨true,T,g1,nT,o',e3▸e'⟩
    ·exact .inr ⟨true,T,g1,nT,o,g6 T o e1 e2 e3 e⟩
theorem zZ {Q:Option Value→Shared→Prop} (S:ZipSep2 z TI TO i1 i2 fp1 fp2) (D1:Draws prog w A.in1 i1 fp1 n1 P1 St1) (D2:Draws prog w A.in1 i2 fp2 n2 P2 St2) (x:ZS z TI TO i1 i2 N St1 St2 i s.heap) (hle1:i≤n1) (hle2:i≤n2) (hend:i=n1∨i=n2)
  (hQ:∀ h' tk,(∀ c o,c≠z→c≠TO→c≠i1→c≠i2→s.heap.get? c=some o→h'.get? c=some o)→Q none { s with heap:=h',toks:=tk }) :
  wpAny (model prog w) A (pyNext (.ref z)) Q E s:=by
 rcases x.zz with ⟨q,a,b,q2⟩ | ⟨b,T,q,nT,hT⟩
 ·refine wpAny_pyNext_zipD2_end S D1 D2 q x.tI q2 x.s1 x.s2 hle1 hle2 hend fun h' tk k=>?_
  exact hQ h' tk k
 ·exact ox S D1 D2 q hT x.tI x.s1 x.s2 hle1 hle2 hend fun h' tk k=>hQ h' tk fun c o c1 _ c2 c3 e=>k c o c1 c2 c3 e
theorem yC (S:ZipSep2 z TI TO i1 i2 fp1 fp2) (D1:Draws prog w A.in1.in1 i1 fp1 n1 P1 St1) (D2:Draws prog w A.in1.in1 i2 fp2 n2 P2 St2) (hn:min n1 n2≤sizeLine) (hz:z < N) (hI:TI < N) (hO:TO < N) (hi1:i1 < N) (hi2:i2 < N) (h1:N∉fp1) (h2:N∉fp2) (res:Value) :
  ∀ (k i:Nat) (s:Shared) (Ts:List Addr) (acc:Array Value) (c:Nat),min n1 n2 - i=k→i≤min n1 n2→ZS z TI TO i1 i2 N St1 St2 i s.heap→s.heap.get? N=some { cls:=.type "list",dict:=none,data:=.seq acc c,slots:=#[] }→acc=(Ts.map Value.ref).toArray→Ts.length=i→oz P1 P2 N s.heap Ts→
  (∀ h' tk Ts' c',(∀ c o,c≠z→c≠TO→c≠i1→c≠i2→c≠N→s.heap.get? c=some o→h'.get? c=some o)→h'.get? N=some { cls:=.type "list",dict:=none,data:=.seq (Ts'.map Value.ref).toArray c',slots:=#[] }→Ts'.length=min n1 n2→oz P1 P2 N h' Ts'→R (.ok (.ret res)) { s with heap:=h',toks:=tk })→
  codeAny (model prog w) A (.builtin "list.extend.loop" ⟨[.ref N,.ref z,res],[]⟩) R s:=by
 have nz:z≠N:=Nat.ne_of_lt hz
 have nI:TI≠N:=Nat.ne_of_lt hI
 have nO:TO≠N:=Nat.ne_of_lt hO
 have n1':i1≠N:=Nat.ne_of_lt hi1
 have n2':i2≠N:=Nat.ne_of_lt hi2
 have good:∀ (h h':Heap) (Ts:List Addr),oz P1 P2 N h Ts→(∀ c o,c≠z→c≠TO→c≠i1→c≠i2→c≠N→h.get? c=some o→h'.get? c=some o)→oz P1 P2 N h' Ts:=fun h h' Ts g k=>by
  refine ⟨g.1,fun j T e=>?_⟩
  obtain ⟨a,x1,x2,p1,p2,q⟩:=g.2 j T e
  exact ⟨a,x1,x2,p1,p2,k _ _ (Nat.ne_of_gt (Nat.lt_trans hz a)) (Nat.ne_of_gt (Nat.lt_trans hO a)) (Nat.ne_of_gt (Nat.lt_trans hi1 a)) (Nat.ne_of_gt (Nat.lt_trans hi2 a)) (Nat.ne_of_gt a) q⟩
 intro k
 induction k with
 | zero=>
  intro i s Ts acc c hk hi hst hS hacc hl hg hR
  have hin:i=min n1 n2:=by omega
  refine codeAny_builtin F.entry_extend_loop ?_
  rw [Around.under_plainId F.plain_extend_loop _]
  show wpAny _ A.in1 (pyNext (.ref z) >>=_) _ _ s
  refine wpAny_bind (zZ S D1 D2 hst (by omega) (by omega) (by omega) fun h' tk k=>?_)
  have k':∀ c o,c≠z→c≠TO→c≠i1→c≠i2→c≠N→s.heap.get? c=some o→h'.get? c=some o:=fun c o a1 a2 a3 a4 _ e=>k c o a1 a2 a3 a4 e
  subst hacc
  exact wpAny_pure (hR h' tk Ts c k' (k _ _ nz.symm nO.symm n1'.symm n2'.symm hS) (by omega) (good _ _ _ hg k'))
 | succ k ih=>
  intro i s Ts acc c hk hi hst hS hacc hl hg hR
  have hlt:i < min n1 n2:=by omega
  refine codeAny_builtin F.entry_extend_loop ?_
  rw [Around.under_plainId F.plain_extend_loop _]
  show wpAny _ A.in1 (pyNext (.ref z) >>=_) _ _ s
  have hNs:N < s.heap.objs.size:=Heap.lt_size hS
  refine wpAny_bind (yx S D1 D2 hst hNs (by omega) (by omega) fun x1 x2 h' tk p1 p2 zs hT hsz k=>?_)
  have hS':=k _ _ nz.symm nO.symm n1'.symm n2'.symm hS
  show wpAny _ A.in1 (updateSeq N (·.push (.ref s.heap.objs.size)) >>=_) _ _ _
  refine wpAny_bind ?_
  have oth:∀ (f:Obj→Obj) (b:Addr) (o:Obj),b≠N→h'.get? b=some o→(h'.update N f).get? b=some o:=fun f b o hb e=>(Heap.get?_update_other _ _ (Ne.symm hb)).trans e
  have hsz2:acc.size=i:=by rw [hacc]; simp [hl]
  refine wpAny_updateSeq hS' rfl (wpAny_pure ⟨plainId_quiet F.plain_extend_loop _,ih (i+1) _ (Ts++[s.heap.objs.size]) (acc.push (.ref s.heap.objs.size)) _ (by omega) hlt (zs.keep D1 D2 nz nI nO h1 h2 fun b o hb e=>oth _ b o hb e) (Heap.get?_update_self _ hS' rfl) (by rw [hacc]; simp) (by simp [hl]) ?_ fun h2 tk2 Ts' c' k2 g1 g2 g3=>?_⟩)
   (by rw [hsz2]; omega) (by show (acc.push _).size≤sizeLine+1; rw [Array.size_push,hsz2]; omega)
  ·refine ⟨?_,fun j T e=>?_⟩
   ·rw [List.nodup_append]
    refine ⟨hg.1,by simp,fun a ha b hb=>?_⟩
    have:b=s.heap.objs.size:=by simpa using hb
    subst this
    obtain ⟨j,e⟩:=List.mem_iff_getElem?.mp ha
    obtain ⟨_,y1,y2,_,_,q⟩:=hg.2 j a e
    exact Nat.ne_of_lt (Heap.lt_size q)
   ·by_cases hj:j < Ts.length
    ·rw [List.getElem?_append_left hj] at e
     obtain ⟨a,y1,y2,q1,q2,q⟩:=hg.2 j T e
     exact ⟨a,y1,y2,q1,q2,oth _ _ _ (Nat.ne_of_gt a) (k _ _ (Nat.ne_of_gt (Nat.lt_trans hz a)) (Nat.ne_of_gt (Nat.lt_trans hO a)) (Nat.ne_of_gt (Nat.lt_trans hi1 a)) (Nat.ne_of_gt (Nat.lt_trans hi2 a)) q)⟩
    ·rw [List.getElem?_append_right (by omega)] at e
     have hj2:j - Ts.length=0:=by
      cases hd:j - Ts.length with
      | zero=>rfl
      | succ n=>rw [hd] at e; simp at e
     rw [hj2] at e
     cases e
     have:j=i:=by omega
     subst this
     exact ⟨hNs,x1,x2,p1,p2,oth _ _ _ (Nat.ne_of_gt hNs) hT⟩
  ·exact hR h2 tk2 Ts' c' (fun c o a1 a2 a3 a4 a5 e=>k2 c o a1 a2 a3 a4 a5 (oth _ c o a5 (k c o a1 a2 a3 a4 e))) g1 g2 g3
theorem ve:typeLookup (.type "zip") "__len__"=pure none:=by rw [typeLookup_type,builtinLookup_eq_fast]; kernel_rfl
theorem tZ:typeLookup (.type "zip") "__length_hint__"=pure none:=by rw [typeLookup_type,builtinLookup_eq_fast]; kernel_rfl
def xf (s:Shared) (z TO i1 i2 N:Addr) (P1 P2:Nat→Value→Prop) (n:Nat) (h':Heap):Prop:=
 (∀ c o,c≠z→c≠TO→c≠i1→c≠i2→c≠N→s.heap.get? c=some o→h'.get? c=some o)∧∃ Ts c',h'.get? N=some { cls:=.type "list",dict:=none,data:=.seq (Ts.map Value.ref).toArray c',slots:=#[] }∧Ts.length=n∧oz P1 P2 N h' Ts
theorem wt (S:ZipSep2 z TI TO i1 i2 fp1 fp2) (D1:Draws prog w A.in1.in1 i1 fp1 n1 P1 St1) (D2:Draws prog w A.in1.in1 i2 fp2 n2 P2 St2) (hn:min n1 n2≤sizeLine) (hz:z < N) (hI:TI < N) (hO:TO < N) (hi1:i1 < N) (hi2:i2 < N) (h1:N∉fp1) (h2:N∉fp2) (res:Value) (c₀:Nat)
  (hzip:IsZip s.heap z TI TO .none) (hst:ZS z TI TO i1 i2 N St1 St2 0 s.heap) (hS:s.heap.get? N=some { cls:=.type "list",data:=.seq #[] c₀ })
  (hR:∀ h' tk,xf s z TO i1 i2 N P1 P2 (min n1 n2) h'→R (.ok (.ret res)) { s with heap:=h',toks:=tk }) :
  wpAny (model prog w) A.in1 (Builtin.List.listExtendWith (.ref N) (.ref z) res)
   (fun fin s'=>match fin with | .done f=>R (.ok f) s' | .again c'=>c'.quiet=true∧codeAny (model prog w) A c' R s') (fun e s'=>R (.error e) s') s:=by
 have hSI:N≠z:=Nat.ne_of_gt hz
 have hT:=hst.type
 unfold Builtin.List.listExtendWith
 refine wpAny_bind (wpAny_typeOf hT ?_)
 have e1:Builtin.List.listSameRef (.ref N) (.ref z)=false:=by simp [Builtin.List.listSameRef,hSI]
 have e2:(Value.type "zip" ==Value.type "list")=false:=by decide
 have e3:(Value.type "zip" ==Value.type "tuple")=false:=by decide
 simp only [e1,e2,e3,Bool.or_false,Bool.false_eq_true,if_false]
 refine wpAny_bind (wpAny_pyIter_zip hzip ?_)
 refine wpAny_bind (wpAny_holding ?_)
 unfold Builtin.List.listLengthHint
 refine wpAny_bind (wpAny_specialOf hT ve ?_)
 show wpAny _ A.in1 (specialOf (Value.ref z) (Str.ofString "__length_hint__") >>=_) _ _ _
 refine wpAny_bind (wpAny_specialOf hT tZ ?_)
 refine wpAny_pure ?_
 show wpAny _ A.in1 (rule "list.extend.makes-room" >>=fun _=>Builtin.List.listTouch (.ref N) >>=fun _=>
  again (.builtin "list.extend.loop" ⟨[.ref N,.ref z,res],[]⟩)) _ _ _
 refine wpAny_bind (wpAny_rule ?_)
 refine wpAny_bind ?_
 show wpAny _ A.in1 (updateSeq N (·.push .none) >>=fun _=>updateSeq N (·.pop)) _ _ _
 refine wpAny_bind (wpAny_updateSeq hS rfl ?_)
 have hS₂:=Heap.get?_update_self (Obj.mapSeq (·.push Value.none)) hS rfl
 refine wpAny_updateSeq (hz:=by seq_fits) hS₂ rfl ?_
 have hS₃:=Heap.get?_update_self (Obj.mapSeq (·.pop)) hS₂ rfl
 have oth:∀ b o,b≠N→s.heap.get? b=some o→((s.heap.update N (Obj.mapSeq (·.push Value.none))).update N (Obj.mapSeq (·.pop))).get? b=some o:=
  fun b o hb e=>(Heap.get?_update_other _ _ (Ne.symm hb)).trans ((Heap.get?_update_other _ _ (Ne.symm hb)).trans e)
 refine wpAny_pure ⟨plainId_quiet F.plain_extend_loop _,yC S D1 D2 hn hz hI hO hi1 hi2 h1 h2 res (min n1 n2) 0 _ [] _ _ rfl (Nat.zero_le _)
  (hst.keep D1 D2 (Nat.ne_of_lt hz) (Nat.ne_of_lt hI) (Nat.ne_of_lt hO) h1 h2 oth) hS₃ rfl rfl ⟨List.nodup_nil,fun j T e=>by simp at e⟩ fun h' tk Ts' c' k g1 g2 g3=>?_⟩
 exact hR h' tk ⟨fun c o a1 a2 a3 a4 a5 e=>k c o a1 a2 a3 a4 a5 (oth c o a5 e),Ts',c',g1,g2,g3⟩
theorem yz (S:ZipSep2 z TI TO i1 i2 fp1 fp2) (D1:Draws prog w A.in1.in1 i1 fp1 n1 P1 St1) (D2:Draws prog w A.in1.in1 i2 fp2 n2 P2 St2) (hn:min n1 n2≤sizeLine) (hz:z < N) (hI:TI < N) (hO:TO < N) (hi1:i1 < N) (hi2:i2 < N) (h1:N∉fp1) (h2:N∉fp2)
  (hzip:IsZip s.heap z TI TO .none) (hst:ZS z TI TO i1 i2 N St1 St2 0 s.heap) (hS:s.heap.get? N=some { cls:=.type "list",data:=.seq #[] })
  (hR:∀ h' tk,xf s z TO i1 i2 N P1 P2 (min n1 n2) h'→R (.ok (.ret .none)) { s with heap:=h',toks:=tk }) :
  wpAny (model prog w) A.in1 (Builtin.«list.__init__» ⟨[.ref N,.ref z],[]⟩)
   (fun fin s'=>match fin with | .done f=>R (.ok f) s' | .again c'=>c'.quiet=true∧codeAny (model prog w) A c' R s') (fun e s'=>R (.error e) s') s:=by
 show wpAny _ A.in1 (do let old ← Builtin.List.listItems (.ref N); Builtin.List.listUpdate (.ref N) (fun _=>#[]); letGo old.toList.reverse; Builtin.List.listExtendWith (.ref N) (.ref z) .none) _ _ s
 refine wpAny_bind ?_
 unfold Builtin.List.listItems
 refine wpAny_bind (wpAny_seqItems hS rfl (wpAny_pure ?_))
 show wpAny _ A.in1 (updateSeq N (fun _=>#[]) >>=fun _=>letGo (#[]:Array Value).toList.reverse >>=fun _=>Builtin.List.listExtendWith (.ref N) (.ref z) .none) _ _ s
 refine wpAny_bind (wpAny_updateSeq hS rfl ?_)
 have hS₂:=Heap.get?_update_self (Obj.mapSeq (fun _=>(#[]:Array Value))) hS rfl
 have oth:∀ b o,b≠N→s.heap.get? b=some o→(s.heap.update N (Obj.mapSeq (fun _=>(#[]:Array Value)))).get? b=some o:=
  fun b o hb e=>(Heap.get?_update_other _ _ (Ne.symm hb)).trans e
 refine wpAny_bind (wpAny_letGo ?_)
 refine wt S D1 D2 hn hz hI hO hi1 hi2 h1 h2 .none _ (oth _ _ (Nat.ne_of_lt hz) hzip) (hst.keep D1 D2 (Nat.ne_of_lt hz) (Nat.ne_of_lt hI) (Nat.ne_of_lt hO) h1 h2 oth) hS₂ fun h' tk q=>?_
 exact hR h' tk ⟨fun c o a1 a2 a3 a4 a5 e=>q.1 c o a1 a2 a3 a4 a5 (oth c o a5 e),q.2⟩
theorem rn {Q:Value→Shared→Prop} (S:ZipSep2 z TI TO i1 i2 fp1 fp2) (D1:Draws prog w A.in1.in1.in1 i1 fp1 n1 P1 St1) (D2:Draws prog w A.in1.in1.in1 i2 fp2 n2 P2 St2) (hn:min n1 n2≤sizeLine)
  (hzip:IsZip s.heap z TI TO .none) (hTI:IsTupOf2 s.heap TI (.ref i1) (.ref i2)) (hTO:∃ x y,IsTupOf2 s.heap TO x y) (st1:St1 0 s.heap) (st2:St2 0 s.heap) (hf1:∀ b∈fp1,b < s.heap.objs.size) (hf2:∀ b∈fp2,b < s.heap.objs.size)
  (hQ:∀ h' tk,xf s z TO i1 i2 s.heap.objs.size P1 P2 (min n1 n2) h'→Q (.ref s.heap.objs.size) { s with heap:=h',toks:=tk }) :
  wpAny (model prog w) A (call (.type "list") [.ref z]) Q E s:=by
 obtain ⟨x,y,hTO⟩:=hTO
 have h1:s.heap.objs.size∉fp1:=fun hm=>Nat.lt_irrefl _ (hf1 _ hm)
 have h2:s.heap.objs.size∉fp2:=fun hm=>Nat.lt_irrefl _ (hf2 _ hm)
 refine callType_codes (Q₁:=fun obj s₁=>obj=.ref s.heap.objs.size∧s₁={ s with heap:=s.heap.push { cls:=.type "list",data:=.seq #[] } }) F.called_list (F.typeCall_list_1 _) F.entry_list_init
  (code_list_new _ ⟨rfl,rfl⟩) fun obj s₁ q₁=>?_
 obtain ⟨rfl,rfl⟩:=q₁
 have hS:(s.heap.push { cls:=.type "list",data:=.seq #[] }).get? s.heap.objs.size=some { cls:=.type "list",data:=.seq #[] }:=Heap.get?_push_size _ rfl
 have up:∀ b o,s.heap.get? b=some o→(s.heap.push { cls:=.type "list",data:=.seq #[] }).get? b=some o:=fun b o e=>Heap.get?_push_of_some _ e
 refine ⟨⟨_,hS,rfl⟩,F.args_list_init_2 _ _,yz S D1 D2 hn (Heap.lt_size hzip) (Heap.lt_size hTI) (Heap.lt_size hTO) (hf1 _ S.mem1) (hf2 _ S.mem2) h1 h2 (up _ _ hzip)
  ⟨up _ _ hTI,D1.frame _ _ _ st1 fun b _ o e=>up b o e,D2.frame _ _ _ st2 fun b _ o e=>up b o e,.inl ⟨up _ _ hzip,x,y,up _ _ hTO⟩⟩ hS fun h' tk q=>?_⟩
 exact ⟨rfl,hQ h' tk ⟨fun c o a1 a2 a3 a4 a5 e=>q.1 c o a1 a2 a3 a4 a5 (up c o e),q.2⟩⟩
end
end Mir
namespace Mir
open PySem PySem.Spec PyProof.Rows L2
theorem grown {X:Cx} {pins:List (Addr×Obj)} {σ:SL} {H H':Hp} {s:Shared} {h':Heap} {t':Nat} (I:Inv X pins σ H s) (k:∀ b o,s.heap.get? b=some o→h'.get? b=some o) (hu:∀ b u,H b=some u→H' b=some u)
  (hn:∀ b,b < s.heap.objs.size→H b=none→H' b=none) (new:∀ b u,H' b=some u→H b=some u∨ObjOk X.prog X.w H' h' b u):Inv X pins σ H' { s with heap:=h',toks:=t' }:=by
 refine I.step (g':=s.gens) (d':=s.drawn) (ch:=[]) (fun b hb=>nomatch hb) (fun b o _ _ _ e _=>k b o e) (fun b o _ _ _ e _=>⟨o.slots,k b o e⟩)
  (fun b o _ e n=>hn b (Heap.lt_size e) n) (fun b o _ e=>⟨o,k b o e⟩) (fun b xs e=>hu b _ e) (fun b o u e=>hu b _ e) (fun b ps e=>⟨#[],by rw [hu b _ e]; simp⟩) (fun m hm=>?_) (fun b u e=>?_) I.bare
 ·obtain ⟨o,es,ep,ho,r⟩:=hm
  exact ⟨o,es,ep,k _ o ho,r⟩
 ·rcases new b u e with q | q
  ·exact (I.hok b u q).stay (fun c v _ z=>k c v z) (fun c z=>hu c _ z) fun c xs z=>hu c _ z
  ·exact q
def qc (xs ys:List D):List D:=List.zipWith (fun x y=>D.tup [x,y]) xs ys
theorem vS {P:Program} {w:World} {K:PySem.W.Frag} {mg:Str→Option Value} {W:Wd} {m:Mem} {h':Heap}:∀ (xs ys:List D) (vs us:List V) (its its2:List Value) (Ts:List Addr) (H:Hp),Sim K mg W H m→Reps K W H xs vs→Reps K W H ys us→Vals vs its→Vals us its2→
  Ts.length=min xs.length ys.length→Ts.Nodup→(∀ T∈Ts,H T=none)→(∀ (j:Nat) (T:Addr),Ts[j]?=some T→∃ x1 x2,its[j]?=some x1∧its2[j]?=some x2∧IsTupOf2 h' T x1 x2)→
  ∃ H',Ext W H W H'∧Sim K mg W H' m∧Reps K W H' (qc xs ys) (Ts.map V.ref)∧(∀ b,b∉Ts→H' b=H b)∧∀ T∈Ts,∃ u,H' T=some u∧∀ H2,ObjOk P w H2 h' T u
 | [],ys,vs,us,its,its2,Ts,H,s,_,_,_,_,hl,_,_,_=>by
  have:Ts=[]:=List.length_eq_zero_iff.mp (by simpa using hl)
  subst this
  exact ⟨H,Ext.refl W H,s,by simp [qc,Reps],fun b _=>rfl,fun T hT=>nomatch hT⟩
 | x ::xr,[],vs,us,its,its2,Ts,H,s,_,_,_,_,hl,_,_,_=>by
  have:Ts=[]:=List.length_eq_zero_iff.mp (by simpa using hl)
  subst this
  exact ⟨H,Ext.refl W H,s,by simp [qc,Reps],fun b _=>rfl,fun T hT=>nomatch hT⟩
 | x ::xr,y ::yr,vs,us,its,its2,Ts,H,s,r1,r2,v1,v2,hl,nd,fr,hT=>by
  cases Ts with
  | nil=>simp at hl
  | cons T Tr=>
  obtain ⟨v,vr,rfl,rx,rxr⟩:=r1.cons'
  obtain ⟨u,ur,rfl,ry,ryr⟩:=r2.cons'
  cases v1 with
  | @cons _ v0 _ i0 q1 q2=>
  cases v2 with
  | @cons _ u0 _ j0 q3 q4=>
  obtain ⟨x1,x2,e1,e2,eT⟩:=hT 0 T rfl
  cases e1
  cases e2
  have hn:H T=none:=fr T List.mem_cons_self
  have ex:Ext W H W (upd H T (.frz { cls:=.type "tuple",data:=.seq #[v0,u0] } (.tup [v,u]))):=Ext.fresh hn
  have nd':=List.nodup_cons.mp nd
  obtain ⟨H',g1,g2,g3,g4,g5⟩:=vS (P:=P) (w:=w) (h':=h') xr yr vr ur i0 j0 Tr _ (s.fresh (o:=.frz { cls:=.type "tuple",data:=.seq #[v0,u0] } (.tup [v,u])) hn) (rxr.ext ex) (ryr.ext ex) q2 q4 (by simp only [List.length_cons] at hl; omega) nd'.2
   (fun T' h=>by
    have ne:T'≠T:=fun e=>nd'.1 (e▸h)
    rw [upd_ne ne]; exact fr T' (List.mem_cons_of_mem _ h)) (fun j T' e=>hT (j+1) T' e)
  have hT':H' T=some (.frz { cls:=.type "tuple",data:=.seq #[v0,u0] } (.tup [v,u])):=by rw [g4 T nd'.1,upd_same]
  refine ⟨H',ex.trans g1,g2,?_,fun b hb=>?_,fun T' h=>?_⟩
  ·exact bB (iq (.inl ⟨_,hT',rfl,rfl⟩) (bB ((rx.ext ex).ext g1) (fE ((ry.ext ex).ext g1)))) g3
  ·have ne:b≠T:=fun e=>hb (e▸List.mem_cons_self)
   rw [g4 b fun h=>hb (List.mem_cons_of_mem _ h),upd_ne ne]
  ·rcases List.mem_cons.mp h with e | h
   ·rw [e]
    exact ⟨_,hT',fun H2=>⟨eT,by show 2≤sizeLine; decide,[v0,u0],.cons q1 (.cons q3 .nil),⟨_,eT,rfl,_,rfl⟩⟩⟩
   ·exact g5 T' h
theorem uv:∀ Ts:List Addr,Vals (Ts.map V.ref) (Ts.map Value.ref)
 | []=>.nil
 | T ::r=>.cons rfl (uv r)
theorem IsSq.at {h h':Heap} {k:SK} {a:Addr} {its:Array Value} (x:IsSq h k a its) (hk:∀ c o,h.get? c=some o→h'.get? c=some o):IsSq h' k a its:=by
 cases k with
 | l=>obtain ⟨o,e,r⟩:=x; exact ⟨o,hk _ _ e,r⟩
 | t=>obtain ⟨o,e,r⟩:=x; exact ⟨o,hk _ _ e,r⟩
def ot (al:Bool) (a b:EM):EM:=fun η m=>(a η m).bind fun x m1=>(b η m1).bind fun y m2=>match aO x m2,aO y m2 with
 | some xs,some ys=>mkL al (qc xs ys) m2
 | _,_=>.stk
section
variable {X:Cx} {E:XK} {pos:Pos}
theorem uO {al:Bool} {e e2:Expr} {ca cb:EM} {p p2 pos2:Pos} (hc:X.calm=true) (hml:X.mg "list"=none) (hgl:Gl X "list") (hm:X.mg "zip"=none) (hg:Gl X "zip") (ha:MEx X E e ca) (hb:MEx X E e2 cb)
  (he:starEach [Expr.Call (.Name "zip" p2) [e,e2] [] pos2] X.env=(false,eval (.Call (.Name "zip" p2) [e,e2] [] pos2) X.env) ::starEach [] X.env:=by rfl)
  (hs:starEach [e,e2] X.env=(false,eval e X.env) ::starEach [e2] X.env:=by rfl) (hpl:(backTo pos2 (starEach [e2] X.env)).any (·.1)=false:=by rfl) (hs2:starEach [e2] X.env=(false,eval e2 X.env) ::starEach [] X.env:=by rfl) :
  MEx X E (.Call (.Name "list" p) [.Call (.Name "zip" p2) [e,e2] [] pos2] [] pos) (ot al ca cb):=by
 refine ⟨fun pins s σ H R I h=>?_⟩
 obtain ⟨W,η,m,sm,n,pp⟩:=h
 have h2:(tCons (rdE X.K X.mg E ca) (tCons (rdE X.K X.mg E cb) (rdA X.K X.mg E ag))) σ H (fun vs H1=>∃ x y W1 m1 d1 d2,vs=[x,y]∧Sim X.K X.mg W1 H1 m1∧Rep X.K W1 H1 d1 x∧Rep X.K W1 H1 d2 y∧Post X.K X.mg E (Rep X.K) W1 H1 R (match aO d1 m1,aO d2 m1 with
   | some xs,some ys=>mkL al (qc xs ys) m1
   | _,_=>.stk)):=by
  refine ⟨W,η,m,sm,n,(Post.bind (Rl:=Rep X.K) pp).imp fun x H1 ⟨W1,d1,m1,e1,s1,r1,p1⟩=>?_⟩
  refine ⟨W1,η,m1,s1,n.ext e1,(Post.bind (Rl:=Rep X.K) p1).imp fun y H2 ⟨W2,d2,m2,e2,s2,r2,p2⟩=>?_⟩
  exact ⟨W2,η,m2,s2,(n.ext e1).ext e2,fun b W' H' ex s' r'=>by
   rw [Reps.nil' r']
   exact ⟨x,y,W',m2,d1,d2,rfl,s',(r1.ext e2).ext ex,r2.ext ex,Post.ext ex p2⟩⟩
 have hA:PA X [e,e2] (tCons (rdE X.K X.mg E ca) (tCons (rdE X.K X.mg E cb) (rdA X.K X.mg E ag))):=pa_cons ha (pa_cons hb af hs2) hs
 refine wpAny_Call_Name_kw (ld_blt I hgl hml PyProof.Rows.boot_list ?_)
 refine PyProof.Rows.callWith_type1 ?_ he rfl
 rw [he]
 show wpAny _ _ (spliced ((false,eval (.Call (.Name "zip" p2) [e,e2] [] pos2) X.env) ::backTo pos (starEach [] X.env))) _ _ s
 refine Calls.spliced_cons ?_
 refine Call_ (ld_blt I hg hm PyProof.Rows.boot_zip (PyProof.Rows.callWith_type1 (thn (hA.run pos2 pins s σ H _ I h2) fun us s1 ⟨vs,H1,I1,rv,q1⟩=>?_) hs hpl))
 obtain ⟨x,y,W1,m1,d1,d2,rfl,sm1,r1,r2,q⟩:=q1
 split at q
 ·rename_i xs ys h1 h2
  obtain ⟨a,vs,e1,k1,k2⟩:=walked r1 (Ext.refl _ _).toZ sm1 h1
  obtain ⟨b,us',e2,k3,k4⟩:=walked r2 (Ext.refl _ _).toZ sm1 h2
  subst e1 e2
  cases rv with
  | cons r rr=>
  cases rr with
  | cons r' rr=>
  cases rr
  cases r
  cases r'
  obtain ⟨its,rv1,p1,l1,z1⟩:=sqK I1 k1
  obtain ⟨its2,rv2,p2,l2,z2⟩:=sqK I1 k3
  refine zip_begins2 (kD (d9 d1) a its.toArray) (kD (d9 d2) b its2.toArray) p1 p2 fun h' hz hTI hTO g1 g2 hsz hk=>Calls.spliced_nil ?_
  have hh:X.A.in1.in1.in1.handled=none:=I1.ok.hd hc
  have lt1:a < s1.heap.objs.size:=l1
  have lt2:b < s1.heap.objs.size:=l2
  have ne1:a≠s1.heap.objs.size:=Nat.ne_of_lt lt1
  have ne2:b≠s1.heap.objs.size+1:=Nat.ne_of_lt (Nat.lt_succ_of_lt lt2)
  have n1:its.toArray.size=xs.length:=by rw [List.size_toArray,←rv1.length,k2.length]
  have n2:its2.toArray.size=ys.length:=by rw [List.size_toArray,←rv2.length,k4.length]
  refine rn (s:={ s1 with heap:=h' }) (uL _ a b l1 l2) (iM (d9 d1) hh _ a ne1 its.toArray) (iM (d9 d2) hh _ b ne2 its2.toArray) ?_ hz hTI ⟨_,_,hTO⟩ ⟨jF g1,?_⟩ ⟨jF g2,?_⟩ ?_ ?_ fun h3 tk zend=>?_
  ·rw [n1,n2,←k2.length]; exact Nat.le_trans (Nat.min_le_left _ _) z1
  ·exact p1.at hk
  ·exact p2.at hk
  ·intro c hcm
   show c < h'.objs.size
   rw [hsz]
   have:c=s1.heap.objs.size∨c=a:=by simpa using hcm
   rcases this with z | z
   ·rw [z]; exact Nat.lt_add_of_pos_right (by decide)
   ·rw [z]; exact Nat.lt_of_lt_of_le lt1 (Nat.le_add_right _ _)
  ·intro c hcm
   show c < h'.objs.size
   rw [hsz]
   have:c=s1.heap.objs.size+1∨c=b:=by simpa using hcm
   rcases this with z | z
   ·rw [z]; exact Nat.add_lt_add_left (by decide) _
   ·rw [z]; exact Nat.lt_of_lt_of_le lt2 (Nat.le_add_right _ _)
  ·obtain ⟨kp,Ts,c',hN,hlen,nd,hTs⟩:=zend
   have hN:h3.get? h'.objs.size=some { cls:=.type "list",dict:=none,data:=.seq (Ts.map Value.ref).toArray c',slots:=#[] }:=hN
   rw [n1,n2] at hlen
   have big:∀ T∈Ts,h'.objs.size < T:=fun T hT=>by
    obtain ⟨j,e⟩:=List.mem_iff_getElem?.mp hT
    exact (hTs j T e).1
   have sz5:s1.heap.objs.size≤h'.objs.size:=by rw [hsz]; exact Nat.le_add_right _ _
   obtain ⟨H3,x1,x2,x3,x4,x5⟩:=vS (P:=X.prog) (w:=X.w) (h':=h3) xs ys vs us' its its2 Ts H1 sm1 k2 k4 rv1 rv2 hlen nd (fun T hT=>I1.hok.fresh (Nat.le_trans sz5 (Nat.le_of_lt (big T hT)))) (fun j T e=>by
    obtain ⟨_,y1,y2,o1,o2,o3⟩:=hTs j T e
    exact ⟨y1,y2,by simpa using o1,by simpa using o2,o3⟩)
   have nN:h'.objs.size∉Ts:=fun hm=>Nat.lt_irrefl _ (big _ hm)
   have fN:H3 h'.objs.size=none:=by rw [x4 _ nN]; exact I1.hok.fresh sz5
   have old:∀ c o,s1.heap.get? c=some o→h3.get? c=some o:=fun c o e=>by
    have lt:c < s1.heap.objs.size:=Heap.lt_size e
    refine kp c o ?_ ?_ ?_ ?_ ?_ (hk c o e)
    ·exact Nat.ne_of_lt (Nat.lt_of_lt_of_le lt (Nat.le_add_right _ _))
    ·exact Nat.ne_of_lt (Nat.lt_of_lt_of_le lt (Nat.le_add_right _ _))
    ·exact Nat.ne_of_lt lt
    ·exact Nat.ne_of_lt (Nat.lt_of_lt_of_le lt (Nat.le_add_right _ _))
    ·exact Nat.ne_of_lt (Nat.lt_of_lt_of_le lt sz5)
   have I3:Inv X pins σ (upd H3 h'.objs.size (.lst (Ts.map V.ref))) { s1 with heap:=h3,toks:=tk }:=by
    refine grown I1 old (fun c u e=>?_) (fun c lt e=>?_) fun c u e=>?_
    ·have lt:c < s1.heap.objs.size:=(I1.hok c u e).lt
     have ne:c≠h'.objs.size:=Nat.ne_of_lt (Nat.lt_of_lt_of_le lt sz5)
     have nT:c∉Ts:=fun hm=>Nat.lt_irrefl _ (Nat.lt_trans (Nat.lt_of_lt_of_le lt sz5) (big _ hm))
     rw [upd_ne ne,x4 c nT]
     exact e
    ·have ne:c≠h'.objs.size:=Nat.ne_of_lt (Nat.lt_of_lt_of_le lt sz5)
     have nT:c∉Ts:=fun hm=>Nat.lt_irrefl _ (Nat.lt_trans (Nat.lt_of_lt_of_le lt sz5) (big _ hm))
     rw [upd_ne ne,x4 c nT]
     exact e
    ·by_cases ne:c=h'.objs.size
     ·subst ne
      rw [upd_same] at e
      cases e
      refine .inr ⟨?_,Ts.map Value.ref,c',?_,hN⟩
      ·rw [List.length_map,hlen,←k2.length]; exact Nat.le_trans (Nat.min_le_left _ _) z1
      ·exact uv Ts
     ·rw [upd_ne ne] at e
      by_cases nT:c∈Ts
      ·obtain ⟨u',e',ok⟩:=x5 c nT
       rw [e'] at e
       cases e
       exact .inr (ok _)
      ·rw [x4 c nT] at e
       exact .inl e
   refine ⟨.ref h'.objs.size,_,I3,rfl,?_⟩
   exact x2.newL fN x3 (Post.ext x1 q)
 ·exact q.elim
instance (a b:Int):Decidable (RgOk a b):=by unfold RgOk; infer_instance
end
end Mir
namespace Mir
open PySem PySem.Spec PyProof.Rows L2
@[simp] theorem gEq_bl (neg:Bool) (a b:Bool) (m:Mem):gEq neg (.bl a) (.bl b) m=.ok (.bl (decide (a=b)^^neg)) m:=by
 simp [gEq,cn,scal]
@[simp] theorem Cf (neg:Bool) (a b:Str) (m:Mem):gEq neg (.str a) (.str b) m=.ok (.bl (decide (a=b)^^neg)) m:=by
 simp [gEq,cn,scal]
@[simp] theorem AV (d:D) (l:List D) (m:Mem):gIx (.lst (d ::l)) (.int 0) m=.ok d m:=by
 simp [gIx,qd,ba,atI,ixN,oR]
@[simp] theorem Bk (d:D) (l:List D) (m:Mem):gIx (.tup (d ::l)) (.int 0) m=.ok d m:=by
 simp [gIx,qd,atI,ixN,oR]
def Tri {α:Type} (r:R α) (P:α→Mem→Prop):Prop:=match r with
 | .ok a m=>P a m
 | _=>False
@[simp] theorem bK {α:Type} (a:α) (m:Mem) (P:α→Mem→Prop):Tri (.ok a m) P=P a m:=nr rfl
@[simp] theorem BN {α:Type} (P:α→Mem→Prop):Tri (.stk:R α) P=False:=nr rfl
@[simp] theorem Ct {α:Type} (x:Exn) (m:Mem) (P:α→Mem→Prop):Tri (.exc x m:R α) P=False:=nr rfl
@[simp] theorem fH {α β:Type} (r:R α) (f:α→Mem→R β) (P:β→Mem→Prop):Tri (r.bind f) P=Tri r (fun a m=>Tri (f a m) P):=by cases r<;>rfl
theorem Tri.mono {α:Type} {r:R α} {P Q:α→Mem→Prop} (h:Tri r P) (k:∀ a m,P a m→Q a m):Tri r Q:=by
 cases r with
 | ok a m=>exact k a m h
 | _=>exact h
theorem Tri.ex {α:Type} {r:R α} {P:α→Mem→Prop} (h:Tri r P):∃ a m,r=.ok a m∧P a m:=by
 cases r with
 | ok a m=>exact ⟨a,m,rfl,h⟩
 | _=>exact h.elim
@[simp] theorem Cn {α:Type} (r:R α) (P:α→Mem→Prop):Tri (noX r) P=Tri r P:=by cases r<;>rfl
@[simp] theorem BR {α:Type} {c:Prop} [Decidable c] (a b:R α) (P:α→Mem→Prop):Tri (if c then a else b) P=if c then Tri a P else Tri b P:=by split<;>rfl
def TriS (r:RS) (N:au→Mem→Prop) (Rt:D→Mem→Prop):Prop:=match r with
 | .nxt η m=>N η m
 | .ret d m=>Rt d m
 | _=>False
@[simp] theorem AX (η:au) (m:Mem) (N:au→Mem→Prop) (Rt:D→Mem→Prop):TriS (.nxt η m) N Rt=N η m:=nr rfl
@[simp] theorem By (d:D) (m:Mem) (N:au→Mem→Prop) (Rt:D→Mem→Prop):TriS (.ret d m) N Rt=Rt d m:=nr rfl
@[simp] theorem AU (N:au→Mem→Prop) (Rt:D→Mem→Prop):TriS .stk N Rt=False:=nr rfl
@[simp] theorem A4 (x:Exn) (m:Mem) (N:au→Mem→Prop) (Rt:D→Mem→Prop):TriS (.exc x m) N Rt=False:=nr rfl
@[simp] theorem A1 (η:au) (m:Mem) (N:au→Mem→Prop) (Rt:D→Mem→Prop):TriS (.brk η m) N Rt=False:=nr rfl
@[simp] theorem xx (r:RS) (f:SM) (N:au→Mem→Prop) (Rt:D→Mem→Prop):TriS (r.seq f) N Rt=TriS r (fun η m=>TriS (f η m) N Rt) Rt:=by cases r<;>rfl
@[simp] theorem wN {α:Type} (r:R α) (f:α→Mem→RS) (N:au→Mem→Prop) (Rt:D→Mem→Prop):TriS (r.toS f) N Rt=Tri r (fun a m=>TriS (f a m) N Rt):=by cases r<;>rfl
@[simp] theorem Bs {c:Prop} [Decidable c] (a b:RS) (N:au→Mem→Prop) (Rt:D→Mem→Prop):TriS (if c then a else b) N Rt=if c then TriS a N Rt else TriS b N Rt:=by split<;>rfl
theorem TriS.mono {r:RS} {N N':au→Mem→Prop} {Rt Rt':D→Mem→Prop} (h:TriS r N Rt) (k:∀ η m,N η m→N' η m) (k':∀ d m,Rt d m→Rt' d m):TriS r N' Rt':=by
 cases r with
 | nxt η m=>exact k η m h
 | ret d m=>exact k' d m h
 | _=>exact h
def TriQ (r:RS) (N B C:au→Mem→Prop) (Rt:D→Mem→Prop):Prop:=match r with
 | .nxt η m=>N η m
 | .brk η m=>B η m
 | .cnt η m=>C η m
 | .ret d m=>Rt d m
 | _=>False
section
variable (η:au) (m:Mem) (N B C:au→Mem→Prop) (Rt:D→Mem→Prop)
@[simp] theorem Bh:TriQ (.nxt η m) N B C Rt=N η m:=nr rfl
@[simp] theorem A5:TriQ (.brk η m) N B C Rt=B η m:=nr rfl
@[simp] theorem AW (d:D):TriQ (.ret d m) N B C Rt=Rt d m:=nr rfl
@[simp] theorem A0:TriQ .stk N B C Rt=False:=nr rfl
@[simp] theorem A7 (x:Exn):TriQ (.exc x m) N B C Rt=False:=nr rfl
@[simp] theorem A3 (r:RS) (f:SM):TriQ (r.seq f) N B C Rt=TriQ r (fun η m=>TriQ (f η m) N B C Rt) B C Rt:=by cases r<;>rfl
@[simp] theorem Bb {α:Type} (r:R α) (f:α→Mem→RS):TriQ (r.toS f) N B C Rt=Tri r (fun a m=>TriQ (f a m) N B C Rt):=by cases r<;>rfl
@[simp] theorem BI {c:Prop} [Decidable c] (a b:RS):TriQ (if c then a else b) N B C Rt=if c then TriQ a N B C Rt else TriQ b N B C Rt:=by split<;>rfl
end
theorem TriS.toQ {r:RS} {N B C:au→Mem→Prop} {Rt:D→Mem→Prop} (h:TriS r N Rt):TriQ r N B C Rt:=by
 cases r<;>first | exact h | exact h.elim
theorem TriQ.mono {r:RS} {N N' B B' C C':au→Mem→Prop} {Rt Rt':D→Mem→Prop} (h:TriQ r N B C Rt) (k:∀ η m,N η m→N' η m) (k2:∀ η m,B η m→B' η m) (k3:∀ η m,C η m→C' η m) (k':∀ d m,Rt d m→Rt' d m):TriQ r N' B' C' Rt':=by
 cases r with
 | nxt η m=>exact k η m h
 | brk η m=>exact k2 η m h
 | cnt η m=>exact k3 η m h
 | ret d m=>exact k' d m h
 | _=>exact h
theorem aZ {n N:Nat} {body:SM} {ds:List D} {m:Mem} {P:D→Mem→Prop} (hl:ds.length=n) (h:TriS (body (ds.map some++List.replicate (N - n) none) m) (fun _ m=>P .non m) P):Tri (mFn n N body ds m) P:=by
 unfold mFn
 rw [if_pos hl,hl]
 revert h
 generalize body (ds.map some++List.replicate (N - n) none) m=r
 intro h
 cases r<;>exact h
section
variable (η:au) (m:Mem) (a b c:EM) (g h:D→D→Mem→R D) (t u:TM) (al:Bool) (as bs:AM) (d:D) (s1 s2:SM)
def xk (m:Mem):Option (Option D)→R D
 | some (some d)=>.ok d m
 | _=>.stk
@[simp] theorem za (i:Nat):ab i η m=xk m η[i]?:=by
 unfold ab xk
 cases η[i]? with
 | none=>rfl
 | some o=>cases o<;>rfl
@[simp] theorem yB:xk m (some (some d))=.ok d m:=nr rfl
@[simp] theorem ap_c:mC d η m=.ok d m:=nr rfl
@[simp] theorem Al:mOp g a b η m=(a η m).bind fun x m1=>(b η m1).bind fun y m2=>g x y m2:=nr rfl
@[simp] theorem ap_un (g:D→Mem→R D):mUn g a η m=(a η m).bind fun x m1=>g x m1:=nr rfl
@[simp] theorem Ci:aG a η m=(a η m).bind toB:=nr rfl
@[simp] theorem toB_bl (k:Bool):toB (.bl k) m=.ok k m:=nr rfl
@[simp] theorem ap_and:jG t u η m=(t η m).bind fun x m1=>if x=true then u η m1 else .ok false m1:=nr rfl
@[simp] theorem ap_or:mOr t u η m=(t η m).bind fun x m1=>if x=true then .ok true m1 else u η m1:=nr rfl
@[simp] theorem ap_not:ir t η m=(t η m).bind fun x m1=>.ok (!x) m1:=nr rfl
@[simp] theorem B6:iy a b η m=(a η m).bind fun x m1=>(toB x m1).bind fun k m2=>if k=true then b η m2 else .ok (.bl false) m2:=nr rfl
@[simp] theorem ap_orV:wY a b η m=(a η m).bind fun x m1=>(toB x m1).bind fun k m2=>if k=true then .ok (.bl true) m2 else b η m2:=nr rfl
@[simp] theorem Cj:vp a η m=(a η m).bind fun x m1=>(toB x m1).bind fun k m2=>.ok (.bl (!k)) m2:=nr rfl
@[simp] theorem ap_if:mIf t a b η m=(t η m).bind fun k m1=>if k=true then a η m1 else b η m1:=nr rfl
@[simp] theorem AS:jT g h a b c η m=(a η m).bind fun x m1=>(b η m1).bind fun y m2=>(g x y m2).bind fun z m3=>(toB z m3).bind fun k m4=>
 if k=true then (c η m4).bind fun w m5=>h y w m5 else .ok (.bl false) m4:=rfl
@[simp] theorem ap_nil:ag η m=.ok [] m:=nr rfl
@[simp] theorem Ck:ae a as η m=(a η m).bind fun x m1=>(as η m1).bind fun xs m2=>.ok (x ::xs) m2:=nr rfl
@[simp] theorem ap_tup:bJ as η m=(as η m).bind fun xs m1=>if xs.length≤sizeLine then .ok (.tup xs) m1 else .stk:=nr rfl
@[simp] theorem ap_lst:eS al as η m=(as η m).bind fun xs m1=>if xs.length≤sizeLine then mkL al xs m1 else .stk:=nr rfl
@[simp] theorem ap_cb (g:List D→Mem→R D):mCB g as η m=(as η m).bind fun xs m1=>g xs m1:=nr rfl
@[simp] theorem vZ:je η m=.ok none m:=nr rfl
def xV:D→Mem→R (Option Int)
 | .int i,m=>.ok (some i) m
 | _,_=>.stk
@[simp] theorem vK (i:Int):xV (.int i) m=.ok (some i) m:=nr rfl
@[simp] theorem yA:m9 a η m=(a η m).bind xV:=by
 show (a η m).bind _=_
 congr
 funext x m1
 cases x<;>rfl
def rL:D→Mem→R (Src×Nat)
 | .int j,m=>if md j=true then .ok (dr (eM 0 j.toNat)) m else .stk
 | _,_=>.stk
@[simp] theorem bC (j:Int) (h0:-1000000≤j) (h1:j≤1000000):rL (.int j) m=.ok (dr (eM 0 j.toNat)) m:=by
 show (if md j=true then _ else _)=_
 rw [if_pos ((kJ j).mpr (by omega))]
@[simp] theorem BD (i:Int):wG (.int i) m=.ok (.int (-i)) m:=nr rfl
@[simp] theorem Aq (g:D→Option Int→Option Int→Mem→R D) (lo hi:OM):mSl g a lo hi η m=(a η m).bind fun x m1=>(lo η m1).bind fun l m2=>(hi η m2).bind fun u m3=>g x l u m3:=nr rfl
def pI {α:Type} (m:Mem):Option α→R α
 | some b=>.ok b m
 | none=>.stk
@[simp] theorem AN {α:Type} (b:α):pI m (some b)=.ok b m:=nr rfl
@[simp] theorem AE {α:Type}:pI m (none:Option α)=.stk:=nr rfl
@[simp] theorem ap_tru:eJ a η m=(a η m).bind fun x m1=>pI m1 (mV m1 x):=by
 show (a η m).bind _=_
 congr
 funext x m1
 cases mV m1 x<;>rfl
@[simp] theorem gR (ds:List D):mkL false ds m=.ok (.lst ds) m:=nr rfl
@[simp] theorem mkL_t (ds:List D):mkL true ds m=.ok (.ref m.length) (m++[.lst ds]):=nr rfl
@[simp] theorem Cc:aV η m=.nxt η m:=nr rfl
@[simp] theorem ap_seq:ar s1 s2 η m=(s1 η m).seq s2:=nr rfl
@[simp] theorem ap_ret:aN a η m=(a η m).toS fun d m1=>.ret d m1:=nr rfl
@[simp] theorem B1:gn a η m=(a η m).toS fun _ m1=>.nxt η m1:=nr rfl
@[simp] theorem ap_ifS:bo t s1 s2 η m=(t η m).toS fun k m1=>if k=true then s1 η m1 else s2 η m1:=nr rfl
@[simp] theorem ap_asg (g:GM):aC a g η m=(a η m).toS fun d m1=>(g d η m1).toS fun η' m2=>.nxt η' m2:=nr rfl
@[simp] theorem ap_gNm (i:Nat):gNm i d η m=.ok (η.set i (some d)) m:=nr rfl
@[simp] theorem Bv:cg [] η m=.ok η m:=nr rfl
@[simp] theorem AD (g:GM) (r:GsM) (ds:List D):aP g r (d ::ds) η m=(g d η m).bind fun η1 m1=>r ds η1 m1:=nr rfl
@[simp] theorem ap_gTp (n:Nat) (g:GsM) (ds:List D):gTp n g (.tup ds) η m=if ds.length=n then g ds η m else .stk:=nr rfl
@[simp] theorem B3:eQ a b d η m=(a η m).bind fun o m1=>(b η m1).bind fun i m2=>(ow o i d m2).bind fun _ m3=>.ok η m3:=nr rfl
@[simp] theorem BU (fm:FM):ax fm as η m=(as η m).bind fun xs m1=>noX (fm xs m1):=nr rfl
@[simp] theorem Bm (n k:Nat) (ix:List Nat) (dd:List D) (fm:FM):mH n k ix dd fm as bs η m=(as η m).bind fun xs m1=>(bs η m1).bind fun ys m2=>if xs.length=n∧ys.length=k then noX (fm (arr ix (xs++ys++dd)) m2) else .stk:=nr rfl
@[simp] theorem ap_bm (T:String) (g:D→List D→Mem→R D):mBM T g a as η m=(a η m).bind fun x m1=>if ig T m1 x=true then (as η m1).bind fun xs m2=>g x xs m2 else .stk:=nr rfl
@[simp] theorem ap_isi (T:String):eV T a η m=(a η m).bind fun d m1=>pI m1 (((ej m1 d).bind fun t=>kitB t T).map D.bl):=by
 show (a η m).bind _=_
 congr
 funext x m1
 cases (ej m1 x).bind fun t=>kitB t T<;>rfl
@[simp] theorem ap_it:mIt a η m=(a η m).bind fun d m1=>pI m1 (srcOf m1 d):=by
 show (a η m).bind _=_
 congr
 funext x m1
 cases srcOf m1 x<;>rfl
@[simp] theorem BM:dc a η m=(a η m).bind rL:=by
 show (a η m).bind _=_
 congr
 funext x m1
 cases x<;>rfl
@[simp] theorem zy:bz η m=.ok true m:=nr rfl
end
def eU (g:GM) (body:SM):List D→au→Mem→RS
 | [],η,m=>.nxt η m
 | d ::ds,η,m=>(g d η m).toS fun η1 m1=>match body η1 m1 with
  | .nxt η2 m2=>eU g body ds η2 m2
  | .cnt η2 m2=>eU g body ds η2 m2
  | .brk η2 m2=>.nxt η2 m2
  | r=>r
theorem qH (g:GM) (body:SM) (ds:List D):∀ (rest pre:List D) (η:au) (m:Mem),ds=pre++rest→bH (d6 ds) g body rest.length pre.length η m=eU g body rest η m
 | [],pre,η,m,e=>by
  have hd:ds[pre.length]?=none:=by rw [e,List.append_nil]; exact List.getElem?_eq_none (Nat.le_refl _)
  show bH (d6 ds) g body 0 pre.length η m=_
  unfold bH eU
  simp only [d6,hd]
 | d ::rest,pre,η,m,e=>by
  have hd:ds[pre.length]?=some d:=by rw [e,List.getElem?_append_right (Nat.le_refl _),Nat.sub_self]; rfl
  have ih:=qH g body ds rest (pre++[d])
  unfold eU
  rw [List.length_cons]
  unfold bH
  simp only [d6,hd]
  cases g d η m with
  | ok η1 m1=>
   simp only [oO]
   cases body η1 m1 with
   | nxt η2 m2=>
    have:=ih η2 m2 (by rw [e]; simp)
    rw [List.length_append] at this
    exact this
   | cnt η2 m2=>
    have:=ih η2 m2 (by rw [e]; simp)
    rw [List.length_append] at this
    exact this
   | _=>rfl
  | _=>rfl
theorem uF (g:GM) (body:SM) (ds:List D) (η:au) (m:Mem):bH (d6 ds) g body ds.length 0 η m=eU g body ds η m:=qH g body ds ds [] η m rfl
def bD (g:GM) (t:TM) (e:EM) (η:au):List D→Mem→List D→R (List D)
 | [],m,acc=>.ok acc m
 | d ::ds,m,acc=>(noX (g d η m)).bind fun η1 m1=>(noX (t η1 m1)).bind fun b m2=>
   if b=true then (noX (e η1 m2)).bind fun y m3=>if acc.length < sizeLine then bD g t e η ds m3 (acc++[y]) else .stk
   else bD g t e η ds m2 acc
theorem qT (g:GM) (t:TM) (e:EM) (η:au) (ds:List D):∀ (rest pre:List D) (m:Mem) (acc:List D),ds=pre++rest→bF (d6 ds) g t e η rest.length pre.length m acc=bD g t e η rest m acc
 | [],pre,m,acc,h=>by
  have hd:ds[pre.length]?=none:=by rw [h,List.append_nil]; exact List.getElem?_eq_none (Nat.le_refl _)
  show bF (d6 ds) g t e η 0 pre.length m acc=_
  unfold bF bD
  simp only [d6,hd]
 | d ::rest,pre,m,acc,h=>by
  have hd:ds[pre.length]?=some d:=by rw [h,List.getElem?_append_right (Nat.le_refl _),Nat.sub_self]; rfl
  have ih:=qT g t e η ds rest (pre++[d])
  unfold bD
  rw [List.length_cons]
  unfold bF
  simp only [d6,hd]
  cases noX (g d η m) with
  | ok η1 m1=>
   simp only [bV]
   cases noX (t η1 m1) with
   | ok b m2=>
    simp only [bV]
    cases b with
    | false=>
     rw [if_neg Bool.false_ne_true,if_neg Bool.false_ne_true]
     have:=ih m2 acc (by rw [h]; simp)
     rw [List.length_append] at this
     exact this
    | true=>
     rw [if_pos rfl,if_pos rfl]
     cases noX (e η1 m2) with
     | ok y m3=>
      simp only [bV]
      split
      ·have:=ih m3 (acc++[y]) (by rw [h]; simp)
       rw [List.length_append] at this
       exact this
      ·rfl
     | _=>rfl
   | _=>rfl
  | _=>rfl
theorem vX (g:GM) (t:TM) (e:EM) (η:au) (ds:List D) (m:Mem) (acc:List D):bF (d6 ds) g t e η ds.length 0 m acc=bD g t e η ds m acc:=qT g t e η ds ds [] m acc rfl
@[simp] theorem ap_lc (vs:List Nat) (al:Bool) (ci:IM) (g:GM) (t:TM) (e:EM) (η:au) (m:Mem):mLc vs al ci g t e η m=(ci η m).bind fun p m1=>(bF p.1 g t e (aR η vs) p.2 0 m1 []).bind fun acc m2=>mkL al acc m2:=nr rfl
@[simp] theorem ap_for (ci:IM) (g:GM) (body:SM) (η:au) (m:Mem):fF ci g body η m=(ci η m).toS fun p m1=>bH p.1 g body p.2 0 η m1:=nr rfl
@[simp] theorem ko (lo:Int) (n:Nat):(eM lo n).length=n:=by unfold eM; rw [List.length_map,List.length_range]
@[simp] theorem BV (g:GM) (t:TM) (e:EM) (η:au) (ds:List D) (m:Mem) (acc:List D):bF (dr ds).1 g t e η (dr ds).2 0 m acc=bD g t e η ds m acc:=vX g t e η ds m acc
@[simp] theorem tF (g:GM) (body:SM) (ds:List D) (η:au) (m:Mem):bH (dr ds).1 g body (dr ds).2 0 η m=eU g body ds η m:=uF g body ds η m
@[simp] theorem AK (m:Mem) (ds:List D):srcOf m (.tup ds)=some (dr ds):=nr rfl
@[simp] theorem Ay (m:Mem) (ds:List D):srcOf m (.lst ds)=some (dr ds):=nr rfl
@[simp] theorem AL (m:Mem) (ds:List D):srcOf m (.scr ds)=some (dr ds):=nr rfl
@[simp] theorem Ax (m:Mem) (x:Str):srcOf m (.str x)=some (dr (chD x)):=nr rfl
theorem uU (x:Str):(chD x).length=x.length:=by unfold chD; simp [Str.length]
theorem y7 {x:Str} {d:D} (h:d∈chD x):∃ c∈x.cps.toList,d=.str ⟨#[c]⟩:=by
 obtain ⟨c,h1,rfl⟩:=List.mem_map.mp h
 exact ⟨c,h1,rfl⟩
def sgn:D→Nat
 | .str y=>y.cps.getD 0 0
 | _=>0
theorem y4 {α:Type} (x:Str) (f:Nat→α):(chD x).map (fun d=>f (sgn d))=x.cps.toList.map f:=by
 unfold chD
 rw [List.map_map]
 rfl
theorem comp_map {g:GM} {t:TM} {e:EM} {η:au} {m:Mem} (f:D→D):∀ (ds acc:List D),(∀ d∈ds,∃ η1,g d η m=.ok η1 m∧t η1 m=.ok true m∧e η1 m=.ok (f d) m)→acc.length+ds.length≤sizeLine→bD g t e η ds m acc=.ok (acc++ds.map f) m
 | [],acc,_,_=>by simp [bD]
 | d ::ds,acc,h,hl=>by
  obtain ⟨η1,h1,h2,h3⟩:=h d List.mem_cons_self
  have hlt:acc.length < sizeLine:=by simp at hl; omega
  unfold bD
  simp only [h1,h2,h3,iF,bV,if_true,hlt]
  rw [comp_map f ds (acc++[f d]) (fun x hx=>h x (List.mem_cons_of_mem _ hx)) (by simp at hl ⊢; omega)]
  simp
theorem qJ {g:GM} {t:TM} {e:EM} {η:au} (I:Nat→Mem→List D→Prop) (n:Nat):∀ (ds:List D) (i:Nat) (m:Mem) (acc:List D),i+ds.length=n→I i m acc→(∀ j d m acc,d∈ds→j < n→I j m acc→Tri ((noX (g d η m)).bind fun η1 m1=>(noX (t η1 m1)).bind fun b m2=>
   if b=true then (noX (e η1 m2)).bind fun y m3=>if acc.length < sizeLine then .ok (acc++[y]) m3 else .stk else .ok acc m2) (fun acc' m'=>I (j+1) m' acc'))→Tri (bD g t e η ds m acc) (fun acc' m'=>I n m' acc')
 | [],i,m,acc,hn,h0,_=>by
  have:i=n:=hn
  subst this
  exact h0
 | d ::ds,i,m,acc,hn,h0,h=>by
  rw [List.length_cons] at hn
  have h1:=h i d m acc List.mem_cons_self (by omega) h0
  have ih:=fun m2 acc q=>qJ I n ds (i+1) m2 acc (by omega) q fun j d m acc hd=>h j d m acc (List.mem_cons_of_mem _ hd)
  unfold bD
  rw [fH] at h1 ⊢
  refine h1.mono fun η1 m1 h2=>?_
  rw [fH] at h2 ⊢
  refine h2.mono fun b m2 h3=>?_
  cases b with
  | false=>exact ih m2 acc h3
  | true=>
   rw [if_pos rfl] at h3 ⊢
   rw [fH] at h3 ⊢
   refine h3.mono fun y m3 h4=>?_
   split at h4
   ·rename_i hlt
    rw [if_pos hlt]
    exact ih m3 _ h4
   ·exact h4.elim
theorem tJ {g:GM} {t:TM} {e:EM} {η:au} {m:Mem} (I:Nat→Mem→List D→Prop) (ds:List D) (h0:I 0 m []) (h:∀ j d m acc,d∈ds→j < ds.length→I j m acc→Tri ((noX (g d η m)).bind fun η1 m1=>(noX (t η1 m1)).bind fun b m2=>
   if b=true then (noX (e η1 m2)).bind fun y m3=>if acc.length < sizeLine then .ok (acc++[y]) m3 else .stk else .ok acc m2) (fun acc' m'=>I (j+1) m' acc')):Tri (bD g t e η ds m []) (fun acc' m'=>I ds.length m' acc'):=
 qJ I ds.length ds 0 m [] (by omega) h0 h
theorem rT {g:GM} {body:SM} (I:Nat→au→Mem→Prop) (B:au→Mem→Prop) (Rt:D→Mem→Prop) (n:Nat):∀ (ds:List D) (i:Nat) (η:au) (m:Mem),i+ds.length=n→I i η m→(∀ j d η m,ds[j - i]?=some d→i≤j→j < n→I j η m→Tri (g d η m) (fun η1 m1=>TriQ (body η1 m1) (I (j+1)) B (I (j+1)) Rt))→(∀ η m,I n η m→B η m)→TriS (eU g body ds η m) B Rt
 | [],i,η,m,hn,h0,_,hB=>by
  have:i=n:=hn
  subst this
  exact hB η m h0
 | d ::ds,i,η,m,hn,h0,h,hB=>by
  rw [List.length_cons] at hn
  have h1:=h i d η m (by rw [Nat.sub_self]; rfl) (Nat.le_refl _) (by omega) h0
  have ih:=fun η2 m2 q=>rT I B Rt n ds (i+1) η2 m2 (by omega) q (fun j d η m hd hj=>h j d η m (by
   rw [show j - i=(j - (i+1))+1 by omega]
   exact hd) (by omega)) hB
  unfold eU
  cases hg:g d η m with
  | ok η1 m1=>
   rw [hg] at h1
   simp only [bK,oO] at h1 ⊢
   cases hb:body η1 m1 with
   | nxt η2 m2=>rw [hb] at h1; exact ih η2 m2 h1
   | cnt η2 m2=>rw [hb] at h1; exact ih η2 m2 h1
   | brk η2 m2=>rw [hb] at h1; exact h1
   | ret d m2=>rw [hb] at h1; exact h1
   | exc x m2=>rw [hb] at h1; exact h1.elim
   | stk=>rw [hb] at h1; exact h1.elim
  | exc x m1=>rw [hg] at h1; exact h1.elim
  | stk=>rw [hg] at h1; exact h1.elim
theorem dJ {g:GM} {body:SM} {η:au} {m:Mem} {B:au→Mem→Prop} {Rt:D→Mem→Prop} (I:Nat→au→Mem→Prop) (ds:List D) (h0:I 0 η m) (h:∀ j d η m,ds[j]?=some d→I j η m→Tri (g d η m) (fun η1 m1=>TriQ (body η1 m1) (I (j+1)) B (I (j+1)) Rt)) (hB:∀ η m,I ds.length η m→B η m):TriS (eU g body ds η m) B Rt:=
 rT I B Rt ds.length ds 0 η m (by omega) h0 (fun j d η m hd _ _=>h j d η m (by simpa using hd)) hB
def ye (l:List D):Prop:=∃ (ns:List Int) (p g x c:Int),l=[.lst (ns.map .int),.int p,.int g,.int x,.int c]∧0≤p∧0≤g∧0≤x∧x < 2147483647
def FlowAt (m:Mem) (i:Nat):Prop:=∃ l,m[i]?=some (.lst l)∧ye l
def FlowTo (m m':Mem) (i:Nat):Prop:=∃ l,ye l∧m'=m.set i (.lst l)
theorem FlowAt.lt {m:Mem} {i:Nat} (h:FlowAt m i):i < m.length:=by
 obtain ⟨l,e,_⟩:=h
 exact (List.getElem?_eq_some_iff.mp e).1
theorem FlowTo.at {m m':Mem} {i:Nat} (h:FlowTo m m' i) (hi:FlowAt m i):FlowAt m' i:=by
 obtain ⟨l,h1,rfl⟩:=h
 exact ⟨l,List.getElem?_set_self hi.lt,h1⟩
theorem xE {a b:Int} (h:0 < b):a.fmod b=a % b:=Int.fmod_eq_emod_of_nonneg a (Int.le_of_lt h)
theorem wR {a b:Int} (h:0 < b):a.fdiv b=a / b:=Int.fdiv_eq_ediv_of_nonneg a (Int.le_of_lt h)
end Mir
namespace Mir
open PySem PySem.Spec PyProof.Rows L2
def oE:SM:=
  (ar (bo (aG (mOp gGt (mOp gIx (ab 0) (mC (.int 2))) (mC (.int 0)))) (ar (aC (mOp eA (mOp gIx (ab 0) (mC (.int 2))) (ab 1)) (gNm 3))
  (ar (aC (mOp i8 (mOp gIx (ab 0) (mC (.int 2))) (ab 1)) (eQ (ab 0) (mC (.int 2))))
  (aN (ab 3)))) aV)
  (ar (aC (mOp (bp false) (mOp gIx (ab 0) (mC (.int 4))) (mC (.int 1))) (eQ (ab 0) (mC (.int 4))))
  (ar (aC (mOp eA (mOp (bp false) (mOp (bp false) (mOp eN (mOp gIx (ab 0) (mC (.int 3))) (mC (.int 48271))) (mC (.int 12820163))) (mOp gIx (ab 0) (mC (.int 4)))) (mC (.int 2147483647))) (eQ (ab 0) (mC (.int 3))))
  (aN (mOp eA (mOp i8 (mOp eA (mOp eN (mOp (bp false) (mOp eA (mOp gIx (ab 0) (mC (.int 3))) (mC (.int 65521))) (mC (.int 1))) (mOp (bp false) (mOp i8 (mOp gIx (ab 0) (mC (.int 3))) (mC (.int 65521))) (mC (.int 7919)))) (mC (.int 1000003))) (mC (.int 7))) (ab 1))))))
def nq:SM:=
  (bo (jG (aG (mOp (gEq false) (mOp gIx (ab 0) (mC (.int 2))) (mC (.int 0)))) (aG (mOp gLt (mOp gIx (ab 0) (mC (.int 1))) (mCB aU (ae (mOp gIx (ab 0) (mC (.int 0))) ag))))) (ar (aC (mOp gIx (mOp gIx (ab 0) (mC (.int 0))) (mOp gIx (ab 0) (mC (.int 1)))) (gNm 2))
  (ar (aC (mOp (bp false) (mOp gIx (ab 0) (mC (.int 1))) (mC (.int 1))) (eQ (ab 0) (mC (.int 1))))
  (bo (aG (mOp gGe (ab 2) (mOp tL (mC (.int 10)) (mC (.int 18))))) (aC (ab 2) (eQ (ab 0) (mC (.int 2)))) (aC (mOp eA (mOp (bp false) (mOp (bp false) (mOp eN (mOp gIx (ab 0) (mC (.int 3))) (mC (.int 40013))) (mOp eA (ab 2) (mC (.int 1000003)))) (mC (.int 1))) (mC (.int 2147483647))) (eQ (ab 0) (mC (.int 3))))))) aV)
def yb:SM:=ar nq oE
theorem cK {m:Mem} {i:Nat} {l:List D} {k:Int} {d:D} (h:m[i]?=some (.lst l)) (hk:atI l k=some d):gIx (.ref i) (.int k) m=.ok d m:=by
 show oR m ((bW m[i]?).bind fun ds=>atI ds k)=_
 rw [h]
 show oR m (atI l k)=_
 rw [hk]
 rfl
theorem oh {m:Mem} {i:Nat} {l:List D} {k:Int} {j:Nat} {d:D} (h:m[i]?=some (.lst l)) (hk:ixN l.length k=some j):ow (.ref i) (.int k) d m=.ok () (m.set i (.lst (l.set j d))):=by
 show vn m i k d=_
 unfold vn
 rw [h]
 simp only [bW,hk]
@[simp] theorem Cv (neg:Bool) (i j:Int) (m:Mem):gEq neg (.int i) (.int j) m=.ok (.bl (decide (i=j)^^neg)) m:=by
 simp [gEq,cn,scal]
@[simp] theorem Be (f:Int→Int→Bool) (h:List Nat→List Nat→Bool) (i j:Int) (m:Mem):kn f h (.int i) (.int j) m=.ok (.bl (f i j)) m:=nr rfl
@[simp] theorem Bg (i j:Int) (m:Mem):gSub (.int i) (.int j) m=.ok (.int (i - j)) m:=nr rfl
theorem jA {i j:Int} {m:Mem} (h:0 < j):eA (.int i) (.int j) m=.ok (.int (i % j)) m:=by
 show (if j=0 then R.stk else R.ok (D.int (i.fmod j)) m)=_
 rw [if_neg (by omega),xE h]
theorem my {i j:Int} {m:Mem} (h:0 < j) (hb:j.natAbs.log2 < 9000):i8 (.int i) (.int j) m=.ok (.int (i / j)) m:=by
 show (if ng j then R.ok (D.int (i.fdiv j)) m else R.stk)=_
 rw [if_pos ⟨by omega,hb⟩,wR h]
theorem tP {i j:Int} {m:Mem} (h:j.natAbs < 2^64):eN (.int i) (.int j) m=.ok (.int (i*j)) m:=by
 show (if kZ i j then R.ok (D.int (i*j)) m else R.stk)=_
 rw [if_pos (.inr (.inl h))]
theorem pZ {m:Mem} {d:D} {n:Nat} (h:lenOf m d=some n):aU [d] m=.ok (.int n) m:=by
 unfold aU
 simp only [h]
theorem xX (m:Mem):tL (.int 10) (.int 18) m=.ok (.int 1000000000000000000) m:=by
 show (if oA 10 18 then R.ok (D.int ((10:Int)^(18:Int).toNat)) m else R.stk)=_
 rw [if_pos (by decide)]
 rfl
theorem vT {m:Mem} {i:Nat} {n:Int} (hf:FlowAt m i) (hn:0 < n) (hb:n.natAbs.log2 < 9000):Tri (mFn 2 4 yb [.ref i,.int n] m) (fun d m'=>∃ k:Int,d=.int k∧0≤k∧k < n∧FlowTo m m' i):=by
 have hlt:=hf.lt
 obtain ⟨l,hm,ns,p,g,x,c,rfl,hp,hg,hx,hx2⟩:=hf
 refine aZ rfl ?_
 have ix0:∀ (a b c d e:D),atI [a,b,c,d,e] 0=some a:=fun _ _ _ _ _=>rfl
 have ix1:∀ (a b c d e:D),atI [a,b,c,d,e] 1=some b:=fun _ _ _ _ _=>rfl
 have ix2:∀ (a b c d e:D),atI [a,b,c,d,e] 2=some c:=fun _ _ _ _ _=>rfl
 have ix3:∀ (a b c d e:D),atI [a,b,c,d,e] 3=some d:=fun _ _ _ _ _=>rfl
 have ix4:∀ (a b c d e:D),atI [a,b,c,d,e] 4=some e:=fun _ _ _ _ _=>rfl
 have hs:∀ l,(m.set i (.lst l))[i]?=some (.lst l):=fun l=>List.getElem?_set_self hlt
 have se:∀ (k:Int) (j:Nat) (a b c d e y:D),ixN 5 k=some j→ow (.ref i) (.int k) y (m.set i (.lst [a,b,c,d,e]))=.ok () (m.set i (.lst ([a,b,c,d,e].set j y))):=fun k j a b c d e y h=>by
  rw [oh (l:=[a,b,c,d,e]) (hs _) (j:=j) h,List.set_set]
 have s1:=fun a b c d e y=>se 1 1 a b c d e y rfl
 have s2:=fun a b c d e y=>se 2 2 a b c d e y rfl
 have s3:=fun a b c d e y=>se 3 3 a b c d e y rfl
 have s4:=fun a b c d e y=>se 4 4 a b c d e y rfl
 have md1:=fun i m=>@jA i 2147483647 m (by decide)
 have md2:=fun i m=>@jA i 65521 m (by decide)
 have md3:=fun i m=>@jA i 1000003 m (by decide)
 have dv1:=fun i m=>@my i 65521 m (by decide) (by decide)
 have dv2:=fun i m=>@my i 7 m (by decide) (by decide)
 have ml1:=fun i m=>@tP i 48271 m (by decide)
 have ml2:=fun i m=>@tP i 40013 m (by decide)
 have mdn:=fun i m=>@jA i n m hn
 have dvn:=fun i m=>@my i n m hn hb
 have part2:∀ (g x c p:Int) (e2 e3:Option D),0≤p→0≤g→0≤x→x < 2147483647→TriS (oE [some (.ref i),some (.int n),e2,e3] (m.set i (.lst [.lst (ns.map .int),.int p,.int g,.int x,.int c]))) (fun _ m'=>False) (fun d m'=>∃ k:Int,d=.int k∧0≤k∧k < n∧FlowTo m m' i):=by
  intro g x c p e2 e3 hp hg hx hx2
  have hy0:0≤(x*48271+12820163+(c+1)) % 2147483647:=Int.emod_nonneg _ (by decide)
  have hy1:(x*48271+12820163+(c+1)) % 2147483647 < 2147483647:=Int.emod_lt_of_pos _ (by decide)
  have ml3:∀ i m,eN (.int i) (.int ((x*48271+12820163+(c+1)) % 2147483647 / 65521+7919)) m=.ok (.int (i*((x*48271+12820163+(c+1)) % 2147483647 / 65521+7919))) m:=fun i m=>tP (by omega)
  by_cases h0:0 < g
  ·simp [oE,cK (hs _) (ix2 _ _ _ _ _),h0,mdn,dvn,s2]
   exact ⟨Int.emod_nonneg _ (by omega),Int.emod_lt_of_pos _ hn,_,⟨ns,p,g / n,x,c,rfl,hp,Int.ediv_nonneg hg (by omega),hx,hx2⟩,rfl⟩
  ·simp [oE,cK (hs _) (ix2 _ _ _ _ _),cK (hs _) (ix3 _ _ _ _ _),cK (hs _) (ix4 _ _ _ _ _),h0,mdn,s3,s4,md1,md2,md3,dv1,dv2,ml1,ml3]
   exact ⟨Int.emod_nonneg _ (by omega),Int.emod_lt_of_pos _ hn,_,⟨ns,p,g,_,c+1,rfl,hp,hg,hy0,hy1⟩,rfl⟩
 have m0:m=m.set i (.lst [.lst (ns.map .int),.int p,.int g,.int x,.int c]):=by
  apply List.ext_getElem?
  intro j
  by_cases hj:i=j
  ·subst hj
   rw [hm,hs]
  ·rw [List.getElem?_set_ne hj]
 have fin:∀ {N:au→Mem→Prop} {r:RS} {Q:D→Mem→Prop},TriS r (fun _ _=>False) Q→TriS r N Q:=fun h=>h.mono (fun _ _ z=>z.elim) (fun _ _ z=>z)
 show TriS ((nq _ m).seq oE) _ _
 rw [xx]
 have len0:lenOf m (.lst (ns.map D.int))=some ns.length:=by show some (ns.map D.int).length=_; rw [List.length_map]
 have bl:=pZ len0
 have t1:∀ y,ow (.ref i) (.int 1) y m=.ok () (m.set i (.lst [.lst (ns.map .int),y,.int g,.int x,.int c])):=fun y=>oh hm (j:=1) rfl
 have h0:=cK hm (ix0 _ _ _ _ _)
 have h1:=cK hm (ix1 _ _ _ _ _)
 have h2:=cK hm (ix2 _ _ _ _ _)
 by_cases hg0:g=0
 ·subst hg0
  by_cases hpl:p < (ns.length:Int)
  ·
   have hat:atI (ns.map D.int) p=some (.int (ns[p.toNat]'(by omega))):=by
    unfold atI ixN
    rw [List.length_map,if_pos hp,if_pos hpl]
    simp only [Option.bind_some,List.getElem?_map]
    rw [List.getElem?_eq_getElem (by omega)]
    rfl
   generalize ns[p.toNat]'(by omega)=cell at hat
   have hix:gIx (.lst (ns.map D.int)) (.int p) m=.ok (.int cell) m:=by
    show oR m ((some (ns.map D.int)).bind fun ds=>atI ds p)=_
    simp only [Option.bind_some,hat]
    rfl
   by_cases hc:(1000000000000000000:Int)≤cell
   ·simp [nq,h0,h1,h2,bl,hpl,hix,t1,xX,hc,s2]
    exact fin (part2 cell x c (p+1) _ _ (by omega) (by omega) hx hx2)
   ·simp [nq,h0,h1,h2,bl,hpl,hix,t1,xX,hc,cK (hs _) (ix3 _ _ _ _ _),ml2,md1,md3,s3]
    exact fin (part2 0 _ c (p+1) _ _ (by omega) (by omega) (Int.emod_nonneg _ (by decide)) (Int.emod_lt_of_pos _ (by decide)))
  ·simp [nq,h0,h1,h2,bl,hpl]
   have q:=part2 0 x c p none none hp (by omega) hx hx2
   rw [←m0] at q
   exact fin q
 ·simp [nq,h2,hg0]
  have q:=part2 g x c p none none hp hg hx hx2
  rw [←m0] at q
  exact fin q
end Mir
namespace Mir
open PySem PySem.Spec PyProof.Rows L2 PySem.NumText
theorem wQ (x y:Str):(x++y).length=x.length+y.length:=by
 show (x.cps++y.cps).size=_
 rw [Array.size_append]; rfl
theorem size_le {n:Nat} (h:n≤1000000):n≤sizeLine:=Nat.le_trans h (by decide)
theorem ie {n:Nat} (h:n < 1000000):n < sizeLine:=Nat.lt_of_lt_of_le h (by decide)
theorem uI (x:Str):x.cps.toList.length=x.length:=by simp [Str.length]
theorem nF:∀ cs:List Nat,TL.joinL [] (cs.map fun c=>[c])=cs
 | []=>rfl
 | [c]=>rfl
 | c ::d ::r=>by
  show [c]++([]++TL.joinL [] ((d ::r).map fun c=>[c]))=_
  rw [nF (d ::r)]; rfl
theorem uY (cs:List Nat):(Txt.join (Str.ofString "") (cs.map fun c=>(⟨#[c]⟩:Str)))=⟨cs.toArray⟩:=by
 have h:=SX.join_S [] (cs.map fun c=>[c])
 rw [nF] at h
 rw [List.map_map] at h
 exact h
theorem cL {α β γ:Type} {f:β→Option γ} {g:α→β} {h:α→γ} (hf:∀ x,f (g x)=some (h x)):∀ l:List α,aF f (l.map g)=some (l.map h)
 | []=>rfl
 | x ::l=>by
  rw [List.map_cons,List.map_cons]
  unfold aF
  rw [hf x,cL hf l]
theorem uX (cs:List Nat):aF Mir.strOf (cs.map fun c=>D.str ⟨#[c]⟩)=some (cs.map fun c=>(⟨#[c]⟩:Str)):=cL (f:=Mir.strOf) (g:=fun c=>D.str ⟨#[c]⟩) (h:=fun c=>(⟨#[c]⟩:Str)) (fun _=>rfl) cs
theorem uZ (bs:List Bool):aF boolOf (bs.map .bl)=some bs:=by
 have:=cL (f:=boolOf) (g:=D.bl) (h:=id) (fun _=>rfl) bs
 rw [List.map_id] at this
 exact this
theorem r7:∀ cs:List Nat,(List.map (fun x=>x.length) (cs.map fun c=>(⟨#[c]⟩:Str))).sum=cs.length
 | []=>rfl
 | c ::cs=>by
  rw [List.map_cons,List.map_cons,List.sum_cons,r7 cs,List.length_cons]
  show 1+cs.length=_
  omega
theorem ud {m:Mem} {cs:List Nat} (h:cs.length≤1000000):kM (.str (Str.ofString "")) [.lst (cs.map fun c=>D.str ⟨#[c]⟩)] m=.ok (.str ⟨cs.toArray⟩) m:=by
 unfold kM
 simp only [fx,ba,Option.bind_some,uX]
 rw [if_pos,uY]
 rw [r7,List.length_map]
 show cs.length+cs.length*0≤_
 omega
theorem jC {al:Bool} {x y:Str} {m:Mem} (h:x.length+y.length≤1000000):bp al (.str x) (.str y) m=.ok (.str (x++y)) m:=by
 show (if x.length+y.length≤sizeLine then R.ok (D.str (x++y)) m else R.stk)=_
 rw [if_pos (size_le h)]
theorem ug {al:Bool} {x:Str} {lo hi:Option Int} {m:Mem} (h:x.length≤1000000):gSl al (.str x) lo hi m=.ok (.str (cutS x lo hi)) m:=by
 show (if x.length≤sizeLine then R.ok (D.str (cutS x lo hi)) m else R.stk)=_
 rw [if_pos (size_le h)]
theorem rW {x:Str} {m:Mem} (h:x.length≤1000000):aU [.str x] m=.ok (.int x.length) m:=pZ (show (if x.length≤sizeLine then some x.length else none)=_ by rw [if_pos (size_le h)])
@[simp] theorem BF (ds:List D) (m:Mem):aU [.lst ds] m=.ok (.int ds.length) m:=nr rfl
@[simp] theorem AY (ds:List D) (m:Mem):aU [.tup ds] m=.ok (.int ds.length) m:=nr rfl
theorem yV {x:Str} {k:Int} {m:Mem} {c:Nat} (h:x.length≤1000000) (hc:atI x.cps.toList k=some c):gIx (.str x) (.int k) m=.ok (.str ⟨#[c]⟩) m:=by
 show oR m (if x.length≤sizeLine then (atI x.cps.toList k).map fun c=>D.str ⟨#[c]⟩ else none)=_
 rw [if_pos (size_le h),hc]
 rfl
theorem jj {l:List D} {k:Int} {m:Mem} {d:D} (hc:atI l k=some d):gIx (.lst l) (.int k) m=.ok d m:=by
 show oR m (atI l k)=_
 rw [hc]; rfl
theorem gb {l:List D} {k:Int} {m:Mem} {d:D} (hc:atI l k=some d):gIx (.tup l) (.int k) m=.ok d m:=by
 show oR m (atI l k)=_
 rw [hc]; rfl
theorem sE {x:Str}:∀ ys:List Str,inV (.str x) (ys.map V.str)=decide (x∈ys)
 | []=>by simp [inV]
 | y ::ys=>by
  have ih:=sE (x:=x) ys
  unfold inV at ih ⊢
  rw [List.map_cons,List.any_cons,ih]
  show ((y ==x) || decide (x∈ys))=_
  by_cases h:y=x
  ·subst h; simp
  ·simp [h,Ne.symm h]
theorem qx (ys:List Str):aF cn (ys.map D.str)=some (ys.map V.str):=cL (f:=cn) (g:=D.str) (h:=V.str) (fun _=>rfl) ys
theorem iL {x:Str} {ys:List Str} {neg:Bool} {m:Mem}:gIn neg (.str x) (.tup (ys.map .str)) m=.ok (.bl (decide (x∈ys)^^neg)) m:=by
 show bR neg m (gT (.str x) (ys.map .str))=_
 unfold gT
 simp only [cn,qx,sE]
 rfl
@[simp] theorem Bf {c:Nat} {y:Str} {neg:Bool} {m:Mem}:gIn neg (.str ⟨#[c]⟩) (.str y) m=.ok (.bl (decide (c∈y.cps.toList)^^neg)) m:=nr rfl
@[simp] theorem S_eq {a b:List Nat}:((SX.S a:Str)=SX.S b)=(a=b):=propext ⟨SX.S_inj,fun e=>by rw [e]⟩
@[simp] theorem Bx (a:List Nat):(SX.S a).length=a.length:=SX.S_len a
@[simp] theorem Ca (b:Bool) (m:Mem):jn [.bl b] m=.ok (.int (if b then 1 else 0)) m:=nr rfl
@[simp] theorem yj (m:Mem) (b:Bool):mV m (.bl b)=some b:=nr rfl
@[simp] theorem BX (d:D) (neg:Bool) (m:Mem):gIs neg d .non m=.ok (.bl (isNon d^^neg)) m:=nr rfl
theorem wd {t:TM} {body:SM} {N:au→Mem→Prop} {Rt:D→Mem→Prop} (I:Nat→au→Mem→Prop) (h:∀ n η m,I n η m→Tri (t η m) (fun b m1=>if b=true then TriS (body η m1) (fun η2 m2=>∃ k,k < n∧I k η2 m2) Rt else N η m1)):∀ (f n:Nat) (η:au) (m:Mem),n < f→I n η m→TriS (mWh t body f η m) N Rt
 | 0,n,η,m,hn,_=>by omega
 | f+1,n,η,m,hn,hi=>by
  have h1:=h n η m hi
  unfold mWh
  rw [wN]
  refine h1.mono fun b m1 h2=>?_
  cases b with
  | false=>exact h2
  | true=>
   rw [if_pos rfl] at h2 ⊢
   cases hb:body η m1 with
   | nxt η2 m2=>
    rw [hb] at h2
    obtain ⟨k,hk,hi2⟩:=h2
    exact wd I h f k η2 m2 (by omega) hi2
   | ret d m2=>rw [hb] at h2; exact h2
   | cnt η2 m2=>rw [hb] at h2; exact h2.elim
   | brk η2 m2=>rw [hb] at h2; exact h2.elim
   | exc x m2=>rw [hb] at h2; exact h2.elim
   | stk=>rw [hb] at h2; exact h2.elim
end Mir
namespace Mir
open PySem PySem.Spec PyProof.Rows L2
@[simp] theorem szl0:(0≤sizeLine)=True:=eq_true (size_le (by decide))
@[simp] theorem szl1:(1≤sizeLine)=True:=eq_true (size_le (by decide))
@[simp] theorem szl2:(2≤sizeLine)=True:=eq_true (size_le (by decide))
@[simp] theorem szl3:(3≤sizeLine)=True:=eq_true (size_le (by decide))
@[simp] theorem szl4:(4≤sizeLine)=True:=eq_true (size_le (by decide))
@[simp] theorem szl5:(5≤sizeLine)=True:=eq_true (size_le (by decide))
@[simp] theorem szl6:(6≤sizeLine)=True:=eq_true (size_le (by decide))
@[simp] theorem szl7:(7≤sizeLine)=True:=eq_true (size_le (by decide))
@[simp] theorem szl8:(8≤sizeLine)=True:=eq_true (size_le (by decide))
@[simp] theorem szl9:(9≤sizeLine)=True:=eq_true (size_le (by decide))
@[simp] theorem szl10:(10≤sizeLine)=True:=eq_true (size_le (by decide))
@[simp] theorem szl11:(11≤sizeLine)=True:=eq_true (size_le (by decide))
@[simp] theorem szl12:(12≤sizeLine)=True:=eq_true (size_le (by decide))
@[simp] theorem szl13:(13≤sizeLine)=True:=eq_true (size_le (by decide))
@[simp] theorem szl14:(14≤sizeLine)=True:=eq_true (size_le (by decide))
@[simp] theorem szl15:(15≤sizeLine)=True:=eq_true (size_le (by decide))
@[simp] theorem szl16:(16≤sizeLine)=True:=eq_true (size_le (by decide))
@[simp] theorem szl17:(17≤sizeLine)=True:=eq_true (size_le (by decide))
@[simp] theorem szl18:(18≤sizeLine)=True:=eq_true (size_le (by decide))
@[simp] theorem szl19:(19≤sizeLine)=True:=eq_true (size_le (by decide))
@[simp] theorem szl20:(20≤sizeLine)=True:=eq_true (size_le (by decide))
@[simp] theorem BC (ds:List D) (m:Mem):ig "list" m (.lst ds)=true:=nr rfl
@[simp] theorem A8 (ds:List D) (m:Mem):ig "tuple" m (.tup ds)=true:=nr rfl
@[simp] theorem Bn (x:Str) (m:Mem):ig "str" m (.str x)=true:=nr rfl
theorem cu {m:Mem} {j:Nat} {l:List D} (h:m[j]?=some (.lst l)):ig "list" m (.ref j)=true:=by
 show ("list" =="list" && (bW m[j]?).isSome)=true
 rw [h]
 rfl
theorem cx {m:Mem} {j:Nat} {l:List D} (h:m[j]?=some (.lst l)):aU [.ref j] m=.ok (.int (l.length:Nat)) m:=by
 have:lenOf m (.ref j)=some l.length:=by
  unfold lenOf
  simp [fx,ba,h,bW]
 exact pZ this
theorem cO {m:Mem} {j:Nat} {l:List D} {d:D} (h:m[j]?=some (.lst l)) (hl:l.length < 1000000):df (.ref j) [d] m=.ok .non (m.set j (.lst (l++[d]))):=by
 unfold df
 simp only [h,bW,if_pos (ie hl)]
theorem mb {m:Mem} {j:Nat} {l:List D} (h:m[j]?=some (.lst l)):br [.ref j] m=.ok (.tup l) m:=by
 unfold br
 simp [fx,ba,h,bW]
@[simp] theorem y5 (ds:List D) (m:Mem):dD m (.lst ds)=some ds:=nr rfl
theorem yt {m:Mem} {j:Nat} {l:List D} (h:m[j]?=some (.lst l)):dD m (.ref j)=some l:=by
 show bW m[j]?=_
 rw [h]
 rfl
theorem zh {m:Mem} {d e:D} {xs ys:List D} (h1:dD m d=some xs) (h2:dD m e=some ys) (hl:xs.length+ys.length≤1000000):bp false d e m=.ok (.lst (xs++ys)) m:=by
 have e:bp false d e m=w4 false m (dD m d) (dD m e):=by
  cases d with
  | lst _=>rfl
  | ref _=>rfl
  | _=>cases h1
 rw [e,h1,h2]
 show (if xs.length+ys.length≤sizeLine then mkL false (xs++ys) m else .stk)=_
 rw [if_pos (size_le hl)]
 rfl
@[simp] theorem Bp (a0 a1:D) (l:List D) (m:Mem):gIx (.tup (a0 ::a1 ::l)) (.int 1) m=.ok a1 m:=by
 have:atI (a0 ::a1 ::l) 1=some a1:=by
  unfold atI ixN
  rw [if_pos (by decide),if_pos (by simp only [List.length_cons]; omega)]
  rfl
 exact gb this
@[simp] theorem BE (a0 a1 a2:D) (l:List D) (m:Mem):gIx (.tup (a0 ::a1 ::a2 ::l)) (.int 2) m=.ok a2 m:=by
 have:atI (a0 ::a1 ::a2 ::l) 2=some a2:=by
  unfold atI ixN
  rw [if_pos (by decide),if_pos (by simp only [List.length_cons]; omega)]
  rfl
 exact gb this
@[simp] theorem Bz (a0 a1 a2 a3:D) (l:List D) (m:Mem):gIx (.tup (a0 ::a1 ::a2 ::a3 ::l)) (.int 3) m=.ok a3 m:=by
 have:atI (a0 ::a1 ::a2 ::a3 ::l) 3=some a3:=by
  unfold atI ixN
  rw [if_pos (by decide),if_pos (by simp only [List.length_cons]; omega)]
  rfl
 exact gb this
@[simp] theorem BG (a0 a1 a2 a3 a4:D) (l:List D) (m:Mem):gIx (.tup (a0 ::a1 ::a2 ::a3 ::a4 ::l)) (.int 4) m=.ok a4 m:=by
 have:atI (a0 ::a1 ::a2 ::a3 ::a4 ::l) 4=some a4:=by
  unfold atI ixN
  rw [if_pos (by decide),if_pos (by simp only [List.length_cons]; omega)]
  rfl
 exact gb this
@[simp] theorem AR (a0 a1 a2 a3 a4 a5:D) (l:List D) (m:Mem):gIx (.tup (a0 ::a1 ::a2 ::a3 ::a4 ::a5 ::l)) (.int 5) m=.ok a5 m:=by
 have:atI (a0 ::a1 ::a2 ::a3 ::a4 ::a5 ::l) 5=some a5:=by
  unfold atI ixN
  rw [if_pos (by decide),if_pos (by simp only [List.length_cons]; omega)]
  rfl
 exact gb this
@[simp] theorem Bj (a0 a1:D) (l:List D) (m:Mem):gIx (.lst (a0 ::a1 ::l)) (.int 1) m=.ok a1 m:=by
 have:atI (a0 ::a1 ::l) 1=some a1:=by
  unfold atI ixN
  rw [if_pos (by decide),if_pos (by simp only [List.length_cons]; omega)]
  rfl
 exact jj this
@[simp] theorem AZ (a0 a1 a2:D) (l:List D) (m:Mem):gIx (.lst (a0 ::a1 ::a2 ::l)) (.int 2) m=.ok a2 m:=by
 have:atI (a0 ::a1 ::a2 ::l) 2=some a2:=by
  unfold atI ixN
  rw [if_pos (by decide),if_pos (by simp only [List.length_cons]; omega)]
  rfl
 exact jj this
@[simp] theorem BB (a0 a1 a2 a3:D) (l:List D) (m:Mem):gIx (.lst (a0 ::a1 ::a2 ::a3 ::l)) (.int 3) m=.ok a3 m:=by
 have:atI (a0 ::a1 ::a2 ::a3 ::l) 3=some a3:=by
  unfold atI ixN
  rw [if_pos (by decide),if_pos (by simp only [List.length_cons]; omega)]
  rfl
 exact jj this
@[simp] theorem Bu (a0 a1 a2 a3 a4:D) (l:List D) (m:Mem):gIx (.lst (a0 ::a1 ::a2 ::a3 ::a4 ::l)) (.int 4) m=.ok a4 m:=by
 have:atI (a0 ::a1 ::a2 ::a3 ::a4 ::l) 4=some a4:=by
  unfold atI ixN
  rw [if_pos (by decide),if_pos (by simp only [List.length_cons]; omega)]
  rfl
 exact jj this
@[simp] theorem AQ (a0 a1 a2 a3 a4 a5:D) (l:List D) (m:Mem):gIx (.lst (a0 ::a1 ::a2 ::a3 ::a4 ::a5 ::l)) (.int 5) m=.ok a5 m:=by
 have:atI (a0 ::a1 ::a2 ::a3 ::a4 ::a5 ::l) 5=some a5:=by
  unfold atI ixN
  rw [if_pos (by decide),if_pos (by simp only [List.length_cons]; omega)]
  rfl
 exact jj this
@[simp] theorem Ba (i j:Int) (m:Mem):pF [.int i,.int j] m=.ok (.int (if j > i then j else i)) m:=nr rfl
@[simp] theorem Bw (i j:Int) (m:Mem):bMin [.int i,.int j] m=.ok (.int (if j < i then j else i)) m:=nr rfl
@[simp] theorem oP (ds:List D) (m:Mem):br [.lst ds] m=.ok (.tup ds) m:=nr rfl
@[simp] theorem Aw (ds:List D) (m:Mem):br [.tup ds] m=.ok (.tup ds) m:=nr rfl
@[simp] theorem AF (ds:List D) (m:Mem):fY false [.lst ds] m=.ok (.lst ds) m:=nr rfl
@[simp] theorem Az (ds:List D) (m:Mem):fY false [.tup ds] m=.ok (.lst ds) m:=nr rfl
@[simp] theorem Av (ds:List D) (m:Mem):fY true [.lst ds] m=.ok (.ref m.length) (m++[.lst ds]):=nr rfl
@[simp] theorem Ap (ds:List D) (m:Mem):fY true [.tup ds] m=.ok (.ref m.length) (m++[.lst ds]):=nr rfl
theorem sj {ds:List D} {k:Int} {m:Mem} (h0:-1000000≤k) (h1:k≤1000000) (h2:ds.length*k.toNat≤1000000):rO false (.lst ds) (.int k) m=.ok (.lst (List.replicate k.toNat ds).flatten) m:=by
 show (if md k=true∧ds.length*k.toNat≤sizeLine then mkL false (List.replicate k.toNat ds).flatten m else .stk)=_
 rw [if_pos ⟨(kJ k).mpr (by omega),size_le h2⟩]
 rfl
theorem fL {f:List Bool→Bool} {bs:List Bool} {m:Mem}:fC f [.lst (bs.map .bl)] m=.ok (.bl (f bs)) m:=by
 unfold fC
 simp only [ba,Option.bind_some,uZ]
def Flo (m m':Mem) (i:Nat):Prop:=FlowAt m' i∧m.length≤m'.length∧∀ j,j≠i→j < m.length→m'[j]?=m[j]?
theorem Flo.refl {m:Mem} {i:Nat} (h:FlowAt m i):Flo m m i:=⟨h,Nat.le_refl _,fun _ _ _=>rfl⟩
theorem Flo.at {m m':Mem} {i:Nat} (h:Flo m m' i):FlowAt m' i:=h.1
theorem Flo.trans {m m1 m2:Mem} {i:Nat} (h:Flo m m1 i) (k:Flo m1 m2 i):Flo m m2 i:=
 ⟨k.1,Nat.le_trans h.2.1 k.2.1,fun j hj hl=>(k.2.2 j hj (Nat.lt_of_lt_of_le hl h.2.1)).trans (h.2.2 j hj hl)⟩
theorem FlowTo.flo {m m':Mem} {i:Nat} (h:FlowTo m m' i) (hi:FlowAt m i):Flo m m' i:=by
 refine ⟨h.at hi,?_,fun j hj hl=>?_⟩
 ·obtain ⟨l,_,rfl⟩:=h
  rw [List.length_set]
  exact Nat.le_refl _
 ·obtain ⟨l,_,rfl⟩:=h
  exact List.getElem?_set_ne (Ne.symm hj)
theorem Flo.get {m m':Mem} {i j:Nat} {c:Cell} (h:Flo m m' i) (hj:j≠i) (hc:m[j]?=some c):m'[j]?=some c:=by
 rw [h.2.2 j hj (List.getElem?_eq_some_iff.mp hc).1]
 exact hc
theorem Flo.push {m m':Mem} {i:Nat} (h:Flo m m' i) (c:Cell):Flo m (m'++[c]) i:=by
 refine ⟨?_,by rw [List.length_append]; exact Nat.le_trans h.2.1 (Nat.le_add_right _ _),fun j hj hl=>?_⟩
 ·obtain ⟨l,e,hl⟩:=h.1
  exact ⟨l,by rw [List.getElem?_append_left (List.getElem?_eq_some_iff.mp e).1]; exact e,hl⟩
 ·rw [List.getElem?_append_left (Nat.lt_of_lt_of_le hl h.2.1)]
  exact h.2.2 j hj hl
theorem Flo.put {m m':Mem} {i j:Nat} (h:Flo m m' i) (hj:m.length≤j) (hi:j≠i) (c:Cell):Flo m (m'.set j c) i:=by
 refine ⟨?_,by rw [List.length_set]; exact h.2.1,fun k hk hl=>?_⟩
 ·obtain ⟨l,e,hl⟩:=h.1
  exact ⟨l,by rw [List.getElem?_set_ne hi]; exact e,hl⟩
 ·rw [List.getElem?_set_ne (by omega)]
  exact h.2.2 k hk hl
theorem wA {n:Int} (h:n.natAbs < 2^64):n.natAbs.log2 < 9000:=by
 by_cases h0:n.natAbs=0
 ·rw [h0]; decide
 ·exact Nat.lt_of_lt_of_le ((Nat.log2_lt h0).mpr h) (by decide)
theorem wZ {m:Mem} {i:Nat} {n:Int} (hf:FlowAt m i) (hn:0 < n) (hb:n < 2^64):Tri (mFn 2 4 yb [.ref i,.int n] m) (fun d m'=>∃ k:Nat,d=.int (k:Nat)∧(k:Int) < n∧Flo m m' i):=
 (vT hf hn (wA (by omega))).mono fun d m' ⟨k,e,h0,h1,h2⟩=>⟨k.toNat,by rw [e,Int.toNat_of_nonneg h0],by rw [Int.toNat_of_nonneg h0]; exact h1,h2.flo hf⟩
theorem lX {src:Src} {g:GM} {body:SM} {ds:List D} (h:∀ k m,k≤ds.length→src k m=some ds[k]?):∀ (n k:Nat) (η:au) (m:Mem),n+k=ds.length→bH src g body n k η m=bH (d6 ds) g body n k η m
 | 0,k,η,m,e=>by
  unfold bH
  rw [h k m (by omega)]
  rfl
 | n+1,k,η,m,e=>by
  unfold bH
  have hL:d6 ds k m=some ds[k]?:=rfl
  rw [h k m (by omega),hL]
  cases hd:ds[k]? with
  | none=>rfl
  | some d=>
   simp only
   cases g d η m with
   | ok η1 m1=>
    simp only [oO]
    cases body η1 m1 with
    | nxt η2 m2=>exact lX h n (k+1) η2 m2 (by omega)
    | cnt η2 m2=>exact lX h n (k+1) η2 m2 (by omega)
    | _=>rfl
   | _=>rfl
theorem iu {src:Src} {g:GM} {body:SM} {ds:List D} {n:Nat} {η:au} {m:Mem} (hn:n=ds.length) (h:∀ k m,k≤ds.length→src k m=some ds[k]?):bH src g body n 0 η m=eU g body ds η m:=by
 subst hn
 rw [lX h _ 0 η m rfl]
 exact uF g body ds η m
theorem nR {src:Src} {g:GM} {t:TM} {e:EM} {η:au} {ds:List D} (h:∀ k m,k≤ds.length→src k m=some ds[k]?):∀ (n k:Nat) (m:Mem) (acc:List D),n+k=ds.length→bF src g t e η n k m acc=bF (d6 ds) g t e η n k m acc
 | 0,k,m,acc,e=>by
  unfold bF
  rw [h k m (by omega)]
  rfl
 | n+1,k,m,acc,e=>by
  unfold bF
  have hL:d6 ds k m=some ds[k]?:=rfl
  rw [h k m (by omega),hL]
  cases hd:ds[k]? with
  | none=>rfl
  | some d=>
   simp only
   congr
   funext η1 m1
   congr
   funext b m2
   split
   ·congr
    funext y m3
    split
    ·exact nR h n (k+1) m3 _ (by omega)
    ·rfl
   ·exact nR h n (k+1) m2 _ (by omega)
theorem ic {src:Src} {g:GM} {t:TM} {e:EM} {η:au} {ds:List D} {n:Nat} {m:Mem} {acc:List D} (hn:n=ds.length) (h:∀ k m,k≤ds.length→src k m=some ds[k]?):bF src g t e η n 0 m acc=bD g t e η ds m acc:=by
 subst hn
 rw [nR h _ 0 m acc rfl]
 exact vX g t e η ds m acc
def dq (xs ys:List D):List D:=List.zipWith (fun x y=>D.tup [x,y]) xs ys
def gh (c:Int) (xs:List D):List D:=xs.zipIdx.map fun p=>D.tup [.int (c+(p.2:Nat)),p.1]
theorem bX (xs ys:List D):(dq xs ys).length=min xs.length ys.length:=by unfold dq; simp
theorem fy (c:Int) (xs:List D):(gh c xs).length=xs.length:=by unfold gh; simp
theorem dW {f g:Mem→Option (List D)} {xs ys:List D} (hf:∀ m,f m=some xs) (hg:∀ m,g m=some ys) (k:Nat) (m:Mem) (hk:k≤(dq xs ys).length):dC f g k m=some (dq xs ys)[k]?:=by
 unfold dC
 rw [hf,hg]
 simp only
 rw [bX] at hk
 unfold dq
 rw [List.getElem?_zipWith]
 cases hx:xs[k]? with
 | none=>
  have:=List.getElem?_eq_none_iff.mp hx
  simp
  omega
 | some x=>
  cases hy:ys[k]? with
  | none=>
   have:=List.getElem?_eq_none_iff.mp hy
   simp
   omega
  | some y=>rfl
theorem ki {c:Int} {f:Mem→Option (List D)} {xs:List D} (hf:∀ m,f m=some xs) (k:Nat) (m:Mem) (hk:k≤(gh c xs).length):gc c f k m=some (gh c xs)[k]?:=by
 unfold gc
 rw [hf]
 simp only
 rw [fy] at hk
 unfold gh
 rw [List.getElem?_map,List.getElem?_zipIdx]
 cases hx:xs[k]? with
 | none=>
  have:=List.getElem?_eq_none_iff.mp hx
  simp
  omega
 | some x=>simp
section
variable (η:au) (m:Mem) (a b:EM) (g:GM) (body:SM) (t:TM) (e:EM) (xs ys acc:List D) (c:Int)
def nP (x y:D) (m:Mem):R (Src×Nat):=match aO x m,aO y m with
 | some xs,some ys=>.ok (dC (aO x) (aO y),min xs.length ys.length) m
 | _,_=>.stk
def uT (c:Int) (x:D) (m:Mem):R (Src×Nat):=match aO x m with
 | some xs=>.ok (gc c (aO x),xs.length) m
 | none=>.stk
@[simp] theorem ap_zip:og a b η m=(a η m).bind fun x m1=>(b η m1).bind fun y m2=>nP x y m2:=rfl
@[simp] theorem BY:pf c a η m=(a η m).bind fun x m1=>uT c x m1:=rfl
@[simp] theorem Cb:nP (.tup xs) (.tup ys) m=.ok (dC (aO (.tup xs)) (aO (.tup ys)),min xs.length ys.length) m:=rfl
@[simp] theorem BQ:nP (.tup xs) (.lst ys) m=.ok (dC (aO (.tup xs)) (aO (.lst ys)),min xs.length ys.length) m:=rfl
@[simp] theorem Cs:nP (.lst xs) (.tup ys) m=.ok (dC (aO (.lst xs)) (aO (.tup ys)),min xs.length ys.length) m:=rfl
@[simp] theorem Cr:nP (.lst xs) (.lst ys) m=.ok (dC (aO (.lst xs)) (aO (.lst ys)),min xs.length ys.length) m:=rfl
@[simp] theorem B0:uT c (.tup xs) m=.ok (gc c (aO (.tup xs)),xs.length) m:=rfl
@[simp] theorem Cp:uT c (.lst xs) m=.ok (gc c (aO (.lst xs)),xs.length) m:=rfl
@[simp] theorem A9:bH (dC (aO (.tup xs)) (aO (.tup ys))) g body (min xs.length ys.length) 0 η m=eU g body (dq xs ys) η m:=iu (bX xs ys).symm (dW (fun _=>rfl) (fun _=>rfl))
@[simp] theorem Bl:bH (dC (aO (.tup xs)) (aO (.lst ys))) g body (min xs.length ys.length) 0 η m=eU g body (dq xs ys) η m:=iu (bX xs ys).symm (dW (fun _=>rfl) (fun _=>rfl))
@[simp] theorem Bt:bH (dC (aO (.lst xs)) (aO (.tup ys))) g body (min xs.length ys.length) 0 η m=eU g body (dq xs ys) η m:=iu (bX xs ys).symm (dW (fun _=>rfl) (fun _=>rfl))
@[simp] theorem Bc:bH (dC (aO (.lst xs)) (aO (.lst ys))) g body (min xs.length ys.length) 0 η m=eU g body (dq xs ys) η m:=iu (bX xs ys).symm (dW (fun _=>rfl) (fun _=>rfl))
@[simp] theorem B2:bF (dC (aO (.tup xs)) (aO (.tup ys))) g t e η (min xs.length ys.length) 0 m acc=bD g t e η (dq xs ys) m acc:=ic (bX xs ys).symm (dW (fun _=>rfl) (fun _=>rfl))
@[simp] theorem BL:bF (dC (aO (.tup xs)) (aO (.lst ys))) g t e η (min xs.length ys.length) 0 m acc=bD g t e η (dq xs ys) m acc:=ic (bX xs ys).symm (dW (fun _=>rfl) (fun _=>rfl))
@[simp] theorem Cm:bF (dC (aO (.lst xs)) (aO (.tup ys))) g t e η (min xs.length ys.length) 0 m acc=bD g t e η (dq xs ys) m acc:=ic (bX xs ys).symm (dW (fun _=>rfl) (fun _=>rfl))
@[simp] theorem B5:bF (dC (aO (.lst xs)) (aO (.lst ys))) g t e η (min xs.length ys.length) 0 m acc=bD g t e η (dq xs ys) m acc:=ic (bX xs ys).symm (dW (fun _=>rfl) (fun _=>rfl))
@[simp] theorem yn:bH (gc c (aO (.tup xs))) g body xs.length 0 η m=eU g body (gh c xs) η m:=iu (fy c xs).symm (ki (fun _=>rfl))
@[simp] theorem Ce:bH (gc c (aO (.lst xs))) g body xs.length 0 η m=eU g body (gh c xs) η m:=iu (fy c xs).symm (ki (fun _=>rfl))
@[simp] theorem lclE_t:bF (gc c (aO (.tup xs))) g t e η xs.length 0 m acc=bD g t e η (gh c xs) m acc:=ic (fy c xs).symm (ki (fun _=>rfl))
@[simp] theorem lclE_l:bF (gc c (aO (.lst xs))) g t e η xs.length 0 m acc=bD g t e η (gh c xs) m acc:=ic (fy c xs).symm (ki (fun _=>rfl))
end
theorem jK {α β:Type} (f:α→D) (g:β→D) (xs:List α) (ys:List β):dq (xs.map f) (ys.map g)=(xs.zip ys).map fun p=>D.tup [f p.1,g p.2]:=by
 unfold dq
 rw [List.zipWith_map,List.zip,List.map_zipWith]
theorem mD {α:Type} (c:Int) (f:α→D) (xs:List α):gh c (xs.map f)=xs.zipIdx.map fun p=>D.tup [.int (c+(p.2:Nat)),f p.1]:=by
 unfold gh
 rw [List.zipIdx_map,List.map_map]
 rfl
theorem b4 {α:Type} {g:GM} {t:TM} {e:EM} {η:au} {m:Mem} (emb f:α→D):∀ (xs:List α) (acc:List D),(∀ x∈xs,∃ η1,g (emb x) η m=.ok η1 m∧t η1 m=.ok true m∧e η1 m=.ok (f x) m)→acc.length+xs.length≤1000000→bD g t e η (xs.map emb) m acc=.ok (acc++xs.map f) m
 | [],acc,_,_=>by simp [bD]
 | x ::xs,acc,h,hl=>by
  obtain ⟨η1,h1,h2,h3⟩:=h x List.mem_cons_self
  have hlt:acc.length < sizeLine:=ie (by simp at hl; omega)
  rw [List.map_cons]
  unfold bD
  simp only [h1,h2,h3,iF,bV,if_true,hlt]
  rw [b4 emb f xs (acc++[f x]) (fun y hy=>h y (List.mem_cons_of_mem _ hy)) (by simp at hl ⊢; omega)]
  simp
theorem jH {α:Type} {g:GM} {t:TM} {e:EM} {η:au} {m:Mem} (emb f:α→D) (p:α→Bool):∀ (xs:List α) (acc:List D),(∀ x∈xs,∃ η1,g (emb x) η m=.ok η1 m∧t η1 m=.ok (p x) m∧(p x=true→e η1 m=.ok (f x) m))→acc.length+xs.length≤1000000→bD g t e η (xs.map emb) m acc=.ok (acc++(xs.filter p).map f) m
 | [],acc,_,_=>by simp [bD]
 | x ::xs,acc,h,hl=>by
  obtain ⟨η1,h1,h2,h3⟩:=h x List.mem_cons_self
  have hlt:acc.length < sizeLine:=ie (by simp at hl; omega)
  rw [List.map_cons]
  unfold bD
  simp only [h1,h2,iF,bV]
  cases hp:p x with
  | true=>
   simp only [if_true,h3 hp,iF,bV,hlt]
   rw [jH emb f p xs (acc++[f x]) (fun y hy=>h y (List.mem_cons_of_mem _ hy)) (by simp at hl ⊢; omega)]
   simp [hp]
  | false=>
   simp only [Bool.false_eq_true,if_false]
   rw [jH emb f p xs acc (fun y hy=>h y (List.mem_cons_of_mem _ hy)) (by simp at hl ⊢; omega)]
   simp [hp]
theorem j9 {α:Type} {g:GM} {e:EM} {η:au} {m:Mem} {i:Nat} {ds:List D} (emb:α→D) (P:α→Prop) (hf:FlowAt m i) (hl:ds.length≤1000000)
  (h:∀ d m',d∈ds→Flo m m' i→Tri (noX (g d η m')) (fun η1 m1=>Tri (noX (e η1 m1)) (fun y m2=>∃ a,y=emb a∧P a∧Flo m m2 i))) :
  Tri (bD g bz e η ds m []) (fun acc m'=>∃ as:List α,acc=as.map emb∧as.length=ds.length∧(∀ a∈as,P a)∧Flo m m' i):=by
 refine tJ (fun j m' acc=>∃ as:List α,acc=as.map emb∧as.length=j∧(∀ a∈as,P a)∧Flo m m' i) ds ⟨[],rfl,rfl,by simp,Flo.refl hf⟩ ?_
 rintro j d m' acc hd hj ⟨as,rfl,hlen,hP,hfl⟩
 rw [fH]
 refine (h d m' hd hfl).mono fun η1 m1 h1=>?_
 simp only [zy,iF,bV,if_true]
 rw [fH]
 refine h1.mono fun y m2 ⟨a,ha,hPa,hfl2⟩=>?_
 subst ha
 rw [List.length_map,hlen,if_pos (ie (by omega))]
 exact ⟨as++[a],by simp,by simp [hlen],fun b hb=>by
  rcases List.mem_append.mp hb with hb | hb
  ·exact hP b hb
  ·simp at hb; subst hb; exact hPa,hfl2⟩
theorem xq {α:Type} {g:GM} {body:SM} {η:au} {m m0:Mem} {i j:Nat} {ds:List D} {B:au→Mem→Prop} {Rt:D→Mem→Prop} (emb:α→D) (P:α→Prop) (J:au→Prop) (h0:Flo m0 m i) (hj:m[j]?=some (.lst [])) (hJ:J η)
  (h:∀ d η m' (as:List α),d∈ds→J η→Flo m0 m' i→m'[j]?=some (.lst (as.map emb))→(∀ a∈as,P a)→as.length < ds.length→Tri (g d η m') (fun η1 m1=>TriQ (body η1 m1) (fun η2 m2=>J η2∧∃ a,P a∧Flo m0 m2 i∧m2[j]?=some (.lst (as.map emb++[emb a]))) B (fun _ _=>False) Rt))
  (hB:∀ η m' (as:List α),J η→Flo m0 m' i→m'[j]?=some (.lst (as.map emb))→(∀ a∈as,P a)→as.length=ds.length→B η m'):TriS (eU g body ds η m) B Rt:=by
 refine dJ (fun k η m'=>J η∧∃ as:List α,as.length=k∧(∀ a∈as,P a)∧Flo m0 m' i∧m'[j]?=some (.lst (as.map emb))) ds ⟨hJ,[],rfl,by simp,h0,hj⟩ ?_ ?_
 ·rintro k d η m' hd ⟨hJ,as,hlen,hP,hfl,hc⟩
  have hk:=(List.getElem?_eq_some_iff.mp hd).1
  refine (h d η m' as (List.mem_of_getElem? hd) hJ hfl hc hP (by omega)).mono fun η1 m1 h1=>?_
  refine h1.mono ?_ (fun _ _ z=>z) (fun _ _ z=>z.elim) (fun _ _ z=>z)
  rintro η2 m2 ⟨hJ2,a,hPa,hfl2,hc2⟩
  refine ⟨hJ2,as++[a],by simp [hlen],fun b hb=>?_,hfl2,by simpa using hc2⟩
  rcases List.mem_append.mp hb with hb | hb
  ·exact hP b hb
  ·simp at hb; subst hb; exact hPa
 ·rintro η m' ⟨hJ,as,hlen,hP,hfl,hc⟩
  exact hB η m' as hJ hfl hc hP hlen
end Mir
namespace Mir.Y
open PySem PySem.Spec PyProof.Rows L2 Mir
def nv:SM:=(aN (eS true (ae (mCB (fY false) (ae (ab 0) ag)) (ae (mC (.int 0)) (ae (mC (.int 0)) (ae (mC (.int 1)) (ae (mC (.int 0)) ag)))))))
def dZ:FM:=mFn 1 1 nv
def oF:SM:=(bo (aG (mOp gGe (ab 2) (mOp tL (mC (.int 10)) (mC (.int 18))))) (aC (ab 2) (eQ (ab 0) (mC (.int 2)))) (aC (mOp eA (mOp (bp false) (mOp (bp false) (mOp eN (mOp gIx (ab 0) (mC (.int 3))) (mC (.int 40013))) (mOp eA (ab 2) (mC (.int 1000003)))) (mC (.int 1))) (mC (.int 2147483647))) (eQ (ab 0) (mC (.int 3)))))
def oK:SM:=ar (aC (mOp (bp false) (mOp gIx (ab 0) (mC (.int 1))) (mC (.int 1))) (eQ (ab 0) (mC (.int 1)))) oF
def rm:SM:=ar (aC (mOp gIx (mOp gIx (ab 0) (mC (.int 0))) (mOp gIx (ab 0) (mC (.int 1)))) (gNm 2)) oK
def pB:SM:=(aN (ab 3))
def oJ:SM:=ar (aC (mOp i8 (mOp gIx (ab 0) (mC (.int 2))) (ab 1)) (eQ (ab 0) (mC (.int 2)))) pB
def rE:SM:=ar (aC (mOp eA (mOp gIx (ab 0) (mC (.int 2))) (ab 1)) (gNm 3)) oJ
def p9:SM:=(aN (mOp eA (mOp i8 (mOp eA (mOp eN (mOp (bp false) (mOp eA (mOp gIx (ab 0) (mC (.int 3))) (mC (.int 65521))) (mC (.int 1))) (mOp (bp false) (mOp i8 (mOp gIx (ab 0) (mC (.int 3))) (mC (.int 65521))) (mC (.int 7919)))) (mC (.int 1000003))) (mC (.int 7))) (ab 1)))
def pN:SM:=ar (aC (mOp eA (mOp (bp false) (mOp (bp false) (mOp eN (mOp gIx (ab 0) (mC (.int 3))) (mC (.int 48271))) (mC (.int 12820163))) (mOp gIx (ab 0) (mC (.int 4)))) (mC (.int 2147483647))) (eQ (ab 0) (mC (.int 3)))) p9
def p7:SM:=ar (aC (mOp (bp false) (mOp gIx (ab 0) (mC (.int 4))) (mC (.int 1))) (eQ (ab 0) (mC (.int 4)))) pN
def pJ:SM:=ar (bo (aG (mOp gGt (mOp gIx (ab 0) (mC (.int 2))) (mC (.int 0)))) rE aV) p7
def t6:SM:=ar (bo (jG (aG (mOp (gEq false) (mOp gIx (ab 0) (mC (.int 2))) (mC (.int 0)))) (aG (mOp gLt (mOp gIx (ab 0) (mC (.int 1))) (mCB aU (ae (mOp gIx (ab 0) (mC (.int 0))) ag))))) rm aV) pJ
def aq:FM:=mFn 2 4 t6
def iI:SM:=(aN (mLc [3] false (dc (mCB aU (ae (ab 1) ag))) (gNm 3) bz (mBM "list" ma (ab 2) (ae (ax aq (ae (ab 0) (ae (mCB aU (ae (ab 2) ag)) ag))) ag))))
def j5:SM:=ar (aC (mCB (fY true) (ae (ab 1) ag)) (gNm 2)) iI
def da:FM:=mFn 2 4 j5
def iw:SM:=(aN (ab 2))
def ku:SM:=ar (bo (aG (mOp (gIn false) (ab 2) (bJ (ae (mC (.str (Str.ofString "deeds"))) (ae (mC (.str (Str.ofString "room"))) (ae (mC (.str (Str.ofString "heap"))) (ae (mC (.str (Str.ofString "map"))) (ae (mC (.str (Str.ofString "yard"))) ag)))))))) (aC (mOp (bp false) (mSl (gSl false) (ab 2) je (m9 (mUn wG (mC (.int 1))))) (mC (.str (Str.ofString "q")))) (gNm 2)) aV) iw
def kA:SM:=ar (aC (mBM "str" kM (mC (.str (Str.ofString ""))) (ae (mLc [3] false (dc (mOp (bp false) (mC (.int 1)) (ax aq (ae (ab 0) (ae (mC (.int 6)) ag))))) (gNm 3) bz (mOp gIx (ab 1) (ax aq (ae (ab 0) (ae (mC (.int 26)) ag))))) ag)) (gNm 2)) ku
def nC:SM:=ar (aC (mC (.str (Str.ofString "abcdefghijklmnopqrstuvwxyz"))) (gNm 1)) kA
def fq:FM:=mFn 1 4 nC
def jZ:SM:=(aN (mCB br (ae (mLc [8] false (mIt (ab 4)) (gNm 8) bz (mOp (bp false) (ab 8) (mOp rJ (mC (.str (Str.ofString "q"))) (mCB jn (ae (mOp (gIn false) (ab 8) (bJ (ae (mC (.str (Str.ofString "deeds"))) (ae (mC (.str (Str.ofString "room"))) (ae (mC (.str (Str.ofString "heap"))) (ae (mC (.str (Str.ofString "map"))) (ae (mC (.str (Str.ofString "yard"))) ag))))))) ag))))) ag)))
def j8:SM:=ar (aC (mCB (jB false) (ae (mLc [7] false (dc (ab 1)) (gNm 7) bz (mOp (bp false) (mOp (bp false) (mSl (gSl false) (ab 3) je (m9 (ab 5))) (mOp gIx (ab 2) (mOp eA (mOp (bp false) (ab 6) (mOp eN (mC (.int 7)) (ab 7))) (mC (.int 26))))) (mSl (gSl false) (ab 3) (m9 (ab 5)) je))) ag)) (gNm 4)) jZ
def kb:SM:=ar (aC (bJ (ae (ax aq (ae (ab 0) (ae (mOp (bp false) (mCB aU (ae (ab 3) ag)) (mC (.int 1))) ag))) (ae (ax aq (ae (ab 0) (ae (mC (.int 26)) ag))) ag))) (gTp 2 (aP (gNm 5) (aP (gNm 6) cg)))) j8
def j6:SM:=ar (aC (mBM "str" kM (mC (.str (Str.ofString ""))) (ae (mLc [7] false (dc (ax aq (ae (ab 0) (ae (mC (.int 6)) ag)))) (gNm 7) bz (mOp gIx (ab 2) (ax aq (ae (ab 0) (ae (mC (.int 26)) ag))))) ag)) (gNm 3)) kb
def mf:SM:=ar (aC (mC (.str (Str.ofString "abcdefghijklmnopqrstuvwxyz"))) (gNm 2)) j6
def bY:FM:=mFn 2 9 mf
def jU:SM:=(aN (mCB (fC fun bs=>bs.all id) (ae (mLc [3,4] false (og (ab 0) (ab 1)) (gTp 2 (aP (gNm 3) (aP (gNm 4) cg))) bz (mOp gGe (ab 4) (mOp gIx (mOp gIx (ab 3) (mC (.int 1))) (ab 2)))) ag)))
def cw:FM:=mFn 3 5 jU
def o9:SM:=(aN (mCB br (ae (mLc [3,4] false (og (ab 0) (ab 1)) (gTp 2 (aP (gNm 3) (aP (gNm 4) cg))) bz (mOp (bp false) (mOp gSub (ab 4) (mOp gIx (mOp gIx (ab 3) (mC (.int 1))) (ab 2))) (mOp gIx (mOp gIx (ab 3) (mC (.int 2))) (ab 2)))) ag)))
def eP:FM:=mFn 3 5 o9
def kF:SM:=(aN (bJ (ae (ax aq (ae (ab 0) (ae (mOp (bp false) (ab 2) (mC (.int 1))) ag))) (ae (ab 3) (ae (ab 4) ag)))))
def kE:SM:=ar (aC (mCB br (ae (mLc [5] false (dc (ab 1)) (gNm 5) bz (mCB pF (ae (mC (.int 0)) (ae (mOp gSub (ax aq (ae (ab 0) (ae (mOp (bp false) (ab 2) (mC (.int 2))) ag))) (mC (.int 2))) ag)))) ag)) (gNm 4)) kF
def nL:SM:=ar (aC (mCB br (ae (mLc [5] false (dc (ab 1)) (gNm 5) bz (mCB pF (ae (mC (.int 0)) (ae (mOp gSub (ax aq (ae (ab 0) (ae (mOp (bp false) (ab 2) (mC (.int 2))) ag))) (mC (.int 2))) ag)))) ag)) (gNm 3)) kE
def fg:FM:=mFn 3 6 nL
def gL:SM:=(aN (mOp (rO false) (eS false (ae (ab 2) (ae (bJ (ae (ax aq (ae (ab 0) (ae (mC (.int 2)) ag))) (ae (mOp gIx (ab 2) (mC (.int 2))) (ae (mOp gIx (ab 2) (mC (.int 1))) ag)))) ag))) (mCB jn (ae (mOp (gEq false) (ab 3) (mC (.int 1))) ag))))
def gZ:SM:=ar (aC (bJ (ae (mOp (bp false) (mC (.int 1)) (ax aq (ae (ab 0) (ae (mC (.int 2)) ag)))) (ae (mCB br (ae (mLc [6] false (mIt (ab 4)) (gNm 6) bz (mCB jn (ae (mOp (gEq false) (ab 6) (mC (.int 0))) ag))) ag)) (ae (mCB br (ae (mLc [6] false (mIt (ab 4)) (gNm 6) bz (mCB jn (ae (mOp (gEq false) (ab 6) (mC (.int 1))) ag))) ag)) ag)))) (gNm 2)) gL
def gY:SM:=ar (bo (aG (mOp (gEq false) (ab 3) (mC (.int 0)))) (aN (eS false (ae (bJ (ae (mOp (bp false) (mC (.int 1)) (ax aq (ae (ab 0) (ae (mC (.int 3)) ag)))) (ae (mOp kW (bJ (ae (mC (.int 1)) ag)) (ab 1)) (ae (mCB br (ae (mLc [6] false (mIt (ab 4)) (gNm 6) bz (mCB jn (ae (mOp (gEq false) (ab 6) (mC (.int 0))) ag))) ag)) ag)))) ag))) aV) gZ
def iW:SM:=ar (sO 3 4 (ae (ax aq (ae (ab 0) (ae (mC (.int 3)) ag))) (ae (mLc [5] false (dc (ab 1)) (gNm 5) bz (ax aq (ae (ab 0) (ae (mC (.int 4)) ag)))) ag))) gY
def cA:FM:=mFn 2 7 iW
def iJ:SM:=(aN (bJ (ae (ax bY (ae (ab 0) (ae (ab 2) ag))) (ae (mCB br (ae (ax da (ae (ab 0) (ae (mOp (bp false) (ab 3) (ax cA (ae (ab 0) (ae (ab 2) ag)))) ag))) ag)) ag))))
def iH:SM:=ar (fF (dc (ax aq (ae (ab 0) (ae (mC (.int 4)) ag)))) (gNm 4) (gn (mBM "list" df (ab 3) (ae (ax fg (ae (ab 0) (ae (ab 2) (ae (mOp gIx (eS false (ae (mC (.int 2)) (ae (mC (.int 3)) (ae (mC (.int 5)) ag)))) (ax aq (ae (ab 0) (ae (mC (.int 3)) ag)))) ag)))) ag)))) iJ
def iE:SM:=ar (aC (eS true ag) (gNm 3)) iH
def jW:SM:=ar (aC (mOp (bp false) (mC (.int 1)) (ax aq (ae (ab 0) (ae (ab 1) ag)))) (gNm 2)) iE
def cX:FM:=mFn 2 5 jW
def g8:SM:=(aN (ax cX (ae (ab 0) (ae (mC (.int 5)) ag))))
def hX:SM:=ar (bo (aG (mOp (gEq false) (ab 1) (mC (.int 1)))) (aN (bJ (ae (bJ ag) (ae (mCB br (ae (mLc [2] false (dc (ax aq (ae (ab 0) (ae (mC (.int 4)) ag)))) (gNm 2) bz (bJ (ae (ax aq (ae (ab 0) (ae (mC (.int 51)) ag))) (ae (bJ ag) (ae (bJ ag) ag))))) ag)) ag)))) aV) g8
def hV:SM:=ar (bo (aG (mOp (gEq false) (ab 1) (mC (.int 0)))) (aN (bJ (ae (ax bY (ae (ab 0) (ae (ax aq (ae (ab 0) (ae (mC (.int 6)) ag))) ag))) (ae (bJ ag) ag)))) aV) hX
def jw:SM:=ar (aC (ax aq (ae (ab 0) (ae (mC (.int 8)) ag))) (gNm 1)) hV
def cG:FM:=mFn 1 3 jw
def mS:SM:=(aN (mCB br (ae (mLc [1] false (mIt (mOp gIx (ab 0) (mC (.int 1)))) (gNm 1) bz (mOp gIx (ab 1) (mC (.int 0)))) ag)))
def cq:FM:=mFn 1 2 mS
def lQ:SM:=(aN (iy (mOp (gIn false) (ab 2) (ab 3)) (ax cw (ae (ab 4) (ae (ab 1) (ae (mBM "list" cB (mCB (fY false) (ae (ab 3) ag)) (ae (ab 2) ag)) ag))))))
def oN:SM:=ar (aC (ab 0) (gTp 2 (aP (gNm 3) (aP (gNm 4) cg)))) lQ
def cP:FM:=mFn 3 5 oN
def qE:SM:=(aN (ax eP (ae (mOp gIx (ab 0) (mC (.int 1))) (ae (ab 1) (ae (mBM "list" cB (mCB (fY false) (ae (mOp gIx (ab 0) (mC (.int 0))) ag)) (ae (ab 2) ag)) ag)))))
def dQ:FM:=mFn 3 3 qE
def fJ:SM:=(aN (mOp gIx (eS false (ae (ax fq (ae (ab 0) ag)) (ae (mC (.str (Str.ofString "q"))) (ae (mC (.str (Str.ofString "zzzzzz"))) ag)))) (ax aq (ae (ab 0) (ae (mC (.int 3)) ag)))))
def gV:SM:=ar (bo (jG (aG (mOp gGt (mCB aU (ae (mOp gIx (ab 1) (mC (.int 0))) ag)) (mC (.int 0)))) (aG (mOp gGt (ax aq (ae (ab 0) (ae (mC (.int 6)) ag))) (mC (.int 0))))) (aN (mOp gIx (mOp gIx (ab 1) (mC (.int 0))) (ax aq (ae (ab 0) (ae (mCB aU (ae (mOp gIx (ab 1) (mC (.int 0))) ag)) ag))))) aV) fJ
def cY:FM:=mFn 2 2 gV
def jQ (rc:FM):SM:=(aN (mCB (fC fun bs=>bs.all id) (ae (mLc [2,3] false (og (ab 0) (ab 1)) (gTp 2 (aP (gNm 2) (aP (gNm 3) cg))) bz (ax rc (ae (ab 2) (ae (ab 3) ag)))) ag)))
def gq (rc:FM):SM:=ar (bo (aG (mOp (gEq true) (mCB aU (ae (ab 0) ag)) (mCB aU (ae (ab 1) ag)))) (aN (mC (.bl false))) aV) (jQ rc)
def ib (rc:FM):SM:=ar (bo (mOr (aG (mOp (gEq true) (eV "list" (ab 0)) (eV "list" (ab 1)))) (aG (mOp (gEq true) (eV "tuple" (ab 0)) (eV "tuple" (ab 1))))) (aN (mC (.bl false))) aV) (gq rc)
def gI (rc:FM):SM:=(aN (iy (eV "int" (ab 0)) (iy (mOp (gEq false) (eV "bool" (ab 0)) (eV "bool" (ab 1))) (mOp (gEq false) (ab 0) (ab 1)))))
def dV (rc:FM):SM:=ar (bo (mOr (eJ (eV "str" (ab 1))) (aG (mOp (gIs false) (ab 1) (mC .non)))) (aN (iy (mOp (gEq false) (eV "str" (ab 0)) (eV "str" (ab 1))) (mOp (gEq false) (ab 0) (ab 1)))) aV) (gI rc)
def cU (rc:FM):SM:=ar (bo (eJ (uQ ["list","tuple"] (ab 1))) (ib rc) aV) (dV rc)
def bc:Nat→FM
 | 0=>mFn 2 4 mK
 | n+1=>mFn 2 4 (cU (bc n))
def rC:SM:=(aN (mCB br (ae (mLc [1] false (mIt (mOp gIx (ab 0) (mC (.int 1)))) (gNm 1) bz (mOp gIx (ab 1) (mC (.int 0)))) ag)))
def dI:FM:=mFn 1 2 rC
def tq:SM:=(aN (mCB (fC fun bs=>bs.all id) (ae (mLc [6,7] false (og (ab 1) (ab 5)) (gTp 2 (aP (gNm 6) (aP (gNm 7) cg))) bz (mOp gGe (ab 6) (mOp gIx (mOp gIx (ab 7) (mC (.int 1))) (ab 3)))) ag)))
def tx:SM:=ar (aC (mBM "tuple" fX (ab 4) (ae (ab 2) ag)) (gNm 3)) tq
def tQ:SM:=ar (bo (aG (mOp (gIn true) (ab 2) (ab 4))) (aN (mC (.bl false))) aV) tx
def x8:SM:=ar (aC (ab 0) (gTp 2 (aP (gNm 4) (aP (gNm 5) cg)))) tQ
def i7:FM:=mFn 3 8 x8
def tO:SM:=(aN (mCB br (ae (mLc [6,7] false (og (ab 1) (ab 5)) (gTp 2 (aP (gNm 6) (aP (gNm 7) cg))) bz (mOp (bp false) (mOp gSub (ab 6) (mOp gIx (mOp gIx (ab 7) (mC (.int 1))) (ab 3))) (mOp gIx (mOp gIx (ab 7) (mC (.int 2))) (ab 3)))) ag)))
def su:SM:=ar (aC (mBM "tuple" fX (ab 4) (ae (ab 2) ag)) (gNm 3)) tO
def xS:SM:=ar (aC (ab 0) (gTp 2 (aP (gNm 4) (aP (gNm 5) cg)))) su
def i9:FM:=mFn 3 8 xS
def gd:SM:=(aC (mBM "list" cB (ab 2) (ae (ab 9) ag)) (eQ (ab 6) (ab 7)))
def iX:SM:=ar (bo (aG (mOp (gIn true) (ab 9) (ab 2))) (gn (mBM "list" df (ab 2) (ae (ab 9) ag))) aV) gd
def ke:SM:=ar (aC (mCB br (ae (mLc [10,11] false (mIt (ab 8)) (gTp 2 (aP (gNm 10) (aP (gNm 11) cg))) bz (mOp (bp false) (mOp gSub (ab 11) (mOp gIx (mOp gIx (ab 10) (mC (.int 1))) (ab 7))) (mOp gIx (mOp gIx (ab 10) (mC (.int 2))) (ab 7)))) ag)) (gNm 9)) iX
def i6:SM:=(bo (eJ (mCB (fC fun bs=>bs.all id) (ae (mLc [10,11] false (mIt (ab 8)) (gTp 2 (aP (gNm 10) (aP (gNm 11) cg))) bz (mOp gGe (ab 11) (mOp gIx (mOp gIx (ab 10) (mC (.int 1))) (ab 7)))) ag))) ke aV)
def iS:SM:=ar (aC (ot false (ab 5) (mOp gIx (ab 2) (mCB aU (ae (ab 3) ag)))) (gNm 8)) i6
def jV:SM:=ar (gn (mBM "list" df (ab 6) (ae (mC .non) ag))) iS
def iY:SM:=(gn (mBM "list" df (ab 3) (ae (mCB br (ae (ab 6) ag)) ag)))
def i4:SM:=ar (fF (dc (mCB aU (ae (ab 4) ag))) (gNm 7) jV) iY
def jX:SM:=ar (aC (eS true ag) (gNm 6)) i4
def gp:SM:=(aN (mOp gIx (eS false (ae (bJ (ae (mCB br (ae (ab 3) ag)) (ae (ab 2) ag))) (ae (mC .non) ag))) (mCB jn (ae (mOp gGt (mCB aU (ae (ab 2) ag)) (ab 1)) ag))))
def jq:SM:=ar (pq (aG (jT gLt gLe (mCB aU (ae (ab 3) ag)) (mCB aU (ae (ab 2) ag)) (ab 1))) jX) gp
def jz:SM:=ar (aC (eS true ag) (gNm 3)) jq
def jo:SM:=ar (aC (eS true (ae (mCB br (ae (mLc [10] false (mIt (ab 5)) (gNm 10) bz (mOp gIx (ab 10) (mC (.int 0)))) ag)) ag)) (gNm 2)) jz
def lF:SM:=ar (aC (ab 0) (gTp 2 (aP (gNm 4) (aP (gNm 5) cg)))) jo
def dO:FM:=mFn 2 12 lF
end Mir.Y
namespace Mir
open PySem PySem.Spec PyProof.Rows L2
def pW (neg:Bool):D→D→Mem→R D
 | .bl a,.bl b,m=>.ok (.bl (decide (a=b)^^neg)) m
 | _,_,_=>.stk
section
variable {X:Cx} {E:XK}
theorem zE:OpM X E (compareOp .Is) (pW false):=by
 rintro pins s σ H x y v u Q I rx ry ⟨W,m,d,e,sm,rd,re,p⟩
 cases d<;>cases e<;>try exact p.elim
 rename_i a b
 rw [rd.bl'] at rx
 rw [re.bl'] at ry
 refine op_is_bl pins s σ H _ _ v u Q I rx ry ⟨a,b,rfl,rfl,?_⟩
 have:=Post.now (b:=V.bl (decide (a=b)^^false)) p sm bf
 simpa using this
theorem v7:OpM X E (compareOp .IsNot) (pW true):=by
 rintro pins s σ H x y v u Q I rx ry ⟨W,m,d,e,sm,rd,re,p⟩
 cases d<;>cases e<;>try exact p.elim
 rename_i a b
 rw [rd.bl'] at rx
 rw [re.bl'] at ry
 refine op_isnot_bl pins s σ H _ _ v u Q I rx ry ⟨a,b,rfl,rfl,?_⟩
 have:=Post.now (b:=V.bl (decide (a=b)^^true)) p sm bf
 simpa using this
end
@[simp] theorem B4 (a b:Bool) (neg:Bool) (m:Mem):pW neg (.bl a) (.bl b) m=.ok (.bl (decide (a=b)^^neg)) m:=rfl
end Mir
namespace Mir
open PySem PySem.Spec PyProof.Rows L2
def mz:D→Option Key
 | .int i=>some (.inl i)
 | .str x=>some (.inr x)
 | _=>none
def lh:D→Option (List Int)
 | .tup ds=>aF intOf ds
 | _=>none
section
variable {κ:Type} [DecidableEq κ]
def il (kvs:List (κ×D)) (k:κ):Option D:=(kvs.find? fun kv=>decide (kv.1=k)).map (·.2)
def sG (kvs:List (κ×D)) (k:κ):Bool:=kvs.any fun kv=>decide (kv.1=k)
def putD (kvs:List (κ×D)) (k:κ) (v:D):List (κ×D):=if sG kvs k=true then kvs.map (fun kv=>if kv.1=k then (kv.1,v) else kv) else kvs++[(k,v)]
end
def mw (m:Mem) (d y:D):Option (Option D):=match d with
 | .ref i=>match m[i]? with
  | some (.dK kvs)=>(mz y).map fun k=>il kvs k
  | some (.dT kvs)=>(lh y).map fun k=>il kvs k
  | some (.dKz kvs)=>(mz y).map fun k=>il kvs k
  | some (.dTz kvs)=>(lh y).map fun k=>il kvs k
  | _=>none
 | _=>none
def pH (neg:Bool) (y d:D) (m:Mem):R D:=match mw m d y with
 | some o=>.ok (.bl (o.isSome^^neg)) m
 | none=>.stk
def o4 (d y:D) (m:Mem):R D:=match mw m d y with
 | some (some v)=>.ok v m
 | _=>.stk
def jP (d y v:D) (m:Mem):R Unit:=match d with
 | .ref i=>match m[i]? with
  | some (.dK kvs)=>match mz y with
   | some k=>if kvs.length < sizeLine then .ok () (m.set i (.dK (putD kvs k v))) else .stk
   | none=>.stk
  | some (.dT kvs)=>match lh y with
   | some k=>if kvs.length < sizeLine then .ok () (m.set i (.dT (putD kvs k v))) else .stk
   | none=>.stk
  | _=>.stk
 | _=>.stk
def vf (co ci cv:EM):SM:=fun η m=>(cv η m).toS fun v m1=>(co η m1).toS fun o m2=>(ci η m2).toS fun i m3=>(jP o i v m3).toS fun _ m4=>.nxt η m4
def fD (t:Bool):Cell:=match t with
 | true=>.dT []
 | false=>.dK []
def ik (t:Bool):Option Cell→Bool
 | some (.dK [])=>!t
 | some (.dT [])=>t
 | _=>false
def sd (t:Bool) (ck cv:EM):EM:=fun η m=>(ck η (m++[fD t])).bind fun k m1=>(cv η m1).bind fun v m2=>
 if ik t m2[m.length]?=true then (jP (.ref m.length) k v m2).bind fun _ m3=>.ok (.ref m.length) m3 else .stk
theorem oL {α β γ δ:Type} {F:α→β→Prop} {G:γ→δ→Prop} {f:α→γ} {g:β→δ} (h:∀ a b,F a b→G (f a) (g b)):∀ {xs:List α} {ys:List β},Paired F xs ys→Paired G (xs.map f) (ys.map g)
 | _,_,.nil=>.nil
 | _,_,.cons r t=>.cons (h _ _ r) (oL h t)
theorem oW {α β:Type} {F:α→β→Prop}:∀ {xs:List α} {ys:List β} {x:α} {y:β},Paired F xs ys→F x y→Paired F (xs++[x]) (ys++[y])
 | _,_,_,_,.nil,h=>.cons h .nil
 | _,_,_,_,.cons r t,h=>.cons r (oW t h)
section
variable {κ:Type} [DecidableEq κ] {K:PySem.W.Frag} {W:Wd} {H:Hp}
theorem ju:∀ {kvs:List (κ×D)} {us:List (κ×V)},us.map (·.1)=kvs.map (·.1)→Reps K W H (kvs.map (·.2)) (us.map (·.2))→∀ k,match il kvs k with
  | some d=>∃ v,valV us k=some v∧Rep K W H d v
  | none=>valV us k=none
 | [],us,h,r,k=>by
  cases us with
  | nil=>rfl
  | cons u us=>cases h
 | kv ::kvs,us,h,r,k=>by
  cases us with
  | nil=>cases h
  | cons u us=>
   rw [List.map_cons,List.map_cons] at h
   injection h with h1 h2
   obtain ⟨v,t,e,r1,r2⟩:=r.cons'
   rw [List.map_cons] at e
   injection e with e1 e2
   subst e1 e2
   by_cases hk:kv.1=k
   ·have:il (kv ::kvs) k=some kv.2:=by simp [il,List.find?_cons,hk]
    rw [this]
    exact ⟨u.2,valV_pos (h1.trans hk),r1⟩
   ·have:il (kv ::kvs) k=il kvs k:=by simp [il,List.find?_cons,hk]
    rw [this,valV_neg (fun e=>hk (h1▸e))]
    exact ju h2 r2 k
theorem kU {α:Type}:∀ {kvs:List (κ×D)} {us:List (κ×α)},us.map (·.1)=kvs.map (·.1)→∀ k,(us.any fun kv=>decide (kv.1=k))=sG kvs k
 | [],us,h,k=>by
  cases us with
  | nil=>rfl
  | cons u us=>cases h
 | kv ::kvs,us,h,k=>by
  cases us with
  | nil=>cases h
  | cons u us=>
   rw [List.map_cons,List.map_cons] at h
   injection h with h1 h2
   unfold sG
   rw [List.any_cons,List.any_cons,h1,kU h2 k]
   rfl
theorem j2 {α:Type} {f:κ×α→κ×α} (hf:∀ x,(f x).1=x.1) (us:List (κ×α)):(us.map f).map (·.1)=us.map (·.1):=by
 rw [List.map_map]
 exact List.map_congr_left fun x _=>hf x
theorem qM {k:κ} {d:D} {v:V} (rd:Rep K W H d v):∀ {kvs:List (κ×D)} {us:List (κ×V)},us.map (·.1)=kvs.map (·.1)→Reps K W H (kvs.map (·.2)) (us.map (·.2))→
  Reps K W H ((kvs.map fun kv=>if kv.1=k then (kv.1,d) else kv).map (·.2)) ((us.map fun kv=>if kv.1=k then (kv.1,v) else kv).map (·.2))
 | [],us,h,r=>by
  cases us with
  | nil=>exact bN
  | cons u us=>cases h
 | kv ::kvs,us,h,r=>by
  cases us with
  | nil=>cases h
  | cons u us=>
   rw [List.map_cons,List.map_cons] at h
   injection h with h1 h2
   obtain ⟨v',t,e,r1,r2⟩:=r.cons'
   rw [List.map_cons] at e
   injection e with e1 e2
   subst e1 e2
   simp only [List.map_cons]
   refine bB ?_ (qM rd h2 r2)
   rw [h1]
   split
   ·exact rd
   ·exact r1
theorem xB {kvs:List (κ×D)} {us:List (κ×V)} (h:us.map (·.1)=kvs.map (·.1)) (k:κ) (d:D) (v:V):(putK us k v).map (·.1)=(putD kvs k d).map (·.1):=by
 unfold putK putD
 rw [kU h]
 split
 ·rw [j2 (fun x=>by split<;>rfl),j2 (fun x=>by split<;>rfl)]
  exact h
 ·rw [List.map_append,List.map_append,h]
  rfl
theorem sL {kvs:List (κ×D)} {us:List (κ×V)} (h:us.map (·.1)=kvs.map (·.1)) (r:Reps K W H (kvs.map (·.2)) (us.map (·.2))) (k:κ) {d:D} {v:V} (rd:Rep K W H d v):Reps K W H ((putD kvs k d).map (·.2)) ((putK us k v).map (·.2)):=by
 unfold putK putD
 rw [kU h]
 split
 ·exact qM rd h r
 ·rw [List.map_append,List.map_append]
  exact r.append (fE rd)
end
theorem kY {K:PySem.W.Frag} {W:Wd} {H:Hp} {y:D} {v:V} {k:Key} (r:Rep K W H y v) (h:mz y=some k):v=kV k:=by
 cases y<;>cases h
 ·exact r.int'
 ·exact r.str'
theorem qw {K:PySem.W.Frag} {W:Wd} {H:Hp}:∀ {ds:List D} {vs:List V} {bs:List Int},Reps K W H ds vs→aF intOf ds=some bs→vs=bs.map V.int
 | [],vs,bs,r,h=>by rw [r.nil']; cases h; rfl
 | d ::ds,vs,bs,r,h=>by
  obtain ⟨v,vr,rfl,r1,r2⟩:=r.cons'
  obtain ⟨a,as,rfl,h1,h2⟩:=dt h
  rw [qw r2 h2]
  cases d<;>cases h1
  rw [r1.int']
  rfl
theorem kS {K:PySem.W.Frag} {W:Wd} {H:Hp} {y:D} {v:V} {k:List Int} (r:Rep K W H y v) (h:lh y=some k):∃ b,v=.ref b∧SqF K H b (k.map V.int):=by
 cases y with
 | tup ds=>
  obtain ⟨a,vs,e,q,rs⟩:=r.tupF'
  refine ⟨a,e,?_⟩
  have:aF intOf ds=some k:=h
  rw [qw rs this] at q
  exact q
 | _=>cases h
abbrev kvI (p:List Int×Addr×V) (q:List Int×Addr×Value):Prop:=p.1=q.1∧p.2.1=q.2.1∧RelV p.2.2 q.2.2
theorem items_int {P:Program} {w:World}:∀ {ks:List Int} {us:List Value},Vals (ks.map V.int) us→ItemsAre (intKind P w) ks us
 | [],_,r=>by rw [List.map_nil] at r; cases r; exact .nil
 | k ::ks,_,r=>by
  rw [List.map_cons] at r
  cases r with
  | @cons _ b _ _ h t=>
   obtain ⟨tk,e⟩:=(show ∃ tk,b=Value.int k tk from h)
   subst e
   exact .cons (by simp [PySem.intKind,Value.isInt]) (items_int t)
section
variable {X:Cx} {E:XK} {pins:List (Addr×Obj)} {σ:SL} {H:Hp} {s:Shared} {a:Addr}
theorem jh {b:Addr} {k:List Int} (I:Inv X pins σ H s) (q:SqF X.K H b (k.map V.int)):(tupleKind (intKind X.prog X.w)).is s.heap k b:=by
 obtain ⟨its,r,⟨o,h1,h2,n,h3⟩,_⟩:=I.tuple q.t
 exact ⟨o,its.toArray,n,h1,h2,h3,by simpa using items_int r⟩
theorem jE {us:List (List Int×Addr×V)} (I:Inv X pins σ H s) (e:Rd H a (d8 a us)) (ks:∀ x∈us,SqF X.K H x.2.1 (x.1.map V.int)):us.length≤sizeLine∧(a ==sysModules)=false∧
  ∃ xs,Paired kvI us xs∧s.heap.DictOfH (tupleKind (intKind X.prog X.w)) a xs:=by
 have e':ObjOk X.prog X.w H s.heap a (d8 a us):=by
  rcases e with e | ⟨od,e⟩
  ·exact I.hok a _ e
  ·exact (I.hok a _ e).2
 obtain ⟨⟨z,y,xs,r,o,es,ep,h1,h2,h3,h4,h5⟩,_⟩:=e'
 refine ⟨z,y,xs,r,o,es,ep,h1,h2,h3,h4,fun x hx=>?_,h5⟩
 have all:∀ {us:List (List Int×Addr×V)} {xs:List (List Int×Addr×Value)},Paired kvI us xs→(∀ x∈us,SqF X.K H x.2.1 (x.1.map V.int))→∀ x∈xs,(tupleKind (intKind X.prog X.w)).is s.heap x.1 x.2.1:=by
  intro us xs r
  induction r with
  | nil=>intro _ x hx; exact nomatch hx
  | @cons p q ps qs hq t ih=>
   intro ks x hx
   rcases List.mem_cons.mp hx with e | hx
   ·rw [e,←hq.1,←hq.2.1]
    exact jh I (ks p List.mem_cons_self)
   ·exact ih (fun x h=>ks x (List.mem_cons_of_mem _ h)) x hx
 exact all r ks x hx
theorem qN {us:List (List Int×Addr×V)} {xs:List (List Int×Addr×Value)} (r:Paired kvI us xs) (k:List Int):RelO (valV (us.map fun x=>(x.1,x.2.2)) k) ((atKey xs k).map (·.2)):=by
 induction r with
 | nil=>exact trivial
 | @cons p q ps qs hq t ih=>
  rw [List.map_cons]
  by_cases e:p.1=k
  ·rw [valV_pos (show (p.1,p.2.2).1=k from e)]
   have:atKey (q ::qs) k=some q.2:=by simp [atKey,List.find?_cons,←hq.1,e]
   rw [this]
   exact hq.2.2
  ·rw [valV_neg (show ¬ (p.1,p.2.2).1=k from e)]
   have:atKey (q ::qs) k=atKey qs k:=by simp [atKey,List.find?_cons,←hq.1,e]
   rw [this]
   exact ih
structure DRep (X:Cx) (W:Wd) (H:Hp) (a:Addr) (kvs:List (List Int×D)) (us:List (List Int×Addr×V)):Prop where
 at':H a=some (d8 a us)
 ks:us.map (·.1)=kvs.map (·.1)
 sq:∀ x∈us,SqF X.K H x.2.1 (x.1.map V.int)
 vs:Reps X.K W H (kvs.map (·.2)) (us.map (·.2.2))
theorem DRep.val {W:Wd} {kvs:List (List Int×D)} {us:List (List Int×Addr×V)} (h:DRep X W H a kvs us) (k:List Int):match il kvs k with
  | some d=>∃ v,valV (us.map fun x=>(x.1,x.2.2)) k=some v∧Rep X.K W H d v
  | none=>valV (us.map fun x=>(x.1,x.2.2)) k=none:=
 ju (us:=us.map fun x=>(x.1,x.2.2)) (by rw [List.map_map]; exact h.ks) (by rw [List.map_map]; exact h.vs) k
end
end Mir
namespace Mir
open PySem PySem.Spec PyProof.Rows L2
section
variable {X:Cx} {E:XK} {pins:List (Addr×Obj)} {σ:SL} {H:Hp} {s:Shared} {W:Wd} {m:Mem}
def RepO (K:PySem.W.Frag) (W:Wd) (H:Hp) (o:Option D) (w:Option V):Prop:=match o with
 | some d=>∃ v,w=some v∧Rep K W H d v
 | none=>w=none
theorem RepO.iso {K:PySem.W.Frag} {W:Wd} {H:Hp} {o:Option D} {w:Option V} (h:RepO K W H o w):w.isSome=o.isSome:=by
 cases o with
 | none=>rw [show w=none from h]; rfl
 | some d=>obtain ⟨v,e,_⟩:=h; rw [e]; rfl
theorem dgk {a:Addr} {us:List (Key×V)} {k:Key} (e:Rd H a (.dK us)):DGet H a (kV k) (valV us k):=.inl ⟨us,k,e,rfl,rfl⟩
inductive Look' (X:Cx) (W:Wd) (H:Hp) (a:Addr) (y:V) (o:Option D):Prop where
 | k (us:List (Key×V)) (k:Key) (w:Option V) (h:Rd H a (.dK us)) (hy:y=kV k) (hw:valV us k=w) (hr:RepO X.K W H o w)
 | t (us:List (List Int×Addr×V)) (k:List Int) (b:Addr) (w:Option V) (h:Rd H a (d8 a us)) (ks:∀ x∈us,SqF X.K H x.2.1 (x.1.map V.int)) (hy:y=.ref b) (hb:SqF X.K H b (k.map V.int)) (hw:valV (us.map fun x=>(x.1,x.2.2)) k=w) (hr:RepO X.K W H o w)
theorem qX {d y:D} {x v:V} {o:Option D} (sm:Sim X.K X.mg W H m) (rd:Rep X.K W H d x) (ry:Rep X.K W H y v) (h:mw m d y=some o):∃ a,x=.ref a∧Look' X W H a v o:=by
 unfold mw at h
 cases d with
 | ref i=>
  obtain ⟨a,e1,e2⟩:=rd.ref'
  refine ⟨a,e1,?_⟩
  dsimp only at h
  cases hm:m[i]? with
  | none=>rw [hm] at h; cases h
  | some c=>
   rw [hm] at h
   have q:=sm.cell i a c e2 hm
   cases c with
   | dK kvs=>
    obtain ⟨us,q1,q2,q3⟩:=q
    dsimp only at h
    cases hk:mz y with
    | none=>rw [hk] at h; cases h
    | some k=>
     rw [hk] at h
     simp only [Option.map_some,Option.some.injEq] at h
     have e:=ju q2 q3 k
     rw [h] at e
     exact .k us k (valV us k) (.inl q1) (kY ry hk) rfl e
   | dT kvs=>
    obtain ⟨us,q1,q2,q3,q4⟩:=q
    dsimp only at h
    cases hk:lh y with
    | none=>rw [hk] at h; cases h
    | some k=>
     rw [hk] at h
     simp only [Option.map_some,Option.some.injEq] at h
     have e:=DRep.val (X:=X) (⟨q1,q2,q3,q4⟩:DRep X W H a kvs us) k
     rw [h] at e
     obtain ⟨b,hb1,hb2⟩:=kS ry hk
     exact .t us k b _ (.inl q1) q3 hb1 hb2 rfl e
   | dKz kvs=>
    obtain ⟨o,us,q1,q2,q3⟩:=q
    dsimp only at h
    cases hk:mz y with
    | none=>rw [hk] at h; cases h
    | some k=>
     rw [hk] at h
     simp only [Option.map_some,Option.some.injEq] at h
     have e:=ju q2 q3 k
     rw [h] at e
     exact .k us k (valV us k) (.inr ⟨o,q1⟩) (kY ry hk) rfl e
   | dTz kvs=>
    obtain ⟨o,us,q1,q2,q3,q4⟩:=q
    dsimp only at h
    cases hk:lh y with
    | none=>rw [hk] at h; cases h
    | some k=>
     rw [hk] at h
     simp only [Option.map_some,Option.some.injEq] at h
     have e:=ju (kvs:=kvs) (us:=us.map fun x=>(x.1,x.2.2)) (by rw [List.map_map]; exact q2) (by rw [List.map_map]; exact q4) k
     rw [h] at e
     obtain ⟨b,hb1,hb2⟩:=kS ry hk
     exact .t us k b _ (.inr ⟨o,q1⟩) q3 hb1 hb2 rfl e
   | _=>cases h
 | _=>cases h
theorem Look'.typeIs {a:Addr} {y:V} {o:Option D} (I:Inv X pins σ H s) (l:Look' X W H a y o):s.TypeIs (.ref a) "dict":=by
 cases l with
 | k us k w h hy hw hr=>exact dict_typeIs I (dgk (k:=k) h)
 | t us k b w h ks hy hb hw hr=>
  obtain ⟨_,_,xs,_,dd⟩:=jE I h ks
  exact dd.typeIs
theorem yG {neg:Bool} {a:Addr} {y:V} {u:Value} {o:Option D} {Q:Value→Shared→Prop} {Ex:Value→Shared→Prop} (hu:X.A.units+1 < cLine) (I:Inv X pins σ H s) (l:Look' X W H a y o) (ry:RelV y u) (h:∀ s',Inv X pins σ H s'→Q (.bool (o.isSome^^neg)) s') :
  wpAny (model X.prog X.w) X.A (compareOp (vk neg) u (.ref a)) Q Ex s:=by
 cases l with
 | k us k w hd hy hw hr=>
  have e:=hr.iso
  rw [←hw] at e
  subst hy
  cases neg with
  | false=>exact d_in hu I (dgk hd) ry fun s' I'=>by rw [e]; simpa using h s' I'
  | true=>exact d_notIn hu I (dgk hd) ry fun s' I'=>by rw [e]; simpa using h s' I'
 | t us k b w hd ks hy hb hw hr=>
  have e:=hr.iso
  rw [←hw] at e
  subst hy
  cases (show u=Value.ref b from ry)
  obtain ⟨z,y,xs,rel,dd⟩:=jE I hd ks
  have q:=(qN rel k).isSome_eq
  rw [Option.isSome_map,e] at q
  cases neg with
  | false=>
   refine wpAny_in_heap (tupleKind_room_in1 hu) (jh I hb) y dd ?_
   rw [←q]
   simpa using h _ (I.tok _)
  | true=>
   refine wpAny_notIn_heap (tupleKind_room_in1 hu) (jh I hb) y dd ?_
   rw [←q]
   simpa using h _ (I.tok _)
theorem xK {a:Addr} {y:V} {u:Value} {d:D} {Q:Value→Shared→Prop} {Ex:Value→Shared→Prop} (hu:X.A.units+1 < cLine) (I:Inv X pins σ H s) (l:Look' X W H a y (some d)) (ry:RelV y u) (h:∀ v w' s',Inv X pins σ H s'→RelV v w'→Rep X.K W H d v→Q w' s') :
  wpAny (model X.prog X.w) X.A (getItem (.ref a) u) Q Ex s:=by
 cases l with
 | k us k w hd hy hw hr=>
  obtain ⟨v,e,r⟩:=hr
  subst hy e
  exact d_getItem hu I (by rw [←hw]; exact dgk hd) ry fun w' s' I' rw'=>h v w' s' I' rw' r
 | t us k b w hd ks hy hb hw hr=>
  obtain ⟨v,e,r⟩:=hr
  subst hy e
  cases (show u=Value.ref b from ry)
  obtain ⟨z,y,xs,rel,dd⟩:=jE I hd ks
  obtain ⟨w',hw',rw'⟩:=RelO.some_of (v:=v) (o:=(atKey xs k).map (·.2)) (by rw [←hw]; exact qN rel k)
  obtain ⟨p,hp,hp2⟩:=Option.map_eq_some_iff.mp hw'
  refine wpAny_getItem_heap (tupleKind_room_in1 hu) (jh I hb) dd hp ?_
  rw [hp2]
  exact h v w' _ (I.tok _) rw' r
theorem yN {neg:Bool} (hu:X.A.units+1 < cLine):OpM X E (compareOp (vk neg)) (pH neg):=by
 rintro pins s σ H x y v u Q I rx ry ⟨W,m,d,e,sm,rd,re,p⟩
 unfold pH at p
 cases h:mw m e d with
 | none=>rw [h] at p; exact p.elim
 | some o=>
  rw [h] at p
  obtain ⟨a,rfl,l⟩:=qX sm re rd h
  obtain rfl:u=Value.ref a:=ry
  exact yG hu I l rx fun s' I'=>⟨.bl (o.isSome^^neg),H,I',rfl,p.now sm bf⟩
theorem v8 (hu:X.A.units+1 < cLine):OpM X E (compareOp .NotIn) (pH true):=yN (neg:=true) hu
theorem zc {o i:Expr} {pos:Pos} {co ci:EM} (hu:X.A.units+1 < cLine) (ho:MEx X E o co) (hi:MEx X E i ci) (hs:NoSl i):MEx X E (.Subscript o i pos) (mOp o4 co ci):=by
 refine ⟨fun pins s σ H Q I h=>?_⟩
 have h2:=two h
 refine subD_of PySem.F.slot_dict_getitem.lookup hs (thn (ho.run pins s σ H _ I h2) fun u s1 ⟨x,H1,I1,rx,q1⟩=>thn (hi.run pins s1 σ H1 _ I1 q1) fun iv s2 ⟨y,H2,I2,ry,W,m,d,e,sm,rd,re,p⟩=>?_)
 unfold o4 at p
 cases hg:mw m d e with
 | none=>rw [hg] at p; exact p.elim
 | some o=>
  cases o with
  | none=>rw [hg] at p; exact p.elim
  | some z=>
   rw [hg] at p
   obtain ⟨a,rfl,l⟩:=qX sm rd re hg
   obtain rfl:u=Value.ref a:=rx
   exact ⟨l.typeIs I2,xK hu I2 l ry fun v w' s3 I3 rw' r=>⟨v,H2,I3,rw',p.now sm r⟩⟩
def ia (us:List (List Int×Addr×V)) (k:List Int) (b:Addr) (v:V):List (List Int×Addr×V):=
 if (us.any fun x=>decide (x.1=k))=true then us.map (fun x=>if x.1=k then (x.1,x.2.1,v) else x) else us++[(k,b,v)]
theorem v3 {us:List (List Int×Addr×V)} {xs:List (List Int×Addr×Value)} (r:Paired kvI us xs) (k:List Int):(atKey xs k).isSome=us.any fun x=>decide (x.1=k):=by
 induction r with
 | nil=>rfl
 | @cons p q ps qs hq t ih=>
  rw [List.any_cons]
  by_cases e:p.1=k
  ·have:atKey (q ::qs) k=some q.2:=by simp [atKey,List.find?_cons,←hq.1,e]
   rw [this,decide_eq_true e]
   rfl
  ·have:atKey (q ::qs) k=atKey qs k:=by simp [atKey,List.find?_cons,←hq.1,e]
   rw [this,decide_eq_false e,ih]
   rfl
theorem yY {us:List (List Int×Addr×V)} {xs:List (List Int×Addr×Value)} (r:Paired kvI us xs) (k:List Int) (b:Addr) {v:V} {u:Value} (rv:RelV v u):Paired kvI (ia us k b v) (storedH xs k b u):=by
 unfold ia storedH
 rw [v3 r]
 split
 ·refine oL (fun p q hq=>?_) r
  unfold putAt
  rw [←hq.1]
  split
  ·exact ⟨rfl,hq.2.1,rv⟩
  ·exact hq
 ·exact oW r ⟨rfl,rfl,rv⟩
theorem wH (us:List (List Int×Addr×V)) (k:List Int) (b:Addr) (v:V):(ia us k b v).length≤us.length+1:=by
 unfold ia
 split<;>simp
theorem vR {us:List (List Int×Addr×V)} {kvs:List (List Int×D)} (h:us.map (·.1)=kvs.map (·.1)) (k:List Int) (b:Addr) (v:V) (d:D):(ia us k b v).map (·.1)=(putD kvs k d).map (·.1):=by
 unfold ia putD
 rw [kU h]
 split
 ·rw [j2 (fun x=>by split<;>rfl),j2 (fun x=>by split<;>rfl)]
  exact h
 ·rw [List.map_append,List.map_append,h]
  rfl
theorem wz (us:List (List Int×Addr×V)) (k:List Int) (b:Addr) (v:V):(ia us k b v).map (fun x=>(x.1,x.2.2))=putK (us.map fun x=>(x.1,x.2.2)) k v:=by
 unfold ia putK
 have e:((us.map fun x=>(x.1,x.2.2)).any fun kv=>decide (kv.1=k))=us.any fun x=>decide (x.1=k):=by
  rw [List.any_map]
  rfl
 rw [e]
 split
 ·rw [List.map_map,List.map_map]
  refine List.map_congr_left fun x _=>?_
  show (fun x:List Int×Addr×V=>(x.1,x.2.2)) (if x.1=k then (x.1,x.2.1,v) else x)=if x.1=k then (x.1,v) else (x.1,x.2.2)
  split<;>rfl
 ·rw [List.map_append]
  rfl
theorem xH {us:List (List Int×Addr×V)} {k:List Int} {b:Addr} {v:V} {x:List Int×Addr×V} (h:x∈ia us k b v):(∃ y∈us,x.1=y.1∧x.2.1=y.2.1)∨(x.1=k∧x.2.1=b):=by
 unfold ia at h
 split at h
 ·obtain ⟨y,hy,e⟩:=List.mem_map.mp h
  refine .inl ⟨y,hy,?_⟩
  rw [←e]
  split<;>exact ⟨rfl,rfl⟩
 ·rcases List.mem_append.mp h with h | h
  ·exact .inl ⟨x,h,rfl,rfl⟩
  ·have:x=(k,b,v):=by simpa using h
   rw [this]
   exact .inr ⟨rfl,rfl⟩
theorem Ah {o i:D} {d:D} {x y v:V} {u iv r:Value} {Q:Unit→Shared→Prop} {Ex:Value→Shared→Prop} {Q':Unit→Hp→Prop} (hu:X.A.units+1 < cLine) (I:Inv X pins σ H s) (sm:Sim X.K X.mg W H m) (ro:Rep X.K W H o x) (ri:Rep X.K W H i y) (rd:Rep X.K W H d v)
  (rx:RelV x u) (ry:RelV y iv) (rv:RelV v r) (p:Post X.K X.mg E (fun _ _ _ (_:Unit)=>True) W H Q' (jP o i d m)) (h:∀ s' H',Inv X pins σ H' s'→Q' () H'→Q () s') :
  wpAny (model X.prog X.w) X.A (setItem u iv r) Q Ex s:=by
 unfold jP at p
 cases o with
 | ref j=>
  obtain ⟨a,rfl,e2⟩:=ro.ref'
  obtain rfl:u=Value.ref a:=rx
  dsimp only at p
  cases hm:m[j]? with
  | none=>rw [hm] at p; exact p.elim
  | some c=>
   rw [hm] at p
   have q:=sm.cell j a c e2 hm
   have hin:a∈W.i:=List.mem_of_getElem? e2
   cases c with
   | dK kvs=>
    obtain ⟨us,q1,q2,q3⟩:=q
    dsimp only at p
    cases hk:mz i with
    | none=>rw [hk] at p; exact p.elim
    | some k=>
     rw [hk] at p
     dsimp only at p
     split at p
     ·rename_i hl
      obtain rfl:=kY ri hk
      have hlen:us.length=kvs.length:=by have:=congrArg List.length q2; simpa using this
      refine d_setItem hu I (DPut.k (v:=v) q1 (by rw [hlen]; exact hl)) ry rv fun s' I'=>h s' _ I' ?_
      have e:=Ext.mut (o':=.dK (putK us k v)) hin q1 rfl
      exact p () W _ e (sm.mut e2 ⟨_,upd_same,xB q2 k d v,sL q2 (q3.ext e) k (rd.ext e)⟩) trivial
     ·exact p.elim
   | dT kvs=>
    obtain ⟨us,q1,q2,q3,q4⟩:=q
    dsimp only at p
    cases hk:lh i with
    | none=>rw [hk] at p; exact p.elim
    | some k=>
     rw [hk] at p
     dsimp only at p
     split at p
     ·rename_i hl
      obtain ⟨b,rfl,hb⟩:=kS ri hk
      cases (show iv=Value.ref b from ry)
      have hlen:us.length=kvs.length:=by have:=congrArg List.length q2; simpa using this
      obtain ⟨z,ym,xs,rel,dd⟩:=jE I (.inl q1) q3
      have hz:xs.length≤sizeLine:=by rw [←Paired.length rel]; exact z
      refine wpAny_setItem_heap (hsz:=hz) (tupleKind_room_in1 hu) (jh I hb) dd fun h' dd' hs=>h _ (upd H a (d8 a (ia us k b v))) ?_ ?_
      ·obtain ⟨o,es,ep,hq,h2,h3,h4,_,h5⟩:=dd'
       refine d_write I (by rw [q1]; exact True.intro) hs ⟨o,hq⟩ ⟨⟨?_,ym,_,yY rel k b rv,o,es,ep,hq,h2,h3,h4,h5⟩,⟨o,hq⟩,?_⟩
       ·have:=wH us k b v
        omega
       ·rintro h1 h2 ⟨z1,z2,z3,z4,o',es',ep',z5,z6⟩ hh
        exact ⟨z1,z2,z3,z4,o',es',ep',hh _ z5,z6⟩
      ·have e:=Ext.mut (o':=d8 a (ia us k b v)) hin q1 rfl
       refine p () W _ e (sm.mut e2 ⟨_,upd_same,vR q2 k b v d,fun x hx=>?_,?_⟩) trivial
       ·rcases xH hx with ⟨y,hy,e1,e2⟩ | ⟨e1,e2⟩
        ·rw [e1,e2]; exact e.sqF (q3 y hy)
        ·rw [e1,e2]; exact e.sqF hb
       ·have:=sL (K:=X.K) (W:=W) (H:=upd H a (d8 a (ia us k b v))) (kvs:=kvs) (us:=us.map fun x=>(x.1,x.2.2)) (by rw [List.map_map]; exact q2) (by rw [List.map_map]; exact q4.ext e) k (rd.ext e)
        rw [←wz us k b v,List.map_map] at this
        exact this
     ·exact p.elim
   | _=>exact p.elim
 | _=>exact p.elim
theorem yE {o i value:Expr} {pos pos':Pos} {co ci cv:EM} (hu:X.A.units+1 < cLine) (ho:MEx X E o co) (hi:MEx X E i ci) (hv:MEx X E value cv) (hs:swapsWith value (some (.Subscript o i pos')) pos.line X.env=pure false:=by rfl) :
  MS X E (.Assign [.Subscript o i pos'] value pos) (vf co ci cv):=by
 refine ⟨fun pins s σ H Dn I h=>?_⟩
 obtain ⟨W,η,m,sm,n,p⟩:=h
 have p1:=PostS.bind (Rl:=Rep X.K) p
 refine wpAny_Assign_Subscript (thn (hv.run pins s σ H _ I ⟨W,η,m,sm,n,p1⟩) fun r s1 ⟨v,H1,I1,rv,W1,d,m1,e1,sm1,rd,p2⟩=>?_) hs
 have p2:=PostS.bind (Rl:=Rep X.K) p2
 refine thn (ho.run pins s1 σ H1 _ I1 ⟨W1,η,m1,sm1,n.ext e1,p2⟩) fun u s2 ⟨x,H2,I2,rx,W2,od,m2,e2,sm2,ro,p3⟩=>?_
 have p3:=PostS.bind (Rl:=Rep X.K) p3
 refine thn (hi.run pins s2 σ H2 _ I2 ⟨W2,η,m2,sm2,(n.ext e1).ext e2,p3⟩) fun iv s3 ⟨y,H3,I3,ry,W3,idd,m3,e3,sm3,ri,p4⟩=>?_
 have p4:=PostS.bind (Rl:=fun _ _ _ (_:Unit)=>True) p4
 refine Ah (E:=E) hu I3 sm3 (ro.ext e3) ri ((rd.ext e2).ext e3) rx ry rv p4 fun s4 H4 I4 ⟨W4,_,m4,e4,sm4,_,p5⟩=>?_
 exact ⟨σ,H4,I4,p5 σ W4 H4 (Ext.refl _ _) sm4 ((((n.ext e1).ext e2).ext e3).ext e4)⟩
end
end Mir
namespace Mir
open PySem PySem.Spec PyProof.Rows L2
section
variable {X:Cx} {E:XK} {pins:List (Addr×Obj)} {σ:SL} {H:Hp} {s:Shared} {W:Wd} {m:Mem}
theorem ph {a:Addr} {us:List (List Int×Addr×V)} {h1 h2:Heap} (q:us.length≤sizeLine∧(a ==sysModules)=false∧∃ xs:List (List Int×Addr×Value),Paired kvI us xs∧
  ∃ o es ep,h1.get? a=some o∧o.ExactDict∧o.data=.dict es ep∧es.toList=xs.map xb∧(xs.map (·.1)).Nodup) (hh:∀ o,h1.get? a=some o→h2.get? a=some o):us.length≤sizeLine∧(a ==sysModules)=false∧∃ xs:List (List Int×Addr×Value),Paired kvI us xs∧
  ∃ o es ep,h2.get? a=some o∧o.ExactDict∧o.data=.dict es ep∧es.toList=xs.map xb∧(xs.map (·.1)).Nodup:=by
 obtain ⟨z1,z2,z3,z4,o',es',ep',z5,z6⟩:=q
 exact ⟨z1,z2,z3,z4,o',es',ep',hh _ z5,z6⟩
theorem vJ {P:Program} {w:World} {H:Hp} (h:Heap) (hb:sysModules < h.objs.size):ObjOk P w H (h.push { cls:=.type "dict",data:=.dict #[] }) h.objs.size (d8 h.objs.size []):=
 ⟨⟨Nat.zero_le _,beq_eq_false_iff_ne.mpr (Ne.symm (Nat.ne_of_lt hb)),[],.nil,_,#[],0,Heap.get?_push_size _ rfl,⟨rfl,rfl,rfl⟩,rfl,rfl,List.nodup_nil⟩,⟨_,Heap.get?_push_size _ rfl⟩,fun h1 h2 q hh=>ph q hh⟩
def jt (t:Bool) (p:Addr):HO:=match t with
 | true=>d8 p []
 | false=>.dK []
theorem vb (t:Bool) {P:Program} {w:World} {H:Hp} (h:Heap) (hb:sysModules < h.objs.size):ObjOk P w H (h.push { cls:=.type "dict",data:=.dict #[] }) h.objs.size (jt t h.objs.size):=by
 cases t with
 | true=>exact vJ h hb
 | false=>exact dk_empty h hb
theorem vI (t:Bool) {W:Wd} {H:Hp} {p:Addr} (h:H p=some (jt t p)):CellOk X.K X.mg W H p (fD t):=by
 cases t with
 | true=>exact ⟨[],h,rfl,(fun x hx=>absurd hx List.not_mem_nil),bN⟩
 | false=>exact ⟨[],h,rfl,bN⟩
theorem w7 {W:Wd} {p:Addr} (h:W.i.length=m.length):(W.add p).i[m.length]?=some p:=by
 show (W.i++[p])[m.length]?=some p
 rw [←h,List.getElem?_append_right (Nat.le_refl _),Nat.sub_self]
 rfl
theorem lN {t:Bool} {o:Option Cell} (h:ik t o=true):o=some (fD t):=by
 unfold ik at h
 split at h
 ·cases t<;>first | rfl | cases h
 ·cases t<;>first | rfl | cases h
 ·cases h
theorem xa (t:Bool) {k v:Expr} {pos:Pos} {ck cv:EM} (hu:X.A.units+1 < cLine) (hk:MEx X E k ck) (hv:MEx X E v cv):MEx X E (.Dict [some k] [v] pos) (sd t ck cv):=by
 refine ⟨fun pins s σ H Q I ⟨W,η,m,sm,n,p⟩=>?_⟩
 have hn:=I.hok.fresh (Nat.le_refl s.heap.objs.size)
 have e:Ext W H (W.add s.heap.objs.size) (upd H s.heap.objs.size (jt t s.heap.objs.size)):=Ext.alloc hn (sm.ninz hn)
 have I1:=I.laid (a:=s.heap.objs.size) (o:=jt t s.heap.objs.size) (h':=s.heap.push { cls:=.type "dict",data:=.dict #[] }) (t':=s.toks) (fun _ _ q=>Heap.get?_push_of_some _ q) (Nat.le_refl _) (vb t s.heap I.big)
 have sm1:Sim X.K X.mg (W.add s.heap.objs.size) (upd H s.heap.objs.size (jt t s.heap.objs.size)) (m++[fD t]):=sm.alloc hn (vI t upd_same)
 have p0:=Post.ext e p
 have run:=(pps_cons (pos:=pos) hk hv pps_nil).run pins _ σ _ (fun ps H2=>∃ W2 x y m2 kd vd,ps=[(x,y)]∧Ext (W.add s.heap.objs.size) (upd H s.heap.objs.size (jt t s.heap.objs.size)) W2 H2∧Sim X.K X.mg W2 H2 m2∧Rep X.K W2 H2 kd x∧Rep X.K W2 H2 vd y∧
   Post X.K X.mg E (Rep X.K) W2 H2 Q (if ik t m2[m.length]?=true then (jP (.ref m.length) kd vd m2).bind fun _ m3=>.ok (.ref m.length) m3 else .stk)) I1
  ⟨_,η,_,sm1,n.ext e,(Post.bind (Rl:=Rep X.K) p0).imp fun x H1 ⟨W1,kd,m1,e1,s1,r1,p1⟩=>⟨W1,η,m1,s1,(n.ext e).ext e1,(Post.bind (Rl:=Rep X.K) p1).imp fun y H2 ⟨W2,vd,m2,e2,s2,r2,p2⟩=>⟨W2,x,y,m2,kd,vd,rfl,e1.trans e2,s2,r1.ext e2,r2,p2⟩⟩⟩
 have key:∀ {W2:Wd} {H2:Hp} {m2:Mem},Ext (W.add s.heap.objs.size) (upd H s.heap.objs.size (jt t s.heap.objs.size)) W2 H2→W2.i[m.length]?=some s.heap.objs.size:=fun {W2 H2 m2} e2=>by
  obtain ⟨tt,et⟩:=e2.pre
  have a:=w7 (m:=m) (p:=s.heap.objs.size) sm.len
  rw [et,List.getElem?_append_left (List.getElem?_eq_some_iff.mp a).1]
  exact a
 cases t with
 | false=>
  refine wpAny_Dict_walk (knd:=mixKind X.prog X.w) rfl rfl (fun z=>by cases z) (by show 1≤15; decide) (thn run fun ws s2 ⟨ps,H2,I2,rel,W2,x,y,m2,kd,vd,hps,e2,sm2,rk,rv,p2⟩=>?_)
  subst hps
  have hi:=key (m2:=m2) e2
  split at p2
  ·rename_i hE
   have hc:=lN hE
   obtain ⟨us,q1,q2,q3⟩:=sm2.cell _ _ _ hi hc
   have hus:us=[]:=by simpa using q2
   subst hus
   have p3:=Post.bind (Rl:=fun _ _ _ (_:Unit)=>True) p2
   unfold jP at p3
   dsimp only at p3
   rw [hc] at p3
   dsimp only [fD] at p3
   cases hk:mz kd with
   | none=>rw [hk] at p3; exact p3.elim
   | some kk=>
    rw [hk] at p3
    obtain rfl:=kY rk hk
    have hw:∃ wk wv,ws=[(wk,wv)]:=by
     cases rel with
     | @cons _ w1 _ _ rr rt=>cases rt; exact ⟨w1.1,w1.2,rfl⟩
    obtain ⟨wk,wv,rfl⟩:=hw
    cases rel with
    | cons rr rt=>
     cases rt with
     | nil=>
      obtain ⟨z,hd,vs0,r0,dd⟩:=dk_of I2.hok q1
      cases r0
      refine ⟨[(kk,wv)],?_,dd,fun h' dd' hs=>⟨.ref s.heap.objs.size,upd H2 s.heap.objs.size (.dK [(kk,y)]),?_,rfl,?_⟩⟩
      ·obtain ⟨rs,c,rk'⟩:=carries_of (P:=X.prog) (w:=X.w) (kvs:=[(kk,y)]) (.cons rr .nil)
       cases rk' with
       | cons a b=>
        cases b
        rename_i q
        obtain ⟨q1,q2⟩:=q
        have ha1:kk=q1:=a.1
        subst ha1
        obtain ⟨c1,c2,c3⟩:=c
        subst c2
        exact ⟨c1,rfl,trivial⟩
      ·have he:∃ q,h'.get? s.heap.objs.size=some q:=let ⟨q,_,_,hq,_⟩:=dd'; ⟨q,hq⟩
       exact d_write I2 (by rw [q1]; exact True.intro) hs he (dk_new (by show 1≤sizeLine; decide) hd (.cons ⟨rfl,rr.2⟩ .nil) dd')
      ·have hin:s.heap.objs.size∈W2.i:=List.mem_of_getElem? hi
       have e3:=Ext.mut (o':=.dK [(kk,y)]) hin q1 rfl
       have p4:∃ W1 a m1,Ext W2 H2 W1 (upd H2 s.heap.objs.size (.dK [(kk,y)]))∧Sim X.K X.mg W1 (upd H2 s.heap.objs.size (.dK [(kk,y)])) m1∧True∧Post X.K X.mg E (Rep X.K) W1 (upd H2 s.heap.objs.size (.dK [(kk,y)])) Q (.ok (.ref m.length) m1):=
        p3 () W2 _ e3 (sm2.mut hi ⟨[(kk,y)],upd_same,rfl,fE (rv.ext e3)⟩) trivial
       obtain ⟨W4,_,m4,e4,sm4,_,p5⟩:=p4
       refine p5 _ W4 _ (Ext.refl _ _) sm4 (nj ?_)
       obtain ⟨tt,et⟩:=e4.pre
       rw [et,List.getElem?_append_left (List.getElem?_eq_some_iff.mp hi).1]
       exact hi
  ·exact p2.elim
 | true=>
  have sh:=zip_pairTrees [some k] [v] X.env pos rfl rfl
  rw [arm_eval_Dict,sh,dictDisplay_pairs (pairTrees [some k] [v] X.env pos) (fun z=>by cases z) (by show 1 < 17; decide)]
  refine wpAny_bind (wpAny_standAt (wpAny_bind (wpAny_subDictH (knd:=tupleKind (intKind X.prog X.w)) (show X.A.units < cLine by omega) (by show 1≤15; decide) (thn run fun ws s2 ⟨ps,H2,I2,rel,W2,x,y,m2,kd,vd,hps,e2,sm2,rk,rv,p2⟩=>?_))))
  subst hps
  have hi:=key (m2:=m2) e2
  split at p2
  ·rename_i hE
   have hc:=lN hE
   obtain ⟨us,q1,q2,q3,q4⟩:=sm2.cell _ _ _ hi hc
   have hus:us=[]:=by simpa using q2
   subst hus
   have p3:=Post.bind (Rl:=fun _ _ _ (_:Unit)=>True) p2
   unfold jP at p3
   dsimp only at p3
   rw [hc] at p3
   dsimp only [fD] at p3
   cases hk:lh kd with
   | none=>rw [hk] at p3; exact p3.elim
   | some kk=>
    rw [hk] at p3
    obtain ⟨b,rfl,hb⟩:=kS rk hk
    have hw:∃ wk wv,ws=[(wk,wv)]:=by
     cases rel with
     | @cons _ w1 _ _ rr rt=>cases rt; exact ⟨w1.1,w1.2,rfl⟩
    obtain ⟨wk,wv,rfl⟩:=hw
    cases rel with
    | cons rr rt=>
     cases rt with
     | nil=>
      cases (show wk=Value.ref b from rr.1)
      obtain ⟨z,hd,xs,rel',dd⟩:=jE I2 (.inl q1) q3
      cases rel'
      refine ⟨[(kk,b,wv)],⟨rfl,rfl,jh I2 hb,trivial⟩,dd,fun h' tk dd' hs=>wpAny_pure ⟨.ref s.heap.objs.size,upd H2 s.heap.objs.size (d8 s.heap.objs.size [(kk,b,y)]),?_,rfl,?_⟩⟩
      ·obtain ⟨o,es,ep,hq,h2,h3,h4,_,h5⟩:=dd'
       refine d_write I2 (by rw [q1]; exact True.intro) hs ⟨o,hq⟩ ⟨⟨by show 1≤sizeLine; decide,hd,_,.cons ⟨rfl,rfl,rr.2⟩ .nil,o,es,ep,hq,h2,h3,h4,h5⟩,⟨o,hq⟩,fun h1 h2 q hh=>ph q hh⟩
      ·have hin:s.heap.objs.size∈W2.i:=List.mem_of_getElem? hi
       have e3:=Ext.mut (o':=d8 s.heap.objs.size [(kk,b,y)]) hin q1 rfl
       have p4:∃ W1 a m1,Ext W2 H2 W1 (upd H2 s.heap.objs.size (d8 s.heap.objs.size [(kk,b,y)]))∧Sim X.K X.mg W1 (upd H2 s.heap.objs.size (d8 s.heap.objs.size [(kk,b,y)])) m1∧True∧Post X.K X.mg E (Rep X.K) W1 (upd H2 s.heap.objs.size (d8 s.heap.objs.size [(kk,b,y)])) Q (.ok (.ref m.length) m1):=
        p3 () W2 _ e3 (sm2.mut hi ⟨[(kk,b,y)],upd_same,rfl,(fun x hx=>by
         have:x=(kk,b,y):=by simpa using hx
         rw [this]
         exact e3.sqF hb),fE (rv.ext e3)⟩) trivial
       obtain ⟨W4,_,m4,e4,sm4,_,p5⟩:=p4
       refine p5 _ W4 _ (Ext.refl _ _) sm4 (nj ?_)
       obtain ⟨tt,et⟩:=e4.pre
       rw [et,List.getElem?_append_left (List.getElem?_eq_some_iff.mp hi).1]
       exact hi
  ·exact p2.elim
end
end Mir
namespace Mir
namespace Se
open PySem PySem.Spec PyProof.Rows L2
def MOk (m:Nat):Prop:=MaskOk m∨m=511
def orb:Nat→Nat→List Nat
 | 0,_=>[]
 | n+1,x=>x ::orb n ((x*5+1) % 512)
theorem wm:∀ (n a x:Nat),x∈orb n (lcgN 511 a)→∃ b,b < n∧lcgN 511 (a+b)=x
 | 0,_,_,h=>nomatch h
 | n+1,a,x,h=>by
  rcases List.mem_cons.mp h with e | h
  ·exact ⟨0,Nat.succ_pos _,e.symm⟩
  ·obtain ⟨b,h1,h2⟩:=wm n (a+1) x h
   exact ⟨b+1,by omega,by rw [←h2]; congr 1; omega⟩
theorem yQ:((List.range 512).all fun j=>(orb 512 0).contains j)=true:=by decide +kernel
theorem wy {j:Nat} (hj:j≤511):∃ b,b≤511∧lcgN 511 b=j:=by
 have h:=List.all_eq_true.mp yQ j (List.mem_range.mpr (by omega))
 obtain ⟨b,h1,h2⟩:=wm 512 0 j (by show j∈orb 512 0; simpa using h)
 exact ⟨b,by omega,by rw [←h2]; congr 1; omega⟩
theorem wq:∀ k,lcgN 511 (512+k)=lcgN 511 k
 | 0=>by decide +kernel
 | k+1=>by
  show (lcgN 511 (512+k)*5+1) % (511+1)=(lcgN 511 k*5+1) % (511+1)
  rw [wq k]
theorem xQ {m:Nat} (hm:MOk m) {i j:Nat} (hi:i≤m) (hj:j≤m):∃ k,k≤m∧lcgI m i k=j:=by
 rcases hm with hm | rfl
 ·exact lcgI_all hm hi hj
 obtain ⟨a,ha,rfl⟩:=wy hi
 obtain ⟨b,hb,rfl⟩:=wy hj
 by_cases c:a≤b
 ·refine ⟨b - a,by omega,?_⟩
  rw [lcgN_add,show a+(b - a)=b by omega]
 ·refine ⟨b+512 - a,by omega,?_⟩
  rw [lcgN_add,show a+(b+512 - a)=512+b by omega,wq]
theorem wi {m:Nat} (hm:MOk m) (h:Int) {j:Nat} (hj:j≤m):∃ n,n≤m+12∧runI m (SetTable.bits h) n=j:=by
 obtain ⟨k,h1,h2⟩:=xQ hm (runI_le m (SetTable.bits h) 12) hj
 refine ⟨12+k,by omega,?_⟩
 rw [runI_tail (bits_lt h),h2]
theorem zF {m:Nat} (hm:MOk m) (h:Int) {j:Nat} (hj:j≤m):∃ k,k < 10*SetTable.turns m∧way m h k=j:=by
 obtain ⟨n,h1,h2⟩:=wi hm h hj
 obtain ⟨k,h3,h4⟩:=run_nth m (SetTable.bits h) n
 refine ⟨k,by unfold SetTable.turns; omega,?_⟩
 show (nth m (runAt m (SetTable.bits h % (m+1)) (SetTable.bits h)) k).j=j
 rw [h4]
 exact h2
theorem sS (m:Nat) (h:Int) (k:Nat):way m h k≤m:=by
 have hi:SetTable.bits h % (m+1)≤m:=Nat.le_of_lt_succ (Nat.mod_lt _ (Nat.succ_pos _))
 have hr:=runEnd_bd hi
 have:=nth_in (m:=m) k (runAt m (SetTable.bits h % (m+1)) (SetTable.bits h)) (show SetTable.bits h % (m+1)+(SetTable.runEnd m (SetTable.bits h % (m+1)) - SetTable.bits h % (m+1))≤m by omega)
 exact Nat.le_trans (Nat.le_add_right _ _) this
def Fd (t:SetTable) (h:Int) (j:Nat):Prop:=∃ k,way t.mask h k=j∧∀ q,q < k→way t.mask h q∈t.place.toList
structure Tb (t:SetTable) (hs:List Int):Prop where
 m:MOk t.mask
 r:Ris t.place.toList
 d:t.dummies=#[]
 n:t.place.toList.length=hs.length
 b:∀ x,x∈t.place.toList→x≤t.mask
 f:∀ (i:Nat) (h:Int) (j:Nat),hs[i]?=some h→t.place.toList[i]?=some j→Fd t h j
section
variable {t:SetTable} {hs:List Int} {h:Int} {K:Nat}
theorem Tb.gap (T:Tb t hs) (hl:hs.length≤t.mask) (h:Int):∃ K,K < 10*SetTable.turns t.mask∧way t.mask h K∉t.place.toList∧∀ k,k < K→way t.mask h k∈t.place.toList:=by
 obtain ⟨j,h1,h2⟩:=st_missing t.place.toList (t.mask+1) (by have:=T.n; omega)
 obtain ⟨k,h3,rfl⟩:=zF T.m h (Nat.le_of_lt_succ h1)
 obtain ⟨K,h4,h5,h6⟩:=st_least (p:=fun k=>way t.mask h k∉t.place.toList) k h2
 exact ⟨K,by omega,h5,fun q hq=>Classical.byContradiction (h6 q hq)⟩
theorem Tb.put (T:Tb t hs) (hK:way t.mask h K∉t.place.toList) (hb:∀ k,k < K→way t.mask h k∈t.place.toList):∃ p,p≤hs.length∧(t.put (way t.mask h K)).2=p∧(t.put (way t.mask h K)).1.mask=t.mask∧
  Tb (t.put (way t.mask h K)).1 (hs.take p++h ::hs.drop p)∧(t.put (way t.mask h K)).1.fill=hs.length+1:=by
 obtain ⟨j,hj⟩:∃ j,way t.mask h K=j:=⟨_,rfl⟩
 have hjm:j≤t.mask:=hj▸sS t.mask h K
 rw [hj] at hK ⊢
 have hp:SetTable.below t.place j≤t.place.toList.length:=by
  have:=(below_cut T.r j).1
  rw [Array.length_toList]
  exact this
 have new:t.place[SetTable.below t.place j]?≠some j:=fun e=>hK (by
  rw [←Array.getElem?_toList] at e
  exact List.mem_of_getElem? e)
 have pl:=put_place t j
 have nd:=put_dm T.d j
 have hn:=T.n
 have up:∀ x,x∈t.place.toList→x∈(t.put j).1.place.toList:=fun x hx=>by
  rw [pl]
  exact mem_ins.2 (.inr hx)
 have keep:∀ h' j',Fd t h' j'→Fd (t.put j).1 h' j':=fun h' j' ⟨k,e1,e2⟩=>⟨k,e1,fun q hq=>up _ (e2 q hq)⟩
 have len:(t.put j).1.place.toList.length=hs.length+1:=by rw [pl,len_ins _ hp,hn]
 refine ⟨SetTable.below t.place j,by omega,rfl,rfl,⟨T.m,ris_insert T.r new,nd,?_,fun x hx=>?_,fun i h' j' h1 h2=>?_⟩,?_⟩
 ·rw [len,len_ins _ (by omega)]
 ·rw [pl] at hx
  rcases mem_ins.1 hx with rfl | hx
  ·exact hjm
  ·exact T.b x hx
 ·rw [tins_get hs (by omega)] at h1
  rw [pl,tins_get _ hp] at h2
  rcases Nat.lt_trichotomy i (SetTable.below t.place j) with c | c | c
  ·rw [if_pos c] at h1 h2
   exact keep _ _ (T.f i h' j' h1 h2)
  ·rw [if_neg (by omega),if_pos c] at h1 h2
   cases h1
   cases h2
   exact ⟨K,hj,fun q hq=>up _ (hb q hq)⟩
  ·rw [if_neg (by omega),if_neg (by omega)] at h1 h2
   exact keep _ _ (T.f (i - 1) h' j' h1 h2)
 ·show (t.put j).1.place.size+(t.put j).1.dummies.size=_
  rw [nd,←Array.length_toList,len]
  rfl
end
section
variable {m:Nat} {owner:Array (Option Nat)} {done:List Int}
theorem zU (hm:MOk m) (h:Int) {j:Nat} (hj:j≤m) (hf:oAt owner j=none) :
  ∃ K,SetTable.layClean.free m owner (SetTable.turns m) (SetTable.bits h % (m+1)) (SetTable.bits h)=some (way m h K)∧oAt owner (way m h K)=none∧∀ k,k < K→oAt owner (way m h k)≠none:=by
 obtain ⟨n,h1,h2⟩:=wi hm h hj
 have hw:way m h (off m (SetTable.bits h % (m+1)) (SetTable.bits h) n)=j:=by
  unfold way
  rw [nth_off,itL_run]
  exact h2
 obtain ⟨K,k1,k2,k3⟩:=st_least (p:=fun k=>oAt owner (way m h k)=none) _ (show oAt owner (way m h (off m (SetTable.bits h % (m+1)) (SetTable.bits h) n))=none by rw [hw]; exact hf)
 have no:∀ k,k < K→(oAt owner (way m h k)).isNone=false:=fun k hk=>by
  have:=k3 k hk
  cases e:oAt owner (way m h k) with
  | none=>exact absurd e this
  | some _=>rfl
 refine ⟨K,free_spec m owner _ n _ _ K (by unfold SetTable.turns; omega) k1 no ?_,k2,k3⟩
 show (oAt owner (way m h K)).isNone=true
 rw [k2]
 rfl
theorem sit (hm:MOk m) (W:Own m done owner) (hl:done.length≤m) (h:Int) :
  ∃ j,SetTable.layClean.free m owner (SetTable.turns m) (SetTable.bits h % (m+1)) (SetTable.bits h)=some j∧Own m (done++[h]) (owner.setIfInBounds j (some done.length)):=by
 obtain ⟨ps,p1,p2⟩:=W.ps
 obtain ⟨j0,a1,a2⟩:=st_missing ps (m+1) (by omega)
 have free0:oAt owner j0=none:=Classical.byContradiction fun c=>a2 (p2 j0 (by omega) c)
 obtain ⟨K,b1,b2,b3⟩:=zU hm h (Nat.le_of_lt_succ a1) free0
 have hw:=sS m h K
 generalize hj:way m h K=j at b1 b2 hw
 have me:=oAt_set_self (some done.length) (show j < owner.size by rw [W.sz]; omega)
 have sub:∀ i,oAt owner i≠none→oAt (owner.setIfInBounds j (some done.length)) i≠none:=fun i hi=>by
  rcases Classical.em (i=j) with rfl | c
  ·rw [me]
   simp
  ·rw [oAt_set_ne _ c]
   exact hi
 refine ⟨j,b1,⟨?_,fun i k hi e=>?_,fun k hk=>?_,j ::ps,by simp [p1],fun i hi e=>?_⟩⟩
 ·rw [Array.size_setIfInBounds,W.sz]
 ·rcases Classical.em (i=j) with rfl | c
  ·rw [me] at e
   cases e
   exact ⟨h,K,by simp,hj,fun q hq=>sub _ (b3 q hq)⟩
  ·rw [oAt_set_ne _ c] at e
   obtain ⟨h',K',c1,c2,c3⟩:=W.at_ i k hi e
   exact ⟨h',K',by rw [List.getElem?_append_left (List.getElem?_eq_some_iff.mp c1).1,c1],c2,fun q hq=>sub _ (c3 q hq)⟩
 ·rcases Classical.em (k=done.length) with rfl | c
  ·exact ⟨j,hw,me⟩
  ·obtain ⟨i,c1,c2⟩:=W.all k (by simp at hk; omega)
   refine ⟨i,c1,?_⟩
   rw [oAt_set_ne _ (fun e=>by rw [e,b2] at c2; cases c2),c2]
 ·rcases Classical.em (i=j) with rfl | c
  ·exact List.mem_cons_self
  ·rw [oAt_set_ne _ c] at e
   exact List.mem_cons_of_mem _ (p2 i hi e)
theorem yR (hm:MOk m):∀ (rest done:List Int) (owner:Array (Option Nat)),Own m done owner→done.length+rest.length≤m→
  ∃ o2,rest.foldl (stepF m) (some (owner,done.length))=some (o2,(done++rest).length)∧Own m (done++rest) o2:=by
 intro rest
 induction rest with
 | nil=>intro done owner W _; exact ⟨owner,by simp,by simpa using W⟩
 | cons h rest ih=>
  intro done owner W hl
  simp only [List.length_cons] at hl
  obtain ⟨j,e,W2⟩:=sit hm W (by omega) h
  obtain ⟨o2,f,W3⟩:=ih (done++[h]) _ W2 (by simp; omega)
  rw [List.append_assoc] at f W3
  refine ⟨o2,?_,W3⟩
  rw [List.foldl_cons,stepF_some e]
  rw [List.length_append] at f
  exact f
theorem yq (hm:MOk m) {hs:Array Int} (hn:hs.size≤m):∃ o2,SetTable.layClean m hs=some o2∧Own m hs.toList o2:=by
 obtain ⟨o2,f,W⟩:=yR hm hs.toList [] _ (Own.init m) (by simpa using hn)
 refine ⟨o2,?_,by simpa using W⟩
 rw [layClean_eq,show (some (Array.replicate (m+1) none,0):Option (Array (Option Nat)×Nat))=some (Array.replicate (m+1) none,([]:List Int).length) from rfl,f]
 rfl
theorem wC (t:SetTable) {hs:Array Int} {wanted:Nat} (hw:SetTable.sizeAbove wanted - 1=m) (hm:MOk m) (hn:hs.size≤m) :
  ∃ t' order,t.relaid hs wanted=some (t',order)∧order.toList.Perm (List.range hs.size)∧Tb t' (order.toList.map fun i=>hs.getD i 0)∧t'.mask=m∧t'.led=t.led∧t'.plain=t.plain:=by
 obtain ⟨owner,e,W⟩:=yq hm hn
 have hr:t.relaid hs wanted=some (tabOf t m owner,((liveOf m owner).map (·.2)).toArray):=by
  rw [relaid_eq,hw,e]
  rfl
 obtain ⟨r1,r2⟩:Ris ((liveOf m owner).map (·.1))∧∀ x∈(liveOf m owner).map (·.1),x∈List.range (m+1):=ris_live (fun j=>owner.getD j none) (List.range (m+1)) (by
  unfold Ris
  first | exact List.pairwise_lt_range | exact List.pairwise_lt_range _)
 have live:∀ {j k},(j,k)∈liveOf m owner↔j≤m∧oAt owner j=some k:=mem_live W.sz
 have big:(liveOf m owner).length≤hs.size:=by
  obtain ⟨ps,p1,p2⟩:=W.ps
  have nd:((liveOf m owner).map (·.1)).Nodup:=List.Pairwise.imp (fun h=>Nat.ne_of_lt h) r1
  have:=nat_nodup_len ((liveOf m owner).map (·.1)) ps nd fun x hx=>by
   obtain ⟨⟨j,k⟩,hq,rfl⟩:=List.mem_map.mp hx
   have:=live.1 hq
   exact p2 j this.1 (by rw [this.2]; simp)
  rw [List.length_map,p1,Array.length_toList] at this
  exact this
 have hall:∀ k,k < hs.size→k∈(liveOf m owner).map (·.2):=fun k hk=>by
  obtain ⟨j,h1,h2⟩:=W.all k (by rw [Array.length_toList]; exact hk)
  exact List.mem_map.mpr ⟨(j,k),live.2 ⟨h1,h2⟩,rfl⟩
 have small:hs.size≤(liveOf m owner).length:=by
  have:=nat_nodup_len (List.range hs.size) ((liveOf m owner).map (·.2)) List.nodup_range fun k hk=>hall k (List.mem_range.mp hk)
  simpa using this
 refine ⟨_,_,hr,perm_range _ _ (by show ((liveOf m owner).map (·.2)).length=_; rw [List.length_map]; omega) hall,⟨hm,r1,rfl,?_,fun x hx=>by have:=List.mem_range.mp (r2 x hx); show x≤m; omega,fun i h j h1 h2=>?_⟩,rfl,rfl,rfl⟩
 ·show ((liveOf m owner).map (·.1)).length=(((liveOf m owner).map (·.2)).map _).length
  rw [List.length_map,List.length_map,List.length_map]
 ·replace h1:(((liveOf m owner).map (·.2)).map fun i=>hs.getD i 0)[i]?=some h:=h1
  replace h2:((liveOf m owner).map (·.1))[i]?=some j:=h2
  cases hq:(liveOf m owner)[i]? with
  | none=>simp [hq] at h2
  | some q=>
   obtain ⟨y,k⟩:=q
   simp only [List.getElem?_map,hq,Option.map_some,Option.some.injEq] at h1 h2
   subst h2
   have:=live.1 (List.mem_of_getElem? hq)
   obtain ⟨h0,K,a1,a2,a3⟩:=W.at_ y k this.1 this.2
   have e0:hs.getD k 0=h0:=by
    rw [Array.getElem?_toList] at a1
    rw [Array.getD_eq_getD_getElem?,a1]
    rfl
   rw [e0] at h1
   subst h1
   refine ⟨K,a2,fun q hq=>?_⟩
   show way m h0 q∈(liveOf m owner).map (·.1)
   cases z:oAt owner (way m h0 q) with
   | none=>exact absurd z (a3 q hq)
   | some k2=>exact List.mem_map.mpr ⟨_,live.2 ⟨sS m h0 q,z⟩,rfl⟩
end
end Se
end Mir
namespace Mir
namespace Se
open PySem PySem.Spec PyProof.Rows L2
abbrev Rw:=List (Addr×List Int)
structure SR (P:Program) (w:World) (h:Heap) (a:Addr) (L:Rw) (es:Array (Int×Value)) (ep:Nat) (t:SetTable):Prop where
 o:∃ ob,h.get? a=some ob∧ob.ExactSet∧ob.data=.set es ep t
 e:es.toList=rowsOf P w L
 tb:Tb t (L.map fun p=>thash P w p.2)
 un:(L.map (·.2)).Nodup
 is:∀ p,p∈L→IsT P w h p.2 p.1
 pl:t.plain=true
 ld:w.params.followText "set-order"=true∨t.led=true
 room:L.length*5 < t.mask*3
 few:L.length≤90
section
variable {P:Program} {w:World} {A:Around} {E:Value→Shared→Prop} {s:Shared} {a x:Addr} {L:Rw} {es:Array (Int×Value)} {ep:Nat} {t:SetTable} {k:List Int}
theorem SR.size {h:Heap} (R:SR P w h a L es ep t):es.size=L.length:=by
 rw [←Array.length_toList,R.e,show rowsOf P w L=L.map fun p=>(thash P w p.2,Value.ref p.1) from rfl,List.length_map]
theorem SR.at {h:Heap} (R:SR P w h a L es ep t) {i:Nat} {p:Addr×List Int} (hi:L[i]?=some p):es[i]?=some (thash P w p.2,Value.ref p.1):=by
 rw [←Array.getElem?_toList,R.e,show rowsOf P w L=L.map fun p=>(thash P w p.2,Value.ref p.1) from rfl,List.getElem?_map,hi]
 rfl
theorem SR.fit {h:Heap} (R:SR P w h a L es ep t):t.fits es.size=true:=by
 have h1:=R.tb.n
 have h2:=R.size
 have h3:=R.room
 rw [List.length_map,Array.length_toList] at h1
 simp only [SetTable.fits,SetTable.fill,R.tb.d,Bool.and_eq_true,beq_iff_eq,decide_eq_true_eq]
 refine ⟨by omega,?_⟩
 show t.place.size+0≤t.mask
 omega
theorem xi {m:Nat} (h:MOk m):m % 2=1:=by
 rcases h with h | rfl
 ·exact mask_odd h
 ·rfl
theorem SR.way0 {h:Heap} (R:SR P w h a L es ep t):¬ t.gaveWay=true:=by
 simp [SetTable.gaveWay,xi R.tb.m]
theorem qu (m:Nat):∀ (n:Nat) (p:SetTable.Probe),p.dummy=none→(nth m p n).dummy=none
 | 0,_,h=>h
 | n+1,p,h=>qu m n _ (by unfold adv; split<;>exact h)
theorem vQ (R:SR P w s.heap a L es ep t) (hx:IsT P w s.heap k x) (hu:A.units < cLine) (hk:k∉L.map (·.2)) {K:Nat} (hKf:K < 10*SetTable.turns t.mask) (hK:way t.mask (thash P w k) K∉t.place.toList)
  (hb:∀ c,c < K→way t.mask (thash P w k) c∈t.place.toList) {Q:SetFound→Shared→Prop} (hQ:Q (.free (way t.mask (thash P w k) K) false) s) :
  ∀ (f c:Nat) (stand:Option SetTable.Probe),stand.getD (t.probeStart (thash P w k))=nth t.mask (runAt t.mask (SetTable.bits (thash P w k) % (t.mask+1)) (SetTable.bits (thash P w k))) c→c≤K→K < c+f→
   wpAny (model P w) A (setSearchFrom a (.ref x) (thash P w k) true f stand) Q E s:=by
 intro f
 induction f with
 | zero=>intro c _ _ h1 h2; omega
 | succ f ih=>
  intro c stand hst hc hf
  obtain ⟨ob,ho,hex,hd⟩:=R.o
  obtain ⟨p0,e0⟩:∃ p0,runAt t.mask (SetTable.bits (thash P w k) % (t.mask+1)) (SetTable.bits (thash P w k))=p0:=⟨_,rfl⟩
  have ew:∀ q,way t.mask (thash P w k) q=(nth t.mask p0 q).j:=fun q=>by rw [←e0]
  rw [e0] at hst
  have d0:(nth t.mask p0 c).dummy=none:=qu _ _ _ (by rw [←e0]; rfl)
  have sh:∀ q,nth t.mask (nth t.mask p0 c) q=nth t.mask p0 (c+q):=fun q=>(nth_add t.mask c p0 q).symm
  have eK:c+(K - c)=K:=by omega
  rw [setSearchFrom_succ]
  refine wpAny_bind (wpAny_setState_of ho hd R.fit ?_)
  dsimp only
  refine wp_if_neg R.way0 ?_
  try refine wpAny_bind (wpAny_pure ?_)
  rcases go_spec t R.tb.r R.tb.d (fun i=>(es[i]?.map (·.1)).getD 0) (thash P w k) (10*SetTable.turns t.mask) (K - c) (nth t.mask p0 c) d0 (by omega) (fun q hq=>by
    rw [sh,←ew]
    exact hb _ (by omega)) (by rw [sh,eK,←ew]; exact hK) with ⟨q,i,hq,hi,hh,_,hpr⟩ | ⟨_,hpr⟩
  ·have hpr2:t.probe (fun i=>(es[i]?.map (·.1)).getD 0) (thash P w k) (stand.getD (t.probeStart (thash P w k)))=some (.candidate (nth t.mask p0 (c+q)).j i (nth t.mask p0 (c+(q+1)))):=by
    rw [hst,←sh,←sh]
    exact hpr
   rw [hpr2]
   dsimp only
   rw [sh] at hi
   have hil:i < L.length:=by
    have h1:=(List.getElem?_eq_some_iff.mp hi).1
    have h2:=R.tb.n
    rw [List.length_map] at h2
    omega
   obtain ⟨p,hp⟩:∃ p,L[i]?=some p:=⟨_,List.getElem?_eq_getElem hil⟩
   have hmem:=List.mem_of_getElem? hp
   have hne:¬ p.2=k:=fun e=>hk (List.mem_map.mpr ⟨p,hmem,e⟩)
   have hsl:t.slot (nth t.mask p0 (c+q)).j=.live i:=slot_live R.tb.r hi
   have rest:wpAny (model P w) A (searchRest a (.ref x) (thash P w k) true f es t (nth t.mask p0 (c+q)).j i (nth t.mask p0 (c+(q+1)))) Q E s:=by
    unfold searchRest
    rw [R.at hp]
    dsimp only
    refine wpAny_bind (wpAny_holding (wpAny_eqBool_tuple hu (R.is p hmem) hx ?_))
    refine wpAny_bind (wpAny_setState_of ho hd R.fit ?_)
    dsimp only
    refine wp_if_neg (by simp [hne]) ?_
    try refine wpAny_bind (wpAny_pure ?_)
    rw [sameMem]
    dsimp only
    simp only [if_true,hsl,R.at hp]
    refine wpAny_bind (wpAny_isSame_ref_self (wpAny_bind (wpAny_pure ?_)))
    simp only [if_true]
    refine wp_if_neg (by simp [hne]) ?_
    refine ih (c+(q+1)) _ ?_ (by omega) (by omega)
    rw [e0]
    rfl
   by_cases hl:t.led=true
   ·refine wp_if_neg (by simp [hl]) ?_
    try refine wpAny_bind (wpAny_pure ?_)
    exact rest
   ·refine wp_if_pos (by simp [hl]) ?_
    refine wpAny_bind (seen_tup hx (fun y hy=>?_) ?_)
    ·obtain ⟨e,he,rfl⟩:=List.mem_map.mp hy
     have h1:e∈es.toList:=by
      have:e∈es∧e.1=thash P w k:=by simpa using he
      simpa using this.1
     rw [R.e] at h1
     obtain ⟨p2,hp2,rfl⟩:=List.mem_map.mp h1
     exact ⟨p2.2,p2.1,rfl,R.is p2 hp2⟩
    ·refine wp_if_neg (by decide) ?_
     try refine wpAny_bind (wpAny_pure ?_)
     exact rest
  ·have hpr2:t.probe (fun i=>(es[i]?.map (·.1)).getD 0) (thash P w k) (stand.getD (t.probeStart (thash P w k)))=some (.empty (way t.mask (thash P w k) K) none):=by
    rw [hst,ew,←eK,←sh]
    exact hpr
   rw [hpr2]
   dsimp only
   exact wpAny_pure hQ
theorem wJ (R:SR P w s.heap a L es ep t) (hx:IsT P w s.heap k x) (hu:A.units < cLine) (hk:k∉L.map (·.2)) {Q:SetFound→Shared→Prop}
  (hQ:∀ K,way t.mask (thash P w k) K∉t.place.toList→(∀ c,c < K→way t.mask (thash P w k) c∈t.place.toList)→Q (.free (way t.mask (thash P w k) K) false) s) :
  wpAny (model P w) A (setSearch a (.ref x) (thash P w k) true) Q E s:=by
 have hr:=R.room
 obtain ⟨K,h1,h2,h3⟩:=R.tb.gap (by rw [List.length_map]; omega) (thash P w k)
 have hm:t.mask≤511:=by
  rcases R.tb.m with (h | h | h) | h<;>omega
 unfold setSearch
 exact vQ R hx hu hk h1 h2 h3 (hQ K h2 h3) 100000 0 none rfl (Nat.zero_le _) (by unfold SetTable.turns at h1; omega)
end
end Se
end Mir
namespace Mir
namespace Se
open PySem PySem.Spec PyProof.Rows L2
theorem w9:SetTable.sizeAbove (SetTable.grown 77)=512:=by decide +kernel
section
variable {P:Program} {w:World} {A:Around} {E:Value→Shared→Prop} {s:Shared} {a x:Addr} {L:Rw} {es:Array (Int×Value)} {ep:Nat} {t:SetTable} {k:List Int}
theorem yi {ob:Obj} (ho:s.heap.get? a=some ob) (hex:ob.ExactSet) (hd:ob.data=.set es ep t) (he:es.toList=rowsOf P w L) (T:Tb t (L.map fun p=>thash P w p.2)) (hm:L.length≤t.mask) (un:(L.map (·.2)).Nodup)
  (is:∀ p,p∈L→IsT P w s.heap p.2 p.1) (pl:t.plain=true) (ld:w.params.followText "set-order"=true∨t.led=true) (few:L.length≤90) {wanted M:Nat} (hw:SetTable.sizeAbove wanted=M+1) (hM:MOk M) (room:L.length*5 < M*3)
  {Q:Unit→Shared→Prop} (hQ:∀ h' L' es' ep' t',Heap.SameBut a s.heap h'→SR P w h' a L' es' ep' t'→L'.Perm L→Q () { s with heap:=h' }):wpAny (model P w) A (setRelay a wanted) Q E s:=by
 have hn:=T.n
 rw [List.length_map,Array.length_toList] at hn
 have hsz:es.size=L.length:=by
  rw [←Array.length_toList,he,show rowsOf P w L=L.map fun p=>(thash P w p.2,Value.ref p.1) from rfl,List.length_map]
 have fit:t.fits es.size=true:=by
  simp only [SetTable.fits,SetTable.fill,T.d,Bool.and_eq_true,beq_iff_eq,decide_eq_true_eq]
  refine ⟨by omega,?_⟩
  show t.place.size+0≤t.mask
  omega
 have hM5:M≤511:=by rcases hM with (h | h | h) | h<;>omega
 obtain ⟨t',order,e,hp,T',em,el,epl⟩:=wC t (hs:=es.map (·.1)) (wanted:=wanted) (m:=M) (by rw [hw]; rfl) hM (by rw [Array.size_map]; omega)
 rw [Array.size_map,hsz] at hp
 obtain ⟨L2,r1,r2,r3⟩:=order_rows L es order he hp
 rw [←r3] at T'
 have hs2:(order.filterMap (es[·]?)).size=es.size:=by
  rw [←Array.length_toList,r1,show rowsOf P w L2=L2.map fun p=>(thash P w p.2,Value.ref p.1) from rfl,List.length_map,r2.length_eq,hsz]
 rw [setRelay_eq]
 refine wpAny_bind (wpAny_setState_of ho hd fit ?_)
 dsimp only
 refine wp_if_neg (by rw [sizeLine_eq,hw]; omega) ?_
 try refine wpAny_bind (wpAny_pure ?_)
 rw [e]
 dsimp only
 refine wpAny_bind ?_
 refine wp_if_neg (by rw [hs2]; simp) ?_
 try refine wpAny_bind (wpAny_pure ?_)
 refine wpAny_pure ?_
 dsimp only
 refine wpAny_storeSet_of ho hd ?_ (by rw [hs2,hsz,sizeLine_eq]; omega)
 have sb:Heap.SameBut a s.heap (s.heap.update a (Obj.putSet (order.filterMap (es[·]?)) t')):=Heap.SameBut.update ..
 refine hQ _ L2 _ (ep+1) t' sb ⟨⟨_,store_at ho hd,⟨hex.1,hex.2.1,hex.2.2⟩,rfl⟩,r1,T',(r2.map (·.2)).nodup_iff.mpr un,fun p hpm=>isT_same (is p (r2.mem_iff.mp hpm)) ho hd sb,by rw [epl]; exact pl,by rw [el]; exact ld,?_,by rw [r2.length_eq]; exact few⟩ r2
 rw [r2.length_eq,em]
 exact room
theorem zi (R:SR P w s.heap a L es ep t) (hx:IsT P w s.heap k x) (hu:A.units < cLine) (hk:k∉L.map (·.2)) (hl:L.length < 90) {Q:Bool→Shared→Prop}
  (hQ:∀ b h' L' es' ep' t',Heap.SameBut a s.heap h'→SR P w h' a L' es' ep' t'→L'.Perm ((x,k) ::L)→Q b { s with heap:=h' }) :
  wpAny (model P w) A (setAddHashed a (.ref x) (thash P w k)) Q E s:=by
 obtain ⟨ob,ho,hex,hd⟩:=R.o
 have hroom:=R.room
 unfold setAddHashed
 refine wpAny_holding ?_
 rw [show (100000:Nat)=99999+1 from rfl,setAddHashedIn_succ]
 refine wpAny_bind (wpAny_setState_of ho hd R.fit ?_)
 dsimp only
 refine wp_if_neg (by simp [byScan,Value.scannable]) ?_
 try refine wpAny_bind (wpAny_pure ?_)
 refine wpAny_bind (wJ R hx hu hk fun K hK hb=>?_)
 dsimp only
 refine wpAny_bind (wpAny_setState_of ho hd R.fit ?_)
 dsimp only
 obtain ⟨p,c1,c2,c3,c4,c5⟩:=R.tb.put hK hb
 rw [List.length_map] at c1 c5
 have u1:(t.put (way t.mask (thash P w k) K)).1.plain=true:=R.pl
 have u2:w.params.followText "set-order"=true∨(t.put (way t.mask (thash P w k) K)).1.led=true:=R.ld
 generalize t.put (way t.mask (thash P w k) K)=pt at c2 c3 c4 c5 u1 u2 ⊢
 obtain ⟨t1,p1⟩:=pt
 dsimp only at c2 c3 c4 c5 u1 u2 ⊢
 subst c2
 first
  | (refine wpAny_bind ?_; refine wp_if_pos u1 ?_; refine hashBy_tup hx ?_)
  | refine wp_if_pos u1 (wpAny_bind (hashBy_tup hx ?_))
 simp only [if_true]
 have ins:(SetTable.insertAt es p1 (thash P w k,Value.ref x)).toList=rowsOf P w (L.take p1++(x,k) ::L.drop p1):=by
  rw [SetTable.toList_insertAt,rows_put,R.e]
 have pm:=put_perm L p1 (x,k)
 have hlen:(L.take p1++(x,k) ::L.drop p1).length=L.length+1:=pm.length_eq
 have hhs:(L.map fun p=>thash P w p.2).take p1++thash P w k ::(L.map fun p=>thash P w p.2).drop p1=(L.take p1++(x,k) ::L.drop p1).map fun p=>thash P w p.2:=by
  rw [List.map_append,List.map_cons,List.map_take,List.map_drop]
 rw [hhs] at c4
 have nd1:((L.take p1++(x,k) ::L.drop p1).map (·.2)).Nodup:=(pm.map (·.2)).nodup_iff.mpr (by rw [List.map_cons]; exact List.nodup_cons.mpr ⟨hk,R.un⟩)
 have hes:(SetTable.insertAt es p1 (thash P w k,Value.ref x)).size=L.length+1:=by
  rw [←Array.length_toList,ins,show rowsOf P w (L.take p1++(x,k) ::L.drop p1)=(L.take p1++(x,k) ::L.drop p1).map fun p=>(thash P w p.2,Value.ref p.1) from rfl,List.length_map,hlen]
 generalize SetTable.insertAt es p1 (thash P w k,Value.ref x)=es1 at ins hes ⊢
 generalize L.take p1++(x,k) ::L.drop p1=L1 at pm hlen c4 nd1 ins
 refine wpAny_bind (wpAny_storeSet_of ho hd ?_ (by rw [hes,sizeLine_eq]; omega))
 have sb:Heap.SameBut a s.heap (s.heap.update a (Obj.putSet es1 t1)):=Heap.SameBut.update ..
 have ho1:=store_at (es':=es1) (t':=t1) ho hd
 generalize s.heap.update a (Obj.putSet es1 t1)=h1 at sb ho1 ⊢
 have is1:∀ p,p∈L1→IsT P w h1 p.2 p.1:=fun p hp=>by
  rcases List.mem_cons.mp (pm.mem_iff.mp hp) with rfl | hp
  ·exact isT_same hx ho hd sb
  ·exact isT_same (R.is p hp) ho hd sb
 have ef:t1.tooFull=decide ((L.length+1)*5≥t1.mask*3):=by
  unfold SetTable.tooFull
  rw [c5]
 by_cases hf:t1.tooFull=true
 ·first
   | (refine wpAny_bind ?_; refine wp_if_pos (by simp [hf]) ?_)
   | (refine wp_if_pos (by simp [hf]) ?_; refine wpAny_bind ?_)
  rw [ef,decide_eq_true_eq,c3] at hf
  rw [R.size]
  obtain ⟨M,g1,g2,g3,g4⟩:∃ M,SetTable.sizeAbove (SetTable.grown (L.length+1))=M+1∧MOk M∧(L.length+1)*5 < M*3∧L.length+1≤t.mask:=by
   rcases R.tb.m with (e | e | e) | e
   ·have:L.length=4:=by omega
    rw [this]
    exact ⟨31,size_20,.inl (.inr (.inl rfl)),by decide,by omega⟩
   ·have:L.length=18:=by omega
    rw [this]
    exact ⟨127,size_76,.inl (.inr (.inr rfl)),by decide,by omega⟩
   ·have:L.length=76:=by omega
    rw [this]
    exact ⟨511,w9,.inr rfl,by decide,by omega⟩
   ·omega
  refine yi (s:={ s with heap:=h1 }) ho1 ⟨hex.1,hex.2.1,hex.2.2⟩ rfl ins c4 (by rw [hlen,c3]; exact g4) nd1 is1 u1 u2 (by omega) g1 g2 (by rw [hlen]; exact g3) ?_
  intro h2 L2 es2 ep2 t2 sb2 R2 pm2
  exact wpAny_pure (hQ true h2 L2 es2 ep2 t2 (sb.trans sb2) R2 (pm2.trans pm))
 ·first
   | refine wp_if_neg (by simp [hf]) ?_
   | (refine wpAny_bind ?_; refine wp_if_neg (by simp [hf]) ?_; refine wpAny_pure ?_)
  rw [ef,decide_eq_true_eq] at hf
  exact wpAny_pure (hQ true h1 L1 es1 (ep+1) t1 sb ⟨⟨_,ho1,⟨hex.1,hex.2.1,hex.2.2⟩,rfl⟩,ins,c4,nd1,is1,u1,u2,by rw [hlen]; omega,by omega⟩ pm)
end
end Se
end Mir
namespace Mir
namespace Se
open PySem PySem.Spec PyProof.Rows L2
section
variable {P:Program} {w:World} {A:Around} {E:Value→Shared→Prop} {s:Shared} {a x:Addr} {L:Rw} {es:Array (Int×Value)} {ep:Nat} {t:SetTable} {k:List Int}
theorem SR.kept {h h':Heap} (R:SR P w h a L es ep t) (ka:∀ o,h.get? a=some o→h'.get? a=some o) (kt:∀ p,p∈L→IsT P w h' p.2 p.1):SR P w h' a L es ep t:=by
 obtain ⟨ob,h1,h2⟩:=R.o
 exact { R with o:=⟨ob,ka _ h1,h2⟩,is:=kt }
abbrev fr0 (w:World):SetTable:=.fresh 0 0 (!w.params.followText "set-order")
abbrev ob0 (w:World):Obj:={ cls:=.type "set",dict:=none,data:=.set #[] 0 (fr0 w) }
theorem zu {h:Heap} (ho:h.get? a=some (ob0 w)):SR P w h a [] #[] 0 (fr0 w) where
 o:=⟨_,ho,⟨rfl,rfl,rfl⟩,rfl⟩
 e:=rfl
 tb:=⟨.inl (.inl rfl),List.Pairwise.nil,rfl,rfl,fun x hx=>(nomatch hx),fun i h j hi _=>(by simp at hi)⟩
 un:=List.nodup_nil
 is:=fun p hp=>(nomatch hp)
 pl:=rfl
 ld:=by
  cases e:w.params.followText "set-order"
  ·right
   show (!w.params.followText "set-order")=true
   rw [e]
   rfl
  ·exact .inl rfl
 room:=(by decide:0*5 < 7*3)
 few:=Nat.zero_le _
theorem w8 {I:Addr} {fp wr:List Addr} {G:Array GenState→Array GenState→Prop} {n:Nat} {Pv:Nat→Value→Prop} {St:Nat→Shared→Prop} {R:Result→Shared→Prop} (W:WalksS P w A.in1 I fp wr G n Pv St) (S:Addr) (hSf:S∉fp)
  (ks:Rw) (hn:n=ks.length) (hfew:ks.length≤90) (hun:(ks.map (·.2)).Nodup) (hval:∀ i v,Pv i v→∃ p,ks[i]?=some p∧v=.ref p.1) (h0:Heap) (hk:∀ p∈ks,IsT P w h0 p.2 p.1) (hS0:h0.get? S=none) (hw0:∀ b∈wr,h0.get? b=none) (hu:A.in1.units < cLine) :
  ∀ (d i:Nat) (s:Shared),i+d=n→St i s→(∀ b o,h0.get? b=some o→s.heap.get? b=some o)→(∃ L es ep t,SR P w s.heap S L es ep t∧L.Perm (ks.take i))→
   (∀ s' L es ep t,Moved (S ::wr) G s s'→SR P w s'.heap S L es ep t→L.Perm ks→(∀ b o,h0.get? b=some o→s'.heap.get? b=some o)→R (.ok (.ret .none)) s')→
   codeAny (model P w) A (.builtin "set.update.loop" ⟨[.ref S,.ref I],[]⟩) R s:=by
 have Sw:S∉wr:=fun h=>hSf (W.sub _ h)
 have up:∀ b,b∈wr→b∈S ::wr:=fun b h=>List.mem_cons_of_mem _ h
 have kp:∀ {s s':Shared},Moved wr G s s'→(∀ b o,h0.get? b=some o→s.heap.get? b=some o)→∀ b o,h0.get? b=some o→s'.heap.get? b=some o:=fun {s s'} m q b o e=>m.heap b o (fun hb=>by
  rw [hw0 b hb] at e
  cases e) (q b o e)
 have isK:∀ {h':Heap} {i:Nat} {L:Rw},L.Perm (ks.take i)→(∀ b o,h0.get? b=some o→h'.get? b=some o)→∀ p,p∈L→IsT P w h' p.2 p.1:=fun pm q p hp=>isT_keep (hk p (List.mem_of_mem_take (pm.mem_iff.mp hp))) q
 intro d
 induction d with
 | zero=>
  rintro i s hi hst q ⟨L,es,ep,t,hS,pm⟩ hR
  obtain rfl:i=n:=by omega
  refine codeAny_builtin F.entry_set_update_loop ?_
  rw [Around.under_plainId F.plain_set_update_loop _]
  show wpAny _ A.in1 (pyNext (.ref I) >>=_) _ _ s
  refine wpAny_bind (W.done s _ _ hst fun s' m=>?_)
  show wpAny _ A.in1 (ret Value.none) _ _ s'
  have q':=kp m q
  refine wpAny_pure (hR s' L es ep t (m.mono up) (hS.kept (fun o e=>m.heap S o Sw e) (isK pm q')) ?_ q')
  rw [hn,List.take_length] at pm
  exact pm
 | succ d ih=>
  rintro i s hi hst q ⟨L,es,ep,t,hS,pm⟩ hR
  refine codeAny_builtin F.entry_set_update_loop ?_
  rw [Around.under_plainId F.plain_set_update_loop _]
  show wpAny _ A.in1 (pyNext (.ref I) >>=_) _ _ s
  refine wpAny_bind (W.item i s _ _ (by omega) hst fun v s' hP hst' m=>?_)
  obtain ⟨p,hp,rfl⟩:=hval i v hP
  have q':=kp m q
  have hS':SR P w s'.heap S L es ep t:=hS.kept (fun o e=>m.heap S o Sw e) (isK pm q')
  have hx:IsT P w s'.heap p.2 p.1:=isT_keep (hk p (List.mem_of_getElem? hp)) q'
  have hlt:=(List.getElem?_eq_some_iff.mp hp).1
  have hnew:p.2∉L.map (·.2):=fun hm=>by
   obtain ⟨r,hr,e⟩:=List.mem_map.mp hm
   obtain ⟨j,hj,er⟩:=List.getElem_of_mem (pm.mem_iff.mp hr)
   have hj2:j < i∧j < ks.length:=by
    rw [List.length_take] at hj
    omega
   rw [List.getElem_take] at er
   have:=List.pairwise_iff_getElem.mp hun j i (by simpa using hj2.2) (by simpa using hlt) hj2.1
   simp only [List.getElem_map,er] at this
   rw [e,(List.getElem?_eq_some_iff.mp hp).2] at this
   exact this rfl
  have hll:L.length < 90:=by
   have:=pm.length_eq
   rw [List.length_take] at this
   omega
  show wpAny _ A.in1 (holding [Value.ref p.1] (setAdd S (.ref p.1)) >>=_) _ _ s'
  refine wpAny_bind (wpAny_holding ?_)
  unfold setAdd
  refine wpAny_holding ?_
  refine wpAny_bind (wpAny_pyHash_tuple hu hx ?_)
  refine zi (s:={ s' with toks:=s'.toks+(p.2.length+1) }) hS' hx hu hnew hll fun b h' L' es' ep' t' sb hS2 pm2=>?_
  have pm3:L'.Perm (ks.take (i+1)):=by
   rw [take_next hp]
   exact (pm2.trans (pm.cons _)).trans (List.perm_append_singleton _ _).symm
  have q2:∀ b o,h0.get? b=some o→h'.get? b=some o:=fun b o e=>(sb.2 b fun z=>by rw [z,hS0] at e; cases e).trans (q' b o e)
  refine wpAny_pure ⟨plainId_quiet F.plain_set_update_loop _,ih (i+1) _ (by omega) (W.frame _ s' _ _ hst' (Nat.le_add_right _ _) fun b hb o e=>?_) q2 ⟨L',es',ep',t',hS2,pm3⟩ fun s'' L2 es2 ep2 t2 m2 a1 a2 a3=>hR s'' L2 es2 ep2 t2 (Moved.trans W.gtrans ((m.mono up).then_heap (Nat.le_add_right _ _) fun b o hb e=>?_) m2) a1 a2 a3⟩
  ·have:b≠S:=fun z=>hSf (z▸hb)
   rw [sb.2 b this]
   exact e
  ·have:b≠S:=fun z=>hb (by rw [z]; exact List.mem_cons_self)
   rw [sb.2 b this]
   exact e
theorem call_setN {l:Addr} {items:Array Value} (ks:Rw) {Q:Value→Shared→Prop} (hh:A.handled=none) (hl:s.heap.IsList l items) (hit:items.toList=ks.map fun p=>Value.ref p.1) (hk:∀ p∈ks,IsT P w s.heap p.2 p.1) (hfew:ks.length≤90) (hun:(ks.map (·.2)).Nodup) (hu:A.units+3 < cLine)
  (hQ:∀ (h':Heap) (tk:Nat) L es ep t,SR P w h' s.heap.objs.size L es ep t→L.length=ks.length→(∀ b o,s.heap.get? b=some o→h'.get? b=some o)→Q (.ref s.heap.objs.size) { s with heap:=h',toks:=tk }):wpAny (model P w) A (call (.type "set") [.ref l]) Q E s:=by
 have hisz:items.size=ks.length:=by rw [←Array.length_toList,hit,List.length_map]
 obtain ⟨c,tl,hmro⟩:=F.called_set.mro
 have hmade:=F.called_set.made
 have hsub:=F.called_set.sub
 refine wpAny_call (codeAny_of_tree ?_)
 show wpAny _ _ (callAny (.type "set") _) _ _ _
 refine wpAny_pure ⟨Code.quiet_builtin _ (by decide +kernel),codeAny_builtin F.entry_type_call ?_⟩
 rw [Around.under_plain (weight_type_call_type "set" [.ref l] []) rfl]
 have h1:=F.called_set.notType
 have h2:=F.called_set.canCreate
 have hct:=F.typeCall_set_1 (.ref l)
 repeat (any_goals (first | assumption | wp_step))
 refine codeAny_mono (code_set_led1 (.ref l) (E:=E) (Q₁:=fun obj s₁=>obj=.ref s.heap.objs.size∧s₁={ s with heap:=s.heap.push (ob0 w) }) ⟨rfl,rfl⟩) fun r s₁ hr=>?_
 cases r with
 | error e=>exact hr
 | ok fl=>
  cases fl with
  | ret obj=>
   obtain ⟨rfl,rfl⟩:=hr
   have hS:(s.heap.push (ob0 w)).get? s.heap.objs.size=some (ob0 w):=Heap.get?_push_size _ rfl
   have hT:Shared.TypeIs { s with heap:=s.heap.push (ob0 w) } (.ref s.heap.objs.size) "set":=⟨_,hS,rfl⟩
   have hli:=F.called_set.init.lookup
   have hbi:=F.called_set.init.bind (.ref s.heap.objs.size)
   repeat (any_goals (first | assumption | wp_step))
   refine codeAny_mono (codeAny_call_builtin (R:=wants (fun r s₂=>r=.none∧∃ h' tk L es ep t,s₂={ s with heap:=h',toks:=tk }∧SR P w h' s.heap.objs.size L es ep t∧L.length=ks.length∧
     (∀ b o,s.heap.get? b=some o→h'.get? b=some o)) E) F.called_set.init.plain F.entry_set_init (check_set_init_1 hT ?_)) fun r₂ s₂ hr₂=>?_
   ·obtain ⟨ol,hol,hcl,nl,hdl⟩:=hl
    obtain ⟨ocls,odict,odata,oslots⟩:=ol
    simp only at hcl hdl
    subst hcl; subst hdl
    have hol':(s.heap.push (ob0 w)).get? l=some { cls:=.type "list",dict:=odict,data:=.seq items nl,slots:=oslots }:=Heap.get?_push_of_some _ hol
    have hsls:=F.sub_list_set
    have hslf:=F.sub_list_frozenset
    have hne:(Value.type "list" ==Value.type "dict")=false:=by decide
    have hl1:(s.heap.push (ob0 w)).IsList l items:=⟨_,hol',rfl,nl,rfl⟩
    unfold Builtin.«set.__init__» noKeywords Builtin.Frozenset.updateFrom
    generalize hPI:pyIter=PI
    wp_walk
    subst hPI
    refine wpAny_pyIter_list hl1 ?_
    refine wpAny_bind (wpAny_runValue ?_)
    have hlS:l < s.heap.objs.size:=Heap.lt_size hol
    have hh3:A.in1.in1.in1.handled=none:=by simp [hh]
    have hz:(s.heap.push (ob0 w)).objs.size=s.heap.objs.size+1:=Heap.size_push ..
    have hneI:l≠(s.heap.push (ob0 w)).objs.size:=by
     rw [hz]
     exact Nat.ne_of_lt (Nat.lt_succ_of_lt hlS)
    have hSf:s.heap.objs.size∉[(s.heap.push (ob0 w)).objs.size,l]:=by
     rw [hz]
     simp only [List.mem_cons,List.not_mem_nil,or_false,not_or]
     exact ⟨Nat.ne_of_lt (Nat.lt_succ_self _),Nat.ne_of_gt hlS⟩
    have hval:∀ (i:Nat) (v:Value),items[i]?=some v→∃ p,ks[i]?=some p∧v=.ref p.1:=fun i v hv=>by
     rw [←Array.getElem?_toList,hit,List.getElem?_map] at hv
     obtain ⟨p,hp,e⟩:=Option.map_eq_some_iff.mp hv
     exact ⟨p,hp,e.symm⟩
    have gone:∀ b,s.heap.objs.size≤b→s.heap.get? b=none:=fun b hb=>by
     cases q:s.heap.get? b with
     | none=>rfl
     | some o=>exact absurd (Heap.lt_size q) (Nat.not_lt.mpr hb)
    refine w8 ((Walks.list hh3 _ l hneI items).toS) s.heap.objs.size hSf ks hisz hfew hun hval s.heap hk (gone _ (Nat.le_refl _)) (fun b hb=>gone b (by
      rw [List.mem_singleton.mp hb,hz]
      exact Nat.le_succ _)) hu items.size 0 _ (by omega) ⟨⟨_,Heap.get?_push_size _ rfl,rfl,rfl⟩,(hl1.push _)⟩ (fun b o e=>Heap.get?_push_of_some _ (Heap.get?_push_of_some _ e)) ?hS0 ?hR
    case hS0=>
     exact ⟨[],#[],0,fr0 w,zu (Heap.get?_push_of_some _ hS),by simp⟩
    case hR=>
     intro s' L es ep t hm hS' pm hkp
     obtain ⟨h',g2,d',tk',os'⟩:=s'
     have eg:g2=s.gens:=hm.gens
     have ed:d'=s.drawn:=hm.drawn
     have eo:os'=s.os:=hm.os
     subst eg; subst ed; subst eo
     show wpAny _ _ _ _ _ _
     refine wpAny_pure ?_
     show wpAny _ _ (ret Value.none) _ _ _
     exact wpAny_pure ⟨rfl,h',tk',L,es,ep,t,rfl,hS',pm.length_eq,hkp⟩
   ·cases r₂ with
    | error e=>exact hr₂
    | ok fl₂=>
     cases fl₂ with
     | ret r=>
      obtain ⟨rfl,h',tk,L,es,ep,t,rfl,hS',hlen,hk'⟩:=hr₂
      repeat (any_goals (first | assumption | wp_step))
      exact hQ _ _ _ _ _ _ hS' hlen hk'
     | _=>exact hr₂.elim
  | _=>exact hr.elim
end
end Se
end Mir
namespace Mir
open PySem PySem.Spec PyProof.Rows L2
def j4:D→Option (List Int)
 | .tup ds=>aF intOf ds
 | _=>none
def nY (m:Mem):Option (List (List Int))→R D
 | some ks=>if ks.length≤90∧ks.Nodup then .ok (.int (ks.length:Nat)) m else .stk
 | none=>.stk
def kX (c:EM):EM:=fun η m=>(c η m).bind fun d m1=>nY m1 ((ba m1 d).bind (aF j4))
section
variable {X:Cx} {E:XK}
theorem rY {W:Wd} {H:Hp}:∀ {ds:List D} {vs:List V} {ks:List (List Int)},Reps X.K W H ds vs→aF j4 ds=some ks→∃ ps:List (Addr×List Int),vs=ps.map (fun p=>V.ref p.1)∧ks=ps.map (·.2)∧∀ p∈ps,SqT X.K H p.1 (p.2.map V.int)
 | [],vs,ks,r,h=>⟨[],by rw [r.nil']; rfl,by cases h; rfl,fun p hp=>nomatch hp⟩
 | d ::ds,vs,ks,r,h=>by
  obtain ⟨v,vr,rfl,r1,r2⟩:=r.cons'
  obtain ⟨k,ks',rfl,h1,h2⟩:=dt h
  obtain ⟨ps,rfl,rfl,e3⟩:=rY r2 h2
  cases d<;>first | cases h1 | skip
  obtain ⟨a,us,rfl,q1,q2⟩:=r1.tup'
  have:=ints_rep q2 h1
  subst this
  exact ⟨(a,k) ::ps,rfl,rfl,fun p hp=>by
   rcases List.mem_cons.mp hp with rfl | hp
   ·exact q1
   ·exact e3 p hp⟩
theorem vj {a:Expr} {ca:EM} {p p2 q pos:Pos} (hm:X.mg "len"=none) (hg:Gl X "len") (hm2:X.mg "set"=none) (hg2:Gl X "set") (ha:MEx X E a ca) (hu:X.A.units+64 < cLine) (hc:X.calm=true:=by rfl)
  (na:starEach [a] X.env=(false,eval a X.env) ::starEach [] X.env:=by rfl):MEx X E (.Call (.Name "len" p) [.Call (.Name "set" p2) [a] [] q] [] pos) (kX ca):=by
 refine ⟨fun pins s σ H Q I ⟨W,η,m,sm,n,p⟩=>?_⟩
 refine Call_ (ld_blt I hg hm boot_len ?_)
 refine PyProof.Rows.callWith_builtin1 (PyProof.Rows.args_cons ?_ rfl) rfl rfl
 refine Call_ (ld_blt I hg2 hm2 boot_set ?_)
 refine PyProof.Rows.callWith_type1 (PyProof.Rows.args_cons (thn (ha.run pins s σ H _ I ⟨W,η,m,sm,n,Post.bind (Rl:=Rep X.K) p⟩) fun v s1 ⟨x,H1,I1,r1,W1,d,m1,e1,sm1,rd,p1⟩=>PyProof.Rows.args_nil ?_) na) na rfl
 cases hs:ba m1 d with
 | none=>rw [hs] at p1; exact p1.elim
 | some ds=>
  cases hn:aF j4 ds with
  | none=>rw [hs] at p1; simp only [Option.bind_some,hn] at p1; exact p1.elim
  | some ks=>
   rw [hs] at p1
   simp only [Option.bind_some,hn] at p1
   replace p1:Post X.K X.mg E (Rep X.K) W1 H1 Q (if ks.length≤90∧ks.Nodup then .ok (.int (ks.length:Nat)) m1 else .stk):=p1
   split at p1
   ·rename_i hl
    obtain ⟨l,vs,rfl,hq,r2⟩:=sm1.lst rd hs
    obtain ⟨ps,rfl,rfl,e3⟩:=rY r2 hn
    cases r1
    rw [List.length_map] at hl p1
    have q1:Q (.int (ps.length:Nat)) H1:=p1.now sm1 bw
    obtain ⟨its,r,pl,hz⟩:=I1.list hq
    refine Se.call_setN (P:=X.prog) (w:=X.w) ps (I1.ok.hd hc) pl.isList (by simpa using refs_of_vals r) (fun p hp=>I1.isT (e3 p hp)) hl.1 hl.2 (by omega) fun h' tk L es ep t R hlen hk=>?_
    refine PyProof.Rows.args_nil ?_
    have hsz:=R.size
    have fit:=R.fit
    have few:=R.few
    obtain ⟨o,ho,hex,hd⟩:=R.o
    have I2:Inv X pins σ H1 { s1 with heap:=h',toks:=tk }:=I1.kept fun b o e=>hk b o e
    exact call_len_set ho hex hd fit (by omega) ⟨.int (ps.length:Nat),H1,I2.tok _,⟨_,by rw [hsz,hlen]⟩,q1⟩
   ·exact p1.elim
end
end Mir
namespace Mir.Y
open PySem PySem.Spec PyProof.Rows L2 Mir
def mn:SM:=(aN (ab 1))
def mJ:SM:=ar (fF (dc (mCB aU (ae (ab 0) ag))) (gNm 2) (bo (aG (mOp gLt (ab 2) (mCB aU (ae (ab 1) ag)))) (fF (mIt (mOp gIx (ab 0) (mOp gIx (ab 1) (ab 2)))) (gNm 3) (bo (jG (aG (mOp (gIs true) (ab 3) (mC .non))) (aG (mOp (gIn true) (ab 3) (ab 1)))) (gn (mBM "list" df (ab 1) (ae (ab 3) ag))) aV)) aV)) mn
def qU:SM:=ar (aC (eS true (ae (mC (.int 0)) ag)) (gNm 1)) mJ
def cD:FM:=mFn 1 4 qU
def lE:SM:=(aN (bJ (ae (ab 4) (ae (mCB br (ae (ab 2) ag)) ag))))
def lW:SM:=ar (fF (mIt (ab 1)) (gNm 3) (gn (mBM "list" df (ab 2) (ae (mCB br (ae (mLc [6] false (mIt (mOp gIx (ab 5) (ab 3))) (gNm 6) bz (mIf (aG (mOp (gIs false) (ab 6) (mC .non))) (mC .non) (mBM "list" cB (ab 1) (ae (ab 6) ag)))) ag)) ag)))) lE
def lD:SM:=ar (aC (eS true ag) (gNm 2)) lW
def lr:SM:=ar (aC (ax cD (ae (ab 5) ag)) (gNm 1)) lD
def pz:SM:=ar (aC (ab 0) (gTp 2 (aP (gNm 4) (aP (gNm 5) cg)))) lr
def eY:FM:=mFn 1 7 pz
def q5:SM:=(aN (mCB br (ae (mLc [4] false (dc (mCB aU (ae (ab 2) ag))) (gNm 4) bz (mOp gIx (ab 3) (mBM "list" cB (ab 2) (ae (ab 4) ag)))) ag)))
def q6:SM:=ar (aC (ax cD (ae (mOp gIx (ab 1) (mC (.int 1))) ag)) (gNm 3)) q5
def qn:SM:=ar (aC (ax cD (ae (mOp gIx (ab 0) (mC (.int 1))) ag)) (gNm 2)) q6
def qj:SM:=ar (bo (aG (mOp (gEq true) (ax eY (ae (ab 0) ag)) (ax eY (ae (ab 1) ag)))) (aN (mC .non)) aV) qn
def vP:SM:=ar (bo (mOr (aG (mOp (gEq true) (mOp gIx (ab 0) (mC (.int 0))) (mOp gIx (ab 1) (mC (.int 0))))) (aG (mOp (gEq true) (mCB aU (ae (mOp gIx (ab 0) (mC (.int 1))) ag)) (mCB aU (ae (mOp gIx (ab 1) (mC (.int 1))) ag))))) (aN (mC .non)) aV) qj
def kz:FM:=mFn 2 5 vP
def gC:SM:=(gn (mBM "list" df (ab 2) (ae (ab 9) ag)))
def hU:SM:=ar (vf (ab 3) (ab 9) (mCB aU (ae (ab 2) ag))) gC
def eE:SM:=(aC (mOp o4 (ab 3) (ab 9)) (gNm 8))
def gx:SM:=ar (bo (aG (mOp (pH true) (ab 9) (ab 3))) hU aV) eE
def hD:SM:=ar (aC (ax i9 (ae (ab 0) (ae (ab 5) (ae (ab 7) ag)))) (gNm 9)) gx
def eh:SM:=(gn (mBM "list" df (ab 6) (ae (ab 8) ag)))
def gA:SM:=ar (bo (eJ (ax i7 (ae (ab 0) (ae (ab 5) (ae (ab 7) ag))))) hD aV) eh
def hF:SM:=ar (aC (mC .non) (gNm 8)) gA
def en:SM:=(gn (mBM "list" df (ab 4) (ae (ab 6) ag)))
def gE:SM:=ar (fF (mIt (mOp gIx (ab 0) (mC (.int 0)))) (gNm 7) hF) en
def gD:SM:=ar (aC (eS true ag) (gNm 6)) gE
def hZ:SM:=ar (aC (mOp gIx (ab 2) (mCB aU (ae (ab 4) ag))) (gNm 5)) gD
def eI:SM:=(aN (bJ (ae (ab 2) (ae (ab 4) ag))))
def gO:SM:=ar (pq (aG (jT gLt gLe (mCB aU (ae (ab 4) ag)) (mCB aU (ae (ab 2) ag)) (ab 1))) hZ) eI
def gG:SM:=ar (aC (eS true ag) (gNm 4)) gO
def gJ:SM:=ar (aC (sd true (mOp gIx (ab 2) (mC (.int 0))) (mC (.int 0))) (gNm 3)) gG
def i5:SM:=ar (aC (eS true (ae (ax dI (ae (ab 0) ag)) ag)) (gNm 2)) gJ
def bQ:FM:=mFn 2 10 i5
def lB:SM:=(aN (bJ (ae (mCB br (ae (mLc [4] false (mIt (ab 2)) (gNm 4) bz (mOp gIx (mOp gIx (ab 0) (mC (.int 0))) (ab 4))) ag)) (ae (mCB br (ae (ab 3) ag)) ag))))
def lx:SM:=ar (aC (mLc [5] false (mIt (ab 1)) (gNm 5) bz (mCB br (ae (mLc [4] false (mIt (ab 2)) (gNm 4) bz (mOp gIx (ab 5) (ab 4))) ag))) (gNm 3)) lB
def oY:SM:=ar (aC (mLc [4] false (dc (mCB aU (ae (mOp gIx (ab 0) (mC (.int 0))) ag))) (gNm 4) (eJ (mCB (fC fun bs=>bs.any id) (ae (mLc [5] false (mIt (ab 1)) (gNm 5) bz (mOp (gIs true) (mOp gIx (ab 5) (ab 4)) (mC .non))) ag))) (ab 4)) (gNm 2)) lx
def dR:FM:=mFn 2 6 oY
def qY:SM:=(aN (iy (mOp (gEq false) (mOp gIx (ab 3) (mC (.int 0))) (mOp gIx (ab 1) (mC (.int 0)))) (mOp (gIs true) (ax kz (ae (ab 3) (ae (ab 1) ag))) (mC .non))))
def qV:SM:=ar (aC (ax dR (ae (ab 0) (ae (ab 5) ag))) (gNm 3)) qY
def qk:SM:=ar (bo (mOr (aG (mOp (gEq true) (mOp gIx (ab 0) (mC (.int 0))) (mOp gIx (ab 1) (mC (.int 0))))) (aG (mOp (gEq true) (mCB aU (ae (ab 4) ag)) (ab 2)))) (aN (mC (.bl false))) aV) qV
def qZ:SM:=ar (aC (ax bQ (ae (ab 0) (ae (ab 2) ag))) (gTp 2 (aP (gNm 4) (aP (gNm 5) cg)))) qk
def vw:SM:=ar (aC (mCB aU (ae (mOp gIx (ab 1) (mC (.int 1))) ag)) (gNm 2)) qZ
def gg:FM:=mFn 2 6 vw
def nH:SM:=(aN (bJ (ae (ax dR (ae (ab 0) (ae (ab 3) ag))) (ae (ab 2) ag))))
def nG:SM:=ar (bo (aG (mOp gGt (mCB aU (ae (ab 2) ag)) (ab 1))) mK aV) nH
def sk:SM:=ar (aC (ax bQ (ae (ab 0) (ae (ab 1) ag))) (gTp 2 (aP (gNm 2) (aP (gNm 3) cg)))) nG
def fz:FM:=mFn 2 4 sk
end Mir.Y
namespace Mir.Y
open PySem PySem.Spec PyProof.Rows L2 Mir
def mU:SM:=(aC (mOp gIx (mOp gIx (ab 5) (ab 1)) (mBM "tuple" fX (ab 4) (ae (ab 3) ag))) (gNm 1))
def pw:SM:=ar (bo (mOr (aG (mOp (gIn true) (ab 3) (ab 4))) (aG (mOp (gIs false) (mOp gIx (mOp gIx (ab 5) (ab 1)) (mBM "tuple" fX (ab 4) (ae (ab 3) ag))) (mC .non)))) (aN (mC .non)) aV) mU
def nE:SM:=(aN (ab 1))
def nK:SM:=ar (fF (mIt (ab 2)) (gNm 3) pw) nE
def tS:SM:=ar (aC (ab 0) (gTp 2 (aP (gNm 4) (aP (gNm 5) cg)))) nK
def fB:FM:=mFn 3 6 tS
end Mir.Y
namespace Mir.Y
open PySem PySem.Spec PyProof.Rows L2 Mir
def jc:D:=.str (Str.ofString "abcdefghijklmnopqrstuvwxyz")
def gK:D:=.int 6
def iQ:D:=.tup [.str (Str.ofString "deeds"),.str (Str.ofString "room"),.str (Str.ofString "heap"),.str (Str.ofString "map"),.str (Str.ofString "yard")]
def mE:SM:=(aN (mCB (fC fun bs=>bs.all id) (ae (mLc [1] false (mIt (ab 0)) (gNm 1) bz (mOp (gIn false) (ab 1) (mC jc))) ag)))
def qL:SM:=ar (bo (mOr (ir (aG (jT gLe gLe (mC (.int 1)) (mCB aU (ae (ab 0) ag)) (mC gK)))) (aG (mOp (gIn false) (ab 0) (mC iQ)))) (aN (mC (.bl false))) aV) mE
def fM:FM:=mFn 1 2 qL
def oX:SM:=(aN (iy (eV "int" (ab 0)) (vp (eV "bool" (ab 0)))))
def eO:FM:=mFn 1 1 oX
def nJ:SM:=(aN (iy (eV "tuple" (ab 0)) (mCB (fC fun bs=>bs.all id) (ae (mLc [1] false (mIt (ab 0)) (gNm 1) bz (eV "str" (ab 1))) ag))))
def d7:FM:=mFn 1 2 nJ
def jM:SM:=(aN (mC .non))
def lL:SM:=ar (fF (pf 0 (ab 0)) (gTp 2 (aP (gNm 1) (aP (gNm 2) cg))) (fF (pf 0 (ab 2)) (gTp 2 (aP (gNm 3) (aP (gNm 4) cg))) (bo (jG (aG (mOp (gIs true) (ab 4) (mC .non))) (ir (aG (jT gLe gLt (mC (.int 0)) (ab 4) (mCB aU (ae (ab 0) ag)))))) (aN (bJ (ae (ab 1) (ae (ab 3) ag)))) aV))) jM
def dj:FM:=mFn 1 5 lL
def mR:SM:=(aN (mCB (fC fun bs=>bs.all id) (ae (mLc [2] false (mIt (ab 0)) (gNm 2) bz (wY (mOp (gIs false) (ab 2) (mC .non)) (ax eO (ae (ab 2) ag)))) ag)))
def qt:SM:=ar (bo (mOr (ir (eJ (eV "tuple" (ab 0)))) (aG (mOp (gEq true) (mCB aU (ae (ab 0) ag)) (ab 1)))) (aN (mC (.bl false))) aV) mR
def fI:FM:=mFn 2 3 qt
def kc:SM:=(aN (mC .non))
def mx:SM:=ar (fF (pf 0 (ab 0)) (gTp 2 (aP (gNm 1) (aP (gNm 2) cg))) (bo (mOr (ir (eJ (ax fM (ae (ab 2) ag)))) (jG (aG (mOp gGt (ab 1) (mC (.int 0)))) (aG (mOp gLe (ab 2) (mOp gIx (ab 0) (mOp gSub (ab 1) (mC (.int 1)))))))) (aN (ab 1)) aV)) kc
def dF:FM:=mFn 1 3 mx
def lO:SM:=(aN (mCB (fC fun bs=>bs.all id) (ae (mLc [2] false (mIt (ab 1)) (gNm 2) bz (ax fI (ae (ab 2) (ae (mCB aU (ae (mOp gIx (ab 0) (mC (.int 0))) ag)) ag)))) ag)))
def lC:SM:=ar (bo (mOr (ir (eJ (eV "tuple" (ab 1)))) (aG (mOp (gEq false) (mCB aU (ae (ab 1) ag)) (mC (.int 0))))) (aN (mC (.bl false))) aV) lO
def lA:SM:=ar (aC (mOp gIx (ab 0) (mC (.int 1))) (gNm 1)) lC
def oB:SM:=ar (bo (mOr (ir (eJ (eV "tuple" (ab 0)))) (mOr (aG (mOp (gEq true) (mCB aU (ae (ab 0) ag)) (mC (.int 2)))) (ir (eJ (ax d7 (ae (mOp gIx (ab 0) (mC (.int 0))) ag)))))) (aN (mC (.bl false))) aV) lA
def eR:FM:=mFn 1 3 oB
def lG:SM:=(aN (mC (.bl true)))
def lu:SM:=ar (fF (dc (mCB aU (ae (ab 7) ag))) (gNm 5) (bo (aG (mOp (gIn true) (ab 5) (ab 4))) mK aV)) lG
def lM:SM:=ar (aC (ax cD (ae (ab 7) ag)) (gNm 4)) lu
def lU:SM:=ar (fF (dc (mCB aU (ae (ab 6) ag))) (gNm 3) (bo (eJ (mCB (fC fun bs=>bs.all id) (ae (mLc [8] false (mIt (ab 7)) (gNm 8) bz (mOp (gIs false) (mOp gIx (ab 8) (ab 3)) (mC .non))) ag))) mK aV)) lM
def lP:SM:=ar (bo (aG (mOp (gIs true) (ab 2) (mC .non))) mK aV) lU
def lJ:SM:=ar (aC (ax dj (ae (ab 7) ag)) (gNm 2)) lP
def lI:SM:=ar (bo (aG (mOp (gIs true) (ab 1) (mC .non))) mK aV) lJ
def lz:SM:=ar (aC (ax dF (ae (ab 6) ag)) (gNm 1)) lI
def lS:SM:=ar (aC (ab 0) (gTp 2 (aP (gNm 6) (aP (gNm 7) cg)))) lz
def oI:SM:=ar (bo (ir (eJ (ax eR (ae (ab 0) ag)))) mK aV) lS
def fU:FM:=mFn 1 9 oI
end Mir.Y
namespace Lw
open PySem PySem.Spec PyProof.Rows L2 Mir Mir.Y
theorem hu1 {A:Around} {k:Nat} (hr:Room k A):A.units+65 < cLine:=by have:=hr.un; omega
theorem hd1 {A:Around} {k:Nat} (hr:Room k A):A.units+1 < cLine:=by have:=hr.un; omega
theorem hd2 {A:Around} {k:Nat} (hr:Room k A):A.in1.in1.units < cLine:=by have:=hr.un; show A.units+2 < cLine; omega
def bM (i:Nat):Stmt:=PySem.Challenge.pw_heaploom_k21_whole_walks_are_rows.main.body.getD i (.Pass ⟨0,0,0,0⟩)
abbrev fO:Stmt:=bM 8
theorem sc_is_name:FnScope ["text","sign"] ["text"] (defScope fO):=⟨rfl,rfl,rfl,by decide +kernel,rfl,by decide +kernel,by decide +kernel⟩
abbrev fk:Stmt:=bM 10
theorem tV:FnScope ["thing"] ["thing"] (defScope fk):=⟨rfl,rfl,rfl,by decide +kernel,rfl,by decide +kernel,by decide +kernel⟩
abbrev eF:Stmt:=bM 11
theorem sc_are_texts:FnScope ["thing","one"] ["thing"] (defScope eF):=⟨rfl,rfl,rfl,by decide +kernel,rfl,by decide +kernel,by decide +kernel⟩
abbrev fZ:Stmt:=bM 12
theorem sc_is_room:FnScope ["thing","many","one"] ["thing","many"] (defScope fZ):=⟨rfl,rfl,rfl,by decide +kernel,rfl,by decide +kernel,by decide +kernel⟩
abbrev ff:Stmt:=bM 13
theorem sc_has_form:FnScope ["thing","rooms","room"] ["thing"] (defScope ff):=⟨rfl,rfl,rfl,by decide +kernel,rfl,by decide +kernel,by decide +kernel⟩
abbrev dP:Stmt:=bM 14
theorem sc_wrong_deed:FnScope ["deeds","k","deed"] ["deeds"] (defScope dP):=⟨rfl,rfl,rfl,by decide +kernel,rfl,by decide +kernel,by decide +kernel⟩
abbrev dw:Stmt:=bM 15
theorem sc_wrong_entry:FnScope ["rooms","s","room","k","goal"] ["rooms"] (defScope dw):=⟨rfl,rfl,rfl,by decide +kernel,rfl,by decide +kernel,by decide +kernel⟩
abbrev fQ:Stmt:=bM 16
theorem sc_come_to:FnScope ["rooms","found","s","goal"] ["rooms"] (defScope fQ):=⟨rfl,rfl,rfl,by decide +kernel,rfl,by decide +kernel,by decide +kernel⟩
abbrev fh:Stmt:=bM 17
theorem sc_look_map:FnScope ["thing","deed","entry","k","met","s","deeds","rooms","room"] ["thing"] (defScope fh):=⟨rfl,rfl,rfl,by decide +kernel,rfl,by decide +kernel,by decide +kernel⟩
abbrev gy:Stmt:=bM 18
theorem sc_behind:FnScope ["chart","room","row","deed","deeds","rooms"] ["chart","room","row"] (defScope gy):=⟨rfl,rfl,rfl,by decide +kernel,rfl,by decide +kernel,by decide +kernel⟩
abbrev fc:Stmt:=bM 20
theorem sc_numbered:FnScope ["chart","order","found","s","deeds","rooms","goal"] ["chart"] (defScope fc):=⟨rfl,rfl,rfl,by decide +kernel,rfl,by decide +kernel,by decide +kernel⟩
abbrev jg:Stmt:=bM 21
theorem sc_laid:FnScope ["one","other","order","places","s"] ["one","other"] (defScope jg):=⟨rfl,rfl,rfl,by decide +kernel,rfl,by decide +kernel,by decide +kernel⟩
abbrev dB:Stmt:=bM 23
theorem sc_first_stand:FnScope ["yard","heap"] ["yard"] (defScope dB):=⟨rfl,rfl,rfl,by decide +kernel,rfl,by decide +kernel,by decide +kernel⟩
abbrev kG:Stmt:=bM 24
theorem sc_can:FnScope ["yard","stand","deed","k","deeds","heaps","count","heap"] ["yard","stand","deed"] (defScope kG):=⟨rfl,rfl,rfl,by decide +kernel,rfl,by decide +kernel,by decide +kernel⟩
abbrev kI:Stmt:=bM 25
theorem sc_led:FnScope ["yard","stand","deed","k","deeds","heaps","count","heap"] ["yard","stand","deed"] (defScope kI):=⟨rfl,rfl,rfl,by decide +kernel,rfl,by decide +kernel,by decide +kernel⟩
abbrev b8:Stmt:=bM 27
theorem sc_stands_and_ways:FnScope ["yard","most","stands","numbers","rows","here","row","deed","to","there"] ["yard","most"] (defScope b8):=⟨rfl,rfl,rfl,by decide +kernel,rfl,by decide +kernel,by decide +kernel⟩
abbrev ft:Stmt:=bM 28
theorem sc_chart_of:FnScope ["yard","rows","kept","rooms","k","row"] ["yard","rows"] (defScope ft):=⟨rfl,rfl,rfl,by decide +kernel,rfl,by decide +kernel,by decide +kernel⟩
abbrev gB:Stmt:=bM 29
theorem sc_walked:FnScope ["yard","most","stands","rows"] ["yard","most"] (defScope gB):=⟨rfl,rfl,rfl,by decide +kernel,rfl,by decide +kernel,by decide +kernel⟩
abbrev jf:Stmt:=bM 30
theorem sc_does:FnScope ["yard","chart","many","found","stands","rows"] ["yard","chart"] (defScope jf):=⟨rfl,rfl,rfl,by decide +kernel,rfl,by decide +kernel,by decide +kernel⟩
abbrev ek:Stmt:=bM 32
theorem sZ:FnScope ["_law_script"] ["_law_script"] (defScope ek):=⟨rfl,rfl,rfl,by decide +kernel,rfl,by decide +kernel,by decide +kernel⟩
abbrev eG:Stmt:=bM 33
theorem sc__law_pick:FnScope ["_law_flow_here","_law_many","_law_cell","_law_digit"] ["_law_flow_here","_law_many"] (defScope eG):=⟨rfl,rfl,rfl,by decide +kernel,rfl,by decide +kernel,by decide +kernel⟩
abbrev cM:Stmt:=bM 34
theorem sc__law_shuffled:FnScope ["_law_flow_here","_law_some","_law_left","_law_k"] ["_law_flow_here","_law_some"] (defScope cM):=⟨rfl,rfl,rfl,by decide +kernel,rfl,by decide +kernel,by decide +kernel⟩
abbrev eu:Stmt:=bM 35
theorem sc__law_word:FnScope ["_law_flow_here","_law_letters","_law_word_here","_law_k"] ["_law_flow_here"] (defScope eu):=⟨rfl,rfl,rfl,by decide +kernel,rfl,by decide +kernel,by decide +kernel⟩
abbrev dM:Stmt:=bM 36
theorem sc__law_names:FnScope ["_law_flow_here","_law_many","_law_letters","_law_tail","_law_found","_law_at","_law_turn","_law_k","_law_name"] ["_law_flow_here","_law_many"] (defScope dM):=⟨rfl,rfl,rfl,by decide +kernel,rfl,by decide +kernel,by decide +kernel⟩
abbrev cI:Stmt:=bM 37
theorem sc__law_is_there:FnScope ["_law_heaps","_law_stand","_law_k","_law_heap_here","_law_count"] ["_law_heaps","_law_stand","_law_k"] (defScope cI):=⟨rfl,rfl,rfl,by decide +kernel,rfl,by decide +kernel,by decide +kernel⟩
abbrev fb:Stmt:=bM 38
theorem sc__law_led:FnScope ["_law_heaps","_law_stand","_law_k","_law_heap_here","_law_count"] ["_law_heaps","_law_stand","_law_k"] (defScope fb):=⟨rfl,rfl,rfl,by decide +kernel,rfl,by decide +kernel,by decide +kernel⟩
abbrev dz:Stmt:=bM 39
theorem sc__law_walked:FnScope ["_law_yard","_law_most","_law_stands","_law_rows","_law_deeds","_law_heaps","_law_row","_law_k","_law_some","_law_there","_law_heap_here","_law_count"] ["_law_yard","_law_most"] (defScope dz):=⟨rfl,rfl,rfl,by decide +kernel,rfl,by decide +kernel,by decide +kernel⟩
abbrev eC:Stmt:=bM 40
theorem sc__law_heap:FnScope ["_law_flow_here","_law_deeds","_law_most","_law_takes","_law_lays","_law_k"] ["_law_flow_here","_law_deeds","_law_most"] (defScope eC):=⟨rfl,rfl,rfl,by decide +kernel,rfl,by decide +kernel,by decide +kernel⟩
abbrev cN:Stmt:=bM 41
theorem sc__law_any_yard:FnScope ["_law_flow_here","_law_most","_law_deeds","_law_heaps","_law_k"] ["_law_flow_here","_law_most"] (defScope cN):=⟨rfl,rfl,rfl,by decide +kernel,rfl,by decide +kernel,by decide +kernel⟩
abbrev bU:Stmt:=bM 42
theorem sc__law_alike:FnScope ["_law_found","_law_due","_law_one","_law_other"] ["_law_found","_law_due"] (defScope bU):=⟨rfl,rfl,rfl,by decide +kernel,rfl,by decide +kernel,by decide +kernel⟩
abbrev b0:Stmt:=bM 43
theorem sc__law_more_heaps:FnScope ["_law_flow_here","_law_deeds","_law_one","_law_form","_law_ways","_law_k","_law_w"] ["_law_flow_here","_law_deeds"] (defScope b0):=⟨rfl,rfl,rfl,by decide +kernel,rfl,by decide +kernel,by decide +kernel⟩
abbrev cy:Stmt:=bM 44
theorem sc__law_some_yard:FnScope ["_law_flow_here","_law_form","_law_k"] ["_law_flow_here"] (defScope cy):=⟨rfl,rfl,rfl,by decide +kernel,rfl,by decide +kernel,by decide +kernel⟩
abbrev dN:Stmt:=bM 45
theorem sc__law_first:FnScope ["_law_yard","_law_heap_here"] ["_law_yard"] (defScope dN):=⟨rfl,rfl,rfl,by decide +kernel,rfl,by decide +kernel,by decide +kernel⟩
abbrev fj:Stmt:=bM 46
theorem sc__law_can:FnScope ["_law_yard","_law_stand","_law_deed","_law_deeds","_law_heaps"] ["_law_yard","_law_stand","_law_deed"] (defScope fj):=⟨rfl,rfl,rfl,by decide +kernel,rfl,by decide +kernel,by decide +kernel⟩
abbrev fW:Stmt:=bM 47
theorem vh:FnScope ["_law_yard","_law_stand","_law_deed"] ["_law_yard","_law_stand","_law_deed"] (defScope fW):=⟨rfl,rfl,rfl,by decide +kernel,rfl,by decide +kernel,by decide +kernel⟩
abbrev cH:Stmt:=bM 48
theorem nU:FnScope ["_law_flow_here","_law_yard"] ["_law_flow_here","_law_yard"] (defScope cH):=⟨rfl,rfl,rfl,by decide +kernel,rfl,by decide +kernel,by decide +kernel⟩
abbrev dA:Stmt:=bM 49
theorem sc__law_behind:FnScope ["_law_yard","_law_row","_law_stand","_law_deed","_law_due","_law_there"] ["_law_yard","_law_row"] (defScope dA):=⟨rfl,rfl,rfl,by decide +kernel,rfl,by decide +kernel,by decide +kernel⟩
abbrev cC:Stmt:=bM 50
theorem sc__law_far_right:FnScope ["_law_flow_here","_law_yard","_law_one","_law_other","_law_chart","_law_stands"] ["_law_flow_here"] (defScope cC):=⟨rfl,rfl,rfl,by decide +kernel,rfl,by decide +kernel,by decide +kernel⟩
abbrev gQ:Stmt:=bM 51
theorem sc_law:FnScope ["_law_script","_law_flow_here","_law_yard","_law_turn","_law_deeds","_law_chart","_law_stands","_law_row","_law_here","_law_k","_law_room","_law_due","_law_some","_law_deed"] ["_law_script"] (defScope gQ):=⟨rfl,rfl,rfl,by decide +kernel,rfl,by decide +kernel,by decide +kernel⟩
def hC:SM:=(aN (iy (mOp (gEq false) (mCB aU (ae (ab 5) ag)) (mOp eN (mOp (bp false) (ab 2) (mC (.int 1))) (mOp (bp false) (ab 3) (mC (.int 1))))) (mOp (pW false) (ax gg (ae (ab 1) (ae (ab 4) ag))) (mC (.bl true)))))
def g9:SM:=ar (aC (mH 1 0 [0,1] [.int 500] fz (ae (ab 1) ag) ag) (gTp 2 (aP (gNm 4) (aP (gNm 5) cg)))) hC
def hG:SM:=ar (aC (bJ (ae (ax bY (ae (ab 0) (ae (mC (.int 2)) ag))) (ae (bJ (ae (bJ (ae (ab 2) (ae (bJ (ae (mC (.int 1)) (ae (mC (.int 0)) ag))) (ae (bJ (ae (mC (.int 0)) (ae (mC (.int 0)) ag))) ag)))) (ae (bJ (ae (ab 3) (ae (bJ (ae (mC (.int 0)) (ae (mC (.int 1)) ag))) (ae (bJ (ae (mC (.int 0)) (ae (mC (.int 0)) ag))) ag)))) ag))) ag))) (gNm 1)) g9
def jy:SM:=ar (sO 2 3 (ae (mOp (bp false) (mC (.int 11)) (ax aq (ae (ab 0) (ae (mC (.int 7)) ag)))) (ae (mOp (bp false) (mC (.int 11)) (ax aq (ae (ab 0) (ae (mC (.int 7)) ag)))) ag))) hG
def cJ:FM:=mFn 1 6 jy
def iZ:SM:=(aC (ab 5) (gNm 2))
def iU:SM:=ar (bo (aG (mOp (gEq true) (ax i9 (ae (ab 0) (ae (ab 2) (ae (ab 3) ag)))) (ab 5))) (aN (bJ ag)) aV) iZ
def i3:SM:=ar (aC (ax dQ (ae (ab 0) (ae (ab 2) (ae (ab 3) ag)))) (gNm 5)) iU
def iV:SM:=ar (bo (ir (eJ (ab 4))) (aN (mC .non)) aV) i3
def iR:SM:=ar (bo (ir (eJ (ax (bc 12) (ae (ax i7 (ae (ab 0) (ae (ab 2) (ae (ab 3) ag)))) (ae (ab 4) ag))))) (aN (bJ ag)) aV) iV
def j7:SM:=ar (aC (ax cP (ae (ab 0) (ae (ab 2) (ae (ab 3) ag)))) (gNm 4)) iR
def jJ:SM:=(aN (eS false (ae (ab 2) ag)))
def jl:SM:=ar (fF (mIt (ab 1)) (gNm 3) j7) jJ
def lH:SM:=ar (aC (ax cq (ae (ab 0) ag)) (gNm 2)) jl
def dh:FM:=mFn 2 6 lH
def q7:SM:=(aC (bJ (ae (mOp gIx (ab 2) (mC (.int 0))) (ae (mOp (bp false) (mSl (gSl false) (mOp gIx (ab 2) (mC (.int 1))) je (m9 (mC (.int 2)))) (bJ (ae (bJ (ae (mOp (bp false) (mC (.int 1)) (ax aq (ae (ab 1) (ae (mC (.int 2)) ag)))) (ae (mOp kW (bJ (ae (mC (.int 1)) ag)) (ab 4)) (ae (mOp kW (bJ (ae (mC (.int 0)) ag)) (ab 4)) ag)))) ag))) ag))) (gNm 2))
def uJ:SM:=ar (aC (mCB aU (ae (mOp gIx (ab 2) (mC (.int 0))) ag)) (gNm 4)) q7
def mP:SM:=(gn (mBM "list" df (ab 7) (ae (ab 13) ag)))
def mc:SM:=ar (bo (eJ (ax cP (ae (ab 2) (ae (ab 8) (ae (ab 13) ag))))) (aC (ax dQ (ae (ab 2) (ae (ab 8) (ae (ab 13) ag)))) (gNm 8)) aV) mP
def qB:SM:=ar (bo (jG (aG (mOp gGt (mCB aU (ae (ab 12) ag)) (mC (.int 0)))) (aG (mOp gGt (ax aq (ae (ab 1) (ae (mC (.int 5)) ag))) (mC (.int 0))))) (aC (mOp gIx (ab 12) (ax aq (ae (ab 1) (ae (mCB aU (ae (ab 12) ag)) ag)))) (gNm 13)) aV) mc
def qy:SM:=ar (aC (ax cY (ae (ab 1) (ae (ab 2) ag))) (gNm 13)) qB
def uh:SM:=ar (aC (mLc [13] false (mIt (mOp gIx (ab 2) (mC (.int 0)))) (gNm 13) (eJ (ax cP (ae (ab 2) (ae (ab 8) (ae (ab 13) ag))))) (ab 13)) (gNm 12)) qy
def mM:SM:=(bo (jG (aG (mOp (gIs true) (ab 10) (mC .non))) (aG (mOp (gEq true) (mOp gIx (ab 6) (ab 10)) (mOp gIx (ab 11) (mC (.int 0)))))) (aN (mC (.bl false))) aV)
def mT:SM:=ar (bo (mOr (aG (mOp (gEq false) (ab 11) (bJ ag))) (aG (mOp (gEq true) (mOp (gIs false) (ab 10) (mC .non)) (mOp (gIs false) (ab 11) (mC .non))))) (aN (mC (.bl false))) aV) mM
def qv:SM:=ar (aC (ax dh (ae (ab 2) (ae (ab 7) ag))) (gNm 11)) mT
def kh:SM:=ar (aC (ax fB (ae (ab 5) (ae (mC (.int 0)) (ae (mCB br (ae (ab 7) ag)) ag)))) (gNm 10)) qv
def q8:SM:=ar (fF (dc (ax aq (ae (ab 1) (ae (mC (.int 9)) ag)))) (gNm 9) uh) kh
def qe:SM:=ar (aC (ax cq (ae (ab 2) ag)) (gNm 8)) q8
def uA:SM:=ar (aC (eS true ag) (gNm 7)) qe
def kR:SM:=(aN (ax (bc 12) (ae (ax gg (ae (ab 2) (ae (ab 5) ag))) (ae (mOp (gEq false) (mOp gIx (ab 5) (mC (.int 0))) (mOp gIx (ab 2) (mC (.int 0)))) ag))))
def n7:SM:=ar (fF (dc (mOp (bp false) (mC (.int 1)) (ax aq (ae (ab 1) (ae (mC (.int 12)) ag))))) (gNm 3) uA) kR
def sU:SM:=ar (bo (mOr (aG (mOp (pW true) (ax fU (ae (ab 5) ag)) (mC (.bl true)))) (mOr (aG (mOp (gEq true) (mCB aU (ae (ab 6) ag)) (mCB aU (ae (mOp gIx (ab 5) (mC (.int 1))) ag)))) (aG (mOp (gEq true) (kX (ab 6)) (mCB aU (ae (ab 6) ag)))))) (aN (mC (.bl false))) aV) n7
def nQ:SM:=ar (aC (mH 1 0 [0,1] [.int 500] fz (ae (ab 2) ag) ag) (gTp 2 (aP (gNm 5) (aP (gNm 6) cg)))) sU
def tM:SM:=ar (bo (aG (mOp (gIs false) (ax dO (ae (ab 2) (ae (mC (.int 80)) ag))) (mC .non))) uJ aV) nQ
def n9:SM:=ar (aC (ax cG (ae (ab 1) ag)) (gNm 2)) tM
def s7:SM:=ar (bo (jG (aG (mOp (gEq false) (ax aq (ae (ab 1) (ae (mC (.int 8)) ag))) (mC (.int 0)))) (ir (eJ (ax cJ (ae (ab 1) ag))))) (aN (mC (.bl false))) aV) n9
def x7:SM:=ar (aC (ax dZ (ae (ab 0) ag)) (gNm 1)) s7
def rR:FM:=mFn 1 14 x7
structure Tx (K:PySem.W.Frag) (mg:Str→Option Value):Prop where
 b_all:mg "all"=none
 b_any:mg "any"=none
 b_bool:mg "bool"=none
 b_enumerate:mg "enumerate"=none
 b_int:mg "int"=none
 b_isinstance:mg "isinstance"=none
 b_len:mg "len"=none
 b_list:mg "list"=none
 b_max:mg "max"=none
 b_range:mg "range"=none
 b_set:mg "set"=none
 b_sorted:mg "sorted"=none
 b_str:mg "str"=none
 b_tuple:mg "tuple"=none
 b_zip:mg "zip"=none
 g_LETTERS:rK K mg "LETTERS" jc
 g_LONGEST_NAME:rK K mg "LONGEST_NAME" gK
 g_KEPT_WORDS:rK K mg "KEPT_WORDS" iQ
section
variable {P:Program} {w:World} {K:PySem.W.Frag} {mg:Str→Option Value} {base:Heap}
theorem uS (T:Tx K mg) {f:Addr} {fd:FuncData} (F:Fun K "is_name" "is_name" fO f fd):FnOk P w K mg base CX0 1 f fd ["text"] (sp0 K mg fM):=
 aW F sc_is_name fun cdv A outer s H E hr=>
  (ai (bb (fv (fK (kT mZ mZ ah (ay aT T.b_len (by rfl) PySem.boot_len (aa (mv 0) af)) (pS T.g_LONGEST_NAME (by rfl)))) (eZ (aI (oH (hu1 hr)) (mv 0) (pS T.g_KEPT_WORDS (by rfl)) rfl))).pt (aj (aA eH)) aH)
  (aj (aA (ay (gN rfl) T.b_all (by rfl) boot_all (aa (bG false [("sign",1)] rfl sc_is_name.nd (bZ (mv 0)) (blkOk_by (by kernel_rfl)) (fun _ _ _ _ _=>(ao (by decide) sc_is_name.nd rfl (by first | exact .inl rfl | exact .inr rfl))) (fun _ _ _ _ _=>aX) (fun _ _ _ _ _=>(bO (oH (hu1 hr)) (mv 1) (pS T.g_LETTERS (by rfl)) rfl))) af)))))
theorem t9 (T:Tx K mg) {f:Addr} {fd:FuncData} (F:Fun K "is_whole" "is_whole" fk f fd):FnOk P w K mg base CX0 1 f fd ["thing"] (sp0 K mg eO):=
 aW F tV fun cdv A outer s H E hr=>
  (aj (aA (iB (cS "int" T.b_isinstance T.b_int (by rfl) (by rfl) boot_int (mv 0)) (pe_one (z9 (cS "bool" T.b_isinstance T.b_bool (by rfl) (by rfl) boot_bool (mv 0)))))))
theorem sH (T:Tx K mg) {f:Addr} {fd:FuncData} (F:Fun K "are_texts" "are_texts" eF f fd):FnOk P w K mg base CX0 1 f fd ["thing"] (sp0 K mg d7):=
 aW F sc_are_texts fun cdv A outer s H E hr=>
  (aj (aA (iB (cS "tuple" T.b_isinstance T.b_tuple (by rfl) (by rfl) boot_tuple (mv 0)) (pe_one (ay (gN rfl) T.b_all (by rfl) boot_all (aa (bG false [("one",1)] rfl sc_are_texts.nd (bZ (mv 0)) (blkOk_by (by kernel_rfl)) (fun _ _ _ _ _=>(ao (by decide) sc_are_texts.nd rfl (by first | exact .inl rfl | exact .inr rfl))) (fun _ _ _ _ _=>aX) (fun _ _ _ _ _=>(cS "str" T.b_isinstance T.b_str (by rfl) (by rfl) boot_str (mv 1)))) af))))))
theorem vm (T:Tx K mg) (h_is_whole:FnD P w K mg base 1 "is_whole" ["thing"] eO) {f:Addr} {fd:FuncData} (F:Fun K "is_room" "is_room" fZ f fd):FnOk P w K mg base CX0 2 f fd ["thing","many"] (sp0 K mg fI):=
 aW F sc_is_room fun cdv A outer s H E hr=>
  (ai (bb (fv (fK (cV (cS "tuple" T.b_isinstance T.b_tuple (by rfl) (by rfl) boot_tuple (mv 0)))) (eZ (aI (eX hr.units) (ay aT T.b_len (by rfl) PySem.boot_len (aa (mv 0) af)) (mv 1) (nomark _)))).pt (aj (aA eH)) aH)
  (aj (aA (ay (gN rfl) T.b_all (by rfl) boot_all (aa (bG false [("one",2)] rfl sc_is_room.nd (bZ (mv 0)) (blkOk_by (by kernel_rfl)) (fun _ _ _ _ _=>(ao (by decide) sc_is_room.nd rfl (by first | exact .inl rfl | exact .inr rfl))) (fun _ _ _ _ _=>aX) (fun _ _ _ _ _=>(Ak (bO kf (mv 2) bP (nomark _)) (pe_one (ak h_is_whole (hr.mono (by decide)) (by rfl) (aa (mv 2) af)))))) af)))))
theorem ua (T:Tx K mg) (h_are_texts:FnD P w K mg base 1 "are_texts" ["thing"] d7) (h_is_room:FnD P w K mg base 2 "is_room" ["thing","many"] fI) {f:Addr} {fd:FuncData} (F:Fun K "has_form" "has_form" ff f fd):FnOk P w K mg base CX0 3 f fd ["thing"] (sp0 K mg eR):=
 aW F sc_has_form fun cdv A outer s H E hr=>
  (ai (bb (fv (fK (cV (cS "tuple" T.b_isinstance T.b_tuple (by rfl) (by rfl) boot_tuple (mv 0)))) (fv (aI (eX hr.units) (ay aT T.b_len (by rfl) PySem.boot_len (aa (mv 0) af)) ah (nomark _)) (eZ (fK (cV (ak h_are_texts (hr.mono (by decide)) (by rfl) (aa (av aw (mv 0) ah (fun _ _=>rfl)) af))))))).pt (aj (aA eH)) aH)
  (ai (aE sc_has_form.nd rfl (by first | exact .inl rfl | exact .inr rfl) (av aw (mv 0) ah (fun _ _=>rfl)))
  (ai (bb (fv (fK (cV (cS "tuple" T.b_isinstance T.b_tuple (by rfl) (by rfl) boot_tuple (mv 1)))) (eZ (aI (dH hr.units) (ay aT T.b_len (by rfl) PySem.boot_len (aa (mv 1) af)) ah (nomark _)))).pt (aj (aA eH)) aH)
  (aj (aA (ay (gN rfl) T.b_all (by rfl) boot_all (aa (bG false [("room",2)] rfl sc_has_form.nd (bZ (mv 1)) (blkOk_by (by kernel_rfl)) (fun _ _ _ _ _=>(ao (by decide) sc_has_form.nd rfl (by first | exact .inl rfl | exact .inr rfl))) (fun _ _ _ _ _=>aX) (fun _ _ _ _ _=>(ak h_is_room (hr.mono (by decide)) (by rfl) (aa (mv 2) (aa (ay aT T.b_len (by rfl) PySem.boot_len (aa (av aw (mv 0) ah (fun _ _=>rfl)) af)) af))))) af)))))))
theorem rq (T:Tx K mg) (h_is_name:FnD P w K mg base 1 "is_name" ["text"] fM) {f:Addr} {fd:FuncData} (F:Fun K "wrong_deed" "wrong_deed" dP f fd):FnOk P w K mg base CX0 2 f fd ["deeds"] (sp0 K mg dF):=
 aW F sc_wrong_deed fun cdv A outer s H E hr=>
  (ai (dE (vs:=[1,2]) PassesOwn.never rfl (pO T.b_enumerate (by rfl) (mv 0)) (fS rfl (aD (ao (by decide) sc_wrong_deed.nd rfl (by first | exact .inl rfl | exact .inr rfl)) (aD (ao (by decide) sc_wrong_deed.nd rfl (by first | exact .inl rfl | exact .inr rfl)) bL))) (aj (bb (fv (fK (cV (ak h_is_name (hr.mono (by decide)) (by rfl) (aa (mv 2) af)))) (eZ (iN (aI jY (mv 1) ah (nomark _)) (gz (aI mZ (mv 2) (av aw (mv 0) (aK ky (mv 1) ah) (fun _ _=>rfl)) (nomark _)))).pt)).pt (aj (aA (mv 1))) aH)))
  (aj (aA bP)))
theorem pM (T:Tx K mg) {f:Addr} {fd:FuncData} (F:Fun K "wrong_entry" "wrong_entry" dw f fd):FnOk P w K mg base CX0 1 f fd ["rooms"] (sp0 K mg dj):=
 aW F sc_wrong_entry fun cdv A outer s H E hr=>
  (ai (dE (vs:=[1,2]) PassesOwn.never rfl (pO T.b_enumerate (by rfl) (mv 0)) (fS rfl (aD (ao (by decide) sc_wrong_entry.nd rfl (by first | exact .inl rfl | exact .inr rfl)) (aD (ao (by decide) sc_wrong_entry.nd rfl (by first | exact .inl rfl | exact .inr rfl)) bL))) (aj (dE (vs:=[3,4]) PassesOwn.never rfl (pO T.b_enumerate (by rfl) (mv 2)) (fS rfl (aD (ao (by decide) sc_wrong_entry.nd rfl (by first | exact .inl rfl | exact .inr rfl)) (aD (ao (by decide) sc_wrong_entry.nd rfl (by first | exact .inl rfl | exact .inr rfl)) bL))) (aj (bb (iN (aI gu (mv 4) bP (nomark _)) (gz (fK (kT mZ oM ah (mv 4) (ay aT T.b_len (by rfl) PySem.boot_len (aa (mv 0) af)))))).pt (aj (aA (aY (aa (mv 1) (aa (mv 3) af))))) aH)))))
  (aj (aA bP)))
theorem vv (T:Tx K mg) {f:Addr} {fd:FuncData} (F:Fun K "come_to" "come_to" fQ f fd):FnOk P w K mg base CX0 1 f fd ["rooms"] (sp0 K mg cD):=
 aW F sc_come_to fun cdv A outer s H E hr=>
  (ai (aE sc_come_to.nd rfl (by first | exact .inl rfl | exact .inr rfl) (cR true (aa ah af)))
  (ai (dE (vs:=[2]) PassesOwn.never rfl (cf T.b_range (by rfl) (ay aT T.b_len (by rfl) PySem.boot_len (aa (mv 0) af))) (ao (by decide) sc_come_to.nd rfl (by first | exact .inl rfl | exact .inr rfl)) (aj (bb (aI oM (mv 2) (ay aT T.b_len (by rfl) PySem.boot_len (aa (mv 1) af)) (nomark _)) (aj (dE (vs:=[3]) PassesOwn.never rfl (bZ (av aw (mv 0) (av aw (mv 1) (mv 2) (fun _ _=>rfl)) (fun _ _=>rfl))) (ao (by decide) sc_come_to.nd rfl (by first | exact .inl rfl | exact .inr rfl)) (aj (bb (iN (aI gu (mv 3) bP (nomark _)) (gz (aI (jk (hu1 hr)) (mv 3) (mv 1) rfl))).pt (aj (fe (cE PySem.F.plainAttrs_list PySem.F.slot_list_append PySem.F.type_list_append du (mv 1) (aa (mv 3) af)))) aH)))) aH)))
  (aj (aA (mv 1)))))
theorem t8 (T:Tx K mg) (h_come_to:FnD P w K mg base 1 "come_to" ["rooms"] cD) (h_has_form:FnD P w K mg base 3 "has_form" ["thing"] eR) (h_wrong_deed:FnD P w K mg base 2 "wrong_deed" ["deeds"] dF) (h_wrong_entry:FnD P w K mg base 1 "wrong_entry" ["rooms"] dj) {f:Addr} {fd:FuncData} (F:Fun K "look_map" "look_map" fh f fd):FnOk P w K mg base CX0 4 f fd ["thing"] (sp0 K mg fU):=
 aW F sc_look_map fun cdv A outer s H E hr=>
  (ai (bb (fK (cV (ak h_has_form (hr.mono (by decide)) (by rfl) (aa (mv 0) af)))) ij aH)
  (ai (cm (vs:=[6,7]) (mv 0) (dY rfl (aD (ao (by decide) sc_look_map.nd rfl (by first | exact .inl rfl | exact .inr rfl)) (aD (ao (by decide) sc_look_map.nd rfl (by first | exact .inl rfl | exact .inr rfl)) bL))))
  (ai (aE sc_look_map.nd rfl (by first | exact .inl rfl | exact .inr rfl) (ak h_wrong_deed (hr.mono (by decide)) (by rfl) (aa (mv 6) af)))
  (ai (bb (aI gu (mv 1) bP (nomark _)) ij aH)
  (ai (aE sc_look_map.nd rfl (by first | exact .inl rfl | exact .inr rfl) (ak h_wrong_entry (hr.mono (by decide)) (by rfl) (aa (mv 7) af)))
  (ai (bb (aI gu (mv 2) bP (nomark _)) ij aH)
  (ai (dE (vs:=[3]) PassesOwn.never rfl (cf T.b_range (by rfl) (ay aT T.b_len (by rfl) PySem.boot_len (aa (mv 6) af))) (ao (by decide) sc_look_map.nd rfl (by first | exact .inl rfl | exact .inr rfl)) (aj (bb (cV (ay (gN rfl) T.b_all (by rfl) boot_all (aa (bG false [("room",8)] rfl sc_look_map.nd (bZ (mv 7)) (blkOk_by (by kernel_rfl)) (fun _ _ _ _ _=>(ao (by decide) sc_look_map.nd rfl (by first | exact .inl rfl | exact .inr rfl))) (fun _ _ _ _ _=>aX) (fun _ _ _ _ _=>(bO kf (av aw (mv 8) (mv 3) (fun _ _=>rfl)) bP (nomark _)))) af))) ij aH)))
  (ai (aE sc_look_map.nd rfl (by first | exact .inl rfl | exact .inr rfl) (ak h_come_to (hr.mono (by decide)) (by rfl) (aa (mv 7) af)))
  (ai (dE (vs:=[5]) PassesOwn.never rfl (cf T.b_range (by rfl) (ay aT T.b_len (by rfl) PySem.boot_len (aa (mv 7) af))) (ao (by decide) sc_look_map.nd rfl (by first | exact .inl rfl | exact .inr rfl)) (aj (bb (aI (jk (hu1 hr)) (mv 5) (mv 4) rfl) ij aH)))
  (aj (aA eH)))))))))))
theorem vL (T:Tx K mg) {f:Addr} {fd:FuncData} (F:Fun K "behind" "behind" gy f fd):FnOk P w K mg base CX0 1 f fd ["chart","room","row"] (sp0 K mg fB):=
 aW F sc_behind fun cdv A outer s H E hr=>
  (ai (cm (vs:=[4,5]) (mv 0) (dY rfl (aD (ao (by decide) sc_behind.nd rfl (by first | exact .inl rfl | exact .inr rfl)) (aD (ao (by decide) sc_behind.nd rfl (by first | exact .inl rfl | exact .inr rfl)) bL))))
  (ai (dE (vs:=[3]) PassesOwn.never rfl (bZ (mv 2)) (ao (by decide) sc_behind.nd rfl (by first | exact .inl rfl | exact .inr rfl)) (ai (bb (fv (aI (jk (hu1 hr)) (mv 3) (mv 4) rfl) (eZ (aI kf (av aw (av aw (mv 5) (mv 1) (fun _ _=>rfl)) (cE PySem.F.plainAttrs_tuple PySem.F.slot_tuple_index PySem.F.type_tuple_index j3 (mv 4) (aa (mv 3) af)) (fun _ _=>rfl)) bP (nomark _)))).pt (aj (aA bP)) aH)
  (aj (aE sc_behind.nd rfl (by first | exact .inl rfl | exact .inr rfl) (av aw (av aw (mv 5) (mv 1) (fun _ _=>rfl)) (cE PySem.F.plainAttrs_tuple PySem.F.slot_tuple_index PySem.F.type_tuple_index j3 (mv 4) (aa (mv 3) af)) (fun _ _=>rfl))))))
  (aj (aA (mv 1)))))
theorem tW (T:Tx K mg) (h_come_to:FnD P w K mg base 1 "come_to" ["rooms"] cD) {f:Addr} {fd:FuncData} (F:Fun K "numbered" "numbered" fc f fd):FnOk P w K mg base CX0 2 f fd ["chart"] (sp0 K mg eY):=
 aW F sc_numbered fun cdv A outer s H E hr=>
  (ai (cm (vs:=[4,5]) (mv 0) (dY rfl (aD (ao (by decide) sc_numbered.nd rfl (by first | exact .inl rfl | exact .inr rfl)) (aD (ao (by decide) sc_numbered.nd rfl (by first | exact .inl rfl | exact .inr rfl)) bL))))
  (ai (aE sc_numbered.nd rfl (by first | exact .inl rfl | exact .inr rfl) (ak h_come_to (hr.mono (by decide)) (by rfl) (aa (mv 5) af)))
  (ai (aE sc_numbered.nd rfl (by first | exact .inl rfl | exact .inr rfl) (cR true af))
  (ai (dE (vs:=[3]) PassesOwn.never rfl (bZ (mv 1)) (ao (by decide) sc_numbered.nd rfl (by first | exact .inl rfl | exact .inr rfl)) (aj (fe (cE PySem.F.plainAttrs_list PySem.F.slot_list_append PySem.F.type_list_append du (mv 2) (aa (aJ bu T.b_tuple (by rfl) boot_tuple (aa (bG false [("goal",6)] rfl sc_numbered.nd (bZ (av aw (mv 5) (mv 3) (fun _ _=>rfl))) (blkOk_by (by kernel_rfl)) (fun _ _ _ _ _=>(ao (by decide) sc_numbered.nd rfl (by first | exact .inl rfl | exact .inr rfl))) (fun _ _ _ _ _=>aX) (fun _ _ _ _ _=>(Aj (aI kf (mv 6) bP (nomark _)) bP (cE PySem.F.plainAttrs_list PySem.F.slot_list_index PySem.F.type_list_index (iK (hu1 hr)) (mv 1) (aa (mv 6) af))))) af)) af)))))
  (aj (aA (aY (aa (mv 4) (aa (aJ bu T.b_tuple (by rfl) boot_tuple (aa (mv 2) af)) af)))))))))
theorem yH (T:Tx K mg) (h_come_to:FnD P w K mg base 1 "come_to" ["rooms"] cD) (h_numbered:FnD P w K mg base 2 "numbered" ["chart"] eY) {f:Addr} {fd:FuncData} (F:Fun K "laid" "laid" jg f fd):FnOk P w K mg base CX0 3 f fd ["one","other"] (sp0 K mg kz):=
 aW F sc_laid fun cdv A outer s H E hr=>
  (ai (bb (fv (aI (eX hr.units) (av aw (mv 0) ah (fun _ _=>rfl)) (av aw (mv 1) ah (fun _ _=>rfl)) (nomark _)) (eZ (aI (eX hr.units) (ay aT T.b_len (by rfl) PySem.boot_len (aa (av aw (mv 0) ah (fun _ _=>rfl)) af)) (ay aT T.b_len (by rfl) PySem.boot_len (aa (av aw (mv 1) ah (fun _ _=>rfl)) af)) (nomark _)))).pt (aj (aA bP)) aH)
  (ai (bb (aI (eX hr.units) (ak h_numbered (hr.mono (by decide)) (by rfl) (aa (mv 0) af)) (ak h_numbered (hr.mono (by decide)) (by rfl) (aa (mv 1) af)) (nomark _)) (aj (aA bP)) aH)
  (ai (aE sc_laid.nd rfl (by first | exact .inl rfl | exact .inr rfl) (ak h_come_to (hr.mono (by decide)) (by rfl) (aa (av aw (mv 0) ah (fun _ _=>rfl)) af)))
  (ai (aE sc_laid.nd rfl (by first | exact .inl rfl | exact .inr rfl) (ak h_come_to (hr.mono (by decide)) (by rfl) (aa (av aw (mv 1) ah (fun _ _=>rfl)) af)))
  (aj (aA (aJ bu T.b_tuple (by rfl) boot_tuple (aa (bG false [("s",4)] rfl sc_laid.nd (cf T.b_range (by rfl) (ay aT T.b_len (by rfl) PySem.boot_len (aa (mv 2) af))) (blkOk_by (by kernel_rfl)) (fun _ _ _ _ _=>(ao (by decide) sc_laid.nd rfl (by first | exact .inl rfl | exact .inr rfl))) (fun _ _ _ _ _=>aX) (fun _ _ _ _ _=>(av aw (mv 3) (cE PySem.F.plainAttrs_list PySem.F.slot_list_index PySem.F.type_list_index (iK (hu1 hr)) (mv 2) (aa (mv 4) af)) (fun _ _=>rfl)))) af))))))))
theorem pR (T:Tx K mg) {f:Addr} {fd:FuncData} (F:Fun K "first_stand" "first_stand" dB f fd):FnOk P w K mg base CX0 1 f fd ["yard"] (sp0 K mg dI):=
 aW F sc_first_stand fun cdv A outer s H E hr=>
  (aj (aA (aJ bu T.b_tuple (by rfl) boot_tuple (aa (bG false [("heap",1)] rfl sc_first_stand.nd (bZ (av aw (mv 0) ah (fun _ _=>rfl))) (blkOk_by (by kernel_rfl)) (fun _ _ _ _ _=>(ao (by decide) sc_first_stand.nd rfl (by first | exact .inl rfl | exact .inr rfl))) (fun _ _ _ _ _=>aX) (fun _ _ _ _ _=>(av aw (mv 1) ah (fun _ _=>rfl)))) af))))
theorem zW (T:Tx K mg) {f:Addr} {fd:FuncData} (F:Fun K "can" "can" kG f fd):FnOk P w K mg base CX0 1 f fd ["yard","stand","deed"] (sp0 K mg i7):=
 aW F sc_can fun cdv A outer s H E hr=>
  (ai (cm (vs:=[4,5]) (mv 0) (dY rfl (aD (ao (by decide) sc_can.nd rfl (by first | exact .inl rfl | exact .inr rfl)) (aD (ao (by decide) sc_can.nd rfl (by first | exact .inl rfl | exact .inr rfl)) bL))))
  (ai (bb (aI (jk (hu1 hr)) (mv 2) (mv 4) rfl) (aj (aA eH)) aH)
  (ai (aE sc_can.nd rfl (by first | exact .inl rfl | exact .inr rfl) (cE PySem.F.plainAttrs_tuple PySem.F.slot_tuple_index PySem.F.type_tuple_index j3 (mv 4) (aa (mv 2) af)))
  (aj (aA (ay (gN rfl) T.b_all (by rfl) boot_all (aa (bG false [("count",6),("heap",7)] rfl sc_can.nd (mI T.b_zip (by rfl) (mv 1) (mv 5)) (blkOk_by (by kernel_rfl)) (fun _ _ _ _ _=>(fS rfl (aD (ao (by decide) sc_can.nd rfl (by first | exact .inl rfl | exact .inr rfl)) (aD (ao (by decide) sc_can.nd rfl (by first | exact .inl rfl | exact .inr rfl)) bL)))) (fun _ _ _ _ _=>aX) (fun _ _ _ _ _=>(bO rS (mv 6) (av aw (av aw (mv 7) ah (fun _ _=>rfl)) (mv 3) (fun _ _=>rfl)) (nomark _)))) af)))))))
theorem z0 (T:Tx K mg) {f:Addr} {fd:FuncData} (F:Fun K "led" "led" kI f fd):FnOk P w K mg base CX0 1 f fd ["yard","stand","deed"] (sp0 K mg i9):=
 aW F sc_led fun cdv A outer s H E hr=>
  (ai (cm (vs:=[4,5]) (mv 0) (dY rfl (aD (ao (by decide) sc_led.nd rfl (by first | exact .inl rfl | exact .inr rfl)) (aD (ao (by decide) sc_led.nd rfl (by first | exact .inl rfl | exact .inr rfl)) bL))))
  (ai (aE sc_led.nd rfl (by first | exact .inl rfl | exact .inr rfl) (cE PySem.F.plainAttrs_tuple PySem.F.slot_tuple_index PySem.F.type_tuple_index j3 (mv 4) (aa (mv 2) af)))
  (aj (aA (aJ bu T.b_tuple (by rfl) boot_tuple (aa (bG false [("count",6),("heap",7)] rfl sc_led.nd (mI T.b_zip (by rfl) (mv 1) (mv 5)) (blkOk_by (by kernel_rfl)) (fun _ _ _ _ _=>(fS rfl (aD (ao (by decide) sc_led.nd rfl (by first | exact .inl rfl | exact .inr rfl)) (aD (ao (by decide) sc_led.nd rfl (by first | exact .inl rfl | exact .inr rfl)) bL)))) (fun _ _ _ _ _=>aX) (fun _ _ _ _ _=>(aK (bq false) (aK ky (mv 6) (av aw (av aw (mv 7) ah (fun _ _=>rfl)) (mv 3) (fun _ _=>rfl))) (av aw (av aw (mv 7) ah (fun _ _=>rfl)) (mv 3) (fun _ _=>rfl))))) af))))))
theorem lY (T:Tx K mg) (h_can:FnD P w K mg base 1 "can" ["yard","stand","deed"] i7) (h_first_stand:FnD P w K mg base 1 "first_stand" ["yard"] dI) (h_led:FnD P w K mg base 1 "led" ["yard","stand","deed"] i9) {f:Addr} {fd:FuncData} (F:Fun K "stands_and_ways" "stands_and_ways" b8 f fd):FnOk P w K mg base CX0 2 f fd ["yard","most"] (sp0 K mg bQ):=
 aW F sc_stands_and_ways fun cdv A outer s H E hr=>
  (ai (aE sc_stands_and_ways.nd rfl (by first | exact .inl rfl | exact .inr rfl) (cR true (aa (ak h_first_stand (hr.mono (by decide)) (by rfl) (aa (mv 0) af)) af)))
  (ai (aE sc_stands_and_ways.nd rfl (by first | exact .inl rfl | exact .inr rfl) (xa true (hd1 hr) (av aw (mv 2) ah (fun _ _=>rfl)) ah))
  (ai (aE sc_stands_and_ways.nd rfl (by first | exact .inl rfl | exact .inr rfl) (cR true af))
  (ai (sP PassesOwn.never (kT oM mZ (ay aT T.b_len (by rfl) PySem.boot_len (aa (mv 4) af)) (ay aT T.b_len (by rfl) PySem.boot_len (aa (mv 2) af)) (mv 1)) (ai (aE sc_stands_and_ways.nd rfl (by first | exact .inl rfl | exact .inr rfl) (av aw (mv 2) (ay aT T.b_len (by rfl) PySem.boot_len (aa (mv 4) af)) (fun _ _=>rfl)))
  (ai (aE sc_stands_and_ways.nd rfl (by first | exact .inl rfl | exact .inr rfl) (cR true af))
  (ai (dE (vs:=[7]) PassesOwn.never rfl (bZ (av aw (mv 0) ah (fun _ _=>rfl))) (ao (by decide) sc_stands_and_ways.nd rfl (by first | exact .inl rfl | exact .inr rfl)) (ai (aE sc_stands_and_ways.nd rfl (by first | exact .inl rfl | exact .inr rfl) bP)
  (ai (bb (cV (ak h_can (hr.mono (by decide)) (by rfl) (aa (mv 0) (aa (mv 5) (aa (mv 7) af))))) (ai (aE sc_stands_and_ways.nd rfl (by first | exact .inl rfl | exact .inr rfl) (ak h_led (hr.mono (by decide)) (by rfl) (aa (mv 0) (aa (mv 5) (aa (mv 7) af)))))
  (ai (bb (aI (v8 (hd1 hr)) (mv 9) (mv 3) rfl) (ai (yE (hd1 hr) (mv 3) (mv 9) (ay aT T.b_len (by rfl) PySem.boot_len (aa (mv 2) af)))
  (aj (fe (cE PySem.F.plainAttrs_list PySem.F.slot_list_append PySem.F.type_list_append du (mv 2) (aa (mv 9) af))))) aH)
  (aj (aE sc_stands_and_ways.nd rfl (by first | exact .inl rfl | exact .inr rfl) (zc (hd1 hr) (mv 3) (mv 9) (fun _ _=>rfl)))))) aH)
  (aj (fe (cE PySem.F.plainAttrs_list PySem.F.slot_list_append PySem.F.type_list_append du (mv 6) (aa (mv 8) af)))))))
  (aj (fe (cE PySem.F.plainAttrs_list PySem.F.slot_list_append PySem.F.type_list_append du (mv 4) (aa (mv 6) af))))))))
  (aj (aA (aY (aa (mv 2) (aa (mv 4) af)))))))))
theorem tT (T:Tx K mg) {f:Addr} {fd:FuncData} (F:Fun K "chart_of" "chart_of" ft f fd):FnOk P w K mg base CX0 1 f fd ["yard","rows"] (sp0 K mg dR):=
 aW F sc_chart_of fun cdv A outer s H E hr=>
  (ai (aE sc_chart_of.nd rfl (by first | exact .inl rfl | exact .inr rfl) (bG false [("k",4)] rfl sc_chart_of.nd (cf T.b_range (by rfl) (ay aT T.b_len (by rfl) PySem.boot_len (aa (av aw (mv 0) ah (fun _ _=>rfl)) af))) (blkOk_by (by kernel_rfl)) (fun _ _ _ _ _=>(ao (by decide) sc_chart_of.nd rfl (by first | exact .inl rfl | exact .inr rfl))) (fun _ _ _ _ _=>(uK (cV (ay (zt rfl) T.b_any (by rfl) boot_any (aa (bG false [("row",5)] rfl sc_chart_of.nd (bZ (mv 1)) (blkOk_by (by kernel_rfl)) (fun _ _ _ _ _=>(ao (by decide) sc_chart_of.nd rfl (by first | exact .inl rfl | exact .inr rfl))) (fun _ _ _ _ _=>aX) (fun _ _ _ _ _=>(bO gu (av aw (mv 5) (mv 4) (fun _ _=>rfl)) bP (nomark _)))) af))))) (fun _ _ _ _ _=>(mv 4))))
  (ai (rZ false [("row",5)] rfl sc_chart_of.nd rfl rfl (sw_true rfl rfl rfl (by decide +kernel)) (bZ (mv 1)) (blkOk_by (by kernel_rfl)) (fun _ _ _ _ _=>(ao (by decide) sc_chart_of.nd rfl (by first | exact .inl rfl | exact .inr rfl))) (fun _ _ _ _ _=>aX) (fun _ _ _ _ _=>(aJ bu T.b_tuple (by rfl) boot_tuple (aa (bG false [("k",4)] rfl sc_chart_of.nd (bZ (mv 2)) (blkOk_by (by kernel_rfl)) (fun _ _ _ _ _=>(ao (by decide) sc_chart_of.nd rfl (by first | exact .inl rfl | exact .inr rfl))) (fun _ _ _ _ _=>aX) (fun _ _ _ _ _=>(av aw (mv 5) (mv 4) (fun _ _=>rfl)))) af))))
  (aj (aA (aY (aa (aJ bu T.b_tuple (by rfl) boot_tuple (aa (bG false [("k",4)] rfl sc_chart_of.nd (bZ (mv 2)) (blkOk_by (by kernel_rfl)) (fun _ _ _ _ _=>(ao (by decide) sc_chart_of.nd rfl (by first | exact .inl rfl | exact .inr rfl))) (fun _ _ _ _ _=>aX) (fun _ _ _ _ _=>(av aw (av aw (mv 0) ah (fun _ _=>rfl)) (mv 4) (fun _ _=>rfl)))) af)) (aa (aJ bu T.b_tuple (by rfl) boot_tuple (aa (mv 3) af)) af)))))))
theorem wu (T:Tx K mg) (h_chart_of:FnD P w K mg base 1 "chart_of" ["yard","rows"] dR) (h_stands_and_ways:FnD P w K mg base 2 "stands_and_ways" ["yard","most"] bQ) {f:Addr} {fd:FuncData} (F:uP K "walked" "walked" gB [.int 500] f fd):FnOk P w K mg base CX0 3 f fd ["yard","most"] (sp0 K mg fz):=
 z7 F sc_walked fun cdv A outer s H E hr=>
  (ai (cm (vs:=[2,3]) (ak h_stands_and_ways (hr.mono (by decide)) (by rfl) (aa (mv 0) (aa (mv 1) af))) (dY rfl (aD (ao (by decide) sc_walked.nd rfl (by first | exact .inl rfl | exact .inr rfl)) (aD (ao (by decide) sc_walked.nd rfl (by first | exact .inl rfl | exact .inr rfl)) bL))))
  (ai (bb (aI jY (ay aT T.b_len (by rfl) PySem.boot_len (aa (mv 2) af)) (mv 1) (nomark _)) ij aH)
  (aj (aA (aY (aa (ak h_chart_of (hr.mono (by decide)) (by rfl) (aa (mv 0) (aa (mv 3) af))) (aa (mv 2) af)))))))
theorem y8 (T:Tx K mg) (h_chart_of:FnD P w K mg base 1 "chart_of" ["yard","rows"] dR) (h_laid:FnD P w K mg base 3 "laid" ["one","other"] kz) (h_stands_and_ways:FnD P w K mg base 2 "stands_and_ways" ["yard","most"] bQ) {f:Addr} {fd:FuncData} (F:Fun K "does" "does" jf f fd):FnOk P w K mg base CX0 4 f fd ["yard","chart"] (sp0 K mg gg):=
 aW F sc_does fun cdv A outer s H E hr=>
  (ai (aE sc_does.nd rfl (by first | exact .inl rfl | exact .inr rfl) (ay aT T.b_len (by rfl) PySem.boot_len (aa (av aw (mv 1) ah (fun _ _=>rfl)) af)))
  (ai (cm (vs:=[4,5]) (ak h_stands_and_ways (hr.mono (by decide)) (by rfl) (aa (mv 0) (aa (mv 2) af))) (dY rfl (aD (ao (by decide) sc_does.nd rfl (by first | exact .inl rfl | exact .inr rfl)) (aD (ao (by decide) sc_does.nd rfl (by first | exact .inl rfl | exact .inr rfl)) bL))))
  (ai (bb (fv (aI (eX hr.units) (av aw (mv 0) ah (fun _ _=>rfl)) (av aw (mv 1) ah (fun _ _=>rfl)) (nomark _)) (eZ (aI (eX hr.units) (ay aT T.b_len (by rfl) PySem.boot_len (aa (mv 4) af)) (mv 2) (nomark _)))).pt (aj (aA eH)) aH)
  (ai (aE sc_does.nd rfl (by first | exact .inl rfl | exact .inr rfl) (ak h_chart_of (hr.mono (by decide)) (by rfl) (aa (mv 0) (aa (mv 5) af))))
  (aj (aA (iB (bO (dH hr.units) (av aw (mv 3) ah (fun _ _=>rfl)) (av aw (mv 1) ah (fun _ _=>rfl)) (nomark _)) (pe_one (bO gu (ak h_laid (hr.mono (by decide)) (by rfl) (aa (mv 3) (aa (mv 1) af))) bP (nomark _))))))))))
theorem rX (T:Tx K mg) {f:Addr} {fd:FuncData} (F:Fun K "_law_flow" "_law_flow" ek f fd):FnOk P w K mg base CX0 1 f fd ["_law_script"] (sp0 K mg dZ):=
 aW F sZ fun cdv A outer s H E hr=>
  (aj (aA (cR true (aa (aJ (mW false) T.b_list (by rfl) boot_list (aa (mv 0) af)) (aa ah (aa ah (aa ah (aa ah af))))))))
theorem sN (T:Tx K mg) {f:Addr} {fd:FuncData} (F:Fun K "_law_pick" "_law_pick" eG f fd):FnOk P w K mg base CX0 1 f fd ["_law_flow_here","_law_many"] (sp0 K mg aq):=
 aW F sc__law_pick fun cdv A outer s H E hr=>
  (ai (bb (iN (aI (dH hr.units) (av aw (mv 0) ah (fun _ _=>rfl)) ah (nomark _)) (gz (aI oM (av aw (mv 0) ah (fun _ _=>rfl)) (ay aT T.b_len (by rfl) PySem.boot_len (aa (av aw (mv 0) ah (fun _ _=>rfl)) af)) (nomark _)))).pt (ai (aE sc__law_pick.nd rfl (by first | exact .inl rfl | exact .inr rfl) (av aw (av aw (mv 0) ah (fun _ _=>rfl)) (av aw (mv 0) ah (fun _ _=>rfl)) (fun _ _=>rfl)))
  (ai (cm (vs:=[]) (aK (bq false) (av aw (mv 0) ah (fun _ _=>rfl)) ah) (jO (mv 0) ah))
  (aj (bb (aI rS (mv 2) (aK zL ah ah) (nomark _)) (aj (cm (vs:=[]) (mv 2) (jO (mv 0) ah))) (aj (cm (vs:=[]) (aK iD (aK (bq false) (aK (bq false) (aK mO (av aw (mv 0) ah (fun _ _=>rfl)) ah) (aK iD (mv 2) ah)) ah) ah) (jO (mv 0) ah))))))) aH)
  (ai (bb (aI jY (av aw (mv 0) ah (fun _ _=>rfl)) ah (nomark _)) (ai (aE sc__law_pick.nd rfl (by first | exact .inl rfl | exact .inr rfl) (aK iD (av aw (mv 0) ah (fun _ _=>rfl)) (mv 1)))
  (ai (cm (vs:=[]) (aK pU (av aw (mv 0) ah (fun _ _=>rfl)) (mv 1)) (jO (mv 0) ah))
  (aj (aA (mv 3))))) aH)
  (ai (cm (vs:=[]) (aK (bq false) (av aw (mv 0) ah (fun _ _=>rfl)) ah) (jO (mv 0) ah))
  (ai (cm (vs:=[]) (aK iD (aK (bq false) (aK (bq false) (aK mO (av aw (mv 0) ah (fun _ _=>rfl)) ah) ah) (av aw (mv 0) ah (fun _ _=>rfl))) ah) (jO (mv 0) ah))
  (aj (aA (aK iD (aK pU (aK iD (aK mO (aK (bq false) (aK iD (av aw (mv 0) ah (fun _ _=>rfl)) ah) ah) (aK (bq false) (aK pU (av aw (mv 0) ah (fun _ _=>rfl)) ah) ah)) ah) ah) (mv 1))))))))
theorem oq (T:Tx K mg) (h__law_pick:FnD P w K mg base 1 "_law_pick" ["_law_flow_here","_law_many"] aq) {f:Addr} {fd:FuncData} (F:Fun K "_law_shuffled" "_law_shuffled" cM f fd):FnOk P w K mg base CX0 2 f fd ["_law_flow_here","_law_some"] (sp0 K mg da):=
 aW F sc__law_shuffled fun cdv A outer s H E hr=>
  (ai (aE sc__law_shuffled.nd rfl (by first | exact .inl rfl | exact .inr rfl) (aJ (mW true) T.b_list (by rfl) boot_list (aa (mv 1) af)))
  (aj (aA (bG false [("_law_k",3)] rfl sc__law_shuffled.nd (cf T.b_range (by rfl) (ay aT T.b_len (by rfl) PySem.boot_len (aa (mv 1) af))) (blkOk_by (by kernel_rfl)) (fun _ _ _ _ _=>(ao (by decide) sc__law_shuffled.nd rfl (by first | exact .inl rfl | exact .inr rfl))) (fun _ _ _ _ _=>aX) (fun _ _ _ _ _=>(cE PySem.F.plainAttrs_list PySem.F.slot_list_pop PySem.F.type_list_pop wV (mv 2) (aa (ak h__law_pick (hr.mono (by decide)) (by rfl) (aa (mv 0) (aa (ay aT T.b_len (by rfl) PySem.boot_len (aa (mv 2) af)) af))) af)))))))
theorem sA (T:Tx K mg) (h__law_pick:FnD P w K mg base 1 "_law_pick" ["_law_flow_here","_law_many"] aq) {f:Addr} {fd:FuncData} (F:Fun K "_law_word" "_law_word" eu f fd):FnOk P w K mg base CX0 2 f fd ["_law_flow_here"] (sp0 K mg fq):=
 aW F sc__law_word fun cdv A outer s H E hr=>
  (ai (aE sc__law_word.nd rfl (by first | exact .inl rfl | exact .inr rfl) cF)
  (ai (aE sc__law_word.nd rfl (by first | exact .inl rfl | exact .inr rfl) (cE PySem.F.plainAttrs_str PySem.F.slot_str_join PySem.F.type_str_join uD cF (aa (bG false [("_law_k",3)] rfl sc__law_word.nd (cf T.b_range (by rfl) (aK (bq false) ah (ak h__law_pick (hr.mono (by decide)) (by rfl) (aa (mv 0) (aa ah af))))) (blkOk_by (by kernel_rfl)) (fun _ _ _ _ _=>(ao (by decide) sc__law_word.nd rfl (by first | exact .inl rfl | exact .inr rfl))) (fun _ _ _ _ _=>aX) (fun _ _ _ _ _=>(av aw (mv 1) (ak h__law_pick (hr.mono (by decide)) (by rfl) (aa (mv 0) (aa ah af))) (fun _ _=>rfl)))) af)))
  (ai (bb (aI (oH (hu1 hr)) (mv 2) (aY (aa cF (aa cF (aa cF (aa cF (aa cF af)))))) rfl) (aj (aE sc__law_word.nd rfl (by first | exact .inl rfl | exact .inr rfl) (aK (bq false) (rH (rQ false) (mv 2) ni (nk (An zP ah))) cF))) aH)
  (aj (aA (mv 2))))))
theorem rj (T:Tx K mg) (h__law_pick:FnD P w K mg base 1 "_law_pick" ["_law_flow_here","_law_many"] aq) {f:Addr} {fd:FuncData} (F:Fun K "_law_names" "_law_names" dM f fd):FnOk P w K mg base CX0 2 f fd ["_law_flow_here","_law_many"] (sp0 K mg bY):=
 aW F sc__law_names fun cdv A outer s H E hr=>
  (ai (aE sc__law_names.nd rfl (by first | exact .inl rfl | exact .inr rfl) cF)
  (ai (aE sc__law_names.nd rfl (by first | exact .inl rfl | exact .inr rfl) (cE PySem.F.plainAttrs_str PySem.F.slot_str_join PySem.F.type_str_join uD cF (aa (bG false [("_law_k",7)] rfl sc__law_names.nd (cf T.b_range (by rfl) (ak h__law_pick (hr.mono (by decide)) (by rfl) (aa (mv 0) (aa ah af)))) (blkOk_by (by kernel_rfl)) (fun _ _ _ _ _=>(ao (by decide) sc__law_names.nd rfl (by first | exact .inl rfl | exact .inr rfl))) (fun _ _ _ _ _=>aX) (fun _ _ _ _ _=>(av aw (mv 2) (ak h__law_pick (hr.mono (by decide)) (by rfl) (aa (mv 0) (aa ah af))) (fun _ _=>rfl)))) af)))
  (ai (cm (vs:=[5,6]) (aY (aa (ak h__law_pick (hr.mono (by decide)) (by rfl) (aa (mv 0) (aa (aK (bq false) (ay aT T.b_len (by rfl) PySem.boot_len (aa (mv 3) af)) ah) af))) (aa (ak h__law_pick (hr.mono (by decide)) (by rfl) (aa (mv 0) (aa ah af))) af))) (dY rfl (aD (ao (by decide) sc__law_names.nd rfl (by first | exact .inl rfl | exact .inr rfl)) (aD (ao (by decide) sc__law_names.nd rfl (by first | exact .inl rfl | exact .inr rfl)) bL))))
  (ai (aE sc__law_names.nd rfl (by first | exact .inl rfl | exact .inr rfl) (ay (uW false) T.b_sorted (by rfl) boot_sorted (aa (bG false [("_law_k",7)] rfl sc__law_names.nd (cf T.b_range (by rfl) (mv 1)) (blkOk_by (by kernel_rfl)) (fun _ _ _ _ _=>(ao (by decide) sc__law_names.nd rfl (by first | exact .inl rfl | exact .inr rfl))) (fun _ _ _ _ _=>aX) (fun _ _ _ _ _=>(aK (bq false) (aK (bq false) (rH (rQ false) (mv 3) ni (nk (mv 5))) (av aw (mv 2) (aK iD (aK (bq false) (mv 6) (aK mO ah (mv 7))) ah) (fun _ _=>rfl))) (rH (rQ false) (mv 3) (nk (mv 5)) ni)))) af)))
  (aj (aA (aJ bu T.b_tuple (by rfl) boot_tuple (aa (bG false [("_law_name",8)] rfl sc__law_names.nd (bZ (mv 4)) (blkOk_by (by kernel_rfl)) (fun _ _ _ _ _=>(ao (by decide) sc__law_names.nd rfl (by first | exact .inl rfl | exact .inr rfl))) (fun _ _ _ _ _=>aX) (fun _ _ _ _ _=>(aK (bq false) (mv 8) (aK yK cF (aJ kx T.b_int (by rfl) boot_int (aa (bO (oH (hu1 hr)) (mv 8) (aY (aa cF (aa cF (aa cF (aa cF (aa cF af)))))) rfl) af)))))) af))))))))
theorem om (T:Tx K mg) {f:Addr} {fd:FuncData} (F:Fun K "_law_is_there" "_law_is_there" cI f fd):FnOk P w K mg base CX0 1 f fd ["_law_heaps","_law_stand","_law_k"] (sp0 K mg cw):=
 aW F sc__law_is_there fun cdv A outer s H E hr=>
  (aj (aA (ay (gN rfl) T.b_all (by rfl) boot_all (aa (bG false [("_law_heap_here",3),("_law_count",4)] rfl sc__law_is_there.nd (mI T.b_zip (by rfl) (mv 0) (mv 1)) (blkOk_by (by kernel_rfl)) (fun _ _ _ _ _=>(fS rfl (aD (ao (by decide) sc__law_is_there.nd rfl (by first | exact .inl rfl | exact .inr rfl)) (aD (ao (by decide) sc__law_is_there.nd rfl (by first | exact .inl rfl | exact .inr rfl)) bL)))) (fun _ _ _ _ _=>aX) (fun _ _ _ _ _=>(bO rS (mv 4) (av aw (av aw (mv 3) ah (fun _ _=>rfl)) (mv 2) (fun _ _=>rfl)) (nomark _)))) af))))
theorem t4 (T:Tx K mg) {f:Addr} {fd:FuncData} (F:Fun K "_law_led" "_law_led" fb f fd):FnOk P w K mg base CX0 1 f fd ["_law_heaps","_law_stand","_law_k"] (sp0 K mg eP):=
 aW F sc__law_led fun cdv A outer s H E hr=>
  (aj (aA (aJ bu T.b_tuple (by rfl) boot_tuple (aa (bG false [("_law_heap_here",3),("_law_count",4)] rfl sc__law_led.nd (mI T.b_zip (by rfl) (mv 0) (mv 1)) (blkOk_by (by kernel_rfl)) (fun _ _ _ _ _=>(fS rfl (aD (ao (by decide) sc__law_led.nd rfl (by first | exact .inl rfl | exact .inr rfl)) (aD (ao (by decide) sc__law_led.nd rfl (by first | exact .inl rfl | exact .inr rfl)) bL)))) (fun _ _ _ _ _=>aX) (fun _ _ _ _ _=>(aK (bq false) (aK ky (mv 4) (av aw (av aw (mv 3) ah (fun _ _=>rfl)) (mv 2) (fun _ _=>rfl))) (av aw (av aw (mv 3) ah (fun _ _=>rfl)) (mv 2) (fun _ _=>rfl))))) af))))
theorem pL (T:Tx K mg) {f:Addr} {fd:FuncData} (F:Fun K "_law_walked" "_law_walked" dz f fd):FnOk P w K mg base CX0 1 f fd ["_law_yard","_law_most"] (sp0 K mg dO):=
 aW F sc__law_walked fun cdv A outer s H E hr=>
  (ai (cm (vs:=[4,5]) (mv 0) (dY rfl (aD (ao (by decide) sc__law_walked.nd rfl (by first | exact .inl rfl | exact .inr rfl)) (aD (ao (by decide) sc__law_walked.nd rfl (by first | exact .inl rfl | exact .inr rfl)) bL))))
  (ai (aE sc__law_walked.nd rfl (by first | exact .inl rfl | exact .inr rfl) (cR true (aa (aJ bu T.b_tuple (by rfl) boot_tuple (aa (bG false [("_law_heap_here",10)] rfl sc__law_walked.nd (bZ (mv 5)) (blkOk_by (by kernel_rfl)) (fun _ _ _ _ _=>(ao (by decide) sc__law_walked.nd rfl (by first | exact .inl rfl | exact .inr rfl))) (fun _ _ _ _ _=>aX) (fun _ _ _ _ _=>(av aw (mv 10) ah (fun _ _=>rfl)))) af)) af)))
  (ai (aE sc__law_walked.nd rfl (by first | exact .inl rfl | exact .inr rfl) (cR true af))
  (ai (sP PassesOwn.never (kT oM mZ (ay aT T.b_len (by rfl) PySem.boot_len (aa (mv 3) af)) (ay aT T.b_len (by rfl) PySem.boot_len (aa (mv 2) af)) (mv 1)) (ai (aE sc__law_walked.nd rfl (by first | exact .inl rfl | exact .inr rfl) (cR true af))
  (ai (dE (vs:=[7]) PassesOwn.never rfl (cf T.b_range (by rfl) (ay aT T.b_len (by rfl) PySem.boot_len (aa (mv 4) af))) (ao (by decide) sc__law_walked.nd rfl (by first | exact .inl rfl | exact .inr rfl)) (ai (fe (cE PySem.F.plainAttrs_list PySem.F.slot_list_append PySem.F.type_list_append du (mv 6) (aa bP af)))
  (ai (aE sc__law_walked.nd rfl (by first | exact .inl rfl | exact .inr rfl) (uO (al:=false) rfl T.b_list (by rfl) T.b_zip (by rfl) (mv 5) (av aw (mv 2) (ay aT T.b_len (by rfl) PySem.boot_len (aa (mv 3) af)) (fun _ _=>rfl))))
  (aj (bb (cV (ay (gN rfl) T.b_all (by rfl) boot_all (aa (bG false [("_law_heap_here",10),("_law_count",11)] rfl sc__law_walked.nd (bZ (mv 8)) (blkOk_by (by kernel_rfl)) (fun _ _ _ _ _=>(dY rfl (aD (ao (by decide) sc__law_walked.nd rfl (by first | exact .inl rfl | exact .inr rfl)) (aD (ao (by decide) sc__law_walked.nd rfl (by first | exact .inl rfl | exact .inr rfl)) bL)))) (fun _ _ _ _ _=>aX) (fun _ _ _ _ _=>(bO rS (mv 11) (av aw (av aw (mv 10) ah (fun _ _=>rfl)) (mv 7) (fun _ _=>rfl)) (nomark _)))) af))) (ai (aE sc__law_walked.nd rfl (by first | exact .inl rfl | exact .inr rfl) (aJ bu T.b_tuple (by rfl) boot_tuple (aa (bG false [("_law_heap_here",10),("_law_count",11)] rfl sc__law_walked.nd (bZ (mv 8)) (blkOk_by (by kernel_rfl)) (fun _ _ _ _ _=>(dY rfl (aD (ao (by decide) sc__law_walked.nd rfl (by first | exact .inl rfl | exact .inr rfl)) (aD (ao (by decide) sc__law_walked.nd rfl (by first | exact .inl rfl | exact .inr rfl)) bL)))) (fun _ _ _ _ _=>aX) (fun _ _ _ _ _=>(aK (bq false) (aK ky (mv 11) (av aw (av aw (mv 10) ah (fun _ _=>rfl)) (mv 7) (fun _ _=>rfl))) (av aw (av aw (mv 10) ah (fun _ _=>rfl)) (mv 7) (fun _ _=>rfl))))) af)))
  (ai (bb (aI (jk (hu1 hr)) (mv 9) (mv 2) rfl) (aj (fe (cE PySem.F.plainAttrs_list PySem.F.slot_list_append PySem.F.type_list_append du (mv 2) (aa (mv 9) af)))) aH)
  (aj (cm (vs:=[]) (cE PySem.F.plainAttrs_list PySem.F.slot_list_index PySem.F.type_list_index (iK (hu1 hr)) (mv 2) (aa (mv 9) af)) (jO (mv 6) (mv 7)))))) aH)))))
  (aj (fe (cE PySem.F.plainAttrs_list PySem.F.slot_list_append PySem.F.type_list_append du (mv 3) (aa (aJ bu T.b_tuple (by rfl) boot_tuple (aa (mv 6) af)) af)))))))
  (aj (aA (av aw (cR false (aa (aY (aa (aJ bu T.b_tuple (by rfl) boot_tuple (aa (mv 3) af)) (aa (mv 2) af))) (aa bP af))) (aJ kx T.b_int (by rfl) boot_int (aa (bO jY (ay aT T.b_len (by rfl) PySem.boot_len (aa (mv 2) af)) (mv 1) (nomark _)) af)) (fun _ _=>rfl))))))))
theorem sr (T:Tx K mg) (h__law_pick:FnD P w K mg base 1 "_law_pick" ["_law_flow_here","_law_many"] aq) {f:Addr} {fd:FuncData} (F:Fun K "_law_heap" "_law_heap" eC f fd):FnOk P w K mg base CX0 2 f fd ["_law_flow_here","_law_deeds","_law_most"] (sp0 K mg fg):=
 aW F sc__law_heap fun cdv A outer s H E hr=>
  (ai (aE sc__law_heap.nd rfl (by first | exact .inl rfl | exact .inr rfl) (aJ bu T.b_tuple (by rfl) boot_tuple (aa (bG false [("_law_k",5)] rfl sc__law_heap.nd (cf T.b_range (by rfl) (mv 1)) (blkOk_by (by kernel_rfl)) (fun _ _ _ _ _=>(ao (by decide) sc__law_heap.nd rfl (by first | exact .inl rfl | exact .inr rfl))) (fun _ _ _ _ _=>aX) (fun _ _ _ _ _=>(ay (uo rfl) T.b_max (by rfl) boot_max (aa ah (aa (aK ky (ak h__law_pick (hr.mono (by decide)) (by rfl) (aa (mv 0) (aa (aK (bq false) (mv 2) ah) af))) ah) af))))) af)))
  (ai (aE sc__law_heap.nd rfl (by first | exact .inl rfl | exact .inr rfl) (aJ bu T.b_tuple (by rfl) boot_tuple (aa (bG false [("_law_k",5)] rfl sc__law_heap.nd (cf T.b_range (by rfl) (mv 1)) (blkOk_by (by kernel_rfl)) (fun _ _ _ _ _=>(ao (by decide) sc__law_heap.nd rfl (by first | exact .inl rfl | exact .inr rfl))) (fun _ _ _ _ _=>aX) (fun _ _ _ _ _=>(ay (uo rfl) T.b_max (by rfl) boot_max (aa ah (aa (aK ky (ak h__law_pick (hr.mono (by decide)) (by rfl) (aa (mv 0) (aa (aK (bq false) (mv 2) ah) af))) ah) af))))) af)))
  (aj (aA (aY (aa (ak h__law_pick (hr.mono (by decide)) (by rfl) (aa (mv 0) (aa (aK (bq false) (mv 2) ah) af))) (aa (mv 3) (aa (mv 4) af))))))))
theorem oj (T:Tx K mg) (h__law_heap:FnD P w K mg base 2 "_law_heap" ["_law_flow_here","_law_deeds","_law_most"] fg) (h__law_more_heaps:FnD P w K mg base 2 "_law_more_heaps" ["_law_flow_here","_law_deeds"] cA) (h__law_names:FnD P w K mg base 2 "_law_names" ["_law_flow_here","_law_many"] bY) (h__law_pick:FnD P w K mg base 1 "_law_pick" ["_law_flow_here","_law_many"] aq) (h__law_shuffled:FnD P w K mg base 2 "_law_shuffled" ["_law_flow_here","_law_some"] da) {f:Addr} {fd:FuncData} (F:Fun K "_law_any_yard" "_law_any_yard" cN f fd):FnOk P w K mg base CX0 3 f fd ["_law_flow_here","_law_most"] (sp0 K mg cX):=
 aW F sc__law_any_yard fun cdv A outer s H E hr=>
  (ai (aE sc__law_any_yard.nd rfl (by first | exact .inl rfl | exact .inr rfl) (aK (bq false) ah (ak h__law_pick (hr.mono (by decide)) (by rfl) (aa (mv 0) (aa (mv 1) af)))))
  (ai (aE sc__law_any_yard.nd rfl (by first | exact .inl rfl | exact .inr rfl) (cR true af))
  (ai (dE (vs:=[4]) PassesOwn.never rfl (cf T.b_range (by rfl) (ak h__law_pick (hr.mono (by decide)) (by rfl) (aa (mv 0) (aa ah af)))) (ao (by decide) sc__law_any_yard.nd rfl (by first | exact .inl rfl | exact .inr rfl)) (aj (fe (cE PySem.F.plainAttrs_list PySem.F.slot_list_append PySem.F.type_list_append du (mv 3) (aa (ak h__law_heap (hr.mono (by decide)) (by rfl) (aa (mv 0) (aa (mv 2) (aa (av aw (cR false (aa ah (aa ah (aa ah af)))) (ak h__law_pick (hr.mono (by decide)) (by rfl) (aa (mv 0) (aa ah af))) (fun _ _=>rfl)) af)))) af)))))
  (aj (aA (aY (aa (ak h__law_names (hr.mono (by decide)) (by rfl) (aa (mv 0) (aa (mv 2) af))) (aa (aJ bu T.b_tuple (by rfl) boot_tuple (aa (ak h__law_shuffled (hr.mono (by decide)) (by rfl) (aa (mv 0) (aa (aK (bq false) (mv 3) (ak h__law_more_heaps (hr.mono (by decide)) (by rfl) (aa (mv 0) (aa (mv 2) af)))) af))) af)) af))))))))
theorem pP {f:Addr} {fd:FuncData} (F:Fun K "_law_alike" "_law_alike" bU f fd):FnOk P w K mg base CX0 1 f fd ["_law_found","_law_due"] (sp0 K mg (bc 0)):=aW F sc__law_alike fun cdv A outer s H E hr=>ij
theorem q9 (T:Tx K mg) {n:Nat} (h__law_alike:FnD P w K mg base (1+n) "_law_alike" ["_law_found","_law_due"] (bc n)) {f:Addr} {fd:FuncData} (F:Fun K "_law_alike" "_law_alike" bU f fd):FnOk P w K mg base CX0 (1+n+1) f fd ["_law_found","_law_due"] (sp0 K mg (bc (n+1))):=
 aW F sc__law_alike fun cdv A outer s H E hr=>
  (ai (bb (cV (wX "list" "tuple" T.b_isinstance T.b_list T.b_tuple (by rfl) (by rfl) (by rfl) boot_list boot_tuple (mv 1))) (ai (bb (fv (aI (eX hr.units) (cS "list" T.b_isinstance T.b_list (by rfl) (by rfl) boot_list (mv 0)) (cS "list" T.b_isinstance T.b_list (by rfl) (by rfl) boot_list (mv 1)) (nomark _)) (eZ (aI (eX hr.units) (cS "tuple" T.b_isinstance T.b_tuple (by rfl) (by rfl) boot_tuple (mv 0)) (cS "tuple" T.b_isinstance T.b_tuple (by rfl) (by rfl) boot_tuple (mv 1)) (nomark _)))).pt (aj (aA eH)) aH)
  (ai (bb (aI (eX hr.units) (ay aT T.b_len (by rfl) PySem.boot_len (aa (mv 0) af)) (ay aT T.b_len (by rfl) PySem.boot_len (aa (mv 1) af)) (nomark _)) (aj (aA eH)) aH)
  (aj (aA (ay (gN rfl) T.b_all (by rfl) boot_all (aa (bG false [("_law_one",2),("_law_other",3)] rfl sc__law_alike.nd (mI T.b_zip (by rfl) (mv 0) (mv 1)) (blkOk_by (by kernel_rfl)) (fun _ _ _ _ _=>(fS rfl (aD (ao (by decide) sc__law_alike.nd rfl (by first | exact .inl rfl | exact .inr rfl)) (aD (ao (by decide) sc__law_alike.nd rfl (by first | exact .inl rfl | exact .inr rfl)) bL)))) (fun _ _ _ _ _=>aX) (fun _ _ _ _ _=>(ak h__law_alike (hr.mono (by omega)) (by rfl) (aa (mv 2) (aa (mv 3) af))))) af)))))) aH)
  (ai (bb (fv (cV (cS "str" T.b_isinstance T.b_str (by rfl) (by rfl) boot_str (mv 1))) (eZ (aI kf (mv 1) bP (nomark _)))).pt (aj (aA (iB (bO (dH hr.units) (cS "str" T.b_isinstance T.b_str (by rfl) (by rfl) boot_str (mv 0)) (cS "str" T.b_isinstance T.b_str (by rfl) (by rfl) boot_str (mv 1)) (nomark _)) (pe_one (bO (dH hr.units) (mv 0) (mv 1) (nomark _)))))) aH)
  (aj (aA (iB (cS "int" T.b_isinstance T.b_int (by rfl) (by rfl) boot_int (mv 0)) (iB (bO (dH hr.units) (cS "bool" T.b_isinstance T.b_bool (by rfl) (by rfl) boot_bool (mv 0)) (cS "bool" T.b_isinstance T.b_bool (by rfl) (by rfl) boot_bool (mv 1)) (nomark _)) (pe_one (bO (dH hr.units) (mv 0) (mv 1) (nomark _)))))))))
theorem mL (T:Tx K mg) (h__law_pick:FnD P w K mg base 1 "_law_pick" ["_law_flow_here","_law_many"] aq) {f:Addr} {fd:FuncData} (F:Fun K "_law_more_heaps" "_law_more_heaps" b0 f fd):FnOk P w K mg base CX0 2 f fd ["_law_flow_here","_law_deeds"] (sp0 K mg cA):=
 aW F sc__law_more_heaps fun cdv A outer s H E hr=>
  (ai (vY rfl sc__law_more_heaps.nd rfl rfl (by decide) rfl rfl (aa (ak h__law_pick (hr.mono (by decide)) (by rfl) (aa (mv 0) (aa ah af))) (aa (bG false [("_law_k",5)] rfl sc__law_more_heaps.nd (cf T.b_range (by rfl) (mv 1)) (blkOk_by (by kernel_rfl)) (fun _ _ _ _ _=>(ao (by decide) sc__law_more_heaps.nd rfl (by first | exact .inl rfl | exact .inr rfl))) (fun _ _ _ _ _=>aX) (fun _ _ _ _ _=>(ak h__law_pick (hr.mono (by decide)) (by rfl) (aa (mv 0) (aa ah af))))) af)))
  (ai (bb (aI (dH hr.units) (mv 3) ah (nomark _)) (aj (aA (cR false (aa (aY (aa (aK (bq false) ah (ak h__law_pick (hr.mono (by decide)) (by rfl) (aa (mv 0) (aa ah af)))) (aa (aK qa (aY (aa ah af)) (mv 1)) (aa (aJ bu T.b_tuple (by rfl) boot_tuple (aa (bG false [("_law_w",6)] rfl sc__law_more_heaps.nd (bZ (mv 4)) (blkOk_by (by kernel_rfl)) (fun _ _ _ _ _=>(ao (by decide) sc__law_more_heaps.nd rfl (by first | exact .inl rfl | exact .inr rfl))) (fun _ _ _ _ _=>aX) (fun _ _ _ _ _=>(aJ kx T.b_int (by rfl) boot_int (aa (bO (dH hr.units) (mv 6) ah (nomark _)) af)))) af)) af)))) af)))) aH)
  (ai (aE sc__law_more_heaps.nd rfl (by first | exact .inl rfl | exact .inr rfl) (aY (aa (aK (bq false) ah (ak h__law_pick (hr.mono (by decide)) (by rfl) (aa (mv 0) (aa ah af)))) (aa (aJ bu T.b_tuple (by rfl) boot_tuple (aa (bG false [("_law_w",6)] rfl sc__law_more_heaps.nd (bZ (mv 4)) (blkOk_by (by kernel_rfl)) (fun _ _ _ _ _=>(ao (by decide) sc__law_more_heaps.nd rfl (by first | exact .inl rfl | exact .inr rfl))) (fun _ _ _ _ _=>aX) (fun _ _ _ _ _=>(aJ kx T.b_int (by rfl) boot_int (aa (bO (dH hr.units) (mv 6) ah (nomark _)) af)))) af)) (aa (aJ bu T.b_tuple (by rfl) boot_tuple (aa (bG false [("_law_w",6)] rfl sc__law_more_heaps.nd (bZ (mv 4)) (blkOk_by (by kernel_rfl)) (fun _ _ _ _ _=>(ao (by decide) sc__law_more_heaps.nd rfl (by first | exact .inl rfl | exact .inr rfl))) (fun _ _ _ _ _=>aX) (fun _ _ _ _ _=>(aJ kx T.b_int (by rfl) boot_int (aa (bO (dH hr.units) (mv 6) ah (nomark _)) af)))) af)) af)))))
  (aj (aA (aK (yP false) (cR false (aa (mv 2) (aa (aY (aa (ak h__law_pick (hr.mono (by decide)) (by rfl) (aa (mv 0) (aa ah af))) (aa (av aw (mv 2) ah (fun _ _=>rfl)) (aa (av aw (mv 2) ah (fun _ _=>rfl)) af)))) af))) (aJ kx T.b_int (by rfl) boot_int (aa (bO (dH hr.units) (mv 3) ah (nomark _)) af))))))))
theorem nt (T:Tx K mg) (h__law_any_yard:FnD P w K mg base 3 "_law_any_yard" ["_law_flow_here","_law_most"] cX) (h__law_names:FnD P w K mg base 2 "_law_names" ["_law_flow_here","_law_many"] bY) (h__law_pick:FnD P w K mg base 1 "_law_pick" ["_law_flow_here","_law_many"] aq) {f:Addr} {fd:FuncData} (F:Fun K "_law_some_yard" "_law_some_yard" cy f fd):FnOk P w K mg base CX0 4 f fd ["_law_flow_here"] (sp0 K mg cG):=
 aW F sc__law_some_yard fun cdv A outer s H E hr=>
  (ai (aE sc__law_some_yard.nd rfl (by first | exact .inl rfl | exact .inr rfl) (ak h__law_pick (hr.mono (by decide)) (by rfl) (aa (mv 0) (aa ah af))))
  (ai (bb (aI (dH hr.units) (mv 1) ah (nomark _)) (aj (aA (aY (aa (ak h__law_names (hr.mono (by decide)) (by rfl) (aa (mv 0) (aa (ak h__law_pick (hr.mono (by decide)) (by rfl) (aa (mv 0) (aa ah af))) af))) (aa (aY af) af))))) aH)
  (ai (bb (aI (dH hr.units) (mv 1) ah (nomark _)) (aj (aA (aY (aa (aY af) (aa (aJ bu T.b_tuple (by rfl) boot_tuple (aa (bG false [("_law_k",2)] rfl sc__law_some_yard.nd (cf T.b_range (by rfl) (ak h__law_pick (hr.mono (by decide)) (by rfl) (aa (mv 0) (aa ah af)))) (blkOk_by (by kernel_rfl)) (fun _ _ _ _ _=>(ao (by decide) sc__law_some_yard.nd rfl (by first | exact .inl rfl | exact .inr rfl))) (fun _ _ _ _ _=>aX) (fun _ _ _ _ _=>(aY (aa (ak h__law_pick (hr.mono (by decide)) (by rfl) (aa (mv 0) (aa ah af))) (aa (aY af) (aa (aY af) af)))))) af)) af))))) aH)
  (aj (aA (ak h__law_any_yard (hr.mono (by decide)) (by rfl) (aa (mv 0) (aa ah af))))))))
theorem rh (T:Tx K mg) {f:Addr} {fd:FuncData} (F:Fun K "_law_first" "_law_first" dN f fd):FnOk P w K mg base CX0 1 f fd ["_law_yard"] (sp0 K mg cq):=
 aW F sc__law_first fun cdv A outer s H E hr=>
  (aj (aA (aJ bu T.b_tuple (by rfl) boot_tuple (aa (bG false [("_law_heap_here",1)] rfl sc__law_first.nd (bZ (av aw (mv 0) ah (fun _ _=>rfl))) (blkOk_by (by kernel_rfl)) (fun _ _ _ _ _=>(ao (by decide) sc__law_first.nd rfl (by first | exact .inl rfl | exact .inr rfl))) (fun _ _ _ _ _=>aX) (fun _ _ _ _ _=>(av aw (mv 1) ah (fun _ _=>rfl)))) af))))
theorem tY (T:Tx K mg) (h__law_is_there:FnD P w K mg base 1 "_law_is_there" ["_law_heaps","_law_stand","_law_k"] cw) {f:Addr} {fd:FuncData} (F:Fun K "_law_can" "_law_can" fj f fd):FnOk P w K mg base CX0 2 f fd ["_law_yard","_law_stand","_law_deed"] (sp0 K mg cP):=
 aW F sc__law_can fun cdv A outer s H E hr=>
  (ai (cm (vs:=[3,4]) (mv 0) (dY rfl (aD (ao (by decide) sc__law_can.nd rfl (by first | exact .inl rfl | exact .inr rfl)) (aD (ao (by decide) sc__law_can.nd rfl (by first | exact .inl rfl | exact .inr rfl)) bL))))
  (aj (aA (iB (bO (oH (hu1 hr)) (mv 2) (mv 3) rfl) (pe_one (ak h__law_is_there (hr.mono (by decide)) (by rfl) (aa (mv 4) (aa (mv 1) (aa (cE PySem.F.plainAttrs_list PySem.F.slot_list_index PySem.F.type_list_index (iK (hu1 hr)) (aJ (mW false) T.b_list (by rfl) boot_list (aa (mv 3) af)) (aa (mv 2) af)) af)))))))))
theorem u7 (T:Tx K mg) (h__law_led:FnD P w K mg base 1 "_law_led" ["_law_heaps","_law_stand","_law_k"] eP) {f:Addr} {fd:FuncData} (F:Fun K "_law_go" "_law_go" fW f fd):FnOk P w K mg base CX0 2 f fd ["_law_yard","_law_stand","_law_deed"] (sp0 K mg dQ):=
 aW F vh fun cdv A outer s H E hr=>
  (aj (aA (ak h__law_led (hr.mono (by decide)) (by rfl) (aa (av aw (mv 0) ah (fun _ _=>rfl)) (aa (mv 1) (aa (cE PySem.F.plainAttrs_list PySem.F.slot_list_index PySem.F.type_list_index (iK (hu1 hr)) (aJ (mW false) T.b_list (by rfl) boot_list (aa (av aw (mv 0) ah (fun _ _=>rfl)) af)) (aa (mv 2) af)) af))))))
theorem n0 (T:Tx K mg) (h__law_pick:FnD P w K mg base 1 "_law_pick" ["_law_flow_here","_law_many"] aq) (h__law_word:FnD P w K mg base 2 "_law_word" ["_law_flow_here"] fq) {f:Addr} {fd:FuncData} (F:Fun K "_law_any_deed" "_law_any_deed" cH f fd):FnOk P w K mg base CX0 3 f fd ["_law_flow_here","_law_yard"] (sp0 K mg cY):=
 aW F nU fun cdv A outer s H E hr=>
  (ai (bb (iN (aI jY (ay aT T.b_len (by rfl) PySem.boot_len (aa (av aw (mv 1) ah (fun _ _=>rfl)) af)) ah (nomark _)) (gz (aI jY (ak h__law_pick (hr.mono (by decide)) (by rfl) (aa (mv 0) (aa ah af))) ah (nomark _)))).pt (aj (aA (av aw (av aw (mv 1) ah (fun _ _=>rfl)) (ak h__law_pick (hr.mono (by decide)) (by rfl) (aa (mv 0) (aa (ay aT T.b_len (by rfl) PySem.boot_len (aa (av aw (mv 1) ah (fun _ _=>rfl)) af)) af))) (fun _ _=>rfl)))) aH)
  (aj (aA (av aw (cR false (aa (ak h__law_word (hr.mono (by decide)) (by rfl) (aa (mv 0) af)) (aa cF (aa cF af)))) (ak h__law_pick (hr.mono (by decide)) (by rfl) (aa (mv 0) (aa ah af))) (fun _ _=>rfl)))))
theorem pE (T:Tx K mg) (h__law_alike:FnD P w K mg base 13 "_law_alike" ["_law_found","_law_due"] (bc 12)) (h__law_can:FnD P w K mg base 2 "_law_can" ["_law_yard","_law_stand","_law_deed"] cP) (h__law_first:FnD P w K mg base 1 "_law_first" ["_law_yard"] cq) (h__law_go:FnD P w K mg base 2 "_law_go" ["_law_yard","_law_stand","_law_deed"] dQ) (h_can:FnD P w K mg base 1 "can" ["yard","stand","deed"] i7) (h_led:FnD P w K mg base 1 "led" ["yard","stand","deed"] i9) {f:Addr} {fd:FuncData} (F:Fun K "_law_behind" "_law_behind" dA f fd):FnOk P w K mg base CX0 14 f fd ["_law_yard","_law_row"] (sp0 K mg dh):=
 aW F sc__law_behind fun cdv A outer s H E hr=>
  (ai (aE sc__law_behind.nd rfl (by first | exact .inl rfl | exact .inr rfl) (ak h__law_first (hr.mono (by decide)) (by rfl) (aa (mv 0) af)))
  (ai (dE (vs:=[3]) PassesOwn.never rfl (bZ (mv 1)) (ao (by decide) sc__law_behind.nd rfl (by first | exact .inl rfl | exact .inr rfl)) (ai (aE sc__law_behind.nd rfl (by first | exact .inl rfl | exact .inr rfl) (ak h__law_can (hr.mono (by decide)) (by rfl) (aa (mv 0) (aa (mv 2) (aa (mv 3) af)))))
  (ai (bb (fK (cV (ak h__law_alike (hr.mono (by decide)) (by rfl) (aa (ak h_can (hr.mono (by decide)) (by rfl) (aa (mv 0) (aa (mv 2) (aa (mv 3) af)))) (aa (mv 4) af))))) (aj (aA (aY af))) aH)
  (ai (bb (fK (cV (mv 4))) (aj (aA bP)) aH)
  (ai (aE sc__law_behind.nd rfl (by first | exact .inl rfl | exact .inr rfl) (ak h__law_go (hr.mono (by decide)) (by rfl) (aa (mv 0) (aa (mv 2) (aa (mv 3) af)))))
  (ai (bb (aI (eX hr.units) (ak h_led (hr.mono (by decide)) (by rfl) (aa (mv 0) (aa (mv 2) (aa (mv 3) af)))) (mv 5) (nomark _)) (aj (aA (aY af))) aH)
  (aj (aE sc__law_behind.nd rfl (by first | exact .inl rfl | exact .inr rfl) (mv 5)))))))))
  (aj (aA (cR false (aa (mv 2) af))))))
theorem nu (T:Tx K mg) (h__law_names:FnD P w K mg base 2 "_law_names" ["_law_flow_here","_law_many"] bY) (h__law_pick:FnD P w K mg base 1 "_law_pick" ["_law_flow_here","_law_many"] aq) (h_does:FnD P w K mg base 4 "does" ["yard","chart"] gg) (k_walked_1_:FnK P w K mg base 3 "walked" 1 [] [0,1] [.int 500] fz) {f:Addr} {fd:FuncData} (F:Fun K "_law_far_right" "_law_far_right" cC f fd):FnOk P w K mg base CX0 5 f fd ["_law_flow_here"] (sp0 K mg cJ):=
 aW F sc__law_far_right fun cdv A outer s H E hr=>
  (ai (vY rfl sc__law_far_right.nd rfl rfl (by decide) rfl rfl (aa (aK (bq false) ah (ak h__law_pick (hr.mono (by decide)) (by rfl) (aa (mv 0) (aa ah af)))) (aa (aK (bq false) ah (ak h__law_pick (hr.mono (by decide)) (by rfl) (aa (mv 0) (aa ah af)))) af)))
  (ai (aE sc__law_far_right.nd rfl (by first | exact .inl rfl | exact .inr rfl) (aY (aa (ak h__law_names (hr.mono (by decide)) (by rfl) (aa (mv 0) (aa ah af))) (aa (aY (aa (aY (aa (mv 2) (aa (aY (aa ah (aa ah af))) (aa (aY (aa ah (aa ah af))) af)))) (aa (aY (aa (mv 3) (aa (aY (aa ah (aa ah af))) (aa (aY (aa ah (aa ah af))) af)))) af))) af))))
  (ai (cm (vs:=[4,5]) (r5 k_walked_1_ (hr.mono (by decide)) (by rfl) (aa (mv 1) af)) (dY rfl (aD (ao (by decide) sc__law_far_right.nd rfl (by first | exact .inl rfl | exact .inr rfl)) (aD (ao (by decide) sc__law_far_right.nd rfl (by first | exact .inl rfl | exact .inr rfl)) bL))))
  (aj (aA (iB (bO (dH hr.units) (ay aT T.b_len (by rfl) PySem.boot_len (aa (mv 5) af)) (aK mO (aK (bq false) (mv 2) ah) (aK (bq false) (mv 3) ah)) (nomark _)) (pe_one (bO zE (ak h_does (hr.mono (by decide)) (by rfl) (aa (mv 1) (aa (mv 4) af))) eH (nomark _)))))))))
theorem zD (T:Tx K mg) (h__law_alike:FnD P w K mg base 13 "_law_alike" ["_law_found","_law_due"] (bc 12)) (h__law_any_deed:FnD P w K mg base 3 "_law_any_deed" ["_law_flow_here","_law_yard"] cY) (h__law_behind:FnD P w K mg base 14 "_law_behind" ["_law_yard","_law_row"] dh) (h__law_can:FnD P w K mg base 2 "_law_can" ["_law_yard","_law_stand","_law_deed"] cP) (h__law_far_right:FnD P w K mg base 5 "_law_far_right" ["_law_flow_here"] cJ) (h__law_first:FnD P w K mg base 1 "_law_first" ["_law_yard"] cq) (h__law_flow:FnD P w K mg base 1 "_law_flow" ["_law_script"] dZ) (h__law_go:FnD P w K mg base 2 "_law_go" ["_law_yard","_law_stand","_law_deed"] dQ) (h__law_pick:FnD P w K mg base 1 "_law_pick" ["_law_flow_here","_law_many"] aq) (h__law_some_yard:FnD P w K mg base 4 "_law_some_yard" ["_law_flow_here"] cG) (h__law_walked:FnD P w K mg base 1 "_law_walked" ["_law_yard","_law_most"] dO) (h_behind:FnD P w K mg base 1 "behind" ["chart","room","row"] fB) (h_does:FnD P w K mg base 4 "does" ["yard","chart"] gg) (h_look_map:FnD P w K mg base 4 "look_map" ["thing"] fU) (k_walked_1_:FnK P w K mg base 3 "walked" 1 [] [0,1] [.int 500] fz) {f:Addr} {fd:FuncData} (F:Fun K "law" "law" gQ f fd):FnOk P w K mg base CX0 15 f fd ["_law_script"] (sp0 K mg rR):=
 aW F sc_law fun cdv A outer s H E hr=>
  (ai (aE sc_law.nd rfl (by first | exact .inl rfl | exact .inr rfl) (ak h__law_flow (hr.mono (by decide)) (by rfl) (aa (mv 0) af)))
  (ai (bb (iN (aI (dH hr.units) (ak h__law_pick (hr.mono (by decide)) (by rfl) (aa (mv 1) (aa ah af))) ah (nomark _)) (gz (fK (cV (ak h__law_far_right (hr.mono (by decide)) (by rfl) (aa (mv 1) af)))))).pt (aj (aA eH)) aH)
  (ai (aE sc_law.nd rfl (by first | exact .inl rfl | exact .inr rfl) (ak h__law_some_yard (hr.mono (by decide)) (by rfl) (aa (mv 1) af)))
  (ai (bb (aI kf (ak h__law_walked (hr.mono (by decide)) (by rfl) (aa (mv 2) (aa ah af))) bP (nomark _)) (ai (aE sc_law.nd rfl (by first | exact .inl rfl | exact .inr rfl) (ay aT T.b_len (by rfl) PySem.boot_len (aa (av aw (mv 2) ah (fun _ _=>rfl)) af)))
  (aj (aE sc_law.nd rfl (by first | exact .inl rfl | exact .inr rfl) (aY (aa (av aw (mv 2) ah (fun _ _=>rfl)) (aa (aK (bq false) (rH (rQ false) (av aw (mv 2) ah (fun _ _=>rfl)) ni (nk ah)) (aY (aa (aY (aa (aK (bq false) ah (ak h__law_pick (hr.mono (by decide)) (by rfl) (aa (mv 1) (aa ah af)))) (aa (aK qa (aY (aa ah af)) (mv 4)) (aa (aK qa (aY (aa ah af)) (mv 4)) af)))) af))) af)))))) aH)
  (ai (cm (vs:=[5,6]) (r5 k_walked_1_ (hr.mono (by decide)) (by rfl) (aa (mv 2) af)) (dY rfl (aD (ao (by decide) sc_law.nd rfl (by first | exact .inl rfl | exact .inr rfl)) (aD (ao (by decide) sc_law.nd rfl (by first | exact .inl rfl | exact .inr rfl)) bL))))
  (ai (bb (fv (aI v7 (ak h_look_map (hr.mono (by decide)) (by rfl) (aa (mv 5) af)) eH (nomark _)) (fv (aI (eX hr.units) (ay aT T.b_len (by rfl) PySem.boot_len (aa (mv 6) af)) (ay aT T.b_len (by rfl) PySem.boot_len (aa (av aw (mv 5) ah (fun _ _=>rfl)) af)) (nomark _)) (eZ (aI (eX hr.units) (vj T.b_len (by rfl) T.b_set (by rfl) (mv 6) hr.units) (ay aT T.b_len (by rfl) PySem.boot_len (aa (mv 6) af)) (nomark _))))).pt (aj (aA eH)) aH)
  (ai (dE (vs:=[3]) PassesOwn.never rfl (cf T.b_range (by rfl) (aK (bq false) ah (ak h__law_pick (hr.mono (by decide)) (by rfl) (aa (mv 1) (aa ah af))))) (ao (by decide) sc_law.nd rfl (by first | exact .inl rfl | exact .inr rfl)) (ai (aE sc_law.nd rfl (by first | exact .inl rfl | exact .inr rfl) (cR true af))
  (ai (aE sc_law.nd rfl (by first | exact .inl rfl | exact .inr rfl) (ak h__law_first (hr.mono (by decide)) (by rfl) (aa (mv 2) af)))
  (ai (dE (vs:=[9]) PassesOwn.never rfl (cf T.b_range (by rfl) (ak h__law_pick (hr.mono (by decide)) (by rfl) (aa (mv 1) (aa ah af)))) (ao (by decide) sc_law.nd rfl (by first | exact .inl rfl | exact .inr rfl)) (ai (rZ false [("_law_deed",13)] rfl sc_law.nd rfl rfl (sw_true rfl rfl rfl (by decide +kernel)) (bZ (av aw (mv 2) ah (fun _ _=>rfl))) (blkOk_by (by kernel_rfl)) (fun _ _ _ _ _=>(ao (by decide) sc_law.nd rfl (by first | exact .inl rfl | exact .inr rfl))) (fun _ _ _ _ _=>(uK (cV (ak h__law_can (hr.mono (by decide)) (by rfl) (aa (mv 2) (aa (mv 8) (aa (mv 13) af))))))) (fun _ _ _ _ _=>(mv 13)))
  (ai (aE sc_law.nd rfl (by first | exact .inl rfl | exact .inr rfl) (ak h__law_any_deed (hr.mono (by decide)) (by rfl) (aa (mv 1) (aa (mv 2) af))))
  (ai (bb (iN (aI jY (ay aT T.b_len (by rfl) PySem.boot_len (aa (mv 12) af)) ah (nomark _)) (gz (aI jY (ak h__law_pick (hr.mono (by decide)) (by rfl) (aa (mv 1) (aa ah af))) ah (nomark _)))).pt (aj (aE sc_law.nd rfl (by first | exact .inl rfl | exact .inr rfl) (av aw (mv 12) (ak h__law_pick (hr.mono (by decide)) (by rfl) (aa (mv 1) (aa (ay aT T.b_len (by rfl) PySem.boot_len (aa (mv 12) af)) af))) (fun _ _=>rfl)))) aH)
  (ai (bb (cV (ak h__law_can (hr.mono (by decide)) (by rfl) (aa (mv 2) (aa (mv 8) (aa (mv 13) af))))) (aj (aE sc_law.nd rfl (by first | exact .inl rfl | exact .inr rfl) (ak h__law_go (hr.mono (by decide)) (by rfl) (aa (mv 2) (aa (mv 8) (aa (mv 13) af)))))) aH)
  (aj (fe (cE PySem.F.plainAttrs_list PySem.F.slot_list_append PySem.F.type_list_append du (mv 7) (aa (mv 13) af)))))))))
  (ai (aE sc_law.nd rfl (by first | exact .inl rfl | exact .inr rfl) (ak h_behind (hr.mono (by decide)) (by rfl) (aa (mv 5) (aa ah (aa (aJ bu T.b_tuple (by rfl) boot_tuple (aa (mv 7) af)) af)))))
  (ai (aE sc_law.nd rfl (by first | exact .inl rfl | exact .inr rfl) (ak h__law_behind (hr.mono (by decide)) (by rfl) (aa (mv 2) (aa (mv 7) af))))
  (ai (bb (fv (aI (dH hr.units) (mv 11) (aY af) (nomark _)) (eZ (aI (eX hr.units) (bO kf (mv 10) bP (nomark _)) (bO kf (mv 11) bP (nomark _)) (nomark _)))).pt (aj (aA eH)) aH)
  (aj (bb (iN (aI gu (mv 10) bP (nomark _)) (gz (aI (eX hr.units) (av aw (mv 6) (mv 10) (fun _ _=>rfl)) (av aw (mv 11) ah (fun _ _=>rfl)) (nomark _)))).pt (aj (aA eH)) aH)))))))))
  (aj (aA (ak h__law_alike (hr.mono (by decide)) (by rfl) (aa (ak h_does (hr.mono (by decide)) (by rfl) (aa (mv 2) (aa (mv 5) af))) (aa (bO (dH hr.units) (av aw (mv 5) ah (fun _ _=>rfl)) (av aw (mv 2) ah (fun _ _=>rfl)) (nomark _)) af))))))))))))
end
end Lw
namespace Mir
open PySem PySem.Spec PyProof.Rows L2
@[simp] theorem Ac:kitB "int" "int"=some true:=by decide +kernel
@[simp] theorem zx:kitB "int" "bool"=some false:=by decide +kernel
@[simp] theorem Aa:kitB "int" "str"=some false:=by decide +kernel
@[simp] theorem zo:kitB "int" "tuple"=some false:=by decide +kernel
@[simp] theorem zK:kitB "int" "list"=some false:=by decide +kernel
@[simp] theorem zA:kitB "bool" "int"=some true:=by decide +kernel
@[simp] theorem zm:kitB "bool" "bool"=some true:=by decide +kernel
@[simp] theorem zV:kitB "bool" "str"=some false:=by decide +kernel
@[simp] theorem yo:kitB "bool" "tuple"=some false:=by decide +kernel
@[simp] theorem zq:kitB "bool" "list"=some false:=by decide +kernel
@[simp] theorem Ab:kitB "str" "int"=some false:=by decide +kernel
@[simp] theorem zG:kitB "str" "bool"=some false:=by decide +kernel
@[simp] theorem Ad:kitB "str" "str"=some true:=by decide +kernel
@[simp] theorem zr:kitB "str" "tuple"=some false:=by decide +kernel
@[simp] theorem zC:kitB "str" "list"=some false:=by decide +kernel
@[simp] theorem zl:kitB "tuple" "int"=some false:=by decide +kernel
@[simp] theorem yZ:kitB "tuple" "bool"=some false:=by decide +kernel
@[simp] theorem zj:kitB "tuple" "str"=some false:=by decide +kernel
@[simp] theorem ya:kitB "tuple" "tuple"=some true:=by decide +kernel
@[simp] theorem zb:kitB "tuple" "list"=some false:=by decide +kernel
@[simp] theorem zQ:kitB "list" "int"=some false:=by decide +kernel
@[simp] theorem zp:kitB "list" "bool"=some false:=by decide +kernel
@[simp] theorem zO:kitB "list" "str"=some false:=by decide +kernel
@[simp] theorem yJ:kitB "list" "tuple"=some false:=by decide +kernel
@[simp] theorem zk:kitB "list" "list"=some true:=by decide +kernel
@[simp] theorem wU:kitB "NoneType" "int"=some false:=by decide +kernel
@[simp] theorem wD:kitB "NoneType" "bool"=some false:=by decide +kernel
@[simp] theorem xv:kitB "NoneType" "str"=some false:=by decide +kernel
@[simp] theorem vy:kitB "NoneType" "tuple"=some false:=by decide +kernel
@[simp] theorem wF:kitB "NoneType" "list"=some false:=by decide +kernel
@[simp] theorem BJ (η:au) (m:Mem) (a:EM) (Ts:List String):uQ Ts a η m=(a η m).bind fun d m1=>pI m1 (((ej m1 d).bind fun t=>fT t Ts).map D.bl):=by
 show (a η m).bind _=_
 congr
 funext x m1
 cases (ej m1 x).bind fun t=>fT t Ts<;>rfl
@[simp] theorem BA (m:Mem):ej m .non=some "NoneType":=nr rfl
@[simp] theorem Cd (m:Mem) (b:Bool):ej m (.bl b)=some "bool":=nr rfl
@[simp] theorem Bq (m:Mem) (i:Int):ej m (.int i)=some "int":=nr rfl
@[simp] theorem A6 (m:Mem) (x:Str):ej m (.str x)=some "str":=nr rfl
@[simp] theorem AO (m:Mem) (ds:List D):ej m (.tup ds)=some "tuple":=nr rfl
@[simp] theorem Bo (m:Mem) (ds:List D):ej m (.lst ds)=some "list":=nr rfl
theorem wW {m:Mem} {j:Nat} {l:List D} (h:m[j]?=some (.lst l)):ej m (.ref j)=some "list":=by
 show (match m[j]? with
  | some (.lst _)=>some "list"
  | some (.dK _)=>some "dict"
  | _=>none)=_
 rw [h]
@[simp] theorem AH:isNon .non=true:=nr rfl
@[simp] theorem BH (b:Bool):isNon (.bl b)=false:=nr rfl
@[simp] theorem AJ (i:Int):isNon (.int i)=false:=nr rfl
@[simp] theorem AA (x:Str):isNon (.str x)=false:=nr rfl
@[simp] theorem AI (ds:List D):isNon (.tup ds)=false:=nr rfl
@[simp] theorem AB (ds:List D):isNon (.lst ds)=false:=nr rfl
@[simp] theorem AG (i:Nat):isNon (.ref i)=false:=nr rfl
def nrm (m:Mem):Nat→D→Option D
 | 0,_=>none
 | n+1,.tup ds=>if ds.length≤100000 then (aF (nrm m n) ds).map .tup else none
 | n+1,.lst ds=>if ds.length≤100000 then (aF (nrm m n) ds).map .lst else none
 | n+1,.ref i=>match m[i]? with
  | some (.lst ds)=>if ds.length≤100000 then (aF (nrm m n) ds).map .lst else none
  | _=>none
 | _+1,.scr _=>none
 | _+1,.fn _=>none
 | _+1,.non=>some .non
 | _+1,.bl b=>some (.bl b)
 | _+1,.int i=>some (.int i)
 | _+1,.str x=>some (.str x)
theorem qz {src:Src} {g:GM} {t:TM} {e:EM} {η:au} {m:Mem} {ds:List D} (f:D→D) (h:∀ k,k≤ds.length→src k m=some ds[k]?) (ht:∀ d∈ds,∃ η1,g d η m=.ok η1 m∧t η1 m=.ok true m∧e η1 m=.ok (f d) m) :
  ∀ (n k:Nat) (acc:List D),n+k=ds.length→acc.length+n≤sizeLine→bF src g t e η n k m acc=.ok (acc++(ds.drop k).map f) m
 | 0,k,acc,hn,_=>by
  unfold bF
  have hk:ds[k]?=none:=List.getElem?_eq_none (by omega)
  rw [h k (by omega),hk]
  simp only
  rw [List.drop_of_length_le (by omega)]
  simp
 | n+1,k,acc,hn,hl=>by
  unfold bF
  have hk:ds[k]?=some ds[k]:=List.getElem?_eq_getElem (by omega)
  rw [h k (by omega),hk]
  obtain ⟨η1,h1,h2,h3⟩:=ht ds[k] (List.getElem_mem _)
  simp only [h1,h2,h3,iF,bV,if_true]
  rw [if_pos (by omega),qz f h ht n (k+1) (acc++[f ds[k]]) (by omega) (by simp; omega)]
  rw [List.append_assoc,List.drop_eq_getElem_cons (by omega:k < ds.length)]
  rfl
theorem oa {α β:Type} {f:α→Option β}:∀ {l:List α} {r:List β},aF f l=some r→r.length=l.length
 | [],r,h=>by cases h; rfl
 | a ::l,r,h=>by
  obtain ⟨b,bs,rfl,h1,h2⟩:=dt h
  simp [oa h2]
theorem nZ {α β:Type} {f:α→Option β}:∀ {l:List α} {r:List β},aF f l=some r→∀ (k:Nat) (a:α),l[k]?=some a→∃ b,r[k]?=some b∧f a=some b
 | [],r,h,k,a,e=>by simp at e
 | x ::l,r,h,0,a,e=>by
  obtain ⟨b,bs,rfl,h1,h2⟩:=dt h
  simp at e
  subst e
  exact ⟨b,rfl,h1⟩
 | x ::l,r,h,k+1,a,e=>by
  obtain ⟨b,bs,rfl,h1,h2⟩:=dt h
  obtain ⟨b',e1,e2⟩:=nZ h2 k a (by simpa using e)
  exact ⟨b',by simpa using e1,e2⟩
theorem w6 {xs ys:List D} {d:D} (h:d∈dq xs ys):∃ (k:Nat) (a b:D),xs[k]?=some a∧ys[k]?=some b∧d=.tup [a,b]:=by
 obtain ⟨k,hk⟩:=List.mem_iff_getElem?.mp h
 unfold dq at hk
 rw [List.getElem?_zipWith] at hk
 cases hx:xs[k]? with
 | none=>rw [hx] at hk; cases hk
 | some a=>
  cases hy:ys[k]? with
  | none=>rw [hx,hy] at hk; cases hk
  | some b=>
   rw [hx,hy] at hk
   cases hk
   exact ⟨k,a,b,hx,hy,rfl⟩
theorem yF {l:List Nat} (h:∀ c∈l,c < 1114112):PyData.strOk (SX.S l)=true:=by
 unfold PyData.strOk
 rw [Array.all_eq_true']
 intro c hc
 simp [SX.S] at hc
 exact decide_eq_true (h c hc)
namespace Y
theorem ql {m:Mem} {n:Nat} {d1 d2:D} {ds1 ds2 es:List D} (ih:∀ a b e,nrm m n a=some e→nrm m n b=some e→bc n [a,b] m=.ok (.bl true) m)
  (h1:aO d1 m=some ds1) (h2:aO d2 m=some ds2) (k1:aF (nrm m n) ds1=some es) (k2:aF (nrm m n) ds2=some es) (hl:ds1.length≤100000) (b1:aU [d1] m=.ok (.int (ds1.length:Nat)) m) (b2:aU [d2] m=.ok (.int (ds2.length:Nat)) m) {P:D→Mem→Prop} (hP:P (.bl true) m) (x2 x3:Option D) :
  TriS (gq (bc n) [some d1,some d2,x2,x3] m) (fun _ _=>False) P:=by
 have hlen:ds1.length=ds2.length:=by rw [←oa k1,←oa k2]
 have hsz:ds1.length≤sizeLine:=size_le (by omega)
 simp [gq,b1,b2,hlen,jQ]
 have hz:nP d1 d2 m=.ok (dC (aO d1) (aO d2),min ds1.length ds2.length) m:=by
  unfold nP
  rw [h1,h2]
 rw [hz]
 simp only [bK]
 have hlz:min ds1.length ds2.length=(dq ds1 ds2).length:=(bX _ _).symm
 have hsrc:∀ k,k≤(dq ds1 ds2).length→dC (aO d1) (aO d2) k m=some (dq ds1 ds2)[k]?:=by
  intro k hk
  have:=dW (f:=fun _=>some ds1) (g:=fun _=>some ds2) (fun _=>rfl) (fun _=>rfl) k m hk
  rw [←this]
  unfold dC
  rw [h1,h2]
 rw [qz (fun _=>D.bl true) hsrc (fun d hd=>by
  obtain ⟨k,a,b,q1,q2,rfl⟩:=w6 hd
  obtain ⟨e1,r1,r2⟩:=nZ k1 k _ q1
  obtain ⟨e2,r3,r4⟩:=nZ k2 k _ q2
  rw [r1] at r3
  cases r3
  refine ⟨_,rfl,rfl,?_⟩
  simp [aR,ih _ _ _ r2 r4]) _ 0 [] (by rw [hlz]; rfl) (by rw [hlz,bX]; simp; omega)]
 simp only [bK,List.nil_append,List.drop_zero]
 have hm:(dq ds1 ds2).map (fun _=>D.bl true)=((dq ds1 ds2).map (fun _=>true)).map .bl:=by rw [List.map_map]; rfl
 rw [hm,fL]
 have:((dq ds1 ds2).map (fun _=>true)).all id=true:=by simp
 rw [this]
 exact hP
theorem r9 {m:Mem}:∀ (n:Nat) (d1 d2 e:D),nrm m n d1=some e→nrm m n d2=some e→bc n [d1,d2] m=.ok (.bl true) m
 | 0,d1,d2,e,h,_=>by cases h
 | n+1,d1,d2,e,h1,h2=>by
  have ih:=r9 (m:=m) n
  have key:Tri (bc (n+1) [d1,d2] m) (fun d m'=>d=.bl true∧m'=m):=by
   refine aZ rfl ?_
   have fin:∀ {N:au→Mem→Prop} {r:RS} {Q:D→Mem→Prop},TriS r (fun _ _=>False) Q→TriS r N Q:=fun h=>h.mono (fun _ _ z=>z.elim) (fun _ _ z=>z)
   have okP:(fun (d:D) (m':Mem)=>d=.bl true∧m'=m) (.bl true) m:=⟨rfl,rfl⟩
   have lst:∀ (ds1 ds2 es:List D),aO d1 m=some ds1→aO d2 m=some ds2→ej m d1=some "list"→ej m d2=some "list"→aF (nrm m n) ds1=some es→aF (nrm m n) ds2=some es→ds1.length≤100000→aU [d1] m=.ok (.int (ds1.length:Nat)) m→aU [d2] m=.ok (.int (ds2.length:Nat)) m→TriS (cU (bc n) ([d1,d2].map some++List.replicate (4 - 2) none) m) (fun _ m'=>D.non=.bl true∧m'=m) (fun d m'=>d=.bl true∧m'=m):=by
    intro ds1 ds2 es a1 a2 t1 t2 k1 k2 hl b1 b2
    simp [cU,t1,t2,fT,ib]
    exact fin (ql ih a1 a2 k1 k2 hl b1 b2 okP _ _)
   have asL:∀ (d:D) (es:List D),nrm m (n+1) d=some (.lst es)→∃ ds,aO d m=some ds∧ej m d=some "list"∧aF (nrm m n) ds=some es∧ds.length≤100000∧aU [d] m=.ok (.int (ds.length:Nat)) m:=by
    intro d es h
    cases d with
    | lst ds=>
     simp only [nrm] at h
     split at h
     ·rename_i hl
      cases hm:aF (nrm m n) ds with
      | none=>rw [hm] at h; cases h
      | some r=>rw [hm] at h; cases h; exact ⟨ds,rfl,rfl,hm,hl,rfl⟩
     ·cases h
    | ref j=>
     simp only [nrm] at h
     cases hj:m[j]? with
     | none=>rw [hj] at h; cases h
     | some c=>
      rw [hj] at h
      cases c with
      | lst ds=>
       simp only at h
       split at h
       ·rename_i hl
        cases hm:aF (nrm m n) ds with
        | none=>rw [hm] at h; cases h
        | some r=>
         rw [hm] at h
         cases h
         exact ⟨ds,by show bW m[j]?=_; rw [hj]; rfl,wW hj,hm,hl,cx hj⟩
       ·cases h
      | _=>cases h
    | tup ds=>
     simp only [nrm] at h
     split at h
     ·cases hm:aF (nrm m n) ds with
      | none=>rw [hm] at h; cases h
      | some r=>rw [hm] at h; cases h
     ·cases h
    | _=>simp [nrm] at h
   have asT:∀ (d:D) (es:List D),nrm m (n+1) d=some (.tup es)→∃ ds,d=.tup ds∧aF (nrm m n) ds=some es∧ds.length≤100000:=by
    intro d es h
    cases d with
    | tup ds=>
     simp only [nrm] at h
     split at h
     ·rename_i hl
      cases hm:aF (nrm m n) ds with
      | none=>rw [hm] at h; cases h
      | some r=>rw [hm] at h; cases h; exact ⟨ds,rfl,hm,hl⟩
     ·cases h
    | lst ds=>
     simp only [nrm] at h
     split at h
     ·cases hm:aF (nrm m n) ds with
      | none=>rw [hm] at h; cases h
      | some r=>rw [hm] at h; cases h
     ·cases h
    | ref j=>
     simp only [nrm] at h
     split at h
     ·split at h
      ·rename_i ds _ _
       cases hm:aF (nrm m n) ds with
       | none=>rw [hm] at h; cases h
       | some r=>rw [hm] at h; cases h
      ·cases h
     ·cases h
    | _=>simp [nrm] at h
   have asF:∀ (d:D),nrm m (n+1) d=some e→(∀ es,e≠.lst es)→(∀ es,e≠.tup es)→d=e:=by
    intro d h n1 n2
    cases d with
    | tup ds=>
     simp only [nrm] at h
     split at h
     ·cases hm:aF (nrm m n) ds with
      | none=>rw [hm] at h; cases h
      | some r=>rw [hm] at h; cases h; exact absurd rfl (n2 r)
     ·cases h
    | lst ds=>
     simp only [nrm] at h
     split at h
     ·cases hm:aF (nrm m n) ds with
      | none=>rw [hm] at h; cases h
      | some r=>rw [hm] at h; cases h; exact absurd rfl (n1 r)
     ·cases h
    | ref j=>
     simp only [nrm] at h
     split at h
     ·split at h
      ·rename_i ds _ _
       cases hm:aF (nrm m n) ds with
       | none=>rw [hm] at h; cases h
       | some r=>rw [hm] at h; cases h; exact absurd rfl (n1 r)
      ·cases h
     ·cases h
    | scr ds=>simp [nrm] at h
    | fn x=>simp [nrm] at h
    | non=>simpa [nrm] using h
    | bl b=>simpa [nrm] using h
    | int i=>simpa [nrm] using h
    | str x=>simpa [nrm] using h
   cases e with
   | lst es=>
    obtain ⟨ds1,a1,t1,k1,l1,b1⟩:=asL d1 es h1
    obtain ⟨ds2,a2,t2,k2,l2,b2⟩:=asL d2 es h2
    exact lst ds1 ds2 es a1 a2 t1 t2 k1 k2 l1 b1 b2
   | tup es=>
    obtain ⟨ds1,rfl,k1,l1⟩:=asT d1 es h1
    obtain ⟨ds2,rfl,k2,l2⟩:=asT d2 es h2
    simp [cU,fT,ib]
    exact fin (ql ih rfl rfl k1 k2 l1 rfl rfl okP _ _)
   | non=>
    have e1:=asF d1 h1 (by simp) (by simp)
    have e2:=asF d2 h2 (by simp) (by simp)
    subst e1; subst e2
    simp [cU,fT,dV,gEq,cn,scal]
   | bl b=>
    have e1:=asF d1 h1 (by simp) (by simp)
    have e2:=asF d2 h2 (by simp) (by simp)
    subst e1; subst e2
    simp [cU,fT,dV,gI]
   | int b=>
    have e1:=asF d1 h1 (by simp) (by simp)
    have e2:=asF d2 h2 (by simp) (by simp)
    subst e1; subst e2
    simp [cU,fT,dV,gI]
   | str b=>
    have e1:=asF d1 h1 (by simp) (by simp)
    have e2:=asF d2 h2 (by simp) (by simp)
    subst e1; subst e2
    simp [cU,fT,dV]
   | scr ds=>
    have e1:=asF d1 h1 (by simp) (by simp)
    subst e1
    simp [nrm] at h1
   | fn x=>
    have e1:=asF d1 h1 (by simp) (by simp)
    subst e1
    simp [nrm] at h1
   | ref j=>
    have e1:=asF d1 h1 (by simp) (by simp)
    subst e1
    simp only [nrm] at h1
    split at h1
    ·split at h1
     ·rename_i ds _ _
      cases hm:aF (nrm m n) ds with
      | none=>rw [hm] at h1; cases h1
      | some r=>rw [hm] at h1; cases h1
     ·cases h1
    ·cases h1
  obtain ⟨d,m',e,rfl,rfl⟩:=key.ex
  exact e
end Y
end Mir
namespace Mir
open PySem PySem.Spec PyProof.Rows L2
theorem xR (l:List Nat) (k:Nat):cutS (SX.S l) none (some (k:Nat))=SX.S (l.take k):=by
 unfold cutS
 rw [SX.S_len,HT.sIx_nat]
 have h1:HT.sIx l.length 0 none=0:=rfl
 rw [h1]
 show SX.S _=_
 congr 1
 simp
theorem xJ (l:List Nat) (k:Nat):cutS (SX.S l) (some (k:Nat)) none=SX.S (l.drop k):=by
 unfold cutS
 rw [SX.S_len,HT.sIx_nat]
 have h1:HT.sIx l.length l.length none=l.length:=rfl
 rw [h1]
 show SX.S _=_
 congr 1
 simp
 by_cases h:k≤l.length
 ·rw [Nat.min_eq_left h]
  exact List.take_of_length_le (by simp)
 ·rw [Nat.min_eq_right (by omega),List.drop_of_length_le (Nat.le_refl _),List.drop_of_length_le (by omega)]
  simp
theorem n8 (a b:List Nat):SX.S a++SX.S b=SX.S (a++b):=by
 show Str.mk (a.toArray++b.toArray)=_
 simp [SX.S]
theorem Af (a:List Nat):(SX.S a).cps.toList=a:=rfl
theorem S_of (x:Str):SX.S x.cps.toList=x:=by cases x; rfl
theorem oS:∀ {a b:List Nat} (s t:List Nat),a.length=b.length→a < b→a++s < b++t
 | [],[],s,t,_,h=>absurd h (List.lt_irrefl _)
 | x ::a,y ::b,s,t,hl,h=>by
  rw [List.cons_append,List.cons_append]
  rw [List.cons_lt_cons_iff] at h ⊢
  rcases h with h | ⟨rfl,h⟩
  ·exact .inl h
  ·exact .inr ⟨rfl,oS s t (by simpa using hl) h⟩
def ei:List Nat:=[97,98,99,100,101,102,103,104,105,106,107,108,109,110,111,112,113,114,115,116,117,118,119,120,121,122]
theorem uN:ei=(List.range 26).map (·+97):=by decide
theorem nS (c:Nat):c∈ei↔97≤c∧c≤122:=by
 rw [uN]
 simp
 constructor
 ·rintro ⟨a,ha,rfl⟩; omega
 ·intro h; exact ⟨c - 97,by omega,by omega⟩
theorem xY:Str.ofString "abcdefghijklmnopqrstuvwxyz"=SX.S ei:=by decide +kernel
def keptW:List Str:=[Str.ofString "deeds",Str.ofString "room",Str.ofString "heap",Str.ofString "map",Str.ofString "yard"]
structure Nm (x:Str):Prop where
 lo:1≤x.length
 hi:x.length≤6
 let':∀ c∈x.cps.toList,c∈ei
 kept:x∉keptW
def ltS (a b:Str):Prop:=a.cps.toList < b.cps.toList
structure Nms (ns:List Str):Prop where
 nm:∀ x∈ns,Nm x
 up:ns.Pairwise ltS
def lq (x:Str):Str:=if x∈keptW then x++Str.ofString "q" else x
theorem sV {x:Str} (h:x∈keptW):3≤x.length∧x.length≤5:=by
 simp only [keptW,List.mem_cons,List.not_mem_nil,or_false] at h
 rcases h with rfl | rfl | rfl | rfl | rfl<;>decide
theorem zJ {x:Str} (h:x∈keptW):x++Str.ofString "q"∉keptW:=by
 simp only [keptW,List.mem_cons,List.not_mem_nil,or_false] at h
 rcases h with rfl | rfl | rfl | rfl | rfl<;>decide +kernel
theorem q_S:Str.ofString "q"=SX.S [113]:=by decide +kernel
theorem yv {x:Str} (h1:1≤x.length) (h2:x.length≤6) (h3:∀ c∈x.cps.toList,c∈ei):Nm (lq x):=by
 unfold lq
 split
 ·rename_i hk
  refine ⟨?_,?_,fun c hc=>?_,zJ hk⟩
  ·rw [wQ]; omega
  ·have:=(sV hk).2
   rw [wQ]
   show _+1≤6
   omega
  ·have hc:c∈(x.cps++(Str.ofString "q").cps).toList:=hc
   rw [Array.toList_append,List.mem_append] at hc
   rcases hc with hc | hc
   ·exact h3 c hc
   ·rw [q_S,Af] at hc
    simp at hc
    subst hc
    decide
 ·rename_i hk
  exact ⟨h1,h2,h3,hk⟩
theorem yu {a b:Str} (hl:a.length=b.length) (h:ltS a b):ltS (lq a) (lq b):=by
 have hl':a.cps.toList.length=b.cps.toList.length:=by rw [uI,uI]; exact hl
 unfold ltS lq
 have e:∀ x:Str,(x++Str.ofString "q").cps.toList=x.cps.toList++[113]:=fun x=>by
  rw [q_S]
  show (x.cps++[113].toArray).toList=_
  simp
 split<;>split
 ·rw [e,e]; exact oS _ _ hl' h
 ·rw [e]
  have:=oS [113] [] hl' h
  rwa [List.append_nil] at this
 ·rw [e]
  have:=oS [] [113] hl' h
  rwa [List.append_nil] at this
 ·exact h
theorem xc {a b:Str} (h:leS a b) (hn:a≠b):ltS a b:=by
 unfold leS at h
 unfold ltS
 by_cases hlt:a.cps.toList < b.cps.toList
 ·exact hlt
 ·exact absurd (mA h hlt) hn
theorem xl {l:List Str} (h:l.Nodup):(fR l).Pairwise ltS:=by
 have h1:=jL l
 have h2:(fR l).Nodup:=(jb l).symm.nodup h
 exact List.Pairwise.imp₂ (fun a b h1 h2=>xc h1 h2) h1 h2
namespace Y
theorem vW {m:Mem} {i:Nat} {n:Int} (hf:FlowAt m i) (hn:0 < n) (hb:n≤1000000):Tri (aq [.ref i,.int n] m) (fun d m'=>∃ k:Nat,d=.int (k:Nat)∧(k:Int) < n∧Flo m m' i):=wZ hf hn (by omega)
theorem aQ {m:Mem} {i:Nat} {n:Int} {P:D→Mem→Prop} (hf:FlowAt m i) (hn:0 < n) (hb:n≤1000000) (h:∀ (k:Nat) m',(k:Int) < n→Flo m m' i→P (.int (k:Nat)) m'):Tri (aq [.ref i,.int n] m) P:=
 (vW hf hn hb).mono fun d m' ⟨k,e,h1,h2⟩=>by
  rw [e]
  exact h k m' h1 h2
theorem zT (ns:List Int) (hl:ns.length≤63):∃ m,dZ [.scr (ns.map .int)] []=.ok (.ref 0) m∧FlowAt m 0:=by
 refine ⟨[.lst [.lst (ns.map .int),.int 0,.int 0,.int 1,.int 0]],?_,_,rfl,ns,0,0,1,0,rfl,by decide,by decide,by decide,by decide⟩
 have key:Tri (dZ [.scr (ns.map .int)] []) (fun d m'=>d=.ref 0∧m'=[.lst [.lst (ns.map .int),.int 0,.int 0,.int 1,.int 0]]):=by
  refine aZ rfl ?_
  have h5:5≤sizeLine:=size_le (by decide)
  have hl2:ns.length≤sizeLine:=size_le (by omega)
  simp [nv,fY,fx,ba,lR,h5,hl2]
 obtain ⟨d,m',e,rfl,rfl⟩:=key.ex
 exact e
theorem atI_nat {α:Type} {l:List α} {k:Nat} {x:α} (h:l[k]?=some x):atI l (k:Nat)=some x:=by
 unfold atI ixN
 have:=(List.getElem?_eq_some_iff.mp h).1
 rw [if_pos (by omega),if_pos (by omega)]
 simpa using h
theorem xt {k:Nat} (h:k < 26):ei[k]?=some (k+97):=by
 rw [uN]
 simp [h]
theorem uu {k:Nat} (h:k < 26) (m:Mem):gIx (.str (SX.S ei)) (.int (k:Nat)) m=.ok (.str ⟨#[k+97]⟩) m:=yV (by decide) (atI_nat (xt h))
theorem td {x:Str} {neg:Bool} {m:Mem}:gIn neg (.str x) (.tup [.str (Str.ofString "deeds"),.str (Str.ofString "room"),.str (Str.ofString "heap"),.str (Str.ofString "map"),.str (Str.ofString "yard")]) m=.ok (.bl (decide (x∈keptW)^^neg)) m:=iL (ys:=keptW)
theorem b9 {n:Nat} (h:n≤1000000) (m:Mem):rL (.int (n:Nat)) m=.ok (dr (eM 0 n)) m:=by
 rw [bC _ _ (by omega) (by omega),Int.toNat_natCast]
theorem mQ {m:Mem} {i n:Nat} {η:au} {j q:Nat} (hf:FlowAt m i) (hn:n≤1000) (h0:∀ d,(η.set j (some d))[0]?=some (some (.ref i))) (hq:∀ d,(η.set j (some d))[q]?=some (some (.str (SX.S ei)))) :
  Tri (bD (gNm j) bz (mOp gIx (ab q) (ax aq (ae (ab 0) (ae (mC (.int 26)) ag)))) η (eM 0 n) m []) (fun acc m'=>∃ cs:List Nat,acc=cs.map (fun c=>D.str ⟨#[c]⟩)∧cs.length=n∧(∀ c∈cs,c∈ei)∧Flo m m' i):=by
 refine (j9 (fun c=>D.str ⟨#[c]⟩) (fun c=>c∈ei) hf (by simp; omega) ?_).mono ?_
 ·intro d m' hd hfl
  simp [h0,hq]
  refine (vW hfl.at (n:=26) (by decide) (by decide)).mono ?_
  rintro _ m2 ⟨k,rfl,hk,hfl2⟩
  have hk:k < 26:=by omega
  rw [uu hk]
  refine ⟨k+97,rfl,?_,hfl.trans hfl2⟩
  rw [nS]
  omega
 ·rintro acc m' ⟨cs,e,hl,hP,hfl⟩
  exact ⟨cs,e,by simpa using hl,hP,hfl⟩
theorem mB {cs:List Nat} {m:Mem} (h:cs.length≤1000):kM (.str (Str.ofString "")) [.lst (cs.map fun c=>D.str ⟨#[c]⟩)] m=.ok (.str (SX.S cs)) m:=ud (by omega)
def fV (tl:List Nat) (at' turn:Nat) (k:Nat):List Nat:=tl.take at'++[97+(turn+7*k) % 26]++tl.drop at'
theorem append_empty (x:Str):x++Str.empty=x:=by
 cases x
 rename_i a
 show Str.mk (a++#[])=_
 simp
theorem wo (tl:List Nat) (a t k:Nat):(fV tl a t k).length=tl.length+1:=by
 unfold fV
 simp
 omega
theorem wg {tl:List Nat} {a t k:Nat} (h:∀ c∈tl,c∈ei):∀ c∈fV tl a t k,c∈ei:=by
 intro c hc
 unfold fV at hc
 rw [List.mem_append,List.mem_append] at hc
 rcases hc with (hc | hc) | hc
 ·exact h c (List.mem_of_mem_take hc)
 ·simp at hc
  subst hc
  rw [nS]
  omega
 ·exact h c (List.mem_of_mem_drop hc)
theorem vO {tl:List Nat} {a t j k:Nat} (hj:j < 26) (hk:k < 26) (h:fV tl a t j=fV tl a t k):j=k:=by
 unfold fV at h
 rw [List.append_assoc,List.append_assoc] at h
 have h:=List.append_cancel_left h
 simp at h
 omega
theorem zv (b:Bool) (m:Mem):jn [.bl b] m=.ok (.int (if b then 1 else 0)) m:=rfl
theorem yU (b:Bool) (m:Mem):rJ (.str (Str.ofString "q")) (.int (if b then 1 else 0)) m=.ok (.str (if b then Str.ofString "q" else Str.empty)) m:=by
 cases b<;>rfl
theorem yM (k:Nat) (m:Mem):eN (.int 7) (.int (k:Nat)) m=.ok (.int (7*(k:Int))) m:=by
 show (if kZ 7 (k:Nat) then R.ok (D.int (7*(k:Nat))) m else R.stk)=_
 rw [if_pos (.inl (by decide))]
theorem wK {a b:Nat} (hb:0 < b) (m:Mem):eA (.int (a:Nat)) (.int (b:Nat)) m=.ok (.int ((a % b:Nat):Int)) m:=by
 rw [jA (by omega)]; simp
theorem rngD_nat (n:Nat):eM 0 n=(List.range n).map fun k=>D.int ((k:Nat):Int):=by
 unfold eM
 simp
theorem tG {xs:List Str} {m:Mem} (h:xs.length < 64):jB false [.lst (xs.map .str)] m=.ok (.lst ((fR xs).map .str)) m:=by
 unfold jB
 have e:(ba m (.lst (xs.map .str))).bind (aF strOf)=some xs:=by
  show aF strOf (xs.map .str)=_
  have:=cL (f:=strOf) (g:=D.str) (h:=id) (fun _=>rfl) xs
  rw [List.map_id] at this
  exact this
 simp only [e,if_pos h,gR]
theorem kP {m:Mem} {i n:Nat} {P:D→Mem→Prop} (hf:FlowAt m i) (hn:n≤26) (h:∀ (ns:List Str) m',ns.length=n→Nms ns→Flo m m' i→P (.tup (ns.map .str)) m'):Tri (bY [.ref i,.int (n:Nat)] m) P:=by
 refine aZ rfl ?_
 simp [mf,xY,j6,ig]
 refine aQ hf (by decide) (by decide) fun k m1 hk hfl=>?_
 simp [-bC,b9 (n:=k) (by omega)]
 refine (mQ (n:=k) hfl.at (by omega) (fun d=>rfl) (fun d=>rfl)).mono ?_
 rintro _ m2 ⟨tl,rfl,htl,hlet,hfl2⟩
 simp [mB (m:=m2) (cs:=tl) (by omega),kb,rW (x:=SX.S tl) (m:=m2) (by rw [SX.S_len]; omega)]
 refine aQ hfl2.at (by omega) (by omega) fun a m3 ha hfl3=>?_
 refine aQ hfl3.at (by decide) (by decide) fun t m4 ht hfl4=>?_
 have hfl:=((hfl.trans hfl2).trans hfl3).trans hfl4
 simp [j8,-bC,b9 (n:=n) (by omega)]
 rw [rngD_nat,b4 (fun k:Nat=>D.int (k:Nat)) (fun k=>D.str (SX.S (fV tl a t k))) (List.range n) [] (fun k hk=>by
  refine ⟨_,rfl,rfl,?_⟩
  have h26:(t+7*k) % 26 < 26:=Nat.mod_lt _ (by decide)
  have e1:∀ m,eA (.int ((t:Int)+7*(k:Int))) (.int 26) m=.ok (.int (((t+7*k) % 26:Nat):Int)) m:=fun m=>by
   have:=wK (a:=t+7*k) (b:=26) (by decide) m
   simpa using this
  have sl:∀ lo hi m,gSl false (.str (SX.S tl)) lo hi m=.ok (.str (cutS (SX.S tl) lo hi)) m:=fun lo hi m=>ug (by rw [SX.S_len]; omega)
  have cc:∀ c,(⟨#[c]⟩:Str)=SX.S [c]:=fun _=>rfl
  have l1:(tl.take a).length≤6:=by rw [List.length_take]; omega
  have l2:(tl.drop a).length≤6:=by rw [List.length_drop]; omega
  have a1:=fun m=>jC (al:=false) (m:=m) (x:=SX.S (tl.take a)) (y:=SX.S [(t+7*k) % 26+97]) (by rw [SX.S_len,SX.S_len,List.length_singleton]; omega)
  have a2:=fun m=>jC (al:=false) (m:=m) (x:=SX.S (tl.take a)++SX.S [(t+7*k) % 26+97]) (y:=SX.S (tl.drop a)) (by rw [wQ,SX.S_len,SX.S_len,SX.S_len,List.length_singleton]; omega)
  simp only [aR,Al,Aq,za,vZ,yA,ap_c,List.set_cons_succ,List.set_cons_zero,List.getElem?_cons_succ,List.getElem?_cons_zero,yB,bV,vK,sl,xR,xJ,yM,wI,uu h26,cc,a1,a2,e1]
  rw [n8,n8]
  unfold fV
  rw [Nat.add_comm _ 97]) (by simp; omega)]
 have hnd:((List.range n).map fun k=>SX.S (fV tl a t k)).Nodup:=by
  show List.Pairwise _ _
  rw [List.pairwise_map]
  refine List.Pairwise.imp_of_mem (fun hx hy hne e=>hne ?_) (List.nodup_range (n:=n))
  exact vO (by simp at hx; omega) (by simp at hy; omega) (SX.S_inj e)
 have e2:(List.range n).map (fun k=>D.str (SX.S (fV tl a t k)))=((List.range n).map fun k=>SX.S (fV tl a t k)).map .str:=by rw [List.map_map]; rfl
 simp only [List.nil_append,bK,gR,bV,e2]
 rw [tG (by simp; omega)]
 generalize hL:((List.range n).map fun k=>SX.S (fV tl a t k))=L at hnd
 have hall:∀ x∈L,x.length=tl.length+1∧∀ c∈x.cps.toList,c∈ei:=by
  intro x hx
  rw [←hL] at hx
  obtain ⟨k,_,rfl⟩:=List.mem_map.mp hx
  exact ⟨by rw [SX.S_len,wo],wg hlet⟩
 have hlen:L.length=n:=by rw [←hL]; simp
 have hp:=jb L
 have hall2:∀ x∈fR L,x.length=tl.length+1∧∀ c∈x.cps.toList,c∈ei:=fun x hx=>hall x (hp.mem_iff.mp hx)
 have hlen2:(fR L).length=n:=by rw [hp.length_eq,hlen]
 simp [jZ]
 rw [b4 D.str (fun x=>D.str (lq x)) (fR L) [] (fun x hx=>by
  refine ⟨_,rfl,rfl,?_⟩
  have hxl:=(hall2 x hx).1
  simp [aR,td,zv,yU]
  unfold lq
  by_cases hk:x∈keptW
  ·simp [hk]
   exact jC (al:=false) (m:=m4) (x:=x) (y:=Str.ofString "q") (by show _+1≤_; omega)
  ·simp [hk]
   have:=jC (al:=false) (m:=m4) (x:=x) (y:=Str.empty) (by show _+0≤_; omega)
   rw [append_empty] at this
   exact this) (by simp; omega)]
 have e3:(fR L).map (fun x=>D.str (lq x))=((fR L).map lq).map .str:=by rw [List.map_map]; rfl
 simp only [List.nil_append,bK,gR,bV,e3,oP]
 refine h _ m4 (by rw [List.length_map,hlen2]) ⟨fun x hx=>?_,?_⟩ hfl
 ·obtain ⟨y,hy,rfl⟩:=List.mem_map.mp hx
  have:=hall2 y hy
  exact yv (by omega) (by omega) this.2
 ·rw [List.pairwise_map]
  refine List.Pairwise.imp_of_mem (fun ha hb hlt=>yu ?_ hlt) (xl hnd)
  rw [(hall2 _ ha).1,(hall2 _ hb).1]
end Y
structure Hea where
 s:Int
 t:List Int
 l:List Int
def iT (xs:List Int):D:=.tup (xs.map .int)
def sT (xs:List Str):D:=.tup (xs.map .str)
def bA (h:Hea):D:=.tup [.int h.s,iT h.t,iT h.l]
structure Yar where
 d:List Str
 h:List Hea
def aS (y:Yar):D:=.tup [sT y.d,.tup (y.h.map bA)]
structure OkHea (n:Nat) (b:Int) (h:Hea):Prop where
 s0:0≤h.s
 s1:h.s≤b
 tl:h.t.length=n
 ll:h.l.length=n
 t:∀ x∈h.t,0≤x∧x≤b
 l:∀ x∈h.l,0≤x∧x≤b
structure OkYar (y:Yar):Prop where
 nm:Nms y.d
 few:y.d.length≤5
 hp:∀ h∈y.h,OkHea y.d.length 50 h
 fewh:y.h.length≤12
theorem OkHea.mono {n:Nat} {b c:Int} {h:Hea} (k:OkHea n b h) (hbc:b≤c):OkHea n c h:=
 ⟨k.s0,Int.le_trans k.s1 hbc,k.tl,k.ll,fun x hx=>⟨(k.t x hx).1,Int.le_trans (k.t x hx).2 hbc⟩,fun x hx=>⟨(k.l x hx).1,Int.le_trans (k.l x hx).2 hbc⟩⟩
namespace Y
theorem qW {α β:Type} (f:α→β):∀ (l:List α) (k:Nat),(l.map f).eraseIdx k=(l.eraseIdx k).map f
 | [],k=>by simp
 | x ::l,0=>rfl
 | x ::l,k+1=>by
  show f x ::(l.map f).eraseIdx k=f x ::(l.eraseIdx k).map f
  rw [qW f l k]
theorem pk {α:Type}:∀ (l:List α) (k:Nat) (h:k < l.length),(l[k] ::l.eraseIdx k).Perm l
 | [],k,h=>by simp at h
 | x ::l,0,h=>.refl _
 | x ::l,k+1,h=>by
  have h:k < l.length:=by simpa using h
  show (l[k] ::x ::l.eraseIdx k).Perm (x ::l)
  exact (List.Perm.swap _ _ _).trans ((pk l k h).cons x)
theorem rD {α:Type} {m:Mem} {i:Nat} {P:D→Mem→Prop} (emb:α→D) (d:D) (xs:List α) (hf:FlowAt m i) (hd:fx m d=some (xs.map emb)) (hlen:aU [d] m=.ok (.int (xs.length:Nat)) m) (hdm:∀ m',Flo m m' i→aU [d] m'=.ok (.int (xs.length:Nat)) m') (hx:xs.length≤1000)
  (h:∀ (ys:List α) m',ys.Perm xs→Flo m m' i→P (.lst (ys.map emb)) m'):Tri (da [.ref i,d] m) P:=by
 refine aZ rfl ?_
 have hsz:xs.length≤sizeLine:=size_le (by omega)
 have e1:fY true [d] m=.ok (.ref m.length) (m++[.lst (xs.map emb)]):=by
  unfold fY
  simp only [hd]
  rfl
 have h0:Flo m (m++[.lst (xs.map emb)]) i:=(Flo.refl hf).push _
 have hi:m.length≠i:=by have:=hf.lt; omega
 simp [j5,e1,iI,hdm _ h0,-bC,b9 (n:=xs.length) (by omega)]
 refine (tJ (fun j m' acc=>∃ ys zs:List α,acc=ys.map emb∧ys.length=j∧(ys++zs).Perm xs∧m'[m.length]?=some (.lst (zs.map emb))∧Flo m m' i) _ ⟨[],xs,rfl,rfl,.refl _,by simp,h0⟩ ?_).mono ?_
 ·rintro j d' m' acc hd' hj ⟨ys,zs,rfl,hys,hp,hc,hfl⟩
  have hzl:ys.length+zs.length=xs.length:=by rw [←List.length_append,hp.length_eq]
  simp at hj
  have hz0:0 < zs.length:=by omega
  simp [aR,cu hc,cx hc]
  refine aQ (n:=(zs.length:Int)) hfl.at (by omega) (by omega) fun k m2 hk hfl2=>?_
  have hc2:m2[m.length]?=some (.lst (zs.map emb)):=hfl2.get hi hc
  have hk':k < zs.length:=by omega
  have e2:ma (.ref m.length) [.int (k:Nat)] m2=.ok (emb zs[k]) (m2.set m.length (.lst ((zs.eraseIdx k).map emb))):=by
   have e3:ixN (zs.map emb).length ((k:Nat):Int)=some k:=by
    unfold ixN
    rw [if_pos (by omega),if_pos (by rw [List.length_map]; omega)]
    rfl
   have e4:(zs.map emb)[k]?=some (emb zs[k]):=by rw [List.getElem?_map,List.getElem?_eq_getElem hk']; rfl
   unfold ma
   simp only [hc2,bW,e3,e4]
   rw [qW]
  rw [e2]
  have hys2:ys.length < sizeLine:=ie (by omega)
  simp [hys2]
  refine ⟨ys++[zs[k]],by simp,by simp [hys],zs.eraseIdx k,?_,?_,(hfl.trans hfl2).put (Nat.le_refl _) hi _⟩
  ·refine List.Perm.trans ?_ hp
   rw [List.append_assoc]
   exact List.Perm.append_left _ (pk zs k hk')
  ·rw [List.getElem?_set_self (List.getElem?_eq_some_iff.mp hc2).1]
 ·rintro acc m' ⟨ys,zs,rfl,hys,hp,hc,hfl⟩
  simp at hys
  have hz:zs=[]:=by
   have:=hp.length_eq
   rw [List.length_append] at this
   exact List.eq_nil_of_length_eq_zero (by omega)
  subst hz
  rw [List.append_nil] at hp
  exact h ys m' hp hfl
theorem nD {m:Mem} {i n:Nat} {b:Int} {η:au} {j:Nat} (hf:FlowAt m i) (hn:n≤1000) (hb0:0≤b) (hb:b≤1000) (h0:∀ d,(η.set j (some d))[0]?=some (some (.ref i))) (h2:∀ d,(η.set j (some d))[2]?=some (some (.int b))) :
  Tri (bD (gNm j) bz (mCB pF (ae (mC (.int 0)) (ae (mOp gSub (ax aq (ae (ab 0) (ae (mOp (bp false) (ab 2) (mC (.int 2))) ag))) (mC (.int 2))) ag))) η (eM 0 n) m []) (fun acc m'=>∃ cs:List Int,acc=cs.map .int∧cs.length=n∧(∀ c∈cs,0≤c∧c≤b)∧Flo m m' i):=by
 refine (j9 D.int (fun c=>0≤c∧c≤b) hf (by simp; omega) ?_).mono ?_
 ·intro d m' hd hfl
  simp [h0,h2]
  refine aQ (n:=b+2) hfl.at (by omega) (by omega) fun k m2 hk hfl2=>?_
  simp
  refine ⟨⟨?_,?_⟩,hfl.trans hfl2⟩<;>split<;>omega
 ·rintro acc m' ⟨cs,e,hl,hP,hfl⟩
  exact ⟨cs,e,by simpa using hl,hP,hfl⟩
theorem wx {m:Mem} {i n:Nat} {b:Int} {P:D→Mem→Prop} (hf:FlowAt m i) (hn:n≤1000) (hb0:0≤b) (hb:b≤1000) (h:∀ (x:Hea) m',OkHea n b x→Flo m m' i→P (bA x) m'):Tri (fg [.ref i,.int (n:Nat),.int b] m) P:=by
 refine aZ rfl ?_
 simp [nL,-bC,b9 (n:=n) (by omega)]
 refine (nD (n:=n) hf hn hb0 hb (fun d=>rfl) (fun d=>rfl)).mono ?_
 rintro _ m1 ⟨ts,rfl,htl,ht,hfl⟩
 simp [kE,-bC,b9 (n:=n) (by omega)]
 refine (nD (n:=n) hfl.at hn hb0 hb (fun d=>rfl) (fun d=>rfl)).mono ?_
 rintro _ m2 ⟨ls,rfl,hll,hl,hfl2⟩
 simp [kF]
 refine aQ (n:=b+1) hfl2.at (by omega) (by omega) fun k m3 hk hfl3=>?_
 exact h ⟨(k:Int),ts,ls⟩ m3 ⟨by show 0≤(k:Int); omega,by show (k:Int)≤b; omega,htl,hll,ht,hl⟩ ((hfl.trans hfl2).trans hfl3)
def marks (c:Int) (ws:List Nat):List Int:=ws.map fun w=>if ((w:Nat):Int)=c then (1:Int) else 0
theorem iG (c:Int) (ws:List Nat):(marks c ws).length=ws.length:=by unfold marks; simp
theorem mq {m:Mem} {η:au} {j:Nat} (c:Int) (ws:List Nat) (hw:ws.length≤1000) (hj:j < η.length):bD (gNm j) bz (mCB jn (ae (mOp (gEq false) (ab j) (mC (.int c))) ag)) η (ws.map fun w=>D.int (w:Nat)) m []=.ok ((marks c ws).map .int) m:=by
 rw [b4 (fun w:Nat=>D.int (w:Nat)) (fun w=>D.int (if ((w:Nat):Int)=c then 1 else 0)) ws [] (fun w hw=>by
  refine ⟨_,rfl,rfl,?_⟩
  simp [hj]) (by simp; omega)]
 simp [marks]
theorem jI (c:Int) (ws:List Nat):∀ x∈marks c ws,0≤x∧x≤5:=by
 intro x hx
 obtain ⟨w,_,rfl⟩:=List.mem_map.mp hx
 split<;>omega
theorem wj {m:Mem} {i n:Nat} {c:Int} {η:au} {j q:Nat} (hf:FlowAt m i) (hn:n≤1000) (hc0:0 < c) (hc:c≤1000) (h0:∀ d,(η.set j (some d))[q]?=some (some (.ref i))) :
  Tri (bD (gNm j) bz (ax aq (ae (ab q) (ae (mC (.int c)) ag))) η (eM 0 n) m []) (fun acc m'=>∃ ws:List Nat,acc=ws.map (fun w=>D.int (w:Nat))∧ws.length=n∧(∀ w∈ws,(w:Int) < c)∧Flo m m' i):=by
 refine (j9 (fun w:Nat=>D.int (w:Nat)) (fun w=>(w:Int) < c) hf (by simp; omega) ?_).mono ?_
 ·intro d m' hd hfl
  simp [h0]
  exact aQ (n:=c) hfl.at (by omega) (by omega) fun k m2 hk hfl2=>⟨k,rfl,hk,hfl.trans hfl2⟩
 ·rintro acc m' ⟨cs,e,hl,hP,hfl⟩
  exact ⟨cs,e,by simpa using hl,hP,hfl⟩
theorem oi {α:Type} (x:α):∀ n:Nat,(List.replicate n [x]).flatten=List.replicate n x
 | 0=>rfl
 | n+1=>by rw [List.replicate_succ,List.flatten_cons,oi x n,List.replicate_succ]; rfl
theorem sy {n:Nat} {m:Mem} (hn:n≤1000):kW (.tup [.int 1]) (.int (n:Nat)) m=.ok (iT (List.replicate n 1)) m:=by
 show (if sf ((n:Nat):Int)=true∧[D.int 1].length≤1000 then R.ok (D.tup (List.replicate ((n:Nat):Int).toNat [D.int 1]).flatten) m else R.stk)=_
 rw [if_pos ⟨(nV _).mpr (by omega),by decide⟩,Int.toNat_natCast,oi]
 unfold iT
 rw [List.map_replicate]
theorem oC {m:Mem} {i n:Nat} {P:D→Mem→Prop} (hf:FlowAt m i) (hn:n≤1000) (h:∀ (xs:List Hea) m',xs.length≤2→(∀ x∈xs,OkHea n 5 x)→Flo m m' i→P (.lst (xs.map bA)) m'):Tri (cA [.ref i,.int (n:Nat)] m) P:=by
 refine aZ rfl ?_
 simp [iW,sO]
 refine aQ hf (by decide) (by decide) fun f m1 hf3 hfl=>?_
 simp [-bC,b9 (n:=n) (by omega)]
 refine (wj (n:=n) hfl.at hn (by decide) (by decide) (fun d=>rfl)).mono ?_
 rintro _ m2 ⟨ws,rfl,hw,hw4,hfl2⟩
 have hfl:=hfl.trans hfl2
 simp [gY]
 by_cases hf0:f=0
 ·simp [hf0]
  refine aQ hfl.at (by decide) (by decide) fun k m3 hk hfl3=>?_
  simp [sy hn,aR]
  rw [mq 0 ws (by omega) (by simp)]
  simp only [bK]
  refine h [⟨1+(k:Int),List.replicate n 1,marks 0 ws⟩] m3 (by simp) (fun x hx=>?_) (hfl.trans hfl3)
  simp at hx
  subst hx
  exact ⟨by show 0≤1+(k:Int); omega,by show 1+(k:Int)≤5; omega,by simp,by show (marks 0 ws).length=n; rw [iG]; exact hw,fun x hx=>by
   simp at hx
   omega,jI 0 ws⟩
 ·simp [hf0,gZ]
  refine aQ hfl.at (by decide) (by decide) fun k m3 hk hfl3=>?_
  simp [aR]
  rw [mq 0 ws (by omega) (by simp)]
  simp
  rw [mq 1 ws (by omega) (by simp)]
  simp [gL]
  refine aQ hfl3.at (by decide) (by decide) fun k2 m4 hk2 hfl4=>?_
  have hfl:=hfl.trans (hfl3.trans hfl4)
  by_cases hf1:(f:Int)=1
  ·rw [if_pos hf1,sj (by decide) (by decide) (by simp)]
   refine h [⟨1+(k:Int),marks 0 ws,marks 1 ws⟩,⟨(k2:Int),marks 1 ws,marks 0 ws⟩] m4 (by simp) (fun x hx=>?_) hfl
   simp at hx
   rcases hx with rfl | rfl
   ·exact ⟨by show 0≤1+(k:Int); omega,by show 1+(k:Int)≤5; omega,by show (marks 0 ws).length=n; rw [iG]; exact hw,by show (marks 1 ws).length=n; rw [iG]; exact hw,jI 0 ws,jI 1 ws⟩
   ·exact ⟨by show 0≤(k2:Int); omega,by show (k2:Int)≤5; omega,by show (marks 1 ws).length=n; rw [iG]; exact hw,by show (marks 0 ws).length=n; rw [iG]; exact hw,jI 1 ws,jI 0 ws⟩
  ·rw [if_neg hf1,sj (by decide) (by decide) (by simp)]
   exact h [] m4 (by simp) (by simp) hfl
theorem xn {k:Nat} {m:Mem} (h:k < 3):∃ b:Int,0≤b∧b≤5∧gIx (.lst [.int 2,.int 3,.int 5]) (.int (k:Nat)) m=.ok (.int b) m:=by
 have:k=0∨k=1∨k=2:=by omega
 rcases this with rfl | rfl | rfl
 ·exact ⟨2,by decide,by decide,rfl⟩
 ·exact ⟨3,by decide,by decide,rfl⟩
 ·exact ⟨5,by decide,by decide,rfl⟩
theorem rB {m:Mem} {i:Nat} {c:Int} {P:D→Mem→Prop} (hf:FlowAt m i) (hc0:0 < c) (hc:c≤5) (h:∀ (y:Yar) m',OkYar y→1≤y.d.length→(y.d.length:Int)≤c→y.h.length≤5→(∀ x∈y.h,OkHea y.d.length 5 x)→Flo m m' i→P (aS y) m'):Tri (cX [.ref i,.int c] m) P:=by
 refine aZ rfl ?_
 simp [jW]
 refine aQ hf hc0 (by omega) fun k m1 hk hfl=>?_
 simp [iE]
 have hn:1+(k:Int)=((1+k:Nat):Int):=by simp
 rw [hn]
 generalize hN:1+k=n
 have hi:m1.length≠i:=by have:=hfl.at.lt; omega
 have h1:m.length≤m1.length:=hfl.2.1
 have hfl:=hfl.push (.lst [])
 have hc1:(m1++[Cell.lst []])[m1.length]?=some (.lst []):=by simp
 generalize m1++[Cell.lst []]=m2 at hfl hc1
 simp [iH]
 refine aQ hfl.at (by decide) (by decide) fun t m3 ht hfl3=>?_
 have hc3:=hfl3.get hi hc1
 have hfl:=hfl.trans hfl3
 simp [-bC,b9 (n:=t) (by omega)]
 refine xq (m0:=m) (i:=i) (j:=m1.length) bA (OkHea n 5) (fun η=>∃ e4,η=[some (.ref i),some (.int c),some (.int (n:Nat)),some (.ref m1.length),e4]) hfl hc3 ⟨_,rfl⟩ ?_ ?_
 ·rintro d η m' as hd ⟨e4,rfl⟩ hfl' hc' hP hlt
  simp at hlt
  simp [cu hc']
  refine aQ hfl'.at (by decide) (by decide) fun s m4 hs hfl4=>?_
  obtain ⟨b,hb0,hb5,hix⟩:=xn (k:=s) (m:=m4) (by omega)
  simp [hix]
  refine wx hfl4.at (by omega) hb0 (by omega) fun x m5 hx hfl5=>?_
  have hfl5':=hfl4.trans hfl5
  have hc5:=hfl5'.get hi hc'
  simp [cO hc5 (by simp; omega)]
  exact ⟨x,hx.mono hb5,(hfl'.trans hfl5').put h1 hi _,by rw [List.getElem?_set_self (List.getElem?_eq_some_iff.mp hc5).1]⟩
 ·rintro η m' as ⟨e4,rfl⟩ hfl' hc' hP hlen
  simp at hlen
  simp [iJ]
  refine kP hfl'.at (by omega) fun ns m4 hnl hns hfl4=>?_
  refine oC hfl4.at (by omega) fun xs m5 hxl hxs hfl5=>?_
  have hc5:=(hfl4.trans hfl5).get hi hc'
  rw [zh (yt hc5) (y5 _ _) (by simp; omega)]
  simp only [bK,bV]
  rw [←List.map_append]
  refine rD bA _ (as++xs) hfl5.at rfl (by simp) (fun m' _=>by simp) (by simp; omega) fun ys m6 hp hfl6=>?_
  have hmem:∀ x∈ys,OkHea ns.length 5 x:=by
   intro x hx
   rw [hnl]
   rcases List.mem_append.mp (hp.mem_iff.mp hx) with hx | hx
   ·exact hP x hx
   ·exact hxs x hx
  have hyl:ys.length≤5:=by rw [hp.length_eq,List.length_append]; omega
  simp
  exact h ⟨ns,ys⟩ m6 ⟨hns,by show ns.length≤5; omega,fun x hx=>(hmem x hx).mono (by decide),by show ys.length≤12; omega⟩ (by show 1≤ns.length; omega) (by show (ns.length:Int)≤c; omega) hyl hmem (hfl'.trans (hfl4.trans (hfl5.trans hfl6)))
theorem pe {m:Mem} {n:Nat} {d:D} (h:nrm m n d=some d):bc n [d,d] m=.ok (.bl true) m:=r9 n d d d h h
theorem v9 {m:Mem} {i:Nat} {P:D→Mem→Prop} (hf:FlowAt m i) (h:∀ (x:Str) m',Nm x→Flo m m' i→P (.str x) m'):Tri (fq [.ref i] m) P:=by
 refine aZ rfl ?_
 simp [nC,xY,kA]
 refine aQ hf (by decide) (by decide) fun k m1 hk hfl=>?_
 have hn:1+(k:Int)=((1+k:Nat):Int):=by simp
 simp [-bC]
 rw [hn,b9 (n:=1+k) (by omega)]
 simp
 refine (mQ (n:=1+k) hfl.at (by omega) (fun d=>rfl) (fun d=>rfl)).mono ?_
 rintro _ m2 ⟨cs,rfl,hcs,hlet,hfl2⟩
 have hfl:=hfl.trans hfl2
 simp [mB (m:=m2) (cs:=cs) (by omega),ku,td]
 by_cases hk:SX.S cs∈keptW
 ·have hkl:=sV hk
  rw [SX.S_len] at hkl
  have e1:cutS (SX.S cs) none (some (-1))=SX.S cs.dropLast:=by
   unfold cutS
   rw [SX.S_len]
   have h1:HT.sIx cs.length 0 none=0:=rfl
   have h2:HT.sIx cs.length cs.length (some (-1))=cs.length - 1:=by
    unfold HT.sIx
    simp
    omega
   rw [h1,h2]
   show SX.S _=_
   congr 1
   simp [List.dropLast_eq_take]
  have a1:=fun m=>jC (al:=false) (m:=m) (x:=SX.S cs.dropLast) (y:=SX.S [113]) (by rw [SX.S_len,SX.S_len,List.length_dropLast,List.length_singleton]; omega)
  simp [hk,ug (x:=SX.S cs) (m:=m2) (by rw [SX.S_len]; omega),e1,q_S,a1,iw]
  rw [n8]
  refine h _ m2 ?_ hfl
  simp only [keptW,List.mem_cons,List.not_mem_nil,or_false] at hk
  have go:∀ (w:String) (l:List Nat),Str.ofString w=SX.S l→Nm (SX.S (l.dropLast++[113]))→SX.S cs=Str.ofString w→Nm (SX.S (cs.dropLast++[113])):=fun w l e n q=>by
   rw [e] at q
   rw [SX.S_inj q]
   exact n
  rcases hk with q | q | q | q | q
  ·exact go "deeds" [100,101,101,100,115] (by decide +kernel) ⟨by decide,by decide,by decide,by decide +kernel⟩ q
  ·exact go "room" [114,111,111,109] (by decide +kernel) ⟨by decide,by decide,by decide,by decide +kernel⟩ q
  ·exact go "heap" [104,101,97,112] (by decide +kernel) ⟨by decide,by decide,by decide,by decide +kernel⟩ q
  ·exact go "map" [109,97,112] (by decide +kernel) ⟨by decide,by decide,by decide,by decide +kernel⟩ q
  ·exact go "yard" [121,97,114,100] (by decide +kernel) ⟨by decide,by decide,by decide,by decide +kernel⟩ q
 ·simp [hk,iw]
  exact h _ m2 ⟨by rw [SX.S_len]; omega,by rw [SX.S_len]; omega,hlet,hk⟩ hfl
theorem y9:Nms []:=⟨by simp,.nil⟩
theorem qb {m:Mem} {i:Nat} {P:D→Mem→Prop} (hf:FlowAt m i) (h:∀ (y:Yar) m',OkYar y→Flo m m' i→P (aS y) m'):Tri (cG [.ref i] m) P:=by
 refine aZ rfl ?_
 simp [jw]
 refine aQ hf (by decide) (by decide) fun f m1 hf8 hfl=>?_
 simp [hV]
 by_cases h0:f=0
 ·simp [h0]
  refine aQ hfl.at (by decide) (by decide) fun n m2 hn hfl2=>?_
  refine kP hfl2.at (by omega) fun ns m3 hnl hns hfl3=>?_
  exact h ⟨ns,[]⟩ m3 ⟨hns,by show ns.length≤5; omega,by simp,by simp⟩ (hfl.trans (hfl2.trans hfl3))
 ·simp [h0,hX]
  by_cases h1:(f:Int)=1
  ·simp [h1]
   refine aQ hfl.at (by decide) (by decide) fun n m2 hn hfl2=>?_
   simp [-bC,b9 (n:=n) (by omega)]
   refine (j9 bA (OkHea 0 50) hfl2.at (by simp; omega) ?_).mono ?_
   ·intro d m' hd hfl'
    simp [aR]
    refine aQ hfl'.at (by decide) (by decide) fun k m3 hk hfl3=>?_
    exact ⟨⟨(k:Int),[],[]⟩,rfl,⟨by show 0≤(k:Int); omega,by show (k:Int)≤50; omega,rfl,rfl,by simp,by simp⟩,hfl'.trans hfl3⟩
   ·rintro _ m' ⟨as,rfl,hl,hP,hfl'⟩
    simp at hl
    exact h ⟨[],as⟩ m' ⟨y9,by simp,hP,by show as.length≤12; omega⟩ (hfl.trans (hfl2.trans hfl'))
  ·simp [h1,g8]
   refine (rB (c:=5) hfl.at (by decide) (by decide) fun y m2 hy _ _ _ _ hfl2=>?_)
   exact h y m2 hy (hfl.trans hfl2)
theorem we (xs:List D) (n:Nat):cutD xs none (some (n:Nat))=xs.take n:=by
 unfold cutD
 rw [HT.sIx_nat]
 show (xs.drop 0).take (min n xs.length - 0)=_
 rw [List.drop_zero,Nat.sub_zero]
 by_cases h:n≤xs.length
 ·rw [Nat.min_eq_left h]
 ·rw [Nat.min_eq_right (by omega),List.take_of_length_le (Nat.le_refl _),List.take_of_length_le (by omega)]
end Y
end Mir
namespace Mir
open PySem PySem.Spec PyProof.Rows L2
theorem nB {z:Str}:∀ {ys:List Str},z∈ys→∃ j,eD z ys=some j∧j < ys.length∧ys[j]?=some z
 | [],h=>by simp at h
 | y ::ys,h=>by
  unfold eD
  by_cases e:y=z
  ·exact ⟨0,by rw [if_pos e],by simp,by simp [e]⟩
  ·have h:z∈ys:=by
    rcases List.mem_cons.mp h with h | h
    ·exact absurd h.symm e
    ·exact h
   obtain ⟨j,h1,h2,h3⟩:=nB h
   exact ⟨j+1,by rw [if_neg e,h1]; rfl,by simp; omega,by simpa using h3⟩
def ixS (ys:List Str) (z:Str):Nat:=(eD z ys).getD 0
theorem fG {z:Str} {ys:List Str} (h:z∈ys):eD z ys=some (ixS ys z)∧ixS ys z < ys.length∧ys[ixS ys z]?=some z:=by
 obtain ⟨j,h1,h2,h3⟩:=nB h
 unfold ixS
 rw [h1]
 exact ⟨rfl,h2,h3⟩
theorem vB (ys:List Str):aF strOf (ys.map .str)=some ys:=by
 have:=cL (f:=strOf) (g:=D.str) (h:=id) (fun _=>rfl) ys
 rw [List.map_id] at this
 exact this
theorem mG {z:Str} {ys:List Str} {m:Mem} (h:z∈ys):fX (.tup (ys.map .str)) [.str z] m=.ok (.int ((ixS ys z:Nat):Int)) m:=by
 unfold fX
 simp only [vB,Option.bind_some,(fG h).1]
theorem oU (z:Str):∀ ys:List Str,(ys.map V.str).findIdx? (fun w=>eqV w (.str z))=eD z ys
 | []=>rfl
 | y ::ys=>by
  rw [List.map_cons,List.findIdx?_cons,oU z ys]
  show _=(if y=z then some 0 else (eD z ys).map (·+1))
  have e:eqV (.str y) (.str z)=decide (y=z):=by
   show (y ==z)=_
   by_cases q:y=z
   ·simp [q]
   ·simp [q]
  rw [e]
  by_cases q:y=z
  ·simp [q]
  ·simp [q]
theorem qf {z:Str} {ys:List Str} {m:Mem} (h:z∈ys):cB (.lst (ys.map .str)) [.str z] m=.ok (.int ((ixS ys z:Nat):Int)) m:=by
 have e:jv (.str z) (ys.map .str)=some (ixS ys z):=by
  unfold jv
  simp only [cn,qx,oU,(fG h).1]
 unfold cB
 simp only [ba,e]
theorem tR {α β:Type}:∀ (l:List α) (r:List β),(l.zip r).map Prod.swap=r.zip l
 | [],r=>by simp
 | a ::l,[]=>by simp
 | a ::l,b ::r=>by simp [tR l r]
def tk (h:Hea) (k:Nat):Int:=h.t.getD k 0
def lk (h:Hea) (k:Nat):Int:=h.l.getD k 0
theorem gM {xs:List Int} {k:Nat} (h:k < xs.length) (m:Mem):gIx (iT xs) (.int (k:Nat)) m=.ok (.int (xs.getD k 0)) m:=by
 refine gb (Y.atI_nat ?_)
 rw [List.getElem?_map,List.getElem?_eq_getElem h,List.getD_eq_getElem?_getD,List.getElem?_eq_getElem h]
 rfl
theorem sJ {xs:List Str} {k:Nat} {x:Str} (h:xs[k]?=some x) (m:Mem):gIx (sT xs) (.int (k:Nat)) m=.ok (.str x) m:=by
 refine gb (Y.atI_nat ?_)
 rw [List.getElem?_map,h]
 rfl
def Fit (n:Nat) (hs:List Hea):Prop:=∀ h∈hs,h.t.length=n∧h.l.length=n
theorem OkYar.fit {y:Yar} (h:OkYar y):Fit y.d.length y.h:=fun x hx=>⟨(h.hp x hx).tl,(h.hp x hx).ll⟩
def bE (hs:List Hea) (st:List Int) (k:Nat):Bool:=(st.zip hs).all fun p=>decide (tk p.2 k≤p.1)
def aM (hs:List Hea) (st:List Int) (k:Nat):List Int:=(st.zip hs).map fun p=>p.1 - tk p.2 k+lk p.2 k
def eB (y:Yar) (st:List Int) (d:Str):Bool:=decide (d∈y.d) && bE y.h st (ixS y.d d)
theorem oG (hs:List Hea) (st:List Int) (k:Nat):(hs.zip st).all (fun p=>decide (tk p.1 k≤p.2))=bE hs st k:=by
 unfold bE
 rw [←tR,List.all_map]
 rfl
theorem rV (hs:List Hea) (st:List Int) (k:Nat):(hs.zip st).map (fun p=>p.2 - tk p.1 k+lk p.1 k)=aM hs st k:=by
 unfold aM
 rw [←tR,List.map_map]
 rfl
namespace Y
theorem tU {hs:List Hea} {st:List Int} {k n:Nat} {m:Mem} (hf:Fit n hs) (hk:k < n) (hl:hs.length≤1000):cw [.tup (hs.map bA),iT st,.int (k:Nat)] m=.ok (.bl (bE hs st k)) m:=by
 have key:Tri (cw [.tup (hs.map bA),iT st,.int (k:Nat)] m) (fun d m'=>d=.bl (bE hs st k)∧m'=m):=by
  refine aZ rfl ?_
  simp [jU,iT,-List.length_map]
  rw [jK,b4 (fun p:Hea×Int=>D.tup [bA p.1,.int p.2]) (fun p=>D.bl (decide (tk p.1 k≤p.2))) (hs.zip st) [] (fun p hp=>by
   have hh:=hf p.1 (List.of_mem_zip hp).1
   have e1:=fun m=>gM (xs:=p.1.t) (k:=k) (by omega) m
   refine ⟨_,rfl,rfl,?_⟩
   simp [aR,bA,e1,tk]) (by simp; omega)]
  have e2:(hs.zip st).map (fun p=>D.bl (decide (tk p.1 k≤p.2)))=((hs.zip st).map fun p=>decide (tk p.1 k≤p.2)).map .bl:=by rw [List.map_map]; rfl
  simp only [List.nil_append,bK,gR,bV,e2,fL]
  rw [List.all_map]
  refine ⟨?_,trivial⟩
  rw [←oG]
  rfl
 obtain ⟨d,m',e,rfl,rfl⟩:=key.ex
 exact e
theorem u4 {hs:List Hea} {st:List Int} {k n:Nat} {m:Mem} (hf:Fit n hs) (hk:k < n) (hl:hs.length≤1000):eP [.tup (hs.map bA),iT st,.int (k:Nat)] m=.ok (iT (aM hs st k)) m:=by
 have key:Tri (eP [.tup (hs.map bA),iT st,.int (k:Nat)] m) (fun d m'=>d=iT (aM hs st k)∧m'=m):=by
  refine aZ rfl ?_
  simp [o9,iT,-List.length_map]
  rw [jK,b4 (fun p:Hea×Int=>D.tup [bA p.1,.int p.2]) (fun p=>D.int (p.2 - tk p.1 k+lk p.1 k)) (hs.zip st) [] (fun p hp=>by
   have hh:=hf p.1 (List.of_mem_zip hp).1
   have e1:=fun m=>gM (xs:=p.1.t) (k:=k) (by omega) m
   have e2:=fun m=>gM (xs:=p.1.l) (k:=k) (by omega) m
   refine ⟨_,rfl,rfl,?_⟩
   simp [aR,bA,e1,e2,tk,lk]) (by simp; omega)]
  simp only [List.nil_append,bK,gR,bV,oP]
  refine ⟨?_,trivial⟩
  rw [←rV,List.map_map]
  rfl
 obtain ⟨d,m',e,rfl,rfl⟩:=key.ex
 exact e
theorem jm {y:Yar} {m:Mem} (hl:y.h.length≤1000):cq [aS y] m=.ok (iT (y.h.map Hea.s)) m:=by
 have key:Tri (cq [aS y] m) (fun d m'=>d=iT (y.h.map Hea.s)∧m'=m):=by
  refine aZ rfl ?_
  simp [mS,aS]
  rw [b4 bA (fun h=>D.int h.s) y.h [] (fun h _=>⟨_,rfl,rfl,by simp [aR,bA]⟩) (by simp; omega)]
  simp [iT]
 obtain ⟨d,m',e,rfl,rfl⟩:=key.ex
 exact e
theorem xy {y:Yar} {m:Mem} (hl:y.h.length≤1000):dI [aS y] m=.ok (iT (y.h.map Hea.s)) m:=jm hl
theorem kK {y:Yar} {st:List Int} {d:Str} {m:Mem} (hf:Fit y.d.length y.h) (hl:y.h.length≤1000):cP [aS y,iT st,.str d] m=.ok (.bl (eB y st d)) m:=by
 have key:Tri (cP [aS y,iT st,.str d] m) (fun r m'=>r=.bl (eB y st d)∧m'=m):=by
  refine aZ rfl ?_
  simp [oN,lQ,aS,sT,iL]
  by_cases h:d∈y.d
  ·simp [h,qf h,tU hf (fG h).2.1 hl,eB]
  ·simp [h,eB]
 obtain ⟨r,m',e,rfl,rfl⟩:=key.ex
 exact e
theorem qm {y:Yar} {st:List Int} {d:Str} {m:Mem} (hf:Fit y.d.length y.h) (hl:y.h.length≤1000) (h:d∈y.d):dQ [aS y,iT st,.str d] m=.ok (iT (aM y.h st (ixS y.d d))) m:=by
 have key:Tri (dQ [aS y,iT st,.str d] m) (fun r m'=>r=iT (aM y.h st (ixS y.d d))∧m'=m):=by
  refine aZ rfl ?_
  simp [qE,aS,sT,qf h,u4 hf (fG h).2.1 hl]
 obtain ⟨r,m',e,rfl,rfl⟩:=key.ex
 exact e
theorem v5 {y:Yar} {st:List Int} {d:Str} {m:Mem} (hf:Fit y.d.length y.h) (hl:y.h.length≤1000):i7 [aS y,iT st,.str d] m=.ok (.bl (eB y st d)) m:=by
 have key:Tri (i7 [aS y,iT st,.str d] m) (fun r m'=>r=.bl (eB y st d)∧m'=m):=by
  refine aZ rfl ?_
  simp [x8,tQ,aS,sT,iL]
  by_cases h:d∈y.d
  ·have hk:=(fG h).2.1
   simp [h,tx,mG h,tq,iT,-List.length_map]
   rw [jK,b4 (fun p:Int×Hea=>D.tup [.int p.1,bA p.2]) (fun p=>D.bl (decide (tk p.2 (ixS y.d d)≤p.1))) (st.zip y.h) [] (fun p hp=>by
    have hh:=hf p.2 (List.of_mem_zip hp).2
    have e1:=fun m=>gM (xs:=p.2.t) (k:=ixS y.d d) (by omega) m
    refine ⟨_,rfl,rfl,?_⟩
    simp [aR,bA,e1,tk]) (by simp; omega)]
   have e2:(st.zip y.h).map (fun p=>D.bl (decide (tk p.2 (ixS y.d d)≤p.1)))=((st.zip y.h).map fun p=>decide (tk p.2 (ixS y.d d)≤p.1)).map .bl:=by rw [List.map_map]; rfl
   simp only [List.nil_append,bK,gR,bV,e2,fL]
   rw [List.all_map]
   refine ⟨?_,trivial⟩
   unfold eB bE
   simp [h]
  ·simp [h,eB]
 obtain ⟨r,m',e,rfl,rfl⟩:=key.ex
 exact e
theorem vx {y:Yar} {st:List Int} {d:Str} {m:Mem} (hf:Fit y.d.length y.h) (hl:y.h.length≤1000) (h:d∈y.d):i9 [aS y,iT st,.str d] m=.ok (iT (aM y.h st (ixS y.d d))) m:=by
 have key:Tri (i9 [aS y,iT st,.str d] m) (fun r m'=>r=iT (aM y.h st (ixS y.d d))∧m'=m):=by
  refine aZ rfl ?_
  have hk:=(fG h).2.1
  simp [xS,su,aS,sT,mG h,tO,iT,-List.length_map]
  rw [jK,b4 (fun p:Int×Hea=>D.tup [.int p.1,bA p.2]) (fun p=>D.int (p.1 - tk p.2 (ixS y.d d)+lk p.2 (ixS y.d d))) (st.zip y.h) [] (fun p hp=>by
   have hh:=hf p.2 (List.of_mem_zip hp).2
   have e1:=fun m=>gM (xs:=p.2.t) (k:=ixS y.d d) (by omega) m
   have e2:=fun m=>gM (xs:=p.2.l) (k:=ixS y.d d) (by omega) m
   refine ⟨_,rfl,rfl,?_⟩
   simp [aR,bA,e1,e2,tk,lk]) (by simp; omega)]
  simp [aM,iT]
 obtain ⟨r,m',e,rfl,rfl⟩:=key.ex
 exact e
theorem rb {m:Mem} {i:Nat} {y:Yar} {P:D→Mem→Prop} (hf:FlowAt m i) (hy:OkYar y) (h:∀ (x:Str) m',Flo m m' i→P (.str x) m'):Tri (cY [.ref i,aS y] m) P:=by
 refine aZ rfl ?_
 have hlast:∀ m1,Flo m m1 i→TriS (fJ [some (.ref i),some (aS y)] m1) (fun _ _=>False) P:=by
  intro m1 hfl
  simp [fJ]
  refine v9 hfl.at fun x m2 _ hfl2=>?_
  refine aQ hfl2.at (by decide) (by decide) fun k m3 hk hfl3=>?_
  have:k=0∨k=1∨k=2:=by omega
  rcases this with rfl | rfl | rfl
  ·simp; exact h _ _ (hfl.trans (hfl2.trans hfl3))
  ·simp; exact h _ _ (hfl.trans (hfl2.trans hfl3))
  ·simp; exact h _ _ (hfl.trans (hfl2.trans hfl3))
 have fin:∀ {N:au→Mem→Prop} {r:RS} {Q:D→Mem→Prop},TriS r (fun _ _=>False) Q→TriS r N Q:=fun h=>h.mono (fun _ _ z=>z.elim) (fun _ _ z=>z)
 by_cases h0:0 < y.d.length
 ·simp [gV,aS,sT,h0]
  refine aQ hf (by decide) (by decide) fun k m1 hk hfl=>?_
  by_cases hk0:0 < k
  ·simp [hk0]
   refine aQ hfl.at (by omega) (by have:=hy.few; omega) fun t m2 ht hfl2=>?_
   have ht:t < y.d.length:=by omega
   have e:=sJ (xs:=y.d) (List.getElem?_eq_getElem ht) m2
   unfold sT at e
   rw [e]
   exact h _ _ (hfl.trans hfl2)
  ·have:k=0:=by omega
   subst this
   simp
   exact fin (hlast m1 hfl)
 ·simp [gV,aS,sT,h0]
  exact fin (hlast m (Flo.refl hf))
end Y
end Mir
namespace Mir
open PySem PySem.Spec PyProof.Rows L2
abbrev aB:=List (List (Option Nat))
structure Cha where
 n:List Str
 r:aB
def oD:Option Nat→D
 | none=>.non
 | some k=>.int (k:Nat)
def bg (r:List (Option Nat)):D:=.tup (r.map oD)
def bT (c:Cha):D:=.tup [sT c.n,.tup (c.r.map bg)]
def way (r:aB) (a k b:Nat):Prop:=∃ x,r[a]?=some x∧x[k]?=some (some b)
inductive Com (r:aB):Nat→Prop
 | zero:Com r 0
 | step {a k b:Nat}:Com r a→way r a k b→Com r b
structure dS (w:Nat) (r:aB):Prop where
 pos:0 < r.length
 wid:∀ x∈r,x.length=w
 rng:∀ a k b,way r a k b→b < r.length
 com:∀ b,b < r.length→Com r b
 deed:∀ k,k < w→∃ a b,way r a k b
structure uV (c:Cha):Prop where
 nms:Nms c.n
 rows:dS c.n.length c.r
theorem xW (k:Nat):∀ {xs:List Nat},k∈xs→(xs.map fun i=>V.int (i:Nat)).findIdx? (fun w=>eqV w (.int (k:Nat)))=some (xs.idxOf k)
 | [],h=>by simp at h
 | x ::xs,h=>by
  rw [List.map_cons,List.findIdx?_cons,List.idxOf_cons]
  have e:eqV (.int (x:Nat)) (.int (k:Nat))=decide (x=k):=by
   show ((x:Int) ==(k:Int))=_
   by_cases q:x=k
   ·simp [q]
   ·have:¬ ((x:Int)=(k:Int)):=by omega
    simp [q,this]
  rw [e]
  by_cases q:x=k
  ·simp [q]
  ·have h:k∈xs:=by
    rcases List.mem_cons.mp h with h | h
    ·exact absurd h.symm q
    ·exact h
   rw [xW k h]
   have e2:(x ==k)=false:=by simp [q]
   simp [q,e2]
theorem qQ (xs:List Nat):aF cn (xs.map fun i=>D.int (i:Nat))=some (xs.map fun i=>V.int (i:Nat)):=cL (f:=cn) (g:=fun i:Nat=>D.int (i:Nat)) (h:=fun i:Nat=>V.int (i:Nat)) (fun _=>rfl) xs
theorem uR {k:Nat} {xs:List Nat} {m:Mem} (h:k∈xs):cB (.lst (xs.map fun i=>D.int (i:Nat))) [.int (k:Nat)] m=.ok (.int ((xs.idxOf k:Nat):Int)) m:=by
 have e:jv (.int (k:Nat)) (xs.map fun i=>D.int (i:Nat))=some (xs.idxOf k):=by
  unfold jv
  simp only [cn,qQ,xW k h]
 unfold cB
 simp only [ba,e]
def rAt (r:aB) (a:Nat):List (Option Nat):=r.getD a []
theorem ml {r:aB} {a:Nat} {x:List (Option Nat)} (h:r[a]?=some x):rAt r a=x:=by unfold rAt; rw [List.getD_eq_getElem?_getD,h]; rfl
theorem oZ {r:aB} {a:Nat} (h:a < r.length):rAt r a=r[a]:=ml (List.getElem?_eq_getElem h)
theorem fP {r:aB} {a:Nat} (h:a < r.length):rAt r a∈r:=by rw [oZ h]; exact List.getElem_mem h
def oAt (x:List (Option Nat)) (k:Nat):Option Nat:=x.getD k none
def gi (ord:List Nat) (x:List (Option Nat)):List (Option Nat):=x.map (Option.map fun b=>ord.idxOf b)
def reR (ord:List Nat) (r:aB):aB:=ord.map fun a=>gi ord (rAt r a)
structure Ord (n:Nat) (ord:List Nat):Prop where
 perm:ord.Perm (List.range n)
 head:ord[0]?=some 0
theorem Ord.len {n:Nat} {ord:List Nat} (h:Ord n ord):ord.length=n:=by rw [h.perm.length_eq,List.length_range]
theorem Ord.mem {n:Nat} {ord:List Nat} (h:Ord n ord) {a:Nat}:a∈ord↔a < n:=by rw [h.perm.mem_iff,List.mem_range]
theorem Ord.nd {n:Nat} {ord:List Nat} (h:Ord n ord):ord.Nodup:=h.perm.symm.nodup List.nodup_range
theorem Ord.get {n:Nat} {ord:List Nat} (h:Ord n ord) {a:Nat} (ha:a < n):ord[ord.idxOf a]?=some a:=by
 have hl:=List.idxOf_lt_length_iff.mpr (h.mem.mpr ha)
 rw [List.getElem?_eq_getElem hl,List.getElem_idxOf]
theorem Ord.idx {n:Nat} {ord:List Nat} (h:Ord n ord) {j a:Nat} (e:ord[j]?=some a):ord.idxOf a=j:=by
 obtain ⟨hj,rfl⟩:=List.getElem?_eq_some_iff.mp e
 exact h.nd.idxOf_getElem j hj
theorem tH (o:Option Nat):isNon (oD o)=o.isNone:=by cases o<;>rfl
theorem kN {r:aB} {a:Nat} (h:a < r.length) (m:Mem):gIx (.tup (r.map bg)) (.int (a:Nat)) m=.ok (bg (rAt r a)) m:=by
 refine gb (Y.atI_nat ?_)
 rw [List.getElem?_map,oZ h,List.getElem?_eq_getElem h]
 rfl
theorem pG {x:List (Option Nat)} {k:Nat} (h:k < x.length) (m:Mem):gIx (bg x) (.int (k:Nat)) m=.ok (oD (oAt x k)) m:=by
 refine gb (Y.atI_nat ?_)
 unfold oAt
 rw [List.getElem?_map,List.getD_eq_getElem?_getD,List.getElem?_eq_getElem h]
 rfl
theorem iA:∀ (n:Nat) (l:List Nat),l.Nodup→(∀ a∈l,a < n)→l.length≤n
 | 0,l,_,h=>by
  cases l with
  | nil=>simp
  | cons a r=>exact absurd (h a List.mem_cons_self) (by omega)
 | n+1,l,nd,h=>by
  have h1:=iA n (l.erase n) (nd.erase n) (fun a ha=>by
   have h2:=h a (List.mem_of_mem_erase ha)
   have h3:a≠n:=(List.Nodup.mem_erase_iff nd |>.mp ha).1
   omega)
  have h2:l.length≤(l.erase n).length+1:=by
   rw [List.length_erase]
   split<;>omega
  omega
theorem vq {n:Nat} {l:List Nat} (nd:l.Nodup) (h:∀ a∈l,a < n) (hl:l.length=n) {b:Nat} (hb:b < n):b∈l:=by
 refine Classical.byContradiction fun hn=>?_
 have:=iA n (b ::l) (List.nodup_cons.mpr ⟨hn,nd⟩) (fun a ha=>by
  rcases List.mem_cons.mp ha with e | e
  ·rw [e]; exact hb
  ·exact h a e)
 simp at this
 omega
theorem vo {n:Nat} (h:n≤1000000):n < te:=by
 unfold te
 exact Nat.lt_of_lt_of_le (show n < 10^7 by omega) (Nat.pow_le_pow_right (by decide) (by decide))
theorem qA {t:TM} {body:SM} {η:au} {m:Mem} {N:au→Mem→Prop} {Rt:D→Mem→Prop} (I:Nat→au→Mem→Prop) (n:Nat) (hn:n≤1000000) (h0:I n η m)
  (h:∀ n η m,I n η m→Tri (t η m) (fun b m1=>if b=true then TriS (body η m1) (fun η2 m2=>∃ k,k < n∧I k η2 m2) Rt else N η m1)):TriS (pq t body η m) N Rt:=
 wd I h te n η m (vo hn) h0
def Kp (m m':Mem):Prop:=m.length≤m'.length∧∀ j,j < m.length→m'[j]?=m[j]?
theorem Kp.refl (m:Mem):Kp m m:=⟨Nat.le_refl _,fun _ _=>rfl⟩
theorem Kp.trans {m m1 m2:Mem} (h:Kp m m1) (k:Kp m1 m2):Kp m m2:=⟨Nat.le_trans h.1 k.1,fun j hj=>(k.2 j (Nat.lt_of_lt_of_le hj h.1)).trans (h.2 j hj)⟩
theorem Kp.push {m m':Mem} (h:Kp m m') (c:Cell):Kp m (m'++[c]):=⟨by rw [List.length_append]; exact Nat.le_trans h.1 (Nat.le_add_right _ _),fun j hj=>by rw [List.getElem?_append_left (Nat.lt_of_lt_of_le hj h.1)]; exact h.2 j hj⟩
theorem Kp.put {m m':Mem} (h:Kp m m') {j:Nat} (hj:m.length≤j) (c:Cell):Kp m (m'.set j c):=⟨by rw [List.length_set]; exact h.1,fun k hk=>by rw [List.getElem?_set_ne (by omega)]; exact h.2 k hk⟩
theorem Kp.get {m m':Mem} (h:Kp m m') {j:Nat} {c:Cell} (e:m[j]?=some c):m'[j]?=some c:=(h.2 j (List.getElem?_eq_some_iff.mp e).1).trans e
theorem Kp.flo {m m':Mem} {i:Nat} (h:Kp m m') (hf:FlowAt m i):Flo m m' i:=by
 refine ⟨?_,h.1,fun j _ hj=>h.2 j hj⟩
 obtain ⟨l,e,q⟩:=hf
 exact ⟨l,h.get e,q⟩
theorem Flo.kp {m m1 m2:Mem} {i:Nat} (h:Flo m m1 i) (k:Kp m1 m2):Flo m m2 i:=h.trans (k.flo h.at)
theorem sQ {x:Nat}:∀ ys:List Nat,inV (.int (x:Nat)) (ys.map fun i=>V.int (i:Nat))=decide (x∈ys)
 | []=>rfl
 | y ::ys=>by
  have e:eqV (.int (y:Nat)) (.int (x:Nat))=decide (y=x):=by
   show ((y:Int) ==(x:Int))=_
   by_cases q:y=x
   ·simp [q]
   ·have:¬ ((y:Int)=(x:Int)):=by omega
    simp [q,this]
  have ih:=sQ (x:=x) ys
  unfold inV at ih ⊢
  rw [List.map_cons,List.any_cons,ih,e]
  by_cases q:y=x
  ·simp [q]
  ·have:¬ (x=y):=fun z=>q z.symm
   simp [q,this]
theorem si {x:Nat} {ys:List Nat} {neg:Bool} {m:Mem} {j:Nat} (h:m[j]?=some (.lst (ys.map fun i=>D.int (i:Nat)))):gIn neg (.int (x:Nat)) (.ref j) m=.ok (.bl (decide (x∈ys)^^neg)) m:=by
 have e:ba m (.ref j)=some (ys.map fun i=>D.int (i:Nat)):=by simp [ba,h,bW]
 show bR neg m (pX m (.int (x:Nat)) (.ref j))=_
 unfold pX
 simp only [e,gT,cn,qQ,sQ,bR]
structure Srch (r:aB) (ord:List Nat):Prop where
 nd:ord.Nodup
 pos:0 < ord.length
 ok:∀ a∈ord,a < r.length∧Com r a
theorem Srch.len {r:aB} {ord:List Nat} (g:Srch r ord):ord.length≤r.length:=iA _ _ g.nd fun a ha=>(g.ok a ha).1
theorem Srch.zero {r:aB} (h:0 < r.length):Srch r [0]:=⟨by simp,by simp,fun a ha=>by
 have:a=0:=by simpa using ha
 rw [this]
 exact ⟨h,.zero⟩⟩
theorem Srch.add {r:aB} {ord:List Nat} (g:Srch r ord) {b:Nat} (hb:b∉ord) (h1:b < r.length) (h2:Com r b):Srch r (ord++[b]):=by
 refine ⟨?_,by simp,fun a ha=>?_⟩
 ·rw [List.nodup_append]
  refine ⟨g.nd,by simp,fun a ha c hc=>?_⟩
  have:c=b:=by simpa using hc
  rw [this]
  exact fun e=>hb (e▸ha)
 ·rcases List.mem_append.mp ha with ha | ha
  ·exact g.ok a ha
  ·have:a=b:=by simpa using ha
   rw [this]
   exact ⟨h1,h2⟩
theorem xI {xs ys:List D} {al:Bool} {m:Mem} (h:xs.length+ys.length≤1000000):bp al (.tup xs) (.tup ys) m=.ok (.tup (xs++ys)) m:=by
 show (if xs.length+ys.length≤sizeLine then R.ok (D.tup (xs++ys)) m else .stk)=_
 rw [if_pos (size_le h)]
theorem zf {xs:List D} {lo hi:Option Int} {m:Mem} (h:xs.length≤1000000):gSl false (.tup xs) lo hi m=.ok (.tup (cutD xs lo hi)) m:=by
 unfold gSl
 rfl
theorem yT {n k:Nat} (h:k < n):ixN n ((k:Nat):Int)=some k:=by
 unfold ixN
 rw [if_pos (by omega),if_pos (by omega)]
 simp
end Mir
namespace Mir
open PySem PySem.Spec PyProof.Rows L2
theorem kj:∀ xs ys:List Int,PyData.eqvAll (xs.map .int) (ys.map .int)=decide (xs=ys)
 | [],[]=>rfl
 | [],y ::ys=>by simp [PyData.eqvAll]
 | x ::xs,[]=>by simp [PyData.eqvAll]
 | x ::xs,y ::ys=>by
  rw [List.map_cons,List.map_cons]
  unfold PyData.eqvAll
  rw [kj xs ys]
  have:PyData.eqv (.int x) (.int y)=decide (x=y):=by
   show (x ==y)=_
   by_cases q:x=y<;>simp [q]
  rw [this]
  by_cases q:x=y<;>by_cases q2:xs=ys<;>simp [q,q2]
theorem tD (m:Mem) (n:Nat) (xs:List Int):toP m (n+2) (iT xs)=some (.tuple (xs.map .int)):=by
 show (aF (toP m (n+1)) (xs.map .int)).map PyData.tuple=_
 rw [cL (f:=toP m (n+1)) (g:=D.int) (h:=PyData.int) (fun _=>rfl) xs]
 rfl
theorem uq (m:Mem) (n:Nat) (sts:List (List Int)):aF (toP m (n+2)) (sts.map iT)=some (sts.map fun st=>.tuple (st.map .int)):=cL (f:=toP m (n+2)) (g:=iT) (h:=fun st=>.tuple (st.map .int)) (fun st=>tD m n st) sts
theorem uE (st:List Int):cn (iT st)=none:=rfl
theorem vA (st:List Int):∀ sts:List (List Int),((sts.map fun st=>PyData.tuple (st.map .int)).any fun z=>PyData.eqv z (.tuple (st.map .int)))=decide (st∈sts)
 | []=>rfl
 | s ::sts=>by
  rw [List.map_cons,List.any_cons,vA st sts]
  have:PyData.eqv (.tuple (s.map .int)) (.tuple (st.map .int))=decide (s=st):=kj s st
  rw [this]
  by_cases q:s=st
  ·simp [q]
  ·have:¬ st=s:=fun e=>q e.symm
   simp [q,this]
theorem ui {st:List Int}:∀ {sts:List (List Int)},st∈sts→(sts.map fun st=>PyData.tuple (st.map .int)).findIdx? (fun z=>PyData.eqv z (.tuple (st.map .int)))=some (sts.idxOf st)
 | [],h=>by simp at h
 | s ::sts,h=>by
  rw [List.map_cons,List.findIdx?_cons,List.idxOf_cons]
  have:PyData.eqv (.tuple (s.map .int)) (.tuple (st.map .int))=decide (s=st):=kj s st
  rw [this]
  by_cases q:s=st
  ·simp [q]
  ·have h:st∈sts:=by
    rcases List.mem_cons.mp h with h | h
    ·exact absurd h.symm q
    ·exact h
   have e2:(s ==st)=false:=by simp [q]
   rw [ui h]
   simp [q,e2]
theorem u6 {st:List Int} {sts:List (List Int)} {neg:Bool} {m:Mem} {j:Nat} (h:m[j]?=some (.lst (sts.map iT))):gIn neg (iT st) (.ref j) m=.ok (.bl (decide (st∈sts)^^neg)) m:=by
 have e:ba m (.ref j)=some (sts.map iT):=by simp [ba,h,bW]
 show bR neg m (pX m (iT st) (.ref j))=_
 unfold pX
 simp only [e,gT,uE,rN,tD,uq,vA,bR]
theorem sF {st:List Int} {sts:List (List Int)} {m:Mem} {j:Nat} (h:m[j]?=some (.lst (sts.map iT))) (hs:st∈sts):cB (.ref j) [iT st] m=.ok (.int ((sts.idxOf st:Nat):Int)) m:=by
 have e:ba m (.ref j)=some (sts.map iT):=by simp [ba,h,bW]
 unfold cB
 simp only [e,jv,uE,tN,tD,uq,ui hs]
structure Wk (hs:List Hea) (st0:List Int) (sts:List (List Int)) (rows:aB):Prop where
 nd:sts.Nodup
 st0:sts[0]?=some st0
 row:∀ (a k:Nat) x o,rows[a]?=some x→x[k]?=some o→∃ st,sts[a]?=some st∧(o=none→bE hs st k=false)∧∀ b,o=some b→bE hs st k=true∧sts[b]?=some (aM hs st k)
 com:∀ b,b < sts.length→b=0∨∃ a k,a < b∧way rows a k b
theorem Wk.mono {hs:List Hea} {st0:List Int} {sts:List (List Int)} {rows:aB} {x:List (Option Nat)} {o:Option Nat} {extra:List (List Int)} (w:Wk hs st0 sts (rows++[x])) {st:List Int} (hst:sts[rows.length]?=some st)
  (hn:o=none→bE hs st x.length=false) (hb:∀ b,o=some b→bE hs st x.length=true∧(sts++extra)[b]?=some (aM hs st x.length)) (hnd:(sts++extra).Nodup) (hc:∀ b,sts.length≤b→b < (sts++extra).length→o=some b) :
  Wk hs st0 (sts++extra) (rows++[x++[o]]):=by
 have up:∀ (b:Nat) s,sts[b]?=some s→(sts++extra)[b]?=some s:=fun b s e=>by
  rw [List.getElem?_append_left (List.getElem?_eq_some_iff.mp e).1]; exact e
 have hr:rows.length < sts.length:=(List.getElem?_eq_some_iff.mp hst).1
 have ways:∀ a k b,way (rows++[x]) a k b→way (rows++[x++[o]]) a k b:=fun a k b ⟨y,e1,e2⟩=>by
  by_cases ha:a < rows.length
  ·rw [List.getElem?_append_left ha] at e1
   exact ⟨y,by rw [List.getElem?_append_left ha]; exact e1,e2⟩
  ·have hl:=(List.getElem?_eq_some_iff.mp e1).1
   simp at hl
   have:a=rows.length:=by omega
   subst this
   simp at e1
   subst e1
   refine ⟨x++[o],by simp,?_⟩
   rw [List.getElem?_append_left (List.getElem?_eq_some_iff.mp e2).1]
   exact e2
 refine ⟨hnd,up _ _ w.st0,fun a k y o' e1 e2=>?_,fun b hb'=>?_⟩
 ·by_cases ha:a < rows.length
  ·rw [List.getElem?_append_left ha] at e1
   obtain ⟨s,h1,h2,h3⟩:=w.row a k y o' (by rw [List.getElem?_append_left ha]; exact e1) e2
   exact ⟨s,up _ _ h1,h2,fun b e=>⟨(h3 b e).1,up _ _ (h3 b e).2⟩⟩
  ·have hl:=(List.getElem?_eq_some_iff.mp e1).1
   simp at hl
   have:a=rows.length:=by omega
   subst this
   simp at e1
   subst e1
   by_cases hk:k < x.length
   ·rw [List.getElem?_append_left hk] at e2
    obtain ⟨s,h1,h2,h3⟩:=w.row rows.length k x o' (by simp) e2
    exact ⟨s,up _ _ h1,h2,fun b e=>⟨(h3 b e).1,up _ _ (h3 b e).2⟩⟩
   ·have hkl:=(List.getElem?_eq_some_iff.mp e2).1
    simp at hkl
    have:k=x.length:=by omega
    subst this
    simp at e2
    subst e2
    exact ⟨st,up _ _ hst,hn,hb⟩
 ·by_cases hl:b < sts.length
  ·rcases w.com b hl with h | ⟨a,k,h1,h2⟩
   ·exact .inl h
   ·exact .inr ⟨a,k,h1,ways _ _ _ h2⟩
  ·refine .inr ⟨rows.length,x.length,by omega,x++[o],by simp,?_⟩
   rw [hc b (by omega) hb']
   simp
theorem Wk.nil {hs:List Hea} {st0:List Int} {sts:List (List Int)} {rows:aB} (w:Wk hs st0 sts rows):Wk hs st0 sts (rows++[[]]):=by
 refine ⟨w.nd,w.st0,fun a k y o' e1 e2=>?_,fun b hb=>?_⟩
 ·by_cases ha:a < rows.length
  ·rw [List.getElem?_append_left ha] at e1
   exact w.row a k y o' e1 e2
  ·have hl:=(List.getElem?_eq_some_iff.mp e1).1
   simp at hl
   have:a=rows.length:=by omega
   subst this
   simp at e1
   subst e1
   simp at e2
 ·rcases w.com b hb with h | ⟨a,k,h1,y,e1,e2⟩
  ·exact .inl h
  ·exact .inr ⟨a,k,h1,y,by rw [List.getElem?_append_left (List.getElem?_eq_some_iff.mp e1).1]; exact e1,e2⟩
def lzR (al:Bool) (x y:D) (m:Mem):R D:=match aO x m,aO y m with
 | some xs,some ys=>mkL al (qc xs ys) m
 | _,_=>.stk
@[simp] theorem Ao (al:Bool) (a b:EM) (η:au) (m:Mem):ot al a b η m=(a η m).bind fun x m1=>(b η m1).bind fun y m2=>lzR al x y m2:=nr rfl
@[simp] theorem zR (al:Bool) (xs ys:List D) (m:Mem):lzR al (.tup xs) (.tup ys) m=mkL al (dq xs ys) m:=nr rfl
def bx (d:Nat) (rows:aB):List Nat:=(List.range d).filter fun k=>rows.any fun x=>(oAt x k).isSome
def nAt (ns:List Str) (k:Nat):Str:=ns.getD k (Str.ofString "")
theorem iP {ns:List Str} {k:Nat} (h:k < ns.length):ns[k]?=some (nAt ns k):=by
 unfold nAt
 rw [List.getD_eq_getElem?_getD,List.getElem?_eq_getElem h]
 rfl
def bI (ns:List Str) (rows:aB):Cha:=⟨(bx ns.length rows).map (nAt ns),rows.map fun x=>(bx ns.length rows).map (oAt x)⟩
theorem kH {x:List (Option Nat)} {k:Nat} {o:Option Nat} (h:x[k]?=some o):oAt x k=o:=by
 unfold oAt
 rw [List.getD_eq_getElem?_getD,h]
 rfl
theorem dy {x:List (Option Nat)} {k:Nat} (h:k < x.length):x[k]?=some (oAt x k):=by
 unfold oAt
 rw [List.getD_eq_getElem?_getD,List.getElem?_eq_getElem h]
 rfl
theorem uz (ns:List Str):(List.range ns.length).map (nAt ns)=ns:=by
 refine List.ext_getElem? fun k=>?_
 by_cases h:k < ns.length
 ·rw [List.getElem?_map,List.getElem?_range h,iP h]
  rfl
 ·rw [List.getElem?_eq_none (by simp; omega),List.getElem?_eq_none (by omega)]
theorem Nms.sub {ns ms:List Str} (h:Nms ns) (s:ms.Sublist ns):Nms ms:=⟨fun x hx=>h.nm x (s.subset hx),h.up.sublist s⟩
theorem Wk.comAll {hs:List Hea} {st0:List Int} {sts:List (List Int)} {rows:aB} (w:Wk hs st0 sts rows):∀ n b,b≤n→b < sts.length→Com rows b
 | 0,b,h,_=>by
  have:b=0:=by omega
  rw [this]; exact .zero
 | n+1,b,h,hb=>by
  rcases w.com b hb with e | ⟨a,k,h1,h2⟩
  ·rw [e]; exact .zero
  ·exact .step (w.comAll n a (by omega) (by omega)) h2
theorem nc {ns:List Str} {hs:List Hea} {st0:List Int} {sts:List (List Int)} {rows:aB} (hn:Nms ns) (w:Wk hs st0 sts rows) (hl:rows.length=sts.length) (hw:∀ x∈rows,x.length=ns.length):uV (bI ns rows):=by
 have rng:∀ a k b,way rows a k b→b < rows.length:=fun a k b ⟨x,e1,e2⟩=>by
  obtain ⟨st,_,_,h3⟩:=w.row a k x _ e1 e2
  rw [hl]
  exact (List.getElem?_eq_some_iff.mp (h3 b rfl).2).1
 have mem:∀ a k b,way rows a k b→k∈bx ns.length rows:=fun a k b ⟨x,e1,e2⟩=>by
  unfold bx
  have hk:=(List.getElem?_eq_some_iff.mp e2).1
  have hx:=List.mem_of_getElem? e1
  rw [List.mem_filter,List.mem_range]
  refine ⟨by rw [←hw x hx]; exact hk,?_⟩
  rw [List.any_eq_true]
  exact ⟨x,hx,by rw [kH e2]; rfl⟩
 have fwd:∀ a k b,way rows a k b→way (bI ns rows).r a ((bx ns.length rows).idxOf k) b:=fun a k b hw'=>by
  have hm:=mem a k b hw'
  obtain ⟨x,e1,e2⟩:=hw'
  refine ⟨(bx ns.length rows).map (oAt x),?_,?_⟩
  ·show (rows.map _)[a]?=_
   rw [List.getElem?_map,e1]; rfl
  ·rw [List.getElem?_map,List.getElem?_eq_getElem (List.idxOf_lt_length_iff.mpr hm),List.getElem_idxOf]
   show some (oAt x k)=_
   rw [kH e2]
 have bwd:∀ a j b,way (bI ns rows).r a j b→∃ k,(bx ns.length rows)[j]?=some k∧way rows a k b:=fun a j b ⟨x',e1,e2⟩=>by
  have e1:(rows.map fun x=>(bx ns.length rows).map (oAt x))[a]?=some x':=e1
  rw [List.getElem?_map] at e1
  cases hx:rows[a]? with
  | none=>rw [hx] at e1; cases e1
  | some x=>
   rw [hx] at e1
   cases e1
   rw [List.getElem?_map] at e2
   cases hk:(bx ns.length rows)[j]? with
   | none=>rw [hk] at e2; cases e2
   | some k=>
    rw [hk] at e2
    have e3:oAt x k=some b:=by simpa using e2
    refine ⟨k,rfl,x,hx,?_⟩
    have hkl:k < x.length:=by
     have:=List.mem_of_getElem? hk
     unfold bx at this
     rw [List.mem_filter,List.mem_range] at this
     rw [hw x (List.mem_of_getElem? hx)]
     exact this.1
    rw [dy hkl,e3]
 have rl:(bI ns rows).r.length=rows.length:=by unfold bI; simp
 have nl:(bI ns rows).n.length=(bx ns.length rows).length:=by unfold bI; simp
 refine ⟨?_,?_⟩
 ·refine hn.sub ?_
  have:List.Sublist (((List.range ns.length).filter fun k=>rows.any fun x=>(oAt x k).isSome).map (nAt ns)) ((List.range ns.length).map (nAt ns)):=List.Sublist.map _ List.filter_sublist
  rw [uz] at this
  exact this
 ·refine ⟨?_,fun x hx=>?_,fun a k b hw'=>?_,fun b hb=>?_,fun j hj=>?_⟩
  ·rw [rl,hl]; exact (List.getElem?_eq_some_iff.mp w.st0).1
  ·have hx:x∈rows.map fun x=>(bx ns.length rows).map (oAt x):=hx
   obtain ⟨z,_,rfl⟩:=List.mem_map.mp hx
   rw [nl,List.length_map]
  ·obtain ⟨k',_,hw2⟩:=bwd a k b hw'
   rw [rl]; exact rng _ _ _ hw2
  ·rw [rl,hl] at hb
   have hc:=w.comAll b b (Nat.le_refl _) hb
   clear hb
   induction hc with
   | zero=>exact .zero
   | step h1 h2 ih=>exact .step ih (fwd _ _ _ h2)
  ·rw [nl] at hj
   have hm:(bx ns.length rows)[j]∈bx ns.length rows:=List.getElem_mem hj
   have hm2:=hm
   unfold bx at hm
   rw [List.mem_filter,List.any_eq_true] at hm
   obtain ⟨_,x,hx,ho⟩:=hm
   obtain ⟨a,ha⟩:=List.mem_iff_getElem?.mp hx
   obtain ⟨b,hb⟩:=Option.isSome_iff_exists.mp ho
   have hk:(bx ns.length rows)[j] < x.length:=by
    unfold bx at hm2
    rw [List.mem_filter,List.mem_range] at hm2
    rw [hw x hx]
    exact hm2.1
   refine ⟨a,b,(bx ns.length rows).map (oAt x),?_,?_⟩
   ·show (rows.map _)[a]?=_
    rw [List.getElem?_map,ha]; rfl
   ·rw [List.getElem?_map,List.getElem?_eq_getElem hj]
    show some (oAt x _)=_
    rw [←hb]
    rfl
end Mir
namespace Mir
open PySem PySem.Spec PyProof.Rows L2
theorem fA {r:aB} {a:Nat} (ha:a < r.length):r[a]?=some (rAt r a):=by rw [oZ ha]; exact List.getElem?_eq_getElem ha
theorem Kp.many {m:Mem} (cs:List Cell):Kp m (m++cs):=⟨by simp,fun j hj=>List.getElem?_append_left hj⟩
end Mir
namespace Mir
open PySem PySem.Spec PyProof.Rows L2
theorem nf {n k:Nat} {d:D} (h:(eM 0 n)[k]?=some d):k < n∧d=.int (k:Nat):=by
 rw [Y.rngD_nat,List.getElem?_map] at h
 have hk:k < n:=by
  cases hq:(List.range n)[k]? with
  | none=>rw [hq] at h; cases h
  | some z=>have:=(List.getElem?_eq_some_iff.mp hq).1; simpa using this
 rw [List.getElem?_range hk] at h
 exact ⟨hk,(Option.some.inj h).symm⟩
end Mir
namespace Mir
namespace Y
open PySem PySem.Spec PyProof.Rows L2 Mir
@[simp] theorem Br (t:Bool) (ck cv:EM) (η:au) (m:Mem):sd t ck cv η m=(ck η (m++[fD t])).bind fun k m1=>(cv η m1).bind fun v m2=>
 if ik t m2[m.length]?=true then (jP (.ref m.length) k v m2).bind fun _ m3=>.ok (.ref m.length) m3 else .stk:=nr rfl
@[simp] theorem BW (co ci cv:EM) (η:au) (m:Mem):vf co ci cv η m=(cv η m).toS fun v m1=>(co η m1).toS fun o m2=>(ci η m2).toS fun i m3=>(jP o i v m3).toS fun _ m4=>.nxt η m4:=nr rfl
theorem pY (st:List Int):lh (iT st)=some st:=cL (f:=intOf) (g:=D.int) (h:=fun x=>x) (fun _=>rfl) st |>.trans (by rw [List.map_id'])
def bS (sts:List (List Int)):List (List Int×D):=sts.zipIdx.map fun p=>(p.1,D.int (p.2:Nat))
theorem xw (sts:List (List Int)) (st:List Int):bS (sts++[st])=bS sts++[(st,.int (sts.length:Nat))]:=by
 unfold bS
 rw [List.zipIdx_append,List.map_append]
 simp
theorem tE (st:List Int):∀ sts:List (List Int),il (bS sts) st=if st∈sts then some (.int ((sts.idxOf st:Nat):Int)) else none:=by
 intro sts
 have key:∀ (sts:List (List Int)) (n:Nat),(((sts.zipIdx n).map fun p=>(p.1,D.int (p.2:Nat))).find? fun kv=>decide (kv.1=st)).map (·.2)=if st∈sts then some (.int ((n+sts.idxOf st:Nat):Int)) else none:=by
  intro sts
  induction sts with
  | nil=>intro n; simp
  | cons x xs ih=>
   intro n
   rw [List.zipIdx_cons,List.map_cons,List.find?_cons]
   by_cases e:x=st
   ·subst e
    simp
   ·have e2:¬ st=x:=fun h=>e h.symm
    simp only [e,decide_false]
    rw [ih (n+1)]
    by_cases h:st∈xs
    ·rw [if_pos h,if_pos (List.mem_cons_of_mem _ h),List.idxOf_cons]
     have:(x ==st)=false:=by simpa using e
     rw [this]
     simp
     omega
    ·rw [if_neg h,if_neg (by simp [e2,h])]
 have:=key sts 0
 simpa [il,bS] using this
theorem xg (st:List Int) (sts:List (List Int)):sG (bS sts) st=decide (st∈sts):=by
 unfold sG bS
 rw [List.any_map]
 have:(List.zipIdx sts).any ((fun kv=>decide (kv.1=st))∘fun p=>(p.1,D.int (p.2:Nat)))=sts.any fun x=>decide (x=st):=by
  have key:∀ (sts:List (List Int)) (n:Nat),(sts.zipIdx n).any ((fun kv=>decide (kv.1=st))∘fun p=>(p.1,D.int (p.2:Nat)))=sts.any fun x=>decide (x=st):=by
   intro sts
   induction sts with
   | nil=>intro n; rfl
   | cons x xs ih=>intro n; rw [List.zipIdx_cons,List.any_cons,List.any_cons,ih]; rfl
  exact key sts 0
 rw [this]
 by_cases h:st∈sts
 ·rw [decide_eq_true h]
  exact List.any_eq_true.mpr ⟨st,h,by simp⟩
 ·rw [decide_eq_false h,List.any_eq_false]
  intro x hx
  simp
  rintro rfl
  exact h hx
theorem xN {st:List Int} {sts:List (List Int)} (h:st∉sts):putD (bS sts) st (.int (sts.length:Nat))=bS (sts++[st]):=by
 unfold putD
 rw [xg,decide_eq_false h,if_neg (by simp),xw]
theorem yh {neg:Bool} {m:Mem} {q:Nat} {sts:List (List Int)} (h:m[q]?=some (.dT (bS sts))) (st:List Int):pH neg (iT st) (.ref q) m=.ok (.bl (decide (st∈sts)^^neg)) m:=by
 unfold pH mw
 simp only [h,pY,Option.map_some,tE]
 by_cases e:st∈sts<;>simp [e]
theorem ti {m:Mem} {q:Nat} {sts:List (List Int)} (h:m[q]?=some (.dT (bS sts))) {st:List Int} (hs:st∈sts):o4 (.ref q) (iT st) m=.ok (.int ((sts.idxOf st:Nat):Int)) m:=by
 unfold o4 mw
 simp only [h,pY,Option.map_some,tE,if_pos hs]
theorem sX {m:Mem} {q:Nat} {sts:List (List Int)} (h:m[q]?=some (.dT (bS sts))) {st:List Int} (hs:st∉sts) (hl:sts.length < 1000000):jP (.ref q) (iT st) (.int (sts.length:Nat)) m=.ok () (m.set q (.dT (bS (sts++[st])))):=by
 unfold jP
 simp only [h,pY]
 rw [if_pos (ie (by simpa [bS] using hl)),xN hs]
def cQ (hs:List Hea) (st:List Int) (sts:List (List Int)) (k:Nat):List (List Int)×Option Nat:=
 if bE hs st k=true then (if aM hs st k∈sts then (sts,some (sts.idxOf (aM hs st k))) else (sts++[aM hs st k],some sts.length)) else (sts,none)
def cj (hs:List Hea) (st:List Int):List Nat→List (List Int)→List (List Int)×List (Option Nat)
 | [],sts=>(sts,[])
 | k ::ks,sts=>((cj hs st ks (cQ hs st sts k).1).1,(cQ hs st sts k).2 ::(cj hs st ks (cQ hs st sts k).1).2)
def stA (sts:List (List Int)) (a:Nat):List Int:=sts.getD a []
def cZ (hs:List Hea) (w most:Nat):Nat→List (List Int)→aB→List (List Int)×aB
 | 0,sts,rows=>(sts,rows)
 | f+1,sts,rows=>if rows.length < sts.length∧sts.length≤most then cZ hs w most f (cj hs (stA sts rows.length) (List.range w) sts).1 (rows++[(cj hs (stA sts rows.length) (List.range w) sts).2]) else (sts,rows)
def aL (y:Yar) (most:Nat):List (List Int)×aB:=cZ y.h y.d.length most most [y.h.map Hea.s] []
theorem mN {hs:List Hea} {w most:Nat} (f:Nat) {sts:List (List Int)} {rows:aB} (h:¬ (rows.length < sts.length∧sts.length≤most)):cZ hs w most f sts rows=(sts,rows):=by
 cases f with
 | zero=>rfl
 | succ f=>unfold cZ; rw [if_neg h]
def RowC (m:Mem) (rs:List D) (rows:aB):Prop:=rs.length=rows.length∧∀ (a:Nat) x,rows[a]?=some x→∃ q,rs[a]?=some (.ref q)∧m[q]?=some (.lst (x.map oD))
theorem RowC.kp {m m':Mem} {rs:List D} {rows:aB} (h:RowC m rs rows) (k:Kp m m'):RowC m' rs rows:=⟨h.1,fun a x e=>by
 obtain ⟨q,h1,h2⟩:=h.2 a x e
 exact ⟨q,h1,k.get h2⟩⟩
theorem RowC.app {m:Mem} {rs:List D} {rows:aB} {x:List (Option Nat)} {q:Nat} (h:RowC m rs rows) (hq:m[q]?=some (.lst (x.map oD))):RowC m (rs++[.ref q]) (rows++[x]):=by
 refine ⟨by simp [h.1],fun a z e=>?_⟩
 by_cases ha:a < rows.length
 ·rw [List.getElem?_append_left ha] at e
  obtain ⟨q',h1,h2⟩:=h.2 a z e
  exact ⟨q',by rw [List.getElem?_append_left (by rw [h.1]; exact ha)]; exact h1,h2⟩
 ·have hl:=(List.getElem?_eq_some_iff.mp e).1
  simp at hl
  have:a=rows.length:=by omega
  subst this
  simp at e
  subst e
  exact ⟨q,by rw [←h.1]; simp,hq⟩
theorem vz (hs:List Hea) (st:List Int) (sts:List (List Int)) (k:Nat):(cQ hs st sts k).1.length≤sts.length+1:=by
 unfold cQ
 split
 ·split<;>simp
 ·simp
theorem sY (hs:List Hea) (st:List Int):∀ (ks:List Nat) (sts:List (List Int)),(cj hs st ks sts).1.length≤sts.length+ks.length∧(cj hs st ks sts).2.length=ks.length
 | [],sts=>⟨by simp [cj],rfl⟩
 | k ::ks,sts=>by
  have h1:=vz hs st sts k
  have h2:=sY hs st ks (cQ hs st sts k).1
  unfold cj
  refine ⟨?_,by simp [h2.2]⟩
  simp only [List.length_cons]
  omega
theorem yO {ys:List Str} (nd:ys.Nodup) {k:Nat} {z:Str} (h:ys[k]?=some z):ixS ys z=k:=by
 obtain ⟨_,h2,h3⟩:=fG (List.mem_of_getElem? h)
 exact (List.getElem?_inj h2 nd).mp (h3.trans h.symm)
theorem gU {m:Mem} {y:Yar} {most:Nat} {P:D→Mem→Prop} (hf:Fit y.d.length y.h) (nd:y.d.Nodup) (hl:y.h.length≤900) (hd:y.d.length≤900) (hm:most≤900)
  (h:∀ m' js jr rs,Kp m m'→m.length≤js→m.length≤jr→m'[js]?=some (.lst ((aL y most).1.map iT))→m'[jr]?=some (.lst rs)→RowC m' rs (aL y most).2→P (.tup [.ref js,.ref jr]) m'):Tri (bQ [aS y,.int (most:Nat)] m) P:=by
 refine aZ rfl ?_
 simp [i5,xy (show y.h.length≤1000 by omega),gJ]
 have g0:gIx (.ref m.length) (.int 0) (m++[Cell.lst [iT (y.h.map Hea.s)],fD true])=.ok (iT (y.h.map Hea.s)) (m++[Cell.lst [iT (y.h.map Hea.s)],fD true]):=cK (l:=[iT (y.h.map Hea.s)]) (by simp) rfl
 rw [g0]
 have e1:(m++[Cell.lst [iT (y.h.map Hea.s)],fD true])[m.length+1]?=some (.dT (bS [])):=by rw [List.getElem?_append_right (by simp)]; simp [fD,bS]
 have e2:ik true (some (.dT (bS [])))=true:=rfl
 have e3:=sX (st:=y.h.map Hea.s) e1 (by simp) (by simp)
 simp only [List.length_nil,Int.ofNat_zero,List.nil_append] at e3
 simp [e1,e2]
 refine ⟨rfl,?_⟩
 rw [e3]
 simp [gG]
 have hs1:(m++[Cell.lst [iT (y.h.map Hea.s)],Cell.dT (bS [y.h.map Hea.s]),Cell.lst []])[m.length]?=some (.lst ([y.h.map Hea.s].map iT)):=by simp
 have hd1:(m++[Cell.lst [iT (y.h.map Hea.s)],Cell.dT (bS [y.h.map Hea.s]),Cell.lst []])[m.length+1]?=some (.dT (bS [y.h.map Hea.s])):=by rw [List.getElem?_append_right (by simp)]; simp
 have hr1:(m++[Cell.lst [iT (y.h.map Hea.s)],Cell.dT (bS [y.h.map Hea.s]),Cell.lst []])[m.length+2]?=some (.lst []):=by rw [List.getElem?_append_right (by simp)]; simp
 have hk1:Kp m (m++[Cell.lst [iT (y.h.map Hea.s)],Cell.dT (bS [y.h.map Hea.s]),Cell.lst []]):=Kp.many _
 have hln:(m++[Cell.lst [iT (y.h.map Hea.s)],Cell.dT (bS [y.h.map Hea.s]),Cell.lst []]).length=m.length+3:=by simp
 generalize m++[Cell.lst [iT (y.h.map Hea.s)],Cell.dT (bS [y.h.map Hea.s]),Cell.lst []]=m1 at hs1 hd1 hr1 hk1 hln
 simp [gO]
 obtain ⟨Inv,hInv⟩:∃ I:Nat→au→Mem→Prop,∀ n η m',I n η m'↔∃ (sts:List (List Int)) (rows:aB) (rs:List D),cZ y.h y.d.length most n sts rows=aL y most∧n+rows.length=most∧rows.length≤sts.length∧sts.length≤1+900*rows.length∧
   (∃ e5 e6 e7 e8 e9,η=[some (aS y),some (.int (most:Nat)),some (.ref m.length),some (.ref (m.length+1)),some (.ref (m.length+2)),e5,e6,e7,e8,e9])∧
   Kp m m'∧m.length+3≤m'.length∧m'[m.length]?=some (.lst (sts.map iT))∧m'[m.length+1]?=some (.dT (bS sts))∧m'[m.length+2]?=some (.lst rs)∧RowC m' rs rows∧∀ (a q:Nat),rs[a]?=some (D.ref q)→m.length+3≤q:=⟨_,fun _ _ _=>Iff.rfl⟩
 refine qA Inv most (by omega) ((hInv _ _ _).mpr ⟨[y.h.map Hea.s],[],[],rfl,by simp,by simp,by simp,⟨_,_,_,_,_,rfl⟩,hk1,by omega,hs1,hd1,hr1,⟨rfl,fun a x e=>by simp at e⟩,fun a q e=>by simp at e⟩) fun n η m' hI=>?_
 obtain ⟨sts,rows,rs,hW,hn,hle,hbig,⟨e5,e6,e7,e8,e9,rfl⟩,hkp,hm3,hs,hdn,hr,hrc,hrq⟩:=(hInv _ _ _).mp hI
 have hend:¬ (rows.length < sts.length∧sts.length≤most)→TriS (eI [some (aS y),some (.int (most:Nat)),some (.ref m.length),some (.ref (m.length+1)),some (.ref (m.length+2)),e5,e6,e7,e8,e9] m') (fun x m=>P D.non m) P:=fun hq=>by
  have e:=mN (hs:=y.h) (w:=y.d.length) n hq
  rw [hW] at e
  simp [eI]
  refine h m' _ _ rs hkp (Nat.le_refl _) (by omega) ?_ hr ?_
  ·rw [e]; exact hs
  ·rw [e]; exact hrc
 simp [cx hs,cx hr,hrc.1]
 by_cases hlt:rows.length < sts.length
 ·by_cases hmo:sts.length≤most
  ·have hn0:n≠0:=by omega
   obtain ⟨n',rfl⟩:∃ n',n=n'+1:=⟨n - 1,by omega⟩
   obtain ⟨st,hst⟩:∃ st,sts[rows.length]?=some st:=⟨_,List.getElem?_eq_getElem hlt⟩
   have hstA:stA sts rows.length=st:=by unfold stA; rw [List.getD_eq_getElem?_getD,hst]; rfl
   unfold cZ at hW
   rw [if_pos ⟨hlt,hmo⟩,hstA] at hW
   have e1:gIx (.ref m.length) (.int (rows.length:Nat)) m'=.ok (iT st) m':=cK hs (atI_nat (by rw [List.getElem?_map,hst]; rfl))
   simp [hlt,hmo,hZ,cx hr,hrc.1,e1,gD]
   have hx:(m'++[Cell.lst []])[m'.length]?=some (.lst (([]:List (Option Nat)).map oD)):=by simp
   have hkx:=(Kp.refl m').push (Cell.lst [])
   have hs2:=hkx.get hs
   have hd2:=hkx.get hdn
   have hr2:=hkx.get hr
   have hrc2:=hrc.kp hkx
   have hkp2:=hkp.trans hkx
   have hqx:∀ (a q:Nat),rs[a]?=some (D.ref q)→m.length+3≤q∧q≠m'.length:=fun a q e=>by
    refine ⟨hrq a q e,?_⟩
    have ha:=(List.getElem?_eq_some_iff.mp e).1
    rw [hrc.1] at ha
    obtain ⟨q',h1,h2⟩:=hrc.2 a _ (List.getElem?_eq_getElem ha)
    rw [e] at h1
    cases h1
    have:=(List.getElem?_eq_some_iff.mp h2).1
    omega
   have hml2:m'.length < (m'++[Cell.lst []]).length:=by simp
   generalize hjx:m'.length=jx at hx hqx hm3 hml2
   generalize m'++[Cell.lst []]=m2 at hx hs2 hd2 hr2 hrc2 hkp2 hml2
   simp [gE,aS,sT,-List.length_map]
   obtain ⟨J,hJ⟩:∃ I:Nat→au→Mem→Prop,∀ k η m',I k η m'↔∃ sts' x,x.length=k∧(∃ tail,cj y.h st (List.range' k (y.d.length - k)) sts'=((cj y.h st (List.range y.d.length) sts).1,tail)∧x++tail=(cj y.h st (List.range y.d.length) sts).2)∧sts'.length≤sts.length+k∧sts'[rows.length]?=some st∧
    (∃ e7 e8 e9,η=[some (D.tup [D.tup (y.d.map D.str),D.tup (y.h.map bA)]),some (.int (most:Nat)),some (.ref m.length),some (.ref (m.length+1)),some (.ref (m.length+2)),some (iT st),some (.ref jx),e7,e8,e9])∧
    Kp m m'∧jx < m'.length∧m'[m.length]?=some (.lst (sts'.map iT))∧m'[m.length+1]?=some (.dT (bS sts'))∧m'[m.length+2]?=some (.lst rs)∧RowC m' rs rows∧m'[jx]?=some (.lst (x.map oD)):=⟨_,fun _ _ _=>Iff.rfl⟩
   refine dJ J _ ((hJ _ _ _).mpr ⟨sts,[],rfl,⟨_,by rw [Nat.sub_zero,←List.range_eq_range'],rfl⟩,by omega,hst,⟨_,_,_,rfl⟩,hkp2,hml2,hs2,hd2,hr2,hrc2,hx⟩) (fun k d η m3 hdk hI=>?_) (fun η m3 hI=>?_)
   ·obtain ⟨sts',x,hxl,⟨tail,ht1,ht2⟩,hsl,hst',⟨e7,e8,e9,rfl⟩,hk3,hj3,hs3,hd3,hr3,hrc3,hx3⟩:=(hJ _ _ _).mp hI
    rw [List.getElem?_map] at hdk
    cases hz:y.d[k]? with
    | none=>rw [hz] at hdk; cases hdk
    | some z=>
    rw [hz] at hdk
    cases hdk
    have hk:k < y.d.length:=(List.getElem?_eq_some_iff.mp hz).1
    have hix:=yO nd hz
    have hzm:=List.mem_of_getElem? hz
    have hcan:=v5 (y:=y) (st:=st) (d:=z) (m:=m3) hf (by omega)
    have hled:=vx (y:=y) (st:=st) (d:=z) (m:=m3) hf (by omega) hzm
    have hcb:eB y st z=bE y.h st k:=by unfold eB; rw [hix,decide_eq_true hzm]; rfl
    rw [hcb] at hcan
    rw [hix] at hled
    simp only [aS,sT] at hcan hled
    have hrg:List.range' k (y.d.length - k)=k ::List.range' (k+1) (y.d.length - (k+1)):=by
     rw [show y.d.length - k=(y.d.length - (k+1))+1 by omega,List.range'_succ]
    rw [hrg] at ht1
    simp only [cj,Prod.mk.injEq] at ht1
    obtain ⟨ht1,rfl⟩:=ht1
    have fin:∀ (m5:Mem) (o:Option Nat) (sts5:List (List Int)) (e9:Option D),cQ y.h st sts' k=(sts5,o)→sts5.length≤sts'.length+1→sts5[rows.length]?=some st→Kp m m5→jx < m5.length→m5[m.length]?=some (.lst (sts5.map iT))→m5[m.length+1]?=some (.dT (bS sts5))→m5[m.length+2]?=some (.lst rs)→RowC m5 rs rows→m5[jx]?=some (.lst (x.map oD))→
      TriQ (eh [some (D.tup [D.tup (y.d.map D.str),D.tup (y.h.map bA)]),some (.int (most:Nat)),some (.ref m.length),some (.ref (m.length+1)),some (.ref (m.length+2)),some (iT st),some (.ref jx),some (.str z),some (oD o),e9] m5) (J (k+1)) (fun η m=>TriS (en η m) (fun η2 m2=>∃ k,k < n'+1∧Inv k η2 m2) P) (J (k+1)) P:=by
     intro m5 o sts5 e9 hst5 hl5 hr5' hk5 hj5 hs5 hd5 hr5 hrc5 hx5
     simp [eh,cu hx5,cO hx5 (show (x.map oD).length < 1000000 by simp; omega)]
     rw [hst5] at ht1 ht2
     have hjn:jx≠m.length∧jx≠m.length+1∧jx≠m.length+2:=by omega
     refine (hJ _ _ _).mpr ⟨sts5,x++[o],by simp; omega,⟨(cj y.h st (List.range' (k+1) (y.d.length - (k+1))) sts5).2,Prod.ext ht1 rfl,by rw [←ht2]; simp⟩,by omega,hr5',⟨_,_,_,rfl⟩,hk5.put (by omega) _,by simpa using hj5,by rw [List.getElem?_set_ne hjn.1]; exact hs5,by rw [List.getElem?_set_ne hjn.2.1]; exact hd5,by rw [List.getElem?_set_ne hjn.2.2]; exact hr5,⟨hrc5.1,fun a w e=>?_⟩,?_⟩
     ·obtain ⟨q,h1,h2⟩:=hrc5.2 a w e
      exact ⟨q,h1,by rw [List.getElem?_set_ne (Ne.symm (hqx a q h1).2)]; exact h2⟩
     ·rw [List.getElem?_set_self hj5]; simp
    simp [hF,gA,hcan]
    cases hth:bE y.h st k with
    | false=>
     simp
     refine fin m3 none sts' e9 (by unfold cQ; rw [hth,if_neg (by simp)]) (by omega) hst' hk3 hj3 hs3 hd3 hr3 hrc3 hx3
    | true=>
     simp [hD,hled,gx,yh hd3]
     by_cases hin:aM y.h st k∈sts'
     ·simp [hin,eE,ti hd3 hin]
      exact fin m3 (some (sts'.idxOf (aM y.h st k))) sts' _ (by unfold cQ; rw [hth,if_pos rfl,if_pos hin]) (by omega) hst' hk3 hj3 hs3 hd3 hr3 hrc3 hx3
     ·simp [hin,hU,cx hs3,sX hd3 hin (show sts'.length < 1000000 by omega),gC]
      have hsm:(m3.set (m.length+1) (.dT (bS (sts'++[aM y.h st k]))))[m.length]?=some (.lst (sts'.map iT)):=by rw [List.getElem?_set_ne (by omega)]; exact hs3
      have hml3:=(List.getElem?_eq_some_iff.mp hd3).1
      have hml4:=(List.getElem?_eq_some_iff.mp hs3).1
      simp [cu hsm,cO hsm (show (sts'.map iT).length < 1000000 by simp; omega)]
      have hk4:=(hk3.put (j:=m.length+1) (by omega) (.dT (bS (sts'++[aM y.h st k])))).put (j:=m.length) (by omega) (.lst (sts'.map iT++[iT (aM y.h st k)]))
      have hs4:((m3.set (m.length+1) (.dT (bS (sts'++[aM y.h st k])))).set m.length (.lst (sts'.map iT++[iT (aM y.h st k)])))[m.length]?=some (.lst ((sts'++[aM y.h st k]).map iT)):=by
       rw [List.getElem?_set_self (by simpa using hml4)]; simp
      have hd4:((m3.set (m.length+1) (.dT (bS (sts'++[aM y.h st k])))).set m.length (.lst (sts'.map iT++[iT (aM y.h st k)])))[m.length+1]?=some (.dT (bS (sts'++[aM y.h st k]))):=by
       rw [List.getElem?_set_ne (by omega),List.getElem?_set_self hml3]
      have oth:∀ q,q≠m.length→q≠m.length+1→((m3.set (m.length+1) (.dT (bS (sts'++[aM y.h st k])))).set m.length (.lst (sts'.map iT++[iT (aM y.h st k)])))[q]?=m3[q]?:=fun q h1 h2=>by
       rw [List.getElem?_set_ne (Ne.symm h1),List.getElem?_set_ne (Ne.symm h2)]
      have hj4:jx < ((m3.set (m.length+1) (.dT (bS (sts'++[aM y.h st k])))).set m.length (.lst (sts'.map iT++[iT (aM y.h st k)]))).length:=by simpa using hj3
      generalize (m3.set (m.length+1) (.dT (bS (sts'++[aM y.h st k])))).set m.length (.lst (sts'.map iT++[iT (aM y.h st k)]))=m4 at hk4 hs4 hd4 oth hj4
      simp [eE,ti hd4 (st:=aM y.h st k) (by simp)]
      have hidx:(sts'++[aM y.h st k]).idxOf (aM y.h st k)=sts'.length:=by
       rw [List.idxOf_append,if_neg hin]
       simp
      rw [hidx]
      refine fin m4 (some sts'.length) (sts'++[aM y.h st k]) _ (by unfold cQ; rw [hth,if_pos rfl,if_neg hin]) (by simp) (by rw [List.getElem?_append_left (List.getElem?_eq_some_iff.mp hst').1]; exact hst') hk4 hj4 hs4 hd4 (by rw [oth _ (by omega) (by omega)]; exact hr3) ⟨hrc3.1,fun a w e=>?_⟩ (by rw [oth _ (by omega) (by omega)]; exact hx3)
      obtain ⟨q,h1,h2⟩:=hrc3.2 a w e
      have:=hqx a q h1
      exact ⟨q,h1,by rw [oth _ (by omega) (by omega)]; exact h2⟩
   ·obtain ⟨sts',x,hxl,⟨tail,ht1,ht2⟩,hsl,hst',⟨e7,e8,e9,rfl⟩,hk3,hj3,hs3,hd3,hr3,hrc3,hx3⟩:=(hJ _ _ _).mp hI
    rw [List.length_map] at hxl hsl ht1
    rw [Nat.sub_self] at ht1
    simp only [List.range'_zero,cj,Prod.mk.injEq] at ht1
    obtain ⟨ht1,rfl⟩:=ht1
    rw [List.append_nil] at ht2
    have hrl:rs.length < 1000000:=by rw [hrc.1]; omega
    have hml5:=(List.getElem?_eq_some_iff.mp hr3).1
    simp [en,cu hr3,cO hr3 hrl]
    rw [←ht1,←ht2] at hW
    refine ⟨n',by omega,(hInv _ _ _).mpr ⟨sts',rows++[x],rs++[.ref jx],hW,by simp; omega,?_,by simp; omega,⟨_,_,_,_,_,rfl⟩,hk3.put (by omega) _,by simp; omega,by rw [List.getElem?_set_ne (by omega)]; exact hs3,by rw [List.getElem?_set_ne (by omega)]; exact hd3,List.getElem?_set_self hml5,?_,?_⟩⟩
    ·have:=(List.getElem?_eq_some_iff.mp hst').1
     simp
     omega
    ·refine RowC.app ⟨hrc3.1,fun a w e=>?_⟩ (by rw [List.getElem?_set_ne (by omega)]; exact hx3)
     obtain ⟨q,h1,h2⟩:=hrc3.2 a w e
     have:=hqx a q h1
     exact ⟨q,h1,by rw [List.getElem?_set_ne (by omega)]; exact h2⟩
    ·intro a q e
     by_cases ha:a < rs.length
     ·rw [List.getElem?_append_left ha] at e
      exact hrq a q e
     ·have hl:=(List.getElem?_eq_some_iff.mp e).1
      simp at hl
      have:a=rs.length:=by omega
      subst this
      simp at e
      omega
  ·simp [hlt,hmo]
   exact hend (fun h=>hmo h.2)
 ·simp [hlt]
  exact hend (fun h=>hlt h.1)
end Y
end Mir
namespace Mir
open PySem PySem.Spec PyProof.Rows L2
theorem mr {m:Mem} {q:Nat} {ds:List D} (h:m[q]?=some (.lst ds)):srcOf m (.ref q)=some (fu q,ds.length):=by
 show (bW m[q]?).map _=_
 rw [h]
 rfl
end Mir
namespace Mir
open PySem PySem.Spec PyProof.Rows L2
theorem pC {w:Nat} {r:aB} (h:∀ x∈r,x.length=w) {a k b:Nat} (hw:way r a k b):a < r.length∧k < w:=by
 obtain ⟨x,e1,e2⟩:=hw
 refine ⟨(List.getElem?_eq_some_iff.mp e1).1,?_⟩
 rw [←h x (List.mem_of_getElem? e1)]
 exact (List.getElem?_eq_some_iff.mp e2).1
end Mir
namespace Mir
namespace Y
open PySem PySem.Spec PyProof.Rows L2 Mir
theorem ip {α:Type} {g:GM} {t:TM} {e:EM} {η:au} {m:Mem} {P:List D→Mem→Prop} (emb f:α→D) (xs:List α) (h:∀ x∈xs,∃ η1,g (emb x) η m=.ok η1 m∧t η1 m=.ok true m∧e η1 m=.ok (f x) m) (hl:xs.length≤1000000) (hP:P (xs.map f) m):Tri (bD g t e η (xs.map emb) m []) P:=by
 rw [b4 emb f xs [] h (by simpa using hl)]
 exact hP
theorem pA {α:Type} {g:GM} {t:TM} {e:EM} {η:au} {m:Mem} {P:List D→Mem→Prop} (emb f:α→D) (p:α→Bool) (xs:List α) (h:∀ x∈xs,∃ η1,g (emb x) η m=.ok η1 m∧t η1 m=.ok (p x) m∧(p x=true→e η1 m=.ok (f x) m)) (hl:xs.length≤1000000) (hP:P ((xs.filter p).map f) m):Tri (bD g t e η (xs.map emb) m []) P:=by
 rw [jH emb f p xs [] h (by simpa using hl)]
 exact hP
theorem tK {g:GM} {t:TM} {e:EM} {η:au} {q:Nat} {ds:List D} (I:Nat→Mem→List D→Prop) (hq:∀ k m acc,I k m acc→m[q]?=some (.lst ds))
  (h:∀ j d m acc,ds[j]?=some d→I j m acc→Tri ((noX (g d η m)).bind fun η1 m1=>(noX (t η1 m1)).bind fun b m2=>
   if b=true then (noX (e η1 m2)).bind fun y m3=>if acc.length < sizeLine then .ok (acc++[y]) m3 else .stk else .ok acc m2) (fun acc' m'=>I (j+1) m' acc')) :
  ∀ (f k:Nat) (m:Mem) (acc:List D),f+k=ds.length→I k m acc→Tri (bF (fu q) g t e η f k m acc) (fun acc' m'=>I ds.length m' acc')
 | 0,k,m,acc,hn,h0=>by
  have hs:fu q k m=some ds[k]?:=by unfold fu; rw [hq k m acc h0]; rfl
  have hk:ds[k]?=none:=List.getElem?_eq_none (by omega)
  unfold bF
  rw [hs,hk]
  have:k=ds.length:=by omega
  subst this
  exact h0
 | f+1,k,m,acc,hn,h0=>by
  have hs:fu q k m=some ds[k]?:=by unfold fu; rw [hq k m acc h0]; rfl
  have hk:ds[k]?=some ds[k]:=List.getElem?_eq_getElem (by omega)
  have h1:=h k ds[k] m acc hk h0
  have ih:=fun m2 acc q'=>tK I hq h f (k+1) m2 acc (by omega) q'
  unfold bF
  rw [hs,hk]
  simp only
  rw [fH] at h1 ⊢
  refine h1.mono fun η1 m1 h2=>?_
  rw [fH] at h2 ⊢
  refine h2.mono fun b m2 h3=>?_
  cases b with
  | false=>exact ih m2 acc h3
  | true=>
   rw [if_pos rfl] at h3 ⊢
   rw [fH] at h3 ⊢
   refine h3.mono fun y m3 h4=>?_
   split at h4
   ·rename_i hlt
    rw [if_pos hlt]
    exact ih m3 _ h4
   ·exact h4.elim
theorem zd {g:GM} {t:TM} {e:EM} {η:au} {q n:Nat} {ds:List D} {m:Mem} {P:List D→Mem→Prop} (I:Nat→Mem→List D→Prop) (hq:∀ k m acc,I k m acc→m[q]?=some (.lst ds)) (h0:I 0 m [])
  (h:∀ j d m acc,ds[j]?=some d→I j m acc→Tri ((noX (g d η m)).bind fun η1 m1=>(noX (t η1 m1)).bind fun b m2=>
   if b=true then (noX (e η1 m2)).bind fun y m3=>if acc.length < sizeLine then .ok (acc++[y]) m3 else .stk else .ok acc m2) (fun acc' m'=>I (j+1) m' acc'))
  (hP:∀ m acc,I ds.length m acc→P acc m) (hn:n=ds.length):Tri (bF (fu q) g t e η n 0 m []) P:=by
 subst hn
 exact (tK I hq h ds.length 0 m [] (by omega) h0).mono fun acc m h=>hP m acc h
theorem tX {α:Type} {g:GM} {t:TM} {e:EM} {η:au} {m:Mem} {q n:Nat} {P:List D→Mem→Prop} (emb f:α→D) (p:α→Bool) (xs:List α) (hq:m[q]?=some (.lst (xs.map emb))) (h:∀ x∈xs,∃ η1,g (emb x) η m=.ok η1 m∧t η1 m=.ok (p x) m∧(p x=true→e η1 m=.ok (f x) m)) (hl:xs.length≤900000) (hP:P ((xs.filter p).map f) m) (hn:n=xs.length):Tri (bF (fu q) g t e η n 0 m []) P:=by
 refine zd (ds:=xs.map emb) (fun j m' acc=>m'=m∧acc=((xs.take j).filter p).map f) (fun k m' acc h=>by rw [h.1]; exact hq) ⟨rfl,rfl⟩ (fun j d m' acc hd hI=>?_) (fun m' acc hI=>?_) (by simpa using hn)
 ·obtain ⟨rfl,rfl⟩:=hI
  rw [List.getElem?_map] at hd
  cases hx:xs[j]? with
  | none=>rw [hx] at hd; cases hd
  | some x=>
   rw [hx] at hd
   cases hd
   obtain ⟨η1,e1,e2,e3⟩:=h x (List.mem_of_getElem? hx)
   have ht:xs.take (j+1)=xs.take j++[x]:=by rw [List.take_succ,hx]; rfl
   have hlen:(((xs.take j).filter p).map f).length≤xs.length:=by
    rw [List.length_map]
    exact Nat.le_trans (List.length_filter_le _ _) (by rw [List.length_take]; omega)
   simp only [e1,e2,iF,bV]
   cases hp:p x with
   | true=>
    simp only [if_true,e3 hp,iF,bV]
    rw [if_pos (ie (by omega)),bK]
    refine ⟨rfl,?_⟩
    rw [ht,List.filter_append,List.map_append]
    simp [hp]
   | false=>
    simp only [Bool.false_eq_true,if_false,bK]
    refine ⟨trivial,?_⟩
    rw [ht,List.filter_append,List.map_append]
    simp [hp]
 ·obtain ⟨rfl,rfl⟩:=hI
  rw [List.length_map,List.take_length]
  exact hP
theorem xG {α:Type} {g:GM} {t:TM} {e:EM} {η:au} {m:Mem} {q n:Nat} {P:List D→Mem→Prop} (emb f:α→D) (xs:List α) (hq:m[q]?=some (.lst (xs.map emb))) (h:∀ x∈xs,∃ η1,g (emb x) η m=.ok η1 m∧t η1 m=.ok true m∧e η1 m=.ok (f x) m) (hl:xs.length≤900000) (hP:P (xs.map f) m) (hn:n=xs.length):Tri (bF (fu q) g t e η n 0 m []) P:=
 tX emb f (fun _=>true) xs hq (fun x hx=>by obtain ⟨η1,a,b,c⟩:=h x hx; exact ⟨η1,a,b,fun _=>c⟩) hl (by rw [List.filter_eq_self.mpr (fun _ _=>rfl)]; exact hP) hn
theorem la (c:Cha) (m:Mem):gIx (bT c) (.int 0) m=.ok (sT c.n) m:=by simp [bT]
theorem jR (c:Cha) (m:Mem):gIx (bT c) (.int 1) m=.ok (.tup (c.r.map bg)) m:=by simp [bT]
end Y
end Mir
namespace Mir
namespace Y
open PySem PySem.Spec PyProof.Rows L2 Mir
structure Enc {α:Type} [DecidableEq α] (f:α→D) (k:Nat):Prop where
 ex:∃ p:α→PyData,(∀ m n x,toP m (n+k) (f x)=some (p x))∧∀ x y,PyData.eqv (p x) (p y)=decide (x=y)
theorem pb {α:Type} [DecidableEq α] {p:α→PyData} (h:∀ x y,PyData.eqv (p x) (p y)=decide (x=y)):∀ xs ys:List α,PyData.eqvAll (xs.map p) (ys.map p)=decide (xs=ys)
 | [],[]=>rfl
 | [],y ::ys=>by simp [PyData.eqvAll]
 | x ::xs,[]=>by simp [PyData.eqvAll]
 | x ::xs,y ::ys=>by
  show (PyData.eqv (p x) (p y) && PyData.eqvAll (xs.map p) (ys.map p))=_
  rw [h,pb h xs ys,Bool.eq_iff_iff]
  simp
theorem enc_int:Enc D.int 1:=⟨.int,fun m n x=>rfl,fun x y=>by
 show (x ==y)=_
 rw [Bool.eq_iff_iff]; simp⟩
theorem BS:Enc (fun i:Nat=>D.int (i:Nat)) 1:=⟨fun i=>.int (i:Nat),fun m n x=>rfl,fun x y=>by
 show ((x:Int) ==(y:Int))=_
 rw [Bool.eq_iff_iff]; simp; omega⟩
theorem enc_oD:Enc oD 1:=⟨fun o=>match o with | none=>.none | some v=>.int (v:Nat),fun m n x=>by cases x<;>rfl,fun x y=>by
 cases x<;>cases y
 ·rfl
 ·rfl
 ·rfl
 ·rename_i a b
  show ((a:Int) ==(b:Int))=_
  rw [Bool.eq_iff_iff]; simp; omega⟩
theorem xh {α:Type} {f:α→D} {p:α→PyData} {m:Mem} {n:Nat} (h:∀ x,toP m n (f x)=some (p x)) (xs:List α):aF (toP m n) (xs.map f)=some (xs.map p):=cL (f:=toP m n) (g:=f) (h:=p) h xs
theorem Enc.tup {α:Type} [DecidableEq α] {f:α→D} {k:Nat} (h:Enc f k):Enc (fun xs:List α=>.tup (xs.map f)) (k+1):=by
 obtain ⟨p,h1,h2⟩:=h.ex
 exact ⟨fun xs=>.tuple (xs.map p),fun m n xs=>by
  show (aF (toP m (n+k)) (xs.map f)).map _=_
  rw [xh (h1 m n)]; rfl,fun xs ys=>pb h2 xs ys⟩
theorem Enc.eq {α:Type} [DecidableEq α] {f:α→D} {k:Nat} (h:Enc f k) (hk:k≤60) (x y:α) (hf:cn (f x)=none) (neg:Bool) (m:Mem):gEq neg (f x) (f y) m=.ok (.bl (decide (x=y)^^neg)) m:=by
 obtain ⟨p,h1,h2⟩:=h.ex
 have e1:=fun x=>h1 m (60 - k) x
 rw [show 60 - k+k=60 by omega] at e1
 unfold gEq
 rw [hf]
 simp only
 unfold iO
 rw [e1,e1]
 simp only [h2]
theorem enc_iT:Enc iT 2:=enc_int.tup
theorem xT (xs ys:List Int) (neg:Bool) (m:Mem):gEq neg (iT xs) (iT ys) m=.ok (.bl (decide (xs=ys)^^neg)) m:=enc_iT.eq (by decide) xs ys rfl neg m
end Y
end Mir
namespace Mir
namespace Y
open PySem PySem.Spec PyProof.Rows L2 Mir
def bt (bs:List Nat) (i:Nat):Nat:=bs.getD i 0
end Y
end Mir
namespace Mir
namespace Y
open PySem PySem.Spec PyProof.Rows L2 Mir
theorem qh {src:Src} {g:GM} {body:SM} {ds:List D} (I:Nat→au→Mem→Prop) (B:au→Mem→Prop) (Rt:D→Mem→Prop) (hs:∀ k η m,k≤ds.length→I k η m→src k m=some ds[k]?)
  (h:∀ k d η m,ds[k]?=some d→I k η m→Tri (g d η m) (fun η1 m1=>TriQ (body η1 m1) (I (k+1)) B (I (k+1)) Rt)) (hB:∀ η m,I ds.length η m→B η m) :
  ∀ (f k:Nat) (η:au) (m:Mem),f+k=ds.length→I k η m→TriS (bH src g body f k η m) B Rt
 | 0,k,η,m,hk,hI=>by
  unfold bH
  rw [hs k η m (by omega) hI,List.getElem?_eq_none (by omega)]
  have:k=ds.length:=by omega
  subst this
  exact hB η m hI
 | f+1,k,η,m,hk,hI=>by
  have hd:ds[k]?=some ds[k]:=List.getElem?_eq_getElem (by omega)
  have h1:=h k ds[k] η m hd hI
  have ih:=fun η2 m2 q=>qh I B Rt hs h hB f (k+1) η2 m2 (by omega) q
  unfold bH
  rw [hs k η m (by omega) hI,hd]
  simp only
  cases hg:g ds[k] η m with
  | ok η1 m1=>
   rw [hg] at h1
   simp only [bK,oO] at h1 ⊢
   cases hb:body η1 m1 with
   | nxt η2 m2=>rw [hb] at h1; exact ih η2 m2 h1
   | cnt η2 m2=>rw [hb] at h1; exact ih η2 m2 h1
   | brk η2 m2=>rw [hb] at h1; exact h1
   | ret d m2=>rw [hb] at h1; exact h1
   | exc x m2=>rw [hb] at h1; exact h1.elim
   | stk=>rw [hb] at h1; exact h1.elim
  | exc x m1=>rw [hg] at h1; exact h1.elim
  | stk=>rw [hg] at h1; exact h1.elim
theorem ou {src:Src} {g:GM} {body:SM} {ds:List D} {n:Nat} {η:au} {m:Mem} {B:au→Mem→Prop} {Rt:D→Mem→Prop} (I:Nat→au→Mem→Prop) (hn:n=ds.length) (hs:∀ k η m,k≤ds.length→I k η m→src k m=some ds[k]?) (h0:I 0 η m)
  (h:∀ k d η m,ds[k]?=some d→I k η m→Tri (g d η m) (fun η1 m1=>TriQ (body η1 m1) (I (k+1)) B (I (k+1)) Rt)) (hB:∀ η m,I ds.length η m→B η m):TriS (bH src g body n 0 η m) B Rt:=by
 subst hn
 exact qh I B Rt hs h hB ds.length 0 η m (by omega) h0
end Y
end Mir
namespace Mir
namespace Y
open PySem PySem.Spec PyProof.Rows L2 Mir
abbrev Cols:=List (Nat×List Int)
structure ColsIn (m:Mem) (cs:Cols) (n:Nat):Prop where
 at':∀ p∈cs,m[p.1]?=some (.lst (p.2.map .int))
 len:∀ p∈cs,p.2.length=n
theorem ColsIn.kp {m m':Mem} {cs:Cols} {n:Nat} (h:ColsIn m cs n) (k:Kp m m'):ColsIn m' cs n:=⟨fun p hp=>k.get (h.at' p hp),h.len⟩
theorem zI {i j:Int} {m:Mem} (h:i.natAbs < 2^64):eN (.int i) (.int j) m=.ok (.int (i*j)) m:=by
 show (if kZ i j then _ else _)=_
 rw [if_pos (.inl h)]
end Y
end Mir
namespace Mir
namespace Y
open PySem PySem.Spec PyProof.Rows L2 Mir
def nth (xs:List Nat) (i:Nat):Nat:=xs.getD i 0
end Y
end Mir
namespace Mir
namespace Y
open PySem PySem.Spec PyProof.Rows L2 Mir
theorem Nms.nodup {ns:List Str} (h:Nms ns):ns.Nodup:=by
 refine h.up.imp fun {a b} hab e=>?_
 subst e
 exact absurd hab (List.lt_irrefl _)
end Y
end Mir
namespace Mir
namespace Y
open PySem PySem.Spec PyProof.Rows L2 Mir
theorem uC {ns:List Str} (nd:ns.Nodup) {i j:Nat} (hi:i < ns.length) (hj:j < ns.length) (h:nAt ns i=nAt ns j):i=j:=by
 have h1:=iP hi
 have h2:=iP hj
 rw [←h] at h2
 obtain ⟨a1,b1⟩:=List.getElem?_eq_some_iff.mp h1
 obtain ⟨a2,b2⟩:=List.getElem?_eq_some_iff.mp h2
 exact (List.getElem_inj nd).mp (b1.trans b2.symm)
end Y
end Mir
namespace Mir
namespace Y
open PySem PySem.Spec PyProof.Rows L2 Mir
theorem wa {ord:List Nat} {a:Nat} (ha:a < ord.length):ord[a]?=some (nth ord a):=by unfold nth; rw [List.getD_eq_getElem?_getD,List.getElem?_eq_getElem ha]; rfl
end Y
end Mir
namespace Mir
namespace Y
open PySem PySem.Spec PyProof.Rows L2 Mir
theorem w5 {m:Mem} {rs:List D} {rows:aB} (h:RowC m rs rows) {a:Nat} (ha:a < rows.length):∃ q,rs[a]?=some (.ref q)∧m[q]?=some (.lst ((rAt rows a).map oD)):=h.2 a _ (fA ha)
theorem xm {m:Mem} {q:Nat} {x:List (Option Nat)} (h:m[q]?=some (.lst (x.map oD))) {k:Nat} (hk:k < x.length):gIx (.ref q) (.int (k:Nat)) m=.ok (oD (oAt x k)) m:=cK h (atI_nat (by rw [List.getElem?_map,dy hk]; rfl))
theorem yl (rows:aB) (k:Nat):((List.range rows.length).map fun a=>(oAt (rAt rows a) k).isSome).any id=rows.any fun x=>(oAt x k).isSome:=by
 have e:(List.range rows.length).map (fun a=>(oAt (rAt rows a) k).isSome)=rows.map fun x=>(oAt x k).isSome:=by
  refine List.ext_getElem? fun a=>?_
  by_cases ha:a < rows.length
  ·rw [List.getElem?_map,List.getElem?_range ha,List.getElem?_map,fA ha]
   rfl
  ·rw [List.getElem?_eq_none (by simp; omega),List.getElem?_eq_none (by simp; omega)]
 rw [e,List.any_map]
 rfl
theorem vN {m:Mem} {rs:List D} {rows:aB} (h:RowC m rs rows):∃ qs:List Nat,rs=qs.map D.ref∧qs.length=rows.length∧∀ (a q:Nat),qs[a]?=some q→m[q]?=some (.lst ((rAt rows a).map oD)):=by
 have key:∀ (n:Nat),n≤rows.length→∃ qs:List Nat,rs.take n=qs.map D.ref∧qs.length=n∧∀ (a q:Nat),qs[a]?=some q→m[q]?=some (.lst ((rAt rows a).map oD)):=by
  intro n
  induction n with
  | zero=>intro _; exact ⟨[],by simp,rfl,fun a q e=>by simp at e⟩
  | succ n ih=>
   intro hn
   obtain ⟨qs,h1,h2,h3⟩:=ih (by omega)
   obtain ⟨q,h4,h5⟩:=w5 h (show n < rows.length by omega)
   refine ⟨qs++[q],by rw [List.take_succ,h1,h4]; simp,by simp [h2],fun a q' e=>?_⟩
   by_cases ha:a < qs.length
   ·rw [List.getElem?_append_left ha] at e
    exact h3 a q' e
   ·have hl:=(List.getElem?_eq_some_iff.mp e).1
    simp at hl
    have:a=n:=by omega
    subst this
    rw [←h2] at e
    simp at e
    subst e
    rw [h2] at *
    exact h5
 obtain ⟨qs,h1,h2,h3⟩:=key rows.length (Nat.le_refl _)
 rw [←h.1,List.take_length] at h1
 exact ⟨qs,h1,h2,h3⟩
theorem s9 {α:Type} {g:GM} {t:TM} {e:EM} {η:au} {m:Mem} {q n:Nat} (emb f:α→D) (xs:List α) (hq:m[q]?=some (.lst (xs.map emb))) (h:∀ x∈xs,∃ η1,g (emb x) η m=.ok η1 m∧t η1 m=.ok true m∧e η1 m=.ok (f x) m) (hl:xs.length≤900000) (hn:n=xs.length):bF (fu q) g t e η n 0 m []=.ok (xs.map f) m:=by
 obtain ⟨a,m',e1,e2,e3⟩:=(xG (P:=fun a m'=>a=xs.map f∧m'=m) emb f xs hq h hl ⟨rfl,rfl⟩ hn).ex
 rw [e1,e2,e3]
theorem qP {α:Type} {g:GM} {t:TM} {e:EM} {η:au} {m:Mem} (emb f:α→D) (xs:List α) (h:∀ x∈xs,∃ η1,g (emb x) η m=.ok η1 m∧t η1 m=.ok true m∧e η1 m=.ok (f x) m) (hl:xs.length≤1000000):bD g t e η (xs.map emb) m []=.ok (xs.map f) m:=by
 obtain ⟨a,m',e1,e2,e3⟩:=(ip (P:=fun a m'=>a=xs.map f∧m'=m) emb f xs h hl ⟨rfl,rfl⟩).ex
 rw [e1,e2,e3]
theorem kC {α:Type} (xs:List α):xs.zipIdx.map (·.1)=xs:=by
 rw [List.zipIdx_map_fst]
theorem ly {m:Mem} {y:Yar} {rows:aB} {rs:List D} {j:Nat} {P:D→Mem→Prop} (hj:m[j]?=some (.lst rs)) (hrc:RowC m rs rows) (hw:∀ x∈rows,x.length=y.d.length) (hd:y.d.length≤900) (hr:rows.length≤1000)
  (h:∀ m',Kp m m'→P (bT (bI y.d rows)) m'):Tri (dR [aS y,.ref j] m) P:=by
 refine aZ rfl ?_
 obtain ⟨qs,hqs,hql,hq⟩:=vN hrc
 have hlen:rs.length=rows.length:=hrc.1
 have hgx:∀ {a q:Nat},qs[a]?=some q→∀ k,k < y.d.length→gIx (.ref q) (.int (k:Nat)) m=.ok (oD (oAt (rAt rows a) k)) m:=fun {a q} e k hk=>by
  have ha:a < rows.length:=by rw [←hql]; exact (List.getElem?_eq_some_iff.mp e).1
  exact xm (hq a q e) (by rw [hw _ (fP ha)]; exact hk)
 have g0:gIx (aS y) (.int 0) m=.ok (sT y.d) m:=by simp [aS]
 have el0:aU [sT y.d] m=.ok (.int (y.d.length:Nat)) m:=by unfold sT; simp
 have src:srcOf m (.ref j)=some (fu j,rs.length):=mr hj
 simp [oY,g0,el0,b9 (n:=y.d.length) (by omega),rngD_nat,-bC]
 refine pA (fun k:Nat=>D.int ((k:Nat):Int)) (fun k=>D.int ((k:Nat):Int)) (fun k=>rows.any fun x=>(oAt x k).isSome) (List.range y.d.length) (fun k hk=>?_) (by simp; omega) ?_
 ·have hk:k < y.d.length:=by simpa using hk
  refine ⟨[some (aS y),some (.ref j),none,none,some (.int (k:Nat)),none],by simp [aR],?_,fun _=>by simp⟩
  have e1:rs=qs.zipIdx.map fun p=>D.ref p.1:=by
   rw [hqs,show (fun p:Nat×Nat=>D.ref p.1)=D.ref∘(fun p:Nat×Nat=>p.1) from rfl,←List.map_map,kC]
  rw [e1] at hj
  have e2:=s9 (η:=aR [some (aS y),some (.ref j),none,none,some (.int (k:Nat)),none] [5]) (g:=gNm 5) (t:=bz) (e:=mOp (gIs true) (mOp gIx (ab 5) (ab 4)) (mC D.non)) (n:=rs.length) (fun p:Nat×Nat=>D.ref p.1) (fun p=>D.bl (oAt (rAt rows p.2) k).isSome) qs.zipIdx hj (fun p hp=>by
   have:=List.mem_zipIdx' hp
   have g1:=hgx (List.getElem?_eq_some_iff.mpr ⟨this.1,this.2.symm⟩) k hk
   refine ⟨[some (aS y),some (.ref j),none,none,some (.int (k:Nat)),some (.ref p.1)],by simp [aR],rfl,?_⟩
   simp [g1,tH]) (by simp; omega) (by simp [e1])
  have e3:qs.zipIdx.map (fun p=>D.bl (oAt (rAt rows p.2) k).isSome)=((List.range rows.length).map fun a=>(oAt (rAt rows a) k).isSome).map D.bl:=by
   rw [List.map_map]
   refine List.ext_getElem? fun a=>?_
   by_cases ha:a < rows.length
   ·rw [List.getElem?_map,List.getElem?_zipIdx,List.getElem?_map,List.getElem?_range ha,List.getElem?_eq_getElem (by omega)]
    simp
   ·rw [List.getElem?_eq_none (by simp; omega),List.getElem?_eq_none (by simp; omega)]
  rw [e3] at e2
  simp only [e1,List.length_map,List.length_zipIdx] at e2 src
  have e5:=yl rows k
  rw [List.any_map] at e5
  simp [src,e2,fL,-List.map_map]
  exact e5
 ·have hdl:bx y.d.length rows=(List.range y.d.length).filter fun k=>rows.any fun x=>(oAt x k).isSome:=rfl
  rw [←hdl]
  have hdk:∀ k∈bx y.d.length rows,k < y.d.length:=fun k hk=>by
   rw [hdl] at hk
   simpa using (List.mem_filter.mp hk).1
  have hdn:(bx y.d.length rows).length≤900:=by
   rw [hdl]
   exact Nat.le_trans (List.length_filter_le _ _) (by simp; omega)
  generalize hdd:bx y.d.length rows=dl at *
  have e1:rs=qs.zipIdx.map fun p=>D.ref p.1:=by
   rw [hqs,show (fun p:Nat×Nat=>D.ref p.1)=D.ref∘(fun p:Nat×Nat=>p.1) from rfl,←List.map_map,kC]
  rw [e1] at hj
  have e2:=s9 (η:=aR [some (aS y),some (.ref j),some (.lst (dl.map fun k=>D.int ((k:Nat):Int))),none,none,none] [5]) (g:=gNm 5) (t:=bz) (e:=mCB br (ae (mLc [4] false (mIt (ab 2)) (gNm 4) bz (mOp gIx (ab 5) (ab 4))) ag)) (n:=rs.length) (fun p:Nat×Nat=>D.ref p.1) (fun p=>bg (dl.map fun k=>oAt (rAt rows p.2) k)) qs.zipIdx hj (fun p hp=>by
   have:=List.mem_zipIdx' hp
   refine ⟨[some (aS y),some (.ref j),some (.lst (dl.map fun k=>D.int ((k:Nat):Int))),none,none,some (.ref p.1)],by simp [aR],rfl,?_⟩
   have e3:=qP (η:=aR [some (aS y),some (.ref j),some (.lst (dl.map fun k=>D.int ((k:Nat):Int))),none,none,some (.ref p.1)] [4]) (m:=m) (g:=gNm 4) (t:=bz) (e:=mOp gIx (ab 5) (ab 4)) (fun k:Nat=>D.int ((k:Nat):Int)) (fun k=>oD (oAt (rAt rows p.2) k)) dl (fun k hk=>by
    have g1:=hgx (List.getElem?_eq_some_iff.mpr ⟨this.1,this.2.symm⟩) k (hdk k hk)
    exact ⟨_,rfl,rfl,by simp [aR,g1]⟩) (by omega)
   simp [e3,bg,List.map_map]) (by simp; omega) (by simp [e1])
  have e4:qs.zipIdx.map (fun p=>bg (dl.map fun k=>oAt (rAt rows p.2) k))=(rows.map fun x=>dl.map fun k=>oAt x k).map bg:=by
   rw [List.map_map]
   refine List.ext_getElem? fun a=>?_
   by_cases ha:a < rows.length
   ·rw [List.getElem?_map,List.getElem?_zipIdx,List.getElem?_map,fA ha,List.getElem?_eq_getElem (by omega)]
    simp
   ·rw [List.getElem?_eq_none (by simp; omega),List.getElem?_eq_none (by simp; omega)]
  rw [e4] at e2
  simp only [e1,List.length_map,List.length_zipIdx] at e2 src
  simp [lx,src,e2,lB,g0,-List.map_map]
  refine ip (fun k:Nat=>D.int ((k:Nat):Int)) (fun k=>D.str (nAt y.d k)) dl (fun k hk=>⟨_,rfl,rfl,by simp [aR,g0,sJ (iP (hdk k hk))]⟩) (by omega) ?_
  simp
  have:=h m (Kp.refl m)
  unfold bI at this
  rw [hdd] at this
  simp only [bT,sT,List.map_map] at this
  exact this
def cT (found:List Nat) (o:Option Nat):List Nat:=match o with
 | some b=>if b∈found then found else found++[b]
 | none=>found
def dg (r:aB) (found:List Nat) (s:Nat):List Nat:=match found[s]? with
 | some a=>(rAt r a).foldl cT found
 | none=>found
def az (r:aB):List Nat:=(List.range r.length).foldl (dg r) [0]
end Y
end Mir
namespace Mir
namespace Y
open PySem PySem.Spec PyProof.Rows L2 Mir
theorem xp (found:List Nat) (o:Option Nat):∃ t,cT found o=found++t:=by
 cases o with
 | none=>exact ⟨[],by simp [cT]⟩
 | some b=>
  unfold cT; dsimp only; split
  ·exact ⟨[],by simp⟩
  ·exact ⟨[b],rfl⟩
theorem addN_mem {found:List Nat} {o:Option Nat} {a:Nat}:a∈cT found o↔a∈found∨o=some a:=by
 cases o with
 | none=>simp [cT]
 | some b=>
  unfold cT; dsimp only; split
  ·rename_i h
   constructor
   ·exact .inl
   ·rintro (h1 | h1)
    ·exact h1
    ·cases h1; exact h
  ·simp [eq_comm]
theorem qF:∀ (x:List (Option Nat)) (found:List Nat),∃ t,x.foldl cT found=found++t
 | [],found=>⟨[],by simp⟩
 | o ::x,found=>by
  obtain ⟨t1,h1⟩:=xp found o
  obtain ⟨t2,h2⟩:=qF x (cT found o)
  exact ⟨t1++t2,by rw [List.foldl_cons,h2,h1,List.append_assoc]⟩
theorem qg:∀ (x:List (Option Nat)) (found:List Nat) (a:Nat),a∈x.foldl cT found↔a∈found∨some a∈x
 | [],found,a=>by simp
 | o ::x,found,a=>by
  rw [List.foldl_cons,qg x,addN_mem,List.mem_cons]
  constructor
  ·rintro ((h | h) | h)
   ·exact .inl h
   ·exact .inr (.inl h.symm)
   ·exact .inr (.inr h)
  ·rintro (h | h | h)
   ·exact .inl (.inl h)
   ·exact .inl (.inr h.symm)
   ·exact .inr h
theorem sD (r:aB) (found:List Nat) (s:Nat):∃ t,dg r found s=found++t:=by
 unfold dg
 split
 ·exact qF _ _
 ·exact ⟨[],by simp⟩
def bj (r:aB) (k:Nat):List Nat:=(List.range k).foldl (dg r) [0]
theorem dU (r:aB) (k:Nat):bj r (k+1)=dg r (bj r k) k:=by
 unfold bj
 rw [List.range_succ,List.foldl_append]
 rfl
theorem iz (r:aB) (k:Nat):∀ j,∃ t,bj r (k+j)=bj r k++t
 | 0=>⟨[],by simp⟩
 | j+1=>by
  obtain ⟨t,h⟩:=iz r k j
  obtain ⟨u,h2⟩:=sD r (bj r (k+j)) (k+j)
  exact ⟨t++u,by rw [←Nat.add_assoc,dU,h2,h,List.append_assoc]⟩
theorem vG {w:Nat} {r:aB} (rng:∀ a k b,way r a k b→b < r.length) {found:List Nat} (g:Srch r found) {o:Option Nat} (h:∀ b,o=some b→b < r.length∧Com r b):Srch r (cT found o):=by
 cases o with
 | none=>exact g
 | some b=>
  unfold cT; dsimp only; split
  ·exact g
  ·rename_i hb
   exact g.add hb (h b rfl).1 (h b rfl).2
theorem lg {r:aB} (rng:∀ a k b,way r a k b→b < r.length):∀ (x:List (Option Nat)) {found:List Nat},Srch r found→(∀ b,some b∈x→b < r.length∧Com r b)→Srch r (x.foldl cT found)
 | [],found,g,h=>g
 | o ::x,found,g,h=>by
  rw [List.foldl_cons]
  exact lg rng x (vG (w:=0) rng g fun b e=>h b (by rw [e]; exact List.mem_cons_self)) fun b hb=>h b (List.mem_cons_of_mem _ hb)
theorem ji {r:aB} {a:Nat} (ha:a < r.length) {b:Nat} (hb:some b∈rAt r a):∃ k,way r a k b:=by
 obtain ⟨k,e⟩:=List.mem_iff_getElem?.mp hb
 exact ⟨k,_,by rw [oZ ha]; exact List.getElem?_eq_getElem ha,e⟩
theorem eW {r:aB} (pos:0 < r.length) (rng:∀ a k b,way r a k b→b < r.length):∀ k,Srch r (bj r k)
 | 0=>Srch.zero pos
 | k+1=>by
  have g:=eW pos rng k
  rw [dU]
  unfold dg
  split
  ·rename_i a ha
   have h:=g.ok a (List.mem_of_getElem? ha)
   refine lg rng _ g fun b hb=>?_
   obtain ⟨k,hw⟩:=ji h.1 hb
   exact ⟨rng _ _ _ hw,.step h.2 hw⟩
  ·exact g
theorem sg {r:aB} (pos:0 < r.length) (rng:∀ a k b,way r a k b→b < r.length):∀ b,Com r b→b∈az r:=by
 have g:=eW pos rng r.length
 have hl:=g.len
 have closed:∀ a∈az r,∀ k b,way r a k b→b∈az r:=fun a ha k b hw=>by
  obtain ⟨s,hs⟩:=List.mem_iff_getElem?.mp ha
  have hsl:s < (bj r r.length).length:=(List.getElem?_eq_some_iff.mp hs).1
  have hsn:s < r.length:=by omega
  have key:∀ j,s+j=r.length→(bj r s)[s]?=some a:=fun j hj=>by
   by_cases h1:s < (bj r s).length
   ·obtain ⟨t,ht⟩:=iz r s j
    have hs':(bj r (s+j))[s]?=some a:=by rw [hj]; exact hs
    rw [ht,List.getElem?_append_left h1] at hs'
    exact hs'
   ·
    exfalso
    have stop:∀ i,(bj r (s+i)).length≤s:=fun i=>by
     induction i with
     | zero=>exact Nat.not_lt.mp h1
     | succ i ih=>
      rw [←Nat.add_assoc,dU]
      unfold dg
      rw [List.getElem?_eq_none (by omega)]
      exact ih
    have:=stop j
    rw [hj] at this
    omega
  obtain ⟨j,hj⟩:∃ j,s+1+j=r.length:=⟨r.length - (s+1),by omega⟩
  have hk:=key (j+1) (by omega)
  obtain ⟨t,ht⟩:=iz r (s+1) j
  rw [hj] at ht
  show b∈bj r r.length
  rw [ht]
  refine List.mem_append_left _ ?_
  rw [dU]
  unfold dg
  rw [hk]
  dsimp only
  rw [qg]
  obtain ⟨x,h1,h2⟩:=hw
  refine .inr ?_
  rw [ml h1]
  exact List.mem_of_getElem? h2
 intro b hb
 induction hb with
 | zero=>
  obtain ⟨t,ht⟩:=iz r 0 r.length
  show 0∈bj r r.length
  rw [Nat.zero_add] at ht
  rw [ht]
  exact List.mem_append_left _ (by simp [bj])
 | step h hw ih=>exact closed _ ih _ _ hw
theorem iC {w:Nat} {r:aB} (ok:dS w r):Ord r.length (az r):=by
 have g:=eW ok.pos ok.rng r.length
 have hall:∀ b,b < r.length→b∈az r:=fun b hb=>sg ok.pos ok.rng b (ok.com b hb)
 refine ⟨?_,?_⟩
 ·refine (List.perm_ext_iff_of_nodup g.nd List.nodup_range).mpr fun a=>?_
  rw [List.mem_range]
  exact ⟨fun h=>(g.ok a h).1,fun h=>hall a h⟩
 ·obtain ⟨t,ht⟩:=iz r 0 r.length
  rw [Nat.zero_add] at ht
  show (bj r r.length)[0]?=some 0
  rw [ht]
  rfl
structure Iso (r r':aB) (f:Nat→Nat):Prop where
 len:r.length=r'.length
 zero:f 0=0
 lt:∀ a,a < r.length→f a < r'.length
 inj:∀ a b,a < r.length→b < r.length→f a=f b→a=b
 row:∀ a,a < r.length→rAt r' (f a)=(rAt r a).map (Option.map f)
theorem xM {n:Nat} {f:Nat→Nat} (inj:∀ a b,a < n→b < n→f a=f b→a=b) {found:List Nat} (hf:∀ a∈found,a < n) {o:Option Nat} (ho:∀ b,o=some b→b < n):cT (found.map f) (o.map f)=(cT found o).map f:=by
 cases o with
 | none=>rfl
 | some b=>
  show (if f b∈found.map f then found.map f else found.map f++[f b])=(if b∈found then found else found++[b]).map f
  have:f b∈found.map f↔b∈found:=by
   rw [List.mem_map]
   constructor
   ·rintro ⟨a,ha,e⟩
    rw [←inj a b (hf a ha) (ho b rfl) e]
    exact ha
   ·exact fun h=>⟨b,h,rfl⟩
  by_cases h:b∈found
  ·rw [if_pos (this.mpr h),if_pos h]
  ·rw [if_neg (fun h'=>h (this.mp h')),if_neg h,List.map_append]
   rfl
theorem qo {n:Nat} {f:Nat→Nat} (inj:∀ a b,a < n→b < n→f a=f b→a=b):∀ (x:List (Option Nat)) {found:List Nat},(∀ a∈found,a < n)→(∀ b,some b∈x→b < n)→(x.map (Option.map f)).foldl cT (found.map f)=(x.foldl cT found).map f
 | [],found,hf,hx=>rfl
 | o ::x,found,hf,hx=>by
  rw [List.map_cons,List.foldl_cons,List.foldl_cons,xM inj hf fun b e=>hx b (by rw [e]; exact List.mem_cons_self)]
  refine qo inj x (fun a ha=>?_) fun b hb=>hx b (List.mem_cons_of_mem _ hb)
  rcases addN_mem.mp ha with h | h
  ·exact hf a h
  ·exact hx a (by rw [h]; exact List.mem_cons_self)
theorem qq {r r':aB} {f:Nat→Nat} (pos:0 < r.length) (rng:∀ a k b,way r a k b→b < r.length) (i:Iso r r' f):∀ k,bj r' k=(bj r k).map f
 | 0=>by simp [bj,i.zero]
 | k+1=>by
  rw [dU,dU,qq pos rng i k]
  have g:=eW pos rng k
  unfold dg
  rw [List.getElem?_map]
  cases ha:(bj r k)[k]? with
  | none=>rfl
  | some a=>
   have h:=(g.ok a (List.mem_of_getElem? ha)).1
   show (rAt r' (f a)).foldl cT ((bj r k).map f)=((rAt r a).foldl cT (bj r k)).map f
   rw [i.row a h]
   refine qo i.inj _ (fun a ha=>(g.ok a ha).1) fun b hb=>?_
   obtain ⟨k,hw⟩:=ji h hb
   exact rng _ _ _ hw
theorem vM {r r':aB} {f:Nat→Nat} (pos:0 < r.length) (rng:∀ a k b,way r a k b→b < r.length) (i:Iso r r' f):az r'=(az r).map f:=by
 have:=qq pos rng i r.length
 unfold bj at this
 rw [show az r'=(List.range r'.length).foldl (dg r') [0] from rfl,←i.len]
 exact this
theorem qK {n:Nat} {f:Nat→Nat} (inj:∀ a b,a < n→b < n→f a=f b→a=b) {b:Nat} (hb:b < n):∀ {l:List Nat},(∀ a∈l,a < n)→(l.map f).idxOf (f b)=l.idxOf b
 | [],_=>rfl
 | a ::l,h=>by
  rw [List.map_cons,List.idxOf_cons,List.idxOf_cons,qK inj hb fun a ha=>h a (List.mem_cons_of_mem _ ha)]
  have:(f a ==f b)=(a ==b):=by
   by_cases e:a=b
   ·rw [e]; rw [beq_self_eq_true,beq_self_eq_true]
   ·have h2:f a≠f b:=fun h'=>e (inj a b (h a List.mem_cons_self) hb h')
    rw [beq_eq_false_iff_ne.mpr e,beq_eq_false_iff_ne.mpr h2]
  rw [this]
theorem yk {r r':aB} {f:Nat→Nat} (pos:0 < r.length) (rng:∀ a k b,way r a k b→b < r.length) (i:Iso r r' f):reR (az r') r'=reR (az r) r:=by
 have g:=eW pos rng r.length
 rw [vM pos rng i]
 unfold reR
 rw [List.map_map]
 refine List.map_congr_left fun a ha=>?_
 have hal:=(g.ok a ha).1
 show gi ((az r).map f) (rAt r' (f a))=gi (az r) (rAt r a)
 rw [i.row a hal]
 unfold gi
 rw [List.map_map]
 refine List.map_congr_left fun o ho=>?_
 cases o with
 | none=>rfl
 | some b=>
  obtain ⟨k,hw⟩:=ji hal ho
  show some (((az r).map f).idxOf (f b))=some ((az r).idxOf b)
  rw [qK (l:=az r) i.inj (rng _ _ _ hw) fun a ha=>(g.ok a ha).1]
theorem yL {w w':Nat} {r r':aB} (ok:dS w r) (ok':dS w' r') (h:reR (az r) r=reR (az r') r'):Iso r r' fun a=>nth (az r') ((az r).idxOf a):=by
 have o:=iC ok
 have o':=iC ok'
 have hl:r.length=r'.length:=by
  have:=congrArg List.length h
  unfold reR at this
  rw [List.length_map,List.length_map,o.len,o'.len] at this
  exact this
 have hix:∀ a,a < r.length→(az r).idxOf a < r.length:=fun a ha=>by
  have:=List.idxOf_lt_length_iff.mpr (o.mem.mpr ha)
  rw [o.len] at this
  exact this
 have hn:∀ j,j < r'.length→(az r')[j]?=some (nth (az r') j):=fun j hj=>wa (by rw [o'.len]; exact hj)
 refine ⟨hl,?_,fun a ha=>?_,fun a b ha hb e=>?_,fun a ha=>?_⟩
 ·have h0:(az r).idxOf 0=0:=o.idx o.head
  show nth (az r') ((az r).idxOf 0)=0
  rw [h0]
  have:=hn 0 ok'.pos
  rw [o'.head] at this
  exact (Option.some.inj this).symm
 ·exact o'.mem.mp (List.mem_of_getElem? (hn _ (by rw [←hl]; exact hix a ha)))
 ·have e1:=hn _ (by rw [←hl]; exact hix a ha)
  have e2:=hn _ (by rw [←hl]; exact hix b hb)
  have e:nth (az r') ((az r).idxOf a)=nth (az r') ((az r).idxOf b):=e
  rw [←e] at e2
  have:=(o'.idx e1).symm.trans (o'.idx e2)
  have q1:=o.get ha
  have q2:=o.get hb
  rw [this,q2] at q1
  exact (Option.some.inj q1).symm
 ·
  have hj:=hix a ha
  have e1:(reR (az r) r)[(az r).idxOf a]?=some (gi (az r) (rAt r a)):=by
   unfold reR
   rw [List.getElem?_map,o.get ha]
   rfl
  have e2:(reR (az r') r')[(az r).idxOf a]?=some (gi (az r') (rAt r' (nth (az r') ((az r).idxOf a)))):=by
   unfold reR
   rw [List.getElem?_map,hn _ (by rw [←hl]; exact hj)]
   rfl
  rw [h,e2] at e1
  have e3:=Option.some.inj e1
  unfold gi at e3
  show rAt r' (nth (az r') ((az r).idxOf a))=(rAt r a).map (Option.map fun b=>nth (az r') ((az r).idxOf b))
  have hb':nth (az r') ((az r).idxOf a) < r'.length:=o'.mem.mp (List.mem_of_getElem? (hn _ (by rw [←hl]; exact hj)))
  have back:(rAt r' (nth (az r') ((az r).idxOf a)))=((rAt r' (nth (az r') ((az r).idxOf a))).map (Option.map fun b=>(az r').idxOf b)).map (Option.map fun j=>nth (az r') j):=by
   rw [List.map_map]
   refine (List.map_id _).symm.trans (List.map_congr_left fun o ho=>?_)
   cases o with
   | none=>rfl
   | some b=>
    obtain ⟨k,hw⟩:=ji hb' ho
    have hbl:=ok'.rng _ _ _ hw
    show some b=some (nth (az r') ((az r').idxOf b))
    have:=hn ((az r').idxOf b) (by
     have:=List.idxOf_lt_length_iff.mpr (o'.mem.mpr hbl)
     rw [o'.len] at this
     exact this)
    rw [o'.get hbl] at this
    exact this
  rw [back,e3,List.map_map]
  refine List.map_congr_left fun o ho=>?_
  cases o<;>rfl
end Y
end Mir
namespace Mir
namespace Y
open PySem PySem.Spec PyProof.Rows L2 Mir
theorem rA {m:Mem} {r:aB} {P:D→Mem→Prop} (pos:0 < r.length) (rng:∀ a k b,way r a k b→b < r.length) (hn:r.length≤60000)
  (h:∀ m' q,Kp m m'→m.length≤q→m'[q]?=some (.lst ((az r).map fun i=>D.int (i:Nat)))→P (.ref q) m'):Tri (cD [.tup (r.map bg)] m) P:=by
 refine aZ rfl ?_
 simp [qU,mJ,b9 (n:=r.length) (by omega),-bC]
 have hc1:(m++[Cell.lst [D.int 0]])[m.length]?=some (.lst ((bj r 0).map fun i=>D.int (i:Nat))):=by simp [bj]
 have hk1:Kp m (m++[Cell.lst [D.int 0]]):=(Kp.refl m).push _
 generalize m++[Cell.lst [D.int 0]]=m1 at hc1 hk1
 obtain ⟨Inv,hInv⟩:∃ I:Nat→au→Mem→Prop,∀ k η m',I k η m'↔(Kp m m'∧(∃ e2 e3,η=[some (.tup (r.map bg)),some (.ref m.length),e2,e3])∧m'[m.length]?=some (.lst ((bj r k).map fun i=>D.int (i:Nat)))):=⟨_,fun _ _ _=>Iff.rfl⟩
 refine dJ Inv _ ((hInv _ _ _).mpr ⟨hk1,⟨_,_,rfl⟩,hc1⟩) (fun s d η m2 hd hI=>?_) (fun η m2 hI=>?_)
 ·obtain ⟨hk2,⟨e2,e3,rfl⟩,hc2⟩:=(hInv _ _ _).mp hI
  obtain ⟨hs,rfl⟩:=nf hd
  have g:=eW pos rng s
  have hgl:=g.len
  simp [cx hc2]
  by_cases hsl:s < (bj r s).length
  ·have hat:(bj r s)[s]?=some (bj r s)[s]:=List.getElem?_eq_getElem hsl
   have hstep:bj r (s+1)=(rAt r (bj r s)[s]).foldl cT (bj r s):=by
    rw [dU]
    unfold dg
    rw [hat]
   generalize (bj r s)[s]=a at hat hstep
   have ha:=g.ok a (List.mem_of_getElem? hat)
   have e1:gIx (.ref m.length) (.int (s:Nat)) m2=.ok (.int (a:Nat)) m2:=cK hc2 (atI_nat (by rw [List.getElem?_map,hat]; rfl))
   simp [hsl,e1,kN ha.1]
   have hxb:∀ b,some b∈rAt r a→b < r.length∧Com r b:=fun b hb=>by
    obtain ⟨k,hw⟩:=ji ha.1 hb
    exact ⟨rng _ _ _ hw,.step ha.2 hw⟩
   generalize rAt r a=x at hxb hstep
   simp only [bg]
   simp [-List.length_map]
   refine TriS.toQ ?_
   obtain ⟨J,hJ⟩:∃ I:Nat→au→Mem→Prop,∀ k η m',I k η m'↔(Kp m m'∧(∃ e3,η=[some (.tup (r.map bg)),some (.ref m.length),some (.int (s:Nat)),e3])∧m'[m.length]?=some (.lst (((x.take k).foldl cT (bj r s)).map fun i=>D.int (i:Nat)))):=⟨_,fun _ _ _=>Iff.rfl⟩
   refine dJ J _ ((hJ _ _ _).mpr ⟨hk2,⟨_,rfl⟩,hc2⟩) (fun k d η m3 hd hI=>?_) (fun η m3 hI=>?_)
   ·obtain ⟨hk3,⟨e3,rfl⟩,hc3⟩:=(hJ _ _ _).mp hI
    rw [List.getElem?_map] at hd
    cases ho:x[k]? with
    | none=>rw [ho] at hd; cases hd
    | some o=>
    rw [ho] at hd
    cases hd
    have htk:(x.take (k+1)).foldl cT (bj r s)=cT ((x.take k).foldl cT (bj r s)) o:=by
     rw [List.take_succ,ho,List.foldl_append]
     rfl
    have g3:Srch r ((x.take k).foldl cT (bj r s)):=lg rng _ g fun b hb=>hxb b (List.mem_of_mem_take hb)
    have hg3:=g3.len
    generalize (x.take k).foldl cT (bj r s)=fd at hc3 htk g3 hg3
    cases o with
    | none=>
     simp [oD]
     exact (hJ _ _ _).mpr ⟨hk3,⟨_,rfl⟩,by rw [htk]; exact hc3⟩
    | some b=>
     simp [oD,si hc3]
     by_cases hb:b∈fd
     ·simp [hb]
      refine (hJ _ _ _).mpr ⟨hk3,⟨_,rfl⟩,?_⟩
      rw [htk]
      show m3[m.length]?=some (.lst ((if b∈fd then fd else fd++[b]).map fun i=>D.int (i:Nat)))
      rw [if_pos hb]
      exact hc3
     ·simp [hb,cu hc3,cO hc3 (show (fd.map fun i=>D.int (i:Nat)).length < 1000000 by simp; omega)]
      refine (hJ _ _ _).mpr ⟨hk3.put (Nat.le_refl _) _,⟨_,rfl⟩,?_⟩
      rw [htk,List.getElem?_set_self (List.getElem?_eq_some_iff.mp hc3).1]
      show _=some (Cell.lst ((if b∈fd then fd else fd++[b]).map fun i=>D.int (i:Nat)))
      rw [if_neg hb]
      simp
   ·obtain ⟨hk3,⟨e3,rfl⟩,hc3⟩:=(hJ _ _ _).mp hI
    rw [List.length_map,List.take_length] at hc3
    exact (hInv _ _ _).mpr ⟨hk3,⟨_,_,rfl⟩,by rw [hstep]; exact hc3⟩
  ·have hstep:bj r (s+1)=bj r s:=by
    rw [dU]
    unfold dg
    rw [List.getElem?_eq_none (by omega)]
   simp [hsl]
   exact (hInv _ _ _).mpr ⟨hk2,⟨_,_,rfl⟩,by rw [hstep]; exact hc2⟩
 ·obtain ⟨hk2,⟨e2,e3,rfl⟩,hc2⟩:=(hInv _ _ _).mp hI
  rw [ko] at hc2
  simp [mn]
  exact h m2 _ hk2 (Nat.le_refl _) hc2
theorem gS {m:Mem} {r:aB} {P:D→Mem→Prop} (pos:0 < r.length) (rng:∀ a k b,way r a k b→b < r.length) (hn:r.length≤900)
  (h:∀ m' q,Kp m m'→m.length≤q→m'[q]?=some (.lst ((az r).map fun i=>D.int (i:Nat)))→P (.ref q) m'):Tri (cD [.tup (r.map bg)] m) P:=
 rA pos rng (by omega) h
theorem o6 {k:Nat} {xs:List Nat} {m:Mem} {q:Nat} (hq:m[q]?=some (.lst (xs.map fun i=>D.int (i:Nat)))) (h:k∈xs):cB (.ref q) [.int (k:Nat)] m=.ok (.int ((xs.idxOf k:Nat):Int)) m:=by
 have e:=uR (m:=m) h
 unfold cB at e ⊢
 have e1:ba m (.ref q)=some (xs.map fun i=>D.int (i:Nat)):=by show bW m[q]?=_; rw [hq]; rfl
 have e2:ba m (.lst (xs.map fun i=>D.int (i:Nat)))=some (xs.map fun i=>D.int (i:Nat)):=rfl
 simp only [e1,e2] at e ⊢
 exact e
theorem lV {m:Mem} {c:Cha} {P:D→Mem→Prop} (pos:0 < c.r.length) (rng:∀ a k b,way c.r a k b→b < c.r.length) (wid:∀ x∈c.r,x.length≤900) (hn:c.r.length≤900)
  (h:∀ m',Kp m m'→P (bT ⟨c.n,reR (az c.r) c.r⟩) m'):Tri (eY [bT c] m) P:=by
 refine aZ rfl ?_
 have g:=eW pos rng c.r.length
 have hgl:=g.len
 have hall:=sg pos rng
 simp [pz,bT,lr]
 refine gS pos rng hn fun m1 q hk1 hq1 hm1=>?_
 have hfl:(az c.r).length≤900:=Nat.le_trans hgl hn
 have hfo:∀ a∈az c.r,a < c.r.length∧Com c.r a:=fun a ha=>g.ok a ha
 simp [lD]
 have hc2:(m1++[Cell.lst []])[m1.length]?=some (.lst ((((az c.r).take 0).map fun a=>gi (az c.r) (rAt c.r a)).map bg)):=by simp
 have hk2:Kp m (m1++[Cell.lst []]):=hk1.push _
 have hq2:(m1++[Cell.lst []])[q]?=some (.lst ((az c.r).map fun i=>D.int (i:Nat))):=((Kp.refl m1).push _).get hm1
 have hjq:m1.length≠q:=by have:=(List.getElem?_eq_some_iff.mp hm1).1; omega
 have hmj:m.length≤m1.length:=hk1.1
 generalize m1++[Cell.lst []]=m2 at hc2 hk2 hq2
 generalize m1.length=j at hc2 hjq hmj
 simp [lW,mr hq2]
 obtain ⟨Inv,hInv⟩:∃ I:Nat→au→Mem→Prop,∀ k η m',I k η m'↔(Kp m m'∧(∃ e3 e6,η=[some (.tup [sT c.n,.tup (c.r.map bg)]),some (.ref q),some (.ref j),e3,some (sT c.n),some (.tup (c.r.map bg)),e6])∧m'[q]?=some (.lst ((az c.r).map fun i=>D.int (i:Nat)))∧m'[j]?=some (.lst ((((az c.r).take k).map fun a=>gi (az c.r) (rAt c.r a)).map bg))):=⟨_,fun _ _ _=>Iff.rfl⟩
 refine ou (ds:=(az c.r).map fun i=>D.int (i:Nat)) Inv (by simp) (fun k η m' hk hI=>?_) ((hInv _ _ _).mpr ⟨hk2,⟨_,_,rfl⟩,hq2,hc2⟩) (fun k d η m3 hd hI=>?_) (fun η m3 hI=>?_)
 ·obtain ⟨_,_,hq,_⟩:=(hInv _ _ _).mp hI
  show (bW m'[q]?).map (fun ds=>ds[k]?)=_
  rw [hq]
  rfl
 ·obtain ⟨hk3,⟨e3,e6,rfl⟩,hq3,hc3⟩:=(hInv _ _ _).mp hI
  rw [List.getElem?_map] at hd
  cases ha:(az c.r)[k]? with
  | none=>rw [ha] at hd; cases hd
  | some a=>
  rw [ha] at hd
  cases hd
  have hao:=hfo a (List.mem_of_getElem? ha)
  have hjl:=(List.getElem?_eq_some_iff.mp hc3).1
  have e1:=qP (η:=aR [some (.tup [sT c.n,.tup (c.r.map bg)]),some (.ref q),some (.ref j),some (.int (a:Nat)),some (sT c.n),some (.tup (c.r.map bg)),e6] [6]) (m:=m3) (g:=gNm 6) (t:=bz) (e:=mIf (aG (mOp (gIs false) (ab 6) (mC .non))) (mC .non) (mBM "list" cB (ab 1) (ae (ab 6) ag))) oD (fun o=>oD (o.map fun b=>(az c.r).idxOf b)) (rAt c.r a) (fun o ho=>by
   refine ⟨_,rfl,rfl,?_⟩
   cases o with
   | none=>simp [aR,oD]
   | some b=>
    obtain ⟨kk,hw⟩:=ji hao.1 ho
    have hb:b∈az c.r:=hall b (.step hao.2 hw)
    simp [aR,oD,cu hq3,o6 hq3 hb]) (by have:=wid _ (fP hao.1); omega)
  have hrd:bg (rAt c.r a)=.tup ((rAt c.r a).map oD):=rfl
  have e2:D.tup ((rAt c.r a).map fun o=>oD (o.map fun b=>(az c.r).idxOf b))=bg (gi (az c.r) (rAt c.r a)):=by
   unfold bg gi
   rw [List.map_map]
   rfl
  simp [cu hc3,kN hao.1,hrd,e1,e2]
  have hlen:(((az c.r).take k).map fun a=>gi (az c.r) (rAt c.r a)).length < 1000000:=by simp; omega
  rw [cO hc3 (by simp; omega)]
  simp only [bK]
  refine (hInv _ _ _).mpr ⟨hk3.put hmj _,⟨_,_,rfl⟩,by rw [List.getElem?_set_ne hjq]; exact hq3,?_⟩
  rw [List.getElem?_set_self hjl,List.take_succ,ha]
  simp
 ·obtain ⟨hk3,⟨e3,e6,rfl⟩,hq3,hc3⟩:=(hInv _ _ _).mp hI
  rw [List.length_map,List.take_length] at hc3
  simp [lE,mb hc3]
  have:=h m3 hk3
  simpa [bT,reR] using this
end Y
end Mir
namespace Mir
namespace Y
open PySem PySem.Spec PyProof.Rows L2 Mir
structure EncP {α:Type} [DecidableEq α] (f:α→D) (k:Nat) (S:α→Prop):Prop where
 ex:∃ p:α→PyData,(∀ m n x,S x→toP m (n+k) (f x)=some (p x))∧∀ x y,S x→S y→PyData.eqv (p x) (p y)=decide (x=y)
theorem encP_str:EncP D.str 1 (fun x=>PyData.strOk x=true):=⟨.str,fun m n x hx=>by
 show (if PyData.strOk x=true then some (PyData.str x) else none)=_
 rw [if_pos hx],fun x y _ _=>by
 show (x ==y)=_
 rw [Bool.eq_iff_iff]; simp⟩
theorem ny {α:Type} [DecidableEq α] {p:α→PyData} {S:α→Prop} (h:∀ x y,S x→S y→PyData.eqv (p x) (p y)=decide (x=y)):∀ xs ys:List α,(∀ x∈xs,S x)→(∀ y∈ys,S y)→PyData.eqvAll (xs.map p) (ys.map p)=decide (xs=ys)
 | [],[],_,_=>rfl
 | [],y ::ys,_,_=>by simp [PyData.eqvAll]
 | x ::xs,[],_,_=>by simp [PyData.eqvAll]
 | x ::xs,y ::ys,hx,hy=>by
  show (PyData.eqv (p x) (p y) && PyData.eqvAll (xs.map p) (ys.map p))=_
  rw [h x y (hx x List.mem_cons_self) (hy y List.mem_cons_self),ny h xs ys (fun z hz=>hx z (List.mem_cons_of_mem _ hz)) (fun z hz=>hy z (List.mem_cons_of_mem _ hz)),Bool.eq_iff_iff]
  simp
theorem qD {α:Type} {f:α→D} {p:α→PyData} {S:α→Prop} {m:Mem} {n:Nat} (h:∀ x,S x→toP m n (f x)=some (p x)):∀ xs:List α,(∀ x∈xs,S x)→aF (toP m n) (xs.map f)=some (xs.map p)
 | [],_=>rfl
 | x ::xs,hx=>by
  rw [List.map_cons,List.map_cons]
  unfold aF
  rw [h x (hx x List.mem_cons_self),qD h xs fun z hz=>hx z (List.mem_cons_of_mem _ hz)]
theorem EncP.tup {α:Type} [DecidableEq α] {f:α→D} {k:Nat} {S:α→Prop} (h:EncP f k S):EncP (fun xs:List α=>.tup (xs.map f)) (k+1) (fun xs=>∀ x∈xs,S x):=by
 obtain ⟨p,h1,h2⟩:=h.ex
 exact ⟨fun xs=>.tuple (xs.map p),fun m n xs hx=>by
  show (aF (toP m (n+k)) (xs.map f)).map _=_
  rw [qD (h1 m n) xs hx]; rfl,fun xs ys hx hy=>ny h2 xs ys hx hy⟩
theorem EncP.up {α:Type} [DecidableEq α] {f:α→D} {k j:Nat} {S:α→Prop} (h:EncP f k S) (hj:k≤j):EncP f j S:=by
 obtain ⟨p,h1,h2⟩:=h.ex
 exact ⟨p,fun m n x hx=>by rw [show n+j=(n+(j - k))+k by omega]; exact h1 m _ x hx,h2⟩
theorem EncP.pair {α β:Type} [DecidableEq α] [DecidableEq β] {f:α→D} {g:β→D} {k:Nat} {S:α→Prop} {T:β→Prop} (h:EncP f k S) (h':EncP g k T):EncP (fun p:α×β=>.tup [f p.1,g p.2]) (k+1) (fun p=>S p.1∧T p.2):=by
 obtain ⟨p,h1,h2⟩:=h.ex
 obtain ⟨q,k1,k2⟩:=h'.ex
 exact ⟨fun x=>.tuple [p x.1,q x.2],fun m n x hx=>by
  show (aF (toP m (n+k)) [f x.1,g x.2]).map _=_
  simp [aF,h1 m n _ hx.1,k1 m n _ hx.2],fun x y hx hy=>by
  show (PyData.eqv (p x.1) (p y.1) && (PyData.eqv (q x.2) (q y.2) && true))=_
  rw [h2 _ _ hx.1 hy.1,k2 _ _ hx.2 hy.2,Bool.eq_iff_iff]
  obtain ⟨a,b⟩:=x
  obtain ⟨c,d⟩:=y
  simp⟩
theorem EncP.of {α β:Type} [DecidableEq α] [DecidableEq β] {f:α→D} {k:Nat} {S:α→Prop} (h:EncP f k S) (g:β→α) (hg:∀ x y,g x=g y→x=y):EncP (fun x=>f (g x)) k (fun x=>S (g x)):=by
 obtain ⟨p,h1,h2⟩:=h.ex
 exact ⟨fun x=>p (g x),fun m n x hx=>h1 m n _ hx,fun x y hx hy=>by
  rw [h2 _ _ hx hy,Bool.eq_iff_iff]
  simp
  exact ⟨hg x y,fun e=>by rw [e]⟩⟩
theorem EncP.eq {α:Type} [DecidableEq α] {f:α→D} {k:Nat} {S:α→Prop} (h:EncP f k S) (hk:k≤60) {x y:α} (hx:S x) (hy:S y) (hf:cn (f x)=none) (neg:Bool) (m:Mem):gEq neg (f x) (f y) m=.ok (.bl (decide (x=y)^^neg)) m:=by
 obtain ⟨p,h1,h2⟩:=h.ex
 have e1:=fun x hx=>h1 m (60 - k) x hx
 rw [show 60 - k+k=60 by omega] at e1
 unfold gEq
 rw [hf]
 simp only
 unfold iO
 rw [e1 x hx,e1 y hy]
 simp only [h2 x y hx hy]
def gX (xs:List Str):Prop:=∀ x∈xs,PyData.strOk x=true
theorem encP_sT:EncP sT 2 gX:=encP_str.tup
theorem rP {xs ys:List Str} (hx:gX xs) (hy:gX ys) (neg:Bool) (m:Mem):gEq neg (sT xs) (sT ys) m=.ok (.bl (decide (xs=ys)^^neg)) m:=encP_sT.eq (by decide) hx hy rfl neg m
theorem Nm.good {x:Str} (h:Nm x):PyData.strOk x=true:=by
 rw [←S_of x]
 exact yF fun c hc=>by
  have:=(nS c).mp (h.let' c hc)
  omega
theorem Nms.good {xs:List Str} (h:Nms xs):gX xs:=fun x hx=>Nm.good (h.nm x hx)
instance:DecidableEq Cha:=fun a b=>by
 obtain ⟨n,r⟩:=a
 obtain ⟨n',r'⟩:=b
 by_cases h:n=n'∧r=r'
 ·exact isTrue (by rw [h.1,h.2])
 ·exact isFalse fun e=>h (by injection e with e1 e2; exact ⟨e1,e2⟩)
theorem encP_chaD:EncP bT 4 (fun c=>gX c.n):=by
 have e1:EncP sT 3 gX:=encP_sT.up (by decide)
 have e2:EncP (fun r:aB=>D.tup (r.map bg)) 3 (fun _=>True):=by
  obtain ⟨p,h1,h2⟩:=(enc_oD.tup.tup).ex
  exact ⟨p,fun m n x _=>h1 m n x,fun x y _ _=>h2 x y⟩
 have:=(e1.pair e2).of (fun c:Cha=>(c.n,c.r)) (fun x y e=>by
  obtain ⟨n,r⟩:=x
  obtain ⟨n',r'⟩:=y
  simp at e
  rw [e.1,e.2])
 obtain ⟨p,h1,h2⟩:=this.ex
 exact ⟨p,fun m n x hx=>h1 m n x ⟨hx,trivial⟩,fun x y hx hy=>h2 x y ⟨hx,trivial⟩ ⟨hy,trivial⟩⟩
theorem y3 {c c':Cha} (hx:gX c.n) (hy:gX c'.n) (neg:Bool) (m:Mem):gEq neg (bT c) (bT c') m=.ok (.bl (decide (c=c')^^neg)) m:=encP_chaD.eq (by decide) hx hy rfl neg m
def layL (r r':aB):List Nat:=(List.range r.length).map fun s=>nth (az r') ((az r).idxOf s)
section
variable {m:Mem} {P:D→Mem→Prop}
theorem wc {c c':Cha} (ok:dS c.n.length c.r) (ok':dS c'.n.length c'.r) (hg:gX c.n) (hg':gX c'.n) (hn:c.r.length≤900) (hn':c'.r.length≤900) (hd:c.n.length≤900) (hd':c'.n.length≤900)
  (h1:∀ m',c.n=c'.n→Iso c.r c'.r (fun a=>nth (az c'.r) ((az c.r).idxOf a))→Kp m m'→P (.tup ((layL c.r c'.r).map fun i=>D.int (i:Nat))) m')
  (h2:∀ m',(¬ (c.n=c'.n∧∃ f,Iso c.r c'.r f))→Kp m m'→P .non m'):Tri (kz [bT c,bT c'] m) P:=by
 refine aZ rfl ?_
 simp [vP,la,rP hg hg']
 by_cases e1:c.n=c'.n
 ·simp [e1,jR]
  by_cases e2:c.r.length=c'.r.length
  ·have e2':(c.r.length:Int)=(c'.r.length:Int):=by omega
   simp [e2,qj]
   refine lV ok.pos ok.rng (fun x hx=>by rw [ok.wid x hx]; exact hd) hn fun m1 hk1=>?_
   refine lV ok'.pos ok'.rng (fun x hx=>by rw [ok'.wid x hx]; exact hd') hn' fun m2 hk2=>?_
   have hk2:=hk1.trans hk2
   rw [y3 (c:=⟨c.n,reR (az c.r) c.r⟩) (c':=⟨c'.n,reR (az c'.r) c'.r⟩) hg hg']
   by_cases e3:reR (az c.r) c.r=reR (az c'.r) c'.r
   ·have iso:=yL ok ok' e3
    simp [e1,e3,qn,jR]
    refine gS ok.pos ok.rng hn fun m3 q3 hk3 hq3 hm3=>?_
    simp [q6,jR]
    refine gS ok'.pos ok'.rng hn' fun m4 q4 hk4 hq4 hm4=>?_
    have hm3:=hk4.get hm3
    have o:=iC ok
    have o':=iC ok'
    simp [q5,cx hm3,o.len,b9 (n:=c.r.length) (by omega),rngD_nat,-bC]
    refine ip (fun k:Nat=>D.int ((k:Nat):Int)) (fun s=>D.int ((nth (az c'.r) ((az c.r).idxOf s):Nat):Int)) (List.range c.r.length) (fun s hs=>?_) (by simp; omega) ?_
    ·have hs:s < c.r.length:=by simpa using hs
     have hix:(az c.r).idxOf s < c'.r.length:=by
      have:=List.idxOf_lt_length_iff.mpr (o.mem.mpr hs)
      rw [o.len] at this
      omega
     have g1:gIx (.ref q4) (.int (((az c.r).idxOf s:Nat):Int)) m4=.ok (.int ((nth (az c'.r) ((az c.r).idxOf s):Nat):Int)) m4:=cK hm4 (atI_nat (by rw [List.getElem?_map,wa (by rw [o'.len]; exact hix)]; rfl))
     exact ⟨_,rfl,rfl,by simp [aR,cu hm3,o6 hm3 (o.mem.mpr hs),g1]⟩
    ·have:=h1 m4 e1 iso ((hk2.trans hk3).trans hk4)
     unfold layL at this
     rw [List.map_map] at this
     exact this
   ·simp [e3]
    exact h2 m2 (fun ⟨_,f,i⟩=>e3 (yk ok.pos ok.rng i).symm) hk2
  ·have e2':¬ ((c.r.length:Int)=(c'.r.length:Int)):=by omega
   simp [e2,e2']
   exact h2 m (fun ⟨_,f,i⟩=>e2 i.len) (Kp.refl m)
 ·simp [e1]
  exact h2 m (fun ⟨e,_⟩=>e1 e) (Kp.refl m)
end
end Y
end Mir
namespace Mir
namespace Y
open PySem PySem.Spec PyProof.Rows L2 Mir
variable {hs:List Hea} {st0:List Int}
theorem uH {st:List Int} {rows:aB}:∀ (n:Nat) {sts:List (List Int)} {x:List (Option Nat)},Wk hs st0 sts (rows++[x])→sts[rows.length]?=some st→
  Wk hs st0 (cj hs st (List.range' x.length n) sts).1 (rows++[x++(cj hs st (List.range' x.length n) sts).2])∧∃ t,(cj hs st (List.range' x.length n) sts).1=sts++t
 | 0,sts,x,w,hst=>by simpa [cj] using w
 | n+1,sts,x,w,hst=>by
  rw [List.range'_succ]
  have key:∃ t,(cQ hs st sts x.length).1=sts++t∧Wk hs st0 (sts++t) (rows++[x++[(cQ hs st sts x.length).2]]):=by
   unfold cQ
   cases hth:bE hs st x.length with
   | false=>
    refine ⟨[],by simp,?_⟩
    have:=w.mono (extra:=[]) (o:=none) hst (fun _=>hth) (fun b e=>by cases e) (by simpa using w.nd) (fun b h1 h2=>by simp at h2; omega)
    simpa using this
   | true=>
    by_cases hin:aM hs st x.length∈sts
    ·refine ⟨[],by simp [hin],?_⟩
     have:=w.mono (extra:=[]) (o:=some (sts.idxOf (aM hs st x.length))) hst (fun e=>by cases e) (fun b e=>by
      cases e
      refine ⟨hth,?_⟩
      rw [List.append_nil,List.getElem?_eq_getElem (List.idxOf_lt_length_iff.mpr hin),List.getElem_idxOf]) (by simpa using w.nd) (fun b h1 h2=>by simp at h2; omega)
     simpa [hin] using this
    ·refine ⟨[aM hs st x.length],by simp [hin],?_⟩
     have hnd:(sts++[aM hs st x.length]).Nodup:=by
      rw [List.nodup_append]
      refine ⟨w.nd,by simp,fun a ha c hc=>?_⟩
      have:c=aM hs st x.length:=by simpa using hc
      rw [this]
      exact fun e=>hin (e▸ha)
     have:=w.mono (extra:=[aM hs st x.length]) (o:=some sts.length) hst (fun e=>by cases e) (fun b e=>by
      cases e
      exact ⟨hth,by simp⟩) hnd (fun b h1 h2=>by simp at h2; congr 1; omega)
     simpa [hin] using this
  obtain ⟨t,h1,h2⟩:=key
  have hst2:(sts++t)[rows.length]?=some st:=by rw [List.getElem?_append_left (List.getElem?_eq_some_iff.mp hst).1]; exact hst
  obtain ⟨k1,u,k2⟩:=uH n h2 hst2
  rw [List.length_append,List.length_singleton] at k1 k2
  unfold cj
  rw [h1]
  exact ⟨by simpa using k1,t++u,by rw [k2,List.append_assoc]⟩
theorem xA {st:List Int} {rows:aB} {sts:List (List Int)} (w:Nat) (h:Wk hs st0 sts rows) (hst:sts[rows.length]?=some st) :
  Wk hs st0 (cj hs st (List.range w) sts).1 (rows++[(cj hs st (List.range w) sts).2])∧∃ t,(cj hs st (List.range w) sts).1=sts++t:=by
 have:=uH w h.nil hst
 rw [List.length_nil,←List.range_eq_range'] at this
 simpa using this
structure WkE (hs:List Hea) (st0:List Int) (w most:Nat) (sts:List (List Int)) (rows:aB):Prop where
 wk:Wk hs st0 sts rows
 le:rows.length≤sts.length
 wid:∀ x∈rows,x.length=w
 fin:sts.length≤most→rows.length=sts.length
theorem s8 {w most:Nat}:∀ (f:Nat) {sts:List (List Int)} {rows:aB},Wk hs st0 sts rows→rows.length≤sts.length→(∀ x∈rows,x.length=w)→f+rows.length=most→WkE hs st0 w most (cZ hs w most f sts rows).1 (cZ hs w most f sts rows).2
 | 0,sts,rows,h,hle,hw,hf=>⟨h,hle,hw,fun h1=>by show rows.length=sts.length; have h1:sts.length≤most:=h1; omega⟩
 | f+1,sts,rows,h,hle,hw,hf=>by
  unfold cZ
  split
  ·rename_i hc
   have hst:sts[rows.length]?=some (stA sts rows.length):=by
    unfold stA
    rw [List.getD_eq_getElem?_getD,List.getElem?_eq_getElem hc.1]
    rfl
   obtain ⟨k1,t,k2⟩:=xA w h hst
   have hl:=(sY hs (stA sts rows.length) (List.range w) sts).2
   refine s8 f k1 ?_ (fun x hx=>?_) (by simp; omega)
   ·rw [k2]
    simp
    omega
   ·rcases List.mem_append.mp hx with hx | hx
    ·exact hw x hx
    ·rw [List.mem_singleton.mp hx,hl,List.length_range]
  ·rename_i hc
   exact ⟨h,hle,hw,fun h1=>by
    show rows.length=sts.length
    have h1:sts.length≤most:=h1
    omega⟩
theorem dG (y:Yar) (most:Nat):WkE y.h (y.h.map Hea.s) y.d.length most (aL y most).1 (aL y most).2:=
 s8 most ⟨by simp,rfl,fun a k x o e=>by simp at e,fun b hb=>.inl (by simpa using hb)⟩ (by simp) (by simp) (by simp)
structure Doe (hs:List Hea) (w:Nat) (r:aB) (S:Nat→List Int):Prop where
 zero:S 0=hs.map Hea.s
 inj:∀ a b,a < r.length→b < r.length→S a=S b→a=b
 go:∀ a k b,way r a k b→bE hs (S a) k=true∧aM hs (S a) k=S b
 no:∀ a k,a < r.length→k < w→oAt (rAt r a) k=none→bE hs (S a) k=false
variable {sts:List (List Int)} {rows:aB} {w most:Nat} {r:aB} {S:Nat→List Int}
theorem kB {r:aB} {a k:Nat} (ha:a < r.length) {b:Nat} (h:oAt (rAt r a) k=some b):way r a k b:=by
 refine ⟨rAt r a,fA ha,?_⟩
 unfold oAt at h
 rw [List.getD_eq_getElem?_getD] at h
 cases hx:(rAt r a)[k]? with
 | none=>rw [hx] at h; cases h
 | some o=>rw [hx] at h; exact congrArg some h
theorem uG {r:aB} {a k b:Nat} (h:way r a k b):oAt (rAt r a) k=some b:=by
 obtain ⟨x,h1,h2⟩:=h
 rw [ml h1,kH h2]
theorem Doe.all (d:Doe hs w r S) (ok:dS w r) (wk:Wk hs (hs.map Hea.s) sts rows) (hw:∀ x∈rows,x.length=w):∀ (n b:Nat),b≤n→b < sts.length→∃ a,a < r.length∧sts[b]?=some (S a):=by
 intro n
 induction n with
 | zero=>
  intro b hb hl
  have:b=0:=by omega
  subst this
  exact ⟨0,ok.pos,by rw [wk.st0,d.zero]⟩
 | succ n ih=>
  intro b hb hl
  rcases wk.com b hl with h | ⟨i,k,hib,x,hx,hk⟩
  ·subst h
   exact ⟨0,ok.pos,by rw [wk.st0,d.zero]⟩
  ·obtain ⟨st,h1,_,h3⟩:=wk.row i k x (some b) hx hk
   obtain ⟨h4,h5⟩:=h3 b rfl
   obtain ⟨a,ha,e⟩:=ih i (by omega) (by omega)
   rw [e] at h1
   cases h1
   have hkw:k < w:=by
    have:=(List.getElem?_eq_some_iff.mp hk).1
    rw [hw x (List.mem_of_getElem? hx)] at this
    exact this
   cases ho:oAt (rAt r a) k with
   | none=>rw [d.no a k ha hkw ho] at h4; cases h4
   | some a'=>
    have hway:=kB ha ho
    exact ⟨a',ok.rng _ _ _ hway,by rw [h5,(d.go a k a' hway).2]⟩
theorem Doe.few (d:Doe hs w r S) (ok:dS w r) (wk:Wk hs (hs.map Hea.s) sts rows) (hw:∀ x∈rows,x.length=w):sts.length≤r.length:=by
 have hall:=fun b hb=>d.all ok wk hw b b (Nat.le_refl _) hb
 have hex:∃ f:Nat→Nat,∀ b,b < sts.length→f b < r.length∧sts[b]?=some (S (f b)):=by
  refine ⟨fun b=>if h:b < sts.length then Classical.choose (hall b h) else 0,fun b hb=>?_⟩
  simp only [dif_pos hb]
  exact Classical.choose_spec (hall b hb)
 obtain ⟨f,hf⟩:=hex
 have nd:((List.range sts.length).map f).Nodup:=by
  rw [List.nodup_iff_pairwise_ne,List.pairwise_map]
  refine List.Pairwise.imp_of_mem (fun {a b} ha hb hab=>?_) (List.nodup_iff_pairwise_ne.mp List.nodup_range)
  intro e
  have h1:=hf a (by simpa using ha)
  have h2:=hf b (by simpa using hb)
  rw [e,←h2.2] at h1
  exact hab ((List.getElem?_inj (by simpa using ha) wk.nd).mp h1.2)
 have:=iA r.length _ nd fun a ha=>by
  obtain ⟨b,hb,rfl⟩:=List.mem_map.mp ha
  exact (hf b (by simpa using hb)).1
 simpa using this
theorem Doe.met (d:Doe hs w r S) (ok:dS w r) (e:WkE hs (hs.map Hea.s) w most sts rows) (hf:rows.length=sts.length):∀ a,Com r a→S a∈sts:=by
 intro a ha
 induction ha with
 | zero=>rw [d.zero]; exact List.mem_of_getElem? e.wk.st0
 | @step a k b hc hw ih=>
  obtain ⟨i,hi⟩:=List.mem_iff_getElem?.mp ih
  have hil:i < rows.length:=by rw [hf]; exact (List.getElem?_eq_some_iff.mp hi).1
  have hk:k < (rAt rows i).length:=by
   rw [e.wid _ (fP hil)]
   obtain ⟨x,h1,h2⟩:=hw
   rw [←ok.wid x (List.mem_of_getElem? h1)]
   exact (List.getElem?_eq_some_iff.mp h2).1
  obtain ⟨st,h1,h2,h3⟩:=e.wk.row i k _ _ (fA hil) (dy hk)
  rw [hi] at h1
  cases h1
  obtain ⟨g1,g2⟩:=d.go a k b hw
  cases ho:oAt (rAt rows i) k with
  | none=>rw [h2 ho] at g1; cases g1
  | some j=>rw [←g2]; exact List.mem_of_getElem? (h3 j ho).2
theorem Doe.len (d:Doe hs w r S) (ok:dS w r) (e:WkE hs (hs.map Hea.s) w r.length sts rows):sts.length=r.length∧rows.length=sts.length:=by
 have h1:=d.few ok e.wk e.wid
 have h2:=e.fin h1
 refine ⟨Nat.le_antisymm h1 ?_,h2⟩
 have hm:=d.met ok e h2
 have nd:((List.range r.length).map fun a=>sts.idxOf (S a)).Nodup:=by
  rw [List.nodup_iff_pairwise_ne,List.pairwise_map]
  refine List.Pairwise.imp_of_mem (fun {a b} ha hb hab=>?_) (List.nodup_iff_pairwise_ne.mp List.nodup_range)
  intro q
  have ha:a < r.length:=by simpa using ha
  have hb:b < r.length:=by simpa using hb
  have e1:=List.getElem_idxOf (List.idxOf_lt_length_iff.mpr (hm a (ok.com a ha)))
  have e2:=List.getElem_idxOf (List.idxOf_lt_length_iff.mpr (hm b (ok.com b hb)))
  refine hab (d.inj a b ha hb ?_)
  rw [←e1,←e2]
  congr 1
 have:=iA sts.length _ nd fun i hi=>by
  obtain ⟨a,ha,rfl⟩:=List.mem_map.mp hi
  exact List.idxOf_lt_length_iff.mpr (hm a (ok.com a (by simpa using ha)))
 simpa using this
end Y
end Mir
namespace Mir
namespace Y
open PySem PySem.Spec PyProof.Rows L2 Mir
section
variable {hs:List Hea} {sts:List (List Int)} {rows:aB} {w:Nat} {r:aB} {S:Nat→List Int}
theorem sM {ns:List Str} (h:∀ k,k < ns.length→∃ a b,way rows a k b):bx ns.length rows=List.range ns.length:=by
 unfold bx
 refine List.filter_eq_self.mpr fun k hk=>?_
 obtain ⟨a,b,x,h1,h2⟩:=h k (by simpa using hk)
 exact List.any_eq_true.mpr ⟨x,List.mem_of_getElem? h1,by rw [kH h2]; rfl⟩
theorem kL {ns:List Str} (hd:bx ns.length rows=List.range ns.length) (hw:∀ x∈rows,x.length=ns.length):bI ns rows=⟨ns,rows⟩:=by
 unfold bI
 rw [hd,uz]
 congr 1
 refine (List.map_congr_left fun x hx=>?_).trans (List.map_id rows)
 refine List.ext_getElem? fun k=>?_
 by_cases hk:k < ns.length
 ·rw [List.getElem?_map,List.getElem?_range hk]
  exact (dy (by rw [hw x hx]; exact hk)).symm
 ·rw [List.getElem?_eq_none (by simp; omega),List.getElem?_eq_none (by have:=hw x hx; show x.length≤k; omega)]
theorem r8 {ns:List Str} (nd:ns.Nodup) (h:(bI ns rows).n=ns):bx ns.length rows=List.range ns.length:=by
 have h1:(bx ns.length rows).length=ns.length:=by
  have:=congrArg List.length h
  simpa [bI] using this
 unfold bx at h1 ⊢
 refine List.Sublist.eq_of_length List.filter_sublist ?_
 rw [h1,List.length_range]
theorem Doe.iso (d:Doe hs w r S) (ok:dS w r) (e:WkE hs (hs.map Hea.s) w r.length sts rows):(∀ k,k < w→∃ a b,way rows a k b)∧∃ f,Iso rows r f:=by
 obtain ⟨hl,hf⟩:=d.len ok e
 have hm:=d.met ok e hf
 have hall:=fun b hb=>d.all ok e.wk e.wid b b (Nat.le_refl _) hb
 have hex:∃ f:Nat→Nat,∀ b,b < sts.length→f b < r.length∧sts[b]?=some (S (f b)):=by
  refine ⟨fun b=>if h:b < sts.length then Classical.choose (hall b h) else 0,fun b hb=>?_⟩
  simp only [dif_pos hb]
  exact Classical.choose_spec (hall b hb)
 obtain ⟨f,hf2⟩:=hex
 have entry:∀ i k,i < rows.length→k < w→oAt (rAt r (f i)) k=(oAt (rAt rows i) k).map f:=fun i k hi hk=>by
  have hi2:=hf2 i (by omega)
  obtain ⟨st,h1,h2,h3⟩:=e.wk.row i k _ _ (fA hi) (dy (by rw [e.wid _ (fP hi)]; exact hk))
  rw [hi2.2] at h1
  cases h1
  cases ho:oAt (rAt rows i) k with
  | none=>
   have hno:=h2 ho
   cases hq:oAt (rAt r (f i)) k with
   | none=>rfl
   | some b=>rw [(d.go _ _ _ (kB hi2.1 hq)).1] at hno; cases hno
  | some j=>
   obtain ⟨h4,h5⟩:=h3 j ho
   cases hq:oAt (rAt r (f i)) k with
   | none=>rw [d.no _ _ hi2.1 hk hq] at h4; cases h4
   | some b=>
    have hway:=kB hi2.1 hq
    have hj:=hf2 j (List.getElem?_eq_some_iff.mp h5).1
    rw [h5,(d.go _ _ _ hway).2] at hj
    show some b=some (f j)
    rw [d.inj b (f j) (ok.rng _ _ _ hway) hj.1 (Option.some.inj hj.2)]
 refine ⟨fun k hk=>?_,f,by omega,?_,fun a ha=>(hf2 a (by omega)).1,fun a b ha hb q=>?_,fun i hi=>?_⟩
 ·obtain ⟨a,b,hw⟩:=ok.deed k hk
  have haw:=(pC ok.wid hw).1
  obtain ⟨i,hi⟩:=List.mem_iff_getElem?.mp (hm a (ok.com a haw))
  have hil:=(List.getElem?_eq_some_iff.mp hi).1
  have e1:=hf2 i hil
  rw [hi] at e1
  have e2:=d.inj a (f i) haw e1.1 (Option.some.inj e1.2)
  have e3:=entry i k (by omega) hk
  rw [←e2,uG hw] at e3
  cases ho:oAt (rAt rows i) k with
  | none=>rw [ho] at e3; cases e3
  | some j=>exact ⟨i,j,kB (by omega) ho⟩
 ·have e1:=hf2 0 (List.getElem?_eq_some_iff.mp e.wk.st0).1
  rw [e.wk.st0] at e1
  have e2:=Option.some.inj e1.2
  rw [←d.zero] at e2
  exact (d.inj 0 (f 0) ok.pos e1.1 e2).symm
 ·have e1:=hf2 a (by omega)
  have e2:=hf2 b (by omega)
  rw [q,←e2.2] at e1
  exact (List.getElem?_inj (by omega) e.wk.nd).mp e1.2
 ·have hi2:=(hf2 i (by omega)).1
  refine List.ext_getElem? fun k=>?_
  have l1:=ok.wid _ (fP hi2)
  have l2:=e.wid _ (fP hi)
  by_cases hk:k < w
  ·rw [dy (by omega),List.getElem?_map,dy (by omega)]
   exact congrArg some (entry i k hi hk)
  ·rw [List.getElem?_eq_none (by omega),List.getElem?_eq_none (by simp; omega)]
theorem va {f:Nat→Nat} {most:Nat} (ok:dS w r) (e:WkE hs (hs.map Hea.s) w most sts rows) (hf:rows.length=sts.length) (i:Iso rows r f):∃ S,Doe hs w r S:=by
 have hl:sts.length=r.length:=by rw [←hf]; exact i.len
 have sur:∀ a,a < r.length→∃ j,j < rows.length∧f j=a:=fun a ha=>by
  have nd:((List.range rows.length).map f).Nodup:=by
   rw [List.nodup_iff_pairwise_ne,List.pairwise_map]
   refine List.Pairwise.imp_of_mem (fun {x y} hx hy hxy=>?_) (List.nodup_iff_pairwise_ne.mp List.nodup_range)
   exact fun q=>hxy (i.inj x y (by simpa using hx) (by simpa using hy) q)
  have:=vq nd (fun b hb=>by
   obtain ⟨j,hj,rfl⟩:=List.mem_map.mp hb
   exact i.lt j (by simpa using hj)) (by simp [i.len]) ha
  obtain ⟨j,hj,e⟩:=List.mem_map.mp this
  exact ⟨j,by simpa using hj,e⟩
 have hex:∃ g:Nat→Nat,∀ a,a < r.length→g a < rows.length∧f (g a)=a:=by
  refine ⟨fun a=>if h:a < r.length then Classical.choose (sur a h) else 0,fun a ha=>?_⟩
  simp only [dif_pos ha]
  exact Classical.choose_spec (sur a ha)
 obtain ⟨g,hg⟩:=hex
 have gf:∀ j,j < rows.length→g (f j)=j:=fun j hj=>by
  have h1:=hg (f j) (i.lt j hj)
  exact i.inj _ _ h1.1 hj h1.2
 have hst:∀ a,a < r.length→sts[g a]?=some (stA sts (g a)):=fun a ha=>by
  unfold stA
  rw [List.getD_eq_getElem?_getD,List.getElem?_eq_getElem (by have:=(hg a ha).1; omega)]
  rfl
 have rowE:∀ a k,a < r.length→k < w→oAt (rAt r a) k=(oAt (rAt rows (g a)) k).map f:=fun a k ha hk=>by
  have h1:=i.row (g a) (hg a ha).1
  rw [(hg a ha).2] at h1
  rw [h1]
  unfold oAt
  rw [List.getD_eq_getElem?_getD,List.getD_eq_getElem?_getD,List.getElem?_map]
  cases (rAt rows (g a))[k]?<;>rfl
 refine ⟨fun a=>stA sts (g a),?_,fun a b ha hb q=>?_,fun a k b hw=>?_,fun a k ha hk ho=>?_⟩
 ·have h0:=gf 0 (by rw [i.len]; exact ok.pos)
  rw [i.zero] at h0
  show stA sts (g 0)=_
  rw [h0]
  unfold stA
  rw [List.getD_eq_getElem?_getD,e.wk.st0]
  rfl
 ·have h1:=hst a ha
  have h2:=hst b hb
  have q:stA sts (g a)=stA sts (g b):=q
  rw [q,←h2] at h1
  have:=(List.getElem?_inj (by have:=(hg a ha).1; omega) e.wk.nd).mp h1
  rw [←(hg a ha).2,←(hg b hb).2,this]
 ·have ha:=(pC ok.wid hw).1
  have hk:=(pC ok.wid hw).2
  have h1:=rowE a k ha hk
  rw [uG hw] at h1
  obtain ⟨st,h2,h3,h4⟩:=e.wk.row (g a) k _ _ (fA (hg a ha).1) (dy (by rw [e.wid _ (fP (hg a ha).1)]; exact hk))
  rw [hst a ha] at h2
  cases h2
  cases ho:oAt (rAt rows (g a)) k with
  | none=>rw [ho] at h1; cases h1
  | some j=>
   rw [ho] at h1
   obtain ⟨h5,h6⟩:=h4 j ho
   refine ⟨h5,?_⟩
   have e1:b=f j:=Option.some.inj h1
   have hj:j < rows.length:=by rw [hf]; exact (List.getElem?_eq_some_iff.mp h6).1
   have h7:=hst b (ok.rng _ _ _ hw)
   rw [e1,gf j hj,h6] at h7
   show _=stA sts (g b)
   rw [e1,gf j hj]
   exact Option.some.inj h7
 ·obtain ⟨st,h2,h3,h4⟩:=e.wk.row (g a) k _ _ (fA (hg a ha).1) (dy (by rw [e.wid _ (fP (hg a ha).1)]; exact hk))
  rw [hst a ha] at h2
  cases h2
  refine h3 ?_
  have h1:=rowE a k ha hk
  rw [ho] at h1
  cases hq:oAt (rAt rows (g a)) k with
  | none=>rfl
  | some j=>rw [hq] at h1; cases h1
end
section
variable {m:Mem} {P:D→Mem→Prop}
theorem vD {y:Yar} {c:Cha} (hf:Fit y.d.length y.h) (nm:Nms y.d) (ok:dS c.n.length c.r) (hg:gX c.n) (hl:y.h.length≤900) (hd:y.d.length≤900) (hn:c.r.length≤800)
  (h1:∀ m',y.d=c.n→(∃ S,Doe y.h c.n.length c.r S)→Kp m m'→P (.bl true) m') (h2:∀ m',¬ (y.d=c.n∧∃ S,Doe y.h c.n.length c.r S)→Kp m m'→P (.bl false) m'):Tri (gg [aS y,bT c] m) P:=by
 refine aZ rfl ?_
 have nd:=Nms.nodup nm
 have e:=dG y c.r.length
 simp [vw,jR,qZ]
 refine gU hf nd hl hd (by omega) fun m1 js jr rs hk1 hjs hjr hms hmr hrc=>?_
 have g0:∀ m,gIx (aS y) (.int 0) m=.ok (sT y.d) m:=fun m=>by simp [aS]
 simp [qk,g0,la,rP (Nms.good nm) hg]
 by_cases e1:y.d=c.n
 ·simp [e1,cx hms]
  by_cases e2:(aL y c.r.length).1.length=c.r.length
  ·have hfin:=e.fin (by omega)
   have hwl:=e.wid
   rw [e1] at e
   simp [e2,qV]
   refine ly hmr hrc hwl hd (by omega) fun m2 hk2=>?_
   have okf:=(nc nm (dG y c.r.length).wk hfin hwl)
   have hk2:=hk1.trans hk2
   simp [qY,la,rP (Nms.good okf.nms) hg]
   by_cases e3:(bI y.d (aL y c.r.length).2).n=c.n
   ·have hfull:=r8 nd (by rw [e3,e1])
    have hsel:=kL hfull hwl
    simp [e3]
    rw [hsel] at okf ⊢
    have okr:dS y.d.length (aL y c.r.length).2:=okf.rows
    refine wc (c:=⟨y.d,(aL y c.r.length).2⟩) okr ok (Nms.good nm) hg (by show (aL y c.r.length).2.length≤900; omega) (by omega) hd (by rw [←e1]; exact hd) (fun m3 _ iso hk3=>?_) (fun m3 hno hk3=>?_)
    ·simp
     have:=va ok e hfin iso
     exact h1 m3 e1 this (hk2.trans hk3)
    ·simp
     refine h2 m3 (fun ⟨_,S,dd⟩=>hno ⟨e1,?_⟩) (hk2.trans hk3)
     exact (dd.iso ok e).2
   ·simp [e3]
    refine h2 m2 (fun ⟨_,S,dd⟩=>e3 ?_) hk2
    have hda:=(dd.iso ok e).1
    rw [kL (sM (by rw [e1]; exact hda)) hwl]
    exact e1
  ·have e2':¬ (((aL y c.r.length).1.length:Int)=(c.r.length:Int)):=by omega
   simp [e2,e2']
   refine h2 m1 (fun ⟨_,S,dd⟩=>e2 ?_) hk1
   rw [e1] at e
   exact (dd.len ok e).1
 ·simp [e1]
  exact h2 m1 (fun h=>e1 h.1) hk1
end
end Y
end Mir
namespace Mir
namespace Y
open PySem PySem.Spec PyProof.Rows L2 Mir
instance:DecidableEq Hea:=fun a b=>by
 obtain ⟨s,t,l⟩:=a
 obtain ⟨s',t',l'⟩:=b
 by_cases h:s=s'∧t=t'∧l=l'
 ·exact isTrue (by rw [h.1,h.2.1,h.2.2])
 ·exact isFalse fun e=>h (by injection e with e1 e2 e3; exact ⟨e1,e2,e3⟩)
end Y
end Mir
namespace Mir
namespace Y
open PySem PySem.Spec PyProof.Rows L2 Mir
theorem kg (hs:List Hea) (st:List Int) (k:Nat):∀ (ks:List Nat) (sts:List (List Int)),cj hs st (ks++[k]) sts=((cQ hs st (cj hs st ks sts).1 k).1,(cj hs st ks sts).2++[(cQ hs st (cj hs st ks sts).1 k).2])
 | [],sts=>rfl
 | z ::ks,sts=>by
  rw [List.cons_append]
  unfold cj
  rw [kg hs st k ks]
  rfl
theorem oQ {m:Mem} {y:Yar} {most:Nat} {P:D→Mem→Prop} (hf:Fit y.d.length y.h) (hl:y.h.length≤900) (hd:y.d.length≤900) (hm:most≤900)
  (h1:∀ m' j,(aL y most).1.length≤most→Kp m m'→m.length≤j→m'[j]?=some (.lst ((aL y most).1.map iT))→P (.tup [.tup ((aL y most).2.map bg),.ref j]) m')
  (h2:∀ m',most < (aL y most).1.length→Kp m m'→P .non m'):Tri (dO [aS y,.int (most:Nat)] m) P:=by
 refine aZ rfl ?_
 simp [lF,aS,jo]
 rw [b4 bA (fun h=>D.int h.s) y.h [] (fun h _=>⟨_,rfl,rfl,by simp [aR,bA]⟩) (by simp; omega)]
 have e0:D.tup (y.h.map fun h=>D.int h.s)=iT (y.h.map Hea.s):=by unfold iT; rw [List.map_map]; rfl
 simp [e0,jz]
 have hs1:(m++[Cell.lst [iT (y.h.map Hea.s)],Cell.lst []])[m.length]?=some (.lst ([y.h.map Hea.s].map iT)):=by simp
 have hr1:(m++[Cell.lst [iT (y.h.map Hea.s)],Cell.lst []])[m.length+1]?=some (.lst (([]:aB).map bg)):=by
  rw [List.getElem?_append_right (by simp)]; simp
 have hk1:Kp m (m++[Cell.lst [iT (y.h.map Hea.s)],Cell.lst []]):=by
  have:=((Kp.refl m).push (Cell.lst [iT (y.h.map Hea.s)])).push (Cell.lst [])
  simpa using this
 generalize m++[Cell.lst [iT (y.h.map Hea.s)],Cell.lst []]=m1 at hs1 hr1 hk1
 simp [jq]
 refine qA (fun n η m'=>∃ sts rows,n+rows.length=most∧cZ y.h y.d.length most n sts rows=aL y most∧rows.length≤sts.length∧sts.length≤1+900*rows.length∧(∀ x∈rows,x.length=y.d.length)∧
   (∃ e6 e7 e8 e9,η=[some (D.tup [sT y.d,D.tup (List.map bA y.h)]),some (D.int (most:Nat)),some (D.ref m.length),some (D.ref (m.length+1)),some (sT y.d),some (D.tup (List.map bA y.h)),e6,e7,e8,e9,none,none])∧
   Kp m m'∧m'[m.length]?=some (.lst (sts.map iT))∧m'[m.length+1]?=some (.lst (rows.map bg))) most (by omega) ⟨[y.h.map Hea.s],[],by simp,rfl,by simp,by simp,by simp,⟨_,_,_,_,rfl⟩,hk1,hs1,hr1⟩ ?_
 rintro n η m' ⟨sts,rows,hn,w,hle,hbig,hwid,⟨e6,e7,e8,e9,rfl⟩,hkp,hs,hr⟩
 simp [cx hs,cx hr]
 have hend:rows.length=sts.length∨most < sts.length→TriS (gp [some (D.tup [sT y.d,D.tup (List.map bA y.h)]),some (D.int ↑most),some (D.ref (List.length m)),some (D.ref (List.length m+1)),some (sT y.d),some (D.tup (List.map bA y.h)),e6,e7,e8,e9,none,none] m') (fun x m=>P D.non m) P:=by
  intro hq
  simp [gp,mb hr,cx hs]
  have e:=mN (hs:=y.h) (w:=y.d.length) (most:=most) n (sts:=sts) (rows:=rows) (by omega)
  rw [w] at e
  by_cases hgt:most < sts.length
  ·simp [hgt]
   exact h2 m' (by rw [e]; exact hgt) hkp
  ·simp [hgt]
   have:=h1 m' m.length (by rw [e]; show sts.length≤most; omega) hkp (Nat.le_refl _) (by rw [e]; exact hs)
   rw [e] at this
   exact this
 by_cases hlt:rows.length < sts.length
 ·rw [if_pos hlt]
  by_cases hmo:sts.length≤most
  ·rw [if_pos hmo]
   simp [jX]
   have hkx:m'.length≠m.length:=by have:=(List.getElem?_eq_some_iff.mp hs).1; omega
   have hkr:m'.length≠m.length+1:=by have:=(List.getElem?_eq_some_iff.mp hr).1; omega
   have hs:=(Kp.refl m').push (Cell.lst []) |>.get hs
   have hr:=(Kp.refl m').push (Cell.lst []) |>.get hr
   have hx:(m'++[Cell.lst []])[m'.length]?=some (.lst (([]:List (Option Nat)).map oD)):=by simp
   have hml:m.length≤m'.length:=hkp.1
   have hkp:=hkp.push (Cell.lst [])
   generalize hjx:m'.length=jx at hkx hkr hx hml
   generalize m'++[Cell.lst []]=m2 at hs hr hx hkp
   obtain ⟨st,hst⟩:∃ st,sts[rows.length]?=some st:=⟨_,List.getElem?_eq_getElem hlt⟩
   simp [i4,sT,-bC,b9 (n:=y.d.length) (by omega)]
   refine dJ (fun k η m'=>∃ sts' x,x.length=k∧cj y.h st (List.range k) sts=(sts',x)∧sts'[rows.length]?=some st∧sts.length≤sts'.length∧sts'.length≤sts.length+k∧
    (∃ e7 e8 e9,η=[some (D.tup [D.tup (y.d.map D.str),D.tup (List.map bA y.h)]),some (D.int (most:Nat)),some (D.ref m.length),some (D.ref (m.length+1)),some (D.tup (y.d.map D.str)),some (D.tup (List.map bA y.h)),some (.ref jx),e7,e8,e9,none,none])∧
    Kp m m'∧m'[m.length]?=some (.lst (sts'.map iT))∧m'[m.length+1]?=some (.lst (rows.map bg))∧m'[jx]?=some (.lst (x.map oD))) _ ⟨sts,[],rfl,rfl,hst,Nat.le_refl _,by simp,⟨_,_,_,rfl⟩,hkp,hs,hr,hx⟩ ?_ ?_
   ·rintro k d η m3 hd' ⟨sts',x,hxl,w',hst',hge',hle',⟨e7,e8,e9,rfl⟩,hkp',hs',hr',hx'⟩
    rw [rngD_nat,List.getElem?_map] at hd'
    have hk:k < y.d.length:=by
     cases hq:(List.range y.d.length)[k]? with
     | none=>rw [hq] at hd'; cases hd'
     | some z=>have:=(List.getElem?_eq_some_iff.mp hq).1; simpa using this
    rw [List.getElem?_range hk] at hd'
    cases hd'
    simp [jV,cu hx',cO hx' (by simp; omega)]
    have hkp3:=hkp'.put (j:=jx) (by omega) (.lst (x.map oD++[.non]))
    have hs3:(m3.set jx (.lst (x.map oD++[.non])))[m.length]?=some (.lst (sts'.map iT)):=by rw [List.getElem?_set_ne hkx]; exact hs'
    have hr3:(m3.set jx (.lst (x.map oD++[.non])))[m.length+1]?=some (.lst (rows.map bg)):=by rw [List.getElem?_set_ne hkr]; exact hr'
    have hx3:(m3.set jx (.lst (x.map oD++[.non])))[jx]?=some (.lst ((x++[none]).map oD)):=by
     rw [List.getElem?_set_self (List.getElem?_eq_some_iff.mp hx').1]; simp [oD]
    generalize m3.set jx (.lst (x.map oD++[.non]))=m4 at hkp3 hs3 hr3 hx3
    have e1:gIx (.ref m.length) (.int (rows.length:Nat)) m4=.ok (iT st) m4:=cK hs3 (atI_nat (by rw [List.getElem?_map,hst']; rfl))
    simp [iS,cx hr3,e1]
    simp only [iT,zR,gR,bK,bV,jK]
    simp [i6,-List.length_map]
    rw [b4 (fun p:Hea×Int=>D.tup [bA p.1,.int p.2]) (fun p=>D.bl (decide (tk p.1 k≤p.2))) (y.h.zip st) [] (fun p hp=>by
     have hh:=hf p.1 (List.of_mem_zip hp).1
     have e1:=fun m=>gM (xs:=p.1.t) (k:=k) (by omega) m
     refine ⟨_,rfl,rfl,?_⟩
     simp [aR,bA,e1,tk]) (by simp; omega)]
    have e2:(y.h.zip st).map (fun p=>D.bl (decide (tk p.1 k≤p.2)))=((y.h.zip st).map fun p=>decide (tk p.1 k≤p.2)).map .bl:=by rw [List.map_map]; rfl
    have e3:((y.h.zip st).map fun p=>decide (tk p.1 k≤p.2)).all id=bE y.h st k:=by rw [←oG,List.all_map]; rfl
    simp only [bK,List.nil_append,e2,fL,e3,yj]
    cases htb:bE y.h st k with
    | false=>
     simp
     refine ⟨sts',x++[none],by simp; omega,?_,hst',hge',by omega,hkp3,hs3,hr3,by simpa using hx3⟩
     rw [List.range_succ,kg,w']
     simp [cQ,htb]
    | true=>
     simp [ke,-List.length_map]
     rw [b4 (fun p:Hea×Int=>D.tup [bA p.1,.int p.2]) (fun p=>D.int (p.2 - tk p.1 k+lk p.1 k)) (y.h.zip st) [] (fun p hp=>by
      have hh:=hf p.1 (List.of_mem_zip hp).1
      have e1:=fun m=>gM (xs:=p.1.t) (k:=k) (by omega) m
      have e2:=fun m=>gM (xs:=p.1.l) (k:=k) (by omega) m
      refine ⟨_,rfl,rfl,?_⟩
      simp [aR,bA,e1,e2,tk,lk]) (by simp; omega)]
     have e4:D.tup ((y.h.zip st).map fun p=>D.int (p.2 - tk p.1 k+lk p.1 k))=iT (aM y.h st k):=by
      rw [←rV]; unfold iT; rw [List.map_map]; rfl
     simp [e4]
     generalize hled:aM y.h st k=led at e4
     have last:∀ (m5:Mem) (extra:List (List Int)) {N:au→Mem→Prop} {B C:au→Mem→Prop} {Rt:D→Mem→Prop},Kp m m5→m5[m.length]?=some (.lst ((sts'++extra).map iT))→m5[m.length+1]?=some (.lst (rows.map bg))→m5[jx]?=some (.lst ((x++[none]).map oD))→
       led∈sts'++extra→extra.length≤1→(∀ b,sts'.length≤b→b < (sts'++extra).length→b=(sts'++extra).idxOf led)→
       (∀ m6,Kp m m6→m6[m.length]?=some (.lst ((sts'++extra).map iT))→m6[m.length+1]?=some (.lst (rows.map bg))→m6[jx]?=some (.lst ((x++[some ((sts'++extra).idxOf led)]).map oD))→N [some (D.tup [D.tup (List.map D.str y.d),D.tup (List.map bA y.h)]),some (D.int ↑most),some (D.ref (List.length m)),some (D.ref (List.length m+1)),some (D.tup (List.map D.str y.d)),some (D.tup (List.map bA y.h)),some (D.ref jx),some (D.int ↑k),some (D.lst (List.map (fun p=>D.tup [bA p.fst,D.int p.snd]) (y.h.zip st))),some (iT led),none,none] m6)→
       TriQ (gd [some (D.tup [D.tup (List.map D.str y.d),D.tup (List.map bA y.h)]),some (D.int ↑most),some (D.ref (List.length m)),some (D.ref (List.length m+1)),some (D.tup (List.map D.str y.d)),some (D.tup (List.map bA y.h)),some (D.ref jx),some (D.int ↑k),some (D.lst (List.map (fun p=>D.tup [bA p.fst,D.int p.snd]) (y.h.zip st))),some (iT led),none,none] m5) N B C Rt:=by
      intro m5 extra N B C Rt hk5 hs5 hr5 hx5 hmem hex hidx hN
      have e5:=oh (d:=oD (some ((sts'++extra).idxOf led))) hx5 (yT (n:=((x++[none]).map oD).length) (k:=k) (by simp; omega))
      have e6:((x++[none]).map oD).set k (oD (some ((sts'++extra).idxOf led)))=(x++[some ((sts'++extra).idxOf led)]).map oD:=by
       rw [←List.map_set]
       congr 1
       rw [List.set_append_right _ _ (by omega),hxl,Nat.sub_self]
       rfl
      rw [e6] at e5
      have e7:D.int (((sts'++extra).idxOf led:Nat):Int)=oD (some ((sts'++extra).idxOf led)):=rfl
      simp only [gd]
      generalize sts'++extra=sts5 at hs5 hmem hidx hN e5 e6 e7
      simp [cu hs5,sF hs5 hmem]
      rw [e7,e5]
      simp only [bK]
      refine hN _ (hk5.put (by omega) _) (by rw [List.getElem?_set_ne hkx]; exact hs5) (by rw [List.getElem?_set_ne hkr]; exact hr5) ?_
      rw [List.getElem?_set_self (List.getElem?_eq_some_iff.mp hx5).1]
     simp [iX,u6 hs3]
     by_cases hin:led∈sts'
     ·simp [hin]
      refine last m4 [] hkp3 (by simpa using hs3) hr3 hx3 (by simpa using hin) (by simp) (fun b h1 h2=>by simp at h2; omega) fun m6 k6 s6 r6 x6=>?_
      rw [List.append_nil] at s6 x6
      refine ⟨sts',x++[some (sts'.idxOf led)],by simp; omega,?_,hst',hge',by omega,⟨_,_,_,rfl⟩,k6,s6,r6,x6⟩
      rw [List.range_succ,kg,w']
      simp [cQ,htb,hled,hin]
     ·simp [hin,cu hs3,cO hs3 (by simp; omega)]
      have hidx:(sts'++[led]).idxOf led=sts'.length:=by
       rw [List.idxOf_append,if_neg hin]
       simp
      refine last _ [led] (hkp3.put (Nat.le_refl _) _) ?_ (by rw [List.getElem?_set_ne (by omega)]; exact hr3) (by rw [List.getElem?_set_ne (fun e=>hkx e.symm)]; exact hx3) (by simp) (by simp) (fun b h1 h2=>by rw [hidx]; simp at h2; omega) fun m6 k6 s6 r6 x6=>?_
      ·rw [List.getElem?_set_self (List.getElem?_eq_some_iff.mp hs3).1]
       simp
      ·rw [hidx] at x6
       refine ⟨sts'++[led],x++[some sts'.length],by simp; omega,?_,by rw [List.getElem?_append_left (List.getElem?_eq_some_iff.mp hst').1]; exact hst',by simp; omega,by simp; omega,⟨_,_,_,rfl⟩,k6,s6,r6,x6⟩
       rw [List.range_succ,kg,w']
       simp [cQ,htb,hled,hin]
   ·rintro η m3 ⟨sts',x,hxl,w',hst',hge',hle',⟨e7,e8,e9,rfl⟩,hkp',hs',hr',hx'⟩
    simp at hxl hle'
    simp [iY,cu hr',mb hx',cO hr' (by simp; omega)]
    have hstA:stA sts rows.length=st:=by unfold stA; rw [List.getD_eq_getElem?_getD,hst]; rfl
    obtain ⟨n',rfl⟩:∃ n',n=n'+1:=⟨n - 1,by omega⟩
    have w2:cZ y.h y.d.length most n' sts' (rows++[x])=aL y most:=by
     unfold cZ at w
     rw [ko] at w'
     rw [if_pos ⟨hlt,hmo⟩,hstA,w'] at w
     exact w
    refine ⟨n',by omega,sts',rows++[x],by simp; omega,w2,by simp; omega,by simp; omega,fun z hz=>?_,hkp'.put (by omega) _,hs',?_⟩
    ·rcases List.mem_append.mp hz with hz | hz
     ·exact hwid z hz
     ·have:z=x:=by simpa using hz
      rw [this]; exact hxl
    ·rw [List.getElem?_set_self (List.getElem?_eq_some_iff.mp hr').1]
     simp [bg]
  ·rw [if_neg hmo]
   exact hend (.inr (by omega))
 ·rw [if_neg hlt]
  exact hend (.inl (by omega))
end Y
end Mir
namespace Mir
namespace Y
open PySem PySem.Spec PyProof.Rows L2 Mir
theorem uy (hs:List Hea) (st:List Int):∀ (ks:List Nat) (sts:List (List Int)),sts.length≤(cj hs st ks sts).1.length
 | [],sts=>Nat.le_refl _
 | k ::ks,sts=>by
  have h1:sts.length≤(cQ hs st sts k).1.length:=by
   unfold cQ
   split
   ·split<;>simp
   ·simp
  have h2:=uy hs st ks (cQ hs st sts k).1
  unfold cj
  exact Nat.le_trans h1 h2
theorem so {hs:List Hea} {w a:Nat}:∀ (f:Nat) (sts:List (List Int)) (rows:aB),sts.length≤(cZ hs w a f sts rows).1.length
 | 0,sts,rows=>Nat.le_refl _
 | f+1,sts,rows=>by
  unfold cZ
  split
  ·exact Nat.le_trans (uy _ _ _ _) (so f _ _)
  ·exact Nat.le_refl _
theorem oV {hs:List Hea} {w a b:Nat} (hab:a≤b):∀ (f g:Nat) (sts:List (List Int)) (rows:aB),(cZ hs w a f sts rows).1.length≤a→(cZ hs w a f sts rows).2.length=(cZ hs w a f sts rows).1.length→f≤g→cZ hs w b g sts rows=cZ hs w a f sts rows
 | 0,g,sts,rows,h1,h2,_=>by
  refine mN g ?_
  have h2:rows.length=sts.length:=h2
  omega
 | f+1,0,sts,rows,_,_,hg=>by omega
 | f+1,g+1,sts,rows,h1,h2,hg=>by
  have h3:=so (hs:=hs) (w:=w) (a:=a) (f+1) sts rows
  unfold cZ at h1 h2 ⊢
  by_cases q:rows.length < sts.length∧sts.length≤a
  ·rw [if_pos q] at h1 h2 ⊢
   rw [if_pos ⟨q.1,by omega⟩]
   exact oV hab f g _ _ h1 h2 (by omega)
  ·rw [if_neg q] at h1 h2 ⊢
   have h1:sts.length≤a:=h1
   rw [if_neg (by omega)]
theorem vt {y:Yar} {a b:Nat} (hab:a≤b) (h:(aL y a).1.length≤a):aL y b=aL y a:=
 oV hab a b _ _ h ((dG y a).fin h) hab
theorem sub_len {α:Type} [DecidableEq α]:∀ {l L:List α},l.Nodup→(∀ x∈l,x∈L)→l.length≤L.length
 | [],L,_,_=>Nat.zero_le _
 | x ::l,L,nd,h=>by
  have hx:=h x List.mem_cons_self
  have nd':=List.nodup_cons.mp nd
  have:=sub_len (l:=l) (L:=L.erase x) nd'.2 (fun z hz=>(List.mem_erase_of_ne (fun e=>nd'.1 (by rw [←e]; exact hz))).mpr (h z (List.mem_cons_of_mem _ hz)))
  rw [List.length_erase_of_mem hx] at this
  have hp:=List.length_pos_of_mem hx
  rw [List.length_cons]
  omega
theorem qR {y:Yar} {most:Nat} (I:List Int→Prop) (h0:I (y.h.map Hea.s)) (hs:∀ st k,k < y.d.length→I st→bE y.h st k=true→I (aM y.h st k)):∀ st∈(aL y most).1,I st:=by
 have w:=dG y most
 generalize (aL y most).1=sts at w
 generalize (aL y most).2=rows at w
 have key:∀ (b:Nat) (st:List Int),sts[b]?=some st→I st:=by
  intro b
  induction b using Nat.strongRecOn with
  | _ b ih=>
   intro st hst
   rcases w.wk.com b (List.getElem?_eq_some_iff.mp hst).1 with rfl | ⟨a',k,hab,hw⟩
   ·have:=w.wk.st0
    rw [hst] at this
    cases this
    exact h0
   ·obtain ⟨x,h3,h4⟩:=hw
    obtain ⟨st',h5,_,h6⟩:=w.wk.row a' k x _ h3 h4
    obtain ⟨h7,h8⟩:=h6 b rfl
    rw [hst] at h8
    cases h8
    refine hs st' k ?_ (ih a' hab st' h5) h7
    have h9:=(List.getElem?_eq_some_iff.mp h4).1
    rw [w.wid x (List.mem_of_getElem? h3)] at h9
    exact h9
 intro st hst
 obtain ⟨b,hb⟩:=List.getElem?_of_mem hst
 exact key b st hb
theorem qi {y:Yar} {most:Nat} {L:List (List Int)} (h:∀ st∈(aL y most).1,st∈L):(aL y most).1.length≤L.length:=
 sub_len (dG y most).wk.nd h
structure Yd (y:Yar):Prop where
 nm:Nms y.d
 fit:Fit y.d.length y.h
 hl:y.h.length≤900
 hd:y.d.length≤900
theorem qI {m:Mem} {y:Yar} {most:Nat} {P:D→Mem→Prop} (Y:Yd y) (hm:most≤900) (hw:(aL y most).1.length≤most)
  (h:∀ m' j,Kp m m'→m.length≤j→m'[j]?=some (.lst ((aL y most).1.map iT))→P (.tup [bT (bI y.d (aL y most).2),.ref j]) m'):Tri (fz [aS y,.int (most:Nat)] m) P:=by
 refine aZ rfl ?_
 have e:=dG y most
 have hfin:=e.fin hw
 simp [sk]
 refine gU Y.fit (Nms.nodup Y.nm) Y.hl Y.hd hm fun m1 js jr rs hk1 hjs hjr hms hmr hrc=>?_
 simp [nG,cx hms]
 rw [if_neg (by omega)]
 simp [nH]
 refine ly hmr hrc e.wid Y.hd (by omega) fun m2 hk2=>?_
 exact h m2 _ (hk1.trans hk2) hjs (hk2.get hms)
theorem _root_.Mir.OkYar.yd {y:Yar} (h:OkYar y):Yd y:=⟨h.nm,h.fit,by have:=h.fewh; omega,by have:=h.few; omega⟩
end Y
end Mir
namespace Mir
namespace Y
open PySem PySem.Spec PyProof.Rows L2 Mir
theorem vC {n:Nat} {m:Mem} (hn:n≤1000):kW (.tup [.int 0]) (.int (n:Nat)) m=.ok (iT (List.replicate n 0)) m:=by
 show (if sf ((n:Nat):Int)=true∧[D.int 0].length≤1000 then R.ok (D.tup (List.replicate ((n:Nat):Int).toNat [D.int 0]).flatten) m else R.stk)=_
 rw [if_pos ⟨(nV _).mpr (by omega),by decide⟩,Int.toNat_natCast,oi]
 unfold iT
 rw [List.map_replicate]
instance decYar:DecidableEq Yar:=fun a b=>decidable_of_iff (a.d=b.d∧a.h=b.h) (by cases a; cases b; simp)
end Y
end Mir
namespace Mir
namespace V
open PySem PySem.Spec PyProof.Rows L2 Mir Mir.Y
theorem zB {x:Str} {ys:List Str} {neg:Bool} {m:Mem}:gIn neg (.str x) (sT ys) m=.ok (.bl (decide (x∈ys)^^neg)) m:=iL
theorem x9 {x:Str} {ys:List Str} {m:Mem} (h:x∈ys):fX (sT ys) [.str x] m=.ok (.int ((ixS ys x:Nat):Int)) m:=mG h
end V
end Mir
namespace Mir
namespace V
open PySem PySem.Spec PyProof.Rows L2 Mir Mir.Y
def Txs (m:Mem) (d:D) (xs:List Str):Prop:=∃ src,srcOf m d=some (src,xs.length)∧∀ k,k≤xs.length→src k m=some (xs.map D.str)[k]?
theorem uB {m:Mem} {xs:List Str} {q:Nat} (h:m[q]?=some (.lst (xs.map .str))):Txs m (.ref q) xs:=by
 refine ⟨fu q,?_,fun k _=>?_⟩
 ·rw [mr h,List.length_map]
 ·unfold fu
  rw [h]
  rfl
theorem vF {m:Mem} {xs:List Str}:Txs m (sT xs) xs:=by
 refine ⟨d6 (xs.map .str),?_,fun k _=>rfl⟩
 show some (d6 (xs.map D.str),(xs.map D.str).length)=_
 rw [List.length_map]
def ja (c:Cha) (a:Nat) (x:Str):Option Nat:=if x∈c.n then oAt (rAt c.r a) (ixS c.n x) else none
def beh (c:Cha):List Str→Nat→Option Nat
 | [],a=>some a
 | x ::r,a=>(ja c a x).bind (beh c r)
theorem kQ (c:Cha) (x:Str) (r:List Str) (a:Nat):beh c (x ::r) a=(ja c a x).bind (beh c r):=rfl
section
variable {m:Mem} {c:Cha}
theorem qG {a:Nat} {d:D} {xs:List Str} (wid:∀ x∈c.r,x.length=c.n.length) (rng:∀ a k b,way c.r a k b→b < c.r.length) (ha:a < c.r.length) (hd:Txs m d xs):fB [bT c,.int (a:Nat),d] m=.ok (oD (beh c xs a)) m:=by
 have key:Tri (fB [bT c,.int (a:Nat),d] m) (fun z m'=>z=oD (beh c xs a)∧m'=m):=by
  refine aZ rfl ?_
  obtain ⟨src,hs,hsrc⟩:=hd
  have ec:bT c=.tup [sT c.n,.tup (c.r.map bg)]:=rfl
  simp [tS,ec,nK,hs]
  obtain ⟨Inv,hInv⟩:∃ I:Nat→au→Mem→Prop,∀ k η m',I k η m'↔(m'=m∧∃ (b:Nat) (e3:Option D),b < c.r.length∧η=[some (.tup [sT c.n,.tup (c.r.map bg)]),some (.int (b:Nat)),some d,e3,some (sT c.n),some (.tup (c.r.map bg))]∧beh c xs a=beh c (xs.drop k) b):=⟨_,fun _ _ _=>Iff.rfl⟩
  refine ou (ds:=xs.map D.str) Inv (by simp) (fun k η m' hk hI=>?_) ((hInv _ _ _).mpr ⟨rfl,a,_,ha,rfl,rfl⟩) (fun k dd η m' hdd hI=>?_) (fun η m' hI=>?_)
  ·obtain ⟨rfl,_⟩:=(hInv _ _ _).mp hI
   exact hsrc k (by simpa using hk)
  ·obtain ⟨rfl,b,e3,hb,rfl,he⟩:=(hInv _ _ _).mp hI
   rw [List.getElem?_map] at hdd
   cases hx:xs[k]? with
   | none=>rw [hx] at hdd; cases hdd
   | some x=>
   rw [hx] at hdd
   cases hdd
   have hdrop:xs.drop k=x ::xs.drop (k+1):=by
    obtain ⟨h1,h2⟩:=List.getElem?_eq_some_iff.mp hx
    rw [List.drop_eq_getElem_cons h1,h2]
   rw [hdrop,kQ] at he
   simp [pw,zB]
   by_cases hin:x∈c.n
   ·have hk:=(fG hin).2.1
    have hl:(rAt c.r b).length=c.n.length:=wid _ (fP hb)
    have hty:ig "tuple" m' (sT c.n)=true:=rfl
    have el:ja c b x=oAt (rAt c.r b) (ixS c.n x):=if_pos hin
    rw [el] at he
    simp [hin,hty,x9 hin,kN hb,pG (show ixS c.n x < (rAt c.r b).length by omega),tH]
    cases ho:oAt (rAt c.r b) (ixS c.n x) with
    | none=>
     rw [ho] at he
     simp [he,oD]
    | some b2=>
     rw [ho] at he
     simp [mU,hty,x9 hin,kN hb,pG (show ixS c.n x < (rAt c.r b).length by omega),ho,oD]
     exact (hInv _ _ _).mpr ⟨rfl,b2,_,rng _ _ _ (kB hb ho),rfl,he⟩
   ·have el:ja c b x=none:=if_neg hin
    rw [el] at he
    simp [hin,he,oD]
  ·obtain ⟨rfl,b,e3,hb,rfl,he⟩:=(hInv _ _ _).mp hI
   rw [List.length_map,List.drop_length] at he
   simp [nE,he]
   rfl
 obtain ⟨z,m',e,rfl,rfl⟩:=key.ex
 exact e
end
theorem uC {ns:List Str} (nd:ns.Nodup) {i j:Nat} (hi:i < ns.length) (hj:j < ns.length) (h:nAt ns i=nAt ns j):i=j:=by
 refine (List.getElem?_inj hi nd).mp ?_
 rw [iP hi,iP hj,h]
section
variable {ns:List Str} {hs:List Hea} {S:List (List Int)} {R:aB}
theorem tj (nd:ns.Nodup) {a:Nat} {row:List (Option Nat)} {x:Str} (ha:R[a]?=some row) (hx:x∈ns):ja (bI ns R) a x=oAt row (ixS ns x):=by
 obtain ⟨_,hk,hkx⟩:=fG hx
 have hn:x=nAt ns (ixS ns x):=by
  have:=iP hk
  rw [hkx] at this
  exact Option.some.inj this
 have hdl:∀ k∈bx ns.length R,k < ns.length:=fun k h=>by
  unfold bx at h
  exact List.mem_range.mp (List.mem_filter.mp h).1
 have er:rAt (bI ns R).r a=(bx ns.length R).map (oAt row):=ml (by show (R.map _)[a]?=_; rw [List.getElem?_map,ha]; rfl)
 unfold ja
 by_cases hin:x∈(bI ns R).n
 ·rw [if_pos hin,er]
  have h3:((bx ns.length R).map (nAt ns))[ixS (bI ns R).n x]?=some x:=(fG hin).2.2
  rw [List.getElem?_map] at h3
  cases hd:(bx ns.length R)[ixS (bI ns R).n x]? with
  | none=>rw [hd] at h3; cases h3
  | some k=>
   rw [hd] at h3
   have hkn:nAt ns k=x:=Option.some.inj h3
   have e:k=ixS ns x:=uC nd (hdl k (List.mem_of_getElem? hd)) hk (by rw [hkn]; exact hn)
   subst e
   exact kH (by rw [List.getElem?_map,hd]; rfl)
 ·rw [if_neg hin]
  have hno:ixS ns x∉bx ns.length R:=fun h=>hin (List.mem_map.mpr ⟨_,h,hn.symm⟩)
  cases ho:oAt row (ixS ns x) with
  | none=>rfl
  | some b=>
   exfalso
   refine hno ?_
   unfold bx
   refine List.mem_filter.mpr ⟨List.mem_range.mpr hk,List.any_eq_true.mpr ⟨row,List.mem_of_getElem? ha,?_⟩⟩
   rw [ho]
   rfl
end
end V
end Mir
namespace Mir
namespace V
open PySem PySem.Spec PyProof.Rows L2 Mir Mir.Y
section
variable {m:Mem} {P:D→Mem→Prop}
theorem mu {α:Type} (f:α→D) (c:Int) (xs:List α) (g:GM) (body:SM) (η:au) (m:Mem):bH (gc c (aO (.tup (xs.map f)))) g body xs.length 0 η m=eU g body (gh c (xs.map f)) η m:=by
 have:=yn η m g body (xs.map f) c
 rw [List.length_map] at this
 exact this
theorem u9 {x:Str} (h:Nm x):fM [.str x] m=.ok (.bl true) m:=by
 have hin:=@iL x keptW false m
 have e1:iQ=.tup (keptW.map .str):=rfl
 have hk:=h.kept
 have hlo:=h.lo
 have hhi:=h.hi
 have key:Tri (fM [.str x] m) (fun d m'=>d=.bl true∧m'=m):=by
  refine aZ rfl ?_
  simp [qL,rW (show x.length≤1000000 by omega),gK,e1,hin,hk]
  refine ⟨by omega,by omega,?_⟩
  simp [mE]
  have eL:∀ c:Nat,gIn false (.str ⟨#[c]⟩) jc m=.ok (.bl (decide (c∈ei))) m:=fun c=>by
   have eq:(Str.ofString "abcdefghijklmnopqrstuvwxyz").cps.toList=ei:=by decide +kernel
   simp [jc]
   rw [←Array.mem_toList_iff,eq]
  rw [comp_map (fun d=>D.bl (decide (sgn d∈ei))) (chD x) [] (fun d hd=>by
   obtain ⟨c,_,rfl⟩:=y7 hd
   refine ⟨_,rfl,rfl,?_⟩
   simp [aR,eL,sgn]) (by rw [uU]; exact size_le (by simp; omega))]
  rw [y4 x (fun c=>D.bl (decide (c∈ei)))]
  have e4:x.cps.toList.map (fun c=>D.bl (decide (c∈ei)))=(x.cps.toList.map fun c=>decide (c∈ei)).map .bl:=by rw [List.map_map]; rfl
  simp only [List.nil_append,bK,e4,fL]
  refine ⟨?_,trivial⟩
  congr 1
  rw [List.all_map,List.all_eq_true]
  exact fun c hc=>decide_eq_true (h.let' c hc)
 obtain ⟨d,m',e,rfl,rfl⟩:=key.ex
 exact e
theorem rG {ns:List Str} (hn:Nms ns) (hl:ns.length≤900):dF [sT ns] m=.ok .non m:=by
 have key:Tri (dF [sT ns] m) (fun d m'=>d=.non∧m'=m):=by
  refine aZ rfl ?_
  simp [mx,sT]
  rw [mu,mD]
  obtain ⟨Inv,hInv⟩:∃ I:Nat→au→Mem→Prop,∀ k η m',I k η m'↔(m'=m∧∃ e1 e2,η=[some (.tup (ns.map .str)),e1,e2]):=⟨_,fun _ _ _=>Iff.rfl⟩
  refine dJ Inv _ ((hInv _ _ _).mpr ⟨rfl,_,_,rfl⟩) (fun k d η m' hkd hI=>?_) (fun η m' hI=>?_)
  ·obtain ⟨rfl,e1,e2,rfl⟩:=(hInv _ _ _).mp hI
   rw [List.getElem?_map,List.getElem?_zipIdx] at hkd
   cases hx:ns[k]? with
   | none=>rw [hx] at hkd; cases hkd
   | some x=>
   rw [hx] at hkd
   cases hkd
   simp [u9 (hn.nm x (List.mem_of_getElem? hx))]
   by_cases hk:0 < k
   ·obtain ⟨j,rfl⟩:∃ j,k=j+1:=⟨k - 1,by omega⟩
    obtain ⟨h1,h2⟩:=List.getElem?_eq_some_iff.mp hx
    have hj:j < ns.length:=by omega
    have g:gIx (.tup (ns.map .str)) (.int (j:Nat)) m'=.ok (.str ns[j]) m':=sJ (List.getElem?_eq_getElem hj) m'
    have lt:ns[j].cps.toList < x.cps.toList:=by
     have:=List.pairwise_iff_getElem.mp hn.up j (j+1) hj h1 (by omega)
     rw [h2] at this
     exact this
    have e:((j+1:Nat):Int) - 1=(j:Nat):=by omega
    simp [g,kn,lt]
    exact (hInv _ _ _).mpr ⟨rfl,_,_,rfl⟩
   ·simp [hk]
    exact (hInv _ _ _).mpr ⟨rfl,_,_,rfl⟩
  ·obtain ⟨rfl,e1,e2,rfl⟩:=(hInv _ _ _).mp hI
   simp [kc]
 obtain ⟨d,m',e,rfl,rfl⟩:=key.ex
 exact e
theorem p6 {r:aB} (rng:∀ a k b,way r a k b→b < r.length):dj [.tup (r.map bg)] m=.ok .non m:=by
 have key:Tri (dj [.tup (r.map bg)] m) (fun d m'=>d=.non∧m'=m):=by
  refine aZ rfl ?_
  simp [lL]
  rw [mu,mD]
  obtain ⟨Inv,hInv⟩:∃ I:Nat→au→Mem→Prop,∀ k η m',I k η m'↔(m'=m∧∃ e1 e2 e3 e4,η=[some (.tup (r.map bg)),e1,e2,e3,e4]):=⟨_,fun _ _ _=>Iff.rfl⟩
  refine dJ Inv _ ((hInv _ _ _).mpr ⟨rfl,_,_,_,_,rfl⟩) (fun a d η m' had hI=>?_) (fun η m' hI=>?_)
  ·obtain ⟨rfl,e1,e2,e3,e4,rfl⟩:=(hInv _ _ _).mp hI
   rw [List.getElem?_map,List.getElem?_zipIdx] at had
   cases hx:r[a]? with
   | none=>rw [hx] at had; cases had
   | some x=>
   rw [hx] at had
   cases had
   simp [bg]
   rw [mu,mD]
   refine TriS.toQ ?_
   refine dJ Inv _ ((hInv _ _ _).mpr ⟨rfl,_,_,_,_,rfl⟩) (fun k d η m' hkd hI=>?_) (fun η m' hI=>?_)
   ·obtain ⟨rfl,e1,e2,e3,e4,rfl⟩:=(hInv _ _ _).mp hI
    rw [List.getElem?_map,List.getElem?_zipIdx] at hkd
    cases ho:x[k]? with
    | none=>rw [ho] at hkd; cases hkd
    | some o=>
    rw [ho] at hkd
    cases hkd
    cases o with
    | none=>
     simp [oD]
     exact (hInv _ _ _).mpr ⟨rfl,_,_,_,_,rfl⟩
    | some b=>
     have:=rng a k b ⟨x,hx,ho⟩
     simp [oD]
     rw [if_pos this]
     exact (hInv _ _ _).mpr ⟨rfl,_,_,_,_,rfl⟩
   ·obtain ⟨rfl,e1,e2,e3,e4,rfl⟩:=(hInv _ _ _).mp hI
    exact (hInv _ _ _).mpr ⟨rfl,_,_,_,_,rfl⟩
  ·obtain ⟨rfl,e1,e2,e3,e4,rfl⟩:=(hInv _ _ _).mp hI
   simp [jM]
 obtain ⟨d,m',e,rfl,rfl⟩:=key.ex
 exact e
theorem mi {α:Type} (xs:List α) (m:Mem):fC (fun bs=>bs.all id) [.lst (xs.map fun _=>D.bl true)] m=.ok (.bl true) m:=by
 have e4:xs.map (fun _=>D.bl true)=(xs.map fun _=>true).map .bl:=by rw [List.map_map]; rfl
 rw [e4,fL]
 have:(xs.map fun _=>true).all id=true:=by simp
 rw [this]
theorem sR {ns:List Str} (hl:ns.length≤900):d7 [sT ns] m=.ok (.bl true) m:=by
 have key:Tri (d7 [sT ns] m) (fun d m'=>d=.bl true∧m'=m):=by
  refine aZ rfl ?_
  have ty:ig "tuple" m (.tup (ns.map .str))=true:=rfl
  simp [nJ,sT]
  refine ip D.str (fun _=>D.bl true) ns (fun x _=>⟨_,rfl,rfl,by simp [aR]⟩) (by omega) ?_
  simp only [gR,bK,mi]
  exact ⟨trivial,trivial⟩
 obtain ⟨d,m',e,rfl,rfl⟩:=key.ex
 exact e
theorem ub (b:Int):eO [.int b] m=.ok (.bl true) m:=by
 have key:Tri (eO [.int b] m) (fun d m'=>d=.bl true∧m'=m):=by
  refine aZ rfl ?_
  simp [oX]
 obtain ⟨d,m',e,rfl,rfl⟩:=key.ex
 exact e
theorem vg {x:List (Option Nat)} {n:Nat} (hx:x.length=n) (hn:n≤900):fI [bg x,.int (n:Nat)] m=.ok (.bl true) m:=by
 have key:Tri (fI [bg x,.int (n:Nat)] m) (fun d m'=>d=.bl true∧m'=m):=by
  refine aZ rfl ?_
  simp [qt,bg,hx,mR]
  refine ip oD (fun _=>D.bl true) x (fun o _=>⟨_,rfl,rfl,?_⟩) (by omega) ?_
  ·cases o with
   | none=>simp [aR,oD]
   | some b=>simp [aR,oD,ub]
  ·simp only [gR,bK,mi]
   exact ⟨trivial,trivial⟩
 obtain ⟨d,m',e,rfl,rfl⟩:=key.ex
 exact e
theorem uc {c:Cha} (ok:uV c) (hn:c.r.length≤900) (hd:c.n.length≤900):eR [bT c] m=.ok (.bl true) m:=by
 have key:Tri (eR [bT c] m) (fun d m'=>d=.bl true∧m'=m):=by
  refine aZ rfl ?_
  have ec:bT c=.tup [sT c.n,.tup (c.r.map bg)]:=rfl
  have ll:∀ m,aU [sT c.n] m=.ok (.int (c.n.length:Nat)) m:=fun m=>by unfold sT; simp
  have pos:=ok.rows.pos
  have ne:¬ c.r=[]:=fun e=>by rw [e] at pos; exact absurd pos (by simp)
  simp [oB,ec,sR hd,lA,lC,lO,ne]
  refine ip bg (fun _=>D.bl true) c.r (fun x hx=>⟨_,rfl,rfl,by simp [aR,ll,vg (ok.rows.wid x hx) hd]⟩) (by omega) ?_
  simp only [gR,bK,mi]
  exact ⟨trivial,trivial⟩
 obtain ⟨d,m',e,rfl,rfl⟩:=key.ex
 exact e
theorem lK {c:Cha} (ok:uV c) (hn:c.r.length≤900) (hd:c.n.length≤900) (h:∀ m',Kp m m'→P (.bl true) m'):Tri (fU [bT c] m) P:=by
 refine aZ rfl ?_
 have ec:bT c=.tup [sT c.n,.tup (c.r.map bg)]:=rfl
 have ll:∀ m,aU [sT c.n] m=.ok (.int (c.n.length:Nat)) m:=fun m=>by unfold sT; simp
 simp [oI,uc ok hn hd,lS]
 simp [ec,lz,rG ok.nms hd,lI,lJ,p6 ok.rows.rng,lP,lU,ll,-bC,b9 (n:=c.n.length) (by omega)]
 obtain ⟨Inv,hInv⟩:∃ I:Nat→au→Mem→Prop,∀ k η m',I k η m'↔(m'=m∧∃ e3 e5 e8,η=[some (.tup [sT c.n,.tup (c.r.map bg)]),some .non,some .non,e3,none,e5,some (sT c.n),some (.tup (c.r.map bg)),e8]):=⟨_,fun _ _ _=>Iff.rfl⟩
 refine dJ Inv _ ((hInv _ _ _).mpr ⟨rfl,_,_,_,rfl⟩) (fun k d η m' hkd hI=>?_) (fun η m' hI=>?_)
 ·obtain ⟨rfl,e3,e5,e8,rfl⟩:=(hInv _ _ _).mp hI
  obtain ⟨hk,rfl⟩:=nf hkd
  simp
  refine ip bg (fun x=>D.bl (oAt x k).isNone) c.r (fun x hx=>⟨_,rfl,rfl,?_⟩) (by omega) ?_
  ·have g:=pG (x:=x) (k:=k) (by rw [ok.rows.wid x hx]; exact hk) m'
   simp [aR,g,tH]
  ·have e4:c.r.map (fun x=>D.bl (oAt x k).isNone)=(c.r.map fun x=>(oAt x k).isNone).map .bl:=by rw [List.map_map]; rfl
   have hno:(c.r.map fun x=>(oAt x k).isNone).all id=false:=by
    obtain ⟨a,b,x,h1,h2⟩:=ok.rows.deed k hk
    rw [List.all_eq_false]
    refine ⟨(oAt x k).isNone,List.mem_map.mpr ⟨x,List.mem_of_getElem? h1,rfl⟩,?_⟩
    rw [kH h2]
    simp
   simp only [gR,bK,e4,fL,hno]
   simp
   exact (hInv _ _ _).mpr ⟨rfl,_,_,_,rfl⟩
 ·obtain ⟨rfl,e3,e5,e8,rfl⟩:=(hInv _ _ _).mp hI
  simp [lM]
  refine gS ok.rows.pos ok.rows.rng hn fun m1 q hk1 hq hm1=>?_
  simp [lu,-bC,b9 (n:=c.r.length) (by omega)]
  obtain ⟨J,hJ⟩:∃ I:Nat→au→Mem→Prop,∀ k η m',I k η m'↔(m'=m1∧∃ e5,η=[some (.tup [sT c.n,.tup (c.r.map bg)]),some .non,some .non,e3,some (.ref q),e5,some (sT c.n),some (.tup (c.r.map bg)),e8]):=⟨_,fun _ _ _=>Iff.rfl⟩
  refine dJ J _ ((hJ _ _ _).mpr ⟨rfl,_,rfl⟩) (fun k d η m2 hkd hI=>?_) (fun η m2 hI=>?_)
  ·obtain ⟨rfl,e5,rfl⟩:=(hJ _ _ _).mp hI
   obtain ⟨hk,rfl⟩:=nf hkd
   have hmem:=(iC ok.rows).mem.mpr hk
   simp [si hm1,hmem]
   exact (hJ _ _ _).mpr ⟨rfl,_,rfl⟩
  ·obtain ⟨rfl,e5,rfl⟩:=(hJ _ _ _).mp hI
   simp [lG]
   exact h _ hk1
end
end V
end Mir
namespace Lw
open PySem PySem.Spec PyProof.Rows L2 Mir Mir.Y
open Mir.V (ja beh kQ qG Txs vF uB lK tj)
def bh (y:Yar):List Str→List Int→Option (List Int)
 | [],st=>some st
 | x ::r,st=>if eB y st x=true then bh y r (aM y.h st (ixS y.d x)) else none
theorem can_iff {y:Yar} {st:List Int} {x:Str}:eB y st x=true↔x∈y.d∧bE y.h st (ixS y.d x)=true:=by
 unfold eB
 simp
section
variable {ns:List Str} {hs:List Hea} {S:List (List Int)} {R:aB}
theorem wO {a:Nat} {x:Str} (hx:x∉ns):ja (bI ns R) a x=none:=by
 unfold ja
 refine if_neg fun h=>hx ?_
 obtain ⟨k,hk,e⟩:=List.mem_map.mp (show x∈(bx ns.length R).map (nAt ns) from h)
 have:k < ns.length:=List.mem_range.mp (List.mem_filter.mp hk).1
 rw [←e]
 exact List.mem_of_getElem? (iP this)
theorem wB (nd:ns.Nodup) (w:Wk hs (hs.map Hea.s) S R) (hl:R.length=S.length) (wid:∀ x∈R,x.length=ns.length):∀ (xs:List Str) (a:Nat) (st:List Int),S[a]?=some st→
  (match beh (bI ns R) xs a with | some b=>∃ st',S[b]?=some st'∧bh ⟨ns,hs⟩ xs st=some st' | none=>bh ⟨ns,hs⟩ xs st=none)
 | [],a,st,ha=>⟨st,ha,rfl⟩
 | x ::r,a,st,ha=>by
  by_cases hxn:x∈ns
  ·have hr:a < R.length:=by rw [hl]; exact (List.getElem?_eq_some_iff.mp ha).1
   have gr:=List.getElem?_eq_getElem hr
   obtain ⟨_,hk,_⟩:=fG hxn
   have gk:=dy (x:=R[a]) (k:=ixS ns x) (by rw [wid _ (List.getElem_mem hr)]; exact hk)
   obtain ⟨st1,e1,e2,e3⟩:=w.row a _ _ _ gr gk
   rw [ha] at e1
   cases e1
   rw [kQ,tj nd gr hxn]
   cases ho:oAt R[a] (ixS ns x) with
   | none=>
    have:¬ eB ⟨ns,hs⟩ st x=true:=fun h=>by
     have:=(can_iff.mp h).2
     rw [e2 ho] at this
     cases this
    exact if_neg this
   | some b=>
    obtain ⟨t1,t2⟩:=e3 b ho
    have hc:eB ⟨ns,hs⟩ st x=true:=can_iff.mpr ⟨hxn,t1⟩
    have:bh ⟨ns,hs⟩ (x ::r) st=bh ⟨ns,hs⟩ r (aM hs st (ixS ns x)):=if_pos hc
    rw [this]
    exact wB nd w hl wid r b _ t2
  ·rw [kQ,wO hxn]
   exact if_neg fun h=>hxn (can_iff.mp h).1
end
section
variable {m:Mem} {P:D→Mem→Prop} {i:Nat}
def lp:Option (List Int)→D
 | some st=>.lst [iT st]
 | none=>.non
theorem rF {y:Yar} {d:D} {xs:List Str} (hf:Fit y.d.length y.h) (hl:y.h.length≤1000) (hd:Txs m d xs):dh [aS y,d] m=.ok (lp (bh y xs (y.h.map Hea.s))) m:=by
 have key:Tri (dh [aS y,d] m) (fun z m'=>z=lp (bh y xs (y.h.map Hea.s))∧m'=m):=by
  refine aZ rfl ?_
  obtain ⟨src,hs,hsrc⟩:=hd
  simp [lH,jm hl,jl,hs]
  obtain ⟨Inv,hInv⟩:∃ I:Nat→au→Mem→Prop,∀ k η m',I k η m'↔(m'=m∧∃ (st:List Int) (e3 e4 e5:Option D),η=[some (aS y),some d,some (iT st),e3,e4,e5]∧bh y xs (y.h.map Hea.s)=bh y (xs.drop k) st):=⟨_,fun _ _ _=>Iff.rfl⟩
  refine ou (ds:=xs.map D.str) Inv (by simp) (fun k η m' hk hI=>?_) ((hInv _ _ _).mpr ⟨rfl,_,_,_,_,rfl,rfl⟩) (fun k dd η m' hdd hI=>?_) (fun η m' hI=>?_)
  ·obtain ⟨rfl,_⟩:=(hInv _ _ _).mp hI
   exact hsrc k (by simpa using hk)
  ·obtain ⟨rfl,st,e3,e4,e5,rfl,he⟩:=(hInv _ _ _).mp hI
   rw [List.getElem?_map] at hdd
   obtain ⟨x,hx,rfl⟩:=Option.map_eq_some_iff.mp hdd
   have hdrop:xs.drop k=x ::xs.drop (k+1):=by
    obtain ⟨h1,h2⟩:=List.getElem?_eq_some_iff.mp hx
    rw [List.drop_eq_getElem_cons h1,h2]
   rw [hdrop] at he
   have al:∀ b m,bc 12 [.bl b,.bl b] m=.ok (.bl true) m:=fun b m=>pe (n:=12) rfl
   simp [j7,kK hf hl,iR,v5 hf hl,al,iV]
   by_cases hc:eB y st x=true
   ·have hin:=(can_iff.mp hc).1
    have e1:bh y (x ::xs.drop (k+1)) st=bh y (xs.drop (k+1)) (aM y.h st (ixS y.d x)):=if_pos hc
    rw [e1] at he
    simp [hc,i3,qm hf hl hin,iU,vx hf hl hin,xT,iZ]
    exact (hInv _ _ _).mpr ⟨rfl,_,_,_,_,rfl,he⟩
   ·have e1:bh y (x ::xs.drop (k+1)) st=none:=if_neg hc
    rw [e1] at he
    simp [hc,he,lp]
  ·obtain ⟨rfl,st,e3,e4,e5,rfl,he⟩:=(hInv _ _ _).mp hI
   rw [List.length_map,List.drop_length] at he
   simp [jJ,he,lp,bh]
 obtain ⟨z,m',e,rfl,rfl⟩:=key.ex
 exact e
theorem xo {hs:List Hea} {w0:Nat} {S:List (List Int)} {R:aB} (w:Wk hs (hs.map Hea.s) S R) (hl:R.length=S.length) (wid:∀ x∈R,x.length=w0):Doe hs w0 R (fun a=>(S[a]?).getD []) where
 zero:=by rw [w.st0]; rfl
 inj:=fun a b ha hb e=>by
  have h1:=List.getElem?_eq_getElem (show a < S.length by omega)
  have h2:=List.getElem?_eq_getElem (show b < S.length by omega)
  simp only [h1,h2,Option.getD_some] at e
  exact (List.getElem?_inj (by omega) w.nd).mp (by rw [h1,h2,e])
 go:=fun a k b ⟨x,h1,h2⟩=>by
  obtain ⟨st,h3,_,h4⟩:=w.row a k x _ h1 h2
  obtain ⟨h5,h6⟩:=h4 b rfl
  simp only [h3,h6,Option.getD_some]
  exact ⟨h5,trivial⟩
 no:=fun a k ha hk ho=>by
  have gr:=List.getElem?_eq_getElem ha
  rw [ml gr] at ho
  have gk:=dy (x:=R[a]) (k:=k) (by rw [wid _ (List.getElem_mem ha)]; exact hk)
  obtain ⟨st,h3,h4,_⟩:=w.row a k _ _ gr gk
  simp only [h3,Option.getD_some]
  exact h4 ho
theorem pV {ns:List Str} {rows:aB}:(bI ns rows).n.length≤ns.length∧(bI ns rows).r.length=rows.length:=by
 constructor
 ·unfold bI
  rw [List.length_map]
  refine Nat.le_trans (List.length_filter_le _ _) ?_
  rw [List.length_range]
  exact Nat.le_refl _
 ·unfold bI
  rw [List.length_map]
theorem tf {y:Yar} {most:Nat} (Y:Yd y) (h8:most≤800) (hw:(aL y most).1.length≤most) (h:∀ m',Kp m m'→P (.bl (decide ((bI y.d (aL y most).2).n=y.d))) m'):Tri (gg [aS y,bT (bI y.d (aL y most).2)] m) P:=by
 have e:=dG y most
 have hfin:=e.fin hw
 have okc:=nc Y.nm e.wk hfin e.wid
 have few:=pV (ns:=y.d) (rows:=(aL y most).2)
 refine vD Y.fit Y.nm okc.rows (Nms.good okc.nms) Y.hl Y.hd (by omega) (fun m' h1 _ hk=>?_) fun m' h1 hk=>?_
 ·have:=h m' hk
  rw [decide_eq_true h1.symm] at this
  exact this
 ·have:=h m' hk
  have no:¬ (bI y.d (aL y most).2).n=y.d:=fun hn=>h1 ⟨hn.symm,by
   have hs:=kL (r8 (Nms.nodup Y.nm) hn) e.wid
   rw [hs]
   exact ⟨_,xo e.wk hfin e.wid⟩⟩
  rw [decide_eq_false no] at this
  exact this
def dk (nm:List Str) (a b:Nat):Yar:=⟨nm,[⟨(a:Nat),[1,0],[0,0]⟩,⟨(b:Nat),[0,1],[0,0]⟩]⟩
def p8 (a b:Nat):List (List Int):=(List.range ((a+1)*(b+1))).map fun c=>[((c / (b+1):Nat):Int),((c % (b+1):Nat):Int)]
theorem far_mem {a b:Nat} {st:List Int}:st∈p8 a b↔∃ i j:Nat,i≤a∧j≤b∧st=[(i:Int),(j:Int)]:=by
 unfold p8
 rw [List.mem_map]
 constructor
 ·rintro ⟨c,hc,rfl⟩
  have hc:=List.mem_range.mp hc
  refine ⟨c / (b+1),c % (b+1),?_,?_,rfl⟩
  ·exact Nat.le_of_lt_succ (Nat.div_lt_of_lt_mul (by rw [Nat.mul_comm]; exact hc))
  ·exact Nat.le_of_lt_succ (Nat.mod_lt c (Nat.succ_pos b))
 ·rintro ⟨i,j,hi,hj,rfl⟩
  refine ⟨(b+1)*i+j,List.mem_range.mpr ?_,?_⟩
  ·have:(b+1)*i≤(b+1)*a:=Nat.mul_le_mul_left _ hi
   rw [Nat.mul_comm (a+1),Nat.mul_succ]
   omega
  ·rw [Nat.mul_add_div (by omega),Nat.mul_add_mod,Nat.div_eq_of_lt (by omega),Nat.mod_eq_of_lt (by omega)]
   rfl
theorem zM (a b:Nat):(p8 a b).Nodup:=by
 unfold p8
 show List.Pairwise _ _
 rw [List.pairwise_map]
 refine List.Pairwise.imp (fun {c d} hne e=>?_) (List.nodup_range (n:=(a+1)*(b+1)))
 have e1:c / (b+1)=d / (b+1)∧c % (b+1)=d % (b+1):=by
  simp only [List.cons.injEq] at e
  exact ⟨by have:=e.1; omega,by have:=e.2.1; omega⟩
 refine hne ?_
 rw [←Nat.div_add_mod c (b+1),←Nat.div_add_mod d (b+1),e1.1,e1.2]
theorem gF {nm:List Str} {a b i j:Nat}:bE (dk nm a b).h [(i:Int),(j:Int)] 0=decide (1≤i)∧bE (dk nm a b).h [(i:Int),(j:Int)] 1=decide (1≤j):=by
 constructor
 ·simp [bE,dk,tk]
  exact ⟨fun h=>by omega,fun h=>by omega⟩
 ·simp [bE,dk,tk]
  exact ⟨fun h=>by omega,fun h=>by omega⟩
theorem mX {nm:List Str} {a b:Nat} {i j:Int}:aM (dk nm a b).h [i,j] 0=[i - 1,j]∧aM (dk nm a b).h [i,j] 1=[i,j - 1]:=by
 constructor<;>simp [aM,dk,tk,lk]
theorem tw {nm:List Str} {a b:Nat} (hnm:nm.length=2) (ha:a≤17) (hb:b≤17):(aL (dk nm a b) 500).1.length=(a+1)*(b+1):=by
 have hL:(p8 a b).length=(a+1)*(b+1):=by simp [p8]
 have h18:(a+1)*(b+1)≤18*18:=Nat.mul_le_mul (by omega) (by omega)
 have up:(aL (dk nm a b) 500).1.length≤(a+1)*(b+1):=by
  rw [←hL]
  refine qi fun st hst=>?_
  refine far_mem.mpr (qR (y:=dk nm a b) (most:=500) (fun st=>∃ i j:Nat,i≤a∧j≤b∧st=[(i:Int),(j:Int)]) ⟨a,b,Nat.le_refl _,Nat.le_refl _,rfl⟩ ?_ st hst)
  rintro st k hk ⟨i,j,hi,hj,rfl⟩ ht
  have hk:k < 2:=by rw [←hnm]; exact hk
  rcases (by omega:k=0∨k=1) with rfl | rfl
  ·rw [gF.1] at ht
   have:=of_decide_eq_true ht
   exact ⟨i - 1,j,by omega,hj,by rw [mX.1]; congr 1; omega⟩
  ·rw [gF.2] at ht
   have:=of_decide_eq_true ht
   exact ⟨i,j - 1,hi,by omega,by rw [mX.2]; congr 2; omega⟩
 refine Nat.le_antisymm up ?_
 have e:=dG (dk nm a b) 500
 have hfin:=e.fin (by omega)
 generalize (aL (dk nm a b) 500).1=S at e hfin up
 generalize (aL (dk nm a b) 500).2=R at e hfin
 have step:∀ st∈S,∀ k,k < 2→bE (dk nm a b).h st k=true→aM (dk nm a b).h st k∈S:=fun st hst k hk ht=>by
  obtain ⟨c,hc,rfl⟩:=List.getElem_of_mem hst
  have hcr:c < R.length:=by omega
  have gr:=List.getElem?_eq_getElem hcr
  have gk:=dy (x:=R[c]) (k:=k) (by rw [e.wid _ (List.getElem_mem hcr)]; show k < nm.length; omega)
  obtain ⟨st1,h3,h4,h5⟩:=e.wk.row c k _ _ gr gk
  rw [List.getElem?_eq_getElem hc] at h3
  cases h3
  cases ho:oAt R[c] k with
  | none=>rw [h4 ho] at ht; cases ht
  | some d=>exact List.mem_of_getElem? (h5 d ho).2
 have row:∀ n:Nat,n≤a→[((a - n:Nat):Int),(b:Int)]∈S:=fun n=>by
  induction n with
  | zero=>intro _; exact List.mem_of_getElem? (e.wk.st0)
  | succ n ih=>
   intro hn
   have:=step _ (ih (by omega)) 0 (by decide) (by rw [gF.1]; exact decide_eq_true (by omega))
   rw [mX.1] at this
   have ee:((a - n:Nat):Int) - 1=((a - (n+1):Nat):Int):=by omega
   rw [ee] at this
   exact this
 have all:∀ n i:Nat,i≤a→n≤b→[(i:Int),((b - n:Nat):Int)]∈S:=fun n=>by
  induction n with
  | zero=>
   intro i hi _
   have:=row (a - i) (by omega)
   rw [show a - (a - i)=i by omega] at this
   exact this
  | succ n ih=>
   intro i hi hn
   have:=step _ (ih i hi (by omega)) 1 (by decide) (by rw [gF.2]; exact decide_eq_true (by omega))
   rw [mX.2] at this
   have ee:((b - n:Nat):Int) - 1=((b - (n+1):Nat):Int):=by omega
   rw [ee] at this
   exact this
 rw [←hL]
 refine sub_len (zM a b) fun st hst=>?_
 obtain ⟨i,j,hi,hj,rfl⟩:=far_mem.mp hst
 have:=all (b - j) i hi (by omega)
 rw [show b - (b - j)=j by omega] at this
 exact this
theorem xP {nm:List Str} {a b:Nat} (hn:Nms nm) (hnm:nm.length=2) (ha:a≤17) (hb:b≤17) (ha1:1≤a) (hb1:1≤b):(bI nm (aL (dk nm a b) 500).2).n=nm:=by
 have e:=dG (dk nm a b) 500
 have hw:=tw (nm:=nm) hnm ha hb
 have h18:(a+1)*(b+1)≤18*18:=Nat.mul_le_mul (by omega) (by omega)
 have hfin:=e.fin (by omega)
 have hpos:0 < (aL (dk nm a b) 500).2.length:=by
  have:=(List.getElem?_eq_some_iff.mp e.wk.st0).1
  omega
 generalize (aL (dk nm a b) 500).1=S at e hfin
 generalize (aL (dk nm a b) 500).2=R at e hfin hpos
 have st0:S[0]?=some [(a:Int),(b:Int)]:=e.wk.st0
 have hs:=kL (ns:=nm) (sM fun k hk=>?_) e.wid
 ·show (bI nm R).n=nm
  rw [hs]
 have hk:k < 2:=by rw [←hnm]; exact hk
 have gr:=List.getElem?_eq_getElem hpos
 have gk:=dy (x:=R[0]) (k:=k) (by rw [e.wid _ (List.getElem_mem hpos)]; show k < nm.length; omega)
 obtain ⟨st1,h3,h4,h5⟩:=e.wk.row 0 k _ _ gr gk
 rw [st0] at h3
 cases h3
 cases ho:oAt R[0] k with
 | none=>
  exfalso
  have:=h4 ho
  rcases (by omega:k=0∨k=1) with rfl | rfl
  ·rw [gF.1] at this
   exact absurd ha1 (of_decide_eq_false this)
  ·rw [gF.2] at this
   exact absurd hb1 (of_decide_eq_false this)
 | some d=>exact ⟨0,d,R[0],gr,by rw [gk,ho]⟩
theorem pT (hf:FlowAt m i) (h:∀ m',Flo m m' i→P (.bl true) m'):Tri (cJ [.ref i] m) P:=by
 refine aZ rfl ?_
 simp [jy,sO]
 refine aQ hf (by decide) (by decide) fun a m1 ha hfl1=>?_
 simp
 refine aQ hfl1.at (by decide) (by decide) fun b m2 hb hfl2=>?_
 have hfl2:=hfl1.trans hfl2
 simp [hG]
 refine kP (n:=2) hfl2.at (by decide) fun nm m3 hnl hnm hfl3=>?_
 have hfl3:=hfl2.trans hfl3
 have ea:(11:Int)+(a:Int)=((11+a:Nat):Int):=by omega
 have eb:(11:Int)+(b:Int)=((11+b:Nat):Int):=by omega
 have ey:D.tup [.tup (nm.map .str),.tup [.tup [.int (11+(a:Int)),.tup [.int 1,.int 0],.tup [.int 0,.int 0]],.tup [.int (11+(b:Int)),.tup [.int 0,.int 1],.tup [.int 0,.int 0]]]]=aS (dk nm (11+a) (11+b)):=by rw [ea,eb]; rfl
 have Y:Yd (dk nm (11+a) (11+b)):=⟨hnm,fun x hx=>by
  show x.t.length=nm.length∧x.l.length=nm.length
  simp [dk] at hx
  rcases hx with rfl | rfl<;>simp [hnl],by simp [dk],by show nm.length≤900; omega⟩
 have hw:=tw (nm:=nm) (a:=11+a) (b:=11+b) hnl (by omega) (by omega)
 have hdn:=xP (nm:=nm) (a:=11+a) (b:=11+b) hnm hnl (by omega) (by omega) (by omega) (by omega)
 have h18:(11+a+1)*(11+b+1)≤18*18:=Nat.mul_le_mul (by omega) (by omega)
 simp [ey,g9]
 generalize hy:dk nm (11+a) (11+b)=y at Y hw hdn
 have hyd:y.d=nm:=by rw [←hy]; rfl
 rw [←hyd] at hdn
 have ear:arr [0,1] [aS y,D.int 500]=[aS y,D.int 500]:=rfl
 rw [ear]
 refine qI (most:=500) Y (by decide) (by omega) fun m4 j hk4 _ hj=>?_
 simp [hC,cx hj,hw]
 have em:(((11+a+1)*(11+b+1):Nat):Int)=(11+(a:Int)+1)*(11+(b:Int)+1):=by
  rw [Int.natCast_mul]
  congr 1<;>omega
 have gm:∀ m,eN (.int (11+(a:Int)+1)) (.int (11+(b:Int)+1)) m=.ok (.int ((11+(a:Int)+1)*(11+(b:Int)+1))) m:=fun m=>zI (by omega)
 simp [gm]
 refine tf (P:=fun d m=>Tri (pW false d (.bl true) m) fun z m=>P z m) (most:=500) Y (by decide) (by omega) fun m5 hk5=>?_
 rw [decide_eq_true hdn]
 simp
 exact h m5 ((hfl3.kp hk4).kp hk5)
theorem xj (st:List Int) (m:Mem):toP m 59 (iT st)=some (.tuple (st.map .int)):=by
 have:aF (toP m 58) (st.map D.int)=some (st.map .int):=by
  induction st with
  | nil=>rfl
  | cons v st ih=>
   rw [List.map_cons]
   unfold aF
   rw [ih]
   rfl
 show (aF (toP m 58) (st.map D.int)).map _=_
 rw [this]
 rfl
theorem vU (o:Option (List Int)) (m:Mem):gEq false (lp o) (.tup []) m=.ok (.bl false) m:=by
 cases o with
 | none=>rfl
 | some st=>
  have e1:toP m 60 (.lst [iT st])=some (.list [.tuple (st.map .int)]):=by
   show (aF (toP m 59) [iT st]).map _=_
   unfold aF
   rw [xj]
   rfl
  show iO false m (.lst [iT st]) (.tup [])=_
  unfold iO
  rw [e1]
  rfl
theorem yD {S:List (List Int)} {j:Nat} {m:Mem} {η:au} (hη:η[6]?=some (some (.ref j))) (hj:m[j]?=some (.lst (S.map iT))) (hl:S.length≤90) (nd:S.Nodup):kX (ab 6) η m=.ok (.int (S.length:Nat)) m:=by
 have e1:∀ st:List Int,j4 (iT st)=some st:=fun st=>cL (f:=intOf) (g:=D.int) (h:=fun x=>x) (fun _=>rfl) st |>.trans (by rw [List.map_id'])
 have e2:aF j4 (S.map iT)=some S:=cL (f:=j4) (g:=iT) (h:=fun x=>x) e1 S |>.trans (by rw [List.map_id'])
 have e3:ba m (.ref j)=some (S.map iT):=by
  show bW m[j]?=_
  rw [hj]
  rfl
 have ev:ab 6 η m=.ok (.ref j) m:=by unfold ab; rw [hη]
 show (ab 6 η m).bind (fun d m1=>nY m1 ((ba m1 d).bind (aF j4)))=_
 rw [ev]
 show nY m ((ba m (.ref j)).bind (aF j4))=_
 rw [e3,Option.bind_some,e2]
 exact if_pos ⟨hl,nd⟩
def u3 (hs:List Hea) (st:List Int) (d:Nat):List (List Int):=[st]++(List.range d).map (aM hs st)++(List.range d).flatMap fun k=>(List.range d).map fun j=>aM hs (aM hs st k) j
theorem wL (hs:List Hea) (st:List Int) (d:Nat):(u3 hs st d).length=1+d+d*d:=by
 have e:∀ (n:Nat),((List.range n).flatMap fun k=>(List.range d).map fun j=>aM hs (aM hs st k) j).length=n*d:=fun n=>by
  induction n with
  | zero=>simp
  | succ n ih=>rw [List.range_succ,List.flatMap_append,List.length_append,ih,Nat.succ_mul]; simp
 unfold u3
 rw [List.length_append,e]
 simp
 omega
def gW (s:Int) (d:Nat):Hea:=⟨s,List.replicate d 1,List.replicate d 0⟩
theorem last_step {pre:List Hea} {p:List Int} {s v:Int} {d q:Nat} (hp:p.length=pre.length) (hq:q < d) (ht:bE (pre++[gW s d]) (p++[v]) q=true):1≤v∧aM (pre++[gW s d]) (p++[v]) q=aM pre p q++[v - 1]:=by
 have e1:tk (gW s d) q=1:=by unfold tk gW; simp [hq]
 have e2:lk (gW s d) q=0:=by unfold lk gW; simp [hq]
 constructor
 ·unfold bE at ht
  rw [List.zip_append hp,List.all_append] at ht
  simp [e1] at ht
  exact ht.2
 ·unfold aM
  rw [List.zip_append hp,List.map_append]
  simp [e1,e2]
theorem tv {hs:List Hea} {st:List Int} {k:Nat} (h:st.length=hs.length):(aM hs st k).length=hs.length:=by
 unfold aM
 simp [h]
theorem tA {y:Yar} {s:Int} (h5:y.d.length≤5) (hs:s≤2):(aL ⟨y.d,y.h++[gW s y.d.length]⟩ 500).1.length≤31:=by
 obtain ⟨H,hH⟩:∃ H,H=y.h++[gW s y.d.length]:=⟨_,rfl⟩
 have h0:H.map Hea.s=y.h.map Hea.s++[s]:=by rw [hH,List.map_append]; rfl
 rw [←hH]
 have hi:=qR (y:=⟨y.d,H⟩) (most:=500)
  (fun st=>(∃ p:List Int,p.length=y.h.length∧st=p++[s]∧st=H.map Hea.s)∨(∃ (p:List Int) (k:Nat),p.length=y.h.length∧k < y.d.length∧st=p++[s - 1]∧st=aM H (H.map Hea.s) k)∨
   (∃ (p:List Int) (k j:Nat),p.length=y.h.length∧k < y.d.length∧j < y.d.length∧st=p++[s - 2]∧st=aM H (aM H (H.map Hea.s) k) j))
  (.inl ⟨y.h.map Hea.s,by simp,h0,rfl⟩) (by
  intro st q hq hst ht
  replace hq:q < y.d.length:=hq
  replace ht:bE H st q=true:=ht
  show _
  rcases hst with ⟨p,hp,h1,h2⟩ | ⟨p,k,hp,hk,h1,h2⟩ | ⟨p,k,j,hp,hk,hj,h1,h2⟩
  ·rw [h1,hH] at ht
   obtain ⟨_,e⟩:=last_step hp hq ht
   exact .inr (.inl ⟨aM y.h p q,q,tv hp,hq,by show aM H st q=_; rw [h1,hH,e],by show aM H st q=_; rw [←h2]⟩)
  ·rw [h1,hH] at ht
   obtain ⟨_,e⟩:=last_step hp hq ht
   exact .inr (.inr ⟨aM y.h p q,k,q,tv hp,hk,hq,by show aM H st q=_; rw [h1,hH,e,show s - 1 - 1=s - 2 by omega],by show aM H st q=_; rw [←h2]⟩)
  ·rw [h1,hH] at ht
   obtain ⟨h,_⟩:=last_step hp hq ht
   omega)
 have h:=qi (L:=u3 H (H.map Hea.s) y.d.length) (fun st hst=>by
  unfold u3
  rcases hi st hst with ⟨r,_,h1,h2⟩ | ⟨r,k,_,hk,h1,h2⟩ | ⟨r,k,j,_,hk,hj,h1,h2⟩
  ·exact List.mem_append_left _ (List.mem_append_left _ (by rw [h2]; exact List.mem_singleton.mpr rfl))
  ·exact List.mem_append_left _ (List.mem_append_right _ (by rw [h2]; exact List.mem_map.mpr ⟨k,List.mem_range.mpr hk,rfl⟩))
  ·exact List.mem_append_right _ (by rw [h2]; exact List.mem_flatMap.mpr ⟨k,List.mem_range.mpr hk,List.mem_map.mpr ⟨j,List.mem_range.mpr hj,rfl⟩⟩))
 rw [wL] at h
 have h25:y.d.length*y.d.length≤5*5:=Nat.mul_le_mul h5 h5
 omega
structure Gd (y:Yar):Prop where
 ok:OkYar y
 few:(aL y 500).1.length≤80
theorem vc {y:Yar} {j:Nat} {e3 e4 e7 e8 e9 e10 e11 e12 e13:Option D} {scr:D} (g:Gd y) (hf:FlowAt m 0) (j0:j≠0) (hj:m[j]?=some (.lst ((aL y 500).1.map iT))) :
  TriS (n7 [some scr,some (.ref 0),some (aS y),e3,e4,some (bT (bI y.d (aL y 500).2)),some (.ref j),e7,e8,e9,e10,e11,e12,e13] m) (fun _ _=>False) (fun d _=>d=.bl true):=by
 have Y:=g.ok.yd
 have e:=dG y 500
 have few:=g.few
 have hfin:=e.fin (by omega)
 have okc:=nc Y.nm e.wk hfin e.wid
 have fw:=pV (ns:=y.d) (rows:=(aL y 500).2)
 have nd:=Nms.nodup Y.nm
 have hl1:y.h.length≤1000:=by have:=Y.hl; omega
 have hd5:=g.ok.few
 have own:∀ {P:D→Mem→Prop} {m:Mem},(∀ m',Kp m m'→P (.bl (decide ((bI y.d (aL y 500).2).n=y.d))) m')→Tri (gg [aS y,bT (bI y.d (aL y 500).2)] m) P:=fun h=>tf (most:=500) Y (by decide) (by omega) h
 have bhd:∀ xs:List Str,(match beh (bI y.d (aL y 500).2) xs 0 with | some b=>∃ st',(aL y 500).1[b]?=some st'∧bh y xs (y.h.map Hea.s)=some st' | none=>bh y xs (y.h.map Hea.s)=none):=fun xs=>wB nd e.wk hfin e.wid xs 0 _ e.wk.st0
 have hpos:0 < (bI y.d (aL y 500).2).r.length:=by
  have:=(List.getElem?_eq_some_iff.mp e.wk.st0).1
  omega
 generalize bI y.d (aL y 500).2=c at okc own bhd hpos
 generalize (aL y 500).1=S at hj bhd
 have g0:∀ m,gIx (aS y) (.int 0) m=.ok (sT y.d) m:=fun m=>by simp [aS]
 simp [n7,-bC]
 refine aQ hf (by decide) (by decide) fun k m1 hk f1=>?_
 have e1:(1:Int)+(k:Nat)=((1+k:Nat):Int):=by omega
 simp [-bC]
 have r1:rL (.int ((1:Int)+(k:Nat))) m1=.ok (dr (eM 0 (1+k))) m1:=by rw [e1]; exact b9 (by omega) m1
 rw [r1]
 simp only [bK]
 rw [tF]
 obtain ⟨Inv,hInv⟩:∃ I:Nat→au→Mem→Prop,∀ t η m',I t η m'↔(Flo m m' 0∧∃ e3 e7 e8 e9 e10 e11 e12 e13:Option D,η=[some scr,some (.ref 0),some (aS y),e3,e4,some (bT c),some (.ref j),e7,e8,e9,e10,e11,e12,e13]):=⟨_,fun _ _ _=>Iff.rfl⟩
 refine dJ Inv _ ((hInv _ _ _).mpr ⟨f1,_,_,_,_,_,_,_,_,rfl⟩) (fun t dd η m2 hdt hI=>?_) (fun η m2 hI=>?_)
 ·obtain ⟨f2,e3,e7,e8,e9,e10,e11,e12,e13,rfl⟩:=(hInv _ _ _).mp hI
  simp [uA,qe,jm hl1,q8,-bC]
  have hq2:(m2++[Cell.lst []])[m2.length]?=some (.lst (([]:List Str).map .str)):=by simp
  have f3:=f2.push (Cell.lst [])
  have hq0:m2.length≠0:=by have:=f2.at.lt; omega
  have hqj:j≠m2.length:=by
   have:=(List.getElem?_eq_some_iff.mp (f2.get j0 hj)).1
   omega
  have hm:m.length≤m2.length:=f2.2.1
  generalize m2++[Cell.lst []]=m3 at hq2 f3
  generalize m2.length=q at hq2 hq0 hqj hm
  refine aQ f3.at (by decide) (by decide) fun n m4 hn f4=>?_
  have hq4:=f4.get hq0 hq2
  have f4:=f3.trans f4
  rw [b9 (by omega) m4]
  simp only [bK]
  rw [tF]
  obtain ⟨J,hJ⟩:∃ I:Nat→au→Mem→Prop,∀ t η m',I t η m'↔(Flo m m' 0∧∃ (xs:List Str) (st:List Int) (e9 e12 e13:Option D),xs.length=t∧m'[q]?=some (.lst (xs.map .str))∧η=[some scr,some (.ref 0),some (aS y),some dd,e4,some (bT c),some (.ref j),some (.ref q),some (iT st),e9,e10,e11,e12,e13]):=⟨_,fun _ _ _=>Iff.rfl⟩
  refine TriS.toQ (dJ J _ ((hJ _ _ _).mpr ⟨f4,[],_,_,_,_,rfl,hq4,rfl⟩) (fun t2 d2 η m5 hd2 hI=>?_) (fun η m5 hI=>?_))
  ·obtain ⟨f5,xs,st,e9,e12,e13,hxl,hq5,rfl⟩:=(hJ _ _ _).mp hI
   have ht2:t2 < n:=(nf (n:=n) hd2).1
   have fin:∀ (x:Str) (m6:Mem) (e12:Option D),Flo m m6 0→m6[q]?=some (.lst (xs.map .str))→TriQ (mc [some scr,some (.ref 0),some (aS y),some dd,e4,some (bT c),some (.ref j),some (.ref q),some (iT st),some d2,e10,e11,e12,some (.str x)] m6) (J (t2+1)) (fun η m=>TriQ (kh η m) (Inv (t+1)) (fun η m=>TriS (kR η m) (fun _ _=>False) fun d _=>d=.bl true) (Inv (t+1)) fun d _=>d=.bl true) (J (t2+1)) (fun d _=>d=.bl true):=fun x m6 e12 f6 hq6=>by
    have app:∀ st':List Int,TriQ (mP [some scr,some (.ref 0),some (aS y),some dd,e4,some (bT c),some (.ref j),some (.ref q),some (iT st'),some d2,e10,e11,e12,some (.str x)] m6) (J (t2+1)) (fun η m=>TriQ (kh η m) (Inv (t+1)) (fun η m=>TriS (kR η m) (fun _ _=>False) fun d _=>d=.bl true) (Inv (t+1)) fun d _=>d=.bl true) (J (t2+1)) (fun d _=>d=.bl true):=fun st'=>by
     simp [mP,cu hq6,cO hq6 (show (xs.map D.str).length < 1000000 by simp; omega)]
     exact (hJ _ _ _).mpr ⟨f6.put hm hq0 _,xs++[x],st',_,_,_,by simp; omega,by rw [List.getElem?_set_self (List.getElem?_eq_some_iff.mp hq6).1]; simp,rfl⟩
    simp [mc,kK Y.fit hl1]
    by_cases hc:eB y st x=true
    ·simp [hc,qm Y.fit hl1 (can_iff.mp hc).1]
     exact app _
    ·simp [hc]
     exact app _
   simp [uh,g0,sT]
   refine pA D.str D.str (eB y st) y.d (fun z hz=>⟨_,rfl,?_,fun _=>?_⟩) (by omega) ?_
   ·simp [aR,kK Y.fit hl1]
   ·simp [aR]
   simp [qy]
   refine rb f5.at g.ok fun x m6 f6=>?_
   have hq6:=f6.get hq0 hq5
   have f6:=f5.trans f6
   have hfl:(y.d.filter (eB y st)).length≤5:=Nat.le_trans (List.length_filter_le _ _) hd5
   generalize y.d.filter (eB y st)=L at hfl
   simp [qB]
   by_cases h0:0 < L.length
   ·simp [h0]
    refine aQ f6.at (by decide) (by decide) fun u m7 hu f7=>?_
    have hq7:=f7.get hq0 hq6
    have f7:=f6.trans f7
    by_cases hu0:0 < u
    ·simp [hu0]
     refine aQ f7.at (by omega) (by omega) fun v m8 hv f8=>?_
     have hq8:=f8.get hq0 hq7
     have f8:=f7.trans f8
     have hvl:v < L.length:=by omega
     have gv:gIx (.lst (L.map .str)) (.int (v:Nat)) m8=.ok (.str L[v]) m8:=jj (Mir.Y.atI_nat (by rw [List.getElem?_map,List.getElem?_eq_getElem hvl]; rfl))
     rw [gv]
     exact fin _ m8 _ f8 hq8
    ·simp [hu0]
     exact fin x m7 _ f7 hq7
   ·simp [h0]
    exact fin x m6 _ f6 hq6
  ·obtain ⟨f5,xs,st,e9,e12,e13,hxl,hq5,rfl⟩:=(hJ _ _ _).mp hI
   rw [ko] at hxl
   have bt:br [.ref q] m5=.ok (sT xs) m5:=by
    simp [br,fx,ba,hq5]
    rfl
   have be:∀ m,fB [bT c,.int 0,sT xs] m=.ok (oD (beh c xs 0)) m:=fun m=>qG (m:=m) (a:=0) (xs:=xs) okc.rows.wid okc.rows.rng hpos vF
   have lb:=rF (m:=m5) (y:=y) Y.fit hl1 (uB hq5)
   simp [kh,bt,be,qv,lb]
   have q1:=bhd xs
   have hj5:=f5.get j0 hj
   cases eb:beh c xs 0 with
   | none=>
    rw [eb] at q1
    replace q1:bh y xs (y.h.map Hea.s)=none:=q1
    have de:=fun m=>vU none m
    simp only [lp] at de
    simp [q1,lp,oD,mT,mM,de]
    exact (hInv _ _ _).mpr ⟨f5,_,_,_,_,_,_,_,_,rfl⟩
   | some b=>
    rw [eb] at q1
    obtain ⟨st',h1,h2⟩:=q1
    have de:=fun m=>vU (some st') m
    simp only [lp] at de
    have gj:gIx (.ref j) (.int (b:Nat)) m5=.ok (iT st') m5:=cK hj5 (Mir.Y.atI_nat (by rw [List.getElem?_map,h1]; rfl))
    simp [h2,lp,oD,mT,mM,de,gj,xT]
    exact (hInv _ _ _).mpr ⟨f5,_,_,_,_,_,_,_,_,rfl⟩
 ·obtain ⟨f2,e3,e7,e8,e9,e10,e11,e12,e13,rfl⟩:=(hInv _ _ _).mp hI
  simp [kR]
  refine own fun m3 k3=>?_
  have al:∀ b m,bc 12 [.bl b,.bl b] m=.ok (.bl true) m:=fun b m=>pe (n:=12) rfl
  simp [la,g0,rP (Nms.good okc.nms) (Nms.good Y.nm),al]
theorem xF (ns:List Int) (hl:ns.length≤63):∃ m,rR [.scr (ns.map .int)] []=.ok (.bl true) m:=by
 have key:Tri (rR [.scr (ns.map .int)] []) (fun d m'=>d=.bl true):=by
  refine aZ rfl ?_
  obtain ⟨m0,e0,hf⟩:=zT ns hl
  simp [x7,e0]
  have four:∀ (y:Yar) (m2:Mem) (e4:Option D),Gd y→FlowAt m2 0→TriS (nQ [some (.scr (ns.map .int)),some (.ref 0),some (aS y),none,e4,none,none,none,none,none,none,none,none,none] m2) (fun _ _=>False) (fun d _=>d=.bl true):=fun y m2 e4 g f2=>by
   have Y:=g.ok.yd
   have few:=g.few
   have e:=dG y 500
   have hfin:=e.fin (by omega)
   have okc:=nc Y.nm e.wk hfin e.wid
   have fw:=pV (ns:=y.d) (rows:=(aL y 500).2)
   simp [nQ]
   have ear:arr [0,1] [aS y,D.int 500]=[aS y,D.int 500]:=rfl
   rw [ear]
   refine qI (most:=500) Y (by decide) (by omega) fun m3 j k3 hjl hj=>?_
   have f3:=(Flo.refl f2).kp k3
   have j0:j≠0:=by have:=f2.lt; omega
   simp [sU]
   refine lK okc (by omega) (by have:=Y.hd; omega) fun m4 k4=>?_
   have hj4:=k4.get hj
   have f4:=f3.kp k4
   have g1:gIx (bT (bI y.d (aL y 500).2)) (.int 1) m4=.ok (.tup ((bI y.d (aL y 500).2).r.map bg)) m4:=jR _ _
   have sl:kX (ab 6) [some (.scr (ns.map .int)),some (.ref 0),some (aS y),none,e4,some (bT (bI y.d (aL y 500).2)),some (.ref j),none,none,none,none,none,none,none] m4=.ok (.int ((aL y 500).1.length:Nat)) m4:=yD rfl hj4 (by omega) e.wk.nd
   simp [cx hj4,g1,sl]
   refine ⟨by omega,vc g f4.at j0 hj4⟩
  have rest:∀ m2,FlowAt m2 0→TriS (n9 [some (.scr (ns.map .int)),some (.ref 0),none,none,none,none,none,none,none,none,none,none,none,none] m2) (fun _ _=>False) (fun d _=>d=.bl true):=fun m2 f2=>by
   simp [n9]
   refine qb f2 fun y m3 oy f3=>?_
   have Y:=oy.yd
   have g0:∀ m,gIx (aS y) (.int 0) m=.ok (sT y.d) m:=fun m=>by simp [aS]
   have g1:∀ m,gIx (aS y) (.int 1) m=.ok (.tup (y.h.map bA)) m:=fun m=>by simp [aS]
   have el:∀ m,aU [sT y.d] m=.ok (.int (y.d.length:Nat)) m:=fun m=>by unfold sT; simp
   simp [tM]
   refine oQ (most:=80) Y.fit Y.hl Y.hd (by decide) (fun m4 j hw k4 _ _=>?_) fun m4 _ k4=>?_
   ·simp
    exact four y m4 _ ⟨oy,by rw [vt (a:=80) (b:=500) (by decide) hw]; exact hw⟩ (f3.kp k4).at
   ·have f4:=f3.kp k4
    simp [uJ,g0,g1,el,q7]
    have hd5:=oy.few
    have hh:=oy.fewh
    have e2:(2:Int)=((2:Nat):Int):=rfl
    have es:gSl false (.tup (y.h.map bA)) none (some 2) m4=.ok (.tup ((y.h.take 2).map bA)) m4:=by
     rw [zf (by simp; omega),e2,we,List.map_take]
    rw [es]
    simp only [bK]
    refine aQ f4.at (by decide) (by decide) fun u m5 hu f5=>?_
    have f5:=f4.trans f5
    simp [sy (n:=y.d.length) (m:=m5) (by omega),vC (n:=y.d.length) (m:=m5) (by omega)]
    have ga:∀ m,bp false (.tup ((y.h.map bA).take 2)) (.tup [.tup [.int (1+(u:Int)),iT (List.replicate y.d.length 1),iT (List.replicate y.d.length 0)]]) m=.ok (.tup ((y.h.take 2++[gW (1+(u:Int)) y.d.length]).map bA)) m:=fun m=>by
     rw [xI (by simp; omega),List.map_append,List.map_take]
     rfl
    rw [ga]
    simp only [bK]
    have ho:OkYar ⟨y.d,y.h.take 2++[gW (1+(u:Int)) y.d.length]⟩:=by
     refine ⟨oy.nm,oy.few,fun x hx=>?_,by show (y.h.take 2++[gW (1+(u:Int)) y.d.length]).length≤12; simp; omega⟩
     rcases List.mem_append.mp hx with hx | hx
     ·exact oy.hp x (List.mem_of_mem_take hx)
     ·rw [List.mem_singleton.mp hx]
      exact ⟨by show (0:Int)≤1+(u:Int); omega,by show 1+(u:Int)≤50; omega,by simp [gW],by simp [gW],fun v hv=>by rw [List.eq_of_mem_replicate (show v∈List.replicate y.d.length 1 from hv)]; decide,fun v hv=>by rw [List.eq_of_mem_replicate (show v∈List.replicate y.d.length 0 from hv)]; decide⟩
    have fw:=tA (y:=⟨y.d,y.h.take 2⟩) (s:=1+(u:Int)) hd5 (by omega)
    exact four ⟨y.d,y.h.take 2++[gW (1+(u:Int)) y.d.length]⟩ m5 _ ⟨ho,Nat.le_trans fw (by decide)⟩ f5.at
  simp [s7]
  refine aQ hf (by decide) (by decide) fun k m1 hk f1=>?_
  by_cases hk0:k=0
  ·subst hk0
   simp
   refine pT f1.at fun m2 f2=>?_
   simp
   exact rest m2 f2.at
  ·simp [hk0]
   exact rest m1 f1.at
 obtain ⟨d,m',e,rfl⟩:=key.ex
 exact ⟨m',e⟩
end
end Lw
namespace Lw
open PySem PySem.Spec PyProof.Rows L2 Mir Mir.Y
def spLaw (K:PySem.W.Frag):Sp:=fun vs H Q _=>∃ (a:Addr) (ns:List Int),vs=[.ref a]∧SqL K H a (ns.map V.int)∧ns.length≤63∧∀ H',Q (.bl true) H'
theorem all_mk {l:PySem.W.OpenLaw} {w:World} {K:PySem.W.Frag} {h:Heap} {mg:Str→Option Value} {fa:Addr} (X:K.In h) (G:h.Ns mainGlobals mg) (hfa:mg "law"=some (.ref fa))
  {f0:Addr} {od0 an0:Option Addr} {sl0:Array (Option Value)} {oc0 kV0 dc0 pm0 cd0 ct0:Value}
  {f1:Addr} {od1 an1:Option Addr} {sl1:Array (Option Value)} {oc1 kV1 dc1 pm1 cd1 ct1:Value}
  {f2:Addr} {od2 an2:Option Addr} {sl2:Array (Option Value)} {oc2 kV2 dc2 pm2 cd2 ct2:Value}
  {f3:Addr} {od3 an3:Option Addr} {sl3:Array (Option Value)} {oc3 kV3 dc3 pm3 cd3 ct3:Value}
  {f4:Addr} {od4 an4:Option Addr} {sl4:Array (Option Value)} {oc4 kV4 dc4 pm4 cd4 ct4:Value}
  {f5:Addr} {od5 an5:Option Addr} {sl5:Array (Option Value)} {oc5 kV5 dc5 pm5 cd5 ct5:Value}
  {f6:Addr} {od6 an6:Option Addr} {sl6:Array (Option Value)} {oc6 kV6 dc6 pm6 cd6 ct6:Value}
  {f7:Addr} {od7 an7:Option Addr} {sl7:Array (Option Value)} {oc7 kV7 dc7 pm7 cd7 ct7:Value}
  {f8:Addr} {od8 an8:Option Addr} {sl8:Array (Option Value)} {oc8 kV8 dc8 pm8 cd8 ct8:Value}
  {f9:Addr} {od9 an9:Option Addr} {sl9:Array (Option Value)} {oc9 kV9 dc9 pm9 cd9 ct9:Value}
  {f10:Addr} {od10 an10:Option Addr} {sl10:Array (Option Value)} {oc10 kV10 dc10 pm10 cd10 ct10:Value}
  {f11:Addr} {od11 an11:Option Addr} {sl11:Array (Option Value)} {oc11 kV11 dc11 pm11 cd11 ct11:Value}
  {f12:Addr} {od12 an12:Option Addr} {sl12:Array (Option Value)} {oc12 kV12 dc12 pm12 cd12 ct12:Value}
  {f13:Addr} {od13 an13:Option Addr} {sl13:Array (Option Value)} {oc13 kV13 dc13 pm13 cd13 ct13:Value}
  {f14:Addr} {od14 an14:Option Addr} {sl14:Array (Option Value)} {oc14 kV14 dc14 pm14 cd14 ct14:Value}
  {f15:Addr} {od15 an15:Option Addr} {sl15:Array (Option Value)} {oc15 kV15 dc15 pm15 cd15 ct15:Value}
  {f16:Addr} {od16 an16:Option Addr} {sl16:Array (Option Value)} {oc16 kV16 dc16 pm16 cd16 ct16:Value}
  {T17:Addr} {to17:Value} {td17:Option Addr} {ti17:List Value} {tn17:Nat} {ts17:Array (Option Value)}
  {f17:Addr} {od17 an17:Option Addr} {sl17:Array (Option Value)} {oc17 kV17 dc17 pm17 cd17 ct17:Value}
  {f18:Addr} {od18 an18:Option Addr} {sl18:Array (Option Value)} {oc18 kV18 dc18 pm18 cd18 ct18:Value}
  {f19:Addr} {od19 an19:Option Addr} {sl19:Array (Option Value)} {oc19 kV19 dc19 pm19 cd19 ct19:Value}
  {f20:Addr} {od20 an20:Option Addr} {sl20:Array (Option Value)} {oc20 kV20 dc20 pm20 cd20 ct20:Value}
  {f21:Addr} {od21 an21:Option Addr} {sl21:Array (Option Value)} {oc21 kV21 dc21 pm21 cd21 ct21:Value}
  {f22:Addr} {od22 an22:Option Addr} {sl22:Array (Option Value)} {oc22 kV22 dc22 pm22 cd22 ct22:Value}
  {f23:Addr} {od23 an23:Option Addr} {sl23:Array (Option Value)} {oc23 kV23 dc23 pm23 cd23 ct23:Value}
  {f24:Addr} {od24 an24:Option Addr} {sl24:Array (Option Value)} {oc24 kV24 dc24 pm24 cd24 ct24:Value}
  {f25:Addr} {od25 an25:Option Addr} {sl25:Array (Option Value)} {oc25 kV25 dc25 pm25 cd25 ct25:Value}
  {f26:Addr} {od26 an26:Option Addr} {sl26:Array (Option Value)} {oc26 kV26 dc26 pm26 cd26 ct26:Value}
  {f27:Addr} {od27 an27:Option Addr} {sl27:Array (Option Value)} {oc27 kV27 dc27 pm27 cd27 ct27:Value}
  {f28:Addr} {od28 an28:Option Addr} {sl28:Array (Option Value)} {oc28 kV28 dc28 pm28 cd28 ct28:Value}
  {f29:Addr} {od29 an29:Option Addr} {sl29:Array (Option Value)} {oc29 kV29 dc29 pm29 cd29 ct29:Value}
  {f30:Addr} {od30 an30:Option Addr} {sl30:Array (Option Value)} {oc30 kV30 dc30 pm30 cd30 ct30:Value}
  {f31:Addr} {od31 an31:Option Addr} {sl31:Array (Option Value)} {oc31 kV31 dc31 pm31 cd31 ct31:Value}
  {f32:Addr} {od32 an32:Option Addr} {sl32:Array (Option Value)} {oc32 kV32 dc32 pm32 cd32 ct32:Value}
  {f33:Addr} {od33 an33:Option Addr} {sl33:Array (Option Value)} {oc33 kV33 dc33 pm33 cd33 ct33:Value}
  {f34:Addr} {od34 an34:Option Addr} {sl34:Array (Option Value)} {oc34 kV34 dc34 pm34 cd34 ct34:Value}
  {f35:Addr} {od35 an35:Option Addr} {sl35:Array (Option Value)} {oc35 kV35 dc35 pm35 cd35 ct35:Value}
  {f36:Addr} {od36 an36:Option Addr} {sl36:Array (Option Value)} {oc36 kV36 dc36 pm36 cd36 ct36:Value}
  {f37:Addr} {od37 an37:Option Addr} {sl37:Array (Option Value)} {oc37 kV37 dc37 pm37 cd37 ct37:Value}
  {f38:Addr} {od38 an38:Option Addr} {sl38:Array (Option Value)} {oc38 kV38 dc38 pm38 cd38 ct38:Value}
  (a0:PySem.W.nsIn K mainGlobals "is_name"=some (some (.ref f0))) (l0:K.lookup f0=some ⟨oc0,od0,.func (PySem.W.fnOf "is_name" "is_name" (defArgs fO) (defBody fO) (defScope fO) .none kV0 dc0 pm0 an0 cd0 ct0),sl0⟩) (c0:PySem.W.codeIn K cd0 "is_name"=true) (k0:PySem.W.keepIn K (.ref f0)=true)
  (a1:PySem.W.nsIn K mainGlobals "is_whole"=some (some (.ref f1))) (l1:K.lookup f1=some ⟨oc1,od1,.func (PySem.W.fnOf "is_whole" "is_whole" (defArgs fk) (defBody fk) (defScope fk) .none kV1 dc1 pm1 an1 cd1 ct1),sl1⟩) (c1:PySem.W.codeIn K cd1 "is_whole"=true) (k1:PySem.W.keepIn K (.ref f1)=true)
  (a2:PySem.W.nsIn K mainGlobals "are_texts"=some (some (.ref f2))) (l2:K.lookup f2=some ⟨oc2,od2,.func (PySem.W.fnOf "are_texts" "are_texts" (defArgs eF) (defBody eF) (defScope eF) .none kV2 dc2 pm2 an2 cd2 ct2),sl2⟩) (c2:PySem.W.codeIn K cd2 "are_texts"=true) (k2:PySem.W.keepIn K (.ref f2)=true)
  (a3:PySem.W.nsIn K mainGlobals "is_room"=some (some (.ref f3))) (l3:K.lookup f3=some ⟨oc3,od3,.func (PySem.W.fnOf "is_room" "is_room" (defArgs fZ) (defBody fZ) (defScope fZ) .none kV3 dc3 pm3 an3 cd3 ct3),sl3⟩) (c3:PySem.W.codeIn K cd3 "is_room"=true) (k3:PySem.W.keepIn K (.ref f3)=true)
  (a4:PySem.W.nsIn K mainGlobals "has_form"=some (some (.ref f4))) (l4:K.lookup f4=some ⟨oc4,od4,.func (PySem.W.fnOf "has_form" "has_form" (defArgs ff) (defBody ff) (defScope ff) .none kV4 dc4 pm4 an4 cd4 ct4),sl4⟩) (c4:PySem.W.codeIn K cd4 "has_form"=true) (k4:PySem.W.keepIn K (.ref f4)=true)
  (a5:PySem.W.nsIn K mainGlobals "wrong_deed"=some (some (.ref f5))) (l5:K.lookup f5=some ⟨oc5,od5,.func (PySem.W.fnOf "wrong_deed" "wrong_deed" (defArgs dP) (defBody dP) (defScope dP) .none kV5 dc5 pm5 an5 cd5 ct5),sl5⟩) (c5:PySem.W.codeIn K cd5 "wrong_deed"=true) (k5:PySem.W.keepIn K (.ref f5)=true)
  (a6:PySem.W.nsIn K mainGlobals "wrong_entry"=some (some (.ref f6))) (l6:K.lookup f6=some ⟨oc6,od6,.func (PySem.W.fnOf "wrong_entry" "wrong_entry" (defArgs dw) (defBody dw) (defScope dw) .none kV6 dc6 pm6 an6 cd6 ct6),sl6⟩) (c6:PySem.W.codeIn K cd6 "wrong_entry"=true) (k6:PySem.W.keepIn K (.ref f6)=true)
  (a7:PySem.W.nsIn K mainGlobals "come_to"=some (some (.ref f7))) (l7:K.lookup f7=some ⟨oc7,od7,.func (PySem.W.fnOf "come_to" "come_to" (defArgs fQ) (defBody fQ) (defScope fQ) .none kV7 dc7 pm7 an7 cd7 ct7),sl7⟩) (c7:PySem.W.codeIn K cd7 "come_to"=true) (k7:PySem.W.keepIn K (.ref f7)=true)
  (a8:PySem.W.nsIn K mainGlobals "look_map"=some (some (.ref f8))) (l8:K.lookup f8=some ⟨oc8,od8,.func (PySem.W.fnOf "look_map" "look_map" (defArgs fh) (defBody fh) (defScope fh) .none kV8 dc8 pm8 an8 cd8 ct8),sl8⟩) (c8:PySem.W.codeIn K cd8 "look_map"=true) (k8:PySem.W.keepIn K (.ref f8)=true)
  (a9:PySem.W.nsIn K mainGlobals "behind"=some (some (.ref f9))) (l9:K.lookup f9=some ⟨oc9,od9,.func (PySem.W.fnOf "behind" "behind" (defArgs gy) (defBody gy) (defScope gy) .none kV9 dc9 pm9 an9 cd9 ct9),sl9⟩) (c9:PySem.W.codeIn K cd9 "behind"=true) (k9:PySem.W.keepIn K (.ref f9)=true)
  (a10:PySem.W.nsIn K mainGlobals "numbered"=some (some (.ref f10))) (l10:K.lookup f10=some ⟨oc10,od10,.func (PySem.W.fnOf "numbered" "numbered" (defArgs fc) (defBody fc) (defScope fc) .none kV10 dc10 pm10 an10 cd10 ct10),sl10⟩) (c10:PySem.W.codeIn K cd10 "numbered"=true) (k10:PySem.W.keepIn K (.ref f10)=true)
  (a11:PySem.W.nsIn K mainGlobals "laid"=some (some (.ref f11))) (l11:K.lookup f11=some ⟨oc11,od11,.func (PySem.W.fnOf "laid" "laid" (defArgs jg) (defBody jg) (defScope jg) .none kV11 dc11 pm11 an11 cd11 ct11),sl11⟩) (c11:PySem.W.codeIn K cd11 "laid"=true) (k11:PySem.W.keepIn K (.ref f11)=true)
  (a12:PySem.W.nsIn K mainGlobals "first_stand"=some (some (.ref f12))) (l12:K.lookup f12=some ⟨oc12,od12,.func (PySem.W.fnOf "first_stand" "first_stand" (defArgs dB) (defBody dB) (defScope dB) .none kV12 dc12 pm12 an12 cd12 ct12),sl12⟩) (c12:PySem.W.codeIn K cd12 "first_stand"=true) (k12:PySem.W.keepIn K (.ref f12)=true)
  (a13:PySem.W.nsIn K mainGlobals "can"=some (some (.ref f13))) (l13:K.lookup f13=some ⟨oc13,od13,.func (PySem.W.fnOf "can" "can" (defArgs kG) (defBody kG) (defScope kG) .none kV13 dc13 pm13 an13 cd13 ct13),sl13⟩) (c13:PySem.W.codeIn K cd13 "can"=true) (k13:PySem.W.keepIn K (.ref f13)=true)
  (a14:PySem.W.nsIn K mainGlobals "led"=some (some (.ref f14))) (l14:K.lookup f14=some ⟨oc14,od14,.func (PySem.W.fnOf "led" "led" (defArgs kI) (defBody kI) (defScope kI) .none kV14 dc14 pm14 an14 cd14 ct14),sl14⟩) (c14:PySem.W.codeIn K cd14 "led"=true) (k14:PySem.W.keepIn K (.ref f14)=true)
  (a15:PySem.W.nsIn K mainGlobals "stands_and_ways"=some (some (.ref f15))) (l15:K.lookup f15=some ⟨oc15,od15,.func (PySem.W.fnOf "stands_and_ways" "stands_and_ways" (defArgs b8) (defBody b8) (defScope b8) .none kV15 dc15 pm15 an15 cd15 ct15),sl15⟩) (c15:PySem.W.codeIn K cd15 "stands_and_ways"=true) (k15:PySem.W.keepIn K (.ref f15)=true)
  (a16:PySem.W.nsIn K mainGlobals "chart_of"=some (some (.ref f16))) (l16:K.lookup f16=some ⟨oc16,od16,.func (PySem.W.fnOf "chart_of" "chart_of" (defArgs ft) (defBody ft) (defScope ft) .none kV16 dc16 pm16 an16 cd16 ct16),sl16⟩) (c16:PySem.W.codeIn K cd16 "chart_of"=true) (k16:PySem.W.keepIn K (.ref f16)=true)
  (a17:PySem.W.nsIn K mainGlobals "walked"=some (some (.ref f17))) (l17:K.lookup f17=some ⟨oc17,od17,.func (PySem.W.fnOf "walked" "walked" (defArgs gB) (defBody gB) (defScope gB) (.ref T17) kV17 dc17 pm17 an17 cd17 ct17),sl17⟩) (c17:PySem.W.codeIn K cd17 "walked"=true) (k17:PySem.W.keepIn K (.ref f17)=true)
  (d17:K.lookup T17=some ⟨to17,td17,.seq ti17.toArray tn17,ts17⟩) (e17:Vals [.int 500] ti17)
  (a18:PySem.W.nsIn K mainGlobals "does"=some (some (.ref f18))) (l18:K.lookup f18=some ⟨oc18,od18,.func (PySem.W.fnOf "does" "does" (defArgs jf) (defBody jf) (defScope jf) .none kV18 dc18 pm18 an18 cd18 ct18),sl18⟩) (c18:PySem.W.codeIn K cd18 "does"=true) (k18:PySem.W.keepIn K (.ref f18)=true)
  (a19:PySem.W.nsIn K mainGlobals "_law_flow"=some (some (.ref f19))) (l19:K.lookup f19=some ⟨oc19,od19,.func (PySem.W.fnOf "_law_flow" "_law_flow" (defArgs ek) (defBody ek) (defScope ek) .none kV19 dc19 pm19 an19 cd19 ct19),sl19⟩) (c19:PySem.W.codeIn K cd19 "_law_flow"=true) (k19:PySem.W.keepIn K (.ref f19)=true)
  (a20:PySem.W.nsIn K mainGlobals "_law_pick"=some (some (.ref f20))) (l20:K.lookup f20=some ⟨oc20,od20,.func (PySem.W.fnOf "_law_pick" "_law_pick" (defArgs eG) (defBody eG) (defScope eG) .none kV20 dc20 pm20 an20 cd20 ct20),sl20⟩) (c20:PySem.W.codeIn K cd20 "_law_pick"=true) (k20:PySem.W.keepIn K (.ref f20)=true)
  (a21:PySem.W.nsIn K mainGlobals "_law_shuffled"=some (some (.ref f21))) (l21:K.lookup f21=some ⟨oc21,od21,.func (PySem.W.fnOf "_law_shuffled" "_law_shuffled" (defArgs cM) (defBody cM) (defScope cM) .none kV21 dc21 pm21 an21 cd21 ct21),sl21⟩) (c21:PySem.W.codeIn K cd21 "_law_shuffled"=true) (k21:PySem.W.keepIn K (.ref f21)=true)
  (a22:PySem.W.nsIn K mainGlobals "_law_word"=some (some (.ref f22))) (l22:K.lookup f22=some ⟨oc22,od22,.func (PySem.W.fnOf "_law_word" "_law_word" (defArgs eu) (defBody eu) (defScope eu) .none kV22 dc22 pm22 an22 cd22 ct22),sl22⟩) (c22:PySem.W.codeIn K cd22 "_law_word"=true) (k22:PySem.W.keepIn K (.ref f22)=true)
  (a23:PySem.W.nsIn K mainGlobals "_law_names"=some (some (.ref f23))) (l23:K.lookup f23=some ⟨oc23,od23,.func (PySem.W.fnOf "_law_names" "_law_names" (defArgs dM) (defBody dM) (defScope dM) .none kV23 dc23 pm23 an23 cd23 ct23),sl23⟩) (c23:PySem.W.codeIn K cd23 "_law_names"=true) (k23:PySem.W.keepIn K (.ref f23)=true)
  (a24:PySem.W.nsIn K mainGlobals "_law_is_there"=some (some (.ref f24))) (l24:K.lookup f24=some ⟨oc24,od24,.func (PySem.W.fnOf "_law_is_there" "_law_is_there" (defArgs cI) (defBody cI) (defScope cI) .none kV24 dc24 pm24 an24 cd24 ct24),sl24⟩) (c24:PySem.W.codeIn K cd24 "_law_is_there"=true) (k24:PySem.W.keepIn K (.ref f24)=true)
  (a25:PySem.W.nsIn K mainGlobals "_law_led"=some (some (.ref f25))) (l25:K.lookup f25=some ⟨oc25,od25,.func (PySem.W.fnOf "_law_led" "_law_led" (defArgs fb) (defBody fb) (defScope fb) .none kV25 dc25 pm25 an25 cd25 ct25),sl25⟩) (c25:PySem.W.codeIn K cd25 "_law_led"=true) (k25:PySem.W.keepIn K (.ref f25)=true)
  (a26:PySem.W.nsIn K mainGlobals "_law_walked"=some (some (.ref f26))) (l26:K.lookup f26=some ⟨oc26,od26,.func (PySem.W.fnOf "_law_walked" "_law_walked" (defArgs dz) (defBody dz) (defScope dz) .none kV26 dc26 pm26 an26 cd26 ct26),sl26⟩) (c26:PySem.W.codeIn K cd26 "_law_walked"=true) (k26:PySem.W.keepIn K (.ref f26)=true)
  (a27:PySem.W.nsIn K mainGlobals "_law_heap"=some (some (.ref f27))) (l27:K.lookup f27=some ⟨oc27,od27,.func (PySem.W.fnOf "_law_heap" "_law_heap" (defArgs eC) (defBody eC) (defScope eC) .none kV27 dc27 pm27 an27 cd27 ct27),sl27⟩) (c27:PySem.W.codeIn K cd27 "_law_heap"=true) (k27:PySem.W.keepIn K (.ref f27)=true)
  (a28:PySem.W.nsIn K mainGlobals "_law_any_yard"=some (some (.ref f28))) (l28:K.lookup f28=some ⟨oc28,od28,.func (PySem.W.fnOf "_law_any_yard" "_law_any_yard" (defArgs cN) (defBody cN) (defScope cN) .none kV28 dc28 pm28 an28 cd28 ct28),sl28⟩) (c28:PySem.W.codeIn K cd28 "_law_any_yard"=true) (k28:PySem.W.keepIn K (.ref f28)=true)
  (a29:PySem.W.nsIn K mainGlobals "_law_alike"=some (some (.ref f29))) (l29:K.lookup f29=some ⟨oc29,od29,.func (PySem.W.fnOf "_law_alike" "_law_alike" (defArgs bU) (defBody bU) (defScope bU) .none kV29 dc29 pm29 an29 cd29 ct29),sl29⟩) (c29:PySem.W.codeIn K cd29 "_law_alike"=true) (k29:PySem.W.keepIn K (.ref f29)=true)
  (a30:PySem.W.nsIn K mainGlobals "_law_more_heaps"=some (some (.ref f30))) (l30:K.lookup f30=some ⟨oc30,od30,.func (PySem.W.fnOf "_law_more_heaps" "_law_more_heaps" (defArgs b0) (defBody b0) (defScope b0) .none kV30 dc30 pm30 an30 cd30 ct30),sl30⟩) (c30:PySem.W.codeIn K cd30 "_law_more_heaps"=true) (k30:PySem.W.keepIn K (.ref f30)=true)
  (a31:PySem.W.nsIn K mainGlobals "_law_some_yard"=some (some (.ref f31))) (l31:K.lookup f31=some ⟨oc31,od31,.func (PySem.W.fnOf "_law_some_yard" "_law_some_yard" (defArgs cy) (defBody cy) (defScope cy) .none kV31 dc31 pm31 an31 cd31 ct31),sl31⟩) (c31:PySem.W.codeIn K cd31 "_law_some_yard"=true) (k31:PySem.W.keepIn K (.ref f31)=true)
  (a32:PySem.W.nsIn K mainGlobals "_law_first"=some (some (.ref f32))) (l32:K.lookup f32=some ⟨oc32,od32,.func (PySem.W.fnOf "_law_first" "_law_first" (defArgs dN) (defBody dN) (defScope dN) .none kV32 dc32 pm32 an32 cd32 ct32),sl32⟩) (c32:PySem.W.codeIn K cd32 "_law_first"=true) (k32:PySem.W.keepIn K (.ref f32)=true)
  (a33:PySem.W.nsIn K mainGlobals "_law_can"=some (some (.ref f33))) (l33:K.lookup f33=some ⟨oc33,od33,.func (PySem.W.fnOf "_law_can" "_law_can" (defArgs fj) (defBody fj) (defScope fj) .none kV33 dc33 pm33 an33 cd33 ct33),sl33⟩) (c33:PySem.W.codeIn K cd33 "_law_can"=true) (k33:PySem.W.keepIn K (.ref f33)=true)
  (a34:PySem.W.nsIn K mainGlobals "_law_go"=some (some (.ref f34))) (l34:K.lookup f34=some ⟨oc34,od34,.func (PySem.W.fnOf "_law_go" "_law_go" (defArgs fW) (defBody fW) (defScope fW) .none kV34 dc34 pm34 an34 cd34 ct34),sl34⟩) (c34:PySem.W.codeIn K cd34 "_law_go"=true) (k34:PySem.W.keepIn K (.ref f34)=true)
  (a35:PySem.W.nsIn K mainGlobals "_law_any_deed"=some (some (.ref f35))) (l35:K.lookup f35=some ⟨oc35,od35,.func (PySem.W.fnOf "_law_any_deed" "_law_any_deed" (defArgs cH) (defBody cH) (defScope cH) .none kV35 dc35 pm35 an35 cd35 ct35),sl35⟩) (c35:PySem.W.codeIn K cd35 "_law_any_deed"=true) (k35:PySem.W.keepIn K (.ref f35)=true)
  (a36:PySem.W.nsIn K mainGlobals "_law_behind"=some (some (.ref f36))) (l36:K.lookup f36=some ⟨oc36,od36,.func (PySem.W.fnOf "_law_behind" "_law_behind" (defArgs dA) (defBody dA) (defScope dA) .none kV36 dc36 pm36 an36 cd36 ct36),sl36⟩) (c36:PySem.W.codeIn K cd36 "_law_behind"=true) (k36:PySem.W.keepIn K (.ref f36)=true)
  (a37:PySem.W.nsIn K mainGlobals "_law_far_right"=some (some (.ref f37))) (l37:K.lookup f37=some ⟨oc37,od37,.func (PySem.W.fnOf "_law_far_right" "_law_far_right" (defArgs cC) (defBody cC) (defScope cC) .none kV37 dc37 pm37 an37 cd37 ct37),sl37⟩) (c37:PySem.W.codeIn K cd37 "_law_far_right"=true) (k37:PySem.W.keepIn K (.ref f37)=true)
  (a38:PySem.W.nsIn K mainGlobals "law"=some (some (.ref f38))) (l38:K.lookup f38=some ⟨oc38,od38,.func (PySem.W.fnOf "law" "law" (defArgs gQ) (defBody gQ) (defScope gQ) .none kV38 dc38 pm38 an38 cd38 ct38),sl38⟩) (c38:PySem.W.codeIn K cd38 "law"=true) (k38:PySem.W.keepIn K (.ref f38)=true)
  (z_all:PySem.W.nsIn K mainGlobals "all"=some none)
  (z_any:PySem.W.nsIn K mainGlobals "any"=some none)
  (z_bool:PySem.W.nsIn K mainGlobals "bool"=some none)
  (z_enumerate:PySem.W.nsIn K mainGlobals "enumerate"=some none)
  (z_int:PySem.W.nsIn K mainGlobals "int"=some none)
  (z_isinstance:PySem.W.nsIn K mainGlobals "isinstance"=some none)
  (z_len:PySem.W.nsIn K mainGlobals "len"=some none)
  (z_list:PySem.W.nsIn K mainGlobals "list"=some none)
  (z_max:PySem.W.nsIn K mainGlobals "max"=some none)
  (z_range:PySem.W.nsIn K mainGlobals "range"=some none)
  (z_set:PySem.W.nsIn K mainGlobals "set"=some none)
  (z_sorted:PySem.W.nsIn K mainGlobals "sorted"=some none)
  (z_str:PySem.W.nsIn K mainGlobals "str"=some none)
  (z_tuple:PySem.W.nsIn K mainGlobals "tuple"=some none)
  (z_zip:PySem.W.nsIn K mainGlobals "zip"=some none)
  {t_LETTERS:Tok} (v_LETTERS:PySem.W.nsIn K mainGlobals "LETTERS"=some (some (.str (Str.ofString "abcdefghijklmnopqrstuvwxyz") t_LETTERS)))
  {t_LONGEST_NAME:Tok} (v_LONGEST_NAME:PySem.W.nsIn K mainGlobals "LONGEST_NAME"=some (some (.int (6) t_LONGEST_NAME)))
  {p_KEPT_WORDS:Addr} {it_KEPT_WORDS:Array Value} {n_KEPT_WORDS:Nat} {s_KEPT_WORDS:Array (Option Value)} (v_KEPT_WORDS:PySem.W.nsIn K mainGlobals "KEPT_WORDS"=some (some (.ref p_KEPT_WORDS))) (w_KEPT_WORDS:K.lookup p_KEPT_WORDS=some ⟨.type "tuple",none,.seq it_KEPT_WORDS n_KEPT_WORDS,s_KEPT_WORDS⟩) (u_KEPT_WORDS:it_KEPT_WORDS.size≤sizeLine) (x_KEPT_WORDS:Vals [.str (Str.ofString "deeds"),.str (Str.ofString "room"),.str (Str.ofString "heap"),.str (Str.ofString "map"),.str (Str.ofString "yard")] it_KEPT_WORDS.toList) :
  ∃ fd:FuncData,(∀ (s:Shared) (v:Value),BindsTo s fd ⟨[v],[]⟩ [("_law_script",v)])∧∀ base:Heap,K.In base→base.Ns mainGlobals mg→FnOk l.prog w K mg base CX0 15 fa fd ["_law_script"] (spLaw K):=by
 have e:=hfa.symm.trans (PySem.W.mg_of X G a38)
 cases e
 have F0:=fun_mk (st:=fO) l0 c0 k0
 have F1:=fun_mk (st:=fk) l1 c1 k1
 have F2:=fun_mk (st:=eF) l2 c2 k2
 have F3:=fun_mk (st:=fZ) l3 c3 k3
 have F4:=fun_mk (st:=ff) l4 c4 k4
 have F5:=fun_mk (st:=dP) l5 c5 k5
 have F6:=fun_mk (st:=dw) l6 c6 k6
 have F7:=fun_mk (st:=fQ) l7 c7 k7
 have F8:=fun_mk (st:=fh) l8 c8 k8
 have F9:=fun_mk (st:=gy) l9 c9 k9
 have F10:=fun_mk (st:=fc) l10 c10 k10
 have F11:=fun_mk (st:=jg) l11 c11 k11
 have F12:=fun_mk (st:=dB) l12 c12 k12
 have F13:=fun_mk (st:=kG) l13 c13 k13
 have F14:=fun_mk (st:=kI) l14 c14 k14
 have F15:=fun_mk (st:=b8) l15 c15 k15
 have F16:=fun_mk (st:=ft) l16 c16 k16
 have F17:uP K "walked" "walked" gB [.int 500] f17 _:=⟨⟨_,_,T17,_,ti17,tn17,_,_,_,_,_,_,_,rfl,l17,c17,d17,rfl,e17⟩,k17⟩
 have F18:=fun_mk (st:=jf) l18 c18 k18
 have F19:=fun_mk (st:=ek) l19 c19 k19
 have F20:=fun_mk (st:=eG) l20 c20 k20
 have F21:=fun_mk (st:=cM) l21 c21 k21
 have F22:=fun_mk (st:=eu) l22 c22 k22
 have F23:=fun_mk (st:=dM) l23 c23 k23
 have F24:=fun_mk (st:=cI) l24 c24 k24
 have F25:=fun_mk (st:=fb) l25 c25 k25
 have F26:=fun_mk (st:=dz) l26 c26 k26
 have F27:=fun_mk (st:=eC) l27 c27 k27
 have F28:=fun_mk (st:=cN) l28 c28 k28
 have F29:=fun_mk (st:=bU) l29 c29 k29
 have F30:=fun_mk (st:=b0) l30 c30 k30
 have F31:=fun_mk (st:=cy) l31 c31 k31
 have F32:=fun_mk (st:=dN) l32 c32 k32
 have F33:=fun_mk (st:=fj) l33 c33 k33
 have F34:=fun_mk (st:=fW) l34 c34 k34
 have F35:=fun_mk (st:=cH) l35 c35 k35
 have F36:=fun_mk (st:=dA) l36 c36 k36
 have F37:=fun_mk (st:=cC) l37 c37 k37
 have F38:=fun_mk (st:=gQ) l38 c38 k38
 have T:Tx K mg:=⟨PySem.W.mg_none_of X G z_all,PySem.W.mg_none_of X G z_any,PySem.W.mg_none_of X G z_bool,PySem.W.mg_none_of X G z_enumerate,PySem.W.mg_none_of X G z_int,PySem.W.mg_none_of X G z_isinstance,PySem.W.mg_none_of X G z_len,PySem.W.mg_none_of X G z_list,PySem.W.mg_none_of X G z_max,PySem.W.mg_none_of X G z_range,PySem.W.mg_none_of X G z_set,PySem.W.mg_none_of X G z_sorted,PySem.W.mg_none_of X G z_str,PySem.W.mg_none_of X G z_tuple,PySem.W.mg_none_of X G z_zip,⟨_,.str _,PySem.W.mg_of X G v_LETTERS,⟨_,rfl⟩,fun _ _=>cW⟩,⟨_,.int _,PySem.W.mg_of X G v_LONGEST_NAME,⟨_,rfl⟩,fun _ _=>bw⟩,⟨_,.ref _,PySem.W.mg_of X G v_KEPT_WORDS,rfl,fun _ _=>iq (.inr ⟨_,_,_,w_KEPT_WORDS,rfl,rfl,rfl,u_KEPT_WORDS,x_KEPT_WORDS⟩) (bB cW (bB cW (bB cW (bB cW (bB cW bN)))))⟩⟩
 refine ⟨PySem.W.fnOf "law" "law" (defArgs gQ) (defBody gQ) (defScope gQ) .none kV38 dc38 pm38 an38 cd38 ct38,fun s v=>.of_eq rfl,fun base _ _=>?_⟩
 have o_is_name:FnOk l.prog w K mg base CX0 1 f0 _ ["text"] (sp0 K mg fM):=uS T F0
 have h_is_name:FnD l.prog w K mg base 1 "is_name" ["text"] fM:=⟨f0,_,PySem.W.mg_of X G a0,k0,F0.binds fun _ _ _ _ _ _ us hl=>(match us,hl with | [_],_=>rfl),o_is_name⟩
 have o_is_whole:FnOk l.prog w K mg base CX0 1 f1 _ ["thing"] (sp0 K mg eO):=t9 T F1
 have h_is_whole:FnD l.prog w K mg base 1 "is_whole" ["thing"] eO:=⟨f1,_,PySem.W.mg_of X G a1,k1,F1.binds fun _ _ _ _ _ _ us hl=>(match us,hl with | [_],_=>rfl),o_is_whole⟩
 have o_are_texts:FnOk l.prog w K mg base CX0 1 f2 _ ["thing"] (sp0 K mg d7):=sH T F2
 have h_are_texts:FnD l.prog w K mg base 1 "are_texts" ["thing"] d7:=⟨f2,_,PySem.W.mg_of X G a2,k2,F2.binds fun _ _ _ _ _ _ us hl=>(match us,hl with | [_],_=>rfl),o_are_texts⟩
 have o_wrong_entry:FnOk l.prog w K mg base CX0 1 f6 _ ["rooms"] (sp0 K mg dj):=pM T F6
 have h_wrong_entry:FnD l.prog w K mg base 1 "wrong_entry" ["rooms"] dj:=⟨f6,_,PySem.W.mg_of X G a6,k6,F6.binds fun _ _ _ _ _ _ us hl=>(match us,hl with | [_],_=>rfl),o_wrong_entry⟩
 have o_come_to:FnOk l.prog w K mg base CX0 1 f7 _ ["rooms"] (sp0 K mg cD):=vv T F7
 have h_come_to:FnD l.prog w K mg base 1 "come_to" ["rooms"] cD:=⟨f7,_,PySem.W.mg_of X G a7,k7,F7.binds fun _ _ _ _ _ _ us hl=>(match us,hl with | [_],_=>rfl),o_come_to⟩
 have o_behind:FnOk l.prog w K mg base CX0 1 f9 _ ["chart","room","row"] (sp0 K mg fB):=vL T F9
 have h_behind:FnD l.prog w K mg base 1 "behind" ["chart","room","row"] fB:=⟨f9,_,PySem.W.mg_of X G a9,k9,F9.binds fun _ _ _ _ _ _ us hl=>(match us,hl with | [_,_,_],_=>rfl),o_behind⟩
 have o_first_stand:FnOk l.prog w K mg base CX0 1 f12 _ ["yard"] (sp0 K mg dI):=pR T F12
 have h_first_stand:FnD l.prog w K mg base 1 "first_stand" ["yard"] dI:=⟨f12,_,PySem.W.mg_of X G a12,k12,F12.binds fun _ _ _ _ _ _ us hl=>(match us,hl with | [_],_=>rfl),o_first_stand⟩
 have o_can:FnOk l.prog w K mg base CX0 1 f13 _ ["yard","stand","deed"] (sp0 K mg i7):=zW T F13
 have h_can:FnD l.prog w K mg base 1 "can" ["yard","stand","deed"] i7:=⟨f13,_,PySem.W.mg_of X G a13,k13,F13.binds fun _ _ _ _ _ _ us hl=>(match us,hl with | [_,_,_],_=>rfl),o_can⟩
 have o_led:FnOk l.prog w K mg base CX0 1 f14 _ ["yard","stand","deed"] (sp0 K mg i9):=z0 T F14
 have h_led:FnD l.prog w K mg base 1 "led" ["yard","stand","deed"] i9:=⟨f14,_,PySem.W.mg_of X G a14,k14,F14.binds fun _ _ _ _ _ _ us hl=>(match us,hl with | [_,_,_],_=>rfl),o_led⟩
 have o_chart_of:FnOk l.prog w K mg base CX0 1 f16 _ ["yard","rows"] (sp0 K mg dR):=tT T F16
 have h_chart_of:FnD l.prog w K mg base 1 "chart_of" ["yard","rows"] dR:=⟨f16,_,PySem.W.mg_of X G a16,k16,F16.binds fun _ _ _ _ _ _ us hl=>(match us,hl with | [_,_],_=>rfl),o_chart_of⟩
 have o__law_flow:FnOk l.prog w K mg base CX0 1 f19 _ ["_law_script"] (sp0 K mg dZ):=rX T F19
 have h__law_flow:FnD l.prog w K mg base 1 "_law_flow" ["_law_script"] dZ:=⟨f19,_,PySem.W.mg_of X G a19,k19,F19.binds fun _ _ _ _ _ _ us hl=>(match us,hl with | [_],_=>rfl),o__law_flow⟩
 have o__law_pick:FnOk l.prog w K mg base CX0 1 f20 _ ["_law_flow_here","_law_many"] (sp0 K mg aq):=sN T F20
 have h__law_pick:FnD l.prog w K mg base 1 "_law_pick" ["_law_flow_here","_law_many"] aq:=⟨f20,_,PySem.W.mg_of X G a20,k20,F20.binds fun _ _ _ _ _ _ us hl=>(match us,hl with | [_,_],_=>rfl),o__law_pick⟩
 have o__law_is_there:FnOk l.prog w K mg base CX0 1 f24 _ ["_law_heaps","_law_stand","_law_k"] (sp0 K mg cw):=om T F24
 have h__law_is_there:FnD l.prog w K mg base 1 "_law_is_there" ["_law_heaps","_law_stand","_law_k"] cw:=⟨f24,_,PySem.W.mg_of X G a24,k24,F24.binds fun _ _ _ _ _ _ us hl=>(match us,hl with | [_,_,_],_=>rfl),o__law_is_there⟩
 have o__law_led:FnOk l.prog w K mg base CX0 1 f25 _ ["_law_heaps","_law_stand","_law_k"] (sp0 K mg eP):=t4 T F25
 have h__law_led:FnD l.prog w K mg base 1 "_law_led" ["_law_heaps","_law_stand","_law_k"] eP:=⟨f25,_,PySem.W.mg_of X G a25,k25,F25.binds fun _ _ _ _ _ _ us hl=>(match us,hl with | [_,_,_],_=>rfl),o__law_led⟩
 have o__law_walked:FnOk l.prog w K mg base CX0 1 f26 _ ["_law_yard","_law_most"] (sp0 K mg dO):=pL T F26
 have h__law_walked:FnD l.prog w K mg base 1 "_law_walked" ["_law_yard","_law_most"] dO:=⟨f26,_,PySem.W.mg_of X G a26,k26,F26.binds fun _ _ _ _ _ _ us hl=>(match us,hl with | [_,_],_=>rfl),o__law_walked⟩
 have o__law_first:FnOk l.prog w K mg base CX0 1 f32 _ ["_law_yard"] (sp0 K mg cq):=rh T F32
 have h__law_first:FnD l.prog w K mg base 1 "_law_first" ["_law_yard"] cq:=⟨f32,_,PySem.W.mg_of X G a32,k32,F32.binds fun _ _ _ _ _ _ us hl=>(match us,hl with | [_],_=>rfl),o__law_first⟩
 have o_is_room:FnOk l.prog w K mg base CX0 2 f3 _ ["thing","many"] (sp0 K mg fI):=vm T h_is_whole F3
 have h_is_room:FnD l.prog w K mg base 2 "is_room" ["thing","many"] fI:=⟨f3,_,PySem.W.mg_of X G a3,k3,F3.binds fun _ _ _ _ _ _ us hl=>(match us,hl with | [_,_],_=>rfl),o_is_room⟩
 have o_wrong_deed:FnOk l.prog w K mg base CX0 2 f5 _ ["deeds"] (sp0 K mg dF):=rq T h_is_name F5
 have h_wrong_deed:FnD l.prog w K mg base 2 "wrong_deed" ["deeds"] dF:=⟨f5,_,PySem.W.mg_of X G a5,k5,F5.binds fun _ _ _ _ _ _ us hl=>(match us,hl with | [_],_=>rfl),o_wrong_deed⟩
 have o_numbered:FnOk l.prog w K mg base CX0 2 f10 _ ["chart"] (sp0 K mg eY):=tW T h_come_to F10
 have h_numbered:FnD l.prog w K mg base 2 "numbered" ["chart"] eY:=⟨f10,_,PySem.W.mg_of X G a10,k10,F10.binds fun _ _ _ _ _ _ us hl=>(match us,hl with | [_],_=>rfl),o_numbered⟩
 have o_stands_and_ways:FnOk l.prog w K mg base CX0 2 f15 _ ["yard","most"] (sp0 K mg bQ):=lY T h_can h_first_stand h_led F15
 have h_stands_and_ways:FnD l.prog w K mg base 2 "stands_and_ways" ["yard","most"] bQ:=⟨f15,_,PySem.W.mg_of X G a15,k15,F15.binds fun _ _ _ _ _ _ us hl=>(match us,hl with | [_,_],_=>rfl),o_stands_and_ways⟩
 have o__law_shuffled:FnOk l.prog w K mg base CX0 2 f21 _ ["_law_flow_here","_law_some"] (sp0 K mg da):=oq T h__law_pick F21
 have h__law_shuffled:FnD l.prog w K mg base 2 "_law_shuffled" ["_law_flow_here","_law_some"] da:=⟨f21,_,PySem.W.mg_of X G a21,k21,F21.binds fun _ _ _ _ _ _ us hl=>(match us,hl with | [_,_],_=>rfl),o__law_shuffled⟩
 have o__law_word:FnOk l.prog w K mg base CX0 2 f22 _ ["_law_flow_here"] (sp0 K mg fq):=sA T h__law_pick F22
 have h__law_word:FnD l.prog w K mg base 2 "_law_word" ["_law_flow_here"] fq:=⟨f22,_,PySem.W.mg_of X G a22,k22,F22.binds fun _ _ _ _ _ _ us hl=>(match us,hl with | [_],_=>rfl),o__law_word⟩
 have o__law_names:FnOk l.prog w K mg base CX0 2 f23 _ ["_law_flow_here","_law_many"] (sp0 K mg bY):=rj T h__law_pick F23
 have h__law_names:FnD l.prog w K mg base 2 "_law_names" ["_law_flow_here","_law_many"] bY:=⟨f23,_,PySem.W.mg_of X G a23,k23,F23.binds fun _ _ _ _ _ _ us hl=>(match us,hl with | [_,_],_=>rfl),o__law_names⟩
 have o__law_heap:FnOk l.prog w K mg base CX0 2 f27 _ ["_law_flow_here","_law_deeds","_law_most"] (sp0 K mg fg):=sr T h__law_pick F27
 have h__law_heap:FnD l.prog w K mg base 2 "_law_heap" ["_law_flow_here","_law_deeds","_law_most"] fg:=⟨f27,_,PySem.W.mg_of X G a27,k27,F27.binds fun _ _ _ _ _ _ us hl=>(match us,hl with | [_,_,_],_=>rfl),o__law_heap⟩
 have o__law_more_heaps:FnOk l.prog w K mg base CX0 2 f30 _ ["_law_flow_here","_law_deeds"] (sp0 K mg cA):=mL T h__law_pick F30
 have h__law_more_heaps:FnD l.prog w K mg base 2 "_law_more_heaps" ["_law_flow_here","_law_deeds"] cA:=⟨f30,_,PySem.W.mg_of X G a30,k30,F30.binds fun _ _ _ _ _ _ us hl=>(match us,hl with | [_,_],_=>rfl),o__law_more_heaps⟩
 have o__law_can:FnOk l.prog w K mg base CX0 2 f33 _ ["_law_yard","_law_stand","_law_deed"] (sp0 K mg cP):=tY T h__law_is_there F33
 have h__law_can:FnD l.prog w K mg base 2 "_law_can" ["_law_yard","_law_stand","_law_deed"] cP:=⟨f33,_,PySem.W.mg_of X G a33,k33,F33.binds fun _ _ _ _ _ _ us hl=>(match us,hl with | [_,_,_],_=>rfl),o__law_can⟩
 have o__law_go:FnOk l.prog w K mg base CX0 2 f34 _ ["_law_yard","_law_stand","_law_deed"] (sp0 K mg dQ):=u7 T h__law_led F34
 have h__law_go:FnD l.prog w K mg base 2 "_law_go" ["_law_yard","_law_stand","_law_deed"] dQ:=⟨f34,_,PySem.W.mg_of X G a34,k34,F34.binds fun _ _ _ _ _ _ us hl=>(match us,hl with | [_,_,_],_=>rfl),o__law_go⟩
 have o_has_form:FnOk l.prog w K mg base CX0 3 f4 _ ["thing"] (sp0 K mg eR):=ua T h_are_texts h_is_room F4
 have h_has_form:FnD l.prog w K mg base 3 "has_form" ["thing"] eR:=⟨f4,_,PySem.W.mg_of X G a4,k4,F4.binds fun _ _ _ _ _ _ us hl=>(match us,hl with | [_],_=>rfl),o_has_form⟩
 have o_laid:FnOk l.prog w K mg base CX0 3 f11 _ ["one","other"] (sp0 K mg kz):=yH T h_come_to h_numbered F11
 have h_laid:FnD l.prog w K mg base 3 "laid" ["one","other"] kz:=⟨f11,_,PySem.W.mg_of X G a11,k11,F11.binds fun _ _ _ _ _ _ us hl=>(match us,hl with | [_,_],_=>rfl),o_laid⟩
 have o_walked:FnOk l.prog w K mg base CX0 3 f17 _ ["yard","most"] (sp0 K mg fz):=wu T h_chart_of h_stands_and_ways F17
 have k_walked_1_:FnK l.prog w K mg base 3 "walked" 1 [] [0,1] [.int 500] fz:=Au F17 (PySem.W.mg_of X G a17) o_walked (fun _ _=>(bB bw bN)) fun _ _ _ _ _ _ _ us ws its h1 h2 h3=>(match us,h1,ws,h2,its,h3 with | [_],_,[],_,[_],_=>⟨_,rfl,rfl⟩)
 have o__law_any_yard:FnOk l.prog w K mg base CX0 3 f28 _ ["_law_flow_here","_law_most"] (sp0 K mg cX):=oj T h__law_heap h__law_more_heaps h__law_names h__law_pick h__law_shuffled F28
 have h__law_any_yard:FnD l.prog w K mg base 3 "_law_any_yard" ["_law_flow_here","_law_most"] cX:=⟨f28,_,PySem.W.mg_of X G a28,k28,F28.binds fun _ _ _ _ _ _ us hl=>(match us,hl with | [_,_],_=>rfl),o__law_any_yard⟩
 have o__law_any_deed:FnOk l.prog w K mg base CX0 3 f35 _ ["_law_flow_here","_law_yard"] (sp0 K mg cY):=n0 T h__law_pick h__law_word F35
 have h__law_any_deed:FnD l.prog w K mg base 3 "_law_any_deed" ["_law_flow_here","_law_yard"] cY:=⟨f35,_,PySem.W.mg_of X G a35,k35,F35.binds fun _ _ _ _ _ _ us hl=>(match us,hl with | [_,_],_=>rfl),o__law_any_deed⟩
 have o_look_map:FnOk l.prog w K mg base CX0 4 f8 _ ["thing"] (sp0 K mg fU):=t8 T h_come_to h_has_form h_wrong_deed h_wrong_entry F8
 have h_look_map:FnD l.prog w K mg base 4 "look_map" ["thing"] fU:=⟨f8,_,PySem.W.mg_of X G a8,k8,F8.binds fun _ _ _ _ _ _ us hl=>(match us,hl with | [_],_=>rfl),o_look_map⟩
 have o_does:FnOk l.prog w K mg base CX0 4 f18 _ ["yard","chart"] (sp0 K mg gg):=y8 T h_chart_of h_laid h_stands_and_ways F18
 have h_does:FnD l.prog w K mg base 4 "does" ["yard","chart"] gg:=⟨f18,_,PySem.W.mg_of X G a18,k18,F18.binds fun _ _ _ _ _ _ us hl=>(match us,hl with | [_,_],_=>rfl),o_does⟩
 have o__law_some_yard:FnOk l.prog w K mg base CX0 4 f31 _ ["_law_flow_here"] (sp0 K mg cG):=nt T h__law_any_yard h__law_names h__law_pick F31
 have h__law_some_yard:FnD l.prog w K mg base 4 "_law_some_yard" ["_law_flow_here"] cG:=⟨f31,_,PySem.W.mg_of X G a31,k31,F31.binds fun _ _ _ _ _ _ us hl=>(match us,hl with | [_],_=>rfl),o__law_some_yard⟩
 have o__law_far_right:FnOk l.prog w K mg base CX0 5 f37 _ ["_law_flow_here"] (sp0 K mg cJ):=nu T h__law_names h__law_pick h_does k_walked_1_ F37
 have h__law_far_right:FnD l.prog w K mg base 5 "_law_far_right" ["_law_flow_here"] cJ:=⟨f37,_,PySem.W.mg_of X G a37,k37,F37.binds fun _ _ _ _ _ _ us hl=>(match us,hl with | [_],_=>rfl),o__law_far_right⟩
 have o__law_alike:∀ n:Nat,FnOk l.prog w K mg base CX0 (1+n) f29 (PySem.W.fnOf "_law_alike" "_law_alike" (defArgs bU) (defBody bU) (defScope bU) .none kV29 dc29 pm29 an29 cd29 ct29) ["_law_found","_law_due"] (sp0 K mg (bc n)):=fun n=>by
  induction n with
  | zero=>exact pP F29
  | succ n ih=>exact q9 T ⟨f29,_,PySem.W.mg_of X G a29,k29,F29.binds fun _ _ _ _ _ _ us hl=>(match us,hl with | [_,_],_=>rfl),ih⟩ F29
 have h__law_alike:FnD l.prog w K mg base 13 "_law_alike" ["_law_found","_law_due"] (bc 12):=⟨f29,_,PySem.W.mg_of X G a29,k29,F29.binds fun _ _ _ _ _ _ us hl=>(match us,hl with | [_,_],_=>rfl),o__law_alike 12⟩
 have o__law_behind:FnOk l.prog w K mg base CX0 14 f36 _ ["_law_yard","_law_row"] (sp0 K mg dh):=pE T h__law_alike h__law_can h__law_first h__law_go h_can h_led F36
 have h__law_behind:FnD l.prog w K mg base 14 "_law_behind" ["_law_yard","_law_row"] dh:=⟨f36,_,PySem.W.mg_of X G a36,k36,F36.binds fun _ _ _ _ _ _ us hl=>(match us,hl with | [_,_],_=>rfl),o__law_behind⟩
 have o_law:FnOk l.prog w K mg base CX0 15 fa _ ["_law_script"] (sp0 K mg rR):=zD T h__law_alike h__law_any_deed h__law_behind h__law_can h__law_far_right h__law_first h__law_flow h__law_go h__law_pick h__law_some_yard h__law_walked h_behind h_does h_look_map k_walked_1_ F38
 refine o_law.imp fun vs H Q E ⟨a,ns,e,hS,hl,q⟩=>?_
 obtain ⟨m,hm⟩:=xF ns hl
 subst e
 refine ⟨⟨[],[]⟩,[],[.scr (ns.map .int)],⟨by simp,rfl,by simp,by simp,by simp⟩,fE (yg ?_ (qp ns)),?_⟩
 ·rcases hS with hS | hS
  ·exact .inl ⟨hS,by simp,by simp⟩
  ·exact .inr hS
 ·rw [hm]
  intro v W' H' _ _ r
  rw [r.bl']
  exact q _
end Lw
open PySem PySem.W PyProof.Rows
set_option maxHeartbeats 0 in
theorem PySem.Challenge.cw_heaploom_k21_whole_walks_are_rows_holds : PySem.Challenge.rw_heaploom_k21_whole_walks_are_rows.Holds := by
 w_on; o_law; k_head; (case hw=>w_witness2)
 k_fill
 refine L2.walk_of (l:=PySem.Challenge.rw_heaploom_k21_whole_walks_are_rows) (n:=63) (k:=15) (x:="_law_script") (CX:=fun _=>L2.CX0) (sp:=fun w=>Lw.spLaw _) rfl (by decide) rfl ⟨rfl,by decide,by decide⟩ (fun w h Y=>PySem.W.kIn_of Y) ?F (fun _ _ a ns hl _ hS=>⟨a,ns,rfl,hS,hl,fun _=>rfl⟩) (fun _ _ _ _ _ h=>h)
 case F=>
  intro w mg fa h KX G hmg
  refine' Lw.all_mk KX G hmg ?a0 ?l0 ?c0 ?k0 ?a1 ?l1 ?c1 ?k1 ?a2 ?l2 ?c2 ?k2 ?a3 ?l3 ?c3 ?k3 ?a4 ?l4 ?c4 ?k4 ?a5 ?l5 ?c5 ?k5 ?a6 ?l6 ?c6 ?k6 ?a7 ?l7 ?c7 ?k7 ?a8 ?l8 ?c8 ?k8 ?a9 ?l9 ?c9 ?k9 ?a10 ?l10 ?c10 ?k10 ?a11 ?l11 ?c11 ?k11 ?a12 ?l12 ?c12 ?k12 ?a13 ?l13 ?c13 ?k13 ?a14 ?l14 ?c14 ?k14 ?a15 ?l15 ?c15 ?k15 ?a16 ?l16 ?c16 ?k16 ?a17 ?l17 ?c17 ?k17 ?d17 ?e17 ?a18 ?l18 ?c18 ?k18 ?a19 ?l19 ?c19 ?k19 ?a20 ?l20 ?c20 ?k20 ?a21 ?l21 ?c21 ?k21 ?a22 ?l22 ?c22 ?k22 ?a23 ?l23 ?c23 ?k23 ?a24 ?l24 ?c24 ?k24 ?a25 ?l25 ?c25 ?k25 ?a26 ?l26 ?c26 ?k26 ?a27 ?l27 ?c27 ?k27 ?a28 ?l28 ?c28 ?k28 ?a29 ?l29 ?c29 ?k29 ?a30 ?l30 ?c30 ?k30 ?a31 ?l31 ?c31 ?k31 ?a32 ?l32 ?c32 ?k32 ?a33 ?l33 ?c33 ?k33 ?a34 ?l34 ?c34 ?k34 ?a35 ?l35 ?c35 ?k35 ?a36 ?l36 ?c36 ?k36 ?a37 ?l37 ?c37 ?k37 ?a38 ?l38 ?c38 ?k38 ?z_all ?z_any ?z_bool ?z_enumerate ?z_int ?z_isinstance ?z_len ?z_list ?z_max ?z_range ?z_set ?z_sorted ?z_str ?z_tuple ?z_zip ?v_LETTERS ?v_LONGEST_NAME ?v_KEPT_WORDS ?w_KEPT_WORDS ?u_KEPT_WORDS ?x_KEPT_WORDS
  (case a0=>k_is); (case l0=>k_is); (case c0=>k_is); (case k0=>k_is); (case a1=>k_is); (case l1=>k_is); (case c1=>k_is); (case k1=>k_is); (case a2=>k_is); (case l2=>k_is); (case c2=>k_is); (case k2=>k_is); (case a3=>k_is); (case l3=>k_is); (case c3=>k_is); (case k3=>k_is); (case a4=>k_is); (case l4=>k_is); (case c4=>k_is); (case k4=>k_is); (case a5=>k_is); (case l5=>k_is); (case c5=>k_is); (case k5=>k_is); (case a6=>k_is); (case l6=>k_is); (case c6=>k_is); (case k6=>k_is); (case a7=>k_is); (case l7=>k_is); (case c7=>k_is); (case k7=>k_is); (case a8=>k_is); (case l8=>k_is); (case c8=>k_is); (case k8=>k_is); (case a9=>k_is); (case l9=>k_is); (case c9=>k_is); (case k9=>k_is); (case a10=>k_is); (case l10=>k_is); (case c10=>k_is); (case k10=>k_is); (case a11=>k_is); (case l11=>k_is); (case c11=>k_is); (case k11=>k_is); (case a12=>k_is); (case l12=>k_is); (case c12=>k_is); (case k12=>k_is); (case a13=>k_is); (case l13=>k_is); (case c13=>k_is); (case k13=>k_is); (case a14=>k_is); (case l14=>k_is); (case c14=>k_is); (case k14=>k_is); (case a15=>k_is); (case l15=>k_is); (case c15=>k_is); (case k15=>k_is); (case a16=>k_is); (case l16=>k_is); (case c16=>k_is); (case k16=>k_is); (case a17=>k_is); (case l17=>k_is); (case c17=>k_is); (case k17=>k_is); (case d17=>k_is); (case e17=>exact (.cons ⟨_,rfl⟩ .nil)); (case a18=>k_is); (case l18=>k_is); (case c18=>k_is); (case k18=>k_is); (case a19=>k_is); (case l19=>k_is); (case c19=>k_is); (case k19=>k_is); (case a20=>k_is); (case l20=>k_is); (case c20=>k_is); (case k20=>k_is); (case a21=>k_is); (case l21=>k_is); (case c21=>k_is); (case k21=>k_is); (case a22=>k_is); (case l22=>k_is); (case c22=>k_is); (case k22=>k_is); (case a23=>k_is); (case l23=>k_is); (case c23=>k_is); (case k23=>k_is); (case a24=>k_is); (case l24=>k_is); (case c24=>k_is); (case k24=>k_is); (case a25=>k_is); (case l25=>k_is); (case c25=>k_is); (case k25=>k_is); (case a26=>k_is); (case l26=>k_is); (case c26=>k_is); (case k26=>k_is); (case a27=>k_is); (case l27=>k_is); (case c27=>k_is); (case k27=>k_is); (case a28=>k_is); (case l28=>k_is); (case c28=>k_is); (case k28=>k_is); (case a29=>k_is); (case l29=>k_is); (case c29=>k_is); (case k29=>k_is); (case a30=>k_is); (case l30=>k_is); (case c30=>k_is); (case k30=>k_is); (case a31=>k_is); (case l31=>k_is); (case c31=>k_is); (case k31=>k_is); (case a32=>k_is); (case l32=>k_is); (case c32=>k_is); (case k32=>k_is); (case a33=>k_is); (case l33=>k_is); (case c33=>k_is); (case k33=>k_is); (case a34=>k_is); (case l34=>k_is); (case c34=>k_is); (case k34=>k_is); (case a35=>k_is); (case l35=>k_is); (case c35=>k_is); (case k35=>k_is); (case a36=>k_is); (case l36=>k_is); (case c36=>k_is); (case k36=>k_is); (case a37=>k_is); (case l37=>k_is); (case c37=>k_is); (case k37=>k_is); (case a38=>k_is); (case l38=>k_is); (case c38=>k_is); (case k38=>k_is); (case z_all=>k_is); (case z_any=>k_is); (case z_bool=>k_is); (case z_enumerate=>k_is); (case z_int=>k_is); (case z_isinstance=>k_is); (case z_len=>k_is); (case z_list=>k_is); (case z_max=>k_is); (case z_range=>k_is); (case z_set=>k_is); (case z_sorted=>k_is); (case z_str=>k_is); (case z_tuple=>k_is); (case z_zip=>k_is); (case v_LETTERS=>k_is); (case v_LONGEST_NAME=>k_is); (case v_KEPT_WORDS=>k_is); (case w_KEPT_WORDS=>k_is); (case u_KEPT_WORDS=>decide); (case x_KEPT_WORDS=>exact (.cons ⟨_,rfl⟩ (.cons ⟨_,rfl⟩ (.cons ⟨_,rfl⟩ (.cons ⟨_,rfl⟩ (.cons ⟨_,rfl⟩ .nil))))))
