import PyProof.Rows.All
import KE.KDictKeyed
import Wide.All
import OpenK.AllK
import Wide.FinOn
import HandS.ForMost
import HandS.Walk
import HandS.Wide
import HandS.IsInst
import HandS.Style
import HandS.Zip
import HandS.HeadHook1
import HandS.Exc
import HandS.ExcOwn
import HandS.ExcCtx
import HandS.Lambda
import HandS.More
import HandS.TupMul
import HandS.TupAny
import HandS.Dict
import PyProof.NeData
import HandS.CallSlots
import HandS.Codes
import KE.GoesNew
import KE.GoesEnumKw
import PyProof.Walks
import HandS.DictComp
import HandS.Star
import HandS.GenOver
import PyProof.GenRules
import PyProof.GenComp
import HandS.GenList
import HandS.TupSets
import HandS.SetBool
import HandS.Flow
import HandS.HotCalls
import KE.KTryMore
import HandS.Finally
import HandS.Defaults
import HandS.Ends
import HandS.Text
import HandS.List
import HandS.Iter
import PyProof.SumWalkG
import PyProof.WalksMore
import HandS.ClsMeth
import HandS.CallRecv
import OpenK.KOps
import OpenK.KMeth
import HandS.HeadHook2
import HandS.HeadHook3
import HandS.HeadWalk
import HandS.ExcInit
import HandS.ExcSuper
import KE.KExcSuper
import KE.KExcInit
import HandS.Nested
import HandS.ExcInitHot
import HandS.ExcField
import HandS.ExcValue
import KE.KDflt
import HandS.Comp
import HandS.MakeKwOnly
import HandS.Property
import HandS.FStr
import HandS.HeadNt
import HandS.Head0
import HandS.Head1
import HandS.Head2
import HandS.HeadHook4
import HandS.HeadEnd
import PySem.Challenge.RW_roomofcalls_k77_columns_of_programs
import HandS.RaiseMore
import PyProof.FitsReplace
import HandS.OwnEq
import PyProof.InstNe
import HandS.Conv
import PyProof.ListStr
import KE.KxField
import HandS.StrMore
noncomputable section
set_option Elab.async false
set_option linter.all false
set_option maxRecDepth 100000
set_option maxHeartbeats 4000000
namespace Rc
open PySem PySem.Spec L2
open PyProof.Rows hiding St

inductive MV where
  | non
  | bl (b:Bool)
  | int (i:Int)
  | str (x:Str)
  | tup (xs:List MV)
  | lst (xs:List MV)
  | kl (xs:List MV)
  | ref (n:Nat)
  | ins (c:Str) (ks:List Str) (xs:List MV)
  | exn (c:Str) (ks:List Str) (xs:List MV)
  | dic (ks xs:List MV)
  | kd (ks:List Str) (is:List Int)
  | dit (ks xs:List MV)
  | cls (c:Str)
  deriving Inhabited

inductive MO where
  | lst (xs:List MV)
  | ins (c:Str) (ks:List Str) (xs:List MV)
  | dic (ks xs:List MV)
  | dit (ks xs:List MV)

abbrev Mem:=List (Option MO)

inductive OV where
  | v (x:MV)
  | b (o:MO)

inductive SV where
  | v (x:MV)
  | own (o:MO)

abbrev Sl:=List (Option SV)

inductive R (α:Type) where
  | ok (a:α) (m:Mem)
  | exc (c:Str) (ks:List Str) (xs:List MV) (m:Mem)
  | stuck

def R.bind {α β:Type} (r:R α) (k:α→Mem→R β):R β:=match r with
  | .ok a m=>k a m
  | .exc c ks xs m=>.exc c ks xs m
  | .stuck=>.stuck

inductive FR where
  | ok (x:MV) (m:Mem)
  | new (o:MO) (m:Mem)
  | exc (c:Str) (ks:List Str) (xs:List MV) (m:Mem)
  | stuck
abbrev Mir:=List MV→Mem→FR

structure G where
  F:Hp
  r:Nat→Option Addr

structure Ki where
  K:PySem.W.Frag
  P:Program
  w:World
instance:Coe Ki PySem.W.Frag:=⟨Ki.K⟩
abbrev Ki.ga (K:Ki) (c:Str):Addr:=He.ga K.K c
def DicR (K:Ki) (a:Addr) (u:HO) (kvs:List (V × V)):Prop:=∃ kv,u=.dK kv∧kvs=kv.map fun p=>(kV p.1,p.2)

mutual
def mvKey:MV→Option NestedKey
  | .non=>some .none
  | .bl b=>some (.num (if b then 1 else 0))
  | .int i=>some (.num i)
  | .str x=>some (.text x)
  | .tup xs=>(mvKeys xs).map .tup
  | _=>none
def mvKeys:List MV→Option (List NestedKey)
  | []=>some []
  | x :: xs=>(mvKey x).bind fun k=>(mvKeys xs).map (k :: ·)
end
def ditO (K:Ki) (a:Addr) (nks:List NestedKey) (kvs:List (V × V)) (o:Obj) (h:Heap):Prop:=kvs.length≤sizeLine∧(a == sysModules)=false∧nks.Nodup∧(∀ k∈nks,k.depth≤8)∧∃ xs:List (NestedKey × Addr × Value),
  xs.map (·.1)=nks∧Paired (fun (p:V × V) (x:NestedKey × Addr × Value)=>p.1=.ref x.2.1∧RelV p.2 x.2.2) kvs xs ∧
  h.get? a=some o∧o.ExactDict∧∃ es ep,o.data=.dict es ep∧es.toList=xs.map (entryOfKey (nestedKind K.P K.w))
def DitR (K:Ki) (a:Addr) (u:HO) (ks:List MV) (kvs:List (V × V)):Prop:=∃ nks o,mvKeys ks=some nks∧u=.ext (ditO K a nks kvs o)

def ExnO (K:Ki) (c:Str) (dd a:Addr) (φ:Heap→Prop):Prop:=∀ h,φ h→∃ (oe:Obj) (vs:Array Value),h.get? a=some oe∧oe.cls=.ref (K.ga c)∧oe.dict=some dd∧oe.data=.fields vs
def KdV:Option Value→Option Int→Prop
  | some v,some i=>∃ t,v=.int i t
  | none,none=>True
  | _,_=>False
structure KdR (K:Ki) (a:Addr) (ks:List Str) (is:List Int):Prop where
  at_:∃ es n,K.K.lookup a=some ⟨.type "dict",none,.dict es n,#[]⟩∧PySem.W.KeysLit K.w.params es.toList
  low:(a == sysModules)=false
  get:∀ z,∃ r,PySem.W.nsIn K.K a z=some r∧KdV r ((ks.zip is).lookup z)
mutual
def RV (K:Ki) (g:G):MV→V→Prop
  | .non,v=>v=.non
  | .bl b,v=>v=.bl b
  | .int i,v=>v=.int i
  | .str x,v=>v=.str x
  | .tup xs,v=>∃ a ys,v=.ref a∧SqT K g.F a ys∧RVs K g xs ys
  | .lst xs,v=>∃ a ys,v=.ref a∧g.F a=some (.lst ys)∧RVs K g xs ys
  | .kl xs,v=>∃ a ys,v=.ref a∧SqL K g.F a ys∧RVs K g xs ys
  | .ref n,v=>∃ a,v=.ref a∧g.r n=some a
  | .ins c ks xs,v=>∃ a dx fs,v=.ref a∧g.F a=some (.ins (K.ga c) dx fs)∧g.F dx=some (.own a)∧fs.map (·.1)=ks∧RVs K g xs (fs.map (·.2))
  | .exn c ks xs,v=>∃ a dd φ fs,v=.ref a∧g.F a=some (.ext φ)∧ExnO K c dd a φ∧g.F dd=some (.xd fs)∧fs.map (·.1)=ks∧RVs K g xs (fs.map (·.2))
  | .dic ks xs,v=>∃ a u kvs,v=.ref a∧g.F a=some u∧DicR K a u kvs∧RVs K g ks (kvs.map (·.1))∧RVs K g xs (kvs.map (·.2))
  | .kd ks is,v=>∃ a,v=.ref a∧KdR K a ks is
  | .cls c,v=>v=.ref (K.ga c)
  | .dit ks xs,v=>∃ a u kvs,v=.ref a∧g.F a=some u∧DitR K a u ks kvs∧RVs K g ks (kvs.map (·.1))∧RVs K g xs (kvs.map (·.2))
def RVs (K:Ki) (g:G):List MV→List V→Prop
  | [],vs=>vs=[]
  | x :: xs,vs=>∃ v r,vs=v :: r∧RV K g x v∧RVs K g xs r
end

def ObjR (K:Ki) (g:G) (o:MO) (H:Hp) (a:Addr):Prop:=match o with
  | .lst xs=>∃ ys,H a=some (.lst ys)∧RVs K g xs ys
  | .ins c ks xs=>∃ dx fs,H a=some (.ins (K.ga c) dx fs)∧g.F dx=some (.own a)∧fs.map (·.1)=ks∧RVs K g xs (fs.map (·.2))
  | .dic ks xs=>∃ u kvs,H a=some u∧DicR K a u kvs∧RVs K g ks (kvs.map (·.1))∧RVs K g xs (kvs.map (·.2))
  | .dit ks xs=>∃ u kvs,H a=some u∧DitR K a u ks kvs∧RVs K g ks (kvs.map (·.1))∧RVs K g xs (kvs.map (·.2))

def RO (K:Ki) (g:G) (H:Hp):OV→V→Prop
  | .v x,v=>RV K g x v
  | .b o,v=>∃ a,v=.ref a∧ObjR K g o H a∧g.F a=none∧∀ n,g.r n≠some a

def lamNames:List Str:=["law","_law_wide_so","_law_first_lost_so","_law_shelf_apply","_law_hall_deed","_law_ask_verdict","_law_plays_refused","_law_first_rows_so","_law_full_so","_law_true_so"]
def tabOf (K:PySem.W.Frag) (x:Str):Option (Addr × Addr × Str):=match PySem.W.nsIn K mainGlobals x with
  | some (some (.ref f))=>(match K.lookup f with
    | some ⟨_,_,.func fd,_⟩=>(match fd.code with
      | .ref c=>(match K.lookup c with
        | some ⟨_,_,.fields vs,_⟩=>(match (vs.toList[11]?:Option Value) with
          | some (.ref P)=>some (c,P,fd.qualname++".<locals>."++"<lambda>")
          | _=>none)
        | _=>none)
      | _=>none)
    | _=>none)
  | _=>none
def tabsOf (K:PySem.W.Frag):List (Addr × Addr × Str):=lamNames.filterMap (tabOf K)
structure TabG (g:G) (H:Hp) (P:Addr) (q:Str):Prop where
  ps:∃ ps:Array Value,H P=some (.tbl ps)∧TriplesOk ps.toList∧∀ (pos:Pos) (cv:Value),codeAmong pos ps.toList=some cv→∃ c,cv=.ref c∧g.F c=some (LamX.CodeO c q)
  F:g.F P=none
  r:∀ n,g.r n≠some P
def NTbl (o:HO):Prop:=∀ ps,o≠.tbl ps
theorem TabG.ne {g:G} {H:Hp} {P:Addr} {q:Str} (t:TabG g H P q) {a:Addr} {o:HO} (h:H a=some o) (n:NTbl o):a≠P:=fun z=>by
  obtain ⟨ps,e,_⟩:=t.ps
  rw [z,e] at h
  exact n ps (Option.some.inj h).symm
theorem TabG.ne0 {g:G} {H:Hp} {P:Addr} {q:Str} (t:TabG g H P q) {a:Addr} (h:H a=none):a≠P:=fun z=>by
  obtain ⟨ps,e,_⟩:=t.ps
  rw [z,e] at h
  cases h
theorem TabG.go {g g':G} {H H':Hp} {P:Addr} {q:Str} (t:TabG g H P q) (e:H' P=H P) (hF:∀ b u,g.F b=some u→g'.F b=some u) (h1:g'.F P=none) (h2:∀ n,g'.r n≠some P):TabG g' H' P q:=by
  obtain ⟨ps,e1,e2,e3⟩:=t.ps
  exact ⟨⟨ps,e.trans e1,e2,fun pos cv h=>let ⟨c,a,b⟩:=e3 pos cv h;⟨c,a,hF _ _ b⟩⟩,h1,h2⟩
structure Rs (K:Ki) (g:G) (m:Mem) (H:Hp):Prop where
  sub:∀ a o,g.F a=some o→H a=some o
  gr:∀ n o,m[n]? = some (some o)→∃ a,g.r n=some a∧g.F a=none∧ObjR K g o H a
  rb:∀ n a,g.r n=some a→n < m.length∧H a≠none
  rj:∀ n k a,g.r n=some a→g.r k=some a→n=k
  tb:∀ p∈tabsOf K.K,TabG g H p.2.1 p.2.2

structure RSl (K:Ki) (g:G) (s:Sl) (σ:St) (H:Hp):Prop where
  val:∀ (i:Nat) x,s[i]? = some (some (.v x))→∃ v,σ[i]? = some (some v)∧RV K g x v
  own:∀ (i:Nat) o,s[i]? = some (some (.own o))→∃ a,σ[i]? = some (some (.ref a))∧ObjR K g o H a∧g.F a=none∧∀ n,g.r n≠some a
  dis:∀ (i j:Nat) o u a,s[i]? = some (some (.own o))→s[j]? = some (some (.own u))→σ[i]? = some (some (.ref a))→σ[j]? = some (some (.ref a))→i=j
  len:s.length=σ.length

structure Stp (g:G) (H:Hp) (g':G) (H':Hp):Prop where
  F:∀ a o,g.F a=some o→g'.F a=some o
  r:∀ n a,g.r n=some a→g'.r n=some a
  keep:∀ b o,H b=some o→(∀ n,g.r n≠some b)→NTbl o→H' b=some o
  dom:∀ b,H b≠none→H' b≠none
  Fn:∀ b,g'.F b≠none→g.F b≠none∨H b=none∨(∃ n,g.r n=some b)∨∃ ys,H' b=some (.tup ys)
  rn:∀ n b,g'.r n=some b→g.r n=some b∨H b=none

theorem Stp.refl (g:G) (H:Hp):Stp g H g H:=⟨fun _ _ h=>h,fun _ _ h=>h,fun _ _ h _ _=>h,fun _ h=>h,fun _ h=>.inl h,fun _ _ h=>.inl h⟩
theorem Stp.trans {g1 g2 g3:G} {H1 H2 H3:Hp} (a:Stp g1 H1 g2 H2) (b:Stp g2 H2 g3 H3):Stp g1 H1 g3 H3 where
  F:=fun x o h=>b.F x o (a.F x o h)
  r:=fun n x h=>b.r n x (a.r n x h)
  keep:=fun x o h hn nt=>b.keep x o (a.keep x o h hn nt) (fun n e=>by
    rcases a.rn n x e with q | q
    · exact hn n q
    · rw [h] at q;cases q) nt
  dom:=fun x h=>b.dom x (a.dom x h)
  Fn:=fun x h=>by
    rcases b.Fn x h with q | q | ⟨n,q⟩ | q
    · rcases a.Fn x q with q | q | q | ⟨ys,q⟩
      · exact .inl q
      · exact .inr (.inl q)
      · exact .inr (.inr (.inl q))
      · by_cases hh:∃ n,g2.r n=some x
        · obtain ⟨n,z⟩:=hh
          rcases a.rn n x z with z | z
          · exact .inr (.inr (.inl ⟨n,z⟩))
          · exact .inr (.inl z)
        · exact .inr (.inr (.inr ⟨ys,b.keep x _ q (fun n z=>hh ⟨n,z⟩) (fun ps z=>by cases z)⟩))
    · by_cases e:H1 x=none
      · exact .inr (.inl e)
      · exact absurd q (a.dom x e)
    · rcases a.rn n x q with z | z
      · exact .inr (.inr (.inl ⟨n,z⟩))
      · exact .inr (.inl z)
    · exact .inr (.inr (.inr q))
  rn:=fun n x h=>by
    rcases b.rn n x h with q | q
    · exact a.rn n x q
    · by_cases e:H1 x=none
      · exact .inr e
      · exact absurd q (a.dom x e)

theorem SqL.monoF {K:Ki} {F F':Hp} {a:Addr} {xs:List V} (h:∀ a o,F a=some o→F' a=some o) (q:SqL K F a xs):SqL K F' a xs:=Same.seq h q
theorem SqT.monoF {K:Ki} {F F':Hp} {a:Addr} {xs:List V} (e:∀ a o,F a=some o→F' a=some o) (h:SqT K F a xs):SqT K F' a xs:=by
  rcases h with (h | ⟨o,h⟩) | h
  · exact .inl (.inl (e _ _ h))
  · exact .inl (.inr ⟨o,e _ _ h⟩)
  · exact .inr h

mutual
theorem RV.mono {K:Ki} {g g':G} (hF:∀ a o,g.F a=some o→g'.F a=some o) (hr:∀ n a,g.r n=some a→g'.r n=some a):∀ (x:MV) {v:V},RV K g x v→RV K g' x v
  | .non,_,h=>h
  | .bl _,_,h=>h
  | .int _,_,h=>h
  | .str _,_,h=>h
  | .tup xs,_,⟨a,ys,e,q,r⟩=>⟨a,ys,e,SqT.monoF hF q,RVs.mono hF hr xs r⟩
  | .lst xs,_,⟨a,ys,e,q,r⟩=>⟨a,ys,e,hF _ _ q,RVs.mono hF hr xs r⟩
  | .kl xs,_,⟨a,ys,e,q,r⟩=>⟨a,ys,e,SqL.monoF hF q,RVs.mono hF hr xs r⟩
  | .ref n,_,⟨a,e,q⟩=>⟨a,e,hr n a q⟩
  | .ins c ks xs,_,⟨a,dx,fs,e,q,q2,q3,r⟩=>⟨a,dx,fs,e,hF _ _ q,hF _ _ q2,q3,RVs.mono hF hr xs r⟩
  | .exn c ks xs,_,⟨a,dx,φ,fs,e,q,q1,q2,q3,r⟩=>⟨a,dx,φ,fs,e,hF _ _ q,q1,hF _ _ q2,q3,RVs.mono hF hr xs r⟩
  | .dic ks xs,_,⟨a,u,kvs,e,q,q3,r,r2⟩=>⟨a,u,kvs,e,hF _ _ q,q3,RVs.mono hF hr ks r,RVs.mono hF hr xs r2⟩
  | .kd ks is,_,h=>h
  | .cls _,_,h=>h
  | .dit ks xs,_,⟨a,u,kvs,e,q,q3,r,r2⟩=>⟨a,u,kvs,e,hF _ _ q,q3,RVs.mono hF hr ks r,RVs.mono hF hr xs r2⟩
theorem RVs.mono {K:Ki} {g g':G} (hF:∀ a o,g.F a=some o→g'.F a=some o) (hr:∀ n a,g.r n=some a→g'.r n=some a):∀ (xs:List MV) {vs:List V},RVs K g xs vs→RVs K g' xs vs
  | [],_,h=>h
  | x :: xs,_,⟨v,r,e,h,t⟩=>⟨v,r,e,RV.mono hF hr x h,RVs.mono hF hr xs t⟩
end
section
variable {K:Ki} {g g' g'':G} {H H' H'':Hp} {m m':Mem} {s:Sl} {σ:St}
theorem RV.st {x:MV} {v:V} (h:RV K g x v) (t:Stp g H g' H'):RV K g' x v:=RV.mono t.F t.r x h
theorem RVs.st {xs:List MV} {vs:List V} (h:RVs K g xs vs) (t:Stp g H g' H'):RVs K g' xs vs:=RVs.mono t.F t.r xs h
theorem RVs.length:∀ {xs:List MV} {vs:List V},RVs K g xs vs→xs.length=vs.length
  | [],_,h=>by cases (show _=[] from h);rfl
  | x :: xs,_,⟨v,r,e,_,t⟩=>by subst e;simp [RVs.length t]
theorem RVs.get:∀ {xs:List MV} {vs:List V} {i:Nat} {x:MV},RVs K g xs vs→xs[i]? = some x→∃ v,vs[i]? = some v∧RV K g x v
  | [],_,_,_,_,e=>by simp at e
  | y :: xs,_,0,x,⟨v,r,e,h,t⟩,q=>by simp at q;subst q;subst e;exact ⟨v,rfl,h⟩
  | y :: xs,_,i + 1,x,⟨v,r,e,h,t⟩,q=>by
    subst e
    obtain ⟨w,a,b⟩:=RVs.get (i:=i) t (by simpa using q)
    exact ⟨w,by simpa using a,b⟩
theorem RVs.get':∀ {xs:List MV} {vs:List V} {i:Nat} {v:V},RVs K g xs vs→vs[i]? = some v→∃ x,xs[i]? = some x∧RV K g x v
  | [],_,_,_,h,e=>by cases (show _=[] from h);simp at e
  | y :: xs,_,0,v,⟨w,r,e,h,t⟩,q=>by subst e;simp at q;subst q;exact ⟨y,rfl,h⟩
  | y :: xs,_,i + 1,v,⟨w,r,e,h,t⟩,q=>by
    subst e
    obtain ⟨x,a,b⟩:=RVs.get' (i:=i) t (by simpa using q)
    exact ⟨x,by simpa using a,b⟩
theorem RVs.set {x:MV} {v:V} (h:RV K g x v):∀ {xs:List MV} {vs:List V} (i:Nat),RVs K g xs vs→RVs K g (xs.set i x) (vs.set i v)
  | [],_,_,q=>by cases (show _=[] from q);exact rfl
  | y :: xs,_,0,⟨w,r,e,_,t⟩=>by subst e;exact ⟨v,r,rfl,h,t⟩
  | y :: xs,_,i + 1,⟨w,r,e,q,t⟩=>by subst e;exact ⟨w,r.set i v,rfl,q,RVs.set h i t⟩
theorem RVs.append:∀ {xs ys:List MV} {vs ws:List V},RVs K g xs vs→RVs K g ys ws→RVs K g (xs++ys) (vs++ws)
  | [],_,_,_,h,q=>by cases (show _=[] from h);exact q
  | x :: xs,_,_,_,⟨v,r,e,h,t⟩,q=>by subst e;exact ⟨v,_,rfl,h,RVs.append t q⟩
theorem RVs.one {x:MV} {v:V} (h:RV K g x v):RVs K g [x] [v]:=⟨v,[],rfl,h,rfl⟩
theorem RVs.take:∀ {xs:List MV} {vs:List V} (n:Nat),RVs K g xs vs→RVs K g (xs.take n) (vs.take n)
  | _,_,0,_=>rfl
  | [],_,_ + 1,h=>by cases (show _=[] from h);exact rfl
  | x :: xs,_,n + 1,⟨v,r,e,h,t⟩=>by subst e;exact ⟨v,_,rfl,h,RVs.take n t⟩
theorem RVs.drop:∀ {xs:List MV} {vs:List V} (n:Nat),RVs K g xs vs→RVs K g (xs.drop n) (vs.drop n)
  | _,_,0,h=>h
  | [],_,_ + 1,h=>by cases (show _=[] from h);exact rfl
  | x :: xs,_,n + 1,⟨v,r,e,h,t⟩=>by subst e;exact RVs.drop n t

theorem ObjR.st {o:MO} {a:Addr} (h:ObjR K g o H a) (t:Stp g H g' H') (e:H' a=H a):ObjR K g' o H' a:=by
  cases o with
  | lst xs=>obtain ⟨ys,q,r⟩:=h;exact ⟨ys,e.trans q,r.st t⟩
  | ins c ks xs=>obtain ⟨dx,fs,q,q2,q3,r⟩:=h;exact ⟨dx,fs,e.trans q,t.F _ _ q2,q3,r.st t⟩
  | dic ks xs=>obtain ⟨u,kvs,q,q3,r,r2⟩:=h;exact ⟨u,kvs,e.trans q,q3,r.st t,r2.st t⟩
  | dit ks xs=>obtain ⟨u,kvs,q,q3,r,r2⟩:=h;exact ⟨u,kvs,e.trans q,q3,r.st t,r2.st t⟩
theorem ObjR.someN {o:MO} {a:Addr} (h:ObjR K g o H a):∃ u,H a=some u∧NTbl u:=by
  cases o with
  | lst xs=>obtain ⟨ys,q,r⟩:=h;exact ⟨_,q,fun ps z=>by cases z⟩
  | ins c ks xs=>obtain ⟨dx,fs,q,_⟩:=h;exact ⟨_,q,fun ps z=>by cases z⟩
  | dic ks xs=>obtain ⟨u,kvs,q,⟨kv,rfl,_⟩,_⟩:=h;exact ⟨_,q,fun ps z=>by cases z⟩
  | dit ks xs=>obtain ⟨u,kvs,q,⟨nks,ob,_,rfl⟩,_⟩:=h;exact ⟨_,q,fun ps z=>by cases z⟩
theorem ObjR.ntup {o:MO} {a:Addr} (h:ObjR K g o H a) (ys:List V):H a≠Option.some (.tup ys):=fun e=>by
  cases o with
  | lst xs=>obtain ⟨ys,q,r⟩:=h;rw [e] at q;cases q
  | ins c ks xs=>obtain ⟨dx,fs,q,_⟩:=h;rw [e] at q;cases q
  | dic ks xs=>obtain ⟨u,kvs,q,⟨kv,rfl,_⟩,_⟩:=h;rw [e] at q;cases q
  | dit ks xs=>obtain ⟨u,kvs,q,⟨nks,ob,_,rfl⟩,_⟩:=h;rw [e] at q;cases q
theorem ObjR.nt {o:MO} {a:Addr} {u:HO} (h:ObjR K g o H a) (e:H a=Option.some u):NTbl u:=by
  obtain ⟨w,e2,n⟩:=h.someN
  rw [e] at e2;cases e2
  exact n
theorem ObjR.some {o:MO} {a:Addr} (h:ObjR K g o H a):∃ u,H a=some u:=let ⟨u,e,_⟩:=h.someN;⟨u,e⟩
theorem ObjR.grow {K:Ki} {g g':G} {H H':Hp} {o:MO} {a:Addr} (h:ObjR K g o H a) (hF:∀ b u,g.F b=Option.some u→g'.F b=Option.some u) (hr:∀ n b,g.r n=Option.some b→g'.r n=Option.some b) (e:H' a=H a):ObjR K g' o H' a:=by
  cases o with
  | lst xs=>obtain ⟨ys,q,r⟩:=h;exact ⟨ys,e.trans q,RVs.mono hF hr xs r⟩
  | ins c ks xs=>obtain ⟨dx,fs,q,q2,q3,r⟩:=h;exact ⟨dx,fs,e.trans q,hF _ _ q2,q3,RVs.mono hF hr xs r⟩
  | dic ks xs=>obtain ⟨u,kvs,q,q3,r,r2⟩:=h;exact ⟨u,kvs,e.trans q,q3,RVs.mono hF hr ks r,RVs.mono hF hr xs r2⟩
  | dit ks xs=>obtain ⟨u,kvs,q,q3,r,r2⟩:=h;exact ⟨u,kvs,e.trans q,q3,RVs.mono hF hr ks r,RVs.mono hF hr xs r2⟩
theorem own_st {o:MO} {a:Addr} (h:ObjR K g o H a) (hF:g.F a=none) (hr:∀ n,g.r n≠some a) (t:Stp g H g' H'):ObjR K g' o H' a∧g'.F a=none∧∀ n,g'.r n≠some a:=by
  obtain ⟨u,q,nt⟩:=h.someN
  refine ⟨h.st t ((t.keep a u q hr nt).trans q.symm),?_,fun n e=>?_⟩
  · cases z:g'.F a with
    | none=>rfl
    | some w =>
      rcases t.Fn a (by rw [z];simp) with y | y | ⟨n,y⟩ | ⟨ys,y⟩
      · exact absurd hF y
      · rw [q] at y;cases y
      · exact absurd y (hr n)
      · rw [t.keep a u q hr nt] at y;cases y
        exact absurd q (h.ntup ys)
  · rcases t.rn n a e with y | y
    · exact hr n y
    · rw [q] at y;cases y
theorem RO.st {x:OV} {v:V} (h:RO K g H x v) (t:Stp g H g' H'):RO K g' H' x v:=by
  cases x with
  | v x=>exact RV.st (show RV K g x v from h) t
  | b o =>
    obtain ⟨a,e,q,hF,hr⟩:=h
    obtain ⟨q1,q2,q3⟩:=own_st q hF hr t
    exact ⟨a,e,q1,q2,q3⟩
theorem RSl.st (h:RSl K g s σ H) (t:Stp g H g' H'):RSl K g' s σ H' where
  val:=fun i x e=>let ⟨v,a,b⟩:=h.val i x e;⟨v,a,b.st t⟩
  own:=fun i o e=>by
    obtain ⟨a,e1,q,hF,hr⟩:=h.own i o e
    obtain ⟨q1,q2,q3⟩:=own_st q hF hr t
    exact ⟨a,e1,q1,q2,q3⟩
  dis:=h.dis
  len:=h.len

theorem Rs.freeze {p:Addr} {o:HO} (h:Rs K g m H) (hp:H p=none):Rs K { g with F:=upd g.F p o } m (upd H p o)∧Stp g H { g with F:=upd g.F p o } (upd H p o):=by
  have ne:∀ a u,H a=some u→a≠p:=fun a u e z=>by subst z;rw [hp] at e;cases e
  have neF:∀ a u,g.F a=some u→a≠p:=fun a u e=>ne a u (h.sub a u e)
  have st:Stp g H { g with F:=upd g.F p o } (upd H p o):=by
    refine ⟨fun a u e=>?_,fun n a e=>e,fun b u e _ _=>?_,fun b e=>?_,fun b e=>?_,fun n b e=>.inl e⟩
    · show upd g.F p o a=some u
      rw [upd_ne (neF a u e)];exact e
    · rw [upd_ne (ne b u e)];exact e
    · by_cases z:b=p
      · subst z;exact absurd hp e
      · rw [upd_ne z];exact e
    · by_cases z:b=p
      · subst z;exact .inr (.inl hp)
      · have e:upd g.F p o b≠none:=e
        rw [upd_ne z] at e;exact .inl e
  refine ⟨⟨fun a u e=>?_,fun n u e=>?_,fun n a e=>?_,h.rj,fun q hq=>?_⟩,st⟩
  · have e:upd g.F p o a=some u:=e
    by_cases z:a=p
    · subst z;rw [upd_same] at e ⊢;exact e
    · rw [upd_ne z] at e ⊢;exact h.sub a u e
  · obtain ⟨a,e1,e2,e3⟩:=h.gr n u e
    obtain ⟨w,hw⟩:=e3.some
    have na:=ne a w hw
    exact ⟨a,e1,by show upd g.F p o a=none;rw [upd_ne na];exact e2,e3.st st (upd_ne na)⟩
  · obtain ⟨h1,h2⟩:=h.rb n a e
    refine ⟨h1,?_⟩
    rw [upd_ne (fun z=>h2 (by rw [z];exact hp))];exact h2
  · have tq:=h.tb q hq
    have np:=(tq.ne0 hp).symm
    exact tq.go (upd_ne np) st.F (by show upd g.F p o _=none;rw [upd_ne np];exact tq.F) tq.r
theorem Rs.freezeAt {p:Addr} {o:HO} (h:Rs K g m H) (hp:H p=some o) (hr:∀ n,g.r n≠some p) (hF:g.F p=none) (nt:NTbl o):Rs K { g with F:=upd g.F p o } m H:=by
  have mono:∀ a u,g.F a=some u→upd g.F p o a=some u:=fun a u e=>by
    by_cases z:a=p
    · subst z;rw [hF] at e;cases e
    · rw [upd_ne z];exact e
  refine ⟨fun a u e=>?_,fun n u e=>?_,h.rb,h.rj,fun q hq=>?_⟩
  · have e:upd g.F p o a=some u:=e
    by_cases z:a=p
    · subst z;rw [upd_same] at e;rw [hp];exact e
    · rw [upd_ne z] at e;exact h.sub a u e
  · obtain ⟨a,e1,e2,e3⟩:=h.gr n u e
    have na:a≠p:=fun z=>hr n (by rw [← z];exact e1)
    exact ⟨a,e1,by show upd g.F p o a=none;rw [upd_ne na];exact e2,ObjR.grow e3 mono (fun _ _ e=>e) rfl⟩
  · have tq:=h.tb q hq
    have np:=(tq.ne hp nt).symm
    exact tq.go rfl mono (by show upd g.F p o _=none;rw [upd_ne np];exact tq.F) tq.r
end

def ExR (K:Ki) (g:G) (c:Str) (ks:List Str) (xs:List MV) (cls:Value) (d:Option Addr):Prop:=∃ dd fs,cls=.ref (K.ga c)∧d=some dd∧g.F dd=some (.xd fs)∧fs.map (·.1)=ks∧RVs K g xs (fs.map (·.2))
def Post {α β:Type} (K:Ki) (E:XK) (Rel:G→Hp→α→β→Prop) (g:G) (H:Hp) (r:R α) (Q:β→Hp→Prop):Prop:=match r with
  | .ok x m'=>∀ g' v H',Rs K g' m' H'→Stp g H g' H'→Rel g' H' x v→Q v H'
  | .exc c ks xs m'=>∀ g' cls d H',Rs K g' m' H'→Stp g H g' H'→ExR K g' c ks xs cls d→E cls d H'
  | .stuck=>False
abbrev PostO (K:Ki) (E:XK):G→Hp→R OV→VK→Prop:=Post K E (RO K)
abbrev PostB (K:Ki) (E:XK):G→Hp→R Bool→(Bool→Hp→Prop)→Prop:=Post K E fun _ _ x v=>x=v
abbrev PostL (K:Ki) (E:XK):G→Hp→R (List OV)→(List V→Hp→Prop)→Prop:=Post K E fun g H=>Paired (RO K g H)
def PostF (K:Ki) (E:XK) (g:G) (H:Hp) (r:R MO) (Q:VK):Prop:=match r with
  | .ok o m'=>∀ g' p H',Rs K g' m' H'→Stp g H g' H'→H p=none→g'.F p=none→(∀ n,g'.r n≠some p)→ObjR K g' o H' p→Q (.ref p) H'
  | .exc c ks xs m'=>∀ g' cls d H',Rs K g' m' H'→Stp g H g' H'→ExR K g' c ks xs cls d→E cls d H'
  | .stuck=>False
def tE (K:Ki) (W:WX) (f:Sl→Mem→R OV):TE:=fun σ H Q=>∃ g s m,Rs K g m H∧RSl K g s σ H∧PostO K (WE W σ) g H (f s m) Q
def tF (K:Ki) (W:WX) (f:Sl→Mem→R MO):TE:=fun σ H Q=>∃ g s m,Rs K g m H∧RSl K g s σ H∧PostF K (WE W σ) g H (f s m) Q
def tT (K:Ki) (W:WX) (f:Sl→Mem→R Bool):TT:=fun σ H Q=>∃ g s m,Rs K g m H∧RSl K g s σ H∧PostB K (WE W σ) g H (f s m) Q
def tA (K:Ki) (W:WX) (f:Sl→Mem→R (List OV)):TA:=fun σ H Q=>∃ g s m,Rs K g m H∧RSl K g s σ H∧PostL K (WE W σ) g H (f s m) Q

theorem _root_.L2.PE.weaken {X:Cx} {e:Expr} {t t':TE} (h:PE X e t) (w:∀ σ H Q,t' σ H Q→t σ H Q):PE X e t':=⟨fun pins s σ H Q I q=>h.run pins s σ H Q I (w σ H Q q)⟩
theorem _root_.L2.PT.weaken {X:Cx} {e:Expr} {t t':TT} (h:PT X e t) (w:∀ σ H Q,t' σ H Q→t σ H Q):PT X e t':=⟨fun pins s σ H Q I q=>h.run pins s σ H Q I (w σ H Q q)⟩
theorem _root_.L2.PW.weaken {X:Cx} {e:Expr} {t t':TT} (h:PW X e t) (w:∀ σ H Q,t' σ H Q→t σ H Q):PW X e t':=⟨fun wh pins s σ H Q I q=>h.run wh pins s σ H Q I (w σ H Q q)⟩
theorem _root_.L2.PA.weaken {X:Cx} {es:List Expr} {t t':TA} (h:PA X es t) (w:∀ σ H Q,t' σ H Q→t σ H Q):PA X es t':=⟨fun pos pins s σ H Q I q=>h.run pos pins s σ H Q I (w σ H Q q)⟩
theorem _root_.L2.PS.weaken {X:Cx} {e:Stmt} {t t':TS} (h:PS X e t) (w:∀ D σ H,t' D σ H→t D σ H):PS X e t':=⟨fun pins s σ H D I q=>h.run pins s σ H D I (w D σ H q)⟩
theorem _root_.L2.PSs.weaken {X:Cx} {e:List Stmt} {t t':TS} (h:PSs X e t) (w:∀ D σ H,t' D σ H→t D σ H):PSs X e t':=⟨fun pins s σ H D I q=>h.run pins s σ H D I (w D σ H q)⟩
theorem _root_.L2.OpR.weaken {X:Cx} {f:Value→Value→Sem Value} {r r':R2} (h:OpR X f r) (w:∀ x y H Q,r' x y H Q→r x y H Q):OpR X f r':=fun pins s σ H x y v u Q I rx ry q=>h pins s σ H x y v u Q I rx ry (w x y H Q q)

section
variable {α β γ δ:Type} {K:Ki} {g g':G} {H H':Hp} {R1:G→Hp→α→β→Prop} {R2:G→Hp→γ→δ→Prop}
theorem Post.shift {r:R α} {Q:β→Hp→Prop} (t:Stp g H g' H') (h:Post K E R1 g H r Q):Post K E R1 g' H' r Q:=by
  cases r with
  | ok x m'=>exact fun g2 v H2 a b c=>h g2 v H2 a (t.trans b) c
  | exc c ks xs m'=>exact fun g2 cls d H2 a b e=>h g2 cls d H2 a (t.trans b) e
  | stuck=>exact h
theorem PostF.shift {r:R MO} {Q:VK} (t:Stp g H g' H') (h:PostF K E g H r Q):PostF K E g' H' r Q:=by
  cases r with
  | ok x m' =>
    refine fun g2 p H2 a b c d e f=>h g2 p H2 a (t.trans b) ?_ d e f
    cases q:H p with
    | none=>rfl
    | some o=>exact absurd c (t.dom p (by rw [q];simp))
  | exc c ks xs m'=>exact fun g2 cls d H2 a b e=>h g2 cls d H2 a (t.trans b) e
  | stuck=>exact h
theorem Post.bind {r:R α} {k:α→Mem→R γ} {Q:δ→Hp→Prop} (h:Post K E R2 g H (r.bind k) Q):Post K E R1 g H r fun v H1=>∃ x g1 m1,Rs K g1 m1 H1∧Stp g H g1 H1∧R1 g1 H1 x v∧Post K E R2 g1 H1 (k x m1) Q:=by
  cases r with
  | ok x m'=>exact fun g1 v H1 a b c=>⟨x,g1,m',a,b,c,Post.shift b h⟩
  | _=>exact h
theorem PostF.bind {r:R α} {k:α→Mem→R MO} {Q:VK} (h:PostF K E g H (r.bind k) Q):Post K E R1 g H r fun v H1=>∃ x g1 m1,Rs K g1 m1 H1∧Stp g H g1 H1∧R1 g1 H1 x v∧PostF K E g1 H1 (k x m1) Q:=by
  cases r with
  | ok x m'=>exact fun g1 v H1 a b c=>⟨x,g1,m',a,b,c,PostF.shift b h⟩
  | _=>exact h
end
end Rc

set_option maxHeartbeats 400000
namespace Rc
open PySem PySem.Spec L2 SeqAt
open PyProof.Rows hiding St

mutual
def nd:PyData→Bool
  | .none=>true
  | .bool _=>true
  | .int _=>true
  | .str _=>true
  | .list xs=>nds xs
  | .tuple xs=>nds xs
  | .dict _=>false
def nds:List PyData→Bool
  | []=>true
  | x :: xs=>nd x&&nds xs
end
theorem nds_and {x:PyData} {xs:List PyData} (h:nds (x :: xs)=true):nd x=true∧nds xs=true:=by
  unfold nds at h
  exact Bool.and_eq_true_iff.mp h
section
variable {h:Heap}
mutual
theorem rd_uniq:∀ (d e:PyData) {u:Value} {as bs:List Addr},nd d=true→Reads h u d as→Reads h u e bs→d=e
  | .none,e,_,_,_,_,p,q=>by cases p;cases q;rfl
  | .bool _,e,_,_,_,_,p,q=>by cases p;cases q;rfl
  | .int _,e,_,_,_,_,p,q=>by cases p;cases q;rfl
  | .str _,e,_,_,_,_,p,q=>by cases p;cases q;rfl
  | .list xs,e,_,_,_,n,p,q=>by
    cases p with
    | list p1 p2 p3 p4 =>
      cases q with
      | list q1 q2 q3 q4 =>
        rw [p1] at q1;cases q1;rw [p3] at q3;cases q3
        rw [rd_uniqs xs _ (by unfold nd at n;exact n) p4 q4]
      | tuple q1 q2 _ _=>rw [p1] at q1;cases q1;rw [p2] at q2;injection q2 with z;exact absurd z (by decide)
      | dict q1 q2 _ _ _=>rw [p1] at q1;cases q1;rw [p2] at q2;injection q2 with z;exact absurd z (by decide)
  | .tuple xs,e,_,_,_,n,p,q=>by
    cases p with
    | tuple p1 p2 p3 p4 =>
      cases q with
      | tuple q1 q2 q3 q4 =>
        rw [p1] at q1;cases q1;rw [p3] at q3;cases q3
        rw [rd_uniqs xs _ (by unfold nd at n;exact n) p4 q4]
      | list q1 q2 _ _=>rw [p1] at q1;cases q1;rw [p2] at q2;injection q2 with z;exact absurd z (by decide)
      | dict q1 q2 _ _ _=>rw [p1] at q1;cases q1;rw [p2] at q2;injection q2 with z;exact absurd z (by decide)
  | .dict _,_,_,_,_,n,_,_=>by cases n
theorem rd_uniqs:∀ (ds es:List PyData) {us:List Value} {as bs:List Addr},nds ds=true→ReadsAll h us ds as→ReadsAll h us es bs→ds=es
  | [],es,_,_,_,_,p,q=>by cases p;cases q;rfl
  | d :: ds,es,_,_,_,n,p,q=>by
    cases p with
    | cons p1 p2 =>
      cases q with
      | cons q1 q2=>rw [rd_uniq d _ (nds_and n).1 p1 q1,rd_uniqs ds _ (nds_and n).2 p2 q2]
end
mutual
theorem eqv_self:∀ d:PyData,nd d=true→PyData.eqv d d=true
  | .none,_=>rfl
  | .bool _,_=>by unfold PyData.eqv;exact beq_self_eq_true _
  | .int _,_=>by unfold PyData.eqv;exact beq_self_eq_true _
  | .str _,_=>by unfold PyData.eqv;exact beq_self_eq_true _
  | .list xs,n=>by unfold PyData.eqv;exact eqvs_self xs (by unfold nd at n;exact n)
  | .tuple xs,n=>by unfold PyData.eqv;exact eqvs_self xs (by unfold nd at n;exact n)
  | .dict _,n=>by cases n
theorem eqvs_self:∀ ds:List PyData,nds ds=true→PyData.eqvAll ds ds=true
  | [],_=>by unfold PyData.eqvAll;rfl
  | d :: ds,n=>by unfold PyData.eqvAll;rw [eqv_self d (nds_and n).1,eqvs_self ds (nds_and n).2];rfl
end
end
def scaD:PyData→Bool
  | .list _=>false
  | .tuple _=>false
  | .dict _=>false
  | _=>true
section
variable {s:Shared} {A:Around}
theorem sca_sca {d e:PyData} {u v:Value} {as bs:List Addr} (p:Reads s.heap u d as) (q:Reads s.heap v e bs) (hd:scaD d=true) (he:scaD e=true):EqAt A s u v (PyData.eqv d e):=by
  cases p with
  | none =>
    cases q with
    | none=>exact EqAt.same _
    | bool b=>exact EqAt.none_bool b
    | int b u=>exact EqAt.none_int b u
    | str b u=>exact EqAt.none_str b u
    | list=>cases he
    | tuple=>cases he
    | dict=>cases he
  | bool a =>
    cases q with
    | none=>exact EqAt.bool_none a
    | bool b=>exact EqAt.bool_bool a b
    | int b u=>exact EqAt.bool_int a b u
    | str b u=>exact EqAt.bool_str a b u
    | list=>cases he
    | tuple=>cases he
    | dict=>cases he
  | int a t =>
    cases q with
    | none=>exact EqAt.int_none a t
    | bool b=>exact EqAt.int_bool a t b
    | int b u=>exact EqAt.int_int a t b u
    | str b u=>exact EqAt.int_str a t b u
    | list=>cases he
    | tuple=>cases he
    | dict=>cases he
  | str a t =>
    cases q with
    | none=>exact EqAt.str_none a t
    | bool b=>exact EqAt.str_bool a t b
    | int b u=>exact EqAt.str_int a t b u
    | str b u=>exact EqAt.str_str a t b u
    | list=>cases he
    | tuple=>cases he
    | dict=>cases he
  | list=>cases hd
  | tuple=>cases hd
  | dict=>cases hd
theorem sca_list {d:PyData} {u:Value} {as:List Addr} {l:Addr} {vs:Array Value} (p:Reads s.heap u d as) (hl:s.heap.IsList l vs) (hu:A.units < cLine) (hd:scaD d=true):EqAt A s u (.ref l) false∧EqAt A s (.ref l) u false:=by
  cases p with
  | none=>exact ⟨EqAt.none_list  hl hu,EqAt.list_none  hl hu⟩
  | bool a=>exact ⟨EqAt.bool_list a hl hu,EqAt.list_bool a hl hu⟩
  | int a t=>exact ⟨EqAt.int_list a t hl hu,EqAt.list_int a t hl hu⟩
  | str a t=>exact ⟨EqAt.str_list a t hl hu,EqAt.list_str a t hl hu⟩
  | list=>cases hd
  | tuple=>cases hd
  | dict=>cases hd
theorem sca_tup {d:PyData} {u:Value} {as:List Addr} {l:Addr} {vs:Array Value} (p:Reads s.heap u d as) (hl:s.heap.IsTuple l vs) (hu:A.units < cLine) (hd:scaD d=true):EqAt A s u (.ref l) false∧EqAt A s (.ref l) u false:=by
  cases p with
  | none=>exact ⟨EqAt.none_tuple  hl hu,EqAt.tuple_none  hl hu⟩
  | bool a=>exact ⟨EqAt.bool_tuple a hl hu,EqAt.tuple_bool a hl hu⟩
  | int a t=>exact ⟨EqAt.int_tuple a t hl hu,EqAt.tuple_int a t hl hu⟩
  | str a t=>exact ⟨EqAt.str_tuple a t hl hu,EqAt.tuple_str a t hl hu⟩
  | list=>cases hd
  | tuple=>cases hd
  | dict=>cases hd
theorem eqv_sl {d:PyData} {xs:List PyData} (h:scaD d=true):PyData.eqv d (.list xs)=false∧PyData.eqv (.list xs) d=false∧PyData.eqv d (.tuple xs)=false∧PyData.eqv (.tuple xs) d=false:=by
  cases d <;> first | (cases h;done) | exact ⟨rfl,rfl,rfl,rfl⟩
theorem rdl {vs:List Value} {ds:List PyData} {as:List Addr} (p:ReadsAll s.heap vs ds as):vs.length=ds.length:=ReadsAll.length _ _ _ p
mutual
theorem eqRd:∀ (d e:PyData) {A:Around} {u v:Value} {as bs:List Addr},Reads s.heap u d as→Reads s.heap v e bs→nd d=true→nd e=true→A.units + min d.depth e.depth < cLine→EqAt A s u v (PyData.eqv d e)
  | .list xs,e,A,u,v,as,bs,p,q,n1,n2,hu=>by
    have hu0:A.units < cLine:=by omega
    by_cases he:scaD e=true
    · cases p with
      | list p1 p2 p3 p4 =>
        rw [(eqv_sl he).2.1]
        exact (sca_list q ⟨_,p1,p2,_,p3⟩ hu0 he).2
    · cases e <;> first | (exact absurd rfl he) | (cases n2;done) | skip
      case list ys =>
        cases p with
        | @list l _ vs _ _ _ p1 p2 p3 p4 =>
          cases q with
          | @list l' _ ws _ _ _ q1 q2 q3 q4 =>
            unfold nd at n1 n2
            have e1:=rdl p4
            have e2:=rdl q4
            simp only [Array.length_toList] at e1 e2
            unfold PyData.eqv
            by_cases hll:l=l'
            · subst hll
              rw [p1] at q1;cases q1;rw [p3] at q3;cases q3
              cases rd_uniqs xs ys n1 p4 q4
              rw [eqvs_self xs n1]
              exact EqAt.same _
            · by_cases hz:vs.size=ws.size
              · rw [← eqvAll_same_length (show xs.length=ys.length by omega),← e1]
                refine EqAt.of_refs hll (RcAt.lists ⟨_,p1,p2,_,p3⟩ ⟨_,q1,q2,_,q3⟩ hz hu0 fun j j1 j2=>?_)
                have z:=eqRds xs ys (A:=A.in1) p4 q4 n1 n2 (by simp only [PyData.depth] at hu;show A.units + 1 + _ < _;omega) j (by simpa using j1) (by simpa using j2)
                simpa using z
              · rw [eqvAll_other_length (show xs.length≠ys.length by omega)]
                exact EqAt.of_refs hll (RcAt.lists_lengths ⟨_,p1,p2,_,p3⟩ ⟨_,q1,q2,_,q3⟩ (by simpa using hz) hu0)
      case tuple ys =>
        cases p with
        | list p1 p2 p3 p4 =>
          cases q with
          | tuple q1 q2 q3 q4=>exact EqAt.list_tuple ⟨_,p1,p2,_,p3⟩ ⟨_,q1,q2,_,q3⟩ hu0
  | .tuple xs,e,A,u,v,as,bs,p,q,n1,n2,hu=>by
    have hu0:A.units < cLine:=by omega
    by_cases he:scaD e=true
    · cases p with
      | tuple p1 p2 p3 p4 =>
        rw [(eqv_sl he).2.2.2]
        exact (sca_tup q ⟨_,p1,p2,_,p3⟩ hu0 he).2
    · cases e <;> first | (exact absurd rfl he) | (cases n2;done) | skip
      case list ys =>
        cases p with
        | tuple p1 p2 p3 p4 =>
          cases q with
          | list q1 q2 q3 q4=>exact EqAt.tuple_list ⟨_,p1,p2,_,p3⟩ ⟨_,q1,q2,_,q3⟩ hu0
      case tuple ys =>
        cases p with
        | @tuple l _ vs _ _ _ p1 p2 p3 p4 =>
          cases q with
          | @tuple l' _ ws _ _ _ q1 q2 q3 q4 =>
            unfold nd at n1 n2
            have e1:=rdl p4
            have e2:=rdl q4
            simp only [Array.length_toList] at e1 e2
            unfold PyData.eqv
            by_cases hll:l=l'
            · subst hll
              rw [p1] at q1;cases q1;rw [p3] at q3;cases q3
              cases rd_uniqs xs ys n1 p4 q4
              rw [eqvs_self xs n1]
              exact EqAt.same _
            · rw [← eqvAll_eq,← e1,← e2]
              refine EqAt.of_refs hll (RcAt.tuples ⟨_,p1,p2,_,p3⟩ ⟨_,q1,q2,_,q3⟩ hu0 fun j j1 j2=>?_)
              have z:=eqRds xs ys (A:=A.in1) p4 q4 n1 n2 (by simp only [PyData.depth] at hu;show A.units + 1 + _ < _;omega) j (by simpa using j1) (by simpa using j2)
              simpa using z
  | .dict _,_,_,_,_,_,_,_,_,n,_,_=>by cases n
  | .none,e,A,u,v,as,bs,p,q,n1,n2,hu=>eqRd1 rfl p q n2 (by omega)
  | .bool _,e,A,u,v,as,bs,p,q,n1,n2,hu=>eqRd1 rfl p q n2 (by omega)
  | .int _,e,A,u,v,as,bs,p,q,n1,n2,hu=>eqRd1 rfl p q n2 (by omega)
  | .str _,e,A,u,v,as,bs,p,q,n1,n2,hu=>eqRd1 rfl p q n2 (by omega)
theorem eqRd1 {d e:PyData} {A:Around} {u v:Value} {as bs:List Addr} (hd:scaD d=true) (p:Reads s.heap u d as) (q:Reads s.heap v e bs) (n2:nd e=true) (hu:A.units < cLine):EqAt A s u v (PyData.eqv d e):=by
  by_cases he:scaD e=true
  · exact sca_sca p q hd he
  · cases e <;> first | (exact absurd rfl he) | (cases n2;done) | skip
    case list ys =>
      rw [(eqv_sl hd).1]
      cases q with
      | list q1 q2 q3 q4=>exact (sca_list p ⟨_,q1,q2,_,q3⟩ hu hd).1
    case tuple ys =>
      rw [(eqv_sl hd).2.2.1]
      cases q with
      | tuple q1 q2 q3 q4=>exact (sca_tup p ⟨_,q1,q2,_,q3⟩ hu hd).1
theorem eqRds:∀ (xs ys:List PyData) {A:Around} {vs ws:List Value} {as bs:List Addr},ReadsAll s.heap vs xs as→ReadsAll s.heap ws ys bs→nds xs=true→nds ys=true →
    A.units + min (PyData.depthAll xs) (PyData.depthAll ys) < cLine→∀ j (h1:j < vs.length) (h2:j < ws.length),EqAt A s vs[j] ws[j] (pairEq xs ys j)
  | [],_,_,_,_,_,_,p,_,_,_,_,j,h1,_=>by cases p;exact absurd h1 (Nat.not_lt_zero _)
  | _ :: _,[],_,_,_,_,_,_,q,_,_,_,j,_,h2=>by cases q;exact absurd h2 (Nat.not_lt_zero _)
  | x :: xs,y :: ys,A,_,_,_,_,p,q,n1,n2,hu,j,h1,h2=>by
    simp only [PyData.depthAll] at hu
    cases p with
    | cons p1 p2 =>
      cases q with
      | cons q1 q2 =>
        cases j with
        | zero=>exact eqRd x y p1 q1 (nds_and n1).1 (nds_and n2).1 (by omega)
        | succ j=>exact eqRds xs ys p2 q2 (nds_and n1).2 (nds_and n2).2 (by omega) j (by simpa using h1) (by simpa using h2)
end
end
end Rc

set_option maxHeartbeats 4000000
namespace Rc
open PySem PySem.Spec PyProof.Rows L2
theorem tuple_mul1 (l:Addr) (items:Array Value) (n:Nat) (dd:Option Addr) (sl:Array (Option Value)) (u:Tok) :
    Meets (Builtin.«tuple.__mul__» ⟨[.ref l,.int 1 u],[]⟩) (fun _ R s=>s.heap.get? l=some { cls:=.type "tuple",dict:=dd,data:=.seq items n,slots:=sl }∧R (.ok (.ret (Value.ref l))) s) :=
  .of_wp fun prog w A R s h=>by
    obtain ⟨hp,g,d,tk,os⟩:=s
    obtain ⟨hl,h⟩:=h
    have f1:=AutoSeq1.idx_int
    have c0:(decide ((1:Int) < -(2 ^ 63)) || decide ((1:Int) ≥ 2 ^ 63))=false:=by decide
    have c1:(items.isEmpty || (1:Int) == 1)=true:=by simp
    wp_walk using wpAny_loadPart' hl
    repeat (first
      | (refine wpAny_ite_false (decide_eq_false (by rw [c0];exact Bool.false_ne_true)) ?_;wp_walk using wpAny_loadPart' hl)
      | (refine wpAny_ite_true (decide_eq_true (by rw [c1])) ?_;wp_walk using wpAny_loadPart' hl))
    exact ⟨_,rfl,h⟩
theorem tuple_mul0 (l:Addr) (items:Array Value) (n:Nat) (dd:Option Addr) (sl:Array (Option Value)) (x:Int) (u:Tok) (c0:(decide (x < -(2 ^ 63)) || decide (x ≥ 2 ^ 63))=false) (c1:(items.isEmpty || x == 1)=false) (c2:(decide (x≤0) || items.isEmpty)=true) :
    Meets (Builtin.«tuple.__mul__» ⟨[.ref l,.int x u],[]⟩) (fun _ R s=>s.heap.get? l=some { cls:=.type "tuple",dict:=dd,data:=.seq items n,slots:=sl } ∧
      R (.ok (.ret (Value.ref s.heap.objs.size))) { s with heap:=s.heap.push { cls:=Value.type "tuple",data:=Data.seq #[] },toks:=s.toks }) :=
  .of_wp fun prog w A R s h=>by
    obtain ⟨hp,g,d,tk,os⟩:=s
    obtain ⟨hl,h⟩:=h
    have f1:=AutoSeq1.idx_int
    wp_walk using wpAny_loadPart' hl
    repeat (first
      | (refine wpAny_ite_false (decide_eq_false (by rw [c0];exact Bool.false_ne_true)) ?_;wp_walk using wpAny_loadPart' hl)
      | (refine wpAny_ite_false (decide_eq_false (by rw [c1];exact Bool.false_ne_true)) ?_;wp_walk using wpAny_loadPart' hl)
      | (refine wpAny_ite_true (decide_eq_true (by rw [c2])) ?_;wp_walk using wpAny_loadPart' hl))
    exact ⟨_,rfl,h⟩
def rRep01 (K:PySem.W.Frag):R2:=fun x y H Q=>∃ l k xs,x=.ref l∧y=.int k∧SqT K H l xs∧xs≠[]∧-1000≤k∧k≤1∧(k=1→Q (.ref l) H)∧(k≤0→∀ p,H p=none→Q (.ref p) (upd H p (.tup [])))
section
variable {X:Cx}
theorem op_rep01:OpR X (binaryOp .Mult) (rRep01 X.K):=by
  intro pins s σ H x y v u Q I rx ry h
  obtain ⟨l,k,xs,rfl,rfl,hT,hne,h1,h2,q1,q0⟩:=h
  cases rx
  obtain ⟨t,rfl⟩:=ry
  obtain ⟨its,r,⟨⟨cls,dd,data,sl⟩,ho,hc,n,hd⟩,hs⟩:=I.tuple hT
  simp only at hc hd
  subst hc hd
  have hle:its.length=xs.length:=r.length.symm
  have hn:its≠[]:=fun e=>hne (by
    rw [e] at hle
    exact List.eq_nil_of_length_eq_zero hle.symm)
  have hi:its.toArray.isEmpty=false:=by
    cases its with
    | nil=>exact absurd rfl hn
    | cons a b=>rfl
  by_cases c:k=1
  · subst c
    exact wpAny_binaryOp_repeat_ref (T:="tuple") (U:="int") (by decide) ⟨_,ho,rfl⟩ (fun s'=>typeIs_int s' 1 t) noFill_tuple_mul F.fills_int_mul F.slot_int_rmul repeat_tuple F.slot_int_index.lookup
      (call_meets F.slot_int_rmul (typeIs_int s 1 t) F.entry_int_rmul (F.args_int_rmul_2 _ _) (int_rmul_tuple 1 t l its.toArray n dd sl)
        ⟨ho,rfl,⟨_,ho,rfl⟩,call_meets F.slot_tuple_mul ⟨_,ho,rfl⟩ F.entry_tuple_mul (F.args_tuple_mul_2 _ _) (tuple_mul1 l its.toArray n dd sl t) ⟨ho,.ref l,H,I,rfl,q1 rfl⟩⟩)
  · have k0:k≤0:=by omega
    have c0:(decide (k < -(2 ^ 63)) || decide (k ≥ 2 ^ 63))=false:=by
      rw [decide_eq_false (by omega),decide_eq_false (by omega)] <;> rfl
    have c1:(its.toArray.isEmpty || k == 1)=false:=by
      rw [hi,Bool.false_or]
      exact beq_eq_false_iff_ne.mpr (by omega)
    have c2:(decide (k≤0) || its.toArray.isEmpty)=true:=by
      rw [decide_eq_true k0];rfl
    refine wpAny_binaryOp_repeat_ref (T:="tuple") (U:="int") (by decide) ⟨_,ho,rfl⟩ (fun s'=>typeIs_int s' k t) noFill_tuple_mul F.fills_int_mul F.slot_int_rmul repeat_tuple F.slot_int_index.lookup
      (call_meets F.slot_int_rmul (typeIs_int s k t) F.entry_int_rmul (F.args_int_rmul_2 _ _) (int_rmul_tuple k t l its.toArray n dd sl)
        ⟨ho,rfl,⟨_,ho,rfl⟩,call_meets F.slot_tuple_mul ⟨_,ho,rfl⟩ F.entry_tuple_mul (F.args_tuple_mul_2 _ _) (tuple_mul0 l its.toArray n dd sl k t c0 c1 c2) ⟨ho,?_⟩⟩)
    refine ⟨.ref s.heap.objs.size,_,I.laid (t':=s.toks) (o:=.tup []) (fun b ob q=>Heap.get?_push_of_some _ q) (Nat.le_refl _) ?_,rfl,q0 k0 _ (I.hok.fresh (Nat.le_refl _))⟩
    exact ⟨by rw [sizeLine_eq];decide,[],.nil,IsTup.new _ _⟩
end
end Rc

set_option maxHeartbeats 1000000
namespace Rc
open PySem PySem.Spec L2
open PyProof.Rows hiding St

abbrev _root_.L2.Cx.ki (X:Cx):Ki:=⟨X.K,X.prog,X.w⟩
inductive Sq where
  | l (xs:List MV)
  | t (xs:List MV)
  | s (x:Str)
def memL (m:Mem) (n:Nat):Option (List MV):=match m[n]? with
  | some (some (.lst xs))=>some xs
  | _=>none
theorem memL_eq {m:Mem} {n:Nat} {xs:List MV} (h:memL m n=some xs):m[n]? = some (some (.lst xs)):=by
  unfold memL at h
  split at h
  · cases h;assumption
  · cases h
def contO (m:Mem):OV→Option Sq
  | .v (.lst xs)=>some (.l xs)
  | .v (.kl xs)=>some (.l xs)
  | .v (.tup xs)=>some (.t xs)
  | .v (.str x)=>some (.s x)
  | .v (.ref n)=>(memL m n).map Sq.l
  | .b (.lst xs)=>some (.l xs)
  | _=>none
def SqR (K:Ki) (g:G) (H:Hp) (c:Sq) (v:V):Prop:=match c with
  | .l xs=>∃ a ys,v=.ref a∧SqL K H a ys∧RVs K g xs ys
  | .t xs=>∃ a ys,v=.ref a∧SqT K H a ys∧RVs K g xs ys
  | .s z=>v=.str z
section
variable {K:Ki} {g g':G} {H H':Hp} {m:Mem}
theorem contO_ok {x:OV} {v:V} {c:Sq} (rs:Rs K g m H) (r:RO K g H x v) (e:contO m x=some c):SqR K g H c v:=by
  cases x with
  | b o =>
    cases o with
    | lst xs =>
      cases e
      obtain ⟨a,rfl,⟨ys,q,rv⟩,_⟩:=r
      exact ⟨a,ys,rfl,.of q,rv⟩
    | _=>cases e
  | v x =>
    cases x with
    | lst xs =>
      cases e
      obtain ⟨a,ys,rfl,q,rv⟩:=r
      exact ⟨a,ys,rfl,.of (rs.sub _ _ q),rv⟩
    | kl xs =>
      cases e
      obtain ⟨a,ys,rfl,q,rv⟩:=r
      exact ⟨a,ys,rfl,SqL.monoF rs.sub q,rv⟩
    | tup xs =>
      cases e
      obtain ⟨a,ys,rfl,q,rv⟩:=r
      exact ⟨a,ys,rfl,SqT.monoF rs.sub q,rv⟩
    | str x=>cases e;exact r
    | ref n =>
      obtain ⟨a,rfl,q⟩:=r
      obtain ⟨xs,h,rfl⟩:=Option.map_eq_some_iff.mp (show (memL m n).map Sq.l=some c from e)
      obtain ⟨b,q1,_,ys,q2,rv⟩:=rs.gr n _ (memL_eq h)
      rw [q] at q1;cases q1
      exact ⟨a,ys,rfl,.of q2,rv⟩
    | _=>cases e
def lstO (m:Mem):OV→Option (List MV)
  | .v (.lst xs)=>some xs
  | .v (.ref n)=>memL m n
  | .b (.lst xs)=>some xs
  | _=>none
theorem lstO_ok {x:OV} {v:V} {xs:List MV} (rs:Rs K g m H) (r:RO K g H x v) (e:lstO m x=some xs):∃ a ys,v=.ref a∧H a=some (.lst ys)∧RVs K g xs ys:=by
  cases x with
  | b o =>
    cases o with
    | lst xs =>
      cases e
      obtain ⟨a,rfl,⟨ys,q,rv⟩,_⟩:=r
      exact ⟨a,ys,rfl,q,rv⟩
    | _=>cases e
  | v x =>
    cases x with
    | lst xs =>
      cases e
      obtain ⟨a,ys,rfl,q,rv⟩:=r
      exact ⟨a,ys,rfl,rs.sub _ _ q,rv⟩
    | ref n =>
      obtain ⟨a,rfl,q⟩:=r
      obtain ⟨b,q1,_,ys,q2,rv⟩:=rs.gr n _ (memL_eq (show memL m n=some xs from e))
      rw [q] at q1;cases q1
      exact ⟨a,ys,rfl,q2,rv⟩
    | _=>cases e
end

def t2 (K:Ki) (f:OV→OV→Mem→R OV):R2:=fun x y H Q=>∃ E g m a b,Rs K g m H∧RO K g H a x∧RO K g H b y∧PostO K E g H (f a b m) Q
def t1 (K:Ki) (f:OV→Mem→R OV):V→Hp→VK→Prop:=fun x H Q=>∃ E g m a,Rs K g m H∧RO K g H a x∧PostO K E g H (f a m) Q
section
variable {K:Ki} {g:G} {H:Hp} {m:Mem} {Q:VK}
theorem post_val {x:MV} {v:V} (rs:Rs K g m H) (p:PostO K E g H (.ok (.v x) m) Q) (r:RV K g x v):Q v H:=p g v H rs (Stp.refl _ _) r
theorem post_new {xs:List MV} {ys:List V} (rs:Rs K g m H) (p:PostO K E g H (.ok (.v (.lst xs)) m) Q) (r:RVs K g xs ys):∀ a,H a=none→Q (.ref a) (upd H a (.lst ys)):=fun a ha=>by
  obtain ⟨r1,st⟩:=rs.freeze (o:=.lst ys) ha
  exact p _ _ _ r1 st ⟨a,ys,rfl,upd_same,r.st st⟩
theorem post_tup {xs:List MV} {ys:List V} (rs:Rs K g m H) (p:PostO K E g H (.ok (.v (.tup xs)) m) Q) (r:RVs K g xs ys):∀ a,H a=none→Q (.ref a) (upd H a (.tup ys)):=fun a ha=>by
  obtain ⟨r1,st⟩:=rs.freeze (o:=.tup ys) ha
  exact p _ _ _ r1 st ⟨a,ys,rfl,.of upd_same,r.st st⟩
end

def addO:OV→OV→Mem→R OV:=fun a b m=>match a,b with
  | .v (.int i),.v (.int j)=>.ok (.v (.int (i + j))) m
  | .v (.str x),.v (.str y)=>if x.length + y.length≤sizeLine then .ok (.v (.str (x++y))) m else .stuck
  | .v (.tup xs),.v (.tup ys)=>if xs.length + ys.length≤sizeLine then .ok (.v (.tup (xs++ys))) m else .stuck
  | a,b=>match lstO m a,lstO m b with
    | some xs,some ys=>if xs.length + ys.length≤sizeLine then .ok (.v (.lst (xs++ys))) m else .stuck
    | _,_=>.stuck
def subO:OV→OV→Mem→R OV:=fun a b m=>match a,b with
  | .v (.int i),.v (.int j)=>.ok (.v (.int (i - j))) m
  | _,_=>.stuck
def mulO:OV→OV→Mem→R OV:=fun a b m=>match a,b with
  | .v (.int i),.v (.int j)=>if (-(2 ^ 64) < i∧i < 2 ^ 64)∨(-(2 ^ 64) < j∧j < 2 ^ 64) then .ok (.v (.int (i * j))) m else .stuck
  | .v (.tup xs),.v (.int k)=>if -1000≤k∧k≤1000∧xs.length≤1000∧xs≠[] then .ok (.v (.tup (List.replicate k.toNat xs).flatten)) m else .stuck
  | a,.v (.int k)=>match lstO m a with
    | some xs=>if -(2 ^ 63)≤k∧k < 2 ^ 63∧xs.length * k.toNat≤sizeLine then .ok (.v (.lst (List.replicate k.toNat xs).flatten)) m else .stuck
    | none=>.stuck
  | _,_=>.stuck
def fdivO:OV→OV→Mem→R OV:=fun a b m=>match a,b with
  | .v (.int i),.v (.int j)=>if 0 < j∧j.natAbs.log2 < 9000 then .ok (.v (.int (i / j))) m else .stuck
  | _,_=>.stuck
def modO:OV→OV→Mem→R OV:=fun a b m=>match a,b with
  | .v (.int i),.v (.int j)=>if 0 < j then .ok (.v (.int (i % j))) m else .stuck
  | _,_=>.stuck
def powO:OV→OV→Mem→R OV:=fun a b m=>match a,b with
  | .v (.int i),.v (.int j)=>if 0≤j∧j≤1000000∧i.natAbs < 2 ^ 64 then .ok (.v (.int (i ^ j.toNat))) m else .stuck
  | _,_=>.stuck
def negO:OV→Mem→R OV:=fun a m=>match a with
  | .v (.int i)=>.ok (.v (.int (-i))) m
  | _=>.stuck

section
variable {K:Ki} {g:G} {H:Hp} {m:Mem} {Q:VK}
theorem post_old {xs:List MV} {a:Addr} {ys:List V} (rs:Rs K g m H) (p:PostO K E g H (.ok (.v (.tup xs)) m) Q) (r:RVs K g xs ys) (q:SqT K g.F a ys):Q (.ref a) H:=p g (.ref a) H rs (Stp.refl _ _) ⟨a,ys,rfl,q,r⟩
theorem RVs.nil_iff:∀ {xs:List MV} {vs:List V},RVs K g xs vs→(vs=[]↔xs=[])
  | [],_,h=>by cases (show _=[] from h);simp
  | x :: xs,_,⟨v,r,e,_,_⟩=>by subst e;simp
theorem RVs.rep {xs:List MV} {vs:List V} (h:RVs K g xs vs):∀ n:Nat,RVs K g (List.replicate n xs).flatten (List.replicate n vs).flatten
  | 0=>rfl
  | n + 1=>by
    rw [List.replicate_succ,List.replicate_succ,List.flatten_cons,List.flatten_cons]
    exact h.append (RVs.rep h n)
end
section
variable {X:Cx}
theorem op_addO:OpR X (binaryOp .Add) (t2 X.ki addO):=by
  refine (((op_add.or op_add_str).or op_cat).or op_catA).weaken ?_
  rintro x y H Q ⟨E,g,m,a,b,rs,ra,rb,p⟩
  unfold addO at p
  split at p
  · cases ra;cases rb
    exact .inl (.inl (.inl ⟨_,_,rfl,rfl,post_val rs p rfl⟩))
  · cases ra;cases rb
    split at p
    · exact .inl (.inl (.inr ⟨_,_,rfl,rfl,by assumption,post_val rs p rfl⟩))
    · exact p.elim
  · rename_i xs ys
    obtain ⟨a1,v1,rfl,q1,r1⟩:=ra
    obtain ⟨a2,v2,rfl,q2,r2⟩:=rb
    split at p
    · refine .inr ⟨a1,a2,v1,v2,rfl,rfl,SqT.monoF rs.sub q1,SqT.monoF rs.sub q2,by rw [← r1.length,← r2.length];assumption,fun z=>?_,fun _ z=>?_,fun _ _=>post_tup rs p (r1.append r2)⟩
      · cases r1.nil_iff.mp z
        exact post_old rs p r2 q2
      · cases r2.nil_iff.mp z
        rw [List.append_nil] at p
        exact post_old rs p r1 q1
    · exact p.elim
  · split at p
    · rename_i xs ys e1 e2
      split at p
      · obtain ⟨a1,v1,rfl,q1,r1⟩:=lstO_ok rs ra e1
        obtain ⟨a2,v2,rfl,q2,r2⟩:=lstO_ok rs rb e2
        exact .inl (.inr ⟨a1,a2,v1,v2,rfl,rfl,q1,q2,by rw [← r1.length,← r2.length];assumption,post_new rs p (r1.append r2)⟩)
      · exact p.elim
    · exact p.elim
theorem op_subO:OpR X (binaryOp .Sub) (t2 X.ki subO):=by
  refine op_sub.weaken ?_
  rintro x y H Q ⟨E,g,m,a,b,rs,ra,rb,p⟩
  unfold subO at p
  split at p
  · cases ra;cases rb;exact ⟨_,_,rfl,rfl,post_val rs p rfl⟩
  · exact p.elim
theorem op_mulO:OpR X (binaryOp .Mult) (t2 X.ki mulO):=by
  refine (((opI (C:=fun i j=>(-(2 ^ 64) < i∧i < 2 ^ 64)∨(-(2 ^ 64) < j∧j < 2 ^ 64)) (g:=fun i j=>i * j) fun i j t u s Q E hc q=>?_).or op_rep).or (op_repT.or op_rep01)).weaken ?_
  · exact mul_int q (by
      rcases hc with ⟨h1,h2⟩ | ⟨h1,h2⟩
      · exact .of_left (intBits_le_64 h1 h2)
      · exact .of_right (intBits_le_64 h1 h2))
  rintro x y H Q ⟨E,g,m,a,b,rs,ra,rb,p⟩
  unfold mulO at p
  split at p
  · cases ra;cases rb
    split at p
    · exact .inl (.inl ⟨_,_,rfl,rfl,by assumption,post_val rs p rfl⟩)
    · exact p.elim
  · rename_i xs k
    obtain ⟨a1,v1,rfl,q1,r1⟩:=ra
    cases rb
    split at p
    · rename_i hk
      obtain ⟨h1,h2,h3,h4⟩:=hk
      have hn:v1≠[]:=fun z=>h4 (r1.nil_iff.mp z)
      by_cases c:2≤k
      · exact .inr (.inl ⟨a1,k,v1,rfl,rfl,SqT.monoF rs.sub q1,hn,c,h2,by rw [← r1.length];exact h3,post_tup rs p (r1.rep _)⟩)
      · refine .inr (.inr ⟨a1,k,v1,rfl,rfl,SqT.monoF rs.sub q1,hn,h1,by omega,fun z=>?_,fun z=>?_⟩)
        · subst z
          rw [show (List.replicate (1:Int).toNat xs).flatten=xs from by simp] at p
          exact post_old rs p r1 q1
        · rw [show k.toNat=0 from by omega] at p
          exact post_tup rs p rfl
    · exact p.elim
  · rename_i k _ _
    split at p
    · rename_i xs e1
      split at p
      · rename_i hk
        obtain ⟨h1,h2,h3⟩:=hk
        obtain ⟨a1,v1,rfl,q1,r1⟩:=lstO_ok rs ra e1
        cases rb
        exact .inl (.inr ⟨a1,k,v1,rfl,rfl,q1,h1,h2,by rw [← r1.length];exact h3,post_new rs p (r1.rep _)⟩)
      · exact p.elim
    · exact p.elim
  · exact p.elim
theorem op_fdivO:OpR X (binaryOp .FloorDiv) (t2 X.ki fdivO):=by
  refine op_fdivW.weaken ?_
  rintro x y H Q ⟨E,g,m,a,b,rs,ra,rb,p⟩
  unfold fdivO at p
  split at p
  · cases ra;cases rb
    split at p
    · exact ⟨_,_,rfl,rfl,by assumption,post_val rs p rfl⟩
    · exact p.elim
  · exact p.elim
theorem op_modO:OpR X (binaryOp .Mod) (t2 X.ki modO):=by
  refine op_mod.weaken ?_
  rintro x y H Q ⟨E,g,m,a,b,rs,ra,rb,p⟩
  unfold modO at p
  split at p
  · cases ra;cases rb
    split at p
    · exact ⟨_,_,rfl,rfl,by assumption,post_val rs p rfl⟩
    · exact p.elim
  · exact p.elim
theorem op_powO:OpR X (binaryOp .Pow) (t2 X.ki powO):=by
  refine op_pow.weaken ?_
  rintro x y H Q ⟨E,g,m,a,b,rs,ra,rb,p⟩
  unfold powO at p
  split at p
  · cases ra;cases rb
    split at p
    · exact ⟨_,_,rfl,rfl,by assumption,post_val rs p rfl⟩
    · exact p.elim
  · exact p.elim
theorem _root_.L2.UnR.weaken {f:Value→Sem Value} {r r':V→Hp→VK→Prop} (h:UnR X f r) (w:∀ x H Q,r' x H Q→r x H Q):UnR X f r':=fun pins s σ H x v Q I rx q=>h pins s σ H x v Q I rx (w x H Q q)
theorem un_negO:UnR X (unaryOp .USub) (t1 X.ki negO):=by
  refine un_neg.weaken ?_
  rintro x H Q ⟨E,g,m,a,rs,ra,p⟩
  unfold negO at p
  split at p
  · cases ra;exact ⟨_,rfl,post_val rs p rfl⟩
  · exact p.elim
end


end Rc

set_option maxHeartbeats 400000
namespace Rc
open PySem PySem.Spec L2 SeqAt
open PyProof.Rows hiding St
section
variable {s:Shared} {A:Around}
theorem RcAt_rd {d e:PyData} {u v:Value} {as bs:List Addr} (p:Reads s.heap u d as) (q:Reads s.heap v e bs) (n1:nd d=true) (n2:nd e=true) (hu:A.units + min d.depth e.depth < cLine):RcAt A s u v (PyData.eqv d e):=by
  have hu0:A.units < cLine:=by omega
  cases p with
  | none =>
    cases q with
    | none=>exact RcAt.none_none 
    | bool b=>exact RcAt.none_bool b
    | int b u=>exact RcAt.none_int b u
    | str b u=>exact RcAt.none_str b u
    | list q1 q2 q3 q4=>exact RcAt.none_list  ⟨_,q1,q2,_,q3⟩ hu0
    | tuple q1 q2 q3 q4=>exact RcAt.none_tuple  ⟨_,q1,q2,_,q3⟩ hu0
    | dict=>cases n2
  | bool a =>
    cases q with
    | none=>exact RcAt.bool_none a
    | bool b=>exact RcAt.bool_bool a b
    | int b u=>exact RcAt.bool_int a b u
    | str b u=>exact RcAt.bool_str a b u
    | list q1 q2 q3 q4=>exact RcAt.bool_list a ⟨_,q1,q2,_,q3⟩ hu0
    | tuple q1 q2 q3 q4=>exact RcAt.bool_tuple a ⟨_,q1,q2,_,q3⟩ hu0
    | dict=>cases n2
  | int a t =>
    cases q with
    | none=>exact RcAt.int_none a t
    | bool b=>exact RcAt.int_bool a t b
    | int b u=>exact RcAt.int_int a t b u
    | str b u=>exact RcAt.int_str a t b u
    | list q1 q2 q3 q4=>exact RcAt.int_list a t ⟨_,q1,q2,_,q3⟩ hu0
    | tuple q1 q2 q3 q4=>exact RcAt.int_tuple a t ⟨_,q1,q2,_,q3⟩ hu0
    | dict=>cases n2
  | str a t =>
    cases q with
    | none=>exact RcAt.str_none a t
    | bool b=>exact RcAt.str_bool a t b
    | int b u=>exact RcAt.str_int a t b u
    | str b u=>exact RcAt.str_str a t b u
    | list q1 q2 q3 q4=>exact RcAt.str_list a t ⟨_,q1,q2,_,q3⟩ hu0
    | tuple q1 q2 q3 q4=>exact RcAt.str_tuple a t ⟨_,q1,q2,_,q3⟩ hu0
    | dict=>cases n2
  | @list l _ vs _ xs _ p1 p2 p3 p4 =>
    have e1:=rdl p4
    simp only [Array.length_toList] at e1
    have L:s.heap.IsList l vs:=⟨_,p1,p2,_,p3⟩
    cases q with
    | none=>exact RcAt.list_none  L hu0
    | bool b=>exact RcAt.list_bool b L hu0
    | int b u=>exact RcAt.list_int b u L hu0
    | str b u=>exact RcAt.list_str b u L hu0
    | tuple q1 q2 q3 q4=>exact RcAt.list_tuple L ⟨_,q1,q2,_,q3⟩ hu0
    | dict=>cases n2
    | @list l' _ ws _ ys _ q1 q2 q3 q4 =>
      have e2:=rdl q4
      simp only [Array.length_toList] at e2
      have L':s.heap.IsList l' ws:=⟨_,q1,q2,_,q3⟩
      simp only [nd] at n1 n2
      have he:∀ j (j1:j < vs.size) (j2:j < ws.size),EqAt A.in1 s vs[j] ws[j] (pairEq xs ys j):=fun j j1 j2=>by
        have z:=eqRds xs ys (A:=A.in1) p4 q4 n1 n2 (by simp only [PyData.depth] at hu;show A.units + 1 + _ < _;omega) j (by simpa using j1) (by simpa using j2)
        simpa using z
      unfold PyData.eqv
      by_cases hz:vs.size=ws.size
      · rw [← eqvAll_same_length (show xs.length=ys.length by omega),← e1]
        exact RcAt.lists L L' hz hu0 he
      · rw [eqvAll_other_length (show xs.length≠ys.length by omega)]
        exact RcAt.lists_lengths L L' (by simpa using hz) hu0
  | @tuple l _ vs _ xs _ p1 p2 p3 p4 =>
    have e1:=rdl p4
    simp only [Array.length_toList] at e1
    have L:s.heap.IsTuple l vs:=⟨_,p1,p2,_,p3⟩
    cases q with
    | none=>exact RcAt.tuple_none  L hu0
    | bool b=>exact RcAt.tuple_bool b L hu0
    | int b u=>exact RcAt.tuple_int b u L hu0
    | str b u=>exact RcAt.tuple_str b u L hu0
    | list q1 q2 q3 q4=>exact RcAt.tuple_list L ⟨_,q1,q2,_,q3⟩ hu0
    | dict=>cases n2
    | @tuple l' _ ws _ ys _ q1 q2 q3 q4 =>
      have e2:=rdl q4
      simp only [Array.length_toList] at e2
      have L':s.heap.IsTuple l' ws:=⟨_,q1,q2,_,q3⟩
      simp only [nd] at n1 n2
      have he:∀ j (j1:j < vs.size) (j2:j < ws.size),EqAt A.in1 s vs[j] ws[j] (pairEq xs ys j):=fun j j1 j2=>by
        have z:=eqRds xs ys (A:=A.in1) p4 q4 n1 n2 (by simp only [PyData.depth] at hu;show A.units + 1 + _ < _;omega) j (by simpa using j1) (by simpa using j2)
        simpa using z
      unfold PyData.eqv
      rw [← eqvAll_eq,← e1,← e2]
      exact RcAt.tuples L L' hu0 he
  | dict=>cases n1
theorem RcNeAt_rd {d e:PyData} {u v:Value} {as bs:List Addr} (p:Reads s.heap u d as) (q:Reads s.heap v e bs) (n1:nd d=true) (n2:nd e=true) (hu:A.units + min d.depth e.depth < cLine):RcNeAt A s u v (!PyData.eqv d e):=by
  have hu0:A.units < cLine:=by omega
  cases p with
  | none =>
    cases q with
    | none=>exact RcNeAt.none_none 
    | bool b=>exact RcNeAt.none_bool b
    | int b u=>exact RcNeAt.none_int b u
    | str b u=>exact RcNeAt.none_str b u
    | list q1 q2 q3 q4=>exact RcNeAt.none_list  ⟨_,q1,q2,_,q3⟩ hu0
    | tuple q1 q2 q3 q4=>exact RcNeAt.none_tuple  ⟨_,q1,q2,_,q3⟩ hu0
    | dict=>cases n2
  | bool a =>
    cases q with
    | none=>exact RcNeAt.bool_none a
    | bool b=>exact RcNeAt.bool_bool a b
    | int b u=>exact RcNeAt.bool_int a b u
    | str b u=>exact RcNeAt.bool_str a b u
    | list q1 q2 q3 q4=>exact RcNeAt.bool_list a ⟨_,q1,q2,_,q3⟩ hu0
    | tuple q1 q2 q3 q4=>exact RcNeAt.bool_tuple a ⟨_,q1,q2,_,q3⟩ hu0
    | dict=>cases n2
  | int a t =>
    cases q with
    | none=>exact RcNeAt.int_none a t
    | bool b=>exact RcNeAt.int_bool a t b
    | int b u=>exact RcNeAt.int_int a t b u
    | str b u=>exact RcNeAt.int_str a t b u
    | list q1 q2 q3 q4=>exact RcNeAt.int_list a t ⟨_,q1,q2,_,q3⟩ hu0
    | tuple q1 q2 q3 q4=>exact RcNeAt.int_tuple a t ⟨_,q1,q2,_,q3⟩ hu0
    | dict=>cases n2
  | str a t =>
    cases q with
    | none=>exact RcNeAt.str_none a t
    | bool b=>exact RcNeAt.str_bool a t b
    | int b u=>exact RcNeAt.str_int a t b u
    | str b u=>exact RcNeAt.str_str a t b u
    | list q1 q2 q3 q4=>exact RcNeAt.str_list a t ⟨_,q1,q2,_,q3⟩ hu0
    | tuple q1 q2 q3 q4=>exact RcNeAt.str_tuple a t ⟨_,q1,q2,_,q3⟩ hu0
    | dict=>cases n2
  | @list l _ vs _ xs _ p1 p2 p3 p4 =>
    have e1:=rdl p4
    simp only [Array.length_toList] at e1
    have L:s.heap.IsList l vs:=⟨_,p1,p2,_,p3⟩
    cases q with
    | none=>exact RcNeAt.list_none  L hu0
    | bool b=>exact RcNeAt.list_bool b L hu0
    | int b u=>exact RcNeAt.list_int b u L hu0
    | str b u=>exact RcNeAt.list_str b u L hu0
    | tuple q1 q2 q3 q4=>exact RcNeAt.list_tuple L ⟨_,q1,q2,_,q3⟩ hu0
    | dict=>cases n2
    | @list l' _ ws _ ys _ q1 q2 q3 q4 =>
      have e2:=rdl q4
      simp only [Array.length_toList] at e2
      have L':s.heap.IsList l' ws:=⟨_,q1,q2,_,q3⟩
      simp only [nd] at n1 n2
      have he:∀ j (j1:j < vs.size) (j2:j < ws.size),EqAt A.in1 s vs[j] ws[j] (pairEq xs ys j):=fun j j1 j2=>by
        have z:=eqRds xs ys (A:=A.in1) p4 q4 n1 n2 (by simp only [PyData.depth] at hu;show A.units + 1 + _ < _;omega) j (by simpa using j1) (by simpa using j2)
        simpa using z
      unfold PyData.eqv
      by_cases hz:vs.size=ws.size
      · rw [← eqvAll_same_length (show xs.length=ys.length by omega),← e1]
        exact RcNeAt.lists L L' hz hu0 he
      · rw [eqvAll_other_length (show xs.length≠ys.length by omega)]
        exact RcNeAt.lists_lengths L L' (by simpa using hz) hu0
  | @tuple l _ vs _ xs _ p1 p2 p3 p4 =>
    have e1:=rdl p4
    simp only [Array.length_toList] at e1
    have L:s.heap.IsTuple l vs:=⟨_,p1,p2,_,p3⟩
    cases q with
    | none=>exact RcNeAt.tuple_none  L hu0
    | bool b=>exact RcNeAt.tuple_bool b L hu0
    | int b u=>exact RcNeAt.tuple_int b u L hu0
    | str b u=>exact RcNeAt.tuple_str b u L hu0
    | list q1 q2 q3 q4=>exact RcNeAt.tuple_list L ⟨_,q1,q2,_,q3⟩ hu0
    | dict=>cases n2
    | @tuple l' _ ws _ ys _ q1 q2 q3 q4 =>
      have e2:=rdl q4
      simp only [Array.length_toList] at e2
      have L':s.heap.IsTuple l' ws:=⟨_,q1,q2,_,q3⟩
      simp only [nd] at n1 n2
      have he:∀ j (j1:j < vs.size) (j2:j < ws.size),EqAt A.in1 s vs[j] ws[j] (pairEq xs ys j):=fun j j1 j2=>by
        have z:=eqRds xs ys (A:=A.in1) p4 q4 n1 n2 (by simp only [PyData.depth] at hu;show A.units + 1 + _ < _;omega) j (by simpa using j1) (by simpa using j2)
        simpa using z
      unfold PyData.eqv
      rw [← eqvAll_eq,← e1,← e2]
      exact RcNeAt.tuples L L' hu0 he
  | dict=>cases n1
end
end Rc

set_option maxHeartbeats 1000000
namespace Rc
open PySem PySem.Spec L2
open PyProof.Rows hiding St

mutual
def toD:MV→PyData
  | .non=>.none
  | .bl b=>.bool b
  | .int i=>.int i
  | .str x=>.str x
  | .tup xs=>.tuple (toDs xs)
  | .lst xs=>.list (toDs xs)
  | .kl xs=>.list (toDs xs)
  | .ref _=>.dict []
  | .ins _ _ _=>.dict []
  | .exn _ _ _=>.dict []
  | .dic _ _=>.dict []
  | .kd _ _=>.dict []
  | .cls _=>.dict []
  | .dit _ _=>.dict []
def toDs:List MV→List PyData
  | []=>[]
  | x :: xs=>toD x :: toDs xs
end
def eqB (x y:MV):Bool:=PyData.eqv (toD x) (toD y)
def eqBs (xs ys:List MV):Bool:=PyData.eqvAll (toDs xs) (toDs ys)
def Dat (n:Nat) (x:MV):Prop:=nd (toD x)=true∧(toD x).depth≤n
def Dats (n:Nat) (xs:List MV):Prop:=nds (toDs xs)=true∧PyData.depthAll (toDs xs)≤n
theorem eqBs_nil:eqBs [] []=true:=by simp only [eqBs,toDs,PyData.eqvAll]
theorem eqBs_cn (y:MV) (ys:List MV):eqBs (y :: ys) []=false:=by simp only [eqBs,toDs,PyData.eqvAll]
theorem Dats_nil (n:Nat):Dats n []:=⟨by simp only [toDs,nds],by simp only [toDs,PyData.depthAll];omega⟩
theorem Dats_cons (n:Nat) (x:MV) (xs:List MV):Dats n (x :: xs)↔Dat n x∧Dats n xs:=by
  simp only [Dats,Dat,toDs,nds,PyData.depthAll,Bool.and_eq_true]
  constructor
  · rintro ⟨⟨a,b⟩,c⟩;exact ⟨⟨a,by omega⟩,b,by omega⟩
  · rintro ⟨⟨a,b⟩,c,d⟩;exact ⟨⟨a,c⟩,by omega⟩
theorem Dats_all (n:Nat):∀ xs:List MV,Dats n xs↔∀ x∈xs,Dat n x
  | []=>by simp [Dats_nil]
  | x :: xs=>by rw [Dats_cons,Dats_all n xs];simp
theorem Dat_lst (n:Nat) (xs:List MV):Dat (n + 1) (.lst xs)↔∀ x∈xs,Dat n x:=by
  rw [← Dats_all];simp only [Dat,Dats,toD,nd,PyData.depth]
  constructor <;> (rintro ⟨a,b⟩;exact ⟨a,by omega⟩)
theorem Dat_non (n:Nat):Dat n .non:=⟨by simp only [toD,nd],by simp only [toD,PyData.depth];omega⟩
theorem Dat_bl (n:Nat) (b:Bool):Dat n (.bl b):=⟨by simp only [toD,nd],by simp only [toD,PyData.depth];omega⟩
theorem Dat_int (n:Nat) (b:Int):Dat n (.int b):=⟨by simp only [toD,nd],by simp only [toD,PyData.depth];omega⟩
theorem Dat_str (n:Nat) (b:Str):Dat n (.str b):=⟨by simp only [toD,nd],by simp only [toD,PyData.depth];omega⟩
theorem Dat.mono {n k:Nat} {x:MV} (h:Dat n x) (q:n≤k):Dat k x:=⟨h.1,by have:=h.2;omega⟩

def blO (m:Mem):Option Bool→R OV
  | some b=>.ok (.v (.bl b)) m
  | none=>.stuck
def derf (m:Mem):OV→MV
  | .v (.ref n)=>(match memL m n with
    | some xs=>.lst xs
    | none=>.ref n)
  | .v x=>x
  | .b (.lst xs)=>.lst xs
  | .b (.ins c ks xs)=>.ins c ks xs
  | .b (.dic ks xs)=>.dic ks xs
  | .b (.dit ks xs)=>.dit ks xs
open Classical in
def eqD (f:Bool→Bool) (m:Mem) (x y:MV):R OV:=if Dat 64 x∧Dat 64 y then .ok (.v (.bl (f (eqB x y)))) m else .stuck
def eqO:OV→OV→Mem→R OV:=fun a b m=>eqD id m (derf m a) (derf m b)
def neO:OV→OV→Mem→R OV:=fun a b m=>eqD (!·) m (derf m a) (derf m b)
def cmpI (p:Int→Int→Bool):OV→OV→Mem→R OV:=fun a b m=>match a,b with
  | .v (.int i),.v (.int j)=>.ok (.v (.bl (p i j))) m
  | _,_=>.stuck
def ltO:=cmpI fun i j=>decide (i < j)
def leO:=cmpI fun i j=>decide (i≤j)
def gtO:=cmpI fun i j=>decide (j < i)
def geO:=cmpI fun i j=>decide (j≤i)
def isN:OV→Bool
  | .v .non=>true
  | _=>false
def isO:OV→OV→Mem→R OV:=fun a b m=>match b with
  | .v .non=>.ok (.v (.bl (isN a))) m
  | .v (.bl c)=>(match a with
    | .v (.bl d)=>.ok (.v (.bl (d == c))) m
    | _=>.stuck)
  | _=>.stuck
def isntO:OV→OV→Mem→R OV:=fun a b m=>match b with
  | .v .non=>.ok (.v (.bl (!isN a))) m
  | .v (.bl c)=>(match a with
    | .v (.bl d)=>.ok (.v (.bl (!(d == c)))) m
    | _=>.stuck)
  | _=>.stuck
def flatM:MV→Bool
  | .non=>true | .bl _=>true | .int _=>true | .str _=>true | _=>false
def InC (x:MV) (xs:List MV):Prop:=Dat 64 x∧∀ y∈xs,Dat 64 y
def keyM:MV→Option Key
  | .int i=>some (.inl i)
  | .str x=>some (.inr x)
  | _=>none
def dLook:List MV→List MV→MV→Option MV
  | k :: ks,x :: xs,y=>if eqB k y then some x else dLook ks xs y
  | _,_,_=>none
def dicO (m:Mem):OV→Option (List MV × List MV)
  | .v (.dic ks xs)=>some (ks,xs)
  | .b (.dic ks xs)=>some (ks,xs)
  | .v (.ref n)=>(match m[n]? with
    | some (some (.dic ks xs))=>some (ks,xs)
    | _=>none)
  | _=>none
open Classical in
def inB (m:Mem) (a b:OV):Option Bool:=match dicO m b with
  | some (ks,xs)=>if (keyM (derf m a)).isSome then some ((dLook ks xs (derf m a)).isSome) else none
  | none=>(match contO m b with
    | some (.s z)=>(match a with
      | .v (.str y)=>(match y.cps.toList with
        | [c]=>some (decide (c∈z.cps.toList))
        | _=>none)
      | _=>none)
    | some (.l xs)=>if InC (derf m a) xs then some (xs.any fun y=>eqB y (derf m a)) else none
    | some (.t xs)=>if InC (derf m a) xs then some (xs.any fun y=>eqB y (derf m a)) else none
    | none=>none)
def inO:OV→OV→Mem→R OV:=fun a b m=>blO m (inB m a b)
def notinO:OV→OV→Mem→R OV:=fun a b m=>blO m ((inB m a b).map (!·))

section
variable {K:Ki} {g:G} {H:Hp} {m:Mem}
theorem isN_ok {x:OV} {v:V} (r:RO K g H x v):isN x=decide (v=.non):=by
  cases x with
  | b o=>obtain ⟨a,rfl,_⟩:=r;simp [isN]
  | v x =>
    cases x with
    | non=>cases r;simp [isN]
    | bl b=>cases r;simp [isN]
    | int b=>cases r;simp [isN]
    | str b=>cases r;simp [isN]
    | tup b=>obtain ⟨a,ys,rfl,_⟩:=r;simp [isN]
    | lst b=>obtain ⟨a,ys,rfl,_⟩:=r;simp [isN]
    | kl b=>obtain ⟨a,ys,rfl,_⟩:=r;simp [isN]
    | ref b=>obtain ⟨a,rfl,_⟩:=r;simp [isN]
    | ins c ks xs=>obtain ⟨a,_,_,rfl,_⟩:=r;simp [isN]
    | exn c ks xs=>obtain ⟨a,_,_,_,rfl,_⟩:=r;simp [isN]
    | dic ks xs=>obtain ⟨a,_,_,rfl,_⟩:=r;simp [isN]
    | kd ks is=>obtain ⟨a,rfl,_⟩:=r;simp [isN]
    | cls c=>cases r;simp [isN]
    | dit ks xs=>obtain ⟨a,_,_,rfl,_⟩:=r;simp [isN]
theorem RVs.mem:∀ {xs:List MV} {vs:List V} {v:V},RVs K g xs vs→v∈vs→∃ x∈xs,RV K g x v
  | [],_,_,h,e=>by cases (show _=[] from h);cases e
  | x :: xs,_,v,⟨w,r,e,h,t⟩,q=>by
    subst e
    rcases List.mem_cons.mp q with rfl | q
    · exact ⟨x,List.mem_cons_self,h⟩
    · obtain ⟨y,h1,h2⟩:=RVs.mem t q
      exact ⟨y,List.mem_cons_of_mem _ h1,h2⟩
theorem nds_cons {x:MV} {xs:List MV} (h:nds (toDs (x :: xs))=true):nd (toD x)=true∧nds (toDs xs)=true:=by
  simp only [toDs] at h;exact nds_and h
section
variable {X:Cx} {pins:List (Addr × Obj)} {σ:St} {s:Shared}
mutual
theorem rv_reads (I:Inv X pins σ H s) (rs:Rs X.ki g m H):∀ (x:MV) {v:V} {u:Value},RV X.ki g x v→RelV v u→nd (toD x)=true→∃ as,Reads s.heap u (toD x) as
  | .non,_,_,r,q,_=>by cases r;cases q;simp only [toD];exact ⟨_,Reads.none⟩
  | .bl b,_,_,r,q,_=>by cases r;cases q;simp only [toD];exact ⟨_,Reads.bool b⟩
  | .int b,_,_,r,q,_=>by cases r;obtain ⟨t,rfl⟩:=q;simp only [toD];exact ⟨_,Reads.int b t⟩
  | .str b,_,_,r,q,_=>by cases r;obtain ⟨t,rfl⟩:=q;simp only [toD];exact ⟨_,Reads.str b t⟩
  | .tup xs,_,_,r,q,n=>by
    obtain ⟨a,ys,rfl,h,t⟩:=r
    cases q
    obtain ⟨its,rv,⟨o,ho,hc,k,hd⟩,_⟩:=I.tuple (SqT.monoF rs.sub h)
    simp only [toD] at n ⊢
    obtain ⟨as,hr⟩:=rvs_reads I rs xs t rv (by simp only [nd] at n;exact n)
    exact ⟨_,Reads.tuple ho hc hd hr⟩
  | .lst xs,_,_,r,q,n=>by
    obtain ⟨a,ys,rfl,h,t⟩:=r
    cases q
    obtain ⟨its,rv,⟨o,k,ho,hc,_,hd⟩,_⟩:=I.list (.of (rs.sub _ _ h))
    simp only [toD] at n ⊢
    obtain ⟨as,hr⟩:=rvs_reads I rs xs t rv (by simp only [nd] at n;exact n)
    exact ⟨_,Reads.list ho hc hd hr⟩
  | .kl xs,_,_,r,q,n=>by
    obtain ⟨a,ys,rfl,h,t⟩:=r
    cases q
    obtain ⟨its,rv,⟨o,k,ho,hc,_,hd⟩,_⟩:=I.list (SqL.monoF rs.sub h)
    simp only [toD] at n ⊢
    obtain ⟨as,hr⟩:=rvs_reads I rs xs t rv (by simp only [nd] at n;exact n)
    exact ⟨_,Reads.list ho hc hd hr⟩
  | .ref _,_,_,_,_,n=>by simp only [toD,nd,reduceCtorEq,Bool.false_eq_true] at n
  | .ins _ _ _,_,_,_,_,n=>by simp only [toD,nd,reduceCtorEq,Bool.false_eq_true] at n
  | .exn _ _ _,_,_,_,_,n=>by simp only [toD,nd,reduceCtorEq,Bool.false_eq_true] at n
  | .dic _ _,_,_,_,_,n=>by simp only [toD,nd,reduceCtorEq,Bool.false_eq_true] at n
  | .cls _,_,_,_,_,n=>by simp only [toD,nd,reduceCtorEq,Bool.false_eq_true] at n
  | .kd _ _,_,_,_,_,n=>by simp only [toD,nd,reduceCtorEq,Bool.false_eq_true] at n
  | .dit _ _,_,_,_,_,n=>by simp only [toD,nd,reduceCtorEq,Bool.false_eq_true] at n
theorem rvs_reads (I:Inv X pins σ H s) (rs:Rs X.ki g m H):∀ (xs:List MV) {vs:List V} {us:List Value},RVs X.ki g xs vs→Vals vs us→nds (toDs xs)=true→∃ as,ReadsAll s.heap us (toDs xs) as
  | [],_,_,r,q,_=>by cases (show _=[] from r);cases q;simp only [toDs];exact ⟨_,ReadsAll.nil⟩
  | x :: xs,_,_,⟨v,r,e,h,t⟩,q,n=>by
    subst e
    cases q with
    | cons q1 q2 =>
      obtain ⟨n1,n2⟩:=nds_cons n
      obtain ⟨as,h1⟩:=rv_reads I rs x h q1 n1
      obtain ⟨bs,h2⟩:=rvs_reads I rs xs t q2 n2
      simp only [toDs]
      exact ⟨_,ReadsAll.cons h1 h2⟩
end
theorem cont_reads (I:Inv X pins σ H s) (rs:Rs X.ki g m H) {x:OV} {v:V} {u:Value} (r:RO X.ki g H x v) (q:RelV v u) (n:nd (toD (derf m x))=true):∃ as,Reads s.heap u (toD (derf m x)) as:=by
  have lst:∀ {a:Addr} {xs:List MV} {ys:List V},v=.ref a→H a=some (.lst ys)→RVs X.ki g xs ys→nd (toD (.lst xs))=true→∃ as,Reads s.heap u (toD (.lst xs)) as:=fun {a xs ys} e1 e2 e3 n=>by
    subst e1
    cases q
    obtain ⟨its,rv,⟨o,k,ho,hc,_,hd⟩,_⟩:=I.list (.of e2)
    simp only [toD] at n ⊢
    obtain ⟨as,hr⟩:=rvs_reads I rs xs e3 rv (by simp only [nd] at n;exact n)
    exact ⟨_,Reads.list ho hc hd hr⟩
  cases x with
  | b o =>
    cases o with
    | lst xs =>
      obtain ⟨a,e,⟨ys,h1,h2⟩,_⟩:=r
      exact lst e h1 h2 n
    | ins _ _ _=>simp only [derf,toD,nd,reduceCtorEq,Bool.false_eq_true] at n
    | dic _ _=>simp only [derf,toD,nd,reduceCtorEq,Bool.false_eq_true] at n
    | dit _ _=>simp only [derf,toD,nd,reduceCtorEq,Bool.false_eq_true] at n
  | v x =>
    cases x with
    | ref k =>
      unfold derf at n ⊢
      dsimp only at n ⊢
      cases e:memL m k with
      | none=>rw [e] at n;simp only [toD,nd,reduceCtorEq,Bool.false_eq_true] at n
      | some xs =>
        rw [e] at n
        obtain ⟨a,rfl,h⟩:=r
        obtain ⟨b,e1,_,ys,e2,e3⟩:=rs.gr k _ (memL_eq e)
        rw [h] at e1;cases e1
        exact lst rfl e2 e3 n
    | _=>exact rv_reads I rs _ r q n
end
end

section
variable {X:Cx}
theorem post_blO {K:Ki} {g:G} {H:Hp} {m:Mem} {Q:VK} {o:Option Bool} (rs:Rs K g m H) (p:PostO K E g H (blO m o) Q):∃ b,o=some b∧Q (.bl b) H:=by
  cases o with
  | none=>exact p.elim
  | some b=>exact ⟨b,rfl,post_val rs p rfl⟩
theorem derf_rv {K:Ki} {g:G} {H:Hp} {m:Mem} {x:OV} {v:V} (r:RO K g H x v) (f:flatM (derf m x)=true):RV K g (derf m x) v:=by
  cases x with
  | b o=>cases o <;> (simp only [derf,flatM,Bool.false_eq_true] at f)
  | v x =>
    cases x with
    | ref k =>
      unfold derf at f
      dsimp only at f
      split at f <;> (simp only [flatM,Bool.false_eq_true] at f)
    | _=>exact r
theorem two_reads {pins:List (Addr × Obj)} {σ:St} {H:Hp} {s:Shared} {g:G} {m:Mem} {a b:OV} {x y:V} {v u:Value} (I:Inv X pins σ H s) (rx:RelV x v) (ry:RelV y u) (rs:Rs X.ki g m H) (ra:RO X.ki g H a x) (rb:RO X.ki g H b y)
    (da:Dat 64 (derf m a)) (db:Dat 64 (derf m b)):(∃ as,Reads s.heap v (toD (derf m a)) as)∧∃ bs,Reads s.heap u (toD (derf m b)) bs:=⟨cont_reads I rs ra rx da.1,cont_reads I rs rb ry db.1⟩
theorem op_eqO (hu:X.A.units + 66 < cLine):OpR X (compareOp .Eq) (t2 X.ki eqO):=by
  intro pins s σ H x y v u Q I rx ry h
  obtain ⟨E,g,m,a,b,rs,ra,rb,p⟩:=h
  unfold eqO eqD at p
  split at p
  · rename_i d
    obtain ⟨⟨as,r1⟩,bs,r2⟩:=two_reads I rx ry rs ra rb d.1 d.2
    exact RcAt_rd (A:=X.A) r1 r2 d.1.1 d.2.1 (by have:=d.1.2;omega) _ _ _ _ ⟨.bl _,H,I,rfl,post_val rs p rfl⟩
  · exact p.elim
theorem op_neO (hu:X.A.units + 66 < cLine):OpR X (compareOp .NotEq) (t2 X.ki neO):=by
  intro pins s σ H x y v u Q I rx ry h
  obtain ⟨E,g,m,a,b,rs,ra,rb,p⟩:=h
  unfold neO eqD at p
  split at p
  · rename_i d
    obtain ⟨⟨as,r1⟩,bs,r2⟩:=two_reads I rx ry rs ra rb d.1 d.2
    exact RcNeAt_rd (A:=X.A) r1 r2 d.1.1 d.2.1 (by have:=d.1.2;omega) _ _ _ _ ⟨.bl _,H,I,rfl,post_val rs p rfl⟩
  · exact p.elim
theorem op_cmpI {op:CmpOp} {p:Int→Int→Bool} (h:OpR X (compareOp op) (rI0 fun i j=>.bl (p i j))):OpR X (compareOp op) (t2 X.ki (cmpI p)):=by
  refine h.weaken ?_
  rintro x y H Q ⟨E,g,m,a,b,rs,ra,rb,q⟩
  unfold cmpI at q
  split at q
  · cases ra;cases rb;exact ⟨_,_,rfl,rfl,post_val rs q rfl⟩
  · exact q.elim
theorem op_isO:OpR X (compareOp .Is) (t2 X.ki isO):=by
  refine (op_isN.or op_isBl).weaken ?_
  rintro x y H Q ⟨E,g,m,a,b,rs,ra,rb,p⟩
  unfold isO at p
  split at p
  · cases rb
    exact .inl ⟨rfl,isN_ok ra ▸ post_val rs p rfl⟩
  · split at p
    · cases ra;cases rb
      exact .inr ⟨_,_,rfl,rfl,post_val rs p (congrArg V.bl (by rw [Bool.eq_iff_iff];simp))⟩
    · exact p.elim
  · exact p.elim
theorem op_isntO:OpR X (compareOp .IsNot) (t2 X.ki isntO):=by
  refine (op_notN.or op_notBl).weaken ?_
  rintro x y H Q ⟨E,g,m,a,b,rs,ra,rb,p⟩
  unfold isntO at p
  split at p
  · cases rb
    exact .inl ⟨rfl,isN_ok ra ▸ post_val rs p rfl⟩
  · split at p
    · cases ra;cases rb
      exact .inr ⟨_,_,rfl,rfl,post_val rs p (congrArg V.bl (by rw [Bool.eq_iff_iff];simp))⟩
    · exact p.elim
  · exact p.elim
open Classical in
/-- whether an item is equal to the data -/
def eqAs (h:Heap) (d:PyData) (y:Value):Bool:=if z:∃ e,nd e=true∧∃ as,Reads h y e as then PyData.eqv z.choose d else false
theorem eqAs_eq {h:Heap} {d e:PyData} {y:Value} {as:List Addr} (n:nd e=true) (r:Reads h y e as):eqAs h d y=PyData.eqv e d:=by
  have z:∃ e,nd e=true∧∃ as,Reads h y e as:=⟨e,n,as,r⟩
  unfold eqAs
  rw [dif_pos z]
  obtain ⟨n',bs,r'⟩:=z.choose_spec
  rw [rd_uniq _ _ n' r' r]
theorem eqAs_any {s:Shared} {d:PyData}:∀ {xs:List MV} {us:List Value} {as:List Addr},nds (toDs xs)=true→ReadsAll s.heap us (toDs xs) as→us.any (eqAs s.heap d)=xs.any fun y=>PyData.eqv (toD y) d
  | [],_,_,_,r=>by simp only [toDs] at r;cases r;rfl
  | x :: xs,_,_,n,r=>by
    simp only [toDs] at n r
    cases r with
    | cons r1 r2 =>
      rw [List.any_cons,List.any_cons,eqAs_eq (nds_and n).1 r1,eqAs_any (nds_and n).2 r2]
theorem eqAs_at {s:Shared} {A:Around} {x:Value} {d:PyData} {bs:List Addr} (rx:Reads s.heap x d bs) (n:nd d=true) (hu:A.units + d.depth < cLine):∀ {ds:List PyData} {us:List Value} {as:List Addr},nds ds=true→ReadsAll s.heap us ds as→∀ y∈us,SeqAt.EqAt A s y x (eqAs s.heap d y)
  | [],_,_,_,r,y,hy=>by cases r;cases hy
  | e :: ds,_,_,m,r,y,hy=>by
    cases r with
    | cons r1 r2 =>
      rcases List.mem_cons.mp hy with rfl | hy
      · rw [eqAs_eq (nds_and m).1 r1]
        exact eqRd _ _ r1 rx (nds_and m).1 n (by omega)
      · exact eqAs_at rx n hu (nds_and m).2 r2 y hy
def anyB (x:MV) (xs:List MV):Bool:=xs.any fun y=>eqB y x
theorem Dats_nds {n:Nat} {xs:List MV} (h:∀ y∈xs,Dat n y):nds (toDs xs)=true:=((Dats_all n xs).mpr h).1
def rInM (X:Cx) (f:Bool→Bool):R2:=fun x y H Q=>∃ (g:G) (m:Mem) (a:OV) (xs:List MV),Rs X.ki g m H∧RO X.ki g H a x∧(SqR X.ki g H (.l xs) y∨SqR X.ki g H (.t xs) y)∧InC (derf m a) xs∧Q (.bl (f (anyB (derf m a) xs))) H
theorem op_inM (hu:X.A.units + 66 < cLine):OpR X (compareOp .In) (rInM X id)∧OpR X (compareOp .NotIn) (rInM X (!·)):=by
  constructor
  all_goals
    intro pins s σ H x y v u Q I rx ry h
    obtain ⟨g,m,a,xs,rs,ra,rb,d,q⟩:=h
    obtain ⟨as,r1⟩:=cont_reads I rs ra rx d.1.1
    have n:=Dats_nds d.2
    have hd:=d.1.2
    rcases rb with ⟨b,ys,rfl,hq,rv⟩ | ⟨b,ys,rfl,hq,rv⟩
    · cases ry
      obtain ⟨its,r,pl,hz⟩:=I.list hq
      obtain ⟨bs,r2⟩:=rvs_reads I rs xs rv r n
      first
        | refine SeqAt.in_listAt (eqAs s.heap (toD (derf m a))) pl.isList (fun w hw=>eqAs_at (A:=X.A.in1) r1 d.1.1 (by show X.A.units + 1 + _ < _;omega) n r2 w (by simpa using hw)) ?_
        | refine SeqAt.notIn_listAt (eqAs s.heap (toD (derf m a))) pl.isList (fun w hw=>eqAs_at (A:=X.A.in1) r1 d.1.1 (by show X.A.units + 1 + _ < _;omega) n r2 w (by simpa using hw)) ?_
      refine ⟨.bl _,H,I,rfl,?_⟩
      rw [show its.toArray.any (eqAs s.heap (toD (derf m a)))=its.any (eqAs s.heap (toD (derf m a))) by simp,eqAs_any n r2]
      exact q
    · cases ry
      obtain ⟨its,r,pl,hz⟩:=I.tuple hq
      obtain ⟨bs,r2⟩:=rvs_reads I rs xs rv r n
      obtain ⟨o,p1,p2,k,p3⟩:=pl
      first
        | refine SeqAt.in_tupleAt (eqAs s.heap (toD (derf m a))) ⟨o,p1,p2,k,p3⟩ (fun w hw=>eqAs_at (A:=X.A.in1) r1 d.1.1 (by show X.A.units + 1 + _ < _;omega) n r2 w (by simpa using hw)) ?_
        | refine SeqAt.notIn_tupleAt (eqAs s.heap (toD (derf m a))) ⟨o,p1,p2,k,p3⟩ (fun w hw=>eqAs_at (A:=X.A.in1) r1 d.1.1 (by show X.A.units + 1 + _ < _;omega) n r2 w (by simpa using hw)) ?_
      refine ⟨.bl _,H,I,rfl,?_⟩
      rw [show its.toArray.any (eqAs s.heap (toD (derf m a)))=its.any (eqAs s.heap (toD (derf m a))) by simp,eqAs_any n r2]
      exact q
theorem keyM_ok {K:Ki} {g:G} {x:MV} {v:V} {k:Key} (r:RV K g x v) (e:keyM x=some k):v=kV k∧toD x=(match k with
    | .inl i=>.int i
    | .inr z=>.str z):=by
  cases x <;> first | (cases e;done) | (cases e;cases r;exact ⟨rfl,by simp only [toD]⟩)
theorem key_flat {x:MV} {k:Key} (e:keyM x=some k):flatM x=true:=by
  cases x <;> first | (cases e;done) | rfl
theorem keyEq {K:Ki} {g:G} {x y:MV} {k l:Key} (rx:RV K g x (kV k)) (ry:keyM y=some l):eqB x y=decide (k=l):=by
  unfold eqB
  cases k with
  | inl i =>
    have ex:x=.int i:=by
      cases x <;> first | (cases rx;rfl) | (cases rx;done) | (obtain ⟨_,rx,_⟩:=rx;cases rx;done) | (obtain ⟨_,_,rx,_⟩:=rx;cases rx;done) | (obtain ⟨_,_,_,rx,_⟩:=rx;cases rx;done) | (obtain ⟨_,_,_,_,rx,_⟩:=rx;cases rx;done)
    subst ex
    cases y <;> first | (cases ry;done) | skip
    · cases ry;simp only [toD,PyData.eqv];rw [key_ll]
    · cases ry;simp only [toD,PyData.eqv];rw [key_lr]
  | inr z =>
    have ex:x=.str z:=by
      cases x <;> first | (cases rx;rfl) | (cases rx;done) | (obtain ⟨_,rx,_⟩:=rx;cases rx;done) | (obtain ⟨_,_,rx,_⟩:=rx;cases rx;done) | (obtain ⟨_,_,_,rx,_⟩:=rx;cases rx;done) | (obtain ⟨_,_,_,_,rx,_⟩:=rx;cases rx;done)
    subst ex
    cases y <;> first | (cases ry;done) | skip
    · cases ry;simp only [toD,PyData.eqv];rw [key_rl]
    · cases ry;simp only [toD,PyData.eqv];rw [key_rr];rw [Bool.eq_iff_iff];simp
theorem dLook_ok {K:Ki} {g:G} {y:MV} {l:Key} (hy:keyM y=some l):∀ {ks xs:List MV} {kv:List (Key × V)},RVs K g ks (kv.map fun p=>kV p.1)→RVs K g xs (kv.map fun p=>p.2) →
    (∀ x,dLook ks xs y=some x→∃ v,valV kv l=some v∧RV K g x v)∧(dLook ks xs y=none→valV kv l=none)
  | [],xs,kv,r1,r2=>by
    cases kv with
    | nil=>exact ⟨fun x e=>(by cases e),fun _=>rfl⟩
    | cons p kv=>cases (show _=[] from r1)
  | k :: ks,[],kv,r1,r2=>by
    cases kv with
    | nil=>exact ⟨fun x e=>(by cases e),fun _=>rfl⟩
    | cons p kv=>cases (show _=[] from r2)
  | k :: ks,x :: xs,kv,r1,r2=>by
    cases kv with
    | nil=>obtain ⟨_,_,e,_⟩:=r1;cases e
    | cons p kv =>
      obtain ⟨v,r,e,h1,t1⟩:=r1
      cases e
      obtain ⟨w,r,e,h2,t2⟩:=r2
      cases e
      have ih:=dLook_ok hy t1 t2
      have e:=keyEq h1 hy
      have hv:valV (p :: kv) l=if p.1=l then some p.2 else valV kv l:=by
        unfold valV
        rw [List.find?_cons]
        by_cases z:p.1=l
        · simp [z]
        · simp [z]
      show (∀ x_1,(if eqB k y then some x else dLook ks xs y)=some x_1→_)∧((if eqB k y then some x else dLook ks xs y)=none→_)
      rw [hv,e]
      by_cases z:p.1=l
      · simp only [z,decide_true,if_true]
        exact ⟨fun x' e'=>by cases e';exact ⟨_,rfl,h2⟩,fun e'=>by cases e'⟩
      · simp only [z,decide_false,if_false,Bool.false_eq_true]
        exact ih
theorem dicO_ok {K:Ki} {g:G} {H:Hp} {m:Mem} {x:OV} {v:V} {ks xs:List MV} (rs:Rs K g m H) (r:RO K g H x v) (e:dicO m x=some (ks,xs)):∃ a u kvs,v=.ref a∧H a=some u∧DicR K a u kvs∧RVs K g ks (kvs.map (·.1))∧RVs K g xs (kvs.map (·.2)):=by
  cases x with
  | b o =>
    cases o with
    | dic ks xs =>
      cases e
      obtain ⟨a,rfl,⟨u,kvs,h1,h2,h3,h4⟩,_⟩:=r
      exact ⟨a,u,kvs,rfl,h1,h2,h3,h4⟩
    | _=>cases e
  | v x =>
    cases x with
    | dic ks xs =>
      cases e
      obtain ⟨a,u,kvs,rfl,h1,h2,h3,h4⟩:=r
      exact ⟨a,u,kvs,rfl,rs.sub _ _ h1,h2,h3,h4⟩
    | ref n =>
      obtain ⟨a,rfl,q⟩:=r
      have e:(match m[n]? with
        | some (some (.dic ks xs))=>some (ks,xs)
        | _=>none)=some (ks,xs):=e
      split at e
      · rename_i e1
        cases e
        obtain ⟨b,q1,_,u,kvs,h1,h2,h3,h4⟩:=rs.gr n _ e1
        rw [q] at q1;cases q1
        exact ⟨a,u,kvs,rfl,h1,h2,h3,h4⟩
      · cases e
    | _=>cases e
theorem dget_ok {K:Ki} {g:G} {H:Hp} {m:Mem} {a b:OV} {x y:V} {ks xs:List MV} {k:Key} (rs:Rs K g m H) (ra:RO K g H a x) (rb:RO K g H b y) (e:dicO m b=some (ks,xs)) (hk:keyM (derf m a)=some k) :
    ∃ d kv,y=.ref d∧H d=some (.dK kv)∧x=kV k∧(∀ z,dLook ks xs (derf m a)=some z→∃ v,valV kv k=some v∧RV K g z v)∧(dLook ks xs (derf m a)=none→valV kv k=none):=by
  obtain ⟨d,u,kvs,rfl,h1,⟨kv,rfl,rfl⟩,h3,h4⟩:=dicO_ok rs rb e
  rw [List.map_map] at h3 h4
  have l:=dLook_ok hk (kv:=kv) h3 h4
  exact ⟨d,kv,rfl,h1,(keyM_ok (derf_rv ra (key_flat hk)) hk).1,l.1,l.2⟩
def rInK (f:Bool→Bool):R2:=fun x y H Q=>∃ d o,y=.ref d∧DGet H d x o∧Q (.bl (f o.isSome)) H
theorem op_inK (hu:X.A.units + 66 < cLine):OpR X (compareOp .In) (rInK id):=by
  intro pins s σ H x y v u Q I rx ry h
  obtain ⟨d,o,rfl,g,q⟩:=h
  cases ry
  exact d_in (by omega) I g rx fun s' I'=>⟨.bl _,H,I',rfl,q⟩
theorem op_notInK (hu:X.A.units + 66 < cLine):OpR X (compareOp .NotIn) (rInK (!·)):=by
  intro pins s σ H x y v u Q I rx ry h
  obtain ⟨d,o,rfl,g,q⟩:=h
  cases ry
  exact d_notIn (by omega) I g rx fun s' I'=>⟨.bl _,H,I',rfl,q⟩
theorem inB_ok {g:G} {H:Hp} {m:Mem} {a b:OV} {x y:V} {c:Bool} {Q:VK} {f:Bool→Bool} (rs:Rs X.ki g m H) (ra:RO X.ki g H a x) (rb:RO X.ki g H b y) (e:inB m a b=some c) (q:Q (.bl (f c)) H) :
    (∃ (d:Nat) (z:Str),x=.str ⟨#[d]⟩∧y=.str z∧Q (.bl (f (decide (d∈z.cps.toList)))) H)∨rInM X f x y H Q∨rInK f x y H Q:=by
  unfold inB at e
  split at e
  · rename_i ks xs hd
    split at e
    · rename_i hk
      cases e
      obtain ⟨k,hk⟩:=Option.isSome_iff_exists.mp hk
      obtain ⟨d,kv,rfl,h1,rfl,h2,h3⟩:=dget_ok rs ra rb hd hk
      refine .inr (.inr ⟨d,_,rfl,DGet.k h1,?_⟩)
      cases z:dLook ks xs (derf m a) with
      | none=>rw [h3 z];rw [z] at q;exact q
      | some w=>obtain ⟨v,e1,_⟩:=h2 w z;rw [e1];rw [z] at q;exact q
    · cases e
  · split at e
    · rename_i z hc
      split at e
      · rename_i y
        split at e
        · rename_i d hd
          cases e
          have hb:_=V.str z:=contO_ok rs rb hc
          refine .inl ⟨d,z,?_,hb,q⟩
          have hx:_=V.str y:=ra
          obtain ⟨w⟩:=y
          have:w=#[d]:=by
            apply Array.ext'
            exact hd
          rw [hx,this]
        · cases e
      · cases e
    · rename_i xs hc
      split at e
      · rename_i hf
        cases e
        exact .inr (.inl ⟨g,m,a,xs,rs,ra,.inl (contO_ok rs rb hc),hf,q⟩)
      · cases e
    · rename_i xs hc
      split at e
      · rename_i hf
        cases e
        exact .inr (.inl ⟨g,m,a,xs,rs,ra,.inr (contO_ok rs rb hc),hf,q⟩)
      · cases e
    · cases e
theorem op_inO (hu:X.A.units + 66 < cLine):OpR X (compareOp .In) (t2 X.ki inO):=by
  refine (op_in_sign.or ((op_inM hu).1.or (op_inK hu))).weaken ?_
  rintro x y H Q ⟨E,g,m,a,b,rs,ra,rb,p⟩
  obtain ⟨c,e,q⟩:=post_blO rs p
  exact inB_ok (f:=id) rs ra rb e q
theorem op_notinO (hu:X.A.units + 66 < cLine):OpR X (compareOp .NotIn) (t2 X.ki notinO):=by
  refine (op_notIn_sign.or ((op_inM hu).2.or (op_notInK hu))).weaken ?_
  rintro x y H Q ⟨E,g,m,a,b,rs,ra,rb,p⟩
  obtain ⟨c,e,q⟩:=post_blO rs p
  obtain ⟨c,e0,rfl⟩:=Option.map_eq_some_iff.mp e
  exact inB_ok (f:=(!·)) rs ra rb e0 q
end
end Rc

namespace Rc
open PySem PySem.Spec L2
open PyProof.Rows hiding St

def asBl (x:OV) (m:Mem):R Bool:=match x with
  | .v (.bl b)=>.ok b m
  | _=>.stuck
def valO:OV→Option MV
  | .v x=>some x
  | .b _=>none
def vals:List OV→Option (List MV)
  | []=>some []
  | .v x :: r=>(vals r).map (x :: ·)
  | .b _ :: _=>none
def frz (o:MO):MV:=match o with
  | .lst xs=>.lst xs
  | .ins c ks xs=>.ins c ks xs
  | .dic ks xs=>.dic ks xs
  | .dit ks xs=>.dit ks xs
section
variable {α β γ δ:Type} {K:Ki} {g g':G} {H H':Hp} {R1:G→Hp→α→β→Prop} {Rel2:G→Hp→γ→δ→Prop} {σ:St} {Q:VK}
theorem Post.imp {r:R α} {Q Q':β→Hp→Prop} (h:Post K E R1 g H r Q) (w:∀ v H,Q v H→Q' v H):Post K E R1 g H r Q':=by
  cases r with
  | ok x m'=>exact fun g2 v H2 a b c=>w _ _ (h g2 v H2 a b c)
  | _=>exact h
theorem PostF.imp {r:R MO} {Q Q':VK} (h:PostF K W g H r Q) (w:∀ v H,Q v H→Q' v H):PostF K W g H r Q':=by
  cases r with
  | ok x m'=>exact fun g2 p H2 a b c d e f=>w _ _ (h g2 p H2 a b c d e f)
  | _=>exact h

theorem tE_bin {fa fb:Sl→Mem→R OV} {f2:OV→OV→Mem→R OV} (h:tE K W (fun s m=>(fa s m).bind fun x m=>(fb s m).bind fun y m=>f2 x y m) σ H Q):tOp (t2 K f2) (tE K W fa) (tE K W fb) σ H Q:=by
  obtain ⟨g,s,m,rs,rl,p⟩:=h
  exact ⟨g,s,m,rs,rl,(Post.bind p).imp fun v H1 ⟨x,g1,m1,rs1,st1,r1,p1⟩=>⟨g1,s,m1,rs1,rl.st st1,(Post.bind p1).imp fun w H2 ⟨y,g2,m2,rs2,st2,r2,p2⟩=>⟨_,g2,m2,x,y,rs2,RO.st r1 st2,r2,p2⟩⟩⟩
theorem tE_un {fa:Sl→Mem→R OV} {f1:OV→Mem→R OV} (h:tE K W (fun s m=>(fa s m).bind fun x m=>f1 x m) σ H Q):tUn (t1 K f1) (tE K W fa) σ H Q:=by
  obtain ⟨g,s,m,rs,rl,p⟩:=h
  exact ⟨g,s,m,rs,rl,(Post.bind p).imp fun v H1 ⟨x,g1,m1,rs1,st1,r1,p1⟩=>⟨_,g1,m1,x,rs1,r1,p1⟩⟩
theorem tE_tN1 {fa:Sl→Mem→R OV} {f1:OV→Mem→R OV} (h:tE K W (fun s m=>(fa s m).bind fun x m=>f1 x m) σ H Q) :
    tCB (fun vs H Q=>∃ v,vs=[v]∧t1 K f1 v H Q) (tCons (tE K W fa) tNil) σ H Q:=by
  obtain ⟨g,s,m,rs,rl,p⟩:=h
  exact ⟨g,s,m,rs,rl,(Post.bind p).imp fun v H1 ⟨x,g1,m1,rs1,st1,r1,p1⟩=>⟨v,rfl,_,g1,m1,x,rs1,r1,p1⟩⟩
theorem asBl_ok {z:OV} {m:Mem} {v:V} {k:Bool→Mem→R γ} {Q:δ→Hp→Prop} (r:RO K g H z v) (p:Post K E Rel2 g H ((asBl z m).bind k) Q):∃ b,v=.bl b∧Post K E Rel2 g H (k b m) Q:=by
  unfold asBl at p
  split at p
  · rename_i b
    exact ⟨b,r,p⟩
  · exact p.elim
theorem tE_chain {fa fb fc:Sl→Mem→R OV} {f f':OV→OV→Mem→R OV} (h:tE K W (fun s m=>(fa s m).bind fun x m=>(fb s m).bind fun y m=>(f x y m).bind fun z m=>(asBl z m).bind fun k m =>
      if k=true then (fc s m).bind fun w m=>f' y w m else .ok (.v (.bl false)) m) σ H Q):tChain (t2 K f) (t2 K f') (tE K W fa) (tE K W fb) (tE K W fc) σ H Q:=by
  obtain ⟨g,s,m,rs,rl,p⟩:=h
  refine ⟨g,s,m,rs,rl,(Post.bind p).imp fun v H1 ⟨x,g1,m1,rs1,st1,r1,p1⟩=>⟨g1,s,m1,rs1,rl.st st1,(Post.bind p1).imp fun w H2 ⟨y,g2,m2,rs2,st2,r2,p2⟩=>⟨_,g2,m2,x,y,rs2,RO.st r1 st2,r2,(Post.bind p2).imp fun z H3 ⟨zo,g3,m3,rs3,st3,r3,p3⟩=>?_⟩⟩⟩
  obtain ⟨k,e,p4⟩:=asBl_ok r3 p3
  refine ⟨k,e,?_⟩
  cases k with
  | false=>exact iteF (post_val rs3 p4 rfl)
  | true=>exact iteT ⟨g3,s,m3,rs3,(rl.st st1).st st2 |>.st st3,(Post.bind p4).imp fun w' H4 ⟨u,g4,m4,rs4,st4,r4,p5⟩=>⟨_,g4,m4,y,u,rs4,RO.st (RO.st r2 st3) st4,r4,p5⟩⟩
theorem tE_ite {ft:Sl→Mem→R Bool} {fa fb:Sl→Mem→R OV} (h:tE K W (fun s m=>(ft s m).bind fun k m=>if k=true then fa s m else fb s m) σ H Q):tIf (tT K W ft) (tE K W fa) (tE K W fb) σ H Q:=by
  obtain ⟨g,s,m,rs,rl,p⟩:=h
  refine ⟨g,s,m,rs,rl,(Post.bind p).imp fun k H1 ⟨x,g1,m1,rs1,st1,r1,p1⟩=>?_⟩
  subst r1
  cases x with
  | true=>exact iteT ⟨g1,s,m1,rs1,rl.st st1,p1⟩
  | false=>exact iteF ⟨g1,s,m1,rs1,rl.st st1,p1⟩

theorem newF {m:Mem} {xs:List MV} {ys:List V} (rs:Rs K g m H) (r:RVs K g xs ys) (p:PostF K W g H (.ok (.lst xs) m) Q) (a:Addr) (ha:H a=none):Q (.ref a) (upd H a (.lst ys)):=by
  have ne:∀ b u,H b=some u→b≠a:=fun b u e z=>by subst z;rw [ha] at e;cases e
  have st:Stp g H g (upd H a (.lst ys)):=⟨fun _ _ e=>e,fun _ _ e=>e,fun b u e _ _=>by rw [upd_ne (ne b u e)];exact e,fun b e=>by
    by_cases z:b=a
    · subst z;exact absurd ha e
    · rw [upd_ne z];exact e,fun b e=>.inl e,fun n b e=>.inl e⟩
  have hF:g.F a=none:=by
    cases q:g.F a with
    | none=>rfl
    | some u=>have:=rs.sub _ _ q;rw [ha] at this;cases this
  have hr:∀ n,g.r n≠some a:=fun n e=>(rs.rb n a e).2 ha
  refine p g a _ ⟨fun b u e=>?_,fun n u e=>?_,fun n b e=>?_,rs.rj,fun q hq=>(rs.tb q hq).go (upd_ne ((rs.tb q hq).ne0 ha).symm) (fun _ _ e=>e) (rs.tb q hq).F (rs.tb q hq).r⟩ st ha hF hr ⟨ys,upd_same,r⟩
  · rw [upd_ne (ne b u (rs.sub b u e))];exact rs.sub b u e
  · obtain ⟨b,e1,e2,e3⟩:=rs.gr n u e
    obtain ⟨w,hw⟩:=e3.some
    exact ⟨b,e1,e2,e3.st st (upd_ne (ne b w hw))⟩
  · obtain ⟨h1,h2⟩:=rs.rb n b e
    exact ⟨h1,st.dom b h2⟩

theorem vals_ok:∀ {xs:List OV} {vs:List V} {ys:List MV},Paired (RO K g H) xs vs→vals xs=some ys→RVs K g ys vs
  | [],_,_,.nil,e=>by cases e;exact rfl
  | .v x :: xs,_,_,.cons r t,e=>by
    obtain ⟨zs,e2,rfl⟩:=Option.map_eq_some_iff.mp (show (vals xs).map (x :: ·)=some _ from e)
    exact ⟨_,_,rfl,r,vals_ok t e2⟩
  | .b x :: xs,_,_,.cons r t,e=>by cases e
theorem tA_nil {Q':List V→Hp→Prop} (h:tA K W (fun s m=>.ok [] m) σ H Q'):tNil σ H Q':=by
  obtain ⟨g,s,m,rs,rl,p⟩:=h
  exact p g [] H rs (Stp.refl _ _) .nil
theorem tA_cons {fa:Sl→Mem→R OV} {fs:Sl→Mem→R (List OV)} {Q':List V→Hp→Prop} (h:tA K W (fun s m=>(fa s m).bind fun x m=>(fs s m).bind fun xs m=>.ok (x :: xs) m) σ H Q'):tCons (tE K W fa) (tA K W fs) σ H Q':=by
  obtain ⟨g,s,m,rs,rl,p⟩:=h
  exact ⟨g,s,m,rs,rl,(Post.bind p).imp fun v H1 ⟨x,g1,m1,rs1,st1,r1,p1⟩=>⟨g1,s,m1,rs1,rl.st st1,(Post.bind p1).imp fun vs H2 ⟨xs,g2,m2,rs2,st2,r2,p2⟩=>p2 g2 _ H2 rs2 (Stp.refl _ _) (.cons (RO.st r1 st2) r2)⟩⟩
theorem tE_tup {fs:Sl→Mem→R (List OV)} (h:tE K W (fun s m=>(fs s m).bind fun xs m=>match vals xs with
    | some ys=>if ys.length≤sizeLine then .ok (.v (.tup ys)) m else .stuck
    | none=>.stuck) σ H Q):tTup (tA K W fs) σ H Q:=by
  obtain ⟨g,s,m,rs,rl,p⟩:=h
  refine ⟨g,s,m,rs,rl,(Post.bind p).imp fun vs H1 ⟨xs,g1,m1,rs1,st1,r1,p1⟩=>?_⟩
  split at p1
  · rename_i ys e
    have r:=vals_ok r1 e
    split at p1
    · exact ⟨by rw [← r.length];assumption,post_tup rs1 p1 r⟩
    · exact p1.elim
  · exact p1.elim
theorem tF_lst {fs:Sl→Mem→R (List OV)} (h:tF K W (fun s m=>(fs s m).bind fun xs m=>match vals xs with
    | some ys=>if ys.length≤sizeLine then .ok (.lst ys) m else .stuck
    | none=>.stuck) σ H Q):tLst (tA K W fs) σ H Q:=by
  obtain ⟨g,s,m,rs,rl,p⟩:=h
  refine ⟨g,s,m,rs,rl,(PostF.bind p).imp fun vs H1 ⟨xs,g1,m1,rs1,st1,r1,p1⟩=>?_⟩
  split at p1
  · rename_i ys e
    have r:=vals_ok r1 e
    split at p1
    · refine ⟨by rw [← r.length];assumption,fun q hq=>?_⟩
      exact newF rs1 r p1 q hq
    · exact p1.elim
  · exact p1.elim
end
section
variable {K:Ki} {g g' g1:G} {H H' H1:Hp} {m m':Mem} {s:Sl} {σ:St} {Q:VK}
theorem Rs.free (rs:Rs K g m H) {a:Addr} (ha:H a=none):g.F a=none∧∀ n,g.r n≠some a:=by
  refine ⟨?_,fun n e=>(rs.rb n a e).2 ha⟩
  cases q:g.F a with
  | none=>rfl
  | some u=>have:=rs.sub _ _ q;rw [ha] at this;cases this
theorem Rs.grow {a:Addr} {o:HO} (rs:Rs K g m H) (ha:H a=none):Rs K g m (upd H a o)∧Stp g H g (upd H a o):=by
  have ne:∀ b u,H b=some u→b≠a:=fun b u e z=>by subst z;rw [ha] at e;cases e
  have st:Stp g H g (upd H a o):=⟨fun _ _ e=>e,fun _ _ e=>e,fun b u e _ _=>by rw [upd_ne (ne b u e)];exact e,fun b e=>by
    by_cases z:b=a
    · subst z;exact absurd ha e
    · rw [upd_ne z];exact e,fun b e=>.inl e,fun n b e=>.inl e⟩
  refine ⟨⟨fun b u e=>?_,fun n u e=>?_,fun n b e=>?_,rs.rj,fun q hq=>(rs.tb q hq).go (upd_ne ((rs.tb q hq).ne0 ha).symm) (fun _ _ e=>e) (rs.tb q hq).F (rs.tb q hq).r⟩,st⟩
  · rw [upd_ne (ne b u (rs.sub b u e))];exact rs.sub b u e
  · obtain ⟨b,e1,e2,e3⟩:=rs.gr n u e
    obtain ⟨w,hw⟩:=e3.some
    exact ⟨b,e1,e2,e3.st st (upd_ne (ne b w hw))⟩
  · obtain ⟨h1,h2⟩:=rs.rb n b e
    exact ⟨h1,st.dom b h2⟩
theorem Rs.own {a:Addr} {o u0:HO} (rs:Rs K g m H) (hF:g.F a=none) (hr:∀ n,g.r n≠some a) (h0:H a=some u0) (nt:NTbl u0):Rs K g m (upd H a o):=by
  refine ⟨fun b u e=>?_,fun n u e=>?_,fun n b e=>?_,rs.rj,fun q hq=>(rs.tb q hq).go (upd_ne ((rs.tb q hq).ne h0 nt).symm) (fun _ _ e=>e) (rs.tb q hq).F (rs.tb q hq).r⟩
  · rw [upd_ne (fun z=>by rw [z,hF] at e;cases e)];exact rs.sub b u e
  · obtain ⟨b,e1,e2,e3⟩:=rs.gr n u e
    have ne:b≠a:=fun z=>hr n (by rw [← z];exact e1)
    exact ⟨b,e1,e2,ObjR.grow e3 (fun _ _ e=>e) (fun _ _ e=>e) (upd_ne ne)⟩
  · obtain ⟨h1,h2⟩:=rs.rb n b e
    refine ⟨h1,?_⟩
    rw [upd_ne (fun z=>hr n (by rw [← z];exact e))];exact h2
theorem Stp.own {a:Addr} {o:HO} (st:Stp g1 H1 g H) (h1:H1 a=none):Stp g1 H1 g (upd H a o):=by
  refine ⟨st.F,st.r,fun b u e hn nt=>?_,fun b e=>?_,fun b e=>?_,st.rn⟩
  · rw [upd_ne (fun z=>by rw [z,h1] at e;cases e)];exact st.keep b u e hn nt
  · by_cases z:b=a
    · subst z;rw [upd_same];simp
    · rw [upd_ne z];exact st.dom b e
  · by_cases z:b=a
    · subst z;exact .inr (.inl h1)
    · rcases st.Fn b e with q | q | q | ⟨ys,q⟩
      · exact .inl q
      · exact .inr (.inl q)
      · exact .inr (.inr (.inl q))
      · exact .inr (.inr (.inr ⟨ys,by rw [upd_ne z];exact q⟩))
theorem Stp.frz {a:Addr} {o:HO} (st:Stp g1 H1 g H) (h1:H1 a=none) (hF:g.F a=none):Stp g1 H1 { g with F:=upd g.F a o } H:=by
  refine ⟨fun b u e=>?_,st.r,st.keep,st.dom,fun b e=>?_,st.rn⟩
  · have e2:=st.F b u e
    show upd g.F a o b=some u
    rw [upd_ne (fun z=>by rw [z,hF] at e2;cases e2)];exact e2
  · have e:upd g.F a o b≠none:=e
    by_cases z:b=a
    · subst z;exact .inr (.inl h1)
    · rw [upd_ne z] at e;exact st.Fn b e
theorem Stp.free (st:Stp g H g' H') {a:Addr} (h:H' a=none):H a=none:=by
  cases q:H a with
  | none=>rfl
  | some u=>exact absurd h (st.dom a (by rw [q];simp))

theorem frz_ok {o:MO} {p:Addr} (rs:Rs K g m H) (hF:g.F p=none) (hr:∀ n,g.r n≠some p) (ob:ObjR K g o H p):∃ u,H p=some u∧RV K { g with F:=upd g.F p u } (frz o) (.ref p):=by
  have mono:∀ (u:HO) (b:Addr) (w:HO),g.F b=some w→upd g.F p u b=some w:=fun u b w e=>by
    rw [upd_ne (fun z=>by rw [z,hF] at e;cases e)];exact e
  cases o with
  | lst xs =>
    obtain ⟨ys,e1,r⟩:=ob
    exact ⟨_,e1,p,ys,rfl,upd_same,RVs.mono (g:=g) (g':={ g with F:=upd g.F p (.lst ys) }) (mono _) (fun _ _ e=>e) xs r⟩
  | ins c ks xs =>
    obtain ⟨dx,fs,e1,e2,e3,r⟩:=ob
    exact ⟨_,e1,p,dx,fs,rfl,upd_same,mono _ _ _ e2,e3,RVs.mono (g:=g) (g':={ g with F:=upd g.F p (.ins (K.ga c) dx fs) }) (mono _) (fun _ _ e=>e) xs r⟩
  | dic ks xs =>
    obtain ⟨u,kvs,e1,e3,r,r2⟩:=ob
    exact ⟨_,e1,p,u,kvs,rfl,upd_same,e3,RVs.mono (g:=g) (g':={ g with F:=upd g.F p u }) (mono _) (fun _ _ e=>e) ks r,RVs.mono (g:=g) (g':={ g with F:=upd g.F p u }) (mono _) (fun _ _ e=>e) xs r2⟩
  | dit ks xs =>
    obtain ⟨u,kvs,e1,e3,r,r2⟩:=ob
    exact ⟨_,e1,p,u,kvs,rfl,upd_same,e3,RVs.mono (g:=g) (g':={ g with F:=upd g.F p u }) (mono _) (fun _ _ e=>e) ks r,RVs.mono (g:=g) (g':={ g with F:=upd g.F p u }) (mono _) (fun _ _ e=>e) xs r2⟩
theorem tE_fr {f:Sl→Mem→R MO} (h:tE K W (fun s m=>(f s m).bind fun o m=>.ok (.v (frz o)) m) σ H Q):tF K W f σ H Q:=by
  obtain ⟨g,s,m,rs,rl,p⟩:=h
  refine ⟨g,s,m,rs,rl,?_⟩
  have p:PostO K (WE W σ) g H ((f s m).bind fun o m=>R.ok (OV.v (frz o)) m) Q:=p
  cases e:f s m with
  | stuck=>rw [e] at p;exact p
  | exc c ks xs m'=>rw [e] at p;exact p
  | ok o m' =>
    rw [e] at p
    intro g' q H' rs' st hq hF hr ob
    obtain ⟨u,e1,r⟩:=frz_ok rs' hF hr ob
    exact p _ _ H' (rs'.freezeAt e1 hr hF (ob.nt e1)) (st.frz hq hF) r

end
end Rc

namespace Rc
open PySem PySem.Spec L2
open PyProof.Rows hiding St

structure Fn where
  name:Str
  ps:List Str
  M:Mir
instance:Inhabited Fn:=⟨⟨⟨#[]⟩,[],fun _ _=>.stuck⟩⟩
def retR (r:FR):R OV:=match r with
  | .ok x m'=>.ok (.v x) m'
  | .new o m'=>.ok (.v (frz o)) m'
  | .exc c ks xs m'=>.exc c ks xs m'
  | .stuck=>.stuck
def newR (r:FR):R OV:=match r with
  | .new o m'=>.ok (.v (.ref m'.length)) (m'++[some o])
  | .exc c ks xs m'=>.exc c ks xs m'
  | _=>.stuck
def callV (M:Mir) (as:List OV) (m:Mem):R OV:=match vals as with
  | some xs=>retR (M xs m)
  | none=>.stuck
def callN (M:Mir) (as:List OV) (m:Mem):R OV:=match vals as with
  | some xs=>newR (M xs m)
  | none=>.stuck
def PostR (K:Ki) (E:XK) (g:G) (H:Hp) (r:FR) (Q:VK):Prop:=match r with
  | .ok x m'=>∀ g' v H',Rs K g' m' H'→Stp g H g' H'→RV K g' x v→Q v H'
  | .new o m'=>∀ g' p H',Rs K g' m' H'→Stp g H g' H'→H p=none→g'.F p=none→(∀ n,g'.r n≠some p)→ObjR K g' o H' p→Q (.ref p) H'
  | .exc c ks xs m'=>∀ g' cls d H',Rs K g' m' H'→Stp g H g' H'→ExR K g' c ks xs cls d→E cls d H'
  | .stuck=>False
def spM (K:Ki) (n:Nat) (M:Mir):Sp:=fun vs H Q E=>∃ g m as,Rs K g m H∧RVs K g as vs∧as.length=n∧PostR K E g H (M as m) Q
theorem PostR.shift {K:Ki} {g g':G} {H H':Hp} {r:FR} {Q:VK} (t:Stp g H g' H') (h:PostR K E g H r Q):PostR K E g' H' r Q:=by
  cases r with
  | ok x m'=>exact fun g2 v H2 a b c=>h g2 v H2 a (t.trans b) c
  | new o m'=>exact fun g2 p H2 a b c d e f=>h g2 p H2 a (t.trans b) (t.free c) d e f
  | exc c ks xs m'=>exact fun g2 cls d H2 a b e=>h g2 cls d H2 a (t.trans b) e
  | stuck=>exact h
abbrev Need:=Program→World→PySem.W.Frag→(Str→Option Value)→Heap→Nat→Prop
structure FnAt (P:Program) (w:World) (K:PySem.W.Frag) (mg:Str→Option Value) (base:Heap) (k:Nat) (f:Addr) (fd:FuncData) (F:Fn):Prop where
  ok:FnOk P w K mg base (L2N.CX P w) k f fd F.ps (spM ⟨K,P,w⟩ F.ps.length F.M)
  bi:Binds K fd F.ps []
  kp:PySem.W.keepIn K (.ref f)=true
  pos:0 < k
theorem FnAt.mono {P:Program} {w:World} {K:PySem.W.Frag} {mg:Str→Option Value} {base:Heap} {j k:Nat} {f:Addr} {fd:FuncData} {F:Fn} (c:FnAt P w K mg base j f fd F) (h:j≤k):FnAt P w K mg base k f fd F:=⟨c.ok.mono h,c.bi,c.kp,Nat.lt_of_lt_of_le c.pos h⟩
def nFn (F:Fn):Need:=fun P w K mg base k=>∃ f fd,mg F.name=some (.ref f)∧FnAt P w K mg base k f fd F

section
variable {K:Ki} {g:G} {H:Hp} {m:Mem} {Q:VK} {E:XK}
theorem post_ret {r:FR} (h:PostO K E g H (retR r) Q):PostR K E g H r Q:=by
  cases r with
  | ok x m'=>exact h
  | new o m' =>
    intro g' q H' rs' st hq hF hr ob
    obtain ⟨u,e1,r⟩:=frz_ok rs' hF hr ob
    exact h _ _ H' (rs'.freezeAt e1 hr hF (ob.nt e1)) (st.frz hq hF) r
  | exc c ks xs m'=>exact h
  | stuck=>exact h
theorem Rs.adopt {o:MO} {p:Addr} (rs:Rs K g m H) (hF:g.F p=none) (hr:∀ n,g.r n≠some p) (ob:ObjR K g o H p):Rs K { g with r:=fun n=>if n=m.length then some p else g.r n } (m++[some o]) H:=by
  have mono:∀ (n:Nat) a,g.r n=some a→(if n=m.length then some p else g.r n)=some a:=fun n a e=>by
    have:=(rs.rb n a e).1
    rw [if_neg (by omega)];exact e
  have ob':∀ {u:MO} {a:Addr},ObjR K g u H a→ObjR K { g with r:=fun n=>if n=m.length then some p else g.r n } u H a:=fun {u a} h=>ObjR.grow h (fun _ _ e=>e) mono rfl
  refine ⟨rs.sub,fun n u e=>?_,fun n a e=>?_,fun n k a e1 e2=>?_,fun q hq=>?_⟩
  · by_cases hn:n=m.length
    · subst hn
      rw [List.getElem?_append_right (Nat.le_refl _)] at e
      simp at e
      subst e
      exact ⟨p,by simp,hF,ob' ob⟩
    · have hl:n < m.length:=by
        have:=(List.getElem?_eq_some_iff.mp e).1
        simp at this
        omega
      rw [List.getElem?_append_left hl] at e
      obtain ⟨a,e1,e2,e3⟩:=rs.gr n u e
      exact ⟨a,mono n a e1,e2,ob' e3⟩
  · have e:(if n=m.length then some p else g.r n)=some a:=e
    by_cases hn:n=m.length
    · rw [if_pos hn] at e;cases e
      obtain ⟨u,q⟩:=ob.some
      exact ⟨by simp [hn],by rw [q];simp⟩
    · rw [if_neg hn] at e
      obtain ⟨h1,h2⟩:=rs.rb n a e
      exact ⟨by simp;omega,h2⟩
  · have e1:(if n=m.length then some p else g.r n)=some a:=e1
    have e2:(if k=m.length then some p else g.r k)=some a:=e2
    by_cases hn:n=m.length <;> by_cases hk:k=m.length
    · omega
    · rw [if_pos hn] at e1;rw [if_neg hk] at e2;cases e1;exact absurd e2 (hr k)
    · rw [if_neg hn] at e1;rw [if_pos hk] at e2;cases e2;exact absurd e1 (hr n)
    · rw [if_neg hn] at e1;rw [if_neg hk] at e2;exact rs.rj n k a e1 e2
  · obtain ⟨u,e0,nt⟩:=ob.someN
    have tq:=rs.tb q hq
    refine tq.go rfl (fun _ _ e=>e) tq.F fun n e=>?_
    have e:(if n=m.length then some p else g.r n)=some q.2.1:=e
    split at e
    · exact tq.ne e0 nt (Option.some.inj e)
    · exact tq.r n e
theorem post_newR {r:FR} (h:PostO K E g H (newR r) Q):PostR K E g H r Q:=by
  cases r with
  | ok x m'=>exact h.elim
  | new o m' =>
    intro g' q H' rs' st hq hF hr ob
    refine h _ _ H' (rs'.adopt hF hr ob) ⟨st.F,fun k a e=>?_,st.keep,st.dom,st.Fn,fun k b e=>?_⟩ ⟨q,rfl,by simp⟩
    · have e:=st.r k a e
      have:=(rs'.rb k a e).1
      show (if k=m'.length then some q else g'.r k)=some a
      rw [if_neg (by omega)];exact e
    · have e:(if k=m'.length then some q else g'.r k)=some b:=e
      by_cases hk:k=m'.length
      · rw [if_pos hk] at e;cases e;exact .inr hq
      · rw [if_neg hk] at e;exact st.rn k b e
  | exc c ks xs m'=>exact h
  | stuck=>exact h
def tCl (K:Ki) (W:WX) (M:Mir) (n:Nat) (t:TA):TE:=fun σ H Q=>t σ H fun vs H1=>vs.length=n∧spM K n M vs H1 Q (WE W σ)
theorem spM_of {M:Mir} {xs:List OV} {ys:List MV} {vs:List V} (rs:Rs K g m H) (r:Paired (RO K g H) xs vs) (e:vals xs=some ys) (p:PostR K E g H (M ys m) Q):spM K vs.length M vs H Q E:=by
  have r2:=vals_ok r e
  exact ⟨g,m,ys,rs,r2,r2.length,p⟩
end
section
variable {K:Ki} {W:WX} {σ:St} {H:Hp} {Q:VK} {M:Mir} {n:Nat} {fs:Sl→Mem→R (List OV)}
theorem tE_call (hn:∀ s m xs m',fs s m=.ok xs m'→xs.length=n) (h:tE K W (fun s m=>(fs s m).bind fun xs m=>callV M xs m) σ H Q):tCl K W M n (tA K W fs) σ H Q:=by
  obtain ⟨g,s,m,rs,rl,p⟩:=h
  refine ⟨g,s,m,rs,rl,?_⟩
  have p:PostO K (WE W σ) g H ((fs s m).bind fun xs m=>callV M xs m) Q:=p
  cases e:fs s m with
  | stuck=>rw [e] at p;exact p
  | exc c ks xs m'=>rw [e] at p;exact p
  | ok xs m1 =>
    rw [e] at p
    intro g1 vs H1 rs1 st1 r1
    have p1:=Post.shift st1 (show PostO K (WE W σ) g H (callV M xs m1) Q from p)
    unfold callV at p1
    split at p1
    · rename_i ys e2
      have hl:vs.length=n:=by rw [← Paired.length r1,hn s m xs m1 e]
      exact ⟨hl,hl ▸ spM_of rs1 r1 e2 (post_ret p1)⟩
    · exact p1.elim
theorem tE_callN (hn:∀ s m xs m',fs s m=.ok xs m'→xs.length=n) (h:tE K W (fun s m=>(fs s m).bind fun xs m=>callN M xs m) σ H Q):tCl K W M n (tA K W fs) σ H Q:=by
  obtain ⟨g,s,m,rs,rl,p⟩:=h
  refine ⟨g,s,m,rs,rl,?_⟩
  have p:PostO K (WE W σ) g H ((fs s m).bind fun xs m=>callN M xs m) Q:=p
  cases e:fs s m with
  | stuck=>rw [e] at p;exact p
  | exc c ks xs m'=>rw [e] at p;exact p
  | ok xs m1 =>
    rw [e] at p
    intro g1 vs H1 rs1 st1 r1
    have p1:=Post.shift st1 (show PostO K (WE W σ) g H (callN M xs m1) Q from p)
    unfold callN at p1
    split at p1
    · rename_i ys e2
      have hl:vs.length=n:=by rw [← Paired.length r1,hn s m xs m1 e]
      exact ⟨hl,hl ▸ spM_of rs1 r1 e2 (post_newR p1)⟩
    · exact p1.elim
end

structure Cfg where
  N:List Str
  sc:Scope
  blts:List Str
  cst:List (Str × MV)
  top:Bool:=true
  calm:Bool:=true
  lam:Bool:=false
def Cfg.blk (c:Cfg) (scope:Scope):Cfg:={ c with sc:=relS scope c.sc,top:=false }
def Cfg.lamC (c:Cfg) (scope:Scope):Cfg:={ c with sc:=scope,top:=false,calm:=true,lam:=false }
structure CtxOk (k:Nat) (W:WX) (c:Cfg) (X:Cx):Prop where
  tk:L2N.Takes X W
  sc:X.env.scope=c.sc
  N:X.N=c.N
  nd:X.N.Nodup
  calm:c.calm=true→X.calm=true
  blt:∀ x∈c.blts,X.mg x=none
  cst:∀ x v,(x,v)∈c.cst→∃ u w,X.mg x=some u∧RelV w u∧∀ g,RV X.ki g v w
  room:0 < k→Room k X.A
  un:X.A.units + 66 < cLine
  lam:c.lam=true→∃ cd P,X.env.code=.ref cd∧LamX.TabB X.base X.mg cd P∧(cd,P,X.env.qual++"<lambda>")∈tabsOf X.K
  top:c.top=true→∀ x,X.env.scope.names.lookup x=some .cell→X.fn x=true
  wish:c.top=true→PassesOwn (model X.prog X.w) X.A X.env X.xe
  stk:c.top=true→X.stack=X.env :: X.outer∧X.env.frame=some X.env.locals∧X.ex=[]
abbrev Need.at (n:Need) (X:Cx) (k:Nat):Prop:=n X.prog X.w X.K X.mg X.base k
def seqE (fa:Sl→Mem→R OV) (fs:Sl→Mem→R (List OV)):Sl→Mem→R (List OV):=fun s m=>(fa s m).bind fun x m=>(fs s m).bind fun xs m=>.ok (x :: xs) m
inductive Parts (X:Cx) (W:WX):List Expr→(Sl→Mem→R (List OV))→Prop
  | nil:Parts X W [] (fun _ m=>.ok [] m)
  | cons {e:Expr} {es:List Expr} {fe:Sl→Mem→R OV} {fs:Sl→Mem→R (List OV)}:PE X e (tE X.ki W fe)→Parts X W es fs→Parts X W (e :: es) (seqE fe fs)
def plainE:Expr→Bool
  | .Starred ..=>false
  | _=>true
section
variable {env:Env} {e:Expr} {es:List Expr} {pos:Pos}
theorem starP (h:plainE e=true):starEach (e :: es) env=(false,eval e env) :: starEach es env:=by
  cases e <;> first | rfl | cases h
end
section
variable {X:Cx} {W:WX}
theorem Parts.len {es:List Expr} {fs:Sl→Mem→R (List OV)} (p:Parts X W es fs):∀ s m xs m',fs s m=.ok xs m'→xs.length=es.length:=by
  induction p with
  | nil=>intro s m xs m' h;cases h;rfl
  | @cons e es fe fs _ _ ih =>
    intro s m xs m' h
    have h:((fe s m).bind fun x m=>(fs s m).bind fun xs m=>.ok (x :: xs) m)=R.ok xs m':=h
    cases e1:fe s m with
    | stuck=>rw [e1] at h;cases h
    | exc c ks xs m1=>rw [e1] at h;cases h
    | ok x m1 =>
      rw [e1] at h
      have h:((fs s m1).bind fun xs m=>.ok (x :: xs) m)=R.ok xs m':=h
      cases e2:fs s m1 with
      | stuck=>rw [e2] at h;cases h
      | exc c ks xs m2=>rw [e2] at h;cases h
      | ok ys m2 =>
        rw [e2] at h
        have h:R.ok (x :: ys) m2=R.ok xs m':=h
        cases h
        simp [ih s m1 ys _ e2]
theorem Parts.pa {es:List Expr} {fs:Sl→Mem→R (List OV)} (p:Parts X W es fs):(es.all plainE=true)→PA X es (tA X.ki W fs):=by
  induction p with
  | nil=>exact fun _=>pa_nil.weaken fun σ H Q h=>tA_nil h
  | cons a _ ih =>
    intro h
    rw [List.all_cons,Bool.and_eq_true] at h
    exact (pa_cons a (ih h.2) (starP h.1)).weaken fun σ H Q q=>tA_cons q
theorem noStar {env:Env} {pos:Pos}:∀ {es:List Expr},es.all plainE=true→(backTo pos (starEach es env)).any (·.1)=false
  | [],_=>rfl
  | e :: es,h=>by
    rw [List.all_cons,Bool.and_eq_true] at h
    rw [starP h.1]
    show (false || (backTo pos (starEach es env)).any (·.1))=false
    rw [noStar h.2]
    rfl
@[simp] theorem bind_ok' {α β:Type} (a:α) (m:Mem) (k:α→Mem→R β):(R.ok a m).bind k=k a m:=rfl
theorem bind_assoc {α β γ:Type} (r:R α) (k:α→Mem→R β) (l:β→Mem→R γ):(r.bind k).bind l=r.bind fun x m=>(k x m).bind l:=by
  cases r <;> rfl
theorem Parts.p0 {fs:Sl→Mem→R (List OV)} (p:Parts X W [] fs):fs=fun _ m=>.ok [] m:=by cases p;rfl
theorem Parts.p1 {a:Expr} {fs:Sl→Mem→R (List OV)} (p:Parts X W [a] fs):∃ fa,PE X a (tE X.ki W fa)∧∀ {β:Type} (F:List OV→Mem→R β),(fun s m=>(fs s m).bind F)=fun s m=>(fa s m).bind fun x m=>F [x] m:=by
  cases p with
  | cons p q =>
    cases q
    refine ⟨_,p,fun F=>?_⟩
    funext s m
    simp only [seqE,bind_assoc,bind_ok']
theorem Parts.p2 {a b:Expr} {fs:Sl→Mem→R (List OV)} (p:Parts X W [a,b] fs):∃ fa fb,PE X a (tE X.ki W fa)∧PE X b (tE X.ki W fb)∧∀ {β:Type} (F:List OV→Mem→R β),(fun s m=>(fs s m).bind F)=fun s m=>(fa s m).bind fun x m=>(fb s m).bind fun y m=>F [x,y] m:=by
  cases p with
  | cons p q =>
    obtain ⟨fb,q1,q2⟩:=Parts.p1 q
    refine ⟨_,fb,p,q1,fun F=>?_⟩
    funext s m
    simp only [seqE,bind_assoc,bind_ok']
    congr 1
    funext x m
    exact congrFun (congrFun (q2 fun xs m=>F (x :: xs) m) s) m
theorem Parts.p3 {a b c:Expr} {fs:Sl→Mem→R (List OV)} (p:Parts X W [a,b,c] fs):∃ fa fb fc,PE X a (tE X.ki W fa)∧PE X b (tE X.ki W fb)∧PE X c (tE X.ki W fc)∧∀ {β:Type} (F:List OV→Mem→R β),(fun s m=>(fs s m).bind F)=fun s m=>(fa s m).bind fun x m=>(fb s m).bind fun y m=>(fc s m).bind fun z m=>F [x,y,z] m:=by
  cases p with
  | cons p q =>
    obtain ⟨fb,fc,q1,q2,q3⟩:=Parts.p2 q
    refine ⟨_,fb,fc,p,q1,q2,fun F=>?_⟩
    funext s m
    simp only [seqE,bind_assoc,bind_ok']
    congr 1
    funext x m
    exact congrFun (congrFun (q3 fun xs m=>F (x :: xs) m) s) m
end

def nTwo:Need:=fun _ _ _ _ _ k=>∃ j,k=j + 2
def low2 (n:Need):Need:=fun P w K mg base k=>∃ j,k=j + 2∧n P w K mg base j
structure PrimT where
  need:List Need:=[]
  parts:Cfg→Expr→Option (Scope × Expr)
  F:R OV→R OV
  ok:∀ {k:Nat} {W:WX} {c:Cfg} {X:Cx} {e:Expr} {sc:Scope} {b:Expr} {fe:Sl→Mem→R OV},CtxOk (k + 2) W c X→(∀ n∈need,n.at X (k + 2))→parts c e=some (sc,b) →
    (∀ (X':Cx) (W':WX),X'.prog=X.prog→X'.w=X.w→X'.K=X.K→X'.mg=X.mg→X'.base=X.base→CtxOk k W' (c.lamC sc) X'→PE X' b (tE X'.ki W' fe))→PE X e (tE X.ki W fun s m=>F (fe s m))
def nThree:Need:=fun _ _ _ _ _ k=>∃ j,k=j + 3
def low3 (n:Need):Need:=fun P w K mg base k=>∃ j,k=j + 3∧n P w K mg base j
inductive LamMs (X:Cx) (c:Cfg) (k:Nat):List (Scope × Expr)→List (Sl→Mem→R OV)→Prop
  | nil:LamMs X c k [] []
  | cons {sc:Scope} {b:Expr} {fe:Sl→Mem→R OV} {l:List (Scope × Expr)} {fs:List (Sl→Mem→R OV)}:(∀ (X':Cx) (W':WX),X'.prog=X.prog→X'.w=X.w→X'.K=X.K→X'.mg=X.mg→X'.base=X.base→CtxOk k W' (c.lamC sc) X'→PE X' b (tE X'.ki W' fe))→LamMs X c k l fs→LamMs X c k ((sc,b) :: l) (fe :: fs)
structure PrimTs where
  need:List Need:=[]
  parts:Cfg→Expr→Option (List (Scope × Expr))
  F:List (Mem→R OV)→Mem→R OV
  ok:∀ {k:Nat} {W:WX} {c:Cfg} {X:Cx} {e:Expr} {l:List (Scope × Expr)} {fs:List (Sl→Mem→R OV)},CtxOk (k + 3) W c X→(∀ n∈need,n.at X (k + 3))→parts c e=some l→LamMs X c k l fs→PE X e (tE X.ki W fun s m=>F (fs.map fun f=>f s) m)
structure Prim where
  need:List Need:=[]
  parts:Cfg→Expr→Option (List Expr)
  F:List OV→Mem→R OV
  ok:∀ {k:Nat} {W:WX} {c:Cfg} {X:Cx} {e:Expr} {es:List Expr} {fs:Sl→Mem→R (List OV)},CtxOk k W c X→(∀ n∈need,n.at X k)→parts c e=some es→Parts X W es fs→PE X e (tE X.ki W fun s m=>(fs s m).bind F)
structure PrimF where
  need:List Need:=[]
  parts:Cfg→Expr→Option (List Expr)
  F:List OV→Mem→R MO
  ok:∀ {k:Nat} {W:WX} {c:Cfg} {X:Cx} {e:Expr} {es:List Expr} {fs:Sl→Mem→R (List OV)},CtxOk k W c X→(∀ n∈need,n.at X k)→parts c e=some es→Parts X W es fs→PE X e (tF X.ki W fun s m=>(fs s m).bind F)
structure PrimC where
  need:List Need:=[]
  op:CmpOp→Bool
  F:OV→OV→Mem→R OV
  ok:∀ {k:Nat} {W:WX} {c:Cfg} {X:Cx} {o:CmpOp},CtxOk k W c X→(∀ n∈need,n.at X k)→op o=true→OpR X (compareOp o) (t2 X.ki F)
end Rc

namespace Rc
open PySem PySem.Spec L2
open PyProof.Rows hiding St

inductive Sk where
  | l
  | t
def Sk.sq (K:PySem.W.Frag) (H:Hp) (a:Addr) (xs:List V):Sk→Prop
  | .l=>SqL K H a xs
  | .t=>SqT K H a xs
def Sk.isI (h:Heap) (it a:Addr) (i:Nat):Sk→Prop
  | .l=>h.IsListIter it a i
  | .t=>h.IsTupleIter it a i
def Sk.isC (h:Heap) (a:Addr) (items:Array Value):Sk→Prop
  | .l=>h.IsList a items
  | .t=>h.IsTuple a items
def Sk.ob (a:Addr):Sk→Obj
  | .l=>{ cls:=.type "list_iterator",data:=.fields #[.ref a,.int 0 0] }
  | .t=>{ cls:=.type "tuple_iterator",data:=.fields #[.ref a,.int 0 0] }
section
variable {prog:Program} {w:World} {A:Around}
theorem Sk.draws (hh:A.handled=none) (it a:Addr) (hne:a≠it) (items:Array Value) (k:Sk):Draws prog w A it [it,a] items.size (fun i v=>items[i]? = some v) (fun i h=>k.isI h it a i∧k.isC h a items):=by
  cases k with
  | l=>exact Draws.list hh it a hne items
  | t=>exact Draws.tuple hh it a hne items
theorem Sk.begins (a:Addr) (items:Array Value) (k:Sk):Begins (.ref a) (k.ob a) fun h=>k.isC h a items:=by
  cases k with
  | l=>exact begins_list a items
  | t=>exact begins_tuple a items
theorem Sk.isI_at {h h':Heap} {it a:Addr} {i:Nat} {k:Sk} (x:k.isI h it a i) (e:∀ o,h.get? it=some o→h'.get? it=some o):k.isI h' it a i:=by
  cases k with
  | l=>exact Heap.IsListIter.at x e
  | t=>exact Heap.IsTupleIter.at x e
theorem Sk.isI_ob {h:Heap} {it a:Addr} {i:Nat} {k:Sk} (x:k.isI h it a i):∃ o,h.get? it=some o∧∀ v,o.data≠.cell v:=by
  cases k with
  | l=>obtain ⟨o,e,_,d⟩:=x;exact ⟨o,e,fun v q=>by rw [d] at q;cases q⟩
  | t=>obtain ⟨o,e,_,d⟩:=x;exact ⟨o,e,fun v q=>by rw [d] at q;cases q⟩
theorem Sk.ne {h:Heap} {it a c:Addr} {i:Nat} {k l:Sk} {items:Array Value} (x:k.isI h it a i) (y:l.isC h c items):c≠it:=by
  rintro rfl
  cases k <;> cases l <;>
    (obtain ⟨o,e,q,_⟩:=x;obtain ⟨u,f,r,_⟩:=y;rw [e] at f;cases f;rw [q] at r;injection r with r;exact absurd r (by decide))
theorem Sk.isI_new {h:Heap} {it a:Addr} {k:Sk} (e:h.get? it=some (k.ob a)):k.isI h it a 0:=by
  cases k with
  | l=>exact ⟨_,e,rfl,rfl⟩
  | t=>exact ⟨_,e,rfl,rfl⟩
end
section
variable {X:Cx} {pins:List (Addr × Obj)} {σ:St} {H:Hp} {s:Shared}
theorem Sk.seq (I:Inv X pins σ H s) {a:Addr} {xs:List V} {k:Sk} (h:k.sq X.K H a xs):∃ its,Vals xs its∧k.isC s.heap a its.toArray∧a < s.heap.objs.size:=by
  cases k with
  | l=>obtain ⟨its,r,p,_⟩:=I.list h;exact ⟨its,r,p.isList,p.lt⟩
  | t=>obtain ⟨its,r,p,_⟩:=I.tuple h;exact ⟨its,r,p,p.lt⟩
theorem Sk.inj (I:Inv X pins σ H s) {a:Addr} {xs ys:List V} {k:Sk} (h:k.sq X.K H a xs) (h':k.sq X.K H a ys):xs=ys:=by
  cases k with
  | l=>exact I.list_inj h h'
  | t=>exact I.tuple_inj h h'
end
def ItK (K:PySem.W.Frag) (k l:Sk) (a b:Addr):It :=
  ⟨fun i H=>∃ (xs ys:List V) (x y:V),k.sq K H a xs∧l.sq K H b ys∧xs[i]? = some x∧ys[i]? = some y,
    fun i H v H'=>∃ T x y,v=.ref T∧H T=none∧H'=upd H T (.tup [x,y])∧(∀ xs,k.sq K H a xs→xs[i]? = some x)∧∀ ys,l.sq K H b ys→ys[i]? = some y,
    fun i H=>∃ xs ys:List V,k.sq K H a xs∧l.sq K H b ys∧i=min xs.length ys.length⟩
theorem turnK {P:Program} {w:World} {K:PySem.W.Frag} {elts:List Expr} {kk:Nat} {tpos:Pos} {k l:Sk} {a b z TI TO i1 i2:Addr} (D:ZipSep2 z TI TO i1 i2 [i1,a] [i2,b]) :
    Turn P w K (.Tuple elts kk tpos) (ItK K k l a b) [z,TI,TO,i1,i2] z (fun i h=>IsZip h z TI TO .none∧IsTupOf2 h TI (.ref i1) (.ref i2)∧(∃ x y,IsTupOf2 h TO x y)∧k.isI h i1 a i∧l.isI h i2 b i) where
  mem:=by simp
  obj:=fun i h st c hc=>by
    obtain ⟨hz,hTI,⟨x,y,hTO⟩,h1,h2⟩:=st
    have e':c=z∨c=TI∨c=TO∨c=i1∨c=i2:=by simpa using hc
    rcases e' with rfl | rfl | rfl | rfl | rfl
    · exact ⟨_,hz,fun v q=>nomatch q⟩
    · exact ⟨_,hTI,fun v q=>nomatch q⟩
    · exact ⟨_,hTO,fun v q=>nomatch q⟩
    · exact Sk.isI_ob h1
    · exact Sk.isI_ob h2
  keep:=fun i h h' st q=>by
    obtain ⟨hz,hTI,⟨x,y,hTO⟩,h1,h2⟩:=st
    exact ⟨q z (by simp) _ hz,q TI (by simp) _ hTI,⟨x,y,q TO (by simp) _ hTO⟩,Sk.isI_at h1 fun o e=>q i1 (by simp) o e,Sk.isI_at h2 fun o e=>q i2 (by simp) o e⟩
  item:=by
    intro X hP hw hK hc i pins s σ H E I hf st hg
    subst hP hw hK
    obtain ⟨hz,hTI,hTO,h1,h2⟩:=st
    obtain ⟨xs,ys,x,y,qx,qy,ex,ey⟩:=hg
    obtain ⟨its,rv,c1,l1⟩:=Sk.seq I qx
    obtain ⟨jts,rw',c2,l2⟩:=Sk.seq I qy
    obtain ⟨u,hu,ru⟩:=rv.get ex
    obtain ⟨u2,hu2,ru2⟩:=rw'.get ey
    have hh:=I.ok.hd hc
    have m1:i < its.toArray.size:=by simpa using (List.getElem?_eq_some_iff.mp hu).1
    have m2:i < jts.toArray.size:=by simpa using (List.getElem?_eq_some_iff.mp hu2).1
    refine wpAny_mono ((GoesN.zip2 (elts:=elts) (x1:=kk) (pos:=tpos) D (Sk.draws (A:=X.A.in1) hh i1 a (Sk.ne h1 c1) its.toArray k) (Sk.draws (A:=X.A.in1) hh i2 b (Sk.ne h2 c2) jts.toArray l)).goes i s
      (fun v s2=>∃ x H',Inv X pins σ H' s2∧RelV x v∧(ItK X.K k l a b).yld i H x H'∧(IsZip s2.heap z TI TO .none∧IsTupOf2 s2.heap TI (.ref i1) (.ref i2)∧(∃ x y,IsTupOf2 s2.heap TO x y)∧k.isI s2.heap i1 a (i + 1)∧l.isI s2.heap i2 b (i + 1))∧∀ b∈[z,TI,TO,i1,i2],H' b=none) E (by omega) ⟨hz,hTI,hTO,⟨h1,c1⟩,h2,c2⟩ fun v h' tk y st' keep _=>?_) (fun r s1 ⟨v,e,q⟩=>⟨v,e,q⟩) fun _ _ q=>q
    obtain ⟨T,p,q,rfl,hT,e1,e2,ot,o1,o2,n,o3⟩:=y
    obtain ⟨s1,s2,s3,⟨s4,_⟩,s5,_⟩:=st'
    have e1:its[i]? = some p:=by simpa using e1
    have e2:jts[i]? = some q:=by simpa using e2
    rw [hu] at e1;cases e1
    rw [hu2] at e2;cases e2
    have new:ObjOk X.prog X.w (upd H T (.tup [x,y])) h' T (.tup [x,y]):=⟨by show 2≤sizeLine;decide,[u,u2],.cons ru (.cons ru2 .nil),⟨ot,o1,o2,n,o3⟩⟩
    refine ⟨.ref T,_,I.turnedNew (t':=tk) (ch:=[z,TO,i1,i2]) keep (fun c hc=>hf c (by simp only [List.mem_cons,List.not_mem_nil,or_false] at hc ⊢;rcases hc with h | h | h | h <;> simp [h])) hT new,rfl,⟨T,x,y,rfl,I.hok.fresh hT,rfl,fun l hl=>by rw [Sk.inj I hl qx];exact ex,fun l hl=>by rw [Sk.inj I hl qy];exact ey⟩,⟨s1,s2,s3,s4,s5⟩,fun c hcm=>?_⟩
    have lt:c < s.heap.objs.size:=by
      have z1:=Sk.isI_ob h1
      have z2:=Sk.isI_ob h2
      obtain ⟨_,_,hTO⟩:=hTO
      obtain ⟨_,z1,_⟩:=z1
      obtain ⟨_,z2,_⟩:=z2
      simp only [List.mem_cons,List.not_mem_nil,or_false] at hcm
      rcases hcm with rfl | rfl | rfl | rfl | rfl
      · exact Heap.lt_size hz
      · exact Heap.lt_size hTI
      · exact Heap.lt_size hTO
      · exact Heap.lt_size z1
      · exact Heap.lt_size z2
    rw [upd_ne (Nat.ne_of_lt (Nat.lt_of_lt_of_le lt hT))]
    exact (hf c hcm).1
  done:=by
    intro X hP hw hK hc i pins s σ H E I hf st hg
    subst hP hw hK
    obtain ⟨hz,hTI,hTO,h1,h2⟩:=st
    obtain ⟨xs,ys,qx,qy,rfl⟩:=hg
    obtain ⟨its,rv,c1,l1⟩:=Sk.seq I qx
    obtain ⟨jts,rw',c2,l2⟩:=Sk.seq I qy
    have hh:=I.ok.hd hc
    have e:min its.toArray.size jts.toArray.size=min xs.length ys.length:=by
      rw [List.size_toArray,List.size_toArray,← rv.length,← rw'.length]
    have g:=GoesN.zip2 (prog:=X.prog) (w:=X.w) (elts:=elts) (x1:=kk) (pos:=tpos) D (Sk.draws (A:=X.A.in1) hh i1 a (Sk.ne h1 c1) its.toArray k) (Sk.draws (A:=X.A.in1) hh i2 b (Sk.ne h2 c2) jts.toArray l)
    rw [e] at g
    exact g.stops s (fun s1=>Inv X pins σ H s1) E ⟨hz,hTI,hTO,⟨h1,c1⟩,h2,c2⟩ fun h' tk keep _=>I.turnedL (t':=tk) (ch:=[z,TO,i1,i2]) keep (fun c hc=>hf c (by simp only [List.mem_cons,List.not_mem_nil,or_false] at hc ⊢;rcases hc with h | h | h | h <;> simp [h]))
  self:=fun A i s Q E st h=>wpAny_pyIter_zip st.1 h
def iZipK (K:PySem.W.Frag) (ta:TA):TI:=fun σ H R=>ta σ H fun vs H1=>∃ k l a b xs ys,vs=[.ref a,.ref b]∧Sk.sq K H1 a xs k∧Sk.sq K H1 b ys l∧R (ItK K k l a b) H1
theorem pi_zipK {X:Cx} {e e2:Expr} {ta:TA} {p pos tpos:Pos} {elts:List Expr} {kk:Nat} (hg:Gl X "zip") (hm:X.mg "zip" = none) (ha:PA X [e,e2] ta) (h1:plainE e=true) (h2:plainE e2=true) :
    PI X (.Tuple elts kk tpos) (.Call (.Name "zip" p) [e,e2] [] pos) (iZipK X.K ta):=by
  refine ⟨fun pins s σ H R I h=>?_⟩
  refine Call_ (ld_blt I hg hm PyProof.Rows.boot_zip (PyProof.Rows.callWith_type1 (thn (ha.run pos pins s σ H _ I h) fun us s1 ⟨vs,H1,I1,r1,q1⟩=>?_) (starP h1) (noStar (es:=[e2]) (by simp [h2]))))
  obtain ⟨k,l,a,b,xs,ys,rfl,qx,qy,q⟩:=q1
  cases r1 with
  | cons r rr =>
    cases rr with
    | cons r' rr =>
      cases rr
      cases r
      cases r'
      obtain ⟨its,rv,c1,l1⟩:=Sk.seq I1 qx
      obtain ⟨jts,rw',c2,l2⟩:=Sk.seq I1 qy
      refine zip_begins2 (Sk.begins a its.toArray k) (Sk.begins b jts.toArray l) c1 c2 fun h' hz hTI hTO g1 g2 hsz hk=>wpAny_pyIter_zip hz ?_
      have I2:Inv X pins σ H1 { s1 with heap:=h' }:=I1.kept (t':=s1.toks) hk
      refine ⟨s1.heap.objs.size + 4,[s1.heap.objs.size + 4,s1.heap.objs.size + 2,s1.heap.objs.size + 3,s1.heap.objs.size,s1.heap.objs.size + 1],_,_,H1,rfl,I2,turnK (zip_sep2 (fp1:=[a]) (fp2:=[b]) (by simpa using l1) (by simpa using l2)),
        ⟨hz,hTI,⟨_,_,hTO⟩,Sk.isI_new g1,Sk.isI_new g2⟩,fun c hcm=>?_,q⟩
      have hle:s1.heap.objs.size≤c:=by
        simp only [List.mem_cons,List.not_mem_nil,or_false] at hcm
        rcases hcm with h | h | h | h | h <;> (rw [h];first | exact Nat.le_add_right _ _ | exact Nat.le_refl _)
      exact I1.fpOk hle (I1.hok.fresh hle)

def IeK (K:PySem.W.Frag) (k:Sk) (a:Addr):It :=
  ⟨fun i H=>∃ (xs:List V) (x:V),k.sq K H a xs∧xs[i]? = some x,
    fun i H v H'=>∃ T x,v=.ref T∧H T=none∧H'=upd H T (.tup [.int (i:Nat),x])∧(∀ xs,k.sq K H a xs→xs[i]? = some x),
    fun i H=>∃ xs:List V,k.sq K H a xs∧i=xs.length⟩
theorem turnE {P:Program} {w:World} {K:PySem.W.Frag} {elts:List Expr} {kk:Nat} {tpos:Pos} {k:Sk} {a e it:Addr} (hei:e≠it) (hea:e≠a) :
    Turn P w K (.Tuple elts kk tpos) (IeK K k a) [e,it] e (fun i h=>(∃ old,IsEnum h e it (0 + (i:Int)) old)∧k.isI h it a i) where
  mem:=by simp
  obj:=fun i h st c hc=>by
    obtain ⟨⟨old,he⟩,h1⟩:=st
    have e':c=e∨c=it:=by simpa using hc
    rcases e' with rfl | rfl
    · exact ⟨_,he,fun v q=>nomatch q⟩
    · exact Sk.isI_ob h1
  keep:=fun i h h' st q=>by
    obtain ⟨⟨old,he⟩,h1⟩:=st
    exact ⟨⟨old,q e (by simp) _ he⟩,Sk.isI_at h1 fun o e=>q it (by simp) o e⟩
  item:=by
    intro X hP hw hK hc i pins s σ H E I hf st hg
    subst hP hw hK
    obtain ⟨he,h1⟩:=st
    obtain ⟨xs,x,qx,ex⟩:=hg
    obtain ⟨its,rv,c1,l1⟩:=Sk.seq I qx
    obtain ⟨u,hu,ru⟩:=rv.get ex
    have hh:=I.ok.hd hc
    have m1:i < its.toArray.size:=by simpa using (List.getElem?_eq_some_iff.mp hu).1
    refine wpAny_mono ((GoesN.enumFrom (elts:=elts) (x1:=kk) (pos:=tpos) 0 (Sk.draws (A:=X.A.in1) hh it a (Sk.ne h1 c1) its.toArray k) e hei (by simp [hei,hea]) (by simp)).goes i s
      (fun v s2=>∃ x H',Inv X pins σ H' s2∧RelV x v∧(IeK X.K k a).yld i H x H'∧((∃ old,IsEnum s2.heap e it (0 + ((i + 1:Nat):Int)) old)∧k.isI s2.heap it a (i + 1))∧∀ b∈[e,it],H' b=none) E m1 ⟨he,h1,c1⟩ fun v h' tk y st' keep _=>?_) (fun r s1 ⟨v,e,q⟩=>⟨v,e,q⟩) fun _ _ q=>q
    obtain ⟨T,t,p,rfl,hT,e1,ot,o1,o2,n,o3⟩:=y
    obtain ⟨s1,s4,_⟩:=st'
    have e1:its[i]? = some p:=by simpa using e1
    rw [hu] at e1;cases e1
    have new:ObjOk X.prog X.w (upd H T (.tup [.int (i:Nat),x])) h' T (.tup [.int (i:Nat),x]):=⟨by show 2≤sizeLine;decide,[.int (0 + (i:Int)) t,u],.cons ⟨t,by simp⟩ (.cons ru .nil),⟨ot,o1,o2,n,o3⟩⟩
    refine ⟨.ref T,_,I.turnedNew (t':=tk) (ch:=[e,it]) keep hf hT new,rfl,⟨T,x,rfl,I.hok.fresh hT,rfl,fun l hl=>by rw [Sk.inj I hl qx];exact ex⟩,⟨s1,s4⟩,fun c hcm=>?_⟩
    have lt:c < s.heap.objs.size:=by
      have z1:=Sk.isI_ob h1
      obtain ⟨_,he⟩:=he
      obtain ⟨_,z1,_⟩:=z1
      simp only [List.mem_cons,List.not_mem_nil,or_false] at hcm
      rcases hcm with rfl | rfl
      · exact Heap.lt_size he
      · exact Heap.lt_size z1
    rw [upd_ne (Nat.ne_of_lt (Nat.lt_of_lt_of_le lt hT))]
    exact (hf c hcm).1
  done:=by
    intro X hP hw hK hc i pins s σ H E I hf st hg
    subst hP hw hK
    obtain ⟨he,h1⟩:=st
    obtain ⟨xs,qx,rfl⟩:=hg
    obtain ⟨its,rv,c1,l1⟩:=Sk.seq I qx
    have hh:=I.ok.hd hc
    have z:its.toArray.size=xs.length:=by rw [List.size_toArray,← rv.length]
    have g:=GoesN.enumFrom (prog:=X.prog) (w:=X.w) (elts:=elts) (x1:=kk) (pos:=tpos) 0 (Sk.draws (A:=X.A.in1) hh it a (Sk.ne h1 c1) its.toArray k) e hei (by simp [hei,hea]) (by simp)
    rw [z] at g
    exact g.stops s (fun s1=>Inv X pins σ H s1) E ⟨he,h1,c1⟩ fun h' tk keep _=>I.turnedL (t':=tk) (ch:=[e,it]) keep hf
  self:=fun A i s Q E st h=>let ⟨⟨_,he⟩,_⟩:=st;wpAny_pyIter_enum he h
set_option maxHeartbeats 1000000 in
theorem enum_new1 {v:Value} {o:Obj} {Hp0:Heap→Prop} (B:Begins v o Hp0) :
    Meets (Builtin.«enumerate.__new__» ⟨[.type "enumerate",v],[]⟩) (fun _ R s=>Hp0 s.heap ∧
      R (.ok (.ret (.ref (s.heap.push o).objs.size))) { s with heap:=(s.heap.push o).push { cls:=.type "enumerate",data:=.fields #[.none,.bool false,.ref s.heap.objs.size,rawInt 0,.none,.none] } }) :=
  .of_wp fun prog w A R s h=>by
    obtain ⟨hp,g,d,tk,os⟩:=s
    obtain ⟨h1,h⟩:=h
    have hsub:=sub_enumerate
    have q1:∀ {A':Around} {E:Value→Shared→Prop} {Q:Value→Shared→Prop},Q (.ref hp.objs.size) ⟨hp.push o,g,d,tk,os⟩→wpAny (model prog w) A' (pyIter v) Q E ⟨hp,g,d,tk,os⟩:=fun q=>B.iter prog w _ _ ⟨hp,g,d,tk,os⟩ _ h1 q
    wp_walk using q1
    refine wpAny_stack_any fun st=>wpAny_pure ?_
    split
    · rename_i c _ _ _ _ _
      cases (c == Value.type "enumerate") <;> (wp_walk using q1;exact ⟨_,rfl,h⟩)
    · wp_walk using q1
      exact ⟨_,rfl,h⟩
theorem enum_begins1 {prog:Program} {w:World} {A:Around} {E:Value→Shared→Prop} {s:Shared} {v:Value} {o:Obj} {Hp0:Heap→Prop} {Q:Value→Shared→Prop} (B:Begins v o Hp0) (h1:Hp0 s.heap)
    (h:∀ h',IsEnum h' (s.heap.objs.size + 1) s.heap.objs.size 0 .none→h'.get? s.heap.objs.size=some o→(∀ b o,s.heap.get? b=some o→h'.get? b=some o)→Q (.ref (s.heap.objs.size + 1)) { s with heap:=h' }) :
    wpAny (model prog w) A (call (.type "enumerate") [v]) Q E s:=by
  refine callType_new F.called_enumerate (by decide) (F.typeCall_enumerate_1 _) (F.newCall_enumerate_1 _) (fun obj=>F.args_object_init_2 obj _) F.entry_enumerate_new (enum_new1 B) ⟨h1,?_⟩
  have hz:(s.heap.push o).objs.size=s.heap.objs.size + 1:=Heap.size_push ..
  show _∧_
  rw [hz]
  have he:IsEnum ((s.heap.push o).push { cls:=.type "enumerate",data:=.fields #[.none,.bool false,.ref s.heap.objs.size,rawInt 0,.none,.none] }) (s.heap.objs.size + 1) s.heap.objs.size 0 .none:=by
    have q:=Heap.get?_push_size (s.heap.push o) (o:={ cls:=.type "enumerate",data:=.fields #[.none,.bool false,.ref s.heap.objs.size,rawInt 0,.none,.none] }) rfl
    rw [hz] at q
    exact q
  exact ⟨⟨_,he,rfl⟩,h _ he (Heap.get?_push_of_some _ (Heap.get?_push_size _ B.free)) fun b o x=>Heap.get?_push_of_some _ (Heap.get?_push_of_some _ x)⟩
def iEnumK (K:PySem.W.Frag) (ta:TA):TI:=fun σ H R=>ta σ H fun vs H1=>∃ k a xs,vs=[.ref a]∧Sk.sq K H1 a xs k∧R (IeK K k a) H1
theorem pi_enumK {X:Cx} {e:Expr} {ta:TA} {p pos tpos:Pos} {elts:List Expr} {kk:Nat} (hg:Gl X "enumerate") (hm:X.mg "enumerate" = none) (ha:PA X [e] ta) (h1:plainE e=true) :
    PI X (.Tuple elts kk tpos) (.Call (.Name "enumerate" p) [e] [] pos) (iEnumK X.K ta):=by
  refine ⟨fun pins s σ H R I h=>?_⟩
  refine Call_ (ld_blt I hg hm boot_enumerate (PyProof.Rows.callWith_type1 (thn (ha.run pos pins s σ H _ I h) fun us s1 ⟨vs,H1,I1,r1,q1⟩=>?_) (starP h1) rfl))
  obtain ⟨k,a,xs,rfl,qx,q⟩:=q1
  cases r1 with
  | cons r rr =>
    cases rr
    cases r
    obtain ⟨its,rv,c1,l1⟩:=Sk.seq I1 qx
    refine enum_begins1 (Sk.begins a its.toArray k) c1 fun h' he g1 hk=>wpAny_pyIter_enum he ?_
    have I2:Inv X pins σ H1 { s1 with heap:=h' }:=I1.kept (t':=s1.toks) hk
    refine ⟨s1.heap.objs.size + 1,[s1.heap.objs.size + 1,s1.heap.objs.size],_,_,H1,rfl,I2,turnE (Nat.succ_ne_self _) (Nat.ne_of_gt (Nat.lt_succ_of_lt l1)),⟨⟨.none,he⟩,Sk.isI_new g1⟩,fun c hcm=>?_,q⟩
    have hle:s1.heap.objs.size≤c:=by
      simp only [List.mem_cons,List.not_mem_nil,or_false] at hcm
      rcases hcm with h | h <;> (rw [h];first | exact Nat.le_add_right _ _ | exact Nat.le_refl _)
    exact I1.fpOk hle (I1.hok.fresh hle)
end Rc

namespace Rc
namespace Unp
open PySem PySem.Spec PyProof.Rows L2
section
variable {P:Program} {w:World} {A:Around} {E:Value→Shared→Prop} {s:Shared}
theorem take_l {it l:Addr} {items:Array Value} (ne:l≠it):∀ (n i:Nat) (s:Shared) (Q:List Value→Shared→Prop),s.heap.IsListIter it l i→s.heap.IsList l items→i + n≤items.size →
    (∀ h',h'.IsListIter it l (i + n)→Heap.SameBut it s.heap h'→Q ((items.toList.drop i).take n) { s with heap:=h' })→wpAny (model P w) A (draw (.ref it) n) Q E s
  | 0,i,s,Q,hi,_,_,q=>wpAny_pure (by simpa using q s.heap hi (Heap.SameBut.refl ..))
  | n + 1,i,s,Q,hi,hl,le,q=>by
    have lt:i < items.size:=by omega
    show wpAny _ _ (pyNext (.ref it) >>= _) Q E s
    refine wpAny_bind (wpAny_pyNext_list_item hi hl (x:=items[i]) (by simp [lt]) fun h1 i1 s1=>?_)
    refine wpAny_bind (wpAny_holding (take_l ne n (i + 1) _ _ i1 (hl.extBut s1.extBut ne) (by omega) fun h2 i2 s2=>wpAny_pure ?_))
    have:=q h2 (by rw [show i + (n + 1)=i + 1 + n by omega];exact i2) (s1.trans s2)
    rw [show items.toList.drop i=items[i] :: items.toList.drop (i + 1) by simp [List.drop_eq_getElem_cons,lt],List.take_succ_cons] at this
    exact this
theorem items_l {l:Addr} {items:Array Value} {Q:List Value→Shared→Prop} (hh:A.handled=none) (hl:s.heap.IsList l items) (q:∀ h',Heap.ExtBut s.heap.objs.size s.heap h'→Q items.toList { s with heap:=h' }):wpAny (model P w) A (unpackItems (.ref l) items.size none) Q E s:=by
  have ne:l≠s.heap.objs.size:=by obtain ⟨o,ho,_⟩:=hl;exact Nat.ne_of_lt (Heap.lt_size ho)
  unfold unpackItems
  refine wpAny_bind ?_
  unfold notIterableAtAll
  refine wpAny_bind (wpAny_specialOf hl.typeIs slot_list_iter.lookup (wpAny_pure ?_))
  simp only [Bool.false_eq_true,if_false]
  refine wpAny_bind (wpAny_holding (wpAny_pyIter_list hl ?_))
  refine wpAny_bind (wpAny_holding (take_l ne items.size 0 _ _ ⟨_,Heap.get?_push_size _ rfl,rfl,rfl⟩ (hl.push _) (by omega) fun h1 i1 s1=>?_))
  rw [List.drop_zero,List.take_of_length_le (by simp),if_neg (by simp)]
  refine wpAny_bind (wpAny_holding (wpAny_pyNext_list_end hh i1 ((hl.push _).extBut s1.extBut ne) (by simp) fun h2 e2=>?_))
  simp only [Option.isSome_none,Bool.false_eq_true,if_false]
  exact wpAny_pure (q h2 fun b o hb e=>e2 b o hb (s1.extBut b o hb (Heap.get?_push_of_some _ e)))
theorem to_l {env:Env} {elts:List Expr} {k} {pos:Pos} {l:Addr} {items:Array Value} {Q:Unit→Shared→Prop} (hh:A.handled=none) (hl:s.heap.IsList l items) (hn:(assignEach elts env).length=items.size) (st:(assignEach elts env).findIdx? (·.1)=none)
    (q:∀ h',Heap.ExtBut s.heap.objs.size s.heap h'→wpAny (model P w) A (assignInOrder ((assignEach elts env).map (·.2)) items.toList) Q E { s with heap:=h' }):wpAny (model P w) A (assign (.Tuple elts k pos) env (.ref l)) Q E s:=by
  rw [assign_Tuple]
  refine wpAny_bind (wpAny_standAt ?_)
  unfold unpack
  rw [hn,st]
  exact wpAny_bind (wpAny_holding (items_l hh hl q))
end
end Unp
open PySem PySem.Spec L2
open PyProof.Rows hiding St
def gSeq (K:PySem.W.Frag) (n:Nat) (t:TGs):TG:=fun v σ H Q=>∃ a xs,v=.ref a∧(SqT K H a xs∨SqL K H a xs)∧xs.length=n∧t xs σ H Q
theorem pg_seq {X:Cx} {pos:Pos} {es:List Expr} {k:Nat} {t:TGs} {n:Nat} (hc:X.calm=true) (h:PGs X es t) (hn:(assignEach es X.env).length=n) (hst:(assignEach es X.env).findIdx? (·.1)=none):PG X (.Tuple es k pos) (gSeq X.K n t):=by
  refine ⟨fun pins s σ H v u Q I r hw=>?_⟩
  obtain ⟨a,xs,rfl,hq | hq,hl,hw⟩:=hw
  · exact (pg_tup hc h hn hst).run pins s σ H _ u Q I r ⟨a,xs,rfl,hq,hl,hw⟩
  · cases r
    obtain ⟨its,rv,pl,_⟩:=I.list hq
    refine Unp.to_l (I.ok.hd hc) pl.isList (by simp [hn,← hl,rv.length]) hst fun h' hx=>?_
    have I1:Inv X pins σ H { s with heap:=h' }:=I.kept (t':=s.toks) fun b o e=>hx b o (Nat.ne_of_lt (Heap.lt_size e)) e
    exact h.run pins _ σ H xs _ Q I1 (by simpa using rv) hw
end Rc

namespace Rc
open PySem PySem.Spec L2
open PyProof.Rows hiding St

def W0:WX:=fun _ _ _ _=>False
inductive MG where
  | name (i:Nat)
  | tup (is:List Nat)
structure Wk where
  items:List MV
  watch:List (Nat × MO):=[]
def OkW (wt:List (Nat × MO)) (m:Mem):Prop:=∀ p∈wt,m[p.1]? = some (some p.2)
theorem OkW_nil (m:Mem):OkW [] m:=fun _ h=>by cases h
def wipeS (s:Sl):List Nat→Sl
  | []=>s
  | v :: vs=>(wipeS s vs).set v none
def setAll (s:Sl):List Nat→List MV→Option Sl
  | [],[]=>some s
  | i :: is,x :: xs=>setAll (s.set i (some (.v x))) is xs
  | _,_=>none
def assignG (tg:MG) (x:MV) (s:Sl):Option Sl:=match tg with
  | .name i=>some (s.set i (some (.v x)))
  | .tup is=>(match x with
    | .tup xs=>setAll s is xs
    | .lst xs=>setAll s is xs
    | _=>none)
open Classical in
/-- a comprehension's turns: none: the test said no -/
def compM (f:MV→Mem→R (Option MV)) (wt:List (Nat × MO)):List MV→List MV→Mem→R (List MV)
  | [],acc,m=>if OkW wt m then .ok acc m else .stuck
  | x :: xs,acc,m=>if OkW wt m then (match f x m with
    | .ok (some y) m=>if acc.length < sizeLine then compM f wt xs (acc++[y]) m else .stuck
    | .ok none m=>compM f wt xs acc m
    | _=>.stuck) else .stuck
def compTurnF (own:List Nat) (tg:MG) (ft:Sl→Mem→R Bool) (fe:Sl→Mem→R OV) (s:Sl):MV→Mem→R (Option MV):=fun x m=>match assignG tg x (wipeS s own) with
  | some s2=>(ft s2 m).bind fun k m=>if k=true then (fe s2 m).bind fun y m=>(match valO y with
    | some y=>.ok (some y) m
    | none=>.stuck) else .ok none m
  | none=>.stuck
def rangeM (lo:Int) (n:Nat):List MV:=(List.range n).map fun (i:Nat)=>MV.int (lo + (i:Int))
def zipM (xs ys:List MV):List MV:=List.zipWith (fun x y=>MV.tup [x,y]) xs ys
def enumM (xs:List MV):List MV:=zipM (rangeM 0 xs.length) xs
def signs (z:Str):List MV:=z.cps.toList.map fun c=>MV.str ⟨#[c]⟩
def srcO (m:Mem):OV→Option (Sk × Wk)
  | .v (.lst xs)=>some (.l,⟨xs,[]⟩)
  | .v (.kl xs)=>some (.l,⟨xs,[]⟩)
  | .v (.tup xs)=>some (.t,⟨xs,[]⟩)
  | .v (.ref n)=>(memL m n).map fun xs=>(.l,⟨xs,[(n,.lst xs)]⟩)
  | _=>none

def Fle (g g':G):Prop:=(∀ a o,g.F a=some o→g'.F a=some o)∧∀ n a,g.r n=some a→g'.r n=some a
theorem Fle.refl (g:G):Fle g g:=⟨fun _ _ e=>e,fun _ _ e=>e⟩
theorem Fle.trans {a b c:G} (h:Fle a b) (q:Fle b c):Fle a c:=⟨fun x o e=>q.1 x o (h.1 x o e),fun x o e=>q.2 x o (h.2 x o e)⟩
theorem Stp.fle {g g':G} {H H':Hp} (t:Stp g H g' H'):Fle g g':=⟨t.F,t.r⟩
theorem RV.fle {K:Ki} {g g':G} {x:MV} {v:V} (h:RV K g x v) (t:Fle g g'):RV K g' x v:=RV.mono t.1 t.2 x h
theorem RVs.fle {K:Ki} {g g':G} {x:List MV} {v:List V} (h:RVs K g x v) (t:Fle g g'):RVs K g' x v:=RVs.mono t.1 t.2 x h

def WkM (K:Ki) (J:It) (w:Wk) (g:G):Prop :=
  ∃ (n:Nat) (Gd:Hp→Prop) (Y:Nat→Hp→V→Hp→Prop),Walk J n Gd Y∧n=w.items.length ∧
    (∀ g' m' H',Rs K g' m' H'→Fle g g'→OkW w.watch m'→Gd H') ∧
    ∀ i H1 x H2 g1 m1,i < n→Y i H1 x H2→Rs K g1 m1 H1→Fle g g1→OkW w.watch m1→∃ g2 it,Rs K g2 m1 H2∧Stp g1 H1 g2 H2∧w.items[i]? = some it∧RV K g2 it x
abbrev PostI (K:Ki) (E:XK):G→Hp→R Wk→(It→Hp→Prop)→Prop:=Post K E fun g _ w J=>WkM K J w g
def tI (K:Ki) (W:WX) (f:Sl→Mem→R Wk):TI:=fun σ H Q=>∃ g s m,Rs K g m H∧RSl K g s σ H∧PostI K (WE W σ) g H (f s m) Q
theorem _root_.L2.PI.weaken {X:Cx} {tg e:Expr} {t t':TI} (h:PI X tg e t) (w:∀ σ H Q,t' σ H Q→t σ H Q):PI X tg e t':=⟨fun pins s σ H Q I q=>h.run pins s σ H Q I (w σ H Q q)⟩
theorem _root_.L2.PI.or {X:Cx} {tg e:Expr} {t t':TI} (h:PI X tg e t) (h':PI X tg e t'):PI X tg e (fun σ H R=>t σ H R∨t' σ H R):=⟨fun pins s σ H R I q=>q.elim (h.run pins s σ H R I) (h'.run pins s σ H R I)⟩

section
variable {K:Ki} {g:G} {H:Hp} {m:Mem}
theorem src_ok {x:OV} {v:V} {k:Sk} {w:Wk} (rs:Rs K g m H) (r:RO K g H x v) (e:srcO m x=some (k,w)) :
    ∃ a,v=.ref a∧OkW w.watch m∧∀ g' m' H',Rs K g' m' H'→Fle g g'→OkW w.watch m'→∃ ys,k.sq K H' a ys∧RVs K g' w.items ys:=by
  cases x with
  | b o=>cases e
  | v x =>
    cases x with
    | lst xs =>
      cases e
      obtain ⟨a,ys,rfl,q,r⟩:=r
      exact ⟨a,rfl,OkW_nil _,fun g' m' H' rs' fl _=>⟨ys,.of (rs'.sub _ _ (fl.1 _ _ q)),r.fle fl⟩⟩
    | kl xs =>
      cases e
      obtain ⟨a,ys,rfl,q,r⟩:=r
      exact ⟨a,rfl,OkW_nil _,fun g' m' H' rs' fl _=>⟨ys,SqL.monoF rs'.sub (SqL.monoF fl.1 q),r.fle fl⟩⟩
    | tup xs =>
      cases e
      obtain ⟨a,ys,rfl,q,r⟩:=r
      exact ⟨a,rfl,OkW_nil _,fun g' m' H' rs' fl _=>⟨ys,SqT.monoF rs'.sub (SqT.monoF fl.1 q),r.fle fl⟩⟩
    | ref n =>
      obtain ⟨a,rfl,hn⟩:=r
      obtain ⟨xs,h,e2⟩:=Option.map_eq_some_iff.mp (show (memL m n).map (fun xs=>(Sk.l,(⟨xs,[(n,.lst xs)]⟩:Wk)))=some (k,w) from e)
      cases e2
      refine ⟨a,rfl,fun p hp=>by rw [List.mem_singleton.mp hp];exact memL_eq h,fun g' m' H' rs' fl ok=>?_⟩
      obtain ⟨b,q1,_,ys,q2,q3⟩:=rs'.gr n _ (ok (n,.lst xs) (List.mem_singleton.mpr rfl))
      rw [fl.2 _ _ hn] at q1;cases q1
      exact ⟨ys,.of q2,q3⟩
    | _=>cases e
theorem wk_one {k:Sk} {a:Addr} {w:Wk} {J:It} (hJ:J=match k with
    | .l=>Itl K a
    | .t=>Itt K a) (h:∀ g' m' H',Rs K g' m' H'→Fle g g'→OkW w.watch m'→∃ ys,k.sq K H' a ys∧RVs K g' w.items ys):WkM K J w g:=by
  subst hJ
  refine ⟨w.items.length,fun H=>∃ ys,k.sq K H a ys∧ys.length=w.items.length,fun i H1 x H2=>H2=H1∧∀ zs,k.sq K H1 a zs→zs[i]? = some x,?_,rfl,fun g' m' H' rs fl ok=>?_,fun i H1 x H2 g1 m1 hi hy rs fl ok=>?_⟩
  · cases k with
    | l =>
      refine ⟨fun i H hi ⟨ys,q,l⟩=>⟨ys,ys[i]'(by omega),q,by simp⟩,fun H ⟨ys,q,l⟩=>⟨ys,q,by omega⟩,fun i H x H' _ _ y=>?_⟩
      exact ⟨y.1,y.2⟩
    | t =>
      refine ⟨fun i H hi ⟨ys,q,l⟩=>⟨ys,ys[i]'(by omega),q,by simp⟩,fun H ⟨ys,q,l⟩=>⟨ys,q,by omega⟩,fun i H x H' _ _ y=>?_⟩
      exact ⟨y.1,y.2⟩
  · obtain ⟨ys,q,r⟩:=h g' m' H' rs fl ok
    exact ⟨ys,q,r.length.symm⟩
  · obtain ⟨ys,q,r⟩:=h g1 m1 H1 rs fl ok
    obtain ⟨rfl,e⟩:=hy
    obtain ⟨it,e1,e2⟩:=r.get' (e ys q)
    exact ⟨g1,it,rs,Stp.refl _ _,e1,e2⟩
theorem zipM_get:∀ {xs ys:List MV} {i:Nat} {x y:MV},xs[i]? = some x→ys[i]? = some y→(zipM xs ys)[i]? = some (.tup [x,y])
  | [],_,_,_,_,h,_=>by simp at h
  | _ :: _,[],_,_,_,_,h=>by simp at h
  | a :: xs,b :: ys,0,x,y,h1,h2=>by simp at h1 h2;subst h1;subst h2;rfl
  | a :: xs,b :: ys,i + 1,x,y,h1,h2=>by
    show (zipM xs ys)[i]? = _
    exact zipM_get (by simpa using h1) (by simpa using h2)
theorem rangeM_get {lo:Int} {n i:Nat} (h:i < n):(rangeM lo n)[i]? = some (.int (lo + i)):=by simp [rangeM,h]
theorem pair_ok {g1:G} {m1:Mem} {H1 H2:Hp} {T:Addr} {a b:MV} {u v:V} (rs:Rs K g1 m1 H1) (hT:H1 T=none) (r1:RV K g1 a u) (r2:RV K g1 b v) (e:H2=upd H1 T (.tup [u,v])):∃ g2,Rs K g2 m1 H2∧Stp g1 H1 g2 H2∧RV K g2 (.tup [a,b]) (.ref T):=by
  subst e
  obtain ⟨rs2,st2⟩:=rs.freeze (o:=.tup [u,v]) hT
  exact ⟨_,rs2,st2,T,[u,v],rfl,.of upd_same,u,[v],rfl,r1.st st2,v,[],rfl,r2.st st2,rfl⟩
theorem wk_zip {k l:Sk} {a b:Addr} {w z:Wk} (h:∀ g' m' H',Rs K g' m' H'→Fle g g'→OkW w.watch m'→∃ ys,k.sq K H' a ys∧RVs K g' w.items ys)
    (h2:∀ g' m' H',Rs K g' m' H'→Fle g g'→OkW z.watch m'→∃ ys,l.sq K H' b ys∧RVs K g' z.items ys):WkM K (ItK K k l a b) ⟨zipM w.items z.items,w.watch++z.watch⟩ g:=by
  have ok1:∀ {m:Mem},OkW (w.watch++z.watch) m→OkW w.watch m:=fun o p hp=>o p (List.mem_append_left _ hp)
  have ok2:∀ {m:Mem},OkW (w.watch++z.watch) m→OkW z.watch m:=fun o p hp=>o p (List.mem_append_right _ hp)
  refine ⟨min w.items.length z.items.length,fun H=>∃ xs ys,k.sq K H a xs∧l.sq K H b ys∧xs.length=w.items.length∧ys.length=z.items.length,(ItK K k l a b).yld,?_,by simp [zipM],fun g' m' H' rs fl ok=>?_,fun i H1 x H2 g1 m1 hi hy rs fl ok=>?_⟩
  · exact ⟨fun i H hi ⟨xs,ys,q1,q2,l1,l2⟩=>⟨xs,ys,xs[i]'(by omega),ys[i]'(by omega),q1,q2,by simp,by simp⟩,fun H ⟨xs,ys,q1,q2,l1,l2⟩=>⟨xs,ys,q1,q2,by omega⟩,fun i H x H' _ _ y=>y⟩
  · obtain ⟨ys,q,r⟩:=h g' m' H' rs fl (ok1 ok)
    obtain ⟨zs,q2,r2⟩:=h2 g' m' H' rs fl (ok2 ok)
    exact ⟨ys,zs,q,q2,r.length.symm,r2.length.symm⟩
  · obtain ⟨ys,q,r⟩:=h g1 m1 H1 rs fl (ok1 ok)
    obtain ⟨zs,q2,r2⟩:=h2 g1 m1 H1 rs fl (ok2 ok)
    obtain ⟨T,u,v,rfl,hT,e,f1,f2⟩:=hy
    obtain ⟨i1,e1,e2⟩:=r.get' (f1 ys q)
    obtain ⟨i2,e3,e4⟩:=r2.get' (f2 zs q2)
    obtain ⟨g2,rs2,st2,rv⟩:=pair_ok rs hT e2 e4 e
    exact ⟨g2,_,rs2,st2,zipM_get e1 e3,rv⟩
theorem wk_enum {k:Sk} {a:Addr} {w:Wk} (h:∀ g' m' H',Rs K g' m' H'→Fle g g'→OkW w.watch m'→∃ ys,k.sq K H' a ys∧RVs K g' w.items ys):WkM K (IeK K k a) ⟨enumM w.items,w.watch⟩ g:=by
  refine ⟨w.items.length,fun H=>∃ xs,k.sq K H a xs∧xs.length=w.items.length,(IeK K k a).yld,?_,by simp [enumM,zipM,rangeM],fun g' m' H' rs fl ok=>?_,fun i H1 x H2 g1 m1 hi hy rs fl ok=>?_⟩
  · exact ⟨fun i H hi ⟨xs,q1,l1⟩=>⟨xs,xs[i]'(by omega),q1,by simp⟩,fun H ⟨xs,q1,l1⟩=>⟨xs,q1,by omega⟩,fun i H x H' _ _ y=>y⟩
  · obtain ⟨ys,q,r⟩:=h g' m' H' rs fl ok
    exact ⟨ys,q,r.length.symm⟩
  · obtain ⟨ys,q,r⟩:=h g1 m1 H1 rs fl ok
    obtain ⟨T,v,rfl,hT,e,f2⟩:=hy
    obtain ⟨i2,e3,e4⟩:=r.get' (f2 ys q)
    obtain ⟨g2,rs2,st2,rv⟩:=pair_ok (a:=.int (0 + (i:Int))) rs hT (by simp [RV]) e4 e
    exact ⟨g2,_,rs2,st2,zipM_get (rangeM_get hi) e3,rv⟩
theorem wk_range {lo:Int} {n:Nat}:WkM K (Itr lo n) ⟨rangeM lo n,[]⟩ g:=by
  refine ⟨n,_,_,walk_range,by simp [rangeM],fun _ _ _ _ _ _=>trivial,fun i H1 x H2 g1 m1 hi hy rs fl _=>?_⟩
  obtain ⟨rfl,rfl⟩:=hy
  exact ⟨g1,.int (lo + i),rs,Stp.refl _ _,rangeM_get hi,rfl⟩
theorem wk_str {z:Str}:WkM K (Its z) ⟨signs z,[]⟩ g:=by
  refine ⟨_,_,_,walk_str,by simp [signs],fun _ _ _ _ _ _=>trivial,fun i H1 x H2 g1 m1 hi hy rs fl _=>?_⟩
  obtain ⟨rfl,c,e1,rfl⟩:=hy
  exact ⟨g1,.str ⟨#[c]⟩,rs,Stp.refl _ _,by simp [signs,e1],rfl⟩
end

structure PrimI where
  need:List Need:=[]
  parts:Cfg→Expr→Expr→Option (List Expr)
  F:List OV→Mem→R Wk
  ok:∀ {k:Nat} {W:WX} {c:Cfg} {X:Cx} {t e:Expr} {es:List Expr} {fs:Sl→Mem→R (List OV)},CtxOk k W c X→(∀ n∈need,n.at X k)→parts c t e=some es→Parts X W es fs→PI X t e (tI X.ki W fun s m=>(fs s m).bind F)

def gNames:List Nat→TGs
  | []=>gNil
  | i :: is=>gCons (gName i) (gNames is)
def gM (K:Ki):MG→TG
  | .name i=>gName i
  | .tup is=>gSeq K is.length (gNames is)
def MG.slots:MG→List Nat
  | .name i=>[i]
  | .tup is=>is
def setV (σ:St):List Nat→List V→St
  | i :: is,v :: vs=>setV (σ.set i (some v)) is vs
  | _,_=>σ
section
variable {K:Ki} {g:G} {H:Hp} {m:Mem} {s s2:Sl} {σ:St}
theorem RSl.set {i:Nat} {x:MV} {v:V} (h:RSl K g s σ H) (r:RV K g x v):RSl K g (s.set i (some (.v x))) (σ.set i (some v)) H:=by
  have hl:=h.len
  refine ⟨fun j y e=>?_,fun j o e=>?_,fun j k o u a e1 e2 e3 e4=>?_,by simp [hl]⟩
  · by_cases q:i=j
    · subst q
      by_cases hi:i < s.length
      · rw [List.getElem?_set_self hi] at e;cases e
        exact ⟨v,by rw [List.getElem?_set_self (by omega)],r⟩
      · rw [List.getElem?_eq_none (by simpa using hi)] at e;cases e
    · rw [List.getElem?_set_ne q] at e
      obtain ⟨w,e1,e2⟩:=h.val j y e
      exact ⟨w,by rw [List.getElem?_set_ne q];exact e1,e2⟩
  · by_cases q:i=j
    · subst q
      by_cases hi:i < s.length
      · rw [List.getElem?_set_self hi] at e;cases e
      · rw [List.getElem?_eq_none (by simpa using hi)] at e;cases e
    · rw [List.getElem?_set_ne q] at e
      obtain ⟨w,e1,e2⟩:=h.own j o e
      exact ⟨w,by rw [List.getElem?_set_ne q];exact e1,e2⟩
  · have n1:i≠j:=fun q=>by
      subst q
      by_cases hi:i < s.length
      · rw [List.getElem?_set_self hi] at e1;cases e1
      · rw [List.getElem?_eq_none (by simpa using hi)] at e1;cases e1
    have n2:i≠k:=fun q=>by
      subst q
      by_cases hi:i < s.length
      · rw [List.getElem?_set_self hi] at e2;cases e2
      · rw [List.getElem?_eq_none (by simpa using hi)] at e2;cases e2
    rw [List.getElem?_set_ne n1] at e1 e3
    rw [List.getElem?_set_ne n2] at e2 e4
    exact h.dis j k o u a e1 e2 e3 e4
theorem RSl.unset {i:Nat} {w:Option V} (h:RSl K g s σ H):RSl K g (s.set i none) (σ.set i w) H:=by
  have hl:=h.len
  have ne:∀ {j:Nat} {y:SV},(s.set i none)[j]? = some (some y)→i≠j:=fun {j y} e q=>by
    subst q
    by_cases hi:i < s.length
    · rw [List.getElem?_set_self hi] at e;cases e
    · rw [List.getElem?_eq_none (by simpa using hi)] at e;cases e
  refine ⟨fun j y e=>?_,fun j o e=>?_,fun j k o u a e1 e2 e3 e4=>?_,by simp [hl]⟩
  · have q:=ne e
    rw [List.getElem?_set_ne q] at e
    obtain ⟨w,e1,e2⟩:=h.val j y e
    exact ⟨w,by rw [List.getElem?_set_ne q];exact e1,e2⟩
  · have q:=ne e
    rw [List.getElem?_set_ne q] at e
    obtain ⟨w,e1,e2⟩:=h.own j o e
    exact ⟨w,by rw [List.getElem?_set_ne q];exact e1,e2⟩
  · have n1:=ne e1
    have n2:=ne e2
    rw [List.getElem?_set_ne n1] at e1 e3
    rw [List.getElem?_set_ne n2] at e2 e4
    exact h.dis j k o u a e1 e2 e3 e4
theorem RSl.wipe (h:RSl K g s σ H):∀ vs:List Nat,RSl K g (wipeS s vs) (wipe σ vs) H
  | []=>h
  | v :: vs=>RSl.unset (RSl.wipe h vs)
def VSet (I:Sl→St→Prop):Prop:=∀ s σ i x v,I s σ→I (s.set i (some (.v x))) (σ.set i (some v))
theorem names_ok {I:Sl→St→Prop} (hI:VSet I):∀ {is:List Nat} {xs:List MV} {vs:List V} {s s2:Sl} {σ:St} {Q:St→Hp→Prop},setAll s is xs=some s2→RVs K g xs vs→RSl K g s σ H→I s σ→(RSl K g s2 (setV σ is vs) H→I s2 (setV σ is vs)→Q (setV σ is vs) H)→gNames is vs σ H Q
  | [],[],_,s,s2,σ,Q,e,r,rl,i0,q=>by cases e;cases (show _=[] from r);exact ⟨rfl,q rl i0⟩
  | i :: is,x :: xs,_,s,s2,σ,Q,e,⟨v,r,e1,h,t⟩,rl,i0,q=>by
    subst e1
    exact ⟨v,r,rfl,names_ok hI (show setAll (s.set i (some (.v x))) is xs=some s2 from e) t (rl.set h) (hI _ _ _ _ _ i0) q⟩
  | [],_ :: _,_,_,_,_,_,e,_,_,_,_=>by cases e
  | _ :: _,[],_,_,_,_,_,e,_,_,_,_=>by cases e
theorem setAll_len:∀ {is:List Nat} {xs:List MV} {s s2:Sl},setAll s is xs=some s2→is.length=xs.length
  | [],[],_,_,_=>rfl
  | _ :: is,_ :: xs,s,s2,e=>by
    have:=setAll_len (show setAll (s.set _ _) is xs=some s2 from e)
    simp [this]
  | [],_ :: _,_,_,e=>by cases e
  | _ :: _,[],_,_,e=>by cases e
theorem gM_ok {I:Sl→St→Prop} (hI:VSet I) {tg:MG} {x:MV} {v:V} {Q:St→Hp→Prop} (rs:Rs K g m H) (e:assignG tg x s=some s2) (r:RV K g x v) (rl:RSl K g s σ H) (i0:I s σ)
    (q:∀ vs,RSl K g s2 (setV σ tg.slots vs) H→I s2 (setV σ tg.slots vs)→Q (setV σ tg.slots vs) H):gM K tg v σ H Q:=by
  cases tg with
  | name i =>
    cases e
    exact q [v] (rl.set r) (hI _ _ _ _ _ i0)
  | tup is =>
    unfold assignG at e
    dsimp only at e
    split at e
    · obtain ⟨a,ys,rfl,h,t⟩:=r
      exact ⟨a,ys,rfl,.inl (SqT.monoF rs.sub h),by rw [setAll_len e,t.length],names_ok hI e t rl i0 (q ys)⟩
    · obtain ⟨a,ys,rfl,h,t⟩:=r
      exact ⟨a,ys,rfl,.inr (.of (rs.sub _ _ h)),by rw [setAll_len e,t.length],names_ok hI e t rl i0 (q ys)⟩
    · cases e
theorem set_wipe {i:Nat} {w:Option V}:∀ {vs:List Nat} {σ:St},i∈vs→wipe (σ.set i w) vs=wipe σ vs
  | v :: vs,σ,h=>by
    by_cases hm:i∈vs
    · show (wipe (σ.set i w) vs).set v none=(wipe σ vs).set v none
      rw [set_wipe hm]
    · have e:i=v:=by
        rcases List.mem_cons.mp h with q | q
        · exact q
        · exact absurd q hm
      subst e
      show (wipe (σ.set i w) vs).set i none=(wipe σ vs).set i none
      have:∀ (vs:List Nat) (σ:St),i∉vs→wipe (σ.set i w) vs=(wipe σ vs).set i w:=by
        intro vs
        induction vs with
        | nil=>intro σ _;rfl
        | cons u us ih =>
          intro σ hn
          have n1:i≠u:=fun q=>hn (by rw [q];exact List.mem_cons_self)
          show (wipe (σ.set i w) us).set u none=((wipe σ us).set u none).set i w
          rw [ih σ fun q=>hn (List.mem_cons_of_mem _ q),List.set_comm _ _ n1]
      rw [this vs σ hm,List.set_set]
theorem setV_wipe:∀ {is:List Nat} {ws:List V} {vs:List Nat} {σ:St},(∀ i∈is,i∈vs)→wipe (setV σ is ws) vs=wipe σ vs
  | [],_,_,_,_=>rfl
  | i :: is,[],_,_,_=>rfl
  | i :: is,w :: ws,vs,σ,h=>by
    show wipe (setV (σ.set i (some w)) is ws) vs=_
    rw [setV_wipe fun j hj=>h j (List.mem_cons_of_mem _ hj),set_wipe (h i List.mem_cons_self)]
theorem wipe_idem {vs:List Nat} {σ:St}:wipe (wipe σ vs) vs=wipe σ vs:=by
  have h:∀ (us:List Nat) (σ:St),(∀ i∈us,i∈vs)→wipe (wipe σ us) vs=wipe σ vs:=by
    intro us
    induction us with
    | nil=>intro σ _;rfl
    | cons u us ih =>
      intro σ hu
      show wipe ((wipe σ us).set u none) vs=_
      rw [set_wipe (hu u List.mem_cons_self),ih σ fun j hj=>hu j (List.mem_cons_of_mem _ hj)]
  exact h vs σ fun _ h=>h
end

section
variable {K:Ki} {σ:St} {H:Hp} {Q:VK}
open Classical in
theorem compM_cons {f:MV→Mem→R (Option MV)} {wt:List (Nat × MO)} {x:MV} {xs acc:List MV} {m:Mem}:compM f wt (x :: xs) acc m=if OkW wt m then (match f x m with
    | .ok (some y) m=>if acc.length < sizeLine then compM f wt xs (acc++[y]) m else .stuck
    | .ok none m=>compM f wt xs acc m
    | _=>.stuck) else .stuck:=rfl
theorem compM_ok {f:MV→Mem→R (Option MV)} {wt:List (Nat × MO)} {xs acc:List MV} {m:Mem} (h:compM f wt xs acc m≠.stuck):OkW wt m:=by
  cases xs with
  | nil =>
    unfold compM at h
    split at h
    · assumption
    · exact absurd rfl h
  | cons x xs =>
    rw [compM_cons] at h
    split at h
    · assumption
    · exact absurd rfl h
theorem tF_comp {own:List Nat} {tg:MG} {fi:Sl→Mem→R Wk} {ft:Sl→Mem→R Bool} {fe:Sl→Mem→R OV} (hs:∀ i∈tg.slots,i∈own)
    (h:tF K W (fun s m=>(fi s m).bind fun w m=>(compM (compTurnF own tg ft fe s) w.watch w.items [] m).bind fun ys m=>.ok (.lst ys) m) σ H Q):tLc (tI K W fi) (gM K tg) (tT K W0 ft) (tE K W0 fe) own σ H Q:=by
  obtain ⟨g,s,m,rs,rl,p⟩:=h
  refine ⟨g,s,m,rs,rl,(PostF.bind p).imp fun J H1 ⟨items,g1,m1,rs1,st1,wk,p1⟩ D hD=>?_⟩
  obtain ⟨n,Gd,Y,w,hn,hG,hY⟩:=wk
  have rl1:=rl.st st1
  obtain ⟨hDF,hDr⟩:=rs1.free hD
  obtain ⟨rs2,st2⟩:=rs1.grow (o:=.lst []) hD
  refine lc_it w (Pv:=fun i H2=>∃ g2 m2 acc ys,Rs K g2 m2 H2∧Stp g1 H1 g2 H2∧H2 D=some (.lst ys)∧RVs K g2 acc ys∧g2.F D=none∧(∀ k,g2.r k≠some D)∧PostF K (WE W σ) g1 H1 ((compM (compTurnF own tg ft fe s) items.watch (items.items.drop i) acc m2).bind fun ys m=>.ok (.lst ys) m) Q)
    ⟨g1,m1,[],[],rs2,st2,upd_same,rfl,hDF,hDr,by simpa using p1⟩ (fun i H2 _ ⟨g2,m2,acc,ys,r2,t2,_,_,_,_,pq⟩=>hG g2 m2 H2 r2 t2.fle (compM_ok fun z=>by rw [z] at pq;exact pq)) ?_ ?_
  · rintro i x H2 H3 hi ⟨g2,m2,acc,ys,r2,t2,hDl,ra,hF2,hr2,pq⟩ hy
    have okw:=compM_ok (fun z=>by rw [z] at pq;exact pq:compM (compTurnF own tg ft fe s) items.watch (items.items.drop i) acc m2≠.stuck)
    obtain ⟨g3,it,r3,t3,e3,rx⟩:=hY i H2 x H3 g2 m2 hi hy r2 t2.fle okw
    have t13:=t2.trans t3
    have hitem:items.items.drop i=it :: items.items.drop (i + 1):=by
      obtain ⟨hlt,e4⟩:=List.getElem?_eq_some_iff.mp e3
      rw [List.drop_eq_getElem_cons hlt,e4]
    rw [hitem] at pq
    have ob3:=own_st (o:=.lst acc) ⟨ys,hDl,ra⟩ hF2 hr2 t3
    rw [compM_cons,if_pos okw] at pq
    cases ea:assignG tg it (wipeS s own) with
    | none =>
      have ec:compTurnF own tg ft fe s it m2=.stuck:=by unfold compTurnF;rw [ea]
      rw [ec] at pq;exact pq.elim
    | some s2 =>
      have ec:compTurnF own tg ft fe s it m2=(ft s2 m2).bind fun k m=>if k=true then (fe s2 m).bind fun y m=>(match valO y with
        | some y=>.ok (some y) m
        | none=>.stuck) else .ok none m:=by
        show (match assignG tg it (wipeS s own) with
          | some s2=>(ft s2 m2).bind fun k m=>if k=true then (fe s2 m).bind fun y m=>(match valO y with
            | some y=>.ok (some y) m
            | none=>.stuck) else .ok none m
          | none=>.stuck)=_
        rw [ea]
      have rl3:=((rl1.st t13).wipe own)
      refine gM_ok (I:=fun _ _=>True) (fun _ _ _ _ _ _=>trivial) r3 ea rx rl3 trivial fun vs rl4 _=>⟨by rw [setV_wipe hs,wipe_idem],g3,s2,m2,r3,rl4,?_⟩
      -- the test
      cases et:ft s2 m2 with
      | stuck=>rw [ec,et] at pq;exact pq.elim
      | exc c ks xs m'=>rw [ec,et] at pq;exact pq.elim
      | ok k m4 =>
        rw [ec,et] at pq
        intro g4 b H4 r4 t4 eb
        subst eb
        have ob4:=own_st ob3.1 ob3.2.1 ob3.2.2 t4
        cases k with
        | false =>
          obtain ⟨⟨zs,hz,rz⟩,h6,h7⟩:=ob4
          exact iteF ⟨g4,m4,acc,zs,r4,t13.trans t4,hz,rz,h6,h7,pq⟩
        | true =>
          refine iteT ⟨g4,s2,m4,r4,rl4.st t4,?_⟩
          have ed:((R.ok true m4:R Bool).bind fun k m=>if k=true then (fe s2 m).bind fun y m=>(match valO y with
            | some y=>.ok (some y) m
            | none=>.stuck) else .ok none m)=(fe s2 m4).bind fun y m=>(match valO y with
            | some y=>.ok (some y) m
            | none=>.stuck):=rfl
          rw [ed] at pq
          cases ee:fe s2 m4 with
          | stuck=>rw [ee] at pq;exact pq.elim
          | exc c ks xs m'=>rw [ee] at pq;exact pq.elim
          | ok y m5 =>
            rw [ee] at pq
            intro g5 yv H5 r5 t5 ry
            obtain ⟨⟨zs,hz,rz⟩,h6,h7⟩:=own_st ob4.1 ob4.2.1 ob4.2.2 t5
            cases y with
            | b o=>exact pq.elim
            | v y =>
              have pq:PostF K (WE W σ) g1 H1 ((if acc.length < sizeLine then compM (compTurnF own tg ft fe s) items.watch (items.items.drop (i + 1)) (acc++[y]) m5 else .stuck).bind fun ys m=>.ok (.lst ys) m) Q:=pq
              by_cases hl:acc.length < sizeLine
              · rw [if_pos hl] at pq
                refine ⟨zs,hz,by rw [← rz.length];exact hl,g5,m5,acc++[y],zs++[yv],r5.own h6 h7 hz (fun ps z=>by cases z),((t13.trans t4).trans t5).own hD,upd_same,rz.append (.one ry),h6,h7,pq⟩
              · rw [if_neg hl] at pq;exact pq.elim
  · rintro H2 ⟨g2,m2,acc,ys,r2,t2,hDl,ra,hF2,hr2,pq⟩
    have okw:=compM_ok (fun z=>by rw [z] at pq;exact pq:compM (compTurnF own tg ft fe s) items.watch (items.items.drop n) acc m2≠.stuck)
    rw [hn,List.drop_length] at pq
    have e:compM (compTurnF own tg ft fe s) items.watch [] acc m2=.ok acc m2:=by unfold compM;rw [if_pos okw]
    rw [e] at pq
    exact pq g2 D H2 r2 t2 hD hF2 hr2 ⟨ys,hDl,ra⟩
end
end Rc

namespace Rc
open PySem PySem.Spec L2
open PyProof.Rows hiding St

def dHas (ks:List MV) (k:MV):Bool:=ks.any fun j=>eqB j k
def dPutK (ks:List MV) (k:MV):List MV:=if dHas ks k=true then ks else ks++[k]
def dPutV (ks xs:List MV) (k v:MV):List MV:=if dHas ks k=true then List.zipWith (fun j x=>if eqB j k=true then v else x) ks xs else xs++[v]
section
variable {K:Ki} {g:G}
theorem dHas_ok {k:MV} {l:Key} (hk:keyM k=some l):∀ {ks:List MV} {kv:List (Key × V)},RVs K g ks (kv.map fun p=>kV p.1)→dHas ks k=kv.any fun p=>decide (p.1=l)
  | [],kv,r=>by
    cases kv with
    | nil=>rfl
    | cons p kv=>cases (show _=[] from r)
  | j :: ks,kv,r=>by
    cases kv with
    | nil=>obtain ⟨_,_,e,_⟩:=r;cases e
    | cons p kv =>
      obtain ⟨v,t,e,h1,t1⟩:=r
      cases e
      show (eqB j k || dHas ks k)=(decide (p.1=l) || kv.any fun p=>decide (p.1=l))
      rw [keyEq h1 hk,dHas_ok hk t1]
theorem dPut_ok {k x:MV} {l:Key} {v:V} (hk:keyM k=some l) (rk:RV K g k (kV l)) (rx:RV K g x v) {ks xs:List MV} {kv:List (Key × V)} (r1:RVs K g ks (kv.map fun p=>kV p.1)) (r2:RVs K g xs (kv.map fun p=>p.2)) :
    RVs K g (dPutK ks k) ((putK kv l v).map fun p=>kV p.1)∧RVs K g (dPutV ks xs k x) ((putK kv l v).map fun p=>p.2):=by
  unfold dPutK dPutV putK
  rw [dHas_ok hk r1]
  by_cases h:(kv.any fun p=>decide (p.1=l))=true
  · rw [if_pos h,if_pos h,if_pos h]
    constructor
    · have e:(kv.map fun p=>if p.1=l then (p.1,v) else p).map (fun p=>kV p.1)=kv.map fun p=>kV p.1:=by
        rw [List.map_map]
        apply List.map_congr_left
        intro p _
        show kV (if p.1=l then (p.1,v) else p).1=_
        split <;> rfl
      rw [e];exact r1
    · clear h
      induction kv generalizing ks xs with
      | nil =>
        have e1:=r1.length
        have e2:=r2.length
        cases ks with
        | nil=>exact rfl
        | cons a b=>cases e1
      | cons p kv ih =>
        cases ks with
        | nil=>cases (show _=[] from r1)
        | cons j ks =>
          cases xs with
          | nil=>cases (show _=[] from r2)
          | cons y xs =>
            obtain ⟨v1,t1,e1,h1,q1⟩:=r1
            obtain ⟨v2,t2,e2,h2,q2⟩:=r2
            cases e1;cases e2
            refine ⟨_,_,rfl,?_,ih q1 q2⟩
            show RV K g (if eqB j k=true then x else y) (if p.1=l then (p.1,v) else p).2
            rw [keyEq h1 hk]
            by_cases z:p.1=l
            · simp only [z,decide_true,if_true];exact rx
            · simp only [z,decide_false,if_false,Bool.false_eq_true];exact h2
  · rw [if_neg h,if_neg h,if_neg h,List.map_append,List.map_append]
    exact ⟨r1.append (.one rk),r2.append (.one rx)⟩
end
open Classical in
def dcompM (f:MV→Mem→R (Option (MV × MV))) (wt:List (Nat × MO)):List MV→List MV→List MV→Mem→R (List MV × List MV)
  | [],ks,vs,m=>if OkW wt m then .ok (ks,vs) m else .stuck
  | x :: xs,ks,vs,m=>if OkW wt m then (match f x m with
    | .ok (some (k,v)) m=>if (keyM k).isSome=true∧ks.length < sizeLine then dcompM f wt xs (dPutK ks k) (dPutV ks vs k v) m else .stuck
    | .ok none m=>dcompM f wt xs ks vs m
    | _=>.stuck) else .stuck
open Classical in
theorem dcompM_cons {f:MV→Mem→R (Option (MV × MV))} {wt:List (Nat × MO)} {x:MV} {xs ks vs:List MV} {m:Mem}:dcompM f wt (x :: xs) ks vs m=if OkW wt m then (match f x m with
    | .ok (some (k,v)) m=>if (keyM k).isSome=true∧ks.length < sizeLine then dcompM f wt xs (dPutK ks k) (dPutV ks vs k v) m else .stuck
    | .ok none m=>dcompM f wt xs ks vs m
    | _=>.stuck) else .stuck:=rfl
theorem dcompM_ok {f:MV→Mem→R (Option (MV × MV))} {wt:List (Nat × MO)} {xs ks vs:List MV} {m:Mem} (h:dcompM f wt xs ks vs m≠.stuck):OkW wt m:=by
  cases xs with
  | nil =>
    unfold dcompM at h
    split at h
    · assumption
    · exact absurd rfl h
  | cons x xs =>
    rw [dcompM_cons] at h
    split at h
    · assumption
    · exact absurd rfl h
def dcompTurnF (own:List Nat) (tg:MG) (ft:Sl→Mem→R Bool) (fk fv:Sl→Mem→R OV) (s:Sl):MV→Mem→R (Option (MV × MV)):=fun x m=>match assignG tg x (wipeS s own) with
  | some s2=>(ft s2 m).bind fun k m=>if k=true then (fk s2 m).bind fun y m=>(fv s2 m).bind fun z m=>(match valO y,valO z with
    | some y,some z=>.ok (some (y,z)) m
    | _,_=>.stuck) else .ok none m
  | none=>.stuck
section
variable {X:Cx} {K:PySem.W.Frag} {J:It} {n:Nat} {G:Hp→Prop} {Y:Nat→Hp→V→Hp→Prop}
theorem dc_it (w:Walk J n G Y) {g:TG} {tt:TT} {tk tv:TE} {vs:List Nat} {σ:St} {H1:Hp} {D:Addr} {Qd:Hp→Prop} (Pv:Nat→Hp→Prop) (h0:Pv 0 (upd H1 D (.dK []))) (hG:∀ i H,i≤n→Pv i H→G H)
    (hs:∀ i x H H',i < n→Pv i H→Y i H x H'→g x (wipe σ vs) H' fun σ2 H2=>wipe σ2 vs=wipe σ vs∧tt σ2 H2 fun b H3 =>
      if b=true then tk σ2 H3 fun y H4=>tv σ2 H4 fun z H5=>∃ kvs k,y=kV k∧H5 D=some (.dK kvs)∧kvs.length < sizeLine∧Pv (i + 1) (upd H5 D (.dK (putK kvs k z))) else Pv (i + 1) H3) (hd:∀ H,Pv n H→Qd H) :
    ∃ W:Nat→Nat→Hp→Prop,(∃ m,W 0 m (upd H1 D (.dK [])))∧∀ i m H,W i m H →
      (J.stop i H∧Qd H)∨(J.go i H∧∃ Nx:Hp→Prop,(∀ H',Nx H'→∃ m',m' < m∧W (i + 1) m' H')∧∀ x H',J.yld i H x H'→g x (wipe σ vs) H' fun σ2 H2=>wipe σ2 vs=wipe σ vs∧tt σ2 H2 fun b H3 =>
        if b=true then tk σ2 H3 fun y H4=>tv σ2 H4 fun z H5=>∃ kvs k,y=kV k∧H5 D=some (.dK kvs)∧kvs.length < sizeLine∧Nx (upd H5 D (.dK (putK kvs k z))) else Nx H3):=by
  refine ⟨fun i m H=>m=n - i∧i≤n∧Pv i H,⟨n,by simp,Nat.zero_le _,h0⟩,?_⟩
  rintro i m H ⟨rfl,hi,p⟩
  have q:=hG i H hi p
  by_cases hlt:i < n
  · refine .inr ⟨w.goes i H hlt q,Pv (i + 1),fun H' p'=>⟨n - (i + 1),by omega,rfl,hlt,p'⟩,fun x H' y=>hs i x H H' hlt p (w.yields i H x H' hlt q y)⟩
  · have e:i=n:=by omega
    subst e
    exact .inl ⟨w.stops H q,hd H p⟩
end
section
variable {K:Ki} {σ:St} {H:Hp} {Q:VK} {W:WX}
theorem tF_dcomp {own:List Nat} {tg:MG} {fi:Sl→Mem→R Wk} {ft:Sl→Mem→R Bool} {fk fv:Sl→Mem→R OV} (hs:∀ i∈tg.slots,i∈own)
    (h:tF K W (fun s m=>(fi s m).bind fun w m=>(dcompM (dcompTurnF own tg ft fk fv s) w.watch w.items [] [] m).bind fun p m=>.ok (.dic p.1 p.2) m) σ H Q):tDc (tI K W fi) (gM K tg) (tT K W0 ft) (tE K W0 fk) (tE K W0 fv) own σ H Q:=by
  obtain ⟨g,s,m,rs,rl,p⟩:=h
  refine ⟨g,s,m,rs,rl,(PostF.bind p).imp fun J H1 ⟨items,g1,m1,rs1,st1,wk,p1⟩ D hD=>?_⟩
  obtain ⟨n,Gd,Y,w,hn,hG,hY⟩:=wk
  have rl1:=rl.st st1
  obtain ⟨hDF,hDr⟩:=rs1.free hD
  obtain ⟨rs2,st2⟩:=rs1.grow (o:=.dK []) hD
  refine dc_it w (Pv:=fun i H2=>∃ g2 m2 ks vs kv,Rs K g2 m2 H2∧Stp g1 H1 g2 H2∧H2 D=some (.dK kv)∧RVs K g2 ks (kv.map fun p=>kV p.1)∧RVs K g2 vs (kv.map fun p=>p.2)∧g2.F D=none∧(∀ k,g2.r k≠some D)∧PostF K (WE W σ) g1 H1 ((dcompM (dcompTurnF own tg ft fk fv s) items.watch (items.items.drop i) ks vs m2).bind fun p m=>.ok (.dic p.1 p.2) m) Q)
    ⟨g1,m1,[],[],[],rs2,st2,upd_same,rfl,rfl,hDF,hDr,by simpa using p1⟩ (fun i H2 _ ⟨g2,m2,ks,vs,kv,r2,t2,_,_,_,_,_,pq⟩=>hG g2 m2 H2 r2 t2.fle (dcompM_ok fun z=>by rw [z] at pq;exact pq)) ?_ ?_
  · rintro i x H2 H3 hi ⟨g2,m2,ks,vs,kv,r2,t2,hDl,rk,rv,hF2,hr2,pq⟩ hy
    have okw:=dcompM_ok (fun z=>by rw [z] at pq;exact pq:dcompM (dcompTurnF own tg ft fk fv s) items.watch (items.items.drop i) ks vs m2≠.stuck)
    obtain ⟨g3,it,r3,t3,e3,rx⟩:=hY i H2 x H3 g2 m2 hi hy r2 t2.fle okw
    have t13:=t2.trans t3
    have hitem:items.items.drop i=it :: items.items.drop (i + 1):=by
      obtain ⟨hlt,e4⟩:=List.getElem?_eq_some_iff.mp e3
      rw [List.drop_eq_getElem_cons hlt,e4]
    rw [hitem] at pq
    have obD:ObjR K g2 (.dic ks vs) H2 D:=⟨.dK kv,kv.map fun p=>(kV p.1,p.2),hDl,⟨kv,rfl,rfl⟩,by rw [List.map_map];exact rk,by rw [List.map_map];exact rv⟩
    have unD:∀ {g:G} {H:Hp},ObjR K g (.dic ks vs) H D→∃ kv,H D=some (.dK kv)∧RVs K g ks (kv.map fun p=>kV p.1)∧RVs K g vs (kv.map fun p=>p.2):=by
      rintro g H ⟨u,kvs,h1,⟨kv,rfl,rfl⟩,h3,h4⟩
      rw [List.map_map] at h3 h4
      exact ⟨kv,h1,h3,h4⟩
    have ob3:=own_st obD hF2 hr2 t3
    rw [dcompM_cons,if_pos okw] at pq
    cases ea:assignG tg it (wipeS s own) with
    | none =>
      have ec:dcompTurnF own tg ft fk fv s it m2=.stuck:=by unfold dcompTurnF;rw [ea]
      rw [ec] at pq;exact pq.elim
    | some s2 =>
      have ec:dcompTurnF own tg ft fk fv s it m2=(ft s2 m2).bind fun k m=>if k=true then (fk s2 m).bind fun y m=>(fv s2 m).bind fun z m=>(match valO y,valO z with
        | some y,some z=>.ok (some (y,z)) m
        | _,_=>.stuck) else .ok none m:=by
        show (match assignG tg it (wipeS s own) with
          | some s2=>(ft s2 m2).bind fun k m=>if k=true then (fk s2 m).bind fun y m=>(fv s2 m).bind fun z m=>(match valO y,valO z with
            | some y,some z=>.ok (some (y,z)) m
            | _,_=>.stuck) else .ok none m
          | none=>.stuck)=_
        rw [ea]
      have rl3:=((rl1.st t13).wipe own)
      refine gM_ok (I:=fun _ _=>True) (fun _ _ _ _ _ _=>trivial) r3 ea rx rl3 trivial fun ws rl4 _=>⟨by rw [setV_wipe hs,wipe_idem],g3,s2,m2,r3,rl4,?_⟩
      cases et:ft s2 m2 with
      | stuck=>rw [ec,et] at pq;exact pq.elim
      | exc c ks xs m'=>rw [ec,et] at pq;exact pq.elim
      | ok k m4 =>
        rw [ec,et] at pq
        intro g4 b H4 r4 t4 eb
        subst eb
        have ob4:=own_st ob3.1 ob3.2.1 ob3.2.2 t4
        cases k with
        | false =>
          obtain ⟨kv4,hz,rk4,rv4⟩:=unD ob4.1
          exact iteF ⟨g4,m4,ks,vs,kv4,r4,t13.trans t4,hz,rk4,rv4,ob4.2.1,ob4.2.2,pq⟩
        | true =>
          refine iteT ⟨g4,s2,m4,r4,rl4.st t4,?_⟩
          have ed:((R.ok true m4:R Bool).bind fun k m=>if k=true then (fk s2 m).bind fun y m=>(fv s2 m).bind fun z m=>(match valO y,valO z with
            | some y,some z=>.ok (some (y,z)) m
            | _,_=>.stuck) else .ok none m)=(fk s2 m4).bind fun y m=>(fv s2 m).bind fun z m=>(match valO y,valO z with
            | some y,some z=>.ok (some (y,z)) m
            | _,_=>.stuck):=rfl
          rw [ed] at pq
          cases ee:fk s2 m4 with
          | stuck=>rw [ee] at pq;exact pq.elim
          | exc c ks xs m'=>rw [ee] at pq;exact pq.elim
          | ok y m5 =>
            rw [ee] at pq
            intro g5 yv H5 r5 t5 ry
            have ob5:=own_st ob4.1 ob4.2.1 ob4.2.2 t5
            refine ⟨g5,s2,m5,r5,(rl4.st t4).st t5,?_⟩
            rw [bind_ok'] at pq
            cases ef:fv s2 m5 with
            | stuck=>rw [ef] at pq;exact pq.elim
            | exc c ks xs m'=>rw [ef] at pq;exact pq.elim
            | ok z m6 =>
              rw [ef] at pq
              intro g6 zv H6 r6 t6 rz
              have ob6:=own_st ob5.1 ob5.2.1 ob5.2.2 t6
              cases y with
              | b o=>exact pq.elim
              | v y =>
                cases z with
                | b o=>exact pq.elim
                | v z =>
                  have pq:PostF K (WE W σ) g1 H1 ((if (keyM y).isSome=true∧ks.length < sizeLine then dcompM (dcompTurnF own tg ft fk fv s) items.watch (items.items.drop (i + 1)) (dPutK ks y) (dPutV ks vs y z) m6 else .stuck).bind fun p m=>.ok (.dic p.1 p.2) m) Q:=pq
                  by_cases hl:(keyM y).isSome=true∧ks.length < sizeLine
                  · rw [if_pos hl] at pq
                    obtain ⟨l,hk⟩:=Option.isSome_iff_exists.mp hl.1
                    have ry6:=RV.st (show RV K g5 y yv from ry) t6
                    have ek:=(keyM_ok ry6 hk).1
                    subst ek
                    obtain ⟨kv6,hz,rk6,rv6⟩:=unD ob6.1
                    obtain ⟨q1,q2⟩:=dPut_ok hk ry6 rz rk6 rv6
                    refine ⟨kv6,l,rfl,hz,by have:=rk6.length;rw [List.length_map] at this;rw [← this];exact hl.2,g6,m6,_,_,_,r6.own ob6.2.1 ob6.2.2 hz (fun ps z=>by cases z),(((t13.trans t4).trans t5).trans t6).own hD,upd_same,q1,q2,ob6.2.1,ob6.2.2,pq⟩
                  · rw [if_neg hl] at pq;exact pq.elim
  · rintro H2 ⟨g2,m2,ks,vs,kv,r2,t2,hDl,rk,rv,hF2,hr2,pq⟩
    have okw:=dcompM_ok (fun z=>by rw [z] at pq;exact pq:dcompM (dcompTurnF own tg ft fk fv s) items.watch (items.items.drop n) ks vs m2≠.stuck)
    rw [hn,List.drop_length] at pq
    have e:dcompM (dcompTurnF own tg ft fk fv s) items.watch [] ks vs m2=.ok (ks,vs) m2:=by unfold dcompM;rw [if_pos okw]
    rw [e] at pq
    exact pq g2 D H2 r2 t2 hD hF2 hr2 ⟨.dK kv,kv.map fun p=>(kV p.1,p.2),hDl,⟨kv,rfl,rfl⟩,by rw [List.map_map];exact rk,by rw [List.map_map];exact rv⟩
end
section
variable {X:Cx}
theorem ps_setDc {i:Nat} {y:Str} {py:Pos} {kx vx tg iter:Expr} {ifs:List Expr} {scope:Scope} {own:List (Str × Nat)} {pos spos:Pos} {wi:TI} {g:TG} {tt:TT} {tk tv:TE} (hc:X.calm=true) (hN:X.N.Nodup) (hy:X.N[i]? = some y) (hyl:X.env.scope.names.lookup y=some .local)
    (hsw:swapsWith (.DictComp kx vx [⟨tg,iter,ifs,0⟩] scope pos) (some (.Name y py)) spos.line X.env=pure true) (hi:PI X tg iter wi) (ok:BlkOk X.N X.env.scope scope own)
    (hg:∀ (s:Shared) (H:Hp) (C:Addr) (cl:List (Str × Addr)) (fp:List Addr),PG (X.blk s H scope (compEnvC scope cl C X.env) fp) tg g) (ht:∀ (s:Shared) (H:Hp) (C:Addr) (cl:List (Str × Addr)) (fp:List Addr),PTs (X.blk s H scope (compEnvC scope cl C X.env) fp) ifs tt)
    (hk:∀ (s:Shared) (H:Hp) (C:Addr) (cl:List (Str × Addr)) (fp:List Addr),PE (X.blk s H scope (compEnvC scope cl C X.env) fp) kx tk)
    (he:∀ (s:Shared) (H:Hp) (C:Addr) (cl:List (Str × Addr)) (fp:List Addr),PE (X.blk s H scope (compEnvC scope cl C X.env) fp) vx tv) (hs:∀ x,foldedSetIterable iter X.env x=pure x:=by intro _;rfl) :
    PS X (.Assign [.Name y py] (.DictComp kx vx [⟨tg,iter,ifs,0⟩] scope pos) spos) (tAsg (tDc wi g tt tk tv (own.map (·.2))) (gName i)):=by
  refine ⟨fun pins s σ H D I h=>?_⟩
  rw [exec_Assign_Name_used _ _ _ _ hsw]
  refine wpAny_bind (wpAny_standAt (wpAny_bind ?_))
  show wpAny _ X.A (do let _ ← comprehension (.DictComp kx vx [⟨tg,iter,ifs,0⟩] scope pos) scope X.env (firstIterPos [⟨tg,iter,ifs,0⟩] pos) newDict false (eval iter X.env) (some (assign (.Name y py) X.env))) _ _ s
  have h:tDc wi g tt tk tv (own.map (·.2)) σ H (fun x H1=>gName i x σ H1 D.nx):=h
  refine wpAny_bind (thn (dc_core (Qf:=fun _ s'=>SP X pins D .next s') hc hN I hi ok hg ht hk he hs h fun L C s' m H' I' q hn f=>?_) fun _ s' hq=>wpAny_pure (wpAny_pure hq))
  show wpAny _ _ (assign (.Name y py) X.env (.ref L)) _ _ _
  refine wpAny_assign_Name (store_ok2 (v:=V.ref L) I' hN hy (.inl hyl) rfl (fun s2 I2 ⟨a,sb,ha⟩=>?_) (.inr hyl))
  obtain ⟨f0,f1,f2,f3,f4,f5⟩:=f
  have haC:C≠a:=by
    rcases ha with z | z
    · rw [z];exact f1
    · exact fun e=>f4 y a z e.symm
  refine ⟨m,hn.sameBut sb haC,fun h3 sb3=>?_⟩
  exact ⟨_,H',I2.turned (t':=s2.toks) (fun b o hb e=>(sb3.2 b hb).trans e) f0 f1 f3 f4 f5,q⟩
theorem sw_trueD {kx vx:Expr} {gs:List Comprehension} {scope:Scope} {pos py:Pos} {y:Str} {l:Nat} {env:Env} (hk:env.scope.kind=.function) (hy:env.scope.names.lookup y=some .local) (hl:(py.line == pos.line)=true)
    (ha:(scope.names.any fun (n,k)=>n == y&&(k == .local || k == .cell))=false):swapsWith (.DictComp kx vx gs scope pos) (some (.Name y py)) l env=pure true:=by
  have ky:env.kindOf y=some .local:=hy
  have hb:env.blockKind=.function:=by unfold Env.blockKind;rw [hk];rfl
  unfold swapsWith
  simp only [hb,ky,ha,Expr.pos,hl]
  rfl
end
end Rc

namespace Rc
open PySem PySem.Spec L2
open PyProof.Rows hiding St

def cutM (xs:List MV) (lo hi:Option Int):List MV:=(xs.drop (HT.sIx xs.length 0 lo)).take (HT.sIx xs.length xs.length hi - HT.sIx xs.length 0 lo)
def slF (a:OV) (lo hi:Option Int) (m:Mem):R OV:=match contO m a with
  | some (.l xs)=>.ok (.v (.lst (cutM xs lo hi))) m
  | some (.t xs)=>.ok (.v (.tup (cutM xs lo hi))) m
  | some (.s z)=>if z.length≤sizeLine then .ok (.v (.str (cutS z lo hi))) m else .stuck
  | none=>.stuck
section
variable {X:Cx}
theorem cut_ok {K:Ki} {g:G} {xs:List MV} {vs:List V} (r:RVs K g xs vs) (lo hi:Option Int):RVs K g (cutM xs lo hi) (cutV vs lo hi):=by
  unfold cutM cutV
  rw [← r.length]
  exact (r.drop _).take _
def t3 (K:Ki) (f:OV→Option Int→Option Int→Mem→R OV):V→Option Int→Option Int→Hp→VK→Prop:=fun x lo hi H Q=>∃ E g m a,Rs K g m H∧RO K g H a x∧PostO K E g H (f a lo hi m) Q
theorem sl_all:SlR X (t3 X.ki slF):=by
  have w:∀ x lo hi H Q,t3 X.ki slF x lo hi H Q→rSlL X.K x lo hi H Q∨(rSlA X.K x lo hi H Q∨rSlS x lo hi H Q):=by
    rintro x lo hi H Q ⟨E,g,m,a,rs,ra,p⟩
    unfold slF at p
    split at p
    · rename_i xs e
      obtain ⟨c,ys,rfl,q,r⟩:=contO_ok rs ra e
      exact .inl ⟨c,ys,rfl,q,post_new rs p (cut_ok r lo hi)⟩
    · rename_i xs e
      obtain ⟨c,ys,rfl,q,r⟩:=contO_ok rs ra e
      refine .inr (.inl ⟨c,ys,rfl,q,fun hw=>?_,fun hw=>post_tup rs p (cut_ok r lo hi)⟩)
      have hc:cutM xs lo hi=xs:=by
        unfold cutM
        rw [r.length,hw.1,hw.2,← r.length]
        simp
      rw [hc] at p
      obtain ⟨x,rfl⟩:∃ x,a=.v (.tup x):=by
        cases a with
        | b o=>cases o <;> cases e
        | v z =>
          cases z <;> try (cases e;done)
          · exact ⟨_,rfl⟩
          · obtain ⟨_,_,e3⟩:=Option.map_eq_some_iff.mp (show (memL m _).map Sq.l=some _ from e)
            cases e3
      cases e
      exact p g _ H rs (Stp.refl _ _) ra
    · rename_i z e
      obtain rfl:=contO_ok rs ra e
      split at p
      · exact .inr (.inr ⟨z,rfl,by assumption,post_val rs p rfl⟩)
      · exact p.elim
    · exact p.elim
  intro pins s σ H x v vl vu lo hi sl Q I rx hs pl pu h
  exact (sl_list.or (sl_tupA.or sl_str)) pins s σ H x v vl vu lo hi sl Q I rx hs pl pu (w _ _ _ _ _ h)
end
def intO:OV→Option Int
  | .v (.int i)=>some i
  | _=>none
section
variable {K:Ki} {W:WX} {σ:St} {H:Hp} {Q:VK}
def slA (lo:Bool) (x:OV) (i:OV) (m:Mem):R OV:=match intO i with
  | some k=>if lo=true then slF x (some k) none m else slF x none (some k) m
  | none=>.stuck
def slB2 (x:OV) (k:Int) (j:OV) (m:Mem):R OV:=match intO j with
  | some l=>slF x (some k) (some l) m
  | _=>.stuck
theorem intO_ok {g:G} {i:OV} {v:V} {k:Int} (r:RO K g H i v) (e:intO i=some k):v=.int k:=by
  unfold intO at e
  split at e
  · cases e;exact r
  · cases e
theorem tE_sl10 {fa fb:Sl→Mem→R OV} (h:tE K W (fun s m=>(fa s m).bind fun x m=>(fb s m).bind fun y m=>slA true x y m) σ H Q):tSl (t3 K slF) (tE K W fa) (tPart (tE K W fb)) tNoPart σ H Q:=by
  obtain ⟨g,s,m,rs,rl,p⟩:=h
  refine ⟨g,s,m,rs,rl,(Post.bind p).imp fun v H1 ⟨x,g1,m1,rs1,st1,r1,p1⟩=>⟨g1,s,m1,rs1,rl.st st1,(Post.bind p1).imp fun w H2 ⟨y,g2,m2,rs2,st2,r2,p2⟩=>?_⟩⟩
  unfold slA at p2
  split at p2
  · rename_i k e
    exact ⟨k,intO_ok r2 e,_,g2,m2,x,rs2,RO.st r1 st2,p2⟩
  · exact p2.elim
theorem tE_sl01 {fa fb:Sl→Mem→R OV} (h:tE K W (fun s m=>(fa s m).bind fun x m=>(fb s m).bind fun y m=>slA false x y m) σ H Q):tSl (t3 K slF) (tE K W fa) tNoPart (tPart (tE K W fb)) σ H Q:=by
  obtain ⟨g,s,m,rs,rl,p⟩:=h
  refine ⟨g,s,m,rs,rl,(Post.bind p).imp fun v H1 ⟨x,g1,m1,rs1,st1,r1,p1⟩=>⟨g1,s,m1,rs1,rl.st st1,(Post.bind p1).imp fun w H2 ⟨y,g2,m2,rs2,st2,r2,p2⟩=>?_⟩⟩
  unfold slA at p2
  split at p2
  · rename_i k e
    exact ⟨k,intO_ok r2 e,_,g2,m2,x,rs2,RO.st r1 st2,p2⟩
  · exact p2.elim
theorem tE_sl11 {fa fb fc:Sl→Mem→R OV} (h:tE K W (fun s m=>(fa s m).bind fun x m=>(fb s m).bind fun y m=>match intO y with
    | some k=>(fc s m).bind fun z m=>slB2 x k z m
    | none=>.stuck) σ H Q):tSl (t3 K slF) (tE K W fa) (tPart (tE K W fb)) (tPart (tE K W fc)) σ H Q:=by
  obtain ⟨g,s,m,rs,rl,p⟩:=h
  refine ⟨g,s,m,rs,rl,(Post.bind p).imp fun v H1 ⟨x,g1,m1,rs1,st1,r1,p1⟩=>⟨g1,s,m1,rs1,rl.st st1,(Post.bind p1).imp fun w H2 ⟨y,g2,m2,rs2,st2,r2,p2⟩=>?_⟩⟩
  cases e:intO y with
  | none=>rw [e] at p2;exact p2.elim
  | some k =>
    rw [e] at p2
    refine ⟨k,intO_ok r2 e,g2,s,m2,rs2,(rl.st st1).st st2,(Post.bind p2).imp fun u H3 ⟨z,g3,m3,rs3,st3,r3,p3⟩=>?_⟩
    unfold slB2 at p3
    split at p3
    · rename_i l e2
      exact ⟨_,intO_ok r3 e2,_,g3,m3,x,rs3,RO.st (RO.st r1 st2) st3,p3⟩
    · exact p3.elim
end
def itemsO:OV→Option (List MV)
  | .v (.lst xs)=>some xs
  | .v (.kl xs)=>some xs
  | .v (.tup xs)=>some xs
  | .b (.lst xs)=>some xs
  | _=>none
def starO (b:Bool) (x:OV):Option (List OV):=if b=true then (itemsO x).map fun xs=>xs.map OV.v else some [x]
theorem paired_vs {K:Ki} {g:G} {H:Hp}:∀ {xs:List MV} {vs:List V},RVs K g xs vs→Paired (RO K g H) (xs.map OV.v) vs
  | [],_,h=>by cases (show _=[] from h);exact .nil
  | x :: xs,_,⟨v,r,e,h,t⟩=>by subst e;exact .cons h (paired_vs t)
theorem paired_app {α β:Type} {F:α→β→Prop}:∀ {xs zs:List α} {ys ws:List β},Paired F xs ys→Paired F zs ws→Paired F (xs++zs) (ys++ws)
  | [],_,_,_,h,t=>by cases h;exact t
  | _ :: _,_,_,_,h,t=>by cases h with | cons h h2=>exact .cons h (paired_app h2 t)
theorem itemsO_ok {K:Ki} {g:G} {H:Hp} {m:Mem} {x:OV} {v:V} {xs:List MV} (rs:Rs K g m H) (r:RO K g H x v) (e:itemsO x=some xs):∃ a ys,v=.ref a∧(SqT K H a ys∨SqL K H a ys)∧RVs K g xs ys:=by
  cases x with
  | b o =>
    cases o with
    | lst zs =>
      cases e
      obtain ⟨a,rfl,⟨ys,q,rv⟩,_⟩:=r
      exact ⟨a,ys,rfl,.inr (.of q),rv⟩
    | _=>cases e
  | v x =>
    cases x with
    | lst zs =>
      cases e
      obtain ⟨a,ys,rfl,q,rv⟩:=r
      exact ⟨a,ys,rfl,.inr (.of (rs.sub _ _ q)),rv⟩
    | kl zs =>
      cases e
      obtain ⟨a,ys,rfl,q,rv⟩:=r
      exact ⟨a,ys,rfl,.inr (SqL.monoF rs.sub q),rv⟩
    | tup zs =>
      cases e
      obtain ⟨a,ys,rfl,q,rv⟩:=r
      exact ⟨a,ys,rfl,.inl (SqT.monoF rs.sub q),rv⟩
    | _=>cases e
section
variable {K:Ki} {W:WX} {σ:St} {H:Hp}
theorem tA_star {fa:Sl→Mem→R OV} {fs:Sl→Mem→R (List OV)} {Q':List V→Hp→Prop} (h:tA K W (fun s m=>(fa s m).bind fun x m=>match starO true x with
    | some zs=>(fs s m).bind fun xs m=>.ok (zs++xs) m
    | none=>.stuck) σ H Q'):StX.tStar K (tE K W fa) (tA K W fs) σ H Q':=by
  obtain ⟨g,s,m,rs,rl,p⟩:=h
  refine ⟨g,s,m,rs,rl,(Post.bind p).imp fun v H1 ⟨x,g1,m1,rs1,st1,r1,p1⟩=>?_⟩
  cases e:itemsO x with
  | none =>
    unfold starO at p1
    rw [e] at p1
    exact p1.elim
  | some xs =>
    have e2:starO true x=some (xs.map OV.v):=by unfold starO;rw [e];rfl
    rw [e2] at p1
    obtain ⟨a,ys,rfl,q,rv⟩:=itemsO_ok rs1 r1 e
    refine ⟨a,ys,rfl,q,g1,s,m1,rs1,rl.st st1,(Post.bind p1).imp fun vs H2 ⟨zs,g2,m2,rs2,st2,r2,p2⟩=>p2 g2 _ H2 rs2 (Stp.refl _ _) ?_⟩
    exact paired_app (paired_vs (rv.st st2)) r2
end
structure PrimA where
  need:List Need:=[]
  parts:Cfg→Expr→Option (List Expr)
  F:List OV→Mem→R OV
  ok:∀ {k:Nat} {W:WX} {c:Cfg} {X:Cx} {e:Expr} {es:List Expr} {fs:Sl→Mem→R (List OV)},CtxOk k W c X→(∀ n∈need,n.at X k)→parts c e=some es→PA X es (tA X.ki W fs)→PE X e (tE X.ki W fun s m=>(fs s m).bind F)
structure PrimFA where
  need:List Need:=[]
  parts:Cfg→Expr→Option (List Expr)
  F:List OV→Mem→R MO
  ok:∀ {k:Nat} {W:WX} {c:Cfg} {X:Cx} {e:Expr} {es:List Expr} {fs:Sl→Mem→R (List OV)},CtxOk k W c X→(∀ n∈need,n.at X k)→parts c e=some es→PA X es (tA X.ki W fs)→PE X e (tF X.ki W fun s m=>(fs s m).bind F)
structure PrimM where
  need:List Need:=[]
  parts:Cfg→Expr→Option (Expr × List Expr)
  F:OV→Mem→Option (List OV→Mem→R OV)
  ok:∀ {k:Nat} {W:WX} {c:Cfg} {X:Cx} {e o:Expr} {es:List Expr} {fo:Sl→Mem→R OV} {fs:Sl→Mem→R (List OV)},CtxOk k W c X→(∀ n∈need,n.at X k)→parts c e=some (o,es)→PE X o (tE X.ki W fo)→Parts X W es fs →
    PE X e (tE X.ki W fun s m=>(fo s m).bind fun x m=>match F x m with
      | some f=>(fs s m).bind f
      | none=>.stuck)
end Rc

set_option maxHeartbeats 2000000
namespace Rc
open PySem PySem.Spec L2
open PyProof.Rows hiding St
def newO (r:R MO):R OV:=match r with
  | .ok o m=>.ok (.v (.ref m.length)) (m++[some o])
  | .exc c ks xs m=>.exc c ks xs m
  | .stuck=>.stuck
section
variable {K:Ki} {W:WX} {σ:L2.St} {H:Hp} {Q:VK}
theorem tE_newO {f:Sl→Mem→R MO} (h:tE K W (fun s m=>newO (f s m)) σ H Q):tF K W f σ H Q:=by
  obtain ⟨g,s,m,rs,rl,p⟩:=h
  refine ⟨g,s,m,rs,rl,?_⟩
  have p:PostO K (WE W σ) g H (newO (f s m)) Q:=p
  generalize f s m=r at p
  cases r with
  | ok o m' =>
    intro g' q H' rs' st hq hF hr ob
    refine p _ _ H' (rs'.adopt hF hr ob) ⟨st.F,fun k a e=>?_,st.keep,st.dom,st.Fn,fun k b e=>?_⟩ ⟨q,rfl,by simp⟩
    · have e:=st.r k a e
      have:=(rs'.rb k a e).1
      show (if k=m'.length then some q else g'.r k)=some a
      rw [if_neg (by omega)];exact e
    · have e:(if k=m'.length then some q else g'.r k)=some b:=e
      by_cases hk:k=m'.length
      · rw [if_pos hk] at e;cases e;exact .inr hq
      · rw [if_neg hk] at e;exact st.rn k b e
  | exc c ks xs m'=>exact p
  | stuck=>exact p
end
end Rc

namespace RgF
open PySem
open Sem (wp)
def dead:Resume→Sem PySem.Fin:=fun _=>.unsupported "asleep"
def poison:GenState→GenState
  | .suspended _ l c p fs cl=>.suspended dead l c p fs cl
  | x=>x
theorem seen_poison (x:GenState):(poison x).seen=x.seen:=by cases x <;> rfl
theorem bare_poison (x:GenState):(poison x).bare=x.bare:=by cases x <;> rfl
def Sleeping (x:GenState):Prop:=∃ k l c p fs cl,x=.suspended k l c p fs cl
structure Rel (D:Nat→Option GenState) (A B:Array GenState):Prop where
  size:A.size=B.size
  off:∀ i,D i=none→B[i]? = A[i]?
  on:∀ i x,D i=some x→A[i]? = some (poison x)∧B[i]? = some x∧Sleeping x
def GFree (fs:List Frame):Prop:=∀ F∈fs,∀ g k l c p,F≠.gen g k l c p
theorem GFree.nil:GFree []:=fun _ h=>by cases h
theorem GFree.tail {F:Frame} {fs:List Frame} (h:GFree (F :: fs)):GFree fs:=fun x hx=>h x (List.mem_cons_of_mem _ hx)
theorem GFree.split:∀ {fs:List Frame},GFree fs→splitAtGen fs=none
  | [],_=>rfl
  | .gen g k l c p :: fs,h=>absurd rfl (h _ List.mem_cons_self g k l c p)
  | .ret .. :: fs,h=>by
    show (splitAtGen fs).map _=none
    rw [GFree.split h.tail]
    rfl
theorem GFree.app {a b:List Frame} (h:GFree a) (k:GFree b):GFree (a++b):=fun F hF=>(List.mem_append.mp hF).elim (h F) (k F)
theorem GFree.ret {k h g l c p kp}:GFree [.ret k h g l c p kp]:=fun F hF=>by rw [List.mem_singleton.mp hF];intro _ _ _ _ _ z;cases z
def Tame (D:Nat→Option GenState) (A:Array GenState):Prop:=∀ i k l c p fs cl,A[i]? = some (.suspended k l c p fs cl)→D i=none→GFree fs
def EndOk:End→Prop
  | .susp _ _ _ _ _ _ fs=>GFree fs
  | .ret _=>True
section
variable {D:Nat→Option GenState} {A B:Array GenState}
theorem Rel.fresh (h:Rel D A B) {i:Nat} {c:Code} (e:A[i]? = some (.fresh c)):D i=none∧B[i]? = some (.fresh c):=by
  cases hd:D i with
  | none=>exact ⟨rfl,(h.off i hd).trans e⟩
  | some x =>
    obtain ⟨h1,h2,k,l,c',p,fs,cl,rfl⟩:=h.on i x hd
    rw [e] at h1;cases h1
theorem Rel.running (h:Rel D A B) {i:Nat} (e:A[i]? = some .running):B[i]? = some .running:=by
  cases hd:D i with
  | none=>exact (h.off i hd).trans e
  | some x =>
    obtain ⟨h1,h2,k,l,c',p,fs,cl,rfl⟩:=h.on i x hd
    rw [e] at h1;cases h1
theorem Rel.finished (h:Rel D A B) {i:Nat} (e:A[i]? = some .finished):B[i]? = some .finished:=by
  cases hd:D i with
  | none=>exact (h.off i hd).trans e
  | some x =>
    obtain ⟨h1,h2,k,l,c',p,fs,cl,rfl⟩:=h.on i x hd
    rw [e] at h1;cases h1
theorem Rel.state (h:Rel D A B) {i:Nat} {st:GenState} (e:A[i]? = some st):∃ x,B[i]? = some x∧x.seen=st.seen:=by
  cases hd:D i with
  | none=>exact ⟨st,(h.off i hd).trans e,rfl⟩
  | some x =>
    obtain ⟨h1,h2,_⟩:=h.on i x hd
    rw [e] at h1;cases h1
    exact ⟨x,h2,(seen_poison x).symm⟩
theorem Rel.push (h:Rel D A B) (x:GenState):Rel D (A.push x) (B.push x) where
  size:=by simp [h.size]
  off:=fun i hi=>by
    have:=h.off i hi
    rw [Array.getElem?_push,Array.getElem?_push,h.size,this]
  on:=fun i y hy=>by
    obtain ⟨h1,h2,h3⟩:=h.on i y hy
    have l1:i < A.size:=(Array.getElem?_eq_some_iff.mp h1).1
    refine ⟨?_,?_,h3⟩
    · rw [Array.getElem?_push,if_neg (by omega)];exact h1
    · rw [Array.getElem?_push,if_neg (by have:=h.size;omega)];exact h2
theorem Rel.set (h:Rel D A B) {g:Nat} (hg:D g=none) (x:GenState):Rel D (A.setIfInBounds g x) (B.setIfInBounds g x) where
  size:=by simp [h.size]
  off:=fun i hi=>by
    have:=h.off i hi
    rw [Array.getElem?_setIfInBounds,Array.getElem?_setIfInBounds,h.size,this]
  on:=fun i y hy=>by
    obtain ⟨h1,h2,h3⟩:=h.on i y hy
    have ne:g≠i:=fun z=>by rw [z,hy] at hg;cases hg
    refine ⟨?_,?_,h3⟩
    · rw [Array.getElem?_setIfInBounds_ne ne];exact h1
    · rw [Array.getElem?_setIfInBounds_ne ne];exact h2
theorem Tame.push (h:Tame D A) (c:Code):Tame D (A.push (.fresh c)):=fun i k l c' p fs cl e hd=>by
  rw [Array.getElem?_push] at e
  split at e
  · cases e
  · exact h i k l c' p fs cl e hd
theorem Tame.set (h:Tame D A) {g:Nat} {x:GenState} (hx:∀ k l c p fs cl,x=.suspended k l c p fs cl→GFree fs):Tame D (A.setIfInBounds g x):=fun i k l c' p fs cl e hd=>by
  by_cases z:g=i
  · subst z
    rw [Array.getElem?_setIfInBounds] at e
    simp only [if_true] at e
    split at e
    · exact hx _ _ _ _ _ _ (Option.some.inj e)
    · cases e
  · rw [Array.getElem?_setIfInBounds_ne z] at e
    exact h i k l c' p fs cl e hd
theorem endState {e:End} (h:EndOk e):∀ k l c p fs cl,e.genState=.suspended k l c p fs cl→GFree fs:=fun k l c p fs cl z=>by
  cases e with
  | ret r=>cases z
  | susp v g l' k' c' p' fs'=>cases z;exact h
end
theorem no_unsup {M:Model} {Γ:Ctx} {p:Pos} {w:String} {fs:List Frame} {s s':Shared} {e:End} (h:Runs M Γ p (.unsupported w) fs s e s'):False:=by
  generalize ht:(Sem.unsupported w:Sem PySem.Fin)=t at h
  induction h with
  | segRet _ _ ih _=>exact ih ht
  | segGen _ _ ih _=>exact ih ht
  | segSuspOut _ _ ih=>exact ih ht
  | segSuspGen _ _ _ _ ih _=>exact ih ht
  | _=>cases ht
theorem runs_frame {M:Model} {D:Nat→Option GenState} {Γ:Ctx} {p:Pos} {t:Sem PySem.Fin} {fs:List Frame} {s s':Shared} {e:End} (h:Runs M Γ p t fs s e s'):GFree fs→Tame D s.gens→∀ G,Rel D s.gens G →
    Tame D s'.gens∧EndOk e∧∃ G',Rel D s'.gens G'∧Runs M Γ p t fs { s with gens:=G } e { s' with gens:=G' }:=by
  induction h with
  | done=>exact fun _ ht G r=>⟨ht,trivial,G,r,.done⟩
  | raise=>exact fun _ ht G r=>⟨ht,trivial,G,r,.raise⟩
  | again hq _ ih=>exact fun hf ht G r=>let ⟨a,b,G',r',h'⟩:=ih hf ht G r;⟨a,b,G',r',.again hq h'⟩
  | rule _ ih=>exact fun hf ht G r=>let ⟨a,b,G',r',h'⟩:=ih hf ht G r;⟨a,b,G',r',.rule h'⟩
  | «at» _ ih=>exact fun hf ht G r=>let ⟨a,b,G',r',h'⟩:=ih hf ht G r;⟨a,b,G',r',.at h'⟩
  | load ho _ ih=>exact fun hf ht G r=>let ⟨a,b,G',r',h'⟩:=ih hf ht G r;⟨a,b,G',r',.load ho h'⟩
  | update ho _ ih=>exact fun hf ht G r=>let ⟨a,b,G',r',h'⟩:=ih hf ht G r;⟨a,b,G',r',.update ho h'⟩
  | loadIfAlive _ ih=>exact fun hf ht G r=>let ⟨a,b,G',r',h'⟩:=ih hf ht G r;⟨a,b,G',r',.loadIfAlive h'⟩
  | point _ ih=>exact fun hf ht G r=>let ⟨a,b,G',r',h'⟩:=ih hf ht G r;⟨a,b,G',r',.point h'⟩
  | alloc _ ih=>exact fun hf ht G r=>let ⟨a,b,G',r',h'⟩:=ih hf ht G r;⟨a,b,G',r',.alloc h'⟩
  | fresh _ ih=>exact fun hf ht G r=>let ⟨a,b,G',r',h'⟩:=ih hf ht G r;⟨a,b,G',r',.fresh h'⟩
  | ask _ ih=>exact fun hf ht G r=>let ⟨a,b,G',r',h'⟩:=ih hf ht G r;⟨a,b,G',r',.ask h'⟩
  | choose hn _ ih=>exact fun hf ht G r=>let ⟨a,b,G',r',h'⟩:=ih hf ht G r;⟨a,b,G',r',.choose hn h'⟩
  | os _ ih=>exact fun hf ht G r=>let ⟨a,b,G',r',h'⟩:=ih hf ht G r;⟨a,b,G',r',.os h'⟩
  | handled _ ih=>exact fun hf ht G r=>let ⟨a,b,G',r',h'⟩:=ih hf ht G r;⟨a,b,G',r',.handled h'⟩
  | stack _ ih=>exact fun hf ht G r=>let ⟨a,b,G',r',h'⟩:=ih hf ht G r;⟨a,b,G',r',.stack h'⟩
  | thread _ ih=>exact fun hf ht G r=>let ⟨a,b,G',r',h'⟩:=ih hf ht G r;⟨a,b,G',r',.thread h'⟩
  | genState hg _ ih =>
    intro hf ht G r
    obtain ⟨a,b,G',r',h'⟩:=ih hf ht G r
    obtain ⟨x,h2,e⟩:=r.state hg
    rw [← e] at h'
    exact ⟨a,b,G',r',.genState h2 h'⟩
  | newGen _ ih =>
    intro hf ht G r
    obtain ⟨a,b,G',r',h'⟩:=ih hf (ht.push _) _ (r.push _)
    refine ⟨a,b,G',r',.newGen ?_⟩
    rw [r.size] at h'
    exact h'
  | call _ _ ih1 ih2 =>
    intro hf ht G r
    obtain ⟨a1,_,G1,r1,h1⟩:=ih1 .nil ht G r
    obtain ⟨a2,b2,G2,r2,h2⟩:=ih2 hf a1 G1 r1
    exact ⟨a2,b2,G2,r2,.call h1 h2⟩
  | callSusp _ ih =>
    intro hf ht G r
    obtain ⟨a1,b1,G1,r1,h1⟩:=ih .nil ht G r
    exact ⟨a1,GFree.app b1 .ret,G1,r1,.callSusp h1⟩
  | yield=>exact fun _ ht G r=>⟨ht,.nil,G,r,.yield⟩
  | resumeFresh hg _ hq _ ih1 ih2 =>
    intro hf ht G r
    obtain ⟨hd,hG⟩:=r.fresh hg
    obtain ⟨a1,b1,G1,r1,h1⟩:=ih1 .nil (ht.set fun _ _ _ _ _ _ z=>by cases z) _ (r.set hd _)
    obtain ⟨a2,b2,G2,r2,h2⟩:=ih2 hf (a1.set (endState b1)) _ (r1.set hd _)
    exact ⟨a2,b2,G2,r2,.resumeFresh hG h1 hq h2⟩
  | @resumeSuspended Γ p g r' l k s k₀ l₀ c₀ p₀ fs cl e₁ s₁ e s' hg hr hq _ ih1 ih2 =>
    intro hf ht G r
    cases hd:D g with
    | some x =>
      obtain ⟨h1,h2,k2,l2,c2,p2,fs2,cl2,rfl⟩:=r.on g x hd
      rw [hg] at h1
      cases h1
      exact (no_unsup hr).elim
    | none =>
      have hfs:=ht g _ _ _ _ _ _ hg hd
      obtain ⟨a1,b1,G1,r1,h1⟩:=ih1 hfs (ht.set fun _ _ _ _ _ _ z=>by cases z) _ (r.set hd _)
      obtain ⟨a2,b2,G2,r2,h2⟩:=ih2 hf (a1.set (endState b1)) _ (r1.set hd _)
      exact ⟨a2,b2,G2,r2,.resumeSuspended ((r.off g hd).trans hg) h1 hq h2⟩
  | resumeJustStarted hg hv _ ih=>exact fun hf ht G r=>let ⟨a,b,G',r',h'⟩:=ih hf ht G r;⟨a,b,G',r',.resumeJustStarted (r.fresh hg).2 hv h'⟩
  | resumeThrowFresh hg _ ih =>
    intro hf ht G r
    obtain ⟨hd,hG⟩:=r.fresh hg
    obtain ⟨a,b,G',r',h'⟩:=ih hf (ht.set fun _ _ _ _ _ _ z=>by cases z) _ (r.set hd _)
    exact ⟨a,b,G',r',.resumeThrowFresh hG h'⟩
  | resumeRunning hg _ ih=>exact fun hf ht G r=>let ⟨a,b,G',r',h'⟩:=ih hf ht G r;⟨a,b,G',r',.resumeRunning (r.running hg) h'⟩
  | resumeFinished hg _ ih=>exact fun hf ht G r=>let ⟨a,b,G',r',h'⟩:=ih hf ht G r;⟨a,b,G',r',.resumeFinished (r.finished hg) h'⟩
  | segRet _ _ ih1 ih2 =>
    intro hf ht G r
    obtain ⟨a1,_,G1,r1,h1⟩:=ih1 .nil ht G r
    obtain ⟨a2,b2,G2,r2,h2⟩:=ih2 hf.tail a1 G1 r1
    exact ⟨a2,b2,G2,r2,.segRet h1 h2⟩
  | segGen _ _ _ _=>exact fun hf=>absurd rfl (hf _ List.mem_cons_self _ _ _ _ _)
  | segSuspOut hs _ ih =>
    intro hf ht G r
    obtain ⟨a1,b1,G1,r1,h1⟩:=ih .nil ht G r
    exact ⟨a1,GFree.app b1 hf,G1,r1,.segSuspOut hs h1⟩
  | segSuspGen hs _ _ _ _ _=>exact fun hf=>by rw [hf.split] at hs;cases hs
theorem wakes_frame {M:Model} {D:Nat→Option GenState} {Γ:Ctx} {p:Pos} {g:Nat} {q:Resume} {s s':Shared} {res:GenResult} (h:Wakes M Γ p g q s res s') (ht:Tame D s.gens) {G:Array GenState} (r:Rel D s.gens G) :
    Tame D s'.gens∧∃ G',Rel D s'.gens G'∧Wakes M Γ p g q { s with gens:=G } res { s' with gens:=G' }:=by
  unfold Wakes at h
  split at h
  · exact h.elim
  · rename_i c hg
    obtain ⟨hd,hG⟩:=r.fresh hg
    cases q with
    | throw x =>
      obtain ⟨rfl,rfl⟩:=h
      refine ⟨ht.set (fun _ _ _ _ _ _ z=>by cases z),_,r.set hd _,?_⟩
      unfold Wakes
      rw [show ({ s with gens:=G }:Shared).gens[g]? = some (.fresh c) from hG]
      exact ⟨rfl,rfl⟩
    | send v =>
      cases v with
      | none =>
        obtain ⟨e₁,s₁,hr,hq,rfl,rfl⟩:=h
        obtain ⟨a1,b1,G1,r1,h1⟩:=runs_frame hr .nil (ht.set fun _ _ _ _ _ _ z=>by cases z) _ (r.set hd .running)
        refine ⟨a1.set (endState b1),_,r1.set hd _,?_⟩
        unfold Wakes
        rw [show ({ s with gens:=G }:Shared).gens[g]? = some (.fresh c) from hG]
        exact ⟨e₁,_,h1,hq,rfl,rfl⟩
      | _ =>
        obtain ⟨rfl,rfl⟩:=h
        refine ⟨ht,G,r,?_⟩
        unfold Wakes
        rw [show ({ s' with gens:=G }:Shared).gens[g]? = some (.fresh c) from hG]
        exact ⟨rfl,rfl⟩
  · rename_i k₀ l₀ c₀ p₀ fs cl hg
    obtain ⟨e₁,s₁,hr,hq,rfl,rfl⟩:=h
    cases hd:D g with
    | some x =>
      obtain ⟨h1,h2,k2,l2,c2,p2,fs2,cl2,rfl⟩:=r.on g x hd
      rw [hg] at h1
      cases h1
      exact (no_unsup hr).elim
    | none =>
      obtain ⟨a1,b1,G1,r1,h1⟩:=runs_frame hr (ht g _ _ _ _ _ _ hg hd) (ht.set fun _ _ _ _ _ _ z=>by cases z) _ (r.set hd .running)
      refine ⟨a1.set (endState b1),_,r1.set hd _,?_⟩
      unfold Wakes
      rw [show ({ s with gens:=G }:Shared).gens[g]? = some (.suspended k₀ l₀ c₀ p₀ fs cl) from (r.off g hd).trans hg]
      exact ⟨e₁,_,h1,hq,rfl,rfl⟩
  · rename_i hg
    obtain ⟨rfl,rfl⟩:=h
    refine ⟨ht,G,r,?_⟩
    unfold Wakes
    rw [show ({ s' with gens:=G }:Shared).gens[g]? = some .running from r.running hg]
    exact ⟨rfl,rfl⟩
  · rename_i hg
    obtain ⟨rfl,rfl⟩:=h
    refine ⟨ht,G,r,?_⟩
    unfold Wakes
    rw [show ({ s' with gens:=G }:Shared).gens[g]? = some .finished from r.finished hg]
    exact ⟨rfl,rfl⟩
def At (D:Nat→Option GenState) {α:Type} (Q:α→Pos→Shared→Prop):α→Pos→Shared→Prop:=fun a p s=>∃ A,Tame D A∧Rel D A s.gens∧Q a p { s with gens:=A }
theorem wp_frame {α:Type} (M:Model) (D:Nat→Option GenState) (Γ:Ctx) (t:Sem α):∀ (Q:α→Pos→Shared→Prop) (E:Value→Pos→Shared→Prop) (p:Pos) (s:Shared) (G:Array GenState),Tame D s.gens→Rel D s.gens G→wp M Γ t Q E p s →
    wp M Γ t (At D Q) (At D E) p { s with gens:=G }:=by
  induction t with
  | pure a=>intro Q E p s G ht r h;exact ⟨s.gens,ht,r,h⟩
  | raise e=>intro Q E p s G ht r h;exact ⟨s.gens,ht,r,h⟩
  | unsupported _=>intro Q E p s G _ _ h;exact h
  | finish _=>intro Q E p s G _ _ h;exact h
  | rule _ k ih=>intro Q E p s G ht r h;exact ih () Q E p s G ht r h
  | «at» p' k ih=>intro Q E p s G ht r h;exact ih () Q E p' s G ht r h
  | load a _ k ih=>intro Q E p s G ht r h;obtain ⟨o,ho,h⟩:=h;exact ⟨o,ho,ih o Q E p s G ht r h⟩
  | update a _ f k ih=>intro Q E p s G ht r h;exact ⟨h.1,ih () Q E p { s with heap:=s.heap.update a f } G ht r h.2⟩
  | loadIfAlive a k ih=>intro Q E p s G ht r h;exact ih _ Q E p s G ht r h
  | point _ k ih=>intro Q E p s G ht r h;exact ih () Q E p s G ht r h
  | register _ _=>intro Q E p s G _ _ h;exact h
  | alloc o k ih=>intro Q E p s G ht r h;exact ih _ Q E p { s with heap:=s.heap.push o } G ht r h
  | fresh k ih=>intro Q E p s G ht r h;exact ih _ Q E p { s with toks:=s.toks + 1 } G ht r h
  | ask k ih=>intro Q E p s G ht r h;exact ih _ Q E p s G ht r h
  | choose src m k ih=>intro Q E p s G ht r h;exact ⟨h.1,ih _ Q E p { s with drawn:=s.drawn.bump src } G ht r h.2⟩
  | os q _ k ih=>intro Q E p s G ht r h;exact ih _ Q E p { s with os:=(Os.step s.os q).1 } G ht r h
  | call c hd _ _ k ih =>
    intro Q E p s G ht r h
    obtain ⟨q,s',hr,h⟩:=h
    obtain ⟨a1,_,G1,r1,h1⟩:=runs_frame hr .nil ht G r
    exact ⟨q,_,h1,ih q Q E p s' G1 a1 r1 h⟩
  | handled own k ih=>intro Q E p s G ht r h;exact ih _ Q E p s G ht r h
  | genState g k ih =>
    intro Q E p s G ht r h
    obtain ⟨st,hs,h⟩:=h
    obtain ⟨x,h2,e⟩:=r.state hs
    refine ⟨x,h2,?_⟩
    rw [e]
    exact ih _ Q E p s G ht r h
  | newGen c k ih =>
    intro Q E p s G ht r h
    have:=ih _ Q E p { s with gens:=s.gens.push (.fresh c) } (G.push (.fresh c)) (ht.push c) (r.push _) h
    rw [r.size] at this
    exact this
  | resume g q _ k ih =>
    intro Q E p s G ht r h
    obtain ⟨res,s',hw,h⟩:=h
    obtain ⟨a1,G1,r1,h1⟩:=wakes_frame hw ht r
    exact ⟨res,_,h1,ih res Q E p s' G1 a1 r1 h⟩
  | yield _ _ _ _=>intro Q E p s G _ _ h;exact h
  | stack k ih=>intro Q E p s G ht r h;exact ih _ Q E p s G ht r h
  | fork _ _=>intro Q E p s G _ _ h;exact h
  | thread k ih=>intro Q E p s G ht r h;exact ih _ Q E p s G ht r h
  | await _ _ _ _ _=>intro Q E p s G _ _ h;exact h
def asleep (G:Array GenState):Nat→Option GenState:=fun i=>match G[i]? with
  | some (.suspended k l c p fs cl)=>some (.suspended k l c p fs cl)
  | _=>none
theorem asleep_rel (G:Array GenState):Rel (asleep G) (G.map poison) G where
  size:=by simp
  off:=fun i h=>by
    rw [Array.getElem?_map]
    unfold asleep at h
    cases e:G[i]? with
    | none=>rfl
    | some x=>rw [e] at h;cases x <;> first | rfl | cases h
  on:=fun i x h=>by
    rw [Array.getElem?_map]
    unfold asleep at h
    cases e:G[i]? with
    | none=>rw [e] at h;cases h
    | some y=>rw [e] at h;cases y <;> first | (cases h;done) | (cases h;exact ⟨rfl,rfl,_,_,_,_,_,_,rfl⟩)
theorem asleep_tame (G:Array GenState):Tame (asleep G) (G.map poison):=fun i k l c p fs cl e hd=>by
  rw [Array.getElem?_map] at e
  unfold asleep at hd
  cases e2:G[i]? with
  | none=>rw [e2] at e;cases e
  | some y=>rw [e2] at e hd;cases y <;> first | (cases e;done) | (cases hd;done)
def Kept (G G':Array GenState):Prop:=∀ i x,asleep G i=some x→G'[i]? = some x
theorem wpAny_asleep {α:Type} {M:Model} {A:Around} {t:Sem α} {s:Shared} {Q:α→Shared→Prop} {E:Value→Shared→Prop} (h:wpAny M A t Q E { s with gens:=s.gens.map poison }) :
    wpAny M A t (fun a s'=>Kept s.gens s'.gens∧∃ A',Rel (asleep s.gens) A' s'.gens∧Q a { s' with gens:=A' }) (fun e s'=>Kept s.gens s'.gens∧∃ A',Rel (asleep s.gens) A' s'.gens∧E e { s' with gens:=A' }) s:=by
  intro Γ p hΓ
  have:=wp_frame M (asleep s.gens) Γ t _ _ p { s with gens:=s.gens.map poison } s.gens (asleep_tame s.gens) (asleep_rel s.gens) (h Γ p hΓ)
  refine Sem.wp_mono M _ _ (fun a p' s' hq=>?_) (fun e p' s' hq=>?_) _ _ this
  · obtain ⟨A',_,r,q⟩:=hq
    exact ⟨fun i x hx=>(r.on i x hx).2.1,A',r,q⟩
  · obtain ⟨A',_,r,q⟩:=hq
    exact ⟨fun i x hx=>(r.on i x hx).2.1,A',r,q⟩
end RgF

namespace RgF
open PySem
open Sem (wp)
def SegP (M:Model) (A:Around) (Φ:End→Shared→Prop) (c:Code) (t:Sem PySem.Fin) (fs:List Frame) (s:Shared):Prop:=∀ Γ p,Γ.code=c→Γ.Woken A→∃ e s',Runs M Γ p t fs s e s'∧Φ e s'
section
variable {M:Model} {A:Around} {Φ Φ':End→Shared→Prop} {c:Code} {fs:List Frame} {s:Shared}
theorem SegP.mono {t:Sem PySem.Fin} (h:SegP M A Φ c t fs s) (w:∀ e s',Φ e s'→Φ' e s'):SegP M A Φ' c t fs s:=fun Γ p hc hΓ=>let ⟨e,s',hr,q⟩:=h Γ p hc hΓ;⟨e,s',hr,w e s' q⟩
variable {env:Env} {K:Flow→Sem PySem.Fin} {H:Value→Sem PySem.Fin} {gd:Bool→Bool} {lv:List Value→List Value}
end
section
variable {prog:Program} {w:World} {A:Around} {Φ:End→Shared→Prop} {fs:List Frame} {s:Shared} {env:Env}
end
end RgF

namespace RgF
open PySem PySem.Spec L2 Rc GenW
open PyProof.Rows hiding St
def trunc (h:Heap) (n:Nat):Heap:={ h with objs:=h.objs.extract 0 n }
theorem trunc_lt {h:Heap} {n b:Nat} (hb:b < n):(trunc h n).get? b=h.get? b:=by
  unfold trunc Heap.get?
  have e:(h.objs.extract 0 n)[b]? = h.objs[b]?:=by
    rw [Array.getElem?_extract]
    by_cases q:b < h.objs.size
    · rw [if_pos (by omega)];simp
    · rw [if_neg (by omega)]
      symm
      exact Array.getElem?_eq_none (by omega)
  dsimp only
  rw [e]
theorem trunc_ge {h:Heap} {n b:Nat} (hb:n≤b):(trunc h n).get? b=none:=by
  refine Heap.get?_none_of_le ?_
  unfold trunc
  simp
  omega
theorem trunc_some {h:Heap} {n b:Nat} {o:Obj} (e:(trunc h n).get? b=some o):b < n∧h.get? b=some o:=by
  by_cases hb:b < n
  · exact ⟨hb,by rw [← trunc_lt hb];exact e⟩
  · rw [trunc_ge (by omega)] at e;cases e
theorem trunc_size {h:Heap} {n:Nat} (hn:n≤h.objs.size):(trunc h n).objs.size=n:=by
  unfold trunc
  simp
  omega
structure GP where
  prog:Program
  w:World
  K:PySem.W.Frag
  mg:Str→Option Value
  base:Heap
  N:List Str
  env:Env
  outer:List Env
  A:Around
abbrev GP.ki (p:GP):Ki:=⟨p.K,p.prog,p.w⟩
abbrev GP.md (p:GP):Model:=model p.prog p.w
open Classical in
def GP.cut (p:GP) (H:Hp):Hp:=fun b=>if b < p.env.locals∨∃ ps,H b=some (.tbl ps) then H b else none
theorem GP.cut_lt {p:GP} {H:Hp} {b:Addr} (h:b < p.env.locals):p.cut H b=H b:=if_pos (.inl h)
theorem GP.cut_tbl {p:GP} {H:Hp} {b:Addr} {ps:Array Value} (h:H b=some (.tbl ps)):p.cut H b=some (.tbl ps):=(if_pos (.inr ⟨ps,h⟩)).trans h
def GP.s0 (p:GP) (s:Shared):Shared:={ s with heap:=trunc s.heap p.env.locals }
def GP.X (p:GP) (sw:Shared) (Hw:Hp):Cx where
  prog:=p.prog
  w:=p.w
  K:=p.K
  mg:=p.mg
  base:=p.base
  A:=p.A.deeper p.env
  N:=p.N
  s_0:=p.s0 sw
  H_0:=p.cut Hw
  env:=p.env
  outer:=p.outer
  stack:=p.env :: p.outer
  ex:=[]
  fn:=fun _=>true
  calm:=true
  pn:=[]
  xe:=fun _ _=>False
abbrev fz (F:Hp):G:=⟨F,fun _=>none⟩
structure Gh where
  g:G
  m:Mem
  H:Hp
  ep:List (Addr × Obj)
structure In (p:GP) (gh:Gh) (sw:Shared) (pins:List (Addr × Obj)) (s:Sl) (F:Hp) (σ:L2.St) (H:Hp) (sh:Shared):Prop where
  inv:Inv (p.X sw gh.H) (gh.ep++pins) σ H sh
  rs:Rs p.ki (fz F) [] H
  rl:RSl p.ki (fz F) s σ H
  st:Stp (fz gh.g.F) gh.H (fz F) H
  no:∀ (i:Nat) o,s[i]?≠some (some (.own o))
  ap:∀ q∈gh.ep,∀ r∈pins,q.1≠r.1
  yg:∀ r∈pins,p.env.locals≤r.1
  sz:p.env.locals≤sw.heap.objs.size
structure After (p:GP) (gh:Gh) (sw:Shared) (F' H':Hp) (s':Shared):Prop where
  os:s'.os=sw.os
  bare:AllBare s'.gens
  rs:Rs p.ki (fz F') [] H'
  st:Stp (fz gh.g.F) gh.H (fz F') H'
  hok:HOk p.prog p.w H' s'.heap
  un:Un (frs p.outer) [] (p.cut gh.H) H' (trunc sw.heap p.env.locals) s'.heap
  ep:∀ q∈gh.ep,s'.heap.get? q.1=some q.2∧H' q.1=none
structure Pv (p:GP) (gh:Gh) (pv:List (Addr × Obj)) (H':Hp) (s':Shared):Prop where
  at_:∀ q∈pv,s'.heap.get? q.1=some q.2∧H' q.1=none∧p.env.locals≤q.1
  ep:∀ q∈pv,∀ r∈gh.ep,r.1≠q.1
  loc:∃ o,(p.env.locals,o)∈pv
structure Wake (p:GP) (pl:List (Addr × Obj)) (F1:Hp) (gh:Gh) (sw:Shared):Prop where
  env0:Env0 p.prog p.w p.K p.mg p.base p.A p.outer sw gh.H
  rs:Rs p.ki gh.g gh.m gh.H
  F:∀ b u,F1 b=some u→gh.g.F b=some u
  pv:∀ q∈pl,sw.heap.get? q.1=some q.2∧gh.H q.1=none
  ep:∀ q∈gh.ep,sw.heap.get? q.1=some q.2∧gh.H q.1=none∧q.1∉frs p.outer∧(∀ v,q.2.data≠.cell v)∧∀ r∈pl,q.1≠r.1
def PhiF (p:GP):List MV→Gh→Shared→End→Shared→Prop
  | [],gh,sw,e,s'=>e=.ret (.ok (.ret .none))∧∃ F' H',After p gh sw F' H' s'
  | y :: L,gh,sw,e,s'=>∃ (v:Value) (l:List Value) (k:Resume→Sem PySem.Fin) (c:Code) (q:Pos) (fs:List Frame) (F' H':Hp) (x:V) (pv:List (Addr × Obj)),e=.susp v false l k c q fs∧fs.any Frame.guarded=false ∧
      After p gh sw F' H' s'∧RelV x v∧RV p.ki (fz F') y x∧Pv p gh pv H' s' ∧
      ∀ gh2 sw2,Wake p pv F' gh2 sw2→SegP p.md p.A (PhiF p L gh2 sw2) c (k (.send .none)) fs sw2
def Slp (p:GP) (L:List MV) (pl:List (Addr × Obj)) (F:Hp):GenState→Prop
  | .fresh c=>∀ gh sw,Wake p pl F gh sw→SegP p.md p.A (PhiF p L gh sw) c (p.md.den c) [] sw
  | .suspended k _ c _ fs _=>∀ gh sw,Wake p pl F gh sw→SegP p.md p.A (PhiF p L gh sw) c (k (.send .none)) fs sw
  | _=>False
section
variable {p:GP} {gh gh2:Gh} {sw sw2 sh:Shared} {pins:List (Addr × Obj)} {s:Sl} {F H:Hp} {σ:L2.St}
def cellsOf (env:Env):List Addr:=env.cells.filterMap fun q=>env.cells.lookup q.1
theorem mem_cellsOf {env:Env} {x:Str} {c:Addr} (e:env.cells.lookup x=some c):c∈cellsOf env:=List.mem_filterMap.mpr ⟨(x,c),PySem.mem_of_lookup e,e⟩
def pvOf (p:GP) (sh:Shared) (pins:List (Addr × Obj)):List (Addr × Obj):=pinsAt (p.env.locals :: cellsOf p.env) sh.heap++pins
theorem fr_old (I:Inv (p.X sw Hw) pins σ H sh) (hs:p.env.locals≤sw.heap.objs.size):∀ b∈frs p.outer,b < p.env.locals:=fun b hb=>by
  obtain ⟨_,o,ho,_⟩:=I.ok.funs.mem hb
  have e:(trunc sw.heap p.env.locals).get? b=some o:=ho
  exact (trunc_some e).1
theorem Rs.fz {K:Ki} {g:G} {m:Mem} (h:Rs K g m H):Rs K (fz g.F) [] H where
  sub:=h.sub
  gr:=fun n o e=>by simp at e
  rb:=fun n a e=>by cases e
  rj:=fun n k a e=>by cases e
  tb:=fun q hq=>by
    have t:=h.tb q hq
    exact ⟨t.ps,t.F,fun n e=>by cases e⟩
theorem Rs.none {K:Ki} {g:G} (h:Rs K g [] H):g=RgF.fz g.F:=by
  obtain ⟨F,r⟩:=g
  have:r=fun _=>Option.none:=by
    funext n
    cases e:r n with
    | none=>rfl
    | some a=>have:=(h.rb n a e).1;simp at this
  subst this
  rfl
theorem frames_trunc {h:Heap} {base:Heap} {n:Nat}:∀ {l:List Env},h.FunFrames base l→(∀ b∈frs l,b < n)→(trunc h n).FunFrames base l
  | [],_,_=>trivial
  | env :: r,hl,hb=>by
    obtain ⟨hk,⟨L,o,hf,hn,ho,hd⟩,hr⟩:=hl
    have hL:L∈frs (env :: r):=by unfold frs;rw [List.filterMap_cons,hf];exact List.mem_cons_self
    exact ⟨hk,⟨L,o,hf,hn,(trunc_lt (hb L hL)).trans ho,hd⟩,frames_trunc hr fun b h=>hb b (by unfold frs at h ⊢;rw [List.filterMap_cons,hf];exact List.mem_cons_of_mem _ h)⟩
theorem In.wake (I:In p gh sw pins s F σ H sh) (W:Wake p (pvOf p sh pins) F gh2 sw2):In p gh2 sw2 pins s gh2.g.F σ gh2.H sw2:=by
  have J:=I.inv
  obtain ⟨mL,⟨oL,es,ep,hoL,rL⟩,hloc⟩:=J.loc
  have pvL:(p.env.locals,oL)∈pvOf p sh pins:=List.mem_append_left _ (mem_pinsAt List.mem_cons_self hoL)
  have hoL2:=(W.pv _ pvL).1
  have lt2:p.env.locals < sw2.heap.objs.size:=Heap.lt_size hoL2
  have cellAt:∀ x c,p.env.cells.lookup x=some c→∀ v,sh.heap.IsCell c v→sw2.heap.IsCell c v:=fun x c e v ⟨o,ho,hd⟩ =>
    ⟨o,(W.pv (c,o) (List.mem_append_left _ (mem_pinsAt (List.mem_cons_of_mem _ (mem_cellsOf e)) ho))).1,hd⟩
  have cellN:∀ x c,p.env.cells.lookup x=some c→gh2.H c=none:=fun x c e=>by
    obtain ⟨v,o,ho,hd⟩:=J.cell x c e
    exact (W.pv (c,o) (List.mem_append_left _ (mem_pinsAt (List.mem_cons_of_mem _ (mem_cellsOf e)) ho))).2
  have old:=fr_old J I.sz
  have ok:=J.ok
  have bsz:p.base.objs.size≤p.env.locals:=Nat.le_trans ok.bsz ok.above
  have s0sz:(p.s0 sw2).heap.objs.size=p.env.locals:=trunc_size (Nat.le_of_lt lt2)
  have s0sz1:(p.s0 sw).heap.objs.size=p.env.locals:=trunc_size I.sz
  have baseLt:∀ b o,p.base.get? b=some o→b < p.env.locals:=fun b o e=>Nat.lt_of_lt_of_le (Heap.lt_size e) bsz
  refine ⟨⟨⟨ok.mod,ok.kind,ok.glob,ok.blt,Nat.le_of_eq s0sz,ok.inj,ok.has,fun x c h1 h2=>?_,ok.hd,ok.frames,ok.stk,ok.exf,fun b o e=>?_,?_,ok.noex,ok.exfs,frames_trunc W.env0.funs old,fun b hb=>?_⟩,
    rfl,W.env0.bare,⟨fun b o e n _ _=>?_,fun b o e n _ _=>?_,fun b o e n _=>?_,fun b o e _=>?_,fun b xs e=>?_,fun b o u e=>?_,fun b ps e=>?_⟩,⟨mL,⟨oL,es,ep,hoL2,rL⟩,fun i x v e1 e2 e3=>?_⟩,fun x c e=>?_,(W.pv _ pvL).2,cellN,fun q hq=>?_,W.env0.hok,J.len⟩,
    Rs.fz W.rs,⟨fun i x e=>?_,fun i o e=>absurd e (I.no i o),fun i j o u a e=>absurd e (I.no i o),I.rl.len⟩,Stp.refl _ _,I.no,fun q hq r hr=>(W.ep q hq).2.2.2.2 r (List.mem_append_right _ hr),I.yg,Nat.le_of_lt lt2⟩
  · have:=ok.cab x c h1 h2
    rw [show ((p.X sw gh.H).s_0).heap.objs.size=p.env.locals from s0sz1] at this
    show (p.s0 sw2).heap.objs.size≤c
    rw [s0sz];exact this
  · obtain ⟨h1,h2⟩:=W.env0.bs b o e
    exact ⟨(trunc_lt (baseLt b o e)).trans h1,(GP.cut_lt (baseLt b o e)).trans h2⟩
  · show p.base.objs.size≤(p.s0 sw2).heap.objs.size
    rw [s0sz];exact bsz
  · exact (GP.cut_lt (old b hb)).trans (W.env0.frf b hb)
  · exact (trunc_some e).2
  · exact ⟨o.slots,(trunc_some e).2⟩
  · have n':p.cut gh2.H b=none:=n
    rw [GP.cut_lt (trunc_some e).1] at n'
    exact n'
  · exact ⟨o,(trunc_some e).2⟩
  · have e':p.cut gh2.H b=some (.tup xs):=e
    unfold GP.cut at e'
    split at e'
    · exact e'
    · cases e'
  · have e':p.cut gh2.H b=some (.frz o u):=e
    unfold GP.cut at e'
    split at e'
    · exact e'
    · cases e'
  · have e':p.cut gh2.H b=some (.tbl ps):=e
    unfold GP.cut at e'
    split at e'
    · exact ⟨#[],by rw [e'];simp⟩
    · cases e'
  · obtain ⟨u,r,l⟩:=hloc i x v e1 e2 e3
    refine ⟨u,r,?_⟩
    rcases l with l | ⟨k,c,e,z⟩
    · exact .inl l
    · exact .inr ⟨k,c,e,cellAt x c e _ z⟩
  · obtain ⟨v,z⟩:=J.cell x c e
    exact ⟨v,cellAt x c e v z⟩
  · rcases List.mem_append.mp (show q∈gh2.ep++pins from hq) with hq | hq
    · obtain ⟨h1,h2,h3,h4,h5⟩:=W.ep q hq
      exact ⟨h1,h2,h5 _ pvL,h3,h4⟩
    · obtain ⟨h1,h2,h3,h4,h5⟩:=J.pin q (List.mem_append_right _ (List.mem_append_right _ hq))
      obtain ⟨w1,w2⟩:=W.pv q (List.mem_append_right _ hq)
      exact ⟨w1,w2,h3,h4,h5⟩
  · obtain ⟨v,h1,h2⟩:=I.rl.val i x e
    exact ⟨v,h1,RV.mono (g:=fz F) (g':=fz gh2.g.F) W.F (fun _ _ z=>z) x h2⟩
end
end RgF

namespace RgF
open PySem PySem.Spec L2 Rc GenW
open PyProof.Rows hiding St
abbrev Pl:=List (Addr × Obj)
def Pin1 (q:Addr × Obj):HO:=.ext fun h=>h.get? q.1=some q.2
def layP (H:Hp):Pl→Hp
  | []=>H
  | q :: r=>upd (layP H r) q.1 (Pin1 q)
def offP (H:Hp) (pl:Pl):Hp:=fun b=>if b∈pl.map (·.1) then none else H b
theorem offP_in {H:Hp} {pl:Pl} {b:Addr} (h:b∈pl.map (·.1)):offP H pl b=none:=if_pos h
theorem offP_out {H:Hp} {pl:Pl} {b:Addr} (h:b∉pl.map (·.1)):offP H pl b=H b:=if_neg h
theorem layP_out {H:Hp}:∀ {pl:Pl} {b:Addr},b∉pl.map (·.1)→layP H pl b=H b
  | [],_,_=>rfl
  | q :: r,b,h=>by
    have h1:b≠q.1:=fun z=>h (by rw [z];exact List.mem_cons_self)
    have h2:b∉r.map (·.1):=fun z=>h (List.mem_cons_of_mem _ z)
    show upd (layP H r) q.1 (Pin1 q) b=_
    rw [upd_ne h1,layP_out h2]
def OneP (pl:Pl):Prop:=∀ q∈pl,∀ r∈pl,q.1=r.1→q.2=r.2
theorem OneP.of {h:Heap} {pl:Pl} (e:∀ q∈pl,h.get? q.1=some q.2):OneP pl:=fun q hq r hr z=>by
  have a:=e q hq
  rw [z,e r hr] at a
  exact (Option.some.inj a).symm
theorem layP_at {H:Hp}:∀ {pl:Pl} {q:Addr × Obj},OneP pl→q∈pl→layP H pl q.1=some (Pin1 q)
  | [],_,_,h=>by cases h
  | p :: r,q,o,h=>by
    show upd (layP H r) p.1 (Pin1 p) q.1=_
    by_cases z:q.1=p.1
    · have e2:=o q h p List.mem_cons_self z
      have e:q=p:=Prod.ext z e2
      rw [e,upd_same]
    · rw [upd_ne z]
      rcases List.mem_cons.mp h with h | h
      · rw [h] at z;exact absurd rfl z
      · exact layP_at (fun a ha b hb=>o a (List.mem_cons_of_mem _ ha) b (List.mem_cons_of_mem _ hb)) h
theorem layP_some {H:Hp} {pl:Pl} {b:Addr} (o:OneP pl) (h:b∈pl.map (·.1)):∃ q∈pl,q.1=b∧layP H pl b=some (Pin1 q):=by
  obtain ⟨q,hq,rfl⟩:=List.mem_map.mp h
  exact ⟨q,hq,rfl,layP_at o hq⟩
theorem pin1_ok {P:Program} {w:World} {H:Hp} {h:Heap} {q:Addr × Obj} (e:h.get? q.1=some q.2):ObjOk P w H h q.1 (Pin1 q):=⟨e,⟨_,e⟩,fun _ _ e1 k=>k _ e1⟩
theorem pin1_nt (q:Addr × Obj):NTbl (Pin1 q):=fun ps z=>by cases z
theorem off_lay {H:Hp} {pl:Pl} (h:∀ q∈pl,H q.1=none):offP (layP H pl) pl=H:=by
  funext b
  by_cases z:b∈pl.map (·.1)
  · rw [offP_in z]
    obtain ⟨q,hq,rfl⟩:=List.mem_map.mp z
    exact (h q hq).symm
  · rw [offP_out z,layP_out z]
theorem lay_off {H:Hp} {pl:Pl} (o:OneP pl) (h:∀ q∈pl,H q.1=some (Pin1 q)):layP (offP H pl) pl=H:=by
  funext b
  by_cases z:b∈pl.map (·.1)
  · obtain ⟨q,hq,rfl,e⟩:=layP_some (H:=offP H pl) o z
    rw [e,h q hq]
  · rw [layP_out z,offP_out z]
section
variable {P:Program} {w:World} {H:Hp} {h:Heap} {pl:Pl}
theorem objok_to {H':Hp} {a:Addr} {o:HO} (x:ObjOk P w H h a o) (ho:∀ b y,H b=some (.own y)→H' b=some (.own y)) (ht:∀ b xs,H b=some (.tup xs)→H' b=some (.tup xs)):ObjOk P w H' h a o:=x.stay (fun _ _ _ q=>q) (fun b e=>ho b _ e) ht
theorem hok_lay (ok:HOk P w H h) (n:∀ q∈pl,H q.1=none) (e:∀ q∈pl,h.get? q.1=some q.2):HOk P w (layP H pl) h:=fun a o x=>by
  have out:∀ {b:Addr} {u:HO},H b=some u→layP H pl b=some u:=fun {b u} x=>by
    rw [layP_out fun z=>?_];exact x
    obtain ⟨q,hq,rfl⟩:=List.mem_map.mp z
    rw [n q hq] at x;cases x
  by_cases z:a∈pl.map (·.1)
  · obtain ⟨q,hq,rfl,e2⟩:=layP_some (H:=H) (OneP.of e) z
    rw [e2] at x;cases x
    exact pin1_ok (e q hq)
  · rw [layP_out z] at x
    exact objok_to (ok a o x) (fun b y q=>out q) fun b xs q=>out q
theorem hok_off (ok:HOk P w H h) (n:∀ q∈pl,H q.1=some (Pin1 q)):HOk P w (offP H pl) h:=fun a o x=>by
  have out:∀ {b:Addr} {u:HO},H b=some u→(∀ q,u≠Pin1 q)→offP H pl b=some u:=fun {b u} x ne=>by
    rw [offP_out fun z=>?_];exact x
    obtain ⟨q,hq,rfl⟩:=List.mem_map.mp z
    rw [n q hq] at x;cases x
    exact ne q rfl
  by_cases z:a∈pl.map (·.1)
  · rw [offP_in z] at x;cases x
  · rw [offP_out z] at x
    exact objok_to (ok a o x) (fun b y q=>out q fun q z=>by cases z) fun b xs q=>out q fun q z=>by cases z
theorem pin1_get (ok:HOk P w H h) {q:Addr × Obj} (e:H q.1=some (Pin1 q)):h.get? q.1=some q.2:=(ok q.1 _ e).1
end
section
variable {K:Ki} {g g':G} {m m':Mem} {H H':Hp} {pl:Pl}
structure Hid (g:G) (H:Hp) (pl:Pl):Prop where
  n:∀ q∈pl,H q.1=none
  o:OneP pl
theorem Hid.out (h:Hid g H pl) {b:Addr} {u:HO} (e:H b=some u):b∉pl.map (·.1):=fun z=>by
  obtain ⟨q,hq,rfl⟩:=List.mem_map.mp z
  rw [h.n q hq] at e;cases e
theorem Hid.lay (h:Hid g H pl) {b:Addr} {u:HO} (e:H b=some u):layP H pl b=some u:=by rw [layP_out (h.out e)];exact e
theorem Hid.F (h:Hid g H pl) (rs:Rs K g m H) {q:Addr × Obj} (hq:q∈pl):g.F q.1=none∧∀ n,g.r n≠some q.1:=rs.free (h.n q hq)
theorem Hid.rs (h:Hid g H pl) (rs:Rs K g m H):Rs K g m (layP H pl):=by
  refine ⟨fun a u e=>h.lay (rs.sub a u e),fun n u e=>?_,fun n a e=>?_,rs.rj,fun q hq=>?_⟩
  · obtain ⟨a,e1,e2,e3⟩:=rs.gr n u e
    obtain ⟨w,hw⟩:=e3.some
    exact ⟨a,e1,e2,ObjR.grow e3 (fun _ _ e=>e) (fun _ _ e=>e) (layP_out (h.out hw))⟩
  · obtain ⟨h1,h2⟩:=rs.rb n a e
    refine ⟨h1,fun z=>h2 ?_⟩
    cases q:H a with
    | none=>rfl
    | some u=>rw [h.lay q] at z;cases z
  · have t:=rs.tb q hq
    obtain ⟨ps,e,_⟩:=t.ps
    exact t.go (layP_out (h.out e)) (fun _ _ e=>e) t.F t.r
theorem Hid.rl {s:Sl} {σ:L2.St} (h:Hid g H pl) (rl:RSl K g s σ H):RSl K g s σ (layP H pl):=by
  refine ⟨rl.val,fun i o e=>?_,rl.dis,rl.len⟩
  obtain ⟨a,e1,e2,e3⟩:=rl.own i o e
  obtain ⟨w,hw⟩:=e2.some
  exact ⟨a,e1,ObjR.grow e2 (fun _ _ e=>e) (fun _ _ e=>e) (layP_out (h.out hw)),e3⟩
structure Seen (K:Ki) (g:G) (H:Hp) (g':G) (H':Hp) (pl:Pl):Prop where
  hid:Hid g' (offP H' pl) pl
  eq:layP (offP H' pl) pl=H'
  st:Stp g H g' (offP H' pl)
theorem Hid.step (h:Hid g H pl) (rs:Rs K g m H) (st:Stp g (layP H pl) g' H') (rs':Rs K g' m' H'):Seen K g H g' H' pl∧Rs K g' m' (offP H' pl):=by
  have keep:∀ q∈pl,H' q.1=some (Pin1 q):=fun q hq=>st.keep q.1 _ (layP_at h.o hq) (h.F rs hq).2 (pin1_nt q)
  have hF:∀ q∈pl,g'.F q.1=none:=fun q hq=>by
    cases z:g'.F q.1 with
    | none=>rfl
    | some u =>
      rcases st.Fn q.1 (by rw [z];simp) with y | y | ⟨n,y⟩ | ⟨ys,y⟩
      · exact absurd (h.F rs hq).1 y
      · rw [layP_at h.o hq] at y;cases y
      · exact absurd y ((h.F rs hq).2 n)
      · rw [keep q hq] at y;cases y
  have hr:∀ q∈pl,∀ n,g'.r n≠some q.1:=fun q hq n z=>by
    rcases st.rn n q.1 z with y | y
    · exact (h.F rs hq).2 n y
    · rw [layP_at h.o hq] at y;cases y
  have out:∀ {b:Addr},(∀ q∈pl,q.1≠b)→offP H' pl b=H' b:=fun {b} z=>offP_out fun y=>by
    obtain ⟨q,hq,rfl⟩:=List.mem_map.mp y
    exact z q hq rfl
  have outS:∀ {b:Addr} {u:HO},H' b=some u→(∀ q,u≠Pin1 q)→offP H' pl b=some u:=fun {b u} e ne=>by
    rw [out fun q hq z=>?_];exact e
    rw [← z,keep q hq] at e;cases e
    exact ne q rfl
  have rso:Rs K g' m' (offP H' pl):=by
    refine ⟨fun a u e=>?_,fun n u e=>?_,fun n a e=>?_,rs'.rj,fun q hq=>?_⟩
    · rw [out fun q hq z=>by rw [← z,hF q hq] at e;cases e]
      exact rs'.sub a u e
    · obtain ⟨a,e1,e2,e3⟩:=rs'.gr n u e
      exact ⟨a,e1,e2,ObjR.grow e3 (fun _ _ e=>e) (fun _ _ e=>e) (out fun q hq z=>hr q hq n (by rw [z];exact e1))⟩
    · obtain ⟨h1,h2⟩:=rs'.rb n a e
      exact ⟨h1,by rw [out fun q hq z=>hr q hq n (by rw [z];exact e)];exact h2⟩
    · have t:=rs'.tb q hq
      obtain ⟨ps,e,_⟩:=t.ps
      exact t.go ((outS e fun q z=>by cases z).trans e.symm) (fun _ _ e=>e) t.F t.r
  refine ⟨⟨⟨fun q hq=>offP_in (List.mem_map.mpr ⟨q,hq,rfl⟩),h.o⟩,lay_off h.o keep,⟨st.F,st.r,fun b u e hn nt=>?_,fun b e=>?_,fun b e=>?_,fun n b e=>?_⟩⟩,rso⟩
  · rw [offP_out (h.out e)]
    exact st.keep b u (h.lay e) hn nt
  · cases q:H b with
    | none=>exact absurd q e
    | some u =>
      rw [offP_out (h.out q)]
      exact st.dom b (by rw [h.lay q];simp)
  · rcases st.Fn b e with y | y | y | ⟨ys,y⟩
    · exact .inl y
    · refine .inr (.inl ?_)
      cases q:H b with
      | none=>rfl
      | some u=>rw [h.lay q] at y;cases y
    · exact .inr (.inr (.inl y))
    · exact .inr (.inr (.inr ⟨ys,outS y fun q z=>by cases z⟩))
  · rcases st.rn n b e with y | y
    · exact .inl y
    · refine .inr ?_
      cases q:H b with
      | none=>rfl
      | some u=>rw [h.lay q] at y;cases y
end
end RgF

namespace RgF
open PySem PySem.Spec L2 Rc GenW
open PyProof.Rows hiding St
theorem there_of {P:Program} {w:World} {H:Hp} {h:Heap} {a:Addr} {o:HO} (x:ObjOk P w H h a o):∃ ob,h.get? a=some ob:=by
  cases o with
  | lst xs=>obtain ⟨_,_,_,_,e⟩:=x;exact ⟨_,e⟩
  | tup xs=>obtain ⟨_,_,_,ob,e,_⟩:=x;exact ⟨_,e⟩
  | dK kvs=>obtain ⟨_,_,_,_,o,_,_,e,_⟩:=x;exact ⟨_,e⟩
  | dT kvs=>obtain ⟨_,_,_,_,o,_,_,e,_⟩:=x;exact ⟨_,e⟩
  | set S n=>obtain ⟨o,_,_,_,e,_⟩:=x;exact ⟨_,e⟩
  | ins C dx fs=>obtain ⟨_,_,_,e,_⟩:=x;exact ⟨_,e⟩
  | own y=>exact x
  | xd fs=>obtain ⟨_,⟨_,_,_,e,_⟩,_⟩:=x;exact ⟨_,e⟩
  | rng lo hi=>obtain ⟨_,_,_,e⟩:=x;exact ⟨_,e⟩
  | frz ob u=>obtain ⟨e,_⟩:=x;exact ⟨_,e⟩
  | tbl ps=>exact ⟨_,(show h.get? a=some _ from x)⟩
  | met f y=>exact ⟨_,(show h.get? a=some _ from x)⟩
  | ext φ=>exact x.2.1
def isSusp:GenState→Bool
  | .suspended ..=>true
  | _=>false
theorem Slp.mono {p:GP} {L:List MV} {pl pl2:Pl} {F:Hp} {gs:GenState} (h:Slp p L pl F gs) (s:∀ q∈pl,q∈pl2):Slp p L pl2 F gs:=by
  have w:∀ {gh sw},Wake p pl2 F gh sw→Wake p pl F gh sw:=fun {gh sw} W=>⟨W.env0,W.rs,W.F,fun q hq=>W.pv q (s q hq),fun q hq=>let ⟨a,b,c,d,e⟩:=W.ep q hq;⟨a,b,c,d,fun r hr=>e r (s r hr)⟩⟩
  cases gs with
  | fresh c=>exact fun gh sw W=>h gh sw (w W)
  | suspended k l c q fs cl=>exact fun gh sw W=>h gh sw (w W)
  | running=>exact h
  | finished=>exact h
theorem next_gen {p:GP} {A:Around} {a:Addr} {gi:Nat} {L:List MV} {pl:Pl} {F:Hp} {gs:GenState} {gh:Gh} {s:Shared} {Q:Option Value→Shared→Prop} {E:Value→Shared→Prop} (hA:p.A=A.in1) (hh:A.handled=none) (hl:s.heap.NoLimit) (hroom:A.depth < recursionLimit)
    (hg:s.heap.IsGen a gi) (hgs:s.gens[gi]? = some gs) (hs:Slp p L pl F gs) (W:Wake p pl F gh (s.setGen gi .running))
    (hN:L=[]→∀ s1 F' H' h',After p gh (s.setGen gi .running) F' H' s1→(∀ b o,s1.heap.get? b=some o→h'.get? b=some o)→Q none { s1.setGen gi .finished with heap:=h' })
    (hY:∀ y L',L=y :: L'→∀ v s1 F' H' x pv gs',After p gh (s.setGen gi .running) F' H' s1→RelV x v→RV p.ki (fz F') y x→Pv p gh pv H' s1→Slp p L' pv F' gs'→isSusp gs'=true→gs'.bare=true→Q (some v) (s1.setGen gi gs')) :
    wpAny p.md A (pyNext (.ref a)) Q E s:=by
  have key:∀ (Γ:PySem.Ctx) (q:Pos),Γ.In A.in1→∃ res s',Wakes p.md Γ q gi (.send .none) s res s'∧((res=.returned .none∧L=[]∧∃ s1 F' H',After p gh (s.setGen gi .running) F' H' s1∧s'=s1.setGen gi .finished) ∨
      ∃ y L' v s1 F' H' x pv gs',res=.yielded v∧L=y :: L'∧After p gh (s.setGen gi .running) F' H' s1∧RelV x v∧RV p.ki (fz F') y x∧Pv p gh pv H' s1∧Slp p L' pv F' gs'∧isSusp gs'=true∧gs'.bare=true∧s'=s1.setGen gi gs'):=by
    intro Γ q hΓ
    have fin:∀ (e:End) (s1:Shared),PhiF p L gh (s.setGen gi .running) e s1→e.quiet=true∧((e.result=.returned .none∧L=[]∧∃ F' H',After p gh (s.setGen gi .running) F' H' s1∧e.genState=.finished) ∨
        ∃ y L' v F' H' x pv,e.result=.yielded v∧L=y :: L'∧After p gh (s.setGen gi .running) F' H' s1∧RelV x v∧RV p.ki (fz F') y x∧Pv p gh pv H' s1∧Slp p L' pv F' e.genState∧isSusp e.genState=true∧e.genState.bare=true):=by
      intro e s1 hp
      cases L with
      | nil =>
        obtain ⟨rfl,F',H',a1⟩:=hp
        exact ⟨rfl,.inl ⟨rfl,rfl,F',H',a1,rfl⟩⟩
      | cons y L' =>
        obtain ⟨v,l,k,c,q',fs,F',H',x,pv,rfl,hq,a1,a2,a3,a4,a5⟩:=hp
        have hqt:(End.susp v false l k c q' fs).quiet=true:=by
          show (!(false || fs.any Frame.guarded))=true
          rw [hq];rfl
        exact ⟨hqt,.inr ⟨y,L',v,F',H',x,pv,rfl,rfl,a1,a2,a3,a4,a5,rfl,End.bare_of_quiet hqt⟩⟩
    have hs':∀ (e:End) (s1:Shared),PhiF p L gh (s.setGen gi .running) e s1→∀ res s',res=e.result→s'=s1.setGen gi e.genState→((res=.returned .none∧L=[]∧∃ s1 F' H',After p gh (s.setGen gi .running) F' H' s1∧s'=s1.setGen gi .finished) ∨
      ∃ y L' v s1 F' H' x pv gs',res=.yielded v∧L=y :: L'∧After p gh (s.setGen gi .running) F' H' s1∧RelV x v∧RV p.ki (fz F') y x∧Pv p gh pv H' s1∧Slp p L' pv F' gs'∧isSusp gs'=true∧gs'.bare=true∧s'=s1.setGen gi gs'):=by
      intro e s1 hp res s' e1 e2
      rcases (fin e s1 hp).2 with ⟨h1,h2,F',H',h3,h4⟩ | ⟨y,L',v,F',H',x,pv,h1,h2,h3,h4,h5,h6,h7,h8,h9⟩
      · exact .inl ⟨e1.trans h1,h2,s1,F',H',h3,by rw [e2,h4]⟩
      · exact .inr ⟨y,L',v,s1,F',H',x,pv,_,e1.trans h1,h2,h3,h4,h5,h6,h7,h8,h9,e2⟩
    cases gs with
    | running=>exact hs.elim
    | finished=>exact hs.elim
    | fresh c =>
      obtain ⟨e1,s1,hr,hp⟩:=hs gh _ W (Γ.wake c q) q rfl (by rw [hA];exact hΓ.wake c q)
      exact ⟨e1.result,s1.setGen gi e1.genState,by unfold Wakes;rw [hgs];exact ⟨e1,s1,hr,(fin e1 s1 hp).1,rfl,rfl⟩,hs' e1 s1 hp _ _ rfl rfl⟩
    | suspended k l c q0 fs cl =>
      obtain ⟨e1,s1,hr,hp⟩:=hs gh _ W (Γ.wake c q) q0 rfl (by rw [hA];exact hΓ.wake c q)
      exact ⟨e1.result,s1.setGen gi e1.genState,by unfold Wakes;rw [hgs];exact ⟨e1,s1,hr,(fin e1 s1 hp).1,rfl,rfl⟩,hs' e1 s1 hp _ _ rfl rfl⟩
  unfold pyNext
  refine wpAny_bind (wpAny_attempt (wpAny_callSpecial?_slot (name:=Str.ofString "__next__") hg.typeIs slot_gen_next
    (wpAny_call_entry slot_gen_next hg.typeIs entry_gen_next ?_ (args_gen_next _))))
  show wpAny _ A.in1 (Builtin.Generator.genWake (.ref a) (.send .none)) _ _ s
  unfold Builtin.Generator.genWake
  refine wpAny_bind (wpAny_holding (wpAny_genNumber hg (wpAny_bind (wpAny_genState hgs ?_))))
  have go:∀ {α:Type} (k:GenResult→Sem α) (R:α→Shared→Prop) (E:Value→Shared→Prop),
      (L=[]→∀ s1 F' H',After p gh (s.setGen gi .running) F' H' s1→wpAny p.md A.in1 (k (.returned .none)) R E (s1.setGen gi .finished)) →
      (∀ y L',L=y :: L'→∀ v s1 F' H' x pv gs',After p gh (s.setGen gi .running) F' H' s1→RelV x v→RV p.ki (fz F') y x→Pv p gh pv H' s1→Slp p L' pv F' gs'→isSusp gs'=true→gs'.bare=true→wpAny p.md A.in1 (k (.yielded v)) R E (s1.setGen gi gs')) →
      ∀ l,wpAny p.md A.in1 (.resume gi (.send .none) l k) R E s:=by
    intro α k R E h1 h2 l Γ q hΓ
    rw [Sem.wp_resume]
    obtain ⟨res,s',hw,hc⟩:=key Γ q hΓ
    refine ⟨res,s',hw,?_⟩
    rcases hc with ⟨rfl,hL,s1,F',H',ha,rfl⟩ | ⟨y,L',v,s1,F',H',x,pv,gs',rfl,hL,ha,rx,ry,hp,hsl,hb,hb2,rfl⟩
    · exact h1 hL s1 F' H' ha Γ q hΓ
    · exact h2 y L' hL v s1 F' H' x pv gs' ha rx ry hp hsl hb hb2 Γ q hΓ
  cases gs with
  | running=>exact hs.elim
  | finished=>exact hs.elim
  | _ =>
    refine wpAny_bind (wpAny_roomToWake hl hroom ?_)
    show wpAny _ A.in1 (.resume gi (.send .none) [] _) _ _ s
    refine go _ _ _ (fun hL s1 F' H' ha=>?_) (fun y L' hL v s1 F' H' x pv gs' ha rx ry hp hsl hb hb2=>?_) []
    · show wpAny _ A.in1 (newExc (.type "StopIteration") [] >>= _) _ _ _
      refine wpAny_bind ?_
      simp only [newExc,newTuple]
      refine wpAny_bind (wpAny_newObj_type ?_ (by size_fits))
      refine wpAny_bind (m:=firstArgMember _ _) (wpAny_of_eq (a:=Value.none) (by first | rfl | (simp only [firstArgMember];rfl)) ?_)
      refine wpAny_newObj_type ?_ (by size_fits)
      simp only [raiseNew]
      refine wpAny_bind (wpAny_bind (wpAny_handled ?_))
      first | rw [show A.in1.handled=none from hh] | rw [hh]
      refine wpAny_throw ?_
      refine wpAny_bind (wpAny_isInstance (T:="StopIteration") (b:=true) ⟨_,Heap.get?_push_size _ rfl,rfl⟩ isSubtype_stop ?_)
      exact wpAny_pure (hN hL s1 F' H' _ ha fun b o hb=>Heap.get?_push_of_some _ (Heap.get?_push_of_some _ hb))
    · exact wpAny_pure ⟨v,rfl,wpAny_pure (hY y L' hL v s1 F' H' x pv gs' ha rx ry hp hsl hb hb2)⟩
structure Lie (p:GP) (X:Cx) (s:Shared) (G:Hp) (pl:Pl):Prop where
  prog:p.prog=X.prog
  w:p.w=X.w
  K:p.K=X.K
  mg:p.mg=X.mg
  base:p.base=X.base
  A:p.A=X.A.in1
  outer:p.outer=X.stack
  loc:X.env.locals < p.env.locals∨X.env.locals∉frs X.stack
  cell:∀ x c,X.env.cells.lookup x=some c→c < p.env.locals
  young:∀ b,p.env.locals≤b→b < X.s_0.heap.objs.size→(G b=none∨b∈pl.map (·.1))→b∈X.ex∨b=X.env.locals
  ge:∀ q∈pl,p.env.locals≤q.1
def keepOf (X:Cx) (pins:Pl) (h:Heap):Pl:=(X.pn++pins)++(if X.env.locals∈frs X.stack then [] else pinsAt [X.env.locals] h)
section
variable {p:GP} {X:Cx} {pins:Pl} {σ:L2.St} {V:Hp} {pl pv:Pl} {s s1:Shared} {g:G} {m:Mem} {F' H':Hp}
theorem keep_mem {h:Heap} {q:Addr × Obj} (hq:q∈keepOf X pins h):q∈X.pn++pins∨(q.1=X.env.locals∧X.env.locals∉frs X.stack∧h.get? q.1=some q.2):=by
  rcases List.mem_append.mp hq with z | z
  · exact .inl z
  · split at z
    · cases z
    · rename_i ne
      obtain ⟨h1,h2⟩:=of_pinsAt z
      exact .inr ⟨List.mem_singleton.mp h1,ne,h2⟩
theorem Lie.wake (l:Lie p X s (layP V pl) pl) (I:Inv X pins σ (layP V pl) s) (hid:Hid g V pl) (rs:Rs p.ki g m V) {F:Hp} (hF:∀ b u,F b=some u→g.F b=some u) {gi:Nat}:Wake p pl F ⟨g,m,V,keepOf X pins s.heap⟩ (s.setGen gi .running):=by
  have vn:∀ {b:Addr},layP V pl b=none→V b=none:=fun {b} e=>by
    cases q:V b with
    | none=>rfl
    | some u=>rw [hid.lay q] at e;cases e
  have gp:∀ q∈pl,s.heap.get? q.1=some q.2:=fun q hq=>pin1_get I.hok (layP_at hid.o hq)
  refine ⟨⟨?_,?_,fun b o e=>?_,?_,?_,fun b hb=>?_,?_,allBare_setGen I.bare rfl⟩,rs,hF,fun q hq=>⟨gp q hq,hid.n q hq⟩,fun q hq=>?_⟩
  · rw [l.A,l.outer];exact I.ok.frames
  · rw [l.K,l.mg,l.base];exact I.mod
  · rw [l.base] at e
    obtain ⟨h1,h2⟩:=I.bs b o e
    exact ⟨h1,vn h2⟩
  · rw [l.base]
    exact Nat.le_trans I.ok.bsz I.sz
  · rw [l.base,l.outer];exact I.stack
  · rw [l.outer] at hb
    exact vn (I.stkFree b hb)
  · rw [l.prog,l.w]
    have:=hok_off (pl:=pl) I.hok fun q hq=>layP_at hid.o hq
    rw [off_lay hid.n] at this
    exact this
  · have ne:∀ {b:Addr},layP V pl b=none→∀ r∈pl,b≠r.1:=fun {b} e r hr z=>by rw [z,layP_at hid.o hr] at e;cases e
    rcases keep_mem hq with z | ⟨z1,z2,z3⟩
    · obtain ⟨h1,h2,h3,h4,h5⟩:=I.pin q z
      refine ⟨h1,vn h2,fun y=>?_,h5,ne h2⟩
      rw [l.outer] at y
      rcases List.mem_cons.mp (I.stkSub _ y) with y | y
      · exact h3 y
      · exact h4 y
    · obtain ⟨mm,⟨o,es,ep,ho,hd,_⟩,_⟩:=I.loc
      refine ⟨z3,by rw [z1];exact vn I.free,by rw [l.outer,z1];exact z2,fun v y=>?_,ne (by rw [z1];exact I.free)⟩
      rw [z1,ho] at z3
      cases z3
      rw [hd] at y;cases y
theorem Lie.back (l:Lie p X s (layP V pl) pl) (I:Inv X pins σ (layP V pl) s) (hid:Hid g V pl) {gi:Nat} (a:After p ⟨g,m,V,keepOf X pins s.heap⟩ (s.setGen gi .running) F' H' s1) (h1:∀ q∈pv,s1.heap.get? q.1=some q.2∧H' q.1=none∧p.env.locals≤q.1) (h2:∀ q∈pv,∀ r∈keepOf X pins s.heap,r.1≠q.1)
    {G':Array GenState} (hG:AllBare G'):Inv X pins σ (layP H' pv) { s1 with gens:=G' }:=by
  obtain ⟨hp,gg,dd,tt,oo⟩:=s1
  have eo:oo=s.os:=a.os
  subst eo
  have vn:∀ {b:Addr},layP V pl b=none→V b=none:=fun {b} e=>by
    cases q:V b with
    | none=>rfl
    | some u=>rw [hid.lay q] at e;cases e
  have hidv:Hid g H' pv:=⟨fun q hq=>(h1 q hq).2.1,OneP.of fun q hq=>(h1 q hq).1⟩
  have out:∀ {b:Addr},b < p.env.locals→layP H' pv b=H' b:=fun {b} z=>layP_out fun y=>by
    obtain ⟨q,hq,rfl⟩:=List.mem_map.mp y
    exact absurd z (Nat.not_lt.mpr (h1 q hq).2.2)
  have okH:HOk X.prog X.w H' hp:=by have:=a.hok;rw [l.prog,l.w] at this;exact this
  have okL:HOk X.prog X.w (layP H' pv) hp:=hok_lay okH hidv.n fun q hq=>(h1 q hq).1
  have tr:∀ {b:Addr} {o:Obj},b < p.env.locals→s.heap.get? b=some o→(trunc (s.setGen gi .running).heap p.env.locals).get? b=some o:=fun {b o} z e=>(trunc_lt z).trans e
  -- old and not tracked
  have oldAny:∀ {b:Addr} {o:Obj},b < p.env.locals→s.heap.get? b=some o→layP V pl b=none→(∃ sl,hp.get? b=some { o with slots:=sl })∧layP H' pv b=none∧(b∉frs X.stack→hp.get? b=some o):=fun {b o} z e n=>by
    have n2:p.cut V b=none:=(GP.cut_lt z).trans (vn n)
    refine ⟨a.un.any (tr z e) n2 (by simp),(out z).trans (a.un.free b o (tr z e) n2 (by simp)),fun nb=>a.un.keep b o (tr z e) n2 (by rw [l.outer];exact nb) (by simp)⟩
  have epAny:∀ q∈keepOf X pins s.heap,hp.get? q.1=some q.2∧layP H' pv q.1=none:=fun q hq=>by
    obtain ⟨y1,y2⟩:=a.ep q hq
    refine ⟨y1,?_⟩
    rw [layP_out fun z=>?_];exact y2
    obtain ⟨r,hr,e⟩:=List.mem_map.mp z
    exact h2 r hr q hq e.symm
  have locAt:∃ o sl,s.heap.get? X.env.locals=some o∧hp.get? X.env.locals=some { o with slots:=sl }∧layP H' pv X.env.locals=none:=by
    obtain ⟨mm,⟨o,es,ep,ho,hd,_⟩,_⟩:=I.loc
    by_cases z:X.env.locals∈frs X.stack
    · have lt:=l.loc.resolve_right fun y=>y z
      obtain ⟨⟨sl,y1⟩,y2,_⟩:=oldAny lt ho I.free
      exact ⟨o,sl,ho,y1,y2⟩
    · have hm:(X.env.locals,o)∈keepOf X pins s.heap:=by
        refine List.mem_append_right _ ?_
        rw [if_neg z]
        exact mem_pinsAt List.mem_cons_self ho
      obtain ⟨y1,y2⟩:=epAny _ hm
      exact ⟨o,o.slots,ho,y1,y2⟩
  refine Inv.step (s:=s) (h':=hp) (H':=layP H' pv) (H:=layP V pl) (g':=G') (d':=dd) (t':=tt) (ch:=(List.range (max s.heap.objs.size X.s_0.heap.objs.size)).filter fun b=>decide (p.env.locals≤b)&&decide (b≠X.env.locals)&&decide (b∉(X.pn++pins).map (·.1))&&((layP V pl b).isNone || decide (b∈pl.map (·.1)))) I (fun b hb=>?_) (fun b o hL hb hc e n=>?_) (fun b o hL hb hc e n=>?_) (fun b o hc e n=>?_) (fun b o hc e=>?_) (fun b xs e=>?_) (fun b o u e=>?_) (fun b ps e=>?_) (fun mm hm=>?_) okL hG
  · obtain ⟨_,hb⟩:=List.mem_filter.mp hb
    simp only [Bool.and_eq_true,Bool.or_eq_true,decide_eq_true_eq,Option.isNone_iff_eq_none] at hb
    obtain ⟨⟨⟨b1,b2⟩,b3⟩,b4⟩:=hb
    refine ⟨?_,b2,fun x c e z=>?_,fun q hq z=>b3 (List.mem_map.mpr ⟨q,hq,z⟩)⟩
    · by_cases z:b < X.s_0.heap.objs.size
      · rcases l.young b b1 z b4 with y | y
        · exact .inl y
        · exact absurd y b2
      · exact .inr (Nat.not_lt.mp z)
    · exact absurd (l.cell x c e) (by rw [z];exact Nat.not_lt.mpr b1)
  all_goals
    have lt:∀ {b:Addr} {o:Obj},s.heap.get? b=some o→b∈List.range (max s.heap.objs.size X.s_0.heap.objs.size):=fun e=>List.mem_range.mpr (Nat.lt_of_lt_of_le (Heap.lt_size e) (Nat.le_max_left _ _))
  · by_cases z:b < p.env.locals
    · refine (oldAny z e n).2.2 fun y=>?_
      rcases List.mem_cons.mp (I.stkSub b y) with y | y
      · exact hL y
      · exact hb y
    · by_cases y:b∈(X.pn++pins).map (·.1)
      · obtain ⟨q,hq,rfl⟩:=List.mem_map.mp y
        obtain ⟨e1,_⟩:=I.pin q hq
        rw [e] at e1;cases e1
        exact (epAny q (List.mem_append_left _ hq)).1
      · exact absurd (List.mem_filter.mpr ⟨lt e,by simp [Nat.not_lt.mp z,hL,n,y];simpa using y⟩) hc
  · by_cases z:b < p.env.locals
    · exact (oldAny z e n).1
    · obtain ⟨_,o0,ho,_⟩:=I.ok.funs.mem hb
      by_cases y:b∈(X.pn++pins).map (·.1)
      · obtain ⟨q,hq,rfl⟩:=List.mem_map.mp y
        exact absurd hb (I.pin q hq).2.2.2.1
      · exact absurd (List.mem_filter.mpr ⟨lt e,by simp [Nat.not_lt.mp z,hL,n,y];simpa using y⟩) hc
  · by_cases z:b < p.env.locals
    · exact (oldAny z e n).2.1
    · by_cases hL:b=X.env.locals
      · obtain ⟨_,_,_,_,y⟩:=locAt
        rw [hL];exact y
      · by_cases y:b∈(X.pn++pins).map (·.1)
        · obtain ⟨q,hq,rfl⟩:=List.mem_map.mp y
          exact (epAny q (List.mem_append_left _ hq)).2
        · exact absurd (List.mem_filter.mpr ⟨lt e,by simp [Nat.not_lt.mp z,hL,n,y];simpa using y⟩) hc
  · by_cases z:b < p.env.locals
    · obtain ⟨o',e'⟩:=a.un.there b o (tr z e) (by simp)
      exact ⟨o',e'⟩
    · by_cases hL:b=X.env.locals
      · obtain ⟨o',sl,_,y,_⟩:=locAt
        exact ⟨_,by rw [hL];exact y⟩
      · by_cases y:b∈(X.pn++pins).map (·.1)
        · obtain ⟨q,hq,rfl⟩:=List.mem_map.mp y
          exact ⟨_,(epAny q (List.mem_append_left _ hq)).1⟩
        · by_cases n:layP V pl b=none∨b∈pl.map (·.1)
          · exact absurd (List.mem_filter.mpr ⟨lt e,by
              simp only [Bool.and_eq_true,Bool.or_eq_true,decide_eq_true_eq,Option.isNone_iff_eq_none]
              exact ⟨⟨⟨Nat.not_lt.mp z,hL⟩,y⟩,n⟩⟩) hc
          · have n1:layP V pl b≠none:=fun z=>n (.inl z)
            have n2:b∉pl.map (·.1):=fun z=>n (.inr z)
            rw [layP_out n2] at n1
            have d:=a.st.dom b n1
            cases q:H' b with
            | none=>exact absurd q d
            | some u =>
              have:=okH.lt q
              have x:=okH b u q
              exact there_of x
  · have e2:V b=some (.tup xs):=by
      by_cases z:b∈pl.map (·.1)
      · obtain ⟨q,hq,rfl,e3⟩:=layP_some (H:=V) hid.o z
        rw [e3] at e;cases e
      · rw [layP_out z] at e;exact e
    exact hidv.lay (a.st.keep b _ e2 (fun n z=>by cases z) fun ps z=>by cases z)
  · have e2:V b=some (.frz o u):=by
      by_cases z:b∈pl.map (·.1)
      · obtain ⟨q,hq,rfl,e3⟩:=layP_some (H:=V) hid.o z
        rw [e3] at e;cases e
      · rw [layP_out z] at e;exact e
    exact hidv.lay (a.st.keep b _ e2 (fun n z=>by cases z) fun ps z=>by cases z)
  · have e2:V b=some (.tbl ps):=by
      by_cases z:b∈pl.map (·.1)
      · obtain ⟨q,hq,rfl,e3⟩:=layP_some (H:=V) hid.o z
        rw [e3] at e;cases e
      · rw [layP_out z] at e;exact e
    obtain ⟨more,e3⟩:=a.un.tbls b ps (GP.cut_tbl e2)
    exact ⟨more,hidv.lay e3⟩
  · obtain ⟨o',es',ep',ho',r'⟩:=hm
    obtain ⟨o,sl,e1,e2,_⟩:=locAt
    rw [e1] at ho';cases ho'
    exact ⟨_,es',ep',e2,r'⟩
theorem Lie.ghost (rs:Rs p.ki g m V) {sw:Shared} {ep:Pl} (a:After p ⟨g,m,V,ep⟩ sw F' H' s1):Rs p.ki ⟨F',g.r⟩ m H'∧Stp g V ⟨F',g.r⟩ H':=by
  have k:=a.st
  have st:Stp g V ⟨F',g.r⟩ H':=⟨k.F,fun _ _ e=>e,fun b o e _ nt=>k.keep b o e (fun n z=>by cases z) nt,k.dom,fun b e=>by
    rcases k.Fn b e with y | y | ⟨n,y⟩ | y
    · exact .inl y
    · exact .inr (.inl y)
    · cases y
    · exact .inr (.inr (.inr y)),fun n b e=>.inl e⟩
  refine ⟨⟨a.rs.sub,fun n o e=>?_,fun n b e=>?_,rs.rj,fun q hq=>?_⟩,st⟩
  · obtain ⟨b,e1,e2,e3⟩:=rs.gr n o e
    obtain ⟨u,hu,nt⟩:=e3.someN
    have hk:H' b=some u:=k.keep b u hu (fun n z=>by cases z) nt
    refine ⟨b,e1,?_,ObjR.grow e3 k.F (fun _ _ e=>e) (hk.trans hu.symm)⟩
    show F' b=none
    cases z:F' b with
    | none=>rfl
    | some w =>
      rcases k.Fn b (by show F' b≠none;rw [z];simp) with y | y | ⟨n,y⟩ | ⟨ys,y⟩
      · exact absurd e2 y
      · have y:V b=none:=y
        rw [hu] at y;cases y
      · cases y
      · rw [hk] at y;cases y
        exact absurd hu (e3.ntup ys)
  · obtain ⟨h1,h2⟩:=rs.rb n b e
    exact ⟨h1,k.dom b h2⟩
  · have t:=a.rs.tb q hq
    exact ⟨t.ps,t.F,(rs.tb q hq).r⟩
end
end RgF

namespace RgF
open PySem PySem.Spec L2 Rc GenW
open PyProof.Rows hiding St
mutual
def nr:MV→Bool
  | .ref _=>false
  | .exn _ _ xs=>nrs xs
  | .tup xs=>nrs xs
  | .lst xs=>nrs xs
  | .kl xs=>nrs xs
  | .ins _ _ xs=>nrs xs
  | .dic ks xs=>nrs ks&&nrs xs
  | .dit ks xs=>nrs ks&&nrs xs
  | _=>true
def nrs:List MV→Bool
  | []=>true
  | x :: xs=>nr x&&nrs xs
end
mutual
theorem RV.nr {K:Ki} {g:G}:∀ (x:MV) {v:V},nr x=true→RV K g x v→RV K (fz g.F) x v
  | .non,_,_,h=>h
  | .bl _,_,_,h=>h
  | .int _,_,_,h=>h
  | .str _,_,_,h=>h
  | .tup xs,_,c,⟨a,ys,e,q,r⟩=>⟨a,ys,e,q,RVs.nr xs c r⟩
  | .lst xs,_,c,⟨a,ys,e,q,r⟩=>⟨a,ys,e,q,RVs.nr xs c r⟩
  | .kl xs,_,c,⟨a,ys,e,q,r⟩=>⟨a,ys,e,q,RVs.nr xs c r⟩
  | .ref n,_,c,_=>by cases c
  | .ins c ks xs,_,k,⟨a,dx,fs,e,q,q2,q3,r⟩=>⟨a,dx,fs,e,q,q2,q3,RVs.nr xs k r⟩
  | .exn c ks xs,_,k,⟨a,dx,φ,fs,e,q,q1,q2,q3,r⟩=>⟨a,dx,φ,fs,e,q,q1,q2,q3,RVs.nr xs k r⟩
  | .dic ks xs,_,c,⟨a,u,kvs,e,q,q3,r,r2⟩=>by
    obtain ⟨c1,c2⟩:=Bool.and_eq_true_iff.mp (show (nrs ks&&nrs xs)=true from c)
    exact ⟨a,u,kvs,e,q,q3,RVs.nr ks c1 r,RVs.nr xs c2 r2⟩
  | .kd ks is,_,_,h=>h
  | .cls _,_,_,h=>h
  | .dit ks xs,_,c,⟨a,u,kvs,e,q,q3,r,r2⟩=>by
    obtain ⟨c1,c2⟩:=Bool.and_eq_true_iff.mp (show (nrs ks&&nrs xs)=true from c)
    exact ⟨a,u,kvs,e,q,q3,RVs.nr ks c1 r,RVs.nr xs c2 r2⟩
theorem RVs.nr {K:Ki} {g:G}:∀ (xs:List MV) {vs:List V},nrs xs=true→RVs K g xs vs→RVs K (fz g.F) xs vs
  | [],_,_,h=>h
  | x :: xs,_,c,⟨v,r,e,h,t⟩=>by
    obtain ⟨c1,c2⟩:=Bool.and_eq_true_iff.mp (show (RgF.nr x&&nrs xs)=true from c)
    exact ⟨v,r,e,RV.nr x c1 h,RVs.nr xs c2 t⟩
end
def youngOf (h:Heap) (n a:Nat):Pl:=pinsAt ((List.range h.objs.size).filter fun b=>decide (n≤b)&&decide (b≠a)) h
theorem of_young {h:Heap} {n a:Nat} {q:Addr × Obj} (hq:q∈youngOf h n a):n≤q.1∧q.1≠a∧h.get? q.1=some q.2:=by
  obtain ⟨h1,h2⟩:=of_pinsAt hq
  have:=(List.mem_filter.mp h1).2
  simp only [Bool.and_eq_true,decide_eq_true_eq] at this
  exact ⟨this.1,this.2,h2⟩
abbrev GP.at (p:GP) (A:Around):GP:={ p with A:=A }
structure Made (p:GP) (j:Nat) (outer:List Env) (F:Hp) (L:List MV) (s:Shared) (a:Addr) (ao:Obj) (gi:Nat) (c:Code) (s':Shared):Prop where
  out:p.outer=outer
  loc:p.env.locals=s.heap.objs.size
  old:s.heap.objs.size≤a
  obj:s'.heap.get? a=some ao
  isg:∀ h:Heap,h.get? a=some ao→h.IsGen a gi
  gen:s'.gens[gi]? = some (.fresh c)
  os:s'.os=s.os
  bare:AllBare s'.gens
  keep:∀ b o,s.heap.get? b=some o→s'.heap.get? b=some o
  slp:∀ A':Around,(∀ env,Room j (A'.deeper env))→A'.frames=some outer→Slp (p.at A') L (youngOf s'.heap p.env.locals a) F (.fresh c)
structure GFn where
  name:Str
  ps:List Str
  M:List MV→Option (List MV)
structure GnAt (P:Program) (w:World) (K:PySem.W.Frag) (mg:Str→Option Value) (base:Heap) (k:Nat) (f:Addr) (fd:FuncData) (F:GFn):Prop where
  run:∃ j,k=j + 1∧∀ (A:Around) (outer:List Env) (s:Shared) (g:G) (m:Mem) (H:Hp) (args:Args) (us:List Value) (vs:List V) (as:List MV) (L:List MV),Room k A→Env0 P w K mg base A outer s H→BindsTo s fd args (F.ps.zip us)→Vals vs us →
    Rs ⟨K,P,w⟩ g m H→RVs ⟨K,P,w⟩ g as vs→as.length=F.ps.length→nrs as=true→F.M as=some L →
    codeAny (model P w) A (.call (.ref f) args) (fun r s'=>match r with
      | .ok (.ret u)=>∃ p a ao gi c,u=.ref a∧p.prog=P∧p.w=w∧p.K=K∧p.mg=mg∧p.base=base∧Made p j outer g.F L s a ao gi c s'
      | _=>False) s
  bi:Binds K fd F.ps []
  kp:PySem.W.keepIn K (.ref f)=true
end RgF

set_option maxHeartbeats 4000000
namespace RgF
open PySem PySem.Spec L2 Rc GenW
open PyProof.Rows hiding St
theorem poison_bare {G:Array GenState} (h:AllBare G):AllBare (G.map poison):=fun x hx=>by
  obtain ⟨i,hi,e⟩:=Array.mem_iff_getElem.mp hx
  rw [Array.getElem_map] at e
  rw [← e,bare_poison]
  exact h _ (Array.getElem_mem _)
theorem rel_bare {A B G:Array GenState} (h:Rel (asleep G) A B) (hA:AllBare A) (hG:AllBare G):AllBare B:=fun x hx=>by
  obtain ⟨i,hi,e⟩:=Array.mem_iff_getElem.mp hx
  have eB:B[i]? = some x:=by rw [Array.getElem?_eq_getElem hi,e]
  cases hd:asleep G i with
  | none =>
    rw [h.off i hd] at eB
    exact hA x (Array.mem_of_getElem? eB)
  | some y =>
    have:=(h.on i y hd).2.1
    rw [eB] at this;cases this
    unfold asleep at hd
    split at hd
    · rename_i k l c p fs cl e2
      cases hd
      exact hG _ (Array.mem_of_getElem? e2)
    · cases hd
theorem asl {α:Type} {M:Model} {A:Around} {t:Sem α} {s:Shared} {P Q:α→Shared→Prop} {E E':Value→Shared→Prop} (hb:AllBare s.gens) (h:wpAny M A t P E { s with gens:=s.gens.map poison })
    (hQ:∀ a s' A',P a { s' with gens:=A' }→(AllBare A'→AllBare s'.gens)→Kept s.gens s'.gens→Q a s') (hE:∀ e s' A',E e { s' with gens:=A' }→E' e s'):wpAny M A t Q E' s:=by
  refine wpAny_mono (wpAny_asleep h) (fun a s' q=>?_) fun e s' q=>?_
  · obtain ⟨hk,A',r,p⟩:=q
    exact hQ a s' A' p (fun z=>rel_bare r z hb) hk
  · obtain ⟨hk,A',r,p⟩:=q
    exact hE e s' A' p
theorem _root_.L2.Inv.gens {X:Cx} {pins:Pl} {σ:L2.St} {H:Hp} {s:Shared} {G:Array GenState} (I:Inv X pins σ H s) (h:AllBare G):Inv X pins σ H { s with gens:=G }:=⟨I.ok,I.os,h,I.base,I.loc,I.cell,I.free,I.freeC,I.pin,I.hok,I.len⟩
theorem _root_.L2.Inv.ungens {X:Cx} {pins:Pl} {σ:L2.St} {H:Hp} {s:Shared} {G:Array GenState} (I:Inv X pins σ H { s with gens:=G }) (h:AllBare s.gens):Inv X pins σ H s:=⟨I.ok,I.os,h,I.base,I.loc,I.cell,I.free,I.freeC,I.pin,I.hok,I.len⟩
theorem _root_.L2.Inv.layP {X:Cx} {pins pl:Pl} {σ:L2.St} {H:Hp} {s:Shared} (I:Inv X pins σ H s) (h:∀ q∈pl,s.heap.get? q.1=some q.2∧H q.1=none∧q.1≠X.env.locals∧(∀ x c,X.env.cells.lookup x=some c→c≠q.1)∧(∀ r∈X.pn++pins,r.1≠q.1)∧(q.1∈X.ex∨X.s_0.heap.objs.size≤q.1)) :
    Inv X pins σ (RgF.layP H pl) s:=by
  have out:∀ {b:Addr} {u:HO},H b=some u→RgF.layP H pl b=some u:=fun {b u} e=>by
    rw [layP_out fun z=>?_];exact e
    obtain ⟨q,hq,rfl⟩:=List.mem_map.mp z
    rw [(h q hq).2.1] at e;cases e
  have no:∀ {b:Addr},(∀ q∈pl,q.1≠b)→RgF.layP H pl b=H b:=fun {b} z=>layP_out fun y=>by
    obtain ⟨q,hq,rfl⟩:=List.mem_map.mp y
    exact z q hq rfl
  refine ⟨I.ok,I.os,I.bare,⟨I.base.keep,I.base.slot,fun b o e n hx=>?_,I.base.there,fun b xs e=>out (I.base.tups b xs e),fun b o u e=>out (I.base.frzs b o u e),fun b ps e=>?_⟩,I.loc,I.cell,?_,fun x c e=>?_,fun q hq=>?_,?_,I.len⟩
  · rw [no fun q hq z=>?_];exact I.base.free b o e n hx
    rcases (h q hq).2.2.2.2.2 with y | y
    · rw [z] at y;exact hx y
    · rw [z] at y;exact absurd (Nat.lt_of_lt_of_le (Heap.lt_size e) y) (Nat.lt_irrefl _)
  · obtain ⟨more,e2⟩:=I.base.tbls b ps e
    exact ⟨more,out e2⟩
  · rw [no fun q hq z=>(h q hq).2.2.1 z];exact I.free
  · rw [no fun q hq z=>(h q hq).2.2.2.1 x c e z.symm];exact I.freeC x c e
  · obtain ⟨h1,h2,h3⟩:=I.pin q hq
    refine ⟨h1,?_,h3⟩
    rw [no fun r hr z=>(h r hr).2.2.2.2.1 q hq z.symm];exact h2
  · exact hok_lay I.hok (fun q hq=>(h q hq).2.1) fun q hq=>(h q hq).1
theorem letGo_gen {M:Model} {A:Around} {E:Value→Shared→Prop} {s:Shared} {tg:Expr} {a:Addr} {gi:Nat} {v:Value} {Q:Unit→Shared→Prop} (hg:s.heap.IsGen a gi) (h:Q () s):wpAny M A (letOwnedTupleGo tg (.ref a) v) Q E s:=by
  have tup:wpAny M A (do
    let (.ref r,.ref a):=(Value.ref a,v) | return
    let o ← load r
    match o.cls,o.data with
    | .type n,.fields vs =>
      if ["enumerate","zip","dict_itemiterator","dict_reverseitemiterator","odict_iterator","itertools.zip_longest","itertools.pairwise"].contains n&&vs[0]? == some (rawInt a) then
        rule "for.unpacks-the-owned-tuple"
        updateField r 0 .none
    | _,_=>pure ():Sem Unit) Q E s:=by
    obtain ⟨o,nm,qn,ho,hc,hd,hs⟩:=hg
    cases v with
    | ref b =>
      refine wpAny_bind (wpAny_load ho ?_)
      rw [hc,hd]
      exact wpAny_pure h
    | _=>exact wpAny_pure h
  cases tg with
  | Tuple es c p=>exact tup
  | List es c=>exact tup
  | _=>exact wpAny_pure h
structure Held (p:GP) (a:Addr) (ao:Obj) (gi:Nat) (L:List MV) (g:G) (V:Hp) (pl:Pl) (s:Shared):Prop where
  gs:∃ F gs,s.gens[gi]? = some gs∧Slp p L pl F gs∧∀ b u,F b=some u→g.F b=some u
  isg:∀ h:Heap,h.get? a=some ao→h.IsGen a gi
  at_:V a=some (Pin1 (a,ao))
  hF:g.F a=none
  hr:∀ n,g.r n≠some a
  hid:Hid g V pl
  ge:∀ q∈pl,p.env.locals≤q.1
theorem Held.step {p:GP} {a:Addr} {ao:Obj} {gi:Nat} {L:List MV} {g g':G} {V V':Hp} {pl:Pl} {s s':Shared} (h:Held p a ao gi L g V pl s) (hs:∃ gs,s.gens[gi]? = some gs∧isSusp gs=true) (st:Stp g V g' V') (hid:Hid g' V' pl) (k:Kept s.gens s'.gens):Held p a ao gi L g' V' pl s'∧∃ gs,s'.gens[gi]? = some gs∧isSusp gs=true:=by
  obtain ⟨gs,e1,e2⟩:=hs
  have k2:s'.gens[gi]? = some gs:=k gi gs (by
    unfold asleep
    rw [e1]
    cases gs <;> first | rfl | cases e2)
  obtain ⟨F,gs2,e3,sl,hF⟩:=h.gs
  rw [e1] at e3;cases e3
  have ka:V' a=some (Pin1 (a,ao)):=st.keep a _ h.at_ h.hr (pin1_nt _)
  refine ⟨⟨⟨F,gs,k2,sl,fun b u e=>st.F b u (hF b u e)⟩,h.isg,ka,?_,fun n z=>?_,hid,h.ge⟩,gs,k2,e2⟩
  · cases z:g'.F a with
    | none=>rfl
    | some u =>
      rcases st.Fn a (by rw [z];simp) with y | y | ⟨n,y⟩ | ⟨ys,y⟩
      · exact absurd h.hF y
      · rw [h.at_] at y;cases y
      · exact absurd y (h.hr n)
      · rw [ka] at y;cases y
  · rcases st.rn n a z with y | y
    · exact h.hr n y
    · rw [h.at_] at y;cases y
section
variable {X:Cx} {pins:Pl} {σ:L2.St} {V:Hp} {pl:Pl} {u:Shared} {g:G} {m m':Mem} {s:Sl} {K:Ki}
theorem asl_E {e:Expr} {fe:Sl→Mem→R OV} {y:MV} {Q:Value→Shared→Prop} {E:Value→Shared→Prop} (pe:PE X e (tE X.ki W0 fe)) (hx:X.xe=fun _ _=>False) (J:Inv X pins σ (layP V pl) u) (hid:Hid g V pl) (rs:Rs X.ki g m V) (rl:RSl X.ki g s σ V) (ev:fe s m=.ok (.v y) m')
    (h:∀ g' v z V' u',RelV v z→Inv X pins σ (layP V' pl) u'→Rs X.ki g' m' V'→Stp g V g' V'→Hid g' V' pl→RV X.ki g' y v→Kept u.gens u'.gens→Q z u'):wpAny (model X.prog X.w) X.A (eval e X.env) Q E u:=by
  have r:=pe.run pins { u with gens:=u.gens.map poison } σ (layP V pl) (fun v H'=>∃ g',Rs X.ki g' m' H'∧Stp g (layP V pl) g' H'∧RV X.ki g' y v) (J.gens (poison_bare J.bare)) ⟨g,s,m,hid.rs rs,hid.rl rl,by
    rw [ev]
    exact fun g' v H' a b c=>⟨g',a,b,c⟩⟩
  rw [hx] at r
  refine asl J.bare r (fun z u' A' q hb k=>?_) fun e s' A' q=>q.elim
  obtain ⟨v,H',J',rz,g',rs',st',ry⟩:=q
  obtain ⟨sn,rso⟩:=hid.step rs st' rs'
  refine h g' v z (offP H' pl) u' rz ?_ rso sn.st sn.hid ry k
  rw [sn.eq]
  exact J'.ungens (hb J'.bare)
theorem asl_T {ifs:List Expr} {ft:Sl→Mem→R Bool} {b:Bool} {Q:Bool→Shared→Prop} {E:Value→Shared→Prop} (pt:PTs X ifs (tT X.ki W0 ft)) (hx:X.xe=fun _ _=>False) (J:Inv X pins σ (layP V pl) u) (hid:Hid g V pl) (rs:Rs X.ki g m V) (rl:RSl X.ki g s σ V) (ev:ft s m=.ok b m')
    (h:∀ g' V' u',Inv X pins σ (layP V' pl) u'→Rs X.ki g' m' V'→Stp g V g' V'→Hid g' V' pl→Kept u.gens u'.gens→Q b u') :
    wpAny (model X.prog X.w) X.A (forIn ifs true fun c r=>if r=true then do let ok ← isTrue c X.env (eval c X.env);pure (ForInStep.yield ok) else pure (ForInStep.yield r)) Q E u:=by
  have r:=pt.run pins { u with gens:=u.gens.map poison } σ (layP V pl) (fun v H'=>v=b∧∃ g',Rs X.ki g' m' H'∧Stp g (layP V pl) g' H') (J.gens (poison_bare J.bare)) ⟨g,s,m,hid.rs rs,hid.rl rl,by
    rw [ev]
    exact fun g' v H' a b c=>⟨c.symm,g',a,b⟩⟩
  rw [hx] at r
  refine asl J.bare r (fun z u' A' q hb k=>?_) fun e s' A' q=>q.elim
  obtain ⟨H',J',rfl,g',rs',st'⟩:=q
  obtain ⟨sn,rso⟩:=hid.step rs st' rs'
  refine h g' (offP H' pl) u' ?_ rso sn.st sn.hid k
  rw [sn.eq]
  exact J'.ungens (hb J'.bare)
def OwnOut (pl:Pl) (s:Sl) (σ:L2.St):Prop:=∀ (i:Nat) o a,s[i]? = some (some (SV.own o))→σ[i]? = some (some (L2.V.ref a))→a∉pl.map (·.1)
theorem ownOut_set {pl:Pl}:VSet (OwnOut pl):=by
  intro s σ i x v h j o a e1 e2
  by_cases q:i=j
  · subst q
    by_cases hi:i < s.length
    · rw [List.getElem?_set_self hi] at e1;cases e1
    · rw [List.getElem?_eq_none (by simpa using hi)] at e1;cases e1
  · rw [List.getElem?_set_ne q] at e1 e2
    exact h j o a e1 e2
theorem Hid.own (hid:Hid g V pl) (rl:RSl K g s σ V):OwnOut pl s σ:=fun i o a e1 e2=>by
  obtain ⟨b,e3,e4,_⟩:=rl.own i o e1
  rw [e2] at e3;cases e3
  obtain ⟨w,hw⟩:=e4.some
  exact hid.out hw
theorem rl_off (rl:RSl K g s σ (layP V pl)) (h:OwnOut pl s σ):RSl K g s σ V:=by
  refine ⟨rl.val,fun i o e=>?_,rl.dis,rl.len⟩
  obtain ⟨a,e1,e2,e3⟩:=rl.own i o e
  exact ⟨a,e1,ObjR.grow e2 (fun _ _ e=>e) (fun _ _ e=>e) (layP_out (h i o a e e1)).symm,e3⟩
theorem asl_G {tg:Expr} {mg:MG} {s2:Sl} {x:MV} {v:L2.V} {z:Value} {Q:Unit→Shared→Prop} {E:Value→Shared→Prop} (pg:PG X tg (gM X.ki mg)) (hx:X.xe=fun _ _=>False) (J:Inv X pins σ (layP V pl) u) (hid:Hid g V pl) (rs:Rs X.ki g m V) (rl:RSl X.ki g s σ V) (rz:RelV v z) (rx:RV X.ki g x v)
    (ea:assignG mg x s=some s2) (h:∀ vs u',Inv X pins (setV σ mg.slots vs) (layP V pl) u'→RSl X.ki g s2 (setV σ mg.slots vs) V→Kept u.gens u'.gens→Q () u'):wpAny (model X.prog X.w) X.A (assign tg X.env z) Q E u:=by
  have r:=pg.run pins { u with gens:=u.gens.map poison } σ (layP V pl) v z (fun σ' H'=>H'=layP V pl∧∃ vs,σ'=setV σ mg.slots vs∧RSl X.ki g s2 σ' V) (J.gens (poison_bare J.bare)) rz (gM_ok (I:=OwnOut pl) ownOut_set (hid.rs rs) ea rx (hid.rl rl) (hid.own rl) fun vs rl2 oo=>⟨rfl,vs,rfl,rl_off rl2 oo⟩)
  rw [hx] at r
  refine asl J.bare r (fun z u' A' q hb k=>?_) fun e s' A' q=>q.elim
  obtain ⟨σ',H',J',rfl,vs,rfl,rl2⟩:=q
  exact h vs u' (J'.ungens (hb J'.bare)) rl2 k
end
end RgF

namespace RgF
open PySem PySem.Spec L2 Rc GenW
open PyProof.Rows hiding St
def GIn (X:Cx) (L:List MV) (F:Hp) (s1:Shared) (v:Value) (s':Shared):Prop:=∃ (p:GP) (j:Nat) (a:Addr) (ao:Obj) (gi:Nat) (c:Code),v=.ref a∧p.prog=X.prog∧p.w=X.w∧p.K=X.K∧p.mg=X.mg∧p.base=X.base∧Made p j X.stack F L s1 a ao gi c s'∧(∀ env,Room j (X.A.in1.deeper env))∧∀ env,Room j (X.A.in1.in1.in1.deeper env)
def PostG (K:Ki) (E:XK) (g:G) (H:Hp) (r:R (List MV)) (Q:List MV→G→Mem→Hp→Prop):Prop:=match r with
  | .ok L m'=>∀ g' H',Rs K g' m' H'→Stp g H g' H'→Q L g' m' H'
  | .exc c ks xs m'=>∀ g' cls d H',Rs K g' m' H'→Stp g H g' H'→ExR K g' c ks xs cls d→E cls d H'
  | .stuck=>False
def PGn (X:Cx) (W:WX) (e:Expr) (f:Sl→Mem→R (List MV)):Prop:=∀ (pins:Pl) (s:Shared) (σ:L2.St) (H:Hp) (g:G) (sl:Sl) (m:Mem) (Q:List MV→G→Mem→Hp→Prop),Inv X pins σ H s→Rs X.ki g m H→RSl X.ki g sl σ H→PostG X.ki (WE W σ) g H (f sl m) Q →
  wpAny (model X.prog X.w) X.A (eval e X.env) (fun v s'=>∃ L g' m' H' s1,Q L g' m' H'∧Inv X pins σ H' s1∧Rs X.ki g' m' H'∧Stp g H g' H'∧GIn X L g'.F s1 v s') X.xe s
theorem postG_bind {K:Ki} {E:XK} {g:G} {H:Hp} {r:R (List MV)} {k:List MV→Mem→R MO} {Q:VK} (h:PostF K E g H (r.bind k) Q):PostG K E g H r fun L g1 m1 H1=>PostF K E g1 H1 (k L m1) Q:=by
  cases r with
  | ok L m'=>exact fun g' H' a b=>PostF.shift b h
  | exc c ks xs m'=>exact h
  | stuck=>exact h
theorem lay_upd {V:Hp} {D:Addr} {o:HO}:∀ {pl:Pl},D∉pl.map (·.1)→layP (upd V D o) pl=upd (layP V pl) D o
  | [],_=>rfl
  | q :: r,h=>by
    have h1:D≠q.1:=fun z=>h (by rw [z];exact List.mem_cons_self)
    have ih:=lay_upd (V:=V) (o:=o) (pl:=r) fun z=>h (List.mem_cons_of_mem _ z)
    show upd (layP (upd V D o) r) q.1 (Pin1 q)=upd (upd (layP V r) q.1 (Pin1 q)) D o
    rw [ih]
    funext b
    by_cases z:b=D
    · subst z;rw [upd_ne h1,upd_same,upd_same]
    · by_cases y:b=q.1
      · subst y;rw [upd_same,upd_ne z,upd_same]
      · rw [upd_ne y,upd_ne z,upd_ne z,upd_ne y]
theorem pin_stay {a:Addr} {ao:Obj} {g g':G} {V V':Hp} (at_:V a=some (Pin1 (a,ao))) (hF:g.F a=none) (hr:∀ n,g.r n≠some a) (st:Stp g V g' V'):V' a=some (Pin1 (a,ao))∧g'.F a=none∧∀ n,g'.r n≠some a:=by
  have ka:V' a=some (Pin1 (a,ao)):=st.keep a _ at_ hr (pin1_nt _)
  refine ⟨ka,?_,fun n z=>?_⟩
  · cases z:g'.F a with
    | none=>rfl
    | some u =>
      rcases st.Fn a (by rw [z];simp) with y | y | ⟨n,y⟩ | ⟨ys,y⟩
      · exact absurd hF y
      · rw [at_] at y;cases y
      · exact absurd y (hr n)
      · rw [ka] at y;cases y
  · rcases st.rn n a z with y | y
    · exact hr n y
    · rw [at_] at y;cases y
section
variable {X:Cx}
theorem lcG_core {W:WX} {pins:Pl} {s:Shared} {σ:L2.St} {H:Hp} {Q:VK} {elt tg iter:Expr} {ifs:List Expr} {scope:Scope} {own:List (Str × Nat)} {pos pos':Pos} {mg:MG} {fi:Sl→Mem→R (List MV)} {ft:Sl→Mem→R Bool} {fe:Sl→Mem→R OV} {use:Option (Value→Sem Unit)} {Qf:Value→Shared→Prop} (calm:X.calm=true) (nd:X.N.Nodup) (I:L2.Inv X pins σ H s) (hi:PGn X W iter fi) (bk:BlkOk X.N X.env.scope scope own) (hnc:∀ y∈scope.names,y.2≠.cell)
    (hs:∀ i∈mg.slots,i∈own.map (·.2)) (hg:∀ (s:Shared) (H:Hp) (C:Addr) (cl:List (Str × Addr)) (fp:List Addr),PG (X.blk s H scope (compEnvC scope cl C X.env) fp) tg (gM X.ki mg))
    (ht:∀ (s:Shared) (H:Hp) (C:Addr) (cl:List (Str × Addr)) (fp:List Addr),PTs (X.blk s H scope (compEnvC scope cl C X.env) fp) ifs (tT X.ki W0 ft)) (he:∀ (s:Shared) (H:Hp) (C:Addr) (cl:List (Str × Addr)) (fp:List Addr),PE (X.blk s H scope (compEnvC scope cl C X.env) fp) elt (tE X.ki W0 fe))
    (fold:∀ x,foldedSetIterable iter X.env x=pure x) (h:tF X.ki W (fun s m=>(fi s m).bind fun L m=>(compM (compTurnF (own.map (·.2)) mg ft fe s) [] L [] m).bind fun ys m=>.ok (.lst ys) m) σ H Q)
    (hRR:∀ D C s' m H',L2.Inv X pins σ H' s'→Q (.ref D) H'→s'.heap.Ns C m→FpOk X pins H' C→compPost (model X.prog X.w) X.A X.xe use Qf (.ref D) C (.ok .next) s') :
    wpAny (model X.prog X.w) X.A (comprehension (.ListComp elt [⟨tg,iter,ifs,0⟩] scope pos) scope X.env pos' (newList []) false (eval iter X.env) use) Qf X.xe s:=by
  obtain ⟨g,sl,m,rs,rl,p⟩:=h
  have fr:∀ y∈scope.names,y.2=.free→∃ c,X.env.cells.lookup y.1=some c:=fun y hy e=>I.ok.has _ ((bk.free y hy e).elim .inl .inr)
  refine wpAny_comprehension_free (use:=use) rfl fold (closure_ok fr) bk.kind (fun y hy e=>by rw [bk.uniq y hy,e]) (thn (hi pins s σ H g sl m _ I rs rl (postG_bind p)) fun xv sa ha=>?_)
  obtain ⟨L,g1,m1,H1,s1,p1,I1,rs1,st1,P,j,a,ao,gi,c,rfl,c1,c2,c3,c4,c5,md,hroom,_⟩:=ha
  obtain ⟨pr,w0,K0,mg0,b0,N0,env0,out0,A0⟩:=P
  dsimp only at c1 c2 c3 c4 c5
  subst c1 c2 c3 c4 c5
  have c6:out0=X.stack:=md.out
  subst c6
  have isg:=md.isg _ md.obj
  refine wpAny_pyIter_gen isg ?_
  have Ia:Inv X pins σ H1 sa:=I1.call' (ch:=[]) md.os (Un.kept md.keep) (I1.hok.kept md.keep) md.bare fun b z=>absurd z (by simp)
  have hn:env0.locals=s1.heap.objs.size:=md.loc
  have ale:env0.locals≤a:=by rw [hn];exact md.old
  have alt:a < sa.heap.objs.size:=Heap.lt_size md.obj
  have fresh1:∀ b,env0.locals≤b→H1 b=none:=fun b hb=>I1.hok.fresh (by rw [← hn];exact hb)
  refine wpAny_newObj_type (newEnv_comp ?_) (by show 0≤sizeLine;exact Nat.zero_le _)
  obtain ⟨D,eD⟩:∃ D,sa.heap.objs.size=D:=⟨_,rfl⟩
  have dn:H1 D=none:=Ia.hok.fresh (Nat.le_of_eq eD)
  obtain ⟨sc,esc⟩:∃ sc:Shared,({ sa with heap:=sa.heap.push { cls:=.type "list",data:=.seq ([]:List Value).toArray } }:Shared)=sc:=⟨_,rfl⟩
  have hsc:sc.heap=sa.heap.push { cls:=.type "list",data:=.seq ([]:List Value).toArray }:=by rw [← esc]
  have hscg:sc.gens=sa.gens:=by rw [← esc]
  obtain ⟨Hc,eHc⟩:∃ Hc,upd H1 D (.lst [])=Hc:=⟨_,rfl⟩
  have Ic:L2.Inv X pins σ Hc sc:=by
    rw [← esc,← eHc]
    refine Ia.laid (t':=sa.toks) (fun b o e=>Heap.get?_push_of_some _ e) (Nat.le_of_eq eD) ⟨Nat.zero_le _,[],0,.nil,?_⟩
    rw [← eD]
    exact Heap.get?_push_size _ rfl
  have szc:sc.heap.objs.size=D + 1:=by rw [hsc,Heap.size_push,eD]
  obtain ⟨fp,efp⟩:∃ fp,(List.range D).filter (fun b=>decide (env0.locals≤b))=fp:=⟨_,rfl⟩
  have infp:∀ b,b∈fp↔env0.locals≤b∧b < D:=fun b=>by rw [← efp];simp [and_comm]
  have Hcn:∀ b,env0.locals≤b→b≠D→Hc b=none:=fun b hb hd=>by rw [← eHc,upd_ne hd];exact fresh1 b hb
  have fc:∀ b∈fp,FpOk X pins Hc b∧b < sc.heap.objs.size:=fun b z=>by
    obtain ⟨h1,h2⟩:=(infp b).mp z
    exact ⟨I1.fpOk (by rw [← hn];exact h1) (Hcn b h1 (Nat.ne_of_lt h2)),by rw [szc];exact Nat.lt_succ_of_lt h2⟩
  have Id:=block_start Ic bk nd fc
  have pg:=hg sc Hc sc.heap.objs.size (cellsFrom (sc.heap.objs.size + 1) scope.names (cloFrom X.env.cells scope.names [])) fp
  have pt:=ht sc Hc sc.heap.objs.size (cellsFrom (sc.heap.objs.size + 1) scope.names (cloFrom X.env.cells scope.names [])) fp
  have pe:=he sc Hc sc.heap.objs.size (cellsFrom (sc.heap.objs.size + 1) scope.names (cloFrom X.env.cells scope.names [])) fp
  have hcell:∀ x c,(cellsFrom (sc.heap.objs.size + 1) scope.names (cloFrom X.env.cells scope.names [])).lookup x=some c→c < env0.locals:=fun x c e=>by
    have e2:=PySem.mem_of_lookup e
    rw [← Heap.size_push sc.heap { cls:=.type "dict",data:=.dict #[] }] at e2
    rcases cells_mem e2 with hm | ⟨h1,_,_⟩
    · rcases cloFrom_mem hm with hm | ⟨h1,rfl⟩
      · cases hm
      · obtain ⟨c,hc⟩:=fr _ h1 rfl
        rw [hc]
        obtain ⟨w,z⟩:=I1.cell _ _ hc
        rw [hn];exact z.lt
    · exact absurd rfl (hnc _ h1)
  have stkLt:∀ b∈frs X.stack,b < sc.heap.objs.size:=fun b hb=>by
    rcases List.mem_cons.mp (Ic.stkSub b hb) with z | z
    · rw [z];exact Ic.lt
    · rcases Nat.lt_or_ge b sc.heap.objs.size with y | y
      · exact y
      · exact absurd z (Ic.nofs y)
  have goal:∀ (ce:Env) (sd:Shared),ce.locals=sc.heap.objs.size→(∀ x c,ce.cells.lookup x=some c→c < env0.locals)→sd.gens=sa.gens→(∀ b o,sa.heap.get? b=some o→sd.heap.get? b=some o)→L2.Inv (X.blk sc Hc scope ce fp) [] (wipe σ (own.map (·.2))) Hc sd→PG (X.blk sc Hc scope ce fp) tg (gM X.ki mg)→PTs (X.blk sc Hc scope ce fp) ifs (tT X.ki W0 ft)→PE (X.blk sc Hc scope ce fp) elt (tE X.ki W0 fe) →
      codeAny (model X.prog X.w) X.A (.compStart (.ListComp elt [⟨tg,iter,ifs,0⟩] scope pos) 0 (.ref a) (.ref D) ce) (compPost (model X.prog X.w) X.A X.xe use Qf (.ref D) sc.heap.objs.size) sd:=fun ce sd cL cC sdg sdk Id pg pt pe=>by
    obtain ⟨p,ep⟩:∃ p:GP,p=⟨X.prog,X.w,X.K,X.mg,X.base,N0,env0,X.stack,X.A.in1⟩:=⟨_,rfl⟩
    have slp0:Slp p L (youngOf sa.heap env0.locals a) g1.F (.fresh c):=by
      rw [ep]
      exact md.slp X.A.in1 hroom I.ok.frames
    have penv:p.env=env0:=by rw [ep]
    have mkLie:∀ (V:Hp) (pl:Pl) (g:G) (u:Shared),V D≠none→Hid g V pl→(∀ q∈pl,p.env.locals≤q.1)→Lie p (X.blk sc Hc scope ce fp) u (layP V pl) pl:=fun V pl g u hD hid ge=>by
      have hDp:D∉pl.map (·.1):=fun z=>by
        obtain ⟨q,hq,e⟩:=List.mem_map.mp z
        exact hD (by rw [← e];exact hid.n q hq)
      refine ⟨by rw [ep],by rw [ep],by rw [ep],by rw [ep],by rw [ep],by rw [ep],by rw [ep],.inr fun z=>?_,by rw [penv];exact cC,fun b h1 h2 h3=>.inl ((infp b).mpr ⟨by rw [← penv];exact h1,?_⟩),ge⟩
      · have:=stkLt _ z
        rw [show (X.blk sc Hc scope ce fp).env.locals=sc.heap.objs.size from cL] at this
        exact absurd this (Nat.lt_irrefl _)
      · have h2:b < sc.heap.objs.size:=h2
        rw [szc] at h2
        rcases Nat.lt_or_ge b D with y | y
        · exact y
        · have:b=D:=Nat.le_antisymm (Nat.le_of_lt_succ h2) y
          subst this
          rcases h3 with z | z
          · rw [layP_out hDp] at z;exact absurd z hD
          · exact absurd z hDp
    have Ie:L2.Inv (X.blk sc Hc scope ce fp) [] (wipe σ (own.map (·.2))) (layP (layP Hc [(a,ao)]) (youngOf sa.heap env0.locals a)) sd:=by
      have pinsN:∀ r∈(X.blk sc Hc scope ce fp).pn++([]:Pl),False:=fun r hr=>by
        have hr:r∈([]:Pl)++[]:=hr
        simp at hr
      have two:∀ q:Addr × Obj,env0.locals≤q.1→sa.heap.get? q.1=some q.2→sd.heap.get? q.1=some q.2∧Hc q.1=none∧q.1≠ce.locals∧(∀ x c,ce.cells.lookup x=some c→c≠q.1)∧(∀ r∈(X.blk sc Hc scope ce fp).pn++([]:Pl),r.1≠q.1)∧(q.1∈fp∨sc.heap.objs.size≤q.1):=fun q h1 h2=>by
        have lt:q.1 < D:=by rw [← eD];exact Heap.lt_size h2
        exact ⟨sdk _ _ h2,Hcn _ h1 (Nat.ne_of_lt lt),by rw [cL,szc];exact Nat.ne_of_lt (Nat.lt_succ_of_lt lt),fun x c e=>Nat.ne_of_lt (Nat.lt_of_lt_of_le (cC x c e) h1),fun r hr=>(pinsN r hr).elim,.inl ((infp _).mpr ⟨h1,lt⟩)⟩
      refine (Id.layP (pl:=[(a,ao)]) fun q hq=>?_).layP fun q hq=>?_
      · rw [List.mem_singleton.mp hq]
        exact two (a,ao) ale md.obj
      · obtain ⟨h1,h2,h3⟩:=of_young hq
        obtain ⟨t1,t2,t3⟩:=two q h1 h3
        refine ⟨t1,?_,t3⟩
        show upd Hc a _ q.1=none
        rw [upd_ne h2];exact t2
    obtain ⟨rs1d,st1d⟩:=rs1.grow (o:=.lst []) dn
    have hDF:=(rs1.free dn).1
    have hDr:=(rs1.free dn).2
    have aD:a≠D:=by rw [← eD];exact Nat.ne_of_lt alt
    have an:upd H1 D (.lst []) a=none:=by rw [upd_ne aD];exact fresh1 a ale
    obtain ⟨rs1a,st1a⟩:=rs1d.grow (o:=Pin1 (a,ao)) an
    have eV0:layP Hc [(a,ao)]=upd (upd H1 D (.lst [])) a (Pin1 (a,ao)):=by rw [← eHc];rfl
    have hid0:Hid g1 (layP Hc [(a,ao)]) (youngOf sa.heap env0.locals a):=⟨fun q hq=>by
      obtain ⟨h1,h2,h3⟩:=of_young hq
      show upd Hc a _ q.1=none
      rw [upd_ne h2]
      exact Hcn _ h1 (by rw [← eD];exact Nat.ne_of_lt (Heap.lt_size h3)),OneP.of fun q hq=>(of_young hq).2.2⟩
    have held0:Held p a ao gi L g1 (layP Hc [(a,ao)]) (youngOf sa.heap env0.locals a) sd:=by
      refine ⟨⟨g1.F,.fresh c,by rw [sdg];exact md.gen,slp0,fun _ _ z=>z⟩,md.isg,upd_same,?_,?_,hid0,fun q hq=>by rw [penv];exact (of_young hq).1⟩
      · exact (rs1.free (fresh1 a ale)).1
      · exact (rs1.free (fresh1 a ale)).2
    have loop:codeAny (model X.prog X.w) X.A (.compLoop (.ListComp elt [⟨tg,iter,ifs,0⟩] scope pos) 0 (.ref a) (.ref D) ce) (compPost (model X.prog X.w) X.A X.xe use Qf (.ref D) sc.heap.objs.size) sd:=by
      refine compLoop_any (fun n u=>∃ g2 m2 V2 pl2 acc ys Lr,Lr.length=n∧L2.Inv (X.blk sc Hc scope ce fp) [] (wipe σ (own.map (·.2))) (layP V2 pl2) u∧Rs X.ki g2 m2 V2∧Stp g1 H1 g2 V2∧V2 D=some (.lst ys)∧RVs X.ki g2 acc ys∧g2.F D=none∧(∀ k,g2.r k≠some D)∧Held p a ao gi Lr g2 V2 pl2 u ∧
        PostF X.ki (WE W σ) g1 H1 ((compM (compTurnF (own.map (·.2)) mg ft fe sl) [] Lr acc m2).bind fun ys m=>.ok (.lst ys) m) Q) (fun n u hu=>?_) L.length ⟨g1,m1,_,_,[],[],L,rfl,Ie,by rw [eV0];exact rs1a,by rw [eV0];exact st1d.trans st1a,by rw [eV0,upd_ne aD.symm,upd_same],rfl,hDF,hDr,held0,p1⟩
      obtain ⟨g2,m2,V2,pl2,acc,ys,Lr,eL,J2,rs2,st2,hDl,ra,hDF2,hDr2,held2,pq⟩:=hu
      obtain ⟨F2,gs,hgs,slp2,hF2⟩:=held2.gs
      have hDn2:V2 D≠none:=by rw [hDl];simp
      have lie:=mkLie V2 pl2 g2 u hDn2 held2.hid held2.ge
      have rs2p:Rs p.ki g2 m2 V2:=by rw [ep];exact rs2
      have wk:=lie.wake J2 held2.hid rs2p hF2 (gi:=gi)
      have isg2:u.heap.IsGen a gi:=held2.isg _ (pin1_get (q:=(a,ao)) J2.hok (held2.hid.lay held2.at_))
      have hgl:gi + 1≤u.gens.size:=(Array.getElem?_eq_some_iff.mp hgs).1
      have hdep:X.A.depth < recursionLimit:=by
        have h1:=(hroom ce).dp
        have h2:X.A.depth + 1 + 3 * j + 5 < recursionLimit:=h1
        omega
      have emd:p.md=model X.prog X.w:=by rw [ep]
      refine wpAny_gsz hgl ?_
      rw [← emd]
      refine next_gen (p:=p) (A:=X.A) (a:=a) (by rw [ep]) (I.ok.hd calm) J2.nolimit hdep isg2 hgs slp2 wk (fun eN s4 F' H' h' aft hk _=>?_) (fun y Lr' eY v s4 F' H' x pv gs' aft rx ry hpv slp' hsu hbr hsz=>?_)
      · rw [emd]
        subst eN
        have J3:=lie.back (pv:=[]) J2 held2.hid aft (fun q hq=>by cases hq) (fun q hq=>by cases hq) (G':=(s4.setGen gi .finished).gens) (allBare_setGen aft.bare rfl)
        have J3:L2.Inv (X.blk sc Hc scope ce fp) [] (wipe σ (own.map (·.2))) H' { s4 with gens:=(s4.setGen gi .finished).gens }:=J3
        have J4:L2.Inv (X.blk sc Hc scope ce fp) [] (wipe σ (own.map (·.2))) H' { s4.setGen gi .finished with heap:=h' }:=J3.call' (s':={ s4.setGen gi .finished with heap:=h' }) (ch:=[]) rfl (Un.kept hk) (J3.hok.kept hk) (allBare_setGen aft.bare rfl) fun b z=>absurd z (by simp)
        obtain ⟨rs3,st3⟩:=Lie.ghost rs2p aft
        obtain ⟨ob,hF3,hr3⟩:=own_st (o:=.lst acc) ⟨ys,hDl,ra⟩ hDF2 hDr2 st3
        have out:L2.Inv X pins σ H' { s4.setGen gi .finished with heap:=h' }:=Ic.call' (ch:=fp) J4.os J4.base J4.hok J4.bare fun b z=>⟨(fc b z).1.2.2.2.1,(fc b z).1.2.1,(fc b z).1.2.2.2.2.1,(fc b z).1.2.2.2.2.2⟩
        have nD:H' sc.heap.objs.size=none:=by
          have z:H' ce.locals=none:=J4.free
          rw [cL] at z;exact z
        obtain ⟨mm,hm,_⟩:=J4.loc
        have hm:Heap.Ns h' ce.locals mm:=hm
        rw [cL] at hm
        obtain ⟨f0,f1,f2,f3,f4,f5⟩:=Ic.fpOk (Nat.le_refl _) nD
        have e0:(compM (compTurnF (own.map (·.2)) mg ft fe sl) [] [] acc m2)=.ok acc m2:=by unfold compM;rw [if_pos (OkW_nil _)]
        rw [e0] at pq
        have pq:PostF X.ki (WE W σ) g1 H1 (.ok (.lst acc) m2) Q:=pq
        rw [ep] at rs3
        exact hRR D _ _ mm H' out (pq _ D H' rs3 (st2.trans st3) dn hF3 hr3 ob) hm ⟨f0,f1,f2,f3,f4,f5⟩
      · rw [emd]
        have hidv:Hid (⟨F',g2.r⟩:G) H' pv:=⟨fun q hq=>(hpv.at_ q hq).2.1,OneP.of fun q hq=>(hpv.at_ q hq).1⟩
        have gl4:gi < s4.gens.size:=by
          have:=setGen_size s4 gi gs'
          rw [this] at hsz;omega
        have J3:L2.Inv (X.blk sc Hc scope ce fp) [] (wipe σ (own.map (·.2))) (layP H' pv) (s4.setGen gi gs'):=lie.back (pv:=pv) J2 held2.hid aft hpv.at_ (fun q hq r hr=>hpv.ep q hq r hr) (G':=(s4.setGen gi gs').gens) (allBare_setGen aft.bare hbr)
        obtain ⟨rs3,st3⟩:=Lie.ghost rs2p aft
        obtain ⟨ob3,hF3,hr3⟩:=own_st (o:=.lst acc) ⟨ys,hDl,ra⟩ hDF2 hDr2 st3
        obtain ⟨a1,a2,a3⟩:=pin_stay held2.at_ held2.hF held2.hr st3
        have held3:Held p a ao gi Lr' ⟨F',g2.r⟩ H' pv (s4.setGen gi gs'):=⟨⟨F',gs',setGen_at gl4,slp',fun _ _ z=>z⟩,held2.isg,a1,a2,a3,hidv,fun q hq=>(hpv.at_ q hq).2.2⟩
        have sus3:∃ gs,(s4.setGen gi gs').gens[gi]? = some gs∧isSusp gs=true:=⟨gs',setGen_at gl4,hsu⟩
        rw [ep] at rs3 ry
        have ry3:RV X.ki ⟨F',g2.r⟩ y x:=RV.mono (g:=fz F') (g':=⟨F',g2.r⟩) (fun _ _ e=>e) (fun n b e=>by cases e) y ry
        have st13:=st2.trans st3
        refine letGo_gen (gi:=gi) (held3.isg _ (pin1_get (q:=(a,ao)) J3.hok (hidv.lay a1))) ?_
        -- the turn
        rw [eY,compM_cons,if_pos (OkW_nil _)] at pq
        cases ea:assignG mg y (wipeS sl (own.map (·.2))) with
        | none =>
          have ec:compTurnF (own.map (·.2)) mg ft fe sl y m2=.stuck:=by unfold compTurnF;rw [ea]
          rw [ec] at pq;exact pq.elim
        | some sa2 =>
          have ec:compTurnF (own.map (·.2)) mg ft fe sl y m2=(ft sa2 m2).bind fun k m=>if k=true then (fe sa2 m).bind fun y m=>(match valO y with
            | some y=>.ok (some y) m
            | none=>.stuck) else .ok none m:=by
            show (match assignG mg y (wipeS sl (own.map (·.2))) with
              | some s2=>(ft s2 m2).bind fun k m=>if k=true then (fe s2 m).bind fun y m=>(match valO y with
                | some y=>.ok (some y) m
                | none=>.stuck) else .ok none m
              | none=>.stuck)=_
            rw [ea]
          have rl3:=((rl.st (st1.trans st13)).wipe (own.map (·.2)))
          refine asl_G pg rfl J3 hidv rs3 rl3 rx ry3 ea fun vs u4 J4 rl4 k4=>?_
          obtain ⟨held4,sus4⟩:=held3.step sus3 (Stp.refl _ _) hidv k4
          have hw:wipe (setV (wipe σ (own.map (·.2))) mg.slots vs) (own.map (·.2))=wipe σ (own.map (·.2)):=by rw [setV_wipe hs,wipe_idem]
          have back:∀ {u':Shared} {G':Hp},L2.Inv (X.blk sc Hc scope ce fp) [] (setV (wipe σ (own.map (·.2))) mg.slots vs) G' u'→L2.Inv (X.blk sc Hc scope ce fp) [] (wipe σ (own.map (·.2))) G' u':=fun {u' G'} J'=>by
            have len:(wipe σ (own.map (·.2))).length=(setV (wipe σ (own.map (·.2))) mg.slots vs).length:=by
              have h:=congrArg List.length hw
              rw [wipe_length] at h
              exact h.symm
            refine J'.weak len fun j y e=>?_
            rw [← hw] at e
            exact (wipe_some e).1
          have lt:Lr'.length < n:=by rw [← eL,eY];exact Nat.lt_succ_self _
          cases et:ft sa2 m2 with
          | stuck=>rw [ec,et] at pq;exact pq.elim
          | exc c ks xs m'=>rw [ec,et] at pq;exact pq.elim
          | ok k m4 =>
            rw [ec,et] at pq
            refine asl_T pt rfl J4 hidv rs3 rl4 et fun g5 V5 u5 J5 rs5 st5 hid5 k5=>?_
            obtain ⟨held5,sus5⟩:=held4.step sus4 st5 hid5 k5
            obtain ⟨ob5,hF5,hr5⟩:=own_st ob3 hF3 hr3 st5
            cases k with
            | false =>
              obtain ⟨zs,hz,rz⟩:=ob5
              rw [if_neg Bool.false_ne_true]
              exact ⟨_,lt,g5,m4,V5,pv,acc,zs,Lr',rfl,back J5,rs5,st13.trans st5,hz,rz,hF5,hr5,held5,pq⟩
            | true =>
              rw [if_pos rfl]
              have ed:((R.ok true m4:R Bool).bind fun k m=>if k=true then (fe sa2 m).bind fun y m=>(match valO y with
                | some y=>.ok (some y) m
                | none=>.stuck) else .ok none m)=(fe sa2 m4).bind fun y m=>(match valO y with
                | some y=>.ok (some y) m
                | none=>.stuck):=rfl
              rw [ed] at pq
              cases ee:fe sa2 m4 with
              | stuck=>rw [ee] at pq;exact pq.elim
              | exc c ks xs m'=>rw [ee] at pq;exact pq.elim
              | ok y5 m5 =>
                rw [ee] at pq
                cases y5 with
                | b o=>exact pq.elim
                | v y5 =>
                  have pq:PostF X.ki (WE W σ) g1 H1 ((if acc.length < sizeLine then compM (compTurnF (own.map (·.2)) mg ft fe sl) [] Lr' (acc++[y5]) m5 else .stuck).bind fun ys m=>.ok (.lst ys) m) Q:=pq
                  by_cases hl:acc.length < sizeLine
                  · rw [if_pos hl] at pq
                    refine asl_E pe rfl J5 hid5 rs5 (rl4.st st5) ee fun g6 w z V6 u6 rz6 J6 rs6 st6 hid6 ry6 k6=>?_
                    obtain ⟨held6,sus6⟩:=held5.step sus5 st6 hid6 k6
                    obtain ⟨⟨zs,hz,rz⟩,hF6,hr6⟩:=own_st ob5 hF5 hr5 st6
                    have hDp:D∉pv.map (·.1):=hid6.out hz
                    refine asl J6.bare (app_ok (X:=X.blk sc Hc scope ce fp) (E:=fun _ _=>False) (Q:=fun _ s'=>L2.Inv (X.blk sc Hc scope ce fp) [] (setV (wipe σ (own.map (·.2))) mg.slots vs) (upd (layP V6 pv) D (.lst (zs++[w]))) s') (J6.gens (poison_bare J6.bare)) ((layP_out hDp).trans hz) (by rw [← rz.length];exact hl) rz6 fun s' I'=>I') (fun _ u7 A7 J7 hb7 k7=>?_) fun _ _ _ q=>q.elim
                    have J7:=J7.ungens (hb7 J7.bare)
                    rw [← lay_upd hDp] at J7
                    have aD6:a≠D:=aD
                    have hid7:Hid g6 (upd V6 D (.lst (zs++[w]))) pv:=⟨fun q hq=>by
                      rw [upd_ne (fun z=>hDp (by rw [← z];exact List.mem_map.mpr ⟨q,hq,rfl⟩))];exact hid6.n q hq,hid6.o⟩
                    have held7:Held p a ao gi Lr' g6 (upd V6 D (.lst (zs++[w]))) pv u7:=by
                      obtain ⟨h7,s7⟩:=held6.step sus6 (Stp.refl _ _) hid6 k7
                      exact ⟨h7.gs,h7.isg,by rw [upd_ne aD6];exact h7.at_,h7.hF,h7.hr,hid7,h7.ge⟩
                    exact ⟨_,lt,g6,m5,_,pv,acc++[y5],zs++[w],Lr',rfl,back J7,rs6.own hF6 hr6 hz (fun ps z=>by cases z),((st13.trans st5).trans st6).own dn,upd_same,rz.append (.one ry6),hF6,hr6,held7,pq⟩
                  · rw [if_neg hl] at pq;exact pq.elim
    exact codeAny_compStart_list loop (wpAny_pyIter_gen (held0.isg _ (sdk _ _ md.obj)) loop)
  subst eD esc
  exact goal _ _ rfl hcell rfl (fun b o e=>pushCells_keeps _ _ _ _ (Heap.get?_push_of_some _ (Heap.get?_push_of_some _ e))) Id pg pt pe
theorem pe_lcG {W:WX} {elt tg iter:Expr} {ifs:List Expr} {scope:Scope} {own:List (Str × Nat)} {pos:Pos} {mg:MG} {fi:Sl→Mem→R (List MV)} {ft:Sl→Mem→R Bool} {fe:Sl→Mem→R OV} (calm:X.calm=true) (nd:X.N.Nodup) (hi:PGn X W iter fi) (bk:BlkOk X.N X.env.scope scope own) (hnc:∀ y∈scope.names,y.2≠.cell)
    (hs:∀ i∈mg.slots,i∈own.map (·.2)) (hg:∀ (s:Shared) (H:Hp) (C:Addr) (cl:List (Str × Addr)) (fp:List Addr),PG (X.blk s H scope (compEnvC scope cl C X.env) fp) tg (gM X.ki mg))
    (ht:∀ (s:Shared) (H:Hp) (C:Addr) (cl:List (Str × Addr)) (fp:List Addr),PTs (X.blk s H scope (compEnvC scope cl C X.env) fp) ifs (tT X.ki W0 ft)) (he:∀ (s:Shared) (H:Hp) (C:Addr) (cl:List (Str × Addr)) (fp:List Addr),PE (X.blk s H scope (compEnvC scope cl C X.env) fp) elt (tE X.ki W0 fe))
    (fold:∀ x,foldedSetIterable iter X.env x=pure x):PE X (.ListComp elt [⟨tg,iter,ifs,0⟩] scope pos) (tF X.ki W fun s m=>(fi s m).bind fun L m=>(compM (compTurnF (own.map (·.2)) mg ft fe s) [] L [] m).bind fun ys m=>.ok (.lst ys) m):=by
  refine ⟨fun pins s σ H Q I h=>?_⟩
  rw [eval_ListComp]
  refine lcG_core calm nd I hi bk hnc hs hg ht he fold h fun D C s' m H' I' q hn f=>⟨m,hn,fun h'' sb=>?_⟩
  obtain ⟨f0,f1,f2,f3,f4,f5⟩:=f
  exact ⟨.ref D,H',I'.turned (t':=s'.toks) (fun b o hb e=>(sb.2 b hb).trans e) f0 f1 f3 f4 f5,rfl,q⟩
theorem ps_setLcG {W:WX} {i:Nat} {y:Str} {py:Pos} {elt tg iter:Expr} {ifs:List Expr} {scope:Scope} {own:List (Str × Nat)} {pos spos:Pos} {mg:MG} {fi:Sl→Mem→R (List MV)} {ft:Sl→Mem→R Bool} {fe:Sl→Mem→R OV} (calm:X.calm=true) (nd:X.N.Nodup) (hy:X.N[i]? = some y) (hyl:X.env.scope.names.lookup y=some .local)
    (hsw:swapsWith (.ListComp elt [⟨tg,iter,ifs,0⟩] scope pos) (some (.Name y py)) spos.line X.env=pure true) (hi:PGn X W iter fi) (bk:BlkOk X.N X.env.scope scope own) (hnc:∀ y∈scope.names,y.2≠.cell)
    (hs:∀ i∈mg.slots,i∈own.map (·.2)) (hg:∀ (s:Shared) (H:Hp) (C:Addr) (cl:List (Str × Addr)) (fp:List Addr),PG (X.blk s H scope (compEnvC scope cl C X.env) fp) tg (gM X.ki mg))
    (ht:∀ (s:Shared) (H:Hp) (C:Addr) (cl:List (Str × Addr)) (fp:List Addr),PTs (X.blk s H scope (compEnvC scope cl C X.env) fp) ifs (tT X.ki W0 ft)) (he:∀ (s:Shared) (H:Hp) (C:Addr) (cl:List (Str × Addr)) (fp:List Addr),PE (X.blk s H scope (compEnvC scope cl C X.env) fp) elt (tE X.ki W0 fe))
    (fold:∀ x,foldedSetIterable iter X.env x=pure x):PS X (.Assign [.Name y py] (.ListComp elt [⟨tg,iter,ifs,0⟩] scope pos) spos) (tAsg (tF X.ki W fun s m=>(fi s m).bind fun L m=>(compM (compTurnF (own.map (·.2)) mg ft fe s) [] L [] m).bind fun ys m=>.ok (.lst ys) m) (gName i)):=by
  refine ⟨fun pins s σ H D I h=>?_⟩
  rw [exec_Assign_Name_used _ _ _ _ hsw]
  refine wpAny_bind (wpAny_standAt (wpAny_bind ?_))
  show wpAny _ X.A (do let _ ← comprehension (.ListComp elt [⟨tg,iter,ifs,0⟩] scope pos) scope X.env (firstIterPos [⟨tg,iter,ifs,0⟩] pos) (newList []) false (eval iter X.env) (some (assign (.Name y py) X.env))) _ _ s
  refine wpAny_bind (thn (lcG_core (Qf:=fun _ s'=>SP X pins D .next s') (Q:=fun x H1=>gName i x σ H1 D.nx) calm nd I hi bk hnc hs hg ht he fold h fun L C s' m H' I' q hn f=>?_) fun _ s' hq=>wpAny_pure (wpAny_pure hq))
  show wpAny _ _ (assign (.Name y py) X.env (.ref L)) _ _ _
  refine wpAny_assign_Name (store_ok2 (v:=V.ref L) I' nd hy (.inl hyl) rfl (fun s2 I2 ⟨a,sb,ha⟩=>?_) (.inr hyl))
  obtain ⟨f0,f1,f2,f3,f4,f5⟩:=f
  have haC:C≠a:=by
    rcases ha with z | z
    · rw [z];exact f1
    · exact fun e=>f4 y a z e.symm
  refine ⟨m,hn.sameBut sb haC,fun h3 sb3=>?_⟩
  exact ⟨_,H',I2.turned (t':=s2.toks) (fun b o hb e=>(sb3.2 b hb).trans e) f0 f1 f3 f4 f5,q⟩
end
end RgF

set_option maxHeartbeats 1000000
namespace Rc
open PySem PySem.Spec L2 RgF
open PyProof.Rows hiding St
def genR (o:Option (List MV)) (m:Mem):R (List MV):=match o with
  | some L=>.ok L m
  | none=>.stuck
structure PrimG where
  need:List Need:=[]
  parts:Cfg→Expr→Option Expr
  F:OV→Mem→Option (List MV)
  ok:∀ {k:Nat} {W:WX} {c:Cfg} {X:Cx} {e o:Expr} {fo:Sl→Mem→R OV},CtxOk k W c X→(∀ n∈need,n.at X k)→parts c e=some o→PE X o (tE X.ki W fo)→PGn X W e fun s m=>(fo s m).bind fun x m=>genR (F x m) m
def noCellB (sc:Scope):Bool:=sc.names.all fun y=>y.2 != .cell
theorem noCell_ok {sc:Scope} (h:noCellB sc=true):∀ y∈sc.names,y.2≠.cell:=fun y hy e=>by
  have:=List.all_eq_true.mp h y hy
  rw [e] at this
  cases this
end Rc

set_option maxHeartbeats 2000000
namespace Rc
open PySem PySem.Spec L2
open PyProof.Rows hiding St
def seqL {β:Type} (r:R (List MV)) (k:List MV→Mem→R β):R β:=match r with
  | .ok a m=>k a m
  | _=>.stuck
open Classical in
def comp2M (f:MV→List MV→Mem→R (List MV)) (wt:List (Nat × MO)):List MV→List MV→Mem→R (List MV)
  | [],acc,m=>if OkW wt m then .ok acc m else .stuck
  | x :: xs,acc,m=>if OkW wt m then seqL (f x acc m) fun acc m=>comp2M f wt xs acc m else .stuck
def turn2 (own own1:List Nat) (tg:MG) (ft:Sl→Mem→R Bool) (fi1:Sl→Mem→R Wk) (tg1:MG) (ft1:Sl→Mem→R Bool) (fe:Sl→Mem→R OV) (s:Sl):MV→List MV→Mem→R (List MV):=fun x acc m=>match assignG tg x (wipeS s own) with
  | some s2=>(ft s2 m).bind fun k m=>if k=true then (fi1 s2 m).bind fun w m=>compM (compTurnF own1 tg1 ft1 fe s2) w.watch w.items acc m else .ok acc m
  | none=>.stuck
open Classical in
theorem comp2M_cons {f:MV→List MV→Mem→R (List MV)} {wt:List (Nat × MO)} {x:MV} {xs acc:List MV} {m:Mem}:comp2M f wt (x :: xs) acc m=if OkW wt m then seqL (f x acc m) fun acc m=>comp2M f wt xs acc m else .stuck:=rfl
theorem comp2M_ok {f:MV→List MV→Mem→R (List MV)} {wt:List (Nat × MO)} {xs acc:List MV} {m:Mem} (h:comp2M f wt xs acc m≠.stuck):OkW wt m:=by
  cases xs with
  | nil =>
    unfold comp2M at h
    split at h
    · assumption
    · exact absurd rfl h
  | cons x xs =>
    rw [comp2M_cons] at h
    split at h
    · assumption
    · exact absurd rfl h
theorem walk_it {J:It} {n:Nat} {G:Hp→Prop} {Y:Nat→Hp→V→Hp→Prop} (w:Walk J n G Y) {H0:Hp} {Qd:Hp→Prop} {B:(Hp→Prop)→V→Hp→Prop} (Pv:Nat→Hp→Prop) (h0:Pv 0 H0) (hG:∀ i H,i≤n→Pv i H→G H)
    (hs:∀ i x H H',i < n→Pv i H→Y i H x H'→B (Pv (i + 1)) x H') (hd:∀ H,Pv n H→Qd H) :
    ∃ W:Nat→Nat→Hp→Prop,(∃ m,W 0 m H0)∧∀ i m H,W i m H→(J.stop i H∧Qd H)∨(J.go i H∧∃ Nx:Hp→Prop,(∀ H',Nx H'→∃ m',m' < m∧W (i + 1) m' H')∧∀ x H',J.yld i H x H'→B Nx x H'):=by
  refine ⟨fun i m H=>m=n - i∧i≤n∧Pv i H,⟨n,by simp,Nat.zero_le _,h0⟩,?_⟩
  rintro i m H ⟨rfl,hi,p⟩
  have q:=hG i H hi p
  by_cases hlt:i < n
  · exact .inr ⟨w.goes i H hlt q,Pv (i + 1),fun H' p'=>⟨n - (i + 1),by omega,rfl,hlt,p'⟩,fun x H' y=>hs i x H H' hlt p (w.yields i H x H' hlt q y)⟩
  · have e:i=n:=by omega
    subst e
    exact .inl ⟨w.stops H q,hd H p⟩
theorem own_set {P:MO→Addr→Prop}:VSet fun s σ=>∀ (i:Nat) o a,s[i]? = some (some (SV.own o))→σ[i]? = some (some (V.ref a))→P o a:=by
  intro s σ i x v h j o a e1 e2
  by_cases q:i=j
  · subst q
    by_cases hi:i < s.length
    · rw [List.getElem?_set_self hi] at e1;cases e1
    · rw [List.getElem?_eq_none (by simpa using hi)] at e1;cases e1
  · rw [List.getElem?_set_ne q] at e1 e2
    exact h j o a e1 e2
section
variable {K:Ki} {W:WX} {σ:St} {H:Hp} {Q:VK}
theorem tF_comp2 {own own1:List Nat} {tg tg1:MG} {fi fi1:Sl→Mem→R Wk} {ft ft1:Sl→Mem→R Bool} {fe:Sl→Mem→R OV} (hs:∀ i∈tg.slots,i∈own) (hs1:∀ i∈tg1.slots,i∈own1)
    (h:tF K W (fun s m=>(fi s m).bind fun w m=>(comp2M (turn2 own own1 tg ft fi1 tg1 ft1 fe s) w.watch w.items [] m).bind fun ys m=>.ok (.lst ys) m) σ H Q):tLc2 (tI K W fi) (gM K tg) (tT K W0 ft) (tI K W0 fi1) (gM K tg1) (tT K W0 ft1) (tE K W0 fe) own own1 σ H Q:=by
  obtain ⟨g,s,m,rs,rl,p⟩:=h
  refine ⟨g,s,m,rs,rl,(PostF.bind p).imp fun J H1 ⟨items,g1,m1,rs1,st1,wk,p1⟩ D hD=>?_⟩
  obtain ⟨n,Gd,Y,w,hn,hG,hY⟩:=wk
  have rl1:=rl.st st1
  obtain ⟨hDF,hDr⟩:=rs1.free hD
  obtain ⟨rs2,st2⟩:=rs1.grow (o:=.lst []) hD
  obtain ⟨T,eT⟩:∃ T,T=turn2 own own1 tg ft fi1 tg1 ft1 fe s:=⟨_,rfl⟩
  rw [← eT] at p1
  have okc:∀ {xs acc:List MV} {m2:Mem},PostF K (WE W σ) g1 H1 ((comp2M T items.watch xs acc m2).bind fun ys m=>.ok (.lst ys) m) Q→OkW items.watch m2:=fun {xs acc m2} pq=>comp2M_ok fun z=>by rw [z] at pq;exact pq
  refine walk_it w (Pv:=fun i H2=>∃ g2 m2 acc ys,Rs K g2 m2 H2∧Stp g1 H1 g2 H2∧H2 D=some (.lst ys)∧RVs K g2 acc ys∧g2.F D=none∧(∀ k,g2.r k≠some D)∧PostF K (WE W σ) g1 H1 ((comp2M T items.watch (items.items.drop i) acc m2).bind fun ys m=>.ok (.lst ys) m) Q)
    ⟨g1,m1,[],[],rs2,st2,upd_same,rfl,hDF,hDr,by simpa using p1⟩ (fun i H2 _ ⟨g2,m2,acc,ys,r2,t2,_,_,_,_,pq⟩=>hG g2 m2 H2 r2 t2.fle (okc pq)) ?_ ?_
  · rintro i x H2 H3 hi ⟨g2,m2,acc,ys,r2,t2,hDl,ra,hF2,hr2,pq⟩ hy
    have okw:=okc pq
    obtain ⟨g3,it,r3,t3,e3,rx⟩:=hY i H2 x H3 g2 m2 hi hy r2 t2.fle okw
    have t13:=t2.trans t3
    have hitem:items.items.drop i=it :: items.items.drop (i + 1):=by
      obtain ⟨hlt,e4⟩:=List.getElem?_eq_some_iff.mp e3
      rw [List.drop_eq_getElem_cons hlt,e4]
    rw [hitem] at pq
    have ob3:=own_st (o:=.lst acc) ⟨ys,hDl,ra⟩ hF2 hr2 t3
    rw [comp2M_cons,if_pos okw] at pq
    cases ea:assignG tg it (wipeS s own) with
    | none =>
      have ec:T it acc m2=.stuck:=by rw [eT];unfold turn2;rw [ea]
      rw [ec] at pq;exact pq.elim
    | some s2 =>
      have ec:T it acc m2=(ft s2 m2).bind fun k m=>if k=true then (fi1 s2 m).bind fun w m=>compM (compTurnF own1 tg1 ft1 fe s2) w.watch w.items acc m else .ok acc m:=by
        rw [eT]
        show (match assignG tg it (wipeS s own) with
          | some s2=>(ft s2 m2).bind fun k m=>if k=true then (fi1 s2 m).bind fun w m=>compM (compTurnF own1 tg1 ft1 fe s2) w.watch w.items acc m else .ok acc m
          | none=>.stuck)=_
        rw [ea]
      rw [ec] at pq
      have rl3:=((rl1.st t13).wipe own)
      have ow0:∀ (i:Nat) o a,(wipeS s own)[i]? = some (some (SV.own o))→(wipe σ own)[i]? = some (some (V.ref a))→ObjR K g1 o H1 a∧g1.F a=none∧∀ n,g1.r n≠some a:=fun i o a e1 e2=>by
        obtain ⟨b,e3,e4⟩:=(rl1.wipe own).own i o e1
        rw [e2] at e3;cases e3
        exact e4
      refine gM_ok (I:=fun s σ=>∀ (i:Nat) o a,s[i]? = some (some (SV.own o))→σ[i]? = some (some (V.ref a))→ObjR K g1 o H1 a∧g1.F a=none∧∀ n,g1.r n≠some a) (own_set (P:=fun o a=>ObjR K g1 o H1 a∧g1.F a=none∧∀ n,g1.r n≠some a)) r3 ea rx rl3 ow0 fun vs rl4 ow=>⟨by rw [setV_wipe hs,wipe_idem],g3,s2,m2,r3,rl4,?_⟩
      cases et:ft s2 m2 with
      | stuck=>rw [et] at pq;exact pq.elim
      | exc c ks xs m'=>rw [et] at pq;exact pq.elim
      | ok k m4 =>
        rw [et] at pq
        intro g4 b H4 r4 t4 eb
        subst eb
        have ob4:=own_st ob3.1 ob3.2.1 ob3.2.2 t4
        cases k with
        | false =>
          obtain ⟨⟨zs,hz,rz⟩,h6,h7⟩:=ob4
          exact iteF ⟨g4,m4,acc,zs,r4,t13.trans t4,hz,rz,h6,h7,pq⟩
        | true =>
          refine iteT ⟨g4,s2,m4,r4,rl4.st t4,?_⟩
          have ed:((R.ok true m4:R Bool).bind fun k m=>if k=true then (fi1 s2 m).bind fun w m=>compM (compTurnF own1 tg1 ft1 fe s2) w.watch w.items acc m else .ok acc m)=(fi1 s2 m4).bind fun w m=>compM (compTurnF own1 tg1 ft1 fe s2) w.watch w.items acc m:=rfl
          rw [ed] at pq
          cases ei:fi1 s2 m4 with
          | stuck=>rw [ei] at pq;exact pq.elim
          | exc c ks xs m'=>rw [ei] at pq;exact pq.elim
          | ok w1 m5 =>
            rw [ei] at pq
            intro g5 J1 H5 r5 t5 wk1
            obtain ⟨n1,Gd1,Y1,wl1,hn1,hG1,hY1⟩:=wk1
            obtain ⟨⟨zs5,hz5,rz5⟩,hF5,hr5⟩:=own_st ob4.1 ob4.2.1 ob4.2.2 t5
            have t15:=(t13.trans t4).trans t5
            have rl5:=(rl4.st t4).st t5
            have pq:PostF K (WE W σ) g1 H1 ((seqL (compM (compTurnF own1 tg1 ft1 fe s2) w1.watch w1.items acc m5) fun acc m=>comp2M T items.watch (items.items.drop (i + 1)) acc m).bind fun ys m=>.ok (.lst ys) m) Q:=pq
            have okc1:∀ {xs acc:List MV} {m2:Mem},PostF K (WE W σ) g1 H1 ((seqL (compM (compTurnF own1 tg1 ft1 fe s2) w1.watch xs acc m2) fun acc m=>comp2M T items.watch (items.items.drop (i + 1)) acc m).bind fun ys m=>.ok (.lst ys) m) Q→OkW w1.watch m2:=fun {xs acc m2} pq=>compM_ok fun z=>by rw [z] at pq;exact pq
            refine walk_it wl1 (Pv:=fun j H6=>∃ g6 m6 acc ys,Rs K g6 m6 H6∧Fle g5 g6∧Stp g1 H1 g6 H6∧H6 D=some (.lst ys)∧RVs K g6 acc ys∧g6.F D=none∧(∀ k,g6.r k≠some D)∧PostF K (WE W σ) g1 H1 ((seqL (compM (compTurnF own1 tg1 ft1 fe s2) w1.watch (w1.items.drop j) acc m6) fun acc m=>comp2M T items.watch (items.items.drop (i + 1)) acc m).bind fun ys m=>.ok (.lst ys) m) Q)
              ⟨g5,m5,acc,zs5,r5,Fle.refl _,t15,hz5,rz5,hF5,hr5,by simpa using pq⟩ (fun j H6 _ ⟨g6,m6,acc,ys,r6,f6,t6,_,_,_,_,pq⟩=>hG1 g6 m6 H6 r6 f6 (okc1 pq)) ?_ ?_
            · rintro j x1 H6 H7 hj ⟨g6,m6,acc,ys,r6,f6,t6,hDl6,ra6,hF6,hr6,pq⟩ hy1
              have okw1:=okc1 pq
              obtain ⟨g7,it1,r7,t7,e7,rx7⟩:=hY1 j H6 x1 H7 g6 m6 hj hy1 r6 f6 okw1
              have t57:=t6.trans t7
              have hitem1:w1.items.drop j=it1 :: w1.items.drop (j + 1):=by
                obtain ⟨hlt,e4⟩:=List.getElem?_eq_some_iff.mp e7
                rw [List.drop_eq_getElem_cons hlt,e4]
              rw [hitem1,compM_cons,if_pos okw1] at pq
              have ob7:=own_st (o:=.lst acc) ⟨ys,hDl6,ra6⟩ hF6 hr6 t7
              cases ea1:assignG tg1 it1 (wipeS s2 own1) with
              | none =>
                have ec1:compTurnF own1 tg1 ft1 fe s2 it1 m6=.stuck:=by unfold compTurnF;rw [ea1]
                rw [ec1] at pq;exact pq.elim
              | some s3 =>
                have ec1:compTurnF own1 tg1 ft1 fe s2 it1 m6=(ft1 s3 m6).bind fun k m=>if k=true then (fe s3 m).bind fun y m=>(match valO y with
                  | some y=>.ok (some y) m
                  | none=>.stuck) else .ok none m:=by
                  show (match assignG tg1 it1 (wipeS s2 own1) with
                    | some s2=>(ft1 s2 m6).bind fun k m=>if k=true then (fe s2 m).bind fun y m=>(match valO y with
                      | some y=>.ok (some y) m
                      | none=>.stuck) else .ok none m
                    | none=>.stuck)=_
                  rw [ea1]
                have rl57:RSl K g7 s2 (setV (wipe σ own) tg.slots vs) H7:=by
                  refine ⟨fun i x e=>let ⟨v,e1,e2⟩:=rl5.val i x e;⟨v,e1,e2.fle (f6.trans t7.fle)⟩,fun i o e=>?_,rl5.dis,rl5.len⟩
                  obtain ⟨a,e1,_⟩:=rl5.own i o e
                  obtain ⟨o1,o2,o3⟩:=ow i o a e e1
                  exact ⟨a,e1,own_st o1 o2 o3 t57⟩
                have rl7:=rl57.wipe own1
                refine gM_ok (I:=fun _ _=>True) (fun _ _ _ _ _ _=>trivial) r7 ea1 rx7 rl7 trivial fun vs1 rl8 _=>⟨by rw [setV_wipe hs1,wipe_idem],g7,s3,m6,r7,rl8,?_⟩
                cases et1:ft1 s3 m6 with
                | stuck=>rw [ec1,et1] at pq;exact pq.elim
                | exc c ks xs m'=>rw [ec1,et1] at pq;exact pq.elim
                | ok k m8 =>
                  rw [ec1,et1] at pq
                  intro g8 b H8 r8 t8 eb
                  subst eb
                  have ob8:=own_st ob7.1 ob7.2.1 ob7.2.2 t8
                  cases k with
                  | false =>
                    obtain ⟨⟨zs,hz,rz⟩,h6,h7⟩:=ob8
                    exact iteF ⟨g8,m8,acc,zs,r8,(f6.trans t7.fle).trans t8.fle,t57.trans t8,hz,rz,h6,h7,pq⟩
                  | true =>
                    refine iteT ⟨g8,s3,m8,r8,rl8.st t8,?_⟩
                    have ed1:((R.ok true m8:R Bool).bind fun k m=>if k=true then (fe s3 m).bind fun y m=>(match valO y with
                      | some y=>.ok (some y) m
                      | none=>.stuck) else .ok none m)=(fe s3 m8).bind fun y m=>(match valO y with
                      | some y=>.ok (some y) m
                      | none=>.stuck):=rfl
                    rw [ed1] at pq
                    cases ee:fe s3 m8 with
                    | stuck=>rw [ee] at pq;exact pq.elim
                    | exc c ks xs m'=>rw [ee] at pq;exact pq.elim
                    | ok y m9 =>
                      rw [ee] at pq
                      intro g9 yv H9 r9 t9 ry
                      obtain ⟨⟨zs,hz,rz⟩,h6,h7⟩:=own_st ob8.1 ob8.2.1 ob8.2.2 t9
                      cases y with
                      | b o=>exact pq.elim
                      | v y =>
                        have pq:PostF K (WE W σ) g1 H1 ((seqL (if acc.length < sizeLine then compM (compTurnF own1 tg1 ft1 fe s2) w1.watch (w1.items.drop (j + 1)) (acc++[y]) m9 else .stuck) fun acc m=>comp2M T items.watch (items.items.drop (i + 1)) acc m).bind fun ys m=>.ok (.lst ys) m) Q:=pq
                        by_cases hl:acc.length < sizeLine
                        · rw [if_pos hl] at pq
                          exact ⟨zs,hz,by rw [← rz.length];exact hl,g9,m9,acc++[y],zs++[yv],r9.own h6 h7 hz (fun ps z=>by cases z),((f6.trans t7.fle).trans t8.fle).trans t9.fle,((t57.trans t8).trans t9).own hD,upd_same,rz.append (.one ry),h6,h7,pq⟩
                        · rw [if_neg hl] at pq;exact pq.elim
            · rintro H6 ⟨g6,m6,acc,ys,r6,f6,t6,hDl6,ra6,hF6,hr6,pq⟩
              have okw1:=okc1 pq
              rw [hn1,List.drop_length] at pq
              have e:compM (compTurnF own1 tg1 ft1 fe s2) w1.watch [] acc m6=.ok acc m6:=by unfold compM;rw [if_pos okw1]
              rw [e] at pq
              exact ⟨g6,m6,acc,ys,r6,t6,hDl6,ra6,hF6,hr6,pq⟩
  · rintro H2 ⟨g2,m2,acc,ys,r2,t2,hDl,ra,hF2,hr2,pq⟩
    have okw:=okc pq
    rw [hn,List.drop_length] at pq
    have e:comp2M T items.watch [] acc m2=.ok acc m2:=by unfold comp2M;rw [if_pos okw]
    rw [e] at pq
    exact pq g2 D H2 r2 t2 hD hF2 hr2 ⟨ys,hDl,ra⟩
end
end Rc

namespace Rc
open PySem PySem.Spec L2
open PyProof.Rows hiding St
section
variable {X:Cx} {g:G} {m:Mem} {pins:List (Addr × Obj)} {σ:St} {H:Hp} {s:Shared}
mutual
theorem rv_nest (I:Inv X pins σ H s) (rs:Rs X.ki g m H):∀ (x:MV) {v:V} {u:Value} {k:NestedKey},RV X.ki g x v→RelV v u→mvKey x=some k→NestedIs s.heap k u
  | .non,_,_,_,r,q,e=>by cases r;cases q;cases e;exact .none
  | .bl b,_,_,_,r,q,e=>by cases r;cases q;cases e;exact .bool rfl
  | .int b,_,_,_,r,q,e=>by cases r;obtain ⟨t,rfl⟩:=q;cases e;exact .int b t
  | .str b,_,_,_,r,q,e=>by cases r;obtain ⟨t,rfl⟩:=q;cases e;exact .text b t
  | .tup xs,_,_,_,r,q,e=>by
    obtain ⟨a,ys,rfl,h,t⟩:=r
    cases q
    obtain ⟨ks,e1,rfl⟩:=Option.map_eq_some_iff.mp (show (mvKeys xs).map NestedKey.tup=some _ from e)
    obtain ⟨its,rv,⟨o,ho,hc,k,hd⟩,_⟩:=I.tuple (SqT.monoF rs.sub h)
    exact .tup ho hc hd (rvs_nest I rs xs t rv e1)
  | .lst _,_,_,_,_,_,e=>by cases e
  | .kl _,_,_,_,_,_,e=>by cases e
  | .ref _,_,_,_,_,_,e=>by cases e
  | .ins _ _ _,_,_,_,_,_,e=>by cases e
  | .exn _ _ _,_,_,_,_,_,e=>by cases e
  | .dic _ _,_,_,_,_,_,e=>by cases e
  | .kd _ _,_,_,_,_,_,e=>by cases e
  | .cls _,_,_,_,_,_,e=>by cases e
  | .dit _ _,_,_,_,_,_,e=>by cases e
theorem rvs_nest (I:Inv X pins σ H s) (rs:Rs X.ki g m H):∀ (xs:List MV) {vs:List V} {us:List Value} {ks:List NestedKey},RVs X.ki g xs vs→Vals vs us→mvKeys xs=some ks→NestedAll s.heap ks us
  | [],_,_,_,r,q,e=>by cases (show _=[] from r);cases q;cases e;exact .nil
  | x :: xs,_,_,_,⟨v,r,e0,h,t⟩,q,e=>by
    subst e0
    obtain ⟨k,e1,e2⟩:=Option.bind_eq_some_iff.mp (show ((mvKey x).bind fun k=>(mvKeys xs).map (k :: ·))=some _ from e)
    obtain ⟨ks,e3,rfl⟩:=Option.map_eq_some_iff.mp e2
    cases q with
    | cons q1 q2=>exact .cons (rv_nest I rs x h q1 e1) (rvs_nest I rs xs t q2 e3)
end
end
section
variable {X:Cx} {g:G} {m:Mem} {pins:List (Addr × Obj)} {σ:St} {H:Hp} {s:Shared}
end

section
variable {X:Cx} {g:G} {m:Mem} {pins:List (Addr × Obj)} {σ:St} {H:Hp} {s:Shared}
end
section
variable {X:Cx}
end
end Rc

namespace Rc
open PySem PySem.Spec L2
open PyProof.Rows hiding St
section
variable {K:Ki} {g:G}
end
end Rc

namespace Rc
open PySem PySem.Spec L2
open PyProof.Rows hiding St
section
variable {P:Program} {w:World} {A:Around} {E:Value→Shared→Prop} {s:Shared}
end
section
variable {X:Cx}
end
end Rc

namespace Rc
open PySem PySem.Spec L2
open PyProof.Rows hiding St
def intsU:List MV→Option (List Int)
  | []=>some []
  | .int i :: r=>(intsU r).map (i :: ·)
  | _=>none
def rowU:MV→Option (List Int)
  | .tup xs=>intsU xs
  | _=>none
def putU (acc:List (List Int)) (c:List Int):List (List Int):=if c∈acc then acc else acc++[c]
open Classical in
def scompM (f:MV→Mem→R (Option MV)) (wt:List (Nat × MO)):List MV→List (List Int)→Mem→R (List (List Int))
  | [],acc,m=>if OkW wt m then .ok acc m else .stuck
  | x :: xs,acc,m=>if OkW wt m then (match f x m with
    | .ok (some y) m=>(match rowU y with
      | some c=>if acc.length + 1 < 64 then scompM f wt xs (putU acc c) m else .stuck
      | none=>.stuck)
    | .ok none m=>scompM f wt xs acc m
    | _=>.stuck) else .stuck
open Classical in
theorem scompM_cons {f:MV→Mem→R (Option MV)} {wt:List (Nat × MO)} {x:MV} {xs:List MV} {acc:List (List Int)} {m:Mem}:scompM f wt (x :: xs) acc m=if OkW wt m then (match f x m with
    | .ok (some y) m=>(match rowU y with
      | some c=>if acc.length + 1 < 64 then scompM f wt xs (putU acc c) m else .stuck
      | none=>.stuck)
    | .ok none m=>scompM f wt xs acc m
    | _=>.stuck) else .stuck:=rfl
section
variable {K:PySem.W.Frag} {J:It} {n:Nat} {G:Hp→Prop} {Y:Nat→Hp→V→Hp→Prop}
end
section
variable {K:Ki} {σ:St} {H:Hp} {Q:VK} {W:WX}
end
end Rc

set_option maxHeartbeats 1000000
namespace Rc
open PySem PySem.Spec L2
open PyProof.Rows hiding St

mutual
inductive ME where
  | slot (i:Nat)
  | pr (p:Prim) (es:MEs)
  | cmp (p:PrimC) (a b:ME)
  | chain (p q:PrimC) (a b c:ME)
  | andV (a b:ME)
  | orV (a b:ME)
  | notV (a:ME)
  | ite (t:MT) (a b:ME)
  | fr (f:MF)
  | nw (f:MF)
  | sl (a b c:ME)
  | bm (p:PrimM) (o:ME) (es:MEs)
  | pa (p:PrimA) (as:MAs)
  | tryL (p:PrimT) (e:ME)
  | tryLs (p:PrimTs) (es:MEs)
inductive MAs where
  | nil
  | cons (b:Bool) (e:ME) (as:MAs)
inductive MEs where
  | nil
  | cons (e:ME) (es:MEs)
inductive MT where
  | val (e:ME)
  | cmp (p:PrimC) (a b:ME)
  | chain (p q:PrimC) (a b c:ME)
  | and (a b:MT)
  | or (a b:MT)
  | not (a:MT)
inductive MF where
  | pr (p:PrimF) (es:MEs)
  | pa (p:PrimFA) (as:MAs)
  | comp (own:List Nat) (tg:MG) (it:MI) (ifs:MTs) (e:ME)
  | dcomp (own:List Nat) (tg:MG) (it:MI) (ifs:MTs) (k v:ME)
  | compG (own:List Nat) (tg:MG) (p:PrimG) (o:ME) (ifs:MTs) (e:ME)
  | comp2 (own own1:List Nat) (tg:MG) (it:MI) (ifs:MTs) (tg1:MG) (it1:MI) (ifs1:MTs) (e:ME)
inductive MI where
  | pr (p:PrimI) (es:MEs)
inductive MTs where
  | nil
  | one (t:MT)
end
def truO (m:Mem):OV→Option Bool
  | .v .non=>some false
  | .v (.bl b)=>some b
  | .v (.int i)=>some (i != 0)
  | .v (.str x)=>if x.length≤sizeLine then some ((x.length:Int) != 0) else none
  | x=>match contO m x with
    | some (.l xs)=>some (!xs.isEmpty)
    | some (.t xs)=>some (!xs.isEmpty)
    | _=>none
def truR (x:OV) (m:Mem):R Bool:=match truO m x with
  | some b=>.ok b m
  | none=>.stuck
def slotR (o:Option (Option SV)) (m:Mem):R OV:=match o with
  | some (some (.v x))=>.ok (.v x) m
  | some (some (.own o))=>.ok (.b o) m
  | _=>.stuck
mutual
def ev:ME→Sl→Mem→R OV
  | .slot i,s,m=>slotR s[i]? m
  | .pr p es,s,m=>(evs es s m).bind p.F
  | .cmp p a b,s,m=>(ev a s m).bind fun x m=>(ev b s m).bind fun y m=>p.F x y m
  | .chain p q a b c,s,m=>(ev a s m).bind fun x m=>(ev b s m).bind fun y m=>(p.F x y m).bind fun z m=>(asBl z m).bind fun k m =>
      if k=true then (ev c s m).bind fun w m=>q.F y w m else .ok (.v (.bl false)) m
  | .andV a b,s,m=>(ev a s m).bind fun x m=>(truR x m).bind fun k m=>if k=true then ev b s m else .ok x m
  | .orV a b,s,m=>(ev a s m).bind fun x m=>(truR x m).bind fun k m=>if k=true then .ok x m else ev b s m
  | .notV a,s,m=>(ev a s m).bind fun x m=>(truR x m).bind fun k m=>.ok (.v (.bl (!k))) m
  | .ite t a b,s,m=>(evT t s m).bind fun k m=>if k=true then ev a s m else ev b s m
  | .fr f,s,m=>(evF f s m).bind fun o m=>.ok (.v (frz o)) m
  | .nw f,s,m=>newO (evF f s m)
  | .sl a b c,s,m=>(ev a s m).bind fun x m=>(ev b s m).bind fun y m=>match intO y with
    | some k=>(ev c s m).bind fun z m=>slB2 x k z m
    | none=>.stuck
  | .bm p o es,s,m=>(ev o s m).bind fun x m=>match p.F x m with
    | some f=>(evs es s m).bind f
    | none=>.stuck
  | .pa p as,s,m=>(evAs as s m).bind p.F
  | .tryL p e,s,m=>p.F (ev e s m)
  | .tryLs p es,s,m=>p.F ((evL es).map fun f=>f s) m
def evL:MEs→List (Sl→Mem→R OV)
  | .nil=>[]
  | .cons e es=>ev e :: evL es
def evAs:MAs→Sl→Mem→R (List OV)
  | .nil,_,m=>.ok [] m
  | .cons b e as,s,m=>(ev e s m).bind fun x m=>match starO b x with
    | some zs=>(evAs as s m).bind fun xs m=>.ok (zs++xs) m
    | none=>.stuck
def evs:MEs→Sl→Mem→R (List OV)
  | .nil,_,m=>.ok [] m
  | .cons e es,s,m=>(ev e s m).bind fun x m=>(evs es s m).bind fun xs m=>.ok (x :: xs) m
def evT:MT→Sl→Mem→R Bool
  | .val e,s,m=>(ev e s m).bind truR
  | .cmp p a b,s,m=>(ev a s m).bind fun x m=>(ev b s m).bind fun y m=>(p.F x y m).bind fun z m=>asBl z m
  | .chain p q a b c,s,m=>(ev a s m).bind fun x m=>(ev b s m).bind fun y m=>(p.F x y m).bind fun z m=>(asBl z m).bind fun k m =>
      if k=true then (ev c s m).bind fun w m=>(q.F y w m).bind fun z m=>asBl z m else .ok false m
  | .and a b,s,m=>(evT a s m).bind fun k m=>if k=true then evT b s m else .ok false m
  | .or a b,s,m=>(evT a s m).bind fun k m=>if k=true then .ok true m else evT b s m
  | .not a,s,m=>(evT a s m).bind fun k m=>.ok (!k) m
def evF:MF→Sl→Mem→R MO
  | .pr p es,s,m=>(evs es s m).bind p.F
  | .pa p as,s,m=>(evAs as s m).bind p.F
  | .comp own tg it ifs e,s,m=>(evI it s m).bind fun w m=>(compM (compTurnF own tg (evTs ifs) (ev e) s) w.watch w.items [] m).bind fun ys m=>.ok (.lst ys) m
  | .dcomp own tg it ifs k v,s,m=>(evI it s m).bind fun w m=>(dcompM (dcompTurnF own tg (evTs ifs) (ev k) (ev v) s) w.watch w.items [] [] m).bind fun p m=>.ok (.dic p.1 p.2) m
  | .compG own tg p o ifs e,s,m=>((ev o s m).bind fun x m=>genR (p.F x m) m).bind fun L m=>(compM (compTurnF own tg (evTs ifs) (ev e) s) [] L [] m).bind fun ys m=>.ok (.lst ys) m
  | .comp2 own own1 tg it ifs tg1 it1 ifs1 e,s,m=>(evI it s m).bind fun w m=>(comp2M (turn2 own own1 tg (evTs ifs) (evI it1) tg1 (evTs ifs1) (ev e) s) w.watch w.items [] m).bind fun ys m=>.ok (.lst ys) m
def evI:MI→Sl→Mem→R Wk
  | .pr p es,s,m=>(evs es s m).bind p.F
def evTs:MTs→Sl→Mem→R Bool
  | .nil,_,m=>.ok true m
  | .one t,s,m=>evT t s m
end
mutual
def ME.needs:ME→List Need
  | .slot _=>[]
  | .pr p es=>p.need++es.needs
  | .cmp p a b=>p.need++(a.needs++b.needs)
  | .chain p q a b c=>p.need++(q.need++(a.needs++(b.needs++c.needs)))
  | .andV a b=>a.needs++b.needs
  | .orV a b=>a.needs++b.needs
  | .notV a=>a.needs
  | .ite t a b=>t.needs++(a.needs++b.needs)
  | .fr f=>f.needs
  | .nw f=>f.needs
  | .sl a b c=>a.needs++(b.needs++c.needs)
  | .bm p o es=>p.need++(o.needs++es.needs)
  | .pa p as=>p.need++as.needs
  | .tryL p e=>nTwo :: (p.need++e.needs.map low2)
  | .tryLs p es=>nThree :: (p.need++es.needs.map low3)
def MAs.needs:MAs→List Need
  | .nil=>[]
  | .cons _ e as=>e.needs++as.needs
def MEs.needs:MEs→List Need
  | .nil=>[]
  | .cons e es=>e.needs++es.needs
def MT.needs:MT→List Need
  | .val e=>e.needs
  | .cmp p a b=>p.need++(a.needs++b.needs)
  | .chain p q a b c=>p.need++(q.need++(a.needs++(b.needs++c.needs)))
  | .and a b=>a.needs++b.needs
  | .or a b=>a.needs++b.needs
  | .not a=>a.needs
def MF.needs:MF→List Need
  | .pr p es=>p.need++es.needs
  | .pa p as=>p.need++as.needs
  | .comp _ _ it ifs e=>it.needs++(ifs.needs++e.needs)
  | .dcomp _ _ it ifs k v=>it.needs++(ifs.needs++(k.needs++v.needs))
  | .compG _ _ p o ifs e=>p.need++(o.needs++(ifs.needs++e.needs))
  | .comp2 _ _ _ it ifs _ it1 ifs1 e=>it.needs++(ifs.needs++(it1.needs++(ifs1.needs++e.needs)))
def MI.needs:MI→List Need
  | .pr p es=>p.need++es.needs
def MTs.needs:MTs→List Need
  | .nil=>[]
  | .one t=>t.needs
end
def visB (sc:Scope) (x:Str):Bool:=match sc.names.lookup x with
  | some .local=>true
  | some .cell=>true
  | some .free=>true
  | _=>false
def lclB (sc:Scope) (x:Str):Bool:=match sc.names.lookup x with
  | some .local=>true
  | _=>false
def celB (sc:Scope) (x:Str):Bool:=match sc.names.lookup x with
  | some .cell=>true
  | _=>false
def glbB (sc:Scope) (x:Str):Bool:=match sc.names.lookup x with
  | some .globalImplicit=>true
  | _=>false
def plainNm (x:Str):Bool:=!(x == ("__debug__":Str))&&!(x == ("__classdict__":Str))&&decide (x≠("__name__":Str))
def slB (c:Cfg) (i:Nat) (x:Str):Bool:=decide (c.N[i]? = some x)&&plainNm x&&visB c.sc x
def gbB (c:Cfg) (x:Str):Bool:=plainNm x&&glbB c.sc x
def btB (c:Cfg) (x:Str):Bool:=gbB c x&&decide (x∈c.blts)
def tgB (c:Cfg) (i:Nat) (x:Str):Bool:=decide (c.N[i]? = some x)&&(lclB c.sc x || (c.top&&celB c.sc x))
def plainIx:Expr→Bool
  | .Slice ..=>false
  | _=>true
def plainT:Expr→Bool
  | .UnaryOp .Not _ _=>false
  | .BoolOp ..=>false
  | .IfExp ..=>false
  | .Compare ..=>false
  | _=>true
def mGs (c:Cfg):List Nat→List Expr→Bool
  | [],[]=>true
  | i :: is,.Name x _ :: es=>tgB c i x&&mGs c is es
  | _,_=>false
def mG (c:Cfg):MG→Expr→Bool
  | .name i,.Name x _=>tgB c i x
  | .tup is,.Tuple es _ _=>mGs c is es
  | _,_=>false
def mGb (c:Cfg) (scope:Scope) (tg:MG) (e:Expr):Bool:=mG (c.blk scope) tg e || (match tg,e with
  | .name i,.Name x _=>decide (c.N[i]? = some x)&&celB scope x
  | _,_=>false)
def ownN (c:Cfg) (own:List Nat):List (Str × Nat):=own.map fun i=>(c.N.getD i ⟨#[]⟩,i)
def notSet:Expr→Bool
  | .Set ..=>false
  | _=>true
mutual
def mE:ME→Cfg→Expr→Bool
  | .slot i,c,e=>(match e with
    | .Name x _=>slB c i x
    | _=>false)
  | .pr p es,c,e=>(match p.parts c e with
    | some xs=>mEs es c xs
    | none=>false)
  | .cmp p a b,c,e=>(match e with
    | .Compare l [o] [r] _=>p.op o&&!behindInMarks o r&&mE a c l&&mE b c r
    | _=>false)
  | .chain p q a b d,c,e=>(match e with
    | .Compare l [o,o'] [r,r'] _=>p.op o&&q.op o'&&!lastMarks [o,o'] [r,r']&&mE a c l&&mE b c r&&mE d c r'
    | _=>false)
  | .andV a b,c,e=>(match e with
    | .BoolOp .And (x :: y :: rest) p=>mE a c x&&(match rest with
      | []=>mE b c y
      | z :: rest=>mE b c (.BoolOp .And (y :: z :: rest) p))
    | _=>false)
  | .orV a b,c,e=>(match e with
    | .BoolOp .Or (x :: y :: rest) p=>mE a c x&&(match rest with
      | []=>mE b c y
      | z :: rest=>mE b c (.BoolOp .Or (y :: z :: rest) p))
    | _=>false)
  | .notV a,c,e=>(match e with
    | .UnaryOp .Not l _=>mE a c l
    | _=>false)
  | .ite t a b,c,e=>(match e with
    | .IfExp u x y _=>mT t c u&&mE a c x&&mE b c y
    | _=>false)
  | .fr f,c,e=>mF f c e
  | .nw f,c,e=>mF f c e
  | .sl a b d,c,e=>(match e with
    | .Subscript x (.Slice (some l) (some h) none _) _=>mE a c x&&mE b c l&&mE d c h
    | _=>false)
  | .bm p o es,c,e=>(match p.parts c e with
    | some (x,xs)=>mE o c x&&mEs es c xs
    | none=>false)
  | .pa p as,c,e=>(match p.parts c e with
    | some xs=>mAs as c xs
    | none=>false)
  | .tryL p a,c,e=>(match p.parts c e with
    | some (sc,b)=>mE a (c.lamC sc) b
    | none=>false)
  | .tryLs p es,c,e=>(match p.parts c e with
    | some l=>mLs es c l
    | none=>false)
def mLs:MEs→Cfg→List (Scope × Expr)→Bool
  | .nil,_,[]=>true
  | .cons e es,c,(sc,b) :: l=>mE e (c.lamC sc) b&&mLs es c l
  | _,_,_=>false
def mAs:MAs→Cfg→List Expr→Bool
  | .nil,_,[]=>true
  | .cons true e as,c,.Starred x _ :: xs=>mE e c x&&mAs as c xs
  | .cons false e as,c,x :: xs=>plainE x&&(mE e c x&&mAs as c xs)
  | _,_,_=>false
def mEs:MEs→Cfg→List Expr→Bool
  | .nil,_,[]=>true
  | .cons e es,c,x :: xs=>mE e c x&&mEs es c xs
  | _,_,_=>false
def mT:MT→Cfg→Expr→Bool
  | .val e,c,x=>plainT x&&mE e c x
  | .cmp p a b,c,e=>(match e with
    | .Compare l [o] [r] _=>p.op o&&!behindInMarks o r&&mE a c l&&mE b c r
    | _=>false)
  | .chain p q a b d,c,e=>(match e with
    | .Compare l [o,o'] [r,r'] _=>p.op o&&q.op o'&&!lastMarks [o,o'] [r,r']&&mE a c l&&mE b c r&&mE d c r'
    | _=>false)
  | .and a b,c,e=>(match e with
    | .BoolOp .And (x :: y :: rest) p=>mT a c x&&(match rest with
      | []=>mT b c y
      | z :: rest=>mT b c (.BoolOp .And (y :: z :: rest) p))
    | _=>false)
  | .or a b,c,e=>(match e with
    | .BoolOp .Or (x :: y :: rest) p=>mT a c x&&(match rest with
      | []=>mT b c y
      | z :: rest=>mT b c (.BoolOp .Or (y :: z :: rest) p))
    | _=>false)
  | .not a,c,e=>(match e with
    | .UnaryOp .Not l _=>mT a c l
    | _=>false)
def mF:MF→Cfg→Expr→Bool
  | .pr p es,c,e=>(match p.parts c e with
    | some xs=>mEs es c xs
    | none=>false)
  | .pa p as,c,e=>(match p.parts c e with
    | some xs=>mAs as c xs
    | none=>false)
  | .comp own tg it ifs e,c,ex=>(match ex with
    | .ListComp elt [⟨t,iter,is,0⟩] scope _=>c.calm&&blkC c.N c.sc scope (ownN c own)&&(tg.slots.all fun i=>decide (i∈own))&&notSet iter&&mI it c t iter&&mGb c scope tg t&&mTs ifs (c.blk scope) is&&mE e (c.blk scope) elt
    | _=>false)
  | .dcomp own tg it ifs k v,c,ex=>(match ex with
    | .DictComp kx vx [⟨t,iter,is,0⟩] scope _=>c.calm&&blkC c.N c.sc scope (ownN c own)&&(tg.slots.all fun i=>decide (i∈own))&&notSet iter&&mI it c t iter&&mGb c scope tg t&&mTs ifs (c.blk scope) is&&mE k (c.blk scope) kx&&mE v (c.blk scope) vx
    | _=>false)
  | .compG own tg p o ifs e,c,ex=>(match ex with
    | .ListComp elt [⟨t,iter,is,0⟩] scope _=>c.calm&&blkC c.N c.sc scope (ownN c own)&&(tg.slots.all fun i=>decide (i∈own))&&notSet iter&&noCellB scope&&(match p.parts c iter with
      | some x=>mE o c x
      | none=>false)&&mGb c scope tg t&&mTs ifs (c.blk scope) is&&mE e (c.blk scope) elt
    | _=>false)
  | .comp2 own own1 tg it ifs tg1 it1 ifs1 e,c,ex=>(match ex with
    | .ListComp elt [⟨t,iter,is,0⟩,⟨t1,iter1,is1,0⟩] scope _=>c.calm&&blkC c.N c.sc scope (ownN c own)&&(tg.slots.all fun i=>decide (i∈own))&&(tg1.slots.all fun i=>decide (i∈own1))&&(own1.all fun i=>decide (i∈own))&&notSet iter&&notSet iter1&&mI it c t iter&&mGb c scope tg t&&mTs ifs (c.blk scope) is&&mI it1 (c.blk scope) t1 iter1&&mGb c scope tg1 t1&&mTs ifs1 (c.blk scope) is1&&mE e (c.blk scope) elt
    | _=>false)
def mI:MI→Cfg→Expr→Expr→Bool
  | .pr p es,c,t,e=>(match p.parts c t e with
    | some xs=>mEs es c xs
    | none=>false)
def mTs:MTs→Cfg→List Expr→Bool
  | .nil,_,[]=>true
  | .one t,c,[x]=>mT t c x
  | _,_,_=>false
end

section
variable {env:Env} {e:Expr} {es:List Expr} {pos:Pos}
theorem isTrueP (h:plainT e=true) (whole:Sem Value):isTrue e env whole=(do let v ← whole;standAt e.pos;holding [v] (truthy v)):=by
  cases e with
  | UnaryOp op x p=>cases op <;> first | rfl | cases h
  | BoolOp _ _ _=>cases h
  | IfExp _ _ _ _=>cases h
  | Compare _ _ _ _=>cases h
  | _=>rfl
theorem plainIxP (h:plainIx e=true):PlainIx e:=by
  intro o i
  cases e <;> first | rfl | cases h
theorem foldP (h:notSet e=true) (x:Value):foldedSetIterable e env x=pure x:=by
  cases e <;> first | rfl | cases h
theorem assignP {x:Str} {p:Pos}:assignEach (.Name x p :: es) env=(false,assign (.Name x p) env) :: assignEach es env:=rfl
end
theorem takes0N {X:Cx}:L2N.Takes X W0:=fun _ _ x=>by
  obtain ⟨_,_,_,_,_,_,_,_,_,_,_,_,_,_,_,_,z⟩:=x
  exact z.elim
section
variable {k:Nat} {W:WX} {c:Cfg} {X:Cx} (ok:CtxOk k W c X)
include ok
theorem CtxOk.slot {i:Nat} {x:Str} {p:Pos} (h:slB c i x=true):PE X (.Name x p) (tVar i):=by
  unfold slB plainNm at h
  simp only [Bool.and_eq_true,Bool.not_eq_true',decide_eq_true_eq] at h
  obtain ⟨⟨h1,⟨h2,h3⟩,h4⟩,h5⟩:=h
  refine pe_var (by rw [ok.N];exact h1) ?_ h2 h3
  unfold visB at h5
  unfold Vis
  rw [ok.sc]
  split at h5 <;> first | (simp_all;done) | cases h5
theorem CtxOk.gl {x:Str} (h:gbB c x=true):Gl X x∧(x == ("__debug__":Str))=false∧x≠("__name__":Str):=by
  unfold gbB plainNm at h
  simp only [Bool.and_eq_true,Bool.not_eq_true',decide_eq_true_eq] at h
  obtain ⟨⟨⟨h2,h3⟩,h4⟩,h5⟩:=h
  refine ⟨?_,h2,h4⟩
  unfold glbB at h5
  unfold Gl Env.kindOf
  rw [ok.sc]
  split at h5
  · assumption
  · cases h5
theorem CtxOk.bt {x:Str} (h:btB c x=true):Gl X x∧X.mg x=none∧(x == ("__debug__":Str))=false∧x≠("__name__":Str):=by
  unfold btB at h
  rw [Bool.and_eq_true] at h
  obtain ⟨h1,h2,h3⟩:=ok.gl h.1
  exact ⟨h1,ok.blt x (of_decide_eq_true h.2),h2,h3⟩
theorem CtxOk.tg {i:Nat} {x:Str} (h:tgB c i x=true):X.N[i]? = some x∧Loc X.env.scope x∧(X.fn x=true∨X.env.scope.names.lookup x=some .local):=by
  unfold tgB at h
  simp only [Bool.and_eq_true,Bool.or_eq_true,decide_eq_true_eq] at h
  obtain ⟨h1,h2⟩:=h
  refine ⟨by rw [ok.N];exact h1,?_⟩
  rw [ok.sc]
  rcases h2 with h2 | ⟨h2,h3⟩
  · unfold lclB at h2
    split at h2
    · rename_i e
      exact ⟨.inl e,.inr e⟩
    · cases h2
  · unfold celB at h3
    split at h3
    · rename_i e
      exact ⟨.inr e,.inl (ok.top h2 x (by rw [ok.sc];exact e))⟩
    · cases h3
theorem CtxOk.mgs:∀ {is:List Nat} {es:List Expr},mGs c is es=true→PGs X es (gNames is)∧(assignEach es X.env).length=is.length∧(assignEach es X.env).findIdx? (·.1)=none
  | [],[],_=>⟨pgs_nil,rfl,rfl⟩
  | i :: is,e :: es,h=>by
    cases e with
    | Name x p =>
      have h:(tgB c i x&&mGs c is es)=true:=h
      rw [Bool.and_eq_true] at h
      obtain ⟨h1,h2,h3⟩:=ok.tg h.1
      obtain ⟨g1,g2,g3⟩:=CtxOk.mgs h.2
      refine ⟨pgs_cons (pg_name ok.nd h1 h2 h3) g1 rfl,by rw [assignP];simp [g2],?_⟩
      rw [assignP,List.findIdx?_cons,g3]
      rfl
    | _=>cases h
  | [],_ :: _,h=>by cases h
  | _ :: _,[],h=>by cases h
theorem CtxOk.mg {tg:MG} {e:Expr} (hc:X.calm=true) (h:mG c tg e=true):PG X e (gM X.ki tg):=by
  unfold mG at h
  split at h
  · obtain ⟨h1,h2,h3⟩:=ok.tg h
    exact pg_name ok.nd h1 h2 h3
  · obtain ⟨g1,g2,g3⟩:=ok.mgs h
    exact pg_seq hc g1 g2 g3
  · cases h
theorem CtxOk.blk {s:Shared} {H:Hp} {scope:Scope} {C:Addr} {cl:List (Str × Addr)} {fp:List Addr}:CtxOk k W0 (c.blk scope) (X.blk s H scope (compEnvC scope cl C X.env) fp) where
  sc:=by show relS scope X.env.scope=_;rw [ok.sc];rfl
  N:=ok.N
  nd:=ok.nd
  calm:=ok.calm
  blt:=ok.blt
  cst:=ok.cst
  room:=ok.room
  un:=ok.un
  lam:=fun h=>ok.lam h
  top:=fun h=>by cases h
  wish:=fun h=>by cases h
  stk:=fun h=>by cases h
  tk:=takes0N
theorem relS_cell {scope sc:Scope} {x:Str} (h:scope.names.lookup x=some .cell):(relS scope sc).names.lookup x=some .cell:=by
  unfold relS
  dsimp only
  revert h
  generalize scope.names=l
  intro h
  induction l with
  | nil=>cases h
  | cons p l ih =>
    obtain ⟨n,k⟩:=p
    rw [List.lookup_cons] at h
    rw [List.map_cons]
    by_cases e:(x == n)=true
    · rw [e] at h
      cases h
      rw [if_neg (by simp),List.lookup_cons,e]
    · have e:(x == n)=false:=by simpa using e
      rw [e] at h
      have:∀ q:NameKind,List.lookup x ((n,q) :: l.map fun (n,k)=>if (k == .free&&sc.kind == .function&&sc.names.lookup n == some .cell)=true then (n,.cell) else (n,k))=some .cell:=fun q=>by
        rw [List.lookup_cons,e]
        exact ih h
      split
      · exact this _
      · exact this _
theorem CtxOk.mgb {s:Shared} {H:Hp} {scope:Scope} {C:Addr} {cl:List (Str × Addr)} {fp:List Addr} {tg:MG} {e:Expr} (hc:(X.blk s H scope (compEnvC scope cl C X.env) fp).calm=true) (h:mGb c scope tg e=true):PG (X.blk s H scope (compEnvC scope cl C X.env) fp) e (gM X.ki tg):=by
  unfold mGb at h
  rw [Bool.or_eq_true] at h
  rcases h with h | h
  · exact ok.blk.mg hc h
  · split at h
    · rw [Bool.and_eq_true,decide_eq_true_eq] at h
      obtain ⟨h1,h2⟩:=h
      unfold celB at h2
      split at h2
      · rename_i e
        exact pg_name (X:=X.blk s H scope (compEnvC scope cl C X.env) fp) ok.nd (by rw [← ok.N] at h1;exact h1) (.inr (relS_cell ok e)) (.inl (by
          show (scope.names.lookup _ == some .cell)=true
          rw [e];rfl))
      · cases h2
    · cases h
end
section
variable {K:Ki} {W:WX} {σ:St} {H:Hp} {Q:VK} {g:G}
theorem tE_var {i:Nat} (h:tE K W (ev (.slot i)) σ H Q):tVar i σ H Q:=by
  obtain ⟨g,s,m,rs,rl,p⟩:=h
  have p:PostO K (WE W σ) g H (slotR s[i]? m) Q:=p
  unfold slotR at p
  split at p
  · rename_i x e
    obtain ⟨v,e1,r⟩:=rl.val i x e
    exact ⟨v,e1,p g v H rs (Stp.refl _ _) r⟩
  · rename_i o e
    obtain ⟨a,e1,ob,hF,hr⟩:=rl.own i o e
    exact ⟨_,e1,p g _ H rs (Stp.refl _ _) ⟨a,rfl,ob,hF,hr⟩⟩
  · exact p.elim
theorem truR_ok {E:XK} {γ δ:Type} {Rel2:G→Hp→γ→δ→Prop} {x:OV} {m:Mem} {v:V} {k:Bool→Mem→R γ} {Q:δ→Hp→Prop} (rs:Rs K g m H) (r:RO K g H x v) (p:Post K E Rel2 g H ((truR x m).bind k) Q):∃ b,TruV K v H b∧Post K E Rel2 g H (k b m) Q:=by
  unfold truR at p
  split at p
  · rename_i b e
    refine ⟨b,?_,p⟩
    have go:∀ {y:OV},RO K g H y v→(match contO m y with
      | some (.l xs)=>some (!xs.isEmpty)
      | some (.t xs)=>some (!xs.isEmpty)
      | _=>none)=some b→TruV K v H b:=fun {y} ry e=>by
      split at e
      · rename_i xs e2
        cases e
        obtain ⟨a,ys,rfl,q,r⟩:=contO_ok rs ry e2
        refine .inl ⟨ys,q,?_⟩
        cases xs with
        | nil=>cases (show ys=[] from r);rfl
        | cons x xs=>obtain ⟨_,_,rfl,_⟩:=r;rfl
      · rename_i xs e2
        cases e
        obtain ⟨a,ys,rfl,q,r⟩:=contO_ok rs ry e2
        refine .inr (.inl ⟨ys,q,?_⟩)
        cases xs with
        | nil=>cases (show ys=[] from r);rfl
        | cons x xs=>obtain ⟨_,_,rfl,_⟩:=r;rfl
      · cases e
    unfold truO at e
    split at e
    · cases r;cases e;rfl
    · cases r;cases e;rfl
    · cases r;cases e;rfl
    · cases r
      split at e
      · cases e;exact ⟨by assumption,rfl⟩
      · cases e
    · exact go r e
  · exact p.elim
theorem tE_andT {fa fb:Sl→Mem→R OV} (h:tE K W (fun s m=>(fa s m).bind fun x m=>(truR x m).bind fun k m=>if k=true then fb s m else .ok x m) σ H Q):tAndT K (tE K W fa) (tE K W fb) σ H Q:=by
  obtain ⟨g,s,m,rs,rl,p⟩:=h
  refine ⟨g,s,m,rs,rl,(Post.bind p).imp fun v H1 ⟨x,g1,m1,rs1,st1,r1,p1⟩=>?_⟩
  obtain ⟨k,e,p2⟩:=truR_ok rs1 r1 p1
  refine ⟨k,e,?_⟩
  cases k with
  | false=>exact iteF (p2 g1 v H1 rs1 (Stp.refl _ _) r1)
  | true=>exact iteT ⟨g1,s,m1,rs1,rl.st st1,p2⟩
theorem tE_orT {fa fb:Sl→Mem→R OV} (h:tE K W (fun s m=>(fa s m).bind fun x m=>(truR x m).bind fun k m=>if k=true then .ok x m else fb s m) σ H Q):tOrT K (tE K W fa) (tE K W fb) σ H Q:=by
  obtain ⟨g,s,m,rs,rl,p⟩:=h
  refine ⟨g,s,m,rs,rl,(Post.bind p).imp fun v H1 ⟨x,g1,m1,rs1,st1,r1,p1⟩=>?_⟩
  obtain ⟨k,e,p2⟩:=truR_ok rs1 r1 p1
  refine ⟨k,e,?_⟩
  cases k with
  | true=>exact iteT (p2 g1 v H1 rs1 (Stp.refl _ _) r1)
  | false=>exact iteF ⟨g1,s,m1,rs1,rl.st st1,p2⟩
theorem tE_notT {fa:Sl→Mem→R OV} (h:tE K W (fun s m=>(fa s m).bind fun x m=>(truR x m).bind fun k m=>.ok (.v (.bl (!k))) m) σ H Q):tNotT K (tE K W fa) σ H Q:=by
  obtain ⟨g,s,m,rs,rl,p⟩:=h
  refine ⟨g,s,m,rs,rl,(Post.bind p).imp fun v H1 ⟨x,g1,m1,rs1,st1,r1,p1⟩=>?_⟩
  obtain ⟨k,e,p2⟩:=truR_ok rs1 r1 p1
  exact ⟨k,e,post_val rs1 p2 rfl⟩
theorem tT_val {fe:Sl→Mem→R OV} {R':Bool→Hp→Prop} (h:tT K W (fun s m=>(fe s m).bind truR) σ H R'):tE K W fe σ H fun x H'=>∃ b,TruV K x H' b∧R' b H':=by
  obtain ⟨g,s,m,rs,rl,p⟩:=h
  refine ⟨g,s,m,rs,rl,(Post.bind p).imp fun v H1 ⟨x,g1,m1,rs1,st1,r1,p1⟩=>?_⟩
  have p1:PostB K (WE W σ) g1 H1 ((truR x m1).bind fun k m=>.ok k m) R':=by
    cases e:truR x m1 with
    | ok b m2=>rw [e] at p1;exact p1
    | exc c ks xs m2=>rw [e] at p1;exact p1
    | stuck=>rw [e] at p1;exact p1
  obtain ⟨b,h1,p2⟩:=truR_ok rs1 r1 p1
  exact ⟨b,h1,p2 g1 b H1 rs1 (Stp.refl _ _) rfl⟩
theorem tT_cmp {fa fb:Sl→Mem→R OV} {f:OV→OV→Mem→R OV} {R':Bool→Hp→Prop} (h:tT K W (fun s m=>(fa s m).bind fun x m=>(fb s m).bind fun y m=>(f x y m).bind fun z m=>asBl z m) σ H R'):tTest (tOp (t2 K f) (tE K W fa) (tE K W fb)) σ H R':=by
  obtain ⟨g,s,m,rs,rl,p⟩:=h
  refine ⟨g,s,m,rs,rl,(Post.bind p).imp fun v H1 ⟨x,g1,m1,rs1,st1,r1,p1⟩=>⟨g1,s,m1,rs1,rl.st st1,(Post.bind p1).imp fun w H2 ⟨y,g2,m2,rs2,st2,r2,p2⟩=>⟨_,g2,m2,x,y,rs2,RO.st r1 st2,r2,(Post.bind p2).imp fun z H3 ⟨zo,g3,m3,rs3,st3,r3,p3⟩=>?_⟩⟩⟩
  unfold asBl at p3
  split at p3
  · cases r3
    exact ⟨_,rfl,p3 g3 _ H3 rs3 (Stp.refl _ _) rfl⟩
  · exact p3.elim
theorem tT_chain {fa fb fc:Sl→Mem→R OV} {f f':OV→OV→Mem→R OV} {R':Bool→Hp→Prop} (h:tT K W (fun s m=>(fa s m).bind fun x m=>(fb s m).bind fun y m=>(f x y m).bind fun z m=>(asBl z m).bind fun k m =>
      if k=true then (fc s m).bind fun w m=>(f' y w m).bind fun z m=>asBl z m else .ok false m) σ H R'):tTest (tChain (t2 K f) (t2 K f') (tE K W fa) (tE K W fb) (tE K W fc)) σ H R':=by
  obtain ⟨g,s,m,rs,rl,p⟩:=h
  refine ⟨g,s,m,rs,rl,(Post.bind p).imp fun v H1 ⟨x,g1,m1,rs1,st1,r1,p1⟩=>⟨g1,s,m1,rs1,rl.st st1,(Post.bind p1).imp fun w H2 ⟨y,g2,m2,rs2,st2,r2,p2⟩=>⟨_,g2,m2,x,y,rs2,RO.st r1 st2,r2,(Post.bind p2).imp fun z H3 ⟨zo,g3,m3,rs3,st3,r3,p3⟩=>?_⟩⟩⟩
  obtain ⟨k,e,p4⟩:=asBl_ok r3 p3
  refine ⟨k,e,?_⟩
  cases k with
  | false=>exact iteF ⟨false,rfl,p4 g3 _ H3 rs3 (Stp.refl _ _) rfl⟩
  | true =>
    refine iteT ⟨g3,s,m3,rs3,(rl.st st1).st st2 |>.st st3,(Post.bind p4).imp fun w' H4 ⟨u,g4,m4,rs4,st4,r4,p5⟩=>⟨_,g4,m4,y,u,rs4,RO.st (RO.st r2 st3) st4,r4,(Post.bind p5).imp fun z' H5 ⟨zo',g5,m5,rs5,st5,r5,p6⟩=>?_⟩⟩
    unfold asBl at p6
    split at p6
    · cases r5
      exact ⟨_,rfl,p6 g5 _ H5 rs5 (Stp.refl _ _) rfl⟩
    · exact p6.elim
theorem tT_and {fa fb:Sl→Mem→R Bool} {R':Bool→Hp→Prop} (h:tT K W (fun s m=>(fa s m).bind fun k m=>if k=true then fb s m else .ok false m) σ H R'):tAnd (tT K W fa) (tT K W fb) σ H R':=by
  obtain ⟨g,s,m,rs,rl,p⟩:=h
  refine ⟨g,s,m,rs,rl,(Post.bind p).imp fun v H1 ⟨x,g1,m1,rs1,st1,r1,p1⟩=>?_⟩
  subst r1
  cases x with
  | true=>exact iteT ⟨g1,s,m1,rs1,rl.st st1,p1⟩
  | false=>exact iteF (p1 g1 _ H1 rs1 (Stp.refl _ _) rfl)
theorem tT_or {fa fb:Sl→Mem→R Bool} {R':Bool→Hp→Prop} (h:tT K W (fun s m=>(fa s m).bind fun k m=>if k=true then .ok true m else fb s m) σ H R'):tOr (tT K W fa) (tT K W fb) σ H R':=by
  obtain ⟨g,s,m,rs,rl,p⟩:=h
  refine ⟨g,s,m,rs,rl,(Post.bind p).imp fun v H1 ⟨x,g1,m1,rs1,st1,r1,p1⟩=>?_⟩
  subst r1
  cases x with
  | true=>exact iteT (p1 g1 _ H1 rs1 (Stp.refl _ _) rfl)
  | false=>exact iteF ⟨g1,s,m1,rs1,rl.st st1,p1⟩
theorem tT_not {fa:Sl→Mem→R Bool} {R':Bool→Hp→Prop} (h:tT K W (fun s m=>(fa s m).bind fun k m=>.ok (!k) m) σ H R'):tNot (tT K W fa) σ H R':=by
  obtain ⟨g,s,m,rs,rl,p⟩:=h
  refine ⟨g,s,m,rs,rl,(Post.bind p).imp fun v H1 ⟨x,g1,m1,rs1,st1,r1,p1⟩=>?_⟩
  subst r1
  exact p1 g1 _ H1 rs1 (Stp.refl _ _) rfl
theorem tT_yes {R':Bool→Hp→Prop} (h:tT K W (fun _ m=>.ok true m) σ H R'):tYes σ H R':=by
  obtain ⟨g,s,m,rs,rl,p⟩:=h
  exact p g _ H rs (Stp.refl _ _) rfl
end
theorem _root_.L2.PTs.weaken {X:Cx} {e:List Expr} {t t':TT} (h:PTs X e t) (w:∀ σ H Q,t' σ H Q→t σ H Q):PTs X e t':=⟨fun pins s σ H Q I q=>h.run pins s σ H Q I (w σ H Q q)⟩
def isBool:Expr→Bool
  | .BoolOp ..=>true
  | _=>false
def PTW (X:Cx) (e:Expr) (t:TT):Prop:=PT X e t∧(isBool e=true→PW X e t)
theorem PTW.of {X:Cx} {e:Expr} {t:TT} (h:PT X e t) (n:isBool e=false):PTW X e t:=⟨h,fun z=>by rw [n] at z;cases z⟩
theorem PTW.pw {X:Cx} {e:Expr} {t:TT} (h:PW X e t):PTW X e t:=⟨h.pt,fun _=>h⟩
end Rc

set_option maxHeartbeats 2000000
namespace Rc
open PySem PySem.Spec L2
open PyProof.Rows hiding St

def All {α:Type} (p:α→Prop) (l:List α):Prop:=∀ x∈l,p x
theorem All.l {α:Type} {p:α→Prop} {a b:List α} (h:All p (a++b)):All p a:=fun x hx=>h x (List.mem_append_left _ hx)
theorem All.r {α:Type} {p:α→Prop} {a b:List α} (h:All p (a++b)):All p b:=fun x hx=>h x (List.mem_append_right _ hx)
theorem All.nil {α:Type} {p:α→Prop}:All p []:=fun x hx=>by cases hx
theorem All.cons {α:Type} {p:α→Prop} {a:α} {l:List α} (h:p a) (t:All p l):All p (a :: l):=fun x hx=>by
  rcases List.mem_cons.mp hx with rfl | hx
  · exact h
  · exact t x hx
theorem All.app {α:Type} {p:α→Prop} {a b:List α} (h:All p a) (t:All p b):All p (a++b):=fun x hx=>(List.mem_append.mp hx).elim (h x) (t x)
section
mutual
theorem mE_ok:∀ (me:ME) {k:Nat} {W:WX} {c:Cfg} {e:Expr} {X:Cx},CtxOk k W c X→All (Need.at · X k) me.needs→mE me c e=true→PE X e (tE X.ki W (ev me))
  | .slot i,_,W,c,e,X,ok,nd,h=>by
    unfold mE at h
    split at h <;> try contradiction
    exact (ok.slot h).weaken fun σ H Q q=>tE_var q
  | .pr p es,_,W,c,e,X,ok,nd,h=>by
    unfold mE at h
    unfold ME.needs at nd
    split at h <;> try contradiction
    exact p.ok ok nd.l (by assumption) (mEs_ok es ok nd.r h)
  | .cmp p a b,_,W,c,e,X,ok,nd,h=>by
    unfold mE at h
    unfold ME.needs at nd
    split at h <;> try contradiction
    simp only [Bool.and_eq_true,Bool.not_eq_true'] at h
    exact (pe_cmpR (p.ok ok nd.l h.1.1.1) (mE_ok a ok nd.r.l h.1.2) (mE_ok b ok nd.r.r h.2) h.1.1.2).weaken fun σ H Q q=>tE_bin q
  | .chain p q a b d,_,W,c,e,X,ok,nd,h=>by
    unfold mE at h
    unfold ME.needs at nd
    split at h <;> try contradiction
    simp only [Bool.and_eq_true,Bool.not_eq_true'] at h
    exact (pe_chain (p.ok ok nd.l h.1.1.1.1.1) (q.ok ok nd.r.l h.1.1.1.1.2) (mE_ok a ok nd.r.r.l h.1.1.2) (mE_ok b ok nd.r.r.r.l h.1.2) (mE_ok d ok nd.r.r.r.r h.2) h.1.1.1.2).weaken fun σ H Q q=>tE_chain q
  | .andV a b,_,W,c,e,X,ok,nd,h=>by
    unfold mE at h
    unfold ME.needs at nd
    split at h <;> try contradiction
    rw [Bool.and_eq_true] at h
    obtain ⟨h1,h2⟩:=h
    have ha:=mE_ok a ok nd.l h1
    split at h2
    · exact (pe_andT ha (pe_one (mE_ok b ok nd.r h2))).weaken fun σ H Q q=>tE_andT q
    · exact (pe_andT ha (mE_ok b ok nd.r h2)).weaken fun σ H Q q=>tE_andT q
  | .orV a b,_,W,c,e,X,ok,nd,h=>by
    unfold mE at h
    unfold ME.needs at nd
    split at h <;> try contradiction
    rw [Bool.and_eq_true] at h
    obtain ⟨h1,h2⟩:=h
    have ha:=mE_ok a ok nd.l h1
    split at h2
    · exact (pe_orT ha (pe_one (mE_ok b ok nd.r h2))).weaken fun σ H Q q=>tE_orT q
    · exact (pe_orT ha (mE_ok b ok nd.r h2)).weaken fun σ H Q q=>tE_orT q
  | .notV a,_,W,c,e,X,ok,nd,h=>by
    unfold mE at h
    unfold ME.needs at nd
    split at h <;> try contradiction
    exact (pe_notT (mE_ok a ok nd h)).weaken fun σ H Q q=>tE_notT q
  | .ite t a b,_,W,c,e,X,ok,nd,h=>by
    unfold mE at h
    unfold ME.needs at nd
    split at h <;> try contradiction
    simp only [Bool.and_eq_true] at h
    exact (pe_ifExp (mT_ok t ok nd.l h.1.1).1 (mE_ok a ok nd.r.l h.1.2) (mE_ok b ok nd.r.r h.2)).weaken fun σ H Q q=>tE_ite q
  | .fr f,_,W,c,e,X,ok,nd,h=>by
    unfold mE at h
    unfold ME.needs at nd
    exact (mF_ok f ok nd h).weaken fun σ H Q q=>tE_fr q
  | .nw f,_,W,c,e,X,ok,nd,h=>by
    unfold mE at h
    unfold ME.needs at nd
    exact (mF_ok f ok nd h).weaken fun σ H Q q=>tE_newO q
  | .sl a b d,_,W,c,e,X,ok,nd,h=>by
    unfold mE at h
    unfold ME.needs at nd
    split at h <;> try contradiction
    simp only [Bool.and_eq_true] at h
    exact (pe_slice sl_all (mE_ok a ok nd.l h.1.1) (po_some (mE_ok b ok nd.r.l h.1.2)) (po_some (mE_ok d ok nd.r.r h.2))).weaken fun σ H Q q=>tE_sl11 q
  | .bm p o es,_,W,c,e,X,ok,nd,h=>by
    unfold mE at h
    unfold ME.needs at nd
    split at h <;> try contradiction
    rw [Bool.and_eq_true] at h
    exact p.ok ok nd.l (by assumption) (mE_ok o ok nd.r.l h.1) (mEs_ok es ok nd.r.r h.2)
  | .pa p as,_,W,c,e,X,ok,nd,h=>by
    unfold mE at h
    unfold ME.needs at nd
    split at h <;> try contradiction
    exact p.ok ok nd.l (by assumption) (mAs_ok as ok nd.r h)
  | .tryL p a,k,W,c,e,X,ok,nd,h=>by
    unfold mE at h
    unfold ME.needs at nd
    split at h <;> try contradiction
    rename_i sc b hp
    obtain ⟨j,rfl⟩:=nd _ (List.mem_cons_self ..)
    refine p.ok ok (fun n hn=>nd n (List.mem_cons_of_mem _ (List.mem_append_left _ hn))) hp fun X' W' h1 h2 h3 h4 h5 ok'=>mE_ok a ok' (fun n hn=>?_) h
    obtain ⟨i,e,q⟩:=nd _ (List.mem_cons_of_mem _ (List.mem_append_right _ (List.mem_map.mpr ⟨n,hn,rfl⟩)))
    cases e
    show n X'.prog X'.w X'.K X'.mg X'.base j
    rw [h1,h2,h3,h4,h5]
    exact q
  | .tryLs p es,k,W,c,e,X,ok,nd,h=>by
    unfold mE at h
    unfold ME.needs at nd
    split at h <;> try contradiction
    rename_i l hp
    obtain ⟨j,rfl⟩:=nd _ (List.mem_cons_self ..)
    refine p.ok ok (fun n hn=>nd n (List.mem_cons_of_mem _ (List.mem_append_left _ hn))) hp (mLs_ok es (fun n hn=>?_) h)
    obtain ⟨i,e,q⟩:=nd _ (List.mem_cons_of_mem _ (List.mem_append_right _ (List.mem_map.mpr ⟨n,hn,rfl⟩)))
    cases e
    exact q
theorem mLs_ok:∀ (es:MEs) {k:Nat} {c:Cfg} {l:List (Scope × Expr)} {X:Cx},All (Need.at · X k) es.needs→mLs es c l=true→LamMs X c k l (evL es)
  | .nil,_,_,[],X,nd,h=>.nil
  | .nil,_,_,_ :: _,X,nd,h=>by cases h
  | .cons e es,_,_,[],X,nd,h=>by cases h
  | .cons e es,k,c,(sc,b) :: l,X,nd,h=>by
    have h:(mE e (c.lamC sc) b&&mLs es c l)=true:=h
    unfold MEs.needs at nd
    rw [Bool.and_eq_true] at h
    refine .cons (fun X' W' h1 h2 h3 h4 h5 ok'=>mE_ok e ok' (fun n hn=>?_) h.1) (mLs_ok es nd.r h.2)
    show n X'.prog X'.w X'.K X'.mg X'.base k
    rw [h1,h2,h3,h4,h5]
    exact nd.l n hn
theorem mAs_ok:∀ (as:MAs) {k:Nat} {W:WX} {c:Cfg} {xs:List Expr} {X:Cx},CtxOk k W c X→All (Need.at · X k) as.needs→mAs as c xs=true→PA X xs (tA X.ki W (evAs as))
  | .nil,_,W,c,[],X,ok,nd,h=>pa_nil.weaken fun σ H Q q=>tA_nil q
  | .nil,_,W,c,_ :: _,X,ok,nd,h=>by cases h
  | .cons b e as,_,W,c,[],X,ok,nd,h=>by cases b <;> cases h
  | .cons false e as,_,W,c,x :: xs,X,ok,nd,h=>by
    have h:(plainE x&&(mE e c x&&mAs as c xs))=true:=by
      cases x <;> exact h
    unfold MAs.needs at nd
    simp only [Bool.and_eq_true] at h
    exact (pa_cons (mE_ok e ok nd.l h.2.1) (mAs_ok as ok nd.r h.2.2) (starP h.1)).weaken fun σ H Q q=>tA_cons q
  | .cons true e as,_,W,c,x :: xs,X,ok,nd,h=>by
    unfold MAs.needs at nd
    cases x with
    | Starred y p =>
      have h:(mE e c y&&mAs as c xs)=true:=h
      rw [Bool.and_eq_true] at h
      exact (StX.pa_star (mE_ok e ok nd.l h.1) (mAs_ok as ok nd.r h.2)).weaken fun σ H Q q=>tA_star q
    | _=>cases h
theorem mEs_ok:∀ (es:MEs) {k:Nat} {W:WX} {c:Cfg} {xs:List Expr} {X:Cx},CtxOk k W c X→All (Need.at · X k) es.needs→mEs es c xs=true→Parts X W xs (evs es)
  | .nil,_,W,c,[],X,ok,nd,h=>Parts.nil
  | .nil,_,W,c,_ :: _,X,ok,nd,h=>by cases h
  | .cons e es,_,W,c,[],X,ok,nd,h=>by cases h
  | .cons e es,_,W,c,x :: xs,X,ok,nd,h=>by
    have h:(mE e c x&&mEs es c xs)=true:=h
    unfold MEs.needs at nd
    rw [Bool.and_eq_true] at h
    exact Parts.cons (mE_ok e ok nd.l h.1) (mEs_ok es ok nd.r h.2)
theorem mT_ok:∀ (t:MT) {k:Nat} {W:WX} {c:Cfg} {e:Expr} {X:Cx},CtxOk k W c X→All (Need.at · X k) t.needs→mT t c e=true→PTW X e (tT X.ki W (evT t))
  | .val a,_,W,c,e,X,ok,nd,h=>by
    have h:(plainT e&&mE a c e)=true:=h
    unfold MT.needs at nd
    rw [Bool.and_eq_true] at h
    exact .of ((pt_truth (mE_ok a ok nd h.2) (isTrueP h.1)).weaken fun σ H Q q=>tT_val q) (by cases e <;> first | rfl | (cases h.1;done))
  | .cmp p a b,_,W,c,e,X,ok,nd,h=>by
    unfold mT at h
    unfold MT.needs at nd
    split at h <;> try contradiction
    simp only [Bool.and_eq_true,Bool.not_eq_true'] at h
    exact .of ((pt_cmpR (p.ok ok nd.l h.1.1.1) (mE_ok a ok nd.r.l h.1.2) (mE_ok b ok nd.r.r h.2) h.1.1.2).weaken fun σ H Q q=>tT_cmp q) rfl
  | .chain p q a b d,_,W,c,e,X,ok,nd,h=>by
    unfold mT at h
    unfold MT.needs at nd
    split at h <;> try contradiction
    simp only [Bool.and_eq_true,Bool.not_eq_true'] at h
    exact .of ((pt_chain (p.ok ok nd.l h.1.1.1.1.1) (q.ok ok nd.r.l h.1.1.1.1.2) (mE_ok a ok nd.r.r.l h.1.1.2) (mE_ok b ok nd.r.r.r.l h.1.2) (mE_ok d ok nd.r.r.r.r h.2) h.1.1.1.2).weaken fun σ H Q q=>tT_chain q) rfl
  | .and a b,_,W,c,e,X,ok,nd,h=>by
    unfold mT at h
    unfold MT.needs at nd
    split at h <;> try contradiction
    rw [Bool.and_eq_true] at h
    obtain ⟨h1,h2⟩:=h
    have ha:=(mT_ok a ok nd.l h1).1
    split at h2
    · exact .pw ((pw_and ha (pw_and1 (mT_ok b ok nd.r h2).1)).weaken fun σ H Q q=>tT_and q)
    · exact .pw ((pw_and ha ((mT_ok b ok nd.r h2).2 rfl)).weaken fun σ H Q q=>tT_and q)
  | .or a b,_,W,c,e,X,ok,nd,h=>by
    unfold mT at h
    unfold MT.needs at nd
    split at h <;> try contradiction
    rw [Bool.and_eq_true] at h
    obtain ⟨h1,h2⟩:=h
    have ha:=(mT_ok a ok nd.l h1).1
    split at h2
    · exact .pw ((pw_or ha (pw_or1 (mT_ok b ok nd.r h2).1)).weaken fun σ H Q q=>tT_or q)
    · exact .pw ((pw_or ha ((mT_ok b ok nd.r h2).2 rfl)).weaken fun σ H Q q=>tT_or q)
  | .not a,_,W,c,e,X,ok,nd,h=>by
    unfold mT at h
    unfold MT.needs at nd
    split at h <;> try contradiction
    exact .of ((pt_not (mT_ok a ok nd h).1).weaken fun σ H Q q=>tT_not q) rfl
theorem mF_ok:∀ (f:MF) {k:Nat} {W:WX} {c:Cfg} {e:Expr} {X:Cx},CtxOk k W c X→All (Need.at · X k) f.needs→mF f c e=true→PE X e (tF X.ki W (evF f))
  | .pr p es,_,W,c,e,X,ok,nd,h=>by
    unfold mF at h
    unfold MF.needs at nd
    split at h <;> try contradiction
    exact p.ok ok nd.l (by assumption) (mEs_ok es ok nd.r h)
  | .pa p as,_,W,c,e,X,ok,nd,h=>by
    unfold mF at h
    unfold MF.needs at nd
    split at h <;> try contradiction
    exact p.ok ok nd.l (by assumption) (mAs_ok as ok nd.r h)
  | .comp own tg it ifs a,_,W,c,e,X,ok,nd,h=>by
    unfold mF at h
    unfold MF.needs at nd
    split at h <;> try contradiction
    simp only [Bool.and_eq_true] at h
    obtain ⟨⟨⟨⟨⟨⟨⟨h0,h1⟩,h2⟩,h3⟩,h4⟩,h5⟩,h6⟩,h7⟩:=h
    have hc:=ok.calm h0
    have hown:∀ c:Cfg,(ownN c own).map (·.2)=own:=fun c=>by
      unfold ownN;rw [List.map_map];exact List.map_id _
    rename_i pp
    have p:=pe_lc (pos:=pp) (own:=ownN _ own) (tt:=tT X.ki W0 (evTs ifs)) (te:=tE X.ki W0 (ev a)) (g:=gM X.ki tg) hc ok.nd (mI_ok it ok nd.l h4) (by rw [ok.N,ok.sc];exact blkOk_by h1) (fun s H C cl fp=>ok.mgb (ok.blk.calm h0) h5) (fun s H C cl fp=>mTs_ok ifs ok.blk nd.r.l h6) (fun s H C cl fp=>mE_ok a ok.blk nd.r.r h7) (fun x=>foldP h3 x)
    rw [hown] at p
    exact p.weaken fun σ H Q q=>tF_comp (fun i hi=>by
      have:=List.all_eq_true.mp h2 i hi
      exact of_decide_eq_true this) q
  | .dcomp own tg it ifs a b,_,W,c,e,X,ok,nd,h=>by
    unfold mF at h
    unfold MF.needs at nd
    split at h <;> try contradiction
    simp only [Bool.and_eq_true] at h
    obtain ⟨⟨⟨⟨⟨⟨⟨⟨h0,h1⟩,h2⟩,h3⟩,h4⟩,h5⟩,h6⟩,h7⟩,h8⟩:=h
    have hc:=ok.calm h0
    have hown:∀ c:Cfg,(ownN c own).map (·.2)=own:=fun c=>by
      unfold ownN;rw [List.map_map];exact List.map_id _
    rename_i pp
    have p:=pe_dc (pos:=pp) (own:=ownN _ own) (tt:=tT X.ki W0 (evTs ifs)) (tk:=tE X.ki W0 (ev a)) (tv:=tE X.ki W0 (ev b)) (g:=gM X.ki tg) hc ok.nd (mI_ok it ok nd.l h4) (by rw [ok.N,ok.sc];exact blkOk_by h1) (fun s H C cl fp=>ok.mgb (ok.blk.calm h0) h5) (fun s H C cl fp=>mTs_ok ifs ok.blk nd.r.l h6) (fun s H C cl fp=>mE_ok a ok.blk nd.r.r.l h7) (fun s H C cl fp=>mE_ok b ok.blk nd.r.r.r h8) (fun x=>foldP h3 x)
    rw [hown] at p
    exact p.weaken fun σ H Q q=>tF_dcomp (fun i hi=>by
      have:=List.all_eq_true.mp h2 i hi
      exact of_decide_eq_true this) q
  | .compG own tg pg o ifs a,_,W,c,e,X,ok,nd,h=>by
    unfold mF at h
    unfold MF.needs at nd
    split at h <;> try contradiction
    simp only [Bool.and_eq_true] at h
    obtain ⟨⟨⟨⟨⟨⟨⟨⟨h0,h1⟩,h2⟩,h3⟩,h4⟩,h5⟩,h6⟩,h7⟩,h8⟩:=h
    have hc:=ok.calm h0
    have hown:∀ c:Cfg,(ownN c own).map (·.2)=own:=fun c=>by
      unfold ownN;rw [List.map_map];exact List.map_id _
    rename_i pp
    split at h5 <;> try contradiction
    rename_i x ex
    have p:=RgF.pe_lcG (pos:=pp) (own:=ownN _ own) (ft:=evTs ifs) (fe:=ev a) (mg:=tg) hc ok.nd (pg.ok ok nd.l ex (mE_ok o ok nd.r.l h5)) (by rw [ok.N,ok.sc];exact blkOk_by h1) (noCell_ok h4) (by rw [hown];exact fun i hi=>of_decide_eq_true (List.all_eq_true.mp h2 i hi)) (fun s H C cl fp=>ok.mgb (ok.blk.calm h0) h6) (fun s H C cl fp=>mTs_ok ifs ok.blk nd.r.r.l h7) (fun s H C cl fp=>mE_ok a ok.blk nd.r.r.r h8) (fun x=>foldP h3 x)
    rw [hown] at p
    exact p.weaken fun σ H Q q=>q
  | .comp2 own own1 tg it ifs tg1 it1 ifs1 a,_,W,c,e,X,ok,nd,h=>by
    unfold mF at h
    unfold MF.needs at nd
    split at h <;> try contradiction
    simp only [Bool.and_eq_true] at h
    obtain ⟨⟨⟨⟨⟨⟨⟨⟨⟨⟨⟨⟨⟨h0,h1⟩,h2⟩,h2b⟩,h2c⟩,h3⟩,h3b⟩,h4⟩,h5⟩,h6⟩,h7⟩,h8⟩,h9⟩,h10⟩:=h
    have hc:=ok.calm h0
    have hown:∀ c:Cfg,(ownN c own).map (·.2)=own:=fun c=>by
      unfold ownN;rw [List.map_map];exact List.map_id _
    rename_i pp
    have p:=pe_lc2 (pos:=pp) (own:=ownN _ own) (vs1:=own1) (tt:=tT X.ki W0 (evTs ifs)) (tt1:=tT X.ki W0 (evTs ifs1)) (te:=tE X.ki W0 (ev a)) (wi1:=tI X.ki W0 (evI it1)) (g:=gM X.ki tg) (g1:=gM X.ki tg1) hc ok.nd (mI_ok it ok nd.l h4) (by rw [ok.N,ok.sc];exact blkOk_by h1) (by rw [hown];exact fun i hi=>of_decide_eq_true (List.all_eq_true.mp h2c i hi)) (fun s H C cl fp=>ok.mgb (ok.blk.calm h0) h5) (fun s H C cl fp=>mTs_ok ifs ok.blk nd.r.l h6) (fun s H C cl fp=>mI_ok it1 ok.blk nd.r.r.l h7) (fun s H C cl fp=>ok.mgb (ok.blk.calm h0) h8) (fun s H C cl fp=>mTs_ok ifs1 ok.blk nd.r.r.r.l h9) (fun s H C cl fp=>mE_ok a ok.blk nd.r.r.r.r h10) (fun x=>foldP h3 x) (fun env x=>foldP h3b x)
    rw [hown] at p
    exact p.weaken fun σ H Q q=>tF_comp2 (fun i hi=>of_decide_eq_true (List.all_eq_true.mp h2 i hi)) (fun i hi=>of_decide_eq_true (List.all_eq_true.mp h2b i hi)) q
theorem mI_ok:∀ (i:MI) {k:Nat} {W:WX} {c:Cfg} {tg e:Expr} {X:Cx},CtxOk k W c X→All (Need.at · X k) i.needs→mI i c tg e=true→PI X tg e (tI X.ki W (evI i))
  | .pr p es,_,W,c,tg,e,X,ok,nd,h=>by
    unfold mI at h
    unfold MI.needs at nd
    split at h <;> try contradiction
    exact p.ok ok nd.l (by assumption) (mEs_ok es ok nd.r h)
theorem mTs_ok:∀ (t:MTs) {k:Nat} {W:WX} {c:Cfg} {es:List Expr} {X:Cx},CtxOk k W c X→All (Need.at · X k) t.needs→mTs t c es=true→PTs X es (tT X.ki W (evTs t))
  | .nil,_,W,c,[],X,ok,nd,h=>pts_nil.weaken fun σ H Q q=>tT_yes q
  | .nil,_,W,c,_ :: _,X,ok,nd,h=>by cases h
  | .one t,_,W,c,[],X,ok,nd,h=>by cases h
  | .one t,_,W,c,[x],X,ok,nd,h=>pts_one (mT_ok t ok (by unfold MTs.needs at nd;exact nd) h).1
  | .one t,_,W,c,_ :: _ :: _,X,ok,nd,h=>by cases h
end
end
end Rc

set_option maxHeartbeats 1000000
namespace Rc
open PySem PySem.Spec L2
open PyProof.Rows hiding St

inductive SR where
  | nx (s:Sl) (m:Mem)
  | bk (s:Sl) (m:Mem)
  | ct (s:Sl) (m:Mem)
  | rt (r:FR)
  | ex (c:Str) (ks:List Str) (xs:List MV) (s:Sl) (m:Mem)
  | stuck
def R.toS {α:Type} (r:R α) (s:Sl) (k:α→Mem→SR):SR:=match r with
  | .ok a m=>k a m
  | .exc c ks xs m=>.ex c ks xs s m
  | .stuck=>.stuck
def SR.seq (r:SR) (k:Sl→Mem→SR):SR:=match r with
  | .nx s m=>k s m
  | r=>r
def toV (x:OV) (m:Mem):R MV:=match x with
  | .v x=>.ok x m
  | .b _=>.stuck
open Classical in
def forS (f:MV→Sl→Mem→SR) (wt:List (Nat × MO)):List MV→Sl→Mem→SR
  | [],s,m=>if OkW wt m then .nx s m else .stuck
  | x :: xs,s,m=>if OkW wt m then (match f x s m with
    | .nx s m=>forS f wt xs s m
    | .ct s m=>forS f wt xs s m
    | .bk s m=>.nx s m
    | .rt r=>.rt r
    | .ex c ks ys s m=>.ex c ks ys s m
    | .stuck=>.stuck) else .stuck
def whileS (ft:Sl→Mem→R Bool) (fb:Sl→Mem→SR):Nat→Sl→Mem→SR
  | 0,_,_=>.stuck
  | n + 1,s,m=>(ft s m).toS s fun k m=>if k=true then (match fb s m with
    | .nx s m=>whileS ft fb n s m
    | .ct s m=>whileS ft fb n s m
    | .bk s m=>.nx s m
    | .rt r=>.rt r
    | .ex c ks ys s m=>.ex c ks ys s m
    | .stuck=>.stuck) else .nx s m

structure SRel (K:Ki) (g0:G) (H0:Hp) (g:G) (s:Sl) (m:Mem) (σ:St) (H:Hp):Prop where
  rs:Rs K g m H
  rl:RSl K g s σ H
  st:Stp g0 H0 g H
  o0:∀ (i:Nat) o a,s[i]? = some (some (.own o))→σ[i]? = some (some (.ref a))→H0 a=none
def PostS (K:Ki) (W:WX) (g0:G) (H0:Hp) (g:G) (r:SR) (D:Ends):Prop:=match r with
  | .nx s m=>∀ g' σ' H',SRel K g0 H0 g' s m σ' H'→Fle g g'→D.nx σ' H'
  | .bk s m=>∀ g' σ' H',SRel K g0 H0 g' s m σ' H'→Fle g g'→D.bk σ' H'
  | .ct s m=>∀ g' σ' H',SRel K g0 H0 g' s m σ' H'→Fle g g'→D.ct σ' H'
  | .rt r=>PostR K (fun _ _ _=>False) g0 H0 r D.rt
  | .ex c ks xs s m=>∀ g' cls d σ' H',SRel K g0 H0 g' s m σ' H'→Fle g g'→ExR K g' c ks xs cls d→W cls d σ' H'
  | .stuck=>False
def tS (K:Ki) (W:WX) (g0:G) (H0:Hp) (f:Sl→Mem→SR):TS:=fun D σ H=>∃ g s m,SRel K g0 H0 g s m σ H∧PostS K W g0 H0 g (f s m) D

section
variable {α β:Type} {K:Ki} {W:WX} {g0 g g':G} {H0 H H':Hp} {s s2:Sl} {m m':Mem} {σ:St} {D:Ends}
theorem SRel.step (h:SRel K g0 H0 g s m σ H) (rs:Rs K g' m' H') (t:Stp g H g' H'):SRel K g0 H0 g' s m' σ H':=⟨rs,h.rl.st t,h.st.trans t,h.o0⟩
theorem PostS.fle {r:SR} (h:PostS K W g0 H0 g r D) (f:Fle g g'):PostS K W g0 H0 g' r D:=by
  cases r with
  | nx s m=>exact fun g2 σ' H' a b=>h g2 σ' H' a (f.trans b)
  | bk s m=>exact fun g2 σ' H' a b=>h g2 σ' H' a (f.trans b)
  | ct s m=>exact fun g2 σ' H' a b=>h g2 σ' H' a (f.trans b)
  | ex c ks xs s m=>exact fun g2 cls d σ' H' a b=>h g2 cls d σ' H' a (f.trans b)
  | _=>exact h
theorem PostS.bind {R1:G→Hp→α→β→Prop} {r:R α} {k:α→Mem→SR} (R:SRel K g0 H0 g s m σ H) (h:PostS K W g0 H0 g (r.toS s k) D) :
    Post K (WE W σ) R1 g H r fun v H1=>∃ x g1 m1,Rs K g1 m1 H1∧Stp g H g1 H1∧R1 g1 H1 x v∧PostS K W g0 H0 g1 (k x m1) D:=by
  cases r with
  | ok x m'=>exact fun g1 v H1 a b c=>⟨x,g1,m',a,b,c,PostS.fle h b.fle⟩
  | exc c ks xs m'=>exact fun g1 cls d H1 a b e=>h g1 cls d σ H1 (R.step a b) b.fle e
  | stuck=>exact h
theorem PostS.bindF {r:R MO} {k:MO→Mem→SR} (R:SRel K g0 H0 g s m σ H) (h:PostS K W g0 H0 g (r.toS s k) D) :
    PostF K (WE W σ) g H r fun v H1=>∃ o g1 m1 p,v=.ref p∧Rs K g1 m1 H1∧Stp g H g1 H1∧H p=none∧g1.F p=none∧(∀ n,g1.r n≠some p)∧ObjR K g1 o H1 p∧PostS K W g0 H0 g1 (k o m1) D:=by
  cases r with
  | ok x m'=>exact fun g1 p H1 a b c d e f=>⟨x,g1,m',p,rfl,a,b,c,d,e,f,PostS.fle h b.fle⟩
  | exc c ks xs m'=>exact fun g1 cls d H1 a b e=>h g1 cls d σ H1 (R.step a b) b.fle e
  | stuck=>exact h
theorem toV_ok {x:OV} {v:V} {k:MV→Mem→SR} (r:RO K g H x v) (h:PostS K W g0 H0 g ((toV x m).toS s k) D):∃ y,x=.v y∧RV K g y v∧PostS K W g0 H0 g (k y m) D:=by
  cases x with
  | v y=>exact ⟨y,rfl,r,h⟩
  | b o=>exact h.elim
theorem own0_set:VSet fun s σ=>∀ (i:Nat) o a,s[i]? = some (some (SV.own o))→σ[i]? = some (some (V.ref a))→H0 a=none:=by
  intro s σ i x v h j o a e1 e2
  by_cases q:i=j
  · subst q
    by_cases hi:i < s.length
    · rw [List.getElem?_set_self hi] at e1;cases e1
    · rw [List.getElem?_eq_none (by simpa using hi)] at e1;cases e1
  · rw [List.getElem?_set_ne q] at e1 e2
    exact h j o a e1 e2
theorem SRel.set {i:Nat} {x:MV} {v:V} (h:SRel K g0 H0 g s m σ H) (r:RV K g x v):SRel K g0 H0 g (s.set i (some (.v x))) m (σ.set i (some v)) H:=⟨h.rs,h.rl.set r,h.st,own0_set s σ i x v h.o0⟩
theorem SRel.setOwn {i:Nat} {o:MO} {p:Addr} (h:SRel K g0 H0 g s m σ H) (hi:i < s.length) (hF:g.F p=none) (hr:∀ n,g.r n≠some p) (ob:ObjR K g o H p) (h0:H0 p=none)
    (nw:∀ (j:Nat) u,s[j]? = some (some (.own u))→σ[j]?≠some (some (.ref p))):SRel K g0 H0 g (s.set i (some (.own o))) m (σ.set i (some (.ref p))) H:=by
  have hl:=h.rl.len
  refine ⟨h.rs,⟨fun j y e=>?_,fun j u e=>?_,fun j k u w a e1 e2 e3 e4=>?_,by simp [hl]⟩,h.st,fun j u a e1 e2=>?_⟩
  · by_cases q:i=j
    · subst q;rw [List.getElem?_set_self hi] at e;cases e
    · rw [List.getElem?_set_ne q] at e
      obtain ⟨w,e1,e2⟩:=h.rl.val j y e
      exact ⟨w,by rw [List.getElem?_set_ne q];exact e1,e2⟩
  · by_cases q:i=j
    · subst q;rw [List.getElem?_set_self hi] at e;cases e
      exact ⟨p,by rw [List.getElem?_set_self (by omega)],ob,hF,hr⟩
    · rw [List.getElem?_set_ne q] at e
      obtain ⟨w,e1,e2⟩:=h.rl.own j u e
      exact ⟨w,by rw [List.getElem?_set_ne q];exact e1,e2⟩
  · by_cases q:i=j
    · subst q
      by_cases q2:i=k
      · exact q2
      · rw [List.getElem?_set_ne q2] at e2 e4
        rw [List.getElem?_set_self (by omega)] at e3;cases e3
        exact absurd e4 (nw k _ e2)
    · by_cases q2:i=k
      · subst q2
        rw [List.getElem?_set_ne q] at e1 e3
        rw [List.getElem?_set_self (by omega)] at e4;cases e4
        exact absurd e3 (nw j _ e1)
      · rw [List.getElem?_set_ne q] at e1 e3
        rw [List.getElem?_set_ne q2] at e2 e4
        exact h.rl.dis j k _ _ a e1 e2 e3 e4
  · by_cases q:i=j
    · subst q;rw [List.getElem?_set_self (by omega)] at e2;cases e2;exact h0
    · rw [List.getElem?_set_ne q] at e1 e2
      exact h.o0 j u a e1 e2
end
section
variable {α β:Type} {K:Ki} {W:WX} {g0 g g':G} {H0 H H':Hp} {s s2:Sl} {m m':Mem} {σ:St} {D:Ends}
theorem tS_next (h:tS K W g0 H0 (fun s m=>.nx s m) D σ H):tNext D σ H:=by
  obtain ⟨g,s,m,R,p⟩:=h
  exact p g σ H R (Fle.refl _)
theorem tS_brk (h:tS K W g0 H0 (fun s m=>.bk s m) D σ H):tBreak D σ H:=by
  obtain ⟨g,s,m,R,p⟩:=h
  exact p g σ H R (Fle.refl _)
theorem tS_cont (h:tS K W g0 H0 (fun s m=>.ct s m) D σ H):tCont D σ H:=by
  obtain ⟨g,s,m,R,p⟩:=h
  exact p g σ H R (Fle.refl _)
theorem tS_seq {f k:Sl→Mem→SR} (h:tS K W g0 H0 (fun s m=>(f s m).seq k) D σ H):tSeq (tS K W g0 H0 f) (tS K W g0 H0 k) D σ H:=by
  obtain ⟨g,s,m,R,p⟩:=h
  refine ⟨g,s,m,R,?_⟩
  have p:PostS K W g0 H0 g ((f s m).seq k) D:=p
  cases e:f s m with
  | nx s' m'=>rw [e] at p;exact fun g' σ' H' R' fl=>⟨g',s',m',R',PostS.fle p fl⟩
  | bk s' m'=>rw [e] at p;exact p
  | ct s' m'=>rw [e] at p;exact p
  | ex c ks xs s' m'=>rw [e] at p;exact p
  | rt r=>rw [e] at p;exact p
  | stuck=>rw [e] at p;exact p.elim
theorem tS_if {ft:Sl→Mem→R Bool} {fa fb:Sl→Mem→SR} (h:tS K W g0 H0 (fun s m=>(ft s m).toS s fun k m=>if k=true then fa s m else fb s m) D σ H):tIfS (tT K W ft) (tS K W g0 H0 fa) (tS K W g0 H0 fb) D σ H:=by
  obtain ⟨g,s,m,R,p⟩:=h
  refine ⟨g,s,m,R.rs,R.rl,(PostS.bind (R1:=fun _ _ x v=>x=v) R p).imp fun b H1 ⟨x,g1,m1,rs1,st1,r1,p1⟩=>?_⟩
  subst r1
  cases x with
  | true=>exact iteT ⟨g1,s,m1,R.step rs1 st1,p1⟩
  | false=>exact iteF ⟨g1,s,m1,R.step rs1 st1,p1⟩
theorem tS_set {i:Nat} {fe:Sl→Mem→R OV} (h:tS K W g0 H0 (fun s m=>(fe s m).toS s fun x m=>(toV x m).toS s fun x m=>.nx (s.set i (some (.v x))) m) D σ H):tAsg (tE K W fe) (gName i) D σ H:=by
  obtain ⟨g,s,m,R,p⟩:=h
  refine ⟨g,s,m,R.rs,R.rl,(PostS.bind R p).imp fun v H1 ⟨x,g1,m1,rs1,st1,r1,p1⟩=>?_⟩
  obtain ⟨y,rfl,r2,p2⟩:=toV_ok r1 p1
  exact p2 g1 _ H1 ((R.step rs1 st1).set r2) (Fle.refl _)
theorem SRel.assign {tg:MG} {x:MV} {v:V} {Q:St→Hp→Prop} (R:SRel K g0 H0 g s m σ H) (e:assignG tg x s=some s2) (r:RV K g x v) (q:∀ σ',SRel K g0 H0 g s2 m σ' H→Q σ' H):gM K tg v σ H Q :=
  gM_ok (I:=fun s σ=>∀ (i:Nat) o a,s[i]? = some (some (SV.own o))→σ[i]? = some (some (V.ref a))→H0 a=none) own0_set R.rs e r R.rl R.o0 fun vs rl o0=>q _ ⟨R.rs,rl,R.st,o0⟩
theorem tS_tup {is:List Nat} {fe:Sl→Mem→R OV} (h:tS K W g0 H0 (fun s m=>(fe s m).toS s fun x m=>(toV x m).toS s fun x m=>match assignG (.tup is) x s with
    | some s=>.nx s m
    | none=>.stuck) D σ H):tAsg (tE K W fe) (gM K (.tup is)) D σ H:=by
  obtain ⟨g,s,m,R,p⟩:=h
  refine ⟨g,s,m,R.rs,R.rl,(PostS.bind R p).imp fun v H1 ⟨x,g1,m1,rs1,st1,r1,p1⟩=>?_⟩
  obtain ⟨y,rfl,r2,p2⟩:=toV_ok r1 p1
  split at p2
  · rename_i s2 e
    exact (R.step rs1 st1).assign e r2 fun σ' R'=>p2 g1 σ' H1 R' (Fle.refl _)
  · exact p2.elim
theorem tS_setOwn {i:Nat} {f:Sl→Mem→R MO} (h:tS K W g0 H0 (fun s m=>(f s m).toS s fun o m=>if i < s.length then .nx (s.set i (some (.own o))) m else .stuck) D σ H):tAsg (tF K W f) (gName i) D σ H:=by
  obtain ⟨g,s,m,R,p⟩:=h
  refine ⟨g,s,m,R.rs,R.rl,(PostS.bindF R p).imp fun v H1 ⟨o,g1,m1,q,e,rs1,st1,hq,hF,hr,ob,p1⟩=>?_⟩
  subst e
  split at p1
  case isFalse=>exact p1.elim
  rename_i hl
  refine p1 g1 _ H1 ((R.step rs1 st1).setOwn hl hF hr ob (R.st.free hq) fun j u e1 e2=>?_) (Fle.refl _)
  obtain ⟨a,e3,e4,_⟩:=R.rl.own j u e1
  rw [e2] at e3;cases e3
  obtain ⟨w,e5⟩:=e4.some
  rw [hq] at e5;cases e5
theorem tS_ret {fe:Sl→Mem→R OV} (h:tS K W g0 H0 (fun s m=>(fe s m).toS s fun x m=>(toV x m).toS s fun x m=>.rt (.ok x m)) D σ H):tRet (tE K W fe) D σ H:=by
  obtain ⟨g,s,m,R,p⟩:=h
  refine ⟨g,s,m,R.rs,R.rl,(PostS.bind R p).imp fun v H1 ⟨x,g1,m1,rs1,st1,r1,p1⟩=>?_⟩
  obtain ⟨y,rfl,r2,p2⟩:=toV_ok r1 p1
  exact p2 g1 v H1 rs1 (R.st.trans st1) r2
theorem tS_retN (h:tS K W g0 H0 (fun s m=>.rt (.ok .non m)) D σ H):tRetN D σ H:=by
  obtain ⟨g,s,m,R,p⟩:=h
  exact p g .non H R.rs R.st rfl
theorem tS_retF {f:Sl→Mem→R MO} (h:tS K W g0 H0 (fun s m=>(f s m).toS s fun o m=>.rt (.new o m)) D σ H):tRet (tF K W f) D σ H:=by
  obtain ⟨g,s,m,R,p⟩:=h
  refine ⟨g,s,m,R.rs,R.rl,(PostS.bindF R p).imp fun v H1 ⟨o,g1,m1,q,e,rs1,st1,hq,hF,hr,ob,p1⟩=>?_⟩
  subst e
  exact p1 g1 q H1 rs1 (R.st.trans st1) (R.st.free hq) hF hr ob
theorem tS_retOwn {i:Nat} (h:tS K W g0 H0 (fun s m=>(match s[i]? with
    | some (some (.own o))=>.rt (.new o m)
    | _=>.stuck)) D σ H):tRet (tVar i) D σ H:=by
  obtain ⟨g,s,m,R,p⟩:=h
  dsimp only at p
  split at p
  · rename_i o e
    obtain ⟨a,e1,ob,hF,hr⟩:=R.rl.own i o e
    exact ⟨_,e1,p g a H R.rs R.st (R.o0 i o a e e1) hF hr ob⟩
  · exact p.elim
theorem tS_drop {fe:Sl→Mem→R OV} (h:tS K W g0 H0 (fun s m=>(fe s m).toS s fun _ m=>.nx s m) D σ H):tDrop (tE K W fe) D σ H:=by
  obtain ⟨g,s,m,R,p⟩:=h
  refine ⟨g,s,m,R.rs,R.rl,(PostS.bind R p).imp fun v H1 ⟨x,g1,m1,rs1,st1,r1,p1⟩=>?_⟩
  exact p1 g1 _ H1 (R.step rs1 st1) (Fle.refl _)
theorem tS_par {i j:Nat} {fa fb:Sl→Mem→R OV} (h:tS K W g0 H0 (fun s m=>(fa s m).toS s fun x m=>(fb s m).toS s fun y m=>(toV x m).toS s fun x m=>(toV y m).toS s fun y m=>.nx ((s.set i (some (.v x))).set j (some (.v y))) m) D σ H) :
    tPar i j (tCons (tE K W fa) (tCons (tE K W fb) tNil)) D σ H:=by
  obtain ⟨g,s,m,R,p⟩:=h
  refine ⟨g,s,m,R.rs,R.rl,(PostS.bind R p).imp fun v H1 ⟨x,g1,m1,rs1,st1,r1,p1⟩=>⟨g1,s,m1,rs1,R.rl.st st1,(PostS.bind (R.step rs1 st1) p1).imp fun w H2 ⟨y,g2,m2,rs2,st2,r2,p2⟩=>?_⟩⟩
  obtain ⟨x',rfl,r3,p3⟩:=toV_ok (RO.st r1 st2) p2
  obtain ⟨y',rfl,r4,p4⟩:=toV_ok r2 p3
  exact ⟨v,w,rfl,p4 g2 _ H2 ((((R.step rs1 st1).step rs2 st2).set r3).set r4) (Fle.refl _)⟩
theorem tS_parF {i j:Nat} {fa fb:Sl→Mem→R MO} (hij:i≠j) (h:tS K W g0 H0 (fun s m=>(fa s m).toS s fun x m=>(fb s m).toS s fun y m=>if i < s.length∧j < s.length∧i≠j then .nx ((s.set i (some (.own x))).set j (some (.own y))) m else .stuck) D σ H) :
    tPar i j (tCons (tF K W fa) (tCons (tF K W fb) tNil)) D σ H:=by
  obtain ⟨g,s,m,R,p⟩:=h
  refine ⟨g,s,m,R.rs,R.rl,(PostS.bindF R p).imp fun v H1 ⟨o,g1,m1,q,e,rs1,st1,hq,hF,hr,ob,p1⟩=>⟨g1,s,m1,rs1,R.rl.st st1,(PostS.bindF (R.step rs1 st1) p1).imp fun w H2 ⟨o2,g2,m2,q2,e2,rs2,st2,hq2,hF2,hr2,ob2,p2⟩=>?_⟩⟩
  subst e
  subst e2
  split at p2
  case isFalse=>exact p2.elim
  rename_i hl
  obtain ⟨l1,l2,_⟩:=hl
  have r1:RO K g1 H1 (.b o) (.ref q):=⟨q,rfl,ob,hF,hr⟩
  obtain ⟨q',eq,ob',hF',hr'⟩:=RO.st r1 st2
  cases eq
  have ne:q≠q2:=fun z=>by
    subst z
    obtain ⟨w,e5⟩:=ob.some
    rw [hq2] at e5;cases e5
  have R2:=(R.step rs1 st1).step rs2 st2
  have nw:∀ {p:Addr},H p=none→∀ (j:Nat) u,s[j]? = some (some (.own u))→σ[j]?≠some (some (.ref p)):=fun {p} hp j u e1 e2=>by
    obtain ⟨a,e3,e4,_⟩:=R.rl.own j u e1
    rw [e2] at e3;cases e3
    obtain ⟨w,e5⟩:=e4.some
    rw [hp] at e5;cases e5
  have hq2':H q2=none:=st1.free hq2
  have R3:=R2.setOwn (i:=i) l1 hF' hr' ob' (R.st.free hq) (nw hq)
  have R4:=R3.setOwn (i:=j) (by simpa using l2) hF2 hr2 ob2 (R.st.free hq2') fun k u e1 e2=>by
    by_cases z:i=k
    · subst z
      rw [List.getElem?_set_self (by rw [← R.rl.len];exact l1)] at e2
      cases e2
      exact ne rfl
    · rw [List.getElem?_set_ne z] at e1 e2
      exact nw hq2' k u e1 e2
  exact ⟨_,_,rfl,p2 g2 _ H2 R4 (Fle.refl _)⟩
theorem Rs.setRef {n:Nat} {a:Addr} {xs:List MV} {ys:List V} (rs:Rs K g m H) (hn:g.r n=some a) (hF:g.F a=none) (r:RVs K g xs ys) :
    Rs K g (m.set n (some (.lst xs))) (upd H a (.lst ys))∧Stp g H g (upd H a (.lst ys)):=by
  have hlt:=(rs.rb n a hn).1
  refine ⟨⟨fun b u e=>?_,fun k u e=>?_,fun k b e=>?_,rs.rj,fun q hq=>(rs.tb q hq).go (upd_ne fun z=>(rs.tb q hq).r n (z ▸ hn)) (fun _ _ e=>e) (rs.tb q hq).F (rs.tb q hq).r⟩,⟨fun _ _ e=>e,fun _ _ e=>e,fun b u e hb _=>?_,fun b e=>?_,fun b e=>.inl e,fun k b e=>.inl e⟩⟩
  · rw [upd_ne (fun z=>by rw [z,hF] at e;cases e)];exact rs.sub b u e
  · by_cases q:n=k
    · subst q
      rw [List.getElem?_set_self hlt] at e;cases e
      exact ⟨a,hn,hF,ys,upd_same,r⟩
    · rw [List.getElem?_set_ne q] at e
      obtain ⟨b,e1,e2,e3⟩:=rs.gr k u e
      have ne:b≠a:=fun z=>q (rs.rj n k a hn (z ▸ e1))
      exact ⟨b,e1,e2,ObjR.grow e3 (fun _ _ e=>e) (fun _ _ e=>e) (upd_ne ne)⟩
  · obtain ⟨h1,h2⟩:=rs.rb k b e
    refine ⟨by simpa using h1,?_⟩
    by_cases z:b=a
    · subst z;rw [upd_same];simp
    · rw [upd_ne z];exact h2
  · rw [upd_ne (fun z=>hb n (by rw [z];exact hn))];exact e
  · by_cases z:b=a
    · subst z;rw [upd_same];simp
    · rw [upd_ne z];exact e
theorem memL_ok {n:Nat} {xs:List MV} {a:Addr} (rs:Rs K g m H) (hn:g.r n=some a) (e:memL m n=some xs):∃ ys,H a=some (.lst ys)∧RVs K g xs ys∧g.F a=none:=by
  unfold memL at e
  split at e
  · rename_i zs e2
    cases e
    obtain ⟨b,e3,e4,ys,e5,e6⟩:=rs.gr n _ e2
    rw [hn] at e3;cases e3
    exact ⟨ys,e5,e6,e4⟩
  · cases e
theorem SRel.setObj {i:Nat} {xs ys:List MV} {a:Addr} {zs:List V} (R:SRel K g0 H0 g s m σ H) (e:s[i]? = some (some (.own (.lst ys)))) (ea:σ[i]? = some (some (.ref a))) (r:RVs K g xs zs) :
    SRel K g0 H0 g (s.set i (some (.own (.lst xs)))) m σ (upd H a (.lst zs)):=by
  obtain ⟨b,e1,ob,hF,hr⟩:=R.rl.own i _ e
  rw [ea] at e1;cases e1
  have hi:i < s.length:=(List.getElem?_eq_some_iff.mp e).1
  have h0:=R.o0 i _ a e ea
  obtain ⟨u0,e0,nt0⟩:=ob.someN
  refine ⟨R.rs.own hF hr e0 nt0,⟨fun j x q=>?_,fun j o q=>?_,fun j k o u c q1 q2 q3 q4=>?_,by simp [R.rl.len]⟩,R.st.own h0,fun j o c q1 q2=>?_⟩
  · by_cases z:i=j
    · subst z;rw [List.getElem?_set_self hi] at q;cases q
    · rw [List.getElem?_set_ne z] at q;exact R.rl.val j x q
  · by_cases z:i=j
    · subst z;rw [List.getElem?_set_self hi] at q;cases q
      exact ⟨a,ea,⟨zs,upd_same,r⟩,hF,hr⟩
    · rw [List.getElem?_set_ne z] at q
      obtain ⟨c,q1,q2,q3,q4⟩:=R.rl.own j o q
      have ne:c≠a:=fun w=>z (R.rl.dis i j _ _ a e q ea (w ▸ q1))
      refine ⟨c,q1,?_,q3,q4⟩
      cases o with
      | _=>exact ObjR.grow q2 (fun _ _ e=>e) (fun _ _ e=>e) (upd_ne ne)
  · have f:∀ {l:Nat} {o:MO},(s.set i (some (.own (.lst xs))))[l]? = some (some (.own o))→∃ o',s[l]? = some (some (.own o')):=fun {l o} q=>by
      by_cases z:i=l
      · subst z;exact ⟨_,e⟩
      · rw [List.getElem?_set_ne z] at q;exact ⟨o,q⟩
    obtain ⟨o',q1⟩:=f q1
    obtain ⟨u',q2⟩:=f q2
    exact R.rl.dis j k o' u' c q1 q2 q3 q4
  · by_cases z:i=j
    · subst z;rw [ea] at q2;cases q2;exact h0
    · rw [List.getElem?_set_ne z] at q1;exact R.o0 j o c q1 q2
theorem tS_app {i:Nat} {fe:Sl→Mem→R OV} (h:tS K W g0 H0 (fun s m=>(match s[i]? with
    | some (some (.own (.lst xs)))=>(fe s m).toS s fun x m=>(toV x m).toS s fun x m=>if xs.length < sizeLine then .nx (s.set i (some (.own (.lst (xs++[x]))))) m else .stuck
    | _=>.stuck)) D σ H):tDrop (tBM K "list" rAppend (tVar i) (tCons (tE K W fe) tNil)) D σ H:=by
  obtain ⟨g,s,m,R,p⟩:=h
  dsimp only at p
  split at p
  · rename_i xs e
    obtain ⟨a,ea,ob,hF,hr⟩:=R.rl.own i _ e
    obtain ⟨ys,e1,r1⟩:=ob
    refine ⟨_,ea,.inl ⟨rfl,ys,.of e1⟩,g,s,m,R.rs,R.rl,(PostS.bind R p).imp fun v H1 ⟨x,g1,m1,rs1,st1,r2,p1⟩=>?_⟩
    obtain ⟨x',rfl,rx,p2⟩:=toV_ok r2 p1
    split at p2
    · rename_i hl
      have R1:=R.step rs1 st1
      obtain ⟨b,eb,⟨zs,e2,r3⟩,_⟩:=R1.rl.own i _ e
      rw [ea] at eb;cases eb
      exact ⟨a,zs,v,rfl,rfl,e2,by rw [← r3.length];exact hl,p2 g1 σ _ (R1.setObj e ea (r3.append (.one rx))) (Fle.refl _)⟩
    · exact p2.elim
  · exact p.elim
open Classical in
theorem forS_cons {f:MV→Sl→Mem→SR} {wt:List (Nat × MO)} {x:MV} {xs:List MV} {s:Sl} {m:Mem}:forS f wt (x :: xs) s m=if OkW wt m then (match f x s m with
    | .nx s m=>forS f wt xs s m
    | .ct s m=>forS f wt xs s m
    | .bk s m=>.nx s m
    | .rt r=>.rt r
    | .ex c ks ys s m=>.ex c ks ys s m
    | .stuck=>.stuck) else .stuck:=rfl
theorem forS_ok {f:MV→Sl→Mem→SR} {wt:List (Nat × MO)} {xs:List MV} {s:Sl} {m:Mem} (h:forS f wt xs s m≠.stuck):OkW wt m:=by
  cases xs with
  | nil =>
    unfold forS at h
    split at h
    · assumption
    · exact absurd rfl h
  | cons x xs =>
    rw [forS_cons] at h
    split at h
    · assumption
    · exact absurd rfl h
def turnS (tg:MG) (fb:Sl→Mem→SR):MV→Sl→Mem→SR:=fun x s m=>match assignG tg x s with
    | some s=>fb s m
    | none=>.stuck
theorem tS_loop {tg:MG} {fi:Sl→Mem→R Wk} {fb:Sl→Mem→SR} (h:tS K W g0 H0 (fun s m=>(fi s m).toS s fun w m=>forS (turnS tg fb) w.watch w.items s m) D σ H):tFor (tI K W fi) (gM K tg) (tS K W g0 H0 fb) D σ H:=by
  obtain ⟨g,s,m,R,p⟩:=h
  refine ⟨g,s,m,R.rs,R.rl,(PostS.bind R p).imp fun J H1 ⟨items,g1,m1,rs1,st1,wk,p1⟩=>?_⟩
  obtain ⟨n,Gd,Y,w,hn,hG,hY⟩:=wk
  have nstuck:∀ {g2:G} {r:SR},PostS K W g0 H0 g2 r D→r≠.stuck:=fun h z=>by rw [z] at h;exact h
  refine for_it w (Pv:=fun i σ2 H2=>∃ g2 s2 m2,SRel K g0 H0 g2 s2 m2 σ2 H2∧Fle g1 g2∧PostS K W g0 H0 g2 (forS (turnS tg fb) items.watch (items.items.drop i) s2 m2) D) ⟨g1,s,m1,R.step rs1 st1,Fle.refl _,by simpa using p1⟩ (fun i σ2 H2 _ ⟨g2,s2,m2,R2,fl,pq⟩=>hG g2 m2 H2 R2.rs fl (forS_ok (nstuck pq))) ?_ ?_
  · rintro i x σ2 H2 H3 hi ⟨g2,s2,m2,R2,fl,pq⟩ hy
    have okw:=forS_ok (nstuck pq)
    obtain ⟨g3,it,r3,t3,e3,rx⟩:=hY i H2 x H3 g2 m2 hi hy R2.rs fl okw
    have hitem:items.items.drop i=it :: items.items.drop (i + 1):=by
      obtain ⟨hlt,e4⟩:=List.getElem?_eq_some_iff.mp e3
      rw [List.drop_eq_getElem_cons hlt,e4]
    rw [hitem,forS_cons,if_pos okw] at pq
    unfold turnS at pq
    cases ea:assignG tg it s2 with
    | none=>rw [ea] at pq;exact pq.elim
    | some s3 =>
      rw [ea] at pq
      refine (R2.step r3 t3).assign ea rx fun σ3 R3=>⟨g3,s3,m2,R3,?_⟩
      have pq:=PostS.fle pq t3.fle
      dsimp only at pq
      have fl3:=fl.trans t3.fle
      cases eb:fb s3 m2 with
      | nx s4 m4=>rw [eb] at pq;exact fun g4 σ4 H4 R4 f4=>⟨g4,s4,m4,R4,fl3.trans f4,PostS.fle pq f4⟩
      | ct s4 m4=>rw [eb] at pq;exact fun g4 σ4 H4 R4 f4=>⟨g4,s4,m4,R4,fl3.trans f4,PostS.fle pq f4⟩
      | bk s4 m4=>rw [eb] at pq;exact pq
      | rt r=>rw [eb] at pq;exact pq
      | ex c ks ys s4 m4=>rw [eb] at pq;exact pq
      | stuck=>rw [eb] at pq;exact pq.elim
  · rintro σ2 H2 ⟨g2,s2,m2,R2,fl,pq⟩
    have okw:=forS_ok (nstuck pq)
    rw [hn,List.drop_length] at pq
    have e:forS (turnS tg fb) items.watch [] s2 m2=.nx s2 m2:=by unfold forS;rw [if_pos okw]
    rw [e] at pq
    exact pq g2 σ2 H2 R2 (Fle.refl _)
theorem tS_while {n:Nat} {ft:Sl→Mem→R Bool} {fb:Sl→Mem→SR} (h:tS K W g0 H0 (fun s m=>whileS ft fb n s m) D σ H):tWhile (tT K W ft) (tS K W g0 H0 fb) D σ H:=by
  refine ⟨fun n σ H=>tS K W g0 H0 (fun s m=>whileS ft fb n s m) D σ H,⟨n,h⟩,fun n σ H h=>?_⟩
  obtain ⟨g,s,m,R,p⟩:=h
  cases n with
  | zero=>exact p.elim
  | succ n =>
    refine ⟨g,s,m,R.rs,R.rl,(PostS.bind (R1:=fun _ _ x v=>x=v) R p).imp fun b H1 ⟨x,g1,m1,rs1,st1,r1,p1⟩=>?_⟩
    subst r1
    cases x with
    | false=>exact iteF (p1 g1 σ H1 (R.step rs1 st1) (Fle.refl _))
    | true =>
      refine iteT ⟨fun σ' H'=>tS K W g0 H0 (fun s m=>whileS ft fb n s m) D σ' H',fun σ' H' q=>⟨n,Nat.lt_succ_self _,q⟩,g1,s,m1,R.step rs1 st1,?_⟩
      have p1:PostS K W g0 H0 g1 (match fb s m1 with
        | .nx s m=>whileS ft fb n s m
        | .ct s m=>whileS ft fb n s m
        | .bk s m=>.nx s m
        | .rt r=>.rt r
        | .ex c ks ys s m=>.ex c ks ys s m
        | .stuck=>.stuck) D:=p1
      cases eb:fb s m1 with
      | nx s4 m4=>rw [eb] at p1;exact fun g4 σ4 H4 R4 f4=>⟨g4,s4,m4,R4,PostS.fle p1 f4⟩
      | ct s4 m4=>rw [eb] at p1;exact fun g4 σ4 H4 R4 f4=>⟨g4,s4,m4,R4,PostS.fle p1 f4⟩
      | bk s4 m4=>rw [eb] at p1;exact p1
      | rt r=>rw [eb] at p1;exact p1
      | ex c ks ys s4 m4=>rw [eb] at p1;exact p1
      | stuck=>rw [eb] at p1;exact p1.elim
theorem SRel.frz {i:Nat} {o:MO} (R:SRel K g0 H0 g s m σ H) (e:s[i]? = some (some (.own o))):∃ g',SRel K g0 H0 g' (s.set i (some (.v (frz o)))) m σ H∧Fle g g':=by
  obtain ⟨a,ea,ob,hF,hr⟩:=R.rl.own i o e
  obtain ⟨u,e1,rv⟩:=frz_ok R.rs hF hr ob
  have hi:i < s.length:=(List.getElem?_eq_some_iff.mp e).1
  have h0:=R.o0 i o a e ea
  have st:=R.st.frz (o:=u) h0 hF
  have mono:∀ b w,g.F b=some w→upd g.F a u b=some w:=fun b w q=>by
    rw [upd_ne (fun z=>by rw [z,hF] at q;cases q)];exact q
  have fl:Fle g { g with F:=upd g.F a u }:=⟨mono,fun _ _ q=>q⟩
  refine ⟨{ g with F:=upd g.F a u },⟨R.rs.freezeAt e1 hr hF (ob.nt e1),⟨fun j x q=>?_,fun j w q=>?_,fun j k o1 o2 c q1 q2 q3 q4=>?_,by simp [R.rl.len]⟩,st,fun j w c q1 q2=>?_⟩,fl⟩
  · by_cases z:i=j
    · subst z;rw [List.getElem?_set_self hi] at q;cases q
      exact ⟨_,ea,rv⟩
    · rw [List.getElem?_set_ne z] at q
      obtain ⟨v,q1,q2⟩:=R.rl.val j x q
      exact ⟨v,q1,q2.fle fl⟩
  · by_cases z:i=j
    · subst z;rw [List.getElem?_set_self hi] at q;cases q
    · rw [List.getElem?_set_ne z] at q
      obtain ⟨c,q1,q2,q3,q4⟩:=R.rl.own j w q
      have ne:c≠a:=fun y=>z (R.rl.dis i j _ _ a e q ea (y ▸ q1))
      exact ⟨c,q1,ObjR.grow q2 fl.1 fl.2 rfl,by show upd g.F a u c=none;rw [upd_ne ne];exact q3,q4⟩
  · have f:∀ {l:Nat} {w:MO},(s.set i (some (.v (Rc.frz o))))[l]? = some (some (.own w))→s[l]? = some (some (.own w)):=fun {l w} q=>by
      by_cases z:i=l
      · subst z;rw [List.getElem?_set_self hi] at q;cases q
      · rw [List.getElem?_set_ne z] at q;exact q
    exact R.rl.dis j k o1 o2 c (f q1) (f q2) q3 q4
  · by_cases z:i=j
    · subst z;rw [List.getElem?_set_self hi] at q1;cases q1
    · rw [List.getElem?_set_ne z] at q1;exact R.o0 j w c q1 q2
theorem tS_frz {i:Nat} {f:Sl→Mem→SR} (h:tS K W g0 H0 (fun s m=>match s[i]? with
    | some (some (.own o))=>f (s.set i (some (.v (frz o)))) m
    | _=>.stuck) D σ H):tS K W g0 H0 f D σ H:=by
  obtain ⟨g,s,m,R,p⟩:=h
  dsimp only at p
  split at p
  · rename_i o e
    obtain ⟨g',R',fl⟩:=R.frz e
    exact ⟨g',_,m,R',PostS.fle p fl⟩
  · exact p.elim
end
end Rc

set_option maxHeartbeats 4000000
namespace Rc
open PySem PySem.Spec L2
open PyProof.Rows hiding St
structure NameOf (X:Cx) (x:Str) (C:Addr):Prop where
  gl:Gl X x
  db:(x == ("__debug__":Str))=false
  mg:X.mg x=some (.ref C)
section
variable {X:Cx} {x1 x2 x3 n:Str} {C1 C2 C3:Addr} {i j:Nat} {body suite:List Stmt} {b₀:Stmt} {p1 p2 p3 np pos pos':Pos} {tb:WX→TS} {ts:Addr→Value→Option Addr→TS}
end
end Rc

namespace Rc
open PySem PySem.Spec L2
open PyProof.Rows hiding St
section
variable {X:Cx} {f₀:Stmt} {body fs:List Stmt} {pos:Pos} {tf tfs:TS} {tb:WX→TS} {Wout:WX}
theorem fin_exc {pins:List (Addr × Obj)} {D:Ends} {u:Value} {s':Shared} (hs:X.stack=X.env :: X.outer) (hf:X.env.frame=some X.env.locals) (hex:X.ex=[]) (ok:X.Ok) (tk:L2N.Takes X Wout)
    (hsu:∀ (a:Addr) (pn:List (Addr × Obj)),PSs (X.suite a pn) (f₀ :: fs) tfs) (xx:L2N.XE (X.tr (X.pn++pins) (fun x s₁=>wpAny (model X.prog X.w) X.A (noteFrame x X.env) (fun _ s₂=>FinallyRaised X.prog X.w X.A X.xe X.env (f₀ :: fs) (SP X pins D) x s₂) (FinallyRaised X.prog X.w X.A X.xe X.env (f₀ :: fs) (SP X pins D)) s₁)) (wFin tfs Wout) u s') :
    wpAny (model X.prog X.w) X.A (noteFrame u X.env) (fun _ s₂=>FinallyRaised X.prog X.w X.A X.xe X.env (f₀ :: fs) (SP X pins D) u s₂) (FinallyRaised X.prog X.w X.A X.xe X.env (f₀ :: fs) (SP X pins D)) s':=by
  have hfr:X.A.frames=some (X.env :: X.outer):=by rw [ok.frames,hs]
  obtain ⟨a,B,sI,pins',σ',H',cls,d,rfl,J',nb,up,sky,na,os,ag,hw⟩:=xx
  have J:Inv X pins σ' H' sI:=J'.ofTry ok
  have sky':Sky B (X.env :: X.outer) a (L2N.Zn cls d) X.env.locals s'.heap:=by rw [← hs];exact sky
  -- behind the first note
  have fin:∀ h1,HandSPX.HeldZ B (X.env :: X.outer) a (L2N.Zn cls d) X.env.locals h1→s'.heap.UpToSlots h1→FinallyRaised X.prog X.w X.A X.xe X.env (f₀ :: fs) (SP X pins D) (.ref a) { s' with heap:=h1 }:=fun h1 hh1 up1=>by
    refine ⟨ref_ne_byPass a,HandSPX.againZ hf hh1.2.2.2 (HandSPX.landsZ hh1 fun h3 fl3 up3=>?_)⟩
    have J3:Inv X pins σ' H' { s' with heap:=h3 }:=J.landed nb fl3.1 ((up.trans up1).trans up3) os ag
    obtain ⟨k1,k2,k3,oe,vs,T,oT,ts,he3,hz,hd,hv1,hnT,hTe,hT,hdT,ht3⟩:=id fl3
    have nT:H' T=none:=(J.inGround nb).gone hnT
    have notFr:∀ (b:Addr) (o:Obj) (fv:Array Value),h3.get? b=some o→o.data=.fields fv→b∉frs (X.env :: X.outer):=fun b o fv e dd hm=>by
      obtain ⟨_,o',e',hnf⟩:=k3.mem hm
      have eo:o=o':=Option.some.inj (e.symm.trans e')
      rw [← eo] at hnf
      exact hnf _ dd
    have locF:X.env.locals∈frs (X.env :: X.outer):=List.mem_filterMap.mpr ⟨X.env,List.mem_cons_self,hf⟩
    have fsF:∀ b,b∈X.fs→b∈frs (X.env :: X.outer):=fun b hm=>by
      obtain ⟨e,he,q⟩:=List.mem_filterMap.mp hm
      exact List.mem_filterMap.mpr ⟨e,List.mem_cons_of_mem _ he,q⟩
    have fa:=notFr a oe vs he3 hd
    have fT:=notFr T oT ts hT hdT
    have S3:Inv (X.suite a ((a,oe) :: (T,oT) :: (X.pn++pins))) [] σ' H' { s' with heap:=h3 } :=
      ⟨J3.ok.suite _ _,J3.os,J3.bare,J3.base,J3.loc,J3.cell,J3.free,J3.freeC,fun p hp=>by
        rw [List.append_nil] at hp
        rcases List.mem_cons.mp hp with z | hp
        · rw [z]
          exact ⟨he3,na,fun z2=>fa (by rw [show a=X.env.locals from z2];exact locF),fun z2=>fa (fsF _ z2),fun v z2=>by
            have z3:oe.data=.cell v:=z2
            rw [hd] at z3
            cases z3⟩
        · rcases List.mem_cons.mp hp with z | hp
          · rw [z]
            exact ⟨hT,nT,fun z2=>fT (by rw [show T=X.env.locals from z2];exact locF),fun z2=>fT (fsF _ z2),fun v z2=>by
              have z3:oT.data=.cell v:=z2
              rw [hdT] at z3
              cases z3⟩
          · exact J3.pin p hp,J3.hok,J3.len⟩
    refine wpAny_mono ((hsu a ((a,oe) :: (T,oT) :: (X.pn++pins))).run [] { s' with heap:=h3 } σ' H' { nx:=fun σ2 H2=>Wout cls d σ2 H2,rt:=fun _ _=>False } S3 hw) (fun g s6 hsp=>?_) fun _ _ z=>False.elim z
    cases g with
    | ret u =>
      obtain ⟨_,_,_,_,_,q⟩:=hsp
      exact False.elim q
    | brk =>
      obtain ⟨_,_,_,q⟩:=hsp
      exact False.elim q
    | cont =>
      obtain ⟨_,_,_,q⟩:=hsp
      exact False.elim q
    | next =>
      obtain ⟨σ6,H6,S6,q6⟩:=hsp
      have J6:Inv X pins σ6 H6 s6:=⟨ok,S6.os,S6.bare,S6.base,S6.loc,S6.cell,S6.free,S6.freeC,fun p hp=>S6.pin p (List.mem_append_left _ (List.mem_cons_of_mem _ (List.mem_cons_of_mem _ hp))),S6.hok,S6.len⟩
      have pa:=S6.pin (a,oe) (List.mem_append_left _ List.mem_cons_self)
      have pT:=S6.pin (T,oT) (List.mem_append_left _ (List.mem_cons_of_mem _ List.mem_cons_self))
      have ga:s6.heap.get? a=some oe:=pa.1
      have gT:s6.heap.get? T=some oT:=pT.1
      have na6:H6 a=none:=pa.2.1
      have nT6:H6 T=none:=pT.2.1
      -- what is not the exception's
      have far:∀ b o,sI.heap.get? b=some o→b≠a∧b≠T:=fun b o e=>by
        by_cases hb:b∈frs X.stack
        · rw [hs] at hb
          exact ⟨fun z=>fa (by rw [← z];exact hb),fun z=>fT (by rw [← z];exact hb)⟩
        · have q:=nb b o e hb
          exact ⟨fun z=>by
            rw [z,k2] at q
            exact (nomatch q),fun z=>by
            rw [z,hnT] at q
            cases q⟩
      have far0:∀ b o,X.s_0.heap.get? b=some o→b≠a∧b≠T:=fun b o e=>by
        obtain ⟨o',q⟩:=J.base.there b o e (by rw [hex];simp)
        exact far b o' q
      have farP:∀ p∈X.pn++pins,p.1≠a∧p.1≠T:=fun p hp=>far p.1 p.2 (J.pin p hp).1
      obtain ⟨G,g1,g2⟩:=restrict s6.heap fun b=>!(decide (b=a) || decide (b=T))
      have gIn:∀ b o,G.get? b=some o→s6.heap.get? b=some o∧b≠a∧b≠T:=fun b o e=>by
        cases q:(!(decide (b=a) || decide (b=T))) with
        | false =>
          rw [g2 b q] at e
          cases e
        | true =>
          rw [g1 b q] at e
          simp only [Bool.not_eq_true',Bool.or_eq_false_iff,decide_eq_false_iff_not] at q
          exact ⟨e,q.1,q.2⟩
      have gOf:∀ b o,b≠a→b≠T→s6.heap.get? b=some o→G.get? b=some o:=fun b o h1 h2 e=>by
        rw [g1 b (by simp [h1,h2])]
        exact e
      have I6:Inv X pins σ6 H6 { s6 with heap:=G }:=J6.less (fun b o e=>(gIn b o e).1) gOf ⟨oe,vs,ga,hd⟩ ⟨oT,ts,gT,hdT⟩ na6 nT6 far0 farP
      -- the ground behind the suite
      have B6in:∀ b o,(PySem.W.hideAll G (frs X.stack)).get? b=some o→s6.heap.get? b=some o:=fun b o e=>(gIn b o (PySem.W.of_hideAll _ e)).1
      have Bno:∀ b,(b=a∨b=T)→(PySem.W.hideAll G (frs X.stack)).get? b=none:=fun b hb=>by
        cases q:(PySem.W.hideAll G (frs X.stack)).get? b with
        | none=>rfl
        | some o =>
          obtain ⟨_,n1,n2⟩:=gIn b o (PySem.W.of_hideAll _ q)
          rcases hb with z | z
          · exact absurd z n1
          · exact absurd z n2
      have fl6:HandSPX.FlyingZ (PySem.W.hideAll G (frs X.stack)) (X.env :: X.outer) a (L2N.Zn cls d) s6.heap:=by
        refine ⟨B6in,Bno a (.inl rfl),?_,oe,vs,T,oT,ts,ga,hz,hd,hv1,Bno T (.inr rfl),hTe,gT,hdT,ht3⟩
        have ff:=funFrames_none (B:=PySem.W.hideAll G (frs X.stack)) J6.stack fun b hb=>PySem.W.hideAll_none _ hb
        rw [← hs]
        exact ff
      show wpAny (model X.prog X.w) X.A (PySem.passOn "try.finally" (.ref a) X.env) (SP X pins D) X.xe s6
      unfold PySem.passOn
      refine wpAny_bind (wpAny_field ga hd hv1 ?_)
      rw [if_neg (show ¬ ((Value.ref T == Value.none)=true) from by simp)]
      have goOn:wpAny (model X.prog X.w) X.A (setFlight (.ref a) X.env.frame) (fun _ s7=>wpAny (model X.prog X.w) X.A (throw (.ref a):Sem Flow) (SP X pins D) X.xe s7) X.xe s6:=by
        rw [hf]
        refine HandSPX.setFlight_upZ fl6 fun h7 hh7 up7=>wpAny_throw (tk _ _ ?_)
        refine ⟨a,PySem.W.hideAll G (frs X.stack),{ s6 with heap:=G },pins,σ6,H6,cls,d,rfl,I6,fun b o e hb=>PySem.W.hideAll_get _ e hb,?_,.inr (.inr (by rw [← hs] at hh7;exact hh7)),na6,rfl,J6.bare,q6⟩
        exact Heap.UpToSlots.trans (Heap.UpToSlots.of_keeps fun b o e=>(gIn b o e).1) up7
      first
        | exact wpAny_bind (wpAny_pure (wpAny_bind goOn))
        | exact wpAny_bind goOn
  show wpAny (model X.prog X.w) X.A (noteFrame (.ref a) X.env) _ _ _
  rcases sky' with ⟨hB,hn,hl,oe,vs,he0,hz,hd,hv1⟩ | fl | hh
  · exact PXN.look_newZ L2N.Zn.steady hfr hl hf he0 hB hn hd hv1 hz fin
  · exact PXN.looks_onZ L2N.Zn.steady hfr hf fl fin
  · exact HandSPX.againZ hf hh.2.2.2 (fin s'.heap hh (Heap.UpToSlots.refl _))
theorem ps_finX (hs:X.stack=X.env :: X.outer) (hf:X.env.frame=some X.env.locals) (hex:X.ex=[]) (tk:L2N.Takes X Wout) (hw:PassesOwn (model X.prog X.w) X.A X.env X.xe)
    (hb:∀ (W:WX) (pn:List (Addr × Obj)) (xe:Value→Shared→Prop),L2N.Takes (X.tr pn xe) W→PassesOwn (model X.prog X.w) X.A X.env xe→PSs (X.tr pn xe) body (tb W))
    (hfin:PSs X.nox (f₀ :: fs) tf) (hsu:∀ (a:Addr) (pn:List (Addr × Obj)),PSs (X.suite a pn) (f₀ :: fs) tfs):PS X (.Try body [] [] (f₀ :: fs) pos) (fun D σ H=>tb (wFin tfs Wout) { nx:=fun σ1 H1=>tf D σ1 H1,rt:=fun _ _=>False } σ H):=by
  refine ⟨fun pins s σ H D I h=>?_⟩
  have ok:=I.ok
  refine wpAny_Try_finally ?_
  refine wpAny_mono ((hb (wFin tfs Wout) (X.pn++pins) (fun x s₁=>wpAny (model X.prog X.w) X.A (noteFrame x X.env) (fun _ s₂=>FinallyRaised X.prog X.w X.A X.xe X.env (f₀ :: fs) (SP X pins D) x s₂) (FinallyRaised X.prog X.w X.A X.xe X.env (f₀ :: fs) (SP X pins D)) s₁)
    (fun u s' xx=>?_) PassesOwn.looking).run [] s σ H _ (I.toTry _) h) (fun g s1 z=>?_) (fun x s1 hx=>hx)
  · exact fin_exc hs hf hex ok tk hsu xx
  · cases g with
    | next =>
      obtain ⟨σ',H',J',q⟩:=z
      refine wpAny_execs_nil ?_
      refine wpAny_mono (hfin.run pins s1 σ' H' D ((J'.ofTry ok).wish _) q) (fun g s2 q2=>?_) fun _ _ z=>False.elim z
      have q':SP X pins D g s2:=q2.unwish
      cases g <;> exact q'
    | brk=>obtain ⟨_,_,_,q⟩:=z;exact q.elim
    | cont=>obtain ⟨_,_,_,q⟩:=z;exact q.elim
    | ret u=>obtain ⟨_,_,_,_,_,q⟩:=z;exact q.elim
end
end Rc

namespace RgF
open PySem PySem.Spec L2 Rc GenW
open PyProof.Rows hiding St
def calmS (s:Sl):Bool:=s.all fun
  | some (.own _)=>false
  | _=>true
theorem calmS_at {s:Sl} (h:calmS s=true) (i:Nat) (o:MO):s[i]?≠some (some (.own o)):=fun e=>by
  have:=List.all_eq_true.mp h _ (List.mem_of_getElem? e)
  cases this
def turnG (tg:MG) (fb:Sl→Mem→SR):MV→Sl→Mem→SR:=fun x s m=>match turnS tg fb x s m with
  | .nx s m=>if calmS s=true then .nx s m else .stuck
  | .ct s m=>if calmS s=true then .ct s m else .stuck
  | .bk s m=>if calmS s=true then .bk s m else .stuck
  | .rt (.ok x m)=>.rt (.ok x m)
  | _=>.stuck
def forGS (r:R (List MV)) (s:Sl) (tg:MG) (fb:Sl→Mem→SR):SR:=r.toS s fun L m=>if calmS s=true then forS (turnG tg fb) [] L s m else .stuck
abbrev noX (X:Cx):Cx:={ X with xe:=fun _ _=>False }
theorem _root_.L2.Inv.noX {X:Cx} {pins:Pl} {σ:L2.St} {H:Hp} {s:Shared} (I:Inv X pins σ H s):Inv (RgF.noX X) pins σ H s :=
  ⟨⟨I.ok.mod,I.ok.kind,I.ok.glob,I.ok.blt,I.ok.above,I.ok.inj,I.ok.has,I.ok.cab,I.ok.hd,I.ok.frames,I.ok.stk,I.ok.exf,I.ok.bs,I.ok.bsz,I.ok.noex,I.ok.exfs,I.ok.funs,I.ok.frf⟩,I.os,I.bare,I.base,I.loc,I.cell,I.free,I.freeC,I.pin,I.hok,I.len⟩
theorem _root_.L2.Inv.yesX {X:Cx} {pins:Pl} {σ:L2.St} {H:Hp} {s:Shared} (I:Inv (RgF.noX X) pins σ H s):Inv X pins σ H s :=
  ⟨⟨I.ok.mod,I.ok.kind,I.ok.glob,I.ok.blt,I.ok.above,I.ok.inj,I.ok.has,I.ok.cab,I.ok.hd,I.ok.frames,I.ok.stk,I.ok.exf,I.ok.bs,I.ok.bsz,I.ok.noex,I.ok.exfs,I.ok.funs,I.ok.frf⟩,I.os,I.bare,I.base,I.loc,I.cell,I.free,I.freeC,I.pin,I.hok,I.len⟩
theorem _root_.Rc.Stp.lay {g g':G} {H V:Hp} {pl:Pl} (st:Stp g H g' V) (hid:Hid g' V pl):Stp g H g' (layP V pl):=by
  refine ⟨st.F,st.r,fun b u e hn nt=>hid.lay (st.keep b u e hn nt),fun b e=>?_,fun b e=>?_,st.rn⟩
  · cases q:V b with
    | none=>exact absurd q (st.dom b e)
    | some u=>rw [hid.lay q];simp
  · rcases st.Fn b e with y | y | y | ⟨ys,y⟩
    · exact .inl y
    · exact .inr (.inl y)
    · exact .inr (.inr (.inl y))
    · exact .inr (.inr (.inr ⟨ys,hid.lay y⟩))
theorem rl_calm {K:Ki} {g:G} {s:Sl} {σ:L2.St} {H H':Hp} (rl:RSl K g s σ H) (h:calmS s=true):RSl K g s σ H':=⟨rl.val,fun i o e=>absurd e (calmS_at h i o),fun i j o u a e=>absurd e (calmS_at h i o),rl.len⟩
section
variable {X:Cx}
theorem postGS_bind {K:Ki} {W:WX} {g0 g:G} {H0 H:Hp} {s:Sl} {m:Mem} {σ:L2.St} {D:Ends} {r:R (List MV)} {k:List MV→Mem→SR} (R:SRel K g0 H0 g s m σ H) (h:PostS K W g0 H0 g (r.toS s k) D) :
    PostG K (WE W σ) g H r fun L g1 m1 H1=>PostS K W g0 H0 g1 (k L m1) D∧Stp g H g1 H1:=by
  cases r with
  | ok L m'=>exact fun g' H' a b=>⟨PostS.fle h b.fle,b⟩
  | exc c ks xs m'=>exact fun g1 cls d H1 a b e=>h g1 cls d σ H1 (R.step a b) b.fle e
  | stuck=>exact h
theorem ps_forG {W:WX} {iter tg:Expr} {body:List Stmt} {mg:MG} {fi:Sl→Mem→R (List MV)} {fb:Sl→Mem→SR} {pos:Pos} (hp:PassesOwn (model X.prog X.w) X.A X.env X.xe) (calm:X.calm=true) (hi:PGn X W iter fi) (hg:PG (noX X) tg (gM X.ki mg)) (hb:∀ g0 H0,PSs (noX X) body (tS X.ki W0 g0 H0 fb))
    (hs:∀ x,foldedSetIterable iter X.env x=pure x) (g0:G) (H0:Hp):PS X (.For tg iter body [] pos) (tS X.ki W g0 H0 fun s m=>forGS (fi s m) s mg fb):=by
  refine ⟨fun pins s σ H D I h=>?_⟩
  obtain ⟨g,sl,m,R0,p0⟩:=h
  refine wpAny_For (thn (hi pins s σ H g sl m _ I R0.rs R0.rl (postGS_bind R0 p0)) fun xv sa ha=>?_) hs
  obtain ⟨L,g1,m1,H1,s1,⟨p1,_⟩,I1,rs1,st1,P,j,a,ao,gi,c,rfl,c1,c2,c3,c4,c5,md,hroom,_⟩:=ha
  obtain ⟨pr,w0,K0,mg0,b0,N0,env0,out0,A0⟩:=P
  dsimp only at c1 c2 c3 c4 c5
  subst c1 c2 c3 c4 c5
  have c6:out0=X.stack:=md.out
  subst c6
  have isg:=md.isg _ md.obj
  refine wpAny_pyIter_gen isg ?_
  by_cases cs:calmS sl=true
  case neg=>rw [if_neg cs] at p1;exact p1.elim
  rw [if_pos cs] at p1
  have Ia:Inv X pins σ H1 sa:=I1.call' (ch:=[]) md.os (Un.kept md.keep) (I1.hok.kept md.keep) md.bare fun b z=>absurd z (by simp)
  have hn:env0.locals=s1.heap.objs.size:=md.loc
  have ale:env0.locals≤a:=by rw [hn];exact md.old
  have fresh1:∀ b,env0.locals≤b→H1 b=none:=fun b hb=>I1.hok.fresh (by rw [← hn];exact hb)
  have locLt:X.env.locals < env0.locals:=by rw [hn];exact I1.lt
  have hcell:∀ x c,X.env.cells.lookup x=some c→c < env0.locals:=fun x c e=>by
    obtain ⟨w,z⟩:=I1.cell _ _ e
    rw [hn];exact z.lt
  obtain ⟨p,ep⟩:∃ p:GP,p=⟨X.prog,X.w,X.K,X.mg,X.base,N0,env0,X.stack,X.A.in1⟩:=⟨_,rfl⟩
  have slp0:Slp p L (youngOf sa.heap env0.locals a) g1.F (.fresh c):=by
    rw [ep]
    exact md.slp X.A.in1 hroom I.ok.frames
  have penv:p.env=env0:=by rw [ep]
  have mkLie:∀ (V:Hp) (pl:Pl) (u:Shared),(∀ q∈pl,p.env.locals≤q.1)→Lie p X u (layP V pl) pl:=fun V pl u ge=>by
    refine ⟨by rw [ep],by rw [ep],by rw [ep],by rw [ep],by rw [ep],by rw [ep],by rw [ep],.inl (by rw [penv];exact locLt),by rw [penv];exact hcell,fun b h1 h2 h3=>?_,ge⟩
    have q1:=I.ok.above
    rw [penv] at h1
    exact absurd (Nat.lt_of_lt_of_le h2 (Nat.le_trans q1 (Nat.le_trans (Nat.le_of_lt locLt) h1))) (Nat.lt_irrefl _)
  have fok:∀ b,env0.locals≤b→FpOk X pins H1 b:=fun b hb=>I1.fpOk (by rw [← hn];exact hb) (fresh1 b hb)
  have Ie:L2.Inv X pins σ (layP (layP H1 [(a,ao)]) (youngOf sa.heap env0.locals a)) sa:=by
    have two:∀ q:Addr × Obj,env0.locals≤q.1→sa.heap.get? q.1=some q.2→sa.heap.get? q.1=some q.2∧H1 q.1=none∧q.1≠X.env.locals∧(∀ x c,X.env.cells.lookup x=some c→c≠q.1)∧(∀ r∈X.pn++pins,r.1≠q.1)∧(q.1∈X.ex∨X.s_0.heap.objs.size≤q.1):=fun q h1 h2=>by
      obtain ⟨f0,f1,f2,f3,f4,f5⟩:=fok q.1 h1
      exact ⟨h2,f0,f1,f4,f5,f3⟩
    refine (Ia.layP (pl:=[(a,ao)]) fun q hq=>?_).layP fun q hq=>?_
    · rw [List.mem_singleton.mp hq]
      exact two (a,ao) ale md.obj
    · obtain ⟨h1,h2,h3⟩:=of_young hq
      obtain ⟨t1,t2,t3⟩:=two q h1 h3
      refine ⟨t1,?_,t3⟩
      show upd H1 a _ q.1=none
      rw [upd_ne h2];exact t2
  obtain ⟨rs1a,st1a⟩:=rs1.grow (o:=Pin1 (a,ao)) (fresh1 a ale)
  have hid0:Hid g1 (layP H1 [(a,ao)]) (youngOf sa.heap env0.locals a):=⟨fun q hq=>by
    obtain ⟨h1,h2,h3⟩:=of_young hq
    show upd H1 a _ q.1=none
    rw [upd_ne h2]
    exact fresh1 _ h1,OneP.of fun q hq=>(of_young hq).2.2⟩
  have held0:Held p a ao gi L g1 (layP H1 [(a,ao)]) (youngOf sa.heap env0.locals a) sa :=
    ⟨⟨g1.F,.fresh c,md.gen,slp0,fun _ _ z=>z⟩,md.isg,upd_same,(rs1.free (fresh1 a ale)).1,(rs1.free (fresh1 a ale)).2,hid0,fun q hq=>by rw [penv];exact (of_young hq).1⟩
  have R1:SRel X.ki g0 H0 g1 sl m1 σ (layP H1 [(a,ao)]):=(R0.step rs1 st1).step rs1a st1a
  refine codeAny_forLoop_any (fun n u=>∃ g2 sl2 m2 σ2 V2 pl2 Lr,Lr.length=n∧calmS sl2=true∧L2.Inv X pins σ2 (layP V2 pl2) u∧SRel X.ki g0 H0 g2 sl2 m2 σ2 V2∧Held p a ao gi Lr g2 V2 pl2 u ∧
    PostS X.ki W g0 H0 g2 (forS (turnG mg fb) [] Lr sl2 m2) D) (fun n u hu=>?_) L.length ⟨g1,sl,m1,σ,_,_,L,rfl,cs,Ie,R1,held0,p1⟩
  obtain ⟨g2,sl2,m2,σ2,V2,pl2,Lr,eL,cs2,J2,R2,held2,pq⟩:=hu
  obtain ⟨F2,gs,hgs,slp2,hF2⟩:=held2.gs
  have rs2:=R2.rs
  have lie:=mkLie V2 pl2 u held2.ge
  have rs2p:Rs p.ki g2 m2 V2:=by rw [ep];exact rs2
  have wk:=lie.wake J2 held2.hid rs2p hF2 (gi:=gi)
  have isg2:u.heap.IsGen a gi:=held2.isg _ (pin1_get (q:=(a,ao)) J2.hok (held2.hid.lay held2.at_))
  have hgl:gi + 1≤u.gens.size:=(Array.getElem?_eq_some_iff.mp hgs).1
  have hdep:X.A.depth < recursionLimit:=by
    have h1:=(hroom X.env).dp
    have h2:X.A.depth + 1 + 3 * j + 5 < recursionLimit:=h1
    omega
  have emd:p.md=model X.prog X.w:=by rw [ep]
  refine wpAny_gsz hgl ?_
  rw [← emd]
  refine next_gen (p:=p) (A:=X.A) (a:=a) (by rw [ep]) (I.ok.hd calm) J2.nolimit hdep isg2 hgs slp2 wk (fun eN s4 F' H' h' aft hk _=>?_) (fun y Lr' eY v s4 F' H' x pv gs' aft rx ry hpv slp' hsu hbr hsz=>?_)
  · rw [emd]
    subst eN
    have J3:L2.Inv X pins σ2 H' { s4 with gens:=(s4.setGen gi .finished).gens }:=lie.back (pv:=[]) J2 held2.hid aft (fun q hq=>by cases hq) (fun q hq=>by cases hq) (G':=(s4.setGen gi .finished).gens) (allBare_setGen aft.bare rfl)
    have J4:L2.Inv X pins σ2 H' { s4.setGen gi .finished with heap:=h' }:=J3.call' (s':={ s4.setGen gi .finished with heap:=h' }) (ch:=[]) rfl (Un.kept hk) (J3.hok.kept hk) (allBare_setGen aft.bare rfl) fun b z=>absurd z (by simp)
    obtain ⟨rs3,st3⟩:=Lie.ghost rs2p aft
    rw [ep] at rs3
    have e0:forS (turnG mg fb) [] [] sl2 m2=.nx sl2 m2:=by unfold forS;rw [if_pos (OkW_nil _)]
    rw [e0] at pq
    exact wpAny_execs_nil ⟨σ2,H',J4,pq _ σ2 H' (R2.step rs3 st3) st3.fle⟩
  · rw [emd]
    have hidv:Hid (⟨F',g2.r⟩:G) H' pv:=⟨fun q hq=>(hpv.at_ q hq).2.1,OneP.of fun q hq=>(hpv.at_ q hq).1⟩
    have gl4:gi < s4.gens.size:=by
      have:=setGen_size s4 gi gs'
      rw [this] at hsz;omega
    have J3:L2.Inv X pins σ2 (layP H' pv) (s4.setGen gi gs'):=lie.back (pv:=pv) J2 held2.hid aft hpv.at_ (fun q hq r hr=>hpv.ep q hq r hr) (G':=(s4.setGen gi gs').gens) (allBare_setGen aft.bare hbr)
    obtain ⟨rs3,st3⟩:=Lie.ghost rs2p aft
    obtain ⟨a1,a2,a3⟩:=pin_stay held2.at_ held2.hF held2.hr st3
    have held3:Held p a ao gi Lr' ⟨F',g2.r⟩ H' pv (s4.setGen gi gs'):=⟨⟨F',gs',setGen_at gl4,slp',fun _ _ z=>z⟩,held2.isg,a1,a2,a3,hidv,fun q hq=>(hpv.at_ q hq).2.2⟩
    have sus3:∃ gs,(s4.setGen gi gs').gens[gi]? = some gs∧isSusp gs=true:=⟨gs',setGen_at gl4,hsu⟩
    rw [ep] at rs3 ry
    have ry3:RV X.ki ⟨F',g2.r⟩ y x:=RV.mono (g:=fz F') (g':=⟨F',g2.r⟩) (fun _ _ e=>e) (fun n b e=>by cases e) y ry
    have R3:=R2.step rs3 st3
    have pq:=PostS.fle pq st3.fle
    refine letGo_gen (gi:=gi) (held3.isg _ (pin1_get (q:=(a,ao)) J3.hok (hidv.lay a1))) ?_
    rw [eY,forS_cons,if_pos (OkW_nil _)] at pq
    unfold turnG turnS at pq
    cases ea:assignG mg y sl2 with
    | none=>rw [ea] at pq;exact pq.elim
    | some sa2 =>
      rw [ea] at pq
      dsimp only at pq
      have cs3:calmS sa2=true:=by
        rw [calmS,List.all_eq_true]
        intro x hx
        obtain ⟨i,hi,e⟩:=List.mem_iff_getElem.mp hx
        have e2:sa2[i]? = some x:=by rw [List.getElem?_eq_getElem hi,e]
        cases x with
        | none=>rfl
        | some z =>
          cases z with
          | v z=>rfl
          | own o=>exact absurd e2 (by
              have go:∀ {is:List Nat} {xs:List MV} {s s2:Sl},setAll s is xs=some s2→(∀ (i:Nat) o,s[i]?≠some (some (.own o)))→∀ (i:Nat) o,s2[i]?≠some (some (.own o)):=by
                intro is
                induction is with
                | nil =>
                  intro xs s s2 h n
                  cases xs with
                  | nil=>cases h;exact n
                  | cons a b=>cases h
                | cons i is ih =>
                  intro xs s s2 h n
                  cases xs with
                  | nil=>cases h
                  | cons a b =>
                    refine ih (s:=s.set i (some (.v a))) h fun j o=>?_
                    by_cases q:i=j
                    · subst q
                      rw [List.getElem?_set]
                      split
                      · split <;> (intro z;cases z)
                      · exact n _ _
                    · rw [List.getElem?_set_ne q];exact n j o
              cases mg with
              | name k=>exact go (is:=[k]) (xs:=[y]) ea (calmS_at cs2) i o
              | tup ks =>
                cases y with
                | tup xs=>exact go (xs:=xs) ea (calmS_at cs2) i o
                | lst xs=>exact go (xs:=xs) ea (calmS_at cs2) i o
                | _=>cases ea)
      have lt:Lr'.length < n:=by rw [← eL,eY];exact Nat.lt_succ_self _
      refine wpAny_noRaise ?_
      refine asl_G (X:=noX X) hg rfl J3.noX hidv rs3 R3.rl rx ry3 ea fun vs u4 J4 rl4 k4=>?_
      obtain ⟨held4,sus4⟩:=held3.step sus3 (Stp.refl _ _) hidv k4
      -- the body
      have Rb:SRel X.ki ⟨F',g2.r⟩ (layP H' pv) ⟨F',g2.r⟩ sa2 m2 (setV σ2 mg.slots vs) (layP H' pv):=⟨hidv.rs rs3,hidv.rl rl4,Stp.refl _ _,fun i o a e=>absurd e (calmS_at cs3 i o)⟩
      obtain ⟨G4,eG4⟩:∃ G4:G,G4=⟨F',g2.r⟩:=⟨_,rfl⟩
      rw [← eG4] at Rb rs3 R3 hidv held4 st3
      have after:∀ {s':Sl} {m':Mem} {g5:G} {σ5:L2.St} {H5:Hp},calmS s'=true→SRel X.ki G4 (layP H' pv) g5 s' m' σ5 H5→∃ V5,layP V5 pv=H5∧Hid g5 V5 pv∧Stp G4 H' g5 V5∧SRel X.ki g0 H0 g5 s' m' σ5 V5:=fun {s' m' g5 σ5 H5} c5 R5=>by
        obtain ⟨sn,rso⟩:=hidv.step rs3 R5.st R5.rs
        exact ⟨offP H5 pv,sn.eq,sn.hid,sn.st,rso,rl_calm R5.rl c5,R3.st.trans sn.st,fun i o a e=>absurd e (calmS_at c5 i o)⟩
      have go:∀ {DD:Ends},PostS X.ki W0 G4 (layP H' pv) G4 (fb sa2 m2) DD→(∀ f u5,Kept u4.gens u5.gens→SP X pins DD f u5→(match f with
            | .next | .cont=>∃ m,m < n∧∃ g2 sl2 m2 σ2 V2 pl2 Lr,Lr.length=m∧calmS sl2=true∧L2.Inv X pins σ2 (layP V2 pl2) u5∧SRel X.ki g0 H0 g2 sl2 m2 σ2 V2∧Held p a ao gi Lr g2 V2 pl2 u5∧PostS X.ki W g0 H0 g2 (forS (turnG mg fb) [] Lr sl2 m2) D
            | .brk=>SP X pins D .next u5
            | .ret v=>SP X pins D (.ret v) u5))→wpAny (model X.prog X.w) X.A (execs body X.env) (fun f s₃=>match f with
            | .next | .cont=>∃ m,m < n∧∃ g2 sl2 m2 σ2 V2 pl2 Lr,Lr.length=m∧calmS sl2=true∧L2.Inv X pins σ2 (layP V2 pl2) s₃∧SRel X.ki g0 H0 g2 sl2 m2 σ2 V2∧Held p a ao gi Lr g2 V2 pl2 s₃∧PostS X.ki W g0 H0 g2 (forS (turnG mg fb) [] Lr sl2 m2) D
            | .brk=>SP X pins D .next s₃
            | .ret v=>SP X pins D (.ret v) s₃) (notedBy (model X.prog X.w) X.A X.env fun e s'=>cameBackBy (model X.prog X.w) X.A X.env X.xe e s') u4:=fun {DD} hpost hend=>by
        refine asl J4.bare ((hb G4 (layP H' pv)).run pins { u4 with gens:=u4.gens.map poison } _ _ DD (J4.gens (poison_bare J4.bare)) ⟨G4,sa2,m2,Rb,hpost⟩) (fun f u5 A5 q hb5 k5=>?_) fun _ _ _ q=>q.elim
        refine hend f u5 k5 ?_
        cases f with
        | next=>obtain ⟨σ',H'',J',d⟩:=q;exact ⟨σ',H'',(J'.ungens (hb5 J'.bare)).yesX,d⟩
        | brk=>obtain ⟨σ',H'',J',d⟩:=q;exact ⟨σ',H'',(J'.ungens (hb5 J'.bare)).yesX,d⟩
        | cont=>obtain ⟨σ',H'',J',d⟩:=q;exact ⟨σ',H'',(J'.ungens (hb5 J'.bare)).yesX,d⟩
        | ret z=>obtain ⟨w,σ',H'',J',rz,d⟩:=q;exact ⟨w,σ',H'',(J'.ungens (hb5 J'.bare)).yesX,rz,d⟩
      have fle5:Fle g2 G4:=st3.fle
      cases eb:fb sa2 m2 with
      | stuck=>rw [eb] at pq;exact pq.elim
      | ex c ks ys s5 m5=>rw [eb] at pq;exact pq.elim
      | nx s5 m5 =>
        rw [eb] at pq
        dsimp only at pq
        by_cases c5:calmS s5=true
        case neg=>rw [if_neg c5] at pq;exact pq.elim
        rw [if_pos c5] at pq
        refine go (DD:={ nx:=fun σ5 H5=>∃ g5,SRel X.ki G4 (layP H' pv) g5 s5 m5 σ5 H5∧Fle G4 g5,rt:=fun _ _=>False }) (by rw [eb];exact fun g5 σ5 H5 R5 f5=>⟨g5,R5,f5⟩) fun f u5 k5 q=>?_
        cases f with
        | next =>
          obtain ⟨σ5,H5,J5,g5,R5,f5⟩:=q
          obtain ⟨V5,rfl,hid5,st5,R6⟩:=after c5 R5
          obtain ⟨held5,_⟩:=held4.step sus4 st5 hid5 k5
          exact ⟨_,lt,g5,s5,m5,σ5,V5,pv,Lr',rfl,c5,J5,R6,held5,PostS.fle pq (by rw [← eG4];exact f5)⟩
        | brk=>obtain ⟨_,_,_,q⟩:=q;exact q.elim
        | cont=>obtain ⟨_,_,_,q⟩:=q;exact q.elim
        | ret z=>obtain ⟨_,_,_,_,_,q⟩:=q;exact q.elim
      | ct s5 m5 =>
        rw [eb] at pq
        dsimp only at pq
        by_cases c5:calmS s5=true
        case neg=>rw [if_neg c5] at pq;exact pq.elim
        rw [if_pos c5] at pq
        refine go (DD:={ nx:=fun _ _=>False,ct:=fun σ5 H5=>∃ g5,SRel X.ki G4 (layP H' pv) g5 s5 m5 σ5 H5∧Fle G4 g5,rt:=fun _ _=>False }) (by rw [eb];exact fun g5 σ5 H5 R5 f5=>⟨g5,R5,f5⟩) fun f u5 k5 q=>?_
        cases f with
        | cont =>
          obtain ⟨σ5,H5,J5,g5,R5,f5⟩:=q
          obtain ⟨V5,rfl,hid5,st5,R6⟩:=after c5 R5
          obtain ⟨held5,_⟩:=held4.step sus4 st5 hid5 k5
          exact ⟨_,lt,g5,s5,m5,σ5,V5,pv,Lr',rfl,c5,J5,R6,held5,PostS.fle pq (by rw [← eG4];exact f5)⟩
        | brk=>obtain ⟨_,_,_,q⟩:=q;exact q.elim
        | next=>obtain ⟨_,_,_,q⟩:=q;exact q.elim
        | ret z=>obtain ⟨_,_,_,_,_,q⟩:=q;exact q.elim
      | bk s5 m5 =>
        rw [eb] at pq
        dsimp only at pq
        by_cases c5:calmS s5=true
        case neg=>rw [if_neg c5] at pq;exact pq.elim
        rw [if_pos c5] at pq
        refine go (DD:={ nx:=fun _ _=>False,bk:=fun σ5 H5=>∃ g5,SRel X.ki G4 (layP H' pv) g5 s5 m5 σ5 H5∧Fle G4 g5,rt:=fun _ _=>False }) (by rw [eb];exact fun g5 σ5 H5 R5 f5=>⟨g5,R5,f5⟩) fun f u5 k5 q=>?_
        cases f with
        | brk =>
          obtain ⟨σ5,H5,J5,g5,R5,f5⟩:=q
          obtain ⟨V5,rfl,hid5,st5,R6⟩:=after c5 R5
          exact ⟨σ5,_,J5,pq g5 σ5 _ ⟨hid5.rs R6.rs,hid5.rl R6.rl,R6.st.lay hid5,R6.o0⟩ (by rw [← eG4];exact f5)⟩
        | cont=>obtain ⟨_,_,_,q⟩:=q;exact q.elim
        | next=>obtain ⟨_,_,_,q⟩:=q;exact q.elim
        | ret z=>obtain ⟨_,_,_,_,_,q⟩:=q;exact q.elim
      | rt r5 =>
        rw [eb] at pq
        cases r5 with
        | ok x5 m5 =>
          refine go (DD:={ nx:=fun _ _=>False,rt:=fun w H5=>∃ g5,Rs X.ki g5 m5 H5∧Stp G4 (layP H' pv) g5 H5∧RV X.ki g5 x5 w }) (by rw [eb];exact fun g5 w H5 a b c=>⟨g5,a,b,c⟩) fun f u5 k5 q=>?_
          cases f with
          | ret z =>
            obtain ⟨w,σ5,H5,J5,rz,g5,rs5,st5,rv5⟩:=q
            have pq:PostR X.ki (fun _ _ _=>False) g0 H0 (.ok x5 m5) D.rt:=pq
            exact ⟨w,σ5,H5,J5,rz,pq g5 w H5 rs5 ((R3.st.lay hidv).trans st5) rv5⟩
          | brk=>obtain ⟨_,_,_,q⟩:=q;exact q.elim
          | cont=>obtain ⟨_,_,_,q⟩:=q;exact q.elim
          | next=>obtain ⟨_,_,_,q⟩:=q;exact q.elim
        | new o m5=>exact pq.elim
        | exc c ks ys m5=>exact pq.elim
        | stuck=>exact pq.elim
end
end RgF

set_option maxHeartbeats 2000000
namespace Rc
open PySem PySem.Spec L2
open PyProof.Rows hiding St

structure PrimS where
  need:List Need:=[]
  parts:Cfg→Stmt→Option (List Expr)
  pre:Sl→Mem→Bool:=fun _ _=>true
  F:List OV→Sl→Mem→SR
  ok:∀ {k:Nat} {W:WX} {c:Cfg} {X:Cx} {e:Stmt} {es:List Expr} {fs:Sl→Mem→R (List OV)},CtxOk k W c X→(∀ n∈need,n.at X k)→c.top=true→X.env.scope.kind=.function→parts c e=some es→Parts X W es fs →
    ∀ (g0:G) (H0:Hp),PS X e (tS X.ki W g0 H0 fun s m=>if pre s m=true then (fs s m).toS s fun xs m=>F xs s m else .stuck)
def midF (md:Option (Nat × (Sl→Mem→R OV))) (k:Sl→Mem→SR) (s:Sl) (m:Mem):SR:=match md with
  | none=>k s m
  | some (j,fe)=>(fe s m).toS s fun x m=>(toV x m).toS s fun x m=>k (s.set j (some (.v x))) m
def MidOk (X:Cx) (W:WX) (i:Nat) (mid:Option Stmt) (md:Option (Nat × (Sl→Mem→R OV))):Prop:=match mid,md with
  | none,none=>True
  | some st,some (j,fe)=>j≠i∧PS X st (tAsg (tE X.ki W fe) (gName j))
  | _,_=>False
structure PrimL where
  need:List Need:=[]
  parts:Cfg→Nat→Bool→List Stmt→Option (List (Scope × Expr) × Option Stmt × Expr × List Stmt × List Stmt)
  F:List (Mem→R OV)→(Sl→Mem→R OV)→(Sl→Mem→SR)→(Sl→Mem→SR)→Sl→Mem→SR
  ok:∀ {k:Nat} {W:WX} {c:Cfg} {X:Cx} {i:Nat} {hm:Bool} {sts:List Stmt} {l:List (Scope × Expr)} {mid:Option Stmt} {d:Expr} {bd rs:List Stmt} {fs:List (Sl→Mem→R OV)} {fd:Sl→Mem→R OV} {fb fr:Sl→Mem→SR} {md:Option (Nat × (Sl→Mem→R OV))},
    CtxOk (k + 3) W c X→(∀ n∈need,n.at X (k + 3))→c.top=true→X.env.scope.kind=.function→parts c i hm sts=some (l,mid,d,bd,rs)→LamMs X c k l fs→PE X d (tE X.ki W fd) →
    ∀ (g0:G) (H0:Hp),PSs X bd (tS X.ki W g0 H0 fb)→PSs X rs (tS X.ki W g0 H0 fr)→MidOk X W i mid md→PSs X sts (tS X.ki W g0 H0 fun s m=>if i < s.length then midF md (fun s m=>F (fs.map fun f=>f s) fd fb fr s m) (s.set i none) m else .stuck)
mutual
inductive MS where
  | set (i:Nat) (e:ME)
  | setOwn (i:Nat) (f:MF)
  | par (i j:Nat) (a b:ME)
  | par2 (i j:Nat) (f g:MF)
  | tupSet (is:List Nat) (e:ME)
  | ifs (t:MT) (a b:MSs)
  | ret (e:ME)
  | retN
  | retF (f:MF)
  | retOwn (i:Nat)
  | loop (tg:MG) (it:MI) (body:MSs)
  | loopG (tg:MG) (p:PrimG) (o:ME) (body:MSs)
  | whil (n:Nat) (t:MT) (body:MSs)
  | brk
  | cont
  | pass
  | expr (e:ME)
  | pr (p:PrimS) (es:MEs)
  | fin (b f:MSs)
inductive MSs where
  | nil
  | cons (a:MS) (r:MSs)
  | frz (i:Nat) (r:MSs)
  | lamV (p:PrimL) (i:Nat) (ls:MEs) (mid:Option (Nat × ME)) (d:ME) (b r:MSs)
end
def midM (mid:Option (Nat × ME)):Option (Nat × (Sl→Mem→R OV)):=match mid with
  | none=>none
  | some (j,e)=>some (j,ev e)
def midN (mid:Option (Nat × ME)):List Need:=match mid with
  | none=>[]
  | some (_,e)=>e.needs
def finS (r:SR) (k:Sl→Mem→SR):SR:=match r with
  | .nx s m=>(match k s m with
    | .nx s m=>.nx s m
    | _=>.stuck)
  | .ex c ks xs s m=>(match k s m with
    | .nx s m=>.ex c ks xs s m
    | _=>.stuck)
  | _=>.stuck
def low0 (n:Need):Need:=fun P w K mg base _=>n P w K mg base 0
mutual
def ex:MS→Sl→Mem→SR
  | .set i e,s,m=>(ev e s m).toS s fun x m=>(toV x m).toS s fun x m=>.nx (s.set i (some (.v x))) m
  | .setOwn i f,s,m=>(evF f s m).toS s fun o m=>if i < s.length then .nx (s.set i (some (.own o))) m else .stuck
  | .par i j a b,s,m=>(ev a s m).toS s fun x m=>(ev b s m).toS s fun y m=>(toV x m).toS s fun x m=>(toV y m).toS s fun y m=>.nx ((s.set i (some (.v x))).set j (some (.v y))) m
  | .par2 i j f g,s,m=>(evF f s m).toS s fun x m=>(evF g s m).toS s fun y m=>if i < s.length∧j < s.length∧i≠j then .nx ((s.set i (some (.own x))).set j (some (.own y))) m else .stuck
  | .tupSet is e,s,m=>(ev e s m).toS s fun x m=>(toV x m).toS s fun x m=>match assignG (.tup is) x s with
    | some s=>.nx s m
    | none=>.stuck
  | .ifs t a b,s,m=>(evT t s m).toS s fun k m=>if k=true then exs a s m else exs b s m
  | .ret e,s,m=>(ev e s m).toS s fun x m=>(toV x m).toS s fun x m=>.rt (.ok x m)
  | .retN,_,m=>.rt (.ok .non m)
  | .retF f,s,m=>(evF f s m).toS s fun o m=>.rt (.new o m)
  | .retOwn i,s,m=>(match s[i]? with
    | some (some (.own o))=>.rt (.new o m)
    | _=>.stuck)
  | .loop tg it body,s,m=>(evI it s m).toS s fun w m=>forS (turnS tg (exs body)) w.watch w.items s m
  | .loopG tg p o body,s,m=>RgF.forGS ((ev o s m).bind fun x m=>genR (p.F x m) m) s tg (exs body)
  | .whil n t body,s,m=>whileS (evT t) (exs body) n s m
  | .brk,s,m=>.bk s m
  | .cont,s,m=>.ct s m
  | .pass,s,m=>.nx s m
  | .expr e,s,m=>(ev e s m).toS s fun _ m=>.nx s m
  | .pr p es,s,m=>if p.pre s m=true then (evs es s m).toS s fun xs m=>p.F xs s m else .stuck
  | .fin b f,s,m=>finS (exs b s m) fun s m=>exs f s m
def exs:MSs→Sl→Mem→SR
  | .nil,s,m=>.nx s m
  | .cons a r,s,m=>(ex a s m).seq fun s m=>exs r s m
  | .frz i r,s,m=>match s[i]? with
    | some (some (.own o))=>exs r (s.set i (some (.v (frz o)))) m
    | _=>.stuck
  | .lamV p i ls mid d b r,s,m=>if i < s.length then midF (midM mid) (fun s m=>p.F ((evL ls).map fun f=>f s) (ev d) (exs b) (exs r) s m) (s.set i none) m else .stuck
end
mutual
def MS.needs:MS→List Need
  | .set _ e=>e.needs
  | .setOwn _ f=>f.needs
  | .par _ _ a b=>a.needs++b.needs
  | .par2 _ _ f g=>f.needs++g.needs
  | .tupSet _ e=>e.needs
  | .ifs t a b=>t.needs++(a.needs++b.needs)
  | .ret e=>e.needs
  | .retN=>[]
  | .retF f=>f.needs
  | .retOwn _=>[]
  | .loop _ it b=>it.needs++b.needs
  | .loopG _ p o b=>p.need++(o.needs++b.needs)
  | .whil _ t b=>t.needs++b.needs
  | .brk=>[]
  | .cont=>[]
  | .pass=>[]
  | .expr e=>e.needs
  | .pr p es=>p.need++es.needs
  | .fin b f=>b.needs++f.needs.map low0
def MSs.needs:MSs→List Need
  | .nil=>[]
  | .cons a r=>a.needs++r.needs
  | .frz _ r=>r.needs
  | .lamV p _ ls mid d b r=>nThree :: (p.need++(ls.needs.map low3++(midN mid++(d.needs++(b.needs++r.needs)))))
end
def runD (n:Nat) (body:MSs):Mir:=fun as m=>match exs body (as.map (fun x=>some (SV.v x))++List.replicate (n - as.length) none) m with
  | .nx _ m=>.ok .non m
  | .rt (.ok x m)=>.ok x m
  | .rt (.new o m)=>.new o m
  | .ex c ks xs _ m=>.exc c ks xs m
  | _=>.stuck

def notComp:Expr→Bool
  | .ListComp ..=>false
  | .SetComp ..=>false
  | .DictComp ..=>false
  | _=>true
def swT (c:Cfg) (x:Str) (px:Pos):Expr→Bool
  | .ListComp _ _ scope p=>lclB c.sc x&&(px.line == p.line)&&!(scope.names.any fun (n,k)=>n == x&&(k == .local || k == .cell))
  | _=>false
def swF (c:Cfg) (x:Str) (px:Pos):Expr→Bool
  | .ListComp _ _ scope p=>celB c.sc x || !(px.line == p.line)
  | .SetComp ..=>false
  | .DictComp ..=>false
  | _=>true
def swTD (c:Cfg) (x:Str) (px:Pos):Expr→Bool
  | .DictComp _ _ _ scope p=>lclB c.sc x&&(px.line == p.line)&&!(scope.names.any fun (n,k)=>n == x&&(k == .local || k == .cell))
  | _=>false
def swFD (c:Cfg) (x:Str) (px:Pos):Expr→Bool
  | .DictComp _ _ _ scope p=>celB c.sc x || !(px.line == p.line)
  | _=>false
def swMF (f:MF) (c:Cfg) (x:Str) (px:Pos) (v:Expr):Bool:=match f with
  | .comp own tg it ifs a=>swT c x px v || swF c x px v
  | .compG own tg p o ifs a=>swT c x px v || swF c x px v
  | .comp2 own own1 tg it ifs tg1 it1 ifs1 a=>swT c x px v || swF c x px v
  | .dcomp own tg it ifs a b=>swTD c x px v || swFD c x px v
  | _=>notComp v
def parB (c:Cfg) (x y:Str) (px py:Pos) (a b:Expr):Bool:=lclB c.sc x&&lclB c.sc y&&(py.line == px.line)&&decide (x≠y)&&plainE a&&plainE b&&!([a,b].all (foldedForSure 8))&&!([a,b].all (constantsAlone 8))
def lnB (c:Cfg) (line:Nat):Expr→Bool
  | .Name x p=>lclB c.sc x&&(p.line == line)
  | _=>false
def noSwB (c:Cfg) (ts:List Expr):Expr→Bool
  | .Tuple vs _ _=>!(ts.length == 2 || ts.length == 3) || !(vs.length == ts.length) || !(ts.all (lnB c ((ts.head?.map (·.pos.line)).getD 0))) || vs.all (foldedForSure 8)
  | _=>true
def setB (i:Nat) (e:ME) (c:Cfg) (st:Stmt):Bool:=match st with
  | .Assign [.Name x px] v _=>tgB c i x&&(match e with
    | .fr f=>swMF f c x px v
    | _=>notComp v)&&mE e c v
  | _=>false
def midB (i:Nat) (mid:Option (Nat × ME)) (c:Cfg) (st:Option Stmt):Bool:=match mid,st with
  | none,none=>true
  | some (j,e),some st=>decide (j≠i)&&setB j e c st
  | _,_=>false
mutual
def mS:MS→Cfg→Stmt→Bool
  | .set i e,c,st=>(match st with
    | .Assign [.Name x px] v _=>tgB c i x&&(match e with
      | .fr f=>swMF f c x px v
      | _=>notComp v)&&mE e c v
    | _=>false)
  | .setOwn i f,c,st=>(match st with
    | .Assign [.Name x px] v _=>tgB c i x&&swMF f c x px v&&mF f c v
    | _=>false)
  | .par i j a b,c,st=>(match st with
    | .Assign [.Tuple [.Name x px,.Name y py] _ _] (.Tuple [u,v] _ _) _=>c.calm&&decide (c.N[i]? = some x)&&decide (c.N[j]? = some y)&&decide (i≠j)&&parB c x y px py u v&&mE a c u&&mE b c v
    | _=>false)
  | .par2 i j a b,c,st=>(match st with
    | .Assign [.Tuple [.Name x px,.Name y py] _ _] (.Tuple [u,v] _ _) _=>c.calm&&decide (c.N[i]? = some x)&&decide (c.N[j]? = some y)&&decide (i≠j)&&parB c x y px py u v&&mF a c u&&mF b c v
    | _=>false)
  | .tupSet is e,c,st=>(match st with
    | .Assign [.Tuple es k p] v _=>c.calm&&mG c (.tup is) (.Tuple es k p)&&noSwB c es v&&mE e c v
    | _=>false)
  | .ifs t a b,c,st=>(match st with
    | .If u x y _=>mT t c u&&mSs a c x&&mSs b c y
    | .Return (some (.IfExp u x y _)) _=>mT t c u&&(match a,b with
      | .cons (.retF f) .nil,.cons (.ret e) .nil=>mF f c x&&mE e c y
      | _,_=>false)
    | _=>false)
  | .ret e,c,st=>(match st with
    | .Return (some v) _=>mE e c v
    | _=>false)
  | .retN,_,st=>(match st with
    | .Return none _=>true
    | _=>false)
  | .retF f,c,st=>(match st with
    | .Return (some v) _=>mF f c v
    | _=>false)
  | .retOwn i,c,st=>(match st with
    | .Return (some (.Name x _)) _=>slB c i x
    | _=>false)
  | .loop tg it body,c,st=>(match st with
    | .For t iter b [] _=>c.calm&&notSet iter&&mI it c t iter&&mG c tg t&&mSs body c b
    | _=>false)
  | .loopG tg p o body,c,st=>(match st with
    | .For t iter b [] _=>c.calm&&notSet iter&&(match p.parts c iter with
      | some x=>mE o c x
      | none=>false)&&mG c tg t&&mSs body c b
    | _=>false)
  | .whil n t body,c,st=>(match st with
    | .While u b [] _=>mT t c u&&mSs body c b
    | _=>false)
  | .brk,_,st=>(match st with
    | .Break _=>true
    | _=>false)
  | .cont,_,st=>(match st with
    | .Continue _=>true
    | _=>false)
  | .pass,_,st=>(match st with
    | .Pass _=>true
    | .Expr (.Constant (.str _) _ _) _=>true
    | _=>false)
  | .expr e,c,st=>(match st with
    | .Expr v _=>notComp v&&mE e c v
    | _=>false)
  | .pr p es,c,st=>(match p.parts c st with
    | some xs=>mEs es c xs
    | none=>false)
  | .fin b f,c,st=>(match st with
    | .Try body [] [] (f0 :: fs) _=>mSs b c body&&mSs f ⟨c.N,c.sc,c.blts,c.cst,c.top,false,false⟩ (f0 :: fs)
    | _=>false)
def mSs:MSs→Cfg→List Stmt→Bool
  | .nil,_,[]=>true
  | .cons a r,c,st :: sts=>mS a c st&&mSs r c sts
  | .frz _ r,c,sts=>mSs r c sts
  | .lamV p i ls mid d b r,c,sts=>(match p.parts c i mid.isSome sts with
    | some (l,st,e,bd,rs)=>mLs ls c l&&midB i mid c st&&mE d c e&&mSs b c bd&&mSs r c rs
    | none=>false)
  | _,_,_=>false
end

theorem swP {v:Expr} {x:Str} {px:Pos} {l:Nat} {env:Env} (h:notComp v=true):swapsWith v (some (.Name x px)) l env=pure false:=by
  cases v <;> first | rfl | cases h
theorem swN {v:Expr} {l:Nat} {env:Env} (h:notComp v=true):swapsWith v none l env=pure false:=by
  cases v <;> first | rfl | cases h
theorem swTup {v:Expr} {es:List Expr} {k:Nat} {p:Pos} {l:Nat} {env:Env}:swapsWithSole [.Tuple es k p] v l env=pure false:=by
  cases v <;> rfl
theorem swSub {v a b:Expr} {p:Pos} {l:Nat} {env:Env}:swapsWithSole [.Subscript a b p] v l env=pure false:=by
  cases v <;> rfl
theorem stSub {v a b:Expr} {p:Pos} {env:Env}:swappedStores [.Subscript a b p] v env=pure none:=by
  cases v <;> rfl
theorem lclB_ok {sc:Scope} {x:Str} (h:lclB sc x=true):sc.names.lookup x=some .local:=by
  unfold lclB at h
  split at h
  · assumption
  · cases h
theorem celB_ok {sc:Scope} {x:Str} (h:celB sc x=true):sc.names.lookup x=some .cell:=by
  unfold celB at h
  split at h
  · assumption
  · cases h
theorem ExR.fle {K:Ki} {g g':G} {c:Str} {ks:List Str} {xs:List MV} {cls:Value} {d:Option Addr} (h:ExR K g c ks xs cls d) (f:Fle g g'):ExR K g' c ks xs cls d:=by
  obtain ⟨dd,fs,e1,e2,e3,e4,e5⟩:=h
  exact ⟨dd,fs,e1,e2,f.1 _ _ e3,e4,RVs.mono f.1 f.2 xs e5⟩
theorem tS_fin {K:Ki} {W:WX} {g0:G} {H0:Hp} {fb ff:Sl→Mem→SR} {D:Ends} {σ:St} {H:Hp} (q:tS K W g0 H0 (fun s m=>finS (fb s m) fun s m=>ff s m) D σ H) :
    tS K (wFin (tS K W0 g0 H0 ff) W) g0 H0 fb { nx:=fun σ1 H1=>tS K W0 g0 H0 ff D σ1 H1,rt:=fun _ _=>False } σ H:=by
  obtain ⟨g,s,m,R,p⟩:=q
  refine ⟨g,s,m,R,?_⟩
  cases e:fb s m with
  | nx s1 m1 =>
    have p:PostS K W g0 H0 g (finS (fb s m) fun s m=>ff s m) D:=p
    rw [e] at p
    intro g' σ' H' R' fl
    refine ⟨g',s1,m1,R',?_⟩
    unfold finS at p
    dsimp only at p
    cases e2:ff s1 m1 with
    | nx s2 m2 =>
      rw [e2] at p
      exact fun g2 σ2 H2 R2 f2=>p g2 σ2 H2 R2 (fl.trans f2)
    | _=>rw [e2] at p;exact p.elim
  | ex c ks xs s1 m1 =>
    have p:PostS K W g0 H0 g (finS (fb s m) fun s m=>ff s m) D:=p
    rw [e] at p
    intro g' cls d σ' H' R' fl x
    refine ⟨g',s1,m1,R',?_⟩
    unfold finS at p
    dsimp only at p
    cases e2:ff s1 m1 with
    | nx s2 m2 =>
      rw [e2] at p
      exact fun g2 σ2 H2 R2 f2=>p g2 cls d σ2 H2 R2 (fl.trans f2) (x.fle f2)
    | _=>rw [e2] at p;exact p.elim
  | _ =>
    have p:PostS K W g0 H0 g (finS (fb s m) fun s m=>ff s m) D:=p
    rw [e] at p
    exact p.elim
section
variable {k:Nat} {W:WX} {c:Cfg} {X:Cx}
theorem CtxOk.tr (ok:CtxOk k W c X) {W':WX} {pn:List (Addr × Obj)} {xe:Value→Shared→Prop} (tk:L2N.Takes (X.tr pn xe) W') (hw:PassesOwn (model X.prog X.w) X.A X.env xe):CtxOk k W' c (X.tr pn xe) :=
  ⟨tk,ok.sc,ok.N,ok.nd,ok.calm,ok.blt,ok.cst,ok.room,ok.un,ok.lam,ok.top,fun _=>hw,ok.stk⟩
theorem CtxOk.hot (ok:CtxOk k W c X) (a:Addr) (pn:List (Addr × Obj)):CtxOk 0 W0 ⟨c.N,c.sc,c.blts,c.cst,c.top,false,false⟩ (X.suite a pn) :=
  ⟨takes0N,ok.sc,ok.N,ok.nd,fun z=>(by cases z),ok.blt,ok.cst,fun z=>absurd z (Nat.lt_irrefl 0),ok.un,fun z=>(by cases z),ok.top,fun _=>PassesOwn.never,ok.stk⟩
theorem CtxOk.nox (ok:CtxOk k W c X):CtxOk 0 W0 ⟨c.N,c.sc,c.blts,c.cst,c.top,false,false⟩ X.nox :=
  ⟨takes0N,ok.sc,ok.N,ok.nd,fun z=>(by cases z),ok.blt,ok.cst,fun z=>absurd z (Nat.lt_irrefl 0),ok.un,fun z=>(by cases z),ok.top,fun _=>PassesOwn.never,ok.stk⟩
theorem fmLen {α β:Type} (f:α→Option β) (p:α→Bool) (h:∀ x,(f x).isSome=p x):∀ l:List α,l.all p=false→(l.filterMap f).length≠l.length:=by
  intro l hl e
  have:∀ l:List α,(l.filterMap f).length≤l.length∧((l.filterMap f).length=l.length→l.all p=true):=by
    intro l
    induction l with
    | nil=>simp
    | cons x xs ih =>
      rw [List.filterMap_cons,List.all_cons,← h x]
      cases q:f x with
      | none =>
        refine ⟨?_,fun z=>?_⟩
        · have:=ih.1
          simp only [List.length_cons];omega
        · have:=ih.1
          simp only [List.length_cons] at z;omega
      | some y =>
        refine ⟨?_,fun z=>?_⟩
        · have:=ih.1
          simp only [List.length_cons];omega
        · simp only [List.length_cons] at z
          rw [ih.2 (by omega)];rfl
  rw [(this l).2 e] at hl;cases hl
theorem stTup {es:List Expr} {v:Expr} {kt:Nat} {p:Pos} (ok:CtxOk k W c X) (h:noSwB c es v=true):swappedStores [.Tuple es kt p] v X.env=pure none:=by
  cases v with
  | Tuple vs k2 p2 =>
    unfold noSwB at h
    simp only [Bool.or_eq_true,Bool.not_eq_true'] at h
    unfold swappedStores
    by_cases h1:(!(es.length == 2 || es.length == 3) || vs.length != es.length || X.env.blockKind != .function)=true
    · exact if_pos h1
    · refine (if_neg h1).trans ?_
      by_cases h2:(vs.any fun | .Starred ..=>true | _=>false)=true
      · exact if_pos h2
      · refine (if_neg h2).trans ?_
        simp only [Bool.or_eq_true,Bool.not_eq_true',not_or,Bool.not_eq_true] at h1
        obtain ⟨⟨h3,h4⟩,h5⟩:=h1
        rcases h with ((h | h) | h) | h
        · exact absurd h h3
        · have:(vs.length != es.length)=true:=by simpa [bne] using h
          rw [this] at h4;cases h4
        · refine if_pos ?_
          rw [Bool.or_eq_true]
          left
          have:=fmLen (fun e=>match e with
            | .Name id pos=>if (X.env.kindOf id == some .local&&pos.line == (es.head?.map (·.pos.line)).getD 0)=true then some id else none
            | _=>none) (lnB c ((es.head?.map (·.pos.line)).getD 0)) (fun e=>by
              unfold lnB
              cases e <;> try rfl
              rename_i id pos
              dsimp only
              unfold lclB Env.kindOf
              rw [ok.sc]
              cases c.sc.names.lookup id with
              | none=>simp
              | some r =>
                by_cases hp:(pos.line == (es.head?.map (·.pos.line)).getD 0)=true
                · simp only [hp,Bool.and_true]
                  cases r <;> rfl
                · have hp:(pos.line == (es.head?.map (·.pos.line)).getD 0)=false:=by simpa using hp
                  simp only [hp,Bool.and_false]
                  rfl) es h
          exact bne_iff_ne.mpr this
        · dsimp only
          rw [if_pos h]
          exact ite_self _
  | _=>rfl
theorem par_st {x y:Str} {px py pt pt2:Pos} {kt k2:Nat} {a b:Expr} (ok:CtxOk k W c X) (hk:X.env.scope.kind=.function) (h:parB c x y px py a b=true) :
    X.env.scope.names.lookup x=some .local∧X.env.scope.names.lookup y=some .local∧swappedStores [.Tuple [.Name x px,.Name y py] kt pt] (.Tuple [a,b] k2 pt2) X.env=pure (some [x,y]):=by
  unfold parB at h
  simp only [Bool.and_eq_true,Bool.not_eq_true',decide_eq_true_eq] at h
  obtain ⟨⟨⟨⟨⟨⟨⟨h1,h2⟩,h3⟩,h4⟩,h5⟩,h6⟩,h7⟩,h8⟩:=h
  have e1:=lclB_ok h1
  have e2:=lclB_ok h2
  rw [← ok.sc] at e1 e2
  refine ⟨e1,e2,?_⟩
  have k1:X.env.kindOf x=some .local:=e1
  have k2':X.env.kindOf y=some .local:=e2
  have hb:X.env.blockKind=.function:=by unfold Env.blockKind;rw [hk];rfl
  unfold swappedStores
  simp only [hb,k1,k2',h3,h7,h8,List.length_cons,List.length_nil,List.head?_cons,Option.map_some,Option.getD_some,Expr.pos]
  refine (if_neg (by simp)).trans ((if_neg (fun hh=>?_)).trans ?_)
  · simp only [List.any_cons,List.any_nil,Bool.or_false,Bool.or_eq_true] at hh
    rcases hh with hh | hh
    · split at hh
      · cases h5
      · cases hh
    · split at hh
      · cases h6
      · cases hh
  · have h3':py.line=px.line:=by simpa using h3
    have n1:(x == y)=false:=by simpa using h4
    have n2:(y == x)=false:=by simpa using Ne.symm h4
    simp [List.filterMap_cons,List.filterMap_nil,k1,k2',h3',h7,h8,h4,n1,n2,List.eraseDups_cons,Ne.symm h4,Expr.pos]
theorem parB_plain {x y:Str} {px py:Pos} {a b:Expr} (h:parB c x y px py a b=true):plainE a=true∧plainE b=true:=by
  unfold parB at h
  simp only [Bool.and_eq_true] at h
  exact ⟨h.1.1.1.2,h.1.1.2⟩
theorem asg_ok {i:Nat} {x:Str} {px pos:Pos} {v:Expr} {f:MF} (ok:CtxOk k W c X) (hk:X.env.scope.kind=.function) (h1:tgB c i x=true) (h2:swMF f c x px v=true) (h3:mF f c v=true) (nd:All (Need.at · X k) f.needs):PS X (.Assign [.Name x px] v pos) (tAsg (tF X.ki W (evF f)) (gName i)):=by
  obtain ⟨g1,g2,g3⟩:=ok.tg h1
  have hown:∀ (c:Cfg) (own:List Nat),(ownN c own).map (·.2)=own:=fun c own=>by
    unfold ownN;rw [List.map_map];exact List.map_id _
  have hb:X.env.blockKind=.function:=by unfold Env.blockKind;rw [hk];rfl
  cases f with
  | pr p es=>exact ps_set ok.nd g1 g2 (mF_ok _ ok nd h3) (swP h2) g3
  | pa p es=>exact ps_set ok.nd g1 g2 (mF_ok _ ok nd h3) (swP h2) g3
  | comp own tg it ifs a =>
    have h2:(swT c x px v || swF c x px v)=true:=h2
    rw [Bool.or_eq_true] at h2
    rcases h2 with h2 | h2
    · unfold mF at h3
      unfold MF.needs at nd
      split at h3 <;> try contradiction
      simp only [Bool.and_eq_true] at h3
      obtain ⟨⟨⟨⟨⟨⟨⟨e0,e1⟩,e2⟩,e3⟩,e4⟩,e5⟩,e6⟩,e7⟩:=h3
      have hc:=ok.calm e0
      rename_i scope pp _
      have h2:(lclB c.sc x&&(px.line == pp.line)&&!(scope.names.any fun (n,k)=>n == x&&(k == .local || k == .cell)))=true:=h2
      simp only [Bool.and_eq_true,Bool.not_eq_true'] at h2
      obtain ⟨⟨s1,s2⟩,s3⟩:=h2
      have hl:=lclB_ok s1
      rw [← ok.sc] at hl
      have p:=ps_setLc (py:=px) (spos:=pos) (pos:=pp) (own:=ownN _ own) (tt:=tT X.ki W0 (evTs ifs)) (te:=tE X.ki W0 (ev a)) (g:=gM X.ki tg) hc ok.nd g1 hl (sw_true hk hl s2 s3) (mI_ok it ok nd.l e4) (by rw [ok.N,ok.sc];exact blkOk_by e1) (fun s H C cl fp=>ok.mgb (ok.blk.calm e0) e5) (fun s H C cl fp=>mTs_ok ifs ok.blk nd.r.l e6) (fun s H C cl fp=>mE_ok a ok.blk nd.r.r e7) (fun x=>foldP e3 x)
      rw [hown] at p
      exact p.weaken fun D σ H q=>tF_comp (fun i hi=>of_decide_eq_true (List.all_eq_true.mp e2 i hi)) q
    · have hs:swapsWith v (some (.Name x px)) pos.line X.env=pure false:=by
        cases v with
        | ListComp elt gs scope pp =>
          have h2:(celB c.sc x || !(px.line == pp.line))=true:=h2
          rw [Bool.or_eq_true] at h2
          unfold swapsWith
          rcases h2 with h2 | h2
          · have hl:=celB_ok h2
            rw [← ok.sc] at hl
            have k1:X.env.kindOf x=some .cell:=hl
            simp only [hb,k1]
            rfl
          · have h2:(px.line == pp.line)=false:=by simpa using h2
            show (pure _:Sem Bool)=_
            simp only [Expr.pos,h2,Bool.and_false,Bool.false_and]
        | SetComp _ _ _ _=>cases h2
        | DictComp _ _ _ _ _=>cases h2
        | _=>rfl
      exact ps_set ok.nd g1 g2 (mF_ok _ ok nd h3) hs g3
  | compG own tg pg o ifs a =>
    have h2:(swT c x px v || swF c x px v)=true:=h2
    rw [Bool.or_eq_true] at h2
    rcases h2 with h2 | h2
    · unfold mF at h3
      unfold MF.needs at nd
      split at h3 <;> try contradiction
      simp only [Bool.and_eq_true] at h3
      obtain ⟨⟨⟨⟨⟨⟨⟨⟨e0,e1⟩,e2⟩,e3⟩,e4⟩,e5⟩,e6⟩,e7⟩,e8⟩:=h3
      have hc:=ok.calm e0
      rename_i scope pp _
      have h2:(lclB c.sc x&&(px.line == pp.line)&&!(scope.names.any fun (n,k)=>n == x&&(k == .local || k == .cell)))=true:=h2
      simp only [Bool.and_eq_true,Bool.not_eq_true'] at h2
      obtain ⟨⟨s1,s2⟩,s3⟩:=h2
      have hl:=lclB_ok s1
      rw [← ok.sc] at hl
      split at e5 <;> try contradiction
      rename_i xo ex
      have p:=RgF.ps_setLcG (py:=px) (spos:=pos) (pos:=pp) (own:=ownN _ own) (ft:=evTs ifs) (fe:=ev a) (mg:=tg) hc ok.nd g1 hl (sw_true hk hl s2 s3) (pg.ok ok nd.l ex (mE_ok o ok nd.r.l e5)) (by rw [ok.N,ok.sc];exact blkOk_by e1) (noCell_ok e4) (by rw [hown];exact fun i hi=>of_decide_eq_true (List.all_eq_true.mp e2 i hi)) (fun s H C cl fp=>ok.mgb (ok.blk.calm e0) e6) (fun s H C cl fp=>mTs_ok ifs ok.blk nd.r.r.l e7) (fun s H C cl fp=>mE_ok a ok.blk nd.r.r.r e8) (fun x=>foldP e3 x)
      rw [hown] at p
      exact p.weaken fun D σ H q=>q
    · have hs:swapsWith v (some (.Name x px)) pos.line X.env=pure false:=by
        cases v with
        | ListComp elt gs scope pp =>
          have h2:(celB c.sc x || !(px.line == pp.line))=true:=h2
          rw [Bool.or_eq_true] at h2
          unfold swapsWith
          rcases h2 with h2 | h2
          · have hl:=celB_ok h2
            rw [← ok.sc] at hl
            have k1:X.env.kindOf x=some .cell:=hl
            simp only [hb,k1]
            rfl
          · have h2:(px.line == pp.line)=false:=by simpa using h2
            show (pure _:Sem Bool)=_
            simp only [Expr.pos,h2,Bool.and_false,Bool.false_and]
        | SetComp _ _ _ _=>cases h2
        | DictComp _ _ _ _ _=>cases h2
        | _=>rfl
      exact ps_set ok.nd g1 g2 (mF_ok _ ok nd h3) hs g3
  | comp2 own own1 tg it ifs tg1 it1 ifs1 a =>
    have h2:(swT c x px v || swF c x px v)=true:=h2
    rw [Bool.or_eq_true] at h2
    rcases h2 with h2 | h2
    · unfold mF at h3
      unfold MF.needs at nd
      split at h3 <;> try contradiction
      simp only [Bool.and_eq_true] at h3
      obtain ⟨⟨⟨⟨⟨⟨⟨⟨⟨⟨⟨⟨⟨e0,e1⟩,e2⟩,e2b⟩,e2c⟩,e3⟩,e3b⟩,e4⟩,e5⟩,e6⟩,e7⟩,e8⟩,e9⟩,e10⟩:=h3
      have hc:=ok.calm e0
      rename_i scope pp _
      have h2:(lclB c.sc x&&(px.line == pp.line)&&!(scope.names.any fun (n,k)=>n == x&&(k == .local || k == .cell)))=true:=h2
      simp only [Bool.and_eq_true,Bool.not_eq_true'] at h2
      obtain ⟨⟨s1,s2⟩,s3⟩:=h2
      have hl:=lclB_ok s1
      rw [← ok.sc] at hl
      have p:=ps_setLc2 (py:=px) (spos:=pos) (pos:=pp) (own:=ownN _ own) (vs1:=own1) (tt:=tT X.ki W0 (evTs ifs)) (tt1:=tT X.ki W0 (evTs ifs1)) (te:=tE X.ki W0 (ev a)) (wi1:=tI X.ki W0 (evI it1)) (g:=gM X.ki tg) (g1:=gM X.ki tg1) hc ok.nd g1 hl (sw_true hk hl s2 s3) (mI_ok it ok nd.l e4) (by rw [ok.N,ok.sc];exact blkOk_by e1) (by rw [hown];exact fun i hi=>of_decide_eq_true (List.all_eq_true.mp e2c i hi)) (fun s H C cl fp=>ok.mgb (ok.blk.calm e0) e5) (fun s H C cl fp=>mTs_ok ifs ok.blk nd.r.l e6) (fun s H C cl fp=>mI_ok it1 ok.blk nd.r.r.l e7) (fun s H C cl fp=>ok.mgb (ok.blk.calm e0) e8) (fun s H C cl fp=>mTs_ok ifs1 ok.blk nd.r.r.r.l e9) (fun s H C cl fp=>mE_ok a ok.blk nd.r.r.r.r e10) (fun x=>foldP e3 x) (fun env x=>foldP e3b x)
      rw [hown] at p
      exact p.weaken fun D σ H q=>tF_comp2 (fun i hi=>of_decide_eq_true (List.all_eq_true.mp e2 i hi)) (fun i hi=>of_decide_eq_true (List.all_eq_true.mp e2b i hi)) q
    · have hs:swapsWith v (some (.Name x px)) pos.line X.env=pure false:=by
        cases v with
        | ListComp elt gs scope pp =>
          have h2:(celB c.sc x || !(px.line == pp.line))=true:=h2
          rw [Bool.or_eq_true] at h2
          unfold swapsWith
          rcases h2 with h2 | h2
          · have hl:=celB_ok h2
            rw [← ok.sc] at hl
            have k1:X.env.kindOf x=some .cell:=hl
            simp only [hb,k1]
            rfl
          · have h2:(px.line == pp.line)=false:=by simpa using h2
            show (pure _:Sem Bool)=_
            simp only [Expr.pos,h2,Bool.and_false,Bool.false_and]
        | SetComp _ _ _ _=>cases h2
        | DictComp _ _ _ _ _=>cases h2
        | _=>rfl
      exact ps_set ok.nd g1 g2 (mF_ok _ ok nd h3) hs g3
  | dcomp own tg it ifs a b =>
    have h2:(swTD c x px v || swFD c x px v)=true:=h2
    rw [Bool.or_eq_true] at h2
    rcases h2 with h2 | h2
    · unfold mF at h3
      unfold MF.needs at nd
      split at h3 <;> try contradiction
      simp only [Bool.and_eq_true] at h3
      obtain ⟨⟨⟨⟨⟨⟨⟨⟨e0,e1⟩,e2⟩,e3⟩,e4⟩,e5⟩,e6⟩,e7⟩,e8⟩:=h3
      have hc:=ok.calm e0
      rename_i scope pp _
      have h2:(lclB c.sc x&&(px.line == pp.line)&&!(scope.names.any fun (n,k)=>n == x&&(k == .local || k == .cell)))=true:=h2
      simp only [Bool.and_eq_true,Bool.not_eq_true'] at h2
      obtain ⟨⟨s1,s2⟩,s3⟩:=h2
      have hl:=lclB_ok s1
      rw [← ok.sc] at hl
      have p:=ps_setDc (py:=px) (spos:=pos) (pos:=pp) (own:=ownN _ own) (tt:=tT X.ki W0 (evTs ifs)) (tk:=tE X.ki W0 (ev a)) (tv:=tE X.ki W0 (ev b)) (g:=gM X.ki tg) hc ok.nd g1 hl (sw_trueD hk hl s2 s3) (mI_ok it ok nd.l e4) (by rw [ok.N,ok.sc];exact blkOk_by e1) (fun s H C cl fp=>ok.mgb (ok.blk.calm e0) e5) (fun s H C cl fp=>mTs_ok ifs ok.blk nd.r.l e6) (fun s H C cl fp=>mE_ok a ok.blk nd.r.r.l e7) (fun s H C cl fp=>mE_ok b ok.blk nd.r.r.r e8) (fun x=>foldP e3 x)
      rw [hown] at p
      exact p.weaken fun D σ H q=>tF_dcomp (fun i hi=>of_decide_eq_true (List.all_eq_true.mp e2 i hi)) q
    · have hs:swapsWith v (some (.Name x px)) pos.line X.env=pure false:=by
        cases v with
        | DictComp kx vx gs scope pp =>
          have h2:(celB c.sc x || !(px.line == pp.line))=true:=h2
          rw [Bool.or_eq_true] at h2
          unfold swapsWith
          rcases h2 with h2 | h2
          · have hl:=celB_ok h2
            rw [← ok.sc] at hl
            have k1:X.env.kindOf x=some .cell:=hl
            simp only [hb,k1]
            rfl
          · have h2:(px.line == pp.line)=false:=by simpa using h2
            show (pure _:Sem Bool)=_
            simp only [Expr.pos,h2,Bool.and_false,Bool.false_and]
        | SetComp _ _ _ _=>cases h2
        | ListComp _ _ _ _=>cases h2
        | _=>rfl
      exact ps_set ok.nd g1 g2 (mF_ok _ ok nd h3) hs g3

theorem set_ok {i:Nat} {a:ME} {e:Stmt} (ok:CtxOk k W c X) (hk:X.env.scope.kind=.function) (nd:All (Need.at · X k) a.needs) (h:setB i a c e=true):PS X e (tAsg (tE X.ki W (ev a)) (gName i)):=by
  unfold setB at h
  split at h <;> try contradiction
  rw [Bool.and_eq_true,Bool.and_eq_true] at h
  obtain ⟨⟨h1,h2⟩,h3⟩:=h
  obtain ⟨g1,g2,g3⟩:=ok.tg h1
  by_cases hf:∃ f,a=.fr f
  · obtain ⟨f,rfl⟩:=hf
    unfold ME.needs at nd
    exact (asg_ok ok hk h1 (f:=f) h2 h3 nd).weaken fun D σ H q=>tE_fr q
  · refine (ps_set ok.nd g1 g2 (mE_ok a ok nd h3) (swP ?_) g3)
    split at h2
    · exact absurd ⟨_,rfl⟩ hf
    · exact h2
theorem mid_ok {i:Nat} {mid:Option (Nat × ME)} {st:Option Stmt} (ok:CtxOk k W c X) (hk:X.env.scope.kind=.function) (nd:All (Need.at · X k) (midN mid)) (h:midB i mid c st=true):MidOk X W i st (midM mid):=by
  unfold midB at h
  split at h
  · trivial
  · rw [Bool.and_eq_true,decide_eq_true_eq] at h
    exact ⟨h.1,set_ok ok hk nd h.2⟩
  · cases h
theorem tS_retIte {K:Ki} {W:WX} {g0:G} {H0:Hp} {D:Ends} {σ:St} {H:Hp} {ft:Sl→Mem→R Bool} {f:Sl→Mem→R MO} {fe:Sl→Mem→R OV} {k1 k2:Sl→Mem→SR}
    (h:tIfS (tT K W ft) (tS K W g0 H0 fun s m=>((f s m).toS s fun o m=>.rt (.new o m)).seq k1) (tS K W g0 H0 fun s m=>((fe s m).toS s fun x m=>(toV x m).toS s fun x m=>.rt (.ok x m)).seq k2) D σ H):tRet (tIf (tT K W ft) (tF K W f) (tE K W fe)) D σ H:=by
  obtain ⟨g,s,m,rs,rl,p⟩:=h
  refine ⟨g,s,m,rs,rl,p.imp fun b H1 q=>?_⟩
  cases b with
  | true =>
    rw [if_pos rfl] at q
    exact tS_retF (D:={ D with nx:=tS K W g0 H0 k1 D }) (tS_seq q)
  | false =>
    rw [if_neg Bool.false_ne_true] at q
    exact tS_ret (D:={ D with nx:=tS K W g0 H0 k2 D }) (tS_seq q)
mutual
theorem mS_ok {g0:G} {H0:Hp}:∀ (st:MS) {k:Nat} {W:WX} {c:Cfg} {e:Stmt} {X:Cx},CtxOk k W c X→All (Need.at · X k) st.needs→c.top=true→X.env.scope.kind=.function→mS st c e=true→PS X e (tS X.ki W g0 H0 (ex st))
  | .set i a,k,W,c,e,X,ok,nd,ht,hk,h=>by
    unfold mS at h
    unfold MS.needs at nd
    split at h <;> try contradiction
    rw [Bool.and_eq_true,Bool.and_eq_true] at h
    obtain ⟨⟨h1,h2⟩,h3⟩:=h
    obtain ⟨g1,g2,g3⟩:=ok.tg h1
    by_cases hf:∃ f,a=.fr f
    · obtain ⟨f,rfl⟩:=hf
      unfold ME.needs at nd
      exact (asg_ok ok hk h1 (f:=f) h2 h3 nd).weaken fun D σ H q=>tE_fr (tS_set q)
    · refine (ps_set ok.nd g1 g2 (mE_ok a ok nd h3) (swP ?_) g3).weaken fun D σ H q=>tS_set q
      split at h2
      · exact absurd ⟨_,rfl⟩ hf
      · exact h2
  | .setOwn i f,k,W,c,e,X,ok,nd,ht,hk,h=>by
    unfold mS at h
    unfold MS.needs at nd
    split at h <;> try contradiction
    rw [Bool.and_eq_true,Bool.and_eq_true] at h
    obtain ⟨⟨h1,h2⟩,h3⟩:=h
    exact (asg_ok ok hk h1 h2 h3 nd).weaken fun D σ H q=>tS_setOwn q
  | .par i j a b,k,W,c,e,X,ok,nd,ht,hk,h=>by
    unfold mS at h
    unfold MS.needs at nd
    split at h <;> try contradiction
    simp only [Bool.and_eq_true,decide_eq_true_eq] at h
    obtain ⟨⟨⟨⟨⟨⟨h0,h1⟩,h2⟩,h3⟩,h4⟩,h5⟩,h6⟩:=h
    obtain ⟨e1,e2,e3⟩:=par_st ok hk h4
    have hp:=parB_plain h4
    exact (ps_par (ok.calm h0) ok.nd (by rw [ok.N];exact h1) (by rw [ok.N];exact h2) h3 e1 e2 (pa_cons (mE_ok a ok nd.l h5) (pa_cons (mE_ok b ok nd.r h6) pa_nil (starP hp.2)) (starP hp.1)) e3 swTup).weaken fun D σ H q=>tS_par q
  | .par2 i j a b,k,W,c,e,X,ok,nd,ht,hk,h=>by
    unfold mS at h
    unfold MS.needs at nd
    split at h <;> try contradiction
    simp only [Bool.and_eq_true,decide_eq_true_eq] at h
    obtain ⟨⟨⟨⟨⟨⟨h0,h1⟩,h2⟩,h3⟩,h4⟩,h5⟩,h6⟩:=h
    obtain ⟨e1,e2,e3⟩:=par_st ok hk h4
    have hp:=parB_plain h4
    exact (ps_par (ok.calm h0) ok.nd (by rw [ok.N];exact h1) (by rw [ok.N];exact h2) h3 e1 e2 (pa_cons (mF_ok a ok nd.l h5) (pa_cons (mF_ok b ok nd.r h6) pa_nil (starP hp.2)) (starP hp.1)) e3 swTup).weaken fun D σ H q=>tS_parF h3 q
  | .tupSet is a,k,W,c,e,X,ok,nd,ht,hk,h=>by
    unfold mS at h
    unfold MS.needs at nd
    split at h <;> try contradiction
    simp only [Bool.and_eq_true] at h
    exact (ps_asg (mE_ok a ok nd h.2) (ok.mg (ok.calm h.1.1.1) h.1.1.2) swTup (stTup ok h.1.2) rfl).weaken fun D σ H q=>tS_tup q
  | .ifs t a b,k,W,c,e,X,ok,nd,ht,hk,h=>by
    unfold mS at h
    unfold MS.needs at nd
    split at h <;> try contradiction
    · simp only [Bool.and_eq_true] at h
      exact (ps_if (mT_ok t ok nd.l h.1.1).1 (mSs_ok a ok nd.r.l ht hk h.1.2) (mSs_ok b ok nd.r.r ht hk h.2)).weaken fun D σ H q=>tS_if q
    · rw [Bool.and_eq_true] at h
      obtain ⟨h1,h2⟩:=h
      split at h2
      case h_2=>cases h2
      rename_i f e
      rw [Bool.and_eq_true] at h2
      have n1:=nd.r.l
      have n2:=nd.r.r
      unfold MSs.needs at n1 n2
      unfold MS.needs at n1 n2
      exact (ps_ret (pe_ifExp (mT_ok t ok nd.l h1).1 (mF_ok f ok n1.l h2.1) (mE_ok e ok n2.l h2.2))).weaken fun D σ H q=>tS_retIte (tS_if q)
  | .ret a,k,W,c,e,X,ok,nd,ht,hk,h=>by
    unfold mS at h
    unfold MS.needs at nd
    split at h <;> try contradiction
    exact (ps_ret (mE_ok a ok nd h)).weaken fun D σ H q=>tS_ret q
  | .retN,k,W,c,e,X,ok,nd,ht,hk,h=>by
    unfold mS at h
    split at h <;> try contradiction
    exact ps_retN.weaken fun D σ H q=>tS_retN q
  | .retF f,k,W,c,e,X,ok,nd,ht,hk,h=>by
    unfold mS at h
    unfold MS.needs at nd
    split at h <;> try contradiction
    exact (ps_ret (mF_ok f ok nd h)).weaken fun D σ H q=>tS_retF q
  | .retOwn i,k,W,c,e,X,ok,nd,ht,hk,h=>by
    unfold mS at h
    split at h <;> try contradiction
    exact (ps_ret (ok.slot h)).weaken fun D σ H q=>tS_retOwn q
  | .loop tg it body,k,W,c,e,X,ok,nd,ht,hk,h=>by
    unfold mS at h
    unfold MS.needs at nd
    split at h <;> try contradiction
    simp only [Bool.and_eq_true] at h
    obtain ⟨⟨⟨⟨h0,h1⟩,h2⟩,h3⟩,h4⟩:=h
    exact (ps_for (ok.wish ht) (ok.calm h0) (mI_ok it ok nd.l h2) (ok.mg (ok.calm h0) h3) (mSs_ok body ok nd.r ht hk h4) (fun x=>foldP h1 x)).weaken fun D σ H q=>tS_loop q
  | .loopG tg pg o body,k,W,c,e,X,ok,nd,ht,hk,h=>by
    unfold mS at h
    unfold MS.needs at nd
    split at h <;> try contradiction
    simp only [Bool.and_eq_true] at h
    obtain ⟨⟨⟨⟨h0,h1⟩,h2⟩,h3⟩,h4⟩:=h
    split at h2 <;> try contradiction
    rename_i x ex
    have ok2:CtxOk k W0 c (RgF.noX X):=⟨takes0N,ok.sc,ok.N,ok.nd,ok.calm,ok.blt,ok.cst,ok.room,ok.un,ok.lam,ok.top,fun _=>PassesOwn.never,ok.stk⟩
    exact RgF.ps_forG (ok.wish ht) (ok.calm h0) (pg.ok ok nd.l ex (mE_ok o ok nd.r.l h2)) (ok2.mg (ok2.calm h0) h3) (fun g0 H0=>mSs_ok body ok2 nd.r.r ht hk h4) (fun x=>foldP h1 x) g0 H0
  | .whil n t body,k,W,c,e,X,ok,nd,ht,hk,h=>by
    unfold mS at h
    unfold MS.needs at nd
    split at h <;> try contradiction
    rw [Bool.and_eq_true] at h
    exact (ps_while (ok.wish ht) (mT_ok t ok nd.l h.1).1 (mSs_ok body ok nd.r ht hk h.2)).weaken fun D σ H q=>tS_while q
  | .brk,k,W,c,e,X,ok,nd,ht,hk,h=>by
    unfold mS at h
    split at h <;> try contradiction
    exact ps_break.weaken fun D σ H q=>tS_brk q
  | .cont,k,W,c,e,X,ok,nd,ht,hk,h=>by
    unfold mS at h
    split at h <;> try contradiction
    exact ps_continue.weaken fun D σ H q=>tS_cont q
  | .pass,k,W,c,e,X,ok,nd,ht,hk,h=>by
    unfold mS at h
    split at h <;> try contradiction
    · exact ps_pass.weaken fun D σ H q=>tS_next q
    · exact ps_doc.weaken fun D σ H q=>tS_next q
  | .expr a,k,W,c,e,X,ok,nd,ht,hk,h=>by
    unfold mS at h
    unfold MS.needs at nd
    split at h <;> try contradiction
    simp only [Bool.and_eq_true] at h
    exact (ps_expr (mE_ok a ok nd h.2) (swN h.1)).weaken fun D σ H q=>tS_drop q
  | .pr p es,k,W,c,e,X,ok,nd,ht,hk,h=>by
    unfold mS at h
    unfold MS.needs at nd
    split at h <;> try contradiction
    exact p.ok ok nd.l ht hk (by assumption) (mEs_ok es ok nd.r h) g0 H0
  | .fin b f,k,W,c,e,X,ok,nd,ht,hk,h=>by
    unfold mS at h
    unfold MS.needs at nd
    split at h <;> try contradiction
    rw [Bool.and_eq_true] at h
    have nf:∀ n∈f.needs,n X.prog X.w X.K X.mg X.base 0:=fun n hn=>nd.r _ (List.mem_map.mpr ⟨n,hn,rfl⟩)
    obtain ⟨s1,s2,s3⟩:=ok.stk ht
    exact (ps_finX s1 s2 s3 ok.tk (ok.wish ht) (tb:=fun W'=>tS X.ki W' g0 H0 (exs b)) (fun W' pn xe tk hw=>mSs_ok b (ok.tr tk hw) nd.l ht hk h.1) (tf:=tS X.ki W0 g0 H0 (exs f)) (mSs_ok f ok.nox nf ht hk h.2) (tfs:=tS X.ki W0 g0 H0 (exs f)) (fun a pn=>mSs_ok f (ok.hot a pn) nf ht hk h.2)).weaken fun D σ H q=>tS_fin q
theorem mSs_ok {g0:G} {H0:Hp}:∀ (st:MSs) {k:Nat} {W:WX} {c:Cfg} {e:List Stmt} {X:Cx},CtxOk k W c X→All (Need.at · X k) st.needs→c.top=true→X.env.scope.kind=.function→mSs st c e=true→PSs X e (tS X.ki W g0 H0 (exs st))
  | .nil,k,W,c,[],X,ok,nd,ht,hk,h=>pss_nil.weaken fun D σ H q=>tS_next q
  | .nil,k,W,c,_ :: _,X,ok,nd,ht,hk,h=>by cases h
  | .cons a r,k,W,c,[],X,ok,nd,ht,hk,h=>by cases h
  | .cons a r,k,W,c,st :: sts,X,ok,nd,ht,hk,h=>by
    have h:(mS a c st&&mSs r c sts)=true:=h
    unfold MSs.needs at nd
    rw [Bool.and_eq_true] at h
    exact (pss_cons (mS_ok a ok nd.l ht hk h.1) (mSs_ok r ok nd.r ht hk h.2)).weaken fun D σ H q=>tS_seq q
  | .frz i r,k,W,c,sts,X,ok,nd,ht,hk,h=>by
    unfold mSs at h
    unfold MSs.needs at nd
    exact (mSs_ok r ok nd ht hk h).weaken fun D σ H q=>tS_frz q
  | .lamV p i ls mid d b r,k,W,c,sts,X,ok,nd,ht,hk,h=>by
    unfold mSs at h
    unfold MSs.needs at nd
    split at h <;> try contradiction
    rename_i l st e bd rs hp
    simp only [Bool.and_eq_true] at h
    obtain ⟨⟨⟨⟨h1,h2⟩,h3⟩,h4⟩,h5⟩:=h
    obtain ⟨j,hj⟩:=nd _ (List.mem_cons_self ..)
    have nd2:All (Need.at · X k) (p.need++(ls.needs.map low3++(midN mid++(d.needs++(b.needs++r.needs))))):=fun n hn=>nd n (List.mem_cons_of_mem _ hn)
    have ok2:CtxOk (j + 3) W c X:=by rw [← hj];exact ok
    have hb:=mSs_ok (g0:=g0) (H0:=H0) b ok nd2.r.r.r.r.l ht hk h4
    have hr:=mSs_ok (g0:=g0) (H0:=H0) r ok nd2.r.r.r.r.r ht hk h5
    have hm:=mid_ok ok hk nd2.r.r.l h2
    have hd:=mE_ok d ok nd2.r.r.r.l h3
    refine p.ok ok2 (fun n hn=>by rw [← hj];exact nd2.l n hn) ht hk hp (mLs_ok ls (fun n hn=>?_) h1) hd g0 H0 hb hr hm
    obtain ⟨i,e,q⟩:=nd2.r.l _ (List.mem_map.mpr ⟨n,hn,rfl⟩)
    obtain rfl:i=j:=by omega
    exact q
end
end
end Rc

set_option maxHeartbeats 1000000
namespace Rc
open PySem PySem.Spec L2
open PyProof.Rows hiding St

structure ModOk (K:Ki) (mg:Str→Option Value) (blts:List Str) (cst:List (Str × MV)):Prop where
  blt:∀ x∈blts,mg x=none
  cst:∀ x v,(x,v)∈cst→∃ u w,mg x=some u∧RelV w u∧∀ g,RV K g v w
theorem start_rsl {K:Ki} {g:G} {H:Hp} {N:List Str} {as:List MV} {vs:List V} (r:RVs K g as vs):RSl K g (as.map (fun x=>some (SV.v x))++List.replicate (N.length - as.length) none) (start N vs) H:=by
  have hl:=r.length
  have noown:∀ (i:Nat) o,(as.map (fun x=>some (SV.v x))++List.replicate (N.length - as.length) none)[i]?≠some (some (SV.own o)):=fun i o e=>by
    by_cases hi:i < as.length
    · rw [List.getElem?_append_left (by simpa using hi)] at e
      simp [hi] at e
    · rw [List.getElem?_append_right (by simpa using hi)] at e
      simp [List.getElem?_replicate] at e
  refine ⟨fun i x e=>?_,fun i o e=>absurd e (noown i o),fun i j o u a e=>absurd e (noown i o),by simp [L2.start,hl]⟩
  by_cases hi:i < as.length
  · rw [List.getElem?_append_left (by simpa using hi)] at e
    have e2:as[i]? = some x:=by
      rw [List.getElem?_map] at e
      cases q:as[i]? with
      | none=>rw [q] at e;cases e
      | some y=>rw [q] at e;cases e;rfl
    obtain ⟨v,h1,h2⟩:=r.get e2
    refine ⟨v,?_,h2⟩
    unfold L2.start
    rw [List.getElem?_append_left (by simpa using hl ▸ hi),List.getElem?_map,h1]
    rfl
  · rw [List.getElem?_append_right (by simpa using hi)] at e
    simp [List.getElem?_replicate] at e
section
variable {P:Program} {w:World} {K:PySem.W.Frag} {mg:Str→Option Value} {base:Heap} {k:Nat} {f:Addr} {fd:FuncData} {qual:Str} {params:Arguments} {body:List Stmt} {scope:Scope} {dvs:List V} {kwd:List (Str × V)} {N:List Str} {blts:List Str} {cst:List (Str × MV)} {x:Str}
def LamH (K:PySem.W.Frag) (base:Heap) (mg:Str→Option Value) (qual:Str) (cdv:Value):Prop:=∃ cd P,cdv=.ref cd∧LamX.TabB base mg cd P∧(cd,P,qual++".<locals>."++"<lambda>")∈tabsOf K
theorem body_ok {lam:Bool} {CX:CXT} {M:Mir} {ps:List Str} (S:FnScope N ps scope) (mo:ModOk ⟨K,P,w⟩ mg blts cst) {B:MSs} (nd:All (fun n:Need=>n P w K mg base k) B.needs) (hB:mSs B ⟨N,scope,blts,cst,true,true,lam⟩ body=true)
    (hM:∀ as m,as.length=ps.length→M as m≠.stuck→runD N.length B as m=M as m) {cdv:Value} {A:Around} {outer:List Env} {s:Shared} {H:Hp} {vs:List V} {Q:VK} {E E':XK} {W:WX} (hr:Room k (A.deeper (envOfC qual scope s.heap.objs.size f cdv)))
    (tk:L2N.Takes (cxOf CX P w K mg base N qual scope f cdv A outer s H E') W) (hE:∀ cls d σ H',E cls d H'→W cls d σ H') (hL:lam=true→LamH K base mg qual cdv) (h:spM ⟨K,P,w⟩ ps.length M vs H Q E) :
    ∃ t,PSs (cxOf CX P w K mg base N qual scope f cdv A outer s H E') body t∧t { nx:=fun _ H'=>Q .non H',rt:=Q } (start N vs) H:=by
  obtain ⟨g,m,as,rs,r,hl,p⟩:=h
  have wish:PassesOwn (model P w) (cxOf CX P w K mg base N qual scope f cdv A outer s H E').A (cxOf CX P w K mg base N qual scope f cdv A outer s H E').env (cxOf CX P w K mg base N qual scope f cdv A outer s H E').xe:=by
    passes_own
  refine ⟨tS ⟨K,P,w⟩ W g H (exs B),mSs_ok B (c:=⟨N,scope,blts,cst,true,true,lam⟩) ⟨tk,rfl,rfl,S.nd,fun _=>rfl,mo.blt,mo.cst,fun _=>hr,by have:=hr.un;show (A.deeper (envOfC qual scope s.heap.objs.size f cdv)).units + 66 < cLine;omega,hL,fun _ _ _=>rfl,fun _=>wish,fun _=>⟨rfl,rfl,rfl⟩⟩ nd rfl S.kind hB,g,_,m,⟨rs,start_rsl r,Stp.refl _ _,fun i o a e=>?_⟩,?_⟩
  · obtain ⟨_,_⟩:=(start_rsl (N:=N) (H:=H) r).own i o e
    exfalso
    by_cases hi:i < as.length
    · rw [List.getElem?_append_left (by simpa using hi)] at e
      simp [hi] at e
    · rw [List.getElem?_append_right (by simpa using hi)] at e
      simp [List.getElem?_replicate] at e
  · have hs:M as m≠.stuck:=fun z=>by rw [z] at p;exact p
    have e:=hM as m hl hs
    unfold runD at e
    rw [← e] at p
    cases q:exs B (as.map (fun x=>some (SV.v x))++List.replicate (N.length - as.length) none) m with
    | nx s' m' =>
      rw [q] at p
      exact fun g' σ' H' R _=>p g' .non H' R.rs R.st rfl
    | bk s' m'=>rw [q] at p;exact p.elim
    | ct s' m'=>rw [q] at p;exact p.elim
    | rt r =>
      rw [q] at p
      cases r with
      | ok x m'=>exact p
      | new o m'=>exact p
      | exc c ks xs m'=>exact p.elim
      | stuck=>exact p.elim
    | ex c ks xs s' m' =>
      rw [q] at p
      exact fun g' cls d σ' H' R _ ex=>hE cls d σ' H' (p g' cls d H' R.rs R.st ex)
    | stuck=>rw [q] at p;exact p.elim
theorem FnAt.of {lam:Bool} (F:Fn) (FD:FunD K x qual params body scope dvs kwd f fd) (S:FnScope N F.ps scope) (mo:ModOk ⟨K,P,w⟩ mg blts cst) {B:MSs} (nd:All (fun n:Need=>n P w K mg base k) B.needs) (hB:mSs B ⟨N,scope,blts,cst,true,true,lam⟩ body=true)
    (hM:∀ as m,as.length=F.ps.length→F.M as m≠.stuck→runD N.length B as m=F.M as m) (bi:Binds K fd F.ps []) (hL:lam=true→LamH K base mg fd.qualname fd.code:=by intro z;cases z):FnAt P w K mg base (k + 1) f fd F:=by
  have len:∀ vs H Q E,spM ⟨K,P,w⟩ F.ps.length F.M vs H Q E→vs.length=F.ps.length:=fun vs H Q E h=>by
    obtain ⟨g,m,as,_,r,hl,_⟩:=h
    rw [← r.length,hl]
  obtain ⟨oc,od,dV,kV,doc,pm,an,cdv,ct,osl,rfl,lk,hcd,_,_⟩:=FD.ex
  exact ⟨fn_of lk hcd S len fun A outer s H vs Q E hr h=>body_ok S mo nd hB hM hr (W:=fun cls d _ H'=>E cls d H') (L2N.takes_of rfl rfl rfl rfl) (fun _ _ _ _ q=>q) hL h,bi,FD.kp,Nat.succ_pos k⟩
theorem law_ok {lam:Bool} (F:Fn) (FD:FunD K x qual params body scope dvs kwd f fd) (S:FnScope N F.ps scope) (mo:ModOk ⟨K,P,w⟩ mg blts cst) {B:MSs} (nd:All (fun n:Need=>n P w K mg base k) B.needs) (hB:mSs B ⟨N,scope,blts,cst,true,true,lam⟩ body=true)
    (hM:∀ as m,as.length=F.ps.length→F.M as m≠.stuck→runD N.length B as m=F.M as m) (hL:lam=true→LamH K base mg fd.qualname fd.code:=by intro z;cases z):FnOk P w K mg base CX0 (k + 1) f fd F.ps (fun vs H Q E=>spM ⟨K,P,w⟩ F.ps.length F.M vs H Q (fun _ _ _=>False)):=by
  have len:∀ vs H Q (E:XK),spM ⟨K,P,w⟩ F.ps.length F.M vs H Q (fun _ _ _=>False)→vs.length=F.ps.length:=fun vs H Q E h=>by
    obtain ⟨g,m,as,_,r,hl,_⟩:=h
    rw [← r.length,hl]
  obtain ⟨oc,od,dV,kV,doc,pm,an,cdv,ct,osl,rfl,lk,hcd,_,_⟩:=FD.ex
  exact fn_of lk hcd S len fun A outer s H vs Q E hr h=>body_ok S mo nd hB hM hr (W:=W0) (E:=fun _ _ _=>False) takes0N (fun _ _ _ _ q=>q) hL h
theorem FnAt.none {ps:List Str} (hk:0 < k) (FD:FunD K x qual params body scope dvs kwd f fd) (bi:Binds K fd ps []) {name:Str}:FnAt P w K mg base k f fd ⟨name,ps,fun _ _=>.stuck⟩ :=
  ⟨⟨fun vs H Q E ⟨_,_,_,_,_,_,p⟩=>p.elim,fun A outer s H args us vs Q E _ _ _ _ ⟨_,_,_,_,_,_,p⟩=>p.elim⟩,bi,FD.kp,hk⟩
end
theorem RVs.map {K:Ki} {g:G} {α:Type} {f:α→MV} {h:α→V} (e:∀ x,RV K g (f x) (h x)):∀ ps:List α,RVs K g (ps.map f) (ps.map h)
  | []=>rfl
  | p :: ps=>⟨_,_,rfl,e p,RVs.map e ps⟩
def noTab (H:Hp):Hp:=fun b=>match H b with
  | some (.tbl _)=>none
  | o=>o
theorem noTab_sub {H:Hp} {b:Addr} {o:HO} (e:noTab H b=some o):H b=some o:=by
  unfold noTab at e
  split at e
  · cases e
  · exact e
theorem noTab_of {H:Hp} {b:Addr} {o:HO} (e:H b=some o) (n:NTbl o):noTab H b=some o:=by
  unfold noTab
  rw [e]
  cases o with
  | tbl ps=>exact absurd rfl (n ps)
  | _=>rfl
theorem noTab_tab {H:Hp} {b:Addr} {ps:Array Value} (e:H b=some (.tbl ps)):noTab H b=none:=by
  unfold noTab
  rw [e]
theorem law_end {K:Ki} {H:Hp} {a:Addr} {ns:List Int} {M:Mir} (hT:∀ p∈tabsOf K.K,H p.2.1=some (.tbl #[])) (hS:SqL K H a (ns.map V.int)) (h:∃ m',M [.kl (ns.map MV.int)] []=.ok (.bl true) m'):spM K 1 M [.ref a] H (fun v _=>v=.bl true) fun _ _ _=>False:=by
  obtain ⟨m',e⟩:=h
  have hS':SqL K (noTab H) a (ns.map V.int):=by
    rcases hS with (hS | ⟨o,hS⟩) | hS
    · exact .inl (.inl (noTab_of hS fun ps z=>by cases z))
    · exact .inl (.inr ⟨o,noTab_of hS fun ps z=>by cases z⟩)
    · exact .inr hS
  refine ⟨⟨noTab H,fun _=>none⟩,[],[.kl (ns.map MV.int)],⟨fun _ _ e=>noTab_sub e,fun n o e=>by simp at e,(fun n a e=>by cases e),(fun n k a e=>by cases e),fun p hp=>?_⟩,⟨.ref a,[],rfl,⟨a,ns.map V.int,rfl,hS',?_⟩,rfl⟩,rfl,?_⟩
  · exact ⟨⟨#[],hT p hp,True.intro,fun pos cv hc=>by
      have z:codeAmong pos []=some cv:=hc
      simp [codeAmong] at z⟩,noTab_tab (hT p hp),fun n e=>by cases e⟩
  · exact RVs.map (f:=MV.int) (h:=V.int) (fun x=>rfl) ns
  · rw [e]
    intro g' v H' _ _ r
    exact r
end Rc

namespace Rc
open PySem PySem.Spec L2
open PyProof.Rows hiding St

section
variable {K:Ki} {W:WX} {σ:St} {H:Hp} {Q:VK}
theorem tE_con {x:MV} {v:V} {fs:Sl→Mem→R (List OV)} {X:Cx} (p:Parts X W [] fs) (r:∀ g,RV K g x v) (h:tE K W (fun s m=>(fs s m).bind fun _ m=>.ok (.v x) m) σ H Q):tC v σ H Q:=by
  rw [p.p0] at h
  obtain ⟨g,s,m,rs,rl,p⟩:=h
  exact p g v H rs (Stp.refl _ _) (r g)
end
def pNon:Prim where
  parts:=fun _ e=>match e with
    | .Constant .none _ _=>some []
    | _=>none
  F:=fun _ m=>.ok (.v .non) m
  ok:=fun ok nd h p=>by
    split at h <;> cases h
    exact pe_non.weaken fun σ H Q q=>tE_con (x:=.non) (v:=.non) p (fun _=>rfl) q
def pBl (b:Bool):Prim where
  parts:=fun _ e=>match e with
    | .Constant (.bool c) _ _=>if b=c then some [] else none
    | _=>none
  F:=fun _ m=>.ok (.v (.bl b)) m
  ok:=fun ok nd h p=>by
    split at h <;> try contradiction
    split at h <;> cases h
    subst b
    exact pe_bl.weaken fun σ H Q q=>tE_con (x:=.bl _) (v:=.bl _) p (fun _=>rfl) q
def pInt (i:Int):Prim where
  parts:=fun _ e=>match e with
    | .Constant (.int j) _ _=>if i=j then some [] else none
    | _=>none
  F:=fun _ m=>.ok (.v (.int i)) m
  ok:=fun ok nd h p=>by
    split at h <;> try contradiction
    split at h <;> cases h
    subst i
    exact pe_int.weaken fun σ H Q q=>tE_con (x:=.int _) (v:=.int _) p (fun _=>rfl) q
def pStr (x:Str):Prim where
  parts:=fun _ e=>match e with
    | .Constant (.str y) _ _=>if x=y then some [] else none
    | _=>none
  F:=fun _ m=>.ok (.v (.str x)) m
  ok:=fun ok nd h p=>by
    split at h <;> try contradiction
    split at h <;> cases h
    subst x
    exact pe_str.weaken fun σ H Q q=>tE_con (x:=.str _) (v:=.str _) p (fun _=>rfl) q
mutual
def eqMV:MV→MV→Bool
  | .non,.non=>true
  | .bl a,.bl b=>a == b
  | .int a,.int b=>decide (a=b)
  | .str a,.str b=>decide (a=b)
  | .tup xs,.tup ys=>eqMVs xs ys
  | .kl xs,.kl ys=>eqMVs xs ys
  | .kd ks is,.kd ls js=>decide (ks=ls)&&decide (is=js)
  | _,_=>false
def eqMVs:List MV→List MV→Bool
  | [],[]=>true
  | x :: xs,y :: ys=>eqMV x y&&eqMVs xs ys
  | _,_=>false
end
mutual
theorem eqMV_ok:∀ (a b:MV),eqMV a b=true→a=b
  | .non,b,h=>by cases b <;> first | rfl | cases h
  | .bl a,b,h=>by
    cases b with
    | bl b=>unfold eqMV at h;rw [beq_iff_eq.mp h]
    | _=>cases h
  | .int a,b,h=>by
    cases b with
    | int b=>unfold eqMV at h;rw [of_decide_eq_true h]
    | _=>cases h
  | .str a,b,h=>by
    cases b with
    | str b=>unfold eqMV at h;rw [of_decide_eq_true h]
    | _=>cases h
  | .tup xs,b,h=>by
    cases b with
    | tup ys=>unfold eqMV at h;rw [eqMVs_ok xs ys h]
    | _=>cases h
  | .kd ks is,b,h=>by
    cases b with
    | kd ls js =>
      unfold eqMV at h
      rw [Bool.and_eq_true] at h
      rw [of_decide_eq_true h.1,of_decide_eq_true h.2]
    | _=>cases h
  | .kl xs,b,h=>by
    cases b with
    | kl ys=>unfold eqMV at h;rw [eqMVs_ok xs ys h]
    | _=>cases h
  | .lst _,b,h=>by cases b <;> cases h
  | .ref _,b,h=>by cases b <;> cases h
  | .ins _ _ _,b,h=>by cases b <;> cases h
  | .exn _ _ _,b,h=>by cases b <;> cases h
  | .dic _ _,b,h=>by cases b <;> cases h
  | .cls _,b,h=>by cases b <;> cases h
theorem eqMVs_ok:∀ (a b:List MV),eqMVs a b=true→a=b
  | [],[],_=>rfl
  | x :: xs,y :: ys,h=>by
    unfold eqMVs at h
    rw [Bool.and_eq_true] at h
    rw [eqMV_ok x y h.1,eqMVs_ok xs ys h.2]
  | [],_ :: _,h=>by cases h
  | _ :: _,[],h=>by cases h
end
def pGlob (x:Str) (v:MV):Prim where
  parts:=fun c e=>match e with
    | .Name y _=>if (decide (x=y)&&gbB c x&&c.cst.any fun p=>decide (p.1=x)&&eqMV p.2 v)=true then some [] else none
    | _=>none
  F:=fun _ m=>.ok (.v v) m
  ok:=fun ok nd h p=>by
    split at h <;> try contradiction
    split at h <;> cases h
    rename_i hb
    simp only [Bool.and_eq_true,decide_eq_true_eq,List.any_eq_true] at hb
    obtain ⟨⟨rfl,h2⟩,q,hq,rfl,h4⟩:=hb
    obtain ⟨q1,q2⟩:=q
    cases eqMV_ok _ _ h4
    obtain ⟨g1,g2,g3⟩:=ok.gl h2
    obtain ⟨u,w,e1,e2,e3⟩:=ok.cst _ _ hq
    exact (pe_glob g1 e1 e2 g2).weaken fun σ H Q q=>tE_con p e3 q

inductive O2 where
  | add | sub | mul | fdiv | mod | pow
def bopF:O2→OV→OV→Mem→R OV
  | .add=>addO | .sub=>subO | .mul=>mulO | .fdiv=>fdivO | .mod=>modO | .pow=>powO
def o2B:O2→Operator→Bool
  | .add,.Add=>true | .sub,.Sub=>true | .mul,.Mult=>true | .fdiv,.FloorDiv=>true | .mod,.Mod=>true | .pow,.Pow=>true
  | _,_=>false
theorem bop_ok {X:Cx} {op:O2} {o:Operator} (h:o2B op o=true):OpR X (binaryOp o) (t2 X.ki (bopF op)):=by
  cases op <;> cases o <;> try (cases h;done)
  · exact op_addO
  · exact op_subO
  · exact op_mulO
  · exact op_fdivO
  · exact op_modO
  · exact op_powO
def F2 (f:OV→OV→Mem→R OV):List OV→Mem→R OV
  | [x,y],m=>f x y m
  | _,_=>.stuck
def F1 (f:OV→Mem→R OV):List OV→Mem→R OV
  | [x],m=>f x m
  | _,_=>.stuck
def F1F (f:OV→Mem→R MO):List OV→Mem→R MO
  | [x],m=>f x m
  | _,_=>.stuck
theorem Parts.f2 {X:Cx} {W:WX} {a b:Expr} {fs:Sl→Mem→R (List OV)} {f:OV→OV→Mem→R OV} (p:Parts X W [a,b] fs):∃ fa fb,PE X a (tE X.ki W fa)∧PE X b (tE X.ki W fb)∧(fun s m=>(fs s m).bind (F2 f))=fun s m=>(fa s m).bind fun x m=>(fb s m).bind fun y m=>f x y m:=by
  obtain ⟨fa,fb,h1,h2,h3⟩:=p.p2
  exact ⟨fa,fb,h1,h2,h3 (F2 f)⟩
theorem Parts.f1 {X:Cx} {W:WX} {a:Expr} {fs:Sl→Mem→R (List OV)} {f:OV→Mem→R OV} (p:Parts X W [a] fs):∃ fa,PE X a (tE X.ki W fa)∧(fun s m=>(fs s m).bind (F1 f))=fun s m=>(fa s m).bind fun x m=>f x m:=by
  obtain ⟨fa,h1,h3⟩:=p.p1
  exact ⟨fa,h1,h3 (F1 f)⟩
theorem Parts.f1F {X:Cx} {W:WX} {a:Expr} {fs:Sl→Mem→R (List OV)} {f:OV→Mem→R MO} (p:Parts X W [a] fs):∃ fa,PE X a (tE X.ki W fa)∧(fun s m=>(fs s m).bind (F1F f))=fun s m=>(fa s m).bind fun x m=>f x m:=by
  obtain ⟨fa,h1,h3⟩:=p.p1
  exact ⟨fa,h1,h3 (F1F f)⟩
def pBin (op:O2):Prim where
  parts:=fun _ e=>match e with
    | .BinOp l o r _=>if o2B op o=true then some [l,r] else none
    | _=>none
  F:=F2 (bopF op)
  ok:=fun ok nd h p=>by
    split at h <;> try contradiction
    split at h <;> cases h
    obtain ⟨fa,fb,h1,h2,h3⟩:=p.f2 (f:=bopF op)
    rw [h3]
    exact (pe_op (bop_ok (by assumption)) h1 h2).weaken fun σ H Q q=>tE_bin q
def pNeg:Prim where
  parts:=fun _ e=>match e with
    | .UnaryOp .USub l _=>some [l]
    | _=>none
  F:=F1 negO
  ok:=fun ok nd h p=>by
    split at h <;> cases h
    obtain ⟨fa,h1,h3⟩:=p.f1 (f:=negO)
    rw [h3]
    exact (pe_un un_negO h1).weaken fun σ H Q q=>tE_un q

def cmpB:CmpOp→CmpOp→Bool
  | .Eq,.Eq=>true | .NotEq,.NotEq=>true | .Lt,.Lt=>true | .LtE,.LtE=>true | .Gt,.Gt=>true | .GtE,.GtE=>true | .Is,.Is=>true | .IsNot,.IsNot=>true | .In,.In=>true | .NotIn,.NotIn=>true
  | _,_=>false
theorem cmpB_ok {a b:CmpOp} (h:cmpB a b=true):a=b:=by cases a <;> cases b <;> first | rfl | cases h
theorem CtxOk.u66 {k:Nat} {W:WX} {c:Cfg} {X:Cx} (ok:CtxOk k W c X):X.A.units + 66 < cLine:=ok.un
def cEq:PrimC:={ op:=cmpB .Eq,F:=eqO,ok:=fun ok nd h=>by cases cmpB_ok h;exact op_eqO ok.u66 }
def cNe:PrimC:={ op:=cmpB .NotEq,F:=neO,ok:=fun ok nd h=>by cases cmpB_ok h;exact op_neO ok.u66 }
def cLt:PrimC:={ op:=cmpB .Lt,F:=ltO,ok:=fun ok nd h=>by cases cmpB_ok h;exact op_cmpI op_lt }
def cLe:PrimC:={ op:=cmpB .LtE,F:=leO,ok:=fun ok nd h=>by cases cmpB_ok h;exact op_cmpI op_le }
def cGt:PrimC:={ op:=cmpB .Gt,F:=gtO,ok:=fun ok nd h=>by cases cmpB_ok h;exact op_cmpI op_gt }
def cGe:PrimC:={ op:=cmpB .GtE,F:=geO,ok:=fun ok nd h=>by cases cmpB_ok h;exact op_cmpI op_ge }
def cIs:PrimC:={ op:=cmpB .Is,F:=isO,ok:=fun ok nd h=>by cases cmpB_ok h;exact op_isO }
def cIsnt:PrimC:={ op:=cmpB .IsNot,F:=isntO,ok:=fun ok nd h=>by cases cmpB_ok h;exact op_isntO }
def cIn:PrimC:={ op:=cmpB .In,F:=inO,ok:=fun ok nd h=>by cases cmpB_ok h;exact op_inO ok.u66 }
def cNotin:PrimC:={ op:=cmpB .NotIn,F:=notinO,ok:=fun ok nd h=>by cases cmpB_ok h;exact op_notinO ok.u66 }

def tupF (xs:List OV) (m:Mem):R OV:=match vals xs with
  | some ys=>if ys.length≤sizeLine then .ok (.v (.tup ys)) m else .stuck
  | none=>.stuck
def lstF (xs:List OV) (m:Mem):R MO:=match vals xs with
  | some ys=>if ys.length≤sizeLine then .ok (.lst ys) m else .stuck
  | none=>.stuck
def pTup:Prim where
  parts:=fun _ e=>match e with
    | .Tuple es _ _=>if es.all plainE=true then some es else none
    | _=>none
  F:=tupF
  ok:=fun ok nd h p=>by
    split at h <;> try contradiction
    split at h <;> cases h
    exact (pe_tup (p.pa (by assumption))).weaken fun σ H Q q=>tE_tup q
def fLst:PrimF where
  parts:=fun _ e=>match e with
    | .List es _=>if es.all plainE=true then some es else none
    | _=>none
  F:=lstF
  ok:=fun ok nd h p=>by
    split at h <;> try contradiction
    split at h <;> cases h
    exact (pe_lst (p.pa (by assumption))).weaken fun σ H Q q=>tF_lst q

def fLstS:PrimFA where
  parts:=fun _ e=>match e with
    | .List es _=>some es
    | _=>none
  F:=lstF
  ok:=fun ok nd h p=>by
    split at h <;> cases h
    exact (pe_lst p).weaken fun σ H Q q=>tF_lst q

def ixF (a i:OV) (m:Mem):R OV:=match dicO m a with
  | some (ks,xs)=>(match keyM (derf m i) with
    | some _=>(match dLook ks xs (derf m i) with
      | some x=>.ok (.v x) m
      | none=>.stuck)
    | none=>.stuck)
  | none=>match i with
    | .v (.int k)=>(match contO m a with
      | some (.l xs)=>(match atI xs k with
        | some x=>.ok (.v x) m
        | none=>.stuck)
      | some (.t xs)=>(match atI xs k with
        | some x=>.ok (.v x) m
        | none=>.stuck)
      | some (.s z)=>if z.length≤sizeLine then (match atI z.cps.toList k with
        | some c=>.ok (.v (.str ⟨#[c]⟩)) m
        | none=>.stuck) else .stuck
      | none=>.stuck)
    | _=>.stuck
section
variable {X:Cx}
theorem atI_ok {K:Ki} {g:G} {xs:List MV} {vs:List V} {i:Int} {x:MV} (r:RVs K g xs vs) (e:atI xs i=some x):∃ v,atI vs i=some v∧RV K g x v:=by
  unfold atI at e ⊢
  rw [← r.length]
  cases q:ixN xs.length i with
  | none=>rw [q] at e;cases e
  | some j =>
    rw [q] at e
    exact r.get (show xs[j]? = some x from e)
def ixS (a i:OV) (m:Mem):R OV:=match i with
    | .v (.int k)=>(match contO m a with
      | some (.l xs)=>(match atI xs k with
        | some x=>.ok (.v x) m
        | none=>.stuck)
      | some (.t xs)=>(match atI xs k with
        | some x=>.ok (.v x) m
        | none=>.stuck)
      | some (.s z)=>if z.length≤sizeLine then (match atI z.cps.toList k with
        | some c=>.ok (.v (.str ⟨#[c]⟩)) m
        | none=>.stuck) else .stuck
      | none=>.stuck)
    | _=>.stuck
theorem ix_all:IxR X (t2 X.ki ixS):=by
  have w:∀ x y H Q,t2 X.ki ixS x y H Q→rIx X.K x y H Q:=by
    rintro x y H Q ⟨E,g,m,a,b,rs,ra,rb,p⟩
    unfold ixS at p
    split at p
    · rename_i k
      cases rb
      split at p
      · rename_i xs e
        obtain ⟨c,ys,rfl,q,r⟩:=contO_ok rs ra e
        split at p
        · rename_i z e2
          obtain ⟨u,e3,r3⟩:=atI_ok r e2
          exact .inl ⟨c,ys,k,u,rfl,rfl,q,e3,post_val rs p r3⟩
        · exact p.elim
      · rename_i xs e
        obtain ⟨c,ys,rfl,q,r⟩:=contO_ok rs ra e
        split at p
        · rename_i z e2
          obtain ⟨u,e3,r3⟩:=atI_ok r e2
          exact .inr (.inl ⟨c,ys,k,u,rfl,rfl,q,e3,post_val rs p r3⟩)
        · exact p.elim
      · rename_i z e
        obtain rfl:=contO_ok rs ra e
        split at p
        · split at p
          · exact .inr (.inr ⟨z,k,_,rfl,rfl,by assumption,by assumption,post_val rs p rfl⟩)
          · exact p.elim
        · exact p.elim
      · exact p.elim
    · exact p.elim
  intro value slice pins s σ H x y v u Q I rx ry h hs
  exact ix_seq value slice pins s σ H x y v u Q I rx ry (w _ _ _ _ h) hs
def rIxD:R2:=fun x y H Q=>∃ a v,x=.ref a∧DGet H a y (some v)∧Q v H
theorem ix_dict (hu:X.A.units + 66 < cLine):IxR X rIxD:=by
  rintro value slice pins s σ H x y v u Q I rx ry ⟨a,z,rfl,g,q⟩ hs
  cases rx
  have hT:=dict_typeIs I g
  unfold subscriptTail
  refine wpAny_bind ?_
  rw [getitemInPython_of_ne hT.not_modules]
  refine wpAny_bind (wpAny_specialOf hT PySem.F.slot_dict_getitem.lookup ?_)
  have fin:wpAny (model X.prog X.w) X.A (subscripted slice false (.ref a) u) (fun r s₃=>wpAny (model X.prog X.w) X.A (letTemporaryGo value (.ref a) r >>= fun _=>pure r) (EP X pins σ Q) X.xe s₃) X.xe s:=by
    rw [hs]
    exact wpAny_operating (d_getItem (by omega) I g ry fun w' s3 I3 rw'=>wpAny_bind (wpAny_letTemporaryGo (wpAny_pure ⟨z,H,I3,rw',q⟩)))
  first
    | exact wpAny_pure (wpAny_bind fin)
    | exact wpAny_bind (wpAny_pure (wpAny_bind fin))
    | exact wpAny_bind fin
theorem ix_ok (hu:X.A.units + 66 < cLine):IxR X (t2 X.ki ixF):=by
  have w:∀ x y H Q,t2 X.ki ixF x y H Q→rIxD x y H Q∨t2 X.ki ixS x y H Q:=by
    rintro x y H Q ⟨E,g,m,a,b,rs,ra,rb,p⟩
    unfold ixF at p
    split at p
    · rename_i ks xs hd
      split at p
      · rename_i k hk
        obtain ⟨d,kv,rfl,h1,rfl,h2,h3⟩:=dget_ok rs rb ra hd hk
        split at p
        · rename_i z e
          obtain ⟨v,e1,e2⟩:=h2 z e
          exact .inl ⟨d,v,rfl,by rw [← e1];exact DGet.k h1,post_val rs p e2⟩
        · exact p.elim
      · exact p.elim
    · exact .inr ⟨E,g,m,a,b,rs,ra,rb,p⟩
  exact fun value slice pins s σ H x y v u Q I rx ry h hs=>((ix_dict hu).or ix_all) value slice pins s σ H x y v u Q I rx ry (w _ _ _ _ h) hs
end
def pIx:Prim where
  parts:=fun _ e=>match e with
    | .Subscript x y _=>if plainIx y=true then some [x,y] else none
    | _=>none
  F:=F2 ixF
  ok:=fun ok nd h p=>by
    split at h <;> try contradiction
    split at h <;> cases h
    obtain ⟨fa,fb,h1,h2,h3⟩:=p.f2 (f:=ixF)
    rw [h3]
    exact (pe_ix (ix_ok ok.u66) h1 h2 (plainIxP (by assumption))).weaken fun σ H Q q=>tE_bin q
end Rc

namespace Rc
open PySem PySem.Spec L2
open PyProof.Rows hiding St

def pSlL:Prim where
  parts:=fun _ e=>match e with
    | .Subscript x (.Slice (some l) none none _) _=>some [x,l]
    | _=>none
  F:=F2 (slA true)
  ok:=fun ok nd h p=>by
    split at h <;> cases h
    obtain ⟨fa,fb,h1,h2,h3⟩:=p.f2 (f:=slA true)
    rw [h3]
    exact (pe_slice sl_all h1 (po_some h2) po_none).weaken fun σ H Q q=>tE_sl10 q
def pSlH:Prim where
  parts:=fun _ e=>match e with
    | .Subscript x (.Slice none (some l) none _) _=>some [x,l]
    | _=>none
  F:=F2 (slA false)
  ok:=fun ok nd h p=>by
    split at h <;> cases h
    obtain ⟨fa,fb,h1,h2,h3⟩:=p.f2 (f:=slA false)
    rw [h3]
    exact (pe_slice sl_all h1 po_none (po_some h2)).weaken fun σ H Q q=>tE_sl01 q

def call1 (nm:Str) (c:Cfg):Expr→Option (List Expr)
  | .Call (.Name x _) [a] [] _=>if (decide (x=nm)&&btB c x&&plainE a)=true then some [a] else none
  | _=>none
theorem call1_ok {nm:Str} {c:Cfg} {e:Expr} {es:List Expr} (h:call1 nm c e=some es):∃ p a pos,e=.Call (.Name nm p) [a] [] pos∧btB c nm=true∧plainE a=true∧es=[a]:=by
  unfold call1 at h
  split at h <;> try contradiction
  split at h <;> cases h
  rename_i hb
  simp only [Bool.and_eq_true,decide_eq_true_eq] at hb
  obtain ⟨⟨rfl,h2⟩,h3⟩:=hb
  exact ⟨_,_,_,rfl,h2,h3,rfl⟩
def tB1 (K:Ki) (f:OV→Mem→R OV):List V→Hp→VK→Prop:=fun vs H Q=>∃ v,vs=[v]∧t1 K f v H Q
def tB1F (K:Ki) (f:OV→Mem→R MO):List V→Hp→VK→Prop:=fun vs H Q=>∃ v,vs=[v]∧∃ E g m a,Rs K g m H∧RO K g H a v∧PostF K E g H (f a m) Q
theorem _root_.L2.CallR.weaken {X:Cx} {f:Value} {r r':List V→Hp→VK→Prop} (h:CallR X f r) (w:∀ x H Q,r' x H Q→r x H Q):CallR X f r':=fun pins s σ H xs us Q I rx q=>h pins s σ H xs us Q I rx (w xs H Q q)
theorem tF_N1 {K:Ki} {W:WX} {σ:St} {H:Hp} {Q:VK} {fa:Sl→Mem→R OV} {f1:OV→Mem→R MO} (h:tF K W (fun s m=>(fa s m).bind fun x m=>f1 x m) σ H Q):tCB (tB1F K f1) (tCons (tE K W fa) tNil) σ H Q:=by
  obtain ⟨g,s,m,rs,rl,p⟩:=h
  exact ⟨g,s,m,rs,rl,(PostF.bind p).imp fun v H1 ⟨x,g1,m1,rs1,st1,r1,p1⟩=>⟨v,rfl,_,g1,m1,x,rs1,r1,p1⟩⟩
section
variable {k:Nat} {W:WX} {c:Cfg} {X:Cx} {e:Expr} {es:List Expr} {fs:Sl→Mem→R (List OV)}
theorem c1B {nm:Str} {id:String} {f:OV→Mem→R OV} (ok:CtxOk k W c X) (h:call1 nm c e=some es) (p:Parts X W es fs) (hc:CallR X (.builtin id) (tB1 X.ki f)) (hv:bootBuiltins nm=some (.builtin id)):PE X e (tE X.ki W fun s m=>(fs s m).bind (F1 f)):=by
  obtain ⟨q,a,pos,rfl,h2,h3,rfl⟩:=call1_ok h
  obtain ⟨g1,g2,g3,g4⟩:=ok.bt h2
  obtain ⟨fa,e1,e3⟩:=p.f1 (f:=f)
  rw [e3]
  exact (pe_callB hc g1 g2 hv (pa_cons e1 pa_nil (starP h3)) g4 g3 (starP h3) rfl).weaken fun σ H Q h=>tE_tN1 h
theorem c1T {nm:Str} {id:String} {f:OV→Mem→R OV} (ok:CtxOk k W c X) (h:call1 nm c e=some es) (p:Parts X W es fs) (hc:CallR X (.type id) (tB1 X.ki f)) (hv:bootBuiltins nm=some (.type id)):PE X e (tE X.ki W fun s m=>(fs s m).bind (F1 f)):=by
  obtain ⟨q,a,pos,rfl,h2,h3,rfl⟩:=call1_ok h
  obtain ⟨g1,g2,g3,g4⟩:=ok.bt h2
  obtain ⟨fa,e1,e3⟩:=p.f1 (f:=f)
  rw [e3]
  exact (pe_callTy hc g1 g2 hv (pa_cons e1 pa_nil (starP h3)) g4 g3 (starP h3) rfl).weaken fun σ H Q h=>tE_tN1 h
theorem c1TF {nm:Str} {id:String} {f:OV→Mem→R MO} (ok:CtxOk k W c X) (h:call1 nm c e=some es) (p:Parts X W es fs) (hc:CallR X (.type id) (tB1F X.ki f)) (hv:bootBuiltins nm=some (.type id)):PE X e (tF X.ki W fun s m=>(fs s m).bind (F1F f)):=by
  obtain ⟨q,a,pos,rfl,h2,h3,rfl⟩:=call1_ok h
  obtain ⟨g1,g2,g3,g4⟩:=ok.bt h2
  obtain ⟨fa,e1,e3⟩:=p.f1F (f:=f)
  rw [e3]
  exact (pe_callTy hc g1 g2 hv (pa_cons e1 pa_nil (starP h3)) g4 g3 (starP h3) rfl).weaken fun σ H Q h=>tF_N1 h
end
def lenO (x:OV) (m:Mem):R OV:=match dicO m x with
  | some (ks,_)=>.ok (.v (.int ks.length)) m
  | none=>match contO m x with
    | some (.l xs)=>.ok (.v (.int xs.length)) m
    | some (.t xs)=>.ok (.v (.int xs.length)) m
    | some (.s z)=>if z.length≤sizeLine then .ok (.v (.int z.length)) m else .stuck
    | none=>.stuck
def intF (x:OV) (m:Mem):R OV:=match x with
  | .v (.int i)=>.ok (.v (.int i)) m
  | .v (.bl k)=>.ok (.v (.int (if k then 1 else 0))) m
  | _=>.stuck
def absF (x:OV) (m:Mem):R OV:=match x with
  | .v (.int i)=>.ok (.v (.int (if i < 0 then -i else i))) m
  | _=>.stuck
def blsM:List MV→Option (List Bool)
  | []=>some []
  | .bl b :: r=>(blsM r).map (b :: ·)
  | _ :: _=>none
def strsOf:List MV→Option (List Str)
  | []=>some []
  | .str b :: r=>(strsOf r).map (b :: ·)
  | _ :: _=>none
def allF (x:OV) (m:Mem):R OV:=match contO m x with
  | some (.l xs)=>(match blsM xs with
    | some bs=>.ok (.v (.bl (bs.all id))) m
    | none=>.stuck)
  | _=>.stuck
def tupleF (x:OV) (m:Mem):R OV:=match contO m x with
  | some (.l xs)=>.ok (.v (.tup xs)) m
  | some (.t xs)=>.ok (.v (.tup xs)) m
  | _=>.stuck
def toListF (x:OV) (m:Mem):R MO:=match contO m x with
  | some (.l xs)=>.ok (.lst xs) m
  | some (.t xs)=>.ok (.lst xs) m
  | _=>.stuck
section
variable {X:Cx}
theorem RVs.len_map {K:Ki} {g:G} {α:Type} {f:α→V} {ks:List MV} {kv:List α} (r:RVs K g ks (kv.map f)):ks.length=kv.length:=by
  have:=r.length
  simpa using this
theorem cb_len:CallR X (.builtin "len") (tB1 X.ki lenO):=by
  refine ((call_len_seq.or call_len_str).or call_lenD).weaken ?_
  rintro xs H Q ⟨v,rfl,E,g,m,a,rs,ra,p⟩
  unfold lenO at p
  split at p
  · rename_i ks xs hd
    obtain ⟨b,u,kvs,rfl,h1,⟨kv,rfl,rfl⟩,h3,h4⟩:=dicO_ok rs ra hd
    rw [List.map_map] at h3
    refine .inr ⟨b,kv,rfl,h1,?_⟩
    have e:=h3.len_map
    rw [← e]
    exact post_val rs p rfl
  · split at p
    · rename_i ys e
      obtain ⟨b,zs,rfl,q,r⟩:=contO_ok rs ra e
      exact .inl (.inl ⟨b,zs,rfl,.inl q,by rw [← r.length];exact post_val rs p rfl⟩)
    · rename_i ys e
      obtain ⟨b,zs,rfl,q,r⟩:=contO_ok rs ra e
      exact .inl (.inl ⟨b,zs,rfl,.inr q,by rw [← r.length];exact post_val rs p rfl⟩)
    · rename_i z e
      obtain rfl:=contO_ok rs ra e
      split at p
      · exact .inl (.inr ⟨z,rfl,by assumption,post_val rs p rfl⟩)
      · exact p.elim
    · exact p.elim
theorem cb_int:CallR X (.type "int") (tB1 X.ki intF):=by
  refine call_int1.weaken ?_
  rintro xs H Q ⟨v,rfl,E,g,m,a,rs,ra,p⟩
  unfold intF at p
  split at p
  · cases ra;exact .inl ⟨_,rfl,post_val rs p rfl⟩
  · cases ra;exact .inr ⟨_,rfl,post_val rs p rfl⟩
  · exact p.elim
theorem cb_abs:CallR X (.builtin "abs") (tB1 X.ki absF):=by
  refine call_abs.weaken ?_
  rintro xs H Q ⟨v,rfl,E,g,m,a,rs,ra,p⟩
  unfold absF at p
  split at p
  · cases ra;exact ⟨_,rfl,post_val rs p rfl⟩
  · exact p.elim
theorem blsM_ok {K:Ki} {g:G}:∀ {xs:List MV} {bs:List Bool} {vs:List V},blsM xs=some bs→RVs K g xs vs→vs=bs.map V.bl
  | [],_,_,e,r=>by cases e;exact r
  | x :: xs,_,_,e,⟨v,r,e1,h,t⟩=>by
    cases x <;> try (cases e;done)
    rename_i b
    obtain ⟨zs,e2,rfl⟩:=Option.map_eq_some_iff.mp (show (blsM xs).map (b :: ·)=some _ from e)
    subst e1
    cases h
    rw [blsM_ok e2 t];rfl
theorem strsOf_ok {K:Ki} {g:G}:∀ {xs:List MV} {bs:List Str} {vs:List V},strsOf xs=some bs→RVs K g xs vs→vs=bs.map V.str
  | [],_,_,e,r=>by cases e;exact r
  | x :: xs,_,_,e,⟨v,r,e1,h,t⟩=>by
    cases x <;> try (cases e;done)
    rename_i b
    obtain ⟨zs,e2,rfl⟩:=Option.map_eq_some_iff.mp (show (strsOf xs).map (b :: ·)=some _ from e)
    subst e1
    cases h
    rw [strsOf_ok e2 t];rfl
theorem cb_all (hc:X.calm=true):CallR X (.builtin "all") (tB1 X.ki allF):=by
  refine (cr_all hc).weaken ?_
  rintro xs H Q ⟨v,rfl,E,g,m,a,rs,ra,p⟩
  unfold allF at p
  split at p
  · rename_i ys e
    obtain ⟨b,zs,rfl,q,r⟩:=contO_ok rs ra e
    split at p
    · rename_i bs e2
      rw [blsM_ok e2 r] at q
      exact ⟨b,bs,rfl,q,post_val rs p rfl⟩
    · exact p.elim
  · exact p.elim
theorem cb_tuple:CallR X (.type "tuple") (tB1 X.ki tupleF):=by
  refine (call_tuple_of.or call_tupleT).weaken ?_
  rintro xs H Q ⟨v,rfl,E,g,m,a,rs,ra,p⟩
  unfold tupleF at p
  split at p
  · rename_i ys e
    obtain ⟨b,zs,rfl,q,r⟩:=contO_ok rs ra e
    exact .inl ⟨b,zs,rfl,.inl ⟨q,post_tup rs p r⟩⟩
  · rename_i ys e
    obtain ⟨x,rfl⟩:∃ x,a=.v (.tup x):=by
      cases a with
      | b o=>cases o <;> cases e
      | v z =>
        cases z <;> try (cases e;done)
        · exact ⟨_,rfl⟩
        · obtain ⟨_,_,e3⟩:=Option.map_eq_some_iff.mp (show (memL m _).map Sq.l=some _ from e)
          cases e3
    cases e
    obtain ⟨b,zs,rfl,q,r⟩:=ra
    exact .inr ⟨b,zs,rfl,SqT.monoF rs.sub q,post_old rs p r q⟩
  · exact p.elim
theorem cb_list:CallR X (.type "list") (tB1F X.ki toListF):=by
  refine call_list_of.weaken ?_
  rintro xs H Q ⟨v,rfl,E,g,m,a,rs,ra,p⟩
  unfold toListF at p
  split at p
  · rename_i ys e
    obtain ⟨b,zs,rfl,q,r⟩:=contO_ok rs ra e
    exact ⟨b,zs,rfl,.inl q,newF rs r p⟩
  · rename_i ys e
    obtain ⟨b,zs,rfl,q,r⟩:=contO_ok rs ra e
    exact ⟨b,zs,rfl,.inr q,newF rs r p⟩
  · exact p.elim
end
def pLen:Prim:={ parts:=call1 "len",F:=F1 lenO,ok:=fun ok nd h p=>c1B ok h p cb_len boot_len }
def pInt_:Prim:={ parts:=call1 "int",F:=F1 intF,ok:=fun ok nd h p=>c1T ok h p cb_int boot_int }
def pAbs:Prim:={ parts:=call1 "abs",F:=F1 absF,ok:=fun ok nd h p=>c1B ok h p cb_abs boot_abs }
def pAll:Prim where
  parts:=fun c e=>if c.calm=true then call1 "all" c e else none
  F:=F1 allF
  ok:=fun ok nd h p=>by
    split at h <;> try contradiction
    exact c1B ok h p (cb_all (ok.calm (by assumption))) boot_all
def pTuple:Prim:={ parts:=call1 "tuple",F:=F1 tupleF,ok:=fun ok nd h p=>c1T ok h p cb_tuple boot_tuple }
def fList:PrimF:={ parts:=call1 "list",F:=F1F toListF,ok:=fun ok nd h p=>c1TF ok h p cb_list boot_list }

def callParts (F:Fn) (c:Cfg):Expr→Option (List Expr)
  | .Call (.Name x _) es [] _=>if (decide (x=F.name)&&decide (es.length=F.ps.length)&&gbB c x&&es.all plainE)=true then some es else none
  | _=>none
section
variable {k:Nat} {W:WX} {c:Cfg} {X:Cx} {e:Expr} {es:List Expr} {fs:Sl→Mem→R (List OV)} {F:Fn}
theorem run_W {pins:List (Addr × Obj)} {σ:St} {H:Hp} {s:Shared} {Q:VK} {us:List Value} {vs:List V} {f:Addr} {fd:FuncData} (fa:FnAt X.prog X.w X.K X.mg X.base k f fd F) (hr:Room k X.A) (tk:L2N.Takes X W)
    (I:Inv X pins σ H s) (r:Vals vs us) (h:spM X.ki F.ps.length F.M vs H Q (WE W σ)):wpAny (model X.prog X.w) X.A (call (.ref f) us) (EP X pins σ Q) X.xe s :=
  run_fnSD (dvs:=[]) (ds:=[]) (E:=fun σ=>WE W σ) fa.ok hr fa.bi .nil (L2N.passAt tk σ) I r (by rw [List.append_nil];exact h)
theorem pe_callM {x:Str} {p pos:Pos} (ok:CtxOk k W c X) {f:Addr} {fd:FuncData} (hm:X.mg x=some (.ref f)) (fa:FnAt X.prog X.w X.K X.mg X.base k f fd F) (hl:es.length=F.ps.length) (hb:gbB c x=true) (hp:es.all plainE=true) (q:Parts X W es fs) :
    PE X (.Call (.Name x p) es [] pos) (tCl X.ki W F.M F.ps.length (tA X.ki W fs)):=by
  obtain ⟨g1,g2,g3⟩:=ok.gl hb
  refine ⟨fun pins s σ H Q I h=>?_⟩
  refine wpAny_Call_Name_kw (ld_glob I g1 hm ?_ g2)
  cases es with
  | nil =>
    have e:=q.p0
    rw [e] at h
    obtain ⟨g,s',m,rs,rl,p⟩:=h
    have hsp:=p g [] H rs (Stp.refl _ _) .nil
    exact PySem.W.callWith_K0 I.kIn fa.kp (run_W (us:=[]) fa (ok.room fa.pos) ok.tk I .nil hsp.2)
  | cons a as =>
    rw [List.all_cons,Bool.and_eq_true] at hp
    refine PySem.W.callWith_K (h₀:=X.base) I.ok.mod.kin fa.kp (thn ((q.pa (by rw [List.all_cons,Bool.and_eq_true];exact hp)).run pos pins s σ H _ I h) fun us s1 ⟨vs,H1,I1,r,q⟩=>⟨I1.kIn,?_⟩) (starP hp.1) (noStar hp.2)
    exact run_W fa (ok.room fa.pos) ok.tk I1 r q.2
theorem callParts_ok (h:callParts F c e=some es):∃ p pos,e=.Call (.Name F.name p) es [] pos∧es.length=F.ps.length∧gbB c F.name=true∧es.all plainE=true:=by
  unfold callParts at h
  split at h <;> try contradiction
  split at h <;> cases h
  rename_i hb
  simp only [Bool.and_eq_true,decide_eq_true_eq] at hb
  obtain ⟨⟨⟨rfl,h2⟩,h3⟩,h4⟩:=hb
  exact ⟨_,_,rfl,h2,h3,h4⟩
end
def pCall (F:Fn):Prim where
  need:=[nFn F]
  parts:=callParts F
  F:=callV F.M
  ok:=fun ok nd h p=>by
    obtain ⟨q,pos,rfl,h2,h3,h4⟩:=callParts_ok h
    obtain ⟨f,fd,hm,fa⟩:=nd _ (List.mem_singleton.mpr rfl)
    exact (pe_callM ok hm fa h2 h3 h4 p).weaken fun σ H Q q=>tE_call (fun s m xs m' e=>(p.len s m xs m' e).trans h2) q
def pCallN (F:Fn):Prim where
  need:=[nFn F]
  parts:=callParts F
  F:=callN F.M
  ok:=fun ok nd h p=>by
    obtain ⟨q,pos,rfl,h2,h3,h4⟩:=callParts_ok h
    obtain ⟨f,fd,hm,fa⟩:=nd _ (List.mem_singleton.mpr rfl)
    exact (pe_callM ok hm fa h2 h3 h4 p).weaken fun σ H Q q=>tE_callN (fun s m xs m' e=>(p.len s m xs m' e).trans h2) q
end Rc

namespace Rc
open PySem PySem.Spec L2
open PyProof.Rows hiding St

inductive Ty where
  | b (s:String)
  | own (c:Str)
  deriving DecidableEq
def Ty.v (K:Ki):Ty→V
  | .b s=>.ty s
  | .own c=>.ref (K.ga c)
def Ty.u (K:Ki):Ty→Value
  | .b s=>.type s
  | .own c=>.ref (K.ga c)
theorem Ty.cls (K:Ki) (t:Ty):ClsV (t.v K) (t.u K):=by
  cases t with
  | b s=>exact .ty s
  | own c=>exact .own _
theorem Ty.rel (K:Ki) (t:Ty):RelV (t.v K) (t.u K):=by
  cases t with
  | b s=>exact rfl
  | own c=>exact rfl
structure ClsI (K:PySem.W.Frag) (C:Addr):Prop where
  cl:Cls K C
  ha:PySem.W.findIn K (.ref C) "__class__" = some (some (.builtin "object.__class__"))
  hn:PySem.W.specialIn K (.builtin "object.__class__") "__get__" = some (some (.builtin "getset_descriptor.__get__"))
  htk:PySem.W.takesIn K (.builtin "object.__class__")=some true
  hm:PySem.W.mroIn K C (.type "object")=some true
def nIns (c:Str):Need:=fun _ _ K _ _ _=>ClsI K (He.ga K c)
def nKit (s t:Ty) (b:Bool):Need:=fun P w K _ _ _=>PySem.W.kitOne K (s.u ⟨K,P,w⟩) (t.u ⟨K,P,w⟩)=some b
def nGl (c:Str):Need:=fun _ _ K mg _ _=>mg c=some (.ref (He.ga K c))
def insO (m:Mem):OV→Option (Str × List Str × List MV)
  | .v (.ins c ks xs)=>some (c,ks,xs)
  | .b (.ins c ks xs)=>some (c,ks,xs)
  | .v (.ref n)=>(match m[n]? with
    | some (some (.ins c ks xs))=>some (c,ks,xs)
    | _=>none)
  | _=>none
theorem insO_ok {K:Ki} {g:G} {H:Hp} {m:Mem} {x:OV} {v:V} {c:Str} {ks:List Str} {xs:List MV} (rs:Rs K g m H) (r:RO K g H x v) (e:insO m x=some (c,ks,xs)) :
    ∃ a dx fs,v=.ref a∧H a=some (.ins (K.ga c) dx fs)∧g.F dx=some (.own a)∧fs.map (·.1)=ks∧RVs K g xs (fs.map (·.2)):=by
  cases x with
  | b o =>
    cases o with
    | ins c ks xs =>
      cases e
      obtain ⟨a,rfl,⟨dx,fs,h1,h2,h3,h4⟩,_⟩:=r
      exact ⟨a,dx,fs,rfl,h1,h2,h3,h4⟩
    | _=>cases e
  | v x =>
    cases x with
    | ins c ks xs =>
      cases e
      obtain ⟨a,dx,fs,rfl,h1,h2,h3,h4⟩:=r
      exact ⟨a,dx,fs,rfl,rs.sub _ _ h1,h2,h3,h4⟩
    | ref n =>
      obtain ⟨a,rfl,hn⟩:=r
      unfold insO at e
      dsimp only at e
      split at e
      · rename_i e2
        cases e
        obtain ⟨b,q1,_,dx,fs,h1,h2,h3,h4⟩:=rs.gr n _ e2
        rw [hn] at q1;cases q1
        exact ⟨a,dx,fs,rfl,h1,h2,h3,h4⟩
      · cases e
    | _=>cases e
def tyO (m:Mem) (x:OV):Option Ty:=match insO m x with
  | some (c,_)=>some (.own c)
  | none=>(match dicO m x with
    | some _=>some (.b "dict")
    | none=>(match x with
      | .v .non=>some (.b "NoneType")
      | .v (.bl _)=>some (.b "bool")
      | .v (.int _)=>some (.b "int")
      | .v (.str _)=>some (.b "str")
      | .v (.tup _)=>some (.b "tuple")
      | .v (.lst _)=>some (.b "list")
      | .b (.lst _)=>some (.b "list")
      | .v (.ref n)=>(memL m n).map fun _=>.b "list"
      | _=>none))
def dynT:List String:=["NoneType","bool","int","str","tuple","list","dict"]
def askT:List String:=["int","str","bool","list","tuple","dict"]
def isiT (a b:String):Bool:=a == b || (a == "bool"&&b == "int")
theorem kitTab:∀ a∈dynT,∀ b∈askT,kitB a b=some (isiT a b):=by decide +kernel
def ansT (ts:List Ty) (own:List (Str × List Bool)):Ty→Option (List Bool)
  | .b s=>some (ts.map fun t=>match t with
    | .b u=>isiT s u
    | .own _=>false)
  | .own c=>own.lookup c
def isiF (ts:List Ty) (own:List (Str × List Bool)) (x:OV) (m:Mem):R OV:=match tyO m x with
  | some t=>(match ansT ts own t with
    | some bs=>.ok (.v (.bl (bs.any id))) m
    | none=>.stuck)
  | none=>.stuck
def isiNeed (ts:List Ty) (own:List (Str × List Bool)):List Need :=
  (ts.flatMap fun t=>match t with
    | .own c=>nGl c :: dynT.map fun s=>nKit (.b s) (.own c) false
    | .b _=>[])++own.flatMap fun p=>nIns p.1 :: List.zipWith (fun t b=>nKit (.own p.1) t b) ts p.2
theorem tyO_dyn {m:Mem} {x:OV} {s:String} (e:tyO m x=some (.b s)):s∈dynT:=by
  unfold tyO at e
  split at e
  · cases e
  · split at e
    · cases e;decide
    · split at e <;> first | (cases e;done) | (cases e;decide) | skip
      obtain ⟨_,_,e3⟩:=Option.map_eq_some_iff.mp e
      cases e3;decide
theorem tyO_ok {K:Ki} {g:G} {H:Hp} {m:Mem} {x:OV} {v:V} {t:Ty} (rs:Rs K g m H) (r:RO K g H x v) (e:tyO m x=some t) (hI:∀ c,t=.own c→ClsI K.K (K.ga c)):TyX K H v (t.u K):=by
  unfold tyO at e
  split at e
  · rename_i c p hi
    cases e
    obtain ⟨ks,xs⟩:=p
    obtain ⟨a,dx,fs,rfl,h1,_⟩:=insO_ok rs r hi
    have q:=hI _ rfl
    exact .base (.ins h1 q.cl q.ha q.hn q.htk q.hm)
  · split at e
    · rename_i p hd
      cases e
      obtain ⟨ks,xs⟩:=p
      obtain ⟨a,u,kvs,rfl,h1,⟨kv,rfl,_⟩,_⟩:=dicO_ok rs r hd
      exact .base (.dK h1)
    · split at e
      · cases e;cases r;exact .base .non
      · cases e;cases r;exact .base (.bl _)
      · cases e;cases r;exact .base (.int _)
      · cases e;cases r;exact .base (.str _)
      · cases e
        obtain ⟨a,ys,rfl,q,_⟩:=r
        rcases q with (q | ⟨o,q⟩) | ⟨o,its,n,q,c,_⟩
        · exact .base (.tup (rs.sub _ _ q))
        · exact .fTuple (rs.sub _ _ q)
        · exact .kTuple q c
      · cases e
        obtain ⟨a,ys,rfl,q,_⟩:=r
        exact .base (.lst (rs.sub _ _ q))
      · cases e
        obtain ⟨a,rfl,⟨ys,q,_⟩,_⟩:=r
        exact .base (.lst q)
      · rename_i n
        obtain ⟨xs,hx,e3⟩:=Option.map_eq_some_iff.mp e
        cases e3
        obtain ⟨a,rfl,hn⟩:=r
        obtain ⟨ys,h1,_⟩:=memL_ok rs hn hx
        exact .base (.lst h1)
      · cases e
theorem kitAll {K:PySem.W.Frag} {t:Value}:∀ {us:List Value} {bs:List Bool},us.length=bs.length→(∀ (i:Nat) u b,us[i]? = some u→bs[i]? = some b→PySem.W.kitOne K t u=some b)→PySem.W.kitAny K t us=some (bs.any id)
  | [],[],_,_=>rfl
  | u :: us,b :: bs,hl,h=>by
    have h1:=h 0 u b rfl rfl
    refine kitAny_cons h1 (fun hb=>?_) fun hb=>by subst hb;rfl
    subst hb
    show PySem.W.kitAny K t us=some (bs.any id)
    exact kitAll (by simpa using hl) fun i u b e1 e2=>h (i + 1) u b (by simpa using e1) (by simpa using e2)
  | [],_ :: _,hl,_=>by cases hl
  | _ :: _,[],hl,_=>by cases hl
def tyB1 (c:Cfg):Ty→Expr→Bool
  | .b s,.Name x _=>decide (x=Str.ofString s)&&btB c x&&decide (s∈askT)
  | .own d,.Name x _=>decide (x=d)&&gbB c x
  | _,_=>false
def tyBs (c:Cfg):List Ty→List Expr→Bool
  | [],[]=>true
  | t :: ts,e :: es=>tyB1 c t e&&tyBs c ts es
  | _,_=>false
theorem bootAsk {s:String} (h:s∈askT):bootBuiltins (Str.ofString s)=some (.type s):=by
  unfold askT at h
  simp only [List.mem_cons,List.not_mem_nil,or_false] at h
  rcases h with rfl | rfl | rfl | rfl | rfl | rfl
  · exact boot_int
  · exact boot_str
  · exact boot_bool
  · exact boot_list
  · exact boot_tuple
  · exact boot_dict
section
variable {k:Nat} {W:WX} {c:Cfg} {X:Cx}
theorem pe_ty (ok:CtxOk k W c X) {ts:List Ty} {own:List (Str × List Bool)} (nd:∀ n∈isiNeed ts own,n.at X k) {t:Ty} (ht:t∈ts) {e:Expr} (h:tyB1 c t e=true):PE X e (tC (t.v X.ki))∧∃ x p,e=.Name x p:=by
  cases t with
  | b s =>
    cases e with
    | Name x p =>
      have h:(decide (x=Str.ofString s)&&btB c x&&decide (s∈askT))=true:=h
      simp only [Bool.and_eq_true,decide_eq_true_eq] at h
      obtain ⟨⟨rfl,h2⟩,h3⟩:=h
      obtain ⟨g1,g2,g3,g4⟩:=ok.bt h2
      exact ⟨pe_bltn (v:=.ty s) g1 g2 (bootAsk h3) rfl g4 g3,_,_,rfl⟩
    | _=>cases h
  | own d =>
    cases e with
    | Name x p =>
      have h:(decide (x=d)&&gbB c x)=true:=h
      simp only [Bool.and_eq_true,decide_eq_true_eq] at h
      obtain ⟨rfl,h2⟩:=h
      obtain ⟨g1,g2,g3⟩:=ok.gl h2
      have hm:X.mg x=some (.ref (He.ga X.K x)):=nd (nGl x) (List.mem_append_left _ (List.mem_flatMap.mpr ⟨_,ht,List.mem_cons_self⟩))
      exact ⟨pe_glob g1 hm rfl g2,_,_,rfl⟩
    | _=>cases h
def tTys (K:Ki):List Ty→TA
  | []=>tNil
  | t :: ts=>tCons (tC (t.v K)) (tTys K ts)
theorem pa_tys (ok:CtxOk k W c X) {ts0:List Ty} {own:List (Str × List Bool)} (nd:∀ n∈isiNeed ts0 own,n.at X k):∀ {ts:List Ty} {es:List Expr},(∀ t∈ts,t∈ts0)→tyBs c ts es=true→PA X es (tTys X.ki ts)
  | [],[],_,_=>pa_nil
  | [],_ :: _,_,h=>by cases h
  | t :: ts,[],_,h=>by cases h
  | t :: ts,e :: es,hs,h=>by
    have h:(tyB1 c t e&&tyBs c ts es)=true:=h
    rw [Bool.and_eq_true] at h
    obtain ⟨p1,x,p,rfl⟩:=pe_ty ok nd (hs t List.mem_cons_self) h.1
    exact pa_cons p1 (pa_tys ok nd (fun t ht=>hs t (List.mem_cons_of_mem _ ht)) h.2) rfl
theorem tTys_ok {K:Ki} {ts:List Ty} {σ:St} {H:Hp} {Q:List V→Hp→Prop} (q:Q (ts.map fun t=>t.v K) H):tTys K ts σ H Q:=by
  induction ts generalizing Q with
  | nil=>exact q
  | cons t ts ih=>exact ih (Q:=fun vs H=>Q (t.v K :: vs) H) q
theorem clsAll (K:Ki):∀ ts:List Ty,Paired ClsV (ts.map fun t=>t.v K) (ts.map fun t=>t.u K)
  | []=>.nil
  | t :: ts=>.cons (t.cls K) (clsAll K ts)
theorem isi_ans {ts:List Ty} {own:List (Str × List Bool)} (nd:∀ n∈isiNeed ts own,n.at X k) (hb:∀ t∈ts,∀ s,t=.b s→s∈askT) (ho:∀ p∈own,p.2.length=ts.length) {g:G} {H:Hp} {m:Mem} {x:OV} {v:V} {t:Ty} {bs:List Bool}
    (rs:Rs X.ki g m H) (r:RO X.ki g H x v) (e:tyO m x=some t) (ea:ansT ts own t=some bs):TyX X.K H v (t.u X.ki)∧ts.length=bs.length∧∀ (i:Nat) u b,(ts.map fun t=>t.u X.ki)[i]? = some u→bs[i]? = some b→PySem.W.kitOne X.K (t.u X.ki) u=some b:=by
  have look:∀ (c:Str) (bs:List Bool),own.lookup c=some bs→(c,bs)∈own:=by
    intro c bs
    induction own with
    | nil=>intro h;cases h
    | cons p ps ih =>
      obtain ⟨d,cs⟩:=p
      intro h
      rw [List.lookup_cons] at h
      split at h
      · rename_i hd
        cases h
        have:c=d:=by simpa using hd
        rw [this];exact List.mem_cons_self
      · have hn:∀ n∈isiNeed ts ps,n.at X k:=by
          intro n hn
          refine nd n ?_
          unfold isiNeed at hn ⊢
          rcases List.mem_append.mp hn with hn | hn
          · exact List.mem_append_left _ hn
          · refine List.mem_append_right _ ?_
            rw [List.flatMap_cons]
            exact List.mem_append_right _ hn
        have ea':True:=trivial
        exact List.mem_cons_of_mem _ (by
          have:∀ (l:List (Str × List Bool)),l.lookup c=some bs→(c,bs)∈l:=by
            intro l
            induction l with
            | nil=>intro h;cases h
            | cons p ps ih =>
              obtain ⟨d,cs⟩:=p
              intro h
              rw [List.lookup_cons] at h
              split at h
              · rename_i hd
                cases h
                have:c=d:=by simpa using hd
                rw [this];exact List.mem_cons_self
              · exact List.mem_cons_of_mem _ (ih h)
          exact this ps h)
  cases t with
  | b s =>
    cases ea
    refine ⟨tyO_ok rs r e fun c z=>by (cases z),by simp,fun i u b e1 e2=>?_⟩
    have hs:=tyO_dyn e
    rw [List.getElem?_map] at e1 e2
    cases q:ts[i]? with
    | none=>rw [q] at e1;cases e1
    | some t =>
      rw [q] at e1 e2
      cases e1;cases e2
      have ht:=List.mem_of_getElem? q
      cases t with
      | b u=>exact kit_ty (kitTab s hs u (hb _ ht u rfl))
      | own d =>
        refine nd (nKit (.b s) (.own d) false) (List.mem_append_left _ (List.mem_flatMap.mpr ⟨_,ht,List.mem_cons_of_mem _ ?_⟩))
        exact List.mem_map.mpr ⟨s,hs,rfl⟩
  | own c =>
    have hm:=look c bs ea
    have hl:=ho _ hm
    have sub:∀ n∈nIns c :: List.zipWith (fun t b=>nKit (.own c) t b) ts bs,n.at X k:=fun n hn=>nd n (List.mem_append_right _ (List.mem_flatMap.mpr ⟨_,hm,hn⟩))
    refine ⟨tyO_ok rs r e fun d z=>by (cases z;exact sub (nIns c) List.mem_cons_self),hl.symm,fun i u b e1 e2=>?_⟩
    rw [List.getElem?_map] at e1
    cases q:ts[i]? with
    | none=>rw [q] at e1;cases e1
    | some t =>
      rw [q] at e1
      cases e1
      refine sub (nKit (.own c) t b) (List.mem_cons_of_mem _ ?_)
      refine List.mem_of_getElem? (i:=i) ?_
      rw [List.getElem?_zipWith,q,e2]
def isiC (ts:List Ty) (own:List (Str × List Bool)) (one:Bool) (c:Cfg) (x:Str) (a ty:Expr):Bool:=decide (x=("isinstance":Str))&&btB c x&&plainE a&&(own.all fun p=>p.2.length == ts.length)&&(ts.all fun t=>match t with
    | .b s=>decide (s∈askT)
    | .own _=>true)&&(if one then (match ts with
      | [t]=>tyB1 c t ty
      | _=>false) else (match ty with
        | .Tuple es _ _=>tyBs c ts es&&decide (0 < ts.length∧ts.length≤64)
        | _=>false))
def isiB (ts:List Ty) (own:List (Str × List Bool)) (one:Bool) (c:Cfg):Expr→Option (List Expr)
  | .Call (.Name x _) [a,ty] [] _=>if isiC ts own one c x a ty=true then some [a] else none
  | _=>none
def pIsi (ts:List Ty) (own:List (Str × List Bool)) (one:Bool):Prim where
  need:=isiNeed ts own
  parts:=isiB ts own one
  F:=F1 (isiF ts own)
  ok:=fun {k W c X e es fs} ok nd h p=>by
    unfold isiB at h
    split at h <;> try contradiction
    split at h <;> cases h
    rename_i hb
    unfold isiC at hb
    simp only [Bool.and_eq_true,decide_eq_true_eq] at hb
    obtain ⟨⟨⟨⟨⟨rfl,h2⟩,h3⟩,h4⟩,h5⟩,h6⟩:=hb
    obtain ⟨g1,g2,g3,g4⟩:=ok.bt h2
    obtain ⟨fa,e1,e3⟩:=p.f1 (f:=isiF ts own)
    rw [e3]
    have ho:∀ p∈own,p.2.length=ts.length:=fun p hp=>by simpa using List.all_eq_true.mp h4 p hp
    have hs:∀ t∈ts,∀ s,t=.b s→s∈askT:=fun t ht s z=>by
      have:=List.all_eq_true.mp h5 t ht
      subst z
      simpa using this
    cases one with
    | true =>
      simp only [if_true] at h6
      split at h6 <;> try contradiction
      rename_i t
      obtain ⟨p1,x,q,rfl⟩:=pe_ty ok nd List.mem_cons_self h6
      refine (pe_callB call_isi g1 g2 boot_isinstance (pa_cons e1 (pa_cons p1 pa_nil rfl) (starP h3)) g4 g3 (starP h3) rfl).weaken fun σ H Q q=>?_
      obtain ⟨g,s,m,rs,rl,pp⟩:=q
      refine ⟨g,s,m,rs,rl,(Post.bind pp).imp fun v H1 ⟨x,g1,m1,rs1,st1,r1,p1⟩=>?_⟩
      unfold isiF at p1
      split at p1
      · rename_i ty ety
        split at p1
        · rename_i bs ebs
          obtain ⟨q1,q2,q3⟩:=isi_ans nd hs ho rs1 r1 ety ebs
          match bs,q2 with
          | [b],_ =>
            refine ⟨v,t.v X.ki,ty.u X.ki,t.u X.ki,b,rfl,t.cls _,q1,q3 0 _ b rfl rfl,?_⟩
            have:=post_val (v:=.bl b) rs1 p1 (by simp [RV])
            exact this
        · exact p1.elim
      · exact p1.elim
    | false =>
      simp only [Bool.false_eq_true,if_false] at h6
      split at h6 <;> try contradiction
      simp only [Bool.and_eq_true,decide_eq_true_eq] at h6
      refine (pe_callB call_isiT g1 g2 boot_isinstance (pa_cons e1 (pa_cons (pe_tup (pa_tys ok nd (fun _ h=>h) h6.1)) pa_nil rfl) (starP h3)) g4 g3 (starP h3) rfl).weaken fun σ H Q q=>?_
      obtain ⟨g,s,m,rs,rl,pp⟩:=q
      refine ⟨g,s,m,rs,rl,(Post.bind pp).imp fun v H1 ⟨x,g1,m1,rs1,st1,r1,p1⟩=>tTys_ok ⟨by rw [List.length_map,sizeLine_eq];omega,fun tp htp=>?_⟩⟩
      obtain ⟨rs2,st2⟩:=rs1.grow (o:=.tup (ts.map fun t=>t.v X.ki)) htp
      have r2:=RO.st r1 st2
      unfold isiF at p1
      split at p1
      · rename_i ty ety
        split at p1
        · rename_i bs ebs
          obtain ⟨q1,q2,q3⟩:=isi_ans nd hs ho rs2 r2 ety ebs
          exact ⟨v,tp,ts.map fun t=>t.v X.ki,ty.u X.ki,ts.map fun t=>t.u X.ki,bs.any id,rfl,upd_same,clsAll _ ts,q1,kitAll (by simpa using q2) q3,p1 g1 _ _ rs2 st2 rfl⟩
        · exact p1.elim
      · exact p1.elim
end
end Rc

namespace Rc
open PySem PySem.Spec L2
open PyProof.Rows hiding St

def noCall:Expr→Bool
  | .Call (.Name _ _) [] [] _=>false
  | _=>true
theorem attrP {o:Expr} {a:Str} {env:Env} {w:Sem Value} (h:noCall o=true):attributeBase o a env w=w:=by
  cases o <;> try rfl
  rename_i f as ks p
  cases f <;> try rfl
  cases as <;> try rfl
  cases ks <;> first | rfl | cases h
def joinF (a:Str) (as:List OV) (m:Mem):R OV:=match as with
  | [b]=>(match contO m b with
    | some (.l xs)=>(match strsOf xs with
      | some ys=>if (ys.map (·.length)).sum + ys.length * a.length≤16777216 then .ok (.v (.str (Txt.join a ys))) m else .stuck
      | none=>.stuck)
    | some (.t xs)=>(match strsOf xs with
      | some ys=>if (ys.map (·.length)).sum + ys.length * a.length≤16777216 then .ok (.v (.str (Txt.join a ys))) m else .stuck
      | none=>.stuck)
    | _=>.stuck)
  | _=>.stuck
def strM (f:Str→List OV→Mem→R OV):OV→Mem→Option (List OV→Mem→R OV)
  | .v (.str z),_=>some (f z)
  | _,_=>none
theorem strM_ok {f:Str→List OV→Mem→R OV} {x:OV} {m:Mem} {r:List OV→Mem→R OV} (h:strM f x m=some r):∃ z,x=.v (.str z)∧r=f z:=by
  unfold strM at h
  split at h
  · cases h;exact ⟨_,rfl,rfl⟩
  · cases h
def pJoin:PrimM where
  parts:=fun c e=>match e with
    | .Call (.Attribute o m ap) [a] [] p=>if (decide (m=("join":Str))&&(ap.endLine == p.line)&&plainE a&&noCall o)=true then some (o,[a]) else none
    | _=>none
  F:=strM joinF
  ok:=fun {k W c X e o es fo fs} ok nd h ho p=>by
    split at h <;> try contradiction
    split at h <;> cases h
    rename_i hb
    simp only [Bool.and_eq_true,decide_eq_true_eq] at hb
    obtain ⟨⟨⟨rfl,h2⟩,h3⟩,h4⟩:=hb
    obtain ⟨fa,e1,e3⟩:=p.p1
    refine (pe_join ho e1 (starP h3) (attrP h4) h2).weaken fun σ H Q q=>?_
    obtain ⟨g,s,m,rs,rl,pp⟩:=q
    refine ⟨g,s,m,rs,rl,(Post.bind pp).imp fun v H1 ⟨x,g1,m1,rs1,st1,r1,p1⟩=>?_⟩
    split at p1
    case h_2=>exact p1.elim
    rename_i hr
    obtain ⟨z,rfl,rfl⟩:=strM_ok hr
    cases (show v=.str z from r1)
    refine ⟨⟨z,rfl⟩,g1,s,m1,rs1,rl.st st1,?_⟩
    have e4:=congrFun (congrFun (e3 (joinF z)) s) m1
    have p1:PostO X.ki (WE W σ) g1 H1 ((fs s m1).bind (joinF z)) Q:=p1
    rw [e4] at p1
    refine (Post.bind p1).imp fun w H2 ⟨y,g2,m2,rs2,st2,r2,p2⟩=>?_
    unfold joinF at p2
    dsimp only at p2
    split at p2
    · rename_i xs e
      obtain ⟨c,ys,rfl,q,r⟩:=contO_ok rs2 r2 e
      split at p2
      · rename_i ws e2
        rw [strsOf_ok e2 r] at q
        split at p2
        · exact ⟨z,c,ws,rfl,rfl,.inl q,by assumption,post_val rs2 p2 rfl⟩
        · exact p2.elim
      · exact p2.elim
    · rename_i xs e
      obtain ⟨c,ys,rfl,q,r⟩:=contO_ok rs2 r2 e
      split at p2
      · rename_i ws e2
        rw [strsOf_ok e2 r] at q
        split at p2
        · exact ⟨z,c,ws,rfl,rfl,.inr q,by assumption,post_val rs2 p2 rfl⟩
        · exact p2.elim
      · exact p2.elim
    · exact p2.elim

section
variable {X:Cx}
end
def F1I (f:OV→Mem→R Wk):List OV→Mem→R Wk
  | [x],m=>f x m
  | _,_=>.stuck
def seqI (x:OV) (m:Mem):R Wk:=match x with
  | .v (.str z)=>.ok ⟨signs z,[]⟩ m
  | x=>(match srcO m x with
    | some (_,w)=>.ok w m
    | none=>.stuck)
theorem pi_seqM {X:Cx} {t e:Expr} {W:WX} {fa:Sl→Mem→R OV} (he:PE X e (tE X.ki W fa)):PI X t e (tI X.ki W fun s m=>(fa s m).bind seqI):=by
  refine (((pi_list he).or (pi_tup he)).or (pi_str he)).weaken fun σ H R h=>?_
  obtain ⟨g,s,m,rs,rl,p⟩:=h
  have p:Post X.ki (WE W σ) (fun g _ w J=>WkM X.ki J w g) g H ((fa s m).bind seqI) R:=p
  cases e:fa s m with
  | stuck=>rw [e] at p;exact p.elim
  | exc c ks xs m'=>rw [e] at p;exact .inl (.inl ⟨g,s,m,rs,rl,by rw [e];exact p⟩)
  | ok x m1 =>
    rw [e] at p
    have p:Post X.ki (WE W σ) (fun g _ w J=>WkM X.ki J w g) g H (seqI x m1) R:=p
    by_cases hx:∃ z,x=.v (.str z)
    · obtain ⟨z,rfl⟩:=hx
      refine .inr ⟨g,s,m,rs,rl,?_⟩
      rw [e]
      intro g1 v H1 rs1 st1 r1
      exact ⟨z,r1,p g1 _ H1 rs1 st1 wk_str⟩
    · have e2:seqI x m1=match srcO m1 x with
        | some (_,w)=>.ok w m1
        | none=>.stuck:=by
        unfold seqI
        split
        · exact absurd ⟨_,rfl⟩ hx
        · rfl
      rw [e2] at p
      cases e3:srcO m1 x with
      | none=>rw [e3] at p;exact p.elim
      | some q =>
        obtain ⟨k,w⟩:=q
        rw [e3] at p
        cases k with
        | l =>
          refine .inl (.inl ⟨g,s,m,rs,rl,?_⟩)
          rw [e]
          intro g1 v H1 rs1 st1 r1
          obtain ⟨a,rfl,ow,h2⟩:=src_ok rs1 r1 e3
          obtain ⟨ys,hy,_⟩:=h2 g1 m1 H1 rs1 (Fle.refl _) ow
          exact ⟨a,rfl,⟨ys,hy⟩,p g1 _ H1 rs1 st1 (wk_one (k:=.l) (a:=a) rfl h2)⟩
        | t =>
          refine .inl (.inr ⟨g,s,m,rs,rl,?_⟩)
          rw [e]
          intro g1 v H1 rs1 st1 r1
          obtain ⟨a,rfl,ow,h2⟩:=src_ok rs1 r1 e3
          obtain ⟨ys,hy,_⟩:=h2 g1 m1 H1 rs1 (Fle.refl _) ow
          exact ⟨a,rfl,⟨ys,hy⟩,p g1 _ H1 rs1 st1 (wk_one (k:=.t) (a:=a) rfl h2)⟩
def iSeq:PrimI where
  parts:=fun _ _ e=>some [e]
  F:=F1I seqI
  ok:=fun {k W c X t e es fs} ok nd h p=>by
    cases h
    obtain ⟨fa,e1,e3⟩:=p.p1
    rw [e3 (F1I seqI)]
    exact pi_seqM e1
def rng1 (j:OV) (m:Mem):R Wk:=match intO j with
  | some j=>if -(2 ^ 62)≤j∧j < 2 ^ 62 then .ok ⟨rangeM 0 j.toNat,[]⟩ m else .stuck
  | none=>.stuck
def iRange1:PrimI where
  parts:=fun c _ e=>match e with
    | .Call (.Name x _) [a] [] _=>if (decide (x=("range":Str))&&btB c x&&plainE a)=true then some [a] else none
    | _=>none
  F:=F1I rng1
  ok:=fun {k W c X t e es fs} ok nd h p=>by
    split at h <;> try contradiction
    split at h <;> cases h
    rename_i hb
    simp only [Bool.and_eq_true,decide_eq_true_eq] at hb
    obtain ⟨⟨rfl,h2⟩,h3⟩:=hb
    obtain ⟨g1,g2,g3,g4⟩:=ok.bt h2
    obtain ⟨fa,e1,e3⟩:=p.p1
    rw [e3 (F1I rng1)]
    refine (pi_range1 g1 g2 (pa_cons e1 pa_nil (starP h3)) (starP h3)).weaken fun σ H Q q=>?_
    obtain ⟨g,s,m,rs,rl,pp⟩:=q
    refine ⟨g,s,m,rs,rl,(Post.bind pp).imp fun v H1 ⟨x,g1,m1,rs1,st1,r1,p1⟩=>?_⟩
    unfold F1I rng1 at p1
    dsimp only at p1
    split at p1
    · rename_i j ej
      split at p1
      · rename_i hj
        exact ⟨j,by rw [intO_ok r1 ej],hj.1,hj.2,p1 g1 _ H1 rs1 (Stp.refl _ _) wk_range⟩
      · exact p1.elim
    · exact p1.elim
def F2I (f:OV→OV→Mem→R Wk):List OV→Mem→R Wk
  | [x,y],m=>f x y m
  | _,_=>.stuck
def zipI (x y:OV) (m:Mem):R Wk:=match srcO m x,srcO m y with
  | some (_,w),some (_,z)=>.ok ⟨zipM w.items z.items,w.watch++z.watch⟩ m
  | _,_=>.stuck
def isTup:Expr→Bool
  | .Tuple ..=>true
  | _=>false
def iZip:PrimI where
  parts:=fun c t e=>match e with
    | .Call (.Name x _) [a,b] [] _=>if (isTup t&&decide (x=("zip":Str))&&btB c x&&plainE a&&plainE b)=true then some [a,b] else none
    | _=>none
  F:=F2I zipI
  ok:=fun {k W c X t e es fs} ok nd h p=>by
    split at h <;> try contradiction
    split at h <;> cases h
    rename_i hb
    simp only [Bool.and_eq_true,decide_eq_true_eq] at hb
    obtain ⟨⟨⟨⟨h0,rfl⟩,h2⟩,h3⟩,h4⟩:=hb
    obtain ⟨g1,g2,g3,g4⟩:=ok.bt h2
    obtain ⟨fa,fb,e1,e2,e3⟩:=p.p2
    rw [e3 (F2I zipI)]
    cases t <;> try (cases h0;done)
    refine (pi_zipK g1 g2 (pa_cons e1 (pa_cons e2 pa_nil (starP h4)) (starP h3)) h3 h4).weaken fun σ H Q q=>?_
    obtain ⟨g,s,m,rs,rl,pp⟩:=q
    refine ⟨g,s,m,rs,rl,(Post.bind pp).imp fun v H1 ⟨x,g1,m1,rs1,st1,r1,p1⟩=>⟨g1,s,m1,rs1,rl.st st1,(Post.bind p1).imp fun w H2 ⟨y,g2,m2,rs2,st2,r2,p2⟩=>?_⟩⟩
    unfold F2I zipI at p2
    dsimp only at p2
    split at p2
    · rename_i k1 w1 k2 w2 ei ej
      obtain ⟨a,rfl,o1,s1⟩:=src_ok rs2 (RO.st r1 st2) ei
      obtain ⟨b,rfl,o2,s2⟩:=src_ok rs2 r2 ej
      obtain ⟨xs,hx,_⟩:=s1 g2 m2 H2 rs2 (Fle.refl _) o1
      obtain ⟨ys,hy,_⟩:=s2 g2 m2 H2 rs2 (Fle.refl _) o2
      exact ⟨k1,k2,a,b,xs,ys,rfl,hx,hy,p2 g2 _ H2 rs2 (Stp.refl _ _) (wk_zip s1 s2)⟩
    · exact p2.elim
def enumI (x:OV) (m:Mem):R Wk:=match srcO m x with
  | some (_,w)=>.ok ⟨enumM w.items,w.watch⟩ m
  | _=>.stuck
def iEnum:PrimI where
  parts:=fun c t e=>match e with
    | .Call (.Name x _) [a] [] _=>if (isTup t&&decide (x=("enumerate":Str))&&btB c x&&plainE a)=true then some [a] else none
    | _=>none
  F:=F1I enumI
  ok:=fun {k W c X t e es fs} ok nd h p=>by
    split at h <;> try contradiction
    split at h <;> cases h
    rename_i hb
    simp only [Bool.and_eq_true,decide_eq_true_eq] at hb
    obtain ⟨⟨⟨h0,rfl⟩,h2⟩,h3⟩:=hb
    obtain ⟨g1,g2,g3,g4⟩:=ok.bt h2
    obtain ⟨fa,e1,e3⟩:=p.p1
    rw [e3 (F1I enumI)]
    cases t <;> try (cases h0;done)
    refine (pi_enumK g1 g2 (pa_cons e1 pa_nil (starP h3)) h3).weaken fun σ H Q q=>?_
    obtain ⟨g,s,m,rs,rl,pp⟩:=q
    refine ⟨g,s,m,rs,rl,(Post.bind pp).imp fun v H1 ⟨x,g1,m1,rs1,st1,r1,p1⟩=>?_⟩
    unfold F1I enumI at p1
    dsimp only at p1
    split at p1
    · rename_i k1 w1 ei
      obtain ⟨a,rfl,o1,s1⟩:=src_ok rs1 r1 ei
      obtain ⟨xs,hx,_⟩:=s1 g1 m1 H1 rs1 (Fle.refl _) o1
      exact ⟨k1,a,xs,rfl,hx,p1 g1 _ H1 rs1 (Stp.refl _ _) (wk_enum s1)⟩
    · exact p1.elim
end Rc

namespace Rc
open PySem PySem.Spec L2
open PyProof.Rows hiding St

section
variable {α:Type} {X:Cx} {W:WX}
theorem toS_bind {β:Type} (r:R α) (k:α→Mem→R β) (s:Sl) (l:β→Mem→SR):(r.bind k).toS s l=r.toS s fun x m=>(k x m).toS s l:=by cases r <;> rfl
theorem Parts.s1 {a:Expr} {fs:Sl→Mem→R (List OV)} (p:Parts X W [a] fs):∃ fa,PE X a (tE X.ki W fa)∧∀ (F:List OV→Sl→Mem→SR) s m,((fs s m).toS s fun xs m=>F xs s m)=(fa s m).toS s fun x m=>F [x] s m:=by
  obtain ⟨fa,h1,h2⟩:=p.p1
  refine ⟨fa,h1,fun F s m=>?_⟩
  have e:=congrFun (congrFun (h2 (β:=List OV) fun xs m=>.ok xs m) s) m
  have e1:(fs s m).bind (fun xs m=>R.ok xs m)=fs s m:=by cases fs s m <;> rfl
  have e:(fs s m)=(fa s m).bind fun x m=>.ok [x] m:=e1.symm.trans e
  rw [e,toS_bind]
  rfl
theorem Parts.s2 {a b:Expr} {fs:Sl→Mem→R (List OV)} (p:Parts X W [a,b] fs):∃ fa fb,PE X a (tE X.ki W fa)∧PE X b (tE X.ki W fb)∧∀ (F:List OV→Sl→Mem→SR) s m,((fs s m).toS s fun xs m=>F xs s m)=(fa s m).toS s fun x m=>(fb s m).toS s fun y m=>F [x,y] s m:=by
  obtain ⟨fa,fb,h1,h2,h3⟩:=p.p2
  refine ⟨fa,fb,h1,h2,fun F s m=>?_⟩
  have e:=congrFun (congrFun (h3 (β:=List OV) fun xs m=>.ok xs m) s) m
  have e1:(fs s m).bind (fun xs m=>R.ok xs m)=fs s m:=by cases fs s m <;> rfl
  have e:(fs s m)=(fa s m).bind fun x m=>(fb s m).bind fun y m=>.ok [x,y] m:=e1.symm.trans e
  rw [e,toS_bind]
  congr 1
  funext x m
  rw [toS_bind]
  rfl
theorem Parts.s3 {a b c:Expr} {fs:Sl→Mem→R (List OV)} (p:Parts X W [a,b,c] fs):∃ fa fb fc,PE X a (tE X.ki W fa)∧PE X b (tE X.ki W fb)∧PE X c (tE X.ki W fc)∧∀ (F:List OV→Sl→Mem→SR) s m,((fs s m).toS s fun xs m=>F xs s m)=(fa s m).toS s fun x m=>(fb s m).toS s fun y m=>(fc s m).toS s fun z m=>F [x,y,z] s m:=by
  obtain ⟨fa,fb,fc,h1,h2,h3,h4⟩:=p.p3
  refine ⟨fa,fb,fc,h1,h2,h3,fun F s m=>?_⟩
  have e:=congrFun (congrFun (h4 (β:=List OV) fun xs m=>.ok xs m) s) m
  have e1:(fs s m).bind (fun xs m=>R.ok xs m)=fs s m:=by cases fs s m <;> rfl
  have e:(fs s m)=(fa s m).bind fun x m=>(fb s m).bind fun y m=>(fc s m).bind fun z m=>.ok [x,y,z] m:=e1.symm.trans e
  rw [e,toS_bind]
  congr 1
  funext x m
  rw [toS_bind]
  congr 1
  funext y m
  rw [toS_bind]
  rfl
end
theorem tS_pre {K:Ki} {W:WX} {g0:G} {H0:Hp} {b:Sl→Mem→Bool} {f:Sl→Mem→SR} {D:Ends} {σ:St} {H:Hp} (h:tS K W g0 H0 (fun s m=>if b s m=true then f s m else .stuck) D σ H):∃ g s m,SRel K g0 H0 g s m σ H∧b s m=true∧PostS K W g0 H0 g (f s m) D:=by
  obtain ⟨g,s,m,R,p⟩:=h
  have p:PostS K W g0 H0 g (if b s m=true then f s m else .stuck) D:=p
  by_cases z:b s m=true
  · rw [if_pos z] at p;exact ⟨g,s,m,R,z,p⟩
  · rw [if_neg z] at p;exact p.elim
def ownL (s:Sl) (i:Nat):Option (List MV):=match s[i]? with
  | some (some (.own (.lst xs)))=>some xs
  | _=>none
theorem ownL_ok {s:Sl} {i:Nat} {xs:List MV} (h:ownL s i=some xs):s[i]? = some (some (.own (.lst xs))):=by
  unfold ownL at h
  split at h
  · cases h;assumption
  · cases h
def appF (i:Nat):List OV→Sl→Mem→SR
  | [.v x],s,m=>(match ownL s i with
    | some xs=>if xs.length < sizeLine then .nx (s.set i (some (.own (.lst (xs++[x]))))) m else .stuck
    | none=>.stuck)
  | _,_,_=>.stuck
def sApp (i:Nat):PrimS where
  parts:=fun c st=>match st with
    | .Expr (.Call (.Attribute (.Name x _) m ap) [v] [] p) _=>if (decide (m=("append":Str))&&(ap.endLine == p.line)&&slB c i x&&plainE v)=true then some [v] else none
    | _=>none
  pre:=fun s _=>(ownL s i).isSome
  F:=appF i
  ok:=fun {k W c X e es fs} ok nd ht hk h p g0 H0=>by
    split at h <;> try contradiction
    split at h <;> cases h
    rename_i hb
    simp only [Bool.and_eq_true,decide_eq_true_eq] at hb
    obtain ⟨⟨⟨rfl,h2⟩,h3⟩,h4⟩:=hb
    obtain ⟨fa,e1,e2⟩:=p.s1
    refine (ps_expr (pe_bm F.plainAttrs_list F.slot_list_append F.type_list_append mt_append (ok.slot h3) (pa_cons e1 pa_nil (starP h4)) rfl (by rw [starP h4];rfl) h2 (starP h4) rfl) rfl).weaken fun D σ H q=>tS_app (K:=X.ki) (g0:=g0) (H0:=H0) (fe:=fa) ?_
    obtain ⟨g,s,m,R,z,pp⟩:=tS_pre q
    refine ⟨g,s,m,R,?_⟩
    obtain ⟨xs,hx⟩:=Option.isSome_iff_exists.mp z
    rw [e2] at pp
    dsimp only
    rw [ownL_ok hx]
    dsimp only
    have e3:((fa s m).toS s fun x m=>appF i [x] s m)=(fa s m).toS s fun x m=>(toV x m).toS s fun x m=>if xs.length < sizeLine then .nx (s.set i (some (.own (.lst (xs++[x]))))) m else .stuck:=by
      congr 1
      funext x m
      cases x with
      | b o=>rfl
      | v x =>
        show (match ownL s i with
          | some xs=>if xs.length < sizeLine then SR.nx (s.set i (some (.own (.lst (xs++[x]))))) m else .stuck
          | none=>.stuck)=_
        rw [hx]
        rfl
    rw [e3] at pp
    exact pp
theorem asgSub {a b:Expr} {p:Pos} {env:Env} (h:plainIx b=true) (v:Value):assign (.Subscript a b p) env v=(do
      let ov ← holding [v] (eval a env)
      let iv ← holding [v,ov] (eval b env)
      standAt p
      holding [v,ov,iv] (setItem ov iv v)
      release [v,ov,iv] []):=by
  cases b <;> first | rfl | cases h
def ixRefF:List OV→Sl→Mem→SR
  | [.v x,.v (.ref n),.v (.int k)],s,m=>(match memL m n with
    | some xs=>(match ixN xs.length k with
      | some j=>.nx s (m.set n (some (.lst (xs.set j x))))
      | none=>.stuck)
    | none=>.stuck)
  | _,_,_=>.stuck
theorem ixRefF_inv {x y z:OV} {s:Sl} {m:Mem} (h:ixRefF [x,y,z] s m≠.stuck):∃ x' n k,x=.v x'∧y=.v (.ref n)∧z=.v (.int k):=by
  unfold ixRefF at h
  split at h
  · rename_i hh
    cases hh
    exact ⟨_,_,_,rfl,rfl,rfl⟩
  · exact absurd rfl h
theorem PostS.ns {K:Ki} {W:WX} {g0 g:G} {H0:Hp} {r:SR} {D:Ends} (h:PostS K W g0 H0 g r D):r≠.stuck:=fun z=>by rw [z] at h;exact h
def sIxRef:PrimS where
  parts:=fun c st=>match st with
    | .Assign [.Subscript a b _] v _=>if plainIx b=true then some [v,a,b] else none
    | _=>none
  F:=ixRefF
  ok:=fun {k W c X e es fs} ok nd ht hk h p g0 H0=>by
    split at h <;> try contradiction
    split at h <;> cases h
    rename_i hb
    obtain ⟨fe,fo,fi,e1,e2,e3,e4⟩:=p.s3
    refine (ps_asg e1 (pg_sub e2 e3 set_list (asgSub hb)) swSub stSub rfl).weaken fun D σ H q=>?_
    obtain ⟨g,s,m,R,z,pp⟩:=tS_pre q
    rw [e4] at pp
    refine ⟨g,s,m,R.rs,R.rl,(PostS.bind R pp).imp fun v H1 ⟨x,g1,m1,rs1,st1,r1,p1⟩=>⟨g1,s,m1,rs1,R.rl.st st1,(PostS.bind (R.step rs1 st1) p1).imp fun w H2 ⟨y,g2,m2,rs2,st2,r2,p2⟩ =>
      ⟨g2,s,m2,rs2,(R.rl.st st1).st st2,(PostS.bind ((R.step rs1 st1).step rs2 st2) p2).imp fun u H3 ⟨z,g3,m3,rs3,st3,r3,p3⟩=>?_⟩⟩⟩
    have rx:=RO.st (RO.st r1 st2) st3
    have ry:=RO.st r2 st3
    obtain ⟨x',n,k,rfl,rfl,rfl⟩:=ixRefF_inv p3.ns
    obtain ⟨a,rfl,hn⟩:=ry
    cases r3
    unfold ixRefF at p3
    dsimp only at p3
    split at p3
    · rename_i xs e5
      obtain ⟨ys,q1,q2,q3⟩:=memL_ok rs3 hn e5
      split at p3
      · rename_i j e6
        obtain ⟨rs4,st4⟩:=rs3.setRef hn q3 (q2.set rx j)
        exact ⟨a,ys,_,j,rfl,rfl,q1,by rw [← q2.length];exact e6,p3 g3 σ _ ((((R.step rs1 st1).step rs2 st2).step rs3 st3).step rs4 st4) (Fle.refl _)⟩
      · exact p3.elim
    · exact p3.elim
end Rc

namespace Rc
open PySem PySem.Spec L2
open PyProof.Rows hiding St

def noSup:Expr→Bool
  | .Call (.Name _ _) [] [] _=>false
  | _=>true
theorem attrS {o:Expr} {a:Str} {env:Env} {w:Sem Value} (h:noSup o=true):attributeBase o a env w=w:=by
  cases o <;> try rfl
  rename_i f as ks p
  cases f <;> try rfl
  cases as <;> try rfl
  cases ks <;> first | rfl | cases h
theorem meth_ht {o:Expr} {es:List Expr} {m:Str} {apos pos:Pos} {env:Env} (hb:noSup o=true) (hl:(apos.endLine == pos.line)=true) (hs:es.all plainE=true) (hn:es.length < 30) :
    eval (.Call (.Attribute o m apos) es [] pos) env=(do
      let ov ← eval o env
      standAt apos.atName
      let (f,first) ← holding [ov] (getMethod ov m (do return (← importBound o env).getD true))
      callWith pos f first (backTo pos (starEach es env)) (backToKw pos (keywordEach [] env))):=by
  have e0:eval (.Call (.Attribute o m apos) es [] pos) env=(do
      let ov ← attributeBase o m env (eval o env)
      standAt apos.atName
      methodCall o m apos pos env ov (es.length + ([]:List Keyword).length) (backTo pos (starEach es env)) (backToKw pos (keywordEach [] env))):=rfl
  rw [e0,attrS hb]
  have ha:(backTo pos (starEach es env)).all (fun p=>!p.1)=true:=by
    have:=noStar (env:=env) (pos:=pos) hs
    rw [List.all_eq_true]
    intro x hx
    rw [List.any_eq_false] at this
    have:=this x hx
    simpa using this
  have hf:methodCallForm (es.length + ([]:List Keyword).length) (backTo pos (starEach es env)) (backToKw pos (keywordEach [] env))=true:=by
    unfold methodCallForm
    rw [ha]
    show (true&&true&&decide (es.length + 0 + 0 < 30))=true
    simpa using hn
  congr 1
  funext ov
  congr 1
  funext _
  unfold methodCall
  rw [hf]
  unfold calleeOf methodCallPos
  rw [hl]
  rfl
def nNo (c f:Str):Need:=fun _ _ K _ _ _=>NoAttr K (He.ga K c) f
def fLook:List Str→List MV→Str→Option MV
  | k :: ks,x :: xs,f=>if k=f then some x else fLook ks xs f
  | _,_,_=>none
theorem fLook_ok {K:Ki} {g:G} {f:Str} {x:MV}:∀ {xs:List MV} {fs:List (Str × V)},RVs K g xs (fs.map (·.2))→fLook (fs.map (·.1)) xs f=some x→∃ v,fs.lookup f=some v∧RV K g x v
  | [],fs,_,e=>by cases fs <;> cases e
  | y :: xs,[],r,e=>by cases e
  | y :: xs,(k,u) :: fs,⟨v,t,e1,h,r⟩,e=>by
    cases e1
    have e:(if k=f then some y else fLook (fs.map (·.1)) xs f)=some x:=e
    rw [List.lookup_cons]
    by_cases hk:k=f
    · rw [if_pos hk] at e
      cases e
      have:(f == k)=true:=by simp [hk]
      rw [this]
      exact ⟨u,rfl,h⟩
    · rw [if_neg hk] at e
      have:(f == k)=false:=by simpa using Ne.symm hk
      rw [this]
      exact fLook_ok r e
theorem noKey {f:Str}:∀ {fs:List (Str × V)},f∉fs.map (·.1)→fs.lookup f=none
  | [],_=>rfl
  | (k,u) :: fs,h=>by
    rw [List.lookup_cons]
    have h1:f≠k:=fun z=>h (by rw [z];exact List.mem_cons_self)
    have h2:f∉fs.map (·.1):=fun z=>h (List.mem_cons_of_mem _ z)
    have:(f == k)=false:=by simpa using h1
    rw [this]
    exact noKey h2
def fldF (cs:List Str) (f:Str) (x:OV) (m:Mem):R OV:=match insO m x with
  | some (c,ks,xs)=>if c∈cs then (match fLook ks xs f with
    | some y=>.ok (.v y) m
    | none=>.stuck) else .stuck
  | none=>.stuck
def pFld (cs:List Str) (f:Str):Prim where
  need:=cs.flatMap fun c=>[nIns c,nNo c f]
  parts:=fun _ e=>match e with
    | .Attribute o a _=>if (decide (a=f)&&noSup o)=true then some [o] else none
    | _=>none
  F:=F1 (fldF cs f)
  ok:=fun {k W c X e es fs} ok nd h p=>by
    split at h <;> try contradiction
    split at h <;> cases h
    rename_i hb
    simp only [Bool.and_eq_true,decide_eq_true_eq] at hb
    obtain ⟨rfl,h2⟩:=hb
    obtain ⟨fa,e1,e3⟩:=p.f1 (f:=fldF cs _)
    rw [e3]
    refine (pe_fld e1 (attrS h2)).weaken fun σ H Q q=>?_
    obtain ⟨g,s,m,rs,rl,pp⟩:=q
    refine ⟨g,s,m,rs,rl,(Post.bind pp).imp fun v H1 ⟨x,g1,m1,rs1,st1,r1,p1⟩=>?_⟩
    unfold fldF at p1
    split at p1
    · rename_i c ks xs ei
      obtain ⟨a,dx,fs',rfl,h3,h4,rfl,h6⟩:=insO_ok rs1 r1 ei
      split at p1
      · rename_i hc
        have n1:(nIns c).at X k:=nd _ (List.mem_flatMap.mpr ⟨c,hc,List.mem_cons_self⟩)
        have n2:(nNo c _).at X k:=nd _ (List.mem_flatMap.mpr ⟨c,hc,List.mem_cons_of_mem _ List.mem_cons_self⟩)
        split at p1
        · rename_i y ey
          obtain ⟨u,e4,e5⟩:=fLook_ok h6 ey
          exact ⟨a,_,dx,fs',u,rfl,h3,n1.cl,n2,e4,post_val rs1 p1 e5⟩
        · exact p1.elim
      · exact p1.elim
    · exact p1.elim
def nCon (c f:Str) (i:Int):Need:=fun _ _ K mg _ _=>mg c=some (.ref (He.ga K c))∧∃ mc t,ClX.CRead K (He.ga K c) mc∧PySem.W.findCls K (.ref (He.ga K c)) mc f=some (.val (.int i t))
def pCon (c f:Str) (i:Int):Prim where
  need:=[nCon c f i]
  parts:=fun cf e=>match e with
    | .Attribute (.Name x _) a _=>if (decide (x=c)&&decide (a=f)&&gbB cf x)=true then some [] else none
    | _=>none
  F:=fun _ m=>.ok (.v (.int i)) m
  ok:=fun {k W cf X e es fs} ok nd h p=>by
    split at h <;> try contradiction
    split at h <;> cases h
    rename_i hb
    simp only [Bool.and_eq_true,decide_eq_true_eq] at hb
    obtain ⟨⟨rfl,rfl⟩,h2⟩:=hb
    obtain ⟨g1,g2,g3⟩:=ok.gl h2
    obtain ⟨n1,mc,t,n2,n3⟩:=nd _ (List.mem_singleton.mpr rfl)
    refine (ClX.pe_cval (pe_glob (v:=.ref (He.ga X.K _)) g1 n1 rfl g2) rfl).weaken fun σ H Q q=>?_
    rw [p.p0] at q
    obtain ⟨g,s,m,rs,rl,pp⟩:=q
    exact ⟨_,mc,.int i,.int i t,rfl,n2,⟨n3,⟨t,rfl⟩⟩,pp g (.int i) H rs (Stp.refl _ _) rfl⟩

def nMeth (c m:Str) (F:Fn):Need:=fun P w K mg base k=>∃ f fd,Cls K (He.ga K c)∧Meth K (He.ga K c) m f∧FnAt P w K mg base k f fd F
def methOf (cs:List (Str × Fn)) (m:Str) (mem:Mem) (x:OV):Option Fn:=match insO mem x with
  | some (c,ks,_)=>if m∈ks then none else cs.lookup c
  | none=>none
theorem lookup_mem {α:Type} {c:Str} {b:α}:∀ {l:List (Str × α)},l.lookup c=some b→(c,b)∈l
  | [],h=>by cases h
  | (d,e) :: l,h=>by
    rw [List.lookup_cons] at h
    split at h
    · rename_i hd
      cases h
      have:c=d:=by simpa using hd
      rw [this];exact List.mem_cons_self
    · exact List.mem_cons_of_mem _ (lookup_mem h)
def methF (ret:FR→R OV) (cs:List (Str × Fn)) (m:Str):OV→Mem→Option (List OV→Mem→R OV):=fun x mem=>match x with
  | .v y=>(match methOf cs m mem (.v y) with
    | some F=>some fun as mem=>(match vals as with
      | some xs=>ret (F.M (y :: xs) mem)
      | none=>.stuck)
    | none=>none)
  | .b _=>none
def methB (cs:List (Str × Fn)) (m:Str) (o:Expr) (n:Str) (ap p:Pos) (es:List Expr):Bool:=decide (n=m)&&noSup o&&(ap.endLine == p.line)&&es.all plainE&&decide (es.length < 30)&&cs.all fun q=>q.2.ps.length == es.length + 1
def methP (cs:List (Str × Fn)) (m:Str) (_:Cfg):Expr→Option (Expr × List Expr)
  | .Call (.Attribute o n ap) es [] p=>if methB cs m o n ap p es=true then some (o,es) else none
  | _=>none
def pMethG (ret:FR→R OV) (hret:∀ {K:Ki} {E:XK} {g:G} {H:Hp} {r:FR} {Q:VK},PostO K E g H (ret r) Q→PostR K E g H r Q) (m:Str) (cs:List (Str × Fn)):PrimM where
  need:=cs.map fun q=>nMeth q.1 m q.2
  parts:=methP cs m
  F:=methF ret cs m
  ok:=fun {k W c X e o es fo fs} ok nd h ho p=>by
    unfold methP at h
    split at h <;> try contradiction
    split at h <;> cases h
    rename_i hb
    unfold methB at hb
    simp only [Bool.and_eq_true,decide_eq_true_eq] at hb
    obtain ⟨⟨⟨⟨⟨rfl,h2⟩,h3⟩,h4⟩,h5⟩,h6⟩:=hb
    refine ⟨fun pins s σ H Q I q=>?_⟩
    obtain ⟨g,sl,mem,rs,rl,pp⟩:=q
    refine PySem.W.methodCall_KW (thn (ho.run pins s σ H _ I ⟨g,sl,mem,rs,rl,Post.bind pp⟩) fun u s1 ⟨v,H1,I1,rx,x,g1,m1,rs1,st1,r1,p1⟩=>?_) (meth_ht h2 h3 h4 h5)
    split at p1
    case h_2=>exact p1.elim
    rename_i f ef
    unfold methF at ef
    split at ef
    case h_2=>cases ef
    rename_i y
    split at ef
    case h_2=>cases ef
    rename_i F eF
    cases ef
    unfold methOf at eF
    split at eF
    case h_2=>cases eF
    rename_i cn ks xs ei
    split at eF
    case isTrue=>cases eF
    rename_i hk
    obtain ⟨a,dx,fs',rfl,h7,h8,rfl,h10⟩:=insO_ok rs1 r1 ei
    obtain ⟨fad,fd,n1,n2,fa⟩:=nd (nMeth cn _ F) (List.mem_map.mpr ⟨(cn,F),lookup_mem eF,rfl⟩)
    have hl:F.ps.length=es.length + 1:=by simpa using List.all_eq_true.mp h6 (cn,F) (lookup_mem eF)
    obtain rfl:u=Value.ref a:=rx
    refine getmeth_ok I1 h7 n1 n2 (noKey hk) ?_
    -- the arguments
    have tA1:tA X.ki W fs σ H1 fun vs H2=>spM X.ki F.ps.length F.M (.ref a :: vs) H2 Q (WE W σ):=by
      refine ⟨g1,sl,m1,rs1,rl.st st1,?_⟩
      cases e:fs sl m1 with
      | stuck=>rw [e] at p1;exact p1
      | exc c ks xs m'=>rw [e] at p1;exact p1
      | ok zs m2 =>
        rw [e] at p1
        intro g2 vs H2 rs2 st2 r2
        have p2:=Post.shift st2 p1
        have p2:PostO X.ki (WE W σ) g2 H2 (match vals zs with
          | some xs=>ret (F.M (y :: xs) m2)
          | none=>.stuck) Q:=p2
        split at p2
        · rename_i ys ev
          have r3:=vals_ok r2 ev
          have hz:=p.len _ _ _ _ e
          exact ⟨g2,m2,y :: ys,rs2,⟨_,_,rfl,RO.st (x:=.v y) r1 st2,r3⟩,by rw [List.length_cons,hl,r3.length,← Paired.length r2,hz],hret p2⟩
        · exact p2.elim
    cases es with
    | nil =>
      have e:=p.p0
      rw [e] at tA1
      obtain ⟨g3,s3,m3,rs3,rl3,p3⟩:=tA1
      have hsp:=p3 g3 [] H1 rs3 (Stp.refl _ _) .nil
      exact PySem.W.callWith_K0 (first:=[.ref a]) I1.kIn n2.kp (run_W (us:=[.ref a]) (vs:=[.ref a]) fa (ok.room fa.pos) ok.tk I1 (.cons rfl .nil) hsp)
    | cons b bs =>
      rw [List.all_cons,Bool.and_eq_true] at h4
      refine PySem.W.callWith_K (first:=[.ref a]) (h₀:=X.base) I.ok.mod.kin n2.kp (thn ((p.pa (by rw [List.all_cons,Bool.and_eq_true];exact h4)).run _ pins s1 σ H1 _ I1 tA1) fun us s2 ⟨vs,H2,I2,r,q2⟩=>⟨I2.kIn,?_⟩) (starP h4.1) (noStar h4.2)
      exact run_W (us:=.ref a :: us) (vs:=.ref a :: vs) fa (ok.room fa.pos) ok.tk I2 (.cons rfl r) q2
def pMeth (m:Str) (cs:List (Str × Fn)):PrimM:=pMethG retR (fun h=>post_ret h) m cs
end Rc

namespace Rc
open PySem PySem.Spec L2
open PyProof.Rows hiding St

mutual
def noRef (k:Nat):MV→Bool
  | .ref n=>decide (n < k)
  | .tup xs=>noRefs k xs
  | .lst xs=>noRefs k xs
  | .kl xs=>noRefs k xs
  | .ins _ _ xs=>noRefs k xs
  | .exn _ _ xs=>noRefs k xs
  | .dic ks xs=>noRefs k ks&&noRefs k xs
  | .dit ks xs=>noRefs k ks&&noRefs k xs
  | _=>true
def noRefs (k:Nat):List MV→Bool
  | []=>true
  | x :: xs=>noRef k x&&noRefs k xs
end
def noRefO (k:Nat):MO→Bool
  | .lst xs=>noRefs k xs
  | .ins _ _ xs=>noRefs k xs
  | .dic ks xs=>noRefs k ks&&noRefs k xs
  | .dit ks xs=>noRefs k ks&&noRefs k xs
section
variable {K:Ki} {g g':G} {k:Nat}
mutual
theorem RV.cut (hF:∀ a o,g.F a=some o→g'.F a=some o) (hr:∀ n a,n < k→g.r n=some a→g'.r n=some a):∀ (x:MV) {v:V},noRef k x=true→RV K g x v→RV K g' x v
  | .non,_,_,h=>h
  | .bl _,_,_,h=>h
  | .int _,_,_,h=>h
  | .str _,_,_,h=>h
  | .tup xs,_,e,⟨a,ys,e1,q,r⟩=>⟨a,ys,e1,SqT.monoF hF q,RVs.cut hF hr xs (by unfold noRef at e;exact e) r⟩
  | .lst xs,_,e,⟨a,ys,e1,q,r⟩=>⟨a,ys,e1,hF _ _ q,RVs.cut hF hr xs (by unfold noRef at e;exact e) r⟩
  | .kl xs,_,e,⟨a,ys,e1,q,r⟩=>⟨a,ys,e1,SqL.monoF hF q,RVs.cut hF hr xs (by unfold noRef at e;exact e) r⟩
  | .ref n,_,e,⟨a,e1,q⟩=>⟨a,e1,hr n a (by unfold noRef at e;exact of_decide_eq_true e) q⟩
  | .ins c ks xs,_,e,⟨a,dx,fs,e1,q,q2,q3,r⟩=>⟨a,dx,fs,e1,hF _ _ q,hF _ _ q2,q3,RVs.cut hF hr xs (by unfold noRef at e;exact e) r⟩
  | .exn c ks xs,_,e,⟨a,dx,φ,fs,e1,q,q1,q2,q3,r⟩=>⟨a,dx,φ,fs,e1,hF _ _ q,q1,hF _ _ q2,q3,RVs.cut hF hr xs (by unfold noRef at e;exact e) r⟩
  | .dic ks xs,_,e,⟨a,u,kvs,e1,q,q3,r,r2⟩=>by
    unfold noRef at e
    rw [Bool.and_eq_true] at e
    exact ⟨a,u,kvs,e1,hF _ _ q,q3,RVs.cut hF hr ks e.1 r,RVs.cut hF hr xs e.2 r2⟩
  | .kd _ _,_,_,h=>h
  | .cls _,_,_,h=>h
  | .dit ks xs,_,e,⟨a,u,kvs,e1,q,q3,r,r2⟩=>by
    unfold noRef at e
    rw [Bool.and_eq_true] at e
    exact ⟨a,u,kvs,e1,hF _ _ q,q3,RVs.cut hF hr ks e.1 r,RVs.cut hF hr xs e.2 r2⟩
theorem RVs.cut (hF:∀ a o,g.F a=some o→g'.F a=some o) (hr:∀ n a,n < k→g.r n=some a→g'.r n=some a):∀ (xs:List MV) {vs:List V},noRefs k xs=true→RVs K g xs vs→RVs K g' xs vs
  | [],_,_,h=>h
  | x :: xs,_,e,⟨v,r,e1,h,t⟩=>by
    unfold noRefs at e
    rw [Bool.and_eq_true] at e
    exact ⟨v,r,e1,RV.cut hF hr x e.1 h,RVs.cut hF hr xs e.2 t⟩
end
mutual
theorem RV.nr (hr:∀ n a,g.r n=some a→n < k):∀ (x:MV) {v:V},RV K g x v→noRef k x=true
  | .non,_,_=>rfl
  | .bl _,_,_=>rfl
  | .int _,_,_=>rfl
  | .str _,_,_=>rfl
  | .tup xs,_,⟨a,ys,e1,q,r⟩=>by unfold noRef;exact RVs.nr hr xs r
  | .lst xs,_,⟨a,ys,e1,q,r⟩=>by unfold noRef;exact RVs.nr hr xs r
  | .kl xs,_,⟨a,ys,e1,q,r⟩=>by unfold noRef;exact RVs.nr hr xs r
  | .ref n,_,⟨a,e1,q⟩=>by unfold noRef;exact decide_eq_true (hr n a q)
  | .ins c ks xs,_,⟨a,dx,fs,e1,q,q2,q3,r⟩=>by unfold noRef;exact RVs.nr hr xs r
  | .exn c ks xs,_,⟨a,dx,φ,fs,e1,q,q1,q2,q3,r⟩=>by unfold noRef;exact RVs.nr hr xs r
  | .dic ks xs,_,⟨a,u,kvs,e1,q,q3,r,r2⟩=>by unfold noRef;rw [RVs.nr hr ks r,RVs.nr hr xs r2];rfl
  | .kd _ _,_,_=>rfl
  | .cls _,_,_=>rfl
  | .dit ks xs,_,⟨a,u,kvs,e1,q,q3,r,r2⟩=>by unfold noRef;rw [RVs.nr hr ks r,RVs.nr hr xs r2];rfl
theorem RVs.nr (hr:∀ n a,g.r n=some a→n < k):∀ (xs:List MV) {vs:List V},RVs K g xs vs→noRefs k xs=true
  | [],_,_=>rfl
  | x :: xs,_,⟨v,r,e1,h,t⟩=>by unfold noRefs;rw [RV.nr hr x h,RVs.nr hr xs t];rfl
end
theorem objNr {H:Hp} {o:MO} {a:Addr} (hr:∀ n a,g.r n=some a→n < k) (h:ObjR K g o H a):noRefO k o=true:=by
  cases o with
  | lst xs=>obtain ⟨ys,q,r⟩:=h;exact RVs.nr hr xs r
  | ins c ks xs=>obtain ⟨dx,fs,q,q2,q3,r⟩:=h;exact RVs.nr hr xs r
  | dic ks xs=>obtain ⟨u,kvs,q,q3,r,r2⟩:=h;show (noRefs k ks&&noRefs k xs)=true;rw [RVs.nr hr ks r,RVs.nr hr xs r2];rfl
  | dit ks xs=>obtain ⟨u,kvs,q,q3,r,r2⟩:=h;show (noRefs k ks&&noRefs k xs)=true;rw [RVs.nr hr ks r,RVs.nr hr xs r2];rfl
theorem objCut {H:Hp} {o:MO} {a:Addr} (hF:∀ a o,g.F a=some o→g'.F a=some o) (hr:∀ n a,n < k→g.r n=some a→g'.r n=some a) (e:noRefO k o=true) (h:ObjR K g o H a):ObjR K g' o H a:=by
  cases o with
  | lst xs=>obtain ⟨ys,q,r⟩:=h;exact ⟨ys,q,RVs.cut hF hr xs e r⟩
  | ins c ks xs=>obtain ⟨dx,fs,q,q2,q3,r⟩:=h;exact ⟨dx,fs,q,hF _ _ q2,q3,RVs.cut hF hr xs e r⟩
  | dic ks xs =>
    obtain ⟨u,kvs,q,q3,r,r2⟩:=h
    have e:(noRefs k ks&&noRefs k xs)=true:=e
    rw [Bool.and_eq_true] at e
    exact ⟨u,kvs,q,q3,RVs.cut hF hr ks e.1 r,RVs.cut hF hr xs e.2 r2⟩
  | dit ks xs =>
    obtain ⟨u,kvs,q,q3,r,r2⟩:=h
    have e:(noRefs k ks&&noRefs k xs)=true:=e
    rw [Bool.and_eq_true] at e
    exact ⟨u,kvs,q,q3,RVs.cut hF hr ks e.1 r,RVs.cut hF hr xs e.2 r2⟩
end
def G.cut (g:G) (k:Nat):G:={ g with r:=fun n=>if n < k then g.r n else none }
section
variable {K:Ki} {g g2 g':G} {H H2 H':Hp} {m m':Mem}
theorem G.cutF {k:Nat}:∀ a o,g.F a=some o→(g.cut k).F a=some o:=fun _ _ h=>h
theorem G.cutR {k:Nat}:∀ n a,n < k→g.r n=some a→(g.cut k).r n=some a:=fun n a h e=>by
  show (if n < k then g.r n else none)=some a
  rw [if_pos h];exact e
theorem G.cut_r {k n:Nat} {a:Addr} (h:(g.cut k).r n=some a):n < k∧g.r n=some a:=by
  have h:(if n < k then g.r n else none)=some a:=h
  by_cases z:n < k
  · rw [if_pos z] at h;exact ⟨z,h⟩
  · rw [if_neg z] at h;cases h
theorem Rs.cut (rs:Rs K g m H) (rs':Rs K g' m' H') (hm:m'.take m.length=m):Rs K (g'.cut m.length) m H' where
  sub:=rs'.sub
  gr:=fun n o e=>by
    have hn:=(List.getElem?_eq_some_iff.mp e).1
    have e':m'[n]? = some (some o):=by
      rw [← hm,List.getElem?_take] at e
      rw [if_pos hn] at e;exact e
    obtain ⟨a,h1,h2,h3⟩:=rs'.gr n o e'
    obtain ⟨b,_,_,h4⟩:=rs.gr n o e
    exact ⟨a,G.cutR n a hn h1,h2,objCut G.cutF G.cutR (objNr (fun k a q=>(rs.rb k a q).1) h4) h3⟩
  rb:=fun n a e=>by
    obtain ⟨h1,h2⟩:=G.cut_r e
    exact ⟨h1,(rs'.rb n a h2).2⟩
  rj:=fun n k a e1 e2=>rs'.rj n k a (G.cut_r e1).2 (G.cut_r e2).2
  tb:=fun q hq=>(rs'.tb q hq).go rfl (fun _ _ e=>G.cutF _ _ e) (rs'.tb q hq).F fun n e=>(rs'.tb q hq).r n (G.cut_r e).2
theorem mk_start {x dx C:Addr} {c:Str} (rs:Rs K g m H) (hx:H x=none) (hd:H dx=none) (hne:dx≠x) (hC:K.ga c=C) :
    Rs K { F:=upd g.F dx (.own x),r:=fun n=>if n=m.length then some x else g.r n } (m++[some (.ins c [] [])]) (upd (upd H dx (.own x)) x (.ins C dx [])):=by
  obtain ⟨rs1,st1⟩:=rs.freeze (o:=.own x) hd
  have hx1:upd H dx (.own x) x=none:=by rw [upd_ne (Ne.symm hne)];exact hx
  obtain ⟨rs2,st2⟩:=rs1.grow (o:=.ins C dx []) hx1
  obtain ⟨f1,f2⟩:=rs1.free hx1
  refine rs2.adopt f1 f2 ⟨dx,[],by rw [hC];exact upd_same,?_,rfl,rfl⟩
  exact upd_same
theorem mk_back {x dx:Addr} {o:HO} (rs:Rs K g m H) (hx:H x=none) (hd:H dx=none) (st:Stp { F:=upd g.F dx (.own x),r:=fun n=>if n=m.length then some x else g.r n } (upd (upd H dx (.own x)) x o) g' H'):Stp g H (g'.cut m.length) H' where
  F:=fun a u e=>by
    refine st.F a u ?_
    show upd g.F dx (.own x) a=some u
    rw [upd_ne (fun z=>by have:=rs.sub _ _ e;rw [z,hd] at this;cases this)];exact e
  r:=fun n a e=>by
    have hn:=(rs.rb n a e).1
    refine G.cutR n a hn (st.r n a ?_)
    show (if n=m.length then some x else g.r n)=some a
    rw [if_neg (by omega)];exact e
  keep:=fun b u e hb nt=>by
    have n1:b≠x:=fun z=>by rw [z,hx] at e;cases e
    have n2:b≠dx:=fun z=>by rw [z,hd] at e;cases e
    refine st.keep b u (by rw [upd_ne n1,upd_ne n2];exact e) (fun n q=>?_) nt
    have q:(if n=m.length then some x else g.r n)=some b:=q
    by_cases z:n=m.length
    · rw [if_pos z] at q;cases q;exact n1 rfl
    · rw [if_neg z] at q;exact hb n q
  dom:=fun b e=>by
    have n1:b≠x:=fun z=>e (by rw [z];exact hx)
    have n2:b≠dx:=fun z=>e (by rw [z];exact hd)
    exact st.dom b (by rw [upd_ne n1,upd_ne n2];exact e)
  Fn:=fun b e=>by
    by_cases n1:b=x
    · exact .inr (.inl (by rw [n1];exact hx))
    by_cases n2:b=dx
    · exact .inr (.inl (by rw [n2];exact hd))
    rcases st.Fn b e with q | q | ⟨n,q⟩ | q
    · have q:upd g.F dx (.own x) b≠none:=q
      rw [upd_ne n2] at q;exact .inl q
    · rw [upd_ne n1,upd_ne n2] at q;exact .inr (.inl q)
    · have q:(if n=m.length then some x else g.r n)=some b:=q
      by_cases z:n=m.length
      · rw [if_pos z] at q;cases q;exact absurd rfl n1
      · rw [if_neg z] at q;exact .inr (.inr (.inl ⟨n,q⟩))
    · exact .inr (.inr (.inr q))
  rn:=fun n b e=>by
    obtain ⟨h1,h2⟩:=G.cut_r e
    by_cases n1:b=x
    · exact .inr (by rw [n1];exact hx)
    by_cases n2:b=dx
    · exact .inr (by rw [n2];exact hd)
    rcases st.rn n b h2 with q | q
    · have q:(if n=m.length then some x else g.r n)=some b:=q
      rw [if_neg (by omega)] at q;exact .inl q
    · rw [upd_ne n1,upd_ne n2] at q;exact .inr q
theorem Stp.base {x dx:Addr} {o:HO} (rs:Rs K g m H) (hx:H x=none) (hd:H dx=none):Stp g H { F:=upd g.F dx (.own x),r:=fun n=>if n=m.length then some x else g.r n } (upd (upd H dx (.own x)) x o) where
  F:=fun a u e=>by
    show upd g.F dx (.own x) a=some u
    rw [upd_ne (fun z=>by have:=rs.sub _ _ e;rw [z,hd] at this;cases this)];exact e
  r:=fun n a e=>by
    have hn:=(rs.rb n a e).1
    show (if n=m.length then some x else g.r n)=some a
    rw [if_neg (by omega)];exact e
  keep:=fun b u e hb nt=>by
    have n1:b≠x:=fun z=>by rw [z,hx] at e;cases e
    have n2:b≠dx:=fun z=>by rw [z,hd] at e;cases e
    rw [upd_ne n1,upd_ne n2];exact e
  dom:=fun b e=>by
    have n1:b≠x:=fun z=>e (by rw [z];exact hx)
    have n2:b≠dx:=fun z=>e (by rw [z];exact hd)
    rw [upd_ne n1,upd_ne n2];exact e
  Fn:=fun b e=>by
    by_cases n2:b=dx
    · exact .inr (.inl (by rw [n2];exact hd))
    · have e:upd g.F dx (.own x) b≠none:=e
      rw [upd_ne n2] at e;exact .inl e
  rn:=fun n b e=>by
    have e:(if n=m.length then some x else g.r n)=some b:=e
    by_cases z:n=m.length
    · rw [if_pos z] at e;cases e;exact .inr hx
    · rw [if_neg z] at e;exact .inl e
end
open Classical in
def mkR (c:Str) (m:Mem) (r:FR):R OV:=match r with
  | .ok .non m'=>(match m'[m.length]? with
    | some (some (.ins d ks xs))=>if d=c∧m'=m++[some (.ins c ks xs)]∧noRefs m.length xs=true then .ok (.v (.ins c ks xs)) m else .stuck
    | _=>.stuck)
  | .exc d ks xs m'=>if m'.take m.length=m∧noRefs m.length xs=true then .exc d ks xs m else .stuck
  | _=>.stuck
def mkF (c:Str) (M:Mir) (as:List OV) (m:Mem):R OV:=match vals as with
  | some xs=>mkR c m (M (.ref m.length :: xs) (m++[some (.ins c [] [])]))
  | none=>.stuck
def nMk (c:Str) (F:Fn):Need:=fun P w K mg base k=>∃ j f fd,j + 1≤k∧mg c=some (.ref (He.ga K c))∧Mk K (He.ga K c) f∧FnAt P w K mg base j f fd F
section
variable {K:Ki} {g:G} {H:Hp} {m:Mem} {E:XK} {Q:VK}
theorem mkR_ok {c:Str} {M:Mir} {xs:List MV} {x dx:Addr} (rs:Rs K g m H) (hx:H x=none) (hd:H dx=none) (hne:dx≠x) (p:PostO K E g H (mkR c m (M (.ref m.length :: xs) (m++[some (.ins c [] [])]))) Q) :
    PostR K E { F:=upd g.F dx (.own x),r:=fun n=>if n=m.length then some x else g.r n } (upd (upd H dx (.own x)) x (.ins (K.ga c) dx [])) (M (.ref m.length :: xs) (m++[some (.ins c [] [])])) fun v H2=>v=.non∧Q (.ref x) H2:=by
  cases e:M (.ref m.length :: xs) (m++[some (.ins c [] [])]) with
  | new o m'=>rw [e] at p;exact p.elim
  | stuck=>rw [e] at p;exact p.elim
  | exc d ks ys m' =>
    rw [e] at p
    unfold mkR at p
    dsimp only at p
    split at p
    · rename_i hc
      intro g' cls dd H' rs' st ⟨d2,fs,h1,h2,h3,h4,h5⟩
      exact p (g'.cut m.length) cls dd H' (rs.cut rs' hc.1) (mk_back rs hx hd st) ⟨d2,fs,h1,h2,h3,h4,RVs.cut G.cutF G.cutR _ hc.2 h5⟩
    · exact p.elim
  | ok y m' =>
    rw [e] at p
    cases y with
    | non =>
      unfold mkR at p
      dsimp only at p
      split at p
      · rename_i d ks ys em
        split at p
        · rename_i hc
          obtain ⟨rfl,rfl,hc⟩:=hc
          intro g' v H' rs' st rv
          refine ⟨rv,?_⟩
          have rs2:=rs.cut rs' (by simp)
          have st2:=mk_back rs hx hd st
          obtain ⟨a,q1,q2,q3⟩:=rs'.gr m.length _ em
          have ea:g'.r m.length=some x:=st.r m.length x (by simp)
          rw [ea] at q1;cases q1
          obtain ⟨dx',fs,h1,h2,h3,h4⟩:=q3
          have nr:∀ n,(g'.cut m.length).r n≠some x:=fun n q=>by
            obtain ⟨z1,z2⟩:=G.cut_r q
            have:=rs'.rj n m.length x z2 ea
            omega
          refine p _ _ H' (rs2.freezeAt h1 nr q2 (fun ps z=>by cases z)) (st2.frz hx q2) ⟨x,dx',fs,rfl,upd_same,?_,h3,?_⟩
          · show upd g'.F x _ dx'=_
            rw [upd_ne (fun z=>by rw [z,q2] at h2;cases h2)];exact h2
          · refine RVs.cut (g:=g') (g':={ F:=upd (g'.cut m.length).F x _,r:=(g'.cut m.length).r }) (k:=m.length) (fun a o q=>?_) (fun n a hn q=>G.cutR n a hn q) _ hc h4
            show upd g'.F x _ a=some o
            rw [upd_ne (fun z=>by rw [z,q2] at q;cases q)];exact q
        · exact p.elim
      · exact p.elim
    | _=>exact p.elim
end
def mkB (c:Str) (F:Fn) (cf:Cfg):Expr→Option (List Expr)
  | .Call (.Name x _) es [] _=>if (decide (x=c)&&gbB cf x&&es.all plainE&&decide (F.ps.length=es.length + 1))=true then some es else none
  | _=>none
section
variable {k:Nat} {W:WX} {c:Cfg} {X:Cx} {es:List Expr} {fs:Sl→Mem→R (List OV)}
theorem pe_mkT {cn:Str} {F:Fn} {T:Mem→FR→R OV} (hT:∀ {K:Ki} {g:G} {H:Hp} {m:Mem} {E:XK} {Q:VK} {xs:List MV} {x dx:Addr},Rs K g m H→H x=none→H dx=none→dx≠x →
      PostO K E g H (T m (F.M (.ref m.length :: xs) (m++[some (.ins cn [] [])]))) Q →
      PostR K E { F:=upd g.F dx (.own x),r:=fun n=>if n=m.length then some x else g.r n } (upd (upd H dx (.own x)) x (.ins (K.ga cn) dx [])) (F.M (.ref m.length :: xs) (m++[some (.ins cn [] [])])) fun v H2=>v=.non∧Q (.ref x) H2)
    {x:Str} {p pos:Pos} (ok:CtxOk k W c X) (nd:(nMk x F).at X k) (hx:x=cn) (hb:gbB c x=true) (hp:es.all plainE=true) (hl:F.ps.length=es.length + 1) (q:Parts X W es fs) :
    PE X (.Call (.Name x p) es [] pos) (tE X.ki W fun s m=>(fs s m).bind fun as m=>match vals as with
      | some xs=>T m (F.M (.ref m.length :: xs) (m++[some (.ins cn [] [])]))
      | none=>.stuck):=by
  subst hx
  obtain ⟨g1,g2,g3⟩:=ok.gl hb
  obtain ⟨j,f,fd,hj,hm,M,fa⟩:=nd
  have hr:Room (j + 1) X.A:=(ok.room (Nat.lt_of_lt_of_le (Nat.succ_pos j) hj)).mono hj
  refine ⟨fun pins s σ H Q I h=>?_⟩
  have hx:Passes (L2N.CX X.prog X.w) X (WE W σ)∨True:=.inr trivial
  -- run_make asks what is raised at any slots: its proof,at these
  have mk:∀ {H1:Hp} {s1:Shared} {us:List Value} {vs:List V},Inv X pins σ H1 s1→Vals vs us→(∀ y dx,H1 y=none→H1 dx=none→dx≠y→spM X.ki F.ps.length F.M (.ref y :: vs) (upd (upd H1 dx (.own y)) y (.ins (X.ki.ga x) dx [])) (fun v H2=>v=.non∧Q (.ref y) H2) (WE W σ)) →
      wpAny (model X.prog X.w) X.A (call (.ref (X.ki.ga x)) us) (EP X pins σ Q) X.xe s1:=by
    intro H1 s1 us vs I1 r hh
    have hq:=hh (s1.heap.objs.size + 1) s1.heap.objs.size (I1.hok.fresh (Nat.le_succ _)) (I1.hok.fresh (Nat.le_refl _)) (Nat.ne_of_lt (Nat.lt_succ_self _))
    have I2:=Inv.made (C:=X.ki.ga x) I1
    have r2:Vals (V.ref (s1.heap.objs.size + 1) :: vs) (Value.ref (s1.heap.objs.size + 1) :: us):=.cons rfl r
    have hl2:(Value.ref (s1.heap.objs.size + 1) :: us).length=F.ps.length:=by
      have e:=r2.length
      rw [fa.ok.len _ _ _ _ hq] at e
      exact e.symm
    have bt:=fa.bi { s1 with heap:=(s1.heap.push PySem.W.emptyDict).push (PySem.W.instObj (X.ki.ga x) s1.heap.objs.size) } (Value.ref (s1.heap.objs.size + 1) :: us) I2.kIn (by rw [List.append_nil];exact hl2)
    rw [List.append_nil] at bt
    refine wpAny_call (make_map (f:=f) I1.kIn M.makes M.init (beq_iff_eq.mp M.fn) (codeAny_mono (fa.ok.run _ X.stack _ _ ⟨Value.ref (s1.heap.objs.size + 1) :: us,[]⟩ (Value.ref (s1.heap.objs.size + 1) :: us) _ _ (WE W σ) (hr.make (X.ki.ga x) us [])
      (I2.env0.make (X.ki.ga x) us []) bt r2 hq) fun r s' hq'=>?_))
    cases r with
    | error e=>exact L2N.passAt ok.tk σ pins _ _ e s' I2 hq'
    | ok fl =>
      cases fl with
      | ret u =>
        obtain ⟨v,H',I3,rv,ev,q3⟩:=I2.after hq'
        subst ev
        exact ⟨rv,⟨V.ref (s1.heap.objs.size + 1),H',I3,rfl,q3⟩⟩
      | next=>exact False.elim hq'
      | brk=>exact False.elim hq'
      | cont=>exact False.elim hq'
  have tA1:tA X.ki W fs σ H fun vs H1=>∀ y dx,H1 y=none→H1 dx=none→dx≠y→spM X.ki F.ps.length F.M (.ref y :: vs) (upd (upd H1 dx (.own y)) y (.ins (X.ki.ga x) dx [])) (fun v H2=>v=.non∧Q (.ref y) H2) (WE W σ):=by
    obtain ⟨g,s',m,rs,rl,pp⟩:=h
    refine ⟨g,s',m,rs,rl,?_⟩
    have pp:PostO X.ki (WE W σ) g H ((fs s' m).bind fun as m=>match vals as with
      | some xs=>T m (F.M (.ref m.length :: xs) (m++[some (.ins x [] [])]))
      | none=>.stuck) Q:=pp
    cases e:fs s' m with
    | stuck=>rw [e] at pp;exact pp
    | exc c ks xs m'=>rw [e] at pp;exact pp
    | ok zs m1 =>
      rw [e] at pp
      intro g1 vs H1 rs1 st1 r1 y dx hy hdx hne
      have p1:=Post.shift st1 (show PostO X.ki (WE W σ) g H (match vals zs with
        | some xs=>T m1 (F.M (.ref m1.length :: xs) (m1++[some (.ins x [] [])]))
        | none=>.stuck) Q from pp)
      split at p1
      · rename_i ys ev
        have r3:=vals_ok r1 ev
        have hz:=q.len _ _ _ _ e
        refine ⟨_,m1++[some (.ins x [] [])],.ref m1.length :: ys,mk_start rs1 hy hdx hne rfl,⟨_,_,rfl,⟨y,rfl,by simp⟩,r3.st (Stp.base (o:=.ins (X.ki.ga x) dx []) rs1 hy hdx)⟩,by rw [List.length_cons,hl,r3.length,← Paired.length r1,hz],hT rs1 hy hdx hne p1⟩
      · exact p1.elim
  refine wpAny_Call_Name_kw (ld_glob I g1 hm ?_ g2)
  cases es with
  | nil =>
    have e:=q.p0
    rw [e] at tA1
    obtain ⟨g3,s3,m3,rs3,rl3,p3⟩:=tA1
    have hsp:=p3 g3 [] H rs3 (Stp.refl _ _) .nil
    exact PySem.W.callWith_K0 I.kIn M.kp (mk (us:=[]) I .nil hsp)
  | cons a as =>
    rw [List.all_cons,Bool.and_eq_true] at hp
    refine PySem.W.callWith_K (h₀:=X.base) I.ok.mod.kin M.kp (thn ((q.pa (by rw [List.all_cons,Bool.and_eq_true];exact hp)).run pos pins s σ H _ I tA1) fun us s1 ⟨vs,H1,I1,r,q⟩=>⟨I1.kIn,?_⟩) (starP hp.1) (noStar hp.2)
    exact mk I1 r q
end
def pMk (c:Str) (F:Fn):Prim where
  need:=[nMk c F]
  parts:=mkB c F
  F:=mkF c F.M
  ok:=fun ok nd h p=>by
    unfold mkB at h
    split at h <;> try contradiction
    split at h <;> cases h
    rename_i hb
    simp only [Bool.and_eq_true,decide_eq_true_eq] at hb
    obtain ⟨⟨⟨rfl,h2⟩,h3⟩,h4⟩:=hb
    exact pe_mkT (T:=mkR _) (fun rs hx hd hne p=>mkR_ok rs hx hd hne p) ok (nd _ (List.mem_singleton.mpr rfl)) rfl h2 h3 h4 p
end Rc

namespace Rc
open PySem PySem.Spec L2
open PyProof.Rows hiding St

def insC (m:Mem) (x:OV):Option Str:=(insO m x).map (·.1)
section
variable {k:Nat} {W:WX} {c:Cfg} {X:Cx}
end
def fPutK (f:Str):List Str→List Str
  | []=>[f]
  | k :: ks=>if k=f then k :: ks else k :: fPutK f ks
def fPutV (f:Str) (x:MV):List Str→List MV→List MV
  | k :: ks,y :: ys=>if k=f then x :: ys else y :: fPutV f x ks ys
  | [],_=>[x]
  | _,[]=>[x]
section
variable {K:Ki} {g:G} {H:Hp} {m:Mem}
theorem fPut_ok {f:Str} {x:MV} {v:V} (rx:RV K g x v):∀ {xs:List MV} {fs:List (Str × V)},RVs K g xs (fs.map (·.2))→(putF f v fs).map (·.1)=fPutK f (fs.map (·.1))∧RVs K g (fPutV f x (fs.map (·.1)) xs) ((putF f v fs).map (·.2))
  | _,[],r=>by
    cases (show _=[] from by
      have:=r.length
      exact List.length_eq_zero_iff.mp (by simpa using this))
    exact ⟨rfl,v,[],rfl,rx,rfl⟩
  | [],(k,u) :: fs,r=>by cases (show _=[] from r)
  | y :: xs,(k,u) :: fs,⟨w,t,e,h1,t1⟩=>by
    cases e
    show (if k=f then (k,v) :: fs else (k,u) :: putF f v fs).map (·.1)=(if k=f then k :: fs.map (·.1) else k :: fPutK f (fs.map (·.1)))∧RVs K g (if k=f then x :: xs else y :: fPutV f x (fs.map (·.1)) xs) ((if k=f then (k,v) :: fs else (k,u) :: putF f v fs).map (·.2))
    by_cases hk:k=f
    · simp only [if_pos hk]
      exact ⟨rfl,v,_,rfl,rx,t1⟩
    · simp only [if_neg hk]
      obtain ⟨q1,q2⟩:=fPut_ok rx (xs:=xs) (fs:=fs) t1
      exact ⟨by rw [List.map_cons,q1],u,_,rfl,h1,q2⟩
theorem Rs.setObjR {n:Nat} {a:Addr} {o:MO} {ho:HO} (rs:Rs K g m H) (hn:g.r n=some a) (hF:g.F a=none) (r:ObjR K g o (upd H a ho) a):Rs K g (m.set n (some o)) (upd H a ho)∧Stp g H g (upd H a ho):=by
  have hlt:=(rs.rb n a hn).1
  refine ⟨⟨fun b u e=>?_,fun k u e=>?_,fun k b e=>?_,rs.rj,fun q hq=>(rs.tb q hq).go (upd_ne fun z=>(rs.tb q hq).r n (z ▸ hn)) (fun _ _ e=>e) (rs.tb q hq).F (rs.tb q hq).r⟩,⟨fun _ _ e=>e,fun _ _ e=>e,fun b u e hb _=>?_,fun b e=>?_,fun b e=>.inl e,fun k b e=>.inl e⟩⟩
  · rw [upd_ne (fun z=>by rw [z,hF] at e;cases e)];exact rs.sub b u e
  · by_cases q:n=k
    · subst q
      rw [List.getElem?_set_self hlt] at e;cases e
      exact ⟨a,hn,hF,r⟩
    · rw [List.getElem?_set_ne q] at e
      obtain ⟨b,e1,e2,e3⟩:=rs.gr k u e
      have ne:b≠a:=fun z=>q (rs.rj n k a hn (z ▸ e1))
      exact ⟨b,e1,e2,ObjR.grow e3 (fun _ _ e=>e) (fun _ _ e=>e) (upd_ne ne)⟩
  · obtain ⟨h1,h2⟩:=rs.rb k b e
    refine ⟨by simpa using h1,?_⟩
    by_cases z:b=a
    · subst z;rw [upd_same];simp
    · rw [upd_ne z];exact h2
  · rw [upd_ne (fun z=>hb n (by rw [z];exact hn))];exact e
  · by_cases z:b=a
    · subst z;rw [upd_same];simp
    · rw [upd_ne z];exact e
end
def insL (m:Mem) (n:Nat):Option (Str × List Str × List MV):=match m[n]? with
  | some (some (.ins c ks xs))=>some (c,ks,xs)
  | _=>none
theorem insL_ok {m:Mem} {n:Nat} {c:Str} {ks:List Str} {xs:List MV} (h:insL m n=some (c,ks,xs)):m[n]? = some (some (.ins c ks xs)):=by
  unfold insL at h
  split at h
  · cases h;assumption
  · cases h
def fldSF (cs:List Str) (f:Str):List OV→Sl→Mem→SR
  | [.v x,.v (.ref n)],s,m=>(match insL m n with
    | some (c,ks,xs)=>if c∈cs∧ks.length < 1000 then .nx s (m.set n (some (.ins c (fPutK f ks) (fPutV f x ks xs)))) else .stuck
    | none=>.stuck)
  | _,_,_=>.stuck
theorem fldSF_inv {cs:List Str} {f:Str} {x z:OV} {s:Sl} {m:Mem} (h:fldSF cs f [x,z] s m≠.stuck):∃ x' n,x=.v x'∧z=.v (.ref n):=by
  unfold fldSF at h
  split at h
  · rename_i hh
    cases hh
    exact ⟨_,_,rfl,rfl⟩
  · exact absurd rfl h
theorem swAttr {v o:Expr} {f:Str} {p:Pos} {l:Nat} {env:Env}:swapsWith v (some (.Attribute o f p)) l env=pure false:=by
  cases v <;> rfl
def sFldSet (cs:List Str) (f:Str):PrimS where
  need:=cs.flatMap fun c=>[nIns c,nNo c f]
  parts:=fun _ st=>match st with
    | .Assign [.Attribute o a _] v _=>if a=f then some [v,o] else none
    | _=>none
  F:=fldSF cs f
  ok:=fun {k W c X e es fs} ok nd ht hk h p g0 H0=>by
    split at h <;> try contradiction
    split at h <;> cases h
    rename_i fn _ _ _ hb
    subst hb
    obtain ⟨fe,fo,e1,e2,e4⟩:=p.s2
    refine (ps_fld e2 e1 swAttr).weaken fun D σ H q=>?_
    obtain ⟨g,s,m,R,z,pp⟩:=tS_pre q
    rw [e4] at pp
    refine ⟨g,s,m,R.rs,R.rl,(PostS.bind R pp).imp fun v H1 ⟨x,g1,m1,rs1,st1,r1,p1⟩=>⟨g1,s,m1,rs1,R.rl.st st1,(PostS.bind (R.step rs1 st1) p1).imp fun w H2 ⟨y,g2,m2,rs2,st2,r2,p2⟩=>?_⟩⟩
    obtain ⟨x',n,rfl,rfl⟩:=fldSF_inv p2.ns
    have rx:=RO.st r1 st2
    obtain ⟨a,rfl,hn⟩:=r2
    unfold fldSF at p2
    dsimp only at p2
    split at p2
    · rename_i cn ks xs ei
      obtain ⟨b,q1,q2,dx,fs',q3,q4,rfl,q6⟩:=rs2.gr n _ (insL_ok ei)
      rw [hn] at q1;cases q1
      split at p2
      · rename_i hc
        have n1:(nIns cn).at X k:=nd _ (List.mem_flatMap.mpr ⟨cn,hc.1,List.mem_cons_self⟩)
        have n2:(nNo cn _).at X k:=nd _ (List.mem_flatMap.mpr ⟨cn,hc.1,List.mem_cons_of_mem _ List.mem_cons_self⟩)
        obtain ⟨u1,u2⟩:=fPut_ok (f:=fn) rx q6
        obtain ⟨rs3,st3⟩:=rs2.setObjR hn q2 (o:=.ins cn _ _) (ho:=.ins (X.ki.ga cn) dx (putF _ v fs')) ⟨dx,_,upd_same,q4,u1,u2⟩
        exact ⟨a,_,dx,fs',rfl,q3,n1.cl,n2,by simpa using hc.2,p2 g2 σ _ ((((R.step rs1 st1).step rs2 st2).step rs3 st3)) (Fle.refl _)⟩
      · exact p2.elim
    · exact p2.elim

def spreadV {α:Type} (d:α) (ps ks:List Str) (ws:List α):List α:=ps.map fun x=>ws.getD (ks.idxOf x) d
def kwB:List Str→List Keyword→Option (List Expr)
  | [],[]=>some []
  | k :: ks,⟨some x,e,_⟩ :: r=>if k=x then (kwB ks r).map (e :: ·) else none
  | _,_=>none
theorem kwB_ok {pos:Pos} {env:Env}:∀ {ks:List Str} {kws:List Keyword} {es:List Expr},kwB ks kws=some es→(backToKw pos (keywordEach kws env)).all (·.1.isSome)=true∧(backToKw pos (keywordEach kws env)).filterMap (·.1)=ks∧ks.length=es.length∧(backToKw pos (keywordEach kws env)).any (·.1.isNone)=false
  | [],[],_,h=>by cases h;exact ⟨rfl,rfl,rfl,rfl⟩
  | [],_ :: _,_,h=>by cases h
  | k :: ks,[],_,h=>by cases h
  | k :: ks,⟨none,_,_⟩ :: r,_,h=>by cases h
  | k :: ks,⟨some x,e,p⟩ :: r,es,h=>by
    have h:(if k=x then (kwB ks r).map (e :: ·) else none)=some es:=h
    split at h <;> try contradiction
    obtain ⟨es',h',rfl⟩:=Option.map_eq_some_iff.mp h
    obtain ⟨h1,h2,h3,h4⟩:=kwB_ok (pos:=pos) (env:=env) h'
    subst x
    refine ⟨?_,?_,by simp [h3],?_⟩
    · show (true&&(backToKw pos (keywordEach r env)).all (·.1.isSome))=true
      rw [h1];rfl
    · show k :: (backToKw pos (keywordEach r env)).filterMap (·.1)=k :: ks
      rw [h2]
    · show (false || (backToKw pos (keywordEach r env)).any (·.1.isNone))=false
      rw [h4];rfl
theorem _root_.L2.PK.weaken {X:Cx} {es:List Keyword} {t t':TA} (h:PK X es t) (w:∀ σ H Q,t' σ H Q→t σ H Q):PK X es t':=⟨fun pos pins s σ H Q I q=>h.run pos pins s σ H Q I (w σ H Q q)⟩
theorem Parts.pk {X:Cx} {W:WX}:∀ {ks:List Str} {kws:List Keyword} {es:List Expr} {fs:Sl→Mem→R (List OV)},kwB ks kws=some es→Parts X W es fs→PK X kws (tA X.ki W fs)
  | [],[],_,fs,h,p=>by
    cases h
    rw [p.p0]
    exact pk_nil.weaken fun σ H Q q=>tA_nil q
  | [],_ :: _,_,_,h,_=>by cases h
  | k :: ks,[],_,_,h,_=>by cases h
  | k :: ks,⟨none,_,_⟩ :: r,_,_,h,_=>by cases h
  | k :: ks,⟨some x,e,pp⟩ :: r,es,fs,h,p=>by
    have h:(if k=x then (kwB ks r).map (e :: ·) else none)=some es:=h
    split at h <;> try contradiction
    obtain ⟨es',h',rfl⟩:=Option.map_eq_some_iff.mp h
    cases p with
    | cons a q=>exact (pk_cons a (Parts.pk h' q)).weaken fun σ H Q q=>tA_cons q
theorem RVs.getD {K:Ki} {g:G} {xs:List MV} {vs:List V} (r:RVs K g xs vs) (i:Nat):RV K g (xs.getD i .non) (vs.getD i .non):=by
  by_cases h:i < xs.length
  · obtain ⟨v,h1,h2⟩:=r.get (i:=i) (x:=xs[i]) (by simp [h])
    rw [List.getD_eq_getElem?_getD,List.getD_eq_getElem?_getD,h1,List.getElem?_eq_getElem h]
    exact h2
  · rw [List.getD_eq_getElem?_getD,List.getD_eq_getElem?_getD,List.getElem?_eq_none (by omega),List.getElem?_eq_none (by rw [← r.length];omega)]
    exact rfl
theorem RVs.mapD {K:Ki} {g:G} {α:Type} {f:α→MV} {h:α→V} (e:∀ x,RV K g (f x) (h x)):∀ ps:List α,RVs K g (ps.map f) (ps.map h)
  | []=>rfl
  | p :: ps=>⟨_,_,rfl,e p,RVs.mapD e ps⟩
theorem RVs.spread {K:Ki} {g:G} {xs:List MV} {vs:List V} (r:RVs K g xs vs) (ps ks:List Str):RVs K g (spreadV .non ps ks xs) (spreadV .non ps ks vs):=RVs.mapD (fun x=>r.getD _) ps
theorem Vals.getD {vs:List V} {us:List Value} (r:Vals vs us) (i:Nat):RelV (vs.getD i .non) (us.getD i .none):=by
  by_cases h:i < vs.length
  · obtain ⟨u,h1,h2⟩:=r.get (i:=i) (x:=vs[i]) (by simp [h])
    rw [List.getD_eq_getElem?_getD,List.getD_eq_getElem?_getD,h1,List.getElem?_eq_getElem h]
    exact h2
  · rw [List.getD_eq_getElem?_getD,List.getD_eq_getElem?_getD,List.getElem?_eq_none (by omega),List.getElem?_eq_none (by rw [← r.length];omega)]
    exact rfl
theorem Vals.mapV {α:Type} {f:α→V} {h:α→Value} (e:∀ x,RelV (f x) (h x)):∀ ps:List α,Vals (ps.map f) (ps.map h)
  | []=>.nil
  | p :: ps=>.cons (e p) (Vals.mapV e ps)
def nFnK (F:Fn) (ks:List Str):Need:=fun P w K mg base k=>∃ f fd,mg F.name=some (.ref f)∧FnAt P w K mg base k f fd F∧∀ (s:Shared) (ws:List Value),ws.length=ks.length→BindsTo s fd ⟨[],ks.zip ws⟩ (F.ps.zip (spreadV .none F.ps ks ws))
def callK (F:Fn) (ks:List Str) (as:List OV) (m:Mem):R OV:=match vals as with
  | some ys=>retR (F.M (spreadV .non F.ps ks ys) m)
  | none=>.stuck
def pCallK (F:Fn) (ks:List Str):Prim where
  need:=[nFnK F ks]
  parts:=fun c e=>match e with
    | .Call (.Name x _) [] kws _=>if (decide (x=F.name)&&gbB c x)=true then kwB ks kws else none
    | _=>none
  F:=callK F ks
  ok:=fun {k W c X e es fs} ok nd h p=>by
    split at h <;> try contradiction
    split at h <;> try contradiction
    rename_i kws _ hb
    simp only [Bool.and_eq_true,decide_eq_true_eq] at hb
    obtain ⟨rfl,h2⟩:=hb
    obtain ⟨g1,g2,g3⟩:=ok.gl h2
    obtain ⟨f,fd,hm,fa,hbt⟩:=nd _ (List.mem_singleton.mpr rfl)
    obtain ⟨k1,k2,k3,k4⟩:=kwB_ok (pos:=‹Pos›) (env:=X.env) h
    refine ⟨fun pins s σ H Q I q=>?_⟩
    have tA1:tA X.ki W fs σ H fun vs H1=>vs.length=ks.length∧spM X.ki F.ps.length F.M (spreadV .non F.ps ks vs) H1 Q (WE W σ):=by
      obtain ⟨g,s',m,rs,rl,pp⟩:=q
      refine ⟨g,s',m,rs,rl,?_⟩
      have pp:PostO X.ki (WE W σ) g H ((fs s' m).bind (callK F ks)) Q:=pp
      cases e:fs s' m with
      | stuck=>rw [e] at pp;exact pp
      | exc c ks xs m'=>rw [e] at pp;exact pp
      | ok zs m1 =>
        rw [e] at pp
        intro g1 vs H1 rs1 st1 r1
        have p1:=Post.shift st1 (show PostO X.ki (WE W σ) g H (callK F ks zs m1) Q from pp)
        unfold callK at p1
        split at p1
        · rename_i ys ev
          have r3:=vals_ok r1 ev
          have hz:=p.len _ _ _ _ e
          exact ⟨by rw [← Paired.length r1,hz,k3],g1,m1,_,rs1,r3.spread _ _,by simp [spreadV],post_ret p1⟩
        · exact p1.elim
    refine wpAny_Call_Name_kw (ld_glob I g1 hm ?_ g2)
    refine PySem.W.callWith_KW0 (h₀:=X.base) I.ok.mod.kin fa.kp k1 (thn ((p.pk h).run _ pins s σ H _ I tA1) fun ws s2 ⟨zs,H2,I2,rz,hl,q2⟩=>⟨I2.kIn,?_⟩) (by rw [k4];rfl)
    rw [k2]
    have r2:Vals (spreadV .non F.ps ks zs) (spreadV .none F.ps ks ws):=Vals.mapV (fun x=>Vals.getD rz _) F.ps
    refine wpAny_call (codeAny_mono (fa.ok.run X.A X.stack s2 H2 ⟨[],ks.zip ws⟩ _ _ Q (WE W σ) (ok.room fa.pos) I2.env0 (hbt s2 ws (rz.length ▸ hl)) r2 q2) fun r s' hq=>?_)
    cases r with
    | error e=>exact L2N.passAt ok.tk σ pins H2 s2 e s' I2 hq
    | ok fl =>
      cases fl with
      | ret u=>exact I2.after hq
      | next=>exact False.elim hq
      | brk=>exact False.elim hq
      | cont=>exact False.elim hq
end Rc

namespace Rc
open PySem PySem.Spec L2
open PyProof.Rows hiding St

def call2 (nm:Str) (c:Cfg):Expr→Option (List Expr)
  | .Call (.Name x _) [a,b] [] _=>if (decide (x=nm)&&btB c x&&plainE a&&plainE b&&c.calm)=true then some [a,b] else none
  | _=>none
theorem call2_ok {nm:Str} {c:Cfg} {e:Expr} {es:List Expr} (h:call2 nm c e=some es):∃ p a b pos,e=.Call (.Name nm p) [a,b] [] pos∧btB c nm=true∧plainE a=true∧plainE b=true∧c.calm=true∧es=[a,b]:=by
  unfold call2 at h
  split at h <;> try contradiction
  split at h <;> cases h
  rename_i hb
  simp only [Bool.and_eq_true,decide_eq_true_eq] at hb
  obtain ⟨⟨⟨⟨rfl,h2⟩,h3⟩,h4⟩,h5⟩:=hb
  exact ⟨_,_,_,_,rfl,h2,h3,h4,h5,rfl⟩
def tB2 (K:Ki) (f:OV→OV→Mem→R OV):List V→Hp→VK→Prop:=fun vs H Q=>∃ v w,vs=[v,w]∧t2 K f v w H Q
theorem tE_tN2 {K:Ki} {W:WX} {σ:St} {H:Hp} {Q:VK} {fa fb:Sl→Mem→R OV} {f:OV→OV→Mem→R OV} (h:tE K W (fun s m=>(fa s m).bind fun x m=>(fb s m).bind fun y m=>f x y m) σ H Q) :
    tCB (tB2 K f) (tCons (tE K W fa) (tCons (tE K W fb) tNil)) σ H Q:=by
  obtain ⟨g,s,m,rs,rl,p⟩:=h
  exact ⟨g,s,m,rs,rl,(Post.bind p).imp fun v H1 ⟨x,g1,m1,rs1,st1,r1,p1⟩=>⟨g1,s,m1,rs1,rl.st st1,(Post.bind p1).imp fun w H2 ⟨y,g2,m2,rs2,st2,r2,p2⟩=>⟨v,w,rfl,_,g2,m2,x,y,rs2,RO.st r1 st2,r2,p2⟩⟩⟩
section
variable {k:Nat} {W:WX} {c:Cfg} {X:Cx} {e:Expr} {es:List Expr} {fs:Sl→Mem→R (List OV)}
theorem c2B {nm:Str} {id:String} {f:OV→OV→Mem→R OV} (ok:CtxOk k W c X) (h:call2 nm c e=some es) (p:Parts X W es fs) (hc:X.calm=true→CallR X (.builtin id) (tB2 X.ki f)) (hv:bootBuiltins nm=some (.builtin id)):PE X e (tE X.ki W fun s m=>(fs s m).bind (F2 f)):=by
  obtain ⟨q,a,b,pos,rfl,h2,h3,h4,h5,rfl⟩:=call2_ok h
  obtain ⟨g1,g2,g3,g4⟩:=ok.bt h2
  obtain ⟨fa,fb,e1,e2,e3⟩:=p.f2 (f:=f)
  rw [e3]
  exact (pe_callB (hc (ok.calm h5)) g1 g2 hv (pa_cons e1 (pa_cons e2 pa_nil (starP h4)) (starP h3)) g4 g3 (starP h3) (by rw [starP h4];rfl)).weaken fun σ H Q h=>tE_tN2 h
end
def max2F (x y:OV) (m:Mem):R OV:=match x,y with
  | .v (.int i),.v (.int j)=>.ok (.v (.int (if j > i then j else i))) m
  | _,_=>.stuck
theorem cb_max2 {X:Cx} (hc:X.calm=true):CallR X (.builtin "max") (tB2 X.ki max2F):=by
  refine (call_max2 hc).weaken ?_
  rintro xs H Q ⟨v,w,rfl,E,g,m,a,b,rs,ra,rb,p⟩
  unfold max2F at p
  split at p
  · cases ra;cases rb;exact ⟨_,_,rfl,post_val rs p rfl⟩
  · exact p.elim
def pMax2:Prim:={ parts:=call2 "max",F:=F2 max2F,ok:=fun ok nd h p=>c2B ok h p cb_max2 boot_max }

def idxS (w:Str):List Str→Option Nat
  | []=>none
  | x :: xs=>if x=w then some 0 else (idxS w xs).map (· + 1)
theorem idxS_ok {w:Str}:∀ {xs:List Str} {j:Nat},idxS w xs=some j→xs[j]? = some w∧∀ i,i < j→∀ z,xs[i]? = some z→z≠w
  | [],_,h=>by cases h
  | x :: xs,j,h=>by
    unfold idxS at h
    split at h
    · cases h
      subst_vars
      exact ⟨rfl,fun i hi=>absurd hi (Nat.not_lt_zero _)⟩
    · rename_i ne
      obtain ⟨k,e,rfl⟩:=Option.map_eq_some_iff.mp h
      obtain ⟨h1,h2⟩:=idxS_ok e
      refine ⟨by simpa using h1,fun i hi z hz=>?_⟩
      cases i with
      | zero=>cases hz;exact ne
      | succ i=>exact h2 i (by omega) z (by simpa using hz)
def indexF (zs:List Str) (as:List OV) (m:Mem):R OV:=match as with
  | [.v (.str w)]=>(match idxS w zs with
    | some j=>.ok (.v (.int j)) m
    | none=>.stuck)
  | _=>.stuck
def lstM (f:List Str→List OV→Mem→R OV):OV→Mem→Option (List OV→Mem→R OV)
  | .v (.lst xs),_=>(strsOf xs).map f
  | _,_=>none
theorem lstM_ok {f:List Str→List OV→Mem→R OV} {x:OV} {m:Mem} {r:List OV→Mem→R OV} (h:lstM f x m=some r):∃ xs zs,x=.v (.lst xs)∧strsOf xs=some zs∧r=f zs:=by
  unfold lstM at h
  split at h
  · obtain ⟨zs,e,rfl⟩:=Option.map_eq_some_iff.mp h
    exact ⟨_,_,rfl,e,rfl⟩
  · cases h
def pIndex:PrimM where
  parts:=fun c e=>match e with
    | .Call (.Attribute o m ap) [a] [] p=>if (decide (m=("index":Str))&&(ap.endLine == p.line)&&plainE a&&noCall o)=true then some (o,[a]) else none
    | _=>none
  F:=lstM indexF
  ok:=fun {k W c X e o es fo fs} ok nd h ho p=>by
    split at h <;> try contradiction
    split at h <;> cases h
    rename_i hb
    simp only [Bool.and_eq_true,decide_eq_true_eq] at hb
    obtain ⟨⟨⟨rfl,h2⟩,h3⟩,h4⟩:=hb
    obtain ⟨fa,e1,e3⟩:=p.p1
    refine (pe_bm F.plainAttrs_list F.slot_list_index F.type_list_index mt_index ho (pa_cons e1 pa_nil (starP h3)) (attrP h4) (by rw [starP h3];rfl) h2 (starP h3) rfl).weaken fun σ H Q q=>?_
    obtain ⟨g,s,m,rs,rl,pp⟩:=q
    refine ⟨g,s,m,rs,rl,(Post.bind pp).imp fun v H1 ⟨x,g1,m1,rs1,st1,r1,p1⟩=>?_⟩
    split at p1
    case h_2=>exact p1.elim
    rename_i hr
    obtain ⟨xs,zs,rfl,e2,rfl⟩:=lstM_ok hr
    obtain ⟨b,ys,rfl,q,rv⟩:=r1
    have hys:=strsOf_ok e2 rv
    subst hys
    refine ⟨.inl ⟨rfl,_,.of (rs1.sub _ _ q)⟩,g1,s,m1,rs1,rl.st st1,?_⟩
    have e4:=congrFun (congrFun (e3 (indexF zs)) s) m1
    have p1:PostO X.ki (WE W σ) g1 H1 ((fs s m1).bind (indexF zs)) Q:=p1
    rw [e4] at p1
    refine (Post.bind p1).imp fun w H2 ⟨y,g2,m2,rs2,st2,r2,p2⟩=>?_
    unfold indexF at p2
    split at p2 <;> try exact p2.elim
    rename_i he
    split at p2
    · rename_i j e5
      cases he
      cases (show w=V.str _ from r2)
      obtain ⟨i1,i2⟩:=idxS_ok e5
      refine ⟨b,zs.map V.str,_,j,_,rfl,rfl,.of (rs2.sub _ _ (st2.F _ _ q)),rfl,List.all_eq_true.mpr ?_,by rw [List.getElem?_map,i1];rfl,by simp [eqV],fun i z hi hz=>?_,post_val rs2 p2 rfl⟩
      · intro z hz
        obtain ⟨u,_,rfl⟩:=List.mem_map.mp hz
        rfl
      · rw [List.getElem?_map] at hz
        obtain ⟨u,hu,rfl⟩:=Option.map_eq_some_iff.mp hz
        have:=i2 i hi u hu
        simpa [eqV] using this
    · exact p2.elim
end Rc

namespace Rc
open PySem PySem.Spec L2
open PyProof.Rows hiding St

theorem cxUpN {P:Program} {w:World}:StX.CXUp (L2N.CX P w):=by
  rintro outer s H s2 H2 E e s' un kp ho ⟨a,B,H',cls,d,ea,fl,hok,ub,na,os,ag,he⟩
  refine ⟨a,B,H',cls,d,ea,fl,hok,⟨fun b o q n hb=>ub.keep b o (kp b o q) (un.free b o q n (by simp)) hb,fun b o q hb=>ub.slot b o (kp b o q) hb,fun b o q n=>ub.free b o (kp b o q) (un.free b o q n (by simp)),
    fun b o q hb=>ub.there b o (kp b o q) hb,fun b xs q=>ub.tups b xs (un.tups b xs q),fun b o xs q=>ub.frzs b o xs (un.frzs b o xs q),fun b ps q=>?_⟩,na,os.trans ho,ag,he⟩
  obtain ⟨m1,e1⟩:=un.tbls b ps q
  obtain ⟨m2,e2⟩:=ub.tbls b _ e1
  exact ⟨m1++m2,by rw [e2,Array.append_assoc]⟩
theorem RVs.split {K:Ki} {g:G}:∀ {xs ys:List MV} {vs:List V},RVs K g (xs++ys) vs→∃ us ws,vs=us++ws∧RVs K g xs us∧RVs K g ys ws
  | [],_,vs,h=>⟨[],vs,rfl,rfl,h⟩
  | x :: xs,ys,_,⟨v,r,e,h,t⟩=>by
    obtain ⟨us,ws,e2,h1,h2⟩:=RVs.split (xs:=xs) (ys:=ys) t
    exact ⟨v :: us,ws,by rw [e,e2];rfl,⟨v,us,rfl,h,h1⟩,h2⟩
def spV (K:Ki) (n:Nat) (M:Mir):Sp:=fun vs H Q E=>∃ g m as rest,Rs K g m H∧RVs K g (as++rest) vs∧as.length=n∧rest.length≤sizeLine∧PostR K E g H (M (as++[.tup rest]) m) Q
structure FnAtV (P:Program) (w:World) (K:PySem.W.Frag) (mg:Str→Option Value) (base:Heap) (k:Nat) (f:Addr) (F:Fn):Prop where
  ok:FnR P w K mg base (L2N.CX P w) k f (spV ⟨K,P,w⟩ (F.ps.length - 1) F.M)
  kp:PySem.W.keepIn K (.ref f)=true
  pos:0 < k
section
variable {P:Program} {w:World} {K:PySem.W.Frag} {mg:Str→Option Value} {base:Heap} {k:Nat} {f:Addr} {fd:FuncData} {qual:Str} {params:Arguments} {body:List Stmt} {scope:Scope} {N:List Str} {blts:List Str} {cst:List (Str × MV)} {x:Str}
theorem FnAtV.mono {j k:Nat} {F:Fn} (c:FnAtV P w K mg base j f F) (h:j≤k):FnAtV P w K mg base k f F:=⟨c.ok.mono h,c.kp,Nat.lt_of_lt_of_le c.pos h⟩
theorem spV_sp {ps:List Str} {M:Mir} {vs:List V} {H:Hp} {Q:VK} {E:XK} (h:spV ⟨K,P,w⟩ ps.length M vs H Q E) :
    ∃ ws rest,vs=ws++rest∧ws.length=ps.length∧rest.length≤sizeLine∧∀ p,H p=Option.none→spM ⟨K,P,w⟩ (ps.length + 1) M (ws++[V.ref p]) (upd H p (.tup rest)) Q E:=by
  obtain ⟨g,m,as,rest,rs,r,hl,hz,p⟩:=h
  obtain ⟨us,ws,rfl,r1,r2⟩:=RVs.split r
  refine ⟨us,ws,rfl,by rw [← r1.length,hl],by rw [← r2.length];exact hz,fun a ha=>?_⟩
  obtain ⟨rs',st⟩:=rs.freeze (o:=.tup ws) ha
  exact ⟨_,m,as++[.tup rest],rs',RVs.append (r1.st st) (RVs.one (show RV ⟨K,P,w⟩ _ (.tup rest) (V.ref a) from ⟨a,ws,rfl,.of upd_same,r2.st st⟩)),by simp [hl],p.shift st⟩
theorem FnAtV.of (F:Fn) {ps:List Str} {pv:Str} (FD:FunD K x qual params body scope [] [] f fd) (hps:F.ps=ps++[pv]) (S:FnScope N F.ps scope) (mo:ModOk ⟨K,P,w⟩ mg blts cst) {B:MSs} (nd:All (fun n:Need=>n P w K mg base k) B.needs) (hB:mSs B ⟨N,scope,blts,cst,true,true,false⟩ body=true)
    (hM:∀ as m,as.length=F.ps.length→F.M as m≠.stuck→runD N.length B as m=F.M as m)
    (hb:∀ (kV doc pm:Value) (an:Option Addr) (cdv ct:Value) (us rest:List Value),us.length=ps.length→bindArgs (PySem.W.fnOf x qual params body scope .none kV doc pm an cdv ct) ⟨us++rest,[]⟩=(newTuple rest >>= fun t=>pure (ps.zip us++[(pv,t)]))):FnAtV P w K mg base (k + 1) f F:=by
  obtain ⟨oc,od,dV,kV,doc,pm,an,cdv,ct,osl,rfl,lk,hcd,hD,hK⟩:=FD.ex
  rcases hD with ⟨_,rfl⟩ | ⟨e,_⟩
  · refine ⟨FnR.imp (StX.fn_star (sp:=spM ⟨K,P,w⟩ F.ps.length F.M) lk hcd (by rw [← hps];exact S) cxUpN (hb kV doc pm an cdv ct) fun A outer s H vs Q E hr h=>body_ok S mo nd hB hM hr (W:=fun cls d _ H'=>E cls d H') (L2N.takes_of rfl rfl rfl rfl) (fun _ _ _ _ q=>q) (fun z=>by cases z) h) fun vs H Q E h=>?_,FD.kp,Nat.succ_pos k⟩
    have e:F.ps.length=ps.length + 1:=by rw [hps];simp
    rw [e,Nat.add_sub_cancel] at h
    rw [e]
    exact spV_sp h
  · exact absurd rfl e
end
end Rc

namespace Rc
open PySem PySem.Spec L2
open PyProof.Rows hiding St

end Rc

namespace Rc
open PySem PySem.Spec L2
open PyProof.Rows hiding St

def kdGet (a b:OV):Option (Option Int):=match b with
  | .v (.kd ks is)=>(match a with
    | .v (.str z)=>some ((ks.zip is).lookup z)
    | _=>none)
  | _=>none
def inKd (f:Bool→Bool) (a b:OV) (m:Mem):R OV:=match kdGet a b with
  | some r=>.ok (.v (.bl (f r.isSome))) m
  | none=>.stuck
def ixKd (b a:OV) (m:Mem):R OV:=match kdGet a b with
  | some (some i)=>.ok (.v (.int i)) m
  | _=>.stuck
theorem kdGet_ok {K:Ki} {g:G} {H:Hp} {a b:OV} {x y:V} {r:Option Int} (ra:RO K g H a x) (rb:RO K g H b y) (e:kdGet a b=some r):∃ z p es n u,x=.str z∧y=.ref p∧KDict K.K K.w p es n∧PySem.W.nsIn K.K p z=some u∧KdV u r:=by
  unfold kdGet at e
  split at e
  · rename_i ks is
    split at e
    · rename_i z
      cases e
      obtain ⟨p,rfl,⟨⟨es,n,h1,h2⟩,h3,h4⟩⟩:=rb
      obtain ⟨u,e1,e2⟩:=h4 z
      exact ⟨z,p,es,n,u,ra,rfl,⟨h1,h2,h3⟩,e1,e2⟩
    · cases e
  · cases e
theorem kdV_some {u:Option Value} {r:Option Int} (h:KdV u r):u.isSome=r.isSome:=by
  cases u <;> cases r <;> first | rfl | exact h.elim
section
variable {X:Cx}
theorem op_notinKd:OpR X (compareOp .NotIn) (t2 X.ki (inKd (!·))):=by
  rintro pins s σ H x y v u Q I rx ry ⟨E,g,m,a,b,rs,ra,rb,p⟩
  unfold inKd at p
  cases e:kdGet a b with
  | none=>rw [e] at p;exact p.elim
  | some r =>
    rw [e] at p
    obtain ⟨z,d,es,n,w,rfl,rfl,D,e1,e2⟩:=kdGet_ok ra rb e
    refine op_notIn_kd D pins s σ H _ _ v u Q I rx ry ⟨z,w,rfl,rfl,e1,?_⟩
    rw [kdV_some e2]
    exact p g _ H rs (Stp.refl _ _) rfl
theorem ix_kd:IxR X (t2 X.ki ixKd):=by
  rintro value slice pins s σ H x y v u Q I rx ry ⟨E,g,m,a,b,rs,ra,rb,p⟩ hs
  unfold ixKd at p
  cases e:kdGet b a with
  | none=>rw [e] at p;exact p.elim
  | some r =>
    rw [e] at p
    obtain ⟨z,d,es,n,w,rfl,rfl,D,e1,e2⟩:=kdGet_ok rb ra e
    cases r with
    | none=>exact p.elim
    | some i =>
      cases w with
      | none=>exact e2.elim
      | some w =>
        obtain ⟨t,rfl⟩:=e2
        exact ix_kdict value slice pins s σ H _ _ v u Q I rx ry ⟨d,z,.int i,rfl,rfl,⟨es,n,_,D.at_,D.lit,e1,⟨t,rfl⟩⟩,p g _ H rs (Stp.refl _ _) rfl⟩ hs
end
def cNotinKd:PrimC:={ op:=cmpB .NotIn,F:=inKd (!·),ok:=fun ok nd h=>by cases cmpB_ok h;exact op_notinKd }
def pIxKd:Prim where
  parts:=fun _ e=>match e with
    | .Subscript x y _=>if plainIx y=true then some [x,y] else none
    | _=>none
  F:=F2 ixKd
  ok:=fun ok nd h p=>by
    split at h <;> try contradiction
    split at h <;> cases h
    obtain ⟨fa,fb,h1,h2,h3⟩:=p.f2 (f:=ixKd)
    rw [h3]
    exact (pe_ix ix_kd h1 h2 (plainIxP (by assumption))).weaken fun σ H Q q=>tE_bin q
def boolR (f:Bool→Bool) (r:FR):R OV:=match r with
  | .ok (.bl b) m=>.ok (.v (.bl (f b))) m
  | _=>.stuck
def inMF (f:Bool→Bool) (cs:List (Str × Fn)) (a b:OV) (m:Mem):R OV:=match a,b with
  | .v x,.v y=>(match insC m (.v y) with
    | some c=>(match cs.lookup c with
      | some F=>boolR f (F.M [y,x] m)
      | none=>.stuck)
    | none=>.stuck)
  | _,_=>.stuck
def nCont (c:Str) (F:Fn):Need:=fun P w K mg base k=>∃ f fd,Cls K (He.ga K c)∧Meth K (He.ga K c) ("__contains__":Str) f∧F.ps.length=2∧FnAt P w K mg base k f fd F
section
variable {k:Nat} {W:WX} {c:Cfg} {X:Cx}
theorem inM_core (ok:CtxOk k W c X) {f:Bool→Bool} {cs:List (Str × Fn)} (nd:∀ n∈cs.map fun q=>nCont q.1 q.2,n.at X k) {pins:List (Addr × Obj)} {s:Shared} {σ:St} {H:Hp} {x y:V} {v u:Value} {Q:VK} (I:Inv X pins σ H s) (rx:RelV x v) (ry:RelV y u) (h:t2 X.ki (inMF f cs) x y H Q) :
    ∃ (d:Addr) (C:Addr) (fa:Addr) (ox:Obj) (od:Option Obj),u=.ref d∧PySem.W.InstAt s.heap d ox C od∧PySem.W.findIn X.K (.ref C) "__contains__" = some (some (.ref fa))∧PySem.W.isFn X.K (.ref fa)=true ∧
      wpAny (model X.prog X.w) X.A (call (.ref fa) [.ref d,v]) (fun r s'=>∃ b,r=.bool b∧EP X pins σ Q (.bool (f b)) s') X.xe s:=by
  obtain ⟨E,g,m,a,b,rs,ra,rb,p⟩:=h
  unfold inMF at p
  split at p
  case h_2=>exact p.elim
  rename_i x' y'
  split at p
  case h_2=>exact p.elim
  rename_i cn ei
  split at p
  case h_2=>exact p.elim
  rename_i F eF
  unfold insC at ei
  obtain ⟨⟨cn',ks,zs⟩,ei2,rfl⟩:=Option.map_eq_some_iff.mp ei
  obtain ⟨d,dx,fs',rfl,h7,h8,h9,h10⟩:=insO_ok rs rb ei2
  obtain ⟨fa,fd,n1,n2,hl,fn⟩:=nd _ (List.mem_map.mpr ⟨_,lookup_mem eF,rfl⟩)
  obtain ⟨mA,J,_⟩:=ins_get I.hok h7
  obtain ⟨od,J,_⟩:=J.look
  cases (show u=Value.ref d from ry)
  refine ⟨d,_,fa,_,_,rfl,J,n2.at_,n2.fn,?_⟩
  have hsp:spM X.ki F.ps.length F.M [.ref d,x] H (fun v H2=>∃ z:Bool,v=.bl z∧Q (.bl (f z)) H2) (WE W σ):=by
    refine ⟨g,m,[y',x'],rs,⟨_,_,rfl,rb,.one ra⟩,hl.symm,?_⟩
    cases e:F.M [y',x'] m with
    | ok z m' =>
      rw [e] at p
      unfold boolR at p
      cases z with
      | bl z=>exact fun g' v H' rs' st' rv=>⟨z,rv,p g' _ H' rs' st' rfl⟩
      | _=>exact p.elim
    | new o m'=>rw [e] at p;exact p.elim
    | exc d ks xs m'=>rw [e] at p;exact p.elim
    | stuck=>rw [e] at p;exact p.elim
  refine wpAny_mono (run_W fn (ok.room fn.pos) ok.tk I (.cons (show RelV (V.ref d) (Value.ref d) from rfl) (.cons rx .nil)) hsp) (fun r s' hq=>?_) fun _ _ z=>z
  obtain ⟨z,H',I',rz,w,rfl,q⟩:=hq
  exact ⟨w,rz,.bl (f w),H',I',rfl,q⟩
end
def cInM (cs:List (Str × Fn)):PrimC where
  need:=cs.map fun q=>nCont q.1 q.2
  op:=cmpB .In
  F:=inMF id cs
  ok:=fun {k W c X o} ok nd h=>by
    cases cmpB_ok h
    intro pins s σ H x y v u Q I rx ry h
    obtain ⟨d,C,fa,ox,od,rfl,J,e1,e2,hc⟩:=inM_core ok nd I rx ry h
    obtain ⟨mm,hF⟩:=I.fr
    refine PySem.W.in_K hF I.ok.mod.kin J e1 e2 (wpAny_mono hc (fun r s' hq=>?_) fun _ _ z=>z)
    obtain ⟨b,rfl,q⟩:=hq
    exact wpAny_pure q
theorem RVs.reverse {K:Ki} {g:G}:∀ {xs:List MV} {vs:List V},RVs K g xs vs→RVs K g xs.reverse vs.reverse
  | [],_,h=>by cases (show _=[] from h);exact rfl
  | x :: xs,_,⟨v,r,e,h,t⟩=>by
    subst e
    rw [List.reverse_cons,List.reverse_cons]
    exact (RVs.reverse t).append (.one h)
end Rc

namespace Rc
open PySem PySem.Spec L2
open PyProof.Rows hiding St

def kdv1 (e:DictEntry) (k:Str) (i:Int):Bool:=match e.key with
  | .str x _=>(match e.val with
    | .int j _=>decide (x=k)&&decide (j=i)
    | _=>false)
  | _=>false
def kdvE:List DictEntry→List Str→List Int→Bool
  | [],[],[]=>true
  | e :: es,k :: ks,i :: is=>kdv1 e k i&&kdvE es ks is
  | _,_,_=>false
def kdvB (K:PySem.W.Frag) (a:Addr) (ks:List Str) (is:List Int):Bool:=match K.lookup a with
  | some ⟨_,_,.dict es _,_⟩=>kdvE es.toList ks is
  | _=>false
def emptyT:Option Obj→Bool
  | some ⟨.none,none,.fields vs,sl⟩=>vs.isEmpty&&sl.isEmpty
  | _=>false
def codeT (P:Addr):Option Obj→Bool
  | some ⟨.type t,_,.fields vs,_⟩=>decide (t="code")&&(match (vs.toList[11]?:Option Value),(vs.toList[18]?:Option Value),(vs.toList[7]?:Option Value),(vs.toList[9]?:Option Value),(vs.toList[10]?:Option Value) with
    | some (.ref b),some (.str _ _),some (.int _ _),some (.bool _),some (.int _ _)=>decide (b=P)
    | _,_,_,_,_=>false)
  | _=>false
def tabB (K:PySem.W.Frag) (g:Addr→Option Obj) (p:Addr × Addr × Str):Bool:=emptyT (g p.2.1)&&((K.lookup p.2.1).isNone&&(codeT p.2.1 (K.lookup p.1)&&decide (p.1≠p.2.1)))
def dist:List Addr→Bool
  | []=>true
  | a :: r=>!(r.contains a)&&dist r
def tabsB (K:PySem.W.Frag) (g:Addr→Option Obj):Bool:=(tabsOf K).all (tabB K g)&&dist ((tabsOf K).map (·.2.1))
structure TabsH (K:PySem.W.Frag) (h:Heap):Prop where
  emp:∀ p∈tabsOf K,h.get? p.2.1=some { cls:=.none,data:=.fields #[] }
  out:∀ p∈tabsOf K,K.lookup p.2.1=none
  hd:∀ p∈tabsOf K,PySem.W.CodeHd h p.1 p.2.1
  one:∀ p∈tabsOf K,∀ q∈tabsOf K,p.2.1=q.2.1→p=q
theorem emptyT_ok {o:Option Obj} (h:emptyT o=true):o=some { cls:=.none,data:=.fields #[] }:=by
  unfold emptyT at h
  split at h
  · rw [Bool.and_eq_true] at h
    rw [Array.isEmpty_iff.mp h.1,Array.isEmpty_iff.mp h.2]
  · cases h
theorem arrD_of {vs:Array Value} {i:Nat} {v:Value} (h:vs.toList[i]? = some v):vs.getD i .none=v:=by
  rw [Array.getElem?_toList] at h
  rw [Array.getD_eq_getD_getElem?,h];rfl
theorem codeT_ok {K:PySem.W.Frag} {h:Heap} (X:K.In h) {c P:Addr} (e:codeT P (K.lookup c)=true) (ne:c≠P):PySem.W.CodeHd h c P:=by
  cases q:K.lookup c with
  | none=>rw [q] at e;cases e
  | some o =>
    rw [q] at e
    unfold codeT at e
    split at e
    · rename_i t od vs sl ho
      rw [Bool.and_eq_true] at e
      obtain ⟨e1,e2⟩:=e
      cases ho
      split at e2
      · rename_i b z tz i ti bb j tj q11 q18 q7 q9 q10
        have e2:=of_decide_eq_true e2
        subst e2
        refine ⟨_,vs,z,tz,i,ti,bb,j,tj,X _ _ q,by rw [of_decide_eq_true e1],rfl,?_,arrD_of q11,arrD_of q18,arrD_of q7,arrD_of q9,arrD_of q10,ne⟩
        rw [← Array.getElem?_toList]
        exact q11
      · cases e2
    · cases e
theorem dist_ok:∀ {l:List (Addr × Addr × Str)},dist (l.map (·.2.1))=true→∀ p∈l,∀ q∈l,p.2.1=q.2.1→p=q
  | [],_,p,hp,_,_,_=>by cases hp
  | a :: l,h,p,hp,q,hq,e=>by
    have h:(!((l.map (·.2.1)).contains a.2.1)&&dist (l.map (·.2.1)))=true:=h
    rw [Bool.and_eq_true,Bool.not_eq_true'] at h
    have no:∀ x∈l,x.2.1≠a.2.1:=fun x hx z=>by
      have:(l.map (·.2.1)).contains a.2.1=true:=by
        rw [List.contains_iff_mem,← z]
        exact List.mem_map.mpr ⟨x,hx,rfl⟩
      rw [h.1] at this;cases this
    rcases List.mem_cons.mp hp with rfl | hp <;> rcases List.mem_cons.mp hq with rfl | hq
    · rfl
    · exact absurd e.symm (no _ (by assumption))
    · exact absurd e (no _ (by assumption))
    · exact dist_ok h.2 p hp q hq e
theorem tabsB_ok {K:PySem.W.Frag} {h:Heap} (X:K.In h) (e:tabsB K h.get? = true):TabsH K h:=by
  unfold tabsB at e
  rw [Bool.and_eq_true] at e
  have e1:=fun p hp=>List.all_eq_true.mp e.1 p hp
  have e2:∀ p∈tabsOf K,emptyT (h.get? p.2.1)=true∧(K.lookup p.2.1).isNone=true∧codeT p.2.1 (K.lookup p.1)=true∧p.1≠p.2.1:=fun p hp=>by
    have q:=e1 p hp
    unfold tabB at q
    simp only [Bool.and_eq_true,decide_eq_true_eq] at q
    exact q
  exact ⟨fun p hp=>emptyT_ok (e2 p hp).1,fun p hp=>Option.isNone_iff_eq_none.mp (e2 p hp).2.1,fun p hp=>codeT_ok X (e2 p hp).2.2.1 (e2 p hp).2.2.2,dist_ok e.2⟩
theorem TabsH.keeps {K:PySem.W.Frag} {h h':Heap} (t:TabsH K h) (k:∀ b o,h.get? b=some o→h'.get? b=some o):TabsH K h' :=
  ⟨fun p hp=>k _ _ (t.emp p hp),t.out,fun p hp=>(t.hd p hp).keeps k,t.one⟩
inductive Xf where
  | ins (c:Str)
  | kit (s t:Ty) (b:Bool)
  | con (c f:Str) (i:Int)
  | kdv (x:Str) (ks:List Str) (is:List Int)
  | say (p:PySem.W.Frag→Bool)
def Xf.ok (K:PySem.W.Frag):Xf→Bool
  | .ins c=>(He.Fa.cls c).ok K&&(He.eqO (PySem.W.findIn K (.ref (He.ga K c)) "__class__") (some (some (.builtin "object.__class__")))&&(He.eqO (PySem.W.specialIn K (.builtin "object.__class__") "__get__") (some (some (.builtin "getset_descriptor.__get__")))&&(decide (PySem.W.takesIn K (.builtin "object.__class__")=some true)&&decide (PySem.W.mroIn K (He.ga K c) (.type "object")=some true))))
  | .kit s t b=>decide (PySem.W.kitOne K (match s with
    | .b s=>.type s
    | .own c=>.ref (He.ga K c)) (match t with
    | .b s=>.type s
    | .own c=>.ref (He.ga K c))=some b)
  | .con c f i=>PySem.W.readsIn K (He.ga K c) (.type "type")&&(He.eqO (PySem.W.specialIn K (.ref (He.ga K c)) "__getattribute__") (some (some (.builtin "type.__getattribute__")))&&(match PySem.W.findCls K (.ref (He.ga K c)) (.type "type") f with
    | some (.val (.int j _))=>decide (j=i)
    | _=>false))
  | .kdv x ks is=>kdvB K (He.ga K x) ks is
  | .say p=>p K
section
variable {K:PySem.W.Frag}
theorem ins_ok {c:Str} (h:(Xf.ins c).ok K=true):ClsI K (He.ga K c):=by
  obtain ⟨h1,h⟩:=He.ba h
  obtain ⟨h2,h⟩:=He.ba h
  obtain ⟨h3,h⟩:=He.ba h
  obtain ⟨h4,h5⟩:=He.ba h
  exact ⟨He.cls_ok h1,He.eqO_ok h2,He.eqO_ok h3,of_decide_eq_true h4,of_decide_eq_true h5⟩
theorem say_ok {p:PySem.W.Frag→Bool} (h:(Xf.say p).ok K=true):p K=true:=h
theorem con_ok {c f:Str} {i:Int} (h:(Xf.con c f i).ok K=true):∃ mc t,ClX.CRead K (He.ga K c) mc∧PySem.W.findCls K (.ref (He.ga K c)) mc f=some (.val (.int i t)):=by
  obtain ⟨h1,h⟩:=He.ba h
  obtain ⟨h2,h3⟩:=He.ba h
  refine ⟨.type "type",?_⟩
  split at h3
  · rename_i j t e
    cases of_decide_eq_true h3
    exact ⟨t,⟨h1,He.eqO_ok h2⟩,e⟩
  · cases h3
end
structure ErrD where
  x:Str
  g:Str
  f:Str
  params:Arguments
  body:List Stmt
  scope:Scope
abbrev ErrV:Type:=Option (Str × Str × Arguments × FuncBody × Scope × Addr × List Str × Addr)
structure OwnD where
  ad:PySem.W.Frag→Addr
  name:Str
  qual:Str
  clo:List Str
  params:Arguments
  body:List Stmt
  scope:Scope
def ownV (K:PySem.W.Frag) (f:Addr):ErrV:=match K.lookup f with
  | some ⟨_,_,.func fd,_⟩=>some (fd.name,fd.qualname,fd.params,fd.body,fd.scope,fd.globals,fd.closure.map (·.1),fd.builtins)
  | _=>none
def OwnD.val (d:OwnD):ErrV:=some (d.name,d.qual,d.params,.stmts d.body,d.scope,mainGlobals,d.clo,builtinsNs)
def errV (K:PySem.W.Frag) (x:Str):ErrV:=match K.lookup (He.ma K (He.ga K x) "__init__") with
  | some ⟨_,_,.func fd,_⟩=>some (fd.name,fd.qualname,fd.params,fd.body,fd.scope,fd.globals,fd.closure.map (·.1),fd.builtins)
  | _=>none
def ErrD.val (d:ErrD):ErrV:=some ("__init__",d.x++".__init__",d.params,.stmts d.body,d.scope,mainGlobals,["__class__"],builtinsNs)
def ErrD.own (d:ErrD):OwnD:=⟨fun K=>He.ma K (He.ga K d.x) "__init__","__init__",d.x++".__init__",["__class__"],d.params,d.body,d.scope⟩
abbrev AlX:Type:=He.AlD × List (Option (List (Option (Str × Int)))) × List ErrV × Bool
def obsF (fa:List He.Fa) (xf:List Xf) (fn:List He.DefD) (ts:List He.Tab) (er:List OwnD) (K:PySem.W.Frag) (g:Addr→Option Obj):AlX:=(((He.obsD fa fn K).1&&xf.all fun x=>x.ok K,(He.obsD fa fn K).2),ts.map fun t=>He.dicW K (t.1 K),er.map fun d=>ownV K (d.ad K),tabsB K g)
def valX (fn:List He.DefD) (ts:List He.Tab) (er:List OwnD) (w:World):AlX:=(He.valD fn,(ts.map fun t=>some (He.keysIn w.params t.2)),er.map OwnD.val,true)
structure SaysF (fa:List He.Fa) (xf:List Xf) (fn:List He.DefD) (ts:List He.Tab) (er:List OwnD) (w:World) (K:PySem.W.Frag) (h:Heap):Prop where
  f:((He.obsD fa fn K).1&&xf.all fun x=>x.ok K,(He.obsD fa fn K).2)=He.valD fn
  t:(ts.map fun t=>He.dicW K (t.1 K))=ts.map fun t=>some (He.keysIn w.params t.2)
  e:(er.map fun d=>ownV K (d.ad K))=er.map OwnD.val
  b:TabsH K h
section
variable {fa:List He.Fa} {xf:List Xf} {fn:List He.DefD} {ts:List He.Tab} {er:List OwnD} {w:World} {K:PySem.W.Frag} {h:Heap}
theorem SaysF.d (c:SaysF fa xf fn ts er w K h):He.SaysD fa fn K:=by
  have e1:((He.obsD fa fn K).1&&xf.all fun x=>x.ok K)=true:=congrArg (fun z:He.AlD=>z.1) c.f
  have e2:(He.obsD fa fn K).2=(He.valD fn).2:=by
    have e:=congrArg Prod.snd c.f
    exact e
  exact Prod.ext (Bool.and_eq_true_iff.mp e1).1 e2
theorem SaysF.x (c:SaysF fa xf fn ts er w K h) (i:Nat) {f:Xf} (e:xf[i]? = some f:=by rfl):f.ok K=true:=by
  have e1:((He.obsD fa fn K).1&&xf.all fun x=>x.ok K)=true:=congrArg (fun z:He.AlD=>z.1) c.f
  exact List.all_eq_true.mp (Bool.and_eq_true_iff.mp e1).2 f (List.mem_of_getElem? e)
theorem SaysF.err (c:SaysF fa xf fn ts er w K h) (i:Nat) {d:OwnD} (e:er[i]? = some d:=by rfl):ownV K (d.ad K)=d.val:=by
  have e2:(er.map fun d=>ownV K (d.ad K))[i]? = (er.map OwnD.val)[i]?:=by rw [c.e]
  rw [List.getElem?_map,List.getElem?_map,e] at e2
  exact Option.some.inj e2
theorem SaysF.dic (c:SaysF fa xf fn ts er w K h) (i:Nat) {t:He.Tab} (e:ts[i]? = some t:=by rfl):∃ es n,KDict K w (t.1 K) es n:=by
  have e2:(ts.map fun t=>He.dicW K (t.1 K))[i]? = (ts.map fun t=>some (He.keysIn w.params t.2))[i]?:=by rw [c.t]
  rw [List.getElem?_map,List.getElem?_map,e] at e2
  exact He.dicW_ok (Option.some.inj e2)
end
section
variable {K:PySem.W.Frag} {x qual:Str} {params:Arguments} {body:List Stmt} {scope:Scope} {kws:List (Str × V)} {f:Addr} {fd:FuncData}
theorem _root_.L2.FunD.kwBinds (FD:FunD K x qual params body scope [] kws f fd) {ks:List (Str × Value)} (bs:List (Str × Value))
    (h:∀ (kV doc pm:Value) (an:Option Addr) (cdv ct:Value),bindArgs (PySem.W.fnOf x qual params body scope .none kV doc pm an cdv ct) ⟨[],ks⟩=pure bs) (s:Shared):BindsTo s fd ⟨[],ks⟩ bs:=by
  obtain ⟨oc,od,dV,kV,doc,pm,an,cdv,ct,osl,rfl,lk,hcd,hD,hK⟩:=FD.ex
  rcases hD with ⟨_,rfl⟩ | ⟨e,_⟩
  · exact .of_eq (h kV doc pm an cdv ct)
  · exact absurd rfl e
end
theorem lawAt {l:PySem.W.OpenLaw} {w:World} {K:PySem.W.Frag} {mg:Str→Option Value} {fa:Addr} {h:Heap} {fd:FuncData} {k:Nat} {x:Str} {M:Mir} (b:TabsH K h) (hb:∀ (s:Shared) (v:Value),BindsTo s fd ⟨[v],[]⟩ [(x,v)])
    (ht:∀ ns:List Int,ns.length≤63→∃ m',M [.kl (ns.map .int)] []=.ok (.bl true) m')
    (hF:∀ base:Heap,K.In base→base.Ns mainGlobals mg→(∀ p∈(tabsOf K).map (fun p=>(p.1,p.2.1)),LamX.TabB base mg p.1 p.2)→FnOk l.prog w K mg base CX0 k fa fd [x] (fun vs H Q E=>spM ⟨K,l.prog,w⟩ 1 M vs H Q (fun _ _ _=>False))):LamX.LawAtS l w K CX0 k 63 x mg fa h:=by
  have go:∀ p∈(tabsOf K).map (fun p=>(p.1,p.2.1)),∃ q∈tabsOf K,q.1=p.1∧q.2.1=p.2:=fun p hp=>by
    obtain ⟨q,hq,rfl⟩:=List.mem_map.mp hp
    exact ⟨q,hq,rfl,rfl⟩
  refine ⟨fd,(tabsOf K).map (fun p=>(p.1,p.2.1)),_,fun p hp=>?_,fun p hp=>?_,fun p hp=>?_,hb,fun H a ns hl _ hT hS=>?_,hF⟩
  · obtain ⟨q,hq,e1,e2⟩:=go p hp
    rw [← e2];exact b.emp q hq
  · obtain ⟨q,hq,e1,e2⟩:=go p hp
    rw [← e2];exact b.out q hq
  · obtain ⟨q,hq,e1,e2⟩:=go p hp
    rw [← e2,← e1];exact b.hd q hq
  · exact law_end (fun q hq=>hT _ (List.mem_map.mpr ⟨q,hq,rfl⟩)) hS (ht ns hl)
end Rc

set_option maxHeartbeats 4000000
namespace Rc
open PySem PySem.Spec L2
open PyProof.Rows hiding St
structure BaseI where
  B:String
  new:String
  init:String
  tail:List Value
def bVE:BaseI:=⟨"ValueError","ValueError.__new__","ValueError.__init__",[.type "ValueError",.type "Exception",.type "BaseException",.type "object"]⟩
structure BaseOk (b:BaseI):Prop where
  fac:ExcBaseFacts b.B b.new b.init b.tail
  kx:PySem.W.KxsFacts b.B b.init
  pass:∀ self:Value,refuseLoop self "__setattr__" b.tail=pure ()
  obj:b.tail.contains (.type "object")=true
  ne:b.tail.isEmpty=false
  quiet:∀ a:Args,Code.quiet (.builtin b.init a)=true
theorem bVE_ok:BaseOk bVE:=⟨F.excBase_ValueError,PySem.W.kxs_ValueError,F.store_ValueError.passes,by decide +kernel,rfl,fun _=>Code.quiet_builtin _ (by decide +kernel)⟩
def isRefV:Value→Bool
  | .ref _=>true
  | _=>false
theorem isRefV_ok {v:Value} (h:isRefV v=true):∃ c,v=.ref c:=by
  cases v <;> first | (cases h;done) | exact ⟨_,rfl⟩
def refsB (t:List Value):List Value→Bool
  | []=>t.isEmpty
  | v :: r=>(isRefV v&&refsB t r) || ((v :: r) == t)
theorem refsB_ind {t:List Value} {P:List Value→Prop} (h0:P t) (h1:∀ c r,P r→P (.ref c :: r)):∀ l,refsB t l=true→P l
  | [],e=>by
    obtain rfl:t=[]:=List.isEmpty_iff.mp e
    exact h0
  | v :: r,e=>by
    rcases Bool.or_eq_true_iff.mp (show ((isRefV v&&refsB t r) || ((v :: r) == t))=true from e) with e | e
    · obtain ⟨e1,e2⟩:=Bool.and_eq_true_iff.mp e
      obtain ⟨c,rfl⟩:=isRefV_ok e1
      exact h1 c r (refsB_ind h0 h1 r e2)
    · rw [beq_iff_eq.mp e]
      exact h0
section
variable {b:BaseI}
theorem BaseOk.passes (k:BaseOk b) (self:Value):∀ l,refsB b.tail l=true→refuseLoop self "__setattr__" l=pure () :=
  refsB_ind (k.pass self) fun c r h=>(refuseLoop_ref self "__setattr__" c r).trans h
theorem BaseOk.has (k:BaseOk b) (Y:String):∀ l,refsB b.tail l=true→l.contains (.type Y)=b.tail.contains (.type Y) :=
  refsB_ind rfl fun c r h=>by
    rw [List.contains_cons,h]
    rfl
theorem BaseOk.full (k:BaseOk b):∀ l,refsB b.tail l=true→l.isEmpty=false:=refsB_ind k.ne fun _ _ _=>rfl
end
section
open PySem.W PySem.Calls PySem.HandSPX PySem.OEX Builtin Builtin.ObjectAttr
variable {b:BaseI} {prog:Program} {w:World} {A:Around} {E:Value→Shared→Prop} {R:Result→Shared→Prop} {hp:Heap} {g:Array GenState} {d:Drawn} {t:Nat} {os:OsState}
variable {K:PySem.W.Frag} {name:Str} {tk:Tok} {v:Value} {x C:Addr} {fv:Array Value} {cd:ClassData}
theorem osa_new (k:BaseOk b) (X:K.In hp) (hx:hp.get? x=some { cls:=.ref C,data:=.fields fv }) (hcd:PySem.W.clsIn K C=some cd) (hm:refsB b.tail cd.mro=true) (hh:cd.hasDict=true) (ha:PySem.W.findIn K (.ref C) name=some none)
    (hq:∀ h' tk' dx,(∀ c o,c≠x→hp.get? c=some o→h'.get? c=some o)→hp.objs.size≤dx→dx≠x→h'.get? x=some { cls:=.ref C,dict:=some dx,data:=.fields fv } →
      h'.Ns1 dx (fun y=>if y=name then some v else none)→R (.ok (.ret .none)) ⟨h',g,d,tk',os⟩):codeAny (model prog w) A (.call (.builtin "object.__setattr__") ⟨[.ref x,.str name tk,v],[]⟩) R ⟨hp,g,d,t,os⟩:=by
  have at_:PySem.W.InstAt hp x { cls:=.ref C,data:=.fields fv } C none:=⟨hx,rfl,rfl,trivial⟩
  have st:=F.store_object
  have full:=k.full _ hm
  have obj:=(k.has "object" _ hm).trans k.obj
  have ox:x≠hp.objs.size:=Nat.ne_of_lt (Heap.lt_size hx)
  have is_:PySem.W.Looks (model prog w) hp (isInstance (.ref x) (.type "object")) true:=at_.type.andThen (PySem.W.looks_mroIn X (by unfold PySem.W.mroIn;rw [hcd,Option.bind_some,if_neg (by rw [full];decide),obj]))
  refine codeAny_call_builtin st.slot.plain st.entry (@PySem.W.check_slot (model prog w) _ _ ⟨hp,g,d,t,os⟩ "object.__setattr__" "object" "__setattr__" (.ref x) [.str name tk,v] [] _ st.kind st.split is_ (st.args (.ref x) (.str name tk) v) ?_)
  have mro:PySem.W.Looks (model prog w) hp (mroOf (.ref C)) cd.mro:=(PySem.W.looks_clsIn X hcd).andThen .now
  have taker:PySem.W.Looks (model prog w) hp (storeTaker? none) none:=.now
  have data:PySem.W.Looks (model prog w) hp (classData C) cd:=PySem.W.looks_clsIn X hcd
  rw [PySem.W.osa_eq,refuse_eq]
  refine wpAny_bind (wpAny_bind (at_.type.at (wpAny_bind (mro.at ?_))))
  rw [k.passes _ _ hm]
  refine wpAny_pure (wpAny_bind (at_.type.at (wpAny_bind ((PySem.W.looks_findIn X ha).at (wpAny_bind (taker.at ?_))))))
  show wpAny _ _ (storeInOwnDict (.ref x) (.ref C) (.str name tk) name v false) _ _ _
  obtain ⟨c1,c2,c3,c4,c5,c6,c7,c8,c9,c10,c11⟩:=cd
  dsimp only at hh
  subst hh
  unfold storeInOwnDict ownDictForStores
  repeat (first | with_reducible refine store_in_new ?_ ?_ | with_reducible refine wpAny_loadPart_at hx ?_ | with_reducible refine data.at ?_ | wp_step)
  · exact ⟨_,#[],_,(Heap.get?_update_ne _ _ _ _ ox.symm).trans (Heap.get?_push_at rfl rfl),rfl,fun e he=>absurd he (by simp),fun _=>rfl⟩
  · intro h' tk' hn' hs
    have hx1:(hp.push { cls:=.type "dict",data:=.dict #[] }).get? x=some { cls:=.ref C,data:=.fields fv }:=Heap.get?_push_of_some _ hx
    refine hq h' tk' hp.objs.size (fun c o hc ho=>?_) (Nat.le_refl _) ox.symm ?_ hn'
    · exact (hs.2 c (Nat.ne_of_lt (Heap.lt_size ho))).trans ((Heap.get?_update_ne _ _ _ _ hc).trans (Heap.get?_push_of_some _ ho))
    · exact (hs.2 x ox).trans (Heap.get?_update_self _ hx1 rfl)
theorem osa_more (k:BaseOk b) {dx:Addr} {m0:Str→Option Value} {nl:List Str} (X:K.In hp) (hx:hp.get? x=some { cls:=.ref C,dict:=some dx,data:=.fields fv }) (hns:hp.Ns1 dx m0) (hw:Within m0 nl) (hz:nl.length≤1000)
    (hcd:PySem.W.clsIn K C=some cd) (hm:refsB b.tail cd.mro=true) (hh:cd.hasDict=true) (ha:PySem.W.findIn K (.ref C) name=some none)
    (hq:∀ h' tk',(∀ c o,c≠dx→hp.get? c=some o→h'.get? c=some o)→h'.Ns1 dx (fun y=>if y=name then some v else m0 y)→R (.ok (.ret .none)) ⟨h',g,d,tk',os⟩) :
    codeAny (model prog w) A (.call (.builtin "object.__setattr__") ⟨[.ref x,.str name tk,v],[]⟩) R ⟨hp,g,d,t,os⟩:=by
  obtain ⟨oD,_,_,hoD,_,_⟩:=hns.count hw
  have at_:PySem.W.InstAt hp x { cls:=.ref C,dict:=some dx,data:=.fields fv } C (some oD):=⟨hx,rfl,rfl,hoD⟩
  have st:=F.store_object
  have full:=k.full _ hm
  have obj:=(k.has "object" _ hm).trans k.obj
  have is_:PySem.W.Looks (model prog w) hp (isInstance (.ref x) (.type "object")) true:=at_.type.andThen (PySem.W.looks_mroIn X (by unfold PySem.W.mroIn;rw [hcd,Option.bind_some,if_neg (by rw [full];decide),obj]))
  refine codeAny_call_builtin st.slot.plain st.entry (@PySem.W.check_slot (model prog w) _ _ ⟨hp,g,d,t,os⟩ "object.__setattr__" "object" "__setattr__" (.ref x) [.str name tk,v] [] _ st.kind st.split is_ (st.args (.ref x) (.str name tk) v) ?_)
  have mro:PySem.W.Looks (model prog w) hp (mroOf (.ref C)) cd.mro:=(PySem.W.looks_clsIn X hcd).andThen .now
  have taker:PySem.W.Looks (model prog w) hp (storeTaker? none) none:=.now
  have data:PySem.W.Looks (model prog w) hp (classData C) cd:=PySem.W.looks_clsIn X hcd
  rw [PySem.W.osa_eq,refuse_eq]
  refine wpAny_bind (wpAny_bind (at_.type.at (wpAny_bind (mro.at ?_))))
  rw [k.passes _ _ hm]
  refine wpAny_pure (wpAny_bind (at_.type.at (wpAny_bind ((PySem.W.looks_findIn X ha).at (wpAny_bind (taker.at ?_))))))
  show wpAny _ _ (storeInOwnDict (.ref x) (.ref C) (.str name tk) name v false) _ _ _
  obtain ⟨c1,c2,c3,c4,c5,c6,c7,c8,c9,c10,c11⟩:=cd
  dsimp only at hh
  subst hh
  unfold storeInOwnDict ownDictForStores
  repeat (first | with_reducible refine store_in_old hns hw hz ?_ | with_reducible refine wpAny_loadPart_at hx ?_ | with_reducible refine data.at ?_ | wp_step)
  intro h' tk' hn' hs
  exact hq h' tk' (fun c o hc ho=>(hs.2 c hc).trans ho) hn'
end
structure OexG (b:BaseI) (K:PySem.W.Frag) (C:Addr):Prop where
  ok:BaseOk b
  cls:∃ nm q N bs bm sn sub ab col dd k0 k1 k2 k3 k5,K.lookup C=some (excClassObj nm q C N bs bm true sn sub ab col dd k0 k1 k2 k3 k5 b.new)∧refsB b.tail bm=true
  sa:PySem.W.findIn K (.ref C) "__setattr__" = some (some (.builtin "object.__setattr__"))
  exC:PySem.W.subIn K (.ref C) (.type "BaseException")=some true
  tyC:PySem.W.typeIn K (.ref C)=some (.type "type")
  kC:PySem.W.keepIn K (.ref C)=true
theorem refsB_cons {t bm:List Value} {C:Addr} (h:refsB t bm=true):refsB t (.ref C :: bm)=true:=by
  show ((isRefV (.ref C)&&refsB t bm) || _)=true
  rw [h]
  rfl
section
variable {b:BaseI} {X:Cx} {pins:List (Addr × Obj)} {σ:L2.St} {H:Hp} {s:Shared} {a C dx:Addr} {f:Str} {y:V} {u:Value} {fs:List (Str × V)} {Q:Unit→Shared→Prop} {E:Value→Shared→Prop} {A:Around}
theorem OexG.cdata (T:OexG b X.K C):∃ cd,PySem.W.clsIn X.K C=some cd∧refsB b.tail cd.mro=true∧cd.hasDict=true:=by
  obtain ⟨nm,q,N,bs,bm,sn,sub,ab,col,dd,k0,k1,k2,k3,k5,hC,hbm⟩:=T.cls
  exact ⟨{ name:=nm,bases:=bs,mro:=.ref C :: bm,ns:=N,qualname:=q,hasDict:=true,slotNames:=sn,subclasses:=sub,abstract:=ab,collection:=col,hasDel:=false },by unfold PySem.W.clsIn;rw [hC] <;> rfl,refsB_cons hbm,rfl⟩
theorem exf_new (T:OexG b X.K C) (I:L2.Inv X pins σ H s) (e:H a=some (exo a C none)) (hno:PySem.W.findIn X.K (.ref C) f=some none) (ry:RelV y u)
    (h:∀ dx s',H dx=none→dx≠a→L2.Inv X pins σ (upd (upd H dx (exd dx [(f,y)])) a (exo a C (some dx))) s'→Q () s'):wpAny (model X.prog X.w) A (setAttr (.ref a) f u) Q E s:=by
  obtain ⟨cd,hcl,hm,hh⟩:=T.cdata
  obtain ⟨t1,ho⟩:=exo_at I.hok e
  obtain ⟨hp,g,d,t,os⟩:=s
  refine PySem.W.set_plain I.kIn (ox:={ cls:=.ref C,dict:=none,data:=.fields #[.ref t1,.none,.none,.none,.bool false,.none] }) (od:=none) ⟨ho,rfl,rfl,trivial⟩ T.sa ?_
  refine osa_new T.ok I.kIn ho hcl hm hh hno fun h' tk' dx k dn dne hx hn=>?_
  have hnd:H dx=none:=I.hok.fresh dn
  have nd:∀ {c:Addr} {o:Obj},hp.get? c=some o→c≠dx:=fun q=>Nat.ne_of_lt (Nat.lt_of_lt_of_le (Heap.lt_size q) dn)
  have na:∀ {c:Addr},H c=none→c≠a:=fun n z=>by
    rw [z,e] at n
    cases n
  have U:Un X.fs [] H (upd (upd H dx (exd dx [(f,y)])) a (exo a C (some dx))) hp h' :=
    ⟨fun c o q n _ _=>k c o (na n) q,fun c o q n _ _=>⟨o.slots,k c o (na n) q⟩,fun c o q n _=>by rw [upd_ne (na n),upd_ne (nd q)];exact n,
      fun c o q _=>by
        by_cases hc:c=a
        · exact ⟨_,by rw [hc];exact hx⟩
        · exact ⟨o,k c o hc q⟩,
      fun c xs q=>by rw [upd_ne (at_ne e q exo_tup),upd_ne (ne_of_none q hnd)];exact q,fun c o v q=>by rw [upd_ne (at_ne e q exo_frz),upd_ne (ne_of_none q hnd)];exact q,
      fun c ps q=>⟨#[],by rw [upd_ne (at_ne e q exo_tbl),upd_ne (ne_of_none q hnd),q];simp⟩⟩
  refine h dx _ hnd dne (I.un (t':=tk') U fun c o q=>?_)
  by_cases hc:c=a
  · subst hc
    rw [upd_same] at q
    cases q
    exact exo_ok hx
  · rw [upd_ne hc] at q
    by_cases hd:c=dx
    · subst hd
      rw [upd_same] at q
      cases q
      exact exd_ok hn (relO_put (fs:=[]) ry fun g=>True.intro)
    · rw [upd_ne hd] at q
      exact (I.hok c o q).stay (fun c' v hc' z=>k c' v (by
          rcases hc' with hc' | hc'
          · rw [hc']
            exact hc
          · exact at_ne e hc' exo_own) z)
        (fun c' hc'=>by rw [upd_ne (at_ne e hc' exo_own),upd_ne (ne_of_none hc' hnd)];exact hc') (fun c' xs hc'=>by rw [upd_ne (at_ne e hc' exo_tup),upd_ne (ne_of_none hc' hnd)];exact hc')
theorem exf_more (T:OexG b X.K C) (I:L2.Inv X pins σ H s) (e:H a=some (exo a C (some dx))) (ed:H dx=some (exd dx fs)) (hl:fs.length≤900) (hno:PySem.W.findIn X.K (.ref C) f=some none) (ry:RelV y u)
    (h:∀ s',L2.Inv X pins σ (upd H dx (exd dx ((f,y) :: fs))) s'→Q () s'):wpAny (model X.prog X.w) A (setAttr (.ref a) f u) Q E s:=by
  obtain ⟨cd,hcl,hm,hh⟩:=T.cdata
  obtain ⟨t1,ho⟩:=exo_at I.hok e
  obtain ⟨mA,hns,rel⟩:=exd_at I.hok ed
  have hw:=within_of rel
  obtain ⟨hp,g,d,t,os⟩:=s
  obtain ⟨oD,_,_,hoD,_,_⟩:=hns.count hw
  refine PySem.W.set_plain I.kIn (ox:={ cls:=.ref C,dict:=some dx,data:=.fields #[.ref t1,.none,.none,.none,.bool false,.none] }) (od:=some oD) ⟨ho,rfl,rfl,hoD⟩ T.sa ?_
  refine osa_more T.ok I.kIn ho hns hw (by rw [List.length_map];omega) hcl hm hh hno fun h' tk' k hn=>?_
  exact h _ (I.write (t':=tk') (x:=dx) (e:=dx) (o:=exd dx ((f,y) :: fs)) (by rw [ed];exact True.intro) (.inl rfl) k (by obtain ⟨o,_,_,e',_⟩:=hn;exact ⟨o,e'⟩) (exd_ok hn (relO_put ry rel)))
end
def tOsG (b:BaseI) (K:PySem.W.Frag) (f:Str) (to te:TE):TS:=fun D σ H=>te σ H fun y H1=>to σ H1 fun x H2=>∃ a C:Addr,x=.ref a∧OexG b K C∧PySem.W.findIn K (.ref C) f=some none ∧
  ((H2 a=some (exo a C none)∧∀ dx,H2 dx=none→dx≠a→D.nx σ (upd (upd H2 dx (exd dx [(f,y)])) a (exo a C (some dx)))) ∨
    ∃ (dx:Addr) (fs:List (Str × V)),H2 a=some (exo a C (some dx))∧H2 dx=some (exd dx fs)∧fs.length≤900∧D.nx σ (upd H2 dx (exd dx ((f,y) :: fs))))
theorem ps_osG {b:BaseI} {X:Cx} {o e:Expr} {to te:TE} {f:Str} {p' pos:Pos} (ho:PE X o to) (he:PE X e te) (hs:swapsWith e (some (.Attribute o f p')) pos.line X.env=pure false):PS X (.Assign [.Attribute o f p'] e pos) (tOsG b X.K f to te):=by
  refine ⟨fun pins s σ H D I h=>?_⟩
  refine plainObj_wpAny_Assign_Attribute (thn (he.run pins s σ H _ I h) fun v s1 ⟨y,H1,I1,r1,q1⟩=>thn (ho.run pins s1 σ H1 _ I1 q1) fun u s2 ⟨x,H2,I2,r2,a,C,ex,T,hno,q⟩=>?_) hs
  subst ex
  obtain rfl:u=Value.ref a:=r2
  rcases q with ⟨ea,q⟩ | ⟨dx,fs,ea,ed,hl,q⟩
  · exact exf_new T I2 ea hno r1 fun dx s' n ne J=>⟨σ,_,J,q dx n ne⟩
  · exact exf_more T I2 ea ed hl hno r1 fun s' J=>⟨σ,_,J,q⟩
end Rc

namespace Rc
open PySem PySem.Spec L2 NdefX
open PyProof.Rows hiding St

structure ErrC (bb:BaseI) (K:PySem.W.Frag) (P:Program) (C:Addr) where
  T:OexG bb K C
  fI:Addr
  cda:Addr
  cc:Addr
  qual:Str
  fd:FuncData
  iC:PySem.W.findIn K (.ref C) "__init__" = some (some (.ref fI))
  tI:PySem.W.typeIn K (.ref fI)=some (.type "function")
  fO:∃ oc od sl,K.lookup fI=some ⟨oc,od,.func fd,sl⟩
  cd:PySem.W.codeIn K (.ref cda) qual=true
  file:∃ oc od vs sl fl tf,K.lookup cda=some ⟨oc,od,.fields vs,sl⟩∧vs[2]? = some (.str fl tf)∧((P.main.file:Str) == fl)=true
  cell:∃ oc od sl,K.lookup cc=some ⟨oc,od,.cell (some (.ref C)),sl⟩
  sup:PySem.W.ks_superIn K C C "__init__" = some (some (.builtin bb.init))
  sub:PySem.W.subIn K (.ref C) (.type bb.B)=some true
  slf:PySem.W.mroIn K C (.ref C)=some true
  third:PySem.W.nsIn K cStatics "thirdparty.any" = some none

section
variable {prog:Program} {w:World} {A:Around} {E:Value→Shared→Prop} {h:Heap} {g:Array GenState} {d:Drawn} {t:Nat} {os:OsState}
variable {nm q:Str} {C N:Addr} {bs bm:List Value} {hdct:Bool} {sn:List Str} {sub:List Value} {ab:Bool} {col:Option Bool} {dd:Option Addr} {k0 k1 k2 k3 k5:Option Value}
theorem mw_call {bb:BaseI} (kb:BaseOk bb) {u e t0:Addr} {rest:List Value} {Q:Value→Shared→Prop}
    (hC:h.get? C=some (excClassObj nm q C N bs bm hdct sn sub ab col dd k0 k1 k2 k3 k5 bb.new)) (he:h.get? e=some (HandSPX.excO C t0)) (hu:h.get? u=some (PySem.W.kxs_mw bb.init e)) (hrest:rest.length≤sizeLine)
    (hq:∀ h' t1,(∀ b o,b≠e→h.get? b=some o→h'.get? b=some o)→h'.get? e=some (HandSPX.excO C t1)→Q .none ⟨h',g,d,t,os⟩) :
    wpAny (model prog w) A (call (.ref u) rest) Q E ⟨h,g,d,t,os⟩:=by
  refine wpAny_call (codeAny_of_tree ?_)
  show wpAny _ A.in1 (callAny (.ref u) ⟨rest,[]⟩) _ _ _
  simp only [callAny]
  refine wpAny_bind (wpAny_load hu ?_)
  have kind:(Value.type "method-wrapper" == Value.type "method" || Value.type "method-wrapper" == Value.type "builtin_function_or_method" || Value.type "method-wrapper" == Value.type "method-wrapper")=true:=by decide
  simp only [PySem.W.kxs_mw,kind,if_true]
  refine W.KFB.if_so (by decide) ?_
  refine wpAny_bind (ESX.check_bound kb.fac hC he rfl ?_)
  refine wpAny_bind (wpAny_pure (wpAny_pure ?_))
  refine ⟨kb.quiet _,codeAny_builtin kb.fac.initEntry ?_⟩
  rw [Around.under_plainId kb.fac.init.plain _]
  wp_walk
  refine hq _ h.objs.size (fun b o hb ho=>?_) ?_
  · rw [Heap.get?_update_other _ _ (Ne.symm hb)]
    exact Heap.get?_push_of_some _ ho
  · rw [Heap.get?_update_self _ (Heap.get?_push_of_some _ he) rfl]
    rfl
end

abbrev supE (p:Nat→Pos):Expr:=.Call (.Name "super" (p 0)) [] [] (p 1)
abbrev supCall (nm:Str) (p:Nat→Pos) (j:Nat→Nat):Expr:=.Call (.Attribute (supE p) "__init__" (p 2)) [.Constant (.str nm) (j 0) (p 3)] [] (p 4)
structure ErrT (nm g f:Str) (p:Nat→Pos) (j:Nat→Nat) (pl:Sem Bool):Prop where
  call:∀ env,eval (supCall nm p j) env=(do
      let ov ← attributeBase (supE p) "__init__" env (eval (supE p) env)
      standAt (p 2).atName
      let (f,first) ← holding [ov] (getMethod ov "__init__" pl)
      callWith (p 4) f first (backTo (p 4) (starEach [.Constant (.str nm) (j 0) (p 3)] env)) [])
  star:∀ env,starEach [.Constant (.str nm) (j 0) (p 3)] env=(false,eval (.Constant (.str nm) (j 0) (p 3)) env) :: starEach [] env
  s1:∀ env,swapsWith (supCall nm p j) none (p 5).line env=pure false
  s2:∀ env,swapsWith (.Constant (.str nm) (j 1) (p 8)) (some (.Attribute (.Name "self" (p 6)) "code" (p 7))) (p 9).line env=pure false
  s3:∀ env,swapsWith (.Name g (p 12)) (some (.Attribute (.Name "self" (p 10)) f (p 11))) (p 13).line env=pure false
def errBody (nm g f:Str) (p:Nat→Pos) (j:Nat→Nat):List Stmt:=[
  .Expr (supCall nm p j) (p 5),
  .Assign [.Attribute (.Name "self" (p 6)) "code" (p 7)] (.Constant (.str nm) (j 1) (p 8)) (p 9),
  .Assign [.Attribute (.Name "self" (p 10)) f (p 11)] (.Name g (p 12)) (p 13)]
def spErr (C:Addr) (nm f:Str):Sp:=fun vs H Q E=>∃ (a:Addr) (v:V),vs=[.ref a,v]∧H a=some (exo a C none) ∧
  ∀ dx,H dx=none→dx≠a→Q .non (upd (upd (upd H dx (exd dx [("code",.str nm)])) a (exo a C (some dx))) dx (exd dx [(f,v),("code",.str nm)]))

structure ErrT0 (nm:Str) (p:Nat→Pos) (j:Nat→Nat) (pl:Sem Bool):Prop where
  call:∀ env,eval (supCall nm p j) env=(do
      let ov ← attributeBase (supE p) "__init__" env (eval (supE p) env)
      standAt (p 2).atName
      let (f,first) ← holding [ov] (getMethod ov "__init__" pl)
      callWith (p 4) f first (backTo (p 4) (starEach [.Constant (.str nm) (j 0) (p 3)] env)) [])
  star:∀ env,starEach [.Constant (.str nm) (j 0) (p 3)] env=(false,eval (.Constant (.str nm) (j 0) (p 3)) env) :: starEach [] env
  s1:∀ env,swapsWith (supCall nm p j) none (p 5).line env=pure false
  s2:∀ env,swapsWith (.Constant (.str nm) (j 1) (p 8)) (some (.Attribute (.Name "self" (p 6)) "code" (p 7))) (p 9).line env=pure false
section
variable {CX:CXT} {P:Program} {w:World} {K:PySem.W.Frag} {mg:Str→Option Value} {base:Heap} {C:Addr} {nm g f:Str} {params:Arguments} {scope:Scope} {p:Nat→Pos} {j:Nat→Nat} {k:Nat} {doc pm ctv:Value}
abbrev errNF (qual:Str) (params:Arguments) (body:List Stmt) (scope:Scope) (cc cda:Addr):NF:=⟨"__init__",qual,params,body,scope,[("__class__",cc)],cda⟩
theorem fn_err {bb:BaseI} {pl:Sem Bool} (c:ErrC bb K P C) (tx:ErrT nm g f p j pl) (hfd:c.fd=(errNF c.qual params (errBody nm g f p j) scope c.cc c.cda).fd doc pm ctv) (S:NScope ["self",g,"__class__"] ["self",g] ["__class__"] scope)
    (hsu:scope.names.lookup ("super":Str)=some .globalImplicit) (hg1:(params.posonlyargs++params.args).head?.map (·.arg)=some ("self":Str)) (hmg:mg "super" = none) (htop:(P.main.scope.names.lookup ("super":Str)).isSome=false)
    (noC:PySem.W.findIn K (.ref C) "code" = some none) (noF:PySem.W.findIn K (.ref C) f=some none) (hd1:(g == ("__debug__":Str))=false) (hd2:(g == ("__classdict__":Str))=false) :
    FnOk P w K mg base CX (k + 1) c.fI c.fd ["self",g] (spErr C nm f):=by
  refine ⟨fun vs H Q E q=>by obtain ⟨a,v,rfl,_⟩:=q;rfl,fun A outer s H args us vs Q E hr e0 hb r hsp=>?_⟩
  obtain ⟨a,v,rfl,ha,hq⟩:=hsp
  have XK:K.In s.heap:=e0.mod.kin.keeps fun b o e=>(e0.bs b o e).1
  have lim:s.heap.NoLimit:=e0.mod.nolimit.keeps fun b o e=>(e0.bs b o e).1
  obtain ⟨oc,od,sl,hfo⟩:=c.fO
  obtain ⟨oc2,od2,vs2,sl2,fl,tf,hco,hvs,hfile⟩:=c.file
  obtain ⟨oc3,od3,sl3,hcell⟩:=c.cell
  rw [hfd] at hfo hb
  have hs2:("self":Str)≠g:=fun z=>by
    have q:=S.nd
    rw [← z] at q
    simp at q
  cases r with
  | @cons _ u1 _ us1 r1 r' =>
  cases r' with
  | @cons _ u _ us2 ru r'' =>
  cases r''
  obtain rfl:u1=Value.ref a:=r1
  have Cc:CellsAt [("__class__",c.cc)] ["__class__"] [none] s.heap H:=by
    refine ⟨rfl,fun y cc e=>?_,fun x y cc e1 e2=>?_,fun i y e=>?_⟩
    · have e:List.lookup y [("__class__",c.cc)]=some cc:=e
      rw [List.lookup_cons] at e
      split at e
      · cases e
        exact ⟨(e0.bs _ _ (e0.mod.kin _ _ hcell)).2,_,_,XK _ _ hcell,rfl⟩
      · cases e
    · have key:∀ {z:Str} {b:Addr},List.lookup z [("__class__",c.cc)]=some b→z="__class__":=fun {z b} e=>by
        rw [List.lookup_cons] at e
        split at e
        · rename_i q;exact eq_of_beq q
        · cases e
      exact (key e1).trans (key e2).symm
    · match i,e with
      | 0,e =>
        cases e
        exact ⟨c.cc,rfl,fun v e=>by cases e⟩
  refine ks_codeAny_call_defAt hr.depth (XK _ _ hfo) rfl lim (PySem.W.codeRec_of XK c.cd) rfl hb S.nocell (fun ⟨n,_⟩ hy=>S.par n (List.of_mem_zip hy).1) (fun h₁ hns kp=>?_) S.co S.gen S.kind
  let F:=errNF c.qual params (errBody nm g f p j) scope c.cc c.cda
  let X:Cx:=ncx CX P w K mg base ["self",g,"__class__"] F c.fI A outer s H E
  have hr2:Vals [V.ref a,v] [Value.ref a,u]:=.cons rfl (.cons ru .nil)
  have I:L2.Inv X [] (startF ["self",g,"__class__"] [.ref a,v] [none]) H { s with heap:=h₁,toks:=s.toks + ((["self",g]:List Str).zip [Value.ref a,u]).length }:=inv_startN (F:=F) S hr.hd e0 rfl hr2 Cc hns kp
  generalize s.toks + ((["self",g]:List Str).zip [Value.ref a,u]).length=tk at I ⊢
  obtain ⟨h0,g0,d0,t0,os0⟩:=s
  obtain ⟨cn,cq,N,bs,bm,sn,sub,ab,col,dd,k0,k1,k2,k3,k5,hC,hbm⟩:=c.T.cls
  obtain ⟨ar,har,hself⟩:∃ ar,(params.posonlyargs++params.args).head? = some ar∧ar.arg="self":=by
    cases e:(params.posonlyargs++params.args).head? with
    | none=>rw [e] at hg1;cases hg1
    | some ar=>rw [e] at hg1;exact ⟨ar,rfl,Option.some.inj hg1⟩
  have hKl:PySem.W.clsIn K C=some { name:=cn,bases:=bs,mro:=.ref C :: bm,ns:=N,qualname:=cq,hasDict:=true,slotNames:=sn,subclasses:=sub,abstract:=ab,collection:=col,hasDel:=false }:=by unfold PySem.W.clsIn;rw [hC]
  have sm:=c.sup
  unfold PySem.W.ks_superIn at sm
  rw [hKl] at sm
  have XK1:K.In h₁:=I.kIn
  obtain ⟨t1,hoa⟩:=exo_at I.hok ha
  have hint:∀ {L:Addr},interactive (envF F c.fI L)=false:=fun {L}=>by
    show (scope.kind == .module&&_)=false
    rw [S.kind]
    rfl
  refine ks_wpAt_execs_cons (ks_wpAt_Expr_any (ks_wpAt_MethodCall ?_ (he:=tx.call _)) hint (tx.s1 _))
  refine ks_wpAt_super_base hsu (S.frk "__class__" (List.mem_cons_self ..)) (by decide) rfl (XK1 _ _ hfo) rfl har rfl (XK1 _ _ hco) rfl hvs hfile htop ?_
  obtain ⟨mb,hmb1,hmb2⟩:=I.mod.blt
  refine PySem.W.ks_loadName_global S.kind hsu (Calls.loadGlobal_builtin (I.mod.glob.keeps I.bk) hmg (hmb1.keeps I.bk) ((hmb2 _ (by decide)).trans PyProof.Rows.Boot.«super») ⟨rfl,?_⟩)
  refine wpAny_loadName_free S.kind (S.frk "__class__" (List.mem_cons_self ..)) rfl ⟨_,XK1 _ _ hcell,rfl⟩ ?_
  rw [hself]
  refine wpAny_loadName_local S.kind (S.par "self" (List.mem_cons_self ..)) hns (v:=.ref a) (by
    show List.lookup _ [(g,u),(("self":Str),Value.ref a)]=_
    rw [List.lookup_cons,show (("self":Str) == g)=false by simpa using hs2]
    rfl) ?_
  refine ks_wpAny_isType_cls (XK1 _ _ hC) rfl ⟨rfl,?_⟩
  refine ks_wpAny_call_super (XK1 _ _ hC) rfl hoa rfl (fun c e=>by cases e) (PySem.W.looks_mroIn XK1 c.slf) (fun h2 e2 k2=>?_)
  have XK2:K.In h2:=XK1.keeps k2
  have hIn:PySem.W.Looks (model P w) h2 (isInstance (.ref a) (.type bb.B)) true:=by
    have ia:PySem.W.InstAt h2 a ({ cls:=.ref C,dict:=none,data:=.fields #[.ref t1,.none,.none,.none,.bool false,.none] }:Obj) C none:=⟨k2 _ _ hoa,rfl,rfl,trivial⟩
    exact ia.type.andThen (PySem.W.looks_subIn XK2 c.sub)
  have nac:a≠C:=fun z=>by
    rw [z,XK1 _ _ hC] at hoa
    cases hoa
  refine PySem.W.kxs_getMethod c.T.ok.kx e2 (PySem.W.looks_opaque XK2 c.third) (l₀:=.ref C :: bm) (fun A Q E s k q=>wpAny_bind ((PySem.W.looks_clsIn XK2 hKl) A _ E s k (wpAny_pure q))) rfl XK2 sm hIn nac (by decide) ?_
  generalize hu:h2.objs.size=uu
  have k3:∀ b o,h₁.get? b=some o→(h2.push (PySem.W.kxs_mw bb.init a)).get? b=some o:=fun b o e=>Heap.get?_push_of_some _ (k2 b o e)
  have I3:L2.Inv X [] (startF ["self",g,"__class__"] [.ref a,v] [none]) H ⟨h2.push (PySem.W.kxs_mw bb.init a),g0,d0,tk + 1,os0⟩:=I.kept k3
  have hmw:(h2.push (PySem.W.kxs_mw bb.init a)).get? uu=some (PySem.W.kxs_mw bb.init a):=by rw [← hu];exact Heap.get?_push_size _ rfl
  have hnu:h₁.get? uu=none:=by
    cases z:h₁.get? uu with
    | none=>rfl
    | some o=>exact absurd (Heap.lt_size (k2 _ _ z)) (by rw [hu];exact Nat.lt_irrefl _)
  have lu:h₁.objs.size < uu:=by rw [← hu];exact Heap.lt_size e2
  have I4:L2.Inv X [(uu,PySem.W.kxs_mw bb.init a)] (startF ["self",g,"__class__"] [.ref a,v] [none]) H ⟨h2.push (PySem.W.kxs_mw bb.init a),g0,d0,tk + 1,os0⟩:=by
    refine I3.pins_of fun q hq=>?_
    obtain rfl:=List.mem_singleton.mp hq
    refine ⟨hmw,I.hok.fresh (Nat.le_of_lt lu),fun z=>?_,I.nofs (Nat.le_of_lt lu),fun v z=>by cases z⟩
    have z:uu=X.env.locals:=z
    have ql:=I.lt
    rw [← z] at ql
    exact Nat.lt_irrefl _ (Nat.lt_trans lu ql)
  have pa:PA X [.Constant (.str nm) (j 0) (p 3)] (tCons (tC (.str nm)) tNil):=pa_cons pe_str pa_nil
  have st0:=tx.star X.env
  have run:=pa.run (p 4) [(uu,PySem.W.kxs_mw bb.init a)] _ _ H (fun vs H1=>vs=[V.str nm]∧H=H1) I4 ⟨rfl,rfl⟩
  rw [st0] at run
  show wpAny _ _ (callWith (p 4) (.ref uu) [] (backTo (p 4) (starEach [.Constant (.str nm) (j 0) (p 3)] X.env)) []) _ _ _
  rw [st0]
  refine PySem.W.kxs_callWith (i:=bb.init) (x:=a) rfl (Calls.evalArgs_plain (thn run fun us s1 hh=>?_))
  obtain ⟨vs1,H1,I5,r5,ev,eH⟩:=hh
  subst ev
  rw [← eH] at I5
  obtain ⟨h5,g5,d5,t5,os5⟩:=s1
  have hmw5:=(I5.pin _ (List.mem_append_right _ (List.mem_singleton.mpr rfl))).1
  refine ⟨hmw5,?_⟩
  obtain ⟨t6,hoa5⟩:=exo_at I5.hok ha
  have hlen:us.length≤sizeLine:=by
    rw [← Paired.length r5,sizeLine_eq]
    exact (by decide:1≤16777216)
  refine mw_call c.T.ok (t0:=t6) (I5.kIn _ _ hC) hoa5 hmw5 hlen fun h7 t7 k7 hx7=>?_
  have J:L2.Inv X [] (startF ["self",g,"__class__"] [.ref a,v] [none]) H ⟨h7,g5,d5,t5,os5⟩:=by
    have J0:=(I5.pins_of (pins':=[]) fun q hq=>by cases hq).write (t':=t5) (x:=a) (e:=a) (o:=exo a C none) (by rw [ha];exact True.intro) (.inl rfl) k7 ⟨_,hx7⟩ (exo_ok hx7)
    have eu:upd H a (exo a C none)=H:=by
      funext b
      by_cases hb:b=a
      · rw [hb,upd_same,ha]
      · rw [upd_ne hb]
    rw [eu] at J0
    exact J0
  have v0:Vis X.env.scope "self":=.inl (S.par "self" (List.mem_cons_self ..))
  have v1:Vis X.env.scope g:=.inl (S.par g (List.mem_cons_of_mem _ (List.mem_cons_self ..)))
  have two:=pss_cons (ps_osG (b:=bb) (X:=X) (f:="code") (pe_var (i:=0) rfl v0) (pe_str (x:=nm) (j:=j 1) (pos:=p 8)) (tx.s2 _)) (pss_cons (ps_osG (b:=bb) (X:=X) (f:=f) (pe_var (i:=0) rfl v0) (pe_var (i:=1) rfl v1 hd1 hd2) (tx.s3 _)) pss_nil)
  have fin:=two.run [] _ _ H { nx:=fun _ H'=>Q .non H',rt:=Q } J ⟨.ref a,rfl,a,C,rfl,c.T,noC,.inl ⟨ha,fun dx hn ne =>
    ⟨v,rfl,.ref a,rfl,a,C,rfl,c.T,noF,.inr ⟨dx,[("code",.str nm)],upd_same,(upd_ne ne).trans upd_same,by simp,hq dx hn ne⟩⟩⟩⟩
  refine wpAt_of_wpAny (wpAny_mono fin (fun fl s' hs=>?_) fun e s' hs=>hs)
  have done:∀ {σ':L2.St} {H':Hp} {y:V} {z:Value},L2.Inv X [] σ' H' s'→L2.RelV y z→Q y H'→CE outer P w H ⟨h0,g0,d0,t0,os0⟩ Q z s' :=
    fun {σ' H' y z} J rv q=>⟨y,H',J.os,J.bare,J.base,J.hok,rv,q⟩
  cases fl with
  | ret z =>
    obtain ⟨y,σ',H',J,rv,q⟩:=hs
    exact done J rv q
  | next =>
    obtain ⟨σ',H',J,q⟩:=hs
    exact done (y:=V.non) (z:=Value.none) J rfl q
  | brk =>
    obtain ⟨_,_,_,q⟩:=hs
    exact False.elim q
  | cont =>
    obtain ⟨_,_,_,q⟩:=hs
    exact False.elim q
end
end Rc

namespace Rc
open PySem PySem.Spec L2
open PyProof.Rows hiding St
section
variable {X:Cx} {CX:CXT} {x:Str} {e:Expr} {es:List Expr} {ta:TA} {p pos:Pos} {C fI:Addr} {k:Nat} {fd:FuncData} {ps:List Str} {sp:Sp}
theorem pmkN_oex {b:BaseI} (T:OexG b X.K C) (iC:PySem.W.findIn X.K (.ref C) "__init__" = some (some (.ref fI))) (tI:PySem.W.typeIn X.K (.ref fI)=some (.type "function"))
    (F1:FnOk X.prog X.w X.K X.mg X.base CX k fI fd ps sp) (hr:Room (k + 1) X.A) (hb:Binds X.K fd ps []) (hx:Passes CX X (fun _ _ _=>False)) (hg:Gl X x) (hm:X.mg x=some (.ref C)) (ha:PA X (e :: es) ta)
    (hdb:(x == ("__debug__":Str))=false) (he:starEach (e :: es) X.env=(false,eval e X.env) :: starEach es X.env) (hpl:(backTo pos (starEach es X.env)).any (·.1)=false) :
    L2N.PMk X (.Call (.Name x p) (e :: es) [] pos) (tMkO C sp [] ta):=by
  intro pins s σ H Q I h
  obtain ⟨nm,q,N,bs,bm,sn,sub,ab,col,dd,k0,k1,k2,k3,k5,hC,hbm⟩:=T.cls
  refine wpAny_Call_Name_kw (ld_glob I hg hm ?_ hdb)
  refine PySem.W.callWith_K (h₀:=X.base) I.ok.mod.kin T.kC (thn (ha.run pos pins s σ H _ I h) fun us s1 ⟨vs,H1,I1,r1,hz,q1⟩=>⟨I1.kIn,?_⟩) he hpl
  show wpAny _ _ (call (.ref C) us) _ _ _
  obtain ⟨hp,g,dr,tk,os⟩:=s1
  let hh:Heap:=(hp.push (PySem.W.kdv_tup us)).push (PySem.HandSPX.excO C hp.objs.size)
  let a:Addr:=hp.objs.size + 1
  have hsz:hp.objs.size≤a:=Nat.le_succ _
  have hq:=q1 a (I1.hok.fresh hsz)
  have kk:∀ b o,hp.get? b=some o→hh.get? b=some o:=fun b o z=>Heap.get?_push_of_some _ (Heap.get?_push_of_some _ z)
  have hget:hh.get? a=some (PySem.HandSPX.excO C hp.objs.size):=by
    show ((hp.push (PySem.W.kdv_tup us)).push (PySem.HandSPX.excO C hp.objs.size)).get? (hp.objs.size + 1)=_
    heap_get
  have I2:L2.Inv X pins σ (upd H1 a (exo a C none)) ⟨hh,g,dr,tk,os⟩:=I1.laid (t':=tk) kk hsz (exo_ok hget)
  have r2:Vals (V.ref a :: (vs++[])) (Value.ref a :: us):=.cons rfl (by rw [List.append_nil];exact r1)
  have hl:(Value.ref a :: us++[]).length=ps.length:=by
    rw [List.append_nil,← r2.length]
    exact F1.len _ _ _ _ hq
  have hus:us.length≤sizeLine:=by
    rw [← Paired.length r1,sizeLine_eq]
    omega
  have hb2:=hb ⟨hh,g,dr,tk,os⟩ (Value.ref a :: us) I2.kIn hl
  rw [List.append_nil] at hb2
  have walk:=F1.run (X.A.under (.builtin "type.__call__" ⟨.ref C :: us,[]⟩)) X.stack _ _ ⟨Value.ref a :: us,[]⟩ (Value.ref a :: us) _ _ (fun _ _ _=>False) (hr.make C us []) (I2.env0.make C us []) hb2 r2 hq
  refine wpAny_call (PySem.HandSPX.call_own T.ok.fac (fun Y=>T.ok.has Y bm hbm) (I1.kIn _ _ hC) (PySem.W.looks_findIn I1.kIn iC) (fun self=>PySem.W.bind_fn I1.kIn self tI) hus (codeAny_mono walk fun r s' hq'=>?_))
  match r,hq' with
  | .error er,hq'=>exact hx pins σ _ _ er s' I2 hq'
  | .ok .next,hq'=>exact False.elim hq'
  | .ok .brk,hq'=>exact False.elim hq'
  | .ok .cont,hq'=>exact False.elim hq'
  | .ok (.ret u),hq' =>
    obtain ⟨v,H2,os2,bare2,un2,hok2,rv,ev,d,fs,ea,ed,hd1,q2⟩:=hq'
    subst ev
    obtain ⟨h2,g2,d2,t2,os'⟩:=s'
    obtain ⟨t0,G,J,kG,ge,hoe,na⟩:=mk_end0 (d2:=d2) (t2:=t2) I1 hsz kk un2 hok2 os2 bare2 ea ed hd1
    exact ⟨rv,a,_,_,⟨G,g2,d2,t2,os'⟩,_,.ref C,some d,rfl,J,kG,ge,hoe,⟨rfl,rfl,fun vs hv=>by cases hv;rfl⟩,rfl,rfl,na,rfl,bare2,raises_own T.exC T.tyC,q2⟩
end

def nErrB (b:BaseI) (x g f code:Str):Need:=fun P w K mg base k=>∃ c:ErrC b K P (He.ga K x),mg x=some (.ref (He.ga K x))∧(∃ j,j + 1≤k∧FnOk P w K mg base (L2N.CX P w) j c.fI c.fd ["self",g] (spErr (He.ga K x) code f))∧Binds K c.fd ["self",g] []
abbrev nErr (x g f code:Str):Need:=nErrB bVE x g f code
def raiseF (x f code:Str):List OV→Sl→Mem→SR
  | [.v v],s,m=>.ex x [f,"code"] [v,.str code] s m
  | _,_,_=>.stuck
theorem raiseF_inv {x f code:Str} {v:OV} {s:Sl} {m:Mem} (h:¬ raiseF x f code [v] s m=.stuck):∃ y,v=.v y:=by
  cases v with
  | v y=>exact ⟨y,rfl⟩
  | b o=>exact absurd rfl h
def sRaiseB (bs:BaseI) (x g f code:Str):PrimS where
  need:=[nErrB bs x g f code]
  parts:=fun c st=>match st with
    | .Raise (some (.Call (.Name y _) [e] [] _)) none _=>if (decide (y=x)&&gbB c x&&plainE e&&c.calm)=true then some [e] else none
    | _=>none
  F:=raiseF x f code
  ok:=fun {k W c X e es fs} ok nd ht hk h p g0 H0=>by
    split at h <;> try contradiction
    split at h <;> cases h
    rename_i hb
    simp only [Bool.and_eq_true,decide_eq_true_eq] at hb
    obtain ⟨⟨⟨rfl,h3⟩,h4⟩,h5⟩:=hb
    obtain ⟨c0,hm,⟨j,hj,F1⟩,hbi⟩:=nd _ (List.mem_cons_self ..)
    obtain ⟨hg,hdb,_⟩:=ok.gl h3
    obtain ⟨fa,e1,e2⟩:=p.s1
    refine (L2N.ps_raise (ok.calm h5) ok.tk (pmkN_oex c0.T c0.iC c0.tI F1 ((ok.room (Nat.lt_of_lt_of_le (Nat.succ_pos j) hj)).mono hj) hbi (fun pins σ H s e s' I z=>L2N.passes_call (W:=W) ok.tk (fun _ _ _ _ z=>z.elim) pins σ H s e s' I z) hg hm (pa_cons e1 pa_nil (hs:=starP h4)) hdb (starP h4) rfl)).weaken fun D σ H q=>?_
    obtain ⟨g,s,m,R,z,pp⟩:=tS_pre q
    rw [e2] at pp
    refine ⟨g,s,m,R.rs,R.rl,(PostS.bind R pp).imp fun v H1 ⟨x1,g1,m1,rs1,st1,r1,p1⟩=>?_⟩
    have R1:=R.step rs1 st1
    obtain ⟨y,rfl⟩:=raiseF_inv p1.ns
    refine ⟨by simp,fun a na=>⟨a,v,rfl,upd_same,fun dx hdx ne=>⟨rfl,dx,_,(upd_ne (Ne.symm ne)).trans upd_same,upd_same,?_,?_⟩⟩⟩
    · rw [upd_ne ne] at hdx
      exact hdx
    · rw [upd_ne ne] at hdx
      obtain ⟨rs2,st2⟩:=rs1.freeze (o:=.xd [(f,v),("code",.str code)]) hdx
      have eH:∀ (o1 o2 o3 o4:HO),upd (del (upd (upd (upd (upd H1 a o1) dx o2) a o3) dx o4) a) dx (.xd [(f,v),("code",.str code)])=upd H1 dx (.xd [(f,v),("code",.str code)]):=fun o1 o2 o3 o4=>by
        funext b
        by_cases hb:b=dx
        · rw [hb,upd_same,upd_same]
        · rw [upd_ne hb,upd_ne hb]
          by_cases hba:b=a
          · rw [hba,del_same,na]
          · rw [del_ne hba,upd_ne hb,upd_ne hba,upd_ne hb,upd_ne hba]
      rw [eH]
      exact p1 _ _ _ σ _ (R1.step rs2 st2) st2.fle ⟨dx,_,rfl,rfl,upd_same,rfl,v,_,rfl,RV.st (show RV X.ki g1 y v from r1) st2,_,_,rfl,rfl,rfl⟩
abbrev sRaise (x g f code:Str):PrimS:=sRaiseB bVE x g f code
end Rc

namespace Rc
open PySem PySem.Spec L2 L2H
open PyProof.Rows hiding St

section
variable {P:Program} {w:World} {K:PySem.W.Frag} {mg:Str→Option Value} {base:Heap} {k:Nat} {f:Addr} {fd:FuncData} {qual:Str} {params:Arguments} {body:List Stmt} {scope:Scope} {dvs:List V} {kwd:List (Str × V)} {N:List Str} {blts:List Str} {cst:List (Str × MV)} {x:Str}
end
end Rc

namespace Rc
open PySem PySem.Spec L2 LamX
open PyProof.Rows hiding St
def lamN (X:Cx) (A:Around) (outer:List Env) (s:Shared) (H:Hp) (E:XK) (scope:Scope) (f c':Addr):Cx :=
  (lamCx X A outer s H E scope f c').tr [] fun e s'=>wpAny (model X.prog X.w) (A.deeper (lamEnv X scope s.heap.objs.size f c')) (leaving (lamEnv X scope s.heap.objs.size f c') e) (fun _ s''=>L2N.CX X.prog X.w outer H s E e s'') (fun e' s''=>L2N.CX X.prog X.w outer H s E e' s'') s'
section
variable {X:Cx} {pins:List (Addr × Obj)} {σ:L2.St} {H:Hp} {s:Shared}
end
end Rc

namespace Rc
open PySem PySem.Spec L2 L2H
open PyProof.Rows hiding St

mutual
def cl:MV→Bool
  | .ref _=>false
  | .exn _ _ _=>false
  | .tup xs=>cls_ xs
  | .lst xs=>cls_ xs
  | .kl xs=>cls_ xs
  | .ins _ _ xs=>cls_ xs
  | .dic ks xs=>cls_ ks&&cls_ xs
  | .dit _ _=>false
  | _=>true
def cls_:List MV→Bool
  | []=>true
  | x :: xs=>cl x&&cls_ xs
end
def NExt (o:HO):Prop:=∀ φ,o≠.ext φ
theorem SqT.cl {K:Ki} {F F':Hp} {a:Addr} {xs:List V} (e:∀ b o,F b=some o→NExt o→F' b=some o) (h:SqT K F a xs):SqT K F' a xs:=by
  rcases h with (h | ⟨o,h⟩) | h
  · exact .inl (.inl (e _ _ h fun φ z=>by cases z))
  · exact .inl (.inr ⟨o,e _ _ h fun φ z=>by cases z⟩)
  · exact .inr h
theorem SqL.cl {K:Ki} {F F':Hp} {a:Addr} {xs:List V} (e:∀ b o,F b=some o→NExt o→F' b=some o) (h:SqL K F a xs):SqL K F' a xs:=by
  rcases h with (h | ⟨o,h⟩) | h
  · exact .inl (.inl (e _ _ h fun φ z=>by cases z))
  · exact .inl (.inr ⟨o,e _ _ h fun φ z=>by cases z⟩)
  · exact .inr h
mutual
theorem RV.cl {K:Ki} {g g':G} (hF:∀ b o,g.F b=some o→NExt o→g'.F b=some o):∀ (x:MV) {v:V},Rc.cl x=true→RV K g x v→RV K g' x v
  | .non,_,_,h=>h
  | .bl _,_,_,h=>h
  | .int _,_,_,h=>h
  | .str _,_,_,h=>h
  | .tup xs,_,c,⟨a,ys,e,q,r⟩=>⟨a,ys,e,SqT.cl hF q,RVs.cl hF xs c r⟩
  | .lst xs,_,c,⟨a,ys,e,q,r⟩=>⟨a,ys,e,hF _ _ q (fun φ z=>by cases z),RVs.cl hF xs c r⟩
  | .kl xs,_,c,⟨a,ys,e,q,r⟩=>⟨a,ys,e,SqL.cl hF q,RVs.cl hF xs c r⟩
  | .ref n,_,c,_=>by cases c
  | .ins c ks xs,_,k,⟨a,dx,fs,e,q,q2,q3,r⟩=>⟨a,dx,fs,e,hF _ _ q (fun φ z=>by cases z),hF _ _ q2 (fun φ z=>by cases z),q3,RVs.cl hF xs k r⟩
  | .exn c ks xs,_,k,_=>by cases k
  | .dic ks xs,_,c,⟨a,u,kvs,e,q,q3,r,r2⟩=>by
    obtain ⟨c1,c2⟩:=Bool.and_eq_true_iff.mp (show (cls_ ks&&cls_ xs)=true from c)
    exact ⟨a,u,kvs,e,hF _ _ q (by obtain ⟨kv,rfl,_⟩:=q3;exact fun φ z=>by cases z),q3,RVs.cl hF ks c1 r,RVs.cl hF xs c2 r2⟩
  | .kd ks is,_,_,h=>h
  | .cls _,_,_,h=>h
  | .dit ks xs,_,c,_=>by cases c
theorem RVs.cl {K:Ki} {g g':G} (hF:∀ b o,g.F b=some o→NExt o→g'.F b=some o):∀ (xs:List MV) {vs:List V},cls_ xs=true→RVs K g xs vs→RVs K g' xs vs
  | [],_,_,h=>h
  | x :: xs,_,c,⟨v,r,e,h,t⟩=>by
    obtain ⟨c1,c2⟩:=Bool.and_eq_true_iff.mp (show (Rc.cl x&&cls_ xs)=true from c)
    exact ⟨v,r,e,RV.cl hF x c1 h,RVs.cl hF xs c2 t⟩
end
def exactO (a:Addr) (oe:Obj):HO:=.ext fun h=>h.get? a=some oe
def oneO (q:Str) (t:Tok):Obj:={ cls:=.none,data:=.fields #[.none,.str q t] }
def manyH (c:Addr) (o:Obj):Heap:=⟨Array.replicate (c + 1) o,{}⟩
theorem manyH_in {c b:Addr} {q:Str} {t:Tok} (h:b < c + 1):(manyH c (oneO q t)).get? b=some (oneO q t):=by
  unfold manyH Heap.get?
  simp [Array.getElem?_replicate,h,oneO]
theorem manyH_out {c b:Addr} {o:Obj} (h:¬ b < c + 1):(manyH c o).get? b=none:=by
  unfold manyH Heap.get?
  simp [Array.getElem?_replicate,h]
theorem exact_code {a c:Addr} {oe:Obj} {q:Str}:exactO a oe≠LamX.CodeO c q:=fun z=>by
  have z:HO.ext (fun h=>h.get? a=some oe)=HO.ext (fun h=>∃ (oc:Obj) (vs:Array Value) (t:Tok),h.get? c=some oc∧oc.data=.fields vs∧vs[1]? = some (.str q t)):=z
  injection z with z
  have at_:∀ t:Tok,oe=oneO q t:=fun t=>by
    have e:=congrFun z (manyH c (oneO q t))
    have y:(manyH c (oneO q t)).get? a=some oe:=by
      rw [e]
      exact ⟨_,_,t,manyH_in (Nat.lt_succ_self c),rfl,rfl⟩
    by_cases hb:a < c + 1
    · rw [manyH_in hb] at y
      exact (Option.some.inj y).symm
    · rw [manyH_out hb] at y
      cases y
  have y:=(at_ 0).symm.trans (at_ 1)
  simp [oneO] at y

section
variable {K:Ki} {g g':G} {m:Mem} {H H2:Hp} {a:Addr} {oe:Obj}
def knowG (g:G) (a:Addr) (oe:Obj):G:=⟨upd g.F a (exactO a oe),fun _=>none⟩
def dropG (g g':G) (a:Addr):G:=⟨fun b=>if b=a then none else g'.F b,g.r⟩
theorem Rs.fNone (rs:Rs K g m H) (ha:H a=none):g.F a=none:=by
  cases e:g.F a with
  | none=>rfl
  | some o=>rw [rs.sub a o e] at ha;cases ha
theorem Rs.drop (rs:Rs K g m H) (ha:H a=none) (rs':Rs K g' [] H2) (st:Stp (knowG g a oe) (upd H a (exactO a oe)) g' H2) :
    Rs K (dropG g g' a) m (del H2 a)∧Stp g H (dropG g g' a) (del H2 a)∧∀ b o,g'.F b=some o→NExt o→(dropG g g' a).F b=some o:=by
  have fa:=rs.fNone ha
  have Fa:g'.F a=some (exactO a oe):=st.F a _ upd_same
  have nea:∀ {b u},H b=some u→b≠a:=fun {b u} e z=>by rw [z,ha] at e;cases e
  have F1:∀ b u,g.F b=some u→(dropG g g' a).F b=some u:=fun b u e=>by
    have hb:b≠a:=nea (rs.sub b u e)
    show (if b=a then Option.none else g'.F b)=some u
    rw [if_neg hb]
    exact st.F b u (by show upd g.F a (exactO a oe) b=some u;rw [upd_ne hb];exact e)
  have kept:∀ b u,H b=some u→NTbl u→del H2 a b=some u:=fun b u e n=>by
    rw [del_ne (nea e)]
    exact st.keep b u (by rw [upd_ne (nea e)];exact e) (fun n e=>by cases e) n
  have dom:∀ b,H b≠none→del H2 a b≠none:=fun b e=>by
    have hb:b≠a:=fun z=>e (by rw [z];exact ha)
    rw [del_ne hb]
    exact st.dom b (by rw [upd_ne hb];exact e)
  have Fn:∀ b,(dropG g g' a).F b≠none→g.F b≠none∨H b=none∨∃ ys,del H2 a b=some (.tup ys):=fun b e=>by
    have e:(if b=a then Option.none else g'.F b)≠none:=e
    by_cases hb:b=a
    · rw [if_pos hb] at e;exact absurd rfl e
    · rw [if_neg hb] at e
      rcases st.Fn b e with q | q | ⟨n,q⟩ | q
      · have q:upd g.F a (exactO a oe) b≠none:=q
        rw [upd_ne hb] at q
        exact .inl q
      · rw [upd_ne hb] at q
        exact .inr (.inl q)
      · cases q
      · obtain ⟨ys,q⟩:=q
        exact .inr (.inr ⟨ys,by rw [del_ne hb];exact q⟩)
  refine ⟨⟨fun b u e=>?_,fun n o e=>?_,fun n b e=>?_,rs.rj,fun p hp=>?_⟩,⟨F1,fun _ _ e=>e,fun b u e _ n=>kept b u e n,dom,fun b e=>(Fn b e).elim .inl fun q=>q.elim (fun q=>.inr (.inl q)) fun q=>.inr (.inr (.inr q)),fun _ _ e=>.inl e⟩,fun b o e n=>?_⟩
  · have e:(if b=a then Option.none else g'.F b)=some u:=e
    by_cases hb:b=a
    · rw [if_pos hb] at e;cases e
    · rw [if_neg hb] at e
      rw [del_ne hb]
      exact rs'.sub b u e
  · obtain ⟨b,e1,e2,e3⟩:=rs.gr n o e
    obtain ⟨u,hu,nu⟩:=e3.someN
    refine ⟨b,e1,?_,e3.grow F1 (fun _ _ e=>e) ((kept b u hu nu).trans hu.symm)⟩
    cases z:(dropG g g' a).F b with
    | none=>rfl
    | some w =>
      rcases Fn b (by rw [z];simp) with q | q | ⟨ys,q⟩
      · exact absurd e2 q
      · rw [hu] at q;cases q
      · rw [kept b u hu nu] at q;cases q
        exact absurd hu (e3.ntup ys)
  · obtain ⟨h1,h2⟩:=rs.rb n b e
    exact ⟨h1,dom b h2⟩
  · have t:=rs.tb p hp
    have np:p.2.1≠a:=(t.ne0 ha).symm
    obtain ⟨ps,e1,e2,e3⟩:=(rs'.tb p hp).ps
    refine ⟨⟨ps,by rw [del_ne np];exact e1,e2,fun pos cv hc=>?_⟩,?_,t.r⟩
    · obtain ⟨c,h1,h2⟩:=e3 pos cv hc
      refine ⟨c,h1,?_⟩
      show (if c=a then Option.none else g'.F c)=_
      rw [if_neg fun z=>by
        rw [z,Fa] at h2
        exact exact_code (Option.some.inj h2)]
      exact h2
    · show (if p.2.1=a then Option.none else g'.F p.2.1)=_
      rw [if_neg np]
      exact (rs'.tb p hp).F
  · show (if b=a then Option.none else g'.F b)=some o
    rw [if_neg fun z=>by
      rw [z,Fa] at e
      exact n _ (Option.some.inj e).symm]
    exact e
end
section
variable {P:Program} {w:World} {fs:List Addr} {H H2:Hp} {h h':Heap} {a:Addr} {oe:Obj}
end
section
variable {X:Cx} {a:Addr} {oe:Obj} {cls:Value} {d:Option Addr} {pn:List (Addr × Obj)} {f:Addr} {fd:FuncData} {qual pe fx x n:Str} {params:Arguments} {body:List Stmt} {scope:Scope} {dvs:List V} {kwd:List (Str × V)} {N:List Str} {blts:List Str} {cst:List (Str × MV)} {i:Nat} {p q pos:Pos}
end
end Rc

namespace Rc
open PySem PySem.Spec L2 LamX
open PyProof.Rows hiding St
section
variable {K:Ki} {g:G} {m:Mem} {H:Hp} {P c:Addr} {q:Str} {ps more:Array Value}
theorem Rs.code (rs:Rs K g m H) (hP:H P=some (.tbl ps)) (hm:∃ x,(x,P,q)∈tabsOf K.K) (hu:∀ p∈tabsOf K.K,p.2.1=P→p.2.2=q) (hc:H c=none) (ht:TriplesOk (ps++more).toList)
    (ha:∀ (pos:Pos) (cv:Value),codeAmong pos (ps++more).toList=some cv→codeAmong pos ps.toList=some cv∨cv=.ref c) :
    Rs K { g with F:=upd g.F c (CodeO c q) } m (upd (upd H P (.tbl (ps++more))) c (CodeO c q))∧Stp g H { g with F:=upd g.F c (CodeO c q) } (upd (upd H P (.tbl (ps++more))) c (CodeO c q)):=by
  obtain ⟨x,hm⟩:=hm
  have tP:=rs.tb _ hm
  have fP:g.F P=none:=tP.F
  have ncP:P≠c:=fun z=>by rw [z,hc] at hP;cases hP
  have at_:∀ b,b≠P→b≠c→upd (upd H P (.tbl (ps++more))) c (CodeO c q) b=H b:=fun b h1 h2=>by rw [upd_ne h2,upd_ne h1]
  have nc:∀ {b u},H b=some u→b≠c:=fun {b u} e z=>by rw [z,hc] at e;cases e
  have nP:∀ {b u},H b=some u→NTbl u→b≠P:=fun {b u} e n z=>by
    rw [z,hP] at e
    exact n ps (Option.some.inj e).symm
  have fc:g.F c=none:=rs.fNone hc
  have F1:∀ b u,g.F b=some u→upd g.F c (CodeO c q) b=some u:=fun b u e=>by
    rw [upd_ne (fun z=>by rw [z,fc] at e;cases e)];exact e
  have st:Stp g H { g with F:=upd g.F c (CodeO c q) } (upd (upd H P (.tbl (ps++more))) c (CodeO c q)):=by
    refine ⟨F1,fun _ _ e=>e,fun b u e _ n=>by rw [at_ b (nP e n) (nc e)];exact e,fun b e=>?_,fun b e=>?_,fun _ _ e=>.inl e⟩
    · by_cases h1:b=c
      · rw [h1] at e;exact absurd hc e
      · by_cases h2:b=P
        · rw [upd_ne h1,h2,upd_same];simp
        · rw [at_ b h2 h1];exact e
    · have e:upd g.F c (CodeO c q) b≠none:=e
      by_cases h1:b=c
      · rw [h1];exact .inr (.inl hc)
      · rw [upd_ne h1] at e;exact .inl e
  refine ⟨⟨fun b u e=>?_,fun n o e=>?_,fun n b e=>?_,rs.rj,fun p hp=>?_⟩,st⟩
  · have e:upd g.F c (CodeO c q) b=some u:=e
    by_cases h1:b=c
    · rw [h1,upd_same] at e ⊢;exact e
    · rw [upd_ne h1] at e
      rw [at_ b (fun z=>by rw [z,fP] at e;cases e) h1]
      exact rs.sub b u e
  · obtain ⟨b,e1,e2,e3⟩:=rs.gr n o e
    obtain ⟨u,hu1,nu⟩:=e3.someN
    refine ⟨b,e1,?_,e3.grow F1 (fun _ _ e=>e) (at_ b (nP hu1 nu) (nc hu1))⟩
    show upd g.F c (CodeO c q) b=none
    rw [upd_ne (nc hu1)];exact e2
  · obtain ⟨h1,h2⟩:=rs.rb n b e
    exact ⟨h1,st.dom b h2⟩
  · have t:=rs.tb p hp
    have pc:p.2.1≠c:=(t.ne0 hc).symm
    by_cases h1:p.2.1=P
    · rw [h1,hu p hp h1]
      obtain ⟨ps0,e1,_,e3⟩:=tP.ps
      have e1:H P=some (.tbl ps0):=e1
      rw [hP] at e1
      cases e1
      refine ⟨⟨_,by rw [upd_ne ncP,upd_same],ht,fun pos cv hcv=>?_⟩,by show upd g.F c (CodeO c q) P=none;rw [upd_ne ncP];exact fP,tP.r⟩
      rcases ha pos cv hcv with z | z
      · obtain ⟨c0,y1,y2⟩:=e3 pos cv z
        exact ⟨c0,y1,F1 _ _ y2⟩
      · exact ⟨c,z,upd_same⟩
    · exact t.go (at_ _ h1 pc) F1 (by show upd g.F c (CodeO c q) _=none;rw [upd_ne pc];exact t.F) t.r
end
section
variable {X:Cx} {pins:List (Addr × Obj)} {σ:L2.St} {H:Hp} {s:Shared} {g:G} {m:Mem}
end
end Rc

namespace Rc
open PySem PySem.Spec L2 L2H LamX
open PyProof.Rows hiding St
def tryR (cs:List Str) (Mf:Mir):R OV→R OV
  | .ok (.v y) m=>.ok (.v (.tup [.str "",y])) m
  | .ok (.b _) _=>.stuck
  | .exc c ks xs m=>if c∈cs∧cls_ xs=true then (match fLook ks xs "code",Mf [.exn c ks xs] [] with
    | some (.str z),.ok (.tup ys) []=>if cls_ ys=true then .ok (.v (.tup [.str z,.tup ys])) m else .stuck
    | _,_=>.stuck) else .stuck
  | .stuck=>.stuck
def tryBody (p:Nat→Pos) (j:Nat→Nat):List Stmt:=[
  .Try [.Return (some (.Tuple [.Constant (.str "") (j 0) (p 0),.Call (.Name "_law_ask" (p 1)) [] [] (p 2)] (j 1) (p 3))) (p 4)]
    [.ExceptHandler (some (.Tuple [.Name "RoomError" (p 5),.Name "Missing" (p 6),.Name "NothingLeft" (p 7)] (j 2) (p 8))) (some "_law_e")
      [.Return (some (.Tuple [.Attribute (.Name "_law_e" (p 9)) "code" (p 10),.Call (.Name "_law_field" (p 11)) [.Name "_law_e" (p 12)] [] (p 13)] (j 3) (p 14))) (p 15)] (p 16)] [] [] (p 17)]
structure CaughtC (K:PySem.W.Frag) (C:Addr):Prop where
  any:PySem.W.exmAny K (.ref C) [.ref (He.ga K "RoomError"),.ref (He.ga K "Missing"),.ref (He.ga K "NothingLeft")]=some true
  xf:XfC K C
  no:PySem.W.findIn K (.ref C) "code" = some none
section
variable {X:Cx} {f:Addr} {fd:FuncData} {qual fx:Str} {params:Arguments} {body:List Stmt} {scope:Scope} {dvs:List V} {kwd:List (Str × V)} {N:List Str} {blts:List Str} {cst:List (Str × MV)}
end
section
variable {X:Cx} {fg ff:Addr} {fdg fdf:FuncData} {qf xf:Str} {pg pf:Arguments} {bf:List Stmt} {sg sf:Scope} {dvf:List V} {kwf:List (Str × V)} {Ng Nf:List Str} {blts:List Str} {cst:List (Str × MV)} {pp:Nat→Pos} {jj:Nat→Nat}
end
end Rc

namespace Rc
open PySem PySem.Spec L2 LamX
open PyProof.Rows hiding St
structure TryN (P:Program) (w:World) (K:PySem.W.Frag) (mg:Str→Option Value) (base:Heap) (cs:List Str) (Mf:Mir):Prop where
  ex:∃ (fg ff:Addr) (fdg fdf:FuncData) (qf xf:Str) (pg pf:Arguments) (bf:List Stmt) (sg sf:Scope) (dvf:List V) (kwf:List (Str × V)) (Nf blts:List Str) (cst:List (Str × MV)) (pp:Nat→Pos) (jj:Nat→Nat) (B:MSs),
    FunD K xf qf pf bf sf dvf kwf ff fdf∧FnScope Nf ["_law_e"] sf∧ModOk ⟨K,P,w⟩ mg blts cst∧All (fun n:Need=>n P w K mg base 0) B.needs∧mSs B ⟨Nf,sf,blts,cst,true,false,false⟩ bf=true ∧
    (∀ as m,as.length=1→Mf as m≠.stuck→runD Nf.length B as m=Mf as m)∧Binds K fdf ["_law_e"] []∧mg "_law_field" = some (.ref ff) ∧
    FunD K "_law_try" "_law_try" pg (tryBody pp jj) sg [] [] fg fdg∧FnScope ["_law_ask","_law_e"] ["_law_ask"] sg∧Binds K fdg ["_law_ask"] []∧mg "_law_try" = some (.ref fg) ∧
    sg.names.lookup ("_law_e":Str)=some .local∧sg.names.lookup ("_law_ask":Str)=some .local∧sg.names.lookup ("_law_field":Str)=some .globalImplicit∧sg.names.lookup ("RoomError":Str)=some .globalImplicit ∧
    sg.names.lookup ("Missing":Str)=some .globalImplicit∧sg.names.lookup ("NothingLeft":Str)=some .globalImplicit
  m1:mg "RoomError" = some (.ref (He.ga K "RoomError"))
  m2:mg "Missing" = some (.ref (He.ga K "Missing"))
  m3:mg "NothingLeft" = some (.ref (He.ga K "NothingLeft"))
  cs:∀ c∈cs,CaughtC K (He.ga K c)
  uq:∀ p∈tabsOf K,∀ q∈tabsOf K,p.2.1=q.2.1→p.2.2=q.2.2
end Rc

namespace Rc
open PySem PySem.Spec L2
open PyProof.Rows hiding St
def clsB (b:BaseI) (K:PySem.W.Frag) (C:Addr):Bool:=match K.lookup C with
  | some ⟨.type t,_,.cls ⟨_,_,.ref C' :: bm,_,_,true,_,_,_,_,false⟩,sl⟩=>decide (t="type")&&(decide (C'=C)&&(refsB b.tail bm&&(match sl.toList with
    | [_,_,_,_,some (.builtin n),_]=>decide (n=b.new)
    | _=>false)))
  | _=>false
theorem clsB_ok {b:BaseI} {K:PySem.W.Frag} {C:Addr} (h:clsB b K C=true):∃ nm q N bs bm sn sub ab col dd k0 k1 k2 k3 k5,K.lookup C=some (excClassObj nm q C N bs bm true sn sub ab col dd k0 k1 k2 k3 k5 b.new)∧refsB b.tail bm=true:=by
  unfold clsB at h
  split at h
  · rename_i t dd nm bs C' bm N q sn sub ab col sl e
    obtain ⟨h1,h⟩:=Bool.and_eq_true_iff.mp h
    obtain ⟨h2,h⟩:=Bool.and_eq_true_iff.mp h
    obtain ⟨h3,h⟩:=Bool.and_eq_true_iff.mp h
    split at h
    · rename_i k0 k1 k2 k3 n k5 es
      have h1:=of_decide_eq_true h1
      have h2:=of_decide_eq_true h2
      have h4:=of_decide_eq_true h
      subst h1 h2 h4
      have hs:sl=#[k0,k1,k2,k3,some (.builtin b.new),k5]:=by
        obtain ⟨l⟩:=sl
        simp only at es
        rw [es]
      subst hs
      exact ⟨nm,q,N,bs,bm,sn,sub,ab,col,dd,k0,k1,k2,k3,k5,e,h3⟩
    · cases h
  · cases h
def rfQ (a:Addr):Option (Option Value)→Bool
  | some (some (.ref b))=>Nat.beq b a
  | _=>false
theorem rfQ_ok {a:Addr} {x:Option (Option Value)} (h:rfQ a x=true):x=some (some (.ref a)):=by
  unfold rfQ at h
  split at h
  · rw [Nat.eq_of_beq_eq_true h]
  · cases h
def blQ (t:String):Option (Option Value)→Bool
  | some (some (.builtin u))=>decide (u=t)
  | _=>false
theorem blQ_ok {t:String} {x:Option (Option Value)} (h:blQ t x=true):x=some (some (.builtin t)):=by
  unfold blQ at h
  split at h
  · rw [of_decide_eq_true h]
  · cases h
def tyQ (t:String):Option Value→Bool
  | some (.type u)=>decide (u=t)
  | _=>false
theorem tyQ_ok {t:String} {x:Option Value} (h:tyQ t x=true):x=some (.type t):=by
  unfold tyQ at h
  split at h
  · rw [of_decide_eq_true h]
  · cases h
def trQ:Option Bool→Bool
  | some true=>true
  | _=>false
theorem trQ_ok {x:Option Bool} (h:trQ x=true):x=some true:=by
  unfold trQ at h
  split at h
  · rfl
  · cases h
def noQ:Option (Option Value)→Bool
  | some none=>true
  | _=>false
theorem noQ_ok {x:Option (Option Value)} (h:noQ x=true):x=some none:=by
  unfold noQ at h
  split at h
  · rfl
  · cases h
def oexB (b:BaseI) (K:PySem.W.Frag) (C:Addr):Bool:=clsB b K C&&(blQ "object.__setattr__" (PySem.W.findIn K (.ref C) "__setattr__")&&(trQ (PySem.W.subIn K (.ref C) (.type "BaseException")) &&
  (tyQ "type" (PySem.W.typeIn K (.ref C))&&PySem.W.keepIn K (.ref C))))
theorem oexB_ok {b:BaseI} (kb:BaseOk b) {K:PySem.W.Frag} {C:Addr} (h:oexB b K C=true):OexG b K C:=by
  obtain ⟨h1,h⟩:=Bool.and_eq_true_iff.mp h
  obtain ⟨h2,h⟩:=Bool.and_eq_true_iff.mp h
  obtain ⟨h3,h⟩:=Bool.and_eq_true_iff.mp h
  obtain ⟨h4,h5⟩:=Bool.and_eq_true_iff.mp h
  exact ⟨kb,clsB_ok h1,blQ_ok h2,trQ_ok h3,tyQ_ok h4,h5⟩
end Rc

namespace Rc
open PySem PySem.Spec L2 LamX
open PyProof.Rows hiding St
structure LamP (sc scope:Scope) (N:List Str):Prop where
  kind:scope.kind=.function
  co:scope.isCoroutine=false
  gen:scope.isGenerator=false
  nocell:∀ y∈scope.names,y.2≠.cell
  par:∀ y∈scope.names,y.2=.local→y.1∉N
  free:∀ y∈scope.names,y.2=.free→sc.names.lookup y.1=some .cell∨sc.names.lookup y.1=some .free
theorem LamP.cells {X:Cx} {scope:Scope} (L:LamP X.env.scope scope X.N) (ok:X.Ok):∀ y∈scope.names,y.2=.free→∃ c,X.env.cells.lookup y.1=some c:=fun y hy e=>ok.has _ ((L.free y hy e).elim .inl .inr)
section
variable {X:Cx} {pins:List (Addr × Obj)} {σ:L2.St} {H HZ:Hp} {s s1:Shared}
end
def LamArgs (scope:Scope) (params:Arguments):Prop:=params=⟨[],[],none,[],[],none,[]⟩∨∃ (a:Str) (pa:Pos) (n:Int) (j:Nat) (pd:Pos),params=⟨[],[⟨a,none,pa⟩],none,[],[],none,[.Constant (.int n) j pd]⟩∧scope.names.lookup a=some .local∧(a=("_law_a":Str)∨a=("_law_b":Str))
def LamG (X:Cx) (g:G) (params:Arguments) (body:Expr) (scope:Scope) (f:Addr):Prop:=∃ (c':Addr) (dV doc pm ctv:Value),g.F f=some (exactO f (PySem.W.kdv_obj "<lambda>" (X.env.qual++"<lambda>") params (.expr body) scope (cloFrom X.env.cells scope.names []) dV doc pm c' ctv)) ∧
  g.F c'=some (CodeO c' (X.env.qual++"<lambda>"))∧(params.defaults=[]∧dV=.none∨∃ (T:Addr) (v:Value),dV=.ref T∧params.defaults≠[]∧g.F T=some (exactO T (PySem.W.kdv_tup [v])))
section
variable {X:Cx} {pins:List (Addr × Obj)} {σ:L2.St} {H HZ:Hp} {s s1:Shared} {params:Arguments} {body:Expr} {scope:Scope} {f:Addr} {g g':G} {m:Mem}
theorem LamG.st (F:LamG X g params body scope f) (st:Stp g H g' HZ):LamG X g' params body scope f:=by
  obtain ⟨c',dV,doc,pm,ctv,h1,h2,h3⟩:=F
  exact ⟨c',dV,doc,pm,ctv,st.F _ _ h1,st.F _ _ h2,h3.imp id fun ⟨T,v,e,q0,q1⟩=>⟨T,v,e,q0,st.F _ _ q1⟩⟩
end
section
variable {X:Cx} {pins:List (Addr × Obj)} {σ:L2.St} {H:Hp} {s:Shared} {g:G} {m:Mem}
end
end Rc

namespace Rc
open PySem PySem.Spec L2 L2H LamX
open PyProof.Rows hiding St
section
variable {X:Cx} {pins:List (Addr × Obj)} {σ:L2.St} {H H2:Hp} {s s2:Shared} {params:Arguments} {body:Expr} {scope:Scope} {f:Addr}
end
section
variable {X:Cx} {fg ff:Addr} {fdg fdf:FuncData} {qf xf:Str} {pg pf:Arguments} {bf:List Stmt} {sg sf:Scope} {dvf:List V} {kwf:List (Str × V)} {Nf:List Str} {blts:List Str} {cst:List (Str × MV)} {pp:Nat→Pos} {jj:Nat→Nat}
variable {pins:List (Addr × Obj)} {σ:L2.St} {H H2:Hp} {s s2:Shared} {params:Arguments} {body:Expr} {scope:Scope} {f:Addr}
end
end Rc

namespace Rc
open PySem PySem.Spec L2
open PyProof.Rows hiding St
section
variable {X:Cx}
end
end Rc

namespace Rc
open PySem PySem.Spec L2 L2H LamX
open PyProof.Rows hiding St
def triesR (cs:List Str) (Mf:Mir):List (Mem→R OV)→List MV→Mem→R OV
  | [],acc,m=>.ok (.v (.lst acc)) m
  | f :: fs,acc,m=>(tryR cs Mf (f m)).bind fun x m=>match x with
    | .v y=>triesR cs Mf fs (acc++[y]) m
    | .b _=>.stuck
structure LamD where
  params:Arguments
  scope:Scope
  body:Expr
  fe:Sl→Mem→R OV
structure LamD.Ok (X:Cx) (k:Nat) (d:LamD):Prop where
  args:LamArgs d.scope d.params
  sc:LamP X.env.scope d.scope X.N
  run:∀ (A:Around) (outer:List Env) (s:Shared) (H:Hp) (E:XK) (f c':Addr),Room k (A.deeper (lamEnv X d.scope s.heap.objs.size f c'))→PE (lamN X A outer s H E d.scope f c') d.body (tE X.ki (fun cls dd _ H'=>E cls dd H') d.fe)
def Lams (X:Cx) (g:G):List LamD→List Addr→Prop
  | [],fs=>fs=[]
  | d :: ds,fs=>∃ f r,fs=f :: r∧LamG X g d.params d.body d.scope f∧Lams X g ds r
theorem Lams.st {X:Cx} {g g':G} {H H':Hp} (st:Stp g H g' H'):∀ {ds:List LamD} {fs:List Addr},Lams X g ds fs→Lams X g' ds fs
  | [],_,h=>h
  | _ :: _,_,⟨f,r,e,h1,h2⟩=>⟨f,r,e,h1.st st,h2.st st⟩
theorem Lams.len {X:Cx} {g:G}:∀ {ds:List LamD} {fs:List Addr},Lams X g ds fs→fs.length=ds.length
  | [],_,h=>by cases h;rfl
  | _ :: _,_,⟨f,r,e,_,h2⟩=>by rw [e,List.length_cons,List.length_cons,h2.len]
theorem Lams.get {X:Cx} {g:G}:∀ {ds:List LamD} {fs:List Addr} {i:Nat} {f:Addr},Lams X g ds fs→fs[i]? = some f→∃ d,ds[i]? = some d∧LamG X g d.params d.body d.scope f
  | [],_,i,f,h,e=>by cases h;simp at e
  | d :: ds,_,0,f,⟨f',r,e1,h1,_⟩,e=>by subst e1;simp at e;subst e;exact ⟨d,rfl,h1⟩
  | d :: ds,_,i + 1,f,⟨f',r,e1,_,h2⟩,e=>by
    subst e1
    obtain ⟨d',q,z⟩:=Lams.get (i:=i) h2 (by simpa using e)
    exact ⟨d',by simpa using q,z⟩
def LamEs:List LamD→List Expr→Prop
  | [],es=>es=[]
  | d :: ds,es=>∃ p r,es=.Lambda d.params d.body d.scope p :: r∧LamEs ds r
section
variable {X:Cx} {cd P:Addr} {k:Nat}
end
section
variable {X Y:Cx} {pins:List (Addr × Obj)} {σ:L2.St} {H:Hp} {s:Shared} {W:WX} {sl:Sl} {k:Nat} {cs:List Str} {Mf:Mir}
end
def triesBody (p:Nat→Pos) (sc:Scope):List Stmt:=[.Return (some (.ListComp (.Call (.Name "_law_try" (p 0)) [.Name "_law_ask" (p 1)] [] (p 2)) [⟨.Name "_law_ask" (p 3),.Name "_law_asks" (p 4),[],0⟩] sc (p 5))) (p 6)]
structure TriesN (P:Program) (w:World) (K:PySem.W.Frag) (mg:Str→Option Value) (base:Heap) (cs:List Str) (Mf:Mir):Prop where
  T:TryN P w K mg base cs Mf
  ex:∃ (ft:Addr) (fdt:FuncData) (pt:Arguments) (st sc:Scope) (p:Nat→Pos),FunD K "_law_tries" "_law_tries" pt (triesBody p sc) st [] [] ft fdt∧FnScope ["_law_asks","_law_ask"] ["_law_asks"] st∧Binds K fdt ["_law_asks"] []∧mg "_law_tries" = some (.ref ft) ∧
    st.names.lookup ("_law_asks":Str)=some .local∧blkC ["_law_asks","_law_ask"] st sc [("_law_ask",1)]=true∧(relS sc st).names.lookup ("_law_ask":Str)=some .local∧(relS sc st).names.lookup ("_law_try":Str)=some .globalImplicit
section
variable {X:Cx} {pins:List (Addr × Obj)} {σ:L2.St} {H:Hp} {s:Shared} {W:WX} {sl:Sl} {k:Nat} {cs:List Str} {Mf:Mir} {g:G} {m:Mem} {Q:VK}
end
section
variable {X:Cx} {W:WX} {k:Nat} {cs:List Str} {Mf:Mir} {cd P:Addr}
end
end Rc

namespace Rc
open PySem PySem.Spec L2 NdefX
open PyProof.Rows hiding St
def isNon:Value→Bool
  | .none=>true
  | _=>false
theorem isNon_ok {v:Value} (h:isNon v=true):v=.none:=by
  cases v <;> first | rfl | cases h
def errCodeB (K:PySem.W.Frag) (file qual:Str):Value→Bool
  | .ref cda=>PySem.W.codeIn K (.ref cda) qual&&(match K.lookup cda with
    | some ⟨_,_,.fields vs,_⟩=>(match (vs.toList[2]?:Option Value) with
      | some (.str fl _)=>file == fl
      | _=>false)
    | _=>false)
  | _=>false
def errCloB (K:PySem.W.Frag) (C:Addr):List (Str × Addr)→Bool
  | [(x,cc)]=>decide (x="__class__")&&(match K.lookup cc with
    | some ⟨_,_,.cell (some (.ref C')),_⟩=>decide (C'=C)
    | _=>false)
  | _=>false
def errFnB (K:PySem.W.Frag) (file:Str) (C fI:Addr):Bool:=match K.lookup fI with
  | some ⟨_,_,.func fd,_⟩=>errCodeB K file fd.qualname fd.code&&(errCloB K C fd.closure&&(isNon fd.defaults&&(isNon fd.kwdefaults&&fd.annotations.isNone)))
  | _=>false
def errBB (b:BaseI) (file:Str) (d:ErrD) (K:PySem.W.Frag):Bool :=
  oexB b K (He.ga K d.x)&&(rfQ (He.ma K (He.ga K d.x) "__init__") (PySem.W.findIn K (.ref (He.ga K d.x)) "__init__")&&(tyQ "function" (PySem.W.typeIn K (.ref (He.ma K (He.ga K d.x) "__init__"))) &&
  (errFnB K file (He.ga K d.x) (He.ma K (He.ga K d.x) "__init__")&&(blQ b.init (PySem.W.ks_superIn K (He.ga K d.x) (He.ga K d.x) "__init__") &&
  (trQ (PySem.W.subIn K (.ref (He.ga K d.x)) (.type b.B))&&(trQ (PySem.W.mroIn K (He.ga K d.x) (.ref (He.ga K d.x)))&&(noQ (PySem.W.nsIn K cStatics "thirdparty.any") &&
  (noQ (PySem.W.findIn K (.ref (He.ga K d.x)) "code")&&noQ (PySem.W.findIn K (.ref (He.ga K d.x)) d.f)))))))))
theorem err_ok {bs:BaseI} (kb:BaseOk bs) {P:Program} {K:PySem.W.Frag} {file:Str} {d:ErrD} (e:errV K d.x=d.val) (b:errBB bs file d K=true) (hf:P.main.file=file) :
    ∃ (c:ErrC bs K P (He.ga K d.x)) (doc pm ctv:Value),c.fd=(errNF c.qual d.params d.body d.scope c.cc c.cda).fd doc pm ctv∧PySem.W.findIn K (.ref (He.ga K d.x)) "code" = some none∧PySem.W.findIn K (.ref (He.ga K d.x)) d.f=some none:=by
  obtain ⟨b1,b⟩:=Bool.and_eq_true_iff.mp b
  obtain ⟨b2,b⟩:=Bool.and_eq_true_iff.mp b
  obtain ⟨b3,b⟩:=Bool.and_eq_true_iff.mp b
  obtain ⟨b4,b⟩:=Bool.and_eq_true_iff.mp b
  obtain ⟨b5,b⟩:=Bool.and_eq_true_iff.mp b
  obtain ⟨b6,b⟩:=Bool.and_eq_true_iff.mp b
  obtain ⟨b7,b⟩:=Bool.and_eq_true_iff.mp b
  obtain ⟨b8,b⟩:=Bool.and_eq_true_iff.mp b
  obtain ⟨b9,b10⟩:=Bool.and_eq_true_iff.mp b
  unfold errFnB at b4
  unfold errV at e
  cases q:K.lookup (He.ma K (He.ga K d.x) "__init__") with
  | none=>rw [q] at b4;cases b4
  | some o =>
    obtain ⟨oc,od,dt,osl⟩:=o
    rw [q] at b4 e
    cases dt with
    | func fd =>
      obtain ⟨n1,n2,n3,n4,n5,n6,n7,n8,n9,n10,n11,n12,n13,n14,n15⟩:=fd
      have e2:(some (n1,n2,n3,n4,n5,n6,n7.map (·.1),n15):ErrV)=d.val:=e
      unfold ErrD.val at e2
      simp only [Option.some.injEq,Prod.mk.injEq] at e2
      obtain ⟨h1,h2,h3,h4,h5,h6,h7,h8⟩:=e2
      subst h1 h2 h3 h4 h5 h6 h8
      have c4:(errCodeB K file (d.x++".__init__") n13&&(errCloB K (He.ga K d.x) n7&&(isNon n8&&(isNon n9&&n12.isNone))))=true:=b4
      obtain ⟨c1,c4⟩:=Bool.and_eq_true_iff.mp c4
      obtain ⟨c2,c4⟩:=Bool.and_eq_true_iff.mp c4
      obtain ⟨c3,c4⟩:=Bool.and_eq_true_iff.mp c4
      obtain ⟨c5,c6⟩:=Bool.and_eq_true_iff.mp c4
      obtain rfl:=isNon_ok c3
      obtain rfl:=isNon_ok c5
      obtain rfl:=Option.isNone_iff_eq_none.mp c6
      cases n13 with
      | ref cda =>
        obtain ⟨k1,k2⟩:=Bool.and_eq_true_iff.mp (show (PySem.W.codeIn K (.ref cda) (d.x++".__init__")&&_)=true from c1)
        match n7,c2 with
        | [(x,cc)],c2 =>
          obtain ⟨k3,k4⟩:=Bool.and_eq_true_iff.mp (show (decide (x=("__class__":Str))&&_)=true from c2)
          obtain rfl:=of_decide_eq_true k3
          have cell:∃ oc od sl,K.lookup cc=some ⟨oc,od,.cell (some (.ref (He.ga K d.x))),sl⟩:=by
            split at k4
            · rename_i oc od C' sl e4
              rw [of_decide_eq_true k4] at e4
              exact ⟨_,_,_,e4⟩
            · cases k4
          have file':∃ oc od vs sl fl tf,K.lookup cda=some ⟨oc,od,.fields vs,sl⟩∧vs[2]? = some (.str fl tf)∧((P.main.file:Str) == fl)=true:=by
            split at k2
            · rename_i oc od vs sl e5
              split at k2
              · rename_i fl tf e6
                rw [Array.getElem?_toList] at e6
                exact ⟨_,_,_,_,_,_,e5,e6,by rw [hf];exact k2⟩
              · cases k2
            · cases k2
          exact ⟨⟨oexB_ok kb b1,_,cda,cc,_,_,rfQ_ok b2,tyQ_ok b3,⟨_,_,_,q⟩,k1,file',cell,blQ_ok b5,trQ_ok b6,trQ_ok b7,noQ_ok b8⟩,n10,n11,n14,rfl,noQ_ok b9,noQ_ok b10⟩
      | _=>cases c1
    | _=>cases b4
theorem err_needB {bs:BaseI} (kb:BaseOk bs) {P:Program} {w:World} {K:PySem.W.Frag} {mg:Str→Option Value} {base:Heap} {file:Str} {d:ErrD} {p:Nat→Pos} {j:Nat→Nat} {pl:Sem Bool} (e:errV K d.x=d.val) (b:errBB bs file d K=true) (hf:P.main.file=file)
    (htop:(P.main.scope.names.lookup ("super":Str)).isSome=false) (hm:mg d.x=some (.ref (He.ga K d.x))) (hms:mg "super" = none) (hb:d.body=errBody d.x d.g d.f p j) (tx:ErrT d.x d.g d.f p j pl) (S:NScope ["self",d.g,"__class__"] ["self",d.g] ["__class__"] d.scope)
    (hsu:d.scope.names.lookup ("super":Str)=some .globalImplicit) (hg1:(d.params.posonlyargs++d.params.args).head?.map (·.arg)=some ("self":Str)) (hd1:(d.g == ("__debug__":Str))=false) (hd2:(d.g == ("__classdict__":Str))=false)
    (hbi:∀ (cl:List (Str × Addr)) (qual:Str) (cda:Addr) (doc pm ctv u v:Value),bindArgs (NF.fd ⟨"__init__",qual,d.params,d.body,d.scope,cl,cda⟩ doc pm ctv) ⟨[u,v],[]⟩=pure ([("self",u),(d.g,v)]:List (Str × Value))) {k:Nat} (hk:2≤k):nErrB bs d.x d.g d.f d.x P w K mg base k:=by
  obtain ⟨c,doc,pm,ctv,hfd,nc,nf⟩:=err_ok kb e b hf
  rw [hb] at hfd
  refine ⟨c,hm,⟨1,hk,fn_err (k:=0) c tx hfd S hsu hg1 hms htop nc nf hd1 hd2⟩,.all fun us hl=>?_⟩
  match us,hl with
  | [u,v],_ =>
    rw [hfd,← hb]
    exact hbi _ _ _ _ _ _ _ _
def errPos:List Stmt→(Nat→Pos) × (Nat→Nat)
  | [.Expr (.Call (.Attribute (.Call (.Name _ p0) [] [] p1) _ p2) [.Constant _ j0 p3] [] p4) p5,.Assign [.Attribute (.Name _ p6) _ p7] (.Constant _ j1 p8) p9,.Assign [.Attribute (.Name _ p10) _ p11] (.Name _ p12) p13] =>
    (fun i=>[p0,p1,p2,p3,p4,p5,p6,p7,p8,p9,p10,p11,p12,p13].getD i p0,fun i=>[j0,j1].getD i 0)
  | _=>(fun _=>⟨0,0,0,0⟩,fun _=>0)
theorem errT {nm g f:Str} {p:Nat→Pos} {j:Nat→Nat} (h:((p 2).endLine == (p 4).line)=true):ErrT nm g f p j (do return (← (pure (some false):Sem (Option Bool))).getD true):=by
  refine ⟨fun env=>?_,fun _=>by kernel_rfl,fun _=>by kernel_rfl,fun _=>by kernel_rfl,fun _=>by kernel_rfl⟩
  have e:∀ few o env,methodCallPos few o env (p 2) (p 4)=pure (p 4):=fun few o env=>by
    unfold methodCallPos
    rw [h,Bool.or_true,if_pos rfl]
  have e2:eval (supCall nm p j) env=(do
      let ov ← attributeBase (supE p) "__init__" env (eval (supE p) env)
      standAt (p 2).atName
      let (f,first) ← holding [ov] (getMethod ov "__init__" (do return (← (pure (some false):Sem (Option Bool))).getD true))
      let cp ← methodCallPos true (supE p) env (p 2) (p 4)
      callWith cp f first (backTo (p 4) (starEach [.Constant (.str nm) (j 0) (p 3)] env)) []):=by kernel_rfl
  rw [e2]
  simp only [e]
  rfl
end Rc

namespace Rc
open PySem PySem.Spec L2 NdefX
open PyProof.Rows hiding St
section
variable {X:Cx} {CX:CXT} {x:Str} {p pos:Pos} {C fI:Addr} {k:Nat} {fd:FuncData} {ps:List Str} {sp:Sp}
end


structure Err0D where
  x:Str
  params:Arguments
  body:List Stmt
  scope:Scope
def Err0D.d (d:Err0D):ErrD:=⟨d.x,"code","code",d.params,d.body,d.scope⟩
def Err0D.own (d:Err0D):OwnD:=d.d.own
end Rc

namespace Rc
open PySem PySem.Spec L2 L2H LamX
open PyProof.Rows hiding St
section
variable {K:Ki} {g0 g g':G} {H0 H H':Hp} {s:Sl} {m:Mem} {σ:L2.St}
theorem SRel.drop {i:Nat} {v:V} (h:SRel K g0 H0 g s m σ H):SRel K g0 H0 g (s.set i none) m (σ.set i (some v)) H:=by
  have ne:∀ {j:Nat} {x:SV},(s.set i none)[j]? = some (some x)→i≠j:=fun {j x} e q=>by
    subst q
    by_cases hi:i < s.length
    · rw [List.getElem?_set_self hi] at e;cases e
    · rw [List.getElem?_eq_none (by simpa using hi)] at e;cases e
  refine ⟨h.rs,⟨fun j x e=>?_,fun j o e=>?_,fun j k o u a e1 e2 e3 e4=>?_,by simp [h.rl.len]⟩,h.st,fun j o a e1 e2=>?_⟩
  · have q:=ne e
    rw [List.getElem?_set_ne q] at e
    obtain ⟨w,e1,e2⟩:=h.rl.val j x e
    exact ⟨w,by rw [List.getElem?_set_ne q];exact e1,e2⟩
  · have q:=ne e
    rw [List.getElem?_set_ne q] at e
    obtain ⟨w,e1,e2⟩:=h.rl.own j o e
    exact ⟨w,by rw [List.getElem?_set_ne q];exact e1,e2⟩
  · have q1:=ne e1
    have q2:=ne e2
    rw [List.getElem?_set_ne q1] at e1 e3
    rw [List.getElem?_set_ne q2] at e2 e4
    exact h.rl.dis j k o u a e1 e2 e3 e4
  · have q:=ne e1
    rw [List.getElem?_set_ne q] at e1 e2
    exact h.o0 j o a e1 e2
end
theorem Lams.app {X:Cx} {g:G}:∀ {ds es:List LamD} {fs hs:List Addr},Lams X g ds fs→Lams X g es hs→Lams X g (ds++es) (fs++hs)
  | [],_,_,_,h,h2=>by cases h;exact h2
  | _ :: _,_,_,_,⟨f,r,e,h1,h3⟩,h2=>by subst e;exact ⟨f,_,rfl,h1,h3.app h2⟩
theorem LamEs.split:∀ {es1:List Expr} {ds:List LamD} {es2:List Expr},LamEs ds (es1++es2)→∃ d1 d2,ds=d1++d2∧LamEs d1 es1∧LamEs d2 es2
  | [],ds,es2,h=>⟨[],ds,rfl,rfl,h⟩
  | e :: es1,[],es2,h=>by cases h
  | e :: es1,d :: ds,es2,⟨p,r,e1,h⟩=>by
    rw [List.cons_append] at e1
    cases e1
    obtain ⟨d1,d2,rfl,q1,q2⟩:=LamEs.split h
    exact ⟨d :: d1,d2,rfl,⟨p,es1,rfl,q1⟩,q2⟩
section
variable {X:Cx} {W:WX} {g0:G} {H0 H:Hp} {i:Nat} {ds:List LamD} {f:Sl→Mem→SR} {D:Ends} {σ:L2.St}
end
section
variable {X:Cx} {W:WX} {k:Nat} {cs:List Str} {Mf:Mir}
end
section
variable {X:Cx} {W:WX} {g0 g:G} {H0 H:Hp} {i:Nat} {ds:List LamD} {cs:List Str} {Mf M:Mir} {fd:Sl→Mem→R OV} {s:Sl} {m:Mem} {σ:L2.St} {D:Ends} {kk:OV→Mem→SR}
end
section
variable {X:Cx} {W:WX} {c:Cfg} {k:Nat} {g0:G} {H0:Hp} {i:Nat} {f:Sl→Mem→SR} {cs:List Str} {Mf:Mir} {F:Fn} {cd P:Addr}
end
end Rc

set_option maxHeartbeats 2000000
namespace Rc
open PySem PySem.Spec L2
open PyProof.Rows hiding St
section
variable {K:PySem.W.Frag} {x qual:Str} {params:Arguments} {body:List Stmt} {scope:Scope} {kws:List (Str × V)} {f:Addr} {fd:FuncData}
end
end Rc

namespace Rc
open PySem PySem.Spec L2
open PyProof.Rows hiding St
def fillG {α:Type}:List Str→List α→List Str→List α→List Str→List α→List α
  | [],_,_,_,_,_=>[]
  | _ :: ps,a :: as,ks,zs,ns,ds=>a :: fillG ps as ks zs ns ds
  | p :: ps,[],ks,zs,ns,ds=>match (ks.zip zs).lookup p with
    | some v=>v :: fillG ps [] ks zs ns ds
    | none=>match (ns.zip ds).lookup p with
      | some v=>v :: fillG ps [] ks zs ns ds
      | none=>fillG ps [] ks zs ns ds
theorem zip_lookup {α β:Type} {R:α→β→Prop} {p:Str}:∀ {ks:List Str} {xs:List α} {ys:List β},Paired R xs ys→match (ks.zip xs).lookup p,(ks.zip ys).lookup p with
      | some x,some y=>R x y
      | none,none=>True
      | _,_=>False
  | [],_,_,_=>trivial
  | _ :: _,_,_,.nil=>trivial
  | k :: ks,_,_,.cons r t=>by
    rw [List.zip_cons_cons,List.zip_cons_cons,List.lookup_cons,List.lookup_cons]
    cases p == k with
    | true=>exact r
    | false=>exact zip_lookup t
theorem fill_paired {α β:Type} {R:α→β→Prop} {ks ns:List Str} {zs ds:List α} {ws es:List β} (rz:Paired R zs ws) (rd:Paired R ds es):∀ {ps:List Str} {as:List α} {bs:List β},Paired R as bs→Paired R (fillG ps as ks zs ns ds) (fillG ps bs ks ws ns es)
  | [],_,_,_=>.nil
  | _ :: ps,_,_,.cons r t=>.cons r (fill_paired rz rd t)
  | p :: ps,_,_,.nil=>by
    have l1:=zip_lookup (p:=p) (ks:=ks) rz
    have l2:=zip_lookup (p:=p) (ks:=ns) rd
    unfold fillG
    cases e1:(ks.zip zs).lookup p <;> cases e2:(ks.zip ws).lookup p <;> rw [e1,e2] at l1
    · cases e3:(ns.zip ds).lookup p <;> cases e4:(ns.zip es).lookup p <;> rw [e3,e4] at l2
      · exact fill_paired rz rd .nil
      · exact l2.elim
      · exact l2.elim
      · exact .cons l2 (fill_paired rz rd .nil)
    · exact l1.elim
    · exact l1.elim
    · exact .cons l1 (fill_paired rz rd .nil)
theorem RVs.paired {K:Ki} {g:G}:∀ {xs:List MV} {vs:List V},RVs K g xs vs→Paired (RV K g) xs vs
  | [],_,h=>by cases (show _=[] from h);exact .nil
  | _ :: _,_,⟨_,_,e,h,t⟩=>by subst e;exact .cons h t.paired
theorem RVs.of_paired {K:Ki} {g:G} {xs:List MV} {vs:List V} (h:Paired (RV K g) xs vs):RVs K g xs vs:=by
  induction h with
  | nil=>exact rfl
  | cons r t ih=>exact ⟨_,_,rfl,r,ih⟩
theorem RVs.fill {K:Ki} {g:G} {as zs ds:List MV} {vs us es:List V} (r1:RVs K g as vs) (r2:RVs K g zs us) (r3:RVs K g ds es) (ps ks ns:List Str):RVs K g (fillG ps as ks zs ns ds) (fillG ps vs ks us ns es):=RVs.of_paired (fill_paired r2.paired r3.paired r1.paired)
def KwOk (K:Ki) (fd:FuncData) (F:Fn) (n:Nat) (ks ns:List Str) (ds:List MV):Prop:=∃ (dV:List V) (mv:List Value),(∀ g,RVs K g ds dV)∧KBn K.K fd F.ps n ks (fun us ws=>fillG F.ps us ks ws ns mv) (fun vs zs=>fillG F.ps vs ks zs ns dV)
structure FnAtU (P:Program) (w:World) (K:PySem.W.Frag) (mg:Str→Option Value) (base:Heap) (k:Nat) (f:Addr) (fd:FuncData) (F:Fn):Prop where
  ok:FnOk P w K mg base (L2N.CX P w) k f fd F.ps (spM ⟨K,P,w⟩ F.ps.length F.M)
  kp:PySem.W.keepIn K (.ref f)=true
  pos:0 < k
section
variable {P:Program} {w:World} {K:PySem.W.Frag} {mg:Str→Option Value} {base:Heap} {k:Nat} {f:Addr} {fd:FuncData} {qual:Str} {params:Arguments} {body:List Stmt} {scope:Scope} {dvs:List V} {kwd:List (Str × V)} {N:List Str} {blts:List Str} {cst:List (Str × MV)} {x:Str}
theorem FnAtU.mono {j:Nat} {F:Fn} (c:FnAtU P w K mg base j f fd F) (h:j≤k):FnAtU P w K mg base k f fd F:=⟨c.ok.mono h,c.kp,Nat.lt_of_lt_of_le c.pos h⟩
theorem FnAt.u {F:Fn} (c:FnAt P w K mg base k f fd F):FnAtU P w K mg base k f fd F:=⟨c.ok,c.kp,c.pos⟩
theorem FnAtU.of {lam:Bool} (F:Fn) (FD:FunD K x qual params body scope dvs kwd f fd) (S:FnScope N F.ps scope) (mo:ModOk ⟨K,P,w⟩ mg blts cst) {B:MSs} (nd:All (fun n:Need=>n P w K mg base k) B.needs) (hB:mSs B ⟨N,scope,blts,cst,true,true,lam⟩ body=true)
    (hM:∀ as m,as.length=F.ps.length→F.M as m≠.stuck→runD N.length B as m=F.M as m) (hL:lam=true→LamH K base mg fd.qualname fd.code:=by intro z;cases z):FnAtU P w K mg base (k + 1) f fd F:=by
  have len:∀ vs H Q E,spM ⟨K,P,w⟩ F.ps.length F.M vs H Q E→vs.length=F.ps.length:=fun vs H Q E h=>by
    obtain ⟨g,m,as,_,r,hl,_⟩:=h
    rw [← r.length,hl]
  obtain ⟨oc,od,dV,kV,doc,pm,an,cdv,ct,osl,rfl,lk,hcd,_,_⟩:=FD.ex
  exact ⟨fn_of lk hcd S len fun A outer s H vs Q E hr h=>body_ok S mo nd hB hM hr (W:=fun cls d _ H'=>E cls d H') (L2N.takes_of rfl rfl rfl rfl) (fun _ _ _ _ q=>q) hL h,FD.kp,Nat.succ_pos k⟩
theorem KwOk.plain {F:Fn} (FD:FunD K x qual params body scope [] kwd f fd) (n:Nat) (ks:List Str)
    (h:∀ (kV doc pm:Value) (an:Option Addr) (cdv ct:Value) (us ws:List Value),us.length=n→ws.length=ks.length→bindArgs (PySem.W.fnOf x qual params body scope .none kV doc pm an cdv ct) ⟨us,ks.zip ws⟩=pure (F.ps.zip (fillG F.ps us ks ws [] []))):KwOk ⟨K,P,w⟩ fd F n ks [] []:=by
  obtain ⟨oc,od,dV,kV,doc,pm,an,cdv,ct,osl,rfl,lk,hcd,hD,hK⟩:=FD.ex
  rcases hD with ⟨_,rfl⟩ | ⟨e,_⟩
  · exact ⟨[],[],fun _=>rfl,fun s us ws X l1 l2=>.of_eq (h kV doc pm an cdv ct us ws l1 l2),fun r1 r2=>fill_paired r2 .nil r1⟩
  · exact absurd rfl e
theorem KwOk.ints {F:Fn} (FD:FunD K x qual params body scope [] kwd f fd) (n:Nat) (ks ns:List Str) (is:List Int) (hk:kwd≠[]) (hms:∀ q∈ns.zip (is.map V.int),q∈kwd) (hl:ns.length=is.length)
    (h:∀ (D:Addr) (doc pm:Value) (an:Option Addr) (cdv ct:Value) (us mv ws:List Value),us.length=n→mv.length=ns.length→ws.length=ks.length →
      KwChain D (ns.zip mv) (bindArgs (PySem.W.fnOf x qual params body scope .none (.ref D) doc pm an cdv ct) ⟨us,ks.zip ws⟩) (F.ps.zip (fillG F.ps us ks ws ns mv))):KwOk ⟨K,P,w⟩ fd F n ks ns (is.map .int):=by
  have e1:(ns.zip (is.map V.int)).map (·.1)=ns:=List.map_fst_zip (by simp [hl])
  have e2:(ns.zip (is.map V.int)).map (·.2)=is.map V.int:=List.map_snd_zip (by simp [hl])
  obtain ⟨mv,kb⟩:=FD.kbinds0 n ks (ns.zip (is.map V.int)) (ps:=F.ps) (fun us mv ws=>fillG F.ps us ks ws ns mv) hk hms (fun r1 r2 r3=>fill_paired r3 r2 r1) fun D doc pm an cdv ct us mv ws l1 l2 l3=>by
    rw [e1]
    exact h D doc pm an cdv ct us mv ws l1 (by rw [l2];simp [hl]) l3
  rw [e2] at kb
  exact ⟨is.map V.int,mv,fun g=>RVs.map (f:=MV.int) (h:=V.int) (fun x=>rfl) is,kb⟩
end
theorem rbind_bind {α β γ:Type} (r:R α) (f:α→Mem→R β) (h:β→Mem→R γ):(r.bind f).bind h=r.bind fun a m=>(f a m).bind h:=by cases r <;> rfl
theorem Parts.split {X:Cx} {W:WX}:∀ {es1 es2:List Expr} {fs:Sl→Mem→R (List OV)},Parts X W (es1++es2) fs→∃ f1 f2,Parts X W es1 f1∧Parts X W es2 f2∧fs=fun s m=>(f1 s m).bind fun xs m=>(f2 s m).bind fun ys m=>.ok (xs++ys) m
  | [],es2,fs,p=>⟨_,fs,.nil,p,by
    funext s m
    show fs s m=(fs s m).bind _
    cases fs s m <;> rfl⟩
  | e :: es1,es2,_,p=>by
    cases p with
    | @cons _ _ fe _ h t =>
      obtain ⟨f1,f2,p1,p2,rfl⟩:=Parts.split t
      refine ⟨_,f2,.cons h p1,p2,?_⟩
      funext s m
      unfold seqE
      simp only [rbind_bind]
      rfl
theorem tA_two {K:Ki} {W:WX} {σ:St} {H:Hp} {f1 f2:Sl→Mem→R (List OV)} {Q:List V→Hp→Prop} (h:tA K W (fun s m=>(f1 s m).bind fun xs m=>(f2 s m).bind fun ys m=>.ok (xs++ys) m) σ H Q):tA K W f1 σ H fun vs H1=>tA K W f2 σ H1 fun zs H2=>Q (vs++zs) H2:=by
  obtain ⟨g,s,m,rs,rl,p⟩:=h
  refine ⟨g,s,m,rs,rl,(Post.bind p).imp fun vs H1 ⟨xs,g1,m1,rs1,st1,r1,p1⟩=>⟨g1,s,m1,rs1,rl.st st1,(Post.bind p1).imp fun zs H2 ⟨ys,g2,m2,rs2,st2,r2,p2⟩=>?_⟩⟩
  refine p2 g2 _ H2 rs2 (Stp.refl _ _) (paired_app (Paired.mapP r1 fun _ _ h=>RO.st h st2) r2)
theorem tA_len {X:Cx} {W:WX} {es:List Expr} {fs:Sl→Mem→R (List OV)} {σ:St} {H:Hp} {Q:List V→Hp→Prop} (p:Parts X W es fs) (h:tA X.ki W fs σ H Q):tA X.ki W fs σ H fun vs H1=>vs.length=es.length∧Q vs H1:=by
  obtain ⟨g,s,m,rs,rl,q⟩:=h
  refine ⟨g,s,m,rs,rl,?_⟩
  cases e:fs s m with
  | stuck=>rw [e] at q;exact q
  | exc c ks xs m'=>rw [e] at q;exact q
  | ok xs m1 =>
    rw [e] at q
    exact fun g1 vs H1 a b c=>⟨by rw [← Paired.length c,p.len _ _ _ _ e],q g1 vs H1 a b c⟩
theorem meth_htB {o:Expr} {es:List Expr} {kws:List Keyword} {m:Str} {apos pos:Pos} {env:Env} (hb:noSup o=true) (hl:(apos.endLine == pos.line)=true) (hs:es.all plainE=true) (hk:(backToKw pos (keywordEach kws env)).all (·.1.isSome)=true) (hn:es.length + kws.length < 29) :
    eval (.Call (.Attribute o m apos) es kws pos) env=(do
      let ov ← eval o env
      standAt apos.atName
      let (f,first) ← holding [ov] (getMethod ov m (do return (← importBound o env).getD true))
      callWith pos f first (backTo pos (starEach es env)) (backToKw pos (keywordEach kws env))):=by
  have e0:eval (.Call (.Attribute o m apos) es kws pos) env=(do
      let ov ← attributeBase o m env (eval o env)
      standAt apos.atName
      methodCall o m apos pos env ov (es.length + kws.length) (backTo pos (starEach es env)) (backToKw pos (keywordEach kws env))):=rfl
  rw [e0,attrS hb]
  have ha:(backTo pos (starEach es env)).all (fun p=>!p.1)=true:=by
    have:=noStar (env:=env) (pos:=pos) hs
    rw [List.all_eq_true]
    intro x hx
    rw [List.any_eq_false] at this
    have:=this x hx
    simpa using this
  have hf:methodCallForm (es.length + kws.length) (backTo pos (starEach es env)) (backToKw pos (keywordEach kws env))=true:=by
    unfold methodCallForm
    rw [hk,ha]
    show (true&&true&&decide (es.length + kws.length + _ < 30))=true
    rw [Bool.and_self,Bool.true_and,decide_eq_true_eq]
    split <;> omega
  congr 1
  funext ov
  congr 1
  funext _
  unfold methodCall
  rw [hf]
  unfold calleeOf methodCallPos
  rw [hl]
  rfl
def plK (n:Nat) (ks:List Str) (es:List Expr) (kws:List Keyword):Option (List Expr):=if (decide (es.length=n)&&(es.all plainE&&decide (es.length + kws.length < 29)))=true then (kwB ks kws).map fun zs=>es++zs else none
section
variable {k:Nat} {W:WX} {cf:Cfg} {X:Cx} {es:List Expr} {fs:Sl→Mem→R (List OV)}
end
end Rc

namespace Rc
open PySem PySem.Spec L2
open PyProof.Rows hiding St
section
variable {prog:Program} {w:World} {A:Around} {E:Value→Shared→Prop} {s:Shared}
end
section
variable {X:Cx} {k:Nat} {W:WX} {c:Cfg}
end
end Rc

namespace Rc
open PySem PySem.Spec L2
open PyProof.Rows hiding St
section
variable {k:Nat} {W:WX} {cf:Cfg} {X:Cx} {F:Fn} {es:List Expr} {fs:Sl→Mem→R (List OV)} {c m:Str} {px ap pos:Pos}
end
end Rc
namespace Rc
open PySem PySem.Spec L2
open PyProof.Rows hiding St
end Rc

set_option maxHeartbeats 1000000
noncomputable section
namespace RcCut
open PySem PySem.W HandSHeadRun
def putsT:PySem.W.BT→List (Nat × Obj)→PySem.W.BT
  | t,[]=>t
  | t,(a,o) :: r=>putsT (t.ins a o) r
abbrev hK (P:Params) (x:PySem.Str):Int:=PyData.keyHash P x
section
variable (st:SharedT→Thread→Option (SharedT × Thread)) (n0:Nat) (ann:Option Value)
def stepsF:Nat→SharedT→Thread→Option (SharedT × Thread)
  | 0,s,t=>some (s,t)
  | m + 1,s,t=>match through t with
    | true=>none
    | false=>match stepOk n0 ann t with
      | false=>none
      | true=>match st s t with
        | some (s',t')=>frS s' fun s'=>stepsF m s' t'
        | none=>none
def segF (b:Nat):Nat→SharedT→Thread→Option (Flow × SharedT × Code × Pos)
  | 0,_,_=>none
  | m + 1,s,t=>match endAt b t with
    | some f=>some (f,s,t.code,t.pos)
    | none=>match stepOk n0 ann t with
      | false=>none
      | true=>match st s t with
        | some (s',t')=>frS s' fun s'=>segF b m s' t'
        | none=>none
end
section
variable {tb:String→Option Builtin} {p:Program} {w:World} {n0:Nat} {ann:Option Value} {b:Nat}
theorem stepsF_ok:∀ {m:Nat} {s s':SharedT} {t t':Thread},stepsF (stepT (denote tb) p w) n0 ann m s t=some (s',t')→topGo tb p w n0 ann m s.abs t=some (s'.abs,t')
  | 0,_,_,_,_,h=>by cases h;rfl
  | m + 1,s,s',t,t',h=>by
    unfold stepsF at h
    unfold topGo
    cases e1:through t with
    | true=>rw [e1] at h;cases h
    | false =>
      rw [e1] at h
      cases e2:stepOk n0 ann t with
      | false=>rw [e2] at h;cases h
      | true =>
        rw [e2] at h
        cases e3:stepT (denote tb) p w s t with
        | none=>rw [e3] at h;cases h
        | some r =>
          obtain ⟨s2,t2⟩:=r
          rw [e3] at h
          have h:(frS s2 fun s'=>stepsF (stepT (denote tb) p w) n0 ann m s' t2)=some (s',t'):=h
          rw [frS_eq] at h
          show (match step (denote tb) p w s.abs t with
            | .go s' t'=>topGo tb p w n0 ann m s' t'
            | .halt _ _=>none)=_
          rw [stepT_spec e3]
          exact stepsF_ok h
theorem segF_ok:∀ {m:Nat} {s s':SharedT} {t:Thread} {f:Flow} {c:Code} {q:Pos},segF (stepT (denote tb) p w) n0 ann b m s t=some (f,s',c,q)→segRun tb p w n0 ann b m s.abs t=some (f,s'.abs,c,q)
  | 0,_,_,_,_,_,_,h=>by cases h
  | m + 1,s,s',t,f,c,q,h=>by
    unfold segF at h
    unfold segRun
    cases e1:endAt b t with
    | some x=>rw [e1] at h;cases h;rfl
    | none =>
      rw [e1] at h
      cases e2:stepOk n0 ann t with
      | false=>rw [e2] at h;cases h
      | true =>
        rw [e2] at h
        cases e3:stepT (denote tb) p w s t with
        | none=>rw [e3] at h;cases h
        | some r =>
          obtain ⟨s2,t2⟩:=r
          rw [e3] at h
          have h:(frS s2 fun s'=>segF (stepT (denote tb) p w) n0 ann b m s' t2)=some (f,s',c,q):=h
          rw [frS_eq] at h
          show (match step (denote tb) p w s.abs t with
            | .go s' t'=>segRun tb p w n0 ann b m s' t'
            | .halt _ _=>none)=_
          rw [stepT_spec e3]
          exact segF_ok h
end
def exQ:List Stmt→Env→Sem Flow:=PySem.W.Fast.tw12563942051412417395
theorem exQ_eq:@PySem.execs=exQ:=PySem.W.Fast.te12563942051412417395
def pcQ (l:List Stmt) (env:Env) (c:Code) (p:Pos) (B:List Frame):Thread:=⟨(exQ l env).wrap doneF deadEnd id id,c,p,B⟩
theorem pcQ_eq:pcQ=piecesOf:=by
  unfold pcQ
  rw [← exQ_eq]
abbrev stQ (p:Program) (w:World):SharedT→Thread→Option (SharedT × Thread):=stepQ (denQ tabQ) p w
theorem stQ_eq (p:Program) (w:World):stQ p w=stepT (denote treeTable) p w:=by
  unfold stQ
  rw [← stepQ_eq,← denQ_eq,← tabQ_eq]
section
variable {p:Program} {w:World} {n0:Nat} {ann:Option Value} {env:Env} {q:Pos} {n N:Nat} {s s':SharedT} {r:Shared} {c:Code} {pos p':Pos}
theorem pre_part {t t':Thread} (h:stepsF (stQ p w) n0 ann n s t=some (s',t')) (k:topRun treeTable p w n0 ann N s'.abs t'=some r):topRun treeTable p w n0 ann (n + N) s.abs t=some r:=by
  rw [stQ_eq] at h
  exact go_top (stepsF_ok h) k
theorem block_part {b:List Stmt} (h:segF (stQ p w) n0 ann 1 n s (blockOf b env c pos [topFrame q])=some (.next,s',c,p')) (k:topRun treeTable p w n0 ann N s'.abs (restOf b env c p' [topFrame q])=some r) :
    topRun treeTable p w n0 ann (n + N) s.abs ⟨denQ tabQ (.body b env),c,pos,[topFrame q]⟩=some r:=by
  rw [stQ_eq] at h
  rw [← tabQ_eq,← denQ_eq]
  exact piece_block (segF_ok h) k
theorem list_part {l rest:List Stmt} (h:segF (stQ p w) n0 ann 1 n s (pcQ l env c pos [topFrame q])=some (.next,s',c,p')) (k:topRun treeTable p w n0 ann N s'.abs (restOf rest env c p' [topFrame q])=some r) :
    topRun treeTable p w n0 ann (n + N) s.abs (restOf (l++rest) env c pos [topFrame q])=some r:=by
  rw [stQ_eq,pcQ_eq] at h
  exact piece_app (segF_ok h) k
theorem end_part (h:goF (stQ p w) n0 ann N s ⟨doneF .next,c,pos,[topFrame q]⟩=some s'):topRun treeTable p w n0 ann N s.abs (restOf [] env c pos [topFrame q])=some s'.abs:=by
  rw [stQ_eq] at h
  exact piece_nil (goF_ok h)
end
def bootS (w:World) (os:OsState) (t:PySem.W.BT) (n:Nat):SharedT:=⟨t,n,(boot_heap w.params).life,#[],boot_drawn,boot_toks,os⟩
theorem bootS_abs {w:World} {os:OsState} {t:PySem.W.BT} {n:Nat} (h:putAll (boot_heap w.params).objs.toList .nil 0=some (t,n)):(bootS w os t n).abs=⟨boot_heap w.params,#[],boot_drawn,boot_toks,os⟩:=by
  show (⟨absHeap t n (boot_heap w.params).life,_,_,_,_⟩:Shared)=_
  rw [putAll_heap h]
  rfl
def endS (T:Params→PySem.W.BT) (n:Nat) (d:Drawn) (k:Nat) (w:World) (os:OsState):SharedT:=⟨T w.params,n,(boot_heap w.params).life,#[],d,k,os⟩
theorem left_cut {p q:Program} {loose:List PySem.Str} {Xt:Shared→Bool} {α:Type} {Yf:Shared→α} {Ya:World→α} {m0:Nat} {ann:Option Value} {M:Nat} {T:Params→PySem.W.BT} {n:Nat} {d:Drawn} {k:Nat} {ob:SharedT→α} (ho:∀ s:SharedT,ob s=Yf s.abs)
    (e:opening p=plainProg p.main.scope.names) (f:∀ s,fenceModules? p s=some s) (le:Nat.ble M 60000=true) (size:∀ w:World,((boot_heap w.params).isNs mainGlobals&&(#[]:Array GenState).size == 0,(boot_heap w.params).objs.size,(boot_heap w.params).nsMap mainGlobals "__annotations__")=(true,m0,ann))
    (run:∀ (w:World) (os:OsState),topRun treeTable p w m0 ann M ⟨boot_heap w.params,#[],boot_drawn,boot_toks,os⟩ (topStub p)=some (endS T n d k w os).abs)
    (l1:∀ (w:World) (os:OsState),looksF p (boot_heap w.params) (endS T n d k w os).abs=true) (l2:∀ (w:World) (os:OsState),seenQ q loose (importedModules p.main.body) Xt (endS T n d k w os).abs=openGood q loose)
    (l3:∀ (w:World) (os:OsState),ob (endS T n d k w os)=Ya w):LeftO p q loose Xt Yf Ya 60000 true :=
  LeftO.of_pieces (H₀:=boot_heap) (H₁:=fun P=>absHeap (T P) n (boot_heap P).life) (M:=M) (boot_open e (by decide) f) size run le fun w=>funext fun os=>by
    refine Prod.ext (l1 w os) (Prod.ext ?_ ?_)
    · show openSeen q loose (importedModules p.main.body) Xt true (endS T n d k w os).abs=_
      rw [seenQ_eq]
      exact l2 w os
    · show Yf (endS T n d k w os).abs=_
      rw [← ho]
      exact l3 w os
theorem head_cut {r:OpenRow} {q:Program} {H:Hook} {loose:List PySem.Str} {d:DefRec} {kwd:List (PySem.Str × PySem.Expr)} {N:Nat} (left:LeftO r.prog q loose (fun s=>xlAt q [] s&&recOk r.toRowW.records s) H.obs H.val N true)
    (g1:defOf q r.name=some (d,kwd)) (g2:r.prog.theDef r.name=some (d.params,d.body,d.scope)) (g3:kwWritten? d.params.kwonlyargs d.params.kw_defaults=some kwd)
    (g4:(!r.writes || r.records.isEmpty)=true) (g5:r.wellSaid=true) (g6:(chainsOk q&&opensWell r.prog&&(frees r.toRowW&&r.within.isEmpty))=true) (g7:r.prog.bare) (g8:r.toRowW.promised)
    (walk:WalkO q loose (XL q []) H.says r.toRowW d kwd fun f vs=>PySem.call f vs):r.Holds :=
  holds_open (XP:=XL q []) (YP:=H.says) left H.of H.keeps
    (fun s z=>xl_of s (Bool.and_eq_true_iff.mp z).1) XL.keeps g1 g2 g3
    (fun s z=>recFacts_of (Bool.and_eq_true_iff.mp z).2) g4 g5 g6 g7 g8 walk
end RcCut

namespace Rc
open PySem PySem.Spec L2
open PyProof.Rows hiding St
abbrev Kg (as:List Addr) (g:Addr→Option Obj):PySem.W.Frag:=He.frG g as
def obsFL (as:List Addr) (fa:List He.Fa) (xf:List Xf) (fn:List He.DefD) (ts:List He.Tab) (er:List OwnD) (g:Addr→Option Obj):AlX:=obsF fa xf fn ts er (Kg as g) g
def hookL (as:List Addr) (fa:List He.Fa) (xf:List Xf) (fn:List He.DefD) (ts:List He.Tab) (er:List OwnD):PySem.W.Hook where
  α:=AlX
  obs:=fun s=>obsFL as fa xf fn ts er s.heap.get?
  val:=fun w=>valX fn ts er w
  says:=fun w h=>∃ K:PySem.W.Frag,K.In h∧SaysF fa xf fn ts er w K h
  of:=fun _ _ e=>⟨_,He.frG_in,congrArg (fun z:AlX=>z.1) e,congrArg (fun z:AlX=>z.2.1) e,congrArg (fun z:AlX=>z.2.2.1) e,tabsB_ok He.frG_in (congrArg (fun z:AlX=>z.2.2.2) e)⟩
  keeps:=fun _ _ _ ⟨K,hK,c⟩ k=>⟨K,PySem.W.Frag.In.keeps hK k,c.f,c.t,c.e,c.b.keeps k⟩
theorem obsFL_eq {as:List Addr} {fa:List He.Fa} {xf:List Xf} {fn:List He.DefD} {ts:List He.Tab} {er:List OwnD} {g:Addr→Option Obj} {s:Shared} (h:∀ a,g a=s.heap.get? a):obsFL as fa xf fn ts er g=(hookL as fa xf fn ts er).obs s:=by
  have e:g=s.heap.get?:=funext h
  rw [e] <;> rfl
theorem obs_parts {n:List Addr} {fa:List He.Fa} {xf:List Xf} {fn:List He.DefD} {ts:List He.Tab} {er:List OwnD} {g:Addr→Option Obj} {w:World} (p1:((fa.all fun f=>f.ok (Kg n g))&&fn.all fun d=>d.ok (Kg n g))=true) (p3:(fn.map fun d=>He.fnW (Kg n g) d.at_)=fn.map He.DefD.val)
    (p4:(xf.all fun x=>x.ok (Kg n g))=true) (p5:((ts.map fun t=>He.dicW (Kg n g) (t.1 (Kg n g))),(er.map fun d=>ownV (Kg n g) (d.ad (Kg n g))),tabsB (Kg n g) g)=((ts.map fun t=>some (He.keysIn w.params t.2)),er.map OwnD.val,true)) :
    obsFL n fa xf fn ts er g=valX fn ts er w:=by
  show ((((fa.all fun f=>f.ok (Kg n g))&&fn.all fun d=>d.ok (Kg n g))&&xf.all fun x=>x.ok (Kg n g),fn.map fun d=>He.fnW (Kg n g) d.at_),((ts.map fun t=>He.dicW (Kg n g) (t.1 (Kg n g))),(er.map fun d=>ownV (Kg n g) (d.ad (Kg n g))),tabsB (Kg n g) g))=_
  rw [p1,p3,p4,p5]
  rfl
end Rc

namespace RcCut
open PySem PySem.W
abbrev hT (xs:Array Value):Obj:=⟨.type "tuple",none,.seq xs 0,#[]⟩
abbrev hN (xs:Array Value):Obj:=⟨.none,none,.fields xs,#[]⟩
abbrev hY (c:String) (xs:Array Value):Obj:=⟨.type c,none,.fields xs,#[]⟩
abbrev hD (xs:Array (DictEntry)) (n:Nat):Obj:=⟨.type "dict",none,.dict xs n,#[]⟩
abbrev hG (c:Value) (a b:Str) (s:Stmt) (g:Addr) (cl:List (Str × Addr)) (d k dc pm:Value) (an:Option Addr) (cd ct:Value) (bn:Addr):Obj:=⟨c,none,.func ⟨a,b,L2.defArgs s,.stmts (L2.defBody s),L2.defScope s,g,cl,d,k,dc,pm,an,cd,ct,bn⟩,#[]⟩
abbrev hS (a b:Str) (s:Stmt):Obj:=hG .none a b s 0 [] .none .none .none .none none .none .none 0
abbrev hF (a b:Str) (s:Stmt) (g:Addr) (z:Str) (t:Nat) (cd:Value) (n:Addr):Obj:=hG (.type "function") a b s g [] .none .none .none (.str z t) none cd .none n
abbrev hC (n:Str) (tn:Nat) (q:Str) (tq t:Nat) (i j k l m:Int) (a:Value) (b:Bool) (x:Int) (c d e f g:Value) (y z:Int) (u:Nat):Obj :=
  ⟨.type "code",none,.fields #[.str n tn,.str q tq,.str "/claim/cut.py" t,.int i 0,.int j 0,.int k 0,.int l 0,.int m 0,a,.bool b,.int x 0,c,d,e,f,g,.int y 0,.int z 0,.str "/claim/cut.py" u],#[]⟩
end RcCut

namespace RcCut
open PySem PySem.W
def putL:PySem.W.BT→List (List (Nat × Obj))→PySem.W.BT
  | t,[]=>t
  | t,l :: r=>putL (putsT t l) r
def nmv:Nat→List Str→List Value
  | _,[]=>[]
  | t,x :: r=>.str x t :: nmv (t + 1) r
abbrev hX (t:Nat) (xs:List Str):Obj:=hT ⟨nmv t xs⟩
def tri (c:Int):List (Int × Nat)→List Value
  | []=>[]
  | (i,a) :: r=>.int i 0 :: .int c 0 :: .ref a :: tri c r
abbrev h3 (c:Int) (l:List (Int × Nat)):Obj:=hN ⟨tri c l⟩
abbrev eV (P:Params) (x:Str) (n:Nat) (v:Value):DictEntry:=⟨hK P x,.str x n,v⟩
def eR (P:Params):List (Str × Nat × Nat)→List DictEntry
  | []=>[]
  | (x,n,a) :: r=>eV P x n (.ref a) :: eR P r
abbrev hE (l:List DictEntry) (n:Nat):Obj:=⟨.type "dict",none,.dict ⟨l⟩ n,#[]⟩
def f5 (a:Nat) (n q:Str) (s:Stmt) (t:Nat) (i j m:Int) (z:Str) (zt:Nat) (B:Obj):List (Nat × Obj) :=
  [(a,hT #[]),(a + 1,B),(a + 2,hS n q s),(a + 3,hC n t q (t + 1) (t + 2) i j 0 0 m (.ref a) true 181 (.ref (a + 1)) .none .none .none (.ref (a + 2)) (t + 3:Nat) i (t + 4)),(a + 4,hF n q s 3 z zt (.ref (a + 3)) 0)]
def f7 (a:Nat) (n q:Str) (s:Stmt) (t:Nat) (i j m:Int) (z:Str) (zt:Nat) (B:Obj) (A cs:List Str):List (Nat × Obj) :=
  [(a,hX (t + 3) A),(a + 1,B),(a + 2,hX (t + 3 + A.length) cs),(a + 3,hT #[]),(a + 4,hS n q s),(a + 5,hC n t q (t + 1) (t + 2) i j 0 0 m (.ref a) true 181 (.ref (a + 1)) .none (.ref (a + 2)) (.ref (a + 3)) (.ref (a + 4)) (t + 3 + A.length + cs.length:Nat) i (t + 4 + A.length + cs.length)),(a + 6,hF n q s 3 z zt (.ref (a + 5)) 0)]
abbrev hM (c d:Nat) (z:Str) (t:Nat):Obj:=⟨.type "frame",none,.plain,#[some (.ref c),some (.ref 3),some (.ref d),none,some (.str z t),none,some (.ref 0)]⟩
def eO (P:Params) (a b p:Nat) (N f x y:Str) (s:Stmt) (i i2:Int) (z:Str) (zt:Nat):List (Nat × Obj) :=
  [(a,hT #[.ref p]),(a + 1,hY "builtin_function_or_method" #[.builtin "type.__prepare__",.type "type"]),
  (a + 2,hE [eV P "__module__" (b + 7) (.str z zt),eV P "__qualname__" (b + 9) (.str N (b + 8)),eV P "__firstlineno__" (b + 11) (.int i (b + 10)),eV P "__init__" (b + 20) (.ref (a + 15)),eV P "__static_attributes__" (b + 23) (.ref (a + 16)),eV P "__classcell__" (b + 24) (.ref (a + 3))] 6),
  (a + 3,⟨.type "cell",none,.cell (some (.ref (a + 18))),#[]⟩),(a + 4,hT #[]),(a + 5,h3 4 [(i2,a + 14)]),(a + 6,hC N (b + 2) N (b + 3) (b + 4) i 0 0 0 0 (.ref (a + 4)) false 181 (.ref (a + 5)) .none .none .none .none (b + 5:Nat) i (b + 6)),
  (a + 7,hM (a + 6) (a + 2) z zt),(a + 8,hT #[.ref (a + 3)]),(a + 9,hX (b + 15) ["__class__"]),(a + 10,hN #[]),(a + 11,hX (b + 16) ["self",f]),(a + 12,hT #[]),(a + 13,hS "__init__" (N++".__init__") s),
  (a + 14,hC "__init__" (b + 12) (N++".__init__") (b + 13) (b + 14) i2 2 0 0 3 (.ref (a + 9)) true 181 (.ref (a + 10)) .none (.ref (a + 11)) (.ref (a + 12)) (.ref (a + 13)) (b + 18:Nat) i2 (b + 19)),
  (a + 15,hG (.type "function") "__init__" (N++".__init__") s 3 [("__class__",a + 3)] .none .none .none (.str z zt) none (.ref (a + 14)) (.ref (a + 8)) 0),(a + 16,hX (b + 21) [x,y]),
  (a + 17,hE [eV P "__module__" (b + 7) (.str z zt),eV P "__firstlineno__" (b + 11) (.int i (b + 10)),eV P "__init__" (b + 20) (.ref (a + 15)),eV P "__static_attributes__" (b + 23) (.ref (a + 16)),eV P "__doc__" (b + 25) .none] 3),
  (a + 18,⟨.type "type",none,.cls ⟨N,[.ref p],[.ref (a + 18),.ref p,.type "ValueError",.type "Exception",.type "BaseException",.type "object"],a + 17,N,true,[],[],false,none,false⟩,#[some (.ref a),none,some (.str N b),some (.str N (b + 8)),some (.builtin "ValueError.__new__"),some (.bool true)]⟩),
  (a + 19,hY "super" #[.ref (a + 18),.ref (a + 18),.ref (a + 18)]),(a + 20,hY "builtin_function_or_method" #[.builtin "object.__init_subclass__",.ref (a + 18)])]
section
open PySem PySem.Spec L2
open PyProof.Rows hiding St
abbrev dT (x:Str) (s:Stmt):He.DefD:=⟨(x,none),x,x,defArgs s,defBody s,defScope s,[],[]⟩
abbrev dM (c x q:Str) (s:Stmt):He.DefD:=⟨(c,some x),x,q,defArgs s,defBody s,defScope s,[],[]⟩
end
end RcCut

set_option maxHeartbeats 2000000
namespace Rc
open PySem PySem.Spec L2
open PyProof.Rows hiding St
def mkCF (c:Str) (F:Fn):OV→Mem→Option (List OV→Mem→R OV):=fun x _=>match x with
  | .v (.cls d)=>if d=c then some (mkF c F.M) else none
  | _=>none
section
variable {k:Nat} {W:WX} {c:Cfg} {X:Cx} {es:List Expr} {fs:Sl→Mem→R (List OV)} {fo:Sl→Mem→R OV}
theorem pe_mkC {cn:Str} {F:Fn} {x:Str} {p pos:Pos} (ok:CtxOk k W c X) (nd:(nMk cn F).at X k) (ho:PE X (.Name x p) (tE X.ki W fo)) (hp:es.all plainE=true) (hl:F.ps.length=es.length + 1) (q:Parts X W es fs) :
    PE X (.Call (.Name x p) es [] pos) (tE X.ki W fun s m=>(fo s m).bind fun y m=>match mkCF cn F y m with
      | some f=>(fs s m).bind f
      | none=>.stuck):=by
  obtain ⟨j,f,fd,hj,hm,M,fa⟩:=nd
  have hr:Room (j + 1) X.A:=(ok.room (Nat.lt_of_lt_of_le (Nat.succ_pos j) hj)).mono hj
  refine ⟨fun pins s σ H Q I h=>?_⟩
  have mk:∀ {H1:Hp} {s1:Shared} {us:List Value} {vs:List V},Inv X pins σ H1 s1→Vals vs us→(∀ y dx,H1 y=none→H1 dx=none→dx≠y→spM X.ki F.ps.length F.M (.ref y :: vs) (upd (upd H1 dx (.own y)) y (.ins (X.ki.ga cn) dx [])) (fun v H2=>v=.non∧Q (.ref y) H2) (WE W σ)) →
      wpAny (model X.prog X.w) X.A (call (.ref (X.ki.ga cn)) us) (EP X pins σ Q) X.xe s1:=by
    intro H1 s1 us vs I1 r hh
    have hq:=hh (s1.heap.objs.size + 1) s1.heap.objs.size (I1.hok.fresh (Nat.le_succ _)) (I1.hok.fresh (Nat.le_refl _)) (Nat.ne_of_lt (Nat.lt_succ_self _))
    have I2:=Inv.made (C:=X.ki.ga cn) I1
    have r2:Vals (V.ref (s1.heap.objs.size + 1) :: vs) (Value.ref (s1.heap.objs.size + 1) :: us):=.cons rfl r
    have hl2:(Value.ref (s1.heap.objs.size + 1) :: us).length=F.ps.length:=by
      have e:=r2.length
      rw [fa.ok.len _ _ _ _ hq] at e
      exact e.symm
    have bt:=fa.bi { s1 with heap:=(s1.heap.push PySem.W.emptyDict).push (PySem.W.instObj (X.ki.ga cn) s1.heap.objs.size) } (Value.ref (s1.heap.objs.size + 1) :: us) I2.kIn (by rw [List.append_nil];exact hl2)
    rw [List.append_nil] at bt
    refine wpAny_call (make_map (f:=f) I1.kIn M.makes M.init (beq_iff_eq.mp M.fn) (codeAny_mono (fa.ok.run _ X.stack _ _ ⟨Value.ref (s1.heap.objs.size + 1) :: us,[]⟩ (Value.ref (s1.heap.objs.size + 1) :: us) _ _ (WE W σ) (hr.make (X.ki.ga cn) us [])
      (I2.env0.make (X.ki.ga cn) us []) bt r2 hq) fun r s' hq'=>?_))
    cases r with
    | error e=>exact L2N.passAt ok.tk σ pins _ _ e s' I2 hq'
    | ok fl =>
      cases fl with
      | ret u =>
        obtain ⟨v,H',I3,rv,ev,q3⟩:=I2.after hq'
        subst ev
        exact ⟨rv,⟨V.ref (s1.heap.objs.size + 1),H',I3,rfl,q3⟩⟩
      | next=>exact False.elim hq'
      | brk=>exact False.elim hq'
      | cont=>exact False.elim hq'
  obtain ⟨g,sl,mem,rs,rl,pp⟩:=h
  refine wpAny_Call_Name_kw (thn (ho.run pins s σ H _ I ⟨g,sl,mem,rs,rl,Post.bind pp⟩) fun u s0 ⟨v,H0,I0,rx,y0,g0,m0,rs0,st0,r0,q1⟩=>?_)
  have eF:y0=.v (.cls cn)∧PostO X.ki (WE W σ) g0 H0 ((fs sl m0).bind (mkF cn F.M)) Q:=by
    have q1:PostO X.ki (WE W σ) g0 H0 (match mkCF cn F y0 m0 with
      | some f=>(fs sl m0).bind f
      | none=>.stuck) Q:=q1
    unfold mkCF at q1
    cases y0 with
    | b o=>exact q1.elim
    | v y =>
      cases y with
      | cls d =>
        by_cases hd:d=cn
        · subst hd
          simp only [if_true] at q1
          exact ⟨rfl,q1⟩
        · simp only [if_neg hd] at q1
          exact q1.elim
      | _=>exact q1.elim
  clear q1
  obtain ⟨rfl,q1⟩:=eF
  obtain rfl:v=V.ref (X.ki.ga cn):=r0
  obtain rfl:u=Value.ref (X.ki.ga cn):=rx
  have tA1:tA X.ki W fs σ H0 fun vs H1=>∀ y dx,H1 y=none→H1 dx=none→dx≠y→spM X.ki F.ps.length F.M (.ref y :: vs) (upd (upd H1 dx (.own y)) y (.ins (X.ki.ga cn) dx [])) (fun v H2=>v=.non∧Q (.ref y) H2) (WE W σ):=by
    refine ⟨g0,sl,m0,rs0,rl.st st0,?_⟩
    cases e:fs sl m0 with
    | stuck=>rw [e] at q1;exact q1
    | exc c ks xs m'=>rw [e] at q1;exact q1
    | ok zs m1 =>
      rw [e] at q1
      intro g1 vs H1 rs1 st1 r1 y dx hy hdx hne
      have p1:=Post.shift st1 (show PostO X.ki (WE W σ) g0 H0 (mkF cn F.M zs m1) Q from q1)
      unfold mkF at p1
      split at p1
      · rename_i ys ev
        have r3:=vals_ok r1 ev
        have hz:=q.len _ _ _ _ e
        exact ⟨_,m1++[some (.ins cn [] [])],.ref m1.length :: ys,mk_start rs1 hy hdx hne rfl,⟨_,_,rfl,⟨y,rfl,by simp⟩,r3.st (Stp.base (o:=.ins (X.ki.ga cn) dx []) rs1 hy hdx)⟩,by rw [List.length_cons,hl,r3.length,← Paired.length r1,hz],mkR_ok rs1 hy hdx hne p1⟩
      · exact p1.elim
  cases es with
  | nil =>
    have e:=q.p0
    rw [e] at tA1
    obtain ⟨g3,s3,m3,rs3,rl3,p3⟩:=tA1
    have hsp:=p3 g3 [] H0 rs3 (Stp.refl _ _) .nil
    exact PySem.W.callWith_K0 I0.kIn M.kp (mk (us:=[]) I0 .nil hsp)
  | cons a as =>
    rw [List.all_cons,Bool.and_eq_true] at hp
    refine PySem.W.callWith_K (h₀:=X.base) I.ok.mod.kin M.kp (thn ((q.pa (by rw [List.all_cons,Bool.and_eq_true];exact hp)).run pos pins s0 σ H0 _ I0 tA1) fun us s1 ⟨vs,H1,I1,r,q⟩=>⟨I1.kIn,?_⟩) (starP hp.1) (noStar hp.2)
    exact mk I1 r q
end
def pMkC (c:Str) (F:Fn):PrimM where
  need:=[nMk c F]
  parts:=fun _ e=>match e with
    | .Call (.Name x p) es [] _=>if (es.all plainE&&decide (F.ps.length=es.length + 1))=true then some (.Name x p,es) else none
    | _=>none
  F:=mkCF c F
  ok:=fun ok nd h ho p=>by
    split at h <;> try contradiction
    split at h <;> cases h
    rename_i hb
    rw [Bool.and_eq_true,decide_eq_true_eq] at hb
    exact pe_mkC ok (nd _ (List.mem_singleton.mpr rfl)) ho hb.1 hb.2 p
def KwChS {α:Type} (D:Addr):List (Str × Value)→Sem α→Sem α→Prop
  | [],t,r=>t=r
  | q :: l,t,r=>∃ (β γ:Type) (k1:Option Value→Sem β) (k2:β→Sem γ) (k3:γ→Sem α) (a:β),t=((nsGet D q.1 >>= k1) >>= k2) >>= k3∧k1 (some q.2)=pure a∧KwChS D l (k2 a >>= k3) r
theorem KwChS.wp {α:Type} {K:PySem.W.Frag} {M:Model} {A:Around} {Q:α→Shared→Prop} {E:Value→Shared→Prop} {s:Shared} {D:Addr} (X:K.In s.heap):∀ {l:List (Str × Value)} {t r:Sem α},(∀ q∈l,PySem.W.nsIn K D q.1=some (some q.2))→KwChS D l t r→wpAny M A r Q E s→wpAny M A t Q E s
  | [],t,r,_,e,h=>by rw [show t=r from e];exact h
  | q :: l,t,r,hl,e,h=>by
    obtain ⟨β,γ,k1,k2,k3,a,e1,e2,e3⟩:=e
    have l1:PySem.W.Looks M s.heap (nsGet D q.1 >>= k1) a:=(PySem.W.looks_nsIn X (hl q (List.mem_cons_self ..))).andThen (PySem.W.Looks.of_pure e2)
    rw [e1,LawfulMonad.bind_assoc]
    exact wpAny_bind (l1.here (KwChS.wp X (fun p hp=>hl p (List.mem_cons_of_mem _ hp)) e3 h))
structure FnAtO (P:Program) (w:World) (K:PySem.W.Frag) (mg:Str→Option Value) (base:Heap) (k:Nat) (f:Addr) (F:Fn) (n:Nat) (ks ns:List Str) (ds:List MV):Prop where
  run:∃ dV:List V,(∀ g,RVs ⟨K,P,w⟩ g ds dV)∧∀ (A:Around) (outer:List Env) (s:Shared) (H:Hp) (a0:Value) (v0:V) (us ws:List Value) (vs zs:List V) (Q:VK) (E:XK),Room k A→Env0 P w K mg base A outer s H→RelV v0 a0→Vals vs us→Vals zs ws→vs.length=n→zs.length=ks.length →
    (∀ p,H p=none→spM ⟨K,P,w⟩ F.ps.length F.M (fillG F.ps.dropLast [v0] ks zs ns dV++[V.ref p]) (upd H p (.tup vs)) Q E)→codeAny (model P w) A (.call (.ref f) ⟨a0 :: us,ks.zip ws⟩) (CR (L2N.CX P w) outer P w H s Q E) s
  pos:0 < k
section
variable {P:Program} {w:World} {K:PySem.W.Frag} {mg:Str→Option Value} {base:Heap} {k:Nat} {f:Addr} {fd:FuncData} {qual:Str} {params:Arguments} {body:List Stmt} {scope:Scope} {kwd:List (Str × V)} {N:List Str} {blts:List Str} {cst:List (Str × MV)} {x:Str} {n:Nat} {ks ns:List Str} {ds:List MV}
theorem FnAtO.mono {j:Nat} {F:Fn} (c:FnAtO P w K mg base j f F n ks ns ds) (h:j≤k):FnAtO P w K mg base k f F n ks ns ds :=
  ⟨let ⟨dV,a,b⟩:=c.run;⟨dV,a,fun A outer s H a0 v0 us ws vs zs Q E hr=>b A outer s H a0 v0 us ws vs zs Q E (hr.mono h)⟩,Nat.lt_of_lt_of_le c.pos h⟩
theorem FnAtO.of (F:Fn) {ps:List Str} {pv:Str} (FD:FunD K x qual params body scope [] kwd f fd) (hps:F.ps=ps++[pv]) (S:FnScope N F.ps scope) (mo:ModOk ⟨K,P,w⟩ mg blts cst) {B:MSs} (nd:All (fun n:Need=>n P w K mg base k) B.needs) (hB:mSs B ⟨N,scope,blts,cst,true,true,false⟩ body=true)
    (hM:∀ as m,as.length=F.ps.length→F.M as m≠.stuck→runD N.length B as m=F.M as m) (hk:kwd≠[]) (dV:List V) (hdV:∀ g,RVs ⟨K,P,w⟩ g ds dV) (hsub:∀ q∈ns.zip dV,q∈kwd) (hln:ns.length=ds.length) (hn:n≤sizeLine)
    (hlen:∀ {α:Type} (a:α) (zs es:List α),zs.length=ks.length→es.length=ns.length→(fillG ps [a] ks zs ns es).length=ps.length)
    (hb:∀ (D:Addr) (doc pm:Value) (an:Option Addr) (cdv ct:Value) (a0:Value) (us ws mv:List Value),us.length=n→ws.length=ks.length→mv.length=ns.length →
      KwChS D (ns.zip mv) (bindArgs (PySem.W.fnOf x qual params body scope .none (.ref D) doc pm an cdv ct) ⟨a0 :: us,ks.zip ws⟩) (newTuple us >>= fun t=>pure (ps.zip (fillG ps [a0] ks ws ns mv)++[(pv,t)]))):FnAtO P w K mg base (k + 1) f F n ks ns ds:=by
  obtain ⟨oc,od,dV0,kV,doc,pm,an,cdv,ct,osl,rfl,lk,hcd,hD,hK⟩:=FD.ex
  rcases hD with ⟨_,rfl⟩ | ⟨e,_⟩
  · rcases hK with e | ⟨D,rfl,hq⟩
    · exact absurd e hk
    · have hl0:ds.length=dV.length:=RVs.length (hdV ⟨fun _=>none,fun _=>none⟩)
      obtain ⟨mv,hl2,rk,hks⟩:=kwd_vals (ms:=ns.zip dV) (fun q hm=>hq q (hsub q hm))
      have e1:(ns.zip dV).map (·.1)=ns:=List.map_fst_zip (by omega)
      have e2:(ns.zip dV).map (·.2)=dV:=List.map_snd_zip (by omega)
      rw [e1] at hks
      rw [e2] at rk
      have hmv:mv.length=ns.length:=by rw [← rk.length,← hl0,hln]
      refine ⟨⟨dV,hdV,fun A outer s H a0 v0 us ws vs zs Q E hr e0 r0 r rz l1 l2 h=>?_⟩,Nat.succ_pos k⟩
      have epd:F.ps.dropLast=ps:=by rw [hps];simp
      rw [epd] at h
      have KX:K.In s.heap:=e0.mod.kin.keeps fun b o e=>(e0.bs b o e).1
      have hn0:H s.heap.objs.size=Option.none:=e0.hok.fresh (Nat.le_refl _)
      have lu:us.length=n:=by rw [← r.length,l1]
      have lw:ws.length=ks.length:=by rw [← rz.length,l2]
      have rf:Vals (fillG ps [v0] ks zs ns dV) (fillG ps [a0] ks ws ns mv):=fill_paired rz rk (.cons r0 .nil)
      have lf:(fillG ps [a0] ks ws ns mv).length=ps.length:=hlen a0 ws mv lw hmv
      refine StX.run_bnd lk hcd S hr e0 (G:=fun xs H2=>∃ p,H p=Option.none∧xs=fillG ps [v0] ks zs ns dV++[V.ref p]∧H2=upd H p (.tup vs)) (fun A' Ex Q' hb'=>?_) fun s2 H2 xs ⟨p,hp,ex,eH⟩ hr'=>?_
      · refine KwChS.wp KX hks (hb D doc pm an cdv ct a0 us ws mv lu lw hmv) ?_
        refine wpAny_bind (wpAny_newTuple (wpAny_pure ?_) (by rw [lu];exact hn))
        have new:ObjOk P w (upd H s.heap.objs.size (.tup vs)) (s.heap.push ({ cls:=.type "tuple",data:=.seq us.toArray }:Obj)) s.heap.objs.size (.tup vs):=⟨by rw [l1];exact hn,us,r,⟨_,Heap.get?_push_size _ rfl,rfl,_,rfl⟩⟩
        have un:=StX.un_laid (fs:=frs outer) (s:=s) (o:=({ cls:=.type "tuple",data:=.seq us.toArray }:Obj)) (u:=.tup vs) hn0
        have z:=hb' _ _ (fillG ps [v0] ks zs ns dV++[V.ref s.heap.objs.size]) (fillG ps [a0] ks ws ns mv++[Value.ref s.heap.objs.size]) (StX.env0_laid e0 new) un rfl (fun e s'=>cxUpN outer s H _ _ E e s' un (fun b o q=>Heap.get?_push_of_some _ q) rfl) (rf.append (.cons rfl .nil))
          (by rw [hps,List.length_append,List.length_append,rf.length,lf] <;> rfl) ⟨_,hn0,rfl,rfl⟩
        rw [hps,List.zip_append lf.symm] at z
        exact z
      · subst ex eH
        exact body_ok S mo nd hB hM hr' (W:=fun cls d _ H'=>E cls d H') (L2N.takes_of rfl rfl rfl rfl) (fun _ _ _ _ q=>q) (fun z=>by cases z) (h p hp)
  · exact absurd rfl e
end
def cmG (K:PySem.W.Frag) (c m:Str):Addr:=He5.wf K (He.ga K c) "classmethod" m
def cmB (c m:Str) (K:PySem.W.Frag):Bool:=PySem.W.readsIn K (He.ga K c) (.type "type")&&(He.eqO (PySem.W.specialIn K (.ref (He.ga K c)) "__getattribute__") (some (some (.builtin "type.__getattribute__")))&&(He5.wrapB K (He.ga K c) "classmethod" "classmethod.__get__" m&&PySem.W.fnIn K (cmG K c m)))
def nCm (c m:Str) (F:Fn) (n:Nat) (ks ns:List Str) (ds:List MV):Need:=fun P w K mg base k=>mg c=some (.ref (He.ga K c))∧cmB c m K=true∧FnAtO P w K mg base k (cmG K c m) F n ks ns ds
def ofF (c:Str) (F:Fn) (n:Nat) (ks ns:List Str) (ds:List MV) (as:List OV) (m:Mem):R OV:=match vals as with
  | some ys=>if (fillG F.ps.dropLast [MV.cls c] ks (ys.drop n) ns ds).length + 1=F.ps.length then retR (F.M (fillG F.ps.dropLast [MV.cls c] ks (ys.drop n) ns ds++[.tup (ys.take n)]) m) else .stuck
  | none=>.stuck
def ofParts (c m:Str) (n:Nat) (ks:List Str) (cf:Cfg):Expr→Option (List Expr)
  | .Call (.Attribute (.Name x _) a ap) es kws pos=>if (decide (x=c)&&(decide (a=m)&&(gbB cf x&&(ap.endLine == pos.line))))=true then plK n ks es kws else none
  | _=>none
section
variable {k:Nat} {W:WX} {cf:Cfg} {X:Cx} {es:List Expr} {fs:Sl→Mem→R (List OV)}
theorem pe_of {c m:Str} {F:Fn} {n:Nat} {ks ns:List Str} {ds:List MV} {e:Expr} (ok:CtxOk k W cf X) (nd:(nCm c m F n ks ns ds).at X k) (h:ofParts c m n ks cf e=some es) (p:Parts X W es fs):PE X e (tE X.ki W fun s mm=>(fs s mm).bind (ofF c F n ks ns ds)):=by
  unfold ofParts at h
  split at h <;> try contradiction
  split at h <;> try contradiction
  rename_i x pp a ap es1 kws pos hb
  simp only [Bool.and_eq_true,decide_eq_true_eq] at hb
  obtain ⟨rfl,rfl,h2,h3⟩:=hb
  unfold plK at h
  split at h <;> try contradiction
  rename_i hb2
  simp only [Bool.and_eq_true,decide_eq_true_eq] at hb2
  obtain ⟨hn,hpl,h29⟩:=hb2
  obtain ⟨zs,hz,rfl⟩:=Option.map_eq_some_iff.mp h
  obtain ⟨k1,k2,k3,k4⟩:=kwB_ok (pos:=pos) (env:=X.env) hz
  obtain ⟨f1,f2,p1,p2,rfl⟩:=p.split
  obtain ⟨g1,g2,g3⟩:=ok.gl h2
  obtain ⟨n1,nb,fa⟩:=nd
  obtain ⟨b1,nb⟩:=He.ba nb
  obtain ⟨b2,nb⟩:=He.ba nb
  obtain ⟨b3,b4⟩:=He.ba nb
  obtain ⟨b5,rest,b6⟩:=He5.wrapB_ok b3
  obtain ⟨dV,hdV,run⟩:=fa.run
  have crd:ClX.CRead X.K (He.ga X.K x) (.type "type"):=⟨b1,He.eqO_ok b2⟩
  have cme:ClX.CMet X.K (He.ga X.K x) (.type "type") a (He.ma X.K (He.ga X.K x) a) (cmG X.K x a):=⟨b5,⟨rest,b6⟩,b4⟩
  refine ⟨fun pins s σ H Q I h=>?_⟩
  refine PySem.W.methodCall_KW (thn ((pe_glob (v:=.ref (He.ga X.K x)) g1 n1 rfl g2).run pins s σ H (fun y H'=>y=V.ref (He.ga X.K x)∧H'=H) I ⟨rfl,rfl⟩) fun u s1 ⟨y,H1,I1,rx,ey,eH⟩=>?_) (meth_htB rfl h3 hpl k1 h29)
  subst ey
  subst eH
  obtain rfl:u=Value.ref (He.ga X.K x):=rx
  refine ClX.getmethcm_ok I1 crd cme fun s2 I2=>?_
  have tA1:tA X.ki W (fun s m=>(f1 s m).bind fun xs m=>(f2 s m).bind fun ys m=>.ok (xs++ys) m) σ H1 fun vs H2=>∀ q,H2 q=none→spM X.ki F.ps.length F.M (fillG F.ps.dropLast [V.ref (X.ki.ga x)] ks (vs.drop n) ns dV++[V.ref q]) (upd H2 q (.tup (vs.take n))) Q (WE W σ):=by
    obtain ⟨g,s',m,rs,rl,q⟩:=h
    refine ⟨g,s',m,rs,rl,?_⟩
    generalize (fun s m=>(f1 s m).bind fun xs m=>(f2 s m).bind fun ys m=>R.ok (xs++ys) m)=fs at q
    have q:PostO X.ki (WE W σ) g H1 ((fs s' m).bind (ofF x F n ks ns ds)) Q:=q
    cases e:fs s' m with
    | stuck=>rw [e] at q;exact q
    | exc c ks xs m'=>rw [e] at q;exact q
    | ok zs m1 =>
      rw [e] at q
      intro g1 vs H2 rs1 st1 r1 y hy
      have p1:=Post.shift st1 (show PostO X.ki (WE W σ) g H1 (ofF x F n ks ns ds zs m1) Q from q)
      unfold ofF at p1
      split at p1
      · rename_i ys ev
        split at p1
        · rename_i hl
          have r3:=vals_ok r1 ev
          obtain ⟨rs',st⟩:=rs1.freeze (o:=.tup (vs.take n)) hy
          have rf:RVs X.ki g1 (fillG F.ps.dropLast [MV.cls x] ks (ys.drop n) ns ds) (fillG F.ps.dropLast [V.ref (X.ki.ga x)] ks (vs.drop n) ns dV):=RVs.fill (RVs.one (show RV X.ki g1 (MV.cls x) (V.ref (X.ki.ga x)) from rfl)) (r3.drop n) (hdV g1) _ _ _
          refine ⟨_,m1,_,rs',RVs.append (rf.st st) (RVs.one (show RV X.ki _ (.tup (ys.take n)) (V.ref y) from ⟨y,vs.take n,rfl,.of upd_same,(r3.take n).st st⟩)),by rw [List.length_append];exact hl,(post_ret p1).shift st⟩
        · exact p1.elim
      · exact p1.elim
  have tA2:=tA_len p1 (tA_two tA1)
  have l2:zs.length=ks.length:=k3.symm
  have hf:PySem.W.fnIn X.K (cmG X.K x a)=true:=b4
  have fin:∀ {us ws:List Value} {vs zs:List V} {H2:Hp} {s3:Shared},L2.Inv X ((s1.heap.objs.size,PySem.W.methodObj (.ref (cmG X.K x a)) (.ref (He.ga X.K x))) :: pins) σ H2 s3→Vals vs us→Vals zs ws→vs.length=n→zs.length=ks.length →
      (∀ q,H2 q=none→spM X.ki F.ps.length F.M (fillG F.ps.dropLast [V.ref (X.ki.ga x)] ks zs ns dV++[V.ref q]) (upd H2 q (.tup vs)) Q (WE W σ))→wpAny (model X.prog X.w) X.A (call (.ref s1.heap.objs.size) us (ks.zip ws)) (EP X pins σ Q) X.xe s3:=fun {us ws vs zs H2 s3} I3 r rz l1 l2 q2=>by
    have z:wpAny (model X.prog X.w) X.A (call (.ref s1.heap.objs.size) us (ks.zip ws)) (EP X ((s1.heap.objs.size,PySem.W.methodObj (.ref (cmG X.K x a)) (.ref (He.ga X.K x))) :: pins) σ Q) X.xe s3:=by
      refine wpAny_call (PySem.W.method_call (ClX.pin_at I3) (codeAny_mono (run X.A X.stack s3 H2 (.ref (He.ga X.K x)) (V.ref (He.ga X.K x)) us ws vs zs Q (WE W σ) (ok.room fa.pos) I3.env0 rfl r rz l1 l2 q2) fun r s' hq=>?_))
      cases r with
      | error e=>exact L2N.passAt ok.tk σ _ H2 s3 e s' I3 hq
      | ok fl =>
        cases fl with
        | ret u=>exact I3.after hq
        | next=>exact False.elim hq
        | brk=>exact False.elim hq
        | cont=>exact False.elim hq
    exact thn z fun _ _ y=>ClX.unpinE y
  cases es1 with
  | nil =>
    have e0:=p1.p0
    rw [e0] at tA2
    obtain ⟨g3,s3,m3,rs3,rl3,p3⟩:=tA2
    obtain ⟨hv,tA3⟩:=p3 g3 [] H1 rs3 (Stp.refl _ _) .nil
    refine PySem.W.callWith_of (P:=PySem.W.MethP X.K s1.heap.objs.size (cmG X.K x a) (.ref (He.ga X.K x))) (by rw [k4];rfl) (PySem.W.keeps_M hf) (PyProof.Rows.evalArgs_kw2_nil k1 (thn ((p2.pk hz).run _ _ s2 σ H1 _ I2 (tA_len p2 tA3)) fun ws s3 ⟨zv,H2,I3,rz,lz,q2⟩=>⟨⟨ClX.pin_at I3,I3.kIn⟩,?_⟩))
    rw [k2]
    have hn0:n=0:=hn.symm
    subst hn0
    exact fin I3 .nil rz rfl (lz.trans l2) q2
  | cons b bs =>
    rw [List.all_cons,Bool.and_eq_true] at hpl
    refine PySem.W.callWith_of (P:=PySem.W.MethP X.K s1.heap.objs.size (cmG X.K x a) (.ref (He.ga X.K x))) (by rw [k4,Bool.or_false];exact noStar (by rw [List.all_cons,Bool.and_eq_true];exact hpl)) (PySem.W.keeps_M hf)
      (PyProof.Rows.evalArgs_kw2 k1 (thn ((p1.pa (by rw [List.all_cons,Bool.and_eq_true];exact hpl)).run _ _ s2 σ H1 _ I2 tA2) fun us s3 ⟨vs,H2,I3,r,lv,q2⟩=>?_) (starP hpl.1))
    refine thn ((p2.pk hz).run _ _ s3 σ H2 _ I3 (tA_len p2 q2)) fun ws s4 ⟨zv,H3,I4,rz,lz,q3⟩=>⟨⟨ClX.pin_at I4,I4.kIn⟩,?_⟩
    rw [k2]
    have lv':vs.length=n:=lv.trans hn
    rw [← lv',List.take_left,List.drop_left] at q3
    exact fin I4 r rz lv' (lz.trans l2) q3
end
def pOf (c m:Str) (F:Fn) (n:Nat) (ks ns:List Str) (ds:List MV):Prim where
  need:=[nCm c m F n ks ns ds]
  parts:=ofParts c m n ks
  F:=ofF c F n ks ns ds
  ok:=fun ok nd h p=>pe_of ok (nd _ (List.mem_singleton.mpr rfl)) h p
end Rc
namespace Rc
open PySem PySem.Spec L2
open PyProof.Rows hiding St
def ownKB (d:OwnD) (kws:List (Str × He.Dv)) (K:PySem.W.Frag):Bool:=PySem.W.keepIn K (.ref (d.ad K))&&(match K.lookup (d.ad K) with
  | some ⟨_,_,.func fd,_⟩=>PySem.W.codeIn K fd.code fd.qualname&&(isNon fd.defaults&&He.kwdB K fd.kwdefaults (kws.map fun q=>(q.1,q.2.v K)))
  | _=>false)
theorem own_fundK {K:PySem.W.Frag} {d:OwnD} {kws:List (Str × He.Dv)} (hc:d.clo=[]) (e:ownV K (d.ad K)=d.val) (b:ownKB d kws K=true):∃ fd,FunD K d.name d.qual d.params d.body d.scope [] (kws.map fun q=>(q.1,q.2.v K)) (d.ad K) fd:=by
  obtain ⟨b1,b2⟩:=Bool.and_eq_true_iff.mp b
  unfold ownV at e
  cases q:K.lookup (d.ad K) with
  | none=>rw [q] at b2;cases b2
  | some o =>
    obtain ⟨oc,od,dt,osl⟩:=o
    rw [q] at b2 e
    cases dt with
    | func fd =>
      obtain ⟨n1,n2,n3,n4,n5,n6,n7,n8,n9,n10,n11,n12,n13,n14,n15⟩:=fd
      have e2:(some (n1,n2,n3,n4,n5,n6,n7.map (·.1),n15):ErrV)=d.val:=e
      unfold OwnD.val at e2
      simp only [Option.some.injEq,Prod.mk.injEq] at e2
      obtain ⟨h1,h2,h3,h4,h5,h6,h7,h8⟩:=e2
      rw [hc] at h7
      have h7:=List.map_eq_nil_iff.mp h7
      subst h1 h2 h3 h4 h5 h6 h7 h8
      have b3:(PySem.W.codeIn K n13 d.qual&&(isNon n8&&He.kwdB K n9 (kws.map fun q=>(q.1,q.2.v K))))=true:=b2
      obtain ⟨c1,c2⟩:=Bool.and_eq_true_iff.mp b3
      obtain ⟨c3,c4⟩:=Bool.and_eq_true_iff.mp c2
      obtain rfl:=isNon_ok c3
      exact ⟨_,⟨oc,od,.none,n9,n10,n11,n12,n13,n14,osl,rfl,q,c1,.inl ⟨rfl,rfl⟩,He.kwdB_ok c4⟩,b1⟩
    | _=>cases b2
def kwAt (f:PySem.W.Frag→Addr) (x:Str) (K:PySem.W.Frag):Addr:=match K.lookup (f K) with
  | some ⟨_,_,.func fd,_⟩=>(match fd.kwdefaults with
    | .ref D=>(match PySem.W.nsIn K D x with
      | some (some (.ref a))=>a
      | _=>0)
    | _=>0)
  | _=>0
def ktupB (a:PySem.W.Frag→Addr) (vs:List He.Dv) (K:PySem.W.Frag):Bool:=match K.lookup (a K) with
  | some ⟨.type c,_,.seq its _,_⟩=>decide (c="tuple")&&(decide (its.size≤sizeLine)&&He.relAll (vs.map (He.Dv.v K)) its.toList)
  | _=>false
theorem ktup_ok {K:PySem.W.Frag} {a:PySem.W.Frag→Addr} {vs:List He.Dv} (h:ktupB a vs K=true) (H:Hp):SqT K H (a K) (vs.map (He.Dv.v K)):=by
  unfold ktupB at h
  cases q:K.lookup (a K) with
  | none=>rw [q] at h;cases h
  | some o =>
    obtain ⟨oc,od,dt,osl⟩:=o
    rw [q] at h
    cases oc with
    | type c =>
      cases dt with
      | seq its n =>
        obtain ⟨h1,h2⟩:=He.ba (show (decide (c="tuple")&&(decide (its.size≤sizeLine)&&He.relAll (vs.map (He.Dv.v K)) its.toList))=true from h)
        obtain ⟨h3,h4⟩:=He.ba h2
        have e:=of_decide_eq_true h1
        subst e
        exact .inr ⟨_,its,n,q,rfl,rfl,of_decide_eq_true h3,He.relAll_ok h4⟩
      | _=>cases h
    | _=>cases h
end Rc
namespace Rc
open PySem PySem.Spec L2
open PyProof.Rows hiding St
section
variable {k:Nat} {W:WX} {cf:Cfg} {X:Cx} {es:List Expr} {fs:Sl→Mem→R (List OV)}
end
end Rc

set_option maxHeartbeats 0
namespace K77
open RcCut (dT dM)
open PySem PySem.Spec L2 Rc
open PyProof.Rows hiding St
def top (i:Nat):Stmt:=PySem.Challenge.pw_roomofcalls_k77_columns_of_programs.main.body.getD i (.Pass ⟨0,0,0,0⟩)
def d_law_open:He.DefD:=dT "_law_open" (top 24)
def d_law_draw:He.DefD:=dT "_law_draw" (top 25)
def d_law_of:He.DefD:=dT "_law_of" (top 26)
def d_law_new_names:He.DefD:=dT "_law_new_names" (top 28)
def d_law_words:He.DefD:=dT "_law_words" (top 29)
def d_law_draw_spec:He.DefD:=dT "_law_draw_spec" (top 30)
def d_law_padded:He.DefD:=dT "_law_padded" (top 32)
def d_is_list:He.DefD:=dT "is_list" (top 12)
def d_first_fault:He.DefD:=dT "first_fault" (top 14)
def d_is_name:He.DefD:=dT "is_name" (top 10)
def d_is_word:He.DefD:=dT "is_word" (top 11)
def d_check_words:He.DefD:=dT "check_words" (top 15)
def d_check_orders:He.DefD:=dT "check_orders" (top 16)
def d_is_mode:He.DefD:=dT "is_mode" (top 17)
def d_check_modes:He.DefD:=dT "check_modes" (top 18)
def d_check_starts:He.DefD:=dT "check_starts" (top 19)
def d_Program___init__:He.DefD:=dM "Program" "__init__" "Program.__init__" (inClass (top 20) 3)
def d_law_make:He.DefD:=dT "_law_make" (top 31)
def d_Program_modes:He.DefD:=dM "Program" "modes" "Program.modes" (inClass (top 20) 8)
def d_Program_starts:He.DefD:=dM "Program" "starts" "Program.starts" (inClass (top 20) 9)
def d_columns:He.DefD:=dT "columns" (top 22)
def d_law_same:He.DefD:=dT "_law_same" (top 27)
def d_Program_of:OwnD:=⟨fun K=>cmG K "Program" "of","of","Program.of",[],defArgs (inClass (top 20) 4),defBody (inClass (top 20) 4),defScope (inClass (top 20) 4)⟩
def kwd_Program_of:List (Str × He.Dv):=[("words",.adr (kwAt d_Program_of.ad "words")),("orders",.adr (kwAt d_Program_of.ad "orders")),("starts",.non)]
def d_law:He.DefD:=dT "law" (top 33)
def er_InvalidWords:ErrD:=⟨"InvalidWords","at","at",defArgs (inClass (top 3) 0),defBody (inClass (top 3) 0),defScope (inClass (top 3) 0)⟩
def er_InvalidOrders:ErrD:=⟨"InvalidOrders","at","at",defArgs (inClass (top 4) 0),defBody (inClass (top 4) 0),defScope (inClass (top 4) 0)⟩
def er_InvalidModes:ErrD:=⟨"InvalidModes","at","at",defArgs (inClass (top 5) 0),defBody (inClass (top 5) 0),defScope (inClass (top 5) 0)⟩
def er_UnknownMode:ErrD:=⟨"UnknownMode","given","given",defArgs (inClass (top 7) 0),defBody (inClass (top 7) 0),defScope (inClass (top 7) 0)⟩
def er_InvalidStarts:ErrD:=⟨"InvalidStarts","at","at",defArgs (inClass (top 6) 0),defBody (inClass (top 6) 0),defScope (inClass (top 6) 0)⟩
def ers:List OwnD:=[er_InvalidWords.own,er_InvalidOrders.own,er_InvalidModes.own,er_UnknownMode.own,er_InvalidStarts.own,d_Program_of]
def fn:List He.DefD:=[d_law_open,d_law_draw,d_law_of,d_law_new_names,d_law_words,d_law_draw_spec,d_law_padded,d_is_list,d_first_fault,d_is_name,d_is_word,d_check_words,d_check_orders,d_is_mode,d_check_modes,d_check_starts,d_Program___init__,d_law_make,d_Program_modes,d_Program_starts,d_columns,d_law_same,d_law]
def fa:List He.Fa:=[.glo "_law_open",.glo "_law_draw",.glo "_law_of",.glo "_law_new_names",.glo "_law_words",.glo "_law_draw_spec",.glo "_law_padded",.glo "is_list",.glo "first_fault",.glo "is_name",.glo "is_word",.glo "check_words",.glo "check_orders",.glo "is_mode",.glo "check_modes",.glo "check_starts",.glo "_law_make",.glo "columns",.glo "_law_same",.glo "law",.free "abs",.free "all",.free "bool",.free "enumerate",.free "int",.free "isinstance",.free "len",.free "list",.free "max",.free "range",.free "str",.free "tuple",.free "zip",.str "LETTERS" "abcdefghijklmnopqrstuvwxyz",.free "super",.glo "InvalidWords",.glo "InvalidOrders",.glo "InvalidModes",.glo "UnknownMode",.glo "InvalidStarts",.glo "Program",.noat "Program" "own_words",.noat "Program" "own_orders",.noat "Program" "own_modes",.noat "Program" "own_starts",.noat "Program" "own_names",.noat "Program" "places",.mkr "Program",.cls "Program",.meth "Program" "modes",.meth "Program" "starts"]
def xf:List Xf:=[.say (errBB bVE "/claim/cut.py" er_InvalidWords),.say (errBB bVE "/claim/cut.py" er_InvalidOrders),.say (errBB bVE "/claim/cut.py" er_InvalidModes),.say (errBB bVE "/claim/cut.py" er_UnknownMode),.say (errBB bVE "/claim/cut.py" er_InvalidStarts),.say (ownKB d_Program_of kwd_Program_of),.say (ktupB (kwAt d_Program_of.ad "words") []),.say (ktupB (kwAt d_Program_of.ad "orders") [.str "go"]),.con "Program" "MOST_WORDS" 2,.con "Program" "MOST_ORDERS" 3,.con "Program" "MOST_MODES" 5,.ins "Program",.say (cmB "Program" "of")]
def ts:List He.Tab:=[]
abbrev RR:PySem.W.OpenRow:=PySem.W.OpenLaw.row PySem.Challenge.rw_roomofcalls_k77_columns_of_programs
def asE:List Addr:=[2,3,6,4,21,31,53,74,95,116,137,144,151,158,165,170,175,180,187,192,340,351,358,365,372,377,382,387,392,399,406,413,0,20,30,52,73,94,115,136,143,150,157,164,169,174,179,186,191,339,350,357,364,371,376,381,386,391,398,405,412,15,17,18,19,29,32,50,51,71,72,92,93,113,114,134,135,140,142,145,147,148,149,152,154,155,156,159,161,162,163,166,168,171,173,176,178,181,183,184,185,188,190,204,214,224,232,239,246,253,260,267,274,281,288,295,302,309,316,323,330,337,338,341,342,345,347,348,349,352,354,355,356,359,361,362,363,366,368,369,370,373,375,378,380,383,385,388,390,393,395,396,397,400,402,403,404,407,409,410,411,49,38,70,59,91,80,112,101,133,122,203,212,213,222,223,231,238,245,252,259,266,273,280,287,294,301,308,315,322,329,336,44,46,47,48,65,67,68,69,86,88,89,90,107,109,110,111,128,130,131,132,200,202,211,207,215,221,225,226,228,229,230,233,235,236,237,240,242,243,244,247,249,250,251,254,256,257,258,261,263,264,265,268,270,271,272,275,277,278,279,282,284,285,286,289,291,292,293,296,298,299,300,303,305,306,307,310,312,313,314,317,319,320,321,324,326,327,328,331,333,334,335,208,210,205,206,216,218,219,220]
abbrev hk:PySem.W.Hook:=hookL asE fa xf fn ts ers
def ob (s:PySem.W.SharedT):AlX:=obsFL asE fa xf fn ts ers (HandSHeadRun.getT s)
theorem ob_eq (s:PySem.W.SharedT):ob s=hk.obs s.abs:=obsFL_eq (HandSHeadRun.getT_eq s)
def nms:List PySem.Str:=(["_wall","RoomError","InvalidWords","InvalidOrders","InvalidModes","InvalidStarts","UnknownMode","LETTERS","is_name","is_word","is_list","first_fault","check_words","check_orders","is_mode"]:List PySem.Str)++(["check_modes","check_starts","Program","columns","_law_open","_law_draw","_law_of","_law_same","_law_new_names","_law_words","_law_draw_spec","_law_make","_law_padded"]:List PySem.Str)
end K77
noncomputable section
namespace K77
open PySem PySem.W PySem.Calls HandSHeadRun
open RcCut (putL hT hN hY hD hG hS hF hC hX h3 hE hM eV eR eO f5 f7)
abbrev hK (P:Params) (x:PySem.Str):Int:=PyData.keyHash P x
def t_0 (P:Params):PySem.W.BT:=RcCut.putsT .nil [(0,PySem.W.boot_o_0 P),(1,PySem.W.boot_o_1 P),(2,PySem.W.boot_o_2 P),(3,PySem.W.boot_o_3 P),(4,PySem.W.boot_o_4 P),(5,PySem.W.boot_o_5 P),(6,PySem.W.boot_o_6 P),(7,PySem.W.boot_o_7 P),(8,PySem.W.boot_o_8 P),(9,PySem.W.boot_o_9 P),(10,PySem.W.boot_o_10 P)]
def annV:Option Value:=(some (.ref 6))
def envT:Env:={ scope:=PySem.Challenge.pw_roomofcalls_k77_columns_of_programs.main.scope,locals:=mainNs,globals:=mainNs,cells:=[],code:=(.ref 13),frame:=some 14 }
def bodyT:List Stmt:=behindTheImports PySem.Challenge.pw_roomofcalls_k77_columns_of_programs
def t_a (P:Params):PySem.W.BT:=RcCut.putsT (t_0 P) [(11,hT #[]),
  (12,hN #[]),
  (13,hC "<module>" 182 "<module>" 183 184 1 0 0 0 0 (.ref 11) false 181 (.ref 12) .none .none .none .none 185 1 186),
  (14,⟨(.type "frame"),none,.plain,#[(some (.ref 13)),(some (.ref 3)),(some (.ref 3)),none,(some (.str "__main__" 164)),none,(some (.ref 0))]⟩)]
abbrev s_a (w:World) (os:OsState):SharedT:=RcCut.endS t_a 15 boot_drawn 187 w os
def t_b (P:Params):PySem.W.BT:=t_a P
abbrev s_b (w:World) (os:OsState):SharedT:=RcCut.endS t_b 15 boot_drawn 187 w os
theorem r_a (w:World) (os:OsState):RcCut.stepsF (RcCut.stQ PySem.Challenge.pw_roomofcalls_k77_columns_of_programs w) 11 annV 12 (RcCut.bootS w os (t_0 w.params) 11) (topStub PySem.Challenge.pw_roomofcalls_k77_columns_of_programs)=some (s_a w os,⟨HandSHeadRun.denQ HandSHeadRun.tabQ (.body bodyT envT),(.body bodyT envT),⟨0,0,0,0⟩,[topFrame ⟨0,0,0,0⟩]⟩):=by kernel_rfl
theorem r_b (w:World) (os:OsState):RcCut.segF (RcCut.stQ PySem.Challenge.pw_roomofcalls_k77_columns_of_programs w) 11 annV 1 1 (s_a w os) (blockOf bodyT envT (.body bodyT envT) ⟨0,0,0,0⟩ [topFrame ⟨0,0,0,0⟩])=some (.next,s_b w os,(.body bodyT envT),⟨0,0,0,0⟩):=by kernel_rfl
def e_1 (P:Params):List DictEntry:=[eV P "__doc__" 166 .none,eV P "__package__" 167 .none,eV P "__loader__" 168 (.builtin "__main__.__loader__#opaque"),eV P "__spec__" 169 .none,eV P "__annotations__" 170 (.ref 6),eV P "__builtins__" 171 (.ref 4),eV P "__file__" 173 (.str "/claim/cut.py" 172),eV P "__cached__" 174 .none]++eR P [("_wall",193,21),("RoomError",213,31),("InvalidWords",241,53),("InvalidOrders",269,74),("InvalidModes",297,95),("InvalidStarts",325,116),("UnknownMode",353,137)]++[eV P "LETTERS" 357 (.str "abcdefghijklmnopqrstuvwxyz" 356)]++eR P [("is_name",363,144),("is_word",370,151),("is_list",377,158),("first_fault",390,165),("check_words",396,170),("check_orders",402,175),("is_mode",408,180),("check_modes",425,187)]
def p_1:List (Int × Nat):=[(1,20),(5,27),(7,41),(13,62),(19,83),(25,104),(31,125),(39,143),(43,150),(45,157),(48,164),(53,169),(57,174),(63,179),(72,186)]
def t_1_0 (P:Params):PySem.W.BT:=putL (t_b P) [[(3,hE (eV P "__name__" 165 (.str "roomofcalls.programs" 378) :: e_1 P) 25),(12,h3 0 p_1)],f7 15 "_wall" "_wall" (top 0) 187 1 1 3 "__main__" 164 (hN #[]) [] ["k"],[(22,hT #[(.type "ValueError")]),(23,hY "builtin_function_or_method" #[(.builtin "type.__prepare__"),(.type "type")]),(24,hE ([eV P "__module__" 203 (.str "roomofcalls.errors" 194),eV P "__qualname__" 205 (.str "RoomError" 204),eV P "__firstlineno__" 207 (.int 5 206),eV P "__static_attributes__" 208 (.ref 29)]) 4),(25,hT #[]),(26,hN #[]),(27,hC "RoomError" 198 "RoomError" 199 200 5 0 0 0 0 (.ref 25) false 181 (.ref 26) .none .none .none .none 201 5 202),(28,hM 27 24 "roomofcalls.errors" 194),(29,hT #[]),(30,hE ([eV P "__module__" 203 (.str "roomofcalls.errors" 194),eV P "__firstlineno__" 207 (.int 5 206),eV P "__static_attributes__" 208 (.ref 29),eV P "__weakref__" 210 (.ref 32),eV P "__doc__" 211 .none]) 3),(31,⟨(.type "type"),none,(.cls ⟨"RoomError",[(.type "ValueError")],[(.ref 31),(.type "ValueError"),(.type "Exception"),(.type "BaseException"),(.type "object")],30,"RoomError",true,[],[(.ref 53),(.ref 74),(.ref 95),(.ref 116),(.ref 137)],false,none,false⟩),#[(some (.ref 22)),none,(some (.str "RoomError" 196)),(some (.str "RoomError" 204)),(some (.builtin "ValueError.__new__")),(some (.bool true))]⟩),(32,hY "getset_descriptor" #[(.str "__weakref__" 209),(.ref 31),(.builtin "ExceptionGroup.__weakref__"),.none]),(33,hY "super" #[(.ref 31),(.ref 31),(.ref 31)]),(34,hY "builtin_function_or_method" #[(.builtin "object.__init_subclass__"),(.ref 31)])],eO P 35 214 31 "InvalidWords" "at" "at" "code" (L2.inClass (top 3) 0) 7 9 "roomofcalls.errors" 194]
def t_1_1 (P:Params):PySem.W.BT:=putL (t_1_0 P) [eO P 56 242 31 "InvalidOrders" "at" "at" "code" (L2.inClass (top 4) 0) 13 15 "roomofcalls.errors" 194,eO P 77 270 31 "InvalidModes" "at" "at" "code" (L2.inClass (top 5) 0) 19 21 "roomofcalls.errors" 194]
def t_1_2 (P:Params):PySem.W.BT:=putL (t_1_1 P) [eO P 98 298 31 "InvalidStarts" "at" "at" "code" (L2.inClass (top 6) 0) 25 27 "roomofcalls.errors" 194,eO P 119 326 31 "UnknownMode" "given" "code" "given" (L2.inClass (top 7) 0) 31 33 "roomofcalls.errors" 194]
def t_1 (P:Params):PySem.W.BT:=putL (t_1_2 P) [f5 140 "is_name" "is_name" (top 10) 358 39 1 3 "roomofcalls.names" 354 (hN #[]),f7 145 "is_word" "is_word" (top 11) 364 43 1 3 "roomofcalls.names" 354 (hN #[]) [] ["value"],f7 152 "is_list" "is_list" (top 12) 371 45 1 3 "roomofcalls.names" 354 (hN #[]) [] ["value"],f7 159 "first_fault" "first_fault" (top 14) 380 48 3 3 "roomofcalls.programs" 378 (hN #[]) [] ["values","fitting","most","at","value"],f5 166 "check_words" "check_words" (top 15) 391 53 1 3 "roomofcalls.programs" 378 (hN #[]),f5 171 "check_orders" "check_orders" (top 16) 397 57 1 3 "roomofcalls.programs" 378 (hN #[]),f5 176 "is_mode" "is_mode" (top 17) 403 63 3 3 "roomofcalls.programs" 378 (hN #[]),f7 181 "check_modes" "check_modes" (top 18) 409 72 3 3 "roomofcalls.programs" 378 (hN #[]) [] ["modes","words","orders","names","at","mode","name","call","rows","row","goal"]]
abbrev s_1 (w:World) (os:OsState):SharedT:=RcCut.endS t_1 188 boot_drawn 426 w os
def l_1:List Stmt:=(PySem.Challenge.pw_roomofcalls_k77_columns_of_programs.main.body.drop 0).take 19
theorem r_1 (w:World) (os:OsState):RcCut.segF (RcCut.stQ PySem.Challenge.pw_roomofcalls_k77_columns_of_programs w) 11 annV 1 1796 (s_b w os) (RcCut.pcQ l_1 envT (.body bodyT envT) ⟨0,0,0,0⟩ [topFrame ⟨0,0,0,0⟩])=some (.next,s_1 w os,(.body bodyT envT),⟨72,0,84,43⟩):=by kernel_rfl
def e_2 (P:Params):List DictEntry:=e_1 P++eR P [("check_starts",431,192),("Program",631,340),("columns",645,351),("_law_open",656,358),("_law_draw",669,365),("_law_of",677,372),("_law_same",683,377),("_law_new_names",689,382),("_law_words",695,387),("_law_draw_spec",701,392),("_law_make",708,399),("_law_padded",716,406),("law",734,413)]
def p_2:List (Int × Nat):=p_1++[(85,191),(91,198),(170,350),(177,357),(182,364),(200,371),(202,376),(212,381),(217,386),(219,391),(230,398),(232,405),(234,412)]
def t_2_0 (P:Params):PySem.W.BT:=putL (t_1 P) [[(3,hE (eV P "__name__" 165 (.str "law_roomofcalls_k77_columns_of_programs" 646) :: e_2 P) 38),(12,h3 0 p_2)],f5 188 "check_starts" "check_starts" (top 19) 426 85 2 3 "roomofcalls.programs" 378 (hN #[]),[(193,hT #[]),(194,hY "builtin_function_or_method" #[(.builtin "type.__prepare__"),(.type "type")]),(195,hE ([eV P "__module__" 439 (.str "roomofcalls.programs" 378),eV P "__qualname__" 441 (.str "Program" 440),eV P "__firstlineno__" 443 (.int 91 442),eV P "MOST_WORDS" 445 (.int 2 444),eV P "MOST_ORDERS" 447 (.int 3 446),eV P "MOST_MODES" 449 (.int 5 448)]++eR P [("__init__",455,204),("of",477,214),("relay",496,224),("words",503,232),("orders",510,239),("modes",517,246),("starts",524,253),("names",531,260),("sounds",538,267),("check_mode",546,274),("check_order",554,281),("call_of",562,288),("next_mode",572,295),("beginnings",579,302),("marked_rooms",586,309),("__contains__",594,316),("__len__",601,323),("__eq__",609,330),("__repr__",616,337),("__static_attributes__",623,338)]) 26),(196,hT #[]),(197,h3 4 [(96,203),(110,211),(115,221),(118,231),(121,238),(124,245),(127,252),(130,259),(133,266),(136,273),(139,280),(142,287),(145,294),(148,301),(151,308),(154,315),(157,322),(160,329),(167,336)]),(198,hC "Program" 434 "Program" 435 436 91 0 0 0 0 (.ref 196) false 181 (.ref 197) .none .none .none .none 437 91 438),(199,hM 198 195 "roomofcalls.programs" 378)],f5 200 "__init__" "Program.__init__" (L2.inClass (top 20) 3) 450 96 5 3 "roomofcalls.programs" 378 (hN #[]),[(205,hT #[]),(206,hT #[(.str "go" 456)]),(207,hE ([eV P "words" 457 (.ref 205),eV P "orders" 458 (.ref 206),eV P "starts" 459 .none]) 3),(208,hT #[]),(209,hN #[]),(210,hS "of" "Program.of" (L2.inClass (top 20) 4)),(211,hC "of" 460 "Program.of" 461 462 109 1 0 3 7 (.ref 208) true 181 (.ref 209) .none .none .none (.ref 210) 463 109 464),(212,hG (.type "function") "of" "Program.of" (L2.inClass (top 20) 4) 3 [] .none (.ref 207) .none (.str "roomofcalls.programs" 378) (some 215) (.ref 211) .none 0),(213,hE ([eV P "__module__" 466 (.str "roomofcalls.programs" 378),eV P "__name__" 469 (.str "of" 468),eV P "__qualname__" 472 (.str "Program.of" 471),eV P "__doc__" 474 .none,eV P "__annotations__" 476 (.ref 215)]) 5),(214,⟨(.type "classmethod"),(some 213),(.fields #[(.ref 212),(.bool false)]),#[]⟩),(215,⟨(.type "dict"),none,(.dict #[] 0),#[]⟩),(216,hT #[]),(217,hN #[]),(218,hT #[(.str "many" 481)]),(219,hT #[]),(220,hS "relay" "Program.relay" (L2.inClass (top 20) 5)),(221,hC "relay" 478 "Program.relay" 479 480 114 1 0 0 3 (.ref 216) true 181 (.ref 217) .none (.ref 218) (.ref 219) (.ref 220) 482 114 483),(222,hG (.type "function") "relay" "Program.relay" (L2.inClass (top 20) 5) 3 [] .none .none .none (.str "roomofcalls.programs" 378) (some 225) (.ref 221) .none 0),(223,hE ([eV P "__module__" 485 (.str "roomofcalls.programs" 378),eV P "__name__" 488 (.str "relay" 487),eV P "__qualname__" 491 (.str "Program.relay" 490),eV P "__doc__" 493 .none,eV P "__annotations__" 495 (.ref 225)]) 5),(224,⟨(.type "staticmethod"),(some 223),(.fields #[(.ref 222),(.bool false)]),#[]⟩),(225,⟨(.type "dict"),none,(.dict #[] 0),#[]⟩)],f7 226 "words" "Program.words" (L2.inClass (top 20) 6) 497 118 1 3 "roomofcalls.programs" 378 (hN #[]) [] ["self"]]
def t_2_1 (P:Params):PySem.W.BT:=putL (t_2_0 P) [f7 233 "orders" "Program.orders" (L2.inClass (top 20) 7) 504 121 1 3 "roomofcalls.programs" 378 (hN #[]) [] ["self"],f7 240 "modes" "Program.modes" (L2.inClass (top 20) 8) 511 124 1 3 "roomofcalls.programs" 378 (hN #[]) [] ["self"],f7 247 "starts" "Program.starts" (L2.inClass (top 20) 9) 518 127 1 3 "roomofcalls.programs" 378 (hN #[]) [] ["self"],f7 254 "names" "Program.names" (L2.inClass (top 20) 10) 525 130 1 3 "roomofcalls.programs" 378 (hN #[]) [] ["self"],f7 261 "sounds" "Program.sounds" (L2.inClass (top 20) 11) 532 133 1 3 "roomofcalls.programs" 378 (hN #[]) [] ["self"],f7 268 "check_mode" "Program.check_mode" (L2.inClass (top 20) 12) 539 136 2 3 "roomofcalls.programs" 378 (hN #[]) [] ["self","mode"]]
def t_2_2 (P:Params):PySem.W.BT:=putL (t_2_1 P) [f7 275 "check_order" "Program.check_order" (L2.inClass (top 20) 13) 547 139 2 3 "roomofcalls.programs" 378 (hN #[]) [] ["self","order"],f7 282 "call_of" "Program.call_of" (L2.inClass (top 20) 14) 555 142 2 3 "roomofcalls.programs" 378 (hN #[]) [] ["self","mode"],f7 289 "next_mode" "Program.next_mode" (L2.inClass (top 20) 15) 563 145 4 3 "roomofcalls.programs" 378 (hN #[]) [] ["self","mode","order","sound"],f7 296 "beginnings" "Program.beginnings" (L2.inClass (top 20) 16) 573 148 1 3 "roomofcalls.programs" 378 (hN #[]) [] ["self"],f7 303 "marked_rooms" "Program.marked_rooms" (L2.inClass (top 20) 17) 580 151 1 3 "roomofcalls.programs" 378 (hN #[]) [] ["self"],f7 310 "__contains__" "Program.__contains__" (L2.inClass (top 20) 18) 587 154 2 3 "roomofcalls.programs" 378 (hN #[]) [] ["self","mode"]]
def t_2_3 (P:Params):PySem.W.BT:=putL (t_2_2 P) [f7 317 "__len__" "Program.__len__" (L2.inClass (top 20) 19) 595 157 1 3 "roomofcalls.programs" 378 (hN #[]) [] ["self"],f7 324 "__eq__" "Program.__eq__" (L2.inClass (top 20) 20) 602 160 2 3 "roomofcalls.programs" 378 (hN #[]) [] ["self","other"],f7 331 "__repr__" "Program.__repr__" (L2.inClass (top 20) 21) 610 167 1 3 "roomofcalls.programs" 378 (hN #[]) [] ["self"],[(338,hX 617 ["own_modes","own_names","own_orders","own_starts","own_words","places"]),(339,hE ([eV P "__module__" 439 (.str "roomofcalls.programs" 378),eV P "__firstlineno__" 443 (.int 91 442),eV P "MOST_WORDS" 445 (.int 2 444),eV P "MOST_ORDERS" 447 (.int 3 446),eV P "MOST_MODES" 449 (.int 5 448)]++eR P [("__init__",455,204),("of",477,214),("relay",496,224),("words",503,232),("orders",510,239),("modes",517,246),("starts",524,253),("names",531,260),("sounds",538,267),("check_mode",546,274),("check_order",554,281),("call_of",562,288),("next_mode",572,295),("beginnings",579,302),("marked_rooms",586,309),("__contains__",594,316),("__len__",601,323),("__eq__",609,330),("__repr__",616,337),("__static_attributes__",623,338),("__dict__",625,341),("__weakref__",627,342)]++[eV P "__doc__" 628 .none,eV P "__hash__" 629 .none]) 5),(340,⟨(.type "type"),none,(.cls ⟨"Program",[(.type "object")],[(.ref 340),(.type "object")],339,"Program",true,[],[],false,none,false⟩),#[none,none,(some (.str "Program" 432)),(some (.str "Program" 440)),(some (.builtin "object.__new__")),(some (.bool true))]⟩),(341,hY "getset_descriptor" #[(.str "__dict__" 624),(.ref 340),(.builtin "function.__dict__"),(.builtin "function.__dict__#set")]),(342,hY "getset_descriptor" #[(.str "__weakref__" 626),(.ref 340),(.builtin "ExceptionGroup.__weakref__"),.none]),(343,hY "super" #[(.ref 340),(.ref 340),(.ref 340)]),(344,hY "builtin_function_or_method" #[(.builtin "object.__init_subclass__"),(.ref 340)])],f7 345 "columns" "columns" (top 22) 634 170 1 3 "roomofcalls.pages" 632 (hN #[]) [] ["program","found","name","call","rows","mark"],f7 352 "_law_open" "_law_open" (top 24) 648 177 1 3 "law_roomofcalls_k77_columns_of_programs" 646 (hN #[]) [] ["_law_script","_law_mixed","_law_cell"]]
def t_2_4 (P:Params):PySem.W.BT:=putL (t_2_3 P) [f7 359 "_law_draw" "_law_draw" (top 25) 657 182 2 3 "law_roomofcalls_k77_columns_of_programs" 646 (hN #[]) [] ["_law_bag","_law_sides","_law_cell","_law_small","_law_digit","_law_seed","_law_step"],f7 366 "_law_of" "_law_of" (top 26) 670 200 2 3 "law_roomofcalls_k77_columns_of_programs" 646 (hN #[]) [] ["_law_bag","_law_things"],f5 373 "_law_same" "_law_same" (top 27) 678 202 2 3 "law_roomofcalls_k77_columns_of_programs" 646 (hN #[]),f5 378 "_law_new_names" "_law_new_names" (top 28) 684 212 2 3 "law_roomofcalls_k77_columns_of_programs" 646 (hN #[]),f5 383 "_law_words" "_law_words" (top 29) 690 217 2 3 "law_roomofcalls_k77_columns_of_programs" 646 (hN #[]),f5 388 "_law_draw_spec" "_law_draw_spec" (top 30) 696 219 4 3 "law_roomofcalls_k77_columns_of_programs" 646 (hN #[]),f7 393 "_law_make" "_law_make" (top 31) 702 230 1 3 "law_roomofcalls_k77_columns_of_programs" 646 (hN #[]) [] ["_law_spec"],f7 400 "_law_padded" "_law_padded" (top 32) 709 232 2 3 "law_roomofcalls_k77_columns_of_programs" 646 (hN #[]) [] ["_law_text_z","_law_size"]]
def t_2 (P:Params):PySem.W.BT:=putL (t_2_4 P) [f7 407 "law" "law" (top 33) 717 234 1 3 "law_roomofcalls_k77_columns_of_programs" 646 (hN #[]) [] ["_law_script","_law_bag","_law_turn","_law_spec","_law_due","_law_own","_law_call","_law_lines","_law_front","_law_made","_law_found","_law_lone"]]
abbrev s_2 (w:World) (os:OsState):SharedT:=RcCut.endS t_2 414 boot_drawn 735 w os
def l_2:List Stmt:=(PySem.Challenge.pw_roomofcalls_k77_columns_of_programs.main.body.drop 19).take 15
theorem r_2 (w:World) (os:OsState):RcCut.segF (RcCut.stQ PySem.Challenge.pw_roomofcalls_k77_columns_of_programs w) 11 annV 1 1482 (s_1 w os) (RcCut.pcQ l_2 envT (.body bodyT envT) ⟨72,0,84,43⟩ [topFrame ⟨0,0,0,0⟩])=some (.next,s_2 w os,(.body bodyT envT),⟨234,0,250,78⟩):=by kernel_rfl
def t_z (P:Params):PySem.W.BT:=t_2 P
abbrev s_z (w:World) (os:OsState):SharedT:=RcCut.endS t_z 414 boot_drawn 735 w os
theorem r_z (w:World) (os:OsState):HandSHeadRun.goF (RcCut.stQ PySem.Challenge.pw_roomofcalls_k77_columns_of_programs w) 11 annV 3 (s_2 w os) ⟨doneF .next,(.body bodyT envT),⟨234,0,250,78⟩,[topFrame ⟨0,0,0,0⟩]⟩=some (s_z w os):=by kernel_rfl
theorem bodyT_eq:bodyT=l_1++(l_2++([])):=by kernel_rfl
theorem size_ok (w:World):((boot_heap w.params).isNs mainGlobals&&(#[]:Array GenState).size == 0,(boot_heap w.params).objs.size,(boot_heap w.params).nsMap mainGlobals "__annotations__")=(true,11,annV):=by kernel_rfl
theorem boot_tree (w:World):HandSHeadRun.putAll (boot_heap w.params).objs.toList .nil 0=some (t_0 w.params,11):=by kernel_rfl
theorem runAll (w:World) (os:OsState):topRun treeTable PySem.Challenge.pw_roomofcalls_k77_columns_of_programs w 11 annV 3294 ⟨boot_heap w.params,#[],boot_drawn,boot_toks,os⟩ (topStub PySem.Challenge.pw_roomofcalls_k77_columns_of_programs)=some (RcCut.endS t_z 414 boot_drawn 735 w os).abs:=by
  rw [← RcCut.bootS_abs (os:=os) (boot_tree w)]
  refine RcCut.pre_part (N:=3282) (r_a w os) ?_
  refine RcCut.block_part (N:=3281) (r_b w os) ?_
  rw [bodyT_eq]
  refine RcCut.list_part (N:=1485) (l:=l_1) (by have h:=r_1 w os;exact h) ?_
  refine RcCut.list_part (N:=3) (l:=l_2) (by have h:=r_2 w os;exact h) ?_
  exact RcCut.end_part (r_z w os)
abbrev nEnd:Nat:=414
abbrev kEnd:Nat:=735
abbrev XtV (s:Shared):Bool:=xlAt (view RR.prog [33]) [] s&&recOk RR.toRowW.records s
theorem l_looks (w:World) (os:OsState):looksF RR.prog (boot_heap w.params) (RcCut.endS t_z nEnd boot_drawn kEnd w os).abs=true:=by kernel_rfl
theorem l_seen (w:World) (os:OsState):seenQ (view RR.prog [33]) nms (importedModules RR.prog.main.body) XtV (RcCut.endS t_z nEnd boot_drawn kEnd w os).abs=openGood (view RR.prog [33]) nms:=by kernel_rfl
abbrev eG (w:World) (os:OsState):Addr→Option Obj:=HandSHeadRun.getT (RcCut.endS t_z nEnd boot_drawn kEnd w os)
theorem lo1 (w:World) (os:OsState):((fa.all fun f=>f.ok (Rc.Kg asE (eG w os)))&&fn.all fun d=>d.ok (Rc.Kg asE (eG w os)))=true:=by kernel_rfl
theorem lo2 (w:World) (os:OsState):(fn.map fun d=>He.fnW (Rc.Kg asE (eG w os)) d.at_)=fn.map He.DefD.val:=by kernel_rfl
theorem lp4_0 (w:World) (os:OsState):(xf.all fun x=>x.ok (Rc.Kg asE (eG w os)))=true:=by kernel_rfl
theorem lo3 (w:World) (os:OsState):(xf.all fun x=>x.ok (Rc.Kg asE (eG w os)))=true:=(lp4_0 w os)
theorem lo4 (w:World) (os:OsState):((ts.map fun t=>He.dicW (Rc.Kg asE (eG w os)) (t.1 (Rc.Kg asE (eG w os)))),(ers.map fun d=>Rc.ownV (Rc.Kg asE (eG w os)) (d.ad (Rc.Kg asE (eG w os)))),Rc.tabsB (Rc.Kg asE (eG w os)) (eG w os))=((ts.map fun t=>some (He.keysIn w.params t.2)),ers.map Rc.OwnD.val,true):=by kernel_rfl
theorem l_obs (w:World) (os:OsState):ob (RcCut.endS t_z nEnd boot_drawn kEnd w os)=hk.val w:=Rc.obs_parts (lo1 w os) (lo2 w os) (lo3 w os) (lo4 w os)
theorem left:LeftO RR.prog (view RR.prog [33]) nms (fun s=>xlAt (view RR.prog [33]) [] s&&recOk RR.toRowW.records s) hk.obs hk.val 60000 true :=
  RcCut.left_cut (ob:=ob) ob_eq (by kernel_rfl) (fun s=>by kernel_rfl) rfl size_ok runAll l_looks l_seen l_obs
end K77
end

namespace K77
open PySem PySem.Spec L2 Rc
open PyProof.Rows hiding St
def FT (M:Mir):Prop:=∀ {P:Program} (hP:P=PySem.Challenge.pw_roomofcalls_k77_columns_of_programs) {w:World} {K:PySem.W.Frag} {h:Heap} {mg:Str→Option Value} {f:Addr} (X:K.In h) (G:h.Ns mainGlobals mg) (hfa:mg ("law":Str)=some (.ref f)) (c:SaysF fa xf fn ts ers w K h),∃ fd:FuncData,(∀ (s:Shared) (v:Value),BindsTo s fd ⟨[v],[]⟩ [("_law_script",v)])∧∀ base:Heap,K.In base→base.Ns mainGlobals mg→(∀ p∈(tabsOf K).map (fun p=>(p.1,p.2.1)),LamX.TabB base mg p.1 p.2)→FnOk P w K mg base CX0 8 f fd ["_law_script"] (fun vs H Q E=>spM ⟨K,P,w⟩ 1 M vs H Q (fun _ _ _=>False))
def TT (M:Mir):Prop:=∀ ns:List Int,ns.length≤63→∃ m',M [.kl (ns.map .int)] []=.ok (.bl true) m'
end K77
section
open PySem PySem.W PySem.Calls
open PyProof.Rows hiding St
theorem K77.early (M:Rc.Mir) (F:K77.FT M) (T:K77.TT M):PySem.Challenge.rw_roomofcalls_k77_columns_of_programs.Holds:=by
  w_on;o_law
  refine RcCut.head_cut (r:=OpenLaw.row PySem.Challenge.rw_roomofcalls_k77_columns_of_programs) (q:=view (OpenLaw.row PySem.Challenge.rw_roomofcalls_k77_columns_of_programs).prog [33]) (H:=K77.hk) (loose:=K77.nms) (d:=HandSHeadRun.topDef (OpenLaw.row PySem.Challenge.rw_roomofcalls_k77_columns_of_programs).prog 33) (kwd:=[]) K77.left
    (by kernel_rfl) (by kernel_rfl) (by kernel_rfl) (by rfl) (by first | assumption | decide +kernel) (by decide +kernel) ⟨rfl,rfl,rfl,rfl,rfl,by decide +kernel⟩ ?hw ?hc
  case hw=>w_witness2
  case hc =>
    refine LamX.walk_ofTsE (l:=PySem.Challenge.rw_roomofcalls_k77_columns_of_programs) (n:=63) (k:=8) (x:="_law_script") (CX:=fun _=>L2.CX0) rfl (by decide) (by kernel_rfl) ⟨rfl,by decide,by decide⟩ ?F (fun _ _ _ _ _ z=>z)
    intro w mg fa h Y G hmg0
    obtain ⟨K,KX,c⟩:=Y
    have hmg:mg ("law":PySem.Str)=some (.ref fa):=by
      have e:(HandSHeadRun.topDef (OpenLaw.row PySem.Challenge.rw_roomofcalls_k77_columns_of_programs).prog 33).name=("law":PySem.Str):=by kernel_rfl
      rw [← e]
      exact hmg0
    obtain ⟨fd,hb,hF⟩:=F (P:=(PySem.Challenge.rw_roomofcalls_k77_columns_of_programs).prog) rfl (w:=w) KX G hmg c
    exact ⟨K,KX,Rc.lawAt c.b hb (fun ns hl=>T ns hl) hF⟩
end

set_option maxHeartbeats 1000000
namespace Rc
open PySem PySem.Spec L2
open PyProof.Rows hiding St

structure Tg {X:Type} (x:X):Type where
def R.bd {α β:Type} (r:R α) (k:α→Mem→R β) (_:Tg k:=⟨⟩):R β:=r.bind k
def R.ts {α:Type} (r:R α) (s:Sl) (k:α→Mem→SR) (_:Tg k:=⟨⟩):SR:=r.toS s k
def SR.sq (r:SR) (k:Sl→Mem→SR) (_:Tg k:=⟨⟩):SR:=r.seq k
section
variable {α β:Type}
@[simp] theorem bd_ok (a:α) (m:Mem) (k:α→Mem→R β) (t:Tg k):(R.ok a m).bd k t=k a m:=id rfl
@[simp] theorem bd_exc (c:Str) (ks:List Str) (xs:List MV) (m:Mem) (k:α→Mem→R β) (t:Tg k):(R.exc c ks xs m:R α).bd k t=.exc c ks xs m:=id rfl
@[simp] theorem bd_stuck (k:α→Mem→R β) (t:Tg k):(R.stuck:R α).bd k t=.stuck:=id rfl
@[simp] theorem ts_ok (a:α) (m:Mem) (s:Sl) (k:α→Mem→SR) (t:Tg k):(R.ok a m).ts s k t=k a m:=id rfl
@[simp] theorem ts_exc (c:Str) (ks:List Str) (xs:List MV) (m:Mem) (s:Sl) (k:α→Mem→SR) (t:Tg k):(R.exc c ks xs m:R α).ts s k t=.ex c ks xs s m:=id rfl
@[simp] theorem ts_stuck (s:Sl) (k:α→Mem→SR) (t:Tg k):(R.stuck:R α).ts s k t=.stuck:=id rfl
@[simp] theorem sq_nx (s:Sl) (m:Mem) (k:Sl→Mem→SR) (t:Tg k):(SR.nx s m).sq k t=k s m:=id rfl
@[simp] theorem sq_rt (r:FR) (k:Sl→Mem→SR) (t:Tg k):(SR.rt r).sq k t=.rt r:=id rfl
@[simp] theorem sq_bk (s:Sl) (m:Mem) (k:Sl→Mem→SR) (t:Tg k):(SR.bk s m).sq k t=.bk s m:=id rfl
@[simp] theorem sq_ct (s:Sl) (m:Mem) (k:Sl→Mem→SR) (t:Tg k):(SR.ct s m).sq k t=.ct s m:=id rfl
@[simp] theorem sq_ex (c:Str) (ks:List Str) (xs:List MV) (s:Sl) (m:Mem) (k:Sl→Mem→SR) (t:Tg k):(SR.ex c ks xs s m).sq k t=.ex c ks xs s m:=id rfl
@[simp] theorem sq_stuck (k:Sl→Mem→SR) (t:Tg k):SR.stuck.sq k t=.stuck:=id rfl
@[simp] theorem bd_ite {c:Prop} [Decidable c] (a b:R α) (k:α→Mem→R β) (t:Tg k):(if c then a else b).bd k t=if c then a.bd k t else b.bd k t:=by split <;> rfl
@[simp] theorem ts_ite {c:Prop} [Decidable c] (a b:R α) (s:Sl) (k:α→Mem→SR) (t:Tg k):(if c then a else b).ts s k t=if c then a.ts s k t else b.ts s k t:=by split <;> rfl
@[simp] theorem sq_ite {c:Prop} [Decidable c] (a b:SR) (k:Sl→Mem→SR) (t:Tg k):(if c then a else b).sq k t=if c then a.sq k t else b.sq k t:=by split <;> rfl
end
@[simp] theorem slotR_v (x:MV) (m:Mem):slotR (some (some (.v x))) m=.ok (.v x) m:=id rfl
@[simp] theorem slotR_o (x:MO) (m:Mem):slotR (some (some (.own x))) m=.ok (.b x) m:=id rfl
@[simp] theorem retR_ok (x:MV) (m:Mem):retR (.ok x m)=.ok (.v x) m:=id rfl
@[simp] theorem retR_new (x:MO) (m:Mem):retR (.new x m)=.ok (.v (frz x)) m:=id rfl
@[simp] theorem retR_exc (c:Str) (ks:List Str) (xs:List MV) (m:Mem):retR (.exc c ks xs m)=.exc c ks xs m:=id rfl
@[simp] theorem frz_lst (xs:List MV):frz (.lst xs)=.lst xs:=id rfl
@[simp] theorem frz_dic (ks xs:List MV):frz (.dic ks xs)=.dic ks xs:=id rfl
@[simp] theorem frz_ins (c:Str) (ks:List Str) (xs:List MV):frz (.ins c ks xs)=.ins c ks xs:=id rfl
@[simp] theorem newR_new (x:MO) (m:Mem):newR (.new x m)=.ok (.v (.ref m.length)) (m++[some x]):=id rfl
@[simp] theorem vals_nil:vals []=some []:=id rfl
@[simp] theorem vals_cons (x:MV) (r:List OV):vals (.v x :: r)=(vals r).map (x :: ·):=id rfl
def cvR (ret:FR→R OV) (M:Mir) (o:Option (List MV)) (m:Mem):R OV:=match o with
  | some xs=>ret (M xs m)
  | none=>.stuck
@[simp] theorem cvR_s (ret:FR→R OV) (M:Mir) (xs:List MV) (m:Mem):cvR ret M (some xs) m=ret (M xs m):=id rfl
section
variable (s:Sl) (m:Mem)
@[simp] theorem ev_slot (i:Nat):ev (.slot i) s m=slotR s[i]? m:=id rfl
@[simp] theorem ev_pr (p:Prim) (es:MEs):ev (.pr p es) s m=(evs es s m).bd p.F:=id rfl
@[simp] theorem ev_cmp (p:PrimC) (a b:ME):ev (.cmp p a b) s m=(ev a s m).bd fun x m=>(ev b s m).bd fun y m=>p.F x y m:=id rfl
@[simp] theorem ev_chain (p q:PrimC) (a b c:ME):ev (.chain p q a b c) s m=(ev a s m).bd fun x m=>(ev b s m).bd fun y m=>(p.F x y m).bd fun z m=>(asBl z m).bd fun k m =>
      if k=true then (ev c s m).bd fun w m=>q.F y w m else .ok (.v (.bl false)) m:=id rfl
@[simp] theorem ev_andV (a b:ME):ev (.andV a b) s m=(ev a s m).bd fun x m=>(truR x m).bd fun k m=>if k=true then ev b s m else .ok x m:=id rfl
@[simp] theorem ev_orV (a b:ME):ev (.orV a b) s m=(ev a s m).bd fun x m=>(truR x m).bd fun k m=>if k=true then .ok x m else ev b s m:=id rfl
@[simp] theorem ev_notV (a:ME):ev (.notV a) s m=(ev a s m).bd fun x m=>(truR x m).bd fun k m=>.ok (.v (.bl (!k))) m:=id rfl
@[simp] theorem ev_ite (t:MT) (a b:ME):ev (.ite t a b) s m=(evT t s m).bd fun k m=>if k=true then ev a s m else ev b s m:=id rfl
@[simp] theorem ev_fr (f:MF):ev (.fr f) s m=(evF f s m).bd fun o m=>.ok (.v (frz o)) m:=id rfl
@[simp] theorem ev_nw (f:MF):ev (.nw f) s m=(evF f s m).bd fun o m=>.ok (.v (.ref m.length)) (m++[some o]):=by
  show newO (evF f s m)=_
  cases evF f s m <;> rfl
def bm2 (o:Option Int) (k:Int→R OV) (_:Tg k:=⟨⟩):R OV:=match o with
  | some i=>k i
  | none=>.stuck
@[simp] theorem bm2_s (i:Int) (k:Int→R OV) (t:Tg k):bm2 (some i) k t=k i:=id rfl
@[simp] theorem ev_sl (a b c:ME):ev (.sl a b c) s m=(ev a s m).bd fun x m=>(ev b s m).bd fun y m=>bm2 (intO y) fun k=>(ev c s m).bd fun z m=>slB2 x k z m:=id rfl
def bmR (o:Option (List OV→Mem→R OV)) (r:R (List OV)):R OV:=match o with
  | some f=>r.bd f
  | none=>.stuck
@[simp] theorem bmR_s (f:List OV→Mem→R OV) (r:R (List OV)):bmR (some f) r=r.bd f:=id rfl
@[simp] theorem ev_bm (p:PrimM) (o:ME) (es:MEs):ev (.bm p o es) s m=(ev o s m).bd fun x m=>bmR (p.F x m) (evs es s m):=id rfl
def stR (o:Option (List OV)) (k:List OV→R (List OV)) (_:Tg k:=⟨⟩):R (List OV):=match o with
  | some zs=>k zs
  | none=>.stuck
@[simp] theorem stR_s (zs:List OV) (k:List OV→R (List OV)) (t:Tg k):stR (some zs) k t=k zs:=id rfl
@[simp] theorem starO_f (x:OV):starO false x=some [x]:=id rfl
@[simp] theorem starO_lst (xs:List MV):starO true (.v (.lst xs))=some (xs.map OV.v):=id rfl
@[simp] theorem starO_kl (xs:List MV):starO true (.v (.kl xs))=some (xs.map OV.v):=id rfl
@[simp] theorem starO_tup (xs:List MV):starO true (.v (.tup xs))=some (xs.map OV.v):=id rfl
@[simp] theorem starO_own (xs:List MV):starO true (.b (.lst xs))=some (xs.map OV.v):=id rfl
@[simp] theorem vals_map (xs:List MV):vals (xs.map OV.v)=some xs:=by
  induction xs with
  | nil=>rfl
  | cons x xs ih=>rw [List.map_cons,vals_cons,ih];rfl
@[simp] theorem vals_app (xs:List MV) (r:List OV):vals (xs.map OV.v++r)=(vals r).map (xs++·):=by
  induction xs with
  | nil=>show vals r=_;cases vals r <;> rfl
  | cons x xs ih=>show vals (OV.v x :: (xs.map OV.v++r))=_;rw [vals_cons,ih];cases vals r <;> rfl
@[simp] theorem ev_tryL (p:PrimT) (e:ME):ev (.tryL p e) s m=p.F (ev e s m):=id rfl
@[simp] theorem ev_tryLs (p:PrimTs) (es:MEs):ev (.tryLs p es) s m=p.F ((evL es).map fun f=>f s) m:=id rfl
@[simp] theorem evL_nil:evL .nil=[]:=id rfl
@[simp] theorem evL_cons (e:ME) (es:MEs):evL (.cons e es)=ev e :: evL es:=id rfl
@[simp] theorem ev_pa (p:PrimA) (as:MAs):ev (.pa p as) s m=(evAs as s m).bd p.F:=id rfl
@[simp] theorem evAs_nil:evAs .nil s m=.ok [] m:=id rfl
@[simp] theorem evAs_cons (b:Bool) (e:ME) (as:MAs):evAs (.cons b e as) s m=(ev e s m).bd fun x m=>stR (starO b x) fun zs=>(evAs as s m).bd fun xs m=>.ok (zs++xs) m:=id rfl
@[simp] theorem evs_nil:evs .nil s m=.ok [] m:=id rfl
@[simp] theorem evs_cons (e:ME) (es:MEs):evs (.cons e es) s m=(ev e s m).bd fun x m=>(evs es s m).bd fun xs m=>.ok (x :: xs) m:=id rfl
@[simp] theorem evT_val (e:ME):evT (.val e) s m=(ev e s m).bd fun x m=>truR x m:=id rfl
@[simp] theorem evT_cmp (p:PrimC) (a b:ME):evT (.cmp p a b) s m=(ev a s m).bd fun x m=>(ev b s m).bd fun y m=>(p.F x y m).bd fun z m=>asBl z m:=id rfl
@[simp] theorem evT_chain (p q:PrimC) (a b c:ME):evT (.chain p q a b c) s m=(ev a s m).bd fun x m=>(ev b s m).bd fun y m=>(p.F x y m).bd fun z m=>(asBl z m).bd fun k m =>
      if k=true then (ev c s m).bd fun w m=>(q.F y w m).bd fun z m=>asBl z m else .ok false m:=id rfl
@[simp] theorem evT_and (a b:MT):evT (.and a b) s m=(evT a s m).bd fun k m=>if k=true then evT b s m else .ok false m:=id rfl
@[simp] theorem evT_or (a b:MT):evT (.or a b) s m=(evT a s m).bd fun k m=>if k=true then .ok true m else evT b s m:=id rfl
@[simp] theorem evT_not (a:MT):evT (.not a) s m=(evT a s m).bd fun k m=>.ok (!k) m:=id rfl
@[simp] theorem evF_pr (p:PrimF) (es:MEs):evF (.pr p es) s m=(evs es s m).bd p.F:=id rfl
@[simp] theorem evF_pa (p:PrimFA) (as:MAs):evF (.pa p as) s m=(evAs as s m).bd p.F:=id rfl
@[simp] theorem evF_comp (own:List Nat) (tg:MG) (it:MI) (ifs:MTs) (e:ME):evF (.comp own tg it ifs e) s m=(evI it s m).bd fun w m =>
      (compM (compTurnF own tg (evTs ifs) (ev e) s) w.watch w.items [] m).bd fun ys m=>.ok (.lst ys) m:=id rfl
@[simp] theorem evF_dcomp (own:List Nat) (tg:MG) (it:MI) (ifs:MTs) (k v:ME):evF (.dcomp own tg it ifs k v) s m=(evI it s m).bd fun w m =>
      (dcompM (dcompTurnF own tg (evTs ifs) (ev k) (ev v) s) w.watch w.items [] [] m).bd fun p m=>.ok (.dic p.1 p.2) m:=id rfl
@[simp] theorem evI_pr (p:PrimI) (es:MEs):evI (.pr p es) s m=(evs es s m).bd p.F:=id rfl
@[simp] theorem evTs_nil:evTs .nil s m=.ok true m:=id rfl
@[simp] theorem evTs_one (t:MT):evTs (.one t) s m=evT t s m:=id rfl
@[simp] theorem toV_v (x:MV):toV (.v x) m=.ok x m:=id rfl
@[simp] theorem ex_set (i:Nat) (e:ME):ex (.set i e) s m=(ev e s m).ts s fun x m=>(toV x m).ts s fun x m=>.nx (s.set i (some (.v x))) m:=id rfl
@[simp] theorem ex_setOwn (i:Nat) (f:MF):ex (.setOwn i f) s m=(evF f s m).ts s fun o m=>if i < s.length then .nx (s.set i (some (.own o))) m else .stuck:=id rfl
@[simp] theorem ex_par (i j:Nat) (a b:ME):ex (.par i j a b) s m=(ev a s m).ts s fun x m=>(ev b s m).ts s fun y m=>(toV x m).ts s fun x m=>(toV y m).ts s fun y m=>.nx ((s.set i (some (.v x))).set j (some (.v y))) m:=id rfl
@[simp] theorem ex_par2 (i j:Nat) (f g:MF):ex (.par2 i j f g) s m=(evF f s m).ts s fun x m=>(evF g s m).ts s fun y m=>if i < s.length∧j < s.length∧i≠j then .nx ((s.set i (some (.own x))).set j (some (.own y))) m else .stuck:=id rfl
def nxO (o:Option Sl) (m:Mem):SR:=match o with
  | some s=>.nx s m
  | none=>.stuck
@[simp] theorem nxO_s (s:Sl) (m:Mem):nxO (some s) m=.nx s m:=id rfl
@[simp] theorem ex_tupSet (is:List Nat) (e:ME):ex (.tupSet is e) s m=(ev e s m).ts s fun x m=>(toV x m).ts s fun x m=>nxO (assignG (.tup is) x s) m:=id rfl
@[simp] theorem ex_ifs (t:MT) (a b:MSs):ex (.ifs t a b) s m=(evT t s m).ts s fun k m=>if k=true then exs a s m else exs b s m:=id rfl
@[simp] theorem ex_ret (e:ME):ex (.ret e) s m=(ev e s m).ts s fun x m=>(toV x m).ts s fun x m=>.rt (.ok x m):=id rfl
@[simp] theorem ex_retN:ex .retN s m=.rt (.ok .non m):=id rfl
@[simp] theorem ex_retF (f:MF):ex (.retF f) s m=(evF f s m).ts s fun o m=>.rt (.new o m):=id rfl
def retO (o:Option (Option SV)) (m:Mem):SR:=match o with
    | some (some (.own o))=>.rt (.new o m)
    | _=>.stuck
@[simp] theorem retO_o (o:MO) (m:Mem):retO (some (some (.own o))) m=.rt (.new o m):=id rfl
@[simp] theorem ex_retOwn (i:Nat):ex (.retOwn i) s m=retO s[i]? m:=id rfl
def asR (o:Option Sl) (k:Sl→SR) (_:Tg k:=⟨⟩):SR:=match o with
  | some s=>k s
  | none=>.stuck
@[simp] theorem asR_s (s:Sl) (k:Sl→SR) (t:Tg k):asR (some s) k t=k s:=id rfl
@[simp] theorem turnS_eq (tg:MG) (fb:Sl→Mem→SR) (x:MV):turnS tg fb x s m=asR (assignG tg x s) fun s=>fb s m:=id rfl
@[simp] theorem ex_loop (tg:MG) (it:MI) (body:MSs):ex (.loop tg it body) s m=(evI it s m).ts s fun w m=>forS (turnS tg (exs body)) w.watch w.items s m:=id rfl
@[simp] theorem ex_whil (n:Nat) (t:MT) (body:MSs):ex (.whil n t body) s m=whileS (evT t) (exs body) n s m:=id rfl
@[simp] theorem ex_brk:ex .brk s m=.bk s m:=id rfl
@[simp] theorem ex_cont:ex .cont s m=.ct s m:=id rfl
@[simp] theorem ex_pass:ex .pass s m=.nx s m:=id rfl
@[simp] theorem ex_expr (e:ME):ex (.expr e) s m=(ev e s m).ts s fun _ m=>.nx s m:=id rfl
def preS (b:Bool) (r:SR):SR:=if b=true then r else .stuck
@[simp] theorem preS_t (r:SR):preS true r=r:=id rfl
@[simp] theorem ex_pr (p:PrimS) (es:MEs):ex (.pr p es) s m=preS (p.pre s m) ((evs es s m).ts s fun xs m=>p.F xs s m):=id rfl
@[simp] theorem exs_nil:exs .nil s m=.nx s m:=id rfl
@[simp] theorem exs_cons (a:MS) (r:MSs):exs (.cons a r) s m=(ex a s m).sq fun s m=>exs r s m:=id rfl
def finR (r:SR) (k:Sl→Mem→SR) (_:Tg k:=⟨⟩):SR:=finS r k
def finN (r:SR):SR:=match r with
  | .nx s m=>.nx s m
  | _=>.stuck
def finX (c:Str) (ks:List Str) (xs:List MV) (r:SR):SR:=match r with
  | .nx s m=>.ex c ks xs s m
  | _=>.stuck
@[simp] theorem ex_fin (b f:MSs):ex (.fin b f) s m=finR (exs b s m) fun s m=>exs f s m:=id rfl
@[simp] theorem finR_nx (s:Sl) (m:Mem) (k:Sl→Mem→SR) (t:Tg k):finR (.nx s m) k t=finN (k s m):=id rfl
@[simp] theorem finR_ex (c:Str) (ks:List Str) (xs:List MV) (s:Sl) (m:Mem) (k:Sl→Mem→SR) (t:Tg k):finR (.ex c ks xs s m) k t=finX c ks xs (k s m):=id rfl
@[simp] theorem finN_nx (s:Sl) (m:Mem):finN (.nx s m)=.nx s m:=id rfl
@[simp] theorem finX_nx (c:Str) (ks:List Str) (xs:List MV) (s:Sl) (m:Mem):finX c ks xs (.nx s m)=.ex c ks xs s m:=id rfl
def frzS (o:Option (Option SV)) (k:MO→SR) (_:Tg k:=⟨⟩):SR:=match o with
  | some (some (.own o))=>k o
  | _=>.stuck
@[simp] theorem frzS_o (o:MO) (k:MO→SR) (t:Tg k):frzS (some (some (.own o))) k t=k o:=id rfl
@[simp] theorem exs_frz (i:Nat) (r:MSs):exs (.frz i r) s m=frzS s[i]? fun o=>exs r (s.set i (some (.v (frz o)))) m:=id rfl
end
section
variable (m:Mem) (x y z:OV)
@[simp] theorem F_pNon:pNon.F [] m=.ok (.v .non) m:=id rfl
@[simp] theorem F_pBl (b:Bool):(pBl b).F [] m=.ok (.v (.bl b)) m:=id rfl
@[simp] theorem F_pInt (b:Int):(pInt b).F [] m=.ok (.v (.int b)) m:=id rfl
@[simp] theorem F_pStr (b:Str):(pStr b).F [] m=.ok (.v (.str b)) m:=id rfl
@[simp] theorem F_pGlob (n:Str) (b:MV):(pGlob n b).F [] m=.ok (.v b) m:=id rfl
@[simp] theorem F_add:(pBin .add).F [x,y] m=addO x y m:=id rfl
@[simp] theorem F_sub:(pBin .sub).F [x,y] m=subO x y m:=id rfl
@[simp] theorem F_mul:(pBin .mul).F [x,y] m=mulO x y m:=id rfl
@[simp] theorem F_fdiv:(pBin .fdiv).F [x,y] m=fdivO x y m:=id rfl
@[simp] theorem F_mod:(pBin .mod).F [x,y] m=modO x y m:=id rfl
@[simp] theorem F_pow:(pBin .pow).F [x,y] m=powO x y m:=id rfl
@[simp] theorem F_neg:pNeg.F [x] m=negO x m:=id rfl
@[simp] theorem F_eq:cEq.F x y m=eqO x y m:=id rfl
@[simp] theorem F_ne:cNe.F x y m=neO x y m:=id rfl
@[simp] theorem F_lt:cLt.F x y m=ltO x y m:=id rfl
@[simp] theorem F_le:cLe.F x y m=leO x y m:=id rfl
@[simp] theorem F_gt:cGt.F x y m=gtO x y m:=id rfl
@[simp] theorem F_ge:cGe.F x y m=geO x y m:=id rfl
@[simp] theorem F_is:cIs.F x y m=isO x y m:=id rfl
@[simp] theorem F_isnt:cIsnt.F x y m=isntO x y m:=id rfl
@[simp] theorem F_in:cIn.F x y m=blO m (inB m x y):=id rfl
@[simp] theorem F_notin:cNotin.F x y m=blO m ((inB m x y).map (!·)):=id rfl
def tpR (o:Option (List MV)) (m:Mem):R OV:=match o with
  | some ys=>if ys.length≤sizeLine then .ok (.v (.tup ys)) m else .stuck
  | none=>.stuck
@[simp] theorem tpR_s (ys:List MV) (m:Mem):tpR (some ys) m=if ys.length≤sizeLine then .ok (.v (.tup ys)) m else .stuck:=id rfl
@[simp] theorem F_pTup (xs:List OV):pTup.F xs m=tpR (vals xs) m:=id rfl
def lsR (o:Option (List MV)) (m:Mem):R MO:=match o with
  | some ys=>if ys.length≤sizeLine then .ok (.lst ys) m else .stuck
  | none=>.stuck
@[simp] theorem lsR_s (ys:List MV) (m:Mem):lsR (some ys) m=if ys.length≤sizeLine then .ok (.lst ys) m else .stuck:=id rfl
@[simp] theorem F_fLstS (xs:List OV):fLstS.F xs m=lsR (vals xs) m:=id rfl
@[simp] theorem F_fLst (xs:List OV):fLst.F xs m=lsR (vals xs) m:=id rfl
@[simp] theorem F_pIx:pIx.F [x,y] m=ixF x y m:=id rfl
@[simp] theorem F_pSlL:pSlL.F [x,y] m=slA true x y m:=id rfl
@[simp] theorem F_pSlH:pSlH.F [x,y] m=slA false x y m:=id rfl
@[simp] theorem F_len:pLen.F [x] m=lenO x m:=id rfl
@[simp] theorem F_int:pInt_.F [x] m=intF x m:=id rfl
@[simp] theorem F_abs:pAbs.F [x] m=absF x m:=id rfl
@[simp] theorem F_all:pAll.F [x] m=allF x m:=id rfl
@[simp] theorem F_tuple:pTuple.F [x] m=tupleF x m:=id rfl
@[simp] theorem F_list:fList.F [x] m=toListF x m:=id rfl
@[simp] theorem F_call (F:Fn) (xs:List OV):(pCall F).F xs m=cvR retR F.M (vals xs) m:=id rfl
@[simp] theorem F_callN (F:Fn) (xs:List OV):(pCallN F).F xs m=cvR newR F.M (vals xs) m:=id rfl
@[simp] theorem F_callK (F:Fn) (ks:List Str) (xs:List OV):(pCallK F ks).F xs m=cvR retR (fun ys m=>F.M (spreadV .non F.ps ks ys) m) (vals xs) m:=id rfl
@[simp] theorem F_isi (ts:List Ty) (own:List (Str × List Bool)) (one:Bool):(pIsi ts own one).F [x] m=isiF ts own x m:=id rfl
@[simp] theorem F_fld (cs:List Str) (f:Str):(pFld cs f).F [x] m=fldF cs f x m:=id rfl
@[simp] theorem F_con (c f:Str) (i:Int):(pCon c f i).F [] m=.ok (.v (.int i)) m:=id rfl
@[simp] theorem F_mk (c:Str) (F:Fn) (xs:List OV):(pMk c F).F xs m=mkF c F.M xs m:=id rfl
@[simp] theorem F_join (z:Str):pJoin.F (.v (.str z)) m=some (joinF z):=id rfl
@[simp] theorem F_max2:pMax2.F [x,y] m=max2F x y m:=id rfl
@[simp] theorem max2F_i (i j:Int):max2F (.v (.int i)) (.v (.int j)) m=.ok (.v (.int (if j > i then j else i))) m:=id rfl
@[simp] theorem F_index (xs:List MV):pIndex.F (.v (.lst xs)) m=(strsOf xs).map indexF:=id rfl
def inR (o:Option Nat) (m:Mem):R OV:=match o with
  | some j=>.ok (.v (.int j)) m
  | none=>.stuck
@[simp] theorem inR_s (j:Nat) (m:Mem):inR (some j) m=.ok (.v (.int j)) m:=id rfl
@[simp] theorem indexF_s (zs:List Str) (w:Str):indexF zs [.v (.str w)] m=inR (idxS w zs) m:=id rfl
@[simp] theorem F_seq:iSeq.F [x] m=seqI x m:=id rfl
@[simp] theorem F_range1:iRange1.F [x] m=rng1 x m:=id rfl
@[simp] theorem F_zip:iZip.F [x,y] m=zipI x y m:=id rfl
@[simp] theorem F_enum:iEnum.F [x] m=enumI x m:=id rfl
variable (s:Sl)
@[simp] theorem P_ixRef:sIxRef.pre s m=true:=id rfl
@[simp] theorem P_fld (cs:List Str) (f:Str):(sFldSet cs f).pre s m=true:=id rfl
@[simp] theorem P_app (i:Nat):(sApp i).pre s m=(ownL s i).isSome:=id rfl
def ownL' (o:Option (Option SV)):Option (List MV):=match o with
  | some (some (.own (.lst xs)))=>some xs
  | _=>none
@[simp] theorem ownL_eq (i:Nat):ownL s i=ownL' s[i]?:=id rfl
@[simp] theorem ownL'_o (xs:List MV):ownL' (some (some (.own (.lst xs))))=some xs:=id rfl
def apS (o:Option (List MV)) (i:Nat) (x:MV) (s:Sl) (m:Mem):SR:=match o with
  | some xs=>if xs.length < sizeLine then .nx (s.set i (some (.own (.lst (xs++[x]))))) m else .stuck
  | none=>.stuck
@[simp] theorem apS_s (xs:List MV) (i:Nat) (x:MV) (s:Sl) (m:Mem):apS (some xs) i x s m=if xs.length < sizeLine then .nx (s.set i (some (.own (.lst (xs++[x]))))) m else .stuck:=id rfl
@[simp] theorem F_app (i:Nat) (x:MV):(sApp i).F [.v x] s m=apS (ownL s i) i x s m:=id rfl
def isS (o:Option (List MV)) (n:Nat) (k:Int) (x:MV) (s:Sl) (m:Mem):SR:=match o with
  | some xs=>(match ixN xs.length k with
    | some j=>.nx s (m.set n (some (.lst (xs.set j x))))
    | none=>.stuck)
  | none=>.stuck
def isJ (o:Option Nat) (k:Nat→SR) (_:Tg k:=⟨⟩):SR:=match o with
  | some j=>k j
  | none=>.stuck
@[simp] theorem isJ_s (j:Nat) (k:Nat→SR) (t:Tg k):isJ (some j) k t=k j:=id rfl
@[simp] theorem isS_s (xs:List MV) (n:Nat) (k:Int) (x:MV) (s:Sl) (m:Mem):isS (some xs) n k x s m=isJ (ixN xs.length k) fun j=>.nx s (m.set n (some (.lst (xs.set j x)))):=id rfl
@[simp] theorem F_ixRef (x:MV) (n:Nat) (k:Int):sIxRef.F [.v x,.v (.ref n),.v (.int k)] s m=isS (memL m n) n k x s m:=id rfl
end
section
variable (m:Mem)
@[simp] theorem addO_i (i j:Int):addO (.v (.int i)) (.v (.int j)) m=.ok (.v (.int (i + j))) m:=id rfl
@[simp] theorem addO_s (x y:Str):addO (.v (.str x)) (.v (.str y)) m=if x.length + y.length≤sizeLine then .ok (.v (.str (x++y))) m else .stuck:=id rfl
@[simp] theorem addO_t (xs ys:List MV):addO (.v (.tup xs)) (.v (.tup ys)) m=if xs.length + ys.length≤sizeLine then .ok (.v (.tup (xs++ys))) m else .stuck:=id rfl
@[simp] theorem addO_l (xs ys:List MV):addO (.v (.lst xs)) (.v (.lst ys)) m=if xs.length + ys.length≤sizeLine then .ok (.v (.lst (xs++ys))) m else .stuck:=id rfl
@[simp] theorem subO_i (i j:Int):subO (.v (.int i)) (.v (.int j)) m=.ok (.v (.int (i - j))) m:=id rfl
@[simp] theorem mulO_t (xs:List MV) (k:Int):mulO (.v (.tup xs)) (.v (.int k)) m=if -1000≤k∧k≤1000∧xs.length≤1000∧xs≠[] then .ok (.v (.tup (List.replicate k.toNat xs).flatten)) m else .stuck:=id rfl
@[simp] theorem mulO_i (i j:Int):mulO (.v (.int i)) (.v (.int j)) m=if (-(2 ^ 64) < i∧i < 2 ^ 64)∨(-(2 ^ 64) < j∧j < 2 ^ 64) then .ok (.v (.int (i * j))) m else .stuck:=id rfl
theorem fdivO_i (i j:Int):fdivO (.v (.int i)) (.v (.int j)) m=if 0 < j∧j.natAbs.log2 < 9000 then .ok (.v (.int (i / j))) m else .stuck:=rfl
@[simp] theorem fdivO_64 (i j:Int) (h:0 < j∧j < 2 ^ 64):fdivO (.v (.int i)) (.v (.int j)) m=.ok (.v (.int (i / j))) m:=by
  rw [fdivO_i,if_pos]
  refine ⟨h.1,?_⟩
  have h3:j.natAbs < 2 ^ 64:=by omega
  have:=Nat.log2_lt (n:=j.natAbs) (k:=64) (by omega) |>.mpr h3
  omega
@[simp] theorem modO_i (i j:Int):modO (.v (.int i)) (.v (.int j)) m=if 0 < j then .ok (.v (.int (i % j))) m else .stuck:=id rfl
@[simp] theorem powO_i (i j:Int):powO (.v (.int i)) (.v (.int j)) m=if 0≤j∧j≤1000000∧i.natAbs < 2 ^ 64 then .ok (.v (.int (i ^ j.toNat))) m else .stuck:=id rfl
@[simp] theorem negO_i (i:Int):negO (.v (.int i)) m=.ok (.v (.int (-i))) m:=id rfl
@[simp] theorem blO_s (b:Bool):blO m (some b)=.ok (.v (.bl b)) m:=id rfl
@[simp] theorem ltO_i (i j:Int):ltO (.v (.int i)) (.v (.int j)) m=.ok (.v (.bl (decide (i < j)))) m:=id rfl
@[simp] theorem leO_i (i j:Int):leO (.v (.int i)) (.v (.int j)) m=.ok (.v (.bl (decide (i≤j)))) m:=id rfl
@[simp] theorem gtO_i (i j:Int):gtO (.v (.int i)) (.v (.int j)) m=.ok (.v (.bl (decide (j < i)))) m:=id rfl
@[simp] theorem geO_i (i j:Int):geO (.v (.int i)) (.v (.int j)) m=.ok (.v (.bl (decide (j≤i)))) m:=id rfl
@[simp] theorem isO_n (a:OV):isO a (.v .non) m=.ok (.v (.bl (isN a))) m:=id rfl
@[simp] theorem isntO_n (a:OV):isntO a (.v .non) m=.ok (.v (.bl (!isN a))) m:=id rfl
@[simp] theorem asBl_b (b:Bool):asBl (.v (.bl b)) m=.ok b m:=id rfl
@[simp] theorem isN_n:isN (.v .non)=true:=id rfl
@[simp] theorem isN_i (i:Int):isN (.v (.int i))=false:=id rfl
@[simp] theorem isN_s (i:Str):isN (.v (.str i))=false:=id rfl
@[simp] theorem isN_b (i:Bool):isN (.v (.bl i))=false:=id rfl
@[simp] theorem isN_l (i:List MV):isN (.v (.lst i))=false:=id rfl
@[simp] theorem isN_t (i:List MV):isN (.v (.tup i))=false:=id rfl
@[simp] theorem Dat_nonS (n:Nat):Dat n .non:=Dat_non n
@[simp] theorem Dat_blS (n:Nat) (b:Bool):Dat n (.bl b):=Dat_bl n b
@[simp] theorem Dat_intS (n:Nat) (b:Int):Dat n (.int b):=Dat_int n b
@[simp] theorem Dat_strS (n:Nat) (b:Str):Dat n (.str b):=Dat_str n b
@[simp] theorem derf_non:derf m (.v .non)=.non:=id rfl
@[simp] theorem derf_bl (b:Bool):derf m (.v (.bl b))=.bl b:=id rfl
@[simp] theorem derf_int (b:Int):derf m (.v (.int b))=.int b:=id rfl
@[simp] theorem derf_str (b:Str):derf m (.v (.str b))=.str b:=id rfl
@[simp] theorem derf_tup (b:List MV):derf m (.v (.tup b))=.tup b:=id rfl
@[simp] theorem derf_lst (b:List MV):derf m (.v (.lst b))=.lst b:=id rfl
@[simp] theorem derf_b (b:List MV):derf m (.b (.lst b))=.lst b:=id rfl
theorem eqB_ii (i j:Int):eqB (.int i) (.int j)=decide (i=j):=by
  simp only [eqB,toD,PyData.eqv];rw [Bool.eq_iff_iff];simp
theorem eqB_ss (i j:Str):eqB (.str i) (.str j)=decide (i=j):=by
  simp only [eqB,toD,PyData.eqv];rw [Bool.eq_iff_iff];simp
theorem eqB_bb (i j:Bool):eqB (.bl i) (.bl j)=(i == j):=by simp only [eqB,toD,PyData.eqv]
theorem eqB_ll (xs ys:List MV):eqB (.lst xs) (.lst ys)=eqBs xs ys:=by simp only [eqB,eqBs,toD,PyData.eqv]
theorem eqO_v (x y:MV) (h1:Dat 64 x) (h2:Dat 64 y) (a b:OV) (e1:derf m a=x) (e2:derf m b=y):eqO a b m=.ok (.v (.bl (eqB x y))) m:=by
  unfold eqO eqD
  rw [e1,e2,if_pos ⟨h1,h2⟩];rfl
theorem neO_v (x y:MV) (h1:Dat 64 x) (h2:Dat 64 y) (a b:OV) (e1:derf m a=x) (e2:derf m b=y):neO a b m=.ok (.v (.bl (!(eqB x y)))) m:=by
  unfold neO eqD
  rw [e1,e2,if_pos ⟨h1,h2⟩]
@[simp] theorem eqO_ii (i j:Int):eqO (.v (.int i)) (.v (.int j)) m=.ok (.v (.bl (decide (i=j)))) m:=by
  rw [eqO_v m (.int i) (.int j) (Dat_int _ _) (Dat_int _ _) _ _ rfl rfl,eqB_ii]
@[simp] theorem eqO_ss (i j:Str):eqO (.v (.str i)) (.v (.str j)) m=.ok (.v (.bl (decide (i=j)))) m:=by
  rw [eqO_v m (.str i) (.str j) (Dat_str _ _) (Dat_str _ _) _ _ rfl rfl,eqB_ss]
@[simp] theorem eqO_bb (i j:Bool):eqO (.v (.bl i)) (.v (.bl j)) m=.ok (.v (.bl (i == j))) m:=by
  rw [eqO_v m (.bl i) (.bl j) (Dat_bl _ _) (Dat_bl _ _) _ _ rfl rfl,eqB_bb]
@[simp] theorem neO_ii (i j:Int):neO (.v (.int i)) (.v (.int j)) m=.ok (.v (.bl (!decide (i=j)))) m:=by
  rw [neO_v m (.int i) (.int j) (Dat_int _ _) (Dat_int _ _) _ _ rfl rfl,eqB_ii]
@[simp] theorem neO_ss (i j:Str):neO (.v (.str i)) (.v (.str j)) m=.ok (.v (.bl (!decide (i=j)))) m:=by
  rw [neO_v m (.str i) (.str j) (Dat_str _ _) (Dat_str _ _) _ _ rfl rfl,eqB_ss]
@[simp] theorem neO_bb (i j:Bool):neO (.v (.bl i)) (.v (.bl j)) m=.ok (.v (.bl (!(i == j)))) m:=by
  rw [neO_v m (.bl i) (.bl j) (Dat_bl _ _) (Dat_bl _ _) _ _ rfl rfl,eqB_bb]
theorem inB_l {a b:OV} {x:MV} {xs:List MV} (e:derf m a=x) (hd:dicO m b=none) (hc:contO m b=some (.l xs)) (h1:Dat 64 x) (h2:∀ y∈xs,Dat 64 y):inB m a b=some (xs.any fun y=>eqB y x):=by
  unfold inB
  rw [hd,hc,e]
  dsimp only
  rw [if_pos ⟨h1,h2⟩]
theorem inB_t {a b:OV} {x:MV} {xs:List MV} (e:derf m a=x) (hd:dicO m b=none) (hc:contO m b=some (.t xs)) (h1:Dat 64 x) (h2:∀ y∈xs,Dat 64 y):inB m a b=some (xs.any fun y=>eqB y x):=by
  unfold inB
  rw [hd,hc,e]
  dsimp only
  rw [if_pos ⟨h1,h2⟩]
theorem any_str (z:Str):∀ zs:List Str,((zs.map MV.str).any fun y=>eqB y (.str z))=decide (z∈zs)
  | []=>by simp
  | y :: zs=>by
    rw [List.map_cons,List.any_cons,any_str z zs,eqB_ss]
    by_cases h:y=z
    · subst h;simp
    · have h2:¬ z=y:=fun q=>h q.symm
      simp [h,h2]
@[simp] theorem inB_strs (z:Str) (zs:List Str):inB m (.v (.str z)) (.v (.lst (zs.map .str)))=some (decide (z∈zs)):=by
  rw [inB_l m (x:=.str z) (xs:=zs.map .str) rfl rfl rfl (Dat_str _ _) (fun y hy=>by
    obtain ⟨w,_,rfl⟩:=List.mem_map.mp hy
    exact Dat_str _ _),any_str]
@[simp] theorem inB_strsB (z:Str) (zs:List Str):inB m (.v (.str z)) (.b (.lst (zs.map .str)))=some (decide (z∈zs)):=by
  rw [inB_l m (x:=.str z) (xs:=zs.map .str) rfl rfl rfl (Dat_str _ _) (fun y hy=>by
    obtain ⟨w,_,rfl⟩:=List.mem_map.mp hy
    exact Dat_str _ _),any_str]
@[simp] theorem inB_strsT (z:Str) (zs:List Str):inB m (.v (.str z)) (.v (.tup (zs.map .str)))=some (decide (z∈zs)):=by
  rw [inB_t m (x:=.str z) (xs:=zs.map .str) rfl rfl rfl (Dat_str _ _) (fun y hy=>by
    obtain ⟨w,_,rfl⟩:=List.mem_map.mp hy
    exact Dat_str _ _),any_str]
@[simp] theorem inB_sign (c:Nat) (z:Str):inB m (.v (.str ⟨#[c]⟩)) (.v (.str z))=some (decide (c∈z.cps.toList)):=id rfl
@[simp] theorem memL_z (xs:List MV) (r:Mem):memL (some (.lst xs) :: r) 0=some xs:=id rfl
@[simp] theorem memL_s (o:Option MO) (r:Mem) (n:Nat):memL (o :: r) (n + 1)=memL r n:=by simp [memL]
def ixL (o:Option MV) (m:Mem):R OV:=match o with
  | some x=>.ok (.v x) m
  | none=>.stuck
@[simp] theorem ixL_s (x:MV):ixL (some x) m=.ok (.v x) m:=id rfl
@[simp] theorem ixL_n:ixL none m=.stuck:=id rfl
@[simp] theorem ixF_lst (xs:List MV) (k:Int):ixF (.v (.lst xs)) (.v (.int k)) m=ixL (atI xs k) m:=id rfl
@[simp] theorem ixF_kl (xs:List MV) (k:Int):ixF (.v (.kl xs)) (.v (.int k)) m=ixL (atI xs k) m:=id rfl
@[simp] theorem ixF_tup (xs:List MV) (k:Int):ixF (.v (.tup xs)) (.v (.int k)) m=ixL (atI xs k) m:=id rfl
@[simp] theorem ixF_b (xs:List MV) (k:Int):ixF (.b (.lst xs)) (.v (.int k)) m=ixL (atI xs k) m:=id rfl
@[simp] theorem ixF_str (z:Str) (k:Int):ixF (.v (.str z)) (.v (.int k)) m=if z.length≤sizeLine then ixL ((atI z.cps.toList k).map fun c=>.str ⟨#[c]⟩) m else .stuck:=by
  show (if z.length≤sizeLine then (match atI z.cps.toList k with
      | some c=>R.ok (OV.v (.str ⟨#[c]⟩)) m
      | none=>.stuck) else .stuck)=_
  cases atI z.cps.toList k <;> rfl
theorem ixF_ref (n:Nat) (xs:List MV) (k:Int) (h:memL m n=some xs):ixF (.v (.ref n)) (.v (.int k)) m=ixL (atI xs k) m:=by
  have hd:dicO m (.v (.ref n))=none:=by
    unfold dicO
    dsimp only
    rw [memL_eq h]
  have hc:contO m (.v (.ref n))=some (.l xs):=by
    show (memL m n).map Sq.l=_
    rw [h];rfl
  unfold ixF
  rw [hd]
  dsimp only
  rw [hc]
  rfl
@[simp] theorem ixF_ref0 (xs:List MV) (k:Int) (r:Mem):ixF (.v (.ref 0)) (.v (.int k)) (some (.lst xs) :: r)=ixL (atI xs k) (some (.lst xs) :: r):=ixF_ref _ 0 xs k rfl
theorem atI_nat {α:Type} (xs:List α) (n:Nat):atI xs (n:Int)=xs[n]?:=by
  unfold atI ixN
  by_cases h:n < xs.length
  · simp [h]
  · simp [h,List.getElem?_eq_none (Nat.not_lt.mp h)]
@[simp] theorem atI_cast {α:Type} (xs:List α) (n:Nat):atI xs (n:Int)=xs[n]?:=atI_nat xs n
@[simp] theorem atI_lit {α:Type} (xs:List α) (n:Nat):atI xs (no_index (OfNat.ofNat n):Int)=xs[n]?:=atI_nat xs n
theorem atI_pos {α:Type} {xs:List α} {i:Int} (h:0≤i) (h2:i.toNat < xs.length):atI xs i=some xs[i.toNat]:=by
  have e:((i.toNat:Nat):Int)=i:=Int.toNat_of_nonneg h
  have:=atI_nat xs i.toNat
  rw [e] at this
  rw [this,List.getElem?_eq_getElem h2]
@[simp] theorem ixN_lit (k n:Nat):ixN k (no_index (OfNat.ofNat n):Int)=if n < k then some n else none:=by
  show ixN k ((n:Nat):Int)=_
  unfold ixN
  simp
@[simp] theorem ixN_cast (k n:Nat):ixN k (n:Int)=if n < k then some n else none:=by
  unfold ixN
  simp
@[simp] theorem lenO_lst (xs:List MV):lenO (.v (.lst xs)) m=.ok (.v (.int xs.length)) m:=id rfl
@[simp] theorem lenO_kl (xs:List MV):lenO (.v (.kl xs)) m=.ok (.v (.int xs.length)) m:=id rfl
@[simp] theorem lenO_tup (xs:List MV):lenO (.v (.tup xs)) m=.ok (.v (.int xs.length)) m:=id rfl
@[simp] theorem lenO_b (xs:List MV):lenO (.b (.lst xs)) m=.ok (.v (.int xs.length)) m:=id rfl
@[simp] theorem lenO_str (z:Str):lenO (.v (.str z)) m=if z.length≤sizeLine then .ok (.v (.int z.length)) m else .stuck:=id rfl
@[simp] theorem intF_i (i:Int):intF (.v (.int i)) m=.ok (.v (.int i)) m:=id rfl
@[simp] theorem absF_i (i:Int):absF (.v (.int i)) m=.ok (.v (.int (if i < 0 then -i else i))) m:=id rfl
def allR (f:List Bool→Bool) (o:Option (List Bool)) (m:Mem):R OV:=match o with
  | some bs=>.ok (.v (.bl (f bs))) m
  | none=>.stuck
@[simp] theorem allR_s (f:List Bool→Bool) (bs:List Bool):allR f (some bs) m=.ok (.v (.bl (f bs))) m:=id rfl
@[simp] theorem allF_l (xs:List MV):allF (.v (.lst xs)) m=allR (·.all id) (blsM xs) m:=id rfl
@[simp] theorem tupleF_l (xs:List MV):tupleF (.v (.lst xs)) m=.ok (.v (.tup xs)) m:=id rfl
@[simp] theorem tupleF_t (xs:List MV):tupleF (.v (.tup xs)) m=.ok (.v (.tup xs)) m:=id rfl
@[simp] theorem tupleF_b (xs:List MV):tupleF (.b (.lst xs)) m=.ok (.v (.tup xs)) m:=id rfl
@[simp] theorem toListF_l (xs:List MV):toListF (.v (.lst xs)) m=.ok (.lst xs) m:=id rfl
@[simp] theorem toListF_k (xs:List MV):toListF (.v (.kl xs)) m=.ok (.lst xs) m:=id rfl
@[simp] theorem toListF_t (xs:List MV):toListF (.v (.tup xs)) m=.ok (.lst xs) m:=id rfl
@[simp] theorem toListF_b (xs:List MV):toListF (.b (.lst xs)) m=.ok (.lst xs) m:=id rfl
@[simp] theorem intO_i (i:Int):intO (.v (.int i))=some i:=id rfl
@[simp] theorem slA_t (x:OV) (i:Int):slA true x (.v (.int i)) m=slF x (some i) none m:=id rfl
@[simp] theorem slA_f (x:OV) (i:Int):slA false x (.v (.int i)) m=slF x none (some i) m:=id rfl
@[simp] theorem slB2_i (x:OV) (k i:Int):slB2 x k (.v (.int i)) m=slF x (some k) (some i) m:=id rfl
@[simp] theorem slF_l (xs:List MV) (lo hi:Option Int):slF (.v (.lst xs)) lo hi m=.ok (.v (.lst (cutM xs lo hi))) m:=id rfl
@[simp] theorem slF_k (xs:List MV) (lo hi:Option Int):slF (.v (.kl xs)) lo hi m=.ok (.v (.lst (cutM xs lo hi))) m:=id rfl
@[simp] theorem slF_t (xs:List MV) (lo hi:Option Int):slF (.v (.tup xs)) lo hi m=.ok (.v (.tup (cutM xs lo hi))) m:=id rfl
@[simp] theorem slF_s (z:Str) (lo hi:Option Int):slF (.v (.str z)) lo hi m=if z.length≤sizeLine then .ok (.v (.str (cutS z lo hi))) m else .stuck:=id rfl
theorem cutM_take (xs:List MV) (k:Nat):cutM xs none (some (k:Int))=xs.take k:=by
  unfold cutM
  rw [HT.sIx_none,HT.sIx_nat]
  simp only [List.drop_zero,Nat.sub_zero]
  by_cases h:k≤xs.length
  · rw [Nat.min_eq_left h]
  · rw [Nat.min_eq_right (by omega),List.take_of_length_le (Nat.le_refl _),List.take_of_length_le (by omega)]
@[simp] theorem cutM_lit (xs:List MV) (k:Nat):cutM xs none (some (no_index (OfNat.ofNat k):Int))=xs.take k:=cutM_take xs k
@[simp] theorem cutM_cast (xs:List MV) (k:Nat):cutM xs none (some (k:Int))=xs.take k:=cutM_take xs k
@[simp] theorem seqI_l (xs:List MV):seqI (.v (.lst xs)) m=.ok ⟨xs,[]⟩ m:=id rfl
@[simp] theorem seqI_k (xs:List MV):seqI (.v (.kl xs)) m=.ok ⟨xs,[]⟩ m:=id rfl
@[simp] theorem seqI_t (xs:List MV):seqI (.v (.tup xs)) m=.ok ⟨xs,[]⟩ m:=id rfl
@[simp] theorem seqI_s (z:Str):seqI (.v (.str z)) m=.ok ⟨signs z,[]⟩ m:=id rfl
@[simp] theorem rng1_i (j:Int):rng1 (.v (.int j)) m=if -(2 ^ 62)≤j∧j < 2 ^ 62 then .ok ⟨rangeM 0 j.toNat,[]⟩ m else .stuck:=id rfl
@[simp] theorem zipI_ll (xs ys:List MV):zipI (.v (.lst xs)) (.v (.lst ys)) m=.ok ⟨zipM xs ys,[]⟩ m:=id rfl
@[simp] theorem zipI_lt (xs ys:List MV):zipI (.v (.lst xs)) (.v (.tup ys)) m=.ok ⟨zipM xs ys,[]⟩ m:=id rfl
@[simp] theorem zipI_tl (xs ys:List MV):zipI (.v (.tup xs)) (.v (.lst ys)) m=.ok ⟨zipM xs ys,[]⟩ m:=id rfl
@[simp] theorem zipI_tt (xs ys:List MV):zipI (.v (.tup xs)) (.v (.tup ys)) m=.ok ⟨zipM xs ys,[]⟩ m:=id rfl
@[simp] theorem enumI_l (xs:List MV):enumI (.v (.lst xs)) m=.ok ⟨enumM xs,[]⟩ m:=id rfl
@[simp] theorem enumI_t (xs:List MV):enumI (.v (.tup xs)) m=.ok ⟨enumM xs,[]⟩ m:=id rfl
@[simp] theorem truR_n:truR (.v .non) m=.ok false m:=id rfl
@[simp] theorem truR_b (b:Bool):truR (.v (.bl b)) m=.ok b m:=id rfl
@[simp] theorem truR_i (b:Int):truR (.v (.int b)) m=.ok (b != 0) m:=id rfl
@[simp] theorem truR_l (xs:List MV):truR (.v (.lst xs)) m=.ok (!xs.isEmpty) m:=id rfl
@[simp] theorem truR_t (xs:List MV):truR (.v (.tup xs)) m=.ok (!xs.isEmpty) m:=id rfl
@[simp] theorem assignG_n (i:Nat) (x:MV) (s:Sl):assignG (.name i) x s=some (s.set i (some (.v x))):=id rfl
@[simp] theorem assignG_t (is:List Nat) (xs:List MV) (s:Sl):assignG (.tup is) (.tup xs) s=setAll s is xs:=id rfl
@[simp] theorem assignG_l (is:List Nat) (xs:List MV) (s:Sl):assignG (.tup is) (.lst xs) s=setAll s is xs:=id rfl
@[simp] theorem setAll_n (s:Sl):setAll s [] []=some s:=id rfl
@[simp] theorem setAll_c (s:Sl) (i:Nat) (is:List Nat) (x:MV) (xs:List MV):setAll s (i :: is) (x :: xs)=setAll (s.set i (some (.v x))) is xs:=id rfl
@[simp] theorem wipeS_n (s:Sl):wipeS s []=s:=id rfl
@[simp] theorem wipeS_c (s:Sl) (v:Nat) (vs:List Nat):wipeS s (v :: vs)=(wipeS s vs).set v none:=id rfl
def isiR (o:Option (List Bool)) (m:Mem):R OV:=match o with
  | some bs=>.ok (.v (.bl (bs.any id))) m
  | none=>.stuck
@[simp] theorem isiR_s (bs:List Bool):isiR (some bs) m=.ok (.v (.bl (bs.any id))) m:=id rfl
section
variable (ts:List Ty) (own:List (Str × List Bool))
@[simp] theorem isiF_n:isiF ts own (.v .non) m=isiR (ansT ts own (.b "NoneType")) m:=id rfl
@[simp] theorem isiF_b (b:Bool):isiF ts own (.v (.bl b)) m=isiR (ansT ts own (.b "bool")) m:=id rfl
@[simp] theorem isiF_i (b:Int):isiF ts own (.v (.int b)) m=isiR (ansT ts own (.b "int")) m:=id rfl
@[simp] theorem isiF_s (b:Str):isiF ts own (.v (.str b)) m=isiR (ansT ts own (.b "str")) m:=id rfl
@[simp] theorem isiF_t (b:List MV):isiF ts own (.v (.tup b)) m=isiR (ansT ts own (.b "tuple")) m:=id rfl
@[simp] theorem isiF_l (b:List MV):isiF ts own (.v (.lst b)) m=isiR (ansT ts own (.b "list")) m:=id rfl
@[simp] theorem isiF_d (a b:List MV):isiF ts own (.v (.dic a b)) m=isiR (ansT ts own (.b "dict")) m:=id rfl
@[simp] theorem isiF_x (c:Str) (ks:List Str) (b:List MV):isiF ts own (.v (.ins c ks b)) m=isiR (ansT ts own (.own c)) m:=id rfl
@[simp] theorem ansT_b (s:String):ansT ts own (.b s)=some (ts.map fun t=>match t with
    | .b u=>isiT s u
    | .own _=>false):=id rfl
@[simp] theorem ansT_o (s:Str):ansT ts own (.own s)=own.lookup s:=id rfl
@[simp] theorem isiT_eq (a b:String):isiT a b=(a == b || (a == "bool"&&b == "int")):=id rfl
end
end
def asC {α:Type} (o:Option Sl) (k:Sl→R α) (_:Tg k:=⟨⟩):R α:=match o with
  | some s=>k s
  | none=>.stuck
@[simp] theorem asC_s {α:Type} (s:Sl) (k:Sl→R α) (t:Tg k):asC (some s) k t=k s:=id rfl
def vlR (y:OV) (m:Mem):R (Option MV):=match valO y with
    | some y=>.ok (some y) m
    | none=>.stuck
@[simp] theorem vlR_v (y:MV) (m:Mem):vlR (.v y) m=.ok (some y) m:=id rfl
@[simp] theorem compTurnF_eq (own:List Nat) (tg:MG) (ft:Sl→Mem→R Bool) (fe:Sl→Mem→R OV) (s:Sl) (x:MV) (m:Mem):compTurnF own tg ft fe s x m=asC (assignG tg x (wipeS s own)) fun s2=>(ft s2 m).bd fun k m=>if k=true then (fe s2 m).bd fun y m=>vlR y m else .ok none m:=id rfl
def vl2 (y z:OV) (m:Mem):R (Option (MV × MV)):=match valO y,valO z with
    | some y,some z=>.ok (some (y,z)) m
    | _,_=>.stuck
@[simp] theorem vl2_v (y z:MV) (m:Mem):vl2 (.v y) (.v z) m=.ok (some (y,z)) m:=id rfl
@[simp] theorem dcompTurnF_eq (own:List Nat) (tg:MG) (ft:Sl→Mem→R Bool) (fk fv:Sl→Mem→R OV) (s:Sl) (x:MV) (m:Mem):dcompTurnF own tg ft fk fv s x m=asC (assignG tg x (wipeS s own)) fun s2=>(ft s2 m).bd fun k m=>if k=true then (fk s2 m).bd fun y m=>(fv s2 m).bd fun z m=>vl2 y z m else .ok none m:=id rfl
theorem compM_filter {f:MV→Mem→R (Option MV)} {h:MV→Option MV} {m:Mem}:∀ {xs acc:List MV},(∀ x∈xs,f x m=.ok (h x) m)→acc.length + xs.length≤sizeLine→compM f [] xs acc m=.ok (acc++xs.filterMap h) m
  | [],acc,_,_=>by unfold compM;rw [if_pos (OkW_nil m)];simp
  | x :: xs,acc,hf,hl=>by
    rw [compM_cons,if_pos (OkW_nil m),hf x List.mem_cons_self]
    rw [List.length_cons] at hl
    cases e:h x with
    | none =>
      show compM f [] xs acc m=_
      rw [compM_filter (fun y hy=>hf y (List.mem_cons_of_mem _ hy)) (by omega),List.filterMap_cons_none e]
    | some y =>
      show (if acc.length < sizeLine then compM f [] xs (acc++[y]) m else .stuck)=_
      rw [if_pos (by omega),compM_filter (fun y hy=>hf y (List.mem_cons_of_mem _ hy)) (by simp;omega),List.filterMap_cons_some e]
      simp
theorem compM_map {f:MV→Mem→R (Option MV)} {h:MV→MV} {m:Mem} {xs acc:List MV} (hf:∀ x∈xs,f x m=.ok (some (h x)) m) (hl:acc.length + xs.length≤sizeLine):compM f [] xs acc m=.ok (acc++xs.map h) m:=by
  rw [compM_filter (h:=fun x=>some (h x)) hf hl]
  have e:xs.filterMap (fun x=>some (h x))=xs.map h:=by
    clear hf hl
    induction xs with
    | nil=>rfl
    | cons x xs ih=>simp
  rw [e]
theorem compM_inv {f:MV→Mem→R (Option MV)} (J:Mem→Prop) (P:MV→Prop):∀ {xs acc:List MV} {m:Mem},(∀ x∈xs,∀ m,J m→∃ y m',f x m=.ok (some y) m'∧J m'∧P y)→J m→acc.length + xs.length≤sizeLine →
    ∃ ys m',compM f [] xs acc m=.ok (acc++ys) m'∧J m'∧(∀ y∈ys,P y)∧ys.length=xs.length
  | [],acc,m,_,hm,_=>⟨[],m,by unfold compM;rw [if_pos (OkW_nil m)];simp,hm,(fun _ h=>by cases h),rfl⟩
  | x :: xs,acc,m,hf,hm,hl=>by
    obtain ⟨y,m1,e,h1,h2⟩:=hf x List.mem_cons_self m hm
    rw [List.length_cons] at hl
    obtain ⟨ys,m2,e2,h3,h4,h5⟩:=compM_inv J P (xs:=xs) (acc:=acc++[y]) (fun z hz=>hf z (List.mem_cons_of_mem _ hz)) h1 (by simp;omega)
    refine ⟨y :: ys,m2,?_,h3,fun z hz=>?_,by simp [h5]⟩
    · rw [compM_cons,if_pos (OkW_nil m),e]
      show (if acc.length < sizeLine then compM f [] xs (acc++[y]) m1 else .stuck)=_
      rw [if_pos (by omega),e2]
      simp
    · rcases List.mem_cons.mp hz with rfl | hz
      · exact h2
      · exact h4 z hz
theorem forS_nilE {f:MV→Sl→Mem→SR} {s:Sl} {m:Mem}:forS f [] [] s m=.nx s m:=by unfold forS;rw [if_pos (OkW_nil m)]
theorem forS_consE {f:MV→Sl→Mem→SR} {x:MV} {xs:List MV} {s:Sl} {m:Mem}:forS f [] (x :: xs) s m=match f x s m with
    | .nx s m=>forS f [] xs s m
    | .ct s m=>forS f [] xs s m
    | .bk s m=>.nx s m
    | .rt r=>.rt r
    | .ex c ks ys s m=>.ex c ks ys s m
    | .stuck=>.stuck:=by
  rw [forS_cons,if_pos (OkW_nil m)]
  all_goals (cases f x s m <;> rfl)
theorem forS_inv {f:MV→Sl→Mem→SR} (I:Sl→Mem→Prop):∀ {xs:List MV} {s:Sl} {m:Mem},(∀ x∈xs,∀ s m,I s m→∃ s' m',f x s m=.nx s' m'∧I s' m')→I s m→∃ s' m',forS f [] xs s m=.nx s' m'∧I s' m'
  | [],s,m,_,h=>⟨s,m,forS_nilE,h⟩
  | x :: xs,s,m,hf,h=>by
    obtain ⟨s1,m1,e,h1⟩:=hf x List.mem_cons_self s m h
    obtain ⟨s2,m2,e2,h2⟩:=forS_inv I (fun y hy=>hf y (List.mem_cons_of_mem _ hy)) h1
    refine ⟨s2,m2,?_,h2⟩
    rw [forS_consE,e]
    exact e2
theorem forS_ix {f:MV→Sl→Mem→SR} (I:Nat→Sl→Mem→Prop):∀ {xs:List MV} {s:Sl} {m:Mem} (k:Nat),(∀ i x,xs[i]? = some x→∀ s m,I (k + i) s m→∃ s' m',f x s m=.nx s' m'∧I (k + i + 1) s' m')→I k s m→∃ s' m',forS f [] xs s m=.nx s' m'∧I (k + xs.length) s' m'
  | [],s,m,k,_,h=>⟨s,m,forS_nilE,h⟩
  | x :: xs,s,m,k,hf,h=>by
    obtain ⟨s1,m1,e,h1⟩:=hf 0 x rfl s m h
    obtain ⟨s2,m2,e2,h2⟩:=forS_ix I (k + 1) (fun i y hy s m q=>by
      have:=hf (i + 1) y (by simpa using hy) s m (by rw [show k + (i + 1)=k + 1 + i from by omega];exact q)
      rw [show k + (i + 1) + 1=k + 1 + i + 1 from by omega] at this
      exact this) h1
    refine ⟨s2,m2,?_,?_⟩
    · rw [forS_consE,e];exact e2
    · rw [List.length_cons,show k + (xs.length + 1)=k + 1 + xs.length from by omega];exact h2
def runR (r:SR):FR:=match r with
  | .nx _ m=>.ok .non m
  | .rt (.ok x m)=>.ok x m
  | .rt (.new o m)=>.new o m
  | .ex c ks xs _ m=>.exc c ks xs m
  | _=>.stuck
@[simp] theorem runR_rt (x:MV) (m:Mem):runR (.rt (.ok x m))=.ok x m:=id rfl
@[simp] theorem runR_rn (x:MO) (m:Mem):runR (.rt (.new x m))=.new x m:=id rfl
@[simp] theorem runR_nx (s:Sl) (m:Mem):runR (.nx s m)=.ok .non m:=id rfl
@[simp] theorem runR_ex (c:Str) (ks:List Str) (xs:List MV) (s:Sl) (m:Mem):runR (.ex c ks xs s m)=.exc c ks xs m:=id rfl
@[simp] theorem runR_ite {c:Prop} [Decidable c] (a b:SR):runR (if c then a else b)=if c then runR a else runR b:=by split <;> rfl
theorem runD_eq (n:Nat) (B:MSs) (as:List MV) (m:Mem):runD n B as m=runR (exs B (as.map (fun x=>some (SV.v x))++List.replicate (n - as.length) none) m):=rfl
theorem blsM_map {α:Type} (f:α→Bool) (xs:List α):blsM (xs.map fun x=>MV.bl (f x))=some (xs.map f):=by
  induction xs with
  | nil=>rfl
  | cons x xs ih=>simp [blsM,ih]
theorem strsOf_map (xs:List Str):strsOf (xs.map MV.str)=some xs:=by
  induction xs with
  | nil=>rfl
  | cons x xs ih=>simp [strsOf,ih]
end Rc

set_option maxHeartbeats 2000000
namespace Rc
open PySem PySem.Spec L2
open PyProof.Rows hiding St
section
variable {X:Cx}
end
end Rc

set_option maxHeartbeats 1000000
namespace Rp
open PySem PySem.Spec L2 Rc
open PyProof.Rows hiding St

def N_law_open:List Str:=["_law_script","_law_mixed","_law_cell"]
def B_law_open:MSs:=(.cons (.set 1 (.pr (pInt 49310) .nil)) (.cons (.loop (.name 2) (.pr iSeq (.cons (.pr pSlH (.cons (.slot 0) (.cons (.pr (pInt 63) .nil) .nil))) .nil)) (.cons (.set 1 (.pr (pBin .mod) (.cons (.pr pInt_ (.cons (.pr (pBin .add) (.cons (.pr (pBin .add) (.cons (.pr (pBin .mul) (.cons (.slot 1) (.cons (.pr (pInt 50021) .nil) .nil))) (.cons (.pr (pBin .mul) (.cons (.pr (pBin .mod) (.cons (.pr pInt_ (.cons (.slot 2) .nil)) (.cons (.pr (pInt 1000211) .nil) .nil))) (.cons (.pr (pInt 883) .nil) .nil))) .nil))) (.cons (.pr (pInt 31) .nil) .nil))) .nil)) (.cons (.pr (pInt 2147483587) .nil) .nil)))) .nil)) (.cons (.retF (.pr fLst (.cons (.fr (.pr fList (.cons (.pr pSlH (.cons (.slot 0) (.cons (.pr (pInt 63) .nil) .nil))) .nil))) (.cons (.pr (pInt 0) .nil) (.cons (.pr (pInt 0) .nil) (.cons (.slot 1) (.cons (.pr (pInt 0) .nil) .nil))))))) .nil)))
def M_law_open:Mir:=runD 3 B_law_open
def F_law_open:Fn:=⟨"_law_open",["_law_script"],M_law_open⟩
@[simp] theorem FM_law_open:F_law_open.M=M_law_open:=id rfl
@[simp] theorem FP_law_open:F_law_open.ps=(["_law_script"]:List Str):=id rfl
def N_law_draw:List Str:=["_law_bag","_law_sides","_law_seed","_law_step","_law_cell","_law_digit","_law_small"]
def B_law_draw:MSs:=(.cons (.pr sIxRef (.cons (.pr (pBin .add) (.cons (.pr pIx (.cons (.slot 0) (.cons (.pr (pInt 4) .nil) .nil))) (.cons (.pr (pInt 1) .nil) .nil))) (.cons (.slot 0) (.cons (.pr (pInt 4) .nil) .nil)))) (.cons (.ifs (.and (.cmp cEq (.pr pIx (.cons (.slot 0) (.cons (.pr (pInt 2) .nil) .nil))) (.pr (pInt 0) .nil)) (.cmp cLt (.pr pIx (.cons (.slot 0) (.cons (.pr (pInt 1) .nil) .nil))) (.pr pLen (.cons (.pr pIx (.cons (.slot 0) (.cons (.pr (pInt 0) .nil) .nil))) .nil)))) (.cons (.set 4 (.pr pIx (.cons (.pr pIx (.cons (.slot 0) (.cons (.pr (pInt 0) .nil) .nil))) (.cons (.pr pIx (.cons (.slot 0) (.cons (.pr (pInt 1) .nil) .nil))) .nil)))) (.cons (.pr sIxRef (.cons (.pr (pBin .add) (.cons (.pr pIx (.cons (.slot 0) (.cons (.pr (pInt 1) .nil) .nil))) (.cons (.pr (pInt 1) .nil) .nil))) (.cons (.slot 0) (.cons (.pr (pInt 1) .nil) .nil)))) (.cons (.ifs (.cmp cGe (.pr pAbs (.cons (.slot 4) .nil)) (.pr (pBin .pow) (.cons (.pr (pInt 10) .nil) (.cons (.pr (pInt 18) .nil) .nil)))) (.cons (.pr sIxRef (.cons (.pr pAbs (.cons (.slot 4) .nil)) (.cons (.slot 0) (.cons (.pr (pInt 2) .nil) .nil)))) .nil) (.cons (.set 6 (.pr (pBin .add) (.cons (.pr (pBin .mul) (.cons (.pr (pBin .mod) (.cons (.pr pInt_ (.cons (.slot 4) .nil)) (.cons (.pr (pInt 1000211) .nil) .nil))) (.cons (.pr (pInt 761) .nil) .nil))) (.cons (.pr (pInt 43) .nil) .nil)))) (.cons (.pr sIxRef (.cons (.pr (pBin .mod) (.cons (.pr pInt_ (.cons (.pr (pBin .add) (.cons (.pr (pBin .mul) (.cons (.pr pIx (.cons (.slot 0) (.cons (.pr (pInt 3) .nil) .nil))) (.cons (.pr (pInt 41521) .nil) .nil))) (.cons (.slot 6) .nil))) .nil)) (.cons (.pr (pInt 2147483629) .nil) .nil))) (.cons (.slot 0) (.cons (.pr (pInt 3) .nil) .nil)))) .nil))) .nil))) .nil) (.cons (.ifs (.cmp cGt (.pr pIx (.cons (.slot 0) (.cons (.pr (pInt 2) .nil) .nil))) (.pr (pInt 0) .nil)) (.cons (.set 5 (.pr (pBin .mod) (.cons (.pr pInt_ (.cons (.pr pIx (.cons (.slot 0) (.cons (.pr (pInt 2) .nil) .nil))) .nil)) (.cons (.slot 1) .nil)))) (.cons (.pr sIxRef (.cons (.pr (pBin .fdiv) (.cons (.pr pIx (.cons (.slot 0) (.cons (.pr (pInt 2) .nil) .nil))) (.cons (.slot 1) .nil))) (.cons (.slot 0) (.cons (.pr (pInt 2) .nil) .nil)))) (.cons (.ret (.slot 5)) .nil))) .nil) (.cons (.set 2 (.pr pIx (.cons (.slot 0) (.cons (.pr (pInt 3) .nil) .nil)))) (.cons (.set 3 (.pr (pBin .add) (.cons (.pr (pBin .add) (.cons (.pr (pBin .mul) (.cons (.slot 2) (.cons (.pr (pInt 47713) .nil) .nil))) (.cons (.pr (pBin .mul) (.cons (.pr pIx (.cons (.slot 0) (.cons (.pr (pInt 4) .nil) .nil))) (.cons (.pr (pInt 110017) .nil) .nil))) .nil))) (.cons (.pr (pInt 60013) .nil) .nil)))) (.cons (.pr sIxRef (.cons (.pr (pBin .mod) (.cons (.pr pInt_ (.cons (.pr (pBin .add) (.cons (.pr (pBin .mul) (.cons (.pr (pBin .mul) (.cons (.slot 2) (.cons (.slot 2) .nil))) (.cons (.pr (pInt 13) .nil) .nil))) (.cons (.slot 3) .nil))) .nil)) (.cons (.pr (pInt 2147483587) .nil) .nil))) (.cons (.slot 0) (.cons (.pr (pInt 3) .nil) .nil)))) (.cons (.ret (.pr (pBin .mod) (.cons (.pr pInt_ (.cons (.pr (pBin .add) (.cons (.pr (pBin .fdiv) (.cons (.pr pIx (.cons (.slot 0) (.cons (.pr (pInt 3) .nil) .nil))) (.cons (.pr (pInt 71) .nil) .nil))) (.cons (.pr (pBin .mul) (.cons (.pr (pBin .mod) (.cons (.pr pInt_ (.cons (.pr pIx (.cons (.slot 0) (.cons (.pr (pInt 3) .nil) .nil))) .nil)) (.cons (.pr (pInt 8017) .nil) .nil))) (.cons (.pr (pInt 59) .nil) .nil))) .nil))) .nil)) (.cons (.slot 1) .nil)))) .nil)))))))
def M_law_draw:Mir:=runD 7 B_law_draw
def F_law_draw:Fn:=⟨"_law_draw",["_law_bag","_law_sides"],M_law_draw⟩
@[simp] theorem FM_law_draw:F_law_draw.M=M_law_draw:=id rfl
@[simp] theorem FP_law_draw:F_law_draw.ps=(["_law_bag","_law_sides"]:List Str):=id rfl
def N_law_of:List Str:=["_law_bag","_law_things"]
def B_law_of:MSs:=(.cons (.ret (.pr pIx (.cons (.slot 1) (.cons (.pr (pCall F_law_draw) (.cons (.slot 0) (.cons (.pr pLen (.cons (.slot 1) .nil)) .nil))) .nil)))) .nil)
def M_law_of:Mir:=runD 2 B_law_of
def F_law_of:Fn:=⟨"_law_of",["_law_bag","_law_things"],M_law_of⟩
@[simp] theorem FM_law_of:F_law_of.M=M_law_of:=id rfl
@[simp] theorem FP_law_of:F_law_of.ps=(["_law_bag","_law_things"]:List Str):=id rfl
def N_law_new_names:List Str:=["_law_bag","_law_count","_law_letters","_law_stem","_law_at","_law_first","_law_k"]
def B_law_new_names:MSs:=(.cons (.set 2 (.pr (pStr "abcdefghijklmnopqrstuvwxyz") .nil)) (.cons (.set 3 (.bm pJoin (.pr (pStr "") .nil) (.cons (.fr (.comp [6] (.name 6) (.pr iRange1 (.cons (.pr (pCall F_law_of) (.cons (.slot 0) (.cons (.fr (.pr fLst (.cons (.pr (pInt 0) .nil) (.cons (.pr (pInt 1) .nil) (.cons (.pr (pInt 2) .nil) (.cons (.pr (pInt 5) .nil) .nil)))))) .nil))) .nil)) .nil (.pr (pCall F_law_of) (.cons (.slot 0) (.cons (.slot 2) .nil))))) .nil))) (.cons (.tupSet [4,5] (.pr pTup (.cons (.pr (pCall F_law_draw) (.cons (.slot 0) (.cons (.pr (pBin .add) (.cons (.pr pLen (.cons (.slot 3) .nil)) (.cons (.pr (pInt 1) .nil) .nil))) .nil))) (.cons (.pr (pCall F_law_draw) (.cons (.slot 0) (.cons (.pr (pInt 26) .nil) .nil))) .nil)))) (.cons (.retF (.comp [6] (.name 6) (.pr iRange1 (.cons (.slot 1) .nil)) .nil (.pr (pBin .add) (.cons (.pr (pBin .add) (.cons (.pr pSlH (.cons (.slot 3) (.cons (.slot 4) .nil))) (.cons (.pr pIx (.cons (.slot 2) (.cons (.pr (pBin .mod) (.cons (.pr pInt_ (.cons (.pr (pBin .add) (.cons (.slot 5) (.cons (.pr (pBin .mul) (.cons (.pr (pInt 5) .nil) (.cons (.slot 6) .nil))) .nil))) .nil)) (.cons (.pr (pInt 26) .nil) .nil))) .nil))) .nil))) (.cons (.pr pSlL (.cons (.slot 3) (.cons (.slot 4) .nil))) .nil))))) .nil))))
def M_law_new_names:Mir:=runD 7 B_law_new_names
def F_law_new_names:Fn:=⟨"_law_new_names",["_law_bag","_law_count"],M_law_new_names⟩
@[simp] theorem FM_law_new_names:F_law_new_names.M=M_law_new_names:=id rfl
@[simp] theorem FP_law_new_names:F_law_new_names.ps=(["_law_bag","_law_count"]:List Str):=id rfl
def N_law_words:List Str:=["_law_bag","_law_count","_law_one"]
def B_law_words:MSs:=(.cons (.retF (.comp [2] (.name 2) (.pr iSeq (.cons (.pr (pCall F_law_new_names) (.cons (.slot 0) (.cons (.slot 1) .nil))) .nil)) .nil (.ite (.cmp cIn (.slot 2) (.fr (.pr fLst (.cons (.pr (pStr "quiet") .nil) (.cons (.pr (pStr "noise") .nil) .nil))))) (.pr pSlH (.cons (.slot 2) (.cons (.pr (pInt 4) .nil) .nil))) (.slot 2)))) .nil)
def M_law_words:Mir:=runD 3 B_law_words
def F_law_words:Fn:=⟨"_law_words",["_law_bag","_law_count"],M_law_words⟩
@[simp] theorem FM_law_words:F_law_words.M=M_law_words:=id rfl
@[simp] theorem FP_law_words:F_law_words.ps=(["_law_bag","_law_count"]:List Str):=id rfl
def N_is_list:List Str:=["value"]
def B_is_list:MSs:=(.cons (.ret (.pr (pIsi [.b "list",.b "tuple"] [] false) (.cons (.slot 0) .nil))) .nil)
def M_is_list:Mir:=runD 1 B_is_list
def F_is_list:Fn:=⟨"is_list",["value"],M_is_list⟩
@[simp] theorem FM_is_list:F_is_list.M=M_is_list:=id rfl
@[simp] theorem FP_is_list:F_is_list.ps=(["value"]:List Str):=id rfl
def N_first_fault:List Str:=["values","fitting","most","at","value"]
def B_first_fault:MSs:=(.cons (.loop (.tup [3,4]) (.pr iEnum (.cons (.slot 0) .nil)) (.cons (.ifs (.or (.cmp cGe (.slot 3) (.slot 2)) (.or (.not (.val (.pr pIx (.cons (.slot 1) (.cons (.slot 3) .nil))))) (.cmp cIn (.slot 4) (.pr pSlH (.cons (.slot 0) (.cons (.slot 3) .nil)))))) (.cons (.ret (.slot 3)) .nil) .nil) .nil)) (.cons (.ret (.pr pNon .nil)) .nil))
def M_first_fault:Mir:=runD 5 B_first_fault
def F_first_fault:Fn:=⟨"first_fault",["values","fitting","most"],M_first_fault⟩
@[simp] theorem FM_first_fault:F_first_fault.M=M_first_fault:=id rfl
@[simp] theorem FP_first_fault:F_first_fault.ps=(["values","fitting","most"]:List Str):=id rfl
def N_is_name:List Str:=["value","sign"]
def B_is_name:MSs:=(.cons (.ifs (.or (.not (.val (.pr (pIsi [.b "str"] [] true) (.cons (.slot 0) .nil)))) (.not (.chain cLe cLe (.pr (pInt 1) .nil) (.pr pLen (.cons (.slot 0) .nil)) (.pr (pInt 6) .nil)))) (.cons (.ret (.pr (pBl false) .nil)) .nil) .nil) (.cons (.ret (.pr pAll (.cons (.fr (.comp [1] (.name 1) (.pr iSeq (.cons (.slot 0) .nil)) .nil (.cmp cIn (.slot 1) (.pr (pGlob "LETTERS" (.str "abcdefghijklmnopqrstuvwxyz")) .nil)))) .nil))) .nil))
def M_is_name:Mir:=runD 2 B_is_name
def F_is_name:Fn:=⟨"is_name",["value"],M_is_name⟩
@[simp] theorem FM_is_name:F_is_name.M=M_is_name:=id rfl
@[simp] theorem FP_is_name:F_is_name.ps=(["value"]:List Str):=id rfl
def N_is_word:List Str:=["value"]
def B_is_word:MSs:=(.cons (.ret (.andV (.pr (pCall F_is_name) (.cons (.slot 0) .nil)) (.cmp cNotin (.slot 0) (.pr pTup (.cons (.pr (pStr "quiet") .nil) (.cons (.pr (pStr "noise") .nil) .nil)))))) .nil)
def M_is_word:Mir:=runD 1 B_is_word
def F_is_word:Fn:=⟨"is_word",["value"],M_is_word⟩
@[simp] theorem FM_is_word:F_is_word.M=M_is_word:=id rfl
@[simp] theorem FP_is_word:F_is_word.ps=(["value"]:List Str):=id rfl
def N_check_words:List Str:=["words","fault","word"]
def B_check_words:MSs:=(.cons (.set 1 (.ite (.val (.pr (pCall F_is_list) (.cons (.slot 0) .nil))) (.pr (pCall F_first_fault) (.cons (.slot 0) (.cons (.fr (.comp [2] (.name 2) (.pr iSeq (.cons (.slot 0) .nil)) .nil (.pr (pCall F_is_word) (.cons (.slot 2) .nil)))) (.cons (.pr (pCon "Program" "MOST_WORDS" 2) .nil) .nil)))) (.pr pNeg (.cons (.pr (pInt 1) .nil) .nil)))) (.cons (.ifs (.cmp cIsnt (.slot 1) (.pr pNon .nil)) (.cons (.pr (sRaise "InvalidWords" "at" "at" "InvalidWords") (.cons (.slot 1) .nil)) .nil) .nil) .nil))
def M_check_words:Mir:=runD 3 B_check_words
def F_check_words:Fn:=⟨"check_words",["words"],M_check_words⟩
@[simp] theorem FM_check_words:F_check_words.M=M_check_words:=id rfl
@[simp] theorem FP_check_words:F_check_words.ps=(["words"]:List Str):=id rfl
def N_check_orders:List Str:=["orders","fault","order"]
def B_check_orders:MSs:=(.cons (.ifs (.or (.not (.val (.pr (pCall F_is_list) (.cons (.slot 0) .nil)))) (.cmp cEq (.pr pLen (.cons (.slot 0) .nil)) (.pr (pInt 0) .nil))) (.cons (.pr (sRaise "InvalidOrders" "at" "at" "InvalidOrders") (.cons (.pr pNeg (.cons (.pr (pInt 1) .nil) .nil)) .nil)) .nil) .nil) (.cons (.set 1 (.pr (pCall F_first_fault) (.cons (.slot 0) (.cons (.fr (.comp [2] (.name 2) (.pr iSeq (.cons (.slot 0) .nil)) .nil (.pr (pCall F_is_name) (.cons (.slot 2) .nil)))) (.cons (.pr (pCon "Program" "MOST_ORDERS" 3) .nil) .nil))))) (.cons (.ifs (.cmp cIsnt (.slot 1) (.pr pNon .nil)) (.cons (.pr (sRaise "InvalidOrders" "at" "at" "InvalidOrders") (.cons (.slot 1) .nil)) .nil) .nil) .nil)))
def M_check_orders:Mir:=runD 3 B_check_orders
def F_check_orders:Fn:=⟨"check_orders",["orders"],M_check_orders⟩
@[simp] theorem FM_check_orders:F_check_orders.M=M_check_orders:=id rfl
@[simp] theorem FP_check_orders:F_check_orders.ps=(["orders"]:List Str):=id rfl
def N_is_mode:List Str:=["value","words","orders","name","call","rows","row"]
def B_is_mode:MSs:=(.cons (.ifs (.or (.not (.val (.pr (pIsi [.b "tuple"] [] true) (.cons (.slot 0) .nil)))) (.or (.cmp cNe (.pr pLen (.cons (.slot 0) .nil)) (.pr (pInt 3) .nil)) (.not (.val (.pr (pCall F_is_name) (.cons (.pr pIx (.cons (.slot 0) (.cons (.pr (pInt 0) .nil) .nil))) .nil)))))) (.cons (.ret (.pr (pBl false) .nil)) .nil) .nil) (.cons (.tupSet [3,4,5] (.slot 0)) (.cons (.ifs (.or (.not (.val (.pr (pIsi [.b "str"] [] true) (.cons (.slot 4) .nil)))) (.and (.cmp cNe (.slot 4) (.pr (pStr "") .nil)) (.cmp cNotin (.slot 4) (.slot 1)))) (.cons (.ret (.pr (pBl false) .nil)) .nil) .nil) (.cons (.ifs (.or (.not (.val (.pr (pIsi [.b "tuple"] [] true) (.cons (.slot 5) .nil)))) (.cmp cNe (.pr pLen (.cons (.slot 5) .nil)) (.pr pLen (.cons (.slot 2) .nil)))) (.cons (.ret (.pr (pBl false) .nil)) .nil) .nil) (.cons (.ret (.pr pAll (.cons (.fr (.comp [6] (.name 6) (.pr iSeq (.cons (.slot 5) .nil)) .nil (.andV (.pr (pIsi [.b "tuple"] [] true) (.cons (.slot 6) .nil)) (.cmp cEq (.pr pLen (.cons (.slot 6) .nil)) (.pr (pBin .add) (.cons (.pr pLen (.cons (.slot 1) .nil)) (.cons (.pr (pInt 2) .nil) .nil))))))) .nil))) .nil)))))
def M_is_mode:Mir:=runD 7 B_is_mode
def F_is_mode:Fn:=⟨"is_mode",["value","words","orders"],M_is_mode⟩
@[simp] theorem FM_is_mode:F_is_mode.M=M_is_mode:=id rfl
@[simp] theorem FP_is_mode:F_is_mode.ps=(["value","words","orders"]:List Str):=id rfl
def N_check_modes:List Str:=["modes","words","orders","names","at","mode","name","call","rows","row","goal"]
def B_check_modes:MSs:=(.cons (.ifs (.or (.not (.val (.pr (pCall F_is_list) (.cons (.slot 0) .nil)))) (.cmp cEq (.pr pLen (.cons (.slot 0) .nil)) (.pr (pInt 0) .nil))) (.cons (.pr (sRaise "InvalidModes" "at" "at" "InvalidModes") (.cons (.pr pNeg (.cons (.pr (pInt 1) .nil) .nil)) .nil)) .nil) .nil) (.cons (.setOwn 3 (.pr fLst .nil)) (.cons (.loop (.tup [4,5]) (.pr iEnum (.cons (.slot 0) .nil)) (.cons (.ifs (.or (.cmp cGe (.slot 4) (.pr (pCon "Program" "MOST_MODES" 5) .nil)) (.or (.not (.val (.pr (pCall F_is_mode) (.cons (.slot 5) (.cons (.slot 1) (.cons (.slot 2) .nil)))))) (.cmp cIn (.pr pIx (.cons (.slot 5) (.cons (.pr (pInt 0) .nil) .nil))) (.slot 3)))) (.cons (.pr (sRaise "InvalidModes" "at" "at" "InvalidModes") (.cons (.slot 4) .nil)) .nil) .nil) (.cons (.pr (sApp 3) (.cons (.pr pIx (.cons (.slot 5) (.cons (.pr (pInt 0) .nil) .nil))) .nil)) .nil))) (.frz 3 (.cons (.loop (.tup [6,7,8]) (.pr iSeq (.cons (.slot 0) .nil)) (.cons (.loop (.name 9) (.pr iSeq (.cons (.slot 8) .nil)) (.cons (.loop (.name 10) (.pr iSeq (.cons (.slot 9) .nil)) (.cons (.ifs (.cmp cNotin (.slot 10) (.slot 3)) (.cons (.pr (sRaise "UnknownMode" "given" "given" "UnknownMode") (.cons (.slot 10) .nil)) .nil) .nil) .nil)) .nil)) .nil)) .nil)))))
def M_check_modes:Mir:=runD 11 B_check_modes
def F_check_modes:Fn:=⟨"check_modes",["modes","words","orders"],M_check_modes⟩
@[simp] theorem FM_check_modes:F_check_modes.M=M_check_modes:=id rfl
@[simp] theorem FP_check_modes:F_check_modes.ps=(["modes","words","orders"]:List Str):=id rfl
def N_check_starts:List Str:=["starts","names","fault","start"]
def B_check_starts:MSs:=(.cons (.ifs (.or (.not (.val (.pr (pCall F_is_list) (.cons (.slot 0) .nil)))) (.cmp cEq (.pr pLen (.cons (.slot 0) .nil)) (.pr (pInt 0) .nil))) (.cons (.pr (sRaise "InvalidStarts" "at" "at" "InvalidStarts") (.cons (.pr pNeg (.cons (.pr (pInt 1) .nil) .nil)) .nil)) .nil) .nil) (.cons (.set 2 (.pr (pCall F_first_fault) (.cons (.slot 0) (.cons (.fr (.comp [3] (.name 3) (.pr iSeq (.cons (.slot 0) .nil)) .nil (.cmp cIn (.slot 3) (.slot 1)))) (.cons (.pr (pBin .add) (.cons (.pr pLen (.cons (.slot 1) .nil)) (.cons (.pr (pInt 1) .nil) .nil))) .nil))))) (.cons (.ifs (.cmp cIsnt (.slot 2) (.pr pNon .nil)) (.cons (.pr (sRaise "InvalidStarts" "at" "at" "InvalidStarts") (.cons (.slot 2) .nil)) .nil) .nil) .nil)))
def M_check_starts:Mir:=runD 4 B_check_starts
def F_check_starts:Fn:=⟨"check_starts",["starts","names"],M_check_starts⟩
@[simp] theorem FM_check_starts:F_check_starts.M=M_check_starts:=id rfl
@[simp] theorem FP_check_starts:F_check_starts.ps=(["starts","names"]:List Str):=id rfl
def N_Program___init__:List Str:=["self","words","orders","modes","starts","names","mode","name","at"]
def B_Program___init__:MSs:=(.cons (.expr (.pr (pCall F_check_words) (.cons (.slot 1) .nil))) (.cons (.expr (.pr (pCall F_check_orders) (.cons (.slot 2) .nil))) (.cons (.expr (.pr (pCall F_check_modes) (.cons (.slot 3) (.cons (.slot 1) (.cons (.slot 2) .nil))))) (.cons (.set 5 (.fr (.comp [6] (.name 6) (.pr iSeq (.cons (.slot 3) .nil)) .nil (.pr pIx (.cons (.slot 6) (.cons (.pr (pInt 0) .nil) .nil)))))) (.cons (.expr (.pr (pCall F_check_starts) (.cons (.slot 4) (.cons (.slot 5) .nil)))) (.cons (.pr (sFldSet ["Program"] "own_words") (.cons (.fr (.pr fList (.cons (.slot 1) .nil))) (.cons (.slot 0) .nil))) (.cons (.pr (sFldSet ["Program"] "own_orders") (.cons (.fr (.pr fList (.cons (.slot 2) .nil))) (.cons (.slot 0) .nil))) (.cons (.pr (sFldSet ["Program"] "own_modes") (.cons (.fr (.pr fList (.cons (.slot 3) .nil))) (.cons (.slot 0) .nil))) (.cons (.pr (sFldSet ["Program"] "own_starts") (.cons (.fr (.comp [7] (.name 7) (.pr iSeq (.cons (.slot 5) .nil)) (.one (.cmp cIn (.slot 7) (.slot 4))) (.slot 7))) (.cons (.slot 0) .nil))) (.cons (.pr (sFldSet ["Program"] "own_names") (.cons (.slot 5) (.cons (.slot 0) .nil))) (.cons (.pr (sFldSet ["Program"] "places") (.cons (.fr (.dcomp [8,7] (.tup [8,7]) (.pr iEnum (.cons (.slot 5) .nil)) .nil (.slot 7) (.slot 8))) (.cons (.slot 0) .nil))) .nil)))))))))))
def M_Program___init__:Mir:=runD 9 B_Program___init__
def F_Program___init__:Fn:=⟨"__init__",["self","words","orders","modes","starts"],M_Program___init__⟩
@[simp] theorem FM_Program___init__:F_Program___init__.M=M_Program___init__:=id rfl
@[simp] theorem FP_Program___init__:F_Program___init__.ps=(["self","words","orders","modes","starts"]:List Str):=id rfl
def N_law_same:List Str:=["_law_found","_law_due","_law_a","_law_b"]
def B_law_same (F:Fn):MSs:=(.cons (.ifs (.or (.cmp cIs (.slot 1) (.pr pNon .nil)) (.cmp cIs (.slot 0) (.pr pNon .nil))) (.cons (.ret (.andV (.cmp cIs (.slot 1) (.pr pNon .nil)) (.cmp cIs (.slot 0) (.pr pNon .nil)))) .nil) .nil) (.cons (.ifs (.val (.pr (pIsi [.b "list",.b "tuple"] [] false) (.cons (.slot 1) .nil))) (.cons (.ifs (.or (.cmp cNe (.pr (pIsi [.b "list"] [] true) (.cons (.slot 0) .nil)) (.pr (pIsi [.b "list"] [] true) (.cons (.slot 1) .nil))) (.cmp cNe (.pr (pIsi [.b "tuple"] [] true) (.cons (.slot 0) .nil)) (.pr (pIsi [.b "tuple"] [] true) (.cons (.slot 1) .nil)))) (.cons (.ret (.pr (pBl false) .nil)) .nil) .nil) (.cons (.ret (.andV (.cmp cEq (.pr pLen (.cons (.slot 0) .nil)) (.pr pLen (.cons (.slot 1) .nil))) (.pr pAll (.cons (.fr (.comp [2,3] (.tup [2,3]) (.pr iZip (.cons (.slot 0) (.cons (.slot 1) .nil))) .nil (.pr (pCall (F)) (.cons (.slot 2) (.cons (.slot 3) .nil))))) .nil)))) .nil)) .nil) (.cons (.ifs (.or (.cmp cNe (.pr (pIsi [.b "bool"] [] true) (.cons (.slot 1) .nil)) (.pr (pIsi [.b "bool"] [] true) (.cons (.slot 0) .nil))) (.cmp cNe (.pr (pIsi [.b "int"] [] true) (.cons (.slot 1) .nil)) (.pr (pIsi [.b "int"] [] true) (.cons (.slot 0) .nil)))) (.cons (.ret (.pr (pBl false) .nil)) .nil) .nil) (.cons (.ret (.andV (.cmp cEq (.pr (pIsi [.b "str"] [] true) (.cons (.slot 1) .nil)) (.pr (pIsi [.b "str"] [] true) (.cons (.slot 0) .nil))) (.cmp cEq (.slot 0) (.slot 1)))) .nil))))
def M_law_same:Nat→Mir
  | 0=>fun _ _=>.stuck
  | n + 1=>runD 4 (B_law_same ⟨"_law_same",["_law_found","_law_due"],M_law_same n⟩)
def F_law_same (n:Nat):Fn:=⟨"_law_same",["_law_found","_law_due"],M_law_same n⟩
@[simp] theorem FM_law_same (n:Nat):(F_law_same n).M=M_law_same n:=id rfl
@[simp] theorem FP_law_same (n:Nat):(F_law_same n).ps=(["_law_found","_law_due"]:List Str):=id rfl
def N_law_draw_spec:List Str:=["_law_bag","_law_top_words","_law_top_orders","_law_top_modes","_law_words_z","_law_orders_z","_law_names","_law_found","_law_own","_law_first","_law_call","_law_lines","_law_k"]
def B_law_draw_spec:MSs:=(.cons (.set 4 (.pr (pCall F_law_words) (.cons (.slot 0) (.cons (.pr (pCall F_law_draw) (.cons (.slot 0) (.cons (.pr (pBin .add) (.cons (.slot 1) (.cons (.pr (pInt 1) .nil) .nil))) .nil))) .nil)))) (.cons (.set 5 (.pr (pCall F_law_new_names) (.cons (.slot 0) (.cons (.pr (pBin .add) (.cons (.pr (pInt 1) .nil) (.cons (.pr (pCall F_law_draw) (.cons (.slot 0) (.cons (.slot 2) .nil))) .nil))) .nil)))) (.cons (.set 6 (.pr (pCall F_law_new_names) (.cons (.slot 0) (.cons (.pr (pBin .add) (.cons (.pr (pInt 1) .nil) (.cons (.pr (pCall F_law_draw) (.cons (.slot 0) (.cons (.slot 3) .nil))) .nil))) .nil)))) (.cons (.setOwn 7 (.pr fLst .nil)) (.cons (.loop (.name 8) (.pr iSeq (.cons (.slot 6) .nil)) (.cons (.set 10 (.pr (pCall F_law_of) (.cons (.slot 0) (.cons (.pr (pBin .add) (.cons (.pr (pBin .add) (.cons (.fr (.pr fLst (.cons (.pr (pStr "") .nil) (.cons (.pr (pStr "") .nil) .nil)))) (.cons (.slot 4) .nil))) (.cons (.slot 4) .nil))) .nil)))) (.cons (.set 11 (.fr (.comp [12] (.name 12) (.pr iRange1 (.cons (.pr pLen (.cons (.slot 5) .nil)) .nil)) .nil (.pr pTuple (.cons (.fr (.comp [12] (.name 12) (.pr iRange1 (.cons (.pr (pBin .add) (.cons (.pr pLen (.cons (.slot 4) .nil)) (.cons (.pr (pInt 2) .nil) .nil))) .nil)) .nil (.pr (pCall F_law_of) (.cons (.slot 0) (.cons (.slot 6) .nil))))) .nil))))) (.cons (.pr (sApp 7) (.cons (.pr pTup (.cons (.slot 8) (.cons (.slot 10) (.cons (.pr pTuple (.cons (.slot 11) .nil)) .nil)))) .nil)) .nil)))) (.frz 7 (.cons (.set 9 (.fr (.comp [8] (.name 8) (.pr iSeq (.cons (.slot 6) .nil)) (.one (.cmp cEq (.pr (pCall F_law_draw) (.cons (.slot 0) (.cons (.pr (pInt 2) .nil) .nil))) (.pr (pInt 0) .nil))) (.slot 8)))) (.cons (.retF (.pr fLst (.cons (.slot 4) (.cons (.slot 5) (.cons (.slot 7) (.cons (.ite (.cmp cNe (.slot 9) (.fr (.pr fLst .nil))) (.slot 9) (.fr (.pr fLst (.cons (.pr (pCall F_law_of) (.cons (.slot 0) (.cons (.slot 6) .nil))) .nil)))) .nil)))))) .nil))))))))
def M_law_draw_spec:Mir:=runD 13 B_law_draw_spec
def F_law_draw_spec:Fn:=⟨"_law_draw_spec",["_law_bag","_law_top_words","_law_top_orders","_law_top_modes"],M_law_draw_spec⟩
@[simp] theorem FM_law_draw_spec:F_law_draw_spec.M=M_law_draw_spec:=id rfl
@[simp] theorem FP_law_draw_spec:F_law_draw_spec.ps=(["_law_bag","_law_top_words","_law_top_orders","_law_top_modes"]:List Str):=id rfl
def N_law_make:List Str:=["_law_spec"]
def B_law_make:MSs:=(.cons (.ret (.pr (pMk "Program" F_Program___init__) (.cons (.fr (.pr fList (.cons (.pr pIx (.cons (.slot 0) (.cons (.pr (pInt 0) .nil) .nil))) .nil))) (.cons (.fr (.pr fList (.cons (.pr pIx (.cons (.slot 0) (.cons (.pr (pInt 1) .nil) .nil))) .nil))) (.cons (.fr (.pr fList (.cons (.pr pIx (.cons (.slot 0) (.cons (.pr (pInt 2) .nil) .nil))) .nil))) (.cons (.fr (.pr fList (.cons (.pr pIx (.cons (.slot 0) (.cons (.pr (pInt 3) .nil) .nil))) .nil))) .nil)))))) .nil)
def M_law_make:Mir:=runD 1 B_law_make
def F_law_make:Fn:=⟨"_law_make",["_law_spec"],M_law_make⟩
@[simp] theorem FM_law_make:F_law_make.M=M_law_make:=id rfl
@[simp] theorem FP_law_make:F_law_make.ps=(["_law_spec"]:List Str):=id rfl
def B_Program___contains__:MSs:=(.cons (.ret (.cmp cIn (.slot 1) (.pr (pFld ["Program"] "own_names") (.cons (.slot 0) .nil)))) .nil)
def M_Program___contains__:Mir:=runD 2 B_Program___contains__
def F_Program___contains__:Fn:=⟨"__contains__",["self","mode"],M_Program___contains__⟩
@[simp] theorem FM_Program___contains__:F_Program___contains__.M=M_Program___contains__:=id rfl
@[simp] theorem FP_Program___contains__:F_Program___contains__.ps=(["self","mode"]:List Str):=id rfl
def B_is_number:MSs:=(.cons (.ret (.andV (.pr (pIsi [.b "int"] [] true) (.cons (.slot 0) .nil)) (.andV (.notV (.pr (pIsi [.b "bool"] [] true) (.cons (.slot 0) .nil))) (.chain cLe cLe (.slot 1) (.slot 0) (.slot 2))))) .nil)
def M_is_number:Mir:=runD 3 B_is_number
def F_is_number:Fn:=⟨"is_number",["value","least","most"],M_is_number⟩
@[simp] theorem FM_is_number:F_is_number.M=M_is_number:=id rfl
@[simp] theorem FP_is_number:F_is_number.ps=(["value","least","most"]:List Str):=id rfl
def B_Program_sounds:MSs:=(.cons (.retF (.pa fLstS (.cons false (.pr (pGlob "QUIET" (.str "quiet")) .nil) (.cons true (.pr (pFld ["Program"] "own_words") (.cons (.slot 0) .nil)) (.cons false (.pr (pGlob "NOISE" (.str "noise")) .nil) .nil))))) .nil)
def M_Program_sounds:Mir:=runD 1 B_Program_sounds
def F_Program_sounds:Fn:=⟨"sounds",["self"],M_Program_sounds⟩
@[simp] theorem FM_Program_sounds:F_Program_sounds.M=M_Program_sounds:=id rfl
@[simp] theorem FP_Program_sounds:F_Program_sounds.ps=(["self"]:List Str):=id rfl
def B_is_wish:MSs:=(.cons (.ifs (.or (.not (.val (.pr (pIsi [.b "tuple"] [] true) (.cons (.slot 1) .nil)))) (.or (.cmp cEq (.pr pLen (.cons (.slot 1) .nil)) (.pr (pInt 0) .nil)) (.not (.val (.pr (pIsi [.b "str"] [] true) (.cons (.pr pIx (.cons (.slot 1) (.cons (.pr (pInt 0) .nil) .nil))) .nil)))))) (.cons (.ret (.pr (pBl false) .nil)) .nil) .nil) (.cons (.ifs (.or (.cmp cNotinKd (.pr pIx (.cons (.slot 1) (.cons (.pr (pInt 0) .nil) .nil))) (.pr (pGlob "SIZES" (.kd ["apart","most","all","sounds","never"] [3,3,2,2,2])) .nil)) (.cmp cNe (.pr pLen (.cons (.slot 1) .nil)) (.pr pIxKd (.cons (.pr (pGlob "SIZES" (.kd ["apart","most","all","sounds","never"] [3,3,2,2,2])) .nil) (.cons (.pr pIx (.cons (.slot 1) (.cons (.pr (pInt 0) .nil) .nil))) .nil))))) (.cons (.ret (.pr (pBl false) .nil)) .nil) .nil) (.cons (.ifs (.cmp cEq (.pr pIx (.cons (.slot 1) (.cons (.pr (pInt 0) .nil) .nil))) (.pr (pStr "apart") .nil)) (.cons (.ret (.andV (.cmp (cInM [("Program",F_Program___contains__)]) (.pr pIx (.cons (.slot 1) (.cons (.pr (pInt 1) .nil) .nil))) (.slot 0)) (.andV (.cmp (cInM [("Program",F_Program___contains__)]) (.pr pIx (.cons (.slot 1) (.cons (.pr (pInt 2) .nil) .nil))) (.slot 0)) (.cmp cNe (.pr pIx (.cons (.slot 1) (.cons (.pr (pInt 1) .nil) .nil))) (.pr pIx (.cons (.slot 1) (.cons (.pr (pInt 2) .nil) .nil))))))) .nil) .nil) (.cons (.ifs (.cmp cEq (.pr pIx (.cons (.slot 1) (.cons (.pr (pInt 0) .nil) .nil))) (.pr (pStr "most") .nil)) (.cons (.ret (.andV (.cmp (cInM [("Program",F_Program___contains__)]) (.pr pIx (.cons (.slot 1) (.cons (.pr (pInt 1) .nil) .nil))) (.slot 0)) (.pr (pCall F_is_number) (.cons (.pr pIx (.cons (.slot 1) (.cons (.pr (pInt 2) .nil) .nil))) (.cons (.pr (pInt 0) .nil) (.cons (.pr (pInt 2) .nil) .nil)))))) .nil) .nil) (.cons (.ifs (.cmp cEq (.pr pIx (.cons (.slot 1) (.cons (.pr (pInt 0) .nil) .nil))) (.pr (pStr "all") .nil)) (.cons (.ret (.cmp (cInM [("Program",F_Program___contains__)]) (.pr pIx (.cons (.slot 1) (.cons (.pr (pInt 1) .nil) .nil))) (.slot 0))) .nil) .nil) (.cons (.ret (.cmp cIn (.pr pIx (.cons (.slot 1) (.cons (.pr (pInt 1) .nil) .nil))) (.bm (pMeth "sounds" [("Program",F_Program_sounds)]) (.slot 0) .nil))) .nil))))))
def M_is_wish:Mir:=runD 2 B_is_wish
def N_Program_modes:List Str:=["self"]
def B_Program_modes:MSs:=(.cons (.retF (.pr fList (.cons (.pr (pFld ["Program"] "own_modes") (.cons (.slot 0) .nil)) .nil))) .nil)
def M_Program_modes:Mir:=runD 1 B_Program_modes
def F_Program_modes:Fn:=⟨"modes",["self"],M_Program_modes⟩
@[simp] theorem FM_Program_modes:F_Program_modes.M=M_Program_modes:=id rfl
@[simp] theorem FP_Program_modes:F_Program_modes.ps=(["self"]:List Str):=id rfl
def B_Program_check_mode:MSs:=(.cons (.ifs (.cmp cNotin (.slot 1) (.pr (pFld ["Program"] "own_names") (.cons (.slot 0) .nil))) (.cons (.pr (sRaise "UnknownMode" "given" "given" "UnknownMode") (.cons (.slot 1) .nil)) .nil) .nil) .nil)
def M_Program_check_mode:Mir:=runD 2 B_Program_check_mode
def F_Program_check_mode:Fn:=⟨"check_mode",["self","mode"],M_Program_check_mode⟩
@[simp] theorem FM_Program_check_mode:F_Program_check_mode.M=M_Program_check_mode:=id rfl
@[simp] theorem FP_Program_check_mode:F_Program_check_mode.ps=(["self","mode"]:List Str):=id rfl
def N_Program_starts:List Str:=["self"]
def B_Program_starts:MSs:=(.cons (.retF (.pr fList (.cons (.pr (pFld ["Program"] "own_starts") (.cons (.slot 0) .nil)) .nil))) .nil)
def M_Program_starts:Mir:=runD 1 B_Program_starts
def F_Program_starts:Fn:=⟨"starts",["self"],M_Program_starts⟩
@[simp] theorem FM_Program_starts:F_Program_starts.M=M_Program_starts:=id rfl
@[simp] theorem FP_Program_starts:F_Program_starts.ps=(["self"]:List Str):=id rfl
def B_Program_check_order:MSs:=(.cons (.ifs (.cmp cNotin (.slot 1) (.pr (pFld ["Program"] "own_orders") (.cons (.slot 0) .nil))) (.cons (.pr (sRaise "UnknownOrder" "given" "given" "UnknownOrder") (.cons (.slot 1) .nil)) .nil) .nil) .nil)
def M_Program_check_order:Mir:=runD 2 B_Program_check_order
def F_Program_check_order:Fn:=⟨"check_order",["self","order"],M_Program_check_order⟩
@[simp] theorem FM_Program_check_order:F_Program_check_order.M=M_Program_check_order:=id rfl
@[simp] theorem FP_Program_check_order:F_Program_check_order.ps=(["self","order"]:List Str):=id rfl
def B_Program_next_mode:MSs:=(.cons (.expr (.bm (pMeth "check_mode" [("Program",F_Program_check_mode)]) (.slot 0) (.cons (.slot 1) .nil))) (.cons (.expr (.bm (pMeth "check_order" [("Program",F_Program_check_order)]) (.slot 0) (.cons (.slot 2) .nil))) (.cons (.set 4 (.bm (pMeth "sounds" [("Program",F_Program_sounds)]) (.slot 0) .nil)) (.cons (.ifs (.cmp cNotin (.slot 3) (.slot 4)) (.cons (.pr (sRaise "InvalidSound" "given" "given" "InvalidSound") (.cons (.slot 3) .nil)) .nil) .nil) (.cons (.set 5 (.pr pIx (.cons (.pr pIx (.cons (.pr (pFld ["Program"] "own_modes") (.cons (.slot 0) .nil)) (.cons (.pr pIx (.cons (.pr (pFld ["Program"] "places") (.cons (.slot 0) .nil)) (.cons (.slot 1) .nil))) .nil))) (.cons (.pr (pInt 2) .nil) .nil)))) (.cons (.ret (.pr pIx (.cons (.pr pIx (.cons (.slot 5) (.cons (.bm pIndex (.pr (pFld ["Program"] "own_orders") (.cons (.slot 0) .nil)) (.cons (.slot 2) .nil)) .nil))) (.cons (.bm pIndex (.slot 4) (.cons (.slot 3) .nil)) .nil)))) .nil))))))
def M_Program_next_mode:Mir:=runD 6 B_Program_next_mode
def F_Program_next_mode:Fn:=⟨"next_mode",["self","mode","order","sound"],M_Program_next_mode⟩
@[simp] theorem FM_Program_next_mode:F_Program_next_mode.M=M_Program_next_mode:=id rfl
@[simp] theorem FP_Program_next_mode:F_Program_next_mode.ps=(["self","mode","order","sound"]:List Str):=id rfl
end Rp

set_option maxHeartbeats 2000000
namespace Rp
open PySem PySem.Spec L2 Rc
open PyProof.Rows hiding St

structure Bag where
  cells:List Int
  at_:Nat
  big:Int
  mixed:Int
  cnt:Int
  b0:0≤big
  m0:0≤mixed
  m1:mixed < 2147483648
def Bag.cont (b:Bag):List MV:=[.lst (b.cells.map .int),.int b.at_,.int b.big,.int b.mixed,.int b.cnt]
theorem draw_ex (b:Bag) {n:Int} (h1:1≤n) (h2:n < 2^64):∃ p:Int × Bag,0≤p.1∧p.1 < n∧∀ rest,M_law_draw [.ref 0,.int n] (some (.lst b.cont) :: rest)=.ok (.int p.1) (some (.lst p.2.cont) :: rest):=by
  obtain ⟨cells,at_,big,mixed,cnt,b0,m0,m1⟩:=b
  have hn:0 < n:=by omega
  have hn2:0 < n∧n < 18446744073709551616:=⟨hn,h2⟩
  have step:∀ (mixed cnt:Int),0≤(mixed * mixed * 13 + (mixed * 47713 + (cnt + 1) * 110017 + 60013)) % 2147483587∧(mixed * mixed * 13 + (mixed * 47713 + (cnt + 1) * 110017 + 60013)) % 2147483587 < 2147483648:=fun mixed cnt=>by
    have z1:=Int.emod_nonneg (mixed * mixed * 13 + (mixed * 47713 + (cnt + 1) * 110017 + 60013)) (b:=2147483587) (by decide)
    have z2:=Int.emod_lt_of_pos (mixed * mixed * 13 + (mixed * 47713 + (cnt + 1) * 110017 + 60013)) (b:=2147483587) (by decide)
    omega
  by_cases hA:big=0∧at_ < cells.length
  · obtain ⟨rfl,hlt⟩:=hA
    obtain ⟨c,hc⟩:∃ c,cells[at_]=c:=⟨_,rfl⟩
    obtain ⟨d,hd⟩:∃ d,(if c < 0 then -c else c)=d:=⟨_,rfl⟩
    by_cases hb:1000000000000000000≤d
    · have hp:0 < d:=by omega
      refine ⟨(d % n,⟨cells,at_ + 1,d / n,mixed,cnt + 1,Int.ediv_nonneg (by omega) (by omega),m0,m1⟩),Int.emod_nonneg _ (by omega),Int.emod_lt_of_pos _ hn,fun rest=>?_⟩
      unfold M_law_draw
      rw [runD_eq]
      unfold B_law_draw
      simp [Bag.cont,hn,hn2,hlt,hc,hd,hb,hp]
    · have hm:=Int.emod_nonneg (mixed * 41521 + (c % 1000211 * 761 + 43)) (b:=2147483629) (by decide)
      have hm2:=Int.emod_lt_of_pos (mixed * 41521 + (c % 1000211 * 761 + 43)) (b:=2147483629) (by decide)
      generalize hM:(mixed * 41521 + (c % 1000211 * 761 + 43)) % 2147483629=M at hm hm2
      have hM64:-18446744073709551616 < M∧M < 18446744073709551616:=by omega
      refine ⟨(((M * M * 13 + (M * 47713 + (cnt + 1) * 110017 + 60013)) % 2147483587 / 71 + (M * M * 13 + (M * 47713 + (cnt + 1) * 110017 + 60013)) % 2147483587 % 8017 * 59) % n,
        ⟨cells,at_ + 1,0,(M * M * 13 + (M * 47713 + (cnt + 1) * 110017 + 60013)) % 2147483587,cnt + 1,by omega,(step _ _).1,(step _ _).2⟩),Int.emod_nonneg _ (by omega),Int.emod_lt_of_pos _ hn,fun rest=>?_⟩
      unfold M_law_draw
      rw [runD_eq]
      unfold B_law_draw
      simp [Bag.cont,hn,hn2,hlt,hc,hd,hb,hM,hM64]
  · by_cases hB:0 < big
    · have hz:¬ big=0:=by omega
      refine ⟨(big % n,⟨cells,at_,big / n,mixed,cnt + 1,Int.ediv_nonneg b0 (by omega),m0,m1⟩),Int.emod_nonneg _ (by omega),Int.emod_lt_of_pos _ hn,fun rest=>?_⟩
      unfold M_law_draw
      rw [runD_eq]
      unfold B_law_draw
      simp [Bag.cont,hn,hn2,hz,hB]
    · have hz:big=0:=by omega
      subst hz
      have hlt:¬ at_ < cells.length:=fun h=>hA ⟨rfl,h⟩
      have hM64:-18446744073709551616 < mixed∧mixed < 18446744073709551616:=by omega
      refine ⟨(((mixed * mixed * 13 + (mixed * 47713 + (cnt + 1) * 110017 + 60013)) % 2147483587 / 71 + (mixed * mixed * 13 + (mixed * 47713 + (cnt + 1) * 110017 + 60013)) % 2147483587 % 8017 * 59) % n,
        ⟨cells,at_,0,(mixed * mixed * 13 + (mixed * 47713 + (cnt + 1) * 110017 + 60013)) % 2147483587,cnt + 1,by omega,(step _ _).1,(step _ _).2⟩),Int.emod_nonneg _ (by omega),Int.emod_lt_of_pos _ hn,fun rest=>?_⟩
      unfold M_law_draw
      rw [runD_eq]
      unfold B_law_draw
      simp [Bag.cont,hn,hn2,hlt,hM64]
def dr (b:Bag) (n:Int):Int × Bag:=if h:1≤n∧n < 2^64 then Classical.choose (draw_ex b h.1 h.2) else (0,b)
theorem dr_lo (b:Bag) {n:Int} (h:1≤n∧n < 2^64):0≤(dr b n).1:=by
  unfold dr;rw [dif_pos h];exact (Classical.choose_spec (draw_ex b h.1 h.2)).1
theorem dr_hi (b:Bag) {n:Int} (h:1≤n∧n < 2^64):(dr b n).1 < n:=by
  unfold dr;rw [dif_pos h];exact (Classical.choose_spec (draw_ex b h.1 h.2)).2.1
theorem dr_eq (b:Bag) {n:Int} (h:1≤n∧n < 2^64) (rest:Mem):M_law_draw [.ref 0,.int n] (some (.lst b.cont) :: rest)=.ok (.int (dr b n).1) (some (.lst (dr b n).2.cont) :: rest):=by
  unfold dr;rw [dif_pos h];exact (Classical.choose_spec (draw_ex b h.1 h.2)).2.2 rest
theorem open_loop {f:MV→Sl→Mem→SR} (hf:∀ (i mx:Int) (x c:Option SV) (m:Mem),f (.int i) [x,some (.v (.int mx)),c] m=.nx [x,some (.v (.int ((mx * 50021 + i % 1000211 * 883 + 31) % 2147483587))),some (.v (.int i))] m) :
    ∀ (ns:List Int) (mx:Int) (x c:Option SV) (m:Mem),0≤mx∧mx < 2147483648→∃ mx' c',(0≤mx'∧mx' < 2147483648)∧forS f [] (ns.map .int) [x,some (.v (.int mx)),c] m=.nx [x,some (.v (.int mx')),c'] m
  | [],mx,x,c,m,h=>⟨mx,c,h,forS_nilE⟩
  | i :: ns,mx,x,c,m,h=>by
    have z1:=Int.emod_nonneg (mx * 50021 + i % 1000211 * 883 + 31) (b:=2147483587) (by decide)
    have z2:=Int.emod_lt_of_pos (mx * 50021 + i % 1000211 * 883 + 31) (b:=2147483587) (by decide)
    obtain ⟨mx',c',h1,h2⟩:=open_loop hf ns ((mx * 50021 + i % 1000211 * 883 + 31) % 2147483587) x (some (.v (.int i))) m ⟨z1,by omega⟩
    refine ⟨mx',c',h1,?_⟩
    rw [List.map_cons,forS_consE,hf]
    exact h2
theorem open_ex (ns:List Int) (m:Mem):∃ b:Bag,M_law_open [.kl (ns.map .int)] m=.new (.lst b.cont) m:=by
  have hs:(5:Nat)≤sizeLine:=by rw [sizeLine_eq];omega
  unfold M_law_open
  simp only [runD_eq]
  unfold B_law_open
  simp
  generalize hf:turnS (.name 2) _=f
  have hf':∀ (i mx:Int) (x c:Option SV) (m:Mem),f (.int i) [x,some (.v (.int mx)),c] m=.nx [x,some (.v (.int ((mx * 50021 + i % 1000211 * 883 + 31) % 2147483587))),some (.v (.int i))] m:=fun i mx x c m=>by
    rw [← hf];simp
  obtain ⟨mx',c',⟨h1,h2⟩,h3⟩:=open_loop hf' (ns.take 63) 49310 (some (.v (.kl (ns.map .int)))) none m (by decide)
  refine ⟨⟨ns.take 63,0,0,mx',0,by decide,h1,h2⟩,?_⟩
  rw [List.map_take] at h3
  rw [h3]
  simp [Bag.cont,hs]
section
theorem of_lst (b:Bag) (xs:List MV) (h:1≤xs.length∧xs.length < 2 ^ 64) (rest:Mem) :
    M_law_of [.ref 0,.lst xs] (some (.lst b.cont) :: rest)=.ok (xs.getD (dr b xs.length).1.toNat .non) (some (.lst (dr b xs.length).2.cont) :: rest):=by
  have hd:(1:Int)≤(xs.length:Int)∧(xs.length:Int) < 2 ^ 64:=by omega
  have h1:=dr_lo b hd
  have h2:=dr_hi b hd
  have h3:((dr b xs.length).1.toNat:Int)=(dr b xs.length).1:=Int.toNat_of_nonneg h1
  have h4:(dr b xs.length).1.toNat < xs.length:=by omega
  unfold M_law_of
  rw [runD_eq]
  unfold B_law_of
  simp [-List.getD_eq_getElem?_getD,dr_eq b hd]
  rw [atI_pos h1 h4]
  simp [h4]
theorem of_str (b:Bag) (z:Str) (h:1≤z.length∧z.length≤sizeLine) (rest:Mem) :
    M_law_of [.ref 0,.str z] (some (.lst b.cont) :: rest)=.ok (.str ⟨#[z.cps.toList.getD (dr b z.length).1.toNat 0]⟩) (some (.lst (dr b z.length).2.cont) :: rest):=by
  have hs:=sizeLine_eq
  have hd:(1:Int)≤(z.length:Int)∧(z.length:Int) < 2 ^ 64:=by omega
  have h1:=dr_lo b hd
  have h2:=dr_hi b hd
  have h3:((dr b z.length).1.toNat:Int)=(dr b z.length).1:=Int.toNat_of_nonneg h1
  have h4:(dr b z.length).1.toNat < z.cps.toList.length:=by
    have:z.cps.toList.length=z.length:=by simp [Str.length]
    omega
  unfold M_law_of
  rw [runD_eq]
  unfold B_law_of
  simp [-List.getD_eq_getElem?_getD,dr_eq b hd,h.2]
  rw [atI_pos h1 h4]
  simp at h4
  simp [h4]
end
end Rp

namespace Rp
open PySem PySem.Spec L2 Rc
open PyProof.Rows hiding St signs

def letters:Str:="abcdefghijklmnopqrstuvwxyz"
def Nm (z:Str):Prop:=(1≤z.length∧z.length≤6)∧∀ c∈z.cps.toList,c∈letters.cps.toList
theorem Nm.line {z:Str} (h:Nm z):z.length≤sizeLine:=by have:=h.1.2;rw [sizeLine_eq];omega
theorem sg_mem {z:Str} {x:MV} (h:x∈signs z):∃ c∈z.cps.toList,x=.str ⟨#[c]⟩:=by
  unfold signs at h
  obtain ⟨c,hc,rfl⟩:=List.mem_map.mp h
  exact ⟨c,hc,rfl⟩
theorem signs_len (z:Str):(signs z).length=z.length:=by simp [signs,Str.length]
theorem is_list_l (xs:List MV) (m:Mem):M_is_list [.lst xs] m=.ok (.bl true) m:=by
  unfold M_is_list;rw [runD_eq];unfold B_is_list;simp
theorem is_list_t (xs:List MV) (m:Mem):M_is_list [.tup xs] m=.ok (.bl true) m:=by
  unfold M_is_list;rw [runD_eq];unfold B_is_list;simp
theorem is_name_ok {z:Str} (h:Nm z) (m:Mem):M_is_name [.str z] m=.ok (.bl true) m:=by
  have h1:(1:Int)≤z.length:=by have:=h.1.1;omega
  have h2:(z.length:Int)≤6:=by have:=h.1.2;omega
  have hz:=h.line
  unfold M_is_name;rw [runD_eq];unfold B_is_name
  have hc:=compM_map (f:=compTurnF [1] (.name 1) (evTs .nil) (ev (.cmp cIn (.slot 1) (.pr (pGlob "LETTERS" (.str "abcdefghijklmnopqrstuvwxyz")) .nil))) [some (SV.v (.str z)),none]) (h:=fun _=>.bl true) (m:=m) (xs:=signs z) (acc:=[]) (fun y hy=>by
    obtain ⟨c,hc,rfl⟩:=sg_mem hy
    have:=h.2 c hc
    unfold letters at this
    simp [this]) (by simpa [signs_len] using hz)
  simp [hz,h1,h2,hc,blsM_map]
def Wd (z:Str):Prop:=Nm z∧z≠("quiet":Str)∧z≠("noise":Str)
theorem is_word_ok {z:Str} (h:Wd z) (m:Mem):M_is_word [.str z] m=.ok (.bl true) m:=by
  have e:=inB_strsT m z [("quiet":Str),("noise":Str)]
  simp only [List.map_cons,List.map_nil] at e
  have s2:(2:Nat)≤sizeLine:=by rw [sizeLine_eq];omega
  unfold M_is_word;rw [runD_eq];unfold B_is_word
  simp [is_name_ok h.1,s2,e,h.2.1,h.2.2]
theorem enumM_get {xs:List MV} {i:Nat} {x:MV} (h:(enumM xs)[i]? = some x):∃ y,xs[i]? = some y∧x=.tup [.int i,y]:=by
  unfold enumM zipM at h
  rw [List.getElem?_zipWith] at h
  cases e:xs[i]? with
  | none=>rw [e] at h;simp at h
  | some y =>
    have hi:=(List.getElem?_eq_some_iff.mp e).1
    rw [e,rangeM_get hi] at h
    simp at h
    exact ⟨y,rfl,h.symm⟩
theorem enumM_len (xs:List MV):(enumM xs).length=xs.length:=by simp [enumM,zipM,rangeM]
theorem ff_ok {zs:List Str} {k:Int} (hn:zs.Nodup) (hl:(zs.length:Int)≤k) (m:Mem):M_first_fault [.lst (zs.map .str),.lst (zs.map fun _=>.bl true),.int k] m=.ok .non m:=by
  unfold M_first_fault;rw [runD_eq];unfold B_first_fault
  simp
  generalize hf:turnS (.tup [3,4]) _=f
  obtain ⟨s',m',e,h1,h2⟩:=forS_ix (f:=f) (fun i s mm=>(∃ a b,s=[some (SV.v (.lst (zs.map .str))),some (SV.v (.lst (zs.map fun _=>.bl true))),some (SV.v (.int k)),a,b])∧mm=m) (xs:=enumM (zs.map .str)) (s:=[some (SV.v (.lst (zs.map .str))),some (SV.v (.lst (zs.map fun _=>.bl true))),some (SV.v (.int k)),none,none]) (m:=m) 0 (fun i x hx s mm hI=>by
    obtain ⟨y,hy,rfl⟩:=enumM_get hx
    obtain ⟨⟨a,b,rfl⟩,rfl⟩:=hI
    rw [List.getElem?_map] at hy
    cases hz:zs[i]? with
    | none=>rw [hz] at hy;cases hy
    | some z =>
      rw [hz] at hy;cases hy
      have hi:=(List.getElem?_eq_some_iff.mp hz).1
      have hk:¬ k≤(i:Int):=by omega
      have e2:(zs.map fun _=>MV.bl true)[i]? = some (.bl true):=by simp [hi]
      have hm:¬ z∈zs.take i:=by
        intro hmem
        obtain ⟨j,hj,e3⟩:=List.mem_iff_getElem.mp hmem
        rw [List.length_take] at hj
        rw [List.getElem_take] at e3
        have e4:zs[i]=z:=(List.getElem?_eq_some_iff.mp hz).2
        exact List.pairwise_iff_getElem.mp hn j i (by omega) hi (by omega) (by rw [e3,e4])
      have e5:=inB_strs mm z (zs.take i)
      rw [List.map_take] at e5
      rw [← hf]
      refine ⟨_,mm,?_,⟨some (SV.v (.int i)),some (SV.v (.str z)),rfl⟩,rfl⟩
      simp [hk,e2,e5,hm]) ⟨⟨none,none,rfl⟩,rfl⟩
  obtain ⟨a,b,rfl⟩:=h1
  rw [e,h2]
  simp
end Rp

namespace Rp
open PySem PySem.Spec L2 Rc
open PyProof.Rows hiding St signs

theorem mem_str {zs:List Str} {x:MV} (h:x∈zs.map MV.str):∃ z∈zs,x=.str z:=by
  obtain ⟨z,hz,rfl⟩:=List.mem_map.mp h
  exact ⟨z,hz,rfl⟩
theorem map_const {α β γ:Type} (f:α→β) (c:γ) (zs:List α):(zs.map f).map (fun _=>c)=zs.map fun _=>c:=by simp
theorem check_words_ok {ws:List Str} (hw:∀ w∈ws,Wd w) (hn:ws.Nodup) (hl:ws.length≤2) (m:Mem):M_check_words [.lst (ws.map .str)] m=.ok .non m:=by
  have hs:=sizeLine_eq
  unfold M_check_words;rw [runD_eq];unfold B_check_words
  have hc:=compM_map (f:=compTurnF [2] (.name 2) (evTs .nil) (ev (.pr (pCall F_is_word) (.cons (.slot 2) .nil))) [some (SV.v (.lst (ws.map .str))),none,none]) (h:=fun _=>.bl true) (m:=m) (xs:=ws.map .str) (acc:=[]) (fun y hy=>by
    obtain ⟨z,hz,rfl⟩:=mem_str hy
    simp [is_word_ok (hw z hz)]) (by simp;omega)
  rw [map_const] at hc
  simp [is_list_l,hc,ff_ok hn (k:=2) (by omega)]
theorem check_orders_ok {os:List Str} (hw:∀ w∈os,Nm w) (hn:os.Nodup) (h1:1≤os.length) (hl:os.length≤3) (m:Mem):M_check_orders [.lst (os.map .str)] m=.ok .non m:=by
  have hs:=sizeLine_eq
  have hz:¬ os=[]:=by rintro rfl;simp at h1
  unfold M_check_orders;rw [runD_eq];unfold B_check_orders
  have hc:=compM_map (f:=compTurnF [2] (.name 2) (evTs .nil) (ev (.pr (pCall F_is_name) (.cons (.slot 2) .nil))) [some (SV.v (.lst (os.map .str))),none,none]) (h:=fun _=>.bl true) (m:=m) (xs:=os.map .str) (acc:=[]) (fun y hy=>by
    obtain ⟨z,hz,rfl⟩:=mem_str hy
    simp [is_name_ok (hw z hz)]) (by simp;omega)
  rw [map_const] at hc
  simp [is_list_l,hz,hc,ff_ok hn (k:=3) (by omega)]
abbrev Md:Type:=Str × Str × List (List Str)
def rowV (r:List Str):MV:=.tup (r.map .str)
def modeV (d:Md):MV:=.tup [.str d.1,.str d.2.1,.tup (d.2.2.map rowV)]
def MdOk (ws os names:List Str) (d:Md):Prop:=Nm d.1∧(d.2.1=("":Str)∨d.2.1∈ws)∧d.2.2.length=os.length∧∀ r∈d.2.2,r.length=ws.length + 2∧∀ g∈r,g∈names
theorem is_mode_ok {ws os names:List Str} {d:Md} (h:MdOk ws os names d) (hw:ws.length≤2) (ho:os.length≤3) (m:Mem):M_is_mode [modeV d,.lst (ws.map .str),.lst (os.map .str)] m=.ok (.bl true) m:=by
  have hs:=sizeLine_eq
  obtain ⟨n,c,rows⟩:=d
  obtain ⟨h1,h2,h3,h4⟩:=h
  dsimp only at h1 h2 h3 h4
  unfold M_is_mode;rw [runD_eq];unfold B_is_mode modeV
  have hc:∀ a0 a2 a3 a4 a5 a6,compM (compTurnF [6] (.name 6) (evTs .nil) (ev (.andV (.pr (pIsi [.b "tuple"] [] true) (.cons (.slot 6) .nil)) (.cmp cEq (.pr pLen (.cons (.slot 6) .nil)) (.pr (pBin .add) (.cons (.pr pLen (.cons (.slot 1) .nil)) (.cons (.pr (pInt 2) .nil) .nil)))))) [a0,some (SV.v (.lst (ws.map .str))),a2,a3,a4,a5,a6]) [] (rows.map rowV) [] m=.ok (rows.map fun _=>.bl true) m:=fun a0 a2 a3 a4 a5 a6=>by
    have:=compM_map (f:=compTurnF [6] (.name 6) (evTs .nil) (ev (.andV (.pr (pIsi [.b "tuple"] [] true) (.cons (.slot 6) .nil)) (.cmp cEq (.pr pLen (.cons (.slot 6) .nil)) (.pr (pBin .add) (.cons (.pr pLen (.cons (.slot 1) .nil)) (.cons (.pr (pInt 2) .nil) .nil)))))) [a0,some (SV.v (.lst (ws.map .str))),a2,a3,a4,a5,a6]) (h:=fun _=>.bl true) (m:=m) (xs:=rows.map rowV) (acc:=[]) (fun y hy=>by
      obtain ⟨r,hr,rfl⟩:=List.mem_map.mp hy
      have:=(h4 r hr).1
      unfold rowV
      simp [this]) (by simp;omega)
    rw [map_const] at this
    simpa using this
  have ec:(c=("":Str))∨(c≠("":Str)∧c∈ws):=by
    by_cases z:c=("":Str)
    · exact .inl z
    · exact .inr ⟨z,h2.resolve_left z⟩
  rcases ec with rfl | ⟨e1,e2⟩
  · simp [is_name_ok h1,h3,hc,blsM_map]
  · simp [is_name_ok h1,h3,hc,blsM_map,e1,e2]
end Rp

namespace Rp
open PySem PySem.Spec L2 Rc
open PyProof.Rows hiding St signs

def nmsOf (ms:List Md):List Str:=ms.map (·.1)
theorem goal_loop {names:List Str} {r:List Str} (h:∀ g∈r,g∈names) {a0 a1 a2 a4 a5 a6 a7 a8 a9 a10:Option SV} {m:Mem}:∃ b,forS (turnS (.name 10) (exs (.cons (.ifs (.cmp cNotin (.slot 10) (.slot 3)) (.cons (.pr (sRaise "UnknownMode" "given" "given" "UnknownMode") (.cons (.slot 10) .nil)) .nil) .nil) .nil))) [] (r.map .str) [a0,a1,a2,some (SV.v (.lst (names.map .str))),a4,a5,a6,a7,a8,a9,a10] m=.nx [a0,a1,a2,some (SV.v (.lst (names.map .str))),a4,a5,a6,a7,a8,a9,b] m:=by
  obtain ⟨s',m',e,⟨b,rfl⟩,rfl⟩:=forS_inv (f:=turnS (.name 10) (exs (.cons (.ifs (.cmp cNotin (.slot 10) (.slot 3)) (.cons (.pr (sRaise "UnknownMode" "given" "given" "UnknownMode") (.cons (.slot 10) .nil)) .nil) .nil) .nil))) (fun s mm=>(∃ b,s=[a0,a1,a2,some (SV.v (.lst (names.map .str))),a4,a5,a6,a7,a8,a9,b])∧mm=m) (xs:=r.map .str) (s:=[a0,a1,a2,some (SV.v (.lst (names.map .str))),a4,a5,a6,a7,a8,a9,a10]) (m:=m) (fun x hx s mm hI=>by
    obtain ⟨⟨b,rfl⟩,rfl⟩:=hI
    obtain ⟨z,hz,rfl⟩:=mem_str hx
    refine ⟨[a0,a1,a2,some (SV.v (.lst (names.map .str))),a4,a5,a6,a7,a8,a9,some (SV.v (.str z))],mm,?_,⟨_,rfl⟩,rfl⟩
    simp [h z hz]) ⟨⟨_,rfl⟩,rfl⟩
  exact ⟨b,e⟩
theorem row_loop {names:List Str} {rows:List (List Str)} (h:∀ r∈rows,∀ g∈r,g∈names) {a0 a1 a2 a4 a5 a6 a7 a8 a9 a10:Option SV} {m:Mem}:∃ b c,forS (turnS (.name 9) (exs (.cons (.loop (.name 10) (.pr iSeq (.cons (.slot 9) .nil)) (.cons (.ifs (.cmp cNotin (.slot 10) (.slot 3)) (.cons (.pr (sRaise "UnknownMode" "given" "given" "UnknownMode") (.cons (.slot 10) .nil)) .nil) .nil) .nil)) .nil))) [] (rows.map rowV) [a0,a1,a2,some (SV.v (.lst (names.map .str))),a4,a5,a6,a7,a8,a9,a10] m=.nx [a0,a1,a2,some (SV.v (.lst (names.map .str))),a4,a5,a6,a7,a8,b,c] m:=by
  obtain ⟨s',m',e,⟨b,c,rfl⟩,rfl⟩:=forS_inv (f:=turnS (.name 9) (exs (.cons (.loop (.name 10) (.pr iSeq (.cons (.slot 9) .nil)) (.cons (.ifs (.cmp cNotin (.slot 10) (.slot 3)) (.cons (.pr (sRaise "UnknownMode" "given" "given" "UnknownMode") (.cons (.slot 10) .nil)) .nil) .nil) .nil)) .nil))) (fun s mm=>(∃ b c,s=[a0,a1,a2,some (SV.v (.lst (names.map .str))),a4,a5,a6,a7,a8,b,c])∧mm=m) (xs:=rows.map rowV) (s:=[a0,a1,a2,some (SV.v (.lst (names.map .str))),a4,a5,a6,a7,a8,a9,a10]) (m:=m) (fun x hx s mm hI=>by
    obtain ⟨⟨b,c,rfl⟩,rfl⟩:=hI
    obtain ⟨r,hr,rfl⟩:=List.mem_map.mp hx
    obtain ⟨d,e⟩:=goal_loop (h r hr) (a0:=a0) (a1:=a1) (a2:=a2) (a4:=a4) (a5:=a5) (a6:=a6) (a7:=a7) (a8:=a8) (a9:=some (SV.v (rowV r))) (a10:=c) (m:=mm)
    refine ⟨[a0,a1,a2,some (SV.v (.lst (names.map .str))),a4,a5,a6,a7,a8,some (SV.v (rowV r)),d],mm,?_,⟨_,_,rfl⟩,rfl⟩
    unfold rowV at e ⊢
    simp [e]) ⟨⟨_,_,rfl⟩,rfl⟩
  exact ⟨b,c,e⟩
theorem check_modes_ok {ws os:List Str} {ms:List Md} (hm:∀ d∈ms,MdOk ws os (nmsOf ms) d) (hn:(nmsOf ms).Nodup) (h1:1≤ms.length) (h5:ms.length≤5) (hw:ws.length≤2) (ho:os.length≤3) (m:Mem) :
    M_check_modes [.lst (ms.map modeV),.lst (ws.map .str),.lst (os.map .str)] m=.ok .non m:=by
  have hs:=sizeLine_eq
  have hz:¬ ms=[]:=by rintro rfl;simp at h1
  have s0:(0:Nat)≤sizeLine:=by omega
  unfold M_check_modes;rw [runD_eq];unfold B_check_modes
  simp [is_list_l,hz,s0]
  generalize hf:turnS (.tup [4,5]) _=f
  obtain ⟨s',m',e,⟨a4,a5,rfl⟩,rfl⟩:=forS_ix (f:=f) (fun i s mm=>(∃ a4 a5,s=[some (SV.v (.lst (ms.map modeV))),some (SV.v (.lst (ws.map .str))),some (SV.v (.lst (os.map .str))),some (SV.own (.lst (((nmsOf ms).take i).map .str))),a4,a5,none,none,none,none,none])∧mm=m) (xs:=enumM (ms.map modeV)) (s:=[some (SV.v (.lst (ms.map modeV))),some (SV.v (.lst (ws.map .str))),some (SV.v (.lst (os.map .str))),some (SV.own (.lst [])),none,none,none,none,none,none,none]) (m:=m) 0 (fun i x hx s mm hI=>by
    obtain ⟨y,hy,rfl⟩:=enumM_get hx
    obtain ⟨⟨a,b,rfl⟩,rfl⟩:=hI
    rw [List.getElem?_map] at hy
    cases hd:ms[i]? with
    | none=>rw [hd] at hy;cases hy
    | some d =>
      rw [hd] at hy;cases hy
      have hi:=(List.getElem?_eq_some_iff.mp hd).1
      have ed:=(List.getElem?_eq_some_iff.mp hd).2
      have hk:¬ (5:Int)≤(i:Int):=by omega
      have hin:i < (nmsOf ms).length:=by simpa [nmsOf] using hi
      have en:(nmsOf ms)[i]=d.1:=by simp [nmsOf,ed]
      have hmem:¬ d.1∈(nmsOf ms).take i:=by
        intro hmem
        obtain ⟨j,hj,e3⟩:=List.mem_iff_getElem.mp hmem
        rw [List.length_take] at hj
        rw [List.getElem_take] at e3
        exact List.pairwise_iff_getElem.mp hn j i (by omega) hin (by omega) (by rw [e3,en])
      have e5:=is_mode_ok (hm d (List.mem_of_getElem? hd)) hw ho mm
      have e6:atI [MV.str d.1,.str d.2.1,.tup (d.2.2.map rowV)] 0=some (.str d.1):=rfl
      have hlen:((nmsOf ms).take i).length < sizeLine:=by rw [List.length_take];omega
      have etk:(nmsOf ms).take (i + 1)=(nmsOf ms).take i++[d.1]:=by rw [List.take_succ_eq_append_getElem hin,en]
      rw [← hf]
      have em:modeV d=.tup [.str d.1,.str d.2.1,.tup (d.2.2.map rowV)]:=rfl
      refine ⟨[some (SV.v (.lst (ms.map modeV))),some (SV.v (.lst (ws.map .str))),some (SV.v (.lst (os.map .str))),some (SV.own (.lst (((nmsOf ms).take (0 + i + 1)).map .str))),some (SV.v (.int i)),some (SV.v (modeV d)),none,none,none,none,none],mm,?_,⟨_,_,rfl⟩,rfl⟩
      rw [show 0 + i + 1=i + 1 from by omega,etk]
      rw [em] at e5 ⊢
      simp [-List.map_take,hk,e5,hmem,e6]
      omega) ⟨⟨none,none,by simp⟩,rfl⟩
  rw [e]
  have et:(nmsOf ms).take (0 + (enumM (ms.map modeV)).length)=nmsOf ms:=by
    rw [enumM_len,List.length_map]
    apply List.take_of_length_le
    simp [nmsOf]
  rw [et]
  simp
  generalize hf2:turnS (.tup [6,7,8]) _=f2
  obtain ⟨s',m',e2,_⟩:=forS_inv (f:=f2) (fun s mm=>(∃ a b c d q,s=[some (SV.v (.lst (ms.map modeV))),some (SV.v (.lst (ws.map .str))),some (SV.v (.lst (os.map .str))),some (SV.v (.lst ((nmsOf ms).map .str))),a4,a5,a,b,c,d,q])∧mm=m') (xs:=ms.map modeV) (s:=[some (SV.v (.lst (ms.map modeV))),some (SV.v (.lst (ws.map .str))),some (SV.v (.lst (os.map .str))),some (SV.v (.lst ((nmsOf ms).map .str))),a4,a5,none,none,none,none,none]) (m:=m') (fun x hx s mm hI=>by
    obtain ⟨⟨a,b,c,d,q,rfl⟩,rfl⟩:=hI
    obtain ⟨y,hy,rfl⟩:=List.mem_map.mp hx
    obtain ⟨u,v,e3⟩:=row_loop (fun r hr=>((hm y hy).2.2.2 r hr).2) (a0:=some (SV.v (.lst (ms.map modeV)))) (a1:=some (SV.v (.lst (ws.map .str)))) (a2:=some (SV.v (.lst (os.map .str)))) (a4:=a4) (a5:=a5) (a6:=some (SV.v (.str y.1))) (a7:=some (SV.v (.str y.2.1))) (a8:=some (SV.v (.tup (y.2.2.map rowV)))) (a9:=d) (a10:=q) (m:=mm)
    rw [← hf2]
    refine ⟨[some (SV.v (.lst (ms.map modeV))),some (SV.v (.lst (ws.map .str))),some (SV.v (.lst (os.map .str))),some (SV.v (.lst ((nmsOf ms).map .str))),a4,a5,some (SV.v (.str y.1)),some (SV.v (.str y.2.1)),some (SV.v (.tup (y.2.2.map rowV))),u,v],mm,?_,⟨_,_,_,_,_,rfl⟩,rfl⟩
    have em:modeV y=.tup [.str y.1,.str y.2.1,.tup (y.2.2.map rowV)]:=rfl
    rw [em]
    simp [e3]) ⟨⟨_,_,_,_,_,rfl⟩,rfl⟩
  rename_i h9
  obtain ⟨_,rfl⟩:=h9
  rw [e2]
  simp
end Rp

namespace Rp
open PySem PySem.Spec L2 Rc
open PyProof.Rows hiding St signs

theorem check_starts_ok {ss names:List Str} (h:∀ s∈ss,s∈names) (hn:ss.Nodup) (h1:1≤ss.length) (hl:ss.length≤names.length) (hb:names.length≤1000) (m:Mem):M_check_starts [.lst (ss.map .str),.lst (names.map .str)] m=.ok .non m:=by
  have hs:=sizeLine_eq
  have hz:¬ ss=[]:=by rintro rfl;simp at h1
  unfold M_check_starts;rw [runD_eq];unfold B_check_starts
  have hc:=compM_map (f:=compTurnF [3] (.name 3) (evTs .nil) (ev (.cmp cIn (.slot 3) (.slot 1))) [some (SV.v (.lst (ss.map .str))),some (SV.v (.lst (names.map .str))),none,none]) (h:=fun _=>.bl true) (m:=m) (xs:=ss.map .str) (acc:=[]) (fun y hy=>by
    obtain ⟨z,hz,rfl⟩:=mem_str hy
    simp [h z hz]) (by simp;omega)
  rw [map_const] at hc
  simp [is_list_l,hz,hc,ff_ok hn (k:=(names.length:Int) + 1) (by omega)]
def pKeys:List Str:=["own_words","own_orders","own_modes","own_starts","own_names","places"]
def strsV (zs:List Str):MV:=.lst (zs.map .str)
def idxV (n:Nat):List MV:=(List.range n).map fun (i:Nat)=>MV.int (i:Int)
def progV (ws os:List Str) (ms:List Md) (ss:List Str):MV :=
  .ins "Program" pKeys [strsV ws,strsV os,.lst (ms.map modeV),strsV ss,strsV (nmsOf ms),.dic ((nmsOf ms).map .str) (idxV ms.length)]
structure POk (ws os:List Str) (ms:List Md) (ss:List Str):Prop where
  wN:∀ w∈ws,Wd w
  wD:ws.Nodup
  wL:ws.length≤2
  oN:∀ o∈os,Nm o
  oD:os.Nodup
  o1:1≤os.length
  oL:os.length≤3
  mN:∀ d∈ms,MdOk ws os (nmsOf ms) d
  mD:(nmsOf ms).Nodup
  m1:1≤ms.length
  mL:ms.length≤5
  sN:∀ s∈ss,s∈nmsOf ms
  sD:ss.Nodup
  s1:1≤ss.length
  sL:ss.length≤ms.length
theorem nms_len (ms:List Md):(nmsOf ms).length=ms.length:=by simp [nmsOf]
theorem fldS_end {cs:List Str} {f c:Str} {ks:List Str} {xs:List MV} {x:MV} {n:Nat} {s:Sl} {m:Mem} (hn:n=m.length) (hc:c∈cs) (hk:ks.length < 1000) :
    (sFldSet cs f).F [.v x,.v (.ref n)] s (m++[some (.ins c ks xs)])=.nx s (m++[some (.ins c (fPutK f ks) (fPutV f x ks xs))]):=by
  subst hn
  show fldSF cs f [.v x,.v (.ref m.length)] s (m++[some (.ins c ks xs)])=_
  unfold fldSF
  dsimp only
  have e:insL (m++[some (.ins c ks xs)]) m.length=some (c,ks,xs):=by
    unfold insL
    rw [List.getElem?_append_right (Nat.le_refl _)]
    simp
  rw [e]
  dsimp only
  rw [if_pos ⟨hc,hk⟩]
  congr 1
  rw [List.set_append_right _ _ (Nat.le_refl _)]
  simp
theorem pk_0_1:(("own_words":Str)=("own_orders":Str))=False:=eq_false (by decide)
theorem pk_0_2:(("own_words":Str)=("own_modes":Str))=False:=eq_false (by decide)
theorem pk_0_3:(("own_words":Str)=("own_starts":Str))=False:=eq_false (by decide)
theorem pk_0_4:(("own_words":Str)=("own_names":Str))=False:=eq_false (by decide)
theorem pk_0_5:(("own_words":Str)=("places":Str))=False:=eq_false (by decide)
theorem pk_1_0:(("own_orders":Str)=("own_words":Str))=False:=eq_false (by decide)
theorem pk_1_2:(("own_orders":Str)=("own_modes":Str))=False:=eq_false (by decide)
theorem pk_1_3:(("own_orders":Str)=("own_starts":Str))=False:=eq_false (by decide)
theorem pk_1_4:(("own_orders":Str)=("own_names":Str))=False:=eq_false (by decide)
theorem pk_1_5:(("own_orders":Str)=("places":Str))=False:=eq_false (by decide)
theorem pk_2_0:(("own_modes":Str)=("own_words":Str))=False:=eq_false (by decide)
theorem pk_2_1:(("own_modes":Str)=("own_orders":Str))=False:=eq_false (by decide)
theorem pk_2_3:(("own_modes":Str)=("own_starts":Str))=False:=eq_false (by decide)
theorem pk_2_4:(("own_modes":Str)=("own_names":Str))=False:=eq_false (by decide)
theorem pk_2_5:(("own_modes":Str)=("places":Str))=False:=eq_false (by decide)
theorem pk_3_0:(("own_starts":Str)=("own_words":Str))=False:=eq_false (by decide)
theorem pk_3_1:(("own_starts":Str)=("own_orders":Str))=False:=eq_false (by decide)
theorem pk_3_2:(("own_starts":Str)=("own_modes":Str))=False:=eq_false (by decide)
theorem pk_3_4:(("own_starts":Str)=("own_names":Str))=False:=eq_false (by decide)
theorem pk_3_5:(("own_starts":Str)=("places":Str))=False:=eq_false (by decide)
theorem pk_4_0:(("own_names":Str)=("own_words":Str))=False:=eq_false (by decide)
theorem pk_4_1:(("own_names":Str)=("own_orders":Str))=False:=eq_false (by decide)
theorem pk_4_2:(("own_names":Str)=("own_modes":Str))=False:=eq_false (by decide)
theorem pk_4_3:(("own_names":Str)=("own_starts":Str))=False:=eq_false (by decide)
theorem pk_4_5:(("own_names":Str)=("places":Str))=False:=eq_false (by decide)
theorem pk_5_0:(("places":Str)=("own_words":Str))=False:=eq_false (by decide)
theorem pk_5_1:(("places":Str)=("own_orders":Str))=False:=eq_false (by decide)
theorem pk_5_2:(("places":Str)=("own_modes":Str))=False:=eq_false (by decide)
theorem pk_5_3:(("places":Str)=("own_starts":Str))=False:=eq_false (by decide)
theorem pk_5_4:(("places":Str)=("own_names":Str))=False:=eq_false (by decide)
theorem fPutK_nil (f:Str):fPutK f []=[f]:=id rfl
theorem fPutK_cons (f k:Str) (ks:List Str):fPutK f (k :: ks)=if k=f then k :: ks else k :: fPutK f ks:=id rfl
theorem fPutV_nil (f:Str) (x:MV) (ys:List MV):fPutV f x [] ys=[x]:=by cases ys <;> rfl
theorem fPutV_cons (f k:Str) (ks:List Str) (x y:MV) (ys:List MV):fPutV f x (k :: ks) (y :: ys)=if k=f then x :: ys else y :: fPutV f x ks ys:=id rfl
theorem dcomp_new {f:MV→Mem→R (Option (MV × MV))} {m:Mem}:∀ {zs:List Str} {xs:List MV} {vs:List MV} {ks:List Str} {ws:List MV},(∀ (i:Nat) (z:Str) (x v:MV),zs[i]? = some z→xs[i]? = some x→vs[i]? = some v→f x m=.ok (some (.str z,v)) m)→xs.length=zs.length→vs.length=zs.length→(ks++zs).Nodup→ks.length + zs.length≤sizeLine →
    dcompM f [] xs (ks.map .str) ws m=.ok ((ks++zs).map .str,ws++vs) m
  | [],[],[],ks,ws,_,_,_,_,_=>by unfold dcompM;rw [if_pos (OkW_nil m)];simp
  | z :: zs,x :: xs,v :: vs,ks,ws,hf,hx,hv,hn,hl=>by
    have hh:dHas (ks.map .str) (.str z)=false:=by
      unfold dHas
      rw [any_str]
      simp only [decide_eq_false_iff_not]
      intro hm
      have:=List.nodup_append.mp hn
      exact this.2.2 z hm z List.mem_cons_self rfl
    rw [List.length_cons] at hl
    rw [dcompM_cons,if_pos (OkW_nil m),hf 0 z x v rfl rfl rfl]
    show (if (keyM (.str z)).isSome=true∧(ks.map MV.str).length < sizeLine then dcompM f [] xs (dPutK (ks.map .str) (.str z)) (dPutV (ks.map .str) ws (.str z) v) m else .stuck)=_
    rw [if_pos ⟨rfl,by rw [List.length_map];omega⟩]
    unfold dPutK dPutV
    rw [hh]
    simp only [Bool.false_eq_true,if_false]
    have e:ks.map MV.str++[MV.str z]=(ks++[z]).map .str:=by simp
    rw [e,dcomp_new (zs:=zs) (vs:=vs) (ks:=ks++[z]) (fun i z' x' v' h1 h2 h3=>hf (i + 1) z' x' v' (by simpa using h1) (by simpa using h2) (by simpa using h3)) (by simpa using hx) (by simpa using hv) (by simpa using hn) (by simp;omega)]
    simp
  | [],_ :: _,_,_,_,_,hx,_,_,_=>by cases hx
  | [],[],_ :: _,_,_,_,_,hv,_,_=>by cases hv
  | _ :: _,[],_,_,_,_,hx,_,_,_=>by cases hx
  | _ :: _,_ :: _,[],_,_,_,_,hv,_,_=>by cases hv
theorem names_comp {ms:List Md} {m:Mem} (h6:ms.length≤1000) {a0 a1 a2 a3 a4 a5 a6 a7 a8:Option SV}:compM (compTurnF [6] (.name 6) (evTs .nil) (ev (.pr pIx (.cons (.slot 6) (.cons (.pr (pInt 0) .nil) .nil)))) [a0,a1,a2,a3,a4,a5,a6,a7,a8]) [] (ms.map modeV) [] m=.ok ((nmsOf ms).map .str) m:=by
  have hs:=sizeLine_eq
  have:=compM_map (f:=compTurnF [6] (.name 6) (evTs .nil) (ev (.pr pIx (.cons (.slot 6) (.cons (.pr (pInt 0) .nil) .nil)))) [a0,a1,a2,a3,a4,a5,a6,a7,a8]) (h:=fun x=>match x with
    | .tup (y :: _)=>y
    | _=>.non) (m:=m) (xs:=ms.map modeV) (acc:=[]) (fun y hy=>by
    obtain ⟨d,hd,rfl⟩:=List.mem_map.mp hy
    unfold modeV
    simp) (by simp;omega)
  rw [this]
  simp only [List.nil_append,nmsOf,List.map_map]
  rfl
theorem starts_comp {names ss:List Str} {m:Mem} (hl:names.length≤1000) {a0 a1 a2 a3 a5 a6 a7 a8:Option SV}:compM (compTurnF [7] (.name 7) (evTs (.one (.cmp cIn (.slot 7) (.slot 4)))) (ev (.slot 7)) [a0,a1,a2,a3,some (SV.v (.lst (ss.map .str))),a5,a6,a7,a8]) [] (names.map .str) [] m=.ok ((names.filter fun z=>decide (z∈ss)).map .str) m:=by
  have hs:=sizeLine_eq
  have:=compM_filter (f:=compTurnF [7] (.name 7) (evTs (.one (.cmp cIn (.slot 7) (.slot 4)))) (ev (.slot 7)) [a0,a1,a2,a3,some (SV.v (.lst (ss.map .str))),a5,a6,a7,a8]) (h:=fun x=>match x with
    | .str z=>if z∈ss then some (.str z) else none
    | _=>none) (m:=m) (xs:=names.map .str) (acc:=[]) (fun y hy=>by
    obtain ⟨z,hz,rfl⟩:=mem_str hy
    by_cases hm:z∈ss
    · simp [hm]
    · simp [hm]) (by simp;omega)
  rw [this]
  congr 1
  rw [List.nil_append]
  clear this hl
  induction names with
  | nil=>rfl
  | cons z zs ih =>
    by_cases hm:z∈ss
    · simp [hm,ih]
    · simp [hm,ih]
theorem idxV_get {n i:Nat} {v:MV} (h:(idxV n)[i]? = some v):v=.int i:=by
  unfold idxV at h
  rw [List.getElem?_map] at h
  cases e:(List.range n)[i]? with
  | none=>rw [e] at h;cases h
  | some j =>
    rw [e] at h;cases h
    have:=(List.getElem?_eq_some_iff.mp e).2
    simp at this
    subst this;rfl
theorem places_comp {names:List Str} {m:Mem} (hn:names.Nodup) (hl:names.length≤1000) {a0 a1 a2 a3 a4 a5 a6 a7 a8:Option SV}:dcompM (dcompTurnF [8,7] (.tup [8,7]) (evTs .nil) (ev (.slot 7)) (ev (.slot 8)) [a0,a1,a2,a3,a4,a5,a6,a7,a8]) [] (enumM (names.map .str)) [] [] m=.ok (names.map .str,idxV names.length) m:=by
  have hs:=sizeLine_eq
  have:=dcomp_new (f:=dcompTurnF [8,7] (.tup [8,7]) (evTs .nil) (ev (.slot 7)) (ev (.slot 8)) [a0,a1,a2,a3,a4,a5,a6,a7,a8]) (m:=m) (zs:=names) (xs:=enumM (names.map .str)) (vs:=idxV names.length) (ks:=[]) (ws:=[]) (fun i z x v h1 h2 h3=>by
    obtain ⟨y,hy,rfl⟩:=enumM_get h2
    have ev:=idxV_get h3
    subst ev
    rw [List.getElem?_map,h1] at hy
    cases hy
    simp) (by rw [enumM_len];simp) (by simp [idxV]) (by simpa using hn) (by simp;omega)
  simpa using this
theorem init_ok {ws os:List Str} {ms:List Md} {ss:List Str} (h:POk ws os ms ss) (m:Mem) :
    M_Program___init__ [.ref m.length,strsV ws,strsV os,.lst (ms.map modeV),strsV ss] (m++[some (.ins "Program" [] [])])=.ok .non (m++[some (.ins "Program" pKeys [strsV ws,strsV os,.lst (ms.map modeV),strsV ((nmsOf ms).filter fun z=>decide (z∈ss)),strsV (nmsOf ms),.dic ((nmsOf ms).map .str) (idxV ms.length)])]):=by
  have hs:=sizeLine_eq
  have hL:=h.mL
  have hnl:=nms_len ms
  unfold M_Program___init__;rw [runD_eq];unfold B_Program___init__ strsV
  simp only [List.map_cons,List.map_nil,List.length_cons,List.length_nil,Nat.reduceAdd,Nat.reduceSub,List.replicate,List.cons_append,List.nil_append]
  have hcs:=check_starts_ok h.sN h.sD h.s1 (by rw [hnl];exact h.sL) (by rw [hnl];omega) 
  simp [check_words_ok h.wN h.wD h.wL,check_orders_ok h.oN h.oD h.o1 h.oL,check_modes_ok h.mN h.mD h.m1 h.mL h.wL h.oL,names_comp (show ms.length≤1000 by omega),hcs,starts_comp (show (nmsOf ms).length≤1000 by omega),places_comp h.mD (show (nmsOf ms).length≤1000 by omega),fldS_end rfl (show ("Program":Str)∈[("Program":Str)] from List.mem_singleton.mpr rfl),fPutK_nil,fPutK_cons,fPutV_nil,fPutV_cons,pk_0_1,pk_0_2,pk_0_3,pk_0_4,pk_0_5,pk_1_0,pk_1_2,pk_1_3,pk_1_4,pk_1_5,pk_2_0,pk_2_1,pk_2_3,pk_2_4,pk_2_5,pk_3_0,pk_3_1,pk_3_2,pk_3_4,pk_3_5,pk_4_0,pk_4_1,pk_4_2,pk_4_3,pk_4_5,pk_5_0,pk_5_1,pk_5_2,pk_5_3,pk_5_4]
  exact ⟨rfl,by rw [hnl]⟩
theorem noRefs_str (k:Nat):∀ zs:List Str,noRefs k (zs.map .str)=true
  | []=>by simp only [List.map_nil,noRefs]
  | z :: zs=>by simp only [List.map_cons,noRefs,noRef,noRefs_str k zs,Bool.and_self]
theorem noRefs_all (k:Nat):∀ xs:List MV,(∀ x∈xs,noRef k x=true)→noRefs k xs=true
  | [],_=>by simp only [noRefs]
  | x :: xs,h=>by
    simp only [noRefs]
    rw [h x List.mem_cons_self,noRefs_all k xs fun y hy=>h y (List.mem_cons_of_mem _ hy)];rfl
theorem noRef_mode (k:Nat) (d:Md):noRef k (modeV d)=true:=by
  have:noRefs k (d.2.2.map rowV)=true:=noRefs_all k _ fun x hx=>by
    obtain ⟨r,_,rfl⟩:=List.mem_map.mp hx
    simp only [rowV,noRef,noRefs_str]
  simp only [modeV,noRef,noRefs,this,Bool.and_self]
theorem noRefs_modes (k:Nat) (ms:List Md):noRefs k (ms.map modeV)=true:=noRefs_all k _ fun x hx=>by
  obtain ⟨d,_,rfl⟩:=List.mem_map.mp hx
  exact noRef_mode k d
theorem noRefs_idx (k n:Nat):noRefs k (idxV n)=true:=noRefs_all k _ fun x hx=>by
  unfold idxV at hx
  obtain ⟨i,_,rfl⟩:=List.mem_map.mp hx
  simp only [noRef]
def stOf (ms:List Md) (ss:List Str):List Str:=(nmsOf ms).filter fun z=>decide (z∈ss)
theorem mk_ok {ws os:List Str} {ms:List Md} {ss:List Str} (h:POk ws os ms ss) (m:Mem) :
    mkF "Program" M_Program___init__ [.v (strsV ws),.v (strsV os),.v (.lst (ms.map modeV)),.v (strsV ss)] m=.ok (.v (progV ws os ms (stOf ms ss))) m:=by
  have hi:=init_ok h m
  unfold mkF
  have hv:vals [.v (strsV ws),.v (strsV os),.v (.lst (ms.map modeV)),.v (strsV ss)]=some [strsV ws,strsV os,.lst (ms.map modeV),strsV ss]:=rfl
  rw [hv]
  dsimp only
  rw [hi]
  unfold mkR
  dsimp only
  rw [List.getElem?_append_right (Nat.le_refl _),Nat.sub_self]
  dsimp only [List.getElem?_cons_zero]
  rw [if_pos]
  · rfl
  · refine ⟨rfl,rfl,?_⟩
    simp only [strsV,noRefs,noRef,noRefs_str,noRefs_modes,noRefs_idx,Bool.and_self]
theorem make_ok {ws os:List Str} {ms:List Md} {ss:List Str} (h:POk ws os ms ss) (m:Mem) :
    M_law_make [.lst [strsV ws,strsV os,.lst (ms.map modeV),strsV ss]] m=.ok (progV ws os ms (stOf ms ss)) m:=by
  have:=mk_ok h m
  unfold strsV at this
  unfold M_law_make;rw [runD_eq];unfold B_law_make strsV
  simp [this]
end Rp

namespace Rp
open PySem PySem.Spec L2 Rc
open PyProof.Rows hiding St signs

section
variable (ws os:List Str) (ms:List Md) (ss:List Str) (m:Mem)
@[simp] theorem fld_words:fldF ["Program"] "own_words" (.v (progV ws os ms ss)) m=.ok (.v (strsV ws)) m:=id (by kernel_rfl)
@[simp] theorem fld_orders:fldF ["Program"] "own_orders" (.v (progV ws os ms ss)) m=.ok (.v (strsV os)) m:=id (by kernel_rfl)
@[simp] theorem fld_modes:fldF ["Program"] "own_modes" (.v (progV ws os ms ss)) m=.ok (.v (.lst (ms.map modeV))) m:=id (by kernel_rfl)
@[simp] theorem fld_starts:fldF ["Program"] "own_starts" (.v (progV ws os ms ss)) m=.ok (.v (strsV ss)) m:=id (by kernel_rfl)
@[simp] theorem fld_names:fldF ["Program"] "own_names" (.v (progV ws os ms ss)) m=.ok (.v (strsV (nmsOf ms))) m:=id (by kernel_rfl)
@[simp] theorem fld_places:fldF ["Program"] "places" (.v (progV ws os ms ss)) m=.ok (.v (.dic ((nmsOf ms).map .str) (idxV ms.length))) m:=id (by kernel_rfl)
theorem Pmodes:M_Program_modes [progV ws os ms ss] m=.new (.lst (ms.map modeV)) m:=by
  unfold M_Program_modes;rw [runD_eq];unfold B_Program_modes
  simp
@[simp] theorem meth_modes:(pMeth "modes" [("Program",F_Program_modes)]).F (.v (progV ws os ms ss)) m=some fun as mem=>(match vals as with
      | some xs=>retR (M_Program_modes (progV ws os ms ss :: xs) mem)
      | none=>.stuck):=id (by kernel_rfl)
end
structure NOk (ms:List Md) (ns:List Int):Prop where
  len:ns.length=ms.length
  pos:∀ n∈ns,0≤n∧n≤1000000000000
def intsV (ns:List Int):MV:=.tup (ns.map .int)
def callP (p:Md × Int):Option (Str × Int):=if p.1.2.1≠("":Str)∧0 < p.2 then some (p.1.2.1,p.2) else none
def callers (ms:List Md) (ns:List Int):List (Str × Int):=(ms.zip ns).filterMap callP
def soundOf (ms:List Md) (ns:List Int):Str:=if ((callers ms ns).map (·.2)).sum=0 then "quiet" else if ((callers ms ns).map (·.2)).sum=1 then ((callers ms ns).head?.map (·.1)).getD "" else "noise"
theorem sum_nonneg:∀ {xs:List Int},(∀ x∈xs,0≤x)→0≤xs.sum
  | [],_=>by simp
  | x :: xs,h=>by
    have h1:=h x List.mem_cons_self
    have h2:=sum_nonneg fun y hy=>h y (List.mem_cons_of_mem _ hy)
    simp;omega
end Rp

namespace Rp
open PySem PySem.Spec L2 Rc
open PyProof.Rows hiding St signs

abbrev bg (b:Bag) (rest:Mem):Mem:=some (.lst b.cont) :: rest
@[simp] theorem draw_eq (b:Bag) (n:Int) (rest:Mem) (h:1≤n∧n < 2 ^ 64):M_law_draw [.ref 0,.int n] (bg b rest)=.ok (.int (dr b n).1) (bg (dr b n).2 rest):=dr_eq b h rest
theorem draw_nat (b:Bag) (n:Nat) (h:1≤n∧n < 2 ^ 63) (rest:Mem):∃ (k:Nat) (b':Bag),k < n∧M_law_draw [.ref 0,.int n] (bg b rest)=.ok (.int k) (bg b' rest):=by
  have hd:(1:Int)≤n∧(n:Int) < 2 ^ 64:=by omega
  have h1:=dr_lo b hd
  have h2:=dr_hi b hd
  refine ⟨(dr b n).1.toNat,(dr b n).2,by omega,?_⟩
  rw [draw_eq b n rest hd]
  congr 2
  omega
theorem of_ex (b:Bag) (xs:List MV) (h:1≤xs.length∧xs.length < 2 ^ 62) (rest:Mem):∃ (x:MV) (b':Bag),x∈xs∧M_law_of [.ref 0,.lst xs] (bg b rest)=.ok x (bg b' rest):=by
  have hd:(1:Int)≤xs.length∧(xs.length:Int) < 2 ^ 64:=by omega
  have h1:=dr_lo b hd
  have h2:=dr_hi b hd
  refine ⟨_,_,?_,of_lst b xs (by omega) rest⟩
  have:(dr b xs.length).1.toNat < xs.length:=by omega
  rw [List.getD_eq_getElem?_getD,List.getElem?_eq_getElem this]
  exact List.getElem_mem this
theorem of_sign (b:Bag) (z:Str) (h:1≤z.length∧z.length≤sizeLine) (rest:Mem):∃ (c:Nat) (b':Bag),c∈z.cps.toList∧M_law_of [.ref 0,.str z] (bg b rest)=.ok (.str ⟨#[c]⟩) (bg b' rest):=by
  have hs:=sizeLine_eq
  have hd:(1:Int)≤z.length∧(z.length:Int) < 2 ^ 64:=by omega
  have h1:=dr_lo b hd
  have h2:=dr_hi b hd
  refine ⟨_,_,?_,of_str b z h rest⟩
  have e:z.cps.toList.length=z.length:=by simp [Str.length]
  have:(dr b z.length).1.toNat < z.cps.toList.length:=by omega
  rw [List.getD_eq_getElem?_getD,List.getElem?_eq_getElem this]
  exact List.getElem_mem this
def S (cs:List Nat):Str:=⟨cs.toArray⟩
theorem S_cps (cs:List Nat):(S cs).cps.toList=cs:=by simp [S]
theorem S_len (cs:List Nat):(S cs).length=cs.length:=by simp [S,Str.length]
theorem S_inj {a b:List Nat} (h:S a=S b):a=b:=by
  have:=congrArg (fun z:Str=>z.cps.toList) h
  simpa [S] using this
theorem S_app (a b:List Nat):S a++S b=S (a++b):=by
  show Str.append (S a) (S b)=_
  unfold Str.append S
  simp
theorem cut_lo (cs:List Nat) (k:Nat) (h:k≤cs.length):cutS (S cs) none (some (k:Int))=S (cs.take k):=by
  unfold cutS
  rw [HT.sIx_none,HT.sIx_nat,S_len,S_cps]
  unfold S
  simp [Nat.min_eq_left h]
theorem cut_hi (cs:List Nat) (k:Nat) (h:k≤cs.length):cutS (S cs) (some (k:Int)) none=S (cs.drop k):=by
  unfold cutS
  rw [HT.sIx_none,HT.sIx_nat,S_len,S_cps,Nat.min_eq_left h]
  unfold S
  congr 2
  apply List.take_of_length_le
  simp
theorem glue0:∀ (cs:List Nat) (acc:Array Nat),(cs.map fun c=>S [c]).foldl (fun acc p=>acc++("":Str).cps++p.cps) acc=acc++cs.toArray
  | [],acc=>by simp
  | c :: cs,acc=>by
    have h0:("":Str).cps=#[]:=by decide
    rw [List.map_cons,List.foldl_cons,glue0 cs,h0]
    simp [S]
theorem join0 (cs:List Nat) (h:cs.length≤1000) (m:Mem):joinF ("":Str) [.v (.lst (cs.map fun c=>MV.str ⟨#[c]⟩))] m=.ok (.v (.str (S cs))) m:=by
  have h0:("":Str).length=0:=by decide
  have e:cs.map (fun c=>MV.str ⟨#[c]⟩)=(cs.map fun c=>S [c]).map MV.str:=by
    rw [List.map_map];rfl
  have hsum:((cs.map fun c=>S [c]).map fun z:Str=>z.length).sum=cs.length:=by
    clear h e
    induction cs with
    | nil=>rfl
    | cons c cs ih=>simp only [List.map_cons,List.sum_cons,ih,S_len,List.length_cons,List.length_nil];omega
  unfold joinF
  dsimp only
  rw [e]
  show (match some (Sq.l ((cs.map fun c=>S [c]).map MV.str)) with
    | some (.l xs)=>(match strsOf xs with
      | some ys=>if (ys.map fun z:Str=>z.length).sum + ys.length * ("":Str).length≤16777216 then R.ok (OV.v (.str (Txt.join ("":Str) ys))) m else .stuck
      | none=>.stuck)
    | _=>.stuck)=_
  dsimp only
  rw [strsOf_map]
  dsimp only
  rw [if_pos (by rw [hsum,h0];omega)]
  congr 3
  unfold Txt.join
  cases cs with
  | nil=>decide
  | cons c cs =>
    show (⟨((cs.map fun c=>S [c])).foldl (fun acc p=>acc++("":Str).cps++p.cps) (S [c]).cps⟩:Str)=_
    rw [glue0]
    simp [S]
def lt (i:Nat):Nat:=letters.cps.toList.getD i 0
def nameOf (st:List Nat) (at_ first k:Nat):Str:=S (st.take at_++[lt ((first + 5 * k) % 26)]++st.drop at_)
theorem lt_mem:∀ i < 26,lt i∈letters.cps.toList:=by decide
theorem lt_inj:∀ i < 26,∀ j < 26,lt i=lt j→i=j:=by decide
theorem nameOf_len {st:List Nat} {a f k:Nat}:(nameOf st a f k).length=st.length + 1:=by
  unfold nameOf
  rw [S_len]
  simp
  omega
theorem nameOf_inj {st:List Nat} {a f i j:Nat} (ha:a≤st.length) (hi:i < 26) (hj:j < 26) (h:nameOf st a f i=nameOf st a f j):i=j:=by
  unfold nameOf at h
  have h:=S_inj h
  rw [List.append_assoc,List.append_assoc] at h
  have h:=List.append_cancel_left h
  have h2:=(List.cons.inj (show lt ((f + 5 * i) % 26) :: st.drop a=lt ((f + 5 * j) % 26) :: st.drop a from h)).1
  have h3:=lt_inj _ (Nat.mod_lt _ (by decide)) _ (Nat.mod_lt _ (by decide)) h2
  omega
theorem nameOf_nm {st:List Nat} {a f k:Nat} (h:∀ c∈st,c∈letters.cps.toList) (hl:st.length≤5):Nm (nameOf st a f k):=by
  refine ⟨by rw [nameOf_len];omega,fun c hc=>?_⟩
  unfold nameOf at hc
  rw [S_cps] at hc
  simp only [List.mem_append,List.mem_singleton] at hc
  rcases hc with (hc | rfl) | hc
  · exact h c (List.mem_of_mem_take hc)
  · exact lt_mem _ (Nat.mod_lt _ (by decide))
  · exact h c (List.mem_of_mem_drop hc)
theorem nodup_range {n:Nat} {f:Nat→Str} (h:∀ i j,i < n→j < n→f i=f j→i=j):((List.range n).map f).Nodup:=by
  refine List.pairwise_iff_getElem.mpr fun i j hi hj hij e=>?_
  simp at hi hj e
  have:=h i j hi hj e
  omega
theorem letters_len:letters.length=26:=by decide
theorem lt_get {i:Nat} (h:i < 26):letters.cps.toList[i]? = some (lt i):=by
  have:i < letters.cps.toList.length:=by
    have:letters.cps.toList.length=26:=by decide
    omega
  unfold lt
  rw [List.getD_eq_getElem?_getD,List.getElem?_eq_getElem this]
  rfl
theorem one_comp {L:Str} (hll:L.length≤sizeLine) (hLg:∀ i < 26,L.cps[i]? = some (lt i)) {st:List Nat} {at_ fi n:Nat} {m:Mem} (hst:st.length≤5) (hat:at_≤st.length) (hn:n≤1000) {a0 a1 a6:Option SV}:compM (compTurnF [6] (.name 6) (evTs .nil) (ev (.pr (pBin .add) (.cons (.pr (pBin .add) (.cons (.pr pSlH (.cons (.slot 3) (.cons (.slot 4) .nil))) (.cons (.pr pIx (.cons (.slot 2) (.cons (.pr (pBin .mod) (.cons (.pr pInt_ (.cons (.pr (pBin .add) (.cons (.slot 5) (.cons (.pr (pBin .mul) (.cons (.pr (pInt 5) .nil) (.cons (.slot 6) .nil))) .nil))) .nil)) (.cons (.pr (pInt 26) .nil) .nil))) .nil))) .nil))) (.cons (.pr pSlL (.cons (.slot 3) (.cons (.slot 4) .nil))) .nil)))) [a0,a1,some (SV.v (.str L)),some (SV.v (.str (S st))),some (SV.v (.int at_)),some (SV.v (.int fi)),a6]) [] (rangeM 0 n) [] m=.ok (((List.range n).map (nameOf st at_ fi)).map .str) m:=by
  have hs:=sizeLine_eq
  have hle:(S st).length≤sizeLine:=by rw [S_len];omega
  have h1:(S (st.take at_)).length + (S [0]).length≤sizeLine:=by rw [S_len,S_len];simp;omega
  have:=compM_map (f:=compTurnF [6] (.name 6) (evTs .nil) (ev (.pr (pBin .add) (.cons (.pr (pBin .add) (.cons (.pr pSlH (.cons (.slot 3) (.cons (.slot 4) .nil))) (.cons (.pr pIx (.cons (.slot 2) (.cons (.pr (pBin .mod) (.cons (.pr pInt_ (.cons (.pr (pBin .add) (.cons (.slot 5) (.cons (.pr (pBin .mul) (.cons (.pr (pInt 5) .nil) (.cons (.slot 6) .nil))) .nil))) .nil)) (.cons (.pr (pInt 26) .nil) .nil))) .nil))) .nil))) (.cons (.pr pSlL (.cons (.slot 3) (.cons (.slot 4) .nil))) .nil)))) [a0,a1,some (SV.v (.str L)),some (SV.v (.str (S st))),some (SV.v (.int at_)),some (SV.v (.int fi)),a6]) (h:=fun x=>match x with
    | .int k=>.str (nameOf st at_ fi k.toNat)
    | _=>.non) (m:=m) (xs:=rangeM 0 n) (acc:=[]) (fun y hy=>by
    unfold rangeM at hy
    obtain ⟨k,hk,rfl⟩:=List.mem_map.mp hy
    have hk:=List.mem_range.mp hk
    have ec:((fi:Int) + 5 * (k:Int)) % 26=(((fi + 5 * k) % 26:Nat):Int):=by omega
    have hi:=Nat.mod_lt (fi + 5 * k) (show 0 < 26 by decide)
    have eg:=hLg _ hi
    obtain ⟨ix,hix⟩:∃ ix,(fi + 5 * k) % 26=ix:=⟨_,rfl⟩
    rw [hix] at ec eg hi
    have hn1:(-18446744073709551616 < (k:Int)∧(k:Int) < 18446744073709551616):=by omega
    have e1:=cut_lo st at_ hat
    have e2:=cut_hi st at_ hat
    have l1:(S (st.take at_)).length≤5:=by rw [S_len,List.length_take];omega
    have l3:(S (st.drop at_)).length≤5:=by rw [S_len,List.length_drop];omega
    have sg:(⟨#[lt ix]⟩:Str)=S [lt ix]:=rfl
    have l2:(S [lt ix]).length=1:=by rw [S_len];rfl
    have b1:(S (st.take at_)).length + 1≤sizeLine:=by omega
    have e5:=S_app (st.take at_) [lt ix]
    have e6:=S_app (st.take at_++[lt ix]) (st.drop at_)
    have b2:(S (st.take at_++[lt ix])).length + (S (st.drop at_)).length≤sizeLine:=by rw [S_len,S_len];simp;omega
    simp [hle,hll,ec,eg,hn1,e1,e2,sg,l2,b1,e5,e6,b2,-List.append_assoc]
    unfold nameOf
    rw [hix]) (by simp [rangeM];omega)
  rw [this]
  congr 1
  unfold rangeM
  simp only [List.nil_append,List.map_map]
  apply List.map_congr_left
  intro k _
  show MV.str (nameOf st at_ fi (0 + (k:Int)).toNat)=_
  rw [show (0 + (k:Int)).toNat=k from by omega]
  rfl
theorem new_names_ok (b:Bag) (n:Nat) (hn:n≤5) (rest:Mem):∃ (zs:List Str) (b':Bag),M_law_new_names [.ref 0,.int n] (bg b rest)=.new (.lst (zs.map .str)) (bg b' rest)∧zs.length=n∧zs.Nodup∧(∀ z∈zs,Nm z)∧∃ l,∀ z∈zs,z.length=l:=by
  have hs:=sizeLine_eq
  have s4:(4:Nat)≤sizeLine:=by omega
  unfold M_law_new_names
  simp only [runD_eq]
  unfold B_law_new_names
  -- how long
  obtain ⟨x,b1,hx,e1⟩:=of_ex b [.int 0,.int 1,.int 2,.int 5] (by simp) rest
  obtain ⟨q,rfl,hq⟩:∃ q:Nat,x=.int q∧q≤5:=by
    simp only [List.mem_cons,List.not_mem_nil,or_false] at hx
    rcases hx with rfl | rfl | rfl | rfl
    · exact ⟨0,rfl,by omega⟩
    · exact ⟨1,rfl,by omega⟩
    · exact ⟨2,rfl,by omega⟩
    · exact ⟨5,rfl,by omega⟩
  have hq1:-4611686018427387904≤(q:Int)∧(q:Int) < 4611686018427387904:=by omega
  have hl26:1≤letters.length∧letters.length≤sizeLine:=by rw [letters_len];omega
  -- the signs
  obtain ⟨ys,m',e2,⟨b2,rfl⟩,h3,h4⟩:=compM_inv (f:=compTurnF [6] (.name 6) (evTs .nil) (ev (.pr (pCall F_law_of) (.cons (.slot 0) (.cons (.slot 2) .nil)))) [some (SV.v (.ref 0)),some (SV.v (.int n)),some (SV.v (.str letters)),none,none,none,none]) (fun m=>∃ b,m=bg b rest) (fun y=>∃ c,c∈letters.cps.toList∧y=.str ⟨#[c]⟩) (xs:=rangeM 0 q) (acc:=[]) (m:=bg b1 rest) (fun x hx m hm=>by
    obtain ⟨b,rfl⟩:=hm
    obtain ⟨c,b',hc,e⟩:=of_sign b letters hl26 rest
    refine ⟨.str ⟨#[c]⟩,bg b' rest,?_,⟨b',rfl⟩,c,hc,rfl⟩
    simp [e]) ⟨b1,rfl⟩ (by simp [rangeM];omega)
  obtain ⟨st,rfl,hst⟩:∃ st:List Nat,ys=st.map (fun c=>MV.str ⟨#[c]⟩)∧∀ c∈st,c∈letters.cps.toList:=by
    clear e2 h4
    induction ys with
    | nil=>exact ⟨[],rfl,fun _ h=>by cases h⟩
    | cons y ys ih =>
      obtain ⟨c,hc,rfl⟩:=h3 y List.mem_cons_self
      obtain ⟨st,rfl,hst⟩:=ih fun z hz=>h3 z (List.mem_cons_of_mem _ hz)
      exact ⟨c :: st,rfl,fun d hd=>by
        rcases List.mem_cons.mp hd with rfl | hd
        · exact hc
        · exact hst d hd⟩
  have hstl:st.length=q:=by simpa [rangeM] using h4
  have hj:=join0 st (by omega) (bg b2 rest)
  -- the place,the first sign
  obtain ⟨at_,b3,hat,e3⟩:=draw_nat b2 (st.length + 1) (by omega) rest
  obtain ⟨fi,b4,hfi,e4⟩:=draw_nat b3 26 (by omega) rest
  refine ⟨(List.range n).map (nameOf st at_ fi),b4,?_,by simp,nodup_range fun i j hi hj e=>nameOf_inj (by omega) (by omega) (by omega) e,fun z hz=>?_,st.length + 1,fun z hz=>?_⟩
  · have hle:(S st).length≤sizeLine:=by rw [S_len];omega
    have hn1:-4611686018427387904≤(n:Int)∧(n:Int) < 4611686018427387904:=by omega
    have e4':M_law_draw [.ref 0,.int 26] (bg b3 rest)=.ok (.int fi) (bg b4 rest):=e4
    have e3':M_law_draw [.ref 0,.int ((st.length:Int) + 1)] (bg b2 rest)=.ok (.int at_) (bg b3 rest):=e3
    have s2:(2:Nat)≤sizeLine:=by omega
    have e2':compM (compTurnF [6] (.name 6) (evTs .nil) (ev (.pr (pCall F_law_of) (.cons (.slot 0) (.cons (.slot 2) .nil)))) [some (SV.v (.ref 0)),some (SV.v (.int n)),some (SV.v (.str "abcdefghijklmnopqrstuvwxyz")),none,none,none,none]) [] (rangeM 0 q) [] (bg b1 rest)=.ok (st.map fun c=>MV.str ⟨#[c]⟩) (bg b2 rest):=by rw [List.nil_append] at e2;exact e2
    have hlt:st.length≤sizeLine:=by omega
    have hLl:("abcdefghijklmnopqrstuvwxyz":Str).length≤sizeLine:=hl26.2
    have hLg:∀ i < 26,("abcdefghijklmnopqrstuvwxyz":Str).cps[i]? = some (lt i):=fun i hi=>by
      have:=lt_get hi
      unfold letters at this
      rwa [Array.getElem?_toList] at this
    simp [s4,s2,e1,hq1,e2',hj,S_len,hlt,e3',e4',hn1,one_comp hLl hLg (show st.length≤5 by omega) (show at_≤st.length by omega) (show n≤1000 by omega)]
  · obtain ⟨k,_,rfl⟩:=List.mem_map.mp hz
    exact nameOf_nm hst (by omega)
  · obtain ⟨k,_,rfl⟩:=List.mem_map.mp hz
    exact nameOf_len
end Rp

namespace Rp
open PySem PySem.Spec L2 Rc
open PyProof.Rows hiding St signs

def wq (z:Str):Str:=if z∈[("quiet":Str),("noise":Str)] then cutS z none (some 4) else z
theorem wq_quiet:wq "quiet" = "quie":=by decide
theorem wq_noise:wq "noise" = "nois":=by decide
theorem wq_wd {z:Str} (h:Nm z):Wd (wq z):=by
  by_cases h1:z=("quiet":Str)
  · subst h1;rw [wq_quiet];exact ⟨⟨by decide,by decide⟩,by decide,by decide⟩
  · by_cases h2:z=("noise":Str)
    · subst h2;rw [wq_noise];exact ⟨⟨by decide,by decide⟩,by decide,by decide⟩
    · have:wq z=z:=by unfold wq;rw [if_neg];simp [h1,h2]
      rw [this]
      exact ⟨h,h1,h2⟩
theorem wq_inj {z y:Str} (hl:z.length=y.length) (h:wq z=wq y):z=y:=by
  have q5:("quiet":Str).length=5:=by decide
  have n5:("noise":Str).length=5:=by decide
  have q4:("quie":Str).length=4:=by decide
  have n4:("nois":Str).length=4:=by decide
  have two:∀ z:Str,(z=("quiet":Str)∧wq z="quie")∨(z=("noise":Str)∧wq z="nois")∨wq z=z:=fun z=>by
    by_cases h1:z=("quiet":Str)
    · subst h1;exact .inl ⟨rfl,wq_quiet⟩
    · by_cases h2:z=("noise":Str)
      · subst h2;exact .inr (.inl ⟨rfl,wq_noise⟩)
      · refine .inr (.inr ?_)
        unfold wq;rw [if_neg];simp [h1,h2]
  rcases two z with ⟨a1,a2⟩ | ⟨a1,a2⟩ | a <;> rcases two y with ⟨b1,b2⟩ | ⟨b1,b2⟩ | b
  · rw [a1,b1]
  · rw [a2,b2] at h;exact absurd h (by decide)
  · rw [a2,b] at h;rw [← h,a1,q5,q4] at hl;omega
  · rw [a2,b2] at h;exact absurd h (by decide)
  · rw [a1,b1]
  · rw [a2,b] at h;rw [← h,a1,n5,n4] at hl;omega
  · rw [a,b2] at h;rw [h,b1,q5,q4] at hl;omega
  · rw [a,b2] at h;rw [h,b1,n5,n4] at hl;omega
  · rw [a,b] at h;exact h
theorem nodup_map {f:Str→Str} {zs:List Str} (hn:zs.Nodup) (h:∀ x∈zs,∀ y∈zs,f x=f y→x=y):(zs.map f).Nodup:=by
  refine List.pairwise_iff_getElem.mpr fun i j hi hj hij e=>?_
  simp at hi hj e
  have:=h _ (List.getElem_mem hi) _ (List.getElem_mem hj) e
  exact List.pairwise_iff_getElem.mp hn i j hi hj hij this
theorem words_ok (b:Bag) (n:Nat) (hn:n≤5) (rest:Mem):∃ (zs:List Str) (b':Bag),M_law_words [.ref 0,.int n] (bg b rest)=.new (.lst (zs.map .str)) (bg b' rest)∧zs.length=n∧zs.Nodup∧∀ z∈zs,Wd z:=by
  have hs:=sizeLine_eq
  have s2:(2:Nat)≤sizeLine:=by omega
  obtain ⟨zs,b',e,h1,h2,h3,l,h4⟩:=new_names_ok b n hn rest
  refine ⟨zs.map wq,b',?_,by simp [h1],nodup_map h2 fun x hx y hy q=>wq_inj (by rw [h4 x hx,h4 y hy]) q,fun z hz=>?_⟩
  · unfold M_law_words;rw [runD_eq];unfold B_law_words
    have hc:∀ a0 a1 a2,compM (compTurnF [2] (.name 2) (evTs .nil) (ev (.ite (.cmp cIn (.slot 2) (.fr (.pr fLst (.cons (.pr (pStr "quiet") .nil) (.cons (.pr (pStr "noise") .nil) .nil))))) (.pr pSlH (.cons (.slot 2) (.cons (.pr (pInt 4) .nil) .nil))) (.slot 2))) [a0,a1,a2]) [] (zs.map .str) [] (bg b' rest)=.ok ((zs.map wq).map .str) (bg b' rest):=fun a0 a1 a2=>by
      have:=compM_map (f:=compTurnF [2] (.name 2) (evTs .nil) (ev (.ite (.cmp cIn (.slot 2) (.fr (.pr fLst (.cons (.pr (pStr "quiet") .nil) (.cons (.pr (pStr "noise") .nil) .nil))))) (.pr pSlH (.cons (.slot 2) (.cons (.pr (pInt 4) .nil) .nil))) (.slot 2))) [a0,a1,a2]) (h:=fun x=>match x with
        | .str z=>.str (wq z)
        | _=>.non) (m:=bg b' rest) (xs:=zs.map .str) (acc:=[]) (fun y hy=>by
        obtain ⟨z,hz,rfl⟩:=mem_str hy
        have el:=(h3 z hz).line
        have ei:=inB_strs (bg b' rest) z [("quiet":Str),("noise":Str)]
        simp only [List.map_cons,List.map_nil] at ei
        unfold wq
        by_cases hm:z∈[("quiet":Str),("noise":Str)]
        · simp [-List.mem_cons,s2,ei,hm,el]
        · simp [-List.mem_cons,s2,ei,hm,el]) (by simp;omega)
      rw [this]
      simp only [List.nil_append,List.map_map]
      rfl
    simp [e,hc]
  · obtain ⟨y,hy,rfl⟩:=List.mem_map.mp hz
    exact wq_wd (h3 y hy)
theorem strs_of {P:Str→Prop}:∀ {ys:List MV},(∀ y∈ys,∃ g,P g∧y=MV.str g)→∃ r:List Str,ys=r.map .str∧∀ g∈r,P g
  | [],_=>⟨[],rfl,fun _ h=>by cases h⟩
  | y :: ys,h=>by
    obtain ⟨g,hg,rfl⟩:=h y List.mem_cons_self
    obtain ⟨r,rfl,hr⟩:=strs_of fun z hz=>h z (List.mem_cons_of_mem _ hz)
    exact ⟨g :: r,rfl,fun d hd=>by
      rcases List.mem_cons.mp hd with rfl | hd
      · exact hg
      · exact hr d hd⟩
theorem of_strs (b:Bag) (zs:List Str) (h:1≤zs.length∧zs.length≤1000) (rest:Mem):∃ (z:Str) (b':Bag),z∈zs∧M_law_of [.ref 0,.lst (zs.map .str)] (bg b rest)=.ok (.str z) (bg b' rest):=by
  obtain ⟨x,b',hx,e⟩:=of_ex b (zs.map .str) (by simp;omega) rest
  obtain ⟨z,hz,rfl⟩:=mem_str hx
  exact ⟨z,b',hz,e⟩
theorem row_ex (b:Bag) {names:List Str} (hn:1≤names.length∧names.length≤1000) (n:Nat) (h:n≤1000) (rest:Mem) {s:Sl} (h0:∀ x:SV,(s.set 12 none).length=13→(((s.set 12 none).set 12 (some x))[0]? = some (some (.v (.ref 0)))∧((s.set 12 none).set 12 (some x))[6]? = some (some (.v (.lst (names.map .str)))))) (hl:s.length=13) :
    ∃ (r:List Str) (b':Bag),compM (compTurnF [12] (.name 12) (evTs .nil) (ev (.pr (pCall F_law_of) (.cons (.slot 0) (.cons (.slot 6) .nil)))) s) [] (rangeM 0 n) [] (bg b rest)=.ok (r.map .str) (bg b' rest)∧r.length=n∧∀ g∈r,g∈names:=by
  have hs:=sizeLine_eq
  obtain ⟨ys,m',e2,⟨b2,rfl⟩,h3,h4⟩:=compM_inv (f:=compTurnF [12] (.name 12) (evTs .nil) (ev (.pr (pCall F_law_of) (.cons (.slot 0) (.cons (.slot 6) .nil)))) s) (fun m=>∃ b,m=bg b rest) (fun y=>∃ g,g∈names∧y=MV.str g) (xs:=rangeM 0 n) (acc:=[]) (m:=bg b rest) (fun x hx m hm=>by
    obtain ⟨b,rfl⟩:=hm
    obtain ⟨z,b',hz,e⟩:=of_strs b names hn rest
    obtain ⟨q0,q6⟩:=h0 (.v x) (by simp [hl])
    refine ⟨.str z,bg b' rest,?_,⟨b',rfl⟩,z,hz,rfl⟩
    rw [compTurnF_eq,wipeS_c,wipeS_n,assignG_n,asC_s,evTs_nil,bd_ok,if_pos rfl,ev_pr,evs_cons,ev_slot,q0,slotR_v,bd_ok,evs_cons,ev_slot,q6,slotR_v,bd_ok,evs_nil]
    simp [e]) ⟨b,rfl⟩ (by simp [rangeM];omega)
  obtain ⟨r,rfl,hr⟩:=strs_of h3
  exact ⟨r,b2,by simpa using e2,by simpa [rangeM] using h4,hr⟩
theorem compM_pick {f:MV→Mem→R (Option MV)} (J:Mem→Prop):∀ {zs:List Str} {acc:List MV} {m:Mem},(∀ z∈zs,∀ m,J m→∃ (o:Bool) (m':Mem),f (.str z) m=.ok (if o=true then some (.str z) else none) m'∧J m')→J m→acc.length + zs.length≤sizeLine →
    ∃ (ys:List Str) (m':Mem),compM f [] (zs.map .str) acc m=.ok (acc++ys.map .str) m'∧J m'∧ys.Sublist zs
  | [],acc,m,_,hm,_=>⟨[],m,by unfold compM;simp only [List.map_nil];rw [if_pos (OkW_nil m)];simp,hm,.slnil⟩
  | z :: zs,acc,m,hf,hm,hl=>by
    obtain ⟨o,m1,e,h1⟩:=hf z List.mem_cons_self m hm
    rw [List.length_cons] at hl
    cases o with
    | true =>
      obtain ⟨ys,m2,e2,h3,h4⟩:=compM_pick J (zs:=zs) (acc:=acc++[.str z]) (fun y hy=>hf y (List.mem_cons_of_mem _ hy)) h1 (by simp;omega)
      refine ⟨z :: ys,m2,?_,h3,h4.cons_cons z⟩
      rw [List.map_cons,compM_cons,if_pos (OkW_nil m),e]
      show (if acc.length < sizeLine then compM f [] (zs.map .str) (acc++[.str z]) m1 else .stuck)=_
      rw [if_pos (by omega),e2]
      simp
    | false =>
      obtain ⟨ys,m2,e2,h3,h4⟩:=compM_pick J (zs:=zs) (acc:=acc) (fun y hy=>hf y (List.mem_cons_of_mem _ hy)) h1 (by omega)
      refine ⟨ys,m2,?_,h3,h4.cons z⟩
      rw [List.map_cons,compM_cons,if_pos (OkW_nil m),e]
      exact e2
theorem Dat_strs (n:Nat) (zs:List Str):Dat (n + 1) (.lst (zs.map .str)):=(Dat_lst n _).mpr fun x hx=>by
  obtain ⟨z,_,rfl⟩:=mem_str hx
  exact Dat_str _ _
@[simp] theorem ne_nil (zs:List Str) (m:Mem):neO (.v (.lst (zs.map .str))) (.v (.lst [])) m=.ok (.v (.bl (!zs.isEmpty))) m:=by
  rw [neO_v m (.lst (zs.map .str)) (.lst []) (Dat_strs 63 zs) (Dat_strs 63 []) _ _ rfl rfl,eqB_ll]
  cases zs with
  | nil=>rw [List.map_nil,eqBs_nil];rfl
  | cons z zs=>rw [List.map_cons,eqBs_cn];rfl
end Rp

namespace Rp
open PySem PySem.Spec L2 Rc
open PyProof.Rows hiding St signs

theorem rows_of {P:List Str→Prop}:∀ {ys:List MV},(∀ y∈ys,∃ r,P r∧y=rowV r)→∃ rs:List (List Str),ys=rs.map rowV∧∀ r∈rs,P r
  | [],_=>⟨[],rfl,fun _ h=>by cases h⟩
  | y :: ys,h=>by
    obtain ⟨g,hg,rfl⟩:=h y List.mem_cons_self
    obtain ⟨r,rfl,hr⟩:=rows_of fun z hz=>h z (List.mem_cons_of_mem _ hz)
    exact ⟨g :: r,rfl,fun d hd=>by
      rcases List.mem_cons.mp hd with rfl | hd
      · exact hg
      · exact hr d hd⟩
theorem lines_ex (b:Bag) {ws os names:List Str} (hn:1≤names.length∧names.length≤1000) (hw:ws.length≤5) (ho:os.length≤5) (rest:Mem) {a1 a2 a3 a7 a8 a9 a10 a11 a12:Option SV} :
    ∃ (rs:List (List Str)) (b':Bag),compM (compTurnF [12] (.name 12) (evTs .nil) (ev (.pr pTuple (.cons (.fr (.comp [12] (.name 12) (.pr iRange1 (.cons (.pr (pBin .add) (.cons (.pr pLen (.cons (.slot 4) .nil)) (.cons (.pr (pInt 2) .nil) .nil))) .nil)) .nil (.pr (pCall F_law_of) (.cons (.slot 0) (.cons (.slot 6) .nil))))) .nil))) [some (SV.v (.ref 0)),a1,a2,a3,some (SV.v (.lst (ws.map .str))),some (SV.v (.lst (os.map .str))),some (SV.v (.lst (names.map .str))),a7,a8,a9,a10,a11,a12]) [] (rangeM 0 os.length) [] (bg b rest)=.ok (rs.map rowV) (bg b' rest)∧rs.length=os.length∧∀ r∈rs,r.length=ws.length + 2∧∀ g∈r,g∈names:=by
  have hs:=sizeLine_eq
  obtain ⟨ys,m',e2,⟨b2,rfl⟩,h3,h4⟩:=compM_inv (f:=compTurnF [12] (.name 12) (evTs .nil) (ev (.pr pTuple (.cons (.fr (.comp [12] (.name 12) (.pr iRange1 (.cons (.pr (pBin .add) (.cons (.pr pLen (.cons (.slot 4) .nil)) (.cons (.pr (pInt 2) .nil) .nil))) .nil)) .nil (.pr (pCall F_law_of) (.cons (.slot 0) (.cons (.slot 6) .nil))))) .nil))) [some (SV.v (.ref 0)),a1,a2,a3,some (SV.v (.lst (ws.map .str))),some (SV.v (.lst (os.map .str))),some (SV.v (.lst (names.map .str))),a7,a8,a9,a10,a11,a12]) (fun m=>∃ b,m=bg b rest) (fun y=>∃ r,(r.length=ws.length + 2∧∀ g∈r,g∈names)∧y=rowV r) (xs:=rangeM 0 os.length) (acc:=[]) (m:=bg b rest) (fun x hx m hm=>by
    obtain ⟨b,rfl⟩:=hm
    obtain ⟨r,b',e,h5,h6⟩:=row_ex b hn (ws.length + 2) (by omega) rest (s:=[some (SV.v (.ref 0)),a1,a2,a3,some (SV.v (.lst (ws.map .str))),some (SV.v (.lst (os.map .str))),some (SV.v (.lst (names.map .str))),a7,a8,a9,a10,a11,some (SV.v x)]) (fun x _=>⟨rfl,rfl⟩) rfl
    have hb:-4611686018427387904≤(ws.length:Int) + 2∧(ws.length:Int) + 2 < 4611686018427387904:=by omega
    have ht:((ws.length:Int) + 2).toNat=ws.length + 2:=by omega
    refine ⟨rowV r,bg b' rest,?_,⟨b',rfl⟩,r,⟨h5,h6⟩,rfl⟩
    unfold rowV
    simp [hb,ht,e]) ⟨b,rfl⟩ (by simp [rangeM];omega)
  obtain ⟨rs,rfl,hr⟩:=rows_of h3
  exact ⟨rs,b2,by simpa using e2,by simpa [rangeM] using h4,hr⟩
structure SOk (ws os:List Str) (ms:List Md) (ss:List Str) (tw to tm:Nat):Prop where
  ok:POk ws os ms ss
  tw:ws.length≤tw
  to:os.length≤to
  tm:ms.length≤tm
def specL (ws os:List Str) (ms:List Md) (ss:List Str):List MV:=[strsV ws,strsV os,.lst (ms.map modeV),strsV ss]
theorem draw_spec_ok (b:Bag) (tw to tm:Nat) (h1:tw≤2) (h2:1≤to∧to≤3) (h3:1≤tm∧tm≤5) (rest:Mem) :
    ∃ (ws os:List Str) (ms:List Md) (ss:List Str) (b':Bag),M_law_draw_spec [.ref 0,.int tw,.int to,.int tm] (bg b rest)=.new (.lst (specL ws os ms ss)) (bg b' rest)∧SOk ws os ms ss tw to tm:=by
  have hs:=sizeLine_eq
  have s0:(0:Nat)≤sizeLine:=by omega
  have s1:(1:Nat)≤sizeLine:=by omega
  have s2:(2:Nat)≤sizeLine:=by omega
  have s3:(3:Nat)≤sizeLine:=by omega
  have s4:(4:Nat)≤sizeLine:=by omega
  obtain ⟨nw,b1,hnw,e1⟩:=draw_nat b (tw + 1) (by omega) rest
  obtain ⟨ws,b2,e2,wl,wd,ww⟩:=words_ok b1 nw (by omega) rest
  obtain ⟨no,b3,hno,e3⟩:=draw_nat b2 to (by omega) rest
  obtain ⟨os,b4,e4,ol,od,on,_⟩:=new_names_ok b3 (1 + no) (by omega) rest
  obtain ⟨nm,b5,hnm,e5⟩:=draw_nat b4 tm (by omega) rest
  obtain ⟨names,b6,e6,nl,nd,nn,_⟩:=new_names_ok b5 (1 + nm) (by omega) rest
  have e1':M_law_draw [.ref 0,.int ((tw:Int) + 1)] (bg b rest)=.ok (.int nw) (bg b1 rest):=e1
  have e4':M_law_new_names [.ref 0,.int (1 + (no:Int))] (bg b3 rest)=.new (.lst (os.map .str)) (bg b4 rest):=by rw [← e4];simp
  have e6':M_law_new_names [.ref 0,.int (1 + (nm:Int))] (bg b5 rest)=.new (.lst (names.map .str)) (bg b6 rest):=by rw [← e6];simp
  unfold M_law_draw_spec
  simp only [runD_eq]
  unfold B_law_draw_spec
  simp [e1',e2,e3,e4',e5,e6',s0]
  generalize hf:turnS (.name 8) _=f
  -- the modes
  obtain ⟨s',m',el,⟨a8,a10,a11,ds,b7,rfl,rfl,hd1,hd2⟩⟩:=forS_ix (f:=f) (fun i s m=>∃ a8 a10 a11 ds b7,s=[some (SV.v (.ref 0)),some (SV.v (.int tw)),some (SV.v (.int to)),some (SV.v (.int tm)),some (SV.v (.lst (ws.map .str))),some (SV.v (.lst (os.map .str))),some (SV.v (.lst (names.map .str))),some (SV.own (.lst (ds.map modeV))),a8,none,a10,a11,none]∧m=bg b7 rest∧nmsOf ds=names.take i∧∀ d∈ds,MdOk ws os names d) (xs:=names.map .str) (s:=[some (SV.v (.ref 0)),some (SV.v (.int tw)),some (SV.v (.int to)),some (SV.v (.int tm)),some (SV.v (.lst (ws.map .str))),some (SV.v (.lst (os.map .str))),some (SV.v (.lst (names.map .str))),some (SV.own (.lst [])),none,none,none,none,none]) (m:=bg b6 rest) 0 (fun i x hx s m hI=>by
    obtain ⟨a8,a10,a11,ds,b7,rfl,rfl,hd1,hd2⟩:=hI
    rw [List.getElem?_map] at hx
    cases hz:names[i]? with
    | none=>rw [hz] at hx;cases hx
    | some z =>
      rw [hz] at hx;cases hx
      have hi:=(List.getElem?_eq_some_iff.mp hz).1
      have ez:=(List.getElem?_eq_some_iff.mp hz).2
      obtain ⟨c,b8,hc,e8⟩:=of_strs b7 ([("":Str),("":Str)]++ws++ws) (by simp;omega) rest
      have hcc:c=("":Str)∨c∈ws:=by
        simp only [List.mem_append,List.mem_cons,List.not_mem_nil,or_false] at hc
        rcases hc with ((h | h) | h) | h
        · exact .inl h
        · exact .inl h
        · exact .inr h
        · exact .inr h
      obtain ⟨rs,b9,e9,hr1,hr2⟩:=lines_ex b8 (ws:=ws) (os:=os) (names:=names) (by omega) (by omega) (by omega) rest (a1:=some (SV.v (.int tw))) (a2:=some (SV.v (.int to))) (a3:=some (SV.v (.int tm))) (a7:=some (SV.own (.lst (ds.map modeV)))) (a8:=some (SV.v (.str z))) (a9:=none) (a10:=some (SV.v (.str c))) (a11:=a11) (a12:=none)
      have hlen:ds.length=i:=by
        have:=congrArg List.length hd1
        rw [List.length_take] at this
        have:=nms_len ds
        omega
      refine ⟨_,_,?_,some (SV.v (.str z)),some (SV.v (.str c)),some (SV.v (.lst (rs.map rowV))),ds++[(z,c,rs)],b9,rfl,rfl,?_,fun d hd=>?_⟩
      · have w1:2 + ws.length≤sizeLine:=by omega
        have w2:2 + ws.length + ws.length≤sizeLine:=by omega
        have ho1:-4611686018427387904≤(os.length:Int)∧(os.length:Int) < 4611686018427387904:=by omega
        have hd3:ds.length < sizeLine:=by omega
        rw [← hf]
        simp only [List.map_append,List.map_cons,List.map_nil,List.append_assoc,List.cons_append,List.nil_append] at e8
        have w3:ws.length + 1 + 1 + ws.length≤sizeLine:=by omega
        simp [e8,e9,s2,s3,w1,w2,w3,ho1,hd3]
        rfl
      · show nmsOf (ds++[(z,c,rs)])=names.take (0 + i + 1)
        rw [show 0 + i + 1=i + 1 from by omega,List.take_succ_eq_append_getElem hi,ez]
        rw [show 0 + i=i from by omega] at hd1
        unfold nmsOf at hd1 ⊢
        rw [List.map_append,hd1];rfl
      · rcases List.mem_append.mp hd with hd | hd
        · exact hd2 d hd
        · rw [List.mem_singleton.mp hd]
          exact ⟨nn z (List.mem_of_getElem? hz),hcc,hr1,hr2⟩) ⟨none,none,none,[],b6,rfl,rfl,rfl,fun _ h=>by cases h⟩
  have hnm:nmsOf ds=names:=by
    rw [hd1]
    apply List.take_of_length_le
    simp
  rw [el]
  -- the starts
  obtain ⟨fs,m',ep,⟨b8,rfl⟩,hsub⟩:=compM_pick (f:=compTurnF [8] (.name 8) (evTs (.one (.cmp cEq (.pr (pCall F_law_draw) (.cons (.slot 0) (.cons (.pr (pInt 2) .nil) .nil))) (.pr (pInt 0) .nil)))) (ev (.slot 8)) [some (SV.v (.ref 0)),some (SV.v (.int tw)),some (SV.v (.int to)),some (SV.v (.int tm)),some (SV.v (.lst (ws.map .str))),some (SV.v (.lst (os.map .str))),some (SV.v (.lst (names.map .str))),some (SV.v (.lst (ds.map modeV))),a8,none,a10,a11,none]) (fun m=>∃ b,m=bg b rest) (zs:=names) (acc:=[]) (m:=bg b7 rest) (fun z hz m hm=>by
    obtain ⟨b,rfl⟩:=hm
    obtain ⟨k,b',hk,e⟩:=draw_nat b 2 (by omega) rest
    have e':M_law_draw [.ref 0,.int 2] (bg b rest)=.ok (.int k) (bg b' rest):=e
    refine ⟨decide (k=0),bg b' rest,?_,b',rfl⟩
    by_cases h0:k=0
    · subst h0
      simp [e']
    · have h0':¬ (k:Int)=0:=by omega
      simp [e',h0]) ⟨b7,rfl⟩ (by simp;omega)
  have ep':compM (compTurnF [8] (.name 8) (evTs (.one (.cmp cEq (.pr (pCall F_law_draw) (.cons (.slot 0) (.cons (.pr (pInt 2) .nil) .nil))) (.pr (pInt 0) .nil)))) (ev (.slot 8)) [some (SV.v (.ref 0)),some (SV.v (.int tw)),some (SV.v (.int to)),some (SV.v (.int tm)),some (SV.v (.lst (ws.map .str))),some (SV.v (.lst (os.map .str))),some (SV.v (.lst (names.map .str))),some (SV.v (.lst (ds.map modeV))),a8,none,a10,a11,none]) [] (names.map .str) [] (bg b7 rest)=.ok (fs.map .str) (bg b8 rest):=by simpa using ep
  have hdl:ds.length=names.length:=by rw [← hnm,nms_len]
  have mk:∀ (ss:List Str),(∀ s∈ss,s∈names)→ss.Nodup→1≤ss.length→ss.length≤names.length→SOk ws os ds ss tw to tm:=fun ss h1 h2 h3 h4=>by
    refine ⟨⟨ww,wd,by omega,on,od,by omega,by omega,fun d hd=>by rw [hnm];exact hd2 d hd,by rw [hnm];exact nd,by omega,by omega,fun s hs=>by rw [hnm];exact h1 s hs,h2,h3,by omega⟩,by omega,by omega,by omega⟩
  cases fs with
  | cons z zs =>
    refine ⟨ws,os,ds,z :: zs,⟨b8,?_⟩,mk (z :: zs) (fun s hs=>hsub.subset hs) (hsub.nodup nd) (by simp) hsub.length_le⟩
    have en:=ne_nil (z :: zs) (bg b8 rest)
    simp [ep',s0,s4,en,-List.map_cons]
    rfl
  | nil =>
    obtain ⟨z,b9,hz,e9⟩:=of_strs b8 names (by omega) rest
    refine ⟨ws,os,ds,[z],⟨b9,?_⟩,mk [z] (fun s hs=>by rw [List.mem_singleton.mp hs];exact hz) (by simp) (by simp) (by simp;omega)⟩
    have en:=ne_nil [] (bg b8 rest)
    simp only [List.map_nil] at en
    simp [ep',s0,s1,s4,en,e9]
    rfl
end Rp

namespace Rp
open PySem PySem.Spec L2 Rc
open PyProof.Rows hiding St signs

structure RmOk (ms:List Md) (ns:List Int):Prop where
  n:NOk ms ns
  s1:1≤ns.sum
  s2:ns.sum≤1000000000000
def pl:Nat→MV→Bool
  | 0,_=>false
  | n + 1,x=>match x with
    | .non=>true
    | .bl _=>true
    | .int _=>true
    | .str _=>true
    | .tup xs=>decide (xs.length≤sizeLine)&&xs.all (pl n)
    | .lst xs=>decide (xs.length≤sizeLine)&&xs.all (pl n)
    | _=>false
theorem zipM_self:∀ {xs:List MV} {y:MV},y∈zipM xs xs→∃ x∈xs,y=.tup [x,x]
  | x :: xs,y,h=>by
    rcases List.mem_cons.mp (show y∈MV.tup [x,x] :: zipM xs xs from h) with e | h
    · exact ⟨x,List.mem_cons_self,e⟩
    · obtain ⟨z,hz,e⟩:=zipM_self h
      exact ⟨z,List.mem_cons_of_mem _ hz,e⟩
theorem zipM_len (xs:List MV):(zipM xs xs).length=xs.length:=by simp [zipM]
theorem blsM_rep {α:Type} (xs:List α):blsM (xs.map fun _=>MV.bl true)=some (xs.map fun _=>true):=blsM_map (fun _=>true) xs
theorem same_refl:∀ n x m,pl n x=true→M_law_same n [x,x] m=.ok (.bl true) m:=by
  intro n
  induction n with
  | zero=>intro x m h;cases h
  | succ n ih =>
    intro x m h
    show runD 4 (B_law_same ⟨"_law_same",["_law_found","_law_due"],M_law_same n⟩) [x,x] m=_
    rw [runD_eq]
    unfold B_law_same
    cases x with
    | non=>simp
    | bl b=>simp
    | int i=>simp
    | str s=>simp
    | tup xs =>
      have h:(decide (xs.length≤sizeLine)&&xs.all (pl n))=true:=h
      simp only [Bool.and_eq_true,decide_eq_true_eq,List.all_eq_true] at h
      have hc:=compM_map (f:=compTurnF [2,3] (.tup [2,3]) (evTs .nil) (ev (.pr (pCall ⟨"_law_same",["_law_found","_law_due"],M_law_same n⟩) (.cons (.slot 2) (.cons (.slot 3) .nil)))) [some (SV.v (.tup xs)),some (SV.v (.tup xs)),none,none]) (h:=fun _=>.bl true) (m:=m) (xs:=zipM xs xs) (acc:=[]) (fun y hy=>by
        obtain ⟨z,hz,rfl⟩:=zipM_self hy
        simp [ih z m (h.2 z hz)]) (by simp [zipM_len];exact h.1)
      simp [hc,blsM_rep]
    | lst xs =>
      have h:(decide (xs.length≤sizeLine)&&xs.all (pl n))=true:=h
      simp only [Bool.and_eq_true,decide_eq_true_eq,List.all_eq_true] at h
      have hc:=compM_map (f:=compTurnF [2,3] (.tup [2,3]) (evTs .nil) (ev (.pr (pCall ⟨"_law_same",["_law_found","_law_due"],M_law_same n⟩) (.cons (.slot 2) (.cons (.slot 3) .nil)))) [some (SV.v (.lst xs)),some (SV.v (.lst xs)),none,none]) (h:=fun _=>.bl true) (m:=m) (xs:=zipM xs xs) (acc:=[]) (fun y hy=>by
        obtain ⟨z,hz,rfl⟩:=zipM_self hy
        simp [ih z m (h.2 z hz)]) (by simp [zipM_len];exact h.1)
      simp [hc,blsM_rep]
    | _=>cases h
end Rp


namespace Rc
open PySem PySem.Spec L2
open PyProof.Rows hiding St
section
variable {prog:Program} {w:World} {A:Around} {E:Value→Shared→Prop} {s:Shared} {K:PySem.W.Frag} {x C f:Addr} {ox:Obj} {od:Option Obj}
end
section
variable {X:Cx} {pins:List (Addr × Obj)} {σ:L2.St} {H:Hp} {s:Shared}
end
section
variable {k:Nat} {W:WX} {c:Cfg} {X:Cx}
end
end Rc

set_option maxHeartbeats 4000000
namespace Rc
open PySem PySem.Spec L2 L2H LamX
open PyProof.Rows hiding St
section
variable {X:Cx} {W:WX} {g0:G} {H0 H:Hp} {i j:Nat} {ds:List LamD} {cs:List Str} {Mf:Mir} {D:Ends} {σ:L2.St}
end
section
variable {X:Cx} {W:WX} {c:Cfg} {k:Nat} {g0:G} {H0:Hp} {i j:Nat} {cs:List Str} {Mf:Mir}
end
end Rc

set_option maxHeartbeats 2000000
namespace Rc
open PySem PySem.Spec L2
open PyProof.Rows hiding St
def many2:List Expr→Bool
  | _ :: _ :: _=>true
  | _=>false
theorem pe_many {X:Cx} {vs:List Expr} {ts:List TE} {pos:Pos} (h:PJ X vs ts) (m:many2 vs=true):PE X (.JoinedStr vs pos) (fun σ H Q=>tJs ts Str.empty σ H fun out H1=>Q (.str out) H1):=by
  match vs,m with
  | _ :: _ :: _,_=>exact pe_joined h
end Rc

namespace Rc
open PySem PySem.Spec L2
open PyProof.Rows hiding St
end Rc

namespace Rc
open PySem PySem.Spec L2
open PyProof.Rows hiding St
end Rc

namespace Rc
open PySem PySem.Spec L2
open PyProof.Rows hiding St
def pad6 (x:Str):Str:=if 6≤x.length then x else Builtin.Str.padded x 0 (6 - x.length) 32
theorem strSub_all (x:Str):Builtin.Str.strSub x 0 x.length=x:=by
  unfold Builtin.Str.strSub
  show Str.mk (x.cps.extract 0 x.cps.size)=x
  rw [Array.extract_size]
theorem field6 (x:Str):(Builtin.Str.strField x { align:=60,width:=some 6 } "str")=.ok (if 6≤x.length then none else some (pad6 x)):=by
  unfold Builtin.Str.strField
  by_cases h:6≤x.length
  · simp [h]
    rfl
  · simp [h,pad6,strSub_all]
    rfl
theorem fmt6_meets (x:Str) (t u:Tok):PySem.Meets (Builtin.«str.__format__» ⟨[.str x t,.str "<6" u],[]⟩) (fun _ R s=>∀ t' k,R (.ok (.ret (.str (pad6 x) t'))) { s with toks:=k }):=by
  apply PySem.W.KPc.meets_of
  intro prog w A s Q E h
  unfold Builtin.«str.__format__»
  refine wpAny_bind (wpAny_of_eq (a:=(_,_,_)) rfl ?_)
  refine wpAny_bind (wpAny_of_eq (a:=some _) rfl ?_)
  dsimp only
  kxf_if
  kxf_if
  refine wpAny_bind (PySem.W.KXf.cut_str ?_)
  have hp:Builtin.Float.parseFormatSpec (Str.ofString "<6").cps.toList "str" 60=.ok { align:=60,width:=some 6 }:=by kernel_rfl
  have hk:(do
        let f ← Builtin.Float.parseFormatSpec (Str.ofString "<6").cps.toList "str" 60
        have f:Builtin.Float.FormatSpec :=
          if (f.type.isNone&&(Str.ofString "<6").cps.back? == some 0)=true then { f with type:=some 0 } else f
        if Builtin.Str.tooLong (f.width.getD 0)=true then pure none
        else do
          let y ← Builtin.Str.strField x f "str"
          pure (some y):Except String (Option (Option Str)))=.ok (some (if 6≤x.length then none else some (pad6 x))):=by
    rw [hp]
    show (do
          let y ← Builtin.Str.strField x { align:=60,width:=some 6 } "str"
          pure (some y):Except String (Option (Option Str)))=_
    rw [field6]
    rfl
  rw [hk]
  by_cases c:6≤x.length
  · rw [if_pos c]
    refine wpAny_bind (wpAny_rule ?_)
    refine PySem.W.KXf.ret_same (T:=pad6 x) (by unfold pad6;rw [if_pos c]) h
  · rw [if_neg c]
    refine PySem.W.KXf.ret_text (T:=pad6 x) rfl ?_ h
    unfold pad6
    rw [if_neg c]
    have:(Builtin.Str.padded x 0 (6 - x.length) 32).length=x.length + (6 - x.length):=by
      unfold Builtin.Str.padded
      show (Array.replicate 0 32++x.cps++Array.replicate (6 - x.length) 32).size=_
      simp
      rfl
    rw [this,sizeLine_eq]
    omega
theorem pad6_len (x:Str):(pad6 x).length≤x.length + 6:=by
  unfold pad6
  split
  · omega
  · have:(Builtin.Str.padded x 0 (6 - x.length) 32).length=x.length + (6 - x.length):=by
      unfold Builtin.Str.padded
      show (Array.replicate 0 32++x.cps++Array.replicate (6 - x.length) 32).size=_
      simp
      rfl
    omega
def tFmt6 (te:TE):TE:=fun σ H Q=>te σ H fun x H1=>∃ y:Str,x=.str y∧Q (.str (pad6 y)) H1
theorem pe_fmt6 {X:Cx} {e:Expr} {te:TE} {pos p1 p2:Pos} {kd:Nat} (he:PE X e te):PE X (.FormattedValue e (-1) (some (.JoinedStr [.Constant (.str "<6") kd p1] p2)) pos) (tFmt6 te):=by
  refine ⟨fun pins s σ H Q I h=>?_⟩
  refine wpAny_FormattedValue_spec (thn (he.run pins s σ H _ I h) fun v s1 hv=>?_)
  obtain ⟨x,H1,I1,r1,y,rfl,q⟩:=hv
  obtain ⟨t,rfl⟩:=r1
  refine thn ((pe_joined1 (pos:=p2) (pe_str (x:="<6"))).run pins s1 σ H1 (fun z H2=>z=.str "<6"∧H2=H1) I1 ⟨rfl,rfl⟩) fun v2 s2 hv2=>?_
  obtain ⟨z,H2,I2,r2,rfl,rfl⟩:=hv2
  obtain ⟨t2,rfl⟩:=r2
  exact ⟨"<6",t2,rfl,PySem.W.KXf.field_str rfl rfl (by decide +kernel) (by decide +kernel) (fun u=>fmt6_meets y t u) fun t' k=>⟨.str (pad6 y),H2,I2.tok _,⟨_,rfl⟩,q⟩⟩
def colT (a b c:Str):Str:=((((Str.empty++pad6 a)++" ")++pad6 b)++" ")++c
def cutV (x:OV) (k:Str→R OV):R OV:=match x with
  | .v (.str a)=>if a.length≤1000 then k a else .stuck
  | _=>.stuck
def colsF (fs:List (Mem→R OV)) (m:Mem):R OV:=match fs with
  | [f1,f2,f3]=>(f1 m).bind fun x m=>cutV x fun a=>(f2 m).bind fun y m=>cutV y fun b=>(f3 m).bind fun z m=>cutV z fun c=>.ok (.v (.str (colT a b c))) m
  | _=>.stuck
theorem cutV_ok {K:Ki} {E:XK} {g:G} {H:Hp} {x:OV} {v:V} {k:Str→R OV} {Q:VK} (r:RO K g H x v) (p:PostO K E g H (cutV x k) Q):∃ a:Str,x=.v (.str a)∧v=.str a∧a.length≤1000∧PostO K E g H (k a) Q:=by
  unfold cutV at p
  split at p
  · split at p
    · rename_i a h
      exact ⟨a,rfl,r,h,p⟩
    · exact p.elim
  · exact p.elim
theorem CtxOk.lam0 {k:Nat} {W:WX} {c:Cfg} {X:Cx} (ok:CtxOk (k + 3) W c X) (hc:c.calm=true):CtxOk k W (c.lamC c.sc) X where
  tk:=ok.tk
  sc:=ok.sc
  N:=ok.N
  nd:=ok.nd
  calm:=fun _=>ok.calm hc
  blt:=ok.blt
  cst:=ok.cst
  room:=fun _=>(ok.room (Nat.succ_pos _)).mono (Nat.le_add_right k 3)
  un:=ok.un
  lam:=fun z=>by cases z
  top:=fun z=>by cases z
  wish:=fun z=>by cases z
  stk:=fun z=>by cases z
def colsParts (c:Cfg):Expr→Option (List (Scope × Expr))
  | .JoinedStr [.FormattedValue e1 c1 (some (.JoinedStr [.Constant (.str z1) _ _] _)) _,.Constant (.str b1) _ _,.FormattedValue e2 c2 (some (.JoinedStr [.Constant (.str z2) _ _] _)) _,.Constant (.str b2) _ _,.FormattedValue e3 c3 none _] _ =>
    if (decide (c1=-1)&&(decide (c2=-1)&&(decide (c3=-1)&&(decide (z1="<6")&&(decide (z2="<6")&&(decide (b1=" ")&&(decide (b2=" ")&&c.calm)))))))=true then some [(c.sc,e1),(c.sc,e2),(c.sc,e3)] else none
  | _=>none
theorem jn6 {a:Str} {n:Nat} {y:Str} (ha:a.length≤n) (hy:y.length≤1006) (hn:n≤10000):(a++y).length≤sizeLine∧(a++y).length≤n + 1006:=by
  rw [Str.length_append,sizeLine_eq]
  omega
def pCols:PrimTs where
  parts:=colsParts
  F:=colsF
  ok:=fun {k W c X e l fs} ok nd h p=>by
    unfold colsParts at h
    split at h <;> try contradiction
    split at h <;> cases h
    rename_i hb
    simp only [Bool.and_eq_true,decide_eq_true_eq] at hb
    obtain ⟨rfl,rfl,rfl,rfl,rfl,rfl,rfl,hc⟩:=hb
    cases p with
    | @cons _ _ f1 _ _ h1 p =>
    cases p with
    | @cons _ _ f2 _ _ h2 p =>
    cases p with
    | @cons _ _ f3 _ _ h3 p =>
    cases p
    have o0:=ok.lam0 hc
    have q1:=h1 X W rfl rfl rfl rfl rfl o0
    have q2:=h2 X W rfl rfl rfl rfl rfl o0
    have q3:=h3 X W rfl rfl rfl rfl rfl o0
    refine (pe_many (.cons (pe_fmt6 q1) (.cons pe_str (.cons (pe_fmt6 q2) (.cons pe_str (.cons (pe_fmt q3) .nil))))) rfl).weaken fun σ H Q q=>?_
    obtain ⟨g,s,m,rs,rl,pp⟩:=q
    have pp:PostO X.ki (WE W σ) g H ((f1 s m).bind fun x m=>cutV x fun a=>(f2 s m).bind fun y m=>cutV y fun b=>(f3 s m).bind fun z m=>cutV z fun c=>.ok (.v (.str (colT a b c))) m) Q:=pp
    refine ⟨g,s,m,rs,rl,(Post.bind pp).imp fun v H1 ⟨x,g1,m1,rs1,st1,r1,p1⟩=>?_⟩
    obtain ⟨a,rfl,rfl,la,p1⟩:=cutV_ok r1 p1
    have l1:=jn6 (a:=Str.empty) (n:=0) (y:=pad6 a) (Nat.zero_le _) (by have:=pad6_len a;omega) (by omega)
    have k1:((" ":Str)).length≤1006:=by decide
    have l2:=jn6 (y:=" ") l1.2 k1 (by omega)
    refine ⟨a,rfl,pad6 a,rfl,l1.1," ",rfl,l2.1,?_⟩
    refine ⟨g1,s,m1,rs1,rl.st st1,(Post.bind p1).imp fun v2 H2 ⟨y,g2,m2,rs2,st2,r2,p2⟩=>?_⟩
    obtain ⟨b,rfl,rfl,lb,p2⟩:=cutV_ok r2 p2
    have l3:=jn6 (y:=pad6 b) l2.2 (by have:=pad6_len b;omega) (by omega)
    have l4:=jn6 (y:=" ") l3.2 k1 (by omega)
    refine ⟨b,rfl,pad6 b,rfl,l3.1," ",rfl,l4.1,?_⟩
    refine ⟨g2,s,m2,rs2,(rl.st st1).st st2,(Post.bind p2).imp fun v3 H3 ⟨z,g3,m3,rs3,st3,r3,p3⟩=>?_⟩
    obtain ⟨d,rfl,rfl,lc,p3⟩:=cutV_ok r3 p3
    have l5:=jn6 (y:=d) l4.2 (by omega) (by omega)
    exact .inl ⟨d,rfl,by rw [sizeLine_eq];omega,d,rfl,l5.1,post_val rs3 p3 rfl⟩
@[simp] theorem F_cols (f1 f2 f3:Mem→R OV) (m:Mem):pCols.F [f1,f2,f3] m=(f1 m).bd fun x m=>cutV x fun a=>(f2 m).bd fun y m=>cutV y fun b=>(f3 m).bd fun z m=>cutV z fun c=>.ok (.v (.str (colT a b c))) m:=id rfl
@[simp] theorem cutV_s (a:Str) (k:Str→R OV):cutV (.v (.str a)) k=if a.length≤1000 then k a else .stuck:=id rfl
def rstripF (z:Str) (xs:List OV) (m:Mem):R OV:=match xs with
  | [.v (.str b)]=>if z.length≤sizeLine then .ok (.v (.str (Txt.rstripChars z b))) m else .stuck
  | _=>.stuck
def pRstrip:PrimM where
  parts:=fun c e=>match e with
    | .Call (.Attribute o m ap) [a] [] p=>if (decide (m=("rstrip":Str))&&(ap.endLine == p.line)&&plainE a&&noCall o)=true then some (o,[a]) else none
    | _=>none
  F:=strM rstripF
  ok:=fun {k W c X e o es fo fs} ok nd h ho p=>by
    split at h <;> try contradiction
    split at h <;> cases h
    rename_i hb
    simp only [Bool.and_eq_true,decide_eq_true_eq] at hb
    obtain ⟨⟨⟨rfl,h2⟩,h3⟩,h4⟩:=hb
    obtain ⟨fa,e1,e3⟩:=p.p1
    refine (pe_m1 F.slot_str_rstrip F.type_str_rstrip mt_rstripChars ho e1 (starP h3) (attrP h4) h2).weaken fun σ H Q q=>?_
    obtain ⟨g,s,m,rs,rl,pp⟩:=q
    refine ⟨g,s,m,rs,rl,(Post.bind pp).imp fun v H1 ⟨x,g1,m1,rs1,st1,r1,p1⟩=>?_⟩
    split at p1
    case h_2=>exact p1.elim
    rename_i hr
    obtain ⟨z,rfl,rfl⟩:=strM_ok hr
    cases (show v=.str z from r1)
    refine ⟨⟨z,rfl⟩,g1,s,m1,rs1,rl.st st1,?_⟩
    have e4:=congrFun (congrFun (e3 (rstripF z)) s) m1
    have p1:PostO X.ki (WE W σ) g1 H1 ((fs s m1).bind (rstripF z)) Q:=p1
    rw [e4] at p1
    refine (Post.bind p1).imp fun w H2 ⟨y,g2,m2,rs2,st2,r2,p2⟩=>?_
    unfold rstripF at p2
    split at p2
    · rename_i b hh
      cases hh
      cases (show w=.str b from r2)
      split at p2
      · rename_i hl
        exact ⟨z,b,rfl,rfl,hl,post_val rs2 p2 rfl⟩
      · exact p2.elim
    · exact p2.elim
@[simp] theorem F_rstrip (z:Str) (m:Mem):pRstrip.F (.v (.str z)) m=some (rstripF z):=id rfl
@[simp] theorem rstripF_s (z b:Str) (m:Mem):rstripF z [.v (.str b)] m=if z.length≤sizeLine then .ok (.v (.str (Txt.rstripChars z b))) m else .stuck:=id rfl
def spS (n:Nat):Str:=⟨Array.replicate n 32⟩
theorem fold32:∀ (n:Nat) (a:Array Nat),(List.replicate n (#[32]:Array Nat)).foldl (·++·) a=a++Array.replicate n 32
  | 0,a=>by simp
  | n + 1,a=>by
    rw [List.replicate_succ,List.foldl_cons,fold32 n]
    apply Array.toList_inj.mp
    simp [List.replicate_succ]
def mulS:OV→OV→Mem→R OV:=fun a b m=>match a,b with
  | .v (.str x),.v (.int n)=>if x=" "∧0≤n∧n≤1000 then .ok (.v (.str (spS n.toNat))) m else .stuck
  | _,_=>.stuck
theorem op_mulS {X:Cx}:OpR X (binaryOp .Mult) (t2 X.ki mulS):=by
  rintro pins s σ H x y v u Q I rx ry ⟨E,g,m,a,b,rs,ra,rb,p⟩
  unfold mulS at p
  split at p
  · cases ra;cases rb
    split at p
    · rename_i z n hc
      obtain ⟨rfl,h0,h1⟩:=hc
      obtain ⟨t,rfl⟩:=rx
      obtain ⟨t2,rfl⟩:=ry
      have q:=post_val rs p rfl
      have l1:((" ":Str)).length=1:=by decide +kernel
      have c1:((" ":Str)).cps=#[32]:=by decide +kernel
      refine P.mul_str (by
          rw [decide_eq_false (show ¬ n < -(2 ^ 63:Int) by omega),decide_eq_false (show ¬ n ≥ 2 ^ 63 by omega)];rfl) (fun h2 _=>?_) (fun h2 _=>?_) ?_
      · rw [l1]
        have:(1:Int)≤(2 ^ 63 - 1) / n:=by
          rw [Int.le_ediv_iff_mul_le (by omega)]
          omega
        omega
      · rw [l1]
        unfold Builtin.Str.tooLong
        rw [decide_eq_false (by rw [sizeLine_eq];omega)]
      · by_cases h2:n < 1
        · rw [if_pos h2]
          have e:spS n.toNat=Str.empty:=by
            rw [show n.toNat=0 from by omega];rfl
          rw [e] at q
          exact ⟨by decide,⟨.str Str.empty,H,I.tok _,⟨_,rfl⟩,q⟩⟩
        · rw [if_neg h2]
          by_cases h3:n=1
          · subst h3
            rw [if_pos (by rfl)]
            have e:spS (1:Int).toNat=" ":=by decide +kernel
            rw [e] at q
            exact ⟨.str " ",H,I,⟨t,rfl⟩,q⟩
          · rw [if_neg (by
              have:(n == 1)=false:=by simpa using h3
              rw [this,l1];decide)]
            have e:(Str.mk ((List.replicate n.toNat ((" ":Str)).cps).foldl (·++·) #[]))=spS n.toNat:=by
              rw [c1,fold32]
              unfold spS
              congr 1
              apply Array.toList_inj.mp
              simp
            rw [e]
            refine ⟨?_,⟨.str (spS n.toNat),H,I.tok _,⟨_,rfl⟩,q⟩⟩
            show (Array.replicate n.toNat 32).size≤sizeLine
            rw [Array.size_replicate,sizeLine_eq]
            omega
    · exact p.elim
  · exact p.elim
def pMulS:Prim where
  parts:=fun _ e=>match e with
    | .BinOp l .Mult r _=>some [l,r]
    | _=>none
  F:=F2 mulS
  ok:=fun ok nd h p=>by
    split at h <;> cases h
    obtain ⟨fa,fb,h1,h2,h3⟩:=p.f2 (f:=mulS)
    rw [h3]
    exact (pe_op op_mulS h1 h2).weaken fun σ H Q q=>tE_bin q
@[simp] theorem F_mulS (x y:OV) (m:Mem):pMulS.F [x,y] m=mulS x y m:=id rfl
end Rc

namespace Rc
open PySem PySem.Spec L2
open PyProof.Rows hiding St
end Rc

namespace Rc
open PySem PySem.Spec L2
open PyProof.Rows hiding St
def clearF:List OV→Sl→Mem→SR
  | [.v (.ref n)],s,m=>(match memL m n with
    | some _=>.nx s (m.set n (some (.lst [])))
    | none=>.stuck)
  | _,_,_=>.stuck
theorem clearF_inv {x:OV} {s:Sl} {m:Mem} (h:clearF [x] s m≠.stuck):∃ n,x=.v (.ref n):=by
  unfold clearF at h
  split at h
  · rename_i hh
    cases hh
    exact ⟨_,rfl⟩
  · exact absurd rfl h
def sClear:PrimS where
  parts:=fun c st=>match st with
    | .Expr (.Call (.Attribute o m ap) [] [] p) _=>if (decide (m=("clear":Str))&&(ap.endLine == p.line)&&noCall o)=true then some [o] else none
    | _=>none
  F:=clearF
  ok:=fun {k W c X e es fs} ok nd ht hk h p g0 H0=>by
    split at h <;> try contradiction
    split at h <;> cases h
    rename_i hb
    simp only [Bool.and_eq_true,decide_eq_true_eq] at hb
    obtain ⟨⟨rfl,h3⟩,h5⟩:=hb
    obtain ⟨fa,e1,e2⟩:=p.s1
    refine (ps_expr (pe_bm0 F.plainAttrs_list F.slot_list_clear F.type_list_clear mt_clear e1 (attrP h5) h3) rfl).weaken fun D σ H q=>?_
    obtain ⟨g,s,m,R,z,pp⟩:=tS_pre q
    rw [e2] at pp
    refine ⟨g,s,m,R.rs,R.rl,(PostS.bind R pp).imp fun v H1 ⟨x,g1,m1,rs1,st1,r1,p1⟩=>?_⟩
    have R1:=R.step rs1 st1
    obtain ⟨n,rfl⟩:=clearF_inv p1.ns
    unfold clearF at p1
    dsimp only at p1
    obtain ⟨a,rfl,hn⟩:=r1
    split at p1
    · rename_i xs e5
      obtain ⟨ys,q1,q2,q3⟩:=memL_ok rs1 hn e5
      obtain ⟨rs4,st4⟩:=rs1.setRef (xs:=[]) (ys:=[]) hn q3 rfl
      exact ⟨.inl ⟨rfl,ys,.of q1⟩,a,ys,rfl,rfl,q1,p1 g1 σ _ (R1.step rs4 st4) (Fle.refl _)⟩
    · exact p1.elim
end Rc

set_option maxHeartbeats 1000000
namespace K77
open PySem PySem.Spec L2 Rc Rp
open PyProof.Rows hiding St

def N_law_padded:List Str:=["_law_text_z","_law_size"]
def B_law_padded:MSs:=(.cons (.ret (.pr (pBin .add) (.cons (.slot 0) (.cons (.pr pMulS (.cons (.pr (pStr " ") .nil) (.cons (.pr pMax2 (.cons (.pr (pInt 0) .nil) (.cons (.pr (pBin .sub) (.cons (.slot 1) (.cons (.pr pLen (.cons (.slot 0) .nil)) .nil))) .nil))) .nil))) .nil)))) .nil)
def M_law_padded:Mir:=runD 2 B_law_padded
def F_law_padded:Fn:=⟨"_law_padded",["_law_text_z","_law_size"],M_law_padded⟩
@[simp] theorem FM_law_padded:F_law_padded.M=M_law_padded:=id rfl
@[simp] theorem FP_law_padded:F_law_padded.ps=(["_law_text_z","_law_size"]:List Str):=id rfl
def N_columns:List Str:=["program","found","name","call","rows","mark"]
def B_columns:MSs:=(.cons (.setOwn 1 (.pr fLst .nil)) (.cons (.loop (.tup [2,3,4]) (.pr iSeq (.cons (.bm (pMeth "modes" [("Program",F_Program_modes)]) (.slot 0) .nil) .nil)) (.cons (.set 5 (.ite (.cmp cIn (.slot 2) (.bm (pMeth "starts" [("Program",F_Program_starts)]) (.slot 0) .nil)) (.pr (pStr "starts") .nil) (.pr (pStr "") .nil))) (.cons (.pr (sApp 1) (.cons (.bm pRstrip (.tryLs pCols (.cons (.slot 2) (.cons (.ite (.cmp cNe (.slot 3) (.pr (pStr "") .nil)) (.slot 3) (.pr (pStr "-") .nil)) (.cons (.slot 5) .nil)))) (.cons (.pr (pStr " ") .nil) .nil)) .nil)) .nil))) (.cons (.retOwn 1) .nil)))
def M_columns:Mir:=runD 6 B_columns
def F_columns:Fn:=⟨"columns",["program"],M_columns⟩
@[simp] theorem FM_columns:F_columns.M=M_columns:=id rfl
@[simp] theorem FP_columns:F_columns.ps=(["program"]:List Str):=id rfl
def N_Program_of:List Str:=["cls","words","orders","starts","modes","names","mode"]
def B_Program_of:MSs:=(.cons (.set 5 (.fr (.comp [6] (.name 6) (.pr iSeq (.cons (.slot 4) .nil)) (.one (.and (.val (.pr (pIsi [.b "tuple"] [] true) (.cons (.slot 6) .nil))) (.cmp cGt (.pr pLen (.cons (.slot 6) .nil)) (.pr (pInt 0) .nil)))) (.pr pIx (.cons (.slot 6) (.cons (.pr (pInt 0) .nil) .nil)))))) (.cons (.ret (.bm (pMkC "Program" F_Program___init__) (.slot 0) (.cons (.slot 1) (.cons (.slot 2) (.cons (.slot 4) (.cons (.ite (.cmp cIs (.slot 3) (.pr pNon .nil)) (.slot 5) (.slot 3)) .nil)))))) .nil))
def M_Program_of:Mir:=runD 7 B_Program_of
def F_Program_of:Fn:=⟨"of",["cls","words","orders","starts","modes"],M_Program_of⟩
@[simp] theorem FM_Program_of:F_Program_of.M=M_Program_of:=id rfl
@[simp] theorem FP_Program_of:F_Program_of.ps=(["cls","words","orders","starts","modes"]:List Str):=id rfl
def N_law:List Str:=["_law_script","_law_bag","_law_turn","_law_lone","_law_spec","_law_due","_law_made","_law_found","_law_own","_law_call","_law_lines","_law_front"]
def B_law:MSs:=(.cons (.set 1 (.pr (pCallN F_law_open) (.cons (.slot 0) .nil))) (.cons (.loop (.name 2) (.pr iRange1 (.cons (.pr (pInt 5) .nil) .nil)) (.cons (.set 4 (.pr (pCall F_law_draw_spec) (.cons (.slot 1) (.cons (.pr (pInt 2) .nil) (.cons (.pr (pInt 1) .nil) (.cons (.pr (pInt 5) .nil) .nil)))))) (.cons (.setOwn 5 (.pr fLst .nil)) (.cons (.loop (.tup [8,9,10]) (.pr iSeq (.cons (.pr pIx (.cons (.slot 4) (.cons (.pr (pInt 2) .nil) .nil))) .nil)) (.cons (.set 11 (.pr (pBin .add) (.cons (.pr (pBin .add) (.cons (.pr (pCall F_law_padded) (.cons (.slot 8) (.cons (.pr (pInt 6) .nil) .nil))) (.cons (.pr (pStr " ") .nil) .nil))) (.cons (.pr (pCall F_law_padded) (.cons (.ite (.cmp cNe (.slot 9) (.pr (pStr "") .nil)) (.slot 9) (.pr (pStr "-") .nil)) (.cons (.pr (pInt 6) .nil) .nil))) .nil)))) (.cons (.pr (sApp 5) (.cons (.ite (.cmp cIn (.slot 8) (.pr pIx (.cons (.slot 4) (.cons (.pr (pInt 3) .nil) .nil)))) (.pr (pBin .add) (.cons (.slot 11) (.cons (.pr (pStr " starts") .nil) .nil))) (.bm pRstrip (.slot 11) (.cons (.pr (pStr " ") .nil) .nil))) .nil)) .nil))) (.frz 5 (.cons (.set 6 (.pr (pCall F_law_make) (.cons (.slot 4) .nil))) (.cons (.set 7 (.pr (pCallN F_columns) (.cons (.slot 6) .nil))) (.cons (.ifs (.not (.val (.pr (pCall (F_law_same 6)) (.cons (.fr (.pr fLst (.cons (.slot 7) (.cons (.pr (pCallK F_columns ["program"]) (.cons (.slot 6) .nil)) .nil)))) (.cons (.fr (.pr fLst (.cons (.slot 5) (.cons (.slot 5) .nil)))) .nil))))) (.cons (.ret (.pr (pBl false) .nil)) .nil) .nil) (.cons (.pr sClear (.cons (.slot 7) .nil)) (.cons (.ifs (.not (.val (.pr (pCall (F_law_same 6)) (.cons (.pr (pCallN F_columns) (.cons (.slot 6) .nil)) (.cons (.slot 5) .nil))))) (.cons (.ret (.pr (pBl false) .nil)) .nil) .nil) .nil)))))))))) (.cons (.set 3 (.pr (pOf "Program" "of" F_Program_of 2 ["starts"] ["words","orders"] [.tup [],.tup [(.str "go")]]) (.cons (.pr pTup (.cons (.pr (pStr "abcdef") .nil) (.cons (.pr (pStr "") .nil) (.cons (.pr pTup (.cons (.pr pTup (.cons (.pr (pStr "abcdef") .nil) (.cons (.pr (pStr "abcdef") .nil) .nil))) .nil)) .nil)))) (.cons (.pr pTup (.cons (.pr (pStr "b") .nil) (.cons (.pr (pStr "") .nil) (.cons (.pr pTup (.cons (.pr pTup (.cons (.pr (pStr "b") .nil) (.cons (.pr (pStr "b") .nil) .nil))) .nil)) .nil)))) (.cons (.fr (.pr fLst (.cons (.pr (pStr "b") .nil) .nil))) .nil))))) (.cons (.ret (.pr (pCall (F_law_same 6)) (.cons (.pr (pCallN F_columns) (.cons (.slot 3) .nil)) (.cons (.fr (.pr fLst (.cons (.pr (pStr "abcdef -") .nil) (.cons (.pr (pStr "b      -      starts") .nil) .nil)))) .nil)))) .nil))))
def M_law:Mir:=runD 12 B_law
def F_law:Fn:=⟨"law",["_law_script"],M_law⟩
@[simp] theorem FM_law:F_law.M=M_law:=id rfl
@[simp] theorem FP_law:F_law.ps=(["_law_script"]:List Str):=id rfl
end K77

set_option maxHeartbeats 2000000
namespace Rp
open PySem PySem.Spec L2 Rc
open PyProof.Rows hiding St signs

theorem idxS_mem {w:Str}:∀ {xs:List Str},w∈xs→∃ j,idxS w xs=some j
  | x :: xs,h=>by
    unfold idxS
    by_cases e:x=w
    · exact ⟨0,by rw [if_pos e]⟩
    · rw [if_neg e]
      rcases List.mem_cons.mp h with h | h
      · exact absurd h.symm e
      · obtain ⟨j,ej⟩:=idxS_mem h
        exact ⟨j + 1,by rw [ej];rfl⟩
theorem idxS_lt {w:Str} {xs:List Str} {j:Nat} (h:idxS w xs=some j):j < xs.length:=by
  obtain ⟨h1,_⟩:=idxS_ok h
  exact (List.getElem?_eq_some_iff.mp h1).1
theorem dLook_idx (w:Str):∀ (xs:List Str) (j k:Nat),idxS w xs=some j→dLook (xs.map .str) ((List.range' k xs.length).map fun (i:Nat)=>MV.int (i:Int)) (.str w)=some (.int ((k + j:Nat):Int))
  | [],_,_,h=>by cases h
  | x :: xs,j,k,h=>by
    unfold idxS at h
    rw [List.map_cons,List.length_cons,List.range'_succ,List.map_cons]
    unfold dLook
    by_cases e:x=w
    · rw [if_pos e] at h
      cases h
      subst e
      have:eqB (.str x) (.str x)=true:=by rw [eqB_ss];simp
      rw [if_pos this]
      rfl
    · rw [if_neg e] at h
      obtain ⟨i,ei,rfl⟩:=Option.map_eq_some_iff.mp h
      have:¬ eqB (.str x) (.str w)=true:=by rw [eqB_ss];simp [e]
      rw [if_neg this,dLook_idx w xs i (k + 1) ei]
      congr 3
      omega
theorem place {ms:List Md} {w:Str} {j:Nat} (h:idxS w (nmsOf ms)=some j) (m:Mem):ixF (.v (.dic ((nmsOf ms).map .str) (idxV ms.length))) (.v (.str w)) m=.ok (.v (.int j)) m:=by
  have e:=dLook_idx w (nmsOf ms) j 0 h
  rw [nms_len] at e
  have e2:(List.range' 0 ms.length).map (fun (i:Nat)=>MV.int (i:Int))=idxV ms.length:=by
    unfold idxV
    rw [List.range_eq_range']
  rw [e2] at e
  simp only [Nat.zero_add] at e
  unfold ixF
  have hd:dicO m (OV.v (.dic ((nmsOf ms).map .str) (idxV ms.length)))=some ((nmsOf ms).map .str,idxV ms.length):=rfl
  have hk:derf m (OV.v (.str w))=.str w:=rfl
  rw [hd,hk]
  dsimp only
  have hk2:keyM (.str w)=some (.inr w):=rfl
  rw [hk2,e]
section
variable (ws os:List Str) (ms:List Md) (ss:List Str) (m:Mem)
def soundsL (ws:List Str):List Str:=("quiet":Str) :: (ws++[("noise":Str)])
@[simp] theorem meth_sounds:(pMeth "sounds" [("Program",F_Program_sounds)]).F (.v (progV ws os ms ss)) m=some fun as mem=>(match vals as with
      | some xs=>retR (M_Program_sounds (progV ws os ms ss :: xs) mem)
      | none=>.stuck):=id (by kernel_rfl)
@[simp] theorem meth_check_mode:(pMeth "check_mode" [("Program",F_Program_check_mode)]).F (.v (progV ws os ms ss)) m=some fun as mem=>(match vals as with
      | some xs=>retR (M_Program_check_mode (progV ws os ms ss :: xs) mem)
      | none=>.stuck):=id (by kernel_rfl)
@[simp] theorem meth_check_order:(pMeth "check_order" [("Program",F_Program_check_order)]).F (.v (progV ws os ms ss)) m=some fun as mem=>(match vals as with
      | some xs=>retR (M_Program_check_order (progV ws os ms ss :: xs) mem)
      | none=>.stuck):=id (by kernel_rfl)
end
def nextM (ws os:List Str) (ms:List Md) (a:Nat) (o z:Str):Option Str:=(ms[a]?).bind fun d=>(idxS o os).bind fun i=>(d.2.2[i]?).bind fun r=>(idxS z (soundsL ws)).bind fun j=>r[j]?
theorem next_some {ws os:List Str} {ms:List Md} {ss:List Str} (h:POk ws os ms ss) {a:Nat} (ha:a < ms.length) {o z:Str} (ho:o∈os) (hz:z∈soundsL ws):∃ g∈nmsOf ms,nextM ws os ms a o z=some g:=by
  obtain ⟨i,ei⟩:=idxS_mem ho
  obtain ⟨j,ej⟩:=idxS_mem hz
  have hi:=idxS_lt ei
  have hj:=idxS_lt ej
  have hl:(soundsL ws).length=ws.length + 2:=by simp [soundsL]
  obtain ⟨_,_,h3,h4⟩:=h.mN _ (List.getElem_mem ha)
  have hi2:i < (ms[a]).2.2.length:=by rw [h3];exact hi
  obtain ⟨h5,h6⟩:=h4 _ (List.getElem_mem hi2)
  have hj2:j < ((ms[a]).2.2[i]).length:=by rw [h5];omega
  refine ⟨((ms[a]).2.2[i])[j],h6 _ (List.getElem_mem hj2),?_⟩
  unfold nextM
  rw [List.getElem?_eq_getElem ha,Option.bind_some,ei,Option.bind_some,List.getElem?_eq_getElem hi2,Option.bind_some,ej,Option.bind_some,List.getElem?_eq_getElem hj2]
theorem meth_next_mode' (ws os:List Str) (ms:List Md) (ss:List Str) (m:Mem):(pMeth "next_mode" [("Program",F_Program_next_mode)]).F (.v (progV ws os ms ss)) m=some fun as mem=>(match vals as with
      | some xs=>retR (M_Program_next_mode (progV ws os ms ss :: xs) mem)
      | none=>.stuck):=by kernel_rfl
@[simp] theorem meth_next_mode (ws os:List Str) (ms:List Md) (ss:List Str) (m:Mem):(pMeth "next_mode" [("Program",F_Program_next_mode)]).F (.v (progV ws os ms ss)) m=some fun as mem=>(match vals as with
      | some xs=>retR (M_Program_next_mode (progV ws os ms ss :: xs) mem)
      | none=>.stuck):=meth_next_mode' ws os ms ss m
def heardM (ms:List Md) (ns:List Int) (a:Nat) (n:Int):Str:=soundOf ms (ns.set a (n - 1))
def goalOf (ws os:List Str) (ms:List Md) (ns:List Int) (o:Str) (a:Nat):Option Nat:=if ns.getD a 0=0 then none else (nextM ws os ms a o (heardM ms ns a (ns.getD a 0))).bind fun g=>idxS g (nmsOf ms)
def goalsL (ws os:List Str) (ms:List Md) (ns:List Int) (o:Str):List (Option Nat):=(List.range ms.length).map (goalOf ws os ms ns o)
theorem sound_in {ws os:List Str} {ms:List Md} {ss:List Str} (h:POk ws os ms ss) (ns:List Int):soundOf ms ns∈soundsL ws:=by
  unfold soundOf soundsL
  split
  · simp
  · split
    · rename_i h0 h1
      cases hc:callers ms ns with
      | nil=>rw [hc] at h1;simp at h1
      | cons p r =>
        have hp:p∈callers ms ns:=by rw [hc];exact List.mem_cons_self
        unfold callers at hp
        obtain ⟨q,hq,e⟩:=List.mem_filterMap.mp hp
        unfold callP at e
        split at e
        · rename_i hh
          cases e
          obtain ⟨_,h2,_⟩:=h.mN _ (List.of_mem_zip hq).1
          rcases h2 with h2 | h2
          · exact absurd h2 hh.1
          · simp [h2]
        · cases e
    · simp
def putR (acc:List Int) (p:Int × Option Nat):List Int:=match p.2 with
  | none=>acc
  | some j=>acc.set j (acc.getD j 0 + p.1)
def roundL (ws os:List Str) (ms:List Md) (ns:List Int) (o:Str):List Int:=(ns.zip (goalsL ws os ms ns o)).foldl putR (List.replicate ns.length 0)
theorem putR_len (acc:List Int) (p:Int × Option Nat):(putR acc p).length=acc.length:=by
  unfold putR
  split <;> simp
theorem foldR_len (l:List (Int × Option Nat)):∀ acc:List Int,(l.foldl putR acc).length=acc.length:=by
  induction l with
  | nil=>intro acc;rfl
  | cons p l ih=>intro acc;rw [List.foldl_cons,ih,putR_len]
theorem goalOf_lt {ws os:List Str} {ms:List Md} {ns:List Int} {o:Str} {a j:Nat} (h:goalOf ws os ms ns o a=some j):j < ms.length:=by
  unfold goalOf at h
  split at h
  · cases h
  · obtain ⟨g,_,h2⟩:=Option.bind_eq_some_iff.mp h
    have:=idxS_lt h2
    rwa [nms_len] at this
end Rp

namespace Rp
open PySem PySem.Spec L2 Rc
open PyProof.Rows hiding St signs

def mk3 (n:Int):Int:=if 3 < n then 3 else n
def marksL (ns:List Int):List Int:=ns.map mk3
end Rp

namespace Rp
open PySem PySem.Spec L2 Rc
open PyProof.Rows hiding St signs

def nn (ns:List Int):Prop:=∀ n∈ns,0≤n
theorem nn.tail {n:Int} {ns:List Int} (h:nn (n :: ns)):nn ns:=fun x hx=>h x (List.mem_cons_of_mem _ hx)
theorem nn.head {n:Int} {ns:List Int} (h:nn (n :: ns)):0≤n:=h n List.mem_cons_self
theorem mk3_eq {a b:Int}:mk3 a=mk3 b↔(a=b∨(3≤a∧3≤b)):=by
  unfold mk3
  by_cases h1:3 < a <;> by_cases h2:3 < b
  · rw [if_pos h1,if_pos h2];constructor <;> intro <;> omega
  · rw [if_pos h1,if_neg h2];constructor <;> intro <;> omega
  · rw [if_neg h1,if_pos h2];constructor <;> intro <;> omega
  · rw [if_neg h1,if_neg h2];constructor <;> intro <;> omega
def mkt (t n:Int):Int:=if t < n then t else n
theorem mkt_eq {t a b:Int}:mkt t a=mkt t b↔(a=b∨(t≤a∧t≤b)):=by
  unfold mkt
  by_cases h1:t < a <;> by_cases h2:t < b
  · rw [if_pos h1,if_pos h2];constructor <;> intro <;> omega
  · rw [if_pos h1,if_neg h2];constructor <;> intro <;> omega
  · rw [if_neg h1,if_pos h2];constructor <;> intro <;> omega
  · rw [if_neg h1,if_neg h2];constructor <;> intro <;> omega
theorem mkt_add {t a b c d:Int} (ha:0≤a) (hb:0≤b) (hc:0≤c) (hd:0≤d) (h1:mkt t a=mkt t b) (h2:mkt t c=mkt t d):mkt t (a + c)=mkt t (b + d):=by
  rw [mkt_eq] at h1 h2 ⊢
  omega
theorem mk23 (a:Int):mkt 2 (mk3 a)=mkt 2 a:=by
  rw [mkt_eq]
  unfold mk3
  split <;> omega
theorem marks2 {ns ks:List Int} (h:marksL ns=marksL ks):ns.map (mkt 2)=ks.map (mkt 2):=by
  have e:∀ l:List Int,(marksL l).map (mkt 2)=l.map (mkt 2):=fun l=>by
    unfold marksL
    rw [List.map_map]
    exact List.map_congr_left fun n _=>mk23 n
  rw [← e ns,← e ks,h]
theorem mk3_add {a b c d:Int} (ha:0≤a) (hb:0≤b) (hc:0≤c) (hd:0≤d) (h1:mk3 a=mk3 b) (h2:mk3 c=mk3 d):mk3 (a + c)=mk3 (b + d):=by
  rw [mk3_eq] at h1 h2 ⊢
  omega
theorem callers_sim:∀ (ms:List Md) (ns ks:List Int),ns.map (mkt 2)=ks.map (mkt 2)→nn ns→nn ks →
    (callers ms ns).map (·.1)=(callers ms ks).map (·.1)∧mkt 2 ((callers ms ns).map (·.2)).sum=mkt 2 ((callers ms ks).map (·.2)).sum∧0≤((callers ms ns).map (·.2)).sum∧0≤((callers ms ks).map (·.2)).sum
  | [],ns,ks,_,_,_=>by simp [callers]
  | d :: ms,[],[],_,_,_=>by simp [callers]
  | d :: ms,[],k :: ks,h,_,_=>by cases h
  | d :: ms,n :: ns,[],h,_,_=>by cases h
  | d :: ms,n :: ns,k :: ks,h,h1,h2=>by
    have hh:mkt 2 n=mkt 2 k∧ns.map (mkt 2)=ks.map (mkt 2):=by
      rw [List.map_cons,List.map_cons] at h
      exact ⟨(List.cons.inj h).1,(List.cons.inj h).2⟩
    obtain ⟨i1,i2,i3,i4⟩:=callers_sim ms ns ks hh.2 h1.tail h2.tail
    have p1:=h1.head
    have p2:=h2.head
    have e3:=mkt_eq.mp hh.1
    unfold callers at i1 i2 i3 i4 ⊢
    rw [List.zip_cons_cons,List.zip_cons_cons,List.filterMap_cons,List.filterMap_cons]
    by_cases c1:d.2.1=("":Str)
    · have q1:callP (d,n)=none:=by simp [callP,c1]
      have q2:callP (d,k)=none:=by simp [callP,c1]
      rw [q1,q2]
      exact ⟨i1,i2,i3,i4⟩
    · by_cases c2:0 < n
      · have c3:0 < k:=by omega
        have q1:callP (d,n)=some (d.2.1,n):=by simp [callP,c1,c2]
        have q2:callP (d,k)=some (d.2.1,k):=by simp [callP,c1,c3]
        rw [q1,q2]
        simp only [List.map_cons,List.sum_cons]
        exact ⟨by rw [i1],mkt_add p1 p2 i3 i4 hh.1 i2,by omega,by omega⟩
      · have c3:¬ 0 < k:=by omega
        have q1:callP (d,n)=none:=by simp [callP,c2]
        have q2:callP (d,k)=none:=by simp [callP,c3]
        rw [q1,q2]
        exact ⟨i1,i2,i3,i4⟩
theorem sound_sim (ms:List Md) {ns ks:List Int} (h:ns.map (mkt 2)=ks.map (mkt 2)) (h1:nn ns) (h2:nn ks):soundOf ms ns=soundOf ms ks:=by
  obtain ⟨i1,i2,i3,i4⟩:=callers_sim ms ns ks h h1 h2
  have e:=mkt_eq.mp i2
  have hd:(callers ms ns).head?.map (·.1)=(callers ms ks).head?.map (·.1):=by
    rw [← List.head?_map,← List.head?_map,i1]
  unfold soundOf
  by_cases c0:((callers ms ns).map (·.2)).sum=0
  · have c1:((callers ms ks).map (·.2)).sum=0:=by omega
    rw [if_pos c0,if_pos c1]
  · have c1:¬ ((callers ms ks).map (·.2)).sum=0:=by omega
    rw [if_neg c0,if_neg c1]
    by_cases c2:((callers ms ns).map (·.2)).sum=1
    · have c3:((callers ms ks).map (·.2)).sum=1:=by omega
      rw [if_pos c2,if_pos c3,hd]
    · have c3:¬ ((callers ms ks).map (·.2)).sum=1:=by omega
      rw [if_neg c2,if_neg c3]
theorem marks_get {ns ks:List Int} (h:marksL ns=marksL ks) (a:Nat):mk3 (ns.getD a 0)=mk3 (ks.getD a 0):=by
  have e:(marksL ns)[a]? = (marksL ks)[a]?:=by rw [h]
  unfold marksL at e
  rw [List.getElem?_map,List.getElem?_map] at e
  rw [List.getD_eq_getElem?_getD,List.getD_eq_getElem?_getD]
  cases h1:ns[a]? <;> cases h2:ks[a]? <;> rw [h1,h2] at e <;> simp at e ⊢
  exact e
theorem nn_get {ns:List Int} (h:nn ns) (a:Nat):0≤ns.getD a 0:=by
  rw [List.getD_eq_getElem?_getD]
  cases e:ns[a]? with
  | none=>simp
  | some n=>simpa using h n (List.mem_of_getElem? e)
theorem marks_set {ns ks:List Int} (h:marksL ns=marksL ks) (a:Nat) {x y:Int} (hx:mk3 x=mk3 y):marksL (ns.set a x)=marksL (ks.set a y):=by
  unfold marksL at h ⊢
  rw [List.map_set,List.map_set,h,hx]
theorem nn_set {ns:List Int} (h:nn ns) (a:Nat) {x:Int} (hx:0≤x):nn (ns.set a x):=fun y hy=>by
  rcases List.mem_or_eq_of_mem_set hy with hy | rfl
  · exact h y hy
  · exact hx
theorem heard_sim (ms:List Md) {ns ks:List Int} (h:marksL ns=marksL ks) (h1:nn ns) (h2:nn ks) (a:Nat) (hp:0 < ns.getD a 0):heardM ms ns a (ns.getD a 0)=heardM ms ks a (ks.getD a 0):=by
  have e:=mk3_eq.mp (marks_get h a)
  have p2:=nn_get h2 a
  unfold heardM
  refine sound_sim ms (by rw [List.map_set,List.map_set,marks2 h];congr 1;rw [mkt_eq];omega) (nn_set h1 a (by omega)) (nn_set h2 a (by omega))
theorem goal_sim {ws os:List Str} {ms:List Md} {o:Str} {ns ks:List Int} (h:marksL ns=marksL ks) (h1:nn ns) (h2:nn ks) (a:Nat):goalOf ws os ms ns o a=goalOf ws os ms ks o a:=by
  have e:=mk3_eq.mp (marks_get h a)
  have p1:=nn_get h1 a
  have p2:=nn_get h2 a
  unfold goalOf
  by_cases c:ns.getD a 0=0
  · have c2:ks.getD a 0=0:=by omega
    rw [if_pos c,if_pos c2]
  · have c2:¬ ks.getD a 0=0:=by omega
    rw [if_neg c,if_neg c2,heard_sim ms h h1 h2 a (by omega)]
theorem goals_sim {ws os:List Str} {ms:List Md} {o:Str} {ns ks:List Int} (h:marksL ns=marksL ks) (h1:nn ns) (h2:nn ks):goalsL ws os ms ns o=goalsL ws os ms ks o:=by
  unfold goalsL
  exact List.map_congr_left fun a _=>goal_sim h h1 h2 a
theorem fold_sim:∀ (gs:List (Option Nat)) (ns ks acc bcc:List Int),marksL ns=marksL ks→nn ns→nn ks→marksL acc=marksL bcc→nn acc→nn bcc →
    marksL ((ns.zip gs).foldl putR acc)=marksL ((ks.zip gs).foldl putR bcc)∧nn ((ns.zip gs).foldl putR acc)∧nn ((ks.zip gs).foldl putR bcc)
  | [],ns,ks,acc,bcc,_,_,_,h,h1,h2=>by simp;exact ⟨h,h1,h2⟩
  | g :: gs,[],[],acc,bcc,_,_,_,h,h1,h2=>by simp;exact ⟨h,h1,h2⟩
  | g :: gs,[],k :: ks,acc,bcc,h,_,_,_,_,_=>by cases h
  | g :: gs,n :: ns,[],acc,bcc,h,_,_,_,_,_=>by cases h
  | g :: gs,n :: ns,k :: ks,acc,bcc,h,p1,p2,h3,p3,p4=>by
    have hh:mk3 n=mk3 k∧marksL ns=marksL ks:=by
      unfold marksL at h ⊢
      rw [List.map_cons,List.map_cons] at h
      exact ⟨(List.cons.inj h).1,(List.cons.inj h).2⟩
    rw [List.zip_cons_cons,List.zip_cons_cons,List.foldl_cons,List.foldl_cons]
    have q1:=p1.head
    have q2:=p2.head
    cases g with
    | none=>exact fold_sim gs ns ks acc bcc hh.2 p1.tail p2.tail h3 p3 p4
    | some j =>
      have r1:=nn_get p3 j
      have r2:=nn_get p4 j
      exact fold_sim gs ns ks _ _ hh.2 p1.tail p2.tail (marks_set h3 j (mk3_add r1 r2 q1 q2 (marks_get h3 j) hh.1)) (nn_set p3 j (by omega)) (nn_set p4 j (by omega))
theorem round_sim {ws os:List Str} {ms:List Md} {o:Str} {ns ks:List Int} (h:marksL ns=marksL ks) (h1:nn ns) (h2:nn ks):marksL (roundL ws os ms ns o)=marksL (roundL ws os ms ks o)∧nn (roundL ws os ms ns o)∧nn (roundL ws os ms ks o):=by
  have hl:ns.length=ks.length:=by
    have:(marksL ns).length=(marksL ks).length:=by rw [h]
    simpa [marksL] using this
  have hz:nn (List.replicate ns.length 0):=fun x hx=>by
    have:=(List.mem_replicate.mp hx).2
    omega
  unfold roundL
  rw [goals_sim h h1 h2]
  rw [← hl]
  exact fold_sim _ _ _ _ _ h h1 h2 rfl hz hz
end Rp

namespace Rp
open PySem PySem.Spec L2 Rc
open PyProof.Rows hiding St signs

theorem sum_put:∀ (acc:List Int) (j:Nat) (n:Int),j < acc.length→(acc.set j (acc.getD j 0 + n)).sum=acc.sum + n
  | x :: acc,0,n,_=>by simp;omega
  | x :: acc,j + 1,n,h=>by
    have:=sum_put acc j n (by simpa using h)
    simp at this ⊢
    omega
  | [],_,_,h=>by cases h
theorem fold_sum:∀ (gs:List (Option Nat)) (ns acc:List Int),gs.length=ns.length→(∀ j,some j∈gs→j < acc.length)→(∀ (i:Nat),gs[i]? = some none→ns[i]? = some 0)→((ns.zip gs).foldl putR acc).sum=acc.sum + ns.sum
  | [],[],acc,_,_,_=>by simp
  | g :: gs,[],acc,h,_,_=>by cases h
  | [],n :: ns,acc,h,_,_=>by cases h
  | g :: gs,n :: ns,acc,h,h1,h2=>by
    rw [List.zip_cons_cons,List.foldl_cons]
    have hl:gs.length=ns.length:=by simpa using h
    cases g with
    | none =>
      have e0:n=0:=by simpa using h2 0 rfl
      have:=fold_sum gs ns acc hl (fun j hj=>h1 j (List.mem_cons_of_mem _ hj)) (fun i hi=>by simpa using h2 (i + 1) (by simpa using hi))
      show ((ns.zip gs).foldl putR acc).sum=_
      rw [this,List.sum_cons]
      omega
    | some j =>
      have hj:=h1 j List.mem_cons_self
      have:=fold_sum gs ns (acc.set j (acc.getD j 0 + n)) hl (fun i hi=>by rw [List.length_set];exact h1 i (List.mem_cons_of_mem _ hi)) (fun i hi=>by simpa using h2 (i + 1) (by simpa using hi))
      show ((ns.zip gs).foldl putR (acc.set j (acc.getD j 0 + n))).sum=_
      rw [this,sum_put _ _ _ hj,List.sum_cons]
      omega
theorem goal_none {ws os:List Str} {ms:List Md} {ss:List Str} (h:POk ws os ms ss) {ns:List Int} {o:Str} (ho:o∈os) {a:Nat} (ha:a < ms.length) (e:goalOf ws os ms ns o a=none):ns.getD a 0=0:=by
  unfold goalOf at e
  split at e
  · assumption
  · obtain ⟨g,hg,en⟩:=next_some h ha ho (sound_in h (ns.set a (ns.getD a 0 - 1)))
    unfold heardM at e
    rw [en] at e
    obtain ⟨j,ej⟩:=idxS_mem hg
    have:idxS g (nmsOf ms)=none:=e
    rw [ej] at this
    cases this
theorem round_len {ws os:List Str} {ms:List Md} {o:Str} {ns:List Int}:(roundL ws os ms ns o).length=ns.length:=by
  unfold roundL
  rw [foldR_len]
  simp
theorem round_sum {ws os:List Str} {ms:List Md} {ss:List Str} (h:POk ws os ms ss) {ns:List Int} (hn:ns.length=ms.length) {o:Str} (ho:o∈os):(roundL ws os ms ns o).sum=ns.sum:=by
  unfold roundL
  rw [fold_sum _ _ _ (by simp [goalsL,hn]) (fun j hj=>?_) (fun i hi=>?_)]
  · simp
  · unfold goalsL at hj
    obtain ⟨a,_,ea⟩:=List.mem_map.mp hj
    have:=goalOf_lt ea
    simp;omega
  · unfold goalsL at hi
    rw [List.getElem?_map] at hi
    obtain ⟨a,h1,h2⟩:=Option.map_eq_some_iff.mp hi
    have hlt:i < ms.length:=by
      have:=(List.getElem?_eq_some_iff.mp h1).1
      simpa using this
    rw [List.getElem?_range hlt] at h1
    cases h1
    have:=goal_none h ho hlt h2
    rw [List.getD_eq_getElem?_getD,List.getElem?_eq_getElem (by omega)] at this
    rw [List.getElem?_eq_getElem (by omega)]
    simpa using this
theorem mem_le_sum:∀ {ns:List Int},nn ns→∀ n∈ns,n≤ns.sum
  | x :: ns,h,n,hn=>by
    have h1:=sum_nonneg h.tail
    have h2:=h.head
    rw [List.sum_cons]
    rcases List.mem_cons.mp hn with rfl | hn
    · omega
    · have:=mem_le_sum h.tail n hn
      omega
theorem RmOk.of {ms:List Md} {ns:List Int} (hl:ns.length=ms.length) (h:nn ns) (h1:1≤ns.sum) (h2:ns.sum≤1000000000000):RmOk ms ns :=
  ⟨⟨hl,fun n hn=>⟨h n hn,by have:=mem_le_sum h n hn;omega⟩⟩,h1,h2⟩
theorem RmOk.nn {ms:List Md} {ns:List Int} (h:RmOk ms ns):nn ns:=fun n hn=>(h.n.pos n hn).1
theorem RmOk.round {ws os:List Str} {ms:List Md} {ss:List Str} (h:POk ws os ms ss) {ns:List Int} (r:RmOk ms ns) {o:Str} (ho:o∈os):RmOk ms (roundL ws os ms ns o):=by
  have e:=round_sum h r.n.len ho
  exact .of (round_len.trans r.n.len) (round_sim (ws:=ws) (os:=os) (ms:=ms) (o:=o) (rfl:marksL ns=marksL ns) r.nn r.nn).2.1 (by rw [e];exact r.s1) (by rw [e];exact r.s2)
end Rp

namespace Rp
open PySem PySem.Spec L2 Rc
open PyProof.Rows hiding St signs

def afterL (ws os:List Str) (ms:List Md) (ns:List Int) (zs:List Str):List Int:=zs.foldl (roundL ws os ms) ns
theorem RmOk.after {ws os:List Str} {ms:List Md} {ss:List Str} (h:POk ws os ms ss):∀ {zs:List Str} {ns:List Int},RmOk ms ns→(∀ z∈zs,z∈os)→RmOk ms (afterL ws os ms ns zs)
  | [],ns,r,_=>r
  | z :: zs,ns,r,hz=>RmOk.after h (zs:=zs) (r.round h (hz z List.mem_cons_self)) fun y hy=>hz y (List.mem_cons_of_mem _ hy)
end Rp

namespace Rp
open PySem PySem.Spec L2 Rc
open PyProof.Rows hiding St signs

def lowP (n:Nat) (ps:List (Option Nat)):Prop:=∀ j,some j∈ps→j < n
end Rp

namespace Rp
open PySem PySem.Spec L2 Rc
open PyProof.Rows hiding St signs

end Rp

namespace Rp
open PySem PySem.Spec L2 Rc
open PyProof.Rows hiding St signs

end Rp

namespace Rp
open PySem PySem.Spec L2 Rc
open PyProof.Rows hiding St signs

structure PosF (ms:List Md) (qs:List Int) (ps:List (Option Nat)):Prop where
  len:ps.length=ms.length
  low:lowP ms.length ps
  iff:∀ k,k < ms.length→(qs.getD k 0=0↔ps[k]? = some none)
section
variable (m:Mem) (ns ks:List Int) (xs:List MV)
@[simp] theorem zipI_lv:zipI (.v (.lst xs)) (.v (intsV ns)) m=.ok ⟨zipM xs (ns.map .int),[]⟩ m:=id rfl
@[simp] theorem zipI_vl:zipI (.v (intsV ns)) (.v (.lst xs)) m=.ok ⟨zipM (ns.map .int) xs,[]⟩ m:=id rfl
@[simp] theorem ixF_v (k:Int):ixF (.v (intsV ns)) (.v (.int k)) m=ixL (atI (ns.map MV.int) k) m:=id rfl
@[simp] theorem lenO_v:lenO (.v (intsV ns)) m=.ok (.v (.int ns.length)) m:=by unfold intsV;simp
@[simp] theorem seqI_v:seqI (.v (intsV ns)) m=.ok ⟨ns.map .int,[]⟩ m:=id rfl
@[simp] theorem enumI_v:enumI (.v (intsV ns)) m=.ok ⟨enumM (ns.map .int),[]⟩ m:=id rfl
end
end Rp

set_option maxHeartbeats 1000000
namespace Rc
open PySem PySem.Spec L2
open PyProof.Rows hiding St

def W (r:SR) (Q:SR→Prop):Prop:=Q r
def WR {α:Type} (r:R α) (Q:α→Mem→Prop):Prop:=∃ a m,r=.ok a m∧Q a m
def Nx (I:Sl→Mem→Prop) (r:SR):Prop:=∃ s m,r=.nx s m∧I s m
def Tru (r:SR):Prop:=∃ m,runR r=.ok (.bl true) m
def Is (x:FR) (r:SR):Prop:=runR r=x
def Ret (Q:MV→Mem→Prop) (r:SR):Prop:=∃ x m,runR r=.ok x m∧Q x m
def RetN (Q:MO→Mem→Prop) (r:SR):Prop:=∃ x m,runR r=.new x m∧Q x m
section
variable {α β γ:Type}
@[simp] theorem bd_bd (r:R α) (k1:α→Mem→R β) (k2:β→Mem→R γ) (t1:Tg k1) (t2:Tg k2):(r.bd k1 t1).bd k2 t2=r.bd (fun a m=>(k1 a m).bd k2):=by cases r <;> rfl
@[simp] theorem bd_ts (r:R α) (k1:α→Mem→R β) (s:Sl) (k2:β→Mem→SR) (t1:Tg k1) (t2:Tg k2):(r.bd k1 t1).ts s k2 t2=r.ts s (fun a m=>(k1 a m).ts s k2):=by cases r <;> rfl
@[simp] theorem ts_sq (r:R α) (s:Sl) (k1:α→Mem→SR) (k2:Sl→Mem→SR) (t1:Tg k1) (t2:Tg k2):(r.ts s k1 t1).sq k2 t2=r.ts s (fun a m=>(k1 a m).sq k2):=by cases r <;> rfl
@[simp] theorem sq_sq (r:SR) (k1 k2:Sl→Mem→SR) (t1:Tg k1) (t2:Tg k2):(r.sq k1 t1).sq k2 t2=r.sq (fun s m=>(k1 s m).sq k2):=by cases r <;> rfl
@[simp] theorem W_nx (s:Sl) (m:Mem) (I:Sl→Mem→Prop):W (.nx s m) (Nx I)↔I s m:=⟨fun ⟨_,_,e,h⟩=>by cases e;exact h,fun h=>⟨s,m,rfl,h⟩⟩
@[simp] theorem W_tru (m:Mem):W (.rt (.ok (.bl true) m)) Tru:=⟨m,rfl⟩
@[simp] theorem W_is (v:MV) (m:Mem) (x:FR):W (.rt (.ok v m)) (Is x)↔FR.ok v m=x:=Iff.rfl
@[simp] theorem W_isNew (v:MO) (m:Mem) (x:FR):W (.rt (.new v m)) (Is x)↔FR.new v m=x:=Iff.rfl
@[simp] theorem W_isN (s:Sl) (m:Mem) (x:FR):W (.nx s m) (Is x)↔FR.ok .non m=x:=Iff.rfl
@[simp] theorem W_isX (s:Sl) (m:Mem) (x:FR) (c:Str) (ks:List Str) (xs:List MV):W (.ex c ks xs s m) (Is x)↔FR.exc c ks xs m=x:=Iff.rfl
@[simp] theorem W_ret (x:MV) (m:Mem) (Q:MV→Mem→Prop):W (.rt (.ok x m)) (Ret Q)↔Q x m:=⟨fun ⟨_,_,e,h⟩=>by cases e;exact h,fun h=>⟨x,m,rfl,h⟩⟩
@[simp] theorem W_retN (x:MO) (m:Mem) (Q:MO→Mem→Prop):W (.rt (.new x m)) (RetN Q)↔Q x m:=⟨fun ⟨_,_,e,h⟩=>by cases e;exact h,fun h=>⟨x,m,rfl,h⟩⟩
@[simp] theorem WR_ok (a:α) (m:Mem) (Q:α→Mem→Prop):WR (.ok a m) Q↔Q a m:=⟨fun ⟨_,_,e,h⟩=>by cases e;exact h,fun h=>⟨a,m,rfl,h⟩⟩
theorem W.ite {c:Prop} [Decidable c] {a b:SR} {Q:SR→Prop} (h1:c→W a Q) (h2:¬c→W b Q):W (if c then a else b) Q:=by
  split
  · exact h1 (by assumption)
  · exact h2 (by assumption)
theorem WR.ite {c:Prop} [Decidable c] {a b:R α} {Q:α→Mem→Prop} (h1:c→WR a Q) (h2:¬c→WR b Q):WR (if c then a else b) Q:=by
  split
  · exact h1 (by assumption)
  · exact h2 (by assumption)
theorem W.mono {r:SR} {Q Q':SR→Prop} (h:W r Q) (w:∀ r,Q r→Q' r):W r Q':=w _ h
theorem W.for {f:MV→Sl→Mem→SR} {xs:List MV} {s:Sl} {m:Mem} {k:Sl→Mem→SR} {t:Tg k} {Q:SR→Prop} (I:Sl→Mem→Prop) (h0:I s m) (h:∀ x∈xs,∀ s m,I s m→W (f x s m) (Nx I)) (h2:∀ s m,I s m→W (k s m) Q):W ((forS f [] xs s m).sq k t) Q:=by
  obtain ⟨s',m',e,hI⟩:=forS_inv I h h0
  rw [e]
  exact h2 s' m' hI
theorem W.forI {f:MV→Sl→Mem→SR} {xs:List MV} {s:Sl} {m:Mem} {k:Sl→Mem→SR} {t:Tg k} {Q:SR→Prop} (I:Nat→Sl→Mem→Prop) (h0:I 0 s m) (h:∀ i x,xs[i]? = some x→∀ s m,I i s m→W (f x s m) (Nx (I (i + 1)))) (h2:∀ s m,I xs.length s m→W (k s m) Q):W ((forS f [] xs s m).sq k t) Q:=by
  obtain ⟨s',m',e,hI⟩:=forS_ix I (xs:=xs) 0 (fun i x hx s m hI=>by rw [Nat.zero_add] at hI ⊢;exact h i x hx s m hI) h0
  rw [Nat.zero_add] at hI
  rw [e]
  exact h2 s' m' hI
theorem forS_gen {f:MV→Sl→Mem→SR} {Q:SR→Prop} {k:Sl→Mem→SR} (I:Nat→Sl→Mem→Prop):∀ {xs:List MV} {s:Sl} {m:Mem} (n:Nat),I n s m→(∀ i x,xs[i]? = some x→∀ s m,I (n + i) s m→(∃ s' m',(f x s m=.nx s' m'∨f x s m=.ct s' m')∧I (n + i + 1) s' m')∨(∃ s' m',f x s m=.bk s' m'∧Q (k s' m'))∨(∃ r,f x s m=.rt r∧Q (.rt r))∨(∃ c ks ys s' m',f x s m=.ex c ks ys s' m'∧Q (.ex c ks ys s' m')))→(∀ s m,I (n + xs.length) s m→Q (k s m))→Q ((forS f [] xs s m).sq k)
  | [],s,m,n,h0,h,h2=>by rw [forS_nilE];exact h2 s m h0
  | x :: xs,s,m,n,h0,h,h2=>by
    rw [forS_consE]
    have go:∀ s' m',I (n + 1) s' m'→Q ((forS f [] xs s' m').sq k):=fun s' m' hI=>forS_gen I (n + 1) hI (fun i y hy s m q=>by
      have:=h (i + 1) y (by simpa using hy) s m (by rw [show n + (i + 1)=n + 1 + i from by omega];exact q)
      rw [show n + (i + 1) + 1=n + 1 + i + 1 from by omega] at this
      exact this) fun s m q=>h2 s m (by rw [List.length_cons,show n + (xs.length + 1)=n + 1 + xs.length from by omega];exact q)
    rcases h 0 x rfl s m h0 with ⟨s',m',e,hI⟩ | ⟨s',m',e,hq⟩ | ⟨r,e,hq⟩ | ⟨c,ks,ys,s',m',e,hq⟩
    · rcases e with e | e
      · rw [e];exact go s' m' hI
      · rw [e];exact go s' m' hI
    · rw [e];exact hq
    · rw [e];exact hq
    · rw [e];exact hq
def Tn (I:Sl→Mem→Prop) (B:Sl→Mem→Prop) (Q:SR→Prop) (r:SR):Prop:=(∃ s' m',(r=.nx s' m'∨r=.ct s' m')∧I s' m')∨(∃ s' m',r=.bk s' m'∧B s' m')∨(∃ q,r=.rt q∧Q (.rt q))∨(∃ c ks ys s' m',r=.ex c ks ys s' m'∧Q (.ex c ks ys s' m'))
@[simp] theorem W_tn_nx (I:Sl→Mem→Prop) (B:Sl→Mem→Prop) (Q:SR→Prop) (s:Sl) (m:Mem):W (.nx s m) (Tn I B Q)↔I s m:=by
  refine ⟨fun h=>?_,fun h=>.inl ⟨s,m,.inl rfl,h⟩⟩
  rcases h with ⟨s',m',e | e,h⟩ | ⟨s',m',e,h⟩ | ⟨r,e,h⟩ | ⟨c,ks,ys,s',m',e,h⟩ <;> cases e
  exact h
@[simp] theorem W_tn_ct (I:Sl→Mem→Prop) (B:Sl→Mem→Prop) (Q:SR→Prop) (s:Sl) (m:Mem):W (.ct s m) (Tn I B Q)↔I s m:=by
  refine ⟨fun h=>?_,fun h=>.inl ⟨s,m,.inr rfl,h⟩⟩
  rcases h with ⟨s',m',e | e,h⟩ | ⟨s',m',e,h⟩ | ⟨r,e,h⟩ | ⟨c,ks,ys,s',m',e,h⟩ <;> cases e
  exact h
@[simp] theorem W_tn_bk (I:Sl→Mem→Prop) (B:Sl→Mem→Prop) (Q:SR→Prop) (s:Sl) (m:Mem):W (.bk s m) (Tn I B Q)↔B s m:=by
  refine ⟨fun h=>?_,fun h=>.inr (.inl ⟨s,m,rfl,h⟩)⟩
  rcases h with ⟨s',m',e | e,h⟩ | ⟨s',m',e,h⟩ | ⟨r,e,h⟩ | ⟨c,ks,ys,s',m',e,h⟩ <;> cases e
  exact h
@[simp] theorem W_tn_rt (I:Sl→Mem→Prop) (B:Sl→Mem→Prop) (Q:SR→Prop) (r:FR):W (.rt r) (Tn I B Q)↔W (.rt r) Q:=by
  refine ⟨fun h=>?_,fun h=>.inr (.inr (.inl ⟨r,rfl,h⟩))⟩
  rcases h with ⟨s',m',e | e,h⟩ | ⟨s',m',e,h⟩ | ⟨r,e,h⟩ | ⟨c,ks,ys,s',m',e,h⟩ <;> cases e
  exact h
@[simp] theorem W_tn_ex (I:Sl→Mem→Prop) (B:Sl→Mem→Prop) (Q:SR→Prop) (c:Str) (ks:List Str) (xs:List MV) (s:Sl) (m:Mem):W (.ex c ks xs s m) (Tn I B Q)↔W (.ex c ks xs s m) Q:=by
  refine ⟨fun h=>?_,fun h=>.inr (.inr (.inr ⟨c,ks,xs,s,m,rfl,h⟩))⟩
  rcases h with ⟨s',m',e | e,h⟩ | ⟨s',m',e,h⟩ | ⟨r,e,h⟩ | ⟨c,ks,ys,s',m',e,h⟩ <;> cases e
  exact h
theorem W.forG {f:MV→Sl→Mem→SR} {xs:List MV} {s:Sl} {m:Mem} {k:Sl→Mem→SR} {t:Tg k} {Q:SR→Prop} (I:Nat→Sl→Mem→Prop) (h0:I 0 s m) (h:∀ i x,xs[i]? = some x→∀ s m,I i s m→W (f x s m) (Tn (I (i + 1)) (fun s m=>W (k s m) Q) Q)) (h2:∀ s m,I xs.length s m→W (k s m) Q):W ((forS f [] xs s m).sq k t) Q :=
  forS_gen (Q:=Q) (k:=k) I 0 h0 (fun i x hx s m hI=>by rw [Nat.zero_add] at hI ⊢;exact h i x hx s m hI) (fun s m hI=>h2 s m (by rw [Nat.zero_add] at hI;exact hI))
theorem W.filt {f:MV→Mem→R (Option MV)} {xs acc:List MV} {m:Mem} {s:Sl} {k:List MV→Mem→SR} {t:Tg k} {Q:SR→Prop} (h:MV→Option MV) (hf:∀ x∈xs,f x m=.ok (h x) m) (hl:acc.length + xs.length≤sizeLine) (h2:W (k (acc++xs.filterMap h) m) Q):W ((compM f [] xs acc m).ts s k t) Q:=by
  rw [compM_filter hf hl];exact h2
theorem WR.filt {f:MV→Mem→R (Option MV)} {xs acc:List MV} {m:Mem} {k:List MV→Mem→R β} {t:Tg k} {Q:β→Mem→Prop} (h:MV→Option MV) (hf:∀ x∈xs,f x m=.ok (h x) m) (hl:acc.length + xs.length≤sizeLine) (h2:WR (k (acc++xs.filterMap h) m) Q):WR ((compM f [] xs acc m).bd k t) Q:=by
  rw [compM_filter hf hl];exact h2
theorem W.map {f:MV→Mem→R (Option MV)} {xs acc:List MV} {m:Mem} {s:Sl} {k:List MV→Mem→SR} {t:Tg k} {Q:SR→Prop} (h:MV→MV) (hf:∀ x∈xs,f x m=.ok (some (h x)) m) (hl:acc.length + xs.length≤sizeLine) (h2:W (k (acc++xs.map h) m) Q):W ((compM f [] xs acc m).ts s k t) Q:=by
  rw [compM_map hf hl];exact h2
theorem WR.map {f:MV→Mem→R (Option MV)} {xs acc:List MV} {m:Mem} {k:List MV→Mem→R β} {t:Tg k} {Q:β→Mem→Prop} (h:MV→MV) (hf:∀ x∈xs,f x m=.ok (some (h x)) m) (hl:acc.length + xs.length≤sizeLine) (h2:WR (k (acc++xs.map h) m) Q):WR ((compM f [] xs acc m).bd k t) Q:=by
  rw [compM_map hf hl];exact h2
theorem comp_drawn {f:MV→Mem→R (Option MV)} (J:Mem→Prop) (P:Nat→MV→Prop):∀ {xs acc:List MV} {m:Mem} (n:Nat),(∀ i x,xs[i]? = some x→∀ m,J m→WR (f x m) fun o m'=>J m'∧∃ y,o=some y∧P (n + i) y)→J m→acc.length + xs.length≤sizeLine →
    ∃ ys m',compM f [] xs acc m=.ok (acc++ys) m'∧J m'∧ys.length=xs.length∧∀ i y,ys[i]? = some y→P (n + i) y
  | [],acc,m,n,_,hm,_=>⟨[],m,by unfold compM;rw [if_pos (OkW_nil m)];simp,hm,rfl,fun i y h=>by simp at h⟩
  | x :: xs,acc,m,n,hf,hm,hl=>by
    obtain ⟨o,m1,e,h1,y,rfl,h2⟩:=hf 0 x rfl m hm
    rw [List.length_cons] at hl
    obtain ⟨ys,m2,e2,h3,h4,h5⟩:=comp_drawn J P (xs:=xs) (acc:=acc++[y]) (n + 1) (fun i z hz m q=>by
      have:=hf (i + 1) z (by simpa using hz) m q
      rw [show n + (i + 1)=n + 1 + i from by omega] at this
      exact this) h1 (by simp;omega)
    refine ⟨y :: ys,m2,?_,h3,by simp [h4],fun i z hz=>?_⟩
    · rw [compM_cons,if_pos (OkW_nil m),e]
      show (if acc.length < sizeLine then compM f [] xs (acc++[y]) m1 else .stuck)=_
      rw [if_pos (by omega),e2]
      simp
    · cases i with
      | zero=>simp at hz;subst hz;exact h2
      | succ i =>
        have:=h5 i z (by simpa using hz)
        rw [show n + (i + 1)=n + 1 + i from by omega]
        exact this
theorem W.drawn {f:MV→Mem→R (Option MV)} {xs acc:List MV} {m:Mem} {s:Sl} {k:List MV→Mem→SR} {t:Tg k} {Q:SR→Prop} (J:Mem→Prop) (P:Nat→MV→Prop) (h0:J m) (hl:acc.length + xs.length≤sizeLine) (hf:∀ i x,xs[i]? = some x→∀ m,J m→WR (f x m) fun o m'=>J m'∧∃ y,o=some y∧P i y) (h2:∀ ys m',J m'→ys.length=xs.length→(∀ i y,ys[i]? = some y→P i y)→W (k (acc++ys) m') Q):W ((compM f [] xs acc m).ts s k t) Q:=by
  obtain ⟨ys,m',e,h3,h4,h5⟩:=comp_drawn J P 0 (fun i x hx m q=>by rw [Nat.zero_add];exact hf i x hx m q) h0 hl
  rw [e]
  exact h2 ys m' h3 h4 fun i y hy=>by have:=h5 i y hy;rw [Nat.zero_add] at this;exact this
theorem WR.drawn {f:MV→Mem→R (Option MV)} {xs acc:List MV} {m:Mem} {k:List MV→Mem→R β} {t:Tg k} {Q:β→Mem→Prop} (J:Mem→Prop) (P:Nat→MV→Prop) (h0:J m) (hl:acc.length + xs.length≤sizeLine) (hf:∀ i x,xs[i]? = some x→∀ m,J m→WR (f x m) fun o m'=>J m'∧∃ y,o=some y∧P i y) (h2:∀ ys m',J m'→ys.length=xs.length→(∀ i y,ys[i]? = some y→P i y)→WR (k (acc++ys) m') Q):WR ((compM f [] xs acc m).bd k t) Q:=by
  obtain ⟨ys,m',e,h3,h4,h5⟩:=comp_drawn J P 0 (fun i x hx m q=>by rw [Nat.zero_add];exact hf i x hx m q) h0 hl
  rw [e]
  exact h2 ys m' h3 h4 fun i y hy=>by have:=h5 i y hy;rw [Nat.zero_add] at this;exact this
end
theorem Is.of {n:Nat} {B:MSs} {as:List MV} {m:Mem} {x:FR} (h:W (exs B (as.map (fun x=>some (SV.v x))++List.replicate (n - as.length) none) m) (Is x)):runD n B as m=x:=h
theorem Ret.of {n:Nat} {B:MSs} {as:List MV} {m:Mem} {Q:MV→Mem→Prop} (h:W (exs B (as.map (fun x=>some (SV.v x))++List.replicate (n - as.length) none) m) (Ret Q)):∃ x m',runD n B as m=.ok x m'∧Q x m':=h
theorem RetN.of {n:Nat} {B:MSs} {as:List MV} {m:Mem} {Q:MO→Mem→Prop} (h:W (exs B (as.map (fun x=>some (SV.v x))++List.replicate (n - as.length) none) m) (RetN Q)):∃ x m',runD n B as m=.new x m'∧Q x m':=h
theorem Tru.of {n:Nat} {B:MSs} {as:List MV} {m:Mem} (h:W (exs B (as.map (fun x=>some (SV.v x))++List.replicate (n - as.length) none) m) Tru):∃ m',runD n B as m=.ok (.bl true) m':=h
end Rc

set_option maxHeartbeats 2000000
namespace Rp
open PySem PySem.Spec L2 Rc
open PyProof.Rows hiding St signs

section
variable (ws os:List Str) (ms:List Md) (ss:List Str)
@[simp] theorem spec0:(specL ws os ms ss)[0]? = some (strsV ws):=id rfl
@[simp] theorem spec1:(specL ws os ms ss)[1]? = some (strsV os):=id rfl
@[simp] theorem spec2:(specL ws os ms ss)[2]? = some (.lst (ms.map modeV)):=id rfl
@[simp] theorem spec3:(specL ws os ms ss)[3]? = some (strsV ss):=id rfl
end
section
variable {ws os ss:List Str} {ms:List Md} {ns:List Int}
@[simp] theorem after_nil (ns:List Int):afterL ws os ms ns []=ns:=id rfl
@[simp] theorem after_one (ns:List Int) (z:Str):afterL ws os ms ns [z]=roundL ws os ms ns z:=id rfl
end
end Rp

namespace Rp
open PySem PySem.Spec L2 Rc
open PyProof.Rows hiding St signs

@[simp] theorem bg_set (b:Bag) (r:Mem) (n:Nat) (o:Option MO):(bg b r).set (n + 1) o=bg b (r.set n o):=id rfl
theorem compM_mapW {f:MV→Mem→R (Option MV)} {h:MV→MV} {m:Mem} {wt:List (Nat × MO)} (hw:OkW wt m):∀ {xs acc:List MV},(∀ x∈xs,f x m=.ok (some (h x)) m)→acc.length + xs.length≤sizeLine→compM f wt xs acc m=.ok (acc++xs.map h) m
  | [],acc,_,_=>by unfold compM;rw [if_pos hw];simp
  | x :: xs,acc,hf,hl=>by
    rw [List.length_cons] at hl
    unfold compM
    rw [if_pos hw,hf x List.mem_cons_self]
    show (if acc.length < sizeLine then compM f wt xs (acc++[h x]) m else .stuck)=_
    rw [if_pos (by omega),compM_mapW hw (fun y hy=>hf y (List.mem_cons_of_mem _ hy)) (by simp;omega)]
    simp
theorem W.mapW {f:MV→Mem→R (Option MV)} {xs acc:List MV} {m:Mem} {s:Sl} {k:List MV→Mem→SR} {t:Tg k} {Q:SR→Prop} {wt:List (Nat × MO)} (hw:OkW wt m) (h:MV→MV) (hf:∀ x∈xs,f x m=.ok (some (h x)) m) (hl:acc.length + xs.length≤sizeLine) (h2:W (k (acc++xs.map h) m) Q):W ((compM f wt xs acc m).ts s k t) Q:=by
  rw [compM_mapW hw hf hl];exact h2
def atom:MV→Prop
  | .non=>True
  | .bl _=>True
  | .int _=>True
  | .str _=>True
  | _=>False
def LstAt (m:Mem) (x:MV) (xs:List MV):Prop:=x=.lst xs∨∃ k,x=.ref k∧memL m k=some xs
def Sm (m:Mem):Nat→MV→MV→Prop
  | 0,_,_=>False
  | n + 1,x,y=>(x=y∧atom y)∨(∃ xs ys,x=.tup xs∧y=.tup ys∧xs.length=ys.length∧xs.length≤sizeLine∧∀ (i:Nat) a b,xs[i]? = some a→ys[i]? = some b→Sm m n a b) ∨
    ∃ xs ys,LstAt m x xs∧y=.lst ys∧xs.length=ys.length∧xs.length≤sizeLine∧∀ (i:Nat) a b,xs[i]? = some a→ys[i]? = some b→Sm m n a b
theorem Sm.refl_of {m:Mem}:∀ (n:Nat) (x:MV),pl n x=true→Sm m n x x
  | 0,_,h=>by cases h
  | n + 1,x,h=>by
    cases x with
    | non=>exact .inl ⟨rfl,trivial⟩
    | bl b=>exact .inl ⟨rfl,trivial⟩
    | int i=>exact .inl ⟨rfl,trivial⟩
    | str s=>exact .inl ⟨rfl,trivial⟩
    | tup xs =>
      have h:(decide (xs.length≤sizeLine)&&xs.all (pl n))=true:=h
      simp only [Bool.and_eq_true,decide_eq_true_eq,List.all_eq_true] at h
      exact .inr (.inl ⟨xs,xs,rfl,rfl,rfl,h.1,fun i a b e1 e2=>by rw [e1] at e2;cases e2;exact Sm.refl_of n a (h.2 a (List.mem_of_getElem? e1))⟩)
    | lst xs =>
      have h:(decide (xs.length≤sizeLine)&&xs.all (pl n))=true:=h
      simp only [Bool.and_eq_true,decide_eq_true_eq,List.all_eq_true] at h
      exact .inr (.inr ⟨xs,xs,.inl rfl,rfl,rfl,h.1,fun i a b e1 e2=>by rw [e1] at e2;cases e2;exact Sm.refl_of n a (h.2 a (List.mem_of_getElem? e1))⟩)
    | _=>cases h
theorem Sm.atom {m:Mem} {n:Nat} {x:MV} (h:Rp.atom x):Sm m (n + 1) x x:=.inl ⟨rfl,h⟩
theorem Sm.lst {m:Mem} {n:Nat} {x:MV} {xs:List MV} (h:LstAt m x xs) (hl:xs.length≤sizeLine) (hp:∀ y∈xs,pl n y=true):Sm m (n + 1) x (.lst xs) :=
  .inr (.inr ⟨xs,xs,h,rfl,rfl,hl,fun i a b e1 e2=>by rw [e1] at e2;cases e2;exact Sm.refl_of n a (hp a (List.mem_of_getElem? e1))⟩)
theorem Sm.tup {m:Mem} {n:Nat} {xs:List MV} (hl:xs.length≤sizeLine) (hp:∀ y∈xs,pl n y=true):Sm m (n + 1) (.tup xs) (.tup xs) :=
  .inr (.inl ⟨xs,xs,rfl,rfl,rfl,hl,fun i a b e1 e2=>by rw [e1] at e2;cases e2;exact Sm.refl_of n a (hp a (List.mem_of_getElem? e1))⟩)
theorem Sm.two {m:Mem} {n:Nat} {a b c d:MV} (h1:Sm m n a c) (h2:Sm m n b d):Sm m (n + 1) (.lst [a,b]) (.lst [c,d]) :=
  .inr (.inr ⟨[a,b],[c,d],.inl rfl,rfl,rfl,by rw [sizeLine_eq];simp,fun i x y e1 e2=>by
    match i with
    | 0=>cases e1;cases e2;exact h1
    | 1=>cases e1;cases e2;exact h2
    | i + 2=>simp at e1⟩)
theorem pl_ints {n:Nat} {zs:List Int}:∀ y∈zs.map MV.int,pl (n + 1) y=true:=fun y hy=>by
  obtain ⟨z,_,rfl⟩:=List.mem_map.mp hy
  rfl
theorem Sm.ints {m:Mem} {n:Nat} {ns:List Int} (h:ns.length≤sizeLine):Sm m (n + 2) (intsV ns) (intsV ns):=Sm.tup (by simpa using h) pl_ints
@[simp] theorem bg_app (b:Bag) (r l:Mem):bg b r++l=bg b (r++l):=id rfl
@[simp] theorem bg_len (b:Bag) (r:Mem):(bg b r).length=r.length + 1:=id rfl
end Rp

namespace Rp
open PySem PySem.Spec L2 Rc
open PyProof.Rows hiding St signs

section
variable (m:Mem)
@[simp] theorem F_notinKd (x y:OV):cNotinKd.F x y m=inKd (!·) x y m:=id rfl
@[simp] theorem inKd_s (f:Bool→Bool) (z:Str) (ks:List Str) (is:List Int):inKd f (.v (.str z)) (.v (.kd ks is)) m=.ok (.v (.bl (f ((ks.zip is).lookup z).isSome))) m:=id rfl
def kdR (o:Option Int) (m:Mem):R OV:=match o with
  | some i=>.ok (.v (.int i)) m
  | none=>.stuck
@[simp] theorem kdR_s (i:Int):kdR (some i) m=.ok (.v (.int i)) m:=id rfl
@[simp] theorem F_ixKd (z:Str) (ks:List Str) (is:List Int):pIxKd.F [.v (.kd ks is),.v (.str z)] m=kdR ((ks.zip is).lookup z) m:=by
  have e:kdGet (.v (.str z)) (.v (.kd ks is))=some ((ks.zip is).lookup z):=rfl
  show ixKd (.v (.kd ks is)) (.v (.str z)) m=_
  unfold ixKd
  rw [e]
  cases (ks.zip is).lookup z <;> rfl
@[simp] theorem F_inM (cs:List (Str × Fn)) (x y:OV):(cInM cs).F x y m=inMF id cs x y m:=id rfl
@[simp] theorem boolR_b (f:Bool→Bool) (b:Bool):boolR f (.ok (.bl b) m)=.ok (.v (.bl (f b))) m:=id rfl
end
theorem ofString_inj {a b:String}:Str.ofString a=Str.ofString b↔a=b:=by
  refine ⟨fun h=>?_,fun h=>by rw [h]⟩
  rw [Str.ofString_eq_toList,Str.ofString_eq_toList] at h
  have h1:(a.toList.map Char.toNat).toArray=(b.toList.map Char.toNat).toArray:=congrArg Str.cps h
  have h2:a.toList.map Char.toNat=b.toList.map Char.toNat:=by simpa using h1
  have inj:∀ {x y:Char},x.toNat=y.toNat→x=y:=fun {x y} e=>Char.ext (UInt32.toNat_inj.mp e)
  have h3:a.toList=b.toList:=by
    clear h h1
    generalize a.toList=u at h2
    generalize b.toList=v at h2
    induction u generalizing v with
    | nil=>cases v <;> first | rfl | cases h2
    | cons x u ih =>
      cases v with
      | nil=>cases h2
      | cons y v =>
        rw [List.map_cons,List.map_cons,List.cons.injEq] at h2
        rw [inj h2.1,ih v h2.2]
  exact String.toList_inj.mp h3
def nm (ms:List Md) (a:Nat):Str:=(nmsOf ms).getD a ""
inductive Wi where
  | apart (a b:Nat)
  | most (a k:Nat)
  | all (a:Nat)
  | snd (z:Str)
  | nev (z:Str)
section
variable {ws os ss:List Str} {ms:List Md} {ns:List Int}
theorem Pcontains (z:Str) (m:Mem):M_Program___contains__ [progV ws os ms ss,.str z] m=.ok (.bl (decide (z∈nmsOf ms))) m:=by
  refine Is.of ?_
  unfold B_Program___contains__
  simp [strsV]
@[simp] theorem inM_prog (f:Bool→Bool) (z:Str) (m:Mem):inMF f [("Program",F_Program___contains__)] (.v (.str z)) (.v (progV ws os ms ss)) m=.ok (.v (.bl (f (decide (z∈nmsOf ms))))) m:=by
  show boolR f (M_Program___contains__ [progV ws os ms ss,.str z] m)=_
  rw [Pcontains]
  rfl
end
end Rp

namespace Rp
open PySem PySem.Spec L2 Rc
open PyProof.Rows hiding St signs

@[simp] theorem F_raise (x g f code:Str) (v:MV) (s:Sl) (m:Mem):(sRaise x g f code).F [.v v] s m=.ex x [f,"code"] [v,.str code] s m:=id rfl
@[simp] theorem P_raise (x g f code:Str) (s:Sl) (m:Mem):(sRaise x g f code).pre s m=true:=id rfl
theorem pl_lst {n:Nat} {xs:List MV} (hl:xs.length≤100000) (h:∀ x∈xs,pl n x=true):pl (n + 1) (.lst xs)=true:=by
  show (decide (xs.length≤sizeLine)&&xs.all (pl n))=true
  simp only [Bool.and_eq_true,decide_eq_true_eq,List.all_eq_true]
  exact ⟨by rw [sizeLine_eq];omega,h⟩
@[simp] theorem spec_ix0 (ws os ss:List Str) (ms:List Md) (m:Mem):ixF (.v (.lst (specL ws os ms ss))) (.v (.int 0)) m=.ok (.v (strsV ws)) m:=id rfl
@[simp] theorem spec_ix1 (ws os ss:List Str) (ms:List Md) (m:Mem):ixF (.v (.lst (specL ws os ms ss))) (.v (.int 1)) m=.ok (.v (strsV os)) m:=id rfl
@[simp] theorem spec_ix2 (ws os ss:List Str) (ms:List Md) (m:Mem):ixF (.v (.lst (specL ws os ms ss))) (.v (.int 2)) m=.ok (.v (.lst (ms.map modeV))) m:=id rfl
@[simp] theorem spec_ix3 (ws os ss:List Str) (ms:List Md) (m:Mem):ixF (.v (.lst (specL ws os ms ss))) (.v (.int 3)) m=.ok (.v (strsV ss)) m:=id rfl
def okEl:MV→Bool
  | .int _=>true
  | .non=>true
  | .bl _=>true
  | .str _=>true
  | .tup [.int _]=>true
  | _=>false
def numB (lo hi:Int):MV→Bool
  | .int n=>decide (lo≤n)&&decide (n≤hi)
  | _=>false
section
variable {ws os ss:List Str} {ms:List Md}
def Bad (n:Nat) (v:MV):Prop:=v=.non∨(∃ i,v=.int i)∨(∃ z,v=.str z)∨(∃ ns:List Int,v=.lst (ns.map .int)∧ns.length≤1000)∨∃ xs,v=.tup xs∧xs.length≤1000∧(∀ x∈xs,okEl x=true)∧(xs.length≠n∨xs.all (numB 0 1000000000000)=false∨∃ ns:List Int,xs=ns.map .int∧(ns.sum < 1∨1000000000000 < ns.sum))
theorem Bad.pl {n:Nat} {v:MV} (h:Bad n v):pl 3 v=true:=by
  have hs:=sizeLine_eq
  have el:∀ x,okEl x=true→Rp.pl 2 x=true:=fun x hx=>by
    unfold okEl at hx
    split at hx <;> first | rfl | cases hx
  rcases h with rfl | ⟨i,rfl⟩ | ⟨z,rfl⟩ | ⟨ns,rfl,hl⟩ | ⟨xs,rfl,h1,hx,h⟩
  · rfl
  · rfl
  · rfl
  · show (decide _&&_)=true
    simp only [Bool.and_eq_true,decide_eq_true_eq,List.all_eq_true]
    exact ⟨by simp;omega,fun x hx=>by obtain ⟨n,_,rfl⟩:=List.mem_map.mp hx;rfl⟩
  · show (decide _&&_)=true
    simp only [Bool.and_eq_true,decide_eq_true_eq,List.all_eq_true]
    exact ⟨by omega,fun x hx'=>el x (hx x hx')⟩
theorem cls_all:∀ {xs:List MV},(∀ x∈xs,cl x=true)→cls_ xs=true
  | [],_=>rfl
  | x :: xs,h=>by
    show (cl x&&cls_ xs)=true
    rw [h x List.mem_cons_self,cls_all fun y hy=>h y (List.mem_cons_of_mem _ hy)];rfl
theorem cls_ints (ns:List Int):cls_ (ns.map MV.int)=true:=cls_all fun x hx=>by obtain ⟨n,_,rfl⟩:=List.mem_map.mp hx;rfl
theorem Bad.cl {n:Nat} {v:MV} (h:Bad n v):Rc.cl v=true:=by
  rcases h with rfl | ⟨i,rfl⟩ | ⟨z,rfl⟩ | ⟨ns,rfl,hl⟩ | ⟨xs,rfl,h1,hx,h⟩
  · rfl
  · rfl
  · rfl
  · exact cls_ints ns
  · refine cls_all fun x hx'=>?_
    have:=hx x hx'
    unfold okEl at this
    split at this <;> first | rfl | cases this
section
variable (ws os:List Str) (ms:List Md) (ss:List Str) (m:Mem)
theorem Pstarts:M_Program_starts [progV ws os ms ss] m=.new (.lst (ss.map .str)) m:=by
  unfold M_Program_starts;rw [runD_eq];unfold B_Program_starts
  simp [strsV]
@[simp] theorem meth_starts:(pMeth "starts" [("Program",F_Program_starts)]).F (.v (progV ws os ms ss)) m=some fun as mem=>(match vals as with
      | some xs=>retR (M_Program_starts (progV ws os ms ss :: xs) mem)
      | none=>.stuck):=id (by kernel_rfl)
end
end
section
variable {cs:List Str} {c:Str} {v:MV} {m:Mem}
end
end Rp

namespace Rp
open PySem PySem.Spec L2 Rc
open PyProof.Rows hiding St signs

def oddL:List MV:=[.non,.bl true,.bl false,.int 3,.int (-1),.str "",.str "A",.str "seventh",.str "a1",.tup [],.lst [],.tup [.str "a"],.lst [.str "a"],.tup [.tup [.int 1,.str "a"]]]
def noStr:MV→Bool
  | .non=>true
  | .bl _=>true
  | .int _=>true
  | .tup _=>true
  | .lst _=>true
  | _=>false
structure Odd (v:MV):Prop where
  d:Dat 64 v
  k:noStr v=true∨∃ z,v=.str z∧¬ Nm z
section
variable {ws os ss:List Str} {ms:List Md} {ns:List Int}
theorem Odd.cl {v:MV} (h:v∈oddL):Rc.cl v=true:=by
  simp only [oddL,List.mem_cons,List.not_mem_nil,or_false] at h
  rcases h with rfl | rfl | rfl | rfl | rfl | rfl | rfl | rfl | rfl | rfl | rfl | rfl | rfl | rfl <;> rfl
theorem Odd.pl {v:MV} (h:v∈oddL):Rp.pl 3 v=true:=by
  simp only [oddL,List.mem_cons,List.not_mem_nil,or_false] at h
  rcases h with rfl | rfl | rfl | rfl | rfl | rfl | rfl | rfl | rfl | rfl | rfl | rfl | rfl | rfl <;> decide +kernel
end
def trK (cs:List Str) (Mf:Mir) (fs:List (Mem→R OV)) (acc:List MV) (x:OV) (m:Mem):R OV:=match x with
  | .v y=>triesR cs Mf fs (acc++[y]) m
  | .b _=>.stuck
@[simp] theorem triesR_nil (cs:List Str) (Mf:Mir) (acc:List MV) (m:Mem):triesR cs Mf [] acc m=.ok (.v (.lst acc)) m:=id rfl
@[simp] theorem triesR_cons (cs:List Str) (Mf:Mir) (f:Mem→R OV) (fs:List (Mem→R OV)) (acc:List MV) (m:Mem):triesR cs Mf (f :: fs) acc m=(tryR cs Mf (f m)).bd (trK cs Mf fs acc):=by
  show (tryR cs Mf (f m)).bind _=(tryR cs Mf (f m)).bind _
  congr 1
@[simp] theorem trK_v (cs:List Str) (Mf:Mir) (fs:List (Mem→R OV)) (acc:List MV) (y:MV) (m:Mem):trK cs Mf fs acc (.v y) m=triesR cs Mf fs (acc++[y]) m:=id rfl
theorem comp_ix {f:MV→Mem→R (Option MV)} {xs:List MV} {m:Mem} (h:Nat→MV) (hf:∀ i x,xs[i]? = some x→f x m=.ok (some (h i)) m) (hl:xs.length≤sizeLine):compM f [] xs [] m=.ok ((List.range xs.length).map h) m:=by
  obtain ⟨ys,m',e,rfl,h4,h5⟩:=comp_drawn (f:=f) (xs:=xs) (acc:=[]) (m:=m) (fun m'=>m'=m) (fun i y=>y=h i) 0 (fun i x hx m' e=>by
    subst e
    rw [hf i x hx,Nat.zero_add]
    simp) rfl (by simpa using hl)
  rw [e,List.nil_append]
  congr 1
  apply List.ext_getElem?
  intro i
  by_cases hi:i < xs.length
  · rw [List.getElem?_map,List.getElem?_range hi]
    cases hy:ys[i]? with
    | none=>rw [List.getElem?_eq_none_iff] at hy;omega
    | some y =>
      have:=h5 i y hy
      rw [Nat.zero_add] at this
      rw [this];rfl
  · rw [List.getElem?_eq_none (by omega),List.getElem?_eq_none (by simp;omega)]
theorem W.ix {f:MV→Mem→R (Option MV)} {xs:List MV} {m:Mem} {s:Sl} {k:List MV→Mem→SR} {t:Tg k} {Q:SR→Prop} (h:Nat→MV) (hf:∀ i x,xs[i]? = some x→f x m=.ok (some (h i)) m) (hl:xs.length≤sizeLine) (h2:W (k ((List.range xs.length).map h) m) Q):W ((compM f [] xs [] m).ts s k t) Q:=by
  rw [comp_ix h hf hl];exact h2
end Rp

set_option maxHeartbeats 4000000
namespace Rp
open PySem PySem.Spec L2 Rc
open PyProof.Rows hiding St signs

@[simp] theorem lstO_lq (m:Mem) (xs:List MV):lstO m (.v (.lst xs))=some xs:=id rfl
section
variable {ws os ss:List Str} {ms:List Md} {ns:List Int}
structure NoW (ws os:List Str) (ms:List Md) (ss:List Str) (v:MV):Prop where
  no:∀ m,M_is_wish [progV ws os ms ss,v] m=.ok (.bl false) m
  c:Rc.cl v=true
  p:pl 4 v=true
end
end Rp

set_option maxHeartbeats 2000000
namespace Rp
open PySem PySem.Spec L2 Rc
open PyProof.Rows hiding St signs

def nmB (z:Str):Bool:=decide (1≤z.length)&&(decide (z.length≤6)&&z.cps.toList.all fun c=>decide (c∈letters.cps.toList))
theorem nmB_iff {z:Str}:nmB z=true↔Nm z:=by
  unfold nmB Nm
  simp only [Bool.and_eq_true,decide_eq_true_eq,List.all_eq_true,and_assoc]
def nameB:MV→Bool
  | .str z=>nmB z
  | _=>false
def Plain (v:MV):Prop:=noStr v=true∨∃ z,v=.str z∧z.length≤1000
theorem is_name_any {v:MV} (h:Plain v) (m:Mem):M_is_name [v] m=.ok (.bl (nameB v)) m:=by
  rcases h with h | ⟨z,rfl,hz⟩
  · refine Is.of ?_
    unfold B_is_name
    cases v <;> first | (cases h;done) | (simp [nameB])
  · by_cases c:1≤z.length∧z.length≤6
    · have hl:z.length≤sizeLine:=by rw [sizeLine_eq];omega
      have h1:(1:Int)≤z.length:=by omega
      have h2:(z.length:Int)≤6:=by omega
      refine Is.of ?_
      unfold B_is_name
      simp [hl,h1,h2]
      refine W.map (fun y=>match y with | .str q=>.bl (q.cps.toList.all fun c=>decide (c∈letters.cps.toList)) | _=>.non) (fun y hy=>?_) (by simpa [signs_len] using hl) ?_
      · obtain ⟨c,hc,rfl⟩:=sg_mem hy
        simp [letters]
      · unfold signs
        rw [List.nil_append,List.map_map]
        simp [blsM_map,nameB,nmB,c,Function.comp_def]
    · have hl:z.length≤sizeLine:=by rw [sizeLine_eq];omega
      have e:nmB z=false:=by
        unfold nmB
        by_cases c1:1≤z.length
        · have:¬ z.length≤6:=fun h=>c ⟨c1,h⟩
          simp [this]
        · simp [c1]
      refine Is.of ?_
      unfold B_is_name
      by_cases c1:(1:Int)≤z.length
      · have c2:¬ (z.length:Int)≤6:=by omega
        simp [hl,c1,c2,nameB,e]
      · simp [hl,c1,nameB,e]
end Rp

namespace Rp
open PySem PySem.Spec L2 Rc
open PyProof.Rows hiding St signs

theorem ffx_ok {t:List MV→MV} (ht:t=.lst∨t=.tup) {zs:List Str} {k:Int} (hn:zs.Nodup) (hl:(zs.length:Int)≤k) (m:Mem):M_first_fault [t (zs.map MV.str),.lst (zs.map fun _=>.bl true),.int k] m=.ok .non m:=by
  rcases ht with rfl | rfl
  · exact ff_ok hn hl m
  · refine Is.of ?_
    unfold B_first_fault
    simp
    refine W.forG (fun i s mm=>∃ a b,s=[some (SV.v (.tup (zs.map MV.str))),some (SV.v (.lst (zs.map fun _=>.bl true))),some (SV.v (.int k)),a,b]∧mm=m) ⟨_,_,rfl,rfl⟩ (fun i y hy s mm hI=>?_) (fun s mm hI=>?_)
    · obtain ⟨a,b,rfl,rfl⟩:=hI
      obtain ⟨w,hw,rfl⟩:=enumM_get hy
      rw [List.getElem?_map] at hw
      cases hz:zs[i]? with
      | none=>rw [hz] at hw;cases hw
      | some z =>
        rw [hz] at hw;cases hw
        have hi:=(List.getElem?_eq_some_iff.mp hz).1
        have hk:¬ k≤(i:Int):=by omega
        have e2:(zs.map fun _=>MV.bl true)[i]? = some (.bl true):=by simp [hi]
        have hm:¬ z∈zs.take i:=by
          intro hmem
          obtain ⟨j,hj,e3⟩:=List.mem_iff_getElem.mp hmem
          rw [List.length_take] at hj
          rw [List.getElem_take] at e3
          have e4:zs[i]=z:=(List.getElem?_eq_some_iff.mp hz).2
          exact List.pairwise_iff_getElem.mp hn j i (by omega) hi (by omega) (by rw [e3,e4])
        have e5:=inB_strsT mm z (zs.take i)
        rw [List.map_take] at e5
        simp [hk,e2,e5,hm]
    · obtain ⟨a,b,rfl,rfl⟩:=hI
      simp
theorem Plain.str {z:Str} (h:Nm z):Plain (.str z):=.inr ⟨z,rfl,by have:=h.1.2;omega⟩
theorem check_wordsT_ok {ws:List Str} (hw:∀ w∈ws,Wd w) (hn:ws.Nodup) (hl:ws.length≤2) (m:Mem):M_check_words [.tup (ws.map .str)] m=.ok .non m:=by
  have hs:=sizeLine_eq
  refine Is.of ?_
  unfold B_check_words
  simp [is_list_t]
  refine W.map (fun y=>.bl true) (fun y hy=>?_) (by simp;omega) ?_
  · obtain ⟨z,hz,rfl⟩:=mem_str hy
    simp [is_word_ok (hw z hz)]
  · rw [List.nil_append,map_const]
    simp [ffx_ok (.inr rfl) hn (k:=2) (by omega)]
section
variable {c:Str} {cs:List Str} {v:MV}
end
end Rp

namespace Rp
open PySem PySem.Spec L2 Rc
open PyProof.Rows hiding St signs

section
variable (ws os:List Str) (ms:List Md) (ss:List Str) (m:Mem)
end
end Rp

namespace Rp
open PySem PySem.Spec L2 Rc
open PyProof.Rows hiding St signs

@[simp] theorem exs_lamV (p:PrimL) (i:Nat) (ls:MEs) (mid:Option (Nat × ME)) (d:ME) (b r:MSs) (s:Sl) (m:Mem):exs (.lamV p i ls mid d b r) s m=if i < s.length then midF (midM mid) (fun s m=>p.F ((evL ls).map fun f=>f s) (ev d) (exs b) (exs r) s m) (s.set i none) m else .stuck:=id rfl
@[simp] theorem midM_n:midM none=none:=id rfl
@[simp] theorem midM_s (j:Nat) (e:ME):midM (some (j,e))=some (j,ev e):=id rfl
@[simp] theorem midF_n (k:Sl→Mem→SR) (s:Sl) (m:Mem):midF none k s m=k s m:=id rfl
@[simp] theorem midF_s (j:Nat) (fe:Sl→Mem→R OV) (k:Sl→Mem→SR) (s:Sl) (m:Mem):midF (some (j,fe)) k s m=(fe s m).ts s fun x m=>(toV x m).ts s fun x m=>k (s.set j (some (.v x))) m:=id rfl
section
variable {ws os ss:List Str} {ms:List Md} {ns:List Int}
end
end Rp

namespace Rp
open PySem PySem.Spec L2 Rc
open PyProof.Rows hiding St signs

end Rp

set_option maxHeartbeats 4000000
namespace Rp
open PySem PySem.Spec L2 Rc
open PyProof.Rows hiding St signs

def Sq (v:MV) (xs:List MV):Prop:=v=.lst xs∨v=.tup xs
theorem is_list_sq {v:MV} {xs:List MV} (h:Sq v xs) (m:Mem):M_is_list [v] m=.ok (.bl true) m:=by
  rcases h with rfl | rfl
  · exact is_list_l xs m
  · exact is_list_t xs m
def rowB (k:Nat):MV→Bool
  | .tup xs=>decide (xs.length=k)
  | _=>false
def callB (ws:List Str):MV→Bool
  | .str z=>decide (z=("":Str)) || decide (z∈ws)
  | _=>false
def rowsB (k n:Nat):MV→Bool
  | .tup rs=>decide (rs.length=n)&&rs.all (rowB k)
  | _=>false
def modeB (ws os:List Str):MV→Bool
  | .tup [n,c,r]=>nameB n&&(callB ws c&&rowsB (ws.length + 2) os.length r)
  | _=>false
def knd:MV→Bool
  | .non=>true
  | .bl _=>true
  | .int _=>true
  | .str _=>true
  | .tup _=>true
  | .lst _=>true
  | _=>false
structure Form (v:MV):Prop where
  k:knd v=true
  h:∀ n c r,v=.tup [n,c,r]→Plain n∧knd c=true∧knd r=true∧∀ rs,r=.tup rs→rs.length≤1000∧∀ y∈rs,knd y=true
theorem is_mode_any {Wv O v:MV} {ws os:List Str} (hW:Sq Wv (ws.map .str)) (hO:Sq O (os.map .str)) (hf:Form v) (m:Mem):M_is_mode [v,Wv,O] m=.ok (.bl (modeB ws os v)) m:=by
  have hs:=sizeLine_eq
  obtain ⟨hk,hf⟩:=hf
  refine Is.of ?_
  unfold B_is_mode
  cases v with
  | tup xs =>
    match xs,hf with
    | [n,c,r],hf =>
      obtain ⟨h1,h2,h3,h4⟩:=hf n c r rfl
      have en:=is_name_any h1 m
      by_cases cn:nameB n=true
      · cases c with
        | str z =>
          have row:∀ (rs:List MV) (a1 a2 a3 a4 a5 a6:Option SV),(a1=some (.v Wv))→(∀ y∈rs,knd y=true)→∀ y∈rs,compTurnF [6] (.name 6) (evTs .nil) (ev (.andV (.pr (pIsi [.b "tuple"] [] true) (.cons (.slot 6) .nil)) (.cmp cEq (.pr pLen (.cons (.slot 6) .nil)) (.pr (pBin .add) (.cons (.pr pLen (.cons (.slot 1) .nil)) (.cons (.pr (pInt 2) .nil) .nil)))))) [some (.v (.tup [n,.str z,r])),a1,a2,a3,a4,a5,a6] y m=.ok (some (.bl (rowB (ws.length + 2) y))) m:=fun rs a1 a2 a3 a4 a5 a6 e1 hr y hy=>by
            subst e1
            have ky:=hr y hy
            cases y with
            | tup ys =>
              rcases hW with rfl | rfl
              · by_cases c:(ys.length:Int)=ws.length + 2
                · have c':ys.length=ws.length + 2:=by omega
                  simp [rowB,c,c']
                · have c':¬ ys.length=ws.length + 2:=by omega
                  simp [rowB,c,c']
              · by_cases c:(ys.length:Int)=ws.length + 2
                · have c':ys.length=ws.length + 2:=by omega
                  simp [rowB,c,c']
                · have c':¬ ys.length=ws.length + 2:=by omega
                  simp [rowB,c,c']
            | _=>first | (cases ky;done) | simp [rowB]
          have fin:∀ (rs:List MV) (s:Sl),r=.tup rs→(∃ a3 a4 a5 a6,s=[some (.v (.tup [n,.str z,r])),some (.v Wv),some (.v O),a3,a4,a5,a6]∧a5=some (.v r))→rs.length=os.length→W (exs (.cons (.ret (.pr pAll (.cons (.fr (.comp [6] (.name 6) (.pr iSeq (.cons (.slot 5) .nil)) .nil (.andV (.pr (pIsi [.b "tuple"] [] true) (.cons (.slot 6) .nil)) (.cmp cEq (.pr pLen (.cons (.slot 6) .nil)) (.pr (pBin .add) (.cons (.pr pLen (.cons (.slot 1) .nil)) (.cons (.pr (pInt 2) .nil) .nil))))))) .nil))) .nil) s m) (Is (.ok (.bl (rs.all (rowB (ws.length + 2)))) m)):=fun rs s er hS hl=>by
            obtain ⟨a3,a4,a5,a6,rfl,rfl⟩:=hS
            subst er
            obtain ⟨q1,q2⟩:=h4 rs rfl
            simp
            refine W.map (t:=⟨⟩) (fun y=>.bl (rowB (ws.length + 2) y)) (fun y hy=>row rs _ _ _ _ _ _ rfl q2 y hy) (by simp;omega) ?_
            simp [blsM_map,Function.comp_def]
          have cl:∀ m,inB m (.v (.str z)) (.v Wv)=some (decide (z∈ws)):=fun m=>by
            rcases hW with rfl | rfl
            · exact inB_strs m z ws
            · exact inB_strsT m z ws
          have lo:∀ m,lenO (.v O) m=.ok (.v (.int os.length)) m:=fun m=>by
            rcases hO with rfl | rfl <;> simp
          have e0:modeB ws os (.tup [n,.str z,r])=((decide (z=("":Str)) || decide (z∈ws))&&rowsB (ws.length + 2) os.length r):=by
            show (nameB n&&_)=_
            rw [cn];rfl
          have rest:∀ a3 a4 a6,W (exs (.cons (.ifs (.or (.not (.val (.pr (pIsi [.b "tuple"] [] true) (.cons (.slot 5) .nil)))) (.cmp cNe (.pr pLen (.cons (.slot 5) .nil)) (.pr pLen (.cons (.slot 2) .nil)))) (.cons (.ret (.pr (pBl false) .nil)) .nil) .nil) (.cons (.ret (.pr pAll (.cons (.fr (.comp [6] (.name 6) (.pr iSeq (.cons (.slot 5) .nil)) .nil (.andV (.pr (pIsi [.b "tuple"] [] true) (.cons (.slot 6) .nil)) (.cmp cEq (.pr pLen (.cons (.slot 6) .nil)) (.pr (pBin .add) (.cons (.pr pLen (.cons (.slot 1) .nil)) (.cons (.pr (pInt 2) .nil) .nil))))))) .nil))) .nil)) [some (.v (.tup [n,.str z,r])),some (.v Wv),some (.v O),a3,a4,some (.v r),a6] m) (Is (.ok (.bl (rowsB (ws.length + 2) os.length r)) m)):=fun a3 a4 a6=>by
            cases r with
            | tup rs =>
              by_cases c:(rs.length:Int)=os.length
              · have c':rs.length=os.length:=by omega
                have f:=fin rs [some (.v (.tup [n,.str z,.tup rs])),some (.v Wv),some (.v O),a3,a4,some (.v (.tup rs)),a6] rfl ⟨_,_,_,_,rfl,rfl⟩ c'
                simp at f
                simp [lo,c,c',rowsB]
                exact f
              · have c':¬ rs.length=os.length:=by omega
                simp [lo,c,c',rowsB]
            | _=>first | (cases h3;done) | simp [rowsB]
          rw [e0]
          by_cases z0:z=("":Str)
          · subst z0
            have r:=rest (some (.v n)) (some (.v (.str ""))) none
            simp at r
            simp [en,cn]
            exact r
          · by_cases zw:z∈ws
            · have r:=rest (some (.v n)) (some (.v (.str z))) none
              simp at r
              simp [en,cn,z0,cl,zw]
              exact r
            · simp [en,cn,z0,cl,zw]
        | _=>first | (cases h2;done) | simp [en,cn,modeB,callB]
      · simp [en,cn,modeB]
    | [],hf=>simp [modeB]
    | [a],hf=>simp [modeB]
    | [a,b],hf=>simp [modeB]
    | a :: b :: c :: d :: rest,hf =>
      have c3:¬ ((rest.length:Int) + 1 + 1 + 1 + 1=3):=by omega
      simp [modeB,c3]
  | _=>first | (cases hk;done) | simp [modeB]
def CM1:MSs:=(.cons (.ifs (.or (.cmp cGe (.slot 4) (.pr (pCon "Program" "MOST_MODES" 5) .nil)) (.or (.not (.val (.pr (pCall F_is_mode) (.cons (.slot 5) (.cons (.slot 1) (.cons (.slot 2) .nil)))))) (.cmp cIn (.pr pIx (.cons (.slot 5) (.cons (.pr (pInt 0) .nil) .nil))) (.slot 3)))) (.cons (.pr (sRaise "InvalidModes" "at" "at" "InvalidModes") (.cons (.slot 4) .nil)) .nil) .nil) (.cons (.pr (sApp 3) (.cons (.pr pIx (.cons (.slot 5) (.cons (.pr (pInt 0) .nil) .nil))) .nil)) .nil))
def CM2:MSs:=(.cons (.loop (.name 9) (.pr iSeq (.cons (.slot 8) .nil)) (.cons (.loop (.name 10) (.pr iSeq (.cons (.slot 9) .nil)) (.cons (.ifs (.cmp cNotin (.slot 10) (.slot 3)) (.cons (.pr (sRaise "UnknownMode" "given" "given" "UnknownMode") (.cons (.slot 10) .nil)) .nil) .nil) .nil)) .nil)) .nil)
def CM3:MSs:=(.cons (.loop (.name 10) (.pr iSeq (.cons (.slot 9) .nil)) (.cons (.ifs (.cmp cNotin (.slot 10) (.slot 3)) (.cons (.pr (sRaise "UnknownMode" "given" "given" "UnknownMode") (.cons (.slot 10) .nil)) .nil) .nil) .nil)) .nil)
def CM4:MSs:=(.cons (.ifs (.cmp cNotin (.slot 10) (.slot 3)) (.cons (.pr (sRaise "UnknownMode" "given" "given" "UnknownMode") (.cons (.slot 10) .nil)) .nil) .nil) .nil)
section
variable {V W0 O x:MV} {i:Nat} {pre:List Str} {a4 a5:Option SV} {m:Mem}
theorem cm_good {c r:MV} {n:Str} (hm:∀ m,M_is_mode [.tup [.str n,c,r],W0,O] m=.ok (.bl true) m) (hi:i < 5) (hn:n∉pre) (hp:pre.length=i) :
    turnS (.tup [4,5]) (exs CM1) (.tup [.int i,.tup [.str n,c,r]]) [some (.v V),some (.v W0),some (.v O),some (.own (.lst (pre.map .str))),a4,a5,none,none,none,none,none] m=.nx [some (.v V),some (.v W0),some (.v O),some (.own (.lst ((pre++[n]).map .str))),some (.v (.int i)),some (.v (.tup [.str n,c,r])),none,none,none,none,none] m:=by
  have hs:=sizeLine_eq
  have k:¬ (5:Int)≤i:=by omega
  have l:pre.length < sizeLine:=by omega
  unfold CM1
  simp [k,hm,hn,l]
end
def St3 (V W0 O:MV) (ns:List Str) (s:Sl):Prop:=∃ a4 a5 a6 a7 a8 a9 a10,s=[some (.v V),some (.v W0),some (.v O),some (.v (.lst (ns.map .str))),a4,a5,a6,a7,a8,a9,a10]
def GoodRow (ns:List Str) (y:MV):Prop:=∃ gs,y=.tup gs∧∀ g∈gs,∃ z∈ns,g=.str z
def LostRow (ns:List Str) (lost y:MV):Prop:=∃ (gs:List MV) (k:Nat),y=.tup gs∧gs[k]? = some lost∧∀ i g,i < k→gs[i]? = some g→∃ z∈ns,g=.str z
def GoodMode (ns:List Str) (x:MV):Prop:=∃ n c rs,x=.tup [n,c,.tup rs]∧∀ y∈rs,GoodRow ns y
def LostMode (ns:List Str) (lost x:MV):Prop:=∃ (n c:MV) (rs:List MV) (k:Nat) (y:MV),x=.tup [n,c,.tup rs]∧rs[k]? = some y∧LostRow ns lost y∧∀ i y,i < k→rs[i]? = some y→GoodRow ns y
theorem forS_ex {f:MV→Sl→Mem→SR} {I:Sl→Prop} {m:Mem} {c:Str} {ks:List Str} {ys:List MV}:∀ {xs:List MV} {s:Sl} {k:Nat} {x:MV},xs[k]? = some x→I s→(∀ i y,i < k→xs[i]? = some y→∀ s,I s→∃ s',f y s m=.nx s' m∧I s')→(∀ s,I s→∃ s',f x s m=.ex c ks ys s' m)→∃ s',forS f [] xs s m=.ex c ks ys s' m
  | [],s,k,x,hk,_,_,_=>by simp at hk
  | y :: xs,s,0,x,hk,h0,_,he=>by
    simp at hk
    subst hk
    obtain ⟨s',e⟩:=he s h0
    refine ⟨s',?_⟩
    rw [forS_consE,e]
  | y :: xs,s,k + 1,x,hk,h0,h,he=>by
    obtain ⟨s1,e,h1⟩:=h 0 y (by omega) rfl s h0
    rw [forS_consE,e]
    exact forS_ex (k:=k) (by simpa using hk) h1 (fun i y hi hy=>h (i + 1) y (by omega) (by simpa using hy)) he
theorem forS_nx {f:MV→Sl→Mem→SR} {I:Sl→Prop} {m:Mem}:∀ {xs:List MV} {s:Sl},I s→(∀ y∈xs,∀ s,I s→∃ s',f y s m=.nx s' m∧I s')→∃ s',forS f [] xs s m=.nx s' m∧I s'
  | [],s,h0,_=>⟨s,forS_nilE,h0⟩
  | y :: xs,s,h0,h=>by
    obtain ⟨s1,e,h1⟩:=h y List.mem_cons_self s h0
    rw [forS_consE,e]
    exact forS_nx h1 fun y hy=>h y (List.mem_cons_of_mem _ hy)
section
variable {V W0 O lost y:MV} {ns:List Str} {s:Sl} {m:Mem}
theorem g4 {z:Str} (hz:z∈ns) (hS:St3 V W0 O ns s):∃ s',turnS (.name 10) (exs CM4) (.str z) s m=.nx s' m∧St3 V W0 O ns s':=by
  obtain ⟨a4,a5,a6,a7,a8,a9,a10,rfl⟩:=hS
  refine ⟨[some (.v V),some (.v W0),some (.v O),some (.v (.lst (ns.map .str))),a4,a5,a6,a7,a8,a9,some (.v (.str z))],?_,_,_,_,_,_,_,_,rfl⟩
  unfold CM4
  simp [hz]
theorem l4 (hl:∀ m,inB m (.v lost) (.v (.lst (ns.map .str)))=some false) (hS:St3 V W0 O ns s):∃ s',turnS (.name 10) (exs CM4) lost s m=.ex "UnknownMode" ["given","code"] [lost,.str "UnknownMode"] s' m:=by
  obtain ⟨a4,a5,a6,a7,a8,a9,a10,rfl⟩:=hS
  refine ⟨[some (.v V),some (.v W0),some (.v O),some (.v (.lst (ns.map .str))),a4,a5,a6,a7,a8,a9,some (.v lost)],?_⟩
  unfold CM4
  simp [hl]
theorem g3 (hy:GoodRow ns y) (hS:St3 V W0 O ns s):∃ s',turnS (.name 9) (exs CM3) y s m=.nx s' m∧St3 V W0 O ns s':=by
  obtain ⟨gs,rfl,hg⟩:=hy
  obtain ⟨a4,a5,a6,a7,a8,a9,a10,rfl⟩:=hS
  obtain ⟨s',e,h⟩:=forS_nx (f:=turnS (.name 10) (exs CM4)) (I:=St3 V W0 O ns) (m:=m) (xs:=gs) (s:=[some (.v V),some (.v W0),some (.v O),some (.v (.lst (ns.map .str))),a4,a5,a6,a7,a8,some (.v (.tup gs)),a10]) ⟨_,_,_,_,_,_,_,rfl⟩ fun y hy s hS=>by
    obtain ⟨z,hz,rfl⟩:=hg y hy
    exact g4 hz hS
  refine ⟨s',?_,h⟩
  unfold CM3
  rw [← CM4.eq_1]
  simp [e]
theorem l3 (hl:∀ m,inB m (.v lost) (.v (.lst (ns.map .str)))=some false) (hy:LostRow ns lost y) (hS:St3 V W0 O ns s):∃ s',turnS (.name 9) (exs CM3) y s m=.ex "UnknownMode" ["given","code"] [lost,.str "UnknownMode"] s' m:=by
  obtain ⟨gs,k,rfl,hk,hg⟩:=hy
  obtain ⟨a4,a5,a6,a7,a8,a9,a10,rfl⟩:=hS
  obtain ⟨s',e⟩:=forS_ex (f:=turnS (.name 10) (exs CM4)) (I:=St3 V W0 O ns) (m:=m) (xs:=gs) (s:=[some (.v V),some (.v W0),some (.v O),some (.v (.lst (ns.map .str))),a4,a5,a6,a7,a8,some (.v (.tup gs)),a10]) hk ⟨_,_,_,_,_,_,_,rfl⟩ (fun i y hi hy s hS=>by
    obtain ⟨z,hz,rfl⟩:=hg i y hi hy
    exact g4 hz hS) fun s hS=>l4 hl hS
  refine ⟨s',?_⟩
  unfold CM3
  rw [← CM4.eq_1]
  simp [e]
theorem g2 {x:MV} (hy:GoodMode ns x) (hS:St3 V W0 O ns s):∃ s',turnS (.tup [6,7,8]) (exs CM2) x s m=.nx s' m∧St3 V W0 O ns s':=by
  obtain ⟨n,c,rs,rfl,hg⟩:=hy
  obtain ⟨a4,a5,a6,a7,a8,a9,a10,rfl⟩:=hS
  obtain ⟨s',e,h⟩:=forS_nx (f:=turnS (.name 9) (exs CM3)) (I:=St3 V W0 O ns) (m:=m) (xs:=rs) (s:=[some (.v V),some (.v W0),some (.v O),some (.v (.lst (ns.map .str))),a4,a5,some (.v n),some (.v c),some (.v (.tup rs)),a9,a10]) ⟨_,_,_,_,_,_,_,rfl⟩ fun y hy s hS=>g3 (hg y hy) hS
  refine ⟨s',?_,h⟩
  unfold CM2
  rw [← CM3.eq_1]
  simp [e]
theorem l2 {x:MV} (hl:∀ m,inB m (.v lost) (.v (.lst (ns.map .str)))=some false) (hy:LostMode ns lost x) (hS:St3 V W0 O ns s):∃ s',turnS (.tup [6,7,8]) (exs CM2) x s m=.ex "UnknownMode" ["given","code"] [lost,.str "UnknownMode"] s' m:=by
  obtain ⟨n,c,rs,k,y,rfl,hk,hy,hg⟩:=hy
  obtain ⟨a4,a5,a6,a7,a8,a9,a10,rfl⟩:=hS
  obtain ⟨s',e⟩:=forS_ex (f:=turnS (.name 9) (exs CM3)) (I:=St3 V W0 O ns) (m:=m) (xs:=rs) (s:=[some (.v V),some (.v W0),some (.v O),some (.v (.lst (ns.map .str))),a4,a5,some (.v n),some (.v c),some (.v (.tup rs)),a9,a10]) hk ⟨_,_,_,_,_,_,_,rfl⟩ (fun i y hi hy s hS=>g3 (hg i y hi hy) hS) fun s hS=>l3 hl hy hS
  refine ⟨s',?_⟩
  unfold CM2
  rw [← CM3.eq_1]
  simp [e]
end
section
variable {V W0 O x:MV} {X:List MV} {ns:List Str} {m:Mem}
def Firsts (W0 O:MV) (X:List MV) (ns:List Str):Prop:=∀ (i:Nat) (n:Str),ns[i]? = some n→∃ c r:MV,X[i]? = some (MV.tup [.str n,c,r])∧∀ m,M_is_mode [.tup [.str n,c,r],W0,O] m=.ok (.bl true) m
theorem cm_turns (hg:Firsts W0 O X ns) (hn:ns.Nodup) (h5:ns.length≤5) {i:Nat} {y:MV} (hi:i < ns.length) (hy:(enumM X)[i]? = some y) {a4 a5:Option SV} :
    ∃ a4' a5',turnS (.tup [4,5]) (exs CM1) y [some (.v V),some (.v W0),some (.v O),some (.own (.lst ((ns.take i).map .str))),a4,a5,none,none,none,none,none] m=.nx [some (.v V),some (.v W0),some (.v O),some (.own (.lst ((ns.take (i + 1)).map .str))),a4',a5',none,none,none,none,none] m:=by
  obtain ⟨w,hw,rfl⟩:=enumM_get hy
  obtain ⟨c,r,h1,h2⟩:=hg i ns[i] (List.getElem?_eq_getElem hi)
  rw [h1] at hw
  cases hw
  have hm:ns[i]∉ns.take i:=by
    intro hmem
    obtain ⟨j,hj,e3⟩:=List.mem_iff_getElem.mp hmem
    rw [List.length_take] at hj
    rw [List.getElem_take] at e3
    exact List.pairwise_iff_getElem.mp hn j i (by omega) hi (by omega) e3
  have e:=cm_good (V:=V) (W0:=W0) (O:=O) (a4:=a4) (a5:=a5) (m:=m) h2 (show i < 5 by omega) hm (by rw [List.length_take];omega)
  rw [← List.take_succ_eq_append_getElem hi] at e
  exact ⟨_,_,e⟩
theorem cm_all (hl:X.length=ns.length) (hg:Firsts W0 O X ns) (hn:ns.Nodup) (h5:ns.length≤5) {Q:SR→Prop} {k:Sl→Mem→SR} (hk:∀ a4 a5,W (k [some (.v V),some (.v W0),some (.v O),some (.own (.lst (ns.map .str))),a4,a5,none,none,none,none,none] m) Q) :
    W ((forS (turnS (.tup [4,5]) (exs CM1)) [] (enumM X) [some (.v V),some (.v W0),some (.v O),some (.own (.lst [])),none,none,none,none,none,none,none] m).sq k) Q:=by
  refine W.forG (t:=⟨⟩) (fun i s mm=>∃ a4 a5,s=[some (.v V),some (.v W0),some (.v O),some (.own (.lst ((ns.take i).map .str))),a4,a5,none,none,none,none,none]∧mm=m) ⟨none,none,by simp,rfl⟩ (fun i y hy s mm hI=>?_) (fun s mm hI=>?_)
  · obtain ⟨a4,a5,rfl,rfl⟩:=hI
    have c:i < ns.length:=by
      have:=(List.getElem?_eq_some_iff.mp hy).1
      rw [enumM_len] at this
      omega
    obtain ⟨a4',a5',e⟩:=cm_turns (V:=V) (m:=mm) hg hn h5 c hy (a4:=a4) (a5:=a5)
    rw [e,W_tn_nx]
    exact ⟨_,_,rfl,rfl⟩
  · obtain ⟨a4,a5,rfl,rfl⟩:=hI
    rw [enumM_len,hl,List.take_length]
    exact hk a4 a5
theorem check_modes_sq (hV:Sq V X) (hl:X.length=ns.length) (h0:1≤ns.length) (hg:Firsts W0 O X ns) (hn:ns.Nodup) (h5:ns.length≤5) (h1:∀ y∈X,GoodMode ns y) (m:Mem):M_check_modes [V,W0,O] m=.ok .non m:=by
  have hs:=sizeLine_eq
  have s0:0≤sizeLine:=by omega
  have hz:¬ X=[]:=by rintro rfl;simp at hl;omega
  have e:=is_list_sq hV m
  have fin:∀ V a4 a5,∃ s',forS (turnS (.tup [6,7,8]) (exs CM2)) [] X [some (.v V),some (.v W0),some (.v O),some (.v (.lst (ns.map .str))),a4,a5,none,none,none,none,none] m=.nx s' m∧St3 V W0 O ns s':=fun V a4 a5 =>
    forS_nx (I:=St3 V W0 O ns) ⟨_,_,_,_,_,_,_,rfl⟩ fun y hy s hS=>g2 (h1 y hy) hS
  refine Is.of ?_
  unfold B_check_modes
  rw [← CM1.eq_1,← CM2.eq_1]
  rcases hV with rfl | rfl
  · simp [e,hz,s0]
    refine cm_all hl hg hn h5 fun a4 a5=>?_
    obtain ⟨s',e,_⟩:=fin (.lst X) a4 a5
    simp [e]
  · simp [e,hz,s0]
    refine cm_all hl hg hn h5 fun a4 a5=>?_
    obtain ⟨s',e,_⟩:=fin (.tup X) a4 a5
    simp [e]
end
end Rp

namespace Rp
open PySem PySem.Spec L2 Rc
open PyProof.Rows hiding St signs

theorem check_words_sq {v:MV} {ws:List Str} (hv:Sq v (ws.map .str)) (hw:∀ w∈ws,Wd w) (hn:ws.Nodup) (hl:ws.length≤2) (m:Mem):M_check_words [v] m=.ok .non m:=by
  rcases hv with rfl | rfl
  · exact check_words_ok hw hn hl m
  · exact check_wordsT_ok hw hn hl m
theorem check_orders_sq {v:MV} {os:List Str} (hv:Sq v (os.map .str)) (hw:∀ w∈os,Nm w) (hn:os.Nodup) (h1:1≤os.length) (hl:os.length≤3) (m:Mem):M_check_orders [v] m=.ok .non m:=by
  have hs:=sizeLine_eq
  have h0:¬ os=[]:=by rintro rfl;simp at h1
  rcases hv with rfl | rfl
  · exact check_orders_ok hw hn h1 hl m
  · refine Is.of ?_
    unfold B_check_orders
    simp [is_list_t,h0]
    refine W.map (fun y=>.bl true) (fun y hy=>?_) (by simp;omega) ?_
    · obtain ⟨z,hz,rfl⟩:=mem_str hy
      simp [is_name_ok (hw z hz)]
    · rw [List.nil_append,map_const]
      simp [ffx_ok (.inr rfl) hn (k:=3) (by omega)]
theorem inB_sq {v:MV} {zs:List Str} (hv:Sq v (zs.map .str)) (z:Str) (m:Mem):inB m (.v (.str z)) (.v v)=some (decide (z∈zs)):=by
  rcases hv with rfl | rfl
  · exact inB_strs m z zs
  · exact inB_strsT m z zs
theorem check_starts_sq {v:MV} {ss names:List Str} (hv:Sq v (ss.map .str)) (h:∀ s∈ss,s∈names) (hn:ss.Nodup) (h1:1≤ss.length) (hl:ss.length≤names.length) (hb:names.length≤1000) (m:Mem):M_check_starts [v,.lst (names.map .str)] m=.ok .non m:=by
  have hs:=sizeLine_eq
  have h0:¬ ss=[]:=by rintro rfl;simp at h1
  rcases hv with rfl | rfl
  · exact check_starts_ok h hn h1 hl hb m
  · refine Is.of ?_
    unfold B_check_starts
    simp [is_list_t,h0]
    refine W.map (fun y=>.bl true) (fun y hy=>?_) (by simp;omega) ?_
    · obtain ⟨z,hz,rfl⟩:=mem_str hy
      simp [h z hz]
    · rw [List.nil_append,map_const]
      simp [ffx_ok (.inr rfl) hn (k:=(names.length:Int) + 1) (by omega)]
section
variable {Wv Ov Vv Sv:MV} {ws os ss:List Str} {ms:List Md}
theorem form_mode {d:Md} (h:MdOk ws os (nmsOf ms) d) (ho:os.length≤3):Form (modeV d):=by
  refine ⟨rfl,fun n c r e=>?_⟩
  cases e
  refine ⟨Plain.str h.1,rfl,rfl,fun rs e=>?_⟩
  cases e
  refine ⟨by rw [List.length_map,h.2.2.1];omega,fun y hy=>?_⟩
  obtain ⟨r,_,rfl⟩:=List.mem_map.mp hy
  rfl
theorem modeB_mode {d:Md} {names:List Str} (h:MdOk ws os names d):modeB ws os (modeV d)=true:=by
  obtain ⟨h1,h2,h3,h4⟩:=h
  show (nameB (.str d.1)&&(callB ws (.str d.2.1)&&rowsB (ws.length + 2) os.length (.tup (d.2.2.map rowV))))=true
  have e1:nameB (.str d.1)=true:=nmB_iff.mpr h1
  have e2:callB ws (.str d.2.1)=true:=by
    show (decide (d.2.1=("":Str)) || decide (d.2.1∈ws))=true
    rcases h2 with h2 | h2 <;> simp [h2]
  have e3:rowsB (ws.length + 2) os.length (.tup (d.2.2.map rowV))=true:=by
    show (decide ((d.2.2.map rowV).length=os.length)&&(d.2.2.map rowV).all (rowB (ws.length + 2)))=true
    rw [Bool.and_eq_true,List.all_eq_true]
    refine ⟨by simp [h3],fun y hy=>?_⟩
    obtain ⟨r,hr,rfl⟩:=List.mem_map.mp hy
    show decide ((r.map MV.str).length=_)=true
    simp [(h4 r hr).1]
  rw [e1,e2,e3];rfl
theorem firsts_ok (P:POk ws os ms ss) (hW:Sq Wv (ws.map .str)) (hO:Sq Ov (os.map .str)) (xs:List MV):Firsts Wv Ov (ms.map modeV++xs) (nmsOf ms):=fun i n hi=>by
  have hl:i < ms.length:=by
    have:=(List.getElem?_eq_some_iff.mp hi).1
    rw [nms_len] at this
    exact this
  have e:ms[i]? = some ms[i]:=List.getElem?_eq_getElem hl
  have en:(nmsOf ms)[i]? = some ms[i].1:=by simp [nmsOf,e]
  rw [en] at hi
  cases hi
  have hd:=P.mN ms[i] (List.getElem_mem hl)
  refine ⟨.str ms[i].2.1,.tup (ms[i].2.2.map rowV),?_,fun m=>?_⟩
  · rw [List.getElem?_append_left (by simpa using hl),List.getElem?_map,e]
    rfl
  · have:=is_mode_any hW hO (form_mode hd P.oL) m
    rw [modeB_mode hd] at this
    exact this
theorem good_ok (P:POk ws os ms ss):∀ y∈ms.map modeV,GoodMode (nmsOf ms) y:=fun y hy=>by
  obtain ⟨d,hd,rfl⟩:=List.mem_map.mp hy
  refine ⟨.str d.1,.str d.2.1,d.2.2.map rowV,rfl,fun y hy=>?_⟩
  obtain ⟨r,hr,rfl⟩:=List.mem_map.mp hy
  refine ⟨r.map .str,rfl,fun g hg=>?_⟩
  obtain ⟨z,hz,rfl⟩:=List.mem_map.mp hg
  exact ⟨z,((P.mN d hd).2.2.2 r hr).2 z hz,rfl⟩
theorem check_modes_pok (P:POk ws os ms ss) (hW:Sq Wv (ws.map .str)) (hO:Sq Ov (os.map .str)) (hV:Sq Vv (ms.map modeV)) (m:Mem):M_check_modes [Vv,Wv,Ov] m=.ok .non m:=by
  have mL:=P.mL
  have m1:=P.m1
  have hg:=firsts_ok P hW hO []
  rw [List.append_nil] at hg
  exact check_modes_sq hV (by simp [nms_len]) (by rw [nms_len];exact m1) hg P.mD (by rw [nms_len];exact mL) (good_ok P) m
theorem starts_compS {names ss:List Str} {m:Mem} (hS:Sq Sv (ss.map .str)) (hl:names.length≤1000) {a0 a1 a2 a3 a5 a6 a7 a8:Option SV}:compM (compTurnF [7] (.name 7) (evTs (.one (.cmp cIn (.slot 7) (.slot 4)))) (ev (.slot 7)) [a0,a1,a2,a3,some (SV.v Sv),a5,a6,a7,a8]) [] (names.map .str) [] m=.ok ((names.filter fun z=>decide (z∈ss)).map .str) m:=by
  have hs:=sizeLine_eq
  have:=compM_filter (f:=compTurnF [7] (.name 7) (evTs (.one (.cmp cIn (.slot 7) (.slot 4)))) (ev (.slot 7)) [a0,a1,a2,a3,some (SV.v Sv),a5,a6,a7,a8]) (h:=fun x=>match x with
    | .str z=>if z∈ss then some (.str z) else none
    | _=>none) (m:=m) (xs:=names.map .str) (acc:=[]) (fun y hy=>by
    obtain ⟨z,hz,rfl⟩:=mem_str hy
    have e:=inB_sq hS z m
    by_cases hm:z∈ss
    · simp [e,hm]
    · simp [e,hm]) (by simp;omega)
  rw [this]
  congr 1
  rw [List.nil_append]
  clear this hl
  induction names with
  | nil=>rfl
  | cons z zs ih =>
    by_cases hm:z∈ss
    · simp [hm,ih]
    · simp [hm,ih]
theorem initS_ok (h:POk ws os ms ss) (hW:Sq Wv (ws.map .str)) (hO:Sq Ov (os.map .str)) (hV:Sq Vv (ms.map modeV)) (hS:Sq Sv (ss.map .str)) (m:Mem) :
    M_Program___init__ [.ref m.length,Wv,Ov,Vv,Sv] (m++[some (.ins "Program" [] [])])=.ok .non (m++[some (.ins "Program" pKeys [strsV ws,strsV os,.lst (ms.map modeV),strsV ((nmsOf ms).filter fun z=>decide (z∈ss)),strsV (nmsOf ms),.dic ((nmsOf ms).map .str) (idxV ms.length)])]):=by
  have hs:=sizeLine_eq
  have hL:=h.mL
  have hnl:=nms_len ms
  have c1:=check_words_sq hW h.wN h.wD h.wL
  have c2:=check_orders_sq hO h.oN h.oD h.o1 h.oL
  have c3:=check_modes_pok h hW hO hV
  have c4:=check_starts_sq hS h.sN h.sD h.s1 (by rw [hnl];exact h.sL) (by rw [hnl];omega)
  have c5:=fun (m:Mem) (a0 a1 a2 a3 a5 a6 a7 a8:Option SV)=>starts_compS (Sv:=Sv) (names:=nmsOf ms) (m:=m) hS (show (nmsOf ms).length≤1000 by omega) (a0:=a0) (a1:=a1) (a2:=a2) (a3:=a3) (a5:=a5) (a6:=a6) (a7:=a7) (a8:=a8)
  unfold M_Program___init__;rw [runD_eq];unfold B_Program___init__ strsV
  simp only [List.map_cons,List.map_nil,List.length_cons,List.length_nil,Nat.reduceAdd,Nat.reduceSub,List.replicate,List.cons_append,List.nil_append]
  rcases hW with rfl | rfl <;> rcases hO with rfl | rfl <;> rcases hV with rfl | rfl <;>
    (simp [c1,c2,c3,names_comp (show ms.length≤1000 by omega),c4,c5,places_comp h.mD (show (nmsOf ms).length≤1000 by omega),fldS_end rfl (show ("Program":Str)∈[("Program":Str)] from List.mem_singleton.mpr rfl),fPutK_nil,fPutK_cons,fPutV_nil,fPutV_cons,pk_0_1,pk_0_2,pk_0_3,pk_0_4,pk_0_5,pk_1_0,pk_1_2,pk_1_3,pk_1_4,pk_1_5,pk_2_0,pk_2_1,pk_2_3,pk_2_4,pk_2_5,pk_3_0,pk_3_1,pk_3_2,pk_3_4,pk_3_5,pk_4_0,pk_4_1,pk_4_2,pk_4_3,pk_4_5,pk_5_0,pk_5_1,pk_5_2,pk_5_3,pk_5_4]
     exact ⟨rfl,by rw [hnl]⟩)
theorem mkS_ok (h:POk ws os ms ss) (hW:Sq Wv (ws.map .str)) (hO:Sq Ov (os.map .str)) (hV:Sq Vv (ms.map modeV)) (hS:Sq Sv (ss.map .str)) (m:Mem) :
    mkF "Program" M_Program___init__ [.v Wv,.v Ov,.v Vv,.v Sv] m=.ok (.v (progV ws os ms (stOf ms ss))) m:=by
  have hi:=initS_ok h hW hO hV hS m
  unfold mkF
  have hv:vals [.v Wv,.v Ov,.v Vv,.v Sv]=some [Wv,Ov,Vv,Sv]:=rfl
  rw [hv]
  dsimp only
  rw [hi]
  unfold mkR
  dsimp only
  rw [List.getElem?_append_right (Nat.le_refl _),Nat.sub_self]
  dsimp only [List.getElem?_cons_zero]
  rw [if_pos]
  · rfl
  · refine ⟨rfl,rfl,?_⟩
    simp only [strsV,noRefs,noRef,noRefs_str,noRefs_modes,noRefs_idx,Bool.and_self]
end
end Rp

namespace Rp
open PySem PySem.Spec L2 Rc
open PyProof.Rows hiding St signs
abbrev At (m:Mem) (n:Nat) (xs:List MV):Prop:=m[n]? = some (some (.lst xs))
section
variable {m:Mem} {n:Nat} {xs:List MV}
theorem At.mem (h:At m n xs):memL m n=some xs:=by unfold memL;rw [h]
theorem At.okw (h:At m n xs):OkW [(n,.lst xs)] m:=fun q hq=>by
  rw [List.mem_singleton.mp hq]
  exact h
theorem At.seq (h:At m n xs):seqI (.v (.ref n)) m=.ok ⟨xs,[(n,.lst xs)]⟩ m:=by
  unfold seqI srcO
  dsimp only
  rw [h.mem]
  rfl
theorem At.len (h:At m n xs):lenO (.v (.ref n)) m=.ok (.v (.int xs.length)) m:=by
  unfold lenO dicO contO
  dsimp only
  rw [h,h.mem]
  rfl
theorem At.list (h:At m n xs):toListF (.v (.ref n)) m=.ok (.lst xs) m:=by
  unfold toListF contO
  dsimp only
  rw [h.mem]
  rfl
theorem At.sl (h:At m n xs) (i:Int):slA false (.v (.ref n)) (.v (.int i)) m=slA false (.v (.lst xs)) (.v (.int i)) m:=by
  have hc:contO m (.v (.ref n))=contO m (.v (.lst xs)):=by unfold contO;dsimp only;rw [h.mem];rfl
  unfold slA slF
  rw [hc]
theorem compM_w {f:MV→Mem→R (Option MV)} {wt:List (Nat × MO)} {h:MV→MV} (hw:OkW wt m):∀ {xs acc:List MV},(∀ x∈xs,f x m=.ok (some (h x)) m)→acc.length + xs.length≤sizeLine→compM f wt xs acc m=.ok (acc++xs.map h) m
  | [],acc,_,_=>by unfold compM;rw [if_pos hw];simp
  | x :: xs,acc,hf,hl=>by
    rw [List.length_cons] at hl
    rw [compM_cons,if_pos hw,hf x List.mem_cons_self]
    show (if acc.length < sizeLine then compM f wt xs (acc++[h x]) m else .stuck)=_
    rw [if_pos (by omega),compM_w hw (fun y hy=>hf y (List.mem_cons_of_mem _ hy)) (by simp;omega)]
    simp
theorem _root_.Rc.W.mapW {f:MV→Mem→R (Option MV)} {wt:List (Nat × MO)} {xs acc:List MV} {m:Mem} {s:Sl} {k:List MV→Mem→SR} {t:Tg k} {Q:SR→Prop} (hw:OkW wt m) (h:MV→MV) (hf:∀ x∈xs,f x m=.ok (some (h x)) m) (hl:acc.length + xs.length≤sizeLine) (h2:W (k (acc++xs.map h) m) Q):W ((compM f wt xs acc m).ts s k t) Q:=by
  rw [compM_w hw hf hl];exact h2
theorem At.app (h:At m n xs) (r:Mem):At (m++r) n xs:=by
  have hn:=(List.getElem?_eq_some_iff.mp h).1
  show (m++r)[n]? = _
  rw [List.getElem?_append_left hn]
  exact h
end
end Rp

set_option maxHeartbeats 2000000
namespace Rc
open PySem PySem.Spec L2
open PyProof.Rows hiding St
theorem comp_all {f:MV→Mem→R (Option MV)} {m:Mem}:∀ {xs ys acc:List MV},Paired (fun x y=>f x m=.ok (some y) m) xs ys→acc.length + xs.length≤sizeLine→compM f [] xs acc m=.ok (acc++ys) m
  | [],_,acc,.nil,_=>by unfold compM;rw [if_pos (OkW_nil m)];simp
  | x :: xs,y :: ys,acc,.cons h t,hl=>by
    rw [List.length_cons] at hl
    rw [compM_cons,if_pos (OkW_nil m),h]
    show (if acc.length < sizeLine then compM f [] xs (acc++[y]) m else .stuck)=_
    rw [if_pos (by omega),comp_all t (by simp;omega)]
    simp
theorem W.all {f:MV→Mem→R (Option MV)} {xs acc:List MV} {m:Mem} {s:Sl} {k:List MV→Mem→SR} {t:Tg k} {Q:SR→Prop} (ys:List MV) (hf:Paired (fun x y=>f x m=.ok (some y) m) xs ys) (hl:acc.length + xs.length≤sizeLine) (h2:W (k (acc++ys) m) Q):W ((compM f [] xs acc m).ts s k t) Q:=by
  rw [comp_all hf hl];exact h2
end Rc

set_option maxHeartbeats 4000000
namespace K77
open PySem PySem.Spec L2 Rc Rp
open PyProof.Rows hiding St signs
theorem str_ext {x y:Str} (h:x.cps.toList=y.cps.toList):x=y:=by
  cases x;cases y
  congr 1
  exact Array.toList_inj.mp h
theorem cd_app (x y:Str):(x++y).cps.toList=x.cps.toList++y.cps.toList:=by
  show (x.cps++y.cps).toList=_
  simp
theorem take_rev {α:Type} (p:α→Bool) (l:List α):l.take (l.length - (l.reverse.takeWhile p).length)=(l.reverse.dropWhile p).reverse:=by
  have e:l.reverse=l.reverse.takeWhile p++l.reverse.dropWhile p:=(List.takeWhile_append_dropWhile ..).symm
  have e2:l=(l.reverse.dropWhile p).reverse++(l.reverse.takeWhile p).reverse:=by
    rw [← List.reverse_append,← e,List.reverse_reverse]
  have n:l.length - (l.reverse.takeWhile p).length=(l.reverse.dropWhile p).reverse.length:=by
    have:=congrArg List.length e
    rw [List.length_append,List.length_reverse] at this
    rw [List.length_reverse]
    omega
  rw [n]
  have e3:l.take (l.reverse.dropWhile p).reverse.length=((l.reverse.dropWhile p).reverse++(l.reverse.takeWhile p).reverse).take (l.reverse.dropWhile p).reverse.length:=congrArg (List.take (l.reverse.dropWhile p).reverse.length) e2
  rw [e3,List.take_left]
theorem rs_list (x y:Str):(Txt.rstripChars x y).cps.toList=(x.cps.toList.reverse.dropWhile y.cps.contains).reverse:=by
  unfold Txt.rstripChars
  rw [PyProof.Rows.stripBy_eq]
  show (x.cps.extract 0 (x.length - ((x.cps.toList.drop 0).reverse.takeWhile y.cps.contains).length)).toList=_
  rw [List.drop_zero]
  have:x.length=x.cps.toList.length:=by simp [Str.length]
  rw [this,← take_rev]
  simp
theorem rs_sp (x:Str):Txt.rstripChars (x++" ") " " = Txt.rstripChars x " ":=by
  apply str_ext
  rw [rs_list,rs_list,cd_app]
  have:((" ":Str)).cps.toList=[32]:=by decide +kernel
  rw [this,List.reverse_append]
  simp only [List.reverse_cons,List.reverse_nil,List.nil_append,List.cons_append]
  rw [List.dropWhile_cons,if_pos (by decide +kernel)]
theorem rs_end (x:Str):Txt.rstripChars (x++"starts") " " = x++"starts":=by
  apply str_ext
  rw [rs_list,cd_app]
  have:(("starts":Str)).cps.toList=[115,116,97,114,116,115]:=by decide +kernel
  rw [this,List.reverse_append]
  simp only [List.reverse_cons,List.reverse_nil,List.nil_append,List.cons_append]
  rw [List.dropWhile_cons,if_neg (by decide +kernel)]
  simp
theorem app_assoc (x y z:Str):x++y++z=x++(y++z):=str_ext (by rw [cd_app,cd_app,cd_app,cd_app,List.append_assoc])
theorem emp_app (x:Str):Str.empty++x=x:=str_ext (by rw [cd_app];rfl)
theorem app_emp (x:Str):x++("":Str)=x:=str_ext (by rw [cd_app,show (("":Str)).cps.toList=[] from by decide +kernel,List.append_nil])
theorem pad6_eq (x:Str):pad6 x=x++Rc.spS (6 - x.length):=by
  apply str_ext
  rw [cd_app]
  unfold pad6 Rc.spS
  by_cases h:6≤x.length
  · rw [if_pos h,show 6 - x.length=0 from by omega]
    simp
  · rw [if_neg h]
    unfold Builtin.Str.padded
    simp
theorem padded_ok (x:Str) (hx:x.length≤1000) (m:Mem):M_law_padded [.str x,.int 6] m=.ok (.str (pad6 x)) m:=by
  have hs:=sizeLine_eq
  have hl:=pad6_len x
  rw [pad6_eq] at hl ⊢
  refine Is.of ?_
  unfold B_law_padded
  have l0:x.length≤sizeLine:=by omega
  by_cases h:x.length < 6
  · have e:((6:Int) - x.length).toNat=6 - x.length:=by omega
    have h1:(x.length:Int) < 6:=by omega
    have h2:(0:Int)≤6 - x.length:=by omega
    have h3:(6:Int) - x.length≤1000:=by omega
    have h4:(x.length:Int)≤6:=by omega
    have l1:x.length + (Rc.spS (6 - x.length)).length≤sizeLine:=by rw [← Str.length_append];omega
    simp [l0,mulS,h1,h2,h3,h4,e,l1]
  · have e:6 - x.length=0:=by omega
    have h1:¬ (x.length:Int) < 6:=by omega
    rw [e] at hl ⊢
    have l1:x.length + (Rc.spS 0).length≤sizeLine:=by rw [← Str.length_append];omega
    simp [l0,mulS,h1,l1]
theorem zip_rl {m:Mem} {n:Nat} {xs ys:List MV} (h:At m n xs):zipI (.v (.ref n)) (.v (.lst ys)) m=.ok ⟨zipM xs ys,[(n,.lst xs)]⟩ m:=by
  unfold zipI srcO
  dsimp only
  rw [h.mem]
  rfl
theorem isi_l {m:Mem} {n:Nat} {xs:List MV} (h:At m n xs):isiF [.b "list"] [] (.v (.ref n)) m=.ok (.v (.bl true)) m:=by
  unfold isiF tyO insO dicO
  dsimp only
  rw [h,h.mem]
  rfl
theorem isi_t {m:Mem} {n:Nat} {xs:List MV} (h:At m n xs):isiF [.b "tuple"] [] (.v (.ref n)) m=.ok (.v (.bl false)) m:=by
  unfold isiF tyO insO dicO
  dsimp only
  rw [h,h.mem]
  rfl
theorem same_ref {n k:Nat} {m:Mem} {xs:List MV} (h:At m k xs) (hl:xs.length≤1000) (hp:∀ x∈xs,Rp.pl n x=true):M_law_same (n + 1) [.ref k,.lst xs] m=.ok (.bl true) m:=by
  have hs:=sizeLine_eq
  show runD 4 (B_law_same ⟨"_law_same",["_law_found","_law_due"],M_law_same n⟩) [.ref k,.lst xs] m=_
  refine Is.of ?_
  unfold B_law_same
  have nr:isN (.v (.ref k))=false:=rfl
  simp [isi_l h,isi_t h,h.len,zip_rl h,nr]
  refine Rc.W.mapW (t:=⟨⟩) h.okw (fun _=>.bl true) (fun y hy=>?_) (by simp [zipM_len];omega) ?_
  · obtain ⟨z,hz,rfl⟩:=zipM_self hy
    simp [same_refl n z m (hp z hz)]
  · simp [blsM_rep]
end K77

namespace K77
open PySem PySem.Spec L2 Rc Rp
open PyProof.Rows hiding St signs
def dash (z:Str):Str:=if z=("":Str) then "-" else z
def colM (ss:List Str) (d:Md):MV:=.str (Txt.rstripChars (colT d.1 (dash d.2.1) (if d.1∈ss then "starts" else "")) " ")
theorem colT_len {a b c:Str} (ha:a.length≤100) (hb:b.length≤100) (hc:c.length≤100):(colT a b c).length≤1000:=by
  have:=pad6_len a
  have:=pad6_len b
  have k:((" ":Str)).length=1:=by decide +kernel
  unfold colT
  rw [Str.length_append,Str.length_append,Str.length_append,Str.length_append,Str.length_append,k]
  show 0 + _ + _ + _ + _ + _≤1000
  omega
theorem dash_len {z:Str} (h:z.length≤100):(dash z).length≤100:=by
  unfold dash
  split
  · decide +kernel
  · exact h
section
variable {ws os ss:List Str} {ms:List Md}
theorem columns_ok (hl:ms.length≤5) (hd:∀ d∈ms,d.1.length≤100∧d.2.1.length≤100) (m:Mem):M_columns [progV ws os ms ss] m=.new (.lst (ms.map (colM ss))) m:=by
  have hs:=sizeLine_eq
  have:∃ o m',M_columns [progV ws os ms ss] m=.new o m'∧o=.lst (ms.map (colM ss))∧m'=m:=by
    have m3:=meth_modes ws os ms ss
    have r3:=Pmodes ws os ms ss
    have m4:=meth_starts (ws:=ws) (os:=os) (ms:=ms) (ss:=ss)
    have r4:=Pstarts (ws:=ws) (os:=os) (ms:=ms) (ss:=ss)
    refine RetN.of ?_
    unfold B_columns
    generalize progV ws os ms ss=PV at *
    simp [m3,r3]
    refine W.forI (t:=⟨⟩) (fun i s mm=>∃ a2 a3 a4 a5,s=[some (.v PV),some (.own (.lst ((ms.take i).map (colM ss)))),a2,a3,a4,a5]∧mm=m) ⟨none,none,none,none,by simp⟩ (fun i x hx s mm hI=>?_) (fun s mm hI=>?_)
    · obtain ⟨a2,a3,a4,a5,rfl,rfl⟩:=hI
      rw [List.getElem?_map] at hx
      cases hz:ms[i]? with
      | none=>rw [hz] at hx;cases hx
      | some d =>
        rw [hz] at hx;cases hx
        have hi:=(List.getElem?_eq_some_iff.mp hz).1
        have ez:=(List.getElem?_eq_some_iff.mp hz).2
        obtain ⟨h1,h2⟩:=hd d (List.mem_of_getElem? hz)
        have et:(ms.take (i + 1)).map (colM ss)=(ms.take i).map (colM ss)++[colM ss d]:=by rw [List.take_succ_eq_append_getElem hi,ez];simp
        have em:modeV d=.tup [.str d.1,.str d.2.1,.tup (d.2.2.map rowV)]:=rfl
        have q:min i ms.length < sizeLine:=by omega
        have z1:d.1.length≤1000:=by omega
        have z2:d.2.1.length≤1000:=by omega
        have k1:(("starts":Str)).length≤1000:=by decide +kernel
        have k2:(("":Str)).length≤1000:=by decide +kernel
        have k3:(("-":Str)).length≤1000:=by decide +kernel
        have l1:∀ c:Str,c.length≤100→(colT d.1 (dash d.2.1) c).length≤sizeLine:=fun c hc=>by
          have:=colT_len h1 (dash_len h2) hc
          omega
        have l2:=l1 "starts" (by decide +kernel)
        have l3:=l1 "" (by decide +kernel)
        rw [em,et]
        unfold colM
        by_cases c1:d.1∈ss <;> by_cases c2:d.2.1=("":Str)
        · have e:dash d.2.1="-":=by unfold dash;rw [if_pos c2]
          rw [e] at l2 ⊢
          simp [m4,r4,strsV,c1,c2,z1,k1,k2,k3,l2,q]
        · have e:dash d.2.1=d.2.1:=by unfold dash;rw [if_neg c2]
          rw [e] at l2 ⊢
          simp [m4,r4,strsV,c1,c2,z1,z2,k1,k2,k3,l2,q]
        · have e:dash d.2.1="-":=by unfold dash;rw [if_pos c2]
          rw [e] at l3 ⊢
          simp [m4,r4,strsV,c1,c2,z1,k1,k2,k3,l3,q]
        · have e:dash d.2.1=d.2.1:=by unfold dash;rw [if_neg c2]
          rw [e] at l3 ⊢
          simp [m4,r4,strsV,c1,c2,z1,z2,k1,k2,k3,l3,q]
    · obtain ⟨a2,a3,a4,a5,rfl,rfl⟩:=hI
      simp
  obtain ⟨o,m',e,rfl,rfl⟩:=this
  exact e
end
def front (d:Md):Str:=pad6 d.1++" "++pad6 (dash d.2.1)
def dueM (ss:List Str) (d:Md):MV:=.str (if d.1∈ss then front d++" starts" else Txt.rstripChars (front d) " ")
theorem due_eq {ms:List Md} {ss:List Str} {d:Md} (hd:d∈ms):dueM ss d=colM (stOf ms ss) d:=by
  have hm:d.1∈nmsOf ms:=List.mem_map.mpr ⟨d,hd,rfl⟩
  have e:d.1∈stOf ms ss↔d.1∈ss:=by
    unfold stOf
    simp [hm]
  unfold dueM colM
  have e0:∀ c:Str,colT d.1 (dash d.2.1) c=front d++" "++c:=fun c=>by
    unfold colT front
    rw [emp_app]
  rw [e0]
  by_cases c:d.1∈ss
  · rw [if_pos c,if_pos (e.mpr c),rs_end,app_assoc]
    have:((" ":Str))++("starts":Str)=" starts":=by decide +kernel
    rw [this]
  · rw [if_neg c,if_neg (fun z=>c (e.mp z)),app_emp,rs_sp]
theorem pl_lines {n:Nat} (ss:List Str) (ms:List Md):∀ x∈ms.map (colM ss),Rp.pl (n + 1) x=true:=fun x hx=>by
  obtain ⟨d,_,rfl⟩:=List.mem_map.mp hx
  rfl
theorem same2 {k:Nat} {m:Mem} {xs:List MV} (h:At m k xs) (hl:xs.length≤1000) (hp:∀ x∈xs,Rp.pl 4 x=true) (hq:∀ x∈xs,Rp.pl 4 x=true):M_law_same 6 [.lst [.ref k,.lst xs],.lst [.lst xs,.lst xs]] m=.ok (.bl true) m:=by
  have hs:=sizeLine_eq
  have e1:=same_ref (n:=4) h hl hp
  have e2:=same_refl 5 (.lst xs) m (pl_lst (by omega) hq)
  have s2:2≤sizeLine:=by omega
  show runD 4 (B_law_same ⟨"_law_same",["_law_found","_law_due"],M_law_same 5⟩) [.lst [.ref k,.lst xs],.lst [.lst xs,.lst xs]] m=_
  refine Is.of ?_
  unfold B_law_same
  simp
  refine W.map (t:=⟨⟩) (fun _=>.bl true) (fun y hy=>?_) (by have z:(zipM [MV.ref k,.lst xs] [.lst xs,.lst xs]).length=2:=rfl;simp [z];omega) ?_
  · have hy:y∈[MV.tup [.ref k,.lst xs],.tup [.lst xs,.lst xs]]:=hy
    simp only [List.mem_cons,List.not_mem_nil,or_false] at hy
    rcases hy with rfl | rfl
    · simp [e1]
    · simp [e2]
  · simp [blsM_rep]
end K77

namespace K77
open PySem PySem.Spec L2 Rc Rp
open PyProof.Rows hiding St signs
@[simp] theorem F_mkC (c:Str) (F:Fn) (m:Mem):(pMkC c F).F (.v (.cls c)) m=some (mkF c F.M):=by
  show mkCF c F (.v (.cls c)) m=_
  simp [mkCF]
def nmOf:MV→Option MV
  | .tup (n :: _)=>some n
  | _=>none
section
variable {Wv Ov Sv:MV} {ws os ss:List Str} {ms:List Md} {X:List MV}
theorem of_val {Nv x:MV} (hx:∀ y∈X,knd y=true) (hl:X.length≤1000) (hN:isN (.v Sv)=false∧Nv=Sv∨Sv=.non∧Nv=.lst (X.filterMap nmOf)) {m:Mem}
    (h:mkF "Program" M_Program___init__ [.v Wv,.v Ov,.v (.tup X),.v Nv] m=.ok (.v x) m):M_Program_of [.cls "Program",Wv,Ov,Sv,.tup X] m=.ok x m:=by
  have hs:=sizeLine_eq
  refine Is.of ?_
  unfold B_Program_of
  simp
  refine W.filt (t:=⟨⟩) nmOf (fun y hy=>?_) (by simp;omega) ?_
  · have hk:=hx y hy
    cases y with
    | tup xs =>
      cases xs with
      | nil=>simp [nmOf]
      | cons n r =>
        have:(0:Int) < (r.length:Int) + 1:=by omega
        simp [nmOf,this]
    | _=>first | (cases hk;done) | simp [nmOf]
  · rcases hN with ⟨h1,rfl⟩ | ⟨rfl,rfl⟩
    · simp [h1,h]
    · simp [h]
theorem isN_sq {ys:List MV} (h:Sq Sv ys):isN (.v Sv)=false:=by rcases h with rfl | rfl <;> rfl
theorem knd_modes (y:MV) (hy:y∈ms.map modeV):knd y=true:=by
  obtain ⟨d,_,rfl⟩:=List.mem_map.mp hy
  rfl
theorem of_ok (P:POk ws os ms ss) (hW:Sq Wv (ws.map .str)) (hO:Sq Ov (os.map .str)) (hS:Sq Sv (ss.map .str)) (m:Mem):M_Program_of [.cls "Program",Wv,Ov,Sv,.tup (ms.map modeV)] m=.ok (progV ws os ms (stOf ms ss)) m :=
  of_val knd_modes (by rw [List.length_map];have:=P.mL;omega) (.inl ⟨isN_sq hS,rfl⟩) (mkS_ok P hW hO (.inr rfl) hS m)
end
theorem nm_go:Nm "go":=nmB_iff.mp (by decide +kernel)
@[simp] theorem of_s2 (a b s:MV) (m:Mem):(pOf "Program" "of" F_Program_of 2 ["starts"] ["words","orders"] [.tup [],.tup [.str "go"]]).F [.v a,.v b,.v s] m=retR (M_Program_of [.cls "Program",.tup [],.tup [.str "go"],s,.tup [a,b]] m):=id (by kernel_rfl)
def loneM:List Md:=[("abcdef","",[["abcdef","abcdef"]]),("b","",[["b","b"]])]
theorem loneP:POk [] ["go"] loneM ["b"] where
  wN:=fun w h=>by cases h
  wD:=by simp
  wL:=by simp
  oN:=fun o h=>by rw [List.mem_singleton.mp h];exact nm_go
  oD:=by simp
  o1:=by simp
  oL:=by simp
  mN:=fun d hd=>by
    simp only [loneM,List.mem_cons,List.not_mem_nil,or_false] at hd
    rcases hd with rfl | rfl
    · refine ⟨nmB_iff.mp (by decide +kernel),.inl rfl,rfl,fun r hr=>?_⟩
      rw [List.mem_singleton.mp hr]
      exact ⟨rfl,fun g hg=>by simp only [List.mem_cons,List.not_mem_nil,or_false,or_self] at hg;rw [hg];simp [nmsOf,loneM]⟩
    · refine ⟨nmB_iff.mp (by decide +kernel),.inl rfl,rfl,fun r hr=>?_⟩
      rw [List.mem_singleton.mp hr]
      exact ⟨rfl,fun g hg=>by simp only [List.mem_cons,List.not_mem_nil,or_false,or_self] at hg;rw [hg];simp [nmsOf,loneM]⟩
  mD:=by unfold nmsOf loneM;decide +kernel
  m1:=by simp [loneM]
  mL:=by simp [loneM]
  sN:=fun s hs=>by rw [List.mem_singleton.mp hs];simp [nmsOf,loneM]
  sD:=by simp
  s1:=by simp
  sL:=by simp [loneM]
theorem lone_st:stOf loneM ["b"]=(["b"]:List Str):=by simp [stOf,nmsOf,loneM,ofString_inj]
theorem lone_of (m:Mem):M_Program_of [.cls "Program",.tup [],.tup [.str "go"],.lst [.str "b"],.tup [.tup [.str "abcdef",.str "",.tup [.tup [.str "abcdef",.str "abcdef"]]],.tup [.str "b",.str "",.tup [.tup [.str "b",.str "b"]]]]] m=.ok (progV [] ["go"] loneM ["b"]) m:=by
  have:=of_ok (Wv:=.tup []) (Ov:=.tup [.str "go"]) (Sv:=.lst [.str "b"]) loneP (.inr rfl) (.inr rfl) (.inl rfl) m
  rw [lone_st] at this
  exact this
theorem c1:Txt.rstripChars (colT "abcdef" (dash "") (if ("abcdef":Str)∈[("b":Str)] then "starts" else "")) " " = "abcdef -":=by decide +kernel
theorem c2:Txt.rstripChars (colT "b" (dash "") (if ("b":Str)∈[("b":Str)] then "starts" else "")) " " = "b      -      starts":=by decide +kernel
theorem lone_col (m:Mem):M_columns [progV [] ["go"] loneM ["b"]] m=.new (.lst [.str "abcdef -",.str "b      -      starts"]) m:=by
  have:=columns_ok (ws:=[]) (os:=["go"]) (ms:=loneM) (ss:=["b"]) (by simp [loneM]) (fun d hd=>by
    simp only [loneM,List.mem_cons,List.not_mem_nil,or_false] at hd
    rcases hd with rfl | rfl <;> decide +kernel) m
  rw [this]
  show FR.new (.lst [colM ["b"] ("abcdef","",[["abcdef","abcdef"]]),colM ["b"] ("b","",[["b","b"]])]) m=_
  unfold colM
  rw [c1,c2]
end K77

namespace K77
open PySem PySem.Spec L2 Rc Rp
open PyProof.Rows hiding St signs
def TL77:MSs:=(.frz 5 (.cons (.set 6 (.pr (pCall F_law_make) (.cons (.slot 4) .nil))) (.cons (.set 7 (.pr (pCallN F_columns) (.cons (.slot 6) .nil))) (.cons (.ifs (.not (.val (.pr (pCall (F_law_same 6)) (.cons (.fr (.pr fLst (.cons (.slot 7) (.cons (.pr (pCallK F_columns ["program"]) (.cons (.slot 6) .nil)) .nil)))) (.cons (.fr (.pr fLst (.cons (.slot 5) (.cons (.slot 5) .nil)))) .nil))))) (.cons (.ret (.pr (pBl false) .nil)) .nil) .nil) (.cons (.pr sClear (.cons (.slot 7) .nil)) (.cons (.ifs (.not (.val (.pr (pCall (F_law_same 6)) (.cons (.pr (pCallN F_columns) (.cons (.slot 6) .nil)) (.cons (.slot 5) .nil))))) (.cons (.ret (.pr (pBl false) .nil)) .nil) .nil) .nil))))))
def Iv (X:MV) (s:Sl) (m:Mem):Prop:=∃ a2 a3 a4 a5 a6 a7 a8 a9 a10 a11,s=[some (.v X),some (.v (.ref 0)),a2,a3,a4,a5,a6,a7,a8,a9,a10,a11]∧∃ b r,m=bg b r
@[simp] theorem F_clear (x:OV) (s:Sl) (m:Mem):sClear.F [x] s m=clearF [x] s m:=id rfl
theorem names_len {ws os ss:List Str} {ms:List Md} (P:POk ws os ms ss):∀ d∈ms,d.1.length≤100∧d.2.1.length≤100:=fun d hd=>by
  obtain ⟨h1,h2,_⟩:=P.mN d hd
  have k1:=h1.1.2
  refine ⟨by omega,?_⟩
  rcases h2 with h2 | h2
  · rw [h2];decide +kernel
  · have:=(P.wN _ h2).1.1.2
    omega
theorem tt_ok {X:MV} {ws os ss:List Str} {ms:List Md} {b:Bag} {r:Mem} {a2 a3 a6 a7 a8 a9 a10 a11:Option SV} (P:POk ws os ms ss) :
    W (exs TL77 [some (.v X),some (.v (.ref 0)),a2,a3,some (.v (.lst (specL ws os ms ss))),some (.own (.lst (ms.map (dueM ss)))),a6,a7,a8,a9,a10,a11] (bg b r)) (Nx (Iv X)):=by
  have hs:=sizeLine_eq
  have s2:2≤sizeLine:=by omega
  have mL:=P.mL
  have mk:∀ m,M_law_make [.lst (specL ws os ms ss)] m=.ok (progV ws os ms (stOf ms ss)) m:=make_ok P
  have co:=columns_ok (ws:=ws) (os:=os) (ss:=stOf ms ss) (by omega) (names_len P)
  have ed:ms.map (dueM ss)=ms.map (colM (stOf ms ss)):=List.map_congr_left fun d hd=>due_eq hd
  have p1:=pl_lines (n:=3) (stOf ms ss) ms
  have p5:=pl_lines (n:=4) (stOf ms ss) ms
  have ll:(ms.map (colM (stOf ms ss))).length≤1000:=by rw [List.length_map];omega
  rw [ed]
  generalize ms.map (colM (stOf ms ss))=L at *
  generalize progV ws os ms (stOf ms ss)=PV at *
  have sp:spreadV MV.non ["program"] ["program"] [PV]=[PV]:=by kernel_rfl
  have h1:At (some (MO.lst b.cont) :: (r++[some (MO.lst L)])) (r.length + 1) L:=by simp [At]
  have e2:=same2 h1 ll p1 p1
  have cl:∀ s:Sl,clearF [.v (.ref (r.length + 1))] s (some (MO.lst b.cont) :: (r++[some (MO.lst L)]))=.nx s (some (MO.lst b.cont) :: (r++[some (MO.lst [])])):=fun s=>by
    unfold clearF
    dsimp only
    rw [h1.mem]
    dsimp only
    simp
  have h2:At (some (MO.lst b.cont) :: (r++[some (MO.lst []),some (MO.lst L)])) (r.length + 1 + 1) L:=by simp [At]
  have e3:=same_ref (n:=5) h2 ll p5
  have pr:∀ (s:Sl) (m:Mem),sClear.pre s m=true:=fun _ _=>rfl
  have ps:∀ x:SR,preS true x=x:=fun x=>rfl
  unfold TL77
  simp [mk,co,s2,sp,e2,cl,pr,ps,e3]
  exact ⟨_,_,_,_,_,_,_,_,_,_,rfl,b,r++[some (MO.lst []),some (MO.lst L)],rfl⟩
theorem law_true:∀ ns:List Int,ns.length≤63→∃ m',M_law [.kl (ns.map .int)] []=.ok (.bl true) m':=by
  intro ns hl
  have hs:=sizeLine_eq
  have s0:0≤sizeLine:=by omega
  have s1:1≤sizeLine:=by omega
  have s2:2≤sizeLine:=by omega
  have s3:3≤sizeLine:=by omega
  obtain ⟨b,eb⟩:=open_ex ns []
  refine Tru.of ?_
  unfold B_law
  rw [← TL77.eq_1]
  simp [eb]
  refine W.for (t:=⟨⟩) (Iv (.kl (ns.map .int))) ⟨_,_,_,_,_,_,_,_,_,_,rfl,b,[],rfl⟩ (fun x hx s m hI=>?_) (fun s m hI=>?_)
  · obtain ⟨a2,a3,a4,a5,a6,a7,a8,a9,a10,a11,rfl,b,r,rfl⟩:=hI
    obtain ⟨ws,os,ms,ss,b1,e1,ok⟩:=draw_spec_ok b 2 1 5 (by omega) (by omega) (by omega) r
    have e1':M_law_draw_spec [.ref 0,.int 2,.int 1,.int 5] (bg b r)=.new (.lst (specL ws os ms ss)) (bg b1 r):=e1
    have P:=ok.ok
    have mL:=P.mL
    simp [e1']
    refine W.forI (t:=⟨⟩) (fun i s mm=>∃ a2 a6 a7 a8 a9 a10 a11,s=[some (.v (.kl (ns.map .int))),some (.v (.ref 0)),a2,a3,some (.v (.lst (specL ws os ms ss))),some (.own (.lst ((ms.take i).map (dueM ss)))),a6,a7,a8,a9,a10,a11]∧mm=bg b1 r) ⟨some (.v x),a6,a7,a8,a9,a10,a11,by simp,rfl⟩ (fun i x hx s mm hI=>?_) (fun s mm hI=>?_)
    · obtain ⟨a2,a6,a7,a8,a9,a10,a11,rfl,rfl⟩:=hI
      rw [List.getElem?_map] at hx
      cases hz:ms[i]? with
      | none=>rw [hz] at hx;cases hx
      | some d =>
        rw [hz] at hx;cases hx
        have hi:=(List.getElem?_eq_some_iff.mp hz).1
        have ez:=(List.getElem?_eq_some_iff.mp hz).2
        obtain ⟨h1,h2⟩:=names_len P d (List.mem_of_getElem? hz)
        have et:(ms.take (i + 1)).map (dueM ss)=(ms.take i).map (dueM ss)++[dueM ss d]:=by rw [List.take_succ_eq_append_getElem hi,ez];simp
        have em:modeV d=.tup [.str d.1,.str d.2.1,.tup (d.2.2.map rowV)]:=rfl
        have q:min i ms.length < sizeLine:=by omega
        have p1:=fun m=>padded_ok d.1 (by omega) m
        have p2:=fun m=>padded_ok (dash d.2.1) (by have:=dash_len h2;omega) m
        have sw:∀ zs:List Str,strsV zs=.lst (zs.map .str):=fun _=>rfl
        have k:((" ":Str)).length=1:=by decide +kernel
        have k7:((" starts":Str)).length=7:=by decide +kernel
        have w1:=pad6_len d.1
        have w2:=pad6_len (dash d.2.1)
        have w3:=dash_len h2
        have g1:(pad6 d.1).length + ((" ":Str)).length≤sizeLine:=by rw [k];omega
        have g2:(pad6 d.1++" ").length + (pad6 (dash d.2.1)).length≤sizeLine:=by rw [Str.length_append,k];omega
        have g4:(pad6 d.1++" "++pad6 (dash d.2.1)).length≤sizeLine:=by rw [Str.length_append,Str.length_append,k];omega
        have g3:(pad6 d.1++" "++pad6 (dash d.2.1)).length + ((" starts":Str)).length≤sizeLine:=by rw [Str.length_append,Str.length_append,k,k7];omega
        rw [em,et]
        unfold dueM front
        by_cases c1:d.1∈ss <;> by_cases c2:d.2.1=("":Str)
        · have e:dash d.2.1="-":=by unfold dash;rw [if_pos c2]
          rw [e] at p2 g2 g3 g4 ⊢
          simp [sw,c1,c2,p1,p2,g1,g2,g3,q]
        · have e:dash d.2.1=d.2.1:=by unfold dash;rw [if_neg c2]
          rw [e] at p2 g2 g3 g4 ⊢
          simp [sw,c1,c2,p1,p2,g1,g2,g3,q]
        · have e:dash d.2.1="-":=by unfold dash;rw [if_pos c2]
          rw [e] at p2 g2 g3 g4 ⊢
          simp [sw,c1,c2,p1,p2,g1,g2,g4,q]
        · have e:dash d.2.1=d.2.1:=by unfold dash;rw [if_neg c2]
          rw [e] at p2 g2 g3 g4 ⊢
          simp [sw,c1,c2,p1,p2,g1,g2,g4,q]
    · obtain ⟨a2,a6,a7,a8,a9,a10,a11,rfl,rfl⟩:=hI
      simp
      exact tt_ok P
  · obtain ⟨a2,a3,a4,a5,a6,a7,a8,a9,a10,a11,rfl,b,r,rfl⟩:=hI
    have h1:At (some (MO.lst b.cont) :: (r++[some (MO.lst [.str "abcdef -",.str "b      -      starts"])])) (r.length + 1) [.str "abcdef -",.str "b      -      starts"]:=by simp [At]
    have e3:=same_ref (n:=5) h1 (by simp) (fun x hx=>by
      simp only [List.mem_cons,List.not_mem_nil,or_false] at hx
      rcases hx with rfl | rfl <;> rfl)
    simp [lone_of,lone_col,s1,s2,s3,e3]
end K77

set_option maxHeartbeats 1000000
namespace Rc
open PySem PySem.Spec L2
open PyProof.Rows hiding St
theorem sck {N P:List Str} {sc:Scope} (a:sc.kind=.function:=by kernel_rfl) (b:sc.isCoroutine=false:=by kernel_rfl) (c:sc.isGenerator=false:=by kernel_rfl) (d:N.Nodup:=by decide +kernel) (e:N.take P.length=P:=by kernel_rfl)
    (f:∀ x∈P,sc.names.lookup x=some .local∨sc.names.lookup x=some .cell:=by decide +kernel) (g:∀ y∈sc.names,y.2≠.free:=by decide +kernel):FnScope N P sc:=⟨a,b,c,d,e,f,g⟩
section
variable {P:Program} {w:World} {K:PySem.W.Frag} {mg:Str→Option Value} {base:Heap} {k j:Nat} {f:Addr} {fd:FuncData} {F:Fn}
theorem aG (g:mg F.name=some (.ref f)) (a:FnAt P w K mg base j f fd F) (h:j≤k:=by decide):nFn F P w K mg base k:=⟨f,fd,g,a.mono h⟩
theorem aC {p:Need→Prop} {n:Need} {l:List Need} (h:p n) (t:All p l):All p (n :: l):=All.cons h t
variable {x qual:Str} {params:Arguments} {body:List Stmt} {scope:Scope} {dvs:List V} {kwd:List (Str × V)} {N blts:List Str} {cst:List (Str × MV)} {lam:Bool}
theorem FnAt.q (base:Heap) (k:Nat) (F:Fn) (FD:FunD K x qual params body scope dvs kwd f fd) (S:FnScope N F.ps scope) (mo:ModOk ⟨K,P,w⟩ mg blts cst) {B:MSs} {L:List Need} (e:B.needs=L) (nd:All (fun n:Need=>n P w K mg base k) L) (hB:mSs B ⟨N,scope,blts,cst,true,true,false⟩ body=true)
    (bi:Binds K fd F.ps []) (hM:∀ as m,as.length=F.ps.length→F.M as m≠.stuck→runD N.length B as m=F.M as m:=by exact fun _ _ _ _=>rfl):FnAt P w K mg base (k + 1) f fd F:=FnAt.of F FD S mo (by rw [e];exact nd) hB hM bi
end
abbrev MTq (blts:List Str) (cst:List (Str × MV)) (B:MSs) (N:List Str) (d:Stmt):Prop:=mSs B ⟨N,defScope d,blts,cst,true,true,false⟩ (defBody d)=true
end Rc

set_option maxHeartbeats 0
namespace K77
open PySem PySem.Spec L2 Rc Rp
open PyProof.Rows hiding St
def blts:List Str:=["abs","all","bool","enumerate","int","isinstance","len","list","max","range","str","tuple","zip"]
def cst:List (Str × MV):=[("LETTERS",(.str "abcdefghijklmnopqrstuvwxyz"))]
theorem mt_law_open:MTq blts cst B_law_open N_law_open (top 24):=by kernel_rfl
theorem nb_law_open:B_law_open.needs=[]:=by kernel_rfl
theorem sc_law_open:FnScope N_law_open ["_law_script"] (defScope (top 24)):=sck
theorem mt_law_draw:MTq blts cst B_law_draw N_law_draw (top 25):=by kernel_rfl
theorem nb_law_draw:B_law_draw.needs=[]:=by kernel_rfl
theorem sc_law_draw:FnScope N_law_draw ["_law_bag","_law_sides"] (defScope (top 25)):=sck
theorem mt_law_of:MTq blts cst B_law_of N_law_of (top 26):=by kernel_rfl
theorem nb_law_of:B_law_of.needs=[nFn F_law_draw]:=by kernel_rfl
theorem sc_law_of:FnScope N_law_of ["_law_bag","_law_things"] (defScope (top 26)):=sck
theorem mt_law_new_names:MTq blts cst B_law_new_names N_law_new_names (top 28):=by kernel_rfl
theorem nb_law_new_names:B_law_new_names.needs=[nFn F_law_of,nFn F_law_of,nFn F_law_draw,nFn F_law_draw]:=by kernel_rfl
theorem sc_law_new_names:FnScope N_law_new_names ["_law_bag","_law_count"] (defScope (top 28)):=sck
theorem mt_law_words:MTq blts cst B_law_words N_law_words (top 29):=by kernel_rfl
theorem nb_law_words:B_law_words.needs=[nFn F_law_new_names]:=by kernel_rfl
theorem sc_law_words:FnScope N_law_words ["_law_bag","_law_count"] (defScope (top 29)):=sck
theorem mt_law_draw_spec:MTq blts cst B_law_draw_spec N_law_draw_spec (top 30):=by kernel_rfl
theorem nb_law_draw_spec:B_law_draw_spec.needs=[nFn F_law_words,nFn F_law_draw,nFn F_law_new_names,nFn F_law_draw,nFn F_law_new_names,nFn F_law_draw,nFn F_law_of,nFn F_law_of,nFn F_law_draw,nFn F_law_of]:=by kernel_rfl
theorem sc_law_draw_spec:FnScope N_law_draw_spec ["_law_bag","_law_top_words","_law_top_orders","_law_top_modes"] (defScope (top 30)):=sck
theorem mt_law_padded:MTq blts cst B_law_padded N_law_padded (top 32):=by kernel_rfl
theorem nb_law_padded:B_law_padded.needs=[]:=by kernel_rfl
theorem sc_law_padded:FnScope N_law_padded ["_law_text_z","_law_size"] (defScope (top 32)):=sck
theorem mt_is_list:MTq blts cst B_is_list N_is_list (top 12):=by kernel_rfl
theorem nb_is_list:B_is_list.needs=[]:=by kernel_rfl
theorem sc_is_list:FnScope N_is_list ["value"] (defScope (top 12)):=sck
theorem mt_first_fault:MTq blts cst B_first_fault N_first_fault (top 14):=by kernel_rfl
theorem nb_first_fault:B_first_fault.needs=[]:=by kernel_rfl
theorem sc_first_fault:FnScope N_first_fault ["values","fitting","most"] (defScope (top 14)):=sck
theorem mt_is_name:MTq blts cst B_is_name N_is_name (top 10):=by kernel_rfl
theorem nb_is_name:B_is_name.needs=[]:=by kernel_rfl
theorem sc_is_name:FnScope N_is_name ["value"] (defScope (top 10)):=sck
theorem mt_is_word:MTq blts cst B_is_word N_is_word (top 11):=by kernel_rfl
theorem nb_is_word:B_is_word.needs=[nFn F_is_name]:=by kernel_rfl
theorem sc_is_word:FnScope N_is_word ["value"] (defScope (top 11)):=sck
theorem mt_check_words:MTq blts cst B_check_words N_check_words (top 15):=by kernel_rfl
theorem nb_check_words:B_check_words.needs=[nFn F_is_list,nFn F_first_fault,nFn F_is_word,nCon "Program" "MOST_WORDS" 2,nErr "InvalidWords" "at" "at" "InvalidWords"]:=by kernel_rfl
theorem sc_check_words:FnScope N_check_words ["words"] (defScope (top 15)):=sck
theorem mt_check_orders:MTq blts cst B_check_orders N_check_orders (top 16):=by kernel_rfl
theorem nb_check_orders:B_check_orders.needs=[nFn F_is_list,nErr "InvalidOrders" "at" "at" "InvalidOrders",nFn F_first_fault,nFn F_is_name,nCon "Program" "MOST_ORDERS" 3,nErr "InvalidOrders" "at" "at" "InvalidOrders"]:=by kernel_rfl
theorem sc_check_orders:FnScope N_check_orders ["orders"] (defScope (top 16)):=sck
theorem mt_is_mode:MTq blts cst B_is_mode N_is_mode (top 17):=by kernel_rfl
theorem nb_is_mode:B_is_mode.needs=[nFn F_is_name]:=by kernel_rfl
theorem sc_is_mode:FnScope N_is_mode ["value","words","orders"] (defScope (top 17)):=sck
theorem mt_check_modes:MTq blts cst B_check_modes N_check_modes (top 18):=by kernel_rfl
theorem nb_check_modes:B_check_modes.needs=[nFn F_is_list,nErr "InvalidModes" "at" "at" "InvalidModes",nCon "Program" "MOST_MODES" 5,nFn F_is_mode,nErr "InvalidModes" "at" "at" "InvalidModes",nErr "UnknownMode" "given" "given" "UnknownMode"]:=by kernel_rfl
theorem sc_check_modes:FnScope N_check_modes ["modes","words","orders"] (defScope (top 18)):=sck
theorem mt_check_starts:MTq blts cst B_check_starts N_check_starts (top 19):=by kernel_rfl
theorem nb_check_starts:B_check_starts.needs=[nFn F_is_list,nErr "InvalidStarts" "at" "at" "InvalidStarts",nFn F_first_fault,nErr "InvalidStarts" "at" "at" "InvalidStarts"]:=by kernel_rfl
theorem sc_check_starts:FnScope N_check_starts ["starts","names"] (defScope (top 19)):=sck
theorem mt_Program___init__:MTq blts cst B_Program___init__ N_Program___init__ (inClass (top 20) 3):=by kernel_rfl
theorem nb_Program___init__:B_Program___init__.needs=[nFn F_check_words,nFn F_check_orders,nFn F_check_modes,nFn F_check_starts,nIns "Program",nNo "Program" "own_words",nIns "Program",nNo "Program" "own_orders",nIns "Program",nNo "Program" "own_modes",nIns "Program",nNo "Program" "own_starts",nIns "Program",nNo "Program" "own_names",nIns "Program",nNo "Program" "places"]:=by kernel_rfl
theorem sc_Program___init__:FnScope N_Program___init__ ["self","words","orders","modes","starts"] (defScope (inClass (top 20) 3)):=sck
theorem mt_law_make:MTq blts cst B_law_make N_law_make (top 31):=by kernel_rfl
theorem nb_law_make:B_law_make.needs=[nMk "Program" F_Program___init__]:=by kernel_rfl
theorem sc_law_make:FnScope N_law_make ["_law_spec"] (defScope (top 31)):=sck
theorem mt_Program_modes:MTq blts cst B_Program_modes N_Program_modes (inClass (top 20) 8):=by kernel_rfl
theorem nb_Program_modes:B_Program_modes.needs=[nIns "Program",nNo "Program" "own_modes"]:=by kernel_rfl
theorem sc_Program_modes:FnScope N_Program_modes ["self"] (defScope (inClass (top 20) 8)):=sck
theorem mt_Program_starts:MTq blts cst B_Program_starts N_Program_starts (inClass (top 20) 9):=by kernel_rfl
theorem nb_Program_starts:B_Program_starts.needs=[nIns "Program",nNo "Program" "own_starts"]:=by kernel_rfl
theorem sc_Program_starts:FnScope N_Program_starts ["self"] (defScope (inClass (top 20) 9)):=sck
theorem mt_columns:MTq blts cst B_columns N_columns (top 22):=by kernel_rfl
theorem nb_columns:B_columns.needs=[nMeth "Program" "modes" F_Program_modes,nMeth "Program" "starts" F_Program_starts,nThree]:=by kernel_rfl
theorem sc_columns:FnScope N_columns ["program"] (defScope (top 22)):=sck
theorem mt_law_same (M:Mir):mSs (B_law_same ⟨"_law_same",["_law_found","_law_due"],M⟩) ⟨N_law_same,defScope (top 27),blts,cst,true,true,false⟩ (defBody (top 27))=true:=by
  kernel_rfl
theorem nb_law_same (F:Fn):(B_law_same F).needs=[nFn F]:=by kernel_rfl
theorem sc_law_same:FnScope N_law_same ["_law_found","_law_due"] (defScope (top 27)):=sck
theorem mt_Program_of:MTq blts cst B_Program_of N_Program_of (inClass (top 20) 4):=by kernel_rfl
theorem nb_Program_of:B_Program_of.needs=[nMk "Program" F_Program___init__]:=by kernel_rfl
theorem sc_Program_of:FnScope N_Program_of ["cls","words","orders","starts","modes"] (defScope (inClass (top 20) 4)):=sck
theorem mt_law:MTq blts cst B_law N_law (top 33):=by kernel_rfl
theorem nb_law:B_law.needs=[nFn F_law_open,nFn F_law_draw_spec,nFn F_law_padded,nFn F_law_padded,nFn F_law_make,nFn F_columns,nFn (F_law_same 6),nFnK F_columns ["program"],nFn (F_law_same 6),nFn F_columns,nCm "Program" "of" F_Program_of 2 ["starts"] ["words","orders"] [.tup [],.tup [(.str "go")]],nFn (F_law_same 6),nFn F_columns]:=by kernel_rfl
theorem sc_law:FnScope N_law ["_law_script"] (defScope (top 33)):=sck
theorem eb_InvalidWords:er_InvalidWords.body=errBody "InvalidWords" "at" "at" (errPos er_InvalidWords.body).1 (errPos er_InvalidWords.body).2:=by kernel_rfl
theorem es_InvalidWords:NdefX.NScope ["self","at","__class__"] ["self","at"] ["__class__"] er_InvalidWords.scope:=NdefX.nscope_by (by kernel_rfl)
theorem eu_InvalidWords:er_InvalidWords.scope.names.lookup ("super":Str)=some .globalImplicit:=by kernel_rfl
theorem eh_InvalidWords:(er_InvalidWords.params.posonlyargs++er_InvalidWords.params.args).head?.map (·.arg)=some ("self":Str):=by kernel_rfl
theorem eb_InvalidOrders:er_InvalidOrders.body=errBody "InvalidOrders" "at" "at" (errPos er_InvalidOrders.body).1 (errPos er_InvalidOrders.body).2:=by kernel_rfl
theorem es_InvalidOrders:NdefX.NScope ["self","at","__class__"] ["self","at"] ["__class__"] er_InvalidOrders.scope:=NdefX.nscope_by (by kernel_rfl)
theorem eu_InvalidOrders:er_InvalidOrders.scope.names.lookup ("super":Str)=some .globalImplicit:=by kernel_rfl
theorem eh_InvalidOrders:(er_InvalidOrders.params.posonlyargs++er_InvalidOrders.params.args).head?.map (·.arg)=some ("self":Str):=by kernel_rfl
theorem eb_InvalidModes:er_InvalidModes.body=errBody "InvalidModes" "at" "at" (errPos er_InvalidModes.body).1 (errPos er_InvalidModes.body).2:=by kernel_rfl
theorem es_InvalidModes:NdefX.NScope ["self","at","__class__"] ["self","at"] ["__class__"] er_InvalidModes.scope:=NdefX.nscope_by (by kernel_rfl)
theorem eu_InvalidModes:er_InvalidModes.scope.names.lookup ("super":Str)=some .globalImplicit:=by kernel_rfl
theorem eh_InvalidModes:(er_InvalidModes.params.posonlyargs++er_InvalidModes.params.args).head?.map (·.arg)=some ("self":Str):=by kernel_rfl
theorem eb_UnknownMode:er_UnknownMode.body=errBody "UnknownMode" "given" "given" (errPos er_UnknownMode.body).1 (errPos er_UnknownMode.body).2:=by kernel_rfl
theorem es_UnknownMode:NdefX.NScope ["self","given","__class__"] ["self","given"] ["__class__"] er_UnknownMode.scope:=NdefX.nscope_by (by kernel_rfl)
theorem eu_UnknownMode:er_UnknownMode.scope.names.lookup ("super":Str)=some .globalImplicit:=by kernel_rfl
theorem eh_UnknownMode:(er_UnknownMode.params.posonlyargs++er_UnknownMode.params.args).head?.map (·.arg)=some ("self":Str):=by kernel_rfl
theorem eb_InvalidStarts:er_InvalidStarts.body=errBody "InvalidStarts" "at" "at" (errPos er_InvalidStarts.body).1 (errPos er_InvalidStarts.body).2:=by kernel_rfl
theorem es_InvalidStarts:NdefX.NScope ["self","at","__class__"] ["self","at"] ["__class__"] er_InvalidStarts.scope:=NdefX.nscope_by (by kernel_rfl)
theorem eu_InvalidStarts:er_InvalidStarts.scope.names.lookup ("super":Str)=some .globalImplicit:=by kernel_rfl
theorem eh_InvalidStarts:(er_InvalidStarts.params.posonlyargs++er_InvalidStarts.params.args).head?.map (·.arg)=some ("self":Str):=by kernel_rfl
theorem pfile:PySem.Challenge.pw_roomofcalls_k77_columns_of_programs.main.file=("/claim/cut.py":Str):=by kernel_rfl
theorem ptop:(PySem.Challenge.pw_roomofcalls_k77_columns_of_programs.main.scope.names.lookup ("super":Str)).isSome=false:=by kernel_rfl
theorem facts {P:Program} (hP:P=PySem.Challenge.pw_roomofcalls_k77_columns_of_programs) {w:World} {K:PySem.W.Frag} {h:Heap} {mg:Str→Option Value} {f:Addr} (X:K.In h) (G:h.Ns mainGlobals mg) (hfa:mg ("law":Str)=some (.ref f)) (c:SaysF fa xf fn ts ers w K h) :
    ∃ fd:FuncData,(∀ (s:Shared) (v:Value),BindsTo s fd ⟨[v],[]⟩ [("_law_script",v)])∧∀ base:Heap,K.In base→base.Ns mainGlobals mg→(∀ p∈(tabsOf K).map (fun p=>(p.1,p.2.1)),LamX.TabB base mg p.1 p.2)→FnOk P w K mg base CX0 8 f fd ["_law_script"] (fun vs H Q E=>spM ⟨K,P,w⟩ 1 M_law vs H Q (fun _ _ _=>False)):=by
  have mo:ModOk ⟨K,P,w⟩ mg blts cst:=by
    refine ⟨fun x hx=>?_,fun x v hx=>?_⟩
    · unfold blts at hx
      simp only [List.mem_cons,List.not_mem_nil,or_false] at hx
      rcases hx with rfl | rfl | rfl | rfl | rfl | rfl | rfl | rfl | rfl | rfl | rfl | rfl | rfl
      · exact He.free_ok X G (c.d.fact 20 rfl)
      · exact He.free_ok X G (c.d.fact 21 rfl)
      · exact He.free_ok X G (c.d.fact 22 rfl)
      · exact He.free_ok X G (c.d.fact 23 rfl)
      · exact He.free_ok X G (c.d.fact 24 rfl)
      · exact He.free_ok X G (c.d.fact 25 rfl)
      · exact He.free_ok X G (c.d.fact 26 rfl)
      · exact He.free_ok X G (c.d.fact 27 rfl)
      · exact He.free_ok X G (c.d.fact 28 rfl)
      · exact He.free_ok X G (c.d.fact 29 rfl)
      · exact He.free_ok X G (c.d.fact 30 rfl)
      · exact He.free_ok X G (c.d.fact 31 rfl)
      · exact He.free_ok X G (c.d.fact 32 rfl)
    · unfold cst at hx
      simp only [List.mem_cons,List.not_mem_nil,or_false,Prod.mk.injEq] at hx
      rcases hx with ⟨rfl,rfl⟩
      · obtain ⟨t,e⟩:=He.str_ok X G (c.d.fact 33 rfl)
        exact ⟨_,.str "abcdefghijklmnopqrstuvwxyz",e,⟨_,rfl⟩,fun _=>rfl⟩
  obtain ⟨fd_law_open,D_law_open⟩:=c.d.def_ 0 (d:=d_law_open) rfl
  have g_law_open:=He.glo_ok X G (c.d.fact 0 (f:=.glo "_law_open") rfl)
  have b_law_open:Binds K fd_law_open ["_law_script"] []:=FunD.bindsN D_law_open fun _ _ _ _ _ _ us hl=>match us,hl with | [_],_=>rfl
  obtain ⟨fd_law_draw,D_law_draw⟩:=c.d.def_ 1 (d:=d_law_draw) rfl
  have g_law_draw:=He.glo_ok X G (c.d.fact 1 (f:=.glo "_law_draw") rfl)
  have b_law_draw:Binds K fd_law_draw ["_law_bag","_law_sides"] []:=FunD.bindsN D_law_draw fun _ _ _ _ _ _ us hl=>match us,hl with | [_,_],_=>rfl
  obtain ⟨fd_law_of,D_law_of⟩:=c.d.def_ 2 (d:=d_law_of) rfl
  have g_law_of:=He.glo_ok X G (c.d.fact 2 (f:=.glo "_law_of") rfl)
  have b_law_of:Binds K fd_law_of ["_law_bag","_law_things"] []:=FunD.bindsN D_law_of fun _ _ _ _ _ _ us hl=>match us,hl with | [_,_],_=>rfl
  obtain ⟨fd_law_new_names,D_law_new_names⟩:=c.d.def_ 3 (d:=d_law_new_names) rfl
  have g_law_new_names:=He.glo_ok X G (c.d.fact 3 (f:=.glo "_law_new_names") rfl)
  have b_law_new_names:Binds K fd_law_new_names ["_law_bag","_law_count"] []:=FunD.bindsN D_law_new_names fun _ _ _ _ _ _ us hl=>match us,hl with | [_,_],_=>rfl
  obtain ⟨fd_law_words,D_law_words⟩:=c.d.def_ 4 (d:=d_law_words) rfl
  have g_law_words:=He.glo_ok X G (c.d.fact 4 (f:=.glo "_law_words") rfl)
  have b_law_words:Binds K fd_law_words ["_law_bag","_law_count"] []:=FunD.bindsN D_law_words fun _ _ _ _ _ _ us hl=>match us,hl with | [_,_],_=>rfl
  obtain ⟨fd_law_draw_spec,D_law_draw_spec⟩:=c.d.def_ 5 (d:=d_law_draw_spec) rfl
  have g_law_draw_spec:=He.glo_ok X G (c.d.fact 5 (f:=.glo "_law_draw_spec") rfl)
  have b_law_draw_spec:Binds K fd_law_draw_spec ["_law_bag","_law_top_words","_law_top_orders","_law_top_modes"] []:=FunD.bindsN D_law_draw_spec fun _ _ _ _ _ _ us hl=>match us,hl with | [_,_,_,_],_=>rfl
  obtain ⟨fd_law_padded,D_law_padded⟩:=c.d.def_ 6 (d:=d_law_padded) rfl
  have g_law_padded:=He.glo_ok X G (c.d.fact 6 (f:=.glo "_law_padded") rfl)
  have b_law_padded:Binds K fd_law_padded ["_law_text_z","_law_size"] []:=FunD.bindsN D_law_padded fun _ _ _ _ _ _ us hl=>match us,hl with | [_,_],_=>rfl
  obtain ⟨fd_is_list,D_is_list⟩:=c.d.def_ 7 (d:=d_is_list) rfl
  have g_is_list:=He.glo_ok X G (c.d.fact 7 (f:=.glo "is_list") rfl)
  have b_is_list:Binds K fd_is_list ["value"] []:=FunD.bindsN D_is_list fun _ _ _ _ _ _ us hl=>match us,hl with | [_],_=>rfl
  obtain ⟨fd_first_fault,D_first_fault⟩:=c.d.def_ 8 (d:=d_first_fault) rfl
  have g_first_fault:=He.glo_ok X G (c.d.fact 8 (f:=.glo "first_fault") rfl)
  have b_first_fault:Binds K fd_first_fault ["values","fitting","most"] []:=FunD.bindsN D_first_fault fun _ _ _ _ _ _ us hl=>match us,hl with | [_,_,_],_=>rfl
  obtain ⟨fd_is_name,D_is_name⟩:=c.d.def_ 9 (d:=d_is_name) rfl
  have g_is_name:=He.glo_ok X G (c.d.fact 9 (f:=.glo "is_name") rfl)
  have b_is_name:Binds K fd_is_name ["value"] []:=FunD.bindsN D_is_name fun _ _ _ _ _ _ us hl=>match us,hl with | [_],_=>rfl
  obtain ⟨fd_is_word,D_is_word⟩:=c.d.def_ 10 (d:=d_is_word) rfl
  have g_is_word:=He.glo_ok X G (c.d.fact 10 (f:=.glo "is_word") rfl)
  have b_is_word:Binds K fd_is_word ["value"] []:=FunD.bindsN D_is_word fun _ _ _ _ _ _ us hl=>match us,hl with | [_],_=>rfl
  obtain ⟨fd_check_words,D_check_words⟩:=c.d.def_ 11 (d:=d_check_words) rfl
  have g_check_words:=He.glo_ok X G (c.d.fact 11 (f:=.glo "check_words") rfl)
  have b_check_words:Binds K fd_check_words ["words"] []:=FunD.bindsN D_check_words fun _ _ _ _ _ _ us hl=>match us,hl with | [_],_=>rfl
  obtain ⟨fd_check_orders,D_check_orders⟩:=c.d.def_ 12 (d:=d_check_orders) rfl
  have g_check_orders:=He.glo_ok X G (c.d.fact 12 (f:=.glo "check_orders") rfl)
  have b_check_orders:Binds K fd_check_orders ["orders"] []:=FunD.bindsN D_check_orders fun _ _ _ _ _ _ us hl=>match us,hl with | [_],_=>rfl
  obtain ⟨fd_is_mode,D_is_mode⟩:=c.d.def_ 13 (d:=d_is_mode) rfl
  have g_is_mode:=He.glo_ok X G (c.d.fact 13 (f:=.glo "is_mode") rfl)
  have b_is_mode:Binds K fd_is_mode ["value","words","orders"] []:=FunD.bindsN D_is_mode fun _ _ _ _ _ _ us hl=>match us,hl with | [_,_,_],_=>rfl
  obtain ⟨fd_check_modes,D_check_modes⟩:=c.d.def_ 14 (d:=d_check_modes) rfl
  have g_check_modes:=He.glo_ok X G (c.d.fact 14 (f:=.glo "check_modes") rfl)
  have b_check_modes:Binds K fd_check_modes ["modes","words","orders"] []:=FunD.bindsN D_check_modes fun _ _ _ _ _ _ us hl=>match us,hl with | [_,_,_],_=>rfl
  obtain ⟨fd_check_starts,D_check_starts⟩:=c.d.def_ 15 (d:=d_check_starts) rfl
  have g_check_starts:=He.glo_ok X G (c.d.fact 15 (f:=.glo "check_starts") rfl)
  have b_check_starts:Binds K fd_check_starts ["starts","names"] []:=FunD.bindsN D_check_starts fun _ _ _ _ _ _ us hl=>match us,hl with | [_,_],_=>rfl
  obtain ⟨fd_Program___init__,D_Program___init__⟩:=c.d.def_ 16 (d:=d_Program___init__) rfl
  have b_Program___init__:Binds K fd_Program___init__ ["self","words","orders","modes","starts"] []:=FunD.bindsN D_Program___init__ fun _ _ _ _ _ _ us hl=>match us,hl with | [_,_,_,_,_],_=>rfl
  obtain ⟨fd_law_make,D_law_make⟩:=c.d.def_ 17 (d:=d_law_make) rfl
  have g_law_make:=He.glo_ok X G (c.d.fact 16 (f:=.glo "_law_make") rfl)
  have b_law_make:Binds K fd_law_make ["_law_spec"] []:=FunD.bindsN D_law_make fun _ _ _ _ _ _ us hl=>match us,hl with | [_],_=>rfl
  obtain ⟨fd_Program_modes,D_Program_modes⟩:=c.d.def_ 18 (d:=d_Program_modes) rfl
  have b_Program_modes:Binds K fd_Program_modes ["self"] []:=FunD.bindsN D_Program_modes fun _ _ _ _ _ _ us hl=>match us,hl with | [_],_=>rfl
  obtain ⟨fd_Program_starts,D_Program_starts⟩:=c.d.def_ 19 (d:=d_Program_starts) rfl
  have b_Program_starts:Binds K fd_Program_starts ["self"] []:=FunD.bindsN D_Program_starts fun _ _ _ _ _ _ us hl=>match us,hl with | [_],_=>rfl
  obtain ⟨fd_columns,D_columns⟩:=c.d.def_ 20 (d:=d_columns) rfl
  have g_columns:=He.glo_ok X G (c.d.fact 17 (f:=.glo "columns") rfl)
  have b_columns:Binds K fd_columns ["program"] []:=FunD.bindsN D_columns fun _ _ _ _ _ _ us hl=>match us,hl with | [_],_=>rfl
  have k_columns_program:∀ (s:Shared) (ws:List Value),ws.length=(["program"]:List Str).length→BindsTo s fd_columns ⟨[],(["program"]:List Str).zip ws⟩ ((["program"]:List Str).zip (spreadV .none ["program"] ["program"] ws)):=fun s ws hl=>match ws,hl with
      | [w0],_=>FunD.kwBinds D_columns _ (fun _ _ _ _ _ _=>rfl) s
  obtain ⟨fd_law_same,D_law_same⟩:=c.d.def_ 21 (d:=d_law_same) rfl
  have g_law_same:=He.glo_ok X G (c.d.fact 18 (f:=.glo "_law_same") rfl)
  have b_law_same:Binds K fd_law_same ["_law_found","_law_due"] []:=FunD.bindsN D_law_same fun _ _ _ _ _ _ us hl=>match us,hl with | [_,_],_=>rfl
  obtain ⟨fd_Program_of,D_Program_of⟩:=own_fundK (d:=d_Program_of) (kws:=kwd_Program_of) rfl (c.err (d:=d_Program_of) 5 rfl) (say_ok (c.x 5 rfl))
  obtain ⟨fd_law,D_law⟩:=c.d.def_ 22 (d:=d_law) rfl
  have g_law:=He.glo_ok X G (c.d.fact 19 (f:=.glo "law") rfl)
  have e:=hfa.symm.trans g_law
  cases e
  have b_law:=FunD.bindsA (ps:=["_law_script"]) D_law fun _ _ _ _ _ _ us hl=>match us,hl with | [_],_=>rfl
  refine ⟨fd_law,fun s v=>b_law s [v] rfl,fun base _ _ tb=>?_⟩
  have e_InvalidWords:∀ {k:Nat},2≤k→nErrB bVE er_InvalidWords.x er_InvalidWords.g er_InvalidWords.f er_InvalidWords.x P w K mg base k:=fun hk=>err_needB bVE_ok (d:=er_InvalidWords) (show errV K er_InvalidWords.x=er_InvalidWords.val from c.err (d:=er_InvalidWords.own) 0 rfl) (say_ok (c.x 0 rfl)) (by rw [hP];exact pfile) (by rw [hP];exact ptop) (He.glo_ok X G (c.d.fact 35 rfl)) (He.free_ok X G (c.d.fact 34 rfl)) eb_InvalidWords (errT (by kernel_rfl)) es_InvalidWords eu_InvalidWords eh_InvalidWords (by decide) (by decide) (fun _ _ _ _ _ _ _ _=>rfl) hk
  have e_InvalidOrders:∀ {k:Nat},2≤k→nErrB bVE er_InvalidOrders.x er_InvalidOrders.g er_InvalidOrders.f er_InvalidOrders.x P w K mg base k:=fun hk=>err_needB bVE_ok (d:=er_InvalidOrders) (show errV K er_InvalidOrders.x=er_InvalidOrders.val from c.err (d:=er_InvalidOrders.own) 1 rfl) (say_ok (c.x 1 rfl)) (by rw [hP];exact pfile) (by rw [hP];exact ptop) (He.glo_ok X G (c.d.fact 36 rfl)) (He.free_ok X G (c.d.fact 34 rfl)) eb_InvalidOrders (errT (by kernel_rfl)) es_InvalidOrders eu_InvalidOrders eh_InvalidOrders (by decide) (by decide) (fun _ _ _ _ _ _ _ _=>rfl) hk
  have e_InvalidModes:∀ {k:Nat},2≤k→nErrB bVE er_InvalidModes.x er_InvalidModes.g er_InvalidModes.f er_InvalidModes.x P w K mg base k:=fun hk=>err_needB bVE_ok (d:=er_InvalidModes) (show errV K er_InvalidModes.x=er_InvalidModes.val from c.err (d:=er_InvalidModes.own) 2 rfl) (say_ok (c.x 2 rfl)) (by rw [hP];exact pfile) (by rw [hP];exact ptop) (He.glo_ok X G (c.d.fact 37 rfl)) (He.free_ok X G (c.d.fact 34 rfl)) eb_InvalidModes (errT (by kernel_rfl)) es_InvalidModes eu_InvalidModes eh_InvalidModes (by decide) (by decide) (fun _ _ _ _ _ _ _ _=>rfl) hk
  have e_UnknownMode:∀ {k:Nat},2≤k→nErrB bVE er_UnknownMode.x er_UnknownMode.g er_UnknownMode.f er_UnknownMode.x P w K mg base k:=fun hk=>err_needB bVE_ok (d:=er_UnknownMode) (show errV K er_UnknownMode.x=er_UnknownMode.val from c.err (d:=er_UnknownMode.own) 3 rfl) (say_ok (c.x 3 rfl)) (by rw [hP];exact pfile) (by rw [hP];exact ptop) (He.glo_ok X G (c.d.fact 38 rfl)) (He.free_ok X G (c.d.fact 34 rfl)) eb_UnknownMode (errT (by kernel_rfl)) es_UnknownMode eu_UnknownMode eh_UnknownMode (by decide) (by decide) (fun _ _ _ _ _ _ _ _=>rfl) hk
  have e_InvalidStarts:∀ {k:Nat},2≤k→nErrB bVE er_InvalidStarts.x er_InvalidStarts.g er_InvalidStarts.f er_InvalidStarts.x P w K mg base k:=fun hk=>err_needB bVE_ok (d:=er_InvalidStarts) (show errV K er_InvalidStarts.x=er_InvalidStarts.val from c.err (d:=er_InvalidStarts.own) 4 rfl) (say_ok (c.x 4 rfl)) (by rw [hP];exact pfile) (by rw [hP];exact ptop) (He.glo_ok X G (c.d.fact 39 rfl)) (He.free_ok X G (c.d.fact 34 rfl)) eb_InvalidStarts (errT (by kernel_rfl)) es_InvalidStarts eu_InvalidStarts eh_InvalidStarts (by decide) (by decide) (fun _ _ _ _ _ _ _ _=>rfl) hk
  have a_law_open:=FnAt.q base 0 F_law_open D_law_open sc_law_open mo nb_law_open All.nil mt_law_open b_law_open
  have a_law_draw:=FnAt.q base 0 F_law_draw D_law_draw sc_law_draw mo nb_law_draw All.nil mt_law_draw b_law_draw
  have a_law_of:=FnAt.q base 1 F_law_of D_law_of sc_law_of mo nb_law_of (aC (aG g_law_draw a_law_draw) All.nil) mt_law_of b_law_of
  have a_law_new_names:=FnAt.q base 2 F_law_new_names D_law_new_names sc_law_new_names mo nb_law_new_names (aC (aG g_law_of a_law_of) (aC (aG g_law_of a_law_of) (aC (aG g_law_draw a_law_draw) (aC (aG g_law_draw a_law_draw) All.nil)))) mt_law_new_names b_law_new_names
  have a_law_words:=FnAt.q base 3 F_law_words D_law_words sc_law_words mo nb_law_words (aC (aG g_law_new_names a_law_new_names) All.nil) mt_law_words b_law_words
  have a_law_draw_spec:=FnAt.q base 4 F_law_draw_spec D_law_draw_spec sc_law_draw_spec mo nb_law_draw_spec (aC (aG g_law_words a_law_words) (aC (aG g_law_draw a_law_draw) (aC (aG g_law_new_names a_law_new_names) (aC (aG g_law_draw a_law_draw) (aC (aG g_law_new_names a_law_new_names) (aC (aG g_law_draw a_law_draw) (aC (aG g_law_of a_law_of) (aC (aG g_law_of a_law_of) (aC (aG g_law_draw a_law_draw) (aC (aG g_law_of a_law_of) All.nil)))))))))) mt_law_draw_spec b_law_draw_spec
  have a_law_padded:=FnAt.q base 0 F_law_padded D_law_padded sc_law_padded mo nb_law_padded All.nil mt_law_padded b_law_padded
  have a_is_list:=FnAt.q base 0 F_is_list D_is_list sc_is_list mo nb_is_list All.nil mt_is_list b_is_list
  have a_first_fault:=FnAt.q base 0 F_first_fault D_first_fault sc_first_fault mo nb_first_fault All.nil mt_first_fault b_first_fault
  have a_is_name:=FnAt.q base 0 F_is_name D_is_name sc_is_name mo nb_is_name All.nil mt_is_name b_is_name
  have a_is_word:=FnAt.q base 1 F_is_word D_is_word sc_is_word mo nb_is_word (aC (aG g_is_name a_is_name) All.nil) mt_is_word b_is_word
  have a_check_words:=FnAt.q base 2 F_check_words D_check_words sc_check_words mo nb_check_words (aC (aG g_is_list a_is_list) (aC (aG g_first_fault a_first_fault) (aC (aG g_is_word a_is_word) (aC (⟨He.glo_ok X G (c.d.fact 40 rfl),con_ok (c.x 8 rfl)⟩) (aC (e_InvalidWords (by decide)) All.nil))))) mt_check_words b_check_words
  have a_check_orders:=FnAt.q base 2 F_check_orders D_check_orders sc_check_orders mo nb_check_orders (aC (aG g_is_list a_is_list) (aC (e_InvalidOrders (by decide)) (aC (aG g_first_fault a_first_fault) (aC (aG g_is_name a_is_name) (aC (⟨He.glo_ok X G (c.d.fact 40 rfl),con_ok (c.x 9 rfl)⟩) (aC (e_InvalidOrders (by decide)) All.nil)))))) mt_check_orders b_check_orders
  have a_is_mode:=FnAt.q base 1 F_is_mode D_is_mode sc_is_mode mo nb_is_mode (aC (aG g_is_name a_is_name) All.nil) mt_is_mode b_is_mode
  have a_check_modes:=FnAt.q base 2 F_check_modes D_check_modes sc_check_modes mo nb_check_modes (aC (aG g_is_list a_is_list) (aC (e_InvalidModes (by decide)) (aC (⟨He.glo_ok X G (c.d.fact 40 rfl),con_ok (c.x 10 rfl)⟩) (aC (aG g_is_mode a_is_mode) (aC (e_InvalidModes (by decide)) (aC (e_UnknownMode (by decide)) All.nil)))))) mt_check_modes b_check_modes
  have a_check_starts:=FnAt.q base 2 F_check_starts D_check_starts sc_check_starts mo nb_check_starts (aC (aG g_is_list a_is_list) (aC (e_InvalidStarts (by decide)) (aC (aG g_first_fault a_first_fault) (aC (e_InvalidStarts (by decide)) All.nil)))) mt_check_starts b_check_starts
  have a_Program___init__:=FnAt.q base 3 F_Program___init__ D_Program___init__ sc_Program___init__ mo nb_Program___init__ (aC (aG g_check_words a_check_words) (aC (aG g_check_orders a_check_orders) (aC (aG g_check_modes a_check_modes) (aC (aG g_check_starts a_check_starts) (aC (ins_ok (c.x 11 rfl)) (aC (He.noat_ok (c.d.fact 41 rfl)) (aC (ins_ok (c.x 11 rfl)) (aC (He.noat_ok (c.d.fact 42 rfl)) (aC (ins_ok (c.x 11 rfl)) (aC (He.noat_ok (c.d.fact 43 rfl)) (aC (ins_ok (c.x 11 rfl)) (aC (He.noat_ok (c.d.fact 44 rfl)) (aC (ins_ok (c.x 11 rfl)) (aC (He.noat_ok (c.d.fact 45 rfl)) (aC (ins_ok (c.x 11 rfl)) (aC (He.noat_ok (c.d.fact 46 rfl)) All.nil)))))))))))))))) mt_Program___init__ b_Program___init__
  have a_law_make:=FnAt.q base 5 F_law_make D_law_make sc_law_make mo nb_law_make (aC (⟨4,_,_,by decide,He.glo_ok X G (c.d.fact 40 rfl),He.mkr_ok (c.d.fact 47 rfl),(a_Program___init__).mono (by decide)⟩) All.nil) mt_law_make b_law_make
  have a_Program_modes:=FnAt.q base 0 F_Program_modes D_Program_modes sc_Program_modes mo nb_Program_modes (aC (ins_ok (c.x 11 rfl)) (aC (He.noat_ok (c.d.fact 43 rfl)) All.nil)) mt_Program_modes b_Program_modes
  have a_Program_starts:=FnAt.q base 0 F_Program_starts D_Program_starts sc_Program_starts mo nb_Program_starts (aC (ins_ok (c.x 11 rfl)) (aC (He.noat_ok (c.d.fact 44 rfl)) All.nil)) mt_Program_starts b_Program_starts
  have a_columns:=FnAt.q base 3 F_columns D_columns sc_columns mo nb_columns (aC (⟨_,_,He.cls_ok (c.d.fact 48 rfl),He.meth_ok (c.d.fact 49 rfl),(a_Program_modes).mono (by decide)⟩) (aC (⟨_,_,He.cls_ok (c.d.fact 48 rfl),He.meth_ok (c.d.fact 50 rfl),(a_Program_starts).mono (by decide)⟩) (aC (⟨0,rfl⟩) All.nil))) mt_columns b_columns
  have a_law_same:∀ n,FnAt P w K mg base (n + 1) (He.fAd K d_law_same.at_) fd_law_same (F_law_same n):=by
    intro n
    induction n with
    | zero=>exact FnAt.none (Nat.succ_pos _) D_law_same b_law_same
    | succ n ih=>exact FnAt.of (F_law_same (n + 1)) D_law_same sc_law_same mo (by rw [nb_law_same];exact (aC (⟨_,_,g_law_same,ih⟩) All.nil)) (mt_law_same _) (fun _ _ _ _=>rfl) b_law_same
  have a_Program_of_2_starts:FnAtO P w K mg base 6 (d_Program_of.ad K) F_Program_of 2 ["starts"] ["words","orders"] [.tup [],.tup [(.str "go")]]:=FnAtO.of F_Program_of (ps:=["cls","words","orders","starts"]) (pv:="modes") D_Program_of rfl sc_Program_of mo (by rw [nb_Program_of];exact (aC (⟨4,_,_,by decide,He.glo_ok X G (c.d.fact 40 rfl),He.mkr_ok (c.d.fact 47 rfl),(a_Program___init__).mono (by decide)⟩) All.nil)) mt_Program_of (fun _ _ _ _=>rfl) (List.cons_ne_nil _ _) ([.ref (kwAt d_Program_of.ad "words" K),.ref (kwAt d_Program_of.ad "orders" K)]:List V) (fun g=>⟨_,_,rfl,⟨_,_,rfl,ktup_ok (say_ok (c.x 6 rfl)) g.F,rfl⟩,⟨_,_,rfl,⟨_,_,rfl,ktup_ok (say_ok (c.x 7 rfl)) g.F,⟨_,_,rfl,rfl,rfl⟩⟩,rfl⟩⟩) (fun q hq=>List.Sublist.subset (l₁:=(["words","orders"]:List Str).zip ([.ref (kwAt d_Program_of.ad "words" K),.ref (kwAt d_Program_of.ad "orders" K)]:List V)) (.cons₂ _ (.cons₂ _ (.cons _ .slnil))) hq) rfl (by decide +kernel) (fun a zs es h1 h2=>match zs,es,h1,h2 with | [_],[_,_],_,_=>rfl) (fun D doc pm an cdv ct a0 us ws mv l1 l2 l3=>match us,ws,mv,l1,l2,l3 with | [_,_],[_],[_,_],_,_,_=>⟨_,_,_,_,_,_,rfl,rfl,⟨_,_,_,_,_,_,rfl,rfl,rfl⟩⟩)
  exact law_ok F_law D_law sc_law mo (by rw [nb_law];exact (aC (aG g_law_open a_law_open) (aC (aG g_law_draw_spec a_law_draw_spec) (aC (aG g_law_padded a_law_padded) (aC (aG g_law_padded a_law_padded) (aC (aG g_law_make a_law_make) (aC (aG g_columns a_columns) (aC (⟨_,_,g_law_same,(a_law_same 6).mono (by decide)⟩) (aC (⟨_,_,g_columns,(a_columns).mono (by decide),k_columns_program⟩) (aC (⟨_,_,g_law_same,(a_law_same 6).mono (by decide)⟩) (aC (aG g_columns a_columns) (aC (⟨He.glo_ok X G (c.d.fact 40 rfl),say_ok (c.x 12 rfl),a_Program_of_2_starts.mono (by decide)⟩) (aC (⟨_,_,g_law_same,(a_law_same 6).mono (by decide)⟩) (aC (aG g_columns a_columns) All.nil)))))))))))))) mt_law (fun _ _ _ _=>rfl)
end K77
theorem PySem.Challenge.cw_roomofcalls_k77_columns_of_programs_holds : PySem.Challenge.rw_roomofcalls_k77_columns_of_programs.Holds := by
  exact K77.early K77.M_law @K77.facts K77.law_true
