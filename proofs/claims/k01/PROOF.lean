import PyProof.Rows.All
import KE.KDictKeyed
import Wide.All
import OpenK.AllK
import Wide.FinOn
import HandS.ForMost
import HandS.Walk
import HandS.Wide
import HandS.IsInst
import HandS.Style
import HandS.Zip
import HandS.HeadHook1
import HandS.Exc
import HandS.ExcOwn
import HandS.ExcCtx
import HandS.Lambda
import HandS.More
import HandS.TupMul
import HandS.TupAny
import HandS.Dict
import PyProof.NeData
import HandS.CallSlots
import HandS.Codes
import KE.GoesNew
import KE.GoesEnumKw
import PyProof.Walks
import HandS.DictComp
import HandS.Star
import HandS.GenOver
import PyProof.GenRules
import PyProof.GenComp
import HandS.GenList
import HandS.TupSets
import HandS.SetBool
import HandS.Flow
import HandS.HotCalls
import KE.KTryMore
import HandS.Finally
import HandS.Defaults
import HandS.Ends
import HandS.Text
import HandS.List
import HandS.Iter
import PyProof.SumWalkG
import PyProof.WalksMore
import HandS.ClsMeth
import HandS.CallRecv
import OpenK.KOps
import OpenK.KMeth
import HandS.HeadHook2
import HandS.HeadHook3
import HandS.HeadWalk
import HandS.ExcInit
import HandS.ExcSuper
import KE.KExcSuper
import KE.KExcInit
import HandS.Nested
import HandS.ExcInitHot
import HandS.ExcField
import HandS.ExcValue
import KE.KDflt
import HandS.Comp
import HandS.MakeKwOnly
import HandS.Property
import HandS.FStr
import HandS.HeadNt
import HandS.Head0
import HandS.Head1
import HandS.Head2
import HandS.ExcIs
import HandS.HeadHook4
import HandS.HeadEnd
import PySem.Challenge.RW_roomofcalls_k01_errors_by_themselves
import HandS.RaiseMore
import PyProof.FitsReplace
import HandS.OwnEq
import PyProof.InstNe
noncomputable section
set_option Elab.async false
set_option linter.all false
set_option maxRecDepth 100000
set_option maxHeartbeats 0
section
open PySem
open PyProof.Rows hiding St
abbrev qQa:=@List.getElem?_eq_some_iff
abbrev qQb:=@Bool.and_eq_true
abbrev qQc:=@List.mem_cons_self
abbrev qQd:=@List.mem_cons_of_mem
abbrev qQe:=@List.getElem?_set_ne
abbrev qQf:=@List.getElem?_eq_getElem
abbrev qQg:=@List.mem_of_getElem?
abbrev qQh:=@List.mem_map
abbrev qQi:=@Option.map_eq_some_iff
abbrev qQj:=@List.mem_cons
abbrev qQk:=@List.mem_singleton
abbrev qQl:=@List.not_mem_nil
abbrev qQm:=@List.getElem?_set_self
abbrev qQn:=@List.length_cons
abbrev qQo:=@List.getElem?_append_left
abbrev qQp:=@List.map_cons
abbrev qQq:=@List.getElem?_map
abbrev qQr:=@Bool.and_eq_true_iff
abbrev qQs:=@decide_eq_true_eq
abbrev qQt:=@List.map_map
abbrev qQu:=@Heap.get?_push_of_some
abbrev qQv:=@List.mem_append_right
abbrev qQw:=@List.mem_append_left
abbrev qQx:=@List.getElem?_append_right
abbrev qQy:=@List.append_nil
abbrev qQz:=@List.getD_eq_getElem?_getD
abbrev qQ0:=@List.all_eq_true
abbrev qQ1:=@List.getElem?_eq_none
abbrev qQ2:=@Nat.lt_of_lt_of_le
abbrev qQ3:=@List.lookup_cons
abbrev qQ4:=@of_decide_eq_true
abbrev qQ5:=@Option.some.inj
end
namespace Rc
open PySem PySem.Spec L2
open PyProof.Rows hiding St
inductive MV where
 | non
 | bl (b:Bool)
 | int (i:Int)
 | str (x:Str)
 | tup (xs:List MV)
 | lst (xs:List MV)
 | kl (xs:List MV)
 | ref (n:Nat)
 | ins (c:Str) (ks:List Str) (xs:List MV)
 | exn (c:Str) (ks:List Str) (xs:List MV)
 | dic (ks xs:List MV)
 | kd (ks:List Str) (is:List Int)
 | dit (ks xs:List MV)
 | cls (c:Str)
 deriving Inhabited
inductive MO where
 | lst (xs:List MV)
 | ins (c:Str) (ks:List Str) (xs:List MV)
 | dic (ks xs:List MV)
 | dit (ks xs:List MV)
abbrev Mem:=List (Option MO)
inductive OV where
 | v (x:MV)
 | b (o:MO)
inductive SV where
 | v (x:MV)
 | own (o:MO)
abbrev Sl:=List (Option SV)
inductive R (α:Type) where
 | ok (a:α) (m:Mem)
 | exc (c:Str) (ks:List Str) (xs:List MV) (m:Mem)
 | stuck
def R.bind{α β:Type}(r:R α)(k:α->Mem->R β):R β:=match r with
 | .ok a m=>k a m
 | .exc c ks xs m=>.exc c ks xs m
 | .stuck=>.stuck
inductive FR where
 | ok (x:MV) (m:Mem)
 | new (o:MO) (m:Mem)
 | exc (c:Str) (ks:List Str) (xs:List MV) (m:Mem)
 | stuck
abbrev Mir:=List MV->Mem->FR
structure G where
 F:Hp
 r:Nat->Option Addr
structure Ki where
 K:PySem.W.Frag
 P:Program
 w:World
instance:Coe Ki PySem.W.Frag:=⟨Ki.K⟩
abbrev Ki.ga(K:Ki)(c:Str):Addr:=He.ga K.K c
def aat(K:Ki)(a:Addr)(u:HO)(kvs:List (V × V)):Prop:=∃kv,u=.dK kv/\kvs=kv.map λp=>(kV p.1,p.2)
mutual
def Qu:MV->Option NestedKey
 | .non=>some .none
 | .bl b=>some (.num (if b then 1 else 0))
 | .int i=>some (.num i)
 | .str x=>some (.text x)
 | .tup xs=>(uW xs).map .tup
 | _=>none
def uW:List MV->Option (List NestedKey)
 | []=>some []
 | x::xs=>(Qu x).bind λk=>(uW xs).map (k::·)
end
def adx(K:Ki)(a:Addr)(nks:List NestedKey)(kvs:List (V × V))(o:Obj)(h:Heap):Prop:=kvs.length<=sizeLine/\(a == sysModules)=false/\nks.Nodup/\(∀k∈nks,k.depth<=8)/\∃xs:List (NestedKey × Addr × Value),
 xs.map (·.1)=nks/\Paired (λ(p:V × V) (x:NestedKey × Addr × Value)=>p.1=.ref x.2.1/\RelV p.2 x.2.2) kvs xs /\
 h.get? a=some o/\o.ExactDict/\∃es ep,o.data=.dict es ep/\es.toList=xs.map (entryOfKey (nestedKind K.P K.w))
def abl(K:Ki)(a:Addr)(u:HO)(ks:List MV)(kvs:List (V × V)):Prop:=∃nks o,uW ks=some nks/\u=.ext (adx K a nks kvs o)
def Zu(K:Ki)(c:Str)(dd a:Addr)(φ:Heap->Prop):Prop:=∀h,φ h->∃(oe:Obj) (vs:Array Value),h.get? a=some oe/\oe.cls=.ref (K.ga c)/\oe.dict=some dd/\oe.data=.fields vs
def KdV:Option Value->Option Int->Prop
 | some v,some i=>∃t,v=.int i t
 | none,none=>True
 | _,_=>False
structure KdR(K:Ki)(a:Addr)(ks:List Str)(is:List Int):Prop where
 at_:∃es n,K.K.lookup a=some ⟨.type "dict",none,.dict es n,#[]⟩/\PySem.W.KeysLit K.w.params es.toList
 low:(a == sysModules)=false
 get:∀z,∃r,PySem.W.nsIn K.K a z=some r/\KdV r ((ks.zip is).lookup z)
mutual
def RV(K:Ki)(g:G):MV->V->Prop
 | .non,v=>v=.non
 | .bl b,v=>v=.bl b
 | .int i,v=>v=.int i
 | .str x,v=>v=.str x
 | .tup xs,v=>∃a ys,v=.ref a/\SqT K g.F a ys/\RVs K g xs ys
 | .lst xs,v=>∃a ys,v=.ref a/\g.F a=some (.lst ys)/\RVs K g xs ys
 | .kl xs,v=>∃a ys,v=.ref a/\SqL K g.F a ys/\RVs K g xs ys
 | .ref n,v=>∃a,v=.ref a/\g.r n=some a
 | .ins c ks xs,v=>∃a dx fs,v=.ref a/\g.F a=some (.ins (K.ga c) dx fs)/\g.F dx=some (.own a)/\fs.map (·.1)=ks/\RVs K g xs (fs.map (·.2))
 | .exn c ks xs,v=>∃a dd φ fs,v=.ref a/\g.F a=some (.ext φ)/\Zu K c dd a φ/\g.F dd=some (.xd fs)/\fs.map (·.1)=ks/\RVs K g xs (fs.map (·.2))
 | .dic ks xs,v=>∃a u kvs,v=.ref a/\g.F a=some u/\aat K a u kvs/\RVs K g ks (kvs.map (·.1))/\RVs K g xs (kvs.map (·.2))
 | .kd ks is,v=>∃a,v=.ref a/\KdR K a ks is
 | .cls c,v=>v=.ref (K.ga c)
 | .dit ks xs,v=>∃a u kvs,v=.ref a/\g.F a=some u/\abl K a u ks kvs/\RVs K g ks (kvs.map (·.1))/\RVs K g xs (kvs.map (·.2))
def RVs(K:Ki)(g:G):List MV->List V->Prop
 | [],vs=>vs=[]
 | x::xs,vs=>∃v r,vs=v::r/\RV K g x v/\RVs K g xs r
end
def gK(K:Ki)(g:G)(o:MO)(H:Hp)(a:Addr):Prop:=match o with
 | .lst xs=>∃ys,H a=some (.lst ys)/\RVs K g xs ys
 | .ins c ks xs=>∃dx fs,H a=some (.ins (K.ga c) dx fs)/\g.F dx=some (.own a)/\fs.map (·.1)=ks/\RVs K g xs (fs.map (·.2))
 | .dic ks xs=>∃u kvs,H a=some u/\aat K a u kvs/\RVs K g ks (kvs.map (·.1))/\RVs K g xs (kvs.map (·.2))
 | .dit ks xs=>∃u kvs,H a=some u/\abl K a u ks kvs/\RVs K g ks (kvs.map (·.1))/\RVs K g xs (kvs.map (·.2))
def RO(K:Ki)(g:G)(H:Hp):OV->V->Prop
 | .v x,v=>RV K g x v
 | .b o,v=>∃a,v=.ref a/\gK K g o H a/\g.F a=none/\∀n,g.r n≠some a
def lamNames:List Str:=["law","_law_wide_so","_law_first_lost_so","_law_shelf_apply","_law_hall_deed","_law_ask_verdict","_law_plays_refused","_law_first_rows_so","_law_full_so","_law_true_so"]
def tabOf(K:PySem.W.Frag)(x:Str):Option (Addr × Addr × Str):=match PySem.W.nsIn K mainGlobals x with
 | some (some (.ref f))=>(match K.lookup f with
  | some ⟨_,_,.func fd,_⟩=>(match fd.code with
   | .ref c=>(match K.lookup c with
    | some ⟨_,_,.fields vs,_⟩=>(match (vs.toList[11]?:Option Value) with
     | some (.ref P)=>some (c,P,fd.qualname++".<locals>."++"<lambda>")
     | _=>none)
    | _=>none)
   | _=>none)
  | _=>none)
 | _=>none
def dU(K:PySem.W.Frag):List (Addr × Addr × Str):=lamNames.filterMap (tabOf K)
structure TabG(g:G)(H:Hp)(P:Addr)(q:Str):Prop where
 ps:∃ps:Array Value,H P=some (.tbl ps)/\TriplesOk ps.toList/\∀(pos:Pos) (cv:Value),codeAmong pos ps.toList=some cv->∃c,cv=.ref c/\g.F c=some (LamX.CodeO c q)
 F:g.F P=none
 r:∀n,g.r n≠some P
def Jx(o:HO):Prop:=∀ps,o≠.tbl ps
theorem TabG.ne{g:G}{H:Hp}{P:Addr}{q:Str}(t:TabG g H P q){a:Addr}{o:HO}(h:H a=some o)(n:Jx o):a≠P:=λz=>by
 obtain⟨ps,e,_⟩:=t.ps
 rw[z,e] at h
 exact n ps (qQ5 h).symm
theorem TabG.ne0{g:G}{H:Hp}{P:Addr}{q:Str}(t:TabG g H P q){a:Addr}(h:H a=none):a≠P:=λz=>by
 obtain⟨ps,e,_⟩:=t.ps
 rw[z,e] at h
 cases h
theorem TabG.go{g g':G}{H H':Hp}{P:Addr}{q:Str}(t:TabG g H P q)(e:H' P=H P)(hF:∀b u,g.F b=some u->g'.F b=some u)(h1:g'.F P=none)(h2:∀n,g'.r n≠some P):TabG g' H' P q:=by
 obtain⟨ps,e1,e2,e3⟩:=t.ps
 exact⟨⟨ps,e.trans e1,e2,λpos cv h=>let ⟨c,a,b⟩:=e3 pos cv h;⟨c,a,hF _ _ b⟩⟩,h1,h2⟩
structure Rs(K:Ki)(g:G)(m:Mem)(H:Hp):Prop where
 sub:∀a o,g.F a=some o->H a=some o
 gr:∀n o,m[n]? = some (some o)->∃a,g.r n=some a/\g.F a=none/\gK K g o H a
 rb:∀n a,g.r n=some a->n<m.length/\H a≠none
 rj:∀n k a,g.r n=some a->g.r k=some a->n=k
 tb:∀p∈dU K.K,TabG g H p.2.1 p.2.2
structure RSl(K:Ki)(g:G)(s:Sl)(σ:St)(H:Hp):Prop where
 val:∀(i:Nat) x,s[i]? = some (some (.v x))->∃v,σ[i]? = some (some v)/\RV K g x v
 own:∀(i:Nat) o,s[i]? = some (some (.own o))->∃a,σ[i]? = some (some (.ref a))/\gK K g o H a/\g.F a=none/\∀n,g.r n≠some a
 dis:∀(i j:Nat) o u a,s[i]? = some (some (.own o))->s[j]? = some (some (.own u))->σ[i]? = some (some (.ref a))->σ[j]? = some (some (.ref a))->i=j
 len:s.length=σ.length
structure Stp(g:G)(H:Hp)(g':G)(H':Hp):Prop where
 F:∀a o,g.F a=some o->g'.F a=some o
 r:∀n a,g.r n=some a->g'.r n=some a
 keep:∀b o,H b=some o->(∀n,g.r n≠some b)->Jx o->H' b=some o
 dom:∀b,H b≠none->H' b≠none
 Fn:∀b,g'.F b≠none->g.F b≠none\/H b=none\/(∃n,g.r n=some b)\/∃ys,H' b=some (.tup ys)
 rn:∀n b,g'.r n=some b->g.r n=some b\/H b=none
theorem Stp.refl(g:G)(H:Hp):Stp g H g H:=⟨λ_ _ h=>h,λ_ _ h=>h,λ_ _ h _ _=>h,λ_ h=>h,λ_ h=>.inl h,λ_ _ h=>.inl h⟩
theorem Stp.trans{g1 g2 g3:G}{H1 H2 H3:Hp}(a:Stp g1 H1 g2 H2)(b:Stp g2 H2 g3 H3):Stp g1 H1 g3 H3 where
 F:=λx o h=>b.F x o (a.F x o h)
 r:=λn x h=>b.r n x (a.r n x h)
 keep:=λx o h hn nt=>b.keep x o (a.keep x o h hn nt) (λn e=>by
  rcases a.rn n x e with q|q
  ·exact hn n q
  ·rw[h] at q;cases q) nt
 dom:=λx h=>b.dom x (a.dom x h)
 Fn:=λx h=>by
  rcases b.Fn x h with q|q|⟨n,q⟩|q
  ·rcases a.Fn x q with q|q|q|⟨ys,q⟩
   ·exact .inl q
   ·exact .inr (.inl q)
   ·exact .inr (.inr (.inl q))
   ·by_cases hh:∃n,g2.r n=some x
    ·obtain⟨n,z⟩:=hh
     rcases a.rn n x z with z|z
     ·exact .inr (.inr (.inl ⟨n,z⟩))
     ·exact .inr (.inl z)
    ·exact .inr (.inr (.inr ⟨ys,b.keep x _ q (λn z=>hh ⟨n,z⟩) (λps z=>by cases z)⟩))
  ·by_cases e:H1 x=none
   ·exact .inr (.inl e)
   ·exact absurd q (a.dom x e)
  ·rcases a.rn n x q with z|z
   ·exact .inr (.inr (.inl ⟨n,z⟩))
   ·exact .inr (.inl z)
  ·exact .inr (.inr (.inr q))
 rn:=λn x h=>by
  rcases b.rn n x h with q|q
  ·exact a.rn n x q
  ·by_cases e:H1 x=none
   ·exact .inr e
   ·exact absurd q (a.dom x e)
theorem SqL.ie{K:Ki}{F F':Hp}{a:Addr}{xs:List V}(h:∀a o,F a=some o->F' a=some o)(q:SqL K F a xs):SqL K F' a xs:=Same.seq h q
theorem SqT.ie{K:Ki}{F F':Hp}{a:Addr}{xs:List V}(e:∀a o,F a=some o->F' a=some o)(h:SqT K F a xs):SqT K F' a xs:=by
 rcases h with (h|⟨o,h⟩)|h
 ·exact .inl (.inl (e _ _ h))
 ·exact .inl (.inr ⟨o,e _ _ h⟩)
 ·exact .inr h
mutual
theorem RV.mono{K:Ki}{g g':G}(hF:∀a o,g.F a=some o->g'.F a=some o)(hr:∀n a,g.r n=some a->g'.r n=some a):∀(x:MV) {v:V},RV K g x v->RV K g' x v
 | .non,_,h=>h
 | .bl _,_,h=>h
 | .int _,_,h=>h
 | .str _,_,h=>h
 | .tup xs,_,⟨a,ys,e,q,r⟩=>⟨a,ys,e,SqT.ie hF q,RVs.mono hF hr xs r⟩
 | .lst xs,_,⟨a,ys,e,q,r⟩=>⟨a,ys,e,hF _ _ q,RVs.mono hF hr xs r⟩
 | .kl xs,_,⟨a,ys,e,q,r⟩=>⟨a,ys,e,SqL.ie hF q,RVs.mono hF hr xs r⟩
 | .ref n,_,⟨a,e,q⟩=>⟨a,e,hr n a q⟩
 | .ins c ks xs,_,⟨a,dx,fs,e,q,q2,q3,r⟩=>⟨a,dx,fs,e,hF _ _ q,hF _ _ q2,q3,RVs.mono hF hr xs r⟩
 | .exn c ks xs,_,⟨a,dx,φ,fs,e,q,q1,q2,q3,r⟩=>⟨a,dx,φ,fs,e,hF _ _ q,q1,hF _ _ q2,q3,RVs.mono hF hr xs r⟩
 | .dic ks xs,_,⟨a,u,kvs,e,q,q3,r,r2⟩=>⟨a,u,kvs,e,hF _ _ q,q3,RVs.mono hF hr ks r,RVs.mono hF hr xs r2⟩
 | .kd ks is,_,h=>h
 | .cls _,_,h=>h
 | .dit ks xs,_,⟨a,u,kvs,e,q,q3,r,r2⟩=>⟨a,u,kvs,e,hF _ _ q,q3,RVs.mono hF hr ks r,RVs.mono hF hr xs r2⟩
theorem RVs.mono{K:Ki}{g g':G}(hF:∀a o,g.F a=some o->g'.F a=some o)(hr:∀n a,g.r n=some a->g'.r n=some a):∀(xs:List MV) {vs:List V},RVs K g xs vs->RVs K g' xs vs
 | [],_,h=>h
 | x::xs,_,⟨v,r,e,h,t⟩=>⟨v,r,e,RV.mono hF hr x h,RVs.mono hF hr xs t⟩
end
section
variable{K:Ki}{g g' g'':G}{H H' H'':Hp}{m m':Mem}{s:Sl}{σ:St}
theorem RV.st{x:MV}{v:V}(h:RV K g x v)(t:Stp g H g' H'):RV K g' x v:=RV.mono t.F t.r x h
theorem RVs.st{xs:List MV}{vs:List V}(h:RVs K g xs vs)(t:Stp g H g' H'):RVs K g' xs vs:=RVs.mono t.F t.r xs h
theorem RVs.length:∀{xs:List MV}{vs:List V},RVs K g xs vs->xs.length=vs.length
 | [],_,h=>by cases (show _=[] from h);rfl
 | x::xs,_,⟨v,r,e,_,t⟩=>by subst e;simp[RVs.length t]
theorem RVs.get:∀{xs:List MV}{vs:List V}{i:Nat}{x:MV},RVs K g xs vs->xs[i]? = some x->∃v,vs[i]? = some v/\RV K g x v
 | [],_,_,_,_,e=>by simp at e
 | y::xs,_,0,x,⟨v,r,e,h,t⟩,q=>by simp at q;subst q;subst e;exact⟨v,rfl,h⟩
 | y::xs,_,i+1,x,⟨v,r,e,h,t⟩,q=>by
  subst e
  obtain⟨w,a,b⟩:=RVs.get (i:=i) t (by simpa using q)
  exact⟨w,by simpa using a,b⟩
theorem RVs.get':∀{xs:List MV}{vs:List V}{i:Nat}{v:V},RVs K g xs vs->vs[i]? = some v->∃x,xs[i]? = some x/\RV K g x v
 | [],_,_,_,h,e=>by cases (show _=[] from h);simp at e
 | y::xs,_,0,v,⟨w,r,e,h,t⟩,q=>by subst e;simp at q;subst q;exact⟨y,rfl,h⟩
 | y::xs,_,i+1,v,⟨w,r,e,h,t⟩,q=>by
  subst e
  obtain⟨x,a,b⟩:=RVs.get' (i:=i) t (by simpa using q)
  exact⟨x,by simpa using a,b⟩
theorem RVs.set{x:MV}{v:V}(h:RV K g x v):∀{xs:List MV}{vs:List V} (i:Nat),RVs K g xs vs->RVs K g (xs.set i x) (vs.set i v)
 | [],_,_,q=>by cases (show _=[] from q);exact rfl
 | y::xs,_,0,⟨w,r,e,_,t⟩=>by subst e;exact⟨v,r,rfl,h,t⟩
 | y::xs,_,i+1,⟨w,r,e,q,t⟩=>by subst e;exact⟨w,r.set i v,rfl,q,RVs.set h i t⟩
theorem RVs.append:∀{xs ys:List MV}{vs ws:List V},RVs K g xs vs->RVs K g ys ws->RVs K g (xs++ys) (vs++ws)
 | [],_,_,_,h,q=>by cases (show _=[] from h);exact q
 | x::xs,_,_,_,⟨v,r,e,h,t⟩,q=>by subst e;exact⟨v,_,rfl,h,RVs.append t q⟩
theorem RVs.one{x:MV}{v:V}(h:RV K g x v):RVs K g [x] [v]:=⟨v,[],rfl,h,rfl⟩
theorem RVs.take:∀{xs:List MV}{vs:List V} (n:Nat),RVs K g xs vs->RVs K g (xs.take n) (vs.take n)
 | _,_,0,_=>rfl
 | [],_,_+1,h=>by cases (show _=[] from h);exact rfl
 | x::xs,_,n+1,⟨v,r,e,h,t⟩=>by subst e;exact⟨v,_,rfl,h,RVs.take n t⟩
theorem RVs.drop:∀{xs:List MV}{vs:List V} (n:Nat),RVs K g xs vs->RVs K g (xs.drop n) (vs.drop n)
 | _,_,0,h=>h
 | [],_,_+1,h=>by cases (show _=[] from h);exact rfl
 | x::xs,_,n+1,⟨v,r,e,h,t⟩=>by subst e;exact RVs.drop n t
theorem gK.st{o:MO}{a:Addr}(h:gK K g o H a)(t:Stp g H g' H')(e:H' a=H a):gK K g' o H' a:=by
 cases o with
 | lst xs=>obtain⟨ys,q,r⟩:=h;exact⟨ys,e.trans q,r.st t⟩
 | ins c ks xs=>obtain⟨dx,fs,q,q2,q3,r⟩:=h;exact⟨dx,fs,e.trans q,t.F _ _ q2,q3,r.st t⟩
 | dic ks xs=>obtain⟨u,kvs,q,q3,r,r2⟩:=h;exact⟨u,kvs,e.trans q,q3,r.st t,r2.st t⟩
 | dit ks xs=>obtain⟨u,kvs,q,q3,r,r2⟩:=h;exact⟨u,kvs,e.trans q,q3,r.st t,r2.st t⟩
theorem gK.zN{o:MO}{a:Addr}(h:gK K g o H a):∃u,H a=some u/\Jx u:=by
 cases o with
 | lst xs=>obtain⟨ys,q,r⟩:=h;exact⟨_,q,λps z=>by cases z⟩
 | ins c ks xs=>obtain⟨dx,fs,q,_⟩:=h;exact⟨_,q,λps z=>by cases z⟩
 | dic ks xs=>obtain⟨u,kvs,q,⟨kv,rfl,_⟩,_⟩:=h;exact⟨_,q,λps z=>by cases z⟩
 | dit ks xs=>obtain⟨u,kvs,q,⟨nks,ob,_,rfl⟩,_⟩:=h;exact⟨_,q,λps z=>by cases z⟩
theorem gK.ntup{o:MO}{a:Addr}(h:gK K g o H a)(ys:List V):H a≠Option.some (.tup ys):=λe=>by
 cases o with
 | lst xs=>obtain⟨ys,q,r⟩:=h;rw[e] at q;cases q
 | ins c ks xs=>obtain⟨dx,fs,q,_⟩:=h;rw[e] at q;cases q
 | dic ks xs=>obtain⟨u,kvs,q,⟨kv,rfl,_⟩,_⟩:=h;rw[e] at q;cases q
 | dit ks xs=>obtain⟨u,kvs,q,⟨nks,ob,_,rfl⟩,_⟩:=h;rw[e] at q;cases q
theorem gK.nt{o:MO}{a:Addr}{u:HO}(h:gK K g o H a)(e:H a=Option.some u):Jx u:=by
 obtain⟨w,e2,n⟩:=h.zN
 rw[e] at e2;cases e2
 exact n
theorem gK.some{o:MO}{a:Addr}(h:gK K g o H a):∃u,H a=some u:=let ⟨u,e,_⟩:=h.zN;⟨u,e⟩
theorem gK.grow{K:Ki}{g g':G}{H H':Hp}{o:MO}{a:Addr}(h:gK K g o H a)(hF:∀b u,g.F b=Option.some u->g'.F b=Option.some u)(hr:∀n b,g.r n=Option.some b->g'.r n=Option.some b)(e:H' a=H a):gK K g' o H' a:=by
 cases o with
 | lst xs=>obtain⟨ys,q,r⟩:=h;exact⟨ys,e.trans q,RVs.mono hF hr xs r⟩
 | ins c ks xs=>obtain⟨dx,fs,q,q2,q3,r⟩:=h;exact⟨dx,fs,e.trans q,hF _ _ q2,q3,RVs.mono hF hr xs r⟩
 | dic ks xs=>obtain⟨u,kvs,q,q3,r,r2⟩:=h;exact⟨u,kvs,e.trans q,q3,RVs.mono hF hr ks r,RVs.mono hF hr xs r2⟩
 | dit ks xs=>obtain⟨u,kvs,q,q3,r,r2⟩:=h;exact⟨u,kvs,e.trans q,q3,RVs.mono hF hr ks r,RVs.mono hF hr xs r2⟩
theorem eQ{o:MO}{a:Addr}(h:gK K g o H a)(hF:g.F a=none)(hr:∀n,g.r n≠some a)(t:Stp g H g' H'):gK K g' o H' a/\g'.F a=none/\∀n,g'.r n≠some a:=by
 obtain⟨u,q,nt⟩:=h.zN
 refine⟨h.st t ((t.keep a u q hr nt).trans q.symm),?_,λn e=>?_⟩
 ·cases z:g'.F a with
  | none=>rfl
  | some w =>
   rcases t.Fn a (by rw[z];simp) with y|y|⟨n,y⟩|⟨ys,y⟩
   ·exact absurd hF y
   ·rw[q] at y;cases y
   ·exact absurd y (hr n)
   ·rw[t.keep a u q hr nt] at y;cases y
    exact absurd q (h.ntup ys)
 ·rcases t.rn n a e with y|y
  ·exact hr n y
  ·rw[q] at y;cases y
theorem RO.st{x:OV}{v:V}(h:RO K g H x v)(t:Stp g H g' H'):RO K g' H' x v:=by
 cases x with
 | v x=>exact RV.st (show RV K g x v from h) t
 | b o =>
  obtain⟨a,e,q,hF,hr⟩:=h
  obtain⟨q1,q2,q3⟩:=eQ q hF hr t
  exact⟨a,e,q1,q2,q3⟩
theorem RSl.st(h:RSl K g s σ H)(t:Stp g H g' H'):RSl K g' s σ H' where
 val:=λi x e=>let ⟨v,a,b⟩:=h.val i x e;⟨v,a,b.st t⟩
 own:=λi o e=>by
  obtain⟨a,e1,q,hF,hr⟩:=h.own i o e
  obtain⟨q1,q2,q3⟩:=eQ q hF hr t
  exact⟨a,e1,q1,q2,q3⟩
 dis:=h.dis
 len:=h.len
theorem Rs.freeze{p:Addr}{o:HO}(h:Rs K g m H)(hp:H p=none):Rs K { g with F:=upd g.F p o } m (upd H p o)/\Stp g H { g with F:=upd g.F p o } (upd H p o):=by
 have ne:∀a u,H a=some u->a≠p:=λa u e z=>by subst z;rw[hp] at e;cases e
 have neF:∀a u,g.F a=some u->a≠p:=λa u e=>ne a u (h.sub a u e)
 have st:Stp g H { g with F:=upd g.F p o } (upd H p o):=by
  refine⟨λa u e=>?_,λn a e=>e,λb u e _ _=>?_,λb e=>?_,λb e=>?_,λn b e=>.inl e⟩
  ·show upd g.F p o a=some u
   rw[upd_ne (neF a u e)];exact e
  ·rw[upd_ne (ne b u e)];exact e
  ·by_cases z:b=p
   ·subst z;exact absurd hp e
   ·rw[upd_ne z];exact e
  ·by_cases z:b=p
   ·subst z;exact .inr (.inl hp)
   ·have e:upd g.F p o b≠none:=e
    rw[upd_ne z] at e;exact .inl e
 refine⟨⟨λa u e=>?_,λn u e=>?_,λn a e=>?_,h.rj,λq hq=>?_⟩,st⟩
 ·have e:upd g.F p o a=some u:=e
  by_cases z:a=p
  ·subst z;rw[upd_same] at e ⊢;exact e
  ·rw[upd_ne z] at e ⊢;exact h.sub a u e
 ·obtain⟨a,e1,e2,e3⟩:=h.gr n u e
  obtain⟨w,hw⟩:=e3.some
  have na:=ne a w hw
  exact⟨a,e1,by show upd g.F p o a=none;rw[upd_ne na];exact e2,e3.st st (upd_ne na)⟩
 ·obtain⟨h1,h2⟩:=h.rb n a e
  refine⟨h1,?_⟩
  rw[upd_ne (λz=>h2 (by rw[z];exact hp))];exact h2
 ·have tq:=h.tb q hq
  have np:=(tq.ne0 hp).symm
  exact tq.go (upd_ne np) st.F (by show upd g.F p o _=none;rw[upd_ne np];exact tq.F) tq.r
theorem Rs.vN{p:Addr}{o:HO}(h:Rs K g m H)(hp:H p=some o)(hr:∀n,g.r n≠some p)(hF:g.F p=none)(nt:Jx o):Rs K { g with F:=upd g.F p o } m H:=by
 have mono:∀a u,g.F a=some u->upd g.F p o a=some u:=λa u e=>by
  by_cases z:a=p
  ·subst z;rw[hF] at e;cases e
  ·rw[upd_ne z];exact e
 refine⟨λa u e=>?_,λn u e=>?_,h.rb,h.rj,λq hq=>?_⟩
 ·have e:upd g.F p o a=some u:=e
  by_cases z:a=p
  ·subst z;rw[upd_same] at e;rw[hp];exact e
  ·rw[upd_ne z] at e;exact h.sub a u e
 ·obtain⟨a,e1,e2,e3⟩:=h.gr n u e
  have na:a≠p:=λz=>hr n (by rw[<- z];exact e1)
  exact⟨a,e1,by show upd g.F p o a=none;rw[upd_ne na];exact e2,gK.grow e3 mono (λ_ _ e=>e) rfl⟩
 ·have tq:=h.tb q hq
  have np:=(tq.ne hp nt).symm
  exact tq.go rfl mono (by show upd g.F p o _=none;rw[upd_ne np];exact tq.F) tq.r
end
def ExR(K:Ki)(g:G)(c:Str)(ks:List Str)(xs:List MV)(cls:Value)(d:Option Addr):Prop:=∃dd fs,cls=.ref (K.ga c)/\d=some dd/\g.F dd=some (.xd fs)/\fs.map (·.1)=ks/\RVs K g xs (fs.map (·.2))
def dG{α β:Type}(K:Ki)(E:XK)(Rel:G->Hp->α->β->Prop)(g:G)(H:Hp)(r:R α)(Q:β->Hp->Prop):Prop:=match r with
 | .ok x m'=>∀g' v H',Rs K g' m' H'->Stp g H g' H'->Rel g' H' x v->Q v H'
 | .exc c ks xs m'=>∀g' cls d H',Rs K g' m' H'->Stp g H g' H'->ExR K g' c ks xs cls d->E cls d H'
 | .stuck=>False
abbrev eZ(K:Ki)(E:XK):G->Hp->R OV->VK->Prop:=dG K E (RO K)
abbrev V3(K:Ki)(E:XK):G->Hp->R Bool->(Bool->Hp->Prop)->Prop:=dG K E λ_ _ x v=>x=v
abbrev aaT(K:Ki)(E:XK):G->Hp->R (List OV)->(List V->Hp->Prop)->Prop:=dG K E λg H=>Paired (RO K g H)
def dJ(K:Ki)(E:XK)(g:G)(H:Hp)(r:R MO)(Q:VK):Prop:=match r with
 | .ok o m'=>∀g' p H',Rs K g' m' H'->Stp g H g' H'->H p=none->g'.F p=none->(∀n,g'.r n≠some p)->gK K g' o H' p->Q (.ref p) H'
 | .exc c ks xs m'=>∀g' cls d H',Rs K g' m' H'->Stp g H g' H'->ExR K g' c ks xs cls d->E cls d H'
 | .stuck=>False
def tE(K:Ki)(W:WX)(f:Sl->Mem->R OV):TE:=fun σ H Q=>∃g s m,Rs K g m H/\RSl K g s σ H/\eZ K (WE W σ) g H (f s m) Q
def tF(K:Ki)(W:WX)(f:Sl->Mem->R MO):TE:=fun σ H Q=>∃g s m,Rs K g m H/\RSl K g s σ H/\dJ K (WE W σ) g H (f s m) Q
def tT(K:Ki)(W:WX)(f:Sl->Mem->R Bool):TT:=fun σ H Q=>∃g s m,Rs K g m H/\RSl K g s σ H/\V3 K (WE W σ) g H (f s m) Q
def tA(K:Ki)(W:WX)(f:Sl->Mem->R (List OV)):TA:=fun σ H Q=>∃g s m,Rs K g m H/\RSl K g s σ H/\aaT K (WE W σ) g H (f s m) Q
theorem _root_.L2.PE.weaken{X:Cx}{e:Expr}{t t':TE}(h:PE X e t)(w:∀σ H Q,t' σ H Q->t σ H Q):PE X e t':=⟨λpins s σ H Q I q=>h.run pins s σ H Q I (w σ H Q q)⟩
theorem _root_.L2.PT.weaken{X:Cx}{e:Expr}{t t':TT}(h:PT X e t)(w:∀σ H Q,t' σ H Q->t σ H Q):PT X e t':=⟨λpins s σ H Q I q=>h.run pins s σ H Q I (w σ H Q q)⟩
theorem _root_.L2.PW.weaken{X:Cx}{e:Expr}{t t':TT}(h:PW X e t)(w:∀σ H Q,t' σ H Q->t σ H Q):PW X e t':=⟨λwh pins s σ H Q I q=>h.run wh pins s σ H Q I (w σ H Q q)⟩
theorem _root_.L2.PA.weaken{X:Cx}{es:List Expr}{t t':TA}(h:PA X es t)(w:∀σ H Q,t' σ H Q->t σ H Q):PA X es t':=⟨λpos pins s σ H Q I q=>h.run pos pins s σ H Q I (w σ H Q q)⟩
theorem _root_.L2.PS.weaken{X:Cx}{e:Stmt}{t t':TS}(h:PS X e t)(w:∀D σ H,t' D σ H->t D σ H):PS X e t':=⟨λpins s σ H D I q=>h.run pins s σ H D I (w D σ H q)⟩
theorem _root_.L2.PSs.weaken{X:Cx}{e:List Stmt}{t t':TS}(h:PSs X e t)(w:∀D σ H,t' D σ H->t D σ H):PSs X e t':=⟨λpins s σ H D I q=>h.run pins s σ H D I (w D σ H q)⟩
theorem _root_.L2.OpR.weaken{X:Cx}{f:Value->Value->Sem Value}{r r':R2}(h:OpR X f r)(w:∀x y H Q,r' x y H Q->r x y H Q):OpR X f r':=λpins s σ H x y v u Q I rx ry q=>h pins s σ H x y v u Q I rx ry (w x y H Q q)
section
variable{α β γ δ:Type}{K:Ki}{g g':G}{H H':Hp}{R1:G->Hp->α->β->Prop}{R2:G->Hp->γ->δ->Prop}
theorem dG.shift{r:R α}{Q:β->Hp->Prop}(t:Stp g H g' H')(h:dG K E R1 g H r Q):dG K E R1 g' H' r Q:=by
 cases r with
 | ok x m'=>exact λg2 v H2 a b c=>h g2 v H2 a (t.trans b) c
 | exc c ks xs m'=>exact λg2 cls d H2 a b e=>h g2 cls d H2 a (t.trans b) e
 | stuck=>exact h
theorem dJ.shift{r:R MO}{Q:VK}(t:Stp g H g' H')(h:dJ K E g H r Q):dJ K E g' H' r Q:=by
 cases r with
 | ok x m' =>
  refine λg2 p H2 a b c d e f=>h g2 p H2 a (t.trans b) ?_ d e f
  cases q:H p with
  | none=>rfl
  | some o=>exact absurd c (t.dom p (by rw[q];simp))
 | exc c ks xs m'=>exact λg2 cls d H2 a b e=>h g2 cls d H2 a (t.trans b) e
 | stuck=>exact h
theorem dG.bind{r:R α}{k:α->Mem->R γ}{Q:δ->Hp->Prop}(h:dG K E R2 g H (r.bind k) Q):dG K E R1 g H r λv H1=>∃x g1 m1,Rs K g1 m1 H1/\Stp g H g1 H1/\R1 g1 H1 x v/\dG K E R2 g1 H1 (k x m1) Q:=by
 cases r with
 | ok x m'=>exact λg1 v H1 a b c=>⟨x,g1,m',a,b,c,dG.shift b h⟩
 | _=>exact h
theorem dJ.bind{r:R α}{k:α->Mem->R MO}{Q:VK}(h:dJ K E g H (r.bind k) Q):dG K E R1 g H r λv H1=>∃x g1 m1,Rs K g1 m1 H1/\Stp g H g1 H1/\R1 g1 H1 x v/\dJ K E g1 H1 (k x m1) Q:=by
 cases r with
 | ok x m'=>exact λg1 v H1 a b c=>⟨x,g1,m',a,b,c,dJ.shift b h⟩
 | _=>exact h
end
end Rc
namespace Rc
open PySem PySem.Spec L2 SeqAt
open PyProof.Rows hiding St
mutual
def nd:PyData->Bool
 | .none=>true
 | .bool _=>true
 | .int _=>true
 | .str _=>true
 | .list xs=>nds xs
 | .tuple xs=>nds xs
 | .dict _=>false
def nds:List PyData->Bool
 | []=>true
 | x::xs=>nd x&&nds xs
end
theorem eU{x:PyData}{xs:List PyData}(h:nds (x::xs)=true):nd x=true/\nds xs=true:=by
 unfold nds at h
 exact qQr.mp h
section
variable{h:Heap}
mutual
theorem Gv:∀(d e:PyData) {u:Value}{as bs:List Addr},nd d=true->Reads h u d as->Reads h u e bs->d=e
 | .none,e,_,_,_,_,p,q=>by cases p;cases q;rfl
 | .bool _,e,_,_,_,_,p,q=>by cases p;cases q;rfl
 | .int _,e,_,_,_,_,p,q=>by cases p;cases q;rfl
 | .str _,e,_,_,_,_,p,q=>by cases p;cases q;rfl
 | .list xs,e,_,_,_,n,p,q=>by
  cases p with
  | list p1 p2 p3 p4 =>
   cases q with
   | list q1 q2 q3 q4 =>
    rw[p1] at q1;cases q1;rw[p3] at q3;cases q3
    rw[oH xs _ (by unfold nd at n;exact n) p4 q4]
   | tuple q1 q2 _ _=>rw[p1] at q1;cases q1;rw[p2] at q2;injection q2 with z;exact absurd z (by decide)
   | dict q1 q2 _ _ _=>rw[p1] at q1;cases q1;rw[p2] at q2;injection q2 with z;exact absurd z (by decide)
 | .tuple xs,e,_,_,_,n,p,q=>by
  cases p with
  | tuple p1 p2 p3 p4 =>
   cases q with
   | tuple q1 q2 q3 q4 =>
    rw[p1] at q1;cases q1;rw[p3] at q3;cases q3
    rw[oH xs _ (by unfold nd at n;exact n) p4 q4]
   | list q1 q2 _ _=>rw[p1] at q1;cases q1;rw[p2] at q2;injection q2 with z;exact absurd z (by decide)
   | dict q1 q2 _ _ _=>rw[p1] at q1;cases q1;rw[p2] at q2;injection q2 with z;exact absurd z (by decide)
 | .dict _,_,_,_,_,n,_,_=>by cases n
theorem oH:∀(ds es:List PyData) {us:List Value}{as bs:List Addr},nds ds=true->ReadsAll h us ds as->ReadsAll h us es bs->ds=es
 | [],es,_,_,_,_,p,q=>by cases p;cases q;rfl
 | d::ds,es,_,_,_,n,p,q=>by
  cases p with
  | cons p1 p2 =>
   cases q with
   | cons q1 q2=>rw[Gv d _ (eU n).1 p1 q1,oH ds _ (eU n).2 p2 q2]
end
mutual
theorem JT:∀d:PyData,nd d=true->PyData.eqv d d=true
 | .none,_=>rfl
 | .bool _,_=>by unfold PyData.eqv;exact beq_self_eq_true _
 | .int _,_=>by unfold PyData.eqv;exact beq_self_eq_true _
 | .str _,_=>by unfold PyData.eqv;exact beq_self_eq_true _
 | .list xs,n=>by unfold PyData.eqv;exact kY xs (by unfold nd at n;exact n)
 | .tuple xs,n=>by unfold PyData.eqv;exact kY xs (by unfold nd at n;exact n)
 | .dict _,n=>by cases n
theorem kY:∀ds:List PyData,nds ds=true->PyData.eqvAll ds ds=true
 | [],_=>by unfold PyData.eqvAll;rfl
 | d::ds,n=>by unfold PyData.eqvAll;rw[JT d (eU n).1,kY ds (eU n).2];rfl
end
end
def JV:PyData->Bool
 | .list _=>false
 | .tuple _=>false
 | .dict _=>false
 | _=>true
section
variable{s:Shared}{A:Around}
theorem Rv{d e:PyData}{u v:Value}{as bs:List Addr}(p:Reads s.heap u d as)(q:Reads s.heap v e bs)(hd:JV d=true)(he:JV e=true):EqAt A s u v (PyData.eqv d e):=by
 cases p with
 | none =>
  cases q with
  | none=>exact EqAt.same _
  | bool b=>exact EqAt.none_bool b
  | int b u=>exact EqAt.none_int b u
  | str b u=>exact EqAt.none_str b u
  | list=>cases he
  | tuple=>cases he
  | dict=>cases he
 | bool a =>
  cases q with
  | none=>exact EqAt.bool_none a
  | bool b=>exact EqAt.bool_bool a b
  | int b u=>exact EqAt.bool_int a b u
  | str b u=>exact EqAt.bool_str a b u
  | list=>cases he
  | tuple=>cases he
  | dict=>cases he
 | int a t =>
  cases q with
  | none=>exact EqAt.int_none a t
  | bool b=>exact EqAt.int_bool a t b
  | int b u=>exact EqAt.int_int a t b u
  | str b u=>exact EqAt.int_str a t b u
  | list=>cases he
  | tuple=>cases he
  | dict=>cases he
 | str a t =>
  cases q with
  | none=>exact EqAt.str_none a t
  | bool b=>exact EqAt.str_bool a t b
  | int b u=>exact EqAt.str_int a t b u
  | str b u=>exact EqAt.str_str a t b u
  | list=>cases he
  | tuple=>cases he
  | dict=>cases he
 | list=>cases hd
 | tuple=>cases hd
 | dict=>cases hd
theorem Bf{d:PyData}{u:Value}{as:List Addr}{l:Addr}{vs:Array Value}(p:Reads s.heap u d as)(hl:s.heap.IsList l vs)(hu:A.units<cLine)(hd:JV d=true):EqAt A s u (.ref l) false/\EqAt A s (.ref l) u false:=by
 cases p with
 | none=>exact⟨EqAt.none_list  hl hu,EqAt.list_none  hl hu⟩
 | bool a=>exact⟨EqAt.bool_list a hl hu,EqAt.list_bool a hl hu⟩
 | int a t=>exact⟨EqAt.int_list a t hl hu,EqAt.list_int a t hl hu⟩
 | str a t=>exact⟨EqAt.str_list a t hl hu,EqAt.list_str a t hl hu⟩
 | list=>cases hd
 | tuple=>cases hd
 | dict=>cases hd
theorem Ey{d:PyData}{u:Value}{as:List Addr}{l:Addr}{vs:Array Value}(p:Reads s.heap u d as)(hl:s.heap.IsTuple l vs)(hu:A.units<cLine)(hd:JV d=true):EqAt A s u (.ref l) false/\EqAt A s (.ref l) u false:=by
 cases p with
 | none=>exact⟨EqAt.none_tuple  hl hu,EqAt.tuple_none  hl hu⟩
 | bool a=>exact⟨EqAt.bool_tuple a hl hu,EqAt.tuple_bool a hl hu⟩
 | int a t=>exact⟨EqAt.int_tuple a t hl hu,EqAt.tuple_int a t hl hu⟩
 | str a t=>exact⟨EqAt.str_tuple a t hl hu,EqAt.tuple_str a t hl hu⟩
 | list=>cases hd
 | tuple=>cases hd
 | dict=>cases hd
theorem Am{d:PyData}{xs:List PyData}(h:JV d=true):PyData.eqv d (.list xs)=false/\PyData.eqv (.list xs) d=false/\PyData.eqv d (.tuple xs)=false/\PyData.eqv (.tuple xs) d=false:=by
 cases d <;> first|(cases h;done)|exact⟨rfl,rfl,rfl,rfl⟩
theorem rdl{vs:List Value}{ds:List PyData}{as:List Addr}(p:ReadsAll s.heap vs ds as):vs.length=ds.length:=ReadsAll.length _ _ _ p
mutual
theorem abr:∀(d e:PyData) {A:Around}{u v:Value}{as bs:List Addr},Reads s.heap u d as->Reads s.heap v e bs->nd d=true->nd e=true->A.units+min d.depth e.depth<cLine->EqAt A s u v (PyData.eqv d e)
 | .list xs,e,A,u,v,as,bs,p,q,n1,n2,hu=>by
  have hu0:A.units<cLine:=by omega
  by_cases he:JV e=true
  ·cases p with
   | list p1 p2 p3 p4 =>
    rw[(Am he).2.1]
    exact (Bf q ⟨_,p1,p2,_,p3⟩ hu0 he).2
  ·cases e <;> first|(exact absurd rfl he)|(cases n2;done)|skip
   case list ys =>
    cases p with
    | @list l _ vs _ _ _ p1 p2 p3 p4 =>
     cases q with
     | @list l' _ ws _ _ _ q1 q2 q3 q4 =>
      unfold nd at n1 n2
      have e1:=rdl p4
      have e2:=rdl q4
      simp only[Array.length_toList] at e1 e2
      unfold PyData.eqv
      by_cases hll:l=l'
      ·subst hll
       rw[p1] at q1;cases q1;rw[p3] at q3;cases q3
       cases oH xs ys n1 p4 q4
       rw[kY xs n1]
       exact EqAt.same _
      ·by_cases hz:vs.size=ws.size
       ·rw[<- eqvAll_same_length (show xs.length=ys.length by omega),<- e1]
        refine EqAt.of_refs hll (RcAt.lists ⟨_,p1,p2,_,p3⟩ ⟨_,q1,q2,_,q3⟩ hz hu0 λj j1 j2=>?_)
        have z:=zg xs ys (A:=A.in1) p4 q4 n1 n2 (by simp only[PyData.depth] at hu;show A.units+1+_<_;omega) j (by simpa using j1) (by simpa using j2)
        simpa using z
       ·rw[eqvAll_other_length (show xs.length≠ys.length by omega)]
        exact EqAt.of_refs hll (RcAt.lists_lengths ⟨_,p1,p2,_,p3⟩ ⟨_,q1,q2,_,q3⟩ (by simpa using hz) hu0)
   case tuple ys =>
    cases p with
    | list p1 p2 p3 p4 =>
     cases q with
     | tuple q1 q2 q3 q4=>exact EqAt.list_tuple ⟨_,p1,p2,_,p3⟩ ⟨_,q1,q2,_,q3⟩ hu0
 | .tuple xs,e,A,u,v,as,bs,p,q,n1,n2,hu=>by
  have hu0:A.units<cLine:=by omega
  by_cases he:JV e=true
  ·cases p with
   | tuple p1 p2 p3 p4 =>
    rw[(Am he).2.2.2]
    exact (Ey q ⟨_,p1,p2,_,p3⟩ hu0 he).2
  ·cases e <;> first|(exact absurd rfl he)|(cases n2;done)|skip
   case list ys =>
    cases p with
    | tuple p1 p2 p3 p4 =>
     cases q with
     | list q1 q2 q3 q4=>exact EqAt.tuple_list ⟨_,p1,p2,_,p3⟩ ⟨_,q1,q2,_,q3⟩ hu0
   case tuple ys =>
    cases p with
    | @tuple l _ vs _ _ _ p1 p2 p3 p4 =>
     cases q with
     | @tuple l' _ ws _ _ _ q1 q2 q3 q4 =>
      unfold nd at n1 n2
      have e1:=rdl p4
      have e2:=rdl q4
      simp only[Array.length_toList] at e1 e2
      unfold PyData.eqv
      by_cases hll:l=l'
      ·subst hll
       rw[p1] at q1;cases q1;rw[p3] at q3;cases q3
       cases oH xs ys n1 p4 q4
       rw[kY xs n1]
       exact EqAt.same _
      ·rw[<- eqvAll_eq,<- e1,<- e2]
       refine EqAt.of_refs hll (RcAt.tuples ⟨_,p1,p2,_,p3⟩ ⟨_,q1,q2,_,q3⟩ hu0 λj j1 j2=>?_)
       have z:=zg xs ys (A:=A.in1) p4 q4 n1 n2 (by simp only[PyData.depth] at hu;show A.units+1+_<_;omega) j (by simpa using j1) (by simpa using j2)
       simpa using z
 | .dict _,_,_,_,_,_,_,_,_,n,_,_=>by cases n
 | .none,e,A,u,v,as,bs,p,q,n1,n2,hu=>KH rfl p q n2 (by omega)
 | .bool _,e,A,u,v,as,bs,p,q,n1,n2,hu=>KH rfl p q n2 (by omega)
 | .int _,e,A,u,v,as,bs,p,q,n1,n2,hu=>KH rfl p q n2 (by omega)
 | .str _,e,A,u,v,as,bs,p,q,n1,n2,hu=>KH rfl p q n2 (by omega)
theorem KH{d e:PyData}{A:Around}{u v:Value}{as bs:List Addr}(hd:JV d=true)(p:Reads s.heap u d as)(q:Reads s.heap v e bs)(n2:nd e=true)(hu:A.units<cLine):EqAt A s u v (PyData.eqv d e):=by
 by_cases he:JV e=true
 ·exact Rv p q hd he
 ·cases e <;> first|(exact absurd rfl he)|(cases n2;done)|skip
  case list ys =>
   rw[(Am hd).1]
   cases q with
   | list q1 q2 q3 q4=>exact (Bf p ⟨_,q1,q2,_,q3⟩ hu hd).1
  case tuple ys =>
   rw[(Am hd).2.2.1]
   cases q with
   | tuple q1 q2 q3 q4=>exact (Ey p ⟨_,q1,q2,_,q3⟩ hu hd).1
theorem zg:∀(xs ys:List PyData) {A:Around}{vs ws:List Value}{as bs:List Addr},ReadsAll s.heap vs xs as->ReadsAll s.heap ws ys bs->nds xs=true->nds ys=true ->
  A.units+min (PyData.depthAll xs) (PyData.depthAll ys)<cLine->∀j (h1:j<vs.length) (h2:j<ws.length),EqAt A s vs[j] ws[j] (pairEq xs ys j)
 | [],_,_,_,_,_,_,p,_,_,_,_,j,h1,_=>by cases p;exact absurd h1 (Nat.not_lt_zero _)
 | _::_,[],_,_,_,_,_,_,q,_,_,_,j,_,h2=>by cases q;exact absurd h2 (Nat.not_lt_zero _)
 | x::xs,y::ys,A,_,_,_,_,p,q,n1,n2,hu,j,h1,h2=>by
  simp only[PyData.depthAll] at hu
  cases p with
  | cons p1 p2 =>
   cases q with
   | cons q1 q2 =>
    cases j with
    | zero=>exact abr x y p1 q1 (eU n1).1 (eU n2).1 (by omega)
    | succ j=>exact zg xs ys p2 q2 (eU n1).2 (eU n2).2 (by omega) j (by simpa using h1) (by simpa using h2)
end
end
end Rc
namespace Rc
open PySem PySem.Spec PyProof.Rows L2
theorem Cz(l:Addr)(items:Array Value)(n:Nat)(dd:Option Addr)(sl:Array (Option Value))(u:Tok):
  Meets (Builtin.«tuple.__mul__» ⟨[.ref l,.int 1 u],[]⟩) (λ_ R s=>s.heap.get? l=some { cls:=.type "tuple",dict:=dd,data:=.seq items n,slots:=sl }/\R (.ok (.ret (Value.ref l))) s) :=
 .of_wp λprog w A R s h=>by
  obtain⟨hp,g,d,tk,os⟩:=s
  obtain⟨hl,h⟩:=h
  have f1:=AutoSeq1.idx_int
  have c0:(decide ((1:Int) < -(2 ^ 63)) || decide ((1:Int) ≥ 2 ^ 63))=false:=by decide
  have c1:(items.isEmpty || (1:Int) == 1)=true:=by simp
  wp_walk using wpAny_loadPart' hl
  repeat (first
   | (refine wpAny_ite_false (decide_eq_false (by rw[c0];exact Bool.false_ne_true)) ?_;wp_walk using wpAny_loadPart' hl)
   | (refine wpAny_ite_true (decide_eq_true (by rw[c1])) ?_;wp_walk using wpAny_loadPart' hl))
  exact⟨_,rfl,h⟩
theorem CJ(l:Addr)(items:Array Value)(n:Nat)(dd:Option Addr)(sl:Array (Option Value))(x:Int)(u:Tok)(c0:(decide (x < -(2 ^ 63)) || decide (x ≥ 2 ^ 63))=false)(c1:(items.isEmpty || x == 1)=false)(c2:(decide (x<=0) || items.isEmpty)=true):
  Meets (Builtin.«tuple.__mul__» ⟨[.ref l,.int x u],[]⟩) (λ_ R s=>s.heap.get? l=some { cls:=.type "tuple",dict:=dd,data:=.seq items n,slots:=sl } /\
   R (.ok (.ret (Value.ref s.heap.objs.size))) { s with heap:=s.heap.push { cls:=Value.type "tuple",data:=Data.seq #[] },toks:=s.toks }) :=
 .of_wp λprog w A R s h=>by
  obtain⟨hp,g,d,tk,os⟩:=s
  obtain⟨hl,h⟩:=h
  have f1:=AutoSeq1.idx_int
  wp_walk using wpAny_loadPart' hl
  repeat (first
   | (refine wpAny_ite_false (decide_eq_false (by rw[c0];exact Bool.false_ne_true)) ?_;wp_walk using wpAny_loadPart' hl)
   | (refine wpAny_ite_false (decide_eq_false (by rw[c1];exact Bool.false_ne_true)) ?_;wp_walk using wpAny_loadPart' hl)
   | (refine wpAny_ite_true (decide_eq_true (by rw[c2])) ?_;wp_walk using wpAny_loadPart' hl))
  exact⟨_,rfl,h⟩
def SQ(K:PySem.W.Frag):R2:=λx y H Q=>∃l k xs,x=.ref l/\y=.int k/\SqT K H l xs/\xs≠[]/\-1000<=k/\k<=1/\(k=1->Q (.ref l) H)/\(k<=0->∀p,H p=none->Q (.ref p) (upd H p (.tup [])))
section
variable{X:Cx}
theorem LC:OpR X (binaryOp .Mult) (SQ X.K):=by
 intro pins s σ H x y v u Q I rx ry h
 obtain⟨l,k,xs,rfl,rfl,hT,hne,h1,h2,q1,q0⟩:=h
 cases rx
 obtain⟨t,rfl⟩:=ry
 obtain⟨its,r,⟨⟨cls,dd,data,sl⟩,ho,hc,n,hd⟩,hs⟩:=I.tuple hT
 simp only at hc hd
 subst hc hd
 have hle:its.length=xs.length:=r.length.symm
 have hn:its≠[]:=λe=>hne (by
  rw[e] at hle
  exact List.eq_nil_of_length_eq_zero hle.symm)
 have hi:its.toArray.isEmpty=false:=by
  cases its with
  | nil=>exact absurd rfl hn
  | cons a b=>rfl
 by_cases c:k=1
 ·subst c
  exact wpAny_binaryOp_repeat_ref (T:="tuple") (U:="int") (by decide) ⟨_,ho,rfl⟩ (λs'=>typeIs_int s' 1 t) noFill_tuple_mul F.fills_int_mul F.slot_int_rmul repeat_tuple F.slot_int_index.lookup
   (call_meets F.slot_int_rmul (typeIs_int s 1 t) F.entry_int_rmul (F.args_int_rmul_2 _ _) (int_rmul_tuple 1 t l its.toArray n dd sl)
    ⟨ho,rfl,⟨_,ho,rfl⟩,call_meets F.slot_tuple_mul ⟨_,ho,rfl⟩ F.entry_tuple_mul (F.args_tuple_mul_2 _ _) (Cz l its.toArray n dd sl t) ⟨ho,.ref l,H,I,rfl,q1 rfl⟩⟩)
 ·have k0:k<=0:=by omega
  have c0:(decide (k < -(2 ^ 63)) || decide (k ≥ 2 ^ 63))=false:=by
   rw[decide_eq_false (by omega),decide_eq_false (by omega)] <;> rfl
  have c1:(its.toArray.isEmpty || k == 1)=false:=by
   rw[hi,Bool.false_or]
   exact beq_eq_false_iff_ne.mpr (by omega)
  have c2:(decide (k<=0) || its.toArray.isEmpty)=true:=by
   rw[decide_eq_true k0];rfl
  refine wpAny_binaryOp_repeat_ref (T:="tuple") (U:="int") (by decide) ⟨_,ho,rfl⟩ (λs'=>typeIs_int s' k t) noFill_tuple_mul F.fills_int_mul F.slot_int_rmul repeat_tuple F.slot_int_index.lookup
   (call_meets F.slot_int_rmul (typeIs_int s k t) F.entry_int_rmul (F.args_int_rmul_2 _ _) (int_rmul_tuple k t l its.toArray n dd sl)
    ⟨ho,rfl,⟨_,ho,rfl⟩,call_meets F.slot_tuple_mul ⟨_,ho,rfl⟩ F.entry_tuple_mul (F.args_tuple_mul_2 _ _) (CJ l its.toArray n dd sl k t c0 c1 c2) ⟨ho,?_⟩⟩)
  refine⟨.ref s.heap.objs.size,_,I.laid (t':=s.toks) (o:=.tup []) (λb ob q=>qQu _ q) (Nat.le_refl _) ?_,rfl,q0 k0 _ (I.hok.fresh (Nat.le_refl _))⟩
  exact⟨by rw[sizeLine_eq];decide,[],.nil,IsTup.new _ _⟩
end
end Rc
namespace Rc
open PySem PySem.Spec L2
open PyProof.Rows hiding St
abbrev _root_.L2.Cx.ki(X:Cx):Ki:=⟨X.K,X.prog,X.w⟩
inductive Sq where
 | l (xs:List MV)
 | t (xs:List MV)
 | s (x:Str)
def rB(m:Mem)(n:Nat):Option (List MV):=match m[n]? with
 | some (some (.lst xs))=>some xs
 | _=>none
theorem rR{m:Mem}{n:Nat}{xs:List MV}(h:rB m n=some xs):m[n]? = some (some (.lst xs)):=by
 unfold rB at h
 split at h
 ·cases h;assumption
 ·cases h
def pF(m:Mem):OV->Option Sq
 | .v (.lst xs)=>some (.l xs)
 | .v (.kl xs)=>some (.l xs)
 | .v (.tup xs)=>some (.t xs)
 | .v (.str x)=>some (.s x)
 | .v (.ref n)=>(rB m n).map Sq.l
 | .b (.lst xs)=>some (.l xs)
 | _=>none
def SqR(K:Ki)(g:G)(H:Hp)(c:Sq)(v:V):Prop:=match c with
 | .l xs=>∃a ys,v=.ref a/\SqL K H a ys/\RVs K g xs ys
 | .t xs=>∃a ys,v=.ref a/\SqT K H a ys/\RVs K g xs ys
 | .s z=>v=.str z
section
variable{K:Ki}{g g':G}{H H':Hp}{m:Mem}
theorem cY{x:OV}{v:V}{c:Sq}(rs:Rs K g m H)(r:RO K g H x v)(e:pF m x=some c):SqR K g H c v:=by
 cases x with
 | b o =>
  cases o with
  | lst xs =>
   cases e
   obtain⟨a,rfl,⟨ys,q,rv⟩,_⟩:=r
   exact⟨a,ys,rfl,.of q,rv⟩
  | _=>cases e
 | v x =>
  cases x with
  | lst xs =>
   cases e
   obtain⟨a,ys,rfl,q,rv⟩:=r
   exact⟨a,ys,rfl,.of (rs.sub _ _ q),rv⟩
  | kl xs =>
   cases e
   obtain⟨a,ys,rfl,q,rv⟩:=r
   exact⟨a,ys,rfl,SqL.ie rs.sub q,rv⟩
  | tup xs =>
   cases e
   obtain⟨a,ys,rfl,q,rv⟩:=r
   exact⟨a,ys,rfl,SqT.ie rs.sub q,rv⟩
  | str x=>cases e;exact r
  | ref n =>
   obtain⟨a,rfl,q⟩:=r
   obtain⟨xs,h,rfl⟩:=qQi.mp (show (rB m n).map Sq.l=some c from e)
   obtain⟨b,q1,_,ys,q2,rv⟩:=rs.gr n _ (rR h)
   rw[q] at q1;cases q1
   exact⟨a,ys,rfl,.of q2,rv⟩
  | _=>cases e
def Vz(m:Mem):OV->Option (List MV)
 | .v (.lst xs)=>some xs
 | .v (.ref n)=>rB m n
 | .b (.lst xs)=>some xs
 | _=>none
theorem zV{x:OV}{v:V}{xs:List MV}(rs:Rs K g m H)(r:RO K g H x v)(e:Vz m x=some xs):∃a ys,v=.ref a/\H a=some (.lst ys)/\RVs K g xs ys:=by
 cases x with
 | b o =>
  cases o with
  | lst xs =>
   cases e
   obtain⟨a,rfl,⟨ys,q,rv⟩,_⟩:=r
   exact⟨a,ys,rfl,q,rv⟩
  | _=>cases e
 | v x =>
  cases x with
  | lst xs =>
   cases e
   obtain⟨a,ys,rfl,q,rv⟩:=r
   exact⟨a,ys,rfl,rs.sub _ _ q,rv⟩
  | ref n =>
   obtain⟨a,rfl,q⟩:=r
   obtain⟨b,q1,_,ys,q2,rv⟩:=rs.gr n _ (rR (show rB m n=some xs from e))
   rw[q] at q1;cases q1
   exact⟨a,ys,rfl,q2,rv⟩
  | _=>cases e
end
def t2(K:Ki)(f:OV->OV->Mem->R OV):R2:=λx y H Q=>∃E g m a b,Rs K g m H/\RO K g H a x/\RO K g H b y/\eZ K E g H (f a b m) Q
def t1(K:Ki)(f:OV->Mem->R OV):V->Hp->VK->Prop:=λx H Q=>∃E g m a,Rs K g m H/\RO K g H a x/\eZ K E g H (f a m) Q
section
variable{K:Ki}{g:G}{H:Hp}{m:Mem}{Q:VK}
theorem bJ{x:MV}{v:V}(rs:Rs K g m H)(p:eZ K E g H (.ok (.v x) m) Q)(r:RV K g x v):Q v H:=p g v H rs (Stp.refl _ _) r
theorem wg{xs:List MV}{ys:List V}(rs:Rs K g m H)(p:eZ K E g H (.ok (.v (.lst xs)) m) Q)(r:RVs K g xs ys):∀a,H a=none->Q (.ref a) (upd H a (.lst ys)):=λa ha=>by
 obtain⟨r1,st⟩:=rs.freeze (o:=.lst ys) ha
 exact p _ _ _ r1 st ⟨a,ys,rfl,upd_same,r.st st⟩
theorem oV{xs:List MV}{ys:List V}(rs:Rs K g m H)(p:eZ K E g H (.ok (.v (.tup xs)) m) Q)(r:RVs K g xs ys):∀a,H a=none->Q (.ref a) (upd H a (.tup ys)):=λa ha=>by
 obtain⟨r1,st⟩:=rs.freeze (o:=.tup ys) ha
 exact p _ _ _ r1 st ⟨a,ys,rfl,.of upd_same,r.st st⟩
end
def Ny:OV->OV->Mem->R OV:=λa b m=>match a,b with
 | .v (.int i),.v (.int j)=>.ok (.v (.int (i+j))) m
 | .v (.str x),.v (.str y)=>if x.length+y.length<=sizeLine then .ok (.v (.str (x++y))) m else .stuck
 | .v (.tup xs),.v (.tup ys)=>if xs.length+ys.length<=sizeLine then .ok (.v (.tup (xs++ys))) m else .stuck
 | a,b=>match Vz m a,Vz m b with
  | some xs,some ys=>if xs.length+ys.length<=sizeLine then .ok (.v (.lst (xs++ys))) m else .stuck
  | _,_=>.stuck
def V4:OV->OV->Mem->R OV:=λa b m=>match a,b with
 | .v (.int i),.v (.int j)=>.ok (.v (.int (i - j))) m
 | _,_=>.stuck
def Ry:OV->OV->Mem->R OV:=λa b m=>match a,b with
 | .v (.int i),.v (.int j)=>if (-(2 ^ 64)<i/\i<2 ^ 64)\/(-(2 ^ 64)<j/\j<2 ^ 64) then .ok (.v (.int (i * j))) m else .stuck
 | .v (.tup xs),.v (.int k)=>if -1000<=k/\k<=1000/\xs.length<=1000/\xs≠[] then .ok (.v (.tup (List.replicate k.toNat xs).flatten)) m else .stuck
 | a,.v (.int k)=>match Vz m a with
  | some xs=>if -(2 ^ 63)<=k/\k<2 ^ 63/\xs.length * k.toNat<=sizeLine then .ok (.v (.lst (List.replicate k.toNat xs).flatten)) m else .stuck
  | none=>.stuck
 | _,_=>.stuck
def Do:OV->OV->Mem->R OV:=λa b m=>match a,b with
 | .v (.int i),.v (.int j)=>if 0<j/\j.natAbs.log2<9000 then .ok (.v (.int (i / j))) m else .stuck
 | _,_=>.stuck
def Va:OV->OV->Mem->R OV:=λa b m=>match a,b with
 | .v (.int i),.v (.int j)=>if 0<j then .ok (.v (.int (i % j))) m else .stuck
 | _,_=>.stuck
def Ux:OV->OV->Mem->R OV:=λa b m=>match a,b with
 | .v (.int i),.v (.int j)=>if 0<=j/\j<=1000000/\i.natAbs<2 ^ 64 then .ok (.v (.int (i ^ j.toNat))) m else .stuck
 | _,_=>.stuck
def Ss:OV->Mem->R OV:=λa m=>match a with
 | .v (.int i)=>.ok (.v (.int (-i))) m
 | _=>.stuck
section
variable{K:Ki}{g:G}{H:Hp}{m:Mem}{Q:VK}
theorem vC{xs:List MV}{a:Addr}{ys:List V}(rs:Rs K g m H)(p:eZ K E g H (.ok (.v (.tup xs)) m) Q)(r:RVs K g xs ys)(q:SqT K g.F a ys):Q (.ref a) H:=p g (.ref a) H rs (Stp.refl _ _) ⟨a,ys,rfl,q,r⟩
theorem RVs.nil_iff:∀{xs:List MV}{vs:List V},RVs K g xs vs->(vs=[]↔xs=[])
 | [],_,h=>by cases (show _=[] from h);simp
 | x::xs,_,⟨v,r,e,_,_⟩=>by subst e;simp
theorem RVs.rep{xs:List MV}{vs:List V}(h:RVs K g xs vs):∀n:Nat,RVs K g (List.replicate n xs).flatten (List.replicate n vs).flatten
 | 0=>rfl
 | n+1=>by
  rw[List.replicate_succ,List.replicate_succ,List.flatten_cons,List.flatten_cons]
  exact h.append (RVs.rep h n)
end
section
variable{X:Cx}
theorem Oz:OpR X (binaryOp .Add) (t2 X.ki Ny):=by
 refine (((op_add.or op_add_str).or op_cat).or op_catA).weaken ?_
 rintro x y H Q ⟨E,g,m,a,b,rs,ra,rb,p⟩
 unfold Ny at p
 split at p
 ·cases ra;cases rb
  exact .inl (.inl (.inl ⟨_,_,rfl,rfl,bJ rs p rfl⟩))
 ·cases ra;cases rb
  split at p
  ·exact .inl (.inl (.inr ⟨_,_,rfl,rfl,by assumption,bJ rs p rfl⟩))
  ·exact p.elim
 ·rename_i xs ys
  obtain⟨a1,v1,rfl,q1,r1⟩:=ra
  obtain⟨a2,v2,rfl,q2,r2⟩:=rb
  split at p
  ·refine .inr ⟨a1,a2,v1,v2,rfl,rfl,SqT.ie rs.sub q1,SqT.ie rs.sub q2,by rw[<- r1.length,<- r2.length];assumption,λz=>?_,λ_ z=>?_,λ_ _=>oV rs p (r1.append r2)⟩
   ·cases r1.nil_iff.mp z
    exact vC rs p r2 q2
   ·cases r2.nil_iff.mp z
    rw[qQy] at p
    exact vC rs p r1 q1
  ·exact p.elim
 ·split at p
  ·rename_i xs ys e1 e2
   split at p
   ·obtain⟨a1,v1,rfl,q1,r1⟩:=zV rs ra e1
    obtain⟨a2,v2,rfl,q2,r2⟩:=zV rs rb e2
    exact .inl (.inr ⟨a1,a2,v1,v2,rfl,rfl,q1,q2,by rw[<- r1.length,<- r2.length];assumption,wg rs p (r1.append r2)⟩)
   ·exact p.elim
  ·exact p.elim
theorem QL:OpR X (binaryOp .Sub) (t2 X.ki V4):=by
 refine op_sub.weaken ?_
 rintro x y H Q ⟨E,g,m,a,b,rs,ra,rb,p⟩
 unfold V4 at p
 split at p
 ·cases ra;cases rb;exact⟨_,_,rfl,rfl,bJ rs p rfl⟩
 ·exact p.elim
theorem Ph:OpR X (binaryOp .Mult) (t2 X.ki Ry):=by
 refine (((opI (C:=λi j=>(-(2 ^ 64)<i/\i<2 ^ 64)\/(-(2 ^ 64)<j/\j<2 ^ 64)) (g:=λi j=>i * j) λi j t u s Q E hc q=>?_).or op_rep).or (op_repT.or LC)).weaken ?_
 ·exact mul_int q (by
   rcases hc with⟨h1,h2⟩|⟨h1,h2⟩
   ·exact .of_left (intBits_le_64 h1 h2)
   ·exact .of_right (intBits_le_64 h1 h2))
 rintro x y H Q ⟨E,g,m,a,b,rs,ra,rb,p⟩
 unfold Ry at p
 split at p
 ·cases ra;cases rb
  split at p
  ·exact .inl (.inl ⟨_,_,rfl,rfl,by assumption,bJ rs p rfl⟩)
  ·exact p.elim
 ·rename_i xs k
  obtain⟨a1,v1,rfl,q1,r1⟩:=ra
  cases rb
  split at p
  ·rename_i hk
   obtain⟨h1,h2,h3,h4⟩:=hk
   have hn:v1≠[]:=λz=>h4 (r1.nil_iff.mp z)
   by_cases c:2<=k
   ·exact .inr (.inl ⟨a1,k,v1,rfl,rfl,SqT.ie rs.sub q1,hn,c,h2,by rw[<- r1.length];exact h3,oV rs p (r1.rep _)⟩)
   ·refine .inr (.inr ⟨a1,k,v1,rfl,rfl,SqT.ie rs.sub q1,hn,h1,by omega,λz=>?_,λz=>?_⟩)
    ·subst z
     rw[show (List.replicate (1:Int).toNat xs).flatten=xs from by simp] at p
     exact vC rs p r1 q1
    ·rw[show k.toNat=0 from by omega] at p
     exact oV rs p rfl
  ·exact p.elim
 ·rename_i k _ _
  split at p
  ·rename_i xs e1
   split at p
   ·rename_i hk
    obtain⟨h1,h2,h3⟩:=hk
    obtain⟨a1,v1,rfl,q1,r1⟩:=zV rs ra e1
    cases rb
    exact .inl (.inr ⟨a1,k,v1,rfl,rfl,q1,h1,h2,by rw[<- r1.length];exact h3,wg rs p (r1.rep _)⟩)
   ·exact p.elim
  ·exact p.elim
 ·exact p.elim
theorem KD:OpR X (binaryOp .FloorDiv) (t2 X.ki Do):=by
 refine op_fdivW.weaken ?_
 rintro x y H Q ⟨E,g,m,a,b,rs,ra,rb,p⟩
 unfold Do at p
 split at p
 ·cases ra;cases rb
  split at p
  ·exact⟨_,_,rfl,rfl,by assumption,bJ rs p rfl⟩
  ·exact p.elim
 ·exact p.elim
theorem Qy:OpR X (binaryOp .Mod) (t2 X.ki Va):=by
 refine op_mod.weaken ?_
 rintro x y H Q ⟨E,g,m,a,b,rs,ra,rb,p⟩
 unfold Va at p
 split at p
 ·cases ra;cases rb
  split at p
  ·exact⟨_,_,rfl,rfl,by assumption,bJ rs p rfl⟩
  ·exact p.elim
 ·exact p.elim
theorem Oe:OpR X (binaryOp .Pow) (t2 X.ki Ux):=by
 refine op_pow.weaken ?_
 rintro x y H Q ⟨E,g,m,a,b,rs,ra,rb,p⟩
 unfold Ux at p
 split at p
 ·cases ra;cases rb
  split at p
  ·exact⟨_,_,rfl,rfl,by assumption,bJ rs p rfl⟩
  ·exact p.elim
 ·exact p.elim
theorem _root_.L2.UnR.weaken{f:Value->Sem Value}{r r':V->Hp->VK->Prop}(h:UnR X f r)(w:∀x H Q,r' x H Q->r x H Q):UnR X f r':=λpins s σ H x v Q I rx q=>h pins s σ H x v Q I rx (w x H Q q)
theorem QT:UnR X (unaryOp .USub) (t1 X.ki Ss):=by
 refine un_neg.weaken ?_
 rintro x H Q ⟨E,g,m,a,rs,ra,p⟩
 unfold Ss at p
 split at p
 ·cases ra;exact⟨_,rfl,bJ rs p rfl⟩
 ·exact p.elim
end
end Rc
namespace Rc
open PySem PySem.Spec L2 SeqAt
open PyProof.Rows hiding St
section
variable{s:Shared}{A:Around}
theorem O8{d e:PyData}{u v:Value}{as bs:List Addr}(p:Reads s.heap u d as)(q:Reads s.heap v e bs)(n1:nd d=true)(n2:nd e=true)(hu:A.units+min d.depth e.depth<cLine):RcAt A s u v (PyData.eqv d e):=by
 have hu0:A.units<cLine:=by omega
 cases p with
 | none =>
  cases q with
  | none=>exact RcAt.none_none 
  | bool b=>exact RcAt.none_bool b
  | int b u=>exact RcAt.none_int b u
  | str b u=>exact RcAt.none_str b u
  | list q1 q2 q3 q4=>exact RcAt.none_list  ⟨_,q1,q2,_,q3⟩ hu0
  | tuple q1 q2 q3 q4=>exact RcAt.none_tuple  ⟨_,q1,q2,_,q3⟩ hu0
  | dict=>cases n2
 | bool a =>
  cases q with
  | none=>exact RcAt.bool_none a
  | bool b=>exact RcAt.bool_bool a b
  | int b u=>exact RcAt.bool_int a b u
  | str b u=>exact RcAt.bool_str a b u
  | list q1 q2 q3 q4=>exact RcAt.bool_list a ⟨_,q1,q2,_,q3⟩ hu0
  | tuple q1 q2 q3 q4=>exact RcAt.bool_tuple a ⟨_,q1,q2,_,q3⟩ hu0
  | dict=>cases n2
 | int a t =>
  cases q with
  | none=>exact RcAt.int_none a t
  | bool b=>exact RcAt.int_bool a t b
  | int b u=>exact RcAt.int_int a t b u
  | str b u=>exact RcAt.int_str a t b u
  | list q1 q2 q3 q4=>exact RcAt.int_list a t ⟨_,q1,q2,_,q3⟩ hu0
  | tuple q1 q2 q3 q4=>exact RcAt.int_tuple a t ⟨_,q1,q2,_,q3⟩ hu0
  | dict=>cases n2
 | str a t =>
  cases q with
  | none=>exact RcAt.str_none a t
  | bool b=>exact RcAt.str_bool a t b
  | int b u=>exact RcAt.str_int a t b u
  | str b u=>exact RcAt.str_str a t b u
  | list q1 q2 q3 q4=>exact RcAt.str_list a t ⟨_,q1,q2,_,q3⟩ hu0
  | tuple q1 q2 q3 q4=>exact RcAt.str_tuple a t ⟨_,q1,q2,_,q3⟩ hu0
  | dict=>cases n2
 | @list l _ vs _ xs _ p1 p2 p3 p4 =>
  have e1:=rdl p4
  simp only[Array.length_toList] at e1
  have L:s.heap.IsList l vs:=⟨_,p1,p2,_,p3⟩
  cases q with
  | none=>exact RcAt.list_none  L hu0
  | bool b=>exact RcAt.list_bool b L hu0
  | int b u=>exact RcAt.list_int b u L hu0
  | str b u=>exact RcAt.list_str b u L hu0
  | tuple q1 q2 q3 q4=>exact RcAt.list_tuple L ⟨_,q1,q2,_,q3⟩ hu0
  | dict=>cases n2
  | @list l' _ ws _ ys _ q1 q2 q3 q4 =>
   have e2:=rdl q4
   simp only[Array.length_toList] at e2
   have L':s.heap.IsList l' ws:=⟨_,q1,q2,_,q3⟩
   simp only[nd] at n1 n2
   have he:∀j (j1:j<vs.size) (j2:j<ws.size),EqAt A.in1 s vs[j] ws[j] (pairEq xs ys j):=λj j1 j2=>by
    have z:=zg xs ys (A:=A.in1) p4 q4 n1 n2 (by simp only[PyData.depth] at hu;show A.units+1+_<_;omega) j (by simpa using j1) (by simpa using j2)
    simpa using z
   unfold PyData.eqv
   by_cases hz:vs.size=ws.size
   ·rw[<- eqvAll_same_length (show xs.length=ys.length by omega),<- e1]
    exact RcAt.lists L L' hz hu0 he
   ·rw[eqvAll_other_length (show xs.length≠ys.length by omega)]
    exact RcAt.lists_lengths L L' (by simpa using hz) hu0
 | @tuple l _ vs _ xs _ p1 p2 p3 p4 =>
  have e1:=rdl p4
  simp only[Array.length_toList] at e1
  have L:s.heap.IsTuple l vs:=⟨_,p1,p2,_,p3⟩
  cases q with
  | none=>exact RcAt.tuple_none  L hu0
  | bool b=>exact RcAt.tuple_bool b L hu0
  | int b u=>exact RcAt.tuple_int b u L hu0
  | str b u=>exact RcAt.tuple_str b u L hu0
  | list q1 q2 q3 q4=>exact RcAt.tuple_list L ⟨_,q1,q2,_,q3⟩ hu0
  | dict=>cases n2
  | @tuple l' _ ws _ ys _ q1 q2 q3 q4 =>
   have e2:=rdl q4
   simp only[Array.length_toList] at e2
   have L':s.heap.IsTuple l' ws:=⟨_,q1,q2,_,q3⟩
   simp only[nd] at n1 n2
   have he:∀j (j1:j<vs.size) (j2:j<ws.size),EqAt A.in1 s vs[j] ws[j] (pairEq xs ys j):=λj j1 j2=>by
    have z:=zg xs ys (A:=A.in1) p4 q4 n1 n2 (by simp only[PyData.depth] at hu;show A.units+1+_<_;omega) j (by simpa using j1) (by simpa using j2)
    simpa using z
   unfold PyData.eqv
   rw[<- eqvAll_eq,<- e1,<- e2]
   exact RcAt.tuples L L' hu0 he
 | dict=>cases n1
theorem Hi{d e:PyData}{u v:Value}{as bs:List Addr}(p:Reads s.heap u d as)(q:Reads s.heap v e bs)(n1:nd d=true)(n2:nd e=true)(hu:A.units+min d.depth e.depth<cLine):RcNeAt A s u v (!PyData.eqv d e):=by
 have hu0:A.units<cLine:=by omega
 cases p with
 | none =>
  cases q with
  | none=>exact RcNeAt.none_none 
  | bool b=>exact RcNeAt.none_bool b
  | int b u=>exact RcNeAt.none_int b u
  | str b u=>exact RcNeAt.none_str b u
  | list q1 q2 q3 q4=>exact RcNeAt.none_list  ⟨_,q1,q2,_,q3⟩ hu0
  | tuple q1 q2 q3 q4=>exact RcNeAt.none_tuple  ⟨_,q1,q2,_,q3⟩ hu0
  | dict=>cases n2
 | bool a =>
  cases q with
  | none=>exact RcNeAt.bool_none a
  | bool b=>exact RcNeAt.bool_bool a b
  | int b u=>exact RcNeAt.bool_int a b u
  | str b u=>exact RcNeAt.bool_str a b u
  | list q1 q2 q3 q4=>exact RcNeAt.bool_list a ⟨_,q1,q2,_,q3⟩ hu0
  | tuple q1 q2 q3 q4=>exact RcNeAt.bool_tuple a ⟨_,q1,q2,_,q3⟩ hu0
  | dict=>cases n2
 | int a t =>
  cases q with
  | none=>exact RcNeAt.int_none a t
  | bool b=>exact RcNeAt.int_bool a t b
  | int b u=>exact RcNeAt.int_int a t b u
  | str b u=>exact RcNeAt.int_str a t b u
  | list q1 q2 q3 q4=>exact RcNeAt.int_list a t ⟨_,q1,q2,_,q3⟩ hu0
  | tuple q1 q2 q3 q4=>exact RcNeAt.int_tuple a t ⟨_,q1,q2,_,q3⟩ hu0
  | dict=>cases n2
 | str a t =>
  cases q with
  | none=>exact RcNeAt.str_none a t
  | bool b=>exact RcNeAt.str_bool a t b
  | int b u=>exact RcNeAt.str_int a t b u
  | str b u=>exact RcNeAt.str_str a t b u
  | list q1 q2 q3 q4=>exact RcNeAt.str_list a t ⟨_,q1,q2,_,q3⟩ hu0
  | tuple q1 q2 q3 q4=>exact RcNeAt.str_tuple a t ⟨_,q1,q2,_,q3⟩ hu0
  | dict=>cases n2
 | @list l _ vs _ xs _ p1 p2 p3 p4 =>
  have e1:=rdl p4
  simp only[Array.length_toList] at e1
  have L:s.heap.IsList l vs:=⟨_,p1,p2,_,p3⟩
  cases q with
  | none=>exact RcNeAt.list_none  L hu0
  | bool b=>exact RcNeAt.list_bool b L hu0
  | int b u=>exact RcNeAt.list_int b u L hu0
  | str b u=>exact RcNeAt.list_str b u L hu0
  | tuple q1 q2 q3 q4=>exact RcNeAt.list_tuple L ⟨_,q1,q2,_,q3⟩ hu0
  | dict=>cases n2
  | @list l' _ ws _ ys _ q1 q2 q3 q4 =>
   have e2:=rdl q4
   simp only[Array.length_toList] at e2
   have L':s.heap.IsList l' ws:=⟨_,q1,q2,_,q3⟩
   simp only[nd] at n1 n2
   have he:∀j (j1:j<vs.size) (j2:j<ws.size),EqAt A.in1 s vs[j] ws[j] (pairEq xs ys j):=λj j1 j2=>by
    have z:=zg xs ys (A:=A.in1) p4 q4 n1 n2 (by simp only[PyData.depth] at hu;show A.units+1+_<_;omega) j (by simpa using j1) (by simpa using j2)
    simpa using z
   unfold PyData.eqv
   by_cases hz:vs.size=ws.size
   ·rw[<- eqvAll_same_length (show xs.length=ys.length by omega),<- e1]
    exact RcNeAt.lists L L' hz hu0 he
   ·rw[eqvAll_other_length (show xs.length≠ys.length by omega)]
    exact RcNeAt.lists_lengths L L' (by simpa using hz) hu0
 | @tuple l _ vs _ xs _ p1 p2 p3 p4 =>
  have e1:=rdl p4
  simp only[Array.length_toList] at e1
  have L:s.heap.IsTuple l vs:=⟨_,p1,p2,_,p3⟩
  cases q with
  | none=>exact RcNeAt.tuple_none  L hu0
  | bool b=>exact RcNeAt.tuple_bool b L hu0
  | int b u=>exact RcNeAt.tuple_int b u L hu0
  | str b u=>exact RcNeAt.tuple_str b u L hu0
  | list q1 q2 q3 q4=>exact RcNeAt.tuple_list L ⟨_,q1,q2,_,q3⟩ hu0
  | dict=>cases n2
  | @tuple l' _ ws _ ys _ q1 q2 q3 q4 =>
   have e2:=rdl q4
   simp only[Array.length_toList] at e2
   have L':s.heap.IsTuple l' ws:=⟨_,q1,q2,_,q3⟩
   simp only[nd] at n1 n2
   have he:∀j (j1:j<vs.size) (j2:j<ws.size),EqAt A.in1 s vs[j] ws[j] (pairEq xs ys j):=λj j1 j2=>by
    have z:=zg xs ys (A:=A.in1) p4 q4 n1 n2 (by simp only[PyData.depth] at hu;show A.units+1+_<_;omega) j (by simpa using j1) (by simpa using j2)
    simpa using z
   unfold PyData.eqv
   rw[<- eqvAll_eq,<- e1,<- e2]
   exact RcNeAt.tuples L L' hu0 he
 | dict=>cases n1
end
end Rc
namespace Rc
open PySem PySem.Spec L2
open PyProof.Rows hiding St
mutual
def toD:MV->PyData
 | .non=>.none
 | .bl b=>.bool b
 | .int i=>.int i
 | .str x=>.str x
 | .tup xs=>.tuple (pM xs)
 | .lst xs=>.list (pM xs)
 | .kl xs=>.list (pM xs)
 | .ref _=>.dict []
 | .ins _ _ _=>.dict []
 | .exn _ _ _=>.dict []
 | .dic _ _=>.dict []
 | .kd _ _=>.dict []
 | .cls _=>.dict []
 | .dit _ _=>.dict []
def pM:List MV->List PyData
 | []=>[]
 | x::xs=>toD x::pM xs
end
def eqB(x y:MV):Bool:=PyData.eqv (toD x) (toD y)
def Em(xs ys:List MV):Bool:=PyData.eqvAll (pM xs) (pM ys)
def Dat(n:Nat)(x:MV):Prop:=nd (toD x)=true/\(toD x).depth<=n
def RQ(n:Nat)(xs:List MV):Prop:=nds (pM xs)=true/\PyData.depthAll (pM xs)<=n
theorem Cj:Em [] []=true:=by simp only[Em,pM,PyData.eqvAll]
theorem Fx(x y:MV)(xs ys:List MV):Em (x::xs) (y::ys)=(eqB x y&&Em xs ys):=by simp only[Em,eqB,pM,PyData.eqvAll]
theorem PN(y:MV)(ys:List MV):Em [] (y::ys)=false:=by simp only[Em,pM,PyData.eqvAll]
theorem Eu(y:MV)(ys:List MV):Em (y::ys) []=false:=by simp only[Em,pM,PyData.eqvAll]
theorem Kl(n:Nat):RQ n []:=⟨by simp only[pM,nds],by simp only[pM,PyData.depthAll];omega⟩
theorem Hg(n:Nat)(x:MV)(xs:List MV):RQ n (x::xs)↔Dat n x/\RQ n xs:=by
 simp only[RQ,Dat,pM,nds,PyData.depthAll,qQb]
 constructor
 ·rintro ⟨⟨a,b⟩,c⟩;exact⟨⟨a,by omega⟩,b,by omega⟩
 ·rintro ⟨⟨a,b⟩,c,d⟩;exact⟨⟨a,c⟩,by omega⟩
theorem wC(n:Nat):∀xs:List MV,RQ n xs↔∀x∈xs,Dat n x
 | []=>by simp[Kl]
 | x::xs=>by rw[Hg,wC n xs];simp
theorem Es(n:Nat)(xs:List MV):Dat (n+1) (.lst xs)↔∀x∈xs,Dat n x:=by
 rw[<- wC];simp only[Dat,RQ,toD,nd,PyData.depth]
 constructor <;> (rintro ⟨a,b⟩;exact⟨a,by omega⟩)
theorem QQ(n:Nat):Dat n .non:=⟨by simp only[toD,nd],by simp only[toD,PyData.depth];omega⟩
theorem uU(n:Nat)(b:Bool):Dat n (.bl b):=⟨by simp only[toD,nd],by simp only[toD,PyData.depth];omega⟩
theorem nZ(n:Nat)(b:Int):Dat n (.int b):=⟨by simp only[toD,nd],by simp only[toD,PyData.depth];omega⟩
theorem fW(n:Nat)(b:Str):Dat n (.str b):=⟨by simp only[toD,nd],by simp only[toD,PyData.depth];omega⟩
theorem Dat.mono{n k:Nat}{x:MV}(h:Dat n x)(q:n<=k):Dat k x:=⟨h.1,by have:=h.2;omega⟩
def blO(m:Mem):Option Bool->R OV
 | some b=>.ok (.v (.bl b)) m
 | none=>.stuck
def fQ(m:Mem):OV->MV
 | .v (.ref n)=>(match rB m n with
  | some xs=>.lst xs
  | none=>.ref n)
 | .v x=>x
 | .b (.lst xs)=>.lst xs
 | .b (.ins c ks xs)=>.ins c ks xs
 | .b (.dic ks xs)=>.dic ks xs
 | .b (.dit ks xs)=>.dit ks xs
open Classical in
def eqD(f:Bool->Bool)(m:Mem)(x y:MV):R OV:=if Dat 64 x/\Dat 64 y then .ok (.v (.bl (f (eqB x y)))) m else .stuck
def eqO:OV->OV->Mem->R OV:=λa b m=>eqD id m (fQ m a) (fQ m b)
def neO:OV->OV->Mem->R OV:=λa b m=>eqD (!·) m (fQ m a) (fQ m b)
def RG(p:Int->Int->Bool):OV->OV->Mem->R OV:=λa b m=>match a,b with
 | .v (.int i),.v (.int j)=>.ok (.v (.bl (p i j))) m
 | _,_=>.stuck
def ltO:=RG λi j=>decide (i<j)
def leO:=RG λi j=>decide (i<=j)
def gtO:=RG λi j=>decide (j<i)
def geO:=RG λi j=>decide (j<=i)
def isN:OV->Bool
 | .v .non=>true
 | _=>false
def isO:OV->OV->Mem->R OV:=λa b m=>match b with
 | .v .non=>.ok (.v (.bl (isN a))) m
 | .v (.bl c)=>(match a with
  | .v (.bl d)=>.ok (.v (.bl (d == c))) m
  | _=>.stuck)
 | _=>.stuck
def Ks:MV->Bool
 | .non=>true|.bl _=>true|.int _=>true|.str _=>true|_=>false
def InC(x:MV)(xs:List MV):Prop:=Dat 64 x/\∀y∈xs,Dat 64 y
def Dk:MV->Option Key
 | .int i=>some (.inl i)
 | .str x=>some (.inr x)
 | _=>none
def uf:List MV->List MV->MV->Option MV
 | k::ks,x::xs,y=>if eqB k y then some x else uf ks xs y
 | _,_,_=>none
def Jy(m:Mem):OV->Option (List MV × List MV)
 | .v (.dic ks xs)=>some (ks,xs)
 | .b (.dic ks xs)=>some (ks,xs)
 | .v (.ref n)=>(match m[n]? with
  | some (some (.dic ks xs))=>some (ks,xs)
  | _=>none)
 | _=>none
open Classical in
def inB(m:Mem)(a b:OV):Option Bool:=match Jy m b with
 | some (ks,xs)=>if (Dk (fQ m a)).isSome then some ((uf ks xs (fQ m a)).isSome) else none
 | none=>(match pF m b with
  | some (.s z)=>(match a with
   | .v (.str y)=>(match y.cps.toList with
    | [c]=>some (decide (c∈z.cps.toList))
    | _=>none)
   | _=>none)
  | some (.l xs)=>if InC (fQ m a) xs then some (xs.any λy=>eqB y (fQ m a)) else none
  | some (.t xs)=>if InC (fQ m a) xs then some (xs.any λy=>eqB y (fQ m a)) else none
  | none=>none)
def inO:OV->OV->Mem->R OV:=λa b m=>blO m (inB m a b)
def N8:OV->OV->Mem->R OV:=λa b m=>blO m ((inB m a b).map (!·))
section
variable{K:Ki}{g:G}{H:Hp}{m:Mem}
theorem U4{x:OV}{v:V}(r:RO K g H x v):isN x=decide (v=.non):=by
 cases x with
 | b o=>obtain⟨a,rfl,_⟩:=r;simp[isN]
 | v x =>
  cases x with
  | non=>cases r;simp[isN]
  | bl b=>cases r;simp[isN]
  | int b=>cases r;simp[isN]
  | str b=>cases r;simp[isN]
  | tup b=>obtain⟨a,ys,rfl,_⟩:=r;simp[isN]
  | lst b=>obtain⟨a,ys,rfl,_⟩:=r;simp[isN]
  | kl b=>obtain⟨a,ys,rfl,_⟩:=r;simp[isN]
  | ref b=>obtain⟨a,rfl,_⟩:=r;simp[isN]
  | ins c ks xs=>obtain⟨a,_,_,rfl,_⟩:=r;simp[isN]
  | exn c ks xs=>obtain⟨a,_,_,_,rfl,_⟩:=r;simp[isN]
  | dic ks xs=>obtain⟨a,_,_,rfl,_⟩:=r;simp[isN]
  | kd ks is=>obtain⟨a,rfl,_⟩:=r;simp[isN]
  | cls c=>cases r;simp[isN]
  | dit ks xs=>obtain⟨a,_,_,rfl,_⟩:=r;simp[isN]
theorem RVs.mem:∀{xs:List MV}{vs:List V}{v:V},RVs K g xs vs->v∈vs->∃x∈xs,RV K g x v
 | [],_,_,h,e=>by cases (show _=[] from h);cases e
 | x::xs,_,v,⟨w,r,e,h,t⟩,q=>by
  subst e
  rcases qQj.mp q with rfl|q
  ·exact⟨x,qQc,h⟩
  ·obtain⟨y,h1,h2⟩:=RVs.mem t q
   exact⟨y,qQd _ h1,h2⟩
theorem Lj{x:MV}{xs:List MV}(h:nds (pM (x::xs))=true):nd (toD x)=true/\nds (pM xs)=true:=by
 simp only[pM] at h;exact eU h
section
variable{X:Cx}{pins:List (Addr × Obj)}{σ:St}{s:Shared}
mutual
theorem Ba(I:Inv X pins σ H s)(rs:Rs X.ki g m H):∀(x:MV) {v:V}{u:Value},RV X.ki g x v->RelV v u->nd (toD x)=true->∃as,Reads s.heap u (toD x) as
 | .non,_,_,r,q,_=>by cases r;cases q;simp only[toD];exact⟨_,Reads.none⟩
 | .bl b,_,_,r,q,_=>by cases r;cases q;simp only[toD];exact⟨_,Reads.bool b⟩
 | .int b,_,_,r,q,_=>by cases r;obtain⟨t,rfl⟩:=q;simp only[toD];exact⟨_,Reads.int b t⟩
 | .str b,_,_,r,q,_=>by cases r;obtain⟨t,rfl⟩:=q;simp only[toD];exact⟨_,Reads.str b t⟩
 | .tup xs,_,_,r,q,n=>by
  obtain⟨a,ys,rfl,h,t⟩:=r
  cases q
  obtain⟨its,rv,⟨o,ho,hc,k,hd⟩,_⟩:=I.tuple (SqT.ie rs.sub h)
  simp only[toD] at n ⊢
  obtain⟨as,hr⟩:=gD I rs xs t rv (by simp only[nd] at n;exact n)
  exact⟨_,Reads.tuple ho hc hd hr⟩
 | .lst xs,_,_,r,q,n=>by
  obtain⟨a,ys,rfl,h,t⟩:=r
  cases q
  obtain⟨its,rv,⟨o,k,ho,hc,_,hd⟩,_⟩:=I.list (.of (rs.sub _ _ h))
  simp only[toD] at n ⊢
  obtain⟨as,hr⟩:=gD I rs xs t rv (by simp only[nd] at n;exact n)
  exact⟨_,Reads.list ho hc hd hr⟩
 | .kl xs,_,_,r,q,n=>by
  obtain⟨a,ys,rfl,h,t⟩:=r
  cases q
  obtain⟨its,rv,⟨o,k,ho,hc,_,hd⟩,_⟩:=I.list (SqL.ie rs.sub h)
  simp only[toD] at n ⊢
  obtain⟨as,hr⟩:=gD I rs xs t rv (by simp only[nd] at n;exact n)
  exact⟨_,Reads.list ho hc hd hr⟩
 | .ref _,_,_,_,_,n=>by simp only[toD,nd,reduceCtorEq,Bool.false_eq_true] at n
 | .ins _ _ _,_,_,_,_,n=>by simp only[toD,nd,reduceCtorEq,Bool.false_eq_true] at n
 | .exn _ _ _,_,_,_,_,n=>by simp only[toD,nd,reduceCtorEq,Bool.false_eq_true] at n
 | .dic _ _,_,_,_,_,n=>by simp only[toD,nd,reduceCtorEq,Bool.false_eq_true] at n
 | .cls _,_,_,_,_,n=>by simp only[toD,nd,reduceCtorEq,Bool.false_eq_true] at n
 | .kd _ _,_,_,_,_,n=>by simp only[toD,nd,reduceCtorEq,Bool.false_eq_true] at n
 | .dit _ _,_,_,_,_,n=>by simp only[toD,nd,reduceCtorEq,Bool.false_eq_true] at n
theorem gD(I:Inv X pins σ H s)(rs:Rs X.ki g m H):∀(xs:List MV) {vs:List V}{us:List Value},RVs X.ki g xs vs->Vals vs us->nds (pM xs)=true->∃as,ReadsAll s.heap us (pM xs) as
 | [],_,_,r,q,_=>by cases (show _=[] from r);cases q;simp only[pM];exact⟨_,ReadsAll.nil⟩
 | x::xs,_,_,⟨v,r,e,h,t⟩,q,n=>by
  subst e
  cases q with
  | cons q1 q2 =>
   obtain⟨n1,n2⟩:=Lj n
   obtain⟨as,h1⟩:=Ba I rs x h q1 n1
   obtain⟨bs,h2⟩:=gD I rs xs t q2 n2
   simp only[pM]
   exact⟨_,ReadsAll.cons h1 h2⟩
end
theorem pQ(I:Inv X pins σ H s)(rs:Rs X.ki g m H){x:OV}{v:V}{u:Value}(r:RO X.ki g H x v)(q:RelV v u)(n:nd (toD (fQ m x))=true):∃as,Reads s.heap u (toD (fQ m x)) as:=by
 have lst:∀{a:Addr}{xs:List MV}{ys:List V},v=.ref a->H a=some (.lst ys)->RVs X.ki g xs ys->nd (toD (.lst xs))=true->∃as,Reads s.heap u (toD (.lst xs)) as:=λ{a xs ys} e1 e2 e3 n=>by
  subst e1
  cases q
  obtain⟨its,rv,⟨o,k,ho,hc,_,hd⟩,_⟩:=I.list (.of e2)
  simp only[toD] at n ⊢
  obtain⟨as,hr⟩:=gD I rs xs e3 rv (by simp only[nd] at n;exact n)
  exact⟨_,Reads.list ho hc hd hr⟩
 cases x with
 | b o =>
  cases o with
  | lst xs =>
   obtain⟨a,e,⟨ys,h1,h2⟩,_⟩:=r
   exact lst e h1 h2 n
  | ins _ _ _=>simp only[fQ,toD,nd,reduceCtorEq,Bool.false_eq_true] at n
  | dic _ _=>simp only[fQ,toD,nd,reduceCtorEq,Bool.false_eq_true] at n
  | dit _ _=>simp only[fQ,toD,nd,reduceCtorEq,Bool.false_eq_true] at n
 | v x =>
  cases x with
  | ref k =>
   unfold fQ at n ⊢
   dsimp only at n ⊢
   cases e:rB m k with
   | none=>rw[e] at n;simp only[toD,nd,reduceCtorEq,Bool.false_eq_true] at n
   | some xs =>
    rw[e] at n
    obtain⟨a,rfl,h⟩:=r
    obtain⟨b,e1,_,ys,e2,e3⟩:=rs.gr k _ (rR e)
    rw[h] at e1;cases e1
    exact lst rfl e2 e3 n
  | _=>exact Ba I rs _ r q n
end
end
section
variable{X:Cx}
theorem Aq{K:Ki}{g:G}{H:Hp}{m:Mem}{Q:VK}{o:Option Bool}(rs:Rs K g m H)(p:eZ K E g H (blO m o) Q):∃b,o=some b/\Q (.bl b) H:=by
 cases o with
 | none=>exact p.elim
 | some b=>exact⟨b,rfl,bJ rs p rfl⟩
theorem Qa{K:Ki}{g:G}{H:Hp}{m:Mem}{x:OV}{v:V}(r:RO K g H x v)(f:Ks (fQ m x)=true):RV K g (fQ m x) v:=by
 cases x with
 | b o=>cases o <;> (simp only[fQ,Ks,Bool.false_eq_true] at f)
 | v x =>
  cases x with
  | ref k =>
   unfold fQ at f
   dsimp only at f
   split at f <;> (simp only[Ks,Bool.false_eq_true] at f)
  | _=>exact r
theorem xJ{pins:List (Addr × Obj)}{σ:St}{H:Hp}{s:Shared}{g:G}{m:Mem}{a b:OV}{x y:V}{v u:Value}(I:Inv X pins σ H s)(rx:RelV x v)(ry:RelV y u)(rs:Rs X.ki g m H)(ra:RO X.ki g H a x)(rb:RO X.ki g H b y)
  (da:Dat 64 (fQ m a)) (db:Dat 64 (fQ m b)):(∃as,Reads s.heap v (toD (fQ m a)) as)/\∃bs,Reads s.heap u (toD (fQ m b)) bs:=⟨pQ I rs ra rx da.1,pQ I rs rb ry db.1⟩
theorem Ud(hu:X.A.units+66<cLine):OpR X (compareOp .Eq) (t2 X.ki eqO):=by
 intro pins s σ H x y v u Q I rx ry h
 obtain⟨E,g,m,a,b,rs,ra,rb,p⟩:=h
 unfold eqO eqD at p
 split at p
 ·rename_i d
  obtain⟨⟨as,r1⟩,bs,r2⟩:=xJ I rx ry rs ra rb d.1 d.2
  exact O8 (A:=X.A) r1 r2 d.1.1 d.2.1 (by have:=d.1.2;omega) _ _ _ _ ⟨.bl _,H,I,rfl,bJ rs p rfl⟩
 ·exact p.elim
theorem Ul(hu:X.A.units+66<cLine):OpR X (compareOp .NotEq) (t2 X.ki neO):=by
 intro pins s σ H x y v u Q I rx ry h
 obtain⟨E,g,m,a,b,rs,ra,rb,p⟩:=h
 unfold neO eqD at p
 split at p
 ·rename_i d
  obtain⟨⟨as,r1⟩,bs,r2⟩:=xJ I rx ry rs ra rb d.1 d.2
  exact Hi (A:=X.A) r1 r2 d.1.1 d.2.1 (by have:=d.1.2;omega) _ _ _ _ ⟨.bl _,H,I,rfl,bJ rs p rfl⟩
 ·exact p.elim
theorem vA{op:CmpOp}{p:Int->Int->Bool}(h:OpR X (compareOp op) (rI0 λi j=>.bl (p i j))):OpR X (compareOp op) (t2 X.ki (RG p)):=by
 refine h.weaken ?_
 rintro x y H Q ⟨E,g,m,a,b,rs,ra,rb,q⟩
 unfold RG at q
 split at q
 ·cases ra;cases rb;exact⟨_,_,rfl,rfl,bJ rs q rfl⟩
 ·exact q.elim
theorem U0:OpR X (compareOp .Is) (t2 X.ki isO):=by
 refine (op_isN.or op_isBl).weaken ?_
 rintro x y H Q ⟨E,g,m,a,b,rs,ra,rb,p⟩
 unfold isO at p
 split at p
 ·cases rb
  exact .inl ⟨rfl,U4 ra ▸ bJ rs p rfl⟩
 ·split at p
  ·cases ra;cases rb
   exact .inr ⟨_,_,rfl,rfl,bJ rs p (congrArg V.bl (by rw[Bool.eq_iff_iff];simp))⟩
  ·exact p.elim
 ·exact p.elim
open Classical in
/-- whether an item is equal to the data -/
def Ec(h:Heap)(d:PyData)(y:Value):Bool:=if z:∃e,nd e=true/\∃as,Reads h y e as then PyData.eqv z.choose d else false
theorem Ht{h:Heap}{d e:PyData}{y:Value}{as:List Addr}(n:nd e=true)(r:Reads h y e as):Ec h d y=PyData.eqv e d:=by
 have z:∃e,nd e=true/\∃as,Reads h y e as:=⟨e,n,as,r⟩
 unfold Ec
 rw[dif_pos z]
 obtain⟨n',bs,r'⟩:=z.choose_spec
 rw[Gv _ _ n' r' r]
theorem vW{s:Shared}{d:PyData}:∀{xs:List MV}{us:List Value}{as:List Addr},nds (pM xs)=true->ReadsAll s.heap us (pM xs) as->us.any (Ec s.heap d)=xs.any λy=>PyData.eqv (toD y) d
 | [],_,_,_,r=>by simp only[pM] at r;cases r;rfl
 | x::xs,_,_,n,r=>by
  simp only[pM] at n r
  cases r with
  | cons r1 r2 =>
   rw[List.any_cons,List.any_cons,Ht (eU n).1 r1,vW (eU n).2 r2]
theorem rJ{s:Shared}{A:Around}{x:Value}{d:PyData}{bs:List Addr}(rx:Reads s.heap x d bs)(n:nd d=true)(hu:A.units+d.depth<cLine):∀{ds:List PyData}{us:List Value}{as:List Addr},nds ds=true->ReadsAll s.heap us ds as->∀y∈us,SeqAt.EqAt A s y x (Ec s.heap d y)
 | [],_,_,_,r,y,hy=>by cases r;cases hy
 | e::ds,_,_,m,r,y,hy=>by
  cases r with
  | cons r1 r2 =>
   rcases qQj.mp hy with rfl|hy
   ·rw[Ht (eU m).1 r1]
    exact abr _ _ r1 rx (eU m).1 n (by omega)
   ·exact rJ rx n hu (eU m).2 r2 y hy
def anyB(x:MV)(xs:List MV):Bool:=xs.any λy=>eqB y x
theorem JF{n:Nat}{xs:List MV}(h:∀y∈xs,Dat n y):nds (pM xs)=true:=((wC n xs).mpr h).1
def aaA(X:Cx)(f:Bool->Bool):R2:=λx y H Q=>∃(g:G) (m:Mem) (a:OV) (xs:List MV),Rs X.ki g m H/\RO X.ki g H a x/\(SqR X.ki g H (.l xs) y\/SqR X.ki g H (.t xs) y)/\InC (fQ m a) xs/\Q (.bl (f (anyB (fQ m a) xs))) H
theorem NP(hu:X.A.units+66<cLine):OpR X (compareOp .In) (aaA X id)/\OpR X (compareOp .NotIn) (aaA X (!·)):=by
 constructor
 all_goals
  intro pins s σ H x y v u Q I rx ry h
  obtain⟨g,m,a,xs,rs,ra,rb,d,q⟩:=h
  obtain⟨as,r1⟩:=pQ I rs ra rx d.1.1
  have n:=JF d.2
  have hd:=d.1.2
  rcases rb with⟨b,ys,rfl,hq,rv⟩|⟨b,ys,rfl,hq,rv⟩
  ·cases ry
   obtain⟨its,r,pl,hz⟩:=I.list hq
   obtain⟨bs,r2⟩:=gD I rs xs rv r n
   first
    | refine SeqAt.in_listAt (Ec s.heap (toD (fQ m a))) pl.isList (λw hw=>rJ (A:=X.A.in1) r1 d.1.1 (by show X.A.units+1+_<_;omega) n r2 w (by simpa using hw)) ?_
    | refine SeqAt.notIn_listAt (Ec s.heap (toD (fQ m a))) pl.isList (λw hw=>rJ (A:=X.A.in1) r1 d.1.1 (by show X.A.units+1+_<_;omega) n r2 w (by simpa using hw)) ?_
   refine⟨.bl _,H,I,rfl,?_⟩
   rw[show its.toArray.any (Ec s.heap (toD (fQ m a)))=its.any (Ec s.heap (toD (fQ m a))) by simp,vW n r2]
   exact q
  ·cases ry
   obtain⟨its,r,pl,hz⟩:=I.tuple hq
   obtain⟨bs,r2⟩:=gD I rs xs rv r n
   obtain⟨o,p1,p2,k,p3⟩:=pl
   first
    | refine SeqAt.in_tupleAt (Ec s.heap (toD (fQ m a))) ⟨o,p1,p2,k,p3⟩ (λw hw=>rJ (A:=X.A.in1) r1 d.1.1 (by show X.A.units+1+_<_;omega) n r2 w (by simpa using hw)) ?_
    | refine SeqAt.notIn_tupleAt (Ec s.heap (toD (fQ m a))) ⟨o,p1,p2,k,p3⟩ (λw hw=>rJ (A:=X.A.in1) r1 d.1.1 (by show X.A.units+1+_<_;omega) n r2 w (by simpa using hw)) ?_
   refine⟨.bl _,H,I,rfl,?_⟩
   rw[show its.toArray.any (Ec s.heap (toD (fQ m a)))=its.any (Ec s.heap (toD (fQ m a))) by simp,vW n r2]
   exact q
theorem HS{K:Ki}{g:G}{x:MV}{v:V}{k:Key}(r:RV K g x v)(e:Dk x=some k):v=kV k/\toD x=(match k with
  | .inl i=>.int i
  | .inr z=>.str z):=by
 cases x <;> first|(cases e;done)|(cases e;cases r;exact⟨rfl,by simp only[toD]⟩)
theorem LQ{x:MV}{k:Key}(e:Dk x=some k):Ks x=true:=by
 cases x <;> first|(cases e;done)|rfl
theorem Pu{K:Ki}{g:G}{x y:MV}{k l:Key}(rx:RV K g x (kV k))(ry:Dk y=some l):eqB x y=decide (k=l):=by
 unfold eqB
 cases k with
 | inl i =>
  have ex:x=.int i:=by
   cases x <;> first|(cases rx;rfl)|(cases rx;done)|(obtain⟨_,rx,_⟩:=rx;cases rx;done)|(obtain⟨_,_,rx,_⟩:=rx;cases rx;done)|(obtain⟨_,_,_,rx,_⟩:=rx;cases rx;done)|(obtain⟨_,_,_,_,rx,_⟩:=rx;cases rx;done)
  subst ex
  cases y <;> first|(cases ry;done)|skip
  ·cases ry;simp only[toD,PyData.eqv];rw[key_ll]
  ·cases ry;simp only[toD,PyData.eqv];rw[key_lr]
 | inr z =>
  have ex:x=.str z:=by
   cases x <;> first|(cases rx;rfl)|(cases rx;done)|(obtain⟨_,rx,_⟩:=rx;cases rx;done)|(obtain⟨_,_,rx,_⟩:=rx;cases rx;done)|(obtain⟨_,_,_,rx,_⟩:=rx;cases rx;done)|(obtain⟨_,_,_,_,rx,_⟩:=rx;cases rx;done)
  subst ex
  cases y <;> first|(cases ry;done)|skip
  ·cases ry;simp only[toD,PyData.eqv];rw[key_rl]
  ·cases ry;simp only[toD,PyData.eqv];rw[key_rr];rw[Bool.eq_iff_iff];simp
theorem Ai{K:Ki}{g:G}{y:MV}{l:Key}(hy:Dk y=some l):∀{ks xs:List MV}{kv:List (Key × V)},RVs K g ks (kv.map λp=>kV p.1)->RVs K g xs (kv.map λp=>p.2) ->
  (∀x,uf ks xs y=some x->∃v,valV kv l=some v/\RV K g x v)/\(uf ks xs y=none->valV kv l=none)
 | [],xs,kv,r1,r2=>by
  cases kv with
  | nil=>exact⟨λx e=>(by cases e),λ_=>rfl⟩
  | cons p kv=>cases (show _=[] from r1)
 | k::ks,[],kv,r1,r2=>by
  cases kv with
  | nil=>exact⟨λx e=>(by cases e),λ_=>rfl⟩
  | cons p kv=>cases (show _=[] from r2)
 | k::ks,x::xs,kv,r1,r2=>by
  cases kv with
  | nil=>obtain⟨_,_,e,_⟩:=r1;cases e
  | cons p kv =>
   obtain⟨v,r,e,h1,t1⟩:=r1
   cases e
   obtain⟨w,r,e,h2,t2⟩:=r2
   cases e
   have ih:=Ai hy t1 t2
   have e:=Pu h1 hy
   have hv:valV (p::kv) l=if p.1=l then some p.2 else valV kv l:=by
    unfold valV
    rw[List.find?_cons]
    by_cases z:p.1=l
    ·simp[z]
    ·simp[z]
   show (∀x_1,(if eqB k y then some x else uf ks xs y)=some x_1->_)/\((if eqB k y then some x else uf ks xs y)=none->_)
   rw[hv,e]
   by_cases z:p.1=l
   ·simp only[z,decide_true,if_true]
    exact⟨λx' e'=>by cases e';exact⟨_,rfl,h2⟩,λe'=>by cases e'⟩
   ·simp only[z,decide_false,if_false,Bool.false_eq_true]
    exact ih
theorem yV{K:Ki}{g:G}{H:Hp}{m:Mem}{x:OV}{v:V}{ks xs:List MV}(rs:Rs K g m H)(r:RO K g H x v)(e:Jy m x=some (ks,xs)):∃a u kvs,v=.ref a/\H a=some u/\aat K a u kvs/\RVs K g ks (kvs.map (·.1))/\RVs K g xs (kvs.map (·.2)):=by
 cases x with
 | b o =>
  cases o with
  | dic ks xs =>
   cases e
   obtain⟨a,rfl,⟨u,kvs,h1,h2,h3,h4⟩,_⟩:=r
   exact⟨a,u,kvs,rfl,h1,h2,h3,h4⟩
  | _=>cases e
 | v x =>
  cases x with
  | dic ks xs =>
   cases e
   obtain⟨a,u,kvs,rfl,h1,h2,h3,h4⟩:=r
   exact⟨a,u,kvs,rfl,rs.sub _ _ h1,h2,h3,h4⟩
  | ref n =>
   obtain⟨a,rfl,q⟩:=r
   have e:(match m[n]? with
    | some (some (.dic ks xs))=>some (ks,xs)
    | _=>none)=some (ks,xs):=e
   split at e
   ·rename_i e1
    cases e
    obtain⟨b,q1,_,u,kvs,h1,h2,h3,h4⟩:=rs.gr n _ e1
    rw[q] at q1;cases q1
    exact⟨a,u,kvs,rfl,h1,h2,h3,h4⟩
   ·cases e
  | _=>cases e
theorem Fv{K:Ki}{g:G}{H:Hp}{m:Mem}{a b:OV}{x y:V}{ks xs:List MV}{k:Key}(rs:Rs K g m H)(ra:RO K g H a x)(rb:RO K g H b y)(e:Jy m b=some (ks,xs))(hk:Dk (fQ m a)=some k):
  ∃d kv,y=.ref d/\H d=some (.dK kv)/\x=kV k/\(∀z,uf ks xs (fQ m a)=some z->∃v,valV kv k=some v/\RV K g z v)/\(uf ks xs (fQ m a)=none->valV kv k=none):=by
 obtain⟨d,u,kvs,rfl,h1,⟨kv,rfl,rfl⟩,h3,h4⟩:=yV rs rb e
 rw[qQt] at h3 h4
 have l:=Ai hk (kv:=kv) h3 h4
 exact⟨d,kv,rfl,h1,(HS (Qa ra (LQ hk)) hk).1,l.1,l.2⟩
def aaJ(f:Bool->Bool):R2:=λx y H Q=>∃d o,y=.ref d/\DGet H d x o/\Q (.bl (f o.isSome)) H
theorem U7(hu:X.A.units+66<cLine):OpR X (compareOp .In) (aaJ id):=by
 intro pins s σ H x y v u Q I rx ry h
 obtain⟨d,o,rfl,g,q⟩:=h
 cases ry
 exact d_in (by omega) I g rx λs' I'=>⟨.bl _,H,I',rfl,q⟩
theorem Fp(hu:X.A.units+66<cLine):OpR X (compareOp .NotIn) (aaJ (!·)):=by
 intro pins s σ H x y v u Q I rx ry h
 obtain⟨d,o,rfl,g,q⟩:=h
 cases ry
 exact d_notIn (by omega) I g rx λs' I'=>⟨.bl _,H,I',rfl,q⟩
theorem M4{g:G}{H:Hp}{m:Mem}{a b:OV}{x y:V}{c:Bool}{Q:VK}{f:Bool->Bool}(rs:Rs X.ki g m H)(ra:RO X.ki g H a x)(rb:RO X.ki g H b y)(e:inB m a b=some c)(q:Q (.bl (f c)) H):
  (∃(d:Nat) (z:Str),x=.str ⟨#[d]⟩/\y=.str z/\Q (.bl (f (decide (d∈z.cps.toList)))) H)\/aaA X f x y H Q\/aaJ f x y H Q:=by
 unfold inB at e
 split at e
 ·rename_i ks xs hd
  split at e
  ·rename_i hk
   cases e
   obtain⟨k,hk⟩:=Option.isSome_iff_exists.mp hk
   obtain⟨d,kv,rfl,h1,rfl,h2,h3⟩:=Fv rs ra rb hd hk
   refine .inr (.inr ⟨d,_,rfl,DGet.k h1,?_⟩)
   cases z:uf ks xs (fQ m a) with
   | none=>rw[h3 z];rw[z] at q;exact q
   | some w=>obtain⟨v,e1,_⟩:=h2 w z;rw[e1];rw[z] at q;exact q
  ·cases e
 ·split at e
  ·rename_i z hc
   split at e
   ·rename_i y
    split at e
    ·rename_i d hd
     cases e
     have hb:_=V.str z:=cY rs rb hc
     refine .inl ⟨d,z,?_,hb,q⟩
     have hx:_=V.str y:=ra
     obtain⟨w⟩:=y
     have:w=#[d]:=by
      apply Array.ext'
      exact hd
     rw[hx,this]
    ·cases e
   ·cases e
  ·rename_i xs hc
   split at e
   ·rename_i hf
    cases e
    exact .inr (.inl ⟨g,m,a,xs,rs,ra,.inl (cY rs rb hc),hf,q⟩)
   ·cases e
  ·rename_i xs hc
   split at e
   ·rename_i hf
    cases e
    exact .inr (.inl ⟨g,m,a,xs,rs,ra,.inr (cY rs rb hc),hf,q⟩)
   ·cases e
  ·cases e
theorem U9(hu:X.A.units+66<cLine):OpR X (compareOp .In) (t2 X.ki inO):=by
 refine (op_in_sign.or ((NP hu).1.or (U7 hu))).weaken ?_
 rintro x y H Q ⟨E,g,m,a,b,rs,ra,rb,p⟩
 obtain⟨c,e,q⟩:=Aq rs p
 exact M4 (f:=id) rs ra rb e q
theorem Io(hu:X.A.units+66<cLine):OpR X (compareOp .NotIn) (t2 X.ki N8):=by
 refine (op_notIn_sign.or ((NP hu).2.or (Fp hu))).weaken ?_
 rintro x y H Q ⟨E,g,m,a,b,rs,ra,rb,p⟩
 obtain⟨c,e,q⟩:=Aq rs p
 obtain⟨c,e0,rfl⟩:=qQi.mp e
 exact M4 (f:=(!·)) rs ra rb e0 q
end
def wZ(x:OV)(m:Mem):R Bool:=match x with
 | .v (.bl b)=>.ok b m
 | _=>.stuck
def qu:OV->Option MV
 | .v x=>some x
 | .b _=>none
def vals:List OV->Option (List MV)
 | []=>some []
 | .v x::r=>(vals r).map (x::·)
 | .b _::_=>none
def frz(o:MO):MV:=match o with
 | .lst xs=>.lst xs
 | .ins c ks xs=>.ins c ks xs
 | .dic ks xs=>.dic ks xs
 | .dit ks xs=>.dit ks xs
section
variable{α β γ δ:Type}{K:Ki}{g g':G}{H H':Hp}{R1:G->Hp->α->β->Prop}{Rel2:G->Hp->γ->δ->Prop}{σ:St}{Q:VK}
theorem dG.imp{r:R α}{Q Q':β->Hp->Prop}(h:dG K E R1 g H r Q)(w:∀v H,Q v H->Q' v H):dG K E R1 g H r Q':=by
 cases r with
 | ok x m'=>exact λg2 v H2 a b c=>w _ _ (h g2 v H2 a b c)
 | _=>exact h
theorem dJ.imp{r:R MO}{Q Q':VK}(h:dJ K W g H r Q)(w:∀v H,Q v H->Q' v H):dJ K W g H r Q':=by
 cases r with
 | ok x m'=>exact λg2 p H2 a b c d e f=>w _ _ (h g2 p H2 a b c d e f)
 | _=>exact h
theorem Cd{fa fb:Sl->Mem->R OV}{f2:OV->OV->Mem->R OV}(h:tE K W (λs m=>(fa s m).bind λx m=>(fb s m).bind λy m=>f2 x y m) σ H Q):tOp (t2 K f2) (tE K W fa) (tE K W fb) σ H Q:=by
 obtain⟨g,s,m,rs,rl,p⟩:=h
 exact⟨g,s,m,rs,rl,(dG.bind p).imp λv H1 ⟨x,g1,m1,rs1,st1,r1,p1⟩=>⟨g1,s,m1,rs1,rl.st st1,(dG.bind p1).imp λw H2 ⟨y,g2,m2,rs2,st2,r2,p2⟩=>⟨_,g2,m2,x,y,rs2,RO.st r1 st2,r2,p2⟩⟩⟩
theorem aaF{fa:Sl->Mem->R OV}{f1:OV->Mem->R OV}(h:tE K W (λs m=>(fa s m).bind λx m=>f1 x m) σ H Q):tUn (t1 K f1) (tE K W fa) σ H Q:=by
 obtain⟨g,s,m,rs,rl,p⟩:=h
 exact⟨g,s,m,rs,rl,(dG.bind p).imp λv H1 ⟨x,g1,m1,rs1,st1,r1,p1⟩=>⟨_,g1,m1,x,rs1,r1,p1⟩⟩
theorem NQ{fa:Sl->Mem->R OV}{f1:OV->Mem->R OV}(h:tE K W (λs m=>(fa s m).bind λx m=>f1 x m) σ H Q):
  tCB (λvs H Q=>∃v,vs=[v]/\t1 K f1 v H Q) (tCons (tE K W fa) tNil) σ H Q:=by
 obtain⟨g,s,m,rs,rl,p⟩:=h
 exact⟨g,s,m,rs,rl,(dG.bind p).imp λv H1 ⟨x,g1,m1,rs1,st1,r1,p1⟩=>⟨v,rfl,_,g1,m1,x,rs1,r1,p1⟩⟩
theorem FJ{z:OV}{m:Mem}{v:V}{k:Bool->Mem->R γ}{Q:δ->Hp->Prop}(r:RO K g H z v)(p:dG K E Rel2 g H ((wZ z m).bind k) Q):∃b,v=.bl b/\dG K E Rel2 g H (k b m) Q:=by
 unfold wZ at p
 split at p
 ·rename_i b
  exact⟨b,r,p⟩
 ·exact p.elim
theorem Ky{fa fb fc:Sl->Mem->R OV}{f f':OV->OV->Mem->R OV} (h:tE K W (λs m=>(fa s m).bind λx m=>(fb s m).bind λy m=>(f x y m).bind λz m=>(wZ z m).bind λk m =>
   if k=true then (fc s m).bind λw m=>f' y w m else .ok (.v (.bl false)) m) σ H Q):tChain (t2 K f) (t2 K f') (tE K W fa) (tE K W fb) (tE K W fc) σ H Q:=by
 obtain⟨g,s,m,rs,rl,p⟩:=h
 refine⟨g,s,m,rs,rl,(dG.bind p).imp λv H1 ⟨x,g1,m1,rs1,st1,r1,p1⟩=>⟨g1,s,m1,rs1,rl.st st1,(dG.bind p1).imp λw H2 ⟨y,g2,m2,rs2,st2,r2,p2⟩=>⟨_,g2,m2,x,y,rs2,RO.st r1 st2,r2,(dG.bind p2).imp λz H3 ⟨zo,g3,m3,rs3,st3,r3,p3⟩=>?_⟩⟩⟩
 obtain⟨k,e,p4⟩:=FJ r3 p3
 refine⟨k,e,?_⟩
 cases k with
 | false=>exact iteF (bJ rs3 p4 rfl)
 | true=>exact iteT ⟨g3,s,m3,rs3,(rl.st st1).st st2 |>.st st3,(dG.bind p4).imp λw' H4 ⟨u,g4,m4,rs4,st4,r4,p5⟩=>⟨_,g4,m4,y,u,rs4,RO.st (RO.st r2 st3) st4,r4,p5⟩⟩
theorem SN{ft:Sl->Mem->R Bool}{fa fb:Sl->Mem->R OV}(h:tE K W (λs m=>(ft s m).bind λk m=>if k=true then fa s m else fb s m) σ H Q):tIf (tT K W ft) (tE K W fa) (tE K W fb) σ H Q:=by
 obtain⟨g,s,m,rs,rl,p⟩:=h
 refine⟨g,s,m,rs,rl,(dG.bind p).imp λk H1 ⟨x,g1,m1,rs1,st1,r1,p1⟩=>?_⟩
 subst r1
 cases x with
 | true=>exact iteT ⟨g1,s,m1,rs1,rl.st st1,p1⟩
 | false=>exact iteF ⟨g1,s,m1,rs1,rl.st st1,p1⟩
theorem YS{m:Mem}{xs:List MV}{ys:List V}(rs:Rs K g m H)(r:RVs K g xs ys)(p:dJ K W g H (.ok (.lst xs) m) Q)(a:Addr)(ha:H a=none):Q (.ref a) (upd H a (.lst ys)):=by
 have ne:∀b u,H b=some u->b≠a:=λb u e z=>by subst z;rw[ha] at e;cases e
 have st:Stp g H g (upd H a (.lst ys)):=⟨λ_ _ e=>e,λ_ _ e=>e,λb u e _ _=>by rw[upd_ne (ne b u e)];exact e,λb e=>by
  by_cases z:b=a
  ·subst z;exact absurd ha e
  ·rw[upd_ne z];exact e,λb e=>.inl e,λn b e=>.inl e⟩
 have hF:g.F a=none:=by
  cases q:g.F a with
  | none=>rfl
  | some u=>have:=rs.sub _ _ q;rw[ha] at this;cases this
 have hr:∀n,g.r n≠some a:=λn e=>(rs.rb n a e).2 ha
 refine p g a _ ⟨λb u e=>?_,λn u e=>?_,λn b e=>?_,rs.rj,λq hq=>(rs.tb q hq).go (upd_ne ((rs.tb q hq).ne0 ha).symm) (λ_ _ e=>e) (rs.tb q hq).F (rs.tb q hq).r⟩ st ha hF hr ⟨ys,upd_same,r⟩
 ·rw[upd_ne (ne b u (rs.sub b u e))];exact rs.sub b u e
 ·obtain⟨b,e1,e2,e3⟩:=rs.gr n u e
  obtain⟨w,hw⟩:=e3.some
  exact⟨b,e1,e2,e3.st st (upd_ne (ne b w hw))⟩
 ·obtain⟨h1,h2⟩:=rs.rb n b e
  exact⟨h1,st.dom b h2⟩
theorem rD:∀{xs:List OV}{vs:List V}{ys:List MV},Paired (RO K g H) xs vs->vals xs=some ys->RVs K g ys vs
 | [],_,_,.nil,e=>by cases e;exact rfl
 | .v x::xs,_,_,.cons r t,e=>by
  obtain⟨zs,e2,rfl⟩:=qQi.mp (show (vals xs).map (x::·)=some _ from e)
  exact⟨_,_,rfl,r,rD t e2⟩
 | .b x::xs,_,_,.cons r t,e=>by cases e
theorem Gg{Q':List V->Hp->Prop}(h:tA K W (λs m=>.ok [] m) σ H Q'):tNil σ H Q':=by
 obtain⟨g,s,m,rs,rl,p⟩:=h
 exact p g [] H rs (Stp.refl _ _) .nil
theorem zG{fa:Sl->Mem->R OV}{fs:Sl->Mem->R (List OV)}{Q':List V->Hp->Prop}(h:tA K W (λs m=>(fa s m).bind λx m=>(fs s m).bind λxs m=>.ok (x::xs) m) σ H Q'):tCons (tE K W fa) (tA K W fs) σ H Q':=by
 obtain⟨g,s,m,rs,rl,p⟩:=h
 exact⟨g,s,m,rs,rl,(dG.bind p).imp λv H1 ⟨x,g1,m1,rs1,st1,r1,p1⟩=>⟨g1,s,m1,rs1,rl.st st1,(dG.bind p1).imp λvs H2 ⟨xs,g2,m2,rs2,st2,r2,p2⟩=>p2 g2 _ H2 rs2 (Stp.refl _ _) (.cons (RO.st r1 st2) r2)⟩⟩
theorem Wq{fs:Sl->Mem->R (List OV)} (h:tE K W (λs m=>(fs s m).bind λxs m=>match vals xs with
  | some ys=>if ys.length<=sizeLine then .ok (.v (.tup ys)) m else .stuck
  | none=>.stuck) σ H Q):tTup (tA K W fs) σ H Q:=by
 obtain⟨g,s,m,rs,rl,p⟩:=h
 refine⟨g,s,m,rs,rl,(dG.bind p).imp λvs H1 ⟨xs,g1,m1,rs1,st1,r1,p1⟩=>?_⟩
 split at p1
 ·rename_i ys e
  have r:=rD r1 e
  split at p1
  ·exact⟨by rw[<- r.length];assumption,oV rs1 p1 r⟩
  ·exact p1.elim
 ·exact p1.elim
theorem Nr{fs:Sl->Mem->R (List OV)} (h:tF K W (λs m=>(fs s m).bind λxs m=>match vals xs with
  | some ys=>if ys.length<=sizeLine then .ok (.lst ys) m else .stuck
  | none=>.stuck) σ H Q):tLst (tA K W fs) σ H Q:=by
 obtain⟨g,s,m,rs,rl,p⟩:=h
 refine⟨g,s,m,rs,rl,(dJ.bind p).imp λvs H1 ⟨xs,g1,m1,rs1,st1,r1,p1⟩=>?_⟩
 split at p1
 ·rename_i ys e
  have r:=rD r1 e
  split at p1
  ·refine⟨by rw[<- r.length];assumption,λq hq=>?_⟩
   exact YS rs1 r p1 q hq
  ·exact p1.elim
 ·exact p1.elim
end
section
variable{K:Ki}{g g' g1:G}{H H' H1:Hp}{m m':Mem}{s:Sl}{σ:St}{Q:VK}
theorem Rs.free(rs:Rs K g m H){a:Addr}(ha:H a=none):g.F a=none/\∀n,g.r n≠some a:=by
 refine⟨?_,λn e=>(rs.rb n a e).2 ha⟩
 cases q:g.F a with
 | none=>rfl
 | some u=>have:=rs.sub _ _ q;rw[ha] at this;cases this
theorem Rs.grow{a:Addr}{o:HO}(rs:Rs K g m H)(ha:H a=none):Rs K g m (upd H a o)/\Stp g H g (upd H a o):=by
 have ne:∀b u,H b=some u->b≠a:=λb u e z=>by subst z;rw[ha] at e;cases e
 have st:Stp g H g (upd H a o):=⟨λ_ _ e=>e,λ_ _ e=>e,λb u e _ _=>by rw[upd_ne (ne b u e)];exact e,λb e=>by
  by_cases z:b=a
  ·subst z;exact absurd ha e
  ·rw[upd_ne z];exact e,λb e=>.inl e,λn b e=>.inl e⟩
 refine⟨⟨λb u e=>?_,λn u e=>?_,λn b e=>?_,rs.rj,λq hq=>(rs.tb q hq).go (upd_ne ((rs.tb q hq).ne0 ha).symm) (λ_ _ e=>e) (rs.tb q hq).F (rs.tb q hq).r⟩,st⟩
 ·rw[upd_ne (ne b u (rs.sub b u e))];exact rs.sub b u e
 ·obtain⟨b,e1,e2,e3⟩:=rs.gr n u e
  obtain⟨w,hw⟩:=e3.some
  exact⟨b,e1,e2,e3.st st (upd_ne (ne b w hw))⟩
 ·obtain⟨h1,h2⟩:=rs.rb n b e
  exact⟨h1,st.dom b h2⟩
theorem Rs.own{a:Addr}{o u0:HO}(rs:Rs K g m H)(hF:g.F a=none)(hr:∀n,g.r n≠some a)(h0:H a=some u0)(nt:Jx u0):Rs K g m (upd H a o):=by
 refine⟨λb u e=>?_,λn u e=>?_,λn b e=>?_,rs.rj,λq hq=>(rs.tb q hq).go (upd_ne ((rs.tb q hq).ne h0 nt).symm) (λ_ _ e=>e) (rs.tb q hq).F (rs.tb q hq).r⟩
 ·rw[upd_ne (λz=>by rw[z,hF] at e;cases e)];exact rs.sub b u e
 ·obtain⟨b,e1,e2,e3⟩:=rs.gr n u e
  have ne:b≠a:=λz=>hr n (by rw[<- z];exact e1)
  exact⟨b,e1,e2,gK.grow e3 (λ_ _ e=>e) (λ_ _ e=>e) (upd_ne ne)⟩
 ·obtain⟨h1,h2⟩:=rs.rb n b e
  refine⟨h1,?_⟩
  rw[upd_ne (λz=>hr n (by rw[<- z];exact e))];exact h2
theorem Stp.own{a:Addr}{o:HO}(st:Stp g1 H1 g H)(h1:H1 a=none):Stp g1 H1 g (upd H a o):=by
 refine⟨st.F,st.r,λb u e hn nt=>?_,λb e=>?_,λb e=>?_,st.rn⟩
 ·rw[upd_ne (λz=>by rw[z,h1] at e;cases e)];exact st.keep b u e hn nt
 ·by_cases z:b=a
  ·subst z;rw[upd_same];simp
  ·rw[upd_ne z];exact st.dom b e
 ·by_cases z:b=a
  ·subst z;exact .inr (.inl h1)
  ·rcases st.Fn b e with q|q|q|⟨ys,q⟩
   ·exact .inl q
   ·exact .inr (.inl q)
   ·exact .inr (.inr (.inl q))
   ·exact .inr (.inr (.inr ⟨ys,by rw[upd_ne z];exact q⟩))
theorem Stp.frz{a:Addr}{o:HO}(st:Stp g1 H1 g H)(h1:H1 a=none)(hF:g.F a=none):Stp g1 H1 { g with F:=upd g.F a o } H:=by
 refine⟨λb u e=>?_,st.r,st.keep,st.dom,λb e=>?_,st.rn⟩
 ·have e2:=st.F b u e
  show upd g.F a o b=some u
  rw[upd_ne (λz=>by rw[z,hF] at e2;cases e2)];exact e2
 ·have e:upd g.F a o b≠none:=e
  by_cases z:b=a
  ·subst z;exact .inr (.inl h1)
  ·rw[upd_ne z] at e;exact st.Fn b e
theorem Stp.free(st:Stp g H g' H'){a:Addr}(h:H' a=none):H a=none:=by
 cases q:H a with
 | none=>rfl
 | some u=>exact absurd h (st.dom a (by rw[q];simp))
theorem Iz{o:MO}{p:Addr}(rs:Rs K g m H)(hF:g.F p=none)(hr:∀n,g.r n≠some p)(ob:gK K g o H p):∃u,H p=some u/\RV K { g with F:=upd g.F p u } (frz o) (.ref p):=by
 have mono:∀(u:HO) (b:Addr) (w:HO),g.F b=some w->upd g.F p u b=some w:=λu b w e=>by
  rw[upd_ne (λz=>by rw[z,hF] at e;cases e)];exact e
 cases o with
 | lst xs =>
  obtain⟨ys,e1,r⟩:=ob
  exact⟨_,e1,p,ys,rfl,upd_same,RVs.mono (g:=g) (g':={ g with F:=upd g.F p (.lst ys) }) (mono _) (λ_ _ e=>e) xs r⟩
 | ins c ks xs =>
  obtain⟨dx,fs,e1,e2,e3,r⟩:=ob
  exact⟨_,e1,p,dx,fs,rfl,upd_same,mono _ _ _ e2,e3,RVs.mono (g:=g) (g':={ g with F:=upd g.F p (.ins (K.ga c) dx fs) }) (mono _) (λ_ _ e=>e) xs r⟩
 | dic ks xs =>
  obtain⟨u,kvs,e1,e3,r,r2⟩:=ob
  exact⟨_,e1,p,u,kvs,rfl,upd_same,e3,RVs.mono (g:=g) (g':={ g with F:=upd g.F p u }) (mono _) (λ_ _ e=>e) ks r,RVs.mono (g:=g) (g':={ g with F:=upd g.F p u }) (mono _) (λ_ _ e=>e) xs r2⟩
 | dit ks xs =>
  obtain⟨u,kvs,e1,e3,r,r2⟩:=ob
  exact⟨_,e1,p,u,kvs,rfl,upd_same,e3,RVs.mono (g:=g) (g':={ g with F:=upd g.F p u }) (mono _) (λ_ _ e=>e) ks r,RVs.mono (g:=g) (g':={ g with F:=upd g.F p u }) (mono _) (λ_ _ e=>e) xs r2⟩
theorem PQ{f:Sl->Mem->R MO}(h:tE K W (λs m=>(f s m).bind λo m=>.ok (.v (frz o)) m) σ H Q):tF K W f σ H Q:=by
 obtain⟨g,s,m,rs,rl,p⟩:=h
 refine⟨g,s,m,rs,rl,?_⟩
 have p:eZ K (WE W σ) g H ((f s m).bind λo m=>R.ok (OV.v (frz o)) m) Q:=p
 cases e:f s m with
 | stuck=>rw[e] at p;exact p
 | exc c ks xs m'=>rw[e] at p;exact p
 | ok o m' =>
  rw[e] at p
  intro g' q H' rs' st hq hF hr ob
  obtain⟨u,e1,r⟩:=Iz rs' hF hr ob
  exact p _ _ H' (rs'.vN e1 hr hF (ob.nt e1)) (st.frz hq hF) r
end
structure Fn where
 name:Str
 ps:List Str
 M:Mir
instance:Inhabited Fn:=⟨⟨⟨#[]⟩,[],λ_ _=>.stuck⟩⟩
def Ea(r:FR):R OV:=match r with
 | .ok x m'=>.ok (.v x) m'
 | .new o m'=>.ok (.v (frz o)) m'
 | .exc c ks xs m'=>.exc c ks xs m'
 | .stuck=>.stuck
def W7(r:FR):R OV:=match r with
 | .new o m'=>.ok (.v (.ref m'.length)) (m'++[some o])
 | .exc c ks xs m'=>.exc c ks xs m'
 | _=>.stuck
def HF(M:Mir)(as:List OV)(m:Mem):R OV:=match vals as with
 | some xs=>Ea (M xs m)
 | none=>.stuck
def G6(M:Mir)(as:List OV)(m:Mem):R OV:=match vals as with
 | some xs=>W7 (M xs m)
 | none=>.stuck
def sX(K:Ki)(E:XK)(g:G)(H:Hp)(r:FR)(Q:VK):Prop:=match r with
 | .ok x m'=>∀g' v H',Rs K g' m' H'->Stp g H g' H'->RV K g' x v->Q v H'
 | .new o m'=>∀g' p H',Rs K g' m' H'->Stp g H g' H'->H p=none->g'.F p=none->(∀n,g'.r n≠some p)->gK K g' o H' p->Q (.ref p) H'
 | .exc c ks xs m'=>∀g' cls d H',Rs K g' m' H'->Stp g H g' H'->ExR K g' c ks xs cls d->E cls d H'
 | .stuck=>False
def spM(K:Ki)(n:Nat)(M:Mir):Sp:=λvs H Q E=>∃g m as,Rs K g m H/\RVs K g as vs/\as.length=n/\sX K E g H (M as m) Q
theorem sX.shift{K:Ki}{g g':G}{H H':Hp}{r:FR}{Q:VK}(t:Stp g H g' H')(h:sX K E g H r Q):sX K E g' H' r Q:=by
 cases r with
 | ok x m'=>exact λg2 v H2 a b c=>h g2 v H2 a (t.trans b) c
 | new o m'=>exact λg2 p H2 a b c d e f=>h g2 p H2 a (t.trans b) (t.free c) d e f
 | exc c ks xs m'=>exact λg2 cls d H2 a b e=>h g2 cls d H2 a (t.trans b) e
 | stuck=>exact h
abbrev dI:=Program->World->PySem.W.Frag->(Str->Option Value)->Heap->Nat->Prop
structure FnAt(P:Program)(w:World)(K:PySem.W.Frag)(mg:Str->Option Value)(base:Heap)(k:Nat)(f:Addr)(fd:FuncData)(F:Fn):Prop where
 ok:FnOk P w K mg base (L2N.CX P w) k f fd F.ps (spM ⟨K,P,w⟩ F.ps.length F.M)
 bi:Binds K fd F.ps []
 kp:PySem.W.keepIn K (.ref f)=true
 pos:0<k
theorem FnAt.mono{P:Program}{w:World}{K:PySem.W.Frag}{mg:Str->Option Value}{base:Heap}{j k:Nat}{f:Addr}{fd:FuncData}{F:Fn}(c:FnAt P w K mg base j f fd F)(h:j<=k):FnAt P w K mg base k f fd F:=⟨c.ok.mono h,c.bi,c.kp,qQ2 c.pos h⟩
def nFn(F:Fn):dI:=λP w K mg base k=>∃f fd,mg F.name=some (.ref f)/\FnAt P w K mg base k f fd F
section
variable{K:Ki}{g:G}{H:Hp}{m:Mem}{Q:VK}{E:XK}
theorem Az{r:FR}(h:eZ K E g H (Ea r) Q):sX K E g H r Q:=by
 cases r with
 | ok x m'=>exact h
 | new o m' =>
  intro g' q H' rs' st hq hF hr ob
  obtain⟨u,e1,r⟩:=Iz rs' hF hr ob
  exact h _ _ H' (rs'.vN e1 hr hF (ob.nt e1)) (st.frz hq hF) r
 | exc c ks xs m'=>exact h
 | stuck=>exact h
theorem Rs.adopt{o:MO}{p:Addr}(rs:Rs K g m H)(hF:g.F p=none)(hr:∀n,g.r n≠some p)(ob:gK K g o H p):Rs K { g with r:=λn=>if n=m.length then some p else g.r n } (m++[some o]) H:=by
 have mono:∀(n:Nat) a,g.r n=some a->(if n=m.length then some p else g.r n)=some a:=λn a e=>by
  have:=(rs.rb n a e).1
  rw[if_neg (by omega)];exact e
 have ob':∀{u:MO}{a:Addr},gK K g u H a->gK K { g with r:=λn=>if n=m.length then some p else g.r n } u H a:=λ{u a} h=>gK.grow h (λ_ _ e=>e) mono rfl
 refine⟨rs.sub,λn u e=>?_,λn a e=>?_,λn k a e1 e2=>?_,λq hq=>?_⟩
 ·by_cases hn:n=m.length
  ·subst hn
   rw[qQx (Nat.le_refl _)] at e
   simp at e
   subst e
   exact⟨p,by simp,hF,ob' ob⟩
  ·have hl:n<m.length:=by
    have:=(qQa.mp e).1
    simp at this
    omega
   rw[qQo hl] at e
   obtain⟨a,e1,e2,e3⟩:=rs.gr n u e
   exact⟨a,mono n a e1,e2,ob' e3⟩
 ·have e:(if n=m.length then some p else g.r n)=some a:=e
  by_cases hn:n=m.length
  ·rw[if_pos hn] at e;cases e
   obtain⟨u,q⟩:=ob.some
   exact⟨by simp[hn],by rw[q];simp⟩
  ·rw[if_neg hn] at e
   obtain⟨h1,h2⟩:=rs.rb n a e
   exact⟨by simp;omega,h2⟩
 ·have e1:(if n=m.length then some p else g.r n)=some a:=e1
  have e2:(if k=m.length then some p else g.r k)=some a:=e2
  by_cases hn:n=m.length <;> by_cases hk:k=m.length
  ·omega
  ·rw[if_pos hn] at e1;rw[if_neg hk] at e2;cases e1;exact absurd e2 (hr k)
  ·rw[if_neg hn] at e1;rw[if_pos hk] at e2;cases e2;exact absurd e1 (hr n)
  ·rw[if_neg hn] at e1;rw[if_neg hk] at e2;exact rs.rj n k a e1 e2
 ·obtain⟨u,e0,nt⟩:=ob.zN
  have tq:=rs.tb q hq
  refine tq.go rfl (λ_ _ e=>e) tq.F λn e=>?_
  have e:(if n=m.length then some p else g.r n)=some q.2.1:=e
  split at e
  ·exact tq.ne e0 nt (qQ5 e)
  ·exact tq.r n e
theorem Gy{r:FR}(h:eZ K E g H (W7 r) Q):sX K E g H r Q:=by
 cases r with
 | ok x m'=>exact h.elim
 | new o m' =>
  intro g' q H' rs' st hq hF hr ob
  refine h _ _ H' (rs'.adopt hF hr ob) ⟨st.F,λk a e=>?_,st.keep,st.dom,st.Fn,λk b e=>?_⟩ ⟨q,rfl,by simp⟩
  ·have e:=st.r k a e
   have:=(rs'.rb k a e).1
   show (if k=m'.length then some q else g'.r k)=some a
   rw[if_neg (by omega)];exact e
  ·have e:(if k=m'.length then some q else g'.r k)=some b:=e
   by_cases hk:k=m'.length
   ·rw[if_pos hk] at e;cases e;exact .inr hq
   ·rw[if_neg hk] at e;exact st.rn k b e
 | exc c ks xs m'=>exact h
 | stuck=>exact h
def tCl(K:Ki)(W:WX)(M:Mir)(n:Nat)(t:TA):TE:=fun σ H Q=>t σ H λvs H1=>vs.length=n/\spM K n M vs H1 Q (WE W σ)
theorem Nb{M:Mir}{xs:List OV}{ys:List MV}{vs:List V}(rs:Rs K g m H)(r:Paired (RO K g H) xs vs)(e:vals xs=some ys)(p:sX K E g H (M ys m) Q):spM K vs.length M vs H Q E:=by
 have r2:=rD r e
 exact⟨g,m,ys,rs,r2,r2.length,p⟩
end
section
variable{K:Ki}{W:WX}{σ:St}{H:Hp}{Q:VK}{M:Mir}{n:Nat}{fs:Sl->Mem->R (List OV)}
theorem Ro(hn:∀s m xs m',fs s m=.ok xs m'->xs.length=n)(h:tE K W (λs m=>(fs s m).bind λxs m=>HF M xs m) σ H Q):tCl K W M n (tA K W fs) σ H Q:=by
 obtain⟨g,s,m,rs,rl,p⟩:=h
 refine⟨g,s,m,rs,rl,?_⟩
 have p:eZ K (WE W σ) g H ((fs s m).bind λxs m=>HF M xs m) Q:=p
 cases e:fs s m with
 | stuck=>rw[e] at p;exact p
 | exc c ks xs m'=>rw[e] at p;exact p
 | ok xs m1 =>
  rw[e] at p
  intro g1 vs H1 rs1 st1 r1
  have p1:=dG.shift st1 (show eZ K (WE W σ) g H (HF M xs m1) Q from p)
  unfold HF at p1
  split at p1
  ·rename_i ys e2
   have hl:vs.length=n:=by rw[<- Paired.length r1,hn s m xs m1 e]
   exact⟨hl,hl ▸ Nb rs1 r1 e2 (Az p1)⟩
  ·exact p1.elim
theorem Kd(hn:∀s m xs m',fs s m=.ok xs m'->xs.length=n)(h:tE K W (λs m=>(fs s m).bind λxs m=>G6 M xs m) σ H Q):tCl K W M n (tA K W fs) σ H Q:=by
 obtain⟨g,s,m,rs,rl,p⟩:=h
 refine⟨g,s,m,rs,rl,?_⟩
 have p:eZ K (WE W σ) g H ((fs s m).bind λxs m=>G6 M xs m) Q:=p
 cases e:fs s m with
 | stuck=>rw[e] at p;exact p
 | exc c ks xs m'=>rw[e] at p;exact p
 | ok xs m1 =>
  rw[e] at p
  intro g1 vs H1 rs1 st1 r1
  have p1:=dG.shift st1 (show eZ K (WE W σ) g H (G6 M xs m1) Q from p)
  unfold G6 at p1
  split at p1
  ·rename_i ys e2
   have hl:vs.length=n:=by rw[<- Paired.length r1,hn s m xs m1 e]
   exact⟨hl,hl ▸ Nb rs1 r1 e2 (Gy p1)⟩
  ·exact p1.elim
end
structure Cfg where
 N:List Str
 sc:Scope
 gA:List Str
 cst:List (Str × MV)
 top:Bool:=true
 calm:Bool:=true
 lam:Bool:=false
def Cfg.blk(c:Cfg)(scope:Scope):Cfg:={ c with sc:=relS scope c.sc,top:=false }
def Cfg.U5(c:Cfg)(scope:Scope):Cfg:={ c with sc:=scope,top:=false,calm:=true,lam:=false }
structure bV(k:Nat)(W:WX)(c:Cfg)(X:Cx):Prop where
 tk:L2N.Takes X W
 sc:X.env.scope=c.sc
 N:X.N=c.N
 nd:X.N.Nodup
 calm:c.calm=true->X.calm=true
 blt:∀x∈c.gA,X.mg x=none
 cst:∀x v,(x,v)∈c.cst->∃u w,X.mg x=some u/\RelV w u/\∀g,RV X.ki g v w
 room:0<k->Room k X.A
 un:X.A.units+66<cLine
 lam:c.lam=true->∃cd P,X.env.code=.ref cd/\LamX.TabB X.base X.mg cd P/\(cd,P,X.env.qual++"<lambda>")∈dU X.K
 top:c.top=true->∀x,X.env.scope.names.lookup x=some .cell->X.fn x=true
 wish:c.top=true->PassesOwn (model X.prog X.w) X.A X.env X.xe
 stk:c.top=true->X.stack=X.env::X.outer/\X.env.frame=some X.env.locals/\X.ex=[]
abbrev dI.at(n:dI)(X:Cx)(k:Nat):Prop:=n X.prog X.w X.K X.mg X.base k
def Uu(fa:Sl->Mem->R OV)(fs:Sl->Mem->R (List OV)):Sl->Mem->R (List OV):=λs m=>(fa s m).bind λx m=>(fs s m).bind λxs m=>.ok (x::xs) m
inductive Parts (X:Cx) (W:WX):List Expr->(Sl->Mem->R (List OV))->Prop
 | nil:Parts X W [] (λ_ m=>.ok [] m)
 | cons {e:Expr}{es:List Expr}{fe:Sl->Mem->R OV}{fs:Sl->Mem->R (List OV)}:PE X e (tE X.ki W fe)->Parts X W es fs->Parts X W (e::es) (Uu fe fs)
def cR:Expr->Bool
 | .Starred ..=>false
 | _=>true
section
variable{env:Env}{e:Expr}{es:List Expr}{pos:Pos}
theorem dH(h:cR e=true):starEach (e::es) env=(false,eval e env)::starEach es env:=by
 cases e <;> first|rfl|cases h
end
section
variable{X:Cx}{W:WX}
theorem Parts.len{es:List Expr}{fs:Sl->Mem->R (List OV)}(p:Parts X W es fs):∀s m xs m',fs s m=.ok xs m'->xs.length=es.length:=by
 induction p with
 | nil=>intro s m xs m' h;cases h;rfl
 | @cons e es fe fs _ _ ih =>
  intro s m xs m' h
  have h:((fe s m).bind λx m=>(fs s m).bind λxs m=>.ok (x::xs) m)=R.ok xs m':=h
  cases e1:fe s m with
  | stuck=>rw[e1] at h;cases h
  | exc c ks xs m1=>rw[e1] at h;cases h
  | ok x m1 =>
   rw[e1] at h
   have h:((fs s m1).bind λxs m=>.ok (x::xs) m)=R.ok xs m':=h
   cases e2:fs s m1 with
   | stuck=>rw[e2] at h;cases h
   | exc c ks xs m2=>rw[e2] at h;cases h
   | ok ys m2 =>
    rw[e2] at h
    have h:R.ok (x::ys) m2=R.ok xs m':=h
    cases h
    simp[ih s m1 ys _ e2]
theorem Parts.pa{es:List Expr}{fs:Sl->Mem->R (List OV)}(p:Parts X W es fs):(es.all cR=true)->PA X es (tA X.ki W fs):=by
 induction p with
 | nil=>exact λ_=>pa_nil.weaken fun σ H Q h=>Gg h
 | cons a _ ih =>
  intro h
  rw[List.all_cons,qQb] at h
  exact (pa_cons a (ih h.2) (dH h.1)).weaken fun σ H Q q=>zG q
theorem noStar{env:Env}{pos:Pos}:∀{es:List Expr},es.all cR=true->(backTo pos (starEach es env)).any (·.1)=false
 | [],_=>rfl
 | e::es,h=>by
  rw[List.all_cons,qQb] at h
  rw[dH h.1]
  show (false || (backTo pos (starEach es env)).any (·.1))=false
  rw[noStar h.2]
  rfl
@[simp] theorem qO{α β:Type}(a:α)(m:Mem)(k:α->Mem->R β):(R.ok a m).bind k=k a m:=rfl
theorem bind_assoc{α β γ:Type}(r:R α)(k:α->Mem->R β)(l:β->Mem->R γ):(r.bind k).bind l=r.bind λx m=>(k x m).bind l:=by
 cases r <;> rfl
theorem Parts.p0{fs:Sl->Mem->R (List OV)}(p:Parts X W [] fs):fs=λ_ m=>.ok [] m:=by cases p;rfl
theorem Parts.p1{a:Expr}{fs:Sl->Mem->R (List OV)}(p:Parts X W [a] fs):∃fa,PE X a (tE X.ki W fa)/\∀{β:Type} (F:List OV->Mem->R β),(λs m=>(fs s m).bind F)=λs m=>(fa s m).bind λx m=>F [x] m:=by
 cases p with
 | cons p q =>
  cases q
  refine⟨_,p,λF=>?_⟩
  funext s m
  simp only[Uu,bind_assoc,qO]
theorem Parts.p2{a b:Expr}{fs:Sl->Mem->R (List OV)}(p:Parts X W [a,b] fs):∃fa fb,PE X a (tE X.ki W fa)/\PE X b (tE X.ki W fb)/\∀{β:Type} (F:List OV->Mem->R β),(λs m=>(fs s m).bind F)=λs m=>(fa s m).bind λx m=>(fb s m).bind λy m=>F [x,y] m:=by
 cases p with
 | cons p q =>
  obtain⟨fb,q1,q2⟩:=Parts.p1 q
  refine⟨_,fb,p,q1,λF=>?_⟩
  funext s m
  simp only[Uu,bind_assoc,qO]
  congr 1
  funext x m
  exact congrFun (congrFun (q2 λxs m=>F (x::xs) m) s) m
theorem Parts.p3{a b c:Expr}{fs:Sl->Mem->R (List OV)}(p:Parts X W [a,b,c] fs):∃fa fb fc,PE X a (tE X.ki W fa)/\PE X b (tE X.ki W fb)/\PE X c (tE X.ki W fc)/\∀{β:Type} (F:List OV->Mem->R β),(λs m=>(fs s m).bind F)=λs m=>(fa s m).bind λx m=>(fb s m).bind λy m=>(fc s m).bind λz m=>F [x,y,z] m:=by
 cases p with
 | cons p q =>
  obtain⟨fb,fc,q1,q2,q3⟩:=Parts.p2 q
  refine⟨_,fb,fc,p,q1,q2,λF=>?_⟩
  funext s m
  simp only[Uu,bind_assoc,qO]
  congr 1
  funext x m
  exact congrFun (congrFun (q3 λxs m=>F (x::xs) m) s) m
end
def aeX:dI:=λ_ _ _ _ _ k=>∃j,k=j+2
def aee(n:dI):dI:=λP w K mg base k=>∃j,k=j+2/\n P w K mg base j
structure Ug where
 need:List dI:=[]
 parts:Cfg->Expr->Option (Scope × Expr)
 F:R OV->R OV
 ok:∀{k:Nat}{W:WX}{c:Cfg}{X:Cx}{e:Expr}{sc:Scope}{b:Expr}{fe:Sl->Mem->R OV},bV (k+2) W c X->(∀n∈need,n.at X (k+2))->parts c e=some (sc,b) ->
  (∀(X':Cx) (W':WX),X'.prog=X.prog->X'.w=X.w->X'.K=X.K->X'.mg=X.mg->X'.base=X.base->bV k W' (c.U5 sc) X'->PE X' b (tE X'.ki W' fe))->PE X e (tE X.ki W λs m=>F (fe s m))
def Mj:dI:=λ_ _ _ _ _ k=>∃j,k=j+3
def aaj(n:dI):dI:=λP w K mg base k=>∃j,k=j+3/\n P w K mg base j
inductive CK (X:Cx) (c:Cfg) (k:Nat):List (Scope × Expr)->List (Sl->Mem->R OV)->Prop
 | nil:CK X c k [] []
 | cons {sc:Scope}{b:Expr}{fe:Sl->Mem->R OV}{l:List (Scope × Expr)}{fs:List (Sl->Mem->R OV)}:(∀(X':Cx) (W':WX),X'.prog=X.prog->X'.w=X.w->X'.K=X.K->X'.mg=X.mg->X'.base=X.base->bV k W' (c.U5 sc) X'->PE X' b (tE X'.ki W' fe))->CK X c k l fs->CK X c k ((sc,b)::l) (fe::fs)
structure Oa where
 need:List dI:=[]
 parts:Cfg->Expr->Option (List (Scope × Expr))
 F:List (Mem->R OV)->Mem->R OV
 ok:∀{k:Nat}{W:WX}{c:Cfg}{X:Cx}{e:Expr}{l:List (Scope × Expr)}{fs:List (Sl->Mem->R OV)},bV (k+3) W c X->(∀n∈need,n.at X (k+3))->parts c e=some l->CK X c k l fs->PE X e (tE X.ki W λs m=>F (fs.map λf=>f s) m)
structure o9 where
 need:List dI:=[]
 parts:Cfg->Expr->Option (List Expr)
 F:List OV->Mem->R OV
 ok:∀{k:Nat}{W:WX}{c:Cfg}{X:Cx}{e:Expr}{es:List Expr}{fs:Sl->Mem->R (List OV)},bV k W c X->(∀n∈need,n.at X k)->parts c e=some es->Parts X W es fs->PE X e (tE X.ki W λs m=>(fs s m).bind F)
structure KC where
 need:List dI:=[]
 parts:Cfg->Expr->Option (List Expr)
 F:List OV->Mem->R MO
 ok:∀{k:Nat}{W:WX}{c:Cfg}{X:Cx}{e:Expr}{es:List Expr}{fs:Sl->Mem->R (List OV)},bV k W c X->(∀n∈need,n.at X k)->parts c e=some es->Parts X W es fs->PE X e (tF X.ki W λs m=>(fs s m).bind F)
structure iZ where
 need:List dI:=[]
 op:CmpOp->Bool
 F:OV->OV->Mem->R OV
 ok:∀{k:Nat}{W:WX}{c:Cfg}{X:Cx}{o:CmpOp},bV k W c X->(∀n∈need,n.at X k)->op o=true->OpR X (compareOp o) (t2 X.ki F)
inductive Sk where
 | l
 | t
def Sk.sq(K:PySem.W.Frag)(H:Hp)(a:Addr)(xs:List V):Sk->Prop
 | .l=>SqL K H a xs
 | .t=>SqT K H a xs
def Sk.isI(h:Heap)(it a:Addr)(i:Nat):Sk->Prop
 | .l=>h.IsListIter it a i
 | .t=>h.IsTupleIter it a i
def Sk.isC(h:Heap)(a:Addr)(items:Array Value):Sk->Prop
 | .l=>h.IsList a items
 | .t=>h.IsTuple a items
def Sk.ob(a:Addr):Sk->Obj
 | .l=>{ cls:=.type "list_iterator",data:=.fields #[.ref a,.int 0 0] }
 | .t=>{ cls:=.type "tuple_iterator",data:=.fields #[.ref a,.int 0 0] }
section
variable{prog:Program}{w:World}{A:Around}
theorem Sk.draws(hh:A.handled=none)(it a:Addr)(hne:a≠it)(items:Array Value)(k:Sk):Draws prog w A it [it,a] items.size (λi v=>items[i]? = some v) (λi h=>k.isI h it a i/\k.isC h a items):=by
 cases k with
 | l=>exact Draws.list hh it a hne items
 | t=>exact Draws.tuple hh it a hne items
theorem Sk.begins(a:Addr)(items:Array Value)(k:Sk):Begins (.ref a) (k.ob a) λh=>k.isC h a items:=by
 cases k with
 | l=>exact begins_list a items
 | t=>exact begins_tuple a items
theorem Sk.Nq{h h':Heap}{it a:Addr}{i:Nat}{k:Sk}(x:k.isI h it a i)(e:∀o,h.get? it=some o->h'.get? it=some o):k.isI h' it a i:=by
 cases k with
 | l=>exact Heap.IsListIter.at x e
 | t=>exact Heap.IsTupleIter.at x e
theorem Sk.Bc{h:Heap}{it a:Addr}{i:Nat}{k:Sk}(x:k.isI h it a i):∃o,h.get? it=some o/\∀v,o.data≠.cell v:=by
 cases k with
 | l=>obtain⟨o,e,_,d⟩:=x;exact⟨o,e,λv q=>by rw[d] at q;cases q⟩
 | t=>obtain⟨o,e,_,d⟩:=x;exact⟨o,e,λv q=>by rw[d] at q;cases q⟩
theorem Sk.ne{h:Heap}{it a c:Addr}{i:Nat}{k l:Sk}{items:Array Value}(x:k.isI h it a i)(y:l.isC h c items):c≠it:=by
 rintro rfl
 cases k <;> cases l <;>
  (obtain⟨o,e,q,_⟩:=x;obtain⟨u,f,r,_⟩:=y;rw[e] at f;cases f;rw[q] at r;injection r with r;exact absurd r (by decide))
theorem Sk.Fd{h:Heap}{it a:Addr}{k:Sk}(e:h.get? it=some (k.ob a)):k.isI h it a 0:=by
 cases k with
 | l=>exact⟨_,e,rfl,rfl⟩
 | t=>exact⟨_,e,rfl,rfl⟩
end
section
variable{X:Cx}{pins:List (Addr × Obj)}{σ:St}{H:Hp}{s:Shared}
theorem Sk.seq(I:Inv X pins σ H s){a:Addr}{xs:List V}{k:Sk}(h:k.sq X.K H a xs):∃its,Vals xs its/\k.isC s.heap a its.toArray/\a<s.heap.objs.size:=by
 cases k with
 | l=>obtain⟨its,r,p,_⟩:=I.list h;exact⟨its,r,p.isList,p.lt⟩
 | t=>obtain⟨its,r,p,_⟩:=I.tuple h;exact⟨its,r,p,p.lt⟩
theorem Sk.inj(I:Inv X pins σ H s){a:Addr}{xs ys:List V}{k:Sk}(h:k.sq X.K H a xs)(h':k.sq X.K H a ys):xs=ys:=by
 cases k with
 | l=>exact I.list_inj h h'
 | t=>exact I.tuple_inj h h'
end
def ItK(K:PySem.W.Frag)(k l:Sk)(a b:Addr):It :=
 ⟨λi H=>∃(xs ys:List V) (x y:V),k.sq K H a xs/\l.sq K H b ys/\xs[i]? = some x/\ys[i]? = some y,
  λi H v H'=>∃T x y,v=.ref T/\H T=none/\H'=upd H T (.tup [x,y])/\(∀xs,k.sq K H a xs->xs[i]? = some x)/\∀ys,l.sq K H b ys->ys[i]? = some y,
  λi H=>∃xs ys:List V,k.sq K H a xs/\l.sq K H b ys/\i=min xs.length ys.length⟩
theorem Z9{P:Program}{w:World}{K:PySem.W.Frag}{elts:List Expr}{kk:Nat}{tpos:Pos}{k l:Sk}{a b z TI TO i1 i2:Addr}(D:ZipSep2 z TI TO i1 i2 [i1,a] [i2,b]):
  Turn P w K (.Tuple elts kk tpos) (ItK K k l a b) [z,TI,TO,i1,i2] z (λi h=>IsZip h z TI TO .none/\IsTupOf2 h TI (.ref i1) (.ref i2)/\(∃x y,IsTupOf2 h TO x y)/\k.isI h i1 a i/\l.isI h i2 b i) where
 mem:=by simp
 obj:=λi h st c hc=>by
  obtain⟨hz,hTI,⟨x,y,hTO⟩,h1,h2⟩:=st
  have e':c=z\/c=TI\/c=TO\/c=i1\/c=i2:=by simpa using hc
  rcases e' with rfl|rfl|rfl|rfl|rfl
  ·exact⟨_,hz,λv q=>nomatch q⟩
  ·exact⟨_,hTI,λv q=>nomatch q⟩
  ·exact⟨_,hTO,λv q=>nomatch q⟩
  ·exact Sk.Bc h1
  ·exact Sk.Bc h2
 keep:=λi h h' st q=>by
  obtain⟨hz,hTI,⟨x,y,hTO⟩,h1,h2⟩:=st
  exact⟨q z (by simp) _ hz,q TI (by simp) _ hTI,⟨x,y,q TO (by simp) _ hTO⟩,Sk.Nq h1 λo e=>q i1 (by simp) o e,Sk.Nq h2 λo e=>q i2 (by simp) o e⟩
 item:=by
  intro X hP hw hK hc i pins s σ H E I hf st hg
  subst hP hw hK
  obtain⟨hz,hTI,hTO,h1,h2⟩:=st
  obtain⟨xs,ys,x,y,qx,qy,ex,ey⟩:=hg
  obtain⟨its,rv,c1,l1⟩:=Sk.seq I qx
  obtain⟨jts,rw',c2,l2⟩:=Sk.seq I qy
  obtain⟨u,hu,ru⟩:=rv.get ex
  obtain⟨u2,hu2,ru2⟩:=rw'.get ey
  have hh:=I.ok.hd hc
  have m1:i<its.toArray.size:=by simpa using (qQa.mp hu).1
  have m2:i<jts.toArray.size:=by simpa using (qQa.mp hu2).1
  refine wpAny_mono ((GoesN.zip2 (elts:=elts) (x1:=kk) (pos:=tpos) D (Sk.draws (A:=X.A.in1) hh i1 a (Sk.ne h1 c1) its.toArray k) (Sk.draws (A:=X.A.in1) hh i2 b (Sk.ne h2 c2) jts.toArray l)).goes i s
   (λv s2=>∃x H',Inv X pins σ H' s2/\RelV x v/\(ItK X.K k l a b).yld i H x H'/\(IsZip s2.heap z TI TO .none/\IsTupOf2 s2.heap TI (.ref i1) (.ref i2)/\(∃x y,IsTupOf2 s2.heap TO x y)/\k.isI s2.heap i1 a (i+1)/\l.isI s2.heap i2 b (i+1))/\∀b∈[z,TI,TO,i1,i2],H' b=none) E (by omega) ⟨hz,hTI,hTO,⟨h1,c1⟩,h2,c2⟩ λv h' tk y st' keep _=>?_) (λr s1 ⟨v,e,q⟩=>⟨v,e,q⟩) λ_ _ q=>q
  obtain⟨T,p,q,rfl,hT,e1,e2,ot,o1,o2,n,o3⟩:=y
  obtain⟨s1,s2,s3,⟨s4,_⟩,s5,_⟩:=st'
  have e1:its[i]? = some p:=by simpa using e1
  have e2:jts[i]? = some q:=by simpa using e2
  rw[hu] at e1;cases e1
  rw[hu2] at e2;cases e2
  have new:ObjOk X.prog X.w (upd H T (.tup [x,y])) h' T (.tup [x,y]):=⟨by show 2<=sizeLine;decide,[u,u2],.cons ru (.cons ru2 .nil),⟨ot,o1,o2,n,o3⟩⟩
  refine⟨.ref T,_,I.turnedNew (t':=tk) (ch:=[z,TO,i1,i2]) keep (λc hc=>hf c (by simp only[qQj,qQl,or_false] at hc ⊢;rcases hc with h|h|h|h <;> simp[h])) hT new,rfl,⟨T,x,y,rfl,I.hok.fresh hT,rfl,λl hl=>by rw[Sk.inj I hl qx];exact ex,λl hl=>by rw[Sk.inj I hl qy];exact ey⟩,⟨s1,s2,s3,s4,s5⟩,λc hcm=>?_⟩
  have lt:c<s.heap.objs.size:=by
   have z1:=Sk.Bc h1
   have z2:=Sk.Bc h2
   obtain⟨_,_,hTO⟩:=hTO
   obtain⟨_,z1,_⟩:=z1
   obtain⟨_,z2,_⟩:=z2
   simp only[qQj,qQl,or_false] at hcm
   rcases hcm with rfl|rfl|rfl|rfl|rfl
   ·exact Heap.lt_size hz
   ·exact Heap.lt_size hTI
   ·exact Heap.lt_size hTO
   ·exact Heap.lt_size z1
   ·exact Heap.lt_size z2
  rw[upd_ne (Nat.ne_of_lt (qQ2 lt hT))]
  exact (hf c hcm).1
 done:=by
  intro X hP hw hK hc i pins s σ H E I hf st hg
  subst hP hw hK
  obtain⟨hz,hTI,hTO,h1,h2⟩:=st
  obtain⟨xs,ys,qx,qy,rfl⟩:=hg
  obtain⟨its,rv,c1,l1⟩:=Sk.seq I qx
  obtain⟨jts,rw',c2,l2⟩:=Sk.seq I qy
  have hh:=I.ok.hd hc
  have e:min its.toArray.size jts.toArray.size=min xs.length ys.length:=by
   rw[List.size_toArray,List.size_toArray,<- rv.length,<- rw'.length]
  have g:=GoesN.zip2 (prog:=X.prog) (w:=X.w) (elts:=elts) (x1:=kk) (pos:=tpos) D (Sk.draws (A:=X.A.in1) hh i1 a (Sk.ne h1 c1) its.toArray k) (Sk.draws (A:=X.A.in1) hh i2 b (Sk.ne h2 c2) jts.toArray l)
  rw[e] at g
  exact g.stops s (λs1=>Inv X pins σ H s1) E ⟨hz,hTI,hTO,⟨h1,c1⟩,h2,c2⟩ λh' tk keep _=>I.turnedL (t':=tk) (ch:=[z,TO,i1,i2]) keep (λc hc=>hf c (by simp only[qQj,qQl,or_false] at hc ⊢;rcases hc with h|h|h|h <;> simp[h]))
 self:=λA i s Q E st h=>wpAny_pyIter_zip st.1 h
def aaD(K:PySem.W.Frag)(ta:TA):TI:=fun σ H R=>ta σ H λvs H1=>∃k l a b xs ys,vs=[.ref a,.ref b]/\Sk.sq K H1 a xs k/\Sk.sq K H1 b ys l/\R (ItK K k l a b) H1
theorem Qo{X:Cx}{e e2:Expr}{ta:TA}{p pos tpos:Pos}{elts:List Expr}{kk:Nat}(hg:Gl X "zip")(hm:X.mg "zip" = none)(ha:PA X [e,e2] ta)(h1:cR e=true)(h2:cR e2=true):
  PI X (.Tuple elts kk tpos) (.Call (.Name "zip" p) [e,e2] [] pos) (aaD X.K ta):=by
 refine⟨λpins s σ H R I h=>?_⟩
 refine Call_ (ld_blt I hg hm PyProof.Rows.boot_zip (PyProof.Rows.callWith_type1 (thn (ha.run pos pins s σ H _ I h) λus s1 ⟨vs,H1,I1,r1,q1⟩=>?_) (dH h1) (noStar (es:=[e2]) (by simp[h2]))))
 obtain⟨k,l,a,b,xs,ys,rfl,qx,qy,q⟩:=q1
 cases r1 with
 | cons r rr =>
  cases rr with
  | cons r' rr =>
   cases rr
   cases r
   cases r'
   obtain⟨its,rv,c1,l1⟩:=Sk.seq I1 qx
   obtain⟨jts,rw',c2,l2⟩:=Sk.seq I1 qy
   refine zip_begins2 (Sk.begins a its.toArray k) (Sk.begins b jts.toArray l) c1 c2 λh' hz hTI hTO g1 g2 hsz hk=>wpAny_pyIter_zip hz ?_
   have I2:Inv X pins σ H1 { s1 with heap:=h' }:=I1.kept (t':=s1.toks) hk
   refine⟨s1.heap.objs.size+4,[s1.heap.objs.size+4,s1.heap.objs.size+2,s1.heap.objs.size+3,s1.heap.objs.size,s1.heap.objs.size+1],_,_,H1,rfl,I2,Z9 (zip_sep2 (fp1:=[a]) (fp2:=[b]) (by simpa using l1) (by simpa using l2)),
    ⟨hz,hTI,⟨_,_,hTO⟩,Sk.Fd g1,Sk.Fd g2⟩,λc hcm=>?_,q⟩
   have hle:s1.heap.objs.size<=c:=by
    simp only[qQj,qQl,or_false] at hcm
    rcases hcm with h|h|h|h|h <;> (rw[h];first|exact Nat.le_add_right _ _|exact Nat.le_refl _)
   exact I1.fpOk hle (I1.hok.fresh hle)
set_option maxHeartbeats 1000000 in
theorem TY{v:Value}{o:Obj}{Hp0:Heap->Prop}(B:Begins v o Hp0):
  Meets (Builtin.«enumerate.__new__» ⟨[.type "enumerate",v],[]⟩) (λ_ R s=>Hp0 s.heap /\
   R (.ok (.ret (.ref (s.heap.push o).objs.size))) { s with heap:=(s.heap.push o).push { cls:=.type "enumerate",data:=.fields #[.none,.bool false,.ref s.heap.objs.size,rawInt 0,.none,.none] } }) :=
 .of_wp λprog w A R s h=>by
  obtain⟨hp,g,d,tk,os⟩:=s
  obtain⟨h1,h⟩:=h
  have hsub:=sub_enumerate
  have q1:∀{A':Around}{E:Value->Shared->Prop}{Q:Value->Shared->Prop},Q (.ref hp.objs.size) ⟨hp.push o,g,d,tk,os⟩->wpAny (model prog w) A' (pyIter v) Q E ⟨hp,g,d,tk,os⟩:=λq=>B.iter prog w _ _ ⟨hp,g,d,tk,os⟩ _ h1 q
  wp_walk using q1
  refine wpAny_stack_any λst=>wpAny_pure ?_
  split
  ·rename_i c _ _ _ _ _
   cases (c == Value.type "enumerate") <;> (wp_walk using q1;exact⟨_,rfl,h⟩)
  ·wp_walk using q1
   exact⟨_,rfl,h⟩
end Rc
namespace Rc
namespace Unp
open PySem PySem.Spec PyProof.Rows L2
section
variable{P:Program}{w:World}{A:Around}{E:Value->Shared->Prop}{s:Shared}
theorem Nz{it l:Addr}{items:Array Value}(ne:l≠it):∀(n i:Nat) (s:Shared) (Q:List Value->Shared->Prop),s.heap.IsListIter it l i->s.heap.IsList l items->i+n<=items.size ->
  (∀h',h'.IsListIter it l (i+n)->Heap.SameBut it s.heap h'->Q ((items.toList.drop i).take n) { s with heap:=h' })->wpAny (model P w) A (draw (.ref it) n) Q E s
 | 0,i,s,Q,hi,_,_,q=>wpAny_pure (by simpa using q s.heap hi (Heap.SameBut.refl ..))
 | n+1,i,s,Q,hi,hl,le,q=>by
  have lt:i<items.size:=by omega
  show wpAny _ _ (pyNext (.ref it) >>= _) Q E s
  refine wpAny_bind (wpAny_pyNext_list_item hi hl (x:=items[i]) (by simp[lt]) λh1 i1 s1=>?_)
  refine wpAny_bind (wpAny_holding (Nz ne n (i+1) _ _ i1 (hl.extBut s1.extBut ne) (by omega) λh2 i2 s2=>wpAny_pure ?_))
  have:=q h2 (by rw[show i+(n+1)=i+1+n by omega];exact i2) (s1.trans s2)
  rw[show items.toList.drop i=items[i]::items.toList.drop (i+1) by simp[List.drop_eq_getElem_cons,lt],List.take_succ_cons] at this
  exact this
theorem Q8{l:Addr}{items:Array Value}{Q:List Value->Shared->Prop}(hh:A.handled=none)(hl:s.heap.IsList l items)(q:∀h',Heap.ExtBut s.heap.objs.size s.heap h'->Q items.toList { s with heap:=h' }):wpAny (model P w) A (unpackItems (.ref l) items.size none) Q E s:=by
 have ne:l≠s.heap.objs.size:=by obtain⟨o,ho,_⟩:=hl;exact Nat.ne_of_lt (Heap.lt_size ho)
 unfold unpackItems
 refine wpAny_bind ?_
 unfold notIterableAtAll
 refine wpAny_bind (wpAny_specialOf hl.typeIs slot_list_iter.lookup (wpAny_pure ?_))
 simp only[Bool.false_eq_true,if_false]
 refine wpAny_bind (wpAny_holding (wpAny_pyIter_list hl ?_))
 refine wpAny_bind (wpAny_holding (Nz ne items.size 0 _ _ ⟨_,Heap.get?_push_size _ rfl,rfl,rfl⟩ (hl.push _) (by omega) λh1 i1 s1=>?_))
 rw[List.drop_zero,List.take_of_length_le (by simp),if_neg (by simp)]
 refine wpAny_bind (wpAny_holding (wpAny_pyNext_list_end hh i1 ((hl.push _).extBut s1.extBut ne) (by simp) λh2 e2=>?_))
 simp only[Option.isSome_none,Bool.false_eq_true,if_false]
 exact wpAny_pure (q h2 λb o hb e=>e2 b o hb (s1.extBut b o hb (qQu _ e)))
theorem ade{env:Env}{elts:List Expr}{k}{pos:Pos}{l:Addr}{items:Array Value}{Q:Unit->Shared->Prop}(hh:A.handled=none)(hl:s.heap.IsList l items)(hn:(assignEach elts env).length=items.size)(st:(assignEach elts env).findIdx? (·.1)=none)
  (q:∀h',Heap.ExtBut s.heap.objs.size s.heap h'->wpAny (model P w) A (assignInOrder ((assignEach elts env).map (·.2)) items.toList) Q E { s with heap:=h' }):wpAny (model P w) A (assign (.Tuple elts k pos) env (.ref l)) Q E s:=by
 rw[assign_Tuple]
 refine wpAny_bind (wpAny_standAt ?_)
 unfold unpack
 rw[hn,st]
 exact wpAny_bind (wpAny_holding (Q8 hh hl q))
end
end Unp
open PySem PySem.Spec L2
open PyProof.Rows hiding St
def acT(K:PySem.W.Frag)(n:Nat)(t:TGs):TG:=λv σ H Q=>∃a xs,v=.ref a/\(SqT K H a xs\/SqL K H a xs)/\xs.length=n/\t xs σ H Q
theorem Ue{X:Cx}{pos:Pos}{es:List Expr}{k:Nat}{t:TGs}{n:Nat}(hc:X.calm=true)(h:PGs X es t)(hn:(assignEach es X.env).length=n)(hst:(assignEach es X.env).findIdx? (·.1)=none):PG X (.Tuple es k pos) (acT X.K n t):=by
 refine⟨λpins s σ H v u Q I r hw=>?_⟩
 obtain⟨a,xs,rfl,hq|hq,hl,hw⟩:=hw
 ·exact (pg_tup hc h hn hst).run pins s σ H _ u Q I r ⟨a,xs,rfl,hq,hl,hw⟩
 ·cases r
  obtain⟨its,rv,pl,_⟩:=I.list hq
  refine Unp.ade (I.ok.hd hc) pl.isList (by simp[hn,<- hl,rv.length]) hst λh' hx=>?_
  have I1:Inv X pins σ H { s with heap:=h' }:=I.kept (t':=s.toks) λb o e=>hx b o (Nat.ne_of_lt (Heap.lt_size e)) e
  exact h.run pins _ σ H xs _ Q I1 (by simpa using rv) hw
end Rc
namespace Rc
open PySem PySem.Spec L2
open PyProof.Rows hiding St
def W0:WX:=λ_ _ _ _=>False
inductive MG where
 | name (i:Nat)
 | tup (is:List Nat)
structure Wk where
 items:List MV
 watch:List (Nat × MO):=[]
def OkW(wt:List (Nat × MO))(m:Mem):Prop:=∀p∈wt,m[p.1]? = some (some p.2)
theorem d7(m:Mem):OkW [] m:=λ_ h=>by cases h
def gW(s:Sl):List Nat->Sl
 | []=>s
 | v::vs=>(gW s vs).set v none
def iy(s:Sl):List Nat->List MV->Option Sl
 | [],[]=>some s
 | i::is,x::xs=>iy (s.set i (some (.v x))) is xs
 | _,_=>none
def bW(tg:MG)(x:MV)(s:Sl):Option Sl:=match tg with
 | .name i=>some (s.set i (some (.v x)))
 | .tup is=>(match x with
  | .tup xs=>iy s is xs
  | .lst xs=>iy s is xs
  | _=>none)
open Classical in
/-- a comprehension's turns: none: the test said no -/
def cD(f:MV->Mem->R (Option MV))(wt:List (Nat × MO)):List MV->List MV->Mem->R (List MV)
 | [],acc,m=>if OkW wt m then .ok acc m else .stuck
 | x::xs,acc,m=>if OkW wt m then (match f x m with
  | .ok (some y) m=>if acc.length<sizeLine then cD f wt xs (acc++[y]) m else .stuck
  | .ok none m=>cD f wt xs acc m
  | _=>.stuck) else .stuck
def bA(own:List Nat)(tg:MG)(ft:Sl->Mem->R Bool)(fe:Sl->Mem->R OV)(s:Sl):MV->Mem->R (Option MV):=λx m=>match bW tg x (gW s own) with
 | some s2=>(ft s2 m).bind λk m=>if k=true then (fe s2 m).bind λy m=>(match qu y with
  | some y=>.ok (some y) m
  | none=>.stuck) else .ok none m
 | none=>.stuck
def oW(lo:Int)(n:Nat):List MV:=(List.range n).map λ(i:Nat)=>MV.int (lo+(i:Int))
def yd(xs ys:List MV):List MV:=List.zipWith (λx y=>MV.tup [x,y]) xs ys
def signs(z:Str):List MV:=z.cps.toList.map λc=>MV.str ⟨#[c]⟩
def Rz(m:Mem):OV->Option (Sk × Wk)
 | .v (.lst xs)=>some (.l,⟨xs,[]⟩)
 | .v (.kl xs)=>some (.l,⟨xs,[]⟩)
 | .v (.tup xs)=>some (.t,⟨xs,[]⟩)
 | .v (.ref n)=>(rB m n).map λxs=>(.l,⟨xs,[(n,.lst xs)]⟩)
 | _=>none
def Fle(g g':G):Prop:=(∀a o,g.F a=some o->g'.F a=some o)/\∀n a,g.r n=some a->g'.r n=some a
theorem Fle.refl(g:G):Fle g g:=⟨λ_ _ e=>e,λ_ _ e=>e⟩
theorem Fle.trans{a b c:G}(h:Fle a b)(q:Fle b c):Fle a c:=⟨λx o e=>q.1 x o (h.1 x o e),λx o e=>q.2 x o (h.2 x o e)⟩
theorem Stp.fle{g g':G}{H H':Hp}(t:Stp g H g' H'):Fle g g':=⟨t.F,t.r⟩
theorem RV.fle{K:Ki}{g g':G}{x:MV}{v:V}(h:RV K g x v)(t:Fle g g'):RV K g' x v:=RV.mono t.1 t.2 x h
theorem RVs.fle{K:Ki}{g g':G}{x:List MV}{v:List V}(h:RVs K g x v)(t:Fle g g'):RVs K g' x v:=RVs.mono t.1 t.2 x h
def WkM(K:Ki)(J:It)(w:Wk)(g:G):Prop :=
 ∃(n:Nat) (Gd:Hp->Prop) (Y:Nat->Hp->V->Hp->Prop),Walk J n Gd Y/\n=w.items.length /\
  (∀g' m' H',Rs K g' m' H'->Fle g g'->OkW w.watch m'->Gd H') /\
  ∀i H1 x H2 g1 m1,i<n->Y i H1 x H2->Rs K g1 m1 H1->Fle g g1->OkW w.watch m1->∃g2 it,Rs K g2 m1 H2/\Stp g1 H1 g2 H2/\w.items[i]? = some it/\RV K g2 it x
abbrev YJ(K:Ki)(E:XK):G->Hp->R Wk->(It->Hp->Prop)->Prop:=dG K E λg _ w J=>WkM K J w g
def tI(K:Ki)(W:WX)(f:Sl->Mem->R Wk):TI:=fun σ H Q=>∃g s m,Rs K g m H/\RSl K g s σ H/\YJ K (WE W σ) g H (f s m) Q
theorem _root_.L2.PI.weaken{X:Cx}{tg e:Expr}{t t':TI}(h:PI X tg e t)(w:∀σ H Q,t' σ H Q->t σ H Q):PI X tg e t':=⟨λpins s σ H Q I q=>h.run pins s σ H Q I (w σ H Q q)⟩
theorem _root_.L2.PI.or{X:Cx}{tg e:Expr}{t t':TI}(h:PI X tg e t)(h':PI X tg e t'):PI X tg e (fun σ H R=>t σ H R\/t' σ H R):=⟨λpins s σ H R I q=>q.elim (h.run pins s σ H R I) (h'.run pins s σ H R I)⟩
section
variable{K:Ki}{g:G}{H:Hp}{m:Mem}
theorem Av{x:OV}{v:V}{k:Sk}{w:Wk}(rs:Rs K g m H)(r:RO K g H x v)(e:Rz m x=some (k,w)):
  ∃a,v=.ref a/\OkW w.watch m/\∀g' m' H',Rs K g' m' H'->Fle g g'->OkW w.watch m'->∃ys,k.sq K H' a ys/\RVs K g' w.items ys:=by
 cases x with
 | b o=>cases e
 | v x =>
  cases x with
  | lst xs =>
   cases e
   obtain⟨a,ys,rfl,q,r⟩:=r
   exact⟨a,rfl,d7 _,λg' m' H' rs' fl _=>⟨ys,.of (rs'.sub _ _ (fl.1 _ _ q)),r.fle fl⟩⟩
  | kl xs =>
   cases e
   obtain⟨a,ys,rfl,q,r⟩:=r
   exact⟨a,rfl,d7 _,λg' m' H' rs' fl _=>⟨ys,SqL.ie rs'.sub (SqL.ie fl.1 q),r.fle fl⟩⟩
  | tup xs =>
   cases e
   obtain⟨a,ys,rfl,q,r⟩:=r
   exact⟨a,rfl,d7 _,λg' m' H' rs' fl _=>⟨ys,SqT.ie rs'.sub (SqT.ie fl.1 q),r.fle fl⟩⟩
  | ref n =>
   obtain⟨a,rfl,hn⟩:=r
   obtain⟨xs,h,e2⟩:=qQi.mp (show (rB m n).map (λxs=>(Sk.l,(⟨xs,[(n,.lst xs)]⟩:Wk)))=some (k,w) from e)
   cases e2
   refine⟨a,rfl,λp hp=>by rw[qQk.mp hp];exact rR h,λg' m' H' rs' fl ok=>?_⟩
   obtain⟨b,q1,_,ys,q2,q3⟩:=rs'.gr n _ (ok (n,.lst xs) (qQk.mpr rfl))
   rw[fl.2 _ _ hn] at q1;cases q1
   exact⟨ys,.of q2,q3⟩
  | _=>cases e
theorem M8{k:Sk}{a:Addr}{w:Wk}{J:It} (hJ:J=match k with
  | .l=>Itl K a
  | .t=>Itt K a) (h:∀g' m' H',Rs K g' m' H'->Fle g g'->OkW w.watch m'->∃ys,k.sq K H' a ys/\RVs K g' w.items ys):WkM K J w g:=by
 subst hJ
 refine⟨w.items.length,λH=>∃ys,k.sq K H a ys/\ys.length=w.items.length,λi H1 x H2=>H2=H1/\∀zs,k.sq K H1 a zs->zs[i]? = some x,?_,rfl,λg' m' H' rs fl ok=>?_,λi H1 x H2 g1 m1 hi hy rs fl ok=>?_⟩
 ·cases k with
  | l =>
   refine⟨λi H hi ⟨ys,q,l⟩=>⟨ys,ys[i]'(by omega),q,by simp⟩,λH ⟨ys,q,l⟩=>⟨ys,q,by omega⟩,λi H x H' _ _ y=>?_⟩
   exact⟨y.1,y.2⟩
  | t =>
   refine⟨λi H hi ⟨ys,q,l⟩=>⟨ys,ys[i]'(by omega),q,by simp⟩,λH ⟨ys,q,l⟩=>⟨ys,q,by omega⟩,λi H x H' _ _ y=>?_⟩
   exact⟨y.1,y.2⟩
 ·obtain⟨ys,q,r⟩:=h g' m' H' rs fl ok
  exact⟨ys,q,r.length.symm⟩
 ·obtain⟨ys,q,r⟩:=h g1 m1 H1 rs fl ok
  obtain⟨rfl,e⟩:=hy
  obtain⟨it,e1,e2⟩:=r.get' (e ys q)
  exact⟨g1,it,rs,Stp.refl _ _,e1,e2⟩
theorem BV:∀{xs ys:List MV}{i:Nat}{x y:MV},xs[i]? = some x->ys[i]? = some y->(yd xs ys)[i]? = some (.tup [x,y])
 | [],_,_,_,_,h,_=>by simp at h
 | _::_,[],_,_,_,_,h=>by simp at h
 | a::xs,b::ys,0,x,y,h1,h2=>by simp at h1 h2;subst h1;subst h2;rfl
 | a::xs,b::ys,i+1,x,y,h1,h2=>by
  show (yd xs ys)[i]? = _
  exact BV (by simpa using h1) (by simpa using h2)
theorem uR{lo:Int}{n i:Nat}(h:i<n):(oW lo n)[i]? = some (.int (lo+i)):=by simp[oW,h]
theorem Om{g1:G}{m1:Mem}{H1 H2:Hp}{T:Addr}{a b:MV}{u v:V}(rs:Rs K g1 m1 H1)(hT:H1 T=none)(r1:RV K g1 a u)(r2:RV K g1 b v)(e:H2=upd H1 T (.tup [u,v])):∃g2,Rs K g2 m1 H2/\Stp g1 H1 g2 H2/\RV K g2 (.tup [a,b]) (.ref T):=by
 subst e
 obtain⟨rs2,st2⟩:=rs.freeze (o:=.tup [u,v]) hT
 exact⟨_,rs2,st2,T,[u,v],rfl,.of upd_same,u,[v],rfl,r1.st st2,v,[],rfl,r2.st st2,rfl⟩
theorem VD{k l:Sk}{a b:Addr}{w z:Wk}(h:∀g' m' H',Rs K g' m' H'->Fle g g'->OkW w.watch m'->∃ys,k.sq K H' a ys/\RVs K g' w.items ys)
  (h2:∀g' m' H',Rs K g' m' H'->Fle g g'->OkW z.watch m'->∃ys,l.sq K H' b ys/\RVs K g' z.items ys):WkM K (ItK K k l a b) ⟨yd w.items z.items,w.watch++z.watch⟩ g:=by
 have ok1:∀{m:Mem},OkW (w.watch++z.watch) m->OkW w.watch m:=λo p hp=>o p (qQw _ hp)
 have ok2:∀{m:Mem},OkW (w.watch++z.watch) m->OkW z.watch m:=λo p hp=>o p (qQv _ hp)
 refine⟨min w.items.length z.items.length,λH=>∃xs ys,k.sq K H a xs/\l.sq K H b ys/\xs.length=w.items.length/\ys.length=z.items.length,(ItK K k l a b).yld,?_,by simp[yd],λg' m' H' rs fl ok=>?_,λi H1 x H2 g1 m1 hi hy rs fl ok=>?_⟩
 ·exact⟨λi H hi ⟨xs,ys,q1,q2,l1,l2⟩=>⟨xs,ys,xs[i]'(by omega),ys[i]'(by omega),q1,q2,by simp,by simp⟩,λH ⟨xs,ys,q1,q2,l1,l2⟩=>⟨xs,ys,q1,q2,by omega⟩,λi H x H' _ _ y=>y⟩
 ·obtain⟨ys,q,r⟩:=h g' m' H' rs fl (ok1 ok)
  obtain⟨zs,q2,r2⟩:=h2 g' m' H' rs fl (ok2 ok)
  exact⟨ys,zs,q,q2,r.length.symm,r2.length.symm⟩
 ·obtain⟨ys,q,r⟩:=h g1 m1 H1 rs fl (ok1 ok)
  obtain⟨zs,q2,r2⟩:=h2 g1 m1 H1 rs fl (ok2 ok)
  obtain⟨T,u,v,rfl,hT,e,f1,f2⟩:=hy
  obtain⟨i1,e1,e2⟩:=r.get' (f1 ys q)
  obtain⟨i2,e3,e4⟩:=r2.get' (f2 zs q2)
  obtain⟨g2,rs2,st2,rv⟩:=Om rs hT e2 e4 e
  exact⟨g2,_,rs2,st2,BV e1 e3,rv⟩
theorem Kh{lo:Int}{n:Nat}:WkM K (Itr lo n) ⟨oW lo n,[]⟩ g:=by
 refine⟨n,_,_,walk_range,by simp[oW],λ_ _ _ _ _ _=>trivial,λi H1 x H2 g1 m1 hi hy rs fl _=>?_⟩
 obtain⟨rfl,rfl⟩:=hy
 exact⟨g1,.int (lo+i),rs,Stp.refl _ _,uR hi,rfl⟩
theorem U8{z:Str}:WkM K (Its z) ⟨signs z,[]⟩ g:=by
 refine⟨_,_,_,walk_str,by simp[signs],λ_ _ _ _ _ _=>trivial,λi H1 x H2 g1 m1 hi hy rs fl _=>?_⟩
 obtain⟨rfl,c,e1,rfl⟩:=hy
 exact⟨g1,.str ⟨#[c]⟩,rs,Stp.refl _ _,by simp[signs,e1],rfl⟩
end
structure Ij where
 need:List dI:=[]
 parts:Cfg->Expr->Expr->Option (List Expr)
 F:List OV->Mem->R Wk
 ok:∀{k:Nat}{W:WX}{c:Cfg}{X:Cx}{t e:Expr}{es:List Expr}{fs:Sl->Mem->R (List OV)},bV k W c X->(∀n∈need,n.at X k)->parts c t e=some es->Parts X W es fs->PI X t e (tI X.ki W λs m=>(fs s m).bind F)
def Ag:List Nat->TGs
 | []=>gNil
 | i::is=>gCons (gName i) (Ag is)
def gM(K:Ki):MG->TG
 | .name i=>gName i
 | .tup is=>acT K is.length (Ag is)
def MG.slots:MG->List Nat
 | .name i=>[i]
 | .tup is=>is
def wX(σ:St):List Nat->List V->St
 | i::is,v::vs=>wX (σ.set i (some v)) is vs
 | _,_=>σ
section
variable{K:Ki}{g:G}{H:Hp}{m:Mem}{s s2:Sl}{σ:St}
theorem RSl.set{i:Nat}{x:MV}{v:V}(h:RSl K g s σ H)(r:RV K g x v):RSl K g (s.set i (some (.v x))) (σ.set i (some v)) H:=by
 have hl:=h.len
 refine⟨λj y e=>?_,λj o e=>?_,λj k o u a e1 e2 e3 e4=>?_,by simp[hl]⟩
 ·by_cases q:i=j
  ·subst q
   by_cases hi:i<s.length
   ·rw[qQm hi] at e;cases e
    exact⟨v,by rw[qQm (by omega)],r⟩
   ·rw[qQ1 (by simpa using hi)] at e;cases e
  ·rw[qQe q] at e
   obtain⟨w,e1,e2⟩:=h.val j y e
   exact⟨w,by rw[qQe q];exact e1,e2⟩
 ·by_cases q:i=j
  ·subst q
   by_cases hi:i<s.length
   ·rw[qQm hi] at e;cases e
   ·rw[qQ1 (by simpa using hi)] at e;cases e
  ·rw[qQe q] at e
   obtain⟨w,e1,e2⟩:=h.own j o e
   exact⟨w,by rw[qQe q];exact e1,e2⟩
 ·have n1:i≠j:=λq=>by
   subst q
   by_cases hi:i<s.length
   ·rw[qQm hi] at e1;cases e1
   ·rw[qQ1 (by simpa using hi)] at e1;cases e1
  have n2:i≠k:=λq=>by
   subst q
   by_cases hi:i<s.length
   ·rw[qQm hi] at e2;cases e2
   ·rw[qQ1 (by simpa using hi)] at e2;cases e2
  rw[qQe n1] at e1 e3
  rw[qQe n2] at e2 e4
  exact h.dis j k o u a e1 e2 e3 e4
theorem RSl.unset{i:Nat}{w:Option V}(h:RSl K g s σ H):RSl K g (s.set i none) (σ.set i w) H:=by
 have hl:=h.len
 have ne:∀{j:Nat}{y:SV},(s.set i none)[j]? = some (some y)->i≠j:=λ{j y} e q=>by
  subst q
  by_cases hi:i<s.length
  ·rw[qQm hi] at e;cases e
  ·rw[qQ1 (by simpa using hi)] at e;cases e
 refine⟨λj y e=>?_,λj o e=>?_,λj k o u a e1 e2 e3 e4=>?_,by simp[hl]⟩
 ·have q:=ne e
  rw[qQe q] at e
  obtain⟨w,e1,e2⟩:=h.val j y e
  exact⟨w,by rw[qQe q];exact e1,e2⟩
 ·have q:=ne e
  rw[qQe q] at e
  obtain⟨w,e1,e2⟩:=h.own j o e
  exact⟨w,by rw[qQe q];exact e1,e2⟩
 ·have n1:=ne e1
  have n2:=ne e2
  rw[qQe n1] at e1 e3
  rw[qQe n2] at e2 e4
  exact h.dis j k o u a e1 e2 e3 e4
theorem RSl.wipe(h:RSl K g s σ H):∀vs:List Nat,RSl K g (gW s vs) (wipe σ vs) H
 | []=>h
 | v::vs=>RSl.unset (RSl.wipe h vs)
def U3(I:Sl->St->Prop):Prop:=∀s σ i x v,I s σ->I (s.set i (some (.v x))) (σ.set i (some v))
theorem ww{I:Sl->St->Prop}(hI:U3 I):∀{is:List Nat}{xs:List MV}{vs:List V}{s s2:Sl}{σ:St}{Q:St->Hp->Prop},iy s is xs=some s2->RVs K g xs vs->RSl K g s σ H->I s σ->(RSl K g s2 (wX σ is vs) H->I s2 (wX σ is vs)->Q (wX σ is vs) H)->Ag is vs σ H Q
 | [],[],_,s,s2,σ,Q,e,r,rl,i0,q=>by cases e;cases (show _=[] from r);exact⟨rfl,q rl i0⟩
 | i::is,x::xs,_,s,s2,σ,Q,e,⟨v,r,e1,h,t⟩,rl,i0,q=>by
  subst e1
  exact⟨v,r,rfl,ww hI (show iy (s.set i (some (.v x))) is xs=some s2 from e) t (rl.set h) (hI _ _ _ _ _ i0) q⟩
 | [],_::_,_,_,_,_,_,e,_,_,_,_=>by cases e
 | _::_,[],_,_,_,_,_,e,_,_,_,_=>by cases e
theorem pP:∀{is:List Nat}{xs:List MV}{s s2:Sl},iy s is xs=some s2->is.length=xs.length
 | [],[],_,_,_=>rfl
 | _::is,_::xs,s,s2,e=>by
  have:=pP (show iy (s.set _ _) is xs=some s2 from e)
  simp[this]
 | [],_::_,_,_,e=>by cases e
 | _::_,[],_,_,e=>by cases e
theorem CV{I:Sl->St->Prop}(hI:U3 I){tg:MG}{x:MV}{v:V}{Q:St->Hp->Prop}(rs:Rs K g m H)(e:bW tg x s=some s2)(r:RV K g x v)(rl:RSl K g s σ H)(i0:I s σ)
  (q:∀vs,RSl K g s2 (wX σ tg.slots vs) H->I s2 (wX σ tg.slots vs)->Q (wX σ tg.slots vs) H):gM K tg v σ H Q:=by
 cases tg with
 | name i =>
  cases e
  exact q [v] (rl.set r) (hI _ _ _ _ _ i0)
 | tup is =>
  unfold bW at e
  dsimp only at e
  split at e
  ·obtain⟨a,ys,rfl,h,t⟩:=r
   exact⟨a,ys,rfl,.inl (SqT.ie rs.sub h),by rw[pP e,t.length],ww hI e t rl i0 (q ys)⟩
  ·obtain⟨a,ys,rfl,h,t⟩:=r
   exact⟨a,ys,rfl,.inr (.of (rs.sub _ _ h)),by rw[pP e,t.length],ww hI e t rl i0 (q ys)⟩
  ·cases e
theorem wG{i:Nat}{w:Option V}:∀{vs:List Nat}{σ:St},i∈vs->wipe (σ.set i w) vs=wipe σ vs
 | v::vs,σ,h=>by
  by_cases hm:i∈vs
  ·show (wipe (σ.set i w) vs).set v none=(wipe σ vs).set v none
   rw[wG hm]
  ·have e:i=v:=by
    rcases qQj.mp h with q|q
    ·exact q
    ·exact absurd q hm
   subst e
   show (wipe (σ.set i w) vs).set i none=(wipe σ vs).set i none
   have:∀(vs:List Nat) (σ:St),i∉vs->wipe (σ.set i w) vs=(wipe σ vs).set i w:=by
    intro vs
    induction vs with
    | nil=>intro σ _;rfl
    | cons u us ih =>
     intro σ hn
     have n1:i≠u:=λq=>hn (by rw[q];exact qQc)
     show (wipe (σ.set i w) us).set u none=((wipe σ us).set u none).set i w
     rw[ih σ λq=>hn (qQd _ q),List.set_comm _ _ n1]
   rw[this vs σ hm,List.set_set]
theorem iV:∀{is:List Nat}{ws:List V}{vs:List Nat}{σ:St},(∀i∈is,i∈vs)->wipe (wX σ is ws) vs=wipe σ vs
 | [],_,_,_,_=>rfl
 | i::is,[],_,_,_=>rfl
 | i::is,w::ws,vs,σ,h=>by
  show wipe (wX (σ.set i (some w)) is ws) vs=_
  rw[iV λj hj=>h j (qQd _ hj),wG (h i qQc)]
theorem jM{vs:List Nat}{σ:St}:wipe (wipe σ vs) vs=wipe σ vs:=by
 have h:∀(us:List Nat) (σ:St),(∀i∈us,i∈vs)->wipe (wipe σ us) vs=wipe σ vs:=by
  intro us
  induction us with
  | nil=>intro σ _;rfl
  | cons u us ih =>
   intro σ hu
   show wipe ((wipe σ us).set u none) vs=_
   rw[wG (hu u qQc),ih σ λj hj=>hu j (qQd _ hj)]
 exact h vs σ λ_ h=>h
end
section
variable{K:Ki}{σ:St}{H:Hp}{Q:VK}
open Classical in
theorem fG{f:MV->Mem->R (Option MV)}{wt:List (Nat × MO)}{x:MV}{xs acc:List MV}{m:Mem}:cD f wt (x::xs) acc m=if OkW wt m then (match f x m with
  | .ok (some y) m=>if acc.length<sizeLine then cD f wt xs (acc++[y]) m else .stuck
  | .ok none m=>cD f wt xs acc m
  | _=>.stuck) else .stuck:=rfl
theorem qT{f:MV->Mem->R (Option MV)}{wt:List (Nat × MO)}{xs acc:List MV}{m:Mem}(h:cD f wt xs acc m≠.stuck):OkW wt m:=by
 cases xs with
 | nil =>
  unfold cD at h
  split at h
  ·assumption
  ·exact absurd rfl h
 | cons x xs =>
  rw[fG] at h
  split at h
  ·assumption
  ·exact absurd rfl h
theorem Jo{own:List Nat}{tg:MG}{fi:Sl->Mem->R Wk}{ft:Sl->Mem->R Bool}{fe:Sl->Mem->R OV}(hs:∀i∈tg.slots,i∈own)
  (h:tF K W (λs m=>(fi s m).bind λw m=>(cD (bA own tg ft fe s) w.watch w.items [] m).bind λys m=>.ok (.lst ys) m) σ H Q):tLc (tI K W fi) (gM K tg) (tT K W0 ft) (tE K W0 fe) own σ H Q:=by
 obtain⟨g,s,m,rs,rl,p⟩:=h
 refine⟨g,s,m,rs,rl,(dJ.bind p).imp λJ H1 ⟨items,g1,m1,rs1,st1,wk,p1⟩ D hD=>?_⟩
 obtain⟨n,Gd,Y,w,hn,hG,hY⟩:=wk
 have rl1:=rl.st st1
 obtain⟨hDF,hDr⟩:=rs1.free hD
 obtain⟨rs2,st2⟩:=rs1.grow (o:=.lst []) hD
 refine lc_it w (Pv:=λi H2=>∃g2 m2 acc ys,Rs K g2 m2 H2/\Stp g1 H1 g2 H2/\H2 D=some (.lst ys)/\RVs K g2 acc ys/\g2.F D=none/\(∀k,g2.r k≠some D)/\dJ K (WE W σ) g1 H1 ((cD (bA own tg ft fe s) items.watch (items.items.drop i) acc m2).bind λys m=>.ok (.lst ys) m) Q)
  ⟨g1,m1,[],[],rs2,st2,upd_same,rfl,hDF,hDr,by simpa using p1⟩ (λi H2 _ ⟨g2,m2,acc,ys,r2,t2,_,_,_,_,pq⟩=>hG g2 m2 H2 r2 t2.fle (qT λz=>by rw[z] at pq;exact pq)) ?_ ?_
 ·rintro i x H2 H3 hi ⟨g2,m2,acc,ys,r2,t2,hDl,ra,hF2,hr2,pq⟩ hy
  have okw:=qT (λz=>by rw[z] at pq;exact pq:cD (bA own tg ft fe s) items.watch (items.items.drop i) acc m2≠.stuck)
  obtain⟨g3,it,r3,t3,e3,rx⟩:=hY i H2 x H3 g2 m2 hi hy r2 t2.fle okw
  have t13:=t2.trans t3
  have hitem:items.items.drop i=it::items.items.drop (i+1):=by
   obtain⟨hlt,e4⟩:=qQa.mp e3
   rw[List.drop_eq_getElem_cons hlt,e4]
  rw[hitem] at pq
  have ob3:=eQ (o:=.lst acc) ⟨ys,hDl,ra⟩ hF2 hr2 t3
  rw[fG,if_pos okw] at pq
  cases ea:bW tg it (gW s own) with
  | none =>
   have ec:bA own tg ft fe s it m2=.stuck:=by unfold bA;rw[ea]
   rw[ec] at pq;exact pq.elim
  | some s2 =>
   have ec:bA own tg ft fe s it m2=(ft s2 m2).bind λk m=>if k=true then (fe s2 m).bind λy m=>(match qu y with
    | some y=>.ok (some y) m
    | none=>.stuck) else .ok none m:=by
    show (match bW tg it (gW s own) with
     | some s2=>(ft s2 m2).bind λk m=>if k=true then (fe s2 m).bind λy m=>(match qu y with
      | some y=>.ok (some y) m
      | none=>.stuck) else .ok none m
     | none=>.stuck)=_
    rw[ea]
   have rl3:=((rl1.st t13).wipe own)
   refine CV (I:=λ_ _=>True) (λ_ _ _ _ _ _=>trivial) r3 ea rx rl3 trivial λvs rl4 _=>⟨by rw[iV hs,jM],g3,s2,m2,r3,rl4,?_⟩
   -- the test
   cases et:ft s2 m2 with
   | stuck=>rw[ec,et] at pq;exact pq.elim
   | exc c ks xs m'=>rw[ec,et] at pq;exact pq.elim
   | ok k m4 =>
    rw[ec,et] at pq
    intro g4 b H4 r4 t4 eb
    subst eb
    have ob4:=eQ ob3.1 ob3.2.1 ob3.2.2 t4
    cases k with
    | false =>
     obtain⟨⟨zs,hz,rz⟩,h6,h7⟩:=ob4
     exact iteF ⟨g4,m4,acc,zs,r4,t13.trans t4,hz,rz,h6,h7,pq⟩
    | true =>
     refine iteT ⟨g4,s2,m4,r4,rl4.st t4,?_⟩
     have ed:((R.ok true m4:R Bool).bind λk m=>if k=true then (fe s2 m).bind λy m=>(match qu y with
      | some y=>.ok (some y) m
      | none=>.stuck) else .ok none m)=(fe s2 m4).bind λy m=>(match qu y with
      | some y=>.ok (some y) m
      | none=>.stuck):=rfl
     rw[ed] at pq
     cases ee:fe s2 m4 with
     | stuck=>rw[ee] at pq;exact pq.elim
     | exc c ks xs m'=>rw[ee] at pq;exact pq.elim
     | ok y m5 =>
      rw[ee] at pq
      intro g5 yv H5 r5 t5 ry
      obtain⟨⟨zs,hz,rz⟩,h6,h7⟩:=eQ ob4.1 ob4.2.1 ob4.2.2 t5
      cases y with
      | b o=>exact pq.elim
      | v y =>
       have pq:dJ K (WE W σ) g1 H1 ((if acc.length<sizeLine then cD (bA own tg ft fe s) items.watch (items.items.drop (i+1)) (acc++[y]) m5 else .stuck).bind λys m=>.ok (.lst ys) m) Q:=pq
       by_cases hl:acc.length<sizeLine
       ·rw[if_pos hl] at pq
        refine⟨zs,hz,by rw[<- rz.length];exact hl,g5,m5,acc++[y],zs++[yv],r5.own h6 h7 hz (λps z=>by cases z),((t13.trans t4).trans t5).own hD,upd_same,rz.append (.one ry),h6,h7,pq⟩
       ·rw[if_neg hl] at pq;exact pq.elim
 ·rintro H2 ⟨g2,m2,acc,ys,r2,t2,hDl,ra,hF2,hr2,pq⟩
  have okw:=qT (λz=>by rw[z] at pq;exact pq:cD (bA own tg ft fe s) items.watch (items.items.drop n) acc m2≠.stuck)
  rw[hn,List.drop_length] at pq
  have e:cD (bA own tg ft fe s) items.watch [] acc m2=.ok acc m2:=by unfold cD;rw[if_pos okw]
  rw[e] at pq
  exact pq g2 D H2 r2 t2 hD hF2 hr2 ⟨ys,hDl,ra⟩
end
def Xn(ks:List MV)(k:MV):Bool:=ks.any λj=>eqB j k
def Ig(ks:List MV)(k:MV):List MV:=if Xn ks k=true then ks else ks++[k]
def Hu(ks xs:List MV)(k v:MV):List MV:=if Xn ks k=true then List.zipWith (λj x=>if eqB j k=true then v else x) ks xs else xs++[v]
section
variable{K:Ki}{g:G}
theorem HJ{k:MV}{l:Key}(hk:Dk k=some l):∀{ks:List MV}{kv:List (Key × V)},RVs K g ks (kv.map λp=>kV p.1)->Xn ks k=kv.any λp=>decide (p.1=l)
 | [],kv,r=>by
  cases kv with
  | nil=>rfl
  | cons p kv=>cases (show _=[] from r)
 | j::ks,kv,r=>by
  cases kv with
  | nil=>obtain⟨_,_,e,_⟩:=r;cases e
  | cons p kv =>
   obtain⟨v,t,e,h1,t1⟩:=r
   cases e
   show (eqB j k || Xn ks k)=(decide (p.1=l) || kv.any λp=>decide (p.1=l))
   rw[Pu h1 hk,HJ hk t1]
theorem Qw{k x:MV}{l:Key}{v:V}(hk:Dk k=some l)(rk:RV K g k (kV l))(rx:RV K g x v){ks xs:List MV}{kv:List (Key × V)}(r1:RVs K g ks (kv.map λp=>kV p.1))(r2:RVs K g xs (kv.map λp=>p.2)):
  RVs K g (Ig ks k) ((putK kv l v).map λp=>kV p.1)/\RVs K g (Hu ks xs k x) ((putK kv l v).map λp=>p.2):=by
 unfold Ig Hu putK
 rw[HJ hk r1]
 by_cases h:(kv.any λp=>decide (p.1=l))=true
 ·rw[if_pos h,if_pos h,if_pos h]
  constructor
  ·have e:(kv.map λp=>if p.1=l then (p.1,v) else p).map (λp=>kV p.1)=kv.map λp=>kV p.1:=by
    rw[qQt]
    apply List.map_congr_left
    intro p _
    show kV (if p.1=l then (p.1,v) else p).1=_
    split <;> rfl
   rw[e];exact r1
  ·clear h
   induction kv generalizing ks xs with
   | nil =>
    have e1:=r1.length
    have e2:=r2.length
    cases ks with
    | nil=>exact rfl
    | cons a b=>cases e1
   | cons p kv ih =>
    cases ks with
    | nil=>cases (show _=[] from r1)
    | cons j ks =>
     cases xs with
     | nil=>cases (show _=[] from r2)
     | cons y xs =>
      obtain⟨v1,t1,e1,h1,q1⟩:=r1
      obtain⟨v2,t2,e2,h2,q2⟩:=r2
      cases e1;cases e2
      refine⟨_,_,rfl,?_,ih q1 q2⟩
      show RV K g (if eqB j k=true then x else y) (if p.1=l then (p.1,v) else p).2
      rw[Pu h1 hk]
      by_cases z:p.1=l
      ·simp only[z,decide_true,if_true];exact rx
      ·simp only[z,decide_false,if_false,Bool.false_eq_true];exact h2
 ·rw[if_neg h,if_neg h,if_neg h,List.map_append,List.map_append]
  exact⟨r1.append (.one rk),r2.append (.one rx)⟩
end
open Classical in
def fX(f:MV->Mem->R (Option (MV × MV)))(wt:List (Nat × MO)):List MV->List MV->List MV->Mem->R (List MV × List MV)
 | [],ks,vs,m=>if OkW wt m then .ok (ks,vs) m else .stuck
 | x::xs,ks,vs,m=>if OkW wt m then (match f x m with
  | .ok (some (k,v)) m=>if (Dk k).isSome=true/\ks.length<sizeLine then fX f wt xs (Ig ks k) (Hu ks vs k v) m else .stuck
  | .ok none m=>fX f wt xs ks vs m
  | _=>.stuck) else .stuck
open Classical in
theorem rA{f:MV->Mem->R (Option (MV × MV))}{wt:List (Nat × MO)}{x:MV}{xs ks vs:List MV}{m:Mem}:fX f wt (x::xs) ks vs m=if OkW wt m then (match f x m with
  | .ok (some (k,v)) m=>if (Dk k).isSome=true/\ks.length<sizeLine then fX f wt xs (Ig ks k) (Hu ks vs k v) m else .stuck
  | .ok none m=>fX f wt xs ks vs m
  | _=>.stuck) else .stuck:=rfl
theorem rO{f:MV->Mem->R (Option (MV × MV))}{wt:List (Nat × MO)}{xs ks vs:List MV}{m:Mem}(h:fX f wt xs ks vs m≠.stuck):OkW wt m:=by
 cases xs with
 | nil =>
  unfold fX at h
  split at h
  ·assumption
  ·exact absurd rfl h
 | cons x xs =>
  rw[rA] at h
  split at h
  ·assumption
  ·exact absurd rfl h
def cV(own:List Nat)(tg:MG)(ft:Sl->Mem->R Bool)(fk fv:Sl->Mem->R OV)(s:Sl):MV->Mem->R (Option (MV × MV)):=λx m=>match bW tg x (gW s own) with
 | some s2=>(ft s2 m).bind λk m=>if k=true then (fk s2 m).bind λy m=>(fv s2 m).bind λz m=>(match qu y,qu z with
  | some y,some z=>.ok (some (y,z)) m
  | _,_=>.stuck) else .ok none m
 | none=>.stuck
section
variable{X:Cx}{K:PySem.W.Frag}{J:It}{n:Nat}{G:Hp->Prop}{Y:Nat->Hp->V->Hp->Prop}
theorem aaf(w:Walk J n G Y){g:TG}{tt:TT}{tk tv:TE}{vs:List Nat}{σ:St}{H1:Hp}{D:Addr}{Qd:Hp->Prop}(Pv:Nat->Hp->Prop)(h0:Pv 0 (upd H1 D (.dK [])))(hG:∀i H,i<=n->Pv i H->G H)
  (hs:∀i x H H',i<n->Pv i H->Y i H x H'->g x (wipe σ vs) H' fun σ2 H2=>wipe σ2 vs=wipe σ vs/\tt σ2 H2 λb H3 =>
   if b=true then tk σ2 H3 λy H4=>tv σ2 H4 λz H5=>∃kvs k,y=kV k/\H5 D=some (.dK kvs)/\kvs.length<sizeLine/\Pv (i+1) (upd H5 D (.dK (putK kvs k z))) else Pv (i+1) H3) (hd:∀H,Pv n H->Qd H) :
  ∃W:Nat->Nat->Hp->Prop,(∃m,W 0 m (upd H1 D (.dK [])))/\∀i m H,W i m H ->
   (J.stop i H/\Qd H)\/(J.go i H/\∃Nx:Hp->Prop,(∀H',Nx H'->∃m',m'<m/\W (i+1) m' H')/\∀x H',J.yld i H x H'->g x (wipe σ vs) H' fun σ2 H2=>wipe σ2 vs=wipe σ vs/\tt σ2 H2 λb H3 =>
    if b=true then tk σ2 H3 λy H4=>tv σ2 H4 λz H5=>∃kvs k,y=kV k/\H5 D=some (.dK kvs)/\kvs.length<sizeLine/\Nx (upd H5 D (.dK (putK kvs k z))) else Nx H3):=by
 refine⟨λi m H=>m=n - i/\i<=n/\Pv i H,⟨n,by simp,Nat.zero_le _,h0⟩,?_⟩
 rintro i m H ⟨rfl,hi,p⟩
 have q:=hG i H hi p
 by_cases hlt:i<n
 ·refine .inr ⟨w.goes i H hlt q,Pv (i+1),λH' p'=>⟨n - (i+1),by omega,rfl,hlt,p'⟩,λx H' y=>hs i x H H' hlt p (w.yields i H x H' hlt q y)⟩
 ·have e:i=n:=by omega
  subst e
  exact .inl ⟨w.stops H q,hd H p⟩
end
section
variable{K:Ki}{σ:St}{H:Hp}{Q:VK}{W:WX}
theorem Ar{own:List Nat}{tg:MG}{fi:Sl->Mem->R Wk}{ft:Sl->Mem->R Bool}{fk fv:Sl->Mem->R OV}(hs:∀i∈tg.slots,i∈own)
  (h:tF K W (λs m=>(fi s m).bind λw m=>(fX (cV own tg ft fk fv s) w.watch w.items [] [] m).bind λp m=>.ok (.dic p.1 p.2) m) σ H Q):tDc (tI K W fi) (gM K tg) (tT K W0 ft) (tE K W0 fk) (tE K W0 fv) own σ H Q:=by
 obtain⟨g,s,m,rs,rl,p⟩:=h
 refine⟨g,s,m,rs,rl,(dJ.bind p).imp λJ H1 ⟨items,g1,m1,rs1,st1,wk,p1⟩ D hD=>?_⟩
 obtain⟨n,Gd,Y,w,hn,hG,hY⟩:=wk
 have rl1:=rl.st st1
 obtain⟨hDF,hDr⟩:=rs1.free hD
 obtain⟨rs2,st2⟩:=rs1.grow (o:=.dK []) hD
 refine aaf w (Pv:=λi H2=>∃g2 m2 ks vs kv,Rs K g2 m2 H2/\Stp g1 H1 g2 H2/\H2 D=some (.dK kv)/\RVs K g2 ks (kv.map λp=>kV p.1)/\RVs K g2 vs (kv.map λp=>p.2)/\g2.F D=none/\(∀k,g2.r k≠some D)/\dJ K (WE W σ) g1 H1 ((fX (cV own tg ft fk fv s) items.watch (items.items.drop i) ks vs m2).bind λp m=>.ok (.dic p.1 p.2) m) Q)
  ⟨g1,m1,[],[],[],rs2,st2,upd_same,rfl,rfl,hDF,hDr,by simpa using p1⟩ (λi H2 _ ⟨g2,m2,ks,vs,kv,r2,t2,_,_,_,_,_,pq⟩=>hG g2 m2 H2 r2 t2.fle (rO λz=>by rw[z] at pq;exact pq)) ?_ ?_
 ·rintro i x H2 H3 hi ⟨g2,m2,ks,vs,kv,r2,t2,hDl,rk,rv,hF2,hr2,pq⟩ hy
  have okw:=rO (λz=>by rw[z] at pq;exact pq:fX (cV own tg ft fk fv s) items.watch (items.items.drop i) ks vs m2≠.stuck)
  obtain⟨g3,it,r3,t3,e3,rx⟩:=hY i H2 x H3 g2 m2 hi hy r2 t2.fle okw
  have t13:=t2.trans t3
  have hitem:items.items.drop i=it::items.items.drop (i+1):=by
   obtain⟨hlt,e4⟩:=qQa.mp e3
   rw[List.drop_eq_getElem_cons hlt,e4]
  rw[hitem] at pq
  have obD:gK K g2 (.dic ks vs) H2 D:=⟨.dK kv,kv.map λp=>(kV p.1,p.2),hDl,⟨kv,rfl,rfl⟩,by rw[qQt];exact rk,by rw[qQt];exact rv⟩
  have unD:∀{g:G}{H:Hp},gK K g (.dic ks vs) H D->∃kv,H D=some (.dK kv)/\RVs K g ks (kv.map λp=>kV p.1)/\RVs K g vs (kv.map λp=>p.2):=by
   rintro g H ⟨u,kvs,h1,⟨kv,rfl,rfl⟩,h3,h4⟩
   rw[qQt] at h3 h4
   exact⟨kv,h1,h3,h4⟩
  have ob3:=eQ obD hF2 hr2 t3
  rw[rA,if_pos okw] at pq
  cases ea:bW tg it (gW s own) with
  | none =>
   have ec:cV own tg ft fk fv s it m2=.stuck:=by unfold cV;rw[ea]
   rw[ec] at pq;exact pq.elim
  | some s2 =>
   have ec:cV own tg ft fk fv s it m2=(ft s2 m2).bind λk m=>if k=true then (fk s2 m).bind λy m=>(fv s2 m).bind λz m=>(match qu y,qu z with
    | some y,some z=>.ok (some (y,z)) m
    | _,_=>.stuck) else .ok none m:=by
    show (match bW tg it (gW s own) with
     | some s2=>(ft s2 m2).bind λk m=>if k=true then (fk s2 m).bind λy m=>(fv s2 m).bind λz m=>(match qu y,qu z with
      | some y,some z=>.ok (some (y,z)) m
      | _,_=>.stuck) else .ok none m
     | none=>.stuck)=_
    rw[ea]
   have rl3:=((rl1.st t13).wipe own)
   refine CV (I:=λ_ _=>True) (λ_ _ _ _ _ _=>trivial) r3 ea rx rl3 trivial λws rl4 _=>⟨by rw[iV hs,jM],g3,s2,m2,r3,rl4,?_⟩
   cases et:ft s2 m2 with
   | stuck=>rw[ec,et] at pq;exact pq.elim
   | exc c ks xs m'=>rw[ec,et] at pq;exact pq.elim
   | ok k m4 =>
    rw[ec,et] at pq
    intro g4 b H4 r4 t4 eb
    subst eb
    have ob4:=eQ ob3.1 ob3.2.1 ob3.2.2 t4
    cases k with
    | false =>
     obtain⟨kv4,hz,rk4,rv4⟩:=unD ob4.1
     exact iteF ⟨g4,m4,ks,vs,kv4,r4,t13.trans t4,hz,rk4,rv4,ob4.2.1,ob4.2.2,pq⟩
    | true =>
     refine iteT ⟨g4,s2,m4,r4,rl4.st t4,?_⟩
     have ed:((R.ok true m4:R Bool).bind λk m=>if k=true then (fk s2 m).bind λy m=>(fv s2 m).bind λz m=>(match qu y,qu z with
      | some y,some z=>.ok (some (y,z)) m
      | _,_=>.stuck) else .ok none m)=(fk s2 m4).bind λy m=>(fv s2 m).bind λz m=>(match qu y,qu z with
      | some y,some z=>.ok (some (y,z)) m
      | _,_=>.stuck):=rfl
     rw[ed] at pq
     cases ee:fk s2 m4 with
     | stuck=>rw[ee] at pq;exact pq.elim
     | exc c ks xs m'=>rw[ee] at pq;exact pq.elim
     | ok y m5 =>
      rw[ee] at pq
      intro g5 yv H5 r5 t5 ry
      have ob5:=eQ ob4.1 ob4.2.1 ob4.2.2 t5
      refine⟨g5,s2,m5,r5,(rl4.st t4).st t5,?_⟩
      rw[qO] at pq
      cases ef:fv s2 m5 with
      | stuck=>rw[ef] at pq;exact pq.elim
      | exc c ks xs m'=>rw[ef] at pq;exact pq.elim
      | ok z m6 =>
       rw[ef] at pq
       intro g6 zv H6 r6 t6 rz
       have ob6:=eQ ob5.1 ob5.2.1 ob5.2.2 t6
       cases y with
       | b o=>exact pq.elim
       | v y =>
        cases z with
        | b o=>exact pq.elim
        | v z =>
         have pq:dJ K (WE W σ) g1 H1 ((if (Dk y).isSome=true/\ks.length<sizeLine then fX (cV own tg ft fk fv s) items.watch (items.items.drop (i+1)) (Ig ks y) (Hu ks vs y z) m6 else .stuck).bind λp m=>.ok (.dic p.1 p.2) m) Q:=pq
         by_cases hl:(Dk y).isSome=true/\ks.length<sizeLine
         ·rw[if_pos hl] at pq
          obtain⟨l,hk⟩:=Option.isSome_iff_exists.mp hl.1
          have ry6:=RV.st (show RV K g5 y yv from ry) t6
          have ek:=(HS ry6 hk).1
          subst ek
          obtain⟨kv6,hz,rk6,rv6⟩:=unD ob6.1
          obtain⟨q1,q2⟩:=Qw hk ry6 rz rk6 rv6
          refine⟨kv6,l,rfl,hz,by have:=rk6.length;rw[List.length_map] at this;rw[<- this];exact hl.2,g6,m6,_,_,_,r6.own ob6.2.1 ob6.2.2 hz (λps z=>by cases z),(((t13.trans t4).trans t5).trans t6).own hD,upd_same,q1,q2,ob6.2.1,ob6.2.2,pq⟩
         ·rw[if_neg hl] at pq;exact pq.elim
 ·rintro H2 ⟨g2,m2,ks,vs,kv,r2,t2,hDl,rk,rv,hF2,hr2,pq⟩
  have okw:=rO (λz=>by rw[z] at pq;exact pq:fX (cV own tg ft fk fv s) items.watch (items.items.drop n) ks vs m2≠.stuck)
  rw[hn,List.drop_length] at pq
  have e:fX (cV own tg ft fk fv s) items.watch [] ks vs m2=.ok (ks,vs) m2:=by unfold fX;rw[if_pos okw]
  rw[e] at pq
  exact pq g2 D H2 r2 t2 hD hF2 hr2 ⟨.dK kv,kv.map λp=>(kV p.1,p.2),hDl,⟨kv,rfl,rfl⟩,by rw[qQt];exact rk,by rw[qQt];exact rv⟩
end
section
variable{X:Cx}
theorem K9{i:Nat}{y:Str}{py:Pos}{kx vx tg iter:Expr}{ifs:List Expr}{scope:Scope}{own:List (Str × Nat)}{pos spos:Pos}{wi:TI}{g:TG}{tt:TT}{tk tv:TE}(hc:X.calm=true)(hN:X.N.Nodup)(hy:X.N[i]? = some y)(hyl:X.env.scope.names.lookup y=some .local)
  (hsw:swapsWith (.DictComp kx vx [⟨tg,iter,ifs,0⟩] scope pos) (some (.Name y py)) spos.line X.env=pure true) (hi:PI X tg iter wi) (ok:BlkOk X.N X.env.scope scope own)
  (hg:∀(s:Shared) (H:Hp) (C:Addr) (cl:List (Str × Addr)) (fp:List Addr),PG (X.blk s H scope (compEnvC scope cl C X.env) fp) tg g) (ht:∀(s:Shared) (H:Hp) (C:Addr) (cl:List (Str × Addr)) (fp:List Addr),PTs (X.blk s H scope (compEnvC scope cl C X.env) fp) ifs tt)
  (hk:∀(s:Shared) (H:Hp) (C:Addr) (cl:List (Str × Addr)) (fp:List Addr),PE (X.blk s H scope (compEnvC scope cl C X.env) fp) kx tk)
  (he:∀(s:Shared) (H:Hp) (C:Addr) (cl:List (Str × Addr)) (fp:List Addr),PE (X.blk s H scope (compEnvC scope cl C X.env) fp) vx tv) (hs:∀x,foldedSetIterable iter X.env x=pure x:=by intro _;rfl) :
  PS X (.Assign [.Name y py] (.DictComp kx vx [⟨tg,iter,ifs,0⟩] scope pos) spos) (tAsg (tDc wi g tt tk tv (own.map (·.2))) (gName i)):=by
 refine⟨λpins s σ H D I h=>?_⟩
 rw[exec_Assign_Name_used _ _ _ _ hsw]
 refine wpAny_bind (wpAny_standAt (wpAny_bind ?_))
 show wpAny _ X.A (do let _ <- comprehension (.DictComp kx vx [⟨tg,iter,ifs,0⟩] scope pos) scope X.env (firstIterPos [⟨tg,iter,ifs,0⟩] pos) newDict false (eval iter X.env) (some (assign (.Name y py) X.env))) _ _ s
 have h:tDc wi g tt tk tv (own.map (·.2)) σ H (λx H1=>gName i x σ H1 D.nx):=h
 refine wpAny_bind (thn (dc_core (Qf:=λ_ s'=>SP X pins D .next s') hc hN I hi ok hg ht hk he hs h λL C s' m H' I' q hn f=>?_) λ_ s' hq=>wpAny_pure (wpAny_pure hq))
 show wpAny _ _ (assign (.Name y py) X.env (.ref L)) _ _ _
 refine wpAny_assign_Name (store_ok2 (v:=V.ref L) I' hN hy (.inl hyl) rfl (λs2 I2 ⟨a,sb,ha⟩=>?_) (.inr hyl))
 obtain⟨f0,f1,f2,f3,f4,f5⟩:=f
 have haC:C≠a:=by
  rcases ha with z|z
  ·rw[z];exact f1
  ·exact λe=>f4 y a z e.symm
 refine⟨m,hn.sameBut sb haC,λh3 sb3=>?_⟩
 exact⟨_,H',I2.turned (t':=s2.toks) (λb o hb e=>(sb3.2 b hb).trans e) f0 f1 f3 f4 f5,q⟩
theorem Lf{kx vx:Expr}{gs:List Comprehension}{scope:Scope}{pos py:Pos}{y:Str}{l:Nat}{env:Env}(hk:env.scope.kind=.function)(hy:env.scope.names.lookup y=some .local)(hl:(py.line == pos.line)=true)
  (ha:(scope.names.any λ(n,k)=>n == y&&(k == .local || k == .cell))=false):swapsWith (.DictComp kx vx gs scope pos) (some (.Name y py)) l env=pure true:=by
 have ky:env.kindOf y=some .local:=hy
 have hb:env.blockKind=.function:=by unfold Env.blockKind;rw[hk];rfl
 unfold swapsWith
 simp only[hb,ky,ha,Expr.pos,hl]
 rfl
end
def CW(xs:List MV)(lo hi:Option Int):List MV:=(xs.drop (HT.sIx xs.length 0 lo)).take (HT.sIx xs.length xs.length hi - HT.sIx xs.length 0 lo)
def slF(a:OV)(lo hi:Option Int)(m:Mem):R OV:=match pF m a with
 | some (.l xs)=>.ok (.v (.lst (CW xs lo hi))) m
 | some (.t xs)=>.ok (.v (.tup (CW xs lo hi))) m
 | some (.s z)=>if z.length<=sizeLine then .ok (.v (.str (cutS z lo hi))) m else .stuck
 | none=>.stuck
section
variable{X:Cx}
theorem M5{K:Ki}{g:G}{xs:List MV}{vs:List V}(r:RVs K g xs vs)(lo hi:Option Int):RVs K g (CW xs lo hi) (cutV vs lo hi):=by
 unfold CW cutV
 rw[<- r.length]
 exact (r.drop _).take _
def t3(K:Ki)(f:OV->Option Int->Option Int->Mem->R OV):V->Option Int->Option Int->Hp->VK->Prop:=λx lo hi H Q=>∃E g m a,Rs K g m H/\RO K g H a x/\eZ K E g H (f a lo hi m) Q
theorem sl_all:SlR X (t3 X.ki slF):=by
 have w:∀x lo hi H Q,t3 X.ki slF x lo hi H Q->rSlL X.K x lo hi H Q\/(rSlA X.K x lo hi H Q\/rSlS x lo hi H Q):=by
  rintro x lo hi H Q ⟨E,g,m,a,rs,ra,p⟩
  unfold slF at p
  split at p
  ·rename_i xs e
   obtain⟨c,ys,rfl,q,r⟩:=cY rs ra e
   exact .inl ⟨c,ys,rfl,q,wg rs p (M5 r lo hi)⟩
  ·rename_i xs e
   obtain⟨c,ys,rfl,q,r⟩:=cY rs ra e
   refine .inr (.inl ⟨c,ys,rfl,q,λhw=>?_,λhw=>oV rs p (M5 r lo hi)⟩)
   have hc:CW xs lo hi=xs:=by
    unfold CW
    rw[r.length,hw.1,hw.2,<- r.length]
    simp
   rw[hc] at p
   obtain⟨x,rfl⟩:∃x,a=.v (.tup x):=by
    cases a with
    | b o=>cases o <;> cases e
    | v z =>
     cases z <;> try (cases e;done)
     ·exact⟨_,rfl⟩
     ·obtain⟨_,_,e3⟩:=qQi.mp (show (rB m _).map Sq.l=some _ from e)
      cases e3
   cases e
   exact p g _ H rs (Stp.refl _ _) ra
  ·rename_i z e
   obtain rfl:=cY rs ra e
   split at p
   ·exact .inr (.inr ⟨z,rfl,by assumption,bJ rs p rfl⟩)
   ·exact p.elim
  ·exact p.elim
 intro pins s σ H x v vl vu lo hi sl Q I rx hs pl pu h
 exact (sl_list.or (sl_tupA.or sl_str)) pins s σ H x v vl vu lo hi sl Q I rx hs pl pu (w _ _ _ _ _ h)
end
def Jz:OV->Option Int
 | .v (.int i)=>some i
 | _=>none
section
variable{K:Ki}{W:WX}{σ:St}{H:Hp}{Q:VK}
def slA(lo:Bool)(x:OV)(i:OV)(m:Mem):R OV:=match Jz i with
 | some k=>if lo=true then slF x (some k) none m else slF x none (some k) m
 | none=>.stuck
def Wo(x:OV)(k:Int)(j:OV)(m:Mem):R OV:=match Jz j with
 | some l=>slF x (some k) (some l) m
 | _=>.stuck
theorem vR{g:G}{i:OV}{v:V}{k:Int}(r:RO K g H i v)(e:Jz i=some k):v=.int k:=by
 unfold Jz at e
 split at e
 ·cases e;exact r
 ·cases e
theorem Rg{fa fb:Sl->Mem->R OV}(h:tE K W (λs m=>(fa s m).bind λx m=>(fb s m).bind λy m=>slA false x y m) σ H Q):tSl (t3 K slF) (tE K W fa) tNoPart (tPart (tE K W fb)) σ H Q:=by
 obtain⟨g,s,m,rs,rl,p⟩:=h
 refine⟨g,s,m,rs,rl,(dG.bind p).imp λv H1 ⟨x,g1,m1,rs1,st1,r1,p1⟩=>⟨g1,s,m1,rs1,rl.st st1,(dG.bind p1).imp λw H2 ⟨y,g2,m2,rs2,st2,r2,p2⟩=>?_⟩⟩
 unfold slA at p2
 split at p2
 ·rename_i k e
  exact⟨k,vR r2 e,_,g2,m2,x,rs2,RO.st r1 st2,p2⟩
 ·exact p2.elim
theorem Ov{fa fb fc:Sl->Mem->R OV} (h:tE K W (λs m=>(fa s m).bind λx m=>(fb s m).bind λy m=>match Jz y with
  | some k=>(fc s m).bind λz m=>Wo x k z m
  | none=>.stuck) σ H Q):tSl (t3 K slF) (tE K W fa) (tPart (tE K W fb)) (tPart (tE K W fc)) σ H Q:=by
 obtain⟨g,s,m,rs,rl,p⟩:=h
 refine⟨g,s,m,rs,rl,(dG.bind p).imp λv H1 ⟨x,g1,m1,rs1,st1,r1,p1⟩=>⟨g1,s,m1,rs1,rl.st st1,(dG.bind p1).imp λw H2 ⟨y,g2,m2,rs2,st2,r2,p2⟩=>?_⟩⟩
 cases e:Jz y with
 | none=>rw[e] at p2;exact p2.elim
 | some k =>
  rw[e] at p2
  refine⟨k,vR r2 e,g2,s,m2,rs2,(rl.st st1).st st2,(dG.bind p2).imp λu H3 ⟨z,g3,m3,rs3,st3,r3,p3⟩=>?_⟩
  unfold Wo at p3
  split at p3
  ·rename_i l e2
   exact⟨_,vR r3 e2,_,g3,m3,x,rs3,RO.st (RO.st r1 st2) st3,p3⟩
  ·exact p3.elim
end
def itemsO:OV->Option (List MV)
 | .v (.lst xs)=>some xs
 | .v (.kl xs)=>some xs
 | .v (.tup xs)=>some xs
 | .b (.lst xs)=>some xs
 | _=>none
def sY(b:Bool)(x:OV):Option (List OV):=if b=true then (itemsO x).map λxs=>xs.map OV.v else some [x]
theorem yu{K:Ki}{g:G}{H:Hp}:∀{xs:List MV}{vs:List V},RVs K g xs vs->Paired (RO K g H) (xs.map OV.v) vs
 | [],_,h=>by cases (show _=[] from h);exact .nil
 | x::xs,_,⟨v,r,e,h,t⟩=>by subst e;exact .cons h (yu t)
theorem uO{α β:Type}{F:α->β->Prop}:∀{xs zs:List α}{ys ws:List β},Paired F xs ys->Paired F zs ws->Paired F (xs++zs) (ys++ws)
 | [],_,_,_,h,t=>by cases h;exact t
 | _::_,_,_,_,h,t=>by cases h with|cons h h2=>exact .cons h (uO h2 t)
theorem itemsO_ok{K:Ki}{g:G}{H:Hp}{m:Mem}{x:OV}{v:V}{xs:List MV}(rs:Rs K g m H)(r:RO K g H x v)(e:itemsO x=some xs):∃a ys,v=.ref a/\(SqT K H a ys\/SqL K H a ys)/\RVs K g xs ys:=by
 cases x with
 | b o =>
  cases o with
  | lst zs =>
   cases e
   obtain⟨a,rfl,⟨ys,q,rv⟩,_⟩:=r
   exact⟨a,ys,rfl,.inr (.of q),rv⟩
  | _=>cases e
 | v x =>
  cases x with
  | lst zs =>
   cases e
   obtain⟨a,ys,rfl,q,rv⟩:=r
   exact⟨a,ys,rfl,.inr (.of (rs.sub _ _ q)),rv⟩
  | kl zs =>
   cases e
   obtain⟨a,ys,rfl,q,rv⟩:=r
   exact⟨a,ys,rfl,.inr (SqL.ie rs.sub q),rv⟩
  | tup zs =>
   cases e
   obtain⟨a,ys,rfl,q,rv⟩:=r
   exact⟨a,ys,rfl,.inl (SqT.ie rs.sub q),rv⟩
  | _=>cases e
section
variable{K:Ki}{W:WX}{σ:St}{H:Hp}
theorem Rw{fa:Sl->Mem->R OV}{fs:Sl->Mem->R (List OV)}{Q':List V->Hp->Prop} (h:tA K W (λs m=>(fa s m).bind λx m=>match sY true x with
  | some zs=>(fs s m).bind λxs m=>.ok (zs++xs) m
  | none=>.stuck) σ H Q'):StX.tStar K (tE K W fa) (tA K W fs) σ H Q':=by
 obtain⟨g,s,m,rs,rl,p⟩:=h
 refine⟨g,s,m,rs,rl,(dG.bind p).imp λv H1 ⟨x,g1,m1,rs1,st1,r1,p1⟩=>?_⟩
 cases e:itemsO x with
 | none =>
  unfold sY at p1
  rw[e] at p1
  exact p1.elim
 | some xs =>
  have e2:sY true x=some (xs.map OV.v):=by unfold sY;rw[e];rfl
  rw[e2] at p1
  obtain⟨a,ys,rfl,q,rv⟩:=itemsO_ok rs1 r1 e
  refine⟨a,ys,rfl,q,g1,s,m1,rs1,rl.st st1,(dG.bind p1).imp λvs H2 ⟨zs,g2,m2,rs2,st2,r2,p2⟩=>p2 g2 _ H2 rs2 (Stp.refl _ _) ?_⟩
  exact uO (yu (rv.st st2)) r2
end
structure Vb where
 need:List dI:=[]
 parts:Cfg->Expr->Option (List Expr)
 F:List OV->Mem->R OV
 ok:∀{k:Nat}{W:WX}{c:Cfg}{X:Cx}{e:Expr}{es:List Expr}{fs:Sl->Mem->R (List OV)},bV k W c X->(∀n∈need,n.at X k)->parts c e=some es->PA X es (tA X.ki W fs)->PE X e (tE X.ki W λs m=>(fs s m).bind F)
structure HY where
 need:List dI:=[]
 parts:Cfg->Expr->Option (List Expr)
 F:List OV->Mem->R MO
 ok:∀{k:Nat}{W:WX}{c:Cfg}{X:Cx}{e:Expr}{es:List Expr}{fs:Sl->Mem->R (List OV)},bV k W c X->(∀n∈need,n.at X k)->parts c e=some es->PA X es (tA X.ki W fs)->PE X e (tF X.ki W λs m=>(fs s m).bind F)
structure Ib where
 need:List dI:=[]
 parts:Cfg->Expr->Option (Expr × List Expr)
 F:OV->Mem->Option (List OV->Mem->R OV)
 ok:∀{k:Nat}{W:WX}{c:Cfg}{X:Cx}{e o:Expr}{es:List Expr}{fo:Sl->Mem->R OV}{fs:Sl->Mem->R (List OV)},bV k W c X->(∀n∈need,n.at X k)->parts c e=some (o,es)->PE X o (tE X.ki W fo)->Parts X W es fs ->
  PE X e (tE X.ki W λs m=>(fo s m).bind λx m=>match F x m with
   | some f=>(fs s m).bind f
   | none=>.stuck)
def XF(r:R MO):R OV:=match r with
 | .ok o m=>.ok (.v (.ref m.length)) (m++[some o])
 | .exc c ks xs m=>.exc c ks xs m
 | .stuck=>.stuck
section
variable{K:Ki}{W:WX}{σ:L2.St}{H:Hp}{Q:VK}
theorem QZ{f:Sl->Mem->R MO}(h:tE K W (λs m=>XF (f s m)) σ H Q):tF K W f σ H Q:=by
 obtain⟨g,s,m,rs,rl,p⟩:=h
 refine⟨g,s,m,rs,rl,?_⟩
 have p:eZ K (WE W σ) g H (XF (f s m)) Q:=p
 generalize f s m=r at p
 cases r with
 | ok o m' =>
  intro g' q H' rs' st hq hF hr ob
  refine p _ _ H' (rs'.adopt hF hr ob) ⟨st.F,λk a e=>?_,st.keep,st.dom,st.Fn,λk b e=>?_⟩ ⟨q,rfl,by simp⟩
  ·have e:=st.r k a e
   have:=(rs'.rb k a e).1
   show (if k=m'.length then some q else g'.r k)=some a
   rw[if_neg (by omega)];exact e
  ·have e:(if k=m'.length then some q else g'.r k)=some b:=e
   by_cases hk:k=m'.length
   ·rw[if_pos hk] at e;cases e;exact .inr hq
   ·rw[if_neg hk] at e;exact st.rn k b e
 | exc c ks xs m'=>exact p
 | stuck=>exact p
end
end Rc
namespace RgF
open PySem
open Sem (wp)
def dead:Resume->Sem PySem.Fin:=λ_=>.unsupported "asleep"
def iU:GenState->GenState
 | .suspended _ l c p fs cl=>.suspended dead l c p fs cl
 | x=>x
theorem yW(x:GenState):(iU x).seen=x.seen:=by cases x <;> rfl
theorem zp(x:GenState):(iU x).bare=x.bare:=by cases x <;> rfl
def LR(x:GenState):Prop:=∃k l c p fs cl,x=.suspended k l c p fs cl
structure Rel(D:Nat->Option GenState)(A B:Array GenState):Prop where
 size:A.size=B.size
 off:∀i,D i=none->B[i]? = A[i]?
 on:∀i x,D i=some x->A[i]? = some (iU x)/\B[i]? = some x/\LR x
def gY(fs:List Frame):Prop:=∀F∈fs,∀g k l c p,F≠.gen g k l c p
theorem gY.nil:gY []:=λ_ h=>by cases h
theorem gY.tail{F:Frame}{fs:List Frame}(h:gY (F::fs)):gY fs:=λx hx=>h x (qQd _ hx)
theorem gY.split:∀{fs:List Frame},gY fs->splitAtGen fs=none
 | [],_=>rfl
 | .gen g k l c p::fs,h=>absurd rfl (h _ qQc g k l c p)
 | .ret ..::fs,h=>by
  show (splitAtGen fs).map _=none
  rw[gY.split h.tail]
  rfl
theorem gY.app{a b:List Frame}(h:gY a)(k:gY b):gY (a++b):=λF hF=>(List.mem_append.mp hF).elim (h F) (k F)
theorem gY.ret{k h g l c p kp}:gY [.ret k h g l c p kp]:=λF hF=>by rw[qQk.mp hF];intro _ _ _ _ _ z;cases z
def Tame(D:Nat->Option GenState)(A:Array GenState):Prop:=∀i k l c p fs cl,A[i]? = some (.suspended k l c p fs cl)->D i=none->gY fs
def WD:End->Prop
 | .susp _ _ _ _ _ _ fs=>gY fs
 | .ret _=>True
section
variable{D:Nat->Option GenState}{A B:Array GenState}
theorem Rel.fresh(h:Rel D A B){i:Nat}{c:Code}(e:A[i]? = some (.fresh c)):D i=none/\B[i]? = some (.fresh c):=by
 cases hd:D i with
 | none=>exact⟨rfl,(h.off i hd).trans e⟩
 | some x =>
  obtain⟨h1,h2,k,l,c',p,fs,cl,rfl⟩:=h.on i x hd
  rw[e] at h1;cases h1
theorem Rel.running(h:Rel D A B){i:Nat}(e:A[i]? = some .running):B[i]? = some .running:=by
 cases hd:D i with
 | none=>exact (h.off i hd).trans e
 | some x =>
  obtain⟨h1,h2,k,l,c',p,fs,cl,rfl⟩:=h.on i x hd
  rw[e] at h1;cases h1
theorem Rel.finished(h:Rel D A B){i:Nat}(e:A[i]? = some .finished):B[i]? = some .finished:=by
 cases hd:D i with
 | none=>exact (h.off i hd).trans e
 | some x =>
  obtain⟨h1,h2,k,l,c',p,fs,cl,rfl⟩:=h.on i x hd
  rw[e] at h1;cases h1
theorem Rel.state(h:Rel D A B){i:Nat}{st:GenState}(e:A[i]? = some st):∃x,B[i]? = some x/\x.seen=st.seen:=by
 cases hd:D i with
 | none=>exact⟨st,(h.off i hd).trans e,rfl⟩
 | some x =>
  obtain⟨h1,h2,_⟩:=h.on i x hd
  rw[e] at h1;cases h1
  exact⟨x,h2,(yW x).symm⟩
theorem Rel.push(h:Rel D A B)(x:GenState):Rel D (A.push x) (B.push x) where
 size:=by simp[h.size]
 off:=λi hi=>by
  have:=h.off i hi
  rw[Array.getElem?_push,Array.getElem?_push,h.size,this]
 on:=λi y hy=>by
  obtain⟨h1,h2,h3⟩:=h.on i y hy
  have l1:i<A.size:=(Array.getElem?_eq_some_iff.mp h1).1
  refine⟨?_,?_,h3⟩
  ·rw[Array.getElem?_push,if_neg (by omega)];exact h1
  ·rw[Array.getElem?_push,if_neg (by have:=h.size;omega)];exact h2
theorem Rel.set(h:Rel D A B){g:Nat}(hg:D g=none)(x:GenState):Rel D (A.setIfInBounds g x) (B.setIfInBounds g x) where
 size:=by simp[h.size]
 off:=λi hi=>by
  have:=h.off i hi
  rw[Array.getElem?_setIfInBounds,Array.getElem?_setIfInBounds,h.size,this]
 on:=λi y hy=>by
  obtain⟨h1,h2,h3⟩:=h.on i y hy
  have ne:g≠i:=λz=>by rw[z,hy] at hg;cases hg
  refine⟨?_,?_,h3⟩
  ·rw[Array.getElem?_setIfInBounds_ne ne];exact h1
  ·rw[Array.getElem?_setIfInBounds_ne ne];exact h2
theorem Tame.push(h:Tame D A)(c:Code):Tame D (A.push (.fresh c)):=λi k l c' p fs cl e hd=>by
 rw[Array.getElem?_push] at e
 split at e
 ·cases e
 ·exact h i k l c' p fs cl e hd
theorem Tame.set(h:Tame D A){g:Nat}{x:GenState}(hx:∀k l c p fs cl,x=.suspended k l c p fs cl->gY fs):Tame D (A.setIfInBounds g x):=λi k l c' p fs cl e hd=>by
 by_cases z:g=i
 ·subst z
  rw[Array.getElem?_setIfInBounds] at e
  simp only[if_true] at e
  split at e
  ·exact hx _ _ _ _ _ _ (qQ5 e)
  ·cases e
 ·rw[Array.getElem?_setIfInBounds_ne z] at e
  exact h i k l c' p fs cl e hd
theorem qQ{e:End}(h:WD e):∀k l c p fs cl,e.genState=.suspended k l c p fs cl->gY fs:=λk l c p fs cl z=>by
 cases e with
 | ret r=>cases z
 | susp v g l' k' c' p' fs'=>cases z;exact h
end
theorem Ce{M:Model}{Γ:Ctx}{p:Pos}{w:String}{fs:List Frame}{s s':Shared}{e:End}(h:Runs M Γ p (.unsupported w) fs s e s'):False:=by
 generalize ht:(Sem.unsupported w:Sem PySem.Fin)=t at h
 induction h with
 | segRet _ _ ih _=>exact ih ht
 | segGen _ _ ih _=>exact ih ht
 | segSuspOut _ _ ih=>exact ih ht
 | segSuspGen _ _ _ _ ih _=>exact ih ht
 | _=>cases ht
theorem pC{M:Model}{D:Nat->Option GenState}{Γ:Ctx}{p:Pos}{t:Sem PySem.Fin}{fs:List Frame}{s s':Shared}{e:End}(h:Runs M Γ p t fs s e s'):gY fs->Tame D s.gens->∀G,Rel D s.gens G ->
  Tame D s'.gens/\WD e/\∃G',Rel D s'.gens G'/\Runs M Γ p t fs { s with gens:=G } e { s' with gens:=G' }:=by
 induction h with
 | done=>exact λ_ ht G r=>⟨ht,trivial,G,r,.done⟩
 | raise=>exact λ_ ht G r=>⟨ht,trivial,G,r,.raise⟩
 | again hq _ ih=>exact λhf ht G r=>let ⟨a,b,G',r',h'⟩:=ih hf ht G r;⟨a,b,G',r',.again hq h'⟩
 | rule _ ih=>exact λhf ht G r=>let ⟨a,b,G',r',h'⟩:=ih hf ht G r;⟨a,b,G',r',.rule h'⟩
 | «at» _ ih=>exact λhf ht G r=>let ⟨a,b,G',r',h'⟩:=ih hf ht G r;⟨a,b,G',r',.at h'⟩
 | load ho _ ih=>exact λhf ht G r=>let ⟨a,b,G',r',h'⟩:=ih hf ht G r;⟨a,b,G',r',.load ho h'⟩
 | update ho _ ih=>exact λhf ht G r=>let ⟨a,b,G',r',h'⟩:=ih hf ht G r;⟨a,b,G',r',.update ho h'⟩
 | loadIfAlive _ ih=>exact λhf ht G r=>let ⟨a,b,G',r',h'⟩:=ih hf ht G r;⟨a,b,G',r',.loadIfAlive h'⟩
 | point _ ih=>exact λhf ht G r=>let ⟨a,b,G',r',h'⟩:=ih hf ht G r;⟨a,b,G',r',.point h'⟩
 | alloc _ ih=>exact λhf ht G r=>let ⟨a,b,G',r',h'⟩:=ih hf ht G r;⟨a,b,G',r',.alloc h'⟩
 | fresh _ ih=>exact λhf ht G r=>let ⟨a,b,G',r',h'⟩:=ih hf ht G r;⟨a,b,G',r',.fresh h'⟩
 | ask _ ih=>exact λhf ht G r=>let ⟨a,b,G',r',h'⟩:=ih hf ht G r;⟨a,b,G',r',.ask h'⟩
 | choose hn _ ih=>exact λhf ht G r=>let ⟨a,b,G',r',h'⟩:=ih hf ht G r;⟨a,b,G',r',.choose hn h'⟩
 | os _ ih=>exact λhf ht G r=>let ⟨a,b,G',r',h'⟩:=ih hf ht G r;⟨a,b,G',r',.os h'⟩
 | handled _ ih=>exact λhf ht G r=>let ⟨a,b,G',r',h'⟩:=ih hf ht G r;⟨a,b,G',r',.handled h'⟩
 | stack _ ih=>exact λhf ht G r=>let ⟨a,b,G',r',h'⟩:=ih hf ht G r;⟨a,b,G',r',.stack h'⟩
 | thread _ ih=>exact λhf ht G r=>let ⟨a,b,G',r',h'⟩:=ih hf ht G r;⟨a,b,G',r',.thread h'⟩
 | genState hg _ ih =>
  intro hf ht G r
  obtain⟨a,b,G',r',h'⟩:=ih hf ht G r
  obtain⟨x,h2,e⟩:=r.state hg
  rw[<- e] at h'
  exact⟨a,b,G',r',.genState h2 h'⟩
 | newGen _ ih =>
  intro hf ht G r
  obtain⟨a,b,G',r',h'⟩:=ih hf (ht.push _) _ (r.push _)
  refine⟨a,b,G',r',.newGen ?_⟩
  rw[r.size] at h'
  exact h'
 | call _ _ ih1 ih2 =>
  intro hf ht G r
  obtain⟨a1,_,G1,r1,h1⟩:=ih1 .nil ht G r
  obtain⟨a2,b2,G2,r2,h2⟩:=ih2 hf a1 G1 r1
  exact⟨a2,b2,G2,r2,.call h1 h2⟩
 | callSusp _ ih =>
  intro hf ht G r
  obtain⟨a1,b1,G1,r1,h1⟩:=ih .nil ht G r
  exact⟨a1,gY.app b1 .ret,G1,r1,.callSusp h1⟩
 | yield=>exact λ_ ht G r=>⟨ht,.nil,G,r,.yield⟩
 | resumeFresh hg _ hq _ ih1 ih2 =>
  intro hf ht G r
  obtain⟨hd,hG⟩:=r.fresh hg
  obtain⟨a1,b1,G1,r1,h1⟩:=ih1 .nil (ht.set λ_ _ _ _ _ _ z=>by cases z) _ (r.set hd _)
  obtain⟨a2,b2,G2,r2,h2⟩:=ih2 hf (a1.set (qQ b1)) _ (r1.set hd _)
  exact⟨a2,b2,G2,r2,.resumeFresh hG h1 hq h2⟩
 | @resumeSuspended Γ p g r' l k s k₀ l₀ c₀ p₀ fs cl e₁ s₁ e s' hg hr hq _ ih1 ih2 =>
  intro hf ht G r
  cases hd:D g with
  | some x =>
   obtain⟨h1,h2,k2,l2,c2,p2,fs2,cl2,rfl⟩:=r.on g x hd
   rw[hg] at h1
   cases h1
   exact (Ce hr).elim
  | none =>
   have hfs:=ht g _ _ _ _ _ _ hg hd
   obtain⟨a1,b1,G1,r1,h1⟩:=ih1 hfs (ht.set λ_ _ _ _ _ _ z=>by cases z) _ (r.set hd _)
   obtain⟨a2,b2,G2,r2,h2⟩:=ih2 hf (a1.set (qQ b1)) _ (r1.set hd _)
   exact⟨a2,b2,G2,r2,.resumeSuspended ((r.off g hd).trans hg) h1 hq h2⟩
 | resumeJustStarted hg hv _ ih=>exact λhf ht G r=>let ⟨a,b,G',r',h'⟩:=ih hf ht G r;⟨a,b,G',r',.resumeJustStarted (r.fresh hg).2 hv h'⟩
 | resumeThrowFresh hg _ ih =>
  intro hf ht G r
  obtain⟨hd,hG⟩:=r.fresh hg
  obtain⟨a,b,G',r',h'⟩:=ih hf (ht.set λ_ _ _ _ _ _ z=>by cases z) _ (r.set hd _)
  exact⟨a,b,G',r',.resumeThrowFresh hG h'⟩
 | resumeRunning hg _ ih=>exact λhf ht G r=>let ⟨a,b,G',r',h'⟩:=ih hf ht G r;⟨a,b,G',r',.resumeRunning (r.running hg) h'⟩
 | resumeFinished hg _ ih=>exact λhf ht G r=>let ⟨a,b,G',r',h'⟩:=ih hf ht G r;⟨a,b,G',r',.resumeFinished (r.finished hg) h'⟩
 | segRet _ _ ih1 ih2 =>
  intro hf ht G r
  obtain⟨a1,_,G1,r1,h1⟩:=ih1 .nil ht G r
  obtain⟨a2,b2,G2,r2,h2⟩:=ih2 hf.tail a1 G1 r1
  exact⟨a2,b2,G2,r2,.segRet h1 h2⟩
 | segGen _ _ _ _=>exact λhf=>absurd rfl (hf _ qQc _ _ _ _ _)
 | segSuspOut hs _ ih =>
  intro hf ht G r
  obtain⟨a1,b1,G1,r1,h1⟩:=ih .nil ht G r
  exact⟨a1,gY.app b1 hf,G1,r1,.segSuspOut hs h1⟩
 | segSuspGen hs _ _ _ _ _=>exact λhf=>by rw[hf.split] at hs;cases hs
theorem zm{M:Model}{D:Nat->Option GenState}{Γ:Ctx}{p:Pos}{g:Nat}{q:Resume}{s s':Shared}{res:GenResult}(h:Wakes M Γ p g q s res s')(ht:Tame D s.gens){G:Array GenState}(r:Rel D s.gens G):
  Tame D s'.gens/\∃G',Rel D s'.gens G'/\Wakes M Γ p g q { s with gens:=G } res { s' with gens:=G' }:=by
 unfold Wakes at h
 split at h
 ·exact h.elim
 ·rename_i c hg
  obtain⟨hd,hG⟩:=r.fresh hg
  cases q with
  | throw x =>
   obtain⟨rfl,rfl⟩:=h
   refine⟨ht.set (λ_ _ _ _ _ _ z=>by cases z),_,r.set hd _,?_⟩
   unfold Wakes
   rw[show ({ s with gens:=G }:Shared).gens[g]? = some (.fresh c) from hG]
   exact⟨rfl,rfl⟩
  | send v =>
   cases v with
   | none =>
    obtain⟨e₁,s₁,hr,hq,rfl,rfl⟩:=h
    obtain⟨a1,b1,G1,r1,h1⟩:=pC hr .nil (ht.set λ_ _ _ _ _ _ z=>by cases z) _ (r.set hd .running)
    refine⟨a1.set (qQ b1),_,r1.set hd _,?_⟩
    unfold Wakes
    rw[show ({ s with gens:=G }:Shared).gens[g]? = some (.fresh c) from hG]
    exact⟨e₁,_,h1,hq,rfl,rfl⟩
   | _ =>
    obtain⟨rfl,rfl⟩:=h
    refine⟨ht,G,r,?_⟩
    unfold Wakes
    rw[show ({ s' with gens:=G }:Shared).gens[g]? = some (.fresh c) from hG]
    exact⟨rfl,rfl⟩
 ·rename_i k₀ l₀ c₀ p₀ fs cl hg
  obtain⟨e₁,s₁,hr,hq,rfl,rfl⟩:=h
  cases hd:D g with
  | some x =>
   obtain⟨h1,h2,k2,l2,c2,p2,fs2,cl2,rfl⟩:=r.on g x hd
   rw[hg] at h1
   cases h1
   exact (Ce hr).elim
  | none =>
   obtain⟨a1,b1,G1,r1,h1⟩:=pC hr (ht g _ _ _ _ _ _ hg hd) (ht.set λ_ _ _ _ _ _ z=>by cases z) _ (r.set hd .running)
   refine⟨a1.set (qQ b1),_,r1.set hd _,?_⟩
   unfold Wakes
   rw[show ({ s with gens:=G }:Shared).gens[g]? = some (.suspended k₀ l₀ c₀ p₀ fs cl) from (r.off g hd).trans hg]
   exact⟨e₁,_,h1,hq,rfl,rfl⟩
 ·rename_i hg
  obtain⟨rfl,rfl⟩:=h
  refine⟨ht,G,r,?_⟩
  unfold Wakes
  rw[show ({ s' with gens:=G }:Shared).gens[g]? = some .running from r.running hg]
  exact⟨rfl,rfl⟩
 ·rename_i hg
  obtain⟨rfl,rfl⟩:=h
  refine⟨ht,G,r,?_⟩
  unfold Wakes
  rw[show ({ s' with gens:=G }:Shared).gens[g]? = some .finished from r.finished hg]
  exact⟨rfl,rfl⟩
def At(D:Nat->Option GenState){α:Type}(Q:α->Pos->Shared->Prop):α->Pos->Shared->Prop:=λa p s=>∃A,Tame D A/\Rel D A s.gens/\Q a p { s with gens:=A }
theorem JP{α:Type}(M:Model)(D:Nat->Option GenState)(Γ:Ctx)(t:Sem α):∀(Q:α->Pos->Shared->Prop) (E:Value->Pos->Shared->Prop) (p:Pos) (s:Shared) (G:Array GenState),Tame D s.gens->Rel D s.gens G->wp M Γ t Q E p s ->
  wp M Γ t (At D Q) (At D E) p { s with gens:=G }:=by
 induction t with
 | pure a=>intro Q E p s G ht r h;exact⟨s.gens,ht,r,h⟩
 | raise e=>intro Q E p s G ht r h;exact⟨s.gens,ht,r,h⟩
 | unsupported _=>intro Q E p s G _ _ h;exact h
 | finish _=>intro Q E p s G _ _ h;exact h
 | rule _ k ih=>intro Q E p s G ht r h;exact ih () Q E p s G ht r h
 | «at» p' k ih=>intro Q E p s G ht r h;exact ih () Q E p' s G ht r h
 | load a _ k ih=>intro Q E p s G ht r h;obtain⟨o,ho,h⟩:=h;exact⟨o,ho,ih o Q E p s G ht r h⟩
 | update a _ f k ih=>intro Q E p s G ht r h;exact⟨h.1,ih () Q E p { s with heap:=s.heap.update a f } G ht r h.2⟩
 | loadIfAlive a k ih=>intro Q E p s G ht r h;exact ih _ Q E p s G ht r h
 | point _ k ih=>intro Q E p s G ht r h;exact ih () Q E p s G ht r h
 | register _ _=>intro Q E p s G _ _ h;exact h
 | alloc o k ih=>intro Q E p s G ht r h;exact ih _ Q E p { s with heap:=s.heap.push o } G ht r h
 | fresh k ih=>intro Q E p s G ht r h;exact ih _ Q E p { s with toks:=s.toks+1 } G ht r h
 | ask k ih=>intro Q E p s G ht r h;exact ih _ Q E p s G ht r h
 | choose src m k ih=>intro Q E p s G ht r h;exact⟨h.1,ih _ Q E p { s with drawn:=s.drawn.bump src } G ht r h.2⟩
 | os q _ k ih=>intro Q E p s G ht r h;exact ih _ Q E p { s with os:=(Os.step s.os q).1 } G ht r h
 | call c hd _ _ k ih =>
  intro Q E p s G ht r h
  obtain⟨q,s',hr,h⟩:=h
  obtain⟨a1,_,G1,r1,h1⟩:=pC hr .nil ht G r
  exact⟨q,_,h1,ih q Q E p s' G1 a1 r1 h⟩
 | handled own k ih=>intro Q E p s G ht r h;exact ih _ Q E p s G ht r h
 | genState g k ih =>
  intro Q E p s G ht r h
  obtain⟨st,hs,h⟩:=h
  obtain⟨x,h2,e⟩:=r.state hs
  refine⟨x,h2,?_⟩
  rw[e]
  exact ih _ Q E p s G ht r h
 | newGen c k ih =>
  intro Q E p s G ht r h
  have:=ih _ Q E p { s with gens:=s.gens.push (.fresh c) } (G.push (.fresh c)) (ht.push c) (r.push _) h
  rw[r.size] at this
  exact this
 | resume g q _ k ih =>
  intro Q E p s G ht r h
  obtain⟨res,s',hw,h⟩:=h
  obtain⟨a1,G1,r1,h1⟩:=zm hw ht r
  exact⟨res,_,h1,ih res Q E p s' G1 a1 r1 h⟩
 | yield _ _ _ _=>intro Q E p s G _ _ h;exact h
 | stack k ih=>intro Q E p s G ht r h;exact ih _ Q E p s G ht r h
 | fork _ _=>intro Q E p s G _ _ h;exact h
 | thread k ih=>intro Q E p s G ht r h;exact ih _ Q E p s G ht r h
 | await _ _ _ _ _=>intro Q E p s G _ _ h;exact h
def asleep(G:Array GenState):Nat->Option GenState:=λi=>match G[i]? with
 | some (.suspended k l c p fs cl)=>some (.suspended k l c p fs cl)
 | _=>none
theorem CZ(G:Array GenState):Rel (asleep G) (G.map iU) G where
 size:=by simp
 off:=λi h=>by
  rw[Array.getElem?_map]
  unfold asleep at h
  cases e:G[i]? with
  | none=>rfl
  | some x=>rw[e] at h;cases x <;> first|rfl|cases h
 on:=λi x h=>by
  rw[Array.getElem?_map]
  unfold asleep at h
  cases e:G[i]? with
  | none=>rw[e] at h;cases h
  | some y=>rw[e] at h;cases y <;> first|(cases h;done)|(cases h;exact⟨rfl,rfl,_,_,_,_,_,_,rfl⟩)
theorem zL(G:Array GenState):Tame (asleep G) (G.map iU):=λi k l c p fs cl e hd=>by
 rw[Array.getElem?_map] at e
 unfold asleep at hd
 cases e2:G[i]? with
 | none=>rw[e2] at e;cases e
 | some y=>rw[e2] at e hd;cases y <;> first|(cases e;done)|(cases hd;done)
def Kept(G G':Array GenState):Prop:=∀i x,asleep G i=some x->G'[i]? = some x
theorem yx{α:Type}{M:Model}{A:Around}{t:Sem α}{s:Shared}{Q:α->Shared->Prop}{E:Value->Shared->Prop}(h:wpAny M A t Q E { s with gens:=s.gens.map iU }):
  wpAny M A t (λa s'=>Kept s.gens s'.gens/\∃A',Rel (asleep s.gens) A' s'.gens/\Q a { s' with gens:=A' }) (λe s'=>Kept s.gens s'.gens/\∃A',Rel (asleep s.gens) A' s'.gens/\E e { s' with gens:=A' }) s:=by
 intro Γ p hΓ
 have:=JP M (asleep s.gens) Γ t _ _ p { s with gens:=s.gens.map iU } s.gens (zL s.gens) (CZ s.gens) (h Γ p hΓ)
 refine Sem.wp_mono M _ _ (λa p' s' hq=>?_) (λe p' s' hq=>?_) _ _ this
 ·obtain⟨A',_,r,q⟩:=hq
  exact⟨λi x hx=>(r.on i x hx).2.1,A',r,q⟩
 ·obtain⟨A',_,r,q⟩:=hq
  exact⟨λi x hx=>(r.on i x hx).2.1,A',r,q⟩
def RX(M:Model)(A:Around)(Φ:End->Shared->Prop)(c:Code)(t:Sem PySem.Fin)(fs:List Frame)(s:Shared):Prop:=∀Γ p,Γ.code=c->Γ.Woken A->∃e s',Runs M Γ p t fs s e s'/\Φ e s'
section
variable{M:Model}{A:Around}{Φ Φ':End->Shared->Prop}{c:Code}{fs:List Frame}{s:Shared}
theorem RX.mono{t:Sem PySem.Fin}(h:RX M A Φ c t fs s)(w:∀e s',Φ e s'->Φ' e s'):RX M A Φ' c t fs s:=fun Γ p hc hΓ=>let ⟨e,s',hr,q⟩:=h Γ p hc hΓ;⟨e,s',hr,w e s' q⟩
variable{env:Env}{K:Flow->Sem PySem.Fin}{H:Value->Sem PySem.Fin}{gd:Bool->Bool}{lv:List Value->List Value}
end
section
variable{prog:Program}{w:World}{A:Around}{Φ:End->Shared->Prop}{fs:List Frame}{s:Shared}{env:Env}
end
end RgF
namespace RgF
open PySem PySem.Spec L2 Rc GenW
open PyProof.Rows hiding St
def trunc(h:Heap)(n:Nat):Heap:={ h with objs:=h.objs.extract 0 n }
theorem qR{h:Heap}{n b:Nat}(hb:b<n):(trunc h n).get? b=h.get? b:=by
 unfold trunc Heap.get?
 have e:(h.objs.extract 0 n)[b]? = h.objs[b]?:=by
  rw[Array.getElem?_extract]
  by_cases q:b<h.objs.size
  ·rw[if_pos (by omega)];simp
  ·rw[if_neg (by omega)]
   symm
   exact Array.getElem?_eq_none (by omega)
 dsimp only
 rw[e]
theorem Ls{h:Heap}{n b:Nat}(hb:n<=b):(trunc h n).get? b=none:=by
 refine Heap.get?_none_of_le ?_
 unfold trunc
 simp
 omega
theorem iG{h:Heap}{n b:Nat}{o:Obj}(e:(trunc h n).get? b=some o):b<n/\h.get? b=some o:=by
 by_cases hb:b<n
 ·exact⟨hb,by rw[<- qR hb];exact e⟩
 ·rw[Ls (by omega)] at e;cases e
theorem vm{h:Heap}{n:Nat}(hn:n<=h.objs.size):(trunc h n).objs.size=n:=by
 unfold trunc
 simp
 omega
structure GP where
 prog:Program
 w:World
 K:PySem.W.Frag
 mg:Str->Option Value
 base:Heap
 N:List Str
 env:Env
 outer:List Env
 A:Around
abbrev GP.ki(p:GP):Ki:=⟨p.K,p.prog,p.w⟩
abbrev GP.md(p:GP):Model:=model p.prog p.w
open Classical in
def GP.cut(p:GP)(H:Hp):Hp:=λb=>if b<p.env.locals\/∃ps,H b=some (.tbl ps) then H b else none
theorem GP.Ac{p:GP}{H:Hp}{b:Addr}(h:b<p.env.locals):p.cut H b=H b:=if_pos (.inl h)
theorem GP.Rf{p:GP}{H:Hp}{b:Addr}{ps:Array Value}(h:H b=some (.tbl ps)):p.cut H b=some (.tbl ps):=(if_pos (.inr ⟨ps,h⟩)).trans h
def GP.s0(p:GP)(s:Shared):Shared:={ s with heap:=trunc s.heap p.env.locals }
def GP.X(p:GP)(sw:Shared)(Hw:Hp):Cx where
 prog:=p.prog
 w:=p.w
 K:=p.K
 mg:=p.mg
 base:=p.base
 A:=p.A.deeper p.env
 N:=p.N
 s_0:=p.s0 sw
 H_0:=p.cut Hw
 env:=p.env
 outer:=p.outer
 stack:=p.env::p.outer
 ex:=[]
 fn:=λ_=>true
 calm:=true
 pn:=[]
 xe:=λ_ _=>False
abbrev fz(F:Hp):G:=⟨F,λ_=>none⟩
structure Gh where
 g:G
 m:Mem
 H:Hp
 ep:List (Addr × Obj)
structure In(p:GP)(gh:Gh)(sw:Shared)(pins:List (Addr × Obj))(s:Sl)(F:Hp)(σ:L2.St)(H:Hp)(sh:Shared):Prop where
 inv:Inv (p.X sw gh.H) (gh.ep++pins) σ H sh
 rs:Rs p.ki (fz F) [] H
 rl:RSl p.ki (fz F) s σ H
 st:Stp (fz gh.g.F) gh.H (fz F) H
 no:∀(i:Nat) o,s[i]?≠some (some (.own o))
 ap:∀q∈gh.ep,∀r∈pins,q.1≠r.1
 yg:∀r∈pins,p.env.locals<=r.1
 sz:p.env.locals<=sw.heap.objs.size
structure After(p:GP)(gh:Gh)(sw:Shared)(F' H':Hp)(s':Shared):Prop where
 os:s'.os=sw.os
 bare:AllBare s'.gens
 rs:Rs p.ki (fz F') [] H'
 st:Stp (fz gh.g.F) gh.H (fz F') H'
 hok:HOk p.prog p.w H' s'.heap
 un:Un (frs p.outer) [] (p.cut gh.H) H' (trunc sw.heap p.env.locals) s'.heap
 ep:∀q∈gh.ep,s'.heap.get? q.1=some q.2/\H' q.1=none
structure Pv(p:GP)(gh:Gh)(pv:List (Addr × Obj))(H':Hp)(s':Shared):Prop where
 at_:∀q∈pv,s'.heap.get? q.1=some q.2/\H' q.1=none/\p.env.locals<=q.1
 ep:∀q∈pv,∀r∈gh.ep,r.1≠q.1
 loc:∃o,(p.env.locals,o)∈pv
structure N6(p:GP)(pl:List (Addr × Obj))(F1:Hp)(gh:Gh)(sw:Shared):Prop where
 env0:Env0 p.prog p.w p.K p.mg p.base p.A p.outer sw gh.H
 rs:Rs p.ki gh.g gh.m gh.H
 F:∀b u,F1 b=some u->gh.g.F b=some u
 pv:∀q∈pl,sw.heap.get? q.1=some q.2/\gh.H q.1=none
 ep:∀q∈gh.ep,sw.heap.get? q.1=some q.2/\gh.H q.1=none/\q.1∉frs p.outer/\(∀v,q.2.data≠.cell v)/\∀r∈pl,q.1≠r.1
def Vq(p:GP):List MV->Gh->Shared->End->Shared->Prop
 | [],gh,sw,e,s'=>e=.ret (.ok (.ret .none))/\∃F' H',After p gh sw F' H' s'
 | y::L,gh,sw,e,s'=>∃(v:Value) (l:List Value) (k:Resume->Sem PySem.Fin) (c:Code) (q:Pos) (fs:List Frame) (F' H':Hp) (x:V) (pv:List (Addr × Obj)),e=.susp v false l k c q fs/\fs.any Frame.guarded=false /\
   After p gh sw F' H' s'/\RelV x v/\RV p.ki (fz F') y x/\Pv p gh pv H' s' /\
   ∀gh2 sw2,N6 p pv F' gh2 sw2->RX p.md p.A (Vq p L gh2 sw2) c (k (.send .none)) fs sw2
def Slp(p:GP)(L:List MV)(pl:List (Addr × Obj))(F:Hp):GenState->Prop
 | .fresh c=>∀gh sw,N6 p pl F gh sw->RX p.md p.A (Vq p L gh sw) c (p.md.den c) [] sw
 | .suspended k _ c _ fs _=>∀gh sw,N6 p pl F gh sw->RX p.md p.A (Vq p L gh sw) c (k (.send .none)) fs sw
 | _=>False
section
variable{p:GP}{gh gh2:Gh}{sw sw2 sh:Shared}{pins:List (Addr × Obj)}{s:Sl}{F H:Hp}{σ:L2.St}
def cellsOf(env:Env):List Addr:=env.cells.filterMap λq=>env.cells.lookup q.1
theorem rC{env:Env}{x:Str}{c:Addr}(e:env.cells.lookup x=some c):c∈cellsOf env:=List.mem_filterMap.mpr ⟨(x,c),PySem.mem_of_lookup e,e⟩
def ab4(p:GP)(sh:Shared)(pins:List (Addr × Obj)):List (Addr × Obj):=pinsAt (p.env.locals::cellsOf p.env) sh.heap++pins
theorem Ui(I:Inv (p.X sw Hw) pins σ H sh)(hs:p.env.locals<=sw.heap.objs.size):∀b∈frs p.outer,b<p.env.locals:=λb hb=>by
 obtain⟨_,o,ho,_⟩:=I.ok.funs.mem hb
 have e:(trunc sw.heap p.env.locals).get? b=some o:=ho
 exact (iG e).1
theorem Rs.fz{K:Ki}{g:G}{m:Mem}(h:Rs K g m H):Rs K (fz g.F) [] H where
 sub:=h.sub
 gr:=λn o e=>by simp at e
 rb:=λn a e=>by cases e
 rj:=λn k a e=>by cases e
 tb:=λq hq=>by
  have t:=h.tb q hq
  exact⟨t.ps,t.F,λn e=>by cases e⟩
theorem Rs.none{K:Ki}{g:G}(h:Rs K g [] H):g=RgF.fz g.F:=by
 obtain⟨F,r⟩:=g
 have:r=λ_=>Option.none:=by
  funext n
  cases e:r n with
  | none=>rfl
  | some a=>have:=(h.rb n a e).1;simp at this
 subst this
 rfl
theorem pY{h:Heap}{base:Heap}{n:Nat}:∀{l:List Env},h.FunFrames base l->(∀b∈frs l,b<n)->(trunc h n).FunFrames base l
 | [],_,_=>trivial
 | env::r,hl,hb=>by
  obtain⟨hk,⟨L,o,hf,hn,ho,hd⟩,hr⟩:=hl
  have hL:L∈frs (env::r):=by unfold frs;rw[List.filterMap_cons,hf];exact qQc
  exact⟨hk,⟨L,o,hf,hn,(qR (hb L hL)).trans ho,hd⟩,pY hr λb h=>hb b (by unfold frs at h ⊢;rw[List.filterMap_cons,hf];exact qQd _ h)⟩
theorem In.wake(I:In p gh sw pins s F σ H sh)(W:N6 p (ab4 p sh pins) F gh2 sw2):In p gh2 sw2 pins s gh2.g.F σ gh2.H sw2:=by
 have J:=I.inv
 obtain⟨mL,⟨oL,es,ep,hoL,rL⟩,hloc⟩:=J.loc
 have pvL:(p.env.locals,oL)∈ab4 p sh pins:=qQw _ (mem_pinsAt qQc hoL)
 have hoL2:=(W.pv _ pvL).1
 have lt2:p.env.locals<sw2.heap.objs.size:=Heap.lt_size hoL2
 have cellAt:∀x c,p.env.cells.lookup x=some c->∀v,sh.heap.IsCell c v->sw2.heap.IsCell c v:=λx c e v ⟨o,ho,hd⟩ =>
  ⟨o,(W.pv (c,o) (qQw _ (mem_pinsAt (qQd _ (rC e)) ho))).1,hd⟩
 have cellN:∀x c,p.env.cells.lookup x=some c->gh2.H c=none:=λx c e=>by
  obtain⟨v,o,ho,hd⟩:=J.cell x c e
  exact (W.pv (c,o) (qQw _ (mem_pinsAt (qQd _ (rC e)) ho))).2
 have old:=Ui J I.sz
 have ok:=J.ok
 have bsz:p.base.objs.size<=p.env.locals:=Nat.le_trans ok.bsz ok.above
 have s0sz:(p.s0 sw2).heap.objs.size=p.env.locals:=vm (Nat.le_of_lt lt2)
 have s0sz1:(p.s0 sw).heap.objs.size=p.env.locals:=vm I.sz
 have baseLt:∀b o,p.base.get? b=some o->b<p.env.locals:=λb o e=>qQ2 (Heap.lt_size e) bsz
 refine⟨⟨⟨ok.mod,ok.kind,ok.glob,ok.blt,Nat.le_of_eq s0sz,ok.inj,ok.has,λx c h1 h2=>?_,ok.hd,ok.frames,ok.stk,ok.exf,λb o e=>?_,?_,ok.noex,ok.exfs,pY W.env0.funs old,λb hb=>?_⟩,
  rfl,W.env0.bare,⟨λb o e n _ _=>?_,λb o e n _ _=>?_,λb o e n _=>?_,λb o e _=>?_,λb xs e=>?_,λb o u e=>?_,λb ps e=>?_⟩,⟨mL,⟨oL,es,ep,hoL2,rL⟩,λi x v e1 e2 e3=>?_⟩,λx c e=>?_,(W.pv _ pvL).2,cellN,λq hq=>?_,W.env0.hok,J.len⟩,
  Rs.fz W.rs,⟨λi x e=>?_,λi o e=>absurd e (I.no i o),λi j o u a e=>absurd e (I.no i o),I.rl.len⟩,Stp.refl _ _,I.no,λq hq r hr=>(W.ep q hq).2.2.2.2 r (qQv _ hr),I.yg,Nat.le_of_lt lt2⟩
 ·have:=ok.cab x c h1 h2
  rw[show ((p.X sw gh.H).s_0).heap.objs.size=p.env.locals from s0sz1] at this
  show (p.s0 sw2).heap.objs.size<=c
  rw[s0sz];exact this
 ·obtain⟨h1,h2⟩:=W.env0.bs b o e
  exact⟨(qR (baseLt b o e)).trans h1,(GP.Ac (baseLt b o e)).trans h2⟩
 ·show p.base.objs.size<=(p.s0 sw2).heap.objs.size
  rw[s0sz];exact bsz
 ·exact (GP.Ac (old b hb)).trans (W.env0.frf b hb)
 ·exact (iG e).2
 ·exact⟨o.slots,(iG e).2⟩
 ·have n':p.cut gh2.H b=none:=n
  rw[GP.Ac (iG e).1] at n'
  exact n'
 ·exact⟨o,(iG e).2⟩
 ·have e':p.cut gh2.H b=some (.tup xs):=e
  unfold GP.cut at e'
  split at e'
  ·exact e'
  ·cases e'
 ·have e':p.cut gh2.H b=some (.frz o u):=e
  unfold GP.cut at e'
  split at e'
  ·exact e'
  ·cases e'
 ·have e':p.cut gh2.H b=some (.tbl ps):=e
  unfold GP.cut at e'
  split at e'
  ·exact⟨#[],by rw[e'];simp⟩
  ·cases e'
 ·obtain⟨u,r,l⟩:=hloc i x v e1 e2 e3
  refine⟨u,r,?_⟩
  rcases l with l|⟨k,c,e,z⟩
  ·exact .inl l
  ·exact .inr ⟨k,c,e,cellAt x c e _ z⟩
 ·obtain⟨v,z⟩:=J.cell x c e
  exact⟨v,cellAt x c e v z⟩
 ·rcases List.mem_append.mp (show q∈gh2.ep++pins from hq) with hq|hq
  ·obtain⟨h1,h2,h3,h4,h5⟩:=W.ep q hq
   exact⟨h1,h2,h5 _ pvL,h3,h4⟩
  ·obtain⟨h1,h2,h3,h4,h5⟩:=J.pin q (qQv _ (qQv _ hq))
   obtain⟨w1,w2⟩:=W.pv q (qQv _ hq)
   exact⟨w1,w2,h3,h4,h5⟩
 ·obtain⟨v,h1,h2⟩:=I.rl.val i x e
  exact⟨v,h1,RV.mono (g:=fz F) (g':=fz gh2.g.F) W.F (λ_ _ z=>z) x h2⟩
end
abbrev Pl:=List (Addr × Obj)
def rH(q:Addr × Obj):HO:=.ext λh=>h.get? q.1=some q.2
def cW(H:Hp):Pl->Hp
 | []=>H
 | q::r=>upd (cW H r) q.1 (rH q)
def yf(H:Hp)(pl:Pl):Hp:=λb=>if b∈pl.map (·.1) then none else H b
theorem zE{H:Hp}{pl:Pl}{b:Addr}(h:b∈pl.map (·.1)):yf H pl b=none:=if_pos h
theorem iY{H:Hp}{pl:Pl}{b:Addr}(h:b∉pl.map (·.1)):yf H pl b=H b:=if_neg h
theorem cG{H:Hp}:∀{pl:Pl}{b:Addr},b∉pl.map (·.1)->cW H pl b=H b
 | [],_,_=>rfl
 | q::r,b,h=>by
  have h1:b≠q.1:=λz=>h (by rw[z];exact qQc)
  have h2:b∉r.map (·.1):=λz=>h (qQd _ z)
  show upd (cW H r) q.1 (rH q) b=_
  rw[upd_ne h1,cG h2]
def Ef(pl:Pl):Prop:=∀q∈pl,∀r∈pl,q.1=r.1->q.2=r.2
theorem Ef.of{h:Heap}{pl:Pl}(e:∀q∈pl,h.get? q.1=some q.2):Ef pl:=λq hq r hr z=>by
 have a:=e q hq
 rw[z,e r hr] at a
 exact (qQ5 a).symm
theorem j7{H:Hp}:∀{pl:Pl}{q:Addr × Obj},Ef pl->q∈pl->cW H pl q.1=some (rH q)
 | [],_,_,h=>by cases h
 | p::r,q,o,h=>by
  show upd (cW H r) p.1 (rH p) q.1=_
  by_cases z:q.1=p.1
  ·have e2:=o q h p qQc z
   have e:q=p:=Prod.ext z e2
   rw[e,upd_same]
  ·rw[upd_ne z]
   rcases qQj.mp h with h|h
   ·rw[h] at z;exact absurd rfl z
   ·exact j7 (λa ha b hb=>o a (qQd _ ha) b (qQd _ hb)) h
theorem kZ{H:Hp}{pl:Pl}{b:Addr}(o:Ef pl)(h:b∈pl.map (·.1)):∃q∈pl,q.1=b/\cW H pl b=some (rH q):=by
 obtain⟨q,hq,rfl⟩:=qQh.mp h
 exact⟨q,hq,rfl,j7 o hq⟩
theorem QV{P:Program}{w:World}{H:Hp}{h:Heap}{q:Addr × Obj}(e:h.get? q.1=some q.2):ObjOk P w H h q.1 (rH q):=⟨e,⟨_,e⟩,λ_ _ e1 k=>k _ e1⟩
theorem zu(q:Addr × Obj):Jx (rH q):=λps z=>by cases z
theorem Qi{H:Hp}{pl:Pl}(h:∀q∈pl,H q.1=none):yf (cW H pl) pl=H:=by
 funext b
 by_cases z:b∈pl.map (·.1)
 ·rw[zE z]
  obtain⟨q,hq,rfl⟩:=qQh.mp z
  exact (h q hq).symm
 ·rw[iY z,cG z]
theorem Oq{H:Hp}{pl:Pl}(o:Ef pl)(h:∀q∈pl,H q.1=some (rH q)):cW (yf H pl) pl=H:=by
 funext b
 by_cases z:b∈pl.map (·.1)
 ·obtain⟨q,hq,rfl,e⟩:=kZ (H:=yf H pl) o z
  rw[e,h q hq]
 ·rw[cG z,iY z]
section
variable{P:Program}{w:World}{H:Hp}{h:Heap}{pl:Pl}
theorem BR{H':Hp}{a:Addr}{o:HO}(x:ObjOk P w H h a o)(ho:∀b y,H b=some (.own y)->H' b=some (.own y))(ht:∀b xs,H b=some (.tup xs)->H' b=some (.tup xs)):ObjOk P w H' h a o:=x.stay (λ_ _ _ q=>q) (λb e=>ho b _ e) ht
theorem Iw(ok:HOk P w H h)(n:∀q∈pl,H q.1=none)(e:∀q∈pl,h.get? q.1=some q.2):HOk P w (cW H pl) h:=λa o x=>by
 have out:∀{b:Addr}{u:HO},H b=some u->cW H pl b=some u:=λ{b u} x=>by
  rw[cG λz=>?_];exact x
  obtain⟨q,hq,rfl⟩:=qQh.mp z
  rw[n q hq] at x;cases x
 by_cases z:a∈pl.map (·.1)
 ·obtain⟨q,hq,rfl,e2⟩:=kZ (H:=H) (Ef.of e) z
  rw[e2] at x;cases x
  exact QV (e q hq)
 ·rw[cG z] at x
  exact BR (ok a o x) (λb y q=>out q) λb xs q=>out q
theorem PP(ok:HOk P w H h)(n:∀q∈pl,H q.1=some (rH q)):HOk P w (yf H pl) h:=λa o x=>by
 have out:∀{b:Addr}{u:HO},H b=some u->(∀q,u≠rH q)->yf H pl b=some u:=λ{b u} x ne=>by
  rw[iY λz=>?_];exact x
  obtain⟨q,hq,rfl⟩:=qQh.mp z
  rw[n q hq] at x;cases x
  exact ne q rfl
 by_cases z:a∈pl.map (·.1)
 ·rw[zE z] at x;cases x
 ·rw[iY z] at x
  exact BR (ok a o x) (λb y q=>out q λq z=>by cases z) λb xs q=>out q λq z=>by cases z
theorem oX(ok:HOk P w H h){q:Addr × Obj}(e:H q.1=some (rH q)):h.get? q.1=some q.2:=(ok q.1 _ e).1
end
section
variable{K:Ki}{g g':G}{m m':Mem}{H H':Hp}{pl:Pl}
structure Hid(g:G)(H:Hp)(pl:Pl):Prop where
 n:∀q∈pl,H q.1=none
 o:Ef pl
theorem Hid.out(h:Hid g H pl){b:Addr}{u:HO}(e:H b=some u):b∉pl.map (·.1):=λz=>by
 obtain⟨q,hq,rfl⟩:=qQh.mp z
 rw[h.n q hq] at e;cases e
theorem Hid.lay(h:Hid g H pl){b:Addr}{u:HO}(e:H b=some u):cW H pl b=some u:=by rw[cG (h.out e)];exact e
theorem Hid.F(h:Hid g H pl)(rs:Rs K g m H){q:Addr × Obj}(hq:q∈pl):g.F q.1=none/\∀n,g.r n≠some q.1:=rs.free (h.n q hq)
theorem Hid.rs(h:Hid g H pl)(rs:Rs K g m H):Rs K g m (cW H pl):=by
 refine⟨λa u e=>h.lay (rs.sub a u e),λn u e=>?_,λn a e=>?_,rs.rj,λq hq=>?_⟩
 ·obtain⟨a,e1,e2,e3⟩:=rs.gr n u e
  obtain⟨w,hw⟩:=e3.some
  exact⟨a,e1,e2,gK.grow e3 (λ_ _ e=>e) (λ_ _ e=>e) (cG (h.out hw))⟩
 ·obtain⟨h1,h2⟩:=rs.rb n a e
  refine⟨h1,λz=>h2 ?_⟩
  cases q:H a with
  | none=>rfl
  | some u=>rw[h.lay q] at z;cases z
 ·have t:=rs.tb q hq
  obtain⟨ps,e,_⟩:=t.ps
  exact t.go (cG (h.out e)) (λ_ _ e=>e) t.F t.r
theorem Hid.rl{s:Sl}{σ:L2.St}(h:Hid g H pl)(rl:RSl K g s σ H):RSl K g s σ (cW H pl):=by
 refine⟨rl.val,λi o e=>?_,rl.dis,rl.len⟩
 obtain⟨a,e1,e2,e3⟩:=rl.own i o e
 obtain⟨w,hw⟩:=e2.some
 exact⟨a,e1,gK.grow e2 (λ_ _ e=>e) (λ_ _ e=>e) (cG (h.out hw)),e3⟩
structure Seen(K:Ki)(g:G)(H:Hp)(g':G)(H':Hp)(pl:Pl):Prop where
 hid:Hid g' (yf H' pl) pl
 eq:cW (yf H' pl) pl=H'
 st:Stp g H g' (yf H' pl)
theorem Hid.step(h:Hid g H pl)(rs:Rs K g m H)(st:Stp g (cW H pl) g' H')(rs':Rs K g' m' H'):Seen K g H g' H' pl/\Rs K g' m' (yf H' pl):=by
 have keep:∀q∈pl,H' q.1=some (rH q):=λq hq=>st.keep q.1 _ (j7 h.o hq) (h.F rs hq).2 (zu q)
 have hF:∀q∈pl,g'.F q.1=none:=λq hq=>by
  cases z:g'.F q.1 with
  | none=>rfl
  | some u =>
   rcases st.Fn q.1 (by rw[z];simp) with y|y|⟨n,y⟩|⟨ys,y⟩
   ·exact absurd (h.F rs hq).1 y
   ·rw[j7 h.o hq] at y;cases y
   ·exact absurd y ((h.F rs hq).2 n)
   ·rw[keep q hq] at y;cases y
 have hr:∀q∈pl,∀n,g'.r n≠some q.1:=λq hq n z=>by
  rcases st.rn n q.1 z with y|y
  ·exact (h.F rs hq).2 n y
  ·rw[j7 h.o hq] at y;cases y
 have out:∀{b:Addr},(∀q∈pl,q.1≠b)->yf H' pl b=H' b:=λ{b} z=>iY λy=>by
  obtain⟨q,hq,rfl⟩:=qQh.mp y
  exact z q hq rfl
 have outS:∀{b:Addr}{u:HO},H' b=some u->(∀q,u≠rH q)->yf H' pl b=some u:=λ{b u} e ne=>by
  rw[out λq hq z=>?_];exact e
  rw[<- z,keep q hq] at e;cases e
  exact ne q rfl
 have rso:Rs K g' m' (yf H' pl):=by
  refine⟨λa u e=>?_,λn u e=>?_,λn a e=>?_,rs'.rj,λq hq=>?_⟩
  ·rw[out λq hq z=>by rw[<- z,hF q hq] at e;cases e]
   exact rs'.sub a u e
  ·obtain⟨a,e1,e2,e3⟩:=rs'.gr n u e
   exact⟨a,e1,e2,gK.grow e3 (λ_ _ e=>e) (λ_ _ e=>e) (out λq hq z=>hr q hq n (by rw[z];exact e1))⟩
  ·obtain⟨h1,h2⟩:=rs'.rb n a e
   exact⟨h1,by rw[out λq hq z=>hr q hq n (by rw[z];exact e)];exact h2⟩
  ·have t:=rs'.tb q hq
   obtain⟨ps,e,_⟩:=t.ps
   exact t.go ((outS e λq z=>by cases z).trans e.symm) (λ_ _ e=>e) t.F t.r
 refine⟨⟨⟨λq hq=>zE (qQh.mpr ⟨q,hq,rfl⟩),h.o⟩,Oq h.o keep,⟨st.F,st.r,λb u e hn nt=>?_,λb e=>?_,λb e=>?_,λn b e=>?_⟩⟩,rso⟩
 ·rw[iY (h.out e)]
  exact st.keep b u (h.lay e) hn nt
 ·cases q:H b with
  | none=>exact absurd q e
  | some u =>
   rw[iY (h.out q)]
   exact st.dom b (by rw[h.lay q];simp)
 ·rcases st.Fn b e with y|y|y|⟨ys,y⟩
  ·exact .inl y
  ·refine .inr (.inl ?_)
   cases q:H b with
   | none=>rfl
   | some u=>rw[h.lay q] at y;cases y
  ·exact .inr (.inr (.inl y))
  ·exact .inr (.inr (.inr ⟨ys,outS y λq z=>by cases z⟩))
 ·rcases st.rn n b e with y|y
  ·exact .inl y
  ·refine .inr ?_
   cases q:H b with
   | none=>rfl
   | some u=>rw[h.lay q] at y;cases y
end
theorem J9{P:Program}{w:World}{H:Hp}{h:Heap}{a:Addr}{o:HO}(x:ObjOk P w H h a o):∃ob,h.get? a=some ob:=by
 cases o with
 | lst xs=>obtain⟨_,_,_,_,e⟩:=x;exact⟨_,e⟩
 | tup xs=>obtain⟨_,_,_,ob,e,_⟩:=x;exact⟨_,e⟩
 | dK kvs=>obtain⟨_,_,_,_,o,_,_,e,_⟩:=x;exact⟨_,e⟩
 | dT kvs=>obtain⟨_,_,_,_,o,_,_,e,_⟩:=x;exact⟨_,e⟩
 | set S n=>obtain⟨o,_,_,_,e,_⟩:=x;exact⟨_,e⟩
 | ins C dx fs=>obtain⟨_,_,_,e,_⟩:=x;exact⟨_,e⟩
 | own y=>exact x
 | xd fs=>obtain⟨_,⟨_,_,_,e,_⟩,_⟩:=x;exact⟨_,e⟩
 | rng lo hi=>obtain⟨_,_,_,e⟩:=x;exact⟨_,e⟩
 | frz ob u=>obtain⟨e,_⟩:=x;exact⟨_,e⟩
 | tbl ps=>exact⟨_,(show h.get? a=some _ from x)⟩
 | met f y=>exact⟨_,(show h.get? a=some _ from x)⟩
 | ext φ=>exact x.2.1
def oF:GenState->Bool
 | .suspended ..=>true
 | _=>false
theorem Slp.mono{p:GP}{L:List MV}{pl pl2:Pl}{F:Hp}{gs:GenState}(h:Slp p L pl F gs)(s:∀q∈pl,q∈pl2):Slp p L pl2 F gs:=by
 have w:∀{gh sw},N6 p pl2 F gh sw->N6 p pl F gh sw:=λ{gh sw} W=>⟨W.env0,W.rs,W.F,λq hq=>W.pv q (s q hq),λq hq=>let ⟨a,b,c,d,e⟩:=W.ep q hq;⟨a,b,c,d,λr hr=>e r (s r hr)⟩⟩
 cases gs with
 | fresh c=>exact λgh sw W=>h gh sw (w W)
 | suspended k l c q fs cl=>exact λgh sw W=>h gh sw (w W)
 | running=>exact h
 | finished=>exact h
theorem Bm{p:GP}{A:Around}{a:Addr}{gi:Nat}{L:List MV}{pl:Pl}{F:Hp}{gs:GenState}{gh:Gh}{s:Shared}{Q:Option Value->Shared->Prop}{E:Value->Shared->Prop}(hA:p.A=A.in1)(hh:A.handled=none)(hl:s.heap.NoLimit)(hroom:A.depth<recursionLimit)
  (hg:s.heap.IsGen a gi) (hgs:s.gens[gi]? = some gs) (hs:Slp p L pl F gs) (W:N6 p pl F gh (s.setGen gi .running))
  (hN:L=[]->∀s1 F' H' h',After p gh (s.setGen gi .running) F' H' s1->(∀b o,s1.heap.get? b=some o->h'.get? b=some o)->Q none { s1.setGen gi .finished with heap:=h' })
  (hY:∀y L',L=y::L'->∀v s1 F' H' x pv gs',After p gh (s.setGen gi .running) F' H' s1->RelV x v->RV p.ki (fz F') y x->Pv p gh pv H' s1->Slp p L' pv F' gs'->oF gs'=true->gs'.bare=true->Q (some v) (s1.setGen gi gs')) :
  wpAny p.md A (pyNext (.ref a)) Q E s:=by
 have key:∀(Γ:PySem.Ctx) (q:Pos),Γ.In A.in1->∃res s',Wakes p.md Γ q gi (.send .none) s res s'/\((res=.returned .none/\L=[]/\∃s1 F' H',After p gh (s.setGen gi .running) F' H' s1/\s'=s1.setGen gi .finished) \/
   ∃y L' v s1 F' H' x pv gs',res=.yielded v/\L=y::L'/\After p gh (s.setGen gi .running) F' H' s1/\RelV x v/\RV p.ki (fz F') y x/\Pv p gh pv H' s1/\Slp p L' pv F' gs'/\oF gs'=true/\gs'.bare=true/\s'=s1.setGen gi gs'):=by
  intro Γ q hΓ
  have fin:∀(e:End) (s1:Shared),Vq p L gh (s.setGen gi .running) e s1->e.quiet=true/\((e.result=.returned .none/\L=[]/\∃F' H',After p gh (s.setGen gi .running) F' H' s1/\e.genState=.finished) \/
    ∃y L' v F' H' x pv,e.result=.yielded v/\L=y::L'/\After p gh (s.setGen gi .running) F' H' s1/\RelV x v/\RV p.ki (fz F') y x/\Pv p gh pv H' s1/\Slp p L' pv F' e.genState/\oF e.genState=true/\e.genState.bare=true):=by
   intro e s1 hp
   cases L with
   | nil =>
    obtain⟨rfl,F',H',a1⟩:=hp
    exact⟨rfl,.inl ⟨rfl,rfl,F',H',a1,rfl⟩⟩
   | cons y L' =>
    obtain⟨v,l,k,c,q',fs,F',H',x,pv,rfl,hq,a1,a2,a3,a4,a5⟩:=hp
    have hqt:(End.susp v false l k c q' fs).quiet=true:=by
     show (!(false || fs.any Frame.guarded))=true
     rw[hq];rfl
    exact⟨hqt,.inr ⟨y,L',v,F',H',x,pv,rfl,rfl,a1,a2,a3,a4,a5,rfl,End.bare_of_quiet hqt⟩⟩
  have hs':∀(e:End) (s1:Shared),Vq p L gh (s.setGen gi .running) e s1->∀res s',res=e.result->s'=s1.setGen gi e.genState->((res=.returned .none/\L=[]/\∃s1 F' H',After p gh (s.setGen gi .running) F' H' s1/\s'=s1.setGen gi .finished) \/
   ∃y L' v s1 F' H' x pv gs',res=.yielded v/\L=y::L'/\After p gh (s.setGen gi .running) F' H' s1/\RelV x v/\RV p.ki (fz F') y x/\Pv p gh pv H' s1/\Slp p L' pv F' gs'/\oF gs'=true/\gs'.bare=true/\s'=s1.setGen gi gs'):=by
   intro e s1 hp res s' e1 e2
   rcases (fin e s1 hp).2 with⟨h1,h2,F',H',h3,h4⟩|⟨y,L',v,F',H',x,pv,h1,h2,h3,h4,h5,h6,h7,h8,h9⟩
   ·exact .inl ⟨e1.trans h1,h2,s1,F',H',h3,by rw[e2,h4]⟩
   ·exact .inr ⟨y,L',v,s1,F',H',x,pv,_,e1.trans h1,h2,h3,h4,h5,h6,h7,h8,h9,e2⟩
  cases gs with
  | running=>exact hs.elim
  | finished=>exact hs.elim
  | fresh c =>
   obtain⟨e1,s1,hr,hp⟩:=hs gh _ W (Γ.wake c q) q rfl (by rw[hA];exact hΓ.wake c q)
   exact⟨e1.result,s1.setGen gi e1.genState,by unfold Wakes;rw[hgs];exact⟨e1,s1,hr,(fin e1 s1 hp).1,rfl,rfl⟩,hs' e1 s1 hp _ _ rfl rfl⟩
  | suspended k l c q0 fs cl =>
   obtain⟨e1,s1,hr,hp⟩:=hs gh _ W (Γ.wake c q) q0 rfl (by rw[hA];exact hΓ.wake c q)
   exact⟨e1.result,s1.setGen gi e1.genState,by unfold Wakes;rw[hgs];exact⟨e1,s1,hr,(fin e1 s1 hp).1,rfl,rfl⟩,hs' e1 s1 hp _ _ rfl rfl⟩
 unfold pyNext
 refine wpAny_bind (wpAny_attempt (wpAny_callSpecial?_slot (name:=Str.ofString "__next__") hg.typeIs slot_gen_next
  (wpAny_call_entry slot_gen_next hg.typeIs entry_gen_next ?_ (args_gen_next _))))
 show wpAny _ A.in1 (Builtin.Generator.genWake (.ref a) (.send .none)) _ _ s
 unfold Builtin.Generator.genWake
 refine wpAny_bind (wpAny_holding (wpAny_genNumber hg (wpAny_bind (wpAny_genState hgs ?_))))
 have go:∀{α:Type} (k:GenResult->Sem α) (R:α->Shared->Prop) (E:Value->Shared->Prop),
   (L=[]->∀s1 F' H',After p gh (s.setGen gi .running) F' H' s1->wpAny p.md A.in1 (k (.returned .none)) R E (s1.setGen gi .finished)) ->
   (∀y L',L=y::L'->∀v s1 F' H' x pv gs',After p gh (s.setGen gi .running) F' H' s1->RelV x v->RV p.ki (fz F') y x->Pv p gh pv H' s1->Slp p L' pv F' gs'->oF gs'=true->gs'.bare=true->wpAny p.md A.in1 (k (.yielded v)) R E (s1.setGen gi gs')) ->
   ∀l,wpAny p.md A.in1 (.resume gi (.send .none) l k) R E s:=by
  intro α k R E h1 h2 l Γ q hΓ
  rw[Sem.wp_resume]
  obtain⟨res,s',hw,hc⟩:=key Γ q hΓ
  refine⟨res,s',hw,?_⟩
  rcases hc with⟨rfl,hL,s1,F',H',ha,rfl⟩|⟨y,L',v,s1,F',H',x,pv,gs',rfl,hL,ha,rx,ry,hp,hsl,hb,hb2,rfl⟩
  ·exact h1 hL s1 F' H' ha Γ q hΓ
  ·exact h2 y L' hL v s1 F' H' x pv gs' ha rx ry hp hsl hb hb2 Γ q hΓ
 cases gs with
 | running=>exact hs.elim
 | finished=>exact hs.elim
 | _ =>
  refine wpAny_bind (wpAny_roomToWake hl hroom ?_)
  show wpAny _ A.in1 (.resume gi (.send .none) [] _) _ _ s
  refine go _ _ _ (λhL s1 F' H' ha=>?_) (λy L' hL v s1 F' H' x pv gs' ha rx ry hp hsl hb hb2=>?_) []
  ·show wpAny _ A.in1 (newExc (.type "StopIteration") [] >>= _) _ _ _
   refine wpAny_bind ?_
   simp only[newExc,newTuple]
   refine wpAny_bind (wpAny_newObj_type ?_ (by size_fits))
   refine wpAny_bind (m:=firstArgMember _ _) (wpAny_of_eq (a:=Value.none) (by first|rfl|(simp only[firstArgMember];rfl)) ?_)
   refine wpAny_newObj_type ?_ (by size_fits)
   simp only[raiseNew]
   refine wpAny_bind (wpAny_bind (wpAny_handled ?_))
   first|rw[show A.in1.handled=none from hh]|rw[hh]
   refine wpAny_throw ?_
   refine wpAny_bind (wpAny_isInstance (T:="StopIteration") (b:=true) ⟨_,Heap.get?_push_size _ rfl,rfl⟩ isSubtype_stop ?_)
   exact wpAny_pure (hN hL s1 F' H' _ ha λb o hb=>qQu _ (qQu _ hb))
  ·exact wpAny_pure ⟨v,rfl,wpAny_pure (hY y L' hL v s1 F' H' x pv gs' ha rx ry hp hsl hb hb2)⟩
structure Lie(p:GP)(X:Cx)(s:Shared)(G:Hp)(pl:Pl):Prop where
 prog:p.prog=X.prog
 w:p.w=X.w
 K:p.K=X.K
 mg:p.mg=X.mg
 base:p.base=X.base
 A:p.A=X.A.in1
 outer:p.outer=X.stack
 loc:X.env.locals<p.env.locals\/X.env.locals∉frs X.stack
 cell:∀x c,X.env.cells.lookup x=some c->c<p.env.locals
 young:∀b,p.env.locals<=b->b<X.s_0.heap.objs.size->(G b=none\/b∈pl.map (·.1))->b∈X.ex\/b=X.env.locals
 ge:∀q∈pl,p.env.locals<=q.1
def vf(X:Cx)(pins:Pl)(h:Heap):Pl:=(X.pn++pins)++(if X.env.locals∈frs X.stack then [] else pinsAt [X.env.locals] h)
section
variable{p:GP}{X:Cx}{pins:Pl}{σ:L2.St}{V:Hp}{pl pv:Pl}{s s1:Shared}{g:G}{m:Mem}{F' H':Hp}
theorem JS{h:Heap}{q:Addr × Obj}(hq:q∈vf X pins h):q∈X.pn++pins\/(q.1=X.env.locals/\X.env.locals∉frs X.stack/\h.get? q.1=some q.2):=by
 rcases List.mem_append.mp hq with z|z
 ·exact .inl z
 ·split at z
  ·cases z
  ·rename_i ne
   obtain⟨h1,h2⟩:=of_pinsAt z
   exact .inr ⟨qQk.mp h1,ne,h2⟩
theorem Lie.wake(l:Lie p X s (cW V pl) pl)(I:Inv X pins σ (cW V pl) s)(hid:Hid g V pl)(rs:Rs p.ki g m V){F:Hp}(hF:∀b u,F b=some u->g.F b=some u){gi:Nat}:N6 p pl F ⟨g,m,V,vf X pins s.heap⟩ (s.setGen gi .running):=by
 have vn:∀{b:Addr},cW V pl b=none->V b=none:=λ{b} e=>by
  cases q:V b with
  | none=>rfl
  | some u=>rw[hid.lay q] at e;cases e
 have gp:∀q∈pl,s.heap.get? q.1=some q.2:=λq hq=>oX I.hok (j7 hid.o hq)
 refine⟨⟨?_,?_,λb o e=>?_,?_,?_,λb hb=>?_,?_,allBare_setGen I.bare rfl⟩,rs,hF,λq hq=>⟨gp q hq,hid.n q hq⟩,λq hq=>?_⟩
 ·rw[l.A,l.outer];exact I.ok.frames
 ·rw[l.K,l.mg,l.base];exact I.mod
 ·rw[l.base] at e
  obtain⟨h1,h2⟩:=I.bs b o e
  exact⟨h1,vn h2⟩
 ·rw[l.base]
  exact Nat.le_trans I.ok.bsz I.sz
 ·rw[l.base,l.outer];exact I.stack
 ·rw[l.outer] at hb
  exact vn (I.stkFree b hb)
 ·rw[l.prog,l.w]
  have:=PP (pl:=pl) I.hok λq hq=>j7 hid.o hq
  rw[Qi hid.n] at this
  exact this
 ·have ne:∀{b:Addr},cW V pl b=none->∀r∈pl,b≠r.1:=λ{b} e r hr z=>by rw[z,j7 hid.o hr] at e;cases e
  rcases JS hq with z|⟨z1,z2,z3⟩
  ·obtain⟨h1,h2,h3,h4,h5⟩:=I.pin q z
   refine⟨h1,vn h2,λy=>?_,h5,ne h2⟩
   rw[l.outer] at y
   rcases qQj.mp (I.stkSub _ y) with y|y
   ·exact h3 y
   ·exact h4 y
  ·obtain⟨mm,⟨o,es,ep,ho,hd,_⟩,_⟩:=I.loc
   refine⟨z3,by rw[z1];exact vn I.free,by rw[l.outer,z1];exact z2,λv y=>?_,ne (by rw[z1];exact I.free)⟩
   rw[z1,ho] at z3
   cases z3
   rw[hd] at y;cases y
theorem Lie.back(l:Lie p X s (cW V pl) pl)(I:Inv X pins σ (cW V pl) s)(hid:Hid g V pl){gi:Nat}(a:After p ⟨g,m,V,vf X pins s.heap⟩ (s.setGen gi .running) F' H' s1)(h1:∀q∈pv,s1.heap.get? q.1=some q.2/\H' q.1=none/\p.env.locals<=q.1)(h2:∀q∈pv,∀r∈vf X pins s.heap,r.1≠q.1)
  {G':Array GenState} (hG:AllBare G'):Inv X pins σ (cW H' pv) { s1 with gens:=G' }:=by
 obtain⟨hp,gg,dd,tt,oo⟩:=s1
 have eo:oo=s.os:=a.os
 subst eo
 have vn:∀{b:Addr},cW V pl b=none->V b=none:=λ{b} e=>by
  cases q:V b with
  | none=>rfl
  | some u=>rw[hid.lay q] at e;cases e
 have hidv:Hid g H' pv:=⟨λq hq=>(h1 q hq).2.1,Ef.of λq hq=>(h1 q hq).1⟩
 have out:∀{b:Addr},b<p.env.locals->cW H' pv b=H' b:=λ{b} z=>cG λy=>by
  obtain⟨q,hq,rfl⟩:=qQh.mp y
  exact absurd z (Nat.not_lt.mpr (h1 q hq).2.2)
 have okH:HOk X.prog X.w H' hp:=by have:=a.hok;rw[l.prog,l.w] at this;exact this
 have okL:HOk X.prog X.w (cW H' pv) hp:=Iw okH hidv.n λq hq=>(h1 q hq).1
 have tr:∀{b:Addr}{o:Obj},b<p.env.locals->s.heap.get? b=some o->(trunc (s.setGen gi .running).heap p.env.locals).get? b=some o:=λ{b o} z e=>(qR z).trans e
 -- old and not tracked
 have oldAny:∀{b:Addr}{o:Obj},b<p.env.locals->s.heap.get? b=some o->cW V pl b=none->(∃sl,hp.get? b=some { o with slots:=sl })/\cW H' pv b=none/\(b∉frs X.stack->hp.get? b=some o):=λ{b o} z e n=>by
  have n2:p.cut V b=none:=(GP.Ac z).trans (vn n)
  refine⟨a.un.any (tr z e) n2 (by simp),(out z).trans (a.un.free b o (tr z e) n2 (by simp)),λnb=>a.un.keep b o (tr z e) n2 (by rw[l.outer];exact nb) (by simp)⟩
 have epAny:∀q∈vf X pins s.heap,hp.get? q.1=some q.2/\cW H' pv q.1=none:=λq hq=>by
  obtain⟨y1,y2⟩:=a.ep q hq
  refine⟨y1,?_⟩
  rw[cG λz=>?_];exact y2
  obtain⟨r,hr,e⟩:=qQh.mp z
  exact h2 r hr q hq e.symm
 have locAt:∃o sl,s.heap.get? X.env.locals=some o/\hp.get? X.env.locals=some { o with slots:=sl }/\cW H' pv X.env.locals=none:=by
  obtain⟨mm,⟨o,es,ep,ho,hd,_⟩,_⟩:=I.loc
  by_cases z:X.env.locals∈frs X.stack
  ·have lt:=l.loc.resolve_right λy=>y z
   obtain⟨⟨sl,y1⟩,y2,_⟩:=oldAny lt ho I.free
   exact⟨o,sl,ho,y1,y2⟩
  ·have hm:(X.env.locals,o)∈vf X pins s.heap:=by
    refine qQv _ ?_
    rw[if_neg z]
    exact mem_pinsAt qQc ho
   obtain⟨y1,y2⟩:=epAny _ hm
   exact⟨o,o.slots,ho,y1,y2⟩
 refine Inv.step (s:=s) (h':=hp) (H':=cW H' pv) (H:=cW V pl) (g':=G') (d':=dd) (t':=tt) (ch:=(List.range (max s.heap.objs.size X.s_0.heap.objs.size)).filter λb=>decide (p.env.locals<=b)&&decide (b≠X.env.locals)&&decide (b∉(X.pn++pins).map (·.1))&&((cW V pl b).isNone || decide (b∈pl.map (·.1)))) I (λb hb=>?_) (λb o hL hb hc e n=>?_) (λb o hL hb hc e n=>?_) (λb o hc e n=>?_) (λb o hc e=>?_) (λb xs e=>?_) (λb o u e=>?_) (λb ps e=>?_) (λmm hm=>?_) okL hG
 ·obtain⟨_,hb⟩:=List.mem_filter.mp hb
  simp only[qQb,Bool.or_eq_true,qQs,Option.isNone_iff_eq_none] at hb
  obtain⟨⟨⟨b1,b2⟩,b3⟩,b4⟩:=hb
  refine⟨?_,b2,λx c e z=>?_,λq hq z=>b3 (qQh.mpr ⟨q,hq,z⟩)⟩
  ·by_cases z:b<X.s_0.heap.objs.size
   ·rcases l.young b b1 z b4 with y|y
    ·exact .inl y
    ·exact absurd y b2
   ·exact .inr (Nat.not_lt.mp z)
  ·exact absurd (l.cell x c e) (by rw[z];exact Nat.not_lt.mpr b1)
 all_goals
  have lt:∀{b:Addr}{o:Obj},s.heap.get? b=some o->b∈List.range (max s.heap.objs.size X.s_0.heap.objs.size):=λe=>List.mem_range.mpr (qQ2 (Heap.lt_size e) (Nat.le_max_left _ _))
 ·by_cases z:b<p.env.locals
  ·refine (oldAny z e n).2.2 λy=>?_
   rcases qQj.mp (I.stkSub b y) with y|y
   ·exact hL y
   ·exact hb y
  ·by_cases y:b∈(X.pn++pins).map (·.1)
   ·obtain⟨q,hq,rfl⟩:=qQh.mp y
    obtain⟨e1,_⟩:=I.pin q hq
    rw[e] at e1;cases e1
    exact (epAny q (qQw _ hq)).1
   ·exact absurd (List.mem_filter.mpr ⟨lt e,by simp[Nat.not_lt.mp z,hL,n,y];simpa using y⟩) hc
 ·by_cases z:b<p.env.locals
  ·exact (oldAny z e n).1
  ·obtain⟨_,o0,ho,_⟩:=I.ok.funs.mem hb
   by_cases y:b∈(X.pn++pins).map (·.1)
   ·obtain⟨q,hq,rfl⟩:=qQh.mp y
    exact absurd hb (I.pin q hq).2.2.2.1
   ·exact absurd (List.mem_filter.mpr ⟨lt e,by simp[Nat.not_lt.mp z,hL,n,y];simpa using y⟩) hc
 ·by_cases z:b<p.env.locals
  ·exact (oldAny z e n).2.1
  ·by_cases hL:b=X.env.locals
   ·obtain⟨_,_,_,_,y⟩:=locAt
    rw[hL];exact y
   ·by_cases y:b∈(X.pn++pins).map (·.1)
    ·obtain⟨q,hq,rfl⟩:=qQh.mp y
     exact (epAny q (qQw _ hq)).2
    ·exact absurd (List.mem_filter.mpr ⟨lt e,by simp[Nat.not_lt.mp z,hL,n,y];simpa using y⟩) hc
 ·by_cases z:b<p.env.locals
  ·obtain⟨o',e'⟩:=a.un.there b o (tr z e) (by simp)
   exact⟨o',e'⟩
  ·by_cases hL:b=X.env.locals
   ·obtain⟨o',sl,_,y,_⟩:=locAt
    exact⟨_,by rw[hL];exact y⟩
   ·by_cases y:b∈(X.pn++pins).map (·.1)
    ·obtain⟨q,hq,rfl⟩:=qQh.mp y
     exact⟨_,(epAny q (qQw _ hq)).1⟩
    ·by_cases n:cW V pl b=none\/b∈pl.map (·.1)
     ·exact absurd (List.mem_filter.mpr ⟨lt e,by
       simp only[qQb,Bool.or_eq_true,qQs,Option.isNone_iff_eq_none]
       exact⟨⟨⟨Nat.not_lt.mp z,hL⟩,y⟩,n⟩⟩) hc
     ·have n1:cW V pl b≠none:=λz=>n (.inl z)
      have n2:b∉pl.map (·.1):=λz=>n (.inr z)
      rw[cG n2] at n1
      have d:=a.st.dom b n1
      cases q:H' b with
      | none=>exact absurd q d
      | some u =>
       have:=okH.lt q
       have x:=okH b u q
       exact J9 x
 ·have e2:V b=some (.tup xs):=by
   by_cases z:b∈pl.map (·.1)
   ·obtain⟨q,hq,rfl,e3⟩:=kZ (H:=V) hid.o z
    rw[e3] at e;cases e
   ·rw[cG z] at e;exact e
  exact hidv.lay (a.st.keep b _ e2 (λn z=>by cases z) λps z=>by cases z)
 ·have e2:V b=some (.frz o u):=by
   by_cases z:b∈pl.map (·.1)
   ·obtain⟨q,hq,rfl,e3⟩:=kZ (H:=V) hid.o z
    rw[e3] at e;cases e
   ·rw[cG z] at e;exact e
  exact hidv.lay (a.st.keep b _ e2 (λn z=>by cases z) λps z=>by cases z)
 ·have e2:V b=some (.tbl ps):=by
   by_cases z:b∈pl.map (·.1)
   ·obtain⟨q,hq,rfl,e3⟩:=kZ (H:=V) hid.o z
    rw[e3] at e;cases e
   ·rw[cG z] at e;exact e
  obtain⟨more,e3⟩:=a.un.tbls b ps (GP.Rf e2)
  exact⟨more,hidv.lay e3⟩
 ·obtain⟨o',es',ep',ho',r'⟩:=hm
  obtain⟨o,sl,e1,e2,_⟩:=locAt
  rw[e1] at ho';cases ho'
  exact⟨_,es',ep',e2,r'⟩
theorem Lie.Km(rs:Rs p.ki g m V){sw:Shared}{ep:Pl}(a:After p ⟨g,m,V,ep⟩ sw F' H' s1):Rs p.ki ⟨F',g.r⟩ m H'/\Stp g V ⟨F',g.r⟩ H':=by
 have k:=a.st
 have st:Stp g V ⟨F',g.r⟩ H':=⟨k.F,λ_ _ e=>e,λb o e _ nt=>k.keep b o e (λn z=>by cases z) nt,k.dom,λb e=>by
  rcases k.Fn b e with y|y|⟨n,y⟩|y
  ·exact .inl y
  ·exact .inr (.inl y)
  ·cases y
  ·exact .inr (.inr (.inr y)),λn b e=>.inl e⟩
 refine⟨⟨a.rs.sub,λn o e=>?_,λn b e=>?_,rs.rj,λq hq=>?_⟩,st⟩
 ·obtain⟨b,e1,e2,e3⟩:=rs.gr n o e
  obtain⟨u,hu,nt⟩:=e3.zN
  have hk:H' b=some u:=k.keep b u hu (λn z=>by cases z) nt
  refine⟨b,e1,?_,gK.grow e3 k.F (λ_ _ e=>e) (hk.trans hu.symm)⟩
  show F' b=none
  cases z:F' b with
  | none=>rfl
  | some w =>
   rcases k.Fn b (by show F' b≠none;rw[z];simp) with y|y|⟨n,y⟩|⟨ys,y⟩
   ·exact absurd e2 y
   ·have y:V b=none:=y
    rw[hu] at y;cases y
   ·cases y
   ·rw[hk] at y;cases y
    exact absurd hu (e3.ntup ys)
 ·obtain⟨h1,h2⟩:=rs.rb n b e
  exact⟨h1,k.dom b h2⟩
 ·have t:=a.rs.tb q hq
  exact⟨t.ps,t.F,(rs.tb q hq).r⟩
end
mutual
def nr:MV->Bool
 | .ref _=>false
 | .exn _ _ xs=>nrs xs
 | .tup xs=>nrs xs
 | .lst xs=>nrs xs
 | .kl xs=>nrs xs
 | .ins _ _ xs=>nrs xs
 | .dic ks xs=>nrs ks&&nrs xs
 | .dit ks xs=>nrs ks&&nrs xs
 | _=>true
def nrs:List MV->Bool
 | []=>true
 | x::xs=>nr x&&nrs xs
end
mutual
theorem RV.nr{K:Ki}{g:G}:∀(x:MV) {v:V},nr x=true->RV K g x v->RV K (fz g.F) x v
 | .non,_,_,h=>h
 | .bl _,_,_,h=>h
 | .int _,_,_,h=>h
 | .str _,_,_,h=>h
 | .tup xs,_,c,⟨a,ys,e,q,r⟩=>⟨a,ys,e,q,RVs.nr xs c r⟩
 | .lst xs,_,c,⟨a,ys,e,q,r⟩=>⟨a,ys,e,q,RVs.nr xs c r⟩
 | .kl xs,_,c,⟨a,ys,e,q,r⟩=>⟨a,ys,e,q,RVs.nr xs c r⟩
 | .ref n,_,c,_=>by cases c
 | .ins c ks xs,_,k,⟨a,dx,fs,e,q,q2,q3,r⟩=>⟨a,dx,fs,e,q,q2,q3,RVs.nr xs k r⟩
 | .exn c ks xs,_,k,⟨a,dx,φ,fs,e,q,q1,q2,q3,r⟩=>⟨a,dx,φ,fs,e,q,q1,q2,q3,RVs.nr xs k r⟩
 | .dic ks xs,_,c,⟨a,u,kvs,e,q,q3,r,r2⟩=>by
  obtain⟨c1,c2⟩:=qQr.mp (show (nrs ks&&nrs xs)=true from c)
  exact⟨a,u,kvs,e,q,q3,RVs.nr ks c1 r,RVs.nr xs c2 r2⟩
 | .kd ks is,_,_,h=>h
 | .cls _,_,_,h=>h
 | .dit ks xs,_,c,⟨a,u,kvs,e,q,q3,r,r2⟩=>by
  obtain⟨c1,c2⟩:=qQr.mp (show (nrs ks&&nrs xs)=true from c)
  exact⟨a,u,kvs,e,q,q3,RVs.nr ks c1 r,RVs.nr xs c2 r2⟩
theorem RVs.nr{K:Ki}{g:G}:∀(xs:List MV) {vs:List V},nrs xs=true->RVs K g xs vs->RVs K (fz g.F) xs vs
 | [],_,_,h=>h
 | x::xs,_,c,⟨v,r,e,h,t⟩=>by
  obtain⟨c1,c2⟩:=qQr.mp (show (RgF.nr x&&nrs xs)=true from c)
  exact⟨v,r,e,RV.nr x c1 h,RVs.nr xs c2 t⟩
end
def iw(h:Heap)(n a:Nat):Pl:=pinsAt ((List.range h.objs.size).filter λb=>decide (n<=b)&&decide (b≠a)) h
theorem gR{h:Heap}{n a:Nat}{q:Addr × Obj}(hq:q∈iw h n a):n<=q.1/\q.1≠a/\h.get? q.1=some q.2:=by
 obtain⟨h1,h2⟩:=of_pinsAt hq
 have:=(List.mem_filter.mp h1).2
 simp only[qQb,qQs] at this
 exact⟨this.1,this.2,h2⟩
abbrev GP.at(p:GP)(A:Around):GP:={ p with A:=A }
structure Made(p:GP)(j:Nat)(outer:List Env)(F:Hp)(L:List MV)(s:Shared)(a:Addr)(ao:Obj)(gi:Nat)(c:Code)(s':Shared):Prop where
 out:p.outer=outer
 loc:p.env.locals=s.heap.objs.size
 old:s.heap.objs.size<=a
 obj:s'.heap.get? a=some ao
 isg:∀h:Heap,h.get? a=some ao->h.IsGen a gi
 gen:s'.gens[gi]? = some (.fresh c)
 os:s'.os=s.os
 bare:AllBare s'.gens
 keep:∀b o,s.heap.get? b=some o->s'.heap.get? b=some o
 slp:∀A':Around,(∀env,Room j (A'.deeper env))->A'.frames=some outer->Slp (p.at A') L (iw s'.heap p.env.locals a) F (.fresh c)
structure GFn where
 name:Str
 ps:List Str
 M:List MV->Option (List MV)
structure afh(P:Program)(w:World)(K:PySem.W.Frag)(mg:Str->Option Value)(base:Heap)(k:Nat)(f:Addr)(fd:FuncData)(F:GFn):Prop where
 run:∃j,k=j+1/\∀(A:Around) (outer:List Env) (s:Shared) (g:G) (m:Mem) (H:Hp) (args:Args) (us:List Value) (vs:List V) (as:List MV) (L:List MV),Room k A->Env0 P w K mg base A outer s H->BindsTo s fd args (F.ps.zip us)->Vals vs us ->
  Rs ⟨K,P,w⟩ g m H->RVs ⟨K,P,w⟩ g as vs->as.length=F.ps.length->nrs as=true->F.M as=some L ->
  codeAny (model P w) A (.call (.ref f) args) (λr s'=>match r with
   | .ok (.ret u)=>∃p a ao gi c,u=.ref a/\p.prog=P/\p.w=w/\p.K=K/\p.mg=mg/\p.base=base/\Made p j outer g.F L s a ao gi c s'
   | _=>False) s
 bi:Binds K fd F.ps []
 kp:PySem.W.keepIn K (.ref f)=true
theorem gq{G:Array GenState}(h:AllBare G):AllBare (G.map iU):=λx hx=>by
 obtain⟨i,hi,e⟩:=Array.mem_iff_getElem.mp hx
 rw[Array.getElem_map] at e
 rw[<- e,zp]
 exact h _ (Array.getElem_mem _)
theorem JZ{A B G:Array GenState}(h:Rel (asleep G) A B)(hA:AllBare A)(hG:AllBare G):AllBare B:=λx hx=>by
 obtain⟨i,hi,e⟩:=Array.mem_iff_getElem.mp hx
 have eB:B[i]? = some x:=by rw[Array.getElem?_eq_getElem hi,e]
 cases hd:asleep G i with
 | none =>
  rw[h.off i hd] at eB
  exact hA x (Array.mem_of_getElem? eB)
 | some y =>
  have:=(h.on i y hd).2.1
  rw[eB] at this;cases this
  unfold asleep at hd
  split at hd
  ·rename_i k l c p fs cl e2
   cases hd
   exact hG _ (Array.mem_of_getElem? e2)
  ·cases hd
theorem asl{α:Type}{M:Model}{A:Around}{t:Sem α}{s:Shared}{P Q:α->Shared->Prop}{E E':Value->Shared->Prop}(hb:AllBare s.gens)(h:wpAny M A t P E { s with gens:=s.gens.map iU })
  (hQ:∀a s' A',P a { s' with gens:=A' }->(AllBare A'->AllBare s'.gens)->Kept s.gens s'.gens->Q a s') (hE:∀e s' A',E e { s' with gens:=A' }->E' e s'):wpAny M A t Q E' s:=by
 refine wpAny_mono (yx h) (λa s' q=>?_) λe s' q=>?_
 ·obtain⟨hk,A',r,p⟩:=q
  exact hQ a s' A' p (λz=>JZ r z hb) hk
 ·obtain⟨hk,A',r,p⟩:=q
  exact hE e s' A' p
theorem _root_.L2.Inv.gens{X:Cx}{pins:Pl}{σ:L2.St}{H:Hp}{s:Shared}{G:Array GenState}(I:Inv X pins σ H s)(h:AllBare G):Inv X pins σ H { s with gens:=G }:=⟨I.ok,I.os,h,I.base,I.loc,I.cell,I.free,I.freeC,I.pin,I.hok,I.len⟩
theorem _root_.L2.Inv.qm{X:Cx}{pins:Pl}{σ:L2.St}{H:Hp}{s:Shared}{G:Array GenState}(I:Inv X pins σ H { s with gens:=G })(h:AllBare s.gens):Inv X pins σ H s:=⟨I.ok,I.os,h,I.base,I.loc,I.cell,I.free,I.freeC,I.pin,I.hok,I.len⟩
theorem _root_.L2.Inv.cW{X:Cx}{pins pl:Pl}{σ:L2.St}{H:Hp}{s:Shared}(I:Inv X pins σ H s)(h:∀q∈pl,s.heap.get? q.1=some q.2/\H q.1=none/\q.1≠X.env.locals/\(∀x c,X.env.cells.lookup x=some c->c≠q.1)/\(∀r∈X.pn++pins,r.1≠q.1)/\(q.1∈X.ex\/X.s_0.heap.objs.size<=q.1)):
  Inv X pins σ (RgF.cW H pl) s:=by
 have out:∀{b:Addr}{u:HO},H b=some u->RgF.cW H pl b=some u:=λ{b u} e=>by
  rw[cG λz=>?_];exact e
  obtain⟨q,hq,rfl⟩:=qQh.mp z
  rw[(h q hq).2.1] at e;cases e
 have no:∀{b:Addr},(∀q∈pl,q.1≠b)->RgF.cW H pl b=H b:=λ{b} z=>cG λy=>by
  obtain⟨q,hq,rfl⟩:=qQh.mp y
  exact z q hq rfl
 refine⟨I.ok,I.os,I.bare,⟨I.base.keep,I.base.slot,λb o e n hx=>?_,I.base.there,λb xs e=>out (I.base.tups b xs e),λb o u e=>out (I.base.frzs b o u e),λb ps e=>?_⟩,I.loc,I.cell,?_,λx c e=>?_,λq hq=>?_,?_,I.len⟩
 ·rw[no λq hq z=>?_];exact I.base.free b o e n hx
  rcases (h q hq).2.2.2.2.2 with y|y
  ·rw[z] at y;exact hx y
  ·rw[z] at y;exact absurd (qQ2 (Heap.lt_size e) y) (Nat.lt_irrefl _)
 ·obtain⟨more,e2⟩:=I.base.tbls b ps e
  exact⟨more,out e2⟩
 ·rw[no λq hq z=>(h q hq).2.2.1 z];exact I.free
 ·rw[no λq hq z=>(h q hq).2.2.2.1 x c e z.symm];exact I.freeC x c e
 ·obtain⟨h1,h2,h3⟩:=I.pin q hq
  refine⟨h1,?_,h3⟩
  rw[no λr hr z=>(h r hr).2.2.2.2.1 q hq z.symm];exact h2
 ·exact Iw I.hok (λq hq=>(h q hq).2.1) λq hq=>(h q hq).1
theorem yc{M:Model}{A:Around}{E:Value->Shared->Prop}{s:Shared}{tg:Expr}{a:Addr}{gi:Nat}{v:Value}{Q:Unit->Shared->Prop}(hg:s.heap.IsGen a gi)(h:Q () s):wpAny M A (letOwnedTupleGo tg (.ref a) v) Q E s:=by
 have tup:wpAny M A (do
  let (.ref r,.ref a):=(Value.ref a,v)|return
  let o <- load r
  match o.cls,o.data with
  | .type n,.fields vs =>
   if ["enumerate","zip","dict_itemiterator","dict_reverseitemiterator","odict_iterator","itertools.zip_longest","itertools.pairwise"].contains n&&vs[0]? == some (rawInt a) then
    rule "for.unpacks-the-owned-tuple"
    updateField r 0 .none
  | _,_=>pure ():Sem Unit) Q E s:=by
  obtain⟨o,nm,qn,ho,hc,hd,hs⟩:=hg
  cases v with
  | ref b =>
   refine wpAny_bind (wpAny_load ho ?_)
   rw[hc,hd]
   exact wpAny_pure h
  | _=>exact wpAny_pure h
 cases tg with
 | Tuple es c p=>exact tup
 | List es c=>exact tup
 | _=>exact wpAny_pure h
structure Held(p:GP)(a:Addr)(ao:Obj)(gi:Nat)(L:List MV)(g:G)(V:Hp)(pl:Pl)(s:Shared):Prop where
 gs:∃F gs,s.gens[gi]? = some gs/\Slp p L pl F gs/\∀b u,F b=some u->g.F b=some u
 isg:∀h:Heap,h.get? a=some ao->h.IsGen a gi
 at_:V a=some (rH (a,ao))
 hF:g.F a=none
 hr:∀n,g.r n≠some a
 hid:Hid g V pl
 ge:∀q∈pl,p.env.locals<=q.1
theorem Held.step{p:GP}{a:Addr}{ao:Obj}{gi:Nat}{L:List MV}{g g':G}{V V':Hp}{pl:Pl}{s s':Shared}(h:Held p a ao gi L g V pl s)(hs:∃gs,s.gens[gi]? = some gs/\oF gs=true)(st:Stp g V g' V')(hid:Hid g' V' pl)(k:Kept s.gens s'.gens):Held p a ao gi L g' V' pl s'/\∃gs,s'.gens[gi]? = some gs/\oF gs=true:=by
 obtain⟨gs,e1,e2⟩:=hs
 have k2:s'.gens[gi]? = some gs:=k gi gs (by
  unfold asleep
  rw[e1]
  cases gs <;> first|rfl|cases e2)
 obtain⟨F,gs2,e3,sl,hF⟩:=h.gs
 rw[e1] at e3;cases e3
 have ka:V' a=some (rH (a,ao)):=st.keep a _ h.at_ h.hr (zu _)
 refine⟨⟨⟨F,gs,k2,sl,λb u e=>st.F b u (hF b u e)⟩,h.isg,ka,?_,λn z=>?_,hid,h.ge⟩,gs,k2,e2⟩
 ·cases z:g'.F a with
  | none=>rfl
  | some u =>
   rcases st.Fn a (by rw[z];simp) with y|y|⟨n,y⟩|⟨ys,y⟩
   ·exact absurd h.hF y
   ·rw[h.at_] at y;cases y
   ·exact absurd y (h.hr n)
   ·rw[ka] at y;cases y
 ·rcases st.rn n a z with y|y
  ·exact h.hr n y
  ·rw[h.at_] at y;cases y
section
variable{X:Cx}{pins:Pl}{σ:L2.St}{V:Hp}{pl:Pl}{u:Shared}{g:G}{m m':Mem}{s:Sl}{K:Ki}
theorem ZD{e:Expr}{fe:Sl->Mem->R OV}{y:MV}{Q:Value->Shared->Prop}{E:Value->Shared->Prop}(pe:PE X e (tE X.ki W0 fe))(hx:X.xe=λ_ _=>False)(J:Inv X pins σ (cW V pl) u)(hid:Hid g V pl)(rs:Rs X.ki g m V)(rl:RSl X.ki g s σ V)(ev:fe s m=.ok (.v y) m')
  (h:∀g' v z V' u',RelV v z->Inv X pins σ (cW V' pl) u'->Rs X.ki g' m' V'->Stp g V g' V'->Hid g' V' pl->RV X.ki g' y v->Kept u.gens u'.gens->Q z u'):wpAny (model X.prog X.w) X.A (eval e X.env) Q E u:=by
 have r:=pe.run pins { u with gens:=u.gens.map iU } σ (cW V pl) (λv H'=>∃g',Rs X.ki g' m' H'/\Stp g (cW V pl) g' H'/\RV X.ki g' y v) (J.gens (gq J.bare)) ⟨g,s,m,hid.rs rs,hid.rl rl,by
  rw[ev]
  exact λg' v H' a b c=>⟨g',a,b,c⟩⟩
 rw[hx] at r
 refine asl J.bare r (λz u' A' q hb k=>?_) λe s' A' q=>q.elim
 obtain⟨v,H',J',rz,g',rs',st',ry⟩:=q
 obtain⟨sn,rso⟩:=hid.step rs st' rs'
 refine h g' v z (yf H' pl) u' rz ?_ rso sn.st sn.hid ry k
 rw[sn.eq]
 exact J'.qm (hb J'.bare)
theorem aaR{ifs:List Expr}{ft:Sl->Mem->R Bool}{b:Bool}{Q:Bool->Shared->Prop}{E:Value->Shared->Prop}(pt:PTs X ifs (tT X.ki W0 ft))(hx:X.xe=λ_ _=>False)(J:Inv X pins σ (cW V pl) u)(hid:Hid g V pl)(rs:Rs X.ki g m V)(rl:RSl X.ki g s σ V)(ev:ft s m=.ok b m')
  (h:∀g' V' u',Inv X pins σ (cW V' pl) u'->Rs X.ki g' m' V'->Stp g V g' V'->Hid g' V' pl->Kept u.gens u'.gens->Q b u') :
  wpAny (model X.prog X.w) X.A (forIn ifs true λc r=>if r=true then do let ok <- isTrue c X.env (eval c X.env);pure (ForInStep.yield ok) else pure (ForInStep.yield r)) Q E u:=by
 have r:=pt.run pins { u with gens:=u.gens.map iU } σ (cW V pl) (λv H'=>v=b/\∃g',Rs X.ki g' m' H'/\Stp g (cW V pl) g' H') (J.gens (gq J.bare)) ⟨g,s,m,hid.rs rs,hid.rl rl,by
  rw[ev]
  exact λg' v H' a b c=>⟨c.symm,g',a,b⟩⟩
 rw[hx] at r
 refine asl J.bare r (λz u' A' q hb k=>?_) λe s' A' q=>q.elim
 obtain⟨H',J',rfl,g',rs',st'⟩:=q
 obtain⟨sn,rso⟩:=hid.step rs st' rs'
 refine h g' (yf H' pl) u' ?_ rso sn.st sn.hid k
 rw[sn.eq]
 exact J'.qm (hb J'.bare)
def BK(pl:Pl)(s:Sl)(σ:L2.St):Prop:=∀(i:Nat) o a,s[i]? = some (some (SV.own o))->σ[i]? = some (some (L2.V.ref a))->a∉pl.map (·.1)
theorem CT{pl:Pl}:U3 (BK pl):=by
 intro s σ i x v h j o a e1 e2
 by_cases q:i=j
 ·subst q
  by_cases hi:i<s.length
  ·rw[qQm hi] at e1;cases e1
  ·rw[qQ1 (by simpa using hi)] at e1;cases e1
 ·rw[qQe q] at e1 e2
  exact h j o a e1 e2
theorem Hid.own(hid:Hid g V pl)(rl:RSl K g s σ V):BK pl s σ:=λi o a e1 e2=>by
 obtain⟨b,e3,e4,_⟩:=rl.own i o e1
 rw[e2] at e3;cases e3
 obtain⟨w,hw⟩:=e4.some
 exact hid.out hw
theorem UL(rl:RSl K g s σ (cW V pl))(h:BK pl s σ):RSl K g s σ V:=by
 refine⟨rl.val,λi o e=>?_,rl.dis,rl.len⟩
 obtain⟨a,e1,e2,e3⟩:=rl.own i o e
 exact⟨a,e1,gK.grow e2 (λ_ _ e=>e) (λ_ _ e=>e) (cG (h i o a e e1)).symm,e3⟩
theorem Td{tg:Expr}{mg:MG}{s2:Sl}{x:MV}{v:L2.V}{z:Value}{Q:Unit->Shared->Prop}{E:Value->Shared->Prop}(pg:PG X tg (gM X.ki mg))(hx:X.xe=λ_ _=>False)(J:Inv X pins σ (cW V pl) u)(hid:Hid g V pl)(rs:Rs X.ki g m V)(rl:RSl X.ki g s σ V)(rz:RelV v z)(rx:RV X.ki g x v)
  (ea:bW mg x s=some s2) (h:∀vs u',Inv X pins (wX σ mg.slots vs) (cW V pl) u'->RSl X.ki g s2 (wX σ mg.slots vs) V->Kept u.gens u'.gens->Q () u'):wpAny (model X.prog X.w) X.A (assign tg X.env z) Q E u:=by
 have r:=pg.run pins { u with gens:=u.gens.map iU } σ (cW V pl) v z (fun σ' H'=>H'=cW V pl/\∃vs,σ'=wX σ mg.slots vs/\RSl X.ki g s2 σ' V) (J.gens (gq J.bare)) rz (CV (I:=BK pl) CT (hid.rs rs) ea rx (hid.rl rl) (hid.own rl) λvs rl2 oo=>⟨rfl,vs,rfl,UL rl2 oo⟩)
 rw[hx] at r
 refine asl J.bare r (λz u' A' q hb k=>?_) λe s' A' q=>q.elim
 obtain⟨σ',H',J',rfl,vs,rfl,rl2⟩:=q
 exact h vs u' (J'.qm (hb J'.bare)) rl2 k
end
def GIn(X:Cx)(L:List MV)(F:Hp)(s1:Shared)(v:Value)(s':Shared):Prop:=∃(p:GP) (j:Nat) (a:Addr) (ao:Obj) (gi:Nat) (c:Code),v=.ref a/\p.prog=X.prog/\p.w=X.w/\p.K=X.K/\p.mg=X.mg/\p.base=X.base/\Made p j X.stack F L s1 a ao gi c s'/\(∀env,Room j (X.A.in1.deeper env))/\∀env,Room j (X.A.in1.in1.in1.deeper env)
def O3(K:Ki)(E:XK)(g:G)(H:Hp)(r:R (List MV))(Q:List MV->G->Mem->Hp->Prop):Prop:=match r with
 | .ok L m'=>∀g' H',Rs K g' m' H'->Stp g H g' H'->Q L g' m' H'
 | .exc c ks xs m'=>∀g' cls d H',Rs K g' m' H'->Stp g H g' H'->ExR K g' c ks xs cls d->E cls d H'
 | .stuck=>False
def PGn(X:Cx)(W:WX)(e:Expr)(f:Sl->Mem->R (List MV)):Prop:=∀(pins:Pl) (s:Shared) (σ:L2.St) (H:Hp) (g:G) (sl:Sl) (m:Mem) (Q:List MV->G->Mem->Hp->Prop),Inv X pins σ H s->Rs X.ki g m H->RSl X.ki g sl σ H->O3 X.ki (WE W σ) g H (f sl m) Q ->
 wpAny (model X.prog X.w) X.A (eval e X.env) (λv s'=>∃L g' m' H' s1,Q L g' m' H'/\Inv X pins σ H' s1/\Rs X.ki g' m' H'/\Stp g H g' H'/\GIn X L g'.F s1 v s') X.xe s
theorem Dh{K:Ki}{E:XK}{g:G}{H:Hp}{r:R (List MV)}{k:List MV->Mem->R MO}{Q:VK}(h:dJ K E g H (r.bind k) Q):O3 K E g H r λL g1 m1 H1=>dJ K E g1 H1 (k L m1) Q:=by
 cases r with
 | ok L m'=>exact λg' H' a b=>dJ.shift b h
 | exc c ks xs m'=>exact h
 | stuck=>exact h
theorem Fg{V:Hp}{D:Addr}{o:HO}:∀{pl:Pl},D∉pl.map (·.1)->cW (upd V D o) pl=upd (cW V pl) D o
 | [],_=>rfl
 | q::r,h=>by
  have h1:D≠q.1:=λz=>h (by rw[z];exact qQc)
  have ih:=Fg (V:=V) (o:=o) (pl:=r) λz=>h (qQd _ z)
  show upd (cW (upd V D o) r) q.1 (rH q)=upd (upd (cW V r) q.1 (rH q)) D o
  rw[ih]
  funext b
  by_cases z:b=D
  ·subst z;rw[upd_ne h1,upd_same,upd_same]
  ·by_cases y:b=q.1
   ·subst y;rw[upd_same,upd_ne z,upd_same]
   ·rw[upd_ne y,upd_ne z,upd_ne z,upd_ne y]
theorem Bg{a:Addr}{ao:Obj}{g g':G}{V V':Hp}(at_:V a=some (rH (a,ao)))(hF:g.F a=none)(hr:∀n,g.r n≠some a)(st:Stp g V g' V'):V' a=some (rH (a,ao))/\g'.F a=none/\∀n,g'.r n≠some a:=by
 have ka:V' a=some (rH (a,ao)):=st.keep a _ at_ hr (zu _)
 refine⟨ka,?_,λn z=>?_⟩
 ·cases z:g'.F a with
  | none=>rfl
  | some u =>
   rcases st.Fn a (by rw[z];simp) with y|y|⟨n,y⟩|⟨ys,y⟩
   ·exact absurd hF y
   ·rw[at_] at y;cases y
   ·exact absurd y (hr n)
   ·rw[ka] at y;cases y
 ·rcases st.rn n a z with y|y
  ·exact hr n y
  ·rw[at_] at y;cases y
section
variable{X:Cx}
theorem Bv{W:WX}{pins:Pl}{s:Shared}{σ:L2.St}{H:Hp}{Q:VK}{elt tg iter:Expr}{ifs:List Expr}{scope:Scope}{own:List (Str × Nat)}{pos pos':Pos}{mg:MG}{fi:Sl->Mem->R (List MV)}{ft:Sl->Mem->R Bool}{fe:Sl->Mem->R OV}{use:Option (Value->Sem Unit)}{Qf:Value->Shared->Prop}(calm:X.calm=true)(nd:X.N.Nodup)(I:L2.Inv X pins σ H s)(hi:PGn X W iter fi)(bk:BlkOk X.N X.env.scope scope own)(hnc:∀y∈scope.names,y.2≠.cell)
  (hs:∀i∈mg.slots,i∈own.map (·.2)) (hg:∀(s:Shared) (H:Hp) (C:Addr) (cl:List (Str × Addr)) (fp:List Addr),PG (X.blk s H scope (compEnvC scope cl C X.env) fp) tg (gM X.ki mg))
  (ht:∀(s:Shared) (H:Hp) (C:Addr) (cl:List (Str × Addr)) (fp:List Addr),PTs (X.blk s H scope (compEnvC scope cl C X.env) fp) ifs (tT X.ki W0 ft)) (he:∀(s:Shared) (H:Hp) (C:Addr) (cl:List (Str × Addr)) (fp:List Addr),PE (X.blk s H scope (compEnvC scope cl C X.env) fp) elt (tE X.ki W0 fe))
  (fold:∀x,foldedSetIterable iter X.env x=pure x) (h:tF X.ki W (λs m=>(fi s m).bind λL m=>(cD (bA (own.map (·.2)) mg ft fe s) [] L [] m).bind λys m=>.ok (.lst ys) m) σ H Q)
  (hRR:∀D C s' m H',L2.Inv X pins σ H' s'->Q (.ref D) H'->s'.heap.Ns C m->FpOk X pins H' C->compPost (model X.prog X.w) X.A X.xe use Qf (.ref D) C (.ok .next) s') :
  wpAny (model X.prog X.w) X.A (comprehension (.ListComp elt [⟨tg,iter,ifs,0⟩] scope pos) scope X.env pos' (newList []) false (eval iter X.env) use) Qf X.xe s:=by
 obtain⟨g,sl,m,rs,rl,p⟩:=h
 have fr:∀y∈scope.names,y.2=.free->∃c,X.env.cells.lookup y.1=some c:=λy hy e=>I.ok.has _ ((bk.free y hy e).elim .inl .inr)
 refine wpAny_comprehension_free (use:=use) rfl fold (closure_ok fr) bk.kind (λy hy e=>by rw[bk.uniq y hy,e]) (thn (hi pins s σ H g sl m _ I rs rl (Dh p)) λxv sa ha=>?_)
 obtain⟨L,g1,m1,H1,s1,p1,I1,rs1,st1,P,j,a,ao,gi,c,rfl,c1,c2,c3,c4,c5,md,hroom,_⟩:=ha
 obtain⟨pr,w0,K0,mg0,b0,N0,env0,out0,A0⟩:=P
 dsimp only at c1 c2 c3 c4 c5
 subst c1 c2 c3 c4 c5
 have c6:out0=X.stack:=md.out
 subst c6
 have isg:=md.isg _ md.obj
 refine wpAny_pyIter_gen isg ?_
 have Ia:Inv X pins σ H1 sa:=I1.call' (ch:=[]) md.os (Un.kept md.keep) (I1.hok.kept md.keep) md.bare λb z=>absurd z (by simp)
 have hn:env0.locals=s1.heap.objs.size:=md.loc
 have ale:env0.locals<=a:=by rw[hn];exact md.old
 have alt:a<sa.heap.objs.size:=Heap.lt_size md.obj
 have fresh1:∀b,env0.locals<=b->H1 b=none:=λb hb=>I1.hok.fresh (by rw[<- hn];exact hb)
 refine wpAny_newObj_type (newEnv_comp ?_) (by show 0<=sizeLine;exact Nat.zero_le _)
 obtain⟨D,eD⟩:∃D,sa.heap.objs.size=D:=⟨_,rfl⟩
 have dn:H1 D=none:=Ia.hok.fresh (Nat.le_of_eq eD)
 obtain⟨sc,esc⟩:∃sc:Shared,({ sa with heap:=sa.heap.push { cls:=.type "list",data:=.seq ([]:List Value).toArray } }:Shared)=sc:=⟨_,rfl⟩
 have hsc:sc.heap=sa.heap.push { cls:=.type "list",data:=.seq ([]:List Value).toArray }:=by rw[<- esc]
 have hscg:sc.gens=sa.gens:=by rw[<- esc]
 obtain⟨Hc,eHc⟩:∃Hc,upd H1 D (.lst [])=Hc:=⟨_,rfl⟩
 have Ic:L2.Inv X pins σ Hc sc:=by
  rw[<- esc,<- eHc]
  refine Ia.laid (t':=sa.toks) (λb o e=>qQu _ e) (Nat.le_of_eq eD) ⟨Nat.zero_le _,[],0,.nil,?_⟩
  rw[<- eD]
  exact Heap.get?_push_size _ rfl
 have szc:sc.heap.objs.size=D+1:=by rw[hsc,Heap.size_push,eD]
 obtain⟨fp,efp⟩:∃fp,(List.range D).filter (λb=>decide (env0.locals<=b))=fp:=⟨_,rfl⟩
 have infp:∀b,b∈fp↔env0.locals<=b/\b<D:=λb=>by rw[<- efp];simp[and_comm]
 have Hcn:∀b,env0.locals<=b->b≠D->Hc b=none:=λb hb hd=>by rw[<- eHc,upd_ne hd];exact fresh1 b hb
 have fc:∀b∈fp,FpOk X pins Hc b/\b<sc.heap.objs.size:=λb z=>by
  obtain⟨h1,h2⟩:=(infp b).mp z
  exact⟨I1.fpOk (by rw[<- hn];exact h1) (Hcn b h1 (Nat.ne_of_lt h2)),by rw[szc];exact Nat.lt_succ_of_lt h2⟩
 have Id:=block_start Ic bk nd fc
 have pg:=hg sc Hc sc.heap.objs.size (cellsFrom (sc.heap.objs.size+1) scope.names (cloFrom X.env.cells scope.names [])) fp
 have pt:=ht sc Hc sc.heap.objs.size (cellsFrom (sc.heap.objs.size+1) scope.names (cloFrom X.env.cells scope.names [])) fp
 have pe:=he sc Hc sc.heap.objs.size (cellsFrom (sc.heap.objs.size+1) scope.names (cloFrom X.env.cells scope.names [])) fp
 have hcell:∀x c,(cellsFrom (sc.heap.objs.size+1) scope.names (cloFrom X.env.cells scope.names [])).lookup x=some c->c<env0.locals:=λx c e=>by
  have e2:=PySem.mem_of_lookup e
  rw[<- Heap.size_push sc.heap { cls:=.type "dict",data:=.dict #[] }] at e2
  rcases cells_mem e2 with hm|⟨h1,_,_⟩
  ·rcases cloFrom_mem hm with hm|⟨h1,rfl⟩
   ·cases hm
   ·obtain⟨c,hc⟩:=fr _ h1 rfl
    rw[hc]
    obtain⟨w,z⟩:=I1.cell _ _ hc
    rw[hn];exact z.lt
  ·exact absurd rfl (hnc _ h1)
 have stkLt:∀b∈frs X.stack,b<sc.heap.objs.size:=λb hb=>by
  rcases qQj.mp (Ic.stkSub b hb) with z|z
  ·rw[z];exact Ic.lt
  ·rcases Nat.lt_or_ge b sc.heap.objs.size with y|y
   ·exact y
   ·exact absurd z (Ic.nofs y)
 have goal:∀(ce:Env) (sd:Shared),ce.locals=sc.heap.objs.size->(∀x c,ce.cells.lookup x=some c->c<env0.locals)->sd.gens=sa.gens->(∀b o,sa.heap.get? b=some o->sd.heap.get? b=some o)->L2.Inv (X.blk sc Hc scope ce fp) [] (wipe σ (own.map (·.2))) Hc sd->PG (X.blk sc Hc scope ce fp) tg (gM X.ki mg)->PTs (X.blk sc Hc scope ce fp) ifs (tT X.ki W0 ft)->PE (X.blk sc Hc scope ce fp) elt (tE X.ki W0 fe) ->
   codeAny (model X.prog X.w) X.A (.compStart (.ListComp elt [⟨tg,iter,ifs,0⟩] scope pos) 0 (.ref a) (.ref D) ce) (compPost (model X.prog X.w) X.A X.xe use Qf (.ref D) sc.heap.objs.size) sd:=λce sd cL cC sdg sdk Id pg pt pe=>by
  obtain⟨p,ep⟩:∃p:GP,p=⟨X.prog,X.w,X.K,X.mg,X.base,N0,env0,X.stack,X.A.in1⟩:=⟨_,rfl⟩
  have slp0:Slp p L (iw sa.heap env0.locals a) g1.F (.fresh c):=by
   rw[ep]
   exact md.slp X.A.in1 hroom I.ok.frames
  have penv:p.env=env0:=by rw[ep]
  have mkLie:∀(V:Hp) (pl:Pl) (g:G) (u:Shared),V D≠none->Hid g V pl->(∀q∈pl,p.env.locals<=q.1)->Lie p (X.blk sc Hc scope ce fp) u (cW V pl) pl:=λV pl g u hD hid ge=>by
   have hDp:D∉pl.map (·.1):=λz=>by
    obtain⟨q,hq,e⟩:=qQh.mp z
    exact hD (by rw[<- e];exact hid.n q hq)
   refine⟨by rw[ep],by rw[ep],by rw[ep],by rw[ep],by rw[ep],by rw[ep],by rw[ep],.inr λz=>?_,by rw[penv];exact cC,λb h1 h2 h3=>.inl ((infp b).mpr ⟨by rw[<- penv];exact h1,?_⟩),ge⟩
   ·have:=stkLt _ z
    rw[show (X.blk sc Hc scope ce fp).env.locals=sc.heap.objs.size from cL] at this
    exact absurd this (Nat.lt_irrefl _)
   ·have h2:b<sc.heap.objs.size:=h2
    rw[szc] at h2
    rcases Nat.lt_or_ge b D with y|y
    ·exact y
    ·have:b=D:=Nat.le_antisymm (Nat.le_of_lt_succ h2) y
     subst this
     rcases h3 with z|z
     ·rw[cG hDp] at z;exact absurd z hD
     ·exact absurd z hDp
  have Ie:L2.Inv (X.blk sc Hc scope ce fp) [] (wipe σ (own.map (·.2))) (cW (cW Hc [(a,ao)]) (iw sa.heap env0.locals a)) sd:=by
   have pinsN:∀r∈(X.blk sc Hc scope ce fp).pn++([]:Pl),False:=λr hr=>by
    have hr:r∈([]:Pl)++[]:=hr
    simp at hr
   have two:∀q:Addr × Obj,env0.locals<=q.1->sa.heap.get? q.1=some q.2->sd.heap.get? q.1=some q.2/\Hc q.1=none/\q.1≠ce.locals/\(∀x c,ce.cells.lookup x=some c->c≠q.1)/\(∀r∈(X.blk sc Hc scope ce fp).pn++([]:Pl),r.1≠q.1)/\(q.1∈fp\/sc.heap.objs.size<=q.1):=λq h1 h2=>by
    have lt:q.1<D:=by rw[<- eD];exact Heap.lt_size h2
    exact⟨sdk _ _ h2,Hcn _ h1 (Nat.ne_of_lt lt),by rw[cL,szc];exact Nat.ne_of_lt (Nat.lt_succ_of_lt lt),λx c e=>Nat.ne_of_lt (qQ2 (cC x c e) h1),λr hr=>(pinsN r hr).elim,.inl ((infp _).mpr ⟨h1,lt⟩)⟩
   refine (Id.cW (pl:=[(a,ao)]) λq hq=>?_).cW λq hq=>?_
   ·rw[qQk.mp hq]
    exact two (a,ao) ale md.obj
   ·obtain⟨h1,h2,h3⟩:=gR hq
    obtain⟨t1,t2,t3⟩:=two q h1 h3
    refine⟨t1,?_,t3⟩
    show upd Hc a _ q.1=none
    rw[upd_ne h2];exact t2
  obtain⟨rs1d,st1d⟩:=rs1.grow (o:=.lst []) dn
  have hDF:=(rs1.free dn).1
  have hDr:=(rs1.free dn).2
  have aD:a≠D:=by rw[<- eD];exact Nat.ne_of_lt alt
  have an:upd H1 D (.lst []) a=none:=by rw[upd_ne aD];exact fresh1 a ale
  obtain⟨rs1a,st1a⟩:=rs1d.grow (o:=rH (a,ao)) an
  have eV0:cW Hc [(a,ao)]=upd (upd H1 D (.lst [])) a (rH (a,ao)):=by rw[<- eHc];rfl
  have hid0:Hid g1 (cW Hc [(a,ao)]) (iw sa.heap env0.locals a):=⟨λq hq=>by
   obtain⟨h1,h2,h3⟩:=gR hq
   show upd Hc a _ q.1=none
   rw[upd_ne h2]
   exact Hcn _ h1 (by rw[<- eD];exact Nat.ne_of_lt (Heap.lt_size h3)),Ef.of λq hq=>(gR hq).2.2⟩
  have held0:Held p a ao gi L g1 (cW Hc [(a,ao)]) (iw sa.heap env0.locals a) sd:=by
   refine⟨⟨g1.F,.fresh c,by rw[sdg];exact md.gen,slp0,λ_ _ z=>z⟩,md.isg,upd_same,?_,?_,hid0,λq hq=>by rw[penv];exact (gR hq).1⟩
   ·exact (rs1.free (fresh1 a ale)).1
   ·exact (rs1.free (fresh1 a ale)).2
  have loop:codeAny (model X.prog X.w) X.A (.compLoop (.ListComp elt [⟨tg,iter,ifs,0⟩] scope pos) 0 (.ref a) (.ref D) ce) (compPost (model X.prog X.w) X.A X.xe use Qf (.ref D) sc.heap.objs.size) sd:=by
   refine compLoop_any (λn u=>∃g2 m2 V2 pl2 acc ys Lr,Lr.length=n/\L2.Inv (X.blk sc Hc scope ce fp) [] (wipe σ (own.map (·.2))) (cW V2 pl2) u/\Rs X.ki g2 m2 V2/\Stp g1 H1 g2 V2/\V2 D=some (.lst ys)/\RVs X.ki g2 acc ys/\g2.F D=none/\(∀k,g2.r k≠some D)/\Held p a ao gi Lr g2 V2 pl2 u /\
    dJ X.ki (WE W σ) g1 H1 ((cD (bA (own.map (·.2)) mg ft fe sl) [] Lr acc m2).bind λys m=>.ok (.lst ys) m) Q) (λn u hu=>?_) L.length ⟨g1,m1,_,_,[],[],L,rfl,Ie,by rw[eV0];exact rs1a,by rw[eV0];exact st1d.trans st1a,by rw[eV0,upd_ne aD.symm,upd_same],rfl,hDF,hDr,held0,p1⟩
   obtain⟨g2,m2,V2,pl2,acc,ys,Lr,eL,J2,rs2,st2,hDl,ra,hDF2,hDr2,held2,pq⟩:=hu
   obtain⟨F2,gs,hgs,slp2,hF2⟩:=held2.gs
   have hDn2:V2 D≠none:=by rw[hDl];simp
   have lie:=mkLie V2 pl2 g2 u hDn2 held2.hid held2.ge
   have rs2p:Rs p.ki g2 m2 V2:=by rw[ep];exact rs2
   have wk:=lie.wake J2 held2.hid rs2p hF2 (gi:=gi)
   have isg2:u.heap.IsGen a gi:=held2.isg _ (oX (q:=(a,ao)) J2.hok (held2.hid.lay held2.at_))
   have hgl:gi+1<=u.gens.size:=(Array.getElem?_eq_some_iff.mp hgs).1
   have hdep:X.A.depth<recursionLimit:=by
    have h1:=(hroom ce).dp
    have h2:X.A.depth+1+3 * j+5<recursionLimit:=h1
    omega
   have emd:p.md=model X.prog X.w:=by rw[ep]
   refine wpAny_gsz hgl ?_
   rw[<- emd]
   refine Bm (p:=p) (A:=X.A) (a:=a) (by rw[ep]) (I.ok.hd calm) J2.nolimit hdep isg2 hgs slp2 wk (λeN s4 F' H' h' aft hk _=>?_) (λy Lr' eY v s4 F' H' x pv gs' aft rx ry hpv slp' hsu hbr hsz=>?_)
   ·rw[emd]
    subst eN
    have J3:=lie.back (pv:=[]) J2 held2.hid aft (λq hq=>by cases hq) (λq hq=>by cases hq) (G':=(s4.setGen gi .finished).gens) (allBare_setGen aft.bare rfl)
    have J3:L2.Inv (X.blk sc Hc scope ce fp) [] (wipe σ (own.map (·.2))) H' { s4 with gens:=(s4.setGen gi .finished).gens }:=J3
    have J4:L2.Inv (X.blk sc Hc scope ce fp) [] (wipe σ (own.map (·.2))) H' { s4.setGen gi .finished with heap:=h' }:=J3.call' (s':={ s4.setGen gi .finished with heap:=h' }) (ch:=[]) rfl (Un.kept hk) (J3.hok.kept hk) (allBare_setGen aft.bare rfl) λb z=>absurd z (by simp)
    obtain⟨rs3,st3⟩:=Lie.Km rs2p aft
    obtain⟨ob,hF3,hr3⟩:=eQ (o:=.lst acc) ⟨ys,hDl,ra⟩ hDF2 hDr2 st3
    have out:L2.Inv X pins σ H' { s4.setGen gi .finished with heap:=h' }:=Ic.call' (ch:=fp) J4.os J4.base J4.hok J4.bare λb z=>⟨(fc b z).1.2.2.2.1,(fc b z).1.2.1,(fc b z).1.2.2.2.2.1,(fc b z).1.2.2.2.2.2⟩
    have nD:H' sc.heap.objs.size=none:=by
     have z:H' ce.locals=none:=J4.free
     rw[cL] at z;exact z
    obtain⟨mm,hm,_⟩:=J4.loc
    have hm:Heap.Ns h' ce.locals mm:=hm
    rw[cL] at hm
    obtain⟨f0,f1,f2,f3,f4,f5⟩:=Ic.fpOk (Nat.le_refl _) nD
    have e0:(cD (bA (own.map (·.2)) mg ft fe sl) [] [] acc m2)=.ok acc m2:=by unfold cD;rw[if_pos (d7 _)]
    rw[e0] at pq
    have pq:dJ X.ki (WE W σ) g1 H1 (.ok (.lst acc) m2) Q:=pq
    rw[ep] at rs3
    exact hRR D _ _ mm H' out (pq _ D H' rs3 (st2.trans st3) dn hF3 hr3 ob) hm ⟨f0,f1,f2,f3,f4,f5⟩
   ·rw[emd]
    have hidv:Hid (⟨F',g2.r⟩:G) H' pv:=⟨λq hq=>(hpv.at_ q hq).2.1,Ef.of λq hq=>(hpv.at_ q hq).1⟩
    have gl4:gi<s4.gens.size:=by
     have:=setGen_size s4 gi gs'
     rw[this] at hsz;omega
    have J3:L2.Inv (X.blk sc Hc scope ce fp) [] (wipe σ (own.map (·.2))) (cW H' pv) (s4.setGen gi gs'):=lie.back (pv:=pv) J2 held2.hid aft hpv.at_ (λq hq r hr=>hpv.ep q hq r hr) (G':=(s4.setGen gi gs').gens) (allBare_setGen aft.bare hbr)
    obtain⟨rs3,st3⟩:=Lie.Km rs2p aft
    obtain⟨ob3,hF3,hr3⟩:=eQ (o:=.lst acc) ⟨ys,hDl,ra⟩ hDF2 hDr2 st3
    obtain⟨a1,a2,a3⟩:=Bg held2.at_ held2.hF held2.hr st3
    have held3:Held p a ao gi Lr' ⟨F',g2.r⟩ H' pv (s4.setGen gi gs'):=⟨⟨F',gs',setGen_at gl4,slp',λ_ _ z=>z⟩,held2.isg,a1,a2,a3,hidv,λq hq=>(hpv.at_ q hq).2.2⟩
    have sus3:∃gs,(s4.setGen gi gs').gens[gi]? = some gs/\oF gs=true:=⟨gs',setGen_at gl4,hsu⟩
    rw[ep] at rs3 ry
    have ry3:RV X.ki ⟨F',g2.r⟩ y x:=RV.mono (g:=fz F') (g':=⟨F',g2.r⟩) (λ_ _ e=>e) (λn b e=>by cases e) y ry
    have st13:=st2.trans st3
    refine yc (gi:=gi) (held3.isg _ (oX (q:=(a,ao)) J3.hok (hidv.lay a1))) ?_
    -- the turn
    rw[eY,fG,if_pos (d7 _)] at pq
    cases ea:bW mg y (gW sl (own.map (·.2))) with
    | none =>
     have ec:bA (own.map (·.2)) mg ft fe sl y m2=.stuck:=by unfold bA;rw[ea]
     rw[ec] at pq;exact pq.elim
    | some sa2 =>
     have ec:bA (own.map (·.2)) mg ft fe sl y m2=(ft sa2 m2).bind λk m=>if k=true then (fe sa2 m).bind λy m=>(match qu y with
      | some y=>.ok (some y) m
      | none=>.stuck) else .ok none m:=by
      show (match bW mg y (gW sl (own.map (·.2))) with
       | some s2=>(ft s2 m2).bind λk m=>if k=true then (fe s2 m).bind λy m=>(match qu y with
        | some y=>.ok (some y) m
        | none=>.stuck) else .ok none m
       | none=>.stuck)=_
      rw[ea]
     have rl3:=((rl.st (st1.trans st13)).wipe (own.map (·.2)))
     refine Td pg rfl J3 hidv rs3 rl3 rx ry3 ea λvs u4 J4 rl4 k4=>?_
     obtain⟨held4,sus4⟩:=held3.step sus3 (Stp.refl _ _) hidv k4
     have hw:wipe (wX (wipe σ (own.map (·.2))) mg.slots vs) (own.map (·.2))=wipe σ (own.map (·.2)):=by rw[iV hs,jM]
     have back:∀{u':Shared}{G':Hp},L2.Inv (X.blk sc Hc scope ce fp) [] (wX (wipe σ (own.map (·.2))) mg.slots vs) G' u'->L2.Inv (X.blk sc Hc scope ce fp) [] (wipe σ (own.map (·.2))) G' u':=λ{u' G'} J'=>by
      have len:(wipe σ (own.map (·.2))).length=(wX (wipe σ (own.map (·.2))) mg.slots vs).length:=by
       have h:=congrArg List.length hw
       rw[wipe_length] at h
       exact h.symm
      refine J'.weak len λj y e=>?_
      rw[<- hw] at e
      exact (wipe_some e).1
     have lt:Lr'.length<n:=by rw[<- eL,eY];exact Nat.lt_succ_self _
     cases et:ft sa2 m2 with
     | stuck=>rw[ec,et] at pq;exact pq.elim
     | exc c ks xs m'=>rw[ec,et] at pq;exact pq.elim
     | ok k m4 =>
      rw[ec,et] at pq
      refine aaR pt rfl J4 hidv rs3 rl4 et λg5 V5 u5 J5 rs5 st5 hid5 k5=>?_
      obtain⟨held5,sus5⟩:=held4.step sus4 st5 hid5 k5
      obtain⟨ob5,hF5,hr5⟩:=eQ ob3 hF3 hr3 st5
      cases k with
      | false =>
       obtain⟨zs,hz,rz⟩:=ob5
       rw[if_neg Bool.false_ne_true]
       exact⟨_,lt,g5,m4,V5,pv,acc,zs,Lr',rfl,back J5,rs5,st13.trans st5,hz,rz,hF5,hr5,held5,pq⟩
      | true =>
       rw[if_pos rfl]
       have ed:((R.ok true m4:R Bool).bind λk m=>if k=true then (fe sa2 m).bind λy m=>(match qu y with
        | some y=>.ok (some y) m
        | none=>.stuck) else .ok none m)=(fe sa2 m4).bind λy m=>(match qu y with
        | some y=>.ok (some y) m
        | none=>.stuck):=rfl
       rw[ed] at pq
       cases ee:fe sa2 m4 with
       | stuck=>rw[ee] at pq;exact pq.elim
       | exc c ks xs m'=>rw[ee] at pq;exact pq.elim
       | ok y5 m5 =>
        rw[ee] at pq
        cases y5 with
        | b o=>exact pq.elim
        | v y5 =>
         have pq:dJ X.ki (WE W σ) g1 H1 ((if acc.length<sizeLine then cD (bA (own.map (·.2)) mg ft fe sl) [] Lr' (acc++[y5]) m5 else .stuck).bind λys m=>.ok (.lst ys) m) Q:=pq
         by_cases hl:acc.length<sizeLine
         ·rw[if_pos hl] at pq
          refine ZD pe rfl J5 hid5 rs5 (rl4.st st5) ee λg6 w z V6 u6 rz6 J6 rs6 st6 hid6 ry6 k6=>?_
          obtain⟨held6,sus6⟩:=held5.step sus5 st6 hid6 k6
          obtain⟨⟨zs,hz,rz⟩,hF6,hr6⟩:=eQ ob5 hF5 hr5 st6
          have hDp:D∉pv.map (·.1):=hid6.out hz
          refine asl J6.bare (app_ok (X:=X.blk sc Hc scope ce fp) (E:=λ_ _=>False) (Q:=λ_ s'=>L2.Inv (X.blk sc Hc scope ce fp) [] (wX (wipe σ (own.map (·.2))) mg.slots vs) (upd (cW V6 pv) D (.lst (zs++[w]))) s') (J6.gens (gq J6.bare)) ((cG hDp).trans hz) (by rw[<- rz.length];exact hl) rz6 λs' I'=>I') (λ_ u7 A7 J7 hb7 k7=>?_) λ_ _ _ q=>q.elim
          have J7:=J7.qm (hb7 J7.bare)
          rw[<- Fg hDp] at J7
          have aD6:a≠D:=aD
          have hid7:Hid g6 (upd V6 D (.lst (zs++[w]))) pv:=⟨λq hq=>by
           rw[upd_ne (λz=>hDp (by rw[<- z];exact qQh.mpr ⟨q,hq,rfl⟩))];exact hid6.n q hq,hid6.o⟩
          have held7:Held p a ao gi Lr' g6 (upd V6 D (.lst (zs++[w]))) pv u7:=by
           obtain⟨h7,s7⟩:=held6.step sus6 (Stp.refl _ _) hid6 k7
           exact⟨h7.gs,h7.isg,by rw[upd_ne aD6];exact h7.at_,h7.hF,h7.hr,hid7,h7.ge⟩
          exact⟨_,lt,g6,m5,_,pv,acc++[y5],zs++[w],Lr',rfl,back J7,rs6.own hF6 hr6 hz (λps z=>by cases z),((st13.trans st5).trans st6).own dn,upd_same,rz.append (.one ry6),hF6,hr6,held7,pq⟩
         ·rw[if_neg hl] at pq;exact pq.elim
  exact codeAny_compStart_list loop (wpAny_pyIter_gen (held0.isg _ (sdk _ _ md.obj)) loop)
 subst eD esc
 exact goal _ _ rfl hcell rfl (λb o e=>pushCells_keeps _ _ _ _ (qQu _ (qQu _ e))) Id pg pt pe
theorem Tp{W:WX}{elt tg iter:Expr}{ifs:List Expr}{scope:Scope}{own:List (Str × Nat)}{pos:Pos}{mg:MG}{fi:Sl->Mem->R (List MV)}{ft:Sl->Mem->R Bool}{fe:Sl->Mem->R OV}(calm:X.calm=true)(nd:X.N.Nodup)(hi:PGn X W iter fi)(bk:BlkOk X.N X.env.scope scope own)(hnc:∀y∈scope.names,y.2≠.cell)
  (hs:∀i∈mg.slots,i∈own.map (·.2)) (hg:∀(s:Shared) (H:Hp) (C:Addr) (cl:List (Str × Addr)) (fp:List Addr),PG (X.blk s H scope (compEnvC scope cl C X.env) fp) tg (gM X.ki mg))
  (ht:∀(s:Shared) (H:Hp) (C:Addr) (cl:List (Str × Addr)) (fp:List Addr),PTs (X.blk s H scope (compEnvC scope cl C X.env) fp) ifs (tT X.ki W0 ft)) (he:∀(s:Shared) (H:Hp) (C:Addr) (cl:List (Str × Addr)) (fp:List Addr),PE (X.blk s H scope (compEnvC scope cl C X.env) fp) elt (tE X.ki W0 fe))
  (fold:∀x,foldedSetIterable iter X.env x=pure x):PE X (.ListComp elt [⟨tg,iter,ifs,0⟩] scope pos) (tF X.ki W λs m=>(fi s m).bind λL m=>(cD (bA (own.map (·.2)) mg ft fe s) [] L [] m).bind λys m=>.ok (.lst ys) m):=by
 refine⟨λpins s σ H Q I h=>?_⟩
 rw[eval_ListComp]
 refine Bv calm nd I hi bk hnc hs hg ht he fold h λD C s' m H' I' q hn f=>⟨m,hn,λh'' sb=>?_⟩
 obtain⟨f0,f1,f2,f3,f4,f5⟩:=f
 exact⟨.ref D,H',I'.turned (t':=s'.toks) (λb o hb e=>(sb.2 b hb).trans e) f0 f1 f3 f4 f5,rfl,q⟩
theorem Ik{W:WX}{i:Nat}{y:Str}{py:Pos}{elt tg iter:Expr}{ifs:List Expr}{scope:Scope}{own:List (Str × Nat)}{pos spos:Pos}{mg:MG}{fi:Sl->Mem->R (List MV)}{ft:Sl->Mem->R Bool}{fe:Sl->Mem->R OV}(calm:X.calm=true)(nd:X.N.Nodup)(hy:X.N[i]? = some y)(hyl:X.env.scope.names.lookup y=some .local)
  (hsw:swapsWith (.ListComp elt [⟨tg,iter,ifs,0⟩] scope pos) (some (.Name y py)) spos.line X.env=pure true) (hi:PGn X W iter fi) (bk:BlkOk X.N X.env.scope scope own) (hnc:∀y∈scope.names,y.2≠.cell)
  (hs:∀i∈mg.slots,i∈own.map (·.2)) (hg:∀(s:Shared) (H:Hp) (C:Addr) (cl:List (Str × Addr)) (fp:List Addr),PG (X.blk s H scope (compEnvC scope cl C X.env) fp) tg (gM X.ki mg))
  (ht:∀(s:Shared) (H:Hp) (C:Addr) (cl:List (Str × Addr)) (fp:List Addr),PTs (X.blk s H scope (compEnvC scope cl C X.env) fp) ifs (tT X.ki W0 ft)) (he:∀(s:Shared) (H:Hp) (C:Addr) (cl:List (Str × Addr)) (fp:List Addr),PE (X.blk s H scope (compEnvC scope cl C X.env) fp) elt (tE X.ki W0 fe))
  (fold:∀x,foldedSetIterable iter X.env x=pure x):PS X (.Assign [.Name y py] (.ListComp elt [⟨tg,iter,ifs,0⟩] scope pos) spos) (tAsg (tF X.ki W λs m=>(fi s m).bind λL m=>(cD (bA (own.map (·.2)) mg ft fe s) [] L [] m).bind λys m=>.ok (.lst ys) m) (gName i)):=by
 refine⟨λpins s σ H D I h=>?_⟩
 rw[exec_Assign_Name_used _ _ _ _ hsw]
 refine wpAny_bind (wpAny_standAt (wpAny_bind ?_))
 show wpAny _ X.A (do let _ <- comprehension (.ListComp elt [⟨tg,iter,ifs,0⟩] scope pos) scope X.env (firstIterPos [⟨tg,iter,ifs,0⟩] pos) (newList []) false (eval iter X.env) (some (assign (.Name y py) X.env))) _ _ s
 refine wpAny_bind (thn (Bv (Qf:=λ_ s'=>SP X pins D .next s') (Q:=λx H1=>gName i x σ H1 D.nx) calm nd I hi bk hnc hs hg ht he fold h λL C s' m H' I' q hn f=>?_) λ_ s' hq=>wpAny_pure (wpAny_pure hq))
 show wpAny _ _ (assign (.Name y py) X.env (.ref L)) _ _ _
 refine wpAny_assign_Name (store_ok2 (v:=V.ref L) I' nd hy (.inl hyl) rfl (λs2 I2 ⟨a,sb,ha⟩=>?_) (.inr hyl))
 obtain⟨f0,f1,f2,f3,f4,f5⟩:=f
 have haC:C≠a:=by
  rcases ha with z|z
  ·rw[z];exact f1
  ·exact λe=>f4 y a z e.symm
 refine⟨m,hn.sameBut sb haC,λh3 sb3=>?_⟩
 exact⟨_,H',I2.turned (t':=s2.toks) (λb o hb e=>(sb3.2 b hb).trans e) f0 f1 f3 f4 f5,q⟩
end
end RgF
namespace Rc
open PySem PySem.Spec L2 RgF
open PyProof.Rows hiding St
def Zi(o:Option (List MV))(m:Mem):R (List MV):=match o with
 | some L=>.ok L m
 | none=>.stuck
structure VH where
 need:List dI:=[]
 parts:Cfg->Expr->Option Expr
 F:OV->Mem->Option (List MV)
 ok:∀{k:Nat}{W:WX}{c:Cfg}{X:Cx}{e o:Expr}{fo:Sl->Mem->R OV},bV k W c X->(∀n∈need,n.at X k)->parts c e=some o->PE X o (tE X.ki W fo)->PGn X W e λs m=>(fo s m).bind λx m=>Zi (F x m) m
def Hl(sc:Scope):Bool:=sc.names.all λy=>y.2 != .cell
theorem yH{sc:Scope}(h:Hl sc=true):∀y∈sc.names,y.2≠.cell:=λy hy e=>by
 have:=qQ0.mp h y hy
 rw[e] at this
 cases this
end Rc
namespace Rc
open PySem PySem.Spec L2
open PyProof.Rows hiding St
def RK{β:Type}(r:R (List MV))(k:List MV->Mem->R β):R β:=match r with
 | .ok a m=>k a m
 | _=>.stuck
open Classical in
def gj(f:MV->List MV->Mem->R (List MV))(wt:List (Nat × MO)):List MV->List MV->Mem->R (List MV)
 | [],acc,m=>if OkW wt m then .ok acc m else .stuck
 | x::xs,acc,m=>if OkW wt m then RK (f x acc m) λacc m=>gj f wt xs acc m else .stuck
def turn2(own own1:List Nat)(tg:MG)(ft:Sl->Mem->R Bool)(fi1:Sl->Mem->R Wk)(tg1:MG)(ft1:Sl->Mem->R Bool)(fe:Sl->Mem->R OV)(s:Sl):MV->List MV->Mem->R (List MV):=λx acc m=>match bW tg x (gW s own) with
 | some s2=>(ft s2 m).bind λk m=>if k=true then (fi1 s2 m).bind λw m=>cD (bA own1 tg1 ft1 fe s2) w.watch w.items acc m else .ok acc m
 | none=>.stuck
open Classical in
theorem rM{f:MV->List MV->Mem->R (List MV)}{wt:List (Nat × MO)}{x:MV}{xs acc:List MV}{m:Mem}:gj f wt (x::xs) acc m=if OkW wt m then RK (f x acc m) λacc m=>gj f wt xs acc m else .stuck:=rfl
theorem Ir{f:MV->List MV->Mem->R (List MV)}{wt:List (Nat × MO)}{xs acc:List MV}{m:Mem}(h:gj f wt xs acc m≠.stuck):OkW wt m:=by
 cases xs with
 | nil =>
  unfold gj at h
  split at h
  ·assumption
  ·exact absurd rfl h
 | cons x xs =>
  rw[rM] at h
  split at h
  ·assumption
  ·exact absurd rfl h
theorem Jk{J:It}{n:Nat}{G:Hp->Prop}{Y:Nat->Hp->V->Hp->Prop}(w:Walk J n G Y){H0:Hp}{Qd:Hp->Prop}{B:(Hp->Prop)->V->Hp->Prop}(Pv:Nat->Hp->Prop)(h0:Pv 0 H0)(hG:∀i H,i<=n->Pv i H->G H)
  (hs:∀i x H H',i<n->Pv i H->Y i H x H'->B (Pv (i+1)) x H') (hd:∀H,Pv n H->Qd H) :
  ∃W:Nat->Nat->Hp->Prop,(∃m,W 0 m H0)/\∀i m H,W i m H->(J.stop i H/\Qd H)\/(J.go i H/\∃Nx:Hp->Prop,(∀H',Nx H'->∃m',m'<m/\W (i+1) m' H')/\∀x H',J.yld i H x H'->B Nx x H'):=by
 refine⟨λi m H=>m=n - i/\i<=n/\Pv i H,⟨n,by simp,Nat.zero_le _,h0⟩,?_⟩
 rintro i m H ⟨rfl,hi,p⟩
 have q:=hG i H hi p
 by_cases hlt:i<n
 ·exact .inr ⟨w.goes i H hlt q,Pv (i+1),λH' p'=>⟨n - (i+1),by omega,rfl,hlt,p'⟩,λx H' y=>hs i x H H' hlt p (w.yields i H x H' hlt q y)⟩
 ·have e:i=n:=by omega
  subst e
  exact .inl ⟨w.stops H q,hd H p⟩
theorem Oi{P:MO->Addr->Prop}:U3 λs σ=>∀(i:Nat) o a,s[i]? = some (some (SV.own o))->σ[i]? = some (some (V.ref a))->P o a:=by
 intro s σ i x v h j o a e1 e2
 by_cases q:i=j
 ·subst q
  by_cases hi:i<s.length
  ·rw[qQm hi] at e1;cases e1
  ·rw[qQ1 (by simpa using hi)] at e1;cases e1
 ·rw[qQe q] at e1 e2
  exact h j o a e1 e2
section
variable{K:Ki}{W:WX}{σ:St}{H:Hp}{Q:VK}
theorem Ad{own own1:List Nat}{tg tg1:MG}{fi fi1:Sl->Mem->R Wk}{ft ft1:Sl->Mem->R Bool}{fe:Sl->Mem->R OV}(hs:∀i∈tg.slots,i∈own)(hs1:∀i∈tg1.slots,i∈own1)
  (h:tF K W (λs m=>(fi s m).bind λw m=>(gj (turn2 own own1 tg ft fi1 tg1 ft1 fe s) w.watch w.items [] m).bind λys m=>.ok (.lst ys) m) σ H Q):tLc2 (tI K W fi) (gM K tg) (tT K W0 ft) (tI K W0 fi1) (gM K tg1) (tT K W0 ft1) (tE K W0 fe) own own1 σ H Q:=by
 obtain⟨g,s,m,rs,rl,p⟩:=h
 refine⟨g,s,m,rs,rl,(dJ.bind p).imp λJ H1 ⟨items,g1,m1,rs1,st1,wk,p1⟩ D hD=>?_⟩
 obtain⟨n,Gd,Y,w,hn,hG,hY⟩:=wk
 have rl1:=rl.st st1
 obtain⟨hDF,hDr⟩:=rs1.free hD
 obtain⟨rs2,st2⟩:=rs1.grow (o:=.lst []) hD
 obtain⟨T,eT⟩:∃T,T=turn2 own own1 tg ft fi1 tg1 ft1 fe s:=⟨_,rfl⟩
 rw[<- eT] at p1
 have okc:∀{xs acc:List MV}{m2:Mem},dJ K (WE W σ) g1 H1 ((gj T items.watch xs acc m2).bind λys m=>.ok (.lst ys) m) Q->OkW items.watch m2:=λ{xs acc m2} pq=>Ir λz=>by rw[z] at pq;exact pq
 refine Jk w (Pv:=λi H2=>∃g2 m2 acc ys,Rs K g2 m2 H2/\Stp g1 H1 g2 H2/\H2 D=some (.lst ys)/\RVs K g2 acc ys/\g2.F D=none/\(∀k,g2.r k≠some D)/\dJ K (WE W σ) g1 H1 ((gj T items.watch (items.items.drop i) acc m2).bind λys m=>.ok (.lst ys) m) Q)
  ⟨g1,m1,[],[],rs2,st2,upd_same,rfl,hDF,hDr,by simpa using p1⟩ (λi H2 _ ⟨g2,m2,acc,ys,r2,t2,_,_,_,_,pq⟩=>hG g2 m2 H2 r2 t2.fle (okc pq)) ?_ ?_
 ·rintro i x H2 H3 hi ⟨g2,m2,acc,ys,r2,t2,hDl,ra,hF2,hr2,pq⟩ hy
  have okw:=okc pq
  obtain⟨g3,it,r3,t3,e3,rx⟩:=hY i H2 x H3 g2 m2 hi hy r2 t2.fle okw
  have t13:=t2.trans t3
  have hitem:items.items.drop i=it::items.items.drop (i+1):=by
   obtain⟨hlt,e4⟩:=qQa.mp e3
   rw[List.drop_eq_getElem_cons hlt,e4]
  rw[hitem] at pq
  have ob3:=eQ (o:=.lst acc) ⟨ys,hDl,ra⟩ hF2 hr2 t3
  rw[rM,if_pos okw] at pq
  cases ea:bW tg it (gW s own) with
  | none =>
   have ec:T it acc m2=.stuck:=by rw[eT];unfold turn2;rw[ea]
   rw[ec] at pq;exact pq.elim
  | some s2 =>
   have ec:T it acc m2=(ft s2 m2).bind λk m=>if k=true then (fi1 s2 m).bind λw m=>cD (bA own1 tg1 ft1 fe s2) w.watch w.items acc m else .ok acc m:=by
    rw[eT]
    show (match bW tg it (gW s own) with
     | some s2=>(ft s2 m2).bind λk m=>if k=true then (fi1 s2 m).bind λw m=>cD (bA own1 tg1 ft1 fe s2) w.watch w.items acc m else .ok acc m
     | none=>.stuck)=_
    rw[ea]
   rw[ec] at pq
   have rl3:=((rl1.st t13).wipe own)
   have ow0:∀(i:Nat) o a,(gW s own)[i]? = some (some (SV.own o))->(wipe σ own)[i]? = some (some (V.ref a))->gK K g1 o H1 a/\g1.F a=none/\∀n,g1.r n≠some a:=λi o a e1 e2=>by
    obtain⟨b,e3,e4⟩:=(rl1.wipe own).own i o e1
    rw[e2] at e3;cases e3
    exact e4
   refine CV (I:=λs σ=>∀(i:Nat) o a,s[i]? = some (some (SV.own o))->σ[i]? = some (some (V.ref a))->gK K g1 o H1 a/\g1.F a=none/\∀n,g1.r n≠some a) (Oi (P:=λo a=>gK K g1 o H1 a/\g1.F a=none/\∀n,g1.r n≠some a)) r3 ea rx rl3 ow0 λvs rl4 ow=>⟨by rw[iV hs,jM],g3,s2,m2,r3,rl4,?_⟩
   cases et:ft s2 m2 with
   | stuck=>rw[et] at pq;exact pq.elim
   | exc c ks xs m'=>rw[et] at pq;exact pq.elim
   | ok k m4 =>
    rw[et] at pq
    intro g4 b H4 r4 t4 eb
    subst eb
    have ob4:=eQ ob3.1 ob3.2.1 ob3.2.2 t4
    cases k with
    | false =>
     obtain⟨⟨zs,hz,rz⟩,h6,h7⟩:=ob4
     exact iteF ⟨g4,m4,acc,zs,r4,t13.trans t4,hz,rz,h6,h7,pq⟩
    | true =>
     refine iteT ⟨g4,s2,m4,r4,rl4.st t4,?_⟩
     have ed:((R.ok true m4:R Bool).bind λk m=>if k=true then (fi1 s2 m).bind λw m=>cD (bA own1 tg1 ft1 fe s2) w.watch w.items acc m else .ok acc m)=(fi1 s2 m4).bind λw m=>cD (bA own1 tg1 ft1 fe s2) w.watch w.items acc m:=rfl
     rw[ed] at pq
     cases ei:fi1 s2 m4 with
     | stuck=>rw[ei] at pq;exact pq.elim
     | exc c ks xs m'=>rw[ei] at pq;exact pq.elim
     | ok w1 m5 =>
      rw[ei] at pq
      intro g5 J1 H5 r5 t5 wk1
      obtain⟨n1,Gd1,Y1,wl1,hn1,hG1,hY1⟩:=wk1
      obtain⟨⟨zs5,hz5,rz5⟩,hF5,hr5⟩:=eQ ob4.1 ob4.2.1 ob4.2.2 t5
      have t15:=(t13.trans t4).trans t5
      have rl5:=(rl4.st t4).st t5
      have pq:dJ K (WE W σ) g1 H1 ((RK (cD (bA own1 tg1 ft1 fe s2) w1.watch w1.items acc m5) λacc m=>gj T items.watch (items.items.drop (i+1)) acc m).bind λys m=>.ok (.lst ys) m) Q:=pq
      have okc1:∀{xs acc:List MV}{m2:Mem},dJ K (WE W σ) g1 H1 ((RK (cD (bA own1 tg1 ft1 fe s2) w1.watch xs acc m2) λacc m=>gj T items.watch (items.items.drop (i+1)) acc m).bind λys m=>.ok (.lst ys) m) Q->OkW w1.watch m2:=λ{xs acc m2} pq=>qT λz=>by rw[z] at pq;exact pq
      refine Jk wl1 (Pv:=λj H6=>∃g6 m6 acc ys,Rs K g6 m6 H6/\Fle g5 g6/\Stp g1 H1 g6 H6/\H6 D=some (.lst ys)/\RVs K g6 acc ys/\g6.F D=none/\(∀k,g6.r k≠some D)/\dJ K (WE W σ) g1 H1 ((RK (cD (bA own1 tg1 ft1 fe s2) w1.watch (w1.items.drop j) acc m6) λacc m=>gj T items.watch (items.items.drop (i+1)) acc m).bind λys m=>.ok (.lst ys) m) Q)
       ⟨g5,m5,acc,zs5,r5,Fle.refl _,t15,hz5,rz5,hF5,hr5,by simpa using pq⟩ (λj H6 _ ⟨g6,m6,acc,ys,r6,f6,t6,_,_,_,_,pq⟩=>hG1 g6 m6 H6 r6 f6 (okc1 pq)) ?_ ?_
      ·rintro j x1 H6 H7 hj ⟨g6,m6,acc,ys,r6,f6,t6,hDl6,ra6,hF6,hr6,pq⟩ hy1
       have okw1:=okc1 pq
       obtain⟨g7,it1,r7,t7,e7,rx7⟩:=hY1 j H6 x1 H7 g6 m6 hj hy1 r6 f6 okw1
       have t57:=t6.trans t7
       have hitem1:w1.items.drop j=it1::w1.items.drop (j+1):=by
        obtain⟨hlt,e4⟩:=qQa.mp e7
        rw[List.drop_eq_getElem_cons hlt,e4]
       rw[hitem1,fG,if_pos okw1] at pq
       have ob7:=eQ (o:=.lst acc) ⟨ys,hDl6,ra6⟩ hF6 hr6 t7
       cases ea1:bW tg1 it1 (gW s2 own1) with
       | none =>
        have ec1:bA own1 tg1 ft1 fe s2 it1 m6=.stuck:=by unfold bA;rw[ea1]
        rw[ec1] at pq;exact pq.elim
       | some s3 =>
        have ec1:bA own1 tg1 ft1 fe s2 it1 m6=(ft1 s3 m6).bind λk m=>if k=true then (fe s3 m).bind λy m=>(match qu y with
         | some y=>.ok (some y) m
         | none=>.stuck) else .ok none m:=by
         show (match bW tg1 it1 (gW s2 own1) with
          | some s2=>(ft1 s2 m6).bind λk m=>if k=true then (fe s2 m).bind λy m=>(match qu y with
           | some y=>.ok (some y) m
           | none=>.stuck) else .ok none m
          | none=>.stuck)=_
         rw[ea1]
        have rl57:RSl K g7 s2 (wX (wipe σ own) tg.slots vs) H7:=by
         refine⟨λi x e=>let ⟨v,e1,e2⟩:=rl5.val i x e;⟨v,e1,e2.fle (f6.trans t7.fle)⟩,λi o e=>?_,rl5.dis,rl5.len⟩
         obtain⟨a,e1,_⟩:=rl5.own i o e
         obtain⟨o1,o2,o3⟩:=ow i o a e e1
         exact⟨a,e1,eQ o1 o2 o3 t57⟩
        have rl7:=rl57.wipe own1
        refine CV (I:=λ_ _=>True) (λ_ _ _ _ _ _=>trivial) r7 ea1 rx7 rl7 trivial λvs1 rl8 _=>⟨by rw[iV hs1,jM],g7,s3,m6,r7,rl8,?_⟩
        cases et1:ft1 s3 m6 with
        | stuck=>rw[ec1,et1] at pq;exact pq.elim
        | exc c ks xs m'=>rw[ec1,et1] at pq;exact pq.elim
        | ok k m8 =>
         rw[ec1,et1] at pq
         intro g8 b H8 r8 t8 eb
         subst eb
         have ob8:=eQ ob7.1 ob7.2.1 ob7.2.2 t8
         cases k with
         | false =>
          obtain⟨⟨zs,hz,rz⟩,h6,h7⟩:=ob8
          exact iteF ⟨g8,m8,acc,zs,r8,(f6.trans t7.fle).trans t8.fle,t57.trans t8,hz,rz,h6,h7,pq⟩
         | true =>
          refine iteT ⟨g8,s3,m8,r8,rl8.st t8,?_⟩
          have ed1:((R.ok true m8:R Bool).bind λk m=>if k=true then (fe s3 m).bind λy m=>(match qu y with
           | some y=>.ok (some y) m
           | none=>.stuck) else .ok none m)=(fe s3 m8).bind λy m=>(match qu y with
           | some y=>.ok (some y) m
           | none=>.stuck):=rfl
          rw[ed1] at pq
          cases ee:fe s3 m8 with
          | stuck=>rw[ee] at pq;exact pq.elim
          | exc c ks xs m'=>rw[ee] at pq;exact pq.elim
          | ok y m9 =>
           rw[ee] at pq
           intro g9 yv H9 r9 t9 ry
           obtain⟨⟨zs,hz,rz⟩,h6,h7⟩:=eQ ob8.1 ob8.2.1 ob8.2.2 t9
           cases y with
           | b o=>exact pq.elim
           | v y =>
            have pq:dJ K (WE W σ) g1 H1 ((RK (if acc.length<sizeLine then cD (bA own1 tg1 ft1 fe s2) w1.watch (w1.items.drop (j+1)) (acc++[y]) m9 else .stuck) λacc m=>gj T items.watch (items.items.drop (i+1)) acc m).bind λys m=>.ok (.lst ys) m) Q:=pq
            by_cases hl:acc.length<sizeLine
            ·rw[if_pos hl] at pq
             exact⟨zs,hz,by rw[<- rz.length];exact hl,g9,m9,acc++[y],zs++[yv],r9.own h6 h7 hz (λps z=>by cases z),((f6.trans t7.fle).trans t8.fle).trans t9.fle,((t57.trans t8).trans t9).own hD,upd_same,rz.append (.one ry),h6,h7,pq⟩
            ·rw[if_neg hl] at pq;exact pq.elim
      ·rintro H6 ⟨g6,m6,acc,ys,r6,f6,t6,hDl6,ra6,hF6,hr6,pq⟩
       have okw1:=okc1 pq
       rw[hn1,List.drop_length] at pq
       have e:cD (bA own1 tg1 ft1 fe s2) w1.watch [] acc m6=.ok acc m6:=by unfold cD;rw[if_pos okw1]
       rw[e] at pq
       exact⟨g6,m6,acc,ys,r6,t6,hDl6,ra6,hF6,hr6,pq⟩
 ·rintro H2 ⟨g2,m2,acc,ys,r2,t2,hDl,ra,hF2,hr2,pq⟩
  have okw:=okc pq
  rw[hn,List.drop_length] at pq
  have e:gj T items.watch [] acc m2=.ok acc m2:=by unfold gj;rw[if_pos okw]
  rw[e] at pq
  exact pq g2 D H2 r2 t2 hD hF2 hr2 ⟨ys,hDl,ra⟩
end
section
variable{X:Cx}{g:G}{m:Mem}{pins:List (Addr × Obj)}{σ:St}{H:Hp}{s:Shared}
mutual
theorem Rj(I:Inv X pins σ H s)(rs:Rs X.ki g m H):∀(x:MV) {v:V}{u:Value}{k:NestedKey},RV X.ki g x v->RelV v u->Qu x=some k->NestedIs s.heap k u
 | .non,_,_,_,r,q,e=>by cases r;cases q;cases e;exact .none
 | .bl b,_,_,_,r,q,e=>by cases r;cases q;cases e;exact .bool rfl
 | .int b,_,_,_,r,q,e=>by cases r;obtain⟨t,rfl⟩:=q;cases e;exact .int b t
 | .str b,_,_,_,r,q,e=>by cases r;obtain⟨t,rfl⟩:=q;cases e;exact .text b t
 | .tup xs,_,_,_,r,q,e=>by
  obtain⟨a,ys,rfl,h,t⟩:=r
  cases q
  obtain⟨ks,e1,rfl⟩:=qQi.mp (show (uW xs).map NestedKey.tup=some _ from e)
  obtain⟨its,rv,⟨o,ho,hc,k,hd⟩,_⟩:=I.tuple (SqT.ie rs.sub h)
  exact .tup ho hc hd (BW I rs xs t rv e1)
 | .lst _,_,_,_,_,_,e=>by cases e
 | .kl _,_,_,_,_,_,e=>by cases e
 | .ref _,_,_,_,_,_,e=>by cases e
 | .ins _ _ _,_,_,_,_,_,e=>by cases e
 | .exn _ _ _,_,_,_,_,_,e=>by cases e
 | .dic _ _,_,_,_,_,_,e=>by cases e
 | .kd _ _,_,_,_,_,_,e=>by cases e
 | .cls _,_,_,_,_,_,e=>by cases e
 | .dit _ _,_,_,_,_,_,e=>by cases e
theorem BW(I:Inv X pins σ H s)(rs:Rs X.ki g m H):∀(xs:List MV) {vs:List V}{us:List Value}{ks:List NestedKey},RVs X.ki g xs vs->Vals vs us->uW xs=some ks->NestedAll s.heap ks us
 | [],_,_,_,r,q,e=>by cases (show _=[] from r);cases q;cases e;exact .nil
 | x::xs,_,_,_,⟨v,r,e0,h,t⟩,q,e=>by
  subst e0
  obtain⟨k,e1,e2⟩:=Option.bind_eq_some_iff.mp (show ((Qu x).bind λk=>(uW xs).map (k::·))=some _ from e)
  obtain⟨ks,e3,rfl⟩:=qQi.mp e2
  cases q with
  | cons q1 q2=>exact .cons (Rj I rs x h q1 e1) (BW I rs xs t q2 e3)
end
end
section
variable{X:Cx}{g:G}{m:Mem}{pins:List (Addr × Obj)}{σ:St}{H:Hp}{s:Shared}
end
section
variable{X:Cx}{g:G}{m:Mem}{pins:List (Addr × Obj)}{σ:St}{H:Hp}{s:Shared}
end
section
variable{X:Cx}
end
section
variable{K:Ki}{g:G}
end
section
variable{P:Program}{w:World}{A:Around}{E:Value->Shared->Prop}{s:Shared}
end
section
variable{X:Cx}
end
def Wc:List MV->Option (List Int)
 | []=>some []
 | .int i::r=>(Wc r).map (i::·)
 | _=>none
def aaX:MV->Option (List Int)
 | .tup xs=>Wc xs
 | _=>none
def aaY(acc:List (List Int))(c:List Int):List (List Int):=if c∈acc then acc else acc++[c]
open Classical in
def ym(f:MV->Mem->R (Option MV))(wt:List (Nat × MO)):List MV->List (List Int)->Mem->R (List (List Int))
 | [],acc,m=>if OkW wt m then .ok acc m else .stuck
 | x::xs,acc,m=>if OkW wt m then (match f x m with
  | .ok (some y) m=>(match aaX y with
   | some c=>if acc.length+1<64 then ym f wt xs (aaY acc c) m else .stuck
   | none=>.stuck)
  | .ok none m=>ym f wt xs acc m
  | _=>.stuck) else .stuck
open Classical in
theorem Py{f:MV->Mem->R (Option MV)}{wt:List (Nat × MO)}{x:MV}{xs:List MV}{acc:List (List Int)}{m:Mem}:ym f wt (x::xs) acc m=if OkW wt m then (match f x m with
  | .ok (some y) m=>(match aaX y with
   | some c=>if acc.length+1<64 then ym f wt xs (aaY acc c) m else .stuck
   | none=>.stuck)
  | .ok none m=>ym f wt xs acc m
  | _=>.stuck) else .stuck:=rfl
section
variable{K:PySem.W.Frag}{J:It}{n:Nat}{G:Hp->Prop}{Y:Nat->Hp->V->Hp->Prop}
end
section
variable{K:Ki}{σ:St}{H:Hp}{Q:VK}{W:WX}
end
mutual
inductive ME where
 | slot (i:Nat)
 | pr (p:o9) (es:MEs)
 | cmp (p:iZ) (a b:ME)
 | chain (p q:iZ) (a b c:ME)
 | andV (a b:ME)
 | orV (a b:ME)
 | notV (a:ME)
 | ite (t:MT) (a b:ME)
 | fr (f:MF)
 | nw (f:MF)
 | sl (a b c:ME)
 | bm (p:Ib) (o:ME) (es:MEs)
 | pa (p:Vb) (as:MAs)
 | tryL (p:Ug) (e:ME)
 | tryLs (p:Oa) (es:MEs)
inductive MAs where
 | nil
 | cons (b:Bool) (e:ME) (as:MAs)
inductive MEs where
 | nil
 | cons (e:ME) (es:MEs)
inductive MT where
 | val (e:ME)
 | cmp (p:iZ) (a b:ME)
 | chain (p q:iZ) (a b c:ME)
 | and (a b:MT)
 | or (a b:MT)
 | not (a:MT)
inductive MF where
 | pr (p:KC) (es:MEs)
 | pa (p:HY) (as:MAs)
 | comp (own:List Nat) (tg:MG) (it:MI) (ifs:MTs) (e:ME)
 | dcomp (own:List Nat) (tg:MG) (it:MI) (ifs:MTs) (k v:ME)
 | compG (own:List Nat) (tg:MG) (p:VH) (o:ME) (ifs:MTs) (e:ME)
 | comp2 (own own1:List Nat) (tg:MG) (it:MI) (ifs:MTs) (tg1:MG) (it1:MI) (ifs1:MTs) (e:ME)
inductive MI where
 | pr (p:Ij) (es:MEs)
inductive MTs where
 | nil
 | one (t:MT)
end
def abQ(m:Mem):OV->Option Bool
 | .v .non=>some false
 | .v (.bl b)=>some b
 | .v (.int i)=>some (i != 0)
 | .v (.str x)=>if x.length<=sizeLine then some ((x.length:Int) != 0) else none
 | x=>match pF m x with
  | some (.l xs)=>some (!xs.isEmpty)
  | some (.t xs)=>some (!xs.isEmpty)
  | _=>none
def ug(x:OV)(m:Mem):R Bool:=match abQ m x with
 | some b=>.ok b m
 | none=>.stuck
def slotR(o:Option (Option SV))(m:Mem):R OV:=match o with
 | some (some (.v x))=>.ok (.v x) m
 | some (some (.own o))=>.ok (.b o) m
 | _=>.stuck
mutual
def ev:ME->Sl->Mem->R OV
 | .slot i,s,m=>slotR s[i]? m
 | .pr p es,s,m=>(evs es s m).bind p.F
 | .cmp p a b,s,m=>(ev a s m).bind λx m=>(ev b s m).bind λy m=>p.F x y m
 | .chain p q a b c,s,m=>(ev a s m).bind λx m=>(ev b s m).bind λy m=>(p.F x y m).bind λz m=>(wZ z m).bind λk m =>
   if k=true then (ev c s m).bind λw m=>q.F y w m else .ok (.v (.bl false)) m
 | .andV a b,s,m=>(ev a s m).bind λx m=>(ug x m).bind λk m=>if k=true then ev b s m else .ok x m
 | .orV a b,s,m=>(ev a s m).bind λx m=>(ug x m).bind λk m=>if k=true then .ok x m else ev b s m
 | .notV a,s,m=>(ev a s m).bind λx m=>(ug x m).bind λk m=>.ok (.v (.bl (!k))) m
 | .ite t a b,s,m=>(evT t s m).bind λk m=>if k=true then ev a s m else ev b s m
 | .fr f,s,m=>(evF f s m).bind λo m=>.ok (.v (frz o)) m
 | .nw f,s,m=>XF (evF f s m)
 | .sl a b c,s,m=>(ev a s m).bind λx m=>(ev b s m).bind λy m=>match Jz y with
  | some k=>(ev c s m).bind λz m=>Wo x k z m
  | none=>.stuck
 | .bm p o es,s,m=>(ev o s m).bind λx m=>match p.F x m with
  | some f=>(evs es s m).bind f
  | none=>.stuck
 | .pa p as,s,m=>(Kc as s m).bind p.F
 | .tryL p e,s,m=>p.F (ev e s m)
 | .tryLs p es,s,m=>p.F ((evL es).map λf=>f s) m
def evL:MEs->List (Sl->Mem->R OV)
 | .nil=>[]
 | .cons e es=>ev e::evL es
def Kc:MAs->Sl->Mem->R (List OV)
 | .nil,_,m=>.ok [] m
 | .cons b e as,s,m=>(ev e s m).bind λx m=>match sY b x with
  | some zs=>(Kc as s m).bind λxs m=>.ok (zs++xs) m
  | none=>.stuck
def evs:MEs->Sl->Mem->R (List OV)
 | .nil,_,m=>.ok [] m
 | .cons e es,s,m=>(ev e s m).bind λx m=>(evs es s m).bind λxs m=>.ok (x::xs) m
def evT:MT->Sl->Mem->R Bool
 | .val e,s,m=>(ev e s m).bind ug
 | .cmp p a b,s,m=>(ev a s m).bind λx m=>(ev b s m).bind λy m=>(p.F x y m).bind λz m=>wZ z m
 | .chain p q a b c,s,m=>(ev a s m).bind λx m=>(ev b s m).bind λy m=>(p.F x y m).bind λz m=>(wZ z m).bind λk m =>
   if k=true then (ev c s m).bind λw m=>(q.F y w m).bind λz m=>wZ z m else .ok false m
 | .and a b,s,m=>(evT a s m).bind λk m=>if k=true then evT b s m else .ok false m
 | .or a b,s,m=>(evT a s m).bind λk m=>if k=true then .ok true m else evT b s m
 | .not a,s,m=>(evT a s m).bind λk m=>.ok (!k) m
def evF:MF->Sl->Mem->R MO
 | .pr p es,s,m=>(evs es s m).bind p.F
 | .pa p as,s,m=>(Kc as s m).bind p.F
 | .comp own tg it ifs e,s,m=>(evI it s m).bind λw m=>(cD (bA own tg (tX ifs) (ev e) s) w.watch w.items [] m).bind λys m=>.ok (.lst ys) m
 | .dcomp own tg it ifs k v,s,m=>(evI it s m).bind λw m=>(fX (cV own tg (tX ifs) (ev k) (ev v) s) w.watch w.items [] [] m).bind λp m=>.ok (.dic p.1 p.2) m
 | .compG own tg p o ifs e,s,m=>((ev o s m).bind λx m=>Zi (p.F x m) m).bind λL m=>(cD (bA own tg (tX ifs) (ev e) s) [] L [] m).bind λys m=>.ok (.lst ys) m
 | .comp2 own own1 tg it ifs tg1 it1 ifs1 e,s,m=>(evI it s m).bind λw m=>(gj (turn2 own own1 tg (tX ifs) (evI it1) tg1 (tX ifs1) (ev e) s) w.watch w.items [] m).bind λys m=>.ok (.lst ys) m
def evI:MI->Sl->Mem->R Wk
 | .pr p es,s,m=>(evs es s m).bind p.F
def tX:MTs->Sl->Mem->R Bool
 | .nil,_,m=>.ok true m
 | .one t,s,m=>evT t s m
end
mutual
def ME.needs:ME->List dI
 | .slot _=>[]
 | .pr p es=>p.need++es.needs
 | .cmp p a b=>p.need++(a.needs++b.needs)
 | .chain p q a b c=>p.need++(q.need++(a.needs++(b.needs++c.needs)))
 | .andV a b=>a.needs++b.needs
 | .orV a b=>a.needs++b.needs
 | .notV a=>a.needs
 | .ite t a b=>t.needs++(a.needs++b.needs)
 | .fr f=>f.needs
 | .nw f=>f.needs
 | .sl a b c=>a.needs++(b.needs++c.needs)
 | .bm p o es=>p.need++(o.needs++es.needs)
 | .pa p as=>p.need++as.needs
 | .tryL p e=>aeX::(p.need++e.needs.map aee)
 | .tryLs p es=>Mj::(p.need++es.needs.map aaj)
def MAs.needs:MAs->List dI
 | .nil=>[]
 | .cons _ e as=>e.needs++as.needs
def MEs.needs:MEs->List dI
 | .nil=>[]
 | .cons e es=>e.needs++es.needs
def MT.needs:MT->List dI
 | .val e=>e.needs
 | .cmp p a b=>p.need++(a.needs++b.needs)
 | .chain p q a b c=>p.need++(q.need++(a.needs++(b.needs++c.needs)))
 | .and a b=>a.needs++b.needs
 | .or a b=>a.needs++b.needs
 | .not a=>a.needs
def MF.needs:MF->List dI
 | .pr p es=>p.need++es.needs
 | .pa p as=>p.need++as.needs
 | .comp _ _ it ifs e=>it.needs++(ifs.needs++e.needs)
 | .dcomp _ _ it ifs k v=>it.needs++(ifs.needs++(k.needs++v.needs))
 | .compG _ _ p o ifs e=>p.need++(o.needs++(ifs.needs++e.needs))
 | .comp2 _ _ _ it ifs _ it1 ifs1 e=>it.needs++(ifs.needs++(it1.needs++(ifs1.needs++e.needs)))
def MI.needs:MI->List dI
 | .pr p es=>p.need++es.needs
def MTs.needs:MTs->List dI
 | .nil=>[]
 | .one t=>t.needs
end
def aa4(sc:Scope)(x:Str):Bool:=match sc.names.lookup x with
 | some .local=>true
 | some .cell=>true
 | some .free=>true
 | _=>false
def Ax(sc:Scope)(x:Str):Bool:=match sc.names.lookup x with
 | some .local=>true
 | _=>false
def Ei(sc:Scope)(x:Str):Bool:=match sc.names.lookup x with
 | some .cell=>true
 | _=>false
def abv(sc:Scope)(x:Str):Bool:=match sc.names.lookup x with
 | some .globalImplicit=>true
 | _=>false
def vL(x:Str):Bool:=!(x == ("__debug__":Str))&&!(x == ("__classdict__":Str))&&decide (x≠("__name__":Str))
def slB(c:Cfg)(i:Nat)(x:Str):Bool:=decide (c.N[i]? = some x)&&vL x&&aa4 c.sc x
def gbB(c:Cfg)(x:Str):Bool:=vL x&&abv c.sc x
def btB(c:Cfg)(x:Str):Bool:=gbB c x&&decide (x∈c.gA)
def tgB(c:Cfg)(i:Nat)(x:Str):Bool:=decide (c.N[i]? = some x)&&(Ax c.sc x || (c.top&&Ei c.sc x))
def rY:Expr->Bool
 | .Slice ..=>false
 | _=>true
def plainT:Expr->Bool
 | .UnaryOp .Not _ _=>false
 | .BoolOp ..=>false
 | .IfExp ..=>false
 | .Compare ..=>false
 | _=>true
def mGs(c:Cfg):List Nat->List Expr->Bool
 | [],[]=>true
 | i::is,.Name x _::es=>tgB c i x&&mGs c is es
 | _,_=>false
def mG(c:Cfg):MG->Expr->Bool
 | .name i,.Name x _=>tgB c i x
 | .tup is,.Tuple es _ _=>mGs c is es
 | _,_=>false
def mGb(c:Cfg)(scope:Scope)(tg:MG)(e:Expr):Bool:=mG (c.blk scope) tg e || (match tg,e with
 | .name i,.Name x _=>decide (c.N[i]? = some x)&&Ei scope x
 | _,_=>false)
def tV(c:Cfg)(own:List Nat):List (Str × Nat):=own.map λi=>(c.N.getD i ⟨#[]⟩,i)
def qw:Expr->Bool
 | .Set ..=>false
 | _=>true
mutual
def mE:ME->Cfg->Expr->Bool
 | .slot i,c,e=>(match e with
  | .Name x _=>slB c i x
  | _=>false)
 | .pr p es,c,e=>(match p.parts c e with
  | some xs=>mEs es c xs
  | none=>false)
 | .cmp p a b,c,e=>(match e with
  | .Compare l [o] [r] _=>p.op o&&!behindInMarks o r&&mE a c l&&mE b c r
  | _=>false)
 | .chain p q a b d,c,e=>(match e with
  | .Compare l [o,o'] [r,r'] _=>p.op o&&q.op o'&&!lastMarks [o,o'] [r,r']&&mE a c l&&mE b c r&&mE d c r'
  | _=>false)
 | .andV a b,c,e=>(match e with
  | .BoolOp .And (x::y::rest) p=>mE a c x&&(match rest with
   | []=>mE b c y
   | z::rest=>mE b c (.BoolOp .And (y::z::rest) p))
  | _=>false)
 | .orV a b,c,e=>(match e with
  | .BoolOp .Or (x::y::rest) p=>mE a c x&&(match rest with
   | []=>mE b c y
   | z::rest=>mE b c (.BoolOp .Or (y::z::rest) p))
  | _=>false)
 | .notV a,c,e=>(match e with
  | .UnaryOp .Not l _=>mE a c l
  | _=>false)
 | .ite t a b,c,e=>(match e with
  | .IfExp u x y _=>mT t c u&&mE a c x&&mE b c y
  | _=>false)
 | .fr f,c,e=>mF f c e
 | .nw f,c,e=>mF f c e
 | .sl a b d,c,e=>(match e with
  | .Subscript x (.Slice (some l) (some h) none _) _=>mE a c x&&mE b c l&&mE d c h
  | _=>false)
 | .bm p o es,c,e=>(match p.parts c e with
  | some (x,xs)=>mE o c x&&mEs es c xs
  | none=>false)
 | .pa p as,c,e=>(match p.parts c e with
  | some xs=>mAs as c xs
  | none=>false)
 | .tryL p a,c,e=>(match p.parts c e with
  | some (sc,b)=>mE a (c.U5 sc) b
  | none=>false)
 | .tryLs p es,c,e=>(match p.parts c e with
  | some l=>mLs es c l
  | none=>false)
def mLs:MEs->Cfg->List (Scope × Expr)->Bool
 | .nil,_,[]=>true
 | .cons e es,c,(sc,b)::l=>mE e (c.U5 sc) b&&mLs es c l
 | _,_,_=>false
def mAs:MAs->Cfg->List Expr->Bool
 | .nil,_,[]=>true
 | .cons true e as,c,.Starred x _::xs=>mE e c x&&mAs as c xs
 | .cons false e as,c,x::xs=>cR x&&(mE e c x&&mAs as c xs)
 | _,_,_=>false
def mEs:MEs->Cfg->List Expr->Bool
 | .nil,_,[]=>true
 | .cons e es,c,x::xs=>mE e c x&&mEs es c xs
 | _,_,_=>false
def mT:MT->Cfg->Expr->Bool
 | .val e,c,x=>plainT x&&mE e c x
 | .cmp p a b,c,e=>(match e with
  | .Compare l [o] [r] _=>p.op o&&!behindInMarks o r&&mE a c l&&mE b c r
  | _=>false)
 | .chain p q a b d,c,e=>(match e with
  | .Compare l [o,o'] [r,r'] _=>p.op o&&q.op o'&&!lastMarks [o,o'] [r,r']&&mE a c l&&mE b c r&&mE d c r'
  | _=>false)
 | .and a b,c,e=>(match e with
  | .BoolOp .And (x::y::rest) p=>mT a c x&&(match rest with
   | []=>mT b c y
   | z::rest=>mT b c (.BoolOp .And (y::z::rest) p))
  | _=>false)
 | .or a b,c,e=>(match e with
  | .BoolOp .Or (x::y::rest) p=>mT a c x&&(match rest with
   | []=>mT b c y
   | z::rest=>mT b c (.BoolOp .Or (y::z::rest) p))
  | _=>false)
 | .not a,c,e=>(match e with
  | .UnaryOp .Not l _=>mT a c l
  | _=>false)
def mF:MF->Cfg->Expr->Bool
 | .pr p es,c,e=>(match p.parts c e with
  | some xs=>mEs es c xs
  | none=>false)
 | .pa p as,c,e=>(match p.parts c e with
  | some xs=>mAs as c xs
  | none=>false)
 | .comp own tg it ifs e,c,ex=>(match ex with
  | .ListComp elt [⟨t,iter,is,0⟩] scope _=>c.calm&&blkC c.N c.sc scope (tV c own)&&(tg.slots.all λi=>decide (i∈own))&&qw iter&&mI it c t iter&&mGb c scope tg t&&mTs ifs (c.blk scope) is&&mE e (c.blk scope) elt
  | _=>false)
 | .dcomp own tg it ifs k v,c,ex=>(match ex with
  | .DictComp kx vx [⟨t,iter,is,0⟩] scope _=>c.calm&&blkC c.N c.sc scope (tV c own)&&(tg.slots.all λi=>decide (i∈own))&&qw iter&&mI it c t iter&&mGb c scope tg t&&mTs ifs (c.blk scope) is&&mE k (c.blk scope) kx&&mE v (c.blk scope) vx
  | _=>false)
 | .compG own tg p o ifs e,c,ex=>(match ex with
  | .ListComp elt [⟨t,iter,is,0⟩] scope _=>c.calm&&blkC c.N c.sc scope (tV c own)&&(tg.slots.all λi=>decide (i∈own))&&qw iter&&Hl scope&&(match p.parts c iter with
   | some x=>mE o c x
   | none=>false)&&mGb c scope tg t&&mTs ifs (c.blk scope) is&&mE e (c.blk scope) elt
  | _=>false)
 | .comp2 own own1 tg it ifs tg1 it1 ifs1 e,c,ex=>(match ex with
  | .ListComp elt [⟨t,iter,is,0⟩,⟨t1,iter1,is1,0⟩] scope _=>c.calm&&blkC c.N c.sc scope (tV c own)&&(tg.slots.all λi=>decide (i∈own))&&(tg1.slots.all λi=>decide (i∈own1))&&(own1.all λi=>decide (i∈own))&&qw iter&&qw iter1&&mI it c t iter&&mGb c scope tg t&&mTs ifs (c.blk scope) is&&mI it1 (c.blk scope) t1 iter1&&mGb c scope tg1 t1&&mTs ifs1 (c.blk scope) is1&&mE e (c.blk scope) elt
  | _=>false)
def mI:MI->Cfg->Expr->Expr->Bool
 | .pr p es,c,t,e=>(match p.parts c t e with
  | some xs=>mEs es c xs
  | none=>false)
def mTs:MTs->Cfg->List Expr->Bool
 | .nil,_,[]=>true
 | .one t,c,[x]=>mT t c x
 | _,_,_=>false
end
section
variable{env:Env}{e:Expr}{es:List Expr}{pos:Pos}
theorem Oj(h:plainT e=true)(whole:Sem Value):isTrue e env whole=(do let v <- whole;standAt e.pos;holding [v] (truthy v)):=by
 cases e with
 | UnaryOp op x p=>cases op <;> first|rfl|cases h
 | BoolOp _ _ _=>cases h
 | IfExp _ _ _ _=>cases h
 | Compare _ _ _ _=>cases h
 | _=>rfl
theorem Bo(h:rY e=true):PlainIx e:=by
 intro o i
 cases e <;> first|rfl|cases h
theorem qJ(h:qw e=true)(x:Value):foldedSetIterable e env x=pure x:=by
 cases e <;> first|rfl|cases h
theorem IW{x:Str}{p:Pos}:assignEach (.Name x p::es) env=(false,assign (.Name x p) env)::assignEach es env:=rfl
end
theorem sO{X:Cx}:L2N.Takes X W0:=λ_ _ x=>by
 obtain⟨_,_,_,_,_,_,_,_,_,_,_,_,_,_,_,_,z⟩:=x
 exact z.elim
section
variable{k:Nat}{W:WX}{c:Cfg}{X:Cx}(ok:bV k W c X)
include ok
theorem bV.slot{i:Nat}{x:Str}{p:Pos}(h:slB c i x=true):PE X (.Name x p) (tVar i):=by
 unfold slB vL at h
 simp only[qQb,Bool.not_eq_true',qQs] at h
 obtain⟨⟨h1,⟨h2,h3⟩,h4⟩,h5⟩:=h
 refine pe_var (by rw[ok.N];exact h1) ?_ h2 h3
 unfold aa4 at h5
 unfold Vis
 rw[ok.sc]
 split at h5 <;> first|(simp_all;done)|cases h5
theorem bV.gl{x:Str}(h:gbB c x=true):Gl X x/\(x == ("__debug__":Str))=false/\x≠("__name__":Str):=by
 unfold gbB vL at h
 simp only[qQb,Bool.not_eq_true',qQs] at h
 obtain⟨⟨⟨h2,h3⟩,h4⟩,h5⟩:=h
 refine⟨?_,h2,h4⟩
 unfold abv at h5
 unfold Gl Env.kindOf
 rw[ok.sc]
 split at h5
 ·assumption
 ·cases h5
theorem bV.bt{x:Str}(h:btB c x=true):Gl X x/\X.mg x=none/\(x == ("__debug__":Str))=false/\x≠("__name__":Str):=by
 unfold btB at h
 rw[qQb] at h
 obtain⟨h1,h2,h3⟩:=ok.gl h.1
 exact⟨h1,ok.blt x (qQ4 h.2),h2,h3⟩
theorem bV.tg{i:Nat}{x:Str}(h:tgB c i x=true):X.N[i]? = some x/\Loc X.env.scope x/\(X.fn x=true\/X.env.scope.names.lookup x=some .local):=by
 unfold tgB at h
 simp only[qQb,Bool.or_eq_true,qQs] at h
 obtain⟨h1,h2⟩:=h
 refine⟨by rw[ok.N];exact h1,?_⟩
 rw[ok.sc]
 rcases h2 with h2|⟨h2,h3⟩
 ·unfold Ax at h2
  split at h2
  ·rename_i e
   exact⟨.inl e,.inr e⟩
  ·cases h2
 ·unfold Ei at h3
  split at h3
  ·rename_i e
   exact⟨.inr e,.inl (ok.top h2 x (by rw[ok.sc];exact e))⟩
  ·cases h3
theorem bV.mgs:∀{is:List Nat}{es:List Expr},mGs c is es=true->PGs X es (Ag is)/\(assignEach es X.env).length=is.length/\(assignEach es X.env).findIdx? (·.1)=none
 | [],[],_=>⟨pgs_nil,rfl,rfl⟩
 | i::is,e::es,h=>by
  cases e with
  | Name x p =>
   have h:(tgB c i x&&mGs c is es)=true:=h
   rw[qQb] at h
   obtain⟨h1,h2,h3⟩:=ok.tg h.1
   obtain⟨g1,g2,g3⟩:=bV.mgs h.2
   refine⟨pgs_cons (pg_name ok.nd h1 h2 h3) g1 rfl,by rw[IW];simp[g2],?_⟩
   rw[IW,List.findIdx?_cons,g3]
   rfl
  | _=>cases h
 | [],_::_,h=>by cases h
 | _::_,[],h=>by cases h
theorem bV.mg{tg:MG}{e:Expr}(hc:X.calm=true)(h:mG c tg e=true):PG X e (gM X.ki tg):=by
 unfold mG at h
 split at h
 ·obtain⟨h1,h2,h3⟩:=ok.tg h
  exact pg_name ok.nd h1 h2 h3
 ·obtain⟨g1,g2,g3⟩:=ok.mgs h
  exact Ue hc g1 g2 g3
 ·cases h
theorem bV.blk{s:Shared}{H:Hp}{scope:Scope}{C:Addr}{cl:List (Str × Addr)}{fp:List Addr}:bV k W0 (c.blk scope) (X.blk s H scope (compEnvC scope cl C X.env) fp) where
 sc:=by show relS scope X.env.scope=_;rw[ok.sc];rfl
 N:=ok.N
 nd:=ok.nd
 calm:=ok.calm
 blt:=ok.blt
 cst:=ok.cst
 room:=ok.room
 un:=ok.un
 lam:=λh=>ok.lam h
 top:=λh=>by cases h
 wish:=λh=>by cases h
 stk:=λh=>by cases h
 tk:=sO
theorem Hv{scope sc:Scope}{x:Str}(h:scope.names.lookup x=some .cell):(relS scope sc).names.lookup x=some .cell:=by
 unfold relS
 dsimp only
 revert h
 generalize scope.names=l
 intro h
 induction l with
 | nil=>cases h
 | cons p l ih =>
  obtain⟨n,k⟩:=p
  rw[qQ3] at h
  rw[qQp]
  by_cases e:(x == n)=true
  ·rw[e] at h
   cases h
   rw[if_neg (by simp),qQ3,e]
  ·have e:(x == n)=false:=by simpa using e
   rw[e] at h
   have:∀q:NameKind,List.lookup x ((n,q)::l.map λ(n,k)=>if (k == .free&&sc.kind == .function&&sc.names.lookup n == some .cell)=true then (n,.cell) else (n,k))=some .cell:=λq=>by
    rw[qQ3,e]
    exact ih h
   split
   ·exact this _
   ·exact this _
theorem bV.mgb{s:Shared}{H:Hp}{scope:Scope}{C:Addr}{cl:List (Str × Addr)}{fp:List Addr}{tg:MG}{e:Expr}(hc:(X.blk s H scope (compEnvC scope cl C X.env) fp).calm=true)(h:mGb c scope tg e=true):PG (X.blk s H scope (compEnvC scope cl C X.env) fp) e (gM X.ki tg):=by
 unfold mGb at h
 rw[Bool.or_eq_true] at h
 rcases h with h|h
 ·exact ok.blk.mg hc h
 ·split at h
  ·rw[qQb,qQs] at h
   obtain⟨h1,h2⟩:=h
   unfold Ei at h2
   split at h2
   ·rename_i e
    exact pg_name (X:=X.blk s H scope (compEnvC scope cl C X.env) fp) ok.nd (by rw[<- ok.N] at h1;exact h1) (.inr (Hv ok e)) (.inl (by
     show (scope.names.lookup _ == some .cell)=true
     rw[e];rfl))
   ·cases h2
  ·cases h
end
section
variable{K:Ki}{W:WX}{σ:St}{H:Hp}{Q:VK}{g:G}
theorem Tf{i:Nat}(h:tE K W (ev (.slot i)) σ H Q):tVar i σ H Q:=by
 obtain⟨g,s,m,rs,rl,p⟩:=h
 have p:eZ K (WE W σ) g H (slotR s[i]? m) Q:=p
 unfold slotR at p
 split at p
 ·rename_i x e
  obtain⟨v,e1,r⟩:=rl.val i x e
  exact⟨v,e1,p g v H rs (Stp.refl _ _) r⟩
 ·rename_i o e
  obtain⟨a,e1,ob,hF,hr⟩:=rl.own i o e
  exact⟨_,e1,p g _ H rs (Stp.refl _ _) ⟨a,rfl,ob,hF,hr⟩⟩
 ·exact p.elim
theorem vK{E:XK}{γ δ:Type}{Rel2:G->Hp->γ->δ->Prop}{x:OV}{m:Mem}{v:V}{k:Bool->Mem->R γ}{Q:δ->Hp->Prop}(rs:Rs K g m H)(r:RO K g H x v)(p:dG K E Rel2 g H ((ug x m).bind k) Q):∃b,TruV K v H b/\dG K E Rel2 g H (k b m) Q:=by
 unfold ug at p
 split at p
 ·rename_i b e
  refine⟨b,?_,p⟩
  have go:∀{y:OV},RO K g H y v->(match pF m y with
   | some (.l xs)=>some (!xs.isEmpty)
   | some (.t xs)=>some (!xs.isEmpty)
   | _=>none)=some b->TruV K v H b:=λ{y} ry e=>by
   split at e
   ·rename_i xs e2
    cases e
    obtain⟨a,ys,rfl,q,r⟩:=cY rs ry e2
    refine .inl ⟨ys,q,?_⟩
    cases xs with
    | nil=>cases (show ys=[] from r);rfl
    | cons x xs=>obtain⟨_,_,rfl,_⟩:=r;rfl
   ·rename_i xs e2
    cases e
    obtain⟨a,ys,rfl,q,r⟩:=cY rs ry e2
    refine .inr (.inl ⟨ys,q,?_⟩)
    cases xs with
    | nil=>cases (show ys=[] from r);rfl
    | cons x xs=>obtain⟨_,_,rfl,_⟩:=r;rfl
   ·cases e
  unfold abQ at e
  split at e
  ·cases r;cases e;rfl
  ·cases r;cases e;rfl
  ·cases r;cases e;rfl
  ·cases r
   split at e
   ·cases e;exact⟨by assumption,rfl⟩
   ·cases e
  ·exact go r e
 ·exact p.elim
theorem Gf{fa fb:Sl->Mem->R OV}(h:tE K W (λs m=>(fa s m).bind λx m=>(ug x m).bind λk m=>if k=true then fb s m else .ok x m) σ H Q):tAndT K (tE K W fa) (tE K W fb) σ H Q:=by
 obtain⟨g,s,m,rs,rl,p⟩:=h
 refine⟨g,s,m,rs,rl,(dG.bind p).imp λv H1 ⟨x,g1,m1,rs1,st1,r1,p1⟩=>?_⟩
 obtain⟨k,e,p2⟩:=vK rs1 r1 p1
 refine⟨k,e,?_⟩
 cases k with
 | false=>exact iteF (p2 g1 v H1 rs1 (Stp.refl _ _) r1)
 | true=>exact iteT ⟨g1,s,m1,rs1,rl.st st1,p2⟩
theorem Nh{fa fb:Sl->Mem->R OV}(h:tE K W (λs m=>(fa s m).bind λx m=>(ug x m).bind λk m=>if k=true then .ok x m else fb s m) σ H Q):tOrT K (tE K W fa) (tE K W fb) σ H Q:=by
 obtain⟨g,s,m,rs,rl,p⟩:=h
 refine⟨g,s,m,rs,rl,(dG.bind p).imp λv H1 ⟨x,g1,m1,rs1,st1,r1,p1⟩=>?_⟩
 obtain⟨k,e,p2⟩:=vK rs1 r1 p1
 refine⟨k,e,?_⟩
 cases k with
 | true=>exact iteT (p2 g1 v H1 rs1 (Stp.refl _ _) r1)
 | false=>exact iteF ⟨g1,s,m1,rs1,rl.st st1,p2⟩
theorem Q9{fa:Sl->Mem->R OV}(h:tE K W (λs m=>(fa s m).bind λx m=>(ug x m).bind λk m=>.ok (.v (.bl (!k))) m) σ H Q):tNotT K (tE K W fa) σ H Q:=by
 obtain⟨g,s,m,rs,rl,p⟩:=h
 refine⟨g,s,m,rs,rl,(dG.bind p).imp λv H1 ⟨x,g1,m1,rs1,st1,r1,p1⟩=>?_⟩
 obtain⟨k,e,p2⟩:=vK rs1 r1 p1
 exact⟨k,e,bJ rs1 p2 rfl⟩
theorem T5{fe:Sl->Mem->R OV}{R':Bool->Hp->Prop}(h:tT K W (λs m=>(fe s m).bind ug) σ H R'):tE K W fe σ H λx H'=>∃b,TruV K x H' b/\R' b H':=by
 obtain⟨g,s,m,rs,rl,p⟩:=h
 refine⟨g,s,m,rs,rl,(dG.bind p).imp λv H1 ⟨x,g1,m1,rs1,st1,r1,p1⟩=>?_⟩
 have p1:V3 K (WE W σ) g1 H1 ((ug x m1).bind λk m=>.ok k m) R':=by
  cases e:ug x m1 with
  | ok b m2=>rw[e] at p1;exact p1
  | exc c ks xs m2=>rw[e] at p1;exact p1
  | stuck=>rw[e] at p1;exact p1
 obtain⟨b,h1,p2⟩:=vK rs1 r1 p1
 exact⟨b,h1,p2 g1 b H1 rs1 (Stp.refl _ _) rfl⟩
theorem VN{fa fb:Sl->Mem->R OV}{f:OV->OV->Mem->R OV}{R':Bool->Hp->Prop}(h:tT K W (λs m=>(fa s m).bind λx m=>(fb s m).bind λy m=>(f x y m).bind λz m=>wZ z m) σ H R'):tTest (tOp (t2 K f) (tE K W fa) (tE K W fb)) σ H R':=by
 obtain⟨g,s,m,rs,rl,p⟩:=h
 refine⟨g,s,m,rs,rl,(dG.bind p).imp λv H1 ⟨x,g1,m1,rs1,st1,r1,p1⟩=>⟨g1,s,m1,rs1,rl.st st1,(dG.bind p1).imp λw H2 ⟨y,g2,m2,rs2,st2,r2,p2⟩=>⟨_,g2,m2,x,y,rs2,RO.st r1 st2,r2,(dG.bind p2).imp λz H3 ⟨zo,g3,m3,rs3,st3,r3,p3⟩=>?_⟩⟩⟩
 unfold wZ at p3
 split at p3
 ·cases r3
  exact⟨_,rfl,p3 g3 _ H3 rs3 (Stp.refl _ _) rfl⟩
 ·exact p3.elim
theorem JL{fa fb fc:Sl->Mem->R OV}{f f':OV->OV->Mem->R OV}{R':Bool->Hp->Prop} (h:tT K W (λs m=>(fa s m).bind λx m=>(fb s m).bind λy m=>(f x y m).bind λz m=>(wZ z m).bind λk m =>
   if k=true then (fc s m).bind λw m=>(f' y w m).bind λz m=>wZ z m else .ok false m) σ H R'):tTest (tChain (t2 K f) (t2 K f') (tE K W fa) (tE K W fb) (tE K W fc)) σ H R':=by
 obtain⟨g,s,m,rs,rl,p⟩:=h
 refine⟨g,s,m,rs,rl,(dG.bind p).imp λv H1 ⟨x,g1,m1,rs1,st1,r1,p1⟩=>⟨g1,s,m1,rs1,rl.st st1,(dG.bind p1).imp λw H2 ⟨y,g2,m2,rs2,st2,r2,p2⟩=>⟨_,g2,m2,x,y,rs2,RO.st r1 st2,r2,(dG.bind p2).imp λz H3 ⟨zo,g3,m3,rs3,st3,r3,p3⟩=>?_⟩⟩⟩
 obtain⟨k,e,p4⟩:=FJ r3 p3
 refine⟨k,e,?_⟩
 cases k with
 | false=>exact iteF ⟨false,rfl,p4 g3 _ H3 rs3 (Stp.refl _ _) rfl⟩
 | true =>
  refine iteT ⟨g3,s,m3,rs3,(rl.st st1).st st2 |>.st st3,(dG.bind p4).imp λw' H4 ⟨u,g4,m4,rs4,st4,r4,p5⟩=>⟨_,g4,m4,y,u,rs4,RO.st (RO.st r2 st3) st4,r4,(dG.bind p5).imp λz' H5 ⟨zo',g5,m5,rs5,st5,r5,p6⟩=>?_⟩⟩
  unfold wZ at p6
  split at p6
  ·cases r5
   exact⟨_,rfl,p6 g5 _ H5 rs5 (Stp.refl _ _) rfl⟩
  ·exact p6.elim
theorem Od{fa fb:Sl->Mem->R Bool}{R':Bool->Hp->Prop}(h:tT K W (λs m=>(fa s m).bind λk m=>if k=true then fb s m else .ok false m) σ H R'):tAnd (tT K W fa) (tT K W fb) σ H R':=by
 obtain⟨g,s,m,rs,rl,p⟩:=h
 refine⟨g,s,m,rs,rl,(dG.bind p).imp λv H1 ⟨x,g1,m1,rs1,st1,r1,p1⟩=>?_⟩
 subst r1
 cases x with
 | true=>exact iteT ⟨g1,s,m1,rs1,rl.st st1,p1⟩
 | false=>exact iteF (p1 g1 _ H1 rs1 (Stp.refl _ _) rfl)
theorem Vg{fa fb:Sl->Mem->R Bool}{R':Bool->Hp->Prop}(h:tT K W (λs m=>(fa s m).bind λk m=>if k=true then .ok true m else fb s m) σ H R'):tOr (tT K W fa) (tT K W fb) σ H R':=by
 obtain⟨g,s,m,rs,rl,p⟩:=h
 refine⟨g,s,m,rs,rl,(dG.bind p).imp λv H1 ⟨x,g1,m1,rs1,st1,r1,p1⟩=>?_⟩
 subst r1
 cases x with
 | true=>exact iteT (p1 g1 _ H1 rs1 (Stp.refl _ _) rfl)
 | false=>exact iteF ⟨g1,s,m1,rs1,rl.st st1,p1⟩
theorem VF{fa:Sl->Mem->R Bool}{R':Bool->Hp->Prop}(h:tT K W (λs m=>(fa s m).bind λk m=>.ok (!k) m) σ H R'):tNot (tT K W fa) σ H R':=by
 obtain⟨g,s,m,rs,rl,p⟩:=h
 refine⟨g,s,m,rs,rl,(dG.bind p).imp λv H1 ⟨x,g1,m1,rs1,st1,r1,p1⟩=>?_⟩
 subst r1
 exact p1 g1 _ H1 rs1 (Stp.refl _ _) rfl
theorem Tw{R':Bool->Hp->Prop}(h:tT K W (λ_ m=>.ok true m) σ H R'):tYes σ H R':=by
 obtain⟨g,s,m,rs,rl,p⟩:=h
 exact p g _ H rs (Stp.refl _ _) rfl
end
theorem _root_.L2.PTs.weaken{X:Cx}{e:List Expr}{t t':TT}(h:PTs X e t)(w:∀σ H Q,t' σ H Q->t σ H Q):PTs X e t':=⟨λpins s σ H Q I q=>h.run pins s σ H Q I (w σ H Q q)⟩
def isBool:Expr->Bool
 | .BoolOp ..=>true
 | _=>false
def PTW(X:Cx)(e:Expr)(t:TT):Prop:=PT X e t/\(isBool e=true->PW X e t)
theorem PTW.of{X:Cx}{e:Expr}{t:TT}(h:PT X e t)(n:isBool e=false):PTW X e t:=⟨h,λz=>by rw[n] at z;cases z⟩
theorem PTW.pw{X:Cx}{e:Expr}{t:TT}(h:PW X e t):PTW X e t:=⟨h.pt,λ_=>h⟩
def All{α:Type}(p:α->Prop)(l:List α):Prop:=∀x∈l,p x
theorem All.l{α:Type}{p:α->Prop}{a b:List α}(h:All p (a++b)):All p a:=λx hx=>h x (qQw _ hx)
theorem All.r{α:Type}{p:α->Prop}{a b:List α}(h:All p (a++b)):All p b:=λx hx=>h x (qQv _ hx)
theorem All.nil{α:Type}{p:α->Prop}:All p []:=λx hx=>by cases hx
theorem All.cons{α:Type}{p:α->Prop}{a:α}{l:List α}(h:p a)(t:All p l):All p (a::l):=λx hx=>by
 rcases qQj.mp hx with rfl|hx
 ·exact h
 ·exact t x hx
theorem All.app{α:Type}{p:α->Prop}{a b:List α}(h:All p a)(t:All p b):All p (a++b):=λx hx=>(List.mem_append.mp hx).elim (h x) (t x)
section
mutual
theorem cI:∀(me:ME) {k:Nat}{W:WX}{c:Cfg}{e:Expr}{X:Cx},bV k W c X->All (dI.at · X k) me.needs->mE me c e=true->PE X e (tE X.ki W (ev me))
 | .slot i,_,W,c,e,X,ok,nd,h=>by
  unfold mE at h
  split at h <;> try contradiction
  exact (ok.slot h).weaken fun σ H Q q=>Tf q
 | .pr p es,_,W,c,e,X,ok,nd,h=>by
  unfold mE at h
  unfold ME.needs at nd
  split at h <;> try contradiction
  exact p.ok ok nd.l (by assumption) (uV es ok nd.r h)
 | .cmp p a b,_,W,c,e,X,ok,nd,h=>by
  unfold mE at h
  unfold ME.needs at nd
  split at h <;> try contradiction
  simp only[qQb,Bool.not_eq_true'] at h
  exact (pe_cmpR (p.ok ok nd.l h.1.1.1) (cI a ok nd.r.l h.1.2) (cI b ok nd.r.r h.2) h.1.1.2).weaken fun σ H Q q=>Cd q
 | .chain p q a b d,_,W,c,e,X,ok,nd,h=>by
  unfold mE at h
  unfold ME.needs at nd
  split at h <;> try contradiction
  simp only[qQb,Bool.not_eq_true'] at h
  exact (pe_chain (p.ok ok nd.l h.1.1.1.1.1) (q.ok ok nd.r.l h.1.1.1.1.2) (cI a ok nd.r.r.l h.1.1.2) (cI b ok nd.r.r.r.l h.1.2) (cI d ok nd.r.r.r.r h.2) h.1.1.1.2).weaken fun σ H Q q=>Ky q
 | .andV a b,_,W,c,e,X,ok,nd,h=>by
  unfold mE at h
  unfold ME.needs at nd
  split at h <;> try contradiction
  rw[qQb] at h
  obtain⟨h1,h2⟩:=h
  have ha:=cI a ok nd.l h1
  split at h2
  ·exact (pe_andT ha (pe_one (cI b ok nd.r h2))).weaken fun σ H Q q=>Gf q
  ·exact (pe_andT ha (cI b ok nd.r h2)).weaken fun σ H Q q=>Gf q
 | .orV a b,_,W,c,e,X,ok,nd,h=>by
  unfold mE at h
  unfold ME.needs at nd
  split at h <;> try contradiction
  rw[qQb] at h
  obtain⟨h1,h2⟩:=h
  have ha:=cI a ok nd.l h1
  split at h2
  ·exact (pe_orT ha (pe_one (cI b ok nd.r h2))).weaken fun σ H Q q=>Nh q
  ·exact (pe_orT ha (cI b ok nd.r h2)).weaken fun σ H Q q=>Nh q
 | .notV a,_,W,c,e,X,ok,nd,h=>by
  unfold mE at h
  unfold ME.needs at nd
  split at h <;> try contradiction
  exact (pe_notT (cI a ok nd h)).weaken fun σ H Q q=>Q9 q
 | .ite t a b,_,W,c,e,X,ok,nd,h=>by
  unfold mE at h
  unfold ME.needs at nd
  split at h <;> try contradiction
  simp only[qQb] at h
  exact (pe_ifExp (qL t ok nd.l h.1.1).1 (cI a ok nd.r.l h.1.2) (cI b ok nd.r.r h.2)).weaken fun σ H Q q=>SN q
 | .fr f,_,W,c,e,X,ok,nd,h=>by
  unfold mE at h
  unfold ME.needs at nd
  exact (qI f ok nd h).weaken fun σ H Q q=>PQ q
 | .nw f,_,W,c,e,X,ok,nd,h=>by
  unfold mE at h
  unfold ME.needs at nd
  exact (qI f ok nd h).weaken fun σ H Q q=>QZ q
 | .sl a b d,_,W,c,e,X,ok,nd,h=>by
  unfold mE at h
  unfold ME.needs at nd
  split at h <;> try contradiction
  simp only[qQb] at h
  exact (pe_slice sl_all (cI a ok nd.l h.1.1) (po_some (cI b ok nd.r.l h.1.2)) (po_some (cI d ok nd.r.r h.2))).weaken fun σ H Q q=>Ov q
 | .bm p o es,_,W,c,e,X,ok,nd,h=>by
  unfold mE at h
  unfold ME.needs at nd
  split at h <;> try contradiction
  rw[qQb] at h
  exact p.ok ok nd.l (by assumption) (cI o ok nd.r.l h.1) (uV es ok nd.r.r h.2)
 | .pa p as,_,W,c,e,X,ok,nd,h=>by
  unfold mE at h
  unfold ME.needs at nd
  split at h <;> try contradiction
  exact p.ok ok nd.l (by assumption) (Bx as ok nd.r h)
 | .tryL p a,k,W,c,e,X,ok,nd,h=>by
  unfold mE at h
  unfold ME.needs at nd
  split at h <;> try contradiction
  rename_i sc b hp
  obtain⟨j,rfl⟩:=nd _ (qQc ..)
  refine p.ok ok (λn hn=>nd n (qQd _ (qQw _ hn))) hp λX' W' h1 h2 h3 h4 h5 ok'=>cI a ok' (λn hn=>?_) h
  obtain⟨i,e,q⟩:=nd _ (qQd _ (qQv _ (qQh.mpr ⟨n,hn,rfl⟩)))
  cases e
  show n X'.prog X'.w X'.K X'.mg X'.base j
  rw[h1,h2,h3,h4,h5]
  exact q
 | .tryLs p es,k,W,c,e,X,ok,nd,h=>by
  unfold mE at h
  unfold ME.needs at nd
  split at h <;> try contradiction
  rename_i l hp
  obtain⟨j,rfl⟩:=nd _ (qQc ..)
  refine p.ok ok (λn hn=>nd n (qQd _ (qQw _ hn))) hp (Iu es (λn hn=>?_) h)
  obtain⟨i,e,q⟩:=nd _ (qQd _ (qQv _ (qQh.mpr ⟨n,hn,rfl⟩)))
  cases e
  exact q
theorem Iu:∀(es:MEs) {k:Nat}{c:Cfg}{l:List (Scope × Expr)}{X:Cx},All (dI.at · X k) es.needs->mLs es c l=true->CK X c k l (evL es)
 | .nil,_,_,[],X,nd,h=>.nil
 | .nil,_,_,_::_,X,nd,h=>by cases h
 | .cons e es,_,_,[],X,nd,h=>by cases h
 | .cons e es,k,c,(sc,b)::l,X,nd,h=>by
  have h:(mE e (c.U5 sc) b&&mLs es c l)=true:=h
  unfold MEs.needs at nd
  rw[qQb] at h
  refine .cons (λX' W' h1 h2 h3 h4 h5 ok'=>cI e ok' (λn hn=>?_) h.1) (Iu es nd.r h.2)
  show n X'.prog X'.w X'.K X'.mg X'.base k
  rw[h1,h2,h3,h4,h5]
  exact nd.l n hn
theorem Bx:∀(as:MAs) {k:Nat}{W:WX}{c:Cfg}{xs:List Expr}{X:Cx},bV k W c X->All (dI.at · X k) as.needs->mAs as c xs=true->PA X xs (tA X.ki W (Kc as))
 | .nil,_,W,c,[],X,ok,nd,h=>pa_nil.weaken fun σ H Q q=>Gg q
 | .nil,_,W,c,_::_,X,ok,nd,h=>by cases h
 | .cons b e as,_,W,c,[],X,ok,nd,h=>by cases b <;> cases h
 | .cons false e as,_,W,c,x::xs,X,ok,nd,h=>by
  have h:(cR x&&(mE e c x&&mAs as c xs))=true:=by
   cases x <;> exact h
  unfold MAs.needs at nd
  simp only[qQb] at h
  exact (pa_cons (cI e ok nd.l h.2.1) (Bx as ok nd.r h.2.2) (dH h.1)).weaken fun σ H Q q=>zG q
 | .cons true e as,_,W,c,x::xs,X,ok,nd,h=>by
  unfold MAs.needs at nd
  cases x with
  | Starred y p =>
   have h:(mE e c y&&mAs as c xs)=true:=h
   rw[qQb] at h
   exact (StX.pa_star (cI e ok nd.l h.1) (Bx as ok nd.r h.2)).weaken fun σ H Q q=>Rw q
  | _=>cases h
theorem uV:∀(es:MEs) {k:Nat}{W:WX}{c:Cfg}{xs:List Expr}{X:Cx},bV k W c X->All (dI.at · X k) es.needs->mEs es c xs=true->Parts X W xs (evs es)
 | .nil,_,W,c,[],X,ok,nd,h=>Parts.nil
 | .nil,_,W,c,_::_,X,ok,nd,h=>by cases h
 | .cons e es,_,W,c,[],X,ok,nd,h=>by cases h
 | .cons e es,_,W,c,x::xs,X,ok,nd,h=>by
  have h:(mE e c x&&mEs es c xs)=true:=h
  unfold MEs.needs at nd
  rw[qQb] at h
  exact Parts.cons (cI e ok nd.l h.1) (uV es ok nd.r h.2)
theorem qL:∀(t:MT) {k:Nat}{W:WX}{c:Cfg}{e:Expr}{X:Cx},bV k W c X->All (dI.at · X k) t.needs->mT t c e=true->PTW X e (tT X.ki W (evT t))
 | .val a,_,W,c,e,X,ok,nd,h=>by
  have h:(plainT e&&mE a c e)=true:=h
  unfold MT.needs at nd
  rw[qQb] at h
  exact .of ((pt_truth (cI a ok nd h.2) (Oj h.1)).weaken fun σ H Q q=>T5 q) (by cases e <;> first|rfl|(cases h.1;done))
 | .cmp p a b,_,W,c,e,X,ok,nd,h=>by
  unfold mT at h
  unfold MT.needs at nd
  split at h <;> try contradiction
  simp only[qQb,Bool.not_eq_true'] at h
  exact .of ((pt_cmpR (p.ok ok nd.l h.1.1.1) (cI a ok nd.r.l h.1.2) (cI b ok nd.r.r h.2) h.1.1.2).weaken fun σ H Q q=>VN q) rfl
 | .chain p q a b d,_,W,c,e,X,ok,nd,h=>by
  unfold mT at h
  unfold MT.needs at nd
  split at h <;> try contradiction
  simp only[qQb,Bool.not_eq_true'] at h
  exact .of ((pt_chain (p.ok ok nd.l h.1.1.1.1.1) (q.ok ok nd.r.l h.1.1.1.1.2) (cI a ok nd.r.r.l h.1.1.2) (cI b ok nd.r.r.r.l h.1.2) (cI d ok nd.r.r.r.r h.2) h.1.1.1.2).weaken fun σ H Q q=>JL q) rfl
 | .and a b,_,W,c,e,X,ok,nd,h=>by
  unfold mT at h
  unfold MT.needs at nd
  split at h <;> try contradiction
  rw[qQb] at h
  obtain⟨h1,h2⟩:=h
  have ha:=(qL a ok nd.l h1).1
  split at h2
  ·exact .pw ((pw_and ha (pw_and1 (qL b ok nd.r h2).1)).weaken fun σ H Q q=>Od q)
  ·exact .pw ((pw_and ha ((qL b ok nd.r h2).2 rfl)).weaken fun σ H Q q=>Od q)
 | .or a b,_,W,c,e,X,ok,nd,h=>by
  unfold mT at h
  unfold MT.needs at nd
  split at h <;> try contradiction
  rw[qQb] at h
  obtain⟨h1,h2⟩:=h
  have ha:=(qL a ok nd.l h1).1
  split at h2
  ·exact .pw ((pw_or ha (pw_or1 (qL b ok nd.r h2).1)).weaken fun σ H Q q=>Vg q)
  ·exact .pw ((pw_or ha ((qL b ok nd.r h2).2 rfl)).weaken fun σ H Q q=>Vg q)
 | .not a,_,W,c,e,X,ok,nd,h=>by
  unfold mT at h
  unfold MT.needs at nd
  split at h <;> try contradiction
  exact .of ((pt_not (qL a ok nd h).1).weaken fun σ H Q q=>VF q) rfl
theorem qI:∀(f:MF) {k:Nat}{W:WX}{c:Cfg}{e:Expr}{X:Cx},bV k W c X->All (dI.at · X k) f.needs->mF f c e=true->PE X e (tF X.ki W (evF f))
 | .pr p es,_,W,c,e,X,ok,nd,h=>by
  unfold mF at h
  unfold MF.needs at nd
  split at h <;> try contradiction
  exact p.ok ok nd.l (by assumption) (uV es ok nd.r h)
 | .pa p as,_,W,c,e,X,ok,nd,h=>by
  unfold mF at h
  unfold MF.needs at nd
  split at h <;> try contradiction
  exact p.ok ok nd.l (by assumption) (Bx as ok nd.r h)
 | .comp own tg it ifs a,_,W,c,e,X,ok,nd,h=>by
  unfold mF at h
  unfold MF.needs at nd
  split at h <;> try contradiction
  simp only[qQb] at h
  obtain⟨⟨⟨⟨⟨⟨⟨h0,h1⟩,h2⟩,h3⟩,h4⟩,h5⟩,h6⟩,h7⟩:=h
  have hc:=ok.calm h0
  have hown:∀c:Cfg,(tV c own).map (·.2)=own:=λc=>by
   unfold tV;rw[qQt];exact List.map_id _
  rename_i pp
  have p:=pe_lc (pos:=pp) (own:=tV _ own) (tt:=tT X.ki W0 (tX ifs)) (te:=tE X.ki W0 (ev a)) (g:=gM X.ki tg) hc ok.nd (vZ it ok nd.l h4) (by rw[ok.N,ok.sc];exact blkOk_by h1) (λs H C cl fp=>ok.mgb (ok.blk.calm h0) h5) (λs H C cl fp=>lL ifs ok.blk nd.r.l h6) (λs H C cl fp=>cI a ok.blk nd.r.r h7) (λx=>qJ h3 x)
  rw[hown] at p
  exact p.weaken fun σ H Q q=>Jo (λi hi=>by
   have:=qQ0.mp h2 i hi
   exact qQ4 this) q
 | .dcomp own tg it ifs a b,_,W,c,e,X,ok,nd,h=>by
  unfold mF at h
  unfold MF.needs at nd
  split at h <;> try contradiction
  simp only[qQb] at h
  obtain⟨⟨⟨⟨⟨⟨⟨⟨h0,h1⟩,h2⟩,h3⟩,h4⟩,h5⟩,h6⟩,h7⟩,h8⟩:=h
  have hc:=ok.calm h0
  have hown:∀c:Cfg,(tV c own).map (·.2)=own:=λc=>by
   unfold tV;rw[qQt];exact List.map_id _
  rename_i pp
  have p:=pe_dc (pos:=pp) (own:=tV _ own) (tt:=tT X.ki W0 (tX ifs)) (tk:=tE X.ki W0 (ev a)) (tv:=tE X.ki W0 (ev b)) (g:=gM X.ki tg) hc ok.nd (vZ it ok nd.l h4) (by rw[ok.N,ok.sc];exact blkOk_by h1) (λs H C cl fp=>ok.mgb (ok.blk.calm h0) h5) (λs H C cl fp=>lL ifs ok.blk nd.r.l h6) (λs H C cl fp=>cI a ok.blk nd.r.r.l h7) (λs H C cl fp=>cI b ok.blk nd.r.r.r h8) (λx=>qJ h3 x)
  rw[hown] at p
  exact p.weaken fun σ H Q q=>Ar (λi hi=>by
   have:=qQ0.mp h2 i hi
   exact qQ4 this) q
 | .compG own tg pg o ifs a,_,W,c,e,X,ok,nd,h=>by
  unfold mF at h
  unfold MF.needs at nd
  split at h <;> try contradiction
  simp only[qQb] at h
  obtain⟨⟨⟨⟨⟨⟨⟨⟨h0,h1⟩,h2⟩,h3⟩,h4⟩,h5⟩,h6⟩,h7⟩,h8⟩:=h
  have hc:=ok.calm h0
  have hown:∀c:Cfg,(tV c own).map (·.2)=own:=λc=>by
   unfold tV;rw[qQt];exact List.map_id _
  rename_i pp
  split at h5 <;> try contradiction
  rename_i x ex
  have p:=RgF.Tp (pos:=pp) (own:=tV _ own) (ft:=tX ifs) (fe:=ev a) (mg:=tg) hc ok.nd (pg.ok ok nd.l ex (cI o ok nd.r.l h5)) (by rw[ok.N,ok.sc];exact blkOk_by h1) (yH h4) (by rw[hown];exact λi hi=>qQ4 (qQ0.mp h2 i hi)) (λs H C cl fp=>ok.mgb (ok.blk.calm h0) h6) (λs H C cl fp=>lL ifs ok.blk nd.r.r.l h7) (λs H C cl fp=>cI a ok.blk nd.r.r.r h8) (λx=>qJ h3 x)
  rw[hown] at p
  exact p.weaken fun σ H Q q=>q
 | .comp2 own own1 tg it ifs tg1 it1 ifs1 a,_,W,c,e,X,ok,nd,h=>by
  unfold mF at h
  unfold MF.needs at nd
  split at h <;> try contradiction
  simp only[qQb] at h
  obtain⟨⟨⟨⟨⟨⟨⟨⟨⟨⟨⟨⟨⟨h0,h1⟩,h2⟩,h2b⟩,h2c⟩,h3⟩,h3b⟩,h4⟩,h5⟩,h6⟩,h7⟩,h8⟩,h9⟩,h10⟩:=h
  have hc:=ok.calm h0
  have hown:∀c:Cfg,(tV c own).map (·.2)=own:=λc=>by
   unfold tV;rw[qQt];exact List.map_id _
  rename_i pp
  have p:=pe_lc2 (pos:=pp) (own:=tV _ own) (vs1:=own1) (tt:=tT X.ki W0 (tX ifs)) (tt1:=tT X.ki W0 (tX ifs1)) (te:=tE X.ki W0 (ev a)) (wi1:=tI X.ki W0 (evI it1)) (g:=gM X.ki tg) (g1:=gM X.ki tg1) hc ok.nd (vZ it ok nd.l h4) (by rw[ok.N,ok.sc];exact blkOk_by h1) (by rw[hown];exact λi hi=>qQ4 (qQ0.mp h2c i hi)) (λs H C cl fp=>ok.mgb (ok.blk.calm h0) h5) (λs H C cl fp=>lL ifs ok.blk nd.r.l h6) (λs H C cl fp=>vZ it1 ok.blk nd.r.r.l h7) (λs H C cl fp=>ok.mgb (ok.blk.calm h0) h8) (λs H C cl fp=>lL ifs1 ok.blk nd.r.r.r.l h9) (λs H C cl fp=>cI a ok.blk nd.r.r.r.r h10) (λx=>qJ h3 x) (λenv x=>qJ h3b x)
  rw[hown] at p
  exact p.weaken fun σ H Q q=>Ad (λi hi=>qQ4 (qQ0.mp h2 i hi)) (λi hi=>qQ4 (qQ0.mp h2b i hi)) q
theorem vZ:∀(i:MI) {k:Nat}{W:WX}{c:Cfg}{tg e:Expr}{X:Cx},bV k W c X->All (dI.at · X k) i.needs->mI i c tg e=true->PI X tg e (tI X.ki W (evI i))
 | .pr p es,_,W,c,tg,e,X,ok,nd,h=>by
  unfold mI at h
  unfold MI.needs at nd
  split at h <;> try contradiction
  exact p.ok ok nd.l (by assumption) (uV es ok nd.r h)
theorem lL:∀(t:MTs) {k:Nat}{W:WX}{c:Cfg}{es:List Expr}{X:Cx},bV k W c X->All (dI.at · X k) t.needs->mTs t c es=true->PTs X es (tT X.ki W (tX t))
 | .nil,_,W,c,[],X,ok,nd,h=>pts_nil.weaken fun σ H Q q=>Tw q
 | .nil,_,W,c,_::_,X,ok,nd,h=>by cases h
 | .one t,_,W,c,[],X,ok,nd,h=>by cases h
 | .one t,_,W,c,[x],X,ok,nd,h=>pts_one (qL t ok (by unfold MTs.needs at nd;exact nd) h).1
 | .one t,_,W,c,_::_::_,X,ok,nd,h=>by cases h
end
end
inductive SR where
 | nx (s:Sl) (m:Mem)
 | bk (s:Sl) (m:Mem)
 | ct (s:Sl) (m:Mem)
 | rt (r:FR)
 | ex (c:Str) (ks:List Str) (xs:List MV) (s:Sl) (m:Mem)
 | stuck
def R.toS{α:Type}(r:R α)(s:Sl)(k:α->Mem->SR):SR:=match r with
 | .ok a m=>k a m
 | .exc c ks xs m=>.ex c ks xs s m
 | .stuck=>.stuck
def SR.seq(r:SR)(k:Sl->Mem->SR):SR:=match r with
 | .nx s m=>k s m
 | r=>r
def toV(x:OV)(m:Mem):R MV:=match x with
 | .v x=>.ok x m
 | .b _=>.stuck
open Classical in
def oR(f:MV->Sl->Mem->SR)(wt:List (Nat × MO)):List MV->Sl->Mem->SR
 | [],s,m=>if OkW wt m then .nx s m else .stuck
 | x::xs,s,m=>if OkW wt m then (match f x s m with
  | .nx s m=>oR f wt xs s m
  | .ct s m=>oR f wt xs s m
  | .bk s m=>.nx s m
  | .rt r=>.rt r
  | .ex c ks ys s m=>.ex c ks ys s m
  | .stuck=>.stuck) else .stuck
def oZ(ft:Sl->Mem->R Bool)(fb:Sl->Mem->SR):Nat->Sl->Mem->SR
 | 0,_,_=>.stuck
 | n+1,s,m=>(ft s m).toS s λk m=>if k=true then (match fb s m with
  | .nx s m=>oZ ft fb n s m
  | .ct s m=>oZ ft fb n s m
  | .bk s m=>.nx s m
  | .rt r=>.rt r
  | .ex c ks ys s m=>.ex c ks ys s m
  | .stuck=>.stuck) else .nx s m
structure jg(K:Ki)(g0:G)(H0:Hp)(g:G)(s:Sl)(m:Mem)(σ:St)(H:Hp):Prop where
 rs:Rs K g m H
 rl:RSl K g s σ H
 st:Stp g0 H0 g H
 o0:∀(i:Nat) o a,s[i]? = some (some (.own o))->σ[i]? = some (some (.ref a))->H0 a=none
def bY(K:Ki)(W:WX)(g0:G)(H0:Hp)(g:G)(r:SR)(D:Ends):Prop:=match r with
 | .nx s m=>∀g' σ' H',jg K g0 H0 g' s m σ' H'->Fle g g'->D.nx σ' H'
 | .bk s m=>∀g' σ' H',jg K g0 H0 g' s m σ' H'->Fle g g'->D.bk σ' H'
 | .ct s m=>∀g' σ' H',jg K g0 H0 g' s m σ' H'->Fle g g'->D.ct σ' H'
 | .rt r=>sX K (λ_ _ _=>False) g0 H0 r D.rt
 | .ex c ks xs s m=>∀g' cls d σ' H',jg K g0 H0 g' s m σ' H'->Fle g g'->ExR K g' c ks xs cls d->W cls d σ' H'
 | .stuck=>False
def tS(K:Ki)(W:WX)(g0:G)(H0:Hp)(f:Sl->Mem->SR):TS:=λD σ H=>∃g s m,jg K g0 H0 g s m σ H/\bY K W g0 H0 g (f s m) D
section
variable{α β:Type}{K:Ki}{W:WX}{g0 g g':G}{H0 H H':Hp}{s s2:Sl}{m m':Mem}{σ:St}{D:Ends}
theorem jg.step(h:jg K g0 H0 g s m σ H)(rs:Rs K g' m' H')(t:Stp g H g' H'):jg K g0 H0 g' s m' σ H':=⟨rs,h.rl.st t,h.st.trans t,h.o0⟩
theorem bY.fle{r:SR}(h:bY K W g0 H0 g r D)(f:Fle g g'):bY K W g0 H0 g' r D:=by
 cases r with
 | nx s m=>exact λg2 σ' H' a b=>h g2 σ' H' a (f.trans b)
 | bk s m=>exact λg2 σ' H' a b=>h g2 σ' H' a (f.trans b)
 | ct s m=>exact λg2 σ' H' a b=>h g2 σ' H' a (f.trans b)
 | ex c ks xs s m=>exact λg2 cls d σ' H' a b=>h g2 cls d σ' H' a (f.trans b)
 | _=>exact h
theorem bY.bind{R1:G->Hp->α->β->Prop}{r:R α}{k:α->Mem->SR}(R:jg K g0 H0 g s m σ H)(h:bY K W g0 H0 g (r.toS s k) D):
  dG K (WE W σ) R1 g H r λv H1=>∃x g1 m1,Rs K g1 m1 H1/\Stp g H g1 H1/\R1 g1 H1 x v/\bY K W g0 H0 g1 (k x m1) D:=by
 cases r with
 | ok x m'=>exact λg1 v H1 a b c=>⟨x,g1,m',a,b,c,bY.fle h b.fle⟩
 | exc c ks xs m'=>exact λg1 cls d H1 a b e=>h g1 cls d σ H1 (R.step a b) b.fle e
 | stuck=>exact h
theorem bY.LK{r:R MO}{k:MO->Mem->SR}(R:jg K g0 H0 g s m σ H)(h:bY K W g0 H0 g (r.toS s k) D):
  dJ K (WE W σ) g H r λv H1=>∃o g1 m1 p,v=.ref p/\Rs K g1 m1 H1/\Stp g H g1 H1/\H p=none/\g1.F p=none/\(∀n,g1.r n≠some p)/\gK K g1 o H1 p/\bY K W g0 H0 g1 (k o m1) D:=by
 cases r with
 | ok x m'=>exact λg1 p H1 a b c d e f=>⟨x,g1,m',p,rfl,a,b,c,d,e,f,bY.fle h b.fle⟩
 | exc c ks xs m'=>exact λg1 cls d H1 a b e=>h g1 cls d σ H1 (R.step a b) b.fle e
 | stuck=>exact h
theorem xH{x:OV}{v:V}{k:MV->Mem->SR}(r:RO K g H x v)(h:bY K W g0 H0 g ((toV x m).toS s k) D):∃y,x=.v y/\RV K g y v/\bY K W g0 H0 g (k y m) D:=by
 cases x with
 | v y=>exact⟨y,rfl,r,h⟩
 | b o=>exact h.elim
theorem Aj:U3 λs σ=>∀(i:Nat) o a,s[i]? = some (some (SV.own o))->σ[i]? = some (some (V.ref a))->H0 a=none:=by
 intro s σ i x v h j o a e1 e2
 by_cases q:i=j
 ·subst q
  by_cases hi:i<s.length
  ·rw[qQm hi] at e1;cases e1
  ·rw[qQ1 (by simpa using hi)] at e1;cases e1
 ·rw[qQe q] at e1 e2
  exact h j o a e1 e2
theorem jg.set{i:Nat}{x:MV}{v:V}(h:jg K g0 H0 g s m σ H)(r:RV K g x v):jg K g0 H0 g (s.set i (some (.v x))) m (σ.set i (some v)) H:=⟨h.rs,h.rl.set r,h.st,Aj s σ i x v h.o0⟩
theorem jg.oY{i:Nat}{o:MO}{p:Addr}(h:jg K g0 H0 g s m σ H)(hi:i<s.length)(hF:g.F p=none)(hr:∀n,g.r n≠some p)(ob:gK K g o H p)(h0:H0 p=none)
  (nw:∀(j:Nat) u,s[j]? = some (some (.own u))->σ[j]?≠some (some (.ref p))):jg K g0 H0 g (s.set i (some (.own o))) m (σ.set i (some (.ref p))) H:=by
 have hl:=h.rl.len
 refine⟨h.rs,⟨λj y e=>?_,λj u e=>?_,λj k u w a e1 e2 e3 e4=>?_,by simp[hl]⟩,h.st,λj u a e1 e2=>?_⟩
 ·by_cases q:i=j
  ·subst q;rw[qQm hi] at e;cases e
  ·rw[qQe q] at e
   obtain⟨w,e1,e2⟩:=h.rl.val j y e
   exact⟨w,by rw[qQe q];exact e1,e2⟩
 ·by_cases q:i=j
  ·subst q;rw[qQm hi] at e;cases e
   exact⟨p,by rw[qQm (by omega)],ob,hF,hr⟩
  ·rw[qQe q] at e
   obtain⟨w,e1,e2⟩:=h.rl.own j u e
   exact⟨w,by rw[qQe q];exact e1,e2⟩
 ·by_cases q:i=j
  ·subst q
   by_cases q2:i=k
   ·exact q2
   ·rw[qQe q2] at e2 e4
    rw[qQm (by omega)] at e3;cases e3
    exact absurd e4 (nw k _ e2)
  ·by_cases q2:i=k
   ·subst q2
    rw[qQe q] at e1 e3
    rw[qQm (by omega)] at e4;cases e4
    exact absurd e3 (nw j _ e1)
   ·rw[qQe q] at e1 e3
    rw[qQe q2] at e2 e4
    exact h.rl.dis j k _ _ a e1 e2 e3 e4
 ·by_cases q:i=j
  ·subst q;rw[qQm (by omega)] at e2;cases e2;exact h0
  ·rw[qQe q] at e1 e2
   exact h.o0 j u a e1 e2
end
section
variable{α β:Type}{K:Ki}{W:WX}{g0 g g':G}{H0 H H':Hp}{s s2:Sl}{m m':Mem}{σ:St}{D:Ends}
theorem zJ(h:tS K W g0 H0 (λs m=>.nx s m) D σ H):tNext D σ H:=by
 obtain⟨g,s,m,R,p⟩:=h
 exact p g σ H R (Fle.refl _)
theorem Wj(h:tS K W g0 H0 (λs m=>.bk s m) D σ H):tBreak D σ H:=by
 obtain⟨g,s,m,R,p⟩:=h
 exact p g σ H R (Fle.refl _)
theorem Qz(h:tS K W g0 H0 (λs m=>.ct s m) D σ H):tCont D σ H:=by
 obtain⟨g,s,m,R,p⟩:=h
 exact p g σ H R (Fle.refl _)
theorem Je{f k:Sl->Mem->SR}(h:tS K W g0 H0 (λs m=>(f s m).seq k) D σ H):tSeq (tS K W g0 H0 f) (tS K W g0 H0 k) D σ H:=by
 obtain⟨g,s,m,R,p⟩:=h
 refine⟨g,s,m,R,?_⟩
 have p:bY K W g0 H0 g ((f s m).seq k) D:=p
 cases e:f s m with
 | nx s' m'=>rw[e] at p;exact λg' σ' H' R' fl=>⟨g',s',m',R',bY.fle p fl⟩
 | bk s' m'=>rw[e] at p;exact p
 | ct s' m'=>rw[e] at p;exact p
 | ex c ks xs s' m'=>rw[e] at p;exact p
 | rt r=>rw[e] at p;exact p
 | stuck=>rw[e] at p;exact p.elim
theorem VR{ft:Sl->Mem->R Bool}{fa fb:Sl->Mem->SR}(h:tS K W g0 H0 (λs m=>(ft s m).toS s λk m=>if k=true then fa s m else fb s m) D σ H):tIfS (tT K W ft) (tS K W g0 H0 fa) (tS K W g0 H0 fb) D σ H:=by
 obtain⟨g,s,m,R,p⟩:=h
 refine⟨g,s,m,R.rs,R.rl,(bY.bind (R1:=λ_ _ x v=>x=v) R p).imp λb H1 ⟨x,g1,m1,rs1,st1,r1,p1⟩=>?_⟩
 subst r1
 cases x with
 | true=>exact iteT ⟨g1,s,m1,R.step rs1 st1,p1⟩
 | false=>exact iteF ⟨g1,s,m1,R.step rs1 st1,p1⟩
theorem M9{i:Nat}{fe:Sl->Mem->R OV}(h:tS K W g0 H0 (λs m=>(fe s m).toS s λx m=>(toV x m).toS s λx m=>.nx (s.set i (some (.v x))) m) D σ H):tAsg (tE K W fe) (gName i) D σ H:=by
 obtain⟨g,s,m,R,p⟩:=h
 refine⟨g,s,m,R.rs,R.rl,(bY.bind R p).imp λv H1 ⟨x,g1,m1,rs1,st1,r1,p1⟩=>?_⟩
 obtain⟨y,rfl,r2,p2⟩:=xH r1 p1
 exact p2 g1 _ H1 ((R.step rs1 st1).set r2) (Fle.refl _)
theorem jg.assign{tg:MG}{x:MV}{v:V}{Q:St->Hp->Prop}(R:jg K g0 H0 g s m σ H)(e:bW tg x s=some s2)(r:RV K g x v)(q:∀σ',jg K g0 H0 g s2 m σ' H->Q σ' H):gM K tg v σ H Q :=
 CV (I:=λs σ=>∀(i:Nat) o a,s[i]? = some (some (SV.own o))->σ[i]? = some (some (V.ref a))->H0 a=none) Aj R.rs e r R.rl R.o0 λvs rl o0=>q _ ⟨R.rs,rl,R.st,o0⟩
theorem TX{is:List Nat}{fe:Sl->Mem->R OV} (h:tS K W g0 H0 (λs m=>(fe s m).toS s λx m=>(toV x m).toS s λx m=>match bW (.tup is) x s with
  | some s=>.nx s m
  | none=>.stuck) D σ H):tAsg (tE K W fe) (gM K (.tup is)) D σ H:=by
 obtain⟨g,s,m,R,p⟩:=h
 refine⟨g,s,m,R.rs,R.rl,(bY.bind R p).imp λv H1 ⟨x,g1,m1,rs1,st1,r1,p1⟩=>?_⟩
 obtain⟨y,rfl,r2,p2⟩:=xH r1 p1
 split at p2
 ·rename_i s2 e
  exact (R.step rs1 st1).assign e r2 fun σ' R'=>p2 g1 σ' H1 R' (Fle.refl _)
 ·exact p2.elim
theorem Jb{i:Nat}{f:Sl->Mem->R MO}(h:tS K W g0 H0 (λs m=>(f s m).toS s λo m=>if i<s.length then .nx (s.set i (some (.own o))) m else .stuck) D σ H):tAsg (tF K W f) (gName i) D σ H:=by
 obtain⟨g,s,m,R,p⟩:=h
 refine⟨g,s,m,R.rs,R.rl,(bY.LK R p).imp λv H1 ⟨o,g1,m1,q,e,rs1,st1,hq,hF,hr,ob,p1⟩=>?_⟩
 subst e
 split at p1
 case isFalse=>exact p1.elim
 rename_i hl
 refine p1 g1 _ H1 ((R.step rs1 st1).oY hl hF hr ob (R.st.free hq) λj u e1 e2=>?_) (Fle.refl _)
 obtain⟨a,e3,e4,_⟩:=R.rl.own j u e1
 rw[e2] at e3;cases e3
 obtain⟨w,e5⟩:=e4.some
 rw[hq] at e5;cases e5
theorem NK{fe:Sl->Mem->R OV}(h:tS K W g0 H0 (λs m=>(fe s m).toS s λx m=>(toV x m).toS s λx m=>.rt (.ok x m)) D σ H):tRet (tE K W fe) D σ H:=by
 obtain⟨g,s,m,R,p⟩:=h
 refine⟨g,s,m,R.rs,R.rl,(bY.bind R p).imp λv H1 ⟨x,g1,m1,rs1,st1,r1,p1⟩=>?_⟩
 obtain⟨y,rfl,r2,p2⟩:=xH r1 p1
 exact p2 g1 v H1 rs1 (R.st.trans st1) r2
theorem Rr(h:tS K W g0 H0 (λs m=>.rt (.ok .non m)) D σ H):tRetN D σ H:=by
 obtain⟨g,s,m,R,p⟩:=h
 exact p g .non H R.rs R.st rfl
theorem Gz{f:Sl->Mem->R MO}(h:tS K W g0 H0 (λs m=>(f s m).toS s λo m=>.rt (.new o m)) D σ H):tRet (tF K W f) D σ H:=by
 obtain⟨g,s,m,R,p⟩:=h
 refine⟨g,s,m,R.rs,R.rl,(bY.LK R p).imp λv H1 ⟨o,g1,m1,q,e,rs1,st1,hq,hF,hr,ob,p1⟩=>?_⟩
 subst e
 exact p1 g1 q H1 rs1 (R.st.trans st1) (R.st.free hq) hF hr ob
theorem Gx{i:Nat} (h:tS K W g0 H0 (λs m=>(match s[i]? with
  | some (some (.own o))=>.rt (.new o m)
  | _=>.stuck)) D σ H):tRet (tVar i) D σ H:=by
 obtain⟨g,s,m,R,p⟩:=h
 dsimp only at p
 split at p
 ·rename_i o e
  obtain⟨a,e1,ob,hF,hr⟩:=R.rl.own i o e
  exact⟨_,e1,p g a H R.rs R.st (R.o0 i o a e e1) hF hr ob⟩
 ·exact p.elim
theorem Q7{fe:Sl->Mem->R OV}(h:tS K W g0 H0 (λs m=>(fe s m).toS s λ_ m=>.nx s m) D σ H):tDrop (tE K W fe) D σ H:=by
 obtain⟨g,s,m,R,p⟩:=h
 refine⟨g,s,m,R.rs,R.rl,(bY.bind R p).imp λv H1 ⟨x,g1,m1,rs1,st1,r1,p1⟩=>?_⟩
 exact p1 g1 _ H1 (R.step rs1 st1) (Fle.refl _)
theorem Uh{i j:Nat}{fa fb:Sl->Mem->R OV}(h:tS K W g0 H0 (λs m=>(fa s m).toS s λx m=>(fb s m).toS s λy m=>(toV x m).toS s λx m=>(toV y m).toS s λy m=>.nx ((s.set i (some (.v x))).set j (some (.v y))) m) D σ H):
  tPar i j (tCons (tE K W fa) (tCons (tE K W fb) tNil)) D σ H:=by
 obtain⟨g,s,m,R,p⟩:=h
 refine⟨g,s,m,R.rs,R.rl,(bY.bind R p).imp λv H1 ⟨x,g1,m1,rs1,st1,r1,p1⟩=>⟨g1,s,m1,rs1,R.rl.st st1,(bY.bind (R.step rs1 st1) p1).imp λw H2 ⟨y,g2,m2,rs2,st2,r2,p2⟩=>?_⟩⟩
 obtain⟨x',rfl,r3,p3⟩:=xH (RO.st r1 st2) p2
 obtain⟨y',rfl,r4,p4⟩:=xH r2 p3
 exact⟨v,w,rfl,p4 g2 _ H2 ((((R.step rs1 st1).step rs2 st2).set r3).set r4) (Fle.refl _)⟩
theorem Ow{i j:Nat}{fa fb:Sl->Mem->R MO}(hij:i≠j)(h:tS K W g0 H0 (λs m=>(fa s m).toS s λx m=>(fb s m).toS s λy m=>if i<s.length/\j<s.length/\i≠j then .nx ((s.set i (some (.own x))).set j (some (.own y))) m else .stuck) D σ H):
  tPar i j (tCons (tF K W fa) (tCons (tF K W fb) tNil)) D σ H:=by
 obtain⟨g,s,m,R,p⟩:=h
 refine⟨g,s,m,R.rs,R.rl,(bY.LK R p).imp λv H1 ⟨o,g1,m1,q,e,rs1,st1,hq,hF,hr,ob,p1⟩=>⟨g1,s,m1,rs1,R.rl.st st1,(bY.LK (R.step rs1 st1) p1).imp λw H2 ⟨o2,g2,m2,q2,e2,rs2,st2,hq2,hF2,hr2,ob2,p2⟩=>?_⟩⟩
 subst e
 subst e2
 split at p2
 case isFalse=>exact p2.elim
 rename_i hl
 obtain⟨l1,l2,_⟩:=hl
 have r1:RO K g1 H1 (.b o) (.ref q):=⟨q,rfl,ob,hF,hr⟩
 obtain⟨q',eq,ob',hF',hr'⟩:=RO.st r1 st2
 cases eq
 have ne:q≠q2:=λz=>by
  subst z
  obtain⟨w,e5⟩:=ob.some
  rw[hq2] at e5;cases e5
 have R2:=(R.step rs1 st1).step rs2 st2
 have nw:∀{p:Addr},H p=none->∀(j:Nat) u,s[j]? = some (some (.own u))->σ[j]?≠some (some (.ref p)):=λ{p} hp j u e1 e2=>by
  obtain⟨a,e3,e4,_⟩:=R.rl.own j u e1
  rw[e2] at e3;cases e3
  obtain⟨w,e5⟩:=e4.some
  rw[hp] at e5;cases e5
 have hq2':H q2=none:=st1.free hq2
 have R3:=R2.oY (i:=i) l1 hF' hr' ob' (R.st.free hq) (nw hq)
 have R4:=R3.oY (i:=j) (by simpa using l2) hF2 hr2 ob2 (R.st.free hq2') λk u e1 e2=>by
  by_cases z:i=k
  ·subst z
   rw[qQm (by rw[<- R.rl.len];exact l1)] at e2
   cases e2
   exact ne rfl
  ·rw[qQe z] at e1 e2
   exact nw hq2' k u e1 e2
 exact⟨_,_,rfl,p2 g2 _ H2 R4 (Fle.refl _)⟩
theorem Rs.TF{n:Nat}{a:Addr}{xs:List MV}{ys:List V}(rs:Rs K g m H)(hn:g.r n=some a)(hF:g.F a=none)(r:RVs K g xs ys):
  Rs K g (m.set n (some (.lst xs))) (upd H a (.lst ys))/\Stp g H g (upd H a (.lst ys)):=by
 have hlt:=(rs.rb n a hn).1
 refine⟨⟨λb u e=>?_,λk u e=>?_,λk b e=>?_,rs.rj,λq hq=>(rs.tb q hq).go (upd_ne λz=>(rs.tb q hq).r n (z ▸ hn)) (λ_ _ e=>e) (rs.tb q hq).F (rs.tb q hq).r⟩,⟨λ_ _ e=>e,λ_ _ e=>e,λb u e hb _=>?_,λb e=>?_,λb e=>.inl e,λk b e=>.inl e⟩⟩
 ·rw[upd_ne (λz=>by rw[z,hF] at e;cases e)];exact rs.sub b u e
 ·by_cases q:n=k
  ·subst q
   rw[qQm hlt] at e;cases e
   exact⟨a,hn,hF,ys,upd_same,r⟩
  ·rw[qQe q] at e
   obtain⟨b,e1,e2,e3⟩:=rs.gr k u e
   have ne:b≠a:=λz=>q (rs.rj n k a hn (z ▸ e1))
   exact⟨b,e1,e2,gK.grow e3 (λ_ _ e=>e) (λ_ _ e=>e) (upd_ne ne)⟩
 ·obtain⟨h1,h2⟩:=rs.rb k b e
  refine⟨by simpa using h1,?_⟩
  by_cases z:b=a
  ·subst z;rw[upd_same];simp
  ·rw[upd_ne z];exact h2
 ·rw[upd_ne (λz=>hb n (by rw[z];exact hn))];exact e
 ·by_cases z:b=a
  ·subst z;rw[upd_same];simp
  ·rw[upd_ne z];exact e
theorem Hj{n:Nat}{xs:List MV}{a:Addr}(rs:Rs K g m H)(hn:g.r n=some a)(e:rB m n=some xs):∃ys,H a=some (.lst ys)/\RVs K g xs ys/\g.F a=none:=by
 unfold rB at e
 split at e
 ·rename_i zs e2
  cases e
  obtain⟨b,e3,e4,ys,e5,e6⟩:=rs.gr n _ e2
  rw[hn] at e3;cases e3
  exact⟨ys,e5,e6,e4⟩
 ·cases e
open Classical in
theorem oU{f:MV->Sl->Mem->SR}{wt:List (Nat × MO)}{x:MV}{xs:List MV}{s:Sl}{m:Mem}:oR f wt (x::xs) s m=if OkW wt m then (match f x s m with
  | .nx s m=>oR f wt xs s m
  | .ct s m=>oR f wt xs s m
  | .bk s m=>.nx s m
  | .rt r=>.rt r
  | .ex c ks ys s m=>.ex c ks ys s m
  | .stuck=>.stuck) else .stuck:=rfl
theorem zb{f:MV->Sl->Mem->SR}{wt:List (Nat × MO)}{xs:List MV}{s:Sl}{m:Mem}(h:oR f wt xs s m≠.stuck):OkW wt m:=by
 cases xs with
 | nil =>
  unfold oR at h
  split at h
  ·assumption
  ·exact absurd rfl h
 | cons x xs =>
  rw[oU] at h
  split at h
  ·assumption
  ·exact absurd rfl h
def tY(tg:MG)(fb:Sl->Mem->SR):MV->Sl->Mem->SR:=λx s m=>match bW tg x s with
  | some s=>fb s m
  | none=>.stuck
theorem QW{tg:MG}{fi:Sl->Mem->R Wk}{fb:Sl->Mem->SR}(h:tS K W g0 H0 (λs m=>(fi s m).toS s λw m=>oR (tY tg fb) w.watch w.items s m) D σ H):tFor (tI K W fi) (gM K tg) (tS K W g0 H0 fb) D σ H:=by
 obtain⟨g,s,m,R,p⟩:=h
 refine⟨g,s,m,R.rs,R.rl,(bY.bind R p).imp λJ H1 ⟨items,g1,m1,rs1,st1,wk,p1⟩=>?_⟩
 obtain⟨n,Gd,Y,w,hn,hG,hY⟩:=wk
 have nstuck:∀{g2:G}{r:SR},bY K W g0 H0 g2 r D->r≠.stuck:=λh z=>by rw[z] at h;exact h
 refine for_it w (Pv:=λi σ2 H2=>∃g2 s2 m2,jg K g0 H0 g2 s2 m2 σ2 H2/\Fle g1 g2/\bY K W g0 H0 g2 (oR (tY tg fb) items.watch (items.items.drop i) s2 m2) D) ⟨g1,s,m1,R.step rs1 st1,Fle.refl _,by simpa using p1⟩ (λi σ2 H2 _ ⟨g2,s2,m2,R2,fl,pq⟩=>hG g2 m2 H2 R2.rs fl (zb (nstuck pq))) ?_ ?_
 ·rintro i x σ2 H2 H3 hi ⟨g2,s2,m2,R2,fl,pq⟩ hy
  have okw:=zb (nstuck pq)
  obtain⟨g3,it,r3,t3,e3,rx⟩:=hY i H2 x H3 g2 m2 hi hy R2.rs fl okw
  have hitem:items.items.drop i=it::items.items.drop (i+1):=by
   obtain⟨hlt,e4⟩:=qQa.mp e3
   rw[List.drop_eq_getElem_cons hlt,e4]
  rw[hitem,oU,if_pos okw] at pq
  unfold tY at pq
  cases ea:bW tg it s2 with
  | none=>rw[ea] at pq;exact pq.elim
  | some s3 =>
   rw[ea] at pq
   refine (R2.step r3 t3).assign ea rx fun σ3 R3=>⟨g3,s3,m2,R3,?_⟩
   have pq:=bY.fle pq t3.fle
   dsimp only at pq
   have fl3:=fl.trans t3.fle
   cases eb:fb s3 m2 with
   | nx s4 m4=>rw[eb] at pq;exact λg4 σ4 H4 R4 f4=>⟨g4,s4,m4,R4,fl3.trans f4,bY.fle pq f4⟩
   | ct s4 m4=>rw[eb] at pq;exact λg4 σ4 H4 R4 f4=>⟨g4,s4,m4,R4,fl3.trans f4,bY.fle pq f4⟩
   | bk s4 m4=>rw[eb] at pq;exact pq
   | rt r=>rw[eb] at pq;exact pq
   | ex c ks ys s4 m4=>rw[eb] at pq;exact pq
   | stuck=>rw[eb] at pq;exact pq.elim
 ·rintro σ2 H2 ⟨g2,s2,m2,R2,fl,pq⟩
  have okw:=zb (nstuck pq)
  rw[hn,List.drop_length] at pq
  have e:oR (tY tg fb) items.watch [] s2 m2=.nx s2 m2:=by unfold oR;rw[if_pos okw]
  rw[e] at pq
  exact pq g2 σ2 H2 R2 (Fle.refl _)
theorem K7{n:Nat}{ft:Sl->Mem->R Bool}{fb:Sl->Mem->SR}(h:tS K W g0 H0 (λs m=>oZ ft fb n s m) D σ H):tWhile (tT K W ft) (tS K W g0 H0 fb) D σ H:=by
 refine⟨λn σ H=>tS K W g0 H0 (λs m=>oZ ft fb n s m) D σ H,⟨n,h⟩,λn σ H h=>?_⟩
 obtain⟨g,s,m,R,p⟩:=h
 cases n with
 | zero=>exact p.elim
 | succ n =>
  refine⟨g,s,m,R.rs,R.rl,(bY.bind (R1:=λ_ _ x v=>x=v) R p).imp λb H1 ⟨x,g1,m1,rs1,st1,r1,p1⟩=>?_⟩
  subst r1
  cases x with
  | false=>exact iteF (p1 g1 σ H1 (R.step rs1 st1) (Fle.refl _))
  | true =>
   refine iteT ⟨fun σ' H'=>tS K W g0 H0 (λs m=>oZ ft fb n s m) D σ' H',fun σ' H' q=>⟨n,Nat.lt_succ_self _,q⟩,g1,s,m1,R.step rs1 st1,?_⟩
   have p1:bY K W g0 H0 g1 (match fb s m1 with
    | .nx s m=>oZ ft fb n s m
    | .ct s m=>oZ ft fb n s m
    | .bk s m=>.nx s m
    | .rt r=>.rt r
    | .ex c ks ys s m=>.ex c ks ys s m
    | .stuck=>.stuck) D:=p1
   cases eb:fb s m1 with
   | nx s4 m4=>rw[eb] at p1;exact λg4 σ4 H4 R4 f4=>⟨g4,s4,m4,R4,bY.fle p1 f4⟩
   | ct s4 m4=>rw[eb] at p1;exact λg4 σ4 H4 R4 f4=>⟨g4,s4,m4,R4,bY.fle p1 f4⟩
   | bk s4 m4=>rw[eb] at p1;exact p1
   | rt r=>rw[eb] at p1;exact p1
   | ex c ks ys s4 m4=>rw[eb] at p1;exact p1
   | stuck=>rw[eb] at p1;exact p1.elim
theorem jg.frz{i:Nat}{o:MO}(R:jg K g0 H0 g s m σ H)(e:s[i]? = some (some (.own o))):∃g',jg K g0 H0 g' (s.set i (some (.v (frz o)))) m σ H/\Fle g g':=by
 obtain⟨a,ea,ob,hF,hr⟩:=R.rl.own i o e
 obtain⟨u,e1,rv⟩:=Iz R.rs hF hr ob
 have hi:i<s.length:=(qQa.mp e).1
 have h0:=R.o0 i o a e ea
 have st:=R.st.frz (o:=u) h0 hF
 have mono:∀b w,g.F b=some w->upd g.F a u b=some w:=λb w q=>by
  rw[upd_ne (λz=>by rw[z,hF] at q;cases q)];exact q
 have fl:Fle g { g with F:=upd g.F a u }:=⟨mono,λ_ _ q=>q⟩
 refine⟨{ g with F:=upd g.F a u },⟨R.rs.vN e1 hr hF (ob.nt e1),⟨λj x q=>?_,λj w q=>?_,λj k o1 o2 c q1 q2 q3 q4=>?_,by simp[R.rl.len]⟩,st,λj w c q1 q2=>?_⟩,fl⟩
 ·by_cases z:i=j
  ·subst z;rw[qQm hi] at q;cases q
   exact⟨_,ea,rv⟩
  ·rw[qQe z] at q
   obtain⟨v,q1,q2⟩:=R.rl.val j x q
   exact⟨v,q1,q2.fle fl⟩
 ·by_cases z:i=j
  ·subst z;rw[qQm hi] at q;cases q
  ·rw[qQe z] at q
   obtain⟨c,q1,q2,q3,q4⟩:=R.rl.own j w q
   have ne:c≠a:=λy=>z (R.rl.dis i j _ _ a e q ea (y ▸ q1))
   exact⟨c,q1,gK.grow q2 fl.1 fl.2 rfl,by show upd g.F a u c=none;rw[upd_ne ne];exact q3,q4⟩
 ·have f:∀{l:Nat}{w:MO},(s.set i (some (.v (Rc.frz o))))[l]? = some (some (.own w))->s[l]? = some (some (.own w)):=λ{l w} q=>by
   by_cases z:i=l
   ·subst z;rw[qQm hi] at q;cases q
   ·rw[qQe z] at q;exact q
  exact R.rl.dis j k o1 o2 c (f q1) (f q2) q3 q4
 ·by_cases z:i=j
  ·subst z;rw[qQm hi] at q1;cases q1
  ·rw[qQe z] at q1;exact R.o0 j w c q1 q2
theorem T6{i:Nat}{f:Sl->Mem->SR} (h:tS K W g0 H0 (λs m=>match s[i]? with
  | some (some (.own o))=>f (s.set i (some (.v (frz o)))) m
  | _=>.stuck) D σ H):tS K W g0 H0 f D σ H:=by
 obtain⟨g,s,m,R,p⟩:=h
 dsimp only at p
 split at p
 ·rename_i o e
  obtain⟨g',R',fl⟩:=R.frz e
  exact⟨g',_,m,R',bY.fle p fl⟩
 ·exact p.elim
end
structure ab9(X:Cx)(x:Str)(C:Addr):Prop where
 gl:Gl X x
 db:(x == ("__debug__":Str))=false
 mg:X.mg x=some (.ref C)
section
variable{X:Cx}{x1 x2 x3 n:Str}{C1 C2 C3:Addr}{i j:Nat}{body suite:List Stmt}{b₀:Stmt}{p1 p2 p3 np pos pos':Pos}{tb:WX->TS}{ts:Addr->Value->Option Addr->TS}
end
section
variable{X:Cx}{f₀:Stmt}{body fs:List Stmt}{pos:Pos}{tf tfs:TS}{tb:WX->TS}{Wout:WX}
theorem fin_exc{pins:List (Addr × Obj)}{D:Ends}{u:Value}{s':Shared}(hs:X.stack=X.env::X.outer)(hf:X.env.frame=some X.env.locals)(hex:X.ex=[])(ok:X.Ok)(tk:L2N.Takes X Wout)
  (hsu:∀(a:Addr) (pn:List (Addr × Obj)),PSs (X.suite a pn) (f₀::fs) tfs) (xx:L2N.XE (X.tr (X.pn++pins) (λx s₁=>wpAny (model X.prog X.w) X.A (noteFrame x X.env) (λ_ s₂=>FinallyRaised X.prog X.w X.A X.xe X.env (f₀::fs) (SP X pins D) x s₂) (FinallyRaised X.prog X.w X.A X.xe X.env (f₀::fs) (SP X pins D)) s₁)) (wFin tfs Wout) u s') :
  wpAny (model X.prog X.w) X.A (noteFrame u X.env) (λ_ s₂=>FinallyRaised X.prog X.w X.A X.xe X.env (f₀::fs) (SP X pins D) u s₂) (FinallyRaised X.prog X.w X.A X.xe X.env (f₀::fs) (SP X pins D)) s':=by
 have hfr:X.A.frames=some (X.env::X.outer):=by rw[ok.frames,hs]
 obtain⟨a,B,sI,pins',σ',H',cls,d,rfl,J',nb,up,sky,na,os,ag,hw⟩:=xx
 have J:Inv X pins σ' H' sI:=J'.ofTry ok
 have sky':Sky B (X.env::X.outer) a (L2N.Zn cls d) X.env.locals s'.heap:=by rw[<- hs];exact sky
 -- behind the first note
 have fin:∀h1,HandSPX.HeldZ B (X.env::X.outer) a (L2N.Zn cls d) X.env.locals h1->s'.heap.UpToSlots h1->FinallyRaised X.prog X.w X.A X.xe X.env (f₀::fs) (SP X pins D) (.ref a) { s' with heap:=h1 }:=λh1 hh1 up1=>by
  refine⟨ref_ne_byPass a,HandSPX.againZ hf hh1.2.2.2 (HandSPX.landsZ hh1 λh3 fl3 up3=>?_)⟩
  have J3:Inv X pins σ' H' { s' with heap:=h3 }:=J.landed nb fl3.1 ((up.trans up1).trans up3) os ag
  obtain⟨k1,k2,k3,oe,vs,T,oT,ts,he3,hz,hd,hv1,hnT,hTe,hT,hdT,ht3⟩:=id fl3
  have nT:H' T=none:=(J.inGround nb).gone hnT
  have notFr:∀(b:Addr) (o:Obj) (fv:Array Value),h3.get? b=some o->o.data=.fields fv->b∉frs (X.env::X.outer):=λb o fv e dd hm=>by
   obtain⟨_,o',e',hnf⟩:=k3.mem hm
   have eo:o=o':=qQ5 (e.symm.trans e')
   rw[<- eo] at hnf
   exact hnf _ dd
  have locF:X.env.locals∈frs (X.env::X.outer):=List.mem_filterMap.mpr ⟨X.env,qQc,hf⟩
  have fsF:∀b,b∈X.fs->b∈frs (X.env::X.outer):=λb hm=>by
   obtain⟨e,he,q⟩:=List.mem_filterMap.mp hm
   exact List.mem_filterMap.mpr ⟨e,qQd _ he,q⟩
  have fa:=notFr a oe vs he3 hd
  have fT:=notFr T oT ts hT hdT
  have S3:Inv (X.suite a ((a,oe)::(T,oT)::(X.pn++pins))) [] σ' H' { s' with heap:=h3 } :=
   ⟨J3.ok.suite _ _,J3.os,J3.bare,J3.base,J3.loc,J3.cell,J3.free,J3.freeC,λp hp=>by
    rw[qQy] at hp
    rcases qQj.mp hp with z|hp
    ·rw[z]
     exact⟨he3,na,λz2=>fa (by rw[show a=X.env.locals from z2];exact locF),λz2=>fa (fsF _ z2),λv z2=>by
      have z3:oe.data=.cell v:=z2
      rw[hd] at z3
      cases z3⟩
    ·rcases qQj.mp hp with z|hp
     ·rw[z]
      exact⟨hT,nT,λz2=>fT (by rw[show T=X.env.locals from z2];exact locF),λz2=>fT (fsF _ z2),λv z2=>by
       have z3:oT.data=.cell v:=z2
       rw[hdT] at z3
       cases z3⟩
     ·exact J3.pin p hp,J3.hok,J3.len⟩
  refine wpAny_mono ((hsu a ((a,oe)::(T,oT)::(X.pn++pins))).run [] { s' with heap:=h3 } σ' H' { nx:=fun σ2 H2=>Wout cls d σ2 H2,rt:=λ_ _=>False } S3 hw) (λg s6 hsp=>?_) λ_ _ z=>False.elim z
  cases g with
  | ret u =>
   obtain⟨_,_,_,_,_,q⟩:=hsp
   exact False.elim q
  | brk =>
   obtain⟨_,_,_,q⟩:=hsp
   exact False.elim q
  | cont =>
   obtain⟨_,_,_,q⟩:=hsp
   exact False.elim q
  | next =>
   obtain⟨σ6,H6,S6,q6⟩:=hsp
   have J6:Inv X pins σ6 H6 s6:=⟨ok,S6.os,S6.bare,S6.base,S6.loc,S6.cell,S6.free,S6.freeC,λp hp=>S6.pin p (qQw _ (qQd _ (qQd _ hp))),S6.hok,S6.len⟩
   have pa:=S6.pin (a,oe) (qQw _ qQc)
   have pT:=S6.pin (T,oT) (qQw _ (qQd _ qQc))
   have ga:s6.heap.get? a=some oe:=pa.1
   have gT:s6.heap.get? T=some oT:=pT.1
   have na6:H6 a=none:=pa.2.1
   have nT6:H6 T=none:=pT.2.1
   -- what is not the exception's
   have far:∀b o,sI.heap.get? b=some o->b≠a/\b≠T:=λb o e=>by
    by_cases hb:b∈frs X.stack
    ·rw[hs] at hb
     exact⟨λz=>fa (by rw[<- z];exact hb),λz=>fT (by rw[<- z];exact hb)⟩
    ·have q:=nb b o e hb
     exact⟨λz=>by
      rw[z,k2] at q
      exact (nomatch q),λz=>by
      rw[z,hnT] at q
      cases q⟩
   have far0:∀b o,X.s_0.heap.get? b=some o->b≠a/\b≠T:=λb o e=>by
    obtain⟨o',q⟩:=J.base.there b o e (by rw[hex];simp)
    exact far b o' q
   have farP:∀p∈X.pn++pins,p.1≠a/\p.1≠T:=λp hp=>far p.1 p.2 (J.pin p hp).1
   obtain⟨G,g1,g2⟩:=restrict s6.heap λb=>!(decide (b=a) || decide (b=T))
   have gIn:∀b o,G.get? b=some o->s6.heap.get? b=some o/\b≠a/\b≠T:=λb o e=>by
    cases q:(!(decide (b=a) || decide (b=T))) with
    | false =>
     rw[g2 b q] at e
     cases e
    | true =>
     rw[g1 b q] at e
     simp only[Bool.not_eq_true',Bool.or_eq_false_iff,decide_eq_false_iff_not] at q
     exact⟨e,q.1,q.2⟩
   have gOf:∀b o,b≠a->b≠T->s6.heap.get? b=some o->G.get? b=some o:=λb o h1 h2 e=>by
    rw[g1 b (by simp[h1,h2])]
    exact e
   have I6:Inv X pins σ6 H6 { s6 with heap:=G }:=J6.less (λb o e=>(gIn b o e).1) gOf ⟨oe,vs,ga,hd⟩ ⟨oT,ts,gT,hdT⟩ na6 nT6 far0 farP
   -- the ground behind the suite
   have B6in:∀b o,(PySem.W.hideAll G (frs X.stack)).get? b=some o->s6.heap.get? b=some o:=λb o e=>(gIn b o (PySem.W.of_hideAll _ e)).1
   have Bno:∀b,(b=a\/b=T)->(PySem.W.hideAll G (frs X.stack)).get? b=none:=λb hb=>by
    cases q:(PySem.W.hideAll G (frs X.stack)).get? b with
    | none=>rfl
    | some o =>
     obtain⟨_,n1,n2⟩:=gIn b o (PySem.W.of_hideAll _ q)
     rcases hb with z|z
     ·exact absurd z n1
     ·exact absurd z n2
   have fl6:HandSPX.FlyingZ (PySem.W.hideAll G (frs X.stack)) (X.env::X.outer) a (L2N.Zn cls d) s6.heap:=by
    refine⟨B6in,Bno a (.inl rfl),?_,oe,vs,T,oT,ts,ga,hz,hd,hv1,Bno T (.inr rfl),hTe,gT,hdT,ht3⟩
    have ff:=funFrames_none (B:=PySem.W.hideAll G (frs X.stack)) J6.stack λb hb=>PySem.W.hideAll_none _ hb
    rw[<- hs]
    exact ff
   show wpAny (model X.prog X.w) X.A (PySem.passOn "try.finally" (.ref a) X.env) (SP X pins D) X.xe s6
   unfold PySem.passOn
   refine wpAny_bind (wpAny_field ga hd hv1 ?_)
   rw[if_neg (show ¬ ((Value.ref T == Value.none)=true) from by simp)]
   have goOn:wpAny (model X.prog X.w) X.A (setFlight (.ref a) X.env.frame) (λ_ s7=>wpAny (model X.prog X.w) X.A (throw (.ref a):Sem Flow) (SP X pins D) X.xe s7) X.xe s6:=by
    rw[hf]
    refine HandSPX.setFlight_upZ fl6 λh7 hh7 up7=>wpAny_throw (tk _ _ ?_)
    refine⟨a,PySem.W.hideAll G (frs X.stack),{ s6 with heap:=G },pins,σ6,H6,cls,d,rfl,I6,λb o e hb=>PySem.W.hideAll_get _ e hb,?_,.inr (.inr (by rw[<- hs] at hh7;exact hh7)),na6,rfl,J6.bare,q6⟩
    exact Heap.UpToSlots.trans (Heap.UpToSlots.of_keeps λb o e=>(gIn b o e).1) up7
   first
    | exact wpAny_bind (wpAny_pure (wpAny_bind goOn))
    | exact wpAny_bind goOn
 show wpAny (model X.prog X.w) X.A (noteFrame (.ref a) X.env) _ _ _
 rcases sky' with⟨hB,hn,hl,oe,vs,he0,hz,hd,hv1⟩|fl|hh
 ·exact PXN.look_newZ L2N.Zn.steady hfr hl hf he0 hB hn hd hv1 hz fin
 ·exact PXN.looks_onZ L2N.Zn.steady hfr hf fl fin
 ·exact HandSPX.againZ hf hh.2.2.2 (fin s'.heap hh (Heap.UpToSlots.refl _))
theorem QC(hs:X.stack=X.env::X.outer)(hf:X.env.frame=some X.env.locals)(hex:X.ex=[])(tk:L2N.Takes X Wout)(hw:PassesOwn (model X.prog X.w) X.A X.env X.xe)
  (hb:∀(W:WX) (pn:List (Addr × Obj)) (xe:Value->Shared->Prop),L2N.Takes (X.tr pn xe) W->PassesOwn (model X.prog X.w) X.A X.env xe->PSs (X.tr pn xe) body (tb W))
  (hfin:PSs X.nox (f₀::fs) tf) (hsu:∀(a:Addr) (pn:List (Addr × Obj)),PSs (X.suite a pn) (f₀::fs) tfs):PS X (.Try body [] [] (f₀::fs) pos) (λD σ H=>tb (wFin tfs Wout) { nx:=fun σ1 H1=>tf D σ1 H1,rt:=λ_ _=>False } σ H):=by
 refine⟨λpins s σ H D I h=>?_⟩
 have ok:=I.ok
 refine wpAny_Try_finally ?_
 refine wpAny_mono ((hb (wFin tfs Wout) (X.pn++pins) (λx s₁=>wpAny (model X.prog X.w) X.A (noteFrame x X.env) (λ_ s₂=>FinallyRaised X.prog X.w X.A X.xe X.env (f₀::fs) (SP X pins D) x s₂) (FinallyRaised X.prog X.w X.A X.xe X.env (f₀::fs) (SP X pins D)) s₁)
  (λu s' xx=>?_) PassesOwn.looking).run [] s σ H _ (I.toTry _) h) (λg s1 z=>?_) (λx s1 hx=>hx)
 ·exact fin_exc hs hf hex ok tk hsu xx
 ·cases g with
  | next =>
   obtain⟨σ',H',J',q⟩:=z
   refine wpAny_execs_nil ?_
   refine wpAny_mono (hfin.run pins s1 σ' H' D ((J'.ofTry ok).wish _) q) (λg s2 q2=>?_) λ_ _ z=>False.elim z
   have q':SP X pins D g s2:=q2.unwish
   cases g <;> exact q'
  | brk=>obtain⟨_,_,_,q⟩:=z;exact q.elim
  | cont=>obtain⟨_,_,_,q⟩:=z;exact q.elim
  | ret u=>obtain⟨_,_,_,_,_,q⟩:=z;exact q.elim
end
end Rc
namespace RgF
open PySem PySem.Spec L2 Rc GenW
open PyProof.Rows hiding St
def lE(s:Sl):Bool:=s.all λ
 | some (.own _)=>false
 | _=>true
theorem jc{s:Sl}(h:lE s=true)(i:Nat)(o:MO):s[i]?≠some (some (.own o)):=λe=>by
 have:=qQ0.mp h _ (qQg e)
 cases this
def turnG(tg:MG)(fb:Sl->Mem->SR):MV->Sl->Mem->SR:=λx s m=>match tY tg fb x s m with
 | .nx s m=>if lE s=true then .nx s m else .stuck
 | .ct s m=>if lE s=true then .ct s m else .stuck
 | .bk s m=>if lE s=true then .bk s m else .stuck
 | .rt (.ok x m)=>.rt (.ok x m)
 | _=>.stuck
def T9(r:R (List MV))(s:Sl)(tg:MG)(fb:Sl->Mem->SR):SR:=r.toS s λL m=>if lE s=true then oR (turnG tg fb) [] L s m else .stuck
abbrev noX(X:Cx):Cx:={ X with xe:=λ_ _=>False }
theorem _root_.L2.Inv.noX{X:Cx}{pins:Pl}{σ:L2.St}{H:Hp}{s:Shared}(I:Inv X pins σ H s):Inv (RgF.noX X) pins σ H s :=
 ⟨⟨I.ok.mod,I.ok.kind,I.ok.glob,I.ok.blt,I.ok.above,I.ok.inj,I.ok.has,I.ok.cab,I.ok.hd,I.ok.frames,I.ok.stk,I.ok.exf,I.ok.bs,I.ok.bsz,I.ok.noex,I.ok.exfs,I.ok.funs,I.ok.frf⟩,I.os,I.bare,I.base,I.loc,I.cell,I.free,I.freeC,I.pin,I.hok,I.len⟩
theorem _root_.L2.Inv.Yb{X:Cx}{pins:Pl}{σ:L2.St}{H:Hp}{s:Shared}(I:Inv (RgF.noX X) pins σ H s):Inv X pins σ H s :=
 ⟨⟨I.ok.mod,I.ok.kind,I.ok.glob,I.ok.blt,I.ok.above,I.ok.inj,I.ok.has,I.ok.cab,I.ok.hd,I.ok.frames,I.ok.stk,I.ok.exf,I.ok.bs,I.ok.bsz,I.ok.noex,I.ok.exfs,I.ok.funs,I.ok.frf⟩,I.os,I.bare,I.base,I.loc,I.cell,I.free,I.freeC,I.pin,I.hok,I.len⟩
theorem _root_.Rc.Stp.lay{g g':G}{H V:Hp}{pl:Pl}(st:Stp g H g' V)(hid:Hid g' V pl):Stp g H g' (cW V pl):=by
 refine⟨st.F,st.r,λb u e hn nt=>hid.lay (st.keep b u e hn nt),λb e=>?_,λb e=>?_,st.rn⟩
 ·cases q:V b with
  | none=>exact absurd q (st.dom b e)
  | some u=>rw[hid.lay q];simp
 ·rcases st.Fn b e with y|y|y|⟨ys,y⟩
  ·exact .inl y
  ·exact .inr (.inl y)
  ·exact .inr (.inr (.inl y))
  ·exact .inr (.inr (.inr ⟨ys,hid.lay y⟩))
theorem Ri{K:Ki}{g:G}{s:Sl}{σ:L2.St}{H H':Hp}(rl:RSl K g s σ H)(h:lE s=true):RSl K g s σ H':=⟨rl.val,λi o e=>absurd e (jc h i o),λi j o u a e=>absurd e (jc h i o),rl.len⟩
section
variable{X:Cx}
theorem zR{K:Ki}{W:WX}{g0 g:G}{H0 H:Hp}{s:Sl}{m:Mem}{σ:L2.St}{D:Ends}{r:R (List MV)}{k:List MV->Mem->SR}(R:jg K g0 H0 g s m σ H)(h:bY K W g0 H0 g (r.toS s k) D):
  O3 K (WE W σ) g H r λL g1 m1 H1=>bY K W g0 H0 g1 (k L m1) D/\Stp g H g1 H1:=by
 cases r with
 | ok L m'=>exact λg' H' a b=>⟨bY.fle h b.fle,b⟩
 | exc c ks xs m'=>exact λg1 cls d H1 a b e=>h g1 cls d σ H1 (R.step a b) b.fle e
 | stuck=>exact h
theorem Qc{W:WX}{iter tg:Expr}{body:List Stmt}{mg:MG}{fi:Sl->Mem->R (List MV)}{fb:Sl->Mem->SR}{pos:Pos}(hp:PassesOwn (model X.prog X.w) X.A X.env X.xe)(calm:X.calm=true)(hi:PGn X W iter fi)(hg:PG (noX X) tg (gM X.ki mg))(hb:∀g0 H0,PSs (noX X) body (tS X.ki W0 g0 H0 fb))
  (hs:∀x,foldedSetIterable iter X.env x=pure x) (g0:G) (H0:Hp):PS X (.For tg iter body [] pos) (tS X.ki W g0 H0 λs m=>T9 (fi s m) s mg fb):=by
 refine⟨λpins s σ H D I h=>?_⟩
 obtain⟨g,sl,m,R0,p0⟩:=h
 refine wpAny_For (thn (hi pins s σ H g sl m _ I R0.rs R0.rl (zR R0 p0)) λxv sa ha=>?_) hs
 obtain⟨L,g1,m1,H1,s1,⟨p1,_⟩,I1,rs1,st1,P,j,a,ao,gi,c,rfl,c1,c2,c3,c4,c5,md,hroom,_⟩:=ha
 obtain⟨pr,w0,K0,mg0,b0,N0,env0,out0,A0⟩:=P
 dsimp only at c1 c2 c3 c4 c5
 subst c1 c2 c3 c4 c5
 have c6:out0=X.stack:=md.out
 subst c6
 have isg:=md.isg _ md.obj
 refine wpAny_pyIter_gen isg ?_
 by_cases cs:lE sl=true
 case neg=>rw[if_neg cs] at p1;exact p1.elim
 rw[if_pos cs] at p1
 have Ia:Inv X pins σ H1 sa:=I1.call' (ch:=[]) md.os (Un.kept md.keep) (I1.hok.kept md.keep) md.bare λb z=>absurd z (by simp)
 have hn:env0.locals=s1.heap.objs.size:=md.loc
 have ale:env0.locals<=a:=by rw[hn];exact md.old
 have fresh1:∀b,env0.locals<=b->H1 b=none:=λb hb=>I1.hok.fresh (by rw[<- hn];exact hb)
 have locLt:X.env.locals<env0.locals:=by rw[hn];exact I1.lt
 have hcell:∀x c,X.env.cells.lookup x=some c->c<env0.locals:=λx c e=>by
  obtain⟨w,z⟩:=I1.cell _ _ e
  rw[hn];exact z.lt
 obtain⟨p,ep⟩:∃p:GP,p=⟨X.prog,X.w,X.K,X.mg,X.base,N0,env0,X.stack,X.A.in1⟩:=⟨_,rfl⟩
 have slp0:Slp p L (iw sa.heap env0.locals a) g1.F (.fresh c):=by
  rw[ep]
  exact md.slp X.A.in1 hroom I.ok.frames
 have penv:p.env=env0:=by rw[ep]
 have mkLie:∀(V:Hp) (pl:Pl) (u:Shared),(∀q∈pl,p.env.locals<=q.1)->Lie p X u (cW V pl) pl:=λV pl u ge=>by
  refine⟨by rw[ep],by rw[ep],by rw[ep],by rw[ep],by rw[ep],by rw[ep],by rw[ep],.inl (by rw[penv];exact locLt),by rw[penv];exact hcell,λb h1 h2 h3=>?_,ge⟩
  have q1:=I.ok.above
  rw[penv] at h1
  exact absurd (qQ2 h2 (Nat.le_trans q1 (Nat.le_trans (Nat.le_of_lt locLt) h1))) (Nat.lt_irrefl _)
 have fok:∀b,env0.locals<=b->FpOk X pins H1 b:=λb hb=>I1.fpOk (by rw[<- hn];exact hb) (fresh1 b hb)
 have Ie:L2.Inv X pins σ (cW (cW H1 [(a,ao)]) (iw sa.heap env0.locals a)) sa:=by
  have two:∀q:Addr × Obj,env0.locals<=q.1->sa.heap.get? q.1=some q.2->sa.heap.get? q.1=some q.2/\H1 q.1=none/\q.1≠X.env.locals/\(∀x c,X.env.cells.lookup x=some c->c≠q.1)/\(∀r∈X.pn++pins,r.1≠q.1)/\(q.1∈X.ex\/X.s_0.heap.objs.size<=q.1):=λq h1 h2=>by
   obtain⟨f0,f1,f2,f3,f4,f5⟩:=fok q.1 h1
   exact⟨h2,f0,f1,f4,f5,f3⟩
  refine (Ia.cW (pl:=[(a,ao)]) λq hq=>?_).cW λq hq=>?_
  ·rw[qQk.mp hq]
   exact two (a,ao) ale md.obj
  ·obtain⟨h1,h2,h3⟩:=gR hq
   obtain⟨t1,t2,t3⟩:=two q h1 h3
   refine⟨t1,?_,t3⟩
   show upd H1 a _ q.1=none
   rw[upd_ne h2];exact t2
 obtain⟨rs1a,st1a⟩:=rs1.grow (o:=rH (a,ao)) (fresh1 a ale)
 have hid0:Hid g1 (cW H1 [(a,ao)]) (iw sa.heap env0.locals a):=⟨λq hq=>by
  obtain⟨h1,h2,h3⟩:=gR hq
  show upd H1 a _ q.1=none
  rw[upd_ne h2]
  exact fresh1 _ h1,Ef.of λq hq=>(gR hq).2.2⟩
 have held0:Held p a ao gi L g1 (cW H1 [(a,ao)]) (iw sa.heap env0.locals a) sa :=
  ⟨⟨g1.F,.fresh c,md.gen,slp0,λ_ _ z=>z⟩,md.isg,upd_same,(rs1.free (fresh1 a ale)).1,(rs1.free (fresh1 a ale)).2,hid0,λq hq=>by rw[penv];exact (gR hq).1⟩
 have R1:jg X.ki g0 H0 g1 sl m1 σ (cW H1 [(a,ao)]):=(R0.step rs1 st1).step rs1a st1a
 refine codeAny_forLoop_any (λn u=>∃g2 sl2 m2 σ2 V2 pl2 Lr,Lr.length=n/\lE sl2=true/\L2.Inv X pins σ2 (cW V2 pl2) u/\jg X.ki g0 H0 g2 sl2 m2 σ2 V2/\Held p a ao gi Lr g2 V2 pl2 u /\
  bY X.ki W g0 H0 g2 (oR (turnG mg fb) [] Lr sl2 m2) D) (λn u hu=>?_) L.length ⟨g1,sl,m1,σ,_,_,L,rfl,cs,Ie,R1,held0,p1⟩
 obtain⟨g2,sl2,m2,σ2,V2,pl2,Lr,eL,cs2,J2,R2,held2,pq⟩:=hu
 obtain⟨F2,gs,hgs,slp2,hF2⟩:=held2.gs
 have rs2:=R2.rs
 have lie:=mkLie V2 pl2 u held2.ge
 have rs2p:Rs p.ki g2 m2 V2:=by rw[ep];exact rs2
 have wk:=lie.wake J2 held2.hid rs2p hF2 (gi:=gi)
 have isg2:u.heap.IsGen a gi:=held2.isg _ (oX (q:=(a,ao)) J2.hok (held2.hid.lay held2.at_))
 have hgl:gi+1<=u.gens.size:=(Array.getElem?_eq_some_iff.mp hgs).1
 have hdep:X.A.depth<recursionLimit:=by
  have h1:=(hroom X.env).dp
  have h2:X.A.depth+1+3 * j+5<recursionLimit:=h1
  omega
 have emd:p.md=model X.prog X.w:=by rw[ep]
 refine wpAny_gsz hgl ?_
 rw[<- emd]
 refine Bm (p:=p) (A:=X.A) (a:=a) (by rw[ep]) (I.ok.hd calm) J2.nolimit hdep isg2 hgs slp2 wk (λeN s4 F' H' h' aft hk _=>?_) (λy Lr' eY v s4 F' H' x pv gs' aft rx ry hpv slp' hsu hbr hsz=>?_)
 ·rw[emd]
  subst eN
  have J3:L2.Inv X pins σ2 H' { s4 with gens:=(s4.setGen gi .finished).gens }:=lie.back (pv:=[]) J2 held2.hid aft (λq hq=>by cases hq) (λq hq=>by cases hq) (G':=(s4.setGen gi .finished).gens) (allBare_setGen aft.bare rfl)
  have J4:L2.Inv X pins σ2 H' { s4.setGen gi .finished with heap:=h' }:=J3.call' (s':={ s4.setGen gi .finished with heap:=h' }) (ch:=[]) rfl (Un.kept hk) (J3.hok.kept hk) (allBare_setGen aft.bare rfl) λb z=>absurd z (by simp)
  obtain⟨rs3,st3⟩:=Lie.Km rs2p aft
  rw[ep] at rs3
  have e0:oR (turnG mg fb) [] [] sl2 m2=.nx sl2 m2:=by unfold oR;rw[if_pos (d7 _)]
  rw[e0] at pq
  exact wpAny_execs_nil ⟨σ2,H',J4,pq _ σ2 H' (R2.step rs3 st3) st3.fle⟩
 ·rw[emd]
  have hidv:Hid (⟨F',g2.r⟩:G) H' pv:=⟨λq hq=>(hpv.at_ q hq).2.1,Ef.of λq hq=>(hpv.at_ q hq).1⟩
  have gl4:gi<s4.gens.size:=by
   have:=setGen_size s4 gi gs'
   rw[this] at hsz;omega
  have J3:L2.Inv X pins σ2 (cW H' pv) (s4.setGen gi gs'):=lie.back (pv:=pv) J2 held2.hid aft hpv.at_ (λq hq r hr=>hpv.ep q hq r hr) (G':=(s4.setGen gi gs').gens) (allBare_setGen aft.bare hbr)
  obtain⟨rs3,st3⟩:=Lie.Km rs2p aft
  obtain⟨a1,a2,a3⟩:=Bg held2.at_ held2.hF held2.hr st3
  have held3:Held p a ao gi Lr' ⟨F',g2.r⟩ H' pv (s4.setGen gi gs'):=⟨⟨F',gs',setGen_at gl4,slp',λ_ _ z=>z⟩,held2.isg,a1,a2,a3,hidv,λq hq=>(hpv.at_ q hq).2.2⟩
  have sus3:∃gs,(s4.setGen gi gs').gens[gi]? = some gs/\oF gs=true:=⟨gs',setGen_at gl4,hsu⟩
  rw[ep] at rs3 ry
  have ry3:RV X.ki ⟨F',g2.r⟩ y x:=RV.mono (g:=fz F') (g':=⟨F',g2.r⟩) (λ_ _ e=>e) (λn b e=>by cases e) y ry
  have R3:=R2.step rs3 st3
  have pq:=bY.fle pq st3.fle
  refine yc (gi:=gi) (held3.isg _ (oX (q:=(a,ao)) J3.hok (hidv.lay a1))) ?_
  rw[eY,oU,if_pos (d7 _)] at pq
  unfold turnG tY at pq
  cases ea:bW mg y sl2 with
  | none=>rw[ea] at pq;exact pq.elim
  | some sa2 =>
   rw[ea] at pq
   dsimp only at pq
   have cs3:lE sa2=true:=by
    rw[lE,qQ0]
    intro x hx
    obtain⟨i,hi,e⟩:=List.mem_iff_getElem.mp hx
    have e2:sa2[i]? = some x:=by rw[qQf hi,e]
    cases x with
    | none=>rfl
    | some z =>
     cases z with
     | v z=>rfl
     | own o=>exact absurd e2 (by
       have go:∀{is:List Nat}{xs:List MV}{s s2:Sl},iy s is xs=some s2->(∀(i:Nat) o,s[i]?≠some (some (.own o)))->∀(i:Nat) o,s2[i]?≠some (some (.own o)):=by
        intro is
        induction is with
        | nil =>
         intro xs s s2 h n
         cases xs with
         | nil=>cases h;exact n
         | cons a b=>cases h
        | cons i is ih =>
         intro xs s s2 h n
         cases xs with
         | nil=>cases h
         | cons a b =>
          refine ih (s:=s.set i (some (.v a))) h λj o=>?_
          by_cases q:i=j
          ·subst q
           rw[List.getElem?_set]
           split
           ·split <;> (intro z;cases z)
           ·exact n _ _
          ·rw[qQe q];exact n j o
       cases mg with
       | name k=>exact go (is:=[k]) (xs:=[y]) ea (jc cs2) i o
       | tup ks =>
        cases y with
        | tup xs=>exact go (xs:=xs) ea (jc cs2) i o
        | lst xs=>exact go (xs:=xs) ea (jc cs2) i o
        | _=>cases ea)
   have lt:Lr'.length<n:=by rw[<- eL,eY];exact Nat.lt_succ_self _
   refine wpAny_noRaise ?_
   refine Td (X:=noX X) hg rfl J3.noX hidv rs3 R3.rl rx ry3 ea λvs u4 J4 rl4 k4=>?_
   obtain⟨held4,sus4⟩:=held3.step sus3 (Stp.refl _ _) hidv k4
   -- the body
   have Rb:jg X.ki ⟨F',g2.r⟩ (cW H' pv) ⟨F',g2.r⟩ sa2 m2 (wX σ2 mg.slots vs) (cW H' pv):=⟨hidv.rs rs3,hidv.rl rl4,Stp.refl _ _,λi o a e=>absurd e (jc cs3 i o)⟩
   obtain⟨G4,eG4⟩:∃G4:G,G4=⟨F',g2.r⟩:=⟨_,rfl⟩
   rw[<- eG4] at Rb rs3 R3 hidv held4 st3
   have after:∀{s':Sl}{m':Mem}{g5:G}{σ5:L2.St}{H5:Hp},lE s'=true->jg X.ki G4 (cW H' pv) g5 s' m' σ5 H5->∃V5,cW V5 pv=H5/\Hid g5 V5 pv/\Stp G4 H' g5 V5/\jg X.ki g0 H0 g5 s' m' σ5 V5:=λ{s' m' g5 σ5 H5} c5 R5=>by
    obtain⟨sn,rso⟩:=hidv.step rs3 R5.st R5.rs
    exact⟨yf H5 pv,sn.eq,sn.hid,sn.st,rso,Ri R5.rl c5,R3.st.trans sn.st,λi o a e=>absurd e (jc c5 i o)⟩
   have go:∀{DD:Ends},bY X.ki W0 G4 (cW H' pv) G4 (fb sa2 m2) DD->(∀f u5,Kept u4.gens u5.gens->SP X pins DD f u5->(match f with
      | .next|.cont=>∃m,m<n/\∃g2 sl2 m2 σ2 V2 pl2 Lr,Lr.length=m/\lE sl2=true/\L2.Inv X pins σ2 (cW V2 pl2) u5/\jg X.ki g0 H0 g2 sl2 m2 σ2 V2/\Held p a ao gi Lr g2 V2 pl2 u5/\bY X.ki W g0 H0 g2 (oR (turnG mg fb) [] Lr sl2 m2) D
      | .brk=>SP X pins D .next u5
      | .ret v=>SP X pins D (.ret v) u5))->wpAny (model X.prog X.w) X.A (execs body X.env) (λf s₃=>match f with
      | .next|.cont=>∃m,m<n/\∃g2 sl2 m2 σ2 V2 pl2 Lr,Lr.length=m/\lE sl2=true/\L2.Inv X pins σ2 (cW V2 pl2) s₃/\jg X.ki g0 H0 g2 sl2 m2 σ2 V2/\Held p a ao gi Lr g2 V2 pl2 s₃/\bY X.ki W g0 H0 g2 (oR (turnG mg fb) [] Lr sl2 m2) D
      | .brk=>SP X pins D .next s₃
      | .ret v=>SP X pins D (.ret v) s₃) (notedBy (model X.prog X.w) X.A X.env λe s'=>cameBackBy (model X.prog X.w) X.A X.env X.xe e s') u4:=λ{DD} hpost hend=>by
    refine asl J4.bare ((hb G4 (cW H' pv)).run pins { u4 with gens:=u4.gens.map iU } _ _ DD (J4.gens (gq J4.bare)) ⟨G4,sa2,m2,Rb,hpost⟩) (λf u5 A5 q hb5 k5=>?_) λ_ _ _ q=>q.elim
    refine hend f u5 k5 ?_
    cases f with
    | next=>obtain⟨σ',H'',J',d⟩:=q;exact⟨σ',H'',(J'.qm (hb5 J'.bare)).Yb,d⟩
    | brk=>obtain⟨σ',H'',J',d⟩:=q;exact⟨σ',H'',(J'.qm (hb5 J'.bare)).Yb,d⟩
    | cont=>obtain⟨σ',H'',J',d⟩:=q;exact⟨σ',H'',(J'.qm (hb5 J'.bare)).Yb,d⟩
    | ret z=>obtain⟨w,σ',H'',J',rz,d⟩:=q;exact⟨w,σ',H'',(J'.qm (hb5 J'.bare)).Yb,rz,d⟩
   have fle5:Fle g2 G4:=st3.fle
   cases eb:fb sa2 m2 with
   | stuck=>rw[eb] at pq;exact pq.elim
   | ex c ks ys s5 m5=>rw[eb] at pq;exact pq.elim
   | nx s5 m5 =>
    rw[eb] at pq
    dsimp only at pq
    by_cases c5:lE s5=true
    case neg=>rw[if_neg c5] at pq;exact pq.elim
    rw[if_pos c5] at pq
    refine go (DD:={ nx:=fun σ5 H5=>∃g5,jg X.ki G4 (cW H' pv) g5 s5 m5 σ5 H5/\Fle G4 g5,rt:=λ_ _=>False }) (by rw[eb];exact λg5 σ5 H5 R5 f5=>⟨g5,R5,f5⟩) λf u5 k5 q=>?_
    cases f with
    | next =>
     obtain⟨σ5,H5,J5,g5,R5,f5⟩:=q
     obtain⟨V5,rfl,hid5,st5,R6⟩:=after c5 R5
     obtain⟨held5,_⟩:=held4.step sus4 st5 hid5 k5
     exact⟨_,lt,g5,s5,m5,σ5,V5,pv,Lr',rfl,c5,J5,R6,held5,bY.fle pq (by rw[<- eG4];exact f5)⟩
    | brk=>obtain⟨_,_,_,q⟩:=q;exact q.elim
    | cont=>obtain⟨_,_,_,q⟩:=q;exact q.elim
    | ret z=>obtain⟨_,_,_,_,_,q⟩:=q;exact q.elim
   | ct s5 m5 =>
    rw[eb] at pq
    dsimp only at pq
    by_cases c5:lE s5=true
    case neg=>rw[if_neg c5] at pq;exact pq.elim
    rw[if_pos c5] at pq
    refine go (DD:={ nx:=λ_ _=>False,ct:=fun σ5 H5=>∃g5,jg X.ki G4 (cW H' pv) g5 s5 m5 σ5 H5/\Fle G4 g5,rt:=λ_ _=>False }) (by rw[eb];exact λg5 σ5 H5 R5 f5=>⟨g5,R5,f5⟩) λf u5 k5 q=>?_
    cases f with
    | cont =>
     obtain⟨σ5,H5,J5,g5,R5,f5⟩:=q
     obtain⟨V5,rfl,hid5,st5,R6⟩:=after c5 R5
     obtain⟨held5,_⟩:=held4.step sus4 st5 hid5 k5
     exact⟨_,lt,g5,s5,m5,σ5,V5,pv,Lr',rfl,c5,J5,R6,held5,bY.fle pq (by rw[<- eG4];exact f5)⟩
    | brk=>obtain⟨_,_,_,q⟩:=q;exact q.elim
    | next=>obtain⟨_,_,_,q⟩:=q;exact q.elim
    | ret z=>obtain⟨_,_,_,_,_,q⟩:=q;exact q.elim
   | bk s5 m5 =>
    rw[eb] at pq
    dsimp only at pq
    by_cases c5:lE s5=true
    case neg=>rw[if_neg c5] at pq;exact pq.elim
    rw[if_pos c5] at pq
    refine go (DD:={ nx:=λ_ _=>False,bk:=fun σ5 H5=>∃g5,jg X.ki G4 (cW H' pv) g5 s5 m5 σ5 H5/\Fle G4 g5,rt:=λ_ _=>False }) (by rw[eb];exact λg5 σ5 H5 R5 f5=>⟨g5,R5,f5⟩) λf u5 k5 q=>?_
    cases f with
    | brk =>
     obtain⟨σ5,H5,J5,g5,R5,f5⟩:=q
     obtain⟨V5,rfl,hid5,st5,R6⟩:=after c5 R5
     exact⟨σ5,_,J5,pq g5 σ5 _ ⟨hid5.rs R6.rs,hid5.rl R6.rl,R6.st.lay hid5,R6.o0⟩ (by rw[<- eG4];exact f5)⟩
    | cont=>obtain⟨_,_,_,q⟩:=q;exact q.elim
    | next=>obtain⟨_,_,_,q⟩:=q;exact q.elim
    | ret z=>obtain⟨_,_,_,_,_,q⟩:=q;exact q.elim
   | rt r5 =>
    rw[eb] at pq
    cases r5 with
    | ok x5 m5 =>
     refine go (DD:={ nx:=λ_ _=>False,rt:=λw H5=>∃g5,Rs X.ki g5 m5 H5/\Stp G4 (cW H' pv) g5 H5/\RV X.ki g5 x5 w }) (by rw[eb];exact λg5 w H5 a b c=>⟨g5,a,b,c⟩) λf u5 k5 q=>?_
     cases f with
     | ret z =>
      obtain⟨w,σ5,H5,J5,rz,g5,rs5,st5,rv5⟩:=q
      have pq:sX X.ki (λ_ _ _=>False) g0 H0 (.ok x5 m5) D.rt:=pq
      exact⟨w,σ5,H5,J5,rz,pq g5 w H5 rs5 ((R3.st.lay hidv).trans st5) rv5⟩
     | brk=>obtain⟨_,_,_,q⟩:=q;exact q.elim
     | cont=>obtain⟨_,_,_,q⟩:=q;exact q.elim
     | next=>obtain⟨_,_,_,q⟩:=q;exact q.elim
    | new o m5=>exact pq.elim
    | exc c ks ys m5=>exact pq.elim
    | stuck=>exact pq.elim
end
end RgF
namespace Rc
open PySem PySem.Spec L2
open PyProof.Rows hiding St
structure Et where
 need:List dI:=[]
 parts:Cfg->Stmt->Option (List Expr)
 pre:Sl->Mem->Bool:=λ_ _=>true
 F:List OV->Sl->Mem->SR
 ok:∀{k:Nat}{W:WX}{c:Cfg}{X:Cx}{e:Stmt}{es:List Expr}{fs:Sl->Mem->R (List OV)},bV k W c X->(∀n∈need,n.at X k)->c.top=true->X.env.scope.kind=.function->parts c e=some es->Parts X W es fs ->
  ∀(g0:G) (H0:Hp),PS X e (tS X.ki W g0 H0 λs m=>if pre s m=true then (fs s m).toS s λxs m=>F xs s m else .stuck)
def Uy(md:Option (Nat × (Sl->Mem->R OV)))(k:Sl->Mem->SR)(s:Sl)(m:Mem):SR:=match md with
 | none=>k s m
 | some (j,fe)=>(fe s m).toS s λx m=>(toV x m).toS s λx m=>k (s.set j (some (.v x))) m
def Tr(X:Cx)(W:WX)(i:Nat)(mid:Option Stmt)(md:Option (Nat × (Sl->Mem->R OV))):Prop:=match mid,md with
 | none,none=>True
 | some st,some (j,fe)=>j≠i/\PS X st (tAsg (tE X.ki W fe) (gName j))
 | _,_=>False
structure Ve where
 need:List dI:=[]
 parts:Cfg->Nat->Bool->List Stmt->Option (List (Scope × Expr) × Option Stmt × Expr × List Stmt × List Stmt)
 F:List (Mem->R OV)->(Sl->Mem->R OV)->(Sl->Mem->SR)->(Sl->Mem->SR)->Sl->Mem->SR
 ok:∀{k:Nat}{W:WX}{c:Cfg}{X:Cx}{i:Nat}{hm:Bool}{sts:List Stmt}{l:List (Scope × Expr)}{mid:Option Stmt}{d:Expr}{bd rs:List Stmt}{fs:List (Sl->Mem->R OV)}{fd:Sl->Mem->R OV}{fb fr:Sl->Mem->SR}{md:Option (Nat × (Sl->Mem->R OV))},
  bV (k+3) W c X->(∀n∈need,n.at X (k+3))->c.top=true->X.env.scope.kind=.function->parts c i hm sts=some (l,mid,d,bd,rs)->CK X c k l fs->PE X d (tE X.ki W fd) ->
  ∀(g0:G) (H0:Hp),PSs X bd (tS X.ki W g0 H0 fb)->PSs X rs (tS X.ki W g0 H0 fr)->Tr X W i mid md->PSs X sts (tS X.ki W g0 H0 λs m=>if i<s.length then Uy md (λs m=>F (fs.map λf=>f s) fd fb fr s m) (s.set i none) m else .stuck)
mutual
inductive MS where
 | set (i:Nat) (e:ME)
 | oY (i:Nat) (f:MF)
 | par (i j:Nat) (a b:ME)
 | par2 (i j:Nat) (f g:MF)
 | tupSet (is:List Nat) (e:ME)
 | ifs (t:MT) (a b:MSs)
 | ret (e:ME)
 | retN
 | retF (f:MF)
 | retOwn (i:Nat)
 | loop (tg:MG) (it:MI) (body:MSs)
 | loopG (tg:MG) (p:VH) (o:ME) (body:MSs)
 | whil (n:Nat) (t:MT) (body:MSs)
 | brk
 | cont
 | pass
 | expr (e:ME)
 | pr (p:Et) (es:MEs)
 | fin (b f:MSs)
inductive MSs where
 | nil
 | cons (a:MS) (r:MSs)
 | frz (i:Nat) (r:MSs)
 | lamV (p:Ve) (i:Nat) (ls:MEs) (mid:Option (Nat × ME)) (d:ME) (b r:MSs)
end
def Wr(mid:Option (Nat × ME)):Option (Nat × (Sl->Mem->R OV)):=match mid with
 | none=>none
 | some (j,e)=>some (j,ev e)
def Zw(mid:Option (Nat × ME)):List dI:=match mid with
 | none=>[]
 | some (_,e)=>e.needs
def finS(r:SR)(k:Sl->Mem->SR):SR:=match r with
 | .nx s m=>(match k s m with
  | .nx s m=>.nx s m
  | _=>.stuck)
 | .ex c ks xs s m=>(match k s m with
  | .nx s m=>.ex c ks xs s m
  | _=>.stuck)
 | _=>.stuck
def aeq(n:dI):dI:=λP w K mg base _=>n P w K mg base 0
mutual
def ex:MS->Sl->Mem->SR
 | .set i e,s,m=>(ev e s m).toS s λx m=>(toV x m).toS s λx m=>.nx (s.set i (some (.v x))) m
 | .oY i f,s,m=>(evF f s m).toS s λo m=>if i<s.length then .nx (s.set i (some (.own o))) m else .stuck
 | .par i j a b,s,m=>(ev a s m).toS s λx m=>(ev b s m).toS s λy m=>(toV x m).toS s λx m=>(toV y m).toS s λy m=>.nx ((s.set i (some (.v x))).set j (some (.v y))) m
 | .par2 i j f g,s,m=>(evF f s m).toS s λx m=>(evF g s m).toS s λy m=>if i<s.length/\j<s.length/\i≠j then .nx ((s.set i (some (.own x))).set j (some (.own y))) m else .stuck
 | .tupSet is e,s,m=>(ev e s m).toS s λx m=>(toV x m).toS s λx m=>match bW (.tup is) x s with
  | some s=>.nx s m
  | none=>.stuck
 | .ifs t a b,s,m=>(evT t s m).toS s λk m=>if k=true then exs a s m else exs b s m
 | .ret e,s,m=>(ev e s m).toS s λx m=>(toV x m).toS s λx m=>.rt (.ok x m)
 | .retN,_,m=>.rt (.ok .non m)
 | .retF f,s,m=>(evF f s m).toS s λo m=>.rt (.new o m)
 | .retOwn i,s,m=>(match s[i]? with
  | some (some (.own o))=>.rt (.new o m)
  | _=>.stuck)
 | .loop tg it body,s,m=>(evI it s m).toS s λw m=>oR (tY tg (exs body)) w.watch w.items s m
 | .loopG tg p o body,s,m=>RgF.T9 ((ev o s m).bind λx m=>Zi (p.F x m) m) s tg (exs body)
 | .whil n t body,s,m=>oZ (evT t) (exs body) n s m
 | .brk,s,m=>.bk s m
 | .cont,s,m=>.ct s m
 | .pass,s,m=>.nx s m
 | .expr e,s,m=>(ev e s m).toS s λ_ m=>.nx s m
 | .pr p es,s,m=>if p.pre s m=true then (evs es s m).toS s λxs m=>p.F xs s m else .stuck
 | .fin b f,s,m=>finS (exs b s m) λs m=>exs f s m
def exs:MSs->Sl->Mem->SR
 | .nil,s,m=>.nx s m
 | .cons a r,s,m=>(ex a s m).seq λs m=>exs r s m
 | .frz i r,s,m=>match s[i]? with
  | some (some (.own o))=>exs r (s.set i (some (.v (frz o)))) m
  | _=>.stuck
 | .lamV p i ls mid d b r,s,m=>if i<s.length then Uy (Wr mid) (λs m=>p.F ((evL ls).map λf=>f s) (ev d) (exs b) (exs r) s m) (s.set i none) m else .stuck
end
mutual
def MS.needs:MS->List dI
 | .set _ e=>e.needs
 | .oY _ f=>f.needs
 | .par _ _ a b=>a.needs++b.needs
 | .par2 _ _ f g=>f.needs++g.needs
 | .tupSet _ e=>e.needs
 | .ifs t a b=>t.needs++(a.needs++b.needs)
 | .ret e=>e.needs
 | .retN=>[]
 | .retF f=>f.needs
 | .retOwn _=>[]
 | .loop _ it b=>it.needs++b.needs
 | .loopG _ p o b=>p.need++(o.needs++b.needs)
 | .whil _ t b=>t.needs++b.needs
 | .brk=>[]
 | .cont=>[]
 | .pass=>[]
 | .expr e=>e.needs
 | .pr p es=>p.need++es.needs
 | .fin b f=>b.needs++f.needs.map aeq
def MSs.needs:MSs->List dI
 | .nil=>[]
 | .cons a r=>a.needs++r.needs
 | .frz _ r=>r.needs
 | .lamV p _ ls mid d b r=>Mj::(p.need++(ls.needs.map aaj++(Zw mid++(d.needs++(b.needs++r.needs)))))
end
def runD(n:Nat)(body:MSs):Mir:=λas m=>match exs body (as.map (λx=>some (SV.v x))++List.replicate (n - as.length) none) m with
 | .nx _ m=>.ok .non m
 | .rt (.ok x m)=>.ok x m
 | .rt (.new o m)=>.new o m
 | .ex c ks xs _ m=>.exc c ks xs m
 | _=>.stuck
def pN:Expr->Bool
 | .ListComp ..=>false
 | .SetComp ..=>false
 | .DictComp ..=>false
 | _=>true
def swT(c:Cfg)(x:Str)(px:Pos):Expr->Bool
 | .ListComp _ _ scope p=>Ax c.sc x&&(px.line == p.line)&&!(scope.names.any λ(n,k)=>n == x&&(k == .local || k == .cell))
 | _=>false
def swF(c:Cfg)(x:Str)(px:Pos):Expr->Bool
 | .ListComp _ _ scope p=>Ei c.sc x || !(px.line == p.line)
 | .SetComp ..=>false
 | .DictComp ..=>false
 | _=>true
def ab1(c:Cfg)(x:Str)(px:Pos):Expr->Bool
 | .DictComp _ _ _ scope p=>Ax c.sc x&&(px.line == p.line)&&!(scope.names.any λ(n,k)=>n == x&&(k == .local || k == .cell))
 | _=>false
def ab6(c:Cfg)(x:Str)(px:Pos):Expr->Bool
 | .DictComp _ _ _ scope p=>Ei c.sc x || !(px.line == p.line)
 | _=>false
def XQ(f:MF)(c:Cfg)(x:Str)(px:Pos)(v:Expr):Bool:=match f with
 | .comp own tg it ifs a=>swT c x px v || swF c x px v
 | .compG own tg p o ifs a=>swT c x px v || swF c x px v
 | .comp2 own own1 tg it ifs tg1 it1 ifs1 a=>swT c x px v || swF c x px v
 | .dcomp own tg it ifs a b=>ab1 c x px v || ab6 c x px v
 | _=>pN v
def R7(c:Cfg)(x y:Str)(px py:Pos)(a b:Expr):Bool:=Ax c.sc x&&Ax c.sc y&&(py.line == px.line)&&decide (x≠y)&&cR a&&cR b&&!([a,b].all (foldedForSure 8))&&!([a,b].all (constantsAlone 8))
def lnB(c:Cfg)(line:Nat):Expr->Bool
 | .Name x p=>Ax c.sc x&&(p.line == line)
 | _=>false
def QD(c:Cfg)(ts:List Expr):Expr->Bool
 | .Tuple vs _ _=>!(ts.length == 2 || ts.length == 3) || !(vs.length == ts.length) || !(ts.all (lnB c ((ts.head?.map (·.pos.line)).getD 0))) || vs.all (foldedForSure 8)
 | _=>true
def setB(i:Nat)(e:ME)(c:Cfg)(st:Stmt):Bool:=match st with
 | .Assign [.Name x px] v _=>tgB c i x&&(match e with
  | .fr f=>XQ f c x px v
  | _=>pN v)&&mE e c v
 | _=>false
def Yz(i:Nat)(mid:Option (Nat × ME))(c:Cfg)(st:Option Stmt):Bool:=match mid,st with
 | none,none=>true
 | some (j,e),some st=>decide (j≠i)&&setB j e c st
 | _,_=>false
mutual
def mS:MS->Cfg->Stmt->Bool
 | .set i e,c,st=>(match st with
  | .Assign [.Name x px] v _=>tgB c i x&&(match e with
   | .fr f=>XQ f c x px v
   | _=>pN v)&&mE e c v
  | _=>false)
 | .oY i f,c,st=>(match st with
  | .Assign [.Name x px] v _=>tgB c i x&&XQ f c x px v&&mF f c v
  | _=>false)
 | .par i j a b,c,st=>(match st with
  | .Assign [.Tuple [.Name x px,.Name y py] _ _] (.Tuple [u,v] _ _) _=>c.calm&&decide (c.N[i]? = some x)&&decide (c.N[j]? = some y)&&decide (i≠j)&&R7 c x y px py u v&&mE a c u&&mE b c v
  | _=>false)
 | .par2 i j a b,c,st=>(match st with
  | .Assign [.Tuple [.Name x px,.Name y py] _ _] (.Tuple [u,v] _ _) _=>c.calm&&decide (c.N[i]? = some x)&&decide (c.N[j]? = some y)&&decide (i≠j)&&R7 c x y px py u v&&mF a c u&&mF b c v
  | _=>false)
 | .tupSet is e,c,st=>(match st with
  | .Assign [.Tuple es k p] v _=>c.calm&&mG c (.tup is) (.Tuple es k p)&&QD c es v&&mE e c v
  | _=>false)
 | .ifs t a b,c,st=>(match st with
  | .If u x y _=>mT t c u&&mSs a c x&&mSs b c y
  | .Return (some (.IfExp u x y _)) _=>mT t c u&&(match a,b with
   | .cons (.retF f) .nil,.cons (.ret e) .nil=>mF f c x&&mE e c y
   | _,_=>false)
  | _=>false)
 | .ret e,c,st=>(match st with
  | .Return (some v) _=>mE e c v
  | _=>false)
 | .retN,_,st=>(match st with
  | .Return none _=>true
  | _=>false)
 | .retF f,c,st=>(match st with
  | .Return (some v) _=>mF f c v
  | _=>false)
 | .retOwn i,c,st=>(match st with
  | .Return (some (.Name x _)) _=>slB c i x
  | _=>false)
 | .loop tg it body,c,st=>(match st with
  | .For t iter b [] _=>c.calm&&qw iter&&mI it c t iter&&mG c tg t&&mSs body c b
  | _=>false)
 | .loopG tg p o body,c,st=>(match st with
  | .For t iter b [] _=>c.calm&&qw iter&&(match p.parts c iter with
   | some x=>mE o c x
   | none=>false)&&mG c tg t&&mSs body c b
  | _=>false)
 | .whil n t body,c,st=>(match st with
  | .While u b [] _=>mT t c u&&mSs body c b
  | _=>false)
 | .brk,_,st=>(match st with
  | .Break _=>true
  | _=>false)
 | .cont,_,st=>(match st with
  | .Continue _=>true
  | _=>false)
 | .pass,_,st=>(match st with
  | .Pass _=>true
  | .Expr (.Constant (.str _) _ _) _=>true
  | _=>false)
 | .expr e,c,st=>(match st with
  | .Expr v _=>pN v&&mE e c v
  | _=>false)
 | .pr p es,c,st=>(match p.parts c st with
  | some xs=>mEs es c xs
  | none=>false)
 | .fin b f,c,st=>(match st with
  | .Try body [] [] (f0::fs) _=>mSs b c body&&mSs f ⟨c.N,c.sc,c.gA,c.cst,c.top,false,false⟩ (f0::fs)
  | _=>false)
def mSs:MSs->Cfg->List Stmt->Bool
 | .nil,_,[]=>true
 | .cons a r,c,st::sts=>mS a c st&&mSs r c sts
 | .frz _ r,c,sts=>mSs r c sts
 | .lamV p i ls mid d b r,c,sts=>(match p.parts c i mid.isSome sts with
  | some (l,st,e,bd,rs)=>mLs ls c l&&Yz i mid c st&&mE d c e&&mSs b c bd&&mSs r c rs
  | none=>false)
 | _,_,_=>false
end
theorem swP{v:Expr}{x:Str}{px:Pos}{l:Nat}{env:Env}(h:pN v=true):swapsWith v (some (.Name x px)) l env=pure false:=by
 cases v <;> first|rfl|cases h
theorem swN{v:Expr}{l:Nat}{env:Env}(h:pN v=true):swapsWith v none l env=pure false:=by
 cases v <;> first|rfl|cases h
theorem Pj{v:Expr}{es:List Expr}{k:Nat}{p:Pos}{l:Nat}{env:Env}:swapsWithSole [.Tuple es k p] v l env=pure false:=by
 cases v <;> rfl
theorem Yy{v a b:Expr}{p:Pos}{l:Nat}{env:Env}:swapsWithSole [.Subscript a b p] v l env=pure false:=by
 cases v <;> rfl
theorem aan{v a b:Expr}{p:Pos}{env:Env}:swappedStores [.Subscript a b p] v env=pure none:=by
 cases v <;> rfl
theorem pU{sc:Scope}{x:Str}(h:Ax sc x=true):sc.names.lookup x=some .local:=by
 unfold Ax at h
 split at h
 ·assumption
 ·cases h
theorem vB{sc:Scope}{x:Str}(h:Ei sc x=true):sc.names.lookup x=some .cell:=by
 unfold Ei at h
 split at h
 ·assumption
 ·cases h
theorem ExR.fle{K:Ki}{g g':G}{c:Str}{ks:List Str}{xs:List MV}{cls:Value}{d:Option Addr}(h:ExR K g c ks xs cls d)(f:Fle g g'):ExR K g' c ks xs cls d:=by
 obtain⟨dd,fs,e1,e2,e3,e4,e5⟩:=h
 exact⟨dd,fs,e1,e2,f.1 _ _ e3,e4,RVs.mono f.1 f.2 xs e5⟩
theorem S7{K:Ki}{W:WX}{g0:G}{H0:Hp}{fb ff:Sl->Mem->SR}{D:Ends}{σ:St}{H:Hp}(q:tS K W g0 H0 (λs m=>finS (fb s m) λs m=>ff s m) D σ H):
  tS K (wFin (tS K W0 g0 H0 ff) W) g0 H0 fb { nx:=fun σ1 H1=>tS K W0 g0 H0 ff D σ1 H1,rt:=λ_ _=>False } σ H:=by
 obtain⟨g,s,m,R,p⟩:=q
 refine⟨g,s,m,R,?_⟩
 cases e:fb s m with
 | nx s1 m1 =>
  have p:bY K W g0 H0 g (finS (fb s m) λs m=>ff s m) D:=p
  rw[e] at p
  intro g' σ' H' R' fl
  refine⟨g',s1,m1,R',?_⟩
  unfold finS at p
  dsimp only at p
  cases e2:ff s1 m1 with
  | nx s2 m2 =>
   rw[e2] at p
   exact λg2 σ2 H2 R2 f2=>p g2 σ2 H2 R2 (fl.trans f2)
  | _=>rw[e2] at p;exact p.elim
 | ex c ks xs s1 m1 =>
  have p:bY K W g0 H0 g (finS (fb s m) λs m=>ff s m) D:=p
  rw[e] at p
  intro g' cls d σ' H' R' fl x
  refine⟨g',s1,m1,R',?_⟩
  unfold finS at p
  dsimp only at p
  cases e2:ff s1 m1 with
  | nx s2 m2 =>
   rw[e2] at p
   exact λg2 σ2 H2 R2 f2=>p g2 cls d σ2 H2 R2 (fl.trans f2) (x.fle f2)
  | _=>rw[e2] at p;exact p.elim
 | _ =>
  have p:bY K W g0 H0 g (finS (fb s m) λs m=>ff s m) D:=p
  rw[e] at p
  exact p.elim
section
variable{k:Nat}{W:WX}{c:Cfg}{X:Cx}
theorem bV.tr(ok:bV k W c X){W':WX}{pn:List (Addr × Obj)}{xe:Value->Shared->Prop}(tk:L2N.Takes (X.tr pn xe) W')(hw:PassesOwn (model X.prog X.w) X.A X.env xe):bV k W' c (X.tr pn xe) :=
 ⟨tk,ok.sc,ok.N,ok.nd,ok.calm,ok.blt,ok.cst,ok.room,ok.un,ok.lam,ok.top,λ_=>hw,ok.stk⟩
theorem bV.hot(ok:bV k W c X)(a:Addr)(pn:List (Addr × Obj)):bV 0 W0 ⟨c.N,c.sc,c.gA,c.cst,c.top,false,false⟩ (X.suite a pn) :=
 ⟨sO,ok.sc,ok.N,ok.nd,λz=>(by cases z),ok.blt,ok.cst,λz=>absurd z (Nat.lt_irrefl 0),ok.un,λz=>(by cases z),ok.top,λ_=>PassesOwn.never,ok.stk⟩
theorem bV.nox(ok:bV k W c X):bV 0 W0 ⟨c.N,c.sc,c.gA,c.cst,c.top,false,false⟩ X.nox :=
 ⟨sO,ok.sc,ok.N,ok.nd,λz=>(by cases z),ok.blt,ok.cst,λz=>absurd z (Nat.lt_irrefl 0),ok.un,λz=>(by cases z),ok.top,λ_=>PassesOwn.never,ok.stk⟩
theorem Zy{α β:Type}(f:α->Option β)(p:α->Bool)(h:∀x,(f x).isSome=p x):∀l:List α,l.all p=false->(l.filterMap f).length≠l.length:=by
 intro l hl e
 have:∀l:List α,(l.filterMap f).length<=l.length/\((l.filterMap f).length=l.length->l.all p=true):=by
  intro l
  induction l with
  | nil=>simp
  | cons x xs ih =>
   rw[List.filterMap_cons,List.all_cons,<- h x]
   cases q:f x with
   | none =>
    refine⟨?_,λz=>?_⟩
    ·have:=ih.1
     simp only[qQn];omega
    ·have:=ih.1
     simp only[qQn] at z;omega
   | some y =>
    refine⟨?_,λz=>?_⟩
    ·have:=ih.1
     simp only[qQn];omega
    ·simp only[qQn] at z
     rw[ih.2 (by omega)];rfl
 rw[(this l).2 e] at hl;cases hl
theorem Y8{es:List Expr}{v:Expr}{kt:Nat}{p:Pos}(ok:bV k W c X)(h:QD c es v=true):swappedStores [.Tuple es kt p] v X.env=pure none:=by
 cases v with
 | Tuple vs k2 p2 =>
  unfold QD at h
  simp only[Bool.or_eq_true,Bool.not_eq_true'] at h
  unfold swappedStores
  by_cases h1:(!(es.length == 2 || es.length == 3) || vs.length != es.length || X.env.blockKind != .function)=true
  ·exact if_pos h1
  ·refine (if_neg h1).trans ?_
   by_cases h2:(vs.any fun|.Starred ..=>true|_=>false)=true
   ·exact if_pos h2
   ·refine (if_neg h2).trans ?_
    simp only[Bool.or_eq_true,Bool.not_eq_true',not_or,Bool.not_eq_true] at h1
    obtain⟨⟨h3,h4⟩,h5⟩:=h1
    rcases h with ((h|h)|h)|h
    ·exact absurd h h3
    ·have:(vs.length != es.length)=true:=by simpa [bne] using h
     rw[this] at h4;cases h4
    ·refine if_pos ?_
     rw[Bool.or_eq_true]
     left
     have:=Zy (λe=>match e with
      | .Name id pos=>if (X.env.kindOf id == some .local&&pos.line == (es.head?.map (·.pos.line)).getD 0)=true then some id else none
      | _=>none) (lnB c ((es.head?.map (·.pos.line)).getD 0)) (λe=>by
       unfold lnB
       cases e <;> try rfl
       rename_i id pos
       dsimp only
       unfold Ax Env.kindOf
       rw[ok.sc]
       cases c.sc.names.lookup id with
       | none=>simp
       | some r =>
        by_cases hp:(pos.line == (es.head?.map (·.pos.line)).getD 0)=true
        ·simp only[hp,Bool.and_true]
         cases r <;> rfl
        ·have hp:(pos.line == (es.head?.map (·.pos.line)).getD 0)=false:=by simpa using hp
         simp only[hp,Bool.and_false]
         rfl) es h
     exact bne_iff_ne.mpr this
    ·dsimp only
     rw[if_pos h]
     exact ite_self _
 | _=>rfl
theorem M6{x y:Str}{px py pt pt2:Pos}{kt k2:Nat}{a b:Expr}(ok:bV k W c X)(hk:X.env.scope.kind=.function)(h:R7 c x y px py a b=true):
  X.env.scope.names.lookup x=some .local/\X.env.scope.names.lookup y=some .local/\swappedStores [.Tuple [.Name x px,.Name y py] kt pt] (.Tuple [a,b] k2 pt2) X.env=pure (some [x,y]):=by
 unfold R7 at h
 simp only[qQb,Bool.not_eq_true',qQs] at h
 obtain⟨⟨⟨⟨⟨⟨⟨h1,h2⟩,h3⟩,h4⟩,h5⟩,h6⟩,h7⟩,h8⟩:=h
 have e1:=pU h1
 have e2:=pU h2
 rw[<- ok.sc] at e1 e2
 refine⟨e1,e2,?_⟩
 have k1:X.env.kindOf x=some .local:=e1
 have k2':X.env.kindOf y=some .local:=e2
 have hb:X.env.blockKind=.function:=by unfold Env.blockKind;rw[hk];rfl
 unfold swappedStores
 simp only[hb,k1,k2',h3,h7,h8,qQn,List.length_nil,List.head?_cons,Option.map_some,Option.getD_some,Expr.pos]
 refine (if_neg (by simp)).trans ((if_neg (λhh=>?_)).trans ?_)
 ·simp only[List.any_cons,List.any_nil,Bool.or_false,Bool.or_eq_true] at hh
  rcases hh with hh|hh
  ·split at hh
   ·cases h5
   ·cases hh
  ·split at hh
   ·cases h6
   ·cases hh
 ·have h3':py.line=px.line:=by simpa using h3
  have n1:(x == y)=false:=by simpa using h4
  have n2:(y == x)=false:=by simpa using Ne.symm h4
  simp[List.filterMap_cons,List.filterMap_nil,k1,k2',h3',h7,h8,h4,n1,n2,List.eraseDups_cons,Ne.symm h4,Expr.pos]
theorem uY{x y:Str}{px py:Pos}{a b:Expr}(h:R7 c x y px py a b=true):cR a=true/\cR b=true:=by
 unfold R7 at h
 simp only[qQb] at h
 exact⟨h.1.1.1.2,h.1.1.2⟩
theorem Ew{i:Nat}{x:Str}{px pos:Pos}{v:Expr}{f:MF}(ok:bV k W c X)(hk:X.env.scope.kind=.function)(h1:tgB c i x=true)(h2:XQ f c x px v=true)(h3:mF f c v=true)(nd:All (dI.at · X k) f.needs):PS X (.Assign [.Name x px] v pos) (tAsg (tF X.ki W (evF f)) (gName i)):=by
 obtain⟨g1,g2,g3⟩:=ok.tg h1
 have hown:∀(c:Cfg) (own:List Nat),(tV c own).map (·.2)=own:=λc own=>by
  unfold tV;rw[qQt];exact List.map_id _
 have hb:X.env.blockKind=.function:=by unfold Env.blockKind;rw[hk];rfl
 cases f with
 | pr p es=>exact ps_set ok.nd g1 g2 (qI _ ok nd h3) (swP h2) g3
 | pa p es=>exact ps_set ok.nd g1 g2 (qI _ ok nd h3) (swP h2) g3
 | comp own tg it ifs a =>
  have h2:(swT c x px v || swF c x px v)=true:=h2
  rw[Bool.or_eq_true] at h2
  rcases h2 with h2|h2
  ·unfold mF at h3
   unfold MF.needs at nd
   split at h3 <;> try contradiction
   simp only[qQb] at h3
   obtain⟨⟨⟨⟨⟨⟨⟨e0,e1⟩,e2⟩,e3⟩,e4⟩,e5⟩,e6⟩,e7⟩:=h3
   have hc:=ok.calm e0
   rename_i scope pp _
   have h2:(Ax c.sc x&&(px.line == pp.line)&&!(scope.names.any λ(n,k)=>n == x&&(k == .local || k == .cell)))=true:=h2
   simp only[qQb,Bool.not_eq_true'] at h2
   obtain⟨⟨s1,s2⟩,s3⟩:=h2
   have hl:=pU s1
   rw[<- ok.sc] at hl
   have p:=ps_setLc (py:=px) (spos:=pos) (pos:=pp) (own:=tV _ own) (tt:=tT X.ki W0 (tX ifs)) (te:=tE X.ki W0 (ev a)) (g:=gM X.ki tg) hc ok.nd g1 hl (sw_true hk hl s2 s3) (vZ it ok nd.l e4) (by rw[ok.N,ok.sc];exact blkOk_by e1) (λs H C cl fp=>ok.mgb (ok.blk.calm e0) e5) (λs H C cl fp=>lL ifs ok.blk nd.r.l e6) (λs H C cl fp=>cI a ok.blk nd.r.r e7) (λx=>qJ e3 x)
   rw[hown] at p
   exact p.weaken λD σ H q=>Jo (λi hi=>qQ4 (qQ0.mp e2 i hi)) q
  ·have hs:swapsWith v (some (.Name x px)) pos.line X.env=pure false:=by
    cases v with
    | ListComp elt gs scope pp =>
     have h2:(Ei c.sc x || !(px.line == pp.line))=true:=h2
     rw[Bool.or_eq_true] at h2
     unfold swapsWith
     rcases h2 with h2|h2
     ·have hl:=vB h2
      rw[<- ok.sc] at hl
      have k1:X.env.kindOf x=some .cell:=hl
      simp only[hb,k1]
      rfl
     ·have h2:(px.line == pp.line)=false:=by simpa using h2
      show (pure _:Sem Bool)=_
      simp only[Expr.pos,h2,Bool.and_false,Bool.false_and]
    | SetComp _ _ _ _=>cases h2
    | DictComp _ _ _ _ _=>cases h2
    | _=>rfl
   exact ps_set ok.nd g1 g2 (qI _ ok nd h3) hs g3
 | compG own tg pg o ifs a =>
  have h2:(swT c x px v || swF c x px v)=true:=h2
  rw[Bool.or_eq_true] at h2
  rcases h2 with h2|h2
  ·unfold mF at h3
   unfold MF.needs at nd
   split at h3 <;> try contradiction
   simp only[qQb] at h3
   obtain⟨⟨⟨⟨⟨⟨⟨⟨e0,e1⟩,e2⟩,e3⟩,e4⟩,e5⟩,e6⟩,e7⟩,e8⟩:=h3
   have hc:=ok.calm e0
   rename_i scope pp _
   have h2:(Ax c.sc x&&(px.line == pp.line)&&!(scope.names.any λ(n,k)=>n == x&&(k == .local || k == .cell)))=true:=h2
   simp only[qQb,Bool.not_eq_true'] at h2
   obtain⟨⟨s1,s2⟩,s3⟩:=h2
   have hl:=pU s1
   rw[<- ok.sc] at hl
   split at e5 <;> try contradiction
   rename_i xo ex
   have p:=RgF.Ik (py:=px) (spos:=pos) (pos:=pp) (own:=tV _ own) (ft:=tX ifs) (fe:=ev a) (mg:=tg) hc ok.nd g1 hl (sw_true hk hl s2 s3) (pg.ok ok nd.l ex (cI o ok nd.r.l e5)) (by rw[ok.N,ok.sc];exact blkOk_by e1) (yH e4) (by rw[hown];exact λi hi=>qQ4 (qQ0.mp e2 i hi)) (λs H C cl fp=>ok.mgb (ok.blk.calm e0) e6) (λs H C cl fp=>lL ifs ok.blk nd.r.r.l e7) (λs H C cl fp=>cI a ok.blk nd.r.r.r e8) (λx=>qJ e3 x)
   rw[hown] at p
   exact p.weaken λD σ H q=>q
  ·have hs:swapsWith v (some (.Name x px)) pos.line X.env=pure false:=by
    cases v with
    | ListComp elt gs scope pp =>
     have h2:(Ei c.sc x || !(px.line == pp.line))=true:=h2
     rw[Bool.or_eq_true] at h2
     unfold swapsWith
     rcases h2 with h2|h2
     ·have hl:=vB h2
      rw[<- ok.sc] at hl
      have k1:X.env.kindOf x=some .cell:=hl
      simp only[hb,k1]
      rfl
     ·have h2:(px.line == pp.line)=false:=by simpa using h2
      show (pure _:Sem Bool)=_
      simp only[Expr.pos,h2,Bool.and_false,Bool.false_and]
    | SetComp _ _ _ _=>cases h2
    | DictComp _ _ _ _ _=>cases h2
    | _=>rfl
   exact ps_set ok.nd g1 g2 (qI _ ok nd h3) hs g3
 | comp2 own own1 tg it ifs tg1 it1 ifs1 a =>
  have h2:(swT c x px v || swF c x px v)=true:=h2
  rw[Bool.or_eq_true] at h2
  rcases h2 with h2|h2
  ·unfold mF at h3
   unfold MF.needs at nd
   split at h3 <;> try contradiction
   simp only[qQb] at h3
   obtain⟨⟨⟨⟨⟨⟨⟨⟨⟨⟨⟨⟨⟨e0,e1⟩,e2⟩,e2b⟩,e2c⟩,e3⟩,e3b⟩,e4⟩,e5⟩,e6⟩,e7⟩,e8⟩,e9⟩,e10⟩:=h3
   have hc:=ok.calm e0
   rename_i scope pp _
   have h2:(Ax c.sc x&&(px.line == pp.line)&&!(scope.names.any λ(n,k)=>n == x&&(k == .local || k == .cell)))=true:=h2
   simp only[qQb,Bool.not_eq_true'] at h2
   obtain⟨⟨s1,s2⟩,s3⟩:=h2
   have hl:=pU s1
   rw[<- ok.sc] at hl
   have p:=ps_setLc2 (py:=px) (spos:=pos) (pos:=pp) (own:=tV _ own) (vs1:=own1) (tt:=tT X.ki W0 (tX ifs)) (tt1:=tT X.ki W0 (tX ifs1)) (te:=tE X.ki W0 (ev a)) (wi1:=tI X.ki W0 (evI it1)) (g:=gM X.ki tg) (g1:=gM X.ki tg1) hc ok.nd g1 hl (sw_true hk hl s2 s3) (vZ it ok nd.l e4) (by rw[ok.N,ok.sc];exact blkOk_by e1) (by rw[hown];exact λi hi=>qQ4 (qQ0.mp e2c i hi)) (λs H C cl fp=>ok.mgb (ok.blk.calm e0) e5) (λs H C cl fp=>lL ifs ok.blk nd.r.l e6) (λs H C cl fp=>vZ it1 ok.blk nd.r.r.l e7) (λs H C cl fp=>ok.mgb (ok.blk.calm e0) e8) (λs H C cl fp=>lL ifs1 ok.blk nd.r.r.r.l e9) (λs H C cl fp=>cI a ok.blk nd.r.r.r.r e10) (λx=>qJ e3 x) (λenv x=>qJ e3b x)
   rw[hown] at p
   exact p.weaken λD σ H q=>Ad (λi hi=>qQ4 (qQ0.mp e2 i hi)) (λi hi=>qQ4 (qQ0.mp e2b i hi)) q
  ·have hs:swapsWith v (some (.Name x px)) pos.line X.env=pure false:=by
    cases v with
    | ListComp elt gs scope pp =>
     have h2:(Ei c.sc x || !(px.line == pp.line))=true:=h2
     rw[Bool.or_eq_true] at h2
     unfold swapsWith
     rcases h2 with h2|h2
     ·have hl:=vB h2
      rw[<- ok.sc] at hl
      have k1:X.env.kindOf x=some .cell:=hl
      simp only[hb,k1]
      rfl
     ·have h2:(px.line == pp.line)=false:=by simpa using h2
      show (pure _:Sem Bool)=_
      simp only[Expr.pos,h2,Bool.and_false,Bool.false_and]
    | SetComp _ _ _ _=>cases h2
    | DictComp _ _ _ _ _=>cases h2
    | _=>rfl
   exact ps_set ok.nd g1 g2 (qI _ ok nd h3) hs g3
 | dcomp own tg it ifs a b =>
  have h2:(ab1 c x px v || ab6 c x px v)=true:=h2
  rw[Bool.or_eq_true] at h2
  rcases h2 with h2|h2
  ·unfold mF at h3
   unfold MF.needs at nd
   split at h3 <;> try contradiction
   simp only[qQb] at h3
   obtain⟨⟨⟨⟨⟨⟨⟨⟨e0,e1⟩,e2⟩,e3⟩,e4⟩,e5⟩,e6⟩,e7⟩,e8⟩:=h3
   have hc:=ok.calm e0
   rename_i scope pp _
   have h2:(Ax c.sc x&&(px.line == pp.line)&&!(scope.names.any λ(n,k)=>n == x&&(k == .local || k == .cell)))=true:=h2
   simp only[qQb,Bool.not_eq_true'] at h2
   obtain⟨⟨s1,s2⟩,s3⟩:=h2
   have hl:=pU s1
   rw[<- ok.sc] at hl
   have p:=K9 (py:=px) (spos:=pos) (pos:=pp) (own:=tV _ own) (tt:=tT X.ki W0 (tX ifs)) (tk:=tE X.ki W0 (ev a)) (tv:=tE X.ki W0 (ev b)) (g:=gM X.ki tg) hc ok.nd g1 hl (Lf hk hl s2 s3) (vZ it ok nd.l e4) (by rw[ok.N,ok.sc];exact blkOk_by e1) (λs H C cl fp=>ok.mgb (ok.blk.calm e0) e5) (λs H C cl fp=>lL ifs ok.blk nd.r.l e6) (λs H C cl fp=>cI a ok.blk nd.r.r.l e7) (λs H C cl fp=>cI b ok.blk nd.r.r.r e8) (λx=>qJ e3 x)
   rw[hown] at p
   exact p.weaken λD σ H q=>Ar (λi hi=>qQ4 (qQ0.mp e2 i hi)) q
  ·have hs:swapsWith v (some (.Name x px)) pos.line X.env=pure false:=by
    cases v with
    | DictComp kx vx gs scope pp =>
     have h2:(Ei c.sc x || !(px.line == pp.line))=true:=h2
     rw[Bool.or_eq_true] at h2
     unfold swapsWith
     rcases h2 with h2|h2
     ·have hl:=vB h2
      rw[<- ok.sc] at hl
      have k1:X.env.kindOf x=some .cell:=hl
      simp only[hb,k1]
      rfl
     ·have h2:(px.line == pp.line)=false:=by simpa using h2
      show (pure _:Sem Bool)=_
      simp only[Expr.pos,h2,Bool.and_false,Bool.false_and]
    | SetComp _ _ _ _=>cases h2
    | ListComp _ _ _ _=>cases h2
    | _=>rfl
   exact ps_set ok.nd g1 g2 (qI _ ok nd h3) hs g3
theorem T8{i:Nat}{a:ME}{e:Stmt}(ok:bV k W c X)(hk:X.env.scope.kind=.function)(nd:All (dI.at · X k) a.needs)(h:setB i a c e=true):PS X e (tAsg (tE X.ki W (ev a)) (gName i)):=by
 unfold setB at h
 split at h <;> try contradiction
 rw[qQb,qQb] at h
 obtain⟨⟨h1,h2⟩,h3⟩:=h
 obtain⟨g1,g2,g3⟩:=ok.tg h1
 by_cases hf:∃f,a=.fr f
 ·obtain⟨f,rfl⟩:=hf
  unfold ME.needs at nd
  exact (Ew ok hk h1 (f:=f) h2 h3 nd).weaken λD σ H q=>PQ q
 ·refine (ps_set ok.nd g1 g2 (cI a ok nd h3) (swP ?_) g3)
  split at h2
  ·exact absurd ⟨_,rfl⟩ hf
  ·exact h2
theorem Vu{i:Nat}{mid:Option (Nat × ME)}{st:Option Stmt}(ok:bV k W c X)(hk:X.env.scope.kind=.function)(nd:All (dI.at · X k) (Zw mid))(h:Yz i mid c st=true):Tr X W i st (Wr mid):=by
 unfold Yz at h
 split at h
 ·trivial
 ·rw[qQb,qQs] at h
  exact⟨h.1,T8 ok hk nd h.2⟩
 ·cases h
theorem Gk{K:Ki}{W:WX}{g0:G}{H0:Hp}{D:Ends}{σ:St}{H:Hp}{ft:Sl->Mem->R Bool}{f:Sl->Mem->R MO}{fe:Sl->Mem->R OV}{k1 k2:Sl->Mem->SR}
  (h:tIfS (tT K W ft) (tS K W g0 H0 λs m=>((f s m).toS s λo m=>.rt (.new o m)).seq k1) (tS K W g0 H0 λs m=>((fe s m).toS s λx m=>(toV x m).toS s λx m=>.rt (.ok x m)).seq k2) D σ H):tRet (tIf (tT K W ft) (tF K W f) (tE K W fe)) D σ H:=by
 obtain⟨g,s,m,rs,rl,p⟩:=h
 refine⟨g,s,m,rs,rl,p.imp λb H1 q=>?_⟩
 cases b with
 | true =>
  rw[if_pos rfl] at q
  exact Gz (D:={ D with nx:=tS K W g0 H0 k1 D }) (Je q)
 | false =>
  rw[if_neg Bool.false_ne_true] at q
  exact NK (D:={ D with nx:=tS K W g0 H0 k2 D }) (Je q)
mutual
theorem Ze{g0:G}{H0:Hp}:∀(st:MS) {k:Nat}{W:WX}{c:Cfg}{e:Stmt}{X:Cx},bV k W c X->All (dI.at · X k) st.needs->c.top=true->X.env.scope.kind=.function->mS st c e=true->PS X e (tS X.ki W g0 H0 (ex st))
 | .set i a,k,W,c,e,X,ok,nd,ht,hk,h=>by
  unfold mS at h
  unfold MS.needs at nd
  split at h <;> try contradiction
  rw[qQb,qQb] at h
  obtain⟨⟨h1,h2⟩,h3⟩:=h
  obtain⟨g1,g2,g3⟩:=ok.tg h1
  by_cases hf:∃f,a=.fr f
  ·obtain⟨f,rfl⟩:=hf
   unfold ME.needs at nd
   exact (Ew ok hk h1 (f:=f) h2 h3 nd).weaken λD σ H q=>PQ (M9 q)
  ·refine (ps_set ok.nd g1 g2 (cI a ok nd h3) (swP ?_) g3).weaken λD σ H q=>M9 q
   split at h2
   ·exact absurd ⟨_,rfl⟩ hf
   ·exact h2
 | .oY i f,k,W,c,e,X,ok,nd,ht,hk,h=>by
  unfold mS at h
  unfold MS.needs at nd
  split at h <;> try contradiction
  rw[qQb,qQb] at h
  obtain⟨⟨h1,h2⟩,h3⟩:=h
  exact (Ew ok hk h1 h2 h3 nd).weaken λD σ H q=>Jb q
 | .par i j a b,k,W,c,e,X,ok,nd,ht,hk,h=>by
  unfold mS at h
  unfold MS.needs at nd
  split at h <;> try contradiction
  simp only[qQb,qQs] at h
  obtain⟨⟨⟨⟨⟨⟨h0,h1⟩,h2⟩,h3⟩,h4⟩,h5⟩,h6⟩:=h
  obtain⟨e1,e2,e3⟩:=M6 ok hk h4
  have hp:=uY h4
  exact (ps_par (ok.calm h0) ok.nd (by rw[ok.N];exact h1) (by rw[ok.N];exact h2) h3 e1 e2 (pa_cons (cI a ok nd.l h5) (pa_cons (cI b ok nd.r h6) pa_nil (dH hp.2)) (dH hp.1)) e3 Pj).weaken λD σ H q=>Uh q
 | .par2 i j a b,k,W,c,e,X,ok,nd,ht,hk,h=>by
  unfold mS at h
  unfold MS.needs at nd
  split at h <;> try contradiction
  simp only[qQb,qQs] at h
  obtain⟨⟨⟨⟨⟨⟨h0,h1⟩,h2⟩,h3⟩,h4⟩,h5⟩,h6⟩:=h
  obtain⟨e1,e2,e3⟩:=M6 ok hk h4
  have hp:=uY h4
  exact (ps_par (ok.calm h0) ok.nd (by rw[ok.N];exact h1) (by rw[ok.N];exact h2) h3 e1 e2 (pa_cons (qI a ok nd.l h5) (pa_cons (qI b ok nd.r h6) pa_nil (dH hp.2)) (dH hp.1)) e3 Pj).weaken λD σ H q=>Ow h3 q
 | .tupSet is a,k,W,c,e,X,ok,nd,ht,hk,h=>by
  unfold mS at h
  unfold MS.needs at nd
  split at h <;> try contradiction
  simp only[qQb] at h
  exact (ps_asg (cI a ok nd h.2) (ok.mg (ok.calm h.1.1.1) h.1.1.2) Pj (Y8 ok h.1.2) rfl).weaken λD σ H q=>TX q
 | .ifs t a b,k,W,c,e,X,ok,nd,ht,hk,h=>by
  unfold mS at h
  unfold MS.needs at nd
  split at h <;> try contradiction
  ·simp only[qQb] at h
   exact (ps_if (qL t ok nd.l h.1.1).1 (iQ a ok nd.r.l ht hk h.1.2) (iQ b ok nd.r.r ht hk h.2)).weaken λD σ H q=>VR q
  ·rw[qQb] at h
   obtain⟨h1,h2⟩:=h
   split at h2
   case h_2=>cases h2
   rename_i f e
   rw[qQb] at h2
   have n1:=nd.r.l
   have n2:=nd.r.r
   unfold MSs.needs at n1 n2
   unfold MS.needs at n1 n2
   exact (ps_ret (pe_ifExp (qL t ok nd.l h1).1 (qI f ok n1.l h2.1) (cI e ok n2.l h2.2))).weaken λD σ H q=>Gk (VR q)
 | .ret a,k,W,c,e,X,ok,nd,ht,hk,h=>by
  unfold mS at h
  unfold MS.needs at nd
  split at h <;> try contradiction
  exact (ps_ret (cI a ok nd h)).weaken λD σ H q=>NK q
 | .retN,k,W,c,e,X,ok,nd,ht,hk,h=>by
  unfold mS at h
  split at h <;> try contradiction
  exact ps_retN.weaken λD σ H q=>Rr q
 | .retF f,k,W,c,e,X,ok,nd,ht,hk,h=>by
  unfold mS at h
  unfold MS.needs at nd
  split at h <;> try contradiction
  exact (ps_ret (qI f ok nd h)).weaken λD σ H q=>Gz q
 | .retOwn i,k,W,c,e,X,ok,nd,ht,hk,h=>by
  unfold mS at h
  split at h <;> try contradiction
  exact (ps_ret (ok.slot h)).weaken λD σ H q=>Gx q
 | .loop tg it body,k,W,c,e,X,ok,nd,ht,hk,h=>by
  unfold mS at h
  unfold MS.needs at nd
  split at h <;> try contradiction
  simp only[qQb] at h
  obtain⟨⟨⟨⟨h0,h1⟩,h2⟩,h3⟩,h4⟩:=h
  exact (ps_for (ok.wish ht) (ok.calm h0) (vZ it ok nd.l h2) (ok.mg (ok.calm h0) h3) (iQ body ok nd.r ht hk h4) (λx=>qJ h1 x)).weaken λD σ H q=>QW q
 | .loopG tg pg o body,k,W,c,e,X,ok,nd,ht,hk,h=>by
  unfold mS at h
  unfold MS.needs at nd
  split at h <;> try contradiction
  simp only[qQb] at h
  obtain⟨⟨⟨⟨h0,h1⟩,h2⟩,h3⟩,h4⟩:=h
  split at h2 <;> try contradiction
  rename_i x ex
  have ok2:bV k W0 c (RgF.noX X):=⟨sO,ok.sc,ok.N,ok.nd,ok.calm,ok.blt,ok.cst,ok.room,ok.un,ok.lam,ok.top,λ_=>PassesOwn.never,ok.stk⟩
  exact RgF.Qc (ok.wish ht) (ok.calm h0) (pg.ok ok nd.l ex (cI o ok nd.r.l h2)) (ok2.mg (ok2.calm h0) h3) (λg0 H0=>iQ body ok2 nd.r.r ht hk h4) (λx=>qJ h1 x) g0 H0
 | .whil n t body,k,W,c,e,X,ok,nd,ht,hk,h=>by
  unfold mS at h
  unfold MS.needs at nd
  split at h <;> try contradiction
  rw[qQb] at h
  exact (ps_while (ok.wish ht) (qL t ok nd.l h.1).1 (iQ body ok nd.r ht hk h.2)).weaken λD σ H q=>K7 q
 | .brk,k,W,c,e,X,ok,nd,ht,hk,h=>by
  unfold mS at h
  split at h <;> try contradiction
  exact ps_break.weaken λD σ H q=>Wj q
 | .cont,k,W,c,e,X,ok,nd,ht,hk,h=>by
  unfold mS at h
  split at h <;> try contradiction
  exact ps_continue.weaken λD σ H q=>Qz q
 | .pass,k,W,c,e,X,ok,nd,ht,hk,h=>by
  unfold mS at h
  split at h <;> try contradiction
  ·exact ps_pass.weaken λD σ H q=>zJ q
  ·exact ps_doc.weaken λD σ H q=>zJ q
 | .expr a,k,W,c,e,X,ok,nd,ht,hk,h=>by
  unfold mS at h
  unfold MS.needs at nd
  split at h <;> try contradiction
  simp only[qQb] at h
  exact (ps_expr (cI a ok nd h.2) (swN h.1)).weaken λD σ H q=>Q7 q
 | .pr p es,k,W,c,e,X,ok,nd,ht,hk,h=>by
  unfold mS at h
  unfold MS.needs at nd
  split at h <;> try contradiction
  exact p.ok ok nd.l ht hk (by assumption) (uV es ok nd.r h) g0 H0
 | .fin b f,k,W,c,e,X,ok,nd,ht,hk,h=>by
  unfold mS at h
  unfold MS.needs at nd
  split at h <;> try contradiction
  rw[qQb] at h
  have nf:∀n∈f.needs,n X.prog X.w X.K X.mg X.base 0:=λn hn=>nd.r _ (qQh.mpr ⟨n,hn,rfl⟩)
  obtain⟨s1,s2,s3⟩:=ok.stk ht
  exact (QC s1 s2 s3 ok.tk (ok.wish ht) (tb:=λW'=>tS X.ki W' g0 H0 (exs b)) (λW' pn xe tk hw=>iQ b (ok.tr tk hw) nd.l ht hk h.1) (tf:=tS X.ki W0 g0 H0 (exs f)) (iQ f ok.nox nf ht hk h.2) (tfs:=tS X.ki W0 g0 H0 (exs f)) (λa pn=>iQ f (ok.hot a pn) nf ht hk h.2)).weaken λD σ H q=>S7 q
theorem iQ{g0:G}{H0:Hp}:∀(st:MSs) {k:Nat}{W:WX}{c:Cfg}{e:List Stmt}{X:Cx},bV k W c X->All (dI.at · X k) st.needs->c.top=true->X.env.scope.kind=.function->mSs st c e=true->PSs X e (tS X.ki W g0 H0 (exs st))
 | .nil,k,W,c,[],X,ok,nd,ht,hk,h=>pss_nil.weaken λD σ H q=>zJ q
 | .nil,k,W,c,_::_,X,ok,nd,ht,hk,h=>by cases h
 | .cons a r,k,W,c,[],X,ok,nd,ht,hk,h=>by cases h
 | .cons a r,k,W,c,st::sts,X,ok,nd,ht,hk,h=>by
  have h:(mS a c st&&mSs r c sts)=true:=h
  unfold MSs.needs at nd
  rw[qQb] at h
  exact (pss_cons (Ze a ok nd.l ht hk h.1) (iQ r ok nd.r ht hk h.2)).weaken λD σ H q=>Je q
 | .frz i r,k,W,c,sts,X,ok,nd,ht,hk,h=>by
  unfold mSs at h
  unfold MSs.needs at nd
  exact (iQ r ok nd ht hk h).weaken λD σ H q=>T6 q
 | .lamV p i ls mid d b r,k,W,c,sts,X,ok,nd,ht,hk,h=>by
  unfold mSs at h
  unfold MSs.needs at nd
  split at h <;> try contradiction
  rename_i l st e bd rs hp
  simp only[qQb] at h
  obtain⟨⟨⟨⟨h1,h2⟩,h3⟩,h4⟩,h5⟩:=h
  obtain⟨j,hj⟩:=nd _ (qQc ..)
  have nd2:All (dI.at · X k) (p.need++(ls.needs.map aaj++(Zw mid++(d.needs++(b.needs++r.needs))))):=λn hn=>nd n (qQd _ hn)
  have ok2:bV (j+3) W c X:=by rw[<- hj];exact ok
  have hb:=iQ (g0:=g0) (H0:=H0) b ok nd2.r.r.r.r.l ht hk h4
  have hr:=iQ (g0:=g0) (H0:=H0) r ok nd2.r.r.r.r.r ht hk h5
  have hm:=Vu ok hk nd2.r.r.l h2
  have hd:=cI d ok nd2.r.r.r.l h3
  refine p.ok ok2 (λn hn=>by rw[<- hj];exact nd2.l n hn) ht hk hp (Iu ls (λn hn=>?_) h1) hd g0 H0 hb hr hm
  obtain⟨i,e,q⟩:=nd2.r.l _ (qQh.mpr ⟨n,hn,rfl⟩)
  obtain rfl:i=j:=by omega
  exact q
end
end
structure yw(K:Ki)(mg:Str->Option Value)(gA:List Str)(cst:List (Str × MV)):Prop where
 blt:∀x∈gA,mg x=none
 cst:∀x v,(x,v)∈cst->∃u w,mg x=some u/\RelV w u/\∀g,RV K g v w
theorem yj{K:Ki}{g:G}{H:Hp}{N:List Str}{as:List MV}{vs:List V}(r:RVs K g as vs):RSl K g (as.map (λx=>some (SV.v x))++List.replicate (N.length - as.length) none) (start N vs) H:=by
 have hl:=r.length
 have noown:∀(i:Nat) o,(as.map (λx=>some (SV.v x))++List.replicate (N.length - as.length) none)[i]?≠some (some (SV.own o)):=λi o e=>by
  by_cases hi:i<as.length
  ·rw[qQo (by simpa using hi)] at e
   simp[hi] at e
  ·rw[qQx (by simpa using hi)] at e
   simp[List.getElem?_replicate] at e
 refine⟨λi x e=>?_,λi o e=>absurd e (noown i o),λi j o u a e=>absurd e (noown i o),by simp[L2.start,hl]⟩
 by_cases hi:i<as.length
 ·rw[qQo (by simpa using hi)] at e
  have e2:as[i]? = some x:=by
   rw[qQq] at e
   cases q:as[i]? with
   | none=>rw[q] at e;cases e
   | some y=>rw[q] at e;cases e;rfl
  obtain⟨v,h1,h2⟩:=r.get e2
  refine⟨v,?_,h2⟩
  unfold L2.start
  rw[qQo (by simpa using hl ▸ hi),qQq,h1]
  rfl
 ·rw[qQx (by simpa using hi)] at e
  simp[List.getElem?_replicate] at e
section
variable{P:Program}{w:World}{K:PySem.W.Frag}{mg:Str->Option Value}{base:Heap}{k:Nat}{f:Addr}{fd:FuncData}{qual:Str}{params:Arguments}{body:List Stmt}{scope:Scope}{dvs:List V}{kwd:List (Str × V)}{N:List Str}{gA:List Str}{cst:List (Str × MV)}{x:Str}
def X3(K:PySem.W.Frag)(base:Heap)(mg:Str->Option Value)(qual:Str)(cdv:Value):Prop:=∃cd P,cdv=.ref cd/\LamX.TabB base mg cd P/\(cd,P,qual++".<locals>."++"<lambda>")∈dU K
theorem v7{lam:Bool}{CX:CXT}{M:Mir}{ps:List Str}(S:FnScope N ps scope)(mo:yw ⟨K,P,w⟩ mg gA cst){B:MSs}(nd:All (λn:dI=>n P w K mg base k) B.needs)(hB:mSs B ⟨N,scope,gA,cst,true,true,lam⟩ body=true)
  (hM:∀as m,as.length=ps.length->M as m≠.stuck->runD N.length B as m=M as m) {cdv:Value}{A:Around}{outer:List Env}{s:Shared}{H:Hp}{vs:List V}{Q:VK}{E E':XK}{W:WX} (hr:Room k (A.deeper (envOfC qual scope s.heap.objs.size f cdv)))
  (tk:L2N.Takes (cxOf CX P w K mg base N qual scope f cdv A outer s H E') W) (hE:∀cls d σ H',E cls d H'->W cls d σ H') (hL:lam=true->X3 K base mg qual cdv) (h:spM ⟨K,P,w⟩ ps.length M vs H Q E) :
  ∃t,PSs (cxOf CX P w K mg base N qual scope f cdv A outer s H E') body t/\t { nx:=λ_ H'=>Q .non H',rt:=Q } (start N vs) H:=by
 obtain⟨g,m,as,rs,r,hl,p⟩:=h
 have wish:PassesOwn (model P w) (cxOf CX P w K mg base N qual scope f cdv A outer s H E').A (cxOf CX P w K mg base N qual scope f cdv A outer s H E').env (cxOf CX P w K mg base N qual scope f cdv A outer s H E').xe:=by
  passes_own
 refine⟨tS ⟨K,P,w⟩ W g H (exs B),iQ B (c:=⟨N,scope,gA,cst,true,true,lam⟩) ⟨tk,rfl,rfl,S.nd,λ_=>rfl,mo.blt,mo.cst,λ_=>hr,by have:=hr.un;show (A.deeper (envOfC qual scope s.heap.objs.size f cdv)).units+66<cLine;omega,hL,λ_ _ _=>rfl,λ_=>wish,λ_=>⟨rfl,rfl,rfl⟩⟩ nd rfl S.kind hB,g,_,m,⟨rs,yj r,Stp.refl _ _,λi o a e=>?_⟩,?_⟩
 ·obtain⟨_,_⟩:=(yj (N:=N) (H:=H) r).own i o e
  exfalso
  by_cases hi:i<as.length
  ·rw[qQo (by simpa using hi)] at e
   simp[hi] at e
  ·rw[qQx (by simpa using hi)] at e
   simp[List.getElem?_replicate] at e
 ·have hs:M as m≠.stuck:=λz=>by rw[z] at p;exact p
  have e:=hM as m hl hs
  unfold runD at e
  rw[<- e] at p
  cases q:exs B (as.map (λx=>some (SV.v x))++List.replicate (N.length - as.length) none) m with
  | nx s' m' =>
   rw[q] at p
   exact λg' σ' H' R _=>p g' .non H' R.rs R.st rfl
  | bk s' m'=>rw[q] at p;exact p.elim
  | ct s' m'=>rw[q] at p;exact p.elim
  | rt r =>
   rw[q] at p
   cases r with
   | ok x m'=>exact p
   | new o m'=>exact p
   | exc c ks xs m'=>exact p.elim
   | stuck=>exact p.elim
  | ex c ks xs s' m' =>
   rw[q] at p
   exact λg' cls d σ' H' R _ ex=>hE cls d σ' H' (p g' cls d H' R.rs R.st ex)
  | stuck=>rw[q] at p;exact p.elim
theorem FnAt.of{lam:Bool}(F:Fn)(FD:FunD K x qual params body scope dvs kwd f fd)(S:FnScope N F.ps scope)(mo:yw ⟨K,P,w⟩ mg gA cst){B:MSs}(nd:All (λn:dI=>n P w K mg base k) B.needs)(hB:mSs B ⟨N,scope,gA,cst,true,true,lam⟩ body=true)
  (hM:∀as m,as.length=F.ps.length->F.M as m≠.stuck->runD N.length B as m=F.M as m) (bi:Binds K fd F.ps []) (hL:lam=true->X3 K base mg fd.qualname fd.code:=by intro z;cases z):FnAt P w K mg base (k+1) f fd F:=by
 have len:∀vs H Q E,spM ⟨K,P,w⟩ F.ps.length F.M vs H Q E->vs.length=F.ps.length:=λvs H Q E h=>by
  obtain⟨g,m,as,_,r,hl,_⟩:=h
  rw[<- r.length,hl]
 obtain⟨oc,od,dV,kV,doc,pm,an,cdv,ct,osl,rfl,lk,hcd,_,_⟩:=FD.ex
 exact⟨fn_of lk hcd S len λA outer s H vs Q E hr h=>v7 S mo nd hB hM hr (W:=λcls d _ H'=>E cls d H') (L2N.takes_of rfl rfl rfl rfl) (λ_ _ _ _ q=>q) hL h,bi,FD.kp,Nat.succ_pos k⟩
theorem WF{lam:Bool}(F:Fn)(FD:FunD K x qual params body scope dvs kwd f fd)(S:FnScope N F.ps scope)(mo:yw ⟨K,P,w⟩ mg gA cst){B:MSs}(nd:All (λn:dI=>n P w K mg base k) B.needs)(hB:mSs B ⟨N,scope,gA,cst,true,true,lam⟩ body=true)
  (hM:∀as m,as.length=F.ps.length->F.M as m≠.stuck->runD N.length B as m=F.M as m) (hL:lam=true->X3 K base mg fd.qualname fd.code:=by intro z;cases z):FnOk P w K mg base CX0 (k+1) f fd F.ps (λvs H Q E=>spM ⟨K,P,w⟩ F.ps.length F.M vs H Q (λ_ _ _=>False)):=by
 have len:∀vs H Q (E:XK),spM ⟨K,P,w⟩ F.ps.length F.M vs H Q (λ_ _ _=>False)->vs.length=F.ps.length:=λvs H Q E h=>by
  obtain⟨g,m,as,_,r,hl,_⟩:=h
  rw[<- r.length,hl]
 obtain⟨oc,od,dV,kV,doc,pm,an,cdv,ct,osl,rfl,lk,hcd,_,_⟩:=FD.ex
 exact fn_of lk hcd S len λA outer s H vs Q E hr h=>v7 S mo nd hB hM hr (W:=W0) (E:=λ_ _ _=>False) sO (λ_ _ _ _ q=>q) hL h
theorem FnAt.none{ps:List Str}(hk:0<k)(FD:FunD K x qual params body scope dvs kwd f fd)(bi:Binds K fd ps []){name:Str}:FnAt P w K mg base k f fd ⟨name,ps,λ_ _=>.stuck⟩ :=
 ⟨⟨λvs H Q E ⟨_,_,_,_,_,_,p⟩=>p.elim,λA outer s H args us vs Q E _ _ _ _ ⟨_,_,_,_,_,_,p⟩=>p.elim⟩,bi,FD.kp,hk⟩
end
theorem RVs.map{K:Ki}{g:G}{α:Type}{f:α->MV}{h:α->V}(e:∀x,RV K g (f x) (h x)):∀ps:List α,RVs K g (ps.map f) (ps.map h)
 | []=>rfl
 | p::ps=>⟨_,_,rfl,e p,RVs.map e ps⟩
def yE(H:Hp):Hp:=λb=>match H b with
 | some (.tbl _)=>none
 | o=>o
theorem Ez{H:Hp}{b:Addr}{o:HO}(e:yE H b=some o):H b=some o:=by
 unfold yE at e
 split at e
 ·cases e
 ·exact e
theorem Ca{H:Hp}{b:Addr}{o:HO}(e:H b=some o)(n:Jx o):yE H b=some o:=by
 unfold yE
 rw[e]
 cases o with
 | tbl ps=>exact absurd rfl (n ps)
 | _=>rfl
theorem Gq{H:Hp}{b:Addr}{ps:Array Value}(e:H b=some (.tbl ps)):yE H b=none:=by
 unfold yE
 rw[e]
theorem Q4{K:Ki}{H:Hp}{a:Addr}{ns:List Int}{M:Mir}(hT:∀p∈dU K.K,H p.2.1=some (.tbl #[]))(hS:SqL K H a (ns.map V.int))(h:∃m',M [.kl (ns.map MV.int)] []=.ok (.bl true) m'):spM K 1 M [.ref a] H (λv _=>v=.bl true) λ_ _ _=>False:=by
 obtain⟨m',e⟩:=h
 have hS':SqL K (yE H) a (ns.map V.int):=by
  rcases hS with (hS|⟨o,hS⟩)|hS
  ·exact .inl (.inl (Ca hS λps z=>by cases z))
  ·exact .inl (.inr ⟨o,Ca hS λps z=>by cases z⟩)
  ·exact .inr hS
 refine⟨⟨yE H,λ_=>none⟩,[],[.kl (ns.map MV.int)],⟨λ_ _ e=>Ez e,λn o e=>by simp at e,(λn a e=>by cases e),(λn k a e=>by cases e),λp hp=>?_⟩,⟨.ref a,[],rfl,⟨a,ns.map V.int,rfl,hS',?_⟩,rfl⟩,rfl,?_⟩
 ·exact⟨⟨#[],hT p hp,True.intro,λpos cv hc=>by
   have z:codeAmong pos []=some cv:=hc
   simp[codeAmong] at z⟩,Gq (hT p hp),λn e=>by cases e⟩
 ·exact RVs.map (f:=MV.int) (h:=V.int) (λx=>rfl) ns
 ·rw[e]
  intro g' v H' _ _ r
  exact r
section
variable{K:Ki}{W:WX}{σ:St}{H:Hp}{Q:VK}
theorem xW{x:MV}{v:V}{fs:Sl->Mem->R (List OV)}{X:Cx}(p:Parts X W [] fs)(r:∀g,RV K g x v)(h:tE K W (λs m=>(fs s m).bind λ_ m=>.ok (.v x) m) σ H Q):tC v σ H Q:=by
 rw[p.p0] at h
 obtain⟨g,s,m,rs,rl,p⟩:=h
 exact p g v H rs (Stp.refl _ _) (r g)
end
def Mu:o9 where
 parts:=λ_ e=>match e with
  | .Constant .none _ _=>some []
  | _=>none
 F:=λ_ m=>.ok (.v .non) m
 ok:=λok nd h p=>by
  split at h <;> cases h
  exact pe_non.weaken fun σ H Q q=>xW (x:=.non) (v:=.non) p (λ_=>rfl) q
def pBl(b:Bool):o9 where
 parts:=λ_ e=>match e with
  | .Constant (.bool c) _ _=>if b=c then some [] else none
  | _=>none
 F:=λ_ m=>.ok (.v (.bl b)) m
 ok:=λok nd h p=>by
  split at h <;> try contradiction
  split at h <;> cases h
  subst b
  exact pe_bl.weaken fun σ H Q q=>xW (x:=.bl _) (v:=.bl _) p (λ_=>rfl) q
def fY(i:Int):o9 where
 parts:=λ_ e=>match e with
  | .Constant (.int j) _ _=>if i=j then some [] else none
  | _=>none
 F:=λ_ m=>.ok (.v (.int i)) m
 ok:=λok nd h p=>by
  split at h <;> try contradiction
  split at h <;> cases h
  subst i
  exact pe_int.weaken fun σ H Q q=>xW (x:=.int _) (v:=.int _) p (λ_=>rfl) q
def Hz(x:Str):o9 where
 parts:=λ_ e=>match e with
  | .Constant (.str y) _ _=>if x=y then some [] else none
  | _=>none
 F:=λ_ m=>.ok (.v (.str x)) m
 ok:=λok nd h p=>by
  split at h <;> try contradiction
  split at h <;> cases h
  subst x
  exact pe_str.weaken fun σ H Q q=>xW (x:=.str _) (v:=.str _) p (λ_=>rfl) q
mutual
def Kw:MV->MV->Bool
 | .non,.non=>true
 | .bl a,.bl b=>a == b
 | .int a,.int b=>decide (a=b)
 | .str a,.str b=>decide (a=b)
 | .tup xs,.tup ys=>GF xs ys
 | .kl xs,.kl ys=>GF xs ys
 | .kd ks is,.kd ls js=>decide (ks=ls)&&decide (is=js)
 | _,_=>false
def GF:List MV->List MV->Bool
 | [],[]=>true
 | x::xs,y::ys=>Kw x y&&GF xs ys
 | _,_=>false
end
mutual
theorem HH:∀(a b:MV),Kw a b=true->a=b
 | .non,b,h=>by cases b <;> first|rfl|cases h
 | .bl a,b,h=>by
  cases b with
  | bl b=>unfold Kw at h;rw[beq_iff_eq.mp h]
  | _=>cases h
 | .int a,b,h=>by
  cases b with
  | int b=>unfold Kw at h;rw[qQ4 h]
  | _=>cases h
 | .str a,b,h=>by
  cases b with
  | str b=>unfold Kw at h;rw[qQ4 h]
  | _=>cases h
 | .tup xs,b,h=>by
  cases b with
  | tup ys=>unfold Kw at h;rw[wu xs ys h]
  | _=>cases h
 | .kd ks is,b,h=>by
  cases b with
  | kd ls js =>
   unfold Kw at h
   rw[qQb] at h
   rw[qQ4 h.1,qQ4 h.2]
  | _=>cases h
 | .kl xs,b,h=>by
  cases b with
  | kl ys=>unfold Kw at h;rw[wu xs ys h]
  | _=>cases h
 | .lst _,b,h=>by cases b <;> cases h
 | .ref _,b,h=>by cases b <;> cases h
 | .ins _ _ _,b,h=>by cases b <;> cases h
 | .exn _ _ _,b,h=>by cases b <;> cases h
 | .dic _ _,b,h=>by cases b <;> cases h
 | .cls _,b,h=>by cases b <;> cases h
theorem wu:∀(a b:List MV),GF a b=true->a=b
 | [],[],_=>rfl
 | x::xs,y::ys,h=>by
  unfold GF at h
  rw[qQb] at h
  rw[HH x y h.1,wu xs ys h.2]
 | [],_::_,h=>by cases h
 | _::_,[],h=>by cases h
end
def Hq(x:Str)(v:MV):o9 where
 parts:=λc e=>match e with
  | .Name y _=>if (decide (x=y)&&gbB c x&&c.cst.any λp=>decide (p.1=x)&&Kw p.2 v)=true then some [] else none
  | _=>none
 F:=λ_ m=>.ok (.v v) m
 ok:=λok nd h p=>by
  split at h <;> try contradiction
  split at h <;> cases h
  rename_i hb
  simp only[qQb,qQs,List.any_eq_true] at hb
  obtain⟨⟨rfl,h2⟩,q,hq,rfl,h4⟩:=hb
  obtain⟨q1,q2⟩:=q
  cases HH _ _ h4
  obtain⟨g1,g2,g3⟩:=ok.gl h2
  obtain⟨u,w,e1,e2,e3⟩:=ok.cst _ _ hq
  exact (pe_glob g1 e1 e2 g2).weaken fun σ H Q q=>xW p e3 q
inductive O2 where
 | add|sub|mul|fdiv|mod|pow
def aaa:O2->OV->OV->Mem->R OV
 | .add=>Ny|.sub=>V4|.mul=>Ry|.fdiv=>Do|.mod=>Va|.pow=>Ux
def o2B:O2->Operator->Bool
 | .add,.Add=>true|.sub,.Sub=>true|.mul,.Mult=>true|.fdiv,.FloorDiv=>true|.mod,.Mod=>true|.pow,.Pow=>true
 | _,_=>false
theorem Tv{X:Cx}{op:O2}{o:Operator}(h:o2B op o=true):OpR X (binaryOp o) (t2 X.ki (aaa op)):=by
 cases op <;> cases o <;> try (cases h;done)
 ·exact Oz
 ·exact QL
 ·exact Ph
 ·exact KD
 ·exact Qy
 ·exact Oe
def F2(f:OV->OV->Mem->R OV):List OV->Mem->R OV
 | [x,y],m=>f x y m
 | _,_=>.stuck
def F1(f:OV->Mem->R OV):List OV->Mem->R OV
 | [x],m=>f x m
 | _,_=>.stuck
def F1F(f:OV->Mem->R MO):List OV->Mem->R MO
 | [x],m=>f x m
 | _,_=>.stuck
theorem Parts.f2{X:Cx}{W:WX}{a b:Expr}{fs:Sl->Mem->R (List OV)}{f:OV->OV->Mem->R OV}(p:Parts X W [a,b] fs):∃fa fb,PE X a (tE X.ki W fa)/\PE X b (tE X.ki W fb)/\(λs m=>(fs s m).bind (F2 f))=λs m=>(fa s m).bind λx m=>(fb s m).bind λy m=>f x y m:=by
 obtain⟨fa,fb,h1,h2,h3⟩:=p.p2
 exact⟨fa,fb,h1,h2,h3 (F2 f)⟩
theorem Parts.f1{X:Cx}{W:WX}{a:Expr}{fs:Sl->Mem->R (List OV)}{f:OV->Mem->R OV}(p:Parts X W [a] fs):∃fa,PE X a (tE X.ki W fa)/\(λs m=>(fs s m).bind (F1 f))=λs m=>(fa s m).bind λx m=>f x m:=by
 obtain⟨fa,h1,h3⟩:=p.p1
 exact⟨fa,h1,h3 (F1 f)⟩
theorem Parts.f1F{X:Cx}{W:WX}{a:Expr}{fs:Sl->Mem->R (List OV)}{f:OV->Mem->R MO}(p:Parts X W [a] fs):∃fa,PE X a (tE X.ki W fa)/\(λs m=>(fs s m).bind (F1F f))=λs m=>(fa s m).bind λx m=>f x m:=by
 obtain⟨fa,h1,h3⟩:=p.p1
 exact⟨fa,h1,h3 (F1F f)⟩
def dR(op:O2):o9 where
 parts:=λ_ e=>match e with
  | .BinOp l o r _=>if o2B op o=true then some [l,r] else none
  | _=>none
 F:=F2 (aaa op)
 ok:=λok nd h p=>by
  split at h <;> try contradiction
  split at h <;> cases h
  obtain⟨fa,fb,h1,h2,h3⟩:=p.f2 (f:=aaa op)
  rw[h3]
  exact (pe_op (Tv (by assumption)) h1 h2).weaken fun σ H Q q=>Cd q
def ab5:o9 where
 parts:=λ_ e=>match e with
  | .UnaryOp .USub l _=>some [l]
  | _=>none
 F:=F1 Ss
 ok:=λok nd h p=>by
  split at h <;> cases h
  obtain⟨fa,h1,h3⟩:=p.f1 (f:=Ss)
  rw[h3]
  exact (pe_un QT h1).weaken fun σ H Q q=>aaF q
def Eh:CmpOp->CmpOp->Bool
 | .Eq,.Eq=>true|.NotEq,.NotEq=>true|.Lt,.Lt=>true|.LtE,.LtE=>true|.Gt,.Gt=>true|.GtE,.GtE=>true|.Is,.Is=>true|.IsNot,.IsNot=>true|.In,.In=>true|.NotIn,.NotIn=>true
 | _,_=>false
theorem gJ{a b:CmpOp}(h:Eh a b=true):a=b:=by cases a <;> cases b <;> first|rfl|cases h
theorem bV.u66{k:Nat}{W:WX}{c:Cfg}{X:Cx}(ok:bV k W c X):X.A.units+66<cLine:=ok.un
def cEq:iZ:={ op:=Eh .Eq,F:=eqO,ok:=λok nd h=>by cases gJ h;exact Ud ok.u66 }
def cNe:iZ:={ op:=Eh .NotEq,F:=neO,ok:=λok nd h=>by cases gJ h;exact Ul ok.u66 }
def cLt:iZ:={ op:=Eh .Lt,F:=ltO,ok:=λok nd h=>by cases gJ h;exact vA op_lt }
def cLe:iZ:={ op:=Eh .LtE,F:=leO,ok:=λok nd h=>by cases gJ h;exact vA op_le }
def cGt:iZ:={ op:=Eh .Gt,F:=gtO,ok:=λok nd h=>by cases gJ h;exact vA op_gt }
def cGe:iZ:={ op:=Eh .GtE,F:=geO,ok:=λok nd h=>by cases gJ h;exact vA op_ge }
def cIs:iZ:={ op:=Eh .Is,F:=isO,ok:=λok nd h=>by cases gJ h;exact U0 }
def cIn:iZ:={ op:=Eh .In,F:=inO,ok:=λok nd h=>by cases gJ h;exact U9 ok.u66 }
def Af:iZ:={ op:=Eh .NotIn,F:=N8,ok:=λok nd h=>by cases gJ h;exact Io ok.u66 }
def adR(xs:List OV)(m:Mem):R OV:=match vals xs with
 | some ys=>if ys.length<=sizeLine then .ok (.v (.tup ys)) m else .stuck
 | none=>.stuck
def ab3(xs:List OV)(m:Mem):R MO:=match vals xs with
 | some ys=>if ys.length<=sizeLine then .ok (.lst ys) m else .stuck
 | none=>.stuck
def v5:o9 where
 parts:=λ_ e=>match e with
  | .Tuple es _ _=>if es.all cR=true then some es else none
  | _=>none
 F:=adR
 ok:=λok nd h p=>by
  split at h <;> try contradiction
  split at h <;> cases h
  exact (pe_tup (p.pa (by assumption))).weaken fun σ H Q q=>Wq q
def dY:KC where
 parts:=λ_ e=>match e with
  | .List es _=>if es.all cR=true then some es else none
  | _=>none
 F:=ab3
 ok:=λok nd h p=>by
  split at h <;> try contradiction
  split at h <;> cases h
  exact (pe_lst (p.pa (by assumption))).weaken fun σ H Q q=>Nr q
def WL:HY where
 parts:=λ_ e=>match e with
  | .List es _=>some es
  | _=>none
 F:=ab3
 ok:=λok nd h p=>by
  split at h <;> cases h
  exact (pe_lst p).weaken fun σ H Q q=>Nr q
def ixF(a i:OV)(m:Mem):R OV:=match Jy m a with
 | some (ks,xs)=>(match Dk (fQ m i) with
  | some _=>(match uf ks xs (fQ m i) with
   | some x=>.ok (.v x) m
   | none=>.stuck)
  | none=>.stuck)
 | none=>match i with
  | .v (.int k)=>(match pF m a with
   | some (.l xs)=>(match atI xs k with
    | some x=>.ok (.v x) m
    | none=>.stuck)
   | some (.t xs)=>(match atI xs k with
    | some x=>.ok (.v x) m
    | none=>.stuck)
   | some (.s z)=>if z.length<=sizeLine then (match atI z.cps.toList k with
    | some c=>.ok (.v (.str ⟨#[c]⟩)) m
    | none=>.stuck) else .stuck
   | none=>.stuck)
  | _=>.stuck
section
variable{X:Cx}
theorem M7{K:Ki}{g:G}{xs:List MV}{vs:List V}{i:Int}{x:MV}(r:RVs K g xs vs)(e:atI xs i=some x):∃v,atI vs i=some v/\RV K g x v:=by
 unfold atI at e ⊢
 rw[<- r.length]
 cases q:ixN xs.length i with
 | none=>rw[q] at e;cases e
 | some j =>
  rw[q] at e
  exact r.get (show xs[j]? = some x from e)
def ixS(a i:OV)(m:Mem):R OV:=match i with
  | .v (.int k)=>(match pF m a with
   | some (.l xs)=>(match atI xs k with
    | some x=>.ok (.v x) m
    | none=>.stuck)
   | some (.t xs)=>(match atI xs k with
    | some x=>.ok (.v x) m
    | none=>.stuck)
   | some (.s z)=>if z.length<=sizeLine then (match atI z.cps.toList k with
    | some c=>.ok (.v (.str ⟨#[c]⟩)) m
    | none=>.stuck) else .stuck
   | none=>.stuck)
  | _=>.stuck
theorem Sy:IxR X (t2 X.ki ixS):=by
 have w:∀x y H Q,t2 X.ki ixS x y H Q->rIx X.K x y H Q:=by
  rintro x y H Q ⟨E,g,m,a,b,rs,ra,rb,p⟩
  unfold ixS at p
  split at p
  ·rename_i k
   cases rb
   split at p
   ·rename_i xs e
    obtain⟨c,ys,rfl,q,r⟩:=cY rs ra e
    split at p
    ·rename_i z e2
     obtain⟨u,e3,r3⟩:=M7 r e2
     exact .inl ⟨c,ys,k,u,rfl,rfl,q,e3,bJ rs p r3⟩
    ·exact p.elim
   ·rename_i xs e
    obtain⟨c,ys,rfl,q,r⟩:=cY rs ra e
    split at p
    ·rename_i z e2
     obtain⟨u,e3,r3⟩:=M7 r e2
     exact .inr (.inl ⟨c,ys,k,u,rfl,rfl,q,e3,bJ rs p r3⟩)
    ·exact p.elim
   ·rename_i z e
    obtain rfl:=cY rs ra e
    split at p
    ·split at p
     ·exact .inr (.inr ⟨z,k,_,rfl,rfl,by assumption,by assumption,bJ rs p rfl⟩)
     ·exact p.elim
    ·exact p.elim
   ·exact p.elim
  ·exact p.elim
 intro value slice pins s σ H x y v u Q I rx ry h hs
 exact ix_seq value slice pins s σ H x y v u Q I rx ry (w _ _ _ _ h) hs
def rIxD:R2:=λx y H Q=>∃a v,x=.ref a/\DGet H a y (some v)/\Q v H
theorem Qm(hu:X.A.units+66<cLine):IxR X rIxD:=by
 rintro value slice pins s σ H x y v u Q I rx ry ⟨a,z,rfl,g,q⟩ hs
 cases rx
 have hT:=dict_typeIs I g
 unfold subscriptTail
 refine wpAny_bind ?_
 rw[getitemInPython_of_ne hT.not_modules]
 refine wpAny_bind (wpAny_specialOf hT PySem.F.slot_dict_getitem.lookup ?_)
 have fin:wpAny (model X.prog X.w) X.A (subscripted slice false (.ref a) u) (λr s₃=>wpAny (model X.prog X.w) X.A (letTemporaryGo value (.ref a) r >>= λ_=>pure r) (EP X pins σ Q) X.xe s₃) X.xe s:=by
  rw[hs]
  exact wpAny_operating (d_getItem (by omega) I g ry λw' s3 I3 rw'=>wpAny_bind (wpAny_letTemporaryGo (wpAny_pure ⟨z,H,I3,rw',q⟩)))
 first
  | exact wpAny_pure (wpAny_bind fin)
  | exact wpAny_bind (wpAny_pure (wpAny_bind fin))
  | exact wpAny_bind fin
theorem Zg(hu:X.A.units+66<cLine):IxR X (t2 X.ki ixF):=by
 have w:∀x y H Q,t2 X.ki ixF x y H Q->rIxD x y H Q\/t2 X.ki ixS x y H Q:=by
  rintro x y H Q ⟨E,g,m,a,b,rs,ra,rb,p⟩
  unfold ixF at p
  split at p
  ·rename_i ks xs hd
   split at p
   ·rename_i k hk
    obtain⟨d,kv,rfl,h1,rfl,h2,h3⟩:=Fv rs rb ra hd hk
    split at p
    ·rename_i z e
     obtain⟨v,e1,e2⟩:=h2 z e
     exact .inl ⟨d,v,rfl,by rw[<- e1];exact DGet.k h1,bJ rs p e2⟩
    ·exact p.elim
   ·exact p.elim
  ·exact .inr ⟨E,g,m,a,b,rs,ra,rb,p⟩
 exact λvalue slice pins s σ H x y v u Q I rx ry h hs=>((Qm hu).or Sy) value slice pins s σ H x y v u Q I rx ry (w _ _ _ _ h) hs
end
def pIx:o9 where
 parts:=λ_ e=>match e with
  | .Subscript x y _=>if rY y=true then some [x,y] else none
  | _=>none
 F:=F2 ixF
 ok:=λok nd h p=>by
  split at h <;> try contradiction
  split at h <;> cases h
  obtain⟨fa,fb,h1,h2,h3⟩:=p.f2 (f:=ixF)
  rw[h3]
  exact (pe_ix (Zg ok.u66) h1 h2 (Bo (by assumption))).weaken fun σ H Q q=>Cd q
def Zb:o9 where
 parts:=λ_ e=>match e with
  | .Subscript x (.Slice none (some l) none _) _=>some [x,l]
  | _=>none
 F:=F2 (slA false)
 ok:=λok nd h p=>by
  split at h <;> cases h
  obtain⟨fa,fb,h1,h2,h3⟩:=p.f2 (f:=slA false)
  rw[h3]
  exact (pe_slice sl_all h1 po_none (po_some h2)).weaken fun σ H Q q=>Rg q
def tZ(nm:Str)(c:Cfg):Expr->Option (List Expr)
 | .Call (.Name x _) [a] [] _=>if (decide (x=nm)&&btB c x&&cR a)=true then some [a] else none
 | _=>none
theorem vG{nm:Str}{c:Cfg}{e:Expr}{es:List Expr}(h:tZ nm c e=some es):∃p a pos,e=.Call (.Name nm p) [a] [] pos/\btB c nm=true/\cR a=true/\es=[a]:=by
 unfold tZ at h
 split at h <;> try contradiction
 split at h <;> cases h
 rename_i hb
 simp only[qQb,qQs] at hb
 obtain⟨⟨rfl,h2⟩,h3⟩:=hb
 exact⟨_,_,_,rfl,h2,h3,rfl⟩
def tB1(K:Ki)(f:OV->Mem->R OV):List V->Hp->VK->Prop:=λvs H Q=>∃v,vs=[v]/\t1 K f v H Q
def Zz(K:Ki)(f:OV->Mem->R MO):List V->Hp->VK->Prop:=λvs H Q=>∃v,vs=[v]/\∃E g m a,Rs K g m H/\RO K g H a v/\dJ K E g H (f a m) Q
theorem _root_.L2.CallR.weaken{X:Cx}{f:Value}{r r':List V->Hp->VK->Prop}(h:CallR X f r)(w:∀x H Q,r' x H Q->r x H Q):CallR X f r':=λpins s σ H xs us Q I rx q=>h pins s σ H xs us Q I rx (w xs H Q q)
theorem Yt{K:Ki}{W:WX}{σ:St}{H:Hp}{Q:VK}{fa:Sl->Mem->R OV}{f1:OV->Mem->R MO}(h:tF K W (λs m=>(fa s m).bind λx m=>f1 x m) σ H Q):tCB (Zz K f1) (tCons (tE K W fa) tNil) σ H Q:=by
 obtain⟨g,s,m,rs,rl,p⟩:=h
 exact⟨g,s,m,rs,rl,(dJ.bind p).imp λv H1 ⟨x,g1,m1,rs1,st1,r1,p1⟩=>⟨v,rfl,_,g1,m1,x,rs1,r1,p1⟩⟩
section
variable{k:Nat}{W:WX}{c:Cfg}{X:Cx}{e:Expr}{es:List Expr}{fs:Sl->Mem->R (List OV)}
theorem c1B{nm:Str}{id:String}{f:OV->Mem->R OV}(ok:bV k W c X)(h:tZ nm c e=some es)(p:Parts X W es fs)(hc:CallR X (.builtin id) (tB1 X.ki f))(hv:bootBuiltins nm=some (.builtin id)):PE X e (tE X.ki W λs m=>(fs s m).bind (F1 f)):=by
 obtain⟨q,a,pos,rfl,h2,h3,rfl⟩:=vG h
 obtain⟨g1,g2,g3,g4⟩:=ok.bt h2
 obtain⟨fa,e1,e3⟩:=p.f1 (f:=f)
 rw[e3]
 exact (pe_callB hc g1 g2 hv (pa_cons e1 pa_nil (dH h3)) g4 g3 (dH h3) rfl).weaken fun σ H Q h=>NQ h
theorem c1T{nm:Str}{id:String}{f:OV->Mem->R OV}(ok:bV k W c X)(h:tZ nm c e=some es)(p:Parts X W es fs)(hc:CallR X (.type id) (tB1 X.ki f))(hv:bootBuiltins nm=some (.type id)):PE X e (tE X.ki W λs m=>(fs s m).bind (F1 f)):=by
 obtain⟨q,a,pos,rfl,h2,h3,rfl⟩:=vG h
 obtain⟨g1,g2,g3,g4⟩:=ok.bt h2
 obtain⟨fa,e1,e3⟩:=p.f1 (f:=f)
 rw[e3]
 exact (pe_callTy hc g1 g2 hv (pa_cons e1 pa_nil (dH h3)) g4 g3 (dH h3) rfl).weaken fun σ H Q h=>NQ h
theorem aeP{nm:Str}{id:String}{f:OV->Mem->R MO}(ok:bV k W c X)(h:tZ nm c e=some es)(p:Parts X W es fs)(hc:CallR X (.type id) (Zz X.ki f))(hv:bootBuiltins nm=some (.type id)):PE X e (tF X.ki W λs m=>(fs s m).bind (F1F f)):=by
 obtain⟨q,a,pos,rfl,h2,h3,rfl⟩:=vG h
 obtain⟨g1,g2,g3,g4⟩:=ok.bt h2
 obtain⟨fa,e1,e3⟩:=p.f1F (f:=f)
 rw[e3]
 exact (pe_callTy hc g1 g2 hv (pa_cons e1 pa_nil (dH h3)) g4 g3 (dH h3) rfl).weaken fun σ H Q h=>Yt h
end
def JB(x:OV)(m:Mem):R OV:=match Jy m x with
 | some (ks,_)=>.ok (.v (.int ks.length)) m
 | none=>match pF m x with
  | some (.l xs)=>.ok (.v (.int xs.length)) m
  | some (.t xs)=>.ok (.v (.int xs.length)) m
  | some (.s z)=>if z.length<=sizeLine then .ok (.v (.int z.length)) m else .stuck
  | none=>.stuck
def TV(x:OV)(m:Mem):R OV:=match x with
 | .v (.int i)=>.ok (.v (.int i)) m
 | .v (.bl k)=>.ok (.v (.int (if k then 1 else 0))) m
 | _=>.stuck
def Vc(x:OV)(m:Mem):R OV:=match x with
 | .v (.int i)=>.ok (.v (.int (if i<0 then -i else i))) m
 | _=>.stuck
def Nt:List MV->Option (List Bool)
 | []=>some []
 | .bl b::r=>(Nt r).map (b::·)
 | _::_=>none
def strsOf:List MV->Option (List Str)
 | []=>some []
 | .str b::r=>(strsOf r).map (b::·)
 | _::_=>none
def SM(x:OV)(m:Mem):R OV:=match pF m x with
 | some (.l xs)=>(match Nt xs with
  | some bs=>.ok (.v (.bl (bs.all id))) m
  | none=>.stuck)
 | _=>.stuck
def jN(x:OV)(m:Mem):R MO:=match pF m x with
 | some (.l xs)=>.ok (.lst xs) m
 | some (.t xs)=>.ok (.lst xs) m
 | _=>.stuck
section
variable{X:Cx}
theorem RVs.Qn{K:Ki}{g:G}{α:Type}{f:α->V}{ks:List MV}{kv:List α}(r:RVs K g ks (kv.map f)):ks.length=kv.length:=by
 have:=r.length
 simpa using this
theorem V8:CallR X (.builtin "len") (tB1 X.ki JB):=by
 refine ((call_len_seq.or call_len_str).or call_lenD).weaken ?_
 rintro xs H Q ⟨v,rfl,E,g,m,a,rs,ra,p⟩
 unfold JB at p
 split at p
 ·rename_i ks xs hd
  obtain⟨b,u,kvs,rfl,h1,⟨kv,rfl,rfl⟩,h3,h4⟩:=yV rs ra hd
  rw[qQt] at h3
  refine .inr ⟨b,kv,rfl,h1,?_⟩
  have e:=h3.Qn
  rw[<- e]
  exact bJ rs p rfl
 ·split at p
  ·rename_i ys e
   obtain⟨b,zs,rfl,q,r⟩:=cY rs ra e
   exact .inl (.inl ⟨b,zs,rfl,.inl q,by rw[<- r.length];exact bJ rs p rfl⟩)
  ·rename_i ys e
   obtain⟨b,zs,rfl,q,r⟩:=cY rs ra e
   exact .inl (.inl ⟨b,zs,rfl,.inr q,by rw[<- r.length];exact bJ rs p rfl⟩)
  ·rename_i z e
   obtain rfl:=cY rs ra e
   split at p
   ·exact .inl (.inr ⟨z,rfl,by assumption,bJ rs p rfl⟩)
   ·exact p.elim
  ·exact p.elim
theorem Wb:CallR X (.type "int") (tB1 X.ki TV):=by
 refine call_int1.weaken ?_
 rintro xs H Q ⟨v,rfl,E,g,m,a,rs,ra,p⟩
 unfold TV at p
 split at p
 ·cases ra;exact .inl ⟨_,rfl,bJ rs p rfl⟩
 ·cases ra;exact .inr ⟨_,rfl,bJ rs p rfl⟩
 ·exact p.elim
theorem Tn:CallR X (.builtin "abs") (tB1 X.ki Vc):=by
 refine call_abs.weaken ?_
 rintro xs H Q ⟨v,rfl,E,g,m,a,rs,ra,p⟩
 unfold Vc at p
 split at p
 ·cases ra;exact⟨_,rfl,bJ rs p rfl⟩
 ·exact p.elim
theorem En{K:Ki}{g:G}:∀{xs:List MV}{bs:List Bool}{vs:List V},Nt xs=some bs->RVs K g xs vs->vs=bs.map V.bl
 | [],_,_,e,r=>by cases e;exact r
 | x::xs,_,_,e,⟨v,r,e1,h,t⟩=>by
  cases x <;> try (cases e;done)
  rename_i b
  obtain⟨zs,e2,rfl⟩:=qQi.mp (show (Nt xs).map (b::·)=some _ from e)
  subst e1
  cases h
  rw[En e2 t];rfl
theorem xP{K:Ki}{g:G}:∀{xs:List MV}{bs:List Str}{vs:List V},strsOf xs=some bs->RVs K g xs vs->vs=bs.map V.str
 | [],_,_,e,r=>by cases e;exact r
 | x::xs,_,_,e,⟨v,r,e1,h,t⟩=>by
  cases x <;> try (cases e;done)
  rename_i b
  obtain⟨zs,e2,rfl⟩:=qQi.mp (show (strsOf xs).map (b::·)=some _ from e)
  subst e1
  cases h
  rw[xP e2 t];rfl
theorem Vn(hc:X.calm=true):CallR X (.builtin "all") (tB1 X.ki SM):=by
 refine (cr_all hc).weaken ?_
 rintro xs H Q ⟨v,rfl,E,g,m,a,rs,ra,p⟩
 unfold SM at p
 split at p
 ·rename_i ys e
  obtain⟨b,zs,rfl,q,r⟩:=cY rs ra e
  split at p
  ·rename_i bs e2
   rw[En e2 r] at q
   exact⟨b,bs,rfl,q,bJ rs p rfl⟩
  ·exact p.elim
 ·exact p.elim
theorem Pa:CallR X (.type "list") (Zz X.ki jN):=by
 refine call_list_of.weaken ?_
 rintro xs H Q ⟨v,rfl,E,g,m,a,rs,ra,p⟩
 unfold jN at p
 split at p
 ·rename_i ys e
  obtain⟨b,zs,rfl,q,r⟩:=cY rs ra e
  exact⟨b,zs,rfl,.inl q,YS rs r p⟩
 ·rename_i ys e
  obtain⟨b,zs,rfl,q,r⟩:=cY rs ra e
  exact⟨b,zs,rfl,.inr q,YS rs r p⟩
 ·exact p.elim
end
def Pg:o9:={ parts:=tZ "len",F:=F1 JB,ok:=λok nd h p=>c1B ok h p V8 boot_len }
def vJ:o9:={ parts:=tZ "int",F:=F1 TV,ok:=λok nd h p=>c1T ok h p Wb boot_int }
def YW:o9:={ parts:=tZ "abs",F:=F1 Vc,ok:=λok nd h p=>c1B ok h p Tn boot_abs }
def abJ:o9 where
 parts:=λc e=>if c.calm=true then tZ "all" c e else none
 F:=F1 SM
 ok:=λok nd h p=>by
  split at h <;> try contradiction
  exact c1B ok h p (Vn (ok.calm (by assumption))) boot_all
def Wl:KC:={ parts:=tZ "list",F:=F1F jN,ok:=λok nd h p=>aeP ok h p Pa boot_list }
def oM(F:Fn)(c:Cfg):Expr->Option (List Expr)
 | .Call (.Name x _) es [] _=>if (decide (x=F.name)&&decide (es.length=F.ps.length)&&gbB c x&&es.all cR)=true then some es else none
 | _=>none
section
variable{k:Nat}{W:WX}{c:Cfg}{X:Cx}{e:Expr}{es:List Expr}{fs:Sl->Mem->R (List OV)}{F:Fn}
theorem Jd{pins:List (Addr × Obj)}{σ:St}{H:Hp}{s:Shared}{Q:VK}{us:List Value}{vs:List V}{f:Addr}{fd:FuncData}(fa:FnAt X.prog X.w X.K X.mg X.base k f fd F)(hr:Room k X.A)(tk:L2N.Takes X W)
  (I:Inv X pins σ H s) (r:Vals vs us) (h:spM X.ki F.ps.length F.M vs H Q (WE W σ)):wpAny (model X.prog X.w) X.A (call (.ref f) us) (EP X pins σ Q) X.xe s :=
 run_fnSD (dvs:=[]) (ds:=[]) (E:=fun σ=>WE W σ) fa.ok hr fa.bi .nil (L2N.passAt tk σ) I r (by rw[qQy];exact h)
theorem BP{x:Str}{p pos:Pos}(ok:bV k W c X){f:Addr}{fd:FuncData}(hm:X.mg x=some (.ref f))(fa:FnAt X.prog X.w X.K X.mg X.base k f fd F)(hl:es.length=F.ps.length)(hb:gbB c x=true)(hp:es.all cR=true)(q:Parts X W es fs):
  PE X (.Call (.Name x p) es [] pos) (tCl X.ki W F.M F.ps.length (tA X.ki W fs)):=by
 obtain⟨g1,g2,g3⟩:=ok.gl hb
 refine⟨λpins s σ H Q I h=>?_⟩
 refine wpAny_Call_Name_kw (ld_glob I g1 hm ?_ g2)
 cases es with
 | nil =>
  have e:=q.p0
  rw[e] at h
  obtain⟨g,s',m,rs,rl,p⟩:=h
  have hsp:=p g [] H rs (Stp.refl _ _) .nil
  exact PySem.W.callWith_K0 I.kIn fa.kp (Jd (us:=[]) fa (ok.room fa.pos) ok.tk I .nil hsp.2)
 | cons a as =>
  rw[List.all_cons,qQb] at hp
  refine PySem.W.callWith_K (h₀:=X.base) I.ok.mod.kin fa.kp (thn ((q.pa (by rw[List.all_cons,qQb];exact hp)).run pos pins s σ H _ I h) λus s1 ⟨vs,H1,I1,r,q⟩=>⟨I1.kIn,?_⟩) (dH hp.1) (noStar hp.2)
  exact Jd fa (ok.room fa.pos) ok.tk I1 r q.2
theorem qC(h:oM F c e=some es):∃p pos,e=.Call (.Name F.name p) es [] pos/\es.length=F.ps.length/\gbB c F.name=true/\es.all cR=true:=by
 unfold oM at h
 split at h <;> try contradiction
 split at h <;> cases h
 rename_i hb
 simp only[qQb,qQs] at hb
 obtain⟨⟨⟨rfl,h2⟩,h3⟩,h4⟩:=hb
 exact⟨_,_,rfl,h2,h3,h4⟩
end
def gH(F:Fn):o9 where
 need:=[nFn F]
 parts:=oM F
 F:=HF F.M
 ok:=λok nd h p=>by
  obtain⟨q,pos,rfl,h2,h3,h4⟩:=qC h
  obtain⟨f,fd,hm,fa⟩:=nd _ (qQk.mpr rfl)
  exact (BP ok hm fa h2 h3 h4 p).weaken fun σ H Q q=>Ro (λs m xs m' e=>(p.len s m xs m' e).trans h2) q
def Hf(F:Fn):o9 where
 need:=[nFn F]
 parts:=oM F
 F:=G6 F.M
 ok:=λok nd h p=>by
  obtain⟨q,pos,rfl,h2,h3,h4⟩:=qC h
  obtain⟨f,fd,hm,fa⟩:=nd _ (qQk.mpr rfl)
  exact (BP ok hm fa h2 h3 h4 p).weaken fun σ H Q q=>Kd (λs m xs m' e=>(p.len s m xs m' e).trans h2) q
inductive Ty where
 | b (s:String)
 | own (c:Str)
 deriving DecidableEq
def Ty.v(K:Ki):Ty->V
 | .b s=>.ty s
 | .own c=>.ref (K.ga c)
def Ty.u(K:Ki):Ty->Value
 | .b s=>.type s
 | .own c=>.ref (K.ga c)
theorem Ty.cls(K:Ki)(t:Ty):ClsV (t.v K) (t.u K):=by
 cases t with
 | b s=>exact .ty s
 | own c=>exact .own _
theorem Ty.rel(K:Ki)(t:Ty):RelV (t.v K) (t.u K):=by
 cases t with
 | b s=>exact rfl
 | own c=>exact rfl
structure abK(K:PySem.W.Frag)(C:Addr):Prop where
 cl:Cls K C
 ha:PySem.W.findIn K (.ref C) "__class__" = some (some (.builtin "object.__class__"))
 hn:PySem.W.specialIn K (.builtin "object.__class__") "__get__" = some (some (.builtin "getset_descriptor.__get__"))
 htk:PySem.W.takesIn K (.builtin "object.__class__")=some true
 hm:PySem.W.mroIn K C (.type "object")=some true
def UG(c:Str):dI:=λ_ _ K _ _ _=>abK K (He.ga K c)
def az(s t:Ty)(b:Bool):dI:=λP w K _ _ _=>PySem.W.kitOne K (s.u ⟨K,P,w⟩) (t.u ⟨K,P,w⟩)=some b
def nGl(c:Str):dI:=λ_ _ K mg _ _=>mg c=some (.ref (He.ga K c))
def RP(m:Mem):OV->Option (Str × List Str × List MV)
 | .v (.ins c ks xs)=>some (c,ks,xs)
 | .b (.ins c ks xs)=>some (c,ks,xs)
 | .v (.ref n)=>(match m[n]? with
  | some (some (.ins c ks xs))=>some (c,ks,xs)
  | _=>none)
 | _=>none
theorem wy{K:Ki}{g:G}{H:Hp}{m:Mem}{x:OV}{v:V}{c:Str}{ks:List Str}{xs:List MV}(rs:Rs K g m H)(r:RO K g H x v)(e:RP m x=some (c,ks,xs)):
  ∃a dx fs,v=.ref a/\H a=some (.ins (K.ga c) dx fs)/\g.F dx=some (.own a)/\fs.map (·.1)=ks/\RVs K g xs (fs.map (·.2)):=by
 cases x with
 | b o =>
  cases o with
  | ins c ks xs =>
   cases e
   obtain⟨a,rfl,⟨dx,fs,h1,h2,h3,h4⟩,_⟩:=r
   exact⟨a,dx,fs,rfl,h1,h2,h3,h4⟩
  | _=>cases e
 | v x =>
  cases x with
  | ins c ks xs =>
   cases e
   obtain⟨a,dx,fs,rfl,h1,h2,h3,h4⟩:=r
   exact⟨a,dx,fs,rfl,rs.sub _ _ h1,h2,h3,h4⟩
  | ref n =>
   obtain⟨a,rfl,hn⟩:=r
   unfold RP at e
   dsimp only at e
   split at e
   ·rename_i e2
    cases e
    obtain⟨b,q1,_,dx,fs,h1,h2,h3,h4⟩:=rs.gr n _ e2
    rw[hn] at q1;cases q1
    exact⟨a,dx,fs,rfl,h1,h2,h3,h4⟩
   ·cases e
  | _=>cases e
def tyO(m:Mem)(x:OV):Option Ty:=match RP m x with
 | some (c,_)=>some (.own c)
 | none=>(match Jy m x with
  | some _=>some (.b "dict")
  | none=>(match x with
   | .v .non=>some (.b "NoneType")
   | .v (.bl _)=>some (.b "bool")
   | .v (.int _)=>some (.b "int")
   | .v (.str _)=>some (.b "str")
   | .v (.tup _)=>some (.b "tuple")
   | .v (.lst _)=>some (.b "list")
   | .b (.lst _)=>some (.b "list")
   | .v (.ref n)=>(rB m n).map λ_=>.b "list"
   | _=>none))
def Zr:List String:=["NoneType","bool","int","str","tuple","list","dict"]
def Ml:List String:=["int","str","bool","list","tuple","dict"]
def WY(a b:String):Bool:=a == b || (a == "bool"&&b == "int")
theorem Wt:∀a∈Zr,∀b∈Ml,kitB a b=some (WY a b):=by decide +kernel
def DW(ts:List Ty)(own:List (Str × List Bool)):Ty->Option (List Bool)
 | .b s=>some (ts.map λt=>match t with
  | .b u=>WY s u
  | .own _=>false)
 | .own c=>own.lookup c
def Df(ts:List Ty)(own:List (Str × List Bool))(x:OV)(m:Mem):R OV:=match tyO m x with
 | some t=>(match DW ts own t with
  | some bs=>.ok (.v (.bl (bs.any id))) m
  | none=>.stuck)
 | none=>.stuck
def pK(ts:List Ty)(own:List (Str × List Bool)):List dI :=
 (ts.flatMap λt=>match t with
  | .own c=>nGl c::Zr.map λs=>az (.b s) (.own c) false
  | .b _=>[])++own.flatMap λp=>UG p.1::List.zipWith (λt b=>az (.own p.1) t b) ts p.2
theorem Qe{m:Mem}{x:OV}{s:String}(e:tyO m x=some (.b s)):s∈Zr:=by
 unfold tyO at e
 split at e
 ·cases e
 ·split at e
  ·cases e;decide
  ·split at e <;> first|(cases e;done)|(cases e;decide)|skip
   obtain⟨_,_,e3⟩:=qQi.mp e
   cases e3;decide
theorem N5{K:Ki}{g:G}{H:Hp}{m:Mem}{x:OV}{v:V}{t:Ty}(rs:Rs K g m H)(r:RO K g H x v)(e:tyO m x=some t)(hI:∀c,t=.own c->abK K.K (K.ga c)):TyX K H v (t.u K):=by
 unfold tyO at e
 split at e
 ·rename_i c p hi
  cases e
  obtain⟨ks,xs⟩:=p
  obtain⟨a,dx,fs,rfl,h1,_⟩:=wy rs r hi
  have q:=hI _ rfl
  exact .base (.ins h1 q.cl q.ha q.hn q.htk q.hm)
 ·split at e
  ·rename_i p hd
   cases e
   obtain⟨ks,xs⟩:=p
   obtain⟨a,u,kvs,rfl,h1,⟨kv,rfl,_⟩,_⟩:=yV rs r hd
   exact .base (.dK h1)
  ·split at e
   ·cases e;cases r;exact .base .non
   ·cases e;cases r;exact .base (.bl _)
   ·cases e;cases r;exact .base (.int _)
   ·cases e;cases r;exact .base (.str _)
   ·cases e
    obtain⟨a,ys,rfl,q,_⟩:=r
    rcases q with (q|⟨o,q⟩)|⟨o,its,n,q,c,_⟩
    ·exact .base (.tup (rs.sub _ _ q))
    ·exact .fTuple (rs.sub _ _ q)
    ·exact .kTuple q c
   ·cases e
    obtain⟨a,ys,rfl,q,_⟩:=r
    exact .base (.lst (rs.sub _ _ q))
   ·cases e
    obtain⟨a,rfl,⟨ys,q,_⟩,_⟩:=r
    exact .base (.lst q)
   ·rename_i n
    obtain⟨xs,hx,e3⟩:=qQi.mp e
    cases e3
    obtain⟨a,rfl,hn⟩:=r
    obtain⟨ys,h1,_⟩:=Hj rs hn hx
    exact .base (.lst h1)
   ·cases e
theorem Mz{K:PySem.W.Frag}{t:Value}:∀{us:List Value}{bs:List Bool},us.length=bs.length->(∀(i:Nat) u b,us[i]? = some u->bs[i]? = some b->PySem.W.kitOne K t u=some b)->PySem.W.kitAny K t us=some (bs.any id)
 | [],[],_,_=>rfl
 | u::us,b::bs,hl,h=>by
  have h1:=h 0 u b rfl rfl
  refine kitAny_cons h1 (λhb=>?_) λhb=>by subst hb;rfl
  subst hb
  show PySem.W.kitAny K t us=some (bs.any id)
  exact Mz (by simpa using hl) λi u b e1 e2=>h (i+1) u b (by simpa using e1) (by simpa using e2)
 | [],_::_,hl,_=>by cases hl
 | _::_,[],hl,_=>by cases hl
def XD(c:Cfg):Ty->Expr->Bool
 | .b s,.Name x _=>decide (x=Str.ofString s)&&btB c x&&decide (s∈Ml)
 | .own d,.Name x _=>decide (x=d)&&gbB c x
 | _,_=>false
def Xc(c:Cfg):List Ty->List Expr->Bool
 | [],[]=>true
 | t::ts,e::es=>XD c t e&&Xc c ts es
 | _,_=>false
theorem Oh{s:String}(h:s∈Ml):bootBuiltins (Str.ofString s)=some (.type s):=by
 unfold Ml at h
 simp only[qQj,qQl,or_false] at h
 rcases h with rfl|rfl|rfl|rfl|rfl|rfl
 ·exact boot_int
 ·exact boot_str
 ·exact boot_bool
 ·exact boot_list
 ·exact boot_tuple
 ·exact boot_dict
section
variable{k:Nat}{W:WX}{c:Cfg}{X:Cx}
theorem Vi(ok:bV k W c X){ts:List Ty}{own:List (Str × List Bool)}(nd:∀n∈pK ts own,n.at X k){t:Ty}(ht:t∈ts){e:Expr}(h:XD c t e=true):PE X e (tC (t.v X.ki))/\∃x p,e=.Name x p:=by
 cases t with
 | b s =>
  cases e with
  | Name x p =>
   have h:(decide (x=Str.ofString s)&&btB c x&&decide (s∈Ml))=true:=h
   simp only[qQb,qQs] at h
   obtain⟨⟨rfl,h2⟩,h3⟩:=h
   obtain⟨g1,g2,g3,g4⟩:=ok.bt h2
   exact⟨pe_bltn (v:=.ty s) g1 g2 (Oh h3) rfl g4 g3,_,_,rfl⟩
  | _=>cases h
 | own d =>
  cases e with
  | Name x p =>
   have h:(decide (x=d)&&gbB c x)=true:=h
   simp only[qQb,qQs] at h
   obtain⟨rfl,h2⟩:=h
   obtain⟨g1,g2,g3⟩:=ok.gl h2
   have hm:X.mg x=some (.ref (He.ga X.K x)):=nd (nGl x) (qQw _ (List.mem_flatMap.mpr ⟨_,ht,qQc⟩))
   exact⟨pe_glob g1 hm rfl g2,_,_,rfl⟩
  | _=>cases h
def Y4(K:Ki):List Ty->TA
 | []=>tNil
 | t::ts=>tCons (tC (t.v K)) (Y4 K ts)
theorem Oc(ok:bV k W c X){ts0:List Ty}{own:List (Str × List Bool)}(nd:∀n∈pK ts0 own,n.at X k):∀{ts:List Ty}{es:List Expr},(∀t∈ts,t∈ts0)->Xc c ts es=true->PA X es (Y4 X.ki ts)
 | [],[],_,_=>pa_nil
 | [],_::_,_,h=>by cases h
 | t::ts,[],_,h=>by cases h
 | t::ts,e::es,hs,h=>by
  have h:(XD c t e&&Xc c ts es)=true:=h
  rw[qQb] at h
  obtain⟨p1,x,p,rfl⟩:=Vi ok nd (hs t qQc) h.1
  exact pa_cons p1 (Oc ok nd (λt ht=>hs t (qQd _ ht)) h.2) rfl
theorem Q5{K:Ki}{ts:List Ty}{σ:St}{H:Hp}{Q:List V->Hp->Prop}(q:Q (ts.map λt=>t.v K) H):Y4 K ts σ H Q:=by
 induction ts generalizing Q with
 | nil=>exact q
 | cons t ts ih=>exact ih (Q:=λvs H=>Q (t.v K::vs) H) q
theorem MJ(K:Ki):∀ts:List Ty,Paired ClsV (ts.map λt=>t.v K) (ts.map λt=>t.u K)
 | []=>.nil
 | t::ts=>.cons (t.cls K) (MJ K ts)
theorem isi_ans{ts:List Ty}{own:List (Str × List Bool)}(nd:∀n∈pK ts own,n.at X k)(hb:∀t∈ts,∀s,t=.b s->s∈Ml)(ho:∀p∈own,p.2.length=ts.length){g:G}{H:Hp}{m:Mem}{x:OV}{v:V}{t:Ty}{bs:List Bool}
  (rs:Rs X.ki g m H) (r:RO X.ki g H x v) (e:tyO m x=some t) (ea:DW ts own t=some bs):TyX X.K H v (t.u X.ki)/\ts.length=bs.length/\∀(i:Nat) u b,(ts.map λt=>t.u X.ki)[i]? = some u->bs[i]? = some b->PySem.W.kitOne X.K (t.u X.ki) u=some b:=by
 have look:∀(c:Str) (bs:List Bool),own.lookup c=some bs->(c,bs)∈own:=by
  intro c bs
  induction own with
  | nil=>intro h;cases h
  | cons p ps ih =>
   obtain⟨d,cs⟩:=p
   intro h
   rw[qQ3] at h
   split at h
   ·rename_i hd
    cases h
    have:c=d:=by simpa using hd
    rw[this];exact qQc
   ·have hn:∀n∈pK ts ps,n.at X k:=by
     intro n hn
     refine nd n ?_
     unfold pK at hn ⊢
     rcases List.mem_append.mp hn with hn|hn
     ·exact qQw _ hn
     ·refine qQv _ ?_
      rw[List.flatMap_cons]
      exact qQv _ hn
    have ea':True:=trivial
    exact qQd _ (by
     have:∀(l:List (Str × List Bool)),l.lookup c=some bs->(c,bs)∈l:=by
      intro l
      induction l with
      | nil=>intro h;cases h
      | cons p ps ih =>
       obtain⟨d,cs⟩:=p
       intro h
       rw[qQ3] at h
       split at h
       ·rename_i hd
        cases h
        have:c=d:=by simpa using hd
        rw[this];exact qQc
       ·exact qQd _ (ih h)
     exact this ps h)
 cases t with
 | b s =>
  cases ea
  refine⟨N5 rs r e λc z=>by (cases z),by simp,λi u b e1 e2=>?_⟩
  have hs:=Qe e
  rw[qQq] at e1 e2
  cases q:ts[i]? with
  | none=>rw[q] at e1;cases e1
  | some t =>
   rw[q] at e1 e2
   cases e1;cases e2
   have ht:=qQg q
   cases t with
   | b u=>exact kit_ty (Wt s hs u (hb _ ht u rfl))
   | own d =>
    refine nd (az (.b s) (.own d) false) (qQw _ (List.mem_flatMap.mpr ⟨_,ht,qQd _ ?_⟩))
    exact qQh.mpr ⟨s,hs,rfl⟩
 | own c =>
  have hm:=look c bs ea
  have hl:=ho _ hm
  have sub:∀n∈UG c::List.zipWith (λt b=>az (.own c) t b) ts bs,n.at X k:=λn hn=>nd n (qQv _ (List.mem_flatMap.mpr ⟨_,hm,hn⟩))
  refine⟨N5 rs r e λd z=>by (cases z;exact sub (UG c) qQc),hl.symm,λi u b e1 e2=>?_⟩
  rw[qQq] at e1
  cases q:ts[i]? with
  | none=>rw[q] at e1;cases e1
  | some t =>
   rw[q] at e1
   cases e1
   refine sub (az (.own c) t b) (qQd _ ?_)
   refine qQg (i:=i) ?_
   rw[List.getElem?_zipWith,q,e2]
def aa6(ts:List Ty)(own:List (Str × List Bool))(one:Bool)(c:Cfg)(x:Str)(a ty:Expr):Bool:=decide (x=("isinstance":Str))&&btB c x&&cR a&&(own.all λp=>p.2.length == ts.length)&&(ts.all λt=>match t with
  | .b s=>decide (s∈Ml)
  | .own _=>true)&&(if one then (match ts with
   | [t]=>XD c t ty
   | _=>false) else (match ty with
    | .Tuple es _ _=>Xc c ts es&&decide (0<ts.length/\ts.length<=64)
    | _=>false))
def abk(ts:List Ty)(own:List (Str × List Bool))(one:Bool)(c:Cfg):Expr->Option (List Expr)
 | .Call (.Name x _) [a,ty] [] _=>if aa6 ts own one c x a ty=true then some [a] else none
 | _=>none
def yQ(ts:List Ty)(own:List (Str × List Bool))(one:Bool):o9 where
 need:=pK ts own
 parts:=abk ts own one
 F:=F1 (Df ts own)
 ok:=λ{k W c X e es fs} ok nd h p=>by
  unfold abk at h
  split at h <;> try contradiction
  split at h <;> cases h
  rename_i hb
  unfold aa6 at hb
  simp only[qQb,qQs] at hb
  obtain⟨⟨⟨⟨⟨rfl,h2⟩,h3⟩,h4⟩,h5⟩,h6⟩:=hb
  obtain⟨g1,g2,g3,g4⟩:=ok.bt h2
  obtain⟨fa,e1,e3⟩:=p.f1 (f:=Df ts own)
  rw[e3]
  have ho:∀p∈own,p.2.length=ts.length:=λp hp=>by simpa using qQ0.mp h4 p hp
  have hs:∀t∈ts,∀s,t=.b s->s∈Ml:=λt ht s z=>by
   have:=qQ0.mp h5 t ht
   subst z
   simpa using this
  cases one with
  | true =>
   simp only[if_true] at h6
   split at h6 <;> try contradiction
   rename_i t
   obtain⟨p1,x,q,rfl⟩:=Vi ok nd qQc h6
   refine (pe_callB call_isi g1 g2 boot_isinstance (pa_cons e1 (pa_cons p1 pa_nil rfl) (dH h3)) g4 g3 (dH h3) rfl).weaken fun σ H Q q=>?_
   obtain⟨g,s,m,rs,rl,pp⟩:=q
   refine⟨g,s,m,rs,rl,(dG.bind pp).imp λv H1 ⟨x,g1,m1,rs1,st1,r1,p1⟩=>?_⟩
   unfold Df at p1
   split at p1
   ·rename_i ty ety
    split at p1
    ·rename_i bs ebs
     obtain⟨q1,q2,q3⟩:=isi_ans nd hs ho rs1 r1 ety ebs
     match bs,q2 with
     | [b],_ =>
      refine⟨v,t.v X.ki,ty.u X.ki,t.u X.ki,b,rfl,t.cls _,q1,q3 0 _ b rfl rfl,?_⟩
      have:=bJ (v:=.bl b) rs1 p1 (by simp[RV])
      exact this
    ·exact p1.elim
   ·exact p1.elim
  | false =>
   simp only[Bool.false_eq_true,if_false] at h6
   split at h6 <;> try contradiction
   simp only[qQb,qQs] at h6
   refine (pe_callB call_isiT g1 g2 boot_isinstance (pa_cons e1 (pa_cons (pe_tup (Oc ok nd (λ_ h=>h) h6.1)) pa_nil rfl) (dH h3)) g4 g3 (dH h3) rfl).weaken fun σ H Q q=>?_
   obtain⟨g,s,m,rs,rl,pp⟩:=q
   refine⟨g,s,m,rs,rl,(dG.bind pp).imp λv H1 ⟨x,g1,m1,rs1,st1,r1,p1⟩=>Q5 ⟨by rw[List.length_map,sizeLine_eq];omega,λtp htp=>?_⟩⟩
   obtain⟨rs2,st2⟩:=rs1.grow (o:=.tup (ts.map λt=>t.v X.ki)) htp
   have r2:=RO.st r1 st2
   unfold Df at p1
   split at p1
   ·rename_i ty ety
    split at p1
    ·rename_i bs ebs
     obtain⟨q1,q2,q3⟩:=isi_ans nd hs ho rs2 r2 ety ebs
     exact⟨v,tp,ts.map λt=>t.v X.ki,ty.u X.ki,ts.map λt=>t.u X.ki,bs.any id,rfl,upd_same,MJ _ ts,q1,Mz (by simpa using q2) q3,p1 g1 _ _ rs2 st2 rfl⟩
    ·exact p1.elim
   ·exact p1.elim
end
def Nu:Expr->Bool
 | .Call (.Name _ _) [] [] _=>false
 | _=>true
theorem aaN{o:Expr}{a:Str}{env:Env}{w:Sem Value}(h:Nu o=true):attributeBase o a env w=w:=by
 cases o <;> try rfl
 rename_i f as ks p
 cases f <;> try rfl
 cases as <;> try rfl
 cases ks <;> first|rfl|cases h
section
variable{X:Cx}
end
def F1I(f:OV->Mem->R Wk):List OV->Mem->R Wk
 | [x],m=>f x m
 | _,_=>.stuck
def Dq(x:OV)(m:Mem):R Wk:=match x with
 | .v (.str z)=>.ok ⟨signs z,[]⟩ m
 | x=>(match Rz m x with
  | some (_,w)=>.ok w m
  | none=>.stuck)
theorem QK{X:Cx}{t e:Expr}{W:WX}{fa:Sl->Mem->R OV}(he:PE X e (tE X.ki W fa)):PI X t e (tI X.ki W λs m=>(fa s m).bind Dq):=by
 refine (((pi_list he).or (pi_tup he)).or (pi_str he)).weaken fun σ H R h=>?_
 obtain⟨g,s,m,rs,rl,p⟩:=h
 have p:dG X.ki (WE W σ) (λg _ w J=>WkM X.ki J w g) g H ((fa s m).bind Dq) R:=p
 cases e:fa s m with
 | stuck=>rw[e] at p;exact p.elim
 | exc c ks xs m'=>rw[e] at p;exact .inl (.inl ⟨g,s,m,rs,rl,by rw[e];exact p⟩)
 | ok x m1 =>
  rw[e] at p
  have p:dG X.ki (WE W σ) (λg _ w J=>WkM X.ki J w g) g H (Dq x m1) R:=p
  by_cases hx:∃z,x=.v (.str z)
  ·obtain⟨z,rfl⟩:=hx
   refine .inr ⟨g,s,m,rs,rl,?_⟩
   rw[e]
   intro g1 v H1 rs1 st1 r1
   exact⟨z,r1,p g1 _ H1 rs1 st1 U8⟩
  ·have e2:Dq x m1=match Rz m1 x with
    | some (_,w)=>.ok w m1
    | none=>.stuck:=by
    unfold Dq
    split
    ·exact absurd ⟨_,rfl⟩ hx
    ·rfl
   rw[e2] at p
   cases e3:Rz m1 x with
   | none=>rw[e3] at p;exact p.elim
   | some q =>
    obtain⟨k,w⟩:=q
    rw[e3] at p
    cases k with
    | l =>
     refine .inl (.inl ⟨g,s,m,rs,rl,?_⟩)
     rw[e]
     intro g1 v H1 rs1 st1 r1
     obtain⟨a,rfl,ow,h2⟩:=Av rs1 r1 e3
     obtain⟨ys,hy,_⟩:=h2 g1 m1 H1 rs1 (Fle.refl _) ow
     exact⟨a,rfl,⟨ys,hy⟩,p g1 _ H1 rs1 st1 (M8 (k:=.l) (a:=a) rfl h2)⟩
    | t =>
     refine .inl (.inr ⟨g,s,m,rs,rl,?_⟩)
     rw[e]
     intro g1 v H1 rs1 st1 r1
     obtain⟨a,rfl,ow,h2⟩:=Av rs1 r1 e3
     obtain⟨ys,hy,_⟩:=h2 g1 m1 H1 rs1 (Fle.refl _) ow
     exact⟨a,rfl,⟨ys,hy⟩,p g1 _ H1 rs1 st1 (M8 (k:=.t) (a:=a) rfl h2)⟩
def ab0:Ij where
 parts:=λ_ _ e=>some [e]
 F:=F1I Dq
 ok:=λ{k W c X t e es fs} ok nd h p=>by
  cases h
  obtain⟨fa,e1,e3⟩:=p.p1
  rw[e3 (F1I Dq)]
  exact QK e1
def WM(j:OV)(m:Mem):R Wk:=match Jz j with
 | some j=>if -(2 ^ 62)<=j/\j<2 ^ 62 then .ok ⟨oW 0 j.toNat,[]⟩ m else .stuck
 | none=>.stuck
def nH:Ij where
 parts:=λc _ e=>match e with
  | .Call (.Name x _) [a] [] _=>if (decide (x=("range":Str))&&btB c x&&cR a)=true then some [a] else none
  | _=>none
 F:=F1I WM
 ok:=λ{k W c X t e es fs} ok nd h p=>by
  split at h <;> try contradiction
  split at h <;> cases h
  rename_i hb
  simp only[qQb,qQs] at hb
  obtain⟨⟨rfl,h2⟩,h3⟩:=hb
  obtain⟨g1,g2,g3,g4⟩:=ok.bt h2
  obtain⟨fa,e1,e3⟩:=p.p1
  rw[e3 (F1I WM)]
  refine (pi_range1 g1 g2 (pa_cons e1 pa_nil (dH h3)) (dH h3)).weaken fun σ H Q q=>?_
  obtain⟨g,s,m,rs,rl,pp⟩:=q
  refine⟨g,s,m,rs,rl,(dG.bind pp).imp λv H1 ⟨x,g1,m1,rs1,st1,r1,p1⟩=>?_⟩
  unfold F1I WM at p1
  dsimp only at p1
  split at p1
  ·rename_i j ej
   split at p1
   ·rename_i hj
    exact⟨j,by rw[vR r1 ej],hj.1,hj.2,p1 g1 _ H1 rs1 (Stp.refl _ _) Kh⟩
   ·exact p1.elim
  ·exact p1.elim
def F2I(f:OV->OV->Mem->R Wk):List OV->Mem->R Wk
 | [x,y],m=>f x y m
 | _,_=>.stuck
def JD(x y:OV)(m:Mem):R Wk:=match Rz m x,Rz m y with
 | some (_,w),some (_,z)=>.ok ⟨yd w.items z.items,w.watch++z.watch⟩ m
 | _,_=>.stuck
def isTup:Expr->Bool
 | .Tuple ..=>true
 | _=>false
def iZip:Ij where
 parts:=λc t e=>match e with
  | .Call (.Name x _) [a,b] [] _=>if (isTup t&&decide (x=("zip":Str))&&btB c x&&cR a&&cR b)=true then some [a,b] else none
  | _=>none
 F:=F2I JD
 ok:=λ{k W c X t e es fs} ok nd h p=>by
  split at h <;> try contradiction
  split at h <;> cases h
  rename_i hb
  simp only[qQb,qQs] at hb
  obtain⟨⟨⟨⟨h0,rfl⟩,h2⟩,h3⟩,h4⟩:=hb
  obtain⟨g1,g2,g3,g4⟩:=ok.bt h2
  obtain⟨fa,fb,e1,e2,e3⟩:=p.p2
  rw[e3 (F2I JD)]
  cases t <;> try (cases h0;done)
  refine (Qo g1 g2 (pa_cons e1 (pa_cons e2 pa_nil (dH h4)) (dH h3)) h3 h4).weaken fun σ H Q q=>?_
  obtain⟨g,s,m,rs,rl,pp⟩:=q
  refine⟨g,s,m,rs,rl,(dG.bind pp).imp λv H1 ⟨x,g1,m1,rs1,st1,r1,p1⟩=>⟨g1,s,m1,rs1,rl.st st1,(dG.bind p1).imp λw H2 ⟨y,g2,m2,rs2,st2,r2,p2⟩=>?_⟩⟩
  unfold F2I JD at p2
  dsimp only at p2
  split at p2
  ·rename_i k1 w1 k2 w2 ei ej
   obtain⟨a,rfl,o1,s1⟩:=Av rs2 (RO.st r1 st2) ei
   obtain⟨b,rfl,o2,s2⟩:=Av rs2 r2 ej
   obtain⟨xs,hx,_⟩:=s1 g2 m2 H2 rs2 (Fle.refl _) o1
   obtain⟨ys,hy,_⟩:=s2 g2 m2 H2 rs2 (Fle.refl _) o2
   exact⟨k1,k2,a,b,xs,ys,rfl,hx,hy,p2 g2 _ H2 rs2 (Stp.refl _ _) (VD s1 s2)⟩
  ·exact p2.elim
section
variable{α:Type}{X:Cx}{W:WX}
theorem lB{β:Type}(r:R α)(k:α->Mem->R β)(s:Sl)(l:β->Mem->SR):(r.bind k).toS s l=r.toS s λx m=>(k x m).toS s l:=by cases r <;> rfl
theorem Parts.s1{a:Expr}{fs:Sl->Mem->R (List OV)}(p:Parts X W [a] fs):∃fa,PE X a (tE X.ki W fa)/\∀(F:List OV->Sl->Mem->SR) s m,((fs s m).toS s λxs m=>F xs s m)=(fa s m).toS s λx m=>F [x] s m:=by
 obtain⟨fa,h1,h2⟩:=p.p1
 refine⟨fa,h1,λF s m=>?_⟩
 have e:=congrFun (congrFun (h2 (β:=List OV) λxs m=>.ok xs m) s) m
 have e1:(fs s m).bind (λxs m=>R.ok xs m)=fs s m:=by cases fs s m <;> rfl
 have e:(fs s m)=(fa s m).bind λx m=>.ok [x] m:=e1.symm.trans e
 rw[e,lB]
 rfl
theorem Parts.s2{a b:Expr}{fs:Sl->Mem->R (List OV)}(p:Parts X W [a,b] fs):∃fa fb,PE X a (tE X.ki W fa)/\PE X b (tE X.ki W fb)/\∀(F:List OV->Sl->Mem->SR) s m,((fs s m).toS s λxs m=>F xs s m)=(fa s m).toS s λx m=>(fb s m).toS s λy m=>F [x,y] s m:=by
 obtain⟨fa,fb,h1,h2,h3⟩:=p.p2
 refine⟨fa,fb,h1,h2,λF s m=>?_⟩
 have e:=congrFun (congrFun (h3 (β:=List OV) λxs m=>.ok xs m) s) m
 have e1:(fs s m).bind (λxs m=>R.ok xs m)=fs s m:=by cases fs s m <;> rfl
 have e:(fs s m)=(fa s m).bind λx m=>(fb s m).bind λy m=>.ok [x,y] m:=e1.symm.trans e
 rw[e,lB]
 congr 1
 funext x m
 rw[lB]
 rfl
theorem Parts.s3{a b c:Expr}{fs:Sl->Mem->R (List OV)}(p:Parts X W [a,b,c] fs):∃fa fb fc,PE X a (tE X.ki W fa)/\PE X b (tE X.ki W fb)/\PE X c (tE X.ki W fc)/\∀(F:List OV->Sl->Mem->SR) s m,((fs s m).toS s λxs m=>F xs s m)=(fa s m).toS s λx m=>(fb s m).toS s λy m=>(fc s m).toS s λz m=>F [x,y,z] s m:=by
 obtain⟨fa,fb,fc,h1,h2,h3,h4⟩:=p.p3
 refine⟨fa,fb,fc,h1,h2,h3,λF s m=>?_⟩
 have e:=congrFun (congrFun (h4 (β:=List OV) λxs m=>.ok xs m) s) m
 have e1:(fs s m).bind (λxs m=>R.ok xs m)=fs s m:=by cases fs s m <;> rfl
 have e:(fs s m)=(fa s m).bind λx m=>(fb s m).bind λy m=>(fc s m).bind λz m=>.ok [x,y,z] m:=e1.symm.trans e
 rw[e,lB]
 congr 1
 funext x m
 rw[lB]
 congr 1
 funext y m
 rw[lB]
 rfl
end
theorem Mq{K:Ki}{W:WX}{g0:G}{H0:Hp}{b:Sl->Mem->Bool}{f:Sl->Mem->SR}{D:Ends}{σ:St}{H:Hp}(h:tS K W g0 H0 (λs m=>if b s m=true then f s m else .stuck) D σ H):∃g s m,jg K g0 H0 g s m σ H/\b s m=true/\bY K W g0 H0 g (f s m) D:=by
 obtain⟨g,s,m,R,p⟩:=h
 have p:bY K W g0 H0 g (if b s m=true then f s m else .stuck) D:=p
 by_cases z:b s m=true
 ·rw[if_pos z] at p;exact⟨g,s,m,R,z,p⟩
 ·rw[if_neg z] at p;exact p.elim
theorem Ww{a b:Expr}{p:Pos}{env:Env}(h:rY b=true)(v:Value):assign (.Subscript a b p) env v=(do
   let ov <- holding [v] (eval a env)
   let iv <- holding [v,ov] (eval b env)
   standAt p
   holding [v,ov,iv] (setItem ov iv v)
   release [v,ov,iv] []):=by
 cases b <;> first|rfl|cases h
def Bb:List OV->Sl->Mem->SR
 | [.v x,.v (.ref n),.v (.int k)],s,m=>(match rB m n with
  | some xs=>(match ixN xs.length k with
   | some j=>.nx s (m.set n (some (.lst (xs.set j x))))
   | none=>.stuck)
  | none=>.stuck)
 | _,_,_=>.stuck
theorem Dc{x y z:OV}{s:Sl}{m:Mem}(h:Bb [x,y,z] s m≠.stuck):∃x' n k,x=.v x'/\y=.v (.ref n)/\z=.v (.int k):=by
 unfold Bb at h
 split at h
 ·rename_i hh
  cases hh
  exact⟨_,_,_,rfl,rfl,rfl⟩
 ·exact absurd rfl h
theorem bY.ns{K:Ki}{W:WX}{g0 g:G}{H0:Hp}{r:SR}{D:Ends}(h:bY K W g0 H0 g r D):r≠.stuck:=λz=>by rw[z] at h;exact h
def qj:Et where
 parts:=λc st=>match st with
  | .Assign [.Subscript a b _] v _=>if rY b=true then some [v,a,b] else none
  | _=>none
 F:=Bb
 ok:=λ{k W c X e es fs} ok nd ht hk h p g0 H0=>by
  split at h <;> try contradiction
  split at h <;> cases h
  rename_i hb
  obtain⟨fe,fo,fi,e1,e2,e3,e4⟩:=p.s3
  refine (ps_asg e1 (pg_sub e2 e3 set_list (Ww hb)) Yy aan rfl).weaken λD σ H q=>?_
  obtain⟨g,s,m,R,z,pp⟩:=Mq q
  rw[e4] at pp
  refine⟨g,s,m,R.rs,R.rl,(bY.bind R pp).imp λv H1 ⟨x,g1,m1,rs1,st1,r1,p1⟩=>⟨g1,s,m1,rs1,R.rl.st st1,(bY.bind (R.step rs1 st1) p1).imp λw H2 ⟨y,g2,m2,rs2,st2,r2,p2⟩ =>
   ⟨g2,s,m2,rs2,(R.rl.st st1).st st2,(bY.bind ((R.step rs1 st1).step rs2 st2) p2).imp λu H3 ⟨z,g3,m3,rs3,st3,r3,p3⟩=>?_⟩⟩⟩
  have rx:=RO.st (RO.st r1 st2) st3
  have ry:=RO.st r2 st3
  obtain⟨x',n,k,rfl,rfl,rfl⟩:=Dc p3.ns
  obtain⟨a,rfl,hn⟩:=ry
  cases r3
  unfold Bb at p3
  dsimp only at p3
  split at p3
  ·rename_i xs e5
   obtain⟨ys,q1,q2,q3⟩:=Hj rs3 hn e5
   split at p3
   ·rename_i j e6
    obtain⟨rs4,st4⟩:=rs3.TF hn q3 (q2.set rx j)
    exact⟨a,ys,_,j,rfl,rfl,q1,by rw[<- q2.length];exact e6,p3 g3 σ _ ((((R.step rs1 st1).step rs2 st2).step rs3 st3).step rs4 st4) (Fle.refl _)⟩
   ·exact p3.elim
  ·exact p3.elim
def Jm:Expr->Bool
 | .Call (.Name _ _) [] [] _=>false
 | _=>true
theorem attrS{o:Expr}{a:Str}{env:Env}{w:Sem Value}(h:Jm o=true):attributeBase o a env w=w:=by
 cases o <;> try rfl
 rename_i f as ks p
 cases f <;> try rfl
 cases as <;> try rfl
 cases ks <;> first|rfl|cases h
theorem QH{o:Expr}{es:List Expr}{m:Str}{apos pos:Pos}{env:Env}(hb:Jm o=true)(hl:(apos.endLine == pos.line)=true)(hs:es.all cR=true)(hn:es.length<30):
  eval (.Call (.Attribute o m apos) es [] pos) env=(do
   let ov <- eval o env
   standAt apos.atName
   let (f,first) <- holding [ov] (getMethod ov m (do return (<- importBound o env).getD true))
   callWith pos f first (backTo pos (starEach es env)) (backToKw pos (keywordEach [] env))):=by
 have e0:eval (.Call (.Attribute o m apos) es [] pos) env=(do
   let ov <- attributeBase o m env (eval o env)
   standAt apos.atName
   methodCall o m apos pos env ov (es.length+([]:List Keyword).length) (backTo pos (starEach es env)) (backToKw pos (keywordEach [] env))):=rfl
 rw[e0,attrS hb]
 have ha:(backTo pos (starEach es env)).all (λp=>!p.1)=true:=by
  have:=noStar (env:=env) (pos:=pos) hs
  rw[qQ0]
  intro x hx
  rw[List.any_eq_false] at this
  have:=this x hx
  simpa using this
 have hf:methodCallForm (es.length+([]:List Keyword).length) (backTo pos (starEach es env)) (backToKw pos (keywordEach [] env))=true:=by
  unfold methodCallForm
  rw[ha]
  show (true&&true&&decide (es.length+0+0<30))=true
  simpa using hn
 congr 1
 funext ov
 congr 1
 funext _
 unfold methodCall
 rw[hf]
 unfold calleeOf methodCallPos
 rw[hl]
 rfl
def nNo(c f:Str):dI:=λ_ _ K _ _ _=>NoAttr K (He.ga K c) f
def dX:List Str->List MV->Str->Option MV
 | k::ks,x::xs,f=>if k=f then some x else dX ks xs f
 | _,_,_=>none
theorem vO{K:Ki}{g:G}{f:Str}{x:MV}:∀{xs:List MV}{fs:List (Str × V)},RVs K g xs (fs.map (·.2))->dX (fs.map (·.1)) xs f=some x->∃v,fs.lookup f=some v/\RV K g x v
 | [],fs,_,e=>by cases fs <;> cases e
 | y::xs,[],r,e=>by cases e
 | y::xs,(k,u)::fs,⟨v,t,e1,h,r⟩,e=>by
  cases e1
  have e:(if k=f then some y else dX (fs.map (·.1)) xs f)=some x:=e
  rw[qQ3]
  by_cases hk:k=f
  ·rw[if_pos hk] at e
   cases e
   have:(f == k)=true:=by simp[hk]
   rw[this]
   exact⟨u,rfl,h⟩
  ·rw[if_neg hk] at e
   have:(f == k)=false:=by simpa using Ne.symm hk
   rw[this]
   exact vO r e
theorem Uz{f:Str}:∀{fs:List (Str × V)},f∉fs.map (·.1)->fs.lookup f=none
 | [],_=>rfl
 | (k,u)::fs,h=>by
  rw[qQ3]
  have h1:f≠k:=λz=>h (by rw[z];exact qQc)
  have h2:f∉fs.map (·.1):=λz=>h (qQd _ z)
  have:(f == k)=false:=by simpa using h1
  rw[this]
  exact Uz h2
def Jv(cs:List Str)(f:Str)(x:OV)(m:Mem):R OV:=match RP m x with
 | some (c,ks,xs)=>if c∈cs then (match dX ks xs f with
  | some y=>.ok (.v y) m
  | none=>.stuck) else .stuck
 | none=>.stuck
def acp(cs:List Str)(f:Str):o9 where
 need:=cs.flatMap λc=>[UG c,nNo c f]
 parts:=λ_ e=>match e with
  | .Attribute o a _=>if (decide (a=f)&&Jm o)=true then some [o] else none
  | _=>none
 F:=F1 (Jv cs f)
 ok:=λ{k W c X e es fs} ok nd h p=>by
  split at h <;> try contradiction
  split at h <;> cases h
  rename_i hb
  simp only[qQb,qQs] at hb
  obtain⟨rfl,h2⟩:=hb
  obtain⟨fa,e1,e3⟩:=p.f1 (f:=Jv cs _)
  rw[e3]
  refine (pe_fld e1 (attrS h2)).weaken fun σ H Q q=>?_
  obtain⟨g,s,m,rs,rl,pp⟩:=q
  refine⟨g,s,m,rs,rl,(dG.bind pp).imp λv H1 ⟨x,g1,m1,rs1,st1,r1,p1⟩=>?_⟩
  unfold Jv at p1
  split at p1
  ·rename_i c ks xs ei
   obtain⟨a,dx,fs',rfl,h3,h4,rfl,h6⟩:=wy rs1 r1 ei
   split at p1
   ·rename_i hc
    have n1:(UG c).at X k:=nd _ (List.mem_flatMap.mpr ⟨c,hc,qQc⟩)
    have n2:(nNo c _).at X k:=nd _ (List.mem_flatMap.mpr ⟨c,hc,qQd _ qQc⟩)
    split at p1
    ·rename_i y ey
     obtain⟨u,e4,e5⟩:=vO h6 ey
     exact⟨a,_,dx,fs',u,rfl,h3,n1.cl,n2,e4,bJ rs1 p1 e5⟩
    ·exact p1.elim
   ·exact p1.elim
  ·exact p1.elim
def Ws(c m:Str)(F:Fn):dI:=λP w K mg base k=>∃f fd,Cls K (He.ga K c)/\Meth K (He.ga K c) m f/\FnAt P w K mg base k f fd F
def NZ(cs:List (Str × Fn))(m:Str)(mem:Mem)(x:OV):Option Fn:=match RP mem x with
 | some (c,ks,_)=>if m∈ks then none else cs.lookup c
 | none=>none
theorem lookup_mem{α:Type}{c:Str}{b:α}:∀{l:List (Str × α)},l.lookup c=some b->(c,b)∈l
 | [],h=>by cases h
 | (d,e)::l,h=>by
  rw[qQ3] at h
  split at h
  ·rename_i hd
   cases h
   have:c=d:=by simpa using hd
   rw[this];exact qQc
  ·exact qQd _ (lookup_mem h)
def T7(ret:FR->R OV)(cs:List (Str × Fn))(m:Str):OV->Mem->Option (List OV->Mem->R OV):=λx mem=>match x with
 | .v y=>(match NZ cs m mem (.v y) with
  | some F=>some λas mem=>(match vals as with
   | some xs=>ret (F.M (y::xs) mem)
   | none=>.stuck)
  | none=>none)
 | .b _=>none
def V1(cs:List (Str × Fn))(m:Str)(o:Expr)(n:Str)(ap p:Pos)(es:List Expr):Bool:=decide (n=m)&&Jm o&&(ap.endLine == p.line)&&es.all cR&&decide (es.length<30)&&cs.all λq=>q.2.ps.length == es.length+1
def methP(cs:List (Str × Fn))(m:Str)(_:Cfg):Expr->Option (Expr × List Expr)
 | .Call (.Attribute o n ap) es [] p=>if V1 cs m o n ap p es=true then some (o,es) else none
 | _=>none
def Ut(ret:FR->R OV)(hret:∀{K:Ki}{E:XK}{g:G}{H:Hp}{r:FR}{Q:VK},eZ K E g H (ret r) Q->sX K E g H r Q)(m:Str)(cs:List (Str × Fn)):Ib where
 need:=cs.map λq=>Ws q.1 m q.2
 parts:=methP cs m
 F:=T7 ret cs m
 ok:=λ{k W c X e o es fo fs} ok nd h ho p=>by
  unfold methP at h
  split at h <;> try contradiction
  split at h <;> cases h
  rename_i hb
  unfold V1 at hb
  simp only[qQb,qQs] at hb
  obtain⟨⟨⟨⟨⟨rfl,h2⟩,h3⟩,h4⟩,h5⟩,h6⟩:=hb
  refine⟨λpins s σ H Q I q=>?_⟩
  obtain⟨g,sl,mem,rs,rl,pp⟩:=q
  refine PySem.W.methodCall_KW (thn (ho.run pins s σ H _ I ⟨g,sl,mem,rs,rl,dG.bind pp⟩) λu s1 ⟨v,H1,I1,rx,x,g1,m1,rs1,st1,r1,p1⟩=>?_) (QH h2 h3 h4 h5)
  split at p1
  case h_2=>exact p1.elim
  rename_i f ef
  unfold T7 at ef
  split at ef
  case h_2=>cases ef
  rename_i y
  split at ef
  case h_2=>cases ef
  rename_i F eF
  cases ef
  unfold NZ at eF
  split at eF
  case h_2=>cases eF
  rename_i cn ks xs ei
  split at eF
  case isTrue=>cases eF
  rename_i hk
  obtain⟨a,dx,fs',rfl,h7,h8,rfl,h10⟩:=wy rs1 r1 ei
  obtain⟨fad,fd,n1,n2,fa⟩:=nd (Ws cn _ F) (qQh.mpr ⟨(cn,F),lookup_mem eF,rfl⟩)
  have hl:F.ps.length=es.length+1:=by simpa using qQ0.mp h6 (cn,F) (lookup_mem eF)
  obtain rfl:u=Value.ref a:=rx
  refine getmeth_ok I1 h7 n1 n2 (Uz hk) ?_
  -- the arguments
  have tA1:tA X.ki W fs σ H1 λvs H2=>spM X.ki F.ps.length F.M (.ref a::vs) H2 Q (WE W σ):=by
   refine⟨g1,sl,m1,rs1,rl.st st1,?_⟩
   cases e:fs sl m1 with
   | stuck=>rw[e] at p1;exact p1
   | exc c ks xs m'=>rw[e] at p1;exact p1
   | ok zs m2 =>
    rw[e] at p1
    intro g2 vs H2 rs2 st2 r2
    have p2:=dG.shift st2 p1
    have p2:eZ X.ki (WE W σ) g2 H2 (match vals zs with
     | some xs=>ret (F.M (y::xs) m2)
     | none=>.stuck) Q:=p2
    split at p2
    ·rename_i ys ev
     have r3:=rD r2 ev
     have hz:=p.len _ _ _ _ e
     exact⟨g2,m2,y::ys,rs2,⟨_,_,rfl,RO.st (x:=.v y) r1 st2,r3⟩,by rw[qQn,hl,r3.length,<- Paired.length r2,hz],hret p2⟩
    ·exact p2.elim
  cases es with
  | nil =>
   have e:=p.p0
   rw[e] at tA1
   obtain⟨g3,s3,m3,rs3,rl3,p3⟩:=tA1
   have hsp:=p3 g3 [] H1 rs3 (Stp.refl _ _) .nil
   exact PySem.W.callWith_K0 (first:=[.ref a]) I1.kIn n2.kp (Jd (us:=[.ref a]) (vs:=[.ref a]) fa (ok.room fa.pos) ok.tk I1 (.cons rfl .nil) hsp)
  | cons b bs =>
   rw[List.all_cons,qQb] at h4
   refine PySem.W.callWith_K (first:=[.ref a]) (h₀:=X.base) I.ok.mod.kin n2.kp (thn ((p.pa (by rw[List.all_cons,qQb];exact h4)).run _ pins s1 σ H1 _ I1 tA1) λus s2 ⟨vs,H2,I2,r,q2⟩=>⟨I2.kIn,?_⟩) (dH h4.1) (noStar h4.2)
   exact Jd (us:=.ref a::us) (vs:=.ref a::vs) fa (ok.room fa.pos) ok.tk I2 (.cons rfl r) q2
def wj(m:Str)(cs:List (Str × Fn)):Ib:=Ut Ea (λh=>Az h) m cs
mutual
def noRef(k:Nat):MV->Bool
 | .ref n=>decide (n<k)
 | .tup xs=>cQ k xs
 | .lst xs=>cQ k xs
 | .kl xs=>cQ k xs
 | .ins _ _ xs=>cQ k xs
 | .exn _ _ xs=>cQ k xs
 | .dic ks xs=>cQ k ks&&cQ k xs
 | .dit ks xs=>cQ k ks&&cQ k xs
 | _=>true
def cQ(k:Nat):List MV->Bool
 | []=>true
 | x::xs=>noRef k x&&cQ k xs
end
def Nk(k:Nat):MO->Bool
 | .lst xs=>cQ k xs
 | .ins _ _ xs=>cQ k xs
 | .dic ks xs=>cQ k ks&&cQ k xs
 | .dit ks xs=>cQ k ks&&cQ k xs
section
variable{K:Ki}{g g':G}{k:Nat}
mutual
theorem RV.cut(hF:∀a o,g.F a=some o->g'.F a=some o)(hr:∀n a,n<k->g.r n=some a->g'.r n=some a):∀(x:MV) {v:V},noRef k x=true->RV K g x v->RV K g' x v
 | .non,_,_,h=>h
 | .bl _,_,_,h=>h
 | .int _,_,_,h=>h
 | .str _,_,_,h=>h
 | .tup xs,_,e,⟨a,ys,e1,q,r⟩=>⟨a,ys,e1,SqT.ie hF q,RVs.cut hF hr xs (by unfold noRef at e;exact e) r⟩
 | .lst xs,_,e,⟨a,ys,e1,q,r⟩=>⟨a,ys,e1,hF _ _ q,RVs.cut hF hr xs (by unfold noRef at e;exact e) r⟩
 | .kl xs,_,e,⟨a,ys,e1,q,r⟩=>⟨a,ys,e1,SqL.ie hF q,RVs.cut hF hr xs (by unfold noRef at e;exact e) r⟩
 | .ref n,_,e,⟨a,e1,q⟩=>⟨a,e1,hr n a (by unfold noRef at e;exact qQ4 e) q⟩
 | .ins c ks xs,_,e,⟨a,dx,fs,e1,q,q2,q3,r⟩=>⟨a,dx,fs,e1,hF _ _ q,hF _ _ q2,q3,RVs.cut hF hr xs (by unfold noRef at e;exact e) r⟩
 | .exn c ks xs,_,e,⟨a,dx,φ,fs,e1,q,q1,q2,q3,r⟩=>⟨a,dx,φ,fs,e1,hF _ _ q,q1,hF _ _ q2,q3,RVs.cut hF hr xs (by unfold noRef at e;exact e) r⟩
 | .dic ks xs,_,e,⟨a,u,kvs,e1,q,q3,r,r2⟩=>by
  unfold noRef at e
  rw[qQb] at e
  exact⟨a,u,kvs,e1,hF _ _ q,q3,RVs.cut hF hr ks e.1 r,RVs.cut hF hr xs e.2 r2⟩
 | .kd _ _,_,_,h=>h
 | .cls _,_,_,h=>h
 | .dit ks xs,_,e,⟨a,u,kvs,e1,q,q3,r,r2⟩=>by
  unfold noRef at e
  rw[qQb] at e
  exact⟨a,u,kvs,e1,hF _ _ q,q3,RVs.cut hF hr ks e.1 r,RVs.cut hF hr xs e.2 r2⟩
theorem RVs.cut(hF:∀a o,g.F a=some o->g'.F a=some o)(hr:∀n a,n<k->g.r n=some a->g'.r n=some a):∀(xs:List MV) {vs:List V},cQ k xs=true->RVs K g xs vs->RVs K g' xs vs
 | [],_,_,h=>h
 | x::xs,_,e,⟨v,r,e1,h,t⟩=>by
  unfold cQ at e
  rw[qQb] at e
  exact⟨v,r,e1,RV.cut hF hr x e.1 h,RVs.cut hF hr xs e.2 t⟩
end
mutual
theorem RV.nr(hr:∀n a,g.r n=some a->n<k):∀(x:MV) {v:V},RV K g x v->noRef k x=true
 | .non,_,_=>rfl
 | .bl _,_,_=>rfl
 | .int _,_,_=>rfl
 | .str _,_,_=>rfl
 | .tup xs,_,⟨a,ys,e1,q,r⟩=>by unfold noRef;exact RVs.nr hr xs r
 | .lst xs,_,⟨a,ys,e1,q,r⟩=>by unfold noRef;exact RVs.nr hr xs r
 | .kl xs,_,⟨a,ys,e1,q,r⟩=>by unfold noRef;exact RVs.nr hr xs r
 | .ref n,_,⟨a,e1,q⟩=>by unfold noRef;exact decide_eq_true (hr n a q)
 | .ins c ks xs,_,⟨a,dx,fs,e1,q,q2,q3,r⟩=>by unfold noRef;exact RVs.nr hr xs r
 | .exn c ks xs,_,⟨a,dx,φ,fs,e1,q,q1,q2,q3,r⟩=>by unfold noRef;exact RVs.nr hr xs r
 | .dic ks xs,_,⟨a,u,kvs,e1,q,q3,r,r2⟩=>by unfold noRef;rw[RVs.nr hr ks r,RVs.nr hr xs r2];rfl
 | .kd _ _,_,_=>rfl
 | .cls _,_,_=>rfl
 | .dit ks xs,_,⟨a,u,kvs,e1,q,q3,r,r2⟩=>by unfold noRef;rw[RVs.nr hr ks r,RVs.nr hr xs r2];rfl
theorem RVs.nr(hr:∀n a,g.r n=some a->n<k):∀(xs:List MV) {vs:List V},RVs K g xs vs->cQ k xs=true
 | [],_,_=>rfl
 | x::xs,_,⟨v,r,e1,h,t⟩=>by unfold cQ;rw[RV.nr hr x h,RVs.nr hr xs t];rfl
end
theorem aal{H:Hp}{o:MO}{a:Addr}(hr:∀n a,g.r n=some a->n<k)(h:gK K g o H a):Nk k o=true:=by
 cases o with
 | lst xs=>obtain⟨ys,q,r⟩:=h;exact RVs.nr hr xs r
 | ins c ks xs=>obtain⟨dx,fs,q,q2,q3,r⟩:=h;exact RVs.nr hr xs r
 | dic ks xs=>obtain⟨u,kvs,q,q3,r,r2⟩:=h;show (cQ k ks&&cQ k xs)=true;rw[RVs.nr hr ks r,RVs.nr hr xs r2];rfl
 | dit ks xs=>obtain⟨u,kvs,q,q3,r,r2⟩:=h;show (cQ k ks&&cQ k xs)=true;rw[RVs.nr hr ks r,RVs.nr hr xs r2];rfl
theorem Uk{H:Hp}{o:MO}{a:Addr}(hF:∀a o,g.F a=some o->g'.F a=some o)(hr:∀n a,n<k->g.r n=some a->g'.r n=some a)(e:Nk k o=true)(h:gK K g o H a):gK K g' o H a:=by
 cases o with
 | lst xs=>obtain⟨ys,q,r⟩:=h;exact⟨ys,q,RVs.cut hF hr xs e r⟩
 | ins c ks xs=>obtain⟨dx,fs,q,q2,q3,r⟩:=h;exact⟨dx,fs,q,hF _ _ q2,q3,RVs.cut hF hr xs e r⟩
 | dic ks xs =>
  obtain⟨u,kvs,q,q3,r,r2⟩:=h
  have e:(cQ k ks&&cQ k xs)=true:=e
  rw[qQb] at e
  exact⟨u,kvs,q,q3,RVs.cut hF hr ks e.1 r,RVs.cut hF hr xs e.2 r2⟩
 | dit ks xs =>
  obtain⟨u,kvs,q,q3,r,r2⟩:=h
  have e:(cQ k ks&&cQ k xs)=true:=e
  rw[qQb] at e
  exact⟨u,kvs,q,q3,RVs.cut hF hr ks e.1 r,RVs.cut hF hr xs e.2 r2⟩
end
def G.cut(g:G)(k:Nat):G:={ g with r:=λn=>if n<k then g.r n else none }
section
variable{K:Ki}{g g2 g':G}{H H2 H':Hp}{m m':Mem}
theorem G.acE{k:Nat}:∀a o,g.F a=some o->(g.cut k).F a=some o:=λ_ _ h=>h
theorem G.abT{k:Nat}:∀n a,n<k->g.r n=some a->(g.cut k).r n=some a:=λn a h e=>by
 show (if n<k then g.r n else none)=some a
 rw[if_pos h];exact e
theorem G.JR{k n:Nat}{a:Addr}(h:(g.cut k).r n=some a):n<k/\g.r n=some a:=by
 have h:(if n<k then g.r n else none)=some a:=h
 by_cases z:n<k
 ·rw[if_pos z] at h;exact⟨z,h⟩
 ·rw[if_neg z] at h;cases h
theorem Rs.cut(rs:Rs K g m H)(rs':Rs K g' m' H')(hm:m'.take m.length=m):Rs K (g'.cut m.length) m H' where
 sub:=rs'.sub
 gr:=λn o e=>by
  have hn:=(qQa.mp e).1
  have e':m'[n]? = some (some o):=by
   rw[<- hm,List.getElem?_take] at e
   rw[if_pos hn] at e;exact e
  obtain⟨a,h1,h2,h3⟩:=rs'.gr n o e'
  obtain⟨b,_,_,h4⟩:=rs.gr n o e
  exact⟨a,G.abT n a hn h1,h2,Uk G.acE G.abT (aal (λk a q=>(rs.rb k a q).1) h4) h3⟩
 rb:=λn a e=>by
  obtain⟨h1,h2⟩:=G.JR e
  exact⟨h1,(rs'.rb n a h2).2⟩
 rj:=λn k a e1 e2=>rs'.rj n k a (G.JR e1).2 (G.JR e2).2
 tb:=λq hq=>(rs'.tb q hq).go rfl (λ_ _ e=>G.acE _ _ e) (rs'.tb q hq).F λn e=>(rs'.tb q hq).r n (G.JR e).2
theorem Stp.base{x dx:Addr}{o:HO}(rs:Rs K g m H)(hx:H x=none)(hd:H dx=none):Stp g H { F:=upd g.F dx (.own x),r:=λn=>if n=m.length then some x else g.r n } (upd (upd H dx (.own x)) x o) where
 F:=λa u e=>by
  show upd g.F dx (.own x) a=some u
  rw[upd_ne (λz=>by have:=rs.sub _ _ e;rw[z,hd] at this;cases this)];exact e
 r:=λn a e=>by
  have hn:=(rs.rb n a e).1
  show (if n=m.length then some x else g.r n)=some a
  rw[if_neg (by omega)];exact e
 keep:=λb u e hb nt=>by
  have n1:b≠x:=λz=>by rw[z,hx] at e;cases e
  have n2:b≠dx:=λz=>by rw[z,hd] at e;cases e
  rw[upd_ne n1,upd_ne n2];exact e
 dom:=λb e=>by
  have n1:b≠x:=λz=>e (by rw[z];exact hx)
  have n2:b≠dx:=λz=>e (by rw[z];exact hd)
  rw[upd_ne n1,upd_ne n2];exact e
 Fn:=λb e=>by
  by_cases n2:b=dx
  ·exact .inr (.inl (by rw[n2];exact hd))
  ·have e:upd g.F dx (.own x) b≠none:=e
   rw[upd_ne n2] at e;exact .inl e
 rn:=λn b e=>by
  have e:(if n=m.length then some x else g.r n)=some b:=e
  by_cases z:n=m.length
  ·rw[if_pos z] at e;cases e;exact .inr hx
  ·rw[if_neg z] at e;exact .inl e
end
open Classical in
def mkR(c:Str)(m:Mem)(r:FR):R OV:=match r with
 | .ok .non m'=>(match m'[m.length]? with
  | some (some (.ins d ks xs))=>if d=c/\m'=m++[some (.ins c ks xs)]/\cQ m.length xs=true then .ok (.v (.ins c ks xs)) m else .stuck
  | _=>.stuck)
 | .exc d ks xs m'=>if m'.take m.length=m/\cQ m.length xs=true then .exc d ks xs m else .stuck
 | _=>.stuck
section
variable{K:Ki}{g:G}{H:Hp}{m:Mem}{E:XK}{Q:VK}
end
section
variable{k:Nat}{W:WX}{c:Cfg}{X:Cx}{es:List Expr}{fs:Sl->Mem->R (List OV)}
end
def acK(m:Mem)(x:OV):Option Str:=(RP m x).map (·.1)
section
variable{k:Nat}{W:WX}{c:Cfg}{X:Cx}
end
section
variable{K:Ki}{g:G}{H:Hp}{m:Mem}
end
def kwB:List Str->List Keyword->Option (List Expr)
 | [],[]=>some []
 | k::ks,⟨some x,e,_⟩::r=>if k=x then (kwB ks r).map (e::·) else none
 | _,_=>none
theorem MN{pos:Pos}{env:Env}:∀{ks:List Str}{kws:List Keyword}{es:List Expr},kwB ks kws=some es->(backToKw pos (keywordEach kws env)).all (·.1.isSome)=true/\(backToKw pos (keywordEach kws env)).filterMap (·.1)=ks/\ks.length=es.length/\(backToKw pos (keywordEach kws env)).any (·.1.isNone)=false
 | [],[],_,h=>by cases h;exact⟨rfl,rfl,rfl,rfl⟩
 | [],_::_,_,h=>by cases h
 | k::ks,[],_,h=>by cases h
 | k::ks,⟨none,_,_⟩::r,_,h=>by cases h
 | k::ks,⟨some x,e,p⟩::r,es,h=>by
  have h:(if k=x then (kwB ks r).map (e::·) else none)=some es:=h
  split at h <;> try contradiction
  obtain⟨es',h',rfl⟩:=qQi.mp h
  obtain⟨h1,h2,h3,h4⟩:=MN (pos:=pos) (env:=env) h'
  subst x
  refine⟨?_,?_,by simp[h3],?_⟩
  ·show (true&&(backToKw pos (keywordEach r env)).all (·.1.isSome))=true
   rw[h1];rfl
  ·show k::(backToKw pos (keywordEach r env)).filterMap (·.1)=k::ks
   rw[h2]
  ·show (false || (backToKw pos (keywordEach r env)).any (·.1.isNone))=false
   rw[h4];rfl
theorem _root_.L2.PK.weaken{X:Cx}{es:List Keyword}{t t':TA}(h:PK X es t)(w:∀σ H Q,t' σ H Q->t σ H Q):PK X es t':=⟨λpos pins s σ H Q I q=>h.run pos pins s σ H Q I (w σ H Q q)⟩
theorem Parts.pk{X:Cx}{W:WX}:∀{ks:List Str}{kws:List Keyword}{es:List Expr}{fs:Sl->Mem->R (List OV)},kwB ks kws=some es->Parts X W es fs->PK X kws (tA X.ki W fs)
 | [],[],_,fs,h,p=>by
  cases h
  rw[p.p0]
  exact pk_nil.weaken fun σ H Q q=>Gg q
 | [],_::_,_,_,h,_=>by cases h
 | k::ks,[],_,_,h,_=>by cases h
 | k::ks,⟨none,_,_⟩::r,_,_,h,_=>by cases h
 | k::ks,⟨some x,e,pp⟩::r,es,fs,h,p=>by
  have h:(if k=x then (kwB ks r).map (e::·) else none)=some es:=h
  split at h <;> try contradiction
  obtain⟨es',h',rfl⟩:=qQi.mp h
  cases p with
  | cons a q=>exact (pk_cons a (Parts.pk h' q)).weaken fun σ H Q q=>zG q
theorem RVs.getD{K:Ki}{g:G}{xs:List MV}{vs:List V}(r:RVs K g xs vs)(i:Nat):RV K g (xs.getD i .non) (vs.getD i .non):=by
 by_cases h:i<xs.length
 ·obtain⟨v,h1,h2⟩:=r.get (i:=i) (x:=xs[i]) (by simp[h])
  rw[qQz,qQz,h1,qQf h]
  exact h2
 ·rw[qQz,qQz,qQ1 (by omega),qQ1 (by rw[<- r.length];omega)]
  exact rfl
theorem Vals.getD{vs:List V}{us:List Value}(r:Vals vs us)(i:Nat):RelV (vs.getD i .non) (us.getD i .none):=by
 by_cases h:i<vs.length
 ·obtain⟨u,h1,h2⟩:=r.get (i:=i) (x:=vs[i]) (by simp[h])
  rw[qQz,qQz,h1,qQf h]
  exact h2
 ·rw[qQz,qQz,qQ1 (by omega),qQ1 (by rw[<- r.length];omega)]
  exact rfl
section
variable{k:Nat}{W:WX}{c:Cfg}{X:Cx}{e:Expr}{es:List Expr}{fs:Sl->Mem->R (List OV)}
end
def Ed(w:Str):List Str->Option Nat
 | []=>none
 | x::xs=>if x=w then some 0 else (Ed w xs).map (·+1)
theorem zQ{w:Str}:∀{xs:List Str}{j:Nat},Ed w xs=some j->xs[j]? = some w/\∀i,i<j->∀z,xs[i]? = some z->z≠w
 | [],_,h=>by cases h
 | x::xs,j,h=>by
  unfold Ed at h
  split at h
  ·cases h
   subst_vars
   exact⟨rfl,λi hi=>absurd hi (Nat.not_lt_zero _)⟩
  ·rename_i ne
   obtain⟨k,e,rfl⟩:=qQi.mp h
   obtain⟨h1,h2⟩:=zQ e
   refine⟨by simpa using h1,λi hi z hz=>?_⟩
   cases i with
   | zero=>cases hz;exact ne
   | succ i=>exact h2 i (by omega) z (by simpa using hz)
def u9(zs:List Str)(as:List OV)(m:Mem):R OV:=match as with
 | [.v (.str w)]=>(match Ed w zs with
  | some j=>.ok (.v (.int j)) m
  | none=>.stuck)
 | _=>.stuck
def lstM(f:List Str->List OV->Mem->R OV):OV->Mem->Option (List OV->Mem->R OV)
 | .v (.lst xs),_=>(strsOf xs).map f
 | _,_=>none
theorem QJ{f:List Str->List OV->Mem->R OV}{x:OV}{m:Mem}{r:List OV->Mem->R OV}(h:lstM f x m=some r):∃xs zs,x=.v (.lst xs)/\strsOf xs=some zs/\r=f zs:=by
 unfold lstM at h
 split at h
 ·obtain⟨zs,e,rfl⟩:=qQi.mp h
  exact⟨_,_,rfl,e,rfl⟩
 ·cases h
def G3:Ib where
 parts:=λc e=>match e with
  | .Call (.Attribute o m ap) [a] [] p=>if (decide (m=("index":Str))&&(ap.endLine == p.line)&&cR a&&Nu o)=true then some (o,[a]) else none
  | _=>none
 F:=lstM u9
 ok:=λ{k W c X e o es fo fs} ok nd h ho p=>by
  split at h <;> try contradiction
  split at h <;> cases h
  rename_i hb
  simp only[qQb,qQs] at hb
  obtain⟨⟨⟨rfl,h2⟩,h3⟩,h4⟩:=hb
  obtain⟨fa,e1,e3⟩:=p.p1
  refine (pe_bm F.plainAttrs_list F.slot_list_index F.type_list_index mt_index ho (pa_cons e1 pa_nil (dH h3)) (aaN h4) (by rw[dH h3];rfl) h2 (dH h3) rfl).weaken fun σ H Q q=>?_
  obtain⟨g,s,m,rs,rl,pp⟩:=q
  refine⟨g,s,m,rs,rl,(dG.bind pp).imp λv H1 ⟨x,g1,m1,rs1,st1,r1,p1⟩=>?_⟩
  split at p1
  case h_2=>exact p1.elim
  rename_i hr
  obtain⟨xs,zs,rfl,e2,rfl⟩:=QJ hr
  obtain⟨b,ys,rfl,q,rv⟩:=r1
  have hys:=xP e2 rv
  subst hys
  refine⟨.inl ⟨rfl,_,.of (rs1.sub _ _ q)⟩,g1,s,m1,rs1,rl.st st1,?_⟩
  have e4:=congrFun (congrFun (e3 (u9 zs)) s) m1
  have p1:eZ X.ki (WE W σ) g1 H1 ((fs s m1).bind (u9 zs)) Q:=p1
  rw[e4] at p1
  refine (dG.bind p1).imp λw H2 ⟨y,g2,m2,rs2,st2,r2,p2⟩=>?_
  unfold u9 at p2
  split at p2 <;> try exact p2.elim
  rename_i he
  split at p2
  ·rename_i j e5
   cases he
   cases (show w=V.str _ from r2)
   obtain⟨i1,i2⟩:=zQ e5
   refine⟨b,zs.map V.str,_,j,_,rfl,rfl,.of (rs2.sub _ _ (st2.F _ _ q)),rfl,qQ0.mpr ?_,by rw[qQq,i1];rfl,by simp[eqV],λi z hi hz=>?_,bJ rs2 p2 rfl⟩
   ·intro z hz
    obtain⟨u,_,rfl⟩:=qQh.mp hz
    rfl
   ·rw[qQq] at hz
    obtain⟨u,hu,rfl⟩:=qQi.mp hz
    have:=i2 i hi u hu
    simpa [eqV] using this
  ·exact p2.elim
theorem Zx{P:Program}{w:World}:StX.CXUp (L2N.CX P w):=by
 rintro outer s H s2 H2 E e s' un kp ho ⟨a,B,H',cls,d,ea,fl,hok,ub,na,os,ag,he⟩
 refine⟨a,B,H',cls,d,ea,fl,hok,⟨λb o q n hb=>ub.keep b o (kp b o q) (un.free b o q n (by simp)) hb,λb o q hb=>ub.slot b o (kp b o q) hb,λb o q n=>ub.free b o (kp b o q) (un.free b o q n (by simp)),
  λb o q hb=>ub.there b o (kp b o q) hb,λb xs q=>ub.tups b xs (un.tups b xs q),λb o xs q=>ub.frzs b o xs (un.frzs b o xs q),λb ps q=>?_⟩,na,os.trans ho,ag,he⟩
 obtain⟨m1,e1⟩:=un.tbls b ps q
 obtain⟨m2,e2⟩:=ub.tbls b _ e1
 exact⟨m1++m2,by rw[e2,Array.append_assoc]⟩
theorem RVs.split{K:Ki}{g:G}:∀{xs ys:List MV}{vs:List V},RVs K g (xs++ys) vs->∃us ws,vs=us++ws/\RVs K g xs us/\RVs K g ys ws
 | [],_,vs,h=>⟨[],vs,rfl,rfl,h⟩
 | x::xs,ys,_,⟨v,r,e,h,t⟩=>by
  obtain⟨us,ws,e2,h1,h2⟩:=RVs.split (xs:=xs) (ys:=ys) t
  exact⟨v::us,ws,by rw[e,e2];rfl,⟨v,us,rfl,h,h1⟩,h2⟩
def spV(K:Ki)(n:Nat)(M:Mir):Sp:=λvs H Q E=>∃g m as rest,Rs K g m H/\RVs K g (as++rest) vs/\as.length=n/\rest.length<=sizeLine/\sX K E g H (M (as++[.tup rest]) m) Q
structure Eo(P:Program)(w:World)(K:PySem.W.Frag)(mg:Str->Option Value)(base:Heap)(k:Nat)(f:Addr)(F:Fn):Prop where
 ok:FnR P w K mg base (L2N.CX P w) k f (spV ⟨K,P,w⟩ (F.ps.length - 1) F.M)
 kp:PySem.W.keepIn K (.ref f)=true
 pos:0<k
section
variable{P:Program}{w:World}{K:PySem.W.Frag}{mg:Str->Option Value}{base:Heap}{k:Nat}{f:Addr}{fd:FuncData}{qual:Str}{params:Arguments}{body:List Stmt}{scope:Scope}{N:List Str}{gA:List Str}{cst:List (Str × MV)}{x:Str}
theorem Eo.mono{j k:Nat}{F:Fn}(c:Eo P w K mg base j f F)(h:j<=k):Eo P w K mg base k f F:=⟨c.ok.mono h,c.kp,qQ2 c.pos h⟩
theorem Uv{ps:List Str}{M:Mir}{vs:List V}{H:Hp}{Q:VK}{E:XK}(h:spV ⟨K,P,w⟩ ps.length M vs H Q E):
  ∃ws rest,vs=ws++rest/\ws.length=ps.length/\rest.length<=sizeLine/\∀p,H p=Option.none->spM ⟨K,P,w⟩ (ps.length+1) M (ws++[V.ref p]) (upd H p (.tup rest)) Q E:=by
 obtain⟨g,m,as,rest,rs,r,hl,hz,p⟩:=h
 obtain⟨us,ws,rfl,r1,r2⟩:=RVs.split r
 refine⟨us,ws,rfl,by rw[<- r1.length,hl],by rw[<- r2.length];exact hz,λa ha=>?_⟩
 obtain⟨rs',st⟩:=rs.freeze (o:=.tup ws) ha
 exact⟨_,m,as++[.tup rest],rs',RVs.append (r1.st st) (RVs.one (show RV ⟨K,P,w⟩ _ (.tup rest) (V.ref a) from ⟨a,ws,rfl,.of upd_same,r2.st st⟩)),by simp[hl],p.shift st⟩
theorem Eo.of(F:Fn){ps:List Str}{pv:Str}(FD:FunD K x qual params body scope [] [] f fd)(hps:F.ps=ps++[pv])(S:FnScope N F.ps scope)(mo:yw ⟨K,P,w⟩ mg gA cst){B:MSs}(nd:All (λn:dI=>n P w K mg base k) B.needs)(hB:mSs B ⟨N,scope,gA,cst,true,true,false⟩ body=true)
  (hM:∀as m,as.length=F.ps.length->F.M as m≠.stuck->runD N.length B as m=F.M as m)
  (hb:∀(kV doc pm:Value) (an:Option Addr) (cdv ct:Value) (us rest:List Value),us.length=ps.length->bindArgs (PySem.W.fnOf x qual params body scope .none kV doc pm an cdv ct) ⟨us++rest,[]⟩=(newTuple rest >>= λt=>pure (ps.zip us++[(pv,t)]))):Eo P w K mg base (k+1) f F:=by
 obtain⟨oc,od,dV,kV,doc,pm,an,cdv,ct,osl,rfl,lk,hcd,hD,hK⟩:=FD.ex
 rcases hD with⟨_,rfl⟩|⟨e,_⟩
 ·refine⟨FnR.imp (StX.fn_star (sp:=spM ⟨K,P,w⟩ F.ps.length F.M) lk hcd (by rw[<- hps];exact S) Zx (hb kV doc pm an cdv ct) λA outer s H vs Q E hr h=>v7 S mo nd hB hM hr (W:=λcls d _ H'=>E cls d H') (L2N.takes_of rfl rfl rfl rfl) (λ_ _ _ _ q=>q) (λz=>by cases z) h) λvs H Q E h=>?_,FD.kp,Nat.succ_pos k⟩
  have e:F.ps.length=ps.length+1:=by rw[hps];simp
  rw[e,Nat.add_sub_cancel] at h
  rw[e]
  exact Uv h
 ·exact absurd rfl e
end
def zH(a b:OV):Option (Option Int):=match b with
 | .v (.kd ks is)=>(match a with
  | .v (.str z)=>some ((ks.zip is).lookup z)
  | _=>none)
 | _=>none
def TQ(f:Bool->Bool)(a b:OV)(m:Mem):R OV:=match zH a b with
 | some r=>.ok (.v (.bl (f r.isSome))) m
 | none=>.stuck
def Sd(b a:OV)(m:Mem):R OV:=match zH a b with
 | some (some i)=>.ok (.v (.int i)) m
 | _=>.stuck
theorem Cg{K:Ki}{g:G}{H:Hp}{a b:OV}{x y:V}{r:Option Int}(ra:RO K g H a x)(rb:RO K g H b y)(e:zH a b=some r):∃z p es n u,x=.str z/\y=.ref p/\KDict K.K K.w p es n/\PySem.W.nsIn K.K p z=some u/\KdV u r:=by
 unfold zH at e
 split at e
 ·rename_i ks is
  split at e
  ·rename_i z
   cases e
   obtain⟨p,rfl,⟨⟨es,n,h1,h2⟩,h3,h4⟩⟩:=rb
   obtain⟨u,e1,e2⟩:=h4 z
   exact⟨z,p,es,n,u,ra,rfl,⟨h1,h2,h3⟩,e1,e2⟩
  ·cases e
 ·cases e
theorem JQ{u:Option Value}{r:Option Int}(h:KdV u r):u.isSome=r.isSome:=by
 cases u <;> cases r <;> first|rfl|exact h.elim
section
variable{X:Cx}
theorem CG:OpR X (compareOp .NotIn) (t2 X.ki (TQ (!·))):=by
 rintro pins s σ H x y v u Q I rx ry ⟨E,g,m,a,b,rs,ra,rb,p⟩
 unfold TQ at p
 cases e:zH a b with
 | none=>rw[e] at p;exact p.elim
 | some r =>
  rw[e] at p
  obtain⟨z,d,es,n,w,rfl,rfl,D,e1,e2⟩:=Cg ra rb e
  refine op_notIn_kd D pins s σ H _ _ v u Q I rx ry ⟨z,w,rfl,rfl,e1,?_⟩
  rw[JQ e2]
  exact p g _ H rs (Stp.refl _ _) rfl
theorem aaw:IxR X (t2 X.ki Sd):=by
 rintro value slice pins s σ H x y v u Q I rx ry ⟨E,g,m,a,b,rs,ra,rb,p⟩ hs
 unfold Sd at p
 cases e:zH b a with
 | none=>rw[e] at p;exact p.elim
 | some r =>
  rw[e] at p
  obtain⟨z,d,es,n,w,rfl,rfl,D,e1,e2⟩:=Cg rb ra e
  cases r with
  | none=>exact p.elim
  | some i =>
   cases w with
   | none=>exact e2.elim
   | some w =>
    obtain⟨t,rfl⟩:=e2
    exact ix_kdict value slice pins s σ H _ _ v u Q I rx ry ⟨d,z,.int i,rfl,rfl,⟨es,n,_,D.at_,D.lit,e1,⟨t,rfl⟩⟩,p g _ H rs (Stp.refl _ _) rfl⟩ hs
end
def BZ:iZ:={ op:=Eh .NotIn,F:=TQ (!·),ok:=λok nd h=>by cases gJ h;exact CG }
def Vh:o9 where
 parts:=λ_ e=>match e with
  | .Subscript x y _=>if rY y=true then some [x,y] else none
  | _=>none
 F:=F2 Sd
 ok:=λok nd h p=>by
  split at h <;> try contradiction
  split at h <;> cases h
  obtain⟨fa,fb,h1,h2,h3⟩:=p.f2 (f:=Sd)
  rw[h3]
  exact (pe_ix aaw h1 h2 (Bo (by assumption))).weaken fun σ H Q q=>Cd q
def Ku(f:Bool->Bool)(r:FR):R OV:=match r with
 | .ok (.bl b) m=>.ok (.v (.bl (f b))) m
 | _=>.stuck
def UJ(f:Bool->Bool)(cs:List (Str × Fn))(a b:OV)(m:Mem):R OV:=match a,b with
 | .v x,.v y=>(match acK m (.v y) with
  | some c=>(match cs.lookup c with
   | some F=>Ku f (F.M [y,x] m)
   | none=>.stuck)
  | none=>.stuck)
 | _,_=>.stuck
def Vy(c:Str)(F:Fn):dI:=λP w K mg base k=>∃f fd,Cls K (He.ga K c)/\Meth K (He.ga K c) ("__contains__":Str) f/\F.ps.length=2/\FnAt P w K mg base k f fd F
section
variable{k:Nat}{W:WX}{c:Cfg}{X:Cx}
theorem Lw(ok:bV k W c X){f:Bool->Bool}{cs:List (Str × Fn)}(nd:∀n∈cs.map λq=>Vy q.1 q.2,n.at X k){pins:List (Addr × Obj)}{s:Shared}{σ:St}{H:Hp}{x y:V}{v u:Value}{Q:VK}(I:Inv X pins σ H s)(rx:RelV x v)(ry:RelV y u)(h:t2 X.ki (UJ f cs) x y H Q):
  ∃(d:Addr) (C:Addr) (fa:Addr) (ox:Obj) (od:Option Obj),u=.ref d/\PySem.W.InstAt s.heap d ox C od/\PySem.W.findIn X.K (.ref C) "__contains__" = some (some (.ref fa))/\PySem.W.isFn X.K (.ref fa)=true /\
   wpAny (model X.prog X.w) X.A (call (.ref fa) [.ref d,v]) (λr s'=>∃b,r=.bool b/\EP X pins σ Q (.bool (f b)) s') X.xe s:=by
 obtain⟨E,g,m,a,b,rs,ra,rb,p⟩:=h
 unfold UJ at p
 split at p
 case h_2=>exact p.elim
 rename_i x' y'
 split at p
 case h_2=>exact p.elim
 rename_i cn ei
 split at p
 case h_2=>exact p.elim
 rename_i F eF
 unfold acK at ei
 obtain⟨⟨cn',ks,zs⟩,ei2,rfl⟩:=qQi.mp ei
 obtain⟨d,dx,fs',rfl,h7,h8,h9,h10⟩:=wy rs rb ei2
 obtain⟨fa,fd,n1,n2,hl,fn⟩:=nd _ (qQh.mpr ⟨_,lookup_mem eF,rfl⟩)
 obtain⟨mA,J,_⟩:=ins_get I.hok h7
 obtain⟨od,J,_⟩:=J.look
 cases (show u=Value.ref d from ry)
 refine⟨d,_,fa,_,_,rfl,J,n2.at_,n2.fn,?_⟩
 have hsp:spM X.ki F.ps.length F.M [.ref d,x] H (λv H2=>∃z:Bool,v=.bl z/\Q (.bl (f z)) H2) (WE W σ):=by
  refine⟨g,m,[y',x'],rs,⟨_,_,rfl,rb,.one ra⟩,hl.symm,?_⟩
  cases e:F.M [y',x'] m with
  | ok z m' =>
   rw[e] at p
   unfold Ku at p
   cases z with
   | bl z=>exact λg' v H' rs' st' rv=>⟨z,rv,p g' _ H' rs' st' rfl⟩
   | _=>exact p.elim
  | new o m'=>rw[e] at p;exact p.elim
  | exc d ks xs m'=>rw[e] at p;exact p.elim
  | stuck=>rw[e] at p;exact p.elim
 refine wpAny_mono (Jd fn (ok.room fn.pos) ok.tk I (.cons (show RelV (V.ref d) (Value.ref d) from rfl) (.cons rx .nil)) hsp) (λr s' hq=>?_) λ_ _ z=>z
 obtain⟨z,H',I',rz,w,rfl,q⟩:=hq
 exact⟨w,rz,.bl (f w),H',I',rfl,q⟩
end
def Vr(cs:List (Str × Fn)):iZ where
 need:=cs.map λq=>Vy q.1 q.2
 op:=Eh .In
 F:=UJ id cs
 ok:=λ{k W c X o} ok nd h=>by
  cases gJ h
  intro pins s σ H x y v u Q I rx ry h
  obtain⟨d,C,fa,ox,od,rfl,J,e1,e2,hc⟩:=Lw ok nd I rx ry h
  obtain⟨mm,hF⟩:=I.fr
  refine PySem.W.in_K hF I.ok.mod.kin J e1 e2 (wpAny_mono hc (λr s' hq=>?_) λ_ _ z=>z)
  obtain⟨b,rfl,q⟩:=hq
  exact wpAny_pure q
def aeg(e:DictEntry)(k:Str)(i:Int):Bool:=match e.key with
 | .str x _=>(match e.val with
  | .int j _=>decide (x=k)&&decide (j=i)
  | _=>false)
 | _=>false
def acn:List DictEntry->List Str->List Int->Bool
 | [],[],[]=>true
 | e::es,k::ks,i::is=>aeg e k i&&acn es ks is
 | _,_,_=>false
def aet(K:PySem.W.Frag)(a:Addr)(ks:List Str)(is:List Int):Bool:=match K.lookup a with
 | some ⟨_,_,.dict es _,_⟩=>acn es.toList ks is
 | _=>false
def Ae:Option Obj->Bool
 | some ⟨.none,none,.fields vs,sl⟩=>vs.isEmpty&&sl.isEmpty
 | _=>false
def Kr(P:Addr):Option Obj->Bool
 | some ⟨.type t,_,.fields vs,_⟩=>decide (t="code")&&(match (vs.toList[11]?:Option Value),(vs.toList[18]?:Option Value),(vs.toList[7]?:Option Value),(vs.toList[9]?:Option Value),(vs.toList[10]?:Option Value) with
  | some (.ref b),some (.str _ _),some (.int _ _),some (.bool _),some (.int _ _)=>decide (b=P)
  | _,_,_,_,_=>false)
 | _=>false
def acC(K:PySem.W.Frag)(g:Addr->Option Obj)(p:Addr × Addr × Str):Bool:=Ae (g p.2.1)&&((K.lookup p.2.1).isNone&&(Kr p.2.1 (K.lookup p.1)&&decide (p.1≠p.2.1)))
def dist:List Addr->Bool
 | []=>true
 | a::r=>!(r.contains a)&&dist r
def tabsB(K:PySem.W.Frag)(g:Addr->Option Obj):Bool:=(dU K).all (acC K g)&&dist ((dU K).map (·.2.1))
structure Dm(K:PySem.W.Frag)(h:Heap):Prop where
 emp:∀p∈dU K,h.get? p.2.1=some { cls:=.none,data:=.fields #[] }
 out:∀p∈dU K,K.lookup p.2.1=none
 hd:∀p∈dU K,PySem.W.CodeHd h p.1 p.2.1
 one:∀p∈dU K,∀q∈dU K,p.2.1=q.2.1->p=q
theorem HX{o:Option Obj}(h:Ae o=true):o=some { cls:=.none,data:=.fields #[] }:=by
 unfold Ae at h
 split at h
 ·rw[qQb] at h
  rw[Array.isEmpty_iff.mp h.1,Array.isEmpty_iff.mp h.2]
 ·cases h
theorem sS{vs:Array Value}{i:Nat}{v:Value}(h:vs.toList[i]? = some v):vs.getD i .none=v:=by
 rw[Array.getElem?_toList] at h
 rw[Array.getD_eq_getD_getElem?,h];rfl
theorem Lz{K:PySem.W.Frag}{h:Heap}(X:K.In h){c P:Addr}(e:Kr P (K.lookup c)=true)(ne:c≠P):PySem.W.CodeHd h c P:=by
 cases q:K.lookup c with
 | none=>rw[q] at e;cases e
 | some o =>
  rw[q] at e
  unfold Kr at e
  split at e
  ·rename_i t od vs sl ho
   rw[qQb] at e
   obtain⟨e1,e2⟩:=e
   cases ho
   split at e2
   ·rename_i b z tz i ti bb j tj q11 q18 q7 q9 q10
    have e2:=qQ4 e2
    subst e2
    refine⟨_,vs,z,tz,i,ti,bb,j,tj,X _ _ q,by rw[qQ4 e1],rfl,?_,sS q11,sS q18,sS q7,sS q9,sS q10,ne⟩
    rw[<- Array.getElem?_toList]
    exact q11
   ·cases e2
  ·cases e
theorem Ji:∀{l:List (Addr × Addr × Str)},dist (l.map (·.2.1))=true->∀p∈l,∀q∈l,p.2.1=q.2.1->p=q
 | [],_,p,hp,_,_,_=>by cases hp
 | a::l,h,p,hp,q,hq,e=>by
  have h:(!((l.map (·.2.1)).contains a.2.1)&&dist (l.map (·.2.1)))=true:=h
  rw[qQb,Bool.not_eq_true'] at h
  have no:∀x∈l,x.2.1≠a.2.1:=λx hx z=>by
   have:(l.map (·.2.1)).contains a.2.1=true:=by
    rw[List.contains_iff_mem,<- z]
    exact qQh.mpr ⟨x,hx,rfl⟩
   rw[h.1] at this;cases this
  rcases qQj.mp hp with rfl|hp <;> rcases qQj.mp hq with rfl|hq
  ·rfl
  ·exact absurd e.symm (no _ (by assumption))
  ·exact absurd e (no _ (by assumption))
  ·exact Ji h.2 p hp q hq e
theorem JW{K:PySem.W.Frag}{h:Heap}(X:K.In h)(e:tabsB K h.get? = true):Dm K h:=by
 unfold tabsB at e
 rw[qQb] at e
 have e1:=λp hp=>qQ0.mp e.1 p hp
 have e2:∀p∈dU K,Ae (h.get? p.2.1)=true/\(K.lookup p.2.1).isNone=true/\Kr p.2.1 (K.lookup p.1)=true/\p.1≠p.2.1:=λp hp=>by
  have q:=e1 p hp
  unfold acC at q
  simp only[qQb,qQs] at q
  exact q
 exact⟨λp hp=>HX (e2 p hp).1,λp hp=>Option.isNone_iff_eq_none.mp (e2 p hp).2.1,λp hp=>Lz X (e2 p hp).2.2.1 (e2 p hp).2.2.2,Ji e.2⟩
theorem Dm.keeps{K:PySem.W.Frag}{h h':Heap}(t:Dm K h)(k:∀b o,h.get? b=some o->h'.get? b=some o):Dm K h' :=
 ⟨λp hp=>k _ _ (t.emp p hp),t.out,λp hp=>(t.hd p hp).keeps k,t.one⟩
inductive Xf where
 | ins (c:Str)
 | kit (s t:Ty) (b:Bool)
 | con (c f:Str) (i:Int)
 | kdv (x:Str) (ks:List Str) (is:List Int)
 | say (p:PySem.W.Frag->Bool)
def Xf.ok(K:PySem.W.Frag):Xf->Bool
 | .ins c=>(He.Fa.cls c).ok K&&(He.eqO (PySem.W.findIn K (.ref (He.ga K c)) "__class__") (some (some (.builtin "object.__class__")))&&(He.eqO (PySem.W.specialIn K (.builtin "object.__class__") "__get__") (some (some (.builtin "getset_descriptor.__get__")))&&(decide (PySem.W.takesIn K (.builtin "object.__class__")=some true)&&decide (PySem.W.mroIn K (He.ga K c) (.type "object")=some true))))
 | .kit s t b=>decide (PySem.W.kitOne K (match s with
  | .b s=>.type s
  | .own c=>.ref (He.ga K c)) (match t with
  | .b s=>.type s
  | .own c=>.ref (He.ga K c))=some b)
 | .con c f i=>PySem.W.readsIn K (He.ga K c) (.type "type")&&(He.eqO (PySem.W.specialIn K (.ref (He.ga K c)) "__getattribute__") (some (some (.builtin "type.__getattribute__")))&&(match PySem.W.findCls K (.ref (He.ga K c)) (.type "type") f with
  | some (.val (.int j _))=>decide (j=i)
  | _=>false))
 | .kdv x ks is=>aet K (He.ga K x) ks is
 | .say p=>p K
section
variable{K:PySem.W.Frag}
theorem ak{P:Program}{w:World}{s t:Ty}{b:Bool}(h:(Xf.kit s t b).ok K=true):PySem.W.kitOne K (s.u ⟨K,P,w⟩) (t.u ⟨K,P,w⟩)=some b:=by
 have h:=qQ4 h
 cases s <;> cases t <;> exact h
theorem aj{p:PySem.W.Frag->Bool}(h:(Xf.say p).ok K=true):p K=true:=h
end
structure nR where
 x:Str
 g:Str
 f:Str
 params:Arguments
 body:List Stmt
 scope:Scope
abbrev RD:Type:=Option (Str × Str × Arguments × FuncBody × Scope × Addr × List Str × Addr)
structure wF where
 ad:PySem.W.Frag->Addr
 name:Str
 qual:Str
 clo:List Str
 params:Arguments
 body:List Stmt
 scope:Scope
def Ql(K:PySem.W.Frag)(f:Addr):RD:=match K.lookup f with
 | some ⟨_,_,.func fd,_⟩=>some (fd.name,fd.qualname,fd.params,fd.body,fd.scope,fd.globals,fd.closure.map (·.1),fd.builtins)
 | _=>none
def wF.val(d:wF):RD:=some (d.name,d.qual,d.params,.stmts d.body,d.scope,mainGlobals,d.clo,builtinsNs)
def errV(K:PySem.W.Frag)(x:Str):RD:=match K.lookup (He.ma K (He.ga K x) "__init__") with
 | some ⟨_,_,.func fd,_⟩=>some (fd.name,fd.qualname,fd.params,fd.body,fd.scope,fd.globals,fd.closure.map (·.1),fd.builtins)
 | _=>none
def nR.val(d:nR):RD:=some ("__init__",d.x++".__init__",d.params,.stmts d.body,d.scope,mainGlobals,["__class__"],builtinsNs)
def nR.own(d:nR):wF:=⟨λK=>He.ma K (He.ga K d.x) "__init__","__init__",d.x++".__init__",["__class__"],d.params,d.body,d.scope⟩
abbrev AlX:Type:=He.AlD × List (Option (List (Option (Str × Int)))) × List RD × Bool
def adZ(fa:List He.Fa)(xf:List Xf)(fn:List He.DefD)(ts:List He.Tab)(er:List wF)(K:PySem.W.Frag)(g:Addr->Option Obj):AlX:=(((He.obsD fa fn K).1&&xf.all λx=>x.ok K,(He.obsD fa fn K).2),ts.map λt=>He.dicW K (t.1 K),er.map λd=>Ql K (d.ad K),tabsB K g)
def valX(fn:List He.DefD)(ts:List He.Tab)(er:List wF)(w:World):AlX:=(He.valD fn,(ts.map λt=>some (He.keysIn w.params t.2)),er.map wF.val,true)
structure rK(fa:List He.Fa)(xf:List Xf)(fn:List He.DefD)(ts:List He.Tab)(er:List wF)(w:World)(K:PySem.W.Frag)(h:Heap):Prop where
 f:((He.obsD fa fn K).1&&xf.all λx=>x.ok K,(He.obsD fa fn K).2)=He.valD fn
 t:(ts.map λt=>He.dicW K (t.1 K))=ts.map λt=>some (He.keysIn w.params t.2)
 e:(er.map λd=>Ql K (d.ad K))=er.map wF.val
 b:Dm K h
section
variable{fa:List He.Fa}{xf:List Xf}{fn:List He.DefD}{ts:List He.Tab}{er:List wF}{w:World}{K:PySem.W.Frag}{h:Heap}
theorem rK.d(c:rK fa xf fn ts er w K h):He.SaysD fa fn K:=by
 have e1:((He.obsD fa fn K).1&&xf.all λx=>x.ok K)=true:=congrArg (λz:He.AlD=>z.1) c.f
 have e2:(He.obsD fa fn K).2=(He.valD fn).2:=by
  have e:=congrArg Prod.snd c.f
  exact e
 exact Prod.ext (qQr.mp e1).1 e2
theorem rK.x(c:rK fa xf fn ts er w K h)(i:Nat){f:Xf}(e:xf[i]? = some f:=by rfl):f.ok K=true:=by
 have e1:((He.obsD fa fn K).1&&xf.all λx=>x.ok K)=true:=congrArg (λz:He.AlD=>z.1) c.f
 exact qQ0.mp (qQr.mp e1).2 f (qQg e)
theorem rK.err(c:rK fa xf fn ts er w K h)(i:Nat){d:wF}(e:er[i]? = some d:=by rfl):Ql K (d.ad K)=d.val:=by
 have e2:(er.map λd=>Ql K (d.ad K))[i]? = (er.map wF.val)[i]?:=by rw[c.e]
 rw[qQq,qQq,e] at e2
 exact qQ5 e2
theorem rK.dic(c:rK fa xf fn ts er w K h)(i:Nat){t:He.Tab}(e:ts[i]? = some t:=by rfl):∃es n,KDict K w (t.1 K) es n:=by
 have e2:(ts.map λt=>He.dicW K (t.1 K))[i]? = (ts.map λt=>some (He.keysIn w.params t.2))[i]?:=by rw[c.t]
 rw[qQq,qQq,e] at e2
 exact He.dicW_ok (qQ5 e2)
end
section
variable{K:PySem.W.Frag}{x qual:Str}{params:Arguments}{body:List Stmt}{scope:Scope}{kws:List (Str × V)}{f:Addr}{fd:FuncData}
end
theorem ZV{l:PySem.W.OpenLaw}{w:World}{K:PySem.W.Frag}{mg:Str->Option Value}{fa:Addr}{h:Heap}{fd:FuncData}{k:Nat}{x:Str}{M:Mir}(b:Dm K h)(hb:∀(s:Shared) (v:Value),BindsTo s fd ⟨[v],[]⟩ [(x,v)])
  (ht:∀ns:List Int,ns.length<=63->∃m',M [.kl (ns.map .int)] []=.ok (.bl true) m')
  (hF:∀base:Heap,K.In base->base.Ns mainGlobals mg->(∀p∈(dU K).map (λp=>(p.1,p.2.1)),LamX.TabB base mg p.1 p.2)->FnOk l.prog w K mg base CX0 k fa fd [x] (λvs H Q E=>spM ⟨K,l.prog,w⟩ 1 M vs H Q (λ_ _ _=>False))):LamX.LawAtS l w K CX0 k 63 x mg fa h:=by
 have go:∀p∈(dU K).map (λp=>(p.1,p.2.1)),∃q∈dU K,q.1=p.1/\q.2.1=p.2:=λp hp=>by
  obtain⟨q,hq,rfl⟩:=qQh.mp hp
  exact⟨q,hq,rfl,rfl⟩
 refine⟨fd,(dU K).map (λp=>(p.1,p.2.1)),_,λp hp=>?_,λp hp=>?_,λp hp=>?_,hb,λH a ns hl _ hT hS=>?_,hF⟩
 ·obtain⟨q,hq,e1,e2⟩:=go p hp
  rw[<- e2];exact b.emp q hq
 ·obtain⟨q,hq,e1,e2⟩:=go p hp
  rw[<- e2];exact b.out q hq
 ·obtain⟨q,hq,e1,e2⟩:=go p hp
  rw[<- e2,<- e1];exact b.hd q hq
 ·exact Q4 (λq hq=>hT _ (qQh.mpr ⟨q,hq,rfl⟩)) hS (ht ns hl)
structure du where
 B:String
 new:String
 init:String
 tail:List Value
def bVE:du:=⟨"ValueError","ValueError.__new__","ValueError.__init__",[.type "ValueError",.type "Exception",.type "BaseException",.type "object"]⟩
def bLE:du:=⟨"LookupError","LookupError.__new__","LookupError.__init__",[.type "LookupError",.type "Exception",.type "BaseException",.type "object"]⟩
def bIE:du:=⟨"IndexError","IndexError.__new__","IndexError.__init__",[.type "IndexError",.type "LookupError",.type "Exception",.type "BaseException",.type "object"]⟩
structure eX(b:du):Prop where
 fac:ExcBaseFacts b.B b.new b.init b.tail
 kx:PySem.W.KxsFacts b.B b.init
 pass:∀self:Value,refuseLoop self "__setattr__" b.tail=pure ()
 obj:b.tail.contains (.type "object")=true
 ne:b.tail.isEmpty=false
 quiet:∀a:Args,Code.quiet (.builtin b.init a)=true
theorem bT:eX bVE:=⟨F.excBase_ValueError,PySem.W.kxs_ValueError,F.store_ValueError.passes,by decide +kernel,rfl,λ_=>Code.quiet_builtin _ (by decide +kernel)⟩
theorem G7:eX bLE:=⟨F.excBase_LookupError,PySem.W.kxs_LookupError,F.store_LookupError.passes,by decide +kernel,rfl,λ_=>Code.quiet_builtin _ (by decide +kernel)⟩
theorem Tq:eX bIE:=⟨F.excBase_IndexError,PySem.W.kxs_IndexError,F.store_IndexError.passes,by decide +kernel,rfl,λ_=>Code.quiet_builtin _ (by decide +kernel)⟩
def Be:Value->Bool
 | .ref _=>true
 | _=>false
theorem Fe{v:Value}(h:Be v=true):∃c,v=.ref c:=by
 cases v <;> first|(cases h;done)|exact⟨_,rfl⟩
def nW(t:List Value):List Value->Bool
 | []=>t.isEmpty
 | v::r=>(Be v&&nW t r) || ((v::r) == t)
theorem o8{t:List Value}{P:List Value->Prop}(h0:P t)(h1:∀c r,P r->P (.ref c::r)):∀l,nW t l=true->P l
 | [],e=>by
  obtain rfl:t=[]:=List.isEmpty_iff.mp e
  exact h0
 | v::r,e=>by
  rcases Bool.or_eq_true_iff.mp (show ((Be v&&nW t r) || ((v::r) == t))=true from e) with e|e
  ·obtain⟨e1,e2⟩:=qQr.mp e
   obtain⟨c,rfl⟩:=Fe e1
   exact h1 c r (o8 h0 h1 r e2)
  ·rw[beq_iff_eq.mp e]
   exact h0
section
variable{b:du}
theorem eX.passes(k:eX b)(self:Value):∀l,nW b.tail l=true->refuseLoop self "__setattr__" l=pure () :=
 o8 (k.pass self) λc r h=>(refuseLoop_ref self "__setattr__" c r).trans h
theorem eX.has(k:eX b)(Y:String):∀l,nW b.tail l=true->l.contains (.type Y)=b.tail.contains (.type Y) :=
 o8 rfl λc r h=>by
  rw[List.contains_cons,h]
  rfl
theorem eX.full(k:eX b):∀l,nW b.tail l=true->l.isEmpty=false:=o8 k.ne λ_ _ _=>rfl
end
section
open PySem.W PySem.Calls PySem.HandSPX PySem.OEX Builtin Builtin.ObjectAttr
variable{b:du}{prog:Program}{w:World}{A:Around}{E:Value->Shared->Prop}{R:Result->Shared->Prop}{hp:Heap}{g:Array GenState}{d:Drawn}{t:Nat}{os:OsState}
variable{K:PySem.W.Frag}{name:Str}{tk:Tok}{v:Value}{x C:Addr}{fv:Array Value}{cd:ClassData}
theorem osa_new(k:eX b)(X:K.In hp)(hx:hp.get? x=some { cls:=.ref C,data:=.fields fv })(hcd:PySem.W.clsIn K C=some cd)(hm:nW b.tail cd.mro=true)(hh:cd.hasDict=true)(ha:PySem.W.findIn K (.ref C) name=some none)
  (hq:∀h' tk' dx,(∀c o,c≠x->hp.get? c=some o->h'.get? c=some o)->hp.objs.size<=dx->dx≠x->h'.get? x=some { cls:=.ref C,dict:=some dx,data:=.fields fv } ->
   h'.Ns1 dx (λy=>if y=name then some v else none)->R (.ok (.ret .none)) ⟨h',g,d,tk',os⟩):codeAny (model prog w) A (.call (.builtin "object.__setattr__") ⟨[.ref x,.str name tk,v],[]⟩) R ⟨hp,g,d,t,os⟩:=by
 have at_:PySem.W.InstAt hp x { cls:=.ref C,data:=.fields fv } C none:=⟨hx,rfl,rfl,trivial⟩
 have st:=F.store_object
 have full:=k.full _ hm
 have obj:=(k.has "object" _ hm).trans k.obj
 have ox:x≠hp.objs.size:=Nat.ne_of_lt (Heap.lt_size hx)
 have is_:PySem.W.Looks (model prog w) hp (isInstance (.ref x) (.type "object")) true:=at_.type.andThen (PySem.W.looks_mroIn X (by unfold PySem.W.mroIn;rw[hcd,Option.bind_some,if_neg (by rw[full];decide),obj]))
 refine codeAny_call_builtin st.slot.plain st.entry (@PySem.W.check_slot (model prog w) _ _ ⟨hp,g,d,t,os⟩ "object.__setattr__" "object" "__setattr__" (.ref x) [.str name tk,v] [] _ st.kind st.split is_ (st.args (.ref x) (.str name tk) v) ?_)
 have mro:PySem.W.Looks (model prog w) hp (mroOf (.ref C)) cd.mro:=(PySem.W.looks_clsIn X hcd).andThen .now
 have taker:PySem.W.Looks (model prog w) hp (storeTaker? none) none:=.now
 have data:PySem.W.Looks (model prog w) hp (classData C) cd:=PySem.W.looks_clsIn X hcd
 rw[PySem.W.osa_eq,refuse_eq]
 refine wpAny_bind (wpAny_bind (at_.type.at (wpAny_bind (mro.at ?_))))
 rw[k.passes _ _ hm]
 refine wpAny_pure (wpAny_bind (at_.type.at (wpAny_bind ((PySem.W.looks_findIn X ha).at (wpAny_bind (taker.at ?_))))))
 show wpAny _ _ (storeInOwnDict (.ref x) (.ref C) (.str name tk) name v false) _ _ _
 obtain⟨c1,c2,c3,c4,c5,c6,c7,c8,c9,c10,c11⟩:=cd
 dsimp only at hh
 subst hh
 unfold storeInOwnDict ownDictForStores
 repeat (first|with_reducible refine store_in_new ?_ ?_|with_reducible refine wpAny_loadPart_at hx ?_|with_reducible refine data.at ?_|wp_step)
 ·exact⟨_,#[],_,(Heap.get?_update_ne _ _ _ _ ox.symm).trans (Heap.get?_push_at rfl rfl),rfl,λe he=>absurd he (by simp),λ_=>rfl⟩
 ·intro h' tk' hn' hs
  have hx1:(hp.push { cls:=.type "dict",data:=.dict #[] }).get? x=some { cls:=.ref C,data:=.fields fv }:=qQu _ hx
  refine hq h' tk' hp.objs.size (λc o hc ho=>?_) (Nat.le_refl _) ox.symm ?_ hn'
  ·exact (hs.2 c (Nat.ne_of_lt (Heap.lt_size ho))).trans ((Heap.get?_update_ne _ _ _ _ hc).trans (qQu _ ho))
  ·exact (hs.2 x ox).trans (Heap.get?_update_self _ hx1 rfl)
theorem KJ(k:eX b){dx:Addr}{m0:Str->Option Value}{nl:List Str}(X:K.In hp)(hx:hp.get? x=some { cls:=.ref C,dict:=some dx,data:=.fields fv })(hns:hp.Ns1 dx m0)(hw:Within m0 nl)(hz:nl.length<=1000)
  (hcd:PySem.W.clsIn K C=some cd) (hm:nW b.tail cd.mro=true) (hh:cd.hasDict=true) (ha:PySem.W.findIn K (.ref C) name=some none)
  (hq:∀h' tk',(∀c o,c≠dx->hp.get? c=some o->h'.get? c=some o)->h'.Ns1 dx (λy=>if y=name then some v else m0 y)->R (.ok (.ret .none)) ⟨h',g,d,tk',os⟩) :
  codeAny (model prog w) A (.call (.builtin "object.__setattr__") ⟨[.ref x,.str name tk,v],[]⟩) R ⟨hp,g,d,t,os⟩:=by
 obtain⟨oD,_,_,hoD,_,_⟩:=hns.count hw
 have at_:PySem.W.InstAt hp x { cls:=.ref C,dict:=some dx,data:=.fields fv } C (some oD):=⟨hx,rfl,rfl,hoD⟩
 have st:=F.store_object
 have full:=k.full _ hm
 have obj:=(k.has "object" _ hm).trans k.obj
 have is_:PySem.W.Looks (model prog w) hp (isInstance (.ref x) (.type "object")) true:=at_.type.andThen (PySem.W.looks_mroIn X (by unfold PySem.W.mroIn;rw[hcd,Option.bind_some,if_neg (by rw[full];decide),obj]))
 refine codeAny_call_builtin st.slot.plain st.entry (@PySem.W.check_slot (model prog w) _ _ ⟨hp,g,d,t,os⟩ "object.__setattr__" "object" "__setattr__" (.ref x) [.str name tk,v] [] _ st.kind st.split is_ (st.args (.ref x) (.str name tk) v) ?_)
 have mro:PySem.W.Looks (model prog w) hp (mroOf (.ref C)) cd.mro:=(PySem.W.looks_clsIn X hcd).andThen .now
 have taker:PySem.W.Looks (model prog w) hp (storeTaker? none) none:=.now
 have data:PySem.W.Looks (model prog w) hp (classData C) cd:=PySem.W.looks_clsIn X hcd
 rw[PySem.W.osa_eq,refuse_eq]
 refine wpAny_bind (wpAny_bind (at_.type.at (wpAny_bind (mro.at ?_))))
 rw[k.passes _ _ hm]
 refine wpAny_pure (wpAny_bind (at_.type.at (wpAny_bind ((PySem.W.looks_findIn X ha).at (wpAny_bind (taker.at ?_))))))
 show wpAny _ _ (storeInOwnDict (.ref x) (.ref C) (.str name tk) name v false) _ _ _
 obtain⟨c1,c2,c3,c4,c5,c6,c7,c8,c9,c10,c11⟩:=cd
 dsimp only at hh
 subst hh
 unfold storeInOwnDict ownDictForStores
 repeat (first|with_reducible refine store_in_old hns hw hz ?_|with_reducible refine wpAny_loadPart_at hx ?_|with_reducible refine data.at ?_|wp_step)
 intro h' tk' hn' hs
 exact hq h' tk' (λc o hc ho=>(hs.2 c hc).trans ho) hn'
end
structure DR(b:du)(K:PySem.W.Frag)(C:Addr):Prop where
 ok:eX b
 cls:∃nm q N bs bm sn sub ab col dd k0 k1 k2 k3 k5,K.lookup C=some (excClassObj nm q C N bs bm true sn sub ab col dd k0 k1 k2 k3 k5 b.new)/\nW b.tail bm=true
 sa:PySem.W.findIn K (.ref C) "__setattr__" = some (some (.builtin "object.__setattr__"))
 exC:PySem.W.subIn K (.ref C) (.type "BaseException")=some true
 tyC:PySem.W.typeIn K (.ref C)=some (.type "type")
 kC:PySem.W.keepIn K (.ref C)=true
theorem Cm{t bm:List Value}{C:Addr}(h:nW t bm=true):nW t (.ref C::bm)=true:=by
 show ((Be (.ref C)&&nW t bm) || _)=true
 rw[h]
 rfl
section
variable{b:du}{X:Cx}{pins:List (Addr × Obj)}{σ:L2.St}{H:Hp}{s:Shared}{a C dx:Addr}{f:Str}{y:V}{u:Value}{fs:List (Str × V)}{Q:Unit->Shared->Prop}{E:Value->Shared->Prop}{A:Around}
theorem DR.cdata(T:DR b X.K C):∃cd,PySem.W.clsIn X.K C=some cd/\nW b.tail cd.mro=true/\cd.hasDict=true:=by
 obtain⟨nm,q,N,bs,bm,sn,sub,ab,col,dd,k0,k1,k2,k3,k5,hC,hbm⟩:=T.cls
 exact⟨{ name:=nm,bases:=bs,mro:=.ref C::bm,ns:=N,qualname:=q,hasDict:=true,slotNames:=sn,subclasses:=sub,abstract:=ab,collection:=col,hasDel:=false },by unfold PySem.W.clsIn;rw[hC] <;> rfl,Cm hbm,rfl⟩
theorem O5(T:DR b X.K C)(I:L2.Inv X pins σ H s)(e:H a=some (exo a C none))(hno:PySem.W.findIn X.K (.ref C) f=some none)(ry:RelV y u)
  (h:∀dx s',H dx=none->dx≠a->L2.Inv X pins σ (upd (upd H dx (exd dx [(f,y)])) a (exo a C (some dx))) s'->Q () s'):wpAny (model X.prog X.w) A (setAttr (.ref a) f u) Q E s:=by
 obtain⟨cd,hcl,hm,hh⟩:=T.cdata
 obtain⟨t1,ho⟩:=exo_at I.hok e
 obtain⟨hp,g,d,t,os⟩:=s
 refine PySem.W.set_plain I.kIn (ox:={ cls:=.ref C,dict:=none,data:=.fields #[.ref t1,.none,.none,.none,.bool false,.none] }) (od:=none) ⟨ho,rfl,rfl,trivial⟩ T.sa ?_
 refine osa_new T.ok I.kIn ho hcl hm hh hno λh' tk' dx k dn dne hx hn=>?_
 have hnd:H dx=none:=I.hok.fresh dn
 have nd:∀{c:Addr}{o:Obj},hp.get? c=some o->c≠dx:=λq=>Nat.ne_of_lt (qQ2 (Heap.lt_size q) dn)
 have na:∀{c:Addr},H c=none->c≠a:=λn z=>by
  rw[z,e] at n
  cases n
 have U:Un X.fs [] H (upd (upd H dx (exd dx [(f,y)])) a (exo a C (some dx))) hp h' :=
  ⟨λc o q n _ _=>k c o (na n) q,λc o q n _ _=>⟨o.slots,k c o (na n) q⟩,λc o q n _=>by rw[upd_ne (na n),upd_ne (nd q)];exact n,
   λc o q _=>by
    by_cases hc:c=a
    ·exact⟨_,by rw[hc];exact hx⟩
    ·exact⟨o,k c o hc q⟩,
   λc xs q=>by rw[upd_ne (at_ne e q exo_tup),upd_ne (ne_of_none q hnd)];exact q,λc o v q=>by rw[upd_ne (at_ne e q exo_frz),upd_ne (ne_of_none q hnd)];exact q,
   λc ps q=>⟨#[],by rw[upd_ne (at_ne e q exo_tbl),upd_ne (ne_of_none q hnd),q];simp⟩⟩
 refine h dx _ hnd dne (I.un (t':=tk') U λc o q=>?_)
 by_cases hc:c=a
 ·subst hc
  rw[upd_same] at q
  cases q
  exact exo_ok hx
 ·rw[upd_ne hc] at q
  by_cases hd:c=dx
  ·subst hd
   rw[upd_same] at q
   cases q
   exact exd_ok hn (relO_put (fs:=[]) ry λg=>True.intro)
  ·rw[upd_ne hd] at q
   exact (I.hok c o q).stay (λc' v hc' z=>k c' v (by
     rcases hc' with hc'|hc'
     ·rw[hc']
      exact hc
     ·exact at_ne e hc' exo_own) z)
    (λc' hc'=>by rw[upd_ne (at_ne e hc' exo_own),upd_ne (ne_of_none hc' hnd)];exact hc') (λc' xs hc'=>by rw[upd_ne (at_ne e hc' exo_tup),upd_ne (ne_of_none hc' hnd)];exact hc')
theorem Ld(T:DR b X.K C)(I:L2.Inv X pins σ H s)(e:H a=some (exo a C (some dx)))(ed:H dx=some (exd dx fs))(hl:fs.length<=900)(hno:PySem.W.findIn X.K (.ref C) f=some none)(ry:RelV y u)
  (h:∀s',L2.Inv X pins σ (upd H dx (exd dx ((f,y)::fs))) s'->Q () s'):wpAny (model X.prog X.w) A (setAttr (.ref a) f u) Q E s:=by
 obtain⟨cd,hcl,hm,hh⟩:=T.cdata
 obtain⟨t1,ho⟩:=exo_at I.hok e
 obtain⟨mA,hns,rel⟩:=exd_at I.hok ed
 have hw:=within_of rel
 obtain⟨hp,g,d,t,os⟩:=s
 obtain⟨oD,_,_,hoD,_,_⟩:=hns.count hw
 refine PySem.W.set_plain I.kIn (ox:={ cls:=.ref C,dict:=some dx,data:=.fields #[.ref t1,.none,.none,.none,.bool false,.none] }) (od:=some oD) ⟨ho,rfl,rfl,hoD⟩ T.sa ?_
 refine KJ T.ok I.kIn ho hns hw (by rw[List.length_map];omega) hcl hm hh hno λh' tk' k hn=>?_
 exact h _ (I.write (t':=tk') (x:=dx) (e:=dx) (o:=exd dx ((f,y)::fs)) (by rw[ed];exact True.intro) (.inl rfl) k (by obtain⟨o,_,_,e',_⟩:=hn;exact⟨o,e'⟩) (exd_ok hn (relO_put ry rel)))
end
def aeY(b:du)(K:PySem.W.Frag)(f:Str)(to te:TE):TS:=λD σ H=>te σ H λy H1=>to σ H1 λx H2=>∃a C:Addr,x=.ref a/\DR b K C/\PySem.W.findIn K (.ref C) f=some none /\
 ((H2 a=some (exo a C none)/\∀dx,H2 dx=none->dx≠a->D.nx σ (upd (upd H2 dx (exd dx [(f,y)])) a (exo a C (some dx)))) \/
  ∃(dx:Addr) (fs:List (Str × V)),H2 a=some (exo a C (some dx))/\H2 dx=some (exd dx fs)/\fs.length<=900/\D.nx σ (upd H2 dx (exd dx ((f,y)::fs))))
theorem Hn{b:du}{X:Cx}{o e:Expr}{to te:TE}{f:Str}{p' pos:Pos}(ho:PE X o to)(he:PE X e te)(hs:swapsWith e (some (.Attribute o f p')) pos.line X.env=pure false):PS X (.Assign [.Attribute o f p'] e pos) (aeY b X.K f to te):=by
 refine⟨λpins s σ H D I h=>?_⟩
 refine plainObj_wpAny_Assign_Attribute (thn (he.run pins s σ H _ I h) λv s1 ⟨y,H1,I1,r1,q1⟩=>thn (ho.run pins s1 σ H1 _ I1 q1) λu s2 ⟨x,H2,I2,r2,a,C,ex,T,hno,q⟩=>?_) hs
 subst ex
 obtain rfl:u=Value.ref a:=r2
 rcases q with⟨ea,q⟩|⟨dx,fs,ea,ed,hl,q⟩
 ·exact O5 T I2 ea hno r1 λdx s' n ne J=>⟨σ,_,J,q dx n ne⟩
 ·exact Ld T I2 ea ed hl hno r1 λs' J=>⟨σ,_,J,q⟩
end Rc
namespace Rc
open PySem PySem.Spec L2 NdefX
open PyProof.Rows hiding St
structure RN(bb:du)(K:PySem.W.Frag)(P:Program)(C:Addr) where
 T:DR bb K C
 fI:Addr
 cda:Addr
 cc:Addr
 qual:Str
 fd:FuncData
 iC:PySem.W.findIn K (.ref C) "__init__" = some (some (.ref fI))
 tI:PySem.W.typeIn K (.ref fI)=some (.type "function")
 fO:∃oc od sl,K.lookup fI=some ⟨oc,od,.func fd,sl⟩
 cd:PySem.W.codeIn K (.ref cda) qual=true
 file:∃oc od vs sl fl tf,K.lookup cda=some ⟨oc,od,.fields vs,sl⟩/\vs[2]? = some (.str fl tf)/\((P.main.file:Str) == fl)=true
 cell:∃oc od sl,K.lookup cc=some ⟨oc,od,.cell (some (.ref C)),sl⟩
 sup:PySem.W.ks_superIn K C C "__init__" = some (some (.builtin bb.init))
 sub:PySem.W.subIn K (.ref C) (.type bb.B)=some true
 slf:PySem.W.mroIn K C (.ref C)=some true
 third:PySem.W.nsIn K cStatics "thirdparty.any" = some none
section
variable{prog:Program}{w:World}{A:Around}{E:Value->Shared->Prop}{h:Heap}{g:Array GenState}{d:Drawn}{t:Nat}{os:OsState}
variable{nm q:Str}{C N:Addr}{bs bm:List Value}{hdct:Bool}{sn:List Str}{sub:List Value}{ab:Bool}{col:Option Bool}{dd:Option Addr}{k0 k1 k2 k3 k5:Option Value}
theorem Gi{bb:du}(kb:eX bb){u e t0:Addr}{rest:List Value}{Q:Value->Shared->Prop}
  (hC:h.get? C=some (excClassObj nm q C N bs bm hdct sn sub ab col dd k0 k1 k2 k3 k5 bb.new)) (he:h.get? e=some (HandSPX.excO C t0)) (hu:h.get? u=some (PySem.W.kxs_mw bb.init e)) (hrest:rest.length<=sizeLine)
  (hq:∀h' t1,(∀b o,b≠e->h.get? b=some o->h'.get? b=some o)->h'.get? e=some (HandSPX.excO C t1)->Q .none ⟨h',g,d,t,os⟩) :
  wpAny (model prog w) A (call (.ref u) rest) Q E ⟨h,g,d,t,os⟩:=by
 refine wpAny_call (codeAny_of_tree ?_)
 show wpAny _ A.in1 (callAny (.ref u) ⟨rest,[]⟩) _ _ _
 simp only[callAny]
 refine wpAny_bind (wpAny_load hu ?_)
 have kind:(Value.type "method-wrapper" == Value.type "method" || Value.type "method-wrapper" == Value.type "builtin_function_or_method" || Value.type "method-wrapper" == Value.type "method-wrapper")=true:=by decide
 simp only[PySem.W.kxs_mw,kind,if_true]
 refine W.KFB.if_so (by decide) ?_
 refine wpAny_bind (ESX.check_bound kb.fac hC he rfl ?_)
 refine wpAny_bind (wpAny_pure (wpAny_pure ?_))
 refine⟨kb.quiet _,codeAny_builtin kb.fac.initEntry ?_⟩
 rw[Around.under_plainId kb.fac.init.plain _]
 wp_walk
 refine hq _ h.objs.size (λb o hb ho=>?_) ?_
 ·rw[Heap.get?_update_other _ _ (Ne.symm hb)]
  exact qQu _ ho
 ·rw[Heap.get?_update_self _ (qQu _ he) rfl]
  rfl
end
abbrev Mx(p:Nat->Pos):Expr:=.Call (.Name "super" (p 0)) [] [] (p 1)
abbrev nM(nm:Str)(p:Nat->Pos)(j:Nat->Nat):Expr:=.Call (.Attribute (Mx p) "__init__" (p 2)) [.Constant (.str nm) (j 0) (p 3)] [] (p 4)
structure Yc(nm g f:Str)(p:Nat->Pos)(j:Nat->Nat)(pl:Sem Bool):Prop where
 call:∀env,eval (nM nm p j) env=(do
   let ov <- attributeBase (Mx p) "__init__" env (eval (Mx p) env)
   standAt (p 2).atName
   let (f,first) <- holding [ov] (getMethod ov "__init__" pl)
   callWith (p 4) f first (backTo (p 4) (starEach [.Constant (.str nm) (j 0) (p 3)] env)) [])
 star:∀env,starEach [.Constant (.str nm) (j 0) (p 3)] env=(false,eval (.Constant (.str nm) (j 0) (p 3)) env)::starEach [] env
 s1:∀env,swapsWith (nM nm p j) none (p 5).line env=pure false
 s2:∀env,swapsWith (.Constant (.str nm) (j 1) (p 8)) (some (.Attribute (.Name "self" (p 6)) "code" (p 7))) (p 9).line env=pure false
 s3:∀env,swapsWith (.Name g (p 12)) (some (.Attribute (.Name "self" (p 10)) f (p 11))) (p 13).line env=pure false
def cH(nm g f:Str)(p:Nat->Pos)(j:Nat->Nat):List Stmt:=[
 .Expr (nM nm p j) (p 5),
 .Assign [.Attribute (.Name "self" (p 6)) "code" (p 7)] (.Constant (.str nm) (j 1) (p 8)) (p 9),
 .Assign [.Attribute (.Name "self" (p 10)) f (p 11)] (.Name g (p 12)) (p 13)]
def Ka(C:Addr)(nm f:Str):Sp:=λvs H Q E=>∃(a:Addr) (v:V),vs=[.ref a,v]/\H a=some (exo a C none) /\
 ∀dx,H dx=none->dx≠a->Q .non (upd (upd (upd H dx (exd dx [("code",.str nm)])) a (exo a C (some dx))) dx (exd dx [(f,v),("code",.str nm)]))
structure Pb(nm:Str)(p:Nat->Pos)(j:Nat->Nat)(pl:Sem Bool):Prop where
 call:∀env,eval (nM nm p j) env=(do
   let ov <- attributeBase (Mx p) "__init__" env (eval (Mx p) env)
   standAt (p 2).atName
   let (f,first) <- holding [ov] (getMethod ov "__init__" pl)
   callWith (p 4) f first (backTo (p 4) (starEach [.Constant (.str nm) (j 0) (p 3)] env)) [])
 star:∀env,starEach [.Constant (.str nm) (j 0) (p 3)] env=(false,eval (.Constant (.str nm) (j 0) (p 3)) env)::starEach [] env
 s1:∀env,swapsWith (nM nm p j) none (p 5).line env=pure false
 s2:∀env,swapsWith (.Constant (.str nm) (j 1) (p 8)) (some (.Attribute (.Name "self" (p 6)) "code" (p 7))) (p 9).line env=pure false
def oG(nm:Str)(p:Nat->Pos)(j:Nat->Nat):List Stmt:=[
 .Expr (nM nm p j) (p 5),
 .Assign [.Attribute (.Name "self" (p 6)) "code" (p 7)] (.Constant (.str nm) (j 1) (p 8)) (p 9)]
def EY(C:Addr)(nm:Str):Sp:=λvs H Q E=>∃a:Addr,vs=[.ref a]/\H a=some (exo a C none) /\
 ∀dx,H dx=none->dx≠a->Q .non (upd (upd H dx (exd dx [("code",.str nm)])) a (exo a C (some dx)))
section
variable{CX:CXT}{P:Program}{w:World}{K:PySem.W.Frag}{mg:Str->Option Value}{base:Heap}{C:Addr}{nm g f:Str}{params:Arguments}{scope:Scope}{p:Nat->Pos}{j:Nat->Nat}{k:Nat}{doc pm ctv:Value}
abbrev Dd(qual:Str)(params:Arguments)(body:List Stmt)(scope:Scope)(cc cda:Addr):NF:=⟨"__init__",qual,params,body,scope,[("__class__",cc)],cda⟩
theorem NT{bb:du}{pl:Sem Bool}(c:RN bb K P C)(tx:Yc nm g f p j pl)(hfd:c.fd=(Dd c.qual params (cH nm g f p j) scope c.cc c.cda).fd doc pm ctv)(S:NScope ["self",g,"__class__"] ["self",g] ["__class__"] scope)
  (hsu:scope.names.lookup ("super":Str)=some .globalImplicit) (hg1:(params.posonlyargs++params.args).head?.map (·.arg)=some ("self":Str)) (hmg:mg "super" = none) (htop:(P.main.scope.names.lookup ("super":Str)).isSome=false)
  (noC:PySem.W.findIn K (.ref C) "code" = some none) (noF:PySem.W.findIn K (.ref C) f=some none) (hd1:(g == ("__debug__":Str))=false) (hd2:(g == ("__classdict__":Str))=false) :
  FnOk P w K mg base CX (k+1) c.fI c.fd ["self",g] (Ka C nm f):=by
 refine⟨λvs H Q E q=>by obtain⟨a,v,rfl,_⟩:=q;rfl,λA outer s H args us vs Q E hr e0 hb r hsp=>?_⟩
 obtain⟨a,v,rfl,ha,hq⟩:=hsp
 have XK:K.In s.heap:=e0.mod.kin.keeps λb o e=>(e0.bs b o e).1
 have lim:s.heap.NoLimit:=e0.mod.nolimit.keeps λb o e=>(e0.bs b o e).1
 obtain⟨oc,od,sl,hfo⟩:=c.fO
 obtain⟨oc2,od2,vs2,sl2,fl,tf,hco,hvs,hfile⟩:=c.file
 obtain⟨oc3,od3,sl3,hcell⟩:=c.cell
 rw[hfd] at hfo hb
 have hs2:("self":Str)≠g:=λz=>by
  have q:=S.nd
  rw[<- z] at q
  simp at q
 cases r with
 | @cons _ u1 _ us1 r1 r' =>
 cases r' with
 | @cons _ u _ us2 ru r'' =>
 cases r''
 obtain rfl:u1=Value.ref a:=r1
 have Cc:CellsAt [("__class__",c.cc)] ["__class__"] [none] s.heap H:=by
  refine⟨rfl,λy cc e=>?_,λx y cc e1 e2=>?_,λi y e=>?_⟩
  ·have e:List.lookup y [("__class__",c.cc)]=some cc:=e
   rw[qQ3] at e
   split at e
   ·cases e
    exact⟨(e0.bs _ _ (e0.mod.kin _ _ hcell)).2,_,_,XK _ _ hcell,rfl⟩
   ·cases e
  ·have key:∀{z:Str}{b:Addr},List.lookup z [("__class__",c.cc)]=some b->z="__class__":=λ{z b} e=>by
    rw[qQ3] at e
    split at e
    ·rename_i q;exact eq_of_beq q
    ·cases e
   exact (key e1).trans (key e2).symm
  ·match i,e with
   | 0,e =>
    cases e
    exact⟨c.cc,rfl,λv e=>by cases e⟩
 refine ks_codeAny_call_defAt hr.depth (XK _ _ hfo) rfl lim (PySem.W.codeRec_of XK c.cd) rfl hb S.nocell (λ⟨n,_⟩ hy=>S.par n (List.of_mem_zip hy).1) (λh₁ hns kp=>?_) S.co S.gen S.kind
 let F:=Dd c.qual params (cH nm g f p j) scope c.cc c.cda
 let X:Cx:=ncx CX P w K mg base ["self",g,"__class__"] F c.fI A outer s H E
 have hr2:Vals [V.ref a,v] [Value.ref a,u]:=.cons rfl (.cons ru .nil)
 have I:L2.Inv X [] (startF ["self",g,"__class__"] [.ref a,v] [none]) H { s with heap:=h₁,toks:=s.toks+((["self",g]:List Str).zip [Value.ref a,u]).length }:=inv_startN (F:=F) S hr.hd e0 rfl hr2 Cc hns kp
 generalize s.toks+((["self",g]:List Str).zip [Value.ref a,u]).length=tk at I ⊢
 obtain⟨h0,g0,d0,t0,os0⟩:=s
 obtain⟨cn,cq,N,bs,bm,sn,sub,ab,col,dd,k0,k1,k2,k3,k5,hC,hbm⟩:=c.T.cls
 obtain⟨ar,har,hself⟩:∃ar,(params.posonlyargs++params.args).head? = some ar/\ar.arg="self":=by
  cases e:(params.posonlyargs++params.args).head? with
  | none=>rw[e] at hg1;cases hg1
  | some ar=>rw[e] at hg1;exact⟨ar,rfl,qQ5 hg1⟩
 have hKl:PySem.W.clsIn K C=some { name:=cn,bases:=bs,mro:=.ref C::bm,ns:=N,qualname:=cq,hasDict:=true,slotNames:=sn,subclasses:=sub,abstract:=ab,collection:=col,hasDel:=false }:=by unfold PySem.W.clsIn;rw[hC]
 have sm:=c.sup
 unfold PySem.W.ks_superIn at sm
 rw[hKl] at sm
 have XK1:K.In h₁:=I.kIn
 obtain⟨t1,hoa⟩:=exo_at I.hok ha
 have hint:∀{L:Addr},interactive (envF F c.fI L)=false:=λ{L}=>by
  show (scope.kind == .module&&_)=false
  rw[S.kind]
  rfl
 refine ks_wpAt_execs_cons (ks_wpAt_Expr_any (ks_wpAt_MethodCall ?_ (he:=tx.call _)) hint (tx.s1 _))
 refine ks_wpAt_super_base hsu (S.frk "__class__" (qQc ..)) (by decide) rfl (XK1 _ _ hfo) rfl har rfl (XK1 _ _ hco) rfl hvs hfile htop ?_
 obtain⟨mb,hmb1,hmb2⟩:=I.mod.blt
 refine PySem.W.ks_loadName_global S.kind hsu (Calls.loadGlobal_builtin (I.mod.glob.keeps I.bk) hmg (hmb1.keeps I.bk) ((hmb2 _ (by decide)).trans PyProof.Rows.Boot.«super») ⟨rfl,?_⟩)
 refine wpAny_loadName_free S.kind (S.frk "__class__" (qQc ..)) rfl ⟨_,XK1 _ _ hcell,rfl⟩ ?_
 rw[hself]
 refine wpAny_loadName_local S.kind (S.par "self" (qQc ..)) hns (v:=.ref a) (by
  show List.lookup _ [(g,u),(("self":Str),Value.ref a)]=_
  rw[qQ3,show (("self":Str) == g)=false by simpa using hs2]
  rfl) ?_
 refine ks_wpAny_isType_cls (XK1 _ _ hC) rfl ⟨rfl,?_⟩
 refine ks_wpAny_call_super (XK1 _ _ hC) rfl hoa rfl (λc e=>by cases e) (PySem.W.looks_mroIn XK1 c.slf) (λh2 e2 k2=>?_)
 have XK2:K.In h2:=XK1.keeps k2
 have hIn:PySem.W.Looks (model P w) h2 (isInstance (.ref a) (.type bb.B)) true:=by
  have ia:PySem.W.InstAt h2 a ({ cls:=.ref C,dict:=none,data:=.fields #[.ref t1,.none,.none,.none,.bool false,.none] }:Obj) C none:=⟨k2 _ _ hoa,rfl,rfl,trivial⟩
  exact ia.type.andThen (PySem.W.looks_subIn XK2 c.sub)
 have nac:a≠C:=λz=>by
  rw[z,XK1 _ _ hC] at hoa
  cases hoa
 refine PySem.W.kxs_getMethod c.T.ok.kx e2 (PySem.W.looks_opaque XK2 c.third) (l₀:=.ref C::bm) (λA Q E s k q=>wpAny_bind ((PySem.W.looks_clsIn XK2 hKl) A _ E s k (wpAny_pure q))) rfl XK2 sm hIn nac (by decide) ?_
 generalize hu:h2.objs.size=uu
 have k3:∀b o,h₁.get? b=some o->(h2.push (PySem.W.kxs_mw bb.init a)).get? b=some o:=λb o e=>qQu _ (k2 b o e)
 have I3:L2.Inv X [] (startF ["self",g,"__class__"] [.ref a,v] [none]) H ⟨h2.push (PySem.W.kxs_mw bb.init a),g0,d0,tk+1,os0⟩:=I.kept k3
 have hmw:(h2.push (PySem.W.kxs_mw bb.init a)).get? uu=some (PySem.W.kxs_mw bb.init a):=by rw[<- hu];exact Heap.get?_push_size _ rfl
 have hnu:h₁.get? uu=none:=by
  cases z:h₁.get? uu with
  | none=>rfl
  | some o=>exact absurd (Heap.lt_size (k2 _ _ z)) (by rw[hu];exact Nat.lt_irrefl _)
 have lu:h₁.objs.size<uu:=by rw[<- hu];exact Heap.lt_size e2
 have I4:L2.Inv X [(uu,PySem.W.kxs_mw bb.init a)] (startF ["self",g,"__class__"] [.ref a,v] [none]) H ⟨h2.push (PySem.W.kxs_mw bb.init a),g0,d0,tk+1,os0⟩:=by
  refine I3.pins_of λq hq=>?_
  obtain rfl:=qQk.mp hq
  refine⟨hmw,I.hok.fresh (Nat.le_of_lt lu),λz=>?_,I.nofs (Nat.le_of_lt lu),λv z=>by cases z⟩
  have z:uu=X.env.locals:=z
  have ql:=I.lt
  rw[<- z] at ql
  exact Nat.lt_irrefl _ (Nat.lt_trans lu ql)
 have pa:PA X [.Constant (.str nm) (j 0) (p 3)] (tCons (tC (.str nm)) tNil):=pa_cons pe_str pa_nil
 have st0:=tx.star X.env
 have run:=pa.run (p 4) [(uu,PySem.W.kxs_mw bb.init a)] _ _ H (λvs H1=>vs=[V.str nm]/\H=H1) I4 ⟨rfl,rfl⟩
 rw[st0] at run
 show wpAny _ _ (callWith (p 4) (.ref uu) [] (backTo (p 4) (starEach [.Constant (.str nm) (j 0) (p 3)] X.env)) []) _ _ _
 rw[st0]
 refine PySem.W.kxs_callWith (i:=bb.init) (x:=a) rfl (Calls.evalArgs_plain (thn run λus s1 hh=>?_))
 obtain⟨vs1,H1,I5,r5,ev,eH⟩:=hh
 subst ev
 rw[<- eH] at I5
 obtain⟨h5,g5,d5,t5,os5⟩:=s1
 have hmw5:=(I5.pin _ (qQv _ (qQk.mpr rfl))).1
 refine⟨hmw5,?_⟩
 obtain⟨t6,hoa5⟩:=exo_at I5.hok ha
 have hlen:us.length<=sizeLine:=by
  rw[<- Paired.length r5,sizeLine_eq]
  exact (by decide:1<=16777216)
 refine Gi c.T.ok (t0:=t6) (I5.kIn _ _ hC) hoa5 hmw5 hlen λh7 t7 k7 hx7=>?_
 have J:L2.Inv X [] (startF ["self",g,"__class__"] [.ref a,v] [none]) H ⟨h7,g5,d5,t5,os5⟩:=by
  have J0:=(I5.pins_of (pins':=[]) λq hq=>by cases hq).write (t':=t5) (x:=a) (e:=a) (o:=exo a C none) (by rw[ha];exact True.intro) (.inl rfl) k7 ⟨_,hx7⟩ (exo_ok hx7)
  have eu:upd H a (exo a C none)=H:=by
   funext b
   by_cases hb:b=a
   ·rw[hb,upd_same,ha]
   ·rw[upd_ne hb]
  rw[eu] at J0
  exact J0
 have v0:Vis X.env.scope "self":=.inl (S.par "self" (qQc ..))
 have v1:Vis X.env.scope g:=.inl (S.par g (qQd _ (qQc ..)))
 have two:=pss_cons (Hn (b:=bb) (X:=X) (f:="code") (pe_var (i:=0) rfl v0) (pe_str (x:=nm) (j:=j 1) (pos:=p 8)) (tx.s2 _)) (pss_cons (Hn (b:=bb) (X:=X) (f:=f) (pe_var (i:=0) rfl v0) (pe_var (i:=1) rfl v1 hd1 hd2) (tx.s3 _)) pss_nil)
 have fin:=two.run [] _ _ H { nx:=λ_ H'=>Q .non H',rt:=Q } J ⟨.ref a,rfl,a,C,rfl,c.T,noC,.inl ⟨ha,λdx hn ne =>
  ⟨v,rfl,.ref a,rfl,a,C,rfl,c.T,noF,.inr ⟨dx,[("code",.str nm)],upd_same,(upd_ne ne).trans upd_same,by simp,hq dx hn ne⟩⟩⟩⟩
 refine wpAt_of_wpAny (wpAny_mono fin (λfl s' hs=>?_) λe s' hs=>hs)
 have done:∀{σ':L2.St}{H':Hp}{y:V}{z:Value},L2.Inv X [] σ' H' s'->L2.RelV y z->Q y H'->CE outer P w H ⟨h0,g0,d0,t0,os0⟩ Q z s' :=
  λ{σ' H' y z} J rv q=>⟨y,H',J.os,J.bare,J.base,J.hok,rv,q⟩
 cases fl with
 | ret z =>
  obtain⟨y,σ',H',J,rv,q⟩:=hs
  exact done J rv q
 | next =>
  obtain⟨σ',H',J,q⟩:=hs
  exact done (y:=V.non) (z:=Value.none) J rfl q
 | brk =>
  obtain⟨_,_,_,q⟩:=hs
  exact False.elim q
 | cont =>
  obtain⟨_,_,_,q⟩:=hs
  exact False.elim q
theorem Q3{bb:du}{pl:Sem Bool}(c:RN bb K P C)(tx:Pb nm p j pl)(hfd:c.fd=(Dd c.qual params (oG nm p j) scope c.cc c.cda).fd doc pm ctv)(S:NScope ["self","__class__"] ["self"] ["__class__"] scope)
  (hsu:scope.names.lookup ("super":Str)=some .globalImplicit) (hg1:(params.posonlyargs++params.args).head?.map (·.arg)=some ("self":Str)) (hmg:mg "super" = none) (htop:(P.main.scope.names.lookup ("super":Str)).isSome=false)
  (noC:PySem.W.findIn K (.ref C) "code" = some none) :
  FnOk P w K mg base CX (k+1) c.fI c.fd ["self"] (EY C nm):=by
 refine⟨λvs H Q E q=>by obtain⟨a,rfl,_⟩:=q;rfl,λA outer s H args us vs Q E hr e0 hb r hsp=>?_⟩
 obtain⟨a,rfl,ha,hq⟩:=hsp
 have XK:K.In s.heap:=e0.mod.kin.keeps λb o e=>(e0.bs b o e).1
 have lim:s.heap.NoLimit:=e0.mod.nolimit.keeps λb o e=>(e0.bs b o e).1
 obtain⟨oc,od,sl,hfo⟩:=c.fO
 obtain⟨oc2,od2,vs2,sl2,fl,tf,hco,hvs,hfile⟩:=c.file
 obtain⟨oc3,od3,sl3,hcell⟩:=c.cell
 rw[hfd] at hfo hb
 cases r with
 | @cons _ u1 _ us1 r1 r' =>
 cases r'
 obtain rfl:u1=Value.ref a:=r1
 have Cc:CellsAt [("__class__",c.cc)] ["__class__"] [none] s.heap H:=by
  refine⟨rfl,λy cc e=>?_,λx y cc e1 e2=>?_,λi y e=>?_⟩
  ·have e:List.lookup y [("__class__",c.cc)]=some cc:=e
   rw[qQ3] at e
   split at e
   ·cases e
    exact⟨(e0.bs _ _ (e0.mod.kin _ _ hcell)).2,_,_,XK _ _ hcell,rfl⟩
   ·cases e
  ·have key:∀{z:Str}{b:Addr},List.lookup z [("__class__",c.cc)]=some b->z="__class__":=λ{z b} e=>by
    rw[qQ3] at e
    split at e
    ·rename_i q;exact eq_of_beq q
    ·cases e
   exact (key e1).trans (key e2).symm
  ·match i,e with
   | 0,e =>
    cases e
    exact⟨c.cc,rfl,λv e=>by cases e⟩
 refine ks_codeAny_call_defAt hr.depth (XK _ _ hfo) rfl lim (PySem.W.codeRec_of XK c.cd) rfl hb S.nocell (λ⟨n,_⟩ hy=>S.par n (List.of_mem_zip hy).1) (λh₁ hns kp=>?_) S.co S.gen S.kind
 let F:=Dd c.qual params (oG nm p j) scope c.cc c.cda
 let X:Cx:=ncx CX P w K mg base ["self","__class__"] F c.fI A outer s H E
 have hr2:Vals [V.ref a] [Value.ref a]:=.cons rfl .nil
 have I:L2.Inv X [] (startF ["self","__class__"] [.ref a] [none]) H { s with heap:=h₁,toks:=s.toks+((["self"]:List Str).zip [Value.ref a]).length }:=inv_startN (F:=F) S hr.hd e0 rfl hr2 Cc hns kp
 generalize s.toks+((["self"]:List Str).zip [Value.ref a]).length=tk at I ⊢
 obtain⟨h0,g0,d0,t0,os0⟩:=s
 obtain⟨cn,cq,N,bs,bm,sn,sub,ab,col,dd,k0,k1,k2,k3,k5,hC,hbm⟩:=c.T.cls
 obtain⟨ar,har,hself⟩:∃ar,(params.posonlyargs++params.args).head? = some ar/\ar.arg="self":=by
  cases e:(params.posonlyargs++params.args).head? with
  | none=>rw[e] at hg1;cases hg1
  | some ar=>rw[e] at hg1;exact⟨ar,rfl,qQ5 hg1⟩
 have hKl:PySem.W.clsIn K C=some { name:=cn,bases:=bs,mro:=.ref C::bm,ns:=N,qualname:=cq,hasDict:=true,slotNames:=sn,subclasses:=sub,abstract:=ab,collection:=col,hasDel:=false }:=by unfold PySem.W.clsIn;rw[hC]
 have sm:=c.sup
 unfold PySem.W.ks_superIn at sm
 rw[hKl] at sm
 have XK1:K.In h₁:=I.kIn
 obtain⟨t1,hoa⟩:=exo_at I.hok ha
 have hint:∀{L:Addr},interactive (envF F c.fI L)=false:=λ{L}=>by
  show (scope.kind == .module&&_)=false
  rw[S.kind]
  rfl
 refine ks_wpAt_execs_cons (ks_wpAt_Expr_any (ks_wpAt_MethodCall ?_ (he:=tx.call _)) hint (tx.s1 _))
 refine ks_wpAt_super_base hsu (S.frk "__class__" (qQc ..)) (by decide) rfl (XK1 _ _ hfo) rfl har rfl (XK1 _ _ hco) rfl hvs hfile htop ?_
 obtain⟨mb,hmb1,hmb2⟩:=I.mod.blt
 refine PySem.W.ks_loadName_global S.kind hsu (Calls.loadGlobal_builtin (I.mod.glob.keeps I.bk) hmg (hmb1.keeps I.bk) ((hmb2 _ (by decide)).trans PyProof.Rows.Boot.«super») ⟨rfl,?_⟩)
 refine wpAny_loadName_free S.kind (S.frk "__class__" (qQc ..)) rfl ⟨_,XK1 _ _ hcell,rfl⟩ ?_
 rw[hself]
 refine wpAny_loadName_local S.kind (S.par "self" (qQc ..)) hns (v:=.ref a) (by
  rfl) ?_
 refine ks_wpAny_isType_cls (XK1 _ _ hC) rfl ⟨rfl,?_⟩
 refine ks_wpAny_call_super (XK1 _ _ hC) rfl hoa rfl (λc e=>by cases e) (PySem.W.looks_mroIn XK1 c.slf) (λh2 e2 k2=>?_)
 have XK2:K.In h2:=XK1.keeps k2
 have hIn:PySem.W.Looks (model P w) h2 (isInstance (.ref a) (.type bb.B)) true:=by
  have ia:PySem.W.InstAt h2 a ({ cls:=.ref C,dict:=none,data:=.fields #[.ref t1,.none,.none,.none,.bool false,.none] }:Obj) C none:=⟨k2 _ _ hoa,rfl,rfl,trivial⟩
  exact ia.type.andThen (PySem.W.looks_subIn XK2 c.sub)
 have nac:a≠C:=λz=>by
  rw[z,XK1 _ _ hC] at hoa
  cases hoa
 refine PySem.W.kxs_getMethod c.T.ok.kx e2 (PySem.W.looks_opaque XK2 c.third) (l₀:=.ref C::bm) (λA Q E s k q=>wpAny_bind ((PySem.W.looks_clsIn XK2 hKl) A _ E s k (wpAny_pure q))) rfl XK2 sm hIn nac (by decide) ?_
 generalize hu:h2.objs.size=uu
 have k3:∀b o,h₁.get? b=some o->(h2.push (PySem.W.kxs_mw bb.init a)).get? b=some o:=λb o e=>qQu _ (k2 b o e)
 have I3:L2.Inv X [] (startF ["self","__class__"] [.ref a] [none]) H ⟨h2.push (PySem.W.kxs_mw bb.init a),g0,d0,tk+1,os0⟩:=I.kept k3
 have hmw:(h2.push (PySem.W.kxs_mw bb.init a)).get? uu=some (PySem.W.kxs_mw bb.init a):=by rw[<- hu];exact Heap.get?_push_size _ rfl
 have hnu:h₁.get? uu=none:=by
  cases z:h₁.get? uu with
  | none=>rfl
  | some o=>exact absurd (Heap.lt_size (k2 _ _ z)) (by rw[hu];exact Nat.lt_irrefl _)
 have lu:h₁.objs.size<uu:=by rw[<- hu];exact Heap.lt_size e2
 have I4:L2.Inv X [(uu,PySem.W.kxs_mw bb.init a)] (startF ["self","__class__"] [.ref a] [none]) H ⟨h2.push (PySem.W.kxs_mw bb.init a),g0,d0,tk+1,os0⟩:=by
  refine I3.pins_of λq hq=>?_
  obtain rfl:=qQk.mp hq
  refine⟨hmw,I.hok.fresh (Nat.le_of_lt lu),λz=>?_,I.nofs (Nat.le_of_lt lu),λv z=>by cases z⟩
  have z:uu=X.env.locals:=z
  have ql:=I.lt
  rw[<- z] at ql
  exact Nat.lt_irrefl _ (Nat.lt_trans lu ql)
 have pa:PA X [.Constant (.str nm) (j 0) (p 3)] (tCons (tC (.str nm)) tNil):=pa_cons pe_str pa_nil
 have st0:=tx.star X.env
 have run:=pa.run (p 4) [(uu,PySem.W.kxs_mw bb.init a)] _ _ H (λvs H1=>vs=[V.str nm]/\H=H1) I4 ⟨rfl,rfl⟩
 rw[st0] at run
 show wpAny _ _ (callWith (p 4) (.ref uu) [] (backTo (p 4) (starEach [.Constant (.str nm) (j 0) (p 3)] X.env)) []) _ _ _
 rw[st0]
 refine PySem.W.kxs_callWith (i:=bb.init) (x:=a) rfl (Calls.evalArgs_plain (thn run λus s1 hh=>?_))
 obtain⟨vs1,H1,I5,r5,ev,eH⟩:=hh
 subst ev
 rw[<- eH] at I5
 obtain⟨h5,g5,d5,t5,os5⟩:=s1
 have hmw5:=(I5.pin _ (qQv _ (qQk.mpr rfl))).1
 refine⟨hmw5,?_⟩
 obtain⟨t6,hoa5⟩:=exo_at I5.hok ha
 have hlen:us.length<=sizeLine:=by
  rw[<- Paired.length r5,sizeLine_eq]
  exact (by decide:1<=16777216)
 refine Gi c.T.ok (t0:=t6) (I5.kIn _ _ hC) hoa5 hmw5 hlen λh7 t7 k7 hx7=>?_
 have J:L2.Inv X [] (startF ["self","__class__"] [.ref a] [none]) H ⟨h7,g5,d5,t5,os5⟩:=by
  have J0:=(I5.pins_of (pins':=[]) λq hq=>by cases hq).write (t':=t5) (x:=a) (e:=a) (o:=exo a C none) (by rw[ha];exact True.intro) (.inl rfl) k7 ⟨_,hx7⟩ (exo_ok hx7)
  have eu:upd H a (exo a C none)=H:=by
   funext b
   by_cases hb:b=a
   ·rw[hb,upd_same,ha]
   ·rw[upd_ne hb]
  rw[eu] at J0
  exact J0
 have v0:Vis X.env.scope "self":=.inl (S.par "self" (qQc ..))
 have two:=pss_cons (Hn (b:=bb) (X:=X) (f:="code") (pe_var (i:=0) rfl v0) (pe_str (x:=nm) (j:=j 1) (pos:=p 8)) (tx.s2 _)) pss_nil
 have fin:=two.run [] _ _ H { nx:=λ_ H'=>Q .non H',rt:=Q } J ⟨.ref a,rfl,a,C,rfl,c.T,noC,.inl ⟨ha,λdx hn ne=>hq dx hn ne⟩⟩
 refine wpAt_of_wpAny (wpAny_mono fin (λfl s' hs=>?_) λe s' hs=>hs)
 have done:∀{σ':L2.St}{H':Hp}{y:V}{z:Value},L2.Inv X [] σ' H' s'->L2.RelV y z->Q y H'->CE outer P w H ⟨h0,g0,d0,t0,os0⟩ Q z s' :=
  λ{σ' H' y z} J rv q=>⟨y,H',J.os,J.bare,J.base,J.hok,rv,q⟩
 cases fl with
 | ret z =>
  obtain⟨y,σ',H',J,rv,q⟩:=hs
  exact done J rv q
 | next =>
  obtain⟨σ',H',J,q⟩:=hs
  exact done (y:=V.non) (z:=Value.none) J rfl q
 | brk =>
  obtain⟨_,_,_,q⟩:=hs
  exact False.elim q
 | cont =>
  obtain⟨_,_,_,q⟩:=hs
  exact False.elim q
end
end Rc
namespace Rc
open PySem PySem.Spec L2
open PyProof.Rows hiding St
section
variable{X:Cx}{CX:CXT}{x:Str}{e:Expr}{es:List Expr}{ta:TA}{p pos:Pos}{C fI:Addr}{k:Nat}{fd:FuncData}{ps:List Str}{sp:Sp}
theorem Lg{b:du}(T:DR b X.K C)(iC:PySem.W.findIn X.K (.ref C) "__init__" = some (some (.ref fI)))(tI:PySem.W.typeIn X.K (.ref fI)=some (.type "function"))
  (F1:FnOk X.prog X.w X.K X.mg X.base CX k fI fd ps sp) (hr:Room (k+1) X.A) (hb:Binds X.K fd ps []) (hx:Passes CX X (λ_ _ _=>False)) (hg:Gl X x) (hm:X.mg x=some (.ref C)) (ha:PA X (e::es) ta)
  (hdb:(x == ("__debug__":Str))=false) (he:starEach (e::es) X.env=(false,eval e X.env)::starEach es X.env) (hpl:(backTo pos (starEach es X.env)).any (·.1)=false) :
  L2N.PMk X (.Call (.Name x p) (e::es) [] pos) (tMkO C sp [] ta):=by
 intro pins s σ H Q I h
 obtain⟨nm,q,N,bs,bm,sn,sub,ab,col,dd,k0,k1,k2,k3,k5,hC,hbm⟩:=T.cls
 refine wpAny_Call_Name_kw (ld_glob I hg hm ?_ hdb)
 refine PySem.W.callWith_K (h₀:=X.base) I.ok.mod.kin T.kC (thn (ha.run pos pins s σ H _ I h) λus s1 ⟨vs,H1,I1,r1,hz,q1⟩=>⟨I1.kIn,?_⟩) he hpl
 show wpAny _ _ (call (.ref C) us) _ _ _
 obtain⟨hp,g,dr,tk,os⟩:=s1
 let hh:Heap:=(hp.push (PySem.W.kdv_tup us)).push (PySem.HandSPX.excO C hp.objs.size)
 let a:Addr:=hp.objs.size+1
 have hsz:hp.objs.size<=a:=Nat.le_succ _
 have hq:=q1 a (I1.hok.fresh hsz)
 have kk:∀b o,hp.get? b=some o->hh.get? b=some o:=λb o z=>qQu _ (qQu _ z)
 have hget:hh.get? a=some (PySem.HandSPX.excO C hp.objs.size):=by
  show ((hp.push (PySem.W.kdv_tup us)).push (PySem.HandSPX.excO C hp.objs.size)).get? (hp.objs.size+1)=_
  heap_get
 have I2:L2.Inv X pins σ (upd H1 a (exo a C none)) ⟨hh,g,dr,tk,os⟩:=I1.laid (t':=tk) kk hsz (exo_ok hget)
 have r2:Vals (V.ref a::(vs++[])) (Value.ref a::us):=.cons rfl (by rw[qQy];exact r1)
 have hl:(Value.ref a::us++[]).length=ps.length:=by
  rw[qQy,<- r2.length]
  exact F1.len _ _ _ _ hq
 have hus:us.length<=sizeLine:=by
  rw[<- Paired.length r1,sizeLine_eq]
  omega
 have hb2:=hb ⟨hh,g,dr,tk,os⟩ (Value.ref a::us) I2.kIn hl
 rw[qQy] at hb2
 have walk:=F1.run (X.A.under (.builtin "type.__call__" ⟨.ref C::us,[]⟩)) X.stack _ _ ⟨Value.ref a::us,[]⟩ (Value.ref a::us) _ _ (λ_ _ _=>False) (hr.make C us []) (I2.env0.make C us []) hb2 r2 hq
 refine wpAny_call (PySem.HandSPX.call_own T.ok.fac (λY=>T.ok.has Y bm hbm) (I1.kIn _ _ hC) (PySem.W.looks_findIn I1.kIn iC) (λself=>PySem.W.bind_fn I1.kIn self tI) hus (codeAny_mono walk λr s' hq'=>?_))
 match r,hq' with
 | .error er,hq'=>exact hx pins σ _ _ er s' I2 hq'
 | .ok .next,hq'=>exact False.elim hq'
 | .ok .brk,hq'=>exact False.elim hq'
 | .ok .cont,hq'=>exact False.elim hq'
 | .ok (.ret u),hq' =>
  obtain⟨v,H2,os2,bare2,un2,hok2,rv,ev,d,fs,ea,ed,hd1,q2⟩:=hq'
  subst ev
  obtain⟨h2,g2,d2,t2,os'⟩:=s'
  obtain⟨t0,G,J,kG,ge,hoe,na⟩:=mk_end0 (d2:=d2) (t2:=t2) I1 hsz kk un2 hok2 os2 bare2 ea ed hd1
  exact⟨rv,a,_,_,⟨G,g2,d2,t2,os'⟩,_,.ref C,some d,rfl,J,kG,ge,hoe,⟨rfl,rfl,λvs hv=>by cases hv;rfl⟩,rfl,rfl,na,rfl,bare2,raises_own T.exC T.tyC,q2⟩
end
def cU(b:du)(x g f code:Str):dI:=λP w K mg base k=>∃c:RN b K P (He.ga K x),mg x=some (.ref (He.ga K x))/\(∃j,j+1<=k/\FnOk P w K mg base (L2N.CX P w) j c.fI c.fd ["self",g] (Ka (He.ga K x) code f))/\Binds K c.fd ["self",g] []
def Nv(x f code:Str):List OV->Sl->Mem->SR
 | [.v v],s,m=>.ex x [f,"code"] [v,.str code] s m
 | _,_,_=>.stuck
theorem Dt{x f code:Str}{v:OV}{s:Sl}{m:Mem}(h:¬ Nv x f code [v] s m=.stuck):∃y,v=.v y:=by
 cases v with
 | v y=>exact⟨y,rfl⟩
 | b o=>exact absurd rfl h
def Qq(bs:du)(x g f code:Str):Et where
 need:=[cU bs x g f code]
 parts:=λc st=>match st with
  | .Raise (some (.Call (.Name y _) [e] [] _)) none _=>if (decide (y=x)&&gbB c x&&cR e&&c.calm)=true then some [e] else none
  | _=>none
 F:=Nv x f code
 ok:=λ{k W c X e es fs} ok nd ht hk h p g0 H0=>by
  split at h <;> try contradiction
  split at h <;> cases h
  rename_i hb
  simp only[qQb,qQs] at hb
  obtain⟨⟨⟨rfl,h3⟩,h4⟩,h5⟩:=hb
  obtain⟨c0,hm,⟨j,hj,F1⟩,hbi⟩:=nd _ (qQc ..)
  obtain⟨hg,hdb,_⟩:=ok.gl h3
  obtain⟨fa,e1,e2⟩:=p.s1
  refine (L2N.ps_raise (ok.calm h5) ok.tk (Lg c0.T c0.iC c0.tI F1 ((ok.room (qQ2 (Nat.succ_pos j) hj)).mono hj) hbi (λpins σ H s e s' I z=>L2N.passes_call (W:=W) ok.tk (λ_ _ _ _ z=>z.elim) pins σ H s e s' I z) hg hm (pa_cons e1 pa_nil (hs:=dH h4)) hdb (dH h4) rfl)).weaken λD σ H q=>?_
  obtain⟨g,s,m,R,z,pp⟩:=Mq q
  rw[e2] at pp
  refine⟨g,s,m,R.rs,R.rl,(bY.bind R pp).imp λv H1 ⟨x1,g1,m1,rs1,st1,r1,p1⟩=>?_⟩
  have R1:=R.step rs1 st1
  obtain⟨y,rfl⟩:=Dt p1.ns
  refine⟨by simp,λa na=>⟨a,v,rfl,upd_same,λdx hdx ne=>⟨rfl,dx,_,(upd_ne (Ne.symm ne)).trans upd_same,upd_same,?_,?_⟩⟩⟩
  ·rw[upd_ne ne] at hdx
   exact hdx
  ·rw[upd_ne ne] at hdx
   obtain⟨rs2,st2⟩:=rs1.freeze (o:=.xd [(f,v),("code",.str code)]) hdx
   have eH:∀(o1 o2 o3 o4:HO),upd (del (upd (upd (upd (upd H1 a o1) dx o2) a o3) dx o4) a) dx (.xd [(f,v),("code",.str code)])=upd H1 dx (.xd [(f,v),("code",.str code)]):=λo1 o2 o3 o4=>by
    funext b
    by_cases hb:b=dx
    ·rw[hb,upd_same,upd_same]
    ·rw[upd_ne hb,upd_ne hb]
     by_cases hba:b=a
     ·rw[hba,del_same,na]
     ·rw[del_ne hba,upd_ne hb,upd_ne hba,upd_ne hb,upd_ne hba]
   rw[eH]
   exact p1 _ _ _ σ _ (R1.step rs2 st2) st2.fle ⟨dx,_,rfl,rfl,upd_same,rfl,v,_,rfl,RV.st (show RV X.ki g1 y v from r1) st2,_,_,rfl,rfl,rfl⟩
abbrev yq(x g f code:Str):Et:=Qq bVE x g f code
end Rc
namespace Rc
open PySem PySem.Spec L2 L2H
open PyProof.Rows hiding St
def YL(cs:List Str)(f:Str)(x:OV)(m:Mem):R OV:=match x with
 | .v (.exn c ks xs)=>if c∈cs then (match dX ks xs f with
  | some y=>.ok (.v y) m
  | none=>.stuck) else .stuck
 | _=>.stuck
def aA(f:Str)(c:Str):dI:=λP w K mg base k=>XfC K (He.ga K c)/\PySem.W.findIn K (.ref (He.ga K c)) f=some none
def tXv(K:Ki)(f:Str)(te:TE):TE:=fun σ H Q=>te σ H λx H1=>∃(a dd:Addr) (φ:Heap->Prop) (c:Str) (fs:List (Str × V)) (v:V),x=.ref a/\H1 a=some (.ext φ)/\Zu K c dd a φ/\XfC K.K (K.ga c)/\PySem.W.findIn K.K (.ref (K.ga c)) f=some none /\
 H1 dd=some (.xd fs)/\fs.lookup f=some v/\Q v H1
theorem Tj{X:Cx}{e:Expr}{te:TE}{pos:Pos}{f:Str}(he:PE X e te)(hb:attributeBase e f X.env (eval e X.env)=eval e X.env):PE X (.Attribute e f pos) (tXv X.ki f te):=by
 refine⟨λpins s σ H Q I h=>?_⟩
 refine attr_of hb (thn (he.run pins s σ H _ I h) λu s1 ⟨x,H1,I1,rx,a,dd,φ,c,fs,v,ex,ea,ho,T,hno,ed,l,q⟩=>?_)
 subst ex
 obtain rfl:u=Value.ref a:=rx
 have z:ObjOk X.prog X.w H1 s1.heap a (.ext φ):=I1.hok a _ ea
 obtain⟨oe,vs,h1,h2,h3,h4⟩:=ho s1.heap z.1
 obtain⟨mA,hns,hr⟩:=(show ObjOk X.prog X.w H1 s1.heap dd (.xd fs) from I1.hok dd _ ed)
 obtain⟨od,h5,h6⟩:=lookIn_ns hns
 obtain⟨u,hu,ru⟩:=RelO.some_of (v:=v) (o:=mA f) (by rw[<- l];exact hr f)
 have J:PySem.W.InstAt s1.heap a oe (X.ki.ga c) (some od):=⟨h1,h2,by unfold PySem.W.notCls;rw[h4],by rw[h3];exact h5⟩
 exact HandSPX.exc_get I1.kIn J T.ga T.gg T.exC (PySem.W.findObj_own T.hdC hno rfl (by rw[h6,hu])) (handed_of ru) ⟨v,H1,I1.tok _,ru,q⟩
def pXf(cs:List Str)(f:Str):o9 where
 need:=cs.map (aA f)
 parts:=λc e=>match e with
  | .Attribute o n _=>if (decide (n=f)&&Jm o)=true then some [o] else none
  | _=>none
 F:=F1 (YL cs f)
 ok:=λ{k W c X e es fs} ok nd h p=>by
  split at h <;> try contradiction
  split at h <;> cases h
  rename_i hb
  simp only[qQb,qQs] at hb
  obtain⟨rfl,h2⟩:=hb
  obtain⟨fa,e1,e3⟩:=p.f1 (f:=YL cs _)
  rw[e3]
  refine (Tj e1 (attrS h2)).weaken fun σ H Q q=>?_
  obtain⟨g,s,m,rs,rl,pp⟩:=q
  refine⟨g,s,m,rs,rl,(dG.bind pp).imp λv H1 ⟨x,g1,m1,rs1,st1,r1,p1⟩=>?_⟩
  unfold YL at p1
  split at p1
  ·rename_i c ks xs
   obtain⟨a,dd,φ,fs',rfl,h3,h4,h5,rfl,h6⟩:=(show RV X.ki g1 (.exn c ks xs) v from r1)
   split at p1
   ·rename_i hc
    split at p1
    ·rename_i y ey
     obtain⟨v1,l1,r2⟩:=vO h6 ey
     obtain⟨T,hno⟩:=nd _ (qQh.mpr ⟨c,hc,rfl⟩)
     exact⟨a,dd,φ,c,fs',v1,rfl,rs1.sub _ _ h3,h4,T,hno,rs1.sub _ _ h5,l1,p1 g1 v1 H1 rs1 (Stp.refl _ _) r2⟩
    ·exact p1.elim
   ·exact p1.elim
  ·exact p1.elim
section
variable{P:Program}{w:World}{K:PySem.W.Frag}{mg:Str->Option Value}{base:Heap}{k:Nat}{f:Addr}{fd:FuncData}{qual:Str}{params:Arguments}{body:List Stmt}{scope:Scope}{dvs:List V}{kwd:List (Str × V)}{N:List Str}{gA:List Str}{cst:List (Str × MV)}{x:Str}
end
end Rc
namespace Rc
open PySem PySem.Spec L2 LamX
open PyProof.Rows hiding St
def adt(X:Cx)(A:Around)(outer:List Env)(s:Shared)(H:Hp)(E:XK)(scope:Scope)(f c':Addr):Cx :=
 (lamCx X A outer s H E scope f c').tr [] λe s'=>wpAny (model X.prog X.w) (A.deeper (lamEnv X scope s.heap.objs.size f c')) (leaving (lamEnv X scope s.heap.objs.size f c') e) (λ_ s''=>L2N.CX X.prog X.w outer H s E e s'') (λe' s''=>L2N.CX X.prog X.w outer H s E e' s'') s'
section
variable{X:Cx}{pins:List (Addr × Obj)}{σ:L2.St}{H:Hp}{s:Shared}
end
end Rc
namespace Rc
open PySem PySem.Spec L2 L2H
open PyProof.Rows hiding St
mutual
def cl:MV->Bool
 | .ref _=>false
 | .exn _ _ _=>false
 | .tup xs=>yS xs
 | .lst xs=>yS xs
 | .kl xs=>yS xs
 | .ins _ _ xs=>yS xs
 | .dic ks xs=>yS ks&&yS xs
 | .dit _ _=>false
 | _=>true
def yS:List MV->Bool
 | []=>true
 | x::xs=>cl x&&yS xs
end
def Tt(o:HO):Prop:=∀φ,o≠.ext φ
theorem SqT.cl{K:Ki}{F F':Hp}{a:Addr}{xs:List V}(e:∀b o,F b=some o->Tt o->F' b=some o)(h:SqT K F a xs):SqT K F' a xs:=by
 rcases h with (h|⟨o,h⟩)|h
 ·exact .inl (.inl (e _ _ h fun φ z=>by cases z))
 ·exact .inl (.inr ⟨o,e _ _ h fun φ z=>by cases z⟩)
 ·exact .inr h
theorem SqL.cl{K:Ki}{F F':Hp}{a:Addr}{xs:List V}(e:∀b o,F b=some o->Tt o->F' b=some o)(h:SqL K F a xs):SqL K F' a xs:=by
 rcases h with (h|⟨o,h⟩)|h
 ·exact .inl (.inl (e _ _ h fun φ z=>by cases z))
 ·exact .inl (.inr ⟨o,e _ _ h fun φ z=>by cases z⟩)
 ·exact .inr h
mutual
theorem RV.cl{K:Ki}{g g':G}(hF:∀b o,g.F b=some o->Tt o->g'.F b=some o):∀(x:MV) {v:V},Rc.cl x=true->RV K g x v->RV K g' x v
 | .non,_,_,h=>h
 | .bl _,_,_,h=>h
 | .int _,_,_,h=>h
 | .str _,_,_,h=>h
 | .tup xs,_,c,⟨a,ys,e,q,r⟩=>⟨a,ys,e,SqT.cl hF q,RVs.cl hF xs c r⟩
 | .lst xs,_,c,⟨a,ys,e,q,r⟩=>⟨a,ys,e,hF _ _ q (fun φ z=>by cases z),RVs.cl hF xs c r⟩
 | .kl xs,_,c,⟨a,ys,e,q,r⟩=>⟨a,ys,e,SqL.cl hF q,RVs.cl hF xs c r⟩
 | .ref n,_,c,_=>by cases c
 | .ins c ks xs,_,k,⟨a,dx,fs,e,q,q2,q3,r⟩=>⟨a,dx,fs,e,hF _ _ q (fun φ z=>by cases z),hF _ _ q2 (fun φ z=>by cases z),q3,RVs.cl hF xs k r⟩
 | .exn c ks xs,_,k,_=>by cases k
 | .dic ks xs,_,c,⟨a,u,kvs,e,q,q3,r,r2⟩=>by
  obtain⟨c1,c2⟩:=qQr.mp (show (yS ks&&yS xs)=true from c)
  exact⟨a,u,kvs,e,hF _ _ q (by obtain⟨kv,rfl,_⟩:=q3;exact fun φ z=>by cases z),q3,RVs.cl hF ks c1 r,RVs.cl hF xs c2 r2⟩
 | .kd ks is,_,_,h=>h
 | .cls _,_,_,h=>h
 | .dit ks xs,_,c,_=>by cases c
theorem RVs.cl{K:Ki}{g g':G}(hF:∀b o,g.F b=some o->Tt o->g'.F b=some o):∀(xs:List MV) {vs:List V},yS xs=true->RVs K g xs vs->RVs K g' xs vs
 | [],_,_,h=>h
 | x::xs,_,c,⟨v,r,e,h,t⟩=>by
  obtain⟨c1,c2⟩:=qQr.mp (show (Rc.cl x&&yS xs)=true from c)
  exact⟨v,r,e,RV.cl hF x c1 h,RVs.cl hF xs c2 t⟩
end
def pZ(a:Addr)(oe:Obj):HO:=.ext λh=>h.get? a=some oe
def QR(q:Str)(t:Tok):Obj:={ cls:=.none,data:=.fields #[.none,.str q t] }
def Cv(c:Addr)(o:Obj):Heap:=⟨Array.replicate (c+1) o,{}⟩
theorem Ci{c b:Addr}{q:Str}{t:Tok}(h:b<c+1):(Cv c (QR q t)).get? b=some (QR q t):=by
 unfold Cv Heap.get?
 simp[Array.getElem?_replicate,h,QR]
theorem Fj{c b:Addr}{o:Obj}(h:¬ b<c+1):(Cv c o).get? b=none:=by
 unfold Cv Heap.get?
 simp[Array.getElem?_replicate,h]
theorem CN{a c:Addr}{oe:Obj}{q:Str}:pZ a oe≠LamX.CodeO c q:=λz=>by
 have z:HO.ext (λh=>h.get? a=some oe)=HO.ext (λh=>∃(oc:Obj) (vs:Array Value) (t:Tok),h.get? c=some oc/\oc.data=.fields vs/\vs[1]? = some (.str q t)):=z
 injection z with z
 have at_:∀t:Tok,oe=QR q t:=λt=>by
  have e:=congrFun z (Cv c (QR q t))
  have y:(Cv c (QR q t)).get? a=some oe:=by
   rw[e]
   exact⟨_,_,t,Ci (Nat.lt_succ_self c),rfl,rfl⟩
  by_cases hb:a<c+1
  ·rw[Ci hb] at y
   exact (qQ5 y).symm
  ·rw[Fj hb] at y
   cases y
 have y:=(at_ 0).symm.trans (at_ 1)
 simp[QR] at y
section
variable{K:Ki}{g g':G}{m:Mem}{H H2:Hp}{a:Addr}{oe:Obj}
def YQ(g:G)(a:Addr)(oe:Obj):G:=⟨upd g.F a (pZ a oe),λ_=>none⟩
def Dr(g g':G)(a:Addr):G:=⟨λb=>if b=a then none else g'.F b,g.r⟩
theorem Rs.Vx(rs:Rs K g m H)(ha:H a=none):g.F a=none:=by
 cases e:g.F a with
 | none=>rfl
 | some o=>rw[rs.sub a o e] at ha;cases ha
theorem Rs.drop(rs:Rs K g m H)(ha:H a=none)(rs':Rs K g' [] H2)(st:Stp (YQ g a oe) (upd H a (pZ a oe)) g' H2):
  Rs K (Dr g g' a) m (del H2 a)/\Stp g H (Dr g g' a) (del H2 a)/\∀b o,g'.F b=some o->Tt o->(Dr g g' a).F b=some o:=by
 have fa:=rs.Vx ha
 have Fa:g'.F a=some (pZ a oe):=st.F a _ upd_same
 have nea:∀{b u},H b=some u->b≠a:=λ{b u} e z=>by rw[z,ha] at e;cases e
 have F1:∀b u,g.F b=some u->(Dr g g' a).F b=some u:=λb u e=>by
  have hb:b≠a:=nea (rs.sub b u e)
  show (if b=a then Option.none else g'.F b)=some u
  rw[if_neg hb]
  exact st.F b u (by show upd g.F a (pZ a oe) b=some u;rw[upd_ne hb];exact e)
 have kept:∀b u,H b=some u->Jx u->del H2 a b=some u:=λb u e n=>by
  rw[del_ne (nea e)]
  exact st.keep b u (by rw[upd_ne (nea e)];exact e) (λn e=>by cases e) n
 have dom:∀b,H b≠none->del H2 a b≠none:=λb e=>by
  have hb:b≠a:=λz=>e (by rw[z];exact ha)
  rw[del_ne hb]
  exact st.dom b (by rw[upd_ne hb];exact e)
 have Fn:∀b,(Dr g g' a).F b≠none->g.F b≠none\/H b=none\/∃ys,del H2 a b=some (.tup ys):=λb e=>by
  have e:(if b=a then Option.none else g'.F b)≠none:=e
  by_cases hb:b=a
  ·rw[if_pos hb] at e;exact absurd rfl e
  ·rw[if_neg hb] at e
   rcases st.Fn b e with q|q|⟨n,q⟩|q
   ·have q:upd g.F a (pZ a oe) b≠none:=q
    rw[upd_ne hb] at q
    exact .inl q
   ·rw[upd_ne hb] at q
    exact .inr (.inl q)
   ·cases q
   ·obtain⟨ys,q⟩:=q
    exact .inr (.inr ⟨ys,by rw[del_ne hb];exact q⟩)
 refine⟨⟨λb u e=>?_,λn o e=>?_,λn b e=>?_,rs.rj,λp hp=>?_⟩,⟨F1,λ_ _ e=>e,λb u e _ n=>kept b u e n,dom,λb e=>(Fn b e).elim .inl λq=>q.elim (λq=>.inr (.inl q)) λq=>.inr (.inr (.inr q)),λ_ _ e=>.inl e⟩,λb o e n=>?_⟩
 ·have e:(if b=a then Option.none else g'.F b)=some u:=e
  by_cases hb:b=a
  ·rw[if_pos hb] at e;cases e
  ·rw[if_neg hb] at e
   rw[del_ne hb]
   exact rs'.sub b u e
 ·obtain⟨b,e1,e2,e3⟩:=rs.gr n o e
  obtain⟨u,hu,nu⟩:=e3.zN
  refine⟨b,e1,?_,e3.grow F1 (λ_ _ e=>e) ((kept b u hu nu).trans hu.symm)⟩
  cases z:(Dr g g' a).F b with
  | none=>rfl
  | some w =>
   rcases Fn b (by rw[z];simp) with q|q|⟨ys,q⟩
   ·exact absurd e2 q
   ·rw[hu] at q;cases q
   ·rw[kept b u hu nu] at q;cases q
    exact absurd hu (e3.ntup ys)
 ·obtain⟨h1,h2⟩:=rs.rb n b e
  exact⟨h1,dom b h2⟩
 ·have t:=rs.tb p hp
  have np:p.2.1≠a:=(t.ne0 ha).symm
  obtain⟨ps,e1,e2,e3⟩:=(rs'.tb p hp).ps
  refine⟨⟨ps,by rw[del_ne np];exact e1,e2,λpos cv hc=>?_⟩,?_,t.r⟩
  ·obtain⟨c,h1,h2⟩:=e3 pos cv hc
   refine⟨c,h1,?_⟩
   show (if c=a then Option.none else g'.F c)=_
   rw[if_neg λz=>by
    rw[z,Fa] at h2
    exact CN (qQ5 h2)]
   exact h2
  ·show (if p.2.1=a then Option.none else g'.F p.2.1)=_
   rw[if_neg np]
   exact (rs'.tb p hp).F
 ·show (if b=a then Option.none else g'.F b)=some o
  rw[if_neg λz=>by
   rw[z,Fa] at e
   exact n _ (qQ5 e).symm]
  exact e
end
section
variable{P:Program}{w:World}{fs:List Addr}{H H2:Hp}{h h':Heap}{a:Addr}{oe:Obj}
end
section
variable{X:Cx}{a:Addr}{oe:Obj}{cls:Value}{d:Option Addr}{pn:List (Addr × Obj)}{f:Addr}{fd:FuncData}{qual pe fx x n:Str}{params:Arguments}{body:List Stmt}{scope:Scope}{dvs:List V}{kwd:List (Str × V)}{N:List Str}{gA:List Str}{cst:List (Str × MV)}{i:Nat}{p q pos:Pos}
end
end Rc
namespace Rc
open PySem PySem.Spec L2 LamX
open PyProof.Rows hiding St
section
variable{K:Ki}{g:G}{m:Mem}{H:Hp}{P c:Addr}{q:Str}{ps more:Array Value}
theorem Rs.code(rs:Rs K g m H)(hP:H P=some (.tbl ps))(hm:∃x,(x,P,q)∈dU K.K)(hu:∀p∈dU K.K,p.2.1=P->p.2.2=q)(hc:H c=none)(ht:TriplesOk (ps++more).toList)
  (ha:∀(pos:Pos) (cv:Value),codeAmong pos (ps++more).toList=some cv->codeAmong pos ps.toList=some cv\/cv=.ref c) :
  Rs K { g with F:=upd g.F c (CodeO c q) } m (upd (upd H P (.tbl (ps++more))) c (CodeO c q))/\Stp g H { g with F:=upd g.F c (CodeO c q) } (upd (upd H P (.tbl (ps++more))) c (CodeO c q)):=by
 obtain⟨x,hm⟩:=hm
 have tP:=rs.tb _ hm
 have fP:g.F P=none:=tP.F
 have ncP:P≠c:=λz=>by rw[z,hc] at hP;cases hP
 have at_:∀b,b≠P->b≠c->upd (upd H P (.tbl (ps++more))) c (CodeO c q) b=H b:=λb h1 h2=>by rw[upd_ne h2,upd_ne h1]
 have nc:∀{b u},H b=some u->b≠c:=λ{b u} e z=>by rw[z,hc] at e;cases e
 have nP:∀{b u},H b=some u->Jx u->b≠P:=λ{b u} e n z=>by
  rw[z,hP] at e
  exact n ps (qQ5 e).symm
 have fc:g.F c=none:=rs.Vx hc
 have F1:∀b u,g.F b=some u->upd g.F c (CodeO c q) b=some u:=λb u e=>by
  rw[upd_ne (λz=>by rw[z,fc] at e;cases e)];exact e
 have st:Stp g H { g with F:=upd g.F c (CodeO c q) } (upd (upd H P (.tbl (ps++more))) c (CodeO c q)):=by
  refine⟨F1,λ_ _ e=>e,λb u e _ n=>by rw[at_ b (nP e n) (nc e)];exact e,λb e=>?_,λb e=>?_,λ_ _ e=>.inl e⟩
  ·by_cases h1:b=c
   ·rw[h1] at e;exact absurd hc e
   ·by_cases h2:b=P
    ·rw[upd_ne h1,h2,upd_same];simp
    ·rw[at_ b h2 h1];exact e
  ·have e:upd g.F c (CodeO c q) b≠none:=e
   by_cases h1:b=c
   ·rw[h1];exact .inr (.inl hc)
   ·rw[upd_ne h1] at e;exact .inl e
 refine⟨⟨λb u e=>?_,λn o e=>?_,λn b e=>?_,rs.rj,λp hp=>?_⟩,st⟩
 ·have e:upd g.F c (CodeO c q) b=some u:=e
  by_cases h1:b=c
  ·rw[h1,upd_same] at e ⊢;exact e
  ·rw[upd_ne h1] at e
   rw[at_ b (λz=>by rw[z,fP] at e;cases e) h1]
   exact rs.sub b u e
 ·obtain⟨b,e1,e2,e3⟩:=rs.gr n o e
  obtain⟨u,hu1,nu⟩:=e3.zN
  refine⟨b,e1,?_,e3.grow F1 (λ_ _ e=>e) (at_ b (nP hu1 nu) (nc hu1))⟩
  show upd g.F c (CodeO c q) b=none
  rw[upd_ne (nc hu1)];exact e2
 ·obtain⟨h1,h2⟩:=rs.rb n b e
  exact⟨h1,st.dom b h2⟩
 ·have t:=rs.tb p hp
  have pc:p.2.1≠c:=(t.ne0 hc).symm
  by_cases h1:p.2.1=P
  ·rw[h1,hu p hp h1]
   obtain⟨ps0,e1,_,e3⟩:=tP.ps
   have e1:H P=some (.tbl ps0):=e1
   rw[hP] at e1
   cases e1
   refine⟨⟨_,by rw[upd_ne ncP,upd_same],ht,λpos cv hcv=>?_⟩,by show upd g.F c (CodeO c q) P=none;rw[upd_ne ncP];exact fP,tP.r⟩
   rcases ha pos cv hcv with z|z
   ·obtain⟨c0,y1,y2⟩:=e3 pos cv z
    exact⟨c0,y1,F1 _ _ y2⟩
   ·exact⟨c,z,upd_same⟩
  ·exact t.go (at_ _ h1 pc) F1 (by show upd g.F c (CodeO c q) _=none;rw[upd_ne pc];exact t.F) t.r
end
section
variable{X:Cx}{pins:List (Addr × Obj)}{σ:L2.St}{H:Hp}{s:Shared}{g:G}{m:Mem}
end
end Rc
namespace Rc
open PySem PySem.Spec L2 L2H LamX
open PyProof.Rows hiding St
def Yg(cs:List Str)(Mf:Mir):R OV->R OV
 | .ok (.v y) m=>.ok (.v (.tup [.str "",y])) m
 | .ok (.b _) _=>.stuck
 | .exc c ks xs m=>if c∈cs/\yS xs=true then (match dX ks xs "code",Mf [.exn c ks xs] [] with
  | some (.str z),.ok (.tup ys) []=>if yS ys=true then .ok (.v (.tup [.str z,.tup ys])) m else .stuck
  | _,_=>.stuck) else .stuck
 | .stuck=>.stuck
def Rh(p:Nat->Pos)(j:Nat->Nat):List Stmt:=[
 .Try [.Return (some (.Tuple [.Constant (.str "") (j 0) (p 0),.Call (.Name "_law_ask" (p 1)) [] [] (p 2)] (j 1) (p 3))) (p 4)]
  [.ExceptHandler (some (.Tuple [.Name "RoomError" (p 5),.Name "Missing" (p 6),.Name "NothingLeft" (p 7)] (j 2) (p 8))) (some "_law_e")
   [.Return (some (.Tuple [.Attribute (.Name "_law_e" (p 9)) "code" (p 10),.Call (.Name "_law_field" (p 11)) [.Name "_law_e" (p 12)] [] (p 13)] (j 3) (p 14))) (p 15)] (p 16)] [] [] (p 17)]
structure Gp(K:PySem.W.Frag)(C:Addr):Prop where
 any:PySem.W.exmAny K (.ref C) [.ref (He.ga K "RoomError"),.ref (He.ga K "Missing"),.ref (He.ga K "NothingLeft")]=some true
 xf:XfC K C
 no:PySem.W.findIn K (.ref C) "code" = some none
section
variable{X:Cx}{f:Addr}{fd:FuncData}{qual fx:Str}{params:Arguments}{body:List Stmt}{scope:Scope}{dvs:List V}{kwd:List (Str × V)}{N:List Str}{gA:List Str}{cst:List (Str × MV)}
end
section
variable{X:Cx}{fg ff:Addr}{fdg fdf:FuncData}{qf xf:Str}{pg pf:Arguments}{bf:List Stmt}{sg sf:Scope}{dvf:List V}{kwf:List (Str × V)}{Ng Nf:List Str}{gA:List Str}{cst:List (Str × MV)}{pp:Nat->Pos}{jj:Nat->Nat}
end
end Rc
namespace Rc
open PySem PySem.Spec L2 LamX
open PyProof.Rows hiding St
structure adq(P:Program)(w:World)(K:PySem.W.Frag)(mg:Str->Option Value)(base:Heap)(cs:List Str)(Mf:Mir):Prop where
 ex:∃(fg ff:Addr) (fdg fdf:FuncData) (qf xf:Str) (pg pf:Arguments) (bf:List Stmt) (sg sf:Scope) (dvf:List V) (kwf:List (Str × V)) (Nf gA:List Str) (cst:List (Str × MV)) (pp:Nat->Pos) (jj:Nat->Nat) (B:MSs),
  FunD K xf qf pf bf sf dvf kwf ff fdf/\FnScope Nf ["_law_e"] sf/\yw ⟨K,P,w⟩ mg gA cst/\All (λn:dI=>n P w K mg base 0) B.needs/\mSs B ⟨Nf,sf,gA,cst,true,false,false⟩ bf=true /\
  (∀as m,as.length=1->Mf as m≠.stuck->runD Nf.length B as m=Mf as m)/\Binds K fdf ["_law_e"] []/\mg "_law_field" = some (.ref ff) /\
  FunD K "_law_try" "_law_try" pg (Rh pp jj) sg [] [] fg fdg/\FnScope ["_law_ask","_law_e"] ["_law_ask"] sg/\Binds K fdg ["_law_ask"] []/\mg "_law_try" = some (.ref fg) /\
  sg.names.lookup ("_law_e":Str)=some .local/\sg.names.lookup ("_law_ask":Str)=some .local/\sg.names.lookup ("_law_field":Str)=some .globalImplicit/\sg.names.lookup ("RoomError":Str)=some .globalImplicit /\
  sg.names.lookup ("Missing":Str)=some .globalImplicit/\sg.names.lookup ("NothingLeft":Str)=some .globalImplicit
 m1:mg "RoomError" = some (.ref (He.ga K "RoomError"))
 m2:mg "Missing" = some (.ref (He.ga K "Missing"))
 m3:mg "NothingLeft" = some (.ref (He.ga K "NothingLeft"))
 cs:∀c∈cs,Gp K (He.ga K c)
 uq:∀p∈dU K,∀q∈dU K,p.2.1=q.2.1->p.2.2=q.2.2
end Rc
namespace Rc
open PySem PySem.Spec L2
open PyProof.Rows hiding St
def Yw(b:du)(K:PySem.W.Frag)(C:Addr):Bool:=match K.lookup C with
 | some ⟨.type t,_,.cls ⟨_,_,.ref C'::bm,_,_,true,_,_,_,_,false⟩,sl⟩=>decide (t="type")&&(decide (C'=C)&&(nW b.tail bm&&(match sl.toList with
  | [_,_,_,_,some (.builtin n),_]=>decide (n=b.new)
  | _=>false)))
 | _=>false
theorem Ol{b:du}{K:PySem.W.Frag}{C:Addr}(h:Yw b K C=true):∃nm q N bs bm sn sub ab col dd k0 k1 k2 k3 k5,K.lookup C=some (excClassObj nm q C N bs bm true sn sub ab col dd k0 k1 k2 k3 k5 b.new)/\nW b.tail bm=true:=by
 unfold Yw at h
 split at h
 ·rename_i t dd nm bs C' bm N q sn sub ab col sl e
  obtain⟨h1,h⟩:=qQr.mp h
  obtain⟨h2,h⟩:=qQr.mp h
  obtain⟨h3,h⟩:=qQr.mp h
  split at h
  ·rename_i k0 k1 k2 k3 n k5 es
   have h1:=qQ4 h1
   have h2:=qQ4 h2
   have h4:=qQ4 h
   subst h1 h2 h4
   have hs:sl=#[k0,k1,k2,k3,some (.builtin b.new),k5]:=by
    obtain⟨l⟩:=sl
    simp only at es
    rw[es]
   subst hs
   exact⟨nm,q,N,bs,bm,sn,sub,ab,col,dd,k0,k1,k2,k3,k5,e,h3⟩
  ·cases h
 ·cases h
def rfQ(a:Addr):Option (Option Value)->Bool
 | some (some (.ref b))=>Nat.beq b a
 | _=>false
theorem Wu{a:Addr}{x:Option (Option Value)}(h:rfQ a x=true):x=some (some (.ref a)):=by
 unfold rfQ at h
 split at h
 ·rw[Nat.eq_of_beq_eq_true h]
 ·cases h
def blQ(t:String):Option (Option Value)->Bool
 | some (some (.builtin u))=>decide (u=t)
 | _=>false
theorem uM{t:String}{x:Option (Option Value)}(h:blQ t x=true):x=some (some (.builtin t)):=by
 unfold blQ at h
 split at h
 ·rw[qQ4 h]
 ·cases h
def tyQ(t:String):Option Value->Bool
 | some (.type u)=>decide (u=t)
 | _=>false
theorem MP{t:String}{x:Option Value}(h:tyQ t x=true):x=some (.type t):=by
 unfold tyQ at h
 split at h
 ·rw[qQ4 h]
 ·cases h
def trQ:Option Bool->Bool
 | some true=>true
 | _=>false
theorem sU{x:Option Bool}(h:trQ x=true):x=some true:=by
 unfold trQ at h
 split at h
 ·rfl
 ·cases h
def noQ:Option (Option Value)->Bool
 | some none=>true
 | _=>false
theorem xX{x:Option (Option Value)}(h:noQ x=true):x=some none:=by
 unfold noQ at h
 split at h
 ·rfl
 ·cases h
def ZZ(b:du)(K:PySem.W.Frag)(C:Addr):Bool:=Yw b K C&&(blQ "object.__setattr__" (PySem.W.findIn K (.ref C) "__setattr__")&&(trQ (PySem.W.subIn K (.ref C) (.type "BaseException")) &&
 (tyQ "type" (PySem.W.typeIn K (.ref C))&&PySem.W.keepIn K (.ref C))))
theorem Ip{b:du}(kb:eX b){K:PySem.W.Frag}{C:Addr}(h:ZZ b K C=true):DR b K C:=by
 obtain⟨h1,h⟩:=qQr.mp h
 obtain⟨h2,h⟩:=qQr.mp h
 obtain⟨h3,h⟩:=qQr.mp h
 obtain⟨h4,h5⟩:=qQr.mp h
 exact⟨kb,Ol h1,uM h2,sU h3,MP h4,h5⟩
def cM(K:PySem.W.Frag)(C:Addr):Bool:=trQ (PySem.W.exmAny K (.ref C) [.ref (He.ga K "RoomError"),.ref (He.ga K "Missing"),.ref (He.ga K "NothingLeft")])&&(xfB K C&&noQ (PySem.W.findIn K (.ref C) "code"))
theorem aq{K:PySem.W.Frag}{C:Addr}(h:cM K C=true):Gp K C:=by
 obtain⟨h1,h⟩:=qQr.mp h
 obtain⟨h2,h3⟩:=qQr.mp h
 exact⟨sU h1,xfB_ok h2,xX h3⟩
end Rc
namespace Rc
open PySem PySem.Spec L2 LamX
open PyProof.Rows hiding St
structure ZJ(sc scope:Scope)(N:List Str):Prop where
 kind:scope.kind=.function
 co:scope.isCoroutine=false
 gen:scope.isGenerator=false
 nocell:∀y∈scope.names,y.2≠.cell
 par:∀y∈scope.names,y.2=.local->y.1∉N
 free:∀y∈scope.names,y.2=.free->sc.names.lookup y.1=some .cell\/sc.names.lookup y.1=some .free
theorem ZJ.cells{X:Cx}{scope:Scope}(L:ZJ X.env.scope scope X.N)(ok:X.Ok):∀y∈scope.names,y.2=.free->∃c,X.env.cells.lookup y.1=some c:=λy hy e=>ok.has _ ((L.free y hy e).elim .inl .inr)
section
variable{X:Cx}{pins:List (Addr × Obj)}{σ:L2.St}{H HZ:Hp}{s s1:Shared}
end
def O4(scope:Scope)(params:Arguments):Prop:=params=⟨[],[],none,[],[],none,[]⟩\/∃(a:Str) (pa:Pos) (n:Int) (j:Nat) (pd:Pos),params=⟨[],[⟨a,none,pa⟩],none,[],[],none,[.Constant (.int n) j pd]⟩/\scope.names.lookup a=some .local/\(a=("_law_a":Str)\/a=("_law_b":Str))
def Uw(X:Cx)(g:G)(params:Arguments)(body:Expr)(scope:Scope)(f:Addr):Prop:=∃(c':Addr) (dV doc pm ctv:Value),g.F f=some (pZ f (PySem.W.kdv_obj "<lambda>" (X.env.qual++"<lambda>") params (.expr body) scope (cloFrom X.env.cells scope.names []) dV doc pm c' ctv)) /\
 g.F c'=some (CodeO c' (X.env.qual++"<lambda>"))/\(params.defaults=[]/\dV=.none\/∃(T:Addr) (v:Value),dV=.ref T/\params.defaults≠[]/\g.F T=some (pZ T (PySem.W.kdv_tup [v])))
section
variable{X:Cx}{pins:List (Addr × Obj)}{σ:L2.St}{H HZ:Hp}{s s1:Shared}{params:Arguments}{body:Expr}{scope:Scope}{f:Addr}{g g':G}{m:Mem}
theorem Uw.st(F:Uw X g params body scope f)(st:Stp g H g' HZ):Uw X g' params body scope f:=by
 obtain⟨c',dV,doc,pm,ctv,h1,h2,h3⟩:=F
 exact⟨c',dV,doc,pm,ctv,st.F _ _ h1,st.F _ _ h2,h3.imp id λ⟨T,v,e,q0,q1⟩=>⟨T,v,e,q0,st.F _ _ q1⟩⟩
end
section
variable{X:Cx}{pins:List (Addr × Obj)}{σ:L2.St}{H:Hp}{s:Shared}{g:G}{m:Mem}
end
end Rc
namespace Rc
open PySem PySem.Spec L2 L2H LamX
open PyProof.Rows hiding St
section
variable{X:Cx}{pins:List (Addr × Obj)}{σ:L2.St}{H H2:Hp}{s s2:Shared}{params:Arguments}{body:Expr}{scope:Scope}{f:Addr}
end
section
variable{X:Cx}{fg ff:Addr}{fdg fdf:FuncData}{qf xf:Str}{pg pf:Arguments}{bf:List Stmt}{sg sf:Scope}{dvf:List V}{kwf:List (Str × V)}{Nf:List Str}{gA:List Str}{cst:List (Str × MV)}{pp:Nat->Pos}{jj:Nat->Nat}
variable{pins:List (Addr × Obj)}{σ:L2.St}{H H2:Hp}{s s2:Shared}{params:Arguments}{body:Expr}{scope:Scope}{f:Addr}
end
end Rc
namespace Rc
open PySem PySem.Spec L2
open PyProof.Rows hiding St
section
variable{X:Cx}
end
end Rc
namespace Rc
open PySem PySem.Spec L2 L2H LamX
open PyProof.Rows hiding St
def yC(cs:List Str)(Mf:Mir):List (Mem->R OV)->List MV->Mem->R OV
 | [],acc,m=>.ok (.v (.lst acc)) m
 | f::fs,acc,m=>(Yg cs Mf (f m)).bind λx m=>match x with
  | .v y=>yC cs Mf fs (acc++[y]) m
  | .b _=>.stuck
structure DY where
 params:Arguments
 scope:Scope
 body:Expr
 fe:Sl->Mem->R OV
structure DY.Ok(X:Cx)(k:Nat)(d:DY):Prop where
 args:O4 d.scope d.params
 sc:ZJ X.env.scope d.scope X.N
 run:∀(A:Around) (outer:List Env) (s:Shared) (H:Hp) (E:XK) (f c':Addr),Room k (A.deeper (lamEnv X d.scope s.heap.objs.size f c'))->PE (adt X A outer s H E d.scope f c') d.body (tE X.ki (λcls dd _ H'=>E cls dd H') d.fe)
def Du(X:Cx)(g:G):List DY->List Addr->Prop
 | [],fs=>fs=[]
 | d::ds,fs=>∃f r,fs=f::r/\Uw X g d.params d.body d.scope f/\Du X g ds r
theorem Du.st{X:Cx}{g g':G}{H H':Hp}(st:Stp g H g' H'):∀{ds:List DY}{fs:List Addr},Du X g ds fs->Du X g' ds fs
 | [],_,h=>h
 | _::_,_,⟨f,r,e,h1,h2⟩=>⟨f,r,e,h1.st st,h2.st st⟩
theorem Du.len{X:Cx}{g:G}:∀{ds:List DY}{fs:List Addr},Du X g ds fs->fs.length=ds.length
 | [],_,h=>by cases h;rfl
 | _::_,_,⟨f,r,e,_,h2⟩=>by rw[e,qQn,qQn,h2.len]
theorem Du.get{X:Cx}{g:G}:∀{ds:List DY}{fs:List Addr}{i:Nat}{f:Addr},Du X g ds fs->fs[i]? = some f->∃d,ds[i]? = some d/\Uw X g d.params d.body d.scope f
 | [],_,i,f,h,e=>by cases h;simp at e
 | d::ds,_,0,f,⟨f',r,e1,h1,_⟩,e=>by subst e1;simp at e;subst e;exact⟨d,rfl,h1⟩
 | d::ds,_,i+1,f,⟨f',r,e1,_,h2⟩,e=>by
  subst e1
  obtain⟨d',q,z⟩:=Du.get (i:=i) h2 (by simpa using e)
  exact⟨d',by simpa using q,z⟩
def Cy:List DY->List Expr->Prop
 | [],es=>es=[]
 | d::ds,es=>∃p r,es=.Lambda d.params d.body d.scope p::r/\Cy ds r
section
variable{X:Cx}{cd P:Addr}{k:Nat}
end
section
variable{X Y:Cx}{pins:List (Addr × Obj)}{σ:L2.St}{H:Hp}{s:Shared}{W:WX}{sl:Sl}{k:Nat}{cs:List Str}{Mf:Mir}
end
def Ge(p:Nat->Pos)(sc:Scope):List Stmt:=[.Return (some (.ListComp (.Call (.Name "_law_try" (p 0)) [.Name "_law_ask" (p 1)] [] (p 2)) [⟨.Name "_law_ask" (p 3),.Name "_law_asks" (p 4),[],0⟩] sc (p 5))) (p 6)]
structure acv(P:Program)(w:World)(K:PySem.W.Frag)(mg:Str->Option Value)(base:Heap)(cs:List Str)(Mf:Mir):Prop where
 T:adq P w K mg base cs Mf
 ex:∃(ft:Addr) (fdt:FuncData) (pt:Arguments) (st sc:Scope) (p:Nat->Pos),FunD K "_law_tries" "_law_tries" pt (Ge p sc) st [] [] ft fdt/\FnScope ["_law_asks","_law_ask"] ["_law_asks"] st/\Binds K fdt ["_law_asks"] []/\mg "_law_tries" = some (.ref ft) /\
  st.names.lookup ("_law_asks":Str)=some .local/\blkC ["_law_asks","_law_ask"] st sc [("_law_ask",1)]=true/\(relS sc st).names.lookup ("_law_ask":Str)=some .local/\(relS sc st).names.lookup ("_law_try":Str)=some .globalImplicit
section
variable{X:Cx}{pins:List (Addr × Obj)}{σ:L2.St}{H:Hp}{s:Shared}{W:WX}{sl:Sl}{k:Nat}{cs:List Str}{Mf:Mir}{g:G}{m:Mem}{Q:VK}
end
section
variable{X:Cx}{W:WX}{k:Nat}{cs:List Str}{Mf:Mir}{cd P:Addr}
end
end Rc
namespace Rc
open PySem PySem.Spec L2 NdefX
open PyProof.Rows hiding St
def isNon:Value->Bool
 | .none=>true
 | _=>false
theorem Br{v:Value}(h:isNon v=true):v=.none:=by
 cases v <;> first|rfl|cases h
def Bs(K:PySem.W.Frag)(file qual:Str):Value->Bool
 | .ref cda=>PySem.W.codeIn K (.ref cda) qual&&(match K.lookup cda with
  | some ⟨_,_,.fields vs,_⟩=>(match (vs.toList[2]?:Option Value) with
   | some (.str fl _)=>file == fl
   | _=>false)
  | _=>false)
 | _=>false
def HD(K:PySem.W.Frag)(C:Addr):List (Str × Addr)->Bool
 | [(x,cc)]=>decide (x="__class__")&&(match K.lookup cc with
  | some ⟨_,_,.cell (some (.ref C')),_⟩=>decide (C'=C)
  | _=>false)
 | _=>false
def Mw(K:PySem.W.Frag)(file:Str)(C fI:Addr):Bool:=match K.lookup fI with
 | some ⟨_,_,.func fd,_⟩=>Bs K file fd.qualname fd.code&&(HD K C fd.closure&&(isNon fd.defaults&&(isNon fd.kwdefaults&&fd.annotations.isNone)))
 | _=>false
def fD(b:du)(file:Str)(d:nR)(K:PySem.W.Frag):Bool :=
 ZZ b K (He.ga K d.x)&&(rfQ (He.ma K (He.ga K d.x) "__init__") (PySem.W.findIn K (.ref (He.ga K d.x)) "__init__")&&(tyQ "function" (PySem.W.typeIn K (.ref (He.ma K (He.ga K d.x) "__init__"))) &&
 (Mw K file (He.ga K d.x) (He.ma K (He.ga K d.x) "__init__")&&(blQ b.init (PySem.W.ks_superIn K (He.ga K d.x) (He.ga K d.x) "__init__") &&
 (trQ (PySem.W.subIn K (.ref (He.ga K d.x)) (.type b.B))&&(trQ (PySem.W.mroIn K (He.ga K d.x) (.ref (He.ga K d.x)))&&(noQ (PySem.W.nsIn K cStatics "thirdparty.any") &&
 (noQ (PySem.W.findIn K (.ref (He.ga K d.x)) "code")&&noQ (PySem.W.findIn K (.ref (He.ga K d.x)) d.f)))))))))
theorem HQ{bs:du}(kb:eX bs){P:Program}{K:PySem.W.Frag}{file:Str}{d:nR}(e:errV K d.x=d.val)(b:fD bs file d K=true)(hf:P.main.file=file):
  ∃(c:RN bs K P (He.ga K d.x)) (doc pm ctv:Value),c.fd=(Dd c.qual d.params d.body d.scope c.cc c.cda).fd doc pm ctv/\PySem.W.findIn K (.ref (He.ga K d.x)) "code" = some none/\PySem.W.findIn K (.ref (He.ga K d.x)) d.f=some none:=by
 obtain⟨b1,b⟩:=qQr.mp b
 obtain⟨b2,b⟩:=qQr.mp b
 obtain⟨b3,b⟩:=qQr.mp b
 obtain⟨b4,b⟩:=qQr.mp b
 obtain⟨b5,b⟩:=qQr.mp b
 obtain⟨b6,b⟩:=qQr.mp b
 obtain⟨b7,b⟩:=qQr.mp b
 obtain⟨b8,b⟩:=qQr.mp b
 obtain⟨b9,b10⟩:=qQr.mp b
 unfold Mw at b4
 unfold errV at e
 cases q:K.lookup (He.ma K (He.ga K d.x) "__init__") with
 | none=>rw[q] at b4;cases b4
 | some o =>
  obtain⟨oc,od,dt,osl⟩:=o
  rw[q] at b4 e
  cases dt with
  | func fd =>
   obtain⟨n1,n2,n3,n4,n5,n6,n7,n8,n9,n10,n11,n12,n13,n14,n15⟩:=fd
   have e2:(some (n1,n2,n3,n4,n5,n6,n7.map (·.1),n15):RD)=d.val:=e
   unfold nR.val at e2
   simp only[Option.some.injEq,Prod.mk.injEq] at e2
   obtain⟨h1,h2,h3,h4,h5,h6,h7,h8⟩:=e2
   subst h1 h2 h3 h4 h5 h6 h8
   have c4:(Bs K file (d.x++".__init__") n13&&(HD K (He.ga K d.x) n7&&(isNon n8&&(isNon n9&&n12.isNone))))=true:=b4
   obtain⟨c1,c4⟩:=qQr.mp c4
   obtain⟨c2,c4⟩:=qQr.mp c4
   obtain⟨c3,c4⟩:=qQr.mp c4
   obtain⟨c5,c6⟩:=qQr.mp c4
   obtain rfl:=Br c3
   obtain rfl:=Br c5
   obtain rfl:=Option.isNone_iff_eq_none.mp c6
   cases n13 with
   | ref cda =>
    obtain⟨k1,k2⟩:=qQr.mp (show (PySem.W.codeIn K (.ref cda) (d.x++".__init__")&&_)=true from c1)
    match n7,c2 with
    | [(x,cc)],c2 =>
     obtain⟨k3,k4⟩:=qQr.mp (show (decide (x=("__class__":Str))&&_)=true from c2)
     obtain rfl:=qQ4 k3
     have cell:∃oc od sl,K.lookup cc=some ⟨oc,od,.cell (some (.ref (He.ga K d.x))),sl⟩:=by
      split at k4
      ·rename_i oc od C' sl e4
       rw[qQ4 k4] at e4
       exact⟨_,_,_,e4⟩
      ·cases k4
     have file':∃oc od vs sl fl tf,K.lookup cda=some ⟨oc,od,.fields vs,sl⟩/\vs[2]? = some (.str fl tf)/\((P.main.file:Str) == fl)=true:=by
      split at k2
      ·rename_i oc od vs sl e5
       split at k2
       ·rename_i fl tf e6
        rw[Array.getElem?_toList] at e6
        exact⟨_,_,_,_,_,_,e5,e6,by rw[hf];exact k2⟩
       ·cases k2
      ·cases k2
     exact⟨⟨Ip kb b1,_,cda,cc,_,_,Wu b2,MP b3,⟨_,_,_,q⟩,k1,file',cell,uM b5,sU b6,sU b7,xX b8⟩,n10,n11,n14,rfl,xX b9,xX b10⟩
   | _=>cases c1
  | _=>cases b4
theorem bR{bs:du}(kb:eX bs){P:Program}{w:World}{K:PySem.W.Frag}{mg:Str->Option Value}{base:Heap}{file:Str}{d:nR}{p:Nat->Pos}{j:Nat->Nat}{pl:Sem Bool}(e:errV K d.x=d.val)(b:fD bs file d K=true)(hf:P.main.file=file)
  (htop:(P.main.scope.names.lookup ("super":Str)).isSome=false) (hm:mg d.x=some (.ref (He.ga K d.x))) (hms:mg "super" = none) (hb:d.body=cH d.x d.g d.f p j) (tx:Yc d.x d.g d.f p j pl) (S:NScope ["self",d.g,"__class__"] ["self",d.g] ["__class__"] d.scope)
  (hsu:d.scope.names.lookup ("super":Str)=some .globalImplicit) (hg1:(d.params.posonlyargs++d.params.args).head?.map (·.arg)=some ("self":Str)) (hd1:(d.g == ("__debug__":Str))=false) (hd2:(d.g == ("__classdict__":Str))=false)
  (hbi:∀(cl:List (Str × Addr)) (qual:Str) (cda:Addr) (doc pm ctv u v:Value),bindArgs (NF.fd ⟨"__init__",qual,d.params,d.body,d.scope,cl,cda⟩ doc pm ctv) ⟨[u,v],[]⟩=pure ([("self",u),(d.g,v)]:List (Str × Value))) {k:Nat} (hk:2<=k):cU bs d.x d.g d.f d.x P w K mg base k:=by
 obtain⟨c,doc,pm,ctv,hfd,nc,nf⟩:=HQ kb e b hf
 rw[hb] at hfd
 refine⟨c,hm,⟨1,hk,NT (k:=0) c tx hfd S hsu hg1 hms htop nc nf hd1 hd2⟩,.all λus hl=>?_⟩
 match us,hl with
 | [u,v],_ =>
  rw[hfd,<- hb]
  exact hbi _ _ _ _ _ _ _ _
def bU:List Stmt->(Nat->Pos) × (Nat->Nat)
 | [.Expr (.Call (.Attribute (.Call (.Name _ p0) [] [] p1) _ p2) [.Constant _ j0 p3] [] p4) p5,.Assign [.Attribute (.Name _ p6) _ p7] (.Constant _ j1 p8) p9,.Assign [.Attribute (.Name _ p10) _ p11] (.Name _ p12) p13] =>
  (λi=>[p0,p1,p2,p3,p4,p5,p6,p7,p8,p9,p10,p11,p12,p13].getD i p0,λi=>[j0,j1].getD i 0)
 | _=>(λ_=>⟨0,0,0,0⟩,λ_=>0)
theorem ig{nm g f:Str}{p:Nat->Pos}{j:Nat->Nat}(h:((p 2).endLine == (p 4).line)=true):Yc nm g f p j (do return (<- (pure (some false):Sem (Option Bool))).getD true):=by
 refine⟨λenv=>?_,λ_=>by kernel_rfl,λ_=>by kernel_rfl,λ_=>by kernel_rfl,λ_=>by kernel_rfl⟩
 have e:∀few o env,methodCallPos few o env (p 2) (p 4)=pure (p 4):=λfew o env=>by
  unfold methodCallPos
  rw[h,Bool.or_true,if_pos rfl]
 have e2:eval (nM nm p j) env=(do
   let ov <- attributeBase (Mx p) "__init__" env (eval (Mx p) env)
   standAt (p 2).atName
   let (f,first) <- holding [ov] (getMethod ov "__init__" (do return (<- (pure (some false):Sem (Option Bool))).getD true))
   let cp <- methodCallPos true (Mx p) env (p 2) (p 4)
   callWith cp f first (backTo (p 4) (starEach [.Constant (.str nm) (j 0) (p 3)] env)) []):=by kernel_rfl
 rw[e2]
 simp only[e]
 rfl
section
variable{X:Cx}{CX:CXT}{x:Str}{p pos:Pos}{C fI:Addr}{k:Nat}{fd:FuncData}{ps:List Str}{sp:Sp}
end
def De(b:du)(x code:Str):dI:=λP w K mg base k=>∃c:RN b K P (He.ga K x),mg x=some (.ref (He.ga K x))/\(∃j,j+1<=k/\FnOk P w K mg base (L2N.CX P w) j c.fI c.fd ["self"] (EY (He.ga K x) code))/\Binds K c.fd ["self"] []
structure zF where
 x:Str
 params:Arguments
 body:List Stmt
 scope:Scope
def zF.d(d:zF):nR:=⟨d.x,"code","code",d.params,d.body,d.scope⟩
def zF.own(d:zF):wF:=d.d.own
theorem xr{bs:du}(kb:eX bs){P:Program}{w:World}{K:PySem.W.Frag}{mg:Str->Option Value}{base:Heap}{file:Str}{d:zF}{p:Nat->Pos}{j:Nat->Nat}{pl:Sem Bool}(e:errV K d.x=d.d.val)(b:fD bs file d.d K=true)(hf:P.main.file=file)
  (htop:(P.main.scope.names.lookup ("super":Str)).isSome=false) (hm:mg d.x=some (.ref (He.ga K d.x))) (hms:mg "super" = none) (hb:d.body=oG d.x p j) (tx:Pb d.x p j pl) (S:NScope ["self","__class__"] ["self"] ["__class__"] d.scope)
  (hsu:d.scope.names.lookup ("super":Str)=some .globalImplicit) (hg1:(d.params.posonlyargs++d.params.args).head?.map (·.arg)=some ("self":Str))
  (hbi:∀(cl:List (Str × Addr)) (qual:Str) (cda:Addr) (doc pm ctv u:Value),bindArgs (NF.fd ⟨"__init__",qual,d.params,d.body,d.scope,cl,cda⟩ doc pm ctv) ⟨[u],[]⟩=pure ([("self",u)]:List (Str × Value))) {k:Nat} (hk:2<=k):De bs d.x d.x P w K mg base k:=by
 obtain⟨c,doc,pm,ctv,hfd,nc,_⟩:=HQ (d:=d.d) kb e b hf
 have hfd:c.fd=(Dd c.qual d.params d.body d.scope c.cc c.cda).fd doc pm ctv:=hfd
 rw[hb] at hfd
 refine⟨c,hm,⟨1,hk,Q3 (k:=0) c tx hfd S hsu hg1 hms htop nc⟩,.all λus hl=>?_⟩
 match us,hl with
 | [u],_ =>
  rw[hfd,<- hb]
  exact hbi _ _ _ _ _ _ _
def v4:List Stmt->(Nat->Pos) × (Nat->Nat)
 | [.Expr (.Call (.Attribute (.Call (.Name _ p0) [] [] p1) _ p2) [.Constant _ j0 p3] [] p4) p5,.Assign [.Attribute (.Name _ p6) _ p7] (.Constant _ j1 p8) p9] =>
  (λi=>[p0,p1,p2,p3,p4,p5,p6,p7,p8,p9].getD i p0,λi=>[j0,j1].getD i 0)
 | _=>(λ_=>⟨0,0,0,0⟩,λ_=>0)
theorem Wz{nm:Str}{p:Nat->Pos}{j:Nat->Nat}(h:((p 2).endLine == (p 4).line)=true):Pb nm p j (do return (<- (pure (some false):Sem (Option Bool))).getD true) :=
 ⟨(ig (g:="given") (f:="given") h).call,λ_=>by kernel_rfl,λ_=>by kernel_rfl,λ_=>by kernel_rfl⟩
end Rc
namespace Rc
open PySem PySem.Spec L2 L2H LamX
open PyProof.Rows hiding St
section
variable{K:Ki}{g0 g g':G}{H0 H H':Hp}{s:Sl}{m:Mem}{σ:L2.St}
theorem jg.drop{i:Nat}{v:V}(h:jg K g0 H0 g s m σ H):jg K g0 H0 g (s.set i none) m (σ.set i (some v)) H:=by
 have ne:∀{j:Nat}{x:SV},(s.set i none)[j]? = some (some x)->i≠j:=λ{j x} e q=>by
  subst q
  by_cases hi:i<s.length
  ·rw[qQm hi] at e;cases e
  ·rw[qQ1 (by simpa using hi)] at e;cases e
 refine⟨h.rs,⟨λj x e=>?_,λj o e=>?_,λj k o u a e1 e2 e3 e4=>?_,by simp[h.rl.len]⟩,h.st,λj o a e1 e2=>?_⟩
 ·have q:=ne e
  rw[qQe q] at e
  obtain⟨w,e1,e2⟩:=h.rl.val j x e
  exact⟨w,by rw[qQe q];exact e1,e2⟩
 ·have q:=ne e
  rw[qQe q] at e
  obtain⟨w,e1,e2⟩:=h.rl.own j o e
  exact⟨w,by rw[qQe q];exact e1,e2⟩
 ·have q1:=ne e1
  have q2:=ne e2
  rw[qQe q1] at e1 e3
  rw[qQe q2] at e2 e4
  exact h.rl.dis j k o u a e1 e2 e3 e4
 ·have q:=ne e1
  rw[qQe q] at e1 e2
  exact h.o0 j o a e1 e2
end
theorem Du.app{X:Cx}{g:G}:∀{ds es:List DY}{fs hs:List Addr},Du X g ds fs->Du X g es hs->Du X g (ds++es) (fs++hs)
 | [],_,_,_,h,h2=>by cases h;exact h2
 | _::_,_,_,_,⟨f,r,e,h1,h3⟩,h2=>by subst e;exact⟨f,_,rfl,h1,h3.app h2⟩
theorem Cy.split:∀{es1:List Expr}{ds:List DY}{es2:List Expr},Cy ds (es1++es2)->∃d1 d2,ds=d1++d2/\Cy d1 es1/\Cy d2 es2
 | [],ds,es2,h=>⟨[],ds,rfl,rfl,h⟩
 | e::es1,[],es2,h=>by cases h
 | e::es1,d::ds,es2,⟨p,r,e1,h⟩=>by
  rw[List.cons_append] at e1
  cases e1
  obtain⟨d1,d2,rfl,q1,q2⟩:=Cy.split h
  exact⟨d::d1,d2,rfl,⟨p,es1,rfl,q1⟩,q2⟩
section
variable{X:Cx}{W:WX}{g0:G}{H0 H:Hp}{i:Nat}{ds:List DY}{f:Sl->Mem->SR}{D:Ends}{σ:L2.St}
end
section
variable{X:Cx}{W:WX}{k:Nat}{cs:List Str}{Mf:Mir}
end
section
variable{X:Cx}{W:WX}{g0 g:G}{H0 H:Hp}{i:Nat}{ds:List DY}{cs:List Str}{Mf M:Mir}{fd:Sl->Mem->R OV}{s:Sl}{m:Mem}{σ:L2.St}{D:Ends}{kk:OV->Mem->SR}
end
section
variable{X:Cx}{W:WX}{c:Cfg}{k:Nat}{g0:G}{H0:Hp}{i:Nat}{f:Sl->Mem->SR}{cs:List Str}{Mf:Mir}{F:Fn}{cd P:Addr}
end
end Rc
namespace Rc
open PySem PySem.Spec L2
open PyProof.Rows hiding St
section
variable{K:PySem.W.Frag}{x qual:Str}{params:Arguments}{body:List Stmt}{scope:Scope}{kws:List (Str × V)}{f:Addr}{fd:FuncData}
end
def qM{α:Type}:List Str->List α->List Str->List α->List Str->List α->List α
 | [],_,_,_,_,_=>[]
 | _::ps,a::as,ks,zs,ns,ds=>a::qM ps as ks zs ns ds
 | p::ps,[],ks,zs,ns,ds=>match (ks.zip zs).lookup p with
  | some v=>v::qM ps [] ks zs ns ds
  | none=>match (ns.zip ds).lookup p with
   | some v=>v::qM ps [] ks zs ns ds
   | none=>qM ps [] ks zs ns ds
theorem ph{α β:Type}{R:α->β->Prop}{p:Str}:∀{ks:List Str}{xs:List α}{ys:List β},Paired R xs ys->match (ks.zip xs).lookup p,(ks.zip ys).lookup p with
   | some x,some y=>R x y
   | none,none=>True
   | _,_=>False
 | [],_,_,_=>trivial
 | _::_,_,_,.nil=>trivial
 | k::ks,_,_,.cons r t=>by
  rw[List.zip_cons_cons,List.zip_cons_cons,qQ3,qQ3]
  cases p == k with
  | true=>exact r
  | false=>exact ph t
theorem fH{α β:Type}{R:α->β->Prop}{ks ns:List Str}{zs ds:List α}{ws es:List β}(rz:Paired R zs ws)(rd:Paired R ds es):∀{ps:List Str}{as:List α}{bs:List β},Paired R as bs->Paired R (qM ps as ks zs ns ds) (qM ps bs ks ws ns es)
 | [],_,_,_=>.nil
 | _::ps,_,_,.cons r t=>.cons r (fH rz rd t)
 | p::ps,_,_,.nil=>by
  have l1:=ph (p:=p) (ks:=ks) rz
  have l2:=ph (p:=p) (ks:=ns) rd
  unfold qM
  cases e1:(ks.zip zs).lookup p <;> cases e2:(ks.zip ws).lookup p <;> rw[e1,e2] at l1
  ·cases e3:(ns.zip ds).lookup p <;> cases e4:(ns.zip es).lookup p <;> rw[e3,e4] at l2
   ·exact fH rz rd .nil
   ·exact l2.elim
   ·exact l2.elim
   ·exact .cons l2 (fH rz rd .nil)
  ·exact l1.elim
  ·exact l1.elim
  ·exact .cons l1 (fH rz rd .nil)
def Ym(K:Ki)(fd:FuncData)(F:Fn)(n:Nat)(ks ns:List Str)(ds:List MV):Prop:=∃(dV:List V) (mv:List Value),(∀g,RVs K g ds dV)/\KBn K.K fd F.ps n ks (λus ws=>qM F.ps us ks ws ns mv) (λvs zs=>qM F.ps vs ks zs ns dV)
structure Cu(P:Program)(w:World)(K:PySem.W.Frag)(mg:Str->Option Value)(base:Heap)(k:Nat)(f:Addr)(fd:FuncData)(F:Fn):Prop where
 ok:FnOk P w K mg base (L2N.CX P w) k f fd F.ps (spM ⟨K,P,w⟩ F.ps.length F.M)
 kp:PySem.W.keepIn K (.ref f)=true
 pos:0<k
section
variable{P:Program}{w:World}{K:PySem.W.Frag}{mg:Str->Option Value}{base:Heap}{k:Nat}{f:Addr}{fd:FuncData}{qual:Str}{params:Arguments}{body:List Stmt}{scope:Scope}{dvs:List V}{kwd:List (Str × V)}{N:List Str}{gA:List Str}{cst:List (Str × MV)}{x:Str}
theorem Cu.mono{j:Nat}{F:Fn}(c:Cu P w K mg base j f fd F)(h:j<=k):Cu P w K mg base k f fd F:=⟨c.ok.mono h,c.kp,qQ2 c.pos h⟩
theorem FnAt.u{F:Fn}(c:FnAt P w K mg base k f fd F):Cu P w K mg base k f fd F:=⟨c.ok,c.kp,c.pos⟩
theorem Cu.of{lam:Bool}(F:Fn)(FD:FunD K x qual params body scope dvs kwd f fd)(S:FnScope N F.ps scope)(mo:yw ⟨K,P,w⟩ mg gA cst){B:MSs}(nd:All (λn:dI=>n P w K mg base k) B.needs)(hB:mSs B ⟨N,scope,gA,cst,true,true,lam⟩ body=true)
  (hM:∀as m,as.length=F.ps.length->F.M as m≠.stuck->runD N.length B as m=F.M as m) (hL:lam=true->X3 K base mg fd.qualname fd.code:=by intro z;cases z):Cu P w K mg base (k+1) f fd F:=by
 have len:∀vs H Q E,spM ⟨K,P,w⟩ F.ps.length F.M vs H Q E->vs.length=F.ps.length:=λvs H Q E h=>by
  obtain⟨g,m,as,_,r,hl,_⟩:=h
  rw[<- r.length,hl]
 obtain⟨oc,od,dV,kV,doc,pm,an,cdv,ct,osl,rfl,lk,hcd,_,_⟩:=FD.ex
 exact⟨fn_of lk hcd S len λA outer s H vs Q E hr h=>v7 S mo nd hB hM hr (W:=λcls d _ H'=>E cls d H') (L2N.takes_of rfl rfl rfl rfl) (λ_ _ _ _ q=>q) hL h,FD.kp,Nat.succ_pos k⟩
theorem Ym.plain{F:Fn}(FD:FunD K x qual params body scope [] kwd f fd)(n:Nat)(ks:List Str)
  (h:∀(kV doc pm:Value) (an:Option Addr) (cdv ct:Value) (us ws:List Value),us.length=n->ws.length=ks.length->bindArgs (PySem.W.fnOf x qual params body scope .none kV doc pm an cdv ct) ⟨us,ks.zip ws⟩=pure (F.ps.zip (qM F.ps us ks ws [] []))):Ym ⟨K,P,w⟩ fd F n ks [] []:=by
 obtain⟨oc,od,dV,kV,doc,pm,an,cdv,ct,osl,rfl,lk,hcd,hD,hK⟩:=FD.ex
 rcases hD with⟨_,rfl⟩|⟨e,_⟩
 ·exact⟨[],[],λ_=>rfl,λs us ws X l1 l2=>.of_eq (h kV doc pm an cdv ct us ws l1 l2),λr1 r2=>fH r2 .nil r1⟩
 ·exact absurd rfl e
theorem Ym.ints{F:Fn}(FD:FunD K x qual params body scope [] kwd f fd)(n:Nat)(ks ns:List Str)(is:List Int)(hk:kwd≠[])(hms:∀q∈ns.zip (is.map V.int),q∈kwd)(hl:ns.length=is.length)
  (h:∀(D:Addr) (doc pm:Value) (an:Option Addr) (cdv ct:Value) (us mv ws:List Value),us.length=n->mv.length=ns.length->ws.length=ks.length ->
   KwChain D (ns.zip mv) (bindArgs (PySem.W.fnOf x qual params body scope .none (.ref D) doc pm an cdv ct) ⟨us,ks.zip ws⟩) (F.ps.zip (qM F.ps us ks ws ns mv))):Ym ⟨K,P,w⟩ fd F n ks ns (is.map .int):=by
 have e1:(ns.zip (is.map V.int)).map (·.1)=ns:=List.map_fst_zip (by simp[hl])
 have e2:(ns.zip (is.map V.int)).map (·.2)=is.map V.int:=List.map_snd_zip (by simp[hl])
 obtain⟨mv,kb⟩:=FD.kbinds0 n ks (ns.zip (is.map V.int)) (ps:=F.ps) (λus mv ws=>qM F.ps us ks ws ns mv) hk hms (λr1 r2 r3=>fH r3 r2 r1) λD doc pm an cdv ct us mv ws l1 l2 l3=>by
  rw[e1]
  exact h D doc pm an cdv ct us mv ws l1 (by rw[l2];simp[hl]) l3
 rw[e2] at kb
 exact⟨is.map V.int,mv,λg=>RVs.map (f:=MV.int) (h:=V.int) (λx=>rfl) is,kb⟩
end
theorem CP{α β γ:Type}(r:R α)(f:α->Mem->R β)(h:β->Mem->R γ):(r.bind f).bind h=r.bind λa m=>(f a m).bind h:=by cases r <;> rfl
theorem Parts.split{X:Cx}{W:WX}:∀{es1 es2:List Expr}{fs:Sl->Mem->R (List OV)},Parts X W (es1++es2) fs->∃f1 f2,Parts X W es1 f1/\Parts X W es2 f2/\fs=λs m=>(f1 s m).bind λxs m=>(f2 s m).bind λys m=>.ok (xs++ys) m
 | [],es2,fs,p=>⟨_,fs,.nil,p,by
  funext s m
  show fs s m=(fs s m).bind _
  cases fs s m <;> rfl⟩
 | e::es1,es2,_,p=>by
  cases p with
  | @cons _ _ fe _ h t =>
   obtain⟨f1,f2,p1,p2,rfl⟩:=Parts.split t
   refine⟨_,f2,.cons h p1,p2,?_⟩
   funext s m
   unfold Uu
   simp only[CP]
   rfl
section
variable{k:Nat}{W:WX}{cf:Cfg}{X:Cx}{es:List Expr}{fs:Sl->Mem->R (List OV)}
end
section
variable{prog:Program}{w:World}{A:Around}{E:Value->Shared->Prop}{s:Shared}
end
section
variable{X:Cx}{k:Nat}{W:WX}{c:Cfg}
end
section
variable{k:Nat}{W:WX}{cf:Cfg}{X:Cx}{F:Fn}{es:List Expr}{fs:Sl->Mem->R (List OV)}{c m:Str}{px ap pos:Pos}
end
end Rc
noncomputable section
namespace RcCut
open PySem PySem.W HandSHeadRun
def KY:PySem.W.BT->List (Nat × Obj)->PySem.W.BT
 | t,[]=>t
 | t,(a,o)::r=>KY (t.ins a o) r
abbrev hK(P:Params)(x:PySem.Str):Int:=PyData.keyHash P x
section
variable(st:SharedT->Thread->Option (SharedT × Thread))(n0:Nat)(ann:Option Value)
def uN:Nat->SharedT->Thread->Option (SharedT × Thread)
 | 0,s,t=>some (s,t)
 | m+1,s,t=>match through t with
  | true=>none
  | false=>match stepOk n0 ann t with
   | false=>none
   | true=>match st s t with
    | some (s',t')=>frS s' λs'=>uN m s' t'
    | none=>none
def Eb(b:Nat):Nat->SharedT->Thread->Option (Flow × SharedT × Code × Pos)
 | 0,_,_=>none
 | m+1,s,t=>match endAt b t with
  | some f=>some (f,s,t.code,t.pos)
  | none=>match stepOk n0 ann t with
   | false=>none
   | true=>match st s t with
    | some (s',t')=>frS s' λs'=>Eb b m s' t'
    | none=>none
end
section
variable{tb:String->Option Builtin}{p:Program}{w:World}{n0:Nat}{ann:Option Value}{b:Nat}
theorem xK:∀{m:Nat}{s s':SharedT}{t t':Thread},uN (stepT (denote tb) p w) n0 ann m s t=some (s',t')->topGo tb p w n0 ann m s.abs t=some (s'.abs,t')
 | 0,_,_,_,_,h=>by cases h;rfl
 | m+1,s,s',t,t',h=>by
  unfold uN at h
  unfold topGo
  cases e1:through t with
  | true=>rw[e1] at h;cases h
  | false =>
   rw[e1] at h
   cases e2:stepOk n0 ann t with
   | false=>rw[e2] at h;cases h
   | true =>
    rw[e2] at h
    cases e3:stepT (denote tb) p w s t with
    | none=>rw[e3] at h;cases h
    | some r =>
     obtain⟨s2,t2⟩:=r
     rw[e3] at h
     have h:(frS s2 λs'=>uN (stepT (denote tb) p w) n0 ann m s' t2)=some (s',t'):=h
     rw[frS_eq] at h
     show (match step (denote tb) p w s.abs t with
      | .go s' t'=>topGo tb p w n0 ann m s' t'
      | .halt _ _=>none)=_
     rw[stepT_spec e3]
     exact xK h
theorem zU:∀{m:Nat}{s s':SharedT}{t:Thread}{f:Flow}{c:Code}{q:Pos},Eb (stepT (denote tb) p w) n0 ann b m s t=some (f,s',c,q)->segRun tb p w n0 ann b m s.abs t=some (f,s'.abs,c,q)
 | 0,_,_,_,_,_,_,h=>by cases h
 | m+1,s,s',t,f,c,q,h=>by
  unfold Eb at h
  unfold segRun
  cases e1:endAt b t with
  | some x=>rw[e1] at h;cases h;rfl
  | none =>
   rw[e1] at h
   cases e2:stepOk n0 ann t with
   | false=>rw[e2] at h;cases h
   | true =>
    rw[e2] at h
    cases e3:stepT (denote tb) p w s t with
    | none=>rw[e3] at h;cases h
    | some r =>
     obtain⟨s2,t2⟩:=r
     rw[e3] at h
     have h:(frS s2 λs'=>Eb (stepT (denote tb) p w) n0 ann b m s' t2)=some (f,s',c,q):=h
     rw[frS_eq] at h
     show (match step (denote tb) p w s.abs t with
      | .go s' t'=>segRun tb p w n0 ann b m s' t'
      | .halt _ _=>none)=_
     rw[stepT_spec e3]
     exact zU h
end
def exQ:List Stmt->Env->Sem Flow:=PySem.W.Fast.tw12563942051412417395
theorem UW:@PySem.execs=exQ:=PySem.W.Fast.te12563942051412417395
def pcQ(l:List Stmt)(env:Env)(c:Code)(p:Pos)(B:List Frame):Thread:=⟨(exQ l env).wrap doneF deadEnd id id,c,p,B⟩
theorem Ub:pcQ=piecesOf:=by
 unfold pcQ
 rw[<- UW]
abbrev stQ(p:Program)(w:World):SharedT->Thread->Option (SharedT × Thread):=stepQ (denQ tabQ) p w
theorem Bu(p:Program)(w:World):stQ p w=stepT (denote treeTable) p w:=by
 unfold stQ
 rw[<- stepQ_eq,<- denQ_eq,<- tabQ_eq]
section
variable{p:Program}{w:World}{n0:Nat}{ann:Option Value}{env:Env}{q:Pos}{n N:Nat}{s s':SharedT}{r:Shared}{c:Code}{pos p':Pos}
theorem Kv{t t':Thread}(h:uN (stQ p w) n0 ann n s t=some (s',t'))(k:topRun treeTable p w n0 ann N s'.abs t'=some r):topRun treeTable p w n0 ann (n+N) s.abs t=some r:=by
 rw[Bu] at h
 exact go_top (xK h) k
theorem Cr{b:List Stmt}(h:Eb (stQ p w) n0 ann 1 n s (blockOf b env c pos [topFrame q])=some (.next,s',c,p'))(k:topRun treeTable p w n0 ann N s'.abs (restOf b env c p' [topFrame q])=some r):
  topRun treeTable p w n0 ann (n+N) s.abs ⟨denQ tabQ (.body b env),c,pos,[topFrame q]⟩=some r:=by
 rw[Bu] at h
 rw[<- tabQ_eq,<- denQ_eq]
 exact piece_block (zU h) k
theorem kh{l rest:List Stmt}(h:Eb (stQ p w) n0 ann 1 n s (pcQ l env c pos [topFrame q])=some (.next,s',c,p'))(k:topRun treeTable p w n0 ann N s'.abs (restOf rest env c p' [topFrame q])=some r):
  topRun treeTable p w n0 ann (n+N) s.abs (restOf (l++rest) env c pos [topFrame q])=some r:=by
 rw[Bu,Ub] at h
 exact piece_app (zU h) k
theorem JN(h:goF (stQ p w) n0 ann N s ⟨doneF .next,c,pos,[topFrame q]⟩=some s'):topRun treeTable p w n0 ann N s.abs (restOf [] env c pos [topFrame q])=some s'.abs:=by
 rw[Bu] at h
 exact piece_nil (goF_ok h)
end
def UT(w:World)(os:OsState)(t:PySem.W.BT)(n:Nat):SharedT:=⟨t,n,(boot_heap w.params).life,#[],boot_drawn,boot_toks,os⟩
theorem FW{w:World}{os:OsState}{t:PySem.W.BT}{n:Nat}(h:putAll (boot_heap w.params).objs.toList .nil 0=some (t,n)):(UT w os t n).abs=⟨boot_heap w.params,#[],boot_drawn,boot_toks,os⟩:=by
 show (⟨absHeap t n (boot_heap w.params).life,_,_,_,_⟩:Shared)=_
 rw[putAll_heap h]
 rfl
def wB(T:Params->PySem.W.BT)(n:Nat)(d:Drawn)(k:Nat)(w:World)(os:OsState):SharedT:=⟨T w.params,n,(boot_heap w.params).life,#[],d,k,os⟩
theorem Kz{p q:Program}{loose:List PySem.Str}{Xt:Shared->Bool}{α:Type}{Yf:Shared->α}{Ya:World->α}{m0:Nat}{ann:Option Value}{M:Nat}{T:Params->PySem.W.BT}{n:Nat}{d:Drawn}{k:Nat}{ob:SharedT->α}(ho:∀s:SharedT,ob s=Yf s.abs)
  (e:opening p=plainProg p.main.scope.names) (f:∀s,fenceModules? p s=some s) (le:Nat.ble M 60000=true) (size:∀w:World,((boot_heap w.params).isNs mainGlobals&&(#[]:Array GenState).size == 0,(boot_heap w.params).objs.size,(boot_heap w.params).nsMap mainGlobals "__annotations__")=(true,m0,ann))
  (run:∀(w:World) (os:OsState),topRun treeTable p w m0 ann M ⟨boot_heap w.params,#[],boot_drawn,boot_toks,os⟩ (topStub p)=some (wB T n d k w os).abs)
  (l1:∀(w:World) (os:OsState),looksF p (boot_heap w.params) (wB T n d k w os).abs=true) (l2:∀(w:World) (os:OsState),seenQ q loose (importedModules p.main.body) Xt (wB T n d k w os).abs=openGood q loose)
  (l3:∀(w:World) (os:OsState),ob (wB T n d k w os)=Ya w):LeftO p q loose Xt Yf Ya 60000 true :=
 LeftO.of_pieces (H₀:=boot_heap) (H₁:=λP=>absHeap (T P) n (boot_heap P).life) (M:=M) (boot_open e (by decide) f) size run le λw=>funext λos=>by
  refine Prod.ext (l1 w os) (Prod.ext ?_ ?_)
  ·show openSeen q loose (importedModules p.main.body) Xt true (wB T n d k w os).abs=_
   rw[seenQ_eq]
   exact l2 w os
  ·show Yf (wB T n d k w os).abs=_
   rw[<- ho]
   exact l3 w os
theorem JH{r:OpenRow}{q:Program}{H:Hook}{loose:List PySem.Str}{d:DefRec}{kwd:List (PySem.Str × PySem.Expr)}{N:Nat}(left:LeftO r.prog q loose (λs=>xlAt q [] s&&recOk r.toRowW.records s) H.obs H.val N true)
  (g1:defOf q r.name=some (d,kwd)) (g2:r.prog.theDef r.name=some (d.params,d.body,d.scope)) (g3:kwWritten? d.params.kwonlyargs d.params.kw_defaults=some kwd)
  (g4:(!r.writes || r.records.isEmpty)=true) (g5:r.wellSaid=true) (g6:(chainsOk q&&opensWell r.prog&&(frees r.toRowW&&r.within.isEmpty))=true) (g7:r.prog.bare) (g8:r.toRowW.promised)
  (walk:WalkO q loose (XL q []) H.says r.toRowW d kwd λf vs=>PySem.call f vs):r.Holds :=
 holds_open (XP:=XL q []) (YP:=H.says) left H.of H.keeps
  (λs z=>xl_of s (qQr.mp z).1) XL.keeps g1 g2 g3
  (λs z=>recFacts_of (qQr.mp z).2) g4 g5 g6 g7 g8 walk
end RcCut
namespace Rc
open PySem PySem.Spec L2
open PyProof.Rows hiding St
abbrev Kg(as:List Addr)(g:Addr->Option Obj):PySem.W.Frag:=He.frG g as
def Ko(as:List Addr)(fa:List He.Fa)(xf:List Xf)(fn:List He.DefD)(ts:List He.Tab)(er:List wF)(g:Addr->Option Obj):AlX:=adZ fa xf fn ts er (Kg as g) g
def VP(as:List Addr)(fa:List He.Fa)(xf:List Xf)(fn:List He.DefD)(ts:List He.Tab)(er:List wF):PySem.W.Hook where
 α:=AlX
 obs:=λs=>Ko as fa xf fn ts er s.heap.get?
 val:=λw=>valX fn ts er w
 says:=λw h=>∃K:PySem.W.Frag,K.In h/\rK fa xf fn ts er w K h
 of:=λ_ _ e=>⟨_,He.frG_in,congrArg (λz:AlX=>z.1) e,congrArg (λz:AlX=>z.2.1) e,congrArg (λz:AlX=>z.2.2.1) e,JW He.frG_in (congrArg (λz:AlX=>z.2.2.2) e)⟩
 keeps:=λ_ _ _ ⟨K,hK,c⟩ k=>⟨K,PySem.W.Frag.In.keeps hK k,c.f,c.t,c.e,c.b.keeps k⟩
theorem JM{as:List Addr}{fa:List He.Fa}{xf:List Xf}{fn:List He.DefD}{ts:List He.Tab}{er:List wF}{g:Addr->Option Obj}{s:Shared}(h:∀a,g a=s.heap.get? a):Ko as fa xf fn ts er g=(VP as fa xf fn ts er).obs s:=by
 have e:g=s.heap.get?:=funext h
 rw[e] <;> rfl
theorem G5{n:List Addr}{fa:List He.Fa}{xf:List Xf}{fn:List He.DefD}{ts:List He.Tab}{er:List wF}{g:Addr->Option Obj}{w:World}(p1:((fa.all λf=>f.ok (Kg n g))&&fn.all λd=>d.ok (Kg n g))=true)(p3:(fn.map λd=>He.fnW (Kg n g) d.at_)=fn.map He.DefD.val)
  (p4:(xf.all λx=>x.ok (Kg n g))=true) (p5:((ts.map λt=>He.dicW (Kg n g) (t.1 (Kg n g))),(er.map λd=>Ql (Kg n g) (d.ad (Kg n g))),tabsB (Kg n g) g)=((ts.map λt=>some (He.keysIn w.params t.2)),er.map wF.val,true)) :
  Ko n fa xf fn ts er g=valX fn ts er w:=by
 show ((((fa.all λf=>f.ok (Kg n g))&&fn.all λd=>d.ok (Kg n g))&&xf.all λx=>x.ok (Kg n g),fn.map λd=>He.fnW (Kg n g) d.at_),((ts.map λt=>He.dicW (Kg n g) (t.1 (Kg n g))),(er.map λd=>Ql (Kg n g) (d.ad (Kg n g))),tabsB (Kg n g) g))=_
 rw[p1,p3,p4,p5]
 rfl
end Rc
namespace RcCut
open PySem PySem.W
abbrev hT(xs:Array Value):Obj:=⟨.type "tuple",none,.seq xs 0,#[]⟩
abbrev hN(xs:Array Value):Obj:=⟨.none,none,.fields xs,#[]⟩
abbrev hY(c:String)(xs:Array Value):Obj:=⟨.type c,none,.fields xs,#[]⟩
abbrev hD(xs:Array (DictEntry))(n:Nat):Obj:=⟨.type "dict",none,.dict xs n,#[]⟩
abbrev hG(c:Value)(a b:Str)(s:Stmt)(g:Addr)(cl:List (Str × Addr))(d k dc pm:Value)(an:Option Addr)(cd ct:Value)(bn:Addr):Obj:=⟨c,none,.func ⟨a,b,L2.defArgs s,.stmts (L2.defBody s),L2.defScope s,g,cl,d,k,dc,pm,an,cd,ct,bn⟩,#[]⟩
abbrev hS(a b:Str)(s:Stmt):Obj:=hG .none a b s 0 [] .none .none .none .none none .none .none 0
abbrev hF(a b:Str)(s:Stmt)(g:Addr)(z:Str)(t:Nat)(cd:Value)(n:Addr):Obj:=hG (.type "function") a b s g [] .none .none .none (.str z t) none cd .none n
abbrev hC(n:Str)(tn:Nat)(q:Str)(tq t:Nat)(i j k l m:Int)(a:Value)(b:Bool)(x:Int)(c d e f g:Value)(y z:Int)(u:Nat):Obj :=
 ⟨.type "code",none,.fields #[.str n tn,.str q tq,.str "/claim/cut.py" t,.int i 0,.int j 0,.int k 0,.int l 0,.int m 0,a,.bool b,.int x 0,c,d,e,f,g,.int y 0,.int z 0,.str "/claim/cut.py" u],#[]⟩
def putL:PySem.W.BT->List (List (Nat × Obj))->PySem.W.BT
 | t,[]=>t
 | t,l::r=>putL (KY t l) r
def nmv:Nat->List Str->List Value
 | _,[]=>[]
 | t,x::r=>.str x t::nmv (t+1) r
abbrev hX(t:Nat)(xs:List Str):Obj:=hT ⟨nmv t xs⟩
def tri(c:Int):List (Int × Nat)->List Value
 | []=>[]
 | (i,a)::r=>.int i 0::.int c 0::.ref a::tri c r
abbrev h3(c:Int)(l:List (Int × Nat)):Obj:=hN ⟨tri c l⟩
abbrev eV(P:Params)(x:Str)(n:Nat)(v:Value):DictEntry:=⟨hK P x,.str x n,v⟩
def eR(P:Params):List (Str × Nat × Nat)->List DictEntry
 | []=>[]
 | (x,n,a)::r=>eV P x n (.ref a)::eR P r
abbrev hE(l:List DictEntry)(n:Nat):Obj:=⟨.type "dict",none,.dict ⟨l⟩ n,#[]⟩
def f5(a:Nat)(n q:Str)(s:Stmt)(t:Nat)(i j m:Int)(z:Str)(zt:Nat)(B:Obj):List (Nat × Obj) :=
 [(a,hT #[]),(a+1,B),(a+2,hS n q s),(a+3,hC n t q (t+1) (t+2) i j 0 0 m (.ref a) true 181 (.ref (a+1)) .none .none .none (.ref (a+2)) (t+3:Nat) i (t+4)),(a+4,hF n q s 3 z zt (.ref (a+3)) 0)]
def f7(a:Nat)(n q:Str)(s:Stmt)(t:Nat)(i j m:Int)(z:Str)(zt:Nat)(B:Obj)(A cs:List Str):List (Nat × Obj) :=
 [(a,hX (t+3) A),(a+1,B),(a+2,hX (t+3+A.length) cs),(a+3,hT #[]),(a+4,hS n q s),(a+5,hC n t q (t+1) (t+2) i j 0 0 m (.ref a) true 181 (.ref (a+1)) .none (.ref (a+2)) (.ref (a+3)) (.ref (a+4)) (t+3+A.length+cs.length:Nat) i (t+4+A.length+cs.length)),(a+6,hF n q s 3 z zt (.ref (a+5)) 0)]
abbrev hM(c d:Nat)(z:Str)(t:Nat):Obj:=⟨.type "frame",none,.plain,#[some (.ref c),some (.ref 3),some (.ref d),none,some (.str z t),none,some (.ref 0)]⟩
def eO(P:Params)(a b p:Nat)(N f x y:Str)(s:Stmt)(i i2:Int)(z:Str)(zt:Nat):List (Nat × Obj) :=
 [(a,hT #[.ref p]),(a+1,hY "builtin_function_or_method" #[.builtin "type.__prepare__",.type "type"]),
 (a+2,hE [eV P "__module__" (b+7) (.str z zt),eV P "__qualname__" (b+9) (.str N (b+8)),eV P "__firstlineno__" (b+11) (.int i (b+10)),eV P "__init__" (b+20) (.ref (a+15)),eV P "__static_attributes__" (b+23) (.ref (a+16)),eV P "__classcell__" (b+24) (.ref (a+3))] 6),
 (a+3,⟨.type "cell",none,.cell (some (.ref (a+18))),#[]⟩),(a+4,hT #[]),(a+5,h3 4 [(i2,a+14)]),(a+6,hC N (b+2) N (b+3) (b+4) i 0 0 0 0 (.ref (a+4)) false 181 (.ref (a+5)) .none .none .none .none (b+5:Nat) i (b+6)),
 (a+7,hM (a+6) (a+2) z zt),(a+8,hT #[.ref (a+3)]),(a+9,hX (b+15) ["__class__"]),(a+10,hN #[]),(a+11,hX (b+16) ["self",f]),(a+12,hT #[]),(a+13,hS "__init__" (N++".__init__") s),
 (a+14,hC "__init__" (b+12) (N++".__init__") (b+13) (b+14) i2 2 0 0 3 (.ref (a+9)) true 181 (.ref (a+10)) .none (.ref (a+11)) (.ref (a+12)) (.ref (a+13)) (b+18:Nat) i2 (b+19)),
 (a+15,hG (.type "function") "__init__" (N++".__init__") s 3 [("__class__",a+3)] .none .none .none (.str z zt) none (.ref (a+14)) (.ref (a+8)) 0),(a+16,hX (b+21) [x,y]),
 (a+17,hE [eV P "__module__" (b+7) (.str z zt),eV P "__firstlineno__" (b+11) (.int i (b+10)),eV P "__init__" (b+20) (.ref (a+15)),eV P "__static_attributes__" (b+23) (.ref (a+16)),eV P "__doc__" (b+25) .none] 3),
 (a+18,⟨.type "type",none,.cls ⟨N,[.ref p],[.ref (a+18),.ref p,.type "ValueError",.type "Exception",.type "BaseException",.type "object"],a+17,N,true,[],[],false,none,false⟩,#[some (.ref a),none,some (.str N b),some (.str N (b+8)),some (.builtin "ValueError.__new__"),some (.bool true)]⟩),
 (a+19,hY "super" #[.ref (a+18),.ref (a+18),.ref (a+18)]),(a+20,hY "builtin_function_or_method" #[.builtin "object.__init_subclass__",.ref (a+18)])]
section
open PySem PySem.Spec L2
open PyProof.Rows hiding St
abbrev dT(x:Str)(s:Stmt):He.DefD:=⟨(x,none),x,x,defArgs s,defBody s,defScope s,[],[]⟩
abbrev dM(c x q:Str)(s:Stmt):He.DefD:=⟨(c,some x),x,q,defArgs s,defBody s,defScope s,[],[]⟩
end
end RcCut
namespace Rc
open PySem PySem.Spec L2
open PyProof.Rows hiding St
section
variable{X:Cx}
theorem Fw{pins:List (Addr × Obj)}{σ:L2.St}{H1 H2:Hp}{hp hp2 h2:Heap}{g1 g2:Array GenState}{d1 d2:Drawn}{t1 t2:Nat}{os1 os2:OsState}{a C d:Addr}{fs:List (Str × V)}(I1:L2.Inv X pins σ H1 ⟨hp,g1,d1,t1,os1⟩)
  (ha:hp.objs.size<=a) (k:∀b o,hp.get? b=some o->hp2.get? b=some o) (un:Un (frs X.stack) [] (upd H1 a (exo a C none)) H2 hp2 h2) (hok:HOk X.prog X.w H2 h2) (ho:os2=os1) (hb:AllBare g2)
  (ea:H2 a=some (exo a C (some d))) (ed:H2 d=some (exd d fs)) (hd1:H1 d=none):L2.Inv X pins σ (upd H2 d (.xd fs)) ⟨h2,g2,d2,t2,os2⟩:=by
 obtain⟨mA,hns,rel⟩:=exd_at hok ed
 have hn:H1 a=none:=I1.hok.fresh ha
 have nha:∀{b:Addr}{o:Obj},hp.get? b=some o->b≠a:=λ{b o} z=>Nat.ne_of_lt (qQ2 (Heap.lt_size z) ha)
 have up:∀{b:Addr},b≠a->H1 b=none->upd H1 a (exo a C none) b=none:=λ{b} hb n=>by rw[upd_ne hb];exact n
 have nd:∀{b:Addr}{o:Obj},hp.get? b=some o->H1 b=none->b≠d:=λ{b o} z n e=>by
  have y:=un.free b o (k b o z) (up (nha z) n) (by simp)
  rw[e,ed] at y
  cases y
 have U:Un (frs X.stack) [] H1 (upd H2 d (.xd fs)) hp h2:={
  keep:=λb o z n hf hx=>un.keep b o (k b o z) (up (nha z) n) hf hx
  slot:=λb o z n hf hx=>un.slot b o (k b o z) (up (nha z) n) hf hx
  free:=λb o z n hx=>by
   rw[upd_ne (nd z n)]
   exact un.free b o (k b o z) (up (nha z) n) hx
  there:=λb o z hx=>un.there b o (k b o z) hx
  tups:=λb xs z=>by
   rw[upd_ne (ne_of_none z hd1)]
   exact un.tups b xs (by rw[upd_ne (ne_of_none z hn)];exact z)
  frzs:=λb o v z=>by
   rw[upd_ne (ne_of_none z hd1)]
   exact un.frzs b o v (by rw[upd_ne (ne_of_none z hn)];exact z)
  tbls:=λb ps z=>by
   rw[upd_ne (ne_of_none z hd1)]
   exact un.tbls b ps (by rw[upd_ne (ne_of_none z hn)];exact z) }
 have hok3:HOk X.prog X.w (upd H2 d (.xd fs)) h2:=λb o z=>by
  by_cases hbd:b=d
  ·subst hbd
   rw[upd_same] at z
   cases z
   exact⟨mA,hns,rel⟩
  ·rw[upd_ne hbd] at z
   exact (hok b o z).stay (λc v hc y=>y) (λc hc=>by rw[upd_ne (at_ne ed hc exd_own)];exact hc) (λc xs hc=>by rw[upd_ne (at_ne ed hc exd_tup)];exact hc)
 exact I1.call' (ch:=[]) ho U hok3 hb (λb z=>absurd z (by simp))
def aey(C:Addr)(sp:Sp)(ta:TA):TE:=fun σ H Q=>ta σ H λvs H1=>vs.length<=1000/\∀a,H1 a=none->sp (.ref a::vs) (upd H1 a (exo a C none))
 (λv H2=>v=.non/\∃(d:Addr) (fs:List (Str × V)),H2 a=some (exo a C (some d))/\H2 d=some (exd d fs)/\H1 d=none/\Q (.ref a) (upd H2 d (.xd fs))) (λ_ _ _=>False)
variable{CX:CXT}{x:Str}{e:Expr}{es:List Expr}{ta:TA}{p pos:Pos}{C fI:Addr}{k:Nat}{fd:FuncData}{ps:List Str}{sp:Sp}
theorem QS{b:du}(T:DR b X.K C)(iC:PySem.W.findIn X.K (.ref C) "__init__" = some (some (.ref fI)))(tI:PySem.W.typeIn X.K (.ref fI)=some (.type "function"))
  (F1:FnOk X.prog X.w X.K X.mg X.base CX k fI fd ps sp) (hr:Room (k+1) X.A) (hb:Binds X.K fd ps []) (hx:Passes CX X (λ_ _ _=>False)) (hg:Gl X x) (hm:X.mg x=some (.ref C)) (ha:PA X (e::es) ta)
  (hdb:(x == ("__debug__":Str))=false) (he:starEach (e::es) X.env=(false,eval e X.env)::starEach es X.env) (hpl:(backTo pos (starEach es X.env)).any (·.1)=false) :
  PE X (.Call (.Name x p) (e::es) [] pos) (aey C sp ta):=by
 refine⟨λpins s σ H Q I h=>?_⟩
 obtain⟨nm,q,N,bs,bm,sn,sub,ab,col,dd,k0,k1,k2,k3,k5,hC,hbm⟩:=T.cls
 refine wpAny_Call_Name_kw (ld_glob I hg hm ?_ hdb)
 refine PySem.W.callWith_K (h₀:=X.base) I.ok.mod.kin T.kC (thn (ha.run pos pins s σ H _ I h) λus s1 ⟨vs,H1,I1,r1,hz,q1⟩=>⟨I1.kIn,?_⟩) he hpl
 show wpAny _ _ (call (.ref C) us) _ _ _
 obtain⟨hp,g,dr,tk,os⟩:=s1
 let hh:Heap:=(hp.push (PySem.W.kdv_tup us)).push (PySem.HandSPX.excO C hp.objs.size)
 let a:Addr:=hp.objs.size+1
 have hsz:hp.objs.size<=a:=Nat.le_succ _
 have hq:=q1 a (I1.hok.fresh hsz)
 have kk:∀b o,hp.get? b=some o->hh.get? b=some o:=λb o z=>qQu _ (qQu _ z)
 have hget:hh.get? a=some (PySem.HandSPX.excO C hp.objs.size):=by
  show ((hp.push (PySem.W.kdv_tup us)).push (PySem.HandSPX.excO C hp.objs.size)).get? (hp.objs.size+1)=_
  heap_get
 have I2:L2.Inv X pins σ (upd H1 a (exo a C none)) ⟨hh,g,dr,tk,os⟩:=I1.laid (t':=tk) kk hsz (exo_ok hget)
 have r2:Vals (V.ref a::vs) (Value.ref a::us):=.cons rfl r1
 have hl:(Value.ref a::us++[]).length=ps.length:=by
  rw[qQy,<- r2.length]
  exact F1.len _ _ _ _ hq
 have hus:us.length<=sizeLine:=by
  rw[<- Paired.length r1,sizeLine_eq]
  omega
 have hb2:=hb ⟨hh,g,dr,tk,os⟩ (Value.ref a::us) I2.kIn hl
 rw[qQy] at hb2
 have walk:=F1.run (X.A.under (.builtin "type.__call__" ⟨.ref C::us,[]⟩)) X.stack _ _ ⟨Value.ref a::us,[]⟩ (Value.ref a::us) _ _ (λ_ _ _=>False) (hr.make C us []) (I2.env0.make C us []) hb2 r2 hq
 refine wpAny_call (PySem.HandSPX.call_own T.ok.fac (λY=>T.ok.has Y bm hbm) (I1.kIn _ _ hC) (PySem.W.looks_findIn I1.kIn iC) (λself=>PySem.W.bind_fn I1.kIn self tI) hus (codeAny_mono walk λr s' hq'=>?_))
 match r,hq' with
 | .error er,hq'=>exact hx pins σ _ _ er s' I2 hq'
 | .ok .next,hq'=>exact False.elim hq'
 | .ok .brk,hq'=>exact False.elim hq'
 | .ok .cont,hq'=>exact False.elim hq'
 | .ok (.ret u),hq' =>
  obtain⟨v,H2,os2,bare2,un2,hok2,rv,ev,d,fs,ea,ed,hd1,q2⟩:=hq'
  subst ev
  obtain⟨h2,g2,d2,t2,os'⟩:=s'
  exact⟨rv,.ref a,_,Fw (d2:=d2) (t2:=t2) I1 hsz kk un2 hok2 os2 bare2 ea ed hd1,rfl,q2⟩
end
def RB(x f code:Str):List OV->Mem->R OV
 | [.v v],m=>.ok (.v (.exn x [f,"code"] [v,.str code])) m
 | _,_=>.stuck
theorem Ah{x f code:Str}{K:Ki}{E:XK}{g:G}{H:Hp}{m:Mem}{Q:VK}{v:OV}(h:eZ K E g H (RB x f code [v] m) Q):∃y,v=.v y:=by
 cases v with
 | v y=>exact⟨y,rfl⟩
 | b o=>exact h.elim
def tW(bs:du)(x g f code:Str):o9 where
 need:=[cU bs x g f code]
 parts:=λc e=>match e with
  | .Call (.Name y _) [e] [] _=>if (decide (y=x)&&gbB c x&&cR e)=true then some [e] else none
  | _=>none
 F:=RB x f code
 ok:=λ{k W c X e es fs} ok nd h p=>by
  split at h <;> try contradiction
  split at h <;> cases h
  rename_i yy pp0 ee pp1 hb
  simp only[qQb,qQs] at hb
  obtain⟨⟨ey,h3⟩,h4⟩:=hb
  subst ey
  obtain⟨c0,hm,⟨j,hj,F1⟩,hbi⟩:=nd _ (qQc ..)
  obtain⟨hg,hdb,_⟩:=ok.gl h3
  obtain⟨fa,e1,e2⟩:=p.p1
  rw[e2]
  refine (QS c0.T c0.iC c0.tI F1 ((ok.room (qQ2 (Nat.succ_pos j) hj)).mono hj) hbi (λpins σ H s e s' I z=>L2N.passes_call (W:=W) ok.tk (λ_ _ _ _ z=>z.elim) pins σ H s e s' I z) hg hm (pa_cons e1 pa_nil (hs:=dH h4)) hdb (dH h4) rfl).weaken fun σ H Q q=>?_
  obtain⟨g0,s,m,rs,rl,pp⟩:=q
  refine⟨g0,s,m,rs,rl,(dG.bind pp).imp λv H1 ⟨x1,g1,m1,rs1,st1,r1,p1⟩=>?_⟩
  obtain⟨y,rfl⟩:=Ah p1
  refine⟨by simp,λa na=>⟨a,v,rfl,upd_same,λdx hdx ne=>⟨rfl,dx,_,(upd_ne (Ne.symm ne)).trans upd_same,upd_same,?_,?_⟩⟩⟩
  ·rw[upd_ne ne] at hdx
   exact hdx
  ·rw[upd_ne ne] at hdx
   have eH:∀(o1 o2 o3 o4 o5:HO),upd (upd (upd (upd (upd H1 a o1) dx o2) a o3) dx o4) dx o5=upd (upd H1 a o3) dx o5:=λo1 o2 o3 o4 o5=>by
    funext b
    by_cases hb:b=dx
    ·rw[hb,upd_same,upd_same]
    ·rw[upd_ne hb,upd_ne hb,upd_ne hb]
     by_cases hba:b=a
     ·rw[hba,upd_same,upd_same]
     ·rw[upd_ne hba,upd_ne hb,upd_ne hba,upd_ne hba]
   rw[eH]
   obtain⟨rs2,st2⟩:=rs1.freeze (o:=exo a (He.ga X.K yy) (some dx)) na
   have hdx2:upd H1 a (exo a (He.ga X.K yy) (some dx)) dx=none:=by rw[upd_ne ne];exact hdx
   obtain⟨rs3,st3⟩:=rs2.freeze (o:=.xd [(f,v),("code",.str code)]) hdx2
   refine p1 _ _ _ rs3 (st2.trans st3) ⟨a,dx,_,[(f,v),("code",.str code)],rfl,(upd_ne (Ne.symm ne)).trans upd_same,?_,upd_same,rfl,v,_,rfl,RV.st (RV.st (show RV X.ki g1 y v from r1) st2) st3,_,_,rfl,rfl,rfl⟩
   rintro h ⟨t1,ht⟩
   exact⟨_,_,ht,rfl,rfl,rfl⟩
end Rc
namespace PySem
namespace HandSPX
section
variable{M:Model}{A:Around}{E:Value->Shared->Prop}{h:Heap}{g:Array GenState}{d:Drawn}{t:Nat}{os:OsState}
variable{nm q:Str}{C N:Addr}{bs bm bmB:List Value}{hdct:Bool}{sn:List Str}{sub:List Value}{ab:Bool}{col:Option Bool}{dd:Option Addr}{k0 k1 k2 k3 k5:Option Value}{B newId initId:String}
theorem xU(F:ExcBaseFacts B newId initId bmB)(hT:∀X:String,bm.contains (.type X)=bmB.contains (.type X)){kw:List (Str × Value)}{Q:Unit->Shared->Prop}
  (hC:h.get? C=some (excClassObj nm q C N bs bm hdct sn sub ab col dd k0 k1 k2 k3 k5 newId)) (hq:Q () ⟨h,g,d,t,os⟩):wpAny M A (checkBuiltinCall newId ⟨[.ref C],kw⟩) Q E ⟨h,g,d,t,os⟩:=by
 have hcont:(Value.ref C::bm).contains (.type B)=true:=by rw[List.contains_cons,hT,F.hasB,Bool.or_true]
 have hstar:=F.noStar
 simp only[checkBuiltinCall,F.newKind,F.newSplit,F.newRow]
 repeat (first|refine wpAny_loadPart_at hC ?_|(refine wpAny_isSubtype_exc hC ?_;rw[hcont])|refine wpAny_staticBase_exc hC ?_|refine wpAny_madeBy_exc hC ?_|simp only[bne_self_eq_false,Bool.false_eq_true,if_false]|wp_step)
 exact hq
end
section
variable{prog:Program}{w:World}{A:Around}{E:Value->Shared->Prop}{R:Result->Shared->Prop}{h:Heap}{g:Array GenState}{d:Drawn}{t:Nat}{os:OsState}
variable{nm q:Str}{C N:Addr}{bs bm bmB:List Value}{hdct:Bool}{sn:List Str}{sub:List Value}{ab:Bool}{col:Option Bool}{dd:Option Addr}{k0 k1 k2 k3 k5:Option Value}{B newId initId:String}
theorem Vm(F:ExcBaseFacts B newId initId bmB)(hT:∀X:String,bm.contains (.type X)=bmB.contains (.type X)){kw:List (Str × Value)}
  (hC:h.get? C=some (excClassObj nm q C N bs bm hdct sn sub ab col dd k0 k1 k2 k3 k5 newId))
  (hq:R (.ok (.ret (.ref (h.objs.size+1)))) ⟨(h.push { cls:=.type "tuple",data:=.seq ([]:List Value).toArray }).push
   { cls:=.ref C,data:=.fields #[.ref h.objs.size,.none,.none,.none,.bool false,.none] },g,d,t,os⟩) :
  codeAny (model prog w) A (.builtin newId ⟨[.ref C],kw⟩) R ⟨h,g,d,t,os⟩:=by
 have hends:=F.ends
 have hcB:(Value.ref C::bm).contains (.type B)=true:=by rw[List.contains_cons,hT,F.hasB,Bool.or_true]
 have hcA:(Value.ref C::bm).contains (.type "AttributeError")=false:=by rw[List.contains_cons,hT,F.noAttr];rfl
 have hcN:(Value.ref C::bm).contains (.type "NameError")=false:=by rw[List.contains_cons,hT,F.noName];rfl
 refine codeAny_builtinAt F.entry ?_
 unfold Builtin.«BaseException.__new__»
 refine wpAt_bind ?_
 show wpAt _ _ _ (stack >>= _) _ _ _
 refine wpAt_bind (wpAt_stack λp below=>wpAt_of_wpAny ?_)
 wp_walk
 refine wpAt_of_wpAny ?_
 rw[F.owner]
 repeat (first|with_reducible refine wpAny_madeHere_exc F.canon hC ?_|with_reducible refine wpAny_loadPart_at hC ?_|(with_reducible refine wpAny_isSubtype_exc hC ?_;first|rw[hcB]|rw[hcA]|rw[hcN])|wp_step)
 show R _ _
 rw[Heap.size_push]
 exact hq
theorem xG(F:ExcBaseFacts B newId initId bmB)(hT:∀X:String,bm.contains (.type X)=bmB.contains (.type X)){kw:List (Str × Value)}{fI:Addr}{Q:Fin->Shared->Prop}
  (hC:h.get? C=some (excClassObj nm q C N bs bm hdct sn sub ab col dd k0 k1 k2 k3 k5 newId))
  (hi:W.Looks (model prog w) h (typeLookup (.ref C) "__init__") (some (.ref fI))) (hb:∀self,W.Looks (model prog w) h (bindSpecial (.ref fI) self) (.ref fI,[self]))
  (hq:codeAny (model prog w) A (.call (.ref fI) ⟨[.ref (h.objs.size+1)],kw⟩)
   (λr s'=>match r with|.ok (.ret v)=>v=.none/\Q (.done (.ret (.ref (h.objs.size+1)))) s'|.ok _=>False|.error e=>E e s')
   ⟨(h.push (W.kdv_tup [])).push (excO C h.objs.size),g,d,t,os⟩) :
  wpAny (model prog w) A (Builtin.«type.__call__» ⟨[.ref C],kw⟩) Q E ⟨h,g,d,t,os⟩:=by
 repeat (first|with_reducible refine wpAny_loadPart_at hC ?_|with_reducible refine wpAny_madeBy_exc hC ?_|wp_step)
 refine codeAny_call_builtin_code (Code.quiet_builtin _ F.quiet) (xU F hT hC ?_)
 refine Vm F hT hC ?_
 show wpAny _ _ _ _ _ _
 have k:∀b o,h.get? b=some o->((h.push (W.kdv_tup [])).push (excO C h.objs.size)).get? b=some o:=λb o e=>qQu _ (qQu _ e)
 have hC₁:=k _ _ hC
 have hget:((h.push (W.kdv_tup [])).push (excO C h.objs.size)).get? (h.objs.size+1)=some (excO C h.objs.size):=by heap_get
 have hcC:(Value.ref C::bm).contains (.ref C)=true:=by simp
 have i1:=hi.keeps k
 have b1:=(hb (.ref (h.objs.size+1))).keeps k
 unfold isInstance
 repeat (first|with_reducible refine wpAny_loadPart_at hget ?_|(with_reducible refine wpAny_isSubtype_exc hC₁ ?_;rw[hcC])|wp_step)
 show wpAny _ _ (typeLookup (.ref C) _) _ _ _
 refine i1.at ?_
 refine wpAny_holding (wpAny_bind (b1.at ?_))
 refine wpAny_bind (wpAny_call (codeAny_mono hq λr s' z=>?_))
 rcases r with e|(v|_|_|_) <;> first|exact z|exact z.elim|skip
 obtain⟨rfl,z⟩:=z
 first
  | exact wpAny_pure (wpAny_pure z)
  | (wp_walk;exact z)
theorem Ou(F:ExcBaseFacts B newId initId bmB)(hT:∀X:String,bm.contains (.type X)=bmB.contains (.type X)){kw:List (Str × Value)}{fI:Addr}
  (hC:h.get? C=some (excClassObj nm q C N bs bm hdct sn sub ab col dd k0 k1 k2 k3 k5 newId))
  (hi:W.Looks (model prog w) h (typeLookup (.ref C) "__init__") (some (.ref fI))) (hb:∀self,W.Looks (model prog w) h (bindSpecial (.ref fI) self) (.ref fI,[self]))
  (hq:codeAny (model prog w) (A.under (.builtin "type.__call__" ⟨[.ref C],kw⟩)) (.call (.ref fI) ⟨[.ref (h.objs.size+1)],kw⟩) (W.InitBack (h.objs.size+1) R)
   ⟨(h.push (W.kdv_tup [])).push (excO C h.objs.size),g,d,t,os⟩) :
  codeAny (model prog w) A (.call (.ref C) ⟨[],kw⟩) R ⟨h,g,d,t,os⟩:=by
 have f1:=tc_lookup
 have f2:=tc_bind (.ref C)
 have hTy:(⟨h,g,d,t,os⟩:Shared).TypeIs (.ref C) "type":=⟨_,hC,rfl⟩
 refine codeAny_of_tree ?_
 show wpAny _ _ (callAny (.ref C) _) _ _ _
 repeat (any_goals (first|assumption|with_reducible refine wpAny_loadPart_at hC ?_|wp_step))
 refine⟨rfl,?_⟩
 refine codeAny_call_builtin_at (Code.quiet_builtin _ (by decide +kernel)) entry_typeCall (wpAny_check_type_call_sub hC (xG F hT hC hi hb ?_))
 refine codeAny_mono hq λr s' z=>?_
 rcases r with e|(v|_|_|_) <;> exact z
end
end HandSPX
end PySem
namespace Rc
open PySem PySem.Spec L2
open PyProof.Rows hiding St
def adE(C:Addr)(n:Nat)(sp:Sp)(ta:TA):TE:=fun σ H Q=>ta σ H λvs H1=>vs.length=n/\∀a,H1 a=none->sp (.ref a::vs) (upd H1 a (exo a C none))
 (λv H2=>v=.non/\∃(d:Addr) (fs:List (Str × V)),H2 a=some (exo a C (some d))/\H2 d=some (exd d fs)/\H1 d=none/\Q (.ref a) (upd H2 d (.xd fs))) (λ_ _ _=>False)
section
variable{X:Cx}{CX:CXT}{x:Str}{kws:List Keyword}{ks:List Str}{tk:TA}{p pos:Pos}{C fI:Addr}{k:Nat}{fd:FuncData}{ps:List Str}{sp:Sp}
theorem FP{b:du}(T:DR b X.K C)(iC:PySem.W.findIn X.K (.ref C) "__init__" = some (some (.ref fI)))(tI:PySem.W.typeIn X.K (.ref fI)=some (.type "function"))
  (F1:FnOk X.prog X.w X.K X.mg X.base CX k fI fd ps sp) (hr:Room (k+1) X.A) (hb:∀(s:Shared) (a:Value) (ws:List Value),X.K.In s.heap->ws.length=ks.length->BindsTo s fd ⟨[a],ks.zip ws⟩ (ps.zip (a::ws))) (hx:Passes CX X (λ_ _ _=>False)) (hg:Gl X x) (hm:X.mg x=some (.ref C)) (hkw:PK X kws tk)
  (hall:(backToKw pos (keywordEach kws X.env)).all (·.1.isSome)=true) (hks:(backToKw pos (keywordEach kws X.env)).filterMap (·.1)=ks) (hpl:(backToKw pos (keywordEach kws X.env)).any (·.1.isNone)=false)
  (hdb:(x == ("__debug__":Str))=false):PE X (.Call (.Name x p) [] kws pos) (adE C ks.length sp tk):=by
 refine⟨λpins s σ H Q I h=>?_⟩
 obtain⟨nm,q,N,bs,bm,sn,sub,ab,col,dd,k0,k1,k2,k3,k5,hC,hbm⟩:=T.cls
 refine wpAny_Call_Name_kw (ld_glob I hg hm ?_ hdb)
 refine PySem.W.callWith_KW0 (h₀:=X.base) I.ok.mod.kin T.kC hall (thn (hkw.run pos pins s σ H _ I h) λus s1 ⟨vs,H1,I1,r1,hz,q1⟩=>⟨I1.kIn,?_⟩) (by rw[hpl];rfl)
 rw[hks]
 show wpAny _ _ (call (.ref C) [] (ks.zip us)) _ _ _
 obtain⟨hp,g,dr,tok,os⟩:=s1
 let hh:Heap:=(hp.push (PySem.W.kdv_tup [])).push (PySem.HandSPX.excO C hp.objs.size)
 let a:Addr:=hp.objs.size+1
 have hsz:hp.objs.size<=a:=Nat.le_succ _
 have hq:=q1 a (I1.hok.fresh hsz)
 have kk:∀b o,hp.get? b=some o->hh.get? b=some o:=λb o z=>qQu _ (qQu _ z)
 have hget:hh.get? a=some (PySem.HandSPX.excO C hp.objs.size):=by
  show ((hp.push (PySem.W.kdv_tup [])).push (PySem.HandSPX.excO C hp.objs.size)).get? (hp.objs.size+1)=_
  heap_get
 have I2:L2.Inv X pins σ (upd H1 a (exo a C none)) ⟨hh,g,dr,tok,os⟩:=I1.laid (t':=tok) kk hsz (exo_ok hget)
 have r2:Vals (V.ref a::vs) (Value.ref a::us):=.cons rfl r1
 have hb2:=hb ⟨hh,g,dr,tok,os⟩ (Value.ref a) us I2.kIn (by rw[<- r1.length,hz])
 have walk:=F1.run (X.A.under (.builtin "type.__call__" ⟨[.ref C],ks.zip us⟩)) X.stack _ _ ⟨[Value.ref a],ks.zip us⟩ (Value.ref a::us) _ _ (λ_ _ _=>False) (hr.make C [] (ks.zip us)) (I2.env0.make C [] (ks.zip us)) hb2 r2 hq
 refine wpAny_call (PySem.HandSPX.Ou T.ok.fac (λY=>T.ok.has Y bm hbm) (I1.kIn _ _ hC) (PySem.W.looks_findIn I1.kIn iC) (λself=>PySem.W.bind_fn I1.kIn self tI) (codeAny_mono walk λr s' hq'=>?_))
 match r,hq' with
 | .error er,hq'=>exact hx pins σ _ _ er s' I2 hq'
 | .ok .next,hq'=>exact False.elim hq'
 | .ok .brk,hq'=>exact False.elim hq'
 | .ok .cont,hq'=>exact False.elim hq'
 | .ok (.ret u),hq' =>
  obtain⟨v,H2,os2,bare2,un2,hok2,rv,ev,d,fs,ea,ed,hd1,q2⟩:=hq'
  subst ev
  obtain⟨h2,g2,d2,t2,os'⟩:=s'
  exact⟨rv,.ref a,_,Fw (d2:=d2) (t2:=t2) I1 hsz kk un2 hok2 os2 bare2 ea ed hd1,rfl,q2⟩
end
theorem K6{X:Cx}{yy f code:Str}{g1:G}{m1:Mem}{H1:Hp}{y:MV}{v:V}{a:Addr}{E:XK}{Q:VK}(rs1:Rs X.ki g1 m1 H1)(r1:RV X.ki g1 y v)(p1:eZ X.ki E g1 H1 (.ok (.v (.exn yy [f,"code"] [y,.str code])) m1) Q)(na:H1 a=none){E2:XK}:
  Ka (He.ga X.K yy) code f [.ref a,v] (upd H1 a (exo a (He.ga X.K yy) none)) (λu H2=>u=.non/\∃(d:Addr) (fs:List (Str × V)),H2 a=some (exo a (He.ga X.K yy) (some d))/\H2 d=some (exd d fs)/\H1 d=none/\Q (.ref a) (upd H2 d (.xd fs))) E2:=by
 refine⟨a,v,rfl,upd_same,λdx hdx ne=>⟨rfl,dx,_,(upd_ne (Ne.symm ne)).trans upd_same,upd_same,?_,?_⟩⟩
 ·rw[upd_ne ne] at hdx
  exact hdx
 ·rw[upd_ne ne] at hdx
  have eH:∀(o1 o2 o3 o4 o5:HO),upd (upd (upd (upd (upd H1 a o1) dx o2) a o3) dx o4) dx o5=upd (upd H1 a o3) dx o5:=λo1 o2 o3 o4 o5=>by
   funext b
   by_cases hb:b=dx
   ·rw[hb,upd_same,upd_same]
   ·rw[upd_ne hb,upd_ne hb,upd_ne hb]
    by_cases hba:b=a
    ·rw[hba,upd_same,upd_same]
    ·rw[upd_ne hba,upd_ne hb,upd_ne hba,upd_ne hba]
  rw[eH]
  obtain⟨rs2,st2⟩:=rs1.freeze (o:=exo a (He.ga X.K yy) (some dx)) na
  have hdx2:upd H1 a (exo a (He.ga X.K yy) (some dx)) dx=none:=by rw[upd_ne ne];exact hdx
  obtain⟨rs3,st3⟩:=rs2.freeze (o:=.xd [(f,v),("code",.str code)]) hdx2
  refine p1 _ _ _ rs3 (st2.trans st3) ⟨a,dx,_,[(f,v),("code",.str code)],rfl,(upd_ne (Ne.symm ne)).trans upd_same,?_,upd_same,rfl,v,_,rfl,RV.st (RV.st r1 st2) st3,_,_,rfl,rfl,rfl⟩
  rintro h ⟨t1,ht⟩
  exact⟨_,_,ht,rfl,rfl,rfl⟩
def cX(b:du)(x g f code:Str):dI:=λP w K mg base k=>∃c:RN b K P (He.ga K x),mg x=some (.ref (He.ga K x))/\(∃j,j+1<=k/\FnOk P w K mg base (L2N.CX P w) j c.fI c.fd ["self",g] (Ka (He.ga K x) code f))/\∀(s:Shared) (a v:Value),BindsTo s c.fd ⟨[a],[(g,v)]⟩ [("self",a),(g,v)]
open NdefX in
theorem bQ{bs:du}(kb:eX bs){P:Program}{w:World}{K:PySem.W.Frag}{mg:Str->Option Value}{base:Heap}{file:Str}{d:nR}{p:Nat->Pos}{j:Nat->Nat}{pl:Sem Bool}(e:errV K d.x=d.val)(b:fD bs file d K=true)(hf:P.main.file=file)
  (htop:(P.main.scope.names.lookup ("super":Str)).isSome=false) (hm:mg d.x=some (.ref (He.ga K d.x))) (hms:mg "super" = none) (hb:d.body=cH d.x d.g d.f p j) (tx:Yc d.x d.g d.f p j pl) (S:NScope ["self",d.g,"__class__"] ["self",d.g] ["__class__"] d.scope)
  (hsu:d.scope.names.lookup ("super":Str)=some .globalImplicit) (hg1:(d.params.posonlyargs++d.params.args).head?.map (·.arg)=some ("self":Str)) (hd1:(d.g == ("__debug__":Str))=false) (hd2:(d.g == ("__classdict__":Str))=false)
  (hbi:∀(cl:List (Str × Addr)) (qual:Str) (cda:Addr) (doc pm ctv u v:Value),bindArgs (NF.fd ⟨"__init__",qual,d.params,d.body,d.scope,cl,cda⟩ doc pm ctv) ⟨[u],[(d.g,v)]⟩=pure ([("self",u),(d.g,v)]:List (Str × Value))) {k:Nat} (hk:2<=k):cX bs d.x d.g d.f d.x P w K mg base k:=by
 obtain⟨c,doc,pm,ctv,hfd,nc,nf⟩:=HQ kb e b hf
 rw[hb] at hfd
 refine⟨c,hm,⟨1,hk,NT (k:=0) c tx hfd S hsu hg1 hms htop nc nf hd1 hd2⟩,λs a v=>.of_eq ?_⟩
 rw[hfd,<- hb]
 exact hbi _ _ _ _ _ _ _ _
def di(bs:du)(x g f code:Str):o9 where
 need:=[cX bs x g f code]
 parts:=λc e=>match e with
  | .Call (.Name y _) [] kws _=>if (decide (y=x)&&gbB c x)=true then kwB [g] kws else none
  | _=>none
 F:=RB x f code
 ok:=λ{k W c X e es fs} ok nd h p=>by
  split at h <;> try contradiction
  rename_i yy pp0 kws pp1
  split at h <;> try contradiction
  rename_i hb
  simp only[qQb,qQs] at hb
  obtain⟨ey,h3⟩:=hb
  subst ey
  obtain⟨c0,hm,⟨j,hj,F1⟩,hbi⟩:=nd _ (qQc ..)
  obtain⟨hg,hdb,_⟩:=ok.gl h3
  obtain⟨k1,k2,k3,k4⟩:=MN (pos:=pp1) (env:=X.env) h
  have hpk:=p.pk h
  obtain⟨ee,rfl⟩:∃ee,es=[ee]:=by
   match es,k3 with
   | [ee],_=>exact⟨ee,rfl⟩
  obtain⟨fa,e1,e2⟩:=p.p1
  have e3:=e2 (RB yy f code)
  rw[e3]
  refine (FP (ks:=[g]) c0.T c0.iC c0.tI F1 ((ok.room (qQ2 (Nat.succ_pos j) hj)).mono hj) (λs a ws _ hl=>match ws,hl with|[v],_=>hbi s a v) (λpins σ H s e s' I z=>L2N.passes_call (W:=W) ok.tk (λ_ _ _ _ z=>z.elim) pins σ H s e s' I z) hg hm hpk k1 k2 k4 hdb).weaken fun σ H Q q=>?_
  obtain⟨g0,s,m,rs,rl,pp⟩:=q
  refine⟨g0,s,m,rs,rl,?_⟩
  have pp:eZ X.ki (WE W σ) g0 H ((fs s m).bind (RB yy f code)) Q:=by
   have:=congrFun (congrFun e3 s) m
   rw[this]
   exact pp
  cases ef:fs s m with
  | stuck=>rw[ef] at pp;exact pp
  | exc c ks xs m'=>rw[ef] at pp;exact pp
  | ok xs m1 =>
   rw[ef] at pp
   have lx:=p.len _ _ _ _ ef
   intro g1 vs H1 rs1 st1 rl1
   have p1:=dG.shift st1 (show eZ X.ki (WE W σ) g0 H (RB yy f code xs m1) Q from pp)
   match xs,lx with
   | [z],_ =>
    obtain⟨y,rfl⟩:=Ah p1
    cases rl1 with
    | cons r0 rt =>
     cases rt
     exact⟨rfl,λa na=>K6 rs1 r0 p1 na⟩
def Rq(x code:Str):List OV->Mem->R OV
 | [],m=>.ok (.v (.exn x ["code"] [.str code])) m
 | _,_=>.stuck
theorem Gn{X:Cx}{yy code:Str}{g1:G}{m1:Mem}{H1:Hp}{a:Addr}{E:XK}{Q:VK}(rs1:Rs X.ki g1 m1 H1)(p1:eZ X.ki E g1 H1 (.ok (.v (.exn yy ["code"] [.str code])) m1) Q)(na:H1 a=none){E2:XK}:
  EY (He.ga X.K yy) code [.ref a] (upd H1 a (exo a (He.ga X.K yy) none)) (λu H2=>u=.non/\∃(d:Addr) (fs:List (Str × V)),H2 a=some (exo a (He.ga X.K yy) (some d))/\H2 d=some (exd d fs)/\H1 d=none/\Q (.ref a) (upd H2 d (.xd fs))) E2:=by
 refine⟨a,rfl,upd_same,λdx hdx ne=>⟨rfl,dx,_,upd_same,(upd_ne ne).trans upd_same,?_,?_⟩⟩
 ·rw[upd_ne ne] at hdx
  exact hdx
 ·rw[upd_ne ne] at hdx
  have eH:∀(o1 o2 o3 o5:HO),upd (upd (upd (upd H1 a o1) dx o2) a o3) dx o5=upd (upd H1 a o3) dx o5:=λo1 o2 o3 o5=>by
   funext b
   by_cases hb:b=dx
   ·rw[hb,upd_same,upd_same]
   ·rw[upd_ne hb,upd_ne hb]
    by_cases hba:b=a
    ·rw[hba,upd_same,upd_same]
    ·rw[upd_ne hba,upd_ne hb,upd_ne hba,upd_ne hba]
  rw[eH]
  obtain⟨rs2,st2⟩:=rs1.freeze (o:=exo a (He.ga X.K yy) (some dx)) na
  have hdx2:upd H1 a (exo a (He.ga X.K yy) (some dx)) dx=none:=by rw[upd_ne ne];exact hdx
  obtain⟨rs3,st3⟩:=rs2.freeze (o:=.xd [("code",.str code)]) hdx2
  refine p1 _ _ _ rs3 (st2.trans st3) ⟨a,dx,_,[("code",.str code)],rfl,(upd_ne (Ne.symm ne)).trans upd_same,?_,upd_same,rfl,_,_,rfl,rfl,rfl⟩
  rintro h ⟨t1,ht⟩
  exact⟨_,_,ht,rfl,rfl,rfl⟩
def Ot(bs:du)(x code:Str):o9 where
 need:=[De bs x code]
 parts:=λc e=>match e with
  | .Call (.Name y _) [] [] _=>if (decide (y=x)&&gbB c x)=true then some [] else none
  | _=>none
 F:=Rq x code
 ok:=λ{k W c X e es fs} ok nd h p=>by
  split at h <;> try contradiction
  rename_i yy pp0 pp1
  split at h <;> cases h
  rename_i hb
  simp only[qQb,qQs] at hb
  obtain⟨ey,h3⟩:=hb
  subst ey
  obtain⟨c0,hm,⟨j,hj,F1⟩,hbi⟩:=nd _ (qQc ..)
  obtain⟨hg,hdb,_⟩:=ok.gl h3
  have e2:=p.p0
  have hpk:PK X [] (tA X.ki W fs):=p.pk (ks:=[]) (kws:=[]) rfl
  refine (FP (ks:=[]) (kws:=[]) c0.T c0.iC c0.tI F1 ((ok.room (qQ2 (Nat.succ_pos j) hj)).mono hj) (λs a ws ki hl=>match ws,hl with|[],_=>hbi s [a] ki rfl) (λpins σ H s e s' I z=>L2N.passes_call (W:=W) ok.tk (λ_ _ _ _ z=>z.elim) pins σ H s e s' I z) hg hm hpk rfl rfl rfl hdb).weaken fun σ H Q q=>?_
  obtain⟨g0,s,m,rs,rl,pp⟩:=q
  have pp:eZ X.ki (WE W σ) g0 H ((fs s m).bind (Rq yy code)) Q:=pp
  refine⟨g0,s,m,rs,rl,?_⟩
  rw[e2] at pp ⊢
  intro g1 vs H1 rs1 st1 rl1
  have p1:=dG.shift st1 (show eZ X.ki (WE W σ) g0 H (Rq yy code [] m) Q from pp)
  cases rl1
  exact⟨rfl,λa na=>Gn rs1 p1 na⟩
end Rc
namespace PySem.W
open PySem PySem.Spec PySem.Calls PyProof.Rows
section
variable{prog:Program}{w:World}{A:Around}{E:Value->Shared->Prop}{s:Shared}{K:Frag}{x D:Addr}{ox:Obj}{od:Option Obj}
theorem vI{C:Addr}{name:Str}{a g:Value}(hc:(clsIn K C).isSome=true)(ha:findIn K (.ref C) name=some (some a))(hg:specialIn K a "__get__" = some (some g))(ht:takesIn K a=some true):findObj K C od name=some (.bind g a):=by
 obtain⟨cd,hc⟩:=Option.isSome_iff_exists.mp hc
 unfold findObj
 rw[hc,Option.bind_some,ha,Option.bind_some]
 simp[hg,ht]
theorem Ds{Q:Option Value->Shared->Prop}(hga:findIn K (.ref D) "__getattribute__" = some (some (.builtin "BaseException.__getattribute__")))(hgt:findIn K (.ref D) "__getattr__" = some none)(hsub:subIn K (.ref D) (.type "BaseException")=some true)
  (hdct:hasDictIn K D=true) (ha:findIn K (.ref D) "__class__" = some (some (.builtin "object.__class__")))
  (hn:specialIn K (.builtin "object.__class__") "__get__" = some (some (.builtin "getset_descriptor.__get__"))) (htk:takesIn K (.builtin "object.__class__")=some true) (hm:mroIn K D (.type "object")=some true)
  (X:K.In s.heap) (I:InstAt s.heap x ox D od) (h:Q (some (.ref D)) { s with toks:=s.toks+1 }):wpAny (model prog w) A (getAttr? (.ref x) "__class__") Q E s:=by
 have hf:findObj K D od "__class__" = some (.bind (.builtin "getset_descriptor.__get__") (.builtin "object.__class__")):=vI (by obtain⟨cd,hc,_⟩:=any_some hdct;rw[hc];rfl) ha hn htk
 obtain⟨hp,g,d,t,os⟩:=s
 have L0:=I.type (M:=model prog w)
 have L1:=looks_findIn (M:=model prog w) X hga
 have L2:=looks_findIn (M:=model prog w) X hgt
 have L3:=looks_find (M:=model prog w) X I hf
 have sub:Looks (model prog w) hp (isInstance (.ref x) (.type "BaseException")) true:=L0.andThen (looks_subIn X hsub)
 have hx0:(false&&onTheHeap (Value.builtin "BaseException.__getattribute__"))=false:=rfl
 have hx2:(Value.builtin "BaseException.__getattribute__" == Value.builtin "object.__getattribute__")=false:=by decide +kernel
 have hx1:(onTheHeap (Value.ref D)&&Value.builtin "BaseException.__getattribute__" == Value.builtin "object.__getattribute__")=false:=by rw[hx2];rfl
 unfold getAttr? getAttrBy? getAttrBy
 refine wpAny_bind (wpAny_mkText (wpAny_bind (wpAny_attempt (wpAny_holding (wpAny_bind (L0.at (wpAny_bind (L1.at ?_))))))))
 show wpAny _ _ (if (onTheHeap (Value.ref D)&&Value.builtin "BaseException.__getattribute__" == Value.builtin "object.__getattribute__")=true then _ else _) _ _ _
 rw[hx1,if_neg Bool.false_ne_true]
 unfold getAttrByItsOwn hookBefore
 refine wpAny_bind ?_
 rw[if_pos (show onTheHeap (Value.ref D)=true from rfl)]
 refine L2.at ?_
 refine wpAny_bind (wpAny_attempt (wpAny_holding ?_))
 unfold callGetattribute
 rw[hx0,if_neg Bool.false_ne_true]
 unfold boundAndCalled
 rw[PySem.F.excAttr_ValueError.ga.bind (.ref x)]
 refine wpAny_bind (wpAny_pure ?_)
 show wpAny _ _ (call (.builtin "BaseException.__getattribute__") [.ref x,.str "__class__" t]) _ _ _
 refine wpAny_call (codeAny_call_builtin PySem.F.excAttr_ValueError.ga.plain PySem.F.entry_bexc_ga ?_)
 refine @check_slot (model prog w) _ _ ⟨hp,g,d,t+1,os⟩ "BaseException.__getattribute__" "BaseException" "__getattribute__" (.ref x) [.str "__class__" t] [] _ (by decide +kernel) (by decide +kernel) sub (PySem.F.args_bexc_ga (.ref x) (.str "__class__" t)) ?_
 unfold Builtin.«object.__getattribute__»
 refine wpAny_bind (wpAny_of_eq (a:=((Value.ref x:Value),[Value.str "__class__" t])) (by first|rfl|(simp only[slotArgs];rfl)) ?_)
 refine wpAny_bind (wpAny_pure (wpAny_bind (L0.at (wpAny_bind (L3.at ?_)))))
 show wpAny _ _ (holding [Value.builtin "object.__class__"] (call (.builtin "getset_descriptor.__get__") [.builtin "object.__class__",.ref x,.ref D]) >>= ret) _ _ _
 refine wpAny_bind (wpAny_holding (wpAny_call (class_get (s:=⟨hp,g,d,t+1,os⟩) (ox:=ox) (od:=od) X I hm ?_)))
 refine wpAny_pure ?_
 show wpAny _ _ (handedOut (.ref D)) _ _ _
 rw[handedOut_of (v:=.ref D) rfl]
 first
  | exact wpAny_pure (wpAny_pure h)
  | exact wpAny_pure h
  | exact wpAny_pure (wpAny_bind (wpAny_pure (wpAny_pure h)))
theorem xj(hga:findIn K (.ref D) "__getattribute__" = some (some (.builtin "BaseException.__getattribute__")))(hgt:findIn K (.ref D) "__getattr__" = some none)(hsub:subIn K (.ref D) (.type "BaseException")=some true)(hdct:hasDictIn K D=true)(ha:findIn K (.ref D) "__class__" = some (some (.builtin "object.__class__")))
  (hn:specialIn K (.builtin "object.__class__") "__get__" = some (some (.builtin "getset_descriptor.__get__"))) (htk:takesIn K (.builtin "object.__class__")=some true) (hm:mroIn K D (.type "object")=some true) :
  KitX K (.ref x) (.ref D) (λh=>InstAt h x ox D od) where
 ty:=λ_ _ _ I=>I.type
 it:=λ_ _ X _=>by
  obtain⟨cdD,hcD,_⟩:=any_some hdct
  unfold clsIn at hcD
  split at hcD
  ·rename_i c' d' cd' sl' ho
   intro A' Q' E' s' k q
   unfold isType loadHead
   exact wpAny_bind (wpAny_loadPart (k _ _ (X _ _ ho)) (wpAny_pure q))
  ·cases hcD
 ne:=λh tp dd its n sl X htp=>by
  obtain⟨cdD,hcD,_⟩:=any_some hdct
  refine Bool.eq_false_iff.mpr λq=>?_
  have e:D=tp:=Value.ref.inj (beq_iff_eq.mp q)
  subst e
  unfold clsIn at hcD
  split at hcD
  ·rename_i c' d' cd' sl' ho
   have z:=(X _ _ ho).symm.trans htp
   cases z
  ·cases hcD
 ca:=λX I k=>Ds hga hgt hsub hdct ha hn htk hm X I k
end
end PySem.W
namespace Rc
open PySem PySem.Spec L2
open PyProof.Rows hiding St
def aez(K:Ki):List V->Hp->VK->Prop:=λxs H Q=>∃(a dd:Addr) (φ:Heap->Prop) (c:Str) (fs:List (Str × V)) (t:Ty) (b:Bool),xs=[.ref a,t.v K]/\H a=some (.ext φ)/\Zu K c dd a φ/\H dd=some (.xd fs)/\ExcC K.K (K.ga c)/\PySem.W.kitOne K.K (.ref (K.ga c)) (t.u K)=some b/\Q (.bl b) H
theorem BJ{X:Cx}:CallR X (.builtin "isinstance") (aez X.ki):=by
 intro pins s σ H xs us Q I r h
 obtain⟨a,dd,φ,c,fs,t,b,rfl,ea,hO,ed,C,e,q⟩:=h
 cases r with
 | cons rx rr =>
  cases rr with
  | cons rt rr =>
   cases rr
   cases rx
   have et:=(Ty.cls X.ki t)
   have z:ObjOk X.prog X.w H s.heap a (.ext φ):=I.hok a _ ea
   obtain⟨oe,vs,h1,h2,h3,h4⟩:=hO s.heap z.1
   obtain⟨mA,hns,hr⟩:=(show ObjOk X.prog X.w H s.heap dd (.xd fs) from I.hok dd _ ed)
   obtain⟨od,h5,h6⟩:=lookIn_ns hns
   have J:PySem.W.InstAt s.heap a oe (X.ki.ga c) (some od):=⟨h1,h2,by unfold PySem.W.notCls;rw[h4],by rw[h3];exact h5⟩
   have ec:=et.eq rt
   subst ec
   exact PySem.W.kia_one (PySem.W.xj C.hg C.hk C.hs C.hd C.ha C.hn C.ht C.hm) I.kIn J e (λz=>nomatch z) λtk=>⟨.bl b,H,I.kept (t':=tk) λ_ _ z=>z,rfl,q⟩
def au(c:Str):dI:=λ_ _ K _ _ _=>ExcC K (He.ga K c)
def Bp(t:Ty)(tbl:List (Str × Bool)):List dI:=tbl.flatMap λp=>[au p.1,az (.own p.1) t p.2]
def Dj(tbl:List (Str × Bool))(x:OV)(m:Mem):R OV:=match x with
 | .v (.exn c _ _)=>(match tbl.lookup c with
  | some b=>.ok (.v (.bl b)) m
  | none=>.stuck)
 | _=>.stuck
theorem nQ{α:Type}{c:Str}{b:α}:∀{l:List (Str × α)},l.lookup c=some b->(c,b)∈l
 | (d,x)::l,h=>by
  rw[qQ3] at h
  split at h
  ·rename_i q
   cases h
   rw[eq_of_beq q]
   exact qQc
  ·exact qQd _ (nQ h)
def fV(d:Str)(tbl:List (Str × Bool)):o9 where
 need:=nGl d::Bp (.own d) tbl
 parts:=λcf e=>match e with
  | .Call (.Name x _) [a,.Name y _] [] _=>if (decide (x="isinstance")&&(btB cf x&&(decide (y=d)&&(gbB cf y&&cR a))))=true then some [a] else none
  | _=>none
 F:=F1 (Dj tbl)
 ok:=λ{k W c X e es fs} ok nd h p=>by
  split at h <;> try contradiction
  split at h <;> cases h
  rename_i hb
  simp only[qQb,qQs] at hb
  obtain⟨rfl,h2,rfl,h4,h5⟩:=hb
  obtain⟨g1,g2,g3,g4⟩:=ok.bt h2
  obtain⟨k1,k2,k3⟩:=ok.gl h4
  obtain⟨fa,e1,e3⟩:=p.f1 (f:=Dj tbl)
  rw[e3]
  have hm:=nd _ (qQc ..)
  refine (pe_callB BJ g1 g2 boot_isinstance (pa_cons e1 (pa_cons (pe_glob (v:=.ref (He.ga X.K _)) k1 hm rfl k2) pa_nil rfl) (dH h5)) g4 g3 (dH h5) rfl).weaken fun σ H Q q=>?_
  obtain⟨g,s,m,rs,rl,pp⟩:=q
  refine⟨g,s,m,rs,rl,(dG.bind pp).imp λv H1 ⟨x,g1,m1,rs1,st1,r1,p1⟩=>?_⟩
  unfold Dj at p1
  split at p1
  ·rename_i c ks xs
   split at p1
   ·rename_i b hl
    have hmem:=nQ hl
    have n1:=nd (au c) (qQd _ (List.mem_flatMap.mpr ⟨_,hmem,qQc⟩))
    have n2:=nd (az (.own c) (.own _) b) (qQd _ (List.mem_flatMap.mpr ⟨_,hmem,qQd _ qQc⟩))
    obtain⟨a,dd,φ,fs',rfl,q1,q2,q3,q4,q5⟩:=(show RV X.ki g1 (.exn c ks xs) v from r1)
    exact⟨a,dd,φ,c,fs',.own _,b,rfl,rs1.sub _ _ q1,q2,rs1.sub _ _ q3,n1,n2,bJ rs1 p1 rfl⟩
   ·exact p1.elim
  ·exact p1.elim
def Kf:List String:=["ValueError","LookupError","IndexError"]
theorem G8{s:String}(h:s∈Kf):bootBuiltins (Str.ofString s)=some (.type s):=by
 unfold Kf at h
 simp only[qQj,qQl,or_false] at h
 rcases h with rfl|rfl|rfl <;> kernel_rfl
def Pr(d:String)(tbl:List (Str × Bool)):o9 where
 need:=Bp (.b d) tbl
 parts:=λcf e=>match e with
  | .Call (.Name x _) [a,.Name y _] [] _=>if (decide (x="isinstance")&&(btB cf x&&(decide (y=Str.ofString d)&&(btB cf y&&(decide (d∈Kf)&&cR a)))))=true then some [a] else none
  | _=>none
 F:=F1 (Dj tbl)
 ok:=λ{k W c X e es fs} ok nd h p=>by
  split at h <;> try contradiction
  split at h <;> cases h
  rename_i hb
  simp only[qQb,qQs] at hb
  obtain⟨rfl,h2,rfl,h4,h6,h5⟩:=hb
  obtain⟨g1,g2,g3,g4⟩:=ok.bt h2
  obtain⟨k1,k2,k3,k4⟩:=ok.bt h4
  obtain⟨fa,e1,e3⟩:=p.f1 (f:=Dj tbl)
  rw[e3]
  refine (pe_callB BJ g1 g2 boot_isinstance (pa_cons e1 (pa_cons (pe_bltn (v:=.ty d) k1 k2 (G8 h6) rfl k4 k3) pa_nil rfl) (dH h5)) g4 g3 (dH h5) rfl).weaken fun σ H Q q=>?_
  obtain⟨g,s,m,rs,rl,pp⟩:=q
  refine⟨g,s,m,rs,rl,(dG.bind pp).imp λv H1 ⟨x,g1,m1,rs1,st1,r1,p1⟩=>?_⟩
  unfold Dj at p1
  split at p1
  ·rename_i c ks xs
   split at p1
   ·rename_i b hl
    have hmem:=nQ hl
    have n1:=nd (au c) (List.mem_flatMap.mpr ⟨_,hmem,qQc⟩)
    have n2:=nd (az (.own c) (.b d) b) (List.mem_flatMap.mpr ⟨_,hmem,qQd _ qQc⟩)
    obtain⟨a,dd,φ,fs',rfl,q1,q2,q3,q4,q5⟩:=(show RV X.ki g1 (.exn c ks xs) v from r1)
    exact⟨a,dd,φ,c,fs',.b d,b,rfl,rs1.sub _ _ q1,q2,rs1.sub _ _ q3,n1,n2,bJ rs1 p1 rfl⟩
   ·exact p1.elim
  ·exact p1.elim
end Rc
namespace PySem
namespace HandSPX
section
variable{prog:Program}{w:World}{A:Around}{E:Value->Shared->Prop}{R:Result->Shared->Prop}{h:Heap}{g:Array GenState}{d:Drawn}{t:Nat}{os:OsState}
variable{nm q:Str}{C N:Addr}{bs bm bmB:List Value}{hdct:Bool}{sn:List Str}{sub:List Value}{ab:Bool}{col:Option Bool}{dd:Option Addr}{k0 k1 k2 k3 k5:Option Value}{B newId initId:String}
theorem yD(F:ExcBaseFacts B newId initId bmB)(hT:∀X:String,bm.contains (.type X)=bmB.contains (.type X)){rest:List Value}{Q:Fin->Shared->Prop}
  (hC:h.get? C=some (excClassObj nm q C N bs bm hdct sn sub ab col dd k0 k1 k2 k3 k5 newId))
  (hi:W.Looks (model prog w) h (typeLookup (.ref C) "__init__") (some (.builtin initId))) (hrest:rest.length<=sizeLine)
  (hq:∀h' t1,(∀b o,h.get? b=some o->h'.get? b=some o)->h'.get? (h.objs.size+1)=some (excO C t1)->Q (.done (.ret (.ref (h.objs.size+1)))) ⟨h',g,d,t,os⟩) :
  wpAny (model prog w) A (Builtin.«type.__call__» ⟨.ref C::rest,[]⟩) Q E ⟨h,g,d,t,os⟩:=by
 repeat (first|with_reducible refine wpAny_loadPart_at hC ?_|with_reducible refine wpAny_madeBy_exc hC ?_|wp_step)
 refine codeAny_call_builtin_code (Code.quiet_builtin _ F.quiet) (check_new_own F hT hC ?_)
 refine new_own F hT hC ?_ hrest
 show wpAny _ _ _ _ _ _
 have k:∀b o,h.get? b=some o->((h.push (W.kdv_tup rest)).push (excO C h.objs.size)).get? b=some o:=λb o e=>qQu _ (qQu _ e)
 have hC₁:=k _ _ hC
 have hget:((h.push (W.kdv_tup rest)).push (excO C h.objs.size)).get? (h.objs.size+1)=some (excO C h.objs.size):=by heap_get
 have hcC:(Value.ref C::bm).contains (.ref C)=true:=by simp
 have i1:=hi.keeps k
 unfold isInstance
 repeat (first|with_reducible refine wpAny_loadPart_at hget ?_|(with_reducible refine wpAny_isSubtype_exc hC₁ ?_;rw[hcC])|wp_step)
 show wpAny _ _ (typeLookup (.ref C) _) _ _ _
 refine i1.at ?_
 refine wpAny_holding (wpAny_bind (wpAny_of_eq (F.init.bind _) ?_))
 refine wpAny_bind (wpAny_call (init_base F hT hC₁ hget hrest λh' t1 kp hx=>?_))
 have z:=hq h' t1 (λb o e=>kp b o (Nat.ne_of_lt (Nat.lt_succ_of_lt (Heap.lt_size e))) (k b o e)) hx
 first
  | exact wpAny_pure (wpAny_pure z)
  | (wp_walk;exact z)
theorem Qt(F:ExcBaseFacts B newId initId bmB)(hT:∀X:String,bm.contains (.type X)=bmB.contains (.type X)){rest:List Value}{Q:Value->Shared->Prop}
  (hC:h.get? C=some (excClassObj nm q C N bs bm hdct sn sub ab col dd k0 k1 k2 k3 k5 newId))
  (hi:W.Looks (model prog w) h (typeLookup (.ref C) "__init__") (some (.builtin initId))) (hrest:rest.length<=sizeLine)
  (hq:∀h' t1,(∀b o,h.get? b=some o->h'.get? b=some o)->h'.get? (h.objs.size+1)=some (excO C t1)->Q (.ref (h.objs.size+1)) ⟨h',g,d,t,os⟩) :
  wpAny (model prog w) A (call (.ref C) rest) Q E ⟨h,g,d,t,os⟩:=by
 have f1:=tc_lookup
 have f2:=tc_bind (.ref C)
 have hTy:(⟨h,g,d,t,os⟩:Shared).TypeIs (.ref C) "type":=⟨_,hC,rfl⟩
 refine wpAny_call (codeAny_of_tree ?_)
 show wpAny _ _ (callAny (.ref C) _) _ _ _
 repeat (any_goals (first|assumption|with_reducible refine wpAny_loadPart_at hC ?_|wp_step))
 refine⟨rfl,?_⟩
 refine codeAny_call_builtin_at (Code.quiet_builtin _ (by decide +kernel)) entry_typeCall (wpAny_check_type_call_sub hC (yD F hT hC hi hrest λh' t1 k x=>?_))
 exact hq h' t1 k x
end
end HandSPX
end PySem
namespace Rc
open PySem PySem.Spec L2
open PyProof.Rows hiding St
def Ys(C:Addr)(ta:TA):TE:=fun σ H Q=>ta σ H λvs H1=>vs.length<=1000/\∀a,H1 a=none->Q (.ref a) (upd H1 a (exo a C none))
section
variable{X:Cx}{x:Str}{e:Expr}{es:List Expr}{ta:TA}{p pos:Pos}{C:Addr}
theorem Qp{b:du}(T:DR b X.K C)(iB:PySem.W.findIn X.K (.ref C) "__init__" = some (some (.builtin b.init)))(hg:Gl X x)(hm:X.mg x=some (.ref C))(ha:PA X (e::es) ta)
  (hdb:(x == ("__debug__":Str))=false) (he:starEach (e::es) X.env=(false,eval e X.env)::starEach es X.env) (hpl:(backTo pos (starEach es X.env)).any (·.1)=false) :
  PE X (.Call (.Name x p) (e::es) [] pos) (Ys C ta):=by
 refine⟨λpins s σ H Q I h=>?_⟩
 obtain⟨nm,q,N,bs,bm,sn,sub,ab,col,dd,k0,k1,k2,k3,k5,hC,hbm⟩:=T.cls
 refine wpAny_Call_Name_kw (ld_glob I hg hm ?_ hdb)
 refine PySem.W.callWith_K (h₀:=X.base) I.ok.mod.kin T.kC (thn (ha.run pos pins s σ H _ I h) λus s1 ⟨vs,H1,I1,r1,hz,q1⟩=>⟨I1.kIn,?_⟩) he hpl
 show wpAny _ _ (call (.ref C) us) _ _ _
 obtain⟨hp,g,dr,tk,os⟩:=s1
 have hus:us.length<=sizeLine:=by
  rw[<- Paired.length r1,sizeLine_eq]
  omega
 refine PySem.HandSPX.Qt T.ok.fac (λY=>T.ok.has Y bm hbm) (I1.kIn _ _ hC) (PySem.W.looks_findIn I1.kIn iB) hus λh' t1 kp hx=>?_
 exact⟨.ref (hp.objs.size+1),_,I1.laid (t':=tk) kp (Nat.le_succ _) (exo_ok hx),rfl,q1 _ (I1.hok.fresh (Nat.le_succ _))⟩
def rIsN(K:Ki):List V->Hp->VK->Prop:=λxs H Q=>∃(a:Addr) (c:Str) (t:Ty) (b:Bool),xs=[.ref a,t.v K]/\H a=some (exo a (K.ga c) none)/\ExcC K.K (K.ga c)/\PySem.W.kitOne K.K (.ref (K.ga c)) (t.u K)=some b/\Q (.bl b) H
theorem KZ:CallR X (.builtin "isinstance") (rIsN X.ki):=by
 intro pins s σ H xs us Q I r h
 obtain⟨a,c,t,b,rfl,ea,C,e,q⟩:=h
 cases r with
 | cons rx rr =>
  cases rr with
  | cons rt rr =>
   cases rr
   cases rx
   have et:=(Ty.cls X.ki t)
   obtain⟨t1,hoe⟩:=exo_at I.hok ea
   have J:PySem.W.InstAt s.heap a _ (X.ki.ga c) none:=⟨hoe,rfl,rfl,trivial⟩
   have ec:=et.eq rt
   subst ec
   exact PySem.W.kia_one (PySem.W.xj C.hg C.hk C.hs C.hd C.ha C.hn C.ht C.hm) I.kIn J e (λz=>nomatch z) λtk=>⟨.bl b,H,I.kept (t':=tk) λ_ _ z=>z,rfl,q⟩
end
def K8(b:du)(c:Str):dI:=λ_ _ K mg _ _=>mg c=some (.ref (He.ga K c))/\DR b K (He.ga K c)/\PySem.W.findIn K (.ref (He.ga K c)) "__init__" = some (some (.builtin b.init))
def abA(b:Bool)(x:OV)(m:Mem):R OV:=match x with
 | .v _=>.ok (.v (.bl b)) m
 | .b _=>.stuck
def Wf(bs:du)(c:Str)(d:String)(b:Bool):o9 where
 need:=[K8 bs c,au c,az (.own c) (.b d) b]
 parts:=λcf e=>match e with
  | .Call (.Name x _) [.Call (.Name z _) [a] [] _,.Name y _] [] _=>if (decide (x="isinstance")&&(btB cf x&&(decide (z=c)&&(gbB cf z&&(decide (y=Str.ofString d)&&(btB cf y&&(decide (d∈Kf)&&cR a)))))))=true then some [a] else none
  | _=>none
 F:=F1 (abA b)
 ok:=λ{k W cf X e es fs} ok nd h p=>by
  split at h <;> try contradiction
  split at h <;> cases h
  rename_i hb
  simp only[qQb,qQs] at hb
  obtain⟨rfl,h2,rfl,h7,rfl,h4,h6,h5⟩:=hb
  obtain⟨g1,g2,g3,g4⟩:=ok.bt h2
  obtain⟨k1,k2,k3,k4⟩:=ok.bt h4
  obtain⟨l1,l2,l3⟩:=ok.gl h7
  obtain⟨fa,e1,e3⟩:=p.f1 (f:=abA b)
  rw[e3]
  obtain⟨hm,T,iB⟩:=nd _ (qQc ..)
  have n1:=nd _ (qQd _ (qQc ..))
  have n2:=nd _ (qQd _ (qQd _ (qQc ..)))
  refine (pe_callB KZ g1 g2 boot_isinstance (pa_cons (Qp T iB l1 hm (pa_cons e1 pa_nil (hs:=dH h5)) l2 (dH h5) rfl) (pa_cons (pe_bltn (v:=.ty d) k1 k2 (G8 h6) rfl k4 k3) pa_nil rfl) rfl) g4 g3 rfl rfl).weaken fun σ H Q q=>?_
  obtain⟨g,s,m,rs,rl,pp⟩:=q
  refine⟨g,s,m,rs,rl,(dG.bind pp).imp λv H1 ⟨x,g1,m1,rs1,st1,r1,p1⟩=>?_⟩
  refine⟨by simp,λa na=>?_⟩
  cases x with
  | b o=>exact p1.elim
  | v y =>
   obtain⟨rs2,st2⟩:=rs1.freeze (o:=exo a (X.ki.ga _) none) na
   exact⟨a,_,.b d,b,rfl,upd_same,n1,n2,p1 _ _ _ rs2 st2 rfl⟩
def fM(K:PySem.W.Frag)(D:Addr):Bool:=blQ "BaseException.__getattribute__" (PySem.W.findIn K (.ref D) "__getattribute__")&&(noQ (PySem.W.findIn K (.ref D) "__getattr__")&&(trQ (PySem.W.subIn K (.ref D) (.type "BaseException")) &&
 (PySem.W.hasDictIn K D&&(blQ "object.__class__" (PySem.W.findIn K (.ref D) "__class__")&&(blQ "getset_descriptor.__get__" (PySem.W.specialIn K (.builtin "object.__class__") "__get__") &&
 (trQ (PySem.W.takesIn K (.builtin "object.__class__"))&&trQ (PySem.W.mroIn K D (.type "object"))))))))
theorem aa{K:PySem.W.Frag}{D:Addr}(h:fM K D=true):ExcC K D:=by
 obtain⟨h1,h⟩:=qQr.mp h
 obtain⟨h2,h⟩:=qQr.mp h
 obtain⟨h3,h⟩:=qQr.mp h
 obtain⟨h4,h⟩:=qQr.mp h
 obtain⟨h5,h⟩:=qQr.mp h
 obtain⟨h6,h⟩:=qQr.mp h
 obtain⟨h7,h8⟩:=qQr.mp h
 exact⟨uM h1,xX h2,sU h3,h4,uM h5,uM h6,sU h7,sU h8⟩
def PB(b:du)(c:Str)(K:PySem.W.Frag):Bool:=ZZ b K (He.ga K c)&&blQ b.init (PySem.W.findIn K (.ref (He.ga K c)) "__init__")
theorem yt{b:du}(kb:eX b){P:Program}{w:World}{K:PySem.W.Frag}{mg:Str->Option Value}{base:Heap}{k:Nat}{c:Str}(hm:mg c=some (.ref (He.ga K c)))(h:PB b c K=true):K8 b c P w K mg base k:=by
 obtain⟨h1,h2⟩:=qQr.mp h
 exact⟨hm,Ip kb h1,uM h2⟩
end Rc
namespace K01
open RcCut (dT dM)
open PySem PySem.Spec L2 Rc
open PyProof.Rows hiding St
def top(i:Nat):Stmt:=PySem.Challenge.pw_roomofcalls_k01_errors_by_themselves.main.body.getD i (.Pass ⟨0,0,0,0⟩)
def uI:He.DefD:=dT "_law_open" (top 27)
def vh:He.DefD:=dT "_law_draw" (top 28)
def Ao:He.DefD:=dT "_law_of" (top 29)
def xF:He.DefD:=dT "_law_odd" (top 32)
def qF:He.DefD:=dT "_law_errors" (top 33)
def qY:He.DefD:=dT "_law_codes" (top 34)
def pA:He.DefD:=dT "_law_same" (top 30)
def rW:He.DefD:=dT "_law_field" (top 31)
def mX:He.DefD:=dT "_law_kinds_of" (top 35)
def Tc:He.DefD:=dT "law" (top 36)
def bu:nR:=⟨"InvalidName","given","given",defArgs (inClass (top 3) 0),defBody (inClass (top 3) 0),defScope (inClass (top 3) 0)⟩
def aV:nR:=⟨"InvalidWords","at","at",defArgs (inClass (top 4) 0),defBody (inClass (top 4) 0),defScope (inClass (top 4) 0)⟩
def aM:nR:=⟨"InvalidOrders","at","at",defArgs (inClass (top 5) 0),defBody (inClass (top 5) 0),defScope (inClass (top 5) 0)⟩
def aR:nR:=⟨"InvalidModes","at","at",defArgs (inClass (top 6) 0),defBody (inClass (top 6) 0),defScope (inClass (top 6) 0)⟩
def aK:nR:=⟨"InvalidStarts","at","at",defArgs (inClass (top 7) 0),defBody (inClass (top 7) 0),defScope (inClass (top 7) 0)⟩
def bh:nR:=⟨"UnknownMode","given","given",defArgs (inClass (top 8) 0),defBody (inClass (top 8) 0),defScope (inClass (top 8) 0)⟩
def aU:nR:=⟨"UnknownOrder","given","given",defArgs (inClass (top 9) 0),defBody (inClass (top 9) 0),defScope (inClass (top 9) 0)⟩
def aQ:nR:=⟨"InvalidSound","given","given",defArgs (inClass (top 10) 0),defBody (inClass (top 10) 0),defScope (inClass (top 10) 0)⟩
def bj:nR:=⟨"InvalidRoom","given","given",defArgs (inClass (top 11) 0),defBody (inClass (top 11) 0),defScope (inClass (top 11) 0)⟩
def aO:nR:=⟨"InvalidRecord","given","given",defArgs (inClass (top 12) 0),defBody (inClass (top 12) 0),defScope (inClass (top 12) 0)⟩
def aX:nR:=⟨"InvalidWish","given","given",defArgs (inClass (top 13) 0),defBody (inClass (top 13) 0),defScope (inClass (top 13) 0)⟩
def aN:nR:=⟨"InvalidNumber","given","given",defArgs (inClass (top 14) 0),defBody (inClass (top 14) 0),defScope (inClass (top 14) 0)⟩
def bG:nR:=⟨"TooMany","most","most",defArgs (inClass (top 16) 0),defBody (inClass (top 16) 0),defScope (inClass (top 16) 0)⟩
def bL:nR:=⟨"TooFew","mode","mode",defArgs (inClass (top 17) 0),defBody (inClass (top 17) 0),defScope (inClass (top 17) 0)⟩
def aY:nR:=⟨"InvalidText","line","line",defArgs (inClass (top 18) 0),defBody (inClass (top 18) 0),defScope (inClass (top 18) 0)⟩
def aZ:nR:=⟨"InvalidPage","line","line",defArgs (inClass (top 19) 0),defBody (inClass (top 19) 0),defScope (inClass (top 19) 0)⟩
def aF:nR:=⟨"InvalidCommand","at","at",defArgs (inClass (top 20) 0),defBody (inClass (top 20) 0),defScope (inClass (top 20) 0)⟩
def aP:nR:=⟨"DuplicateName","name","name",defArgs (inClass (top 21) 0),defBody (inClass (top 21) 0),defScope (inClass (top 21) 0)⟩
def cJ:nR:=⟨"Full","limit","limit",defArgs (inClass (top 22) 0),defBody (inClass (top 22) 0),defScope (inClass (top 22) 0)⟩
def aW:nR:=⟨"InvalidLimit","given","given",defArgs (inClass (top 23) 0),defBody (inClass (top 23) 0),defScope (inClass (top 23) 0)⟩
def bx:nR:=⟨"UnknownName","name","name",defArgs (inClass (top 24) 0),defBody (inClass (top 24) 0),defScope (inClass (top 24) 0)⟩
def bF:zF:=⟨"OtherProgram",defArgs (inClass (top 15) 0),defBody (inClass (top 15) 0),defScope (inClass (top 15) 0)⟩
def bH:zF:=⟨"NothingLeft",defArgs (inClass (top 25) 0),defBody (inClass (top 25) 0),defScope (inClass (top 25) 0)⟩
def ers:List wF:=[bu.own,aV.own,aM.own,aR.own,aK.own,bh.own,aU.own,aQ.own,bj.own,aO.own,aX.own,aN.own,bG.own,bL.own,aY.own,aZ.own,aF.own,aP.own,cJ.own,aW.own,bx.own,bF.own,bH.own]
def fn:List He.DefD:=[uI,vh,Ao,xF,qF,qY,pA,rW,mX,Tc]
def fa:List He.Fa:=[.glo "_law_open",.glo "_law_draw",.glo "_law_of",.glo "_law_odd",.glo "_law_errors",.glo "_law_codes",.glo "_law_same",.glo "_law_field",.glo "_law_kinds_of",.glo "law",.free "IndexError",.free "LookupError",.free "ValueError",.free "abs",.free "all",.free "bool",.free "int",.free "isinstance",.free "len",.free "list",.free "range",.free "str",.free "tuple",.free "zip",.free "super",.glo "InvalidName",.glo "InvalidWords",.glo "InvalidOrders",.glo "InvalidModes",.glo "InvalidStarts",.glo "UnknownMode",.glo "UnknownOrder",.glo "InvalidSound",.glo "InvalidRoom",.glo "InvalidRecord",.glo "InvalidWish",.glo "InvalidNumber",.glo "TooMany",.glo "TooFew",.glo "InvalidText",.glo "InvalidPage",.glo "InvalidCommand",.glo "DuplicateName",.glo "Full",.glo "InvalidLimit",.glo "UnknownName",.glo "OtherProgram",.glo "NothingLeft",.noat "InvalidName" "code",.noat "InvalidWords" "code",.noat "InvalidOrders" "code",.noat "InvalidModes" "code",.noat "InvalidStarts" "code",.noat "UnknownMode" "code",.noat "UnknownOrder" "code",.noat "InvalidSound" "code",.noat "InvalidRoom" "code",.noat "InvalidRecord" "code",.noat "InvalidWish" "code",.noat "InvalidNumber" "code",.noat "OtherProgram" "code",.noat "TooMany" "code",.noat "TooFew" "code",.noat "InvalidText" "code",.noat "InvalidPage" "code",.noat "InvalidCommand" "code",.noat "DuplicateName" "code",.noat "Full" "code",.noat "InvalidLimit" "code",.noat "UnknownName" "code",.noat "NothingLeft" "code",.noat "InvalidName" "at",.noat "InvalidWords" "at",.noat "InvalidOrders" "at",.noat "InvalidModes" "at",.noat "InvalidStarts" "at",.noat "UnknownMode" "at",.noat "UnknownOrder" "at",.noat "InvalidSound" "at",.noat "InvalidRoom" "at",.noat "InvalidRecord" "at",.noat "InvalidWish" "at",.noat "InvalidNumber" "at",.noat "OtherProgram" "at",.noat "TooMany" "at",.noat "TooFew" "at",.noat "InvalidText" "at",.noat "InvalidPage" "at",.noat "InvalidCommand" "at",.noat "DuplicateName" "at",.noat "Full" "at",.noat "InvalidLimit" "at",.noat "UnknownName" "at",.noat "NothingLeft" "at",.noat "InvalidName" "most",.noat "InvalidWords" "most",.noat "InvalidOrders" "most",.noat "InvalidModes" "most",.noat "InvalidStarts" "most",.noat "UnknownMode" "most",.noat "UnknownOrder" "most",.noat "InvalidSound" "most",.noat "InvalidRoom" "most",.noat "InvalidRecord" "most",.noat "InvalidWish" "most",.noat "InvalidNumber" "most",.noat "OtherProgram" "most",.noat "TooMany" "most",.noat "TooFew" "most",.noat "InvalidText" "most",.noat "InvalidPage" "most",.noat "InvalidCommand" "most",.noat "DuplicateName" "most",.noat "Full" "most",.noat "InvalidLimit" "most",.noat "UnknownName" "most",.noat "NothingLeft" "most",.noat "InvalidName" "mode",.noat "InvalidWords" "mode",.noat "InvalidOrders" "mode",.noat "InvalidModes" "mode",.noat "InvalidStarts" "mode",.noat "UnknownMode" "mode",.noat "UnknownOrder" "mode",.noat "InvalidSound" "mode",.noat "InvalidRoom" "mode",.noat "InvalidRecord" "mode",.noat "InvalidWish" "mode",.noat "InvalidNumber" "mode",.noat "OtherProgram" "mode",.noat "TooMany" "mode",.noat "TooFew" "mode",.noat "InvalidText" "mode",.noat "InvalidPage" "mode",.noat "InvalidCommand" "mode",.noat "DuplicateName" "mode",.noat "Full" "mode",.noat "InvalidLimit" "mode",.noat "UnknownName" "mode",.noat "NothingLeft" "mode",.noat "InvalidName" "line",.noat "InvalidWords" "line",.noat "InvalidOrders" "line",.noat "InvalidModes" "line",.noat "InvalidStarts" "line",.noat "UnknownMode" "line",.noat "UnknownOrder" "line",.noat "InvalidSound" "line",.noat "InvalidRoom" "line",.noat "InvalidRecord" "line",.noat "InvalidWish" "line",.noat "InvalidNumber" "line",.noat "OtherProgram" "line",.noat "TooMany" "line",.noat "TooFew" "line",.noat "InvalidText" "line",.noat "InvalidPage" "line",.noat "InvalidCommand" "line",.noat "DuplicateName" "line",.noat "Full" "line",.noat "InvalidLimit" "line",.noat "UnknownName" "line",.noat "NothingLeft" "line",.noat "InvalidName" "name",.noat "InvalidWords" "name",.noat "InvalidOrders" "name",.noat "InvalidModes" "name",.noat "InvalidStarts" "name",.noat "UnknownMode" "name",.noat "UnknownOrder" "name",.noat "InvalidSound" "name",.noat "InvalidRoom" "name",.noat "InvalidRecord" "name",.noat "InvalidWish" "name",.noat "InvalidNumber" "name",.noat "OtherProgram" "name",.noat "TooMany" "name",.noat "TooFew" "name",.noat "InvalidText" "name",.noat "InvalidPage" "name",.noat "InvalidCommand" "name",.noat "DuplicateName" "name",.noat "Full" "name",.noat "InvalidLimit" "name",.noat "UnknownName" "name",.noat "NothingLeft" "name",.noat "InvalidName" "limit",.noat "InvalidWords" "limit",.noat "InvalidOrders" "limit",.noat "InvalidModes" "limit",.noat "InvalidStarts" "limit",.noat "UnknownMode" "limit",.noat "UnknownOrder" "limit",.noat "InvalidSound" "limit",.noat "InvalidRoom" "limit",.noat "InvalidRecord" "limit",.noat "InvalidWish" "limit",.noat "InvalidNumber" "limit",.noat "OtherProgram" "limit",.noat "TooMany" "limit",.noat "TooFew" "limit",.noat "InvalidText" "limit",.noat "InvalidPage" "limit",.noat "InvalidCommand" "limit",.noat "DuplicateName" "limit",.noat "Full" "limit",.noat "InvalidLimit" "limit",.noat "UnknownName" "limit",.noat "NothingLeft" "limit",.noat "InvalidName" "given",.noat "InvalidWords" "given",.noat "InvalidOrders" "given",.noat "InvalidModes" "given",.noat "InvalidStarts" "given",.noat "UnknownMode" "given",.noat "UnknownOrder" "given",.noat "InvalidSound" "given",.noat "InvalidRoom" "given",.noat "InvalidRecord" "given",.noat "InvalidWish" "given",.noat "InvalidNumber" "given",.noat "OtherProgram" "given",.noat "TooMany" "given",.noat "TooFew" "given",.noat "InvalidText" "given",.noat "InvalidPage" "given",.noat "InvalidCommand" "given",.noat "DuplicateName" "given",.noat "Full" "given",.noat "InvalidLimit" "given",.noat "UnknownName" "given",.noat "NothingLeft" "given",.glo "RoomError",.glo "Missing"]
def xf:List Xf:=[.say (fD bVE "/claim/cut.py" bu),.say (fD bVE "/claim/cut.py" aV),.say (fD bVE "/claim/cut.py" aM),.say (fD bVE "/claim/cut.py" aR),.say (fD bVE "/claim/cut.py" aK),.say (fD bVE "/claim/cut.py" bh),.say (fD bVE "/claim/cut.py" aU),.say (fD bVE "/claim/cut.py" aQ),.say (fD bVE "/claim/cut.py" bj),.say (fD bVE "/claim/cut.py" aO),.say (fD bVE "/claim/cut.py" aX),.say (fD bVE "/claim/cut.py" aN),.say (fD bVE "/claim/cut.py" bG),.say (fD bVE "/claim/cut.py" bL),.say (fD bVE "/claim/cut.py" aY),.say (fD bVE "/claim/cut.py" aZ),.say (fD bVE "/claim/cut.py" aF),.say (fD bVE "/claim/cut.py" aP),.say (fD bVE "/claim/cut.py" cJ),.say (fD bVE "/claim/cut.py" aW),.say (fD bLE "/claim/cut.py" bx),.say (fD bVE "/claim/cut.py" bF.d),.say (fD bIE "/claim/cut.py" bH.d),.say (λK=>cM K (He.ga K "InvalidName")),.say (λK=>cM K (He.ga K "InvalidWords")),.say (λK=>cM K (He.ga K "InvalidOrders")),.say (λK=>cM K (He.ga K "InvalidModes")),.say (λK=>cM K (He.ga K "InvalidStarts")),.say (λK=>cM K (He.ga K "UnknownMode")),.say (λK=>cM K (He.ga K "UnknownOrder")),.say (λK=>cM K (He.ga K "InvalidSound")),.say (λK=>cM K (He.ga K "InvalidRoom")),.say (λK=>cM K (He.ga K "InvalidRecord")),.say (λK=>cM K (He.ga K "InvalidWish")),.say (λK=>cM K (He.ga K "InvalidNumber")),.say (λK=>cM K (He.ga K "OtherProgram")),.say (λK=>cM K (He.ga K "TooMany")),.say (λK=>cM K (He.ga K "TooFew")),.say (λK=>cM K (He.ga K "InvalidText")),.say (λK=>cM K (He.ga K "InvalidPage")),.say (λK=>cM K (He.ga K "InvalidCommand")),.say (λK=>cM K (He.ga K "DuplicateName")),.say (λK=>cM K (He.ga K "Full")),.say (λK=>cM K (He.ga K "InvalidLimit")),.say (λK=>cM K (He.ga K "UnknownName")),.say (λK=>cM K (He.ga K "NothingLeft")),.say (λK=>fM K (He.ga K "InvalidName")),.kit (.own "InvalidName") (.own "InvalidName") true,.say (λK=>fM K (He.ga K "InvalidWords")),.kit (.own "InvalidWords") (.own "InvalidName") false,.say (λK=>fM K (He.ga K "InvalidOrders")),.kit (.own "InvalidOrders") (.own "InvalidName") false,.say (λK=>fM K (He.ga K "InvalidModes")),.kit (.own "InvalidModes") (.own "InvalidName") false,.say (λK=>fM K (He.ga K "InvalidStarts")),.kit (.own "InvalidStarts") (.own "InvalidName") false,.say (λK=>fM K (He.ga K "UnknownMode")),.kit (.own "UnknownMode") (.own "InvalidName") false,.say (λK=>fM K (He.ga K "UnknownOrder")),.kit (.own "UnknownOrder") (.own "InvalidName") false,.say (λK=>fM K (He.ga K "InvalidSound")),.kit (.own "InvalidSound") (.own "InvalidName") false,.say (λK=>fM K (He.ga K "InvalidRoom")),.kit (.own "InvalidRoom") (.own "InvalidName") false,.say (λK=>fM K (He.ga K "InvalidRecord")),.kit (.own "InvalidRecord") (.own "InvalidName") false,.say (λK=>fM K (He.ga K "InvalidWish")),.kit (.own "InvalidWish") (.own "InvalidName") false,.say (λK=>fM K (He.ga K "InvalidNumber")),.kit (.own "InvalidNumber") (.own "InvalidName") false,.say (λK=>fM K (He.ga K "OtherProgram")),.kit (.own "OtherProgram") (.own "InvalidName") false,.say (λK=>fM K (He.ga K "TooMany")),.kit (.own "TooMany") (.own "InvalidName") false,.say (λK=>fM K (He.ga K "TooFew")),.kit (.own "TooFew") (.own "InvalidName") false,.say (λK=>fM K (He.ga K "InvalidText")),.kit (.own "InvalidText") (.own "InvalidName") false,.say (λK=>fM K (He.ga K "InvalidPage")),.kit (.own "InvalidPage") (.own "InvalidName") false,.say (λK=>fM K (He.ga K "InvalidCommand")),.kit (.own "InvalidCommand") (.own "InvalidName") false,.say (λK=>fM K (He.ga K "DuplicateName")),.kit (.own "DuplicateName") (.own "InvalidName") false,.say (λK=>fM K (He.ga K "Full")),.kit (.own "Full") (.own "InvalidName") false,.say (λK=>fM K (He.ga K "InvalidLimit")),.kit (.own "InvalidLimit") (.own "InvalidName") false,.say (λK=>fM K (He.ga K "UnknownName")),.kit (.own "UnknownName") (.own "InvalidName") false,.say (λK=>fM K (He.ga K "NothingLeft")),.kit (.own "NothingLeft") (.own "InvalidName") false,.kit (.own "InvalidName") (.own "InvalidWords") false,.kit (.own "InvalidWords") (.own "InvalidWords") true,.kit (.own "InvalidOrders") (.own "InvalidWords") false,.kit (.own "InvalidModes") (.own "InvalidWords") false,.kit (.own "InvalidStarts") (.own "InvalidWords") false,.kit (.own "UnknownMode") (.own "InvalidWords") false,.kit (.own "UnknownOrder") (.own "InvalidWords") false,.kit (.own "InvalidSound") (.own "InvalidWords") false,.kit (.own "InvalidRoom") (.own "InvalidWords") false,.kit (.own "InvalidRecord") (.own "InvalidWords") false,.kit (.own "InvalidWish") (.own "InvalidWords") false,.kit (.own "InvalidNumber") (.own "InvalidWords") false,.kit (.own "OtherProgram") (.own "InvalidWords") false,.kit (.own "TooMany") (.own "InvalidWords") false,.kit (.own "TooFew") (.own "InvalidWords") false,.kit (.own "InvalidText") (.own "InvalidWords") false,.kit (.own "InvalidPage") (.own "InvalidWords") false,.kit (.own "InvalidCommand") (.own "InvalidWords") false,.kit (.own "DuplicateName") (.own "InvalidWords") false,.kit (.own "Full") (.own "InvalidWords") false,.kit (.own "InvalidLimit") (.own "InvalidWords") false,.kit (.own "UnknownName") (.own "InvalidWords") false,.kit (.own "NothingLeft") (.own "InvalidWords") false,.kit (.own "InvalidName") (.own "InvalidOrders") false,.kit (.own "InvalidWords") (.own "InvalidOrders") false,.kit (.own "InvalidOrders") (.own "InvalidOrders") true,.kit (.own "InvalidModes") (.own "InvalidOrders") false,.kit (.own "InvalidStarts") (.own "InvalidOrders") false,.kit (.own "UnknownMode") (.own "InvalidOrders") false,.kit (.own "UnknownOrder") (.own "InvalidOrders") false,.kit (.own "InvalidSound") (.own "InvalidOrders") false,.kit (.own "InvalidRoom") (.own "InvalidOrders") false,.kit (.own "InvalidRecord") (.own "InvalidOrders") false,.kit (.own "InvalidWish") (.own "InvalidOrders") false,.kit (.own "InvalidNumber") (.own "InvalidOrders") false,.kit (.own "OtherProgram") (.own "InvalidOrders") false,.kit (.own "TooMany") (.own "InvalidOrders") false,.kit (.own "TooFew") (.own "InvalidOrders") false,.kit (.own "InvalidText") (.own "InvalidOrders") false,.kit (.own "InvalidPage") (.own "InvalidOrders") false,.kit (.own "InvalidCommand") (.own "InvalidOrders") false,.kit (.own "DuplicateName") (.own "InvalidOrders") false,.kit (.own "Full") (.own "InvalidOrders") false,.kit (.own "InvalidLimit") (.own "InvalidOrders") false,.kit (.own "UnknownName") (.own "InvalidOrders") false,.kit (.own "NothingLeft") (.own "InvalidOrders") false,.kit (.own "InvalidName") (.own "InvalidModes") false,.kit (.own "InvalidWords") (.own "InvalidModes") false,.kit (.own "InvalidOrders") (.own "InvalidModes") false,.kit (.own "InvalidModes") (.own "InvalidModes") true,.kit (.own "InvalidStarts") (.own "InvalidModes") false,.kit (.own "UnknownMode") (.own "InvalidModes") false,.kit (.own "UnknownOrder") (.own "InvalidModes") false,.kit (.own "InvalidSound") (.own "InvalidModes") false,.kit (.own "InvalidRoom") (.own "InvalidModes") false,.kit (.own "InvalidRecord") (.own "InvalidModes") false,.kit (.own "InvalidWish") (.own "InvalidModes") false,.kit (.own "InvalidNumber") (.own "InvalidModes") false,.kit (.own "OtherProgram") (.own "InvalidModes") false,.kit (.own "TooMany") (.own "InvalidModes") false,.kit (.own "TooFew") (.own "InvalidModes") false,.kit (.own "InvalidText") (.own "InvalidModes") false,.kit (.own "InvalidPage") (.own "InvalidModes") false,.kit (.own "InvalidCommand") (.own "InvalidModes") false,.kit (.own "DuplicateName") (.own "InvalidModes") false,.kit (.own "Full") (.own "InvalidModes") false,.kit (.own "InvalidLimit") (.own "InvalidModes") false,.kit (.own "UnknownName") (.own "InvalidModes") false,.kit (.own "NothingLeft") (.own "InvalidModes") false,.kit (.own "InvalidName") (.own "InvalidStarts") false,.kit (.own "InvalidWords") (.own "InvalidStarts") false,.kit (.own "InvalidOrders") (.own "InvalidStarts") false,.kit (.own "InvalidModes") (.own "InvalidStarts") false,.kit (.own "InvalidStarts") (.own "InvalidStarts") true,.kit (.own "UnknownMode") (.own "InvalidStarts") false,.kit (.own "UnknownOrder") (.own "InvalidStarts") false,.kit (.own "InvalidSound") (.own "InvalidStarts") false,.kit (.own "InvalidRoom") (.own "InvalidStarts") false,.kit (.own "InvalidRecord") (.own "InvalidStarts") false,.kit (.own "InvalidWish") (.own "InvalidStarts") false,.kit (.own "InvalidNumber") (.own "InvalidStarts") false,.kit (.own "OtherProgram") (.own "InvalidStarts") false,.kit (.own "TooMany") (.own "InvalidStarts") false,.kit (.own "TooFew") (.own "InvalidStarts") false,.kit (.own "InvalidText") (.own "InvalidStarts") false,.kit (.own "InvalidPage") (.own "InvalidStarts") false,.kit (.own "InvalidCommand") (.own "InvalidStarts") false,.kit (.own "DuplicateName") (.own "InvalidStarts") false,.kit (.own "Full") (.own "InvalidStarts") false,.kit (.own "InvalidLimit") (.own "InvalidStarts") false,.kit (.own "UnknownName") (.own "InvalidStarts") false,.kit (.own "NothingLeft") (.own "InvalidStarts") false,.kit (.own "InvalidName") (.own "UnknownMode") false,.kit (.own "InvalidWords") (.own "UnknownMode") false,.kit (.own "InvalidOrders") (.own "UnknownMode") false,.kit (.own "InvalidModes") (.own "UnknownMode") false,.kit (.own "InvalidStarts") (.own "UnknownMode") false,.kit (.own "UnknownMode") (.own "UnknownMode") true,.kit (.own "UnknownOrder") (.own "UnknownMode") false,.kit (.own "InvalidSound") (.own "UnknownMode") false,.kit (.own "InvalidRoom") (.own "UnknownMode") false,.kit (.own "InvalidRecord") (.own "UnknownMode") false,.kit (.own "InvalidWish") (.own "UnknownMode") false,.kit (.own "InvalidNumber") (.own "UnknownMode") false,.kit (.own "OtherProgram") (.own "UnknownMode") false,.kit (.own "TooMany") (.own "UnknownMode") false,.kit (.own "TooFew") (.own "UnknownMode") false,.kit (.own "InvalidText") (.own "UnknownMode") false,.kit (.own "InvalidPage") (.own "UnknownMode") false,.kit (.own "InvalidCommand") (.own "UnknownMode") false,.kit (.own "DuplicateName") (.own "UnknownMode") false,.kit (.own "Full") (.own "UnknownMode") false,.kit (.own "InvalidLimit") (.own "UnknownMode") false,.kit (.own "UnknownName") (.own "UnknownMode") false,.kit (.own "NothingLeft") (.own "UnknownMode") false,.kit (.own "InvalidName") (.own "UnknownOrder") false,.kit (.own "InvalidWords") (.own "UnknownOrder") false,.kit (.own "InvalidOrders") (.own "UnknownOrder") false,.kit (.own "InvalidModes") (.own "UnknownOrder") false,.kit (.own "InvalidStarts") (.own "UnknownOrder") false,.kit (.own "UnknownMode") (.own "UnknownOrder") false,.kit (.own "UnknownOrder") (.own "UnknownOrder") true,.kit (.own "InvalidSound") (.own "UnknownOrder") false,.kit (.own "InvalidRoom") (.own "UnknownOrder") false,.kit (.own "InvalidRecord") (.own "UnknownOrder") false,.kit (.own "InvalidWish") (.own "UnknownOrder") false,.kit (.own "InvalidNumber") (.own "UnknownOrder") false,.kit (.own "OtherProgram") (.own "UnknownOrder") false,.kit (.own "TooMany") (.own "UnknownOrder") false,.kit (.own "TooFew") (.own "UnknownOrder") false,.kit (.own "InvalidText") (.own "UnknownOrder") false,.kit (.own "InvalidPage") (.own "UnknownOrder") false,.kit (.own "InvalidCommand") (.own "UnknownOrder") false,.kit (.own "DuplicateName") (.own "UnknownOrder") false,.kit (.own "Full") (.own "UnknownOrder") false,.kit (.own "InvalidLimit") (.own "UnknownOrder") false,.kit (.own "UnknownName") (.own "UnknownOrder") false,.kit (.own "NothingLeft") (.own "UnknownOrder") false,.kit (.own "InvalidName") (.own "InvalidSound") false,.kit (.own "InvalidWords") (.own "InvalidSound") false,.kit (.own "InvalidOrders") (.own "InvalidSound") false,.kit (.own "InvalidModes") (.own "InvalidSound") false,.kit (.own "InvalidStarts") (.own "InvalidSound") false,.kit (.own "UnknownMode") (.own "InvalidSound") false,.kit (.own "UnknownOrder") (.own "InvalidSound") false,.kit (.own "InvalidSound") (.own "InvalidSound") true,.kit (.own "InvalidRoom") (.own "InvalidSound") false,.kit (.own "InvalidRecord") (.own "InvalidSound") false,.kit (.own "InvalidWish") (.own "InvalidSound") false,.kit (.own "InvalidNumber") (.own "InvalidSound") false,.kit (.own "OtherProgram") (.own "InvalidSound") false,.kit (.own "TooMany") (.own "InvalidSound") false,.kit (.own "TooFew") (.own "InvalidSound") false,.kit (.own "InvalidText") (.own "InvalidSound") false,.kit (.own "InvalidPage") (.own "InvalidSound") false,.kit (.own "InvalidCommand") (.own "InvalidSound") false,.kit (.own "DuplicateName") (.own "InvalidSound") false,.kit (.own "Full") (.own "InvalidSound") false,.kit (.own "InvalidLimit") (.own "InvalidSound") false,.kit (.own "UnknownName") (.own "InvalidSound") false,.kit (.own "NothingLeft") (.own "InvalidSound") false,.kit (.own "InvalidName") (.own "InvalidRoom") false,.kit (.own "InvalidWords") (.own "InvalidRoom") false,.kit (.own "InvalidOrders") (.own "InvalidRoom") false,.kit (.own "InvalidModes") (.own "InvalidRoom") false,.kit (.own "InvalidStarts") (.own "InvalidRoom") false,.kit (.own "UnknownMode") (.own "InvalidRoom") false,.kit (.own "UnknownOrder") (.own "InvalidRoom") false,.kit (.own "InvalidSound") (.own "InvalidRoom") false,.kit (.own "InvalidRoom") (.own "InvalidRoom") true,.kit (.own "InvalidRecord") (.own "InvalidRoom") false,.kit (.own "InvalidWish") (.own "InvalidRoom") false,.kit (.own "InvalidNumber") (.own "InvalidRoom") false,.kit (.own "OtherProgram") (.own "InvalidRoom") false,.kit (.own "TooMany") (.own "InvalidRoom") false,.kit (.own "TooFew") (.own "InvalidRoom") false,.kit (.own "InvalidText") (.own "InvalidRoom") false,.kit (.own "InvalidPage") (.own "InvalidRoom") false,.kit (.own "InvalidCommand") (.own "InvalidRoom") false,.kit (.own "DuplicateName") (.own "InvalidRoom") false,.kit (.own "Full") (.own "InvalidRoom") false,.kit (.own "InvalidLimit") (.own "InvalidRoom") false,.kit (.own "UnknownName") (.own "InvalidRoom") false,.kit (.own "NothingLeft") (.own "InvalidRoom") false,.kit (.own "InvalidName") (.own "InvalidRecord") false,.kit (.own "InvalidWords") (.own "InvalidRecord") false,.kit (.own "InvalidOrders") (.own "InvalidRecord") false,.kit (.own "InvalidModes") (.own "InvalidRecord") false,.kit (.own "InvalidStarts") (.own "InvalidRecord") false,.kit (.own "UnknownMode") (.own "InvalidRecord") false,.kit (.own "UnknownOrder") (.own "InvalidRecord") false,.kit (.own "InvalidSound") (.own "InvalidRecord") false,.kit (.own "InvalidRoom") (.own "InvalidRecord") false,.kit (.own "InvalidRecord") (.own "InvalidRecord") true,.kit (.own "InvalidWish") (.own "InvalidRecord") false,.kit (.own "InvalidNumber") (.own "InvalidRecord") false,.kit (.own "OtherProgram") (.own "InvalidRecord") false,.kit (.own "TooMany") (.own "InvalidRecord") false,.kit (.own "TooFew") (.own "InvalidRecord") false,.kit (.own "InvalidText") (.own "InvalidRecord") false,.kit (.own "InvalidPage") (.own "InvalidRecord") false,.kit (.own "InvalidCommand") (.own "InvalidRecord") false,.kit (.own "DuplicateName") (.own "InvalidRecord") false,.kit (.own "Full") (.own "InvalidRecord") false,.kit (.own "InvalidLimit") (.own "InvalidRecord") false,.kit (.own "UnknownName") (.own "InvalidRecord") false,.kit (.own "NothingLeft") (.own "InvalidRecord") false,.kit (.own "InvalidName") (.own "InvalidWish") false,.kit (.own "InvalidWords") (.own "InvalidWish") false,.kit (.own "InvalidOrders") (.own "InvalidWish") false,.kit (.own "InvalidModes") (.own "InvalidWish") false,.kit (.own "InvalidStarts") (.own "InvalidWish") false,.kit (.own "UnknownMode") (.own "InvalidWish") false,.kit (.own "UnknownOrder") (.own "InvalidWish") false,.kit (.own "InvalidSound") (.own "InvalidWish") false,.kit (.own "InvalidRoom") (.own "InvalidWish") false,.kit (.own "InvalidRecord") (.own "InvalidWish") false,.kit (.own "InvalidWish") (.own "InvalidWish") true,.kit (.own "InvalidNumber") (.own "InvalidWish") false,.kit (.own "OtherProgram") (.own "InvalidWish") false,.kit (.own "TooMany") (.own "InvalidWish") false,.kit (.own "TooFew") (.own "InvalidWish") false,.kit (.own "InvalidText") (.own "InvalidWish") false,.kit (.own "InvalidPage") (.own "InvalidWish") false,.kit (.own "InvalidCommand") (.own "InvalidWish") false,.kit (.own "DuplicateName") (.own "InvalidWish") false,.kit (.own "Full") (.own "InvalidWish") false,.kit (.own "InvalidLimit") (.own "InvalidWish") false,.kit (.own "UnknownName") (.own "InvalidWish") false,.kit (.own "NothingLeft") (.own "InvalidWish") false,.kit (.own "InvalidName") (.own "InvalidNumber") false,.kit (.own "InvalidWords") (.own "InvalidNumber") false,.kit (.own "InvalidOrders") (.own "InvalidNumber") false,.kit (.own "InvalidModes") (.own "InvalidNumber") false,.kit (.own "InvalidStarts") (.own "InvalidNumber") false,.kit (.own "UnknownMode") (.own "InvalidNumber") false,.kit (.own "UnknownOrder") (.own "InvalidNumber") false,.kit (.own "InvalidSound") (.own "InvalidNumber") false,.kit (.own "InvalidRoom") (.own "InvalidNumber") false,.kit (.own "InvalidRecord") (.own "InvalidNumber") false,.kit (.own "InvalidWish") (.own "InvalidNumber") false,.kit (.own "InvalidNumber") (.own "InvalidNumber") true,.kit (.own "OtherProgram") (.own "InvalidNumber") false,.kit (.own "TooMany") (.own "InvalidNumber") false,.kit (.own "TooFew") (.own "InvalidNumber") false,.kit (.own "InvalidText") (.own "InvalidNumber") false,.kit (.own "InvalidPage") (.own "InvalidNumber") false,.kit (.own "InvalidCommand") (.own "InvalidNumber") false,.kit (.own "DuplicateName") (.own "InvalidNumber") false,.kit (.own "Full") (.own "InvalidNumber") false,.kit (.own "InvalidLimit") (.own "InvalidNumber") false,.kit (.own "UnknownName") (.own "InvalidNumber") false,.kit (.own "NothingLeft") (.own "InvalidNumber") false,.kit (.own "InvalidName") (.own "OtherProgram") false,.kit (.own "InvalidWords") (.own "OtherProgram") false,.kit (.own "InvalidOrders") (.own "OtherProgram") false,.kit (.own "InvalidModes") (.own "OtherProgram") false,.kit (.own "InvalidStarts") (.own "OtherProgram") false,.kit (.own "UnknownMode") (.own "OtherProgram") false,.kit (.own "UnknownOrder") (.own "OtherProgram") false,.kit (.own "InvalidSound") (.own "OtherProgram") false,.kit (.own "InvalidRoom") (.own "OtherProgram") false,.kit (.own "InvalidRecord") (.own "OtherProgram") false,.kit (.own "InvalidWish") (.own "OtherProgram") false,.kit (.own "InvalidNumber") (.own "OtherProgram") false,.kit (.own "OtherProgram") (.own "OtherProgram") true,.kit (.own "TooMany") (.own "OtherProgram") false,.kit (.own "TooFew") (.own "OtherProgram") false,.kit (.own "InvalidText") (.own "OtherProgram") false,.kit (.own "InvalidPage") (.own "OtherProgram") false,.kit (.own "InvalidCommand") (.own "OtherProgram") false,.kit (.own "DuplicateName") (.own "OtherProgram") false,.kit (.own "Full") (.own "OtherProgram") false,.kit (.own "InvalidLimit") (.own "OtherProgram") false,.kit (.own "UnknownName") (.own "OtherProgram") false,.kit (.own "NothingLeft") (.own "OtherProgram") false,.kit (.own "InvalidName") (.own "TooMany") false,.kit (.own "InvalidWords") (.own "TooMany") false,.kit (.own "InvalidOrders") (.own "TooMany") false,.kit (.own "InvalidModes") (.own "TooMany") false,.kit (.own "InvalidStarts") (.own "TooMany") false,.kit (.own "UnknownMode") (.own "TooMany") false,.kit (.own "UnknownOrder") (.own "TooMany") false,.kit (.own "InvalidSound") (.own "TooMany") false,.kit (.own "InvalidRoom") (.own "TooMany") false,.kit (.own "InvalidRecord") (.own "TooMany") false,.kit (.own "InvalidWish") (.own "TooMany") false,.kit (.own "InvalidNumber") (.own "TooMany") false,.kit (.own "OtherProgram") (.own "TooMany") false,.kit (.own "TooMany") (.own "TooMany") true,.kit (.own "TooFew") (.own "TooMany") false,.kit (.own "InvalidText") (.own "TooMany") false,.kit (.own "InvalidPage") (.own "TooMany") false,.kit (.own "InvalidCommand") (.own "TooMany") false,.kit (.own "DuplicateName") (.own "TooMany") false,.kit (.own "Full") (.own "TooMany") false,.kit (.own "InvalidLimit") (.own "TooMany") false,.kit (.own "UnknownName") (.own "TooMany") false,.kit (.own "NothingLeft") (.own "TooMany") false,.kit (.own "InvalidName") (.own "TooFew") false,.kit (.own "InvalidWords") (.own "TooFew") false,.kit (.own "InvalidOrders") (.own "TooFew") false,.kit (.own "InvalidModes") (.own "TooFew") false,.kit (.own "InvalidStarts") (.own "TooFew") false,.kit (.own "UnknownMode") (.own "TooFew") false,.kit (.own "UnknownOrder") (.own "TooFew") false,.kit (.own "InvalidSound") (.own "TooFew") false,.kit (.own "InvalidRoom") (.own "TooFew") false,.kit (.own "InvalidRecord") (.own "TooFew") false,.kit (.own "InvalidWish") (.own "TooFew") false,.kit (.own "InvalidNumber") (.own "TooFew") false,.kit (.own "OtherProgram") (.own "TooFew") false,.kit (.own "TooMany") (.own "TooFew") false,.kit (.own "TooFew") (.own "TooFew") true,.kit (.own "InvalidText") (.own "TooFew") false,.kit (.own "InvalidPage") (.own "TooFew") false,.kit (.own "InvalidCommand") (.own "TooFew") false,.kit (.own "DuplicateName") (.own "TooFew") false,.kit (.own "Full") (.own "TooFew") false,.kit (.own "InvalidLimit") (.own "TooFew") false,.kit (.own "UnknownName") (.own "TooFew") false,.kit (.own "NothingLeft") (.own "TooFew") false,.kit (.own "InvalidName") (.own "InvalidText") false,.kit (.own "InvalidWords") (.own "InvalidText") false,.kit (.own "InvalidOrders") (.own "InvalidText") false,.kit (.own "InvalidModes") (.own "InvalidText") false,.kit (.own "InvalidStarts") (.own "InvalidText") false,.kit (.own "UnknownMode") (.own "InvalidText") false,.kit (.own "UnknownOrder") (.own "InvalidText") false,.kit (.own "InvalidSound") (.own "InvalidText") false,.kit (.own "InvalidRoom") (.own "InvalidText") false,.kit (.own "InvalidRecord") (.own "InvalidText") false,.kit (.own "InvalidWish") (.own "InvalidText") false,.kit (.own "InvalidNumber") (.own "InvalidText") false,.kit (.own "OtherProgram") (.own "InvalidText") false,.kit (.own "TooMany") (.own "InvalidText") false,.kit (.own "TooFew") (.own "InvalidText") false,.kit (.own "InvalidText") (.own "InvalidText") true,.kit (.own "InvalidPage") (.own "InvalidText") false,.kit (.own "InvalidCommand") (.own "InvalidText") false,.kit (.own "DuplicateName") (.own "InvalidText") false,.kit (.own "Full") (.own "InvalidText") false,.kit (.own "InvalidLimit") (.own "InvalidText") false,.kit (.own "UnknownName") (.own "InvalidText") false,.kit (.own "NothingLeft") (.own "InvalidText") false,.kit (.own "InvalidName") (.own "InvalidPage") false,.kit (.own "InvalidWords") (.own "InvalidPage") false,.kit (.own "InvalidOrders") (.own "InvalidPage") false,.kit (.own "InvalidModes") (.own "InvalidPage") false,.kit (.own "InvalidStarts") (.own "InvalidPage") false,.kit (.own "UnknownMode") (.own "InvalidPage") false,.kit (.own "UnknownOrder") (.own "InvalidPage") false,.kit (.own "InvalidSound") (.own "InvalidPage") false,.kit (.own "InvalidRoom") (.own "InvalidPage") false,.kit (.own "InvalidRecord") (.own "InvalidPage") false,.kit (.own "InvalidWish") (.own "InvalidPage") false,.kit (.own "InvalidNumber") (.own "InvalidPage") false,.kit (.own "OtherProgram") (.own "InvalidPage") false,.kit (.own "TooMany") (.own "InvalidPage") false,.kit (.own "TooFew") (.own "InvalidPage") false,.kit (.own "InvalidText") (.own "InvalidPage") false,.kit (.own "InvalidPage") (.own "InvalidPage") true,.kit (.own "InvalidCommand") (.own "InvalidPage") false,.kit (.own "DuplicateName") (.own "InvalidPage") false,.kit (.own "Full") (.own "InvalidPage") false,.kit (.own "InvalidLimit") (.own "InvalidPage") false,.kit (.own "UnknownName") (.own "InvalidPage") false,.kit (.own "NothingLeft") (.own "InvalidPage") false,.kit (.own "InvalidName") (.own "InvalidCommand") false,.kit (.own "InvalidWords") (.own "InvalidCommand") false,.kit (.own "InvalidOrders") (.own "InvalidCommand") false,.kit (.own "InvalidModes") (.own "InvalidCommand") false,.kit (.own "InvalidStarts") (.own "InvalidCommand") false,.kit (.own "UnknownMode") (.own "InvalidCommand") false,.kit (.own "UnknownOrder") (.own "InvalidCommand") false,.kit (.own "InvalidSound") (.own "InvalidCommand") false,.kit (.own "InvalidRoom") (.own "InvalidCommand") false,.kit (.own "InvalidRecord") (.own "InvalidCommand") false,.kit (.own "InvalidWish") (.own "InvalidCommand") false,.kit (.own "InvalidNumber") (.own "InvalidCommand") false,.kit (.own "OtherProgram") (.own "InvalidCommand") false,.kit (.own "TooMany") (.own "InvalidCommand") false,.kit (.own "TooFew") (.own "InvalidCommand") false,.kit (.own "InvalidText") (.own "InvalidCommand") false,.kit (.own "InvalidPage") (.own "InvalidCommand") false,.kit (.own "InvalidCommand") (.own "InvalidCommand") true,.kit (.own "DuplicateName") (.own "InvalidCommand") false,.kit (.own "Full") (.own "InvalidCommand") false,.kit (.own "InvalidLimit") (.own "InvalidCommand") false,.kit (.own "UnknownName") (.own "InvalidCommand") false,.kit (.own "NothingLeft") (.own "InvalidCommand") false,.kit (.own "InvalidName") (.own "DuplicateName") false,.kit (.own "InvalidWords") (.own "DuplicateName") false,.kit (.own "InvalidOrders") (.own "DuplicateName") false,.kit (.own "InvalidModes") (.own "DuplicateName") false,.kit (.own "InvalidStarts") (.own "DuplicateName") false,.kit (.own "UnknownMode") (.own "DuplicateName") false,.kit (.own "UnknownOrder") (.own "DuplicateName") false,.kit (.own "InvalidSound") (.own "DuplicateName") false,.kit (.own "InvalidRoom") (.own "DuplicateName") false,.kit (.own "InvalidRecord") (.own "DuplicateName") false,.kit (.own "InvalidWish") (.own "DuplicateName") false,.kit (.own "InvalidNumber") (.own "DuplicateName") false,.kit (.own "OtherProgram") (.own "DuplicateName") false,.kit (.own "TooMany") (.own "DuplicateName") false,.kit (.own "TooFew") (.own "DuplicateName") false,.kit (.own "InvalidText") (.own "DuplicateName") false,.kit (.own "InvalidPage") (.own "DuplicateName") false,.kit (.own "InvalidCommand") (.own "DuplicateName") false,.kit (.own "DuplicateName") (.own "DuplicateName") true,.kit (.own "Full") (.own "DuplicateName") false,.kit (.own "InvalidLimit") (.own "DuplicateName") false,.kit (.own "UnknownName") (.own "DuplicateName") false,.kit (.own "NothingLeft") (.own "DuplicateName") false,.kit (.own "InvalidName") (.own "Full") false,.kit (.own "InvalidWords") (.own "Full") false,.kit (.own "InvalidOrders") (.own "Full") false,.kit (.own "InvalidModes") (.own "Full") false,.kit (.own "InvalidStarts") (.own "Full") false,.kit (.own "UnknownMode") (.own "Full") false,.kit (.own "UnknownOrder") (.own "Full") false,.kit (.own "InvalidSound") (.own "Full") false,.kit (.own "InvalidRoom") (.own "Full") false,.kit (.own "InvalidRecord") (.own "Full") false,.kit (.own "InvalidWish") (.own "Full") false,.kit (.own "InvalidNumber") (.own "Full") false,.kit (.own "OtherProgram") (.own "Full") false,.kit (.own "TooMany") (.own "Full") false,.kit (.own "TooFew") (.own "Full") false,.kit (.own "InvalidText") (.own "Full") false,.kit (.own "InvalidPage") (.own "Full") false,.kit (.own "InvalidCommand") (.own "Full") false,.kit (.own "DuplicateName") (.own "Full") false,.kit (.own "Full") (.own "Full") true,.kit (.own "InvalidLimit") (.own "Full") false,.kit (.own "UnknownName") (.own "Full") false,.kit (.own "NothingLeft") (.own "Full") false,.kit (.own "InvalidName") (.own "InvalidLimit") false,.kit (.own "InvalidWords") (.own "InvalidLimit") false,.kit (.own "InvalidOrders") (.own "InvalidLimit") false,.kit (.own "InvalidModes") (.own "InvalidLimit") false,.kit (.own "InvalidStarts") (.own "InvalidLimit") false,.kit (.own "UnknownMode") (.own "InvalidLimit") false,.kit (.own "UnknownOrder") (.own "InvalidLimit") false,.kit (.own "InvalidSound") (.own "InvalidLimit") false,.kit (.own "InvalidRoom") (.own "InvalidLimit") false,.kit (.own "InvalidRecord") (.own "InvalidLimit") false,.kit (.own "InvalidWish") (.own "InvalidLimit") false,.kit (.own "InvalidNumber") (.own "InvalidLimit") false,.kit (.own "OtherProgram") (.own "InvalidLimit") false,.kit (.own "TooMany") (.own "InvalidLimit") false,.kit (.own "TooFew") (.own "InvalidLimit") false,.kit (.own "InvalidText") (.own "InvalidLimit") false,.kit (.own "InvalidPage") (.own "InvalidLimit") false,.kit (.own "InvalidCommand") (.own "InvalidLimit") false,.kit (.own "DuplicateName") (.own "InvalidLimit") false,.kit (.own "Full") (.own "InvalidLimit") false,.kit (.own "InvalidLimit") (.own "InvalidLimit") true,.kit (.own "UnknownName") (.own "InvalidLimit") false,.kit (.own "NothingLeft") (.own "InvalidLimit") false,.kit (.own "InvalidName") (.own "UnknownName") false,.kit (.own "InvalidWords") (.own "UnknownName") false,.kit (.own "InvalidOrders") (.own "UnknownName") false,.kit (.own "InvalidModes") (.own "UnknownName") false,.kit (.own "InvalidStarts") (.own "UnknownName") false,.kit (.own "UnknownMode") (.own "UnknownName") false,.kit (.own "UnknownOrder") (.own "UnknownName") false,.kit (.own "InvalidSound") (.own "UnknownName") false,.kit (.own "InvalidRoom") (.own "UnknownName") false,.kit (.own "InvalidRecord") (.own "UnknownName") false,.kit (.own "InvalidWish") (.own "UnknownName") false,.kit (.own "InvalidNumber") (.own "UnknownName") false,.kit (.own "OtherProgram") (.own "UnknownName") false,.kit (.own "TooMany") (.own "UnknownName") false,.kit (.own "TooFew") (.own "UnknownName") false,.kit (.own "InvalidText") (.own "UnknownName") false,.kit (.own "InvalidPage") (.own "UnknownName") false,.kit (.own "InvalidCommand") (.own "UnknownName") false,.kit (.own "DuplicateName") (.own "UnknownName") false,.kit (.own "Full") (.own "UnknownName") false,.kit (.own "InvalidLimit") (.own "UnknownName") false,.kit (.own "UnknownName") (.own "UnknownName") true,.kit (.own "NothingLeft") (.own "UnknownName") false,.kit (.own "InvalidName") (.own "NothingLeft") false,.kit (.own "InvalidWords") (.own "NothingLeft") false,.kit (.own "InvalidOrders") (.own "NothingLeft") false,.kit (.own "InvalidModes") (.own "NothingLeft") false,.kit (.own "InvalidStarts") (.own "NothingLeft") false,.kit (.own "UnknownMode") (.own "NothingLeft") false,.kit (.own "UnknownOrder") (.own "NothingLeft") false,.kit (.own "InvalidSound") (.own "NothingLeft") false,.kit (.own "InvalidRoom") (.own "NothingLeft") false,.kit (.own "InvalidRecord") (.own "NothingLeft") false,.kit (.own "InvalidWish") (.own "NothingLeft") false,.kit (.own "InvalidNumber") (.own "NothingLeft") false,.kit (.own "OtherProgram") (.own "NothingLeft") false,.kit (.own "TooMany") (.own "NothingLeft") false,.kit (.own "TooFew") (.own "NothingLeft") false,.kit (.own "InvalidText") (.own "NothingLeft") false,.kit (.own "InvalidPage") (.own "NothingLeft") false,.kit (.own "InvalidCommand") (.own "NothingLeft") false,.kit (.own "DuplicateName") (.own "NothingLeft") false,.kit (.own "Full") (.own "NothingLeft") false,.kit (.own "InvalidLimit") (.own "NothingLeft") false,.kit (.own "UnknownName") (.own "NothingLeft") false,.kit (.own "NothingLeft") (.own "NothingLeft") true,.kit (.own "InvalidName") (.own "RoomError") true,.kit (.own "InvalidWords") (.own "RoomError") true,.kit (.own "InvalidOrders") (.own "RoomError") true,.kit (.own "InvalidModes") (.own "RoomError") true,.kit (.own "InvalidStarts") (.own "RoomError") true,.kit (.own "UnknownMode") (.own "RoomError") true,.kit (.own "UnknownOrder") (.own "RoomError") true,.kit (.own "InvalidSound") (.own "RoomError") true,.kit (.own "InvalidRoom") (.own "RoomError") true,.kit (.own "InvalidRecord") (.own "RoomError") true,.kit (.own "InvalidWish") (.own "RoomError") true,.kit (.own "InvalidNumber") (.own "RoomError") true,.kit (.own "OtherProgram") (.own "RoomError") true,.kit (.own "TooMany") (.own "RoomError") true,.kit (.own "TooFew") (.own "RoomError") true,.kit (.own "InvalidText") (.own "RoomError") true,.kit (.own "InvalidPage") (.own "RoomError") true,.kit (.own "InvalidCommand") (.own "RoomError") true,.kit (.own "DuplicateName") (.own "RoomError") true,.kit (.own "Full") (.own "RoomError") true,.kit (.own "InvalidLimit") (.own "RoomError") true,.kit (.own "UnknownName") (.own "RoomError") false,.kit (.own "NothingLeft") (.own "RoomError") false,.kit (.own "InvalidName") (.b "ValueError") true,.kit (.own "InvalidWords") (.b "ValueError") true,.kit (.own "InvalidOrders") (.b "ValueError") true,.kit (.own "InvalidModes") (.b "ValueError") true,.kit (.own "InvalidStarts") (.b "ValueError") true,.kit (.own "UnknownMode") (.b "ValueError") true,.kit (.own "UnknownOrder") (.b "ValueError") true,.kit (.own "InvalidSound") (.b "ValueError") true,.kit (.own "InvalidRoom") (.b "ValueError") true,.kit (.own "InvalidRecord") (.b "ValueError") true,.kit (.own "InvalidWish") (.b "ValueError") true,.kit (.own "InvalidNumber") (.b "ValueError") true,.kit (.own "OtherProgram") (.b "ValueError") true,.kit (.own "TooMany") (.b "ValueError") true,.kit (.own "TooFew") (.b "ValueError") true,.kit (.own "InvalidText") (.b "ValueError") true,.kit (.own "InvalidPage") (.b "ValueError") true,.kit (.own "InvalidCommand") (.b "ValueError") true,.kit (.own "DuplicateName") (.b "ValueError") true,.kit (.own "Full") (.b "ValueError") true,.kit (.own "InvalidLimit") (.b "ValueError") true,.kit (.own "UnknownName") (.b "ValueError") false,.kit (.own "NothingLeft") (.b "ValueError") false,.kit (.own "InvalidName") (.own "Missing") false,.kit (.own "InvalidWords") (.own "Missing") false,.kit (.own "InvalidOrders") (.own "Missing") false,.kit (.own "InvalidModes") (.own "Missing") false,.kit (.own "InvalidStarts") (.own "Missing") false,.kit (.own "UnknownMode") (.own "Missing") false,.kit (.own "UnknownOrder") (.own "Missing") false,.kit (.own "InvalidSound") (.own "Missing") false,.kit (.own "InvalidRoom") (.own "Missing") false,.kit (.own "InvalidRecord") (.own "Missing") false,.kit (.own "InvalidWish") (.own "Missing") false,.kit (.own "InvalidNumber") (.own "Missing") false,.kit (.own "OtherProgram") (.own "Missing") false,.kit (.own "TooMany") (.own "Missing") false,.kit (.own "TooFew") (.own "Missing") false,.kit (.own "InvalidText") (.own "Missing") false,.kit (.own "InvalidPage") (.own "Missing") false,.kit (.own "InvalidCommand") (.own "Missing") false,.kit (.own "DuplicateName") (.own "Missing") false,.kit (.own "Full") (.own "Missing") false,.kit (.own "InvalidLimit") (.own "Missing") false,.kit (.own "UnknownName") (.own "Missing") true,.kit (.own "NothingLeft") (.own "Missing") false,.kit (.own "InvalidName") (.b "LookupError") false,.kit (.own "InvalidWords") (.b "LookupError") false,.kit (.own "InvalidOrders") (.b "LookupError") false,.kit (.own "InvalidModes") (.b "LookupError") false,.kit (.own "InvalidStarts") (.b "LookupError") false,.kit (.own "UnknownMode") (.b "LookupError") false,.kit (.own "UnknownOrder") (.b "LookupError") false,.kit (.own "InvalidSound") (.b "LookupError") false,.kit (.own "InvalidRoom") (.b "LookupError") false,.kit (.own "InvalidRecord") (.b "LookupError") false,.kit (.own "InvalidWish") (.b "LookupError") false,.kit (.own "InvalidNumber") (.b "LookupError") false,.kit (.own "OtherProgram") (.b "LookupError") false,.kit (.own "TooMany") (.b "LookupError") false,.kit (.own "TooFew") (.b "LookupError") false,.kit (.own "InvalidText") (.b "LookupError") false,.kit (.own "InvalidPage") (.b "LookupError") false,.kit (.own "InvalidCommand") (.b "LookupError") false,.kit (.own "DuplicateName") (.b "LookupError") false,.kit (.own "Full") (.b "LookupError") false,.kit (.own "InvalidLimit") (.b "LookupError") false,.kit (.own "UnknownName") (.b "LookupError") true,.kit (.own "NothingLeft") (.b "LookupError") true,.kit (.own "InvalidName") (.b "IndexError") false,.kit (.own "InvalidWords") (.b "IndexError") false,.kit (.own "InvalidOrders") (.b "IndexError") false,.kit (.own "InvalidModes") (.b "IndexError") false,.kit (.own "InvalidStarts") (.b "IndexError") false,.kit (.own "UnknownMode") (.b "IndexError") false,.kit (.own "UnknownOrder") (.b "IndexError") false,.kit (.own "InvalidSound") (.b "IndexError") false,.kit (.own "InvalidRoom") (.b "IndexError") false,.kit (.own "InvalidRecord") (.b "IndexError") false,.kit (.own "InvalidWish") (.b "IndexError") false,.kit (.own "InvalidNumber") (.b "IndexError") false,.kit (.own "OtherProgram") (.b "IndexError") false,.kit (.own "TooMany") (.b "IndexError") false,.kit (.own "TooFew") (.b "IndexError") false,.kit (.own "InvalidText") (.b "IndexError") false,.kit (.own "InvalidPage") (.b "IndexError") false,.kit (.own "InvalidCommand") (.b "IndexError") false,.kit (.own "DuplicateName") (.b "IndexError") false,.kit (.own "Full") (.b "IndexError") false,.kit (.own "InvalidLimit") (.b "IndexError") false,.kit (.own "UnknownName") (.b "IndexError") false,.kit (.own "NothingLeft") (.b "IndexError") true,.say (PB bVE "RoomError"),.say (λK=>fM K (He.ga K "RoomError")),.kit (.own "RoomError") (.b "ValueError") true,.say (PB bLE "Missing"),.say (λK=>fM K (He.ga K "Missing")),.kit (.own "Missing") (.b "LookupError") true]
def ts:List He.Tab:=[]
abbrev RR:PySem.W.OpenRow:=PySem.W.OpenLaw.row PySem.Challenge.rw_roomofcalls_k01_errors_by_themselves
def asE:List Addr:=[2,3,6,4,24,37,59,80,101,122,143,164,185,206,227,248,269,290,311,332,353,374,395,416,437,458,479,500,521,531,538,545,550,557,564,571,578,585,590,0,23,36,58,79,100,121,142,163,184,205,226,247,268,289,310,331,352,373,394,415,436,457,478,499,520,530,537,544,549,556,563,570,577,584,589,22,25,35,38,56,57,77,78,98,99,119,120,140,141,161,162,182,183,203,204,224,225,245,246,266,267,287,288,308,309,329,330,350,351,371,372,392,393,413,414,434,435,455,456,476,477,497,498,518,519,522,525,527,528,529,532,534,535,536,539,541,542,543,546,548,551,553,554,555,558,560,561,562,565,567,568,569,572,574,575,576,579,581,582,583,586,588,55,44,76,65,97,86,118,107,139,128,160,149,181,170,202,191,223,212,244,233,265,254,286,275,307,296,328,317,349,338,370,359,391,380,412,401,433,422,454,443,475,464,496,485,517,506,50,52,53,54,71,73,74,75,92,94,95,96,113,115,116,117,134,136,137,138,155,157,158,159,176,178,179,180,197,199,200,201,218,220,221,222,239,241,242,243,260,262,263,264,281,283,284,285,302,304,305,306,323,325,326,327,344,346,347,348,365,367,368,369,386,388,389,390,407,409,410,411,428,430,431,432,449,451,452,453,470,472,473,474,491,493,494,495,512,514,515,516]
abbrev hk:PySem.W.Hook:=VP asE fa xf fn ts ers
def ob(s:PySem.W.SharedT):AlX:=Ko asE fa xf fn ts ers (HandSHeadRun.getT s)
theorem ZS(s:PySem.W.SharedT):ob s=hk.obs s.abs:=JM (HandSHeadRun.getT_eq s)
def nms:List PySem.Str:=(["RoomError","Missing","InvalidName","InvalidWords","InvalidOrders","InvalidModes","InvalidStarts","UnknownMode","UnknownOrder","InvalidSound","InvalidRoom","InvalidRecord","InvalidWish","InvalidNumber","OtherProgram"]:List PySem.Str)++(["TooMany","TooFew","InvalidText","InvalidPage","InvalidCommand","DuplicateName","Full","InvalidLimit","UnknownName","NothingLeft","_law_open","_law_draw","_law_of","_law_same","_law_field"]:List PySem.Str)++(["_law_odd","_law_errors","_law_codes","_law_kinds_of"]:List PySem.Str)
end K01
noncomputable section
namespace K01
open PySem PySem.W PySem.Calls HandSHeadRun
open RcCut (putL hT hN hY hD hG hS hF hC hX h3 hE hM eV eR eO f5 f7)
abbrev hK(P:Params)(x:PySem.Str):Int:=PyData.keyHash P x
def t_0(P:Params):PySem.W.BT:=RcCut.KY .nil [(0,PySem.W.boot_o_0 P),(1,PySem.W.boot_o_1 P),(2,PySem.W.boot_o_2 P),(3,PySem.W.boot_o_3 P),(4,PySem.W.boot_o_4 P),(5,PySem.W.boot_o_5 P),(6,PySem.W.boot_o_6 P),(7,PySem.W.boot_o_7 P),(8,PySem.W.boot_o_8 P),(9,PySem.W.boot_o_9 P),(10,PySem.W.boot_o_10 P)]
def Jw:Option Value:=(some (.ref 6))
def ul:Env:={ scope:=PySem.Challenge.pw_roomofcalls_k01_errors_by_themselves.main.scope,locals:=mainNs,globals:=mainNs,cells:=[],code:=(.ref 13),frame:=some 14 }
def jT:List Stmt:=behindTheImports PySem.Challenge.pw_roomofcalls_k01_errors_by_themselves
def t_a(P:Params):PySem.W.BT:=RcCut.KY (t_0 P) [(11,hT #[]),
 (12,hN #[]),
 (13,hC "<module>" 182 "<module>" 183 184 1 0 0 0 0 (.ref 11) false 181 (.ref 12) .none .none .none .none 185 1 186),
 (14,⟨(.type "frame"),none,.plain,#[(some (.ref 13)),(some (.ref 3)),(some (.ref 3)),none,(some (.str "__main__" 164)),none,(some (.ref 0))]⟩)]
abbrev s_a(w:World)(os:OsState):SharedT:=RcCut.wB t_a 15 boot_drawn 187 w os
def t_b(P:Params):PySem.W.BT:=t_a P
abbrev s_b(w:World)(os:OsState):SharedT:=RcCut.wB t_b 15 boot_drawn 187 w os
theorem r_a(w:World)(os:OsState):RcCut.uN (RcCut.stQ PySem.Challenge.pw_roomofcalls_k01_errors_by_themselves w) 11 Jw 12 (RcCut.UT w os (t_0 w.params) 11) (topStub PySem.Challenge.pw_roomofcalls_k01_errors_by_themselves)=some (s_a w os,⟨HandSHeadRun.denQ HandSHeadRun.tabQ (.body jT ul),(.body jT ul),⟨0,0,0,0⟩,[topFrame ⟨0,0,0,0⟩]⟩):=by kernel_rfl
theorem r_b(w:World)(os:OsState):RcCut.Eb (RcCut.stQ PySem.Challenge.pw_roomofcalls_k01_errors_by_themselves w) 11 Jw 1 1 (s_a w os) (blockOf jT ul (.body jT ul) ⟨0,0,0,0⟩ [topFrame ⟨0,0,0,0⟩])=some (.next,s_b w os,(.body jT ul),⟨0,0,0,0⟩):=by kernel_rfl
def e_1(P:Params):List DictEntry:=[eV P "__doc__" 166 .none,eV P "__package__" 167 .none,eV P "__loader__" 168 (.builtin "__main__.__loader__#opaque"),eV P "__spec__" 169 .none,eV P "__annotations__" 170 (.ref 6),eV P "__builtins__" 171 (.ref 4),eV P "__file__" 173 (.str "/claim/cut.py" 172),eV P "__cached__" 174 .none]++eR P [("RoomError",206,24),("Missing",224,37),("InvalidName",252,59),("InvalidWords",280,80),("InvalidOrders",308,101),("InvalidModes",336,122),("InvalidStarts",364,143)]
def p_1:List (Int × Nat):=[(2,20),(4,33),(6,47),(12,68),(18,89),(24,110),(30,131)]
def aaE(P:Params):PySem.W.BT:=putL (t_b P) [[(3,hE (eV P "__name__" 165 (.str "roomofcalls.errors" 187)::e_1 P) 16),(12,h3 0 p_1),(15,hT #[(.type "ValueError")]),(16,hY "builtin_function_or_method" #[(.builtin "type.__prepare__"),(.type "type")]),(17,hE ([eV P "__module__" 196 (.str "roomofcalls.errors" 187),eV P "__qualname__" 198 (.str "RoomError" 197),eV P "__firstlineno__" 200 (.int 2 199),eV P "__static_attributes__" 201 (.ref 22)]) 4),(18,hT #[]),(19,hN #[]),(20,hC "RoomError" 191 "RoomError" 192 193 2 0 0 0 0 (.ref 18) false 181 (.ref 19) .none .none .none .none 194 2 195),(21,hM 20 17 "roomofcalls.errors" 187),(22,hT #[]),(23,hE ([eV P "__module__" 196 (.str "roomofcalls.errors" 187),eV P "__firstlineno__" 200 (.int 2 199),eV P "__static_attributes__" 201 (.ref 22),eV P "__weakref__" 203 (.ref 25),eV P "__doc__" 204 .none]) 3),(24,⟨(.type "type"),none,(.cls ⟨"RoomError",[(.type "ValueError")],[(.ref 24),(.type "ValueError"),(.type "Exception"),(.type "BaseException"),(.type "object")],23,"RoomError",true,[],[(.ref 59),(.ref 80),(.ref 101),(.ref 122),(.ref 143)],false,none,false⟩),#[(some (.ref 15)),none,(some (.str "RoomError" 189)),(some (.str "RoomError" 197)),(some (.builtin "ValueError.__new__")),(some (.bool true))]⟩),(25,hY "getset_descriptor" #[(.str "__weakref__" 202),(.ref 24),(.builtin "ExceptionGroup.__weakref__"),.none]),(26,hY "super" #[(.ref 24),(.ref 24),(.ref 24)]),(27,hY "builtin_function_or_method" #[(.builtin "object.__init_subclass__"),(.ref 24)]),(28,hT #[(.type "LookupError")]),(29,hY "builtin_function_or_method" #[(.builtin "type.__prepare__"),(.type "type")]),(30,hE ([eV P "__module__" 214 (.str "roomofcalls.errors" 187),eV P "__qualname__" 216 (.str "Missing" 215),eV P "__firstlineno__" 218 (.int 4 217),eV P "__static_attributes__" 219 (.ref 35)]) 4),(31,hT #[]),(32,hN #[]),(33,hC "Missing" 209 "Missing" 210 211 4 0 0 0 0 (.ref 31) false 181 (.ref 32) .none .none .none .none 212 4 213),(34,hM 33 30 "roomofcalls.errors" 187),(35,hT #[]),(36,hE ([eV P "__module__" 214 (.str "roomofcalls.errors" 187),eV P "__firstlineno__" 218 (.int 4 217),eV P "__static_attributes__" 219 (.ref 35),eV P "__weakref__" 221 (.ref 38),eV P "__doc__" 222 .none]) 3),(37,⟨(.type "type"),none,(.cls ⟨"Missing",[(.type "LookupError")],[(.ref 37),(.type "LookupError"),(.type "Exception"),(.type "BaseException"),(.type "object")],36,"Missing",true,[],[],false,none,false⟩),#[(some (.ref 28)),none,(some (.str "Missing" 207)),(some (.str "Missing" 215)),(some (.builtin "LookupError.__new__")),(some (.bool true))]⟩),(38,hY "getset_descriptor" #[(.str "__weakref__" 220),(.ref 37),(.builtin "ExceptionGroup.__weakref__"),.none]),(39,hY "super" #[(.ref 37),(.ref 37),(.ref 37)]),(40,hY "builtin_function_or_method" #[(.builtin "object.__init_subclass__"),(.ref 37)])],eO P 41 225 24 "InvalidName" "given" "code" "given" (L2.inClass (top 3) 0) 6 8 "roomofcalls.errors" 187]
def Y0(P:Params):PySem.W.BT:=putL (aaE P) [eO P 62 253 24 "InvalidWords" "at" "at" "code" (L2.inClass (top 4) 0) 12 14 "roomofcalls.errors" 187,eO P 83 281 24 "InvalidOrders" "at" "at" "code" (L2.inClass (top 5) 0) 18 20 "roomofcalls.errors" 187]
def t_1(P:Params):PySem.W.BT:=putL (Y0 P) [eO P 104 309 24 "InvalidModes" "at" "at" "code" (L2.inClass (top 6) 0) 24 26 "roomofcalls.errors" 187,eO P 125 337 24 "InvalidStarts" "at" "at" "code" (L2.inClass (top 7) 0) 30 32 "roomofcalls.errors" 187]
abbrev s_1(w:World)(os:OsState):SharedT:=RcCut.wB t_1 146 boot_drawn 365 w os
def l_1:List Stmt:=(PySem.Challenge.pw_roomofcalls_k01_errors_by_themselves.main.body.drop 0).take 8
theorem r_1(w:World)(os:OsState):RcCut.Eb (RcCut.stQ PySem.Challenge.pw_roomofcalls_k01_errors_by_themselves w) 11 Jw 1 1692 (s_b w os) (RcCut.pcQ l_1 ul (.body jT ul) ⟨0,0,0,0⟩ [topFrame ⟨0,0,0,0⟩])=some (.next,s_1 w os,(.body jT ul),⟨30,0,35,20⟩):=by kernel_rfl
def e_2(P:Params):List DictEntry:=e_1 P++eR P [("UnknownMode",392,164),("UnknownOrder",420,185),("InvalidSound",448,206),("InvalidRoom",476,227),("InvalidRecord",504,248),("InvalidWish",532,269)]
def p_2:List (Int × Nat):=p_1++[(36,152),(42,173),(48,194),(54,215),(60,236),(66,257)]
def Y5(P:Params):PySem.W.BT:=putL (t_1 P) [[(3,hE (eV P "__name__" 165 (.str "roomofcalls.errors" 187)::e_2 P) 22),(12,h3 0 p_2),(24,⟨(.type "type"),none,(.cls ⟨"RoomError",[(.type "ValueError")],[(.ref 24),(.type "ValueError"),(.type "Exception"),(.type "BaseException"),(.type "object")],23,"RoomError",true,[],[(.ref 59),(.ref 80),(.ref 101),(.ref 122),(.ref 143),(.ref 164),(.ref 185),(.ref 206),(.ref 227),(.ref 248),(.ref 269)],false,none,false⟩),#[(some (.ref 15)),none,(some (.str "RoomError" 189)),(some (.str "RoomError" 197)),(some (.builtin "ValueError.__new__")),(some (.bool true))]⟩)],eO P 146 365 24 "UnknownMode" "given" "code" "given" (L2.inClass (top 8) 0) 36 38 "roomofcalls.errors" 187,eO P 167 393 24 "UnknownOrder" "given" "code" "given" (L2.inClass (top 9) 0) 42 44 "roomofcalls.errors" 187]
def aaO(P:Params):PySem.W.BT:=putL (Y5 P) [eO P 188 421 24 "InvalidSound" "given" "code" "given" (L2.inClass (top 10) 0) 48 50 "roomofcalls.errors" 187,eO P 209 449 24 "InvalidRoom" "given" "code" "given" (L2.inClass (top 11) 0) 54 56 "roomofcalls.errors" 187]
def t_2(P:Params):PySem.W.BT:=putL (aaO P) [eO P 230 477 24 "InvalidRecord" "given" "code" "given" (L2.inClass (top 12) 0) 60 62 "roomofcalls.errors" 187,eO P 251 505 24 "InvalidWish" "given" "code" "given" (L2.inClass (top 13) 0) 66 68 "roomofcalls.errors" 187]
abbrev s_2(w:World)(os:OsState):SharedT:=RcCut.wB t_2 272 boot_drawn 533 w os
def l_2:List Stmt:=(PySem.Challenge.pw_roomofcalls_k01_errors_by_themselves.main.body.drop 8).take 6
theorem r_2(w:World)(os:OsState):RcCut.Eb (RcCut.stQ PySem.Challenge.pw_roomofcalls_k01_errors_by_themselves w) 11 Jw 1 1573 (s_1 w os) (RcCut.pcQ l_2 ul (.body jT ul) ⟨30,0,35,20⟩ [topFrame ⟨0,0,0,0⟩])=some (.next,s_2 w os,(.body jT ul),⟨66,0,71,26⟩):=by kernel_rfl
def e_3(P:Params):List DictEntry:=e_2 P++eR P [("InvalidNumber",560,290),("OtherProgram",586,311),("TooMany",614,332),("TooFew",642,353),("InvalidText",670,374),("InvalidPage",698,395)]
def p_3:List (Int × Nat):=p_2++[(72,278),(78,299),(83,320),(89,341),(95,362),(101,383)]
def YM(P:Params):PySem.W.BT:=putL (t_2 P) [[(3,hE (eV P "__name__" 165 (.str "roomofcalls.errors" 187)::e_3 P) 28),(12,h3 0 p_3),(24,⟨(.type "type"),none,(.cls ⟨"RoomError",[(.type "ValueError")],[(.ref 24),(.type "ValueError"),(.type "Exception"),(.type "BaseException"),(.type "object")],23,"RoomError",true,[],[(.ref 59),(.ref 80),(.ref 101),(.ref 122),(.ref 143),(.ref 164),(.ref 185),(.ref 206),(.ref 227),(.ref 248),(.ref 269),(.ref 290),(.ref 311),(.ref 332),(.ref 353),(.ref 374),(.ref 395)],false,none,false⟩),#[(some (.ref 15)),none,(some (.str "RoomError" 189)),(some (.str "RoomError" 197)),(some (.builtin "ValueError.__new__")),(some (.bool true))]⟩)],eO P 272 533 24 "InvalidNumber" "given" "code" "given" (L2.inClass (top 14) 0) 72 74 "roomofcalls.errors" 187,[(293,hT #[(.ref 24)]),(294,hY "builtin_function_or_method" #[(.builtin "type.__prepare__"),(.type "type")]),(295,hE ([eV P "__module__" 568 (.str "roomofcalls.errors" 187),eV P "__qualname__" 570 (.str "OtherProgram" 569),eV P "__firstlineno__" 572 (.int 78 571)]++eR P [("__init__",580,308),("__static_attributes__",582,309),("__classcell__",583,296)]) 6),(296,⟨(.type "cell"),none,(.cell (some (.ref 311))),#[]⟩),(297,hT #[]),(298,h3 4 [(80,307)]),(299,hC "OtherProgram" 563 "OtherProgram" 564 565 78 0 0 0 0 (.ref 297) false 181 (.ref 298) .none .none .none .none 566 78 567),(300,hM 299 295 "roomofcalls.errors" 187),(301,hT #[(.ref 296)]),(302,hT #[(.str "__class__" 576)]),(303,hN #[]),(304,hT #[(.str "self" 577)]),(305,hT #[]),(306,hS "__init__" "OtherProgram.__init__" (L2.inClass (top 15) 0)),(307,hC "__init__" 573 "OtherProgram.__init__" 574 575 80 1 0 0 3 (.ref 302) true 181 (.ref 303) .none (.ref 304) (.ref 305) (.ref 306) 578 80 579),(308,hG (.type "function") "__init__" "OtherProgram.__init__" (L2.inClass (top 15) 0) 3 [("__class__",296)] .none .none .none (.str "roomofcalls.errors" 187) none (.ref 307) (.ref 301) 0),(309,hT #[(.str "code" 581)]),(310,hE ([eV P "__module__" 568 (.str "roomofcalls.errors" 187),eV P "__firstlineno__" 572 (.int 78 571),eV P "__init__" 580 (.ref 308),eV P "__static_attributes__" 582 (.ref 309),eV P "__doc__" 584 .none]) 3)]]
def ZL(P:Params):PySem.W.BT:=putL (YM P) [[(311,⟨(.type "type"),none,(.cls ⟨"OtherProgram",[(.ref 24)],[(.ref 311),(.ref 24),(.type "ValueError"),(.type "Exception"),(.type "BaseException"),(.type "object")],310,"OtherProgram",true,[],[],false,none,false⟩),#[(some (.ref 293)),none,(some (.str "OtherProgram" 561)),(some (.str "OtherProgram" 569)),(some (.builtin "ValueError.__new__")),(some (.bool true))]⟩),(312,hY "super" #[(.ref 311),(.ref 311),(.ref 311)]),(313,hY "builtin_function_or_method" #[(.builtin "object.__init_subclass__"),(.ref 311)])],eO P 314 587 24 "TooMany" "most" "code" "most" (L2.inClass (top 16) 0) 83 85 "roomofcalls.errors" 187,eO P 335 615 24 "TooFew" "mode" "code" "mode" (L2.inClass (top 17) 0) 89 91 "roomofcalls.errors" 187]
def t_3(P:Params):PySem.W.BT:=putL (ZL P) [eO P 356 643 24 "InvalidText" "line" "code" "line" (L2.inClass (top 18) 0) 95 97 "roomofcalls.errors" 187,eO P 377 671 24 "InvalidPage" "line" "code" "line" (L2.inClass (top 19) 0) 101 103 "roomofcalls.errors" 187]
abbrev s_3(w:World)(os:OsState):SharedT:=RcCut.wB t_3 398 boot_drawn 699 w os
def l_3:List Stmt:=(PySem.Challenge.pw_roomofcalls_k01_errors_by_themselves.main.body.drop 14).take 6
theorem r_3(w:World)(os:OsState):RcCut.Eb (RcCut.stQ PySem.Challenge.pw_roomofcalls_k01_errors_by_themselves w) 11 Jw 1 1571 (s_2 w os) (RcCut.pcQ l_3 ul (.body jT ul) ⟨66,0,71,26⟩ [topFrame ⟨0,0,0,0⟩])=some (.next,s_3 w os,(.body jT ul),⟨101,0,106,24⟩):=by kernel_rfl
def e_4(P:Params):List DictEntry:=e_3 P++eR P [("InvalidCommand",726,416),("DuplicateName",754,437),("Full",782,458),("InvalidLimit",810,479),("UnknownName",838,500),("NothingLeft",868,521),("_law_open",879,531),("_law_draw",892,538),("_law_of",900,545),("_law_same",906,550),("_law_field",913,557),("_law_odd",921,564),("_law_errors",929,571)]
def p_4:List (Int × Nat):=p_3++[(107,404),(113,425),(119,446),(125,467),(131,488),(137,509),(143,530),(148,537),(166,544),(168,549),(178,556),(190,563),(192,570)]
def aab(P:Params):PySem.W.BT:=putL (t_3 P) [[(2,⟨.none,none,(.dict #[⟨(hK P "type.__subclasses__.IndexError.0"),(.str "type.__subclasses__.IndexError.0" 865),(.int 521 0)⟩,⟨(hK P "type.__subclasses__.IndexError.n"),(.str "type.__subclasses__.IndexError.n" 866),(.int 1 0)⟩] 2),#[]⟩),(3,hE (eV P "__name__" 165 (.str "law_roomofcalls_k01_errors_by_themselves" 869)::e_4 P) 41),(12,h3 0 p_4),(24,⟨(.type "type"),none,(.cls ⟨"RoomError",[(.type "ValueError")],[(.ref 24),(.type "ValueError"),(.type "Exception"),(.type "BaseException"),(.type "object")],23,"RoomError",true,[],[(.ref 59),(.ref 80),(.ref 101),(.ref 122),(.ref 143),(.ref 164),(.ref 185),(.ref 206),(.ref 227),(.ref 248),(.ref 269),(.ref 290),(.ref 311),(.ref 332),(.ref 353),(.ref 374),(.ref 395),(.ref 416),(.ref 437),(.ref 458),(.ref 479)],false,none,false⟩),#[(some (.ref 15)),none,(some (.str "RoomError" 189)),(some (.str "RoomError" 197)),(some (.builtin "ValueError.__new__")),(some (.bool true))]⟩),(37,⟨(.type "type"),none,(.cls ⟨"Missing",[(.type "LookupError")],[(.ref 37),(.type "LookupError"),(.type "Exception"),(.type "BaseException"),(.type "object")],36,"Missing",true,[],[(.ref 500)],false,none,false⟩),#[(some (.ref 28)),none,(some (.str "Missing" 207)),(some (.str "Missing" 215)),(some (.builtin "LookupError.__new__")),(some (.bool true))]⟩)],eO P 398 699 24 "InvalidCommand" "at" "at" "code" (L2.inClass (top 20) 0) 107 109 "roomofcalls.errors" 187,eO P 419 727 24 "DuplicateName" "name" "code" "name" (L2.inClass (top 21) 0) 113 115 "roomofcalls.errors" 187]
def aaP(P:Params):PySem.W.BT:=putL (aab P) [eO P 440 755 24 "Full" "limit" "code" "limit" (L2.inClass (top 22) 0) 119 121 "roomofcalls.errors" 187,eO P 461 783 24 "InvalidLimit" "given" "code" "given" (L2.inClass (top 23) 0) 125 127 "roomofcalls.errors" 187]
def aaG(P:Params):PySem.W.BT:=putL (aaP P) [[(482,hT #[(.ref 37)]),(483,hY "builtin_function_or_method" #[(.builtin "type.__prepare__"),(.type "type")]),(484,hE ([eV P "__module__" 818 (.str "roomofcalls.errors" 187),eV P "__qualname__" 820 (.str "UnknownName" 819),eV P "__firstlineno__" 822 (.int 131 821)]++eR P [("__init__",831,497),("__static_attributes__",834,498),("__classcell__",835,485)]) 6),(485,⟨(.type "cell"),none,(.cell (some (.ref 500))),#[]⟩),(486,hT #[]),(487,h3 4 [(133,496)]),(488,hC "UnknownName" 813 "UnknownName" 814 815 131 0 0 0 0 (.ref 486) false 181 (.ref 487) .none .none .none .none 816 131 817),(489,hM 488 484 "roomofcalls.errors" 187),(490,hT #[(.ref 485)]),(491,hT #[(.str "__class__" 826)]),(492,hN #[]),(493,hX 827 ["self","name"]),(494,hT #[]),(495,hS "__init__" "UnknownName.__init__" (L2.inClass (top 24) 0)),(496,hC "__init__" 823 "UnknownName.__init__" 824 825 133 2 0 0 3 (.ref 491) true 181 (.ref 492) .none (.ref 493) (.ref 494) (.ref 495) 829 133 830),(497,hG (.type "function") "__init__" "UnknownName.__init__" (L2.inClass (top 24) 0) 3 [("__class__",485)] .none .none .none (.str "roomofcalls.errors" 187) none (.ref 496) (.ref 490) 0),(498,hX 832 ["code","name"]),(499,hE ([eV P "__module__" 818 (.str "roomofcalls.errors" 187),eV P "__firstlineno__" 822 (.int 131 821),eV P "__init__" 831 (.ref 497),eV P "__static_attributes__" 834 (.ref 498),eV P "__doc__" 836 .none]) 3),(500,⟨(.type "type"),none,(.cls ⟨"UnknownName",[(.ref 37)],[(.ref 500),(.ref 37),(.type "LookupError"),(.type "Exception"),(.type "BaseException"),(.type "object")],499,"UnknownName",true,[],[],false,none,false⟩),#[(some (.ref 482)),none,(some (.str "UnknownName" 811)),(some (.str "UnknownName" 819)),(some (.builtin "LookupError.__new__")),(some (.bool true))]⟩),(501,hY "super" #[(.ref 500),(.ref 500),(.ref 500)]),(502,hY "builtin_function_or_method" #[(.builtin "object.__init_subclass__"),(.ref 500)]),(503,hT #[(.type "IndexError")]),(504,hY "builtin_function_or_method" #[(.builtin "type.__prepare__"),(.type "type")]),(505,hE ([eV P "__module__" 846 (.str "roomofcalls.errors" 187),eV P "__qualname__" 848 (.str "NothingLeft" 847),eV P "__firstlineno__" 850 (.int 137 849)]++eR P [("__init__",858,518),("__static_attributes__",860,519),("__classcell__",861,506)]) 6),(506,⟨(.type "cell"),none,(.cell (some (.ref 521))),#[]⟩),(507,hT #[]),(508,h3 4 [(139,517)]),(509,hC "NothingLeft" 841 "NothingLeft" 842 843 137 0 0 0 0 (.ref 507) false 181 (.ref 508) .none .none .none .none 844 137 845),(510,hM 509 505 "roomofcalls.errors" 187),(511,hT #[(.ref 506)]),(512,hT #[(.str "__class__" 854)]),(513,hN #[]),(514,hT #[(.str "self" 855)]),(515,hT #[]),(516,hS "__init__" "NothingLeft.__init__" (L2.inClass (top 25) 0)),(517,hC "__init__" 851 "NothingLeft.__init__" 852 853 139 1 0 0 3 (.ref 512) true 181 (.ref 513) .none (.ref 514) (.ref 515) (.ref 516) 856 139 857),(518,hG (.type "function") "__init__" "NothingLeft.__init__" (L2.inClass (top 25) 0) 3 [("__class__",506)] .none .none .none (.str "roomofcalls.errors" 187) none (.ref 517) (.ref 511) 0),(519,hT #[(.str "code" 859)]),(520,hE ([eV P "__module__" 846 (.str "roomofcalls.errors" 187),eV P "__firstlineno__" 850 (.int 137 849)]++eR P [("__init__",858,518),("__static_attributes__",860,519),("__weakref__",863,522)]++[eV P "__doc__" 864 .none]) 4),(521,⟨(.type "type"),none,(.cls ⟨"NothingLeft",[(.type "IndexError")],[(.ref 521),(.type "IndexError"),(.type "LookupError"),(.type "Exception"),(.type "BaseException"),(.type "object")],520,"NothingLeft",true,[],[],false,none,false⟩),#[(some (.ref 503)),none,(some (.str "NothingLeft" 839)),(some (.str "NothingLeft" 847)),(some (.builtin "IndexError.__new__")),(some (.bool true))]⟩),(522,hY "getset_descriptor" #[(.str "__weakref__" 862),(.ref 521),(.builtin "ExceptionGroup.__weakref__"),.none]),(523,hY "super" #[(.ref 521),(.ref 521),(.ref 521)])]]
def t_4(P:Params):PySem.W.BT:=putL (aaG P) [[(524,hY "builtin_function_or_method" #[(.builtin "object.__init_subclass__"),(.ref 521)])],f7 525 "_law_open" "_law_open" (top 27) 871 143 1 3 "law_roomofcalls_k01_errors_by_themselves" 869 (hN #[]) [] ["_law_script","_law_mixed","_law_cell"],f7 532 "_law_draw" "_law_draw" (top 28) 880 148 2 3 "law_roomofcalls_k01_errors_by_themselves" 869 (hN #[]) [] ["_law_bag","_law_sides","_law_cell","_law_small","_law_digit","_law_seed","_law_step"],f7 539 "_law_of" "_law_of" (top 29) 893 166 2 3 "law_roomofcalls_k01_errors_by_themselves" 869 (hN #[]) [] ["_law_bag","_law_things"],f5 546 "_law_same" "_law_same" (top 30) 901 168 2 3 "law_roomofcalls_k01_errors_by_themselves" 869 (hN #[]),f7 551 "_law_field" "_law_field" (top 31) 907 178 1 3 "law_roomofcalls_k01_errors_by_themselves" 869 (hN #[]) [] ["_law_e"],f7 558 "_law_odd" "_law_odd" (top 32) 914 190 2 3 "law_roomofcalls_k01_errors_by_themselves" 869 (hN #[]) [] ["_law_bag","_law_more"],f7 565 "_law_errors" "_law_errors" (top 33) 922 192 1 3 "law_roomofcalls_k01_errors_by_themselves" 869 (hN #[]) [] ["_law_odd_here","_law_found"]]
abbrev s_4(w:World)(os:OsState):SharedT:=RcCut.wB t_4 572 boot_drawn 930 w os
def l_4:List Stmt:=(PySem.Challenge.pw_roomofcalls_k01_errors_by_themselves.main.body.drop 20).take 14
theorem r_4(w:World)(os:OsState):RcCut.Eb (RcCut.stQ PySem.Challenge.pw_roomofcalls_k01_errors_by_themselves w) 11 Jw 1 1774 (s_3 w os) (RcCut.pcQ l_4 ul (.body jT ul) ⟨101,0,106,24⟩ [topFrame ⟨0,0,0,0⟩])=some (.next,s_4 w os,(.body jT ul),⟨192,0,197,96⟩):=by kernel_rfl
def e_5(P:Params):List DictEntry:=e_4 P++eR P [("_law_codes",935,578),("_law_kinds_of",943,585),("law",949,590)]
def p_5:List (Int × Nat):=p_4++[(198,577),(200,584),(209,589)]
def t_5(P:Params):PySem.W.BT:=putL (t_4 P) [[(3,hE (eV P "__name__" 165 (.str "law_roomofcalls_k01_errors_by_themselves" 869)::e_5 P) 44),(12,h3 0 p_5)],f7 572 "_law_codes" "_law_codes" (top 34) 930 198 0 3 "law_roomofcalls_k01_errors_by_themselves" 869 (hN #[]) [] [],f7 579 "_law_kinds_of" "_law_kinds_of" (top 35) 936 200 1 3 "law_roomofcalls_k01_errors_by_themselves" 869 (hN #[]) [] ["_law_e","_law_found"],f5 586 "law" "law" (top 36) 944 209 1 3 "law_roomofcalls_k01_errors_by_themselves" 869 (hN #[])]
abbrev s_5(w:World)(os:OsState):SharedT:=RcCut.wB t_5 591 boot_drawn 950 w os
def l_5:List Stmt:=(PySem.Challenge.pw_roomofcalls_k01_errors_by_themselves.main.body.drop 34).take 3
theorem r_5(w:World)(os:OsState):RcCut.Eb (RcCut.stQ PySem.Challenge.pw_roomofcalls_k01_errors_by_themselves w) 11 Jw 1 85 (s_4 w os) (RcCut.pcQ l_5 ul (.body jT ul) ⟨192,0,197,96⟩ [topFrame ⟨0,0,0,0⟩])=some (.next,s_5 w os,(.body jT ul),⟨209,0,236,91⟩):=by kernel_rfl
def t_z(P:Params):PySem.W.BT:=t_5 P
abbrev s_z(w:World)(os:OsState):SharedT:=RcCut.wB t_z 591 boot_drawn 950 w os
theorem r_z(w:World)(os:OsState):HandSHeadRun.goF (RcCut.stQ PySem.Challenge.pw_roomofcalls_k01_errors_by_themselves w) 11 Jw 3 (s_5 w os) ⟨doneF .next,(.body jT ul),⟨209,0,236,91⟩,[topFrame ⟨0,0,0,0⟩]⟩=some (s_z w os):=by kernel_rfl
theorem Lp:jT=l_1++(l_2++(l_3++(l_4++(l_5++([]))))):=by kernel_rfl
theorem Px(w:World):((boot_heap w.params).isNs mainGlobals&&(#[]:Array GenState).size == 0,(boot_heap w.params).objs.size,(boot_heap w.params).nsMap mainGlobals "__annotations__")=(true,11,Jw):=by kernel_rfl
theorem HW(w:World):HandSHeadRun.putAll (boot_heap w.params).objs.toList .nil 0=some (t_0 w.params,11):=by kernel_rfl
theorem TJ(w:World)(os:OsState):topRun treeTable PySem.Challenge.pw_roomofcalls_k01_errors_by_themselves w 11 Jw 6711 ⟨boot_heap w.params,#[],boot_drawn,boot_toks,os⟩ (topStub PySem.Challenge.pw_roomofcalls_k01_errors_by_themselves)=some (RcCut.wB t_z 591 boot_drawn 950 w os).abs:=by
 rw[<- RcCut.FW (os:=os) (HW w)]
 refine RcCut.Kv (N:=6699) (r_a w os) ?_
 refine RcCut.Cr (N:=6698) (r_b w os) ?_
 rw[Lp]
 refine RcCut.kh (N:=5006) (l:=l_1) (by have h:=r_1 w os;exact h) ?_
 refine RcCut.kh (N:=3433) (l:=l_2) (by have h:=r_2 w os;exact h) ?_
 refine RcCut.kh (N:=1862) (l:=l_3) (by have h:=r_3 w os;exact h) ?_
 refine RcCut.kh (N:=88) (l:=l_4) (by have h:=r_4 w os;exact h) ?_
 refine RcCut.kh (N:=3) (l:=l_5) (by have h:=r_5 w os;exact h) ?_
 exact RcCut.JN (r_z w os)
abbrev Ye:Nat:=591
abbrev W3:Nat:=950
abbrev XtV(s:Shared):Bool:=xlAt (view RR.prog [36]) [] s&&recOk RR.toRowW.records s
theorem QG(w:World)(os:OsState):looksF RR.prog (boot_heap w.params) (RcCut.wB t_z Ye boot_drawn W3 w os).abs=true:=by kernel_rfl
theorem Sw(w:World)(os:OsState):seenQ (view RR.prog [36]) nms (importedModules RR.prog.main.body) XtV (RcCut.wB t_z Ye boot_drawn W3 w os).abs=openGood (view RR.prog [36]) nms:=by kernel_rfl
abbrev eG(w:World)(os:OsState):Addr->Option Obj:=HandSHeadRun.getT (RcCut.wB t_z Ye boot_drawn W3 w os)
theorem lo1(w:World)(os:OsState):((fa.all λf=>f.ok (Rc.Kg asE (eG w os)))&&fn.all λd=>d.ok (Rc.Kg asE (eG w os)))=true:=by kernel_rfl
theorem lo2(w:World)(os:OsState):(fn.map λd=>He.fnW (Rc.Kg asE (eG w os)) d.at_)=fn.map He.DefD.val:=by kernel_rfl
theorem aar(w:World)(os:OsState):(xf.all λx=>x.ok (Rc.Kg asE (eG w os)))=true:=by kernel_rfl
theorem lo3(w:World)(os:OsState):(xf.all λx=>x.ok (Rc.Kg asE (eG w os)))=true:=(aar w os)
theorem lo4(w:World)(os:OsState):((ts.map λt=>He.dicW (Rc.Kg asE (eG w os)) (t.1 (Rc.Kg asE (eG w os)))),(ers.map λd=>Rc.Ql (Rc.Kg asE (eG w os)) (d.ad (Rc.Kg asE (eG w os)))),Rc.tabsB (Rc.Kg asE (eG w os)) (eG w os))=((ts.map λt=>some (He.keysIn w.params t.2)),ers.map Rc.wF.val,true):=by kernel_rfl
theorem Y6(w:World)(os:OsState):ob (RcCut.wB t_z Ye boot_drawn W3 w os)=hk.val w:=Rc.G5 (lo1 w os) (lo2 w os) (lo3 w os) (lo4 w os)
theorem left:LeftO RR.prog (view RR.prog [36]) nms (λs=>xlAt (view RR.prog [36]) [] s&&recOk RR.toRowW.records s) hk.obs hk.val 60000 true :=
 RcCut.Kz (ob:=ob) ZS (by kernel_rfl) (λs=>by kernel_rfl) rfl Px TJ QG Sw Y6
end K01
end
namespace K01
open PySem PySem.Spec L2 Rc
open PyProof.Rows hiding St
def FT(M:Mir):Prop:=∀{P:Program} (hP:P=PySem.Challenge.pw_roomofcalls_k01_errors_by_themselves) {w:World}{K:PySem.W.Frag}{h:Heap}{mg:Str->Option Value}{f:Addr} (X:K.In h) (G:h.Ns mainGlobals mg) (hfa:mg ("law":Str)=some (.ref f)) (c:rK fa xf fn ts ers w K h),∃fd:FuncData,(∀(s:Shared) (v:Value),BindsTo s fd ⟨[v],[]⟩ [("_law_script",v)])/\∀base:Heap,K.In base->base.Ns mainGlobals mg->(∀p∈(dU K).map (λp=>(p.1,p.2.1)),LamX.TabB base mg p.1 p.2)->FnOk P w K mg base CX0 7 f fd ["_law_script"] (λvs H Q E=>spM ⟨K,P,w⟩ 1 M vs H Q (λ_ _ _=>False))
def TT(M:Mir):Prop:=∀ns:List Int,ns.length<=63->∃m',M [.kl (ns.map .int)] []=.ok (.bl true) m'
end K01
section
open PySem PySem.W PySem.Calls
open PyProof.Rows hiding St
theorem K01.early(M:Rc.Mir)(F:K01.FT M)(T:K01.TT M):PySem.Challenge.rw_roomofcalls_k01_errors_by_themselves.Holds:=by
 w_on;o_law
 refine RcCut.JH (r:=OpenLaw.row PySem.Challenge.rw_roomofcalls_k01_errors_by_themselves) (q:=view (OpenLaw.row PySem.Challenge.rw_roomofcalls_k01_errors_by_themselves).prog [36]) (H:=K01.hk) (loose:=K01.nms) (d:=HandSHeadRun.topDef (OpenLaw.row PySem.Challenge.rw_roomofcalls_k01_errors_by_themselves).prog 36) (kwd:=[]) K01.left
  (by kernel_rfl) (by kernel_rfl) (by kernel_rfl) (by rfl) (by first|assumption|decide +kernel) (by decide +kernel) ⟨rfl,rfl,rfl,rfl,rfl,by decide +kernel⟩ ?hw ?hc
 case hw=>w_witness2
 case hc =>
  refine LamX.walk_ofTsE (l:=PySem.Challenge.rw_roomofcalls_k01_errors_by_themselves) (n:=63) (k:=7) (x:="_law_script") (CX:=λ_=>L2.CX0) rfl (by decide) (by kernel_rfl) ⟨rfl,by decide,by decide⟩ ?F (λ_ _ _ _ _ z=>z)
  intro w mg fa h Y G hmg0
  obtain⟨K,KX,c⟩:=Y
  have hmg:mg ("law":PySem.Str)=some (.ref fa):=by
   have e:(HandSHeadRun.topDef (OpenLaw.row PySem.Challenge.rw_roomofcalls_k01_errors_by_themselves).prog 36).name=("law":PySem.Str):=by kernel_rfl
   rw[<- e]
   exact hmg0
  obtain⟨fd,hb,hF⟩:=F (P:=(PySem.Challenge.rw_roomofcalls_k01_errors_by_themselves).prog) rfl (w:=w) KX G hmg c
  exact⟨K,KX,Rc.ZV c.b hb (λns hl=>T ns hl) hF⟩
end
namespace Rc
open PySem PySem.Spec L2
open PyProof.Rows hiding St
structure Tg{X:Type}(x:X):Type where
def R.bd{α β:Type}(r:R α)(k:α->Mem->R β)(_:Tg k:=⟨⟩):R β:=r.bind k
def R.ts{α:Type}(r:R α)(s:Sl)(k:α->Mem->SR)(_:Tg k:=⟨⟩):SR:=r.toS s k
def SR.sq(r:SR)(k:Sl->Mem->SR)(_:Tg k:=⟨⟩):SR:=r.seq k
section
variable{α β:Type}
@[simp] theorem aev(a:α)(m:Mem)(k:α->Mem->R β)(t:Tg k):(R.ok a m).bd k t=k a m:=id rfl
@[simp] theorem abo(c:Str)(ks:List Str)(xs:List MV)(m:Mem)(k:α->Mem->R β)(t:Tg k):(R.exc c ks xs m:R α).bd k t=.exc c ks xs m:=id rfl
@[simp] theorem X4(k:α->Mem->R β)(t:Tg k):(R.stuck:R α).bd k t=.stuck:=id rfl
@[simp] theorem aeC(a:α)(m:Mem)(s:Sl)(k:α->Mem->SR)(t:Tg k):(R.ok a m).ts s k t=k a m:=id rfl
@[simp] theorem abj(c:Str)(ks:List Str)(xs:List MV)(m:Mem)(s:Sl)(k:α->Mem->SR)(t:Tg k):(R.exc c ks xs m:R α).ts s k t=.ex c ks xs s m:=id rfl
@[simp] theorem X5(s:Sl)(k:α->Mem->SR)(t:Tg k):(R.stuck:R α).ts s k t=.stuck:=id rfl
@[simp] theorem ad2(s:Sl)(m:Mem)(k:Sl->Mem->SR)(t:Tg k):(SR.nx s m).sq k t=k s m:=id rfl
@[simp] theorem aeM(r:FR)(k:Sl->Mem->SR)(t:Tg k):(SR.rt r).sq k t=.rt r:=id rfl
@[simp] theorem aeZ(s:Sl)(m:Mem)(k:Sl->Mem->SR)(t:Tg k):(SR.bk s m).sq k t=.bk s m:=id rfl
@[simp] theorem aeB(s:Sl)(m:Mem)(k:Sl->Mem->SR)(t:Tg k):(SR.ct s m).sq k t=.ct s m:=id rfl
@[simp] theorem ac3(c:Str)(ks:List Str)(xs:List MV)(s:Sl)(m:Mem)(k:Sl->Mem->SR)(t:Tg k):(SR.ex c ks xs s m).sq k t=.ex c ks xs s m:=id rfl
@[simp] theorem Xm(k:Sl->Mem->SR)(t:Tg k):SR.stuck.sq k t=.stuck:=id rfl
@[simp] theorem abe{c:Prop}[Decidable c](a b:R α)(k:α->Mem->R β)(t:Tg k):(if c then a else b).bd k t=if c then a.bd k t else b.bd k t:=by split <;> rfl
@[simp] theorem aa3{c:Prop}[Decidable c](a b:R α)(s:Sl)(k:α->Mem->SR)(t:Tg k):(if c then a else b).ts s k t=if c then a.ts s k t else b.ts s k t:=by split <;> rfl
@[simp] theorem acb{c:Prop}[Decidable c](a b:SR)(k:Sl->Mem->SR)(t:Tg k):(if c then a else b).sq k t=if c then a.sq k t else b.sq k t:=by split <;> rfl
end
@[simp] theorem aaM(x:MV)(m:Mem):slotR (some (some (.v x))) m=.ok (.v x) m:=id rfl
@[simp] theorem aaS(x:MO)(m:Mem):slotR (some (some (.own x))) m=.ok (.b x) m:=id rfl
@[simp] theorem aaL(x:MV)(m:Mem):Ea (.ok x m)=.ok (.v x) m:=id rfl
@[simp] theorem Xz(x:MO)(m:Mem):Ea (.new x m)=.ok (.v (frz x)) m:=id rfl
@[simp] theorem Xu(c:Str)(ks:List Str)(xs:List MV)(m:Mem):Ea (.exc c ks xs m)=.exc c ks xs m:=id rfl
@[simp] theorem Yv(xs:List MV):frz (.lst xs)=.lst xs:=id rfl
@[simp] theorem YF(ks xs:List MV):frz (.dic ks xs)=.dic ks xs:=id rfl
@[simp] theorem Z6(c:Str)(ks:List Str)(xs:List MV):frz (.ins c ks xs)=.ins c ks xs:=id rfl
@[simp] theorem Yj(x:MO)(m:Mem):W7 (.new x m)=.ok (.v (.ref m.length)) (m++[some x]):=id rfl
@[simp] theorem Xa:vals []=some []:=id rfl
@[simp] theorem yG(x:MV)(r:List OV):vals (.v x::r)=(vals r).map (x::·):=id rfl
def cvR(ret:FR->R OV)(M:Mir)(o:Option (List MV))(m:Mem):R OV:=match o with
 | some xs=>ret (M xs m)
 | none=>.stuck
@[simp] theorem aeI(ret:FR->R OV)(M:Mir)(xs:List MV)(m:Mem):cvR ret M (some xs) m=ret (M xs m):=id rfl
section
variable(s:Sl)(m:Mem)
@[simp] theorem Zo(i:Nat):ev (.slot i) s m=slotR s[i]? m:=id rfl
@[simp] theorem aeb(p:o9)(es:MEs):ev (.pr p es) s m=(evs es s m).bd p.F:=id rfl
@[simp] theorem abG(p:iZ)(a b:ME):ev (.cmp p a b) s m=(ev a s m).bd λx m=>(ev b s m).bd λy m=>p.F x y m:=id rfl
@[simp] theorem Xb(p q:iZ)(a b c:ME):ev (.chain p q a b c) s m=(ev a s m).bd λx m=>(ev b s m).bd λy m=>(p.F x y m).bd λz m=>(wZ z m).bd λk m =>
   if k=true then (ev c s m).bd λw m=>q.F y w m else .ok (.v (.bl false)) m:=id rfl
@[simp] theorem ev_andV(a b:ME):ev (.andV a b) s m=(ev a s m).bd λx m=>(ug x m).bd λk m=>if k=true then ev b s m else .ok x m:=id rfl
@[simp] theorem ev_orV(a b:ME):ev (.orV a b) s m=(ev a s m).bd λx m=>(ug x m).bd λk m=>if k=true then .ok x m else ev b s m:=id rfl
@[simp] theorem ev_notV(a:ME):ev (.notV a) s m=(ev a s m).bd λx m=>(ug x m).bd λk m=>.ok (.v (.bl (!k))) m:=id rfl
@[simp] theorem abN(t:MT)(a b:ME):ev (.ite t a b) s m=(evT t s m).bd λk m=>if k=true then ev a s m else ev b s m:=id rfl
@[simp] theorem aeL(f:MF):ev (.fr f) s m=(evF f s m).bd λo m=>.ok (.v (frz o)) m:=id rfl
@[simp] theorem ac7(f:MF):ev (.nw f) s m=(evF f s m).bd λo m=>.ok (.v (.ref m.length)) (m++[some o]):=by
 show XF (evF f s m)=_
 cases evF f s m <;> rfl
def bm2(o:Option Int)(k:Int->R OV)(_:Tg k:=⟨⟩):R OV:=match o with
 | some i=>k i
 | none=>.stuck
@[simp] theorem ady(i:Int)(k:Int->R OV)(t:Tg k):bm2 (some i) k t=k i:=id rfl
@[simp] theorem adV(a b c:ME):ev (.sl a b c) s m=(ev a s m).bd λx m=>(ev b s m).bd λy m=>bm2 (Jz y) λk=>(ev c s m).bd λz m=>Wo x k z m:=id rfl
def bmR(o:Option (List OV->Mem->R OV))(r:R (List OV)):R OV:=match o with
 | some f=>r.bd f
 | none=>.stuck
@[simp] theorem aei(f:List OV->Mem->R OV)(r:R (List OV)):bmR (some f) r=r.bd f:=id rfl
@[simp] theorem adQ(p:Ib)(o:ME)(es:MEs):ev (.bm p o es) s m=(ev o s m).bd λx m=>bmR (p.F x m) (evs es s m):=id rfl
def stR(o:Option (List OV))(k:List OV->R (List OV))(_:Tg k:=⟨⟩):R (List OV):=match o with
 | some zs=>k zs
 | none=>.stuck
@[simp] theorem aep(zs:List OV)(k:List OV->R (List OV))(t:Tg k):stR (some zs) k t=k zs:=id rfl
@[simp] theorem Yr(x:OV):sY false x=some [x]:=id rfl
@[simp] theorem Vv(xs:List MV):sY true (.v (.lst xs))=some (xs.map OV.v):=id rfl
@[simp] theorem Xl(xs:List MV):sY true (.v (.kl xs))=some (xs.map OV.v):=id rfl
@[simp] theorem V7(xs:List MV):sY true (.v (.tup xs))=some (xs.map OV.v):=id rfl
@[simp] theorem Vs(xs:List MV):sY true (.b (.lst xs))=some (xs.map OV.v):=id rfl
@[simp] theorem XS(xs:List MV):vals (xs.map OV.v)=some xs:=by
 induction xs with
 | nil=>rfl
 | cons x xs ih=>rw[qQp,yG,ih];rfl
@[simp] theorem WW(xs:List MV)(r:List OV):vals (xs.map OV.v++r)=(vals r).map (xs++·):=by
 induction xs with
 | nil=>show vals r=_;cases vals r <;> rfl
 | cons x xs ih=>show vals (OV.v x::(xs.map OV.v++r))=_;rw[yG,ih];cases vals r <;> rfl
@[simp] theorem Zd(p:Ug)(e:ME):ev (.tryL p e) s m=p.F (ev e s m):=id rfl
@[simp] theorem Xe(p:Oa)(es:MEs):ev (.tryLs p es) s m=p.F ((evL es).map λf=>f s) m:=id rfl
@[simp] theorem YX:evL .nil=[]:=id rfl
@[simp] theorem XX(e:ME)(es:MEs):evL (.cons e es)=ev e::evL es:=id rfl
@[simp] theorem aen(p:Vb)(as:MAs):ev (.pa p as) s m=(Kc as s m).bd p.F:=id rfl
@[simp] theorem Xg:Kc .nil s m=.ok [] m:=id rfl
@[simp] theorem WK(b:Bool)(e:ME)(as:MAs):Kc (.cons b e as) s m=(ev e s m).bd λx m=>stR (sY b x) λzs=>(Kc as s m).bd λxs m=>.ok (zs++xs) m:=id rfl
@[simp] theorem aax:evs .nil s m=.ok [] m:=id rfl
@[simp] theorem Xw(e:ME)(es:MEs):evs (.cons e es) s m=(ev e s m).bd λx m=>(evs es s m).bd λxs m=>.ok (x::xs) m:=id rfl
@[simp] theorem aaz(e:ME):evT (.val e) s m=(ev e s m).bd λx m=>ug x m:=id rfl
@[simp] theorem aay(p:iZ)(a b:ME):evT (.cmp p a b) s m=(ev a s m).bd λx m=>(ev b s m).bd λy m=>(p.F x y m).bd λz m=>wZ z m:=id rfl
@[simp] theorem UV(p q:iZ)(a b c:ME):evT (.chain p q a b c) s m=(ev a s m).bd λx m=>(ev b s m).bd λy m=>(p.F x y m).bd λz m=>(wZ z m).bd λk m =>
   if k=true then (ev c s m).bd λw m=>(q.F y w m).bd λz m=>wZ z m else .ok false m:=id rfl
@[simp] theorem ZQ(a b:MT):evT (.and a b) s m=(evT a s m).bd λk m=>if k=true then evT b s m else .ok false m:=id rfl
@[simp] theorem abE(a b:MT):evT (.or a b) s m=(evT a s m).bd λk m=>if k=true then .ok true m else evT b s m:=id rfl
@[simp] theorem Yo(a:MT):evT (.not a) s m=(evT a s m).bd λk m=>.ok (!k) m:=id rfl
@[simp] theorem aa2(p:KC)(es:MEs):evF (.pr p es) s m=(evs es s m).bd p.F:=id rfl
@[simp] theorem acN(p:HY)(as:MAs):evF (.pa p as) s m=(Kc as s m).bd p.F:=id rfl
@[simp] theorem Xi(own:List Nat)(tg:MG)(it:MI)(ifs:MTs)(e:ME):evF (.comp own tg it ifs e) s m=(evI it s m).bd λw m =>
   (cD (bA own tg (tX ifs) (ev e) s) w.watch w.items [] m).bd λys m=>.ok (.lst ys) m:=id rfl
@[simp] theorem Wh(own:List Nat)(tg:MG)(it:MI)(ifs:MTs)(k v:ME):evF (.dcomp own tg it ifs k v) s m=(evI it s m).bd λw m =>
   (fX (cV own tg (tX ifs) (ev k) (ev v) s) w.watch w.items [] [] m).bd λp m=>.ok (.dic p.1 p.2) m:=id rfl
@[simp] theorem abg(p:Ij)(es:MEs):evI (.pr p es) s m=(evs es s m).bd p.F:=id rfl
@[simp] theorem XN:tX .nil s m=.ok true m:=id rfl
@[simp] theorem Yl(t:MT):tX (.one t) s m=evT t s m:=id rfl
@[simp] theorem adH(x:MV):toV (.v x) m=.ok x m:=id rfl
@[simp] theorem abW(i:Nat)(e:ME):ex (.set i e) s m=(ev e s m).ts s λx m=>(toV x m).ts s λx m=>.nx (s.set i (some (.v x))) m:=id rfl
@[simp] theorem Wm(i:Nat)(f:MF):ex (.oY i f) s m=(evF f s m).ts s λo m=>if i<s.length then .nx (s.set i (some (.own o))) m else .stuck:=id rfl
@[simp] theorem aco(i j:Nat)(a b:ME):ex (.par i j a b) s m=(ev a s m).ts s λx m=>(ev b s m).ts s λy m=>(toV x m).ts s λx m=>(toV y m).ts s λy m=>.nx ((s.set i (some (.v x))).set j (some (.v y))) m:=id rfl
@[simp] theorem aaC(i j:Nat)(f g:MF):ex (.par2 i j f g) s m=(evF f s m).ts s λx m=>(evF g s m).ts s λy m=>if i<s.length/\j<s.length/\i≠j then .nx ((s.set i (some (.own x))).set j (some (.own y))) m else .stuck:=id rfl
def nxO(o:Option Sl)(m:Mem):SR:=match o with
 | some s=>.nx s m
 | none=>.stuck
@[simp] theorem ac6(s:Sl)(m:Mem):nxO (some s) m=.nx s m:=id rfl
@[simp] theorem Vj(is:List Nat)(e:ME):ex (.tupSet is e) s m=(ev e s m).ts s λx m=>(toV x m).ts s λx m=>nxO (bW (.tup is) x s) m:=id rfl
@[simp] theorem acG(t:MT)(a b:MSs):ex (.ifs t a b) s m=(evT t s m).ts s λk m=>if k=true then exs a s m else exs b s m:=id rfl
@[simp] theorem abf(e:ME):ex (.ret e) s m=(ev e s m).ts s λx m=>(toV x m).ts s λx m=>.rt (.ok x m):=id rfl
@[simp] theorem Z4:ex .retN s m=.rt (.ok .non m):=id rfl
@[simp] theorem aav(f:MF):ex (.retF f) s m=(evF f s m).ts s λo m=>.rt (.new o m):=id rfl
def ack(o:Option (Option SV))(m:Mem):SR:=match o with
  | some (some (.own o))=>.rt (.new o m)
  | _=>.stuck
@[simp] theorem abu(o:MO)(m:Mem):ack (some (some (.own o))) m=.rt (.new o m):=id rfl
@[simp] theorem Wv(i:Nat):ex (.retOwn i) s m=ack s[i]? m:=id rfl
def asR(o:Option Sl)(k:Sl->SR)(_:Tg k:=⟨⟩):SR:=match o with
 | some s=>k s
 | none=>.stuck
@[simp] theorem ae0(s:Sl)(k:Sl->SR)(t:Tg k):asR (some s) k t=k s:=id rfl
@[simp] theorem Yd(tg:MG)(fb:Sl->Mem->SR)(x:MV):tY tg fb x s m=asR (bW tg x s) λs=>fb s m:=id rfl
@[simp] theorem aaB(tg:MG)(it:MI)(body:MSs):ex (.loop tg it body) s m=(evI it s m).ts s λw m=>oR (tY tg (exs body)) w.watch w.items s m:=id rfl
@[simp] theorem Zv(n:Nat)(t:MT)(body:MSs):ex (.whil n t body) s m=oZ (evT t) (exs body) n s m:=id rfl
@[simp] theorem aca:ex .brk s m=.bk s m:=id rfl
@[simp] theorem Z3:ex .cont s m=.ct s m:=id rfl
@[simp] theorem aaH:ex .pass s m=.nx s m:=id rfl
@[simp] theorem aau(e:ME):ex (.expr e) s m=(ev e s m).ts s λ_ m=>.nx s m:=id rfl
def preS(b:Bool)(r:SR):SR:=if b=true then r else .stuck
@[simp] theorem acP(r:SR):preS true r=r:=id rfl
@[simp] theorem adX(p:Et)(es:MEs):ex (.pr p es) s m=preS (p.pre s m) ((evs es s m).ts s λxs m=>p.F xs s m):=id rfl
@[simp] theorem ZR:exs .nil s m=.nx s m:=id rfl
@[simp] theorem Xx(a:MS)(r:MSs):exs (.cons a r) s m=(ex a s m).sq λs m=>exs r s m:=id rfl
def Zh(r:SR)(k:Sl->Mem->SR)(_:Tg k:=⟨⟩):SR:=finS r k
def abZ(r:SR):SR:=match r with
 | .nx s m=>.nx s m
 | _=>.stuck
def abq(c:Str)(ks:List Str)(xs:List MV)(r:SR):SR:=match r with
 | .nx s m=>.ex c ks xs s m
 | _=>.stuck
@[simp] theorem abt(b f:MSs):ex (.fin b f) s m=Zh (exs b s m) λs m=>exs f s m:=id rfl
@[simp] theorem Yu(s:Sl)(m:Mem)(k:Sl->Mem->SR)(t:Tg k):Zh (.nx s m) k t=abZ (k s m):=id rfl
@[simp] theorem ZW(c:Str)(ks:List Str)(xs:List MV)(s:Sl)(m:Mem)(k:Sl->Mem->SR)(t:Tg k):Zh (.ex c ks xs s m) k t=abq c ks xs (k s m):=id rfl
@[simp] theorem aag(s:Sl)(m:Mem):abZ (.nx s m)=.nx s m:=id rfl
@[simp] theorem Yq(c:Str)(ks:List Str)(xs:List MV)(s:Sl)(m:Mem):abq c ks xs (.nx s m)=.ex c ks xs s m:=id rfl
def acR(o:Option (Option SV))(k:MO->SR)(_:Tg k:=⟨⟩):SR:=match o with
 | some (some (.own o))=>k o
 | _=>.stuck
@[simp] theorem abh(o:MO)(k:MO->SR)(t:Tg k):acR (some (some (.own o))) k t=k o:=id rfl
@[simp] theorem Y9(i:Nat)(r:MSs):exs (.frz i r) s m=acR s[i]? λo=>exs r (s.set i (some (.v (frz o)))) m:=id rfl
end
section
variable(m:Mem)(x y z:OV)
@[simp] theorem aci:Mu.F [] m=.ok (.v .non) m:=id rfl
@[simp] theorem adF(b:Bool):(pBl b).F [] m=.ok (.v (.bl b)) m:=id rfl
@[simp] theorem acu(b:Int):(fY b).F [] m=.ok (.v (.int b)) m:=id rfl
@[simp] theorem aba(b:Str):(Hz b).F [] m=.ok (.v (.str b)) m:=id rfl
@[simp] theorem Z5(n:Str)(b:MV):(Hq n b).F [] m=.ok (.v b) m:=id rfl
@[simp] theorem aeQ:(dR .add).F [x,y] m=Ny x y m:=id rfl
@[simp] theorem aeJ:(dR .sub).F [x,y] m=V4 x y m:=id rfl
@[simp] theorem adB:(dR .mul).F [x,y] m=Ry x y m:=id rfl
@[simp] theorem abX:(dR .fdiv).F [x,y] m=Do x y m:=id rfl
@[simp] theorem aeW:(dR .mod).F [x,y] m=Va x y m:=id rfl
@[simp] theorem aeS:(dR .pow).F [x,y] m=Ux x y m:=id rfl
@[simp] theorem aeh:ab5.F [x] m=Ss x m:=id rfl
@[simp] theorem ae7:cEq.F x y m=eqO x y m:=id rfl
@[simp] theorem ae5:cNe.F x y m=neO x y m:=id rfl
@[simp] theorem afc:cLt.F x y m=ltO x y m:=id rfl
@[simp] theorem afe:cLe.F x y m=leO x y m:=id rfl
@[simp] theorem ae8:cGt.F x y m=gtO x y m:=id rfl
@[simp] theorem afa:cGe.F x y m=geO x y m:=id rfl
@[simp] theorem ae9:cIs.F x y m=isO x y m:=id rfl
@[simp] theorem ae3:cIn.F x y m=blO m (inB m x y):=id rfl
@[simp] theorem aac:Af.F x y m=blO m ((inB m x y).map (!·)):=id rfl
def tpR(o:Option (List MV))(m:Mem):R OV:=match o with
 | some ys=>if ys.length<=sizeLine then .ok (.v (.tup ys)) m else .stuck
 | none=>.stuck
@[simp] theorem ad0(ys:List MV)(m:Mem):tpR (some ys) m=if ys.length<=sizeLine then .ok (.v (.tup ys)) m else .stuck:=id rfl
@[simp] theorem acM(xs:List OV):v5.F xs m=tpR (vals xs) m:=id rfl
def lsR(o:Option (List MV))(m:Mem):R MO:=match o with
 | some ys=>if ys.length<=sizeLine then .ok (.lst ys) m else .stuck
 | none=>.stuck
@[simp] theorem adc(ys:List MV)(m:Mem):lsR (some ys) m=if ys.length<=sizeLine then .ok (.lst ys) m else .stuck:=id rfl
@[simp] theorem Yp(xs:List OV):WL.F xs m=lsR (vals xs) m:=id rfl
@[simp] theorem aa5(xs:List OV):dY.F xs m=lsR (vals xs) m:=id rfl
@[simp] theorem ae1:pIx.F [x,y] m=ixF x y m:=id rfl
@[simp] theorem aa9:Zb.F [x,y] m=slA false x y m:=id rfl
@[simp] theorem adg:Pg.F [x] m=JB x m:=id rfl
@[simp] theorem adw:vJ.F [x] m=TV x m:=id rfl
@[simp] theorem aeO:YW.F [x] m=Vc x m:=id rfl
@[simp] theorem aeV:abJ.F [x] m=SM x m:=id rfl
@[simp] theorem acI:Wl.F [x] m=jN x m:=id rfl
@[simp] theorem ac1(F:Fn)(xs:List OV):(gH F).F xs m=cvR Ea F.M (vals xs) m:=id rfl
@[simp] theorem aaK(F:Fn)(xs:List OV):(Hf F).F xs m=cvR W7 F.M (vals xs) m:=id rfl
@[simp] theorem aeG(ts:List Ty)(own:List (Str × List Bool))(one:Bool):(yQ ts own one).F [x] m=Df ts own x m:=id rfl
@[simp] theorem aeH(cs:List Str)(f:Str):(acp cs f).F [x] m=Jv cs f x m:=id rfl
@[simp] theorem aaQ(xs:List MV):G3.F (.v (.lst xs)) m=(strsOf xs).map u9:=id rfl
def inR(o:Option Nat)(m:Mem):R OV:=match o with
 | some j=>.ok (.v (.int j)) m
 | none=>.stuck
@[simp] theorem adi(j:Nat)(m:Mem):inR (some j) m=.ok (.v (.int j)) m:=id rfl
@[simp] theorem XM(zs:List Str)(w:Str):u9 zs [.v (.str w)] m=inR (Ed w zs) m:=id rfl
@[simp] theorem ad8:ab0.F [x] m=Dq x m:=id rfl
@[simp] theorem Xp:nH.F [x] m=WM x m:=id rfl
@[simp] theorem adI:iZip.F [x,y] m=JD x y m:=id rfl
variable(s:Sl)
@[simp] theorem Zq:qj.pre s m=true:=id rfl
def isS(o:Option (List MV))(n:Nat)(k:Int)(x:MV)(s:Sl)(m:Mem):SR:=match o with
 | some xs=>(match ixN xs.length k with
  | some j=>.nx s (m.set n (some (.lst (xs.set j x))))
  | none=>.stuck)
 | none=>.stuck
def isJ(o:Option Nat)(k:Nat->SR)(_:Tg k:=⟨⟩):SR:=match o with
 | some j=>k j
 | none=>.stuck
@[simp] theorem ad7(j:Nat)(k:Nat->SR)(t:Tg k):isJ (some j) k t=k j:=id rfl
@[simp] theorem adC(xs:List MV)(n:Nat)(k:Int)(x:MV)(s:Sl)(m:Mem):isS (some xs) n k x s m=isJ (ixN xs.length k) λj=>.nx s (m.set n (some (.lst (xs.set j x)))):=id rfl
@[simp] theorem aak(x:MV)(n:Nat)(k:Int):qj.F [.v x,.v (.ref n),.v (.int k)] s m=isS (rB m n) n k x s m:=id rfl
end
section
variable(m:Mem)
@[simp] theorem aa1(i j:Int):Ny (.v (.int i)) (.v (.int j)) m=.ok (.v (.int (i+j))) m:=id rfl
@[simp] theorem acw(x y:Str):Ny (.v (.str x)) (.v (.str y)) m=if x.length+y.length<=sizeLine then .ok (.v (.str (x++y))) m else .stuck:=id rfl
@[simp] theorem aby(xs ys:List MV):Ny (.v (.tup xs)) (.v (.tup ys)) m=if xs.length+ys.length<=sizeLine then .ok (.v (.tup (xs++ys))) m else .stuck:=id rfl
@[simp] theorem acY(xs ys:List MV):Ny (.v (.lst xs)) (.v (.lst ys)) m=if xs.length+ys.length<=sizeLine then .ok (.v (.lst (xs++ys))) m else .stuck:=id rfl
@[simp] theorem aa8(i j:Int):V4 (.v (.int i)) (.v (.int j)) m=.ok (.v (.int (i - j))) m:=id rfl
@[simp] theorem acj(xs:List MV)(k:Int):Ry (.v (.tup xs)) (.v (.int k)) m=if -1000<=k/\k<=1000/\xs.length<=1000/\xs≠[] then .ok (.v (.tup (List.replicate k.toNat xs).flatten)) m else .stuck:=id rfl
@[simp] theorem abb(i j:Int):Ry (.v (.int i)) (.v (.int j)) m=if (-(2 ^ 64)<i/\i<2 ^ 64)\/(-(2 ^ 64)<j/\j<2 ^ 64) then .ok (.v (.int (i * j))) m else .stuck:=id rfl
theorem O9(i j:Int):Do (.v (.int i)) (.v (.int j)) m=if 0<j/\j.natAbs.log2<9000 then .ok (.v (.int (i / j))) m else .stuck:=rfl
@[simp] theorem W8(i j:Int)(h:0<j/\j<2 ^ 64):Do (.v (.int i)) (.v (.int j)) m=.ok (.v (.int (i / j))) m:=by
 rw[O9,if_pos]
 refine⟨h.1,?_⟩
 have h3:j.natAbs<2 ^ 64:=by omega
 have:=Nat.log2_lt (n:=j.natAbs) (k:=64) (by omega) |>.mpr h3
 omega
@[simp] theorem acZ(i j:Int):Va (.v (.int i)) (.v (.int j)) m=if 0<j then .ok (.v (.int (i % j))) m else .stuck:=id rfl
@[simp] theorem acQ(i j:Int):Ux (.v (.int i)) (.v (.int j)) m=if 0<=j/\j<=1000000/\i.natAbs<2 ^ 64 then .ok (.v (.int (i ^ j.toNat))) m else .stuck:=id rfl
@[simp] theorem aa0(i:Int):Ss (.v (.int i)) m=.ok (.v (.int (-i))) m:=id rfl
@[simp] theorem adG(b:Bool):blO m (some b)=.ok (.v (.bl b)) m:=id rfl
@[simp] theorem aer(i j:Int):ltO (.v (.int i)) (.v (.int j)) m=.ok (.v (.bl (decide (i<j)))) m:=id rfl
@[simp] theorem adS(i j:Int):leO (.v (.int i)) (.v (.int j)) m=.ok (.v (.bl (decide (i<=j)))) m:=id rfl
@[simp] theorem ada(i j:Int):gtO (.v (.int i)) (.v (.int j)) m=.ok (.v (.bl (decide (j<i)))) m:=id rfl
@[simp] theorem aeK(i j:Int):geO (.v (.int i)) (.v (.int j)) m=.ok (.v (.bl (decide (j<=i)))) m:=id rfl
@[simp] theorem ad1(a:OV):isO a (.v .non) m=.ok (.v (.bl (isN a))) m:=id rfl
@[simp] theorem acD(b:Bool):wZ (.v (.bl b)) m=.ok b m:=id rfl
@[simp] theorem adl:isN (.v .non)=true:=id rfl
@[simp] theorem ad6(i:Int):isN (.v (.int i))=false:=id rfl
@[simp] theorem ae2(i:Str):isN (.v (.str i))=false:=id rfl
@[simp] theorem aeE(i:Bool):isN (.v (.bl i))=false:=id rfl
@[simp] theorem adL(i:List MV):isN (.v (.lst i))=false:=id rfl
@[simp] theorem adW(i:List MV):isN (.v (.tup i))=false:=id rfl
@[simp] theorem Xj(n:Nat):Dat n .non:=QQ n
@[simp] theorem Yx(n:Nat)(b:Bool):Dat n (.bl b):=uU n b
@[simp] theorem Xq(n:Nat)(b:Int):Dat n (.int b):=nZ n b
@[simp] theorem Yk(n:Nat)(b:Str):Dat n (.str b):=fW n b
@[simp] theorem Xo:fQ m (.v .non)=.non:=id rfl
@[simp] theorem ZF(b:Bool):fQ m (.v (.bl b))=.bl b:=id rfl
@[simp] theorem Xk(b:Int):fQ m (.v (.int b))=.int b:=id rfl
@[simp] theorem Yh(b:Str):fQ m (.v (.str b))=.str b:=id rfl
@[simp] theorem W6(b:List MV):fQ m (.v (.tup b))=.tup b:=id rfl
@[simp] theorem Xy(b:List MV):fQ m (.v (.lst b))=.lst b:=id rfl
@[simp] theorem ace(b:List MV):fQ m (.b (.lst b))=.lst b:=id rfl
theorem Gr(i j:Int):eqB (.int i) (.int j)=decide (i=j):=by
 simp only[eqB,toD,PyData.eqv];rw[Bool.eq_iff_iff];simp
theorem Ih(i j:Str):eqB (.str i) (.str j)=decide (i=j):=by
 simp only[eqB,toD,PyData.eqv];rw[Bool.eq_iff_iff];simp
theorem Ja(i j:Bool):eqB (.bl i) (.bl j)=(i == j):=by simp only[eqB,toD,PyData.eqv]
theorem Mp(xs ys:List MV):eqB (.lst xs) (.lst ys)=Em xs ys:=by simp only[eqB,Em,toD,PyData.eqv]
theorem Ox(x y:MV)(h1:Dat 64 x)(h2:Dat 64 y)(a b:OV)(e1:fQ m a=x)(e2:fQ m b=y):eqO a b m=.ok (.v (.bl (eqB x y))) m:=by
 unfold eqO eqD
 rw[e1,e2,if_pos ⟨h1,h2⟩];rfl
theorem GZ(x y:MV)(h1:Dat 64 x)(h2:Dat 64 y)(a b:OV)(e1:fQ m a=x)(e2:fQ m b=y):neO a b m=.ok (.v (.bl (!(eqB x y)))) m:=by
 unfold neO eqD
 rw[e1,e2,if_pos ⟨h1,h2⟩]
@[simp] theorem acX(i j:Int):eqO (.v (.int i)) (.v (.int j)) m=.ok (.v (.bl (decide (i=j)))) m:=by
 rw[Ox m (.int i) (.int j) (nZ _ _) (nZ _ _) _ _ rfl rfl,Gr]
@[simp] theorem abR(i j:Str):eqO (.v (.str i)) (.v (.str j)) m=.ok (.v (.bl (decide (i=j)))) m:=by
 rw[Ox m (.str i) (.str j) (fW _ _) (fW _ _) _ _ rfl rfl,Ih]
@[simp] theorem abH(i j:Bool):eqO (.v (.bl i)) (.v (.bl j)) m=.ok (.v (.bl (i == j))) m:=by
 rw[Ox m (.bl i) (.bl j) (uU _ _) (uU _ _) _ _ rfl rfl,Ja]
@[simp] theorem abV(i j:Int):neO (.v (.int i)) (.v (.int j)) m=.ok (.v (.bl (!decide (i=j)))) m:=by
 rw[GZ m (.int i) (.int j) (nZ _ _) (nZ _ _) _ _ rfl rfl,Gr]
@[simp] theorem abL(i j:Str):neO (.v (.str i)) (.v (.str j)) m=.ok (.v (.bl (!decide (i=j)))) m:=by
 rw[GZ m (.str i) (.str j) (fW _ _) (fW _ _) _ _ rfl rfl,Ih]
@[simp] theorem aaZ(i j:Bool):neO (.v (.bl i)) (.v (.bl j)) m=.ok (.v (.bl (!(i == j)))) m:=by
 rw[GZ m (.bl i) (.bl j) (uU _ _) (uU _ _) _ _ rfl rfl,Ja]
theorem Qx{a b:OV}{x:MV}{xs:List MV}(e:fQ m a=x)(hd:Jy m b=none)(hc:pF m b=some (.l xs))(h1:Dat 64 x)(h2:∀y∈xs,Dat 64 y):inB m a b=some (xs.any λy=>eqB y x):=by
 unfold inB
 rw[hd,hc,e]
 dsimp only
 rw[if_pos ⟨h1,h2⟩]
theorem Zf{a b:OV}{x:MV}{xs:List MV}(e:fQ m a=x)(hd:Jy m b=none)(hc:pF m b=some (.t xs))(h1:Dat 64 x)(h2:∀y∈xs,Dat 64 y):inB m a b=some (xs.any λy=>eqB y x):=by
 unfold inB
 rw[hd,hc,e]
 dsimp only
 rw[if_pos ⟨h1,h2⟩]
theorem vP(z:Str):∀zs:List Str,((zs.map MV.str).any λy=>eqB y (.str z))=decide (z∈zs)
 | []=>by simp
 | y::zs=>by
  rw[qQp,List.any_cons,vP z zs,Ih]
  by_cases h:y=z
  ·subst h;simp
  ·have h2:¬ z=y:=λq=>h q.symm
   simp[h,h2]
@[simp] theorem oO(z:Str)(zs:List Str):inB m (.v (.str z)) (.v (.lst (zs.map .str)))=some (decide (z∈zs)):=by
 rw[Qx m (x:=.str z) (xs:=zs.map .str) rfl rfl rfl (fW _ _) (λy hy=>by
  obtain⟨w,_,rfl⟩:=qQh.mp hy
  exact fW _ _),vP]
@[simp] theorem Vd(z:Str)(zs:List Str):inB m (.v (.str z)) (.b (.lst (zs.map .str)))=some (decide (z∈zs)):=by
 rw[Qx m (x:=.str z) (xs:=zs.map .str) rfl rfl rfl (fW _ _) (λy hy=>by
  obtain⟨w,_,rfl⟩:=qQh.mp hy
  exact fW _ _),vP]
@[simp] theorem Wy(z:Str)(zs:List Str):inB m (.v (.str z)) (.v (.tup (zs.map .str)))=some (decide (z∈zs)):=by
 rw[Zf m (x:=.str z) (xs:=zs.map .str) rfl rfl rfl (fW _ _) (λy hy=>by
  obtain⟨w,_,rfl⟩:=qQh.mp hy
  exact fW _ _),vP]
@[simp] theorem W9(c:Nat)(z:Str):inB m (.v (.str ⟨#[c]⟩)) (.v (.str z))=some (decide (c∈z.cps.toList)):=id rfl
@[simp] theorem abm(xs:List MV)(r:Mem):rB (some (.lst xs)::r) 0=some xs:=id rfl
@[simp] theorem abP(o:Option MO)(r:Mem)(n:Nat):rB (o::r) (n+1)=rB r n:=by simp[rB]
def ixL(o:Option MV)(m:Mem):R OV:=match o with
 | some x=>.ok (.v x) m
 | none=>.stuck
@[simp] theorem aem(x:MV):ixL (some x) m=.ok (.v x) m:=id rfl
@[simp] theorem aeo:ixL none m=.stuck:=id rfl
@[simp] theorem aaI(xs:List MV)(k:Int):ixF (.v (.lst xs)) (.v (.int k)) m=ixL (atI xs k) m:=id rfl
@[simp] theorem acO(xs:List MV)(k:Int):ixF (.v (.kl xs)) (.v (.int k)) m=ixL (atI xs k) m:=id rfl
@[simp] theorem YB(xs:List MV)(k:Int):ixF (.v (.tup xs)) (.v (.int k)) m=ixL (atI xs k) m:=id rfl
@[simp] theorem adu(xs:List MV)(k:Int):ixF (.b (.lst xs)) (.v (.int k)) m=ixL (atI xs k) m:=id rfl
@[simp] theorem aae(z:Str)(k:Int):ixF (.v (.str z)) (.v (.int k)) m=if z.length<=sizeLine then ixL ((atI z.cps.toList k).map λc=>.str ⟨#[c]⟩) m else .stuck:=by
 show (if z.length<=sizeLine then (match atI z.cps.toList k with
   | some c=>R.ok (OV.v (.str ⟨#[c]⟩)) m
   | none=>.stuck) else .stuck)=_
 cases atI z.cps.toList k <;> rfl
theorem P0(n:Nat)(xs:List MV)(k:Int)(h:rB m n=some xs):ixF (.v (.ref n)) (.v (.int k)) m=ixL (atI xs k) m:=by
 have hd:Jy m (.v (.ref n))=none:=by
  unfold Jy
  dsimp only
  rw[rR h]
 have hc:pF m (.v (.ref n))=some (.l xs):=by
  show (rB m n).map Sq.l=_
  rw[h];rfl
 unfold ixF
 rw[hd]
 dsimp only
 rw[hc]
 rfl
@[simp] theorem Yn(xs:List MV)(k:Int)(r:Mem):ixF (.v (.ref 0)) (.v (.int k)) (some (.lst xs)::r)=ixL (atI xs k) (some (.lst xs)::r):=P0 _ 0 xs k rfl
theorem atI_nat{α:Type}(xs:List α)(n:Nat):atI xs (n:Int)=xs[n]?:=by
 unfold atI ixN
 by_cases h:n<xs.length
 ·simp[h]
 ·simp[h,qQ1 (Nat.not_lt.mp h)]
@[simp] theorem Yi{α:Type}(xs:List α)(n:Nat):atI xs (n:Int)=xs[n]?:=atI_nat xs n
@[simp] theorem YH{α:Type}(xs:List α)(n:Nat):atI xs (no_index (OfNat.ofNat n):Int)=xs[n]?:=atI_nat xs n
theorem QX{α:Type}{xs:List α}{i:Int}(h:0<=i)(h2:i.toNat<xs.length):atI xs i=some xs[i.toNat]:=by
 have e:((i.toNat:Nat):Int)=i:=Int.toNat_of_nonneg h
 have:=atI_nat xs i.toNat
 rw[e] at this
 rw[this,qQf h2]
@[simp] theorem Zm(k n:Nat):ixN k (no_index (OfNat.ofNat n):Int)=if n<k then some n else none:=by
 show ixN k ((n:Nat):Int)=_
 unfold ixN
 simp
@[simp] theorem Xr(k n:Nat):ixN k (n:Int)=if n<k then some n else none:=by
 unfold ixN
 simp
@[simp] theorem XR(xs:List MV):JB (.v (.lst xs)) m=.ok (.v (.int xs.length)) m:=id rfl
@[simp] theorem aah(xs:List MV):JB (.v (.kl xs)) m=.ok (.v (.int xs.length)) m:=id rfl
@[simp] theorem Xv(xs:List MV):JB (.v (.tup xs)) m=.ok (.v (.int xs.length)) m:=id rfl
@[simp] theorem acy(xs:List MV):JB (.b (.lst xs)) m=.ok (.v (.int xs.length)) m:=id rfl
@[simp] theorem X8(z:Str):JB (.v (.str z)) m=if z.length<=sizeLine then .ok (.v (.int z.length)) m else .stuck:=id rfl
@[simp] theorem abS(i:Int):TV (.v (.int i)) m=.ok (.v (.int i)) m:=id rfl
@[simp] theorem abd(i:Int):Vc (.v (.int i)) m=.ok (.v (.int (if i<0 then -i else i))) m:=id rfl
def allR(f:List Bool->Bool)(o:Option (List Bool))(m:Mem):R OV:=match o with
 | some bs=>.ok (.v (.bl (f bs))) m
 | none=>.stuck
@[simp] theorem ab2(f:List Bool->Bool)(bs:List Bool):allR f (some bs) m=.ok (.v (.bl (f bs))) m:=id rfl
@[simp] theorem acl(xs:List MV):SM (.v (.lst xs)) m=allR (·.all id) (Nt xs) m:=id rfl
@[simp] theorem VL(xs:List MV):jN (.v (.lst xs)) m=.ok (.lst xs) m:=id rfl
@[simp] theorem VG(xs:List MV):jN (.v (.kl xs)) m=.ok (.lst xs) m:=id rfl
@[simp] theorem S8(xs:List MV):jN (.v (.tup xs)) m=.ok (.lst xs) m:=id rfl
@[simp] theorem Vo(xs:List MV):jN (.b (.lst xs)) m=.ok (.lst xs) m:=id rfl
@[simp] theorem acr(i:Int):Jz (.v (.int i))=some i:=id rfl
@[simp] theorem aex(x:OV)(i:Int):slA true x (.v (.int i)) m=slF x (some i) none m:=id rfl
@[simp] theorem adb(x:OV)(i:Int):slA false x (.v (.int i)) m=slF x none (some i) m:=id rfl
@[simp] theorem abw(x:OV)(k i:Int):Wo x k (.v (.int i)) m=slF x (some k) (some i) m:=id rfl
@[simp] theorem ac8(xs:List MV)(lo hi:Option Int):slF (.v (.lst xs)) lo hi m=.ok (.v (.lst (CW xs lo hi))) m:=id rfl
@[simp] theorem aeA(xs:List MV)(lo hi:Option Int):slF (.v (.kl xs)) lo hi m=.ok (.v (.lst (CW xs lo hi))) m:=id rfl
@[simp] theorem aeT(xs:List MV)(lo hi:Option Int):slF (.v (.tup xs)) lo hi m=.ok (.v (.tup (CW xs lo hi))) m:=id rfl
@[simp] theorem adp(z:Str)(lo hi:Option Int):slF (.v (.str z)) lo hi m=if z.length<=sizeLine then .ok (.v (.str (cutS z lo hi))) m else .stuck:=id rfl
theorem xZ(xs:List MV)(k:Nat):CW xs none (some (k:Int))=xs.take k:=by
 unfold CW
 rw[HT.sIx_none,HT.sIx_nat]
 simp only[List.drop_zero,Nat.sub_zero]
 by_cases h:k<=xs.length
 ·rw[Nat.min_eq_left h]
 ·rw[Nat.min_eq_right (by omega),List.take_of_length_le (Nat.le_refl _),List.take_of_length_le (by omega)]
@[simp] theorem Xh(xs:List MV)(k:Nat):CW xs none (some (no_index (OfNat.ofNat k):Int))=xs.take k:=xZ xs k
@[simp] theorem Um(xs:List MV)(k:Nat):CW xs none (some (k:Int))=xs.take k:=xZ xs k
@[simp] theorem abU(xs:List MV):Dq (.v (.lst xs)) m=.ok ⟨xs,[]⟩ m:=id rfl
@[simp] theorem ab7(xs:List MV):Dq (.v (.kl xs)) m=.ok ⟨xs,[]⟩ m:=id rfl
@[simp] theorem abY(xs:List MV):Dq (.v (.tup xs)) m=.ok ⟨xs,[]⟩ m:=id rfl
@[simp] theorem acf(z:Str):Dq (.v (.str z)) m=.ok ⟨signs z,[]⟩ m:=id rfl
@[simp] theorem acq(j:Int):WM (.v (.int j)) m=if -(2 ^ 62)<=j/\j<2 ^ 62 then .ok ⟨oW 0 j.toNat,[]⟩ m else .stuck:=id rfl
@[simp] theorem ZM(xs ys:List MV):JD (.v (.lst xs)) (.v (.lst ys)) m=.ok ⟨yd xs ys,[]⟩ m:=id rfl
@[simp] theorem ZG(xs ys:List MV):JD (.v (.lst xs)) (.v (.tup ys)) m=.ok ⟨yd xs ys,[]⟩ m:=id rfl
@[simp] theorem aao(xs ys:List MV):JD (.v (.tup xs)) (.v (.lst ys)) m=.ok ⟨yd xs ys,[]⟩ m:=id rfl
@[simp] theorem aad(xs ys:List MV):JD (.v (.tup xs)) (.v (.tup ys)) m=.ok ⟨yd xs ys,[]⟩ m:=id rfl
@[simp] theorem ac2:ug (.v .non) m=.ok false m:=id rfl
@[simp] theorem acz(b:Bool):ug (.v (.bl b)) m=.ok b m:=id rfl
@[simp] theorem abM(b:Int):ug (.v (.int b)) m=.ok (b != 0) m:=id rfl
@[simp] theorem acF(xs:List MV):ug (.v (.lst xs)) m=.ok (!xs.isEmpty) m:=id rfl
@[simp] theorem abF(xs:List MV):ug (.v (.tup xs)) m=.ok (!xs.isEmpty) m:=id rfl
@[simp] theorem Su(i:Nat)(x:MV)(s:Sl):bW (.name i) x s=some (s.set i (some (.v x))):=id rfl
@[simp] theorem WN(is:List Nat)(xs:List MV)(s:Sl):bW (.tup is) (.tup xs) s=iy s is xs:=id rfl
@[simp] theorem We(is:List Nat)(xs:List MV)(s:Sl):bW (.tup is) (.lst xs) s=iy s is xs:=id rfl
@[simp] theorem XH(s:Sl):iy s [] []=some s:=id rfl
@[simp] theorem X7(s:Sl)(i:Nat)(is:List Nat)(x:MV)(xs:List MV):iy s (i::is) (x::xs)=iy (s.set i (some (.v x))) is xs:=id rfl
@[simp] theorem ZC(s:Sl):gW s []=s:=id rfl
@[simp] theorem aaq(s:Sl)(v:Nat)(vs:List Nat):gW s (v::vs)=(gW s vs).set v none:=id rfl
def KR(o:Option (List Bool))(m:Mem):R OV:=match o with
 | some bs=>.ok (.v (.bl (bs.any id))) m
 | none=>.stuck
@[simp] theorem acx(bs:List Bool):KR (some bs) m=.ok (.v (.bl (bs.any id))) m:=id rfl
section
variable(ts:List Ty)(own:List (Str × List Bool))
@[simp] theorem acg:Df ts own (.v .non) m=KR (DW ts own (.b "NoneType")) m:=id rfl
@[simp] theorem acJ(b:Bool):Df ts own (.v (.bl b)) m=KR (DW ts own (.b "bool")) m:=id rfl
@[simp] theorem abx(b:Int):Df ts own (.v (.int b)) m=KR (DW ts own (.b "int")) m:=id rfl
@[simp] theorem ac0(b:Str):Df ts own (.v (.str b)) m=KR (DW ts own (.b "str")) m:=id rfl
@[simp] theorem aa7(b:List MV):Df ts own (.v (.tup b)) m=KR (DW ts own (.b "tuple")) m:=id rfl
@[simp] theorem abC(b:List MV):Df ts own (.v (.lst b)) m=KR (DW ts own (.b "list")) m:=id rfl
@[simp] theorem ach(a b:List MV):Df ts own (.v (.dic a b)) m=KR (DW ts own (.b "dict")) m:=id rfl
@[simp] theorem acd(c:Str)(ks:List Str)(b:List MV):Df ts own (.v (.ins c ks b)) m=KR (DW ts own (.own c)) m:=id rfl
@[simp] theorem ab8(s:String):DW ts own (.b s)=some (ts.map λt=>match t with
  | .b u=>WY s u
  | .own _=>false):=id rfl
@[simp] theorem abI(s:Str):DW ts own (.own s)=own.lookup s:=id rfl
@[simp] theorem ZX(a b:String):WY a b=(a == b || (a == "bool"&&b == "int")):=id rfl
end
end
def asC{α:Type}(o:Option Sl)(k:Sl->R α)(_:Tg k:=⟨⟩):R α:=match o with
 | some s=>k s
 | none=>.stuck
@[simp] theorem adn{α:Type}(s:Sl)(k:Sl->R α)(t:Tg k):asC (some s) k t=k s:=id rfl
def vlR(y:OV)(m:Mem):R (Option MV):=match qu y with
  | some y=>.ok (some y) m
  | none=>.stuck
@[simp] theorem adU(y:MV)(m:Mem):vlR (.v y) m=.ok (some y) m:=id rfl
@[simp] theorem Np(own:List Nat)(tg:MG)(ft:Sl->Mem->R Bool)(fe:Sl->Mem->R OV)(s:Sl)(x:MV)(m:Mem):bA own tg ft fe s x m=asC (bW tg x (gW s own)) λs2=>(ft s2 m).bd λk m=>if k=true then (fe s2 m).bd λy m=>vlR y m else .ok none m:=id rfl
def vl2(y z:OV)(m:Mem):R (Option (MV × MV)):=match qu y,qu z with
  | some y,some z=>.ok (some (y,z)) m
  | _,_=>.stuck
@[simp] theorem ad9(y z:MV)(m:Mem):vl2 (.v y) (.v z) m=.ok (some (y,z)) m:=id rfl
@[simp] theorem La(own:List Nat)(tg:MG)(ft:Sl->Mem->R Bool)(fk fv:Sl->Mem->R OV)(s:Sl)(x:MV)(m:Mem):cV own tg ft fk fv s x m=asC (bW tg x (gW s own)) λs2=>(ft s2 m).bd λk m=>if k=true then (fk s2 m).bd λy m=>(fv s2 m).bd λz m=>vl2 y z m else .ok none m:=id rfl
theorem fL{f:MV->Mem->R (Option MV)}{h:MV->Option MV}{m:Mem}:∀{xs acc:List MV},(∀x∈xs,f x m=.ok (h x) m)->acc.length+xs.length<=sizeLine->cD f [] xs acc m=.ok (acc++xs.filterMap h) m
 | [],acc,_,_=>by unfold cD;rw[if_pos (d7 m)];simp
 | x::xs,acc,hf,hl=>by
  rw[fG,if_pos (d7 m),hf x qQc]
  rw[qQn] at hl
  cases e:h x with
  | none =>
   show cD f [] xs acc m=_
   rw[fL (λy hy=>hf y (qQd _ hy)) (by omega),List.filterMap_cons_none e]
  | some y =>
   show (if acc.length<sizeLine then cD f [] xs (acc++[y]) m else .stuck)=_
   rw[if_pos (by omega),fL (λy hy=>hf y (qQd _ hy)) (by simp;omega),List.filterMap_cons_some e]
   simp
theorem ou{f:MV->Mem->R (Option MV)}{h:MV->MV}{m:Mem}{xs acc:List MV}(hf:∀x∈xs,f x m=.ok (some (h x)) m)(hl:acc.length+xs.length<=sizeLine):cD f [] xs acc m=.ok (acc++xs.map h) m:=by
 rw[fL (h:=λx=>some (h x)) hf hl]
 have e:xs.filterMap (λx=>some (h x))=xs.map h:=by
  clear hf hl
  induction xs with
  | nil=>rfl
  | cons x xs ih=>simp
 rw[e]
theorem rQ{f:MV->Sl->Mem->SR}{s:Sl}{m:Mem}:oR f [] [] s m=.nx s m:=by unfold oR;rw[if_pos (d7 m)]
theorem pD{f:MV->Sl->Mem->SR}{x:MV}{xs:List MV}{s:Sl}{m:Mem}:oR f [] (x::xs) s m=match f x s m with
  | .nx s m=>oR f [] xs s m
  | .ct s m=>oR f [] xs s m
  | .bk s m=>.nx s m
  | .rt r=>.rt r
  | .ex c ks ys s m=>.ex c ks ys s m
  | .stuck=>.stuck:=by
 rw[oU,if_pos (d7 m)]
 all_goals (cases f x s m <;> rfl)
theorem BX{f:MV->Sl->Mem->SR}(I:Sl->Mem->Prop):∀{xs:List MV}{s:Sl}{m:Mem},(∀x∈xs,∀s m,I s m->∃s' m',f x s m=.nx s' m'/\I s' m')->I s m->∃s' m',oR f [] xs s m=.nx s' m'/\I s' m'
 | [],s,m,_,h=>⟨s,m,rQ,h⟩
 | x::xs,s,m,hf,h=>by
  obtain⟨s1,m1,e,h1⟩:=hf x qQc s m h
  obtain⟨s2,m2,e2,h2⟩:=BX I (λy hy=>hf y (qQd _ hy)) h1
  refine⟨s2,m2,?_,h2⟩
  rw[pD,e]
  exact e2
theorem Gu{f:MV->Sl->Mem->SR}(I:Nat->Sl->Mem->Prop):∀{xs:List MV}{s:Sl}{m:Mem} (k:Nat),(∀i x,xs[i]? = some x->∀s m,I (k+i) s m->∃s' m',f x s m=.nx s' m'/\I (k+i+1) s' m')->I k s m->∃s' m',oR f [] xs s m=.nx s' m'/\I (k+xs.length) s' m'
 | [],s,m,k,_,h=>⟨s,m,rQ,h⟩
 | x::xs,s,m,k,hf,h=>by
  obtain⟨s1,m1,e,h1⟩:=hf 0 x rfl s m h
  obtain⟨s2,m2,e2,h2⟩:=Gu I (k+1) (λi y hy s m q=>by
   have:=hf (i+1) y (by simpa using hy) s m (by rw[show k+(i+1)=k+1+i from by omega];exact q)
   rw[show k+(i+1)+1=k+1+i+1 from by omega] at this
   exact this) h1
  refine⟨s2,m2,?_,?_⟩
  ·rw[pD,e];exact e2
  ·rw[qQn,show k+(xs.length+1)=k+1+xs.length from by omega];exact h2
def El(r:SR):FR:=match r with
 | .nx _ m=>.ok .non m
 | .rt (.ok x m)=>.ok x m
 | .rt (.new o m)=>.new o m
 | .ex c ks xs _ m=>.exc c ks xs m
 | _=>.stuck
@[simp] theorem YK(x:MV)(m:Mem):El (.rt (.ok x m))=.ok x m:=id rfl
@[simp] theorem Zj(x:MO)(m:Mem):El (.rt (.new x m))=.new x m:=id rfl
@[simp] theorem aas(s:Sl)(m:Mem):El (.nx s m)=.ok .non m:=id rfl
@[simp] theorem Za(c:Str)(ks:List Str)(xs:List MV)(s:Sl)(m:Mem):El (.ex c ks xs s m)=.exc c ks xs m:=id rfl
@[simp] theorem Xd{c:Prop}[Decidable c](a b:SR):El (if c then a else b)=if c then El a else El b:=by split <;> rfl
theorem nJ(n:Nat)(B:MSs)(as:List MV)(m:Mem):runD n B as m=El (exs B (as.map (λx=>some (SV.v x))++List.replicate (n - as.length) none) m):=rfl
theorem JX{α:Type}(f:α->Bool)(xs:List α):Nt (xs.map λx=>MV.bl (f x))=some (xs.map f):=by
 induction xs with
 | nil=>rfl
 | cons x xs ih=>simp[Nt,ih]
section
variable{X:Cx}
end
end Rc
namespace Rp
open PySem PySem.Spec L2 Rc
open PyProof.Rows hiding St
def uP:List Str:=["_law_script","_law_mixed","_law_cell"]
@[simp] abbrev Qh(c f:Str)(e:ME):ME:=.pr (acp [c] f) (.cons e .nil)
@[simp] abbrev jn(a b:ME):ME:=.pr pIx (.cons a (.cons b .nil))
@[simp] abbrev aH(a0:ME):MEs:=.cons a0 .nil
@[simp] abbrev bO(a0 a1:ME):MEs:=.cons a0 (.cons a1 .nil)
@[simp] abbrev il(a0 a1 a2:ME):MEs:=.cons a0 (.cons a1 (.cons a2 .nil))
@[simp] abbrev Uj(a0 a1 a2 a3:ME):MEs:=.cons a0 (.cons a1 (.cons a2 (.cons a3 .nil)))
@[simp] abbrev yF(a0 a1 a2 a3 a4:ME):MEs:=.cons a0 (.cons a1 (.cons a2 (.cons a3 (.cons a4 .nil))))
@[simp] abbrev Ke(a0 a1 a2 a3 a4 a5 a6 a7:ME):MEs:=.cons a0 (.cons a1 (.cons a2 (.cons a3 (.cons a4 (.cons a5 (.cons a6 (.cons a7 .nil)))))))
@[simp] abbrev d8(a0:MS):MSs:=.cons a0 .nil
@[simp] abbrev Tz(a0 a1 a2 a3 a4 a5 a6 a7 a8 a9 a10:MS):MSs:=.cons a0 (.cons a1 (.cons a2 (.cons a3 (.cons a4 (.cons a5 (.cons a6 (.cons a7 (.cons a8 (.cons a9 (.cons a10 .nil))))))))))
@[simp] abbrev Uq(a0 a1:MS):MSs:=.cons a0 (.cons a1 .nil)
@[simp] abbrev KQ(a0 a1 a2:MS):MSs:=.cons a0 (.cons a1 (.cons a2 .nil))
@[simp] abbrev YG(a0 a1 a2 a3:MS):MSs:=.cons a0 (.cons a1 (.cons a2 (.cons a3 .nil)))
@[simp] abbrev YD(a0 a1 a2 a3 a4:MS):MSs:=.cons a0 (.cons a1 (.cons a2 (.cons a3 (.cons a4 .nil))))
@[simp] abbrev Qv(a0 a1 a2 a3 a4 a5:MS):MSs:=.cons a0 (.cons a1 (.cons a2 (.cons a3 (.cons a4 (.cons a5 .nil)))))
@[simp] abbrev aap(a0 a1 a2 a3 a4 a5 a6:MS):MSs:=.cons a0 (.cons a1 (.cons a2 (.cons a3 (.cons a4 (.cons a5 (.cons a6 .nil))))))
@[simp] abbrev Th(a0 a1 a2 a3 a4 a5 a6 a7:MS):MSs:=.cons a0 (.cons a1 (.cons a2 (.cons a3 (.cons a4 (.cons a5 (.cons a6 (.cons a7 .nil)))))))
@[simp] abbrev vH(z:Bool):ME:=.pr (pBl z) .nil
@[simp] abbrev bz(z:Int):ME:=.pr (fY z) .nil
@[simp] abbrev cA(z:Str):ME:=.pr (Hz z) .nil
@[simp] abbrev aJ:ME:=.slot 0
@[simp] abbrev bK:ME:=.slot 1
@[simp] abbrev Rk:ME:=.slot 10
@[simp] abbrev GX:ME:=.slot 11
@[simp] abbrev Og:ME:=.slot 12
@[simp] abbrev O6:ME:=.slot 13
@[simp] abbrev qD:ME:=.slot 2
@[simp] abbrev sV:ME:=.slot 3
@[simp] abbrev oJ:ME:=.slot 4
@[simp] abbrev Ak:ME:=.slot 5
@[simp] abbrev qb:ME:=.slot 6
@[simp] abbrev Wg:ME:=.slot 7
@[simp] abbrev U6:ME:=.slot 8
@[simp] abbrev qp:ME:=.slot 9
def lA:MSs:=(KQ (.set 1 (bz 49310)) (.loop (.name 2) (.pr ab0 (aH (.pr Zb (bO aJ (bz 63))))) (d8 (.set 1 (.pr (dR .mod) (bO (.pr vJ (aH (.pr (dR .add) (bO (.pr (dR .add) (bO (.pr (dR .mul) (bO bK (bz 50021))) (.pr (dR .mul) (bO (.pr (dR .mod) (bO (.pr vJ (aH qD)) (bz 1000211))) (bz 883))))) (bz 31))))) (bz 2147483587)))))) (.retF (.pr dY (yF (.fr (.pr Wl (aH (.pr Zb (bO aJ (bz 63)))))) (bz 0) (bz 0) bK (bz 0)))))
def lC:Mir:=runD 3 lA
def fZ:Fn:=⟨"_law_open",["_law_script"],lC⟩
@[simp] theorem OJ:fZ.M=lC:=id rfl
@[simp] theorem Pk:fZ.ps=(["_law_script"]:List Str):=id rfl
def uJ:List Str:=["_law_bag","_law_sides","_law_seed","_law_step","_law_cell","_law_digit","_law_small"]
def fu:MSs:=(aap (.pr qj (il (.pr (dR .add) (bO (jn aJ (bz 4)) (bz 1))) aJ (bz 4))) (.ifs (.and (.cmp cEq (jn aJ (bz 2)) (bz 0)) (.cmp cLt (jn aJ (bz 1)) (.pr Pg (aH (jn aJ (bz 0)))))) (KQ (.set 4 (jn (jn aJ (bz 0)) (jn aJ (bz 1)))) (.pr qj (il (.pr (dR .add) (bO (jn aJ (bz 1)) (bz 1))) aJ (bz 1))) (.ifs (.cmp cGe (.pr YW (aH oJ)) (.pr (dR .pow) (bO (bz 10) (bz 18)))) (d8 (.pr qj (il (.pr YW (aH oJ)) aJ (bz 2)))) (Uq (.set 6 (.pr (dR .add) (bO (.pr (dR .mul) (bO (.pr (dR .mod) (bO (.pr vJ (aH oJ)) (bz 1000211))) (bz 761))) (bz 43)))) (.pr qj (il (.pr (dR .mod) (bO (.pr vJ (aH (.pr (dR .add) (bO (.pr (dR .mul) (bO (jn aJ (bz 3)) (bz 41521))) qb)))) (bz 2147483629))) aJ (bz 3)))))) .nil) (.ifs (.cmp cGt (jn aJ (bz 2)) (bz 0)) (KQ (.set 5 (.pr (dR .mod) (bO (.pr vJ (aH (jn aJ (bz 2)))) bK))) (.pr qj (il (.pr (dR .fdiv) (bO (jn aJ (bz 2)) bK)) aJ (bz 2))) (.ret Ak)) .nil) (.set 2 (jn aJ (bz 3))) (.set 3 (.pr (dR .add) (bO (.pr (dR .add) (bO (.pr (dR .mul) (bO qD (bz 47713))) (.pr (dR .mul) (bO (jn aJ (bz 4)) (bz 110017))))) (bz 60013)))) (.pr qj (il (.pr (dR .mod) (bO (.pr vJ (aH (.pr (dR .add) (bO (.pr (dR .mul) (bO (.pr (dR .mul) (bO qD qD)) (bz 13))) sV)))) (bz 2147483587))) aJ (bz 3))) (.ret (.pr (dR .mod) (bO (.pr vJ (aH (.pr (dR .add) (bO (.pr (dR .fdiv) (bO (jn aJ (bz 3)) (bz 71))) (.pr (dR .mul) (bO (.pr (dR .mod) (bO (.pr vJ (aH (jn aJ (bz 3)))) (bz 8017))) (bz 59))))))) bK))))
def dO:Mir:=runD 7 fu
def iW:Fn:=⟨"_law_draw",["_law_bag","_law_sides"],dO⟩
@[simp] theorem Qg:iW.M=dO:=id rfl
@[simp] theorem Q6:iW.ps=(["_law_bag","_law_sides"]:List Str):=id rfl
def Bt:List Str:=["_law_bag","_law_things"]
def qW:MSs:=(d8 (.ret (jn bK (.pr (gH iW) (bO aJ (.pr Pg (aH bK)))))))
def oK:Mir:=runD 2 qW
def o7:Fn:=⟨"_law_of",["_law_bag","_law_things"],oK⟩
@[simp] theorem Uc:o7.M=oK:=id rfl
@[simp] theorem Tu:o7.ps=(["_law_bag","_law_things"]:List Str):=id rfl
def yo:List Str:=["_law_bag","_law_more"]
def oE:MSs:=(d8 (.ret (.pr (gH o7) (bO aJ (.pr (dR .add) (bO (.fr (.pr dY (.cons (.pr Mu .nil) (.cons (vH true) (.cons (vH false) (.cons (bz 3) (.cons (.pr ab5 (aH (bz 1))) (.cons (cA "") (Ke (cA "A") (cA "seventh") (cA "a1") (.pr v5 .nil) (.fr (.pr dY .nil)) (.pr v5 (aH (cA "a"))) (.fr (.pr dY (aH (cA "a")))) (.pr v5 (aH (.pr v5 (bO (bz 1) (cA "a")))))))))))))) bK))))))
def sE:Mir:=runD 2 oE
def iI:Fn:=⟨"_law_odd",["_law_bag","_law_more"],sE⟩
@[simp] theorem RL:iI.M=sE:=id rfl
@[simp] theorem RM:iI.ps=(["_law_bag","_law_more"]:List Str):=id rfl
def uQ:List Str:=["_law_found","_law_due","_law_a","_law_b"]
def iT(F:Fn):MSs:=(YG (.ifs (.or (.cmp cIs bK (.pr Mu .nil)) (.cmp cIs aJ (.pr Mu .nil))) (d8 (.ret (.andV (.cmp cIs bK (.pr Mu .nil)) (.cmp cIs aJ (.pr Mu .nil))))) .nil) (.ifs (.val (.pr (yQ [.b "list",.b "tuple"] [] false) (aH bK))) (Uq (.ifs (.or (.cmp cNe (.pr (yQ [.b "list"] [] true) (aH aJ)) (.pr (yQ [.b "list"] [] true) (aH bK))) (.cmp cNe (.pr (yQ [.b "tuple"] [] true) (aH aJ)) (.pr (yQ [.b "tuple"] [] true) (aH bK)))) (d8 (.ret (vH false))) .nil) (.ret (.andV (.cmp cEq (.pr Pg (aH aJ)) (.pr Pg (aH bK))) (.pr abJ (aH (.fr (.comp [2,3] (.tup [2,3]) (.pr iZip (bO aJ bK)) .nil (.pr (gH (F)) (bO qD sV))))))))) .nil) (.ifs (.or (.cmp cNe (.pr (yQ [.b "bool"] [] true) (aH bK)) (.pr (yQ [.b "bool"] [] true) (aH aJ))) (.cmp cNe (.pr (yQ [.b "int"] [] true) (aH bK)) (.pr (yQ [.b "int"] [] true) (aH aJ)))) (d8 (.ret (vH false))) .nil) (.ret (.andV (.cmp cEq (.pr (yQ [.b "str"] [] true) (aH bK)) (.pr (yQ [.b "str"] [] true) (aH aJ))) (.cmp cEq aJ bK))))
def d9:Nat->Mir
 | 0=>λ_ _=>.stuck
 | n+1=>runD 4 (iT ⟨"_law_same",["_law_found","_law_due"],d9 n⟩)
def cO(n:Nat):Fn:=⟨"_law_same",["_law_found","_law_due"],d9 n⟩
@[simp] theorem QM(n:Nat):(cO n).M=d9 n:=id rfl
@[simp] theorem Ra(n:Nat):(cO n).ps=(["_law_found","_law_due"]:List Str):=id rfl
def fj:MSs:=(d8 (.ret (.cmp cIn bK (Qh "Program" "own_names" aJ))))
def cP:Mir:=runD 2 fj
def bM:Fn:=⟨"__contains__",["self","mode"],cP⟩
@[simp] theorem wz:bM.M=cP:=id rfl
@[simp] theorem v8:bM.ps=(["self","mode"]:List Str):=id rfl
def yZ:MSs:=(d8 (.ret (.andV (.pr (yQ [.b "int"] [] true) (aH aJ)) (.andV (.notV (.pr (yQ [.b "bool"] [] true) (aH aJ))) (.chain cLe cLe bK aJ qD)))))
def sJ:Mir:=runD 3 yZ
def oh:Fn:=⟨"is_number",["value","least","most"],sJ⟩
@[simp] theorem Mr:oh.M=sJ:=id rfl
@[simp] theorem Mv:oh.ps=(["value","least","most"]:List Str):=id rfl
def qK:MSs:=(d8 (.retF (.pa WL (.cons false (.pr (Hq "QUIET" (.str "quiet")) .nil) (.cons true (Qh "Program" "own_words" aJ) (.cons false (.pr (Hq "NOISE" (.str "noise")) .nil) .nil))))))
def fU:Mir:=runD 1 qK
def dD:Fn:=⟨"sounds",["self"],fU⟩
@[simp] theorem Dg:dD.M=fU:=id rfl
@[simp] theorem CQ:dD.ps=(["self"]:List Str):=id rfl
def GD:MSs:=(Qv (.ifs (.or (.not (.val (.pr (yQ [.b "tuple"] [] true) (aH bK)))) (.or (.cmp cEq (.pr Pg (aH bK)) (bz 0)) (.not (.val (.pr (yQ [.b "str"] [] true) (aH (jn bK (bz 0)))))))) (d8 (.ret (vH false))) .nil) (.ifs (.or (.cmp BZ (jn bK (bz 0)) (.pr (Hq "SIZES" (.kd ["apart","most","all","sounds","never"] [3,3,2,2,2])) .nil)) (.cmp cNe (.pr Pg (aH bK)) (.pr Vh (bO (.pr (Hq "SIZES" (.kd ["apart","most","all","sounds","never"] [3,3,2,2,2])) .nil) (jn bK (bz 0)))))) (d8 (.ret (vH false))) .nil) (.ifs (.cmp cEq (jn bK (bz 0)) (cA "apart")) (d8 (.ret (.andV (.cmp (Vr [("Program",bM)]) (jn bK (bz 1)) aJ) (.andV (.cmp (Vr [("Program",bM)]) (jn bK (bz 2)) aJ) (.cmp cNe (jn bK (bz 1)) (jn bK (bz 2))))))) .nil) (.ifs (.cmp cEq (jn bK (bz 0)) (cA "most")) (d8 (.ret (.andV (.cmp (Vr [("Program",bM)]) (jn bK (bz 1)) aJ) (.pr (gH oh) (il (jn bK (bz 2)) (bz 0) (bz 2)))))) .nil) (.ifs (.cmp cEq (jn bK (bz 0)) (cA "all")) (d8 (.ret (.cmp (Vr [("Program",bM)]) (jn bK (bz 1)) aJ))) .nil) (.ret (.cmp cIn (jn bK (bz 1)) (.bm (wj "sounds" [("Program",dD)]) aJ .nil))))
def IV:Mir:=runD 2 GD
def lF:MSs:=(d8 (.ifs (.cmp Af bK (Qh "Program" "own_names" aJ)) (d8 (.pr (yq "UnknownMode" "given" "given" "UnknownMode") (aH bK))) .nil))
def dW:Mir:=runD 2 lF
def dw:Fn:=⟨"check_mode",["self","mode"],dW⟩
@[simp] theorem xV:dw.M=dW:=id rfl
@[simp] theorem xO:dw.ps=(["self","mode"]:List Str):=id rfl
def jL:MSs:=(d8 (.ifs (.cmp Af bK (Qh "Program" "own_orders" aJ)) (d8 (.pr (yq "UnknownOrder" "given" "given" "UnknownOrder") (aH bK))) .nil))
def dN:Mir:=runD 2 jL
def cZ:Fn:=⟨"check_order",["self","order"],dN⟩
@[simp] theorem wY:cZ.M=dN:=id rfl
@[simp] theorem wW:cZ.ps=(["self","order"]:List Str):=id rfl
def nY:MSs:=(Qv (.expr (.bm (wj "check_mode" [("Program",dw)]) aJ (aH bK))) (.expr (.bm (wj "check_order" [("Program",cZ)]) aJ (aH qD))) (.set 4 (.bm (wj "sounds" [("Program",dD)]) aJ .nil)) (.ifs (.cmp Af sV oJ) (d8 (.pr (yq "InvalidSound" "given" "given" "InvalidSound") (aH sV))) .nil) (.set 5 (jn (jn (Qh "Program" "own_modes" aJ) (jn (Qh "Program" "places" aJ) bK)) (bz 2))) (.ret (jn (jn Ak (.bm G3 (Qh "Program" "own_orders" aJ) (aH qD))) (.bm G3 oJ (aH sV)))))
def dB:Mir:=runD 6 nY
def dC:Fn:=⟨"next_mode",["self","mode","order","sound"],dB⟩
@[simp] theorem yU:dC.M=dB:=id rfl
@[simp] theorem yR:dC.ps=(["self","mode","order","sound"]:List Str):=id rfl
structure Bag where
 cells:List Int
 at_:Nat
 big:Int
 mixed:Int
 cnt:Int
 b0:0<=big
 m0:0<=mixed
 m1:mixed<2147483648
def Bag.cont(b:Bag):List MV:=[.lst (b.cells.map .int),.int b.at_,.int b.big,.int b.mixed,.int b.cnt]
theorem vX(b:Bag){n:Int}(h1:1<=n)(h2:n<2^64):∃p:Int × Bag,0<=p.1/\p.1<n/\∀rest,dO [.ref 0,.int n] (some (.lst b.cont)::rest)=.ok (.int p.1) (some (.lst p.2.cont)::rest):=by
 obtain⟨cells,at_,big,mixed,cnt,b0,m0,m1⟩:=b
 have hn:0<n:=by omega
 have hn2:0<n/\n<18446744073709551616:=⟨hn,h2⟩
 have step:∀(mixed cnt:Int),0<=(mixed * mixed * 13+(mixed * 47713+(cnt+1) * 110017+60013)) % 2147483587/\(mixed * mixed * 13+(mixed * 47713+(cnt+1) * 110017+60013)) % 2147483587<2147483648:=λmixed cnt=>by
  have z1:=Int.emod_nonneg (mixed * mixed * 13+(mixed * 47713+(cnt+1) * 110017+60013)) (b:=2147483587) (by decide)
  have z2:=Int.emod_lt_of_pos (mixed * mixed * 13+(mixed * 47713+(cnt+1) * 110017+60013)) (b:=2147483587) (by decide)
  omega
 by_cases hA:big=0/\at_<cells.length
 ·obtain⟨rfl,hlt⟩:=hA
  obtain⟨c,hc⟩:∃c,cells[at_]=c:=⟨_,rfl⟩
  obtain⟨d,hd⟩:∃d,(if c<0 then -c else c)=d:=⟨_,rfl⟩
  by_cases hb:1000000000000000000<=d
  ·have hp:0<d:=by omega
   refine⟨(d % n,⟨cells,at_+1,d / n,mixed,cnt+1,Int.ediv_nonneg (by omega) (by omega),m0,m1⟩),Int.emod_nonneg _ (by omega),Int.emod_lt_of_pos _ hn,λrest=>?_⟩
   unfold dO
   rw[nJ]
   unfold fu
   simp[Bag.cont,hn,hn2,hlt,hc,hd,hb,hp]
  ·have hm:=Int.emod_nonneg (mixed * 41521+(c % 1000211 * 761+43)) (b:=2147483629) (by decide)
   have hm2:=Int.emod_lt_of_pos (mixed * 41521+(c % 1000211 * 761+43)) (b:=2147483629) (by decide)
   generalize hM:(mixed * 41521+(c % 1000211 * 761+43)) % 2147483629=M at hm hm2
   have hM64:-18446744073709551616<M/\M<18446744073709551616:=by omega
   refine⟨(((M * M * 13+(M * 47713+(cnt+1) * 110017+60013)) % 2147483587 / 71+(M * M * 13+(M * 47713+(cnt+1) * 110017+60013)) % 2147483587 % 8017 * 59) % n,
    ⟨cells,at_+1,0,(M * M * 13+(M * 47713+(cnt+1) * 110017+60013)) % 2147483587,cnt+1,by omega,(step _ _).1,(step _ _).2⟩),Int.emod_nonneg _ (by omega),Int.emod_lt_of_pos _ hn,λrest=>?_⟩
   unfold dO
   rw[nJ]
   unfold fu
   simp[Bag.cont,hn,hn2,hlt,hc,hd,hb,hM,hM64]
 ·by_cases hB:0<big
  ·have hz:¬ big=0:=by omega
   refine⟨(big % n,⟨cells,at_,big / n,mixed,cnt+1,Int.ediv_nonneg b0 (by omega),m0,m1⟩),Int.emod_nonneg _ (by omega),Int.emod_lt_of_pos _ hn,λrest=>?_⟩
   unfold dO
   rw[nJ]
   unfold fu
   simp[Bag.cont,hn,hn2,hz,hB]
  ·have hz:big=0:=by omega
   subst hz
   have hlt:¬ at_<cells.length:=λh=>hA ⟨rfl,h⟩
   have hM64:-18446744073709551616<mixed/\mixed<18446744073709551616:=by omega
   refine⟨(((mixed * mixed * 13+(mixed * 47713+(cnt+1) * 110017+60013)) % 2147483587 / 71+(mixed * mixed * 13+(mixed * 47713+(cnt+1) * 110017+60013)) % 2147483587 % 8017 * 59) % n,
    ⟨cells,at_,0,(mixed * mixed * 13+(mixed * 47713+(cnt+1) * 110017+60013)) % 2147483587,cnt+1,by omega,(step _ _).1,(step _ _).2⟩),Int.emod_nonneg _ (by omega),Int.emod_lt_of_pos _ hn,λrest=>?_⟩
   unfold dO
   rw[nJ]
   unfold fu
   simp[Bag.cont,hn,hn2,hlt,hM64]
def dr(b:Bag)(n:Int):Int × Bag:=if h:1<=n/\n<2^64 then Classical.choose (vX b h.1 h.2) else (0,b)
theorem Vt(b:Bag){n:Int}(h:1<=n/\n<2^64):0<=(dr b n).1:=by
 unfold dr;rw[dif_pos h];exact (Classical.choose_spec (vX b h.1 h.2)).1
theorem Sv(b:Bag){n:Int}(h:1<=n/\n<2^64):(dr b n).1<n:=by
 unfold dr;rw[dif_pos h];exact (Classical.choose_spec (vX b h.1 h.2)).2.1
theorem Ur(b:Bag){n:Int}(h:1<=n/\n<2^64)(rest:Mem):dO [.ref 0,.int n] (some (.lst b.cont)::rest)=.ok (.int (dr b n).1) (some (.lst (dr b n).2.cont)::rest):=by
 unfold dr;rw[dif_pos h];exact (Classical.choose_spec (vX b h.1 h.2)).2.2 rest
theorem yr{f:MV->Sl->Mem->SR}(hf:∀(i mx:Int) (x c:Option SV) (m:Mem),f (.int i) [x,some (.v (.int mx)),c] m=.nx [x,some (.v (.int ((mx * 50021+i % 1000211 * 883+31) % 2147483587))),some (.v (.int i))] m):
  ∀(ns:List Int) (mx:Int) (x c:Option SV) (m:Mem),0<=mx/\mx<2147483648->∃mx' c',(0<=mx'/\mx'<2147483648)/\oR f [] (ns.map .int) [x,some (.v (.int mx)),c] m=.nx [x,some (.v (.int mx')),c'] m
 | [],mx,x,c,m,h=>⟨mx,c,h,rQ⟩
 | i::ns,mx,x,c,m,h=>by
  have z1:=Int.emod_nonneg (mx * 50021+i % 1000211 * 883+31) (b:=2147483587) (by decide)
  have z2:=Int.emod_lt_of_pos (mx * 50021+i % 1000211 * 883+31) (b:=2147483587) (by decide)
  obtain⟨mx',c',h1,h2⟩:=yr hf ns ((mx * 50021+i % 1000211 * 883+31) % 2147483587) x (some (.v (.int i))) m ⟨z1,by omega⟩
  refine⟨mx',c',h1,?_⟩
  rw[qQp,pD,hf]
  exact h2
theorem Pn(ns:List Int)(m:Mem):∃b:Bag,lC [.kl (ns.map .int)] m=.new (.lst b.cont) m:=by
 have hs:(5:Nat)<=sizeLine:=by rw[sizeLine_eq];omega
 unfold lC
 simp only[nJ]
 unfold lA
 simp
 generalize hf:tY (.name 2) _=f
 have hf':∀(i mx:Int) (x c:Option SV) (m:Mem),f (.int i) [x,some (.v (.int mx)),c] m=.nx [x,some (.v (.int ((mx * 50021+i % 1000211 * 883+31) % 2147483587))),some (.v (.int i))] m:=λi mx x c m=>by
  rw[<- hf];simp
 obtain⟨mx',c',⟨h1,h2⟩,h3⟩:=yr hf' (ns.take 63) 49310 (some (.v (.kl (ns.map .int)))) none m (by decide)
 refine⟨⟨ns.take 63,0,0,mx',0,by decide,h1,h2⟩,?_⟩
 rw[List.map_take] at h3
 rw[h3]
 simp[Bag.cont,hs]
section
theorem Vf(b:Bag)(xs:List MV)(h:1<=xs.length/\xs.length<2 ^ 64)(rest:Mem):
  oK [.ref 0,.lst xs] (some (.lst b.cont)::rest)=.ok (xs.getD (dr b xs.length).1.toNat .non) (some (.lst (dr b xs.length).2.cont)::rest):=by
 have hd:(1:Int)<=(xs.length:Int)/\(xs.length:Int)<2 ^ 64:=by omega
 have h1:=Vt b hd
 have h2:=Sv b hd
 have h3:((dr b xs.length).1.toNat:Int)=(dr b xs.length).1:=Int.toNat_of_nonneg h1
 have h4:(dr b xs.length).1.toNat<xs.length:=by omega
 unfold oK
 rw[nJ]
 unfold qW
 simp[-List.getD_eq_getElem?_getD,Ur b hd]
 rw[QX h1 h4]
 simp[h4]
end
end Rp
namespace Rp
open PySem PySem.Spec L2 Rc
open PyProof.Rows hiding St signs
def letters:Str:="abcdefghijklmnopqrstuvwxyz"
def Nm(z:Str):Prop:=(1<=z.length/\z.length<=6)/\∀c∈z.cps.toList,c∈letters.cps.toList
theorem Nm.line{z:Str}(h:Nm z):z.length<=sizeLine:=by have:=h.1.2;rw[sizeLine_eq];omega
def Wd(z:Str):Prop:=Nm z/\z≠("quiet":Str)/\z≠("noise":Str)
theorem Rx{zs:List Str}{x:MV}(h:x∈zs.map MV.str):∃z∈zs,x=.str z:=by
 obtain⟨z,hz,rfl⟩:=qQh.mp h
 exact⟨z,hz,rfl⟩
abbrev Md:Type:=Str × Str × List (List Str)
def aej(r:List Str):MV:=.tup (r.map .str)
def modeV(d:Md):MV:=.tup [.str d.1,.str d.2.1,.tup (d.2.2.map aej)]
def aed(ws os names:List Str)(d:Md):Prop:=Nm d.1/\(d.2.1=("":Str)\/d.2.1∈ws)/\d.2.2.length=os.length/\∀r∈d.2.2,r.length=ws.length+2/\∀g∈r,g∈names
def nO(ms:List Md):List Str:=ms.map (·.1)
def pKeys:List Str:=["own_words","own_orders","own_modes","own_starts","own_names","places"]
def vY(zs:List Str):MV:=.lst (zs.map .str)
def idxV(n:Nat):List MV:=(List.range n).map λ(i:Nat)=>MV.int (i:Int)
def iz(ws os:List Str)(ms:List Md)(ss:List Str):MV :=
 .ins "Program" pKeys [vY ws,vY os,.lst (ms.map modeV),vY ss,vY (nO ms),.dic ((nO ms).map .str) (idxV ms.length)]
structure POk(ws os:List Str)(ms:List Md)(ss:List Str):Prop where
 wN:∀w∈ws,Wd w
 wD:ws.Nodup
 wL:ws.length<=2
 oN:∀o∈os,Nm o
 oD:os.Nodup
 o1:1<=os.length
 oL:os.length<=3
 mN:∀d∈ms,aed ws os (nO ms) d
 mD:(nO ms).Nodup
 m1:1<=ms.length
 mL:ms.length<=5
 sN:∀s∈ss,s∈nO ms
 sD:ss.Nodup
 s1:1<=ss.length
 sL:ss.length<=ms.length
theorem OD(ms:List Md):(nO ms).length=ms.length:=by simp[nO]
section
variable(ws os:List Str)(ms:List Md)(ss:List Str)(m:Mem)
@[simp] theorem Vk:Jv ["Program"] "own_words" (.v (iz ws os ms ss)) m=.ok (.v (vY ws)) m:=id (by kernel_rfl)
@[simp] theorem Sh:Jv ["Program"] "own_orders" (.v (iz ws os ms ss)) m=.ok (.v (vY os)) m:=id (by kernel_rfl)
@[simp] theorem Wx:Jv ["Program"] "own_modes" (.v (iz ws os ms ss)) m=.ok (.v (.lst (ms.map modeV))) m:=id (by kernel_rfl)
@[simp] theorem R8:Jv ["Program"] "own_starts" (.v (iz ws os ms ss)) m=.ok (.v (vY ss)) m:=id (by kernel_rfl)
@[simp] theorem Wn:Jv ["Program"] "own_names" (.v (iz ws os ms ss)) m=.ok (.v (vY (nO ms))) m:=id (by kernel_rfl)
@[simp] theorem R9:Jv ["Program"] "places" (.v (iz ws os ms ss)) m=.ok (.v (.dic ((nO ms).map .str) (idxV ms.length))) m:=id (by kernel_rfl)
end
structure NOk(ms:List Md)(ns:List Int):Prop where
 len:ns.length=ms.length
 pos:∀n∈ns,0<=n/\n<=1000000000000
def xm(ns:List Int):MV:=.tup (ns.map .int)
def oA(p:Md × Int):Option (Str × Int):=if p.1.2.1≠("":Str)/\0<p.2 then some (p.1.2.1,p.2) else none
def callers(ms:List Md)(ns:List Int):List (Str × Int):=(ms.zip ns).filterMap oA
def pH(ms:List Md)(ns:List Int):Str:=if ((callers ms ns).map (·.2)).sum=0 then "quiet" else if ((callers ms ns).map (·.2)).sum=1 then ((callers ms ns).head?.map (·.1)).getD "" else "noise"
theorem uG:∀{xs:List Int},(∀x∈xs,0<=x)->0<=xs.sum
 | [],_=>by simp
 | x::xs,h=>by
  have h1:=h x qQc
  have h2:=uG λy hy=>h y (qQd _ hy)
  simp;omega
abbrev bg(b:Bag)(rest:Mem):Mem:=some (.lst b.cont)::rest
@[simp] theorem aam(b:Bag)(n:Int)(rest:Mem)(h:1<=n/\n<2 ^ 64):dO [.ref 0,.int n] (bg b rest)=.ok (.int (dr b n).1) (bg (dr b n).2 rest):=Ur b h rest
theorem YT(b:Bag)(xs:List MV)(h:1<=xs.length/\xs.length<2 ^ 62)(rest:Mem):∃(x:MV) (b':Bag),x∈xs/\oK [.ref 0,.lst xs] (bg b rest)=.ok x (bg b' rest):=by
 have hd:(1:Int)<=xs.length/\(xs.length:Int)<2 ^ 64:=by omega
 have h1:=Vt b hd
 have h2:=Sv b hd
 refine⟨_,_,?_,Vf b xs (by omega) rest⟩
 have:(dr b xs.length).1.toNat<xs.length:=by omega
 rw[qQz,qQf this]
 exact List.getElem_mem this
def S(cs:List Nat):Str:=⟨cs.toArray⟩
def lt(i:Nat):Nat:=letters.cps.toList.getD i 0
theorem Bj(n:Nat)(zs:List Str):Dat (n+1) (.lst (zs.map .str)):=(Es n _).mpr λx hx=>by
 obtain⟨z,_,rfl⟩:=Rx hx
 exact fW _ _
@[simp] theorem acU(zs:List Str)(m:Mem):neO (.v (.lst (zs.map .str))) (.v (.lst [])) m=.ok (.v (.bl (!zs.isEmpty))) m:=by
 rw[GZ m (.lst (zs.map .str)) (.lst []) (Bj 63 zs) (Bj 63 []) _ _ rfl rfl,Mp]
 cases zs with
 | nil=>rw[List.map_nil,Cj];rfl
 | cons z zs=>rw[qQp,Eu];rfl
structure SOk(ws os:List Str)(ms:List Md)(ss:List Str)(tw to tm:Nat):Prop where
 ok:POk ws os ms ss
 tw:ws.length<=tw
 to:os.length<=to
 tm:ms.length<=tm
structure Jf(ms:List Md)(ns:List Int):Prop where
 n:NOk ms ns
 s1:1<=ns.sum
 s2:ns.sum<=1000000000000
def pl:Nat->MV->Bool
 | 0,_=>false
 | n+1,x=>match x with
  | .non=>true
  | .bl _=>true
  | .int _=>true
  | .str _=>true
  | .tup xs=>decide (xs.length<=sizeLine)&&xs.all (pl n)
  | .lst xs=>decide (xs.length<=sizeLine)&&xs.all (pl n)
  | _=>false
theorem rZ:∀{xs:List MV}{y:MV},y∈yd xs xs->∃x∈xs,y=.tup [x,x]
 | x::xs,y,h=>by
  rcases qQj.mp (show y∈MV.tup [x,x]::yd xs xs from h) with e|h
  ·exact⟨x,qQc,e⟩
  ·obtain⟨z,hz,e⟩:=rZ h
   exact⟨z,qQd _ hz,e⟩
theorem BL(xs:List MV):(yd xs xs).length=xs.length:=by simp[yd]
theorem Bh{α:Type}(xs:List α):Nt (xs.map λ_=>MV.bl true)=some (xs.map λ_=>true):=JX (λ_=>true) xs
theorem same_refl:∀n x m,pl n x=true->d9 n [x,x] m=.ok (.bl true) m:=by
 intro n
 induction n with
 | zero=>intro x m h;cases h
 | succ n ih =>
  intro x m h
  show runD 4 (iT ⟨"_law_same",["_law_found","_law_due"],d9 n⟩) [x,x] m=_
  rw[nJ]
  unfold iT
  cases x with
  | non=>simp
  | bl b=>simp
  | int i=>simp
  | str s=>simp
  | tup xs =>
   have h:(decide (xs.length<=sizeLine)&&xs.all (pl n))=true:=h
   simp only[qQb,qQs,qQ0] at h
   have hc:=ou (f:=bA [2,3] (.tup [2,3]) (tX .nil) (ev (.pr (gH ⟨"_law_same",["_law_found","_law_due"],d9 n⟩) (.cons (.slot 2) (.cons (.slot 3) .nil)))) [some (SV.v (.tup xs)),some (SV.v (.tup xs)),none,none]) (h:=λ_=>.bl true) (m:=m) (xs:=yd xs xs) (acc:=[]) (λy hy=>by
    obtain⟨z,hz,rfl⟩:=rZ hy
    simp[ih z m (h.2 z hz)]) (by simp[BL];exact h.1)
   simp[hc,Bh]
  | lst xs =>
   have h:(decide (xs.length<=sizeLine)&&xs.all (pl n))=true:=h
   simp only[qQb,qQs,qQ0] at h
   have hc:=ou (f:=bA [2,3] (.tup [2,3]) (tX .nil) (ev (.pr (gH ⟨"_law_same",["_law_found","_law_due"],d9 n⟩) (.cons (.slot 2) (.cons (.slot 3) .nil)))) [some (SV.v (.lst xs)),some (SV.v (.lst xs)),none,none]) (h:=λ_=>.bl true) (m:=m) (xs:=yd xs xs) (acc:=[]) (λy hy=>by
    obtain⟨z,hz,rfl⟩:=rZ hy
    simp[ih z m (h.2 z hz)]) (by simp[BL];exact h.1)
   simp[hc,Bh]
  | _=>cases h
end Rp
namespace Rc
open PySem PySem.Spec L2
open PyProof.Rows hiding St
section
variable{prog:Program}{w:World}{A:Around}{E:Value->Shared->Prop}{s:Shared}{K:PySem.W.Frag}{x C f:Addr}{ox:Obj}{od:Option Obj}
end
section
variable{X:Cx}{pins:List (Addr × Obj)}{σ:L2.St}{H:Hp}{s:Shared}
end
section
variable{k:Nat}{W:WX}{c:Cfg}{X:Cx}
end
end Rc
namespace Rc
open PySem PySem.Spec L2 L2H LamX
open PyProof.Rows hiding St
section
variable{X:Cx}{W:WX}{g0:G}{H0 H:Hp}{i j:Nat}{ds:List DY}{cs:List Str}{Mf:Mir}{D:Ends}{σ:L2.St}
end
section
variable{X:Cx}{W:WX}{c:Cfg}{k:Nat}{g0:G}{H0:Hp}{i j:Nat}{cs:List Str}{Mf:Mir}
end
end Rc
namespace K01
open PySem PySem.Spec L2 Rc Rp
open PyProof.Rows hiding St
def qd:List Str:=["_law_odd_here","_law_found"]
def gU:MSs:=(YD (.set 1 (.fr (.pr dY (yF (.pr (tW bVE "InvalidName" "given" "given" "InvalidName") (aH aJ)) (.pr (tW bVE "InvalidWords" "at" "at" "InvalidWords") (aH aJ)) (.pr (tW bVE "InvalidOrders" "at" "at" "InvalidOrders") (aH aJ)) (.pr (tW bVE "InvalidModes" "at" "at" "InvalidModes") (aH aJ)) (.pr (tW bVE "InvalidStarts" "at" "at" "InvalidStarts") (aH aJ)))))) (.set 1 (.pr (dR .add) (bO bK (.fr (.pr dY (yF (.pr (tW bVE "UnknownMode" "given" "given" "UnknownMode") (aH aJ)) (.pr (tW bVE "UnknownOrder" "given" "given" "UnknownOrder") (aH aJ)) (.pr (tW bVE "InvalidSound" "given" "given" "InvalidSound") (aH aJ)) (.pr (tW bVE "InvalidRoom" "given" "given" "InvalidRoom") (aH aJ)) (.pr (tW bVE "InvalidRecord" "given" "given" "InvalidRecord") (aH aJ)))))))) (.set 1 (.pr (dR .add) (bO bK (.fr (.pr dY (yF (.pr (tW bVE "InvalidWish" "given" "given" "InvalidWish") (aH aJ)) (.pr (tW bVE "InvalidNumber" "given" "given" "InvalidNumber") (aH aJ)) (.pr (Ot bVE "OtherProgram" "OtherProgram") .nil) (.pr (tW bVE "TooMany" "most" "most" "TooMany") (aH aJ)) (.pr (tW bVE "TooFew" "mode" "mode" "TooFew") (aH aJ)))))))) (.set 1 (.pr (dR .add) (bO bK (.fr (.pr dY (yF (.pr (tW bVE "InvalidText" "line" "line" "InvalidText") (aH aJ)) (.pr (tW bVE "InvalidPage" "line" "line" "InvalidPage") (aH aJ)) (.pr (tW bVE "InvalidCommand" "at" "at" "InvalidCommand") (aH aJ)) (.pr (tW bVE "DuplicateName" "name" "name" "DuplicateName") (aH aJ)) (.pr (tW bVE "Full" "limit" "limit" "Full") (aH aJ)))))))) (.ret (.pr (dR .add) (bO bK (.fr (.pr dY (il (.pr (tW bVE "InvalidLimit" "given" "given" "InvalidLimit") (aH aJ)) (.pr (tW bLE "UnknownName" "name" "name" "UnknownName") (aH aJ)) (.pr (Ot bIE "NothingLeft" "NothingLeft") .nil))))))))
def jV:Mir:=runD 2 gU
def eE:Fn:=⟨"_law_errors",["_law_odd_here"],jV⟩
@[simp] theorem JK:eE.M=jV:=id rfl
@[simp] theorem J8:eE.ps=(["_law_odd_here"]:List Str):=id rfl
def sG:List Str:=[]
def jd:MSs:=(d8 (.retF (.pr dY (.cons (cA "InvalidName") (.cons (cA "InvalidWords") (.cons (cA "InvalidOrders") (.cons (cA "InvalidModes") (.cons (cA "InvalidStarts") (.cons (cA "UnknownMode") (.cons (cA "UnknownOrder") (.cons (cA "InvalidSound") (.cons (cA "InvalidRoom") (.cons (cA "InvalidRecord") (.cons (cA "InvalidWish") (.cons (cA "InvalidNumber") (.cons (cA "OtherProgram") (.cons (cA "TooMany") (.cons (cA "TooFew") (Ke (cA "InvalidText") (cA "InvalidPage") (cA "InvalidCommand") (cA "DuplicateName") (cA "Full") (cA "InvalidLimit") (cA "UnknownName") (cA "NothingLeft"))))))))))))))))))))
def nU:Mir:=runD 0 jd
def fB:Fn:=⟨"_law_codes",[],nU⟩
@[simp] theorem N7:fB.M=nU:=id rfl
@[simp] theorem Ms:fB.ps=([]:List Str):=id rfl
def sW:List Str:=["_law_e"]
def bB:MSs:=(Qv (.ifs (.cmp cIn (.pr (pXf ["InvalidName","InvalidWords","InvalidOrders","InvalidModes","InvalidStarts","UnknownMode","UnknownOrder","InvalidSound","InvalidRoom","InvalidRecord","InvalidWish","InvalidNumber","OtherProgram","TooMany","TooFew","InvalidText","InvalidPage","InvalidCommand","DuplicateName","Full","InvalidLimit","UnknownName","NothingLeft"] "code") (aH aJ)) (.fr (.pr dY (yF (cA "InvalidWords") (cA "InvalidOrders") (cA "InvalidModes") (cA "InvalidStarts") (cA "InvalidCommand"))))) (d8 (.ret (.pr v5 (aH (.pr (pXf ["InvalidName","InvalidWords","InvalidOrders","InvalidModes","InvalidStarts","UnknownMode","UnknownOrder","InvalidSound","InvalidRoom","InvalidRecord","InvalidWish","InvalidNumber","OtherProgram","TooMany","TooFew","InvalidText","InvalidPage","InvalidCommand","DuplicateName","Full","InvalidLimit","UnknownName","NothingLeft"] "at") (aH aJ)))))) .nil) (.ifs (.cmp cIn (.pr (pXf ["InvalidName","InvalidWords","InvalidOrders","InvalidModes","InvalidStarts","UnknownMode","UnknownOrder","InvalidSound","InvalidRoom","InvalidRecord","InvalidWish","InvalidNumber","OtherProgram","TooMany","TooFew","InvalidText","InvalidPage","InvalidCommand","DuplicateName","Full","InvalidLimit","UnknownName","NothingLeft"] "code") (aH aJ)) (.fr (.pr dY (bO (cA "OtherProgram") (cA "NothingLeft"))))) (d8 (.ret (.pr v5 .nil))) .nil) (.ifs (.cmp cIn (.pr (pXf ["InvalidName","InvalidWords","InvalidOrders","InvalidModes","InvalidStarts","UnknownMode","UnknownOrder","InvalidSound","InvalidRoom","InvalidRecord","InvalidWish","InvalidNumber","OtherProgram","TooMany","TooFew","InvalidText","InvalidPage","InvalidCommand","DuplicateName","Full","InvalidLimit","UnknownName","NothingLeft"] "code") (aH aJ)) (.fr (.pr dY (bO (cA "TooMany") (cA "TooFew"))))) (d8 (.ret (.ite (.cmp cEq (.pr (pXf ["InvalidName","InvalidWords","InvalidOrders","InvalidModes","InvalidStarts","UnknownMode","UnknownOrder","InvalidSound","InvalidRoom","InvalidRecord","InvalidWish","InvalidNumber","OtherProgram","TooMany","TooFew","InvalidText","InvalidPage","InvalidCommand","DuplicateName","Full","InvalidLimit","UnknownName","NothingLeft"] "code") (aH aJ)) (cA "TooMany")) (.pr v5 (aH (.pr (pXf ["InvalidName","InvalidWords","InvalidOrders","InvalidModes","InvalidStarts","UnknownMode","UnknownOrder","InvalidSound","InvalidRoom","InvalidRecord","InvalidWish","InvalidNumber","OtherProgram","TooMany","TooFew","InvalidText","InvalidPage","InvalidCommand","DuplicateName","Full","InvalidLimit","UnknownName","NothingLeft"] "most") (aH aJ)))) (.pr v5 (aH (.pr (pXf ["InvalidName","InvalidWords","InvalidOrders","InvalidModes","InvalidStarts","UnknownMode","UnknownOrder","InvalidSound","InvalidRoom","InvalidRecord","InvalidWish","InvalidNumber","OtherProgram","TooMany","TooFew","InvalidText","InvalidPage","InvalidCommand","DuplicateName","Full","InvalidLimit","UnknownName","NothingLeft"] "mode") (aH aJ))))))) .nil) (.ifs (.cmp cIn (.pr (pXf ["InvalidName","InvalidWords","InvalidOrders","InvalidModes","InvalidStarts","UnknownMode","UnknownOrder","InvalidSound","InvalidRoom","InvalidRecord","InvalidWish","InvalidNumber","OtherProgram","TooMany","TooFew","InvalidText","InvalidPage","InvalidCommand","DuplicateName","Full","InvalidLimit","UnknownName","NothingLeft"] "code") (aH aJ)) (.fr (.pr dY (bO (cA "InvalidText") (cA "InvalidPage"))))) (d8 (.ret (.pr v5 (aH (.pr (pXf ["InvalidName","InvalidWords","InvalidOrders","InvalidModes","InvalidStarts","UnknownMode","UnknownOrder","InvalidSound","InvalidRoom","InvalidRecord","InvalidWish","InvalidNumber","OtherProgram","TooMany","TooFew","InvalidText","InvalidPage","InvalidCommand","DuplicateName","Full","InvalidLimit","UnknownName","NothingLeft"] "line") (aH aJ)))))) .nil) (.ifs (.cmp cIn (.pr (pXf ["InvalidName","InvalidWords","InvalidOrders","InvalidModes","InvalidStarts","UnknownMode","UnknownOrder","InvalidSound","InvalidRoom","InvalidRecord","InvalidWish","InvalidNumber","OtherProgram","TooMany","TooFew","InvalidText","InvalidPage","InvalidCommand","DuplicateName","Full","InvalidLimit","UnknownName","NothingLeft"] "code") (aH aJ)) (.fr (.pr dY (bO (cA "DuplicateName") (cA "UnknownName"))))) (d8 (.ret (.pr v5 (aH (.pr (pXf ["InvalidName","InvalidWords","InvalidOrders","InvalidModes","InvalidStarts","UnknownMode","UnknownOrder","InvalidSound","InvalidRoom","InvalidRecord","InvalidWish","InvalidNumber","OtherProgram","TooMany","TooFew","InvalidText","InvalidPage","InvalidCommand","DuplicateName","Full","InvalidLimit","UnknownName","NothingLeft"] "name") (aH aJ)))))) .nil) (.ret (.ite (.cmp cEq (.pr (pXf ["InvalidName","InvalidWords","InvalidOrders","InvalidModes","InvalidStarts","UnknownMode","UnknownOrder","InvalidSound","InvalidRoom","InvalidRecord","InvalidWish","InvalidNumber","OtherProgram","TooMany","TooFew","InvalidText","InvalidPage","InvalidCommand","DuplicateName","Full","InvalidLimit","UnknownName","NothingLeft"] "code") (aH aJ)) (cA "Full")) (.pr v5 (aH (.pr (pXf ["InvalidName","InvalidWords","InvalidOrders","InvalidModes","InvalidStarts","UnknownMode","UnknownOrder","InvalidSound","InvalidRoom","InvalidRecord","InvalidWish","InvalidNumber","OtherProgram","TooMany","TooFew","InvalidText","InvalidPage","InvalidCommand","DuplicateName","Full","InvalidLimit","UnknownName","NothingLeft"] "limit") (aH aJ)))) (.pr v5 (aH (.pr (pXf ["InvalidName","InvalidWords","InvalidOrders","InvalidModes","InvalidStarts","UnknownMode","UnknownOrder","InvalidSound","InvalidRoom","InvalidRecord","InvalidWish","InvalidNumber","OtherProgram","TooMany","TooFew","InvalidText","InvalidPage","InvalidCommand","DuplicateName","Full","InvalidLimit","UnknownName","NothingLeft"] "given") (aH aJ)))))))
def bD:Mir:=runD 1 bB
def fJ:Fn:=⟨"_law_field",["_law_e"],bD⟩
@[simp] theorem MK:fJ.M=bD:=id rfl
@[simp] theorem M3:fJ.ps=(["_law_e"]:List Str):=id rfl
def mH:List Str:=["_law_e","_law_found"]
def fK:MSs:=(Th (.set 1 (.fr (.pr dY (il (.pr (fV "InvalidName" [("InvalidName",true),("InvalidWords",false),("InvalidOrders",false),("InvalidModes",false),("InvalidStarts",false),("UnknownMode",false),("UnknownOrder",false),("InvalidSound",false),("InvalidRoom",false),("InvalidRecord",false),("InvalidWish",false),("InvalidNumber",false),("OtherProgram",false),("TooMany",false),("TooFew",false),("InvalidText",false),("InvalidPage",false),("InvalidCommand",false),("DuplicateName",false),("Full",false),("InvalidLimit",false),("UnknownName",false),("NothingLeft",false)]) (aH aJ)) (.pr (fV "InvalidWords" [("InvalidName",false),("InvalidWords",true),("InvalidOrders",false),("InvalidModes",false),("InvalidStarts",false),("UnknownMode",false),("UnknownOrder",false),("InvalidSound",false),("InvalidRoom",false),("InvalidRecord",false),("InvalidWish",false),("InvalidNumber",false),("OtherProgram",false),("TooMany",false),("TooFew",false),("InvalidText",false),("InvalidPage",false),("InvalidCommand",false),("DuplicateName",false),("Full",false),("InvalidLimit",false),("UnknownName",false),("NothingLeft",false)]) (aH aJ)) (.pr (fV "InvalidOrders" [("InvalidName",false),("InvalidWords",false),("InvalidOrders",true),("InvalidModes",false),("InvalidStarts",false),("UnknownMode",false),("UnknownOrder",false),("InvalidSound",false),("InvalidRoom",false),("InvalidRecord",false),("InvalidWish",false),("InvalidNumber",false),("OtherProgram",false),("TooMany",false),("TooFew",false),("InvalidText",false),("InvalidPage",false),("InvalidCommand",false),("DuplicateName",false),("Full",false),("InvalidLimit",false),("UnknownName",false),("NothingLeft",false)]) (aH aJ)))))) (.set 1 (.pr (dR .add) (bO bK (.fr (.pr dY (il (.pr (fV "InvalidModes" [("InvalidName",false),("InvalidWords",false),("InvalidOrders",false),("InvalidModes",true),("InvalidStarts",false),("UnknownMode",false),("UnknownOrder",false),("InvalidSound",false),("InvalidRoom",false),("InvalidRecord",false),("InvalidWish",false),("InvalidNumber",false),("OtherProgram",false),("TooMany",false),("TooFew",false),("InvalidText",false),("InvalidPage",false),("InvalidCommand",false),("DuplicateName",false),("Full",false),("InvalidLimit",false),("UnknownName",false),("NothingLeft",false)]) (aH aJ)) (.pr (fV "InvalidStarts" [("InvalidName",false),("InvalidWords",false),("InvalidOrders",false),("InvalidModes",false),("InvalidStarts",true),("UnknownMode",false),("UnknownOrder",false),("InvalidSound",false),("InvalidRoom",false),("InvalidRecord",false),("InvalidWish",false),("InvalidNumber",false),("OtherProgram",false),("TooMany",false),("TooFew",false),("InvalidText",false),("InvalidPage",false),("InvalidCommand",false),("DuplicateName",false),("Full",false),("InvalidLimit",false),("UnknownName",false),("NothingLeft",false)]) (aH aJ)) (.pr (fV "UnknownMode" [("InvalidName",false),("InvalidWords",false),("InvalidOrders",false),("InvalidModes",false),("InvalidStarts",false),("UnknownMode",true),("UnknownOrder",false),("InvalidSound",false),("InvalidRoom",false),("InvalidRecord",false),("InvalidWish",false),("InvalidNumber",false),("OtherProgram",false),("TooMany",false),("TooFew",false),("InvalidText",false),("InvalidPage",false),("InvalidCommand",false),("DuplicateName",false),("Full",false),("InvalidLimit",false),("UnknownName",false),("NothingLeft",false)]) (aH aJ)))))))) (.set 1 (.pr (dR .add) (bO bK (.fr (.pr dY (il (.pr (fV "UnknownOrder" [("InvalidName",false),("InvalidWords",false),("InvalidOrders",false),("InvalidModes",false),("InvalidStarts",false),("UnknownMode",false),("UnknownOrder",true),("InvalidSound",false),("InvalidRoom",false),("InvalidRecord",false),("InvalidWish",false),("InvalidNumber",false),("OtherProgram",false),("TooMany",false),("TooFew",false),("InvalidText",false),("InvalidPage",false),("InvalidCommand",false),("DuplicateName",false),("Full",false),("InvalidLimit",false),("UnknownName",false),("NothingLeft",false)]) (aH aJ)) (.pr (fV "InvalidSound" [("InvalidName",false),("InvalidWords",false),("InvalidOrders",false),("InvalidModes",false),("InvalidStarts",false),("UnknownMode",false),("UnknownOrder",false),("InvalidSound",true),("InvalidRoom",false),("InvalidRecord",false),("InvalidWish",false),("InvalidNumber",false),("OtherProgram",false),("TooMany",false),("TooFew",false),("InvalidText",false),("InvalidPage",false),("InvalidCommand",false),("DuplicateName",false),("Full",false),("InvalidLimit",false),("UnknownName",false),("NothingLeft",false)]) (aH aJ)) (.pr (fV "InvalidRoom" [("InvalidName",false),("InvalidWords",false),("InvalidOrders",false),("InvalidModes",false),("InvalidStarts",false),("UnknownMode",false),("UnknownOrder",false),("InvalidSound",false),("InvalidRoom",true),("InvalidRecord",false),("InvalidWish",false),("InvalidNumber",false),("OtherProgram",false),("TooMany",false),("TooFew",false),("InvalidText",false),("InvalidPage",false),("InvalidCommand",false),("DuplicateName",false),("Full",false),("InvalidLimit",false),("UnknownName",false),("NothingLeft",false)]) (aH aJ)))))))) (.set 1 (.pr (dR .add) (bO bK (.fr (.pr dY (il (.pr (fV "InvalidRecord" [("InvalidName",false),("InvalidWords",false),("InvalidOrders",false),("InvalidModes",false),("InvalidStarts",false),("UnknownMode",false),("UnknownOrder",false),("InvalidSound",false),("InvalidRoom",false),("InvalidRecord",true),("InvalidWish",false),("InvalidNumber",false),("OtherProgram",false),("TooMany",false),("TooFew",false),("InvalidText",false),("InvalidPage",false),("InvalidCommand",false),("DuplicateName",false),("Full",false),("InvalidLimit",false),("UnknownName",false),("NothingLeft",false)]) (aH aJ)) (.pr (fV "InvalidWish" [("InvalidName",false),("InvalidWords",false),("InvalidOrders",false),("InvalidModes",false),("InvalidStarts",false),("UnknownMode",false),("UnknownOrder",false),("InvalidSound",false),("InvalidRoom",false),("InvalidRecord",false),("InvalidWish",true),("InvalidNumber",false),("OtherProgram",false),("TooMany",false),("TooFew",false),("InvalidText",false),("InvalidPage",false),("InvalidCommand",false),("DuplicateName",false),("Full",false),("InvalidLimit",false),("UnknownName",false),("NothingLeft",false)]) (aH aJ)) (.pr (fV "InvalidNumber" [("InvalidName",false),("InvalidWords",false),("InvalidOrders",false),("InvalidModes",false),("InvalidStarts",false),("UnknownMode",false),("UnknownOrder",false),("InvalidSound",false),("InvalidRoom",false),("InvalidRecord",false),("InvalidWish",false),("InvalidNumber",true),("OtherProgram",false),("TooMany",false),("TooFew",false),("InvalidText",false),("InvalidPage",false),("InvalidCommand",false),("DuplicateName",false),("Full",false),("InvalidLimit",false),("UnknownName",false),("NothingLeft",false)]) (aH aJ)))))))) (.set 1 (.pr (dR .add) (bO bK (.fr (.pr dY (il (.pr (fV "OtherProgram" [("InvalidName",false),("InvalidWords",false),("InvalidOrders",false),("InvalidModes",false),("InvalidStarts",false),("UnknownMode",false),("UnknownOrder",false),("InvalidSound",false),("InvalidRoom",false),("InvalidRecord",false),("InvalidWish",false),("InvalidNumber",false),("OtherProgram",true),("TooMany",false),("TooFew",false),("InvalidText",false),("InvalidPage",false),("InvalidCommand",false),("DuplicateName",false),("Full",false),("InvalidLimit",false),("UnknownName",false),("NothingLeft",false)]) (aH aJ)) (.pr (fV "TooMany" [("InvalidName",false),("InvalidWords",false),("InvalidOrders",false),("InvalidModes",false),("InvalidStarts",false),("UnknownMode",false),("UnknownOrder",false),("InvalidSound",false),("InvalidRoom",false),("InvalidRecord",false),("InvalidWish",false),("InvalidNumber",false),("OtherProgram",false),("TooMany",true),("TooFew",false),("InvalidText",false),("InvalidPage",false),("InvalidCommand",false),("DuplicateName",false),("Full",false),("InvalidLimit",false),("UnknownName",false),("NothingLeft",false)]) (aH aJ)) (.pr (fV "TooFew" [("InvalidName",false),("InvalidWords",false),("InvalidOrders",false),("InvalidModes",false),("InvalidStarts",false),("UnknownMode",false),("UnknownOrder",false),("InvalidSound",false),("InvalidRoom",false),("InvalidRecord",false),("InvalidWish",false),("InvalidNumber",false),("OtherProgram",false),("TooMany",false),("TooFew",true),("InvalidText",false),("InvalidPage",false),("InvalidCommand",false),("DuplicateName",false),("Full",false),("InvalidLimit",false),("UnknownName",false),("NothingLeft",false)]) (aH aJ)))))))) (.set 1 (.pr (dR .add) (bO bK (.fr (.pr dY (il (.pr (fV "InvalidText" [("InvalidName",false),("InvalidWords",false),("InvalidOrders",false),("InvalidModes",false),("InvalidStarts",false),("UnknownMode",false),("UnknownOrder",false),("InvalidSound",false),("InvalidRoom",false),("InvalidRecord",false),("InvalidWish",false),("InvalidNumber",false),("OtherProgram",false),("TooMany",false),("TooFew",false),("InvalidText",true),("InvalidPage",false),("InvalidCommand",false),("DuplicateName",false),("Full",false),("InvalidLimit",false),("UnknownName",false),("NothingLeft",false)]) (aH aJ)) (.pr (fV "InvalidPage" [("InvalidName",false),("InvalidWords",false),("InvalidOrders",false),("InvalidModes",false),("InvalidStarts",false),("UnknownMode",false),("UnknownOrder",false),("InvalidSound",false),("InvalidRoom",false),("InvalidRecord",false),("InvalidWish",false),("InvalidNumber",false),("OtherProgram",false),("TooMany",false),("TooFew",false),("InvalidText",false),("InvalidPage",true),("InvalidCommand",false),("DuplicateName",false),("Full",false),("InvalidLimit",false),("UnknownName",false),("NothingLeft",false)]) (aH aJ)) (.pr (fV "InvalidCommand" [("InvalidName",false),("InvalidWords",false),("InvalidOrders",false),("InvalidModes",false),("InvalidStarts",false),("UnknownMode",false),("UnknownOrder",false),("InvalidSound",false),("InvalidRoom",false),("InvalidRecord",false),("InvalidWish",false),("InvalidNumber",false),("OtherProgram",false),("TooMany",false),("TooFew",false),("InvalidText",false),("InvalidPage",false),("InvalidCommand",true),("DuplicateName",false),("Full",false),("InvalidLimit",false),("UnknownName",false),("NothingLeft",false)]) (aH aJ)))))))) (.set 1 (.pr (dR .add) (bO bK (.fr (.pr dY (il (.pr (fV "DuplicateName" [("InvalidName",false),("InvalidWords",false),("InvalidOrders",false),("InvalidModes",false),("InvalidStarts",false),("UnknownMode",false),("UnknownOrder",false),("InvalidSound",false),("InvalidRoom",false),("InvalidRecord",false),("InvalidWish",false),("InvalidNumber",false),("OtherProgram",false),("TooMany",false),("TooFew",false),("InvalidText",false),("InvalidPage",false),("InvalidCommand",false),("DuplicateName",true),("Full",false),("InvalidLimit",false),("UnknownName",false),("NothingLeft",false)]) (aH aJ)) (.pr (fV "Full" [("InvalidName",false),("InvalidWords",false),("InvalidOrders",false),("InvalidModes",false),("InvalidStarts",false),("UnknownMode",false),("UnknownOrder",false),("InvalidSound",false),("InvalidRoom",false),("InvalidRecord",false),("InvalidWish",false),("InvalidNumber",false),("OtherProgram",false),("TooMany",false),("TooFew",false),("InvalidText",false),("InvalidPage",false),("InvalidCommand",false),("DuplicateName",false),("Full",true),("InvalidLimit",false),("UnknownName",false),("NothingLeft",false)]) (aH aJ)) (.pr (fV "InvalidLimit" [("InvalidName",false),("InvalidWords",false),("InvalidOrders",false),("InvalidModes",false),("InvalidStarts",false),("UnknownMode",false),("UnknownOrder",false),("InvalidSound",false),("InvalidRoom",false),("InvalidRecord",false),("InvalidWish",false),("InvalidNumber",false),("OtherProgram",false),("TooMany",false),("TooFew",false),("InvalidText",false),("InvalidPage",false),("InvalidCommand",false),("DuplicateName",false),("Full",false),("InvalidLimit",true),("UnknownName",false),("NothingLeft",false)]) (aH aJ)))))))) (.ret (.pr (dR .add) (bO bK (.fr (.pr dY (bO (.pr (fV "UnknownName" [("InvalidName",false),("InvalidWords",false),("InvalidOrders",false),("InvalidModes",false),("InvalidStarts",false),("UnknownMode",false),("UnknownOrder",false),("InvalidSound",false),("InvalidRoom",false),("InvalidRecord",false),("InvalidWish",false),("InvalidNumber",false),("OtherProgram",false),("TooMany",false),("TooFew",false),("InvalidText",false),("InvalidPage",false),("InvalidCommand",false),("DuplicateName",false),("Full",false),("InvalidLimit",false),("UnknownName",true),("NothingLeft",false)]) (aH aJ)) (.pr (fV "NothingLeft" [("InvalidName",false),("InvalidWords",false),("InvalidOrders",false),("InvalidModes",false),("InvalidStarts",false),("UnknownMode",false),("UnknownOrder",false),("InvalidSound",false),("InvalidRoom",false),("InvalidRecord",false),("InvalidWish",false),("InvalidNumber",false),("OtherProgram",false),("TooMany",false),("TooFew",false),("InvalidText",false),("InvalidPage",false),("InvalidCommand",false),("DuplicateName",false),("Full",false),("InvalidLimit",false),("UnknownName",false),("NothingLeft",true)]) (aH aJ)))))))))
def ir:Mir:=runD 2 fK
def dF:Fn:=⟨"_law_kinds_of",["_law_e"],ir⟩
@[simp] theorem Jg:dF.M=ir:=id rfl
@[simp] theorem Gj:dF.ps=(["_law_e"]:List Str):=id rfl
def VJ:List Str:=["_law_script","_law_bag","_law_turn","_law_named","_law_more","_law_odd_here","_law_k","_law_errors_z","_law_codes_here","_law_e","_law_due","_law_bases","_law_late","_law_j"]
def Le:MSs:=(Tz (.set 1 (.pr (Hf fZ) (aH aJ))) (.loop (.name 2) (.pr nH (aH (bz 3))) (KQ (.set 5 (.pr (gH iI) (bO bK (.fr (.pr dY (il (.pr v5 (bO (.pr Mu .nil) (bz 2))) (cA "pip") (.pr (dR .pow) (bO (bz 10) (bz 17))))))))) (.par 7 8 (.pr (gH eE) (aH Ak)) (.pr (gH fB) .nil)) (.loop (.name 6) (.pr nH (aH (bz 23))) (Th (.set 9 (jn Wg qb)) (.set 10 (.ite (.cmp cIn qb (.fr (.pr dY (bO (bz 12) (bz 22))))) (.pr v5 .nil) (.pr v5 (aH Ak)))) (.ifs (.not (.val (.pr (gH (cO 5)) (bO (.fr (.pr dY (bO (.pr (pXf ["InvalidName","InvalidWords","InvalidOrders","InvalidModes","InvalidStarts","UnknownMode","UnknownOrder","InvalidSound","InvalidRoom","InvalidRecord","InvalidWish","InvalidNumber","OtherProgram","TooMany","TooFew","InvalidText","InvalidPage","InvalidCommand","DuplicateName","Full","InvalidLimit","UnknownName","NothingLeft"] "code") (aH qp)) (.pr (gH fJ) (aH qp))))) (.fr (.pr dY (bO (jn U6 qb) Rk))))))) (d8 (.ret (vH false))) .nil) (.ifs (.cmp cNe (.pr (gH dF) (aH qp)) (.fr (.comp [13] (.name 13) (.pr nH (aH (bz 23))) .nil (.cmp cEq O6 qb)))) (d8 (.ret (vH false))) .nil) (.set 11 (.fr (.pr dY (il (.pr (fV "RoomError" [("InvalidName",true),("InvalidWords",true),("InvalidOrders",true),("InvalidModes",true),("InvalidStarts",true),("UnknownMode",true),("UnknownOrder",true),("InvalidSound",true),("InvalidRoom",true),("InvalidRecord",true),("InvalidWish",true),("InvalidNumber",true),("OtherProgram",true),("TooMany",true),("TooFew",true),("InvalidText",true),("InvalidPage",true),("InvalidCommand",true),("DuplicateName",true),("Full",true),("InvalidLimit",true),("UnknownName",false),("NothingLeft",false)]) (aH qp)) (.pr (Pr "ValueError" [("InvalidName",true),("InvalidWords",true),("InvalidOrders",true),("InvalidModes",true),("InvalidStarts",true),("UnknownMode",true),("UnknownOrder",true),("InvalidSound",true),("InvalidRoom",true),("InvalidRecord",true),("InvalidWish",true),("InvalidNumber",true),("OtherProgram",true),("TooMany",true),("TooFew",true),("InvalidText",true),("InvalidPage",true),("InvalidCommand",true),("DuplicateName",true),("Full",true),("InvalidLimit",true),("UnknownName",false),("NothingLeft",false)]) (aH qp)) (.pr (fV "Missing" [("InvalidName",false),("InvalidWords",false),("InvalidOrders",false),("InvalidModes",false),("InvalidStarts",false),("UnknownMode",false),("UnknownOrder",false),("InvalidSound",false),("InvalidRoom",false),("InvalidRecord",false),("InvalidWish",false),("InvalidNumber",false),("OtherProgram",false),("TooMany",false),("TooFew",false),("InvalidText",false),("InvalidPage",false),("InvalidCommand",false),("DuplicateName",false),("Full",false),("InvalidLimit",false),("UnknownName",true),("NothingLeft",false)]) (aH qp)))))) (.set 11 (.pr (dR .add) (bO GX (.fr (.pr dY (bO (.pr (Pr "LookupError" [("InvalidName",false),("InvalidWords",false),("InvalidOrders",false),("InvalidModes",false),("InvalidStarts",false),("UnknownMode",false),("UnknownOrder",false),("InvalidSound",false),("InvalidRoom",false),("InvalidRecord",false),("InvalidWish",false),("InvalidNumber",false),("OtherProgram",false),("TooMany",false),("TooFew",false),("InvalidText",false),("InvalidPage",false),("InvalidCommand",false),("DuplicateName",false),("Full",false),("InvalidLimit",false),("UnknownName",true),("NothingLeft",true)]) (aH qp)) (.pr (Pr "IndexError" [("InvalidName",false),("InvalidWords",false),("InvalidOrders",false),("InvalidModes",false),("InvalidStarts",false),("UnknownMode",false),("UnknownOrder",false),("InvalidSound",false),("InvalidRoom",false),("InvalidRecord",false),("InvalidWish",false),("InvalidNumber",false),("OtherProgram",false),("TooMany",false),("TooFew",false),("InvalidText",false),("InvalidPage",false),("InvalidCommand",false),("DuplicateName",false),("Full",false),("InvalidLimit",false),("UnknownName",false),("NothingLeft",true)]) (aH qp)))))))) (.set 12 (.fr (.pr dY (yF (vH false) (vH false) (.cmp cEq qb (bz 21)) (vH true) (.cmp cEq qb (bz 22)))))) (.ifs (.cmp cNe GX (.ite (.cmp cLt qb (bz 21)) (.fr (.pr dY (yF (vH true) (vH true) (vH false) (vH false) (vH false)))) Og)) (d8 (.ret (vH false))) .nil))))) (.set 3 (.fr (.pr dY (Uj (.pr (pXf ["InvalidName"] "given") (aH (.pr (di bVE "InvalidName" "given" "given" "InvalidName") (aH (bz 2))))) (.pr (pXf ["InvalidWords"] "at") (aH (.pr (di bVE "InvalidWords" "at" "at" "InvalidWords") (aH (bz 3))))) (.pr (pXf ["TooMany"] "most") (aH (.pr (di bVE "TooMany" "most" "most" "TooMany") (aH (bz 4))))) (.pr (pXf ["TooFew"] "mode") (aH (.pr (di bVE "TooFew" "mode" "mode" "TooFew") (aH (cA "a"))))))))) (.set 3 (.pr (dR .add) (bO sV (.fr (.pr dY (il (.pr (pXf ["InvalidPage"] "line") (aH (.pr (di bVE "InvalidPage" "line" "line" "InvalidPage") (aH (bz 5))))) (.pr (pXf ["DuplicateName"] "name") (aH (.pr (di bVE "DuplicateName" "name" "name" "DuplicateName") (aH (cA "b"))))) (.pr (pXf ["Full"] "limit") (aH (.pr (di bVE "Full" "limit" "limit" "Full") (aH (bz 6))))))))))) (.ifs (.not (.val (.pr (gH (cO 5)) (bO (.pr (dR .add) (bO sV (.fr (.pr dY (aH (.pr (pXf ["UnknownName"] "name") (aH (.pr (di bLE "UnknownName" "name" "name" "UnknownName") (aH (cA "c")))))))))) (.fr (.pr dY (Ke (bz 2) (bz 3) (bz 4) (cA "a") (bz 5) (cA "b") (bz 6) (cA "c")))))))) (d8 (.ret (vH false))) .nil) (.set 4 (.fr (.pr dY (Uj (.pr (pXf ["InvalidOrders"] "at") (aH (.pr (di bVE "InvalidOrders" "at" "at" "InvalidOrders") (aH (bz 1))))) (.pr (pXf ["InvalidModes"] "at") (aH (.pr (di bVE "InvalidModes" "at" "at" "InvalidModes") (aH (bz 2))))) (.pr (pXf ["InvalidStarts"] "at") (aH (.pr (di bVE "InvalidStarts" "at" "at" "InvalidStarts") (aH (bz 3))))) (.pr (pXf ["UnknownMode"] "given") (aH (.pr (di bVE "UnknownMode" "given" "given" "UnknownMode") (aH (bz 4))))))))) (.set 4 (.pr (dR .add) (bO oJ (.fr (.pr dY (il (.pr (pXf ["UnknownOrder"] "given") (aH (.pr (di bVE "UnknownOrder" "given" "given" "UnknownOrder") (aH (bz 5))))) (.pr (pXf ["InvalidSound"] "given") (aH (.pr (di bVE "InvalidSound" "given" "given" "InvalidSound") (aH (bz 6))))) (.pr (pXf ["InvalidRoom"] "given") (aH (.pr (di bVE "InvalidRoom" "given" "given" "InvalidRoom") (aH (bz 7))))))))))) (.set 4 (.pr (dR .add) (bO oJ (.fr (.pr dY (il (.pr (pXf ["InvalidRecord"] "given") (aH (.pr (di bVE "InvalidRecord" "given" "given" "InvalidRecord") (aH (bz 8))))) (.pr (pXf ["InvalidWish"] "given") (aH (.pr (di bVE "InvalidWish" "given" "given" "InvalidWish") (aH (bz 9))))) (.pr (pXf ["InvalidNumber"] "given") (aH (.pr (di bVE "InvalidNumber" "given" "given" "InvalidNumber") (aH (bz 10))))))))))) (.set 4 (.pr (dR .add) (bO oJ (.fr (.pr dY (il (.pr (pXf ["InvalidText"] "line") (aH (.pr (di bVE "InvalidText" "line" "line" "InvalidText") (aH (bz 11))))) (.pr (pXf ["InvalidCommand"] "at") (aH (.pr (di bVE "InvalidCommand" "at" "at" "InvalidCommand") (aH (bz 12))))) (.pr (pXf ["InvalidLimit"] "given") (aH (.pr (di bVE "InvalidLimit" "given" "given" "InvalidLimit") (aH (bz 13))))))))))) (.ifs (.not (.val (.pr (gH (cO 5)) (bO oJ (.fr (.pr dY (.cons (bz 1) (.cons (bz 2) (.cons (bz 3) (.cons (bz 4) (.cons (bz 5) (Ke (bz 6) (bz 7) (bz 8) (bz 9) (bz 10) (bz 11) (bz 12) (bz 13))))))))))))) (d8 (.ret (vH false))) .nil) (.ret (.andV (.pr (Wf bVE "RoomError" "ValueError" true) (aH (cA "x"))) (.pr (Wf bLE "Missing" "LookupError" true) (aH (cA "x"))))))
def M_law:Mir:=runD 14 Le
def QF:Fn:=⟨"law",["_law_script"],M_law⟩
@[simp] theorem acV:QF.M=M_law:=id rfl
@[simp] theorem abp:QF.ps=(["_law_script"]:List Str):=id rfl
end K01
namespace Rc
open PySem PySem.Spec L2
open PyProof.Rows hiding St
def W(r:SR)(Q:SR->Prop):Prop:=Q r
def WR{α:Type}(r:R α)(Q:α->Mem->Prop):Prop:=∃a m,r=.ok a m/\Q a m
def Nx(I:Sl->Mem->Prop)(r:SR):Prop:=∃s m,r=.nx s m/\I s m
def Tru(r:SR):Prop:=∃m,El r=.ok (.bl true) m
def Is(x:FR)(r:SR):Prop:=El r=x
def Ret(Q:MV->Mem->Prop)(r:SR):Prop:=∃x m,El r=.ok x m/\Q x m
def ZP(Q:MO->Mem->Prop)(r:SR):Prop:=∃x m,El r=.new x m/\Q x m
section
variable{α β γ:Type}
@[simp] theorem adM(r:R α)(k1:α->Mem->R β)(k2:β->Mem->R γ)(t1:Tg k1)(t2:Tg k2):(r.bd k1 t1).bd k2 t2=r.bd (λa m=>(k1 a m).bd k2):=by cases r <;> rfl
@[simp] theorem ac5(r:R α)(k1:α->Mem->R β)(s:Sl)(k2:β->Mem->SR)(t1:Tg k1)(t2:Tg k2):(r.bd k1 t1).ts s k2 t2=r.ts s (λa m=>(k1 a m).ts s k2):=by cases r <;> rfl
@[simp] theorem aea(r:R α)(s:Sl)(k1:α->Mem->SR)(k2:Sl->Mem->SR)(t1:Tg k1)(t2:Tg k2):(r.ts s k1 t1).sq k2 t2=r.ts s (λa m=>(k1 a m).sq k2):=by cases r <;> rfl
@[simp] theorem ael(r:SR)(k1 k2:Sl->Mem->SR)(t1:Tg k1)(t2:Tg k2):(r.sq k1 t1).sq k2 t2=r.sq (λs m=>(k1 s m).sq k2):=by cases r <;> rfl
@[simp] theorem ae6(s:Sl)(m:Mem)(I:Sl->Mem->Prop):W (.nx s m) (Nx I)↔I s m:=⟨λ⟨_,_,e,h⟩=>by cases e;exact h,λh=>⟨s,m,rfl,h⟩⟩
@[simp] theorem adD(m:Mem):W (.rt (.ok (.bl true) m)) Tru:=⟨m,rfl⟩
@[simp] theorem afk(v:MV)(m:Mem)(x:FR):W (.rt (.ok v m)) (Is x)↔FR.ok v m=x:=Iff.rfl
@[simp] theorem Z8(v:MO)(m:Mem)(x:FR):W (.rt (.new v m)) (Is x)↔FR.new v m=x:=Iff.rfl
@[simp] theorem ac4(s:Sl)(m:Mem)(x:FR):W (.nx s m) (Is x)↔FR.ok .non m=x:=Iff.rfl
@[simp] theorem aeU(s:Sl)(m:Mem)(x:FR)(c:Str)(ks:List Str)(xs:List MV):W (.ex c ks xs s m) (Is x)↔FR.exc c ks xs m=x:=Iff.rfl
@[simp] theorem ad5(x:MV)(m:Mem)(Q:MV->Mem->Prop):W (.rt (.ok x m)) (Ret Q)↔Q x m:=⟨λ⟨_,_,e,h⟩=>by cases e;exact h,λh=>⟨x,m,rfl,h⟩⟩
@[simp] theorem abz(x:MO)(m:Mem)(Q:MO->Mem->Prop):W (.rt (.new x m)) (ZP Q)↔Q x m:=⟨λ⟨_,_,e,h⟩=>by cases e;exact h,λh=>⟨x,m,rfl,h⟩⟩
@[simp] theorem aes(a:α)(m:Mem)(Q:α->Mem->Prop):WR (.ok a m) Q↔Q a m:=⟨λ⟨_,_,e,h⟩=>by cases e;exact h,λh=>⟨a,m,rfl,h⟩⟩
theorem W.ite{c:Prop}[Decidable c]{a b:SR}{Q:SR->Prop}(h1:c->W a Q)(h2:¬c->W b Q):W (if c then a else b) Q:=by
 split
 ·exact h1 (by assumption)
 ·exact h2 (by assumption)
theorem WR.ite{c:Prop}[Decidable c]{a b:R α}{Q:α->Mem->Prop}(h1:c->WR a Q)(h2:¬c->WR b Q):WR (if c then a else b) Q:=by
 split
 ·exact h1 (by assumption)
 ·exact h2 (by assumption)
theorem W.mono{r:SR}{Q Q':SR->Prop}(h:W r Q)(w:∀r,Q r->Q' r):W r Q':=w _ h
theorem W.for{f:MV->Sl->Mem->SR}{xs:List MV}{s:Sl}{m:Mem}{k:Sl->Mem->SR}{t:Tg k}{Q:SR->Prop}(I:Sl->Mem->Prop)(h0:I s m)(h:∀x∈xs,∀s m,I s m->W (f x s m) (Nx I))(h2:∀s m,I s m->W (k s m) Q):W ((oR f [] xs s m).sq k t) Q:=by
 obtain⟨s',m',e,hI⟩:=BX I h h0
 rw[e]
 exact h2 s' m' hI
theorem W.aeD{f:MV->Sl->Mem->SR}{xs:List MV}{s:Sl}{m:Mem}{k:Sl->Mem->SR}{t:Tg k}{Q:SR->Prop}(I:Nat->Sl->Mem->Prop)(h0:I 0 s m)(h:∀i x,xs[i]? = some x->∀s m,I i s m->W (f x s m) (Nx (I (i+1))))(h2:∀s m,I xs.length s m->W (k s m) Q):W ((oR f [] xs s m).sq k t) Q:=by
 obtain⟨s',m',e,hI⟩:=Gu I (xs:=xs) 0 (λi x hx s m hI=>by rw[Nat.zero_add] at hI ⊢;exact h i x hx s m hI) h0
 rw[Nat.zero_add] at hI
 rw[e]
 exact h2 s' m' hI
theorem W.aew{f:MV->Mem->R (Option MV)}{xs acc:List MV}{m:Mem}{s:Sl}{k:List MV->Mem->SR}{t:Tg k}{Q:SR->Prop}(h:MV->Option MV)(hf:∀x∈xs,f x m=.ok (h x) m)(hl:acc.length+xs.length<=sizeLine)(h2:W (k (acc++xs.filterMap h) m) Q):W ((cD f [] xs acc m).ts s k t) Q:=by
 rw[fL hf hl];exact h2
theorem WR.aew{f:MV->Mem->R (Option MV)}{xs acc:List MV}{m:Mem}{k:List MV->Mem->R β}{t:Tg k}{Q:β->Mem->Prop}(h:MV->Option MV)(hf:∀x∈xs,f x m=.ok (h x) m)(hl:acc.length+xs.length<=sizeLine)(h2:WR (k (acc++xs.filterMap h) m) Q):WR ((cD f [] xs acc m).bd k t) Q:=by
 rw[fL hf hl];exact h2
theorem W.map{f:MV->Mem->R (Option MV)}{xs acc:List MV}{m:Mem}{s:Sl}{k:List MV->Mem->SR}{t:Tg k}{Q:SR->Prop}(h:MV->MV)(hf:∀x∈xs,f x m=.ok (some (h x)) m)(hl:acc.length+xs.length<=sizeLine)(h2:W (k (acc++xs.map h) m) Q):W ((cD f [] xs acc m).ts s k t) Q:=by
 rw[ou hf hl];exact h2
theorem WR.map{f:MV->Mem->R (Option MV)}{xs acc:List MV}{m:Mem}{k:List MV->Mem->R β}{t:Tg k}{Q:β->Mem->Prop}(h:MV->MV)(hf:∀x∈xs,f x m=.ok (some (h x)) m)(hl:acc.length+xs.length<=sizeLine)(h2:WR (k (acc++xs.map h) m) Q):WR ((cD f [] xs acc m).bd k t) Q:=by
 rw[ou hf hl];exact h2
theorem pJ{f:MV->Mem->R (Option MV)}(J:Mem->Prop)(P:Nat->MV->Prop):∀{xs acc:List MV}{m:Mem} (n:Nat),(∀i x,xs[i]? = some x->∀m,J m->WR (f x m) λo m'=>J m'/\∃y,o=some y/\P (n+i) y)->J m->acc.length+xs.length<=sizeLine ->
  ∃ys m',cD f [] xs acc m=.ok (acc++ys) m'/\J m'/\ys.length=xs.length/\∀i y,ys[i]? = some y->P (n+i) y
 | [],acc,m,n,_,hm,_=>⟨[],m,by unfold cD;rw[if_pos (d7 m)];simp,hm,rfl,λi y h=>by simp at h⟩
 | x::xs,acc,m,n,hf,hm,hl=>by
  obtain⟨o,m1,e,h1,y,rfl,h2⟩:=hf 0 x rfl m hm
  rw[qQn] at hl
  obtain⟨ys,m2,e2,h3,h4,h5⟩:=pJ J P (xs:=xs) (acc:=acc++[y]) (n+1) (λi z hz m q=>by
   have:=hf (i+1) z (by simpa using hz) m q
   rw[show n+(i+1)=n+1+i from by omega] at this
   exact this) h1 (by simp;omega)
  refine⟨y::ys,m2,?_,h3,by simp[h4],λi z hz=>?_⟩
  ·rw[fG,if_pos (d7 m),e]
   show (if acc.length<sizeLine then cD f [] xs (acc++[y]) m1 else .stuck)=_
   rw[if_pos (by omega),e2]
   simp
  ·cases i with
   | zero=>simp at hz;subst hz;exact h2
   | succ i =>
    have:=h5 i z (by simpa using hz)
    rw[show n+(i+1)=n+1+i from by omega]
    exact this
theorem W.drawn{f:MV->Mem->R (Option MV)}{xs acc:List MV}{m:Mem}{s:Sl}{k:List MV->Mem->SR}{t:Tg k}{Q:SR->Prop}(J:Mem->Prop)(P:Nat->MV->Prop)(h0:J m)(hl:acc.length+xs.length<=sizeLine)(hf:∀i x,xs[i]? = some x->∀m,J m->WR (f x m) λo m'=>J m'/\∃y,o=some y/\P i y)(h2:∀ys m',J m'->ys.length=xs.length->(∀i y,ys[i]? = some y->P i y)->W (k (acc++ys) m') Q):W ((cD f [] xs acc m).ts s k t) Q:=by
 obtain⟨ys,m',e,h3,h4,h5⟩:=pJ J P 0 (λi x hx m q=>by rw[Nat.zero_add];exact hf i x hx m q) h0 hl
 rw[e]
 exact h2 ys m' h3 h4 λi y hy=>by have:=h5 i y hy;rw[Nat.zero_add] at this;exact this
theorem WR.drawn{f:MV->Mem->R (Option MV)}{xs acc:List MV}{m:Mem}{k:List MV->Mem->R β}{t:Tg k}{Q:β->Mem->Prop}(J:Mem->Prop)(P:Nat->MV->Prop)(h0:J m)(hl:acc.length+xs.length<=sizeLine)(hf:∀i x,xs[i]? = some x->∀m,J m->WR (f x m) λo m'=>J m'/\∃y,o=some y/\P i y)(h2:∀ys m',J m'->ys.length=xs.length->(∀i y,ys[i]? = some y->P i y)->WR (k (acc++ys) m') Q):WR ((cD f [] xs acc m).bd k t) Q:=by
 obtain⟨ys,m',e,h3,h4,h5⟩:=pJ J P 0 (λi x hx m q=>by rw[Nat.zero_add];exact hf i x hx m q) h0 hl
 rw[e]
 exact h2 ys m' h3 h4 λi y hy=>by have:=h5 i y hy;rw[Nat.zero_add] at this;exact this
end
theorem Is.of{n:Nat}{B:MSs}{as:List MV}{m:Mem}{x:FR}(h:W (exs B (as.map (λx=>some (SV.v x))++List.replicate (n - as.length) none) m) (Is x)):runD n B as m=x:=h
theorem Ret.of{n:Nat}{B:MSs}{as:List MV}{m:Mem}{Q:MV->Mem->Prop}(h:W (exs B (as.map (λx=>some (SV.v x))++List.replicate (n - as.length) none) m) (Ret Q)):∃x m',runD n B as m=.ok x m'/\Q x m':=h
theorem ZP.of{n:Nat}{B:MSs}{as:List MV}{m:Mem}{Q:MO->Mem->Prop}(h:W (exs B (as.map (λx=>some (SV.v x))++List.replicate (n - as.length) none) m) (ZP Q)):∃x m',runD n B as m=.new x m'/\Q x m':=h
theorem Tru.of{n:Nat}{B:MSs}{as:List MV}{m:Mem}(h:W (exs B (as.map (λx=>some (SV.v x))++List.replicate (n - as.length) none) m) Tru):∃m',runD n B as m=.ok (.bl true) m':=h
end Rc
namespace K01
open PySem PySem.Spec L2 Rc Rp
open PyProof.Rows hiding St signs
@[simp] theorem ado(b:du)(x g f c:Str)(v:MV)(m:Mem):(tW b x g f c).F [.v v] m=.ok (.v (.exn x [f,"code"] [v,.str c])) m:=by rfl
@[simp] theorem abO(b:du)(x g f c:Str)(v:MV)(m:Mem):(di b x g f c).F [.v v] m=.ok (.v (.exn x [f,"code"] [v,.str c])) m:=by rfl
end K01
namespace Rc
open PySem PySem.Spec L2
open PyProof.Rows hiding St
theorem Bw{f:MV->Mem->R (Option MV)}{m:Mem}:∀{xs ys acc:List MV},Paired (λx y=>f x m=.ok (some y) m) xs ys->acc.length+xs.length<=sizeLine->cD f [] xs acc m=.ok (acc++ys) m
 | [],_,acc,.nil,_=>by unfold cD;rw[if_pos (d7 m)];simp
 | x::xs,y::ys,acc,.cons h t,hl=>by
  rw[qQn] at hl
  rw[fG,if_pos (d7 m),h]
  show (if acc.length<sizeLine then cD f [] xs (acc++[y]) m else .stuck)=_
  rw[if_pos (by omega),Bw t (by simp;omega)]
  simp
theorem W.all{f:MV->Mem->R (Option MV)}{xs acc:List MV}{m:Mem}{s:Sl}{k:List MV->Mem->SR}{t:Tg k}{Q:SR->Prop}(ys:List MV)(hf:Paired (λx y=>f x m=.ok (some y) m) xs ys)(hl:acc.length+xs.length<=sizeLine)(h2:W (k (acc++ys) m) Q):W ((cD f [] xs acc m).ts s k t) Q:=by
 rw[Bw hf hl];exact h2
end Rc
namespace K01
open PySem PySem.Spec L2 Rc Rp
open PyProof.Rows hiding St signs
def dZ(x f:Str)(v:MV):MV:=.exn x [f,"code"] [v,.str x]
@[simp] theorem acW(b:du)(x c:Str)(m:Mem):(Ot b x c).F [] m=.ok (.v (.exn x ["code"] [.str c])) m:=by rfl
def xg(v:MV):List MV:=[dZ "InvalidName" "given" v,dZ "InvalidWords" "at" v,dZ "InvalidOrders" "at" v,dZ "InvalidModes" "at" v,dZ "InvalidStarts" "at" v,dZ "UnknownMode" "given" v,dZ "UnknownOrder" "given" v,dZ "InvalidSound" "given" v,dZ "InvalidRoom" "given" v,dZ "InvalidRecord" "given" v,dZ "InvalidWish" "given" v,dZ "InvalidNumber" "given" v,.exn "OtherProgram" ["code"] [.str "OtherProgram"],dZ "TooMany" "most" v,dZ "TooFew" "mode" v,dZ "InvalidText" "line" v,dZ "InvalidPage" "line" v,dZ "InvalidCommand" "at" v,dZ "DuplicateName" "name" v,dZ "Full" "limit" v,dZ "InvalidLimit" "given" v,dZ "UnknownName" "name" v,.exn "NothingLeft" ["code"] [.str "NothingLeft"]]
theorem Il(v:MV)(m:Mem):jV [v] m=.ok (.lst (xg v)) m:=by
 have hs:=sizeLine_eq
 refine Is.of ?_
 unfold gU
 simp[xg,dZ,hs]
def codes:List Str:=["InvalidName","InvalidWords","InvalidOrders","InvalidModes","InvalidStarts","UnknownMode","UnknownOrder","InvalidSound","InvalidRoom","InvalidRecord","InvalidWish","InvalidNumber","OtherProgram","TooMany","TooFew","InvalidText","InvalidPage","InvalidCommand","DuplicateName","Full","InvalidLimit","UnknownName","NothingLeft"]
@[simp] theorem aeN(d:Str)(t:List (Str × Bool))(c:Str)(ks:List Str)(xs:List MV)(m:Mem):(fV d t).F [.v (.exn c ks xs)] m=(match t.lookup c with|some b=>R.ok (.v (.bl b)) m|none=>.stuck):=by rfl
@[simp] theorem adT(d:String)(t:List (Str × Bool))(c:Str)(ks:List Str)(xs:List MV)(m:Mem):(Pr d t).F [.v (.exn c ks xs)] m=(match t.lookup c with|some b=>R.ok (.v (.bl b)) m|none=>.stuck):=by rfl
def RW(p:Str->Bool):List (Str × Bool):=codes.map λc=>(c,p c)
def tab(d:Str):List (Str × Bool):=codes.map λc=>(c,decide (c=d))
def gG(c:Str):Bool:=!decide (c=("UnknownName":Str))&&!decide (c=("NothingLeft":Str))
def pO(c:Str):Bool:=decide (c=("UnknownName":Str))
def pB(c:Str):Bool:=decide (c=("UnknownName":Str)) || decide (c=("NothingLeft":Str))
def vg(c:Str):Bool:=decide (c=("NothingLeft":Str))
theorem vM{p:Str->Bool}{c:Str}:∀{l:List Str},c∈l->(l.map λx=>(x,p x)).lookup c=some (p c)
 | [],h=>by cases h
 | x::l,h=>by
  rw[qQp,qQ3]
  by_cases e:c=x
  ·subst e;simp
  ·have:(c == x)=false:=by simpa using e
   rw[this]
   exact vM ((qQj.mp h).resolve_left e)
theorem JG{c:Str}(hc:c∈codes)(d:Str):(tab d).lookup c=some (decide (c=d)):=vM (p:=λc=>decide (c=d)) hc
theorem Ff{c:Str}(hc:c∈codes)(p:Str->Bool):(RW p).lookup c=some (p c):=vM hc
def Bk:MSs:=(.cons (.set 1 (.fr (.pr dY (.cons (.pr (fV "InvalidName" (tab "InvalidName")) (.cons (.slot 0) .nil)) (.cons (.pr (fV "InvalidWords" (tab "InvalidWords")) (.cons (.slot 0) .nil)) (.cons (.pr (fV "InvalidOrders" (tab "InvalidOrders")) (.cons (.slot 0) .nil)) .nil)))))) (.cons (.set 1 (.pr (dR .add) (.cons (.slot 1) (.cons (.fr (.pr dY (.cons (.pr (fV "InvalidModes" (tab "InvalidModes")) (.cons (.slot 0) .nil)) (.cons (.pr (fV "InvalidStarts" (tab "InvalidStarts")) (.cons (.slot 0) .nil)) (.cons (.pr (fV "UnknownMode" (tab "UnknownMode")) (.cons (.slot 0) .nil)) .nil))))) .nil)))) (.cons (.set 1 (.pr (dR .add) (.cons (.slot 1) (.cons (.fr (.pr dY (.cons (.pr (fV "UnknownOrder" (tab "UnknownOrder")) (.cons (.slot 0) .nil)) (.cons (.pr (fV "InvalidSound" (tab "InvalidSound")) (.cons (.slot 0) .nil)) (.cons (.pr (fV "InvalidRoom" (tab "InvalidRoom")) (.cons (.slot 0) .nil)) .nil))))) .nil)))) (.cons (.set 1 (.pr (dR .add) (.cons (.slot 1) (.cons (.fr (.pr dY (.cons (.pr (fV "InvalidRecord" (tab "InvalidRecord")) (.cons (.slot 0) .nil)) (.cons (.pr (fV "InvalidWish" (tab "InvalidWish")) (.cons (.slot 0) .nil)) (.cons (.pr (fV "InvalidNumber" (tab "InvalidNumber")) (.cons (.slot 0) .nil)) .nil))))) .nil)))) (.cons (.set 1 (.pr (dR .add) (.cons (.slot 1) (.cons (.fr (.pr dY (.cons (.pr (fV "OtherProgram" (tab "OtherProgram")) (.cons (.slot 0) .nil)) (.cons (.pr (fV "TooMany" (tab "TooMany")) (.cons (.slot 0) .nil)) (.cons (.pr (fV "TooFew" (tab "TooFew")) (.cons (.slot 0) .nil)) .nil))))) .nil)))) (.cons (.set 1 (.pr (dR .add) (.cons (.slot 1) (.cons (.fr (.pr dY (.cons (.pr (fV "InvalidText" (tab "InvalidText")) (.cons (.slot 0) .nil)) (.cons (.pr (fV "InvalidPage" (tab "InvalidPage")) (.cons (.slot 0) .nil)) (.cons (.pr (fV "InvalidCommand" (tab "InvalidCommand")) (.cons (.slot 0) .nil)) .nil))))) .nil)))) (.cons (.set 1 (.pr (dR .add) (.cons (.slot 1) (.cons (.fr (.pr dY (.cons (.pr (fV "DuplicateName" (tab "DuplicateName")) (.cons (.slot 0) .nil)) (.cons (.pr (fV "Full" (tab "Full")) (.cons (.slot 0) .nil)) (.cons (.pr (fV "InvalidLimit" (tab "InvalidLimit")) (.cons (.slot 0) .nil)) .nil))))) .nil)))) (.cons (.ret (.pr (dR .add) (.cons (.slot 1) (.cons (.fr (.pr dY (.cons (.pr (fV "UnknownName" (tab "UnknownName")) (.cons (.slot 0) .nil)) (.cons (.pr (fV "NothingLeft" (tab "NothingLeft")) (.cons (.slot 0) .nil)) .nil)))) .nil)))) .nil))))))))
theorem Z0:fK=Bk:=by kernel_rfl
def Bl:MSs:=(.cons (.set 1 (.pr (Hf fZ) (.cons (.slot 0) .nil))) (.cons (.loop (.name 2) (.pr nH (.cons (.pr (fY 3) .nil) .nil)) (.cons (.set 5 (.pr (gH iI) (.cons (.slot 1) (.cons (.fr (.pr dY (.cons (.pr v5 (.cons (.pr Mu .nil) (.cons (.pr (fY 2) .nil) .nil))) (.cons (.pr (Hz "pip") .nil) (.cons (.pr (dR .pow) (.cons (.pr (fY 10) .nil) (.cons (.pr (fY 17) .nil) .nil))) .nil))))) .nil)))) (.cons (.par 7 8 (.pr (gH eE) (.cons (.slot 5) .nil)) (.pr (gH fB) .nil)) (.cons (.loop (.name 6) (.pr nH (.cons (.pr (fY 23) .nil) .nil)) (.cons (.set 9 (.pr pIx (.cons (.slot 7) (.cons (.slot 6) .nil)))) (.cons (.set 10 (.ite (.cmp cIn (.slot 6) (.fr (.pr dY (.cons (.pr (fY 12) .nil) (.cons (.pr (fY 22) .nil) .nil))))) (.pr v5 .nil) (.pr v5 (.cons (.slot 5) .nil)))) (.cons (.ifs (.not (.val (.pr (gH (cO 5)) (.cons (.fr (.pr dY (.cons (.pr (pXf ["InvalidName","InvalidWords","InvalidOrders","InvalidModes","InvalidStarts","UnknownMode","UnknownOrder","InvalidSound","InvalidRoom","InvalidRecord","InvalidWish","InvalidNumber","OtherProgram","TooMany","TooFew","InvalidText","InvalidPage","InvalidCommand","DuplicateName","Full","InvalidLimit","UnknownName","NothingLeft"] "code") (.cons (.slot 9) .nil)) (.cons (.pr (gH fJ) (.cons (.slot 9) .nil)) .nil)))) (.cons (.fr (.pr dY (.cons (.pr pIx (.cons (.slot 8) (.cons (.slot 6) .nil))) (.cons (.slot 10) .nil)))) .nil))))) (.cons (.ret (.pr (pBl false) .nil)) .nil) .nil) (.cons (.ifs (.cmp cNe (.pr (gH dF) (.cons (.slot 9) .nil)) (.fr (.comp [13] (.name 13) (.pr nH (.cons (.pr (fY 23) .nil) .nil)) .nil (.cmp cEq (.slot 13) (.slot 6))))) (.cons (.ret (.pr (pBl false) .nil)) .nil) .nil) (.cons (.set 11 (.fr (.pr dY (.cons (.pr (fV "RoomError" (RW gG)) (.cons (.slot 9) .nil)) (.cons (.pr (Pr "ValueError" (RW gG)) (.cons (.slot 9) .nil)) (.cons (.pr (fV "Missing" (RW pO)) (.cons (.slot 9) .nil)) .nil)))))) (.cons (.set 11 (.pr (dR .add) (.cons (.slot 11) (.cons (.fr (.pr dY (.cons (.pr (Pr "LookupError" (RW pB)) (.cons (.slot 9) .nil)) (.cons (.pr (Pr "IndexError" (RW vg)) (.cons (.slot 9) .nil)) .nil)))) .nil)))) (.cons (.set 12 (.fr (.pr dY (.cons (.pr (pBl false) .nil) (.cons (.pr (pBl false) .nil) (.cons (.cmp cEq (.slot 6) (.pr (fY 21) .nil)) (.cons (.pr (pBl true) .nil) (.cons (.cmp cEq (.slot 6) (.pr (fY 22) .nil)) .nil)))))))) (.cons (.ifs (.cmp cNe (.slot 11) (.ite (.cmp cLt (.slot 6) (.pr (fY 21) .nil)) (.fr (.pr dY (.cons (.pr (pBl true) .nil) (.cons (.pr (pBl true) .nil) (.cons (.pr (pBl false) .nil) (.cons (.pr (pBl false) .nil) (.cons (.pr (pBl false) .nil) .nil))))))) (.slot 12))) (.cons (.ret (.pr (pBl false) .nil)) .nil) .nil) .nil))))))))) .nil)))) (.cons (.set 3 (.fr (.pr dY (.cons (.pr (pXf ["InvalidName"] "given") (.cons (.pr (di bVE "InvalidName" "given" "given" "InvalidName") (.cons (.pr (fY 2) .nil) .nil)) .nil)) (.cons (.pr (pXf ["InvalidWords"] "at") (.cons (.pr (di bVE "InvalidWords" "at" "at" "InvalidWords") (.cons (.pr (fY 3) .nil) .nil)) .nil)) (.cons (.pr (pXf ["TooMany"] "most") (.cons (.pr (di bVE "TooMany" "most" "most" "TooMany") (.cons (.pr (fY 4) .nil) .nil)) .nil)) (.cons (.pr (pXf ["TooFew"] "mode") (.cons (.pr (di bVE "TooFew" "mode" "mode" "TooFew") (.cons (.pr (Hz "a") .nil) .nil)) .nil)) .nil))))))) (.cons (.set 3 (.pr (dR .add) (.cons (.slot 3) (.cons (.fr (.pr dY (.cons (.pr (pXf ["InvalidPage"] "line") (.cons (.pr (di bVE "InvalidPage" "line" "line" "InvalidPage") (.cons (.pr (fY 5) .nil) .nil)) .nil)) (.cons (.pr (pXf ["DuplicateName"] "name") (.cons (.pr (di bVE "DuplicateName" "name" "name" "DuplicateName") (.cons (.pr (Hz "b") .nil) .nil)) .nil)) (.cons (.pr (pXf ["Full"] "limit") (.cons (.pr (di bVE "Full" "limit" "limit" "Full") (.cons (.pr (fY 6) .nil) .nil)) .nil)) .nil))))) .nil)))) (.cons (.ifs (.not (.val (.pr (gH (cO 5)) (.cons (.pr (dR .add) (.cons (.slot 3) (.cons (.fr (.pr dY (.cons (.pr (pXf ["UnknownName"] "name") (.cons (.pr (di bLE "UnknownName" "name" "name" "UnknownName") (.cons (.pr (Hz "c") .nil) .nil)) .nil)) .nil))) .nil))) (.cons (.fr (.pr dY (.cons (.pr (fY 2) .nil) (.cons (.pr (fY 3) .nil) (.cons (.pr (fY 4) .nil) (.cons (.pr (Hz "a") .nil) (.cons (.pr (fY 5) .nil) (.cons (.pr (Hz "b") .nil) (.cons (.pr (fY 6) .nil) (.cons (.pr (Hz "c") .nil) .nil)))))))))) .nil))))) (.cons (.ret (.pr (pBl false) .nil)) .nil) .nil) (.cons (.set 4 (.fr (.pr dY (.cons (.pr (pXf ["InvalidOrders"] "at") (.cons (.pr (di bVE "InvalidOrders" "at" "at" "InvalidOrders") (.cons (.pr (fY 1) .nil) .nil)) .nil)) (.cons (.pr (pXf ["InvalidModes"] "at") (.cons (.pr (di bVE "InvalidModes" "at" "at" "InvalidModes") (.cons (.pr (fY 2) .nil) .nil)) .nil)) (.cons (.pr (pXf ["InvalidStarts"] "at") (.cons (.pr (di bVE "InvalidStarts" "at" "at" "InvalidStarts") (.cons (.pr (fY 3) .nil) .nil)) .nil)) (.cons (.pr (pXf ["UnknownMode"] "given") (.cons (.pr (di bVE "UnknownMode" "given" "given" "UnknownMode") (.cons (.pr (fY 4) .nil) .nil)) .nil)) .nil))))))) (.cons (.set 4 (.pr (dR .add) (.cons (.slot 4) (.cons (.fr (.pr dY (.cons (.pr (pXf ["UnknownOrder"] "given") (.cons (.pr (di bVE "UnknownOrder" "given" "given" "UnknownOrder") (.cons (.pr (fY 5) .nil) .nil)) .nil)) (.cons (.pr (pXf ["InvalidSound"] "given") (.cons (.pr (di bVE "InvalidSound" "given" "given" "InvalidSound") (.cons (.pr (fY 6) .nil) .nil)) .nil)) (.cons (.pr (pXf ["InvalidRoom"] "given") (.cons (.pr (di bVE "InvalidRoom" "given" "given" "InvalidRoom") (.cons (.pr (fY 7) .nil) .nil)) .nil)) .nil))))) .nil)))) (.cons (.set 4 (.pr (dR .add) (.cons (.slot 4) (.cons (.fr (.pr dY (.cons (.pr (pXf ["InvalidRecord"] "given") (.cons (.pr (di bVE "InvalidRecord" "given" "given" "InvalidRecord") (.cons (.pr (fY 8) .nil) .nil)) .nil)) (.cons (.pr (pXf ["InvalidWish"] "given") (.cons (.pr (di bVE "InvalidWish" "given" "given" "InvalidWish") (.cons (.pr (fY 9) .nil) .nil)) .nil)) (.cons (.pr (pXf ["InvalidNumber"] "given") (.cons (.pr (di bVE "InvalidNumber" "given" "given" "InvalidNumber") (.cons (.pr (fY 10) .nil) .nil)) .nil)) .nil))))) .nil)))) (.cons (.set 4 (.pr (dR .add) (.cons (.slot 4) (.cons (.fr (.pr dY (.cons (.pr (pXf ["InvalidText"] "line") (.cons (.pr (di bVE "InvalidText" "line" "line" "InvalidText") (.cons (.pr (fY 11) .nil) .nil)) .nil)) (.cons (.pr (pXf ["InvalidCommand"] "at") (.cons (.pr (di bVE "InvalidCommand" "at" "at" "InvalidCommand") (.cons (.pr (fY 12) .nil) .nil)) .nil)) (.cons (.pr (pXf ["InvalidLimit"] "given") (.cons (.pr (di bVE "InvalidLimit" "given" "given" "InvalidLimit") (.cons (.pr (fY 13) .nil) .nil)) .nil)) .nil))))) .nil)))) (.cons (.ifs (.not (.val (.pr (gH (cO 5)) (.cons (.slot 4) (.cons (.fr (.pr dY (.cons (.pr (fY 1) .nil) (.cons (.pr (fY 2) .nil) (.cons (.pr (fY 3) .nil) (.cons (.pr (fY 4) .nil) (.cons (.pr (fY 5) .nil) (.cons (.pr (fY 6) .nil) (.cons (.pr (fY 7) .nil) (.cons (.pr (fY 8) .nil) (.cons (.pr (fY 9) .nil) (.cons (.pr (fY 10) .nil) (.cons (.pr (fY 11) .nil) (.cons (.pr (fY 12) .nil) (.cons (.pr (fY 13) .nil) .nil))))))))))))))) .nil))))) (.cons (.ret (.pr (pBl false) .nil)) .nil) .nil) (.cons (.ret (.andV (.pr (Wf bVE "RoomError" "ValueError" true) (.cons (.pr (Hz "x") .nil) .nil)) (.pr (Wf bLE "Missing" "LookupError" true) (.cons (.pr (Hz "x") .nil) .nil)))) .nil)))))))))))
theorem Z7:Le=Bl:=by kernel_rfl
theorem kinds_ok{c:Str}(hc:c∈codes)(ks:List Str)(xs:List MV)(m:Mem):ir [.exn c ks xs] m=.ok (.lst (codes.map λd:Str=>MV.bl (decide (c=d)))) m:=by
 have hs:=sizeLine_eq
 refine Is.of ?_
 rw[Z0]
 unfold Bk
 simp[codes,hs,JG hc]
theorem qP(cs:List Str)(f c:Str)(ks:List Str)(xs:List MV)(m:Mem):(pXf cs f).F [.v (.exn c ks xs)] m=if c∈cs then (match dX ks xs f with
 | some y=>.ok (.v y) m
 | none=>.stuck) else .stuck:=by rfl
@[simp] theorem afj(z:Str)(m:Mem):inB m (.v (.str z)) (.v (.lst [.str "InvalidWords",.str "InvalidOrders",.str "InvalidModes",.str "InvalidStarts",.str "InvalidCommand"]))=some (decide (z∈(["InvalidWords","InvalidOrders","InvalidModes","InvalidStarts","InvalidCommand"]:List Str))):=oO (m:=m) z ["InvalidWords","InvalidOrders","InvalidModes","InvalidStarts","InvalidCommand"]
@[simp] theorem ae4(z:Str)(m:Mem):inB m (.v (.str z)) (.v (.lst [.str "OtherProgram",.str "NothingLeft"]))=some (decide (z∈(["OtherProgram","NothingLeft"]:List Str))):=oO (m:=m) z ["OtherProgram","NothingLeft"]
@[simp] theorem afg(z:Str)(m:Mem):inB m (.v (.str z)) (.v (.lst [.str "TooMany",.str "TooFew"]))=some (decide (z∈(["TooMany","TooFew"]:List Str))):=oO (m:=m) z ["TooMany","TooFew"]
@[simp] theorem afd(z:Str)(m:Mem):inB m (.v (.str z)) (.v (.lst [.str "InvalidText",.str "InvalidPage"]))=some (decide (z∈(["InvalidText","InvalidPage"]:List Str))):=oO (m:=m) z ["InvalidText","InvalidPage"]
@[simp] theorem afb(z:Str)(m:Mem):inB m (.v (.str z)) (.v (.lst [.str "DuplicateName",.str "UnknownName"]))=some (decide (z∈(["DuplicateName","UnknownName"]:List Str))):=oO (m:=m) z ["DuplicateName","UnknownName"]
theorem f_0(v:MV)(m:Mem):bD [dZ "InvalidName" "given" v] m=.ok (.tup [v]) m:=by
 have hs:=sizeLine_eq
 refine Is.of ?_
 unfold bB
 simp (decide:=true) [qP,dZ,dX,hs]
theorem f_1(v:MV)(m:Mem):bD [dZ "InvalidWords" "at" v] m=.ok (.tup [v]) m:=by
 have hs:=sizeLine_eq
 refine Is.of ?_
 unfold bB
 simp (decide:=true) [qP,dZ,dX,hs]
theorem f_2(v:MV)(m:Mem):bD [dZ "InvalidOrders" "at" v] m=.ok (.tup [v]) m:=by
 have hs:=sizeLine_eq
 refine Is.of ?_
 unfold bB
 simp (decide:=true) [qP,dZ,dX,hs]
theorem f_3(v:MV)(m:Mem):bD [dZ "InvalidModes" "at" v] m=.ok (.tup [v]) m:=by
 have hs:=sizeLine_eq
 refine Is.of ?_
 unfold bB
 simp (decide:=true) [qP,dZ,dX,hs]
theorem f_4(v:MV)(m:Mem):bD [dZ "InvalidStarts" "at" v] m=.ok (.tup [v]) m:=by
 have hs:=sizeLine_eq
 refine Is.of ?_
 unfold bB
 simp (decide:=true) [qP,dZ,dX,hs]
theorem f_5(v:MV)(m:Mem):bD [dZ "UnknownMode" "given" v] m=.ok (.tup [v]) m:=by
 have hs:=sizeLine_eq
 refine Is.of ?_
 unfold bB
 simp (decide:=true) [qP,dZ,dX,hs]
theorem f_6(v:MV)(m:Mem):bD [dZ "UnknownOrder" "given" v] m=.ok (.tup [v]) m:=by
 have hs:=sizeLine_eq
 refine Is.of ?_
 unfold bB
 simp (decide:=true) [qP,dZ,dX,hs]
theorem f_7(v:MV)(m:Mem):bD [dZ "InvalidSound" "given" v] m=.ok (.tup [v]) m:=by
 have hs:=sizeLine_eq
 refine Is.of ?_
 unfold bB
 simp (decide:=true) [qP,dZ,dX,hs]
theorem f_8(v:MV)(m:Mem):bD [dZ "InvalidRoom" "given" v] m=.ok (.tup [v]) m:=by
 have hs:=sizeLine_eq
 refine Is.of ?_
 unfold bB
 simp (decide:=true) [qP,dZ,dX,hs]
theorem f_9(v:MV)(m:Mem):bD [dZ "InvalidRecord" "given" v] m=.ok (.tup [v]) m:=by
 have hs:=sizeLine_eq
 refine Is.of ?_
 unfold bB
 simp (decide:=true) [qP,dZ,dX,hs]
theorem adk(v:MV)(m:Mem):bD [dZ "InvalidWish" "given" v] m=.ok (.tup [v]) m:=by
 have hs:=sizeLine_eq
 refine Is.of ?_
 unfold bB
 simp (decide:=true) [qP,dZ,dX,hs]
theorem aef(v:MV)(m:Mem):bD [dZ "InvalidNumber" "given" v] m=.ok (.tup [v]) m:=by
 have hs:=sizeLine_eq
 refine Is.of ?_
 unfold bB
 simp (decide:=true) [qP,dZ,dX,hs]
theorem adA(v:MV)(m:Mem):bD [.exn "OtherProgram" ["code"] [.str "OtherProgram"]] m=.ok (.tup []) m:=by
 have hs:=sizeLine_eq
 refine Is.of ?_
 unfold bB
 simp (decide:=true) [qP,dZ,dX,hs]
theorem adm(v:MV)(m:Mem):bD [dZ "TooMany" "most" v] m=.ok (.tup [v]) m:=by
 have hs:=sizeLine_eq
 refine Is.of ?_
 unfold bB
 simp (decide:=true) [qP,dZ,dX,hs]
theorem aeu(v:MV)(m:Mem):bD [dZ "TooFew" "mode" v] m=.ok (.tup [v]) m:=by
 have hs:=sizeLine_eq
 refine Is.of ?_
 unfold bB
 simp (decide:=true) [qP,dZ,dX,hs]
theorem aek(v:MV)(m:Mem):bD [dZ "InvalidText" "line" v] m=.ok (.tup [v]) m:=by
 have hs:=sizeLine_eq
 refine Is.of ?_
 unfold bB
 simp (decide:=true) [qP,dZ,dX,hs]
theorem adJ(v:MV)(m:Mem):bD [dZ "InvalidPage" "line" v] m=.ok (.tup [v]) m:=by
 have hs:=sizeLine_eq
 refine Is.of ?_
 unfold bB
 simp (decide:=true) [qP,dZ,dX,hs]
theorem ac9(v:MV)(m:Mem):bD [dZ "InvalidCommand" "at" v] m=.ok (.tup [v]) m:=by
 have hs:=sizeLine_eq
 refine Is.of ?_
 unfold bB
 simp (decide:=true) [qP,dZ,dX,hs]
theorem aeR(v:MV)(m:Mem):bD [dZ "DuplicateName" "name" v] m=.ok (.tup [v]) m:=by
 have hs:=sizeLine_eq
 refine Is.of ?_
 unfold bB
 simp (decide:=true) [qP,dZ,dX,hs]
theorem adh(v:MV)(m:Mem):bD [dZ "Full" "limit" v] m=.ok (.tup [v]) m:=by
 have hs:=sizeLine_eq
 refine Is.of ?_
 unfold bB
 simp (decide:=true) [qP,dZ,dX,hs]
theorem aec(v:MV)(m:Mem):bD [dZ "InvalidLimit" "given" v] m=.ok (.tup [v]) m:=by
 have hs:=sizeLine_eq
 refine Is.of ?_
 unfold bB
 simp (decide:=true) [qP,dZ,dX,hs]
theorem adK(v:MV)(m:Mem):bD [dZ "UnknownName" "name" v] m=.ok (.tup [v]) m:=by
 have hs:=sizeLine_eq
 refine Is.of ?_
 unfold bB
 simp (decide:=true) [qP,dZ,dX,hs]
theorem ad3(v:MV)(m:Mem):bD [.exn "NothingLeft" ["code"] [.str "NothingLeft"]] m=.ok (.tup []) m:=by
 have hs:=sizeLine_eq
 refine Is.of ?_
 unfold bB
 simp (decide:=true) [qP,dZ,dX,hs]
structure At(v:MV)(k:Nat)(c:Str)(ks:List Str)(xs:List MV):Prop where
 e:(xg v)[k]? = some (.exn c ks xs)
 cd:codes[k]? = some c
 l:dX ks xs "code" = some (.str c)
 f:∀m,bD [.exn c ks xs] m=.ok (.tup (if k=12\/k=22 then [] else [v])) m
 n:(codes.map λd:Str=>MV.bl (decide (c=d)))=(List.range 23).map λj=>MV.bl (decide (j=k))
 b1:gG c=decide (k<21)
 b2:pO c=decide (k=21)
 b3:pB c=!decide (k<21)
 b4:vg c=decide (k=22)
theorem aeF(v:MV):∀k,k<23->∃c ks xs,At v k c ks xs
 | 0,_=>⟨_,_,_,rfl,rfl,rfl,λm=>f_0 v m,by rfl,by decide +kernel,by decide +kernel,by decide +kernel,by decide +kernel⟩
 | 1,_=>⟨_,_,_,rfl,rfl,rfl,λm=>f_1 v m,by rfl,by decide +kernel,by decide +kernel,by decide +kernel,by decide +kernel⟩
 | 2,_=>⟨_,_,_,rfl,rfl,rfl,λm=>f_2 v m,by rfl,by decide +kernel,by decide +kernel,by decide +kernel,by decide +kernel⟩
 | 3,_=>⟨_,_,_,rfl,rfl,rfl,λm=>f_3 v m,by rfl,by decide +kernel,by decide +kernel,by decide +kernel,by decide +kernel⟩
 | 4,_=>⟨_,_,_,rfl,rfl,rfl,λm=>f_4 v m,by rfl,by decide +kernel,by decide +kernel,by decide +kernel,by decide +kernel⟩
 | 5,_=>⟨_,_,_,rfl,rfl,rfl,λm=>f_5 v m,by rfl,by decide +kernel,by decide +kernel,by decide +kernel,by decide +kernel⟩
 | 6,_=>⟨_,_,_,rfl,rfl,rfl,λm=>f_6 v m,by rfl,by decide +kernel,by decide +kernel,by decide +kernel,by decide +kernel⟩
 | 7,_=>⟨_,_,_,rfl,rfl,rfl,λm=>f_7 v m,by rfl,by decide +kernel,by decide +kernel,by decide +kernel,by decide +kernel⟩
 | 8,_=>⟨_,_,_,rfl,rfl,rfl,λm=>f_8 v m,by rfl,by decide +kernel,by decide +kernel,by decide +kernel,by decide +kernel⟩
 | 9,_=>⟨_,_,_,rfl,rfl,rfl,λm=>f_9 v m,by rfl,by decide +kernel,by decide +kernel,by decide +kernel,by decide +kernel⟩
 | 10,_=>⟨_,_,_,rfl,rfl,rfl,λm=>adk v m,by rfl,by decide +kernel,by decide +kernel,by decide +kernel,by decide +kernel⟩
 | 11,_=>⟨_,_,_,rfl,rfl,rfl,λm=>aef v m,by rfl,by decide +kernel,by decide +kernel,by decide +kernel,by decide +kernel⟩
 | 12,_=>⟨_,_,_,rfl,rfl,rfl,λm=>adA v m,by rfl,by decide +kernel,by decide +kernel,by decide +kernel,by decide +kernel⟩
 | 13,_=>⟨_,_,_,rfl,rfl,rfl,λm=>adm v m,by rfl,by decide +kernel,by decide +kernel,by decide +kernel,by decide +kernel⟩
 | 14,_=>⟨_,_,_,rfl,rfl,rfl,λm=>aeu v m,by rfl,by decide +kernel,by decide +kernel,by decide +kernel,by decide +kernel⟩
 | 15,_=>⟨_,_,_,rfl,rfl,rfl,λm=>aek v m,by rfl,by decide +kernel,by decide +kernel,by decide +kernel,by decide +kernel⟩
 | 16,_=>⟨_,_,_,rfl,rfl,rfl,λm=>adJ v m,by rfl,by decide +kernel,by decide +kernel,by decide +kernel,by decide +kernel⟩
 | 17,_=>⟨_,_,_,rfl,rfl,rfl,λm=>ac9 v m,by rfl,by decide +kernel,by decide +kernel,by decide +kernel,by decide +kernel⟩
 | 18,_=>⟨_,_,_,rfl,rfl,rfl,λm=>aeR v m,by rfl,by decide +kernel,by decide +kernel,by decide +kernel,by decide +kernel⟩
 | 19,_=>⟨_,_,_,rfl,rfl,rfl,λm=>adh v m,by rfl,by decide +kernel,by decide +kernel,by decide +kernel,by decide +kernel⟩
 | 20,_=>⟨_,_,_,rfl,rfl,rfl,λm=>aec v m,by rfl,by decide +kernel,by decide +kernel,by decide +kernel,by decide +kernel⟩
 | 21,_=>⟨_,_,_,rfl,rfl,rfl,λm=>adK v m,by rfl,by decide +kernel,by decide +kernel,by decide +kernel,by decide +kernel⟩
 | 22,_=>⟨_,_,_,rfl,rfl,rfl,λm=>ad3 v m,by rfl,by decide +kernel,by decide +kernel,by decide +kernel,by decide +kernel⟩
 | n+23,h=>by omega
end K01
namespace Rp
open PySem PySem.Spec L2 Rc
open PyProof.Rows hiding St signs
theorem qU{w:Str}:∀{xs:List Str},w∈xs->∃j,Ed w xs=some j
 | x::xs,h=>by
  unfold Ed
  by_cases e:x=w
  ·exact⟨0,by rw[if_pos e]⟩
  ·rw[if_neg e]
   rcases qQj.mp h with h|h
   ·exact absurd h.symm e
   ·obtain⟨j,ej⟩:=qU h
    exact⟨j+1,by rw[ej];rfl⟩
theorem zB{w:Str}{xs:List Str}{j:Nat}(h:Ed w xs=some j):j<xs.length:=by
 obtain⟨h1,_⟩:=zQ h
 exact (qQa.mp h1).1
section
variable(ws os:List Str)(ms:List Md)(ss:List Str)(m:Mem)
def pG(ws:List Str):List Str:=("quiet":Str)::(ws++[("noise":Str)])
@[simp] theorem Pq:(wj "sounds" [("Program",dD)]).F (.v (iz ws os ms ss)) m=some λas mem=>(match vals as with
   | some xs=>Ea (fU (iz ws os ms ss::xs) mem)
   | none=>.stuck):=id (by kernel_rfl)
@[simp] theorem HR:(wj "check_mode" [("Program",dw)]).F (.v (iz ws os ms ss)) m=some λas mem=>(match vals as with
   | some xs=>Ea (dW (iz ws os ms ss::xs) mem)
   | none=>.stuck):=id (by kernel_rfl)
@[simp] theorem Ek:(wj "check_order" [("Program",cZ)]).F (.v (iz ws os ms ss)) m=some λas mem=>(match vals as with
   | some xs=>Ea (dN (iz ws os ms ss::xs) mem)
   | none=>.stuck):=id (by kernel_rfl)
end
def nextM(ws os:List Str)(ms:List Md)(a:Nat)(o z:Str):Option Str:=(ms[a]?).bind λd=>(Ed o os).bind λi=>(d.2.2[i]?).bind λr=>(Ed z (pG ws)).bind λj=>r[j]?
theorem Fy{ws os:List Str}{ms:List Md}{ss:List Str}(h:POk ws os ms ss){a:Nat}(ha:a<ms.length){o z:Str}(ho:o∈os)(hz:z∈pG ws):∃g∈nO ms,nextM ws os ms a o z=some g:=by
 obtain⟨i,ei⟩:=qU ho
 obtain⟨j,ej⟩:=qU hz
 have hi:=zB ei
 have hj:=zB ej
 have hl:(pG ws).length=ws.length+2:=by simp[pG]
 obtain⟨_,_,h3,h4⟩:=h.mN _ (List.getElem_mem ha)
 have hi2:i<(ms[a]).2.2.length:=by rw[h3];exact hi
 obtain⟨h5,h6⟩:=h4 _ (List.getElem_mem hi2)
 have hj2:j<((ms[a]).2.2[i]).length:=by rw[h5];omega
 refine⟨((ms[a]).2.2[i])[j],h6 _ (List.getElem_mem hj2),?_⟩
 unfold nextM
 rw[qQf ha,Option.bind_some,ei,Option.bind_some,qQf hi2,Option.bind_some,ej,Option.bind_some,qQf hj2]
theorem rG(ws os:List Str)(ms:List Md)(ss:List Str)(m:Mem):(wj "next_mode" [("Program",dC)]).F (.v (iz ws os ms ss)) m=some λas mem=>(match vals as with
   | some xs=>Ea (dB (iz ws os ms ss::xs) mem)
   | none=>.stuck):=by kernel_rfl
@[simp] theorem JC(ws os:List Str)(ms:List Md)(ss:List Str)(m:Mem):(wj "next_mode" [("Program",dC)]).F (.v (iz ws os ms ss)) m=some λas mem=>(match vals as with
   | some xs=>Ea (dB (iz ws os ms ss::xs) mem)
   | none=>.stuck):=rG ws os ms ss m
def yI(ms:List Md)(ns:List Int)(a:Nat)(n:Int):Str:=pH ms (ns.set a (n - 1))
def qG(ws os:List Str)(ms:List Md)(ns:List Int)(o:Str)(a:Nat):Option Nat:=if ns.getD a 0=0 then none else (nextM ws os ms a o (yI ms ns a (ns.getD a 0))).bind λg=>Ed g (nO ms)
def su(ws os:List Str)(ms:List Md)(ns:List Int)(o:Str):List (Option Nat):=(List.range ms.length).map (qG ws os ms ns o)
theorem Ln{ws os:List Str}{ms:List Md}{ss:List Str}(h:POk ws os ms ss)(ns:List Int):pH ms ns∈pG ws:=by
 unfold pH pG
 split
 ·simp
 ·split
  ·rename_i h0 h1
   cases hc:callers ms ns with
   | nil=>rw[hc] at h1;simp at h1
   | cons p r =>
    have hp:p∈callers ms ns:=by rw[hc];exact qQc
    unfold callers at hp
    obtain⟨q,hq,e⟩:=List.mem_filterMap.mp hp
    unfold oA at e
    split at e
    ·rename_i hh
     cases e
     obtain⟨_,h2,_⟩:=h.mN _ (List.of_mem_zip hq).1
     rcases h2 with h2|h2
     ·exact absurd h2 hh.1
     ·simp[h2]
    ·cases e
  ·simp
def Ft(acc:List Int)(p:Int × Option Nat):List Int:=match p.2 with
 | none=>acc
 | some j=>acc.set j (acc.getD j 0+p.1)
def jC(ws os:List Str)(ms:List Md)(ns:List Int)(o:Str):List Int:=(ns.zip (su ws os ms ns o)).foldl Ft (List.replicate ns.length 0)
theorem Lh(acc:List Int)(p:Int × Option Nat):(Ft acc p).length=acc.length:=by
 unfold Ft
 split <;> simp
theorem Jc(l:List (Int × Option Nat)):∀acc:List Int,(l.foldl Ft acc).length=acc.length:=by
 induction l with
 | nil=>intro acc;rfl
 | cons p l ih=>intro acc;rw[List.foldl_cons,ih,Lh]
theorem Fo{ws os:List Str}{ms:List Md}{ns:List Int}{o:Str}{a j:Nat}(h:qG ws os ms ns o a=some j):j<ms.length:=by
 unfold qG at h
 split at h
 ·cases h
 ·obtain⟨g,_,h2⟩:=Option.bind_eq_some_iff.mp h
  have:=zB h2
  rwa [OD] at this
def mk3(n:Int):Int:=if 3<n then 3 else n
def bZ(ns:List Int):List Int:=ns.map mk3
def nn(ns:List Int):Prop:=∀n∈ns,0<=n
theorem nn.tail{n:Int}{ns:List Int}(h:nn (n::ns)):nn ns:=λx hx=>h x (qQd _ hx)
theorem nn.head{n:Int}{ns:List Int}(h:nn (n::ns)):0<=n:=h n qQc
theorem Hh{a b:Int}:mk3 a=mk3 b↔(a=b\/(3<=a/\3<=b)):=by
 unfold mk3
 by_cases h1:3<a <;> by_cases h2:3<b
 ·rw[if_pos h1,if_pos h2];constructor <;> intro <;> omega
 ·rw[if_pos h1,if_neg h2];constructor <;> intro <;> omega
 ·rw[if_neg h1,if_pos h2];constructor <;> intro <;> omega
 ·rw[if_neg h1,if_neg h2];constructor <;> intro <;> omega
def mkt(t n:Int):Int:=if t<n then t else n
theorem w6{t a b:Int}:mkt t a=mkt t b↔(a=b\/(t<=a/\t<=b)):=by
 unfold mkt
 by_cases h1:t<a <;> by_cases h2:t<b
 ·rw[if_pos h1,if_pos h2];constructor <;> intro <;> omega
 ·rw[if_pos h1,if_neg h2];constructor <;> intro <;> omega
 ·rw[if_neg h1,if_pos h2];constructor <;> intro <;> omega
 ·rw[if_neg h1,if_neg h2];constructor <;> intro <;> omega
theorem Oo{t a b c d:Int}(ha:0<=a)(hb:0<=b)(hc:0<=c)(hd:0<=d)(h1:mkt t a=mkt t b)(h2:mkt t c=mkt t d):mkt t (a+c)=mkt t (b+d):=by
 rw[w6] at h1 h2 ⊢
 omega
theorem adf(a:Int):mkt 2 (mk3 a)=mkt 2 a:=by
 rw[w6]
 unfold mk3
 split <;> omega
theorem marks2{ns ks:List Int}(h:bZ ns=bZ ks):ns.map (mkt 2)=ks.map (mkt 2):=by
 have e:∀l:List Int,(bZ l).map (mkt 2)=l.map (mkt 2):=λl=>by
  unfold bZ
  rw[qQt]
  exact List.map_congr_left λn _=>adf n
 rw[<- e ns,<- e ks,h]
theorem Qs{a b c d:Int}(ha:0<=a)(hb:0<=b)(hc:0<=c)(hd:0<=d)(h1:mk3 a=mk3 b)(h2:mk3 c=mk3 d):mk3 (a+c)=mk3 (b+d):=by
 rw[Hh] at h1 h2 ⊢
 omega
theorem sH:∀(ms:List Md) (ns ks:List Int),ns.map (mkt 2)=ks.map (mkt 2)->nn ns->nn ks ->
  (callers ms ns).map (·.1)=(callers ms ks).map (·.1)/\mkt 2 ((callers ms ns).map (·.2)).sum=mkt 2 ((callers ms ks).map (·.2)).sum/\0<=((callers ms ns).map (·.2)).sum/\0<=((callers ms ks).map (·.2)).sum
 | [],ns,ks,_,_,_=>by simp[callers]
 | d::ms,[],[],_,_,_=>by simp[callers]
 | d::ms,[],k::ks,h,_,_=>by cases h
 | d::ms,n::ns,[],h,_,_=>by cases h
 | d::ms,n::ns,k::ks,h,h1,h2=>by
  have hh:mkt 2 n=mkt 2 k/\ns.map (mkt 2)=ks.map (mkt 2):=by
   rw[qQp,qQp] at h
   exact⟨(List.cons.inj h).1,(List.cons.inj h).2⟩
  obtain⟨i1,i2,i3,i4⟩:=sH ms ns ks hh.2 h1.tail h2.tail
  have p1:=h1.head
  have p2:=h2.head
  have e3:=w6.mp hh.1
  unfold callers at i1 i2 i3 i4 ⊢
  rw[List.zip_cons_cons,List.zip_cons_cons,List.filterMap_cons,List.filterMap_cons]
  by_cases c1:d.2.1=("":Str)
  ·have q1:oA (d,n)=none:=by simp[oA,c1]
   have q2:oA (d,k)=none:=by simp[oA,c1]
   rw[q1,q2]
   exact⟨i1,i2,i3,i4⟩
  ·by_cases c2:0<n
   ·have c3:0<k:=by omega
    have q1:oA (d,n)=some (d.2.1,n):=by simp[oA,c1,c2]
    have q2:oA (d,k)=some (d.2.1,k):=by simp[oA,c1,c3]
    rw[q1,q2]
    simp only[qQp,List.sum_cons]
    exact⟨by rw[i1],Oo p1 p2 i3 i4 hh.1 i2,by omega,by omega⟩
   ·have c3:¬ 0<k:=by omega
    have q1:oA (d,n)=none:=by simp[oA,c2]
    have q2:oA (d,k)=none:=by simp[oA,c3]
    rw[q1,q2]
    exact⟨i1,i2,i3,i4⟩
theorem Hm(ms:List Md){ns ks:List Int}(h:ns.map (mkt 2)=ks.map (mkt 2))(h1:nn ns)(h2:nn ks):pH ms ns=pH ms ks:=by
 obtain⟨i1,i2,i3,i4⟩:=sH ms ns ks h h1 h2
 have e:=w6.mp i2
 have hd:(callers ms ns).head?.map (·.1)=(callers ms ks).head?.map (·.1):=by
  rw[<- List.head?_map,<- List.head?_map,i1]
 unfold pH
 by_cases c0:((callers ms ns).map (·.2)).sum=0
 ·have c1:((callers ms ks).map (·.2)).sum=0:=by omega
  rw[if_pos c0,if_pos c1]
 ·have c1:¬ ((callers ms ks).map (·.2)).sum=0:=by omega
  rw[if_neg c0,if_neg c1]
  by_cases c2:((callers ms ns).map (·.2)).sum=1
  ·have c3:((callers ms ks).map (·.2)).sum=1:=by omega
   rw[if_pos c2,if_pos c3,hd]
  ·have c3:¬ ((callers ms ks).map (·.2)).sum=1:=by omega
   rw[if_neg c2,if_neg c3]
theorem tD{ns ks:List Int}(h:bZ ns=bZ ks)(a:Nat):mk3 (ns.getD a 0)=mk3 (ks.getD a 0):=by
 have e:(bZ ns)[a]? = (bZ ks)[a]?:=by rw[h]
 unfold bZ at e
 rw[qQq,qQq] at e
 rw[qQz,qQz]
 cases h1:ns[a]? <;> cases h2:ks[a]? <;> rw[h1,h2] at e <;> simp at e ⊢
 exact e
theorem xR{ns:List Int}(h:nn ns)(a:Nat):0<=ns.getD a 0:=by
 rw[qQz]
 cases e:ns[a]? with
 | none=>simp
 | some n=>simpa using h n (qQg e)
theorem Im{ns ks:List Int}(h:bZ ns=bZ ks)(a:Nat){x y:Int}(hx:mk3 x=mk3 y):bZ (ns.set a x)=bZ (ks.set a y):=by
 unfold bZ at h ⊢
 rw[List.map_set,List.map_set,h,hx]
theorem Bq{ns:List Int}(h:nn ns)(a:Nat){x:Int}(hx:0<=x):nn (ns.set a x):=λy hy=>by
 rcases List.mem_or_eq_of_mem_set hy with hy|rfl
 ·exact h y hy
 ·exact hx
theorem Ho(ms:List Md){ns ks:List Int}(h:bZ ns=bZ ks)(h1:nn ns)(h2:nn ks)(a:Nat)(hp:0<ns.getD a 0):yI ms ns a (ns.getD a 0)=yI ms ks a (ks.getD a 0):=by
 have e:=Hh.mp (tD h a)
 have p2:=xR h2 a
 unfold yI
 refine Hm ms (by rw[List.map_set,List.map_set,marks2 h];congr 1;rw[w6];omega) (Bq h1 a (by omega)) (Bq h2 a (by omega))
theorem Lk{ws os:List Str}{ms:List Md}{o:Str}{ns ks:List Int}(h:bZ ns=bZ ks)(h1:nn ns)(h2:nn ks)(a:Nat):qG ws os ms ns o a=qG ws os ms ks o a:=by
 have e:=Hh.mp (tD h a)
 have p1:=xR h1 a
 have p2:=xR h2 a
 unfold qG
 by_cases c:ns.getD a 0=0
 ·have c2:ks.getD a 0=0:=by omega
  rw[if_pos c,if_pos c2]
 ·have c2:¬ ks.getD a 0=0:=by omega
  rw[if_neg c,if_neg c2,Ho ms h h1 h2 a (by omega)]
theorem Ep{ws os:List Str}{ms:List Md}{o:Str}{ns ks:List Int}(h:bZ ns=bZ ks)(h1:nn ns)(h2:nn ks):su ws os ms ns o=su ws os ms ks o:=by
 unfold su
 exact List.map_congr_left λa _=>Lk h h1 h2 a
theorem vD:∀(gs:List (Option Nat)) (ns ks acc bcc:List Int),bZ ns=bZ ks->nn ns->nn ks->bZ acc=bZ bcc->nn acc->nn bcc ->
  bZ ((ns.zip gs).foldl Ft acc)=bZ ((ks.zip gs).foldl Ft bcc)/\nn ((ns.zip gs).foldl Ft acc)/\nn ((ks.zip gs).foldl Ft bcc)
 | [],ns,ks,acc,bcc,_,_,_,h,h1,h2=>by simp;exact⟨h,h1,h2⟩
 | g::gs,[],[],acc,bcc,_,_,_,h,h1,h2=>by simp;exact⟨h,h1,h2⟩
 | g::gs,[],k::ks,acc,bcc,h,_,_,_,_,_=>by cases h
 | g::gs,n::ns,[],acc,bcc,h,_,_,_,_,_=>by cases h
 | g::gs,n::ns,k::ks,acc,bcc,h,p1,p2,h3,p3,p4=>by
  have hh:mk3 n=mk3 k/\bZ ns=bZ ks:=by
   unfold bZ at h ⊢
   rw[qQp,qQp] at h
   exact⟨(List.cons.inj h).1,(List.cons.inj h).2⟩
  rw[List.zip_cons_cons,List.zip_cons_cons,List.foldl_cons,List.foldl_cons]
  have q1:=p1.head
  have q2:=p2.head
  cases g with
  | none=>exact vD gs ns ks acc bcc hh.2 p1.tail p2.tail h3 p3 p4
  | some j =>
   have r1:=xR p3 j
   have r2:=xR p4 j
   exact vD gs ns ks _ _ hh.2 p1.tail p2.tail (Im h3 j (Qs r1 r2 q1 q2 (tD h3 j) hh.1)) (Bq p3 j (by omega)) (Bq p4 j (by omega))
theorem Fq{ws os:List Str}{ms:List Md}{o:Str}{ns ks:List Int}(h:bZ ns=bZ ks)(h1:nn ns)(h2:nn ks):bZ (jC ws os ms ns o)=bZ (jC ws os ms ks o)/\nn (jC ws os ms ns o)/\nn (jC ws os ms ks o):=by
 have hl:ns.length=ks.length:=by
  have:(bZ ns).length=(bZ ks).length:=by rw[h]
  simpa [bZ] using this
 have hz:nn (List.replicate ns.length 0):=λx hx=>by
  have:=(List.mem_replicate.mp hx).2
  omega
 unfold jC
 rw[Ep h h1 h2]
 rw[<- hl]
 exact vD _ _ _ _ _ h h1 h2 rfl hz hz
theorem IK:∀(acc:List Int) (j:Nat) (n:Int),j<acc.length->(acc.set j (acc.getD j 0+n)).sum=acc.sum+n
 | x::acc,0,n,_=>by simp;omega
 | x::acc,j+1,n,h=>by
  have:=IK acc j n (by simpa using h)
  simp at this ⊢
  omega
 | [],_,_,h=>by cases h
theorem wA:∀(gs:List (Option Nat)) (ns acc:List Int),gs.length=ns.length->(∀j,some j∈gs->j<acc.length)->(∀(i:Nat),gs[i]? = some none->ns[i]? = some 0)->((ns.zip gs).foldl Ft acc).sum=acc.sum+ns.sum
 | [],[],acc,_,_,_=>by simp
 | g::gs,[],acc,h,_,_=>by cases h
 | [],n::ns,acc,h,_,_=>by cases h
 | g::gs,n::ns,acc,h,h1,h2=>by
  rw[List.zip_cons_cons,List.foldl_cons]
  have hl:gs.length=ns.length:=by simpa using h
  cases g with
  | none =>
   have e0:n=0:=by simpa using h2 0 rfl
   have:=wA gs ns acc hl (λj hj=>h1 j (qQd _ hj)) (λi hi=>by simpa using h2 (i+1) (by simpa using hi))
   show ((ns.zip gs).foldl Ft acc).sum=_
   rw[this,List.sum_cons]
   omega
  | some j =>
   have hj:=h1 j qQc
   have:=wA gs ns (acc.set j (acc.getD j 0+n)) hl (λi hi=>by rw[List.length_set];exact h1 i (qQd _ hi)) (λi hi=>by simpa using h2 (i+1) (by simpa using hi))
   show ((ns.zip gs).foldl Ft (acc.set j (acc.getD j 0+n))).sum=_
   rw[this,IK _ _ _ hj,List.sum_cons]
   omega
theorem Hk{ws os:List Str}{ms:List Md}{ss:List Str}(h:POk ws os ms ss){ns:List Int}{o:Str}(ho:o∈os){a:Nat}(ha:a<ms.length)(e:qG ws os ms ns o a=none):ns.getD a 0=0:=by
 unfold qG at e
 split at e
 ·assumption
 ·obtain⟨g,hg,en⟩:=Fy h ha ho (Ln h (ns.set a (ns.getD a 0 - 1)))
  unfold yI at e
  rw[en] at e
  obtain⟨j,ej⟩:=qU hg
  have:Ed g (nO ms)=none:=e
  rw[ej] at this
  cases this
theorem Jh{ws os:List Str}{ms:List Md}{o:Str}{ns:List Int}:(jC ws os ms ns o).length=ns.length:=by
 unfold jC
 rw[Jc]
 simp
theorem FQ{ws os:List Str}{ms:List Md}{ss:List Str}(h:POk ws os ms ss){ns:List Int}(hn:ns.length=ms.length){o:Str}(ho:o∈os):(jC ws os ms ns o).sum=ns.sum:=by
 unfold jC
 rw[wA _ _ _ (by simp[su,hn]) (λj hj=>?_) (λi hi=>?_)]
 ·simp
 ·unfold su at hj
  obtain⟨a,_,ea⟩:=qQh.mp hj
  have:=Fo ea
  simp;omega
 ·unfold su at hi
  rw[qQq] at hi
  obtain⟨a,h1,h2⟩:=qQi.mp hi
  have hlt:i<ms.length:=by
   have:=(qQa.mp h1).1
   simpa using this
  rw[List.getElem?_range hlt] at h1
  cases h1
  have:=Hk h ho hlt h2
  rw[qQz,qQf (by omega)] at this
  rw[qQf (by omega)]
  simpa using this
theorem uL:∀{ns:List Int},nn ns->∀n∈ns,n<=ns.sum
 | x::ns,h,n,hn=>by
  have h1:=uG h.tail
  have h2:=h.head
  rw[List.sum_cons]
  rcases qQj.mp hn with rfl|hn
  ·omega
  ·have:=uL h.tail n hn
   omega
theorem Jf.of{ms:List Md}{ns:List Int}(hl:ns.length=ms.length)(h:nn ns)(h1:1<=ns.sum)(h2:ns.sum<=1000000000000):Jf ms ns :=
 ⟨⟨hl,λn hn=>⟨h n hn,by have:=uL h n hn;omega⟩⟩,h1,h2⟩
theorem Jf.nn{ms:List Md}{ns:List Int}(h:Jf ms ns):nn ns:=λn hn=>(h.n.pos n hn).1
theorem Jf.round{ws os:List Str}{ms:List Md}{ss:List Str}(h:POk ws os ms ss){ns:List Int}(r:Jf ms ns){o:Str}(ho:o∈os):Jf ms (jC ws os ms ns o):=by
 have e:=FQ h r.n.len ho
 exact .of (Jh.trans r.n.len) (Fq (ws:=ws) (os:=os) (ms:=ms) (o:=o) (rfl:bZ ns=bZ ns) r.nn r.nn).2.1 (by rw[e];exact r.s1) (by rw[e];exact r.s2)
def Fb(ws os:List Str)(ms:List Md)(ns:List Int)(zs:List Str):List Int:=zs.foldl (jC ws os ms) ns
theorem Jf.after{ws os:List Str}{ms:List Md}{ss:List Str}(h:POk ws os ms ss):∀{zs:List Str}{ns:List Int},Jf ms ns->(∀z∈zs,z∈os)->Jf ms (Fb ws os ms ns zs)
 | [],ns,r,_=>r
 | z::zs,ns,r,hz=>Jf.after h (zs:=zs) (r.round h (hz z qQc)) λy hy=>hz y (qQd _ hy)
def lowP(n:Nat)(ps:List (Option Nat)):Prop:=∀j,some j∈ps->j<n
structure afi(ms:List Md)(qs:List Int)(ps:List (Option Nat)):Prop where
 len:ps.length=ms.length
 low:lowP ms.length ps
 iff:∀k,k<ms.length->(qs.getD k 0=0↔ps[k]? = some none)
section
variable(m:Mem)(ns ks:List Int)(xs:List MV)
@[simp] theorem ZK:JD (.v (.lst xs)) (.v (xm ns)) m=.ok ⟨yd xs (ns.map .int),[]⟩ m:=id rfl
@[simp] theorem YC:JD (.v (xm ns)) (.v (.lst xs)) m=.ok ⟨yd (ns.map .int) xs,[]⟩ m:=id rfl
@[simp] theorem adN(k:Int):ixF (.v (xm ns)) (.v (.int k)) m=ixL (atI (ns.map MV.int) k) m:=id rfl
@[simp] theorem acL:JB (.v (xm ns)) m=.ok (.v (.int ns.length)) m:=by unfold xm;simp
@[simp] theorem abn:Dq (.v (xm ns)) m=.ok ⟨ns.map .int,[]⟩ m:=id rfl
end
section
variable(ws os:List Str)(ms:List Md)(ss:List Str)
end
section
variable{ws os ss:List Str}{ms:List Md}{ns:List Int}
@[simp] theorem VB(ns:List Int):Fb ws os ms ns []=ns:=id rfl
@[simp] theorem VM(ns:List Int)(z:Str):Fb ws os ms ns [z]=jC ws os ms ns z:=id rfl
end
@[simp] theorem acS(b:Bag)(r:Mem)(n:Nat)(o:Option MO):(bg b r).set (n+1) o=bg b (r.set n o):=id rfl
def atom:MV->Prop
 | .non=>True
 | .bl _=>True
 | .int _=>True
 | .str _=>True
 | _=>False
def LstAt(m:Mem)(x:MV)(xs:List MV):Prop:=x=.lst xs\/∃k,x=.ref k/\rB m k=some xs
def Sm(m:Mem):Nat->MV->MV->Prop
 | 0,_,_=>False
 | n+1,x,y=>(x=y/\atom y)\/(∃xs ys,x=.tup xs/\y=.tup ys/\xs.length=ys.length/\xs.length<=sizeLine/\∀(i:Nat) a b,xs[i]? = some a->ys[i]? = some b->Sm m n a b) \/
  ∃xs ys,LstAt m x xs/\y=.lst ys/\xs.length=ys.length/\xs.length<=sizeLine/\∀(i:Nat) a b,xs[i]? = some a->ys[i]? = some b->Sm m n a b
theorem Sm.vU{m:Mem}:∀(n:Nat) (x:MV),pl n x=true->Sm m n x x
 | 0,_,h=>by cases h
 | n+1,x,h=>by
  cases x with
  | non=>exact .inl ⟨rfl,trivial⟩
  | bl b=>exact .inl ⟨rfl,trivial⟩
  | int i=>exact .inl ⟨rfl,trivial⟩
  | str s=>exact .inl ⟨rfl,trivial⟩
  | tup xs =>
   have h:(decide (xs.length<=sizeLine)&&xs.all (pl n))=true:=h
   simp only[qQb,qQs,qQ0] at h
   exact .inr (.inl ⟨xs,xs,rfl,rfl,rfl,h.1,λi a b e1 e2=>by rw[e1] at e2;cases e2;exact Sm.vU n a (h.2 a (qQg e1))⟩)
  | lst xs =>
   have h:(decide (xs.length<=sizeLine)&&xs.all (pl n))=true:=h
   simp only[qQb,qQs,qQ0] at h
   exact .inr (.inr ⟨xs,xs,.inl rfl,rfl,rfl,h.1,λi a b e1 e2=>by rw[e1] at e2;cases e2;exact Sm.vU n a (h.2 a (qQg e1))⟩)
  | _=>cases h
theorem Sm.atom{m:Mem}{n:Nat}{x:MV}(h:Rp.atom x):Sm m (n+1) x x:=.inl ⟨rfl,h⟩
theorem Sm.lst{m:Mem}{n:Nat}{x:MV}{xs:List MV}(h:LstAt m x xs)(hl:xs.length<=sizeLine)(hp:∀y∈xs,pl n y=true):Sm m (n+1) x (.lst xs) :=
 .inr (.inr ⟨xs,xs,h,rfl,rfl,hl,λi a b e1 e2=>by rw[e1] at e2;cases e2;exact Sm.vU n a (hp a (qQg e1))⟩)
theorem Sm.tup{m:Mem}{n:Nat}{xs:List MV}(hl:xs.length<=sizeLine)(hp:∀y∈xs,pl n y=true):Sm m (n+1) (.tup xs) (.tup xs) :=
 .inr (.inl ⟨xs,xs,rfl,rfl,rfl,hl,λi a b e1 e2=>by rw[e1] at e2;cases e2;exact Sm.vU n a (hp a (qQg e1))⟩)
theorem Sm.two{m:Mem}{n:Nat}{a b c d:MV}(h1:Sm m n a c)(h2:Sm m n b d):Sm m (n+1) (.lst [a,b]) (.lst [c,d]) :=
 .inr (.inr ⟨[a,b],[c,d],.inl rfl,rfl,rfl,by rw[sizeLine_eq];simp,λi x y e1 e2=>by
  match i with
  | 0=>cases e1;cases e2;exact h1
  | 1=>cases e1;cases e2;exact h2
  | i+2=>simp at e1⟩)
theorem PL{n:Nat}{zs:List Int}:∀y∈zs.map MV.int,pl (n+1) y=true:=λy hy=>by
 obtain⟨z,_,rfl⟩:=qQh.mp hy
 rfl
theorem Sm.ints{m:Mem}{n:Nat}{ns:List Int}(h:ns.length<=sizeLine):Sm m (n+2) (xm ns) (xm ns):=Sm.tup (by simpa using h) PL
@[simp] theorem acH(b:Bag)(r l:Mem):bg b r++l=bg b (r++l):=id rfl
@[simp] theorem abD(b:Bag)(r:Mem):(bg b r).length=r.length+1:=id rfl
section
variable(m:Mem)
@[simp] theorem SJ(x y:OV):BZ.F x y m=TQ (!·) x y m:=id rfl
@[simp] theorem acB(f:Bool->Bool)(z:Str)(ks:List Str)(is:List Int):TQ f (.v (.str z)) (.v (.kd ks is)) m=.ok (.v (.bl (f ((ks.zip is).lookup z).isSome))) m:=id rfl
def kdR(o:Option Int)(m:Mem):R OV:=match o with
 | some i=>.ok (.v (.int i)) m
 | none=>.stuck
@[simp] theorem adz(i:Int):kdR (some i) m=.ok (.v (.int i)) m:=id rfl
@[simp] theorem acs(z:Str)(ks:List Str)(is:List Int):Vh.F [.v (.kd ks is),.v (.str z)] m=kdR ((ks.zip is).lookup z) m:=by
 have e:zH (.v (.str z)) (.v (.kd ks is))=some ((ks.zip is).lookup z):=rfl
 show Sd (.v (.kd ks is)) (.v (.str z)) m=_
 unfold Sd
 rw[e]
 cases (ks.zip is).lookup z <;> rfl
@[simp] theorem ad4(cs:List (Str × Fn))(x y:OV):(Vr cs).F x y m=UJ id cs x y m:=id rfl
@[simp] theorem Zk(f:Bool->Bool)(b:Bool):Ku f (.ok (.bl b) m)=.ok (.v (.bl (f b))) m:=id rfl
end
def nm(ms:List Md)(a:Nat):Str:=(nO ms).getD a ""
inductive Wi where
 | apart (a b:Nat)
 | most (a k:Nat)
 | all (a:Nat)
 | snd (z:Str)
 | nev (z:Str)
section
variable{ws os ss:List Str}{ms:List Md}{ns:List Int}
theorem FZ(z:Str)(m:Mem):cP [iz ws os ms ss,.str z] m=.ok (.bl (decide (z∈nO ms))) m:=by
 refine Is.of ?_
 unfold fj
 simp[vY]
@[simp] theorem X6(f:Bool->Bool)(z:Str)(m:Mem):UJ f [("Program",bM)] (.v (.str z)) (.v (iz ws os ms ss)) m=.ok (.v (.bl (f (decide (z∈nO ms))))) m:=by
 show Ku f (cP [iz ws os ms ss,.str z] m)=_
 rw[FZ]
 rfl
end
@[simp] theorem aai(x g f code:Str)(v:MV)(s:Sl)(m:Mem):(yq x g f code).F [.v v] s m=.ex x [f,"code"] [v,.str code] s m:=id rfl
@[simp] theorem Zt(x g f code:Str)(s:Sl)(m:Mem):(yq x g f code).pre s m=true:=id rfl
theorem Vw{n:Nat}{xs:List MV}(hl:xs.length<=100000)(h:∀x∈xs,pl n x=true):pl (n+1) (.tup xs)=true:=by
 show (decide (xs.length<=sizeLine)&&xs.all (pl n))=true
 simp only[qQb,qQs,qQ0]
 exact⟨by rw[sizeLine_eq];omega,h⟩
theorem Uo{n:Nat}{xs:List MV}(hl:xs.length<=100000)(h:∀x∈xs,pl n x=true):pl (n+1) (.lst xs)=true:=by
 show (decide (xs.length<=sizeLine)&&xs.all (pl n))=true
 simp only[qQb,qQs,qQ0]
 exact⟨by rw[sizeLine_eq];omega,h⟩
def W4:MV->Bool
 | .int _=>true
 | .non=>true
 | .bl _=>true
 | .str _=>true
 | .tup [.int _]=>true
 | _=>false
def adP(lo hi:Int):MV->Bool
 | .int n=>decide (lo<=n)&&decide (n<=hi)
 | _=>false
section
variable{ws os ss:List Str}{ms:List Md}
def Bad(n:Nat)(v:MV):Prop:=v=.non\/(∃i,v=.int i)\/(∃z,v=.str z)\/(∃ns:List Int,v=.lst (ns.map .int)/\ns.length<=1000)\/∃xs,v=.tup xs/\xs.length<=1000/\(∀x∈xs,W4 x=true)/\(xs.length≠n\/xs.all (adP 0 1000000000000)=false\/∃ns:List Int,xs=ns.map .int/\(ns.sum<1\/1000000000000<ns.sum))
theorem Bad.pl{n:Nat}{v:MV}(h:Bad n v):pl 3 v=true:=by
 have hs:=sizeLine_eq
 have el:∀x,W4 x=true->Rp.pl 2 x=true:=λx hx=>by
  unfold W4 at hx
  split at hx <;> first|rfl|cases hx
 rcases h with rfl|⟨i,rfl⟩|⟨z,rfl⟩|⟨ns,rfl,hl⟩|⟨xs,rfl,h1,hx,h⟩
 ·rfl
 ·rfl
 ·rfl
 ·show (decide _&&_)=true
  simp only[qQb,qQs,qQ0]
  exact⟨by simp;omega,λx hx=>by obtain⟨n,_,rfl⟩:=qQh.mp hx;rfl⟩
 ·show (decide _&&_)=true
  simp only[qQb,qQs,qQ0]
  exact⟨by omega,λx hx'=>el x (hx x hx')⟩
theorem zf:∀{xs:List MV},(∀x∈xs,cl x=true)->yS xs=true
 | [],_=>rfl
 | x::xs,h=>by
  show (cl x&&yS xs)=true
  rw[h x qQc,zf λy hy=>h y (qQd _ hy)];rfl
theorem Ly(ns:List Int):yS (ns.map MV.int)=true:=zf λx hx=>by obtain⟨n,_,rfl⟩:=qQh.mp hx;rfl
theorem Bad.cl{n:Nat}{v:MV}(h:Bad n v):Rc.cl v=true:=by
 rcases h with rfl|⟨i,rfl⟩|⟨z,rfl⟩|⟨ns,rfl,hl⟩|⟨xs,rfl,h1,hx,h⟩
 ·rfl
 ·rfl
 ·rfl
 ·exact Ly ns
 ·refine zf λx hx'=>?_
  have:=hx x hx'
  unfold W4 at this
  split at this <;> first|rfl|cases this
section
variable(ws os:List Str)(ms:List Md)(ss:List Str)(m:Mem)
end
end
section
variable{cs:List Str}{c:Str}{v:MV}{m:Mem}
theorem YZ{f:Str}{ks:List Str}{xs:List MV}{y:MV}(hc:c∈cs)(h:dX ks xs f=some y)(m:Mem):(pXf cs f).F [.v (.exn c ks xs)] m=.ok (.v y) m:=by
 show (if c∈cs then _ else _)=_
 rw[if_pos hc,h]
end
def Lq:List MV:=[.non,.bl true,.bl false,.int 3,.int (-1),.str "",.str "A",.str "seventh",.str "a1",.tup [],.lst [],.tup [.str "a"],.lst [.str "a"],.tup [.tup [.int 1,.str "a"]]]
theorem V9(b:Bag){more:List MV}(hm:more.length<=1000)(rest:Mem):∃(v:MV) (b':Bag),sE [.ref 0,.lst more] (bg b rest)=.ok v (bg b' rest)/\v∈Lq++more:=by
 have hs:=sizeLine_eq
 obtain⟨v,b1,hv,e1⟩:=YT b (Lq++more) (by simp[Lq];omega) rest
 refine⟨v,b1,?_,hv⟩
 have s1:1<=sizeLine:=by omega
 have s2:2<=sizeLine:=by omega
 have s14:14<=sizeLine:=by omega
 have z1:more.length+14<=sizeLine:=by omega
 have z2:14+more.length<=sizeLine:=by omega
 refine Is.of ?_
 unfold oE
 unfold Lq at e1
 simp at e1
 simp[s1,s2,s14,z1,z2,e1]
def noStr:MV->Bool
 | .non=>true
 | .bl _=>true
 | .int _=>true
 | .tup _=>true
 | .lst _=>true
 | _=>false
structure Odd(v:MV):Prop where
 d:Dat 64 v
 k:noStr v=true\/∃z,v=.str z/\¬ Nm z
section
variable{ws os ss:List Str}{ms:List Md}{ns:List Int}
theorem Odd.cl{v:MV}(h:v∈Lq):Rc.cl v=true:=by
 simp only[Lq,qQj,qQl,or_false] at h
 rcases h with rfl|rfl|rfl|rfl|rfl|rfl|rfl|rfl|rfl|rfl|rfl|rfl|rfl|rfl <;> rfl
theorem Odd.pl{v:MV}(h:v∈Lq):Rp.pl 3 v=true:=by
 simp only[Lq,qQj,qQl,or_false] at h
 rcases h with rfl|rfl|rfl|rfl|rfl|rfl|rfl|rfl|rfl|rfl|rfl|rfl|rfl|rfl <;> decide +kernel
end
def trK(cs:List Str)(Mf:Mir)(fs:List (Mem->R OV))(acc:List MV)(x:OV)(m:Mem):R OV:=match x with
 | .v y=>yC cs Mf fs (acc++[y]) m
 | .b _=>.stuck
@[simp] theorem RJ(cs:List Str)(Mf:Mir)(acc:List MV)(m:Mem):yC cs Mf [] acc m=.ok (.v (.lst acc)) m:=id rfl
@[simp] theorem O7(cs:List Str)(Mf:Mir)(f:Mem->R OV)(fs:List (Mem->R OV))(acc:List MV)(m:Mem):yC cs Mf (f::fs) acc m=(Yg cs Mf (f m)).bd (trK cs Mf fs acc):=by
 show (Yg cs Mf (f m)).bind _=(Yg cs Mf (f m)).bind _
 congr 1
@[simp] theorem adY(cs:List Str)(Mf:Mir)(fs:List (Mem->R OV))(acc:List MV)(y:MV)(m:Mem):trK cs Mf fs acc (.v y) m=yC cs Mf fs (acc++[y]) m:=id rfl
@[simp] theorem Y7(m:Mem)(xs:List MV):Vz m (.v (.lst xs))=some xs:=id rfl
section
variable{ws os ss:List Str}{ms:List Md}{ns:List Int}
structure NoW(ws os:List Str)(ms:List Md)(ss:List Str)(v:MV):Prop where
 no:∀m,IV [iz ws os ms ss,v] m=.ok (.bl false) m
 c:Rc.cl v=true
 p:pl 4 v=true
end
def Plain(v:MV):Prop:=noStr v=true\/∃z,v=.str z/\z.length<=1000
theorem Plain.str{z:Str}(h:Nm z):Plain (.str z):=.inr ⟨z,rfl,by have:=h.1.2;omega⟩
section
variable{c:Str}{cs:List Str}{v:MV}
end
section
variable(ws os:List Str)(ms:List Md)(ss:List Str)(m:Mem)
end
@[simp] theorem XJ(p:Ve)(i:Nat)(ls:MEs)(mid:Option (Nat × ME))(d:ME)(b r:MSs)(s:Sl)(m:Mem):exs (.lamV p i ls mid d b r) s m=if i<s.length then Uy (Wr mid) (λs m=>p.F ((evL ls).map λf=>f s) (ev d) (exs b) (exs r) s m) (s.set i none) m else .stuck:=id rfl
@[simp] theorem acA:Wr none=none:=id rfl
@[simp] theorem aaW(j:Nat)(e:ME):Wr (some (j,e))=some (j,ev e):=id rfl
@[simp] theorem abB(k:Sl->Mem->SR)(s:Sl)(m:Mem):Uy none k s m=k s m:=id rfl
@[simp] theorem abi(j:Nat)(fe:Sl->Mem->R OV)(k:Sl->Mem->SR)(s:Sl)(m:Mem):Uy (some (j,fe)) k s m=(fe s m).ts s λx m=>(toV x m).ts s λx m=>k (s.set j (some (.v x))) m:=id rfl
section
variable{ws os ss:List Str}{ms:List Md}{ns:List Int}
end
theorem Ay{α:Type}[DecidableEq α]{f:α->MV}(h:∀x y,eqB (f x) (f y)=decide (x=y)):∀xs ys:List α,Em (xs.map f) (ys.map f)=decide (xs=ys)
 | [],[]=>by simp[Cj]
 | [],y::ys=>by simp[PN]
 | x::xs,[]=>by simp[Eu]
 | x::xs,y::ys=>by
  rw[qQp,qQp,Fx,h,Ay h xs ys,Bool.eq_iff_iff]
  simp
theorem Ru{α:Type}[DecidableEq α]{f:α->MV}(h:∀x y,eqB (f x) (f y)=decide (x=y))(xs ys:List α):eqB (.lst (xs.map f)) (.lst (ys.map f))=decide (xs=ys):=by rw[Mp,Ay h]
end Rp
namespace K01
open PySem PySem.Spec L2 Rc Rp
open PyProof.Rows hiding St signs
def Iv(X:MV)(s:Sl)(m:Mem):Prop:=∃a2 a3 a4 a5 a6 a7 a8 a9 a10 a11 a12 a13,s=[some (.v X),some (.v (.ref 0)),a2,a3,a4,a5,a6,a7,a8,a9,a10,a11,a12,a13]/\∃b,m=bg b []
def I2(X T v:MV)(s:Sl)(m:Mem):Prop:=∃a3 a4 a6 a9 a10 a11 a12 a13,s=[some (.v X),some (.v (.ref 0)),some (.v T),a3,a4,some (.v v),a6,some (.v (.lst (xg v))),some (.v (.lst (codes.map .str))),a9,a10,a11,a12,a13]/\∃b,m=bg b []
theorem KN(m:Mem):nU [] m=.new (.lst (codes.map .str)) m:=by
 have hs:=sizeLine_eq
 refine Is.of ?_
 unfold jd
 simp[codes,hs]
theorem S9(i j:Bool):eqB (.bl i) (.bl j)=decide (i=j):=by rw[Ja];cases i <;> cases j <;> rfl
theorem Gm(p:List Bool):Dat 64 (.lst (p.map .bl)):=(Es 63 _).mpr λy hy=>by
 obtain⟨b,_,rfl⟩:=qQh.mp hy
 exact uU _ _
theorem Vp(p q:List Bool)(m:Mem):neO (.v (.lst (p.map .bl))) (.v (.lst (q.map .bl))) m=.ok (.v (.bl (!decide (p=q)))) m:=by
 rw[GZ m _ _ (Gm p) (Gm q) _ _ rfl rfl,Ru S9]
theorem Rm(k:Int)(m:Mem):inB m (.v (.int k)) (.v (.lst [.int 12,.int 22]))=some (decide (k=12\/k=22)):=by
 rw[Qx m (x:=.int k) (xs:=[.int 12,.int 22]) rfl rfl rfl (nZ _ _) (λy hy=>by
  simp only[qQj,qQl,or_false] at hy
  rcases hy with rfl|rfl <;> exact nZ _ _)]
 simp[Gr,eq_comm]
def jf(k:Int):MV->MV
 | .int j=>.bl (decide (j=k))
 | _=>.non
theorem NB(k:Nat):(oW 0 23).map (jf k)=((List.range 23).map λj=>decide (j=k)).map MV.bl:=by
 unfold oW
 rw[qQt,qQt]
 refine List.map_congr_left λj _=>?_
 show MV.bl (decide ((0:Int)+(j:Int)=(k:Int)))=MV.bl (decide (j=k))
 congr 1
 exact decide_eq_decide.mpr (by omega)
theorem ne_eq(p q:List Bool)(h:p=q)(m:Mem):neO (.v (.lst (p.map .bl))) (.v (.lst (q.map .bl))) m=.ok (.v (.bl false)) m:=by
 rw[Vp,decide_eq_true h];rfl
theorem XC(a b c d e a' b' c' d' e':Bool)(h:[a,b,c,d,e]=[a',b',c',d',e'])(m:Mem):neO (.v (.lst [.bl a,.bl b,.bl c,.bl d,.bl e])) (.v (.lst [.bl a',.bl b',.bl c',.bl d',.bl e'])) m=.ok (.v (.bl false)) m:=ne_eq [a,b,c,d,e] [a',b',c',d',e'] h m
theorem law_true(ns:List Int)(hl:ns.length<=63):∃m',M_law [.kl (ns.map .int)] []=.ok (.bl true) m':=by
 have hs:=sizeLine_eq
 have s1:1<=sizeLine:=by omega
 have s2:2<=sizeLine:=by omega
 have s3:3<=sizeLine:=by omega
 obtain⟨b,eb⟩:=Pn ns []
 refine Tru.of ?_
 rw[Z7]
 unfold Bl
 simp[eb]
 refine W.for (Iv (.kl (ns.map .int))) ⟨_,_,_,_,_,_,_,_,_,_,_,_,rfl,b,rfl⟩ (λx hx s m hI=>?_) (λs m hI=>?_)
 ·obtain⟨a2,a3,a4,a5,a6,a7,a8,a9,a10,a11,a12,a13,rfl,b,rfl⟩:=hI
  obtain⟨v,b1,e1,hv⟩:=V9 b (more:=[.tup [.non,.int 2],.str "pip",.int 100000000000000000]) (by decide) []
  have q1:=λm=>Il v m
  have q2:=λm=>KN m
  simp[e1,q1,q2,s1,s2,s3]
  refine W.aeD (λ_=>I2 (.kl (ns.map .int)) x v) ⟨_,_,_,_,_,_,_,_,rfl,b1,rfl⟩ (λk y hy s m hI=>?_) (λs m hI=>?_)
  ·obtain⟨a3,a4,a6,a9,a10,a11,a12,a13,rfl,b,rfl⟩:=hI
   obtain⟨hk,rfl⟩:k<23/\y=.int k:=by
    have hk:k<23:=by simpa [oW] using (qQa.mp hy).1
    refine⟨hk,?_⟩
    rw[uR hk] at hy
    simpa using hy.symm
   obtain⟨c,ks,xs,A⟩:=aeF v k hk
   have a1:atI (xg v) (k:Int)=some (.exn c ks xs):=by rw[Rc.atI_nat];exact A.e
   have a2:atI (codes.map MV.str) (k:Int)=some (.str c):=by rw[Rc.atI_nat,qQq,A.cd];rfl
   have hc:c∈codes:=qQg A.cd
   have i1:∀m,inB m (.v (.int k)) (.v (.lst [.int 12,.int 22]))=some (decide (k=12\/k=22)):=λm=>by
    rw[Rm];congr 1;exact decide_eq_decide.mpr (by omega)
   have x1:∀m,(pXf ["InvalidName","InvalidWords","InvalidOrders","InvalidModes","InvalidStarts","UnknownMode","UnknownOrder","InvalidSound","InvalidRoom","InvalidRecord","InvalidWish","InvalidNumber","OtherProgram","TooMany","TooFew","InvalidText","InvalidPage","InvalidCommand","DuplicateName","Full","InvalidLimit","UnknownName","NothingLeft"] "code").F [.v (.exn c ks xs)] m=.ok (.v (.str c)) m:=λm=>YZ (cs:=codes) (f:="code") hc A.l m
   have x2:=λm=>kinds_ok hc ks xs m
   have pv:pl 3 v=true:=by
    simp only[Lq,List.mem_append,qQj,qQl,or_false] at hv
    rcases hv with (rfl|rfl|rfl|rfl|rfl|rfl|rfl|rfl|rfl|rfl|rfl|rfl|rfl|rfl)|rfl|rfl|rfl <;> rfl
   have g1:∀L:List MV,L.length<=1->(∀x∈L,x=v)->∀m,d9 5 [.lst [.str c,.tup L],.lst [.str c,.tup L]] m=.ok (.bl true) m:=λL hL h m=>same_refl 5 _ m (Uo (by simp) λx hx=>by
    simp only[qQj,qQl,or_false] at hx
    rcases hx with rfl|rfl
    ·rfl
    ·exact Vw (by omega) λx hx=>by rw[h x hx];exact pv)
   have t1:=λd=>Ff hc d
   have f1:=A.f
   have n1:=A.n
   have kn:(codes.map λd:Str=>MV.bl (decide (c=d)))=((List.range 23).map λj=>decide (j=k)).map MV.bl:=by rw[n1,qQt];rfl
   by_cases h:k=12\/k=22
   ·have g2:=g1 [] (by decide) (by simp)
    simp only[h,if_true] at f1
    simp[a1,a2,i1,h,s1,s2,s3,x1,x2,f1,g2,t1]
    refine W.map (jf k) (λy hy=>?_) (by rw[sizeLine_eq];decide) ?_
    ·obtain⟨j,hj,rfl⟩:=qQh.mp hy
     simp[jf]
    ·rw[List.nil_append,NB,kn]
     have ke:∀m,neO (.v (.lst (((List.range 23).map λj=>decide (j=k)).map MV.bl))) (.v (.lst (((List.range 23).map λj=>decide (j=k)).map MV.bl))) m=.ok (.v (.bl false)) m:=λm=>ne_eq _ _ rfl m
     generalize (((List.range 23).map λj=>decide (j=k)).map MV.bl)=L at ke
     have s5:5<=sizeLine:=by omega
     simp[ke,t1,s2,s3,s5]
     refine W.ite (λz=>?_) (λz=>?_)
     ·have n5:∀m,neO (.v (.lst [.bl (gG c),.bl (gG c),.bl (pO c),.bl (pB c),.bl (vg c)])) (.v (.lst [.bl true,.bl true,.bl false,.bl false,.bl false])) m=.ok (.v (.bl false)) m:=λm=>by
       rw[A.b1,A.b2,A.b3,A.b4]
       have z':k<21:=by omega
       exact XC _ _ _ _ _ _ _ _ _ _ (by simp[z'];omega) m
      simp[n5]
      exact⟨_,_,_,_,_,_,_,_,rfl,b,rfl⟩
     ·have n5:∀m,neO (.v (.lst [.bl (gG c),.bl (gG c),.bl (pO c),.bl (pB c),.bl (vg c)])) (.v (.lst [.bl false,.bl false,.bl (decide ((k:Int)=21)),.bl true,.bl (decide ((k:Int)=22))])) m=.ok (.v (.bl false)) m:=λm=>by
       rw[A.b1,A.b2,A.b3,A.b4]
       have z':¬ k<21:=by omega
       have e1:decide ((k:Int)=21)=decide (k=21):=decide_eq_decide.mpr (by omega)
       have e2:decide ((k:Int)=22)=decide (k=22):=decide_eq_decide.mpr (by omega)
       exact XC _ _ _ _ _ _ _ _ _ _ (by simp[z',e1,e2]) m
      simp[n5]
      exact⟨_,_,_,_,_,_,_,_,rfl,b,rfl⟩
   ·have g2:=g1 [v] (by simp) (by simp)
    simp only[h,if_false] at f1
    simp[a1,a2,i1,h,s1,s2,s3,x1,x2,f1,g2,t1]
    refine W.map (jf k) (λy hy=>?_) (by rw[sizeLine_eq];decide) ?_
    ·obtain⟨j,hj,rfl⟩:=qQh.mp hy
     simp[jf]
    ·rw[List.nil_append,NB,kn]
     have ke:∀m,neO (.v (.lst (((List.range 23).map λj=>decide (j=k)).map MV.bl))) (.v (.lst (((List.range 23).map λj=>decide (j=k)).map MV.bl))) m=.ok (.v (.bl false)) m:=λm=>ne_eq _ _ rfl m
     generalize (((List.range 23).map λj=>decide (j=k)).map MV.bl)=L at ke
     have s5:5<=sizeLine:=by omega
     simp[ke,t1,s2,s3,s5]
     refine W.ite (λz=>?_) (λz=>?_)
     ·have n5:∀m,neO (.v (.lst [.bl (gG c),.bl (gG c),.bl (pO c),.bl (pB c),.bl (vg c)])) (.v (.lst [.bl true,.bl true,.bl false,.bl false,.bl false])) m=.ok (.v (.bl false)) m:=λm=>by
       rw[A.b1,A.b2,A.b3,A.b4]
       have z':k<21:=by omega
       exact XC _ _ _ _ _ _ _ _ _ _ (by simp[z'];omega) m
      simp[n5]
      exact⟨_,_,_,_,_,_,_,_,rfl,b,rfl⟩
     ·have n5:∀m,neO (.v (.lst [.bl (gG c),.bl (gG c),.bl (pO c),.bl (pB c),.bl (vg c)])) (.v (.lst [.bl false,.bl false,.bl (decide ((k:Int)=21)),.bl true,.bl (decide ((k:Int)=22))])) m=.ok (.v (.bl false)) m:=λm=>by
       rw[A.b1,A.b2,A.b3,A.b4]
       have z':¬ k<21:=by omega
       have e1:decide ((k:Int)=21)=decide (k=21):=decide_eq_decide.mpr (by omega)
       have e2:decide ((k:Int)=22)=decide (k=22):=decide_eq_decide.mpr (by omega)
       exact XC _ _ _ _ _ _ _ _ _ _ (by simp[z',e1,e2]) m
      simp[n5]
      exact⟨_,_,_,_,_,_,_,_,rfl,b,rfl⟩
  ·obtain⟨a3,a4,a6,a9,a10,a11,a12,a13,rfl,b,rfl⟩:=hI
   simp
   exact⟨_,_,_,_,_,_,_,_,_,_,_,_,rfl,_,rfl⟩
 ·obtain⟨a2,a3,a4,a5,a6,a7,a8,a9,a10,a11,a12,a13,rfl,b,rfl⟩:=hI
  have k1:=λm=>same_refl 5 (.lst [.int 2,.int 3,.int 4,.str "a",.int 5,.str "b",.int 6,.str "c"]) m (by decide +kernel)
  have k2:=λm=>same_refl 5 (.lst [.int 1,.int 2,.int 3,.int 4,.int 5,.int 6,.int 7,.int 8,.int 9,.int 10,.int 11,.int 12,.int 13]) m (by decide +kernel)
  have p1:∀(b:du) (c:Str) (y:String) (t:Bool) (v:MV) (m:Mem),(Wf b c y t).F [.v v] m=.ok (.v (.bl t)) m:=λ_ _ _ _ _ _=>rfl
  simp (decide:=true) [qP,dX,hs,k1,k2,p1]
end K01
namespace Rc
open PySem PySem.Spec L2
open PyProof.Rows hiding St
theorem sck{N P:List Str}{sc:Scope}(a:sc.kind=.function:=by kernel_rfl)(b:sc.isCoroutine=false:=by kernel_rfl)(c:sc.isGenerator=false:=by kernel_rfl)(d:N.Nodup:=by decide +kernel)(e:N.take P.length=P:=by kernel_rfl)
  (f:∀x∈P,sc.names.lookup x=some .local\/sc.names.lookup x=some .cell:=by decide +kernel) (g:∀y∈sc.names,y.2≠.free:=by decide +kernel):FnScope N P sc:=⟨a,b,c,d,e,f,g⟩
section
variable{P:Program}{w:World}{K:PySem.W.Frag}{mg:Str->Option Value}{base:Heap}{k j:Nat}{f:Addr}{fd:FuncData}{F:Fn}
theorem aG(g:mg F.name=some (.ref f))(a:FnAt P w K mg base j f fd F)(h:j<=k:=by decide):nFn F P w K mg base k:=⟨f,fd,g,a.mono h⟩
theorem aC{p:dI->Prop}{n:dI}{l:List dI}(h:p n)(t:All p l):All p (n::l):=All.cons h t
variable{x qual:Str}{params:Arguments}{body:List Stmt}{scope:Scope}{dvs:List V}{kwd:List (Str × V)}{N gA:List Str}{cst:List (Str × MV)}{lam:Bool}
theorem FnAt.q(base:Heap)(k:Nat)(F:Fn)(FD:FunD K x qual params body scope dvs kwd f fd)(S:FnScope N F.ps scope)(mo:yw ⟨K,P,w⟩ mg gA cst){B:MSs}{L:List dI}(e:B.needs=L)(nd:All (λn:dI=>n P w K mg base k) L)(hB:mSs B ⟨N,scope,gA,cst,true,true,false⟩ body=true)
  (bi:Binds K fd F.ps []) (hM:∀as m,as.length=F.ps.length->F.M as m≠.stuck->runD N.length B as m=F.M as m:=by exact λ_ _ _ _=>rfl):FnAt P w K mg base (k+1) f fd F:=FnAt.of F FD S mo (by rw[e];exact nd) hB hM bi
end
abbrev MTq(gA:List Str)(cst:List (Str × MV))(B:MSs)(N:List Str)(d:Stmt):Prop:=mSs B ⟨N,defScope d,gA,cst,true,true,false⟩ (defBody d)=true
end Rc
namespace K01
open PySem PySem.Spec L2 Rc Rp
open PyProof.Rows hiding St
def gA:List Str:=["IndexError","LookupError","ValueError","abs","all","bool","int","isinstance","len","list","range","str","tuple","zip"]
def cst:List (Str × MV):=[]
theorem zr:MTq gA cst lA uP (top 27):=by kernel_rfl
theorem zA:lA.needs=[]:=by kernel_rfl
theorem zP:FnScope uP ["_law_script"] (defScope (top 27)):=sck
theorem zj:MTq gA cst fu uJ (top 28):=by kernel_rfl
theorem yX:fu.needs=[]:=by kernel_rfl
theorem zq:FnScope uJ ["_law_bag","_law_sides"] (defScope (top 28)):=sck
theorem Jj:MTq gA cst qW Bt (top 29):=by kernel_rfl
theorem GJ:qW.needs=[nFn iW]:=by kernel_rfl
theorem G9:FnScope Bt ["_law_bag","_law_things"] (defScope (top 29)):=sck
theorem Cq:MTq gA cst oE yo (top 32):=by kernel_rfl
theorem Cp:oE.needs=[nFn o7]:=by kernel_rfl
theorem Di:FnScope yo ["_law_bag","_law_more"] (defScope (top 32)):=sck
theorem v9:MTq gA cst gU qd (top 33):=by kernel_rfl
theorem vz:gU.needs=[cU bVE "InvalidName" "given" "given" "InvalidName",cU bVE "InvalidWords" "at" "at" "InvalidWords",cU bVE "InvalidOrders" "at" "at" "InvalidOrders",cU bVE "InvalidModes" "at" "at" "InvalidModes",cU bVE "InvalidStarts" "at" "at" "InvalidStarts",cU bVE "UnknownMode" "given" "given" "UnknownMode",cU bVE "UnknownOrder" "given" "given" "UnknownOrder",cU bVE "InvalidSound" "given" "given" "InvalidSound",cU bVE "InvalidRoom" "given" "given" "InvalidRoom",cU bVE "InvalidRecord" "given" "given" "InvalidRecord",cU bVE "InvalidWish" "given" "given" "InvalidWish",cU bVE "InvalidNumber" "given" "given" "InvalidNumber",De bVE "OtherProgram" "OtherProgram",cU bVE "TooMany" "most" "most" "TooMany",cU bVE "TooFew" "mode" "mode" "TooFew",cU bVE "InvalidText" "line" "line" "InvalidText",cU bVE "InvalidPage" "line" "line" "InvalidPage",cU bVE "InvalidCommand" "at" "at" "InvalidCommand",cU bVE "DuplicateName" "name" "name" "DuplicateName",cU bVE "Full" "limit" "limit" "Full",cU bVE "InvalidLimit" "given" "given" "InvalidLimit",cU bLE "UnknownName" "name" "name" "UnknownName",De bIE "NothingLeft" "NothingLeft"]:=by kernel_rfl
theorem vQ:FnScope qd ["_law_odd_here"] (defScope (top 33)):=sck
theorem xQ:MTq gA cst jd sG (top 34):=by kernel_rfl
theorem xY:jd.needs=[]:=by kernel_rfl
theorem ye:FnScope sG [] (defScope (top 34)):=sck
theorem za(M:Mir):mSs (iT ⟨"_law_same",["_law_found","_law_due"],M⟩) ⟨uQ,defScope (top 30),gA,cst,true,true,false⟩ (defBody (top 30))=true:=by
 kernel_rfl
theorem zK(F:Fn):(iT F).needs=[nFn F]:=by kernel_rfl
theorem zM:FnScope uQ ["_law_found","_law_due"] (defScope (top 30)):=sck
theorem xN:MTq gA cst bB sW (top 31):=by kernel_rfl
theorem xq:bB.needs=[aA "code" "InvalidName",aA "code" "InvalidWords",aA "code" "InvalidOrders",aA "code" "InvalidModes",aA "code" "InvalidStarts",aA "code" "UnknownMode",aA "code" "UnknownOrder",aA "code" "InvalidSound",aA "code" "InvalidRoom",aA "code" "InvalidRecord",aA "code" "InvalidWish",aA "code" "InvalidNumber",aA "code" "OtherProgram",aA "code" "TooMany",aA "code" "TooFew",aA "code" "InvalidText",aA "code" "InvalidPage",aA "code" "InvalidCommand",aA "code" "DuplicateName",aA "code" "Full",aA "code" "InvalidLimit",aA "code" "UnknownName",aA "code" "NothingLeft",aA "at" "InvalidName",aA "at" "InvalidWords",aA "at" "InvalidOrders",aA "at" "InvalidModes",aA "at" "InvalidStarts",aA "at" "UnknownMode",aA "at" "UnknownOrder",aA "at" "InvalidSound",aA "at" "InvalidRoom",aA "at" "InvalidRecord",aA "at" "InvalidWish",aA "at" "InvalidNumber",aA "at" "OtherProgram",aA "at" "TooMany",aA "at" "TooFew",aA "at" "InvalidText",aA "at" "InvalidPage",aA "at" "InvalidCommand",aA "at" "DuplicateName",aA "at" "Full",aA "at" "InvalidLimit",aA "at" "UnknownName",aA "at" "NothingLeft",aA "code" "InvalidName",aA "code" "InvalidWords",aA "code" "InvalidOrders",aA "code" "InvalidModes",aA "code" "InvalidStarts",aA "code" "UnknownMode",aA "code" "UnknownOrder",aA "code" "InvalidSound",aA "code" "InvalidRoom",aA "code" "InvalidRecord",aA "code" "InvalidWish",aA "code" "InvalidNumber",aA "code" "OtherProgram",aA "code" "TooMany",aA "code" "TooFew",aA "code" "InvalidText",aA "code" "InvalidPage",aA "code" "InvalidCommand",aA "code" "DuplicateName",aA "code" "Full",aA "code" "InvalidLimit",aA "code" "UnknownName",aA "code" "NothingLeft",aA "code" "InvalidName",aA "code" "InvalidWords",aA "code" "InvalidOrders",aA "code" "InvalidModes",aA "code" "InvalidStarts",aA "code" "UnknownMode",aA "code" "UnknownOrder",aA "code" "InvalidSound",aA "code" "InvalidRoom",aA "code" "InvalidRecord",aA "code" "InvalidWish",aA "code" "InvalidNumber",aA "code" "OtherProgram",aA "code" "TooMany",aA "code" "TooFew",aA "code" "InvalidText",aA "code" "InvalidPage",aA "code" "InvalidCommand",aA "code" "DuplicateName",aA "code" "Full",aA "code" "InvalidLimit",aA "code" "UnknownName",aA "code" "NothingLeft",aA "code" "InvalidName",aA "code" "InvalidWords",aA "code" "InvalidOrders",aA "code" "InvalidModes",aA "code" "InvalidStarts",aA "code" "UnknownMode",aA "code" "UnknownOrder",aA "code" "InvalidSound",aA "code" "InvalidRoom",aA "code" "InvalidRecord",aA "code" "InvalidWish",aA "code" "InvalidNumber",aA "code" "OtherProgram",aA "code" "TooMany",aA "code" "TooFew",aA "code" "InvalidText",aA "code" "InvalidPage",aA "code" "InvalidCommand",aA "code" "DuplicateName",aA "code" "Full",aA "code" "InvalidLimit",aA "code" "UnknownName",aA "code" "NothingLeft",aA "most" "InvalidName",aA "most" "InvalidWords",aA "most" "InvalidOrders",aA "most" "InvalidModes",aA "most" "InvalidStarts",aA "most" "UnknownMode",aA "most" "UnknownOrder",aA "most" "InvalidSound",aA "most" "InvalidRoom",aA "most" "InvalidRecord",aA "most" "InvalidWish",aA "most" "InvalidNumber",aA "most" "OtherProgram",aA "most" "TooMany",aA "most" "TooFew",aA "most" "InvalidText",aA "most" "InvalidPage",aA "most" "InvalidCommand",aA "most" "DuplicateName",aA "most" "Full",aA "most" "InvalidLimit",aA "most" "UnknownName",aA "most" "NothingLeft",aA "mode" "InvalidName",aA "mode" "InvalidWords",aA "mode" "InvalidOrders",aA "mode" "InvalidModes",aA "mode" "InvalidStarts",aA "mode" "UnknownMode",aA "mode" "UnknownOrder",aA "mode" "InvalidSound",aA "mode" "InvalidRoom",aA "mode" "InvalidRecord",aA "mode" "InvalidWish",aA "mode" "InvalidNumber",aA "mode" "OtherProgram",aA "mode" "TooMany",aA "mode" "TooFew",aA "mode" "InvalidText",aA "mode" "InvalidPage",aA "mode" "InvalidCommand",aA "mode" "DuplicateName",aA "mode" "Full",aA "mode" "InvalidLimit",aA "mode" "UnknownName",aA "mode" "NothingLeft",aA "code" "InvalidName",aA "code" "InvalidWords",aA "code" "InvalidOrders",aA "code" "InvalidModes",aA "code" "InvalidStarts",aA "code" "UnknownMode",aA "code" "UnknownOrder",aA "code" "InvalidSound",aA "code" "InvalidRoom",aA "code" "InvalidRecord",aA "code" "InvalidWish",aA "code" "InvalidNumber",aA "code" "OtherProgram",aA "code" "TooMany",aA "code" "TooFew",aA "code" "InvalidText",aA "code" "InvalidPage",aA "code" "InvalidCommand",aA "code" "DuplicateName",aA "code" "Full",aA "code" "InvalidLimit",aA "code" "UnknownName",aA "code" "NothingLeft",aA "line" "InvalidName",aA "line" "InvalidWords",aA "line" "InvalidOrders",aA "line" "InvalidModes",aA "line" "InvalidStarts",aA "line" "UnknownMode",aA "line" "UnknownOrder",aA "line" "InvalidSound",aA "line" "InvalidRoom",aA "line" "InvalidRecord",aA "line" "InvalidWish",aA "line" "InvalidNumber",aA "line" "OtherProgram",aA "line" "TooMany",aA "line" "TooFew",aA "line" "InvalidText",aA "line" "InvalidPage",aA "line" "InvalidCommand",aA "line" "DuplicateName",aA "line" "Full",aA "line" "InvalidLimit",aA "line" "UnknownName",aA "line" "NothingLeft",aA "code" "InvalidName",aA "code" "InvalidWords",aA "code" "InvalidOrders",aA "code" "InvalidModes",aA "code" "InvalidStarts",aA "code" "UnknownMode",aA "code" "UnknownOrder",aA "code" "InvalidSound",aA "code" "InvalidRoom",aA "code" "InvalidRecord",aA "code" "InvalidWish",aA "code" "InvalidNumber",aA "code" "OtherProgram",aA "code" "TooMany",aA "code" "TooFew",aA "code" "InvalidText",aA "code" "InvalidPage",aA "code" "InvalidCommand",aA "code" "DuplicateName",aA "code" "Full",aA "code" "InvalidLimit",aA "code" "UnknownName",aA "code" "NothingLeft",aA "name" "InvalidName",aA "name" "InvalidWords",aA "name" "InvalidOrders",aA "name" "InvalidModes",aA "name" "InvalidStarts",aA "name" "UnknownMode",aA "name" "UnknownOrder",aA "name" "InvalidSound",aA "name" "InvalidRoom",aA "name" "InvalidRecord",aA "name" "InvalidWish",aA "name" "InvalidNumber",aA "name" "OtherProgram",aA "name" "TooMany",aA "name" "TooFew",aA "name" "InvalidText",aA "name" "InvalidPage",aA "name" "InvalidCommand",aA "name" "DuplicateName",aA "name" "Full",aA "name" "InvalidLimit",aA "name" "UnknownName",aA "name" "NothingLeft",aA "code" "InvalidName",aA "code" "InvalidWords",aA "code" "InvalidOrders",aA "code" "InvalidModes",aA "code" "InvalidStarts",aA "code" "UnknownMode",aA "code" "UnknownOrder",aA "code" "InvalidSound",aA "code" "InvalidRoom",aA "code" "InvalidRecord",aA "code" "InvalidWish",aA "code" "InvalidNumber",aA "code" "OtherProgram",aA "code" "TooMany",aA "code" "TooFew",aA "code" "InvalidText",aA "code" "InvalidPage",aA "code" "InvalidCommand",aA "code" "DuplicateName",aA "code" "Full",aA "code" "InvalidLimit",aA "code" "UnknownName",aA "code" "NothingLeft",aA "limit" "InvalidName",aA "limit" "InvalidWords",aA "limit" "InvalidOrders",aA "limit" "InvalidModes",aA "limit" "InvalidStarts",aA "limit" "UnknownMode",aA "limit" "UnknownOrder",aA "limit" "InvalidSound",aA "limit" "InvalidRoom",aA "limit" "InvalidRecord",aA "limit" "InvalidWish",aA "limit" "InvalidNumber",aA "limit" "OtherProgram",aA "limit" "TooMany",aA "limit" "TooFew",aA "limit" "InvalidText",aA "limit" "InvalidPage",aA "limit" "InvalidCommand",aA "limit" "DuplicateName",aA "limit" "Full",aA "limit" "InvalidLimit",aA "limit" "UnknownName",aA "limit" "NothingLeft",aA "given" "InvalidName",aA "given" "InvalidWords",aA "given" "InvalidOrders",aA "given" "InvalidModes",aA "given" "InvalidStarts",aA "given" "UnknownMode",aA "given" "UnknownOrder",aA "given" "InvalidSound",aA "given" "InvalidRoom",aA "given" "InvalidRecord",aA "given" "InvalidWish",aA "given" "InvalidNumber",aA "given" "OtherProgram",aA "given" "TooMany",aA "given" "TooFew",aA "given" "InvalidText",aA "given" "InvalidPage",aA "given" "InvalidCommand",aA "given" "DuplicateName",aA "given" "Full",aA "given" "InvalidLimit",aA "given" "UnknownName",aA "given" "NothingLeft"]:=by kernel_rfl
theorem xT:FnScope sW ["_law_e"] (defScope (top 31)):=sck
theorem rF:MTq gA cst fK mH (top 35):=by kernel_rfl
theorem rP:fK.needs=[nGl "InvalidName",au "InvalidName",az (.own "InvalidName") (.own "InvalidName") true,au "InvalidWords",az (.own "InvalidWords") (.own "InvalidName") false,au "InvalidOrders",az (.own "InvalidOrders") (.own "InvalidName") false,au "InvalidModes",az (.own "InvalidModes") (.own "InvalidName") false,au "InvalidStarts",az (.own "InvalidStarts") (.own "InvalidName") false,au "UnknownMode",az (.own "UnknownMode") (.own "InvalidName") false,au "UnknownOrder",az (.own "UnknownOrder") (.own "InvalidName") false,au "InvalidSound",az (.own "InvalidSound") (.own "InvalidName") false,au "InvalidRoom",az (.own "InvalidRoom") (.own "InvalidName") false,au "InvalidRecord",az (.own "InvalidRecord") (.own "InvalidName") false,au "InvalidWish",az (.own "InvalidWish") (.own "InvalidName") false,au "InvalidNumber",az (.own "InvalidNumber") (.own "InvalidName") false,au "OtherProgram",az (.own "OtherProgram") (.own "InvalidName") false,au "TooMany",az (.own "TooMany") (.own "InvalidName") false,au "TooFew",az (.own "TooFew") (.own "InvalidName") false,au "InvalidText",az (.own "InvalidText") (.own "InvalidName") false,au "InvalidPage",az (.own "InvalidPage") (.own "InvalidName") false,au "InvalidCommand",az (.own "InvalidCommand") (.own "InvalidName") false,au "DuplicateName",az (.own "DuplicateName") (.own "InvalidName") false,au "Full",az (.own "Full") (.own "InvalidName") false,au "InvalidLimit",az (.own "InvalidLimit") (.own "InvalidName") false,au "UnknownName",az (.own "UnknownName") (.own "InvalidName") false,au "NothingLeft",az (.own "NothingLeft") (.own "InvalidName") false,nGl "InvalidWords",au "InvalidName",az (.own "InvalidName") (.own "InvalidWords") false,au "InvalidWords",az (.own "InvalidWords") (.own "InvalidWords") true,au "InvalidOrders",az (.own "InvalidOrders") (.own "InvalidWords") false,au "InvalidModes",az (.own "InvalidModes") (.own "InvalidWords") false,au "InvalidStarts",az (.own "InvalidStarts") (.own "InvalidWords") false,au "UnknownMode",az (.own "UnknownMode") (.own "InvalidWords") false,au "UnknownOrder",az (.own "UnknownOrder") (.own "InvalidWords") false,au "InvalidSound",az (.own "InvalidSound") (.own "InvalidWords") false,au "InvalidRoom",az (.own "InvalidRoom") (.own "InvalidWords") false,au "InvalidRecord",az (.own "InvalidRecord") (.own "InvalidWords") false,au "InvalidWish",az (.own "InvalidWish") (.own "InvalidWords") false,au "InvalidNumber",az (.own "InvalidNumber") (.own "InvalidWords") false,au "OtherProgram",az (.own "OtherProgram") (.own "InvalidWords") false,au "TooMany",az (.own "TooMany") (.own "InvalidWords") false,au "TooFew",az (.own "TooFew") (.own "InvalidWords") false,au "InvalidText",az (.own "InvalidText") (.own "InvalidWords") false,au "InvalidPage",az (.own "InvalidPage") (.own "InvalidWords") false,au "InvalidCommand",az (.own "InvalidCommand") (.own "InvalidWords") false,au "DuplicateName",az (.own "DuplicateName") (.own "InvalidWords") false,au "Full",az (.own "Full") (.own "InvalidWords") false,au "InvalidLimit",az (.own "InvalidLimit") (.own "InvalidWords") false,au "UnknownName",az (.own "UnknownName") (.own "InvalidWords") false,au "NothingLeft",az (.own "NothingLeft") (.own "InvalidWords") false,nGl "InvalidOrders",au "InvalidName",az (.own "InvalidName") (.own "InvalidOrders") false,au "InvalidWords",az (.own "InvalidWords") (.own "InvalidOrders") false,au "InvalidOrders",az (.own "InvalidOrders") (.own "InvalidOrders") true,au "InvalidModes",az (.own "InvalidModes") (.own "InvalidOrders") false,au "InvalidStarts",az (.own "InvalidStarts") (.own "InvalidOrders") false,au "UnknownMode",az (.own "UnknownMode") (.own "InvalidOrders") false,au "UnknownOrder",az (.own "UnknownOrder") (.own "InvalidOrders") false,au "InvalidSound",az (.own "InvalidSound") (.own "InvalidOrders") false,au "InvalidRoom",az (.own "InvalidRoom") (.own "InvalidOrders") false,au "InvalidRecord",az (.own "InvalidRecord") (.own "InvalidOrders") false,au "InvalidWish",az (.own "InvalidWish") (.own "InvalidOrders") false,au "InvalidNumber",az (.own "InvalidNumber") (.own "InvalidOrders") false,au "OtherProgram",az (.own "OtherProgram") (.own "InvalidOrders") false,au "TooMany",az (.own "TooMany") (.own "InvalidOrders") false,au "TooFew",az (.own "TooFew") (.own "InvalidOrders") false,au "InvalidText",az (.own "InvalidText") (.own "InvalidOrders") false,au "InvalidPage",az (.own "InvalidPage") (.own "InvalidOrders") false,au "InvalidCommand",az (.own "InvalidCommand") (.own "InvalidOrders") false,au "DuplicateName",az (.own "DuplicateName") (.own "InvalidOrders") false,au "Full",az (.own "Full") (.own "InvalidOrders") false,au "InvalidLimit",az (.own "InvalidLimit") (.own "InvalidOrders") false,au "UnknownName",az (.own "UnknownName") (.own "InvalidOrders") false,au "NothingLeft",az (.own "NothingLeft") (.own "InvalidOrders") false,nGl "InvalidModes",au "InvalidName",az (.own "InvalidName") (.own "InvalidModes") false,au "InvalidWords",az (.own "InvalidWords") (.own "InvalidModes") false,au "InvalidOrders",az (.own "InvalidOrders") (.own "InvalidModes") false,au "InvalidModes",az (.own "InvalidModes") (.own "InvalidModes") true,au "InvalidStarts",az (.own "InvalidStarts") (.own "InvalidModes") false,au "UnknownMode",az (.own "UnknownMode") (.own "InvalidModes") false,au "UnknownOrder",az (.own "UnknownOrder") (.own "InvalidModes") false,au "InvalidSound",az (.own "InvalidSound") (.own "InvalidModes") false,au "InvalidRoom",az (.own "InvalidRoom") (.own "InvalidModes") false,au "InvalidRecord",az (.own "InvalidRecord") (.own "InvalidModes") false,au "InvalidWish",az (.own "InvalidWish") (.own "InvalidModes") false,au "InvalidNumber",az (.own "InvalidNumber") (.own "InvalidModes") false,au "OtherProgram",az (.own "OtherProgram") (.own "InvalidModes") false,au "TooMany",az (.own "TooMany") (.own "InvalidModes") false,au "TooFew",az (.own "TooFew") (.own "InvalidModes") false,au "InvalidText",az (.own "InvalidText") (.own "InvalidModes") false,au "InvalidPage",az (.own "InvalidPage") (.own "InvalidModes") false,au "InvalidCommand",az (.own "InvalidCommand") (.own "InvalidModes") false,au "DuplicateName",az (.own "DuplicateName") (.own "InvalidModes") false,au "Full",az (.own "Full") (.own "InvalidModes") false,au "InvalidLimit",az (.own "InvalidLimit") (.own "InvalidModes") false,au "UnknownName",az (.own "UnknownName") (.own "InvalidModes") false,au "NothingLeft",az (.own "NothingLeft") (.own "InvalidModes") false,nGl "InvalidStarts",au "InvalidName",az (.own "InvalidName") (.own "InvalidStarts") false,au "InvalidWords",az (.own "InvalidWords") (.own "InvalidStarts") false,au "InvalidOrders",az (.own "InvalidOrders") (.own "InvalidStarts") false,au "InvalidModes",az (.own "InvalidModes") (.own "InvalidStarts") false,au "InvalidStarts",az (.own "InvalidStarts") (.own "InvalidStarts") true,au "UnknownMode",az (.own "UnknownMode") (.own "InvalidStarts") false,au "UnknownOrder",az (.own "UnknownOrder") (.own "InvalidStarts") false,au "InvalidSound",az (.own "InvalidSound") (.own "InvalidStarts") false,au "InvalidRoom",az (.own "InvalidRoom") (.own "InvalidStarts") false,au "InvalidRecord",az (.own "InvalidRecord") (.own "InvalidStarts") false,au "InvalidWish",az (.own "InvalidWish") (.own "InvalidStarts") false,au "InvalidNumber",az (.own "InvalidNumber") (.own "InvalidStarts") false,au "OtherProgram",az (.own "OtherProgram") (.own "InvalidStarts") false,au "TooMany",az (.own "TooMany") (.own "InvalidStarts") false,au "TooFew",az (.own "TooFew") (.own "InvalidStarts") false,au "InvalidText",az (.own "InvalidText") (.own "InvalidStarts") false,au "InvalidPage",az (.own "InvalidPage") (.own "InvalidStarts") false,au "InvalidCommand",az (.own "InvalidCommand") (.own "InvalidStarts") false,au "DuplicateName",az (.own "DuplicateName") (.own "InvalidStarts") false,au "Full",az (.own "Full") (.own "InvalidStarts") false,au "InvalidLimit",az (.own "InvalidLimit") (.own "InvalidStarts") false,au "UnknownName",az (.own "UnknownName") (.own "InvalidStarts") false,au "NothingLeft",az (.own "NothingLeft") (.own "InvalidStarts") false,nGl "UnknownMode",au "InvalidName",az (.own "InvalidName") (.own "UnknownMode") false,au "InvalidWords",az (.own "InvalidWords") (.own "UnknownMode") false,au "InvalidOrders",az (.own "InvalidOrders") (.own "UnknownMode") false,au "InvalidModes",az (.own "InvalidModes") (.own "UnknownMode") false,au "InvalidStarts",az (.own "InvalidStarts") (.own "UnknownMode") false,au "UnknownMode",az (.own "UnknownMode") (.own "UnknownMode") true,au "UnknownOrder",az (.own "UnknownOrder") (.own "UnknownMode") false,au "InvalidSound",az (.own "InvalidSound") (.own "UnknownMode") false,au "InvalidRoom",az (.own "InvalidRoom") (.own "UnknownMode") false,au "InvalidRecord",az (.own "InvalidRecord") (.own "UnknownMode") false,au "InvalidWish",az (.own "InvalidWish") (.own "UnknownMode") false,au "InvalidNumber",az (.own "InvalidNumber") (.own "UnknownMode") false,au "OtherProgram",az (.own "OtherProgram") (.own "UnknownMode") false,au "TooMany",az (.own "TooMany") (.own "UnknownMode") false,au "TooFew",az (.own "TooFew") (.own "UnknownMode") false,au "InvalidText",az (.own "InvalidText") (.own "UnknownMode") false,au "InvalidPage",az (.own "InvalidPage") (.own "UnknownMode") false,au "InvalidCommand",az (.own "InvalidCommand") (.own "UnknownMode") false,au "DuplicateName",az (.own "DuplicateName") (.own "UnknownMode") false,au "Full",az (.own "Full") (.own "UnknownMode") false,au "InvalidLimit",az (.own "InvalidLimit") (.own "UnknownMode") false,au "UnknownName",az (.own "UnknownName") (.own "UnknownMode") false,au "NothingLeft",az (.own "NothingLeft") (.own "UnknownMode") false,nGl "UnknownOrder",au "InvalidName",az (.own "InvalidName") (.own "UnknownOrder") false,au "InvalidWords",az (.own "InvalidWords") (.own "UnknownOrder") false,au "InvalidOrders",az (.own "InvalidOrders") (.own "UnknownOrder") false,au "InvalidModes",az (.own "InvalidModes") (.own "UnknownOrder") false,au "InvalidStarts",az (.own "InvalidStarts") (.own "UnknownOrder") false,au "UnknownMode",az (.own "UnknownMode") (.own "UnknownOrder") false,au "UnknownOrder",az (.own "UnknownOrder") (.own "UnknownOrder") true,au "InvalidSound",az (.own "InvalidSound") (.own "UnknownOrder") false,au "InvalidRoom",az (.own "InvalidRoom") (.own "UnknownOrder") false,au "InvalidRecord",az (.own "InvalidRecord") (.own "UnknownOrder") false,au "InvalidWish",az (.own "InvalidWish") (.own "UnknownOrder") false,au "InvalidNumber",az (.own "InvalidNumber") (.own "UnknownOrder") false,au "OtherProgram",az (.own "OtherProgram") (.own "UnknownOrder") false,au "TooMany",az (.own "TooMany") (.own "UnknownOrder") false,au "TooFew",az (.own "TooFew") (.own "UnknownOrder") false,au "InvalidText",az (.own "InvalidText") (.own "UnknownOrder") false,au "InvalidPage",az (.own "InvalidPage") (.own "UnknownOrder") false,au "InvalidCommand",az (.own "InvalidCommand") (.own "UnknownOrder") false,au "DuplicateName",az (.own "DuplicateName") (.own "UnknownOrder") false,au "Full",az (.own "Full") (.own "UnknownOrder") false,au "InvalidLimit",az (.own "InvalidLimit") (.own "UnknownOrder") false,au "UnknownName",az (.own "UnknownName") (.own "UnknownOrder") false,au "NothingLeft",az (.own "NothingLeft") (.own "UnknownOrder") false,nGl "InvalidSound",au "InvalidName",az (.own "InvalidName") (.own "InvalidSound") false,au "InvalidWords",az (.own "InvalidWords") (.own "InvalidSound") false,au "InvalidOrders",az (.own "InvalidOrders") (.own "InvalidSound") false,au "InvalidModes",az (.own "InvalidModes") (.own "InvalidSound") false,au "InvalidStarts",az (.own "InvalidStarts") (.own "InvalidSound") false,au "UnknownMode",az (.own "UnknownMode") (.own "InvalidSound") false,au "UnknownOrder",az (.own "UnknownOrder") (.own "InvalidSound") false,au "InvalidSound",az (.own "InvalidSound") (.own "InvalidSound") true,au "InvalidRoom",az (.own "InvalidRoom") (.own "InvalidSound") false,au "InvalidRecord",az (.own "InvalidRecord") (.own "InvalidSound") false,au "InvalidWish",az (.own "InvalidWish") (.own "InvalidSound") false,au "InvalidNumber",az (.own "InvalidNumber") (.own "InvalidSound") false,au "OtherProgram",az (.own "OtherProgram") (.own "InvalidSound") false,au "TooMany",az (.own "TooMany") (.own "InvalidSound") false,au "TooFew",az (.own "TooFew") (.own "InvalidSound") false,au "InvalidText",az (.own "InvalidText") (.own "InvalidSound") false,au "InvalidPage",az (.own "InvalidPage") (.own "InvalidSound") false,au "InvalidCommand",az (.own "InvalidCommand") (.own "InvalidSound") false,au "DuplicateName",az (.own "DuplicateName") (.own "InvalidSound") false,au "Full",az (.own "Full") (.own "InvalidSound") false,au "InvalidLimit",az (.own "InvalidLimit") (.own "InvalidSound") false,au "UnknownName",az (.own "UnknownName") (.own "InvalidSound") false,au "NothingLeft",az (.own "NothingLeft") (.own "InvalidSound") false,nGl "InvalidRoom",au "InvalidName",az (.own "InvalidName") (.own "InvalidRoom") false,au "InvalidWords",az (.own "InvalidWords") (.own "InvalidRoom") false,au "InvalidOrders",az (.own "InvalidOrders") (.own "InvalidRoom") false,au "InvalidModes",az (.own "InvalidModes") (.own "InvalidRoom") false,au "InvalidStarts",az (.own "InvalidStarts") (.own "InvalidRoom") false,au "UnknownMode",az (.own "UnknownMode") (.own "InvalidRoom") false,au "UnknownOrder",az (.own "UnknownOrder") (.own "InvalidRoom") false,au "InvalidSound",az (.own "InvalidSound") (.own "InvalidRoom") false,au "InvalidRoom",az (.own "InvalidRoom") (.own "InvalidRoom") true,au "InvalidRecord",az (.own "InvalidRecord") (.own "InvalidRoom") false,au "InvalidWish",az (.own "InvalidWish") (.own "InvalidRoom") false,au "InvalidNumber",az (.own "InvalidNumber") (.own "InvalidRoom") false,au "OtherProgram",az (.own "OtherProgram") (.own "InvalidRoom") false,au "TooMany",az (.own "TooMany") (.own "InvalidRoom") false,au "TooFew",az (.own "TooFew") (.own "InvalidRoom") false,au "InvalidText",az (.own "InvalidText") (.own "InvalidRoom") false,au "InvalidPage",az (.own "InvalidPage") (.own "InvalidRoom") false,au "InvalidCommand",az (.own "InvalidCommand") (.own "InvalidRoom") false,au "DuplicateName",az (.own "DuplicateName") (.own "InvalidRoom") false,au "Full",az (.own "Full") (.own "InvalidRoom") false,au "InvalidLimit",az (.own "InvalidLimit") (.own "InvalidRoom") false,au "UnknownName",az (.own "UnknownName") (.own "InvalidRoom") false,au "NothingLeft",az (.own "NothingLeft") (.own "InvalidRoom") false,nGl "InvalidRecord",au "InvalidName",az (.own "InvalidName") (.own "InvalidRecord") false,au "InvalidWords",az (.own "InvalidWords") (.own "InvalidRecord") false,au "InvalidOrders",az (.own "InvalidOrders") (.own "InvalidRecord") false,au "InvalidModes",az (.own "InvalidModes") (.own "InvalidRecord") false,au "InvalidStarts",az (.own "InvalidStarts") (.own "InvalidRecord") false,au "UnknownMode",az (.own "UnknownMode") (.own "InvalidRecord") false,au "UnknownOrder",az (.own "UnknownOrder") (.own "InvalidRecord") false,au "InvalidSound",az (.own "InvalidSound") (.own "InvalidRecord") false,au "InvalidRoom",az (.own "InvalidRoom") (.own "InvalidRecord") false,au "InvalidRecord",az (.own "InvalidRecord") (.own "InvalidRecord") true,au "InvalidWish",az (.own "InvalidWish") (.own "InvalidRecord") false,au "InvalidNumber",az (.own "InvalidNumber") (.own "InvalidRecord") false,au "OtherProgram",az (.own "OtherProgram") (.own "InvalidRecord") false,au "TooMany",az (.own "TooMany") (.own "InvalidRecord") false,au "TooFew",az (.own "TooFew") (.own "InvalidRecord") false,au "InvalidText",az (.own "InvalidText") (.own "InvalidRecord") false,au "InvalidPage",az (.own "InvalidPage") (.own "InvalidRecord") false,au "InvalidCommand",az (.own "InvalidCommand") (.own "InvalidRecord") false,au "DuplicateName",az (.own "DuplicateName") (.own "InvalidRecord") false,au "Full",az (.own "Full") (.own "InvalidRecord") false,au "InvalidLimit",az (.own "InvalidLimit") (.own "InvalidRecord") false,au "UnknownName",az (.own "UnknownName") (.own "InvalidRecord") false,au "NothingLeft",az (.own "NothingLeft") (.own "InvalidRecord") false,nGl "InvalidWish",au "InvalidName",az (.own "InvalidName") (.own "InvalidWish") false,au "InvalidWords",az (.own "InvalidWords") (.own "InvalidWish") false,au "InvalidOrders",az (.own "InvalidOrders") (.own "InvalidWish") false,au "InvalidModes",az (.own "InvalidModes") (.own "InvalidWish") false,au "InvalidStarts",az (.own "InvalidStarts") (.own "InvalidWish") false,au "UnknownMode",az (.own "UnknownMode") (.own "InvalidWish") false,au "UnknownOrder",az (.own "UnknownOrder") (.own "InvalidWish") false,au "InvalidSound",az (.own "InvalidSound") (.own "InvalidWish") false,au "InvalidRoom",az (.own "InvalidRoom") (.own "InvalidWish") false,au "InvalidRecord",az (.own "InvalidRecord") (.own "InvalidWish") false,au "InvalidWish",az (.own "InvalidWish") (.own "InvalidWish") true,au "InvalidNumber",az (.own "InvalidNumber") (.own "InvalidWish") false,au "OtherProgram",az (.own "OtherProgram") (.own "InvalidWish") false,au "TooMany",az (.own "TooMany") (.own "InvalidWish") false,au "TooFew",az (.own "TooFew") (.own "InvalidWish") false,au "InvalidText",az (.own "InvalidText") (.own "InvalidWish") false,au "InvalidPage",az (.own "InvalidPage") (.own "InvalidWish") false,au "InvalidCommand",az (.own "InvalidCommand") (.own "InvalidWish") false,au "DuplicateName",az (.own "DuplicateName") (.own "InvalidWish") false,au "Full",az (.own "Full") (.own "InvalidWish") false,au "InvalidLimit",az (.own "InvalidLimit") (.own "InvalidWish") false,au "UnknownName",az (.own "UnknownName") (.own "InvalidWish") false,au "NothingLeft",az (.own "NothingLeft") (.own "InvalidWish") false,nGl "InvalidNumber",au "InvalidName",az (.own "InvalidName") (.own "InvalidNumber") false,au "InvalidWords",az (.own "InvalidWords") (.own "InvalidNumber") false,au "InvalidOrders",az (.own "InvalidOrders") (.own "InvalidNumber") false,au "InvalidModes",az (.own "InvalidModes") (.own "InvalidNumber") false,au "InvalidStarts",az (.own "InvalidStarts") (.own "InvalidNumber") false,au "UnknownMode",az (.own "UnknownMode") (.own "InvalidNumber") false,au "UnknownOrder",az (.own "UnknownOrder") (.own "InvalidNumber") false,au "InvalidSound",az (.own "InvalidSound") (.own "InvalidNumber") false,au "InvalidRoom",az (.own "InvalidRoom") (.own "InvalidNumber") false,au "InvalidRecord",az (.own "InvalidRecord") (.own "InvalidNumber") false,au "InvalidWish",az (.own "InvalidWish") (.own "InvalidNumber") false,au "InvalidNumber",az (.own "InvalidNumber") (.own "InvalidNumber") true,au "OtherProgram",az (.own "OtherProgram") (.own "InvalidNumber") false,au "TooMany",az (.own "TooMany") (.own "InvalidNumber") false,au "TooFew",az (.own "TooFew") (.own "InvalidNumber") false,au "InvalidText",az (.own "InvalidText") (.own "InvalidNumber") false,au "InvalidPage",az (.own "InvalidPage") (.own "InvalidNumber") false,au "InvalidCommand",az (.own "InvalidCommand") (.own "InvalidNumber") false,au "DuplicateName",az (.own "DuplicateName") (.own "InvalidNumber") false,au "Full",az (.own "Full") (.own "InvalidNumber") false,au "InvalidLimit",az (.own "InvalidLimit") (.own "InvalidNumber") false,au "UnknownName",az (.own "UnknownName") (.own "InvalidNumber") false,au "NothingLeft",az (.own "NothingLeft") (.own "InvalidNumber") false,nGl "OtherProgram",au "InvalidName",az (.own "InvalidName") (.own "OtherProgram") false,au "InvalidWords",az (.own "InvalidWords") (.own "OtherProgram") false,au "InvalidOrders",az (.own "InvalidOrders") (.own "OtherProgram") false,au "InvalidModes",az (.own "InvalidModes") (.own "OtherProgram") false,au "InvalidStarts",az (.own "InvalidStarts") (.own "OtherProgram") false,au "UnknownMode",az (.own "UnknownMode") (.own "OtherProgram") false,au "UnknownOrder",az (.own "UnknownOrder") (.own "OtherProgram") false,au "InvalidSound",az (.own "InvalidSound") (.own "OtherProgram") false,au "InvalidRoom",az (.own "InvalidRoom") (.own "OtherProgram") false,au "InvalidRecord",az (.own "InvalidRecord") (.own "OtherProgram") false,au "InvalidWish",az (.own "InvalidWish") (.own "OtherProgram") false,au "InvalidNumber",az (.own "InvalidNumber") (.own "OtherProgram") false,au "OtherProgram",az (.own "OtherProgram") (.own "OtherProgram") true,au "TooMany",az (.own "TooMany") (.own "OtherProgram") false,au "TooFew",az (.own "TooFew") (.own "OtherProgram") false,au "InvalidText",az (.own "InvalidText") (.own "OtherProgram") false,au "InvalidPage",az (.own "InvalidPage") (.own "OtherProgram") false,au "InvalidCommand",az (.own "InvalidCommand") (.own "OtherProgram") false,au "DuplicateName",az (.own "DuplicateName") (.own "OtherProgram") false,au "Full",az (.own "Full") (.own "OtherProgram") false,au "InvalidLimit",az (.own "InvalidLimit") (.own "OtherProgram") false,au "UnknownName",az (.own "UnknownName") (.own "OtherProgram") false,au "NothingLeft",az (.own "NothingLeft") (.own "OtherProgram") false,nGl "TooMany",au "InvalidName",az (.own "InvalidName") (.own "TooMany") false,au "InvalidWords",az (.own "InvalidWords") (.own "TooMany") false,au "InvalidOrders",az (.own "InvalidOrders") (.own "TooMany") false,au "InvalidModes",az (.own "InvalidModes") (.own "TooMany") false,au "InvalidStarts",az (.own "InvalidStarts") (.own "TooMany") false,au "UnknownMode",az (.own "UnknownMode") (.own "TooMany") false,au "UnknownOrder",az (.own "UnknownOrder") (.own "TooMany") false,au "InvalidSound",az (.own "InvalidSound") (.own "TooMany") false,au "InvalidRoom",az (.own "InvalidRoom") (.own "TooMany") false,au "InvalidRecord",az (.own "InvalidRecord") (.own "TooMany") false,au "InvalidWish",az (.own "InvalidWish") (.own "TooMany") false,au "InvalidNumber",az (.own "InvalidNumber") (.own "TooMany") false,au "OtherProgram",az (.own "OtherProgram") (.own "TooMany") false,au "TooMany",az (.own "TooMany") (.own "TooMany") true,au "TooFew",az (.own "TooFew") (.own "TooMany") false,au "InvalidText",az (.own "InvalidText") (.own "TooMany") false,au "InvalidPage",az (.own "InvalidPage") (.own "TooMany") false,au "InvalidCommand",az (.own "InvalidCommand") (.own "TooMany") false,au "DuplicateName",az (.own "DuplicateName") (.own "TooMany") false,au "Full",az (.own "Full") (.own "TooMany") false,au "InvalidLimit",az (.own "InvalidLimit") (.own "TooMany") false,au "UnknownName",az (.own "UnknownName") (.own "TooMany") false,au "NothingLeft",az (.own "NothingLeft") (.own "TooMany") false,nGl "TooFew",au "InvalidName",az (.own "InvalidName") (.own "TooFew") false,au "InvalidWords",az (.own "InvalidWords") (.own "TooFew") false,au "InvalidOrders",az (.own "InvalidOrders") (.own "TooFew") false,au "InvalidModes",az (.own "InvalidModes") (.own "TooFew") false,au "InvalidStarts",az (.own "InvalidStarts") (.own "TooFew") false,au "UnknownMode",az (.own "UnknownMode") (.own "TooFew") false,au "UnknownOrder",az (.own "UnknownOrder") (.own "TooFew") false,au "InvalidSound",az (.own "InvalidSound") (.own "TooFew") false,au "InvalidRoom",az (.own "InvalidRoom") (.own "TooFew") false,au "InvalidRecord",az (.own "InvalidRecord") (.own "TooFew") false,au "InvalidWish",az (.own "InvalidWish") (.own "TooFew") false,au "InvalidNumber",az (.own "InvalidNumber") (.own "TooFew") false,au "OtherProgram",az (.own "OtherProgram") (.own "TooFew") false,au "TooMany",az (.own "TooMany") (.own "TooFew") false,au "TooFew",az (.own "TooFew") (.own "TooFew") true,au "InvalidText",az (.own "InvalidText") (.own "TooFew") false,au "InvalidPage",az (.own "InvalidPage") (.own "TooFew") false,au "InvalidCommand",az (.own "InvalidCommand") (.own "TooFew") false,au "DuplicateName",az (.own "DuplicateName") (.own "TooFew") false,au "Full",az (.own "Full") (.own "TooFew") false,au "InvalidLimit",az (.own "InvalidLimit") (.own "TooFew") false,au "UnknownName",az (.own "UnknownName") (.own "TooFew") false,au "NothingLeft",az (.own "NothingLeft") (.own "TooFew") false,nGl "InvalidText",au "InvalidName",az (.own "InvalidName") (.own "InvalidText") false,au "InvalidWords",az (.own "InvalidWords") (.own "InvalidText") false,au "InvalidOrders",az (.own "InvalidOrders") (.own "InvalidText") false,au "InvalidModes",az (.own "InvalidModes") (.own "InvalidText") false,au "InvalidStarts",az (.own "InvalidStarts") (.own "InvalidText") false,au "UnknownMode",az (.own "UnknownMode") (.own "InvalidText") false,au "UnknownOrder",az (.own "UnknownOrder") (.own "InvalidText") false,au "InvalidSound",az (.own "InvalidSound") (.own "InvalidText") false,au "InvalidRoom",az (.own "InvalidRoom") (.own "InvalidText") false,au "InvalidRecord",az (.own "InvalidRecord") (.own "InvalidText") false,au "InvalidWish",az (.own "InvalidWish") (.own "InvalidText") false,au "InvalidNumber",az (.own "InvalidNumber") (.own "InvalidText") false,au "OtherProgram",az (.own "OtherProgram") (.own "InvalidText") false,au "TooMany",az (.own "TooMany") (.own "InvalidText") false,au "TooFew",az (.own "TooFew") (.own "InvalidText") false,au "InvalidText",az (.own "InvalidText") (.own "InvalidText") true,au "InvalidPage",az (.own "InvalidPage") (.own "InvalidText") false,au "InvalidCommand",az (.own "InvalidCommand") (.own "InvalidText") false,au "DuplicateName",az (.own "DuplicateName") (.own "InvalidText") false,au "Full",az (.own "Full") (.own "InvalidText") false,au "InvalidLimit",az (.own "InvalidLimit") (.own "InvalidText") false,au "UnknownName",az (.own "UnknownName") (.own "InvalidText") false,au "NothingLeft",az (.own "NothingLeft") (.own "InvalidText") false,nGl "InvalidPage",au "InvalidName",az (.own "InvalidName") (.own "InvalidPage") false,au "InvalidWords",az (.own "InvalidWords") (.own "InvalidPage") false,au "InvalidOrders",az (.own "InvalidOrders") (.own "InvalidPage") false,au "InvalidModes",az (.own "InvalidModes") (.own "InvalidPage") false,au "InvalidStarts",az (.own "InvalidStarts") (.own "InvalidPage") false,au "UnknownMode",az (.own "UnknownMode") (.own "InvalidPage") false,au "UnknownOrder",az (.own "UnknownOrder") (.own "InvalidPage") false,au "InvalidSound",az (.own "InvalidSound") (.own "InvalidPage") false,au "InvalidRoom",az (.own "InvalidRoom") (.own "InvalidPage") false,au "InvalidRecord",az (.own "InvalidRecord") (.own "InvalidPage") false,au "InvalidWish",az (.own "InvalidWish") (.own "InvalidPage") false,au "InvalidNumber",az (.own "InvalidNumber") (.own "InvalidPage") false,au "OtherProgram",az (.own "OtherProgram") (.own "InvalidPage") false,au "TooMany",az (.own "TooMany") (.own "InvalidPage") false,au "TooFew",az (.own "TooFew") (.own "InvalidPage") false,au "InvalidText",az (.own "InvalidText") (.own "InvalidPage") false,au "InvalidPage",az (.own "InvalidPage") (.own "InvalidPage") true,au "InvalidCommand",az (.own "InvalidCommand") (.own "InvalidPage") false,au "DuplicateName",az (.own "DuplicateName") (.own "InvalidPage") false,au "Full",az (.own "Full") (.own "InvalidPage") false,au "InvalidLimit",az (.own "InvalidLimit") (.own "InvalidPage") false,au "UnknownName",az (.own "UnknownName") (.own "InvalidPage") false,au "NothingLeft",az (.own "NothingLeft") (.own "InvalidPage") false,nGl "InvalidCommand",au "InvalidName",az (.own "InvalidName") (.own "InvalidCommand") false,au "InvalidWords",az (.own "InvalidWords") (.own "InvalidCommand") false,au "InvalidOrders",az (.own "InvalidOrders") (.own "InvalidCommand") false,au "InvalidModes",az (.own "InvalidModes") (.own "InvalidCommand") false,au "InvalidStarts",az (.own "InvalidStarts") (.own "InvalidCommand") false,au "UnknownMode",az (.own "UnknownMode") (.own "InvalidCommand") false,au "UnknownOrder",az (.own "UnknownOrder") (.own "InvalidCommand") false,au "InvalidSound",az (.own "InvalidSound") (.own "InvalidCommand") false,au "InvalidRoom",az (.own "InvalidRoom") (.own "InvalidCommand") false,au "InvalidRecord",az (.own "InvalidRecord") (.own "InvalidCommand") false,au "InvalidWish",az (.own "InvalidWish") (.own "InvalidCommand") false,au "InvalidNumber",az (.own "InvalidNumber") (.own "InvalidCommand") false,au "OtherProgram",az (.own "OtherProgram") (.own "InvalidCommand") false,au "TooMany",az (.own "TooMany") (.own "InvalidCommand") false,au "TooFew",az (.own "TooFew") (.own "InvalidCommand") false,au "InvalidText",az (.own "InvalidText") (.own "InvalidCommand") false,au "InvalidPage",az (.own "InvalidPage") (.own "InvalidCommand") false,au "InvalidCommand",az (.own "InvalidCommand") (.own "InvalidCommand") true,au "DuplicateName",az (.own "DuplicateName") (.own "InvalidCommand") false,au "Full",az (.own "Full") (.own "InvalidCommand") false,au "InvalidLimit",az (.own "InvalidLimit") (.own "InvalidCommand") false,au "UnknownName",az (.own "UnknownName") (.own "InvalidCommand") false,au "NothingLeft",az (.own "NothingLeft") (.own "InvalidCommand") false,nGl "DuplicateName",au "InvalidName",az (.own "InvalidName") (.own "DuplicateName") false,au "InvalidWords",az (.own "InvalidWords") (.own "DuplicateName") false,au "InvalidOrders",az (.own "InvalidOrders") (.own "DuplicateName") false,au "InvalidModes",az (.own "InvalidModes") (.own "DuplicateName") false,au "InvalidStarts",az (.own "InvalidStarts") (.own "DuplicateName") false,au "UnknownMode",az (.own "UnknownMode") (.own "DuplicateName") false,au "UnknownOrder",az (.own "UnknownOrder") (.own "DuplicateName") false,au "InvalidSound",az (.own "InvalidSound") (.own "DuplicateName") false,au "InvalidRoom",az (.own "InvalidRoom") (.own "DuplicateName") false,au "InvalidRecord",az (.own "InvalidRecord") (.own "DuplicateName") false,au "InvalidWish",az (.own "InvalidWish") (.own "DuplicateName") false,au "InvalidNumber",az (.own "InvalidNumber") (.own "DuplicateName") false,au "OtherProgram",az (.own "OtherProgram") (.own "DuplicateName") false,au "TooMany",az (.own "TooMany") (.own "DuplicateName") false,au "TooFew",az (.own "TooFew") (.own "DuplicateName") false,au "InvalidText",az (.own "InvalidText") (.own "DuplicateName") false,au "InvalidPage",az (.own "InvalidPage") (.own "DuplicateName") false,au "InvalidCommand",az (.own "InvalidCommand") (.own "DuplicateName") false,au "DuplicateName",az (.own "DuplicateName") (.own "DuplicateName") true,au "Full",az (.own "Full") (.own "DuplicateName") false,au "InvalidLimit",az (.own "InvalidLimit") (.own "DuplicateName") false,au "UnknownName",az (.own "UnknownName") (.own "DuplicateName") false,au "NothingLeft",az (.own "NothingLeft") (.own "DuplicateName") false,nGl "Full",au "InvalidName",az (.own "InvalidName") (.own "Full") false,au "InvalidWords",az (.own "InvalidWords") (.own "Full") false,au "InvalidOrders",az (.own "InvalidOrders") (.own "Full") false,au "InvalidModes",az (.own "InvalidModes") (.own "Full") false,au "InvalidStarts",az (.own "InvalidStarts") (.own "Full") false,au "UnknownMode",az (.own "UnknownMode") (.own "Full") false,au "UnknownOrder",az (.own "UnknownOrder") (.own "Full") false,au "InvalidSound",az (.own "InvalidSound") (.own "Full") false,au "InvalidRoom",az (.own "InvalidRoom") (.own "Full") false,au "InvalidRecord",az (.own "InvalidRecord") (.own "Full") false,au "InvalidWish",az (.own "InvalidWish") (.own "Full") false,au "InvalidNumber",az (.own "InvalidNumber") (.own "Full") false,au "OtherProgram",az (.own "OtherProgram") (.own "Full") false,au "TooMany",az (.own "TooMany") (.own "Full") false,au "TooFew",az (.own "TooFew") (.own "Full") false,au "InvalidText",az (.own "InvalidText") (.own "Full") false,au "InvalidPage",az (.own "InvalidPage") (.own "Full") false,au "InvalidCommand",az (.own "InvalidCommand") (.own "Full") false,au "DuplicateName",az (.own "DuplicateName") (.own "Full") false,au "Full",az (.own "Full") (.own "Full") true,au "InvalidLimit",az (.own "InvalidLimit") (.own "Full") false,au "UnknownName",az (.own "UnknownName") (.own "Full") false,au "NothingLeft",az (.own "NothingLeft") (.own "Full") false,nGl "InvalidLimit",au "InvalidName",az (.own "InvalidName") (.own "InvalidLimit") false,au "InvalidWords",az (.own "InvalidWords") (.own "InvalidLimit") false,au "InvalidOrders",az (.own "InvalidOrders") (.own "InvalidLimit") false,au "InvalidModes",az (.own "InvalidModes") (.own "InvalidLimit") false,au "InvalidStarts",az (.own "InvalidStarts") (.own "InvalidLimit") false,au "UnknownMode",az (.own "UnknownMode") (.own "InvalidLimit") false,au "UnknownOrder",az (.own "UnknownOrder") (.own "InvalidLimit") false,au "InvalidSound",az (.own "InvalidSound") (.own "InvalidLimit") false,au "InvalidRoom",az (.own "InvalidRoom") (.own "InvalidLimit") false,au "InvalidRecord",az (.own "InvalidRecord") (.own "InvalidLimit") false,au "InvalidWish",az (.own "InvalidWish") (.own "InvalidLimit") false,au "InvalidNumber",az (.own "InvalidNumber") (.own "InvalidLimit") false,au "OtherProgram",az (.own "OtherProgram") (.own "InvalidLimit") false,au "TooMany",az (.own "TooMany") (.own "InvalidLimit") false,au "TooFew",az (.own "TooFew") (.own "InvalidLimit") false,au "InvalidText",az (.own "InvalidText") (.own "InvalidLimit") false,au "InvalidPage",az (.own "InvalidPage") (.own "InvalidLimit") false,au "InvalidCommand",az (.own "InvalidCommand") (.own "InvalidLimit") false,au "DuplicateName",az (.own "DuplicateName") (.own "InvalidLimit") false,au "Full",az (.own "Full") (.own "InvalidLimit") false,au "InvalidLimit",az (.own "InvalidLimit") (.own "InvalidLimit") true,au "UnknownName",az (.own "UnknownName") (.own "InvalidLimit") false,au "NothingLeft",az (.own "NothingLeft") (.own "InvalidLimit") false,nGl "UnknownName",au "InvalidName",az (.own "InvalidName") (.own "UnknownName") false,au "InvalidWords",az (.own "InvalidWords") (.own "UnknownName") false,au "InvalidOrders",az (.own "InvalidOrders") (.own "UnknownName") false,au "InvalidModes",az (.own "InvalidModes") (.own "UnknownName") false,au "InvalidStarts",az (.own "InvalidStarts") (.own "UnknownName") false,au "UnknownMode",az (.own "UnknownMode") (.own "UnknownName") false,au "UnknownOrder",az (.own "UnknownOrder") (.own "UnknownName") false,au "InvalidSound",az (.own "InvalidSound") (.own "UnknownName") false,au "InvalidRoom",az (.own "InvalidRoom") (.own "UnknownName") false,au "InvalidRecord",az (.own "InvalidRecord") (.own "UnknownName") false,au "InvalidWish",az (.own "InvalidWish") (.own "UnknownName") false,au "InvalidNumber",az (.own "InvalidNumber") (.own "UnknownName") false,au "OtherProgram",az (.own "OtherProgram") (.own "UnknownName") false,au "TooMany",az (.own "TooMany") (.own "UnknownName") false,au "TooFew",az (.own "TooFew") (.own "UnknownName") false,au "InvalidText",az (.own "InvalidText") (.own "UnknownName") false,au "InvalidPage",az (.own "InvalidPage") (.own "UnknownName") false,au "InvalidCommand",az (.own "InvalidCommand") (.own "UnknownName") false,au "DuplicateName",az (.own "DuplicateName") (.own "UnknownName") false,au "Full",az (.own "Full") (.own "UnknownName") false,au "InvalidLimit",az (.own "InvalidLimit") (.own "UnknownName") false,au "UnknownName",az (.own "UnknownName") (.own "UnknownName") true,au "NothingLeft",az (.own "NothingLeft") (.own "UnknownName") false,nGl "NothingLeft",au "InvalidName",az (.own "InvalidName") (.own "NothingLeft") false,au "InvalidWords",az (.own "InvalidWords") (.own "NothingLeft") false,au "InvalidOrders",az (.own "InvalidOrders") (.own "NothingLeft") false,au "InvalidModes",az (.own "InvalidModes") (.own "NothingLeft") false,au "InvalidStarts",az (.own "InvalidStarts") (.own "NothingLeft") false,au "UnknownMode",az (.own "UnknownMode") (.own "NothingLeft") false,au "UnknownOrder",az (.own "UnknownOrder") (.own "NothingLeft") false,au "InvalidSound",az (.own "InvalidSound") (.own "NothingLeft") false,au "InvalidRoom",az (.own "InvalidRoom") (.own "NothingLeft") false,au "InvalidRecord",az (.own "InvalidRecord") (.own "NothingLeft") false,au "InvalidWish",az (.own "InvalidWish") (.own "NothingLeft") false,au "InvalidNumber",az (.own "InvalidNumber") (.own "NothingLeft") false,au "OtherProgram",az (.own "OtherProgram") (.own "NothingLeft") false,au "TooMany",az (.own "TooMany") (.own "NothingLeft") false,au "TooFew",az (.own "TooFew") (.own "NothingLeft") false,au "InvalidText",az (.own "InvalidText") (.own "NothingLeft") false,au "InvalidPage",az (.own "InvalidPage") (.own "NothingLeft") false,au "InvalidCommand",az (.own "InvalidCommand") (.own "NothingLeft") false,au "DuplicateName",az (.own "DuplicateName") (.own "NothingLeft") false,au "Full",az (.own "Full") (.own "NothingLeft") false,au "InvalidLimit",az (.own "InvalidLimit") (.own "NothingLeft") false,au "UnknownName",az (.own "UnknownName") (.own "NothingLeft") false,au "NothingLeft",az (.own "NothingLeft") (.own "NothingLeft") true]:=by kernel_rfl
theorem rN:FnScope mH ["_law_e"] (defScope (top 35)):=sck
theorem Vl:MTq gA cst Le VJ (top 36):=by kernel_rfl
theorem Us:Le.needs=[nFn fZ,nFn iI,nFn eE,nFn fB,nFn (cO 5),aA "code" "InvalidName",aA "code" "InvalidWords",aA "code" "InvalidOrders",aA "code" "InvalidModes",aA "code" "InvalidStarts",aA "code" "UnknownMode",aA "code" "UnknownOrder",aA "code" "InvalidSound",aA "code" "InvalidRoom",aA "code" "InvalidRecord",aA "code" "InvalidWish",aA "code" "InvalidNumber",aA "code" "OtherProgram",aA "code" "TooMany",aA "code" "TooFew",aA "code" "InvalidText",aA "code" "InvalidPage",aA "code" "InvalidCommand",aA "code" "DuplicateName",aA "code" "Full",aA "code" "InvalidLimit",aA "code" "UnknownName",aA "code" "NothingLeft",nFn fJ,nFn dF,nGl "RoomError",au "InvalidName",az (.own "InvalidName") (.own "RoomError") true,au "InvalidWords",az (.own "InvalidWords") (.own "RoomError") true,au "InvalidOrders",az (.own "InvalidOrders") (.own "RoomError") true,au "InvalidModes",az (.own "InvalidModes") (.own "RoomError") true,au "InvalidStarts",az (.own "InvalidStarts") (.own "RoomError") true,au "UnknownMode",az (.own "UnknownMode") (.own "RoomError") true,au "UnknownOrder",az (.own "UnknownOrder") (.own "RoomError") true,au "InvalidSound",az (.own "InvalidSound") (.own "RoomError") true,au "InvalidRoom",az (.own "InvalidRoom") (.own "RoomError") true,au "InvalidRecord",az (.own "InvalidRecord") (.own "RoomError") true,au "InvalidWish",az (.own "InvalidWish") (.own "RoomError") true,au "InvalidNumber",az (.own "InvalidNumber") (.own "RoomError") true,au "OtherProgram",az (.own "OtherProgram") (.own "RoomError") true,au "TooMany",az (.own "TooMany") (.own "RoomError") true,au "TooFew",az (.own "TooFew") (.own "RoomError") true,au "InvalidText",az (.own "InvalidText") (.own "RoomError") true,au "InvalidPage",az (.own "InvalidPage") (.own "RoomError") true,au "InvalidCommand",az (.own "InvalidCommand") (.own "RoomError") true,au "DuplicateName",az (.own "DuplicateName") (.own "RoomError") true,au "Full",az (.own "Full") (.own "RoomError") true,au "InvalidLimit",az (.own "InvalidLimit") (.own "RoomError") true,au "UnknownName",az (.own "UnknownName") (.own "RoomError") false,au "NothingLeft",az (.own "NothingLeft") (.own "RoomError") false,au "InvalidName",az (.own "InvalidName") (.b "ValueError") true,au "InvalidWords",az (.own "InvalidWords") (.b "ValueError") true,au "InvalidOrders",az (.own "InvalidOrders") (.b "ValueError") true,au "InvalidModes",az (.own "InvalidModes") (.b "ValueError") true,au "InvalidStarts",az (.own "InvalidStarts") (.b "ValueError") true,au "UnknownMode",az (.own "UnknownMode") (.b "ValueError") true,au "UnknownOrder",az (.own "UnknownOrder") (.b "ValueError") true,au "InvalidSound",az (.own "InvalidSound") (.b "ValueError") true,au "InvalidRoom",az (.own "InvalidRoom") (.b "ValueError") true,au "InvalidRecord",az (.own "InvalidRecord") (.b "ValueError") true,au "InvalidWish",az (.own "InvalidWish") (.b "ValueError") true,au "InvalidNumber",az (.own "InvalidNumber") (.b "ValueError") true,au "OtherProgram",az (.own "OtherProgram") (.b "ValueError") true,au "TooMany",az (.own "TooMany") (.b "ValueError") true,au "TooFew",az (.own "TooFew") (.b "ValueError") true,au "InvalidText",az (.own "InvalidText") (.b "ValueError") true,au "InvalidPage",az (.own "InvalidPage") (.b "ValueError") true,au "InvalidCommand",az (.own "InvalidCommand") (.b "ValueError") true,au "DuplicateName",az (.own "DuplicateName") (.b "ValueError") true,au "Full",az (.own "Full") (.b "ValueError") true,au "InvalidLimit",az (.own "InvalidLimit") (.b "ValueError") true,au "UnknownName",az (.own "UnknownName") (.b "ValueError") false,au "NothingLeft",az (.own "NothingLeft") (.b "ValueError") false,nGl "Missing",au "InvalidName",az (.own "InvalidName") (.own "Missing") false,au "InvalidWords",az (.own "InvalidWords") (.own "Missing") false,au "InvalidOrders",az (.own "InvalidOrders") (.own "Missing") false,au "InvalidModes",az (.own "InvalidModes") (.own "Missing") false,au "InvalidStarts",az (.own "InvalidStarts") (.own "Missing") false,au "UnknownMode",az (.own "UnknownMode") (.own "Missing") false,au "UnknownOrder",az (.own "UnknownOrder") (.own "Missing") false,au "InvalidSound",az (.own "InvalidSound") (.own "Missing") false,au "InvalidRoom",az (.own "InvalidRoom") (.own "Missing") false,au "InvalidRecord",az (.own "InvalidRecord") (.own "Missing") false,au "InvalidWish",az (.own "InvalidWish") (.own "Missing") false,au "InvalidNumber",az (.own "InvalidNumber") (.own "Missing") false,au "OtherProgram",az (.own "OtherProgram") (.own "Missing") false,au "TooMany",az (.own "TooMany") (.own "Missing") false,au "TooFew",az (.own "TooFew") (.own "Missing") false,au "InvalidText",az (.own "InvalidText") (.own "Missing") false,au "InvalidPage",az (.own "InvalidPage") (.own "Missing") false,au "InvalidCommand",az (.own "InvalidCommand") (.own "Missing") false,au "DuplicateName",az (.own "DuplicateName") (.own "Missing") false,au "Full",az (.own "Full") (.own "Missing") false,au "InvalidLimit",az (.own "InvalidLimit") (.own "Missing") false,au "UnknownName",az (.own "UnknownName") (.own "Missing") true,au "NothingLeft",az (.own "NothingLeft") (.own "Missing") false,au "InvalidName",az (.own "InvalidName") (.b "LookupError") false,au "InvalidWords",az (.own "InvalidWords") (.b "LookupError") false,au "InvalidOrders",az (.own "InvalidOrders") (.b "LookupError") false,au "InvalidModes",az (.own "InvalidModes") (.b "LookupError") false,au "InvalidStarts",az (.own "InvalidStarts") (.b "LookupError") false,au "UnknownMode",az (.own "UnknownMode") (.b "LookupError") false,au "UnknownOrder",az (.own "UnknownOrder") (.b "LookupError") false,au "InvalidSound",az (.own "InvalidSound") (.b "LookupError") false,au "InvalidRoom",az (.own "InvalidRoom") (.b "LookupError") false,au "InvalidRecord",az (.own "InvalidRecord") (.b "LookupError") false,au "InvalidWish",az (.own "InvalidWish") (.b "LookupError") false,au "InvalidNumber",az (.own "InvalidNumber") (.b "LookupError") false,au "OtherProgram",az (.own "OtherProgram") (.b "LookupError") false,au "TooMany",az (.own "TooMany") (.b "LookupError") false,au "TooFew",az (.own "TooFew") (.b "LookupError") false,au "InvalidText",az (.own "InvalidText") (.b "LookupError") false,au "InvalidPage",az (.own "InvalidPage") (.b "LookupError") false,au "InvalidCommand",az (.own "InvalidCommand") (.b "LookupError") false,au "DuplicateName",az (.own "DuplicateName") (.b "LookupError") false,au "Full",az (.own "Full") (.b "LookupError") false,au "InvalidLimit",az (.own "InvalidLimit") (.b "LookupError") false,au "UnknownName",az (.own "UnknownName") (.b "LookupError") true,au "NothingLeft",az (.own "NothingLeft") (.b "LookupError") true,au "InvalidName",az (.own "InvalidName") (.b "IndexError") false,au "InvalidWords",az (.own "InvalidWords") (.b "IndexError") false,au "InvalidOrders",az (.own "InvalidOrders") (.b "IndexError") false,au "InvalidModes",az (.own "InvalidModes") (.b "IndexError") false,au "InvalidStarts",az (.own "InvalidStarts") (.b "IndexError") false,au "UnknownMode",az (.own "UnknownMode") (.b "IndexError") false,au "UnknownOrder",az (.own "UnknownOrder") (.b "IndexError") false,au "InvalidSound",az (.own "InvalidSound") (.b "IndexError") false,au "InvalidRoom",az (.own "InvalidRoom") (.b "IndexError") false,au "InvalidRecord",az (.own "InvalidRecord") (.b "IndexError") false,au "InvalidWish",az (.own "InvalidWish") (.b "IndexError") false,au "InvalidNumber",az (.own "InvalidNumber") (.b "IndexError") false,au "OtherProgram",az (.own "OtherProgram") (.b "IndexError") false,au "TooMany",az (.own "TooMany") (.b "IndexError") false,au "TooFew",az (.own "TooFew") (.b "IndexError") false,au "InvalidText",az (.own "InvalidText") (.b "IndexError") false,au "InvalidPage",az (.own "InvalidPage") (.b "IndexError") false,au "InvalidCommand",az (.own "InvalidCommand") (.b "IndexError") false,au "DuplicateName",az (.own "DuplicateName") (.b "IndexError") false,au "Full",az (.own "Full") (.b "IndexError") false,au "InvalidLimit",az (.own "InvalidLimit") (.b "IndexError") false,au "UnknownName",az (.own "UnknownName") (.b "IndexError") false,au "NothingLeft",az (.own "NothingLeft") (.b "IndexError") true,aA "given" "InvalidName",cX bVE "InvalidName" "given" "given" "InvalidName",aA "at" "InvalidWords",cX bVE "InvalidWords" "at" "at" "InvalidWords",aA "most" "TooMany",cX bVE "TooMany" "most" "most" "TooMany",aA "mode" "TooFew",cX bVE "TooFew" "mode" "mode" "TooFew",aA "line" "InvalidPage",cX bVE "InvalidPage" "line" "line" "InvalidPage",aA "name" "DuplicateName",cX bVE "DuplicateName" "name" "name" "DuplicateName",aA "limit" "Full",cX bVE "Full" "limit" "limit" "Full",nFn (cO 5),aA "name" "UnknownName",cX bLE "UnknownName" "name" "name" "UnknownName",aA "at" "InvalidOrders",cX bVE "InvalidOrders" "at" "at" "InvalidOrders",aA "at" "InvalidModes",cX bVE "InvalidModes" "at" "at" "InvalidModes",aA "at" "InvalidStarts",cX bVE "InvalidStarts" "at" "at" "InvalidStarts",aA "given" "UnknownMode",cX bVE "UnknownMode" "given" "given" "UnknownMode",aA "given" "UnknownOrder",cX bVE "UnknownOrder" "given" "given" "UnknownOrder",aA "given" "InvalidSound",cX bVE "InvalidSound" "given" "given" "InvalidSound",aA "given" "InvalidRoom",cX bVE "InvalidRoom" "given" "given" "InvalidRoom",aA "given" "InvalidRecord",cX bVE "InvalidRecord" "given" "given" "InvalidRecord",aA "given" "InvalidWish",cX bVE "InvalidWish" "given" "given" "InvalidWish",aA "given" "InvalidNumber",cX bVE "InvalidNumber" "given" "given" "InvalidNumber",aA "line" "InvalidText",cX bVE "InvalidText" "line" "line" "InvalidText",aA "at" "InvalidCommand",cX bVE "InvalidCommand" "at" "at" "InvalidCommand",aA "given" "InvalidLimit",cX bVE "InvalidLimit" "given" "given" "InvalidLimit",nFn (cO 5),K8 bVE "RoomError",au "RoomError",az (.own "RoomError") (.b "ValueError") true,K8 bLE "Missing",au "Missing",az (.own "Missing") (.b "LookupError") true]:=by kernel_rfl
theorem Ua:FnScope VJ ["_law_script"] (defScope (top 36)):=sck
theorem lQ:bu.body=cH "InvalidName" "given" "given" (bU bu.body).1 (bU bu.body).2:=by kernel_rfl
theorem mZ:NdefX.NScope ["self","given","__class__"] ["self","given"] ["__class__"] bu.scope:=NdefX.nscope_by (by kernel_rfl)
theorem lX:bu.scope.names.lookup ("super":Str)=some .globalImplicit:=by kernel_rfl
theorem lU:(bu.params.posonlyargs++bu.params.args).head?.map (·.arg)=some ("self":Str):=by kernel_rfl
theorem j9:aV.body=cH "InvalidWords" "at" "at" (bU aV.body).1 (bU aV.body).2:=by kernel_rfl
theorem lw:NdefX.NScope ["self","at","__class__"] ["self","at"] ["__class__"] aV.scope:=NdefX.nscope_by (by kernel_rfl)
theorem jY:aV.scope.names.lookup ("super":Str)=some .globalImplicit:=by kernel_rfl
theorem jP:(aV.params.posonlyargs++aV.params.args).head?.map (·.arg)=some ("self":Str):=by kernel_rfl
theorem ji:aM.body=cH "InvalidOrders" "at" "at" (bU aM.body).1 (bU aM.body).2:=by kernel_rfl
theorem jJ:NdefX.NScope ["self","at","__class__"] ["self","at"] ["__class__"] aM.scope:=NdefX.nscope_by (by kernel_rfl)
theorem jB:aM.scope.names.lookup ("super":Str)=some .globalImplicit:=by kernel_rfl
theorem jo:(aM.params.posonlyargs++aM.params.args).head?.map (·.arg)=some ("self":Str):=by kernel_rfl
theorem jU:aR.body=cH "InvalidModes" "at" "at" (bU aR.body).1 (bU aR.body).2:=by kernel_rfl
theorem jK:NdefX.NScope ["self","at","__class__"] ["self","at"] ["__class__"] aR.scope:=NdefX.nscope_by (by kernel_rfl)
theorem jZ:aR.scope.names.lookup ("super":Str)=some .globalImplicit:=by kernel_rfl
theorem km:(aR.params.posonlyargs++aR.params.args).head?.map (·.arg)=some ("self":Str):=by kernel_rfl
theorem jF:aK.body=cH "InvalidStarts" "at" "at" (bU aK.body).1 (bU aK.body).2:=by kernel_rfl
theorem jm:NdefX.NScope ["self","at","__class__"] ["self","at"] ["__class__"] aK.scope:=NdefX.nscope_by (by kernel_rfl)
theorem jH:aK.scope.names.lookup ("super":Str)=some .globalImplicit:=by kernel_rfl
theorem jt:(aK.params.posonlyargs++aK.params.args).head?.map (·.arg)=some ("self":Str):=by kernel_rfl
theorem lK:bh.body=cH "UnknownMode" "given" "given" (bU bh.body).1 (bU bh.body).2:=by kernel_rfl
theorem mV:NdefX.NScope ["self","given","__class__"] ["self","given"] ["__class__"] bh.scope:=NdefX.nscope_by (by kernel_rfl)
theorem nj:bh.scope.names.lookup ("super":Str)=some .globalImplicit:=by kernel_rfl
theorem lG:(bh.params.posonlyargs++bh.params.args).head?.map (·.arg)=some ("self":Str):=by kernel_rfl
theorem jR:aU.body=cH "UnknownOrder" "given" "given" (bU aU.body).1 (bU aU.body).2:=by kernel_rfl
theorem j8:NdefX.NScope ["self","given","__class__"] ["self","given"] ["__class__"] aU.scope:=NdefX.nscope_by (by kernel_rfl)
theorem kJ:aU.scope.names.lookup ("super":Str)=some .globalImplicit:=by kernel_rfl
theorem lg:(aU.params.posonlyargs++aU.params.args).head?.map (·.arg)=some ("self":Str):=by kernel_rfl
theorem jO:aQ.body=cH "InvalidSound" "given" "given" (bU aQ.body).1 (bU aQ.body).2:=by kernel_rfl
theorem j6:NdefX.NScope ["self","given","__class__"] ["self","given"] ["__class__"] aQ.scope:=NdefX.nscope_by (by kernel_rfl)
theorem j5:aQ.scope.names.lookup ("super":Str)=some .globalImplicit:=by kernel_rfl
theorem jW:(aQ.params.posonlyargs++aQ.params.args).head?.map (·.arg)=some ("self":Str):=by kernel_rfl
theorem mO:bj.body=cH "InvalidRoom" "given" "given" (bU bj.body).1 (bU bj.body).2:=by kernel_rfl
theorem lZ:NdefX.NScope ["self","given","__class__"] ["self","given"] ["__class__"] bj.scope:=NdefX.nscope_by (by kernel_rfl)
theorem nq:bj.scope.names.lookup ("super":Str)=some .globalImplicit:=by kernel_rfl
theorem lW:(bj.params.posonlyargs++bj.params.args).head?.map (·.arg)=some ("self":Str):=by kernel_rfl
theorem jx:aO.body=cH "InvalidRecord" "given" "given" (bU aO.body).1 (bU aO.body).2:=by kernel_rfl
theorem jG:NdefX.NScope ["self","given","__class__"] ["self","given"] ["__class__"] aO.scope:=NdefX.nscope_by (by kernel_rfl)
theorem jr:aO.scope.names.lookup ("super":Str)=some .globalImplicit:=by kernel_rfl
theorem jw:(aO.params.posonlyargs++aO.params.args).head?.map (·.arg)=some ("self":Str):=by kernel_rfl
theorem lM:aX.body=cH "InvalidWish" "given" "given" (bU aX.body).1 (bU aX.body).2:=by kernel_rfl
theorem mY:NdefX.NScope ["self","given","__class__"] ["self","given"] ["__class__"] aX.scope:=NdefX.nscope_by (by kernel_rfl)
theorem mU:aX.scope.names.lookup ("super":Str)=some .globalImplicit:=by kernel_rfl
theorem mJ:(aX.params.posonlyargs++aX.params.args).head?.map (·.arg)=some ("self":Str):=by kernel_rfl
theorem jk:aN.body=cH "InvalidNumber" "given" "given" (bU aN.body).1 (bU aN.body).2:=by kernel_rfl
theorem jE:NdefX.NScope ["self","given","__class__"] ["self","given"] ["__class__"] aN.scope:=NdefX.nscope_by (by kernel_rfl)
theorem jh:aN.scope.names.lookup ("super":Str)=some .globalImplicit:=by kernel_rfl
theorem jA:(aN.params.posonlyargs++aN.params.args).head?.map (·.arg)=some ("self":Str):=by kernel_rfl
theorem uZ:bG.body=cH "TooMany" "most" "most" (bU bG.body).1 (bU bG.body).2:=by kernel_rfl
theorem uK:NdefX.NScope ["self","most","__class__"] ["self","most"] ["__class__"] bG.scope:=NdefX.nscope_by (by kernel_rfl)
theorem uX:bG.scope.names.lookup ("super":Str)=some .globalImplicit:=by kernel_rfl
theorem uH:(bG.params.posonlyargs++bG.params.args).head?.map (·.arg)=some ("self":Str):=by kernel_rfl
theorem xM:bL.body=cH "TooFew" "mode" "mode" (bU bL.body).1 (bU bL.body).2:=by kernel_rfl
theorem yJ:NdefX.NScope ["self","mode","__class__"] ["self","mode"] ["__class__"] bL.scope:=NdefX.nscope_by (by kernel_rfl)
theorem yz:bL.scope.names.lookup ("super":Str)=some .globalImplicit:=by kernel_rfl
theorem yh:(bL.params.posonlyargs++bL.params.args).head?.map (·.arg)=some ("self":Str):=by kernel_rfl
theorem m7:aY.body=cH "InvalidText" "line" "line" (bU aY.body).1 (bU aY.body).2:=by kernel_rfl
theorem lN:NdefX.NScope ["self","line","__class__"] ["self","line"] ["__class__"] aY.scope:=NdefX.nscope_by (by kernel_rfl)
theorem mQ:aY.scope.names.lookup ("super":Str)=some .globalImplicit:=by kernel_rfl
theorem ni:(aY.params.posonlyargs++aY.params.args).head?.map (·.arg)=some ("self":Str):=by kernel_rfl
theorem lJ:aZ.body=cH "InvalidPage" "line" "line" (bU aZ.body).1 (bU aZ.body).2:=by kernel_rfl
theorem mW:NdefX.NScope ["self","line","__class__"] ["self","line"] ["__class__"] aZ.scope:=NdefX.nscope_by (by kernel_rfl)
theorem mj:aZ.scope.names.lookup ("super":Str)=some .globalImplicit:=by kernel_rfl
theorem lH:(aZ.params.posonlyargs++aZ.params.args).head?.map (·.arg)=some ("self":Str):=by kernel_rfl
theorem iH:aF.body=cH "InvalidCommand" "at" "at" (bU aF.body).1 (bU aF.body).2:=by kernel_rfl
theorem iD:NdefX.NScope ["self","at","__class__"] ["self","at"] ["__class__"] aF.scope:=NdefX.nscope_by (by kernel_rfl)
theorem iK:aF.scope.names.lookup ("super":Str)=some .globalImplicit:=by kernel_rfl
theorem iJ:(aF.params.posonlyargs++aF.params.args).head?.map (·.arg)=some ("self":Str):=by kernel_rfl
theorem ju:aP.body=cH "DuplicateName" "name" "name" (bU aP.body).1 (bU aP.body).2:=by kernel_rfl
theorem jD:NdefX.NScope ["self","name","__class__"] ["self","name"] ["__class__"] aP.scope:=NdefX.nscope_by (by kernel_rfl)
theorem jy:aP.scope.names.lookup ("super":Str)=some .globalImplicit:=by kernel_rfl
theorem je:(aP.params.posonlyargs++aP.params.args).head?.map (·.arg)=some ("self":Str):=by kernel_rfl
theorem Hr:cJ.body=cH "Full" "limit" "limit" (bU cJ.body).1 (bU cJ.body).2:=by kernel_rfl
theorem Ii:NdefX.NScope ["self","limit","__class__"] ["self","limit"] ["__class__"] cJ.scope:=NdefX.nscope_by (by kernel_rfl)
theorem Jl:cJ.scope.names.lookup ("super":Str)=some .globalImplicit:=by kernel_rfl
theorem Fl:(cJ.params.posonlyargs++cJ.params.args).head?.map (·.arg)=some ("self":Str):=by kernel_rfl
theorem kW:aW.body=cH "InvalidLimit" "given" "given" (bU aW.body).1 (bU aW.body).2:=by kernel_rfl
theorem jQ:NdefX.NScope ["self","given","__class__"] ["self","given"] ["__class__"] aW.scope:=NdefX.nscope_by (by kernel_rfl)
theorem jX:aW.scope.names.lookup ("super":Str)=some .globalImplicit:=by kernel_rfl
theorem kE:(aW.params.posonlyargs++aW.params.args).head?.map (·.arg)=some ("self":Str):=by kernel_rfl
theorem lV:bx.body=cH "UnknownName" "name" "name" (bU bx.body).1 (bU bx.body).2:=by kernel_rfl
theorem lY:NdefX.NScope ["self","name","__class__"] ["self","name"] ["__class__"] bx.scope:=NdefX.nscope_by (by kernel_rfl)
theorem mK:bx.scope.names.lookup ("super":Str)=some .globalImplicit:=by kernel_rfl
theorem lO:(bx.params.posonlyargs++bx.params.args).head?.map (·.arg)=some ("self":Str):=by kernel_rfl
theorem qX:bF.body=oG "OtherProgram" (v4 bF.body).1 (v4 bF.body).2:=by kernel_rfl
theorem sr:NdefX.NScope ["self","__class__"] ["self"] ["__class__"] bF.scope:=NdefX.nscope_by (by kernel_rfl)
theorem rE:bF.scope.names.lookup ("super":Str)=some .globalImplicit:=by kernel_rfl
theorem qZ:(bF.params.posonlyargs++bF.params.args).head?.map (·.arg)=some ("self":Str):=by kernel_rfl
theorem uo:bH.body=oG "NothingLeft" (v4 bH.body).1 (v4 bH.body).2:=by kernel_rfl
theorem uh:NdefX.NScope ["self","__class__"] ["self"] ["__class__"] bH.scope:=NdefX.nscope_by (by kernel_rfl)
theorem uv:bH.scope.names.lookup ("super":Str)=some .globalImplicit:=by kernel_rfl
theorem ue:(bH.params.posonlyargs++bH.params.args).head?.map (·.arg)=some ("self":Str):=by kernel_rfl
theorem dh:PySem.Challenge.pw_roomofcalls_k01_errors_by_themselves.main.file=("/claim/cut.py":Str):=by kernel_rfl
theorem gQ:(PySem.Challenge.pw_roomofcalls_k01_errors_by_themselves.main.scope.names.lookup ("super":Str)).isSome=false:=by kernel_rfl
theorem facts{P:Program}(hP:P=PySem.Challenge.pw_roomofcalls_k01_errors_by_themselves){w:World}{K:PySem.W.Frag}{h:Heap}{mg:Str->Option Value}{f:Addr}(X:K.In h)(G:h.Ns mainGlobals mg)(hfa:mg ("law":Str)=some (.ref f))(c:rK fa xf fn ts ers w K h):
  ∃fd:FuncData,(∀(s:Shared) (v:Value),BindsTo s fd ⟨[v],[]⟩ [("_law_script",v)])/\∀base:Heap,K.In base->base.Ns mainGlobals mg->(∀p∈(dU K).map (λp=>(p.1,p.2.1)),LamX.TabB base mg p.1 p.2)->FnOk P w K mg base CX0 7 f fd ["_law_script"] (λvs H Q E=>spM ⟨K,P,w⟩ 1 M_law vs H Q (λ_ _ _=>False)):=by
 have mo:yw ⟨K,P,w⟩ mg gA cst:=by
  refine⟨λx hx=>?_,λx v hx=>?_⟩
  ·unfold gA at hx
   simp only[qQj,qQl,or_false] at hx
   rcases hx with rfl|rfl|rfl|rfl|rfl|rfl|rfl|rfl|rfl|rfl|rfl|rfl|rfl|rfl
   ·exact He.free_ok X G (c.d.fact 10 rfl)
   ·exact He.free_ok X G (c.d.fact 11 rfl)
   ·exact He.free_ok X G (c.d.fact 12 rfl)
   ·exact He.free_ok X G (c.d.fact 13 rfl)
   ·exact He.free_ok X G (c.d.fact 14 rfl)
   ·exact He.free_ok X G (c.d.fact 15 rfl)
   ·exact He.free_ok X G (c.d.fact 16 rfl)
   ·exact He.free_ok X G (c.d.fact 17 rfl)
   ·exact He.free_ok X G (c.d.fact 18 rfl)
   ·exact He.free_ok X G (c.d.fact 19 rfl)
   ·exact He.free_ok X G (c.d.fact 20 rfl)
   ·exact He.free_ok X G (c.d.fact 21 rfl)
   ·exact He.free_ok X G (c.d.fact 22 rfl)
   ·exact He.free_ok X G (c.d.fact 23 rfl)
  ·unfold cst at hx
   cases hx
 obtain⟨zW,vo⟩:=c.d.def_ 0 (d:=uI) rfl
 have Dy:=He.glo_ok X G (c.d.fact 0 (f:=.glo "_law_open") rfl)
 have Dz:Binds K zW ["_law_script"] []:=FunD.bindsN vo λ_ _ _ _ _ _ us hl=>match us,hl with|[_],_=>rfl
 obtain⟨zX,vp⟩:=c.d.def_ 1 (d:=vh) rfl
 have DG:=He.glo_ok X G (c.d.fact 1 (f:=.glo "_law_draw") rfl)
 have DK:Binds K zX ["_law_bag","_law_sides"] []:=FunD.bindsN vp λ_ _ _ _ _ _ us hl=>match us,hl with|[_,_],_=>rfl
 obtain⟨Jp,Ck⟩:=c.d.def_ 2 (d:=Ao) rfl
 have Ma:=He.glo_ok X G (c.d.fact 2 (f:=.glo "_law_of") rfl)
 have Mg:Binds K Jp ["_law_bag","_law_things"] []:=FunD.bindsN Ck λ_ _ _ _ _ _ us hl=>match us,hl with|[_,_],_=>rfl
 obtain⟨DN,yK⟩:=c.d.def_ 3 (d:=xF) rfl
 have Jq:=He.glo_ok X G (c.d.fact 3 (f:=.glo "_law_odd") rfl)
 have Jr:Binds K DN ["_law_bag","_law_more"] []:=FunD.bindsN yK λ_ _ _ _ _ _ us hl=>match us,hl with|[_,_],_=>rfl
 obtain⟨wH,qH⟩:=c.d.def_ 4 (d:=qF) rfl
 have yL:=He.glo_ok X G (c.d.fact 4 (f:=.glo "_law_errors") rfl)
 have yM:Binds K wH ["_law_odd_here"] []:=FunD.bindsN qH λ_ _ _ _ _ _ us hl=>match us,hl with|[_],_=>rfl
 obtain⟨yN,tG⟩:=c.d.def_ 5 (d:=qY) rfl
 have zY:=He.glo_ok X G (c.d.fact 5 (f:=.glo "_law_codes") rfl)
 have z7:Binds K yN [] []:=FunD.bindsN tG λ_ _ _ _ _ _ us hl=>match us,hl with|[],_=>rfl
 obtain⟨tH,pW⟩:=c.d.def_ 6 (d:=pA) rfl
 have lD:=He.glo_ok X G (c.d.fact 6 (f:=.glo "_law_same") rfl)
 have vq:Binds K tH ["_law_found","_law_due"] []:=FunD.bindsN pW λ_ _ _ _ _ _ us hl=>match us,hl with|[_,_],_=>rfl
 obtain⟨yO,tK⟩:=c.d.def_ 7 (d:=rW) rfl
 have z8:=He.glo_ok X G (c.d.fact 7 (f:=.glo "_law_field") rfl)
 have z9:Binds K yO ["_law_e"] []:=FunD.bindsN tK λ_ _ _ _ _ _ us hl=>match us,hl with|[_],_=>rfl
 obtain⟨tL,nA⟩:=c.d.def_ 8 (d:=mX) rfl
 have uw:=He.glo_ok X G (c.d.fact 8 (f:=.glo "_law_kinds_of") rfl)
 have ux:Binds K tL ["_law_e"] []:=FunD.bindsN nA λ_ _ _ _ _ _ us hl=>match us,hl with|[_],_=>rfl
 obtain⟨WP,WQ⟩:=c.d.def_ 9 (d:=Tc) rfl
 have aaU:=He.glo_ok X G (c.d.fact 9 (f:=.glo "law") rfl)
 have e:=hfa.symm.trans aaU
 cases e
 have aaV:=FunD.bindsA (ps:=["_law_script"]) WQ λ_ _ _ _ _ _ us hl=>match us,hl with|[_],_=>rfl
 refine⟨WP,λs v=>aaV s [v] rfl,λbase _ _ tb=>?_⟩
 have wI:∀{k:Nat},2<=k->cU bVE bu.x bu.g bu.f bu.x P w K mg base k:=λhk=>bR bT (d:=bu) (show errV K bu.x=bu.val from c.err (d:=bu.own) 0 rfl) (aj (c.x 0 rfl)) (by rw[hP];exact dh) (by rw[hP];exact gQ) (He.glo_ok X G (c.d.fact 25 rfl)) (He.free_ok X G (c.d.fact 24 rfl)) lQ (ig (by kernel_rfl)) mZ lX lU (by decide) (by decide) (λ_ _ _ _ _ _ _ _=>rfl) hk
 have ek_InvalidName:∀{k:Nat},2<=k->cX bVE bu.x bu.g bu.f bu.x P w K mg base k:=λhk=>bQ bT (d:=bu) (show errV K bu.x=bu.val from c.err (d:=bu.own) 0 rfl) (aj (c.x 0 rfl)) (by rw[hP];exact dh) (by rw[hP];exact gQ) (He.glo_ok X G (c.d.fact 25 rfl)) (He.free_ok X G (c.d.fact 24 rfl)) lQ (ig (by kernel_rfl)) mZ lX lU (by decide) (by decide) (λ_ _ _ _ _ _ _ _=>rfl) hk
 have uz:∀{k:Nat},2<=k->cU bVE aV.x aV.g aV.f aV.x P w K mg base k:=λhk=>bR bT (d:=aV) (show errV K aV.x=aV.val from c.err (d:=aV.own) 1 rfl) (aj (c.x 1 rfl)) (by rw[hP];exact dh) (by rw[hP];exact gQ) (He.glo_ok X G (c.d.fact 26 rfl)) (He.free_ok X G (c.d.fact 24 rfl)) j9 (ig (by kernel_rfl)) lw jY jP (by decide) (by decide) (λ_ _ _ _ _ _ _ _=>rfl) hk
 have ek_InvalidWords:∀{k:Nat},2<=k->cX bVE aV.x aV.g aV.f aV.x P w K mg base k:=λhk=>bQ bT (d:=aV) (show errV K aV.x=aV.val from c.err (d:=aV.own) 1 rfl) (aj (c.x 1 rfl)) (by rw[hP];exact dh) (by rw[hP];exact gQ) (He.glo_ok X G (c.d.fact 26 rfl)) (He.free_ok X G (c.d.fact 24 rfl)) j9 (ig (by kernel_rfl)) lw jY jP (by decide) (by decide) (λ_ _ _ _ _ _ _ _=>rfl) hk
 have tM:∀{k:Nat},2<=k->cU bVE aM.x aM.g aM.f aM.x P w K mg base k:=λhk=>bR bT (d:=aM) (show errV K aM.x=aM.val from c.err (d:=aM.own) 2 rfl) (aj (c.x 2 rfl)) (by rw[hP];exact dh) (by rw[hP];exact gQ) (He.glo_ok X G (c.d.fact 27 rfl)) (He.free_ok X G (c.d.fact 24 rfl)) ji (ig (by kernel_rfl)) jJ jB jo (by decide) (by decide) (λ_ _ _ _ _ _ _ _=>rfl) hk
 have ek_InvalidOrders:∀{k:Nat},2<=k->cX bVE aM.x aM.g aM.f aM.x P w K mg base k:=λhk=>bQ bT (d:=aM) (show errV K aM.x=aM.val from c.err (d:=aM.own) 2 rfl) (aj (c.x 2 rfl)) (by rw[hP];exact dh) (by rw[hP];exact gQ) (He.glo_ok X G (c.d.fact 27 rfl)) (He.free_ok X G (c.d.fact 24 rfl)) ji (ig (by kernel_rfl)) jJ jB jo (by decide) (by decide) (λ_ _ _ _ _ _ _ _=>rfl) hk
 have uA:∀{k:Nat},2<=k->cU bVE aR.x aR.g aR.f aR.x P w K mg base k:=λhk=>bR bT (d:=aR) (show errV K aR.x=aR.val from c.err (d:=aR.own) 3 rfl) (aj (c.x 3 rfl)) (by rw[hP];exact dh) (by rw[hP];exact gQ) (He.glo_ok X G (c.d.fact 28 rfl)) (He.free_ok X G (c.d.fact 24 rfl)) jU (ig (by kernel_rfl)) jK jZ km (by decide) (by decide) (λ_ _ _ _ _ _ _ _=>rfl) hk
 have ek_InvalidModes:∀{k:Nat},2<=k->cX bVE aR.x aR.g aR.f aR.x P w K mg base k:=λhk=>bQ bT (d:=aR) (show errV K aR.x=aR.val from c.err (d:=aR.own) 3 rfl) (aj (c.x 3 rfl)) (by rw[hP];exact dh) (by rw[hP];exact gQ) (He.glo_ok X G (c.d.fact 28 rfl)) (He.free_ok X G (c.d.fact 24 rfl)) jU (ig (by kernel_rfl)) jK jZ km (by decide) (by decide) (λ_ _ _ _ _ _ _ _=>rfl) hk
 have tO:∀{k:Nat},2<=k->cU bVE aK.x aK.g aK.f aK.x P w K mg base k:=λhk=>bR bT (d:=aK) (show errV K aK.x=aK.val from c.err (d:=aK.own) 4 rfl) (aj (c.x 4 rfl)) (by rw[hP];exact dh) (by rw[hP];exact gQ) (He.glo_ok X G (c.d.fact 29 rfl)) (He.free_ok X G (c.d.fact 24 rfl)) jF (ig (by kernel_rfl)) jm jH jt (by decide) (by decide) (λ_ _ _ _ _ _ _ _=>rfl) hk
 have ek_InvalidStarts:∀{k:Nat},2<=k->cX bVE aK.x aK.g aK.f aK.x P w K mg base k:=λhk=>bQ bT (d:=aK) (show errV K aK.x=aK.val from c.err (d:=aK.own) 4 rfl) (aj (c.x 4 rfl)) (by rw[hP];exact dh) (by rw[hP];exact gQ) (He.glo_ok X G (c.d.fact 29 rfl)) (He.free_ok X G (c.d.fact 24 rfl)) jF (ig (by kernel_rfl)) jm jH jt (by decide) (by decide) (λ_ _ _ _ _ _ _ _=>rfl) hk
 have wJ:∀{k:Nat},2<=k->cU bVE bh.x bh.g bh.f bh.x P w K mg base k:=λhk=>bR bT (d:=bh) (show errV K bh.x=bh.val from c.err (d:=bh.own) 5 rfl) (aj (c.x 5 rfl)) (by rw[hP];exact dh) (by rw[hP];exact gQ) (He.glo_ok X G (c.d.fact 30 rfl)) (He.free_ok X G (c.d.fact 24 rfl)) lK (ig (by kernel_rfl)) mV nj lG (by decide) (by decide) (λ_ _ _ _ _ _ _ _=>rfl) hk
 have ek_UnknownMode:∀{k:Nat},2<=k->cX bVE bh.x bh.g bh.f bh.x P w K mg base k:=λhk=>bQ bT (d:=bh) (show errV K bh.x=bh.val from c.err (d:=bh.own) 5 rfl) (aj (c.x 5 rfl)) (by rw[hP];exact dh) (by rw[hP];exact gQ) (He.glo_ok X G (c.d.fact 30 rfl)) (He.free_ok X G (c.d.fact 24 rfl)) lK (ig (by kernel_rfl)) mV nj lG (by decide) (by decide) (λ_ _ _ _ _ _ _ _=>rfl) hk
 have uB:∀{k:Nat},2<=k->cU bVE aU.x aU.g aU.f aU.x P w K mg base k:=λhk=>bR bT (d:=aU) (show errV K aU.x=aU.val from c.err (d:=aU.own) 6 rfl) (aj (c.x 6 rfl)) (by rw[hP];exact dh) (by rw[hP];exact gQ) (He.glo_ok X G (c.d.fact 31 rfl)) (He.free_ok X G (c.d.fact 24 rfl)) jR (ig (by kernel_rfl)) j8 kJ lg (by decide) (by decide) (λ_ _ _ _ _ _ _ _=>rfl) hk
 have ek_UnknownOrder:∀{k:Nat},2<=k->cX bVE aU.x aU.g aU.f aU.x P w K mg base k:=λhk=>bQ bT (d:=aU) (show errV K aU.x=aU.val from c.err (d:=aU.own) 6 rfl) (aj (c.x 6 rfl)) (by rw[hP];exact dh) (by rw[hP];exact gQ) (He.glo_ok X G (c.d.fact 31 rfl)) (He.free_ok X G (c.d.fact 24 rfl)) jR (ig (by kernel_rfl)) j8 kJ lg (by decide) (by decide) (λ_ _ _ _ _ _ _ _=>rfl) hk
 have uC:∀{k:Nat},2<=k->cU bVE aQ.x aQ.g aQ.f aQ.x P w K mg base k:=λhk=>bR bT (d:=aQ) (show errV K aQ.x=aQ.val from c.err (d:=aQ.own) 7 rfl) (aj (c.x 7 rfl)) (by rw[hP];exact dh) (by rw[hP];exact gQ) (He.glo_ok X G (c.d.fact 32 rfl)) (He.free_ok X G (c.d.fact 24 rfl)) jO (ig (by kernel_rfl)) j6 j5 jW (by decide) (by decide) (λ_ _ _ _ _ _ _ _=>rfl) hk
 have ek_InvalidSound:∀{k:Nat},2<=k->cX bVE aQ.x aQ.g aQ.f aQ.x P w K mg base k:=λhk=>bQ bT (d:=aQ) (show errV K aQ.x=aQ.val from c.err (d:=aQ.own) 7 rfl) (aj (c.x 7 rfl)) (by rw[hP];exact dh) (by rw[hP];exact gQ) (He.glo_ok X G (c.d.fact 32 rfl)) (He.free_ok X G (c.d.fact 24 rfl)) jO (ig (by kernel_rfl)) j6 j5 jW (by decide) (by decide) (λ_ _ _ _ _ _ _ _=>rfl) hk
 have wM:∀{k:Nat},2<=k->cU bVE bj.x bj.g bj.f bj.x P w K mg base k:=λhk=>bR bT (d:=bj) (show errV K bj.x=bj.val from c.err (d:=bj.own) 8 rfl) (aj (c.x 8 rfl)) (by rw[hP];exact dh) (by rw[hP];exact gQ) (He.glo_ok X G (c.d.fact 33 rfl)) (He.free_ok X G (c.d.fact 24 rfl)) mO (ig (by kernel_rfl)) lZ nq lW (by decide) (by decide) (λ_ _ _ _ _ _ _ _=>rfl) hk
 have ek_InvalidRoom:∀{k:Nat},2<=k->cX bVE bj.x bj.g bj.f bj.x P w K mg base k:=λhk=>bQ bT (d:=bj) (show errV K bj.x=bj.val from c.err (d:=bj.own) 8 rfl) (aj (c.x 8 rfl)) (by rw[hP];exact dh) (by rw[hP];exact gQ) (He.glo_ok X G (c.d.fact 33 rfl)) (He.free_ok X G (c.d.fact 24 rfl)) mO (ig (by kernel_rfl)) lZ nq lW (by decide) (by decide) (λ_ _ _ _ _ _ _ _=>rfl) hk
 have tQ:∀{k:Nat},2<=k->cU bVE aO.x aO.g aO.f aO.x P w K mg base k:=λhk=>bR bT (d:=aO) (show errV K aO.x=aO.val from c.err (d:=aO.own) 9 rfl) (aj (c.x 9 rfl)) (by rw[hP];exact dh) (by rw[hP];exact gQ) (He.glo_ok X G (c.d.fact 34 rfl)) (He.free_ok X G (c.d.fact 24 rfl)) jx (ig (by kernel_rfl)) jG jr jw (by decide) (by decide) (λ_ _ _ _ _ _ _ _=>rfl) hk
 have ek_InvalidRecord:∀{k:Nat},2<=k->cX bVE aO.x aO.g aO.f aO.x P w K mg base k:=λhk=>bQ bT (d:=aO) (show errV K aO.x=aO.val from c.err (d:=aO.own) 9 rfl) (aj (c.x 9 rfl)) (by rw[hP];exact dh) (by rw[hP];exact gQ) (He.glo_ok X G (c.d.fact 34 rfl)) (He.free_ok X G (c.d.fact 24 rfl)) jx (ig (by kernel_rfl)) jG jr jw (by decide) (by decide) (λ_ _ _ _ _ _ _ _=>rfl) hk
 have wO:∀{k:Nat},2<=k->cU bVE aX.x aX.g aX.f aX.x P w K mg base k:=λhk=>bR bT (d:=aX) (show errV K aX.x=aX.val from c.err (d:=aX.own) 10 rfl) (aj (c.x 10 rfl)) (by rw[hP];exact dh) (by rw[hP];exact gQ) (He.glo_ok X G (c.d.fact 35 rfl)) (He.free_ok X G (c.d.fact 24 rfl)) lM (ig (by kernel_rfl)) mY mU mJ (by decide) (by decide) (λ_ _ _ _ _ _ _ _=>rfl) hk
 have ek_InvalidWish:∀{k:Nat},2<=k->cX bVE aX.x aX.g aX.f aX.x P w K mg base k:=λhk=>bQ bT (d:=aX) (show errV K aX.x=aX.val from c.err (d:=aX.own) 10 rfl) (aj (c.x 10 rfl)) (by rw[hP];exact dh) (by rw[hP];exact gQ) (He.glo_ok X G (c.d.fact 35 rfl)) (He.free_ok X G (c.d.fact 24 rfl)) lM (ig (by kernel_rfl)) mY mU mJ (by decide) (by decide) (λ_ _ _ _ _ _ _ _=>rfl) hk
 have tR:∀{k:Nat},2<=k->cU bVE aN.x aN.g aN.f aN.x P w K mg base k:=λhk=>bR bT (d:=aN) (show errV K aN.x=aN.val from c.err (d:=aN.own) 11 rfl) (aj (c.x 11 rfl)) (by rw[hP];exact dh) (by rw[hP];exact gQ) (He.glo_ok X G (c.d.fact 36 rfl)) (He.free_ok X G (c.d.fact 24 rfl)) jk (ig (by kernel_rfl)) jE jh jA (by decide) (by decide) (λ_ _ _ _ _ _ _ _=>rfl) hk
 have ek_InvalidNumber:∀{k:Nat},2<=k->cX bVE aN.x aN.g aN.f aN.x P w K mg base k:=λhk=>bQ bT (d:=aN) (show errV K aN.x=aN.val from c.err (d:=aN.own) 11 rfl) (aj (c.x 11 rfl)) (by rw[hP];exact dh) (by rw[hP];exact gQ) (He.glo_ok X G (c.d.fact 36 rfl)) (He.free_ok X G (c.d.fact 24 rfl)) jk (ig (by kernel_rfl)) jE jh jA (by decide) (by decide) (λ_ _ _ _ _ _ _ _=>rfl) hk
 have Jt:∀{k:Nat},2<=k->cU bVE bG.x bG.g bG.f bG.x P w K mg base k:=λhk=>bR bT (d:=bG) (show errV K bG.x=bG.val from c.err (d:=bG.own) 12 rfl) (aj (c.x 12 rfl)) (by rw[hP];exact dh) (by rw[hP];exact gQ) (He.glo_ok X G (c.d.fact 37 rfl)) (He.free_ok X G (c.d.fact 24 rfl)) uZ (ig (by kernel_rfl)) uK uX uH (by decide) (by decide) (λ_ _ _ _ _ _ _ _=>rfl) hk
 have ek_TooMany:∀{k:Nat},2<=k->cX bVE bG.x bG.g bG.f bG.x P w K mg base k:=λhk=>bQ bT (d:=bG) (show errV K bG.x=bG.val from c.err (d:=bG.own) 12 rfl) (aj (c.x 12 rfl)) (by rw[hP];exact dh) (by rw[hP];exact gQ) (He.glo_ok X G (c.d.fact 37 rfl)) (He.free_ok X G (c.d.fact 24 rfl)) uZ (ig (by kernel_rfl)) uK uX uH (by decide) (by decide) (λ_ _ _ _ _ _ _ _=>rfl) hk
 have Mh:∀{k:Nat},2<=k->cU bVE bL.x bL.g bL.f bL.x P w K mg base k:=λhk=>bR bT (d:=bL) (show errV K bL.x=bL.val from c.err (d:=bL.own) 13 rfl) (aj (c.x 13 rfl)) (by rw[hP];exact dh) (by rw[hP];exact gQ) (He.glo_ok X G (c.d.fact 38 rfl)) (He.free_ok X G (c.d.fact 24 rfl)) xM (ig (by kernel_rfl)) yJ yz yh (by decide) (by decide) (λ_ _ _ _ _ _ _ _=>rfl) hk
 have ek_TooFew:∀{k:Nat},2<=k->cX bVE bL.x bL.g bL.f bL.x P w K mg base k:=λhk=>bQ bT (d:=bL) (show errV K bL.x=bL.val from c.err (d:=bL.own) 13 rfl) (aj (c.x 13 rfl)) (by rw[hP];exact dh) (by rw[hP];exact gQ) (He.glo_ok X G (c.d.fact 38 rfl)) (He.free_ok X G (c.d.fact 24 rfl)) xM (ig (by kernel_rfl)) yJ yz yh (by decide) (by decide) (λ_ _ _ _ _ _ _ _=>rfl) hk
 have wQ:∀{k:Nat},2<=k->cU bVE aY.x aY.g aY.f aY.x P w K mg base k:=λhk=>bR bT (d:=aY) (show errV K aY.x=aY.val from c.err (d:=aY.own) 14 rfl) (aj (c.x 14 rfl)) (by rw[hP];exact dh) (by rw[hP];exact gQ) (He.glo_ok X G (c.d.fact 39 rfl)) (He.free_ok X G (c.d.fact 24 rfl)) m7 (ig (by kernel_rfl)) lN mQ ni (by decide) (by decide) (λ_ _ _ _ _ _ _ _=>rfl) hk
 have ek_InvalidText:∀{k:Nat},2<=k->cX bVE aY.x aY.g aY.f aY.x P w K mg base k:=λhk=>bQ bT (d:=aY) (show errV K aY.x=aY.val from c.err (d:=aY.own) 14 rfl) (aj (c.x 14 rfl)) (by rw[hP];exact dh) (by rw[hP];exact gQ) (He.glo_ok X G (c.d.fact 39 rfl)) (He.free_ok X G (c.d.fact 24 rfl)) m7 (ig (by kernel_rfl)) lN mQ ni (by decide) (by decide) (λ_ _ _ _ _ _ _ _=>rfl) hk
 have wR:∀{k:Nat},2<=k->cU bVE aZ.x aZ.g aZ.f aZ.x P w K mg base k:=λhk=>bR bT (d:=aZ) (show errV K aZ.x=aZ.val from c.err (d:=aZ.own) 15 rfl) (aj (c.x 15 rfl)) (by rw[hP];exact dh) (by rw[hP];exact gQ) (He.glo_ok X G (c.d.fact 40 rfl)) (He.free_ok X G (c.d.fact 24 rfl)) lJ (ig (by kernel_rfl)) mW mj lH (by decide) (by decide) (λ_ _ _ _ _ _ _ _=>rfl) hk
 have ek_InvalidPage:∀{k:Nat},2<=k->cX bVE aZ.x aZ.g aZ.f aZ.x P w K mg base k:=λhk=>bQ bT (d:=aZ) (show errV K aZ.x=aZ.val from c.err (d:=aZ.own) 15 rfl) (aj (c.x 15 rfl)) (by rw[hP];exact dh) (by rw[hP];exact gQ) (He.glo_ok X G (c.d.fact 40 rfl)) (He.free_ok X G (c.d.fact 24 rfl)) lJ (ig (by kernel_rfl)) mW mj lH (by decide) (by decide) (λ_ _ _ _ _ _ _ _=>rfl) hk
 have qN:∀{k:Nat},2<=k->cU bVE aF.x aF.g aF.f aF.x P w K mg base k:=λhk=>bR bT (d:=aF) (show errV K aF.x=aF.val from c.err (d:=aF.own) 16 rfl) (aj (c.x 16 rfl)) (by rw[hP];exact dh) (by rw[hP];exact gQ) (He.glo_ok X G (c.d.fact 41 rfl)) (He.free_ok X G (c.d.fact 24 rfl)) iH (ig (by kernel_rfl)) iD iK iJ (by decide) (by decide) (λ_ _ _ _ _ _ _ _=>rfl) hk
 have ek_InvalidCommand:∀{k:Nat},2<=k->cX bVE aF.x aF.g aF.f aF.x P w K mg base k:=λhk=>bQ bT (d:=aF) (show errV K aF.x=aF.val from c.err (d:=aF.own) 16 rfl) (aj (c.x 16 rfl)) (by rw[hP];exact dh) (by rw[hP];exact gQ) (He.glo_ok X G (c.d.fact 41 rfl)) (He.free_ok X G (c.d.fact 24 rfl)) iH (ig (by kernel_rfl)) iD iK iJ (by decide) (by decide) (λ_ _ _ _ _ _ _ _=>rfl) hk
 have tU:∀{k:Nat},2<=k->cU bVE aP.x aP.g aP.f aP.x P w K mg base k:=λhk=>bR bT (d:=aP) (show errV K aP.x=aP.val from c.err (d:=aP.own) 17 rfl) (aj (c.x 17 rfl)) (by rw[hP];exact dh) (by rw[hP];exact gQ) (He.glo_ok X G (c.d.fact 42 rfl)) (He.free_ok X G (c.d.fact 24 rfl)) ju (ig (by kernel_rfl)) jD jy je (by decide) (by decide) (λ_ _ _ _ _ _ _ _=>rfl) hk
 have ek_DuplicateName:∀{k:Nat},2<=k->cX bVE aP.x aP.g aP.f aP.x P w K mg base k:=λhk=>bQ bT (d:=aP) (show errV K aP.x=aP.val from c.err (d:=aP.own) 17 rfl) (aj (c.x 17 rfl)) (by rw[hP];exact dh) (by rw[hP];exact gQ) (He.glo_ok X G (c.d.fact 42 rfl)) (He.free_ok X G (c.d.fact 24 rfl)) ju (ig (by kernel_rfl)) jD jy je (by decide) (by decide) (λ_ _ _ _ _ _ _ _=>rfl) hk
 have WT:∀{k:Nat},2<=k->cU bVE cJ.x cJ.g cJ.f cJ.x P w K mg base k:=λhk=>bR bT (d:=cJ) (show errV K cJ.x=cJ.val from c.err (d:=cJ.own) 18 rfl) (aj (c.x 18 rfl)) (by rw[hP];exact dh) (by rw[hP];exact gQ) (He.glo_ok X G (c.d.fact 43 rfl)) (He.free_ok X G (c.d.fact 24 rfl)) Hr (ig (by kernel_rfl)) Ii Jl Fl (by decide) (by decide) (λ_ _ _ _ _ _ _ _=>rfl) hk
 have ek_Full:∀{k:Nat},2<=k->cX bVE cJ.x cJ.g cJ.f cJ.x P w K mg base k:=λhk=>bQ bT (d:=cJ) (show errV K cJ.x=cJ.val from c.err (d:=cJ.own) 18 rfl) (aj (c.x 18 rfl)) (by rw[hP];exact dh) (by rw[hP];exact gQ) (He.glo_ok X G (c.d.fact 43 rfl)) (He.free_ok X G (c.d.fact 24 rfl)) Hr (ig (by kernel_rfl)) Ii Jl Fl (by decide) (by decide) (λ_ _ _ _ _ _ _ _=>rfl) hk
 have uD:∀{k:Nat},2<=k->cU bVE aW.x aW.g aW.f aW.x P w K mg base k:=λhk=>bR bT (d:=aW) (show errV K aW.x=aW.val from c.err (d:=aW.own) 19 rfl) (aj (c.x 19 rfl)) (by rw[hP];exact dh) (by rw[hP];exact gQ) (He.glo_ok X G (c.d.fact 44 rfl)) (He.free_ok X G (c.d.fact 24 rfl)) kW (ig (by kernel_rfl)) jQ jX kE (by decide) (by decide) (λ_ _ _ _ _ _ _ _=>rfl) hk
 have ek_InvalidLimit:∀{k:Nat},2<=k->cX bVE aW.x aW.g aW.f aW.x P w K mg base k:=λhk=>bQ bT (d:=aW) (show errV K aW.x=aW.val from c.err (d:=aW.own) 19 rfl) (aj (c.x 19 rfl)) (by rw[hP];exact dh) (by rw[hP];exact gQ) (He.glo_ok X G (c.d.fact 44 rfl)) (He.free_ok X G (c.d.fact 24 rfl)) kW (ig (by kernel_rfl)) jQ jX kE (by decide) (by decide) (λ_ _ _ _ _ _ _ _=>rfl) hk
 have wU:∀{k:Nat},2<=k->cU bLE bx.x bx.g bx.f bx.x P w K mg base k:=λhk=>bR G7 (d:=bx) (show errV K bx.x=bx.val from c.err (d:=bx.own) 20 rfl) (aj (c.x 20 rfl)) (by rw[hP];exact dh) (by rw[hP];exact gQ) (He.glo_ok X G (c.d.fact 45 rfl)) (He.free_ok X G (c.d.fact 24 rfl)) lV (ig (by kernel_rfl)) lY mK lO (by decide) (by decide) (λ_ _ _ _ _ _ _ _=>rfl) hk
 have ek_UnknownName:∀{k:Nat},2<=k->cX bLE bx.x bx.g bx.f bx.x P w K mg base k:=λhk=>bQ G7 (d:=bx) (show errV K bx.x=bx.val from c.err (d:=bx.own) 20 rfl) (aj (c.x 20 rfl)) (by rw[hP];exact dh) (by rw[hP];exact gQ) (He.glo_ok X G (c.d.fact 45 rfl)) (He.free_ok X G (c.d.fact 24 rfl)) lV (ig (by kernel_rfl)) lY mK lO (by decide) (by decide) (λ_ _ _ _ _ _ _ _=>rfl) hk
 have uE:∀{k:Nat},2<=k->De bVE bF.x bF.x P w K mg base k:=λhk=>xr bT (d:=bF) (show errV K bF.x=bF.d.val from c.err (d:=bF.own) 21 rfl) (aj (c.x 21 rfl)) (by rw[hP];exact dh) (by rw[hP];exact gQ) (He.glo_ok X G (c.d.fact 46 rfl)) (He.free_ok X G (c.d.fact 24 rfl)) qX (Wz (by kernel_rfl)) sr rE qZ (λ_ _ _ _ _ _ _=>rfl) hk
 have wV:∀{k:Nat},2<=k->De bIE bH.x bH.x P w K mg base k:=λhk=>xr Tq (d:=bH) (show errV K bH.x=bH.d.val from c.err (d:=bH.own) 22 rfl) (aj (c.x 22 rfl)) (by rw[hP];exact dh) (by rw[hP];exact gQ) (He.glo_ok X G (c.d.fact 47 rfl)) (He.free_ok X G (c.d.fact 24 rfl)) uo (Wz (by kernel_rfl)) uh uv ue (λ_ _ _ _ _ _ _=>rfl) hk
 have DP:=FnAt.q base 0 fZ vo zP mo zA All.nil zr Dz
 have DQ:=FnAt.q base 0 iW vp zq mo yX All.nil zj DK
 have Mi:=FnAt.q base 1 o7 Ck G9 mo GJ (aC (aG DG DQ) All.nil) Jj Mg
 have Ju:=FnAt.q base 2 iI yK Di mo Cp (aC (aG Ma Mi) All.nil) Cq Jr
 have yP:=FnAt.q base 2 eE qH vQ mo vz (aC (wI (by decide)) (aC (uz (by decide)) (aC (tM (by decide)) (aC (uA (by decide)) (aC (tO (by decide)) (aC (wJ (by decide)) (aC (uB (by decide)) (aC (uC (by decide)) (aC (wM (by decide)) (aC (tQ (by decide)) (aC (wO (by decide)) (aC (tR (by decide)) (aC (uE (by decide)) (aC (Jt (by decide)) (aC (Mh (by decide)) (aC (wQ (by decide)) (aC (wR (by decide)) (aC (qN (by decide)) (aC (tU (by decide)) (aC (WT (by decide)) (aC (uD (by decide)) (aC (wU (by decide)) (aC (wV (by decide)) All.nil))))))))))))))))))))))) v9 yM
 have Aa:=FnAt.q base 0 fB tG ye mo xY All.nil xQ z7
 have pX:∀n,FnAt P w K mg base (n+1) (He.fAd K pA.at_) tH (cO n):=by
  intro n
  induction n with
  | zero=>exact FnAt.none (Nat.succ_pos _) pW vq
  | succ n ih=>exact FnAt.of (cO (n+1)) pW zM mo (by rw[zK];exact (aC (⟨_,_,lD,ih⟩) All.nil)) (za _) (λ_ _ _ _=>rfl) vq
 have Ab:=FnAt.q base 0 fJ tK xT mo xq (aC (⟨(aq (aj (c.x 23 rfl))).xf,He.noat_ok (c.d.fact 48 rfl)⟩) (aC (⟨(aq (aj (c.x 24 rfl))).xf,He.noat_ok (c.d.fact 49 rfl)⟩) (aC (⟨(aq (aj (c.x 25 rfl))).xf,He.noat_ok (c.d.fact 50 rfl)⟩) (aC (⟨(aq (aj (c.x 26 rfl))).xf,He.noat_ok (c.d.fact 51 rfl)⟩) (aC (⟨(aq (aj (c.x 27 rfl))).xf,He.noat_ok (c.d.fact 52 rfl)⟩) (aC (⟨(aq (aj (c.x 28 rfl))).xf,He.noat_ok (c.d.fact 53 rfl)⟩) (aC (⟨(aq (aj (c.x 29 rfl))).xf,He.noat_ok (c.d.fact 54 rfl)⟩) (aC (⟨(aq (aj (c.x 30 rfl))).xf,He.noat_ok (c.d.fact 55 rfl)⟩) (aC (⟨(aq (aj (c.x 31 rfl))).xf,He.noat_ok (c.d.fact 56 rfl)⟩) (aC (⟨(aq (aj (c.x 32 rfl))).xf,He.noat_ok (c.d.fact 57 rfl)⟩) (aC (⟨(aq (aj (c.x 33 rfl))).xf,He.noat_ok (c.d.fact 58 rfl)⟩) (aC (⟨(aq (aj (c.x 34 rfl))).xf,He.noat_ok (c.d.fact 59 rfl)⟩) (aC (⟨(aq (aj (c.x 35 rfl))).xf,He.noat_ok (c.d.fact 60 rfl)⟩) (aC (⟨(aq (aj (c.x 36 rfl))).xf,He.noat_ok (c.d.fact 61 rfl)⟩) (aC (⟨(aq (aj (c.x 37 rfl))).xf,He.noat_ok (c.d.fact 62 rfl)⟩) (aC (⟨(aq (aj (c.x 38 rfl))).xf,He.noat_ok (c.d.fact 63 rfl)⟩) (aC (⟨(aq (aj (c.x 39 rfl))).xf,He.noat_ok (c.d.fact 64 rfl)⟩) (aC (⟨(aq (aj (c.x 40 rfl))).xf,He.noat_ok (c.d.fact 65 rfl)⟩) (aC (⟨(aq (aj (c.x 41 rfl))).xf,He.noat_ok (c.d.fact 66 rfl)⟩) (aC (⟨(aq (aj (c.x 42 rfl))).xf,He.noat_ok (c.d.fact 67 rfl)⟩) (aC (⟨(aq (aj (c.x 43 rfl))).xf,He.noat_ok (c.d.fact 68 rfl)⟩) (aC (⟨(aq (aj (c.x 44 rfl))).xf,He.noat_ok (c.d.fact 69 rfl)⟩) (aC (⟨(aq (aj (c.x 45 rfl))).xf,He.noat_ok (c.d.fact 70 rfl)⟩) (aC (⟨(aq (aj (c.x 23 rfl))).xf,He.noat_ok (c.d.fact 71 rfl)⟩) (aC (⟨(aq (aj (c.x 24 rfl))).xf,He.noat_ok (c.d.fact 72 rfl)⟩) (aC (⟨(aq (aj (c.x 25 rfl))).xf,He.noat_ok (c.d.fact 73 rfl)⟩) (aC (⟨(aq (aj (c.x 26 rfl))).xf,He.noat_ok (c.d.fact 74 rfl)⟩) (aC (⟨(aq (aj (c.x 27 rfl))).xf,He.noat_ok (c.d.fact 75 rfl)⟩) (aC (⟨(aq (aj (c.x 28 rfl))).xf,He.noat_ok (c.d.fact 76 rfl)⟩) (aC (⟨(aq (aj (c.x 29 rfl))).xf,He.noat_ok (c.d.fact 77 rfl)⟩) (aC (⟨(aq (aj (c.x 30 rfl))).xf,He.noat_ok (c.d.fact 78 rfl)⟩) (aC (⟨(aq (aj (c.x 31 rfl))).xf,He.noat_ok (c.d.fact 79 rfl)⟩) (aC (⟨(aq (aj (c.x 32 rfl))).xf,He.noat_ok (c.d.fact 80 rfl)⟩) (aC (⟨(aq (aj (c.x 33 rfl))).xf,He.noat_ok (c.d.fact 81 rfl)⟩) (aC (⟨(aq (aj (c.x 34 rfl))).xf,He.noat_ok (c.d.fact 82 rfl)⟩) (aC (⟨(aq (aj (c.x 35 rfl))).xf,He.noat_ok (c.d.fact 83 rfl)⟩) (aC (⟨(aq (aj (c.x 36 rfl))).xf,He.noat_ok (c.d.fact 84 rfl)⟩) (aC (⟨(aq (aj (c.x 37 rfl))).xf,He.noat_ok (c.d.fact 85 rfl)⟩) (aC (⟨(aq (aj (c.x 38 rfl))).xf,He.noat_ok (c.d.fact 86 rfl)⟩) (aC (⟨(aq (aj (c.x 39 rfl))).xf,He.noat_ok (c.d.fact 87 rfl)⟩) (aC (⟨(aq (aj (c.x 40 rfl))).xf,He.noat_ok (c.d.fact 88 rfl)⟩) (aC (⟨(aq (aj (c.x 41 rfl))).xf,He.noat_ok (c.d.fact 89 rfl)⟩) (aC (⟨(aq (aj (c.x 42 rfl))).xf,He.noat_ok (c.d.fact 90 rfl)⟩) (aC (⟨(aq (aj (c.x 43 rfl))).xf,He.noat_ok (c.d.fact 91 rfl)⟩) (aC (⟨(aq (aj (c.x 44 rfl))).xf,He.noat_ok (c.d.fact 92 rfl)⟩) (aC (⟨(aq (aj (c.x 45 rfl))).xf,He.noat_ok (c.d.fact 93 rfl)⟩) (aC (⟨(aq (aj (c.x 23 rfl))).xf,He.noat_ok (c.d.fact 48 rfl)⟩) (aC (⟨(aq (aj (c.x 24 rfl))).xf,He.noat_ok (c.d.fact 49 rfl)⟩) (aC (⟨(aq (aj (c.x 25 rfl))).xf,He.noat_ok (c.d.fact 50 rfl)⟩) (aC (⟨(aq (aj (c.x 26 rfl))).xf,He.noat_ok (c.d.fact 51 rfl)⟩) (aC (⟨(aq (aj (c.x 27 rfl))).xf,He.noat_ok (c.d.fact 52 rfl)⟩) (aC (⟨(aq (aj (c.x 28 rfl))).xf,He.noat_ok (c.d.fact 53 rfl)⟩) (aC (⟨(aq (aj (c.x 29 rfl))).xf,He.noat_ok (c.d.fact 54 rfl)⟩) (aC (⟨(aq (aj (c.x 30 rfl))).xf,He.noat_ok (c.d.fact 55 rfl)⟩) (aC (⟨(aq (aj (c.x 31 rfl))).xf,He.noat_ok (c.d.fact 56 rfl)⟩) (aC (⟨(aq (aj (c.x 32 rfl))).xf,He.noat_ok (c.d.fact 57 rfl)⟩) (aC (⟨(aq (aj (c.x 33 rfl))).xf,He.noat_ok (c.d.fact 58 rfl)⟩) (aC (⟨(aq (aj (c.x 34 rfl))).xf,He.noat_ok (c.d.fact 59 rfl)⟩) (aC (⟨(aq (aj (c.x 35 rfl))).xf,He.noat_ok (c.d.fact 60 rfl)⟩) (aC (⟨(aq (aj (c.x 36 rfl))).xf,He.noat_ok (c.d.fact 61 rfl)⟩) (aC (⟨(aq (aj (c.x 37 rfl))).xf,He.noat_ok (c.d.fact 62 rfl)⟩) (aC (⟨(aq (aj (c.x 38 rfl))).xf,He.noat_ok (c.d.fact 63 rfl)⟩) (aC (⟨(aq (aj (c.x 39 rfl))).xf,He.noat_ok (c.d.fact 64 rfl)⟩) (aC (⟨(aq (aj (c.x 40 rfl))).xf,He.noat_ok (c.d.fact 65 rfl)⟩) (aC (⟨(aq (aj (c.x 41 rfl))).xf,He.noat_ok (c.d.fact 66 rfl)⟩) (aC (⟨(aq (aj (c.x 42 rfl))).xf,He.noat_ok (c.d.fact 67 rfl)⟩) (aC (⟨(aq (aj (c.x 43 rfl))).xf,He.noat_ok (c.d.fact 68 rfl)⟩) (aC (⟨(aq (aj (c.x 44 rfl))).xf,He.noat_ok (c.d.fact 69 rfl)⟩) (aC (⟨(aq (aj (c.x 45 rfl))).xf,He.noat_ok (c.d.fact 70 rfl)⟩) (aC (⟨(aq (aj (c.x 23 rfl))).xf,He.noat_ok (c.d.fact 48 rfl)⟩) (aC (⟨(aq (aj (c.x 24 rfl))).xf,He.noat_ok (c.d.fact 49 rfl)⟩) (aC (⟨(aq (aj (c.x 25 rfl))).xf,He.noat_ok (c.d.fact 50 rfl)⟩) (aC (⟨(aq (aj (c.x 26 rfl))).xf,He.noat_ok (c.d.fact 51 rfl)⟩) (aC (⟨(aq (aj (c.x 27 rfl))).xf,He.noat_ok (c.d.fact 52 rfl)⟩) (aC (⟨(aq (aj (c.x 28 rfl))).xf,He.noat_ok (c.d.fact 53 rfl)⟩) (aC (⟨(aq (aj (c.x 29 rfl))).xf,He.noat_ok (c.d.fact 54 rfl)⟩) (aC (⟨(aq (aj (c.x 30 rfl))).xf,He.noat_ok (c.d.fact 55 rfl)⟩) (aC (⟨(aq (aj (c.x 31 rfl))).xf,He.noat_ok (c.d.fact 56 rfl)⟩) (aC (⟨(aq (aj (c.x 32 rfl))).xf,He.noat_ok (c.d.fact 57 rfl)⟩) (aC (⟨(aq (aj (c.x 33 rfl))).xf,He.noat_ok (c.d.fact 58 rfl)⟩) (aC (⟨(aq (aj (c.x 34 rfl))).xf,He.noat_ok (c.d.fact 59 rfl)⟩) (aC (⟨(aq (aj (c.x 35 rfl))).xf,He.noat_ok (c.d.fact 60 rfl)⟩) (aC (⟨(aq (aj (c.x 36 rfl))).xf,He.noat_ok (c.d.fact 61 rfl)⟩) (aC (⟨(aq (aj (c.x 37 rfl))).xf,He.noat_ok (c.d.fact 62 rfl)⟩) (aC (⟨(aq (aj (c.x 38 rfl))).xf,He.noat_ok (c.d.fact 63 rfl)⟩) (aC (⟨(aq (aj (c.x 39 rfl))).xf,He.noat_ok (c.d.fact 64 rfl)⟩) (aC (⟨(aq (aj (c.x 40 rfl))).xf,He.noat_ok (c.d.fact 65 rfl)⟩) (aC (⟨(aq (aj (c.x 41 rfl))).xf,He.noat_ok (c.d.fact 66 rfl)⟩) (aC (⟨(aq (aj (c.x 42 rfl))).xf,He.noat_ok (c.d.fact 67 rfl)⟩) (aC (⟨(aq (aj (c.x 43 rfl))).xf,He.noat_ok (c.d.fact 68 rfl)⟩) (aC (⟨(aq (aj (c.x 44 rfl))).xf,He.noat_ok (c.d.fact 69 rfl)⟩) (aC (⟨(aq (aj (c.x 45 rfl))).xf,He.noat_ok (c.d.fact 70 rfl)⟩) (aC (⟨(aq (aj (c.x 23 rfl))).xf,He.noat_ok (c.d.fact 48 rfl)⟩) (aC (⟨(aq (aj (c.x 24 rfl))).xf,He.noat_ok (c.d.fact 49 rfl)⟩) (aC (⟨(aq (aj (c.x 25 rfl))).xf,He.noat_ok (c.d.fact 50 rfl)⟩) (aC (⟨(aq (aj (c.x 26 rfl))).xf,He.noat_ok (c.d.fact 51 rfl)⟩) (aC (⟨(aq (aj (c.x 27 rfl))).xf,He.noat_ok (c.d.fact 52 rfl)⟩) (aC (⟨(aq (aj (c.x 28 rfl))).xf,He.noat_ok (c.d.fact 53 rfl)⟩) (aC (⟨(aq (aj (c.x 29 rfl))).xf,He.noat_ok (c.d.fact 54 rfl)⟩) (aC (⟨(aq (aj (c.x 30 rfl))).xf,He.noat_ok (c.d.fact 55 rfl)⟩) (aC (⟨(aq (aj (c.x 31 rfl))).xf,He.noat_ok (c.d.fact 56 rfl)⟩) (aC (⟨(aq (aj (c.x 32 rfl))).xf,He.noat_ok (c.d.fact 57 rfl)⟩) (aC (⟨(aq (aj (c.x 33 rfl))).xf,He.noat_ok (c.d.fact 58 rfl)⟩) (aC (⟨(aq (aj (c.x 34 rfl))).xf,He.noat_ok (c.d.fact 59 rfl)⟩) (aC (⟨(aq (aj (c.x 35 rfl))).xf,He.noat_ok (c.d.fact 60 rfl)⟩) (aC (⟨(aq (aj (c.x 36 rfl))).xf,He.noat_ok (c.d.fact 61 rfl)⟩) (aC (⟨(aq (aj (c.x 37 rfl))).xf,He.noat_ok (c.d.fact 62 rfl)⟩) (aC (⟨(aq (aj (c.x 38 rfl))).xf,He.noat_ok (c.d.fact 63 rfl)⟩) (aC (⟨(aq (aj (c.x 39 rfl))).xf,He.noat_ok (c.d.fact 64 rfl)⟩) (aC (⟨(aq (aj (c.x 40 rfl))).xf,He.noat_ok (c.d.fact 65 rfl)⟩) (aC (⟨(aq (aj (c.x 41 rfl))).xf,He.noat_ok (c.d.fact 66 rfl)⟩) (aC (⟨(aq (aj (c.x 42 rfl))).xf,He.noat_ok (c.d.fact 67 rfl)⟩) (aC (⟨(aq (aj (c.x 43 rfl))).xf,He.noat_ok (c.d.fact 68 rfl)⟩) (aC (⟨(aq (aj (c.x 44 rfl))).xf,He.noat_ok (c.d.fact 69 rfl)⟩) (aC (⟨(aq (aj (c.x 45 rfl))).xf,He.noat_ok (c.d.fact 70 rfl)⟩) (aC (⟨(aq (aj (c.x 23 rfl))).xf,He.noat_ok (c.d.fact 94 rfl)⟩) (aC (⟨(aq (aj (c.x 24 rfl))).xf,He.noat_ok (c.d.fact 95 rfl)⟩) (aC (⟨(aq (aj (c.x 25 rfl))).xf,He.noat_ok (c.d.fact 96 rfl)⟩) (aC (⟨(aq (aj (c.x 26 rfl))).xf,He.noat_ok (c.d.fact 97 rfl)⟩) (aC (⟨(aq (aj (c.x 27 rfl))).xf,He.noat_ok (c.d.fact 98 rfl)⟩) (aC (⟨(aq (aj (c.x 28 rfl))).xf,He.noat_ok (c.d.fact 99 rfl)⟩) (aC (⟨(aq (aj (c.x 29 rfl))).xf,He.noat_ok (c.d.fact 100 rfl)⟩) (aC (⟨(aq (aj (c.x 30 rfl))).xf,He.noat_ok (c.d.fact 101 rfl)⟩) (aC (⟨(aq (aj (c.x 31 rfl))).xf,He.noat_ok (c.d.fact 102 rfl)⟩) (aC (⟨(aq (aj (c.x 32 rfl))).xf,He.noat_ok (c.d.fact 103 rfl)⟩) (aC (⟨(aq (aj (c.x 33 rfl))).xf,He.noat_ok (c.d.fact 104 rfl)⟩) (aC (⟨(aq (aj (c.x 34 rfl))).xf,He.noat_ok (c.d.fact 105 rfl)⟩) (aC (⟨(aq (aj (c.x 35 rfl))).xf,He.noat_ok (c.d.fact 106 rfl)⟩) (aC (⟨(aq (aj (c.x 36 rfl))).xf,He.noat_ok (c.d.fact 107 rfl)⟩) (aC (⟨(aq (aj (c.x 37 rfl))).xf,He.noat_ok (c.d.fact 108 rfl)⟩) (aC (⟨(aq (aj (c.x 38 rfl))).xf,He.noat_ok (c.d.fact 109 rfl)⟩) (aC (⟨(aq (aj (c.x 39 rfl))).xf,He.noat_ok (c.d.fact 110 rfl)⟩) (aC (⟨(aq (aj (c.x 40 rfl))).xf,He.noat_ok (c.d.fact 111 rfl)⟩) (aC (⟨(aq (aj (c.x 41 rfl))).xf,He.noat_ok (c.d.fact 112 rfl)⟩) (aC (⟨(aq (aj (c.x 42 rfl))).xf,He.noat_ok (c.d.fact 113 rfl)⟩) (aC (⟨(aq (aj (c.x 43 rfl))).xf,He.noat_ok (c.d.fact 114 rfl)⟩) (aC (⟨(aq (aj (c.x 44 rfl))).xf,He.noat_ok (c.d.fact 115 rfl)⟩) (aC (⟨(aq (aj (c.x 45 rfl))).xf,He.noat_ok (c.d.fact 116 rfl)⟩) (aC (⟨(aq (aj (c.x 23 rfl))).xf,He.noat_ok (c.d.fact 117 rfl)⟩) (aC (⟨(aq (aj (c.x 24 rfl))).xf,He.noat_ok (c.d.fact 118 rfl)⟩) (aC (⟨(aq (aj (c.x 25 rfl))).xf,He.noat_ok (c.d.fact 119 rfl)⟩) (aC (⟨(aq (aj (c.x 26 rfl))).xf,He.noat_ok (c.d.fact 120 rfl)⟩) (aC (⟨(aq (aj (c.x 27 rfl))).xf,He.noat_ok (c.d.fact 121 rfl)⟩) (aC (⟨(aq (aj (c.x 28 rfl))).xf,He.noat_ok (c.d.fact 122 rfl)⟩) (aC (⟨(aq (aj (c.x 29 rfl))).xf,He.noat_ok (c.d.fact 123 rfl)⟩) (aC (⟨(aq (aj (c.x 30 rfl))).xf,He.noat_ok (c.d.fact 124 rfl)⟩) (aC (⟨(aq (aj (c.x 31 rfl))).xf,He.noat_ok (c.d.fact 125 rfl)⟩) (aC (⟨(aq (aj (c.x 32 rfl))).xf,He.noat_ok (c.d.fact 126 rfl)⟩) (aC (⟨(aq (aj (c.x 33 rfl))).xf,He.noat_ok (c.d.fact 127 rfl)⟩) (aC (⟨(aq (aj (c.x 34 rfl))).xf,He.noat_ok (c.d.fact 128 rfl)⟩) (aC (⟨(aq (aj (c.x 35 rfl))).xf,He.noat_ok (c.d.fact 129 rfl)⟩) (aC (⟨(aq (aj (c.x 36 rfl))).xf,He.noat_ok (c.d.fact 130 rfl)⟩) (aC (⟨(aq (aj (c.x 37 rfl))).xf,He.noat_ok (c.d.fact 131 rfl)⟩) (aC (⟨(aq (aj (c.x 38 rfl))).xf,He.noat_ok (c.d.fact 132 rfl)⟩) (aC (⟨(aq (aj (c.x 39 rfl))).xf,He.noat_ok (c.d.fact 133 rfl)⟩) (aC (⟨(aq (aj (c.x 40 rfl))).xf,He.noat_ok (c.d.fact 134 rfl)⟩) (aC (⟨(aq (aj (c.x 41 rfl))).xf,He.noat_ok (c.d.fact 135 rfl)⟩) (aC (⟨(aq (aj (c.x 42 rfl))).xf,He.noat_ok (c.d.fact 136 rfl)⟩) (aC (⟨(aq (aj (c.x 43 rfl))).xf,He.noat_ok (c.d.fact 137 rfl)⟩) (aC (⟨(aq (aj (c.x 44 rfl))).xf,He.noat_ok (c.d.fact 138 rfl)⟩) (aC (⟨(aq (aj (c.x 45 rfl))).xf,He.noat_ok (c.d.fact 139 rfl)⟩) (aC (⟨(aq (aj (c.x 23 rfl))).xf,He.noat_ok (c.d.fact 48 rfl)⟩) (aC (⟨(aq (aj (c.x 24 rfl))).xf,He.noat_ok (c.d.fact 49 rfl)⟩) (aC (⟨(aq (aj (c.x 25 rfl))).xf,He.noat_ok (c.d.fact 50 rfl)⟩) (aC (⟨(aq (aj (c.x 26 rfl))).xf,He.noat_ok (c.d.fact 51 rfl)⟩) (aC (⟨(aq (aj (c.x 27 rfl))).xf,He.noat_ok (c.d.fact 52 rfl)⟩) (aC (⟨(aq (aj (c.x 28 rfl))).xf,He.noat_ok (c.d.fact 53 rfl)⟩) (aC (⟨(aq (aj (c.x 29 rfl))).xf,He.noat_ok (c.d.fact 54 rfl)⟩) (aC (⟨(aq (aj (c.x 30 rfl))).xf,He.noat_ok (c.d.fact 55 rfl)⟩) (aC (⟨(aq (aj (c.x 31 rfl))).xf,He.noat_ok (c.d.fact 56 rfl)⟩) (aC (⟨(aq (aj (c.x 32 rfl))).xf,He.noat_ok (c.d.fact 57 rfl)⟩) (aC (⟨(aq (aj (c.x 33 rfl))).xf,He.noat_ok (c.d.fact 58 rfl)⟩) (aC (⟨(aq (aj (c.x 34 rfl))).xf,He.noat_ok (c.d.fact 59 rfl)⟩) (aC (⟨(aq (aj (c.x 35 rfl))).xf,He.noat_ok (c.d.fact 60 rfl)⟩) (aC (⟨(aq (aj (c.x 36 rfl))).xf,He.noat_ok (c.d.fact 61 rfl)⟩) (aC (⟨(aq (aj (c.x 37 rfl))).xf,He.noat_ok (c.d.fact 62 rfl)⟩) (aC (⟨(aq (aj (c.x 38 rfl))).xf,He.noat_ok (c.d.fact 63 rfl)⟩) (aC (⟨(aq (aj (c.x 39 rfl))).xf,He.noat_ok (c.d.fact 64 rfl)⟩) (aC (⟨(aq (aj (c.x 40 rfl))).xf,He.noat_ok (c.d.fact 65 rfl)⟩) (aC (⟨(aq (aj (c.x 41 rfl))).xf,He.noat_ok (c.d.fact 66 rfl)⟩) (aC (⟨(aq (aj (c.x 42 rfl))).xf,He.noat_ok (c.d.fact 67 rfl)⟩) (aC (⟨(aq (aj (c.x 43 rfl))).xf,He.noat_ok (c.d.fact 68 rfl)⟩) (aC (⟨(aq (aj (c.x 44 rfl))).xf,He.noat_ok (c.d.fact 69 rfl)⟩) (aC (⟨(aq (aj (c.x 45 rfl))).xf,He.noat_ok (c.d.fact 70 rfl)⟩) (aC (⟨(aq (aj (c.x 23 rfl))).xf,He.noat_ok (c.d.fact 140 rfl)⟩) (aC (⟨(aq (aj (c.x 24 rfl))).xf,He.noat_ok (c.d.fact 141 rfl)⟩) (aC (⟨(aq (aj (c.x 25 rfl))).xf,He.noat_ok (c.d.fact 142 rfl)⟩) (aC (⟨(aq (aj (c.x 26 rfl))).xf,He.noat_ok (c.d.fact 143 rfl)⟩) (aC (⟨(aq (aj (c.x 27 rfl))).xf,He.noat_ok (c.d.fact 144 rfl)⟩) (aC (⟨(aq (aj (c.x 28 rfl))).xf,He.noat_ok (c.d.fact 145 rfl)⟩) (aC (⟨(aq (aj (c.x 29 rfl))).xf,He.noat_ok (c.d.fact 146 rfl)⟩) (aC (⟨(aq (aj (c.x 30 rfl))).xf,He.noat_ok (c.d.fact 147 rfl)⟩) (aC (⟨(aq (aj (c.x 31 rfl))).xf,He.noat_ok (c.d.fact 148 rfl)⟩) (aC (⟨(aq (aj (c.x 32 rfl))).xf,He.noat_ok (c.d.fact 149 rfl)⟩) (aC (⟨(aq (aj (c.x 33 rfl))).xf,He.noat_ok (c.d.fact 150 rfl)⟩) (aC (⟨(aq (aj (c.x 34 rfl))).xf,He.noat_ok (c.d.fact 151 rfl)⟩) (aC (⟨(aq (aj (c.x 35 rfl))).xf,He.noat_ok (c.d.fact 152 rfl)⟩) (aC (⟨(aq (aj (c.x 36 rfl))).xf,He.noat_ok (c.d.fact 153 rfl)⟩) (aC (⟨(aq (aj (c.x 37 rfl))).xf,He.noat_ok (c.d.fact 154 rfl)⟩) (aC (⟨(aq (aj (c.x 38 rfl))).xf,He.noat_ok (c.d.fact 155 rfl)⟩) (aC (⟨(aq (aj (c.x 39 rfl))).xf,He.noat_ok (c.d.fact 156 rfl)⟩) (aC (⟨(aq (aj (c.x 40 rfl))).xf,He.noat_ok (c.d.fact 157 rfl)⟩) (aC (⟨(aq (aj (c.x 41 rfl))).xf,He.noat_ok (c.d.fact 158 rfl)⟩) (aC (⟨(aq (aj (c.x 42 rfl))).xf,He.noat_ok (c.d.fact 159 rfl)⟩) (aC (⟨(aq (aj (c.x 43 rfl))).xf,He.noat_ok (c.d.fact 160 rfl)⟩) (aC (⟨(aq (aj (c.x 44 rfl))).xf,He.noat_ok (c.d.fact 161 rfl)⟩) (aC (⟨(aq (aj (c.x 45 rfl))).xf,He.noat_ok (c.d.fact 162 rfl)⟩) (aC (⟨(aq (aj (c.x 23 rfl))).xf,He.noat_ok (c.d.fact 48 rfl)⟩) (aC (⟨(aq (aj (c.x 24 rfl))).xf,He.noat_ok (c.d.fact 49 rfl)⟩) (aC (⟨(aq (aj (c.x 25 rfl))).xf,He.noat_ok (c.d.fact 50 rfl)⟩) (aC (⟨(aq (aj (c.x 26 rfl))).xf,He.noat_ok (c.d.fact 51 rfl)⟩) (aC (⟨(aq (aj (c.x 27 rfl))).xf,He.noat_ok (c.d.fact 52 rfl)⟩) (aC (⟨(aq (aj (c.x 28 rfl))).xf,He.noat_ok (c.d.fact 53 rfl)⟩) (aC (⟨(aq (aj (c.x 29 rfl))).xf,He.noat_ok (c.d.fact 54 rfl)⟩) (aC (⟨(aq (aj (c.x 30 rfl))).xf,He.noat_ok (c.d.fact 55 rfl)⟩) (aC (⟨(aq (aj (c.x 31 rfl))).xf,He.noat_ok (c.d.fact 56 rfl)⟩) (aC (⟨(aq (aj (c.x 32 rfl))).xf,He.noat_ok (c.d.fact 57 rfl)⟩) (aC (⟨(aq (aj (c.x 33 rfl))).xf,He.noat_ok (c.d.fact 58 rfl)⟩) (aC (⟨(aq (aj (c.x 34 rfl))).xf,He.noat_ok (c.d.fact 59 rfl)⟩) (aC (⟨(aq (aj (c.x 35 rfl))).xf,He.noat_ok (c.d.fact 60 rfl)⟩) (aC (⟨(aq (aj (c.x 36 rfl))).xf,He.noat_ok (c.d.fact 61 rfl)⟩) (aC (⟨(aq (aj (c.x 37 rfl))).xf,He.noat_ok (c.d.fact 62 rfl)⟩) (aC (⟨(aq (aj (c.x 38 rfl))).xf,He.noat_ok (c.d.fact 63 rfl)⟩) (aC (⟨(aq (aj (c.x 39 rfl))).xf,He.noat_ok (c.d.fact 64 rfl)⟩) (aC (⟨(aq (aj (c.x 40 rfl))).xf,He.noat_ok (c.d.fact 65 rfl)⟩) (aC (⟨(aq (aj (c.x 41 rfl))).xf,He.noat_ok (c.d.fact 66 rfl)⟩) (aC (⟨(aq (aj (c.x 42 rfl))).xf,He.noat_ok (c.d.fact 67 rfl)⟩) (aC (⟨(aq (aj (c.x 43 rfl))).xf,He.noat_ok (c.d.fact 68 rfl)⟩) (aC (⟨(aq (aj (c.x 44 rfl))).xf,He.noat_ok (c.d.fact 69 rfl)⟩) (aC (⟨(aq (aj (c.x 45 rfl))).xf,He.noat_ok (c.d.fact 70 rfl)⟩) (aC (⟨(aq (aj (c.x 23 rfl))).xf,He.noat_ok (c.d.fact 163 rfl)⟩) (aC (⟨(aq (aj (c.x 24 rfl))).xf,He.noat_ok (c.d.fact 164 rfl)⟩) (aC (⟨(aq (aj (c.x 25 rfl))).xf,He.noat_ok (c.d.fact 165 rfl)⟩) (aC (⟨(aq (aj (c.x 26 rfl))).xf,He.noat_ok (c.d.fact 166 rfl)⟩) (aC (⟨(aq (aj (c.x 27 rfl))).xf,He.noat_ok (c.d.fact 167 rfl)⟩) (aC (⟨(aq (aj (c.x 28 rfl))).xf,He.noat_ok (c.d.fact 168 rfl)⟩) (aC (⟨(aq (aj (c.x 29 rfl))).xf,He.noat_ok (c.d.fact 169 rfl)⟩) (aC (⟨(aq (aj (c.x 30 rfl))).xf,He.noat_ok (c.d.fact 170 rfl)⟩) (aC (⟨(aq (aj (c.x 31 rfl))).xf,He.noat_ok (c.d.fact 171 rfl)⟩) (aC (⟨(aq (aj (c.x 32 rfl))).xf,He.noat_ok (c.d.fact 172 rfl)⟩) (aC (⟨(aq (aj (c.x 33 rfl))).xf,He.noat_ok (c.d.fact 173 rfl)⟩) (aC (⟨(aq (aj (c.x 34 rfl))).xf,He.noat_ok (c.d.fact 174 rfl)⟩) (aC (⟨(aq (aj (c.x 35 rfl))).xf,He.noat_ok (c.d.fact 175 rfl)⟩) (aC (⟨(aq (aj (c.x 36 rfl))).xf,He.noat_ok (c.d.fact 176 rfl)⟩) (aC (⟨(aq (aj (c.x 37 rfl))).xf,He.noat_ok (c.d.fact 177 rfl)⟩) (aC (⟨(aq (aj (c.x 38 rfl))).xf,He.noat_ok (c.d.fact 178 rfl)⟩) (aC (⟨(aq (aj (c.x 39 rfl))).xf,He.noat_ok (c.d.fact 179 rfl)⟩) (aC (⟨(aq (aj (c.x 40 rfl))).xf,He.noat_ok (c.d.fact 180 rfl)⟩) (aC (⟨(aq (aj (c.x 41 rfl))).xf,He.noat_ok (c.d.fact 181 rfl)⟩) (aC (⟨(aq (aj (c.x 42 rfl))).xf,He.noat_ok (c.d.fact 182 rfl)⟩) (aC (⟨(aq (aj (c.x 43 rfl))).xf,He.noat_ok (c.d.fact 183 rfl)⟩) (aC (⟨(aq (aj (c.x 44 rfl))).xf,He.noat_ok (c.d.fact 184 rfl)⟩) (aC (⟨(aq (aj (c.x 45 rfl))).xf,He.noat_ok (c.d.fact 185 rfl)⟩) (aC (⟨(aq (aj (c.x 23 rfl))).xf,He.noat_ok (c.d.fact 48 rfl)⟩) (aC (⟨(aq (aj (c.x 24 rfl))).xf,He.noat_ok (c.d.fact 49 rfl)⟩) (aC (⟨(aq (aj (c.x 25 rfl))).xf,He.noat_ok (c.d.fact 50 rfl)⟩) (aC (⟨(aq (aj (c.x 26 rfl))).xf,He.noat_ok (c.d.fact 51 rfl)⟩) (aC (⟨(aq (aj (c.x 27 rfl))).xf,He.noat_ok (c.d.fact 52 rfl)⟩) (aC (⟨(aq (aj (c.x 28 rfl))).xf,He.noat_ok (c.d.fact 53 rfl)⟩) (aC (⟨(aq (aj (c.x 29 rfl))).xf,He.noat_ok (c.d.fact 54 rfl)⟩) (aC (⟨(aq (aj (c.x 30 rfl))).xf,He.noat_ok (c.d.fact 55 rfl)⟩) (aC (⟨(aq (aj (c.x 31 rfl))).xf,He.noat_ok (c.d.fact 56 rfl)⟩) (aC (⟨(aq (aj (c.x 32 rfl))).xf,He.noat_ok (c.d.fact 57 rfl)⟩) (aC (⟨(aq (aj (c.x 33 rfl))).xf,He.noat_ok (c.d.fact 58 rfl)⟩) (aC (⟨(aq (aj (c.x 34 rfl))).xf,He.noat_ok (c.d.fact 59 rfl)⟩) (aC (⟨(aq (aj (c.x 35 rfl))).xf,He.noat_ok (c.d.fact 60 rfl)⟩) (aC (⟨(aq (aj (c.x 36 rfl))).xf,He.noat_ok (c.d.fact 61 rfl)⟩) (aC (⟨(aq (aj (c.x 37 rfl))).xf,He.noat_ok (c.d.fact 62 rfl)⟩) (aC (⟨(aq (aj (c.x 38 rfl))).xf,He.noat_ok (c.d.fact 63 rfl)⟩) (aC (⟨(aq (aj (c.x 39 rfl))).xf,He.noat_ok (c.d.fact 64 rfl)⟩) (aC (⟨(aq (aj (c.x 40 rfl))).xf,He.noat_ok (c.d.fact 65 rfl)⟩) (aC (⟨(aq (aj (c.x 41 rfl))).xf,He.noat_ok (c.d.fact 66 rfl)⟩) (aC (⟨(aq (aj (c.x 42 rfl))).xf,He.noat_ok (c.d.fact 67 rfl)⟩) (aC (⟨(aq (aj (c.x 43 rfl))).xf,He.noat_ok (c.d.fact 68 rfl)⟩) (aC (⟨(aq (aj (c.x 44 rfl))).xf,He.noat_ok (c.d.fact 69 rfl)⟩) (aC (⟨(aq (aj (c.x 45 rfl))).xf,He.noat_ok (c.d.fact 70 rfl)⟩) (aC (⟨(aq (aj (c.x 23 rfl))).xf,He.noat_ok (c.d.fact 186 rfl)⟩) (aC (⟨(aq (aj (c.x 24 rfl))).xf,He.noat_ok (c.d.fact 187 rfl)⟩) (aC (⟨(aq (aj (c.x 25 rfl))).xf,He.noat_ok (c.d.fact 188 rfl)⟩) (aC (⟨(aq (aj (c.x 26 rfl))).xf,He.noat_ok (c.d.fact 189 rfl)⟩) (aC (⟨(aq (aj (c.x 27 rfl))).xf,He.noat_ok (c.d.fact 190 rfl)⟩) (aC (⟨(aq (aj (c.x 28 rfl))).xf,He.noat_ok (c.d.fact 191 rfl)⟩) (aC (⟨(aq (aj (c.x 29 rfl))).xf,He.noat_ok (c.d.fact 192 rfl)⟩) (aC (⟨(aq (aj (c.x 30 rfl))).xf,He.noat_ok (c.d.fact 193 rfl)⟩) (aC (⟨(aq (aj (c.x 31 rfl))).xf,He.noat_ok (c.d.fact 194 rfl)⟩) (aC (⟨(aq (aj (c.x 32 rfl))).xf,He.noat_ok (c.d.fact 195 rfl)⟩) (aC (⟨(aq (aj (c.x 33 rfl))).xf,He.noat_ok (c.d.fact 196 rfl)⟩) (aC (⟨(aq (aj (c.x 34 rfl))).xf,He.noat_ok (c.d.fact 197 rfl)⟩) (aC (⟨(aq (aj (c.x 35 rfl))).xf,He.noat_ok (c.d.fact 198 rfl)⟩) (aC (⟨(aq (aj (c.x 36 rfl))).xf,He.noat_ok (c.d.fact 199 rfl)⟩) (aC (⟨(aq (aj (c.x 37 rfl))).xf,He.noat_ok (c.d.fact 200 rfl)⟩) (aC (⟨(aq (aj (c.x 38 rfl))).xf,He.noat_ok (c.d.fact 201 rfl)⟩) (aC (⟨(aq (aj (c.x 39 rfl))).xf,He.noat_ok (c.d.fact 202 rfl)⟩) (aC (⟨(aq (aj (c.x 40 rfl))).xf,He.noat_ok (c.d.fact 203 rfl)⟩) (aC (⟨(aq (aj (c.x 41 rfl))).xf,He.noat_ok (c.d.fact 204 rfl)⟩) (aC (⟨(aq (aj (c.x 42 rfl))).xf,He.noat_ok (c.d.fact 205 rfl)⟩) (aC (⟨(aq (aj (c.x 43 rfl))).xf,He.noat_ok (c.d.fact 206 rfl)⟩) (aC (⟨(aq (aj (c.x 44 rfl))).xf,He.noat_ok (c.d.fact 207 rfl)⟩) (aC (⟨(aq (aj (c.x 45 rfl))).xf,He.noat_ok (c.d.fact 208 rfl)⟩) (aC (⟨(aq (aj (c.x 23 rfl))).xf,He.noat_ok (c.d.fact 209 rfl)⟩) (aC (⟨(aq (aj (c.x 24 rfl))).xf,He.noat_ok (c.d.fact 210 rfl)⟩) (aC (⟨(aq (aj (c.x 25 rfl))).xf,He.noat_ok (c.d.fact 211 rfl)⟩) (aC (⟨(aq (aj (c.x 26 rfl))).xf,He.noat_ok (c.d.fact 212 rfl)⟩) (aC (⟨(aq (aj (c.x 27 rfl))).xf,He.noat_ok (c.d.fact 213 rfl)⟩) (aC (⟨(aq (aj (c.x 28 rfl))).xf,He.noat_ok (c.d.fact 214 rfl)⟩) (aC (⟨(aq (aj (c.x 29 rfl))).xf,He.noat_ok (c.d.fact 215 rfl)⟩) (aC (⟨(aq (aj (c.x 30 rfl))).xf,He.noat_ok (c.d.fact 216 rfl)⟩) (aC (⟨(aq (aj (c.x 31 rfl))).xf,He.noat_ok (c.d.fact 217 rfl)⟩) (aC (⟨(aq (aj (c.x 32 rfl))).xf,He.noat_ok (c.d.fact 218 rfl)⟩) (aC (⟨(aq (aj (c.x 33 rfl))).xf,He.noat_ok (c.d.fact 219 rfl)⟩) (aC (⟨(aq (aj (c.x 34 rfl))).xf,He.noat_ok (c.d.fact 220 rfl)⟩) (aC (⟨(aq (aj (c.x 35 rfl))).xf,He.noat_ok (c.d.fact 221 rfl)⟩) (aC (⟨(aq (aj (c.x 36 rfl))).xf,He.noat_ok (c.d.fact 222 rfl)⟩) (aC (⟨(aq (aj (c.x 37 rfl))).xf,He.noat_ok (c.d.fact 223 rfl)⟩) (aC (⟨(aq (aj (c.x 38 rfl))).xf,He.noat_ok (c.d.fact 224 rfl)⟩) (aC (⟨(aq (aj (c.x 39 rfl))).xf,He.noat_ok (c.d.fact 225 rfl)⟩) (aC (⟨(aq (aj (c.x 40 rfl))).xf,He.noat_ok (c.d.fact 226 rfl)⟩) (aC (⟨(aq (aj (c.x 41 rfl))).xf,He.noat_ok (c.d.fact 227 rfl)⟩) (aC (⟨(aq (aj (c.x 42 rfl))).xf,He.noat_ok (c.d.fact 228 rfl)⟩) (aC (⟨(aq (aj (c.x 43 rfl))).xf,He.noat_ok (c.d.fact 229 rfl)⟩) (aC (⟨(aq (aj (c.x 44 rfl))).xf,He.noat_ok (c.d.fact 230 rfl)⟩) (aC (⟨(aq (aj (c.x 45 rfl))).xf,He.noat_ok (c.d.fact 231 rfl)⟩) All.nil)))))))))))))))))))))))))))))))))))))))))))))))))))))))))))))))))))))))))))))))))))))))))))))))))))))))))))))))))))))))))))))))))))))))))))))))))))))))))))))))))))))))))))))))))))))))))))))))))))))))))))))))))))))))))))))))))))))))))))))))))))))))))))))))))))))))))))))))))))))))))))))))))))))))))))))))))))))))))))))))))) xN z9
 have uF:=FnAt.q base 0 dF nA rN mo rP (aC (He.glo_ok X G (c.d.fact 25 rfl)) (aC (aa (aj (c.x 46 rfl))) (aC (ak (c.x 47 rfl)) (aC (aa (aj (c.x 48 rfl))) (aC (ak (c.x 49 rfl)) (aC (aa (aj (c.x 50 rfl))) (aC (ak (c.x 51 rfl)) (aC (aa (aj (c.x 52 rfl))) (aC (ak (c.x 53 rfl)) (aC (aa (aj (c.x 54 rfl))) (aC (ak (c.x 55 rfl)) (aC (aa (aj (c.x 56 rfl))) (aC (ak (c.x 57 rfl)) (aC (aa (aj (c.x 58 rfl))) (aC (ak (c.x 59 rfl)) (aC (aa (aj (c.x 60 rfl))) (aC (ak (c.x 61 rfl)) (aC (aa (aj (c.x 62 rfl))) (aC (ak (c.x 63 rfl)) (aC (aa (aj (c.x 64 rfl))) (aC (ak (c.x 65 rfl)) (aC (aa (aj (c.x 66 rfl))) (aC (ak (c.x 67 rfl)) (aC (aa (aj (c.x 68 rfl))) (aC (ak (c.x 69 rfl)) (aC (aa (aj (c.x 70 rfl))) (aC (ak (c.x 71 rfl)) (aC (aa (aj (c.x 72 rfl))) (aC (ak (c.x 73 rfl)) (aC (aa (aj (c.x 74 rfl))) (aC (ak (c.x 75 rfl)) (aC (aa (aj (c.x 76 rfl))) (aC (ak (c.x 77 rfl)) (aC (aa (aj (c.x 78 rfl))) (aC (ak (c.x 79 rfl)) (aC (aa (aj (c.x 80 rfl))) (aC (ak (c.x 81 rfl)) (aC (aa (aj (c.x 82 rfl))) (aC (ak (c.x 83 rfl)) (aC (aa (aj (c.x 84 rfl))) (aC (ak (c.x 85 rfl)) (aC (aa (aj (c.x 86 rfl))) (aC (ak (c.x 87 rfl)) (aC (aa (aj (c.x 88 rfl))) (aC (ak (c.x 89 rfl)) (aC (aa (aj (c.x 90 rfl))) (aC (ak (c.x 91 rfl)) (aC (He.glo_ok X G (c.d.fact 26 rfl)) (aC (aa (aj (c.x 46 rfl))) (aC (ak (c.x 92 rfl)) (aC (aa (aj (c.x 48 rfl))) (aC (ak (c.x 93 rfl)) (aC (aa (aj (c.x 50 rfl))) (aC (ak (c.x 94 rfl)) (aC (aa (aj (c.x 52 rfl))) (aC (ak (c.x 95 rfl)) (aC (aa (aj (c.x 54 rfl))) (aC (ak (c.x 96 rfl)) (aC (aa (aj (c.x 56 rfl))) (aC (ak (c.x 97 rfl)) (aC (aa (aj (c.x 58 rfl))) (aC (ak (c.x 98 rfl)) (aC (aa (aj (c.x 60 rfl))) (aC (ak (c.x 99 rfl)) (aC (aa (aj (c.x 62 rfl))) (aC (ak (c.x 100 rfl)) (aC (aa (aj (c.x 64 rfl))) (aC (ak (c.x 101 rfl)) (aC (aa (aj (c.x 66 rfl))) (aC (ak (c.x 102 rfl)) (aC (aa (aj (c.x 68 rfl))) (aC (ak (c.x 103 rfl)) (aC (aa (aj (c.x 70 rfl))) (aC (ak (c.x 104 rfl)) (aC (aa (aj (c.x 72 rfl))) (aC (ak (c.x 105 rfl)) (aC (aa (aj (c.x 74 rfl))) (aC (ak (c.x 106 rfl)) (aC (aa (aj (c.x 76 rfl))) (aC (ak (c.x 107 rfl)) (aC (aa (aj (c.x 78 rfl))) (aC (ak (c.x 108 rfl)) (aC (aa (aj (c.x 80 rfl))) (aC (ak (c.x 109 rfl)) (aC (aa (aj (c.x 82 rfl))) (aC (ak (c.x 110 rfl)) (aC (aa (aj (c.x 84 rfl))) (aC (ak (c.x 111 rfl)) (aC (aa (aj (c.x 86 rfl))) (aC (ak (c.x 112 rfl)) (aC (aa (aj (c.x 88 rfl))) (aC (ak (c.x 113 rfl)) (aC (aa (aj (c.x 90 rfl))) (aC (ak (c.x 114 rfl)) (aC (He.glo_ok X G (c.d.fact 27 rfl)) (aC (aa (aj (c.x 46 rfl))) (aC (ak (c.x 115 rfl)) (aC (aa (aj (c.x 48 rfl))) (aC (ak (c.x 116 rfl)) (aC (aa (aj (c.x 50 rfl))) (aC (ak (c.x 117 rfl)) (aC (aa (aj (c.x 52 rfl))) (aC (ak (c.x 118 rfl)) (aC (aa (aj (c.x 54 rfl))) (aC (ak (c.x 119 rfl)) (aC (aa (aj (c.x 56 rfl))) (aC (ak (c.x 120 rfl)) (aC (aa (aj (c.x 58 rfl))) (aC (ak (c.x 121 rfl)) (aC (aa (aj (c.x 60 rfl))) (aC (ak (c.x 122 rfl)) (aC (aa (aj (c.x 62 rfl))) (aC (ak (c.x 123 rfl)) (aC (aa (aj (c.x 64 rfl))) (aC (ak (c.x 124 rfl)) (aC (aa (aj (c.x 66 rfl))) (aC (ak (c.x 125 rfl)) (aC (aa (aj (c.x 68 rfl))) (aC (ak (c.x 126 rfl)) (aC (aa (aj (c.x 70 rfl))) (aC (ak (c.x 127 rfl)) (aC (aa (aj (c.x 72 rfl))) (aC (ak (c.x 128 rfl)) (aC (aa (aj (c.x 74 rfl))) (aC (ak (c.x 129 rfl)) (aC (aa (aj (c.x 76 rfl))) (aC (ak (c.x 130 rfl)) (aC (aa (aj (c.x 78 rfl))) (aC (ak (c.x 131 rfl)) (aC (aa (aj (c.x 80 rfl))) (aC (ak (c.x 132 rfl)) (aC (aa (aj (c.x 82 rfl))) (aC (ak (c.x 133 rfl)) (aC (aa (aj (c.x 84 rfl))) (aC (ak (c.x 134 rfl)) (aC (aa (aj (c.x 86 rfl))) (aC (ak (c.x 135 rfl)) (aC (aa (aj (c.x 88 rfl))) (aC (ak (c.x 136 rfl)) (aC (aa (aj (c.x 90 rfl))) (aC (ak (c.x 137 rfl)) (aC (He.glo_ok X G (c.d.fact 28 rfl)) (aC (aa (aj (c.x 46 rfl))) (aC (ak (c.x 138 rfl)) (aC (aa (aj (c.x 48 rfl))) (aC (ak (c.x 139 rfl)) (aC (aa (aj (c.x 50 rfl))) (aC (ak (c.x 140 rfl)) (aC (aa (aj (c.x 52 rfl))) (aC (ak (c.x 141 rfl)) (aC (aa (aj (c.x 54 rfl))) (aC (ak (c.x 142 rfl)) (aC (aa (aj (c.x 56 rfl))) (aC (ak (c.x 143 rfl)) (aC (aa (aj (c.x 58 rfl))) (aC (ak (c.x 144 rfl)) (aC (aa (aj (c.x 60 rfl))) (aC (ak (c.x 145 rfl)) (aC (aa (aj (c.x 62 rfl))) (aC (ak (c.x 146 rfl)) (aC (aa (aj (c.x 64 rfl))) (aC (ak (c.x 147 rfl)) (aC (aa (aj (c.x 66 rfl))) (aC (ak (c.x 148 rfl)) (aC (aa (aj (c.x 68 rfl))) (aC (ak (c.x 149 rfl)) (aC (aa (aj (c.x 70 rfl))) (aC (ak (c.x 150 rfl)) (aC (aa (aj (c.x 72 rfl))) (aC (ak (c.x 151 rfl)) (aC (aa (aj (c.x 74 rfl))) (aC (ak (c.x 152 rfl)) (aC (aa (aj (c.x 76 rfl))) (aC (ak (c.x 153 rfl)) (aC (aa (aj (c.x 78 rfl))) (aC (ak (c.x 154 rfl)) (aC (aa (aj (c.x 80 rfl))) (aC (ak (c.x 155 rfl)) (aC (aa (aj (c.x 82 rfl))) (aC (ak (c.x 156 rfl)) (aC (aa (aj (c.x 84 rfl))) (aC (ak (c.x 157 rfl)) (aC (aa (aj (c.x 86 rfl))) (aC (ak (c.x 158 rfl)) (aC (aa (aj (c.x 88 rfl))) (aC (ak (c.x 159 rfl)) (aC (aa (aj (c.x 90 rfl))) (aC (ak (c.x 160 rfl)) (aC (He.glo_ok X G (c.d.fact 29 rfl)) (aC (aa (aj (c.x 46 rfl))) (aC (ak (c.x 161 rfl)) (aC (aa (aj (c.x 48 rfl))) (aC (ak (c.x 162 rfl)) (aC (aa (aj (c.x 50 rfl))) (aC (ak (c.x 163 rfl)) (aC (aa (aj (c.x 52 rfl))) (aC (ak (c.x 164 rfl)) (aC (aa (aj (c.x 54 rfl))) (aC (ak (c.x 165 rfl)) (aC (aa (aj (c.x 56 rfl))) (aC (ak (c.x 166 rfl)) (aC (aa (aj (c.x 58 rfl))) (aC (ak (c.x 167 rfl)) (aC (aa (aj (c.x 60 rfl))) (aC (ak (c.x 168 rfl)) (aC (aa (aj (c.x 62 rfl))) (aC (ak (c.x 169 rfl)) (aC (aa (aj (c.x 64 rfl))) (aC (ak (c.x 170 rfl)) (aC (aa (aj (c.x 66 rfl))) (aC (ak (c.x 171 rfl)) (aC (aa (aj (c.x 68 rfl))) (aC (ak (c.x 172 rfl)) (aC (aa (aj (c.x 70 rfl))) (aC (ak (c.x 173 rfl)) (aC (aa (aj (c.x 72 rfl))) (aC (ak (c.x 174 rfl)) (aC (aa (aj (c.x 74 rfl))) (aC (ak (c.x 175 rfl)) (aC (aa (aj (c.x 76 rfl))) (aC (ak (c.x 176 rfl)) (aC (aa (aj (c.x 78 rfl))) (aC (ak (c.x 177 rfl)) (aC (aa (aj (c.x 80 rfl))) (aC (ak (c.x 178 rfl)) (aC (aa (aj (c.x 82 rfl))) (aC (ak (c.x 179 rfl)) (aC (aa (aj (c.x 84 rfl))) (aC (ak (c.x 180 rfl)) (aC (aa (aj (c.x 86 rfl))) (aC (ak (c.x 181 rfl)) (aC (aa (aj (c.x 88 rfl))) (aC (ak (c.x 182 rfl)) (aC (aa (aj (c.x 90 rfl))) (aC (ak (c.x 183 rfl)) (aC (He.glo_ok X G (c.d.fact 30 rfl)) (aC (aa (aj (c.x 46 rfl))) (aC (ak (c.x 184 rfl)) (aC (aa (aj (c.x 48 rfl))) (aC (ak (c.x 185 rfl)) (aC (aa (aj (c.x 50 rfl))) (aC (ak (c.x 186 rfl)) (aC (aa (aj (c.x 52 rfl))) (aC (ak (c.x 187 rfl)) (aC (aa (aj (c.x 54 rfl))) (aC (ak (c.x 188 rfl)) (aC (aa (aj (c.x 56 rfl))) (aC (ak (c.x 189 rfl)) (aC (aa (aj (c.x 58 rfl))) (aC (ak (c.x 190 rfl)) (aC (aa (aj (c.x 60 rfl))) (aC (ak (c.x 191 rfl)) (aC (aa (aj (c.x 62 rfl))) (aC (ak (c.x 192 rfl)) (aC (aa (aj (c.x 64 rfl))) (aC (ak (c.x 193 rfl)) (aC (aa (aj (c.x 66 rfl))) (aC (ak (c.x 194 rfl)) (aC (aa (aj (c.x 68 rfl))) (aC (ak (c.x 195 rfl)) (aC (aa (aj (c.x 70 rfl))) (aC (ak (c.x 196 rfl)) (aC (aa (aj (c.x 72 rfl))) (aC (ak (c.x 197 rfl)) (aC (aa (aj (c.x 74 rfl))) (aC (ak (c.x 198 rfl)) (aC (aa (aj (c.x 76 rfl))) (aC (ak (c.x 199 rfl)) (aC (aa (aj (c.x 78 rfl))) (aC (ak (c.x 200 rfl)) (aC (aa (aj (c.x 80 rfl))) (aC (ak (c.x 201 rfl)) (aC (aa (aj (c.x 82 rfl))) (aC (ak (c.x 202 rfl)) (aC (aa (aj (c.x 84 rfl))) (aC (ak (c.x 203 rfl)) (aC (aa (aj (c.x 86 rfl))) (aC (ak (c.x 204 rfl)) (aC (aa (aj (c.x 88 rfl))) (aC (ak (c.x 205 rfl)) (aC (aa (aj (c.x 90 rfl))) (aC (ak (c.x 206 rfl)) (aC (He.glo_ok X G (c.d.fact 31 rfl)) (aC (aa (aj (c.x 46 rfl))) (aC (ak (c.x 207 rfl)) (aC (aa (aj (c.x 48 rfl))) (aC (ak (c.x 208 rfl)) (aC (aa (aj (c.x 50 rfl))) (aC (ak (c.x 209 rfl)) (aC (aa (aj (c.x 52 rfl))) (aC (ak (c.x 210 rfl)) (aC (aa (aj (c.x 54 rfl))) (aC (ak (c.x 211 rfl)) (aC (aa (aj (c.x 56 rfl))) (aC (ak (c.x 212 rfl)) (aC (aa (aj (c.x 58 rfl))) (aC (ak (c.x 213 rfl)) (aC (aa (aj (c.x 60 rfl))) (aC (ak (c.x 214 rfl)) (aC (aa (aj (c.x 62 rfl))) (aC (ak (c.x 215 rfl)) (aC (aa (aj (c.x 64 rfl))) (aC (ak (c.x 216 rfl)) (aC (aa (aj (c.x 66 rfl))) (aC (ak (c.x 217 rfl)) (aC (aa (aj (c.x 68 rfl))) (aC (ak (c.x 218 rfl)) (aC (aa (aj (c.x 70 rfl))) (aC (ak (c.x 219 rfl)) (aC (aa (aj (c.x 72 rfl))) (aC (ak (c.x 220 rfl)) (aC (aa (aj (c.x 74 rfl))) (aC (ak (c.x 221 rfl)) (aC (aa (aj (c.x 76 rfl))) (aC (ak (c.x 222 rfl)) (aC (aa (aj (c.x 78 rfl))) (aC (ak (c.x 223 rfl)) (aC (aa (aj (c.x 80 rfl))) (aC (ak (c.x 224 rfl)) (aC (aa (aj (c.x 82 rfl))) (aC (ak (c.x 225 rfl)) (aC (aa (aj (c.x 84 rfl))) (aC (ak (c.x 226 rfl)) (aC (aa (aj (c.x 86 rfl))) (aC (ak (c.x 227 rfl)) (aC (aa (aj (c.x 88 rfl))) (aC (ak (c.x 228 rfl)) (aC (aa (aj (c.x 90 rfl))) (aC (ak (c.x 229 rfl)) (aC (He.glo_ok X G (c.d.fact 32 rfl)) (aC (aa (aj (c.x 46 rfl))) (aC (ak (c.x 230 rfl)) (aC (aa (aj (c.x 48 rfl))) (aC (ak (c.x 231 rfl)) (aC (aa (aj (c.x 50 rfl))) (aC (ak (c.x 232 rfl)) (aC (aa (aj (c.x 52 rfl))) (aC (ak (c.x 233 rfl)) (aC (aa (aj (c.x 54 rfl))) (aC (ak (c.x 234 rfl)) (aC (aa (aj (c.x 56 rfl))) (aC (ak (c.x 235 rfl)) (aC (aa (aj (c.x 58 rfl))) (aC (ak (c.x 236 rfl)) (aC (aa (aj (c.x 60 rfl))) (aC (ak (c.x 237 rfl)) (aC (aa (aj (c.x 62 rfl))) (aC (ak (c.x 238 rfl)) (aC (aa (aj (c.x 64 rfl))) (aC (ak (c.x 239 rfl)) (aC (aa (aj (c.x 66 rfl))) (aC (ak (c.x 240 rfl)) (aC (aa (aj (c.x 68 rfl))) (aC (ak (c.x 241 rfl)) (aC (aa (aj (c.x 70 rfl))) (aC (ak (c.x 242 rfl)) (aC (aa (aj (c.x 72 rfl))) (aC (ak (c.x 243 rfl)) (aC (aa (aj (c.x 74 rfl))) (aC (ak (c.x 244 rfl)) (aC (aa (aj (c.x 76 rfl))) (aC (ak (c.x 245 rfl)) (aC (aa (aj (c.x 78 rfl))) (aC (ak (c.x 246 rfl)) (aC (aa (aj (c.x 80 rfl))) (aC (ak (c.x 247 rfl)) (aC (aa (aj (c.x 82 rfl))) (aC (ak (c.x 248 rfl)) (aC (aa (aj (c.x 84 rfl))) (aC (ak (c.x 249 rfl)) (aC (aa (aj (c.x 86 rfl))) (aC (ak (c.x 250 rfl)) (aC (aa (aj (c.x 88 rfl))) (aC (ak (c.x 251 rfl)) (aC (aa (aj (c.x 90 rfl))) (aC (ak (c.x 252 rfl)) (aC (He.glo_ok X G (c.d.fact 33 rfl)) (aC (aa (aj (c.x 46 rfl))) (aC (ak (c.x 253 rfl)) (aC (aa (aj (c.x 48 rfl))) (aC (ak (c.x 254 rfl)) (aC (aa (aj (c.x 50 rfl))) (aC (ak (c.x 255 rfl)) (aC (aa (aj (c.x 52 rfl))) (aC (ak (c.x 256 rfl)) (aC (aa (aj (c.x 54 rfl))) (aC (ak (c.x 257 rfl)) (aC (aa (aj (c.x 56 rfl))) (aC (ak (c.x 258 rfl)) (aC (aa (aj (c.x 58 rfl))) (aC (ak (c.x 259 rfl)) (aC (aa (aj (c.x 60 rfl))) (aC (ak (c.x 260 rfl)) (aC (aa (aj (c.x 62 rfl))) (aC (ak (c.x 261 rfl)) (aC (aa (aj (c.x 64 rfl))) (aC (ak (c.x 262 rfl)) (aC (aa (aj (c.x 66 rfl))) (aC (ak (c.x 263 rfl)) (aC (aa (aj (c.x 68 rfl))) (aC (ak (c.x 264 rfl)) (aC (aa (aj (c.x 70 rfl))) (aC (ak (c.x 265 rfl)) (aC (aa (aj (c.x 72 rfl))) (aC (ak (c.x 266 rfl)) (aC (aa (aj (c.x 74 rfl))) (aC (ak (c.x 267 rfl)) (aC (aa (aj (c.x 76 rfl))) (aC (ak (c.x 268 rfl)) (aC (aa (aj (c.x 78 rfl))) (aC (ak (c.x 269 rfl)) (aC (aa (aj (c.x 80 rfl))) (aC (ak (c.x 270 rfl)) (aC (aa (aj (c.x 82 rfl))) (aC (ak (c.x 271 rfl)) (aC (aa (aj (c.x 84 rfl))) (aC (ak (c.x 272 rfl)) (aC (aa (aj (c.x 86 rfl))) (aC (ak (c.x 273 rfl)) (aC (aa (aj (c.x 88 rfl))) (aC (ak (c.x 274 rfl)) (aC (aa (aj (c.x 90 rfl))) (aC (ak (c.x 275 rfl)) (aC (He.glo_ok X G (c.d.fact 34 rfl)) (aC (aa (aj (c.x 46 rfl))) (aC (ak (c.x 276 rfl)) (aC (aa (aj (c.x 48 rfl))) (aC (ak (c.x 277 rfl)) (aC (aa (aj (c.x 50 rfl))) (aC (ak (c.x 278 rfl)) (aC (aa (aj (c.x 52 rfl))) (aC (ak (c.x 279 rfl)) (aC (aa (aj (c.x 54 rfl))) (aC (ak (c.x 280 rfl)) (aC (aa (aj (c.x 56 rfl))) (aC (ak (c.x 281 rfl)) (aC (aa (aj (c.x 58 rfl))) (aC (ak (c.x 282 rfl)) (aC (aa (aj (c.x 60 rfl))) (aC (ak (c.x 283 rfl)) (aC (aa (aj (c.x 62 rfl))) (aC (ak (c.x 284 rfl)) (aC (aa (aj (c.x 64 rfl))) (aC (ak (c.x 285 rfl)) (aC (aa (aj (c.x 66 rfl))) (aC (ak (c.x 286 rfl)) (aC (aa (aj (c.x 68 rfl))) (aC (ak (c.x 287 rfl)) (aC (aa (aj (c.x 70 rfl))) (aC (ak (c.x 288 rfl)) (aC (aa (aj (c.x 72 rfl))) (aC (ak (c.x 289 rfl)) (aC (aa (aj (c.x 74 rfl))) (aC (ak (c.x 290 rfl)) (aC (aa (aj (c.x 76 rfl))) (aC (ak (c.x 291 rfl)) (aC (aa (aj (c.x 78 rfl))) (aC (ak (c.x 292 rfl)) (aC (aa (aj (c.x 80 rfl))) (aC (ak (c.x 293 rfl)) (aC (aa (aj (c.x 82 rfl))) (aC (ak (c.x 294 rfl)) (aC (aa (aj (c.x 84 rfl))) (aC (ak (c.x 295 rfl)) (aC (aa (aj (c.x 86 rfl))) (aC (ak (c.x 296 rfl)) (aC (aa (aj (c.x 88 rfl))) (aC (ak (c.x 297 rfl)) (aC (aa (aj (c.x 90 rfl))) (aC (ak (c.x 298 rfl)) (aC (He.glo_ok X G (c.d.fact 35 rfl)) (aC (aa (aj (c.x 46 rfl))) (aC (ak (c.x 299 rfl)) (aC (aa (aj (c.x 48 rfl))) (aC (ak (c.x 300 rfl)) (aC (aa (aj (c.x 50 rfl))) (aC (ak (c.x 301 rfl)) (aC (aa (aj (c.x 52 rfl))) (aC (ak (c.x 302 rfl)) (aC (aa (aj (c.x 54 rfl))) (aC (ak (c.x 303 rfl)) (aC (aa (aj (c.x 56 rfl))) (aC (ak (c.x 304 rfl)) (aC (aa (aj (c.x 58 rfl))) (aC (ak (c.x 305 rfl)) (aC (aa (aj (c.x 60 rfl))) (aC (ak (c.x 306 rfl)) (aC (aa (aj (c.x 62 rfl))) (aC (ak (c.x 307 rfl)) (aC (aa (aj (c.x 64 rfl))) (aC (ak (c.x 308 rfl)) (aC (aa (aj (c.x 66 rfl))) (aC (ak (c.x 309 rfl)) (aC (aa (aj (c.x 68 rfl))) (aC (ak (c.x 310 rfl)) (aC (aa (aj (c.x 70 rfl))) (aC (ak (c.x 311 rfl)) (aC (aa (aj (c.x 72 rfl))) (aC (ak (c.x 312 rfl)) (aC (aa (aj (c.x 74 rfl))) (aC (ak (c.x 313 rfl)) (aC (aa (aj (c.x 76 rfl))) (aC (ak (c.x 314 rfl)) (aC (aa (aj (c.x 78 rfl))) (aC (ak (c.x 315 rfl)) (aC (aa (aj (c.x 80 rfl))) (aC (ak (c.x 316 rfl)) (aC (aa (aj (c.x 82 rfl))) (aC (ak (c.x 317 rfl)) (aC (aa (aj (c.x 84 rfl))) (aC (ak (c.x 318 rfl)) (aC (aa (aj (c.x 86 rfl))) (aC (ak (c.x 319 rfl)) (aC (aa (aj (c.x 88 rfl))) (aC (ak (c.x 320 rfl)) (aC (aa (aj (c.x 90 rfl))) (aC (ak (c.x 321 rfl)) (aC (He.glo_ok X G (c.d.fact 36 rfl)) (aC (aa (aj (c.x 46 rfl))) (aC (ak (c.x 322 rfl)) (aC (aa (aj (c.x 48 rfl))) (aC (ak (c.x 323 rfl)) (aC (aa (aj (c.x 50 rfl))) (aC (ak (c.x 324 rfl)) (aC (aa (aj (c.x 52 rfl))) (aC (ak (c.x 325 rfl)) (aC (aa (aj (c.x 54 rfl))) (aC (ak (c.x 326 rfl)) (aC (aa (aj (c.x 56 rfl))) (aC (ak (c.x 327 rfl)) (aC (aa (aj (c.x 58 rfl))) (aC (ak (c.x 328 rfl)) (aC (aa (aj (c.x 60 rfl))) (aC (ak (c.x 329 rfl)) (aC (aa (aj (c.x 62 rfl))) (aC (ak (c.x 330 rfl)) (aC (aa (aj (c.x 64 rfl))) (aC (ak (c.x 331 rfl)) (aC (aa (aj (c.x 66 rfl))) (aC (ak (c.x 332 rfl)) (aC (aa (aj (c.x 68 rfl))) (aC (ak (c.x 333 rfl)) (aC (aa (aj (c.x 70 rfl))) (aC (ak (c.x 334 rfl)) (aC (aa (aj (c.x 72 rfl))) (aC (ak (c.x 335 rfl)) (aC (aa (aj (c.x 74 rfl))) (aC (ak (c.x 336 rfl)) (aC (aa (aj (c.x 76 rfl))) (aC (ak (c.x 337 rfl)) (aC (aa (aj (c.x 78 rfl))) (aC (ak (c.x 338 rfl)) (aC (aa (aj (c.x 80 rfl))) (aC (ak (c.x 339 rfl)) (aC (aa (aj (c.x 82 rfl))) (aC (ak (c.x 340 rfl)) (aC (aa (aj (c.x 84 rfl))) (aC (ak (c.x 341 rfl)) (aC (aa (aj (c.x 86 rfl))) (aC (ak (c.x 342 rfl)) (aC (aa (aj (c.x 88 rfl))) (aC (ak (c.x 343 rfl)) (aC (aa (aj (c.x 90 rfl))) (aC (ak (c.x 344 rfl)) (aC (He.glo_ok X G (c.d.fact 46 rfl)) (aC (aa (aj (c.x 46 rfl))) (aC (ak (c.x 345 rfl)) (aC (aa (aj (c.x 48 rfl))) (aC (ak (c.x 346 rfl)) (aC (aa (aj (c.x 50 rfl))) (aC (ak (c.x 347 rfl)) (aC (aa (aj (c.x 52 rfl))) (aC (ak (c.x 348 rfl)) (aC (aa (aj (c.x 54 rfl))) (aC (ak (c.x 349 rfl)) (aC (aa (aj (c.x 56 rfl))) (aC (ak (c.x 350 rfl)) (aC (aa (aj (c.x 58 rfl))) (aC (ak (c.x 351 rfl)) (aC (aa (aj (c.x 60 rfl))) (aC (ak (c.x 352 rfl)) (aC (aa (aj (c.x 62 rfl))) (aC (ak (c.x 353 rfl)) (aC (aa (aj (c.x 64 rfl))) (aC (ak (c.x 354 rfl)) (aC (aa (aj (c.x 66 rfl))) (aC (ak (c.x 355 rfl)) (aC (aa (aj (c.x 68 rfl))) (aC (ak (c.x 356 rfl)) (aC (aa (aj (c.x 70 rfl))) (aC (ak (c.x 357 rfl)) (aC (aa (aj (c.x 72 rfl))) (aC (ak (c.x 358 rfl)) (aC (aa (aj (c.x 74 rfl))) (aC (ak (c.x 359 rfl)) (aC (aa (aj (c.x 76 rfl))) (aC (ak (c.x 360 rfl)) (aC (aa (aj (c.x 78 rfl))) (aC (ak (c.x 361 rfl)) (aC (aa (aj (c.x 80 rfl))) (aC (ak (c.x 362 rfl)) (aC (aa (aj (c.x 82 rfl))) (aC (ak (c.x 363 rfl)) (aC (aa (aj (c.x 84 rfl))) (aC (ak (c.x 364 rfl)) (aC (aa (aj (c.x 86 rfl))) (aC (ak (c.x 365 rfl)) (aC (aa (aj (c.x 88 rfl))) (aC (ak (c.x 366 rfl)) (aC (aa (aj (c.x 90 rfl))) (aC (ak (c.x 367 rfl)) (aC (He.glo_ok X G (c.d.fact 37 rfl)) (aC (aa (aj (c.x 46 rfl))) (aC (ak (c.x 368 rfl)) (aC (aa (aj (c.x 48 rfl))) (aC (ak (c.x 369 rfl)) (aC (aa (aj (c.x 50 rfl))) (aC (ak (c.x 370 rfl)) (aC (aa (aj (c.x 52 rfl))) (aC (ak (c.x 371 rfl)) (aC (aa (aj (c.x 54 rfl))) (aC (ak (c.x 372 rfl)) (aC (aa (aj (c.x 56 rfl))) (aC (ak (c.x 373 rfl)) (aC (aa (aj (c.x 58 rfl))) (aC (ak (c.x 374 rfl)) (aC (aa (aj (c.x 60 rfl))) (aC (ak (c.x 375 rfl)) (aC (aa (aj (c.x 62 rfl))) (aC (ak (c.x 376 rfl)) (aC (aa (aj (c.x 64 rfl))) (aC (ak (c.x 377 rfl)) (aC (aa (aj (c.x 66 rfl))) (aC (ak (c.x 378 rfl)) (aC (aa (aj (c.x 68 rfl))) (aC (ak (c.x 379 rfl)) (aC (aa (aj (c.x 70 rfl))) (aC (ak (c.x 380 rfl)) (aC (aa (aj (c.x 72 rfl))) (aC (ak (c.x 381 rfl)) (aC (aa (aj (c.x 74 rfl))) (aC (ak (c.x 382 rfl)) (aC (aa (aj (c.x 76 rfl))) (aC (ak (c.x 383 rfl)) (aC (aa (aj (c.x 78 rfl))) (aC (ak (c.x 384 rfl)) (aC (aa (aj (c.x 80 rfl))) (aC (ak (c.x 385 rfl)) (aC (aa (aj (c.x 82 rfl))) (aC (ak (c.x 386 rfl)) (aC (aa (aj (c.x 84 rfl))) (aC (ak (c.x 387 rfl)) (aC (aa (aj (c.x 86 rfl))) (aC (ak (c.x 388 rfl)) (aC (aa (aj (c.x 88 rfl))) (aC (ak (c.x 389 rfl)) (aC (aa (aj (c.x 90 rfl))) (aC (ak (c.x 390 rfl)) (aC (He.glo_ok X G (c.d.fact 38 rfl)) (aC (aa (aj (c.x 46 rfl))) (aC (ak (c.x 391 rfl)) (aC (aa (aj (c.x 48 rfl))) (aC (ak (c.x 392 rfl)) (aC (aa (aj (c.x 50 rfl))) (aC (ak (c.x 393 rfl)) (aC (aa (aj (c.x 52 rfl))) (aC (ak (c.x 394 rfl)) (aC (aa (aj (c.x 54 rfl))) (aC (ak (c.x 395 rfl)) (aC (aa (aj (c.x 56 rfl))) (aC (ak (c.x 396 rfl)) (aC (aa (aj (c.x 58 rfl))) (aC (ak (c.x 397 rfl)) (aC (aa (aj (c.x 60 rfl))) (aC (ak (c.x 398 rfl)) (aC (aa (aj (c.x 62 rfl))) (aC (ak (c.x 399 rfl)) (aC (aa (aj (c.x 64 rfl))) (aC (ak (c.x 400 rfl)) (aC (aa (aj (c.x 66 rfl))) (aC (ak (c.x 401 rfl)) (aC (aa (aj (c.x 68 rfl))) (aC (ak (c.x 402 rfl)) (aC (aa (aj (c.x 70 rfl))) (aC (ak (c.x 403 rfl)) (aC (aa (aj (c.x 72 rfl))) (aC (ak (c.x 404 rfl)) (aC (aa (aj (c.x 74 rfl))) (aC (ak (c.x 405 rfl)) (aC (aa (aj (c.x 76 rfl))) (aC (ak (c.x 406 rfl)) (aC (aa (aj (c.x 78 rfl))) (aC (ak (c.x 407 rfl)) (aC (aa (aj (c.x 80 rfl))) (aC (ak (c.x 408 rfl)) (aC (aa (aj (c.x 82 rfl))) (aC (ak (c.x 409 rfl)) (aC (aa (aj (c.x 84 rfl))) (aC (ak (c.x 410 rfl)) (aC (aa (aj (c.x 86 rfl))) (aC (ak (c.x 411 rfl)) (aC (aa (aj (c.x 88 rfl))) (aC (ak (c.x 412 rfl)) (aC (aa (aj (c.x 90 rfl))) (aC (ak (c.x 413 rfl)) (aC (He.glo_ok X G (c.d.fact 39 rfl)) (aC (aa (aj (c.x 46 rfl))) (aC (ak (c.x 414 rfl)) (aC (aa (aj (c.x 48 rfl))) (aC (ak (c.x 415 rfl)) (aC (aa (aj (c.x 50 rfl))) (aC (ak (c.x 416 rfl)) (aC (aa (aj (c.x 52 rfl))) (aC (ak (c.x 417 rfl)) (aC (aa (aj (c.x 54 rfl))) (aC (ak (c.x 418 rfl)) (aC (aa (aj (c.x 56 rfl))) (aC (ak (c.x 419 rfl)) (aC (aa (aj (c.x 58 rfl))) (aC (ak (c.x 420 rfl)) (aC (aa (aj (c.x 60 rfl))) (aC (ak (c.x 421 rfl)) (aC (aa (aj (c.x 62 rfl))) (aC (ak (c.x 422 rfl)) (aC (aa (aj (c.x 64 rfl))) (aC (ak (c.x 423 rfl)) (aC (aa (aj (c.x 66 rfl))) (aC (ak (c.x 424 rfl)) (aC (aa (aj (c.x 68 rfl))) (aC (ak (c.x 425 rfl)) (aC (aa (aj (c.x 70 rfl))) (aC (ak (c.x 426 rfl)) (aC (aa (aj (c.x 72 rfl))) (aC (ak (c.x 427 rfl)) (aC (aa (aj (c.x 74 rfl))) (aC (ak (c.x 428 rfl)) (aC (aa (aj (c.x 76 rfl))) (aC (ak (c.x 429 rfl)) (aC (aa (aj (c.x 78 rfl))) (aC (ak (c.x 430 rfl)) (aC (aa (aj (c.x 80 rfl))) (aC (ak (c.x 431 rfl)) (aC (aa (aj (c.x 82 rfl))) (aC (ak (c.x 432 rfl)) (aC (aa (aj (c.x 84 rfl))) (aC (ak (c.x 433 rfl)) (aC (aa (aj (c.x 86 rfl))) (aC (ak (c.x 434 rfl)) (aC (aa (aj (c.x 88 rfl))) (aC (ak (c.x 435 rfl)) (aC (aa (aj (c.x 90 rfl))) (aC (ak (c.x 436 rfl)) (aC (He.glo_ok X G (c.d.fact 40 rfl)) (aC (aa (aj (c.x 46 rfl))) (aC (ak (c.x 437 rfl)) (aC (aa (aj (c.x 48 rfl))) (aC (ak (c.x 438 rfl)) (aC (aa (aj (c.x 50 rfl))) (aC (ak (c.x 439 rfl)) (aC (aa (aj (c.x 52 rfl))) (aC (ak (c.x 440 rfl)) (aC (aa (aj (c.x 54 rfl))) (aC (ak (c.x 441 rfl)) (aC (aa (aj (c.x 56 rfl))) (aC (ak (c.x 442 rfl)) (aC (aa (aj (c.x 58 rfl))) (aC (ak (c.x 443 rfl)) (aC (aa (aj (c.x 60 rfl))) (aC (ak (c.x 444 rfl)) (aC (aa (aj (c.x 62 rfl))) (aC (ak (c.x 445 rfl)) (aC (aa (aj (c.x 64 rfl))) (aC (ak (c.x 446 rfl)) (aC (aa (aj (c.x 66 rfl))) (aC (ak (c.x 447 rfl)) (aC (aa (aj (c.x 68 rfl))) (aC (ak (c.x 448 rfl)) (aC (aa (aj (c.x 70 rfl))) (aC (ak (c.x 449 rfl)) (aC (aa (aj (c.x 72 rfl))) (aC (ak (c.x 450 rfl)) (aC (aa (aj (c.x 74 rfl))) (aC (ak (c.x 451 rfl)) (aC (aa (aj (c.x 76 rfl))) (aC (ak (c.x 452 rfl)) (aC (aa (aj (c.x 78 rfl))) (aC (ak (c.x 453 rfl)) (aC (aa (aj (c.x 80 rfl))) (aC (ak (c.x 454 rfl)) (aC (aa (aj (c.x 82 rfl))) (aC (ak (c.x 455 rfl)) (aC (aa (aj (c.x 84 rfl))) (aC (ak (c.x 456 rfl)) (aC (aa (aj (c.x 86 rfl))) (aC (ak (c.x 457 rfl)) (aC (aa (aj (c.x 88 rfl))) (aC (ak (c.x 458 rfl)) (aC (aa (aj (c.x 90 rfl))) (aC (ak (c.x 459 rfl)) (aC (He.glo_ok X G (c.d.fact 41 rfl)) (aC (aa (aj (c.x 46 rfl))) (aC (ak (c.x 460 rfl)) (aC (aa (aj (c.x 48 rfl))) (aC (ak (c.x 461 rfl)) (aC (aa (aj (c.x 50 rfl))) (aC (ak (c.x 462 rfl)) (aC (aa (aj (c.x 52 rfl))) (aC (ak (c.x 463 rfl)) (aC (aa (aj (c.x 54 rfl))) (aC (ak (c.x 464 rfl)) (aC (aa (aj (c.x 56 rfl))) (aC (ak (c.x 465 rfl)) (aC (aa (aj (c.x 58 rfl))) (aC (ak (c.x 466 rfl)) (aC (aa (aj (c.x 60 rfl))) (aC (ak (c.x 467 rfl)) (aC (aa (aj (c.x 62 rfl))) (aC (ak (c.x 468 rfl)) (aC (aa (aj (c.x 64 rfl))) (aC (ak (c.x 469 rfl)) (aC (aa (aj (c.x 66 rfl))) (aC (ak (c.x 470 rfl)) (aC (aa (aj (c.x 68 rfl))) (aC (ak (c.x 471 rfl)) (aC (aa (aj (c.x 70 rfl))) (aC (ak (c.x 472 rfl)) (aC (aa (aj (c.x 72 rfl))) (aC (ak (c.x 473 rfl)) (aC (aa (aj (c.x 74 rfl))) (aC (ak (c.x 474 rfl)) (aC (aa (aj (c.x 76 rfl))) (aC (ak (c.x 475 rfl)) (aC (aa (aj (c.x 78 rfl))) (aC (ak (c.x 476 rfl)) (aC (aa (aj (c.x 80 rfl))) (aC (ak (c.x 477 rfl)) (aC (aa (aj (c.x 82 rfl))) (aC (ak (c.x 478 rfl)) (aC (aa (aj (c.x 84 rfl))) (aC (ak (c.x 479 rfl)) (aC (aa (aj (c.x 86 rfl))) (aC (ak (c.x 480 rfl)) (aC (aa (aj (c.x 88 rfl))) (aC (ak (c.x 481 rfl)) (aC (aa (aj (c.x 90 rfl))) (aC (ak (c.x 482 rfl)) (aC (He.glo_ok X G (c.d.fact 42 rfl)) (aC (aa (aj (c.x 46 rfl))) (aC (ak (c.x 483 rfl)) (aC (aa (aj (c.x 48 rfl))) (aC (ak (c.x 484 rfl)) (aC (aa (aj (c.x 50 rfl))) (aC (ak (c.x 485 rfl)) (aC (aa (aj (c.x 52 rfl))) (aC (ak (c.x 486 rfl)) (aC (aa (aj (c.x 54 rfl))) (aC (ak (c.x 487 rfl)) (aC (aa (aj (c.x 56 rfl))) (aC (ak (c.x 488 rfl)) (aC (aa (aj (c.x 58 rfl))) (aC (ak (c.x 489 rfl)) (aC (aa (aj (c.x 60 rfl))) (aC (ak (c.x 490 rfl)) (aC (aa (aj (c.x 62 rfl))) (aC (ak (c.x 491 rfl)) (aC (aa (aj (c.x 64 rfl))) (aC (ak (c.x 492 rfl)) (aC (aa (aj (c.x 66 rfl))) (aC (ak (c.x 493 rfl)) (aC (aa (aj (c.x 68 rfl))) (aC (ak (c.x 494 rfl)) (aC (aa (aj (c.x 70 rfl))) (aC (ak (c.x 495 rfl)) (aC (aa (aj (c.x 72 rfl))) (aC (ak (c.x 496 rfl)) (aC (aa (aj (c.x 74 rfl))) (aC (ak (c.x 497 rfl)) (aC (aa (aj (c.x 76 rfl))) (aC (ak (c.x 498 rfl)) (aC (aa (aj (c.x 78 rfl))) (aC (ak (c.x 499 rfl)) (aC (aa (aj (c.x 80 rfl))) (aC (ak (c.x 500 rfl)) (aC (aa (aj (c.x 82 rfl))) (aC (ak (c.x 501 rfl)) (aC (aa (aj (c.x 84 rfl))) (aC (ak (c.x 502 rfl)) (aC (aa (aj (c.x 86 rfl))) (aC (ak (c.x 503 rfl)) (aC (aa (aj (c.x 88 rfl))) (aC (ak (c.x 504 rfl)) (aC (aa (aj (c.x 90 rfl))) (aC (ak (c.x 505 rfl)) (aC (He.glo_ok X G (c.d.fact 43 rfl)) (aC (aa (aj (c.x 46 rfl))) (aC (ak (c.x 506 rfl)) (aC (aa (aj (c.x 48 rfl))) (aC (ak (c.x 507 rfl)) (aC (aa (aj (c.x 50 rfl))) (aC (ak (c.x 508 rfl)) (aC (aa (aj (c.x 52 rfl))) (aC (ak (c.x 509 rfl)) (aC (aa (aj (c.x 54 rfl))) (aC (ak (c.x 510 rfl)) (aC (aa (aj (c.x 56 rfl))) (aC (ak (c.x 511 rfl)) (aC (aa (aj (c.x 58 rfl))) (aC (ak (c.x 512 rfl)) (aC (aa (aj (c.x 60 rfl))) (aC (ak (c.x 513 rfl)) (aC (aa (aj (c.x 62 rfl))) (aC (ak (c.x 514 rfl)) (aC (aa (aj (c.x 64 rfl))) (aC (ak (c.x 515 rfl)) (aC (aa (aj (c.x 66 rfl))) (aC (ak (c.x 516 rfl)) (aC (aa (aj (c.x 68 rfl))) (aC (ak (c.x 517 rfl)) (aC (aa (aj (c.x 70 rfl))) (aC (ak (c.x 518 rfl)) (aC (aa (aj (c.x 72 rfl))) (aC (ak (c.x 519 rfl)) (aC (aa (aj (c.x 74 rfl))) (aC (ak (c.x 520 rfl)) (aC (aa (aj (c.x 76 rfl))) (aC (ak (c.x 521 rfl)) (aC (aa (aj (c.x 78 rfl))) (aC (ak (c.x 522 rfl)) (aC (aa (aj (c.x 80 rfl))) (aC (ak (c.x 523 rfl)) (aC (aa (aj (c.x 82 rfl))) (aC (ak (c.x 524 rfl)) (aC (aa (aj (c.x 84 rfl))) (aC (ak (c.x 525 rfl)) (aC (aa (aj (c.x 86 rfl))) (aC (ak (c.x 526 rfl)) (aC (aa (aj (c.x 88 rfl))) (aC (ak (c.x 527 rfl)) (aC (aa (aj (c.x 90 rfl))) (aC (ak (c.x 528 rfl)) (aC (He.glo_ok X G (c.d.fact 44 rfl)) (aC (aa (aj (c.x 46 rfl))) (aC (ak (c.x 529 rfl)) (aC (aa (aj (c.x 48 rfl))) (aC (ak (c.x 530 rfl)) (aC (aa (aj (c.x 50 rfl))) (aC (ak (c.x 531 rfl)) (aC (aa (aj (c.x 52 rfl))) (aC (ak (c.x 532 rfl)) (aC (aa (aj (c.x 54 rfl))) (aC (ak (c.x 533 rfl)) (aC (aa (aj (c.x 56 rfl))) (aC (ak (c.x 534 rfl)) (aC (aa (aj (c.x 58 rfl))) (aC (ak (c.x 535 rfl)) (aC (aa (aj (c.x 60 rfl))) (aC (ak (c.x 536 rfl)) (aC (aa (aj (c.x 62 rfl))) (aC (ak (c.x 537 rfl)) (aC (aa (aj (c.x 64 rfl))) (aC (ak (c.x 538 rfl)) (aC (aa (aj (c.x 66 rfl))) (aC (ak (c.x 539 rfl)) (aC (aa (aj (c.x 68 rfl))) (aC (ak (c.x 540 rfl)) (aC (aa (aj (c.x 70 rfl))) (aC (ak (c.x 541 rfl)) (aC (aa (aj (c.x 72 rfl))) (aC (ak (c.x 542 rfl)) (aC (aa (aj (c.x 74 rfl))) (aC (ak (c.x 543 rfl)) (aC (aa (aj (c.x 76 rfl))) (aC (ak (c.x 544 rfl)) (aC (aa (aj (c.x 78 rfl))) (aC (ak (c.x 545 rfl)) (aC (aa (aj (c.x 80 rfl))) (aC (ak (c.x 546 rfl)) (aC (aa (aj (c.x 82 rfl))) (aC (ak (c.x 547 rfl)) (aC (aa (aj (c.x 84 rfl))) (aC (ak (c.x 548 rfl)) (aC (aa (aj (c.x 86 rfl))) (aC (ak (c.x 549 rfl)) (aC (aa (aj (c.x 88 rfl))) (aC (ak (c.x 550 rfl)) (aC (aa (aj (c.x 90 rfl))) (aC (ak (c.x 551 rfl)) (aC (He.glo_ok X G (c.d.fact 45 rfl)) (aC (aa (aj (c.x 46 rfl))) (aC (ak (c.x 552 rfl)) (aC (aa (aj (c.x 48 rfl))) (aC (ak (c.x 553 rfl)) (aC (aa (aj (c.x 50 rfl))) (aC (ak (c.x 554 rfl)) (aC (aa (aj (c.x 52 rfl))) (aC (ak (c.x 555 rfl)) (aC (aa (aj (c.x 54 rfl))) (aC (ak (c.x 556 rfl)) (aC (aa (aj (c.x 56 rfl))) (aC (ak (c.x 557 rfl)) (aC (aa (aj (c.x 58 rfl))) (aC (ak (c.x 558 rfl)) (aC (aa (aj (c.x 60 rfl))) (aC (ak (c.x 559 rfl)) (aC (aa (aj (c.x 62 rfl))) (aC (ak (c.x 560 rfl)) (aC (aa (aj (c.x 64 rfl))) (aC (ak (c.x 561 rfl)) (aC (aa (aj (c.x 66 rfl))) (aC (ak (c.x 562 rfl)) (aC (aa (aj (c.x 68 rfl))) (aC (ak (c.x 563 rfl)) (aC (aa (aj (c.x 70 rfl))) (aC (ak (c.x 564 rfl)) (aC (aa (aj (c.x 72 rfl))) (aC (ak (c.x 565 rfl)) (aC (aa (aj (c.x 74 rfl))) (aC (ak (c.x 566 rfl)) (aC (aa (aj (c.x 76 rfl))) (aC (ak (c.x 567 rfl)) (aC (aa (aj (c.x 78 rfl))) (aC (ak (c.x 568 rfl)) (aC (aa (aj (c.x 80 rfl))) (aC (ak (c.x 569 rfl)) (aC (aa (aj (c.x 82 rfl))) (aC (ak (c.x 570 rfl)) (aC (aa (aj (c.x 84 rfl))) (aC (ak (c.x 571 rfl)) (aC (aa (aj (c.x 86 rfl))) (aC (ak (c.x 572 rfl)) (aC (aa (aj (c.x 88 rfl))) (aC (ak (c.x 573 rfl)) (aC (aa (aj (c.x 90 rfl))) (aC (ak (c.x 574 rfl)) (aC (He.glo_ok X G (c.d.fact 47 rfl)) (aC (aa (aj (c.x 46 rfl))) (aC (ak (c.x 575 rfl)) (aC (aa (aj (c.x 48 rfl))) (aC (ak (c.x 576 rfl)) (aC (aa (aj (c.x 50 rfl))) (aC (ak (c.x 577 rfl)) (aC (aa (aj (c.x 52 rfl))) (aC (ak (c.x 578 rfl)) (aC (aa (aj (c.x 54 rfl))) (aC (ak (c.x 579 rfl)) (aC (aa (aj (c.x 56 rfl))) (aC (ak (c.x 580 rfl)) (aC (aa (aj (c.x 58 rfl))) (aC (ak (c.x 581 rfl)) (aC (aa (aj (c.x 60 rfl))) (aC (ak (c.x 582 rfl)) (aC (aa (aj (c.x 62 rfl))) (aC (ak (c.x 583 rfl)) (aC (aa (aj (c.x 64 rfl))) (aC (ak (c.x 584 rfl)) (aC (aa (aj (c.x 66 rfl))) (aC (ak (c.x 585 rfl)) (aC (aa (aj (c.x 68 rfl))) (aC (ak (c.x 586 rfl)) (aC (aa (aj (c.x 70 rfl))) (aC (ak (c.x 587 rfl)) (aC (aa (aj (c.x 72 rfl))) (aC (ak (c.x 588 rfl)) (aC (aa (aj (c.x 74 rfl))) (aC (ak (c.x 589 rfl)) (aC (aa (aj (c.x 76 rfl))) (aC (ak (c.x 590 rfl)) (aC (aa (aj (c.x 78 rfl))) (aC (ak (c.x 591 rfl)) (aC (aa (aj (c.x 80 rfl))) (aC (ak (c.x 592 rfl)) (aC (aa (aj (c.x 82 rfl))) (aC (ak (c.x 593 rfl)) (aC (aa (aj (c.x 84 rfl))) (aC (ak (c.x 594 rfl)) (aC (aa (aj (c.x 86 rfl))) (aC (ak (c.x 595 rfl)) (aC (aa (aj (c.x 88 rfl))) (aC (ak (c.x 596 rfl)) (aC (aa (aj (c.x 90 rfl))) (aC (ak (c.x 597 rfl)) All.nil))))))))))))))))))))))))))))))))))))))))))))))))))))))))))))))))))))))))))))))))))))))))))))))))))))))))))))))))))))))))))))))))))))))))))))))))))))))))))))))))))))))))))))))))))))))))))))))))))))))))))))))))))))))))))))))))))))))))))))))))))))))))))))))))))))))))))))))))))))))))))))))))))))))))))))))))))))))))))))))))))))))))))))))))))))))))))))))))))))))))))))))))))))))))))))))))))))))))))))))))))))))))))))))))))))))))))))))))))))))))))))))))))))))))))))))))))))))))))))))))))))))))))))))))))))))))))))))))))))))))))))))))))))))))))))))))))))))))))))))))))))))))))))))))))))))))))))))))))))))))))))))))))))))))))))))))))))))))))))))))))))))))))))))))))))))))))))))))))))))))))))))))))))))))))))))))))))))))))))))))))))))))))))))))))))))))))))))))))))))))))))))))))))))))))))))))))))))))))))))))))))))))))))))))))))))))))))))))))))))))))))))))))))))))))))))))))))))))))))))))))))))))))))))))))))))))))))))))))))))))))))))))))))))))))))))))))))))))))))))))))))))))))))))))))))))))))))))))))))))))))))))))))))))))))))))))))))))))))))))))))))))))))))))))))))))))))))))))))))))))) rF ux
 exact WF QF WQ Ua mo (by rw[Us];exact (aC (aG Dy DP) (aC (aG Jq Ju) (aC (aG yL yP) (aC (aG zY Aa) (aC (⟨_,_,lD,(pX 5).mono (by decide)⟩) (aC (⟨(aq (aj (c.x 23 rfl))).xf,He.noat_ok (c.d.fact 48 rfl)⟩) (aC (⟨(aq (aj (c.x 24 rfl))).xf,He.noat_ok (c.d.fact 49 rfl)⟩) (aC (⟨(aq (aj (c.x 25 rfl))).xf,He.noat_ok (c.d.fact 50 rfl)⟩) (aC (⟨(aq (aj (c.x 26 rfl))).xf,He.noat_ok (c.d.fact 51 rfl)⟩) (aC (⟨(aq (aj (c.x 27 rfl))).xf,He.noat_ok (c.d.fact 52 rfl)⟩) (aC (⟨(aq (aj (c.x 28 rfl))).xf,He.noat_ok (c.d.fact 53 rfl)⟩) (aC (⟨(aq (aj (c.x 29 rfl))).xf,He.noat_ok (c.d.fact 54 rfl)⟩) (aC (⟨(aq (aj (c.x 30 rfl))).xf,He.noat_ok (c.d.fact 55 rfl)⟩) (aC (⟨(aq (aj (c.x 31 rfl))).xf,He.noat_ok (c.d.fact 56 rfl)⟩) (aC (⟨(aq (aj (c.x 32 rfl))).xf,He.noat_ok (c.d.fact 57 rfl)⟩) (aC (⟨(aq (aj (c.x 33 rfl))).xf,He.noat_ok (c.d.fact 58 rfl)⟩) (aC (⟨(aq (aj (c.x 34 rfl))).xf,He.noat_ok (c.d.fact 59 rfl)⟩) (aC (⟨(aq (aj (c.x 35 rfl))).xf,He.noat_ok (c.d.fact 60 rfl)⟩) (aC (⟨(aq (aj (c.x 36 rfl))).xf,He.noat_ok (c.d.fact 61 rfl)⟩) (aC (⟨(aq (aj (c.x 37 rfl))).xf,He.noat_ok (c.d.fact 62 rfl)⟩) (aC (⟨(aq (aj (c.x 38 rfl))).xf,He.noat_ok (c.d.fact 63 rfl)⟩) (aC (⟨(aq (aj (c.x 39 rfl))).xf,He.noat_ok (c.d.fact 64 rfl)⟩) (aC (⟨(aq (aj (c.x 40 rfl))).xf,He.noat_ok (c.d.fact 65 rfl)⟩) (aC (⟨(aq (aj (c.x 41 rfl))).xf,He.noat_ok (c.d.fact 66 rfl)⟩) (aC (⟨(aq (aj (c.x 42 rfl))).xf,He.noat_ok (c.d.fact 67 rfl)⟩) (aC (⟨(aq (aj (c.x 43 rfl))).xf,He.noat_ok (c.d.fact 68 rfl)⟩) (aC (⟨(aq (aj (c.x 44 rfl))).xf,He.noat_ok (c.d.fact 69 rfl)⟩) (aC (⟨(aq (aj (c.x 45 rfl))).xf,He.noat_ok (c.d.fact 70 rfl)⟩) (aC (aG z8 Ab) (aC (aG uw uF) (aC (He.glo_ok X G (c.d.fact 232 rfl)) (aC (aa (aj (c.x 46 rfl))) (aC (ak (c.x 598 rfl)) (aC (aa (aj (c.x 48 rfl))) (aC (ak (c.x 599 rfl)) (aC (aa (aj (c.x 50 rfl))) (aC (ak (c.x 600 rfl)) (aC (aa (aj (c.x 52 rfl))) (aC (ak (c.x 601 rfl)) (aC (aa (aj (c.x 54 rfl))) (aC (ak (c.x 602 rfl)) (aC (aa (aj (c.x 56 rfl))) (aC (ak (c.x 603 rfl)) (aC (aa (aj (c.x 58 rfl))) (aC (ak (c.x 604 rfl)) (aC (aa (aj (c.x 60 rfl))) (aC (ak (c.x 605 rfl)) (aC (aa (aj (c.x 62 rfl))) (aC (ak (c.x 606 rfl)) (aC (aa (aj (c.x 64 rfl))) (aC (ak (c.x 607 rfl)) (aC (aa (aj (c.x 66 rfl))) (aC (ak (c.x 608 rfl)) (aC (aa (aj (c.x 68 rfl))) (aC (ak (c.x 609 rfl)) (aC (aa (aj (c.x 70 rfl))) (aC (ak (c.x 610 rfl)) (aC (aa (aj (c.x 72 rfl))) (aC (ak (c.x 611 rfl)) (aC (aa (aj (c.x 74 rfl))) (aC (ak (c.x 612 rfl)) (aC (aa (aj (c.x 76 rfl))) (aC (ak (c.x 613 rfl)) (aC (aa (aj (c.x 78 rfl))) (aC (ak (c.x 614 rfl)) (aC (aa (aj (c.x 80 rfl))) (aC (ak (c.x 615 rfl)) (aC (aa (aj (c.x 82 rfl))) (aC (ak (c.x 616 rfl)) (aC (aa (aj (c.x 84 rfl))) (aC (ak (c.x 617 rfl)) (aC (aa (aj (c.x 86 rfl))) (aC (ak (c.x 618 rfl)) (aC (aa (aj (c.x 88 rfl))) (aC (ak (c.x 619 rfl)) (aC (aa (aj (c.x 90 rfl))) (aC (ak (c.x 620 rfl)) (aC (aa (aj (c.x 46 rfl))) (aC (ak (c.x 621 rfl)) (aC (aa (aj (c.x 48 rfl))) (aC (ak (c.x 622 rfl)) (aC (aa (aj (c.x 50 rfl))) (aC (ak (c.x 623 rfl)) (aC (aa (aj (c.x 52 rfl))) (aC (ak (c.x 624 rfl)) (aC (aa (aj (c.x 54 rfl))) (aC (ak (c.x 625 rfl)) (aC (aa (aj (c.x 56 rfl))) (aC (ak (c.x 626 rfl)) (aC (aa (aj (c.x 58 rfl))) (aC (ak (c.x 627 rfl)) (aC (aa (aj (c.x 60 rfl))) (aC (ak (c.x 628 rfl)) (aC (aa (aj (c.x 62 rfl))) (aC (ak (c.x 629 rfl)) (aC (aa (aj (c.x 64 rfl))) (aC (ak (c.x 630 rfl)) (aC (aa (aj (c.x 66 rfl))) (aC (ak (c.x 631 rfl)) (aC (aa (aj (c.x 68 rfl))) (aC (ak (c.x 632 rfl)) (aC (aa (aj (c.x 70 rfl))) (aC (ak (c.x 633 rfl)) (aC (aa (aj (c.x 72 rfl))) (aC (ak (c.x 634 rfl)) (aC (aa (aj (c.x 74 rfl))) (aC (ak (c.x 635 rfl)) (aC (aa (aj (c.x 76 rfl))) (aC (ak (c.x 636 rfl)) (aC (aa (aj (c.x 78 rfl))) (aC (ak (c.x 637 rfl)) (aC (aa (aj (c.x 80 rfl))) (aC (ak (c.x 638 rfl)) (aC (aa (aj (c.x 82 rfl))) (aC (ak (c.x 639 rfl)) (aC (aa (aj (c.x 84 rfl))) (aC (ak (c.x 640 rfl)) (aC (aa (aj (c.x 86 rfl))) (aC (ak (c.x 641 rfl)) (aC (aa (aj (c.x 88 rfl))) (aC (ak (c.x 642 rfl)) (aC (aa (aj (c.x 90 rfl))) (aC (ak (c.x 643 rfl)) (aC (He.glo_ok X G (c.d.fact 233 rfl)) (aC (aa (aj (c.x 46 rfl))) (aC (ak (c.x 644 rfl)) (aC (aa (aj (c.x 48 rfl))) (aC (ak (c.x 645 rfl)) (aC (aa (aj (c.x 50 rfl))) (aC (ak (c.x 646 rfl)) (aC (aa (aj (c.x 52 rfl))) (aC (ak (c.x 647 rfl)) (aC (aa (aj (c.x 54 rfl))) (aC (ak (c.x 648 rfl)) (aC (aa (aj (c.x 56 rfl))) (aC (ak (c.x 649 rfl)) (aC (aa (aj (c.x 58 rfl))) (aC (ak (c.x 650 rfl)) (aC (aa (aj (c.x 60 rfl))) (aC (ak (c.x 651 rfl)) (aC (aa (aj (c.x 62 rfl))) (aC (ak (c.x 652 rfl)) (aC (aa (aj (c.x 64 rfl))) (aC (ak (c.x 653 rfl)) (aC (aa (aj (c.x 66 rfl))) (aC (ak (c.x 654 rfl)) (aC (aa (aj (c.x 68 rfl))) (aC (ak (c.x 655 rfl)) (aC (aa (aj (c.x 70 rfl))) (aC (ak (c.x 656 rfl)) (aC (aa (aj (c.x 72 rfl))) (aC (ak (c.x 657 rfl)) (aC (aa (aj (c.x 74 rfl))) (aC (ak (c.x 658 rfl)) (aC (aa (aj (c.x 76 rfl))) (aC (ak (c.x 659 rfl)) (aC (aa (aj (c.x 78 rfl))) (aC (ak (c.x 660 rfl)) (aC (aa (aj (c.x 80 rfl))) (aC (ak (c.x 661 rfl)) (aC (aa (aj (c.x 82 rfl))) (aC (ak (c.x 662 rfl)) (aC (aa (aj (c.x 84 rfl))) (aC (ak (c.x 663 rfl)) (aC (aa (aj (c.x 86 rfl))) (aC (ak (c.x 664 rfl)) (aC (aa (aj (c.x 88 rfl))) (aC (ak (c.x 665 rfl)) (aC (aa (aj (c.x 90 rfl))) (aC (ak (c.x 666 rfl)) (aC (aa (aj (c.x 46 rfl))) (aC (ak (c.x 667 rfl)) (aC (aa (aj (c.x 48 rfl))) (aC (ak (c.x 668 rfl)) (aC (aa (aj (c.x 50 rfl))) (aC (ak (c.x 669 rfl)) (aC (aa (aj (c.x 52 rfl))) (aC (ak (c.x 670 rfl)) (aC (aa (aj (c.x 54 rfl))) (aC (ak (c.x 671 rfl)) (aC (aa (aj (c.x 56 rfl))) (aC (ak (c.x 672 rfl)) (aC (aa (aj (c.x 58 rfl))) (aC (ak (c.x 673 rfl)) (aC (aa (aj (c.x 60 rfl))) (aC (ak (c.x 674 rfl)) (aC (aa (aj (c.x 62 rfl))) (aC (ak (c.x 675 rfl)) (aC (aa (aj (c.x 64 rfl))) (aC (ak (c.x 676 rfl)) (aC (aa (aj (c.x 66 rfl))) (aC (ak (c.x 677 rfl)) (aC (aa (aj (c.x 68 rfl))) (aC (ak (c.x 678 rfl)) (aC (aa (aj (c.x 70 rfl))) (aC (ak (c.x 679 rfl)) (aC (aa (aj (c.x 72 rfl))) (aC (ak (c.x 680 rfl)) (aC (aa (aj (c.x 74 rfl))) (aC (ak (c.x 681 rfl)) (aC (aa (aj (c.x 76 rfl))) (aC (ak (c.x 682 rfl)) (aC (aa (aj (c.x 78 rfl))) (aC (ak (c.x 683 rfl)) (aC (aa (aj (c.x 80 rfl))) (aC (ak (c.x 684 rfl)) (aC (aa (aj (c.x 82 rfl))) (aC (ak (c.x 685 rfl)) (aC (aa (aj (c.x 84 rfl))) (aC (ak (c.x 686 rfl)) (aC (aa (aj (c.x 86 rfl))) (aC (ak (c.x 687 rfl)) (aC (aa (aj (c.x 88 rfl))) (aC (ak (c.x 688 rfl)) (aC (aa (aj (c.x 90 rfl))) (aC (ak (c.x 689 rfl)) (aC (aa (aj (c.x 46 rfl))) (aC (ak (c.x 690 rfl)) (aC (aa (aj (c.x 48 rfl))) (aC (ak (c.x 691 rfl)) (aC (aa (aj (c.x 50 rfl))) (aC (ak (c.x 692 rfl)) (aC (aa (aj (c.x 52 rfl))) (aC (ak (c.x 693 rfl)) (aC (aa (aj (c.x 54 rfl))) (aC (ak (c.x 694 rfl)) (aC (aa (aj (c.x 56 rfl))) (aC (ak (c.x 695 rfl)) (aC (aa (aj (c.x 58 rfl))) (aC (ak (c.x 696 rfl)) (aC (aa (aj (c.x 60 rfl))) (aC (ak (c.x 697 rfl)) (aC (aa (aj (c.x 62 rfl))) (aC (ak (c.x 698 rfl)) (aC (aa (aj (c.x 64 rfl))) (aC (ak (c.x 699 rfl)) (aC (aa (aj (c.x 66 rfl))) (aC (ak (c.x 700 rfl)) (aC (aa (aj (c.x 68 rfl))) (aC (ak (c.x 701 rfl)) (aC (aa (aj (c.x 70 rfl))) (aC (ak (c.x 702 rfl)) (aC (aa (aj (c.x 72 rfl))) (aC (ak (c.x 703 rfl)) (aC (aa (aj (c.x 74 rfl))) (aC (ak (c.x 704 rfl)) (aC (aa (aj (c.x 76 rfl))) (aC (ak (c.x 705 rfl)) (aC (aa (aj (c.x 78 rfl))) (aC (ak (c.x 706 rfl)) (aC (aa (aj (c.x 80 rfl))) (aC (ak (c.x 707 rfl)) (aC (aa (aj (c.x 82 rfl))) (aC (ak (c.x 708 rfl)) (aC (aa (aj (c.x 84 rfl))) (aC (ak (c.x 709 rfl)) (aC (aa (aj (c.x 86 rfl))) (aC (ak (c.x 710 rfl)) (aC (aa (aj (c.x 88 rfl))) (aC (ak (c.x 711 rfl)) (aC (aa (aj (c.x 90 rfl))) (aC (ak (c.x 712 rfl)) (aC (⟨(aq (aj (c.x 23 rfl))).xf,He.noat_ok (c.d.fact 209 rfl)⟩) (aC (ek_InvalidName (by decide)) (aC (⟨(aq (aj (c.x 24 rfl))).xf,He.noat_ok (c.d.fact 72 rfl)⟩) (aC (ek_InvalidWords (by decide)) (aC (⟨(aq (aj (c.x 36 rfl))).xf,He.noat_ok (c.d.fact 107 rfl)⟩) (aC (ek_TooMany (by decide)) (aC (⟨(aq (aj (c.x 37 rfl))).xf,He.noat_ok (c.d.fact 131 rfl)⟩) (aC (ek_TooFew (by decide)) (aC (⟨(aq (aj (c.x 39 rfl))).xf,He.noat_ok (c.d.fact 156 rfl)⟩) (aC (ek_InvalidPage (by decide)) (aC (⟨(aq (aj (c.x 41 rfl))).xf,He.noat_ok (c.d.fact 181 rfl)⟩) (aC (ek_DuplicateName (by decide)) (aC (⟨(aq (aj (c.x 42 rfl))).xf,He.noat_ok (c.d.fact 205 rfl)⟩) (aC (ek_Full (by decide)) (aC (⟨_,_,lD,(pX 5).mono (by decide)⟩) (aC (⟨(aq (aj (c.x 44 rfl))).xf,He.noat_ok (c.d.fact 184 rfl)⟩) (aC (ek_UnknownName (by decide)) (aC (⟨(aq (aj (c.x 25 rfl))).xf,He.noat_ok (c.d.fact 73 rfl)⟩) (aC (ek_InvalidOrders (by decide)) (aC (⟨(aq (aj (c.x 26 rfl))).xf,He.noat_ok (c.d.fact 74 rfl)⟩) (aC (ek_InvalidModes (by decide)) (aC (⟨(aq (aj (c.x 27 rfl))).xf,He.noat_ok (c.d.fact 75 rfl)⟩) (aC (ek_InvalidStarts (by decide)) (aC (⟨(aq (aj (c.x 28 rfl))).xf,He.noat_ok (c.d.fact 214 rfl)⟩) (aC (ek_UnknownMode (by decide)) (aC (⟨(aq (aj (c.x 29 rfl))).xf,He.noat_ok (c.d.fact 215 rfl)⟩) (aC (ek_UnknownOrder (by decide)) (aC (⟨(aq (aj (c.x 30 rfl))).xf,He.noat_ok (c.d.fact 216 rfl)⟩) (aC (ek_InvalidSound (by decide)) (aC (⟨(aq (aj (c.x 31 rfl))).xf,He.noat_ok (c.d.fact 217 rfl)⟩) (aC (ek_InvalidRoom (by decide)) (aC (⟨(aq (aj (c.x 32 rfl))).xf,He.noat_ok (c.d.fact 218 rfl)⟩) (aC (ek_InvalidRecord (by decide)) (aC (⟨(aq (aj (c.x 33 rfl))).xf,He.noat_ok (c.d.fact 219 rfl)⟩) (aC (ek_InvalidWish (by decide)) (aC (⟨(aq (aj (c.x 34 rfl))).xf,He.noat_ok (c.d.fact 220 rfl)⟩) (aC (ek_InvalidNumber (by decide)) (aC (⟨(aq (aj (c.x 38 rfl))).xf,He.noat_ok (c.d.fact 155 rfl)⟩) (aC (ek_InvalidText (by decide)) (aC (⟨(aq (aj (c.x 40 rfl))).xf,He.noat_ok (c.d.fact 88 rfl)⟩) (aC (ek_InvalidCommand (by decide)) (aC (⟨(aq (aj (c.x 43 rfl))).xf,He.noat_ok (c.d.fact 229 rfl)⟩) (aC (ek_InvalidLimit (by decide)) (aC (⟨_,_,lD,(pX 5).mono (by decide)⟩) (aC (yt bT (He.glo_ok X G (c.d.fact 232 rfl)) (aj (c.x 713 rfl))) (aC (aa (aj (c.x 714 rfl))) (aC (ak (c.x 715 rfl)) (aC (yt G7 (He.glo_ok X G (c.d.fact 233 rfl)) (aj (c.x 716 rfl))) (aC (aa (aj (c.x 717 rfl))) (aC (ak (c.x 718 rfl)) All.nil))))))))))))))))))))))))))))))))))))))))))))))))))))))))))))))))))))))))))))))))))))))))))))))))))))))))))))))))))))))))))))))))))))))))))))))))))))))))))))))))))))))))))))))))))))))))))))))))))))))))))))))))))))))))))))))))))))))))))))))))))))))))))))))))))))))))))))))))))))))))))))))))))))))))))))))))))))))))) Vl (λ_ _ _ _=>rfl)
end K01
theorem PySem.Challenge.cw_roomofcalls_k01_errors_by_themselves_holds : PySem.Challenge.rw_roomofcalls_k01_errors_by_themselves.Holds := by
 exact K01.early K01.M_law @K01.facts K01.law_true
