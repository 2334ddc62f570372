import PyProof.Rows.All
import Wide.All
import OpenK.AllK
import Wide.FinOn
import HandS.Base
import HandS.Call
import HandS.List
import HandS.Comp
import HandS.Dict
import HandS.Iter
import HandS.Text
import HandS.Exc
import HandS.Ends
import HandS.Words
import HandS.WordsExc
import HandS.ExcOwn
import HandS.CallSlots
import HandS.CallLocal
import HandS.Defaults
import HandS.IsInst
import HandS.TupAny
import HandS.DictComp
import HandS.Style
import HandS.Wide
import HandS.TryOnly
import HandS.More
import HandS.Deep
import KE.KeyNested
import KE.KDictKeyed
import HandS.Lambda
import KE.KNestM
import PyProof.StrOps2
import HandS.Small
import HandS.RaiseMore
import PyProof.ReprRoads
import PyProof.CallFns
import PyProof.DictUpdate
import KE.GoesEnum
import KE.KUnpackStar
import HandS.ListItems
import HandS.Zip
import HandS.RevTup
import KE.KDictZip
import KE.KExcInit
import HandS.ExcInit
import KE.KTryMore
import HandS.ExcField
import KE.KExcIs
import KE.SortData
import HandS.SortRule
import HandS.MakeKwOnly
import HandS.Conv
import KE.DataFind
import KE.KDictPairs
import KE.KDictOf
import HandS.TupMul
import HandS.StrMore
import KE.KItemsList
import HandS.DictTup
import HandS.SetKeys
import HandS.SetFor
import PyProof.EqKinds
import HandS.DictEq
import PyProof.CallStr
import PyProof.Rows.IntBool
import PyProof.NeKinds
import HandS.Rev
import HandS.FStr
import HandS.TupSets
import KE.GoesSet
import KE.KDictWalk
import KE.KMinKey
import KE.KDictList
import HandS.SortKw
import KE.KDictSum
import PyProof.DictFindH
import PySem.Challenge.RW_holepatterns_k06_refusals_made
set_option maxHeartbeats 4000000
set_option Elab.async false
set_option linter.all false
set_option maxRecDepth 100000
namespace L3
open PySem PySem.Spec PyProof.Rows L2
abbrev NRow:=NestedKey × Addr × V
abbrev NVal:=NestedKey × Addr × Value
def PrN (rows:List NRow) (xs:List NVal):Prop:=Paired (fun(r:NRow) (x:NVal)=>r.1=x.1∧r.2.1=x.2.1∧RelV r.2.2 x.2.2) rows xs
def entN (w:World) (x:NVal):DictEntry:=⟨x.1.hash w, .ref x.2.1,x.2.2⟩
def RawN (w:World) (h:Heap) (a:Addr) (xs:List NVal):Prop:=∃o es ep,h.get? a=some o∧o.ExactDict∧o.data= .dict es ep∧es.toList=xs.map (entN w)∧(xs.map (·.1)).Nodup
def ObNP (w:World) (a:Addr) (rows:List NRow) (h:Heap):Prop:=(a==sysModules)=false∧rows.length≤sizeLine∧∃xs,PrN rows xs∧RawN w h a xs
def ObN (w:World) (a:Addr) (rows:List NRow):HO:= .ext (ObNP w a rows)
end L3
namespace L3
open PySem
structure LamTok where
 f:Addr
 c:Addr
 q:Str
 ids:List Nat
 vs:List L2.V
inductive D where
 |non|bl (b:Bool)|int (i:Int)|str (s:Str)|tup (l:List D)|lst (l:List D)
 |dic (ks:List L2.Key) (l:List D)|obj (n:Nat)|glb (x:Str)|ty (n:String)|scr (l:List Int)|kd (ks:List Str) (l:List D)
 /-- an exception that was caught: its class,its fields -/
 |xcp (c:Str) (ks:List Str) (l:List D)
 /-- a tuple of whole numbers that stands in the text -/
 |wtp (l:List Int)
 /-- a lambda,as it is handed to a def;what its names stood for when it was made -/
 |lam (t:LamTok) (l:List D)
deriving Inhabited
inductive O where
 |lst (l:List D)|dK (l:List (L2.Key × D))|dT (l:List (List L2.Key × D))|dN (l:List (PySem.NestedKey × D))|ins (c:Str) (fs:List (Str × D))|ptp (l:List D)|dead
 /-- the table of code objects of a def that makes lambdas: the def,the lambdas' name -/
 |tab (x q:Str)
abbrev Store:=List O
structure Ex where
 cls:Str
 fs:List (Str × D)
inductive R (α :Type) where
 |ok (a: α) (S:Store)|exc (e:Ex) (S:Store)|bad
@[reducible] def R.bind {α β :Type} (r:R α) (f: α →Store→R β):R β :=
  match r with
  | .ok a S=>f a S
  | .exc e S=> .exc e S
  | .bad=> .bad
abbrev EnvD:=List (Option D)
abbrev ED:=EnvD→Store→R D
abbrev TD:=EnvD→Store→R Bool
abbrev AD:=EnvD→Store→R (List D)
inductive SR where
 |nx (env:EnvD) (S:Store)|ret (d:D) (S:Store)|brk (env:EnvD) (S:Store)|ct (env:EnvD) (S:Store)|exc (e:Ex) (env:EnvD) (S:Store)|bad
abbrev SD:=EnvD→Store→SR
def R.toS {α :Type} (env:EnvD) (r:R α) (k: α →Store→SR):SR:=
 match r with
 | .ok a S=>k a S
 | .exc e S=> .exc e env S
 | .bad=> .bad
def eVar (i:Nat):ED:=fun env S=>match env[i]? with
 |some (some d)=> .ok d S
 | _=> .bad
def eK (d:D):ED:=fun _ S=> .ok d S
abbrev F1:=D→Store→R D
abbrev F2:=D→D→Store→R D
abbrev FN:=List D→Store→R D
def e1 (f:F1) (a:ED):ED:=fun env S=>(a env S).bind fun x S1=>f x S1
def e2 (f:F2) (a b:ED):ED:=fun env S=>(a env S).bind fun x S1=>(b env S1).bind fun y S2=>f x y S2
def aNil:AD:=fun _ S=> .ok [] S
def aCons (a:ED) (r:AD):AD:=fun env S=>(a env S).bind fun x S1=>(r env S1).bind fun xs S2=> .ok (x::xs) S2
def eN (f:FN) (a:AD):ED:=fun env S=>(a env S).bind fun xs S1=>f xs S1
def eIf (c:TD) (a b:ED):ED:=fun env S=>(c env S).bind fun k S1=>match k with
 |true=>a env S1
 |false=>b env S1
def tOfE (a:ED):TD:=fun env S=>(a env S).bind fun x S1=>match x with
 | .bl k=> .ok k S1
 | _=> .bad
def truthD (x:D) (S:Store):R Bool:=match x with
 | .bl k=> .ok k S
 | .non=> .ok false S
 | .int i=> .ok (i != 0) S
 | .str s=>if s.length≤sizeLine then .ok (s.length != 0) S else .bad
 | .tup l=> .ok (!l.isEmpty) S
 | .lst l=> .ok (!l.isEmpty) S
 | .obj n=>match S[n]? with
   |some (.lst l)=> .ok (!l.isEmpty) S
   | _=> .bad
 | _=> .bad
def tTruth (a:ED):TD:=fun env S=>(a env S).bind fun x S1=>truthD x S1
def tNot (a:TD):TD:=fun env S=>(a env S).bind fun k S1=> .ok (!k) S1
def tAnd (a b:TD):TD:=fun env S=>(a env S).bind fun k S1=>match k with
 |true=>b env S1
 |false=> .ok false S1
def tOr (a b:TD):TD:=fun env S=>(a env S).bind fun k S1=>match k with
 |true=> .ok true S1
 |false=>b env S1
def eNot (a:ED):ED:=fun env S=>(tOfE a env S).bind fun k S1=> .ok (.bl (!k)) S1
def eAnd (a b:ED):ED:=fun env S=>(tOfE a env S).bind fun k S1=>match k with
 |true=>b env S1
 |false=> .ok (.bl false) S1
def eOr (a b:ED):ED:=fun env S=>(tOfE a env S).bind fun k S1=>match k with
 |true=> .ok (.bl true) S1
 |false=>b env S1
def eChain (f g:F2) (a b c:ED):ED:=fun env S=>(a env S).bind fun x S1=>(b env S1).bind fun y S2=>(f x y S2).bind fun k S3=>match k with
 | .bl true=>(c env S3).bind fun z S4=>g y z S4
 | .bl false=> .ok (.bl false) S3
 | _=> .bad
def mkTup:FN:=fun xs S=>if xs.length≤sizeLine then .ok (.tup xs) S else .bad
def mkLst:FN:=fun xs S=>if xs.length≤sizeLine then .ok (.lst xs) S else .bad
def mkObj:FN:=fun xs S=>if xs.length≤sizeLine then .ok (.obj S.length) (S++ [.lst xs]) else .bad
def sSkip:SD:=fun env S=> .nx env S
def sSeq (a b:SD):SD:=fun env S=>match a env S with
 | .nx env1 S1=>b env1 S1
 |r=>r
def sIf (c:TD) (a b:SD):SD:=fun env S=>(c env S).toS env fun k S1=>match k with
 |true=>a env S1
 |false=>b env S1
def sRet (a:ED):SD:=fun env S=>(a env S).toS env fun d S1=> .ret d S1
def sExpr (a:ED):SD:=fun env S=>(a env S).toS env fun _ S1=> .nx env S1
def sBrk:SD:=fun env S=> .brk env S
def sCt:SD:=fun env S=> .ct env S
abbrev GD:=D→EnvD→Store→SR
def gName (i:Nat):GD:=fun d env S=> .nx (env.set i (some d)) S
def sAsg (a:ED) (g:GD):SD:=fun env S=>(a env S).toS env fun d S1=>g d env S1
def gNames:List Nat→List D→EnvD→Store→SR
 | [],[],env,S=> .nx env S
 |i::is,d::ds,env,S=>gNames is ds (env.set i (some d)) S
 | _,_,_,_=> .bad
def gTup (is:List Nat):GD:=fun d env S=>match d with
 | .tup l=>gNames is l env S
 | .wtp l=>gNames is (l.map D.int) env S
 | _=> .bad
def forL (g:GD) (body:SD):List D→EnvD→Store→SR
 | [],env,S=> .nx env S
 |x::xs,env,S=>match g x env S with
  | .nx env1 S1=>match body env1 S1 with
    | .nx env2 S2=>forL g body xs env2 S2
    | .ct env2 S2=>forL g body xs env2 S2
    | .brk env2 S2=> .nx env2 S2
    | .ret d S2=> .ret d S2
    | .exc e env2 S2=> .exc e env2 S2
    | .bad=> .bad
  | _=> .bad
def SR.fin:SR→R D
 | .nx _ S1=> .ok .non S1
 | .ret d S1=> .ok d S1
 | .exc e _ S1=> .exc e S1
 | _=> .bad
def run (np n:Nat) (body:SD):FN:=fun xs S=>if xs.length=np then(body (xs.map some++List.replicate (n-xs.length) none) S).fin else .bad
end L3
namespace L3
open PySem PySem.Spec PyProof.Rows L2
structure GC where
 K:PySem.W.Frag
 w:World
 mg:Str→Option Value
structure Wd where
 mu:List Addr
 S:Store
 H:Hp
 /-- lists and dicts that are being made around here: nothing refers to them -/
 tmp:List Addr
def O.live:O→Prop
 | .dead=>False
 | .ptp _=>False
 | _=>True
def MutS (w:Wd) (a:Addr):Prop:=∃(n:Nat) (o:O),w.S[n]? =some o∧o.live∧w.mu[n]? =some a
def Mut (w:Wd) (a:Addr):Prop:=MutS w a∨a ∈ w.tmp
def Fz (w:Wd) (a:Addr) (u:HO):Prop:=Rd w.H a u∧¬Mut w a
def KT (K:PySem.W.Frag) (a:Addr) (xs:List V):Prop:=
 ∃(o:Obj) (its:Array Value) (n:Nat),K.lookup a=some o∧o.cls= .type "tuple" ∧o.data= .seq its n∧its.size≤sizeLine∧Vals xs its.toList
def KL (K:PySem.W.Frag) (a:Addr) (xs:List V):Prop:=
 ∃(o:Obj) (its:Array Value) (n:Nat),K.lookup a=some o∧o.cls= .type "list" ∧o.dict=none∧o.data= .seq its n∧its.size≤sizeLine∧Vals xs its.toList
def xoH (a:Addr) (cls:Value) (dx:Option Addr):HO:= .ext fun h=>∃(oe:Obj) (vs:Array Value),h.get? a=some oe∧Zc cls dx oe∧oe.data= .fields vs
def isIt:D→Bool
 | .int _=>true
 | _=>false
def plc (l:List D):Bool:=l.all isIt
def TupAt (G:GC) (w:Wd) (a:Addr) (vs:List V) (l:List D):Prop:=(w.H a=some (.tup vs)∧¬Mut w a)∨(KT G.K a vs∧plc l=false)
def KEnt (G:GC):List DictEntry→List Str→List Value→Prop
 | [],ks,us=>ks= [] ∧us= []
 |e::es,ks,us=>∃k kr u ur t,ks=k::kr∧us=u::ur∧e.key= .str k t∧e.val=u∧e.hash=PyData.keyHash G.w.params k∧KEnt G es kr ur
def CodeAt (w:Wd) (q:Str) (c:Addr):Prop:=w.H c=some (LamX.CodeO c q)∧¬Mut w c
mutual
def Rep (G:GC) (w:Wd):D→V→Prop
 | .non,v=>v= .non
 | .bl b,v=>v= .bl b
 | .int i,v=>v= .int i
 | .str s,v=>v= .str s
 | .tup l,v=>∃a vs,v= .ref a∧TupAt G w a vs l∧RepL G w l vs
 | .lst l,v=>∃a vs,v= .ref a∧w.H a=some (.lst vs)∧¬Mut w a∧RepL G w l vs
 | .dic ks l,v=>∃a vs,v= .ref a∧w.H a=some (.dK (ks.zip vs))∧¬Mut w a∧ks.length=l.length∧RepL G w l vs
 | .obj n,v=>∃a,w.mu[n]? =some a∧v= .ref a
 | .glb x,v=>∃u,G.mg x=some u∧RelV v u
 | .wtp l,v=>∃a,v= .ref a∧KT G.K a (l.map V.int)
 | .ty n,v=>v= .ty n
 | .scr ns,v=>∃a,v= .ref a∧(Fz w a (.lst (ns.map V.int))∨KL G.K a (ns.map V.int))
 | .kd ks l,v=>∃a es n vs us,v= .ref a∧KDict G.K G.w a es n∧(∀ z,PySem.W.nsIn G.K a z=some ((ks.zip us).lookup z))∧ks.length=l.length∧Vals vs us∧KEnt G es.toList ks us∧RepL G w l vs
 | .lam t l,v=>v= .ref t.f∧CodeAt w t.q t.c∧RepL G w l t.vs
 | .xcp c ks l,v=>∃a C dx vs,v= .ref a∧G.mg c=some (.ref C)∧(w.H a=some (xoH a (.ref C) dx)∧¬Mut w a)∧ks.length=l.length∧((ks= [] ∧dx=none)∨∃d,dx=some d∧w.H d=some (.xd (ks.zip vs))∧¬Mut w d)∧RepL G w l vs
def RepL (G:GC) (w:Wd):List D→List V→Prop
 | [],vs=>vs= []
 |d::ds,vs=>∃v r,vs=v::r∧Rep G w d v∧RepL G w ds r
end
def RepKV {κ :Type} (G:GC) (w:Wd):List (κ × D)→List (κ × V)→Prop
 | [],x=>x= []
 |p::r,x=>∃v y,x=(p.1,v)::y∧Rep G w p.2 v∧RepKV G w r y
mutual
def kD:NestedKey→D
 | .none=> .non
 | .num i=> .int i
 | .text x=> .str x
 | .tup ks=> .tup (kDL ks)
def kDL:List NestedKey→List D
 | [] => []
 |k::ks=>kD k::kDL ks
end
mutual
def nkOk:NestedKey→Bool
 | .none=>true
 | .num _=>true
 | .text x=>PyData.strOk x
 | .tup ks=>nkOkL ks
def nkOkL:List NestedKey→Bool
 | [] =>true
 |k::ks=>nkOk k&&nkOkL ks
end
def RepN (G:GC) (w:Wd):List (NestedKey × D)→List NRow→Prop
 | [],x=>x= []
 |p::r,x=>∃b v y,x=(p.1,b,v)::y∧Rep G w (kD p.1) (.ref b)∧(p.1.depth≤8∧nkOk p.1=true)∧Rep G w p.2 v∧RepN G w r y
def TabIs (G:GC) (x:Str) (a:Addr):Prop:=∃(f c:Addr) (fd:FuncData) (oc:Value) (od:Option Addr) (osl:Array (Option Value)),G.mg x=some (.ref f)∧G.K.lookup f=some ⟨oc,od, .func fd,osl⟩∧fd.code= .ref c∧PySem.W.codeHdIn G.K c a=true
def TabR (w:Wd) (a:Addr) (q:Str):Prop:=∃ps:Array Value,w.H a=some (.tbl ps)∧TriplesOk ps.toList∧∀(pos:Pos) (cv:Value),codeAmong pos ps.toList=some cv→∃c,cv= .ref c∧CodeAt w q c
def ORep (G:GC) (w:Wd) (a:Addr):O→Prop
 | .lst ds=>∃vs,w.H a=some (.lst vs)∧RepL G w ds vs
 | .dK kvs=>∃vs,w.H a=some (.dK vs)∧RepKV G w kvs vs
 | .dT kvs=>∃vs,w.H a=some (.dT vs)∧RepKV G w kvs vs
 | .dN kvs=>∃rows,w.H a=some (ObN G.w a rows)∧RepN G w kvs rows
 | .ins c fs=>∃C dx vs,w.H a=some (.ins C dx vs)∧RepKV G w fs vs∧G.mg c=some (.ref C)
 | .ptp ds=>∃o vs,(w.H a=some (.frz o (.tup vs))∧¬Mut w a)∧o.dict=none∧RepL G w ds vs
 | .dead=>True
 | .tab x q=>TabIs G x a∧TabR w a q
def NT (u:HO):Prop:=∀vs,u≠ .tup vs
structure SRep (G:GC) (w:Wd):Prop where
 len:w.mu.length=w.S.length
 inj:∀(n m:Nat) (a:Addr) (o o':O),w.S[n]? =some o→w.S[m]? =some o'→o.live→o'.live→w.mu[n]? =some a→w.mu[m]? =some a→n=m
 obj:∀(n:Nat) (o:O) (a:Addr),w.S[n]? =some o→w.mu[n]? =some a→ORep G w a o
 tm:∀a ∈ w.tmp,(∃ u: { u:HO // NT u },w.H a=some u.1)∧¬MutS w a
structure ERep (G:GC) (w:Wd) (env:EnvD) (σ :L2.St):Prop where
 len:env.length= σ.length
 at':∀(i:Nat) (d:D),env[i]? =some (some d)→∃v:V,σ[i]? =some (some v)∧Rep G w d v
structure WX' (T:List Addr) (w w':Wd):Prop where
 mu:∀(n:Nat) (a:Addr),w.mu[n]? =some a→w'.mu[n]? =some a
 keep:∀(a:Addr) (o:HO),w.H a=some o→¬MutS w a→a ∉ T→w'.H a=some o∧¬MutS w' a
 tmp:∀a ∈ w'.tmp,a ∈ w.tmp∨a ∈ T
 tmp':∀a ∈ w.tmp,a ∈ w'.tmp
abbrev WExt (w w':Wd):Prop:=WX' [] w w'
theorem WExt.refl (w:Wd):WExt w w:=⟨fun _ _ h=>h,fun _ _ h h' _=>⟨h,h'⟩,fun _ h=> .inl h,fun _ h=>h⟩
theorem WX'.trans {T:List Addr} {a b c:Wd} (x:WX' T a b) (y:WX' T b c):WX' T a c:=
 ⟨fun n d h=>y.mu n d (x.mu n d h),fun d o h h' t=>let⟨h1,h2⟩:=x.keep d o h h' t;y.keep d o h1 h2 t,fun d h=>(y.tmp d h).elim (x.tmp d) .inr,fun d h=>y.tmp' d (x.tmp' d h)⟩
theorem WX'.wide {T:List Addr} {a b:Wd} (x:WExt a b):WX' T a b:=⟨x.mu,fun d o h h' _=>x.keep d o h h' (by simp),fun d h=>(x.tmp d h).imp id fun z=>by simp at z,x.tmp'⟩
def Tok (T:List Addr) (w:Wd):Prop:=∀a ∈ T,a ∈ w.tmp∨w.H a=none
theorem WX'.keepM {T:List Addr} {w w':Wd} (x:WX' T w w') (hT:Tok T w) {a:Addr} {o:HO} (h:w.H a=some o) (nm: ¬Mut w a):w'.H a=some o∧¬Mut w' a:=by
 have nT:a ∉ T:=fun z=>(hT a z).elim (fun z=>nm (.inr z)) fun z=>by rw[h] at z;cases z
 obtain⟨h1,h2⟩:=x.keep a o h (fun z=>nm (.inl z)) nT
 exact⟨h1,fun z=>z.elim h2 fun z=>(x.tmp a z).elim (fun z=>nm (.inr z)) nT⟩
section
variable {T:List Addr} {G:GC} {w w':Wd}
theorem Fz.monoT {a:Addr} {u:HO} (x:WX' T w w') (hT:Tok T w) (h:Fz w a u):Fz w' a u:=by
 obtain⟨h|⟨o,h⟩,nm⟩:=h
 ·obtain⟨h1,h2⟩:=x.keepM hT h nm;exact⟨.inl h1,h2⟩
 ·obtain⟨h1,h2⟩:=x.keepM hT h nm;exact⟨.inr ⟨o,h1⟩,h2⟩
mutual
theorem Rep.monoT (x:WX' T w w') (hT:Tok T w):∀(d:D) (v:V),Rep G w d v→Rep G w' d v
 | .non,v,h=>by simpa only[Rep] using h
 | .bl b,v,h=>by simpa only[Rep] using h
 | .int i,v,h=>by simpa only[Rep] using h
 | .str s,v,h=>by simpa only[Rep] using h
 | .tup l,v,h=>by
   simp only[Rep] at h ⊢
   obtain⟨a,vs,e,h1,h2⟩:=h
   exact⟨a,vs,e,h1.imp (fun z=>x.keepM hT z.1 z.2) id,RepL.monoT x hT l vs h2⟩
 | .lst l,v,h=>by
   simp only[Rep] at h ⊢
   obtain⟨a,vs,e,h1,nm,h2⟩:=h
   obtain⟨q1,q2⟩:=x.keepM hT h1 nm
   exact⟨a,vs,e,q1,q2,RepL.monoT x hT l vs h2⟩
 | .dic ks l,v,h=>by
   simp only[Rep] at h ⊢
   obtain⟨a,vs,e,h1,nm,hl,h2⟩:=h
   obtain⟨q1,q2⟩:=x.keepM hT h1 nm
   exact⟨a,vs,e,q1,q2,hl,RepL.monoT x hT l vs h2⟩
 | .obj n,v,h=>by
   simp only[Rep] at h ⊢
   obtain⟨a,h1,e⟩:=h
   exact⟨a,x.mu n a h1,e⟩
 | .glb y,v,h=>by simpa only[Rep] using h
 | .wtp _,v,h=>by simpa only[Rep] using h
 | .ty n,v,h=>by simpa only[Rep] using h
 | .scr ns,v,h=>by
   simp only[Rep] at h ⊢
   obtain⟨a,e,h1⟩:=h
   exact⟨a,e,h1.imp (Fz.monoT x hT) id⟩
 | .kd ks l,v,h=>by
   simp only[Rep] at h ⊢
   obtain⟨a,es,n,vs,us,e,h1,h2,h3,h4,ke,h5⟩:=h
   exact⟨a,es,n,vs,us,e,h1,h2,h3,h4,ke,RepL.monoT x hT l vs h5⟩
 | .lam t l,v,h=>by
   simp only[Rep] at h ⊢
   exact⟨h.1,x.keepM hT h.2.1.1 h.2.1.2,RepL.monoT x hT l t.vs h.2.2⟩
 | .xcp c ks l,v,h=>by
   simp only[Rep] at h ⊢
   obtain⟨a,C,dx,vs,e,h1,⟨h2,nm⟩,h3,h4,h5⟩:=h
   exact⟨a,C,dx,vs,e,h1,x.keepM hT h2 nm,h3,h4.imp id fun⟨d,e1,e2,nd⟩=>let⟨q1,q2⟩:=x.keepM hT e2 nd;⟨d,e1,q1,q2⟩,RepL.monoT x hT l vs h5⟩
theorem RepL.monoT (x:WX' T w w') (hT:Tok T w):∀(d:List D) (v:List V),RepL G w d v→RepL G w' d v
 | [],v,h=>by simpa only[RepL] using h
 |d::ds,v,h=>by
  simp only[RepL] at h ⊢
  obtain⟨y,r,e,h1,h2⟩:=h
  exact⟨y,r,e,Rep.monoT x hT d y h1,RepL.monoT x hT ds r h2⟩
end
end
theorem noT {w:Wd} :Tok [] w:=fun _ h=>by simp at h
theorem Rep.mono {G:GC} {w w':Wd} (x:WExt w w') (d:D) (v:V) (h:Rep G w d v):Rep G w' d v:=Rep.monoT x noT d v h
theorem RepL.mono {G:GC} {w w':Wd} (x:WExt w w') (d:List D) (v:List V) (h:RepL G w d v):RepL G w' d v:=RepL.monoT x noT d v h
theorem RepKV.monoT {κ :Type} {T:List Addr} {G:GC} {w w':Wd} (x:WX' T w w') (hT:Tok T w):∀(d:List (κ × D)) (v:List (κ × V)),RepKV G w d v→RepKV G w' d v
 | [],v,h=>h
 |d::ds,v,h=>by
  obtain⟨y,r,e,h1,h2⟩:=h
  exact⟨y,r,e,Rep.monoT x hT _ y h1,RepKV.monoT x hT ds r h2⟩
theorem RepN.monoT {T:List Addr} {G:GC} {w w':Wd} (x:WX' T w w') (hT:Tok T w):∀(d:List (NestedKey × D)) (v:List NRow),RepN G w d v→RepN G w' d v
 | [],v,h=>h
 |p::ds,v,h=>by
  obtain⟨b,u,y,e,h1,h2,h3,h4⟩:=h
  exact⟨b,u,y,e,Rep.monoT x hT _ _ h1,h2,Rep.monoT x hT _ _ h3,RepN.monoT x hT ds y h4⟩
theorem RepKV.mono {κ :Type} {G:GC} {w w':Wd} (x:WExt w w') (d:List (κ × D)) (v:List (κ × V)) (h:RepKV G w d v):RepKV G w' d v:=RepKV.monoT x noT d v h
theorem ERep.monoT {T:List Addr} {G:GC} {w w':Wd} {env:EnvD} {σ :L2.St} (x:WX' T w w') (hT:Tok T w) (h:ERep G w env σ):ERep G w' env σ :=
 ⟨h.len,fun i d e=>let⟨v,h1,h2⟩:=h.at' i d e;⟨v,h1,Rep.monoT x hT d v h2⟩⟩
theorem ERep.mono {G:GC} {w w':Wd} {env:EnvD} {σ :L2.St} (x:WExt w w') (h:ERep G w env σ):ERep G w' env σ :=ERep.monoT x noT h
theorem ERep.set {G:GC} {w:Wd} {env:EnvD} {σ :L2.St} {d:D} {v:V} (i:Nat) (h:ERep G w env σ) (r:Rep G w d v):ERep G w (env.set i (some d)) (σ.set i (some v)):=by
 refine⟨by simp[h.len],fun j d' e=> ?_⟩
 by_cases hj:i=j
 ·subst hj
  by_cases hi:i<env.length
  ·rw[List.getElem?_set_self hi] at e
   cases e
   exact⟨v,List.getElem?_set_self (by rw[← h.len];exact hi),r⟩
  ·rw[List.getElem?_eq_none (by simpa using hi)] at e
   cases e
 ·rw[List.getElem?_set_ne hj] at e ⊢
  exact h.at' j d' e
def XRep (G:GC) (w:Wd) (e:Ex) (C:Value) (dx:Option Addr):Prop:=
 (∃ Ca,G.mg e.cls=some (.ref Ca)∧C= .ref Ca)∧((e.fs= [] ∧dx=none)∨∃d kvs,dx=some d∧w.H d=some (.xd kvs)∧¬Mut w d∧RepKV G w e.fs kvs)
def Post {α β :Type} (G:GC) (w:Wd) (r:R α) (Ra:Wd→ α → β →Prop) (Q: β →Hp→Prop) (E:Value→Option Addr→Hp→Prop):Prop:=
 match r with
 | .ok d S'=>∀v w',WExt w w'→w'.S=S'→SRep G w'→Ra w' d v→Q v w'.H
 | .exc e S'=>∀C dx w',WExt w w'→w'.S=S'→SRep G w'→XRep G w' e C dx→E C dx w'.H
 | .bad=>False
section
variable {α β γ δ :Type} {G:GC} {w w':Wd} {r:R α} {Ra:Wd→ α → β →Prop} {Rb:Wd→ γ → δ →Prop} {Q Q': β →Hp→Prop} {E E':Value→Option Addr→Hp→Prop}
theorem Post.shift (x:WExt w w') (h:Post G w r Ra Q E):Post G w' r Ra Q E:=by
 cases r with
 |ok d S'=>exact fun v w2 e hs sr rp=>h v w2 (WX'.trans x e) hs sr rp
 |exc e S'=>exact fun C dx w2 e hs sr rp=>h C dx w2 (WX'.trans x e) hs sr rp
 |bad=>exact h
theorem Post.mono (h:Post G w r Ra Q E) (hq:∀v H,Q v H→Q' v H) (he:∀C d H,E C d H→E' C d H):Post G w r Ra Q' E':=by
 cases r with
 |ok d S'=>exact fun v w2 e hs sr rp=>hq _ _ (h v w2 e hs sr rp)
 |exc e S'=>exact fun C dx w2 e hs sr rp=>he _ _ _ (h C dx w2 e hs sr rp)
 |bad=>exact h
def Mid {β :Type} (G:GC) (w:Wd) (Ra:Wd→ α → β →Prop) (P:Wd→ α →Prop) (x: β) (H1:Hp):Prop:=
 ∃w1 d,w1.H=H1∧WExt w w1∧SRep G w1∧Ra w1 d x∧P w1 d
theorem Post.bind {f: α →Store→R γ} {Q: δ →Hp→Prop} (h:Post G w (r.bind f) Rb Q E):
 Post G w r Ra (Mid G w Ra fun w1 d=>Post G w1 (f d w1.S) Rb Q E) E:=by
 cases r with
 |ok d S'=>
  intro v w1 e hs sr rp
  refine⟨w1,d,rfl,e,sr,rp,?_⟩
  subst hs
  exact Post.shift e h
 |exc e S'=>exact h
 |bad=>exact h
theorem Post.ret {a: α} {b: β} (sr:SRep G w) (ra:Ra w a b) (h:Post G w (.ok a w.S) Ra Q E):Q b w.H:=h b w (.refl w) rfl sr ra
end
def tE (G:GC) (m:ED) (Wx:WX):TE:=fun σ H Q=>∃w env,w.H=H∧SRep G w∧ERep G w env σ ∧Post G w (m env w.S) (Rep G) Q (fun C dx H'=>Wx C dx σ H')
def tT (G:GC) (m:TD) (Wx:WX):TT:=fun σ H Q=>∃w env,w.H=H∧SRep G w∧ERep G w env σ ∧Post G w (m env w.S) (fun _ a b=>a=b) Q (fun C dx H'=>Wx C dx σ H')
def tA (G:GC) (m:AD) (Wx:WX):TA:=fun σ H Q=>∃w env,w.H=H∧SRep G w∧ERep G w env σ ∧Post G w (m env w.S) (RepL G) Q (fun C dx H'=>Wx C dx σ H')
def PostS (G:GC) (w:Wd) (r:SR) (D:Ends) (Wx:WX):Prop:=
 match r with
 | .nx env' S'=>∀ σ' w',WExt w w'→w'.S=S'→SRep G w'→ERep G w' env' σ'→D.nx σ' w'.H
 | .ret d S'=>∀v w',WExt w w'→w'.S=S'→SRep G w'→Rep G w' d v→D.rt v w'.H
 | .brk env' S'=>∀ σ' w',WExt w w'→w'.S=S'→SRep G w'→ERep G w' env' σ'→D.bk σ' w'.H
 | .ct env' S'=>∀ σ' w',WExt w w'→w'.S=S'→SRep G w'→ERep G w' env' σ'→D.ct σ' w'.H
 | .exc e env' S'=>∀C dx σ' w',WExt w w'→w'.S=S'→SRep G w'→ERep G w' env' σ'→XRep G w' e C dx→Wx C dx σ' w'.H
 | .bad=>False
def tS (G:GC) (m:SD) (Wx:WX):TS:=fun D σ H=>∃w env,w.H=H∧SRep G w∧ERep G w env σ ∧PostS G w (m env w.S) D Wx
theorem PostS.shift {G:GC} {w w':Wd} {r:SR} {D:Ends} {Wx:WX} (x:WExt w w') (h:PostS G w r D Wx):PostS G w' r D Wx:=by
 cases r with
 |nx env S'=>exact fun v w2 e hs sr rp=>h v w2 (WX'.trans x e) hs sr rp
 |ret d S'=>exact fun v w2 e hs sr rp=>h v w2 (WX'.trans x e) hs sr rp
 |brk env S'=>exact fun v w2 e hs sr rp=>h v w2 (WX'.trans x e) hs sr rp
 |ct env S'=>exact fun v w2 e hs sr rp=>h v w2 (WX'.trans x e) hs sr rp
 |exc e env S'=>exact fun C dx σ w2 e hs sr er rp=>h C dx σ w2 (WX'.trans x e) hs sr er rp
 |bad=>exact h
theorem PostS.ofR {α β :Type} {G:GC} {w:Wd} {r:R α} {Ra:Wd→ α → β →Prop} {k: α →Store→SR} {D:Ends} {Wx:WX} {env:EnvD} {σ :L2.St} (er:ERep G w env σ) (h:PostS G w (r.toS env k) D Wx):
 Post G w r Ra (Mid G w Ra fun w1 d=>PostS G w1 (k d w1.S) D Wx) (fun C dx H'=>Wx C dx σ H'):=by
 cases r with
 |ok d S'=>
  intro v w1 e hs sr rp
  refine⟨w1,d,rfl,e,sr,rp,?_⟩
  subst hs
  exact PostS.shift e h
 |exc e S'=>exact fun C dx w2 x hs sr rp=>h C dx σ w2 x hs sr (er.mono x) rp
 |bad=>exact h
theorem peI {X:Cx} {e:Expr} {t t':TE} (h:PE X e t) (i:∀ σ H Q,t' σ H Q→t σ H Q):PE X e t':=⟨fun pins s σ H Q I q=>h.run pins s σ H Q I (i _ _ _ q)⟩
theorem ptI {X:Cx} {e:Expr} {t t':TT} (h:PT X e t) (i:∀ σ H Q,t' σ H Q→t σ H Q):PT X e t':=⟨fun pins s σ H Q I q=>h.run pins s σ H Q I (i _ _ _ q)⟩
theorem pwI {X:Cx} {e:Expr} {t t':TT} (h:PW X e t) (i:∀ σ H Q,t' σ H Q→t σ H Q):PW X e t':=⟨fun wh pins s σ H Q I q=>h.run wh pins s σ H Q I (i _ _ _ q)⟩
theorem paI {X:Cx} {e:List Expr} {t t':TA} (h:PA X e t) (i:∀ σ H Q,t' σ H Q→t σ H Q):PA X e t':=⟨fun po pins s σ H Q I q=>h.run po pins s σ H Q I (i _ _ _ q)⟩
theorem psI {X:Cx} {e:Stmt} {t t':TS} (h:PS X e t) (i:∀D σ H,t' D σ H→t D σ H):PS X e t':=⟨fun pins s σ H D I q=>h.run pins s σ H D I (i _ _ _ q)⟩
theorem pssI {X:Cx} {e:List Stmt} {t t':TS} (h:PSs X e t) (i:∀D σ H,t' D σ H→t D σ H):PSs X e t':=⟨fun pins s σ H D I q=>h.run pins s σ H D I (i _ _ _ q)⟩
abbrev WF:WX:=fun _ _ _ _=>False
section
variable {G:GC} {X:Cx} {Wx:WX} {pos:Pos}
theorem q_var {e:Expr} {i:Nat} (h:PE X e (tVar i)):PE X e (tE G (eVar i) Wx):=peI h fun σ H Q q=>by
 obtain⟨w,env,rfl,sr,er,p⟩:=q
 unfold eVar at p
 cases hi:env[i]? with
 |none=>rw[hi] at p;exact p.elim
 |some o=>
  cases o with
  |none=>rw[hi] at p;exact p.elim
  |some d=>
   rw[hi] at p
   obtain⟨v,e,r⟩:=er.at' i d hi
   exact⟨v,e,Post.ret sr r p⟩
theorem q_const {e:Expr} {v:V} {d:D} (h:PE X e (tC v)) (r:∀w,Rep G w d v):PE X e (tE G (eK d) Wx):=peI h fun σ H Q q=>by
 obtain⟨w,env,rfl,sr,er,p⟩:=q
 exact Post.ret sr (r w) p
theorem q_int {i j} :PE X (.Constant (.int i) j pos) (tE G (eK (.int i)) Wx):=q_const pe_int fun _=>by simp[Rep]
theorem q_bl {b j} :PE X (.Constant (.bool b) j pos) (tE G (eK (.bl b)) Wx):=q_const pe_bl fun _=>by simp[Rep]
theorem q_non {j} :PE X (.Constant .none j pos) (tE G (eK .non) Wx):=q_const pe_non fun _=>by simp[Rep]
theorem q_str {x j} :PE X (.Constant (.str x) j pos) (tE G (eK (.str x)) Wx):=q_const pe_str fun _=>by simp[Rep]
def r2 (G:GC) (f:F2):R2:=fun x y H Q=>∃w d1 d2,w.H=H∧SRep G w∧Rep G w d1 x∧Rep G w d2 y∧Post G w (f d1 d2 w.S) (Rep G) Q (fun _ _ _=>False)
def r1 (G:GC) (f:F1):V→Hp→VK→Prop:=fun x H Q=>∃w d1,w.H=H∧SRep G w∧Rep G w d1 x∧Post G w (f d1 w.S) (Rep G) Q (fun _ _ _=>False)
def rN (G:GC) (f:FN):List V→Hp→VK→Prop:=fun xs H Q=>∃w ds,w.H=H∧SRep G w∧RepL G w ds xs∧Post G w (f ds w.S) (Rep G) Q (fun _ _ _=>False)
def rM (G:GC) (f:D→FN):V→List V→Hp→VK→Prop:=fun x xs H Q=>∃w d ds,w.H=H∧SRep G w∧Rep G w d x∧RepL G w ds xs∧Post G w (f d ds w.S) (Rep G) Q (fun _ _ _=>False)
def R.calm {α :Type} :R α →Prop
 | .exc _ _=>False
 | _=>True
def Calm2 (f:F2):Prop:=∀x y S,(f x y S).calm
def Calm1 (f:F1):Prop:=∀x S,(f x S).calm
def CalmN (f:FN):Prop:=∀xs S,(f xs S).calm
def CalmM (f:D→FN):Prop:=∀x xs S,(f x xs S).calm
theorem Post.calm {α β :Type} {w:Wd} {r:R α} {Ra:Wd→ α → β →Prop} {Q: β →Hp→Prop} {E E':Value→Option Addr→Hp→Prop} (c:r.calm) (h:Post G w r Ra Q E):Post G w r Ra Q E':=by
 cases r with
 |ok _ _=>exact h
 |exc _ _=>exact c.elim
 |bad=>exact h
theorem imp_e2 {f:F2} {a b:ED} (c:Calm2 f):∀ σ H Q,tE G (e2 f a b) Wx σ H Q→tOp (r2 G f) (tE G a Wx) (tE G b Wx) σ H Q:=by
 intro σ H Q q
 obtain⟨w,env,rfl,sr,er,p⟩:=q
 refine⟨w,env,rfl,sr,er,(Post.bind p).mono (fun x H1 m=> ?_) fun _ _ _ h=>h⟩
 obtain⟨w1,d1,rfl,x1,s1,rp1,p1⟩:=m
 refine⟨w1,env,rfl,s1,er.mono x1,(Post.bind p1).mono (fun y H2 m=> ?_) fun _ _ _ h=>h⟩
 obtain⟨w2,d2,rfl,x2,s2,rp2,p2⟩:=m
 exact⟨w2,d1,d2,rfl,s2,Rep.mono x2 _ _ rp1,rp2,p2.calm (c _ _ _)⟩
theorem q_op {op:Operator} {f:F2} {a b:Expr} {ma mb:ED} (ho:OpR X (binaryOp op) (r2 G f)) (c:Calm2 f) (ha:PE X a (tE G ma Wx)) (hb:PE X b (tE G mb Wx)):PE X (.BinOp a op b pos) (tE G (e2 f ma mb) Wx):=
 peI (pe_op ho ha hb) (imp_e2 c)
theorem q_cmp {op:CmpOp} {f:F2} {a b:Expr} {ma mb:ED} (ho:OpR X (compareOp op) (r2 G f)) (c:Calm2 f) (ha:PE X a (tE G ma Wx)) (hb:PE X b (tE G mb Wx)) (hm:behindInMarks op b=false):PE X (.Compare a [op] [b] pos) (tE G (e2 f ma mb) Wx):=
 peI (pe_cmpR ho ha hb hm) (imp_e2 c)
theorem q_ix {f:F2} {a b:Expr} {ma mb:ED} (ho:IxR X (r2 G f)) (c:Calm2 f) (ha:PE X a (tE G ma Wx)) (hb:PE X b (tE G mb Wx)) (hs:PlainIx b):PE X (.Subscript a b pos) (tE G (e2 f ma mb) Wx):=
 peI (pe_ix ho ha hb hs) (imp_e2 c)
theorem q_un {op:UnaryOp} {f:F1} {a:Expr} {ma:ED} (ho:UnR X (unaryOp op) (r1 G f)) (c:Calm1 f) (ha:PE X a (tE G ma Wx)):PE X (.UnaryOp op a pos) (tE G (e1 f ma) Wx):=
 peI (pe_un ho ha) fun σ H Q q=>by
  obtain⟨w,env,rfl,sr,er,p⟩:=q
  refine⟨w,env,rfl,sr,er,(Post.bind p).mono (fun x H1 m=> ?_) fun _ _ _ h=>h⟩
  obtain⟨w1,d1,rfl,x1,s1,rp1,p1⟩:=m
  exact⟨w1,d1,rfl,s1,rp1,p1.calm (c _ _)⟩
theorem q_nil:PA X [] (tA G aNil Wx):=paI pa_nil fun σ H Q q=>by
 obtain⟨w,env,rfl,sr,er,p⟩:=q
 exact Post.ret (Ra:=RepL G) sr (by simp[RepL]) p
theorem q_cons {e:Expr} {es:List Expr} {m:ED} {ms:AD} (ha:PE X e (tE G m Wx)) (hr:PA X es (tA G ms Wx)) (hs:starEach (e::es) X.env=(false,eval e X.env)::starEach es X.env:=by rfl):PA X (e::es) (tA G (aCons m ms) Wx):=
 paI (pa_cons ha hr hs) fun σ H Q q=>by
  obtain⟨w,env,rfl,sr,er,p⟩:=q
  refine⟨w,env,rfl,sr,er,(Post.bind p).mono (fun x H1 m=> ?_) fun _ _ _ h=>h⟩
  obtain⟨w1,d1,rfl,x1,s1,rp1,p1⟩:=m
  refine⟨w1,env,rfl,s1,er.mono x1,(Post.bind p1).mono (fun y H2 m=> ?_) fun _ _ _ h=>h⟩
  obtain⟨w2,d2,rfl,x2,s2,rp2,p2⟩:=m
  exact Post.ret (Ra:=RepL G) (a:=d1::d2) s2 (by simp only[RepL];exact⟨x,y,rfl,Rep.mono x2 _ _ rp1,rp2⟩) p2
theorem imp_eN {f:FN} {a:AD} (c:CalmN f):∀ σ H Q,tE G (eN f a) Wx σ H Q→tCB (rN G f) (tA G a Wx) σ H Q:=by
 intro σ H Q q
 obtain⟨w,env,rfl,sr,er,p⟩:=q
 refine⟨w,env,rfl,sr,er,(Post.bind p).mono (fun x H1 m=> ?_) fun _ _ _ h=>h⟩
 obtain⟨w1,d1,rfl,x1,s1,rp1,p1⟩:=m
 exact⟨w1,d1,rfl,s1,rp1,p1.calm (c _ _)⟩
theorem q_callB {id:String} {x:Str} {p:Pos} {f:FN} {e:Expr} {es:List Expr} {m:AD} (hc:CallR X (.builtin id) (rN G f)) (c:CalmN f) (hg:Gl X x) (hm:X.mg x=none) (hv:bootBuiltins x=some (.builtin id)) (ha:PA X (e::es) (tA G m Wx)) (hn:x≠ "__name__" :=by decide) (hdb:(x==("__debug__" :Str))=false:=by decide)
 (he:starEach (e::es) X.env=(false,eval e X.env)::starEach es X.env:=by rfl) (hpl:(backTo pos (starEach es X.env)).any (·.1)=false:=by rfl):PE X (.Call (.Name x p) (e::es) [] pos) (tE G (eN f m) Wx):=
 peI (pe_callB hc hg hm hv ha hn hdb he hpl) (imp_eN c)
theorem q_callTy {T:String} {x:Str} {p:Pos} {f:FN} {e:Expr} {es:List Expr} {m:AD} (hc:CallR X (.type T) (rN G f)) (c:CalmN f) (hg:Gl X x) (hm:X.mg x=none) (hv:bootBuiltins x=some (.type T)) (ha:PA X (e::es) (tA G m Wx)) (hn:x≠ "__name__" :=by decide) (hdb:(x==("__debug__" :Str))=false:=by decide)
 (he:starEach (e::es) X.env=(false,eval e X.env)::starEach es X.env:=by rfl) (hpl:(backTo pos (starEach es X.env)).any (·.1)=false:=by rfl):PE X (.Call (.Name x p) (e::es) [] pos) (tE G (eN f m) Wx):=
 peI (pe_callTy hc hg hm hv ha hn hdb he hpl) (imp_eN c)
end
end L3
namespace L3
open PySem PySem.Spec PyProof.Rows L2
section
variable {G:GC} {w:Wd} {p:Addr} {o:HO}
theorem RepL.length:∀ {ds:List D} {vs:List V},RepL G w ds vs→vs.length=ds.length
 | [],vs,h=>by simp only[RepL] at h;subst h;rfl
 |d::ds,vs,h=>by
  simp only[RepL] at h
  obtain⟨v,r,rfl,_,h2⟩:=h
  simp[RepL.length h2]
theorem RepL.get:∀ {ds:List D} {vs:List V} {i:Nat} {d:D},RepL G w ds vs→ds[i]? =some d→∃v,vs[i]? =some v∧Rep G w d v
 | [],_,_,_,_,e=>by simp at e
 |d::ds,vs,0,d',h,e=>by
  simp only[RepL] at h
  obtain⟨v,r,rfl,h1,h2⟩:=h
  simp at e;subst e
  exact⟨v,rfl,h1⟩
 |d::ds,vs,i+1,d',h,e=>by
  simp only[RepL] at h
  obtain⟨v,r,rfl,h1,h2⟩:=h
  obtain⟨u,q1,q2⟩:=RepL.get (i:=i) (d:=d') h2 (by simpa using e)
  exact⟨u,by simpa using q1,q2⟩
theorem RepL.append:∀ {ds ds':List D} {vs vs':List V},RepL G w ds vs→RepL G w ds' vs'→RepL G w (ds++ds') (vs++vs')
 | [],_,_,_,h,h'=>by simp only[RepL] at h;subst h;exact h'
 |d::ds,ds',vs,vs',h,h'=>by
  simp only[RepL] at h
  obtain⟨v,r,rfl,h1,h2⟩:=h
  show RepL G w (d::(ds++ds')) (v::(r++vs'))
  simp only[RepL]
  exact⟨v,r++vs',rfl,h1,RepL.append h2 h'⟩
theorem RepL.one {d:D} {v:V} (h:Rep G w d v):RepL G w [d] [v] :=by
 simp only[RepL];exact⟨v,[],rfl,h,rfl⟩
theorem RepL.set:∀ {ds:List D} {vs:List V} (n:Nat) {d:D} {v:V},RepL G w ds vs→Rep G w d v→RepL G w (ds.set n d) (vs.set n v)
 | [],vs,n,d,v,h,h'=>by simp only[RepL] at h;subst h;simp[RepL]
 |d::ds,vs,0,d',v',h,h'=>by
  simp only[RepL] at h
  obtain⟨v,r,rfl,h1,h2⟩:=h
  simp only[List.set_cons_zero,RepL]
  exact⟨_,_,rfl,h',h2⟩
 |d::ds,vs,n+1,d',v',h,h'=>by
  simp only[RepL] at h
  obtain⟨v,r,rfl,h1,h2⟩:=h
  simp only[List.set_cons_succ,RepL]
  exact⟨_,_,rfl,h1,RepL.set n h2 h'⟩
theorem ORep.there {a:Addr} {ob:O} (h:ORep G w a ob) (lv:ob.live):∃u,w.H a=some u:=by
 cases ob with
 |lst l=>obtain⟨vs,e,_⟩:=h;exact⟨_,e⟩
 |dK l=>obtain⟨vs,e,_⟩:=h;exact⟨_,e⟩
 |dT l=>obtain⟨vs,e,_⟩:=h;exact⟨_,e⟩
 |dN l=>obtain⟨vs,e,_⟩:=h;exact⟨_,e⟩
 |ins c l=>obtain⟨_,_,_,e,_⟩:=h;exact⟨_,e⟩
 |ptp l=>exact lv.elim
 |dead=>exact lv.elim
 |tab x q=>obtain⟨_,ps,e,_⟩:=h;exact⟨_,e⟩
theorem MutS.there {a:Addr} (sr:SRep G w) (m:MutS w a):∃u,w.H a=some u:=by
 obtain⟨n,ob,h1,lv,h2⟩:=m
 exact(sr.obj n ob a h1 h2).there lv
theorem ORep.keep {T:List Addr} {w':Wd} {a:Addr} {ob:O} (x:WX' T w w') (hT:Tok T w) (h:ORep G w a ob) (e:ob.live→w'.H a=w.H a):ORep G w' a ob:=by
 cases ob with
 |lst l=>obtain⟨vs,h1,h2⟩:=h;exact⟨vs,(e trivial).trans h1,RepL.monoT x hT _ _ h2⟩
 |dK l=>obtain⟨vs,h1,h2⟩:=h;exact⟨vs,(e trivial).trans h1,RepKV.monoT x hT _ _ h2⟩
 |dT l=>obtain⟨vs,h1,h2⟩:=h;exact⟨vs,(e trivial).trans h1,RepKV.monoT x hT _ _ h2⟩
 |dN l=>obtain⟨vs,h1,h2⟩:=h;exact⟨vs,(e trivial).trans h1,RepN.monoT x hT _ _ h2⟩
 |ins c l=>obtain⟨C,dx,vs,h1,h2,h3⟩:=h;exact⟨C,dx,vs,(e trivial).trans h1,RepKV.monoT x hT _ _ h2,h3⟩
 |ptp l=>obtain⟨o,vs,⟨h1,nm⟩,h2,h3⟩:=h;exact⟨o,vs,x.keepM hT h1 nm,h2,RepL.monoT x hT _ _ h3⟩
 |dead=>trivial
 |tab y q=>obtain⟨h0,ps,h1,h2,h3⟩:=h;exact⟨h0,ps,(e trivial).trans h1,h2,fun pos cv hc=>let⟨c,e1,e2⟩:=h3 pos cv hc;⟨c,e1,x.keepM hT e2.1 e2.2⟩⟩
abbrev Wd.put (w:Wd) (p:Addr) (o:HO):Wd:= { w with H:=upd w.H p o }
theorem new_ext (sr:SRep G w) (hp:w.H p=none):WExt w (w.put p o)∧SRep G (w.put p o)∧¬Mut (w.put p o) p:=by
 have x:WExt w (w.put p o):=⟨fun _ _ h=>h,fun a u h nm _=>⟨(upd_ne (ne_of_none h hp)).trans h,nm⟩,fun _ h=> .inl h,fun _ h=>h⟩
 refine⟨x,⟨sr.len,sr.inj,fun n ob a h1 h2=> ?_,fun a ha=> ?_⟩,fun m=>m.elim (fun m=> ?_) fun m=> ?_⟩
 ·have h:=sr.obj n ob a h1 h2
  refine h.keep x noT fun lv=> ?_
  obtain⟨u,e⟩:=h.there lv
  exact upd_ne (ne_of_none e hp)
 ·obtain⟨⟨u,e⟩,nm⟩:=sr.tm a ha
  exact⟨⟨u,(upd_ne (ne_of_none e hp)).trans e⟩,nm⟩
 ·obtain⟨u,e⟩:=MutS.there sr (show MutS w p from m)
  rw[hp] at e;cases e
 ·obtain⟨⟨u,e⟩,_⟩:=sr.tm p m
  rw[hp] at e;cases e
theorem new_obj {ob:O} (sr:SRep G w) (hp:w.H p=none) (hor:∀w',WExt w w'→w'.H p=some o→ORep G w' p ob):
 WExt w ⟨w.mu++ [p],w.S++ [ob],upd w.H p o,w.tmp⟩∧SRep G ⟨w.mu++ [p],w.S++ [ob],upd w.H p o,w.tmp⟩:=by
 have nmS:∀a u,w.H a=some u→¬MutS w a→¬MutS ⟨w.mu++ [p],w.S++ [ob],upd w.H p o,w.tmp⟩ a:=fun a u h nm m=>by
  obtain⟨n,o',h1,lv,h2⟩:=m
  by_cases hn:n<w.S.length
  ·refine nm ⟨n,o',?_,lv,?_⟩
   ·simpa[List.getElem?_append_left hn] using h1
   ·have:n<w.mu.length:=by rw[sr.len];exact hn
    simpa[List.getElem?_append_left this] using h2
  ·have e:n=w.S.length:=by
    have:=(List.getElem?_eq_some_iff.mp h1).1
    simp at this;omega
   subst e
   have:(w.mu++ [p])[w.mu.length]? =some p:=by simp
   rw[← sr.len] at h2
   have e2:p=a:=Option.some.inj (this.symm.trans h2)
   rw[e2,h] at hp;cases hp
 have x:WExt w ⟨w.mu++ [p],w.S++ [ob],upd w.H p o,w.tmp⟩:=
  ⟨fun n a h=>by
    have hl:=(List.getElem?_eq_some_iff.mp h).1
    show(w.mu++ [p])[n]? =some a
    rw[List.getElem?_append_left hl];exact h,
    fun a u h nm _=>⟨(upd_ne (ne_of_none h hp)).trans h,nmS a u h nm⟩,fun _ h=> .inl h,fun _ h=>h⟩
 have split:∀(n:Nat) (o':O),(w.S++ [ob])[n]? =some o'→w.S[n]? =some o'∨(n=w.S.length∧o'=ob):=fun n o' h=>by
  by_cases hn:n<w.S.length
  ·rw[List.getElem?_append_left hn] at h;exact .inl h
  ·have e:n=w.S.length:=by
    have:=(List.getElem?_eq_some_iff.mp h).1
    simp at this;omega
   subst e;simp at h;exact .inr ⟨rfl,h.symm⟩
 have mul:∀(n:Nat) (a:Addr),n<w.S.length→(w.mu++ [p])[n]? =some a→w.mu[n]? =some a:=fun n a hn h=>by
  have:n<w.mu.length:=by rw[sr.len];exact hn
  rw[List.getElem?_append_left this] at h;exact h
 have mur:∀(a:Addr),(w.mu++ [p])[w.S.length]? =some a→a=p:=fun a h=>by
  rw[← sr.len] at h;simp at h;exact h.symm
 have old:∀(n:Nat) (o':O) (a:Addr),w.S[n]? =some o'→o'.live→(w.mu++ [p])[n]? =some a→a≠p:=fun n o' a h lv hm e=>by
  have hn:=(List.getElem?_eq_some_iff.mp h).1
  obtain⟨u,q⟩:=(sr.obj n o' a h (mul n a hn hm)).there lv
  rw[e,hp] at q;cases q
 refine⟨x,⟨by simp[sr.len],fun n m a o1 o2 h1 h2 l1 l2 m1 m2=> ?_,fun n o' a h1 h2=> ?_,fun a ha=> ?_⟩⟩
 ·rcases split n o1 h1 with q1|⟨e1,q1⟩<;>rcases split m o2 h2 with q2|⟨e2,q2⟩
  ·exact sr.inj n m a o1 o2 q1 q2 l1 l2 (mul n a (List.getElem?_eq_some_iff.mp q1).1 m1) (mul m a (List.getElem?_eq_some_iff.mp q2).1 m2)
  ·subst e2;exact absurd (mur a m2) (old n o1 a q1 l1 m1)
  ·subst e1;exact absurd (mur a m1) (old m o2 a q2 l2 m2)
  ·rw[e1,e2]
 ·rcases split n o' h1 with q1|⟨e1,q1⟩
  ·have hn:=(List.getElem?_eq_some_iff.mp q1).1
   have h:=sr.obj n o' a q1 (mul n a hn h2)
   refine h.keep x noT fun lv=> ?_
   obtain⟨u,e⟩:=h.there lv
   exact upd_ne (ne_of_none e hp)
  ·subst e1 q1
   have e:a=p:=mur a h2
   subst e
   exact hor _ x upd_same
 ·obtain⟨⟨u,e⟩,nm⟩:=sr.tm a ha
  exact⟨⟨u,(upd_ne (ne_of_none e hp)).trans e⟩,nmS a u.1 e nm⟩
theorem set_obj {n:Nat} {a:Addr} {ob ob':O} (sr:SRep G w) (hn:w.S[n]? =some ob) (lv:ob.live) (ha:w.mu[n]? =some a) (hor:∀w',WExt w w'→w'.H a=some o→ORep G w' a ob'):
 WExt w ⟨w.mu,w.S.set n ob',upd w.H a o,w.tmp⟩∧SRep G ⟨w.mu,w.S.set n ob',upd w.H a o,w.tmp⟩:=by
 have hl:=(List.getElem?_eq_some_iff.mp hn).1
 have back:∀(m:Nat) (o':O),(w.S.set n ob')[m]? =some o'→(m=n∧o'=ob')∨(m≠n∧w.S[m]? =some o'):=fun m o' h=>by
  by_cases e:n=m
  ·subst e;rw[List.getElem?_set_self hl] at h;exact .inl ⟨rfl,(Option.some.inj h).symm⟩
  ·rw[List.getElem?_set_ne e] at h;exact .inr ⟨fun z=>e z.symm,h⟩
 have mb:∀b,MutS ⟨w.mu,w.S.set n ob',upd w.H a o,w.tmp⟩ b→MutS w b:=fun b ⟨m,o',h1,l1,h2⟩=>by
  rcases back m o' h1 with⟨e,_⟩|⟨_,q⟩
  ·subst e;exact⟨m,ob,hn,lv,h2⟩
  ·exact⟨m,o',q,l1,h2⟩
 have nA:∀b,¬MutS w b→b≠a:=fun b nm e=>nm (by subst e;exact⟨n,ob,hn,lv,ha⟩)
 have x:WExt w ⟨w.mu,w.S.set n ob',upd w.H a o,w.tmp⟩:=⟨fun _ _ h=>h,fun b u h nm _=>⟨(upd_ne (nA b nm)).trans h,fun m=>nm (mb b m)⟩,fun _ h=> .inl h,fun _ h=>h⟩
 have lvOf:∀(m:Nat) (o':O),(w.S.set n ob')[m]? =some o'→o'.live→∃o2,w.S[m]? =some o2∧o2.live:=fun m o' h l=>by
  rcases back m o' h with⟨e,_⟩|⟨_,q⟩
  ·subst e;exact⟨ob,hn,lv⟩
  ·exact⟨o',q,l⟩
 refine⟨x,⟨by simp[sr.len],fun i j b o1 o2 h1 h2 l1 l2 m1 m2=> ?_,fun m o' b h1 h2=> ?_,fun b hb=> ?_⟩⟩
 ·obtain⟨p1,q1,r1⟩:=lvOf i o1 h1 l1
  obtain⟨p2,q2,r2⟩:=lvOf j o2 h2 l2
  exact sr.inj i j b p1 p2 q1 q2 r1 r2 m1 m2
 ·rcases back m o' h1 with⟨e,e2⟩|⟨ne,q⟩
  ·subst e e2
   have e3:b=a:=Option.some.inj (h2.symm.trans ha)
   subst e3
   exact hor _ x upd_same
  ·have h:=sr.obj m o' b q h2
   refine h.keep x noT fun l=>upd_ne fun e=>ne ?_
   subst e
   exact sr.inj m n _ o' ob q hn l lv h2 ha
 ·obtain⟨⟨u,e⟩,nm⟩:=sr.tm b hb
  exact⟨⟨u,(upd_ne (nA b nm)).trans e⟩,fun m=>nm (mb b m)⟩
end
end L3
namespace L3
open PySem PySem.Spec PyProof.Rows L2
section
variable {G:GC} {X:Cx} {Wx:WX} {pos:Pos}
theorem q_tnot {c:Expr} {m:TD} (h:PT X c (tT G m Wx)):PT X (.UnaryOp .Not c pos) (tT G (tNot m) Wx):=ptI (pt_not h) fun σ H Q q=>by
 obtain⟨w,env,rfl,sr,er,p⟩:=q
 refine⟨w,env,rfl,sr,er,(Post.bind (Ra:=fun _ (a b:Bool)=>a=b) p).mono (fun x H1 m=> ?_) fun _ _ _ h=>h⟩
 obtain⟨w1,d1,rfl,x1,s1,rp1,p1⟩:=m
 subst rp1
 exact Post.ret (Ra:=fun _ (a b:Bool)=>a=b) s1 rfl p1
theorem imp_or {a b:TD} :∀ σ H Q,tT G (tOr a b) Wx σ H Q→L2.tOr (tT G a Wx) (tT G b Wx) σ H Q:=by
 intro σ H Q q
 obtain⟨w,env,rfl,sr,er,p⟩:=q
 refine⟨w,env,rfl,sr,er,(Post.bind (Ra:=fun _ (a b:Bool)=>a=b) p).mono (fun x H1 m=> ?_) fun _ _ _ h=>h⟩
 obtain⟨w1,d1,rfl,x1,s1,rp1,p1⟩:=m
 subst rp1
 cases d1 with
 |true=>exact iteT (Post.ret (Ra:=fun _ (a b:Bool)=>a=b) s1 rfl p1)
 |false=>exact iteF ⟨w1,env,rfl,s1,er.mono x1,p1⟩
theorem q_expr {e:Expr} {m:ED} (h:PE X e (tE G m Wx)) (hs:swapsWith e none pos.line X.env=pure false:=by rfl):PS X (.Expr e pos) (tS G (sExpr m) Wx):=psI (ps_expr h hs) fun D σ H q=>by
 obtain⟨w,env,rfl,sr,er,p⟩:=q
 refine⟨w,env,rfl,sr,er,(PostS.ofR (Ra:=Rep G) er p).mono (fun x H1 m=> ?_) fun _ _ _ h=>h⟩
 obtain⟨w1,d1,rfl,x1,s1,rp1,p1⟩:=m
 exact p1 σ w1 (.refl w1) rfl s1 (er.mono x1)
theorem q_ret {e:Expr} {m:ED} (h:PE X e (tE G m Wx)):PS X (.Return (some e) pos) (tS G (sRet m) Wx):=psI (ps_ret h) fun D σ H q=>by
 obtain⟨w,env,rfl,sr,er,p⟩:=q
 refine⟨w,env,rfl,sr,er,(PostS.ofR (Ra:=Rep G) er p).mono (fun x H1 m=> ?_) fun _ _ _ h=>h⟩
 obtain⟨w1,d1,rfl,x1,s1,rp1,p1⟩:=m
 exact p1 x w1 (.refl w1) rfl s1 rp1
theorem q_if {c:Expr} {a b:List Stmt} {mc:TD} {ma mb:SD} (hc:PT X c (tT G mc Wx)) (ha:PSs X a (tS G ma Wx)) (hb:PSs X b (tS G mb Wx)):PS X (.If c a b pos) (tS G (sIf mc ma mb) Wx):=psI (ps_if hc ha hb) fun D σ H q=>by
 obtain⟨w,env,rfl,sr,er,p⟩:=q
 refine⟨w,env,rfl,sr,er,(PostS.ofR (Ra:=fun _ (a b:Bool)=>a=b) er p).mono (fun x H1 m=> ?_) fun _ _ _ h=>h⟩
 obtain⟨w1,d1,rfl,x1,s1,rp1,p1⟩:=m
 subst rp1
 cases d1 with
 |true=>exact iteT ⟨w1,env,rfl,s1,er.mono x1,p1⟩
 |false=>exact iteF ⟨w1,env,rfl,s1,er.mono x1,p1⟩
theorem q_snil:PSs X [] (tS G sSkip Wx):=pssI pss_nil fun D σ H q=>by
 obtain⟨w,env,rfl,sr,er,p⟩:=q
 exact p σ w (.refl w) rfl sr er
theorem q_scons {st:Stmt} {rest:List Stmt} {a b:SD} (h1:PS X st (tS G a Wx)) (h2:PSs X rest (tS G b Wx)):PSs X (st::rest) (tS G (sSeq a b) Wx):=pssI (pss_cons h1 h2) fun D σ H q=>by
 obtain⟨w,env,rfl,sr,er,p⟩:=q
 refine⟨w,env,rfl,sr,er,?_⟩
 unfold sSeq at p
 cases h:a env w.S with
 |nx env1 S1=>
  rw[h] at p
  intro σ' w' e hs s' er'
  subst hs
  exact⟨w',env1,rfl,s',er',PostS.shift e p⟩
 |ret d S1=>rw[h] at p;exact p
 |brk env1 S1=>rw[h] at p;exact p
 |ct env1 S1=>rw[h] at p;exact p
 |exc e env1 S1=>rw[h] at p;exact p
 |bad=>rw[h] at p;exact p.elim
theorem q_sone {st:Stmt} {a:SD} (h1:PS X st (tS G a Wx)):PSs X [st] (tS G a Wx):=pss_one h1
def tG (G:GC) (g:GD):TG:=fun v σ H Q=>∃w env d,w.H=H∧SRep G w∧ERep G w env σ ∧Rep G w d v∧
 match g d env w.S with
 | .nx env' S'=>∀ σ' w',WExt w w'→w'.S=S'→SRep G w'→ERep G w' env' σ'→Q σ' w'.H
 | _=>False
theorem pgI {e:Expr} {t t':TG} (h:PG X e t) (i:∀v σ H Q,t' v σ H Q→t v σ H Q):PG X e t':=⟨fun pins s σ H v u Q I r q=>h.run pins s σ H v u Q I r (i _ _ _ _ q)⟩
theorem q_gname {e:Expr} {i:Nat} (h:PG X e (L2.gName i)):PG X e (tG G (gName i)):=pgI h fun v σ H Q q=>by
 obtain⟨w,env,d,rfl,sr,er,rp,p⟩:=q
 exact p _ w (.refl w) rfl sr (er.set i rp)
def GOk (g:GD):Prop:=∀d env S,(∃ env' S',g d env S= .nx env' S')∨g d env S= .bad
theorem q_asg {tg e:Expr} {m:ED} {g:GD} (he:PE X e (tE G m Wx)) (hg:PG X tg (tG G g)) (hs:swapsWithSole [tg] e pos.line X.env=pure false:=by rfl) (hw:swappedStores [tg] e X.env=pure none:=by rfl)
 (h1:(assignEach [tg] X.env).map (·.2)= [assign tg X.env] :=by rfl) (gn:GOk g):PS X (.Assign [tg] e pos) (tS G (sAsg m g) Wx):=psI (ps_asg he hg hs hw h1) fun D σ H q=>by
 obtain⟨w,env,rfl,sr,er,p⟩:=q
 refine⟨w,env,rfl,sr,er,(PostS.ofR (Ra:=Rep G) er p).mono (fun x H1 m=> ?_) fun _ _ _ h=>h⟩
 obtain⟨w1,d1,rfl,x1,s1,rp1,p1⟩:=m
 refine⟨w1,env,d1,rfl,s1,er.mono x1,rp1,?_⟩
 rcases gn d1 env w1.S with⟨env',S',h⟩|h
 ·rw[h] at p1 ⊢;exact p1
 ·rw[h] at p1;exact p1.elim
theorem q_set {i:Nat} {x:Str} {e:Expr} {m:ED} {pos':Pos} (hN:X.N.Nodup) (hi:X.N[i]? =some x) (hx:Loc X.env.scope x) (he:PE X e (tE G m Wx)) (hs:swapsWith e (some (.Name x pos')) pos.line X.env=pure false:=by rfl) (hf:X.fn x=true∨X.env.scope.names.lookup x=some .local:=by first|exact .inl rfl|exact .inr rfl|assumption):
 PS X (.Assign [.Name x pos'] e pos) (tS G (sAsg m (gName i)) Wx):=psI (ps_set hN hi hx he hs hf) fun D σ H q=>by
 obtain⟨w,env,rfl,sr,er,p⟩:=q
 refine⟨w,env,rfl,sr,er,(PostS.ofR (Ra:=Rep G) er p).mono (fun x H1 m=> ?_) fun _ _ _ h=>h⟩
 obtain⟨w1,d1,rfl,x1,s1,rp1,p1⟩:=m
 exact p1 _ w1 (.refl w1) rfl s1 ((er.mono x1).set i rp1)
structure ItOk (G:GC) (w:Wd) (J:It) (xs:List D):Prop where
 go:∀(T:List Addr) w',Tok T w→WX' T w w'→SRep G w'→∀(i:Nat) (d:D),xs[i]? =some d→J.go i w'.H∧∀x H'',J.yld i w'.H x H''→∃w'',w''.H=H''∧WExt w' w''∧w''.S=w'.S∧SRep G w''∧Rep G w'' d x
 stop:∀(T:List Addr) w',Tok T w→WX' T w w'→SRep G w'→J.stop xs.length w'.H
abbrev ID:=EnvD→Store→R (List D)
def tI (G:GC) (m:ID) (Wx:WX):TI:=fun σ H Rr=>∃w env,w.H=H∧SRep G w∧ERep G w env σ ∧Post G w (m env w.S) (fun w' xs (J:It)=>ItOk G w' J xs) Rr (fun C dx H'=>Wx C dx σ H')
end
end L3
namespace L3
open PySem PySem.Spec PyProof.Rows L2
def sgn (c:Nat):D:= .str ⟨#[c]⟩
def itemsD (x:D) (S:Store):R (List D):=match x with
 | .tup l=> .ok l S
 | .lst l=> .ok l S
 | .str s=> .ok (s.cps.toList.map sgn) S
 | .scr ns=> .ok (ns.map .int) S
 | .obj n=>match S[n]? with
   |some (.ptp l)=> .ok l S
   | _=> .bad
 | _=> .bad
def iSeq (a:ED):ID:=fun env S=>(a env S).bind fun x S1=>itemsD x S1
def rangeD (lo hi:Int):List D:=(List.range (hi-lo).toNat).map fun i=> .int (lo+(i:Nat))
def okRng (i:Int):Bool:=decide (-(2 ^ 62)≤i∧i<2 ^ 62)
def range1:List D→Store→R (List D):=fun xs S=>match xs with
 | [.int j] =>if okRng j then .ok (rangeD 0 j) S else .bad
 | _=> .bad
def range2:List D→Store→R (List D):=fun xs S=>match xs with
 | [.int i, .int j] =>if okRng i&&okRng j then .ok (rangeD i j) S else .bad
 | _=> .bad
def iArgs (f:List D→Store→R (List D)) (a:AD):ID:=fun env S=>(a env S).bind fun xs S1=>f xs S1
theorem piI {X:Cx} {tg e:Expr} {t t':TI} (h:PI X tg e t) (i:∀ σ H R,t' σ H R→t σ H R):PI X tg e t':=⟨fun pins s σ H R I q=>h.run pins s σ H R I (i _ _ _ q)⟩
section
variable {G:GC} {X:Cx} {Wx:WX} {pos:Pos}
theorem RepL_ints {w:Wd} :∀ {ns:List Int} {vs:List V},RepL G w (ns.map .int) vs↔vs=ns.map V.int
 | [],vs=>by simp[RepL]
 |n::ns,vs=>by
  simp only[List.map_cons,RepL,Rep]
  constructor
  ·rintro⟨v,r,rfl,rfl,h⟩;rw[RepL_ints.mp h]
  ·rintro rfl;exact⟨_,_,rfl,rfl,RepL_ints.mpr rfl⟩
theorem fr_tok {T:List Addr} {w:Wd} (h:∀a ∈ T,w.H a=none):Tok T w:=fun a ha=> .inr (h a ha)
theorem it_list {w:Wd} {a:Addr} {vs:List V} {l:List D} (h:(w.H a=some (.lst vs)∧¬Mut w a)∨Fz w a (.lst vs)∨KL G.K a vs) (r:RepL G w l vs):ItOk G w (Itl G.K a) l:=by
 have sq:∀(T:List Addr) w',Tok T w→WX' T w w'→SqL G.K w'.H a vs:=fun T w' hT x=>by
  rcases h with⟨h,nm⟩|h|h
  ·exact .inl (.inl (x.keepM hT h nm).1)
  ·exact .inl (Fz.monoT x hT h).1
  ·exact .inr h
 have inj:∀(T:List Addr) w',Tok T w→WX' T w w'→∀(i:Nat) (d:D),l[i]? =some d→∃v,vs[i]? =some v∧Rep G w' d v:=fun T w' hT x i d e=>by
  obtain⟨v,q1,q2⟩:=r.get e
  exact⟨v,q1,Rep.monoT x hT _ _ q2⟩
 refine⟨fun T w' hT x s i d e=> ?_,fun T w' hT x s=>⟨vs,sq T w' hT x,by rw[r.length];exact Nat.le_refl _⟩⟩
 obtain⟨v,q1,q2⟩:=inj T w' hT x i d e
 refine⟨⟨vs,v,sq T w' hT x,q1⟩,fun y H'' hy=> ?_⟩
 obtain⟨rfl,hy⟩:=hy
 have e2:=hy vs (sq T w' hT x)
 rw[q1] at e2;cases e2
 exact⟨w',rfl, .refl w',rfl,s,q2⟩
theorem it_tup {w:Wd} {a:Addr} {vs:List V} {l:List D} (h:TupAt G w a vs l) (r:RepL G w l vs):ItOk G w (Itt G.K a) l:=by
 have sq:∀(T:List Addr) w',Tok T w→WX' T w w'→SqT G.K w'.H a vs:=fun T w' hT x=>by
  rcases h with⟨h,nm⟩|h
  ·exact .inl (.inl (x.keepM hT h nm).1)
  ·exact .inr h.1
 refine⟨fun T w' hT x s i d e=> ?_,fun T w' hT x s=>⟨vs,sq T w' hT x,by rw[r.length];exact Nat.le_refl _⟩⟩
 obtain⟨v,q1,q2⟩:=r.get e
 refine⟨⟨vs,v,sq T w' hT x,q1⟩,fun y H'' hy=> ?_⟩
 obtain⟨rfl,hy⟩:=hy
 have e2:=hy vs (sq T w' hT x)
 rw[q1] at e2;cases e2
 exact⟨w',rfl, .refl w',rfl,s,Rep.monoT x hT _ _ q2⟩
theorem it_rng {w:Wd} {lo:Int} {n:Nat} :ItOk G w (Itr lo n) ((List.range n).map fun i=> .int (lo+(i:Nat))):=by
 refine⟨fun T w' hT x s i d e=> ?_,fun T w' hT x s=>by simp[Itr]⟩
 rw[List.getElem?_map] at e
 by_cases hi:i<n
 ·rw[List.getElem?_range hi] at e
  cases e
  refine⟨hi,fun y H'' hy=> ?_⟩
  obtain⟨rfl,rfl⟩:=hy
  exact⟨w',rfl, .refl w',rfl,s,by simp[Rep]⟩
 ·rw[List.getElem?_eq_none (by simpa using hi)] at e;cases e
theorem it_str {w:Wd} {z:Str} :ItOk G w (Its z) (z.cps.toList.map sgn):=by
 refine⟨fun T w' hT x s i d e=> ?_,fun T w' hT x s=>by simp[Its]⟩
 rw[List.getElem?_map] at e
 cases q:z.cps.toList[i]? with
 |none=>rw[q] at e;cases e
 |some c=>
  rw[q] at e
  cases e
  have hi:i<z.cps.size:=by simpa using(List.getElem?_eq_some_iff.mp q).1
  refine⟨hi,fun y H'' hy=> ?_⟩
  obtain⟨rfl,c',h1,rfl⟩:=hy
  have:c'=c:=by
   have h2:z.cps.toList[i]? =some c':=by simpa using h1
   rw[h2] at q;exact Option.some.inj q
  subst this
  exact⟨w',rfl, .refl w',rfl,s,by simp[Rep,sgn]⟩
theorem it_ptp {w:Wd} {a:Addr} {o:Obj} {vs:List V} {l:List D} (h:w.H a=some (.frz o (.tup vs))∧¬Mut w a) (r:RepL G w l vs):ItOk G w (Itt G.K a) l:=by
 have sq:∀(T:List Addr) w',Tok T w→WX' T w w'→SqT G.K w'.H a vs:=fun T w' hT x=> .inl (.inr ⟨o,(x.keepM hT h.1 h.2).1⟩)
 refine⟨fun T w' hT x s i d e=> ?_,fun T w' hT x s=>⟨vs,sq T w' hT x,by rw[r.length];exact Nat.le_refl _⟩⟩
 obtain⟨v,q1,q2⟩:=r.get e
 refine⟨⟨vs,v,sq T w' hT x,q1⟩,fun y H'' hy=> ?_⟩
 obtain⟨rfl,hy⟩:=hy
 have e2:=hy vs (sq T w' hT x)
 rw[q1] at e2;cases e2
 exact⟨w',rfl, .refl w',rfl,s,Rep.monoT x hT _ _ q2⟩
theorem q_iter {tg e:Expr} {m:ED} (hK:X.K=G.K) (h:PE X e (tE G m Wx)):PI X tg e (tI G (iSeq m) Wx):=by
 refine⟨fun pins s σ H R I q=> ?_⟩
 obtain⟨w,env,rfl,sr,er,p⟩:=q
 refine thn (h.run pins s σ w.H _ I ⟨w,env,rfl,sr,er,Post.bind p⟩) fun v s1 ⟨x,H1,I1,r1,q1⟩=> ?_
 obtain⟨w1,d1,rfl,x1,sr1,rp1,p1⟩:=q1
 have lst:∀ {a:Addr} {vs:List V},SqL X.K w1.H a vs→R (Itl G.K a) w1.H→wpAny (model X.prog X.w) X.A (pyIter (.ref a)) (PIE X pins σ tg R) X.xe s1:=fun {a vs} hq q=>by
  obtain⟨its,rv,p,hz⟩:=I1.list hq
  refine wpAny_pyIter_list p.isList ?_
  refine⟨s1.heap.objs.size,[s1.heap.objs.size],_,_,w1.H,rfl,I1.kept (t':=s1.toks) fun b o e=>Heap.get?_push_of_some _ e,turn_list a _,⟨_,Heap.get?_push_size _ rfl,rfl,rfl⟩,fun b hb=> ?_,by rw[hK];exact q⟩
  have e:b=s1.heap.objs.size:=by simpa using hb
  subst e
  exact I1.fpOk (Nat.le_refl _) (I1.hok.fresh (Nat.le_refl _))
 cases d1 with
 |tup l=>
  simp only[Rep] at rp1
  obtain⟨a,vs,rfl,hq,rl⟩:=rp1
  cases r1
  have q:=p1 (Itt G.K a) w1 (.refl _) rfl sr1 (it_tup hq rl)
  have hq':SqT X.K w1.H a vs:=by rw[hK];exact hq.imp (fun z=> .inl z.1) (fun z=>z.1)
  obtain⟨its,rv,p,hz⟩:=I1.tuple hq'
  refine wpAny_pyIter_tuple (show s1.heap.IsTuple a its.toArray from p) ?_
  refine⟨s1.heap.objs.size,[s1.heap.objs.size],_,_,w1.H,rfl,I1.kept (t':=s1.toks) fun b o e=>Heap.get?_push_of_some _ e,turn_tuple a _,⟨_,Heap.get?_push_size _ rfl,rfl,rfl⟩,fun b hb=> ?_,by rw[hK];exact q⟩
  have e:b=s1.heap.objs.size:=by simpa using hb
  subst e
  exact I1.fpOk (Nat.le_refl _) (I1.hok.fresh (Nat.le_refl _))
 |lst l=>
  simp only[Rep] at rp1
  obtain⟨a,vs,rfl,hq,nm,rl⟩:=rp1
  cases r1
  exact lst (vs:=vs) (.inl (.inl hq)) (p1 (Itl G.K a) w1 (.refl _) rfl sr1 (it_list (.inl ⟨hq,nm⟩) rl))
 |scr ns=>
  simp only[Rep] at rp1
  obtain⟨a,rfl,hq⟩:=rp1
  cases r1
  exact lst (vs:=ns.map V.int) (by rw[hK];exact hq.imp (fun z=>z.1) id) (p1 (Itl G.K a) w1 (.refl _) rfl sr1 (it_list (.inr hq) (RepL_ints.mpr rfl)))
 |str z=>
  simp only[Rep] at rp1
  subst rp1
  obtain⟨t,rfl⟩:=r1
  have q:=p1 (Its z) w1 (.refl _) rfl sr1 it_str
  cases ha:z.cps.all (· <128)
  ·exact wpAny_pyIter_wide ha (pi_one (tk:=s1.toks) I1 _ (turn_str _ z t "str_iterator" (.inr rfl)) ⟨_,Heap.get?_push_size _ rfl,rfl,rfl⟩ q)
  ·exact wpAny_pyIter_ascii ha (pi_one (tk:=s1.toks) I1 _ (turn_str _ z t "str_ascii_iterator" (.inl rfl)) ⟨_,Heap.get?_push_size _ rfl,rfl,rfl⟩ q)
 |obj n=>
  simp only[itemsD] at p1
  split at p1
  ·rename_i l hn
   simp only[Rep] at rp1
   obtain⟨a,hm,rfl⟩:=rp1
   obtain⟨o,vs,hq,_,rl⟩:=sr1.obj n _ a hn hm
   cases r1
   have q:=p1 (Itt G.K a) w1 (.refl _) rfl sr1 (it_ptp hq rl)
   have hq':SqT X.K w1.H a vs:= .inl (.inr ⟨o,hq.1⟩)
   obtain⟨its,rv,p,hz⟩:=I1.tuple hq'
   refine wpAny_pyIter_tuple (show s1.heap.IsTuple a its.toArray from p) ?_
   refine⟨s1.heap.objs.size,[s1.heap.objs.size],_,_,w1.H,rfl,I1.kept (t':=s1.toks) fun b o e=>Heap.get?_push_of_some _ e,turn_tuple a _,⟨_,Heap.get?_push_size _ rfl,rfl,rfl⟩,fun b hb=> ?_,by rw[hK];exact q⟩
   have e:b=s1.heap.objs.size:=by simpa using hb
   subst e
   exact I1.fpOk (Nat.le_refl _) (I1.hok.fresh (Nat.le_refl _))
  ·exact p1.elim
 | _=>exact p1.elim
theorem q_range1 {tg a:Expr} {m:AD} {p:Pos} (hg:Gl X "range") (hm:X.mg "range" =none) (ha:PA X [a] (tA G m Wx)) (hs:starEach [a] X.env= [(false,eval a X.env)] :=by rfl):PI X tg (.Call (.Name "range" p) [a] [] pos) (tI G (iArgs range1 m) Wx):=piI (pi_range1 hg hm ha hs) fun σ H R q=>by
 obtain⟨w,env,rfl,sr,er,p⟩:=q
 refine⟨w,env,rfl,sr,er,(Post.bind p).mono (fun x H1 m=> ?_) fun _ _ _ h=>h⟩
 obtain⟨w1,d1,rfl,x1,s1,rp1,p1⟩:=m
 unfold range1 at p1
 split at p1
 ·rename_i j
  split at p1
  ·rename_i hj
   have hj: -(2 ^ 62)≤j∧j<2 ^ 62:=by simpa[okRng] using hj
   simp only[RepL,Rep] at rp1
   obtain⟨v,r,rfl,rfl,rfl⟩:=rp1
   refine⟨j,rfl,hj.1,hj.2,?_⟩
   have q:=p1 (Itr 0 j.toNat) w1 (.refl _) rfl s1 (by have:=it_rng (G:=G) (w:=w1) (lo:=0) (n:=j.toNat);simpa[rangeD] using this)
   exact q
  ·exact p1.elim
 ·exact p1.elim
def sFor (mi:ID) (g:GD) (body:SD):SD:=fun env S=>(mi env S).toS env fun xs S1=>forL g body xs env S1
theorem q_for {tg iter:Expr} {body:List Stmt} {mi:ID} {g:GD} {mb:SD} (hp:PassesOwn (model X.prog X.w) X.A X.env X.xe) (hc:X.calm=true) (hi:PI X tg iter (tI G mi Wx)) (hg:PG X tg (tG G g)) (hb:PSs X body (tS G mb Wx))
 (hs:∀x,foldedSetIterable iter X.env x=pure x:=by intro _;rfl):PS X (.For tg iter body [] pos) (tS G (sFor mi g mb) Wx):=psI (ps_for hp hc hi hg hb hs) fun D σ H q=>by
 obtain⟨w,env,rfl,sr,er,p⟩:=q
 refine⟨w,env,rfl,sr,er,(PostS.ofR (Ra:=fun w' xs (J:It)=>ItOk G w' J xs) er p).mono (fun J H1 m=> ?_) fun _ _ _ h=>h⟩
 obtain⟨w1,xs,rfl,x1,s1,io,p1⟩:=m
 refine⟨fun i m σ H=>∃w env,w.H=H∧SRep G w∧ERep G w env σ ∧WExt w1 w∧i+m=xs.length∧PostS G w (forL g mb (xs.drop i) env w.S) D Wx,⟨xs.length,w1,env,rfl,s1,er.mono x1, .refl _,by omega,by simpa using p1⟩,fun i m σ H hW=> ?_⟩
 obtain⟨w2,env2,rfl,s2,er2,x2,em,p2⟩:=hW
 by_cases hi:i<xs.length
 ·have e:xs[i]? =some xs[i] :=List.getElem?_eq_getElem hi
  rw[List.drop_eq_getElem_cons hi] at p2
  obtain⟨go,yl⟩:=io.go [] w2 (fun a h=>by simp at h) x2 s2 i xs[i] e
  refine .inr ⟨go,fun σ' H'=>∃w env,w.H=H'∧SRep G w∧ERep G w env σ'∧WExt w1 w∧(i+1)+(m-1)=xs.length∧PostS G w (forL g mb (xs.drop (i+1)) env w.S) D Wx,fun σ' H' hN=>⟨m-1,by omega,hN⟩,fun x H' hy=> ?_⟩
  obtain⟨w3,rfl,x3,eS,s3,rp3⟩:=yl x H' hy
  refine⟨w3,env2,xs[i],rfl,s3,er2.mono x3,rp3,?_⟩
  rw[forL] at p2
  rw[eS]
  cases hg2:g xs[i] env2 w2.S with
  |nx env4 S4=>
   rw[hg2] at p2
   intro σ4 w4 x4 e4 s4 er4
   subst e4
   refine⟨w4,env4,rfl,s4,er4,?_⟩
   have x24:WExt w1 w4:=WX'.trans (WX'.trans x2 x3) x4
   have p3:=PostS.shift (WX'.trans x3 x4) p2
   cases hb4:mb env4 w4.S with
   |nx env5 S5=>
    simp only[hb4] at p3
    intro σ5 w5 x5 e5 s5 er5
    subst e5
    exact⟨w5,env5,rfl,s5,er5,WX'.trans x24 x5,by omega,PostS.shift x5 p3⟩
   |ct env5 S5=>
    simp only[hb4] at p3
    intro σ5 w5 x5 e5 s5 er5
    subst e5
    exact⟨w5,env5,rfl,s5,er5,WX'.trans x24 x5,by omega,PostS.shift x5 p3⟩
   |brk env5 S5=>simp only[hb4] at p3;exact p3
   |ret d S5=>simp only[hb4] at p3;exact p3
   |exc e env5 S5=>simp only[hb4] at p3;exact p3
   |bad=>simp only[hb4] at p3;exact p3.elim
  |ret _ _=>rw[hg2] at p2;exact p2.elim
  |brk _ _=>rw[hg2] at p2;exact p2.elim
  |ct _ _=>rw[hg2] at p2;exact p2.elim
  |exc _ _ _=>rw[hg2] at p2;exact p2.elim
  |bad=>rw[hg2] at p2;exact p2.elim
 ·have ei:i=xs.length:=by omega
  subst ei
  refine .inl ⟨io.stop [] w2 (fun a h=>by simp at h) x2 s2,?_⟩
  rw[List.drop_length] at p2
  exact p2 σ w2 (.refl _) rfl s2 er2
end
end L3
namespace L3
open PySem PySem.Spec PyProof.Rows L2
def R.nox {α :Type} (r:R α):R α :=match r with
 | .ok a S=> .ok a S
 | _=> .bad
def wipeD (env:EnvD):List Nat→EnvD
 | [] =>env
 |v::vs=>(wipeD env vs).set v none
def tYesD:TD:=fun _ S=> .ok true S
def lcL (g:GD) (tt:TD) (te:ED) (env:EnvD):List D→Store→R (List D)
 | [],S=> .ok [] S
 |x::xs,S=>match g x env S with
  | .nx env1 S1=>(tt env1 S1).nox.bind fun k S2=>match k with
    |true=>(te env1 S2).nox.bind fun y S3=>(lcL g tt te env xs S3).bind fun ys S4=> .ok (y::ys) S4
    |false=>lcL g tt te env xs S2
  | _=> .bad
def eLc (mi:ID) (vs:List Nat) (g:GD) (tt:TD) (te:ED):ED:=fun env S=>(mi env S).bind fun xs S1=>
 if xs.length≤sizeLine then(lcL g tt te (wipeD env vs) xs S1).bind fun ys S2=> .ok (.lst ys) S2 else .bad
theorem R.bind_ok {α :Type} (r:R α):(r.bind fun a S=> .ok a S)=r:=by cases r<;>rfl
section
variable {G:GC} {X:Cx} {Wx:WX} {pos:Pos}
theorem ERep.unset {w:Wd} {env:EnvD} {σ :L2.St} (i:Nat) (h:ERep G w env σ):ERep G w (env.set i none) (σ.set i none):=by
 refine⟨by simp[h.len],fun j d' e=> ?_⟩
 by_cases hj:i=j
 ·subst hj
  by_cases hi:i<env.length
  ·rw[List.getElem?_set_self hi] at e;cases e
  ·rw[List.getElem?_eq_none (by simpa using hi)] at e;cases e
 ·rw[List.getElem?_set_ne hj] at e ⊢
  exact h.at' j d' e
theorem ERep.wipe {w:Wd} {env:EnvD} {σ :L2.St} (h:ERep G w env σ):∀vs:List Nat,ERep G w (wipeD env vs) (L2.wipe σ vs)
 | [] =>h
 |v::vs=>(ERep.wipe h vs).unset v
theorem wipe_set {σ :L2.St} {i:Nat} {x:Option V} :∀ {vs:List Nat},i ∈ vs→L2.wipe (σ.set i x) vs=L2.wipe σ vs
 | [],h=>by simp at h
 |v::vs,h=>by
  show(L2.wipe (σ.set i x) vs).set v none=(L2.wipe σ vs).set v none
  by_cases hi:i ∈ vs
  ·rw[wipe_set hi]
  ·have hv:i=v:=by simpa[hi] using h
   subst hv
   have:∀ {us:List Nat} {τ :L2.St},i ∉ us→L2.wipe (τ.set i x) us=(L2.wipe τ us).set i x:=by
    intro us
    induction us with
    |nil=>intro τ _;rfl
    |cons u us ih=>
     intro τ hu
     have h1:i≠u:=fun e=>hu (by simp[e])
     have h2:i ∉ us:=fun e=>hu (by simp[e])
     show(L2.wipe (τ.set i x) us).set u none=((L2.wipe τ us).set u none).set i x
     rw[ih h2,List.set_comm _ _ h1]
   rw[this hi,List.set_set]
theorem wipe_sub {σ :L2.St} {vs:List Nat} :∀ {us:List Nat},(∀ i ∈ us,i ∈ vs)→L2.wipe (L2.wipe σ us) vs=L2.wipe σ vs
 | [],_=>rfl
 |u::us,h=>by
  show L2.wipe ((L2.wipe σ us).set u none) vs=_
  rw[wipe_set (h u (by simp)),wipe_sub fun i hi=>h i (by simp[hi])]
mutual
theorem Rep.untmp {w:Wd} {t:List Addr} (ht:∀a ∈ t,a ∈ w.tmp):∀(d:D) (v:V),Rep G w d v→Rep G { w with tmp:=t } d v
 | .non,v,h=>by simpa only[Rep] using h
 | .bl b,v,h=>by simpa only[Rep] using h
 | .int i,v,h=>by simpa only[Rep] using h
 | .str s,v,h=>by simpa only[Rep] using h
 | .tup l,v,h=>by
   simp only[Rep] at h ⊢
   obtain⟨a,vs,e,h1,h2⟩:=h
   exact⟨a,vs,e,h1.imp (fun z=>⟨z.1,fun m=>z.2 (m.imp id (ht a))⟩) id,RepL.untmp ht l vs h2⟩
 | .lst l,v,h=>by
   simp only[Rep] at h ⊢
   obtain⟨a,vs,e,h1,nm,h2⟩:=h
   exact⟨a,vs,e,h1,fun m=>nm (m.imp id (ht a)),RepL.untmp ht l vs h2⟩
 | .dic ks l,v,h=>by
   simp only[Rep] at h ⊢
   obtain⟨a,vs,e,h1,nm,hl,h2⟩:=h
   exact⟨a,vs,e,h1,fun m=>nm (m.imp id (ht a)),hl,RepL.untmp ht l vs h2⟩
 | .obj n,v,h=>by simpa only[Rep] using h
 | .glb y,v,h=>by simpa only[Rep] using h
 | .wtp _,v,h=>by simpa only[Rep] using h
 | .ty n,v,h=>by simpa only[Rep] using h
 | .scr ns,v,h=>by
   simp only[Rep] at h ⊢
   obtain⟨a,e,h1⟩:=h
   exact⟨a,e,h1.imp (fun z=>⟨z.1,fun m=>z.2 (m.imp id (ht a))⟩) id⟩
 | .kd ks l,v,h=>by
   simp only[Rep] at h ⊢
   obtain⟨a,es,n,vs,us,e,h1,h2,h3,h4,ke,h5⟩:=h
   exact⟨a,es,n,vs,us,e,h1,h2,h3,h4,ke,RepL.untmp ht l vs h5⟩
 | .lam t l,v,h=>by
   simp only[Rep] at h ⊢
   exact⟨h.1,⟨h.2.1.1,fun m=>h.2.1.2 (m.imp id (ht t.c))⟩,RepL.untmp ht l t.vs h.2.2⟩
 | .xcp c ks l,v,h=>by
   simp only[Rep] at h ⊢
   obtain⟨a,C,dx,vs,e,h1,⟨h2,nm⟩,h3,h4,h5⟩:=h
   exact⟨a,C,dx,vs,e,h1,⟨h2,fun m=>nm (m.imp id (ht a))⟩,h3,h4.imp id fun⟨d,e1,e2,nd⟩=>⟨d,e1,e2,fun m=>nd (m.imp id (ht d))⟩,RepL.untmp ht l vs h5⟩
theorem RepL.untmp {w:Wd} {t:List Addr} (ht:∀a ∈ t,a ∈ w.tmp):∀(d:List D) (v:List V),RepL G w d v→RepL G { w with tmp:=t } d v
 | [],v,h=>by simpa only[RepL] using h
 |d::ds,v,h=>by
  simp only[RepL] at h ⊢
  obtain⟨y,r,e,h1,h2⟩:=h
  exact⟨y,r,e,Rep.untmp ht d y h1,RepL.untmp ht ds r h2⟩
end
theorem RepKV.untmp {κ :Type} {w:Wd} {t:List Addr} (ht:∀a ∈ t,a ∈ w.tmp):∀(d:List (κ × D)) (v:List (κ × V)),RepKV G w d v→RepKV G { w with tmp:=t } d v
 | [],v,h=>h
 |d::ds,v,h=>by
  obtain⟨y,r,e,h1,h2⟩:=h
  exact⟨y,r,e,Rep.untmp ht _ y h1,RepKV.untmp ht ds r h2⟩
theorem RepN.untmp {w:Wd} {t:List Addr} (ht:∀a ∈ t,a ∈ w.tmp):∀(d:List (NestedKey × D)) (v:List NRow),RepN G w d v→RepN G { w with tmp:=t } d v
 | [],v,h=>h
 |d::ds,v,h=>by
  obtain⟨b,u,y,e,h1,h2,h3,h4⟩:=h
  exact⟨b,u,y,e,Rep.untmp ht _ _ h1,h2,Rep.untmp ht _ u h3,RepN.untmp ht ds y h4⟩
theorem ORep.untmp {w:Wd} {t:List Addr} (ht:∀a ∈ t,a ∈ w.tmp) {a:Addr} :∀ {ob:O},ORep G w a ob→ORep G { w with tmp:=t } a ob
 | .lst _,⟨vs,h1,h2⟩=>⟨vs,h1,RepL.untmp ht _ _ h2⟩
 | .dK _,⟨vs,h1,h2⟩=>⟨vs,h1,RepKV.untmp ht _ _ h2⟩
 | .dT _,⟨vs,h1,h2⟩=>⟨vs,h1,RepKV.untmp ht _ _ h2⟩
 | .dN _,⟨vs,h1,h2⟩=>⟨vs,h1,RepN.untmp ht _ _ h2⟩
 | .ins _ _,⟨C,dx,vs,h1,h2,h3⟩=>⟨C,dx,vs,h1,RepKV.untmp ht _ _ h2,h3⟩
 | .ptp _,⟨o,vs,⟨h1,nm⟩,h2,h3⟩=>⟨o,vs,⟨h1,fun m=>nm (m.imp id (ht a))⟩,h2,RepL.untmp ht _ _ h3⟩
 | .dead,_=>trivial
 | .tab _ _,⟨h0,ps,h1,h2,h3⟩=>⟨h0,ps,h1,h2,fun pos cv hc=>let⟨c,e1,e2⟩:=h3 pos cv hc;⟨c,e1,e2.1,fun m=>e2.2 (m.imp id (ht c))⟩⟩
theorem SRep.untmp {w:Wd} {t:List Addr} (ht:∀a ∈ t,a ∈ w.tmp) (s:SRep G w):SRep G { w with tmp:=t } :=
 ⟨s.len,s.inj,fun n ob a h1 h2=>ORep.untmp ht (s.obj n ob a h1 h2),fun a ha=>s.tm a (ht a ha)⟩
def tGW (G:GC) (g:GD) (vs:List Nat):TG:=fun v σ H Q=>∃w env d,w.H=H∧SRep G w∧ERep G w env σ ∧Rep G w d v∧
 match g d env w.S with
 | .nx env' S'=>∀ σ' w',WExt w w'→w'.S=S'→SRep G w'→ERep G w' env' σ'→L2.wipe σ' vs=L2.wipe σ vs→Q σ' w'.H
 | _=>False
theorem q_gnameW {e:Expr} {i:Nat} {vs:List Nat} (h:PG X e (L2.gName i)) (hv:i ∈ vs):PG X e (tGW G (gName i) vs):=pgI h fun v σ H Q q=>by
 obtain⟨w,env,d,rfl,sr,er,rp,p⟩:=q
 exact p _ w (.refl w) rfl sr (er.set i rp) (wipe_set hv)
theorem imp_lc {mi:ID} {vs:List Nat} {g:GD} {tt:TD} {te:ED} :∀ σ H Q,tE G (eLc mi vs g tt te) Wx σ H Q→tLc (tI G mi Wx) (tGW G g vs) (tT G tt WF) (tE G te WF) vs σ H Q:=by
 intro σ H Q q
 obtain⟨w,env,rfl,sr,er,p⟩:=q
 refine⟨w,env,rfl,sr,er,(Post.bind (Ra:=fun w' xs (J:It)=>ItOk G w' J xs) p).mono (fun J H1 m=> ?_) fun _ _ _ h=>h⟩
 obtain⟨w1,xs,rfl,x1,s1,io,p1⟩:=m
 intro L hL
 have hfr:∀a ∈ [L],w1.H a=none:=fun a h=>by have:a=L:=by simpa using h
                                            rw[this];exact hL
 by_cases hz:xs.length≤sizeLine
 ·rw[if_pos hz] at p1
  have er1:=(er.mono x1).wipe vs
  have h0:WX' [L] w1 ⟨w1.mu,w1.S,upd w1.H L (.lst []),L::w1.tmp⟩:=
   ⟨fun _ _ h=>h,fun a o h nm ha=>⟨(upd_ne (by simpa using ha)).trans h,nm⟩,fun a h=>by
     rcases List.mem_cons.mp h with e|h
     ·exact .inr (by simp[e])
     ·exact .inl h,fun a h=>List.mem_cons_of_mem _ h⟩
  have nL: ¬MutS w1 L:=fun m=>by obtain⟨u,e⟩:=MutS.there s1 m;rw[hL] at e;cases e
  have sW:SRep G ⟨w1.mu,w1.S,upd w1.H L (.lst []),L::w1.tmp⟩:=by
   refine⟨s1.len,s1.inj,fun n ob a h1 h2=> ?_,fun a ha=> ?_⟩
   ·have h:=s1.obj n ob a h1 h2
    refine h.keep h0 (fr_tok hfr) fun lv=> ?_
    obtain⟨u,e⟩:=h.there lv
    exact upd_ne (ne_of_none e hL)
   ·rcases List.mem_cons.mp ha with e|ha
    ·subst e;exact⟨⟨⟨_,by first|assumption|(intro _ h;cases h)⟩,upd_same⟩,nL⟩
    ·obtain⟨⟨u,e⟩,nm⟩:=s1.tm a ha
     exact⟨⟨u,(upd_ne (ne_of_none e hL)).trans e⟩,nm⟩
  refine⟨fun i m H=>∃w3 acc us,w3.H=H∧SRep G w3∧WX' [L] w1 w3∧L ∈ w3.tmp∧w3.H L=some (.lst us)∧RepL G w3 acc us∧acc.length≤i∧i+m=xs.length∧
   (lcL g tt te (wipeD env vs) xs w1.S)=(lcL g tt te (wipeD env vs) (xs.drop i) w3.S).bind fun ys S2=> .ok (acc++ys) S2,
   ⟨xs.length,_,[],[],rfl,sW,h0,by simp,upd_same,by simp[RepL],Nat.le_refl _,by omega,?_⟩,fun i m H hW=> ?_⟩
  ·simp only[List.drop_zero,List.nil_append,R.bind_ok]
  obtain⟨w3,acc,us,rfl,s3,x3,tm3,hL3,ra3,hlen,em,eq⟩:=hW
  rw[eq] at p1
  by_cases hi:i<xs.length
  ·have e:xs[i]? =some xs[i] :=List.getElem?_eq_getElem hi
   obtain⟨go,yl⟩:=io.go [L] w3 (fr_tok hfr) x3 s3 i xs[i] e
   refine .inr ⟨go,fun H'=>∃w5 acc us,w5.H=H'∧SRep G w5∧WX' [L] w1 w5∧L ∈ w5.tmp∧w5.H L=some (.lst us)∧RepL G w5 acc us∧acc.length≤i+1∧(i+1)+(m-1)=xs.length∧
    (lcL g tt te (wipeD env vs) xs w1.S)=(lcL g tt te (wipeD env vs) (xs.drop (i+1)) w5.S).bind fun ys S2=> .ok (acc++ys) S2,fun H' hN=>⟨m-1,by omega,hN⟩,fun x H' hy=> ?_⟩
   obtain⟨w4,rfl,x4,eS4,s4,rp4⟩:=yl x H' hy
   have x14:WX' [L] w1 w4:=WX'.trans x3 (WX'.wide x4)
   refine⟨w4,wipeD env vs,xs[i],rfl,s4,er1.monoT x14 (fr_tok hfr),rp4,?_⟩
   rw[List.drop_eq_getElem_cons hi,lcL] at eq p1
   rw[eS4]
   cases hg:g xs[i] (wipeD env vs) w3.S with
   |nx env5 S5=>
    rw[hg] at eq p1
    simp only at eq p1
    intro σ5 w5 x5 e5 s5 er5 hw
    subst e5
    refine⟨hw.trans (wipe_sub fun _ h=>h),w5,env5,rfl,s5,er5,?_⟩
    cases ht:tt env5 w5.S with
    |ok k S6=>
     rw[ht] at eq p1
     simp only[R.nox,R.bind] at eq p1
     intro b w6 x6 e6 s6 hb
     subst hb e6
     have x46:WExt w4 w6:=WX'.trans x5 x6
     have x16:WX' [L] w1 w6:=WX'.trans x14 (WX'.wide x46)
     have hL6:w6.H L=some (.lst us):=(x46.keep L _ ((x4.keep L _ hL3 ((s3.tm L tm3).2) (by simp)).1) ((s4.tm L (x4.tmp' L tm3)).2) (by simp)).1
     have tm6:L ∈ w6.tmp:=x46.tmp' L (x4.tmp' L tm3)
     have ra6:RepL G w6 acc us:=RepL.mono (WX'.trans x4 x46) _ _ ra3
     cases k with
     |false=>
      refine iteF ⟨w6,acc,us,rfl,s6,x16,tm6,hL6,ra6,by omega,by omega,?_⟩
      simpa using eq
     |true=>
      refine iteT ⟨w6,env5,rfl,s6,er5.mono x6,?_⟩
      simp only at eq p1
      cases hte:te env5 w6.S with
      |ok y S7=>
       rw[hte] at eq p1
       simp only[R.nox,R.bind] at eq p1
       intro v w7 x7 e7 s7 r7
       subst e7
       have hL7:w7.H L=some (.lst us):=(x7.keep L _ hL6 ((s6.tm L tm6).2) (by simp)).1
       have tm7:L ∈ w7.tmp:=x7.tmp' L tm6
       have nm7: ¬MutS w7 L:=(s7.tm L tm7).2
       have lu:us.length=acc.length:=ra3.length
       refine⟨us,hL7,by omega,?_⟩
       have x8:WX' [L] w7 (w7.put L (.lst (us++ [v]))):=⟨fun _ _ h=>h,fun a o h nm ha=>⟨(upd_ne (by simpa using ha)).trans h,nm⟩,fun a h=> .inl h,fun a h=>h⟩
       have t8:Tok [L] w7:=fun a h=> .inl (by have:a=L:=by simpa using h
                                              rw[this];exact tm7)
       have s8:SRep G (w7.put L (.lst (us++ [v]))):=by
        refine⟨s7.len,s7.inj,fun n ob a h1 h2=> ?_,fun a ha=> ?_⟩
        ·have h:=s7.obj n ob a h1 h2
         exact h.keep x8 t8 fun lv=>upd_ne fun e=>nm7 (by subst e;exact⟨n,ob,h1,lv,h2⟩)
        ·obtain⟨⟨u,e⟩,nm⟩:=s7.tm a ha
         by_cases ea:a=L
         ·subst ea;exact⟨⟨⟨_,by first|assumption|(intro _ h;cases h)⟩,upd_same⟩,nm⟩
         ·exact⟨⟨u,(upd_ne ea).trans e⟩,nm⟩
       refine⟨_,acc++ [y],us++ [v],rfl,s8,WX'.trans (WX'.trans x16 (WX'.wide x7)) x8,tm7,upd_same,?_,by simp;omega,by omega,?_⟩
       ·exact(RepL.monoT x8 t8 _ _ (RepL.mono x7 _ _ ra6)).append (RepL.one (Rep.monoT x8 t8 _ _ r7))
       ·rw[eq]
        show _=(lcL g tt te (wipeD env vs) (List.drop (i+1) xs) w7.S).bind _
        cases lcL g tt te (wipeD env vs) (List.drop (i+1) xs) w7.S<;>simp[R.bind]
      |exc ee S7=>rw[hte] at p1;exact p1.elim
      |bad=>rw[hte] at p1;exact p1.elim
    |exc ee S6=>rw[ht] at p1;exact p1.elim
    |bad=>rw[ht] at p1;exact p1.elim
   |ret _ _=>rw[hg] at p1;exact p1.elim
   |brk _ _=>rw[hg] at p1;exact p1.elim
   |ct _ _=>rw[hg] at p1;exact p1.elim
   |exc _ _ _=>rw[hg] at p1;exact p1.elim
   |bad=>rw[hg] at p1;exact p1.elim
  ·have ei:i=xs.length:=by omega
   subst ei
   refine .inl ⟨io.stop [L] w3 (fr_tok hfr) x3 s3,?_⟩
   rw[List.drop_length] at p1
   have we:WExt w1 { w3 with tmp:=w1.tmp } :=⟨x3.mu,fun a o h nm _=>x3.keep a o h nm (by
    intro ha
    have:a=L:=by simpa using ha
    rw[this,hL] at h;cases h),fun a h=> .inl h,fun a h=>h⟩
   have tinc:∀a,a ∈ w1.tmp→a ∈ w3.tmp:=x3.tmp'
   have se:SRep G { w3 with tmp:=w1.tmp } :=s3.untmp tinc
   have nmL: ¬Mut { w3 with tmp:=w1.tmp } L:=fun m=>m.elim (s3.tm L tm3).2 fun z=>by
    obtain⟨⟨u,e⟩,_⟩:=s1.tm L z
    rw[hL] at e;cases e
   have hr:Rep G { w3 with tmp:=w1.tmp } (.lst (acc++ [])) (.ref L):=by
    simp only[Rep,List.append_nil]
    exact⟨L,us,rfl,hL3,nmL,RepL.untmp tinc _ _ ra3⟩
   exact p1 (.ref L) { w3 with tmp:=w1.tmp } we rfl se hr
 ·rw[if_neg hz] at p1;exact p1.elim
theorem q_lc {elt tg iter:Expr} {ifs:List Expr} {scope:Scope} {own:List (Str × Nat)} {mi:ID} {g:GD} {mt:TD} {me:ED} (hc:X.calm=true) (hN:X.N.Nodup) (hi:PI X tg iter (tI G mi Wx)) (ok:BlkOk X.N X.env.scope scope own)
 (hg:∀(s:Shared) (H:Hp) (C:Addr) (cl:List (Str × Addr)) (fp:List Addr),PG (X.blk s H scope (compEnvC scope cl C X.env) fp) tg (tGW G g (own.map (·.2))))
 (ht:∀(s:Shared) (H:Hp) (C:Addr) (cl:List (Str × Addr)) (fp:List Addr),PTs (X.blk s H scope (compEnvC scope cl C X.env) fp) ifs (tT G mt WF))
 (he:∀(s:Shared) (H:Hp) (C:Addr) (cl:List (Str × Addr)) (fp:List Addr),PE (X.blk s H scope (compEnvC scope cl C X.env) fp) elt (tE G me WF)) (hs:∀x,foldedSetIterable iter X.env x=pure x:=by intro _;rfl):
 PE X (.ListComp elt [⟨tg,iter,ifs,0⟩] scope pos) (tE G (eLc mi (own.map (·.2)) g mt me) Wx):=peI (pe_lc hc hN hi ok hg ht he hs) imp_lc
theorem q_setLc {i:Nat} {y:Str} {py:Pos} {elt tg iter:Expr} {ifs:List Expr} {scope:Scope} {own:List (Str × Nat)} {spos:Pos} {mi:ID} {g:GD} {mt:TD} {me:ED} (hc:X.calm=true) (hN:X.N.Nodup) (hy:X.N[i]? =some y) (hyl:X.env.scope.names.lookup y=some .local)
 (hsw:swapsWith (.ListComp elt [⟨tg,iter,ifs,0⟩] scope pos) (some (.Name y py)) spos.line X.env=pure true) (hi:PI X tg iter (tI G mi Wx)) (ok:BlkOk X.N X.env.scope scope own)
 (hg:∀(s:Shared) (H:Hp) (C:Addr) (cl:List (Str × Addr)) (fp:List Addr),PG (X.blk s H scope (compEnvC scope cl C X.env) fp) tg (tGW G g (own.map (·.2))))
 (ht:∀(s:Shared) (H:Hp) (C:Addr) (cl:List (Str × Addr)) (fp:List Addr),PTs (X.blk s H scope (compEnvC scope cl C X.env) fp) ifs (tT G mt WF))
 (he:∀(s:Shared) (H:Hp) (C:Addr) (cl:List (Str × Addr)) (fp:List Addr),PE (X.blk s H scope (compEnvC scope cl C X.env) fp) elt (tE G me WF)) (hs:∀x,foldedSetIterable iter X.env x=pure x:=by intro _;rfl):
 PS X (.Assign [.Name y py] (.ListComp elt [⟨tg,iter,ifs,0⟩] scope pos) spos) (tS G (sAsg (eLc mi (own.map (·.2)) g mt me) (gName i)) Wx):=psI (ps_setLc hc hN hy hyl hsw hi ok hg ht he hs) fun D σ H q=>by
 obtain⟨w,env,rfl,sr,er,p⟩:=q
 refine imp_lc (Wx:=Wx) σ w.H _ ⟨w,env,rfl,sr,er,(PostS.ofR (Ra:=Rep G) er p).mono (fun x H1 m=> ?_) fun _ _ _ h=>h⟩
 obtain⟨w1,d1,rfl,x1,s1,rp1,p1⟩:=m
 exact p1 _ w1 (.refl w1) rfl s1 ((er.mono x1).set i rp1)
theorem q_tnil:PTs X [] (tT G tYesD WF):=⟨fun pins s σ H Q I q=>by
 obtain⟨w,env,rfl,sr,er,p⟩:=q
 exact pts_nil.run pins s σ w.H Q I (Post.ret (Ra:=fun _ (a b:Bool)=>a=b) sr rfl p)⟩
end
end L3
namespace L3
open PySem PySem.Spec PyProof.Rows L2
structure RoomG (k:Nat) (A:Around):Prop where
 rm:Room k A
 gd:A.guards=some []
theorem RoomG.deeper {k:Nat} {A:Around} (r:RoomG (k+1) A) (env:Env):RoomG k (A.deeper env):=⟨r.rm.deeper env,r.gd⟩
theorem RoomG.units {k:Nat} {A:Around} (r:RoomG k A):A.units+64<cLine:=r.rm.units
theorem RoomG.mono {j k:Nat} {A:Around} (r:RoomG k A) (h:j≤k):RoomG j A:=⟨r.rm.mono h,r.gd⟩
structure FnG (P:Program) (w:World) (K:PySem.W.Frag) (mg:Str→Option Value) (base:Heap) (k:Nat) (f:Addr) (fd:FuncData) (ps:List Str) (sp:Sp):Prop where
 len:∀vs H Q E,sp vs H Q E→vs.length=ps.length
 go:∀(A:Around) (outer:List Env) (s:Shared) (H:Hp) (args:Args) (us:List Value) (vs:List V) (Q:VK) (E:XK),
  RoomG k A→Env0 P w K mg base A outer s H→BindsTo s fd args (ps.zip us)→Vals vs us→sp vs H Q E→codeAny (model P w) A (.call (.ref f) args) (CR (L2.CX P w) outer P w H s Q E) s
theorem FnG.imp {P:Program} {w:World} {K:PySem.W.Frag} {mg:Str→Option Value} {base:Heap} {k:Nat} {f:Addr} {fd:FuncData} {ps:List Str} {sp sp':Sp} (F:FnG P w K mg base k f fd ps sp) (i:∀vs H Q E,sp' vs H Q E→sp vs H Q E):
 FnG P w K mg base k f fd ps sp':=
 ⟨fun _ _ _ _ h=>F.len _ _ _ _ (i _ _ _ _ h),fun A outer s H args us vs Q E r e b v h=>F.go A outer s H args us vs Q E r e b v (i _ _ _ _ h)⟩
theorem FnG.of_def {P:Program} {w:World} {K:PySem.W.Frag} {mg:Str→Option Value} {base:Heap} {x qual:Str} {params:Arguments} {body:List Stmt} {scope:Scope} {dvs:List V} {kws:List (Str × V)} {f:Addr} {fd:FuncData} {N ps:List Str} {k:Nat} {sp:Sp}
 (F:FunD K x qual params body scope dvs kws f fd) (Sc:FnScope N ps scope) (len:∀vs H Q E,sp vs H Q E→vs.length=ps.length)
 (inner:∀(cdv:Value) (A:Around) (outer:List Env) (s:Shared) (H:Hp) (vs:List V) (Q:VK) (E:XK),RoomG k (A.deeper (envOfC qual scope s.heap.objs.size f cdv))→sp vs H Q E→
   ∃t:TS,PSs (cxOf (L2.CX P w) P w K mg base N qual scope f cdv A outer s H E) body t∧t { nx:=fun _ H'=>Q .non H',rt:=Q } (start N vs) H):FnG P w K mg base (k+1) f fd ps sp:=by
 obtain⟨_,_,_,_,_,_,_,cdv,_,_,rfl,place,code,_,_⟩:=F.ex
 refine⟨len,fun A outer s H args us vs Q E room e0 bound rel want=> ?_⟩
 have size:=len _ _ _ _ want
 have inK:K.In s.heap:=e0.mod.kin.keeps fun b o h=>(e0.bs b o h).1
 refine codeAny_call_function room.rm.depth (inK _ _ place) rfl Sc.co Sc.gen rfl (PySem.W.codeRec_of inK code) (bound _ _ _ _ ?_)
 refine wpAny_newFunctionEnv_cells Sc.kind (fun y hy=> ?_) fun env made s2 entered=> ?_
 ·obtain⟨n,v⟩:=y
  refine(Sc.par n (List.of_mem_zip hy).1).imp id fun c=>⟨c,PySem.W.cellsFrom_some _ _ _ (.inl c)⟩
 subst made
 have nl:s.heap.NoLimit:=e0.mod.nolimit.keeps fun b o h=>(e0.bs b o h).1
 refine⟨nl.keeps entered.toInCall.keep,codeAny_func ?_⟩
 obtain⟨t,runs,holds⟩:=inner cdv A outer s H vs Q E (room.deeper _) want
 have I0:Inv (cxOf (L2.CX P w) P w K mg base N qual scope f cdv A outer s H E) [] (start N vs) H s2:=inv_start Sc room.rm.hd e0 size rel entered
 refine wpAny_mono (runs.run [] s2 (start N vs) H _ I0 holds) (fun fl s' done=> ?_) fun _ _ z=>z
 have told:∀ {σ':L2.St} {H':Hp} {v:V} {u:Value},Inv (cxOf (L2.CX P w) P w K mg base N qual scope f cdv A outer s H E) [] σ' H' s'→RelV v u→Q v H'→CE outer P w H s Q u s':=fun {_ H' v _} J q q'=>⟨v,H',J.os,J.bare,J.base,J.hok,q,q'⟩
 match fl,done with
 | .ret u,⟨v,σ',H',J,q,q'⟩=>exact told J q q'
 | .next,⟨σ',H',J,q'⟩=>exact told (v:=V.non) (u:=Value.none) J rfl q'
 | .brk,⟨_,_,_,z⟩=>exact False.elim z
 | .cont,⟨_,_,_,z⟩=>exact False.elim z
section
variable {X:Cx} {k:Nat} {f:Addr} {fd:FuncData} {ps:List Str} {sp:Sp} {dvs:List V} {ds:List Value} {E:L2.St→XK}
theorem FnG.called {pins:List (Addr × Obj)} {σ :L2.St} {H:Hp} {s:Shared} {Q:VK} {args:Args} {zs:List Value} {ys:List V} (F:FnG X.prog X.w X.K X.mg X.base k f fd ps sp) (room:RoomG k X.A) (hx:PassesAt (L2.CX X.prog X.w) X σ (E σ)) (I:Inv X pins σ H s)
 (bound:BindsTo s fd args (ps.zip zs)) (rel:Vals ys zs) (want:sp ys H Q (E σ)):codeAny (model X.prog X.w) X.A (.call (.ref f) args) (fun r s'=>match r with
   | .ok (.ret u)=>EP X pins σ Q u s'
   | .error e=>X.xe e s'
   | _=>False) s:=by
 refine codeAny_mono (F.go X.A X.stack s H args zs ys Q (E σ) room I.env0 bound rel want) fun r s' q=> ?_
 match r,q with
 | .error e,q=>exact hx pins H s e s' I q
 | .ok (.ret u),q=>exact I.after q
theorem FnG.byPlace {pins:List (Addr × Obj)} {σ :L2.St} {H:Hp} {s:Shared} {Q:VK} {us:List Value} {vs:List V} (F:FnG X.prog X.w X.K X.mg X.base k f fd ps sp) (room:RoomG k X.A) (bs:Binds X.K fd ps ds) (dv:Vals dvs ds) (hx:PassesAt (L2.CX X.prog X.w) X σ (E σ))
 (I:Inv X pins σ H s) (rel:Vals vs us) (want:sp (vs++dvs) H Q (E σ)):wpAny (model X.prog X.w) X.A (call (.ref f) us) (EP X pins σ Q) X.xe s:=by
 have all:=rel.append dv
 refine wpAny_call (codeAny_mono (F.called room hx I (bs s us I.kIn (by rw[← all.length];exact F.len _ _ _ _ want)) all want) fun r s' q=> ?_)
 match r,q with
 | .error _,q=>exact q
 | .ok (.ret _),q=>exact q
end
def spOf (G:GC) (F:FN):Sp:=fun vs H Q E=>∃w ds,w.H=H∧SRep G w∧RepL G w ds vs∧Post G w (F ds w.S) (Rep G) Q E
abbrev WE0 (E:XK):WX:=fun C d _ H=>E C d H
def callK (F:FN) (dds:List D):FN:=fun xs S=>F (xs++dds) S
section
variable {G:GC} {X:Cx} {Wx:WX} {pos p:Pos} {k:Nat} {f:Addr} {fd:FuncData} {ps:List Str} {F:FN} {x:Str} {e:Expr} {es:List Expr} {dvs:List V} {ds:List Value} {dds:List D} {m:AD}
theorem imp_call (hdd:∀w,RepL G w dds dvs):∀ σ H Q,tE G (eN (callK F dds) m) Wx σ H Q→tCallSD (spOf G F) dvs (WE Wx) (tA G m Wx) σ H Q:=by
 intro σ H Q q
 obtain⟨w,env,rfl,sr,er,p⟩:=q
 refine⟨w,env,rfl,sr,er,(Post.bind p).mono (fun x H1 m=> ?_) fun _ _ _ h=>h⟩
 obtain⟨w1,d1,rfl,x1,s1,rp1,p1⟩:=m
 exact⟨w1,d1++dds,rfl,s1,rp1.append (hdd w1),p1⟩
theorem q_call (hF:FnG X.prog X.w X.K X.mg X.base k f fd ps (spOf G F)) (hr:RoomG k X.A) (hg:Gl X x) (hm:X.mg x=some (.ref f)) (hk:PySem.W.keepIn X.K (.ref f)=true) (hb:Binds X.K fd ps ds) (hd:Vals dvs ds) (hdd:∀w,RepL G w dds dvs) (tk:Takes X Wx)
 (ha:PA X (e::es) (tA G m Wx)) (hdb:(x==("__debug__" :Str))=false:=by decide) (he:starEach (e::es) X.env=(false,eval e X.env)::starEach es X.env:=by rfl) (hpl:(backTo pos (starEach es X.env)).any (·.1)=false:=by rfl):
 PE X (.Call (.Name x p) (e::es) [] pos) (tE G (eN (callK F dds) m) Wx):=
 peI (t:=tCallSD (spOf G F) dvs (WE Wx) (tA G m Wx)) ⟨fun pins s σ H Q I h=>wpAny_Call_Name_kw (ld_glob I hg hm (PySem.W.callWith_K (h₀ :=X.base) I.ok.mod.kin hk
  (thn (ha.run pos pins s σ H _ I h) fun us s1 ⟨vs,H1,I1,r,q⟩=>⟨I1.kIn,FnG.byPlace (E:=WE Wx) hF hr hb hd (passAt tk σ) I1 r q⟩) he hpl) hdb)⟩ (imp_call hdd)
end
section
variable {P:Program} {w:World} {G:GC} {base:Heap} {x qual:Str} {params:Arguments} {body:List Stmt} {scope:Scope} {dvs:List V} {kws:List (Str × V)} {f:Addr} {fd:FuncData} {k n:Nat} {N ps:List Str} {m:SD}
theorem len_spOf {vs:List V} {H:Hp} {Q:VK} {E:XK} {F:FN} {n:Nat} (ar:∀ds S,ds.length≠n→F ds S= .bad) (h:spOf G F vs H Q E):vs.length=n:=by
 obtain⟨w,ds,rfl,sr,rp,p⟩:=h
 rw[rp.length]
 by_cases e:ds.length=n
 ·exact e
 ·rw[ar ds w.S e] at p;exact p.elim
theorem run_ar:∀(ds:List D) (S:Store),ds.length≠n→run n k m ds S= .bad:=fun ds S h=>by unfold run;rw[if_neg h]
theorem ERep.start {wd:Wd} {ds:List D} {vs:List V} (h:RepL G wd ds vs):ERep G wd (ds.map some++List.replicate (n-ds.length) none) (vs.map some++List.replicate (n-vs.length) none):=by
 have hl:=h.length
 refine⟨by simp[hl],fun i d e=> ?_⟩
 by_cases hi:i<ds.length
 ·rw[List.getElem?_append_left (by simpa using hi),List.getElem?_map] at e
  cases q:ds[i]? with
  |none=>rw[q] at e;cases e
  |some d'=>
   rw[q] at e
   cases e
   obtain⟨v,h1,h2⟩:=h.get q
   refine⟨v,?_,h2⟩
   rw[List.getElem?_append_left (by simp[hl];exact hi),List.getElem?_map,h1]
   rfl
 ·rw[List.getElem?_append_right (by simpa using hi)] at e
  have:=(List.getElem?_eq_some_iff.mp e).2
  simp at this
theorem fn_ok (F:FunD G.K x qual params body scope dvs kws f fd) (S:FnScope N ps scope)
 (hb:∀(cdv:Value) (A:Around) (outer:List Env) (s:Shared) (H:Hp) (E:XK),RoomG k (A.deeper (envOfC qual scope s.heap.objs.size f cdv))→
   PSs (cxOf (L2.CX P w) P w G.K G.mg base N qual scope f cdv A outer s H E) body (tS G m (WE0 E))):
 FnG P w G.K G.mg base (k+1) f fd ps (spOf G (run ps.length N.length m)):=by
 refine FnG.of_def F S (fun vs H Q E h=>len_spOf run_ar h) fun cdv A outer s H vs Q E hr h=>⟨_,hb cdv A outer s H E hr,?_⟩
 obtain⟨wd,ds,rfl,sr,rp,p⟩:=h
 by_cases hl:ds.length=ps.length
 ·unfold run at p
  rw[if_pos hl] at p
  refine⟨wd,_,rfl,sr,ERep.start rp,?_⟩
  cases hm:m (ds.map some++List.replicate (N.length-ds.length) none) wd.S with
  |nx env S=>rw[hm] at p;exact fun σ' w' x hs s er=>p .non w' x hs s (by simp[Rep])
  |ret d S=>rw[hm] at p;exact p
  |brk _ _=>rw[hm] at p;exact p.elim
  |ct _ _=>rw[hm] at p;exact p.elim
  |exc e env S=>rw[hm] at p;exact fun C dx σ' w' x hs s er xr=>p C dx w' x hs s xr
  |bad=>rw[hm] at p;exact p.elim
 ·rw[run_ar ds wd.S hl] at p;exact p.elim
theorem fn_none {nn:Nat} :FnG P w G.K G.mg base nn f fd ps (spOf G fun _ _=> .bad):=
 ⟨fun vs H Q E ⟨w,ds,_,_,_,p⟩=>p.elim,fun A outer s H args us vs Q E _ _ _ _ ⟨w,ds,_,_,_,p⟩=>p.elim⟩
theorem tk_body {K:PySem.W.Frag} {mg:Str→Option Value} {qual:Str} {scope:Scope} {cdv:Value} {A:Around} {outer:List Env} {s:Shared} {H:Hp} {E:XK} :Takes (cxOf (L2.CX P w) P w K mg base N qual scope f cdv A outer s H E) (WE0 E):=takes_of rfl rfl rfl rfl
theorem po_body {K:PySem.W.Frag} {mg:Str→Option Value} {qual:Str} {scope:Scope} {cdv:Value} {A:Around} {outer:List Env} {s:Shared} {H:Hp} {E:XK} :PassesOwn (model P w) (cxOf (L2.CX P w) P w K mg base N qual scope f cdv A outer s H E).A (cxOf (L2.CX P w) P w K mg base N qual scope f cdv A outer s H E).env (cxOf (L2.CX P w) P w K mg base N qual scope f cdv A outer s H E).xe:=passes_of (X:=cxOf (L2.CX P w) P w K mg base N qual scope f cdv A outer s H E) rfl
theorem tk_blk {X:Cx} {s:Shared} {H:Hp} {sc:Scope} {ce:Env} {fp:List Addr} :Takes (X.blk s H sc ce fp) WF:=fun u s' h=>by
 obtain⟨_,_,_,_,_,_,_,_,_,_,_,_,_,_,_,_,z⟩:=h
 exact z.elim
end
end L3
namespace L3
open PySem PySem.Spec PyProof.Rows L2
theorem opI2 {X:Cx} {f:Value→Value→Sem Value} {r r':R2} (h:OpR X f r) (i:∀x y H Q,r' x y H Q→r x y H Q):OpR X f r':=fun pins s σ H x y v u Q I rx ry q=>h pins s σ H x y v u Q I rx ry (i _ _ _ _ q)
theorem unI2 {X:Cx} {f:Value→Sem Value} {r r':V→Hp→VK→Prop} (h:UnR X f r) (i:∀x H Q,r' x H Q→r x H Q):UnR X f r':=fun pins s σ H x v Q I rx q=>h pins s σ H x v Q I rx (i _ _ _ q)
theorem ixI2 {X:Cx} {r r':R2} (h:IxR X r) (i:∀x y H Q,r' x y H Q→r x y H Q):IxR X r':=fun a b pins s σ H x y v u Q I rx ry q=>h a b pins s σ H x y v u Q I rx ry (i _ _ _ _ q)
theorem caI2 {X:Cx} {f:Value} {r r':List V→Hp→VK→Prop} (h:CallR X f r) (i:∀xs H Q,r' xs H Q→r xs H Q):CallR X f r':=fun pins s σ H xs us Q I rs q=>h pins s σ H xs us Q I rs (i _ _ _ q)
theorem mtI2 {X:Cx} {id:String} {r r':V→List V→Hp→VK→Prop} (h:MtR X id r) (i:∀x xs H Q,r' x xs H Q→r x xs H Q):MtR X id r':=fun pins s σ H x xs v us Q I rx rs q=>h pins s σ H x xs v us Q I rx rs (i _ _ _ _ q)
section
variable {G:GC} {w:Wd}
def asL (x:D) (S:Store):Option (List D):=match x with
 | .lst l=>some l
 | .obj n=>match S[n]? with
   |some (.lst l)=>some l
   | _=>none
 | _=>none
theorem asL_rep {x:D} {v:V} {l:List D} (sr:SRep G w) (h:Rep G w x v) (e:asL x w.S=some l):∃a vs,v= .ref a∧w.H a=some (.lst vs)∧RepL G w l vs:=by
 cases x with
 |lst l'=>
  cases e
  simp only[Rep] at h
  obtain⟨a,vs,rfl,h1,_,h2⟩:=h
  exact⟨a,vs,rfl,h1,h2⟩
 |obj n=>
  simp only[Rep] at h
  obtain⟨a,h1,rfl⟩:=h
  unfold asL at e
  dsimp only at e
  cases hn:w.S[n]? with
  |none=>rw[hn] at e;cases e
  |some o=>
   rw[hn] at e
   cases o with
   |lst l'=>
    cases e
    obtain⟨vs,q1,q2⟩:=sr.obj n _ a hn h1
    exact⟨a,vs,rfl,q1,q2⟩
   | _=>cases e
 | _=>cases e
theorem new_lst {l:List D} {vs:List V} {S:Store} {Q:VK} {E:Value→Option Addr→Hp→Prop} (sr:SRep G w) (rl:RepL G w l vs) (p:Post G w (.ok (.lst l) w.S) (Rep G) Q E) (a:Addr) (ha:w.H a=none):Q (.ref a) (upd w.H a (.lst vs)):=by
 obtain⟨x,s,nm⟩:=new_ext (o:= .lst vs) sr ha
 exact p (.ref a) _ x rfl s (by simp only[Rep];exact⟨a,vs,rfl,upd_same,nm,RepL.mono x _ _ rl⟩)
theorem new_tup {l:List D} {vs:List V} {Q:VK} {E:Value→Option Addr→Hp→Prop} (sr:SRep G w) (rl:RepL G w l vs) (p:Post G w (.ok (.tup l) w.S) (Rep G) Q E) (a:Addr) (ha:w.H a=none):Q (.ref a) (upd w.H a (.tup vs)):=by
 obtain⟨x,s,nm⟩:=new_ext (o:= .tup vs) sr ha
 exact p (.ref a) _ x rfl s (by simp only[Rep];exact⟨a,vs,rfl, .inl ⟨upd_same,nm⟩,RepL.mono x _ _ rl⟩)
theorem new_lobj {l:List D} {vs:List V} {Q:VK} {E:Value→Option Addr→Hp→Prop} (sr:SRep G w) (rl:RepL G w l vs) (p:Post G w (.ok (.obj w.S.length) (w.S++ [.lst l])) (Rep G) Q E) (a:Addr) (ha:w.H a=none):Q (.ref a) (upd w.H a (.lst vs)):=by
 obtain⟨x,s⟩:=new_obj (ob:= .lst l) (o:= .lst vs) sr ha fun w' x e=>⟨vs,e,RepL.mono x _ _ rl⟩
 exact p (.ref a) _ x rfl s (by simp only[Rep];exact⟨a,by rw[← sr.len];simp,rfl⟩)
theorem SqT_of {a:Addr} {vs:List V} {l:List D} (h:TupAt G w a vs l):SqT G.K w.H a vs:=h.imp (fun z=> .inl z.1) fun z=>z.1
end
def repS (z:Str) (k:Int):Str:=⟨(List.replicate k.toNat z.cps.toList).flatten.toArray⟩
theorem fold_app:∀(l:List (Array Nat)) (a:Array Nat),(l.foldl (· ++ ·) a).toList=a.toList++(l.map Array.toList).flatten
 | [],a=>by simp
 |x::l,a=>by simp[fold_app l]
theorem repS_fold (z:Str) (k:Int):(⟨(List.replicate k.toNat z.cps).foldl (· ++ ·) #[]⟩:Str)=repS z k:=by
 unfold repS
 congr 1
 apply Array.ext'
 rw[fold_app];simp
theorem repS_one (z:Str):repS z 1=z:=by
 unfold repS;simp
theorem repS_nil {z:Str} (k:Int) (h:z.length=0):repS z k=z:=by
 have e:z.cps= #[] :=Array.eq_empty_of_size_eq_zero h
 obtain⟨c⟩:=z
 simp only at e;subst e
 unfold repS;simp
theorem repS_lt {z:Str} {k:Int} (h:k<1):repS z k=Str.empty:=by
 unfold repS
 rw[show k.toNat=0 by omega];rfl
theorem repS_len (z:Str) (k:Int):(repS z k).length=k.toNat*z.length:=by
 show(repS z k).cps.size=k.toNat*z.cps.size
 unfold repS;simp
theorem op_repS {X:Cx} :OpR X (binaryOp .Mult) (fun x y H Q=>∃z k,x= .str z∧y= .int k∧ -(2 ^ 63)≤k∧k<2 ^ 63∧z.length*k.toNat≤sizeLine∧Q (.str (repS z k)) H):=by
 intro pins s σ H x y v u Q I rx ry h
 obtain⟨z,k,rfl,rfl,h1,h2,h3,q⟩:=h
 obtain⟨t,rfl⟩:=rx
 obtain⟨t',rfl⟩:=ry
 refine P.mul_str (by simp;omega) (fun h _=> ?_) (fun _ _=> ?_) ?_
 ·intro c
  have:(z.length:Int)*k≤2 ^ 24:=by
   have h4:((z.length*k.toNat:Nat):Int)≤((2 ^ 24:Nat):Int):=Int.ofNat_le.mpr h3
   rw[Int.natCast_mul,Int.toNat_of_nonneg (by omega)] at h4
   exact h4
  have c2:=(Int.ediv_lt_iff_lt_mul (by omega:0<k)).mp c
  omega
 ·exact decide_eq_false (Nat.not_lt.mpr h3)
 ·split
  ·rename_i hk
   rw[repS_lt hk] at q
   exact⟨by decide, .str Str.empty,H,I.tok _,⟨_,rfl⟩,q⟩
  ·split
   ·rename_i hk
    have e:repS z k=z:=by
     rw[Bool.or_eq_true] at hk
     rcases hk with hk|hk
     ·have:=beq_iff_eq.mp hk;subst this;exact repS_one z
     ·exact repS_nil k (beq_iff_eq.mp hk)
    rw[e] at q
    exact⟨.str z,H,I,⟨_,rfl⟩,q⟩
   ·rw[repS_fold]
    refine⟨?_, .str (repS z k),H,I.tok _,⟨_,rfl⟩,q⟩
    rw[repS_len];rw[Nat.mul_comm];exact h3
def mulOk (i j:Int):Bool:=decide (((-(2 ^ 64)<i∧i<2 ^ 64)∨(-(2 ^ 64)<j∧j<2 ^ 64))∨i.natAbs.log2+j.natAbs.log2<1000000)
def addD:F2:=fun x y S=>match x,y with
 | .int i, .int j=> .ok (.int (i+j)) S
 | .str a, .str b=>if a.length+b.length≤sizeLine then .ok (.str (a++b)) S else .bad
 | .tup a, .tup b=>if a.length+b.length≤sizeLine then .ok (.tup (a++b)) S else .bad
 |x,y=>match asL x S,asL y S with
  |some a,some b=>if a.length+b.length≤sizeLine then .ok (.lst (a++b)) S else .bad
  | _,_=> .bad
def subD:F2:=fun x y S=>match x,y with
 | .int i, .int j=> .ok (.int (i-j)) S
 | _,_=> .bad
def mulD:F2:=fun x y S=>match x,y with
 | .int i, .int j=>if mulOk i j then .ok (.int (i*j)) S else .bad
 | .str z, .int k=>if -(2 ^ 63)≤k∧k<2 ^ 63∧z.length*k.toNat≤sizeLine then .ok (.str (repS z k)) S else .bad
 |x, .int k=>match asL x S with
  |some a=>if -(2 ^ 63)≤k∧k<2 ^ 63∧a.length*k.toNat≤sizeLine then .ok (.lst (List.replicate k.toNat a).flatten) S else .bad
  | _=> .bad
 | _,_=> .bad
def fdivD:F2:=fun x y S=>match x,y with
 | .int i, .int j=>if 0<j∧j.natAbs.log2<9000 then .ok (.int (i / j)) S else .bad
 | _,_=> .bad
def modD:F2:=fun x y S=>match x,y with
 | .int i, .int j=>if 0<j then .ok (.int (i % j)) S else .bad
 | _,_=> .bad
def powD:F2:=fun x y S=>match x,y with
 | .int i, .int j=>if 0≤j∧(Builtin.Int.intBits i:Int)*j≤2 ^ 27 then .ok (.int (i ^ j.toNat)) S else .bad
 | _,_=> .bad
def negD:F1:=fun x S=>match x with
 | .int i=> .ok (.int (-i)) S
 | _=> .bad
section
variable {G:GC} {X:Cx}
theorem c_add:Calm2 addD:=fun x y S=>by unfold addD;repeat' split
                                        all_goals trivial
theorem c_mul:Calm2 mulD:=fun x y S=>by unfold mulD;repeat' split
                                        all_goals trivial
theorem c_fdiv:Calm2 fdivD:=fun x y S=>by unfold fdivD;repeat' split
                                          all_goals trivial
theorem c_mod:Calm2 modD:=fun x y S=>by unfold modD;repeat' split
                                        all_goals trivial
theorem c_pow:Calm2 powD:=fun x y S=>by unfold powD;repeat' split
                                        all_goals trivial
theorem c_neg:Calm1 negD:=fun x S=>by unfold negD;repeat' split
                                      all_goals trivial
theorem o_add (hK:X.K=G.K):OpR X (binaryOp .Add) (r2 G addD):=by
 refine opI2 (op_add.or (op_add_str.or (op_catA.or op_cat))) fun x y H Q q=> ?_
 obtain⟨w,d1,d2,rfl,sr,r1,r2,p⟩:=q
 unfold addD at p
 split at p
 ·simp only[Rep] at r1 r2
  exact .inl ⟨_,_,r1,r2,Post.ret (Ra:=Rep G) sr (by simp[Rep]) p⟩
 ·split at p
  ·rename_i hz
   simp only[Rep] at r1 r2
   exact .inr (.inl ⟨_,_,r1,r2,hz,Post.ret (Ra:=Rep G) sr (by simp[Rep]) p⟩)
  ·exact p.elim
 ·split at p
  ·rename_i hz
   have r1':=r1
   have r2':=r2
   simp only[Rep] at r1 r2
   obtain⟨a,vs,rfl,h1,l1⟩:=r1
   obtain⟨b,us,rfl,h2,l2⟩:=r2
   have e1:=l1.length
   have e2:=l2.length
   refine .inr (.inr (.inl ⟨a,b,vs,us,rfl,rfl,by rw[hK];exact SqT_of h1,by rw[hK];exact SqT_of h2,by omega,fun e=> ?_,fun _ e=> ?_,fun _ _ p' hp'=> ?_⟩))
   ·have e':=List.eq_nil_of_length_eq_zero (by rw[← e1,e];rfl)
    rw[e',List.nil_append] at p
    exact Post.ret (Ra:=Rep G) sr r2' p
   ·have e':=List.eq_nil_of_length_eq_zero (by rw[← e2,e];rfl)
    rw[e',List.append_nil] at p
    exact Post.ret (Ra:=Rep G) sr r1' p
   ·exact new_tup sr (l1.append l2) p p' hp'
  ·exact p.elim
 ·split at p
  ·rename_i l1 l2 h1 h2
   split at p
   ·rename_i hz
    obtain⟨a,vs,rfl,e1,q1⟩:=asL_rep sr r1 h1
    obtain⟨b,us,rfl,e2,q2⟩:=asL_rep sr r2 h2
    refine .inr (.inr (.inr ⟨a,b,vs,us,rfl,rfl,e1,e2,by rw[q1.length,q2.length];exact hz,fun p' hp'=>new_lst (S:=w.S) sr (q1.append q2) p p' hp'⟩))
   ·exact p.elim
  ·exact p.elim
theorem RepL.rep {w:Wd} {ds:List D} {vs:List V} (h:RepL G w ds vs):∀k:Nat,RepL G w (List.replicate k ds).flatten (List.replicate k vs).flatten
 |0=>by simp[RepL]
 |k+1=>by
  simp only[List.replicate_succ,List.flatten_cons]
  exact h.append (RepL.rep h k)
theorem o_mul:OpR X (binaryOp .Mult) (r2 G mulD):=by
 refine opI2 ((op_mul.or op_mulW).or (op_rep.or op_repS)) fun x y H Q q=> ?_
 obtain⟨w,d1,d2,rfl,sr,r1,r2,p⟩:=q
 unfold mulD at p
 split at p
 ·simp only[Rep] at r1 r2
  split at p
  ·rename_i hz
   rcases of_decide_eq_true hz with hz|hz
   ·exact .inl (.inl ⟨_,_,r1,r2,(by unfold CMul;exact hz),Post.ret (Ra:=Rep G) sr (by simp[Rep]) p⟩)
   ·exact .inl (.inr ⟨_,_,r1,r2,hz,Post.ret (Ra:=Rep G) sr (by simp[Rep]) p⟩)
  ·exact p.elim
 ·simp only[Rep] at r1 r2
  split at p
  ·rename_i hz
   exact .inr (.inr ⟨_,_,r1,r2,hz.1,hz.2.1,hz.2.2,Post.ret (Ra:=Rep G) sr (by simp[Rep]) p⟩)
  ·exact p.elim
 ·split at p
  ·rename_i l hl
   split at p
   ·rename_i hz
    obtain⟨a,vs,rfl,e1,q1⟩:=asL_rep sr r1 hl
    simp only[Rep] at r2
    refine .inr (.inl ⟨a,_,vs,rfl,r2,e1,hz.1,hz.2.1,by rw[q1.length];exact hz.2.2,fun p' hp'=>new_lst (S:=w.S) sr (q1.rep _) p p' hp'⟩)
   ·exact p.elim
  ·exact p.elim
 ·exact p.elim
theorem o_fdiv:OpR X (binaryOp .FloorDiv) (r2 G fdivD):=by
 refine opI2 op_fdivW fun x y H Q q=> ?_
 obtain⟨w,d1,d2,rfl,sr,r1,r2,p⟩:=q
 unfold fdivD at p
 split at p
 ·simp only[Rep] at r1 r2
  split at p
  ·rename_i hz
   exact⟨_,_,r1,r2,hz,Post.ret (Ra:=Rep G) sr (by simp[Rep]) p⟩
  ·exact p.elim
 ·exact p.elim
theorem o_mod:OpR X (binaryOp .Mod) (r2 G modD):=by
 refine opI2 op_mod fun x y H Q q=> ?_
 obtain⟨w,d1,d2,rfl,sr,r1,r2,p⟩:=q
 unfold modD at p
 split at p
 ·simp only[Rep] at r1 r2
  split at p
  ·rename_i hz
   exact⟨_,_,r1,r2,hz,Post.ret (Ra:=Rep G) sr (by simp[Rep]) p⟩
  ·exact p.elim
 ·exact p.elim
theorem o_pow:OpR X (binaryOp .Pow) (r2 G powD):=by
 refine opI2 (opI (C:=fun i j=>0≤j∧(Builtin.Int.intBits i:Int)*j≤2 ^ 27) (g:=fun i j=>i ^ j.toNat) fun _ _ _ _ _ _ _ hc q=>pow_int hc.1 hc.2 q) fun x y H Q q=> ?_
 obtain⟨w,d1,d2,rfl,sr,r1,r2,p⟩:=q
 unfold powD at p
 split at p
 ·simp only[Rep] at r1 r2
  split at p
  ·rename_i hz
   exact⟨_,_,r1,r2,hz,Post.ret (Ra:=Rep G) sr (by simp[Rep]) p⟩
  ·exact p.elim
 ·exact p.elim
theorem o_neg:UnR X (unaryOp .USub) (r1 G negD):=by
 refine unI2 un_neg fun x H Q q=> ?_
 obtain⟨w,d1,rfl,sr,r1,p⟩:=q
 unfold negD at p
 split at p
 ·simp only[Rep] at r1
  exact⟨_,r1,Post.ret (Ra:=Rep G) sr (by simp[Rep]) p⟩
 ·exact p.elim
end
def ltD:F2:=fun x y S=>match x,y with
 | .int i, .int j=> .ok (.bl (decide (i<j))) S
 | .str a, .str b=> .ok (.bl (decide (a.cps.toList<b.cps.toList))) S
 | _,_=> .bad
def leD:F2:=fun x y S=>match x,y with
 | .int i, .int j=> .ok (.bl (decide (i≤j))) S
 | .str a, .str b=> .ok (.bl (!decide (b.cps.toList<a.cps.toList))) S
 | _,_=> .bad
def gtD:F2:=fun x y S=>match x,y with
 | .int i, .int j=> .ok (.bl (decide (j<i))) S
 | .str a, .str b=> .ok (.bl (decide (b.cps.toList<a.cps.toList))) S
 | _,_=> .bad
def geD:F2:=fun x y S=>match x,y with
 | .int i, .int j=> .ok (.bl (decide (j≤i))) S
 | .str a, .str b=> .ok (.bl (!decide (a.cps.toList<b.cps.toList))) S
 | _,_=> .bad
section
variable {G:GC} {X:Cx}
theorem c_lt:Calm2 ltD:=fun x y S=>by unfold ltD;repeat' split
                                      all_goals trivial
theorem c_le:Calm2 leD:=fun x y S=>by unfold leD;repeat' split
                                      all_goals trivial
theorem c_gt:Calm2 gtD:=fun x y S=>by unfold gtD;repeat' split
                                      all_goals trivial
theorem c_ge:Calm2 geD:=fun x y S=>by unfold geD;repeat' split
                                      all_goals trivial
theorem o_lt:OpR X (compareOp .Lt) (r2 G ltD):=by
 refine opI2 (op_lt.or L2.op_lt_str) fun x y H Q q=> ?_
 obtain⟨w,d1,d2,rfl,sr,r1,r2,p⟩:=q
 unfold ltD at p
 split at p
 ·simp only[Rep] at r1 r2
  exact .inl ⟨_,_,r1,r2,Post.ret (Ra:=Rep G) sr (by simp[Rep]) p⟩
 ·simp only[Rep] at r1 r2
  exact .inr ⟨_,_,r1,r2,Post.ret (Ra:=Rep G) sr (by simp[Rep]) p⟩
 ·exact p.elim
theorem o_le:OpR X (compareOp .LtE) (r2 G leD):=by
 refine opI2 (op_le.or L2.op_le_str) fun x y H Q q=> ?_
 obtain⟨w,d1,d2,rfl,sr,r1,r2,p⟩:=q
 unfold leD at p
 split at p
 ·simp only[Rep] at r1 r2
  exact .inl ⟨_,_,r1,r2,Post.ret (Ra:=Rep G) sr (by simp[Rep]) p⟩
 ·simp only[Rep] at r1 r2
  exact .inr ⟨_,_,r1,r2,Post.ret (Ra:=Rep G) sr (by simp[Rep]) p⟩
 ·exact p.elim
theorem o_gt:OpR X (compareOp .Gt) (r2 G gtD):=by
 refine opI2 (op_gt.or L2.op_gt_str) fun x y H Q q=> ?_
 obtain⟨w,d1,d2,rfl,sr,r1,r2,p⟩:=q
 unfold gtD at p
 split at p
 ·simp only[Rep] at r1 r2
  exact .inl ⟨_,_,r1,r2,Post.ret (Ra:=Rep G) sr (by simp[Rep]) p⟩
 ·simp only[Rep] at r1 r2
  exact .inr ⟨_,_,r1,r2,Post.ret (Ra:=Rep G) sr (by simp[Rep]) p⟩
 ·exact p.elim
theorem o_ge:OpR X (compareOp .GtE) (r2 G geD):=by
 refine opI2 (op_ge.or L2.op_ge_str) fun x y H Q q=> ?_
 obtain⟨w,d1,d2,rfl,sr,r1,r2,p⟩:=q
 unfold geD at p
 split at p
 ·simp only[Rep] at r1 r2
  exact .inl ⟨_,_,r1,r2,Post.ret (Ra:=Rep G) sr (by simp[Rep]) p⟩
 ·simp only[Rep] at r1 r2
  exact .inr ⟨_,_,r1,r2,Post.ret (Ra:=Rep G) sr (by simp[Rep]) p⟩
 ·exact p.elim
end
mutual
def toPy:D→Option PyData
 | .non=>some .none
 | .bl b=>some (.bool b)
 | .int i=>some (.int i)
 | .str s=>if PyData.strOk s=true then some (.str s) else none
 | .tup l=>(toPyL l).map .tuple
 | .lst l=>(toPyL l).map .list
 | .dic _ _=>none
 | .obj _=>none
 | .glb _=>none
 | .wtp _=>none
 | .ty _=>none
 | .scr ns=>some (.list (ns.map .int))
 | .kd _ _=>none
 | .xcp _ _ _=>none
 | .lam _ _=>none
def toPyL:List D→Option (List PyData)
 | [] =>some []
 |d::ds=>match toPy d,toPyL ds with
  |some x,some xs=>some (x::xs)
  | _,_=>none
end
def deref (x:D) (S:Store):D:=match x with
 | .obj n=>match S[n]? with
   |some (.lst l)=> .lst l
   |some (.ptp l)=> .tup l
   | _=>x
 | _=>x
def eqD:F2:=fun x y S=>match x,y with
 | .str a, .str b=> .ok (.bl (a==b)) S
 | .tup l, .tup [] => .ok (.bl l.isEmpty) S
 |x,y=>match toPy (deref x S),toPy (deref y S) with
  |some a,some b=>if min a.depth b.depth≤64 then .ok (.bl (PyData.eqv a b)) S else .bad
  | _,_=> .bad
def neD:F2:=fun x y S=>match x,y with
 | .str a, .str b=> .ok (.bl (!(a==b))) S
 | .tup l, .tup [] => .ok (.bl (!l.isEmpty)) S
 |x,y=>match toPy (deref x S),toPy (deref y S) with
  |some a,some b=>if min a.depth b.depth≤64 then .ok (.bl (!PyData.eqv a b)) S else .bad
  | _,_=> .bad
section
variable {G:GC} {X:Cx} {w:Wd}
theorem c_eq:Calm2 eqD:=fun x y S=>by unfold eqD;repeat' split
                                      all_goals trivial
theorem c_ne:Calm2 neD:=fun x y S=>by unfold neD;repeat' split
                                      all_goals trivial
theorem dpI:∀(ns:List Int),DpAll G.K w.H (ns.map V.int) (ns.map PyData.int)
 | [] => .nil
 |n::ns=> .cons (.int n) (dpI ns)
mutual
theorem dp_of:∀(d:D) (v:V) (x:PyData),Rep G w d v→toPy d=some x→Dp G.K w.H v x∧x.canLay0=true
 | .non,v,x,r,e=>by simp only[Rep] at r;cases e;subst r;exact⟨.non,rfl⟩
 | .bl b,v,x,r,e=>by simp only[Rep] at r;cases e;subst r;exact⟨.bl b,rfl⟩
 | .int i,v,x,r,e=>by simp only[Rep] at r;cases e;subst r;exact⟨.int i,rfl⟩
 | .str s,v,x,r,e=>by
   simp only[Rep] at r
   simp only[toPy] at e
   split at e
   ·rename_i h
    cases e;subst r;exact⟨.str s,h⟩
   ·cases e
 | .tup l,v,x,r,e=>by
   simp only[Rep] at r
   obtain⟨a,vs,rfl,h1,h2⟩:=r
   simp only[toPy,Option.map_eq_some_iff] at e
   obtain⟨xs,e1,rfl⟩:=e
   obtain⟨q1,q2⟩:=dpL_of l vs xs h2 e1
   exact⟨.tup (SqT_of h1) q1,by simpa[PyData.canLay0] using q2⟩
 | .lst l,v,x,r,e=>by
   simp only[Rep] at r
   obtain⟨a,vs,rfl,h1,_,h2⟩:=r
   simp only[toPy,Option.map_eq_some_iff] at e
   obtain⟨xs,e1,rfl⟩:=e
   obtain⟨q1,q2⟩:=dpL_of l vs xs h2 e1
   exact⟨.lst (SqL.of h1) q1,by simpa[PyData.canLay0] using q2⟩
 | .dic _ _,_,_,_,e=>by simp[toPy] at e
 | .obj _,_,_,_,e=>by simp[toPy] at e
 | .glb _,_,_,_,e=>by simp[toPy] at e
 | .wtp _,_,_,_,e=>by simp[toPy] at e
 | .ty _,_,_,_,e=>by simp[toPy] at e
 | .kd _ _,_,_,_,e=>by simp[toPy] at e
 | .xcp _ _ _,_,_,_,e=>by simp[toPy] at e
 | .lam _ _,_,_,_,e=>by simp[toPy] at e
 | .scr ns,v,x,r,e=>by
   simp only[Rep] at r
   obtain⟨a,rfl,h1⟩:=r
   simp only[toPy,Option.some.injEq] at e
   subst e
   refine⟨.lst (h1.imp (fun z=>z.1) id) (dpI ns),?_⟩
   simp only[PyData.canLay0]
   exact PyProof.Rows.canLayAll_ints ns
theorem dpL_of:∀(ds:List D) (vs:List V) (xs:List PyData),RepL G w ds vs→toPyL ds=some xs→DpAll G.K w.H vs xs∧PyData.canLayAll0 xs=true
 | [],vs,xs,r,e=>by simp only[RepL] at r;simp only[toPyL,Option.some.injEq] at e;subst r e;exact⟨.nil,rfl⟩
 |d::ds,vs,xs,r,e=>by
  simp only[RepL] at r
  obtain⟨v,r',rfl,h1,h2⟩:=r
  simp only[toPyL] at e
  split at e
  ·rename_i x xs' e1 e2
   cases e
   obtain⟨q1,q2⟩:=dp_of d v x h1 e1
   obtain⟨q3,q4⟩:=dpL_of ds r' xs' h2 e2
   exact⟨.cons q1 q3,by simp[PyData.canLayAll0,q2,q4]⟩
  ·cases e
end
theorem deref_rep {x:D} {v:V} (sr:SRep G w) (r:Rep G w x v) {y:PyData} (e:toPy (deref x w.S)=some y):Dp G.K w.H v y∧y.canLay0=true:=by
 cases x with
 |obj n=>
  unfold deref at e
  cases hn:w.S[n]? with
  |none=>simp[hn,toPy] at e
  |some o=>
   cases o with
   |lst l=>
    simp only[hn] at e
    obtain⟨a,vs,rfl,h1,h2⟩:=asL_rep (l:=l) sr r (by simp[asL,hn])
    simp only[toPy,Option.map_eq_some_iff] at e
    obtain⟨xs,e1,rfl⟩:=e
    obtain⟨q1,q2⟩:=dpL_of l vs xs h2 e1
    exact⟨.lst (SqL.of h1) q1,by simpa[PyData.canLay0] using q2⟩
   |ptp l=>
    simp only[hn] at e
    simp only[Rep] at r
    obtain⟨a,hm,rfl⟩:=r
    obtain⟨o,vs,⟨h1,_⟩,_,h2⟩:=sr.obj n _ a hn hm
    simp only[toPy,Option.map_eq_some_iff] at e
    obtain⟨xs,e1,rfl⟩:=e
    obtain⟨q1,q2⟩:=dpL_of l vs xs h2 e1
    exact⟨.tup (.inl (.inr ⟨o,h1⟩)) q1,by simpa[PyData.canLay0] using q2⟩
   | _=>simp[hn,toPy] at e
 | _=>exact dp_of _ v y r e
end
end L3
namespace L3
open PySem PySem.Spec PyProof.Rows L2
section
variable {G:GC} {X:Cx}
theorem o_eq (hK:X.K=G.K) (hu:X.A.units+64<cLine):OpR X (compareOp .Eq) (r2 G eqD):=by
 intro pins s σ H x y v u Q I rx ry q
 obtain⟨w,d1,d2,rfl,sr,r1,r2,p⟩:=q
 unfold eqD at p
 split at p
 ·simp only[Rep] at r1 r2
  subst r1 r2
  exact L2.op_eq pins s σ w.H _ _ v u Q I rx ry ⟨rfl,by rw[L2.dec_str];exact Post.ret (Ra:=Rep G) sr (by simp[Rep]) p⟩
 ·rename_i l
  simp only[Rep,RepL] at r1 r2
  obtain⟨a,vs,rfl,h1,l1⟩:=r1
  obtain⟨b,us,rfl,h2,rfl⟩:=r2
  cases rx
  cases ry
  obtain⟨its,rv,tp,_⟩:=I.tuple (xs:=vs) (by rw[hK];exact SqT_of h1)
  obtain⟨its2,rv2,tp2,_⟩:=I.tuple (xs:= []) (by rw[hK];exact SqT_of h2)
  cases rv2
  have hl:=rv.length
  have hl2:=l1.length
  refine SeqAt.RcAt.tuples (e:=fun _=>true) tp tp2 (by omega) (fun j h1 h2=>absurd h2 (by simp)) X.prog X.w X.xe (EP X pins σ Q) ?_
  refine⟨.bl _,w.H,I,rfl,?_⟩
  have e:((List.range (min its.toArray.size ([] :List Value).toArray.size)).all (fun _=>true)&&its.toArray.size==([] :List Value).toArray.size)=l.isEmpty:=by
   simp only[List.size_toArray,List.length_nil,Nat.min_zero,List.range_zero,List.all_nil,Bool.true_and]
   rw[← hl,hl2]
   cases l<;>rfl
  rw[e]
  exact Post.ret (Ra:=Rep G) sr (by simp[Rep]) p
 ·split at p
  ·rename_i a b h1 h2
   split at p
   ·rename_i hm
    obtain⟨p1,c1⟩:=deref_rep sr r1 h1
    obtain⟨p2,c2⟩:=deref_rep sr r2 h2
    rw[← hK] at p1 p2
    obtain⟨as,q1⟩:=Dp.reads I a x v p1 rx
    obtain⟨bs,q2⟩:=Dp.reads I b y u p2 ry
    exact SeqAt.compareEq_reads q1 q2 c1 c2 (by omega) ⟨.bl _,w.H,I,rfl,Post.ret (Ra:=Rep G) sr (by simp[Rep]) p⟩
   ·exact p.elim
  ·exact p.elim
theorem o_ne (hK:X.K=G.K) (hu:X.A.units+64<cLine):OpR X (compareOp .NotEq) (r2 G neD):=by
 intro pins s σ H x y v u Q I rx ry q
 obtain⟨w,d1,d2,rfl,sr,r1,r2,p⟩:=q
 unfold neD at p
 split at p
 ·simp only[Rep] at r1 r2
  subst r1 r2
  exact L2.op_ne pins s σ w.H _ _ v u Q I rx ry ⟨rfl,by rw[L2.dec_str];exact Post.ret (Ra:=Rep G) sr (by simp[Rep]) p⟩
 ·rename_i l
  simp only[Rep,RepL] at r1 r2
  obtain⟨a,vs,rfl,h1,l1⟩:=r1
  obtain⟨b,us,rfl,h2,rfl⟩:=r2
  cases rx
  cases ry
  obtain⟨its,rv,tp,_⟩:=I.tuple (xs:=vs) (by rw[hK];exact SqT_of h1)
  obtain⟨its2,rv2,tp2,_⟩:=I.tuple (xs:= []) (by rw[hK];exact SqT_of h2)
  cases rv2
  have hl:=rv.length
  have hl2:=l1.length
  refine SeqAt.RcNeAt.tuples (e:=fun _=>true) tp tp2 (by omega) (fun j h1 h2=>absurd h2 (by simp)) X.prog X.w X.xe (EP X pins σ Q) ?_
  refine⟨.bl _,w.H,I,rfl,?_⟩
  have e:((List.range (min its.toArray.size ([] :List Value).toArray.size)).all (fun _=>true)&&its.toArray.size==([] :List Value).toArray.size)=l.isEmpty:=by
   simp only[List.size_toArray,List.length_nil,Nat.min_zero,List.range_zero,List.all_nil,Bool.true_and]
   rw[← hl,hl2]
   cases l<;>rfl
  rw[e]
  exact Post.ret (Ra:=Rep G) sr (by simp[Rep]) p
 ·split at p
  ·rename_i a b h1 h2
   split at p
   ·rename_i hm
    obtain⟨p1,c1⟩:=deref_rep sr r1 h1
    obtain⟨p2,c2⟩:=deref_rep sr r2 h2
    rw[← hK] at p1 p2
    obtain⟨as,q1⟩:=Dp.reads I a x v p1 rx
    obtain⟨bs,q2⟩:=Dp.reads I b y u p2 ry
    exact SeqAt.compareNe_reads q1 q2 c1 c2 (by omega) ⟨.bl _,w.H,I,rfl,Post.ret (Ra:=Rep G) sr (by simp[Rep]) p⟩
   ·exact p.elim
  ·exact p.elim
def kdAt:List Str→List D→Str→Option D
 |k::ks,d::ds,z=>if z=k then some d else kdAt ks ds z
 | _,_,_=>none
def keyOf:D→Option Key
 | .int i=>some (.inl i)
 | .str s=>some (.inr s)
 | _=>none
def tkOf:D→Option (List Key)
 | .tup l=>if plc l=true then some (l.filterMap keyOf) else none
 | _=>none
def dGet {κ :Type} [DecidableEq κ] (kvs:List (κ × D)) (k: κ):Option D:=(kvs.find? fun kv=>decide (kv.1=k)).map (·.2)
theorem kdAt_look {w:Wd} :∀ {ks:List Str} {l:List D} {vs:List V} {us:List Value} (z:Str),ks.length=l.length→Vals vs us→RepL G w l vs→
 (match kdAt ks l z with
   |some d=>∃v u,(ks.zip us).lookup z=some u∧RelV v u∧Rep G w d v
   |none=>(ks.zip us).lookup z=none)
 | [],[],vs,us,z,_,r,h=>by simp[kdAt]
 |k::ks,d::ds,vs,us,z,hl,r,h=>by
  simp only[RepL] at h
  obtain⟨v,r',rfl,h1,h2⟩:=h
  cases r with
  |cons ru rr=>
   rename_i u us'
   unfold kdAt
   by_cases e:z=k
   ·subst e
    rw[if_pos rfl]
    exact⟨v,u,by simp[List.lookup],ru,h1⟩
   ·rw[if_neg e]
    have:=kdAt_look z (by simpa using hl) rr h2
    have e2:((k::ks).zip (u::us')).lookup z=(ks.zip us').lookup z:=by
     simp only[List.zip_cons_cons,List.lookup]
     have:(z==k)=false:=by simpa using e
     rw[this]
    rw[e2]
    exact this
theorem dGet_rep {κ :Type} [DecidableEq κ] {w:Wd} :∀ {kvs:List (κ × D)} {vs:List (κ × V)} (k: κ),RepKV G w kvs vs→
 (match dGet kvs k with
   |some d=>∃v,valV vs k=some v∧Rep G w d v
   |none=>valV vs k=none)
 | [],vs,k,h=>by
   have:vs= [] :=h
   subst this;rfl
 |p::r,vs,k,h=>by
  obtain⟨v,y,rfl,h1,h2⟩:=h
  have ih:=dGet_rep k h2
  by_cases e:p.1=k
  ·have e1:dGet (p::r) k=some p.2:=by simp[dGet,List.find?_cons,e]
   rw[e1,L2.valV_pos (p:=(p.1,v)) e]
   exact⟨v,rfl,h1⟩
  ·have e1:dGet (p::r) k=dGet r k:=by simp[dGet,List.find?_cons,e]
   rw[e1,L2.valV_neg (p:=(p.1,v)) e]
   exact ih
theorem zip_kv {κ :Type} {w:Wd} :∀ {ks:List κ} {l:List D} {vs:List V},ks.length=l.length→RepL G w l vs→RepKV G w (ks.zip l) (ks.zip vs)
 | [],[],vs,_,h=>by simp only[RepL] at h;subst h;rfl
 |k::ks,d::ds,vs,hl,h=>by
  simp only[RepL] at h
  obtain⟨v,r,rfl,h1,h2⟩:=h
  exact⟨v,_,rfl,h1,zip_kv (by simpa using hl) h2⟩
theorem keyOf_rep {w:Wd} {d:D} {v:V} {k:Key} (r:Rep G w d v) (e:keyOf d=some k):v=kV k:=by
 cases d with
 |int i=>cases e;simp only[Rep] at r;exact r
 |str s=>cases e;simp only[Rep] at r;exact r
 | _=>cases e
theorem plc_vals {w:Wd} :∀ {l:List D} {vs:List V},plc l=true→RepL G w l vs→vs=(l.filterMap keyOf).map kV
 | [],vs,_,h=>by simp only[RepL] at h;subst h;rfl
 |d::l,vs,hp,h=>by
  simp only[RepL] at h
  obtain⟨v,r,rfl,h1,h2⟩:=h
  simp only[plc,List.all_cons,Bool.and_eq_true] at hp
  have ih:=plc_vals (l:=l) (by simpa[plc] using hp.2) h2
  cases d with
  |int i=>
   simp only[Rep] at h1
   subst h1
   rw[ih];rfl
  | _=>exact absurd hp.1 (by simp[isIt])
theorem tk_rep {w:Wd} {d:D} {v:V} {k:List Key} (r:Rep G w d v) (e:tkOf d=some k):∃b,v= .ref b∧w.H b=some (.tup (k.map kV))∧¬Mut w b:=by
 cases d with
 |tup l=>
  simp only[tkOf] at e
  split at e
  ·rename_i hp
   cases e
   simp only[Rep] at r
   obtain⟨a,vs,rfl,h|h,rl⟩:=r
   ·rw[plc_vals hp rl] at h
    exact⟨a,rfl,h.1,h.2⟩
   ·rw[hp] at h;cases h.2
  ·cases e
 | _=>cases e
end
end L3
namespace L3
open PySem PySem.Spec PyProof.Rows L2
def ixD:F2:=fun x y S=>match x with
 | .tup l=>match y with
   | .int i=>match atI l i with
     |some d=> .ok d S
     |none=> .bad
   | _=> .bad
 | .str z=>match y with
   | .int i=>if z.length≤sizeLine then match atI z.cps.toList i with
      |some c=> .ok (sgn c) S
      |none=> .bad
     else .bad
   | _=> .bad
 | .scr ns=>match y with
   | .int i=>match atI ns i with
     |some n=> .ok (.int n) S
     |none=> .bad
   | _=> .bad
 | .kd ks l=>match y with
   | .str z=>match kdAt ks l z with
     |some d=> .ok d S
     |none=> .bad
   | _=> .bad
 | .dic ks l=>match keyOf y with
   |some k=>match dGet (ks.zip l) k with
    |some d=> .ok d S
    |none=> .bad
   |none=> .bad
 | .lst l=>match y with
   | .int i=>match atI l i with
     |some d=> .ok d S
     |none=> .bad
   | _=> .bad
 | .obj n=>match S[n]? with
   |some (.lst l)=>match y with
    | .int i=>match atI l i with
      |some d=> .ok d S
      |none=> .bad
    | _=> .bad
   |some (.dK kvs)=>match keyOf y with
    |some k=>match dGet kvs k with
     |some d=> .ok d S
     |none=> .bad
    |none=> .bad
   |some (.dT kvs)=>match tkOf y with
    |some k=>match dGet kvs k with
     |some d=> .ok d S
     |none=> .bad
    |none=> .bad
   | _=> .bad
 | _=> .bad
section
variable {G:GC} {X:Cx} {w:Wd}
theorem c_ix:Calm2 ixD:=fun x y S=>by unfold ixD;repeat' split
                                      all_goals trivial
theorem RepL.at {l:List D} {vs:List V} {i:Int} {d:D} (r:RepL G w l vs) (e:atI l i=some d):∃v,atI vs i=some v∧Rep G w d v:=by
 unfold atI at e ⊢
 rw[r.length]
 cases h:ixN l.length i with
 |none=>rw[h] at e;cases e
 |some j=>
  rw[h] at e
  exact r.get e
theorem ix_dk (hu:X.A.units+1<cLine):IxR X (fun x y H Q=>∃a v,x= .ref a∧DGet H a y (some v)∧Q v H):=by
 intro value slice pins s σ H x y v u Q I rx ry h hs
 obtain⟨a,z,rfl,g,q⟩:=h
 cases rx
 exact tail_any (dict_typeIs I g) PySem.F.slot_dict_getitem.lookup (d_getItem hu I g ry fun w' s' I' r'=>⟨z,H,I',r',q⟩) hs
theorem o_ix (hK:X.K=G.K) (hw:X.w=G.w) (hu:X.A.units+1<cLine):IxR X (r2 G ixD):=by
 refine ixI2 ((ix_seq (X:=X)).or (ix_kdict.or (ix_dk hu))) fun x y H Q q=> ?_
 obtain⟨w,d1,d2,rfl,sr,r1,r2,p⟩:=q
 have dk:∀ {a:Addr} {kvs:List (Key × D)} {vs:List (Key × V)} {k:Key} {d:D},x= .ref a→w.H a=some (.dK vs)→RepKV G w kvs vs→keyOf d2=some k→dGet kvs k=some d→Post G w (.ok d w.S) (Rep G) Q (fun _ _ _=>False)→
  ∃a v,x=V.ref a∧DGet w.H a y (some v)∧Q v w.H:=fun {a kvs vs k d} ex h1 h2 hk hd p=>by
  have ey:=keyOf_rep r2 hk
  have:=dGet_rep k h2
  rw[hd] at this
  obtain⟨v,e1,e2⟩:=this
  exact⟨a,v,ex,by rw[ey,←e1];exact DGet.k h1,Post.ret sr e2 p⟩
 have lst:∀ {l:List D} {i:Int} {d:D},asL d1 w.S=some l→atI l i=some d→d2= .int i→Post G w (.ok d w.S) (Rep G) Q (fun _ _ _=>False)→rIx X.K x y w.H Q:=fun {l i d} h1 h2 h3 p'=>by
  subst h3
  simp only[Rep] at r2
  obtain⟨a,vs,rfl,e1,rl⟩:=asL_rep sr r1 h1
  obtain⟨v,e2,rv⟩:=rl.at h2
  exact .inl ⟨a,vs,i,v,rfl,r2,SqL.of e1,e2,Post.ret sr rv p'⟩
 cases d1 with
 |tup l=>
  simp only[ixD] at p
  split at p
  ·rename_i i
   split at p
   ·rename_i d hd
    simp only[Rep] at r1 r2
    obtain⟨a,vs,rfl,h1,rl⟩:=r1
    obtain⟨v,e2,rv⟩:=rl.at hd
    exact .inl (.inr (.inl ⟨a,vs,i,v,rfl,r2,by rw[hK];exact SqT_of h1,e2,Post.ret sr rv p⟩))
   ·exact p.elim
  ·exact p.elim
 |str z=>
  simp only[ixD] at p
  split at p
  ·rename_i i
   split at p
   ·rename_i hz
    split at p
    ·rename_i c hc
     simp only[Rep] at r1 r2
     exact .inl (.inr (.inr ⟨z,i,c,r1,r2,hz,hc,Post.ret (Ra:=Rep G) sr (by simp[Rep,sgn]) p⟩))
    ·exact p.elim
   ·exact p.elim
  ·exact p.elim
 |scr ns=>
  simp only[ixD] at p
  split at p
  ·rename_i i
   split at p
   ·rename_i n hn
    simp only[Rep] at r1 r2
    obtain⟨a,rfl,h1⟩:=r1
    refine .inl (.inl ⟨a,ns.map V.int,i, .int n,rfl,r2,by rw[hK];exact h1.imp (fun z=>z.1) id,?_,Post.ret (Ra:=Rep G) sr (by simp[Rep]) p⟩)
    unfold atI at hn ⊢
    rw[List.length_map]
    cases h:ixN ns.length i with
    |none=>rw[h] at hn;cases hn
    |some j=>rw[h] at hn;simp only[Option.bind] at hn ⊢;rw[List.getElem?_map,hn];rfl
   ·exact p.elim
  ·exact p.elim
 |kd ks l=>
  simp only[ixD] at p
  split at p
  ·rename_i z
   split at p
   ·rename_i d hd
    simp only[Rep] at r1 r2
    obtain⟨a,es,n,vs,us,rfl,kd,hn,hl,rv,_,rl⟩:=r1
    have look:=kdAt_look z hl rv rl
    rw[hd] at look
    obtain⟨v,u,e1,e2,e3⟩:=look
    refine .inr (.inl ⟨a,z,v,rfl,r2,⟨es,n,u,by rw[hK];exact kd.at_,by rw[hw];exact kd.lit,by rw[hK,hn z,e1],e2⟩,Post.ret sr e3 p⟩)
   ·exact p.elim
  ·exact p.elim
 |dic ks l=>
  simp only[ixD] at p
  split at p
  ·rename_i k hk
   split at p
   ·rename_i d hd
    simp only[Rep] at r1
    obtain⟨a,vs,rfl,h1,nm,hl,h2⟩:=r1
    exact .inr (.inr (dk rfl h1 (zip_kv hl h2) hk hd p))
   ·exact p.elim
  ·exact p.elim
 |lst l=>
  simp only[ixD] at p
  split at p
  ·split at p
   ·rename_i d hd
    exact .inl (lst rfl hd rfl p)
   ·exact p.elim
  ·exact p.elim
 |obj n=>
  simp only[ixD] at p
  split at p
  ·rename_i l hn
   split at p
   ·split at p
    ·rename_i d hd
     exact .inl (lst (by simp[asL,hn]) hd rfl p)
    ·exact p.elim
   ·exact p.elim
  ·rename_i kvs hn
   split at p
   ·rename_i k hk
    split at p
    ·rename_i d hd
     simp only[Rep] at r1
     obtain⟨a,hm,rfl⟩:=r1
     obtain⟨vs,h1,h2⟩:=sr.obj n _ a hn hm
     exact .inr (.inr (dk rfl h1 h2 hk hd p))
    ·exact p.elim
   ·exact p.elim
  ·rename_i kvs hn
   split at p
   ·rename_i k hk
    split at p
    ·rename_i d hd
     simp only[Rep] at r1
     obtain⟨a,hm,rfl⟩:=r1
     obtain⟨vs,h1,h2⟩:=sr.obj n _ a hn hm
     obtain⟨bb,rfl,eb,_⟩:=tk_rep r2 hk
     have:=dGet_rep k h2
     rw[hd] at this
     obtain⟨v,e1,e2⟩:=this
     exact .inr (.inr ⟨a,v,rfl,by rw[← e1];exact DGet.t h1 eb,Post.ret sr e2 p⟩)
    ·exact p.elim
   ·exact p.elim
  ·exact p.elim
 | _=>exact p.elim
def tyD (x:D) (S:Store):Option String:=match x with
 | .non=>some "NoneType"
 | .bl _=>some "bool"
 | .int _=>some "int"
 | .str _=>some "str"
 | .tup _=>some "tuple"
 | .lst _=>some "list"
 | .dic _ _=>some "dict"
 | .kd _ _=>some "dict"
 | .obj n=>match S[n]? with
   |some (.lst _)=>some "list"
   |some (.dK _)=>some "dict"
   |some (.dT _)=>some "dict"
   | _=>none
 | _=>none
def isiD:FN:=fun xs S=>match xs with
 | [x, .ty T] =>match tyD x S with
   |some t=>match kitB t T with
    |some b=> .ok (.bl b) S
    |none=> .bad
   |none=> .bad
 | _=> .bad
def lenD:FN:=fun xs S=>match xs with
 | [.tup l] => .ok (.int l.length) S
 | [.str s] =>if s.length≤sizeLine then .ok (.int s.length) S else .bad
 | [.scr ns] => .ok (.int ns.length) S
 | [x] =>match asL x S with
   |some l=> .ok (.int l.length) S
   |none=> .bad
 | _=> .bad
theorem c_len:CalmN lenD:=fun xs S=>by unfold lenD;repeat' split
                                       all_goals trivial
theorem o_len (hK:X.K=G.K):CallR X (.builtin "len") (rN G lenD):=by
 refine caI2 call_len fun xs H Q q=> ?_
 obtain⟨w,ds,rfl,sr,rl,p⟩:=q
 unfold lenD at p
 split at p
 ·rename_i l
  simp only[RepL,Rep] at rl
  obtain⟨v,r',rfl,⟨a,vs,rfl,h1,r1⟩,rfl⟩:=rl
  exact⟨.ref a,l.length,rfl, .inr ⟨vs,by rw[hK];exact SqT_of h1,r1.length.symm⟩,Post.ret (Ra:=Rep G) sr (by simp[Rep]) p⟩
 ·split at p
  ·rename_i s hs
   simp only[RepL,Rep] at rl
   obtain⟨v,r',rfl,rfl,rfl⟩:=rl
   exact⟨.str s,s.length,rfl,⟨hs,rfl⟩,Post.ret (Ra:=Rep G) sr (by simp[Rep]) p⟩
  ·exact p.elim
 ·rename_i ns
  simp only[RepL,Rep] at rl
  obtain⟨v,r',rfl,⟨a,rfl,h1⟩,rfl⟩:=rl
  exact⟨.ref a,ns.length,rfl, .inl ⟨ns.map V.int,by rw[hK];exact h1.imp (fun z=>z.1) id,by simp⟩,Post.ret (Ra:=Rep G) sr (by simp[Rep]) p⟩
 ·split at p
  ·rename_i l hl
   simp only[RepL] at rl
   obtain⟨v,r',rfl,r1,rfl⟩:=rl
   obtain⟨a,vs,rfl,h1,r2⟩:=asL_rep sr r1 hl
   exact⟨.ref a,l.length,rfl, .inl ⟨vs,SqL.of h1,r2.length.symm⟩,Post.ret (Ra:=Rep G) sr (by simp[Rep]) p⟩
  ·exact p.elim
 ·exact p.elim
def allBls:List D→Option (List Bool)
 | [] =>some []
 | .bl b::r=>(allBls r).map (b:: ·)
 | _=>none
def allInts:List D→Option (List Int)
 | [] =>some []
 | .int b::r=>(allInts r).map (b:: ·)
 | _=>none
theorem allBls_rep:∀ {l:List D} {vs:List V} {bs:List Bool},RepL G w l vs→allBls l=some bs→vs=bs.map V.bl
 | [],vs,bs,r,e=>by simp only[RepL] at r;cases e;exact r
 |d::ds,vs,bs,r,e=>by
  simp only[RepL] at r
  obtain⟨v,r',rfl,h1,h2⟩:=r
  cases d with
  |bl b=>
   simp only[allBls,Option.map_eq_some_iff] at e
   obtain⟨bs',e1,rfl⟩:=e
   simp only[Rep] at h1
   rw[h1,allBls_rep h2 e1]
   rfl
  | _=>simp[allBls] at e
theorem allInts_rep:∀ {l:List D} {vs:List V} {bs:List Int},RepL G w l vs→allInts l=some bs→vs=bs.map V.int
 | [],vs,bs,r,e=>by simp only[RepL] at r;cases e;exact r
 |d::ds,vs,bs,r,e=>by
  simp only[RepL] at r
  obtain⟨v,r',rfl,h1,h2⟩:=r
  cases d with
  |int b=>
   simp only[allInts,Option.map_eq_some_iff] at e
   obtain⟨bs',e1,rfl⟩:=e
   simp only[Rep] at h1
   rw[h1,allInts_rep h2 e1]
   rfl
  | _=>simp[allInts] at e
def allD:FN:=fun xs S=>match xs with
 | [x] =>match(asL x S).bind allBls with
   |some bs=> .ok (.bl (bs.all id)) S
   |none=> .bad
 | _=> .bad
theorem c_all:CalmN allD:=fun xs S=>by unfold allD;repeat' split
                                       all_goals trivial
theorem asL_allBls {x:D} {v:V} {bs:List Bool} (sr:SRep G w) (r:Rep G w x v) (e:(asL x w.S).bind allBls=some bs):∃a,v= .ref a∧w.H a=some (.lst (bs.map V.bl)):=by
 cases h:asL x w.S with
 |none=>rw[h] at e;cases e
 |some l=>
  rw[h] at e
  obtain⟨a,vs,rfl,h1,h2⟩:=asL_rep sr r h
  exact⟨a,rfl,by rw[h1,allBls_rep h2 e]⟩
theorem asL_allInts {x:D} {v:V} {bs:List Int} (sr:SRep G w) (r:Rep G w x v) (e:(asL x w.S).bind allInts=some bs):∃a,v= .ref a∧w.H a=some (.lst (bs.map V.int)):=by
 cases h:asL x w.S with
 |none=>rw[h] at e;cases e
 |some l=>
  rw[h] at e
  obtain⟨a,vs,rfl,h1,h2⟩:=asL_rep sr r h
  exact⟨a,rfl,by rw[h1,allInts_rep h2 e]⟩
theorem o_all (hc:X.calm=true):CallR X (.builtin "all") (rN G allD):=by
 refine caI2 (cr_all hc) fun xs H Q q=> ?_
 obtain⟨w,ds,rfl,sr,rl,p⟩:=q
 unfold allD at p
 split at p
 ·split at p
  ·rename_i bs hb
   simp only[RepL] at rl
   obtain⟨v,r',rfl,r1,rfl⟩:=rl
   obtain⟨a,rfl,h⟩:=asL_allBls sr r1 hb
   exact⟨a,bs,rfl,SqL.of h,Post.ret (Ra:=Rep G) sr (by simp[Rep]) p⟩
  ·exact p.elim
 ·exact p.elim
def maxI:List Int→Option Int
 | [] =>none
 |n::ns=>some (ns.foldl (fun m x=>if x>m then x else m) n)
def minI:List Int→Option Int
 | [] =>none
 |n::ns=>some (ns.foldl (fun m x=>if x<m then x else m) n)
theorem fold_max:∀(ns:List Int) (n:Int),(ns.foldl (fun m x=>if x>m then x else m) n=n∨ns.foldl (fun m x=>if x>m then x else m) n ∈ ns)∧n≤ns.foldl (fun m x=>if x>m then x else m) n∧∀y ∈ ns,y≤ns.foldl (fun m x=>if x>m then x else m) n
 | [],n=>⟨.inl rfl,Int.le_refl _,fun y h=>by simp at h⟩
 |a::ns,n=>by
  obtain⟨m,hm⟩:∃m,m=if a>n then a else n:=⟨_,rfl⟩
  have hm':(n≤m∧a≤m)∧(m=a∨m=n):=by rw[hm];split<;>omega
  simp only[List.foldl_cons]
  rw[← hm]
  obtain⟨h1,h2,h3⟩:=fold_max ns m
  refine⟨?_,by omega,fun y hy=> ?_⟩
  ·rcases h1 with h1|h1
   ·rw[h1]
    rcases hm'.2 with e|e
    ·exact .inr (by simp[e])
    ·exact .inl e
   ·exact .inr (by simp[h1])
  ·rcases List.mem_cons.mp hy with e|hy
   ·subst e;omega
   ·exact h3 y hy
theorem fold_min:∀(ns:List Int) (n:Int),(ns.foldl (fun m x=>if x<m then x else m) n=n∨ns.foldl (fun m x=>if x<m then x else m) n ∈ ns)∧ns.foldl (fun m x=>if x<m then x else m) n≤n∧∀y ∈ ns,ns.foldl (fun m x=>if x<m then x else m) n≤y
 | [],n=>⟨.inl rfl,Int.le_refl _,fun y h=>by simp at h⟩
 |a::ns,n=>by
  obtain⟨m,hm⟩:∃m,m=if a<n then a else n:=⟨_,rfl⟩
  have hm':(m≤n∧m≤a)∧(m=a∨m=n):=by rw[hm];split<;>omega
  simp only[List.foldl_cons]
  rw[← hm]
  obtain⟨h1,h2,h3⟩:=fold_min ns m
  refine⟨?_,by omega,fun y hy=> ?_⟩
  ·rcases h1 with h1|h1
   ·rw[h1]
    rcases hm'.2 with e|e
    ·exact .inr (by simp[e])
    ·exact .inl e
   ·exact .inr (by simp[h1])
  ·rcases List.mem_cons.mp hy with e|hy
   ·subst e;omega
   ·exact h3 y hy
theorem maxI_eq {ns:List Int} {m k:Int} (h:maxI ns=some k) (h1:m ∈ ns) (h2:∀y ∈ ns,y≤m):m=k:=by
 cases ns with
 |nil=>cases h
 |cons n ns=>
  cases h
  obtain⟨a1,a2,a3⟩:=fold_max ns n
  have le1:ns.foldl (fun m x=>if x>m then x else m) n≤m:=by
   rcases a1 with e|e
   ·rw[e];exact h2 n (by simp)
   ·exact h2 _ (by simp[e])
  have le2:m≤ns.foldl (fun m x=>if x>m then x else m) n:=by
   rcases List.mem_cons.mp h1 with e|e
   ·rw[e];exact a2
   ·exact a3 m e
  omega
theorem minI_eq {ns:List Int} {m k:Int} (h:minI ns=some k) (h1:m ∈ ns) (h2:∀y ∈ ns,m≤y):m=k:=by
 cases ns with
 |nil=>cases h
 |cons n ns=>
  cases h
  obtain⟨a1,a2,a3⟩:=fold_min ns n
  have le1:m≤ns.foldl (fun m x=>if x<m then x else m) n:=by
   rcases a1 with e|e
   ·rw[e];exact h2 n (by simp)
   ·exact h2 _ (by simp[e])
  have le2:ns.foldl (fun m x=>if x<m then x else m) n≤m:=by
   rcases List.mem_cons.mp h1 with e|e
   ·rw[e];exact a2
   ·exact a3 m e
  omega
def maxD:FN:=fun xs S=>match xs with
 | [.int i, .int j] => .ok (.int (if j>i then j else i)) S
 | [x] =>match((asL x S).bind allInts).bind maxI with
   |some m=> .ok (.int m) S
   |none=> .bad
 | _=> .bad
def minD:FN:=fun xs S=>match xs with
 | [.int i, .int j] => .ok (.int (if j<i then j else i)) S
 | [x] =>match((asL x S).bind allInts).bind minI with
   |some m=> .ok (.int m) S
   |none=> .bad
 | _=> .bad
theorem c_max:CalmN maxD:=fun xs S=>by unfold maxD;repeat' split
                                       all_goals trivial
theorem c_min:CalmN minD:=fun xs S=>by unfold minD;repeat' split
                                       all_goals trivial
theorem o_max (hc:X.calm=true):CallR X (.builtin "max") (rN G maxD):=by
 refine caI2 ((call_max2 hc).or (cr_max hc)) fun xs H Q q=> ?_
 obtain⟨w,ds,rfl,sr,rl,p⟩:=q
 unfold maxD at p
 split at p
 ·simp only[RepL,Rep] at rl
  obtain⟨v,r',rfl,rfl,v2,r'',rfl,rfl,rfl⟩:=rl
  exact .inl ⟨_,_,rfl,Post.ret (Ra:=Rep G) sr (by simp[Rep]) p⟩
 ·split at p
  ·rename_i m hm
   simp only[RepL] at rl
   obtain⟨v,r',rfl,r1,rfl⟩:=rl
   cases h:(asL _ w.S).bind allInts with
   |none=>rw[h] at hm;cases hm
   |some ns=>
    rw[h] at hm
    obtain⟨a,rfl,ha⟩:=asL_allInts sr r1 h
    refine .inr ⟨a,ns,rfl,SqL.of ha,?_,fun k hk hle=> ?_⟩
    ·cases ns with
     |nil=>cases hm
     |cons _ _=>simp
    ·rw[maxI_eq hm hk hle]
     exact Post.ret (Ra:=Rep G) sr (by simp[Rep]) p
  ·exact p.elim
 ·exact p.elim
theorem o_min (hc:X.calm=true):CallR X (.builtin "min") (rN G minD):=by
 refine caI2 ((call_min2 hc).or (cr_min hc)) fun xs H Q q=> ?_
 obtain⟨w,ds,rfl,sr,rl,p⟩:=q
 unfold minD at p
 split at p
 ·simp only[RepL,Rep] at rl
  obtain⟨v,r',rfl,rfl,v2,r'',rfl,rfl,rfl⟩:=rl
  exact .inl ⟨_,_,rfl,Post.ret (Ra:=Rep G) sr (by simp[Rep]) p⟩
 ·split at p
  ·rename_i m hm
   simp only[RepL] at rl
   obtain⟨v,r',rfl,r1,rfl⟩:=rl
   cases h:(asL _ w.S).bind allInts with
   |none=>rw[h] at hm;cases hm
   |some ns=>
    rw[h] at hm
    obtain⟨a,rfl,ha⟩:=asL_allInts sr r1 h
    refine .inr ⟨a,ns,rfl,SqL.of ha,?_,fun k hk hle=> ?_⟩
    ·cases ns with
     |nil=>cases hm
     |cons _ _=>simp
    ·rw[minI_eq hm hk hle]
     exact Post.ret (Ra:=Rep G) sr (by simp[Rep]) p
  ·exact p.elim
 ·exact p.elim
def absD:FN:=fun xs S=>match xs with
 | [.int i] => .ok (.int (if i<0 then -i else i)) S
 | _=> .bad
def intD:FN:=fun xs S=>match xs with
 | [.int i] => .ok (.int i) S
 | [.bl k] => .ok (.int (if k then 1 else 0)) S
 | _=> .bad
theorem c_abs:CalmN absD:=fun xs S=>by unfold absD;repeat' split
                                       all_goals trivial
theorem c_int:CalmN intD:=fun xs S=>by unfold intD;repeat' split
                                       all_goals trivial
theorem o_abs:CallR X (.builtin "abs") (rN G absD):=by
 refine caI2 call_abs fun xs H Q q=> ?_
 obtain⟨w,ds,rfl,sr,rl,p⟩:=q
 unfold absD at p
 split at p
 ·simp only[RepL,Rep] at rl
  obtain⟨v,r',rfl,rfl,rfl⟩:=rl
  exact⟨_,rfl,Post.ret (Ra:=Rep G) sr (by simp[Rep]) p⟩
 ·exact p.elim
theorem o_int:CallR X (.type "int") (rN G intD):=by
 refine caI2 call_int1 fun xs H Q q=> ?_
 obtain⟨w,ds,rfl,sr,rl,p⟩:=q
 unfold intD at p
 split at p
 ·simp only[RepL,Rep] at rl
  obtain⟨v,r',rfl,rfl,rfl⟩:=rl
  exact .inl ⟨_,rfl,Post.ret (Ra:=Rep G) sr (by simp[Rep]) p⟩
 ·simp only[RepL,Rep] at rl
  obtain⟨v,r',rfl,rfl,rfl⟩:=rl
  exact .inr ⟨_,rfl,Post.ret (Ra:=Rep G) sr (by simp[Rep]) p⟩
 ·exact p.elim
def tupleD:FN:=fun xs S=>match xs with
 | [.tup l] => .ok (.tup l) S
 | [x] =>match asL x S with
   |some l=> .ok (.tup l) S
   |none=> .bad
 | _=> .bad
end
end L3
namespace L3
open PySem PySem.Spec PyProof.Rows L2
section
variable {G:GC} {X:Cx} {Wx:WX} {pos:Pos} {w:Wd}
theorem q_tup {es:List Expr} {x1} {m:AD} (h:PA X es (tA G m Wx)):PE X (.Tuple es x1 pos) (tE G (eN mkTup m) Wx):=peI (pe_tup h) fun σ H Q q=>by
 obtain⟨w,env,rfl,sr,er,p⟩:=q
 refine⟨w,env,rfl,sr,er,(Post.bind (Ra:=RepL G) p).mono (fun x H1 m=> ?_) fun _ _ _ h=>h⟩
 obtain⟨w1,d1,rfl,x1,s1,rp1,p1⟩:=m
 unfold mkTup at p1
 split at p1
 ·exact⟨by rw[rp1.length];assumption,fun p' hp'=>new_tup s1 rp1 p1 p' hp'⟩
 ·exact p1.elim
theorem q_lst {es:List Expr} {m:AD} (h:PA X es (tA G m Wx)):PE X (.List es pos) (tE G (eN mkLst m) Wx):=peI (pe_lst h) fun σ H Q q=>by
 obtain⟨w,env,rfl,sr,er,p⟩:=q
 refine⟨w,env,rfl,sr,er,(Post.bind (Ra:=RepL G) p).mono (fun x H1 m=> ?_) fun _ _ _ h=>h⟩
 obtain⟨w1,d1,rfl,x1,s1,rp1,p1⟩:=m
 unfold mkLst at p1
 split at p1
 ·exact⟨by rw[rp1.length];assumption,fun p' hp'=>new_lst (S:=w1.S) s1 rp1 p1 p' hp'⟩
 ·exact p1.elim
theorem q_obj {es:List Expr} {m:AD} (h:PA X es (tA G m Wx)):PE X (.List es pos) (tE G (eN mkObj m) Wx):=peI (pe_lst h) fun σ H Q q=>by
 obtain⟨w,env,rfl,sr,er,p⟩:=q
 refine⟨w,env,rfl,sr,er,(Post.bind (Ra:=RepL G) p).mono (fun x H1 m=> ?_) fun _ _ _ h=>h⟩
 obtain⟨w1,d1,rfl,x1,s1,rp1,p1⟩:=m
 unfold mkObj at p1
 split at p1
 ·exact⟨by rw[rp1.length];assumption,fun p' hp'=>new_lobj s1 rp1 p1 p' hp'⟩
 ·exact p1.elim
theorem imp_chain {f g:F2} {a b c:ED} (cf:Calm2 f) (cg:Calm2 g):∀ σ H Q,tE G (eChain f g a b c) Wx σ H Q→tChain (r2 G f) (r2 G g) (tE G a Wx) (tE G b Wx) (tE G c Wx) σ H Q:=by
 intro σ H Q q
 obtain⟨w,env,rfl,sr,er,p⟩:=q
 refine⟨w,env,rfl,sr,er,(Post.bind (Ra:=Rep G) p).mono (fun x H1 m=> ?_) fun _ _ _ h=>h⟩
 obtain⟨w1,d1,rfl,x1,s1,rp1,p1⟩:=m
 refine⟨w1,env,rfl,s1,er.mono x1,(Post.bind (Ra:=Rep G) p1).mono (fun y H2 m=> ?_) fun _ _ _ h=>h⟩
 obtain⟨w2,d2,rfl,x2,s2,rp2,p2⟩:=m
 refine⟨w2,d1,d2,rfl,s2,Rep.mono x2 _ _ rp1,rp2,((Post.bind (Ra:=Rep G) p2).mono (fun z H3 m=> ?_) fun _ _ _ h=>h).calm (cf _ _ _)⟩
 obtain⟨w3,d3,rfl,x3,s3,rp3,p3⟩:=m
 cases d3 with
 |bl k=>
  simp only[Rep] at rp3
  refine⟨k,rp3,?_⟩
  cases k with
  |false=>exact iteF (Post.ret (Ra:=Rep G) s3 (by simp[Rep]) p3)
  |true=>
   refine iteT ⟨w3,env,rfl,s3,((er.mono x1).mono x2).mono x3,(Post.bind (Ra:=Rep G) p3).mono (fun z H4 m=> ?_) fun _ _ _ h=>h⟩
   obtain⟨w4,d4,rfl,x4,s4,rp4,p4⟩:=m
   exact⟨w4,d2,d4,rfl,s4,Rep.mono (WX'.trans x3 x4) _ _ rp2,rp4,p4.calm (cg _ _ _)⟩
 | _=>exact p3.elim
theorem q_chain {op op':CmpOp} {f g:F2} {a b c:Expr} {ma mb mc:ED} (ho:OpR X (compareOp op) (r2 G f)) (cf:Calm2 f) (ho':OpR X (compareOp op') (r2 G g)) (cg:Calm2 g) (ha:PE X a (tE G ma Wx)) (hb:PE X b (tE G mb Wx)) (hc:PE X c (tE G mc Wx))
 (hm:lastMarks [op,op'] [b,c] =false:=by with_unfolding_all rfl):PE X (.Compare a [op,op'] [b,c] pos) (tE G (eChain f g ma mb mc) Wx):=peI (pe_chain ho ho' ha hb hc hm) (imp_chain cf cg)
theorem q_tcmp {op:CmpOp} {f:F2} {a b:Expr} {ma mb:ED} (ho:OpR X (compareOp op) (r2 G f)) (c:Calm2 f) (ha:PE X a (tE G ma Wx)) (hb:PE X b (tE G mb Wx)) (hm:behindInMarks op b=false):PT X (.Compare a [op] [b] pos) (tT G (tOfE (e2 f ma mb)) Wx):=
 ptI (pt_cmpR ho ha hb hm) fun σ H Q q=>by
  obtain⟨w,env,rfl,sr,er,p⟩:=q
  refine imp_e2 c σ w.H _ ⟨w,env,rfl,sr,er,(Post.bind (Ra:=Rep G) p).mono (fun x H1 m=> ?_) fun _ _ _ h=>h⟩
  obtain⟨w1,d1,rfl,x1,s1,rp1,p1⟩:=m
  cases d1 with
  |bl k=>
   simp only[Rep] at rp1
   exact⟨k,rp1,Post.ret (Ra:=fun _ (a b:Bool)=>a=b) s1 rfl p1⟩
  | _=>exact p1.elim
theorem q_truth {e:Expr} {m:ED} (hK:X.K=G.K) (h:PE X e (tE G m Wx)) (he:∀whole,isTrue e X.env whole=(do let v ←whole;standAt e.pos;holding [v] (truthy v)):=by intro _;rfl):PT X e (tT G (tTruth m) Wx):=ptI (pt_truth h he) fun σ H Q q=>by
 obtain⟨w,env,rfl,sr,er,p⟩:=q
 refine⟨w,env,rfl,sr,er,(Post.bind (Ra:=Rep G) p).mono (fun x H1 m=> ?_) fun _ _ _ h=>h⟩
 obtain⟨w1,d1,rfl,x1,s1,rp1,p1⟩:=m
 have fin:∀ {k:Bool},Post G w1 (.ok k w1.S) (fun _ (a b:Bool)=>a=b) Q (fun C dx H'=>Wx C dx σ H')→Q k w1.H:=fun {k} p=>Post.ret (Ra:=fun _ (a b:Bool)=>a=b) s1 rfl p
 have emp:∀ {l:List D} {vs:List V},RepL G w1 l vs→(!l.isEmpty)= !vs.isEmpty:=fun {l vs} r=>by
  have:=r.length
  cases l<;>cases vs<;>simp_all
 cases d1 with
 |non=>simp only[Rep] at rp1;subst rp1;exact⟨false,rfl,fin p1⟩
 |bl b=>simp only[Rep] at rp1;subst rp1;exact⟨b,rfl,fin p1⟩
 |int i=>simp only[Rep] at rp1;subst rp1;exact⟨_,rfl,fin p1⟩
 |str s=>
  simp only[Rep] at rp1;subst rp1
  simp only[truthD] at p1
  split at p1
  ·rename_i hz
   refine⟨s.length != 0,⟨hz,?_⟩,fin p1⟩
   cases s.length<;>rfl
  ·exact p1.elim
 |tup l=>
  simp only[Rep] at rp1
  obtain⟨a,vs,rfl,h1,r1⟩:=rp1
  exact⟨_, .inr (.inl ⟨vs,by rw[hK];exact SqT_of h1,emp r1⟩),fin p1⟩
 |lst l=>
  simp only[Rep] at rp1
  obtain⟨a,vs,rfl,h1,_,r1⟩:=rp1
  exact⟨_, .inl ⟨vs,SqL.of h1,emp r1⟩,fin p1⟩
 |obj n=>
  simp only[truthD] at p1
  split at p1
  ·rename_i l hn
   obtain⟨a,vs,rfl,h1,r1⟩:=asL_rep (l:=l) s1 rp1 (by simp[asL,hn])
   exact⟨_, .inl ⟨vs,SqL.of h1,emp r1⟩,fin p1⟩
  ·exact p1.elim
 | _=>exact p1.elim
def mtD (x:D) (S:Store):Option String:=match x with
 | .str _=>some "str"
 | .lst _=>some "list"
 | .dic _ _=>some "dict"
 | .obj n=>match S[n]? with
   |some (.lst _)=>some "list"
   |some (.dK _)=>some "dict"
   |some (.dT _)=>some "dict"
   | _=>none
 | _=>none
def eBM (T:String) (f:D→FN) (o:ED) (a:AD):ED:=fun env S=>(o env S).bind fun x S1=>if mtD x S1=some T then(a env S1).bind fun xs S2=>f x xs S2 else .bad
theorem tyv {x:D} {v:V} {T:String} (sr:SRep G w) (r:Rep G w x v) (e:mtD x w.S=some T):tyV G.K T v w.H:=by
 cases x with
 |str s=>simp only[Rep] at r;cases e;subst r;exact rfl
 |lst l=>
  simp only[Rep] at r
  cases e
  obtain⟨a,vs,rfl,h1,_⟩:=r
  exact .inl ⟨rfl,vs,SqL.of h1⟩
 |dic ks l=>
  simp only[Rep] at r
  cases e
  obtain⟨a,vs,rfl,h1,_⟩:=r
  exact .inr (.inr (.inl ⟨rfl, .inl ⟨_,h1⟩⟩))
 |obj n=>
  simp only[Rep] at r
  obtain⟨a,hm,rfl⟩:=r
  simp only[mtD] at e
  split at e
  ·rename_i l hn
   cases e
   obtain⟨vs,h1,_⟩:=sr.obj n _ a hn hm
   exact .inl ⟨rfl,vs,SqL.of h1⟩
  ·rename_i l hn
   cases e
   obtain⟨vs,h1,_⟩:=sr.obj n _ a hn hm
   exact .inr (.inr (.inl ⟨rfl, .inl ⟨_,h1⟩⟩))
  ·rename_i l hn
   cases e
   obtain⟨vs,h1,_⟩:=sr.obj n _ a hn hm
   exact .inr (.inr (.inl ⟨rfl, .inr ⟨_,h1⟩⟩))
  ·cases e
 | _=>cases e
theorem q_bm {o e:Expr} {es:List Expr} {name:Str} {apos cpos:Pos} {T id:String} {f:D→FN} {mo:ED} {ma:AD} (hK:X.K=G.K) (pa:PlainAttrs T) (slot:Slot T name id) (hty:typeOf (.builtin id)=pure (.type "method_descriptor")) (hm:MtR X id (rM G f)) (c:CalmM f) (ho:PE X o (tE G mo Wx)) (ha:PA X (e::es) (tA G ma Wx))
 (hbase:attributeBase o name X.env (eval o X.env)=eval o X.env:=by rfl)
 (hfew:((backTo cpos (starEach (e::es) X.env)).all (fun x=> !x.1)&&(backToKw cpos (keywordEach [] X.env)).all (fun x=>x.1.isSome)
   && decide ((e::es).length+([] :List Keyword).length+(if([] :List Keyword).isEmpty then 0 else 1)<30))=true:=by rfl)
 (hline:(apos.endLine==cpos.line)=true:=by rfl) (hs:starEach (e::es) X.env=(false,eval e X.env)::starEach es X.env:=by rfl) (hplain:(backTo cpos (starEach es X.env)).any (·.1)=false:=by rfl):
 PE X (.Call (.Attribute o name apos) (e::es) [] cpos) (tE G (eBM T f mo ma) Wx):=peI (pe_bm pa slot hty hm ho ha hbase hfew hline hs hplain) fun σ H Q q=>by
 obtain⟨w,env,rfl,sr,er,p⟩:=q
 refine⟨w,env,rfl,sr,er,(Post.bind (Ra:=Rep G) p).mono (fun x H1 m=> ?_) fun _ _ _ h=>h⟩
 obtain⟨w1,d1,rfl,x1,s1,rp1,p1⟩:=m
 split at p1
 ·rename_i ht
  refine⟨by rw[hK];exact tyv s1 rp1 ht,w1,env,rfl,s1,er.mono x1,(Post.bind (Ra:=RepL G) p1).mono (fun x H1 m=> ?_) fun _ _ _ h=>h⟩
  obtain⟨w2,d2,rfl,x2,s2,rp2,p2⟩:=m
  exact⟨w2,d1,d2,rfl,s2,Rep.mono x2 _ _ rp1,rp2,p2.calm (c _ _ _)⟩
 ·exact p1.elim
def lstAt (x:D) (S:Store):Option (Nat × List D):=match x with
 | .obj n=>match S[n]? with
   |some (.lst l)=>some (n,l)
   | _=>none
 | _=>none
theorem lstAt_rep {x:D} {v:V} {n:Nat} {l:List D} (sr:SRep G w) (r:Rep G w x v) (e:lstAt x w.S=some (n,l)):∃a vs,v= .ref a∧w.S[n]? =some (.lst l)∧w.mu[n]? =some a∧w.H a=some (.lst vs)∧RepL G w l vs:=by
 cases x with
 |obj m=>
  simp only[Rep] at r
  obtain⟨a,hm,rfl⟩:=r
  simp only[lstAt] at e
  split at e
  ·rename_i l' hn
   cases e
   obtain⟨vs,h1,h2⟩:=sr.obj _ _ a hn hm
   exact⟨a,vs,rfl,hn,hm,h1,h2⟩
  ·cases e
 | _=>cases e
theorem set_lst {n:Nat} {a:Addr} {l l':List D} {vs':List V} {d:D} {y:V} {Q:VK} {E:Value→Option Addr→Hp→Prop} (sr:SRep G w) (hn:w.S[n]? =some (.lst l)) (ha:w.mu[n]? =some a) (rl:RepL G w l' vs') (rd:Rep G w d y)
 (p:Post G w (.ok d (w.S.set n (.lst l'))) (Rep G) Q E):Q y (upd w.H a (.lst vs')):=by
 obtain⟨x,s⟩:=set_obj (ob':= .lst l') (o:= .lst vs') sr hn trivial ha fun w' x e=>⟨vs',e,RepL.mono x _ _ rl⟩
 exact p y _ x rfl s (Rep.mono x _ _ rd)
def appendD:D→FN:=fun x xs S=>match lstAt x S,xs with
 |some (n,l),[y] =>if l.length<sizeLine then .ok .non (S.set n (.lst (l++ [y]))) else .bad
 | _,_=> .bad
theorem c_append:CalmM appendD:=fun x xs S=>by unfold appendD;repeat' split
                                               all_goals trivial
theorem o_append:MtR X "list.append" (rM G appendD):=mtI2 mt_append fun x xs H Q q=>by
 obtain⟨w,d,ds,rfl,sr,r1,rl,p⟩:=q
 unfold appendD at p
 split at p
 ·rename_i n l y he
  split at p
  ·rename_i hz
   obtain⟨a,vs,rfl,hn,hm,h1,h2⟩:=lstAt_rep sr r1 he
   simp only[RepL] at rl
   obtain⟨v,r',rfl,ry,rfl⟩:=rl
   exact⟨a,vs,v,rfl,rfl,h1,by rw[h2.length];exact hz,set_lst sr hn hm (h2.append (RepL.one ry)) (by simp[Rep]) p⟩
  ·exact p.elim
 ·exact p.elim
def putD {κ :Type} [DecidableEq κ] (kvs:List (κ × D)) (k: κ) (v:D):List (κ × D):=
 if(kvs.any fun kv=>decide (kv.1=k))=true then kvs.map (fun kv=>if kv.1=k then(kv.1,v) else kv) else kvs++ [(k,v)]
theorem any_put {κ :Type} [DecidableEq κ] (k: κ):∀ {kvs:List (κ × D)} {vs:List (κ × V)},RepKV G w kvs vs→(kvs.any fun kv=>decide (kv.1=k))=(vs.any fun kv=>decide (kv.1=k))
 | [],vs,h=>by
   have:vs= [] :=h
   subst this;rfl
 |p::r,vs,h=>by
  obtain⟨v,y,rfl,h1,h2⟩:=h
  simp only[List.any_cons,any_put k h2]
theorem map_put {κ :Type} [DecidableEq κ] {d:D} {v:V} (k: κ) (rv:Rep G w d v):∀ {kvs:List (κ × D)} {vs:List (κ × V)},RepKV G w kvs vs→
 RepKV G w (kvs.map (fun kv=>if kv.1=k then(kv.1,d) else kv)) (vs.map (fun kv=>if kv.1=k then(kv.1,v) else kv))
 | [],vs,h=>by
   have:vs= [] :=h
   subst this;rfl
 |p::r,vs,h=>by
  obtain⟨u,y,rfl,h1,h2⟩:=h
  simp only[List.map_cons]
  by_cases e:p.1=k
  ·rw[if_pos e,if_pos e];exact⟨v,_,rfl,rv,map_put k rv h2⟩
  ·rw[if_neg e,if_neg e];exact⟨u,_,rfl,h1,map_put k rv h2⟩
theorem RepKV.append {κ :Type} :∀ {a b:List (κ × D)} {x y:List (κ × V)},RepKV G w a x→RepKV G w b y→RepKV G w (a++b) (x++y)
 | [],_,x,_,h,h'=>by
   have:x= [] :=h
   subst this;exact h'
 |p::r,b,x,y,h,h'=>by
  obtain⟨u,z,rfl,h1,h2⟩:=h
  exact⟨u,z++y,rfl,h1,RepKV.append h2 h'⟩
theorem RepKV.put {κ :Type} [DecidableEq κ] {kvs:List (κ × D)} {vs:List (κ × V)} {d:D} {v:V} (k: κ) (h:RepKV G w kvs vs) (rv:Rep G w d v):RepKV G w (putD kvs k d) (putK vs k v):=by
 unfold putD putK
 rw[any_put k h]
 split
 ·exact map_put k rv h
 ·exact h.append ⟨v,[],rfl,rv,rfl⟩
def setD (o i v:D) (S:Store):Option Store:=match o with
 | .obj n=>match S[n]? with
   |some (.lst l)=>match i with
    | .int k=>match ixN l.length k with
      |some j=>some (S.set n (.lst (l.set j v)))
      |none=>none
    | _=>none
   |some (.dK kvs)=>match keyOf i with
    |some k=>if kvs.length<sizeLine then some (S.set n (.dK (putD kvs k v))) else none
    |none=>none
   |some (.dT kvs)=>match tkOf i with
    |some k=>if kvs.length<sizeLine then some (S.set n (.dT (putD kvs k v))) else none
    |none=>none
   | _=>none
 | _=>none
def gSub (mo mi:ED):GD:=fun v env S=>match mo env S with
 | .ok o S1=>match mi env S1 with
   | .ok i S2=>match setD o i v S2 with
     |some S3=> .nx env S3
     |none=> .bad
   | _=> .bad
 | _=> .bad
def tSetD (G:GC):TSet:=fun o i v H k=>∃w d1 d2 d3 S',w.H=H∧SRep G w∧Rep G w d1 o∧Rep G w d2 i∧Rep G w d3 v∧setD d1 d2 d3 w.S=some S'∧∀w',WExt w w'→w'.S=S'→SRep G w'→k w'.H
theorem RepKV.len {κ :Type} :∀ {kvs:List (κ × D)} {vs:List (κ × V)},RepKV G w kvs vs→vs.length=kvs.length
 | [],vs,h=>by
   have:vs= [] :=h
   subst this;rfl
 |p::r,vs,h=>by
  obtain⟨u,y,rfl,h1,h2⟩:=h
  simp[RepKV.len h2]
theorem o_set (hu:X.A.units+1<cLine):PSet X (tSetD G):=by
 intro pins s σ H o i v ov iv u Q I ro ri ru q
 obtain⟨w,d1,d2,d3,S',rfl,sr,r1,r2,r3,e,k⟩:=q
 unfold setD at e
 split at e
 ·rename_i n
  split at e
  ·rename_i l hn
   split at e
   ·rename_i j
    split at e
    ·rename_i jj hj
     cases e
     simp only[Rep] at r1 r2
     obtain⟨a,hm,rfl⟩:=r1
     obtain⟨vs,h1,h2⟩:=sr.obj n _ a hn hm
     refine set_list pins s σ w.H (.ref a) i v ov iv u Q I ro ri ru ⟨a,vs,j,jj,rfl,r2,h1,by rw[h2.length];exact hj,?_⟩
     obtain⟨x,s'⟩:=set_obj (ob':= .lst (l.set jj d3)) (o:= .lst (vs.set jj v)) sr hn trivial hm fun w' x e=>⟨_,e,RepL.mono x _ _ (h2.set jj r3)⟩
     exact k _ x rfl s'
    ·cases e
   ·cases e
  ·rename_i kvs hn
   split at e
   ·rename_i kk hk
    split at e
    ·rename_i hz
     cases e
     have ek:=keyOf_rep r2 hk
     subst ek
     simp only[Rep] at r1
     obtain⟨a,hm,rfl⟩:=r1
     obtain⟨vs,h1,h2⟩:=sr.obj n _ a hn hm
     refine set_dict hu pins s σ w.H (.ref a) (kV kk) v ov iv u Q I ro ri ru ⟨a,_,rfl,DPut.k h1 (by rw[h2.len];exact hz),?_⟩
     obtain⟨x,s'⟩:=set_obj (ob':= .dK (putD kvs kk d3)) (o:= .dK (putK vs kk v)) sr hn trivial hm fun w' x e=>⟨_,e,RepKV.mono x _ _ (h2.put kk r3)⟩
     exact k _ x rfl s'
    ·cases e
   ·cases e
  ·rename_i kvs hn
   split at e
   ·rename_i kk hk
    split at e
    ·rename_i hz
     cases e
     obtain⟨bb,rfl,eb,_⟩:=tk_rep r2 hk
     simp only[Rep] at r1
     obtain⟨a,hm,rfl⟩:=r1
     obtain⟨vs,h1,h2⟩:=sr.obj n _ a hn hm
     refine set_dict hu pins s σ w.H (.ref a) (.ref bb) v ov iv u Q I ro ri ru ⟨a,_,rfl,DPut.t h1 eb (by rw[h2.len];exact hz),?_⟩
     obtain⟨x,s'⟩:=set_obj (ob':= .dT (putD kvs kk d3)) (o:= .dT (putK vs kk v)) sr hn trivial hm fun w' x e=>⟨_,e,RepKV.mono x _ _ (h2.put kk r3)⟩
     exact k _ x rfl s'
    ·cases e
   ·cases e
  ·cases e
 ·cases e
theorem q_gsub {o i:Expr} {mo mi:ED} (hu:X.A.units+1<cLine) (ho:PE X o (tE G mo Wx)) (hi:PE X i (tE G mi Wx))
 (ha:∀v,assign (.Subscript o i pos) X.env v=(do
   let ov ←holding [v] (eval o X.env)
   let iv ←holding [v,ov] (eval i X.env)
   standAt pos
   holding [v,ov,iv] (setItem ov iv v)
   release [v,ov,iv] []):=by intro _;rfl):PG X (.Subscript o i pos) (tG G (gSub mo mi)):=pgI (pg_sub ho hi (o_set hu) ha) fun v σ H Q q=>by
 obtain⟨w,env,d,rfl,sr,er,rp,p⟩:=q
 unfold gSub at p
 cases h1:mo env w.S with
 |ok o S1=>
  rw[h1] at p
  refine⟨w,env,rfl,sr,er,?_⟩
  rw[h1]
  intro vo w1 x1 e1 s1 ro
  subst e1
  simp only at p
  cases h2:mi env w1.S with
  |ok i S2=>
   rw[h2] at p
   refine⟨w1,env,rfl,s1,er.mono x1,?_⟩
   rw[h2]
   intro vi w2 x2 e2 s2 ri
   subst e2
   simp only at p
   cases h3:setD o i d w2.S with
   |some S3=>
    rw[h3] at p
    refine⟨w2,o,i,d,S3,rfl,s2,Rep.mono x2 _ _ ro,ri,Rep.mono (WX'.trans x1 x2) _ _ rp,h3,fun w3 x3 e3 s3=> ?_⟩
    exact p σ w3 (WX'.trans (WX'.trans x1 x2) x3) e3 s3 (((er.mono x1).mono x2).mono x3)
   |none=>rw[h3] at p;exact p.elim
  |exc _ _=>rw[h2] at p;exact p.elim
  |bad=>rw[h2] at p;exact p.elim
 |exc _ _=>rw[h1] at p;exact p.elim
 |bad=>rw[h1] at p;exact p.elim
theorem gn_sub {mo mi:ED} :GOk (gSub mo mi):=fun d env S=>by
 unfold gSub
 cases mo env S with
 |ok o S1=>
  simp only
  cases mi env S1 with
  |ok i S2=>
   simp only
   cases setD o i d S2 with
   |some S3=>exact .inl ⟨_,_,rfl⟩
   |none=>exact .inr rfl
  |exc _ _=>exact .inr rfl
  |bad=>exact .inr rfl
 |exc _ _=>exact .inr rfl
 |bad=>exact .inr rfl
theorem gNames_nx:∀ {is:List Nat} {ds:List D} {env:EnvD} {S:Store},(∃ env',gNames is ds env S= .nx env' S)∨gNames is ds env S= .bad
 | [],[],_,_=> .inl ⟨_,rfl⟩
 | [],_::_,_,_=> .inr rfl
 | _::_,[],_,_=> .inr rfl
 |i::is,d::ds,env,S=>gNames_nx (is:=is) (ds:=ds) (env:=env.set i (some d)) (S:=S)
def tGs (G:GC) (is:List Nat):TGs:=fun vs σ H Q=>∃w env ds env',w.H=H∧SRep G w∧ERep G w env σ ∧RepL G w ds vs∧gNames is ds env w.S= .nx env' w.S∧∀ σ',ERep G w env' σ'→Q σ' H
theorem pgsI {e:List Expr} {t t':TGs} (h:PGs X e t) (i:∀v σ H Q,t' v σ H Q→t v σ H Q):PGs X e t':=⟨fun pins s σ H v u Q I r q=>h.run pins s σ H v u Q I r (i _ _ _ _ q)⟩
theorem q_gsnil:PGs X [] (tGs G []):=pgsI pgs_nil fun v σ H Q q=>by
 obtain⟨w,env,ds,env',rfl,sr,er,rl,e,k⟩:=q
 cases ds with
 |nil=>
  simp only[RepL] at rl
  cases e
  exact⟨rl,k σ er⟩
 |cons _ _=>cases e
theorem q_gscons {e:Expr} {es:List Expr} {i:Nat} {is:List Nat} (h1:PG X e (L2.gName i)) (h2:PGs X es (tGs G is))
 (hs:(assignEach (e::es) X.env).map (·.2)=assign e X.env::(assignEach es X.env).map (·.2):=by rfl):PGs X (e::es) (tGs G (i::is)):=pgsI (pgs_cons h1 h2 hs) fun v σ H Q q=>by
 obtain⟨w,env,ds,env',rfl,sr,er,rl,e,k⟩:=q
 cases ds with
 |nil=>cases e
 |cons d ds=>
  simp only[RepL] at rl
  obtain⟨v,r,rfl,r1,r2⟩:=rl
  exact⟨v,r,rfl,w,_,ds,env',rfl,sr,er.set i r1,r2,e,k⟩
theorem q_gtup {es:List Expr} {k:Nat} {is:List Nat} (hK:X.K=G.K) (hc:X.calm=true) (h:PGs X es (tGs G is)) (hn:(assignEach es X.env).length=is.length:=by rfl) (hst:(assignEach es X.env).findIdx? (·.1)=none:=by rfl):
 PG X (.Tuple es k pos) (tG G (gTup is)):=pgI (pg_tup hc h hn hst) fun v σ H Q q=>by
 obtain⟨w,env,d,rfl,sr,er,rp,p⟩:=q
 have ln:∀ {is:List Nat} {l:List D} {env env':EnvD} {S S':Store},gNames is l env S= .nx env' S'→l.length=is.length:=by
  intro is
  induction is with
  |nil=>intro l env env' S S' e;cases l with
   |nil=>rfl
   |cons _ _=>cases e
  |cons i is ih=>intro l env env' S S' e;cases l with
   |nil=>cases e
   |cons d l=>simp only[List.length_cons];rw[ih e]
 cases d with
 |tup l=>
  simp only[Rep] at rp
  obtain⟨a,vs,rfl,h1,rl⟩:=rp
  simp only[gTup] at p
  rcases gNames_nx (is:=is) (ds:=l) (env:=env) (S:=w.S) with⟨env',e⟩|e
  ·rw[e] at p
   refine⟨a,vs,rfl,by rw[hK];exact SqT_of h1,by rw[rl.length];exact ln e,w,env,l,env',rfl,sr,er,rl,e,fun σ' er'=>p σ' w (.refl _) rfl sr er'⟩
  ·rw[e] at p;exact p.elim
 |wtp l=>
  simp only[Rep] at rp
  obtain⟨a,rfl,h1⟩:=rp
  have rl:RepL G w (l.map .int) (l.map V.int):=RepL_ints.mpr rfl
  simp only[gTup] at p
  rcases gNames_nx (is:=is) (ds:=l.map .int) (env:=env) (S:=w.S) with⟨env',e⟩|e
  ·rw[e] at p
   refine⟨a,_,rfl,by rw[hK];exact .inr h1,by rw[rl.length];exact ln e,w,env,_,env',rfl,sr,er,rl,e,fun σ' er'=>p σ' w (.refl _) rfl sr er'⟩
  ·rw[e] at p;exact p.elim
 | _=>exact p.elim
theorem gn_tup {is:List Nat} :GOk (gTup is):=fun d env S=>by
 cases d with
 |tup l=>
  rcases gNames_nx (is:=is) (ds:=l) (env:=env) (S:=S) with⟨env',e⟩|e
  ·exact .inl ⟨env',S,e⟩
  ·exact .inr e
 |wtp l=>
  rcases gNames_nx (is:=is) (ds:=l.map .int) (env:=env) (S:=S) with⟨env',e⟩|e
  ·exact .inl ⟨env',S,e⟩
  ·exact .inr e
 | _=>exact .inr rfl
def sPar (is:List Nat) (a:AD):SD:=fun env S=>(a env S).toS env fun xs S1=>gNames is xs env S1
end
end L3
namespace L3
open PySem PySem.Spec PyProof.Rows L2
structure Cal (P:Program) (w:World) (G:GC) (base:Heap) (k:Nat) (x:Str) (f:Addr) (fd:FuncData) (ps:List Str) (F:FN):Prop where
 ok:FnG P w G.K G.mg base k f fd ps (spOf G F)
 m:G.mg x=some (.ref f)
 kp:PySem.W.keepIn G.K (.ref f)=true
def Bnd (G:GC) (fd:FuncData) (ps:List Str) (dds:List D):Prop:=∃dvs ds,Vals dvs ds∧Binds G.K fd ps ds∧∀w,RepL G w dds dvs
theorem bnd0 {G:GC} {fd:FuncData} {ps:List Str} (h:Binds G.K fd ps []):Bnd G fd ps [] :=⟨[],[], .nil,h,fun w=>by simp[RepL]⟩
def eKw (f:List D→FN) (a b:AD):ED:=fun env S=>(a env S).bind fun xs S1=>(b env S1).bind fun zs S2=>f xs zs S2
theorem u150 {k:Nat} {A:Around} (h:RoomG k A):A.units+150<cLine:=by have:=h.rm.un;omega
theorem u1 {k:Nat} {A:Around} (h:RoomG k A):A.units+1<cLine:=by have:=h.rm.un;omega
section
variable {X:Cx} {G:GC} {Wx:WX} {pos p:Pos} {k:Nat} {f:Addr} {fd:FuncData} {ps:List Str} {F:FN} {x:Str} {e:Expr} {es:List Expr} {dds:List D} {m:AD} {P:Program} {w:World} {base:Heap}
theorem q_fn (c:Cal X.prog X.w G X.base k x f fd ps F) (b:Bnd G fd ps dds) (hr:RoomG k X.A) (hK:X.K=G.K) (hm:X.mg=G.mg) (hg:Gl X x) (tk:Takes X Wx)
 (ha:PA X (e::es) (tA G m Wx)) (hdb:(x==("__debug__" :Str))=false:=by decide) (he:starEach (e::es) X.env=(false,eval e X.env)::starEach es X.env:=by rfl) (hpl:(backTo pos (starEach es X.env)).any (·.1)=false:=by rfl):
 PE X (.Call (.Name x p) (e::es) [] pos) (tE G (eN (callK F dds) m) Wx):=by
 obtain⟨dvs,ds,h1,h2,h3⟩:=b
 exact q_call (by rw[hK,hm];exact c.ok) hr hg (by rw[hm];exact c.m) (by rw[hK];exact c.kp) (by rw[hK];exact h2) h1 h3 tk ha hdb he hpl
def eFnL (i:Nat) (x:Str) (F:FN) (a:AD):ED:=fun env S=>match env[i]? with
 |some (some (.glb y))=>if y=x then(a env S).bind fun xs S1=>F xs S1 else .bad
 | _=> .bad
theorem q_tb {e:Expr} {m:TD} (h:PW X e (tT G m Wx)):PT X e (tT G m Wx):=h.pt
theorem w_or1 {a:Expr} {ma:TD} (h:PT X a (tT G ma Wx)):PW X (.BoolOp .Or [a] pos) (tT G ma Wx):=pw_or1 h
theorem w_or {a b:Expr} {rest:List Expr} {ma mb:TD} (ha:PT X a (tT G ma Wx)) (hb:PW X (.BoolOp .Or (b::rest) pos) (tT G mb Wx)):PW X (.BoolOp .Or (a::b::rest) pos) (tT G (tOr ma mb) Wx):=pwI (pw_or ha hb) imp_or
end
theorem b_len:bootBuiltins "len" =some (.builtin "len"):=by decide +kernel
theorem b_all:bootBuiltins "all" =some (.builtin "all"):=by decide +kernel
theorem b_max:bootBuiltins "max" =some (.builtin "max"):=by decide +kernel
theorem b_min:bootBuiltins "min" =some (.builtin "min"):=by decide +kernel
theorem b_abs:bootBuiltins "abs" =some (.builtin "abs"):=by decide +kernel
theorem b_int:bootBuiltins "int" =some (.type "int"):=by decide +kernel
end L3
namespace L3
open PySem PySem.Spec PyProof.Rows L2
section
variable {G:GC} {X:Cx} {Wx:WX} {pos:Pos} {w:Wd}
theorem RepKV.parts {κ :Type} :∀ {kvs:List (κ × D)} {vs:List (κ × V)},RepKV G w kvs vs→∃us,vs=(kvs.map (·.1)).zip us∧RepL G w (kvs.map (·.2)) us
 | [],vs,h=>by
   have:vs= [] :=h
   subst this;exact⟨[],rfl,by simp[RepL]⟩
 |p::r,vs,h=>by
  obtain⟨u,z,rfl,h1,h2⟩:=h
  obtain⟨us,rfl,h3⟩:=RepKV.parts h2
  exact⟨u::us,rfl,by simp only[List.map_cons,RepL];exact⟨u,us,rfl,h1,h3⟩⟩
def eDic0:ED:=fun _ S=> .ok (.dic [] []) S
def eDct0:ED:=fun _ S=> .ok (.obj S.length) (S++ [.dK []])
end
end L3
namespace L3
open PySem PySem.Spec PyProof.Rows L2
section
variable {G:GC} {x:Str} {a:Addr}
def spLaw (K:PySem.W.Frag):Sp:=fun vs H Q _=>∃(a:Addr) (ns:List Int),vs= [.ref a] ∧ns.length≤63∧Only H∧SqL K H a (ns.map V.int)∧∀H',Q (.bl true) H'
theorem law_ok {P:Program} {w:World} {base:Heap} {k:Nat} {f:Addr} {fd:FuncData} {x:Str} {F:FN} (hF:FnG P w G.K G.mg base k f fd [x] (spOf G F)) (true_:∀ns:List Int,ns.length≤63→∃S,F [.scr ns] [] = .ok (.bl true) S):
 FnG P w G.K G.mg base k f fd [x] (spLaw G.K):=by
 refine hF.imp fun vs H Q E h=> ?_
 obtain⟨a,ns,rfl,hl,ho,hS,hQ⟩:=h
 obtain⟨S,e⟩:=true_ ns hl
 refine⟨⟨[],[],H,[]⟩,[.scr ns],rfl,⟨rfl,fun n m a o o' h=>by simp at h,fun n o a h=>by simp at h,fun a h=>by simp at h⟩,?_,?_⟩
 ·simp only[RepL,Rep]
  refine⟨.ref a,[],rfl,⟨a,rfl,?_⟩,rfl⟩
  rcases hS with h|h
  ·exact .inl ⟨h,fun m=>m.elim (fun⟨n,o,h,_⟩=>by simp at h) fun h=>by simp at h⟩
  ·exact .inr h
 ·rw[e]
  intro v w' x hs s r
  simp only[Rep] at r
  subst r
  exact hQ _
theorem cx_none {P:Program} {w:World} {H:Hp} {s:Shared} {e:Value} {s':Shared} (h:L2.CX P w [] H s (fun _ _ _=>False) e s'):False:=by
 obtain⟨_,_,_,_,_,_,_,_,_,_,_,_,z⟩:=h
 exact z
theorem funD_mk {K:PySem.W.Frag} {x qual:Str} {params:Arguments} {body:List Stmt} {scope:Scope} {kws:List (Str × V)} {f:Addr} {oc:Value} {od an:Option Addr} {osl:Array (Option Value)} {kV doc pm cdv ct:Value}
 (l:K.lookup f=some ⟨oc,od, .func (PySem.W.fnOf x qual params body scope .none kV doc pm an cdv ct),osl⟩) (c:PySem.W.codeIn K cdv qual=true) (k:PySem.W.keepIn K (.ref f)=true) (kw:KwdV K kV kws):
 FunD K x qual params body scope [] kws f (PySem.W.fnOf x qual params body scope .none kV doc pm an cdv ct):=
 ⟨⟨oc,od, .none,kV,doc,pm,an,cdv,ct,osl,rfl,l,c, .inl ⟨rfl,rfl⟩,kw⟩,k⟩
theorem kw_none {K:PySem.W.Frag} {kV:Value} :KwdV K kV [] := .inl rfl
theorem roomG_caller {k:Nat} (h:Room k callerA):RoomG k callerA:=⟨h,rfl⟩
theorem top_core {P:Program} {w:World} {K:PySem.W.Frag} {mg mb:Str→Option Value} {k:Nat} {fa sc:Addr} {fd:FuncData} {x:Str} {sp:Sp} {st:Shared} {its:List Value} {ns:List Int} {H:Hp}
 (inK:K.In st.heap) (main:st.heap.Ns mainGlobals mg) (bns:st.heap.Ns builtinsNs mb) (boot:∀y:Str,y≠ "__name__" →mb y=bootBuiltins y) (nl:st.heap.NoLimit) (ng:st.gens= #[])
 (at_:st.heap.get? sc=some { cls:= .type "list",data:= .seq its.toArray }) (room:Room k callerA)
 (mods:∃mm,st.heap.Ns sysModules mm) (F:∀base:Heap,K.In base→base.Ns mainGlobals mg→(∃ o,base.get? sysModules=some o)→FnG P w K mg base k fa fd [x] sp) (bind:∀(s:Shared) (u:Value),BindsTo s fd ⟨[u],[]⟩ [(x,u)])
 (only:Only H) (held:HOk P w H st.heap) (alone:∀b,H b≠none→b=sc) (apart:H sc≠none→K.lookup sc=none)
 (want:sp [.ref sc] H (fun v _=>v= .bl true) fun _ _ _=>False):
 codeAny (model P w) callerA (.call (.ref fa) ⟨[.ref sc],[]⟩) (fun r s'=>r= .ok (.ret (.bool true))∧OldK st.heap s'.heap∧s'.os=st.os∧AllBare s'.gens) st:=by
 have shown:∀ {b:Addr} {o:Obj},st.heap.get? b=some o→(b=sc→H sc=none)→(hidT st.heap H).get? b=some o:=fun {b o} e n=>by
  refine hidT_get e ?_
  by_cases hb:b=sc
  ·rw[hb];exact n hb
  ·exact Classical.byContradiction fun z=>hb (alone b z)
 have dicts:∀ {b:Addr} {m:Str→Option Value},st.heap.Ns b m→(hidT st.heap H).Ns b m:=fun {b m} z=>by
  obtain⟨o,es,ep,e,d,q⟩:=z
  refine⟨o,es,ep,shown e fun hb=> ?_,d,q⟩
  rw[hb,at_] at e
  cases e
  cases(show Data.seq its.toArray _=Data.dict es ep from d)
 have inB:K.In (hidT st.heap H):=fun b o e=>shown (inK b o e) fun hb=>Classical.byContradiction fun z=>by
  rw[hb,apart z] at e;cases e
 obtain⟨mc,nl1,nl2⟩:=nl
 have world:Mod K mg (hidT st.heap H):=⟨inB,dicts main,⟨mb,dicts bns,boot⟩,⟨mc,dicts nl1,nl2⟩⟩
 have entry:Env0 P w K mg (hidT st.heap H) callerA [] st H:=
  { frames:=rfl,mod:=world,bs:=fun b o e=>of_hidT e,bsz:=Nat.le_of_eq (hidT_size _ _),funs:=trivial,frf:=fun b z=>(by cases z),hok:=held,bare:= .of_eq ng }
 have there:∃o,(hidT st.heap H).get? sysModules=some o:=by
  obtain⟨mm,z⟩:=mods
  obtain⟨o,_,_,e,_⟩:=dicts z
  exact⟨o,e⟩
 have run:=(F _ inB (dicts main) there).go callerA [] st H ⟨[.ref sc],[]⟩ [.ref sc] [.ref sc] _ _ (roomG_caller room) entry (bind st (.ref sc)) (.cons rfl .nil) want
 refine codeAny_mono run fun r s' z=> ?_
 match r,z with
 | .error e,z=>exact(cx_none z).elim
 | .ok (.ret u),⟨v,H',e1,e2,e3,e4,e5,e6⟩=>
   have e6:v= .bl true:=e6
   subst e6
   obtain rfl:u=Value.bool true:=e5
   refine⟨rfl,OldK.of_keep fun b o e=> ?_,e1,e2⟩
   rcases only b with z|⟨ob,xs,z⟩
   ·exact e3.keep b o e z (fun q=>by cases q) (fun q=>by cases q)
   ·have old:=(held b _ z).1
    have new:=(e4 b _ (e3.frzs b ob _ z)).1
    rw[e] at old
    cases old
    exact new
theorem top_call {P:Program} {w:World} {K:PySem.W.Frag} {mg mb:Str→Option Value} {k:Nat} {fa sc:Addr} {fd:FuncData} {x:Str} {sp:Sp} {st:Shared} {its:List Value} {ns:List Int}
 (inK:K.In st.heap) (main:st.heap.Ns mainGlobals mg) (bns:st.heap.Ns builtinsNs mb) (boot:∀y:Str,y≠ "__name__" →mb y=bootBuiltins y) (nl:st.heap.NoLimit) (ng:st.gens= #[])
 (at_:st.heap.get? sc=some { cls:= .type "list",data:= .seq its.toArray }) (hi:IntsAre its ns) (size:ns.length≤sizeLine) (room:Room k callerA)
 (mods:∃mm,st.heap.Ns sysModules mm) (F:∀base:Heap,K.In base→base.Ns mainGlobals mg→(∃ o,base.get? sysModules=some o)→FnG P w K mg base k fa fd [x] sp) (bind:∀(s:Shared) (u:Value),BindsTo s fd ⟨[u],[]⟩ [(x,u)])
 (want:∀H:Hp,Only H→SqL K H sc (ns.map V.int)→sp [.ref sc] H (fun v _=>v= .bl true) fun _ _ _=>False):
 codeAny (model P w) callerA (.call (.ref fa) ⟨[.ref sc],[]⟩) (fun r s'=>r= .ok (.ret (.bool true))∧OldK st.heap s'.heap∧s'.os=st.os∧AllBare s'.gens) st:=by
 have rel:=vals_ints hi
 by_cases hk:∃o,K.lookup sc=some o
 ·obtain⟨o,hk⟩:=hk
  obtain rfl:o=_:=Option.some.inj ((inK sc o hk).symm.trans at_)
  have none_:∀b:Addr,(fun _=>none:Hp) b=none:=fun _=>rfl
  refine top_core (H:=fun _=>none) (ns:=ns) inK main bns boot nl ng at_ room mods F bind (fun b=> .inl rfl) (fun b u z=> ?_) (fun b z=>absurd rfl z) (fun z=>absurd rfl z) (want _ (fun b=> .inl rfl) (.inr ⟨_,its.toArray,_,hk,rfl,rfl,rfl,?_,by simpa using rel⟩))
  ·cases(show(none:Option HO)=some u from z)
  ·rw[List.size_toArray,hi.length];exact size
 ·let o0:Obj:= { cls:= .type "list",data:= .seq its.toArray }
  let H0:Hp:=upd (fun _=>none) sc (.frz o0 (.lst (ns.map V.int)))
  have here:H0 sc=some (.frz o0 (.lst (ns.map V.int))):=upd_same
  have there:∀b,b≠sc→H0 b=none:=fun b hb=>upd_ne hb
  have only:Only H0:=fun b=>by
   by_cases hb:b=sc
   ·rw[hb];exact .inr ⟨o0,_,here⟩
   ·exact .inl (there b hb)
  refine top_core (H:=H0) (ns:=ns) inK main bns boot nl ng at_ room mods F bind only (fun b u z=> ?_) (fun b z=>Classical.byContradiction fun hb=>z (there b hb)) (fun _=> ?_) (want H0 only (.inl (.inr ⟨o0,here⟩)))
  ·by_cases hb:b=sc
   ·subst hb
    rw[here] at z
    cases z
    exact⟨at_,by rw[List.length_map];exact size,its,_,rel,at_⟩
   ·rw[there b hb] at z;cases z
  ·cases q:K.lookup sc with
   |none=>rfl
   |some o=>exact absurd ⟨o,q⟩ hk
theorem walk {l:PySem.W.OpenLaw} {q:Program} {loose:List Str} {XP:(Str→Option Value)→Heap→Prop} {YP:World→Heap→Prop} {d:DefRec} {K:Params→PySem.W.Frag} {k:Nat} {x:Str} (hn:l.most=some 63) (hi:importsNone q=true) (hdf:d.params.defaults= []) (hr:Room k callerA)
 (hY:∀(w:World) (h:Heap),YP w h→(K w.params).In h)
 (F:∀(w:World) (mg:Str→Option Value) (fa:Addr) (h:Heap),(K w.params).In h→h.Ns mainGlobals mg→mg d.name=some (.ref fa)→
   ∃fd:FuncData,(∀ (s:Shared) (u:Value),BindsTo s fd ⟨[u],[]⟩ [(x,u)])∧∀base:Heap,(K w.params).In base→base.Ns mainGlobals mg→(∃ o,base.get? sysModules=some o)→FnG l.prog w (K w.params) mg base k fa fd [x] (spLaw (K w.params))):
 PySem.W.WalkO q loose XP YP l.row.toRowW d [] (fun f vs=>PySem.call f vs):=by
 refine Att.attach_call hn hdf fun w s₀ s₁ mg mb fa o pm cd doc a vs ns G Y ho hd hcd hmg hobj hints hlen hg=> ?_
 obtain⟨fd,hb,hF⟩:=F w mg fa _ (hY w _ Y) G.T.g hmg
 exact top_call (hY w _ Y) G.T.g G.T.b G.T.builtins G.T.nolimit hg hobj hints (Nat.le_trans hlen (by decide)) hr (let⟨mm,z,_⟩:=(G.T.seer hi).mods;⟨mm,z⟩) hF hb fun H hO hS=>⟨a,ns,rfl,hlen,hO,hS,fun _=>rfl⟩
end
end L3
namespace L3
open PySem PySem.Spec PyProof.Rows L2
abbrev PD:=EnvD→Store→R (Option Int)
def pNo:PD:=fun _ S=> .ok none S
def pYes (a:ED):PD:=fun env S=>(a env S).bind fun x S1=>match x with
 | .int i=> .ok (some i) S1
 | _=> .bad
def cutL {α :Type} (xs:List α) (lo hi:Option Int):List α :=(xs.drop (HT.sIx xs.length 0 lo)).take (HT.sIx xs.length xs.length hi-HT.sIx xs.length 0 lo)
def slD (x:D) (lo hi:Option Int) (S:Store):R D:=match x with
 | .tup l=> .ok (.tup (cutL l lo hi)) S
 | .str z=>if z.length≤sizeLine then .ok (.str (cutS z lo hi)) S else .bad
 |x=>match asL x S with
  |some l=> .ok (.lst (cutL l lo hi)) S
  |none=> .bad
def eSl (a:ED) (l h:PD):ED:=fun env S=>(a env S).bind fun x S1=>(l env S1).bind fun lo S2=>(h env S2).bind fun hi S3=>slD x lo hi S3
section
variable {G:GC} {X:Cx} {Wx:WX} {pos p2:Pos} {w:Wd}
def keyPy:Key→PyData
 | .inl i=> .int i
 | .inr x=> .str x
mutual
def toPyR:D→Option PyData
 | .non=>some .none
 | .bl b=>some (.bool b)
 | .int i=>some (.int i)
 | .str s=>some (.str s)
 | .tup l=>(toPyRL l).map .tuple
 | .lst l=>(toPyRL l).map .list
 | .dic ks l=>if ks.length=l.length then(toPyRL l).map fun xs=> .dict ((ks.map keyPy).zip xs) else none
 | .obj _=>none
 | .glb _=>none
 | .wtp _=>none
 | .ty _=>none
 | .scr _=>none
 | .kd _ _=>none
 | .xcp _ _ _=>none
 | .lam _ _=>none
def toPyRL:List D→Option (List PyData)
 | [] =>some []
 |d::ds=>match toPyR d,toPyRL ds with
  |some x,some xs=>some (x::xs)
  | _,_=>none
end
theorem toPyRL_len:∀(l:List D) (xs:List PyData),toPyRL l=some xs→xs.length=l.length
 | [],xs,h=>by simp only[toPyRL,Option.some.injEq] at h;subst h;rfl
 |d::l,xs,h=>by
  simp only[toPyRL] at h
  split at h
  ·rename_i y ys e1 e2
   cases h
   simp[toPyRL_len l ys e2]
  ·cases h
theorem dict_reads {P:Program} {w:World} {h:Heap} :∀ {es:List DictEntry} {kvs:List (Key × Value)} {ks:List Key} {vs:List V},vs.length=ks.length→KV (ks.zip vs) kvs→Pairs (mixKind P w) es kvs→
 ReadsAll h (es.map (·.key)) (ks.map keyPy) [] ∧Vals vs (es.map (·.val))
 | _,_,[],[],_,r,pr=>by cases r;cases pr;exact⟨.nil, .nil⟩
 | _,_,[],v::vs,hl,_,_=>by simp at hl
 | _,_,k::ks,[],hl,_,_=>by simp at hl
 | _,_,k::ks,v::vs,hl,r,pr=>by
   cases r with
   |cons r1 r2=>
    cases pr with
    |cons p1 p2 p3=>
     obtain⟨q1,q2⟩:=dict_reads (h:=h) (ks:=ks) (vs:=vs) (by simpa using hl) r2 p3
     refine⟨?_, .cons (by show L2.RelV v _;simp only [];rw[p2];exact r1.2) q2⟩
     have e1:k=_:=r1.1
     rename_i en es'
     have rd:Reads h en.key (keyPy k) [] :=by
      rcases keyIs_shape p1 with⟨i,t,e2,e3⟩|⟨x,t,e2,e3⟩
      ·rw[e3,e1.trans e2];exact .int i t
      ·rw[e3,e1.trans e2];exact .str x t
     exact .cons (as:= []) (bs:= []) rd q1
mutual
theorem reads_of {pins:List (Addr × Obj)} {s:Shared} {σ :L2.St} (hK:X.K=G.K) (hS:w.H sysModules=none) (I:Inv X pins σ w.H s):∀(d:D) (v:V) (u:Value) (x:PyData),Rep G w d v→toPyR d=some x→RelV v u→∃as,Reads s.heap u x as∧sysModules ∉ as
 | .non,v,u,x,r,e,rv=>by simp only[Rep] at r;subst r;cases e;cases rv;exact⟨[], .none,by simp⟩
 | .bl b,v,u,x,r,e,rv=>by simp only[Rep] at r;subst r;cases e;cases rv;exact⟨[], .bool b,by simp⟩
 | .int i,v,u,x,r,e,rv=>by simp only[Rep] at r;subst r;cases e;obtain⟨t,rfl⟩:=rv;exact⟨[], .int i t,by simp⟩
 | .str z,v,u,x,r,e,rv=>by simp only[Rep] at r;subst r;cases e;obtain⟨t,rfl⟩:=rv;exact⟨[], .str z t,by simp⟩
 | .tup l,v,u,x,r,e,rv=>by
   simp only[Rep] at r
   obtain⟨a,vs,rfl,h1,h2⟩:=r
   simp only[toPyR,Option.map_eq_some_iff] at e
   obtain⟨xs,e1,rfl⟩:=e
   cases rv
   obtain⟨its,rv,⟨o,ho,hc,n,hd⟩,_⟩:=I.tuple (xs:=vs) (by rw[hK];exact SqT_of h1)
   obtain⟨as,h3,h4⟩:=readsL_of hK hS I l vs its xs h2 e1 rv
   exact⟨as, .tuple ho hc hd h3,h4⟩
 | .lst l,v,u,x,r,e,rv=>by
   simp only[Rep] at r
   obtain⟨a,vs,rfl,h1,_,h2⟩:=r
   simp only[toPyR,Option.map_eq_some_iff] at e
   obtain⟨xs,e1,rfl⟩:=e
   cases rv
   obtain⟨its,rv,⟨o,n,ho,hc,_,hd⟩,_⟩:=I.list (xs:=vs) (SqL.of h1)
   obtain⟨as,h3,h4⟩:=readsL_of hK hS I l vs its xs h2 e1 rv
   exact⟨_, .list ho hc hd h3,fun h=>(List.mem_cons.mp h).elim (fun e=>by rw[← e,hS] at h1;cases h1) h4⟩
 | .dic ks l,v,u,x,r,e,rv=>by
   simp only[Rep] at r
   obtain⟨a,vs,rfl,h1,_,hl,h2⟩:=r
   simp only[toPyR] at e
   rw[if_pos hl] at e
   rw[Option.map_eq_some_iff] at e
   obtain⟨xs,e1,rfl⟩:=e
   cases rv
   obtain⟨_,hs,kvs,k1,o,es,ep,g,ex,dt,_,pr,_⟩:=dk_of I.hok h1
   have hv:vs.length=l.length:=RepL.length h2
   obtain⟨q1,q2⟩:=dict_reads (h:=s.heap) (ks:=ks) (vs:=vs) (by omega) k1 pr
   obtain⟨bs,q3,q4⟩:=readsL_of hK hS I l vs _ xs h2 e1 q2
   have hx:xs.length=ks.length:=by
    have h5:=toPyRL_len l xs e1
    omega
   have z1:((ks.map keyPy).zip xs).map (·.1)=ks.map keyPy:=by rw[List.map_fst_zip];simp;omega
   have z2:((ks.map keyPy).zip xs).map (·.2)=xs:=by rw[List.map_snd_zip];simp;omega
   refine⟨_, .dict (kvs:=(ks.map keyPy).zip xs) (as:= []) (bs:=bs) g ex.1 dt (by rw[z1];exact q1) (by rw[z2];exact q3),fun h=> ?_⟩
   simp only[List.cons_append,List.nil_append,List.mem_cons] at h
   rcases h with h|h
   ·rw[← h] at hs
    simp at hs
   ·exact q4 h
 | .obj _,_,_,_,_,e,_=>by simp[toPyR] at e
 | .glb _,_,_,_,_,e,_=>by simp[toPyR] at e
 | .wtp _,_,_,_,_,e,_=>by simp[toPyR] at e
 | .ty _,_,_,_,_,e,_=>by simp[toPyR] at e
 | .scr _,_,_,_,_,e,_=>by simp[toPyR] at e
 | .kd _ _,_,_,_,_,e,_=>by simp[toPyR] at e
theorem readsL_of {pins:List (Addr × Obj)} {s:Shared} {σ :L2.St} (hK:X.K=G.K) (hS:w.H sysModules=none) (I:Inv X pins σ w.H s):∀(d:List D) (v:List V) (u:List Value) (x:List PyData),RepL G w d v→toPyRL d=some x→Vals v u→∃as,ReadsAll s.heap u x as∧sysModules ∉ as
 | [],v,u,x,r,e,rv=>by simp only[RepL] at r;subst r;cases e;cases rv;exact⟨[], .nil,by simp⟩
 |d::ds,v,u,x,r,e,rv=>by
  simp only[RepL] at r
  obtain⟨v1,r',rfl,h1,h2⟩:=r
  simp only[toPyRL] at e
  split at e
  ·rename_i y ys e1 e2
   cases e
   cases rv with
   |cons ra rb=>
    obtain⟨as,q1,q2⟩:=reads_of hK hS I d v1 _ y h1 e1 ra
    obtain⟨bs,q3,q4⟩:=readsL_of hK hS I ds r' _ ys h2 e2 rb
    exact⟨_, .cons q1 q3,fun z=>(List.mem_append.mp z).elim q2 q4⟩
  ·cases e
end
def showOk (x:PyData):Bool:=x.showable&&decide (x.shown.length≤sizeLine)&&decide (x.depth≤100)
def reprD:FN:=fun xs S=>match xs with
 | [x] =>match toPyR (deref x S) with
   |some a=>if showOk a then .ok (.str a.shown) S else .bad
   |none=> .bad
 | _=> .bad
theorem c_repr:CalmN reprD:=fun xs S=>by unfold reprD;repeat' split
                                         all_goals trivial
theorem derefR_rep {pins:List (Addr × Obj)} {s:Shared} {σ :L2.St} (hK:X.K=G.K) (hS:w.H sysModules=none) (I:Inv X pins σ w.H s) {x:D} {v:V} {u:Value} (sr:SRep G w) (r:Rep G w x v) (rv:RelV v u) {y:PyData} (e:toPyR (deref x w.S)=some y):∃as,Reads s.heap u y as∧sysModules ∉ as:=by
 cases x with
 |obj n=>
  unfold deref at e
  cases hn:w.S[n]? with
  |none=>simp[hn,toPyR] at e
  |some o=>
   cases o with
   |lst l=>
    simp only[hn] at e
    obtain⟨a,vs,rfl,h1,h2⟩:=asL_rep (l:=l) sr r (by simp[asL,hn])
    simp only[toPyR,Option.map_eq_some_iff] at e
    obtain⟨xs,e1,rfl⟩:=e
    cases rv
    obtain⟨its,rv,⟨o,n,ho,hc,_,hd⟩,_⟩:=I.list (xs:=vs) (SqL.of h1)
    obtain⟨as,h3,h4⟩:=readsL_of hK hS I l vs its xs h2 e1 rv
    exact⟨_, .list ho hc hd h3,fun h=>(List.mem_cons.mp h).elim (fun e=>by rw[← e,hS] at h1;cases h1) h4⟩
   |ptp l=>
    simp only[hn] at e
    simp only[Rep] at r
    obtain⟨a,hm,rfl⟩:=r
    obtain⟨o,vs,⟨h1,_⟩,_,h2⟩:=sr.obj n _ a hn hm
    simp only[toPyR,Option.map_eq_some_iff] at e
    obtain⟨xs,e1,rfl⟩:=e
    cases rv
    obtain⟨its,rv,⟨o,ho,hc,n,hd⟩,_⟩:=I.tuple (xs:=vs) (.inl (.inr ⟨o,h1⟩))
    obtain⟨as,h3,h4⟩:=readsL_of hK hS I l vs its xs h2 e1 rv
    exact⟨as, .tuple ho hc hd h3,h4⟩
   | _=>simp[hn,toPyR] at e
 | _=>exact reads_of hK hS I _ v u y r e rv
theorem o_repr (hK:X.K=G.K) (hM:∃o,X.base.get? sysModules=some o) (hg:X.A.guards=some []) (hu:X.A.units+150<cLine):CallR X (.builtin "repr") (rN G reprD):=by
 intro pins s σ H xs us Q I rs q
 obtain⟨w,ds,rfl,sr,rl,p⟩:=q
 unfold reprD at p
 split at p
 ·rename_i x
  split at p
  ·rename_i a ha
   split at p
   ·rename_i ok
    simp only[showOk,Bool.and_eq_true,decide_eq_true_eq] at ok
    obtain⟨⟨ok1,ok2⟩,ok3⟩:=ok
    simp only[RepL] at rl
    obtain⟨v,r',rfl,r1,rfl⟩:=rl
    cases rs with
    |cons rv rt=>
     cases rt
     obtain⟨o,hM⟩:=hM
     obtain⟨as,rd,no⟩:=derefR_rep hK (I.bs _ _ hM).2 I sr r1 rv ha
     have fin:∀(z:Str) (h':Heap) (tk:PySem.Tok) (tk':Nat),z=a.shown→(∀ b o,s.heap.get? b=some o→h'.get? b=some o)→EP X pins σ Q (.str z tk) { s with heap:=h',toks:=tk' } :=fun z h' tk tk' ez k=>by
      subst ez
      exact⟨.str _,w.H,I.kept (t':=tk') k,⟨tk,rfl⟩,Post.ret (Ra:=Rep G) sr (by simp[Rep]) p⟩
     have same:∀b o,s.heap.get? b=some o→s.heap.get? b=some o:=fun _ _ h=>h
     cases rd with
     |none=>exact PySem.P.repr_of_none (fin _ s.heap _ _ rfl same)
     |bool b=>exact PySem.P.repr_of_bool (fin _ s.heap _ _ (by simp[PyData.shown]) same)
     |int i t=>exact PySem.P.repr_of_int (by simpa[PyData.showable] using ok1) (fin _ s.heap _ _ rfl same)
     |str z t=>exact PySem.P.repr_of_str (fin _ s.heap _ _ rfl same) (by simpa[PyData.shown] using ok2)
     |list h1 h2 h3 h4=>
      exact repr_of_reads' (.list h1 h2 h3 h4) ok1 (fun _=>no) hg (by omega) same (fun h' t tk k=>fin _ h' t tk rfl k) ok2
     |tuple h1 h2 h3 h4=>
      exact repr_of_reads' (.tuple h1 h2 h3 h4) ok1 (fun _=>no) hg (by omega) same (fun h' t tk k=>fin _ h' t tk rfl k) ok2
     |dict h1 h2 h3 h4 h5=>
      exact repr_of_reads' (.dict h1 h2 h3 h4 h5) ok1 (fun _=>no) hg (by omega) same (fun h' t tk k=>fin _ h' t tk rfl k) ok2
   ·exact p.elim
  ·exact p.elim
 ·exact p.elim
end
end L3
namespace L3
open PySem PySem.Spec PyProof.Rows L2
section
variable {G:GC} {X:Cx} {Wx:WX} {w:Wd}
def eBackT (a:ED):ED:=fun env S=>(a env S).bind fun x S1=>match x with
 | .tup l=> .ok (.tup l.reverse) S1
 | _=> .bad
end
end L3
namespace L3
open PySem PySem.Spec PyProof.Rows L2
theorem b_repr:bootBuiltins "repr" =some (.builtin "repr"):=by decide +kernel
end L3
namespace L3
open PySem PySem.Spec PyProof.Rows L2
theorem meets_enum1 {v:Value} {o:Obj} {H:Heap→Prop} (B:Begins v o H):
 Meets (Builtin.«enumerate.__new__» ⟨[.type "enumerate",v],[]⟩) (fun _ R s=>H s.heap∧
  R (.ok (.ret (.ref (s.heap.push o).objs.size))) { s with heap:=(s.heap.push o).push { cls:= .type "enumerate",data:= .fields #[.none, .bool false, .ref s.heap.objs.size,rawInt 0, .none, .none] } }):=
 .of_wp fun prog w A R s h=>by
  obtain⟨hp,g,d,tk,os⟩:=s;obtain⟨h1,h⟩:=h
  have hsub:=sub_enumerate
  have q1:∀ {A':Around} {E:Value→Shared→Prop} {Q:Value→Shared→Prop},Q (.ref hp.objs.size) ⟨hp.push o,g,d,tk,os⟩→wpAny (model prog w) A' (pyIter v) Q E ⟨hp,g,d,tk,os⟩:=
   fun q=>B.iter prog w _ _ ⟨hp,g,d,tk,os⟩ _ h1 q
  wp_walk using q1
  refine wpAny_stack_any fun st=>wpAny_pure ?_
  split
  ·rename_i c _ _ _ _ _
   cases(c==Value.type "enumerate")
   ·wp_walk using q1
    exact⟨_,rfl,h⟩
   ·wp_walk using q1
    exact⟨_,rfl,h⟩
  ·wp_walk using q1
   exact⟨_,rfl,h⟩
section
variable {prog:Program} {w:World} {A:Around} {E:Value→Shared→Prop} {s:Shared}
theorem enum1 {v:Value} {o:Obj} {H:Heap→Prop} {Q:Value→Shared→Prop} (B:Begins v o H) (h1:H s.heap)
 (h:∀h',IsEnum h' (s.heap.objs.size+1) s.heap.objs.size 0 .none→h'.get? s.heap.objs.size=some o→h'.objs.size=s.heap.objs.size+2→
   (∀ b o,s.heap.get? b=some o→h'.get? b=some o)→Q (.ref (s.heap.objs.size+1)) { s with heap:=h' }):
 wpAny (model prog w) A (call (.type "enumerate") [v]) Q E s:=by
 refine callType_new F.called_enumerate (by decide) (F.typeCall_enumerate_1 _) (F.newCall_enumerate_1 _) (fun obj=>F.args_object_init_2 obj _) F.entry_enumerate_new
  (meets_enum1 B) ⟨h1,?_⟩
 have hz:(s.heap.push o).objs.size=s.heap.objs.size+1:=Heap.size_push ..
 show _∧_
 rw[hz]
 have he:IsEnum ((s.heap.push o).push { cls:= .type "enumerate",data:= .fields #[.none, .bool false, .ref s.heap.objs.size,rawInt 0, .none, .none] }) (s.heap.objs.size+1) s.heap.objs.size 0 .none:=by
  have:=Heap.get?_push_size (s.heap.push o) (o:= { cls:= .type "enumerate",data:= .fields #[.none, .bool false, .ref s.heap.objs.size,rawInt 0, .none, .none] }) rfl
  rw[hz] at this;exact this
 refine⟨⟨_,he,rfl⟩,h _ he (Heap.get?_push_of_some _ (Heap.get?_push_size _ B.free)) (by rw[Heap.size_push,hz]) fun b o x=>Heap.get?_push_of_some _ (Heap.get?_push_of_some _ x)⟩
end
def Itet (K:PySem.W.Frag) (a:Addr):It:=
 ⟨fun i H=>∃(xs:List V) (x:V),SqT K H a xs∧xs[i]? =some x,fun i H v H'=>∃T x,v= .ref T∧H T=none∧H'=upd H T (.tup [.int (i:Nat),x])∧∀xs,SqT K H a xs→xs[i]? =some x,fun i H=>∃xs:List V,SqT K H a xs∧xs.length=i⟩
theorem turn_enumT {P:Program} {w:World} {K:PySem.W.Frag} {elts:List Expr} {kk:Nat} {tpos:Pos} (a e it:Addr):
 Turn P w K (.Tuple elts kk tpos) (Itet K a) [e,it] e (fun i h=>(∃ old,IsEnum h e it ((i:Nat):Int) old)∧h.IsTupleIter it a i∧e≠it∧a≠it∧a≠e) where
 mem:=by simp
 obj:=fun i h st b hb=>by
  obtain⟨⟨old,he⟩,⟨o,ho,hc,hd⟩,_⟩:=st
  have e':b=e∨b=it:=by simpa using hb
  rcases e' with z|z
  ·rw[z];exact⟨_,he,fun v q=>nomatch q⟩
  ·rw[z];exact⟨o,ho,fun v q=>by rw[hd] at q;cases q⟩
 keep:=fun i h h' st k=>let⟨⟨old,he⟩,⟨o,ho,r⟩,hne⟩:=st;⟨⟨old,k e (by simp) _ he⟩,⟨o,k it (by simp) o ho,r⟩,hne⟩
 item:=by
  intro X hP hw hK hc i pins s σ H E I hf st hg
  subst hP hw hK
  obtain⟨⟨old,he⟩,hit,hne,hait,hae⟩:=st
  obtain⟨xs,x,hq,hx⟩:=hg
  obtain⟨its,rv,p,hz⟩:=I.tuple hq
  obtain⟨u,hu,ru⟩:=rv.get hx
  have hel:e<s.heap.objs.size:=Heap.lt_size he
  have hil:it<s.heap.objs.size:=by obtain⟨_,q,_⟩:=hit;exact Heap.lt_size q
  have hlt:i<its.toArray.size:=by
   have:=(List.getElem?_eq_some_iff.mp hu).1
   simpa using this
  have hdn:X.A.in1.handled=none:=I.ok.hd hc
  refine wpAny_pyNext_enum_itemD (Draws.tuple hdn it a hait its.toArray) he ⟨hit,(show s.heap.IsTuple a its.toArray from p)⟩ hlt hne (by simp[Ne.symm hae,hne]) fun y h' tk hy ho hit' hT hsz hk=> ?_
  have hyu:y=u:=by
   have:its.toArray[i]? =some u:=by simpa using hu
   rw[this] at hy;exact(Option.some.inj hy).symm
  subst hyu
  refine⟨_,rfl,wpAny_letOwnedTupleGo_enum (s:= { s with heap:=h',toks:=tk+1 }) ho fun h'' he' sb=> ?_⟩
  have hT2:h''.get? s.heap.objs.size=some { cls:= .type "tuple",data:= .seq #[.int i tk,y] } :=(sb.2 _ (Nat.ne_of_gt hel)).trans hT
  have new:ObjOk X.prog X.w (upd H s.heap.objs.size (.tup [.int (i:Nat),x])) h'' s.heap.objs.size (.tup [.int (i:Nat),x]):=
   ⟨by show 2≤sizeLine;decide,[.int i tk,y], .cons ⟨_,rfl⟩ (.cons ru .nil),⟨_,hT2,rfl,_,rfl⟩⟩
  have I1:Inv X pins σ (upd H s.heap.objs.size (.tup [.int (i:Nat),x])) { s with heap:=h'',toks:=tk+1 } :=
   I.turnedNew (ch:= [e,it]) (fun b ob hb q=>(sb.2 b (fun z=>hb (by simp[z]))).trans (hk b ob (fun z=>hb (by simp[z])) (fun z=>hb (by simp[z])) q)) hf (Nat.le_refl _) new
  refine⟨.ref s.heap.objs.size,_,I1,rfl,⟨_,x,rfl,I.hok.fresh (Nat.le_refl _),rfl,fun ys hy=> ?_⟩,⟨⟨y,?_⟩,?_,hne,hait,hae⟩,fun b hb=> ?_⟩
  ·rw[I.tuple_inj hy hq];exact hx
  ·have e1:((i+1:Nat):Int)=(i:Int)+1:=by omega
   rw[e1];exact he'
  ·obtain⟨o,ho,r⟩:=hit'.1
   exact⟨o,(sb.2 it (Ne.symm hne)).trans ho,r⟩
  ·have hb':b<s.heap.objs.size:=by
    have e':b=e∨b=it:=by simpa using hb
    rcases e' with z|z
    ·rw[z];exact hel
    ·rw[z];exact hil
   rw[upd_ne (Nat.ne_of_lt hb')]
   exact(hf b hb).1
 done:=by
  intro X hP hw hK hc i pins s σ H E I hf st hg
  subst hP hw hK
  obtain⟨⟨old,he⟩,hit,hne,hait,hae⟩:=st
  obtain⟨xs,hq,hx⟩:=hg
  obtain⟨its,rv,p,hz⟩:=I.tuple hq
  obtain⟨f0,f1,f2,f3,f4,f5⟩:=hf it (by simp)
  have hl:=rv.length
  have hsz:i=its.toArray.size:=by simp;omega
  subst hsz
  exact wpAny_pyNext_enum_endD (Draws.tuple (show X.A.in1.handled=none from I.ok.hd hc) it a hait its.toArray) he ⟨hit,(show s.heap.IsTuple a its.toArray from p)⟩ fun h' eb=>⟨rfl,I.turned (t':=s.toks) (fun b o hb q=>eb b o hb q) f0 f1 f3 f4 f5⟩
 self:=fun A i s Q E st h=>let⟨⟨_,he⟩,_⟩:=st;wpAny_pyIter_enum he h
def enumL:Nat→List D→List D
 | _,[] => []
 |i,x::xs=> .tup [.int (i:Int),x] ::enumL (i+1) xs
def enumD (x:D) (S:Store):R (List D):=match x with
 | .tup l=> .ok (enumL 0 l) S
 | .lst l=> .ok (enumL 0 l) S
 | .scr ns=> .ok (enumL 0 (ns.map .int)) S
 | _=> .bad
theorem enumL_get:∀(k:Nat) (l:List D) (i:Nat) (d:D),(enumL k l)[i]? =some d→∃x,l[i]? =some x∧d= .tup [.int ((k+i:Nat):Int),x]
 | _,[],i,d,h=>by simp[enumL] at h
 |k,x::xs,0,d,h=>by
  simp only[enumL,List.getElem?_cons_zero,Option.some.injEq] at h
  exact⟨x,rfl,h.symm⟩
 |k,x::xs,i+1,d,h=>by
  simp only[enumL,List.getElem?_cons_succ] at h ⊢
  obtain⟨y,h1,h2⟩:=enumL_get (k+1) xs i d h
  exact⟨y,h1,by rw[h2,show k+1+i=k+(i+1) by omega]⟩
theorem enumL_len:∀(k:Nat) (l:List D),(enumL k l).length=l.length
 | _,[] =>rfl
 |k,x::xs=>by simp[enumL,enumL_len (k+1) xs]
section
variable {G:GC} {X:Cx} {Wx:WX} {pos:Pos}
theorem new_pair {w:Wd} {T:Addr} {i:Int} {d:D} {v:V} (sr:SRep G w) (hT:w.H T=none) (r:Rep G w d v):
 ∃w'',w''.H=upd w.H T (.tup [.int i,v])∧WExt w w''∧w''.S=w.S∧SRep G w''∧Rep G w'' (.tup [.int i,d]) (.ref T):=by
 obtain⟨x,s,nm⟩:=new_ext (o:= .tup [.int i,v]) sr hT
 refine⟨w.put T (.tup [.int i,v]),rfl,x,rfl,s,?_⟩
 simp only[Rep]
 refine⟨T,[.int i,v],rfl, .inl ⟨?_,nm⟩,?_⟩
 ·exact upd_same
 ·simp only[RepL,Rep]
  exact⟨_,_,rfl,rfl,v,[],rfl,Rep.mono x _ _ r,rfl⟩
theorem it_enumT {w:Wd} {a:Addr} {vs:List V} {l:List D} (h:TupAt G w a vs l) (r:RepL G w l vs):ItOk G w (Itet G.K a) (enumL 0 l):=by
 have sq:∀(T:List Addr) w',Tok T w→WX' T w w'→SqT G.K w'.H a vs:=fun T w' hT x=>by
  rcases h with⟨h,nm⟩|h
  ·exact .inl (.inl (x.keepM hT h nm).1)
  ·exact .inr h.1
 refine⟨fun T w' hT x s i d e=> ?_,fun T w' hT x s=>⟨vs,sq T w' hT x,by rw[enumL_len,r.length]⟩⟩
 obtain⟨y,e1,rfl⟩:=enumL_get 0 l i d e
 obtain⟨v,q1,q2⟩:=r.get e1
 refine⟨⟨vs,v,sq T w' hT x,q1⟩,fun y H'' hy=> ?_⟩
 obtain⟨Tn,z,rfl,hTn,rfl,hy⟩:=hy
 have e2:=hy vs (sq T w' hT x)
 rw[q1] at e2;cases e2
 have:=new_pair (i:=((0+i:Nat):Int)) s hTn (Rep.monoT x hT _ _ q2)
 rw[show 0+i=i by omega] at this ⊢
 exact this
theorem it_enum {w:Wd} {a:Addr} {vs:List V} {l:List D} (h:(w.H a=some (.lst vs)∧¬Mut w a)∨Fz w a (.lst vs)∨KL G.K a vs) (r:RepL G w l vs):ItOk G w (Ite G.K a) (enumL 0 l):=by
 have sq:∀(T:List Addr) w',Tok T w→WX' T w w'→SqL G.K w'.H a vs:=fun T w' hT x=>by
  rcases h with⟨h,nm⟩|h|h
  ·exact .inl (.inl (x.keepM hT h nm).1)
  ·exact .inl (Fz.monoT x hT h).1
  ·exact .inr h
 refine⟨fun T w' hT x s i d e=> ?_,fun T w' hT x s=>⟨vs,sq T w' hT x,by rw[enumL_len,r.length];exact Nat.le_refl _⟩⟩
 obtain⟨y,e1,rfl⟩:=enumL_get 0 l i d e
 obtain⟨v,q1,q2⟩:=r.get e1
 refine⟨⟨vs,v,sq T w' hT x,q1⟩,fun y H'' hy=> ?_⟩
 obtain⟨Tn,z,rfl,hTn,rfl,hy⟩:=hy
 have e2:=hy vs (sq T w' hT x)
 rw[q1] at e2;cases e2
 have:=new_pair (i:=((0+i:Nat):Int)) s hTn (Rep.monoT x hT _ _ q2)
 rw[show 0+i=i by omega] at this ⊢
 exact this
def enumA:List D→Store→R (List D):=fun xs S=>match xs with
 | [x] =>enumD x S
 | _=> .bad
theorem q_enum {elts:List Expr} {kk:Nat} {tpos p:Pos} {e:Expr} {m:AD} (hK:X.K=G.K) (hg:Gl X "enumerate") (hm:X.mg "enumerate" =none) (ha:PA X [e] (tA G m Wx)) (hs:starEach [e] X.env= [(false,eval e X.env)] :=by rfl):
 PI X (.Tuple elts kk tpos) (.Call (.Name "enumerate" p) [e] [] pos) (tI G (iArgs enumA m) Wx):=by
 refine⟨fun pins s σ H R I q=> ?_⟩
 obtain⟨w,env,rfl,sr,er,p⟩:=q
 refine Call_ (ld_blt I hg hm boot_enumerate (PyProof.Rows.callWith_type1 (thn (ha.run pos pins s σ w.H _ I ⟨w,env,rfl,sr,er,Post.bind p⟩) fun us s1 ⟨vs,H1,I1,r1,q1⟩=> ?_) hs rfl))
 obtain⟨w1,ds,rfl,x1,sr1,rp1,p1⟩:=q1
 unfold enumA at p1
 split at p1
 ·rename_i d1
  simp only[RepL] at rp1
  obtain⟨v,r',rfl,rp1,rfl⟩:=rp1
  cases r1 with
  |cons r rr=>
   cases rr
   have lst:∀ {a:Addr} {vs:List V},SqL X.K w1.H a vs→R (Ite G.K a) w1.H→wpAny (model X.prog X.w) X.A (call (.type "enumerate") [.ref a]) (fun v s'=>wpAny (model X.prog X.w) X.A (pyIter v) (PIE X pins σ (.Tuple elts kk tpos) R) X.xe s') X.xe s1:=fun {a vs} hq q=>by
    obtain⟨its,rv,p',hz⟩:=I1.list hq
    refine call_enumerate_list p'.isList fun h' he hit hsz hk=>wpAny_pyIter_enum he ?_
    have I2:Inv X pins σ w1.H { s1 with heap:=h' } :=I1.kept (t':=s1.toks) hk
    refine⟨s1.heap.objs.size+1,[s1.heap.objs.size+1,s1.heap.objs.size],_,_,w1.H,rfl,I2,turn_enum a (s1.heap.objs.size+1) s1.heap.objs.size,⟨⟨.none,he⟩,hit,Nat.succ_ne_self _⟩,fun b hb=> ?_,by rw[hK];exact q⟩
    have e':b=s1.heap.objs.size+1∨b=s1.heap.objs.size:=by simpa using hb
    have hle:s1.heap.objs.size≤b:=by
     rcases e' with z|z
     ·rw[z];exact Nat.le_add_right _ _
     ·rw[z];exact Nat.le_refl _
    exact I1.fpOk hle (I1.hok.fresh hle)
   unfold enumD at p1
   split at p1
   ·rename_i l
    simp only[Rep] at rp1
    obtain⟨a,vs,rfl,hq,rl⟩:=rp1
    cases r
    have q:=p1 (Itet G.K a) w1 (.refl _) rfl sr1 (it_enumT hq rl)
    have hq':SqT X.K w1.H a vs:=by rw[hK];exact hq.imp (fun z=> .inl z.1) (fun z=>z.1)
    obtain⟨its,rv,p,hz⟩:=I1.tuple hq'
    have hT:s1.heap.IsTuple a its.toArray:=p
    have hal:a<s1.heap.objs.size:=by obtain⟨_,q,_⟩:=hT;exact Heap.lt_size q
    refine enum1 (begins_tuple a its.toArray) hT fun h' he hit hsz hk=>wpAny_pyIter_enum he ?_
    have I2:Inv X pins σ w1.H { s1 with heap:=h' } :=I1.kept (t':=s1.toks) hk
    refine⟨s1.heap.objs.size+1,[s1.heap.objs.size+1,s1.heap.objs.size],_,_,w1.H,rfl,I2,turn_enumT a (s1.heap.objs.size+1) s1.heap.objs.size,⟨⟨.none,he⟩,⟨_,hit,rfl,rfl⟩,Nat.succ_ne_self _,Nat.ne_of_lt hal,Nat.ne_of_lt (Nat.lt_succ_of_lt hal)⟩,fun b hb=> ?_,by rw[hK];exact q⟩
    have e':b=s1.heap.objs.size+1∨b=s1.heap.objs.size:=by simpa using hb
    have hle:s1.heap.objs.size≤b:=by
     rcases e' with z|z
     ·rw[z];exact Nat.le_add_right _ _
     ·rw[z];exact Nat.le_refl _
    exact I1.fpOk hle (I1.hok.fresh hle)
   ·rename_i l
    simp only[Rep] at rp1
    obtain⟨a,vs,rfl,hq,nm,rl⟩:=rp1
    cases r
    exact lst (vs:=vs) (.inl (.inl hq)) (p1 (Ite G.K a) w1 (.refl _) rfl sr1 (it_enum (.inl ⟨hq,nm⟩) rl))
   ·rename_i ns
    simp only[Rep] at rp1
    obtain⟨a,rfl,hq⟩:=rp1
    cases r
    exact lst (vs:=ns.map V.int) (by rw[hK];exact hq.imp (fun z=>z.1) id) (p1 (Ite G.K a) w1 (.refl _) rfl sr1 (it_enum (.inr hq) (RepL_ints.mpr rfl)))
   ·exact p1.elim
 ·exact p1.elim
end
end L3
namespace L3
open PySem PySem.Spec PyProof.Rows L2
def lv:Nat→Nat
 |0=>1
 |k+1=>lv k+2
theorem lv1:∀k,1≤lv k
 |0=>Nat.le_refl _
 |k+1=>Nat.le_trans (lv1 k) (Nat.le_add_right _ _)
end L3
namespace L3
open PySem PySem.Spec PyProof.Rows L2
section
variable {G:GC} {X:Cx} {Wx:WX} {pos:Pos}
def gSeq (is:List Nat):GD:=fun d env S=>match d with
 | .tup l=>gNames is l env S
 | .lst l=>gNames is l env S
 | _=> .bad
theorem gNames_len:∀ {is:List Nat} {l:List D} {env env':EnvD} {S S':Store},gNames is l env S= .nx env' S'→l.length=is.length
 | [],[],_,_,_,_,_=>rfl
 | [],_::_,_,_,_,_,e=>nomatch e
 | _::_,[],_,_,_,_,e=>nomatch e
 |i::is,d::l,env,env',S,S',e=>by
  have:=gNames_len (is:=is) (l:=l) (env:=env.set i (some d)) e
  simp[this]
end
end L3
namespace L3
open PySem PySem.Spec PyProof.Rows L2
section
variable {G:GC} {X:Cx} {Wx:WX} {pos:Pos}
def tGsW (G:GC) (is vs:List Nat):TGs:=fun us σ H Q=>∃w env ds env',w.H=H∧SRep G w∧ERep G w env σ ∧RepL G w ds us∧gNames is ds env w.S= .nx env' w.S∧∀ σ',ERep G w env' σ'→L2.wipe σ' vs=L2.wipe σ vs→Q σ' H
theorem q_gsnW {vs:List Nat} :PGs X [] (tGsW G [] vs):=pgsI pgs_nil fun v σ H Q q=>by
 obtain⟨w,env,ds,env',rfl,sr,er,rl,e,k⟩:=q
 cases ds with
 |nil=>
  simp only[RepL] at rl
  cases e
  exact⟨rl,k σ er rfl⟩
 |cons _ _=>cases e
theorem q_gscW {e:Expr} {es:List Expr} {i:Nat} {is vs:List Nat} (h1:PG X e (L2.gName i)) (h2:PGs X es (tGsW G is vs)) (hv:i ∈ vs:=by decide)
 (hs:(assignEach (e::es) X.env).map (·.2)=assign e X.env::(assignEach es X.env).map (·.2):=by rfl):PGs X (e::es) (tGsW G (i::is) vs):=pgsI (pgs_cons h1 h2 hs) fun v σ H Q q=>by
 obtain⟨w,env,ds,env',rfl,sr,er,rl,e,k⟩:=q
 cases ds with
 |nil=>cases e
 |cons d ds=>
  simp only[RepL] at rl
  obtain⟨v,r,rfl,r1,r2⟩:=rl
  exact⟨v,r,rfl,w,_,ds,env',rfl,sr,er.set i r1,r2,e,fun σ' er' hw=>k σ' er' (hw.trans (wipe_set hv))⟩
theorem q_gtupW {es:List Expr} {k:Nat} {is vs:List Nat} (hK:X.K=G.K) (hc:X.calm=true) (h:PGs X es (tGsW G is vs)) (hn:(assignEach es X.env).length=is.length:=by rfl) (hst:(assignEach es X.env).findIdx? (·.1)=none:=by rfl):
 PG X (.Tuple es k pos) (tGW G (gTup is) vs):=pgI (pg_tup hc h hn hst) fun v σ H Q q=>by
 obtain⟨w,env,d,rfl,sr,er,rp,p⟩:=q
 cases d with
 |tup l=>
  simp only[Rep] at rp
  obtain⟨a,us,rfl,h1,rl⟩:=rp
  simp only[gTup] at p
  rcases gNames_nx (is:=is) (ds:=l) (env:=env) (S:=w.S) with⟨env',e⟩|e
  ·rw[e] at p
   refine⟨a,us,rfl,by rw[hK];exact SqT_of h1,by rw[rl.length];exact gNames_len e,w,env,l,env',rfl,sr,er,rl,e,fun σ' er' hw=>p σ' w (.refl _) rfl sr er' hw⟩
  ·rw[e] at p;exact p.elim
 |wtp l=>
  simp only[Rep] at rp
  obtain⟨a,rfl,h1⟩:=rp
  have rl:RepL G w (l.map .int) (l.map V.int):=RepL_ints.mpr rfl
  simp only[gTup] at p
  rcases gNames_nx (is:=is) (ds:=l.map .int) (env:=env) (S:=w.S) with⟨env',e⟩|e
  ·rw[e] at p
   refine⟨a,_,rfl,by rw[hK];exact .inr h1,by rw[rl.length];exact gNames_len e,w,env,_,env',rfl,sr,er,rl,e,fun σ' er' hw=>p σ' w (.refl _) rfl sr er' hw⟩
  ·rw[e] at p;exact p.elim
 | _=>exact p.elim
end
end L3
namespace L3
open PySem PySem.Spec PyProof.Rows L2
def frzD:F1:=fun x S=>match x with
 | .obj n=>match S[n]? with
   |some (.lst l)=> .ok (.lst l) (S.set n .dead)
   |some (.dK kvs)=> .ok (.dic (kvs.map (·.1)) (kvs.map (·.2))) (S.set n .dead)
   | _=> .bad
 |x=> .ok x S
theorem bury {G:GC} {w:Wd} {n:Nat} {a:Addr} {ob:O} (sr:SRep G w) (hn:w.S[n]? =some ob) (lv:ob.live) (hm:w.mu[n]? =some a):
 WExt w { w with S:=w.S.set n .dead } ∧SRep G { w with S:=w.S.set n .dead } ∧¬Mut { w with S:=w.S.set n .dead } a:=by
 have hl:=(List.getElem?_eq_some_iff.mp hn).1
 have back:∀(m:Nat) (o:O),(w.S.set n .dead)[m]? =some o→o.live→m≠n∧w.S[m]? =some o:=fun m o h lo=>by
  by_cases e:n=m
  ·subst e;rw[List.getElem?_set_self hl] at h;cases h;exact lo.elim
  ·rw[List.getElem?_set_ne e] at h;exact⟨fun z=>e z.symm,h⟩
 have mb:∀b,MutS { w with S:=w.S.set n .dead } b→MutS w b:=fun b ⟨m,o,h1,l1,h2⟩=>⟨m,o,(back m o h1 l1).2,l1,h2⟩
 have x:WExt w { w with S:=w.S.set n .dead } :=⟨fun _ _ h=>h,fun b u h nm _=>⟨h,fun m=>nm (mb b m)⟩,fun _ h=> .inl h,fun _ h=>h⟩
 refine⟨x,⟨by simp[sr.len],fun i j b o1 o2 h1 h2 l1 l2 m1 m2=>sr.inj i j b o1 o2 (back i o1 h1 l1).2 (back j o2 h2 l2).2 l1 l2 m1 m2,fun m o b h1 h2=> ?_,fun b hb=>⟨(sr.tm b hb).1,fun m=>(sr.tm b hb).2 (mb b m)⟩⟩,fun m=> ?_⟩
 ·by_cases e:n=m
  ·subst e;rw[List.getElem?_set_self hl] at h1;cases h1;trivial
  ·rw[List.getElem?_set_ne e] at h1
   exact(sr.obj m o b h1 h2).keep x noT fun _=>rfl
 ·rcases m with⟨m,o,h1,l1,h2⟩|m
  ·obtain⟨ne,q⟩:=back m o h1 l1
   exact ne (sr.inj m n a o ob q hn l1 lv h2 hm)
  ·exact(sr.tm a m).2 ⟨n,ob,hn,lv,hm⟩
theorem frz_rep {G:GC} {w:Wd} {x y:D} {v:V} {S':Store} (sr:SRep G w) (r:Rep G w x v) (e:frzD x w.S= .ok y S'):∃w',WExt w w'∧w'.S=S'∧w'.H=w.H∧SRep G w'∧Rep G w' y v:=by
 unfold frzD at e
 split at e
 ·rename_i n
  simp only[Rep] at r
  obtain⟨a,hm,rfl⟩:=r
  split at e
  ·rename_i l hn
   cases e
   obtain⟨vs,h1,h2⟩:=sr.obj n _ a hn hm
   obtain⟨x,s,nm⟩:=bury sr hn trivial hm
   refine⟨_,x,rfl,rfl,s,?_⟩
   simp only[Rep]
   exact⟨a,vs,rfl,h1,nm,RepL.mono x _ _ h2⟩
  ·rename_i kvs hn
   cases e
   obtain⟨vs,h1,h2⟩:=sr.obj n _ a hn hm
   obtain⟨x,s,nm⟩:=bury sr hn trivial hm
   obtain⟨us,eu,ru⟩:=h2.parts
   refine⟨_,x,rfl,rfl,s,?_⟩
   simp only[Rep]
   exact⟨a,us,rfl,by rw[← eu];exact h1,nm,by simp,RepL.mono x _ _ ru⟩
  ·cases e
 ·cases e
  exact⟨w, .refl w,rfl,rfl,sr,r⟩
section
variable {G:GC} {X:Cx} {Wx:WX}
theorem q_frz {e:Expr} {m:ED} (h:PE X e (tE G m Wx)):PE X e (tE G (e1 frzD m) Wx):=peI h fun σ H Q q=>by
 obtain⟨w,env,rfl,sr,er,p⟩:=q
 refine⟨w,env,rfl,sr,er,(Post.bind (Ra:=Rep G) p).mono (fun v H1 ⟨w1,d,eH,x,s1,r1,p1⟩=> ?_) fun _ _ _ h=>h⟩
 subst eH
 replace p1:Post G w1 (frzD d w1.S) (Rep G) Q (fun C dx H'=>Wx C dx σ H'):=p1
 cases hf:frzD d w1.S with
 |ok y S'=>
  obtain⟨w2,x2,e2,eh,s2,r2⟩:=frz_rep s1 r1 hf
  rw[hf] at p1
  have:=p1 v w2 x2 e2 s2 r2
  rw[eh] at this
  exact this
 |exc _ _=>simp only[frzD] at hf;split at hf<;>(try split at hf)<;>cases hf
 |bad=>rw[hf] at p1;exact p1.elim
end
end L3
namespace L3
open PySem PySem.Spec PyProof.Rows L2
structure Oxc (K:PySem.W.Frag) (C:Addr) (B newId initId:String) (bmB:List Value):Prop where
 F:ExcBaseFacts B newId initId bmB
 SF:StoreFacts B bmB "object.__setattr__" "object"
 ini:PySem.W.excInitIn K C bmB newId=true
 ovr:PySem.W.excOver K C bmB=true
 sa:PySem.W.findIn K (.ref C) "__setattr__" =some (some (.builtin "object.__setattr__"))
 exC:PySem.W.subIn K (.ref C) (.type "BaseException")=some true
 tyC:PySem.W.typeIn K (.ref C)=some (.type "type")
 kC:PySem.W.keepIn K (.ref C)=true
 hd:PySem.W.hasDictIn K C=true
section
variable {X:Cx} {pins:List (Addr × Obj)} {σ :L2.St} {H:Hp} {s:Shared} {a C:Addr} {f:Str} {y:V} {u:Value} {Q:Unit→Shared→Prop} {E:Value→Shared→Prop} {A:Around} {B newId initId:String} {bmB:List Value}
theorem store1 (T:Oxc X.K C B newId initId bmB) (I:Inv X pins σ H s) (e:H a=some (exo a C none)) (no:PySem.W.findIn X.K (.ref C) f=some none) (ry:RelV y u)
 (h:∀dx s',H dx=none→dx≠a→Inv X pins σ (upd (upd H dx (exd dx [(f,y)])) a (exo a C (some dx))) s'→Q () s'):wpAny (model X.prog X.w) A (setAttr (.ref a) f u) Q E s:=by
 obtain⟨t1,ho⟩:=exo_at I.hok e
 have tk:PySem.W.takerIn X.K C f=some none:=by unfold PySem.W.takerIn;rw[no];rfl
 obtain⟨cd,hcd,hdd⟩:=PySem.W.any_some T.hd
 obtain⟨hp,g,d,t,os⟩:=s
 refine PySem.W.set_plain I.kIn (od:=none) ⟨ho,rfl,rfl,trivial⟩ T.sa ?_
 refine PySem.W.osa_openX (od:=none) T.SF I.kIn ⟨ho,rfl,rfl,trivial⟩ T.ovr tk fun b=> ?_
 have lx:a<hp.objs.size:=Heap.lt_size ho
 refine wpAny_bind (wpAny_pure (wpAny_bind (PySem.W.instanceDict_exc (c2:= .none) ho (PySem.W.looks_clsIn I.kIn hcd) hdd ?_)))
 obtain⟨dx,edx⟩:∃dx,hp.objs.size=dx:=⟨_,rfl⟩
 show wpAny _ _ (Builtin.ObjectAttr.storeInDict hp.objs.size (.str f _) f u) _ _ _
 have nsz:a≠hp.objs.size:=Nat.ne_of_lt lx
 have emp:((hp.push (PySem.W.dictOf [] 0)).update a fun o=> { o with dict:=some hp.objs.size }).Ns hp.objs.size fun _=>none:=
  ⟨_,#[],_,(Heap.get?_update_ne _ _ _ _ nsz.symm).trans (Heap.get?_push_at rfl rfl),rfl,fun e he=>absurd he (by simp),fun _=>rfl⟩
 refine PySem.HandSPX.store_in_new emp fun h2 tk2 ns2 sb2=> ?_
 have hn:H hp.objs.size=none:=I.hok.fresh (Nat.le_refl _)
 have gx:h2.get? a=some ({ cls:= .ref C,dict:=some hp.objs.size,data:= .fields #[.ref t1, .none, .none, .none, .bool false, .none] } :Obj):=
  (sb2.2 a nsz).trans (Heap.get?_update_self _ (Heap.get?_push_of_some _ ho) rfl)
 have keep:∀b o,b≠a→hp.get? b=some o→h2.get? b=some o:=fun b o hb q=>
  (sb2.2 b (Nat.ne_of_lt (Heap.lt_size q))).trans ((Heap.get?_update_ne _ _ _ _ hb).trans (Heap.get?_push_of_some _ q))
 have na:∀ {b:Addr},H b=none→b≠a:=fun {b} n z=>by rw[z,e] at n;cases n
 have nd:∀ {b:Addr} {o:Obj},hp.get? b=some o→b≠hp.objs.size:=fun {b o} q=>Nat.ne_of_lt (Heap.lt_size q)
 have un:Un X.fs [] H (upd (upd H hp.objs.size (exd hp.objs.size [(f,y)])) a (exo a C (some hp.objs.size))) hp h2:= {
  keep:=fun b o q n _ _=>keep b o (na n) q
  slot:=fun b o q n _ _=>⟨_,keep b o (na n) q⟩
  free:=fun b o q n _=>(upd_ne (na n)).trans ((upd_ne (nd q)).trans n)
  there:=fun b o q _=>if hb:b=a then⟨_,hb▸gx⟩ else⟨o,keep b o hb q⟩
  tups:=fun b xs q=>(upd_ne (at_ne e q exo_tup)).trans ((upd_ne (ne_of_none q hn)).trans q)
  frzs:=fun b o v q=>(upd_ne (at_ne e q exo_frz)).trans ((upd_ne (ne_of_none q hn)).trans q)
  tbls:=fun b ps q=>⟨#[],by rw[upd_ne (at_ne e q exo_tbl),upd_ne (ne_of_none q hn),q];simp⟩ }
 refine h _ _ hn (fun z=>nsz z.symm) (I.un (t':=tk2) un fun b o q=> ?_)
 by_cases hb:b=a
 ·subst hb
  rw[upd_same] at q;cases q
  exact exo_ok gx
 ·rw[upd_ne hb] at q
  by_cases hd:b=hp.objs.size
  ·subst hd
   rw[upd_same] at q;cases q
   exact exd_ok ns2 (relO_put (fs:= []) ry fun _=>trivial)
  ·rw[upd_ne hd] at q
   refine(I.hok b o q).stay (fun c v hc z=>keep c v (hc.elim (fun k=>by rw[k];exact hb) fun k=>at_ne e k exo_own) z) (fun c hc=>(upd_ne (at_ne e hc exo_own)).trans ((upd_ne (ne_of_none hc hn)).trans hc)) fun c xs hc=>(upd_ne (at_ne e hc exo_tup)).trans ((upd_ne (ne_of_none hc hn)).trans hc)
end
def tSto (K:PySem.W.Frag) (C:Addr) (f:Str) (to te:TE):TS:=fun D σ H=>te σ H fun y H1=>to σ H1 fun x H2=>∃a:Addr,x= .ref a∧H2 a=some (exo a C none)∧∀dx,H2 dx=none→dx≠a→D.nx σ (upd (upd H2 dx (exd dx [(f,y)])) a (exo a C (some dx)))
theorem ps_sto {X:Cx} {o e:Expr} {to te:TE} {f:Str} {p' pos:Pos} {C:Addr} {B newId initId:String} {bmB:List Value} (T:Oxc X.K C B newId initId bmB) (no:PySem.W.findIn X.K (.ref C) f=some none) (ho:PE X o to) (he:PE X e te)
 (hs:swapsWith e (some (.Attribute o f p')) pos.line X.env=pure false:=by rfl):PS X (.Assign [.Attribute o f p'] e pos) (tSto X.K C f to te):=
 ⟨fun pins s σ H D I h=>plainObj_wpAny_Assign_Attribute (thn (he.run pins s σ H _ I h) fun v s1 ⟨y,H1,I1,r1,q1⟩=>thn (ho.run pins s1 σ H1 _ I1 q1) fun u s2 ⟨x,H2,I2,r2,a,ex,ea,q⟩=>by
   subst ex
   obtain rfl:u=Value.ref a:=r2
   exact store1 T I2 ea no r1 fun dx s' n ne J=>⟨σ,_,J,q dx n ne⟩) hs⟩
def spI (C:Addr) (f:Str):Sp:=fun vs H Q _=>∃(a:Addr) (y:V),vs= [.ref a,y] ∧H a=some (exo a C none)∧∀dx,H dx=none→dx≠a→Q .non (upd (upd H dx (exd dx [(f,y)])) a (exo a C (some dx)))
theorem pmk_one {X:Cx} {x:Str} {e:Expr} {te:TE} {p pos:Pos} {C fI:Addr} {k:Nat} {fd:FuncData} {ps:List Str} {f:Str} {B newId initId:String} {bmB:List Value} (T:Oxc X.K C B newId initId bmB) (iC:PySem.W.findIn X.K (.ref C) "__init__" =some (some (.ref fI))) (tI:PySem.W.typeIn X.K (.ref fI)=some (.type "function"))
 (F1:FnG X.prog X.w X.K X.mg X.base k fI fd ps (spI C f)) (hr:RoomG (k+1) X.A) (hb:Binds X.K fd ps []) (hg:Gl X x) (hm:X.mg x=some (.ref C)) (he:PE X e te)
 (hdb:(x==("__debug__" :Str))=false:=by decide) (hs:starEach [e] X.env=(false,eval e X.env)::starEach [] X.env:=by rfl):
 PMk X (.Call (.Name x p) [e] [] pos) (fun σ H Q=>te σ H fun y H1=>∀d,H1 d=none→Q (.ref C) (some d) (upd H1 d (.xd [(f,y)]))):=by
 intro pins s σ H Q I h
 refine wpAny_Call_Name_kw (ld_glob I hg hm ?_ hdb)
 refine PySem.W.callWith_K (h₀ :=X.base) I.ok.mod.kin T.kC ?_ hs (by rfl)
 rw[hs]
 show wpAny _ _ (spliced ((false,eval e X.env)::backTo pos (starEach [] X.env))) _ _ s
 refine Calls.spliced_cons (thn (he.run pins s σ H _ I h) fun u s1 ⟨y,H1,I1,ry,q1⟩=> ?_)
 refine Calls.spliced_nil ⟨I1.kIn,?_⟩
 show wpAny _ _ (call (.ref C) [u]) _ _ _
 obtain⟨nm,N,qn,bs,bm,hdct,sn,sub,ab,col,dd,k0,k1,k2,k3,k5,hC,hT⟩:=PySem.W.excInit_of I1.kIn T.ini
 obtain⟨hp,g,dr,tk,os⟩:=s1
 have sz:hp.objs.size≤hp.objs.size+1:=Nat.le_succ _
 have n1:H1 (hp.objs.size+1)=none:=I1.hok.fresh sz
 have kk:∀b o,hp.get? b=some o→((hp.push (PySem.W.kdv_tup [u])).push (PySem.HandSPX.excO C hp.objs.size)).get? b=some o:=fun b o q=>Heap.get?_push_of_some _ (Heap.get?_push_of_some _ q)
 have gx:((hp.push (PySem.W.kdv_tup [u])).push (PySem.HandSPX.excO C hp.objs.size)).get? (hp.objs.size+1)=some (PySem.HandSPX.excO C hp.objs.size):=by heap_get
 have I2:Inv X pins σ (upd H1 (hp.objs.size+1) (exo (hp.objs.size+1) C none)) ⟨(hp.push (PySem.W.kdv_tup [u])).push (PySem.HandSPX.excO C hp.objs.size),g,dr,tk,os⟩:=I1.laid (t':=tk) (a:=hp.objs.size+1) (o:=exo (hp.objs.size+1) C none) (h':=(hp.push (PySem.W.kdv_tup [u])).push (PySem.HandSPX.excO C hp.objs.size)) kk sz (exo_ok gx)
 have want:spI C f [V.ref (hp.objs.size+1),y] (upd H1 (hp.objs.size+1) (exo (hp.objs.size+1) C none)) (fun v H2=>v= .non∧∃d,H2=upd (upd (upd H1 (hp.objs.size+1) (exo (hp.objs.size+1) C none)) d (exd d [(f,y)])) (hp.objs.size+1) (exo (hp.objs.size+1) C (some d))∧H1 d=none∧d≠hp.objs.size+1) (fun _ _ _=>False):=
  ⟨_,y,rfl,upd_same,fun dx nx ne=>⟨rfl,dx,rfl,by rw[upd_ne ne] at nx;exact nx,ne⟩⟩
 have rel:Vals [V.ref (hp.objs.size+1),y] [Value.ref (hp.objs.size+1),u] := .cons rfl (.cons ry .nil)
 have hl: [Value.ref (hp.objs.size+1),u].length=ps.length:=by
  rw[← rel.length];exact F1.len _ _ _ _ want
 have bd:=hb ⟨(hp.push (PySem.W.kdv_tup [u])).push (PySem.HandSPX.excO C hp.objs.size),g,dr,tk,os⟩ [Value.ref (hp.objs.size+1),u] I2.kIn hl
 rw[List.append_nil] at bd
 have rm:RoomG k (X.A.under (.builtin "type.__call__" ⟨.ref C:: [u],[]⟩)):=⟨hr.rm.make C [u] [],hr.gd⟩
 refine wpAny_call (PySem.HandSPX.call_own T.F hT hC (PySem.W.looks_findIn I1.kIn iC) (fun self=>PySem.W.bind_fn I1.kIn self tI) (by show 1≤sizeLine;rw[sizeLine_eq];omega)
  (codeAny_mono (F1.go _ X.stack _ _ ⟨[Value.ref (hp.objs.size+1),u],[]⟩ [Value.ref (hp.objs.size+1),u] _ _ (fun _ _ _=>False) rm (I2.env0.make C [u] []) bd rel want) fun r z hz=> ?_))
 match r,z,hz with
 | .error er,z,hz=>
   obtain⟨_,_,_,_,_,_,_,_,_,_,_,_,w⟩:=hz
   exact w.elim
 | .ok (.ret r'),⟨h2,g2,d2,t2,os2⟩,⟨v,H2,eo,bare,un,hok,rv,ev,d,eH,nd,ne⟩=>
   subst ev
   refine⟨rv,?_⟩
   have ed:H2 d=some (exd d [(f,y)]):=by rw[eH,upd_ne ne,upd_same]
   have ea:H2 (hp.objs.size+1)=some (exo (hp.objs.size+1) C (some d)):=by rw[eH,upd_same]
   refine mk_end (Q:=Q) (raises_own T.exC T.tyC) I1 sz kk un hok eo bare ea ed nd ?_
   have el:upd (L2.del H2 (hp.objs.size+1)) d (.xd [(f,y)])=upd H1 d (.xd [(f,y)]):=by
    funext b
    by_cases b1:b=d
    ·subst b1;rw[upd_same,upd_same]
    ·rw[upd_ne b1,upd_ne b1]
     by_cases b2:b=hp.objs.size+1
     ·subst b2;rw[L2.del_same,n1]
     ·rw[L2.del_ne b2,eH,upd_ne b2,upd_ne b1,upd_ne b2]
   rw[el]
   exact q1 d nd
 | .ok .next,_,hz=>exact False.elim hz
 | .ok .brk,_,hz=>exact False.elim hz
 | .ok .cont,_,hz=>exact False.elim hz
end L3
namespace L3
open PySem PySem.Spec PyProof.Rows L2
open PySem.HandSPX (HeldZ FlyingZ TracedZ)
abbrev Cx.suiteT (X:Cx) (a:Addr):Cx:= { X with A:=X.A.mark (some (.ref a)),calm:=false,xe:=fun _ _=>False }
theorem suite_ok {X:Cx} (ok:X.Ok) (a:Addr):(Cx.suiteT X a).Ok:=
 ⟨ok.mod,ok.kind,ok.glob,ok.blt,ok.above,ok.inj,ok.has,ok.cab,(fun z=>absurd (show false=true from z) Bool.false_ne_true),ok.frames,ok.stk,ok.exf,ok.bs,ok.bsz,ok.noex,ok.exfs,ok.funs,ok.frf⟩
section
variable {X:Cx} {pins:List (Addr × Obj)} {σ :L2.St} {H:Hp} {s:Shared} {a:Addr}
theorem toSuite (I:Inv X pins σ H s) (a:Addr):Inv (Cx.suiteT X a) pins σ H s:=⟨suite_ok I.ok a,I.os,I.bare,I.base,I.loc,I.cell,I.free,I.freeC,I.pin,I.hok,I.len⟩
theorem ofSuite (I:Inv (Cx.suiteT X a) pins σ H s) (ok:X.Ok):Inv X pins σ H s:=⟨ok,I.os,I.bare,I.base,I.loc,I.cell,I.free,I.freeC,I.pin,I.hok,I.len⟩
theorem track {cls:Value} {dx:Option Addr} {oe:Obj} {vs:Array Value} (I:Inv X pins σ H s) (ha:s.heap.get? a=some oe) (z:Zc cls dx oe) (hd:oe.data= .fields vs) (na:H a=none) (n0:X.s_0.heap.get? a=none) (np:∀p ∈ X.pn++pins,p.1≠a):
 Inv X pins σ (upd H a (xoH a cls dx)) s:=by
 have nL:X.env.locals≠a:=fun q=>by
  obtain⟨m,⟨o,es,ep,g,d,_⟩,_⟩:=I.loc
  rw[q,ha] at g;cases g
  rw[hd] at d;cases d
 have nC:∀x c,X.env.cells.lookup x=some c→c≠a:=fun x c e q=>by
  obtain⟨v,o,g,d⟩:=I.cell x c e
  rw[q,ha] at g;cases g
  rw[hd] at d;cases d
 have n1:∀ {b o},X.s_0.heap.get? b=some o→b≠a:=fun {b o} g q=>by rw[q,n0] at g;cases g
 have n2:∀ {b o},H b=some o→b≠a:=fun {b o} g q=>by rw[q,na] at g;cases g
 refine⟨I.ok,I.os,I.bare,⟨I.base.keep,I.base.slot,fun b o g n x=>(upd_ne (n1 g)).trans (I.base.free b o g n x),I.base.there,fun b xs e=> ?_,fun b o u e=> ?_,fun b ps e=> ?_⟩,I.loc,I.cell,(upd_ne nL).trans I.free,fun x c e=>(upd_ne (nC x c e)).trans (I.freeC x c e),fun p hp=> ?_,fun b u e=> ?_,I.len⟩
 ·have q:=I.base.tups b xs e
  exact(upd_ne (n2 q)).trans q
 ·have q:=I.base.frzs b o u e
  exact(upd_ne (n2 q)).trans q
 ·obtain⟨more,q⟩:=I.base.tbls b ps e
  exact⟨more,(upd_ne (n2 q)).trans q⟩
 ·obtain⟨q1,q2,q3,q4,q5⟩:=I.pin p hp
  exact⟨q1,(upd_ne (np p hp)).trans q2,q3,q4,q5⟩
 ·by_cases hb:b=a
  ·subst hb
   rw[upd_same] at e;cases e
   exact⟨⟨oe,vs,ha,z,hd⟩,⟨oe,ha⟩,fun _ _ ⟨o,v,q1,q2,q3⟩ k=>⟨o,v,k o q1,q2,q3⟩⟩
  ·rw[upd_ne hb] at e
   exact(I.hok b u e).stay (fun _ _ _ q=>q) (fun c q=>(upd_ne (n2 q)).trans q) fun c xs q=>(upd_ne (n2 q)).trans q
end
def Asks (X:Cx) (t:Expr) (ans:Value→Option Bool):Prop:=∀(a:Addr) (cls:Value) (b:Bool) (pins:List (Addr × Obj)) (σ :L2.St) (H:Hp) (s:Shared) (Q:Bool→Shared→Prop) (E:Value→Shared→Prop),
 Inv (Cx.suiteT X a) pins σ H s→PySem.W.Looks (model X.prog X.w) s.heap (typeOf (.ref a)) cls→ans cls=some b→
 (∀ h,(∀ c o,s.heap.get? c=some o→h.get? c=some o)→Q b { s with heap:=h })→
 wpAny (model X.prog X.w) (X.A.mark (some (.ref a))) (eval t X.env) (fun c s1=>wpAny (model X.prog X.w) (X.A.mark (some (.ref a))) (excMatches (.ref a) c) Q E s1) E s
section
variable {X:Cx}
theorem asks_name {x:Str} {c:Value} {p:Pos} (hc:Names X x c):Asks X (.Name x p) (fun cls=>PySem.W.exmOne X.K cls c):=by
 intro a cls b pins σ H s Q E I LT ans k
 have LM:=PySem.W.exm_one (M:=model X.prog X.w) I.kIn LT ans
 obtain⟨hg,hd,hm|⟨hm,hv,hn⟩⟩:=hc
 ·exact ld_glob (X:=Cx.suiteT X a) I hg hm (LM.here (k s.heap fun _ _ e=>e)) hd
 ·exact ld_blt (X:=Cx.suiteT X a) I hg hm hv (LM.here (k s.heap fun _ _ e=>e)) hn hd
end
end L3
namespace L3
open PySem PySem.Spec PyProof.Rows L2
open PySem.HandSPX (HeldZ FlyingZ TracedZ)
def Ex.d (e:Ex):D:= .xcp e.cls (e.fs.map (·.1)) (e.fs.map (·.2))
structure HdD where
 ys:List Str
 ns:List Str
 nm:Option Nat
 su:SD
def SR.past (r:SR) (nm:Option Nat):SR:=match r,nm with
 | .nx env S,none=> .nx env S
 | .nx env S,some i=> .nx (env.set i none) S
 | .ret d S,_=> .ret d S
 | .brk env S,none=> .brk env S
 | .brk env S,some i=> .brk (env.set i none) S
 | .ct env S,none=> .ct env S
 | .ct env S,some i=> .ct (env.set i none) S
 | _,_=> .bad
def nameD (nm:Option Nat) (e:Ex) (env:EnvD):EnvD:=match nm with
 |none=>env
 |some i=>env.set i (some e.d)
def hdsD:List HdD→Ex→EnvD→Store→SR
 | [],e,env,S=> .exc e env S
 |h::r,e,env,S=>if e.cls ∈ h.ys then(h.su (nameD h.nm e env) S).past h.nm else if e.cls ∈ h.ns then hdsD r e env S else .bad
def sTry (body:SD) (hs:List HdD):SD:=fun env S=>match body env S with
 | .exc e env1 S1=>hdsD hs e env1 S1
 |r=>r
inductive Hds (G:GC) (X:Cx):List ExceptHandler→List HdD→Prop
 |nil:Hds G X [] []
 |bare {t:Expr} {b:Stmt} {suite:List Stmt} {pos:Pos} {hs:List ExceptHandler} {l:List HdD} {ys ns:List Str} {su:SD} {ans:Value→Option Bool} (ask:Asks X t ans)
   (hy:∀c ∈ ys,∀C,G.mg c=some (.ref C)→ans (.ref C)=some true) (hn:∀c ∈ ns,∀C,G.mg c=some (.ref C)→ans (.ref C)=some false)
   (hsu:∀a,PSs (Cx.suiteT X a) (b::suite) (tS G su WF)) (r:Hds G X hs l):Hds G X (.ExceptHandler (some t) none (b::suite) pos::hs) (⟨ys,ns,none,su⟩::l)
 |named {t:Expr} {n:Str} {i:Nat} {b:Stmt} {suite:List Stmt} {pos:Pos} {hs:List ExceptHandler} {l:List HdD} {ys ns:List Str} {su:SD} {ans:Value→Option Bool} (ask:Asks X t ans) (hi:X.N[i]? =some n) (hl:X.env.kindOf n=some .local)
   (hy:∀c ∈ ys,∀C,G.mg c=some (.ref C)→ans (.ref C)=some true) (hn:∀c ∈ ns,∀C,G.mg c=some (.ref C)→ans (.ref C)=some false)
   (hsu:∀a,PSs (Cx.suiteT X a) (b::suite) (tS G su WF)) (r:Hds G X hs l):Hds G X (.ExceptHandler (some t) (some n) (b::suite) pos::hs) (⟨ys,ns,some i,su⟩::l)
def wHds (G:GC) (Wx:WX) (D:Ends) (l:List HdD):WX:=fun C dx σ H=>∃w env e,w.H=H∧SRep G w∧ERep G w env σ ∧XRep G w e C dx∧PostS G w (hdsD l e env w.S) D Wx
theorem xcp_rep {G:GC} {w:Wd} {e:Ex} {Ca a:Addr} {dx:Option Addr} (m:G.mg e.cls=some (.ref Ca)) (x:XRep G w e (.ref Ca) dx) (sr:SRep G w) (na:w.H a=none):
 WExt w (w.put a (xoH a (.ref Ca) dx))∧SRep G (w.put a (xoH a (.ref Ca) dx))∧Rep G (w.put a (xoH a (.ref Ca) dx)) e.d (.ref a):=by
 obtain⟨x1,s1,nm⟩:=new_ext (o:=xoH a (.ref Ca) dx) sr na
 refine⟨x1,s1,?_⟩
 unfold Ex.d
 simp only[Rep]
 obtain⟨_,hf⟩:=x
 have cut:∀ {fs:List (Str × D)} {kvs:List (Str × V)},RepKV G w fs kvs→∃vs,(fs.map (·.1)).zip vs=kvs∧RepL G w (fs.map (·.2)) vs:=by
  intro fs
  induction fs with
  |nil=>intro kvs h;cases kvs with
   |nil=>exact⟨[],rfl,by simp[RepL]⟩
   |cons _ _=>simp[RepKV] at h
  |cons p fs ih=>
   intro kvs h
   obtain⟨v,y,rfl,h1,h2⟩:=h
   obtain⟨vs,e1,e2⟩:=ih h2
   exact⟨v::vs,by simp[e1],by simp only[List.map_cons,RepL];exact⟨v,vs,rfl,h1,e2⟩⟩
 rcases hf with⟨hf,hd0⟩|⟨d,kvs,e1,e2,nd,rk⟩
 ·exact⟨a,Ca,dx,[],rfl,m,⟨upd_same,nm⟩,by simp, .inl ⟨by rw[hf];rfl,hd0⟩,by rw[hf];simp[RepL]⟩
 ·obtain⟨vs,q1,q2⟩:=cut rk
  have ne:d≠a:=fun q=>by rw[q,na] at e2;cases e2
  exact⟨a,Ca,dx,vs,rfl,m,⟨upd_same,nm⟩,by simp, .inr ⟨d,e1,by rw[q1];exact(upd_ne ne).trans e2,(x1.keepM noT e2 nd).2⟩,RepL.mono x1 _ _ q2⟩
def pastS (nm:Option Nat) (τ :L2.St):L2.St:=match nm with
 |none=> τ
 |some i=> τ.set i none
section
variable {G:GC} {X:Cx} {Wx:WX} {pos:Pos}
theorem suite_reads {w:Wd} {env:EnvD} {σ :L2.St} {D:Ends} {l:SR} {nm:Option Nat} (h:PostS G w (l.past nm) D Wx):
 PostS G w l { nx:=fun τ H=>D.nx (pastS nm τ) H,rt:=D.rt,bk:=fun τ H=>D.bk (pastS nm τ) H,ct:=fun τ H=>D.ct (pastS nm τ) H } WF:=by
 cases l with
 |nx env' S'=>cases nm with
  |none=>exact fun τ w' x e s er=>h τ w' x e s er
  |some i=>exact fun τ w' x e s er=>h (τ.set i none) w' x e s (er.unset i)
 |ret d S'=>cases nm<;>exact fun v w' x e s r=>h v w' x e s r
 |brk env' S'=>cases nm with
  |none=>exact fun τ w' x e s er=>h τ w' x e s er
  |some i=>exact fun τ w' x e s er=>h (τ.set i none) w' x e s (er.unset i)
 |ct env' S'=>cases nm with
  |none=>exact fun τ w' x e s er=>h τ w' x e s er
  |some i=>exact fun τ w' x e s er=>h (τ.set i none) w' x e s (er.unset i)
 |exc _ _ _=>cases nm<;>exact h.elim
 |bad=>cases nm<;>exact h.elim
theorem ps_hds {body:List Stmt} {h0:ExceptHandler} {hs:List ExceptHandler} {l:List HdD} {tb:WX→TS} (st:X.stack=X.env::X.outer) (fr:X.env.frame=some X.env.locals) (hN:X.N.Nodup) (hex:X.ex= []) (tk:Takes X Wx)
 (hb:∀(W:WX) (pn:List (Addr × Obj)) (xe:Value→Shared→Prop),Takes (X.tr pn xe) W→PassesOwn (model X.prog X.w) X.A X.env xe→PSs (X.tr pn xe) body (tb W)) (hh:Hds G X (h0::hs) l):
 PS X (.Try body (h0::hs) [] [] pos) (fun D σ H=>tb (wHds G Wx D l) D σ H):=by
 refine⟨fun pins s σ H D I h=> ?_⟩
 have ok:=I.ok
 have frA:X.A.frames=some (X.env::X.outer):=by rw[ok.frames,st]
 refine wpAny_Try_except ?_
 refine wpAny_mono ((hb (wHds G Wx D l) (X.pn++pins) (fun e z=>wpAny (model X.prog X.w) X.A (noteFrame e X.env) (fun _ z2=>wpAny (model X.prog X.w) X.A (setFlight e none) (fun _ z3=>
  wpAny (model X.prog X.w) X.A (handleBy e X.env (h0::hs)) (SP X pins D) X.xe z3) X.xe z2) X.xe z) (fun u z xx=> ?_) PassesOwn.looking).run [] s σ H D (I.toTry _) h) (fun f z hz=> ?_) fun _ _ y=>y
 ·obtain⟨a,B,sI,_,σ1,H1,cls,dx,rfl,J0,nb,up,sky,na,os,ag,w,env,e,rfl,sr,er,xr,p⟩:=xx
  have J:Inv X pins σ1 w.H sI:=J0.ofTry ok
  have sky':Sky B (X.env::X.outer) a (Zc cls dx) X.env.locals z.heap:=by rw[← st];exact sky
  show wpAny (model X.prog X.w) X.A (noteFrame (.ref a) X.env) _ _ _
  refine Sky.land Zc.steady frA fr sky' fun h3 fl3 up3=> ?_
  obtain⟨⟨Ca,mC,rfl⟩,_⟩:=id xr
  have nfr:a ∉ frs (X.env::X.outer):=fun hm=>by
   obtain⟨oe,vs,g,_,d⟩:=fl3.there
   obtain⟨_,o,g',nf⟩:=fl3.2.2.1.mem hm
   rw[g] at g';cases g'
   exact nf _ d
  have nI:sI.heap.get? a=none:=by
   cases q:sI.heap.get? a with
   |none=>rfl
   |some o=>
    have y:=nb a o q (by rw[st];exact nfr)
    rw[fl3.2.1] at y;cases y
  have n0:X.s_0.heap.get? a=none:=by
   cases q:X.s_0.heap.get? a with
   |none=>rfl
   |some o=>
    obtain⟨o',y⟩:=J.base.there a o q (by rw[hex];simp)
    rw[nI] at y;cases y
  have np:∀q ∈ X.pn++pins,q.1≠a:=fun q hq e=>by
   have y:=(J.pin q hq).1
   rw[e,nI] at y;cases y
  have go:∀(hs':List ExceptHandler) (l':List HdD),Hds G X hs' l'→∀(h4:Heap),FlyingZ B (X.env::X.outer) a (Zc (.ref Ca) dx) h4→z.heap.UpToSlots h4→PostS G w (hdsD l' e env w.S) D Wx→
   wpAny (model X.prog X.w) X.A (handleBy (.ref a) X.env hs') (SP X pins D) X.xe { z with heap:=h4 } :=by
   intro hs' l' hd
   have step:∀ {t:Expr} {ans:Value→Option Bool} {b:Bool} {h4:Heap} {Q:Bool→Shared→Prop} {E:Value→Shared→Prop},Asks X t ans→ans (.ref Ca)=some b→FlyingZ B (X.env::X.outer) a (Zc (.ref Ca) dx) h4→z.heap.UpToSlots h4→
    (∀ h5,FlyingZ B (X.env::X.outer) a (Zc (.ref Ca) dx) h5→z.heap.UpToSlots h5→Q b { z with heap:=h5 })→
    wpAny (model X.prog X.w) (X.A.mark (some (.ref a))) (eval t X.env) (fun c s1=>wpAny (model X.prog X.w) (X.A.mark (some (.ref a))) (excMatches (.ref a) c) Q E s1) E { z with heap:=h4 } :=by
    intro t ans b h4 Q E ask an fl4 up4 k
    have J4:Inv X pins σ1 w.H { z with heap:=h4 } :=J.landed nb fl4.1 (up.trans up4) os ag
    obtain⟨oe,vs,g,zz,d⟩:=fl4.there
    have LT:PySem.W.Looks (model X.prog X.w) h4 (typeOf (.ref a)) (.ref Ca):=fun A Q E s kk q=>wpAny_typeOf_ref (kk _ _ g) (by rw[zz.1];exact q)
    refine ask a (.ref Ca) b pins σ1 w.H { z with heap:=h4 } Q E (toSuite J4 a) LT an fun h5 kp=>k h5 ?_ (up4.trans (Heap.UpToSlots.of_keeps kp))
    obtain⟨k1,k2,k3,o1,v1,tb,o2,v2,g1,z1,d1,i1,ntb,ne,g2,d2,i2⟩:=fl4
    exact⟨fun b o q=>kp b o (k1 b o q),k2,k3.of_keeps fun b o q _=>⟨o,kp b o q,rfl⟩,o1,v1,tb,o2,v2,kp _ _ g1,z1,d1,i1,ntb,ne,kp _ _ g2,d2,i2⟩
   have enter:∀ {b:Stmt} {suite:List Stmt} {su:SD} {nm:Option Nat} {env':EnvD} {τ :L2.St} {h5:Heap} {s5:Shared} {Q:Flow→Shared→Prop} {E:Value→Shared→Prop},(∀ a,PSs (Cx.suiteT X a) (b::suite) (tS G su WF))→
    Inv (Cx.suiteT X a) pins τ (upd w.H a (xoH a (.ref Ca) dx)) s5→ERep G (w.put a (xoH a (.ref Ca) dx)) env' τ →PostS G w ((su env' w.S).past nm) D Wx→
    (∀ f s6,SP (Cx.suiteT X a) pins { nx:=fun τ H=>D.nx (pastS nm τ) H,rt:=D.rt,bk:=fun τ H=>D.bk (pastS nm τ) H,ct:=fun τ H=>D.ct (pastS nm τ) H } f s6→Q f s6)→
    wpAny (model X.prog X.w) (X.A.mark (some (.ref a))) (execs (b::suite) X.env) Q E s5:=by
    intro b suite su nm env' τ h5 s5 Q E hsu I5 er5 p5 k
    obtain⟨x1,s1,_⟩:=xcp_rep mC xr sr na
    have q:=(hsu a).run pins s5 τ _ _ I5 ⟨w.put a (xoH a (.ref Ca) dx),env',rfl,s1,er5,suite_reads (σ := τ) (env:=env') (PostS.shift x1 p5)⟩
    exact wpAny_mono q (fun f s6 y=>k f s6 y) fun _ _ y=>False.elim y
   induction hd with
   |nil=>
    intro h4 fl4 up4 p4
    refine wpAny_handleBy_nil ?_
    obtain⟨k1,k2,k3,o1,v1,tb,o2,v2,g1,z1,d1,i1,ntb,ne,g2,d2,i2⟩:=id fl4
    unfold PySem.passOn
    refine wpAny_bind (wpAny_field g1 d1 i1 ?_)
    rw[if_neg (show ¬((Value.ref tb==Value.none)=true) from by simp),fr]
    have fin:wpAny (model X.prog X.w) X.A (setFlight (.ref a) (some X.env.locals)) (fun _ z5=>wpAny (model X.prog X.w) X.A (throw (.ref a):Sem Flow) (SP X pins D) X.xe z5) X.xe { z with heap:=h4 } :=by
     refine PySem.HandSPX.setFlight_upZ fl4 fun h5 hh5 up5=>wpAny_throw (tk _ _ ?_)
     exact⟨a,B,sI,pins,σ1,w.H, .ref Ca,dx,rfl,J,nb,(up.trans up4).trans up5, .inr (.inr (by rw[st];exact hh5)),na,os,ag,p4 _ _ σ1 w (.refl w) rfl sr er xr⟩
    first
     |exact wpAny_bind (wpAny_pure (wpAny_bind fin))
     |exact wpAny_bind fin
   | @bare t b suite pos hs l ys ns su ans ask hy hn hsu r ih=>
     intro h4 fl4 up4 p4
     have p4:PostS G w (if e.cls ∈ ys then(su env w.S).past none else if e.cls ∈ ns then hdsD l e env w.S else .bad) D Wx:=p4
     refine wpAny_handleBy_cons (codeAny_handlers_test ?_) (by intro q;cases q)
     by_cases m:e.cls ∈ ys
     ·rw[if_pos m] at p4
      refine step ask (hy _ m Ca mC) fl4 up4 fun h5 fl5 up5=> ?_
      refine codeAny_handlers_suite ?_
      refine PySem.HandSPX.lands_againZ fl5 fun h6 fl6 up6=> ?_
      have J6:Inv X pins σ1 w.H { z with heap:=h6 } :=J.landed nb fl6.1 (up.trans (up5.trans up6)) os ag
      obtain⟨oe,vs,g,zz,d⟩:=fl6.there
      obtain⟨x1,_,_⟩:=xcp_rep mC xr sr na
      refine enter (nm:=none) (h5:=h6) hsu (toSuite (track J6 g zz d na n0 np) a) (er.mono x1) p4 fun f s6 y=> ?_
      cases f with
      |next=>obtain⟨σ6,H6,S6,q6⟩:=y;exact⟨σ6,H6,ofSuite S6 ok,q6⟩
      |brk=>obtain⟨σ6,H6,S6,q6⟩:=y;exact⟨σ6,H6,ofSuite S6 ok,q6⟩
      |cont=>obtain⟨σ6,H6,S6,q6⟩:=y;exact⟨σ6,H6,ofSuite S6 ok,q6⟩
      |ret u=>obtain⟨v6,σ6,H6,S6,r6,q6⟩:=y;exact⟨v6,σ6,H6,ofSuite S6 ok,r6,q6⟩
     ·rw[if_neg m] at p4
      by_cases m2:e.cls ∈ ns
      ·rw[if_pos m2] at p4
       refine step ask (hn _ m2 Ca mC) fl4 up4 fun h5 fl5 up5=> ?_
       exact ih h5 fl5 up5 p4
      ·rw[if_neg m2] at p4;exact p4.elim
   | @named t n i b suite pos hs l ys ns su ans ask hi hl hy hn hsu r ih=>
     intro h4 fl4 up4 p4
     have p4:PostS G w (if e.cls ∈ ys then(su (env.set i (some e.d)) w.S).past (some i) else if e.cls ∈ ns then hdsD l e env w.S else .bad) D Wx:=p4
     refine wpAny_handleBy_cons (codeAny_handlers_test ?_) (by intro q;cases q)
     by_cases m:e.cls ∈ ys
     ·rw[if_pos m] at p4
      refine step ask (hy _ m Ca mC) fl4 up4 fun h5 fl5 up5=> ?_
      refine codeAny_handlers_suite_as ?_
      refine PySem.HandSPX.lands_againZ fl5 fun h6 fl6 up6=> ?_
      have J6:Inv X pins σ1 w.H { z with heap:=h6 } :=J.landed nb fl6.1 (up.trans (up5.trans up6)) os ag
      obtain⟨oe,vs,g,zz,d⟩:=fl6.there
      obtain⟨x1,_,rx⟩:=xcp_rep mC xr sr na
      refine store_ok (X:=Cx.suiteT X a) (v:= .ref a) (toSuite (track J6 g zz d na n0 np) a) hN hi (.inl hl) rfl (fun s7 I7=> ?_) (.inr hl)
      have out:∀ {σ6:L2.St} {H6:Hp} {s6:Shared} {Q:Shared→Prop},Inv (Cx.suiteT X a) pins σ6 H6 s6→(∀ s7,Inv X pins (σ6.set i none) H6 s7→Q s7)→
       wpAny (model X.prog X.w) X.A (do bindName X.env n .none;unbindBehindTheSuite X.env n pos) (fun _ s7=>Q s7) X.xe s6:=fun S6 k=>gone_ok (ofSuite S6 ok) hN hi hl k
      refine enter (nm:=some i) (h5:=h6) hsu I7 ((er.mono x1).set i rx) p4 fun f s6 y=> ?_
      cases f with
      |next=>obtain⟨σ6,H6,S6,q6⟩:=y;exact out S6 fun s7 J7=>⟨_,_,J7,q6⟩
      |brk=>obtain⟨σ6,H6,S6,q6⟩:=y;exact out S6 fun s7 J7=>⟨_,_,J7,q6⟩
      |cont=>obtain⟨σ6,H6,S6,q6⟩:=y;exact out S6 fun s7 J7=>⟨_,_,J7,q6⟩
      |ret u=>obtain⟨v6,σ6,H6,S6,r6,q6⟩:=y;exact out S6 fun s7 J7=>⟨_,_,_,J7,r6,q6⟩
     ·rw[if_neg m] at p4
      by_cases m2:e.cls ∈ ns
      ·rw[if_pos m2] at p4
       refine step ask (hn _ m2 Ca mC) fl4 up4 fun h5 fl5 up5=> ?_
       exact ih h5 fl5 up5 p4
      ·rw[if_neg m2] at p4;exact p4.elim
  exact go (h0::hs) l hh h3 fl3 up3 p
 ·cases f with
  |next=>obtain⟨σ6,H6,S6,q6⟩:=hz;exact wpAny_execs_nil ⟨σ6,H6,S6.ofTry ok,q6⟩
  |brk=>obtain⟨σ6,H6,S6,q6⟩:=hz;exact⟨σ6,H6,S6.ofTry ok,q6⟩
  |cont=>obtain⟨σ6,H6,S6,q6⟩:=hz;exact⟨σ6,H6,S6.ofTry ok,q6⟩
  |ret u=>obtain⟨v6,σ6,H6,S6,r6,q6⟩:=hz;exact⟨v6,σ6,H6,S6.ofTry ok,r6,q6⟩
theorem q_try {body:List Stmt} {h0:ExceptHandler} {hs:List ExceptHandler} {l:List HdD} {mb:SD} (st:X.stack=X.env::X.outer) (fr:X.env.frame=some X.env.locals) (hN:X.N.Nodup) (hex:X.ex= []) (tk:Takes X Wx)
 (hb:∀(W:WX) (pn:List (Addr × Obj)) (xe:Value→Shared→Prop),Takes (X.tr pn xe) W→PassesOwn (model X.prog X.w) X.A X.env xe→PSs (X.tr pn xe) body (tS G mb W)) (hh:Hds G X (h0::hs) l):
 PS X (.Try body (h0::hs) [] [] pos) (tS G (sTry mb l) Wx):=psI (ps_hds st fr hN hex tk hb hh) fun D σ H q=>by
 obtain⟨w,env,rfl,sr,er,p⟩:=q
 refine⟨w,env,rfl,sr,er,?_⟩
 unfold sTry at p
 cases hm:mb env w.S with
 |exc e env1 S1=>
  rw[hm] at p
  intro C dx τ w' x es s' er' xr
  subst es
  exact⟨w',env1,e,rfl,s',er',xr,PostS.shift x p⟩
 |nx _ _=>rw[hm] at p;exact p
 |ret _ _=>rw[hm] at p;exact p
 |brk _ _=>rw[hm] at p;exact p
 |ct _ _=>rw[hm] at p;exact p
 |bad=>rw[hm] at p;exact p
end
end L3
namespace L3
open PySem PySem.Spec PyProof.Rows L2
def sRaise0 (c:Str):SD:=fun env S=> .exc ⟨c,[]⟩ env S
def sRaise1 (c f:Str) (a:ED):SD:=fun env S=>(a env S).toS env fun d S1=> .exc ⟨c,[(f,d)]⟩ env S1
structure Xc1 (P:Program) (w:World) (G:GC) (base:Heap) (k:Nat) (c f:Str) (C:Addr):Prop where
 m:G.mg c=some (.ref C)
 ox:∃B n i bm,Oxc G.K C B n i bm
 no:PySem.W.findIn G.K (.ref C) f=some none
 ini:∃fI fd ps,PySem.W.findIn G.K (.ref C) "__init__" =some (some (.ref fI))∧PySem.W.typeIn G.K (.ref fI)=some (.type "function")∧FnG P w G.K G.mg base k fI fd ps (spI C f)∧Binds G.K fd ps []
structure Xc0 (G:GC) (c:Str) (C:Addr):Prop where
 m:G.mg c=some (.ref C)
 ex:∃B n i bm,ExcBaseFacts B n i bm∧PySem.W.excIn G.K C bm n=true
 kp:PySem.W.keepIn G.K (.ref C)=true
 sb:PySem.W.subIn G.K (.ref C) (.type "BaseException")=some true
 ty:PySem.W.typeIn G.K (.ref C)=some (.type "type")
section
variable {G:GC} {X:Cx} {Wx:WX} {pos p:Pos}
theorem q_raise1 {k:Nat} {c f:Str} {C:Addr} {e:Expr} {me:ED} {pr:Pos} (T:Xc1 X.prog X.w G X.base k c f C) (hr:RoomG (k+1) X.A) (hK:X.K=G.K) (hmg:X.mg=G.mg) (hc:X.calm=true) (tk:Takes X Wx) (hg:Gl X c) (he:PE X e (tE G me Wx))
 (hdb:(c==("__debug__" :Str))=false:=by decide) (hs:starEach [e] X.env=(false,eval e X.env)::starEach [] X.env:=by rfl):PS X (.Raise (some (.Call (.Name c p) [e] [] pos)) none pr) (tS G (sRaise1 c f me) Wx):=by
 obtain⟨B,n,i,bm,ox⟩:=T.ox
 obtain⟨fI,fd,ps,i1,i2,i3,i4⟩:=T.ini
 rw[← hK] at ox i1 i2 i4
 rw[← hK,←hmg] at i3
 refine psI (ps_raise hc tk (pmk_one ox i1 i2 i3 hr i4 hg (by rw[hmg];exact T.m) he hdb hs)) fun D σ H q=> ?_
 obtain⟨w,env,rfl,sr,er,pp⟩:=q
 refine⟨w,env,rfl,sr,er,(PostS.ofR (Ra:=Rep G) er pp).mono (fun y H1 m=> ?_) fun _ _ _ h=>h⟩
 obtain⟨w1,d1,rfl,x1,s1,rp1,p1⟩:=m
 intro d nd
 obtain⟨x2,s2,nm⟩:=new_ext (o:=HO.xd [(f,y)]) s1 nd
 exact p1 (.ref C) (some d) σ _ x2 rfl s2 ((er.mono x1).mono x2) ⟨⟨C,T.m,rfl⟩, .inr ⟨d,[(f,y)],rfl,upd_same,nm,⟨y,[],rfl,Rep.mono x2 _ _ rp1,rfl⟩⟩⟩
end
structure XcI (K:PySem.W.Frag) (C:Addr):Prop where
 hga:PySem.W.findIn K (.ref C) "__getattribute__" =some (some (.builtin "BaseException.__getattribute__"))
 hgt:PySem.W.findIn K (.ref C) "__getattr__" =some none
 hsb:PySem.W.subIn K (.ref C) (.type "BaseException")=some true
 hd:PySem.W.hasDictIn K C=true
 ha:PySem.W.findIn K (.ref C) "__class__" =some (some (.builtin "object.__class__"))
 hn:PySem.W.specialIn K (.builtin "object.__class__") "__get__" =some (some (.builtin "getset_descriptor.__get__"))
 ht:PySem.W.takesIn K (.builtin "object.__class__")=some true
 hm:PySem.W.mroIn K C (.type "object")=some true
theorem XcI.kit {K:PySem.W.Frag} {C x:Addr} {ox:Obj} {od:Option Obj} (T:XcI K C):PySem.W.KitX K (.ref x) (.ref C) (fun h=>PySem.W.InstAt h x ox C od):=
 PySem.W.kitx_exc (by obtain⟨cd,h,_⟩:=PySem.W.any_some T.hd;rw[h];rfl) T.hga T.hgt T.hsb T.ha T.hn T.ht T.hm
def isxD (ys ns:List Str):F1:=fun x S=>match x with
 | .xcp c _ _=>if c ∈ ys then .ok (.bl true) S else if c ∈ ns then .ok (.bl false) S else .bad
 | _=> .bad
def ClsE (X:Cx) (t:Expr) (ans:Value→Option Bool):Prop:=∀(a C:Addr) (ox:Obj) (od:Option Obj) (b:Bool) (pins:List (Addr × Obj)) (σ :L2.St) (H:Hp) (s:Shared) (Q:Value→Shared→Prop) (E:Value→Shared→Prop),
 Inv X pins σ H s→PySem.W.InstAt s.heap a ox C od→XcI X.K C→ans (.ref C)=some b→(∀ h tk,(∀ c o,s.heap.get? c=some o→h.get? c=some o)→Q (.bool b) { s with heap:=h,toks:=tk })→
 wpAny (model X.prog X.w) X.A (eval t X.env) (fun c s1=>wpAny (model X.prog X.w) X.A (call (.builtin "isinstance") [.ref a,c]) Q E s1) E s
section
variable {X:Cx}
theorem at_name {pins:List (Addr × Obj)} {σ :L2.St} {H:Hp} {s:Shared} {x:Str} {c:Value} {p:Pos} {Q E:Value→Shared→Prop} (hc:Names X x c) (I:Inv X pins σ H s) (q:Q c s):wpAny (model X.prog X.w) X.A (eval (.Name x p) X.env) Q E s:=by
 obtain⟨hg,hd,hm|⟨hm,hv,hn⟩⟩:=hc
 ·exact ld_glob I hg hm q hd
 ·exact ld_blt I hg hm hv q hn hd
theorem cls_name {x:Str} {c:Value} {p:Pos} (hc:Names X x c):ClsE X (.Name x p) (fun cls=>PySem.W.kitOne X.K cls c):=by
 intro a C ox od b pins σ H s Q E I J T ans k
 exact at_name hc I (PySem.W.kia_one T.kit I.kIn J ans (fun z=>nomatch z) fun tk=>k s.heap tk fun _ _ e=>e)
theorem xcp_inst {G:GC} {pins:List (Addr × Obj)} {σ :L2.St} {s:Shared} {w:Wd} {c:Str} {ks:List Str} {l:List D} {v:V} (I:Inv X pins σ w.H s) (r:Rep G w (.xcp c ks l) v):
 ∃a C ox od,v= .ref a∧G.mg c=some (.ref C)∧PySem.W.InstAt s.heap a ox C od∧(∀ f d,(ks.zip l).lookup f=some d→∃oD u x,od=some oD∧PySem.W.lookIn f oD=some (some u)∧RelV x u∧Rep G w d x):=by
 simp only[Rep] at r
 obtain⟨a,C,dx,vs,rfl,m,⟨ha,_⟩,hl,hf,rl⟩:=r
 have xo:ObjOk X.prog X.w w.H s.heap a (xoH a (.ref C) dx):=I.hok a _ ha
 obtain⟨⟨oe,fv,g,z,d⟩,_,_⟩:=xo
 have nc:PySem.W.notCls oe=true:=by unfold PySem.W.notCls;rw[d] <;>rfl
 rcases hf with⟨rfl,rfl⟩|⟨dd,rfl,hd,_⟩
 ·exact⟨a,C,oe,none,rfl,m,⟨g,z.1,nc,by rw[z.2];trivial⟩,fun f d h=>by simp at h⟩
 ·have xd:ObjOk X.prog X.w w.H s.heap dd (.xd (ks.zip vs)):=I.hok dd _ hd
  obtain⟨mA,hns,hr⟩:=xd
  obtain⟨od,ho,hlk⟩:=lookIn_ns hns
  refine⟨a,C,oe,some od,rfl,m,⟨g,z.1,nc,by rw[z.2];exact ho⟩,fun f d h=> ?_⟩
  have key:∀(ks:List Str) (l:List D) (vs:List V),ks.length=l.length→RepL G w l vs→(ks.zip l).lookup f=some d→∃x,(ks.zip vs).lookup f=some x∧Rep G w d x:=by
   intro ks
   induction ks with
   |nil=>intro l vs _ _ h;simp at h
   |cons k ks ih=>
    intro l vs hl r h
    cases l with
    |nil=>simp at hl
    |cons d0 l=>
     simp only[RepL] at r
     obtain⟨v0,r0,rfl,h1,h2⟩:=r
     simp only[List.zip_cons_cons,List.lookup_cons] at h ⊢
     cases e:f==k with
     |true=>rw[e] at h;cases h;exact⟨v0,rfl,h1⟩
     |false=>rw[e] at h;exact ih l r0 (by simpa using hl) h2 h
  obtain⟨x,e1,e2⟩:=key ks l vs hl rl h
  obtain⟨u,hu,ru⟩:=RelO.some_of (v:=x) (o:=mA f) (by rw[← e1];exact hr f)
  exact⟨od,u,x,rfl,by rw[hlk,hu],ru,e2⟩
end
section
variable {G:GC} {X:Cx} {Wx:WX} {pos p:Pos}
theorem q_isx {e t:Expr} {me:ED} {ys ns:List Str} {ans:Value→Option Bool} (hK:X.K=G.K) (hg:Gl X "isinstance") (hm:X.mg "isinstance" =none) (he:PE X e (tE G me Wx)) (ct:ClsE X t ans)
 (hy:∀c ∈ ys,∀C,G.mg c=some (.ref C)→XcI G.K C∧ans (.ref C)=some true) (hn:∀c ∈ ns,∀C,G.mg c=some (.ref C)→XcI G.K C∧ans (.ref C)=some false)
 (hs:starEach [e,t] X.env=(false,eval e X.env)::starEach [t] X.env:=by rfl) (hs2:starEach [t] X.env=(false,eval t X.env)::starEach [] X.env:=by rfl) (hpl:(backTo pos (starEach [t] X.env)).any (·.1)=false:=by rfl):
 PE X (.Call (.Name "isinstance" p) [e,t] [] pos) (tE G (e1 (isxD ys ns) me) Wx):=by
 refine⟨fun pins s σ H Q I q=> ?_⟩
 obtain⟨w,env,rfl,sr,er,pp⟩:=q
 refine wpAny_Call_Name_kw (ld_blt I hg hm PyProof.Rows.Boot.«isinstance» ?_ (by decide) (by decide))
 refine PyProof.Rows.callWith_builtin1 ?_ hs hpl
 rw[hs]
 show wpAny _ _ (spliced ((false,eval e X.env)::backTo pos (starEach [t] X.env))) _ _ s
 refine Calls.spliced_cons (thn (he.run pins s σ w.H _ I ⟨w,env,rfl,sr,er,Post.bind pp⟩) fun u s1 ⟨x,H1,I1,rx,q1⟩=> ?_)
 obtain⟨w1,d1,rfl,x1,s1',rp1,p1⟩:=q1
 unfold isxD at p1
 split at p1
 ·rename_i c ks l
  obtain⟨a,C,ox,od,rfl,m,J,_⟩:=xcp_inst I1 rp1
  cases rx
  rw[hs2]
  show wpAny _ _ (spliced ((false,eval t X.env)::backTo pos (starEach [] X.env))) _ _ s1
  have fin:∀b,XcI G.K C∧ans (.ref C)=some b→Post G w1 (.ok (.bl b) w1.S) (Rep G) Q (fun C dx H'=>Wx C dx σ H')→wpAny (model X.prog X.w) X.A (spliced ((false,eval t X.env)::backTo pos (starEach [] X.env))) (fun vs s2=>wpAny (model X.prog X.w) X.A (call (.builtin "isinstance") (.ref a::vs)) (EP X pins σ Q) X.xe s2) X.xe s1:=fun b hb pb=>
   Calls.spliced_cons (wpAny_mono (ct a C ox od b pins σ w1.H s1 (EP X pins σ Q) X.xe I1 J (by rw[hK];exact hb.1) hb.2 fun h tk kp=>⟨.bl b,w1.H,I1.kept (t':=tk) kp,rfl,Post.ret s1' (by simp[Rep]) pb⟩) (fun c s2 y=>Calls.spliced_nil y) fun _ _ y=>y)
  split at p1
  ·rename_i hy'
   exact fin true (hy c hy' C m) p1
  ·split at p1
   ·rename_i hn'
    exact fin false (hn c hn' C m) p1
   ·exact p1.elim
 ·exact p1.elim
def xfD (cs:List Str) (f:Str):F1:=fun x S=>match x with
 | .xcp c ks l=>if c ∈ cs then(match(ks.zip l).lookup f with
   |some d=> .ok d S
   |none=> .bad) else .bad
 | _=> .bad
theorem q_xf {e:Expr} {me:ED} {cs:List Str} {f:Str} (hK:X.K=G.K) (he:PE X e (tE G me Wx)) (hc:∀c ∈ cs,∀C,G.mg c=some (.ref C)→XcI G.K C∧PySem.W.findIn G.K (.ref C) f=some none)
 (hb:attributeBase e f X.env (eval e X.env)=eval e X.env:=by rfl):PE X (.Attribute e f pos) (tE G (e1 (xfD cs f) me) Wx):=by
 refine⟨fun pins s σ H Q I q=> ?_⟩
 obtain⟨w,env,rfl,sr,er,pp⟩:=q
 refine attr_of hb (thn (he.run pins s σ w.H _ I ⟨w,env,rfl,sr,er,Post.bind pp⟩) fun u s1 ⟨x,H1,I1,rx,q1⟩=> ?_)
 obtain⟨w1,d1,rfl,x1,s1',rp1,p1⟩:=q1
 unfold xfD at p1
 split at p1
 ·rename_i c ks l
  obtain⟨a,C,ox,od,rfl,m,J,fl⟩:=xcp_inst I1 rp1
  cases rx
  split at p1
  ·rename_i hc'
   obtain⟨T,no⟩:=hc c hc' C m
   rw[← hK] at T no
   cases hl:(ks.zip l).lookup f with
   |none=>rw[hl] at p1;exact p1.elim
   |some d=>
    rw[hl] at p1
    obtain⟨oD,u,y,rfl,l1,ry,r2⟩:=fl f d hl
    exact PySem.HandSPX.exc_get I1.kIn J T.hga T.hgt T.hsb (PySem.W.findObj_own T.hd no rfl l1) (handed_of ry) ⟨y,w1.H,I1.tok _,ry,Post.ret s1' r2 p1⟩
  ·exact p1.elim
 ·exact p1.elim
end
end L3
namespace L3
open PySem PySem.Spec PyProof.Rows L2
structure XcD (K:PySem.W.Frag) (D:Addr):Prop where
 sb:PySem.W.subIn K (.ref D) (.type "BaseException")=some true
 hd:PySem.W.hasDictIn K D=true
 ty:PySem.W.typeIn K (.ref D)=some (.type "type")
section
variable {K:PySem.W.Frag} {D C:Addr} {b b1 b2 b3:Bool} {t c c1 c2 c3:Value}
theorem exm_own (T:XcD K D) (h:PySem.W.subIn K t (.ref D)=some b):PySem.W.exmOne K t (.ref D)=some b:=by
 obtain⟨cd,hc,_⟩:=PySem.W.any_some T.hd
 unfold PySem.W.exmOne PySem.W.kitCls
 simp only[T.sb,hc,T.ty]
 simpa using h
theorem kit_own (T:XcD K D) (self:PySem.W.subIn K (.ref C) (.ref C)=some true) (h:PySem.W.subIn K (.ref C) (.ref D)=some b):PySem.W.kitOne K (.ref C) (.ref D)=some b:=by
 unfold PySem.W.kitOne
 by_cases e:C=D
 ·subst e
  rw[self] at h;cases h
  simp
 ·rw[if_neg (by simp[e])]
  obtain⟨cd,hc,_⟩:=PySem.W.any_some T.hd
  unfold PySem.W.kitCls
  simp only[hc,T.ty]
  simpa using h
theorem kit_blt {T:String} (m:PySem.W.kitMeta T=true) (h:PySem.W.subIn K (.ref C) (.type T)=some b):PySem.W.kitOne K (.ref C) (.type T)=some b:=by
 unfold PySem.W.kitOne
 rw[if_neg (by simp)]
 unfold PySem.W.kitCls
 simp only[m,if_true]
 exact h
end
section
variable {G:GC} {P:Addr→Prop} {c:Str} {cs:List Str} {C:Addr}
theorem ym_nil:∀c ∈ ([] :List Str),∀C,G.mg c=some (.ref C)→P C:=fun _ h=>nomatch h
theorem ym_cons (m:G.mg c=some (.ref C)) (p:P C) (r:∀c ∈ cs,∀C,G.mg c=some (.ref C)→P C):∀c' ∈ c::cs,∀C,G.mg c'=some (.ref C)→P C:=fun c' h C' m'=>by
 rcases List.mem_cons.mp h with rfl|h
 ·rw[m] at m';cases m';exact p
 ·exact r c' h C' m'
end
theorem init_ok {P:Program} {w:World} {K:PySem.W.Frag} {mg:Str→Option Value} {base:Heap} {x qual f:Str} {params:Arguments} {body:List Stmt} {scope:Scope} {dvs:List V} {kws:List (Str × V)} {fI C:Addr} {fd:FuncData} {N ps:List Str}
 (F:FunD K x qual params body scope dvs kws fI fd) (Sc:FnScope N ps scope) (hp:ps.length=2)
 (run:∀(cdv:Value) (A:Around) (outer:List Env) (s:Shared) (H:Hp) (E:XK),PSs (cxOf (L2.CX P w) P w K mg base N qual scope fI cdv A outer s H E) body (tSto K C f (tVar 0) (tVar 1))):FnG P w K mg base 1 fI fd ps (spI C f):=
 FnG.of_def F Sc (fun vs H Q E h=>by obtain⟨a,y,rfl,_⟩:=h;exact hp.symm) fun cdv A outer s H vs Q E _ h=>⟨_,run cdv A outer s H E,by
  obtain⟨a,y,rfl,h1,h2⟩:=h
  exact⟨y,rfl, .ref a,rfl,a,rfl,h1,h2⟩⟩
end L3
namespace L3
open PySem PySem.Spec PyProof.Rows L2
open PySem.W (SortsAt AllAlike Sortable dataKind dataKind_inv EachIs alike keyToks dataLt)
def apart (d d':PyData):Prop:=∃a b r r',d= .tuple (.str a::r)∧d'= .tuple (.str b::r')∧a≠b
end L3
namespace L3
open PySem
theorem nrfl {α :Sort u} {a b: α} (h:a=b):a=b:=h
inductive R.sat {α :Type} :R α →(α →Store→Prop)→Prop where
 |mk {a: α} {S:Store} {Q: α →Store→Prop} (h:Q a S):R.sat (.ok a S) Q
section
variable {α β :Type} {S:Store} {env:EnvD} {d:D}
@[simp] theorem sat_ok {a: α} {Q: α →Store→Prop} :(R.ok a S).sat Q=Q a S:=propext ⟨fun h=>by cases h;assumption, .mk⟩
@[simp] theorem sat_bad {Q: α →Store→Prop} :(R.bad:R α).sat Q=False:=propext ⟨fun h=>(by cases h),False.elim⟩
@[simp] theorem sat_exc {e:Ex} {Q: α →Store→Prop} :(R.exc e S:R α).sat Q=False:=propext ⟨fun h=>(by cases h),False.elim⟩
theorem sat_bind {r:R α} {f: α →Store→R β} {Q: β →Store→Prop} :(r.bind f).sat Q=r.sat fun a S=>(f a S).sat Q:=by cases r<;>simp[R.bind]
theorem sat_mono {r:R α} {Q Q': α →Store→Prop} (h:r.sat Q) (m:∀a S,Q a S→Q' a S):r.sat Q':=by cases h with|mk h=>exact .mk (m _ _ h)
theorem sat_ex {r:R α} {Q: α →Store→Prop} :r.sat Q↔∃a S,r= .ok a S∧Q a S:=
 ⟨fun h=>by cases h with|mk h=>exact⟨_,_,rfl,h⟩,fun⟨_,_,e,h⟩=>by rw[e];exact .mk h⟩
theorem sat_if_bad {c:Prop} [Decidable c] {a:R α} {Q: α →Store→Prop} :(if c then a else .bad).sat Q=(c∧a.sat Q):=by by_cases h:c<;>simp[h]
def blD (x:D) (S:Store):R Bool:=match x with
 | .bl k=> .ok k S
 | _=> .bad
@[simp] theorem blD_bl {k:Bool} :blD (.bl k) S= .ok k S:=nrfl rfl
theorem of_sat {r:R α} {x: α} (h:r.sat fun d S'=>d=x∧S'=S):r= .ok x S:=by
 obtain⟨a,S',e,rfl,rfl⟩:=sat_ex.mp h
 exact e
variable {Q:D→Store→Prop} {QB:Bool→Store→Prop} {QL:List D→Store→Prop}
@[simp] theorem sat_eVar {i:Nat} :(eVar i env S).sat Q=match env[i]? with
   |some (some d)=>Q d S
   | _=>False:=by unfold eVar;cases env[i]? with
  |none=>simp
  |some o=>cases o<;>simp
@[simp] theorem sat_eK:(eK d env S).sat Q=Q d S:=sat_ok
@[simp] theorem sat_e1 {f:L3.F1} {a:ED} :(e1 f a env S).sat Q=(a env S).sat fun x S1=>(f x S1).sat Q:=sat_bind
@[simp] theorem sat_e2 {f:L3.F2} {a b:ED} :(e2 f a b env S).sat Q=(a env S).sat fun x S1=>(b env S1).sat fun y S2=>(f x y S2).sat Q:=by unfold e2;rw[sat_bind];simp only[sat_bind]
@[simp] theorem sat_aNil:(aNil env S).sat QL=QL [] S:=sat_ok
@[simp] theorem sat_aCons {a:ED} {r:AD} :(aCons a r env S).sat QL=(a env S).sat fun x S1=>(r env S1).sat fun xs S2=>QL (x::xs) S2:=by unfold aCons;rw[sat_bind];simp only[sat_bind,sat_ok]
@[simp] theorem sat_eN {f:FN} {a:AD} :(eN f a env S).sat Q=(a env S).sat fun xs S1=>(f xs S1).sat Q:=sat_bind
@[simp] theorem sat_eIf {c:TD} {a b:ED} :(eIf c a b env S).sat Q=(c env S).sat fun k S1=>if k=true then(a env S1).sat Q else(b env S1).sat Q:=by
  unfold eIf;rw[sat_bind];congr;funext k S1;cases k<;>simp
@[simp] theorem sat_tOfE {a:ED} :(tOfE a env S).sat QB=(a env S).sat fun x S1=>(blD x S1).sat QB:=by
  unfold tOfE;rw[sat_bind];congr
@[simp] theorem sat_tTruth {a:ED} :(tTruth a env S).sat QB=(a env S).sat fun x S1=>(truthD x S1).sat QB:=sat_bind
@[simp] theorem truthD_bl {k:Bool} :truthD (.bl k) S= .ok k S:=nrfl rfl
@[simp] theorem truthD_non:truthD .non S= .ok false S:=nrfl rfl
@[simp] theorem truthD_int {i:Int} :truthD (.int i) S= .ok (i != 0) S:=nrfl rfl
@[simp] theorem truthD_tup {l:List D} :truthD (.tup l) S= .ok (!l.isEmpty) S:=nrfl rfl
@[simp] theorem truthD_lst {l:List D} :truthD (.lst l) S= .ok (!l.isEmpty) S:=nrfl rfl
@[simp] theorem sat_tNot {a:TD} :(tNot a env S).sat QB=(a env S).sat fun k S1=>QB (!k) S1:=by unfold tNot;rw[sat_bind];simp only[sat_ok]
@[simp] theorem sat_tAnd {a b:TD} :(tAnd a b env S).sat QB=(a env S).sat fun k S1=>if k=true then(b env S1).sat QB else QB false S1:=by
  unfold tAnd;rw[sat_bind];congr;funext k S1;cases k<;>simp
@[simp] theorem sat_tOr {a b:TD} :(tOr a b env S).sat QB=(a env S).sat fun k S1=>if k=true then QB true S1 else(b env S1).sat QB:=by
  unfold tOr;rw[sat_bind];congr;funext k S1;cases k<;>simp
@[simp] theorem sat_eNot {a:ED} :(eNot a env S).sat Q=(a env S).sat fun x S1=>(blD x S1).sat fun k S2=>Q (.bl (!k)) S2:=by
  unfold eNot;rw[sat_bind,sat_tOfE];simp only[sat_ok]
@[simp] theorem sat_eAnd {a b:ED} :(eAnd a b env S).sat Q=(a env S).sat fun x S1=>(blD x S1).sat fun k S2=>if k=true then(b env S2).sat Q else Q (.bl false) S2:=by
  unfold eAnd;rw[sat_bind,sat_tOfE];congr;funext x S1;congr;funext k S2;cases k<;>simp
@[simp] theorem sat_eOr {a b:ED} :(eOr a b env S).sat Q=(a env S).sat fun x S1=>(blD x S1).sat fun k S2=>if k=true then Q (.bl true) S2 else(b env S2).sat Q:=by
  unfold eOr;rw[sat_bind,sat_tOfE];congr;funext x S1;congr;funext k S2;cases k<;>simp
@[simp] theorem sat_eChain {f g:L3.F2} {a b c:ED} :(eChain f g a b c env S).sat Q=(a env S).sat fun x S1=>(b env S1).sat fun y S2=>(f x y S2).sat fun r S3=>(blD r S3).sat fun k S4=>if k=true then(c env S4).sat fun z S5=>(g y z S5).sat Q else Q (.bl false) S4:=by
  unfold eChain;rw[sat_bind];simp only[sat_bind];congr;funext x S1;congr;funext y S2;congr;funext r S3
  cases r with
  |bl k=>cases k<;>simp[sat_bind]
  | _=>simp[blD]
@[simp] theorem sat_eBM {T:String} {f:D→FN} {o:ED} {a:AD} :(eBM T f o a env S).sat Q=(o env S).sat fun x S1=>(mtD x S1=some T∧(a env S1).sat fun xs S2=>(f x xs S2).sat Q):=by
  unfold eBM;rw[sat_bind];congr;funext x S1;rw[sat_if_bad,sat_bind]
@[simp] theorem sat_eKw {f:List D→FN} {a b:AD} :(eKw f a b env S).sat Q=(a env S).sat fun xs S1=>(b env S1).sat fun zs S2=>(f xs zs S2).sat Q:=by unfold eKw;rw[sat_bind];simp only[sat_bind]
@[simp] theorem sat_eFnL {i:Nat} {x:Str} {F:FN} {a:AD} :(eFnL i x F a env S).sat Q=match env[i]? with
   |some (some (.glb y))=>y=x∧(a env S).sat fun xs S1=>(F xs S1).sat Q
   | _=>False:=by
  unfold eFnL
  cases env[i]? with
  |none=>simp
  |some o=>
   cases o with
   |none=>simp
   |some d=>
    cases d with
    |glb y=>simp only [];rw[sat_if_bad,sat_bind]
    | _=>simp
@[simp] theorem callK_eq {F:FN} {dds xs:List D} :callK F dds xs S=F (xs++dds) S:=nrfl rfl
@[simp] theorem sat_iSeq {a:ED} :(iSeq a env S).sat QL=(a env S).sat fun x S1=>(itemsD x S1).sat QL:=sat_bind
@[simp] theorem sat_iArgs {f:List D→Store→R (List D)} {a:AD} :(iArgs f a env S).sat QL=(a env S).sat fun xs S1=>(f xs S1).sat QL:=sat_bind
@[simp] theorem itemsD_lst {l:List D} :itemsD (.lst l) S= .ok l S:=nrfl rfl
@[simp] theorem itemsD_tup {l:List D} :itemsD (.tup l) S= .ok l S:=nrfl rfl
@[simp] theorem sat_range1 {j:Int} :(range1 [.int j] S).sat QL=(okRng j=true∧QL (rangeD 0 j) S):=by unfold range1;simp only [];rw[sat_if_bad,sat_ok]
@[simp] theorem sat_range2 {i j:Int} :(range2 [.int i, .int j] S).sat QL=((okRng i&&okRng j)=true∧QL (rangeD i j) S):=by unfold range2;simp only [];rw[sat_if_bad,sat_ok]
@[simp] theorem sat_mkTup {xs:List D} :(mkTup xs S).sat Q=(xs.length≤sizeLine∧Q (.tup xs) S):=by unfold mkTup;rw[sat_if_bad,sat_ok]
@[simp] theorem sat_mkLst {xs:List D} :(mkLst xs S).sat Q=(xs.length≤sizeLine∧Q (.lst xs) S):=by unfold mkLst;rw[sat_if_bad,sat_ok]
@[simp] theorem sat_mkObj {xs:List D} :(mkObj xs S).sat Q=(xs.length≤sizeLine∧Q (.obj S.length) (S++ [.lst xs])):=by unfold mkObj;rw[sat_if_bad,sat_ok]
def lcSat (g:GD) (tt:TD) (te:ED) (env:EnvD):List D→Store→(List D→Store→Prop)→Prop
 | [],S,Q=>Q [] S
 |x::xs,S,Q=>match g x env S with
  | .nx env1 S1=>(tt env1 S1).sat fun k S2=>if k=true then(te env1 S2).sat fun y S3=>lcSat g tt te env xs S3 fun ys S4=>Q (y::ys) S4 else lcSat g tt te env xs S2 Q
  | _=>False
theorem sat_nox {r:R α} {Q: α →Store→Prop} :r.nox.sat Q=r.sat Q:=by cases r<;>simp[R.nox]
theorem sat_lcL {g:GD} {tt:TD} {te:ED} {env:EnvD} :∀ {xs:List D} {S:Store} {Q:List D→Store→Prop},(lcL g tt te env xs S).sat Q=lcSat g tt te env xs S Q
 | [],_,_=>sat_ok
 |x::xs,S,Q=>by
  unfold lcL lcSat
  cases g x env S with
  |nx env1 S1=>
   simp only
   rw[sat_bind,sat_nox]
   congr;funext k S2
   cases k with
   |true=>simp only[if_true];rw[sat_bind,sat_nox];congr;funext y S3;rw[sat_bind,sat_lcL];simp only[sat_ok]
   |false=>simp only[Bool.false_eq_true,if_false];exact sat_lcL
  | _=>simp
theorem sat_eLc {mi:ID} {vs:List Nat} {g:GD} {tt:TD} {te:ED} :(eLc mi vs g tt te env S).sat Q=(mi env S).sat fun xs S1=>(xs.length≤sizeLine∧lcSat g tt te (wipeD env vs) xs S1 fun ys S2=>Q (.lst ys) S2):=by
 unfold eLc;rw[sat_bind];congr;funext xs S1;rw[sat_if_bad,sat_bind,sat_lcL];simp only[sat_ok]
end
inductive SR.sat:SR→(EnvD→Store→Prop)→(D→Store→Prop)→(EnvD→Store→Prop)→(EnvD→Store→Prop)→Prop where
 |nx {e S} {N:EnvD→Store→Prop} {T:D→Store→Prop} {B C:EnvD→Store→Prop} (h:N e S):SR.sat (.nx e S) N T B C
 |ret {d S} {N:EnvD→Store→Prop} {T:D→Store→Prop} {B C:EnvD→Store→Prop} (h:T d S):SR.sat (.ret d S) N T B C
 |brk {e S} {N:EnvD→Store→Prop} {T:D→Store→Prop} {B C:EnvD→Store→Prop} (h:B e S):SR.sat (.brk e S) N T B C
 |ct {e S} {N:EnvD→Store→Prop} {T:D→Store→Prop} {B C:EnvD→Store→Prop} (h:C e S):SR.sat (.ct e S) N T B C
section
variable {S:Store} {env:EnvD} {d:D} {N B C:EnvD→Store→Prop} {T:D→Store→Prop} {Q:D→Store→Prop}
@[simp] theorem ssat_nx:(SR.nx env S).sat N T B C=N env S:=propext ⟨fun h=>by cases h;assumption, .nx⟩
@[simp] theorem ssat_ret:(SR.ret d S).sat N T B C=T d S:=propext ⟨fun h=>by cases h;assumption, .ret⟩
@[simp] theorem ssat_brk:(SR.brk env S).sat N T B C=B env S:=propext ⟨fun h=>by cases h;assumption, .brk⟩
@[simp] theorem ssat_ct:(SR.ct env S).sat N T B C=C env S:=propext ⟨fun h=>by cases h;assumption, .ct⟩
@[simp] theorem ssat_bad:SR.bad.sat N T B C=False:=propext ⟨fun h=>(by cases h),False.elim⟩
@[simp] theorem ssat_exc {e:Ex} :(SR.exc e env S).sat N T B C=False:=propext ⟨fun h=>(by cases h),False.elim⟩
theorem ssat_toS {α :Type} {r:R α} {k: α →Store→SR} :(r.toS env k).sat N T B C=r.sat fun a S=>(k a S).sat N T B C:=by cases r<;>simp[R.toS]
theorem ssat_mono {r:SR} {N' B' C':EnvD→Store→Prop} {T':D→Store→Prop} (h:r.sat N T B C) (hN:∀e S,N e S→N' e S) (hT:∀d S,T d S→T' d S) (hB:∀e S,B e S→B' e S) (hC:∀e S,C e S→C' e S):r.sat N' T' B' C':=by
 cases h with
 |nx h=>exact .nx (hN _ _ h)
 |ret h=>exact .ret (hT _ _ h)
 |brk h=>exact .brk (hB _ _ h)
 |ct h=>exact .ct (hC _ _ h)
@[simp] theorem ssat_skip:(sSkip env S).sat N T B C=N env S:=ssat_nx
@[simp] theorem ssat_seq {a b:SD} :(sSeq a b env S).sat N T B C=(a env S).sat (fun e S=>(b e S).sat N T B C) T B C:=by
  unfold sSeq;cases a env S<;>simp
@[simp] theorem ssat_if {c:TD} {a b:SD} :(sIf c a b env S).sat N T B C=(c env S).sat fun k S1=>if k=true then(a env S1).sat N T B C else(b env S1).sat N T B C:=by
  unfold sIf;rw[ssat_toS];congr;funext k S1;cases k<;>simp
@[simp] theorem ssat_sRet {a:ED} :(sRet a env S).sat N T B C=(a env S).sat T:=by unfold sRet;rw[ssat_toS];simp only[ssat_ret]
@[simp] theorem ssat_sExpr {a:ED} :(sExpr a env S).sat N T B C=(a env S).sat fun _ S1=>N env S1:=by unfold sExpr;rw[ssat_toS];simp only[ssat_nx]
@[simp] theorem ssat_sBrk:(sBrk env S).sat N T B C=B env S:=ssat_brk
@[simp] theorem ssat_sCt:(sCt env S).sat N T B C=C env S:=ssat_ct
@[simp] theorem ssat_asg {a:ED} {g:GD} :(sAsg a g env S).sat N T B C=(a env S).sat fun d S1=>(g d env S1).sat N T B C:=by unfold sAsg;rw[ssat_toS]
@[simp] theorem gName_eq {i:Nat} :gName i d env S= .nx (env.set i (some d)) S:=nrfl rfl
@[simp] theorem gTup_wtp {is:List Nat} {l:List Int} :gTup is (.wtp l) env S=gNames is (l.map D.int) env S:=nrfl rfl
@[simp] theorem gTup_tup {is:List Nat} {l:List D} :gTup is (.tup l) env S=gNames is l env S:=nrfl rfl
@[simp] theorem gNames_nil:gNames [] [] env S= .nx env S:=nrfl rfl
@[simp] theorem gNames_cons {i:Nat} {is:List Nat} {ds:List D} :gNames (i::is) (d::ds) env S=gNames is ds (env.set i (some d)) S:=nrfl rfl
@[simp] theorem ssat_par {is:List Nat} {a:AD} :(sPar is a env S).sat N T B C=(a env S).sat fun xs S1=>(gNames is xs env S1).sat N T B C:=by unfold sPar;rw[ssat_toS]
theorem ssat_for {mi:ID} {g:GD} {body:SD} :(sFor mi g body env S).sat N T B C=(mi env S).sat fun xs S1=>(forL g body xs env S1).sat N T B C:=by unfold sFor;rw[ssat_toS]
@[simp] theorem forL_nil {g:GD} {body:SD} :(forL g body [] env S).sat N T B C=N env S:=ssat_nx
theorem forL_cons {g:GD} {body:SD} {x:D} {xs:List D} :(forL g body (x::xs) env S).sat N T B C=(g x env S).sat (fun e S=>(body e S).sat (fun e S=>(forL g body xs e S).sat N T B C) T N (fun e S=>(forL g body xs e S).sat N T B C)) (fun _ _=>False) (fun _ _=>False) fun _ _=>False:=by
 show SR.sat (match g x env S with
  | .nx env1 S1=>match body env1 S1 with
    | .nx env2 S2=>forL g body xs env2 S2
    | .ct env2 S2=>forL g body xs env2 S2
    | .brk env2 S2=> .nx env2 S2
    | .ret d S2=> .ret d S2
    | .exc e env2 S2=> .exc e env2 S2
    | .bad=> .bad
  | _=> .bad) N T B C=_
 cases g x env S with
 |nx env1 S1=>simp only[ssat_nx];cases body env1 S1<;>simp
 | _=>simp
theorem for_rule {g:GD} {body:SD} (I:Nat→EnvD→Store→Prop) {xs:List D} (h0:I 0 env S)
 (hs:∀j (hj:j<xs.length) e S,I j e S→(g xs[j] e S).sat (fun e S=>(body e S).sat (I (j+1)) T N (I (j+1))) (fun _ _=>False) (fun _ _=>False) fun _ _=>False)
 (hN:∀e S,I xs.length e S→N e S):(forL g body xs env S).sat N T B C:=by
 induction xs generalizing I env S with
 |nil=>exact .nx (hN _ _ h0)
 |cons x xs ih=>
  rw[forL_cons]
  refine ssat_mono (hs 0 (by simp) env S h0) (fun e1 S1 h=> ?_) (fun _ _ h=>h) (fun _ _ h=>h) (fun _ _ h=>h)
  have go:∀e S,I 1 e S→(forL g body xs e S).sat N T B C:=fun e S h=>
   ih (fun j=>I (j+1)) h (fun j hj e S h=>by
    have:=hs (j+1) (by simp;omega) e S h
    simpa using this) (fun e S h=>hN e S (by simpa using h))
  exact ssat_mono h go (fun _ _ h=>h) (fun _ _ h=>h) go
theorem sat_run {np n:Nat} {body:SD} {xs:List D} :(run np n body xs S).sat Q=(xs.length=np∧(body (xs.map some++List.replicate (n-xs.length) none) S).sat (fun _ S=>Q .non S) Q (fun _ _=>False) fun _ _=>False):=by
 unfold run;rw[sat_if_bad];congr
 cases body (xs.map some++List.replicate (n-xs.length) none) S<;>simp[SR.fin]
end
section
variable {S:Store} {Q:D→Store→Prop}
@[simp] theorem add_int {i j:Int} :addD (.int i) (.int j) S= .ok (.int (i+j)) S:=nrfl rfl
@[simp] theorem sub_int {i j:Int} :subD (.int i) (.int j) S= .ok (.int (i-j)) S:=nrfl rfl
@[simp] theorem neg_int {i:Int} :negD (.int i) S= .ok (.int (-i)) S:=nrfl rfl
@[simp] theorem lt_int {i j:Int} :ltD (.int i) (.int j) S= .ok (.bl (decide (i<j))) S:=nrfl rfl
@[simp] theorem le_int {i j:Int} :leD (.int i) (.int j) S= .ok (.bl (decide (i≤j))) S:=nrfl rfl
@[simp] theorem gt_int {i j:Int} :gtD (.int i) (.int j) S= .ok (.bl (decide (j<i))) S:=nrfl rfl
@[simp] theorem ge_int {i j:Int} :geD (.int i) (.int j) S= .ok (.bl (decide (j≤i))) S:=nrfl rfl
theorem mul_int {i j:Int} :(mulD (.int i) (.int j) S).sat Q=(mulOk i j=true∧Q (.int (i*j)) S):=by unfold mulD;simp only [];rw[sat_if_bad,sat_ok]
theorem fdiv_int {i j:Int} :(fdivD (.int i) (.int j) S).sat Q=((0<j∧j.natAbs.log2<9000)∧Q (.int (i / j)) S):=by unfold fdivD;simp only [];rw[sat_if_bad,sat_ok]
theorem mod_int {i j:Int} :(modD (.int i) (.int j) S).sat Q=(0<j∧Q (.int (i % j)) S):=by unfold modD;simp only [];rw[sat_if_bad,sat_ok]
@[simp] theorem len_tup {l:List D} :lenD [.tup l] S= .ok (.int l.length) S:=nrfl rfl
@[simp] theorem len_lst {l:List D} :lenD [.lst l] S= .ok (.int l.length) S:=nrfl rfl
@[simp] theorem len_scr {l:List Int} :lenD [.scr l] S= .ok (.int l.length) S:=nrfl rfl
theorem len_obj {n:Nat} {l:List D} (h:S[n]? =some (.lst l)):lenD [.obj n] S= .ok (.int l.length) S:=by simp[lenD,asL,h]
@[simp] theorem tuple_lst {l:List D} :tupleD [.lst l] S= .ok (.tup l) S:=nrfl rfl
@[simp] theorem tuple_tup {l:List D} :tupleD [.tup l] S= .ok (.tup l) S:=nrfl rfl
theorem mtD_obj {n:Nat} {l:List D} (h:S[n]? =some (.lst l)):mtD (.obj n) S=some "list" :=by simp[mtD,h]
@[simp] theorem rangeD_len {lo hi:Int} :(rangeD lo hi).length=(hi-lo).toNat:=by simp[rangeD]
@[simp] theorem rangeD_get {lo hi:Int} {j:Nat} (h:j<(rangeD lo hi).length):(rangeD lo hi)[j] = .int (lo+j):=by simp[rangeD]
theorem append_obj {n:Nat} {l:List D} {y:D} (h:S[n]? =some (.lst l)):(appendD (.obj n) [y] S).sat Q=(l.length<sizeLine∧Q .non (S.set n (.lst (l++ [y])))):=by
 unfold appendD;simp only[lstAt,h];rw[sat_if_bad,sat_ok]
end
end L3
namespace L3
open PySem PySem.Spec PyProof.Rows L2
section
variable {G:GC} {X:Cx} {Wx:WX} {w:Wd}
def eBackL (a:ED):ED:=fun env S=>(a env S).bind fun x S1=>match asL x S1 with
 |some l=> .ok (.lst l.reverse) S1
 |none=> .bad
end
@[simp] theorem sat_eBackL {a:ED} {env:EnvD} {S:Store} {Q:D→Store→Prop} :(eBackL a env S).sat Q=(a env S).sat fun x S1=>∃l,asL x S1=some l∧Q (.lst l.reverse) S1:=by
  unfold eBackL;rw[sat_bind];congr;funext x S1
  cases asL x S1<;>simp
end L3
namespace L3
open PySem L2
def slO (x:D) (lo hi:Option Int) (S:Store):R D:=match asL x S with
 |some l=> .ok (.obj S.length) (S++ [.lst (cutL l lo hi)])
 |none=> .bad
def eSlO (a:ED) (l h:PD):ED:=fun env S=>(a env S).bind fun x S1=>(l env S1).bind fun lo S2=>(h env S2).bind fun hi S3=>slO x lo hi S3
section
variable {env:EnvD} {S:Store} {Q:D→Store→Prop}
@[simp] theorem sat_eSlO {a:ED} {l h:PD} :(eSlO a l h env S).sat Q=(a env S).sat fun x S1=>(l env S1).sat fun lo S2=>(h env S2).sat fun hi S3=>(slO x lo hi S3).sat Q:=by
  unfold eSlO;rw[sat_bind];congr;funext x S1;rw[sat_bind];congr;funext lo S2;rw[sat_bind]
end
end L3
namespace L3
open PySem PySem.Spec PyProof.Rows L2
theorem pe_of_pmk {X:Cx} {e:Expr} {t:L2.St→Hp→XK→Prop} (hex:X.ex= []) (h:PMk X e t):PE X e (fun σ H Q=>t σ H fun cls d H'=>∀a,H' a=none→Q (.ref a) (upd H' a (xoH a cls d))):=by
 refine⟨fun pins s σ H Q I q=> ?_⟩
 refine wpAny_mono (h pins s σ H _ I q) (fun u s1 m=> ?_) fun _ _ z=>z
 obtain⟨a,oe,vs,sI,H',cls,d,rfl,J,k,hne,ha,hz,hd,h1,na,os,ag,r,q⟩:=m
 have gone:∀b,(∃ o,sI.heap.get? b=some o)→b≠a:=fun b ⟨o,e⟩ z=>by rw[z,hne] at e;cases e
 have J':=J.kept (t':=s1.toks) k
 have J1:Inv X pins σ H' s1:=⟨J'.ok,os.trans J.os,ag,J'.base,J'.loc,J'.cell,J'.free,J'.freeC,J'.pin,J'.hok,J'.len⟩
 refine⟨.ref a,_,track J1 ha hz hd na ?_ fun p hp=> ?_,rfl,q a na⟩
 ·cases e0:X.s_0.heap.get? a with
  |none=>rfl
  |some o=>
   obtain⟨o',e1⟩:=J.base.there a o e0 (by rw[hex];simp)
   rw[hne] at e1;cases e1
 ·exact gone p.1 ⟨_,(J.pin p hp).1⟩
def eXcp1 (c f:Str) (a:ED):ED:=fun env S=>(a env S).bind fun d S1=> .ok (.xcp c [f] [d]) S1
def eXcp0 (c:Str) (a:ED):ED:=fun env S=>(a env S).bind fun _ S1=> .ok (.xcp c [] []) S1
section
variable {G:GC} {X:Cx} {Wx:WX} {pos p:Pos}
theorem q_xcp1 {k:Nat} {c f:Str} {C:Addr} {e:Expr} {me:ED} (T:Xc1 X.prog X.w G X.base k c f C) (hr:RoomG (k+1) X.A) (hK:X.K=G.K) (hmg:X.mg=G.mg) (hex:X.ex= []) (hg:Gl X c) (he:PE X e (tE G me Wx))
 (hdb:(c==("__debug__" :Str))=false:=by decide) (hs:starEach [e] X.env=(false,eval e X.env)::starEach [] X.env:=by rfl):PE X (.Call (.Name c p) [e] [] pos) (tE G (eXcp1 c f me) Wx):=by
 obtain⟨B,n,i,bm,ox⟩:=T.ox
 obtain⟨fI,fd,ps,i1,i2,i3,i4⟩:=T.ini
 rw[← hK] at ox i1 i2 i4
 rw[← hK,←hmg] at i3
 refine peI (pe_of_pmk hex (pmk_one ox i1 i2 i3 hr i4 hg (by rw[hmg];exact T.m) he hdb hs)) fun σ H Q q=> ?_
 obtain⟨w,env,rfl,sr,er,pp⟩:=q
 refine⟨w,env,rfl,sr,er,(Post.bind (Ra:=Rep G) pp).mono (fun y H1 m=> ?_) fun _ _ _ h=>h⟩
 obtain⟨w1,d1,rfl,x1,s1,rp1,p1⟩:=m
 intro d nd a na
 obtain⟨x2,s2,nm⟩:=new_ext (o:=HO.xd [(f,y)]) s1 nd
 have xr:XRep G (w1.put d (.xd [(f,y)])) ⟨c,[(f,d1)]⟩ (.ref C) (some d):=⟨⟨C,T.m,rfl⟩, .inr ⟨d,[(f,y)],rfl,upd_same,nm,⟨y,[],rfl,Rep.mono x2 _ _ rp1,rfl⟩⟩⟩
 obtain⟨x3,s3,r3⟩:=xcp_rep (e:=⟨c,[(f,d1)]⟩) T.m xr s2 na
 exact p1 (.ref a) _ (x2.trans x3) rfl s3 r3
theorem q_xcp0 {c m:Str} {C:Addr} {j:Nat} {p2:Pos} (T:Xc0 G c C) (hK:X.K=G.K) (hmg:X.mg=G.mg) (hex:X.ex= []) (hg:Gl X c)
 (hdb:(c==("__debug__" :Str))=false:=by decide):PE X (.Call (.Name c p) [.Constant (.str m) j p2] [] pos) (tE G (eXcp0 c (eK (.str m))) Wx):=by
 obtain⟨B,n,i,bm,F,ex⟩:=T.ex
 refine peI (pe_of_pmk hex (pmk_own F (by rw[hK];exact ex) (by rw[hmg];exact T.m) (by rw[hK];exact T.kp) (raises_own (by rw[hK];exact T.sb) (by rw[hK];exact T.ty)) hg hdb)) fun σ H Q q=> ?_
 obtain⟨w,env,rfl,sr,er,pp⟩:=q
 intro a na
 obtain⟨x3,s3,r3⟩:=xcp_rep (e:=⟨c,[]⟩) T.m ⟨⟨C,T.m,rfl⟩, .inl ⟨rfl,rfl⟩⟩ sr na
 exact pp (.ref a) _ x3 rfl s3 r3
end
end L3
namespace PySem.HandSPX
open PySem PySem.Spec PySem.Calls PyProof.Rows
section
variable {M:Model} {A:Around} {E:Value→Shared→Prop} {h:Heap} {g:Array GenState} {d:Drawn} {t:Nat} {os:OsState}
variable {nm q:Str} {C N:Addr} {bs bm bmB:List Value} {hdct:Bool} {sn:List Str} {sub:List Value} {ab:Bool} {col:Option Bool} {dd:Option Addr} {k0 k1 k2 k3 k5:Option Value} {B newId initId:String} {z:Str} {u:Value}
theorem check_new_kw (F:ExcBaseFacts B newId initId bmB) (hT:∀X:String,bm.contains (.type X)=bmB.contains (.type X)) {Q:Unit→Shared→Prop}
 (hC:h.get? C=some (excClassObj nm q C N bs bm hdct sn sub ab col dd k0 k1 k2 k3 k5 newId)) (hq:Q () ⟨h,g,d,t,os⟩):wpAny M A (checkBuiltinCall newId ⟨[.ref C],[(z,u)]⟩) Q E ⟨h,g,d,t,os⟩:=by
 have hcont:(Value.ref C::bm).contains (.type B)=true:=by rw[List.contains_cons,hT,F.hasB,Bool.or_true]
 have hstar:=F.noStar
 simp only[checkBuiltinCall,F.newKind,F.newSplit,F.newRow]
 repeat (first|refine wpAny_loadPart_at hC ?_|(refine wpAny_isSubtype_exc hC ?_;rw[hcont])|refine wpAny_staticBase_exc hC ?_|refine wpAny_madeBy_exc hC ?_|simp only[bne_self_eq_false,Bool.false_eq_true,if_false] |wp_step)
 exact hq
end
section
variable {prog:Program} {w:World} {A:Around} {E:Value→Shared→Prop} {R:Result→Shared→Prop} {h:Heap} {g:Array GenState} {d:Drawn} {t:Nat} {os:OsState}
variable {nm q:Str} {C N:Addr} {bs bm bmB:List Value} {hdct:Bool} {sn:List Str} {sub:List Value} {ab:Bool} {col:Option Bool} {dd:Option Addr} {k0 k1 k2 k3 k5:Option Value} {B newId initId:String} {z:Str} {u:Value}
open Builtin Builtin.ObjectAttr
theorem new_kw (F:ExcBaseFacts B newId initId bmB) (hT:∀X:String,bm.contains (.type X)=bmB.contains (.type X))
 (hC:h.get? C=some (excClassObj nm q C N bs bm hdct sn sub ab col dd k0 k1 k2 k3 k5 newId))
 (hq:R (.ok (.ret (.ref (h.objs.size+1)))) ⟨(h.push { cls:= .type "tuple",data:= .seq ([] :List Value).toArray }).push
   { cls:= .ref C,data:= .fields #[.ref h.objs.size, .none, .none, .none, .bool false, .none] },g,d,t,os⟩):
 codeAny (model prog w) A (.builtin newId ⟨[.ref C],[(z,u)]⟩) R ⟨h,g,d,t,os⟩:=by
 have hends:=F.ends
 have hcB:(Value.ref C::bm).contains (.type B)=true:=by rw[List.contains_cons,hT,F.hasB,Bool.or_true]
 have hcA:(Value.ref C::bm).contains (.type "AttributeError")=false:=by rw[List.contains_cons,hT,F.noAttr];rfl
 have hcN:(Value.ref C::bm).contains (.type "NameError")=false:=by rw[List.contains_cons,hT,F.noName];rfl
 have hrest:([] :List Value).length≤sizeLine:=by simp
 refine codeAny_builtinAt F.entry ?_
 unfold Builtin.«BaseException.__new__»
 refine wpAt_bind ?_
 show wpAt _ _ _ (stack >>= _) _ _ _
 refine wpAt_bind (wpAt_stack fun p below=>wpAt_of_wpAny ?_)
 wp_walk
 refine wpAt_of_wpAny ?_
 rw[F.owner]
 repeat (first|with_reducible refine wpAny_madeHere_exc F.canon hC ?_|with_reducible refine wpAny_loadPart_at hC ?_|(with_reducible refine wpAny_isSubtype_exc hC ?_;first|rw[hcB] |rw[hcA] |rw[hcN])|wp_step)
 show R _ _
 rw[Heap.size_push]
 exact hq
theorem type_call_kw (F:ExcBaseFacts B newId initId bmB) (hT:∀X:String,bm.contains (.type X)=bmB.contains (.type X)) {fI:Addr} {Q:Fin→Shared→Prop}
 (hC:h.get? C=some (excClassObj nm q C N bs bm hdct sn sub ab col dd k0 k1 k2 k3 k5 newId))
 (hi:W.Looks (model prog w) h (typeLookup (.ref C) "__init__") (some (.ref fI))) (hb:∀self,W.Looks (model prog w) h (bindSpecial (.ref fI) self) (.ref fI,[self]))
 (hq:codeAny (model prog w) A (.call (.ref fI) ⟨[.ref (h.objs.size+1)],[(z,u)]⟩)
   (fun r s'=>match r with| .ok (.ret v)=>v= .none∧Q (.done (.ret (.ref (h.objs.size+1)))) s'| .ok _=>False| .error e=>E e s')
   ⟨(h.push (W.kdv_tup [])).push (excO C h.objs.size),g,d,t,os⟩):
 wpAny (model prog w) A (Builtin.«type.__call__» ⟨[.ref C],[(z,u)]⟩) Q E ⟨h,g,d,t,os⟩:=by
 repeat (first|with_reducible refine wpAny_loadPart_at hC ?_|with_reducible refine wpAny_madeBy_exc hC ?_|wp_step)
 refine codeAny_call_builtin_code (Code.quiet_builtin _ F.quiet) (check_new_kw F hT hC ?_)
 refine new_kw F hT hC ?_
 show wpAny _ _ _ _ _ _
 have k:∀b o,h.get? b=some o→((h.push (W.kdv_tup [])).push (excO C h.objs.size)).get? b=some o:=fun b o e=>Heap.get?_push_of_some _ (Heap.get?_push_of_some _ e)
 have hC₁ :=k _ _ hC
 have hget:((h.push (W.kdv_tup [])).push (excO C h.objs.size)).get? (h.objs.size+1)=some (excO C h.objs.size):=by heap_get
 have hcC:(Value.ref C::bm).contains (.ref C)=true:=by simp
 have i1:=hi.keeps k
 have b1:=(hb (.ref (h.objs.size+1))).keeps k
 unfold isInstance
 repeat (first|with_reducible refine wpAny_loadPart_at hget ?_|(with_reducible refine wpAny_isSubtype_exc hC₁ ?_;rw[hcC])|wp_step)
 show wpAny _ _ (typeLookup (.ref C) _) _ _ _
 refine i1.at ?_
 refine wpAny_holding (wpAny_bind (b1.at ?_))
 refine wpAny_bind (wpAny_call (codeAny_mono hq fun r s' z=> ?_))
 rcases r with e|(v|_|_|_)<;>first|exact z|exact z.elim|skip
 obtain⟨rfl,z⟩:=z
 first
  |exact wpAny_pure (wpAny_pure z)
  |(wp_walk;exact z)
theorem call_kw (F:ExcBaseFacts B newId initId bmB) (hT:∀X:String,bm.contains (.type X)=bmB.contains (.type X)) {fI:Addr}
 (hC:h.get? C=some (excClassObj nm q C N bs bm hdct sn sub ab col dd k0 k1 k2 k3 k5 newId))
 (hi:W.Looks (model prog w) h (typeLookup (.ref C) "__init__") (some (.ref fI))) (hb:∀self,W.Looks (model prog w) h (bindSpecial (.ref fI) self) (.ref fI,[self]))
 (hq:codeAny (model prog w) (A.under (.builtin "type.__call__" ⟨[.ref C],[(z,u)]⟩)) (.call (.ref fI) ⟨[.ref (h.objs.size+1)],[(z,u)]⟩) (W.InitBack (h.objs.size+1) R)
   ⟨(h.push (W.kdv_tup [])).push (excO C h.objs.size),g,d,t,os⟩):
 codeAny (model prog w) A (.call (.ref C) ⟨[],[(z,u)]⟩) R ⟨h,g,d,t,os⟩:=by
 have f1:=tc_lookup
 have f2:=tc_bind (.ref C)
 have hTy:(⟨h,g,d,t,os⟩:Shared).TypeIs (.ref C) "type" :=⟨_,hC,rfl⟩
 refine codeAny_of_tree ?_
 show wpAny _ _ (callAny (.ref C) _) _ _ _
 repeat (any_goals (first|assumption|with_reducible refine wpAny_loadPart_at hC ?_|wp_step))
 refine⟨rfl,?_⟩
 refine codeAny_call_builtin_at (Code.quiet_builtin _ (by decide +kernel)) entry_typeCall (wpAny_check_type_call_sub hC (type_call_kw F hT hC hi hb ?_))
 refine codeAny_mono hq fun r s' zz=> ?_
 rcases r with e|(v|_|_|_)<;>exact zz
end
end PySem.HandSPX
namespace L3
open PySem PySem.Spec PyProof.Rows L2
theorem pmk_onek {X:Cx} {x:Str} {e:Expr} {te:TE} {p pos:Pos} {C fI:Addr} {k:Nat} {fd:FuncData} {ps:List Str} {f kn:Str} {kp:Pos} {B newId initId:String} {bmB:List Value} (T:Oxc X.K C B newId initId bmB) (iC:PySem.W.findIn X.K (.ref C) "__init__" =some (some (.ref fI))) (tI:PySem.W.typeIn X.K (.ref fI)=some (.type "function"))
 (F1:FnG X.prog X.w X.K X.mg X.base k fI fd ps (spI C f)) (hr:RoomG (k+1) X.A) (hb:∀(s:Shared) (v u:Value),BindsTo s fd ⟨[v],[(kn,u)]⟩ (ps.zip [v,u])) (hg:Gl X x) (hm:X.mg x=some (.ref C)) (he:PE X e te)
 (hdb:(x==("__debug__" :Str))=false:=by decide) (hall:(backToKw pos (keywordEach [⟨some kn,e,kp⟩] X.env)).all (·.1.isSome)=true:=by rfl) (hks:(backToKw pos (keywordEach [⟨some kn,e,kp⟩] X.env)).filterMap (·.1)= [kn] :=by rfl)
 (hpl:((backTo pos (starEach [] X.env)).any (·.1) || (backToKw pos (keywordEach [⟨some kn,e,kp⟩] X.env)).any (·.1.isNone))=false:=by rfl):
 PMk X (.Call (.Name x p) [] [⟨some kn,e,kp⟩] pos) (fun σ H Q=>te σ H fun y H1=>∀d,H1 d=none→Q (.ref C) (some d) (upd H1 d (.xd [(f,y)]))):=by
 intro pins s σ H Q I h
 refine wpAny_Call_Name_kw (ld_glob I hg hm ?_ hdb)
 refine PySem.W.callWith_KW0 (h₀ :=X.base) I.ok.mod.kin T.kC hall ?_ hpl
 rw[hks]
 show wpAny _ _ (evalAll ((do let v ←eval e X.env;standAt pos;pure v):: [])) _ _ s
 refine wpAny_evalAll_cons (wpAny_bind (thn (he.run pins s σ H _ I h) fun u s1 ⟨y,H1,I1,ry,q1⟩=>wpAny_bind (wpAny_standAt (wpAny_pure (wpAny_evalAll_nil ?_)))))
 refine⟨I1.kIn,?_⟩
 show wpAny _ _ (call (.ref C) [] [(kn,u)]) _ _ _
 obtain⟨nm,N,qn,bs,bm,hdct,sn,sub,ab,col,dd,k0,k1,k2,k3,k5,hC,hT⟩:=PySem.W.excInit_of I1.kIn T.ini
 obtain⟨hp,g,dr,tk,os⟩:=s1
 have sz:hp.objs.size≤hp.objs.size+1:=Nat.le_succ _
 have n1:H1 (hp.objs.size+1)=none:=I1.hok.fresh sz
 have kk:∀b o,hp.get? b=some o→((hp.push (PySem.W.kdv_tup [])).push (PySem.HandSPX.excO C hp.objs.size)).get? b=some o:=fun b o q=>Heap.get?_push_of_some _ (Heap.get?_push_of_some _ q)
 have gx:((hp.push (PySem.W.kdv_tup [])).push (PySem.HandSPX.excO C hp.objs.size)).get? (hp.objs.size+1)=some (PySem.HandSPX.excO C hp.objs.size):=by heap_get
 have I2:Inv X pins σ (upd H1 (hp.objs.size+1) (exo (hp.objs.size+1) C none)) ⟨(hp.push (PySem.W.kdv_tup [])).push (PySem.HandSPX.excO C hp.objs.size),g,dr,tk,os⟩:=I1.laid (t':=tk) (a:=hp.objs.size+1) (o:=exo (hp.objs.size+1) C none) (h':=(hp.push (PySem.W.kdv_tup [])).push (PySem.HandSPX.excO C hp.objs.size)) kk sz (exo_ok gx)
 have want:spI C f [V.ref (hp.objs.size+1),y] (upd H1 (hp.objs.size+1) (exo (hp.objs.size+1) C none)) (fun v H2=>v= .non∧∃d,H2=upd (upd (upd H1 (hp.objs.size+1) (exo (hp.objs.size+1) C none)) d (exd d [(f,y)])) (hp.objs.size+1) (exo (hp.objs.size+1) C (some d))∧H1 d=none∧d≠hp.objs.size+1) (fun _ _ _=>False):=
  ⟨_,y,rfl,upd_same,fun dx nx ne=>⟨rfl,dx,rfl,by rw[upd_ne ne] at nx;exact nx,ne⟩⟩
 have rel:Vals [V.ref (hp.objs.size+1),y] [Value.ref (hp.objs.size+1),u] := .cons rfl (.cons ry .nil)
 have bd:=hb ⟨(hp.push (PySem.W.kdv_tup [])).push (PySem.HandSPX.excO C hp.objs.size),g,dr,tk,os⟩ (Value.ref (hp.objs.size+1)) u
 have rm:RoomG k (X.A.under (.builtin "type.__call__" ⟨[.ref C],[(kn,u)]⟩)):=⟨hr.rm.make C [] [(kn,u)],hr.gd⟩
 refine wpAny_call (PySem.HandSPX.call_kw T.F hT hC (PySem.W.looks_findIn I1.kIn iC) (fun self=>PySem.W.bind_fn I1.kIn self tI)
  (codeAny_mono (F1.go _ X.stack _ _ ⟨[Value.ref (hp.objs.size+1)],[(kn,u)]⟩ [Value.ref (hp.objs.size+1),u] _ _ (fun _ _ _=>False) rm (I2.env0.make C [] [(kn,u)]) bd rel want) fun r z hz=> ?_))
 match r,z,hz with
 | .error er,z,hz=>
   obtain⟨_,_,_,_,_,_,_,_,_,_,_,_,w⟩:=hz
   exact w.elim
 | .ok (.ret r'),⟨h2,g2,d2,t2,os2⟩,⟨v,H2,eo,bare,un,hok,rv,ev,d,eH,nd,ne⟩=>
   subst ev
   refine⟨rv,?_⟩
   have ed:H2 d=some (exd d [(f,y)]):=by rw[eH,upd_ne ne,upd_same]
   have ea:H2 (hp.objs.size+1)=some (exo (hp.objs.size+1) C (some d)):=by rw[eH,upd_same]
   refine mk_end (Q:=Q) (raises_own T.exC T.tyC) I1 sz kk un hok eo bare ea ed nd ?_
   have el:upd (L2.del H2 (hp.objs.size+1)) d (.xd [(f,y)])=upd H1 d (.xd [(f,y)]):=by
    funext b
    by_cases b1:b=d
    ·subst b1;rw[upd_same,upd_same]
    ·rw[upd_ne b1,upd_ne b1]
     by_cases b2:b=hp.objs.size+1
     ·subst b2;rw[L2.del_same,n1]
     ·rw[L2.del_ne b2,eH,upd_ne b2,upd_ne b1,upd_ne b2]
   rw[el]
   exact q1 d nd
 | .ok .next,_,hz=>exact False.elim hz
 | .ok .brk,_,hz=>exact False.elim hz
 | .ok .cont,_,hz=>exact False.elim hz
end L3
namespace L3
open PySem PySem.Spec PyProof.Rows L2
structure Xck (P:Program) (w:World) (G:GC) (base:Heap) (k:Nat) (c f kn:Str) (C:Addr):Prop where
 m:G.mg c=some (.ref C)
 ox:∃B n i bm,Oxc G.K C B n i bm
 no:PySem.W.findIn G.K (.ref C) f=some none
 ini:∃fI fd ps,PySem.W.findIn G.K (.ref C) "__init__" =some (some (.ref fI))∧PySem.W.typeIn G.K (.ref fI)=some (.type "function")∧FnG P w G.K G.mg base k fI fd ps (spI C f)∧∀(s:Shared) (v u:Value),BindsTo s fd ⟨[v],[(kn,u)]⟩ (ps.zip [v,u])
section
variable {G:GC} {X:Cx} {Wx:WX} {pos p kp:Pos}
theorem q_xcpk {k:Nat} {c f kn:Str} {C:Addr} {e:Expr} {me:ED} (T:Xck X.prog X.w G X.base k c f kn C) (hr:RoomG (k+1) X.A) (hK:X.K=G.K) (hmg:X.mg=G.mg) (hex:X.ex= []) (hg:Gl X c) (he:PE X e (tE G me Wx))
 (hdb:(c==("__debug__" :Str))=false:=by decide) (hall:(backToKw pos (keywordEach [⟨some kn,e,kp⟩] X.env)).all (·.1.isSome)=true:=by rfl) (hks:(backToKw pos (keywordEach [⟨some kn,e,kp⟩] X.env)).filterMap (·.1)= [kn] :=by rfl)
 (hpl:((backTo pos (starEach [] X.env)).any (·.1) || (backToKw pos (keywordEach [⟨some kn,e,kp⟩] X.env)).any (·.1.isNone))=false:=by rfl):PE X (.Call (.Name c p) [] [⟨some kn,e,kp⟩] pos) (tE G (eXcp1 c f me) Wx):=by
 obtain⟨B,n,i,bm,ox⟩:=T.ox
 obtain⟨fI,fd,ps,i1,i2,i3,i4⟩:=T.ini
 rw[← hK] at ox i1 i2
 rw[← hK,←hmg] at i3
 refine peI (pe_of_pmk hex (pmk_onek ox i1 i2 i3 hr i4 hg (by rw[hmg];exact T.m) he hdb hall hks hpl)) fun σ H Q q=> ?_
 obtain⟨w,env,rfl,sr,er,pp⟩:=q
 refine⟨w,env,rfl,sr,er,(Post.bind (Ra:=Rep G) pp).mono (fun y H1 m=> ?_) fun _ _ _ h=>h⟩
 obtain⟨w1,d1,rfl,x1,s1,rp1,p1⟩:=m
 intro d nd a na
 obtain⟨x2,s2,nm⟩:=new_ext (o:=HO.xd [(f,y)]) s1 nd
 have xr:XRep G (w1.put d (.xd [(f,y)])) ⟨c,[(f,d1)]⟩ (.ref C) (some d):=⟨⟨C,T.m,rfl⟩, .inr ⟨d,[(f,y)],rfl,upd_same,nm,⟨y,[],rfl,Rep.mono x2 _ _ rp1,rfl⟩⟩⟩
 obtain⟨x3,s3,r3⟩:=xcp_rep (e:=⟨c,[(f,d1)]⟩) T.m xr s2 na
 exact p1 (.ref a) _ (x2.trans x3) rfl s3 r3
end
end L3
namespace K06
open PySem L2 L3
noncomputable section
def m_law_hand (F:Nat→FN):SD:=
    sSeq (sAsg (e2 addD (e2 mulD (eK (.int 3)) (eVar 1)) (eN lenD (aCons (eVar 0) (aNil)))) (gName 2))
    (sSeq (sIf (tOfE (e2 ltD (eVar 1) (eN lenD (aCons (eVar 0) (aNil))))) (sAsg (e2 ixD (eVar 0) (eVar 1)) (gName 2)) (sSkip))
    (sSeq (sAsg (e2 mulD (e2 modD (eN absD (aCons (eVar 2) (aNil))) (e2 powD (e2 powD (eK (.int 10)) (eK (.int 60))) (eK (.int 5)))) (eN intD (aCons (e2 geD (eN absD (aCons (eVar 2) (aNil))) (e2 powD (eK (.int 10)) (eK (.int 18)))) (aNil)))) (gName 3))
    (sRet (eN mkObj (aCons (eVar 3) (aCons (e2 modD (e2 mulD (e2 addD (e2 addD (e2 modD (eVar 2) (eK (.int 2305843009213693951))) (e2 mulD (e2 mulD (eK (.int 7919)) (eVar 1)) (eVar 1))) (eK (.int 11))) (eK (.int 48271))) (eK (.int 2305843009213693951))) (aNil)))))))
def m_law_take (F:Nat→FN):SD:=
    sSeq (sIf (tOfE (e2 gtD (e2 ixD (eVar 0) (eK (.int 0))) (eK (.int 0)))) (sSeq (sAsg (e2 modD (e2 ixD (eVar 0) (eK (.int 0))) (eVar 1)) (gName 2))
    (sSeq (sAsg (e2 fdivD (e2 ixD (eVar 0) (eK (.int 0))) (eVar 1)) (gSub (eVar 0) (eK (.int 0))))
    (sRet (eVar 2)))) (sSkip))
    (sSeq (sAsg (e2 modD (e2 addD (e2 mulD (e2 ixD (eVar 0) (eK (.int 1))) (eK (.int 1181783497276652981))) (eK (.int 12345678910987))) (eK (.int 2305843009213693951))) (gSub (eVar 0) (eK (.int 1))))
    (sRet (e2 modD (e2 fdivD (e2 modD (e2 mulD (e2 fdivD (e2 ixD (eVar 0) (eK (.int 1))) (eK (.int 65537))) (e2 addD (e2 modD (e2 ixD (eVar 0) (eK (.int 1))) (eK (.int 65537))) (eK (.int 3)))) (eK (.int 2305843009213693921))) (eK (.int 97))) (eVar 1))))
def m_law_pick (F:Nat→FN):SD:=
    sRet (e2 ixD (eVar 1) (eN (callK (F 1) []) (aCons (eVar 0) (aCons (eN lenD (aCons (eVar 1) (aNil))) (aNil)))))
def m_law_made (F:Nat→FN):SD:=
    sSeq (sAsg (eN mkLst (aCons (eXcp1 "NoText" "at" (eVar 0)) (aCons (eXcp1 "NoWay" "why" (eVar 1)) (aCons (eXcp1 "NoLine" "line" (eVar 2)) (aCons (eXcp0 "NoPattern" (eK (.str "no"))) (aCons (eXcp0 "NoBook" (eK (.str "no"))) (aCons (eXcp0 "Nothing" (eK (.str "no"))) (aCons (eXcp0 "NoFit" (eK (.str "no"))) (aNil))))))))) (gName 3))
    (sSeq (sAsg (e2 addD (eVar 3) (eN mkLst (aCons (eXcp1 "NoPlace" "place" (eVar 2)) (aCons (eXcp1 "NoName" "name" (eVar 1)) (aCons (eXcp1 "NoNumber" "number" (eVar 0)) (aCons (eXcp1 "Untold" "name" (eVar 1)) (aNil))))))) (gName 3))
    (sSeq (sAsg (eN mkLst (aCons (eXcp1 "NoText" "at" (eVar 0)) (aCons (eXcp1 "NoWay" "why" (eVar 1)) (aCons (eXcp1 "NoLine" "line" (eVar 2)) (aCons (eXcp0 "NoPattern" (eK (.str "so"))) (aCons (eXcp0 "NoBook" (eK (.str "so"))) (aCons (eXcp0 "Nothing" (eK (.str "so"))) (aNil)))))))) (gName 4))
    (sSeq (sAsg (e2 addD (eVar 4) (eN mkLst (aCons (eXcp0 "NoFit" (eK (.str "so"))) (aCons (eXcp1 "NoPlace" "place" (eVar 2)) (aCons (eXcp1 "NoName" "name" (eVar 1)) (aCons (eXcp1 "NoNumber" "number" (eVar 0)) (aCons (eXcp1 "Untold" "name" (eVar 1)) (aNil)))))))) (gName 4))
    (sRet (eN mkTup (aCons (eVar 3) (aCons (eVar 4) (aNil))))))))
def m_law_values_right (F:Nat→FN):SD:=
    sSeq (sAsg (eN mkLst (aCons (e1 (xfD ["NoText"] "at") (e2 ixD (eVar 0) (eK (.int 0)))) (aCons (e1 (xfD ["NoWay"] "why") (e2 ixD (eVar 0) (eK (.int 1)))) (aCons (e1 (xfD ["NoLine"] "line") (e2 ixD (eVar 0) (eK (.int 2)))) (aCons (e1 (xfD ["NoPlace"] "place") (e2 ixD (eVar 0) (eK (.int 7)))) (aCons (e1 (xfD ["NoName","Untold"] "name") (e2 ixD (eVar 0) (eK (.int 8)))) (aCons (e1 (xfD ["NoNumber"] "number") (e2 ixD (eVar 0) (eK (.int 9)))) (aCons (e1 (xfD ["NoName","Untold"] "name") (e2 ixD (eVar 0) (eK (.int 10)))) (aNil))))))))) (gName 4))
    (sRet (e2 eqD (eN reprD (aCons (eVar 4) (aNil))) (eN reprD (aCons (eN mkLst (aCons (eVar 1) (aCons (eVar 2) (aCons (eVar 3) (aCons (eVar 3) (aCons (eVar 2) (aCons (eVar 1) (aCons (eVar 2) (aNil))))))))) (aNil)))))
def m_law_classes_right (F:Nat→FN):SD:=
    sSeq (sFor (iArgs enumA (aCons (eVar 0) (aNil))) (gTup [1,2]) (sSeq (sAsg (eN mkLst (aCons (e1 (isxD ["NoText"] ["NoPattern","NoBook","Nothing","NoFit","NoWay","NoLine","NoPlace","NoName","NoNumber","Untold"]) (eVar 2)) (aCons (e1 (isxD ["NoWay"] ["NoText","NoPattern","NoBook","Nothing","NoFit","NoLine","NoPlace","NoName","NoNumber","Untold"]) (eVar 2)) (aCons (e1 (isxD ["NoLine"] ["NoText","NoPattern","NoBook","Nothing","NoFit","NoWay","NoPlace","NoName","NoNumber","Untold"]) (eVar 2)) (aNil))))) (gName 3))
    (sSeq (sAsg (e2 addD (eVar 3) (eN mkLst (aCons (e1 (isxD ["NoPattern"] ["NoText","NoBook","Nothing","NoFit","NoWay","NoLine","NoPlace","NoName","NoNumber","Untold"]) (eVar 2)) (aCons (e1 (isxD ["NoBook"] ["NoText","NoPattern","Nothing","NoFit","NoWay","NoLine","NoPlace","NoName","NoNumber","Untold"]) (eVar 2)) (aCons (e1 (isxD ["Nothing"] ["NoText","NoPattern","NoBook","NoFit","NoWay","NoLine","NoPlace","NoName","NoNumber","Untold"]) (eVar 2)) (aNil)))))) (gName 3))
    (sSeq (sAsg (e2 addD (eVar 3) (eN mkLst (aCons (e1 (isxD ["NoFit"] ["NoText","NoPattern","NoBook","Nothing","NoWay","NoLine","NoPlace","NoName","NoNumber","Untold"]) (eVar 2)) (aCons (e1 (isxD ["NoPlace"] ["NoText","NoPattern","NoBook","Nothing","NoFit","NoWay","NoLine","NoName","NoNumber","Untold"]) (eVar 2)) (aCons (e1 (isxD ["NoName"] ["NoText","NoPattern","NoBook","Nothing","NoFit","NoWay","NoLine","NoPlace","NoNumber","Untold"]) (eVar 2)) (aNil)))))) (gName 3))
    (sSeq (sAsg (e2 addD (eVar 3) (eN mkLst (aCons (e1 (isxD ["NoNumber"] ["NoText","NoPattern","NoBook","Nothing","NoFit","NoWay","NoLine","NoPlace","NoName","Untold"]) (eVar 2)) (aCons (e1 (isxD ["Untold"] ["NoText","NoPattern","NoBook","Nothing","NoFit","NoWay","NoLine","NoPlace","NoName","NoNumber"]) (eVar 2)) (aNil))))) (gName 3))
    (sSeq (sIf (tOfE (e2 neD (eVar 3) (eLc (iArgs range1 (aCons (eK (.int 11)) (aNil))) [4] (gName 4) (tYesD) (e2 eqD (eVar 4) (eVar 1))))) (sRet (eK (.bl false))) (sSkip))
    (sSeq (sAsg (eN mkLst (aCons (e1 (isxD ["NoText","NoPattern","NoBook","Nothing","NoFit","NoWay","NoLine"] ["NoPlace","NoName","NoNumber","Untold"]) (eVar 2)) (aCons (e1 (isxD ["NoPlace","NoName","NoNumber"] ["NoText","NoPattern","NoBook","Nothing","NoFit","NoWay","NoLine","Untold"]) (eVar 2)) (aCons (e1 (isxD ["Untold"] ["NoText","NoPattern","NoBook","Nothing","NoFit","NoWay","NoLine","NoPlace","NoName","NoNumber"]) (eVar 2)) (aNil))))) (gName 5))
    (sSeq (sAsg (eN mkLst (aCons (e1 (isxD ["NoText","NoPattern","NoBook","Nothing","NoFit","NoWay","NoLine"] ["NoPlace","NoName","NoNumber","Untold"]) (eVar 2)) (aCons (e1 (isxD ["NoPlace","NoName","NoNumber"] ["NoText","NoPattern","NoBook","Nothing","NoFit","NoWay","NoLine","Untold"]) (eVar 2)) (aCons (e1 (isxD ["Untold"] ["NoText","NoPattern","NoBook","Nothing","NoFit","NoWay","NoLine","NoPlace","NoName","NoNumber"]) (eVar 2)) (aNil))))) (gName 6))
    (sSeq (sAsg (eN mkLst (aCons (e2 ltD (eVar 1) (eK (.int 7))) (aCons (eChain leD ltD (eK (.int 7)) (eVar 1) (eK (.int 10))) (aCons (e2 eqD (eVar 1) (eK (.int 10))) (aNil))))) (gName 7))
    (sIf (tOr (tOfE (e2 neD (eVar 5) (eVar 7))) (tOfE (e2 neD (eVar 6) (eVar 7)))) (sRet (eK (.bl false))) (sSkip)))))))))))
    (sRet (eK (.bl true)))
def m_law_raised (F:Nat→FN):SD:=
    sTry (sSeq (sIf (tOfE (e2 eqD (eVar 0) (eK (.int 0)))) (sRaise1 "NoWay" "why" (eVar 2)) (sSkip))
    (sSeq (sIf (tOfE (e2 eqD (eVar 0) (eK (.int 1)))) (sRaise1 "NoNumber" "number" (eVar 1)) (sSkip))
    (sRaise1 "Untold" "name" (eVar 2)))) [⟨["NoPlace","NoName","NoNumber"],["NoText","NoPattern","NoBook","Nothing","NoFit","NoWay","NoLine","Untold"],(some 3),sRet (eN mkTup (aCons (eK (.str "missing")) (aCons (e1 (xfD ["NoNumber"] "number") (eVar 3)) (aNil))))⟩,⟨["Untold"],["NoText","NoPattern","NoBook","Nothing","NoFit","NoWay","NoLine","NoPlace","NoName","NoNumber"],(some 3),sRet (eN mkTup (aCons (eK (.str "halted")) (aCons (e1 (xfD ["NoName","Untold"] "name") (eVar 3)) (aNil))))⟩,⟨["NoText","NoPattern","NoBook","Nothing","NoFit","NoWay","NoLine"],["NoPlace","NoName","NoNumber","Untold"],(some 3),sRet (eN mkTup (aCons (eK (.str "refused")) (aCons (e1 (xfD ["NoWay"] "why") (eVar 3)) (aNil))))⟩]
def m_law (F:Nat→FN):SD:=
    sSeq (sAsg (eN mkObj (aNil)) (gName 1))
    (sSeq (sFor (iArgs range1 (aCons (eN maxD (aCons (eK (.int 1)) (aCons (eN minD (aCons (eK (.int 4)) (aCons (eN lenD (aCons (eVar 0) (aNil))) (aNil)))) (aNil)))) (aNil))) (gName 2) (sSeq (sAsg (eN (callK (F 0) []) (aCons (eVar 0) (aCons (eVar 2) (aNil)))) (gName 3))
    (sSeq (sAsg (eN mkTup (aCons (eN (callK (F 2) []) (aCons (eVar 3) (aCons (eN mkLst (aCons (eK (.int 0)) (aCons (eK (.int 1)) (aCons (eK (.int 59)) (aCons (e2 powD (eK (.int 10)) (eK (.int 40))) (aCons (e1 negD (eK (.int 1))) (aNil))))))) (aNil)))) (aCons (eN (callK (F 2) []) (aCons (eVar 3) (aCons (eN mkLst (aCons (eK (.str "a")) (aCons (eK (.str "xs")) (aCons (eK (.str "")) (aCons (eK (.str "none")) (aCons (eK (.str "great")) (aNil))))))) (aNil)))) (aNil)))) (gTup [4,5]))
    (sSeq (sAsg (eN (callK (F 2) []) (aCons (eVar 3) (aCons (eN mkLst (aCons (eK .non) (aCons (eK (.bl true)) (aCons (eN mkTup (aCons (eK (.int 0)) (aCons (eK (.int 0)) (aCons (eK (.int 1)) (aNil))))) (aCons (eN mkTup (aNil)) (aCons (eN mkLst (aCons (eK (.int 1)) (aNil))) (aCons (eK (.str "x")) (aNil)))))))) (aNil)))) (gName 6))
    (sSeq (sFor (iSeq (eN (callK (F 3) []) (aCons (eVar 4) (aCons (eVar 5) (aCons (eVar 6) (aNil)))))) (gName 7) (sSeq (sIf (tNot (tTruth (eN (callK (F 5) []) (aCons (eVar 7) (aNil))))) (sRet (eK (.bl false))) (sSkip))
    (sExpr (eBM "list" appendD (eVar 1) (aCons (eN mkTup (aCons (eVar 7) (aCons (eVar 4) (aCons (eVar 5) (aCons (eVar 6) (aNil)))))) (aNil))))))
    (sSeq (sAsg (eLc (iArgs range1 (aCons (eK (.int 3)) (aNil))) [9] (gName 9) (tYesD) (eN (callK (F 6) []) (aCons (eVar 9) (aCons (eVar 4) (aCons (eVar 5) (aNil)))))) (gName 8))
    (sIf (tOfE (e2 neD (eVar 8) (eN mkLst (aCons (eN mkTup (aCons (eK (.str "refused")) (aCons (eVar 5) (aNil)))) (aCons (eN mkTup (aCons (eK (.str "missing")) (aCons (eVar 4) (aNil)))) (aCons (eN mkTup (aCons (eK (.str "halted")) (aCons (eVar 5) (aNil)))) (aNil))))))) (sRet (eK (.bl false))) (sSkip))))))))
    (sRet (eN allD (aCons (eLc (iSeq (e1 frzD (eVar 1))) [7,4,5,6] (gTup [7,4,5,6]) (tYesD) (eN (callK (F 4) []) (aCons (eVar 7) (aCons (eVar 4) (aCons (eVar 5) (aCons (eVar 6) (aNil))))))) (aNil)))))
def tab (F:Nat→FN):List FN:= [run 2 4 (m_law_hand F),
 run 2 3 (m_law_take F),
 run 2 2 (m_law_pick F),
 run 3 5 (m_law_made F),
 run 4 5 (m_law_values_right F),
 run 1 8 (m_law_classes_right F),
 run 3 4 (m_law_raised F),
 run 1 10 (m_law F)]
def Fs:Nat→Nat→FN
 |0,_=>fun _ _=> .bad
 |k+1,i=>(tab (Fs k)).getD i fun _ _=> .bad
theorem Fs_law_hand (k:Nat):Fs (k+1) 0=run 2 4 (m_law_hand (Fs k)):=rfl
theorem Fs_law_take (k:Nat):Fs (k+1) 1=run 2 3 (m_law_take (Fs k)):=rfl
theorem Fs_law_pick (k:Nat):Fs (k+1) 2=run 2 2 (m_law_pick (Fs k)):=rfl
theorem Fs_law_values_right (k:Nat):Fs (k+1) 4=run 4 5 (m_law_values_right (Fs k)):=rfl
theorem Fs_law (k:Nat):Fs (k+1) 7=run 1 10 (m_law (Fs k)):=rfl
end
end K06
namespace K06
open PySem PySem.Spec PyProof.Rows L2 L3
def topS (i:Nat):Stmt:=PySem.Challenge.pw_holepatterns_k06_refusals_made.main.body.getD i (.Pass ⟨0,0,0,0⟩)
abbrev s_law_hand:Stmt:=topS 16
abbrev N_law_hand:List Str:= ["_law_script","_law_k","_law_cell","_law_great"]
theorem sc_law_hand:FnScope N_law_hand ["_law_script","_law_k"] (defScope s_law_hand):=⟨rfl,rfl,rfl,by decide +kernel,rfl,by decide +kernel,by decide +kernel⟩
abbrev s_law_take:Stmt:=topS 17
abbrev N_law_take:List Str:= ["_law_hand_here","_law_many","_law_digit"]
theorem sc_law_take:FnScope N_law_take ["_law_hand_here","_law_many"] (defScope s_law_take):=⟨rfl,rfl,rfl,by decide +kernel,rfl,by decide +kernel,by decide +kernel⟩
abbrev s_law_pick:Stmt:=topS 18
abbrev N_law_pick:List Str:= ["_law_hand_here","_law_some"]
theorem sc_law_pick:FnScope N_law_pick ["_law_hand_here","_law_some"] (defScope s_law_pick):=⟨rfl,rfl,rfl,by decide +kernel,rfl,by decide +kernel,by decide +kernel⟩
abbrev s_law_made:Stmt:=topS 19
abbrev N_law_made:List Str:= ["_law_many","_law_whom","_law_odd","_law_first","_law_other"]
theorem sc_law_made:FnScope N_law_made ["_law_many","_law_whom","_law_odd"] (defScope s_law_made):=⟨rfl,rfl,rfl,by decide +kernel,rfl,by decide +kernel,by decide +kernel⟩
abbrev s_law_values_right:Stmt:=topS 20
abbrev N_law_values_right:List Str:= ["_law_some","_law_many","_law_whom","_law_odd","_law_told"]
theorem sc_law_values_right:FnScope N_law_values_right ["_law_some","_law_many","_law_whom","_law_odd"] (defScope s_law_values_right):=⟨rfl,rfl,rfl,by decide +kernel,rfl,by decide +kernel,by decide +kernel⟩
abbrev s_law_classes_right:Stmt:=topS 21
abbrev N_law_classes_right:List Str:= ["_law_some","_law_spot","_law_error","_law_flags","_law_k","_law_family","_law_python","_law_due"]
theorem sc_law_classes_right:FnScope N_law_classes_right ["_law_some"] (defScope s_law_classes_right):=⟨rfl,rfl,rfl,by decide +kernel,rfl,by decide +kernel,by decide +kernel⟩
abbrev s_law_raised:Stmt:=topS 22
abbrev N_law_raised:List Str:= ["_law_which","_law_many","_law_whom","e"]
theorem sc_law_raised:FnScope N_law_raised ["_law_which","_law_many","_law_whom"] (defScope s_law_raised):=⟨rfl,rfl,rfl,by decide +kernel,rfl,by decide +kernel,by decide +kernel⟩
abbrev s_law:Stmt:=topS 23
abbrev N_law:List Str:= ["_law_script","_law_kept","_law_k","_law_hand_here","_law_many","_law_whom","_law_odd","_law_some","_law_told","_law_which"]
theorem sc_law:FnScope N_law ["_law_script"] (defScope s_law):=⟨rfl,rfl,rfl,by decide +kernel,rfl,by decide +kernel,by decide +kernel⟩
abbrev s_NoLine___init__:Stmt:=inClass (topS 10) 0
abbrev N_NoLine___init__:List Str:= ["self","line"]
theorem sc_NoLine___init__:FnScope N_NoLine___init__ ["self","line"] (defScope s_NoLine___init__):=⟨rfl,rfl,rfl,by decide +kernel,rfl,by decide +kernel,by decide +kernel⟩
abbrev s_NoName___init__:Stmt:=inClass (topS 12) 0
abbrev N_NoName___init__:List Str:= ["self","name"]
theorem sc_NoName___init__:FnScope N_NoName___init__ ["self","name"] (defScope s_NoName___init__):=⟨rfl,rfl,rfl,by decide +kernel,rfl,by decide +kernel,by decide +kernel⟩
abbrev s_NoNumber___init__:Stmt:=inClass (topS 13) 0
abbrev N_NoNumber___init__:List Str:= ["self","number"]
theorem sc_NoNumber___init__:FnScope N_NoNumber___init__ ["self","number"] (defScope s_NoNumber___init__):=⟨rfl,rfl,rfl,by decide +kernel,rfl,by decide +kernel,by decide +kernel⟩
abbrev s_NoPlace___init__:Stmt:=inClass (topS 11) 0
abbrev N_NoPlace___init__:List Str:= ["self","place"]
theorem sc_NoPlace___init__:FnScope N_NoPlace___init__ ["self","place"] (defScope s_NoPlace___init__):=⟨rfl,rfl,rfl,by decide +kernel,rfl,by decide +kernel,by decide +kernel⟩
abbrev s_NoText___init__:Stmt:=inClass (topS 4) 0
abbrev N_NoText___init__:List Str:= ["self","at"]
theorem sc_NoText___init__:FnScope N_NoText___init__ ["self","at"] (defScope s_NoText___init__):=⟨rfl,rfl,rfl,by decide +kernel,rfl,by decide +kernel,by decide +kernel⟩
abbrev s_NoWay___init__:Stmt:=inClass (topS 9) 0
abbrev N_NoWay___init__:List Str:= ["self","why"]
theorem sc_NoWay___init__:FnScope N_NoWay___init__ ["self","why"] (defScope s_NoWay___init__):=⟨rfl,rfl,rfl,by decide +kernel,rfl,by decide +kernel,by decide +kernel⟩
abbrev s_Untold___init__:Stmt:=inClass (topS 14) 0
abbrev N_Untold___init__:List Str:= ["self","name"]
theorem sc_Untold___init__:FnScope N_Untold___init__ ["self","name"] (defScope s_Untold___init__):=⟨rfl,rfl,rfl,by decide +kernel,rfl,by decide +kernel,by decide +kernel⟩
structure Txt (K:PySem.W.Frag) (w:World) (mg:Str→Option Value) (fa:Nat→Addr) (fd:Nat→FuncData):Prop where
 z_LookupError:mg "LookupError" =none
 z_RuntimeError:mg "RuntimeError" =none
 z_ValueError:mg "ValueError" =none
 z_abs:mg "abs" =none
 z_all:mg "all" =none
 z_enumerate:mg "enumerate" =none
 z_int:mg "int" =none
 z_isinstance:mg "isinstance" =none
 z_len:mg "len" =none
 z_max:mg "max" =none
 z_min:mg "min" =none
 z_range:mg "range" =none
 z_repr:mg "repr" =none
 g_law_hand:mg "_law_hand" =some (.ref (fa 0))
 F_law_hand:FunD K "_law_hand" "_law_hand" (defArgs s_law_hand) (defBody s_law_hand) (defScope s_law_hand) [] [] (fa 0) (fd 0)
 g_law_take:mg "_law_take" =some (.ref (fa 1))
 F_law_take:FunD K "_law_take" "_law_take" (defArgs s_law_take) (defBody s_law_take) (defScope s_law_take) [] [] (fa 1) (fd 1)
 g_law_pick:mg "_law_pick" =some (.ref (fa 2))
 F_law_pick:FunD K "_law_pick" "_law_pick" (defArgs s_law_pick) (defBody s_law_pick) (defScope s_law_pick) [] [] (fa 2) (fd 2)
 g_law_made:mg "_law_made" =some (.ref (fa 3))
 F_law_made:FunD K "_law_made" "_law_made" (defArgs s_law_made) (defBody s_law_made) (defScope s_law_made) [] [] (fa 3) (fd 3)
 g_law_values_right:mg "_law_values_right" =some (.ref (fa 4))
 F_law_values_right:FunD K "_law_values_right" "_law_values_right" (defArgs s_law_values_right) (defBody s_law_values_right) (defScope s_law_values_right) [] [] (fa 4) (fd 4)
 g_law_classes_right:mg "_law_classes_right" =some (.ref (fa 5))
 F_law_classes_right:FunD K "_law_classes_right" "_law_classes_right" (defArgs s_law_classes_right) (defBody s_law_classes_right) (defScope s_law_classes_right) [] [] (fa 5) (fd 5)
 g_law_raised:mg "_law_raised" =some (.ref (fa 6))
 F_law_raised:FunD K "_law_raised" "_law_raised" (defArgs s_law_raised) (defBody s_law_raised) (defScope s_law_raised) [] [] (fa 6) (fd 6)
 g_law:mg "law" =some (.ref (fa 7))
 F_law:FunD K "law" "law" (defArgs s_law) (defBody s_law) (defScope s_law) [] [] (fa 7) (fd 7)
 ca_Halted:mg "Halted" =some (.ref (fa 10))
 ca_Missing:mg "Missing" =some (.ref (fa 9))
 ca_NoBook:mg "NoBook" =some (.ref (fa 13))
 ca_NoFit:mg "NoFit" =some (.ref (fa 15))
 ca_NoLine:mg "NoLine" =some (.ref (fa 17))
 ca_NoName:mg "NoName" =some (.ref (fa 19))
 ca_NoNumber:mg "NoNumber" =some (.ref (fa 20))
 ca_NoPattern:mg "NoPattern" =some (.ref (fa 12))
 ca_NoPlace:mg "NoPlace" =some (.ref (fa 18))
 ca_NoText:mg "NoText" =some (.ref (fa 11))
 ca_NoWay:mg "NoWay" =some (.ref (fa 16))
 ca_Nothing:mg "Nothing" =some (.ref (fa 14))
 ca_Refused:mg "Refused" =some (.ref (fa 8))
 ca_Untold:mg "Untold" =some (.ref (fa 21))
 xd_Halted:XcD K (fa 10)
 xd_Missing:XcD K (fa 9)
 xd_NoBook:XcD K (fa 13)
 xd_NoFit:XcD K (fa 15)
 xd_NoLine:XcD K (fa 17)
 xd_NoName:XcD K (fa 19)
 xd_NoNumber:XcD K (fa 20)
 xd_NoPattern:XcD K (fa 12)
 xd_NoPlace:XcD K (fa 18)
 xd_NoText:XcD K (fa 11)
 xd_NoWay:XcD K (fa 16)
 xd_Nothing:XcD K (fa 14)
 xd_Refused:XcD K (fa 8)
 xd_Untold:XcD K (fa 21)
 xi_NoBook:XcI K (fa 13)
 xi_NoFit:XcI K (fa 15)
 xi_NoLine:XcI K (fa 17)
 xi_NoName:XcI K (fa 19)
 xi_NoNumber:XcI K (fa 20)
 xi_NoPattern:XcI K (fa 12)
 xi_NoPlace:XcI K (fa 18)
 xi_NoText:XcI K (fa 11)
 xi_NoWay:XcI K (fa 16)
 xi_Nothing:XcI K (fa 14)
 xi_Untold:XcI K (fa 21)
 xs_NoBook__Halted:PySem.W.subIn K (.ref (fa 13)) (.ref (fa 10))=some false
 xs_NoBook__LookupError:PySem.W.subIn K (.ref (fa 13)) (.type "LookupError")=some false
 xs_NoBook__Missing:PySem.W.subIn K (.ref (fa 13)) (.ref (fa 9))=some false
 xs_NoBook__NoBook:PySem.W.subIn K (.ref (fa 13)) (.ref (fa 13))=some true
 xs_NoBook__NoFit:PySem.W.subIn K (.ref (fa 13)) (.ref (fa 15))=some false
 xs_NoBook__NoLine:PySem.W.subIn K (.ref (fa 13)) (.ref (fa 17))=some false
 xs_NoBook__NoName:PySem.W.subIn K (.ref (fa 13)) (.ref (fa 19))=some false
 xs_NoBook__NoNumber:PySem.W.subIn K (.ref (fa 13)) (.ref (fa 20))=some false
 xs_NoBook__NoPattern:PySem.W.subIn K (.ref (fa 13)) (.ref (fa 12))=some false
 xs_NoBook__NoPlace:PySem.W.subIn K (.ref (fa 13)) (.ref (fa 18))=some false
 xs_NoBook__NoText:PySem.W.subIn K (.ref (fa 13)) (.ref (fa 11))=some false
 xs_NoBook__NoWay:PySem.W.subIn K (.ref (fa 13)) (.ref (fa 16))=some false
 xs_NoBook__Nothing:PySem.W.subIn K (.ref (fa 13)) (.ref (fa 14))=some false
 xs_NoBook__Refused:PySem.W.subIn K (.ref (fa 13)) (.ref (fa 8))=some true
 xs_NoBook__RuntimeError:PySem.W.subIn K (.ref (fa 13)) (.type "RuntimeError")=some false
 xs_NoBook__Untold:PySem.W.subIn K (.ref (fa 13)) (.ref (fa 21))=some false
 xs_NoBook__ValueError:PySem.W.subIn K (.ref (fa 13)) (.type "ValueError")=some true
 xs_NoFit__Halted:PySem.W.subIn K (.ref (fa 15)) (.ref (fa 10))=some false
 xs_NoFit__LookupError:PySem.W.subIn K (.ref (fa 15)) (.type "LookupError")=some false
 xs_NoFit__Missing:PySem.W.subIn K (.ref (fa 15)) (.ref (fa 9))=some false
 xs_NoFit__NoBook:PySem.W.subIn K (.ref (fa 15)) (.ref (fa 13))=some false
 xs_NoFit__NoFit:PySem.W.subIn K (.ref (fa 15)) (.ref (fa 15))=some true
 xs_NoFit__NoLine:PySem.W.subIn K (.ref (fa 15)) (.ref (fa 17))=some false
 xs_NoFit__NoName:PySem.W.subIn K (.ref (fa 15)) (.ref (fa 19))=some false
 xs_NoFit__NoNumber:PySem.W.subIn K (.ref (fa 15)) (.ref (fa 20))=some false
 xs_NoFit__NoPattern:PySem.W.subIn K (.ref (fa 15)) (.ref (fa 12))=some false
 xs_NoFit__NoPlace:PySem.W.subIn K (.ref (fa 15)) (.ref (fa 18))=some false
 xs_NoFit__NoText:PySem.W.subIn K (.ref (fa 15)) (.ref (fa 11))=some false
 xs_NoFit__NoWay:PySem.W.subIn K (.ref (fa 15)) (.ref (fa 16))=some false
 xs_NoFit__Nothing:PySem.W.subIn K (.ref (fa 15)) (.ref (fa 14))=some false
 xs_NoFit__Refused:PySem.W.subIn K (.ref (fa 15)) (.ref (fa 8))=some true
 xs_NoFit__RuntimeError:PySem.W.subIn K (.ref (fa 15)) (.type "RuntimeError")=some false
 xs_NoFit__Untold:PySem.W.subIn K (.ref (fa 15)) (.ref (fa 21))=some false
 xs_NoFit__ValueError:PySem.W.subIn K (.ref (fa 15)) (.type "ValueError")=some true
 xs_NoLine__Halted:PySem.W.subIn K (.ref (fa 17)) (.ref (fa 10))=some false
 xs_NoLine__LookupError:PySem.W.subIn K (.ref (fa 17)) (.type "LookupError")=some false
 xs_NoLine__Missing:PySem.W.subIn K (.ref (fa 17)) (.ref (fa 9))=some false
 xs_NoLine__NoBook:PySem.W.subIn K (.ref (fa 17)) (.ref (fa 13))=some false
 xs_NoLine__NoFit:PySem.W.subIn K (.ref (fa 17)) (.ref (fa 15))=some false
 xs_NoLine__NoLine:PySem.W.subIn K (.ref (fa 17)) (.ref (fa 17))=some true
 xs_NoLine__NoName:PySem.W.subIn K (.ref (fa 17)) (.ref (fa 19))=some false
 xs_NoLine__NoNumber:PySem.W.subIn K (.ref (fa 17)) (.ref (fa 20))=some false
 xs_NoLine__NoPattern:PySem.W.subIn K (.ref (fa 17)) (.ref (fa 12))=some false
 xs_NoLine__NoPlace:PySem.W.subIn K (.ref (fa 17)) (.ref (fa 18))=some false
 xs_NoLine__NoText:PySem.W.subIn K (.ref (fa 17)) (.ref (fa 11))=some false
 xs_NoLine__NoWay:PySem.W.subIn K (.ref (fa 17)) (.ref (fa 16))=some false
 xs_NoLine__Nothing:PySem.W.subIn K (.ref (fa 17)) (.ref (fa 14))=some false
 xs_NoLine__Refused:PySem.W.subIn K (.ref (fa 17)) (.ref (fa 8))=some true
 xs_NoLine__RuntimeError:PySem.W.subIn K (.ref (fa 17)) (.type "RuntimeError")=some false
 xs_NoLine__Untold:PySem.W.subIn K (.ref (fa 17)) (.ref (fa 21))=some false
 xs_NoLine__ValueError:PySem.W.subIn K (.ref (fa 17)) (.type "ValueError")=some true
 xs_NoName__Halted:PySem.W.subIn K (.ref (fa 19)) (.ref (fa 10))=some false
 xs_NoName__LookupError:PySem.W.subIn K (.ref (fa 19)) (.type "LookupError")=some true
 xs_NoName__Missing:PySem.W.subIn K (.ref (fa 19)) (.ref (fa 9))=some true
 xs_NoName__NoBook:PySem.W.subIn K (.ref (fa 19)) (.ref (fa 13))=some false
 xs_NoName__NoFit:PySem.W.subIn K (.ref (fa 19)) (.ref (fa 15))=some false
 xs_NoName__NoLine:PySem.W.subIn K (.ref (fa 19)) (.ref (fa 17))=some false
 xs_NoName__NoName:PySem.W.subIn K (.ref (fa 19)) (.ref (fa 19))=some true
 xs_NoName__NoNumber:PySem.W.subIn K (.ref (fa 19)) (.ref (fa 20))=some false
 xs_NoName__NoPattern:PySem.W.subIn K (.ref (fa 19)) (.ref (fa 12))=some false
 xs_NoName__NoPlace:PySem.W.subIn K (.ref (fa 19)) (.ref (fa 18))=some false
 xs_NoName__NoText:PySem.W.subIn K (.ref (fa 19)) (.ref (fa 11))=some false
 xs_NoName__NoWay:PySem.W.subIn K (.ref (fa 19)) (.ref (fa 16))=some false
 xs_NoName__Nothing:PySem.W.subIn K (.ref (fa 19)) (.ref (fa 14))=some false
 xs_NoName__Refused:PySem.W.subIn K (.ref (fa 19)) (.ref (fa 8))=some false
 xs_NoName__RuntimeError:PySem.W.subIn K (.ref (fa 19)) (.type "RuntimeError")=some false
 xs_NoName__Untold:PySem.W.subIn K (.ref (fa 19)) (.ref (fa 21))=some false
 xs_NoName__ValueError:PySem.W.subIn K (.ref (fa 19)) (.type "ValueError")=some false
 xs_NoNumber__Halted:PySem.W.subIn K (.ref (fa 20)) (.ref (fa 10))=some false
 xs_NoNumber__LookupError:PySem.W.subIn K (.ref (fa 20)) (.type "LookupError")=some true
 xs_NoNumber__Missing:PySem.W.subIn K (.ref (fa 20)) (.ref (fa 9))=some true
 xs_NoNumber__NoBook:PySem.W.subIn K (.ref (fa 20)) (.ref (fa 13))=some false
 xs_NoNumber__NoFit:PySem.W.subIn K (.ref (fa 20)) (.ref (fa 15))=some false
 xs_NoNumber__NoLine:PySem.W.subIn K (.ref (fa 20)) (.ref (fa 17))=some false
 xs_NoNumber__NoName:PySem.W.subIn K (.ref (fa 20)) (.ref (fa 19))=some false
 xs_NoNumber__NoNumber:PySem.W.subIn K (.ref (fa 20)) (.ref (fa 20))=some true
 xs_NoNumber__NoPattern:PySem.W.subIn K (.ref (fa 20)) (.ref (fa 12))=some false
 xs_NoNumber__NoPlace:PySem.W.subIn K (.ref (fa 20)) (.ref (fa 18))=some false
 xs_NoNumber__NoText:PySem.W.subIn K (.ref (fa 20)) (.ref (fa 11))=some false
 xs_NoNumber__NoWay:PySem.W.subIn K (.ref (fa 20)) (.ref (fa 16))=some false
 xs_NoNumber__Nothing:PySem.W.subIn K (.ref (fa 20)) (.ref (fa 14))=some false
 xs_NoNumber__Refused:PySem.W.subIn K (.ref (fa 20)) (.ref (fa 8))=some false
 xs_NoNumber__RuntimeError:PySem.W.subIn K (.ref (fa 20)) (.type "RuntimeError")=some false
 xs_NoNumber__Untold:PySem.W.subIn K (.ref (fa 20)) (.ref (fa 21))=some false
 xs_NoNumber__ValueError:PySem.W.subIn K (.ref (fa 20)) (.type "ValueError")=some false
 xs_NoPattern__Halted:PySem.W.subIn K (.ref (fa 12)) (.ref (fa 10))=some false
 xs_NoPattern__LookupError:PySem.W.subIn K (.ref (fa 12)) (.type "LookupError")=some false
 xs_NoPattern__Missing:PySem.W.subIn K (.ref (fa 12)) (.ref (fa 9))=some false
 xs_NoPattern__NoBook:PySem.W.subIn K (.ref (fa 12)) (.ref (fa 13))=some false
 xs_NoPattern__NoFit:PySem.W.subIn K (.ref (fa 12)) (.ref (fa 15))=some false
 xs_NoPattern__NoLine:PySem.W.subIn K (.ref (fa 12)) (.ref (fa 17))=some false
 xs_NoPattern__NoName:PySem.W.subIn K (.ref (fa 12)) (.ref (fa 19))=some false
 xs_NoPattern__NoNumber:PySem.W.subIn K (.ref (fa 12)) (.ref (fa 20))=some false
 xs_NoPattern__NoPattern:PySem.W.subIn K (.ref (fa 12)) (.ref (fa 12))=some true
 xs_NoPattern__NoPlace:PySem.W.subIn K (.ref (fa 12)) (.ref (fa 18))=some false
 xs_NoPattern__NoText:PySem.W.subIn K (.ref (fa 12)) (.ref (fa 11))=some false
 xs_NoPattern__NoWay:PySem.W.subIn K (.ref (fa 12)) (.ref (fa 16))=some false
 xs_NoPattern__Nothing:PySem.W.subIn K (.ref (fa 12)) (.ref (fa 14))=some false
 xs_NoPattern__Refused:PySem.W.subIn K (.ref (fa 12)) (.ref (fa 8))=some true
 xs_NoPattern__RuntimeError:PySem.W.subIn K (.ref (fa 12)) (.type "RuntimeError")=some false
 xs_NoPattern__Untold:PySem.W.subIn K (.ref (fa 12)) (.ref (fa 21))=some false
 xs_NoPattern__ValueError:PySem.W.subIn K (.ref (fa 12)) (.type "ValueError")=some true
 xs_NoPlace__Halted:PySem.W.subIn K (.ref (fa 18)) (.ref (fa 10))=some false
 xs_NoPlace__LookupError:PySem.W.subIn K (.ref (fa 18)) (.type "LookupError")=some true
 xs_NoPlace__Missing:PySem.W.subIn K (.ref (fa 18)) (.ref (fa 9))=some true
 xs_NoPlace__NoBook:PySem.W.subIn K (.ref (fa 18)) (.ref (fa 13))=some false
 xs_NoPlace__NoFit:PySem.W.subIn K (.ref (fa 18)) (.ref (fa 15))=some false
 xs_NoPlace__NoLine:PySem.W.subIn K (.ref (fa 18)) (.ref (fa 17))=some false
 xs_NoPlace__NoName:PySem.W.subIn K (.ref (fa 18)) (.ref (fa 19))=some false
 xs_NoPlace__NoNumber:PySem.W.subIn K (.ref (fa 18)) (.ref (fa 20))=some false
 xs_NoPlace__NoPattern:PySem.W.subIn K (.ref (fa 18)) (.ref (fa 12))=some false
 xs_NoPlace__NoPlace:PySem.W.subIn K (.ref (fa 18)) (.ref (fa 18))=some true
 xs_NoPlace__NoText:PySem.W.subIn K (.ref (fa 18)) (.ref (fa 11))=some false
 xs_NoPlace__NoWay:PySem.W.subIn K (.ref (fa 18)) (.ref (fa 16))=some false
 xs_NoPlace__Nothing:PySem.W.subIn K (.ref (fa 18)) (.ref (fa 14))=some false
 xs_NoPlace__Refused:PySem.W.subIn K (.ref (fa 18)) (.ref (fa 8))=some false
 xs_NoPlace__RuntimeError:PySem.W.subIn K (.ref (fa 18)) (.type "RuntimeError")=some false
 xs_NoPlace__Untold:PySem.W.subIn K (.ref (fa 18)) (.ref (fa 21))=some false
 xs_NoPlace__ValueError:PySem.W.subIn K (.ref (fa 18)) (.type "ValueError")=some false
 xs_NoText__Halted:PySem.W.subIn K (.ref (fa 11)) (.ref (fa 10))=some false
 xs_NoText__LookupError:PySem.W.subIn K (.ref (fa 11)) (.type "LookupError")=some false
 xs_NoText__Missing:PySem.W.subIn K (.ref (fa 11)) (.ref (fa 9))=some false
 xs_NoText__NoBook:PySem.W.subIn K (.ref (fa 11)) (.ref (fa 13))=some false
 xs_NoText__NoFit:PySem.W.subIn K (.ref (fa 11)) (.ref (fa 15))=some false
 xs_NoText__NoLine:PySem.W.subIn K (.ref (fa 11)) (.ref (fa 17))=some false
 xs_NoText__NoName:PySem.W.subIn K (.ref (fa 11)) (.ref (fa 19))=some false
 xs_NoText__NoNumber:PySem.W.subIn K (.ref (fa 11)) (.ref (fa 20))=some false
 xs_NoText__NoPattern:PySem.W.subIn K (.ref (fa 11)) (.ref (fa 12))=some false
 xs_NoText__NoPlace:PySem.W.subIn K (.ref (fa 11)) (.ref (fa 18))=some false
 xs_NoText__NoText:PySem.W.subIn K (.ref (fa 11)) (.ref (fa 11))=some true
 xs_NoText__NoWay:PySem.W.subIn K (.ref (fa 11)) (.ref (fa 16))=some false
 xs_NoText__Nothing:PySem.W.subIn K (.ref (fa 11)) (.ref (fa 14))=some false
 xs_NoText__Refused:PySem.W.subIn K (.ref (fa 11)) (.ref (fa 8))=some true
 xs_NoText__RuntimeError:PySem.W.subIn K (.ref (fa 11)) (.type "RuntimeError")=some false
 xs_NoText__Untold:PySem.W.subIn K (.ref (fa 11)) (.ref (fa 21))=some false
 xs_NoText__ValueError:PySem.W.subIn K (.ref (fa 11)) (.type "ValueError")=some true
 xs_NoWay__Halted:PySem.W.subIn K (.ref (fa 16)) (.ref (fa 10))=some false
 xs_NoWay__LookupError:PySem.W.subIn K (.ref (fa 16)) (.type "LookupError")=some false
 xs_NoWay__Missing:PySem.W.subIn K (.ref (fa 16)) (.ref (fa 9))=some false
 xs_NoWay__NoBook:PySem.W.subIn K (.ref (fa 16)) (.ref (fa 13))=some false
 xs_NoWay__NoFit:PySem.W.subIn K (.ref (fa 16)) (.ref (fa 15))=some false
 xs_NoWay__NoLine:PySem.W.subIn K (.ref (fa 16)) (.ref (fa 17))=some false
 xs_NoWay__NoName:PySem.W.subIn K (.ref (fa 16)) (.ref (fa 19))=some false
 xs_NoWay__NoNumber:PySem.W.subIn K (.ref (fa 16)) (.ref (fa 20))=some false
 xs_NoWay__NoPattern:PySem.W.subIn K (.ref (fa 16)) (.ref (fa 12))=some false
 xs_NoWay__NoPlace:PySem.W.subIn K (.ref (fa 16)) (.ref (fa 18))=some false
 xs_NoWay__NoText:PySem.W.subIn K (.ref (fa 16)) (.ref (fa 11))=some false
 xs_NoWay__NoWay:PySem.W.subIn K (.ref (fa 16)) (.ref (fa 16))=some true
 xs_NoWay__Nothing:PySem.W.subIn K (.ref (fa 16)) (.ref (fa 14))=some false
 xs_NoWay__Refused:PySem.W.subIn K (.ref (fa 16)) (.ref (fa 8))=some true
 xs_NoWay__RuntimeError:PySem.W.subIn K (.ref (fa 16)) (.type "RuntimeError")=some false
 xs_NoWay__Untold:PySem.W.subIn K (.ref (fa 16)) (.ref (fa 21))=some false
 xs_NoWay__ValueError:PySem.W.subIn K (.ref (fa 16)) (.type "ValueError")=some true
 xs_Nothing__Halted:PySem.W.subIn K (.ref (fa 14)) (.ref (fa 10))=some false
 xs_Nothing__LookupError:PySem.W.subIn K (.ref (fa 14)) (.type "LookupError")=some false
 xs_Nothing__Missing:PySem.W.subIn K (.ref (fa 14)) (.ref (fa 9))=some false
 xs_Nothing__NoBook:PySem.W.subIn K (.ref (fa 14)) (.ref (fa 13))=some false
 xs_Nothing__NoFit:PySem.W.subIn K (.ref (fa 14)) (.ref (fa 15))=some false
 xs_Nothing__NoLine:PySem.W.subIn K (.ref (fa 14)) (.ref (fa 17))=some false
 xs_Nothing__NoName:PySem.W.subIn K (.ref (fa 14)) (.ref (fa 19))=some false
 xs_Nothing__NoNumber:PySem.W.subIn K (.ref (fa 14)) (.ref (fa 20))=some false
 xs_Nothing__NoPattern:PySem.W.subIn K (.ref (fa 14)) (.ref (fa 12))=some false
 xs_Nothing__NoPlace:PySem.W.subIn K (.ref (fa 14)) (.ref (fa 18))=some false
 xs_Nothing__NoText:PySem.W.subIn K (.ref (fa 14)) (.ref (fa 11))=some false
 xs_Nothing__NoWay:PySem.W.subIn K (.ref (fa 14)) (.ref (fa 16))=some false
 xs_Nothing__Nothing:PySem.W.subIn K (.ref (fa 14)) (.ref (fa 14))=some true
 xs_Nothing__Refused:PySem.W.subIn K (.ref (fa 14)) (.ref (fa 8))=some true
 xs_Nothing__RuntimeError:PySem.W.subIn K (.ref (fa 14)) (.type "RuntimeError")=some false
 xs_Nothing__Untold:PySem.W.subIn K (.ref (fa 14)) (.ref (fa 21))=some false
 xs_Nothing__ValueError:PySem.W.subIn K (.ref (fa 14)) (.type "ValueError")=some true
 xs_Untold__Halted:PySem.W.subIn K (.ref (fa 21)) (.ref (fa 10))=some true
 xs_Untold__LookupError:PySem.W.subIn K (.ref (fa 21)) (.type "LookupError")=some false
 xs_Untold__Missing:PySem.W.subIn K (.ref (fa 21)) (.ref (fa 9))=some false
 xs_Untold__NoBook:PySem.W.subIn K (.ref (fa 21)) (.ref (fa 13))=some false
 xs_Untold__NoFit:PySem.W.subIn K (.ref (fa 21)) (.ref (fa 15))=some false
 xs_Untold__NoLine:PySem.W.subIn K (.ref (fa 21)) (.ref (fa 17))=some false
 xs_Untold__NoName:PySem.W.subIn K (.ref (fa 21)) (.ref (fa 19))=some false
 xs_Untold__NoNumber:PySem.W.subIn K (.ref (fa 21)) (.ref (fa 20))=some false
 xs_Untold__NoPattern:PySem.W.subIn K (.ref (fa 21)) (.ref (fa 12))=some false
 xs_Untold__NoPlace:PySem.W.subIn K (.ref (fa 21)) (.ref (fa 18))=some false
 xs_Untold__NoText:PySem.W.subIn K (.ref (fa 21)) (.ref (fa 11))=some false
 xs_Untold__NoWay:PySem.W.subIn K (.ref (fa 21)) (.ref (fa 16))=some false
 xs_Untold__Nothing:PySem.W.subIn K (.ref (fa 21)) (.ref (fa 14))=some false
 xs_Untold__Refused:PySem.W.subIn K (.ref (fa 21)) (.ref (fa 8))=some false
 xs_Untold__RuntimeError:PySem.W.subIn K (.ref (fa 21)) (.type "RuntimeError")=some true
 xs_Untold__Untold:PySem.W.subIn K (.ref (fa 21)) (.ref (fa 21))=some true
 xs_Untold__ValueError:PySem.W.subIn K (.ref (fa 21)) (.type "ValueError")=some false
 xn_NoLine:PySem.W.findIn K (.ref (fa 17)) "line" =some none
 xn_NoName:PySem.W.findIn K (.ref (fa 19)) "name" =some none
 xn_NoNumber:PySem.W.findIn K (.ref (fa 20)) "number" =some none
 xn_NoPlace:PySem.W.findIn K (.ref (fa 18)) "place" =some none
 xn_NoText:PySem.W.findIn K (.ref (fa 11)) "at" =some none
 xn_NoWay:PySem.W.findIn K (.ref (fa 16)) "why" =some none
 xn_Untold:PySem.W.findIn K (.ref (fa 21)) "name" =some none
 x0_NoBook:Xc0 ⟨K,w,mg⟩ "NoBook" (fa 13)
 x0_NoFit:Xc0 ⟨K,w,mg⟩ "NoFit" (fa 15)
 xo_NoLine:∃B n i bm,Oxc K (fa 17) B n i bm
 xc_NoLine:PySem.W.findIn K (.ref (fa 17)) "__init__" =some (some (.ref (fa 31)))
 xt_NoLine:PySem.W.typeIn K (.ref (fa 31))=some (.type "function")
 F_NoLine___init__:FunD K "__init__" "NoLine.__init__" (defArgs s_NoLine___init__) (defBody s_NoLine___init__) (defScope s_NoLine___init__) [] [] (fa 31) (fd 31)
 xo_NoName:∃B n i bm,Oxc K (fa 19) B n i bm
 xc_NoName:PySem.W.findIn K (.ref (fa 19)) "__init__" =some (some (.ref (fa 33)))
 xt_NoName:PySem.W.typeIn K (.ref (fa 33))=some (.type "function")
 F_NoName___init__:FunD K "__init__" "NoName.__init__" (defArgs s_NoName___init__) (defBody s_NoName___init__) (defScope s_NoName___init__) [] [] (fa 33) (fd 33)
 xo_NoNumber:∃B n i bm,Oxc K (fa 20) B n i bm
 xc_NoNumber:PySem.W.findIn K (.ref (fa 20)) "__init__" =some (some (.ref (fa 34)))
 xt_NoNumber:PySem.W.typeIn K (.ref (fa 34))=some (.type "function")
 F_NoNumber___init__:FunD K "__init__" "NoNumber.__init__" (defArgs s_NoNumber___init__) (defBody s_NoNumber___init__) (defScope s_NoNumber___init__) [] [] (fa 34) (fd 34)
 x0_NoPattern:Xc0 ⟨K,w,mg⟩ "NoPattern" (fa 12)
 xo_NoPlace:∃B n i bm,Oxc K (fa 18) B n i bm
 xc_NoPlace:PySem.W.findIn K (.ref (fa 18)) "__init__" =some (some (.ref (fa 32)))
 xt_NoPlace:PySem.W.typeIn K (.ref (fa 32))=some (.type "function")
 F_NoPlace___init__:FunD K "__init__" "NoPlace.__init__" (defArgs s_NoPlace___init__) (defBody s_NoPlace___init__) (defScope s_NoPlace___init__) [] [] (fa 32) (fd 32)
 xo_NoText:∃B n i bm,Oxc K (fa 11) B n i bm
 xc_NoText:PySem.W.findIn K (.ref (fa 11)) "__init__" =some (some (.ref (fa 25)))
 xt_NoText:PySem.W.typeIn K (.ref (fa 25))=some (.type "function")
 F_NoText___init__:FunD K "__init__" "NoText.__init__" (defArgs s_NoText___init__) (defBody s_NoText___init__) (defScope s_NoText___init__) [] [] (fa 25) (fd 25)
 xo_NoWay:∃B n i bm,Oxc K (fa 16) B n i bm
 xc_NoWay:PySem.W.findIn K (.ref (fa 16)) "__init__" =some (some (.ref (fa 30)))
 xt_NoWay:PySem.W.typeIn K (.ref (fa 30))=some (.type "function")
 F_NoWay___init__:FunD K "__init__" "NoWay.__init__" (defArgs s_NoWay___init__) (defBody s_NoWay___init__) (defScope s_NoWay___init__) [] [] (fa 30) (fd 30)
 x0_Nothing:Xc0 ⟨K,w,mg⟩ "Nothing" (fa 14)
 xo_Untold:∃B n i bm,Oxc K (fa 21) B n i bm
 xc_Untold:PySem.W.findIn K (.ref (fa 21)) "__init__" =some (some (.ref (fa 35)))
 xt_Untold:PySem.W.typeIn K (.ref (fa 35))=some (.type "function")
 F_Untold___init__:FunD K "__init__" "Untold.__init__" (defArgs s_Untold___init__) (defBody s_Untold___init__) (defScope s_Untold___init__) [] [] (fa 35) (fd 35)
section
variable {P:Program} {K:PySem.W.Frag} {w:World} {mg:Str→Option Value} {base:Heap} {fa:Nat→Addr} {fd:Nat→FuncData}
theorem Txt.bnd_law_hand (T:Txt K w mg fa fd):Bnd ⟨K,w,mg⟩ (fd 0) ["_law_script","_law_k"] [] :=bnd0 (T.F_law_hand.bindsN fun _ _ _ _ _ _ us hl=>match us,hl with| [_,_],_=>rfl)
theorem Txt.bnd_law_take (T:Txt K w mg fa fd):Bnd ⟨K,w,mg⟩ (fd 1) ["_law_hand_here","_law_many"] [] :=bnd0 (T.F_law_take.bindsN fun _ _ _ _ _ _ us hl=>match us,hl with| [_,_],_=>rfl)
theorem Txt.bnd_law_pick (T:Txt K w mg fa fd):Bnd ⟨K,w,mg⟩ (fd 2) ["_law_hand_here","_law_some"] [] :=bnd0 (T.F_law_pick.bindsN fun _ _ _ _ _ _ us hl=>match us,hl with| [_,_],_=>rfl)
theorem Txt.bnd_law_made (T:Txt K w mg fa fd):Bnd ⟨K,w,mg⟩ (fd 3) ["_law_many","_law_whom","_law_odd"] [] :=bnd0 (T.F_law_made.bindsN fun _ _ _ _ _ _ us hl=>match us,hl with| [_,_,_],_=>rfl)
theorem Txt.bnd_law_values_right (T:Txt K w mg fa fd):Bnd ⟨K,w,mg⟩ (fd 4) ["_law_some","_law_many","_law_whom","_law_odd"] [] :=bnd0 (T.F_law_values_right.bindsN fun _ _ _ _ _ _ us hl=>match us,hl with| [_,_,_,_],_=>rfl)
theorem Txt.bnd_law_classes_right (T:Txt K w mg fa fd):Bnd ⟨K,w,mg⟩ (fd 5) ["_law_some"] [] :=bnd0 (T.F_law_classes_right.bindsN fun _ _ _ _ _ _ us hl=>match us,hl with| [_],_=>rfl)
theorem Txt.bnd_law_raised (T:Txt K w mg fa fd):Bnd ⟨K,w,mg⟩ (fd 6) ["_law_which","_law_many","_law_whom"] [] :=bnd0 (T.F_law_raised.bindsN fun _ _ _ _ _ _ us hl=>match us,hl with| [_,_,_],_=>rfl)
theorem Txt.bnd_NoLine___init__ (T:Txt K w mg fa fd):Binds K (fd 31) ["self","line"] [] :=T.F_NoLine___init__.bindsN fun _ _ _ _ _ _ us hl=>match us,hl with| [_,_],_=>rfl
theorem Txt.x1_NoLine (T:Txt K w mg fa fd) (P:Program) (base:Heap):Xc1 P w ⟨K,w,mg⟩ base 1 "NoLine" "line" (fa 17):=
 ⟨T.ca_NoLine,T.xo_NoLine,T.xn_NoLine,_,_,_,T.xc_NoLine,T.xt_NoLine,by
   obtain⟨B,n,i,bm,ox⟩:=T.xo_NoLine
   exact init_ok (mg:=mg) T.F_NoLine___init__ sc_NoLine___init__ rfl fun _ _ _ _ _ _=>pss_one (ps_sto ox T.xn_NoLine (pv 0) (pv 1)),T.bnd_NoLine___init__⟩
theorem Txt.bnk_NoLine___init__ (T:Txt K w mg fa fd):∀(s:Shared) (v u:Value),BindsTo s (fd 31) ⟨[v],[("line",u)]⟩ ((["self","line"] :List Str).zip [v,u]):=by
 obtain⟨oc,od,dV,kV,doc,pm,an,cdv,ct,osl,e,_,_,hD,_⟩:=T.F_NoLine___init__.ex
 obtain rfl:dV= .none:=hD.elim (fun h=>h.2) fun h=>absurd rfl h.1
 intro s v u
 rw[e]
 exact .of_eq rfl
theorem Txt.xk_NoLine (T:Txt K w mg fa fd) (P:Program) (base:Heap):Xck P w ⟨K,w,mg⟩ base 1 "NoLine" "line" "line" (fa 17):=
 ⟨T.ca_NoLine,T.xo_NoLine,T.xn_NoLine,_,_,_,T.xc_NoLine,T.xt_NoLine,by
   obtain⟨B,n,i,bm,ox⟩:=T.xo_NoLine
   exact init_ok (mg:=mg) T.F_NoLine___init__ sc_NoLine___init__ rfl fun _ _ _ _ _ _=>pss_one (ps_sto ox T.xn_NoLine (pv 0) (pv 1)),T.bnk_NoLine___init__⟩
theorem Txt.bnd_NoName___init__ (T:Txt K w mg fa fd):Binds K (fd 33) ["self","name"] [] :=T.F_NoName___init__.bindsN fun _ _ _ _ _ _ us hl=>match us,hl with| [_,_],_=>rfl
theorem Txt.x1_NoName (T:Txt K w mg fa fd) (P:Program) (base:Heap):Xc1 P w ⟨K,w,mg⟩ base 1 "NoName" "name" (fa 19):=
 ⟨T.ca_NoName,T.xo_NoName,T.xn_NoName,_,_,_,T.xc_NoName,T.xt_NoName,by
   obtain⟨B,n,i,bm,ox⟩:=T.xo_NoName
   exact init_ok (mg:=mg) T.F_NoName___init__ sc_NoName___init__ rfl fun _ _ _ _ _ _=>pss_one (ps_sto ox T.xn_NoName (pv 0) (pv 1)),T.bnd_NoName___init__⟩
theorem Txt.bnk_NoName___init__ (T:Txt K w mg fa fd):∀(s:Shared) (v u:Value),BindsTo s (fd 33) ⟨[v],[("name",u)]⟩ ((["self","name"] :List Str).zip [v,u]):=by
 obtain⟨oc,od,dV,kV,doc,pm,an,cdv,ct,osl,e,_,_,hD,_⟩:=T.F_NoName___init__.ex
 obtain rfl:dV= .none:=hD.elim (fun h=>h.2) fun h=>absurd rfl h.1
 intro s v u
 rw[e]
 exact .of_eq rfl
theorem Txt.xk_NoName (T:Txt K w mg fa fd) (P:Program) (base:Heap):Xck P w ⟨K,w,mg⟩ base 1 "NoName" "name" "name" (fa 19):=
 ⟨T.ca_NoName,T.xo_NoName,T.xn_NoName,_,_,_,T.xc_NoName,T.xt_NoName,by
   obtain⟨B,n,i,bm,ox⟩:=T.xo_NoName
   exact init_ok (mg:=mg) T.F_NoName___init__ sc_NoName___init__ rfl fun _ _ _ _ _ _=>pss_one (ps_sto ox T.xn_NoName (pv 0) (pv 1)),T.bnk_NoName___init__⟩
theorem Txt.bnd_NoNumber___init__ (T:Txt K w mg fa fd):Binds K (fd 34) ["self","number"] [] :=T.F_NoNumber___init__.bindsN fun _ _ _ _ _ _ us hl=>match us,hl with| [_,_],_=>rfl
theorem Txt.x1_NoNumber (T:Txt K w mg fa fd) (P:Program) (base:Heap):Xc1 P w ⟨K,w,mg⟩ base 1 "NoNumber" "number" (fa 20):=
 ⟨T.ca_NoNumber,T.xo_NoNumber,T.xn_NoNumber,_,_,_,T.xc_NoNumber,T.xt_NoNumber,by
   obtain⟨B,n,i,bm,ox⟩:=T.xo_NoNumber
   exact init_ok (mg:=mg) T.F_NoNumber___init__ sc_NoNumber___init__ rfl fun _ _ _ _ _ _=>pss_one (ps_sto ox T.xn_NoNumber (pv 0) (pv 1)),T.bnd_NoNumber___init__⟩
theorem Txt.bnk_NoNumber___init__ (T:Txt K w mg fa fd):∀(s:Shared) (v u:Value),BindsTo s (fd 34) ⟨[v],[("number",u)]⟩ ((["self","number"] :List Str).zip [v,u]):=by
 obtain⟨oc,od,dV,kV,doc,pm,an,cdv,ct,osl,e,_,_,hD,_⟩:=T.F_NoNumber___init__.ex
 obtain rfl:dV= .none:=hD.elim (fun h=>h.2) fun h=>absurd rfl h.1
 intro s v u
 rw[e]
 exact .of_eq rfl
theorem Txt.xk_NoNumber (T:Txt K w mg fa fd) (P:Program) (base:Heap):Xck P w ⟨K,w,mg⟩ base 1 "NoNumber" "number" "number" (fa 20):=
 ⟨T.ca_NoNumber,T.xo_NoNumber,T.xn_NoNumber,_,_,_,T.xc_NoNumber,T.xt_NoNumber,by
   obtain⟨B,n,i,bm,ox⟩:=T.xo_NoNumber
   exact init_ok (mg:=mg) T.F_NoNumber___init__ sc_NoNumber___init__ rfl fun _ _ _ _ _ _=>pss_one (ps_sto ox T.xn_NoNumber (pv 0) (pv 1)),T.bnk_NoNumber___init__⟩
theorem Txt.bnd_NoPlace___init__ (T:Txt K w mg fa fd):Binds K (fd 32) ["self","place"] [] :=T.F_NoPlace___init__.bindsN fun _ _ _ _ _ _ us hl=>match us,hl with| [_,_],_=>rfl
theorem Txt.x1_NoPlace (T:Txt K w mg fa fd) (P:Program) (base:Heap):Xc1 P w ⟨K,w,mg⟩ base 1 "NoPlace" "place" (fa 18):=
 ⟨T.ca_NoPlace,T.xo_NoPlace,T.xn_NoPlace,_,_,_,T.xc_NoPlace,T.xt_NoPlace,by
   obtain⟨B,n,i,bm,ox⟩:=T.xo_NoPlace
   exact init_ok (mg:=mg) T.F_NoPlace___init__ sc_NoPlace___init__ rfl fun _ _ _ _ _ _=>pss_one (ps_sto ox T.xn_NoPlace (pv 0) (pv 1)),T.bnd_NoPlace___init__⟩
theorem Txt.bnk_NoPlace___init__ (T:Txt K w mg fa fd):∀(s:Shared) (v u:Value),BindsTo s (fd 32) ⟨[v],[("place",u)]⟩ ((["self","place"] :List Str).zip [v,u]):=by
 obtain⟨oc,od,dV,kV,doc,pm,an,cdv,ct,osl,e,_,_,hD,_⟩:=T.F_NoPlace___init__.ex
 obtain rfl:dV= .none:=hD.elim (fun h=>h.2) fun h=>absurd rfl h.1
 intro s v u
 rw[e]
 exact .of_eq rfl
theorem Txt.xk_NoPlace (T:Txt K w mg fa fd) (P:Program) (base:Heap):Xck P w ⟨K,w,mg⟩ base 1 "NoPlace" "place" "place" (fa 18):=
 ⟨T.ca_NoPlace,T.xo_NoPlace,T.xn_NoPlace,_,_,_,T.xc_NoPlace,T.xt_NoPlace,by
   obtain⟨B,n,i,bm,ox⟩:=T.xo_NoPlace
   exact init_ok (mg:=mg) T.F_NoPlace___init__ sc_NoPlace___init__ rfl fun _ _ _ _ _ _=>pss_one (ps_sto ox T.xn_NoPlace (pv 0) (pv 1)),T.bnk_NoPlace___init__⟩
theorem Txt.bnd_NoText___init__ (T:Txt K w mg fa fd):Binds K (fd 25) ["self","at"] [] :=T.F_NoText___init__.bindsN fun _ _ _ _ _ _ us hl=>match us,hl with| [_,_],_=>rfl
theorem Txt.x1_NoText (T:Txt K w mg fa fd) (P:Program) (base:Heap):Xc1 P w ⟨K,w,mg⟩ base 1 "NoText" "at" (fa 11):=
 ⟨T.ca_NoText,T.xo_NoText,T.xn_NoText,_,_,_,T.xc_NoText,T.xt_NoText,by
   obtain⟨B,n,i,bm,ox⟩:=T.xo_NoText
   exact init_ok (mg:=mg) T.F_NoText___init__ sc_NoText___init__ rfl fun _ _ _ _ _ _=>pss_one (ps_sto ox T.xn_NoText (pv 0) (pv 1)),T.bnd_NoText___init__⟩
theorem Txt.bnk_NoText___init__ (T:Txt K w mg fa fd):∀(s:Shared) (v u:Value),BindsTo s (fd 25) ⟨[v],[("at",u)]⟩ ((["self","at"] :List Str).zip [v,u]):=by
 obtain⟨oc,od,dV,kV,doc,pm,an,cdv,ct,osl,e,_,_,hD,_⟩:=T.F_NoText___init__.ex
 obtain rfl:dV= .none:=hD.elim (fun h=>h.2) fun h=>absurd rfl h.1
 intro s v u
 rw[e]
 exact .of_eq rfl
theorem Txt.xk_NoText (T:Txt K w mg fa fd) (P:Program) (base:Heap):Xck P w ⟨K,w,mg⟩ base 1 "NoText" "at" "at" (fa 11):=
 ⟨T.ca_NoText,T.xo_NoText,T.xn_NoText,_,_,_,T.xc_NoText,T.xt_NoText,by
   obtain⟨B,n,i,bm,ox⟩:=T.xo_NoText
   exact init_ok (mg:=mg) T.F_NoText___init__ sc_NoText___init__ rfl fun _ _ _ _ _ _=>pss_one (ps_sto ox T.xn_NoText (pv 0) (pv 1)),T.bnk_NoText___init__⟩
theorem Txt.bnd_NoWay___init__ (T:Txt K w mg fa fd):Binds K (fd 30) ["self","why"] [] :=T.F_NoWay___init__.bindsN fun _ _ _ _ _ _ us hl=>match us,hl with| [_,_],_=>rfl
theorem Txt.x1_NoWay (T:Txt K w mg fa fd) (P:Program) (base:Heap):Xc1 P w ⟨K,w,mg⟩ base 1 "NoWay" "why" (fa 16):=
 ⟨T.ca_NoWay,T.xo_NoWay,T.xn_NoWay,_,_,_,T.xc_NoWay,T.xt_NoWay,by
   obtain⟨B,n,i,bm,ox⟩:=T.xo_NoWay
   exact init_ok (mg:=mg) T.F_NoWay___init__ sc_NoWay___init__ rfl fun _ _ _ _ _ _=>pss_one (ps_sto ox T.xn_NoWay (pv 0) (pv 1)),T.bnd_NoWay___init__⟩
theorem Txt.bnk_NoWay___init__ (T:Txt K w mg fa fd):∀(s:Shared) (v u:Value),BindsTo s (fd 30) ⟨[v],[("why",u)]⟩ ((["self","why"] :List Str).zip [v,u]):=by
 obtain⟨oc,od,dV,kV,doc,pm,an,cdv,ct,osl,e,_,_,hD,_⟩:=T.F_NoWay___init__.ex
 obtain rfl:dV= .none:=hD.elim (fun h=>h.2) fun h=>absurd rfl h.1
 intro s v u
 rw[e]
 exact .of_eq rfl
theorem Txt.xk_NoWay (T:Txt K w mg fa fd) (P:Program) (base:Heap):Xck P w ⟨K,w,mg⟩ base 1 "NoWay" "why" "why" (fa 16):=
 ⟨T.ca_NoWay,T.xo_NoWay,T.xn_NoWay,_,_,_,T.xc_NoWay,T.xt_NoWay,by
   obtain⟨B,n,i,bm,ox⟩:=T.xo_NoWay
   exact init_ok (mg:=mg) T.F_NoWay___init__ sc_NoWay___init__ rfl fun _ _ _ _ _ _=>pss_one (ps_sto ox T.xn_NoWay (pv 0) (pv 1)),T.bnk_NoWay___init__⟩
theorem Txt.bnd_Untold___init__ (T:Txt K w mg fa fd):Binds K (fd 35) ["self","name"] [] :=T.F_Untold___init__.bindsN fun _ _ _ _ _ _ us hl=>match us,hl with| [_,_],_=>rfl
theorem Txt.x1_Untold (T:Txt K w mg fa fd) (P:Program) (base:Heap):Xc1 P w ⟨K,w,mg⟩ base 1 "Untold" "name" (fa 21):=
 ⟨T.ca_Untold,T.xo_Untold,T.xn_Untold,_,_,_,T.xc_Untold,T.xt_Untold,by
   obtain⟨B,n,i,bm,ox⟩:=T.xo_Untold
   exact init_ok (mg:=mg) T.F_Untold___init__ sc_Untold___init__ rfl fun _ _ _ _ _ _=>pss_one (ps_sto ox T.xn_Untold (pv 0) (pv 1)),T.bnd_Untold___init__⟩
theorem Txt.bnk_Untold___init__ (T:Txt K w mg fa fd):∀(s:Shared) (v u:Value),BindsTo s (fd 35) ⟨[v],[("name",u)]⟩ ((["self","name"] :List Str).zip [v,u]):=by
 obtain⟨oc,od,dV,kV,doc,pm,an,cdv,ct,osl,e,_,_,hD,_⟩:=T.F_Untold___init__.ex
 obtain rfl:dV= .none:=hD.elim (fun h=>h.2) fun h=>absurd rfl h.1
 intro s v u
 rw[e]
 exact .of_eq rfl
theorem Txt.xk_Untold (T:Txt K w mg fa fd) (P:Program) (base:Heap):Xck P w ⟨K,w,mg⟩ base 1 "Untold" "name" "name" (fa 21):=
 ⟨T.ca_Untold,T.xo_Untold,T.xn_Untold,_,_,_,T.xc_Untold,T.xt_Untold,by
   obtain⟨B,n,i,bm,ox⟩:=T.xo_Untold
   exact init_ok (mg:=mg) T.F_Untold___init__ sc_Untold___init__ rfl fun _ _ _ _ _ _=>pss_one (ps_sto ox T.xn_Untold (pv 0) (pv 1)),T.bnk_Untold___init__⟩
end
theorem b_law_hand {P:Program} {K:PySem.W.Frag} {w:World} {mg:Str→Option Value} {base:Heap} {fa:Nat→Addr} {fd:Nat→FuncData} {F:Nat→FN} {k:Nat} (h1:1≤k) (hM:∃o,base.get? sysModules=some o) (T:Txt K w mg fa fd) (cdv:Value) (A:Around) (outer:List Env) (s:Shared) (H:Hp) (E:XK)
 (hrM:RoomG (k+1) (A.deeper (envOfC "_law_hand" (defScope s_law_hand) s.heap.objs.size (fa 0) cdv))):
 PSs (cxOf (L2.CX P w) P w K mg base N_law_hand "_law_hand" (defScope s_law_hand) (fa 0) cdv A outer s H E) (defBody s_law_hand) (tS ⟨K,w,mg⟩ (m_law_hand F) (WE0 E)):=
 have hr:=hrM.mono (Nat.le_succ _)
 have hr2:RoomG 2 _:=hrM.mono (Nat.succ_le_succ h1)
 q_scons (q_set (i:=2) sc_law_hand.nd (by rfl) (.inl (by rfl)) (q_op (o_add (by rfl)) c_add (q_op o_mul c_mul (q_int) (q_var (pv 1))) (q_callB (o_len (by rfl)) c_len (by rfl) T.z_len b_len (q_cons (q_var (pv 0)) (q_nil)))))
  (q_scons (q_if (q_tcmp o_lt c_lt (q_var (pv 1)) (q_callB (o_len (by rfl)) c_len (by rfl) T.z_len b_len (q_cons (q_var (pv 0)) (q_nil))) (nomark _)) (q_sone (q_set (i:=2) sc_law_hand.nd (by rfl) (.inl (by rfl)) (q_ix (o_ix (by rfl) (by rfl) (u1 hr)) c_ix (q_var (pv 0)) (q_var (pv 1)) (fun _ _=>rfl)))) (q_snil))
  (q_scons (q_set (i:=3) sc_law_hand.nd (by rfl) (.inl (by rfl)) (q_op o_mul c_mul (q_op o_mod c_mod (q_callB o_abs c_abs (by rfl) T.z_abs b_abs (q_cons (q_var (pv 2)) (q_nil))) (q_op o_pow c_pow (q_op o_pow c_pow (q_int) (q_int)) (q_int))) (q_callTy o_int c_int (by rfl) T.z_int b_int (q_cons (q_cmp o_ge c_ge (q_callB o_abs c_abs (by rfl) T.z_abs b_abs (q_cons (q_var (pv 2)) (q_nil))) (q_op o_pow c_pow (q_int) (q_int)) (nomark _)) (q_nil)))))
  (q_sone (q_ret (q_obj (q_cons (q_var (pv 3)) (q_cons (q_op o_mod c_mod (q_op o_mul c_mul (q_op (o_add (by rfl)) c_add (q_op (o_add (by rfl)) c_add (q_op o_mod c_mod (q_var (pv 2)) (q_int)) (q_op o_mul c_mul (q_op o_mul c_mul (q_int) (q_var (pv 1))) (q_var (pv 1)))) (q_int)) (q_int)) (q_int)) (q_nil))))))))
theorem b_law_take {P:Program} {K:PySem.W.Frag} {w:World} {mg:Str→Option Value} {base:Heap} {fa:Nat→Addr} {fd:Nat→FuncData} {F:Nat→FN} {k:Nat} (h1:1≤k) (hM:∃o,base.get? sysModules=some o) (T:Txt K w mg fa fd) (cdv:Value) (A:Around) (outer:List Env) (s:Shared) (H:Hp) (E:XK)
 (hrM:RoomG (k+1) (A.deeper (envOfC "_law_take" (defScope s_law_take) s.heap.objs.size (fa 1) cdv))):
 PSs (cxOf (L2.CX P w) P w K mg base N_law_take "_law_take" (defScope s_law_take) (fa 1) cdv A outer s H E) (defBody s_law_take) (tS ⟨K,w,mg⟩ (m_law_take F) (WE0 E)):=
 have hr:=hrM.mono (Nat.le_succ _)
 have hr2:RoomG 2 _:=hrM.mono (Nat.succ_le_succ h1)
 q_scons (q_if (q_tcmp o_gt c_gt (q_ix (o_ix (by rfl) (by rfl) (u1 hr)) c_ix (q_var (pv 0)) (q_int) (fun _ _=>rfl)) (q_int) (nomark _)) (q_scons (q_set (i:=2) sc_law_take.nd (by rfl) (.inl (by rfl)) (q_op o_mod c_mod (q_ix (o_ix (by rfl) (by rfl) (u1 hr)) c_ix (q_var (pv 0)) (q_int) (fun _ _=>rfl)) (q_var (pv 1))))
  (q_scons (q_asg (q_op o_fdiv c_fdiv (q_ix (o_ix (by rfl) (by rfl) (u1 hr)) c_ix (q_var (pv 0)) (q_int) (fun _ _=>rfl)) (q_var (pv 1))) (q_gsub (Wx:=WE0 E) (u1 hr) (q_var (pv 0)) (q_int)) (gn:=gn_sub))
  (q_sone (q_ret (q_var (pv 2)))))) (q_snil))
  (q_scons (q_asg (q_op o_mod c_mod (q_op (o_add (by rfl)) c_add (q_op o_mul c_mul (q_ix (o_ix (by rfl) (by rfl) (u1 hr)) c_ix (q_var (pv 0)) (q_int) (fun _ _=>rfl)) (q_int)) (q_int)) (q_int)) (q_gsub (Wx:=WE0 E) (u1 hr) (q_var (pv 0)) (q_int)) (gn:=gn_sub))
  (q_sone (q_ret (q_op o_mod c_mod (q_op o_fdiv c_fdiv (q_op o_mod c_mod (q_op o_mul c_mul (q_op o_fdiv c_fdiv (q_ix (o_ix (by rfl) (by rfl) (u1 hr)) c_ix (q_var (pv 0)) (q_int) (fun _ _=>rfl)) (q_int)) (q_op (o_add (by rfl)) c_add (q_op o_mod c_mod (q_ix (o_ix (by rfl) (by rfl) (u1 hr)) c_ix (q_var (pv 0)) (q_int) (fun _ _=>rfl)) (q_int)) (q_int))) (q_int)) (q_int)) (q_var (pv 1))))))
theorem b_law_pick {P:Program} {K:PySem.W.Frag} {w:World} {mg:Str→Option Value} {base:Heap} {fa:Nat→Addr} {fd:Nat→FuncData} {F:Nat→FN} {k:Nat} (h1:1≤k) (hM:∃o,base.get? sysModules=some o) (T:Txt K w mg fa fd) (C_law_take:Cal P w ⟨K,w,mg⟩ base k "_law_take" (fa 1) (fd 1) ["_law_hand_here","_law_many"] (F 1)) (cdv:Value) (A:Around) (outer:List Env) (s:Shared) (H:Hp) (E:XK)
 (hrM:RoomG (k+1) (A.deeper (envOfC "_law_pick" (defScope s_law_pick) s.heap.objs.size (fa 2) cdv))):
 PSs (cxOf (L2.CX P w) P w K mg base N_law_pick "_law_pick" (defScope s_law_pick) (fa 2) cdv A outer s H E) (defBody s_law_pick) (tS ⟨K,w,mg⟩ (m_law_pick F) (WE0 E)):=
 have hr:=hrM.mono (Nat.le_succ _)
 have hr2:RoomG 2 _:=hrM.mono (Nat.succ_le_succ h1)
 q_sone (q_ret (q_ix (o_ix (by rfl) (by rfl) (u1 hr)) c_ix (q_var (pv 1)) (q_fn C_law_take T.bnd_law_take hr (by rfl) (by rfl) (by rfl) tk_body (q_cons (q_var (pv 0)) (q_cons (q_callB (o_len (by rfl)) c_len (by rfl) T.z_len b_len (q_cons (q_var (pv 1)) (q_nil))) (q_nil)))) (fun _ _=>rfl)))
theorem b_law_made {P:Program} {K:PySem.W.Frag} {w:World} {mg:Str→Option Value} {base:Heap} {fa:Nat→Addr} {fd:Nat→FuncData} {F:Nat→FN} {k:Nat} (h1:1≤k) (hM:∃o,base.get? sysModules=some o) (T:Txt K w mg fa fd) (cdv:Value) (A:Around) (outer:List Env) (s:Shared) (H:Hp) (E:XK)
 (hrM:RoomG (k+1) (A.deeper (envOfC "_law_made" (defScope s_law_made) s.heap.objs.size (fa 3) cdv))):
 PSs (cxOf (L2.CX P w) P w K mg base N_law_made "_law_made" (defScope s_law_made) (fa 3) cdv A outer s H E) (defBody s_law_made) (tS ⟨K,w,mg⟩ (m_law_made F) (WE0 E)):=
 have hr:=hrM.mono (Nat.le_succ _)
 have hr2:RoomG 2 _:=hrM.mono (Nat.succ_le_succ h1)
 q_scons (q_set (i:=3) sc_law_made.nd (by rfl) (.inl (by rfl)) (q_lst (q_cons (q_xcp1 (k:=1) (T.x1_NoText P base) hr2 (by rfl) (by rfl) (by rfl) (by rfl) (q_var (pv 0))) (q_cons (q_xcp1 (k:=1) (T.x1_NoWay P base) hr2 (by rfl) (by rfl) (by rfl) (by rfl) (q_var (pv 1))) (q_cons (q_xcp1 (k:=1) (T.x1_NoLine P base) hr2 (by rfl) (by rfl) (by rfl) (by rfl) (q_var (pv 2))) (q_cons (q_xcp0 T.x0_NoPattern (by rfl) (by rfl) (by rfl) (by rfl)) (q_cons (q_xcp0 T.x0_NoBook (by rfl) (by rfl) (by rfl) (by rfl)) (q_cons (q_xcp0 T.x0_Nothing (by rfl) (by rfl) (by rfl) (by rfl)) (q_cons (q_xcp0 T.x0_NoFit (by rfl) (by rfl) (by rfl) (by rfl)) (q_nil))))))))))
  (q_scons (q_set (i:=3) sc_law_made.nd (by rfl) (.inl (by rfl)) (q_op (o_add (by rfl)) c_add (q_var (pv 3)) (q_lst (q_cons (q_xcp1 (k:=1) (T.x1_NoPlace P base) hr2 (by rfl) (by rfl) (by rfl) (by rfl) (q_var (pv 2))) (q_cons (q_xcp1 (k:=1) (T.x1_NoName P base) hr2 (by rfl) (by rfl) (by rfl) (by rfl) (q_var (pv 1))) (q_cons (q_xcp1 (k:=1) (T.x1_NoNumber P base) hr2 (by rfl) (by rfl) (by rfl) (by rfl) (q_var (pv 0))) (q_cons (q_xcp1 (k:=1) (T.x1_Untold P base) hr2 (by rfl) (by rfl) (by rfl) (by rfl) (q_var (pv 1))) (q_nil))))))))
  (q_scons (q_set (i:=4) sc_law_made.nd (by rfl) (.inl (by rfl)) (q_lst (q_cons (q_xcpk (k:=1) (T.xk_NoText P base) hr2 (by rfl) (by rfl) (by rfl) (by rfl) (q_var (pv 0))) (q_cons (q_xcpk (k:=1) (T.xk_NoWay P base) hr2 (by rfl) (by rfl) (by rfl) (by rfl) (q_var (pv 1))) (q_cons (q_xcpk (k:=1) (T.xk_NoLine P base) hr2 (by rfl) (by rfl) (by rfl) (by rfl) (q_var (pv 2))) (q_cons (q_xcp0 T.x0_NoPattern (by rfl) (by rfl) (by rfl) (by rfl)) (q_cons (q_xcp0 T.x0_NoBook (by rfl) (by rfl) (by rfl) (by rfl)) (q_cons (q_xcp0 T.x0_Nothing (by rfl) (by rfl) (by rfl) (by rfl)) (q_nil)))))))))
  (q_scons (q_set (i:=4) sc_law_made.nd (by rfl) (.inl (by rfl)) (q_op (o_add (by rfl)) c_add (q_var (pv 4)) (q_lst (q_cons (q_xcp0 T.x0_NoFit (by rfl) (by rfl) (by rfl) (by rfl)) (q_cons (q_xcpk (k:=1) (T.xk_NoPlace P base) hr2 (by rfl) (by rfl) (by rfl) (by rfl) (q_var (pv 2))) (q_cons (q_xcpk (k:=1) (T.xk_NoName P base) hr2 (by rfl) (by rfl) (by rfl) (by rfl) (q_var (pv 1))) (q_cons (q_xcpk (k:=1) (T.xk_NoNumber P base) hr2 (by rfl) (by rfl) (by rfl) (by rfl) (q_var (pv 0))) (q_cons (q_xcpk (k:=1) (T.xk_Untold P base) hr2 (by rfl) (by rfl) (by rfl) (by rfl) (q_var (pv 1))) (q_nil)))))))))
  (q_sone (q_ret (q_tup (q_cons (q_var (pv 3)) (q_cons (q_var (pv 4)) (q_nil)))))))))
theorem b_law_values_right {P:Program} {K:PySem.W.Frag} {w:World} {mg:Str→Option Value} {base:Heap} {fa:Nat→Addr} {fd:Nat→FuncData} {F:Nat→FN} {k:Nat} (h1:1≤k) (hM:∃o,base.get? sysModules=some o) (T:Txt K w mg fa fd) (cdv:Value) (A:Around) (outer:List Env) (s:Shared) (H:Hp) (E:XK)
 (hrM:RoomG (k+1) (A.deeper (envOfC "_law_values_right" (defScope s_law_values_right) s.heap.objs.size (fa 4) cdv))):
 PSs (cxOf (L2.CX P w) P w K mg base N_law_values_right "_law_values_right" (defScope s_law_values_right) (fa 4) cdv A outer s H E) (defBody s_law_values_right) (tS ⟨K,w,mg⟩ (m_law_values_right F) (WE0 E)):=
 have hr:=hrM.mono (Nat.le_succ _)
 have hr2:RoomG 2 _:=hrM.mono (Nat.succ_le_succ h1)
 q_scons (q_set (i:=4) sc_law_values_right.nd (by rfl) (.inl (by rfl)) (q_lst (q_cons (q_xf (by rfl) (q_ix (o_ix (by rfl) (by rfl) (u1 hr)) c_ix (q_var (pv 0)) (q_int) (fun _ _=>rfl)) (ym_cons T.ca_NoText ⟨T.xi_NoText,T.xn_NoText⟩ (ym_nil))) (q_cons (q_xf (by rfl) (q_ix (o_ix (by rfl) (by rfl) (u1 hr)) c_ix (q_var (pv 0)) (q_int) (fun _ _=>rfl)) (ym_cons T.ca_NoWay ⟨T.xi_NoWay,T.xn_NoWay⟩ (ym_nil))) (q_cons (q_xf (by rfl) (q_ix (o_ix (by rfl) (by rfl) (u1 hr)) c_ix (q_var (pv 0)) (q_int) (fun _ _=>rfl)) (ym_cons T.ca_NoLine ⟨T.xi_NoLine,T.xn_NoLine⟩ (ym_nil))) (q_cons (q_xf (by rfl) (q_ix (o_ix (by rfl) (by rfl) (u1 hr)) c_ix (q_var (pv 0)) (q_int) (fun _ _=>rfl)) (ym_cons T.ca_NoPlace ⟨T.xi_NoPlace,T.xn_NoPlace⟩ (ym_nil))) (q_cons (q_xf (by rfl) (q_ix (o_ix (by rfl) (by rfl) (u1 hr)) c_ix (q_var (pv 0)) (q_int) (fun _ _=>rfl)) (ym_cons T.ca_NoName ⟨T.xi_NoName,T.xn_NoName⟩ (ym_cons T.ca_Untold ⟨T.xi_Untold,T.xn_Untold⟩ (ym_nil)))) (q_cons (q_xf (by rfl) (q_ix (o_ix (by rfl) (by rfl) (u1 hr)) c_ix (q_var (pv 0)) (q_int) (fun _ _=>rfl)) (ym_cons T.ca_NoNumber ⟨T.xi_NoNumber,T.xn_NoNumber⟩ (ym_nil))) (q_cons (q_xf (by rfl) (q_ix (o_ix (by rfl) (by rfl) (u1 hr)) c_ix (q_var (pv 0)) (q_int) (fun _ _=>rfl)) (ym_cons T.ca_NoName ⟨T.xi_NoName,T.xn_NoName⟩ (ym_cons T.ca_Untold ⟨T.xi_Untold,T.xn_Untold⟩ (ym_nil)))) (q_nil))))))))))
  (q_sone (q_ret (q_cmp (o_eq (by rfl) hr.units) c_eq (q_callB (o_repr (by rfl) hM hr.gd (u150 hr)) c_repr (by rfl) T.z_repr b_repr (q_cons (q_var (pv 4)) (q_nil))) (q_callB (o_repr (by rfl) hM hr.gd (u150 hr)) c_repr (by rfl) T.z_repr b_repr (q_cons (q_lst (q_cons (q_var (pv 1)) (q_cons (q_var (pv 2)) (q_cons (q_var (pv 3)) (q_cons (q_var (pv 3)) (q_cons (q_var (pv 2)) (q_cons (q_var (pv 1)) (q_cons (q_var (pv 2)) (q_nil))))))))) (q_nil))) (nomark _))))
theorem b_law_classes_right {P:Program} {K:PySem.W.Frag} {w:World} {mg:Str→Option Value} {base:Heap} {fa:Nat→Addr} {fd:Nat→FuncData} {F:Nat→FN} {k:Nat} (h1:1≤k) (hM:∃o,base.get? sysModules=some o) (T:Txt K w mg fa fd) (cdv:Value) (A:Around) (outer:List Env) (s:Shared) (H:Hp) (E:XK)
 (hrM:RoomG (k+1) (A.deeper (envOfC "_law_classes_right" (defScope s_law_classes_right) s.heap.objs.size (fa 5) cdv))):
 PSs (cxOf (L2.CX P w) P w K mg base N_law_classes_right "_law_classes_right" (defScope s_law_classes_right) (fa 5) cdv A outer s H E) (defBody s_law_classes_right) (tS ⟨K,w,mg⟩ (m_law_classes_right F) (WE0 E)):=
 have hr:=hrM.mono (Nat.le_succ _)
 have hr2:RoomG 2 _:=hrM.mono (Nat.succ_le_succ h1)
 q_scons (q_for po_body (by rfl) (q_enum (by rfl) (by rfl) T.z_enumerate (q_cons (q_var (pv 0)) (q_nil))) (q_gtup (by rfl) (by rfl) (q_gscons (pg_name (i:=1) sc_law_classes_right.nd (by rfl) (.inr (by rfl))) (q_gscons (pg_name (i:=2) sc_law_classes_right.nd (by rfl) (.inl (by rfl))) (q_gsnil)))) (q_scons (q_set (i:=3) sc_law_classes_right.nd (by rfl) (.inl (by rfl)) (q_lst (q_cons (q_isx (by rfl) (by rfl) T.z_isinstance (q_var (pv 2)) (cls_name ⟨by rfl,by decide, .inl T.ca_NoText⟩) (ym_cons T.ca_NoText ⟨T.xi_NoText,(kit_own T.xd_NoText T.xs_NoText__NoText T.xs_NoText__NoText)⟩ (ym_nil)) (ym_cons T.ca_NoPattern ⟨T.xi_NoPattern,(kit_own T.xd_NoText T.xs_NoPattern__NoPattern T.xs_NoPattern__NoText)⟩ (ym_cons T.ca_NoBook ⟨T.xi_NoBook,(kit_own T.xd_NoText T.xs_NoBook__NoBook T.xs_NoBook__NoText)⟩ (ym_cons T.ca_Nothing ⟨T.xi_Nothing,(kit_own T.xd_NoText T.xs_Nothing__Nothing T.xs_Nothing__NoText)⟩ (ym_cons T.ca_NoFit ⟨T.xi_NoFit,(kit_own T.xd_NoText T.xs_NoFit__NoFit T.xs_NoFit__NoText)⟩ (ym_cons T.ca_NoWay ⟨T.xi_NoWay,(kit_own T.xd_NoText T.xs_NoWay__NoWay T.xs_NoWay__NoText)⟩ (ym_cons T.ca_NoLine ⟨T.xi_NoLine,(kit_own T.xd_NoText T.xs_NoLine__NoLine T.xs_NoLine__NoText)⟩ (ym_cons T.ca_NoPlace ⟨T.xi_NoPlace,(kit_own T.xd_NoText T.xs_NoPlace__NoPlace T.xs_NoPlace__NoText)⟩ (ym_cons T.ca_NoName ⟨T.xi_NoName,(kit_own T.xd_NoText T.xs_NoName__NoName T.xs_NoName__NoText)⟩ (ym_cons T.ca_NoNumber ⟨T.xi_NoNumber,(kit_own T.xd_NoText T.xs_NoNumber__NoNumber T.xs_NoNumber__NoText)⟩ (ym_cons T.ca_Untold ⟨T.xi_Untold,(kit_own T.xd_NoText T.xs_Untold__Untold T.xs_Untold__NoText)⟩ (ym_nil)))))))))))) (q_cons (q_isx (by rfl) (by rfl) T.z_isinstance (q_var (pv 2)) (cls_name ⟨by rfl,by decide, .inl T.ca_NoWay⟩) (ym_cons T.ca_NoWay ⟨T.xi_NoWay,(kit_own T.xd_NoWay T.xs_NoWay__NoWay T.xs_NoWay__NoWay)⟩ (ym_nil)) (ym_cons T.ca_NoText ⟨T.xi_NoText,(kit_own T.xd_NoWay T.xs_NoText__NoText T.xs_NoText__NoWay)⟩ (ym_cons T.ca_NoPattern ⟨T.xi_NoPattern,(kit_own T.xd_NoWay T.xs_NoPattern__NoPattern T.xs_NoPattern__NoWay)⟩ (ym_cons T.ca_NoBook ⟨T.xi_NoBook,(kit_own T.xd_NoWay T.xs_NoBook__NoBook T.xs_NoBook__NoWay)⟩ (ym_cons T.ca_Nothing ⟨T.xi_Nothing,(kit_own T.xd_NoWay T.xs_Nothing__Nothing T.xs_Nothing__NoWay)⟩ (ym_cons T.ca_NoFit ⟨T.xi_NoFit,(kit_own T.xd_NoWay T.xs_NoFit__NoFit T.xs_NoFit__NoWay)⟩ (ym_cons T.ca_NoLine ⟨T.xi_NoLine,(kit_own T.xd_NoWay T.xs_NoLine__NoLine T.xs_NoLine__NoWay)⟩ (ym_cons T.ca_NoPlace ⟨T.xi_NoPlace,(kit_own T.xd_NoWay T.xs_NoPlace__NoPlace T.xs_NoPlace__NoWay)⟩ (ym_cons T.ca_NoName ⟨T.xi_NoName,(kit_own T.xd_NoWay T.xs_NoName__NoName T.xs_NoName__NoWay)⟩ (ym_cons T.ca_NoNumber ⟨T.xi_NoNumber,(kit_own T.xd_NoWay T.xs_NoNumber__NoNumber T.xs_NoNumber__NoWay)⟩ (ym_cons T.ca_Untold ⟨T.xi_Untold,(kit_own T.xd_NoWay T.xs_Untold__Untold T.xs_Untold__NoWay)⟩ (ym_nil)))))))))))) (q_cons (q_isx (by rfl) (by rfl) T.z_isinstance (q_var (pv 2)) (cls_name ⟨by rfl,by decide, .inl T.ca_NoLine⟩) (ym_cons T.ca_NoLine ⟨T.xi_NoLine,(kit_own T.xd_NoLine T.xs_NoLine__NoLine T.xs_NoLine__NoLine)⟩ (ym_nil)) (ym_cons T.ca_NoText ⟨T.xi_NoText,(kit_own T.xd_NoLine T.xs_NoText__NoText T.xs_NoText__NoLine)⟩ (ym_cons T.ca_NoPattern ⟨T.xi_NoPattern,(kit_own T.xd_NoLine T.xs_NoPattern__NoPattern T.xs_NoPattern__NoLine)⟩ (ym_cons T.ca_NoBook ⟨T.xi_NoBook,(kit_own T.xd_NoLine T.xs_NoBook__NoBook T.xs_NoBook__NoLine)⟩ (ym_cons T.ca_Nothing ⟨T.xi_Nothing,(kit_own T.xd_NoLine T.xs_Nothing__Nothing T.xs_Nothing__NoLine)⟩ (ym_cons T.ca_NoFit ⟨T.xi_NoFit,(kit_own T.xd_NoLine T.xs_NoFit__NoFit T.xs_NoFit__NoLine)⟩ (ym_cons T.ca_NoWay ⟨T.xi_NoWay,(kit_own T.xd_NoLine T.xs_NoWay__NoWay T.xs_NoWay__NoLine)⟩ (ym_cons T.ca_NoPlace ⟨T.xi_NoPlace,(kit_own T.xd_NoLine T.xs_NoPlace__NoPlace T.xs_NoPlace__NoLine)⟩ (ym_cons T.ca_NoName ⟨T.xi_NoName,(kit_own T.xd_NoLine T.xs_NoName__NoName T.xs_NoName__NoLine)⟩ (ym_cons T.ca_NoNumber ⟨T.xi_NoNumber,(kit_own T.xd_NoLine T.xs_NoNumber__NoNumber T.xs_NoNumber__NoLine)⟩ (ym_cons T.ca_Untold ⟨T.xi_Untold,(kit_own T.xd_NoLine T.xs_Untold__Untold T.xs_Untold__NoLine)⟩ (ym_nil)))))))))))) (q_nil))))))
  (q_scons (q_set (i:=3) sc_law_classes_right.nd (by rfl) (.inl (by rfl)) (q_op (o_add (by rfl)) c_add (q_var (pv 3)) (q_lst (q_cons (q_isx (by rfl) (by rfl) T.z_isinstance (q_var (pv 2)) (cls_name ⟨by rfl,by decide, .inl T.ca_NoPattern⟩) (ym_cons T.ca_NoPattern ⟨T.xi_NoPattern,(kit_own T.xd_NoPattern T.xs_NoPattern__NoPattern T.xs_NoPattern__NoPattern)⟩ (ym_nil)) (ym_cons T.ca_NoText ⟨T.xi_NoText,(kit_own T.xd_NoPattern T.xs_NoText__NoText T.xs_NoText__NoPattern)⟩ (ym_cons T.ca_NoBook ⟨T.xi_NoBook,(kit_own T.xd_NoPattern T.xs_NoBook__NoBook T.xs_NoBook__NoPattern)⟩ (ym_cons T.ca_Nothing ⟨T.xi_Nothing,(kit_own T.xd_NoPattern T.xs_Nothing__Nothing T.xs_Nothing__NoPattern)⟩ (ym_cons T.ca_NoFit ⟨T.xi_NoFit,(kit_own T.xd_NoPattern T.xs_NoFit__NoFit T.xs_NoFit__NoPattern)⟩ (ym_cons T.ca_NoWay ⟨T.xi_NoWay,(kit_own T.xd_NoPattern T.xs_NoWay__NoWay T.xs_NoWay__NoPattern)⟩ (ym_cons T.ca_NoLine ⟨T.xi_NoLine,(kit_own T.xd_NoPattern T.xs_NoLine__NoLine T.xs_NoLine__NoPattern)⟩ (ym_cons T.ca_NoPlace ⟨T.xi_NoPlace,(kit_own T.xd_NoPattern T.xs_NoPlace__NoPlace T.xs_NoPlace__NoPattern)⟩ (ym_cons T.ca_NoName ⟨T.xi_NoName,(kit_own T.xd_NoPattern T.xs_NoName__NoName T.xs_NoName__NoPattern)⟩ (ym_cons T.ca_NoNumber ⟨T.xi_NoNumber,(kit_own T.xd_NoPattern T.xs_NoNumber__NoNumber T.xs_NoNumber__NoPattern)⟩ (ym_cons T.ca_Untold ⟨T.xi_Untold,(kit_own T.xd_NoPattern T.xs_Untold__Untold T.xs_Untold__NoPattern)⟩ (ym_nil)))))))))))) (q_cons (q_isx (by rfl) (by rfl) T.z_isinstance (q_var (pv 2)) (cls_name ⟨by rfl,by decide, .inl T.ca_NoBook⟩) (ym_cons T.ca_NoBook ⟨T.xi_NoBook,(kit_own T.xd_NoBook T.xs_NoBook__NoBook T.xs_NoBook__NoBook)⟩ (ym_nil)) (ym_cons T.ca_NoText ⟨T.xi_NoText,(kit_own T.xd_NoBook T.xs_NoText__NoText T.xs_NoText__NoBook)⟩ (ym_cons T.ca_NoPattern ⟨T.xi_NoPattern,(kit_own T.xd_NoBook T.xs_NoPattern__NoPattern T.xs_NoPattern__NoBook)⟩ (ym_cons T.ca_Nothing ⟨T.xi_Nothing,(kit_own T.xd_NoBook T.xs_Nothing__Nothing T.xs_Nothing__NoBook)⟩ (ym_cons T.ca_NoFit ⟨T.xi_NoFit,(kit_own T.xd_NoBook T.xs_NoFit__NoFit T.xs_NoFit__NoBook)⟩ (ym_cons T.ca_NoWay ⟨T.xi_NoWay,(kit_own T.xd_NoBook T.xs_NoWay__NoWay T.xs_NoWay__NoBook)⟩ (ym_cons T.ca_NoLine ⟨T.xi_NoLine,(kit_own T.xd_NoBook T.xs_NoLine__NoLine T.xs_NoLine__NoBook)⟩ (ym_cons T.ca_NoPlace ⟨T.xi_NoPlace,(kit_own T.xd_NoBook T.xs_NoPlace__NoPlace T.xs_NoPlace__NoBook)⟩ (ym_cons T.ca_NoName ⟨T.xi_NoName,(kit_own T.xd_NoBook T.xs_NoName__NoName T.xs_NoName__NoBook)⟩ (ym_cons T.ca_NoNumber ⟨T.xi_NoNumber,(kit_own T.xd_NoBook T.xs_NoNumber__NoNumber T.xs_NoNumber__NoBook)⟩ (ym_cons T.ca_Untold ⟨T.xi_Untold,(kit_own T.xd_NoBook T.xs_Untold__Untold T.xs_Untold__NoBook)⟩ (ym_nil)))))))))))) (q_cons (q_isx (by rfl) (by rfl) T.z_isinstance (q_var (pv 2)) (cls_name ⟨by rfl,by decide, .inl T.ca_Nothing⟩) (ym_cons T.ca_Nothing ⟨T.xi_Nothing,(kit_own T.xd_Nothing T.xs_Nothing__Nothing T.xs_Nothing__Nothing)⟩ (ym_nil)) (ym_cons T.ca_NoText ⟨T.xi_NoText,(kit_own T.xd_Nothing T.xs_NoText__NoText T.xs_NoText__Nothing)⟩ (ym_cons T.ca_NoPattern ⟨T.xi_NoPattern,(kit_own T.xd_Nothing T.xs_NoPattern__NoPattern T.xs_NoPattern__Nothing)⟩ (ym_cons T.ca_NoBook ⟨T.xi_NoBook,(kit_own T.xd_Nothing T.xs_NoBook__NoBook T.xs_NoBook__Nothing)⟩ (ym_cons T.ca_NoFit ⟨T.xi_NoFit,(kit_own T.xd_Nothing T.xs_NoFit__NoFit T.xs_NoFit__Nothing)⟩ (ym_cons T.ca_NoWay ⟨T.xi_NoWay,(kit_own T.xd_Nothing T.xs_NoWay__NoWay T.xs_NoWay__Nothing)⟩ (ym_cons T.ca_NoLine ⟨T.xi_NoLine,(kit_own T.xd_Nothing T.xs_NoLine__NoLine T.xs_NoLine__Nothing)⟩ (ym_cons T.ca_NoPlace ⟨T.xi_NoPlace,(kit_own T.xd_Nothing T.xs_NoPlace__NoPlace T.xs_NoPlace__Nothing)⟩ (ym_cons T.ca_NoName ⟨T.xi_NoName,(kit_own T.xd_Nothing T.xs_NoName__NoName T.xs_NoName__Nothing)⟩ (ym_cons T.ca_NoNumber ⟨T.xi_NoNumber,(kit_own T.xd_Nothing T.xs_NoNumber__NoNumber T.xs_NoNumber__Nothing)⟩ (ym_cons T.ca_Untold ⟨T.xi_Untold,(kit_own T.xd_Nothing T.xs_Untold__Untold T.xs_Untold__Nothing)⟩ (ym_nil)))))))))))) (q_nil)))))))
  (q_scons (q_set (i:=3) sc_law_classes_right.nd (by rfl) (.inl (by rfl)) (q_op (o_add (by rfl)) c_add (q_var (pv 3)) (q_lst (q_cons (q_isx (by rfl) (by rfl) T.z_isinstance (q_var (pv 2)) (cls_name ⟨by rfl,by decide, .inl T.ca_NoFit⟩) (ym_cons T.ca_NoFit ⟨T.xi_NoFit,(kit_own T.xd_NoFit T.xs_NoFit__NoFit T.xs_NoFit__NoFit)⟩ (ym_nil)) (ym_cons T.ca_NoText ⟨T.xi_NoText,(kit_own T.xd_NoFit T.xs_NoText__NoText T.xs_NoText__NoFit)⟩ (ym_cons T.ca_NoPattern ⟨T.xi_NoPattern,(kit_own T.xd_NoFit T.xs_NoPattern__NoPattern T.xs_NoPattern__NoFit)⟩ (ym_cons T.ca_NoBook ⟨T.xi_NoBook,(kit_own T.xd_NoFit T.xs_NoBook__NoBook T.xs_NoBook__NoFit)⟩ (ym_cons T.ca_Nothing ⟨T.xi_Nothing,(kit_own T.xd_NoFit T.xs_Nothing__Nothing T.xs_Nothing__NoFit)⟩ (ym_cons T.ca_NoWay ⟨T.xi_NoWay,(kit_own T.xd_NoFit T.xs_NoWay__NoWay T.xs_NoWay__NoFit)⟩ (ym_cons T.ca_NoLine ⟨T.xi_NoLine,(kit_own T.xd_NoFit T.xs_NoLine__NoLine T.xs_NoLine__NoFit)⟩ (ym_cons T.ca_NoPlace ⟨T.xi_NoPlace,(kit_own T.xd_NoFit T.xs_NoPlace__NoPlace T.xs_NoPlace__NoFit)⟩ (ym_cons T.ca_NoName ⟨T.xi_NoName,(kit_own T.xd_NoFit T.xs_NoName__NoName T.xs_NoName__NoFit)⟩ (ym_cons T.ca_NoNumber ⟨T.xi_NoNumber,(kit_own T.xd_NoFit T.xs_NoNumber__NoNumber T.xs_NoNumber__NoFit)⟩ (ym_cons T.ca_Untold ⟨T.xi_Untold,(kit_own T.xd_NoFit T.xs_Untold__Untold T.xs_Untold__NoFit)⟩ (ym_nil)))))))))))) (q_cons (q_isx (by rfl) (by rfl) T.z_isinstance (q_var (pv 2)) (cls_name ⟨by rfl,by decide, .inl T.ca_NoPlace⟩) (ym_cons T.ca_NoPlace ⟨T.xi_NoPlace,(kit_own T.xd_NoPlace T.xs_NoPlace__NoPlace T.xs_NoPlace__NoPlace)⟩ (ym_nil)) (ym_cons T.ca_NoText ⟨T.xi_NoText,(kit_own T.xd_NoPlace T.xs_NoText__NoText T.xs_NoText__NoPlace)⟩ (ym_cons T.ca_NoPattern ⟨T.xi_NoPattern,(kit_own T.xd_NoPlace T.xs_NoPattern__NoPattern T.xs_NoPattern__NoPlace)⟩ (ym_cons T.ca_NoBook ⟨T.xi_NoBook,(kit_own T.xd_NoPlace T.xs_NoBook__NoBook T.xs_NoBook__NoPlace)⟩ (ym_cons T.ca_Nothing ⟨T.xi_Nothing,(kit_own T.xd_NoPlace T.xs_Nothing__Nothing T.xs_Nothing__NoPlace)⟩ (ym_cons T.ca_NoFit ⟨T.xi_NoFit,(kit_own T.xd_NoPlace T.xs_NoFit__NoFit T.xs_NoFit__NoPlace)⟩ (ym_cons T.ca_NoWay ⟨T.xi_NoWay,(kit_own T.xd_NoPlace T.xs_NoWay__NoWay T.xs_NoWay__NoPlace)⟩ (ym_cons T.ca_NoLine ⟨T.xi_NoLine,(kit_own T.xd_NoPlace T.xs_NoLine__NoLine T.xs_NoLine__NoPlace)⟩ (ym_cons T.ca_NoName ⟨T.xi_NoName,(kit_own T.xd_NoPlace T.xs_NoName__NoName T.xs_NoName__NoPlace)⟩ (ym_cons T.ca_NoNumber ⟨T.xi_NoNumber,(kit_own T.xd_NoPlace T.xs_NoNumber__NoNumber T.xs_NoNumber__NoPlace)⟩ (ym_cons T.ca_Untold ⟨T.xi_Untold,(kit_own T.xd_NoPlace T.xs_Untold__Untold T.xs_Untold__NoPlace)⟩ (ym_nil)))))))))))) (q_cons (q_isx (by rfl) (by rfl) T.z_isinstance (q_var (pv 2)) (cls_name ⟨by rfl,by decide, .inl T.ca_NoName⟩) (ym_cons T.ca_NoName ⟨T.xi_NoName,(kit_own T.xd_NoName T.xs_NoName__NoName T.xs_NoName__NoName)⟩ (ym_nil)) (ym_cons T.ca_NoText ⟨T.xi_NoText,(kit_own T.xd_NoName T.xs_NoText__NoText T.xs_NoText__NoName)⟩ (ym_cons T.ca_NoPattern ⟨T.xi_NoPattern,(kit_own T.xd_NoName T.xs_NoPattern__NoPattern T.xs_NoPattern__NoName)⟩ (ym_cons T.ca_NoBook ⟨T.xi_NoBook,(kit_own T.xd_NoName T.xs_NoBook__NoBook T.xs_NoBook__NoName)⟩ (ym_cons T.ca_Nothing ⟨T.xi_Nothing,(kit_own T.xd_NoName T.xs_Nothing__Nothing T.xs_Nothing__NoName)⟩ (ym_cons T.ca_NoFit ⟨T.xi_NoFit,(kit_own T.xd_NoName T.xs_NoFit__NoFit T.xs_NoFit__NoName)⟩ (ym_cons T.ca_NoWay ⟨T.xi_NoWay,(kit_own T.xd_NoName T.xs_NoWay__NoWay T.xs_NoWay__NoName)⟩ (ym_cons T.ca_NoLine ⟨T.xi_NoLine,(kit_own T.xd_NoName T.xs_NoLine__NoLine T.xs_NoLine__NoName)⟩ (ym_cons T.ca_NoPlace ⟨T.xi_NoPlace,(kit_own T.xd_NoName T.xs_NoPlace__NoPlace T.xs_NoPlace__NoName)⟩ (ym_cons T.ca_NoNumber ⟨T.xi_NoNumber,(kit_own T.xd_NoName T.xs_NoNumber__NoNumber T.xs_NoNumber__NoName)⟩ (ym_cons T.ca_Untold ⟨T.xi_Untold,(kit_own T.xd_NoName T.xs_Untold__Untold T.xs_Untold__NoName)⟩ (ym_nil)))))))))))) (q_nil)))))))
  (q_scons (q_set (i:=3) sc_law_classes_right.nd (by rfl) (.inl (by rfl)) (q_op (o_add (by rfl)) c_add (q_var (pv 3)) (q_lst (q_cons (q_isx (by rfl) (by rfl) T.z_isinstance (q_var (pv 2)) (cls_name ⟨by rfl,by decide, .inl T.ca_NoNumber⟩) (ym_cons T.ca_NoNumber ⟨T.xi_NoNumber,(kit_own T.xd_NoNumber T.xs_NoNumber__NoNumber T.xs_NoNumber__NoNumber)⟩ (ym_nil)) (ym_cons T.ca_NoText ⟨T.xi_NoText,(kit_own T.xd_NoNumber T.xs_NoText__NoText T.xs_NoText__NoNumber)⟩ (ym_cons T.ca_NoPattern ⟨T.xi_NoPattern,(kit_own T.xd_NoNumber T.xs_NoPattern__NoPattern T.xs_NoPattern__NoNumber)⟩ (ym_cons T.ca_NoBook ⟨T.xi_NoBook,(kit_own T.xd_NoNumber T.xs_NoBook__NoBook T.xs_NoBook__NoNumber)⟩ (ym_cons T.ca_Nothing ⟨T.xi_Nothing,(kit_own T.xd_NoNumber T.xs_Nothing__Nothing T.xs_Nothing__NoNumber)⟩ (ym_cons T.ca_NoFit ⟨T.xi_NoFit,(kit_own T.xd_NoNumber T.xs_NoFit__NoFit T.xs_NoFit__NoNumber)⟩ (ym_cons T.ca_NoWay ⟨T.xi_NoWay,(kit_own T.xd_NoNumber T.xs_NoWay__NoWay T.xs_NoWay__NoNumber)⟩ (ym_cons T.ca_NoLine ⟨T.xi_NoLine,(kit_own T.xd_NoNumber T.xs_NoLine__NoLine T.xs_NoLine__NoNumber)⟩ (ym_cons T.ca_NoPlace ⟨T.xi_NoPlace,(kit_own T.xd_NoNumber T.xs_NoPlace__NoPlace T.xs_NoPlace__NoNumber)⟩ (ym_cons T.ca_NoName ⟨T.xi_NoName,(kit_own T.xd_NoNumber T.xs_NoName__NoName T.xs_NoName__NoNumber)⟩ (ym_cons T.ca_Untold ⟨T.xi_Untold,(kit_own T.xd_NoNumber T.xs_Untold__Untold T.xs_Untold__NoNumber)⟩ (ym_nil)))))))))))) (q_cons (q_isx (by rfl) (by rfl) T.z_isinstance (q_var (pv 2)) (cls_name ⟨by rfl,by decide, .inl T.ca_Untold⟩) (ym_cons T.ca_Untold ⟨T.xi_Untold,(kit_own T.xd_Untold T.xs_Untold__Untold T.xs_Untold__Untold)⟩ (ym_nil)) (ym_cons T.ca_NoText ⟨T.xi_NoText,(kit_own T.xd_Untold T.xs_NoText__NoText T.xs_NoText__Untold)⟩ (ym_cons T.ca_NoPattern ⟨T.xi_NoPattern,(kit_own T.xd_Untold T.xs_NoPattern__NoPattern T.xs_NoPattern__Untold)⟩ (ym_cons T.ca_NoBook ⟨T.xi_NoBook,(kit_own T.xd_Untold T.xs_NoBook__NoBook T.xs_NoBook__Untold)⟩ (ym_cons T.ca_Nothing ⟨T.xi_Nothing,(kit_own T.xd_Untold T.xs_Nothing__Nothing T.xs_Nothing__Untold)⟩ (ym_cons T.ca_NoFit ⟨T.xi_NoFit,(kit_own T.xd_Untold T.xs_NoFit__NoFit T.xs_NoFit__Untold)⟩ (ym_cons T.ca_NoWay ⟨T.xi_NoWay,(kit_own T.xd_Untold T.xs_NoWay__NoWay T.xs_NoWay__Untold)⟩ (ym_cons T.ca_NoLine ⟨T.xi_NoLine,(kit_own T.xd_Untold T.xs_NoLine__NoLine T.xs_NoLine__Untold)⟩ (ym_cons T.ca_NoPlace ⟨T.xi_NoPlace,(kit_own T.xd_Untold T.xs_NoPlace__NoPlace T.xs_NoPlace__Untold)⟩ (ym_cons T.ca_NoName ⟨T.xi_NoName,(kit_own T.xd_Untold T.xs_NoName__NoName T.xs_NoName__Untold)⟩ (ym_cons T.ca_NoNumber ⟨T.xi_NoNumber,(kit_own T.xd_Untold T.xs_NoNumber__NoNumber T.xs_NoNumber__Untold)⟩ (ym_nil)))))))))))) (q_nil))))))
  (q_scons (q_if (q_tcmp (o_ne (by rfl) hr.units) c_ne (q_var (pv 3)) (q_lc (own:= [("_law_k",4)]) (by rfl) sc_law_classes_right.nd (q_range1 (by rfl) T.z_range (q_cons (q_int) (q_nil))) (blkOk_by (own:= [("_law_k",4)]) (N:=N_law_classes_right) (sc:=defScope s_law_classes_right) (by decide +kernel)) (fun _ _ _ _ _=>q_gnameW (pg_name (i:=4) sc_law_classes_right.nd (by rfl) (.inl (by rfl))) (by decide)) (fun _ _ _ _ _=>q_tnil) (fun _ _ _ _ _=>q_cmp (o_eq (by rfl) hr.units) c_eq (q_var (pv 4)) (q_var (pv 1)) (nomark _))) (nomark _)) (q_sone (q_ret (q_bl))) (q_snil))
  (q_scons (q_set (i:=5) sc_law_classes_right.nd (by rfl) (.inl (by rfl)) (q_lst (q_cons (q_isx (by rfl) (by rfl) T.z_isinstance (q_var (pv 2)) (cls_name ⟨by rfl,by decide, .inl T.ca_Refused⟩) (ym_cons T.ca_NoText ⟨T.xi_NoText,(kit_own T.xd_Refused T.xs_NoText__NoText T.xs_NoText__Refused)⟩ (ym_cons T.ca_NoPattern ⟨T.xi_NoPattern,(kit_own T.xd_Refused T.xs_NoPattern__NoPattern T.xs_NoPattern__Refused)⟩ (ym_cons T.ca_NoBook ⟨T.xi_NoBook,(kit_own T.xd_Refused T.xs_NoBook__NoBook T.xs_NoBook__Refused)⟩ (ym_cons T.ca_Nothing ⟨T.xi_Nothing,(kit_own T.xd_Refused T.xs_Nothing__Nothing T.xs_Nothing__Refused)⟩ (ym_cons T.ca_NoFit ⟨T.xi_NoFit,(kit_own T.xd_Refused T.xs_NoFit__NoFit T.xs_NoFit__Refused)⟩ (ym_cons T.ca_NoWay ⟨T.xi_NoWay,(kit_own T.xd_Refused T.xs_NoWay__NoWay T.xs_NoWay__Refused)⟩ (ym_cons T.ca_NoLine ⟨T.xi_NoLine,(kit_own T.xd_Refused T.xs_NoLine__NoLine T.xs_NoLine__Refused)⟩ (ym_nil)))))))) (ym_cons T.ca_NoPlace ⟨T.xi_NoPlace,(kit_own T.xd_Refused T.xs_NoPlace__NoPlace T.xs_NoPlace__Refused)⟩ (ym_cons T.ca_NoName ⟨T.xi_NoName,(kit_own T.xd_Refused T.xs_NoName__NoName T.xs_NoName__Refused)⟩ (ym_cons T.ca_NoNumber ⟨T.xi_NoNumber,(kit_own T.xd_Refused T.xs_NoNumber__NoNumber T.xs_NoNumber__Refused)⟩ (ym_cons T.ca_Untold ⟨T.xi_Untold,(kit_own T.xd_Refused T.xs_Untold__Untold T.xs_Untold__Refused)⟩ (ym_nil)))))) (q_cons (q_isx (by rfl) (by rfl) T.z_isinstance (q_var (pv 2)) (cls_name ⟨by rfl,by decide, .inl T.ca_Missing⟩) (ym_cons T.ca_NoPlace ⟨T.xi_NoPlace,(kit_own T.xd_Missing T.xs_NoPlace__NoPlace T.xs_NoPlace__Missing)⟩ (ym_cons T.ca_NoName ⟨T.xi_NoName,(kit_own T.xd_Missing T.xs_NoName__NoName T.xs_NoName__Missing)⟩ (ym_cons T.ca_NoNumber ⟨T.xi_NoNumber,(kit_own T.xd_Missing T.xs_NoNumber__NoNumber T.xs_NoNumber__Missing)⟩ (ym_nil)))) (ym_cons T.ca_NoText ⟨T.xi_NoText,(kit_own T.xd_Missing T.xs_NoText__NoText T.xs_NoText__Missing)⟩ (ym_cons T.ca_NoPattern ⟨T.xi_NoPattern,(kit_own T.xd_Missing T.xs_NoPattern__NoPattern T.xs_NoPattern__Missing)⟩ (ym_cons T.ca_NoBook ⟨T.xi_NoBook,(kit_own T.xd_Missing T.xs_NoBook__NoBook T.xs_NoBook__Missing)⟩ (ym_cons T.ca_Nothing ⟨T.xi_Nothing,(kit_own T.xd_Missing T.xs_Nothing__Nothing T.xs_Nothing__Missing)⟩ (ym_cons T.ca_NoFit ⟨T.xi_NoFit,(kit_own T.xd_Missing T.xs_NoFit__NoFit T.xs_NoFit__Missing)⟩ (ym_cons T.ca_NoWay ⟨T.xi_NoWay,(kit_own T.xd_Missing T.xs_NoWay__NoWay T.xs_NoWay__Missing)⟩ (ym_cons T.ca_NoLine ⟨T.xi_NoLine,(kit_own T.xd_Missing T.xs_NoLine__NoLine T.xs_NoLine__Missing)⟩ (ym_cons T.ca_Untold ⟨T.xi_Untold,(kit_own T.xd_Missing T.xs_Untold__Untold T.xs_Untold__Missing)⟩ (ym_nil)))))))))) (q_cons (q_isx (by rfl) (by rfl) T.z_isinstance (q_var (pv 2)) (cls_name ⟨by rfl,by decide, .inl T.ca_Halted⟩) (ym_cons T.ca_Untold ⟨T.xi_Untold,(kit_own T.xd_Halted T.xs_Untold__Untold T.xs_Untold__Halted)⟩ (ym_nil)) (ym_cons T.ca_NoText ⟨T.xi_NoText,(kit_own T.xd_Halted T.xs_NoText__NoText T.xs_NoText__Halted)⟩ (ym_cons T.ca_NoPattern ⟨T.xi_NoPattern,(kit_own T.xd_Halted T.xs_NoPattern__NoPattern T.xs_NoPattern__Halted)⟩ (ym_cons T.ca_NoBook ⟨T.xi_NoBook,(kit_own T.xd_Halted T.xs_NoBook__NoBook T.xs_NoBook__Halted)⟩ (ym_cons T.ca_Nothing ⟨T.xi_Nothing,(kit_own T.xd_Halted T.xs_Nothing__Nothing T.xs_Nothing__Halted)⟩ (ym_cons T.ca_NoFit ⟨T.xi_NoFit,(kit_own T.xd_Halted T.xs_NoFit__NoFit T.xs_NoFit__Halted)⟩ (ym_cons T.ca_NoWay ⟨T.xi_NoWay,(kit_own T.xd_Halted T.xs_NoWay__NoWay T.xs_NoWay__Halted)⟩ (ym_cons T.ca_NoLine ⟨T.xi_NoLine,(kit_own T.xd_Halted T.xs_NoLine__NoLine T.xs_NoLine__Halted)⟩ (ym_cons T.ca_NoPlace ⟨T.xi_NoPlace,(kit_own T.xd_Halted T.xs_NoPlace__NoPlace T.xs_NoPlace__Halted)⟩ (ym_cons T.ca_NoName ⟨T.xi_NoName,(kit_own T.xd_Halted T.xs_NoName__NoName T.xs_NoName__Halted)⟩ (ym_cons T.ca_NoNumber ⟨T.xi_NoNumber,(kit_own T.xd_Halted T.xs_NoNumber__NoNumber T.xs_NoNumber__Halted)⟩ (ym_nil)))))))))))) (q_nil))))))
  (q_scons (q_set (i:=6) sc_law_classes_right.nd (by rfl) (.inl (by rfl)) (q_lst (q_cons (q_isx (by rfl) (by rfl) T.z_isinstance (q_var (pv 2)) (cls_name ⟨by rfl,by decide, .inr ⟨T.z_ValueError,PyProof.Rows.Boot.«ValueError»,by decide⟩⟩) (ym_cons T.ca_NoText ⟨T.xi_NoText,(kit_blt (by decide +kernel) T.xs_NoText__ValueError)⟩ (ym_cons T.ca_NoPattern ⟨T.xi_NoPattern,(kit_blt (by decide +kernel) T.xs_NoPattern__ValueError)⟩ (ym_cons T.ca_NoBook ⟨T.xi_NoBook,(kit_blt (by decide +kernel) T.xs_NoBook__ValueError)⟩ (ym_cons T.ca_Nothing ⟨T.xi_Nothing,(kit_blt (by decide +kernel) T.xs_Nothing__ValueError)⟩ (ym_cons T.ca_NoFit ⟨T.xi_NoFit,(kit_blt (by decide +kernel) T.xs_NoFit__ValueError)⟩ (ym_cons T.ca_NoWay ⟨T.xi_NoWay,(kit_blt (by decide +kernel) T.xs_NoWay__ValueError)⟩ (ym_cons T.ca_NoLine ⟨T.xi_NoLine,(kit_blt (by decide +kernel) T.xs_NoLine__ValueError)⟩ (ym_nil)))))))) (ym_cons T.ca_NoPlace ⟨T.xi_NoPlace,(kit_blt (by decide +kernel) T.xs_NoPlace__ValueError)⟩ (ym_cons T.ca_NoName ⟨T.xi_NoName,(kit_blt (by decide +kernel) T.xs_NoName__ValueError)⟩ (ym_cons T.ca_NoNumber ⟨T.xi_NoNumber,(kit_blt (by decide +kernel) T.xs_NoNumber__ValueError)⟩ (ym_cons T.ca_Untold ⟨T.xi_Untold,(kit_blt (by decide +kernel) T.xs_Untold__ValueError)⟩ (ym_nil)))))) (q_cons (q_isx (by rfl) (by rfl) T.z_isinstance (q_var (pv 2)) (cls_name ⟨by rfl,by decide, .inr ⟨T.z_LookupError,PyProof.Rows.Boot.«LookupError»,by decide⟩⟩) (ym_cons T.ca_NoPlace ⟨T.xi_NoPlace,(kit_blt (by decide +kernel) T.xs_NoPlace__LookupError)⟩ (ym_cons T.ca_NoName ⟨T.xi_NoName,(kit_blt (by decide +kernel) T.xs_NoName__LookupError)⟩ (ym_cons T.ca_NoNumber ⟨T.xi_NoNumber,(kit_blt (by decide +kernel) T.xs_NoNumber__LookupError)⟩ (ym_nil)))) (ym_cons T.ca_NoText ⟨T.xi_NoText,(kit_blt (by decide +kernel) T.xs_NoText__LookupError)⟩ (ym_cons T.ca_NoPattern ⟨T.xi_NoPattern,(kit_blt (by decide +kernel) T.xs_NoPattern__LookupError)⟩ (ym_cons T.ca_NoBook ⟨T.xi_NoBook,(kit_blt (by decide +kernel) T.xs_NoBook__LookupError)⟩ (ym_cons T.ca_Nothing ⟨T.xi_Nothing,(kit_blt (by decide +kernel) T.xs_Nothing__LookupError)⟩ (ym_cons T.ca_NoFit ⟨T.xi_NoFit,(kit_blt (by decide +kernel) T.xs_NoFit__LookupError)⟩ (ym_cons T.ca_NoWay ⟨T.xi_NoWay,(kit_blt (by decide +kernel) T.xs_NoWay__LookupError)⟩ (ym_cons T.ca_NoLine ⟨T.xi_NoLine,(kit_blt (by decide +kernel) T.xs_NoLine__LookupError)⟩ (ym_cons T.ca_Untold ⟨T.xi_Untold,(kit_blt (by decide +kernel) T.xs_Untold__LookupError)⟩ (ym_nil)))))))))) (q_cons (q_isx (by rfl) (by rfl) T.z_isinstance (q_var (pv 2)) (cls_name ⟨by rfl,by decide, .inr ⟨T.z_RuntimeError,PyProof.Rows.Boot.«RuntimeError»,by decide⟩⟩) (ym_cons T.ca_Untold ⟨T.xi_Untold,(kit_blt (by decide +kernel) T.xs_Untold__RuntimeError)⟩ (ym_nil)) (ym_cons T.ca_NoText ⟨T.xi_NoText,(kit_blt (by decide +kernel) T.xs_NoText__RuntimeError)⟩ (ym_cons T.ca_NoPattern ⟨T.xi_NoPattern,(kit_blt (by decide +kernel) T.xs_NoPattern__RuntimeError)⟩ (ym_cons T.ca_NoBook ⟨T.xi_NoBook,(kit_blt (by decide +kernel) T.xs_NoBook__RuntimeError)⟩ (ym_cons T.ca_Nothing ⟨T.xi_Nothing,(kit_blt (by decide +kernel) T.xs_Nothing__RuntimeError)⟩ (ym_cons T.ca_NoFit ⟨T.xi_NoFit,(kit_blt (by decide +kernel) T.xs_NoFit__RuntimeError)⟩ (ym_cons T.ca_NoWay ⟨T.xi_NoWay,(kit_blt (by decide +kernel) T.xs_NoWay__RuntimeError)⟩ (ym_cons T.ca_NoLine ⟨T.xi_NoLine,(kit_blt (by decide +kernel) T.xs_NoLine__RuntimeError)⟩ (ym_cons T.ca_NoPlace ⟨T.xi_NoPlace,(kit_blt (by decide +kernel) T.xs_NoPlace__RuntimeError)⟩ (ym_cons T.ca_NoName ⟨T.xi_NoName,(kit_blt (by decide +kernel) T.xs_NoName__RuntimeError)⟩ (ym_cons T.ca_NoNumber ⟨T.xi_NoNumber,(kit_blt (by decide +kernel) T.xs_NoNumber__RuntimeError)⟩ (ym_nil)))))))))))) (q_nil))))))
  (q_scons (q_set (i:=7) sc_law_classes_right.nd (by rfl) (.inl (by rfl)) (q_lst (q_cons (q_cmp o_lt c_lt (q_var (pv 1)) (q_int) (nomark _)) (q_cons (q_chain o_le c_le o_lt c_lt (q_int) (q_var (pv 1)) (q_int)) (q_cons (q_cmp (o_eq (by rfl) hr.units) c_eq (q_var (pv 1)) (q_int) (nomark _)) (q_nil))))))
  (q_sone (q_if (q_tb (w_or (q_tcmp (o_ne (by rfl) hr.units) c_ne (q_var (pv 5)) (q_var (pv 7)) (nomark _)) (w_or1 (q_tcmp (o_ne (by rfl) hr.units) c_ne (q_var (pv 6)) (q_var (pv 7)) (nomark _))))) (q_sone (q_ret (q_bl))) (q_snil))))))))))))
  (q_sone (q_ret (q_bl)))
theorem b_law_raised {P:Program} {K:PySem.W.Frag} {w:World} {mg:Str→Option Value} {base:Heap} {fa:Nat→Addr} {fd:Nat→FuncData} {F:Nat→FN} {k:Nat} (h1:1≤k) (hM:∃o,base.get? sysModules=some o) (T:Txt K w mg fa fd) (cdv:Value) (A:Around) (outer:List Env) (s:Shared) (H:Hp) (E:XK)
 (hrM:RoomG (k+1) (A.deeper (envOfC "_law_raised" (defScope s_law_raised) s.heap.objs.size (fa 6) cdv))):
 PSs (cxOf (L2.CX P w) P w K mg base N_law_raised "_law_raised" (defScope s_law_raised) (fa 6) cdv A outer s H E) (defBody s_law_raised) (tS ⟨K,w,mg⟩ (m_law_raised F) (WE0 E)):=
 have hr:=hrM.mono (Nat.le_succ _)
 have hr2:RoomG 2 _:=hrM.mono (Nat.succ_le_succ h1)
 q_sone (q_try rfl rfl sc_law_raised.nd rfl tk_body (fun Wt _ _ tkt pot=>q_scons (q_if (q_tcmp (o_eq (by rfl) hr.units) c_eq (q_var (pv 0)) (q_int) (nomark _)) (q_sone (q_raise1 (k:=1) (T.x1_NoWay P base) hr2 (by rfl) (by rfl) (by rfl) tkt (by rfl) (q_var (pv 2)))) (q_snil))
  (q_scons (q_if (q_tcmp (o_eq (by rfl) hr.units) c_eq (q_var (pv 0)) (q_int) (nomark _)) (q_sone (q_raise1 (k:=1) (T.x1_NoNumber P base) hr2 (by rfl) (by rfl) (by rfl) tkt (by rfl) (q_var (pv 1)))) (q_snil))
  (q_sone (q_raise1 (k:=1) (T.x1_Untold P base) hr2 (by rfl) (by rfl) (by rfl) tkt (by rfl) (q_var (pv 2)))))) (Hds.named (i:=3) (asks_name ⟨by rfl,by decide, .inl T.ca_Missing⟩) (by rfl) (by rfl) (ym_cons T.ca_NoPlace (exm_own T.xd_Missing T.xs_NoPlace__Missing) (ym_cons T.ca_NoName (exm_own T.xd_Missing T.xs_NoName__Missing) (ym_cons T.ca_NoNumber (exm_own T.xd_Missing T.xs_NoNumber__Missing) (ym_nil)))) (ym_cons T.ca_NoText (exm_own T.xd_Missing T.xs_NoText__Missing) (ym_cons T.ca_NoPattern (exm_own T.xd_Missing T.xs_NoPattern__Missing) (ym_cons T.ca_NoBook (exm_own T.xd_Missing T.xs_NoBook__Missing) (ym_cons T.ca_Nothing (exm_own T.xd_Missing T.xs_Nothing__Missing) (ym_cons T.ca_NoFit (exm_own T.xd_Missing T.xs_NoFit__Missing) (ym_cons T.ca_NoWay (exm_own T.xd_Missing T.xs_NoWay__Missing) (ym_cons T.ca_NoLine (exm_own T.xd_Missing T.xs_NoLine__Missing) (ym_cons T.ca_Untold (exm_own T.xd_Missing T.xs_Untold__Missing) (ym_nil))))))))) (fun _=>q_sone (q_ret (q_tup (q_cons (q_str) (q_cons (q_xf (by rfl) (q_var (pv 3)) (ym_cons T.ca_NoNumber ⟨T.xi_NoNumber,T.xn_NoNumber⟩ (ym_nil))) (q_nil)))))) (Hds.named (i:=3) (asks_name ⟨by rfl,by decide, .inl T.ca_Halted⟩) (by rfl) (by rfl) (ym_cons T.ca_Untold (exm_own T.xd_Halted T.xs_Untold__Halted) (ym_nil)) (ym_cons T.ca_NoText (exm_own T.xd_Halted T.xs_NoText__Halted) (ym_cons T.ca_NoPattern (exm_own T.xd_Halted T.xs_NoPattern__Halted) (ym_cons T.ca_NoBook (exm_own T.xd_Halted T.xs_NoBook__Halted) (ym_cons T.ca_Nothing (exm_own T.xd_Halted T.xs_Nothing__Halted) (ym_cons T.ca_NoFit (exm_own T.xd_Halted T.xs_NoFit__Halted) (ym_cons T.ca_NoWay (exm_own T.xd_Halted T.xs_NoWay__Halted) (ym_cons T.ca_NoLine (exm_own T.xd_Halted T.xs_NoLine__Halted) (ym_cons T.ca_NoPlace (exm_own T.xd_Halted T.xs_NoPlace__Halted) (ym_cons T.ca_NoName (exm_own T.xd_Halted T.xs_NoName__Halted) (ym_cons T.ca_NoNumber (exm_own T.xd_Halted T.xs_NoNumber__Halted) (ym_nil))))))))))) (fun _=>q_sone (q_ret (q_tup (q_cons (q_str) (q_cons (q_xf (by rfl) (q_var (pv 3)) (ym_cons T.ca_NoName ⟨T.xi_NoName,T.xn_NoName⟩ (ym_cons T.ca_Untold ⟨T.xi_Untold,T.xn_Untold⟩ (ym_nil)))) (q_nil)))))) (Hds.named (i:=3) (asks_name ⟨by rfl,by decide, .inl T.ca_Refused⟩) (by rfl) (by rfl) (ym_cons T.ca_NoText (exm_own T.xd_Refused T.xs_NoText__Refused) (ym_cons T.ca_NoPattern (exm_own T.xd_Refused T.xs_NoPattern__Refused) (ym_cons T.ca_NoBook (exm_own T.xd_Refused T.xs_NoBook__Refused) (ym_cons T.ca_Nothing (exm_own T.xd_Refused T.xs_Nothing__Refused) (ym_cons T.ca_NoFit (exm_own T.xd_Refused T.xs_NoFit__Refused) (ym_cons T.ca_NoWay (exm_own T.xd_Refused T.xs_NoWay__Refused) (ym_cons T.ca_NoLine (exm_own T.xd_Refused T.xs_NoLine__Refused) (ym_nil)))))))) (ym_cons T.ca_NoPlace (exm_own T.xd_Refused T.xs_NoPlace__Refused) (ym_cons T.ca_NoName (exm_own T.xd_Refused T.xs_NoName__Refused) (ym_cons T.ca_NoNumber (exm_own T.xd_Refused T.xs_NoNumber__Refused) (ym_cons T.ca_Untold (exm_own T.xd_Refused T.xs_Untold__Refused) (ym_nil))))) (fun _=>q_sone (q_ret (q_tup (q_cons (q_str) (q_cons (q_xf (by rfl) (q_var (pv 3)) (ym_cons T.ca_NoWay ⟨T.xi_NoWay,T.xn_NoWay⟩ (ym_nil))) (q_nil)))))) (Hds.nil)))))
theorem b_law {P:Program} {K:PySem.W.Frag} {w:World} {mg:Str→Option Value} {base:Heap} {fa:Nat→Addr} {fd:Nat→FuncData} {F:Nat→FN} {k:Nat} (h1:1≤k) (hM:∃o,base.get? sysModules=some o) (T:Txt K w mg fa fd) (C_law_classes_right:Cal P w ⟨K,w,mg⟩ base k "_law_classes_right" (fa 5) (fd 5) ["_law_some"] (F 5)) (C_law_hand:Cal P w ⟨K,w,mg⟩ base k "_law_hand" (fa 0) (fd 0) ["_law_script","_law_k"] (F 0)) (C_law_made:Cal P w ⟨K,w,mg⟩ base k "_law_made" (fa 3) (fd 3) ["_law_many","_law_whom","_law_odd"] (F 3)) (C_law_pick:Cal P w ⟨K,w,mg⟩ base k "_law_pick" (fa 2) (fd 2) ["_law_hand_here","_law_some"] (F 2)) (C_law_raised:Cal P w ⟨K,w,mg⟩ base k "_law_raised" (fa 6) (fd 6) ["_law_which","_law_many","_law_whom"] (F 6)) (C_law_values_right:Cal P w ⟨K,w,mg⟩ base k "_law_values_right" (fa 4) (fd 4) ["_law_some","_law_many","_law_whom","_law_odd"] (F 4)) (cdv:Value) (A:Around) (outer:List Env) (s:Shared) (H:Hp) (E:XK)
 (hrM:RoomG (k+1) (A.deeper (envOfC "law" (defScope s_law) s.heap.objs.size (fa 7) cdv))):
 PSs (cxOf (L2.CX P w) P w K mg base N_law "law" (defScope s_law) (fa 7) cdv A outer s H E) (defBody s_law) (tS ⟨K,w,mg⟩ (m_law F) (WE0 E)):=
 have hr:=hrM.mono (Nat.le_succ _)
 have hr2:RoomG 2 _:=hrM.mono (Nat.succ_le_succ h1)
 q_scons (q_set (i:=1) sc_law.nd (by rfl) (.inl (by rfl)) (q_obj (q_nil)))
  (q_scons (q_for po_body (by rfl) (q_range1 (by rfl) T.z_range (q_cons (q_callB (o_max (by rfl)) c_max (by rfl) T.z_max b_max (q_cons (q_int) (q_cons (q_callB (o_min (by rfl)) c_min (by rfl) T.z_min b_min (q_cons (q_int) (q_cons (q_callB (o_len (by rfl)) c_len (by rfl) T.z_len b_len (q_cons (q_var (pv 0)) (q_nil))) (q_nil)))) (q_nil)))) (q_nil))) (q_gname (pg_name (i:=2) sc_law.nd (by rfl) (.inl (by rfl)))) (q_scons (q_set (i:=3) sc_law.nd (by rfl) (.inl (by rfl)) (q_fn C_law_hand T.bnd_law_hand hr (by rfl) (by rfl) (by rfl) tk_body (q_cons (q_var (pv 0)) (q_cons (q_var (pv 2)) (q_nil)))))
  (q_scons (q_asg (q_tup (q_cons (q_fn C_law_pick T.bnd_law_pick hr (by rfl) (by rfl) (by rfl) tk_body (q_cons (q_var (pv 3)) (q_cons (q_lst (q_cons (q_int) (q_cons (q_int) (q_cons (q_int) (q_cons (q_op o_pow c_pow (q_int) (q_int)) (q_cons (q_un o_neg c_neg (q_int)) (q_nil))))))) (q_nil)))) (q_cons (q_fn C_law_pick T.bnd_law_pick hr (by rfl) (by rfl) (by rfl) tk_body (q_cons (q_var (pv 3)) (q_cons (q_lst (q_cons (q_str) (q_cons (q_str) (q_cons (q_str) (q_cons (q_str) (q_cons (q_str) (q_nil))))))) (q_nil)))) (q_nil)))) (q_gtup (by rfl) (by rfl) (q_gscons (pg_name (i:=4) sc_law.nd (by rfl) (.inr (by rfl))) (q_gscons (pg_name (i:=5) sc_law.nd (by rfl) (.inr (by rfl))) (q_gsnil)))) (gn:=gn_tup))
  (q_scons (q_set (i:=6) sc_law.nd (by rfl) (.inl (by rfl)) (q_fn C_law_pick T.bnd_law_pick hr (by rfl) (by rfl) (by rfl) tk_body (q_cons (q_var (pv 3)) (q_cons (q_lst (q_cons (q_non) (q_cons (q_bl) (q_cons (q_tup (q_cons (q_int) (q_cons (q_int) (q_cons (q_int) (q_nil))))) (q_cons (q_tup (q_nil)) (q_cons (q_lst (q_cons (q_int) (q_nil))) (q_cons (q_str) (q_nil)))))))) (q_nil)))))
  (q_scons (q_for po_body (by rfl) (q_iter (by rfl) (q_fn C_law_made T.bnd_law_made hr (by rfl) (by rfl) (by rfl) tk_body (q_cons (q_var (pv 4)) (q_cons (q_var (pv 5)) (q_cons (q_var (pv 6)) (q_nil)))))) (q_gname (pg_name (i:=7) sc_law.nd (by rfl) (.inl (by rfl)))) (q_scons (q_if (q_tnot (q_truth (by rfl) (q_fn C_law_classes_right T.bnd_law_classes_right hr (by rfl) (by rfl) (by rfl) tk_body (q_cons (q_var (pv 7)) (q_nil))))) (q_sone (q_ret (q_bl))) (q_snil))
  (q_sone (q_expr (q_bm (by rfl) PySem.F.plainAttrs_list PySem.F.slot_list_append PySem.F.type_list_append o_append c_append (q_var (pv 1)) (q_cons (q_tup (q_cons (q_var (pv 7)) (q_cons (q_var (pv 4)) (q_cons (q_var (pv 5)) (q_cons (q_var (pv 6)) (q_nil)))))) (q_nil)))))))
  (q_scons (q_setLc (i:=8) (own:= [("_law_which",9)]) (by rfl) sc_law.nd (by rfl) (by rfl) (sw_true (by rfl) (by rfl) (by rfl) (by decide +kernel)) (q_range1 (by rfl) T.z_range (q_cons (q_int) (q_nil))) (blkOk_by (own:= [("_law_which",9)]) (N:=N_law) (sc:=defScope s_law) (by decide +kernel)) (fun _ _ _ _ _=>q_gnameW (pg_name (i:=9) sc_law.nd (by rfl) (.inl (by rfl))) (by decide)) (fun _ _ _ _ _=>q_tnil) (fun _ _ _ _ _=>q_fn C_law_raised T.bnd_law_raised hr (by rfl) (by rfl) (by rfl) tk_blk (q_cons (q_var (pv 9)) (q_cons (q_var (pv 4)) (q_cons (q_var (pv 5)) (q_nil))))))
  (q_sone (q_if (q_tcmp (o_ne (by rfl) hr.units) c_ne (q_var (pv 8)) (q_lst (q_cons (q_tup (q_cons (q_str) (q_cons (q_var (pv 5)) (q_nil)))) (q_cons (q_tup (q_cons (q_str) (q_cons (q_var (pv 4)) (q_nil)))) (q_cons (q_tup (q_cons (q_str) (q_cons (q_var (pv 5)) (q_nil)))) (q_nil))))) (nomark _)) (q_sone (q_ret (q_bl))) (q_snil)))))))))
  (q_sone (q_ret (q_callB (o_all (by rfl)) c_all (by rfl) T.z_all b_all (q_cons (q_lc (own:= [("_law_some",7),("_law_many",4),("_law_whom",5),("_law_odd",6)]) (by rfl) sc_law.nd (q_iter (by rfl) (q_frz (q_var (pv 1)))) (blkOk_by (own:= [("_law_some",7),("_law_many",4),("_law_whom",5),("_law_odd",6)]) (N:=N_law) (sc:=defScope s_law) (by decide +kernel)) (fun _ _ _ _ _=>q_gtupW (by rfl) (by rfl) (q_gscW (pg_name (i:=7) sc_law.nd (by rfl) (.inl (by rfl))) (q_gscW (pg_name (i:=4) sc_law.nd (by rfl) (.inl (by rfl))) (q_gscW (pg_name (i:=5) sc_law.nd (by rfl) (.inl (by rfl))) (q_gscW (pg_name (i:=6) sc_law.nd (by rfl) (.inl (by rfl))) (q_gsnW)))))) (fun _ _ _ _ _=>q_tnil) (fun _ _ _ _ _=>q_fn C_law_values_right T.bnd_law_values_right hr (by rfl) (by rfl) (by rfl) tk_blk (q_cons (q_var (pv 7)) (q_cons (q_var (pv 4)) (q_cons (q_var (pv 5)) (q_cons (q_var (pv 6)) (q_nil))))))) (q_nil))))))
structure Alls (P:Program) (K:PySem.W.Frag) (w:World) (mg:Str→Option Value) (base:Heap) (fa:Nat→Addr) (fd:Nat→FuncData) (k:Nat) (F:Nat→FN):Prop where
 c_law_hand:Cal P w ⟨K,w,mg⟩ base k "_law_hand" (fa 0) (fd 0) ["_law_script","_law_k"] (F 0)
 c_law_take:Cal P w ⟨K,w,mg⟩ base k "_law_take" (fa 1) (fd 1) ["_law_hand_here","_law_many"] (F 1)
 c_law_pick:Cal P w ⟨K,w,mg⟩ base k "_law_pick" (fa 2) (fd 2) ["_law_hand_here","_law_some"] (F 2)
 c_law_made:Cal P w ⟨K,w,mg⟩ base k "_law_made" (fa 3) (fd 3) ["_law_many","_law_whom","_law_odd"] (F 3)
 c_law_values_right:Cal P w ⟨K,w,mg⟩ base k "_law_values_right" (fa 4) (fd 4) ["_law_some","_law_many","_law_whom","_law_odd"] (F 4)
 c_law_classes_right:Cal P w ⟨K,w,mg⟩ base k "_law_classes_right" (fa 5) (fd 5) ["_law_some"] (F 5)
 c_law_raised:Cal P w ⟨K,w,mg⟩ base k "_law_raised" (fa 6) (fd 6) ["_law_which","_law_many","_law_whom"] (F 6)
 c_law:Cal P w ⟨K,w,mg⟩ base k "law" (fa 7) (fd 7) ["_law_script"] (F 7)
theorem all {P:Program} {K:PySem.W.Frag} {w:World} {mg:Str→Option Value} {base:Heap} {fa:Nat→Addr} {fd:Nat→FuncData} (hM:∃o,base.get? sysModules=some o) (T:Txt K w mg fa fd):∀k,Alls P K w mg base fa fd (lv k) (Fs k)
 |0=>⟨⟨fn_none,T.g_law_hand,T.F_law_hand.kp⟩,⟨fn_none,T.g_law_take,T.F_law_take.kp⟩,⟨fn_none,T.g_law_pick,T.F_law_pick.kp⟩,⟨fn_none,T.g_law_made,T.F_law_made.kp⟩,⟨fn_none,T.g_law_values_right,T.F_law_values_right.kp⟩,⟨fn_none,T.g_law_classes_right,T.F_law_classes_right.kp⟩,⟨fn_none,T.g_law_raised,T.F_law_raised.kp⟩,⟨fn_none,T.g_law,T.F_law.kp⟩⟩
 |k+1=>by
  have ih:=all (P:=P) (base:=base) hM T k
  exact⟨⟨fn_ok (G:=⟨K,w,mg⟩) T.F_law_hand sc_law_hand (b_law_hand (lv1 k) hM T),T.g_law_hand,T.F_law_hand.kp⟩,
   ⟨fn_ok (G:=⟨K,w,mg⟩) T.F_law_take sc_law_take (b_law_take (lv1 k) hM T),T.g_law_take,T.F_law_take.kp⟩,
   ⟨fn_ok (G:=⟨K,w,mg⟩) T.F_law_pick sc_law_pick (b_law_pick (lv1 k) hM T ih.c_law_take),T.g_law_pick,T.F_law_pick.kp⟩,
   ⟨fn_ok (G:=⟨K,w,mg⟩) T.F_law_made sc_law_made (b_law_made (lv1 k) hM T),T.g_law_made,T.F_law_made.kp⟩,
   ⟨fn_ok (G:=⟨K,w,mg⟩) T.F_law_values_right sc_law_values_right (b_law_values_right (lv1 k) hM T),T.g_law_values_right,T.F_law_values_right.kp⟩,
   ⟨fn_ok (G:=⟨K,w,mg⟩) T.F_law_classes_right sc_law_classes_right (b_law_classes_right (lv1 k) hM T),T.g_law_classes_right,T.F_law_classes_right.kp⟩,
   ⟨fn_ok (G:=⟨K,w,mg⟩) T.F_law_raised sc_law_raised (b_law_raised (lv1 k) hM T),T.g_law_raised,T.F_law_raised.kp⟩,
   ⟨fn_ok (G:=⟨K,w,mg⟩) T.F_law sc_law (b_law (lv1 k) hM T ih.c_law_classes_right ih.c_law_hand ih.c_law_made ih.c_law_pick ih.c_law_raised ih.c_law_values_right),T.g_law,T.F_law.kp⟩⟩
end K06
namespace K06
open PySem PySem.Spec PyProof.Rows L2 L3
def fdOf (d0:FuncData) (d1:FuncData) (d2:FuncData) (d3:FuncData) (d4:FuncData) (d5:FuncData) (d6:FuncData) (d7:FuncData) (d8:FuncData) (d9:FuncData) (d10:FuncData) (d11:FuncData) (d12:FuncData) (d13:FuncData) (d14:FuncData) (d15:FuncData) (d16:FuncData) (d17:FuncData) (d18:FuncData) (d19:FuncData) (d20:FuncData) (d21:FuncData) (d22:FuncData) (d23:FuncData) (d24:FuncData) (d25:FuncData) (d26:FuncData) (d27:FuncData) (d28:FuncData) (d29:FuncData) (d30:FuncData) (d31:FuncData) (d32:FuncData) (d33:FuncData) (d34:FuncData) (d35:FuncData):Nat→FuncData
 |0=>d0
 |1=>d1
 |2=>d2
 |3=>d3
 |4=>d4
 |5=>d5
 |6=>d6
 |7=>d7
 |8=>d8
 |9=>d9
 |10=>d10
 |11=>d11
 |12=>d12
 |13=>d13
 |14=>d14
 |15=>d15
 |16=>d16
 |17=>d17
 |18=>d18
 |19=>d19
 |20=>d20
 |21=>d21
 |22=>d22
 |23=>d23
 |24=>d24
 |25=>d25
 |26=>d26
 |27=>d27
 |28=>d28
 |29=>d29
 |30=>d30
 |31=>d31
 |32=>d32
 |33=>d33
 |34=>d34
 |35=>d35
 | _=>d0
theorem all_mk {l:PySem.W.OpenLaw} {w:World} {K:PySem.W.Frag} {h:Heap} {mg:Str→Option Value} {fa:Addr} (X:K.In h) (G:h.Ns mainGlobals mg) (hfa:mg "law" =some (.ref fa)) (TT:∀ns:List Int,ns.length≤63→∃S,Fs 70 7 [.scr ns] [] = .ok (.bl true) S)
 {X1 X2 X3 X4 X5 X6 X7 X8 X9 X10 X11 X12 X13 X14 f15 f25 f35 f45 f55 f65 f75 f85 f95 f105 f115 f125 f135 f145 f155:Addr}
 {od16 an17 od26 an27 od36 an37 od46 an47 od56 an57 od66 an67 od76 an77 od86 an87 od96 an97 od106 an107 od116 an117 od126 an127 od136 an137 od146 an147 od156 an157:Option Addr}
 {sl18 sl28 sl38 sl48 sl58 sl68 sl78 sl88 sl98 sl108 sl118 sl128 sl138 sl148 sl158:Array (Option Value)}
 {oc19 dc20 pm21 cd22 ct23 kV24 oc29 dc30 pm31 cd32 ct33 kV34 oc39 dc40 pm41 cd42 ct43 kV44 oc49 dc50 pm51 cd52 ct53 kV54 oc59 dc60 pm61 cd62 ct63 kV64 oc69 dc70 pm71 cd72 ct73 kV74 oc79 dc80 pm81 cd82 ct83 kV84 oc89 dc90 pm91 cd92 ct93 kV94 oc99 dc100 pm101 cd102 ct103 kV104 oc109 dc110 pm111 cd112 ct113 kV114 oc119 dc120 pm121 cd122 ct123 kV124 oc129 dc130 pm131 cd132 ct133 kV134 oc139 dc140 pm141 cd142 ct143 kV144 oc149 dc150 pm151 cd152 ct153 kV154 oc159 dc160 pm161 cd162 ct163 kV164:Value}
 (a_Halted:PySem.W.nsIn K mainGlobals "Halted" =some (some (.ref X1)))
 (sb_Halted:PySem.W.subIn K (.ref X1) (.type "BaseException")=some true)
 (hd_Halted:PySem.W.hasDictIn K X1=true)
 (ty_Halted:PySem.W.typeIn K (.ref X1)=some (.type "type"))
 (a_Missing:PySem.W.nsIn K mainGlobals "Missing" =some (some (.ref X2)))
 (sb_Missing:PySem.W.subIn K (.ref X2) (.type "BaseException")=some true)
 (hd_Missing:PySem.W.hasDictIn K X2=true)
 (ty_Missing:PySem.W.typeIn K (.ref X2)=some (.type "type"))
 (a_NoBook:PySem.W.nsIn K mainGlobals "NoBook" =some (some (.ref X3)))
 (sb_NoBook:PySem.W.subIn K (.ref X3) (.type "BaseException")=some true)
 (hd_NoBook:PySem.W.hasDictIn K X3=true)
 (ty_NoBook:PySem.W.typeIn K (.ref X3)=some (.type "type"))
 (kp_NoBook:PySem.W.keepIn K (.ref X3)=true)
 (ex_NoBook:PySem.W.excIn K X3 [.type "ValueError", .type "Exception", .type "BaseException", .type "object"] "ValueError.__new__" =true)
 (ga_NoBook:PySem.W.findIn K (.ref X3) "__getattribute__" =some (some (.builtin "BaseException.__getattribute__")))
 (gg_NoBook:PySem.W.findIn K (.ref X3) "__getattr__" =some none)
 (cl_NoBook:PySem.W.findIn K (.ref X3) "__class__" =some (some (.builtin "object.__class__")))
 (mr_NoBook:PySem.W.mroIn K X3 (.type "object")=some true)
 (a_NoFit:PySem.W.nsIn K mainGlobals "NoFit" =some (some (.ref X4)))
 (sb_NoFit:PySem.W.subIn K (.ref X4) (.type "BaseException")=some true)
 (hd_NoFit:PySem.W.hasDictIn K X4=true)
 (ty_NoFit:PySem.W.typeIn K (.ref X4)=some (.type "type"))
 (kp_NoFit:PySem.W.keepIn K (.ref X4)=true)
 (ex_NoFit:PySem.W.excIn K X4 [.type "ValueError", .type "Exception", .type "BaseException", .type "object"] "ValueError.__new__" =true)
 (ga_NoFit:PySem.W.findIn K (.ref X4) "__getattribute__" =some (some (.builtin "BaseException.__getattribute__")))
 (gg_NoFit:PySem.W.findIn K (.ref X4) "__getattr__" =some none)
 (cl_NoFit:PySem.W.findIn K (.ref X4) "__class__" =some (some (.builtin "object.__class__")))
 (mr_NoFit:PySem.W.mroIn K X4 (.type "object")=some true)
 (a_NoLine:PySem.W.nsIn K mainGlobals "NoLine" =some (some (.ref X5)))
 (sb_NoLine:PySem.W.subIn K (.ref X5) (.type "BaseException")=some true)
 (hd_NoLine:PySem.W.hasDictIn K X5=true)
 (ty_NoLine:PySem.W.typeIn K (.ref X5)=some (.type "type"))
 (kp_NoLine:PySem.W.keepIn K (.ref X5)=true)
 (in_NoLine:PySem.W.excInitIn K X5 [.type "ValueError", .type "Exception", .type "BaseException", .type "object"] "ValueError.__new__" =true)
 (ov_NoLine:PySem.W.excOver K X5 [.type "ValueError", .type "Exception", .type "BaseException", .type "object"] =true)
 (sa_NoLine:PySem.W.findIn K (.ref X5) "__setattr__" =some (some (.builtin "object.__setattr__")))
 (ga_NoLine:PySem.W.findIn K (.ref X5) "__getattribute__" =some (some (.builtin "BaseException.__getattribute__")))
 (gg_NoLine:PySem.W.findIn K (.ref X5) "__getattr__" =some none)
 (cl_NoLine:PySem.W.findIn K (.ref X5) "__class__" =some (some (.builtin "object.__class__")))
 (mr_NoLine:PySem.W.mroIn K X5 (.type "object")=some true)
 (xn_NoLine:PySem.W.findIn K (.ref X5) "line" =some none)
 (a_NoName:PySem.W.nsIn K mainGlobals "NoName" =some (some (.ref X6)))
 (sb_NoName:PySem.W.subIn K (.ref X6) (.type "BaseException")=some true)
 (hd_NoName:PySem.W.hasDictIn K X6=true)
 (ty_NoName:PySem.W.typeIn K (.ref X6)=some (.type "type"))
 (kp_NoName:PySem.W.keepIn K (.ref X6)=true)
 (in_NoName:PySem.W.excInitIn K X6 [.type "LookupError", .type "Exception", .type "BaseException", .type "object"] "LookupError.__new__" =true)
 (ov_NoName:PySem.W.excOver K X6 [.type "LookupError", .type "Exception", .type "BaseException", .type "object"] =true)
 (sa_NoName:PySem.W.findIn K (.ref X6) "__setattr__" =some (some (.builtin "object.__setattr__")))
 (ga_NoName:PySem.W.findIn K (.ref X6) "__getattribute__" =some (some (.builtin "BaseException.__getattribute__")))
 (gg_NoName:PySem.W.findIn K (.ref X6) "__getattr__" =some none)
 (cl_NoName:PySem.W.findIn K (.ref X6) "__class__" =some (some (.builtin "object.__class__")))
 (mr_NoName:PySem.W.mroIn K X6 (.type "object")=some true)
 (xn_NoName:PySem.W.findIn K (.ref X6) "name" =some none)
 (a_NoNumber:PySem.W.nsIn K mainGlobals "NoNumber" =some (some (.ref X7)))
 (sb_NoNumber:PySem.W.subIn K (.ref X7) (.type "BaseException")=some true)
 (hd_NoNumber:PySem.W.hasDictIn K X7=true)
 (ty_NoNumber:PySem.W.typeIn K (.ref X7)=some (.type "type"))
 (kp_NoNumber:PySem.W.keepIn K (.ref X7)=true)
 (in_NoNumber:PySem.W.excInitIn K X7 [.type "LookupError", .type "Exception", .type "BaseException", .type "object"] "LookupError.__new__" =true)
 (ov_NoNumber:PySem.W.excOver K X7 [.type "LookupError", .type "Exception", .type "BaseException", .type "object"] =true)
 (sa_NoNumber:PySem.W.findIn K (.ref X7) "__setattr__" =some (some (.builtin "object.__setattr__")))
 (ga_NoNumber:PySem.W.findIn K (.ref X7) "__getattribute__" =some (some (.builtin "BaseException.__getattribute__")))
 (gg_NoNumber:PySem.W.findIn K (.ref X7) "__getattr__" =some none)
 (cl_NoNumber:PySem.W.findIn K (.ref X7) "__class__" =some (some (.builtin "object.__class__")))
 (mr_NoNumber:PySem.W.mroIn K X7 (.type "object")=some true)
 (xn_NoNumber:PySem.W.findIn K (.ref X7) "number" =some none)
 (a_NoPattern:PySem.W.nsIn K mainGlobals "NoPattern" =some (some (.ref X8)))
 (sb_NoPattern:PySem.W.subIn K (.ref X8) (.type "BaseException")=some true)
 (hd_NoPattern:PySem.W.hasDictIn K X8=true)
 (ty_NoPattern:PySem.W.typeIn K (.ref X8)=some (.type "type"))
 (kp_NoPattern:PySem.W.keepIn K (.ref X8)=true)
 (ex_NoPattern:PySem.W.excIn K X8 [.type "ValueError", .type "Exception", .type "BaseException", .type "object"] "ValueError.__new__" =true)
 (ga_NoPattern:PySem.W.findIn K (.ref X8) "__getattribute__" =some (some (.builtin "BaseException.__getattribute__")))
 (gg_NoPattern:PySem.W.findIn K (.ref X8) "__getattr__" =some none)
 (cl_NoPattern:PySem.W.findIn K (.ref X8) "__class__" =some (some (.builtin "object.__class__")))
 (mr_NoPattern:PySem.W.mroIn K X8 (.type "object")=some true)
 (a_NoPlace:PySem.W.nsIn K mainGlobals "NoPlace" =some (some (.ref X9)))
 (sb_NoPlace:PySem.W.subIn K (.ref X9) (.type "BaseException")=some true)
 (hd_NoPlace:PySem.W.hasDictIn K X9=true)
 (ty_NoPlace:PySem.W.typeIn K (.ref X9)=some (.type "type"))
 (kp_NoPlace:PySem.W.keepIn K (.ref X9)=true)
 (in_NoPlace:PySem.W.excInitIn K X9 [.type "LookupError", .type "Exception", .type "BaseException", .type "object"] "LookupError.__new__" =true)
 (ov_NoPlace:PySem.W.excOver K X9 [.type "LookupError", .type "Exception", .type "BaseException", .type "object"] =true)
 (sa_NoPlace:PySem.W.findIn K (.ref X9) "__setattr__" =some (some (.builtin "object.__setattr__")))
 (ga_NoPlace:PySem.W.findIn K (.ref X9) "__getattribute__" =some (some (.builtin "BaseException.__getattribute__")))
 (gg_NoPlace:PySem.W.findIn K (.ref X9) "__getattr__" =some none)
 (cl_NoPlace:PySem.W.findIn K (.ref X9) "__class__" =some (some (.builtin "object.__class__")))
 (mr_NoPlace:PySem.W.mroIn K X9 (.type "object")=some true)
 (xn_NoPlace:PySem.W.findIn K (.ref X9) "place" =some none)
 (a_NoText:PySem.W.nsIn K mainGlobals "NoText" =some (some (.ref X10)))
 (sb_NoText:PySem.W.subIn K (.ref X10) (.type "BaseException")=some true)
 (hd_NoText:PySem.W.hasDictIn K X10=true)
 (ty_NoText:PySem.W.typeIn K (.ref X10)=some (.type "type"))
 (kp_NoText:PySem.W.keepIn K (.ref X10)=true)
 (in_NoText:PySem.W.excInitIn K X10 [.type "ValueError", .type "Exception", .type "BaseException", .type "object"] "ValueError.__new__" =true)
 (ov_NoText:PySem.W.excOver K X10 [.type "ValueError", .type "Exception", .type "BaseException", .type "object"] =true)
 (sa_NoText:PySem.W.findIn K (.ref X10) "__setattr__" =some (some (.builtin "object.__setattr__")))
 (ga_NoText:PySem.W.findIn K (.ref X10) "__getattribute__" =some (some (.builtin "BaseException.__getattribute__")))
 (gg_NoText:PySem.W.findIn K (.ref X10) "__getattr__" =some none)
 (cl_NoText:PySem.W.findIn K (.ref X10) "__class__" =some (some (.builtin "object.__class__")))
 (mr_NoText:PySem.W.mroIn K X10 (.type "object")=some true)
 (xn_NoText:PySem.W.findIn K (.ref X10) "at" =some none)
 (a_NoWay:PySem.W.nsIn K mainGlobals "NoWay" =some (some (.ref X11)))
 (sb_NoWay:PySem.W.subIn K (.ref X11) (.type "BaseException")=some true)
 (hd_NoWay:PySem.W.hasDictIn K X11=true)
 (ty_NoWay:PySem.W.typeIn K (.ref X11)=some (.type "type"))
 (kp_NoWay:PySem.W.keepIn K (.ref X11)=true)
 (in_NoWay:PySem.W.excInitIn K X11 [.type "ValueError", .type "Exception", .type "BaseException", .type "object"] "ValueError.__new__" =true)
 (ov_NoWay:PySem.W.excOver K X11 [.type "ValueError", .type "Exception", .type "BaseException", .type "object"] =true)
 (sa_NoWay:PySem.W.findIn K (.ref X11) "__setattr__" =some (some (.builtin "object.__setattr__")))
 (ga_NoWay:PySem.W.findIn K (.ref X11) "__getattribute__" =some (some (.builtin "BaseException.__getattribute__")))
 (gg_NoWay:PySem.W.findIn K (.ref X11) "__getattr__" =some none)
 (cl_NoWay:PySem.W.findIn K (.ref X11) "__class__" =some (some (.builtin "object.__class__")))
 (mr_NoWay:PySem.W.mroIn K X11 (.type "object")=some true)
 (xn_NoWay:PySem.W.findIn K (.ref X11) "why" =some none)
 (a_Nothing:PySem.W.nsIn K mainGlobals "Nothing" =some (some (.ref X12)))
 (sb_Nothing:PySem.W.subIn K (.ref X12) (.type "BaseException")=some true)
 (hd_Nothing:PySem.W.hasDictIn K X12=true)
 (ty_Nothing:PySem.W.typeIn K (.ref X12)=some (.type "type"))
 (kp_Nothing:PySem.W.keepIn K (.ref X12)=true)
 (ex_Nothing:PySem.W.excIn K X12 [.type "ValueError", .type "Exception", .type "BaseException", .type "object"] "ValueError.__new__" =true)
 (ga_Nothing:PySem.W.findIn K (.ref X12) "__getattribute__" =some (some (.builtin "BaseException.__getattribute__")))
 (gg_Nothing:PySem.W.findIn K (.ref X12) "__getattr__" =some none)
 (cl_Nothing:PySem.W.findIn K (.ref X12) "__class__" =some (some (.builtin "object.__class__")))
 (mr_Nothing:PySem.W.mroIn K X12 (.type "object")=some true)
 (a_Refused:PySem.W.nsIn K mainGlobals "Refused" =some (some (.ref X13)))
 (sb_Refused:PySem.W.subIn K (.ref X13) (.type "BaseException")=some true)
 (hd_Refused:PySem.W.hasDictIn K X13=true)
 (ty_Refused:PySem.W.typeIn K (.ref X13)=some (.type "type"))
 (a_Untold:PySem.W.nsIn K mainGlobals "Untold" =some (some (.ref X14)))
 (sb_Untold:PySem.W.subIn K (.ref X14) (.type "BaseException")=some true)
 (hd_Untold:PySem.W.hasDictIn K X14=true)
 (ty_Untold:PySem.W.typeIn K (.ref X14)=some (.type "type"))
 (kp_Untold:PySem.W.keepIn K (.ref X14)=true)
 (in_Untold:PySem.W.excInitIn K X14 [.type "RuntimeError", .type "Exception", .type "BaseException", .type "object"] "RuntimeError.__new__" =true)
 (ov_Untold:PySem.W.excOver K X14 [.type "RuntimeError", .type "Exception", .type "BaseException", .type "object"] =true)
 (sa_Untold:PySem.W.findIn K (.ref X14) "__setattr__" =some (some (.builtin "object.__setattr__")))
 (ga_Untold:PySem.W.findIn K (.ref X14) "__getattribute__" =some (some (.builtin "BaseException.__getattribute__")))
 (gg_Untold:PySem.W.findIn K (.ref X14) "__getattr__" =some none)
 (cl_Untold:PySem.W.findIn K (.ref X14) "__class__" =some (some (.builtin "object.__class__")))
 (mr_Untold:PySem.W.mroIn K X14 (.type "object")=some true)
 (xn_Untold:PySem.W.findIn K (.ref X14) "name" =some none)
 (sp_class:PySem.W.specialIn K (.builtin "object.__class__") "__get__" =some (some (.builtin "getset_descriptor.__get__")))
 (tk_class:PySem.W.takesIn K (.builtin "object.__class__")=some true)
 (xs_NoBook__Halted:PySem.W.subIn K (.ref X3) (.ref X1)=some false)
 (xs_NoBook__LookupError:PySem.W.subIn K (.ref X3) (.type "LookupError")=some false)
 (xs_NoBook__Missing:PySem.W.subIn K (.ref X3) (.ref X2)=some false)
 (xs_NoBook__NoBook:PySem.W.subIn K (.ref X3) (.ref X3)=some true)
 (xs_NoBook__NoFit:PySem.W.subIn K (.ref X3) (.ref X4)=some false)
 (xs_NoBook__NoLine:PySem.W.subIn K (.ref X3) (.ref X5)=some false)
 (xs_NoBook__NoName:PySem.W.subIn K (.ref X3) (.ref X6)=some false)
 (xs_NoBook__NoNumber:PySem.W.subIn K (.ref X3) (.ref X7)=some false)
 (xs_NoBook__NoPattern:PySem.W.subIn K (.ref X3) (.ref X8)=some false)
 (xs_NoBook__NoPlace:PySem.W.subIn K (.ref X3) (.ref X9)=some false)
 (xs_NoBook__NoText:PySem.W.subIn K (.ref X3) (.ref X10)=some false)
 (xs_NoBook__NoWay:PySem.W.subIn K (.ref X3) (.ref X11)=some false)
 (xs_NoBook__Nothing:PySem.W.subIn K (.ref X3) (.ref X12)=some false)
 (xs_NoBook__Refused:PySem.W.subIn K (.ref X3) (.ref X13)=some true)
 (xs_NoBook__RuntimeError:PySem.W.subIn K (.ref X3) (.type "RuntimeError")=some false)
 (xs_NoBook__Untold:PySem.W.subIn K (.ref X3) (.ref X14)=some false)
 (xs_NoBook__ValueError:PySem.W.subIn K (.ref X3) (.type "ValueError")=some true)
 (xs_NoFit__Halted:PySem.W.subIn K (.ref X4) (.ref X1)=some false)
 (xs_NoFit__LookupError:PySem.W.subIn K (.ref X4) (.type "LookupError")=some false)
 (xs_NoFit__Missing:PySem.W.subIn K (.ref X4) (.ref X2)=some false)
 (xs_NoFit__NoBook:PySem.W.subIn K (.ref X4) (.ref X3)=some false)
 (xs_NoFit__NoFit:PySem.W.subIn K (.ref X4) (.ref X4)=some true)
 (xs_NoFit__NoLine:PySem.W.subIn K (.ref X4) (.ref X5)=some false)
 (xs_NoFit__NoName:PySem.W.subIn K (.ref X4) (.ref X6)=some false)
 (xs_NoFit__NoNumber:PySem.W.subIn K (.ref X4) (.ref X7)=some false)
 (xs_NoFit__NoPattern:PySem.W.subIn K (.ref X4) (.ref X8)=some false)
 (xs_NoFit__NoPlace:PySem.W.subIn K (.ref X4) (.ref X9)=some false)
 (xs_NoFit__NoText:PySem.W.subIn K (.ref X4) (.ref X10)=some false)
 (xs_NoFit__NoWay:PySem.W.subIn K (.ref X4) (.ref X11)=some false)
 (xs_NoFit__Nothing:PySem.W.subIn K (.ref X4) (.ref X12)=some false)
 (xs_NoFit__Refused:PySem.W.subIn K (.ref X4) (.ref X13)=some true)
 (xs_NoFit__RuntimeError:PySem.W.subIn K (.ref X4) (.type "RuntimeError")=some false)
 (xs_NoFit__Untold:PySem.W.subIn K (.ref X4) (.ref X14)=some false)
 (xs_NoFit__ValueError:PySem.W.subIn K (.ref X4) (.type "ValueError")=some true)
 (xs_NoLine__Halted:PySem.W.subIn K (.ref X5) (.ref X1)=some false)
 (xs_NoLine__LookupError:PySem.W.subIn K (.ref X5) (.type "LookupError")=some false)
 (xs_NoLine__Missing:PySem.W.subIn K (.ref X5) (.ref X2)=some false)
 (xs_NoLine__NoBook:PySem.W.subIn K (.ref X5) (.ref X3)=some false)
 (xs_NoLine__NoFit:PySem.W.subIn K (.ref X5) (.ref X4)=some false)
 (xs_NoLine__NoLine:PySem.W.subIn K (.ref X5) (.ref X5)=some true)
 (xs_NoLine__NoName:PySem.W.subIn K (.ref X5) (.ref X6)=some false)
 (xs_NoLine__NoNumber:PySem.W.subIn K (.ref X5) (.ref X7)=some false)
 (xs_NoLine__NoPattern:PySem.W.subIn K (.ref X5) (.ref X8)=some false)
 (xs_NoLine__NoPlace:PySem.W.subIn K (.ref X5) (.ref X9)=some false)
 (xs_NoLine__NoText:PySem.W.subIn K (.ref X5) (.ref X10)=some false)
 (xs_NoLine__NoWay:PySem.W.subIn K (.ref X5) (.ref X11)=some false)
 (xs_NoLine__Nothing:PySem.W.subIn K (.ref X5) (.ref X12)=some false)
 (xs_NoLine__Refused:PySem.W.subIn K (.ref X5) (.ref X13)=some true)
 (xs_NoLine__RuntimeError:PySem.W.subIn K (.ref X5) (.type "RuntimeError")=some false)
 (xs_NoLine__Untold:PySem.W.subIn K (.ref X5) (.ref X14)=some false)
 (xs_NoLine__ValueError:PySem.W.subIn K (.ref X5) (.type "ValueError")=some true)
 (xs_NoName__Halted:PySem.W.subIn K (.ref X6) (.ref X1)=some false)
 (xs_NoName__LookupError:PySem.W.subIn K (.ref X6) (.type "LookupError")=some true)
 (xs_NoName__Missing:PySem.W.subIn K (.ref X6) (.ref X2)=some true)
 (xs_NoName__NoBook:PySem.W.subIn K (.ref X6) (.ref X3)=some false)
 (xs_NoName__NoFit:PySem.W.subIn K (.ref X6) (.ref X4)=some false)
 (xs_NoName__NoLine:PySem.W.subIn K (.ref X6) (.ref X5)=some false)
 (xs_NoName__NoName:PySem.W.subIn K (.ref X6) (.ref X6)=some true)
 (xs_NoName__NoNumber:PySem.W.subIn K (.ref X6) (.ref X7)=some false)
 (xs_NoName__NoPattern:PySem.W.subIn K (.ref X6) (.ref X8)=some false)
 (xs_NoName__NoPlace:PySem.W.subIn K (.ref X6) (.ref X9)=some false)
 (xs_NoName__NoText:PySem.W.subIn K (.ref X6) (.ref X10)=some false)
 (xs_NoName__NoWay:PySem.W.subIn K (.ref X6) (.ref X11)=some false)
 (xs_NoName__Nothing:PySem.W.subIn K (.ref X6) (.ref X12)=some false)
 (xs_NoName__Refused:PySem.W.subIn K (.ref X6) (.ref X13)=some false)
 (xs_NoName__RuntimeError:PySem.W.subIn K (.ref X6) (.type "RuntimeError")=some false)
 (xs_NoName__Untold:PySem.W.subIn K (.ref X6) (.ref X14)=some false)
 (xs_NoName__ValueError:PySem.W.subIn K (.ref X6) (.type "ValueError")=some false)
 (xs_NoNumber__Halted:PySem.W.subIn K (.ref X7) (.ref X1)=some false)
 (xs_NoNumber__LookupError:PySem.W.subIn K (.ref X7) (.type "LookupError")=some true)
 (xs_NoNumber__Missing:PySem.W.subIn K (.ref X7) (.ref X2)=some true)
 (xs_NoNumber__NoBook:PySem.W.subIn K (.ref X7) (.ref X3)=some false)
 (xs_NoNumber__NoFit:PySem.W.subIn K (.ref X7) (.ref X4)=some false)
 (xs_NoNumber__NoLine:PySem.W.subIn K (.ref X7) (.ref X5)=some false)
 (xs_NoNumber__NoName:PySem.W.subIn K (.ref X7) (.ref X6)=some false)
 (xs_NoNumber__NoNumber:PySem.W.subIn K (.ref X7) (.ref X7)=some true)
 (xs_NoNumber__NoPattern:PySem.W.subIn K (.ref X7) (.ref X8)=some false)
 (xs_NoNumber__NoPlace:PySem.W.subIn K (.ref X7) (.ref X9)=some false)
 (xs_NoNumber__NoText:PySem.W.subIn K (.ref X7) (.ref X10)=some false)
 (xs_NoNumber__NoWay:PySem.W.subIn K (.ref X7) (.ref X11)=some false)
 (xs_NoNumber__Nothing:PySem.W.subIn K (.ref X7) (.ref X12)=some false)
 (xs_NoNumber__Refused:PySem.W.subIn K (.ref X7) (.ref X13)=some false)
 (xs_NoNumber__RuntimeError:PySem.W.subIn K (.ref X7) (.type "RuntimeError")=some false)
 (xs_NoNumber__Untold:PySem.W.subIn K (.ref X7) (.ref X14)=some false)
 (xs_NoNumber__ValueError:PySem.W.subIn K (.ref X7) (.type "ValueError")=some false)
 (xs_NoPattern__Halted:PySem.W.subIn K (.ref X8) (.ref X1)=some false)
 (xs_NoPattern__LookupError:PySem.W.subIn K (.ref X8) (.type "LookupError")=some false)
 (xs_NoPattern__Missing:PySem.W.subIn K (.ref X8) (.ref X2)=some false)
 (xs_NoPattern__NoBook:PySem.W.subIn K (.ref X8) (.ref X3)=some false)
 (xs_NoPattern__NoFit:PySem.W.subIn K (.ref X8) (.ref X4)=some false)
 (xs_NoPattern__NoLine:PySem.W.subIn K (.ref X8) (.ref X5)=some false)
 (xs_NoPattern__NoName:PySem.W.subIn K (.ref X8) (.ref X6)=some false)
 (xs_NoPattern__NoNumber:PySem.W.subIn K (.ref X8) (.ref X7)=some false)
 (xs_NoPattern__NoPattern:PySem.W.subIn K (.ref X8) (.ref X8)=some true)
 (xs_NoPattern__NoPlace:PySem.W.subIn K (.ref X8) (.ref X9)=some false)
 (xs_NoPattern__NoText:PySem.W.subIn K (.ref X8) (.ref X10)=some false)
 (xs_NoPattern__NoWay:PySem.W.subIn K (.ref X8) (.ref X11)=some false)
 (xs_NoPattern__Nothing:PySem.W.subIn K (.ref X8) (.ref X12)=some false)
 (xs_NoPattern__Refused:PySem.W.subIn K (.ref X8) (.ref X13)=some true)
 (xs_NoPattern__RuntimeError:PySem.W.subIn K (.ref X8) (.type "RuntimeError")=some false)
 (xs_NoPattern__Untold:PySem.W.subIn K (.ref X8) (.ref X14)=some false)
 (xs_NoPattern__ValueError:PySem.W.subIn K (.ref X8) (.type "ValueError")=some true)
 (xs_NoPlace__Halted:PySem.W.subIn K (.ref X9) (.ref X1)=some false)
 (xs_NoPlace__LookupError:PySem.W.subIn K (.ref X9) (.type "LookupError")=some true)
 (xs_NoPlace__Missing:PySem.W.subIn K (.ref X9) (.ref X2)=some true)
 (xs_NoPlace__NoBook:PySem.W.subIn K (.ref X9) (.ref X3)=some false)
 (xs_NoPlace__NoFit:PySem.W.subIn K (.ref X9) (.ref X4)=some false)
 (xs_NoPlace__NoLine:PySem.W.subIn K (.ref X9) (.ref X5)=some false)
 (xs_NoPlace__NoName:PySem.W.subIn K (.ref X9) (.ref X6)=some false)
 (xs_NoPlace__NoNumber:PySem.W.subIn K (.ref X9) (.ref X7)=some false)
 (xs_NoPlace__NoPattern:PySem.W.subIn K (.ref X9) (.ref X8)=some false)
 (xs_NoPlace__NoPlace:PySem.W.subIn K (.ref X9) (.ref X9)=some true)
 (xs_NoPlace__NoText:PySem.W.subIn K (.ref X9) (.ref X10)=some false)
 (xs_NoPlace__NoWay:PySem.W.subIn K (.ref X9) (.ref X11)=some false)
 (xs_NoPlace__Nothing:PySem.W.subIn K (.ref X9) (.ref X12)=some false)
 (xs_NoPlace__Refused:PySem.W.subIn K (.ref X9) (.ref X13)=some false)
 (xs_NoPlace__RuntimeError:PySem.W.subIn K (.ref X9) (.type "RuntimeError")=some false)
 (xs_NoPlace__Untold:PySem.W.subIn K (.ref X9) (.ref X14)=some false)
 (xs_NoPlace__ValueError:PySem.W.subIn K (.ref X9) (.type "ValueError")=some false)
 (xs_NoText__Halted:PySem.W.subIn K (.ref X10) (.ref X1)=some false)
 (xs_NoText__LookupError:PySem.W.subIn K (.ref X10) (.type "LookupError")=some false)
 (xs_NoText__Missing:PySem.W.subIn K (.ref X10) (.ref X2)=some false)
 (xs_NoText__NoBook:PySem.W.subIn K (.ref X10) (.ref X3)=some false)
 (xs_NoText__NoFit:PySem.W.subIn K (.ref X10) (.ref X4)=some false)
 (xs_NoText__NoLine:PySem.W.subIn K (.ref X10) (.ref X5)=some false)
 (xs_NoText__NoName:PySem.W.subIn K (.ref X10) (.ref X6)=some false)
 (xs_NoText__NoNumber:PySem.W.subIn K (.ref X10) (.ref X7)=some false)
 (xs_NoText__NoPattern:PySem.W.subIn K (.ref X10) (.ref X8)=some false)
 (xs_NoText__NoPlace:PySem.W.subIn K (.ref X10) (.ref X9)=some false)
 (xs_NoText__NoText:PySem.W.subIn K (.ref X10) (.ref X10)=some true)
 (xs_NoText__NoWay:PySem.W.subIn K (.ref X10) (.ref X11)=some false)
 (xs_NoText__Nothing:PySem.W.subIn K (.ref X10) (.ref X12)=some false)
 (xs_NoText__Refused:PySem.W.subIn K (.ref X10) (.ref X13)=some true)
 (xs_NoText__RuntimeError:PySem.W.subIn K (.ref X10) (.type "RuntimeError")=some false)
 (xs_NoText__Untold:PySem.W.subIn K (.ref X10) (.ref X14)=some false)
 (xs_NoText__ValueError:PySem.W.subIn K (.ref X10) (.type "ValueError")=some true)
 (xs_NoWay__Halted:PySem.W.subIn K (.ref X11) (.ref X1)=some false)
 (xs_NoWay__LookupError:PySem.W.subIn K (.ref X11) (.type "LookupError")=some false)
 (xs_NoWay__Missing:PySem.W.subIn K (.ref X11) (.ref X2)=some false)
 (xs_NoWay__NoBook:PySem.W.subIn K (.ref X11) (.ref X3)=some false)
 (xs_NoWay__NoFit:PySem.W.subIn K (.ref X11) (.ref X4)=some false)
 (xs_NoWay__NoLine:PySem.W.subIn K (.ref X11) (.ref X5)=some false)
 (xs_NoWay__NoName:PySem.W.subIn K (.ref X11) (.ref X6)=some false)
 (xs_NoWay__NoNumber:PySem.W.subIn K (.ref X11) (.ref X7)=some false)
 (xs_NoWay__NoPattern:PySem.W.subIn K (.ref X11) (.ref X8)=some false)
 (xs_NoWay__NoPlace:PySem.W.subIn K (.ref X11) (.ref X9)=some false)
 (xs_NoWay__NoText:PySem.W.subIn K (.ref X11) (.ref X10)=some false)
 (xs_NoWay__NoWay:PySem.W.subIn K (.ref X11) (.ref X11)=some true)
 (xs_NoWay__Nothing:PySem.W.subIn K (.ref X11) (.ref X12)=some false)
 (xs_NoWay__Refused:PySem.W.subIn K (.ref X11) (.ref X13)=some true)
 (xs_NoWay__RuntimeError:PySem.W.subIn K (.ref X11) (.type "RuntimeError")=some false)
 (xs_NoWay__Untold:PySem.W.subIn K (.ref X11) (.ref X14)=some false)
 (xs_NoWay__ValueError:PySem.W.subIn K (.ref X11) (.type "ValueError")=some true)
 (xs_Nothing__Halted:PySem.W.subIn K (.ref X12) (.ref X1)=some false)
 (xs_Nothing__LookupError:PySem.W.subIn K (.ref X12) (.type "LookupError")=some false)
 (xs_Nothing__Missing:PySem.W.subIn K (.ref X12) (.ref X2)=some false)
 (xs_Nothing__NoBook:PySem.W.subIn K (.ref X12) (.ref X3)=some false)
 (xs_Nothing__NoFit:PySem.W.subIn K (.ref X12) (.ref X4)=some false)
 (xs_Nothing__NoLine:PySem.W.subIn K (.ref X12) (.ref X5)=some false)
 (xs_Nothing__NoName:PySem.W.subIn K (.ref X12) (.ref X6)=some false)
 (xs_Nothing__NoNumber:PySem.W.subIn K (.ref X12) (.ref X7)=some false)
 (xs_Nothing__NoPattern:PySem.W.subIn K (.ref X12) (.ref X8)=some false)
 (xs_Nothing__NoPlace:PySem.W.subIn K (.ref X12) (.ref X9)=some false)
 (xs_Nothing__NoText:PySem.W.subIn K (.ref X12) (.ref X10)=some false)
 (xs_Nothing__NoWay:PySem.W.subIn K (.ref X12) (.ref X11)=some false)
 (xs_Nothing__Nothing:PySem.W.subIn K (.ref X12) (.ref X12)=some true)
 (xs_Nothing__Refused:PySem.W.subIn K (.ref X12) (.ref X13)=some true)
 (xs_Nothing__RuntimeError:PySem.W.subIn K (.ref X12) (.type "RuntimeError")=some false)
 (xs_Nothing__Untold:PySem.W.subIn K (.ref X12) (.ref X14)=some false)
 (xs_Nothing__ValueError:PySem.W.subIn K (.ref X12) (.type "ValueError")=some true)
 (xs_Untold__Halted:PySem.W.subIn K (.ref X14) (.ref X1)=some true)
 (xs_Untold__LookupError:PySem.W.subIn K (.ref X14) (.type "LookupError")=some false)
 (xs_Untold__Missing:PySem.W.subIn K (.ref X14) (.ref X2)=some false)
 (xs_Untold__NoBook:PySem.W.subIn K (.ref X14) (.ref X3)=some false)
 (xs_Untold__NoFit:PySem.W.subIn K (.ref X14) (.ref X4)=some false)
 (xs_Untold__NoLine:PySem.W.subIn K (.ref X14) (.ref X5)=some false)
 (xs_Untold__NoName:PySem.W.subIn K (.ref X14) (.ref X6)=some false)
 (xs_Untold__NoNumber:PySem.W.subIn K (.ref X14) (.ref X7)=some false)
 (xs_Untold__NoPattern:PySem.W.subIn K (.ref X14) (.ref X8)=some false)
 (xs_Untold__NoPlace:PySem.W.subIn K (.ref X14) (.ref X9)=some false)
 (xs_Untold__NoText:PySem.W.subIn K (.ref X14) (.ref X10)=some false)
 (xs_Untold__NoWay:PySem.W.subIn K (.ref X14) (.ref X11)=some false)
 (xs_Untold__Nothing:PySem.W.subIn K (.ref X14) (.ref X12)=some false)
 (xs_Untold__Refused:PySem.W.subIn K (.ref X14) (.ref X13)=some false)
 (xs_Untold__RuntimeError:PySem.W.subIn K (.ref X14) (.type "RuntimeError")=some true)
 (xs_Untold__Untold:PySem.W.subIn K (.ref X14) (.ref X14)=some true)
 (xs_Untold__ValueError:PySem.W.subIn K (.ref X14) (.type "ValueError")=some false)
 (a_law_hand:PySem.W.nsIn K mainGlobals "_law_hand" =some (some (.ref f15)))
 (l_law_hand:K.lookup f15=some ⟨oc19,od16, .func (PySem.W.fnOf "_law_hand" "_law_hand" (defArgs s_law_hand) (defBody s_law_hand) (defScope s_law_hand) .none kV24 dc20 pm21 an17 cd22 ct23),sl18⟩)
 (c_law_hand:PySem.W.codeIn K cd22 "_law_hand" =true)
 (k_law_hand:PySem.W.keepIn K (.ref f15)=true)
 (a_law_take:PySem.W.nsIn K mainGlobals "_law_take" =some (some (.ref f25)))
 (l_law_take:K.lookup f25=some ⟨oc29,od26, .func (PySem.W.fnOf "_law_take" "_law_take" (defArgs s_law_take) (defBody s_law_take) (defScope s_law_take) .none kV34 dc30 pm31 an27 cd32 ct33),sl28⟩)
 (c_law_take:PySem.W.codeIn K cd32 "_law_take" =true)
 (k_law_take:PySem.W.keepIn K (.ref f25)=true)
 (a_law_pick:PySem.W.nsIn K mainGlobals "_law_pick" =some (some (.ref f35)))
 (l_law_pick:K.lookup f35=some ⟨oc39,od36, .func (PySem.W.fnOf "_law_pick" "_law_pick" (defArgs s_law_pick) (defBody s_law_pick) (defScope s_law_pick) .none kV44 dc40 pm41 an37 cd42 ct43),sl38⟩)
 (c_law_pick:PySem.W.codeIn K cd42 "_law_pick" =true)
 (k_law_pick:PySem.W.keepIn K (.ref f35)=true)
 (a_law_made:PySem.W.nsIn K mainGlobals "_law_made" =some (some (.ref f45)))
 (l_law_made:K.lookup f45=some ⟨oc49,od46, .func (PySem.W.fnOf "_law_made" "_law_made" (defArgs s_law_made) (defBody s_law_made) (defScope s_law_made) .none kV54 dc50 pm51 an47 cd52 ct53),sl48⟩)
 (c_law_made:PySem.W.codeIn K cd52 "_law_made" =true)
 (k_law_made:PySem.W.keepIn K (.ref f45)=true)
 (a_law_values_right:PySem.W.nsIn K mainGlobals "_law_values_right" =some (some (.ref f55)))
 (l_law_values_right:K.lookup f55=some ⟨oc59,od56, .func (PySem.W.fnOf "_law_values_right" "_law_values_right" (defArgs s_law_values_right) (defBody s_law_values_right) (defScope s_law_values_right) .none kV64 dc60 pm61 an57 cd62 ct63),sl58⟩)
 (c_law_values_right:PySem.W.codeIn K cd62 "_law_values_right" =true)
 (k_law_values_right:PySem.W.keepIn K (.ref f55)=true)
 (a_law_classes_right:PySem.W.nsIn K mainGlobals "_law_classes_right" =some (some (.ref f65)))
 (l_law_classes_right:K.lookup f65=some ⟨oc69,od66, .func (PySem.W.fnOf "_law_classes_right" "_law_classes_right" (defArgs s_law_classes_right) (defBody s_law_classes_right) (defScope s_law_classes_right) .none kV74 dc70 pm71 an67 cd72 ct73),sl68⟩)
 (c_law_classes_right:PySem.W.codeIn K cd72 "_law_classes_right" =true)
 (k_law_classes_right:PySem.W.keepIn K (.ref f65)=true)
 (a_law_raised:PySem.W.nsIn K mainGlobals "_law_raised" =some (some (.ref f75)))
 (l_law_raised:K.lookup f75=some ⟨oc79,od76, .func (PySem.W.fnOf "_law_raised" "_law_raised" (defArgs s_law_raised) (defBody s_law_raised) (defScope s_law_raised) .none kV84 dc80 pm81 an77 cd82 ct83),sl78⟩)
 (c_law_raised:PySem.W.codeIn K cd82 "_law_raised" =true)
 (k_law_raised:PySem.W.keepIn K (.ref f75)=true)
 (a_law:PySem.W.nsIn K mainGlobals "law" =some (some (.ref f85)))
 (l_law:K.lookup f85=some ⟨oc89,od86, .func (PySem.W.fnOf "law" "law" (defArgs s_law) (defBody s_law) (defScope s_law) .none kV94 dc90 pm91 an87 cd92 ct93),sl88⟩)
 (c_law:PySem.W.codeIn K cd92 "law" =true)
 (k_law:PySem.W.keepIn K (.ref f85)=true)
 (xc_NoLine:PySem.W.findIn K (.ref X5) "__init__" =some (some (.ref f95)))
 (xt_NoLine:PySem.W.typeIn K (.ref f95)=some (.type "function"))
 (l_NoLine___init__:K.lookup f95=some ⟨oc99,od96, .func (PySem.W.fnOf "__init__" "NoLine.__init__" (defArgs s_NoLine___init__) (defBody s_NoLine___init__) (defScope s_NoLine___init__) .none kV104 dc100 pm101 an97 cd102 ct103),sl98⟩)
 (c_NoLine___init__:PySem.W.codeIn K cd102 "NoLine.__init__" =true)
 (k_NoLine___init__:PySem.W.keepIn K (.ref f95)=true)
 (xc_NoName:PySem.W.findIn K (.ref X6) "__init__" =some (some (.ref f105)))
 (xt_NoName:PySem.W.typeIn K (.ref f105)=some (.type "function"))
 (l_NoName___init__:K.lookup f105=some ⟨oc109,od106, .func (PySem.W.fnOf "__init__" "NoName.__init__" (defArgs s_NoName___init__) (defBody s_NoName___init__) (defScope s_NoName___init__) .none kV114 dc110 pm111 an107 cd112 ct113),sl108⟩)
 (c_NoName___init__:PySem.W.codeIn K cd112 "NoName.__init__" =true)
 (k_NoName___init__:PySem.W.keepIn K (.ref f105)=true)
 (xc_NoNumber:PySem.W.findIn K (.ref X7) "__init__" =some (some (.ref f115)))
 (xt_NoNumber:PySem.W.typeIn K (.ref f115)=some (.type "function"))
 (l_NoNumber___init__:K.lookup f115=some ⟨oc119,od116, .func (PySem.W.fnOf "__init__" "NoNumber.__init__" (defArgs s_NoNumber___init__) (defBody s_NoNumber___init__) (defScope s_NoNumber___init__) .none kV124 dc120 pm121 an117 cd122 ct123),sl118⟩)
 (c_NoNumber___init__:PySem.W.codeIn K cd122 "NoNumber.__init__" =true)
 (k_NoNumber___init__:PySem.W.keepIn K (.ref f115)=true)
 (xc_NoPlace:PySem.W.findIn K (.ref X9) "__init__" =some (some (.ref f125)))
 (xt_NoPlace:PySem.W.typeIn K (.ref f125)=some (.type "function"))
 (l_NoPlace___init__:K.lookup f125=some ⟨oc129,od126, .func (PySem.W.fnOf "__init__" "NoPlace.__init__" (defArgs s_NoPlace___init__) (defBody s_NoPlace___init__) (defScope s_NoPlace___init__) .none kV134 dc130 pm131 an127 cd132 ct133),sl128⟩)
 (c_NoPlace___init__:PySem.W.codeIn K cd132 "NoPlace.__init__" =true)
 (k_NoPlace___init__:PySem.W.keepIn K (.ref f125)=true)
 (xc_NoText:PySem.W.findIn K (.ref X10) "__init__" =some (some (.ref f135)))
 (xt_NoText:PySem.W.typeIn K (.ref f135)=some (.type "function"))
 (l_NoText___init__:K.lookup f135=some ⟨oc139,od136, .func (PySem.W.fnOf "__init__" "NoText.__init__" (defArgs s_NoText___init__) (defBody s_NoText___init__) (defScope s_NoText___init__) .none kV144 dc140 pm141 an137 cd142 ct143),sl138⟩)
 (c_NoText___init__:PySem.W.codeIn K cd142 "NoText.__init__" =true)
 (k_NoText___init__:PySem.W.keepIn K (.ref f135)=true)
 (xc_NoWay:PySem.W.findIn K (.ref X11) "__init__" =some (some (.ref f145)))
 (xt_NoWay:PySem.W.typeIn K (.ref f145)=some (.type "function"))
 (l_NoWay___init__:K.lookup f145=some ⟨oc149,od146, .func (PySem.W.fnOf "__init__" "NoWay.__init__" (defArgs s_NoWay___init__) (defBody s_NoWay___init__) (defScope s_NoWay___init__) .none kV154 dc150 pm151 an147 cd152 ct153),sl148⟩)
 (c_NoWay___init__:PySem.W.codeIn K cd152 "NoWay.__init__" =true)
 (k_NoWay___init__:PySem.W.keepIn K (.ref f145)=true)
 (xc_Untold:PySem.W.findIn K (.ref X14) "__init__" =some (some (.ref f155)))
 (xt_Untold:PySem.W.typeIn K (.ref f155)=some (.type "function"))
 (l_Untold___init__:K.lookup f155=some ⟨oc159,od156, .func (PySem.W.fnOf "__init__" "Untold.__init__" (defArgs s_Untold___init__) (defBody s_Untold___init__) (defScope s_Untold___init__) .none kV164 dc160 pm161 an157 cd162 ct163),sl158⟩)
 (c_Untold___init__:PySem.W.codeIn K cd162 "Untold.__init__" =true)
 (k_Untold___init__:PySem.W.keepIn K (.ref f155)=true)
 (z_LookupError:PySem.W.nsIn K mainGlobals "LookupError" =some none)
 (z_RuntimeError:PySem.W.nsIn K mainGlobals "RuntimeError" =some none)
 (z_ValueError:PySem.W.nsIn K mainGlobals "ValueError" =some none)
 (z_abs:PySem.W.nsIn K mainGlobals "abs" =some none)
 (z_all:PySem.W.nsIn K mainGlobals "all" =some none)
 (z_enumerate:PySem.W.nsIn K mainGlobals "enumerate" =some none)
 (z_int:PySem.W.nsIn K mainGlobals "int" =some none)
 (z_isinstance:PySem.W.nsIn K mainGlobals "isinstance" =some none)
 (z_len:PySem.W.nsIn K mainGlobals "len" =some none)
 (z_max:PySem.W.nsIn K mainGlobals "max" =some none)
 (z_min:PySem.W.nsIn K mainGlobals "min" =some none)
 (z_range:PySem.W.nsIn K mainGlobals "range" =some none)
 (z_repr:PySem.W.nsIn K mainGlobals "repr" =some none)
 : ∃fd:FuncData,(∀ (s:Shared) (v:Value),BindsTo s fd ⟨[v],[]⟩ [("_law_script",v)])∧∀base:Heap,K.In base→base.Ns mainGlobals mg→(∃ o,base.get? sysModules=some o)→FnG l.prog w K mg base (lv 70) fa fd ["_law_script"] (spLaw K):=by
 have e:=hfa.symm.trans (PySem.W.mg_of X G a_law)
 cases e
 have F_law_hand:=funD_mk (K:=K) (kws:= []) l_law_hand c_law_hand k_law_hand kw_none
 have F_law_take:=funD_mk (K:=K) (kws:= []) l_law_take c_law_take k_law_take kw_none
 have F_law_pick:=funD_mk (K:=K) (kws:= []) l_law_pick c_law_pick k_law_pick kw_none
 have F_law_made:=funD_mk (K:=K) (kws:= []) l_law_made c_law_made k_law_made kw_none
 have F_law_values_right:=funD_mk (K:=K) (kws:= []) l_law_values_right c_law_values_right k_law_values_right kw_none
 have F_law_classes_right:=funD_mk (K:=K) (kws:= []) l_law_classes_right c_law_classes_right k_law_classes_right kw_none
 have F_law_raised:=funD_mk (K:=K) (kws:= []) l_law_raised c_law_raised k_law_raised kw_none
 have F_law:=funD_mk (K:=K) (kws:= []) l_law c_law k_law kw_none
 have F_NoLine___init__:=funD_mk (K:=K) (kws:= []) l_NoLine___init__ c_NoLine___init__ k_NoLine___init__ kw_none
 have F_NoName___init__:=funD_mk (K:=K) (kws:= []) l_NoName___init__ c_NoName___init__ k_NoName___init__ kw_none
 have F_NoNumber___init__:=funD_mk (K:=K) (kws:= []) l_NoNumber___init__ c_NoNumber___init__ k_NoNumber___init__ kw_none
 have F_NoPlace___init__:=funD_mk (K:=K) (kws:= []) l_NoPlace___init__ c_NoPlace___init__ k_NoPlace___init__ kw_none
 have F_NoText___init__:=funD_mk (K:=K) (kws:= []) l_NoText___init__ c_NoText___init__ k_NoText___init__ kw_none
 have F_NoWay___init__:=funD_mk (K:=K) (kws:= []) l_NoWay___init__ c_NoWay___init__ k_NoWay___init__ kw_none
 have F_Untold___init__:=funD_mk (K:=K) (kws:= []) l_Untold___init__ c_Untold___init__ k_Untold___init__ kw_none
 have T:Txt K w mg (fun i=>([f15,f25,f35,f45,f55,f65,f75,fa,X13,X2,X1,X10,X8,X3,X12,X4,X11,X5,X9,X6,X7,X14,0,0,0,f135,0,0,0,0,f145,f95,f125,f105,f115,f155] :List Addr).getD i 0) (fdOf _ _ _ _ _ _ _ _ default default default default default default default default default default default default default default default default default _ default default default default _ _ _ _ _ _):= {
  z_LookupError:=PySem.W.mg_none_of X G z_LookupError,
  z_RuntimeError:=PySem.W.mg_none_of X G z_RuntimeError,
  z_ValueError:=PySem.W.mg_none_of X G z_ValueError,
  z_abs:=PySem.W.mg_none_of X G z_abs,
  z_all:=PySem.W.mg_none_of X G z_all,
  z_enumerate:=PySem.W.mg_none_of X G z_enumerate,
  z_int:=PySem.W.mg_none_of X G z_int,
  z_isinstance:=PySem.W.mg_none_of X G z_isinstance,
  z_len:=PySem.W.mg_none_of X G z_len,
  z_max:=PySem.W.mg_none_of X G z_max,
  z_min:=PySem.W.mg_none_of X G z_min,
  z_range:=PySem.W.mg_none_of X G z_range,
  z_repr:=PySem.W.mg_none_of X G z_repr,
  g_law_hand:=PySem.W.mg_of X G a_law_hand,
  F_law_hand:=F_law_hand,
  g_law_take:=PySem.W.mg_of X G a_law_take,
  F_law_take:=F_law_take,
  g_law_pick:=PySem.W.mg_of X G a_law_pick,
  F_law_pick:=F_law_pick,
  g_law_made:=PySem.W.mg_of X G a_law_made,
  F_law_made:=F_law_made,
  g_law_values_right:=PySem.W.mg_of X G a_law_values_right,
  F_law_values_right:=F_law_values_right,
  g_law_classes_right:=PySem.W.mg_of X G a_law_classes_right,
  F_law_classes_right:=F_law_classes_right,
  g_law_raised:=PySem.W.mg_of X G a_law_raised,
  F_law_raised:=F_law_raised,
  g_law:=PySem.W.mg_of X G a_law,
  F_law:=F_law,
  ca_Halted:=PySem.W.mg_of X G a_Halted,
  xd_Halted:=⟨sb_Halted,hd_Halted,ty_Halted⟩,
  ca_Missing:=PySem.W.mg_of X G a_Missing,
  xd_Missing:=⟨sb_Missing,hd_Missing,ty_Missing⟩,
  ca_NoBook:=PySem.W.mg_of X G a_NoBook,
  xd_NoBook:=⟨sb_NoBook,hd_NoBook,ty_NoBook⟩,
  xi_NoBook:=⟨ga_NoBook,gg_NoBook,sb_NoBook,hd_NoBook,cl_NoBook,sp_class,tk_class,mr_NoBook⟩,
  x0_NoBook:=⟨PySem.W.mg_of X G a_NoBook,⟨_,_,_,_,PySem.F.excBase_ValueError,ex_NoBook⟩,kp_NoBook,sb_NoBook,ty_NoBook⟩,
  ca_NoFit:=PySem.W.mg_of X G a_NoFit,
  xd_NoFit:=⟨sb_NoFit,hd_NoFit,ty_NoFit⟩,
  xi_NoFit:=⟨ga_NoFit,gg_NoFit,sb_NoFit,hd_NoFit,cl_NoFit,sp_class,tk_class,mr_NoFit⟩,
  x0_NoFit:=⟨PySem.W.mg_of X G a_NoFit,⟨_,_,_,_,PySem.F.excBase_ValueError,ex_NoFit⟩,kp_NoFit,sb_NoFit,ty_NoFit⟩,
  ca_NoLine:=PySem.W.mg_of X G a_NoLine,
  xd_NoLine:=⟨sb_NoLine,hd_NoLine,ty_NoLine⟩,
  xi_NoLine:=⟨ga_NoLine,gg_NoLine,sb_NoLine,hd_NoLine,cl_NoLine,sp_class,tk_class,mr_NoLine⟩,
  xn_NoLine:=xn_NoLine,
  xo_NoLine:=⟨_,_,_,_,PySem.F.excBase_ValueError,PySem.F.store_ValueError,in_NoLine,ov_NoLine,sa_NoLine,sb_NoLine,ty_NoLine,kp_NoLine,hd_NoLine⟩,
  xc_NoLine:=xc_NoLine,
  xt_NoLine:=xt_NoLine,
  F_NoLine___init__:=F_NoLine___init__,
  ca_NoName:=PySem.W.mg_of X G a_NoName,
  xd_NoName:=⟨sb_NoName,hd_NoName,ty_NoName⟩,
  xi_NoName:=⟨ga_NoName,gg_NoName,sb_NoName,hd_NoName,cl_NoName,sp_class,tk_class,mr_NoName⟩,
  xn_NoName:=xn_NoName,
  xo_NoName:=⟨_,_,_,_,PySem.F.excBase_LookupError,PySem.F.store_LookupError,in_NoName,ov_NoName,sa_NoName,sb_NoName,ty_NoName,kp_NoName,hd_NoName⟩,
  xc_NoName:=xc_NoName,
  xt_NoName:=xt_NoName,
  F_NoName___init__:=F_NoName___init__,
  ca_NoNumber:=PySem.W.mg_of X G a_NoNumber,
  xd_NoNumber:=⟨sb_NoNumber,hd_NoNumber,ty_NoNumber⟩,
  xi_NoNumber:=⟨ga_NoNumber,gg_NoNumber,sb_NoNumber,hd_NoNumber,cl_NoNumber,sp_class,tk_class,mr_NoNumber⟩,
  xn_NoNumber:=xn_NoNumber,
  xo_NoNumber:=⟨_,_,_,_,PySem.F.excBase_LookupError,PySem.F.store_LookupError,in_NoNumber,ov_NoNumber,sa_NoNumber,sb_NoNumber,ty_NoNumber,kp_NoNumber,hd_NoNumber⟩,
  xc_NoNumber:=xc_NoNumber,
  xt_NoNumber:=xt_NoNumber,
  F_NoNumber___init__:=F_NoNumber___init__,
  ca_NoPattern:=PySem.W.mg_of X G a_NoPattern,
  xd_NoPattern:=⟨sb_NoPattern,hd_NoPattern,ty_NoPattern⟩,
  xi_NoPattern:=⟨ga_NoPattern,gg_NoPattern,sb_NoPattern,hd_NoPattern,cl_NoPattern,sp_class,tk_class,mr_NoPattern⟩,
  x0_NoPattern:=⟨PySem.W.mg_of X G a_NoPattern,⟨_,_,_,_,PySem.F.excBase_ValueError,ex_NoPattern⟩,kp_NoPattern,sb_NoPattern,ty_NoPattern⟩,
  ca_NoPlace:=PySem.W.mg_of X G a_NoPlace,
  xd_NoPlace:=⟨sb_NoPlace,hd_NoPlace,ty_NoPlace⟩,
  xi_NoPlace:=⟨ga_NoPlace,gg_NoPlace,sb_NoPlace,hd_NoPlace,cl_NoPlace,sp_class,tk_class,mr_NoPlace⟩,
  xn_NoPlace:=xn_NoPlace,
  xo_NoPlace:=⟨_,_,_,_,PySem.F.excBase_LookupError,PySem.F.store_LookupError,in_NoPlace,ov_NoPlace,sa_NoPlace,sb_NoPlace,ty_NoPlace,kp_NoPlace,hd_NoPlace⟩,
  xc_NoPlace:=xc_NoPlace,
  xt_NoPlace:=xt_NoPlace,
  F_NoPlace___init__:=F_NoPlace___init__,
  ca_NoText:=PySem.W.mg_of X G a_NoText,
  xd_NoText:=⟨sb_NoText,hd_NoText,ty_NoText⟩,
  xi_NoText:=⟨ga_NoText,gg_NoText,sb_NoText,hd_NoText,cl_NoText,sp_class,tk_class,mr_NoText⟩,
  xn_NoText:=xn_NoText,
  xo_NoText:=⟨_,_,_,_,PySem.F.excBase_ValueError,PySem.F.store_ValueError,in_NoText,ov_NoText,sa_NoText,sb_NoText,ty_NoText,kp_NoText,hd_NoText⟩,
  xc_NoText:=xc_NoText,
  xt_NoText:=xt_NoText,
  F_NoText___init__:=F_NoText___init__,
  ca_NoWay:=PySem.W.mg_of X G a_NoWay,
  xd_NoWay:=⟨sb_NoWay,hd_NoWay,ty_NoWay⟩,
  xi_NoWay:=⟨ga_NoWay,gg_NoWay,sb_NoWay,hd_NoWay,cl_NoWay,sp_class,tk_class,mr_NoWay⟩,
  xn_NoWay:=xn_NoWay,
  xo_NoWay:=⟨_,_,_,_,PySem.F.excBase_ValueError,PySem.F.store_ValueError,in_NoWay,ov_NoWay,sa_NoWay,sb_NoWay,ty_NoWay,kp_NoWay,hd_NoWay⟩,
  xc_NoWay:=xc_NoWay,
  xt_NoWay:=xt_NoWay,
  F_NoWay___init__:=F_NoWay___init__,
  ca_Nothing:=PySem.W.mg_of X G a_Nothing,
  xd_Nothing:=⟨sb_Nothing,hd_Nothing,ty_Nothing⟩,
  xi_Nothing:=⟨ga_Nothing,gg_Nothing,sb_Nothing,hd_Nothing,cl_Nothing,sp_class,tk_class,mr_Nothing⟩,
  x0_Nothing:=⟨PySem.W.mg_of X G a_Nothing,⟨_,_,_,_,PySem.F.excBase_ValueError,ex_Nothing⟩,kp_Nothing,sb_Nothing,ty_Nothing⟩,
  ca_Refused:=PySem.W.mg_of X G a_Refused,
  xd_Refused:=⟨sb_Refused,hd_Refused,ty_Refused⟩,
  ca_Untold:=PySem.W.mg_of X G a_Untold,
  xd_Untold:=⟨sb_Untold,hd_Untold,ty_Untold⟩,
  xi_Untold:=⟨ga_Untold,gg_Untold,sb_Untold,hd_Untold,cl_Untold,sp_class,tk_class,mr_Untold⟩,
  xn_Untold:=xn_Untold,
  xo_Untold:=⟨_,_,_,_,PySem.F.excBase_RuntimeError,PySem.F.store_RuntimeError,in_Untold,ov_Untold,sa_Untold,sb_Untold,ty_Untold,kp_Untold,hd_Untold⟩,
  xc_Untold:=xc_Untold,
  xt_Untold:=xt_Untold,
  F_Untold___init__:=F_Untold___init__,
  xs_NoBook__Halted:=xs_NoBook__Halted,
  xs_NoBook__LookupError:=xs_NoBook__LookupError,
  xs_NoBook__Missing:=xs_NoBook__Missing,
  xs_NoBook__NoBook:=xs_NoBook__NoBook,
  xs_NoBook__NoFit:=xs_NoBook__NoFit,
  xs_NoBook__NoLine:=xs_NoBook__NoLine,
  xs_NoBook__NoName:=xs_NoBook__NoName,
  xs_NoBook__NoNumber:=xs_NoBook__NoNumber,
  xs_NoBook__NoPattern:=xs_NoBook__NoPattern,
  xs_NoBook__NoPlace:=xs_NoBook__NoPlace,
  xs_NoBook__NoText:=xs_NoBook__NoText,
  xs_NoBook__NoWay:=xs_NoBook__NoWay,
  xs_NoBook__Nothing:=xs_NoBook__Nothing,
  xs_NoBook__Refused:=xs_NoBook__Refused,
  xs_NoBook__RuntimeError:=xs_NoBook__RuntimeError,
  xs_NoBook__Untold:=xs_NoBook__Untold,
  xs_NoBook__ValueError:=xs_NoBook__ValueError,
  xs_NoFit__Halted:=xs_NoFit__Halted,
  xs_NoFit__LookupError:=xs_NoFit__LookupError,
  xs_NoFit__Missing:=xs_NoFit__Missing,
  xs_NoFit__NoBook:=xs_NoFit__NoBook,
  xs_NoFit__NoFit:=xs_NoFit__NoFit,
  xs_NoFit__NoLine:=xs_NoFit__NoLine,
  xs_NoFit__NoName:=xs_NoFit__NoName,
  xs_NoFit__NoNumber:=xs_NoFit__NoNumber,
  xs_NoFit__NoPattern:=xs_NoFit__NoPattern,
  xs_NoFit__NoPlace:=xs_NoFit__NoPlace,
  xs_NoFit__NoText:=xs_NoFit__NoText,
  xs_NoFit__NoWay:=xs_NoFit__NoWay,
  xs_NoFit__Nothing:=xs_NoFit__Nothing,
  xs_NoFit__Refused:=xs_NoFit__Refused,
  xs_NoFit__RuntimeError:=xs_NoFit__RuntimeError,
  xs_NoFit__Untold:=xs_NoFit__Untold,
  xs_NoFit__ValueError:=xs_NoFit__ValueError,
  xs_NoLine__Halted:=xs_NoLine__Halted,
  xs_NoLine__LookupError:=xs_NoLine__LookupError,
  xs_NoLine__Missing:=xs_NoLine__Missing,
  xs_NoLine__NoBook:=xs_NoLine__NoBook,
  xs_NoLine__NoFit:=xs_NoLine__NoFit,
  xs_NoLine__NoLine:=xs_NoLine__NoLine,
  xs_NoLine__NoName:=xs_NoLine__NoName,
  xs_NoLine__NoNumber:=xs_NoLine__NoNumber,
  xs_NoLine__NoPattern:=xs_NoLine__NoPattern,
  xs_NoLine__NoPlace:=xs_NoLine__NoPlace,
  xs_NoLine__NoText:=xs_NoLine__NoText,
  xs_NoLine__NoWay:=xs_NoLine__NoWay,
  xs_NoLine__Nothing:=xs_NoLine__Nothing,
  xs_NoLine__Refused:=xs_NoLine__Refused,
  xs_NoLine__RuntimeError:=xs_NoLine__RuntimeError,
  xs_NoLine__Untold:=xs_NoLine__Untold,
  xs_NoLine__ValueError:=xs_NoLine__ValueError,
  xs_NoName__Halted:=xs_NoName__Halted,
  xs_NoName__LookupError:=xs_NoName__LookupError,
  xs_NoName__Missing:=xs_NoName__Missing,
  xs_NoName__NoBook:=xs_NoName__NoBook,
  xs_NoName__NoFit:=xs_NoName__NoFit,
  xs_NoName__NoLine:=xs_NoName__NoLine,
  xs_NoName__NoName:=xs_NoName__NoName,
  xs_NoName__NoNumber:=xs_NoName__NoNumber,
  xs_NoName__NoPattern:=xs_NoName__NoPattern,
  xs_NoName__NoPlace:=xs_NoName__NoPlace,
  xs_NoName__NoText:=xs_NoName__NoText,
  xs_NoName__NoWay:=xs_NoName__NoWay,
  xs_NoName__Nothing:=xs_NoName__Nothing,
  xs_NoName__Refused:=xs_NoName__Refused,
  xs_NoName__RuntimeError:=xs_NoName__RuntimeError,
  xs_NoName__Untold:=xs_NoName__Untold,
  xs_NoName__ValueError:=xs_NoName__ValueError,
  xs_NoNumber__Halted:=xs_NoNumber__Halted,
  xs_NoNumber__LookupError:=xs_NoNumber__LookupError,
  xs_NoNumber__Missing:=xs_NoNumber__Missing,
  xs_NoNumber__NoBook:=xs_NoNumber__NoBook,
  xs_NoNumber__NoFit:=xs_NoNumber__NoFit,
  xs_NoNumber__NoLine:=xs_NoNumber__NoLine,
  xs_NoNumber__NoName:=xs_NoNumber__NoName,
  xs_NoNumber__NoNumber:=xs_NoNumber__NoNumber,
  xs_NoNumber__NoPattern:=xs_NoNumber__NoPattern,
  xs_NoNumber__NoPlace:=xs_NoNumber__NoPlace,
  xs_NoNumber__NoText:=xs_NoNumber__NoText,
  xs_NoNumber__NoWay:=xs_NoNumber__NoWay,
  xs_NoNumber__Nothing:=xs_NoNumber__Nothing,
  xs_NoNumber__Refused:=xs_NoNumber__Refused,
  xs_NoNumber__RuntimeError:=xs_NoNumber__RuntimeError,
  xs_NoNumber__Untold:=xs_NoNumber__Untold,
  xs_NoNumber__ValueError:=xs_NoNumber__ValueError,
  xs_NoPattern__Halted:=xs_NoPattern__Halted,
  xs_NoPattern__LookupError:=xs_NoPattern__LookupError,
  xs_NoPattern__Missing:=xs_NoPattern__Missing,
  xs_NoPattern__NoBook:=xs_NoPattern__NoBook,
  xs_NoPattern__NoFit:=xs_NoPattern__NoFit,
  xs_NoPattern__NoLine:=xs_NoPattern__NoLine,
  xs_NoPattern__NoName:=xs_NoPattern__NoName,
  xs_NoPattern__NoNumber:=xs_NoPattern__NoNumber,
  xs_NoPattern__NoPattern:=xs_NoPattern__NoPattern,
  xs_NoPattern__NoPlace:=xs_NoPattern__NoPlace,
  xs_NoPattern__NoText:=xs_NoPattern__NoText,
  xs_NoPattern__NoWay:=xs_NoPattern__NoWay,
  xs_NoPattern__Nothing:=xs_NoPattern__Nothing,
  xs_NoPattern__Refused:=xs_NoPattern__Refused,
  xs_NoPattern__RuntimeError:=xs_NoPattern__RuntimeError,
  xs_NoPattern__Untold:=xs_NoPattern__Untold,
  xs_NoPattern__ValueError:=xs_NoPattern__ValueError,
  xs_NoPlace__Halted:=xs_NoPlace__Halted,
  xs_NoPlace__LookupError:=xs_NoPlace__LookupError,
  xs_NoPlace__Missing:=xs_NoPlace__Missing,
  xs_NoPlace__NoBook:=xs_NoPlace__NoBook,
  xs_NoPlace__NoFit:=xs_NoPlace__NoFit,
  xs_NoPlace__NoLine:=xs_NoPlace__NoLine,
  xs_NoPlace__NoName:=xs_NoPlace__NoName,
  xs_NoPlace__NoNumber:=xs_NoPlace__NoNumber,
  xs_NoPlace__NoPattern:=xs_NoPlace__NoPattern,
  xs_NoPlace__NoPlace:=xs_NoPlace__NoPlace,
  xs_NoPlace__NoText:=xs_NoPlace__NoText,
  xs_NoPlace__NoWay:=xs_NoPlace__NoWay,
  xs_NoPlace__Nothing:=xs_NoPlace__Nothing,
  xs_NoPlace__Refused:=xs_NoPlace__Refused,
  xs_NoPlace__RuntimeError:=xs_NoPlace__RuntimeError,
  xs_NoPlace__Untold:=xs_NoPlace__Untold,
  xs_NoPlace__ValueError:=xs_NoPlace__ValueError,
  xs_NoText__Halted:=xs_NoText__Halted,
  xs_NoText__LookupError:=xs_NoText__LookupError,
  xs_NoText__Missing:=xs_NoText__Missing,
  xs_NoText__NoBook:=xs_NoText__NoBook,
  xs_NoText__NoFit:=xs_NoText__NoFit,
  xs_NoText__NoLine:=xs_NoText__NoLine,
  xs_NoText__NoName:=xs_NoText__NoName,
  xs_NoText__NoNumber:=xs_NoText__NoNumber,
  xs_NoText__NoPattern:=xs_NoText__NoPattern,
  xs_NoText__NoPlace:=xs_NoText__NoPlace,
  xs_NoText__NoText:=xs_NoText__NoText,
  xs_NoText__NoWay:=xs_NoText__NoWay,
  xs_NoText__Nothing:=xs_NoText__Nothing,
  xs_NoText__Refused:=xs_NoText__Refused,
  xs_NoText__RuntimeError:=xs_NoText__RuntimeError,
  xs_NoText__Untold:=xs_NoText__Untold,
  xs_NoText__ValueError:=xs_NoText__ValueError,
  xs_NoWay__Halted:=xs_NoWay__Halted,
  xs_NoWay__LookupError:=xs_NoWay__LookupError,
  xs_NoWay__Missing:=xs_NoWay__Missing,
  xs_NoWay__NoBook:=xs_NoWay__NoBook,
  xs_NoWay__NoFit:=xs_NoWay__NoFit,
  xs_NoWay__NoLine:=xs_NoWay__NoLine,
  xs_NoWay__NoName:=xs_NoWay__NoName,
  xs_NoWay__NoNumber:=xs_NoWay__NoNumber,
  xs_NoWay__NoPattern:=xs_NoWay__NoPattern,
  xs_NoWay__NoPlace:=xs_NoWay__NoPlace,
  xs_NoWay__NoText:=xs_NoWay__NoText,
  xs_NoWay__NoWay:=xs_NoWay__NoWay,
  xs_NoWay__Nothing:=xs_NoWay__Nothing,
  xs_NoWay__Refused:=xs_NoWay__Refused,
  xs_NoWay__RuntimeError:=xs_NoWay__RuntimeError,
  xs_NoWay__Untold:=xs_NoWay__Untold,
  xs_NoWay__ValueError:=xs_NoWay__ValueError,
  xs_Nothing__Halted:=xs_Nothing__Halted,
  xs_Nothing__LookupError:=xs_Nothing__LookupError,
  xs_Nothing__Missing:=xs_Nothing__Missing,
  xs_Nothing__NoBook:=xs_Nothing__NoBook,
  xs_Nothing__NoFit:=xs_Nothing__NoFit,
  xs_Nothing__NoLine:=xs_Nothing__NoLine,
  xs_Nothing__NoName:=xs_Nothing__NoName,
  xs_Nothing__NoNumber:=xs_Nothing__NoNumber,
  xs_Nothing__NoPattern:=xs_Nothing__NoPattern,
  xs_Nothing__NoPlace:=xs_Nothing__NoPlace,
  xs_Nothing__NoText:=xs_Nothing__NoText,
  xs_Nothing__NoWay:=xs_Nothing__NoWay,
  xs_Nothing__Nothing:=xs_Nothing__Nothing,
  xs_Nothing__Refused:=xs_Nothing__Refused,
  xs_Nothing__RuntimeError:=xs_Nothing__RuntimeError,
  xs_Nothing__Untold:=xs_Nothing__Untold,
  xs_Nothing__ValueError:=xs_Nothing__ValueError,
  xs_Untold__Halted:=xs_Untold__Halted,
  xs_Untold__LookupError:=xs_Untold__LookupError,
  xs_Untold__Missing:=xs_Untold__Missing,
  xs_Untold__NoBook:=xs_Untold__NoBook,
  xs_Untold__NoFit:=xs_Untold__NoFit,
  xs_Untold__NoLine:=xs_Untold__NoLine,
  xs_Untold__NoName:=xs_Untold__NoName,
  xs_Untold__NoNumber:=xs_Untold__NoNumber,
  xs_Untold__NoPattern:=xs_Untold__NoPattern,
  xs_Untold__NoPlace:=xs_Untold__NoPlace,
  xs_Untold__NoText:=xs_Untold__NoText,
  xs_Untold__NoWay:=xs_Untold__NoWay,
  xs_Untold__Nothing:=xs_Untold__Nothing,
  xs_Untold__Refused:=xs_Untold__Refused,
  xs_Untold__RuntimeError:=xs_Untold__RuntimeError,
  xs_Untold__Untold:=xs_Untold__Untold,
  xs_Untold__ValueError:=xs_Untold__ValueError }
 exact⟨_,fun s v=> .of_eq rfl,fun base _ _ hM=>law_ok (G:=⟨K,w,mg⟩) (all (P:=l.prog) (base:=base) hM T 70).c_law.1 TT⟩
end K06
namespace L3
open PySem L2
def Hand (n:Nat) (S:Store):Prop:=∃g s:Int,S[n]? =some (.lst [.int g, .int s])
structure FrH (n:Nat) (S S':Store):Prop where
 le:S.length≤S'.length
 fr:∀m o,m≠n→S[m]? =some o→S'[m]? =some o
 hd:Hand n S'
theorem FrH.trans {n:Nat} {S S' S'':Store} (h:FrH n S S') (g:FrH n S' S''):FrH n S S'':=⟨Nat.le_trans h.le g.le,fun m o hm e=>g.fr m o hm (h.fr m o hm e),g.hd⟩
theorem Hand.lt {n:Nat} {S:Store} (h:Hand n S):n<S.length:=by
 obtain⟨g,s,e⟩:=h
 exact(List.getElem?_eq_some_iff.mp e).1
theorem FrH.set {n:Nat} {S:Store} (h:Hand n S) (g s:Int):FrH n S (S.set n (.lst [.int g, .int s])):=by
 refine⟨by simp,fun m o hm e=> ?_,⟨g,s,by simp[List.getElem?_set_self h.lt]⟩⟩
 rw[List.getElem?_set_ne (Ne.symm hm)];exact e
theorem lg_lt {j:Int} {m:Nat} (h:j.natAbs<2 ^ 64):j.natAbs.log2<9000:=by
 by_cases h0:j.natAbs=0
 ·rw[h0];decide
 ·exact Nat.lt_trans ((Nat.log2_lt h0).mpr h) (by decide)
def mTake:SD:=
    sSeq (sIf (tOfE (e2 gtD (e2 ixD (eVar 0) (eK (.int 0))) (eK (.int 0)))) (sSeq (sAsg (e2 modD (e2 ixD (eVar 0) (eK (.int 0))) (eVar 1)) (gName 2))
    (sSeq (sAsg (e2 fdivD (e2 ixD (eVar 0) (eK (.int 0))) (eVar 1)) (gSub (eVar 0) (eK (.int 0))))
    (sRet (eVar 2)))) (sSkip))
    (sSeq (sAsg (e2 modD (e2 addD (e2 mulD (e2 ixD (eVar 0) (eK (.int 1))) (eK (.int 1181783497276652981))) (eK (.int 12345678910987))) (eK (.int 2305843009213693951))) (gSub (eVar 0) (eK (.int 1))))
    (sRet (e2 modD (e2 fdivD (e2 modD (e2 mulD (e2 fdivD (e2 ixD (eVar 0) (eK (.int 1))) (eK (.int 65537))) (e2 addD (e2 modD (e2 ixD (eVar 0) (eK (.int 1))) (eK (.int 65537))) (eK (.int 3)))) (eK (.int 2305843009213693921))) (eK (.int 97))) (eVar 1))))
section
variable {n:Nat} {S:Store} {Q:D→Store→Prop}
theorem ix0 {g s:Int} (h:S[n]? =some (.lst [.int g, .int s])):ixD (.obj n) (.int 0) S= .ok (.int g) S:=by simp[ixD,h,atI,ixN]
theorem ix1 {g s:Int} (h:S[n]? =some (.lst [.int g, .int s])):ixD (.obj n) (.int 1) S= .ok (.int s) S:=by simp[ixD,h,atI,ixN]
theorem set0 {g s x:Int} (h:S[n]? =some (.lst [.int g, .int s])):setD (.obj n) (.int 0) (.int x) S=some (S.set n (.lst [.int x, .int s])):=by simp[setD,h,ixN]
theorem set1 {g s x:Int} (h:S[n]? =some (.lst [.int g, .int s])):setD (.obj n) (.int 1) (.int x) S=some (S.set n (.lst [.int g, .int x])):=by simp[setD,h,ixN]
theorem mulOk_r {i j:Int} (h: -(2 ^ 64)<j∧j<2 ^ 64):mulOk i j=true:=by simp only[mulOk,decide_eq_true_eq];exact .inl (.inr h)
theorem mulOk_l {i j:Int} (h: -(2 ^ 64)<i∧i<2 ^ 64):mulOk i j=true:=by simp only[mulOk,decide_eq_true_eq];exact .inl (.inl h)
theorem take_ok (h:Hand n S) {many:Int} (hm:0<many) (hb:many<2 ^ 64):(run 2 3 mTake [.obj n, .int many] S).sat fun d S'=>(∃ i,d= .int i∧0≤i∧i<many)∧FrH n S S':=by
 obtain⟨g,s,e⟩:=h
 have h:Hand n S:=⟨g,s,e⟩
 have hlog:many.natAbs.log2<9000:=lg_lt (m:=0) (by omega)
 rw[sat_run]
 refine⟨rfl,?_⟩
 unfold mTake
 have l2:∀j:Nat,j<2 ^ 64→0<j→j.log2<9000:=fun j hj h0=>Nat.lt_trans ((Nat.log2_lt (by omega)).mpr hj) (by decide)
 by_cases hg:0<g
 ·simp[ix0 e,hg,mod_int,fdiv_int,hm,hlog,gSub,eVar,eK,set0 e]
  exact⟨⟨Int.emod_nonneg _ (by omega),Int.emod_lt_of_pos _ hm⟩, .set h _ _⟩
 ·have e2:(S.set n (.lst [.int g, .int ((s*1181783497276652981+12345678910987) % 2305843009213693951)]))[n]? =some (.lst [.int g, .int ((s*1181783497276652981+12345678910987) % 2305843009213693951)]):=by
   simp[List.getElem?_set_self h.lt]
  simp[ix0 e,ix1 e,ix1 e2,hg,mod_int,fdiv_int,mul_int,hm,hlog,gSub,eVar,eK,set1 e,mulOk_r]
  refine⟨l2 _ (by decide) (by decide),mulOk_r (by omega),l2 _ (by decide) (by decide),⟨Int.emod_nonneg _ (by omega),Int.emod_lt_of_pos _ hm⟩, .set h _ _⟩
def IsTake (tk:FN):Prop:=∀(n:Nat) (S:Store) (many:Int),Hand n S→0<many→many<2 ^ 64→(tk [.obj n, .int many] S).sat fun d S'=>(∃ i,d= .int i∧0≤i∧i<many)∧FrH n S S'
theorem isTake:IsTake (run 2 3 mTake):=fun n S many h h1 h2=>take_ok h h1 h2
def mPick (tk:FN):SD:=sRet (e2 ixD (eVar 1) (eN (callK tk []) (aCons (eVar 0) (aCons (eN lenD (aCons (eVar 1) (aNil))) (aNil)))))
theorem atI_mem {α :Type} {l:List α} {i:Int} (h0:0≤i) (h:i<l.length):∃x ∈ l,atI l i=some x:=by
 refine⟨l[i.toNat]'(by omega),List.getElem_mem _,?_⟩
 simp only[atI,ixN]
 simp[h0,h,show i.toNat<l.length by omega]
def mHand:SD:=
    sSeq (sAsg (e2 addD (e2 mulD (eK (.int 3)) (eVar 1)) (eN lenD (aCons (eVar 0) (aNil)))) (gName 2))
    (sSeq (sIf (tOfE (e2 ltD (eVar 1) (eN lenD (aCons (eVar 0) (aNil))))) (sAsg (e2 ixD (eVar 0) (eVar 1)) (gName 2)) (sSkip))
    (sSeq (sAsg (e2 mulD (e2 modD (eN absD (aCons (eVar 2) (aNil))) (e2 powD (e2 powD (eK (.int 10)) (eK (.int 60))) (eK (.int 5)))) (eN intD (aCons (e2 geD (eN absD (aCons (eVar 2) (aNil))) (e2 powD (eK (.int 10)) (eK (.int 18)))) (aNil)))) (gName 3))
    (sRet (eN mkObj (aCons (eVar 3) (aCons (e2 modD (e2 mulD (e2 addD (e2 addD (e2 modD (eVar 2) (eK (.int 2305843009213693951))) (e2 mulD (e2 mulD (eK (.int 7919)) (eVar 1)) (eVar 1))) (eK (.int 11))) (eK (.int 48271))) (eK (.int 2305843009213693951))) (aNil)))))))
def IsHand (hd:FN):Prop:=∀(S:Store) (ns:List Int) (k:Int),0≤k→k<2 ^ 32→(hd [.scr ns, .int k] S).sat fun d S'=>d= .obj S.length∧∃g s:Int,S'=S++ [.lst [.int g, .int s]]
def T60:Int:=10 ^ 60
def T300:Int:=10 ^ 300
theorem T300_pos:0<T300:=by decide +kernel
theorem pw1:powD (.int 10) (.int 60) S= .ok (.int T60) S:=by kernel_rfl
theorem pw2:powD (.int T60) (.int 5) S= .ok (.int T300) S:=by kernel_rfl
theorem pw3:powD (.int 10) (.int 18) S= .ok (.int 1000000000000000000) S:=by kernel_rfl
theorem isHand:IsHand (run 2 4 mHand):=fun S ns k h0 hk=>by
 rw[sat_run]
 refine⟨rfl,?_⟩
 have key:∀c:Int,((sSeq (sAsg (e2 mulD (e2 modD (eN absD (aCons (eVar 2) (aNil))) (e2 powD (e2 powD (eK (.int 10)) (eK (.int 60))) (eK (.int 5)))) (eN intD (aCons (e2 geD (eN absD (aCons (eVar 2) (aNil))) (e2 powD (eK (.int 10)) (eK (.int 18)))) (aNil)))) (gName 3))
  (sRet (eN mkObj (aCons (eVar 3) (aCons (e2 modD (e2 mulD (e2 addD (e2 addD (e2 modD (eVar 2) (eK (.int 2305843009213693951))) (e2 mulD (e2 mulD (eK (.int 7919)) (eVar 1)) (eVar 1))) (eK (.int 11))) (eK (.int 48271))) (eK (.int 2305843009213693951))) (aNil)))))) [some (.scr ns),some (.int k),some (.int c),none] S).sat
    (fun _ S1=>D.non= .obj S.length∧∃g s:Int,S1=S++ [.lst [.int g, .int s]]) (fun d S'=>d= .obj S.length∧∃g s:Int,S'=S++ [.lst [.int g, .int s]]) (fun _ _=>False) fun _ _=>False:=fun c=>by
  simp[pw1,pw2,pw3,absD,intD,mod_int,mul_int,T300_pos]
  refine⟨mulOk_r (by split<;>omega),mulOk_l (by omega),mulOk_r (by omega),mulOk_r (by omega),by decide⟩
 unfold mHand
 simp only[ssat_seq,ssat_asg,sat_e2,sat_eK,sat_eVar,ssat_if,sat_eN,sat_aCons,sat_aNil]
 simp[mul_int,mulOk_l]
 by_cases hc:k<ns.length
 ·obtain⟨x,hx,e⟩:=atI_mem (l:=ns) h0 hc
  simp[hc,ixD,e]
  have:=key x
  simpa[mul_int,mulOk_l] using this
 ·simp[hc]
  have:=key (3*k+ns.length)
  simpa[mul_int,mulOk_l] using this
end
end L3
namespace L3
open PySem L2
section
variable {S:Store} {env:EnvD} {Q:D→Store→Prop}
@[simp] theorem isi_tup {l:List D} :isiD [.tup l, .ty "tuple"] S= .ok (.bl true) S:=by kernel_rfl
@[simp] theorem isi_str {s:Str} :isiD [.str s, .ty "str"] S= .ok (.bl true) S:=by kernel_rfl
@[simp] theorem isi_bl {b:Bool} :isiD [.bl b, .ty "bool"] S= .ok (.bl true) S:=by kernel_rfl
@[simp] theorem isi_lst_tup {l:List D} :isiD [.lst l, .ty "tuple"] S= .ok (.bl false) S:=by kernel_rfl
@[simp] theorem isi_dic_tup {k} {l:List D} :isiD [.dic k l, .ty "tuple"] S= .ok (.bl false) S:=by kernel_rfl
@[simp] theorem isi_str_tup {l:Str} :isiD [.str l, .ty "tuple"] S= .ok (.bl false) S:=by kernel_rfl
@[simp] theorem isi_int_tup {l:Int} :isiD [.int l, .ty "tuple"] S= .ok (.bl false) S:=by kernel_rfl
@[simp] theorem isi_bl_tup {l:Bool} :isiD [.bl l, .ty "tuple"] S= .ok (.bl false) S:=by kernel_rfl
@[simp] theorem isi_non_tup:isiD [.non, .ty "tuple"] S= .ok (.bl false) S:=by kernel_rfl
@[simp] theorem isi_lst_str {l:List D} :isiD [.lst l, .ty "str"] S= .ok (.bl false) S:=by kernel_rfl
@[simp] theorem isi_tup_str {l:List D} :isiD [.tup l, .ty "str"] S= .ok (.bl false) S:=by kernel_rfl
@[simp] theorem isi_dic_str {k} {l:List D} :isiD [.dic k l, .ty "str"] S= .ok (.bl false) S:=by kernel_rfl
@[simp] theorem isi_int_str {l:Int} :isiD [.int l, .ty "str"] S= .ok (.bl false) S:=by kernel_rfl
@[simp] theorem isi_bl_str {l:Bool} :isiD [.bl l, .ty "str"] S= .ok (.bl false) S:=by kernel_rfl
@[simp] theorem isi_non_str:isiD [.non, .ty "str"] S= .ok (.bl false) S:=by kernel_rfl
@[simp] theorem isi_int {l:Int} :isiD [.int l, .ty "int"] S= .ok (.bl true) S:=by kernel_rfl
@[simp] theorem isi_bl_int {l:Bool} :isiD [.bl l, .ty "int"] S= .ok (.bl true) S:=by kernel_rfl
@[simp] theorem isi_int_bl {l:Int} :isiD [.int l, .ty "bool"] S= .ok (.bl false) S:=by kernel_rfl
@[simp] theorem isi_tup_int {l:List D} :isiD [.tup l, .ty "int"] S= .ok (.bl false) S:=by kernel_rfl
@[simp] theorem isi_lst_int {l:List D} :isiD [.lst l, .ty "int"] S= .ok (.bl false) S:=by kernel_rfl
@[simp] theorem isi_dic_int {k} {l:List D} :isiD [.dic k l, .ty "int"] S= .ok (.bl false) S:=by kernel_rfl
@[simp] theorem isi_str_int {l:Str} :isiD [.str l, .ty "int"] S= .ok (.bl false) S:=by kernel_rfl
@[simp] theorem isi_non_int:isiD [.non, .ty "int"] S= .ok (.bl false) S:=by kernel_rfl
@[simp] theorem eq_strs {a b:Str} :eqD (.str a) (.str b) S= .ok (.bl (a==b)) S:=nrfl rfl
@[simp] theorem ne_strs {a b:Str} :neD (.str a) (.str b) S= .ok (.bl (!(a==b))) S:=nrfl rfl
@[simp] theorem eq_tup0 {l:List D} :eqD (.tup l) (.tup []) S= .ok (.bl l.isEmpty) S:=nrfl rfl
@[simp] theorem ne_tup0 {l:List D} :neD (.tup l) (.tup []) S= .ok (.bl (!l.isEmpty)) S:=nrfl rfl
theorem all_lst:∀bs:List Bool,allBls (bs.map D.bl)=some bs
 | [] =>rfl
 |b::bs=>by simp[allBls,all_lst bs]
theorem all_bl (bs:List Bool):allD [.lst (bs.map D.bl)] S= .ok (.bl (bs.all id)) S:=by simp[allD,asL,all_lst]
theorem small {n:Nat} (h:n≤1000):n≤sizeLine:=Nat.le_trans h (by decide)
variable {N B C:EnvD→Store→Prop} {T:D→Store→Prop}
theorem seq_rule {a b:SD} (M:EnvD→Store→Prop) (h:(a env S).sat M T B C) (k:∀e S,M e S→(b e S).sat N T B C):(sSeq a b env S).sat N T B C:=by
 rw[ssat_seq];exact ssat_mono h k (fun _ _ h=>h) (fun _ _ h=>h) fun _ _ h=>h
@[simp] theorem sat_pNo {QO:Option Int→Store→Prop} :(pNo env S).sat QO=QO none S:=sat_ok
@[simp] theorem sat_pYes {a:ED} {QO:Option Int→Store→Prop} :(pYes a env S).sat QO=(a env S).sat fun x S1=>∃i,x= .int i∧QO (some i) S1:=by
  unfold pYes;rw[sat_bind];congr;funext x S1
  cases x<;>simp
@[simp] theorem sat_eSl {a:ED} {l h:PD} :(eSl a l h env S).sat Q=(a env S).sat fun x S1=>(l env S1).sat fun lo S2=>(h env S2).sat fun hi S3=>(slD x lo hi S3).sat Q:=by
  unfold eSl;simp only[sat_bind]
@[simp] theorem sl_tup {l:List D} {lo hi:Option Int} :slD (.tup l) lo hi S= .ok (.tup (cutL l lo hi)) S:=nrfl rfl
@[simp] theorem sl_lst {l:List D} {lo hi:Option Int} :slD (.lst l) lo hi S= .ok (.lst (cutL l lo hi)) S:=nrfl rfl
@[simp] theorem sat_eBackT {a:ED} :(eBackT a env S).sat Q=(a env S).sat fun x S1=>∃l,x= .tup l∧Q (.tup l.reverse) S1:=by
  unfold eBackT;rw[sat_bind];congr;funext x S1
  cases x<;>simp
@[simp] theorem sat_eDic0:(eDic0 env S).sat Q=Q (.dic [] []) S:=sat_ok
@[simp] theorem sat_eDct0:(eDct0 env S).sat Q=Q (.obj S.length) (S++ [.dK []]):=sat_ok
end
end L3
namespace L3
open PySem L2
section
variable {S:Store} {env:EnvD} {Q:D→Store→Prop} {QL:List D→Store→Prop} {N B C:EnvD→Store→Prop} {T:D→Store→Prop}
@[simp] theorem gSeq_lst {is:List Nat} {l:List D} :gSeq is (.lst l) env S=gNames is l env S:=nrfl rfl
@[simp] theorem gSeq_tup {is:List Nat} {l:List D} :gSeq is (.tup l) env S=gNames is l env S:=nrfl rfl
end
end L3
namespace L3
open PySem L2
def WORDS:List Str:= ["plus","times","most","row","say","less","below","if","let","each","num","name","any","rest","called","count"]
def isLet (c:Nat):Bool:=decide (97≤c)&&decide (c≤122)
def shape (w:Str):Option (Nat × Nat × Bool):=
 if w= "plus" ∨w= "times" ∨w= "most" then some (1,6,false)
 else if w= "row" then some (0,6,false)
 else if w= "say" then some (1,1,false)
 else if w= "less" ∨w= "below" then some (2,2,false)
 else if w= "if" then some (3,3,false)
 else if w= "let" ∨w= "each" then some (2,2,true)
 else none
inductive Src (n:Nat) (S:Store):D→List D→Prop where
 |lst (l:List D):Src n S (.lst l) l
 |tup (l:List D):Src n S (.tup l) l
 |str (z:Str):z.length≤1000→Src n S (.str z) (z.cps.toList.map sgn)
 |obj {q:Nat} {l:List D} :q≠n→S[q]? =some (.lst l)→Src n S (.obj q) l
theorem Src.fr {n:Nat} {S S':Store} {x:D} {l:List D} (h:Src n S x l) (f:FrH n S S'):Src n S' x l:=by
 cases h with
 |lst=>exact .lst _
 |tup=>exact .tup _
 |str _ hz=>exact .str _ hz
 |obj hq e=>exact .obj hq (f.fr _ _ hq e)
theorem Src.len {n:Nat} {S:Store} {x:D} {l:List D} (h:Src n S x l):lenD [x] S= .ok (.int l.length) S:=by
 cases h with
 |lst=>rfl
 |tup=>rfl
 |str z hz=>
  unfold lenD
  simp only
  rw[if_pos (small hz)]
  simp[Str.length]
 |obj _ e=>exact len_obj e
theorem atI_map {α β :Type} (f: α → β) (l:List α) (i:Int):atI (l.map f) i=(atI l i).map f:=by
 unfold atI
 rw[List.length_map]
 cases ixN l.length i with
 |none=>rfl
 |some j=>simp
theorem Src.ix {n:Nat} {S:Store} {x:D} {l:List D} (h:Src n S x l) {i:Int} (h0:0≤i) (h1:i<l.length):∃d ∈ l,ixD x (.int i) S= .ok d S:=by
 obtain⟨d,hd,e⟩:=atI_mem h0 h1
 refine⟨d,hd,?_⟩
 cases h with
 |lst=>simp[ixD,e]
 |tup=>simp[ixD,e]
 |str z hz=>
  rw[atI_map] at e
  cases q:atI z.cps.toList i with
  |none=>rw[q] at e;cases e
  |some c=>
   rw[q] at e
   cases e
   simp only[ixD]
   rw[if_pos (small hz),q]
 |obj _ e2=>simp[ixD,e2,e]
def IsPick2 (pk:FN):Prop:=∀(n:Nat) (S:Store) (x:D) (l:List D),Hand n S→Src n S x l→l≠ [] →l.length<2 ^ 32→(pk [.obj n,x] S).sat fun d S'=>d ∈ l∧FrH n S S'
theorem isPick2 {tk:FN} (ht:IsTake tk):IsPick2 (run 2 2 (mPick tk)):=fun n S x l h hs h1 h2=>by
 have hl:0<l.length:=(match l,h1 with|_::_,_=>by simp)
 rw[sat_run]
 refine⟨rfl,?_⟩
 unfold mPick
 simp only[ssat_sRet,sat_e2,sat_eVar,sat_eN,sat_aCons,sat_aNil,callK_eq,List.append_nil,List.map_cons,List.map_nil,List.length_cons,List.length_nil,List.replicate,List.getElem?_cons_succ,List.getElem?_cons_zero,List.cons_append,List.nil_append,hs.len,sat_ok]
 refine sat_mono (ht n S l.length h (by omega) (by omega)) fun d S' q=> ?_
 obtain⟨⟨i,rfl,h0,h3⟩,fr⟩:=q
 obtain⟨d,hd,e⟩:=(hs.fr fr).ix h0 h3
 rw[e,sat_ok]
 exact⟨hd,fr⟩
end L3
namespace L3
open PySem L2
def isNm:D→Bool
 | .str s=>decide (1≤s.length)&&decide (s.length≤8)&& !decide (s ∈ WORDS)&&s.cps.toList.all isLet
 | _=>false
def isNum:D→Bool
 | .int i=>decide (0≤i)&&decide (i≤9972)
 | _=>false
def isEmp:D→Bool
 | .str s=>decide (s= "")
 | _=>false
def fits (w:Str) (m:D) (n:Nat):Bool:=match shape w with
 |some (f,mo,g)=>decide (f≤n)&&decide (n≤mo)&&(if g=true then isNm m else isEmp m)
 |none=>false
def ok:Nat→D→Bool
 |0,_=>false
 |k+1, .tup [.str w,m, .tup ps] =>
  if w= "num" then isNum m&&ps.isEmpty
  else if w= "name" then isNm m&&ps.isEmpty
  else fits w m ps.length&&ps.all (ok k)
 | _+1,_=>false
end L3
namespace L3
open PySem L2
theorem join_le (ts:List Str):(Str.join ", " ts).length≤piled ts:=by
 by_cases h:ts= []
 ·subst h;decide +kernel
 ·have:=join_length_add ts h;omega
section
variable {env:EnvD} {S S1:Store} {N B C:EnvD→Store→Prop} {T:D→Store→Prop} {c:TD} {a:ED} {r s t:SD}
theorem step_no (hc:c env S= .ok false S1) (h:(r env S1).sat N T B C):(sSeq (sIf c s sSkip) r env S).sat N T B C:=by
 rw[ssat_seq,ssat_if,hc,sat_ok,if_neg Bool.false_ne_true,ssat_skip];exact h
theorem step_asg {d:D} {g:GD} {env':EnvD} {S2:Store} (ha:a env S= .ok d S1) (hg:g d env S1= .nx env' S2) (h:(r env' S2).sat N T B C):(sSeq (sAsg a g) r env S).sat N T B C:=by
 rw[ssat_seq,ssat_asg,ha,sat_ok,hg,ssat_nx];exact h
end
end L3
inductive L3.R.esat {α :Type} (E:L3.Ex→L3.Store→Prop):L3.R α →(α →L3.Store→Prop)→Prop where
 |mk {a: α} {S:L3.Store} {Q: α →L3.Store→Prop} (h:Q a S):L3.R.esat E (.ok a S) Q
 |ex {e:L3.Ex} {S:L3.Store} {Q: α →L3.Store→Prop} (h:E e S):L3.R.esat E (.exc e S) Q
inductive L3.SR.esat (F:L3.Ex→L3.EnvD→L3.Store→Prop):L3.SR→(L3.EnvD→L3.Store→Prop)→(L3.D→L3.Store→Prop)→(L3.EnvD→L3.Store→Prop)→(L3.EnvD→L3.Store→Prop)→Prop where
 |nx {e S} {N:L3.EnvD→L3.Store→Prop} {T:L3.D→L3.Store→Prop} {B C:L3.EnvD→L3.Store→Prop} (h:N e S):L3.SR.esat F (.nx e S) N T B C
 |ret {d S} {N:L3.EnvD→L3.Store→Prop} {T:L3.D→L3.Store→Prop} {B C:L3.EnvD→L3.Store→Prop} (h:T d S):L3.SR.esat F (.ret d S) N T B C
 |brk {e S} {N:L3.EnvD→L3.Store→Prop} {T:L3.D→L3.Store→Prop} {B C:L3.EnvD→L3.Store→Prop} (h:B e S):L3.SR.esat F (.brk e S) N T B C
 |ct {e S} {N:L3.EnvD→L3.Store→Prop} {T:L3.D→L3.Store→Prop} {B C:L3.EnvD→L3.Store→Prop} (h:C e S):L3.SR.esat F (.ct e S) N T B C
 |exc {x e S} {N:L3.EnvD→L3.Store→Prop} {T:L3.D→L3.Store→Prop} {B C:L3.EnvD→L3.Store→Prop} (h:F x e S):L3.SR.esat F (.exc x e S) N T B C
namespace L3.X
open PySem L2 L3
section
variable {α β :Type} {S:Store} {env:EnvD} {d:D} {E:Ex→Store→Prop}
@[simp] theorem sat_ok {a: α} {Q: α →Store→Prop} :(R.ok a S).esat E Q=Q a S:=propext ⟨fun h=>by cases h;assumption, .mk⟩
@[simp] theorem sat_bad {Q: α →Store→Prop} :(R.bad:R α).esat E Q=False:=propext ⟨fun h=>(by cases h),False.elim⟩
@[simp] theorem sat_exc {e:Ex} {Q: α →Store→Prop} :(R.exc e S:R α).esat E Q=E e S:=propext ⟨fun h=>(by cases h;assumption), .ex⟩
theorem sat_bind {r:R α} {f: α →Store→R β} {Q: β →Store→Prop} :(r.bind f).esat E Q=r.esat E fun a S=>(f a S).esat E Q:=by cases r<;>simp[R.bind]
variable {Q:D→Store→Prop} {QB:Bool→Store→Prop} {QL:List D→Store→Prop}
@[simp] theorem sat_blD {x:D} :(blD x S).esat E QB=∃k,x= .bl k∧QB k S:=by
  unfold blD;cases x<;>simp
theorem sat_if_bad {c:Prop} [Decidable c] {a:R α} {Q: α →Store→Prop} :(if c then a else .bad).esat E Q=(c∧a.esat E Q):=by by_cases h:c<;>simp[h]
@[simp] theorem sat_eVar {i:Nat} :(eVar i env S).esat E Q=match env[i]? with
   |some (some d)=>Q d S
   | _=>False:=by unfold eVar;cases env[i]? with
  |none=>simp
  |some o=>cases o<;>simp
@[simp] theorem sat_eK:(eK d env S).esat E Q=Q d S:=sat_ok
@[simp] theorem sat_e1 {f:L3.F1} {a:ED} :(e1 f a env S).esat E Q=(a env S).esat E fun x S1=>(f x S1).esat E Q:=sat_bind
@[simp] theorem sat_e2 {f:L3.F2} {a b:ED} :(e2 f a b env S).esat E Q=(a env S).esat E fun x S1=>(b env S1).esat E fun y S2=>(f x y S2).esat E Q:=by unfold e2;rw[sat_bind];simp only[sat_bind]
@[simp] theorem sat_aNil:(aNil env S).esat E QL=QL [] S:=sat_ok
@[simp] theorem sat_aCons {a:ED} {r:AD} :(aCons a r env S).esat E QL=(a env S).esat E fun x S1=>(r env S1).esat E fun xs S2=>QL (x::xs) S2:=by unfold aCons;rw[sat_bind];simp only[sat_bind,sat_ok]
@[simp] theorem sat_eN {f:FN} {a:AD} :(eN f a env S).esat E Q=(a env S).esat E fun xs S1=>(f xs S1).esat E Q:=sat_bind
@[simp] theorem sat_eIf {c:TD} {a b:ED} :(eIf c a b env S).esat E Q=(c env S).esat E fun k S1=>if k=true then(a env S1).esat E Q else(b env S1).esat E Q:=by
  unfold eIf;rw[sat_bind];congr;funext k S1;cases k<;>simp
@[simp] theorem sat_tOfE {a:ED} :(tOfE a env S).esat E QB=(a env S).esat E fun x S1=>(blD x S1).esat E QB:=by
  unfold tOfE;rw[sat_bind];congr
@[simp] theorem sat_tTruth {a:ED} :(tTruth a env S).esat E QB=(a env S).esat E fun x S1=>(truthD x S1).esat E QB:=sat_bind
@[simp] theorem sat_tNot {a:TD} :(tNot a env S).esat E QB=(a env S).esat E fun k S1=>QB (!k) S1:=by unfold tNot;rw[sat_bind];simp only[sat_ok]
@[simp] theorem sat_tAnd {a b:TD} :(tAnd a b env S).esat E QB=(a env S).esat E fun k S1=>if k=true then(b env S1).esat E QB else QB false S1:=by
  unfold tAnd;rw[sat_bind];congr;funext k S1;cases k<;>simp
@[simp] theorem sat_tOr {a b:TD} :(tOr a b env S).esat E QB=(a env S).esat E fun k S1=>if k=true then QB true S1 else(b env S1).esat E QB:=by
  unfold tOr;rw[sat_bind];congr;funext k S1;cases k<;>simp
@[simp] theorem sat_eNot {a:ED} :(eNot a env S).esat E Q=(a env S).esat E fun x S1=>(blD x S1).esat E fun k S2=>Q (.bl (!k)) S2:=by
  unfold eNot;rw[sat_bind,sat_tOfE];simp only[sat_ok]
@[simp] theorem sat_eAnd {a b:ED} :(eAnd a b env S).esat E Q=(a env S).esat E fun x S1=>(blD x S1).esat E fun k S2=>if k=true then(b env S2).esat E Q else Q (.bl false) S2:=by
  unfold eAnd;rw[sat_bind,sat_tOfE];congr;funext x S1;congr;funext k S2;cases k<;>simp
@[simp] theorem sat_eOr {a b:ED} :(eOr a b env S).esat E Q=(a env S).esat E fun x S1=>(blD x S1).esat E fun k S2=>if k=true then Q (.bl true) S2 else(b env S2).esat E Q:=by
  unfold eOr;rw[sat_bind,sat_tOfE];congr;funext x S1;congr;funext k S2;cases k<;>simp
@[simp] theorem sat_eChain {f g:L3.F2} {a b c:ED} :(eChain f g a b c env S).esat E Q=(a env S).esat E fun x S1=>(b env S1).esat E fun y S2=>(f x y S2).esat E fun r S3=>(blD r S3).esat E fun k S4=>if k=true then(c env S4).esat E fun z S5=>(g y z S5).esat E Q else Q (.bl false) S4:=by
  unfold eChain;rw[sat_bind];simp only[sat_bind];congr;funext x S1;congr;funext y S2;congr;funext r S3
  cases r with
  |bl k=>cases k<;>simp[sat_bind]
  | _=>simp[blD]
@[simp] theorem sat_eBM {T:String} {f:D→FN} {o:ED} {a:AD} :(eBM T f o a env S).esat E Q=(o env S).esat E fun x S1=>(mtD x S1=some T∧(a env S1).esat E fun xs S2=>(f x xs S2).esat E Q):=by
  unfold eBM;rw[sat_bind];congr;funext x S1;rw[sat_if_bad,sat_bind]
@[simp] theorem sat_eKw {f:List D→FN} {a b:AD} :(eKw f a b env S).esat E Q=(a env S).esat E fun xs S1=>(b env S1).esat E fun zs S2=>(f xs zs S2).esat E Q:=by unfold eKw;rw[sat_bind];simp only[sat_bind]
@[simp] theorem sat_eFnL {i:Nat} {x:Str} {F:FN} {a:AD} :(eFnL i x F a env S).esat E Q=match env[i]? with
   |some (some (.glb y))=>y=x∧(a env S).esat E fun xs S1=>(F xs S1).esat E Q
   | _=>False:=by
  unfold eFnL
  cases env[i]? with
  |none=>simp
  |some o=>
   cases o with
   |none=>simp
   |some d=>
    cases d with
    |glb y=>simp only [];rw[sat_if_bad,sat_bind]
    | _=>simp
@[simp] theorem sat_iSeq {a:ED} :(iSeq a env S).esat E QL=(a env S).esat E fun x S1=>(itemsD x S1).esat E QL:=sat_bind
@[simp] theorem sat_iArgs {f:List D→Store→R (List D)} {a:AD} :(iArgs f a env S).esat E QL=(a env S).esat E fun xs S1=>(f xs S1).esat E QL:=sat_bind
@[simp] theorem sat_range1 {j:Int} :(range1 [.int j] S).esat E QL=(okRng j=true∧QL (rangeD 0 j) S):=by unfold range1;simp only [];rw[sat_if_bad,sat_ok]
@[simp] theorem sat_range2 {i j:Int} :(range2 [.int i, .int j] S).esat E QL=((okRng i&&okRng j)=true∧QL (rangeD i j) S):=by unfold range2;simp only [];rw[sat_if_bad,sat_ok]
@[simp] theorem sat_mkTup {xs:List D} :(mkTup xs S).esat E Q=(xs.length≤sizeLine∧Q (.tup xs) S):=by unfold mkTup;rw[sat_if_bad,sat_ok]
@[simp] theorem sat_mkLst {xs:List D} :(mkLst xs S).esat E Q=(xs.length≤sizeLine∧Q (.lst xs) S):=by unfold mkLst;rw[sat_if_bad,sat_ok]
@[simp] theorem sat_mkObj {xs:List D} :(mkObj xs S).esat E Q=(xs.length≤sizeLine∧Q (.obj S.length) (S++ [.lst xs])):=by unfold mkObj;rw[sat_if_bad,sat_ok]
@[simp] theorem sat_pNo {QO:Option Int→Store→Prop} :(pNo env S).esat E QO=QO none S:=sat_ok
@[simp] theorem sat_pYes {a:ED} {QO:Option Int→Store→Prop} :(pYes a env S).esat E QO=(a env S).esat E fun x S1=>∃i,x= .int i∧QO (some i) S1:=by
  unfold pYes;rw[sat_bind];congr;funext x S1
  cases x<;>simp
@[simp] theorem sat_eSl {a:ED} {l h:PD} :(eSl a l h env S).esat E Q=(a env S).esat E fun x S1=>(l env S1).esat E fun lo S2=>(h env S2).esat E fun hi S3=>(slD x lo hi S3).esat E Q:=by
  unfold eSl;simp only[sat_bind]
@[simp] theorem sat_eBackT {a:ED} :(eBackT a env S).esat E Q=(a env S).esat E fun x S1=>∃l,x= .tup l∧Q (.tup l.reverse) S1:=by
  unfold eBackT;rw[sat_bind];congr;funext x S1
  cases x<;>simp
@[simp] theorem sat_eDic0:(eDic0 env S).esat E Q=Q (.dic [] []) S:=sat_ok
@[simp] theorem sat_eDct0:(eDct0 env S).esat E Q=Q (.obj S.length) (S++ [.dK []]):=sat_ok
end
section
variable {S S1:Store} {env:EnvD} {d:D} {N B C:EnvD→Store→Prop} {T:D→Store→Prop} {Q:D→Store→Prop} {F:Ex→EnvD→Store→Prop} {E:Ex→Store→Prop}
@[simp] theorem ssat_nx:(SR.nx env S).esat F N T B C=N env S:=propext ⟨fun h=>by cases h;assumption, .nx⟩
@[simp] theorem ssat_ret:(SR.ret d S).esat F N T B C=T d S:=propext ⟨fun h=>by cases h;assumption, .ret⟩
@[simp] theorem ssat_brk:(SR.brk env S).esat F N T B C=B env S:=propext ⟨fun h=>by cases h;assumption, .brk⟩
@[simp] theorem ssat_ct:(SR.ct env S).esat F N T B C=C env S:=propext ⟨fun h=>by cases h;assumption, .ct⟩
@[simp] theorem ssat_bad:SR.bad.esat F N T B C=False:=propext ⟨fun h=>(by cases h),False.elim⟩
@[simp] theorem ssat_exc {e:Ex} :(SR.exc e env S).esat F N T B C=F e env S:=propext ⟨fun h=>(by cases h;assumption), .exc⟩
theorem ssat_toS {α :Type} {r:R α} {k: α →Store→SR} :(r.toS env k).esat F N T B C=r.esat (fun e S=>F e env S) fun a S=>(k a S).esat F N T B C:=by cases r<;>simp[R.toS]
@[simp] theorem ssat_skip:(sSkip env S).esat F N T B C=N env S:=ssat_nx
@[simp] theorem ssat_seq {a b:SD} :(sSeq a b env S).esat F N T B C=(a env S).esat F (fun e S=>(b e S).esat F N T B C) T B C:=by
  unfold sSeq;cases a env S<;>simp
@[simp] theorem ssat_if {c:TD} {a b:SD} :(sIf c a b env S).esat F N T B C=(c env S).esat (fun e S=>F e env S) fun k S1=>if k=true then(a env S1).esat F N T B C else(b env S1).esat F N T B C:=by
  unfold sIf;rw[ssat_toS];congr;funext k S1;cases k<;>simp
@[simp] theorem ssat_sRet {a:ED} :(sRet a env S).esat F N T B C=(a env S).esat (fun e S=>F e env S) T:=by unfold sRet;rw[ssat_toS];simp only[ssat_ret]
@[simp] theorem ssat_sExpr {a:ED} :(sExpr a env S).esat F N T B C=(a env S).esat (fun e S=>F e env S) fun _ S1=>N env S1:=by unfold sExpr;rw[ssat_toS];simp only[ssat_nx]
@[simp] theorem ssat_sBrk:(sBrk env S).esat F N T B C=B env S:=ssat_brk
@[simp] theorem ssat_sCt:(sCt env S).esat F N T B C=C env S:=ssat_ct
@[simp] theorem ssat_asg {a:ED} {g:GD} :(sAsg a g env S).esat F N T B C=(a env S).esat (fun e S=>F e env S) fun d S1=>(g d env S1).esat F N T B C:=by unfold sAsg;rw[ssat_toS]
@[simp] theorem ssat_par {is:List Nat} {a:AD} :(sPar is a env S).esat F N T B C=(a env S).esat (fun e S=>F e env S) fun xs S1=>(gNames is xs env S1).esat F N T B C:=by unfold sPar;rw[ssat_toS]
@[simp] theorem ssat_raise0 {c:Str} :(sRaise0 c env S).esat F N T B C=F ⟨c,[]⟩ env S:=ssat_exc
@[simp] theorem ssat_raise1 {c f:Str} {a:ED} :(sRaise1 c f a env S).esat F N T B C=(a env S).esat (fun e S=>F e env S) fun d S1=>F ⟨c,[(f,d)]⟩ env S1:=by unfold sRaise1;rw[ssat_toS];simp only[ssat_exc]
@[simp] theorem forL_nil {g:GD} {body:SD} :(forL g body [] env S).esat F N T B C=N env S:=ssat_nx
end
end L3.X
namespace L3
open PySem L2
variable {S:Store}
def Sh (W Dp:Nat) (x:D):Prop:=∃a,toPyR x=some a∧a.showable=true∧a.shown.length≤W∧a.depth≤Dp
theorem Sh.mono {W W' Dp Dp':Nat} {x:D} (h:Sh W Dp x) (h1:W≤W') (h2:Dp≤Dp'):Sh W' Dp' x:=by
 obtain⟨a,e1,e2,e3,e4⟩:=h
 exact⟨a,e1,e2,by omega,by omega⟩
theorem sh_int {i:Int} (h:i.natAbs<10 ^ 41):Sh 100 0 (.int i):=by
 refine⟨.int i,rfl,?_,?_,by simp[PyData.depth]⟩
 ·simp only[PyData.showable,decide_eq_true_eq]
  by_cases z:i.natAbs=0
  ·rw[z];decide
  ·exact Nat.lt_trans ((Nat.log2_lt z).mpr (Nat.lt_trans h (by decide:(10:Nat) ^ 41<2 ^ 140))) (by decide)
 ·rw[PyData.shown_int]
  have:=int_text_length_le10 (k:=41) (by decide) h
  have e:(Str.ofString (toString i)).length=(toString i).length:=by
   rw[Str.ofString_eq_toList]
   simp only[Str.length,List.size_toArray,List.length_map]
   first|exact String.length_toList|rfl|simp[String.length]
  omega
theorem shs {W Dp:Nat} :∀ {l:List D},(∀ x ∈ l,Sh W Dp x)→∃as,toPyRL l=some as∧PyData.showableAll as=true∧piled (PyData.shownAll as)≤l.length*(W+2)∧PyData.depthAll as≤Dp
 | [],_=>⟨[],rfl,by simp[PyData.showableAll],by simp[PyData.shownAll,piled],by simp[PyData.depthAll]⟩
 |x::l,h=>by
  obtain⟨a,e1,e2,e3,e4⟩:=h x (List.mem_cons_self ..)
  obtain⟨as,f1,f2,f3,f4⟩:=shs fun y hy=>h y (List.mem_cons_of_mem _ hy)
  refine⟨a::as,by simp only[toPyRL,e1,f1],by simp[PyData.showableAll,e2,f2],?_,by simp only[PyData.depthAll];omega⟩
  simp only[PyData.shownAll,piled_cons,List.length_cons,Nat.add_mul];omega
theorem sh_lst {W Dp:Nat} {l:List D} (h:∀x ∈ l,Sh W Dp x):Sh (l.length*(W+2)+10) (Dp+1) (.lst l):=by
 obtain⟨as,e1,e2,e3,e4⟩:=shs h
 refine⟨.list as,by simp only[toPyR,e1];rfl,by simpa[PyData.showable] using e2,?_,by simp only[PyData.depth];omega⟩
 rw[PyData.shown_list,strLen_append,strLen_append]
 have:=join_le (PyData.shownAll as)
 have a1:(("[" :String):Str).length=1:=rfl
 have a2:(("]" :String):Str).length=1:=rfl
 omega
theorem repr_sh {W Dp:Nat} {x:D} (h:Sh W Dp x) (hw:W≤1000000) (hd:Dp≤100):∃z:Str,∀S,reprD [x] S= .ok (.str z) S:=by
 obtain⟨a,e1,e2,e3,e4⟩:=h
 refine⟨a.shown,fun S=> ?_⟩
 have hde:deref x S=x:=by
  cases x with
  |obj n=>cases e1
  | _=>rfl
 have hok:showOk a=true:=by
  simp only[showOk,e2,Bool.true_and,Bool.and_eq_true,decide_eq_true_eq]
  exact⟨Nat.le_trans (by omega) (by decide:1000000≤sizeLine),by omega⟩
 unfold reprD
 simp only[hde,e1]
 rw[if_pos hok]
end L3
namespace K06
open PySem L2 L3
def manys:List D:= [.int 0, .int 1, .int 59, .int (10 ^ 40), .int (-1)]
def whoms:List D:= [.str "a", .str "xs", .str "", .str "none", .str "great"]
def odds:List D:= [.non, .bl true, .tup [.int 0, .int 0, .int 1], .tup [], .lst [.int 1], .str "x"]
def errs (m w o:D):List D:= [.xcp "NoText" ["at"] [m], .xcp "NoWay" ["why"] [w], .xcp "NoLine" ["line"] [o], .xcp "NoPattern" [] [], .xcp "NoBook" [] [], .xcp "Nothing" [] [], .xcp "NoFit" [] [],
 .xcp "NoPlace" ["place"] [o], .xcp "NoName" ["name"] [w], .xcp "NoNumber" ["number"] [m], .xcp "Untold" ["name"] [w]]
structure Dr (m w o:D):Prop where
 m:m ∈ manys
 w:w ∈ whoms
 o:o ∈ odds
theorem made (m w o:D) (S:Store):Fs 69 3 [m,w,o] S= .ok (.tup [.lst (errs m w o), .lst (errs m w o)]) S:=by kernel_rfl
theorem classes (m w o:D) (S:Store):Fs 69 5 [.lst (errs m w o)] S= .ok (.bl true) S:=by kernel_rfl
theorem sh_all:(∀ m ∈ manys,Sh 200 3 m)∧(∀ w ∈ whoms,Sh 200 3 w)∧∀o ∈ odds,Sh 200 3 o:=by
 refine⟨fun x h=> ?_,fun x h=> ?_,fun x h=> ?_⟩
 all_goals
  simp only[manys,whoms,odds,List.mem_cons,List.not_mem_nil,or_false] at h
 ·rcases h with rfl|rfl|rfl|rfl|rfl
  all_goals exact(sh_int (by decide +kernel)).mono (by decide) (by decide)
 ·rcases h with rfl|rfl|rfl|rfl|rfl
  all_goals exact⟨_,rfl,by decide +kernel,by decide +kernel,by decide +kernel⟩
 ·rcases h with rfl|rfl|rfl|rfl|rfl|rfl
  all_goals exact⟨_,rfl,by decide +kernel,by decide +kernel,by decide +kernel⟩
theorem values {m w o:D} (d:Dr m w o) (S:Store):Fs 69 4 [.lst (errs m w o),m,w,o] S= .ok (.bl true) S:=by
 obtain⟨z,hz⟩:=repr_sh (x:= .lst [m,w,o,o,w,m,w]) (sh_lst (W:=200) (Dp:=3) (by
  intro x hx
  simp only[List.mem_cons,List.not_mem_nil,or_false] at hx
  rcases hx with rfl|rfl|rfl|rfl|rfl|rfl|rfl
  all_goals first|exact sh_all.1 _ d.m|exact sh_all.2.1 _ d.w|exact sh_all.2.2 _ d.o)) (by simp) (by decide)
 apply of_sat
 rw[show (69:Nat)=68+1 from rfl,Fs_law_values_right,sat_run]
 refine⟨rfl,?_⟩
 unfold m_law_values_right
 refine step_asg (S1:=S) (S2:=S) (d:= .lst [m,w,o,o,w,m,w]) (env':= [some (.lst (errs m w o)),some m,some w,some o,some (.lst [m,w,o,o,w,m,w])]) (by kernel_rfl) rfl ?_
 have e1:(eN reprD (aCons (eVar 4) (aNil))) [some (.lst (errs m w o)),some m,some w,some o,some (.lst [m,w,o,o,w,m,w])] S= .ok (.str z) S:=by
  apply of_sat
  simp only[sat_eN,sat_aCons,sat_aNil,sat_eVar,List.getElem?_cons_succ,List.getElem?_cons_zero,hz,sat_ok,and_self]
 have e2:(eN mkLst (aCons (eVar 1) (aCons (eVar 2) (aCons (eVar 3) (aCons (eVar 3) (aCons (eVar 2) (aCons (eVar 1) (aCons (eVar 2) (aNil))))))))) [some (.lst (errs m w o)),some m,some w,some o,some (.lst [m,w,o,o,w,m,w])] S= .ok (.lst [m,w,o,o,w,m,w]) S:=by kernel_rfl
 rw[ssat_sRet,sat_e2,e1,sat_ok,sat_eN,sat_aCons,e2,sat_ok,sat_aNil,hz,sat_ok]
 rw[eq_strs,sat_ok]
 simp
theorem raised0 (m w:D) (S:Store):Fs 69 6 [.int 0,m,w] S= .ok (.tup [.str "refused",w]) S:=by kernel_rfl
theorem raised1 (m w:D) (S:Store):Fs 69 6 [.int 1,m,w] S= .ok (.tup [.str "missing",m]) S:=by kernel_rfl
theorem raised2 (m w:D) (S:Store):Fs 69 6 [.int 2,m,w] S= .ok (.tup [.str "halted",w]) S:=by kernel_rfl
def told (m w:D):D:= .lst [.tup [.str "refused",w], .tup [.str "missing",m], .tup [.str "halted",w]]
theorem told_ne {m w o:D} (d:Dr m w o) (S:Store):neD (told m w) (told m w) S= .ok (.bl false) S:=by
 obtain⟨hm,hw,ho⟩:=d
 simp only[manys,whoms,List.mem_cons,List.not_mem_nil,or_false] at hm hw
 rcases hm with rfl|rfl|rfl|rfl|rfl<;>rcases hw with rfl|rfl|rfl|rfl|rfl<;>kernel_rfl
end K06
namespace K06
open PySem L2 L3
variable {S:Store} {n:Nat}
theorem tk (k:Nat):IsTake (Fs (k+1) 1):=by rw[Fs_law_take];exact isTake
theorem pk (k:Nat):IsPick2 (Fs (k+2) 2):=by rw[show k+2=k+1+1 from rfl,Fs_law_pick];exact isPick2 (tk k)
def kd (p:D × D × D):D:= .tup [.lst (errs p.1 p.2.1 p.2.2),p.1,p.2.1,p.2.2]
def Kp (K:List (D × D × D)):Prop:=∀p ∈ K,Dr p.1 p.2.1 p.2.2
structure Kep (j:Nat) (S:Store):Prop where
 ex:∃K,Kp K∧K.length=j∧S[(0:Nat)]? =some (.lst (K.map kd))
theorem Kep.fr {j:Nat} {S S':Store} (h:Kep j S) (hn:n≠0) (f:FrH n S S'):Kep j S':=by
 obtain⟨K,a,b,c⟩:=h.ex
 exact⟨K,a,b,f.fr 0 _ (Ne.symm hn) c⟩
theorem mk5:(eN mkLst (aCons (eK (.int 0)) (aCons (eK (.int 1)) (aCons (eK (.int 59)) (aCons (e2 powD (eK (.int 10)) (eK (.int 40))) (aCons (e1 negD (eK (.int 1))) (aNil)))))):ED)=fun env S=> .ok (.lst manys) S:=by
 funext env S
 kernel_rfl
theorem mkw:(eN mkLst (aCons (eK (.str "a")) (aCons (eK (.str "xs")) (aCons (eK (.str "")) (aCons (eK (.str "none")) (aCons (eK (.str "great")) (aNil)))))):ED)=fun env S=> .ok (.lst whoms) S:=by
 funext env S
 kernel_rfl
theorem mko:(eN mkLst (aCons (eK .non) (aCons (eK (.bl true)) (aCons (eN mkTup (aCons (eK (.int 0)) (aCons (eK (.int 0)) (aCons (eK (.int 1)) (aNil))))) (aCons (eN mkTup (aNil)) (aCons (eN mkLst (aCons (eK (.int 1)) (aNil))) (aCons (eK (.str "x")) (aNil))))))):ED)=fun env S=> .ok (.lst odds) S:=by
 funext env S
 kernel_rfl
theorem some_one {ns:List Int} {i:Int} {j:Nat} {m w o:D} (d:Dr m w o) (hj:j<100) (hk:Kep j S) {a8 a9:Option D} :
 ((sSeq (sIf (tNot (tTruth (eN (callK (Fs 69 5) []) (aCons (eVar 7) (aNil))))) (sRet (eK (.bl false))) (sSkip))
 (sExpr (eBM "list" appendD (eVar 1) (aCons (eN mkTup (aCons (eVar 7) (aCons (eVar 4) (aCons (eVar 5) (aCons (eVar 6) (aNil)))))) (aNil))))) [some (.scr ns),some (.obj 0),some (.int i),some (.obj n),some m,some w,some o,some (.lst (errs m w o)),a8,a9] S).sat
   (fun e S'=>e= [some (.scr ns),some (.obj 0),some (.int i),some (.obj n),some m,some w,some o,some (.lst (errs m w o)),a8,a9] ∧Kep (j+1) S'∧(∀ g,g≠0→S'[g]? =S[g]?)) (fun d _=>d= .bl true) (fun _ _=>False) fun _ _=>False:=by
 refine step_no (S1:=S) (by
  apply of_sat
  simp only[sat_tNot,sat_tTruth,sat_eN,sat_aCons,sat_aNil,sat_eVar,List.getElem?_cons_succ,List.getElem?_cons_zero,callK_eq,List.append_nil,classes,sat_ok,truthD,Bool.not_true,and_self]) ?_
 obtain⟨K,k1,k2,k3⟩:=hk.ex
 simp only[ssat_sExpr,sat_eBM,sat_eVar,sat_eN,sat_aCons,sat_aNil,List.getElem?_cons_succ,List.getElem?_cons_zero]
 have mt:∀a b c d:D,mkTup [a,b,c,d] S= .ok (.tup [a,b,c,d]) S:=fun a b c d=>by apply of_sat;rw[sat_mkTup];exact⟨small (by simp),rfl,rfl⟩
 rw[mt,sat_ok]
 refine⟨mtD_obj k3,?_⟩
 rw[append_obj k3]
 refine⟨Nat.lt_of_lt_of_le (m:=1000) (by simp;omega) (by decide),?_⟩
 have l0:=(List.getElem?_eq_some_iff.mp k3).1
 refine⟨trivial,⟨K++ [(m,w,o)],?_,by simp[k2],?_⟩,fun g hg=>List.getElem?_set_ne (Ne.symm hg)⟩
 ·intro p hp
  rcases List.mem_append.mp hp with h|h
  ·exact k1 p h
  ·rw[List.mem_singleton.mp h];exact d
 ·rw[List.getElem?_set_self l0]
  simp[kd]
theorem told3 {ns:List Int} {i:Int} {m w o:D} {a7 a8 a9:Option D} (S:Store):(eLc (iArgs range1 (aCons (eK (.int 3)) (aNil))) [9] (gName 9) (tYesD) (eN (callK (Fs 69 6) []) (aCons (eVar 9) (aCons (eVar 4) (aCons (eVar 5) (aNil)))))) [some (.scr ns),some (.obj 0),some (.int i),some (.obj n),some m,some w,some o,a7,a8,a9] S= .ok (told m w) S:=by
 apply of_sat
 simp only[sat_eLc,sat_iArgs,sat_aCons,sat_aNil,sat_eK,sat_range1]
 refine⟨by decide,by decide,?_⟩
 have e:rangeD 0 3= [.int 0, .int 1, .int 2] :=by kernel_rfl
 rw[e]
 simp only[lcSat,gName_eq,tYesD,sat_ok,if_true,wipeD,List.foldl,List.set_cons_succ,List.set_cons_zero,sat_eN,sat_aCons,sat_aNil,sat_eVar,List.getElem?_cons_succ,List.getElem?_cons_zero,callK_eq,List.append_nil,raised0,raised1,raised2]
 exact⟨rfl,trivial⟩
theorem ltold {m w:D} (S:Store) (env:EnvD) (h4:env[4]? =some (some m)) (h5:env[5]? =some (some w)):(eN mkLst (aCons (eN mkTup (aCons (eK (.str "refused")) (aCons (eVar 5) (aNil)))) (aCons (eN mkTup (aCons (eK (.str "missing")) (aCons (eVar 4) (aNil)))) (aCons (eN mkTup (aCons (eK (.str "halted")) (aCons (eVar 5) (aNil)))) (aNil))))) env S= .ok (told m w) S:=by
 have mt:∀a b:D,mkTup [a,b] S= .ok (.tup [a,b]) S:=fun a b=>by apply of_sat;rw[sat_mkTup];exact⟨small (by simp),rfl,rfl⟩
 have ml:∀a b c:D,mkLst [a,b,c] S= .ok (.lst [a,b,c]) S:=fun a b c=>by apply of_sat;rw[sat_mkLst];exact⟨small (by simp),rfl,rfl⟩
 apply of_sat
 simp only[sat_eN,sat_aCons,sat_aNil,sat_eVar,sat_eK,h4,h5,mt,ml,sat_ok,told,and_self]
theorem round {ns:List Int} {i:Int} {j:Nat} (hn:n≠0) (hj:j<90) (hS:Hand n S) (hk:Kep j S) {a4 a5 a6 a7 a8 a9:Option D} :
 ((sSeq (sAsg (eN mkTup (aCons (eN (callK (Fs 69 2) []) (aCons (eVar 3) (aCons (eN mkLst (aCons (eK (.int 0)) (aCons (eK (.int 1)) (aCons (eK (.int 59)) (aCons (e2 powD (eK (.int 10)) (eK (.int 40))) (aCons (e1 negD (eK (.int 1))) (aNil))))))) (aNil)))) (aCons (eN (callK (Fs 69 2) []) (aCons (eVar 3) (aCons (eN mkLst (aCons (eK (.str "a")) (aCons (eK (.str "xs")) (aCons (eK (.str "")) (aCons (eK (.str "none")) (aCons (eK (.str "great")) (aNil))))))) (aNil)))) (aNil)))) (gTup [4,5]))
 (sSeq (sAsg (eN (callK (Fs 69 2) []) (aCons (eVar 3) (aCons (eN mkLst (aCons (eK .non) (aCons (eK (.bl true)) (aCons (eN mkTup (aCons (eK (.int 0)) (aCons (eK (.int 0)) (aCons (eK (.int 1)) (aNil))))) (aCons (eN mkTup (aNil)) (aCons (eN mkLst (aCons (eK (.int 1)) (aNil))) (aCons (eK (.str "x")) (aNil)))))))) (aNil)))) (gName 6))
 (sSeq (sFor (iSeq (eN (callK (Fs 69 3) []) (aCons (eVar 4) (aCons (eVar 5) (aCons (eVar 6) (aNil)))))) (gName 7) (sSeq (sIf (tNot (tTruth (eN (callK (Fs 69 5) []) (aCons (eVar 7) (aNil))))) (sRet (eK (.bl false))) (sSkip))
 (sExpr (eBM "list" appendD (eVar 1) (aCons (eN mkTup (aCons (eVar 7) (aCons (eVar 4) (aCons (eVar 5) (aCons (eVar 6) (aNil)))))) (aNil))))))
 (sSeq (sAsg (eLc (iArgs range1 (aCons (eK (.int 3)) (aNil))) [9] (gName 9) (tYesD) (eN (callK (Fs 69 6) []) (aCons (eVar 9) (aCons (eVar 4) (aCons (eVar 5) (aNil)))))) (gName 8))
 (sIf (tOfE (e2 neD (eVar 8) (eN mkLst (aCons (eN mkTup (aCons (eK (.str "refused")) (aCons (eVar 5) (aNil)))) (aCons (eN mkTup (aCons (eK (.str "missing")) (aCons (eVar 4) (aNil)))) (aCons (eN mkTup (aCons (eK (.str "halted")) (aCons (eVar 5) (aNil)))) (aNil))))))) (sRet (eK (.bl false))) (sSkip)))))) [some (.scr ns),some (.obj 0),some (.int i),some (.obj n),a4,a5,a6,a7,a8,a9] S).sat
   (fun e S'=>(∃ a2 a3 a4 a5 a6 a7 a8 a9:Option D,e= [some (.scr ns),some (.obj 0),a2,a3,a4,a5,a6,a7,a8,a9])∧Kep (j+2) S') (fun d _=>d= .bl true) (fun _ _=>False) fun _ _=>False:=by
 rw[mk5,mkw,mko]
 refine seq_rule (fun e S1=>(∃ m w,m ∈ manys∧w ∈ whoms∧e= [some (.scr ns),some (.obj 0),some (.int i),some (.obj n),some m,some w,a6,a7,a8,a9])∧FrH n S S1) ?_ ?_
 ·simp only[ssat_asg,sat_eN,sat_aCons,sat_aNil,sat_eVar,List.getElem?_cons_succ,List.getElem?_cons_zero,callK_eq,List.append_nil,sat_ok]
  refine sat_mono (pk 67 n S _ _ hS (.lst _) (by simp[manys]) (by simp[manys])) fun m S1 ⟨h1,f1⟩=> ?_
  refine sat_mono (pk 67 n S1 _ _ f1.hd (.lst _) (by simp[whoms]) (by simp[whoms])) fun w S2 ⟨h2,f2⟩=> ?_
  rw[sat_mkTup]
  refine⟨small (by simp),?_⟩
  simp only[gTup_tup,gNames_cons,gNames_nil,ssat_nx,List.set_cons_succ,List.set_cons_zero]
  exact⟨⟨m,w,h1,h2,rfl⟩,f1.trans f2⟩
 rintro e S1 ⟨⟨m,w,hm,hw,rfl⟩,f1⟩
 refine seq_rule (fun e S2=>(∃ o,o ∈ odds∧e= [some (.scr ns),some (.obj 0),some (.int i),some (.obj n),some m,some w,some o,a7,a8,a9])∧FrH n S S2) ?_ ?_
 ·simp only[ssat_asg,sat_eN,sat_aCons,sat_aNil,sat_eVar,List.getElem?_cons_succ,List.getElem?_cons_zero,callK_eq,List.append_nil,sat_ok]
  refine sat_mono (pk 67 n S1 _ _ f1.hd (.lst _) (by simp[odds]) (by simp[odds])) fun o S2 ⟨h1,f2⟩=> ?_
  simp only[gName_eq,ssat_nx,List.set_cons_succ,List.set_cons_zero]
  exact⟨⟨o,h1,rfl⟩,f1.trans f2⟩
 rintro e S2 ⟨⟨o,ho,rfl⟩,f2⟩
 have d:Dr m w o:=⟨hm,hw,ho⟩
 have hk2:=hk.fr hn f2
 refine seq_rule (fun e S3=>(∃ a7,e= [some (.scr ns),some (.obj 0),some (.int i),some (.obj n),some m,some w,some o,a7,a8,a9])∧Kep (j+2) S3) ?_ ?_
 ·simp only[ssat_for,sat_iSeq,sat_eN,sat_aCons,sat_aNil,sat_eVar,List.getElem?_cons_succ,List.getElem?_cons_zero,callK_eq,List.append_nil,made,sat_ok]
  rw[show itemsD (.tup [.lst (errs m w o), .lst (errs m w o)]) S2= .ok [.lst (errs m w o), .lst (errs m w o)] S2 from rfl,sat_ok]
  refine for_rule (fun q e S3=>(∃ a7,e= [some (.scr ns),some (.obj 0),some (.int i),some (.obj n),some m,some w,some o,a7,a8,a9])∧Kep (j+q) S3) ⟨⟨_,rfl⟩,hk2⟩ ?_ fun e S3 h=>h
  rintro q hq e S3 ⟨⟨b7,rfl⟩,hk3⟩
  have hx: [D.lst (errs m w o), .lst (errs m w o)][q] = .lst (errs m w o):=by
   match q,hq with
   |0,_=>rfl
   |1,_=>rfl
  rw[hx]
  simp only[List.length_cons,List.length_nil] at hq
  simp only[gName_eq,ssat_nx,List.set_cons_succ,List.set_cons_zero]
  exact ssat_mono (some_one d (by omega) hk3) (fun e S' ⟨h1,h2,_⟩=>⟨⟨_,h1⟩,h2⟩) (fun _ _ h=>h) (fun _ _ h=>h.elim) fun _ _ h=>h.elim
 rintro e S3 ⟨⟨b7,rfl⟩,hk3⟩
 refine step_asg (told3 S3) (S2:=S3) rfl ?_
 simp only[List.set_cons_succ,List.set_cons_zero]
 simp only[ssat_if,sat_tOfE,sat_e2,sat_eVar,List.getElem?_cons_succ,List.getElem?_cons_zero]
 rw[ltold S3 _ rfl rfl,sat_ok,told_ne d,sat_ok,blD_bl,sat_ok,if_neg Bool.false_ne_true,ssat_skip]
 exact⟨⟨_,_,_,_,_,_,_,_,rfl⟩,hk3⟩
theorem last {env:EnvD} (hl:9<env.length):∀(K:List (D × D × D)) (S:Store) (Q:List D→Store→Prop),Kp K→Q (K.map fun _=> .bl true) S→
 lcSat (gTup [7,4,5,6]) tYesD (eN (callK (Fs 69 4) []) (aCons (eVar 7) (aCons (eVar 4) (aCons (eVar 5) (aCons (eVar 6) (aNil)))))) env (K.map kd) S Q
 | [],S,Q,h,q=>q
 |p::K,S,Q,h,q=>by
  show lcSat _ _ _ env (.tup [.lst (errs p.1 p.2.1 p.2.2),p.1,p.2.1,p.2.2] ::K.map kd) S Q
  have hd:=h p (List.mem_cons_self ..)
  unfold lcSat
  simp only[gTup_tup,gNames_cons,gNames_nil,tYesD,sat_ok,if_true]
  have v:=values hd S
  simp only[sat_eN,sat_aCons,sat_aNil,sat_eVar,callK_eq,List.append_nil,List.getElem?_set,List.length_set]
  simp only[show (7:Nat)≠6 by decide,show(7:Nat)≠5 by decide,show(7:Nat)≠4 by decide,show(6:Nat)≠5 by decide,show(6:Nat)≠4 by decide,show(6:Nat)≠7 by decide,show(5:Nat)≠4 by decide,show(5:Nat)≠6 by decide,show(5:Nat)≠7 by decide,show(4:Nat)≠5 by decide,show(4:Nat)≠6 by decide,show(4:Nat)≠7 by decide,if_false,if_true,show 7<env.length by omega,show 6<env.length by omega,show 5<env.length by omega,show 4<env.length by omega,v,sat_ok]
  exact last hl K S (fun ys S'=>Q (.bl true::ys) S') (fun p hp=>h p (List.mem_cons_of_mem _ hp)) q
theorem law_true (ns:List Int) (hns:ns.length≤63):∃S,Fs 70 7 [.scr ns] [] = .ok (.bl true) S:=by
 have key:(Fs 70 7 [.scr ns] []).sat fun d _=>d= .bl true:=by
  rw[show (70:Nat)=69+1 from rfl,Fs_law,sat_run]
  refine⟨rfl,?_⟩
  unfold m_law
  refine seq_rule (fun e S=>e= [some (.scr ns),some (.obj 0),none,none,none,none,none,none,none,none] ∧S= [.lst []]) ?_ ?_
  ·simp only[ssat_asg,sat_eN,sat_aNil]
   rw[show mkObj [] [] = .ok (.obj 0) [.lst []] from rfl,sat_ok]
   exact .nx ⟨rfl,rfl⟩
  rintro e S ⟨rfl,rfl⟩
  refine seq_rule (fun e S=>(∃ a2 a3 a4 a5 a6 a7 a8 a9:Option D,e= [some (.scr ns),some (.obj 0),a2,a3,a4,a5,a6,a7,a8,a9])∧∃j,j≤8∧Kep j S) ?_ ?_
  ·obtain⟨m,hm,em⟩:∃m:Nat,m≤4∧∀S,(eN maxD (aCons (eK (.int 1)) (aCons (eN minD (aCons (eK (.int 4)) (aCons (eN lenD (aCons (eVar 0) (aNil))) (aNil)))) (aNil)))) [some (.scr ns),some (.obj 0),none,none,none,none,none,none,none,none] S= .ok (.int m) S:=by
    refine⟨max 1 (min 4 ns.length),by omega,fun S=> ?_⟩
    apply of_sat
    simp[minD,maxD]
    repeat' split
    all_goals omega
   simp only[ssat_for,sat_iArgs,sat_aCons,sat_aNil,em,sat_ok,sat_range1]
   refine⟨by simp[okRng];omega,?_⟩
   refine for_rule (fun q e S=>(∃ a2 a3 a4 a5 a6 a7 a8 a9:Option D,e= [some (.scr ns),some (.obj 0),a2,a3,a4,a5,a6,a7,a8,a9])∧Kep (2*q) S) ⟨⟨_,_,_,_,_,_,_,_,rfl⟩,⟨[],fun _ h=>absurd h (List.not_mem_nil),rfl,rfl⟩⟩ ?_ fun e S h=>⟨h.1,_,by rw[rangeD_len];omega,h.2⟩
   rintro q hq e S ⟨⟨a2,a3,a4,a5,a6,a7,a8,a9,rfl⟩,hk⟩
   rw[rangeD_get hq]
   rw[rangeD_len] at hq
   simp only[gName_eq,ssat_nx,List.set_cons_succ,List.set_cons_zero]
   refine seq_rule (fun e S=>∃n,n≠0∧(∃ a4 a5 a6 a7 a8 a9:Option D,e= [some (.scr ns),some (.obj 0),some (.int (0+q)),some (.obj n),a4,a5,a6,a7,a8,a9])∧Hand n S∧Kep (2*q) S) ?_ ?_
   ·simp only[ssat_asg,sat_eN,sat_aCons,sat_aNil,sat_eVar,List.getElem?_cons_succ,List.getElem?_cons_zero,callK_eq,List.append_nil]
    have hd:IsHand (Fs 69 0):=by rw[show (69:Nat)=68+1 from rfl,Fs_law_hand];exact isHand
    refine sat_mono (hd S ns (0+q) (by omega) (by omega)) fun d S' ⟨e,g,s,eS⟩=> ?_
    subst e eS
    simp only[gName_eq,ssat_nx,List.set_cons_succ,List.set_cons_zero]
    obtain⟨K,k1,k2,k3⟩:=hk.ex
    have l0:=(List.getElem?_eq_some_iff.mp k3).1
    exact⟨S.length,by omega,⟨_,_,_,_,_,_,rfl⟩,⟨g,s,by simp⟩,⟨K,k1,k2,by rw[List.getElem?_append_left l0];exact k3⟩⟩
   rintro e S ⟨n,hn,⟨a4,a5,a6,a7,a8,a9,rfl⟩,hS,hk⟩
   exact ssat_mono (round hn (by omega) hS hk) (fun _ _ h=>h) (fun _ _ h=>h) (fun _ _ h=>h.elim) fun e S' h=>h.elim
  rintro e S ⟨⟨a2,a3,a4,a5,a6,a7,a8,a9,rfl⟩,j,hj,hk⟩
  obtain⟨K,k1,k2,k3⟩:=hk.ex
  simp only[ssat_sRet,sat_eN,sat_aCons,sat_aNil,sat_eLc,sat_iSeq,sat_e1,sat_eVar,List.getElem?_cons_succ,List.getElem?_cons_zero]
  rw[show frzD (.obj 0) S= .ok (.lst (K.map kd)) (S.set 0 .dead) by unfold frzD;simp only[k3],sat_ok,show itemsD (.lst (K.map kd)) (S.set 0 .dead)= .ok (K.map kd) (S.set 0 .dead) from rfl,sat_ok]
  refine⟨small (by simp;omega),?_⟩
  refine last (by simp[wipeD]) K _ _ k1 ?_
  have ea:allD [.lst (K.map fun _=>D.bl true)] (S.set 0 .dead)= .ok (.bl true) (S.set 0 .dead):=by
   have:=all_bl (S:=S.set 0 .dead) (K.map fun _=>true)
   rw[List.map_map] at this
   rw[show (K.map fun _=>D.bl true)=K.map (D.bl ∘ fun _=>true) from rfl,this]
   simp
  rw[ea,sat_ok]
 obtain⟨d,S,e,rfl⟩:=sat_ex.mp key
 exact⟨S,e⟩
end K06
open PySem PySem.W PyProof.Rows in
set_option maxRecDepth 100000 in
theorem PySem.Challenge.cw_holepatterns_k06_refusals_made_holds : PySem.Challenge.rw_holepatterns_k06_refusals_made.Holds := by
 w_on;o_law;k_head;(case hw=>w_witness2)
 k_fill
 refine L3.walk (l:=PySem.Challenge.rw_holepatterns_k06_refusals_made) (k:=(L3.lv 70)) (x:= "_law_script") rfl (by decide +kernel) rfl ⟨rfl,by decide,by decide⟩ (fun w h Y=>PySem.W.kIn_of Y) ?F
 case F=>
  intro w mg fa h KX G hmg
  refine' K06.all_mk KX G hmg K06.law_true ?a_Halted ?sb_Halted ?hd_Halted ?ty_Halted ?a_Missing ?sb_Missing ?hd_Missing ?ty_Missing ?a_NoBook ?sb_NoBook ?hd_NoBook ?ty_NoBook ?kp_NoBook ?ex_NoBook ?ga_NoBook ?gg_NoBook ?cl_NoBook ?mr_NoBook ?a_NoFit ?sb_NoFit ?hd_NoFit ?ty_NoFit ?kp_NoFit ?ex_NoFit ?ga_NoFit ?gg_NoFit ?cl_NoFit ?mr_NoFit ?a_NoLine ?sb_NoLine ?hd_NoLine ?ty_NoLine ?kp_NoLine ?in_NoLine ?ov_NoLine ?sa_NoLine ?ga_NoLine ?gg_NoLine ?cl_NoLine ?mr_NoLine ?xn_NoLine ?a_NoName ?sb_NoName ?hd_NoName ?ty_NoName ?kp_NoName ?in_NoName ?ov_NoName ?sa_NoName ?ga_NoName ?gg_NoName ?cl_NoName ?mr_NoName ?xn_NoName ?a_NoNumber ?sb_NoNumber ?hd_NoNumber ?ty_NoNumber ?kp_NoNumber ?in_NoNumber ?ov_NoNumber ?sa_NoNumber ?ga_NoNumber ?gg_NoNumber ?cl_NoNumber ?mr_NoNumber ?xn_NoNumber ?a_NoPattern ?sb_NoPattern ?hd_NoPattern ?ty_NoPattern ?kp_NoPattern ?ex_NoPattern ?ga_NoPattern ?gg_NoPattern ?cl_NoPattern ?mr_NoPattern ?a_NoPlace ?sb_NoPlace ?hd_NoPlace ?ty_NoPlace ?kp_NoPlace ?in_NoPlace ?ov_NoPlace ?sa_NoPlace ?ga_NoPlace ?gg_NoPlace ?cl_NoPlace ?mr_NoPlace ?xn_NoPlace ?a_NoText ?sb_NoText ?hd_NoText ?ty_NoText ?kp_NoText ?in_NoText ?ov_NoText ?sa_NoText ?ga_NoText ?gg_NoText ?cl_NoText ?mr_NoText ?xn_NoText ?a_NoWay ?sb_NoWay ?hd_NoWay ?ty_NoWay ?kp_NoWay ?in_NoWay ?ov_NoWay ?sa_NoWay ?ga_NoWay ?gg_NoWay ?cl_NoWay ?mr_NoWay ?xn_NoWay ?a_Nothing ?sb_Nothing ?hd_Nothing ?ty_Nothing ?kp_Nothing ?ex_Nothing ?ga_Nothing ?gg_Nothing ?cl_Nothing ?mr_Nothing ?a_Refused ?sb_Refused ?hd_Refused ?ty_Refused ?a_Untold ?sb_Untold ?hd_Untold ?ty_Untold ?kp_Untold ?in_Untold ?ov_Untold ?sa_Untold ?ga_Untold ?gg_Untold ?cl_Untold ?mr_Untold ?xn_Untold ?sp_class ?tk_class ?xs_NoBook__Halted ?xs_NoBook__LookupError ?xs_NoBook__Missing ?xs_NoBook__NoBook ?xs_NoBook__NoFit ?xs_NoBook__NoLine ?xs_NoBook__NoName ?xs_NoBook__NoNumber ?xs_NoBook__NoPattern ?xs_NoBook__NoPlace ?xs_NoBook__NoText ?xs_NoBook__NoWay ?xs_NoBook__Nothing ?xs_NoBook__Refused ?xs_NoBook__RuntimeError ?xs_NoBook__Untold ?xs_NoBook__ValueError ?xs_NoFit__Halted ?xs_NoFit__LookupError ?xs_NoFit__Missing ?xs_NoFit__NoBook ?xs_NoFit__NoFit ?xs_NoFit__NoLine ?xs_NoFit__NoName ?xs_NoFit__NoNumber ?xs_NoFit__NoPattern ?xs_NoFit__NoPlace ?xs_NoFit__NoText ?xs_NoFit__NoWay ?xs_NoFit__Nothing ?xs_NoFit__Refused ?xs_NoFit__RuntimeError ?xs_NoFit__Untold ?xs_NoFit__ValueError ?xs_NoLine__Halted ?xs_NoLine__LookupError ?xs_NoLine__Missing ?xs_NoLine__NoBook ?xs_NoLine__NoFit ?xs_NoLine__NoLine ?xs_NoLine__NoName ?xs_NoLine__NoNumber ?xs_NoLine__NoPattern ?xs_NoLine__NoPlace ?xs_NoLine__NoText ?xs_NoLine__NoWay ?xs_NoLine__Nothing ?xs_NoLine__Refused ?xs_NoLine__RuntimeError ?xs_NoLine__Untold ?xs_NoLine__ValueError ?xs_NoName__Halted ?xs_NoName__LookupError ?xs_NoName__Missing ?xs_NoName__NoBook ?xs_NoName__NoFit ?xs_NoName__NoLine ?xs_NoName__NoName ?xs_NoName__NoNumber ?xs_NoName__NoPattern ?xs_NoName__NoPlace ?xs_NoName__NoText ?xs_NoName__NoWay ?xs_NoName__Nothing ?xs_NoName__Refused ?xs_NoName__RuntimeError ?xs_NoName__Untold ?xs_NoName__ValueError ?xs_NoNumber__Halted ?xs_NoNumber__LookupError ?xs_NoNumber__Missing ?xs_NoNumber__NoBook ?xs_NoNumber__NoFit ?xs_NoNumber__NoLine ?xs_NoNumber__NoName ?xs_NoNumber__NoNumber ?xs_NoNumber__NoPattern ?xs_NoNumber__NoPlace ?xs_NoNumber__NoText ?xs_NoNumber__NoWay ?xs_NoNumber__Nothing ?xs_NoNumber__Refused ?xs_NoNumber__RuntimeError ?xs_NoNumber__Untold ?xs_NoNumber__ValueError ?xs_NoPattern__Halted ?xs_NoPattern__LookupError ?xs_NoPattern__Missing ?xs_NoPattern__NoBook ?xs_NoPattern__NoFit ?xs_NoPattern__NoLine ?xs_NoPattern__NoName ?xs_NoPattern__NoNumber ?xs_NoPattern__NoPattern ?xs_NoPattern__NoPlace ?xs_NoPattern__NoText ?xs_NoPattern__NoWay ?xs_NoPattern__Nothing ?xs_NoPattern__Refused ?xs_NoPattern__RuntimeError ?xs_NoPattern__Untold ?xs_NoPattern__ValueError ?xs_NoPlace__Halted ?xs_NoPlace__LookupError ?xs_NoPlace__Missing ?xs_NoPlace__NoBook ?xs_NoPlace__NoFit ?xs_NoPlace__NoLine ?xs_NoPlace__NoName ?xs_NoPlace__NoNumber ?xs_NoPlace__NoPattern ?xs_NoPlace__NoPlace ?xs_NoPlace__NoText ?xs_NoPlace__NoWay ?xs_NoPlace__Nothing ?xs_NoPlace__Refused ?xs_NoPlace__RuntimeError ?xs_NoPlace__Untold ?xs_NoPlace__ValueError ?xs_NoText__Halted ?xs_NoText__LookupError ?xs_NoText__Missing ?xs_NoText__NoBook ?xs_NoText__NoFit ?xs_NoText__NoLine ?xs_NoText__NoName ?xs_NoText__NoNumber ?xs_NoText__NoPattern ?xs_NoText__NoPlace ?xs_NoText__NoText ?xs_NoText__NoWay ?xs_NoText__Nothing ?xs_NoText__Refused ?xs_NoText__RuntimeError ?xs_NoText__Untold ?xs_NoText__ValueError ?xs_NoWay__Halted ?xs_NoWay__LookupError ?xs_NoWay__Missing ?xs_NoWay__NoBook ?xs_NoWay__NoFit ?xs_NoWay__NoLine ?xs_NoWay__NoName ?xs_NoWay__NoNumber ?xs_NoWay__NoPattern ?xs_NoWay__NoPlace ?xs_NoWay__NoText ?xs_NoWay__NoWay ?xs_NoWay__Nothing ?xs_NoWay__Refused ?xs_NoWay__RuntimeError ?xs_NoWay__Untold ?xs_NoWay__ValueError ?xs_Nothing__Halted ?xs_Nothing__LookupError ?xs_Nothing__Missing ?xs_Nothing__NoBook ?xs_Nothing__NoFit ?xs_Nothing__NoLine ?xs_Nothing__NoName ?xs_Nothing__NoNumber ?xs_Nothing__NoPattern ?xs_Nothing__NoPlace ?xs_Nothing__NoText ?xs_Nothing__NoWay ?xs_Nothing__Nothing ?xs_Nothing__Refused ?xs_Nothing__RuntimeError ?xs_Nothing__Untold ?xs_Nothing__ValueError ?xs_Untold__Halted ?xs_Untold__LookupError ?xs_Untold__Missing ?xs_Untold__NoBook ?xs_Untold__NoFit ?xs_Untold__NoLine ?xs_Untold__NoName ?xs_Untold__NoNumber ?xs_Untold__NoPattern ?xs_Untold__NoPlace ?xs_Untold__NoText ?xs_Untold__NoWay ?xs_Untold__Nothing ?xs_Untold__Refused ?xs_Untold__RuntimeError ?xs_Untold__Untold ?xs_Untold__ValueError ?a_law_hand ?l_law_hand ?c_law_hand ?k_law_hand ?a_law_take ?l_law_take ?c_law_take ?k_law_take ?a_law_pick ?l_law_pick ?c_law_pick ?k_law_pick ?a_law_made ?l_law_made ?c_law_made ?k_law_made ?a_law_values_right ?l_law_values_right ?c_law_values_right ?k_law_values_right ?a_law_classes_right ?l_law_classes_right ?c_law_classes_right ?k_law_classes_right ?a_law_raised ?l_law_raised ?c_law_raised ?k_law_raised ?a_law ?l_law ?c_law ?k_law ?xc_NoLine ?xt_NoLine ?l_NoLine___init__ ?c_NoLine___init__ ?k_NoLine___init__ ?xc_NoName ?xt_NoName ?l_NoName___init__ ?c_NoName___init__ ?k_NoName___init__ ?xc_NoNumber ?xt_NoNumber ?l_NoNumber___init__ ?c_NoNumber___init__ ?k_NoNumber___init__ ?xc_NoPlace ?xt_NoPlace ?l_NoPlace___init__ ?c_NoPlace___init__ ?k_NoPlace___init__ ?xc_NoText ?xt_NoText ?l_NoText___init__ ?c_NoText___init__ ?k_NoText___init__ ?xc_NoWay ?xt_NoWay ?l_NoWay___init__ ?c_NoWay___init__ ?k_NoWay___init__ ?xc_Untold ?xt_Untold ?l_Untold___init__ ?c_Untold___init__ ?k_Untold___init__ ?z_LookupError ?z_RuntimeError ?z_ValueError ?z_abs ?z_all ?z_enumerate ?z_int ?z_isinstance ?z_len ?z_max ?z_min ?z_range ?z_repr
  (case a_Halted=>k_is)
  (case sb_Halted=>k_is)
  (case hd_Halted=>k_is)
  (case ty_Halted=>k_is)
  (case a_Missing=>k_is)
  (case sb_Missing=>k_is)
  (case hd_Missing=>k_is)
  (case ty_Missing=>k_is)
  (case a_NoBook=>k_is)
  (case sb_NoBook=>k_is)
  (case hd_NoBook=>k_is)
  (case ty_NoBook=>k_is)
  (case kp_NoBook=>k_is)
  (case ex_NoBook=>k_exc)
  (case ga_NoBook=>k_is)
  (case gg_NoBook=>k_is)
  (case cl_NoBook=>k_is)
  (case mr_NoBook=>k_is)
  (case a_NoFit=>k_is)
  (case sb_NoFit=>k_is)
  (case hd_NoFit=>k_is)
  (case ty_NoFit=>k_is)
  (case kp_NoFit=>k_is)
  (case ex_NoFit=>k_exc)
  (case ga_NoFit=>k_is)
  (case gg_NoFit=>k_is)
  (case cl_NoFit=>k_is)
  (case mr_NoFit=>k_is)
  (case a_NoLine=>k_is)
  (case sb_NoLine=>k_is)
  (case hd_NoLine=>k_is)
  (case ty_NoLine=>k_is)
  (case kp_NoLine=>k_is)
  (case in_NoLine=>kx_is)
  (case ov_NoLine=>kx_is)
  (case sa_NoLine=>k_is)
  (case ga_NoLine=>k_is)
  (case gg_NoLine=>k_is)
  (case cl_NoLine=>k_is)
  (case mr_NoLine=>k_is)
  (case xn_NoLine=>k_is)
  (case a_NoName=>k_is)
  (case sb_NoName=>k_is)
  (case hd_NoName=>k_is)
  (case ty_NoName=>k_is)
  (case kp_NoName=>k_is)
  (case in_NoName=>kx_is)
  (case ov_NoName=>kx_is)
  (case sa_NoName=>k_is)
  (case ga_NoName=>k_is)
  (case gg_NoName=>k_is)
  (case cl_NoName=>k_is)
  (case mr_NoName=>k_is)
  (case xn_NoName=>k_is)
  (case a_NoNumber=>k_is)
  (case sb_NoNumber=>k_is)
  (case hd_NoNumber=>k_is)
  (case ty_NoNumber=>k_is)
  (case kp_NoNumber=>k_is)
  (case in_NoNumber=>kx_is)
  (case ov_NoNumber=>kx_is)
  (case sa_NoNumber=>k_is)
  (case ga_NoNumber=>k_is)
  (case gg_NoNumber=>k_is)
  (case cl_NoNumber=>k_is)
  (case mr_NoNumber=>k_is)
  (case xn_NoNumber=>k_is)
  (case a_NoPattern=>k_is)
  (case sb_NoPattern=>k_is)
  (case hd_NoPattern=>k_is)
  (case ty_NoPattern=>k_is)
  (case kp_NoPattern=>k_is)
  (case ex_NoPattern=>k_exc)
  (case ga_NoPattern=>k_is)
  (case gg_NoPattern=>k_is)
  (case cl_NoPattern=>k_is)
  (case mr_NoPattern=>k_is)
  (case a_NoPlace=>k_is)
  (case sb_NoPlace=>k_is)
  (case hd_NoPlace=>k_is)
  (case ty_NoPlace=>k_is)
  (case kp_NoPlace=>k_is)
  (case in_NoPlace=>kx_is)
  (case ov_NoPlace=>kx_is)
  (case sa_NoPlace=>k_is)
  (case ga_NoPlace=>k_is)
  (case gg_NoPlace=>k_is)
  (case cl_NoPlace=>k_is)
  (case mr_NoPlace=>k_is)
  (case xn_NoPlace=>k_is)
  (case a_NoText=>k_is)
  (case sb_NoText=>k_is)
  (case hd_NoText=>k_is)
  (case ty_NoText=>k_is)
  (case kp_NoText=>k_is)
  (case in_NoText=>kx_is)
  (case ov_NoText=>kx_is)
  (case sa_NoText=>k_is)
  (case ga_NoText=>k_is)
  (case gg_NoText=>k_is)
  (case cl_NoText=>k_is)
  (case mr_NoText=>k_is)
  (case xn_NoText=>k_is)
  (case a_NoWay=>k_is)
  (case sb_NoWay=>k_is)
  (case hd_NoWay=>k_is)
  (case ty_NoWay=>k_is)
  (case kp_NoWay=>k_is)
  (case in_NoWay=>kx_is)
  (case ov_NoWay=>kx_is)
  (case sa_NoWay=>k_is)
  (case ga_NoWay=>k_is)
  (case gg_NoWay=>k_is)
  (case cl_NoWay=>k_is)
  (case mr_NoWay=>k_is)
  (case xn_NoWay=>k_is)
  (case a_Nothing=>k_is)
  (case sb_Nothing=>k_is)
  (case hd_Nothing=>k_is)
  (case ty_Nothing=>k_is)
  (case kp_Nothing=>k_is)
  (case ex_Nothing=>k_exc)
  (case ga_Nothing=>k_is)
  (case gg_Nothing=>k_is)
  (case cl_Nothing=>k_is)
  (case mr_Nothing=>k_is)
  (case a_Refused=>k_is)
  (case sb_Refused=>k_is)
  (case hd_Refused=>k_is)
  (case ty_Refused=>k_is)
  (case a_Untold=>k_is)
  (case sb_Untold=>k_is)
  (case hd_Untold=>k_is)
  (case ty_Untold=>k_is)
  (case kp_Untold=>k_is)
  (case in_Untold=>kx_is)
  (case ov_Untold=>kx_is)
  (case sa_Untold=>k_is)
  (case ga_Untold=>k_is)
  (case gg_Untold=>k_is)
  (case cl_Untold=>k_is)
  (case mr_Untold=>k_is)
  (case xn_Untold=>k_is)
  (case sp_class=>k_is)
  (case tk_class=>k_is)
  (case xs_NoBook__Halted=>k_is)
  (case xs_NoBook__LookupError=>k_is)
  (case xs_NoBook__Missing=>k_is)
  (case xs_NoBook__NoBook=>k_is)
  (case xs_NoBook__NoFit=>k_is)
  (case xs_NoBook__NoLine=>k_is)
  (case xs_NoBook__NoName=>k_is)
  (case xs_NoBook__NoNumber=>k_is)
  (case xs_NoBook__NoPattern=>k_is)
  (case xs_NoBook__NoPlace=>k_is)
  (case xs_NoBook__NoText=>k_is)
  (case xs_NoBook__NoWay=>k_is)
  (case xs_NoBook__Nothing=>k_is)
  (case xs_NoBook__Refused=>k_is)
  (case xs_NoBook__RuntimeError=>k_is)
  (case xs_NoBook__Untold=>k_is)
  (case xs_NoBook__ValueError=>k_is)
  (case xs_NoFit__Halted=>k_is)
  (case xs_NoFit__LookupError=>k_is)
  (case xs_NoFit__Missing=>k_is)
  (case xs_NoFit__NoBook=>k_is)
  (case xs_NoFit__NoFit=>k_is)
  (case xs_NoFit__NoLine=>k_is)
  (case xs_NoFit__NoName=>k_is)
  (case xs_NoFit__NoNumber=>k_is)
  (case xs_NoFit__NoPattern=>k_is)
  (case xs_NoFit__NoPlace=>k_is)
  (case xs_NoFit__NoText=>k_is)
  (case xs_NoFit__NoWay=>k_is)
  (case xs_NoFit__Nothing=>k_is)
  (case xs_NoFit__Refused=>k_is)
  (case xs_NoFit__RuntimeError=>k_is)
  (case xs_NoFit__Untold=>k_is)
  (case xs_NoFit__ValueError=>k_is)
  (case xs_NoLine__Halted=>k_is)
  (case xs_NoLine__LookupError=>k_is)
  (case xs_NoLine__Missing=>k_is)
  (case xs_NoLine__NoBook=>k_is)
  (case xs_NoLine__NoFit=>k_is)
  (case xs_NoLine__NoLine=>k_is)
  (case xs_NoLine__NoName=>k_is)
  (case xs_NoLine__NoNumber=>k_is)
  (case xs_NoLine__NoPattern=>k_is)
  (case xs_NoLine__NoPlace=>k_is)
  (case xs_NoLine__NoText=>k_is)
  (case xs_NoLine__NoWay=>k_is)
  (case xs_NoLine__Nothing=>k_is)
  (case xs_NoLine__Refused=>k_is)
  (case xs_NoLine__RuntimeError=>k_is)
  (case xs_NoLine__Untold=>k_is)
  (case xs_NoLine__ValueError=>k_is)
  (case xs_NoName__Halted=>k_is)
  (case xs_NoName__LookupError=>k_is)
  (case xs_NoName__Missing=>k_is)
  (case xs_NoName__NoBook=>k_is)
  (case xs_NoName__NoFit=>k_is)
  (case xs_NoName__NoLine=>k_is)
  (case xs_NoName__NoName=>k_is)
  (case xs_NoName__NoNumber=>k_is)
  (case xs_NoName__NoPattern=>k_is)
  (case xs_NoName__NoPlace=>k_is)
  (case xs_NoName__NoText=>k_is)
  (case xs_NoName__NoWay=>k_is)
  (case xs_NoName__Nothing=>k_is)
  (case xs_NoName__Refused=>k_is)
  (case xs_NoName__RuntimeError=>k_is)
  (case xs_NoName__Untold=>k_is)
  (case xs_NoName__ValueError=>k_is)
  (case xs_NoNumber__Halted=>k_is)
  (case xs_NoNumber__LookupError=>k_is)
  (case xs_NoNumber__Missing=>k_is)
  (case xs_NoNumber__NoBook=>k_is)
  (case xs_NoNumber__NoFit=>k_is)
  (case xs_NoNumber__NoLine=>k_is)
  (case xs_NoNumber__NoName=>k_is)
  (case xs_NoNumber__NoNumber=>k_is)
  (case xs_NoNumber__NoPattern=>k_is)
  (case xs_NoNumber__NoPlace=>k_is)
  (case xs_NoNumber__NoText=>k_is)
  (case xs_NoNumber__NoWay=>k_is)
  (case xs_NoNumber__Nothing=>k_is)
  (case xs_NoNumber__Refused=>k_is)
  (case xs_NoNumber__RuntimeError=>k_is)
  (case xs_NoNumber__Untold=>k_is)
  (case xs_NoNumber__ValueError=>k_is)
  (case xs_NoPattern__Halted=>k_is)
  (case xs_NoPattern__LookupError=>k_is)
  (case xs_NoPattern__Missing=>k_is)
  (case xs_NoPattern__NoBook=>k_is)
  (case xs_NoPattern__NoFit=>k_is)
  (case xs_NoPattern__NoLine=>k_is)
  (case xs_NoPattern__NoName=>k_is)
  (case xs_NoPattern__NoNumber=>k_is)
  (case xs_NoPattern__NoPattern=>k_is)
  (case xs_NoPattern__NoPlace=>k_is)
  (case xs_NoPattern__NoText=>k_is)
  (case xs_NoPattern__NoWay=>k_is)
  (case xs_NoPattern__Nothing=>k_is)
  (case xs_NoPattern__Refused=>k_is)
  (case xs_NoPattern__RuntimeError=>k_is)
  (case xs_NoPattern__Untold=>k_is)
  (case xs_NoPattern__ValueError=>k_is)
  (case xs_NoPlace__Halted=>k_is)
  (case xs_NoPlace__LookupError=>k_is)
  (case xs_NoPlace__Missing=>k_is)
  (case xs_NoPlace__NoBook=>k_is)
  (case xs_NoPlace__NoFit=>k_is)
  (case xs_NoPlace__NoLine=>k_is)
  (case xs_NoPlace__NoName=>k_is)
  (case xs_NoPlace__NoNumber=>k_is)
  (case xs_NoPlace__NoPattern=>k_is)
  (case xs_NoPlace__NoPlace=>k_is)
  (case xs_NoPlace__NoText=>k_is)
  (case xs_NoPlace__NoWay=>k_is)
  (case xs_NoPlace__Nothing=>k_is)
  (case xs_NoPlace__Refused=>k_is)
  (case xs_NoPlace__RuntimeError=>k_is)
  (case xs_NoPlace__Untold=>k_is)
  (case xs_NoPlace__ValueError=>k_is)
  (case xs_NoText__Halted=>k_is)
  (case xs_NoText__LookupError=>k_is)
  (case xs_NoText__Missing=>k_is)
  (case xs_NoText__NoBook=>k_is)
  (case xs_NoText__NoFit=>k_is)
  (case xs_NoText__NoLine=>k_is)
  (case xs_NoText__NoName=>k_is)
  (case xs_NoText__NoNumber=>k_is)
  (case xs_NoText__NoPattern=>k_is)
  (case xs_NoText__NoPlace=>k_is)
  (case xs_NoText__NoText=>k_is)
  (case xs_NoText__NoWay=>k_is)
  (case xs_NoText__Nothing=>k_is)
  (case xs_NoText__Refused=>k_is)
  (case xs_NoText__RuntimeError=>k_is)
  (case xs_NoText__Untold=>k_is)
  (case xs_NoText__ValueError=>k_is)
  (case xs_NoWay__Halted=>k_is)
  (case xs_NoWay__LookupError=>k_is)
  (case xs_NoWay__Missing=>k_is)
  (case xs_NoWay__NoBook=>k_is)
  (case xs_NoWay__NoFit=>k_is)
  (case xs_NoWay__NoLine=>k_is)
  (case xs_NoWay__NoName=>k_is)
  (case xs_NoWay__NoNumber=>k_is)
  (case xs_NoWay__NoPattern=>k_is)
  (case xs_NoWay__NoPlace=>k_is)
  (case xs_NoWay__NoText=>k_is)
  (case xs_NoWay__NoWay=>k_is)
  (case xs_NoWay__Nothing=>k_is)
  (case xs_NoWay__Refused=>k_is)
  (case xs_NoWay__RuntimeError=>k_is)
  (case xs_NoWay__Untold=>k_is)
  (case xs_NoWay__ValueError=>k_is)
  (case xs_Nothing__Halted=>k_is)
  (case xs_Nothing__LookupError=>k_is)
  (case xs_Nothing__Missing=>k_is)
  (case xs_Nothing__NoBook=>k_is)
  (case xs_Nothing__NoFit=>k_is)
  (case xs_Nothing__NoLine=>k_is)
  (case xs_Nothing__NoName=>k_is)
  (case xs_Nothing__NoNumber=>k_is)
  (case xs_Nothing__NoPattern=>k_is)
  (case xs_Nothing__NoPlace=>k_is)
  (case xs_Nothing__NoText=>k_is)
  (case xs_Nothing__NoWay=>k_is)
  (case xs_Nothing__Nothing=>k_is)
  (case xs_Nothing__Refused=>k_is)
  (case xs_Nothing__RuntimeError=>k_is)
  (case xs_Nothing__Untold=>k_is)
  (case xs_Nothing__ValueError=>k_is)
  (case xs_Untold__Halted=>k_is)
  (case xs_Untold__LookupError=>k_is)
  (case xs_Untold__Missing=>k_is)
  (case xs_Untold__NoBook=>k_is)
  (case xs_Untold__NoFit=>k_is)
  (case xs_Untold__NoLine=>k_is)
  (case xs_Untold__NoName=>k_is)
  (case xs_Untold__NoNumber=>k_is)
  (case xs_Untold__NoPattern=>k_is)
  (case xs_Untold__NoPlace=>k_is)
  (case xs_Untold__NoText=>k_is)
  (case xs_Untold__NoWay=>k_is)
  (case xs_Untold__Nothing=>k_is)
  (case xs_Untold__Refused=>k_is)
  (case xs_Untold__RuntimeError=>k_is)
  (case xs_Untold__Untold=>k_is)
  (case xs_Untold__ValueError=>k_is)
  (case a_law_hand=>k_is)
  (case l_law_hand=>k_is)
  (case c_law_hand=>k_is)
  (case k_law_hand=>k_is)
  (case a_law_take=>k_is)
  (case l_law_take=>k_is)
  (case c_law_take=>k_is)
  (case k_law_take=>k_is)
  (case a_law_pick=>k_is)
  (case l_law_pick=>k_is)
  (case c_law_pick=>k_is)
  (case k_law_pick=>k_is)
  (case a_law_made=>k_is)
  (case l_law_made=>k_is)
  (case c_law_made=>k_is)
  (case k_law_made=>k_is)
  (case a_law_values_right=>k_is)
  (case l_law_values_right=>k_is)
  (case c_law_values_right=>k_is)
  (case k_law_values_right=>k_is)
  (case a_law_classes_right=>k_is)
  (case l_law_classes_right=>k_is)
  (case c_law_classes_right=>k_is)
  (case k_law_classes_right=>k_is)
  (case a_law_raised=>k_is)
  (case l_law_raised=>k_is)
  (case c_law_raised=>k_is)
  (case k_law_raised=>k_is)
  (case a_law=>k_is)
  (case l_law=>k_is)
  (case c_law=>k_is)
  (case k_law=>k_is)
  (case xc_NoLine=>k_is)
  (case xt_NoLine=>k_is)
  (case l_NoLine___init__=>k_is)
  (case c_NoLine___init__=>k_is)
  (case k_NoLine___init__=>k_is)
  (case xc_NoName=>k_is)
  (case xt_NoName=>k_is)
  (case l_NoName___init__=>k_is)
  (case c_NoName___init__=>k_is)
  (case k_NoName___init__=>k_is)
  (case xc_NoNumber=>k_is)
  (case xt_NoNumber=>k_is)
  (case l_NoNumber___init__=>k_is)
  (case c_NoNumber___init__=>k_is)
  (case k_NoNumber___init__=>k_is)
  (case xc_NoPlace=>k_is)
  (case xt_NoPlace=>k_is)
  (case l_NoPlace___init__=>k_is)
  (case c_NoPlace___init__=>k_is)
  (case k_NoPlace___init__=>k_is)
  (case xc_NoText=>k_is)
  (case xt_NoText=>k_is)
  (case l_NoText___init__=>k_is)
  (case c_NoText___init__=>k_is)
  (case k_NoText___init__=>k_is)
  (case xc_NoWay=>k_is)
  (case xt_NoWay=>k_is)
  (case l_NoWay___init__=>k_is)
  (case c_NoWay___init__=>k_is)
  (case k_NoWay___init__=>k_is)
  (case xc_Untold=>k_is)
  (case xt_Untold=>k_is)
  (case l_Untold___init__=>k_is)
  (case c_Untold___init__=>k_is)
  (case k_Untold___init__=>k_is)
  (case z_LookupError=>k_is)
  (case z_RuntimeError=>k_is)
  (case z_ValueError=>k_is)
  (case z_abs=>k_is)
  (case z_all=>k_is)
  (case z_enumerate=>k_is)
  (case z_int=>k_is)
  (case z_isinstance=>k_is)
  (case z_len=>k_is)
  (case z_max=>k_is)
  (case z_min=>k_is)
  (case z_range=>k_is)
  (case z_repr=>k_is)
