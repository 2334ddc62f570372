import PyProof.Rows.All
import Wide.All
import OpenK.AllK
import Wide.FinOn
import HandS.Base
import HandS.Call
import HandS.List
import HandS.Comp
import HandS.Dict
import HandS.Iter
import HandS.Text
import HandS.Exc
import HandS.Ends
import HandS.Words
import HandS.WordsExc
import HandS.ExcOwn
import HandS.CallSlots
import HandS.CallLocal
import HandS.Defaults
import HandS.IsInst
import HandS.TupAny
import HandS.DictComp
import HandS.Style
import HandS.Wide
import HandS.TryOnly
import HandS.More
import HandS.Deep
import KE.KeyNested
import KE.KDictKeyed
import HandS.Lambda
import KE.KNestM
import PyProof.StrOps2
import HandS.Small
import HandS.RaiseMore
import PyProof.ReprRoads
import PyProof.CallFns
import PyProof.DictUpdate
import KE.GoesEnum
import KE.KUnpackStar
import HandS.ListItems
import HandS.Zip
import HandS.RevTup
import KE.KDictZip
import KE.KExcInit
import HandS.ExcInit
import KE.KTryMore
import HandS.ExcField
import KE.KExcIs
import KE.SortData
import HandS.SortRule
import HandS.MakeKwOnly
import HandS.Conv
import KE.DataFind
import KE.KDictPairs
import KE.KDictOf
import HandS.TupMul
import HandS.StrMore
import KE.KItemsList
import HandS.DictTup
import HandS.SetKeys
import HandS.SetFor
import PyProof.EqKinds
import HandS.DictEq
import PyProof.CallStr
import PyProof.Rows.IntBool
import PyProof.NeKinds
import HandS.Rev
import HandS.FStr
import HandS.TupSets
import KE.GoesSet
import KE.KMinKey
import KE.KDictList
import HandS.SortKw
import KE.KDictWalk
import KE.KDictSum
import PyProof.DictFindH
import PyProof.Rows.ReprOcc
import HandS.Codes
import PySem.Challenge.RW_holepatterns_k18_no_places_and_names
set_option maxHeartbeats 4000000
set_option Elab.async false
set_option linter.all false
set_option maxRecDepth 100000
namespace L3
open PySem PySem.Spec PyProof.Rows L2
abbrev NRow:=NestedKey × Addr × V
abbrev NVal:=NestedKey × Addr × Value
def PrN (rows:List NRow) (xs:List NVal):Prop:=Paired (fun(r:NRow) (x:NVal)=>r.1=x.1∧r.2.1=x.2.1∧RelV r.2.2 x.2.2) rows xs
def entN (w:World) (x:NVal):DictEntry:=⟨x.1.hash w, .ref x.2.1,x.2.2⟩
def RawN (w:World) (h:Heap) (a:Addr) (xs:List NVal):Prop:=∃o es ep,h.get? a=some o∧o.ExactDict∧o.data= .dict es ep∧es.toList=xs.map (entN w)∧(xs.map (·.1)).Nodup
def ObNP (w:World) (a:Addr) (rows:List NRow) (h:Heap):Prop:=(a==sysModules)=false∧rows.length≤sizeLine∧∃xs,PrN rows xs∧RawN w h a xs
def ObN (w:World) (a:Addr) (rows:List NRow):HO:= .ext (ObNP w a rows)
end L3
namespace L3
open PySem
structure LamTok where
 f:Addr
 c:Addr
 q:Str
 ids:List Nat
 vs:List L2.V
inductive D where
 |non|bl (b:Bool)|int (i:Int)|str (s:Str)|tup (l:List D)|lst (l:List D)
 |dic (ks:List L2.Key) (l:List D)|obj (n:Nat)|glb (x:Str)|ty (n:String)|scr (l:List Int)|kd (ks:List Str) (l:List D)
 /-- an exception that was caught: its class,its fields -/
 |xcp (c:Str) (ks:List Str) (l:List D)
 /-- a tuple of whole numbers that stands in the text -/
 |wtp (l:List Int)
 /-- a lambda,as it is handed to a def;what its names stood for when it was made -/
 |lam (t:LamTok) (l:List D)
deriving Inhabited
inductive O where
 |lst (l:List D)|dK (l:List (L2.Key × D))|dT (l:List (List L2.Key × D))|dN (l:List (PySem.NestedKey × D))|ins (c:Str) (fs:List (Str × D))|ptp (l:List D)|dead
 /-- the table of code objects of a def that makes lambdas: the def,the lambdas' name -/
 |tab (x q:Str)
abbrev Store:=List O
structure Ex where
 cls:Str
 fs:List (Str × D)
inductive R (α :Type) where
 |ok (a: α) (S:Store)|exc (e:Ex) (S:Store)|bad
@[reducible] def R.bind {α β :Type} (r:R α) (f: α →Store→R β):R β :=
  match r with
  | .ok a S=>f a S
  | .exc e S=> .exc e S
  | .bad=> .bad
abbrev EnvD:=List (Option D)
abbrev ED:=EnvD→Store→R D
abbrev TD:=EnvD→Store→R Bool
abbrev AD:=EnvD→Store→R (List D)
inductive SR where
 |nx (env:EnvD) (S:Store)|ret (d:D) (S:Store)|brk (env:EnvD) (S:Store)|ct (env:EnvD) (S:Store)|exc (e:Ex) (env:EnvD) (S:Store)|bad
abbrev SD:=EnvD→Store→SR
def R.toS {α :Type} (env:EnvD) (r:R α) (k: α →Store→SR):SR:=
 match r with
 | .ok a S=>k a S
 | .exc e S=> .exc e env S
 | .bad=> .bad
def eVar (i:Nat):ED:=fun env S=>match env[i]? with
 |some (some d)=> .ok d S
 | _=> .bad
def eK (d:D):ED:=fun _ S=> .ok d S
abbrev F1:=D→Store→R D
abbrev F2:=D→D→Store→R D
abbrev FN:=List D→Store→R D
def e1 (f:F1) (a:ED):ED:=fun env S=>(a env S).bind fun x S1=>f x S1
def e2 (f:F2) (a b:ED):ED:=fun env S=>(a env S).bind fun x S1=>(b env S1).bind fun y S2=>f x y S2
def aNil:AD:=fun _ S=> .ok [] S
def aCons (a:ED) (r:AD):AD:=fun env S=>(a env S).bind fun x S1=>(r env S1).bind fun xs S2=> .ok (x::xs) S2
def eN (f:FN) (a:AD):ED:=fun env S=>(a env S).bind fun xs S1=>f xs S1
def eIf (c:TD) (a b:ED):ED:=fun env S=>(c env S).bind fun k S1=>match k with
 |true=>a env S1
 |false=>b env S1
def tOfE (a:ED):TD:=fun env S=>(a env S).bind fun x S1=>match x with
 | .bl k=> .ok k S1
 | _=> .bad
def truthD (x:D) (S:Store):R Bool:=match x with
 | .bl k=> .ok k S
 | .non=> .ok false S
 | .int i=> .ok (i != 0) S
 | .str s=>if s.length≤sizeLine then .ok (s.length != 0) S else .bad
 | .tup l=> .ok (!l.isEmpty) S
 | .lst l=> .ok (!l.isEmpty) S
 | .obj n=>match S[n]? with
   |some (.lst l)=> .ok (!l.isEmpty) S
   | _=> .bad
 | _=> .bad
def tTruth (a:ED):TD:=fun env S=>(a env S).bind fun x S1=>truthD x S1
def tNot (a:TD):TD:=fun env S=>(a env S).bind fun k S1=> .ok (!k) S1
def tAnd (a b:TD):TD:=fun env S=>(a env S).bind fun k S1=>match k with
 |true=>b env S1
 |false=> .ok false S1
def tOr (a b:TD):TD:=fun env S=>(a env S).bind fun k S1=>match k with
 |true=> .ok true S1
 |false=>b env S1
def eNot (a:ED):ED:=fun env S=>(tOfE a env S).bind fun k S1=> .ok (.bl (!k)) S1
def eAnd (a b:ED):ED:=fun env S=>(tOfE a env S).bind fun k S1=>match k with
 |true=>b env S1
 |false=> .ok (.bl false) S1
def eOr (a b:ED):ED:=fun env S=>(tOfE a env S).bind fun k S1=>match k with
 |true=> .ok (.bl true) S1
 |false=>b env S1
def eChain (f g:F2) (a b c:ED):ED:=fun env S=>(a env S).bind fun x S1=>(b env S1).bind fun y S2=>(f x y S2).bind fun k S3=>match k with
 | .bl true=>(c env S3).bind fun z S4=>g y z S4
 | .bl false=> .ok (.bl false) S3
 | _=> .bad
def mkTup:FN:=fun xs S=>if xs.length≤sizeLine then .ok (.tup xs) S else .bad
def mkLst:FN:=fun xs S=>if xs.length≤sizeLine then .ok (.lst xs) S else .bad
def mkObj:FN:=fun xs S=>if xs.length≤sizeLine then .ok (.obj S.length) (S++ [.lst xs]) else .bad
def sSkip:SD:=fun env S=> .nx env S
def sSeq (a b:SD):SD:=fun env S=>match a env S with
 | .nx env1 S1=>b env1 S1
 |r=>r
def sIf (c:TD) (a b:SD):SD:=fun env S=>(c env S).toS env fun k S1=>match k with
 |true=>a env S1
 |false=>b env S1
def sRet (a:ED):SD:=fun env S=>(a env S).toS env fun d S1=> .ret d S1
def sExpr (a:ED):SD:=fun env S=>(a env S).toS env fun _ S1=> .nx env S1
def sBrk:SD:=fun env S=> .brk env S
def sCt:SD:=fun env S=> .ct env S
abbrev GD:=D→EnvD→Store→SR
def gName (i:Nat):GD:=fun d env S=> .nx (env.set i (some d)) S
def sAsg (a:ED) (g:GD):SD:=fun env S=>(a env S).toS env fun d S1=>g d env S1
def gNames:List Nat→List D→EnvD→Store→SR
 | [],[],env,S=> .nx env S
 |i::is,d::ds,env,S=>gNames is ds (env.set i (some d)) S
 | _,_,_,_=> .bad
def gTup (is:List Nat):GD:=fun d env S=>match d with
 | .tup l=>gNames is l env S
 | .wtp l=>gNames is (l.map D.int) env S
 | _=> .bad
def forL (g:GD) (body:SD):List D→EnvD→Store→SR
 | [],env,S=> .nx env S
 |x::xs,env,S=>match g x env S with
  | .nx env1 S1=>match body env1 S1 with
    | .nx env2 S2=>forL g body xs env2 S2
    | .ct env2 S2=>forL g body xs env2 S2
    | .brk env2 S2=> .nx env2 S2
    | .ret d S2=> .ret d S2
    | .exc e env2 S2=> .exc e env2 S2
    | .bad=> .bad
  | _=> .bad
def sWhile (c:TD) (body:SD):Nat→SD
 |0,_,_=> .bad
 |n+1,env,S=>(c env S).toS env fun k S1=>match k with
  |false=> .nx env S1
  |true=>match body env S1 with
   | .nx env2 S2=>sWhile c body n env2 S2
   | .ct env2 S2=>sWhile c body n env2 S2
   | .brk env2 S2=> .nx env2 S2
   | .ret d S2=> .ret d S2
   | .exc e env2 S2=> .exc e env2 S2
   | .bad=> .bad
def SR.fin:SR→R D
 | .nx _ S1=> .ok .non S1
 | .ret d S1=> .ok d S1
 | .exc e _ S1=> .exc e S1
 | _=> .bad
def run (np n:Nat) (body:SD):FN:=fun xs S=>if xs.length=np then(body (xs.map some++List.replicate (n-xs.length) none) S).fin else .bad
end L3
namespace L3
open PySem PySem.Spec PyProof.Rows L2
structure GC where
 K:PySem.W.Frag
 w:World
 mg:Str→Option Value
structure Wd where
 mu:List Addr
 S:Store
 H:Hp
 /-- lists and dicts that are being made around here: nothing refers to them -/
 tmp:List Addr
def O.live:O→Prop
 | .dead=>False
 | .ptp _=>False
 | _=>True
def MutS (w:Wd) (a:Addr):Prop:=∃(n:Nat) (o:O),w.S[n]? =some o∧o.live∧w.mu[n]? =some a
def Mut (w:Wd) (a:Addr):Prop:=MutS w a∨a ∈ w.tmp
def Fz (w:Wd) (a:Addr) (u:HO):Prop:=Rd w.H a u∧¬Mut w a
def KT (K:PySem.W.Frag) (a:Addr) (xs:List V):Prop:=
 ∃(o:Obj) (its:Array Value) (n:Nat),K.lookup a=some o∧o.cls= .type "tuple" ∧o.data= .seq its n∧its.size≤sizeLine∧Vals xs its.toList
def KL (K:PySem.W.Frag) (a:Addr) (xs:List V):Prop:=
 ∃(o:Obj) (its:Array Value) (n:Nat),K.lookup a=some o∧o.cls= .type "list" ∧o.dict=none∧o.data= .seq its n∧its.size≤sizeLine∧Vals xs its.toList
def xoH (a:Addr) (cls:Value) (dx:Option Addr):HO:= .ext fun h=>∃(oe:Obj) (vs:Array Value),h.get? a=some oe∧Zc cls dx oe∧oe.data= .fields vs
def isIt:D→Bool
 | .int _=>true
 | _=>false
def plc (l:List D):Bool:=l.all isIt
def TupAt (G:GC) (w:Wd) (a:Addr) (vs:List V) (l:List D):Prop:=(w.H a=some (.tup vs)∧¬Mut w a)∨(KT G.K a vs∧plc l=false)
def KEnt (G:GC):List DictEntry→List Str→List Value→Prop
 | [],ks,us=>ks= [] ∧us= []
 |e::es,ks,us=>∃k kr u ur t,ks=k::kr∧us=u::ur∧e.key= .str k t∧e.val=u∧e.hash=PyData.keyHash G.w.params k∧KEnt G es kr ur
def CodeAt (w:Wd) (q:Str) (c:Addr):Prop:=w.H c=some (LamX.CodeO c q)∧¬Mut w c
mutual
def Rep (G:GC) (w:Wd):D→V→Prop
 | .non,v=>v= .non
 | .bl b,v=>v= .bl b
 | .int i,v=>v= .int i
 | .str s,v=>v= .str s
 | .tup l,v=>∃a vs,v= .ref a∧TupAt G w a vs l∧RepL G w l vs
 | .lst l,v=>∃a vs,v= .ref a∧w.H a=some (.lst vs)∧¬Mut w a∧RepL G w l vs
 | .dic ks l,v=>∃a vs,v= .ref a∧w.H a=some (.dK (ks.zip vs))∧¬Mut w a∧ks.length=l.length∧RepL G w l vs
 | .obj n,v=>∃a,w.mu[n]? =some a∧v= .ref a
 | .glb x,v=>∃u,G.mg x=some u∧RelV v u
 | .wtp l,v=>∃a,v= .ref a∧KT G.K a (l.map V.int)
 | .ty n,v=>v= .ty n
 | .scr ns,v=>∃a,v= .ref a∧(Fz w a (.lst (ns.map V.int))∨KL G.K a (ns.map V.int))
 | .kd ks l,v=>∃a es n vs us,v= .ref a∧KDict G.K G.w a es n∧(∀ z,PySem.W.nsIn G.K a z=some ((ks.zip us).lookup z))∧ks.length=l.length∧Vals vs us∧KEnt G es.toList ks us∧RepL G w l vs
 | .lam t l,v=>v= .ref t.f∧CodeAt w t.q t.c∧RepL G w l t.vs
 | .xcp c ks l,v=>∃a C dx vs,v= .ref a∧G.mg c=some (.ref C)∧(w.H a=some (xoH a (.ref C) dx)∧¬Mut w a)∧ks.length=l.length∧((ks= [] ∧dx=none)∨∃d,dx=some d∧w.H d=some (.xd (ks.zip vs))∧¬Mut w d)∧RepL G w l vs
def RepL (G:GC) (w:Wd):List D→List V→Prop
 | [],vs=>vs= []
 |d::ds,vs=>∃v r,vs=v::r∧Rep G w d v∧RepL G w ds r
end
def RepKV {κ :Type} (G:GC) (w:Wd):List (κ × D)→List (κ × V)→Prop
 | [],x=>x= []
 |p::r,x=>∃v y,x=(p.1,v)::y∧Rep G w p.2 v∧RepKV G w r y
mutual
def kD:NestedKey→D
 | .none=> .non
 | .num i=> .int i
 | .text x=> .str x
 | .tup ks=> .tup (kDL ks)
def kDL:List NestedKey→List D
 | [] => []
 |k::ks=>kD k::kDL ks
end
mutual
def nkOk:NestedKey→Bool
 | .none=>true
 | .num _=>true
 | .text x=>PyData.strOk x
 | .tup ks=>nkOkL ks
def nkOkL:List NestedKey→Bool
 | [] =>true
 |k::ks=>nkOk k&&nkOkL ks
end
def RepN (G:GC) (w:Wd):List (NestedKey × D)→List NRow→Prop
 | [],x=>x= []
 |p::r,x=>∃b v y,x=(p.1,b,v)::y∧Rep G w (kD p.1) (.ref b)∧(p.1.depth≤8∧nkOk p.1=true)∧Rep G w p.2 v∧RepN G w r y
def TabIs (G:GC) (x:Str) (a:Addr):Prop:=∃(f c:Addr) (fd:FuncData) (oc:Value) (od:Option Addr) (osl:Array (Option Value)),G.mg x=some (.ref f)∧G.K.lookup f=some ⟨oc,od, .func fd,osl⟩∧fd.code= .ref c∧PySem.W.codeHdIn G.K c a=true
def TabR (w:Wd) (a:Addr) (q:Str):Prop:=∃ps:Array Value,w.H a=some (.tbl ps)∧TriplesOk ps.toList∧∀(pos:Pos) (cv:Value),codeAmong pos ps.toList=some cv→∃c,cv= .ref c∧CodeAt w q c
def ORep (G:GC) (w:Wd) (a:Addr):O→Prop
 | .lst ds=>∃vs,w.H a=some (.lst vs)∧RepL G w ds vs
 | .dK kvs=>∃vs,w.H a=some (.dK vs)∧RepKV G w kvs vs
 | .dT kvs=>∃vs,w.H a=some (.dT vs)∧RepKV G w kvs vs
 | .dN kvs=>∃rows,w.H a=some (ObN G.w a rows)∧RepN G w kvs rows
 | .ins c fs=>∃C dx vs,w.H a=some (.ins C dx vs)∧RepKV G w fs vs∧G.mg c=some (.ref C)
 | .ptp ds=>∃o vs,(w.H a=some (.frz o (.tup vs))∧¬Mut w a)∧o.dict=none∧RepL G w ds vs
 | .dead=>True
 | .tab x q=>TabIs G x a∧TabR w a q
def NT (u:HO):Prop:=∀vs,u≠ .tup vs
structure SRep (G:GC) (w:Wd):Prop where
 len:w.mu.length=w.S.length
 inj:∀(n m:Nat) (a:Addr) (o o':O),w.S[n]? =some o→w.S[m]? =some o'→o.live→o'.live→w.mu[n]? =some a→w.mu[m]? =some a→n=m
 obj:∀(n:Nat) (o:O) (a:Addr),w.S[n]? =some o→w.mu[n]? =some a→ORep G w a o
 tm:∀a ∈ w.tmp,(∃ u: { u:HO // NT u },w.H a=some u.1)∧¬MutS w a
structure ERep (G:GC) (w:Wd) (env:EnvD) (σ :L2.St):Prop where
 len:env.length= σ.length
 at':∀(i:Nat) (d:D),env[i]? =some (some d)→∃v:V,σ[i]? =some (some v)∧Rep G w d v
structure WX' (T:List Addr) (w w':Wd):Prop where
 mu:∀(n:Nat) (a:Addr),w.mu[n]? =some a→w'.mu[n]? =some a
 keep:∀(a:Addr) (o:HO),w.H a=some o→¬MutS w a→a ∉ T→w'.H a=some o∧¬MutS w' a
 tmp:∀a ∈ w'.tmp,a ∈ w.tmp∨a ∈ T
 tmp':∀a ∈ w.tmp,a ∈ w'.tmp
abbrev WExt (w w':Wd):Prop:=WX' [] w w'
theorem WExt.refl (w:Wd):WExt w w:=⟨fun _ _ h=>h,fun _ _ h h' _=>⟨h,h'⟩,fun _ h=> .inl h,fun _ h=>h⟩
theorem WX'.trans {T:List Addr} {a b c:Wd} (x:WX' T a b) (y:WX' T b c):WX' T a c:=
 ⟨fun n d h=>y.mu n d (x.mu n d h),fun d o h h' t=>let⟨h1,h2⟩:=x.keep d o h h' t;y.keep d o h1 h2 t,fun d h=>(y.tmp d h).elim (x.tmp d) .inr,fun d h=>y.tmp' d (x.tmp' d h)⟩
theorem WX'.wide {T:List Addr} {a b:Wd} (x:WExt a b):WX' T a b:=⟨x.mu,fun d o h h' _=>x.keep d o h h' (by simp),fun d h=>(x.tmp d h).imp id fun z=>by simp at z,x.tmp'⟩
def Tok (T:List Addr) (w:Wd):Prop:=∀a ∈ T,a ∈ w.tmp∨w.H a=none
theorem WX'.keepM {T:List Addr} {w w':Wd} (x:WX' T w w') (hT:Tok T w) {a:Addr} {o:HO} (h:w.H a=some o) (nm: ¬Mut w a):w'.H a=some o∧¬Mut w' a:=by
 have nT:a ∉ T:=fun z=>(hT a z).elim (fun z=>nm (.inr z)) fun z=>by rw[h] at z;cases z
 obtain⟨h1,h2⟩:=x.keep a o h (fun z=>nm (.inl z)) nT
 exact⟨h1,fun z=>z.elim h2 fun z=>(x.tmp a z).elim (fun z=>nm (.inr z)) nT⟩
section
variable {T:List Addr} {G:GC} {w w':Wd}
theorem Fz.monoT {a:Addr} {u:HO} (x:WX' T w w') (hT:Tok T w) (h:Fz w a u):Fz w' a u:=by
 obtain⟨h|⟨o,h⟩,nm⟩:=h
 ·obtain⟨h1,h2⟩:=x.keepM hT h nm;exact⟨.inl h1,h2⟩
 ·obtain⟨h1,h2⟩:=x.keepM hT h nm;exact⟨.inr ⟨o,h1⟩,h2⟩
mutual
theorem Rep.monoT (x:WX' T w w') (hT:Tok T w):∀(d:D) (v:V),Rep G w d v→Rep G w' d v
 | .non,v,h=>by simpa only[Rep] using h
 | .bl b,v,h=>by simpa only[Rep] using h
 | .int i,v,h=>by simpa only[Rep] using h
 | .str s,v,h=>by simpa only[Rep] using h
 | .tup l,v,h=>by
   simp only[Rep] at h ⊢
   obtain⟨a,vs,e,h1,h2⟩:=h
   exact⟨a,vs,e,h1.imp (fun z=>x.keepM hT z.1 z.2) id,RepL.monoT x hT l vs h2⟩
 | .lst l,v,h=>by
   simp only[Rep] at h ⊢
   obtain⟨a,vs,e,h1,nm,h2⟩:=h
   obtain⟨q1,q2⟩:=x.keepM hT h1 nm
   exact⟨a,vs,e,q1,q2,RepL.monoT x hT l vs h2⟩
 | .dic ks l,v,h=>by
   simp only[Rep] at h ⊢
   obtain⟨a,vs,e,h1,nm,hl,h2⟩:=h
   obtain⟨q1,q2⟩:=x.keepM hT h1 nm
   exact⟨a,vs,e,q1,q2,hl,RepL.monoT x hT l vs h2⟩
 | .obj n,v,h=>by
   simp only[Rep] at h ⊢
   obtain⟨a,h1,e⟩:=h
   exact⟨a,x.mu n a h1,e⟩
 | .glb y,v,h=>by simpa only[Rep] using h
 | .wtp _,v,h=>by simpa only[Rep] using h
 | .ty n,v,h=>by simpa only[Rep] using h
 | .scr ns,v,h=>by
   simp only[Rep] at h ⊢
   obtain⟨a,e,h1⟩:=h
   exact⟨a,e,h1.imp (Fz.monoT x hT) id⟩
 | .kd ks l,v,h=>by
   simp only[Rep] at h ⊢
   obtain⟨a,es,n,vs,us,e,h1,h2,h3,h4,ke,h5⟩:=h
   exact⟨a,es,n,vs,us,e,h1,h2,h3,h4,ke,RepL.monoT x hT l vs h5⟩
 | .lam t l,v,h=>by
   simp only[Rep] at h ⊢
   exact⟨h.1,x.keepM hT h.2.1.1 h.2.1.2,RepL.monoT x hT l t.vs h.2.2⟩
 | .xcp c ks l,v,h=>by
   simp only[Rep] at h ⊢
   obtain⟨a,C,dx,vs,e,h1,⟨h2,nm⟩,h3,h4,h5⟩:=h
   exact⟨a,C,dx,vs,e,h1,x.keepM hT h2 nm,h3,h4.imp id fun⟨d,e1,e2,nd⟩=>let⟨q1,q2⟩:=x.keepM hT e2 nd;⟨d,e1,q1,q2⟩,RepL.monoT x hT l vs h5⟩
theorem RepL.monoT (x:WX' T w w') (hT:Tok T w):∀(d:List D) (v:List V),RepL G w d v→RepL G w' d v
 | [],v,h=>by simpa only[RepL] using h
 |d::ds,v,h=>by
  simp only[RepL] at h ⊢
  obtain⟨y,r,e,h1,h2⟩:=h
  exact⟨y,r,e,Rep.monoT x hT d y h1,RepL.monoT x hT ds r h2⟩
end
end
theorem noT {w:Wd} :Tok [] w:=fun _ h=>by simp at h
theorem Rep.mono {G:GC} {w w':Wd} (x:WExt w w') (d:D) (v:V) (h:Rep G w d v):Rep G w' d v:=Rep.monoT x noT d v h
theorem RepL.mono {G:GC} {w w':Wd} (x:WExt w w') (d:List D) (v:List V) (h:RepL G w d v):RepL G w' d v:=RepL.monoT x noT d v h
theorem RepKV.monoT {κ :Type} {T:List Addr} {G:GC} {w w':Wd} (x:WX' T w w') (hT:Tok T w):∀(d:List (κ × D)) (v:List (κ × V)),RepKV G w d v→RepKV G w' d v
 | [],v,h=>h
 |d::ds,v,h=>by
  obtain⟨y,r,e,h1,h2⟩:=h
  exact⟨y,r,e,Rep.monoT x hT _ y h1,RepKV.monoT x hT ds r h2⟩
theorem RepN.monoT {T:List Addr} {G:GC} {w w':Wd} (x:WX' T w w') (hT:Tok T w):∀(d:List (NestedKey × D)) (v:List NRow),RepN G w d v→RepN G w' d v
 | [],v,h=>h
 |p::ds,v,h=>by
  obtain⟨b,u,y,e,h1,h2,h3,h4⟩:=h
  exact⟨b,u,y,e,Rep.monoT x hT _ _ h1,h2,Rep.monoT x hT _ _ h3,RepN.monoT x hT ds y h4⟩
theorem RepKV.mono {κ :Type} {G:GC} {w w':Wd} (x:WExt w w') (d:List (κ × D)) (v:List (κ × V)) (h:RepKV G w d v):RepKV G w' d v:=RepKV.monoT x noT d v h
theorem ERep.monoT {T:List Addr} {G:GC} {w w':Wd} {env:EnvD} {σ :L2.St} (x:WX' T w w') (hT:Tok T w) (h:ERep G w env σ):ERep G w' env σ :=
 ⟨h.len,fun i d e=>let⟨v,h1,h2⟩:=h.at' i d e;⟨v,h1,Rep.monoT x hT d v h2⟩⟩
theorem ERep.mono {G:GC} {w w':Wd} {env:EnvD} {σ :L2.St} (x:WExt w w') (h:ERep G w env σ):ERep G w' env σ :=ERep.monoT x noT h
theorem ERep.set {G:GC} {w:Wd} {env:EnvD} {σ :L2.St} {d:D} {v:V} (i:Nat) (h:ERep G w env σ) (r:Rep G w d v):ERep G w (env.set i (some d)) (σ.set i (some v)):=by
 refine⟨by simp[h.len],fun j d' e=> ?_⟩
 by_cases hj:i=j
 ·subst hj
  by_cases hi:i<env.length
  ·rw[List.getElem?_set_self hi] at e
   cases e
   exact⟨v,List.getElem?_set_self (by rw[← h.len];exact hi),r⟩
  ·rw[List.getElem?_eq_none (by simpa using hi)] at e
   cases e
 ·rw[List.getElem?_set_ne hj] at e ⊢
  exact h.at' j d' e
def XRep (G:GC) (w:Wd) (e:Ex) (C:Value) (dx:Option Addr):Prop:=
 (∃ Ca,G.mg e.cls=some (.ref Ca)∧C= .ref Ca)∧((e.fs= [] ∧dx=none)∨∃d kvs,dx=some d∧w.H d=some (.xd kvs)∧¬Mut w d∧RepKV G w e.fs kvs)
def Post {α β :Type} (G:GC) (w:Wd) (r:R α) (Ra:Wd→ α → β →Prop) (Q: β →Hp→Prop) (E:Value→Option Addr→Hp→Prop):Prop:=
 match r with
 | .ok d S'=>∀v w',WExt w w'→w'.S=S'→SRep G w'→Ra w' d v→Q v w'.H
 | .exc e S'=>∀C dx w',WExt w w'→w'.S=S'→SRep G w'→XRep G w' e C dx→E C dx w'.H
 | .bad=>False
section
variable {α β γ δ :Type} {G:GC} {w w':Wd} {r:R α} {Ra:Wd→ α → β →Prop} {Rb:Wd→ γ → δ →Prop} {Q Q': β →Hp→Prop} {E E':Value→Option Addr→Hp→Prop}
theorem Post.shift (x:WExt w w') (h:Post G w r Ra Q E):Post G w' r Ra Q E:=by
 cases r with
 |ok d S'=>exact fun v w2 e hs sr rp=>h v w2 (WX'.trans x e) hs sr rp
 |exc e S'=>exact fun C dx w2 e hs sr rp=>h C dx w2 (WX'.trans x e) hs sr rp
 |bad=>exact h
theorem Post.mono (h:Post G w r Ra Q E) (hq:∀v H,Q v H→Q' v H) (he:∀C d H,E C d H→E' C d H):Post G w r Ra Q' E':=by
 cases r with
 |ok d S'=>exact fun v w2 e hs sr rp=>hq _ _ (h v w2 e hs sr rp)
 |exc e S'=>exact fun C dx w2 e hs sr rp=>he _ _ _ (h C dx w2 e hs sr rp)
 |bad=>exact h
def Mid {β :Type} (G:GC) (w:Wd) (Ra:Wd→ α → β →Prop) (P:Wd→ α →Prop) (x: β) (H1:Hp):Prop:=
 ∃w1 d,w1.H=H1∧WExt w w1∧SRep G w1∧Ra w1 d x∧P w1 d
theorem Post.bind {f: α →Store→R γ} {Q: δ →Hp→Prop} (h:Post G w (r.bind f) Rb Q E):
 Post G w r Ra (Mid G w Ra fun w1 d=>Post G w1 (f d w1.S) Rb Q E) E:=by
 cases r with
 |ok d S'=>
  intro v w1 e hs sr rp
  refine⟨w1,d,rfl,e,sr,rp,?_⟩
  subst hs
  exact Post.shift e h
 |exc e S'=>exact h
 |bad=>exact h
theorem Post.ret {a: α} {b: β} (sr:SRep G w) (ra:Ra w a b) (h:Post G w (.ok a w.S) Ra Q E):Q b w.H:=h b w (.refl w) rfl sr ra
end
def tE (G:GC) (m:ED) (Wx:WX):TE:=fun σ H Q=>∃w env,w.H=H∧SRep G w∧ERep G w env σ ∧Post G w (m env w.S) (Rep G) Q (fun C dx H'=>Wx C dx σ H')
def tT (G:GC) (m:TD) (Wx:WX):TT:=fun σ H Q=>∃w env,w.H=H∧SRep G w∧ERep G w env σ ∧Post G w (m env w.S) (fun _ a b=>a=b) Q (fun C dx H'=>Wx C dx σ H')
def tA (G:GC) (m:AD) (Wx:WX):TA:=fun σ H Q=>∃w env,w.H=H∧SRep G w∧ERep G w env σ ∧Post G w (m env w.S) (RepL G) Q (fun C dx H'=>Wx C dx σ H')
def PostS (G:GC) (w:Wd) (r:SR) (D:Ends) (Wx:WX):Prop:=
 match r with
 | .nx env' S'=>∀ σ' w',WExt w w'→w'.S=S'→SRep G w'→ERep G w' env' σ'→D.nx σ' w'.H
 | .ret d S'=>∀v w',WExt w w'→w'.S=S'→SRep G w'→Rep G w' d v→D.rt v w'.H
 | .brk env' S'=>∀ σ' w',WExt w w'→w'.S=S'→SRep G w'→ERep G w' env' σ'→D.bk σ' w'.H
 | .ct env' S'=>∀ σ' w',WExt w w'→w'.S=S'→SRep G w'→ERep G w' env' σ'→D.ct σ' w'.H
 | .exc e env' S'=>∀C dx σ' w',WExt w w'→w'.S=S'→SRep G w'→ERep G w' env' σ'→XRep G w' e C dx→Wx C dx σ' w'.H
 | .bad=>False
def tS (G:GC) (m:SD) (Wx:WX):TS:=fun D σ H=>∃w env,w.H=H∧SRep G w∧ERep G w env σ ∧PostS G w (m env w.S) D Wx
theorem PostS.shift {G:GC} {w w':Wd} {r:SR} {D:Ends} {Wx:WX} (x:WExt w w') (h:PostS G w r D Wx):PostS G w' r D Wx:=by
 cases r with
 |nx env S'=>exact fun v w2 e hs sr rp=>h v w2 (WX'.trans x e) hs sr rp
 |ret d S'=>exact fun v w2 e hs sr rp=>h v w2 (WX'.trans x e) hs sr rp
 |brk env S'=>exact fun v w2 e hs sr rp=>h v w2 (WX'.trans x e) hs sr rp
 |ct env S'=>exact fun v w2 e hs sr rp=>h v w2 (WX'.trans x e) hs sr rp
 |exc e env S'=>exact fun C dx σ w2 e hs sr er rp=>h C dx σ w2 (WX'.trans x e) hs sr er rp
 |bad=>exact h
theorem PostS.ofR {α β :Type} {G:GC} {w:Wd} {r:R α} {Ra:Wd→ α → β →Prop} {k: α →Store→SR} {D:Ends} {Wx:WX} {env:EnvD} {σ :L2.St} (er:ERep G w env σ) (h:PostS G w (r.toS env k) D Wx):
 Post G w r Ra (Mid G w Ra fun w1 d=>PostS G w1 (k d w1.S) D Wx) (fun C dx H'=>Wx C dx σ H'):=by
 cases r with
 |ok d S'=>
  intro v w1 e hs sr rp
  refine⟨w1,d,rfl,e,sr,rp,?_⟩
  subst hs
  exact PostS.shift e h
 |exc e S'=>exact fun C dx w2 x hs sr rp=>h C dx σ w2 x hs sr (er.mono x) rp
 |bad=>exact h
theorem peI {X:Cx} {e:Expr} {t t':TE} (h:PE X e t) (i:∀ σ H Q,t' σ H Q→t σ H Q):PE X e t':=⟨fun pins s σ H Q I q=>h.run pins s σ H Q I (i _ _ _ q)⟩
theorem ptI {X:Cx} {e:Expr} {t t':TT} (h:PT X e t) (i:∀ σ H Q,t' σ H Q→t σ H Q):PT X e t':=⟨fun pins s σ H Q I q=>h.run pins s σ H Q I (i _ _ _ q)⟩
theorem pwI {X:Cx} {e:Expr} {t t':TT} (h:PW X e t) (i:∀ σ H Q,t' σ H Q→t σ H Q):PW X e t':=⟨fun wh pins s σ H Q I q=>h.run wh pins s σ H Q I (i _ _ _ q)⟩
theorem paI {X:Cx} {e:List Expr} {t t':TA} (h:PA X e t) (i:∀ σ H Q,t' σ H Q→t σ H Q):PA X e t':=⟨fun po pins s σ H Q I q=>h.run po pins s σ H Q I (i _ _ _ q)⟩
theorem psI {X:Cx} {e:Stmt} {t t':TS} (h:PS X e t) (i:∀D σ H,t' D σ H→t D σ H):PS X e t':=⟨fun pins s σ H D I q=>h.run pins s σ H D I (i _ _ _ q)⟩
theorem pssI {X:Cx} {e:List Stmt} {t t':TS} (h:PSs X e t) (i:∀D σ H,t' D σ H→t D σ H):PSs X e t':=⟨fun pins s σ H D I q=>h.run pins s σ H D I (i _ _ _ q)⟩
abbrev WF:WX:=fun _ _ _ _=>False
section
variable {G:GC} {X:Cx} {Wx:WX} {pos:Pos}
theorem q_var {e:Expr} {i:Nat} (h:PE X e (tVar i)):PE X e (tE G (eVar i) Wx):=peI h fun σ H Q q=>by
 obtain⟨w,env,rfl,sr,er,p⟩:=q
 unfold eVar at p
 cases hi:env[i]? with
 |none=>rw[hi] at p;exact p.elim
 |some o=>
  cases o with
  |none=>rw[hi] at p;exact p.elim
  |some d=>
   rw[hi] at p
   obtain⟨v,e,r⟩:=er.at' i d hi
   exact⟨v,e,Post.ret sr r p⟩
theorem q_const {e:Expr} {v:V} {d:D} (h:PE X e (tC v)) (r:∀w,Rep G w d v):PE X e (tE G (eK d) Wx):=peI h fun σ H Q q=>by
 obtain⟨w,env,rfl,sr,er,p⟩:=q
 exact Post.ret sr (r w) p
theorem q_int {i j} :PE X (.Constant (.int i) j pos) (tE G (eK (.int i)) Wx):=q_const pe_int fun _=>by simp[Rep]
theorem q_bl {b j} :PE X (.Constant (.bool b) j pos) (tE G (eK (.bl b)) Wx):=q_const pe_bl fun _=>by simp[Rep]
theorem q_non {j} :PE X (.Constant .none j pos) (tE G (eK .non) Wx):=q_const pe_non fun _=>by simp[Rep]
theorem q_str {x j} :PE X (.Constant (.str x) j pos) (tE G (eK (.str x)) Wx):=q_const pe_str fun _=>by simp[Rep]
def r2 (G:GC) (f:F2):R2:=fun x y H Q=>∃w d1 d2,w.H=H∧SRep G w∧Rep G w d1 x∧Rep G w d2 y∧Post G w (f d1 d2 w.S) (Rep G) Q (fun _ _ _=>False)
def r1 (G:GC) (f:F1):V→Hp→VK→Prop:=fun x H Q=>∃w d1,w.H=H∧SRep G w∧Rep G w d1 x∧Post G w (f d1 w.S) (Rep G) Q (fun _ _ _=>False)
def rN (G:GC) (f:FN):List V→Hp→VK→Prop:=fun xs H Q=>∃w ds,w.H=H∧SRep G w∧RepL G w ds xs∧Post G w (f ds w.S) (Rep G) Q (fun _ _ _=>False)
def rM (G:GC) (f:D→FN):V→List V→Hp→VK→Prop:=fun x xs H Q=>∃w d ds,w.H=H∧SRep G w∧Rep G w d x∧RepL G w ds xs∧Post G w (f d ds w.S) (Rep G) Q (fun _ _ _=>False)
def R.calm {α :Type} :R α →Prop
 | .exc _ _=>False
 | _=>True
def Calm2 (f:F2):Prop:=∀x y S,(f x y S).calm
def Calm1 (f:F1):Prop:=∀x S,(f x S).calm
def CalmN (f:FN):Prop:=∀xs S,(f xs S).calm
def CalmM (f:D→FN):Prop:=∀x xs S,(f x xs S).calm
theorem Post.calm {α β :Type} {w:Wd} {r:R α} {Ra:Wd→ α → β →Prop} {Q: β →Hp→Prop} {E E':Value→Option Addr→Hp→Prop} (c:r.calm) (h:Post G w r Ra Q E):Post G w r Ra Q E':=by
 cases r with
 |ok _ _=>exact h
 |exc _ _=>exact c.elim
 |bad=>exact h
theorem imp_e2 {f:F2} {a b:ED} (c:Calm2 f):∀ σ H Q,tE G (e2 f a b) Wx σ H Q→tOp (r2 G f) (tE G a Wx) (tE G b Wx) σ H Q:=by
 intro σ H Q q
 obtain⟨w,env,rfl,sr,er,p⟩:=q
 refine⟨w,env,rfl,sr,er,(Post.bind p).mono (fun x H1 m=> ?_) fun _ _ _ h=>h⟩
 obtain⟨w1,d1,rfl,x1,s1,rp1,p1⟩:=m
 refine⟨w1,env,rfl,s1,er.mono x1,(Post.bind p1).mono (fun y H2 m=> ?_) fun _ _ _ h=>h⟩
 obtain⟨w2,d2,rfl,x2,s2,rp2,p2⟩:=m
 exact⟨w2,d1,d2,rfl,s2,Rep.mono x2 _ _ rp1,rp2,p2.calm (c _ _ _)⟩
theorem q_op {op:Operator} {f:F2} {a b:Expr} {ma mb:ED} (ho:OpR X (binaryOp op) (r2 G f)) (c:Calm2 f) (ha:PE X a (tE G ma Wx)) (hb:PE X b (tE G mb Wx)):PE X (.BinOp a op b pos) (tE G (e2 f ma mb) Wx):=
 peI (pe_op ho ha hb) (imp_e2 c)
theorem q_cmp {op:CmpOp} {f:F2} {a b:Expr} {ma mb:ED} (ho:OpR X (compareOp op) (r2 G f)) (c:Calm2 f) (ha:PE X a (tE G ma Wx)) (hb:PE X b (tE G mb Wx)) (hm:behindInMarks op b=false):PE X (.Compare a [op] [b] pos) (tE G (e2 f ma mb) Wx):=
 peI (pe_cmpR ho ha hb hm) (imp_e2 c)
theorem q_ix {f:F2} {a b:Expr} {ma mb:ED} (ho:IxR X (r2 G f)) (c:Calm2 f) (ha:PE X a (tE G ma Wx)) (hb:PE X b (tE G mb Wx)) (hs:PlainIx b):PE X (.Subscript a b pos) (tE G (e2 f ma mb) Wx):=
 peI (pe_ix ho ha hb hs) (imp_e2 c)
theorem q_un {op:UnaryOp} {f:F1} {a:Expr} {ma:ED} (ho:UnR X (unaryOp op) (r1 G f)) (c:Calm1 f) (ha:PE X a (tE G ma Wx)):PE X (.UnaryOp op a pos) (tE G (e1 f ma) Wx):=
 peI (pe_un ho ha) fun σ H Q q=>by
  obtain⟨w,env,rfl,sr,er,p⟩:=q
  refine⟨w,env,rfl,sr,er,(Post.bind p).mono (fun x H1 m=> ?_) fun _ _ _ h=>h⟩
  obtain⟨w1,d1,rfl,x1,s1,rp1,p1⟩:=m
  exact⟨w1,d1,rfl,s1,rp1,p1.calm (c _ _)⟩
theorem q_nil:PA X [] (tA G aNil Wx):=paI pa_nil fun σ H Q q=>by
 obtain⟨w,env,rfl,sr,er,p⟩:=q
 exact Post.ret (Ra:=RepL G) sr (by simp[RepL]) p
theorem q_cons {e:Expr} {es:List Expr} {m:ED} {ms:AD} (ha:PE X e (tE G m Wx)) (hr:PA X es (tA G ms Wx)) (hs:starEach (e::es) X.env=(false,eval e X.env)::starEach es X.env:=by rfl):PA X (e::es) (tA G (aCons m ms) Wx):=
 paI (pa_cons ha hr hs) fun σ H Q q=>by
  obtain⟨w,env,rfl,sr,er,p⟩:=q
  refine⟨w,env,rfl,sr,er,(Post.bind p).mono (fun x H1 m=> ?_) fun _ _ _ h=>h⟩
  obtain⟨w1,d1,rfl,x1,s1,rp1,p1⟩:=m
  refine⟨w1,env,rfl,s1,er.mono x1,(Post.bind p1).mono (fun y H2 m=> ?_) fun _ _ _ h=>h⟩
  obtain⟨w2,d2,rfl,x2,s2,rp2,p2⟩:=m
  exact Post.ret (Ra:=RepL G) (a:=d1::d2) s2 (by simp only[RepL];exact⟨x,y,rfl,Rep.mono x2 _ _ rp1,rp2⟩) p2
theorem imp_eN {f:FN} {a:AD} (c:CalmN f):∀ σ H Q,tE G (eN f a) Wx σ H Q→tCB (rN G f) (tA G a Wx) σ H Q:=by
 intro σ H Q q
 obtain⟨w,env,rfl,sr,er,p⟩:=q
 refine⟨w,env,rfl,sr,er,(Post.bind p).mono (fun x H1 m=> ?_) fun _ _ _ h=>h⟩
 obtain⟨w1,d1,rfl,x1,s1,rp1,p1⟩:=m
 exact⟨w1,d1,rfl,s1,rp1,p1.calm (c _ _)⟩
theorem q_callB {id:String} {x:Str} {p:Pos} {f:FN} {e:Expr} {es:List Expr} {m:AD} (hc:CallR X (.builtin id) (rN G f)) (c:CalmN f) (hg:Gl X x) (hm:X.mg x=none) (hv:bootBuiltins x=some (.builtin id)) (ha:PA X (e::es) (tA G m Wx)) (hn:x≠ "__name__" :=by decide) (hdb:(x==("__debug__" :Str))=false:=by decide)
 (he:starEach (e::es) X.env=(false,eval e X.env)::starEach es X.env:=by rfl) (hpl:(backTo pos (starEach es X.env)).any (·.1)=false:=by rfl):PE X (.Call (.Name x p) (e::es) [] pos) (tE G (eN f m) Wx):=
 peI (pe_callB hc hg hm hv ha hn hdb he hpl) (imp_eN c)
theorem q_callTy {T:String} {x:Str} {p:Pos} {f:FN} {e:Expr} {es:List Expr} {m:AD} (hc:CallR X (.type T) (rN G f)) (c:CalmN f) (hg:Gl X x) (hm:X.mg x=none) (hv:bootBuiltins x=some (.type T)) (ha:PA X (e::es) (tA G m Wx)) (hn:x≠ "__name__" :=by decide) (hdb:(x==("__debug__" :Str))=false:=by decide)
 (he:starEach (e::es) X.env=(false,eval e X.env)::starEach es X.env:=by rfl) (hpl:(backTo pos (starEach es X.env)).any (·.1)=false:=by rfl):PE X (.Call (.Name x p) (e::es) [] pos) (tE G (eN f m) Wx):=
 peI (pe_callTy hc hg hm hv ha hn hdb he hpl) (imp_eN c)
end
end L3
namespace L3
open PySem PySem.Spec PyProof.Rows L2
section
variable {G:GC} {w:Wd} {p:Addr} {o:HO}
theorem RepL.length:∀ {ds:List D} {vs:List V},RepL G w ds vs→vs.length=ds.length
 | [],vs,h=>by simp only[RepL] at h;subst h;rfl
 |d::ds,vs,h=>by
  simp only[RepL] at h
  obtain⟨v,r,rfl,_,h2⟩:=h
  simp[RepL.length h2]
theorem RepL.get:∀ {ds:List D} {vs:List V} {i:Nat} {d:D},RepL G w ds vs→ds[i]? =some d→∃v,vs[i]? =some v∧Rep G w d v
 | [],_,_,_,_,e=>by simp at e
 |d::ds,vs,0,d',h,e=>by
  simp only[RepL] at h
  obtain⟨v,r,rfl,h1,h2⟩:=h
  simp at e;subst e
  exact⟨v,rfl,h1⟩
 |d::ds,vs,i+1,d',h,e=>by
  simp only[RepL] at h
  obtain⟨v,r,rfl,h1,h2⟩:=h
  obtain⟨u,q1,q2⟩:=RepL.get (i:=i) (d:=d') h2 (by simpa using e)
  exact⟨u,by simpa using q1,q2⟩
theorem RepL.append:∀ {ds ds':List D} {vs vs':List V},RepL G w ds vs→RepL G w ds' vs'→RepL G w (ds++ds') (vs++vs')
 | [],_,_,_,h,h'=>by simp only[RepL] at h;subst h;exact h'
 |d::ds,ds',vs,vs',h,h'=>by
  simp only[RepL] at h
  obtain⟨v,r,rfl,h1,h2⟩:=h
  show RepL G w (d::(ds++ds')) (v::(r++vs'))
  simp only[RepL]
  exact⟨v,r++vs',rfl,h1,RepL.append h2 h'⟩
theorem RepL.one {d:D} {v:V} (h:Rep G w d v):RepL G w [d] [v] :=by
 simp only[RepL];exact⟨v,[],rfl,h,rfl⟩
theorem RepL.take:∀ {ds:List D} {vs:List V} (n:Nat),RepL G w ds vs→RepL G w (ds.take n) (vs.take n)
 | _,_,0,_=>by simp[RepL]
 | [],vs,n+1,h=>by simp only[RepL] at h;subst h;simp[RepL]
 |d::ds,vs,n+1,h=>by
  simp only[RepL] at h
  obtain⟨v,r,rfl,h1,h2⟩:=h
  simp only[List.take_succ_cons,RepL]
  exact⟨v,_,rfl,h1,RepL.take n h2⟩
theorem RepL.drop:∀ {ds:List D} {vs:List V} (n:Nat),RepL G w ds vs→RepL G w (ds.drop n) (vs.drop n)
 | _,_,0,h=>h
 | [],vs,n+1,h=>by simp only[RepL] at h;subst h;simp[RepL]
 |d::ds,vs,n+1,h=>by
  simp only[RepL] at h
  obtain⟨v,r,rfl,h1,h2⟩:=h
  simp only[List.drop_succ_cons]
  exact RepL.drop n h2
theorem RepL.set:∀ {ds:List D} {vs:List V} (n:Nat) {d:D} {v:V},RepL G w ds vs→Rep G w d v→RepL G w (ds.set n d) (vs.set n v)
 | [],vs,n,d,v,h,h'=>by simp only[RepL] at h;subst h;simp[RepL]
 |d::ds,vs,0,d',v',h,h'=>by
  simp only[RepL] at h
  obtain⟨v,r,rfl,h1,h2⟩:=h
  simp only[List.set_cons_zero,RepL]
  exact⟨_,_,rfl,h',h2⟩
 |d::ds,vs,n+1,d',v',h,h'=>by
  simp only[RepL] at h
  obtain⟨v,r,rfl,h1,h2⟩:=h
  simp only[List.set_cons_succ,RepL]
  exact⟨_,_,rfl,h1,RepL.set n h2 h'⟩
theorem ORep.there {a:Addr} {ob:O} (h:ORep G w a ob) (lv:ob.live):∃u,w.H a=some u:=by
 cases ob with
 |lst l=>obtain⟨vs,e,_⟩:=h;exact⟨_,e⟩
 |dK l=>obtain⟨vs,e,_⟩:=h;exact⟨_,e⟩
 |dT l=>obtain⟨vs,e,_⟩:=h;exact⟨_,e⟩
 |dN l=>obtain⟨vs,e,_⟩:=h;exact⟨_,e⟩
 |ins c l=>obtain⟨_,_,_,e,_⟩:=h;exact⟨_,e⟩
 |ptp l=>exact lv.elim
 |dead=>exact lv.elim
 |tab x q=>obtain⟨_,ps,e,_⟩:=h;exact⟨_,e⟩
theorem MutS.there {a:Addr} (sr:SRep G w) (m:MutS w a):∃u,w.H a=some u:=by
 obtain⟨n,ob,h1,lv,h2⟩:=m
 exact(sr.obj n ob a h1 h2).there lv
theorem ORep.keep {T:List Addr} {w':Wd} {a:Addr} {ob:O} (x:WX' T w w') (hT:Tok T w) (h:ORep G w a ob) (e:ob.live→w'.H a=w.H a):ORep G w' a ob:=by
 cases ob with
 |lst l=>obtain⟨vs,h1,h2⟩:=h;exact⟨vs,(e trivial).trans h1,RepL.monoT x hT _ _ h2⟩
 |dK l=>obtain⟨vs,h1,h2⟩:=h;exact⟨vs,(e trivial).trans h1,RepKV.monoT x hT _ _ h2⟩
 |dT l=>obtain⟨vs,h1,h2⟩:=h;exact⟨vs,(e trivial).trans h1,RepKV.monoT x hT _ _ h2⟩
 |dN l=>obtain⟨vs,h1,h2⟩:=h;exact⟨vs,(e trivial).trans h1,RepN.monoT x hT _ _ h2⟩
 |ins c l=>obtain⟨C,dx,vs,h1,h2,h3⟩:=h;exact⟨C,dx,vs,(e trivial).trans h1,RepKV.monoT x hT _ _ h2,h3⟩
 |ptp l=>obtain⟨o,vs,⟨h1,nm⟩,h2,h3⟩:=h;exact⟨o,vs,x.keepM hT h1 nm,h2,RepL.monoT x hT _ _ h3⟩
 |dead=>trivial
 |tab y q=>obtain⟨h0,ps,h1,h2,h3⟩:=h;exact⟨h0,ps,(e trivial).trans h1,h2,fun pos cv hc=>let⟨c,e1,e2⟩:=h3 pos cv hc;⟨c,e1,x.keepM hT e2.1 e2.2⟩⟩
abbrev Wd.put (w:Wd) (p:Addr) (o:HO):Wd:= { w with H:=upd w.H p o }
theorem new_ext (sr:SRep G w) (hp:w.H p=none):WExt w (w.put p o)∧SRep G (w.put p o)∧¬Mut (w.put p o) p:=by
 have x:WExt w (w.put p o):=⟨fun _ _ h=>h,fun a u h nm _=>⟨(upd_ne (ne_of_none h hp)).trans h,nm⟩,fun _ h=> .inl h,fun _ h=>h⟩
 refine⟨x,⟨sr.len,sr.inj,fun n ob a h1 h2=> ?_,fun a ha=> ?_⟩,fun m=>m.elim (fun m=> ?_) fun m=> ?_⟩
 ·have h:=sr.obj n ob a h1 h2
  refine h.keep x noT fun lv=> ?_
  obtain⟨u,e⟩:=h.there lv
  exact upd_ne (ne_of_none e hp)
 ·obtain⟨⟨u,e⟩,nm⟩:=sr.tm a ha
  exact⟨⟨u,(upd_ne (ne_of_none e hp)).trans e⟩,nm⟩
 ·obtain⟨u,e⟩:=MutS.there sr (show MutS w p from m)
  rw[hp] at e;cases e
 ·obtain⟨⟨u,e⟩,_⟩:=sr.tm p m
  rw[hp] at e;cases e
theorem new_obj {ob:O} (sr:SRep G w) (hp:w.H p=none) (hor:∀w',WExt w w'→w'.H p=some o→ORep G w' p ob):
 WExt w ⟨w.mu++ [p],w.S++ [ob],upd w.H p o,w.tmp⟩∧SRep G ⟨w.mu++ [p],w.S++ [ob],upd w.H p o,w.tmp⟩:=by
 have nmS:∀a u,w.H a=some u→¬MutS w a→¬MutS ⟨w.mu++ [p],w.S++ [ob],upd w.H p o,w.tmp⟩ a:=fun a u h nm m=>by
  obtain⟨n,o',h1,lv,h2⟩:=m
  by_cases hn:n<w.S.length
  ·refine nm ⟨n,o',?_,lv,?_⟩
   ·simpa[List.getElem?_append_left hn] using h1
   ·have:n<w.mu.length:=by rw[sr.len];exact hn
    simpa[List.getElem?_append_left this] using h2
  ·have e:n=w.S.length:=by
    have:=(List.getElem?_eq_some_iff.mp h1).1
    simp at this;omega
   subst e
   have:(w.mu++ [p])[w.mu.length]? =some p:=by simp
   rw[← sr.len] at h2
   have e2:p=a:=Option.some.inj (this.symm.trans h2)
   rw[e2,h] at hp;cases hp
 have x:WExt w ⟨w.mu++ [p],w.S++ [ob],upd w.H p o,w.tmp⟩:=
  ⟨fun n a h=>by
    have hl:=(List.getElem?_eq_some_iff.mp h).1
    show(w.mu++ [p])[n]? =some a
    rw[List.getElem?_append_left hl];exact h,
    fun a u h nm _=>⟨(upd_ne (ne_of_none h hp)).trans h,nmS a u h nm⟩,fun _ h=> .inl h,fun _ h=>h⟩
 have split:∀(n:Nat) (o':O),(w.S++ [ob])[n]? =some o'→w.S[n]? =some o'∨(n=w.S.length∧o'=ob):=fun n o' h=>by
  by_cases hn:n<w.S.length
  ·rw[List.getElem?_append_left hn] at h;exact .inl h
  ·have e:n=w.S.length:=by
    have:=(List.getElem?_eq_some_iff.mp h).1
    simp at this;omega
   subst e;simp at h;exact .inr ⟨rfl,h.symm⟩
 have mul:∀(n:Nat) (a:Addr),n<w.S.length→(w.mu++ [p])[n]? =some a→w.mu[n]? =some a:=fun n a hn h=>by
  have:n<w.mu.length:=by rw[sr.len];exact hn
  rw[List.getElem?_append_left this] at h;exact h
 have mur:∀(a:Addr),(w.mu++ [p])[w.S.length]? =some a→a=p:=fun a h=>by
  rw[← sr.len] at h;simp at h;exact h.symm
 have old:∀(n:Nat) (o':O) (a:Addr),w.S[n]? =some o'→o'.live→(w.mu++ [p])[n]? =some a→a≠p:=fun n o' a h lv hm e=>by
  have hn:=(List.getElem?_eq_some_iff.mp h).1
  obtain⟨u,q⟩:=(sr.obj n o' a h (mul n a hn hm)).there lv
  rw[e,hp] at q;cases q
 refine⟨x,⟨by simp[sr.len],fun n m a o1 o2 h1 h2 l1 l2 m1 m2=> ?_,fun n o' a h1 h2=> ?_,fun a ha=> ?_⟩⟩
 ·rcases split n o1 h1 with q1|⟨e1,q1⟩<;>rcases split m o2 h2 with q2|⟨e2,q2⟩
  ·exact sr.inj n m a o1 o2 q1 q2 l1 l2 (mul n a (List.getElem?_eq_some_iff.mp q1).1 m1) (mul m a (List.getElem?_eq_some_iff.mp q2).1 m2)
  ·subst e2;exact absurd (mur a m2) (old n o1 a q1 l1 m1)
  ·subst e1;exact absurd (mur a m1) (old m o2 a q2 l2 m2)
  ·rw[e1,e2]
 ·rcases split n o' h1 with q1|⟨e1,q1⟩
  ·have hn:=(List.getElem?_eq_some_iff.mp q1).1
   have h:=sr.obj n o' a q1 (mul n a hn h2)
   refine h.keep x noT fun lv=> ?_
   obtain⟨u,e⟩:=h.there lv
   exact upd_ne (ne_of_none e hp)
  ·subst e1 q1
   have e:a=p:=mur a h2
   subst e
   exact hor _ x upd_same
 ·obtain⟨⟨u,e⟩,nm⟩:=sr.tm a ha
  exact⟨⟨u,(upd_ne (ne_of_none e hp)).trans e⟩,nmS a u.1 e nm⟩
theorem set_obj {n:Nat} {a:Addr} {ob ob':O} (sr:SRep G w) (hn:w.S[n]? =some ob) (lv:ob.live) (ha:w.mu[n]? =some a) (hor:∀w',WExt w w'→w'.H a=some o→ORep G w' a ob'):
 WExt w ⟨w.mu,w.S.set n ob',upd w.H a o,w.tmp⟩∧SRep G ⟨w.mu,w.S.set n ob',upd w.H a o,w.tmp⟩:=by
 have hl:=(List.getElem?_eq_some_iff.mp hn).1
 have back:∀(m:Nat) (o':O),(w.S.set n ob')[m]? =some o'→(m=n∧o'=ob')∨(m≠n∧w.S[m]? =some o'):=fun m o' h=>by
  by_cases e:n=m
  ·subst e;rw[List.getElem?_set_self hl] at h;exact .inl ⟨rfl,(Option.some.inj h).symm⟩
  ·rw[List.getElem?_set_ne e] at h;exact .inr ⟨fun z=>e z.symm,h⟩
 have mb:∀b,MutS ⟨w.mu,w.S.set n ob',upd w.H a o,w.tmp⟩ b→MutS w b:=fun b ⟨m,o',h1,l1,h2⟩=>by
  rcases back m o' h1 with⟨e,_⟩|⟨_,q⟩
  ·subst e;exact⟨m,ob,hn,lv,h2⟩
  ·exact⟨m,o',q,l1,h2⟩
 have nA:∀b,¬MutS w b→b≠a:=fun b nm e=>nm (by subst e;exact⟨n,ob,hn,lv,ha⟩)
 have x:WExt w ⟨w.mu,w.S.set n ob',upd w.H a o,w.tmp⟩:=⟨fun _ _ h=>h,fun b u h nm _=>⟨(upd_ne (nA b nm)).trans h,fun m=>nm (mb b m)⟩,fun _ h=> .inl h,fun _ h=>h⟩
 have lvOf:∀(m:Nat) (o':O),(w.S.set n ob')[m]? =some o'→o'.live→∃o2,w.S[m]? =some o2∧o2.live:=fun m o' h l=>by
  rcases back m o' h with⟨e,_⟩|⟨_,q⟩
  ·subst e;exact⟨ob,hn,lv⟩
  ·exact⟨o',q,l⟩
 refine⟨x,⟨by simp[sr.len],fun i j b o1 o2 h1 h2 l1 l2 m1 m2=> ?_,fun m o' b h1 h2=> ?_,fun b hb=> ?_⟩⟩
 ·obtain⟨p1,q1,r1⟩:=lvOf i o1 h1 l1
  obtain⟨p2,q2,r2⟩:=lvOf j o2 h2 l2
  exact sr.inj i j b p1 p2 q1 q2 r1 r2 m1 m2
 ·rcases back m o' h1 with⟨e,e2⟩|⟨ne,q⟩
  ·subst e e2
   have e3:b=a:=Option.some.inj (h2.symm.trans ha)
   subst e3
   exact hor _ x upd_same
  ·have h:=sr.obj m o' b q h2
   refine h.keep x noT fun l=>upd_ne fun e=>ne ?_
   subst e
   exact sr.inj m n _ o' ob q hn l lv h2 ha
 ·obtain⟨⟨u,e⟩,nm⟩:=sr.tm b hb
  exact⟨⟨u,(upd_ne (nA b nm)).trans e⟩,fun m=>nm (mb b m)⟩
end
end L3
namespace L3
open PySem PySem.Spec PyProof.Rows L2
section
variable {G:GC} {X:Cx} {Wx:WX} {pos:Pos}
theorem q_tnot {c:Expr} {m:TD} (h:PT X c (tT G m Wx)):PT X (.UnaryOp .Not c pos) (tT G (tNot m) Wx):=ptI (pt_not h) fun σ H Q q=>by
 obtain⟨w,env,rfl,sr,er,p⟩:=q
 refine⟨w,env,rfl,sr,er,(Post.bind (Ra:=fun _ (a b:Bool)=>a=b) p).mono (fun x H1 m=> ?_) fun _ _ _ h=>h⟩
 obtain⟨w1,d1,rfl,x1,s1,rp1,p1⟩:=m
 subst rp1
 exact Post.ret (Ra:=fun _ (a b:Bool)=>a=b) s1 rfl p1
theorem imp_and {a b:TD} :∀ σ H Q,tT G (tAnd a b) Wx σ H Q→L2.tAnd (tT G a Wx) (tT G b Wx) σ H Q:=by
 intro σ H Q q
 obtain⟨w,env,rfl,sr,er,p⟩:=q
 refine⟨w,env,rfl,sr,er,(Post.bind (Ra:=fun _ (a b:Bool)=>a=b) p).mono (fun x H1 m=> ?_) fun _ _ _ h=>h⟩
 obtain⟨w1,d1,rfl,x1,s1,rp1,p1⟩:=m
 subst rp1
 cases d1 with
 |true=>exact iteT ⟨w1,env,rfl,s1,er.mono x1,p1⟩
 |false=>exact iteF (Post.ret (Ra:=fun _ (a b:Bool)=>a=b) s1 rfl p1)
theorem imp_or {a b:TD} :∀ σ H Q,tT G (tOr a b) Wx σ H Q→L2.tOr (tT G a Wx) (tT G b Wx) σ H Q:=by
 intro σ H Q q
 obtain⟨w,env,rfl,sr,er,p⟩:=q
 refine⟨w,env,rfl,sr,er,(Post.bind (Ra:=fun _ (a b:Bool)=>a=b) p).mono (fun x H1 m=> ?_) fun _ _ _ h=>h⟩
 obtain⟨w1,d1,rfl,x1,s1,rp1,p1⟩:=m
 subst rp1
 cases d1 with
 |true=>exact iteT (Post.ret (Ra:=fun _ (a b:Bool)=>a=b) s1 rfl p1)
 |false=>exact iteF ⟨w1,env,rfl,s1,er.mono x1,p1⟩
theorem q_expr {e:Expr} {m:ED} (h:PE X e (tE G m Wx)) (hs:swapsWith e none pos.line X.env=pure false:=by rfl):PS X (.Expr e pos) (tS G (sExpr m) Wx):=psI (ps_expr h hs) fun D σ H q=>by
 obtain⟨w,env,rfl,sr,er,p⟩:=q
 refine⟨w,env,rfl,sr,er,(PostS.ofR (Ra:=Rep G) er p).mono (fun x H1 m=> ?_) fun _ _ _ h=>h⟩
 obtain⟨w1,d1,rfl,x1,s1,rp1,p1⟩:=m
 exact p1 σ w1 (.refl w1) rfl s1 (er.mono x1)
theorem q_ret {e:Expr} {m:ED} (h:PE X e (tE G m Wx)):PS X (.Return (some e) pos) (tS G (sRet m) Wx):=psI (ps_ret h) fun D σ H q=>by
 obtain⟨w,env,rfl,sr,er,p⟩:=q
 refine⟨w,env,rfl,sr,er,(PostS.ofR (Ra:=Rep G) er p).mono (fun x H1 m=> ?_) fun _ _ _ h=>h⟩
 obtain⟨w1,d1,rfl,x1,s1,rp1,p1⟩:=m
 exact p1 x w1 (.refl w1) rfl s1 rp1
theorem q_if {c:Expr} {a b:List Stmt} {mc:TD} {ma mb:SD} (hc:PT X c (tT G mc Wx)) (ha:PSs X a (tS G ma Wx)) (hb:PSs X b (tS G mb Wx)):PS X (.If c a b pos) (tS G (sIf mc ma mb) Wx):=psI (ps_if hc ha hb) fun D σ H q=>by
 obtain⟨w,env,rfl,sr,er,p⟩:=q
 refine⟨w,env,rfl,sr,er,(PostS.ofR (Ra:=fun _ (a b:Bool)=>a=b) er p).mono (fun x H1 m=> ?_) fun _ _ _ h=>h⟩
 obtain⟨w1,d1,rfl,x1,s1,rp1,p1⟩:=m
 subst rp1
 cases d1 with
 |true=>exact iteT ⟨w1,env,rfl,s1,er.mono x1,p1⟩
 |false=>exact iteF ⟨w1,env,rfl,s1,er.mono x1,p1⟩
theorem q_snil:PSs X [] (tS G sSkip Wx):=pssI pss_nil fun D σ H q=>by
 obtain⟨w,env,rfl,sr,er,p⟩:=q
 exact p σ w (.refl w) rfl sr er
theorem q_scons {st:Stmt} {rest:List Stmt} {a b:SD} (h1:PS X st (tS G a Wx)) (h2:PSs X rest (tS G b Wx)):PSs X (st::rest) (tS G (sSeq a b) Wx):=pssI (pss_cons h1 h2) fun D σ H q=>by
 obtain⟨w,env,rfl,sr,er,p⟩:=q
 refine⟨w,env,rfl,sr,er,?_⟩
 unfold sSeq at p
 cases h:a env w.S with
 |nx env1 S1=>
  rw[h] at p
  intro σ' w' e hs s' er'
  subst hs
  exact⟨w',env1,rfl,s',er',PostS.shift e p⟩
 |ret d S1=>rw[h] at p;exact p
 |brk env1 S1=>rw[h] at p;exact p
 |ct env1 S1=>rw[h] at p;exact p
 |exc e env1 S1=>rw[h] at p;exact p
 |bad=>rw[h] at p;exact p.elim
theorem q_sone {st:Stmt} {a:SD} (h1:PS X st (tS G a Wx)):PSs X [st] (tS G a Wx):=pss_one h1
def tG (G:GC) (g:GD):TG:=fun v σ H Q=>∃w env d,w.H=H∧SRep G w∧ERep G w env σ ∧Rep G w d v∧
 match g d env w.S with
 | .nx env' S'=>∀ σ' w',WExt w w'→w'.S=S'→SRep G w'→ERep G w' env' σ'→Q σ' w'.H
 | _=>False
theorem pgI {e:Expr} {t t':TG} (h:PG X e t) (i:∀v σ H Q,t' v σ H Q→t v σ H Q):PG X e t':=⟨fun pins s σ H v u Q I r q=>h.run pins s σ H v u Q I r (i _ _ _ _ q)⟩
theorem q_gname {e:Expr} {i:Nat} (h:PG X e (L2.gName i)):PG X e (tG G (gName i)):=pgI h fun v σ H Q q=>by
 obtain⟨w,env,d,rfl,sr,er,rp,p⟩:=q
 exact p _ w (.refl w) rfl sr (er.set i rp)
def GOk (g:GD):Prop:=∀d env S,(∃ env' S',g d env S= .nx env' S')∨g d env S= .bad
theorem q_asg {tg e:Expr} {m:ED} {g:GD} (he:PE X e (tE G m Wx)) (hg:PG X tg (tG G g)) (hs:swapsWithSole [tg] e pos.line X.env=pure false:=by rfl) (hw:swappedStores [tg] e X.env=pure none:=by rfl)
 (h1:(assignEach [tg] X.env).map (·.2)= [assign tg X.env] :=by rfl) (gn:GOk g):PS X (.Assign [tg] e pos) (tS G (sAsg m g) Wx):=psI (ps_asg he hg hs hw h1) fun D σ H q=>by
 obtain⟨w,env,rfl,sr,er,p⟩:=q
 refine⟨w,env,rfl,sr,er,(PostS.ofR (Ra:=Rep G) er p).mono (fun x H1 m=> ?_) fun _ _ _ h=>h⟩
 obtain⟨w1,d1,rfl,x1,s1,rp1,p1⟩:=m
 refine⟨w1,env,d1,rfl,s1,er.mono x1,rp1,?_⟩
 rcases gn d1 env w1.S with⟨env',S',h⟩|h
 ·rw[h] at p1 ⊢;exact p1
 ·rw[h] at p1;exact p1.elim
theorem q_set {i:Nat} {x:Str} {e:Expr} {m:ED} {pos':Pos} (hN:X.N.Nodup) (hi:X.N[i]? =some x) (hx:Loc X.env.scope x) (he:PE X e (tE G m Wx)) (hs:swapsWith e (some (.Name x pos')) pos.line X.env=pure false:=by rfl) (hf:X.fn x=true∨X.env.scope.names.lookup x=some .local:=by first|exact .inl rfl|exact .inr rfl|assumption):
 PS X (.Assign [.Name x pos'] e pos) (tS G (sAsg m (gName i)) Wx):=psI (ps_set hN hi hx he hs hf) fun D σ H q=>by
 obtain⟨w,env,rfl,sr,er,p⟩:=q
 refine⟨w,env,rfl,sr,er,(PostS.ofR (Ra:=Rep G) er p).mono (fun x H1 m=> ?_) fun _ _ _ h=>h⟩
 obtain⟨w1,d1,rfl,x1,s1,rp1,p1⟩:=m
 exact p1 _ w1 (.refl w1) rfl s1 ((er.mono x1).set i rp1)
structure ItOk (G:GC) (w:Wd) (J:It) (xs:List D):Prop where
 go:∀(T:List Addr) w',Tok T w→WX' T w w'→SRep G w'→∀(i:Nat) (d:D),xs[i]? =some d→J.go i w'.H∧∀x H'',J.yld i w'.H x H''→∃w'',w''.H=H''∧WExt w' w''∧w''.S=w'.S∧SRep G w''∧Rep G w'' d x
 stop:∀(T:List Addr) w',Tok T w→WX' T w w'→SRep G w'→J.stop xs.length w'.H
abbrev ID:=EnvD→Store→R (List D)
def tI (G:GC) (m:ID) (Wx:WX):TI:=fun σ H Rr=>∃w env,w.H=H∧SRep G w∧ERep G w env σ ∧Post G w (m env w.S) (fun w' xs (J:It)=>ItOk G w' J xs) Rr (fun C dx H'=>Wx C dx σ H')
end
end L3
namespace L3
open PySem PySem.Spec PyProof.Rows L2
def sgn (c:Nat):D:= .str ⟨#[c]⟩
def itemsD (x:D) (S:Store):R (List D):=match x with
 | .tup l=> .ok l S
 | .lst l=> .ok l S
 | .str s=> .ok (s.cps.toList.map sgn) S
 | .scr ns=> .ok (ns.map .int) S
 | .obj n=>match S[n]? with
   |some (.ptp l)=> .ok l S
   | _=> .bad
 | _=> .bad
def iSeq (a:ED):ID:=fun env S=>(a env S).bind fun x S1=>itemsD x S1
def rangeD (lo hi:Int):List D:=(List.range (hi-lo).toNat).map fun i=> .int (lo+(i:Nat))
def okRng (i:Int):Bool:=decide (-(2 ^ 62)≤i∧i<2 ^ 62)
def range1:List D→Store→R (List D):=fun xs S=>match xs with
 | [.int j] =>if okRng j then .ok (rangeD 0 j) S else .bad
 | _=> .bad
def range2:List D→Store→R (List D):=fun xs S=>match xs with
 | [.int i, .int j] =>if okRng i&&okRng j then .ok (rangeD i j) S else .bad
 | _=> .bad
def iArgs (f:List D→Store→R (List D)) (a:AD):ID:=fun env S=>(a env S).bind fun xs S1=>f xs S1
theorem piI {X:Cx} {tg e:Expr} {t t':TI} (h:PI X tg e t) (i:∀ σ H R,t' σ H R→t σ H R):PI X tg e t':=⟨fun pins s σ H R I q=>h.run pins s σ H R I (i _ _ _ q)⟩
section
variable {G:GC} {X:Cx} {Wx:WX} {pos:Pos}
theorem RepL_ints {w:Wd} :∀ {ns:List Int} {vs:List V},RepL G w (ns.map .int) vs↔vs=ns.map V.int
 | [],vs=>by simp[RepL]
 |n::ns,vs=>by
  simp only[List.map_cons,RepL,Rep]
  constructor
  ·rintro⟨v,r,rfl,rfl,h⟩;rw[RepL_ints.mp h]
  ·rintro rfl;exact⟨_,_,rfl,rfl,RepL_ints.mpr rfl⟩
theorem fr_tok {T:List Addr} {w:Wd} (h:∀a ∈ T,w.H a=none):Tok T w:=fun a ha=> .inr (h a ha)
theorem it_list {w:Wd} {a:Addr} {vs:List V} {l:List D} (h:(w.H a=some (.lst vs)∧¬Mut w a)∨Fz w a (.lst vs)∨KL G.K a vs) (r:RepL G w l vs):ItOk G w (Itl G.K a) l:=by
 have sq:∀(T:List Addr) w',Tok T w→WX' T w w'→SqL G.K w'.H a vs:=fun T w' hT x=>by
  rcases h with⟨h,nm⟩|h|h
  ·exact .inl (.inl (x.keepM hT h nm).1)
  ·exact .inl (Fz.monoT x hT h).1
  ·exact .inr h
 have inj:∀(T:List Addr) w',Tok T w→WX' T w w'→∀(i:Nat) (d:D),l[i]? =some d→∃v,vs[i]? =some v∧Rep G w' d v:=fun T w' hT x i d e=>by
  obtain⟨v,q1,q2⟩:=r.get e
  exact⟨v,q1,Rep.monoT x hT _ _ q2⟩
 refine⟨fun T w' hT x s i d e=> ?_,fun T w' hT x s=>⟨vs,sq T w' hT x,by rw[r.length];exact Nat.le_refl _⟩⟩
 obtain⟨v,q1,q2⟩:=inj T w' hT x i d e
 refine⟨⟨vs,v,sq T w' hT x,q1⟩,fun y H'' hy=> ?_⟩
 obtain⟨rfl,hy⟩:=hy
 have e2:=hy vs (sq T w' hT x)
 rw[q1] at e2;cases e2
 exact⟨w',rfl, .refl w',rfl,s,q2⟩
theorem it_tup {w:Wd} {a:Addr} {vs:List V} {l:List D} (h:TupAt G w a vs l) (r:RepL G w l vs):ItOk G w (Itt G.K a) l:=by
 have sq:∀(T:List Addr) w',Tok T w→WX' T w w'→SqT G.K w'.H a vs:=fun T w' hT x=>by
  rcases h with⟨h,nm⟩|h
  ·exact .inl (.inl (x.keepM hT h nm).1)
  ·exact .inr h.1
 refine⟨fun T w' hT x s i d e=> ?_,fun T w' hT x s=>⟨vs,sq T w' hT x,by rw[r.length];exact Nat.le_refl _⟩⟩
 obtain⟨v,q1,q2⟩:=r.get e
 refine⟨⟨vs,v,sq T w' hT x,q1⟩,fun y H'' hy=> ?_⟩
 obtain⟨rfl,hy⟩:=hy
 have e2:=hy vs (sq T w' hT x)
 rw[q1] at e2;cases e2
 exact⟨w',rfl, .refl w',rfl,s,Rep.monoT x hT _ _ q2⟩
theorem it_rng {w:Wd} {lo:Int} {n:Nat} :ItOk G w (Itr lo n) ((List.range n).map fun i=> .int (lo+(i:Nat))):=by
 refine⟨fun T w' hT x s i d e=> ?_,fun T w' hT x s=>by simp[Itr]⟩
 rw[List.getElem?_map] at e
 by_cases hi:i<n
 ·rw[List.getElem?_range hi] at e
  cases e
  refine⟨hi,fun y H'' hy=> ?_⟩
  obtain⟨rfl,rfl⟩:=hy
  exact⟨w',rfl, .refl w',rfl,s,by simp[Rep]⟩
 ·rw[List.getElem?_eq_none (by simpa using hi)] at e;cases e
theorem it_str {w:Wd} {z:Str} :ItOk G w (Its z) (z.cps.toList.map sgn):=by
 refine⟨fun T w' hT x s i d e=> ?_,fun T w' hT x s=>by simp[Its]⟩
 rw[List.getElem?_map] at e
 cases q:z.cps.toList[i]? with
 |none=>rw[q] at e;cases e
 |some c=>
  rw[q] at e
  cases e
  have hi:i<z.cps.size:=by simpa using(List.getElem?_eq_some_iff.mp q).1
  refine⟨hi,fun y H'' hy=> ?_⟩
  obtain⟨rfl,c',h1,rfl⟩:=hy
  have:c'=c:=by
   have h2:z.cps.toList[i]? =some c':=by simpa using h1
   rw[h2] at q;exact Option.some.inj q
  subst this
  exact⟨w',rfl, .refl w',rfl,s,by simp[Rep,sgn]⟩
theorem it_ptp {w:Wd} {a:Addr} {o:Obj} {vs:List V} {l:List D} (h:w.H a=some (.frz o (.tup vs))∧¬Mut w a) (r:RepL G w l vs):ItOk G w (Itt G.K a) l:=by
 have sq:∀(T:List Addr) w',Tok T w→WX' T w w'→SqT G.K w'.H a vs:=fun T w' hT x=> .inl (.inr ⟨o,(x.keepM hT h.1 h.2).1⟩)
 refine⟨fun T w' hT x s i d e=> ?_,fun T w' hT x s=>⟨vs,sq T w' hT x,by rw[r.length];exact Nat.le_refl _⟩⟩
 obtain⟨v,q1,q2⟩:=r.get e
 refine⟨⟨vs,v,sq T w' hT x,q1⟩,fun y H'' hy=> ?_⟩
 obtain⟨rfl,hy⟩:=hy
 have e2:=hy vs (sq T w' hT x)
 rw[q1] at e2;cases e2
 exact⟨w',rfl, .refl w',rfl,s,Rep.monoT x hT _ _ q2⟩
theorem q_iter {tg e:Expr} {m:ED} (hK:X.K=G.K) (h:PE X e (tE G m Wx)):PI X tg e (tI G (iSeq m) Wx):=by
 refine⟨fun pins s σ H R I q=> ?_⟩
 obtain⟨w,env,rfl,sr,er,p⟩:=q
 refine thn (h.run pins s σ w.H _ I ⟨w,env,rfl,sr,er,Post.bind p⟩) fun v s1 ⟨x,H1,I1,r1,q1⟩=> ?_
 obtain⟨w1,d1,rfl,x1,sr1,rp1,p1⟩:=q1
 have lst:∀ {a:Addr} {vs:List V},SqL X.K w1.H a vs→R (Itl G.K a) w1.H→wpAny (model X.prog X.w) X.A (pyIter (.ref a)) (PIE X pins σ tg R) X.xe s1:=fun {a vs} hq q=>by
  obtain⟨its,rv,p,hz⟩:=I1.list hq
  refine wpAny_pyIter_list p.isList ?_
  refine⟨s1.heap.objs.size,[s1.heap.objs.size],_,_,w1.H,rfl,I1.kept (t':=s1.toks) fun b o e=>Heap.get?_push_of_some _ e,turn_list a _,⟨_,Heap.get?_push_size _ rfl,rfl,rfl⟩,fun b hb=> ?_,by rw[hK];exact q⟩
  have e:b=s1.heap.objs.size:=by simpa using hb
  subst e
  exact I1.fpOk (Nat.le_refl _) (I1.hok.fresh (Nat.le_refl _))
 cases d1 with
 |tup l=>
  simp only[Rep] at rp1
  obtain⟨a,vs,rfl,hq,rl⟩:=rp1
  cases r1
  have q:=p1 (Itt G.K a) w1 (.refl _) rfl sr1 (it_tup hq rl)
  have hq':SqT X.K w1.H a vs:=by rw[hK];exact hq.imp (fun z=> .inl z.1) (fun z=>z.1)
  obtain⟨its,rv,p,hz⟩:=I1.tuple hq'
  refine wpAny_pyIter_tuple (show s1.heap.IsTuple a its.toArray from p) ?_
  refine⟨s1.heap.objs.size,[s1.heap.objs.size],_,_,w1.H,rfl,I1.kept (t':=s1.toks) fun b o e=>Heap.get?_push_of_some _ e,turn_tuple a _,⟨_,Heap.get?_push_size _ rfl,rfl,rfl⟩,fun b hb=> ?_,by rw[hK];exact q⟩
  have e:b=s1.heap.objs.size:=by simpa using hb
  subst e
  exact I1.fpOk (Nat.le_refl _) (I1.hok.fresh (Nat.le_refl _))
 |lst l=>
  simp only[Rep] at rp1
  obtain⟨a,vs,rfl,hq,nm,rl⟩:=rp1
  cases r1
  exact lst (vs:=vs) (.inl (.inl hq)) (p1 (Itl G.K a) w1 (.refl _) rfl sr1 (it_list (.inl ⟨hq,nm⟩) rl))
 |scr ns=>
  simp only[Rep] at rp1
  obtain⟨a,rfl,hq⟩:=rp1
  cases r1
  exact lst (vs:=ns.map V.int) (by rw[hK];exact hq.imp (fun z=>z.1) id) (p1 (Itl G.K a) w1 (.refl _) rfl sr1 (it_list (.inr hq) (RepL_ints.mpr rfl)))
 |str z=>
  simp only[Rep] at rp1
  subst rp1
  obtain⟨t,rfl⟩:=r1
  have q:=p1 (Its z) w1 (.refl _) rfl sr1 it_str
  cases ha:z.cps.all (· <128)
  ·exact wpAny_pyIter_wide ha (pi_one (tk:=s1.toks) I1 _ (turn_str _ z t "str_iterator" (.inr rfl)) ⟨_,Heap.get?_push_size _ rfl,rfl,rfl⟩ q)
  ·exact wpAny_pyIter_ascii ha (pi_one (tk:=s1.toks) I1 _ (turn_str _ z t "str_ascii_iterator" (.inl rfl)) ⟨_,Heap.get?_push_size _ rfl,rfl,rfl⟩ q)
 |obj n=>
  simp only[itemsD] at p1
  split at p1
  ·rename_i l hn
   simp only[Rep] at rp1
   obtain⟨a,hm,rfl⟩:=rp1
   obtain⟨o,vs,hq,_,rl⟩:=sr1.obj n _ a hn hm
   cases r1
   have q:=p1 (Itt G.K a) w1 (.refl _) rfl sr1 (it_ptp hq rl)
   have hq':SqT X.K w1.H a vs:= .inl (.inr ⟨o,hq.1⟩)
   obtain⟨its,rv,p,hz⟩:=I1.tuple hq'
   refine wpAny_pyIter_tuple (show s1.heap.IsTuple a its.toArray from p) ?_
   refine⟨s1.heap.objs.size,[s1.heap.objs.size],_,_,w1.H,rfl,I1.kept (t':=s1.toks) fun b o e=>Heap.get?_push_of_some _ e,turn_tuple a _,⟨_,Heap.get?_push_size _ rfl,rfl,rfl⟩,fun b hb=> ?_,by rw[hK];exact q⟩
   have e:b=s1.heap.objs.size:=by simpa using hb
   subst e
   exact I1.fpOk (Nat.le_refl _) (I1.hok.fresh (Nat.le_refl _))
  ·exact p1.elim
 | _=>exact p1.elim
theorem q_range1 {tg a:Expr} {m:AD} {p:Pos} (hg:Gl X "range") (hm:X.mg "range" =none) (ha:PA X [a] (tA G m Wx)) (hs:starEach [a] X.env= [(false,eval a X.env)] :=by rfl):PI X tg (.Call (.Name "range" p) [a] [] pos) (tI G (iArgs range1 m) Wx):=piI (pi_range1 hg hm ha hs) fun σ H R q=>by
 obtain⟨w,env,rfl,sr,er,p⟩:=q
 refine⟨w,env,rfl,sr,er,(Post.bind p).mono (fun x H1 m=> ?_) fun _ _ _ h=>h⟩
 obtain⟨w1,d1,rfl,x1,s1,rp1,p1⟩:=m
 unfold range1 at p1
 split at p1
 ·rename_i j
  split at p1
  ·rename_i hj
   have hj: -(2 ^ 62)≤j∧j<2 ^ 62:=by simpa[okRng] using hj
   simp only[RepL,Rep] at rp1
   obtain⟨v,r,rfl,rfl,rfl⟩:=rp1
   refine⟨j,rfl,hj.1,hj.2,?_⟩
   have q:=p1 (Itr 0 j.toNat) w1 (.refl _) rfl s1 (by have:=it_rng (G:=G) (w:=w1) (lo:=0) (n:=j.toNat);simpa[rangeD] using this)
   exact q
  ·exact p1.elim
 ·exact p1.elim
def sFor (mi:ID) (g:GD) (body:SD):SD:=fun env S=>(mi env S).toS env fun xs S1=>forL g body xs env S1
theorem q_for {tg iter:Expr} {body:List Stmt} {mi:ID} {g:GD} {mb:SD} (hp:PassesOwn (model X.prog X.w) X.A X.env X.xe) (hc:X.calm=true) (hi:PI X tg iter (tI G mi Wx)) (hg:PG X tg (tG G g)) (hb:PSs X body (tS G mb Wx))
 (hs:∀x,foldedSetIterable iter X.env x=pure x:=by intro _;rfl):PS X (.For tg iter body [] pos) (tS G (sFor mi g mb) Wx):=psI (ps_for hp hc hi hg hb hs) fun D σ H q=>by
 obtain⟨w,env,rfl,sr,er,p⟩:=q
 refine⟨w,env,rfl,sr,er,(PostS.ofR (Ra:=fun w' xs (J:It)=>ItOk G w' J xs) er p).mono (fun J H1 m=> ?_) fun _ _ _ h=>h⟩
 obtain⟨w1,xs,rfl,x1,s1,io,p1⟩:=m
 refine⟨fun i m σ H=>∃w env,w.H=H∧SRep G w∧ERep G w env σ ∧WExt w1 w∧i+m=xs.length∧PostS G w (forL g mb (xs.drop i) env w.S) D Wx,⟨xs.length,w1,env,rfl,s1,er.mono x1, .refl _,by omega,by simpa using p1⟩,fun i m σ H hW=> ?_⟩
 obtain⟨w2,env2,rfl,s2,er2,x2,em,p2⟩:=hW
 by_cases hi:i<xs.length
 ·have e:xs[i]? =some xs[i] :=List.getElem?_eq_getElem hi
  rw[List.drop_eq_getElem_cons hi] at p2
  obtain⟨go,yl⟩:=io.go [] w2 (fun a h=>by simp at h) x2 s2 i xs[i] e
  refine .inr ⟨go,fun σ' H'=>∃w env,w.H=H'∧SRep G w∧ERep G w env σ'∧WExt w1 w∧(i+1)+(m-1)=xs.length∧PostS G w (forL g mb (xs.drop (i+1)) env w.S) D Wx,fun σ' H' hN=>⟨m-1,by omega,hN⟩,fun x H' hy=> ?_⟩
  obtain⟨w3,rfl,x3,eS,s3,rp3⟩:=yl x H' hy
  refine⟨w3,env2,xs[i],rfl,s3,er2.mono x3,rp3,?_⟩
  rw[forL] at p2
  rw[eS]
  cases hg2:g xs[i] env2 w2.S with
  |nx env4 S4=>
   rw[hg2] at p2
   intro σ4 w4 x4 e4 s4 er4
   subst e4
   refine⟨w4,env4,rfl,s4,er4,?_⟩
   have x24:WExt w1 w4:=WX'.trans (WX'.trans x2 x3) x4
   have p3:=PostS.shift (WX'.trans x3 x4) p2
   cases hb4:mb env4 w4.S with
   |nx env5 S5=>
    simp only[hb4] at p3
    intro σ5 w5 x5 e5 s5 er5
    subst e5
    exact⟨w5,env5,rfl,s5,er5,WX'.trans x24 x5,by omega,PostS.shift x5 p3⟩
   |ct env5 S5=>
    simp only[hb4] at p3
    intro σ5 w5 x5 e5 s5 er5
    subst e5
    exact⟨w5,env5,rfl,s5,er5,WX'.trans x24 x5,by omega,PostS.shift x5 p3⟩
   |brk env5 S5=>simp only[hb4] at p3;exact p3
   |ret d S5=>simp only[hb4] at p3;exact p3
   |exc e env5 S5=>simp only[hb4] at p3;exact p3
   |bad=>simp only[hb4] at p3;exact p3.elim
  |ret _ _=>rw[hg2] at p2;exact p2.elim
  |brk _ _=>rw[hg2] at p2;exact p2.elim
  |ct _ _=>rw[hg2] at p2;exact p2.elim
  |exc _ _ _=>rw[hg2] at p2;exact p2.elim
  |bad=>rw[hg2] at p2;exact p2.elim
 ·have ei:i=xs.length:=by omega
  subst ei
  refine .inl ⟨io.stop [] w2 (fun a h=>by simp at h) x2 s2,?_⟩
  rw[List.drop_length] at p2
  exact p2 σ w2 (.refl _) rfl s2 er2
theorem q_while {c:Expr} {body:List Stmt} {mc:TD} {mb:SD} (n:Nat) (hp:PassesOwn (model X.prog X.w) X.A X.env X.xe) (hc:PT X c (tT G mc Wx)) (hb:PSs X body (tS G mb Wx)):PS X (.While c body [] pos) (tS G (sWhile mc mb n) Wx):=psI (ps_while hp hc hb) fun D σ H q=>by
 refine⟨fun m σ H=>tS G (sWhile mc mb m) Wx D σ H,⟨n,q⟩,fun m σ H hW=> ?_⟩
 obtain⟨w,env,rfl,sr,er,p⟩:=hW
 cases m with
 |zero=>exact p.elim
 |succ m=>
  refine⟨w,env,rfl,sr,er,(PostS.ofR (Ra:=fun _ (a b:Bool)=>a=b) er p).mono (fun x H1 m=> ?_) fun _ _ _ h=>h⟩
  obtain⟨w1,d1,rfl,x1,s1,rp1,p1⟩:=m
  subst rp1
  cases d1 with
  |false=>exact iteF (p1 σ w1 (.refl _) rfl s1 (er.mono x1))
  |true=>
   refine iteT ⟨fun σ' H'=>tS G (sWhile mc mb m) Wx D σ' H',fun σ' H' h=>⟨m,by omega,h⟩,w1,env,rfl,s1,er.mono x1,?_⟩
   cases hb4:mb env w1.S with
   |nx env5 S5=>
    simp only[hb4] at p1
    intro σ5 w5 x5 e5 s5 er5
    subst e5
    exact⟨w5,env5,rfl,s5,er5,PostS.shift x5 p1⟩
   |ct env5 S5=>
    simp only[hb4] at p1
    intro σ5 w5 x5 e5 s5 er5
    subst e5
    exact⟨w5,env5,rfl,s5,er5,PostS.shift x5 p1⟩
   |brk env5 S5=>simp only[hb4] at p1;exact p1
   |ret d S5=>simp only[hb4] at p1;exact p1
   |exc e env5 S5=>simp only[hb4] at p1;exact p1
   |bad=>simp only[hb4] at p1;exact p1.elim
end
end L3
namespace L3
open PySem PySem.Spec PyProof.Rows L2
def R.nox {α :Type} (r:R α):R α :=match r with
 | .ok a S=> .ok a S
 | _=> .bad
def wipeD (env:EnvD):List Nat→EnvD
 | [] =>env
 |v::vs=>(wipeD env vs).set v none
def tYesD:TD:=fun _ S=> .ok true S
def lcL (g:GD) (tt:TD) (te:ED) (env:EnvD):List D→Store→R (List D)
 | [],S=> .ok [] S
 |x::xs,S=>match g x env S with
  | .nx env1 S1=>(tt env1 S1).nox.bind fun k S2=>match k with
    |true=>(te env1 S2).nox.bind fun y S3=>(lcL g tt te env xs S3).bind fun ys S4=> .ok (y::ys) S4
    |false=>lcL g tt te env xs S2
  | _=> .bad
def eLc (mi:ID) (vs:List Nat) (g:GD) (tt:TD) (te:ED):ED:=fun env S=>(mi env S).bind fun xs S1=>
 if xs.length≤sizeLine then(lcL g tt te (wipeD env vs) xs S1).bind fun ys S2=> .ok (.lst ys) S2 else .bad
theorem R.bind_assoc {α β γ :Type} (r:R α) (f: α →Store→R β) (g: β →Store→R γ):(r.bind f).bind g=r.bind fun a S=>(f a S).bind g:=by
 cases r<;>rfl
theorem R.bind_ok {α :Type} (r:R α):(r.bind fun a S=> .ok a S)=r:=by cases r<;>rfl
section
variable {G:GC} {X:Cx} {Wx:WX} {pos:Pos}
theorem ERep.unset {w:Wd} {env:EnvD} {σ :L2.St} (i:Nat) (h:ERep G w env σ):ERep G w (env.set i none) (σ.set i none):=by
 refine⟨by simp[h.len],fun j d' e=> ?_⟩
 by_cases hj:i=j
 ·subst hj
  by_cases hi:i<env.length
  ·rw[List.getElem?_set_self hi] at e;cases e
  ·rw[List.getElem?_eq_none (by simpa using hi)] at e;cases e
 ·rw[List.getElem?_set_ne hj] at e ⊢
  exact h.at' j d' e
theorem ERep.wipe {w:Wd} {env:EnvD} {σ :L2.St} (h:ERep G w env σ):∀vs:List Nat,ERep G w (wipeD env vs) (L2.wipe σ vs)
 | [] =>h
 |v::vs=>(ERep.wipe h vs).unset v
theorem wipe_set {σ :L2.St} {i:Nat} {x:Option V} :∀ {vs:List Nat},i ∈ vs→L2.wipe (σ.set i x) vs=L2.wipe σ vs
 | [],h=>by simp at h
 |v::vs,h=>by
  show(L2.wipe (σ.set i x) vs).set v none=(L2.wipe σ vs).set v none
  by_cases hi:i ∈ vs
  ·rw[wipe_set hi]
  ·have hv:i=v:=by simpa[hi] using h
   subst hv
   have:∀ {us:List Nat} {τ :L2.St},i ∉ us→L2.wipe (τ.set i x) us=(L2.wipe τ us).set i x:=by
    intro us
    induction us with
    |nil=>intro τ _;rfl
    |cons u us ih=>
     intro τ hu
     have h1:i≠u:=fun e=>hu (by simp[e])
     have h2:i ∉ us:=fun e=>hu (by simp[e])
     show(L2.wipe (τ.set i x) us).set u none=((L2.wipe τ us).set u none).set i x
     rw[ih h2,List.set_comm _ _ h1]
   rw[this hi,List.set_set]
theorem wipe_sub {σ :L2.St} {vs:List Nat} :∀ {us:List Nat},(∀ i ∈ us,i ∈ vs)→L2.wipe (L2.wipe σ us) vs=L2.wipe σ vs
 | [],_=>rfl
 |u::us,h=>by
  show L2.wipe ((L2.wipe σ us).set u none) vs=_
  rw[wipe_set (h u (by simp)),wipe_sub fun i hi=>h i (by simp[hi])]
mutual
theorem Rep.untmp {w:Wd} {t:List Addr} (ht:∀a ∈ t,a ∈ w.tmp):∀(d:D) (v:V),Rep G w d v→Rep G { w with tmp:=t } d v
 | .non,v,h=>by simpa only[Rep] using h
 | .bl b,v,h=>by simpa only[Rep] using h
 | .int i,v,h=>by simpa only[Rep] using h
 | .str s,v,h=>by simpa only[Rep] using h
 | .tup l,v,h=>by
   simp only[Rep] at h ⊢
   obtain⟨a,vs,e,h1,h2⟩:=h
   exact⟨a,vs,e,h1.imp (fun z=>⟨z.1,fun m=>z.2 (m.imp id (ht a))⟩) id,RepL.untmp ht l vs h2⟩
 | .lst l,v,h=>by
   simp only[Rep] at h ⊢
   obtain⟨a,vs,e,h1,nm,h2⟩:=h
   exact⟨a,vs,e,h1,fun m=>nm (m.imp id (ht a)),RepL.untmp ht l vs h2⟩
 | .dic ks l,v,h=>by
   simp only[Rep] at h ⊢
   obtain⟨a,vs,e,h1,nm,hl,h2⟩:=h
   exact⟨a,vs,e,h1,fun m=>nm (m.imp id (ht a)),hl,RepL.untmp ht l vs h2⟩
 | .obj n,v,h=>by simpa only[Rep] using h
 | .glb y,v,h=>by simpa only[Rep] using h
 | .wtp _,v,h=>by simpa only[Rep] using h
 | .ty n,v,h=>by simpa only[Rep] using h
 | .scr ns,v,h=>by
   simp only[Rep] at h ⊢
   obtain⟨a,e,h1⟩:=h
   exact⟨a,e,h1.imp (fun z=>⟨z.1,fun m=>z.2 (m.imp id (ht a))⟩) id⟩
 | .kd ks l,v,h=>by
   simp only[Rep] at h ⊢
   obtain⟨a,es,n,vs,us,e,h1,h2,h3,h4,ke,h5⟩:=h
   exact⟨a,es,n,vs,us,e,h1,h2,h3,h4,ke,RepL.untmp ht l vs h5⟩
 | .lam t l,v,h=>by
   simp only[Rep] at h ⊢
   exact⟨h.1,⟨h.2.1.1,fun m=>h.2.1.2 (m.imp id (ht t.c))⟩,RepL.untmp ht l t.vs h.2.2⟩
 | .xcp c ks l,v,h=>by
   simp only[Rep] at h ⊢
   obtain⟨a,C,dx,vs,e,h1,⟨h2,nm⟩,h3,h4,h5⟩:=h
   exact⟨a,C,dx,vs,e,h1,⟨h2,fun m=>nm (m.imp id (ht a))⟩,h3,h4.imp id fun⟨d,e1,e2,nd⟩=>⟨d,e1,e2,fun m=>nd (m.imp id (ht d))⟩,RepL.untmp ht l vs h5⟩
theorem RepL.untmp {w:Wd} {t:List Addr} (ht:∀a ∈ t,a ∈ w.tmp):∀(d:List D) (v:List V),RepL G w d v→RepL G { w with tmp:=t } d v
 | [],v,h=>by simpa only[RepL] using h
 |d::ds,v,h=>by
  simp only[RepL] at h ⊢
  obtain⟨y,r,e,h1,h2⟩:=h
  exact⟨y,r,e,Rep.untmp ht d y h1,RepL.untmp ht ds r h2⟩
end
theorem RepKV.untmp {κ :Type} {w:Wd} {t:List Addr} (ht:∀a ∈ t,a ∈ w.tmp):∀(d:List (κ × D)) (v:List (κ × V)),RepKV G w d v→RepKV G { w with tmp:=t } d v
 | [],v,h=>h
 |d::ds,v,h=>by
  obtain⟨y,r,e,h1,h2⟩:=h
  exact⟨y,r,e,Rep.untmp ht _ y h1,RepKV.untmp ht ds r h2⟩
theorem RepN.untmp {w:Wd} {t:List Addr} (ht:∀a ∈ t,a ∈ w.tmp):∀(d:List (NestedKey × D)) (v:List NRow),RepN G w d v→RepN G { w with tmp:=t } d v
 | [],v,h=>h
 |d::ds,v,h=>by
  obtain⟨b,u,y,e,h1,h2,h3,h4⟩:=h
  exact⟨b,u,y,e,Rep.untmp ht _ _ h1,h2,Rep.untmp ht _ u h3,RepN.untmp ht ds y h4⟩
theorem ORep.untmp {w:Wd} {t:List Addr} (ht:∀a ∈ t,a ∈ w.tmp) {a:Addr} :∀ {ob:O},ORep G w a ob→ORep G { w with tmp:=t } a ob
 | .lst _,⟨vs,h1,h2⟩=>⟨vs,h1,RepL.untmp ht _ _ h2⟩
 | .dK _,⟨vs,h1,h2⟩=>⟨vs,h1,RepKV.untmp ht _ _ h2⟩
 | .dT _,⟨vs,h1,h2⟩=>⟨vs,h1,RepKV.untmp ht _ _ h2⟩
 | .dN _,⟨vs,h1,h2⟩=>⟨vs,h1,RepN.untmp ht _ _ h2⟩
 | .ins _ _,⟨C,dx,vs,h1,h2,h3⟩=>⟨C,dx,vs,h1,RepKV.untmp ht _ _ h2,h3⟩
 | .ptp _,⟨o,vs,⟨h1,nm⟩,h2,h3⟩=>⟨o,vs,⟨h1,fun m=>nm (m.imp id (ht a))⟩,h2,RepL.untmp ht _ _ h3⟩
 | .dead,_=>trivial
 | .tab _ _,⟨h0,ps,h1,h2,h3⟩=>⟨h0,ps,h1,h2,fun pos cv hc=>let⟨c,e1,e2⟩:=h3 pos cv hc;⟨c,e1,e2.1,fun m=>e2.2 (m.imp id (ht c))⟩⟩
theorem SRep.untmp {w:Wd} {t:List Addr} (ht:∀a ∈ t,a ∈ w.tmp) (s:SRep G w):SRep G { w with tmp:=t } :=
 ⟨s.len,s.inj,fun n ob a h1 h2=>ORep.untmp ht (s.obj n ob a h1 h2),fun a ha=>s.tm a (ht a ha)⟩
def tGW (G:GC) (g:GD) (vs:List Nat):TG:=fun v σ H Q=>∃w env d,w.H=H∧SRep G w∧ERep G w env σ ∧Rep G w d v∧
 match g d env w.S with
 | .nx env' S'=>∀ σ' w',WExt w w'→w'.S=S'→SRep G w'→ERep G w' env' σ'→L2.wipe σ' vs=L2.wipe σ vs→Q σ' w'.H
 | _=>False
theorem q_gnameW {e:Expr} {i:Nat} {vs:List Nat} (h:PG X e (L2.gName i)) (hv:i ∈ vs):PG X e (tGW G (gName i) vs):=pgI h fun v σ H Q q=>by
 obtain⟨w,env,d,rfl,sr,er,rp,p⟩:=q
 exact p _ w (.refl w) rfl sr (er.set i rp) (wipe_set hv)
theorem imp_lc {mi:ID} {vs:List Nat} {g:GD} {tt:TD} {te:ED} :∀ σ H Q,tE G (eLc mi vs g tt te) Wx σ H Q→tLc (tI G mi Wx) (tGW G g vs) (tT G tt WF) (tE G te WF) vs σ H Q:=by
 intro σ H Q q
 obtain⟨w,env,rfl,sr,er,p⟩:=q
 refine⟨w,env,rfl,sr,er,(Post.bind (Ra:=fun w' xs (J:It)=>ItOk G w' J xs) p).mono (fun J H1 m=> ?_) fun _ _ _ h=>h⟩
 obtain⟨w1,xs,rfl,x1,s1,io,p1⟩:=m
 intro L hL
 have hfr:∀a ∈ [L],w1.H a=none:=fun a h=>by have:a=L:=by simpa using h
                                            rw[this];exact hL
 by_cases hz:xs.length≤sizeLine
 ·rw[if_pos hz] at p1
  have er1:=(er.mono x1).wipe vs
  have h0:WX' [L] w1 ⟨w1.mu,w1.S,upd w1.H L (.lst []),L::w1.tmp⟩:=
   ⟨fun _ _ h=>h,fun a o h nm ha=>⟨(upd_ne (by simpa using ha)).trans h,nm⟩,fun a h=>by
     rcases List.mem_cons.mp h with e|h
     ·exact .inr (by simp[e])
     ·exact .inl h,fun a h=>List.mem_cons_of_mem _ h⟩
  have nL: ¬MutS w1 L:=fun m=>by obtain⟨u,e⟩:=MutS.there s1 m;rw[hL] at e;cases e
  have sW:SRep G ⟨w1.mu,w1.S,upd w1.H L (.lst []),L::w1.tmp⟩:=by
   refine⟨s1.len,s1.inj,fun n ob a h1 h2=> ?_,fun a ha=> ?_⟩
   ·have h:=s1.obj n ob a h1 h2
    refine h.keep h0 (fr_tok hfr) fun lv=> ?_
    obtain⟨u,e⟩:=h.there lv
    exact upd_ne (ne_of_none e hL)
   ·rcases List.mem_cons.mp ha with e|ha
    ·subst e;exact⟨⟨⟨_,by first|assumption|(intro _ h;cases h)⟩,upd_same⟩,nL⟩
    ·obtain⟨⟨u,e⟩,nm⟩:=s1.tm a ha
     exact⟨⟨u,(upd_ne (ne_of_none e hL)).trans e⟩,nm⟩
  refine⟨fun i m H=>∃w3 acc us,w3.H=H∧SRep G w3∧WX' [L] w1 w3∧L ∈ w3.tmp∧w3.H L=some (.lst us)∧RepL G w3 acc us∧acc.length≤i∧i+m=xs.length∧
   (lcL g tt te (wipeD env vs) xs w1.S)=(lcL g tt te (wipeD env vs) (xs.drop i) w3.S).bind fun ys S2=> .ok (acc++ys) S2,
   ⟨xs.length,_,[],[],rfl,sW,h0,by simp,upd_same,by simp[RepL],Nat.le_refl _,by omega,?_⟩,fun i m H hW=> ?_⟩
  ·simp only[List.drop_zero,List.nil_append,R.bind_ok]
  obtain⟨w3,acc,us,rfl,s3,x3,tm3,hL3,ra3,hlen,em,eq⟩:=hW
  rw[eq] at p1
  by_cases hi:i<xs.length
  ·have e:xs[i]? =some xs[i] :=List.getElem?_eq_getElem hi
   obtain⟨go,yl⟩:=io.go [L] w3 (fr_tok hfr) x3 s3 i xs[i] e
   refine .inr ⟨go,fun H'=>∃w5 acc us,w5.H=H'∧SRep G w5∧WX' [L] w1 w5∧L ∈ w5.tmp∧w5.H L=some (.lst us)∧RepL G w5 acc us∧acc.length≤i+1∧(i+1)+(m-1)=xs.length∧
    (lcL g tt te (wipeD env vs) xs w1.S)=(lcL g tt te (wipeD env vs) (xs.drop (i+1)) w5.S).bind fun ys S2=> .ok (acc++ys) S2,fun H' hN=>⟨m-1,by omega,hN⟩,fun x H' hy=> ?_⟩
   obtain⟨w4,rfl,x4,eS4,s4,rp4⟩:=yl x H' hy
   have x14:WX' [L] w1 w4:=WX'.trans x3 (WX'.wide x4)
   refine⟨w4,wipeD env vs,xs[i],rfl,s4,er1.monoT x14 (fr_tok hfr),rp4,?_⟩
   rw[List.drop_eq_getElem_cons hi,lcL] at eq p1
   rw[eS4]
   cases hg:g xs[i] (wipeD env vs) w3.S with
   |nx env5 S5=>
    rw[hg] at eq p1
    simp only at eq p1
    intro σ5 w5 x5 e5 s5 er5 hw
    subst e5
    refine⟨hw.trans (wipe_sub fun _ h=>h),w5,env5,rfl,s5,er5,?_⟩
    cases ht:tt env5 w5.S with
    |ok k S6=>
     rw[ht] at eq p1
     simp only[R.nox,R.bind] at eq p1
     intro b w6 x6 e6 s6 hb
     subst hb e6
     have x46:WExt w4 w6:=WX'.trans x5 x6
     have x16:WX' [L] w1 w6:=WX'.trans x14 (WX'.wide x46)
     have hL6:w6.H L=some (.lst us):=(x46.keep L _ ((x4.keep L _ hL3 ((s3.tm L tm3).2) (by simp)).1) ((s4.tm L (x4.tmp' L tm3)).2) (by simp)).1
     have tm6:L ∈ w6.tmp:=x46.tmp' L (x4.tmp' L tm3)
     have ra6:RepL G w6 acc us:=RepL.mono (WX'.trans x4 x46) _ _ ra3
     cases k with
     |false=>
      refine iteF ⟨w6,acc,us,rfl,s6,x16,tm6,hL6,ra6,by omega,by omega,?_⟩
      simpa using eq
     |true=>
      refine iteT ⟨w6,env5,rfl,s6,er5.mono x6,?_⟩
      simp only at eq p1
      cases hte:te env5 w6.S with
      |ok y S7=>
       rw[hte] at eq p1
       simp only[R.nox,R.bind] at eq p1
       intro v w7 x7 e7 s7 r7
       subst e7
       have hL7:w7.H L=some (.lst us):=(x7.keep L _ hL6 ((s6.tm L tm6).2) (by simp)).1
       have tm7:L ∈ w7.tmp:=x7.tmp' L tm6
       have nm7: ¬MutS w7 L:=(s7.tm L tm7).2
       have lu:us.length=acc.length:=ra3.length
       refine⟨us,hL7,by omega,?_⟩
       have x8:WX' [L] w7 (w7.put L (.lst (us++ [v]))):=⟨fun _ _ h=>h,fun a o h nm ha=>⟨(upd_ne (by simpa using ha)).trans h,nm⟩,fun a h=> .inl h,fun a h=>h⟩
       have t8:Tok [L] w7:=fun a h=> .inl (by have:a=L:=by simpa using h
                                              rw[this];exact tm7)
       have s8:SRep G (w7.put L (.lst (us++ [v]))):=by
        refine⟨s7.len,s7.inj,fun n ob a h1 h2=> ?_,fun a ha=> ?_⟩
        ·have h:=s7.obj n ob a h1 h2
         exact h.keep x8 t8 fun lv=>upd_ne fun e=>nm7 (by subst e;exact⟨n,ob,h1,lv,h2⟩)
        ·obtain⟨⟨u,e⟩,nm⟩:=s7.tm a ha
         by_cases ea:a=L
         ·subst ea;exact⟨⟨⟨_,by first|assumption|(intro _ h;cases h)⟩,upd_same⟩,nm⟩
         ·exact⟨⟨u,(upd_ne ea).trans e⟩,nm⟩
       refine⟨_,acc++ [y],us++ [v],rfl,s8,WX'.trans (WX'.trans x16 (WX'.wide x7)) x8,tm7,upd_same,?_,by simp;omega,by omega,?_⟩
       ·exact(RepL.monoT x8 t8 _ _ (RepL.mono x7 _ _ ra6)).append (RepL.one (Rep.monoT x8 t8 _ _ r7))
       ·rw[eq]
        show _=(lcL g tt te (wipeD env vs) (List.drop (i+1) xs) w7.S).bind _
        cases lcL g tt te (wipeD env vs) (List.drop (i+1) xs) w7.S<;>simp[R.bind]
      |exc ee S7=>rw[hte] at p1;exact p1.elim
      |bad=>rw[hte] at p1;exact p1.elim
    |exc ee S6=>rw[ht] at p1;exact p1.elim
    |bad=>rw[ht] at p1;exact p1.elim
   |ret _ _=>rw[hg] at p1;exact p1.elim
   |brk _ _=>rw[hg] at p1;exact p1.elim
   |ct _ _=>rw[hg] at p1;exact p1.elim
   |exc _ _ _=>rw[hg] at p1;exact p1.elim
   |bad=>rw[hg] at p1;exact p1.elim
  ·have ei:i=xs.length:=by omega
   subst ei
   refine .inl ⟨io.stop [L] w3 (fr_tok hfr) x3 s3,?_⟩
   rw[List.drop_length] at p1
   have we:WExt w1 { w3 with tmp:=w1.tmp } :=⟨x3.mu,fun a o h nm _=>x3.keep a o h nm (by
    intro ha
    have:a=L:=by simpa using ha
    rw[this,hL] at h;cases h),fun a h=> .inl h,fun a h=>h⟩
   have tinc:∀a,a ∈ w1.tmp→a ∈ w3.tmp:=x3.tmp'
   have se:SRep G { w3 with tmp:=w1.tmp } :=s3.untmp tinc
   have nmL: ¬Mut { w3 with tmp:=w1.tmp } L:=fun m=>m.elim (s3.tm L tm3).2 fun z=>by
    obtain⟨⟨u,e⟩,_⟩:=s1.tm L z
    rw[hL] at e;cases e
   have hr:Rep G { w3 with tmp:=w1.tmp } (.lst (acc++ [])) (.ref L):=by
    simp only[Rep,List.append_nil]
    exact⟨L,us,rfl,hL3,nmL,RepL.untmp tinc _ _ ra3⟩
   exact p1 (.ref L) { w3 with tmp:=w1.tmp } we rfl se hr
 ·rw[if_neg hz] at p1;exact p1.elim
theorem q_lc {elt tg iter:Expr} {ifs:List Expr} {scope:Scope} {own:List (Str × Nat)} {mi:ID} {g:GD} {mt:TD} {me:ED} (hc:X.calm=true) (hN:X.N.Nodup) (hi:PI X tg iter (tI G mi Wx)) (ok:BlkOk X.N X.env.scope scope own)
 (hg:∀(s:Shared) (H:Hp) (C:Addr) (cl:List (Str × Addr)) (fp:List Addr),PG (X.blk s H scope (compEnvC scope cl C X.env) fp) tg (tGW G g (own.map (·.2))))
 (ht:∀(s:Shared) (H:Hp) (C:Addr) (cl:List (Str × Addr)) (fp:List Addr),PTs (X.blk s H scope (compEnvC scope cl C X.env) fp) ifs (tT G mt WF))
 (he:∀(s:Shared) (H:Hp) (C:Addr) (cl:List (Str × Addr)) (fp:List Addr),PE (X.blk s H scope (compEnvC scope cl C X.env) fp) elt (tE G me WF)) (hs:∀x,foldedSetIterable iter X.env x=pure x:=by intro _;rfl):
 PE X (.ListComp elt [⟨tg,iter,ifs,0⟩] scope pos) (tE G (eLc mi (own.map (·.2)) g mt me) Wx):=peI (pe_lc hc hN hi ok hg ht he hs) imp_lc
theorem q_setLc {i:Nat} {y:Str} {py:Pos} {elt tg iter:Expr} {ifs:List Expr} {scope:Scope} {own:List (Str × Nat)} {spos:Pos} {mi:ID} {g:GD} {mt:TD} {me:ED} (hc:X.calm=true) (hN:X.N.Nodup) (hy:X.N[i]? =some y) (hyl:X.env.scope.names.lookup y=some .local)
 (hsw:swapsWith (.ListComp elt [⟨tg,iter,ifs,0⟩] scope pos) (some (.Name y py)) spos.line X.env=pure true) (hi:PI X tg iter (tI G mi Wx)) (ok:BlkOk X.N X.env.scope scope own)
 (hg:∀(s:Shared) (H:Hp) (C:Addr) (cl:List (Str × Addr)) (fp:List Addr),PG (X.blk s H scope (compEnvC scope cl C X.env) fp) tg (tGW G g (own.map (·.2))))
 (ht:∀(s:Shared) (H:Hp) (C:Addr) (cl:List (Str × Addr)) (fp:List Addr),PTs (X.blk s H scope (compEnvC scope cl C X.env) fp) ifs (tT G mt WF))
 (he:∀(s:Shared) (H:Hp) (C:Addr) (cl:List (Str × Addr)) (fp:List Addr),PE (X.blk s H scope (compEnvC scope cl C X.env) fp) elt (tE G me WF)) (hs:∀x,foldedSetIterable iter X.env x=pure x:=by intro _;rfl):
 PS X (.Assign [.Name y py] (.ListComp elt [⟨tg,iter,ifs,0⟩] scope pos) spos) (tS G (sAsg (eLc mi (own.map (·.2)) g mt me) (gName i)) Wx):=psI (ps_setLc hc hN hy hyl hsw hi ok hg ht he hs) fun D σ H q=>by
 obtain⟨w,env,rfl,sr,er,p⟩:=q
 refine imp_lc (Wx:=Wx) σ w.H _ ⟨w,env,rfl,sr,er,(PostS.ofR (Ra:=Rep G) er p).mono (fun x H1 m=> ?_) fun _ _ _ h=>h⟩
 obtain⟨w1,d1,rfl,x1,s1,rp1,p1⟩:=m
 exact p1 _ w1 (.refl w1) rfl s1 ((er.mono x1).set i rp1)
theorem q_tnil:PTs X [] (tT G tYesD WF):=⟨fun pins s σ H Q I q=>by
 obtain⟨w,env,rfl,sr,er,p⟩:=q
 exact pts_nil.run pins s σ w.H Q I (Post.ret (Ra:=fun _ (a b:Bool)=>a=b) sr rfl p)⟩
theorem q_tone {c:Expr} {m:TD} (h:PT X c (tT G m WF)):PTs X [c] (tT G m WF):=pts_one h
end
end L3
namespace L3
open PySem PySem.Spec PyProof.Rows L2
structure RoomG (k:Nat) (A:Around):Prop where
 rm:Room k A
 gd:A.guards=some []
theorem RoomG.deeper {k:Nat} {A:Around} (r:RoomG (k+1) A) (env:Env):RoomG k (A.deeper env):=⟨r.rm.deeper env,r.gd⟩
theorem RoomG.units {k:Nat} {A:Around} (r:RoomG k A):A.units+64<cLine:=r.rm.units
theorem RoomG.mono {j k:Nat} {A:Around} (r:RoomG k A) (h:j≤k):RoomG j A:=⟨r.rm.mono h,r.gd⟩
structure FnG (P:Program) (w:World) (K:PySem.W.Frag) (mg:Str→Option Value) (base:Heap) (k:Nat) (f:Addr) (fd:FuncData) (ps:List Str) (sp:Sp):Prop where
 len:∀vs H Q E,sp vs H Q E→vs.length=ps.length
 go:∀(A:Around) (outer:List Env) (s:Shared) (H:Hp) (args:Args) (us:List Value) (vs:List V) (Q:VK) (E:XK),
  RoomG k A→Env0 P w K mg base A outer s H→BindsTo s fd args (ps.zip us)→Vals vs us→sp vs H Q E→codeAny (model P w) A (.call (.ref f) args) (CR (L2.CX P w) outer P w H s Q E) s
theorem FnG.imp {P:Program} {w:World} {K:PySem.W.Frag} {mg:Str→Option Value} {base:Heap} {k:Nat} {f:Addr} {fd:FuncData} {ps:List Str} {sp sp':Sp} (F:FnG P w K mg base k f fd ps sp) (i:∀vs H Q E,sp' vs H Q E→sp vs H Q E):
 FnG P w K mg base k f fd ps sp':=
 ⟨fun _ _ _ _ h=>F.len _ _ _ _ (i _ _ _ _ h),fun A outer s H args us vs Q E r e b v h=>F.go A outer s H args us vs Q E r e b v (i _ _ _ _ h)⟩
theorem FnG.of_def {P:Program} {w:World} {K:PySem.W.Frag} {mg:Str→Option Value} {base:Heap} {x qual:Str} {params:Arguments} {body:List Stmt} {scope:Scope} {dvs:List V} {kws:List (Str × V)} {f:Addr} {fd:FuncData} {N ps:List Str} {k:Nat} {sp:Sp}
 (F:FunD K x qual params body scope dvs kws f fd) (Sc:FnScope N ps scope) (len:∀vs H Q E,sp vs H Q E→vs.length=ps.length)
 (inner:∀(cdv:Value) (A:Around) (outer:List Env) (s:Shared) (H:Hp) (vs:List V) (Q:VK) (E:XK),RoomG k (A.deeper (envOfC qual scope s.heap.objs.size f cdv))→sp vs H Q E→
   ∃t:TS,PSs (cxOf (L2.CX P w) P w K mg base N qual scope f cdv A outer s H E) body t∧t { nx:=fun _ H'=>Q .non H',rt:=Q } (start N vs) H):FnG P w K mg base (k+1) f fd ps sp:=by
 obtain⟨_,_,_,_,_,_,_,cdv,_,_,rfl,place,code,_,_⟩:=F.ex
 refine⟨len,fun A outer s H args us vs Q E room e0 bound rel want=> ?_⟩
 have size:=len _ _ _ _ want
 have inK:K.In s.heap:=e0.mod.kin.keeps fun b o h=>(e0.bs b o h).1
 refine codeAny_call_function room.rm.depth (inK _ _ place) rfl Sc.co Sc.gen rfl (PySem.W.codeRec_of inK code) (bound _ _ _ _ ?_)
 refine wpAny_newFunctionEnv_cells Sc.kind (fun y hy=> ?_) fun env made s2 entered=> ?_
 ·obtain⟨n,v⟩:=y
  refine(Sc.par n (List.of_mem_zip hy).1).imp id fun c=>⟨c,PySem.W.cellsFrom_some _ _ _ (.inl c)⟩
 subst made
 have nl:s.heap.NoLimit:=e0.mod.nolimit.keeps fun b o h=>(e0.bs b o h).1
 refine⟨nl.keeps entered.toInCall.keep,codeAny_func ?_⟩
 obtain⟨t,runs,holds⟩:=inner cdv A outer s H vs Q E (room.deeper _) want
 have I0:Inv (cxOf (L2.CX P w) P w K mg base N qual scope f cdv A outer s H E) [] (start N vs) H s2:=inv_start Sc room.rm.hd e0 size rel entered
 refine wpAny_mono (runs.run [] s2 (start N vs) H _ I0 holds) (fun fl s' done=> ?_) fun _ _ z=>z
 have told:∀ {σ':L2.St} {H':Hp} {v:V} {u:Value},Inv (cxOf (L2.CX P w) P w K mg base N qual scope f cdv A outer s H E) [] σ' H' s'→RelV v u→Q v H'→CE outer P w H s Q u s':=fun {_ H' v _} J q q'=>⟨v,H',J.os,J.bare,J.base,J.hok,q,q'⟩
 match fl,done with
 | .ret u,⟨v,σ',H',J,q,q'⟩=>exact told J q q'
 | .next,⟨σ',H',J,q'⟩=>exact told (v:=V.non) (u:=Value.none) J rfl q'
 | .brk,⟨_,_,_,z⟩=>exact False.elim z
 | .cont,⟨_,_,_,z⟩=>exact False.elim z
section
variable {X:Cx} {k:Nat} {f:Addr} {fd:FuncData} {ps:List Str} {sp:Sp} {dvs:List V} {ds:List Value} {E:L2.St→XK}
theorem FnG.called {pins:List (Addr × Obj)} {σ :L2.St} {H:Hp} {s:Shared} {Q:VK} {args:Args} {zs:List Value} {ys:List V} (F:FnG X.prog X.w X.K X.mg X.base k f fd ps sp) (room:RoomG k X.A) (hx:PassesAt (L2.CX X.prog X.w) X σ (E σ)) (I:Inv X pins σ H s)
 (bound:BindsTo s fd args (ps.zip zs)) (rel:Vals ys zs) (want:sp ys H Q (E σ)):codeAny (model X.prog X.w) X.A (.call (.ref f) args) (fun r s'=>match r with
   | .ok (.ret u)=>EP X pins σ Q u s'
   | .error e=>X.xe e s'
   | _=>False) s:=by
 refine codeAny_mono (F.go X.A X.stack s H args zs ys Q (E σ) room I.env0 bound rel want) fun r s' q=> ?_
 match r,q with
 | .error e,q=>exact hx pins H s e s' I q
 | .ok (.ret u),q=>exact I.after q
theorem FnG.byPlace {pins:List (Addr × Obj)} {σ :L2.St} {H:Hp} {s:Shared} {Q:VK} {us:List Value} {vs:List V} (F:FnG X.prog X.w X.K X.mg X.base k f fd ps sp) (room:RoomG k X.A) (bs:Binds X.K fd ps ds) (dv:Vals dvs ds) (hx:PassesAt (L2.CX X.prog X.w) X σ (E σ))
 (I:Inv X pins σ H s) (rel:Vals vs us) (want:sp (vs++dvs) H Q (E σ)):wpAny (model X.prog X.w) X.A (call (.ref f) us) (EP X pins σ Q) X.xe s:=by
 have all:=rel.append dv
 refine wpAny_call (codeAny_mono (F.called room hx I (bs s us I.kIn (by rw[← all.length];exact F.len _ _ _ _ want)) all want) fun r s' q=> ?_)
 match r,q with
 | .error _,q=>exact q
 | .ok (.ret _),q=>exact q
end
def spOf (G:GC) (F:FN):Sp:=fun vs H Q E=>∃w ds,w.H=H∧SRep G w∧RepL G w ds vs∧Post G w (F ds w.S) (Rep G) Q E
abbrev WE0 (E:XK):WX:=fun C d _ H=>E C d H
def callK (F:FN) (dds:List D):FN:=fun xs S=>F (xs++dds) S
section
variable {G:GC} {X:Cx} {Wx:WX} {pos p:Pos} {k:Nat} {f:Addr} {fd:FuncData} {ps:List Str} {F:FN} {x:Str} {e:Expr} {es:List Expr} {dvs:List V} {ds:List Value} {dds:List D} {m:AD}
theorem imp_call (hdd:∀w,RepL G w dds dvs):∀ σ H Q,tE G (eN (callK F dds) m) Wx σ H Q→tCallSD (spOf G F) dvs (WE Wx) (tA G m Wx) σ H Q:=by
 intro σ H Q q
 obtain⟨w,env,rfl,sr,er,p⟩:=q
 refine⟨w,env,rfl,sr,er,(Post.bind p).mono (fun x H1 m=> ?_) fun _ _ _ h=>h⟩
 obtain⟨w1,d1,rfl,x1,s1,rp1,p1⟩:=m
 exact⟨w1,d1++dds,rfl,s1,rp1.append (hdd w1),p1⟩
theorem q_call (hF:FnG X.prog X.w X.K X.mg X.base k f fd ps (spOf G F)) (hr:RoomG k X.A) (hg:Gl X x) (hm:X.mg x=some (.ref f)) (hk:PySem.W.keepIn X.K (.ref f)=true) (hb:Binds X.K fd ps ds) (hd:Vals dvs ds) (hdd:∀w,RepL G w dds dvs) (tk:Takes X Wx)
 (ha:PA X (e::es) (tA G m Wx)) (hdb:(x==("__debug__" :Str))=false:=by decide) (he:starEach (e::es) X.env=(false,eval e X.env)::starEach es X.env:=by rfl) (hpl:(backTo pos (starEach es X.env)).any (·.1)=false:=by rfl):
 PE X (.Call (.Name x p) (e::es) [] pos) (tE G (eN (callK F dds) m) Wx):=
 peI (t:=tCallSD (spOf G F) dvs (WE Wx) (tA G m Wx)) ⟨fun pins s σ H Q I h=>wpAny_Call_Name_kw (ld_glob I hg hm (PySem.W.callWith_K (h₀ :=X.base) I.ok.mod.kin hk
  (thn (ha.run pos pins s σ H _ I h) fun us s1 ⟨vs,H1,I1,r,q⟩=>⟨I1.kIn,FnG.byPlace (E:=WE Wx) hF hr hb hd (passAt tk σ) I1 r q⟩) he hpl) hdb)⟩ (imp_call hdd)
end
section
variable {P:Program} {w:World} {G:GC} {base:Heap} {x qual:Str} {params:Arguments} {body:List Stmt} {scope:Scope} {dvs:List V} {kws:List (Str × V)} {f:Addr} {fd:FuncData} {k n:Nat} {N ps:List Str} {m:SD}
theorem len_spOf {vs:List V} {H:Hp} {Q:VK} {E:XK} {F:FN} {n:Nat} (ar:∀ds S,ds.length≠n→F ds S= .bad) (h:spOf G F vs H Q E):vs.length=n:=by
 obtain⟨w,ds,rfl,sr,rp,p⟩:=h
 rw[rp.length]
 by_cases e:ds.length=n
 ·exact e
 ·rw[ar ds w.S e] at p;exact p.elim
theorem run_ar:∀(ds:List D) (S:Store),ds.length≠n→run n k m ds S= .bad:=fun ds S h=>by unfold run;rw[if_neg h]
theorem ERep.start {wd:Wd} {ds:List D} {vs:List V} (h:RepL G wd ds vs):ERep G wd (ds.map some++List.replicate (n-ds.length) none) (vs.map some++List.replicate (n-vs.length) none):=by
 have hl:=h.length
 refine⟨by simp[hl],fun i d e=> ?_⟩
 by_cases hi:i<ds.length
 ·rw[List.getElem?_append_left (by simpa using hi),List.getElem?_map] at e
  cases q:ds[i]? with
  |none=>rw[q] at e;cases e
  |some d'=>
   rw[q] at e
   cases e
   obtain⟨v,h1,h2⟩:=h.get q
   refine⟨v,?_,h2⟩
   rw[List.getElem?_append_left (by simp[hl];exact hi),List.getElem?_map,h1]
   rfl
 ·rw[List.getElem?_append_right (by simpa using hi)] at e
  have:=(List.getElem?_eq_some_iff.mp e).2
  simp at this
theorem fn_ok (F:FunD G.K x qual params body scope dvs kws f fd) (S:FnScope N ps scope)
 (hb:∀(cdv:Value) (A:Around) (outer:List Env) (s:Shared) (H:Hp) (E:XK),RoomG k (A.deeper (envOfC qual scope s.heap.objs.size f cdv))→
   PSs (cxOf (L2.CX P w) P w G.K G.mg base N qual scope f cdv A outer s H E) body (tS G m (WE0 E))):
 FnG P w G.K G.mg base (k+1) f fd ps (spOf G (run ps.length N.length m)):=by
 refine FnG.of_def F S (fun vs H Q E h=>len_spOf run_ar h) fun cdv A outer s H vs Q E hr h=>⟨_,hb cdv A outer s H E hr,?_⟩
 obtain⟨wd,ds,rfl,sr,rp,p⟩:=h
 by_cases hl:ds.length=ps.length
 ·unfold run at p
  rw[if_pos hl] at p
  refine⟨wd,_,rfl,sr,ERep.start rp,?_⟩
  cases hm:m (ds.map some++List.replicate (N.length-ds.length) none) wd.S with
  |nx env S=>rw[hm] at p;exact fun σ' w' x hs s er=>p .non w' x hs s (by simp[Rep])
  |ret d S=>rw[hm] at p;exact p
  |brk _ _=>rw[hm] at p;exact p.elim
  |ct _ _=>rw[hm] at p;exact p.elim
  |exc e env S=>rw[hm] at p;exact fun C dx σ' w' x hs s er xr=>p C dx w' x hs s xr
  |bad=>rw[hm] at p;exact p.elim
 ·rw[run_ar ds wd.S hl] at p;exact p.elim
theorem fn_none {nn:Nat} :FnG P w G.K G.mg base nn f fd ps (spOf G fun _ _=> .bad):=
 ⟨fun vs H Q E ⟨w,ds,_,_,_,p⟩=>p.elim,fun A outer s H args us vs Q E _ _ _ _ ⟨w,ds,_,_,_,p⟩=>p.elim⟩
theorem tk_body {K:PySem.W.Frag} {mg:Str→Option Value} {qual:Str} {scope:Scope} {cdv:Value} {A:Around} {outer:List Env} {s:Shared} {H:Hp} {E:XK} :Takes (cxOf (L2.CX P w) P w K mg base N qual scope f cdv A outer s H E) (WE0 E):=takes_of rfl rfl rfl rfl
theorem po_body {K:PySem.W.Frag} {mg:Str→Option Value} {qual:Str} {scope:Scope} {cdv:Value} {A:Around} {outer:List Env} {s:Shared} {H:Hp} {E:XK} :PassesOwn (model P w) (cxOf (L2.CX P w) P w K mg base N qual scope f cdv A outer s H E).A (cxOf (L2.CX P w) P w K mg base N qual scope f cdv A outer s H E).env (cxOf (L2.CX P w) P w K mg base N qual scope f cdv A outer s H E).xe:=passes_of (X:=cxOf (L2.CX P w) P w K mg base N qual scope f cdv A outer s H E) rfl
theorem tk_blk {X:Cx} {s:Shared} {H:Hp} {sc:Scope} {ce:Env} {fp:List Addr} :Takes (X.blk s H sc ce fp) WF:=fun u s' h=>by
 obtain⟨_,_,_,_,_,_,_,_,_,_,_,_,_,_,_,_,z⟩:=h
 exact z.elim
end
end L3
namespace L3
open PySem PySem.Spec PyProof.Rows L2
theorem opI2 {X:Cx} {f:Value→Value→Sem Value} {r r':R2} (h:OpR X f r) (i:∀x y H Q,r' x y H Q→r x y H Q):OpR X f r':=fun pins s σ H x y v u Q I rx ry q=>h pins s σ H x y v u Q I rx ry (i _ _ _ _ q)
theorem unI2 {X:Cx} {f:Value→Sem Value} {r r':V→Hp→VK→Prop} (h:UnR X f r) (i:∀x H Q,r' x H Q→r x H Q):UnR X f r':=fun pins s σ H x v Q I rx q=>h pins s σ H x v Q I rx (i _ _ _ q)
theorem ixI2 {X:Cx} {r r':R2} (h:IxR X r) (i:∀x y H Q,r' x y H Q→r x y H Q):IxR X r':=fun a b pins s σ H x y v u Q I rx ry q=>h a b pins s σ H x y v u Q I rx ry (i _ _ _ _ q)
theorem caI2 {X:Cx} {f:Value} {r r':List V→Hp→VK→Prop} (h:CallR X f r) (i:∀xs H Q,r' xs H Q→r xs H Q):CallR X f r':=fun pins s σ H xs us Q I rs q=>h pins s σ H xs us Q I rs (i _ _ _ q)
theorem mtI2 {X:Cx} {id:String} {r r':V→List V→Hp→VK→Prop} (h:MtR X id r) (i:∀x xs H Q,r' x xs H Q→r x xs H Q):MtR X id r':=fun pins s σ H x xs v us Q I rx rs q=>h pins s σ H x xs v us Q I rx rs (i _ _ _ _ q)
section
variable {G:GC} {w:Wd}
def asL (x:D) (S:Store):Option (List D):=match x with
 | .lst l=>some l
 | .obj n=>match S[n]? with
   |some (.lst l)=>some l
   | _=>none
 | _=>none
theorem asL_rep {x:D} {v:V} {l:List D} (sr:SRep G w) (h:Rep G w x v) (e:asL x w.S=some l):∃a vs,v= .ref a∧w.H a=some (.lst vs)∧RepL G w l vs:=by
 cases x with
 |lst l'=>
  cases e
  simp only[Rep] at h
  obtain⟨a,vs,rfl,h1,_,h2⟩:=h
  exact⟨a,vs,rfl,h1,h2⟩
 |obj n=>
  simp only[Rep] at h
  obtain⟨a,h1,rfl⟩:=h
  unfold asL at e
  dsimp only at e
  cases hn:w.S[n]? with
  |none=>rw[hn] at e;cases e
  |some o=>
   rw[hn] at e
   cases o with
   |lst l'=>
    cases e
    obtain⟨vs,q1,q2⟩:=sr.obj n _ a hn h1
    exact⟨a,vs,rfl,q1,q2⟩
   | _=>cases e
 | _=>cases e
theorem new_lst {l:List D} {vs:List V} {S:Store} {Q:VK} {E:Value→Option Addr→Hp→Prop} (sr:SRep G w) (rl:RepL G w l vs) (p:Post G w (.ok (.lst l) w.S) (Rep G) Q E) (a:Addr) (ha:w.H a=none):Q (.ref a) (upd w.H a (.lst vs)):=by
 obtain⟨x,s,nm⟩:=new_ext (o:= .lst vs) sr ha
 exact p (.ref a) _ x rfl s (by simp only[Rep];exact⟨a,vs,rfl,upd_same,nm,RepL.mono x _ _ rl⟩)
theorem new_tup {l:List D} {vs:List V} {Q:VK} {E:Value→Option Addr→Hp→Prop} (sr:SRep G w) (rl:RepL G w l vs) (p:Post G w (.ok (.tup l) w.S) (Rep G) Q E) (a:Addr) (ha:w.H a=none):Q (.ref a) (upd w.H a (.tup vs)):=by
 obtain⟨x,s,nm⟩:=new_ext (o:= .tup vs) sr ha
 exact p (.ref a) _ x rfl s (by simp only[Rep];exact⟨a,vs,rfl, .inl ⟨upd_same,nm⟩,RepL.mono x _ _ rl⟩)
theorem new_lobj {l:List D} {vs:List V} {Q:VK} {E:Value→Option Addr→Hp→Prop} (sr:SRep G w) (rl:RepL G w l vs) (p:Post G w (.ok (.obj w.S.length) (w.S++ [.lst l])) (Rep G) Q E) (a:Addr) (ha:w.H a=none):Q (.ref a) (upd w.H a (.lst vs)):=by
 obtain⟨x,s⟩:=new_obj (ob:= .lst l) (o:= .lst vs) sr ha fun w' x e=>⟨vs,e,RepL.mono x _ _ rl⟩
 exact p (.ref a) _ x rfl s (by simp only[Rep];exact⟨a,by rw[← sr.len];simp,rfl⟩)
theorem SqT_of {a:Addr} {vs:List V} {l:List D} (h:TupAt G w a vs l):SqT G.K w.H a vs:=h.imp (fun z=> .inl z.1) fun z=>z.1
end
def repS (z:Str) (k:Int):Str:=⟨(List.replicate k.toNat z.cps.toList).flatten.toArray⟩
theorem fold_app:∀(l:List (Array Nat)) (a:Array Nat),(l.foldl (· ++ ·) a).toList=a.toList++(l.map Array.toList).flatten
 | [],a=>by simp
 |x::l,a=>by simp[fold_app l]
theorem repS_fold (z:Str) (k:Int):(⟨(List.replicate k.toNat z.cps).foldl (· ++ ·) #[]⟩:Str)=repS z k:=by
 unfold repS
 congr 1
 apply Array.ext'
 rw[fold_app];simp
theorem repS_one (z:Str):repS z 1=z:=by
 unfold repS;simp
theorem repS_nil {z:Str} (k:Int) (h:z.length=0):repS z k=z:=by
 have e:z.cps= #[] :=Array.eq_empty_of_size_eq_zero h
 obtain⟨c⟩:=z
 simp only at e;subst e
 unfold repS;simp
theorem repS_lt {z:Str} {k:Int} (h:k<1):repS z k=Str.empty:=by
 unfold repS
 rw[show k.toNat=0 by omega];rfl
theorem repS_len (z:Str) (k:Int):(repS z k).length=k.toNat*z.length:=by
 show(repS z k).cps.size=k.toNat*z.cps.size
 unfold repS;simp
theorem op_repS {X:Cx} :OpR X (binaryOp .Mult) (fun x y H Q=>∃z k,x= .str z∧y= .int k∧ -(2 ^ 63)≤k∧k<2 ^ 63∧z.length*k.toNat≤sizeLine∧Q (.str (repS z k)) H):=by
 intro pins s σ H x y v u Q I rx ry h
 obtain⟨z,k,rfl,rfl,h1,h2,h3,q⟩:=h
 obtain⟨t,rfl⟩:=rx
 obtain⟨t',rfl⟩:=ry
 refine P.mul_str (by simp;omega) (fun h _=> ?_) (fun _ _=> ?_) ?_
 ·intro c
  have:(z.length:Int)*k≤2 ^ 24:=by
   have h4:((z.length*k.toNat:Nat):Int)≤((2 ^ 24:Nat):Int):=Int.ofNat_le.mpr h3
   rw[Int.natCast_mul,Int.toNat_of_nonneg (by omega)] at h4
   exact h4
  have c2:=(Int.ediv_lt_iff_lt_mul (by omega:0<k)).mp c
  omega
 ·exact decide_eq_false (Nat.not_lt.mpr h3)
 ·split
  ·rename_i hk
   rw[repS_lt hk] at q
   exact⟨by decide, .str Str.empty,H,I.tok _,⟨_,rfl⟩,q⟩
  ·split
   ·rename_i hk
    have e:repS z k=z:=by
     rw[Bool.or_eq_true] at hk
     rcases hk with hk|hk
     ·have:=beq_iff_eq.mp hk;subst this;exact repS_one z
     ·exact repS_nil k (beq_iff_eq.mp hk)
    rw[e] at q
    exact⟨.str z,H,I,⟨_,rfl⟩,q⟩
   ·rw[repS_fold]
    refine⟨?_, .str (repS z k),H,I.tok _,⟨_,rfl⟩,q⟩
    rw[repS_len];rw[Nat.mul_comm];exact h3
def mulOk (i j:Int):Bool:=decide (((-(2 ^ 64)<i∧i<2 ^ 64)∨(-(2 ^ 64)<j∧j<2 ^ 64))∨i.natAbs.log2+j.natAbs.log2<1000000)
def addD:F2:=fun x y S=>match x,y with
 | .int i, .int j=> .ok (.int (i+j)) S
 | .str a, .str b=>if a.length+b.length≤sizeLine then .ok (.str (a++b)) S else .bad
 | .tup a, .tup b=>if a.length+b.length≤sizeLine then .ok (.tup (a++b)) S else .bad
 |x,y=>match asL x S,asL y S with
  |some a,some b=>if a.length+b.length≤sizeLine then .ok (.lst (a++b)) S else .bad
  | _,_=> .bad
def subD:F2:=fun x y S=>match x,y with
 | .int i, .int j=> .ok (.int (i-j)) S
 | _,_=> .bad
def mulD:F2:=fun x y S=>match x,y with
 | .int i, .int j=>if mulOk i j then .ok (.int (i*j)) S else .bad
 | .str z, .int k=>if -(2 ^ 63)≤k∧k<2 ^ 63∧z.length*k.toNat≤sizeLine then .ok (.str (repS z k)) S else .bad
 |x, .int k=>match asL x S with
  |some a=>if -(2 ^ 63)≤k∧k<2 ^ 63∧a.length*k.toNat≤sizeLine then .ok (.lst (List.replicate k.toNat a).flatten) S else .bad
  | _=> .bad
 | _,_=> .bad
def fdivD:F2:=fun x y S=>match x,y with
 | .int i, .int j=>if 0<j∧j.natAbs.log2<9000 then .ok (.int (i / j)) S else .bad
 | _,_=> .bad
def modD:F2:=fun x y S=>match x,y with
 | .int i, .int j=>if 0<j then .ok (.int (i % j)) S else .bad
 | _,_=> .bad
def powD:F2:=fun x y S=>match x,y with
 | .int i, .int j=>if 0≤j∧(Builtin.Int.intBits i:Int)*j≤2 ^ 27 then .ok (.int (i ^ j.toNat)) S else .bad
 | _,_=> .bad
def negD:F1:=fun x S=>match x with
 | .int i=> .ok (.int (-i)) S
 | _=> .bad
section
variable {G:GC} {X:Cx}
theorem c_add:Calm2 addD:=fun x y S=>by unfold addD;repeat' split
                                        all_goals trivial
theorem c_sub:Calm2 subD:=fun x y S=>by unfold subD;repeat' split
                                        all_goals trivial
theorem c_mul:Calm2 mulD:=fun x y S=>by unfold mulD;repeat' split
                                        all_goals trivial
theorem c_fdiv:Calm2 fdivD:=fun x y S=>by unfold fdivD;repeat' split
                                          all_goals trivial
theorem c_mod:Calm2 modD:=fun x y S=>by unfold modD;repeat' split
                                        all_goals trivial
theorem c_pow:Calm2 powD:=fun x y S=>by unfold powD;repeat' split
                                        all_goals trivial
theorem c_neg:Calm1 negD:=fun x S=>by unfold negD;repeat' split
                                      all_goals trivial
theorem o_add (hK:X.K=G.K):OpR X (binaryOp .Add) (r2 G addD):=by
 refine opI2 (op_add.or (op_add_str.or (op_catA.or op_cat))) fun x y H Q q=> ?_
 obtain⟨w,d1,d2,rfl,sr,r1,r2,p⟩:=q
 unfold addD at p
 split at p
 ·simp only[Rep] at r1 r2
  exact .inl ⟨_,_,r1,r2,Post.ret (Ra:=Rep G) sr (by simp[Rep]) p⟩
 ·split at p
  ·rename_i hz
   simp only[Rep] at r1 r2
   exact .inr (.inl ⟨_,_,r1,r2,hz,Post.ret (Ra:=Rep G) sr (by simp[Rep]) p⟩)
  ·exact p.elim
 ·split at p
  ·rename_i hz
   have r1':=r1
   have r2':=r2
   simp only[Rep] at r1 r2
   obtain⟨a,vs,rfl,h1,l1⟩:=r1
   obtain⟨b,us,rfl,h2,l2⟩:=r2
   have e1:=l1.length
   have e2:=l2.length
   refine .inr (.inr (.inl ⟨a,b,vs,us,rfl,rfl,by rw[hK];exact SqT_of h1,by rw[hK];exact SqT_of h2,by omega,fun e=> ?_,fun _ e=> ?_,fun _ _ p' hp'=> ?_⟩))
   ·have e':=List.eq_nil_of_length_eq_zero (by rw[← e1,e];rfl)
    rw[e',List.nil_append] at p
    exact Post.ret (Ra:=Rep G) sr r2' p
   ·have e':=List.eq_nil_of_length_eq_zero (by rw[← e2,e];rfl)
    rw[e',List.append_nil] at p
    exact Post.ret (Ra:=Rep G) sr r1' p
   ·exact new_tup sr (l1.append l2) p p' hp'
  ·exact p.elim
 ·split at p
  ·rename_i l1 l2 h1 h2
   split at p
   ·rename_i hz
    obtain⟨a,vs,rfl,e1,q1⟩:=asL_rep sr r1 h1
    obtain⟨b,us,rfl,e2,q2⟩:=asL_rep sr r2 h2
    refine .inr (.inr (.inr ⟨a,b,vs,us,rfl,rfl,e1,e2,by rw[q1.length,q2.length];exact hz,fun p' hp'=>new_lst (S:=w.S) sr (q1.append q2) p p' hp'⟩))
   ·exact p.elim
  ·exact p.elim
theorem o_sub:OpR X (binaryOp .Sub) (r2 G subD):=by
 refine opI2 op_sub fun x y H Q q=> ?_
 obtain⟨w,d1,d2,rfl,sr,r1,r2,p⟩:=q
 unfold subD at p
 split at p
 ·simp only[Rep] at r1 r2
  exact⟨_,_,r1,r2,Post.ret (Ra:=Rep G) sr (by simp[Rep]) p⟩
 ·exact p.elim
theorem RepL.rep {w:Wd} {ds:List D} {vs:List V} (h:RepL G w ds vs):∀k:Nat,RepL G w (List.replicate k ds).flatten (List.replicate k vs).flatten
 |0=>by simp[RepL]
 |k+1=>by
  simp only[List.replicate_succ,List.flatten_cons]
  exact h.append (RepL.rep h k)
theorem o_mul:OpR X (binaryOp .Mult) (r2 G mulD):=by
 refine opI2 ((op_mul.or op_mulW).or (op_rep.or op_repS)) fun x y H Q q=> ?_
 obtain⟨w,d1,d2,rfl,sr,r1,r2,p⟩:=q
 unfold mulD at p
 split at p
 ·simp only[Rep] at r1 r2
  split at p
  ·rename_i hz
   rcases of_decide_eq_true hz with hz|hz
   ·exact .inl (.inl ⟨_,_,r1,r2,(by unfold CMul;exact hz),Post.ret (Ra:=Rep G) sr (by simp[Rep]) p⟩)
   ·exact .inl (.inr ⟨_,_,r1,r2,hz,Post.ret (Ra:=Rep G) sr (by simp[Rep]) p⟩)
  ·exact p.elim
 ·simp only[Rep] at r1 r2
  split at p
  ·rename_i hz
   exact .inr (.inr ⟨_,_,r1,r2,hz.1,hz.2.1,hz.2.2,Post.ret (Ra:=Rep G) sr (by simp[Rep]) p⟩)
  ·exact p.elim
 ·split at p
  ·rename_i l hl
   split at p
   ·rename_i hz
    obtain⟨a,vs,rfl,e1,q1⟩:=asL_rep sr r1 hl
    simp only[Rep] at r2
    refine .inr (.inl ⟨a,_,vs,rfl,r2,e1,hz.1,hz.2.1,by rw[q1.length];exact hz.2.2,fun p' hp'=>new_lst (S:=w.S) sr (q1.rep _) p p' hp'⟩)
   ·exact p.elim
  ·exact p.elim
 ·exact p.elim
theorem o_fdiv:OpR X (binaryOp .FloorDiv) (r2 G fdivD):=by
 refine opI2 op_fdivW fun x y H Q q=> ?_
 obtain⟨w,d1,d2,rfl,sr,r1,r2,p⟩:=q
 unfold fdivD at p
 split at p
 ·simp only[Rep] at r1 r2
  split at p
  ·rename_i hz
   exact⟨_,_,r1,r2,hz,Post.ret (Ra:=Rep G) sr (by simp[Rep]) p⟩
  ·exact p.elim
 ·exact p.elim
theorem o_mod:OpR X (binaryOp .Mod) (r2 G modD):=by
 refine opI2 op_mod fun x y H Q q=> ?_
 obtain⟨w,d1,d2,rfl,sr,r1,r2,p⟩:=q
 unfold modD at p
 split at p
 ·simp only[Rep] at r1 r2
  split at p
  ·rename_i hz
   exact⟨_,_,r1,r2,hz,Post.ret (Ra:=Rep G) sr (by simp[Rep]) p⟩
  ·exact p.elim
 ·exact p.elim
theorem o_pow:OpR X (binaryOp .Pow) (r2 G powD):=by
 refine opI2 (opI (C:=fun i j=>0≤j∧(Builtin.Int.intBits i:Int)*j≤2 ^ 27) (g:=fun i j=>i ^ j.toNat) fun _ _ _ _ _ _ _ hc q=>pow_int hc.1 hc.2 q) fun x y H Q q=> ?_
 obtain⟨w,d1,d2,rfl,sr,r1,r2,p⟩:=q
 unfold powD at p
 split at p
 ·simp only[Rep] at r1 r2
  split at p
  ·rename_i hz
   exact⟨_,_,r1,r2,hz,Post.ret (Ra:=Rep G) sr (by simp[Rep]) p⟩
  ·exact p.elim
 ·exact p.elim
theorem o_neg:UnR X (unaryOp .USub) (r1 G negD):=by
 refine unI2 un_neg fun x H Q q=> ?_
 obtain⟨w,d1,rfl,sr,r1,p⟩:=q
 unfold negD at p
 split at p
 ·simp only[Rep] at r1
  exact⟨_,r1,Post.ret (Ra:=Rep G) sr (by simp[Rep]) p⟩
 ·exact p.elim
end
def ltD:F2:=fun x y S=>match x,y with
 | .int i, .int j=> .ok (.bl (decide (i<j))) S
 | .str a, .str b=> .ok (.bl (decide (a.cps.toList<b.cps.toList))) S
 | _,_=> .bad
def leD:F2:=fun x y S=>match x,y with
 | .int i, .int j=> .ok (.bl (decide (i≤j))) S
 | .str a, .str b=> .ok (.bl (!decide (b.cps.toList<a.cps.toList))) S
 | _,_=> .bad
def gtD:F2:=fun x y S=>match x,y with
 | .int i, .int j=> .ok (.bl (decide (j<i))) S
 | .str a, .str b=> .ok (.bl (decide (b.cps.toList<a.cps.toList))) S
 | _,_=> .bad
def geD:F2:=fun x y S=>match x,y with
 | .int i, .int j=> .ok (.bl (decide (j≤i))) S
 | .str a, .str b=> .ok (.bl (!decide (a.cps.toList<b.cps.toList))) S
 | _,_=> .bad
section
variable {G:GC} {X:Cx}
theorem c_lt:Calm2 ltD:=fun x y S=>by unfold ltD;repeat' split
                                      all_goals trivial
theorem c_le:Calm2 leD:=fun x y S=>by unfold leD;repeat' split
                                      all_goals trivial
theorem c_gt:Calm2 gtD:=fun x y S=>by unfold gtD;repeat' split
                                      all_goals trivial
theorem c_ge:Calm2 geD:=fun x y S=>by unfold geD;repeat' split
                                      all_goals trivial
theorem o_lt:OpR X (compareOp .Lt) (r2 G ltD):=by
 refine opI2 (op_lt.or L2.op_lt_str) fun x y H Q q=> ?_
 obtain⟨w,d1,d2,rfl,sr,r1,r2,p⟩:=q
 unfold ltD at p
 split at p
 ·simp only[Rep] at r1 r2
  exact .inl ⟨_,_,r1,r2,Post.ret (Ra:=Rep G) sr (by simp[Rep]) p⟩
 ·simp only[Rep] at r1 r2
  exact .inr ⟨_,_,r1,r2,Post.ret (Ra:=Rep G) sr (by simp[Rep]) p⟩
 ·exact p.elim
theorem o_le:OpR X (compareOp .LtE) (r2 G leD):=by
 refine opI2 (op_le.or L2.op_le_str) fun x y H Q q=> ?_
 obtain⟨w,d1,d2,rfl,sr,r1,r2,p⟩:=q
 unfold leD at p
 split at p
 ·simp only[Rep] at r1 r2
  exact .inl ⟨_,_,r1,r2,Post.ret (Ra:=Rep G) sr (by simp[Rep]) p⟩
 ·simp only[Rep] at r1 r2
  exact .inr ⟨_,_,r1,r2,Post.ret (Ra:=Rep G) sr (by simp[Rep]) p⟩
 ·exact p.elim
theorem o_gt:OpR X (compareOp .Gt) (r2 G gtD):=by
 refine opI2 (op_gt.or L2.op_gt_str) fun x y H Q q=> ?_
 obtain⟨w,d1,d2,rfl,sr,r1,r2,p⟩:=q
 unfold gtD at p
 split at p
 ·simp only[Rep] at r1 r2
  exact .inl ⟨_,_,r1,r2,Post.ret (Ra:=Rep G) sr (by simp[Rep]) p⟩
 ·simp only[Rep] at r1 r2
  exact .inr ⟨_,_,r1,r2,Post.ret (Ra:=Rep G) sr (by simp[Rep]) p⟩
 ·exact p.elim
theorem o_ge:OpR X (compareOp .GtE) (r2 G geD):=by
 refine opI2 (op_ge.or L2.op_ge_str) fun x y H Q q=> ?_
 obtain⟨w,d1,d2,rfl,sr,r1,r2,p⟩:=q
 unfold geD at p
 split at p
 ·simp only[Rep] at r1 r2
  exact .inl ⟨_,_,r1,r2,Post.ret (Ra:=Rep G) sr (by simp[Rep]) p⟩
 ·simp only[Rep] at r1 r2
  exact .inr ⟨_,_,r1,r2,Post.ret (Ra:=Rep G) sr (by simp[Rep]) p⟩
 ·exact p.elim
end
mutual
def toPy:D→Option PyData
 | .non=>some .none
 | .bl b=>some (.bool b)
 | .int i=>some (.int i)
 | .str s=>if PyData.strOk s=true then some (.str s) else none
 | .tup l=>(toPyL l).map .tuple
 | .lst l=>(toPyL l).map .list
 | .dic _ _=>none
 | .obj _=>none
 | .glb _=>none
 | .wtp _=>none
 | .ty _=>none
 | .scr ns=>some (.list (ns.map .int))
 | .kd _ _=>none
 | .xcp _ _ _=>none
 | .lam _ _=>none
def toPyL:List D→Option (List PyData)
 | [] =>some []
 |d::ds=>match toPy d,toPyL ds with
  |some x,some xs=>some (x::xs)
  | _,_=>none
end
def deref (x:D) (S:Store):D:=match x with
 | .obj n=>match S[n]? with
   |some (.lst l)=> .lst l
   |some (.ptp l)=> .tup l
   | _=>x
 | _=>x
def eqD:F2:=fun x y S=>match x,y with
 | .str a, .str b=> .ok (.bl (a==b)) S
 | .tup l, .tup [] => .ok (.bl l.isEmpty) S
 |x,y=>match toPy (deref x S),toPy (deref y S) with
  |some a,some b=>if min a.depth b.depth≤64 then .ok (.bl (PyData.eqv a b)) S else .bad
  | _,_=> .bad
def neD:F2:=fun x y S=>match x,y with
 | .str a, .str b=> .ok (.bl (!(a==b))) S
 | .tup l, .tup [] => .ok (.bl (!l.isEmpty)) S
 |x,y=>match toPy (deref x S),toPy (deref y S) with
  |some a,some b=>if min a.depth b.depth≤64 then .ok (.bl (!PyData.eqv a b)) S else .bad
  | _,_=> .bad
theorem eqD_py {x y:D} {S:Store} {a b:PyData} (h1:toPy (deref x S)=some a) (h2:toPy (deref y S)=some b) (h:min a.depth b.depth≤64):eqD x y S= .ok (.bl (PyData.eqv a b)) S:=by
 unfold eqD
 split
 ·simp only[deref,toPy] at h1 h2
  split at h1<;>cases h1
  split at h2<;>cases h2
  simp[PyData.eqv]
 ·rename_i l
  simp only[deref,toPy,Option.map_eq_some_iff] at h1 h2
  obtain⟨xs,e1,rfl⟩:=h1
  obtain⟨ys,e2,rfl⟩:=h2
  cases e2
  cases l with
  |nil=>cases e1;simp[PyData.eqv,PyData.eqvAll]
  |cons d ds=>
   simp only[toPyL] at e1
   split at e1<;>cases e1
   simp[PyData.eqv,PyData.eqvAll]
 ·rw[h1,h2];simp only;rw[if_pos h]
theorem neD_py {x y:D} {S:Store} {a b:PyData} (h1:toPy (deref x S)=some a) (h2:toPy (deref y S)=some b) (h:min a.depth b.depth≤64):neD x y S= .ok (.bl (!PyData.eqv a b)) S:=by
 unfold neD
 split
 ·simp only[deref,toPy] at h1 h2
  split at h1<;>cases h1
  split at h2<;>cases h2
  simp[PyData.eqv]
 ·rename_i l
  simp only[deref,toPy,Option.map_eq_some_iff] at h1 h2
  obtain⟨xs,e1,rfl⟩:=h1
  obtain⟨ys,e2,rfl⟩:=h2
  cases e2
  cases l with
  |nil=>cases e1;simp[PyData.eqv,PyData.eqvAll]
  |cons d ds=>
   simp only[toPyL] at e1
   split at e1<;>cases e1
   simp[PyData.eqv,PyData.eqvAll]
 ·rw[h1,h2];simp only;rw[if_pos h]
section
variable {G:GC} {X:Cx} {w:Wd}
theorem c_eq:Calm2 eqD:=fun x y S=>by unfold eqD;repeat' split
                                      all_goals trivial
theorem c_ne:Calm2 neD:=fun x y S=>by unfold neD;repeat' split
                                      all_goals trivial
theorem dpI:∀(ns:List Int),DpAll G.K w.H (ns.map V.int) (ns.map PyData.int)
 | [] => .nil
 |n::ns=> .cons (.int n) (dpI ns)
mutual
theorem dp_of:∀(d:D) (v:V) (x:PyData),Rep G w d v→toPy d=some x→Dp G.K w.H v x∧x.canLay0=true
 | .non,v,x,r,e=>by simp only[Rep] at r;cases e;subst r;exact⟨.non,rfl⟩
 | .bl b,v,x,r,e=>by simp only[Rep] at r;cases e;subst r;exact⟨.bl b,rfl⟩
 | .int i,v,x,r,e=>by simp only[Rep] at r;cases e;subst r;exact⟨.int i,rfl⟩
 | .str s,v,x,r,e=>by
   simp only[Rep] at r
   simp only[toPy] at e
   split at e
   ·rename_i h
    cases e;subst r;exact⟨.str s,h⟩
   ·cases e
 | .tup l,v,x,r,e=>by
   simp only[Rep] at r
   obtain⟨a,vs,rfl,h1,h2⟩:=r
   simp only[toPy,Option.map_eq_some_iff] at e
   obtain⟨xs,e1,rfl⟩:=e
   obtain⟨q1,q2⟩:=dpL_of l vs xs h2 e1
   exact⟨.tup (SqT_of h1) q1,by simpa[PyData.canLay0] using q2⟩
 | .lst l,v,x,r,e=>by
   simp only[Rep] at r
   obtain⟨a,vs,rfl,h1,_,h2⟩:=r
   simp only[toPy,Option.map_eq_some_iff] at e
   obtain⟨xs,e1,rfl⟩:=e
   obtain⟨q1,q2⟩:=dpL_of l vs xs h2 e1
   exact⟨.lst (SqL.of h1) q1,by simpa[PyData.canLay0] using q2⟩
 | .dic _ _,_,_,_,e=>by simp[toPy] at e
 | .obj _,_,_,_,e=>by simp[toPy] at e
 | .glb _,_,_,_,e=>by simp[toPy] at e
 | .wtp _,_,_,_,e=>by simp[toPy] at e
 | .ty _,_,_,_,e=>by simp[toPy] at e
 | .kd _ _,_,_,_,e=>by simp[toPy] at e
 | .xcp _ _ _,_,_,_,e=>by simp[toPy] at e
 | .lam _ _,_,_,_,e=>by simp[toPy] at e
 | .scr ns,v,x,r,e=>by
   simp only[Rep] at r
   obtain⟨a,rfl,h1⟩:=r
   simp only[toPy,Option.some.injEq] at e
   subst e
   refine⟨.lst (h1.imp (fun z=>z.1) id) (dpI ns),?_⟩
   simp only[PyData.canLay0]
   exact PyProof.Rows.canLayAll_ints ns
theorem dpL_of:∀(ds:List D) (vs:List V) (xs:List PyData),RepL G w ds vs→toPyL ds=some xs→DpAll G.K w.H vs xs∧PyData.canLayAll0 xs=true
 | [],vs,xs,r,e=>by simp only[RepL] at r;simp only[toPyL,Option.some.injEq] at e;subst r e;exact⟨.nil,rfl⟩
 |d::ds,vs,xs,r,e=>by
  simp only[RepL] at r
  obtain⟨v,r',rfl,h1,h2⟩:=r
  simp only[toPyL] at e
  split at e
  ·rename_i x xs' e1 e2
   cases e
   obtain⟨q1,q2⟩:=dp_of d v x h1 e1
   obtain⟨q3,q4⟩:=dpL_of ds r' xs' h2 e2
   exact⟨.cons q1 q3,by simp[PyData.canLayAll0,q2,q4]⟩
  ·cases e
end
theorem deref_rep {x:D} {v:V} (sr:SRep G w) (r:Rep G w x v) {y:PyData} (e:toPy (deref x w.S)=some y):Dp G.K w.H v y∧y.canLay0=true:=by
 cases x with
 |obj n=>
  unfold deref at e
  cases hn:w.S[n]? with
  |none=>simp[hn,toPy] at e
  |some o=>
   cases o with
   |lst l=>
    simp only[hn] at e
    obtain⟨a,vs,rfl,h1,h2⟩:=asL_rep (l:=l) sr r (by simp[asL,hn])
    simp only[toPy,Option.map_eq_some_iff] at e
    obtain⟨xs,e1,rfl⟩:=e
    obtain⟨q1,q2⟩:=dpL_of l vs xs h2 e1
    exact⟨.lst (SqL.of h1) q1,by simpa[PyData.canLay0] using q2⟩
   |ptp l=>
    simp only[hn] at e
    simp only[Rep] at r
    obtain⟨a,hm,rfl⟩:=r
    obtain⟨o,vs,⟨h1,_⟩,_,h2⟩:=sr.obj n _ a hn hm
    simp only[toPy,Option.map_eq_some_iff] at e
    obtain⟨xs,e1,rfl⟩:=e
    obtain⟨q1,q2⟩:=dpL_of l vs xs h2 e1
    exact⟨.tup (.inl (.inr ⟨o,h1⟩)) q1,by simpa[PyData.canLay0] using q2⟩
   | _=>simp[hn,toPy] at e
 | _=>exact dp_of _ v y r e
end
end L3
namespace L3
open PySem PySem.Spec PyProof.Rows L2
section
variable {G:GC} {X:Cx}
theorem o_eq (hK:X.K=G.K) (hu:X.A.units+64<cLine):OpR X (compareOp .Eq) (r2 G eqD):=by
 intro pins s σ H x y v u Q I rx ry q
 obtain⟨w,d1,d2,rfl,sr,r1,r2,p⟩:=q
 unfold eqD at p
 split at p
 ·simp only[Rep] at r1 r2
  subst r1 r2
  exact L2.op_eq pins s σ w.H _ _ v u Q I rx ry ⟨rfl,by rw[L2.dec_str];exact Post.ret (Ra:=Rep G) sr (by simp[Rep]) p⟩
 ·rename_i l
  simp only[Rep,RepL] at r1 r2
  obtain⟨a,vs,rfl,h1,l1⟩:=r1
  obtain⟨b,us,rfl,h2,rfl⟩:=r2
  cases rx
  cases ry
  obtain⟨its,rv,tp,_⟩:=I.tuple (xs:=vs) (by rw[hK];exact SqT_of h1)
  obtain⟨its2,rv2,tp2,_⟩:=I.tuple (xs:= []) (by rw[hK];exact SqT_of h2)
  cases rv2
  have hl:=rv.length
  have hl2:=l1.length
  refine SeqAt.RcAt.tuples (e:=fun _=>true) tp tp2 (by omega) (fun j h1 h2=>absurd h2 (by simp)) X.prog X.w X.xe (EP X pins σ Q) ?_
  refine⟨.bl _,w.H,I,rfl,?_⟩
  have e:((List.range (min its.toArray.size ([] :List Value).toArray.size)).all (fun _=>true)&&its.toArray.size==([] :List Value).toArray.size)=l.isEmpty:=by
   simp only[List.size_toArray,List.length_nil,Nat.min_zero,List.range_zero,List.all_nil,Bool.true_and]
   rw[← hl,hl2]
   cases l<;>rfl
  rw[e]
  exact Post.ret (Ra:=Rep G) sr (by simp[Rep]) p
 ·split at p
  ·rename_i a b h1 h2
   split at p
   ·rename_i hm
    obtain⟨p1,c1⟩:=deref_rep sr r1 h1
    obtain⟨p2,c2⟩:=deref_rep sr r2 h2
    rw[← hK] at p1 p2
    obtain⟨as,q1⟩:=Dp.reads I a x v p1 rx
    obtain⟨bs,q2⟩:=Dp.reads I b y u p2 ry
    exact SeqAt.compareEq_reads q1 q2 c1 c2 (by omega) ⟨.bl _,w.H,I,rfl,Post.ret (Ra:=Rep G) sr (by simp[Rep]) p⟩
   ·exact p.elim
  ·exact p.elim
theorem o_ne (hK:X.K=G.K) (hu:X.A.units+64<cLine):OpR X (compareOp .NotEq) (r2 G neD):=by
 intro pins s σ H x y v u Q I rx ry q
 obtain⟨w,d1,d2,rfl,sr,r1,r2,p⟩:=q
 unfold neD at p
 split at p
 ·simp only[Rep] at r1 r2
  subst r1 r2
  exact L2.op_ne pins s σ w.H _ _ v u Q I rx ry ⟨rfl,by rw[L2.dec_str];exact Post.ret (Ra:=Rep G) sr (by simp[Rep]) p⟩
 ·rename_i l
  simp only[Rep,RepL] at r1 r2
  obtain⟨a,vs,rfl,h1,l1⟩:=r1
  obtain⟨b,us,rfl,h2,rfl⟩:=r2
  cases rx
  cases ry
  obtain⟨its,rv,tp,_⟩:=I.tuple (xs:=vs) (by rw[hK];exact SqT_of h1)
  obtain⟨its2,rv2,tp2,_⟩:=I.tuple (xs:= []) (by rw[hK];exact SqT_of h2)
  cases rv2
  have hl:=rv.length
  have hl2:=l1.length
  refine SeqAt.RcNeAt.tuples (e:=fun _=>true) tp tp2 (by omega) (fun j h1 h2=>absurd h2 (by simp)) X.prog X.w X.xe (EP X pins σ Q) ?_
  refine⟨.bl _,w.H,I,rfl,?_⟩
  have e:((List.range (min its.toArray.size ([] :List Value).toArray.size)).all (fun _=>true)&&its.toArray.size==([] :List Value).toArray.size)=l.isEmpty:=by
   simp only[List.size_toArray,List.length_nil,Nat.min_zero,List.range_zero,List.all_nil,Bool.true_and]
   rw[← hl,hl2]
   cases l<;>rfl
  rw[e]
  exact Post.ret (Ra:=Rep G) sr (by simp[Rep]) p
 ·split at p
  ·rename_i a b h1 h2
   split at p
   ·rename_i hm
    obtain⟨p1,c1⟩:=deref_rep sr r1 h1
    obtain⟨p2,c2⟩:=deref_rep sr r2 h2
    rw[← hK] at p1 p2
    obtain⟨as,q1⟩:=Dp.reads I a x v p1 rx
    obtain⟨bs,q2⟩:=Dp.reads I b y u p2 ry
    exact SeqAt.compareNe_reads q1 q2 c1 c2 (by omega) ⟨.bl _,w.H,I,rfl,Post.ret (Ra:=Rep G) sr (by simp[Rep]) p⟩
   ·exact p.elim
  ·exact p.elim
def kdAt:List Str→List D→Str→Option D
 |k::ks,d::ds,z=>if z=k then some d else kdAt ks ds z
 | _,_,_=>none
def keyOf:D→Option Key
 | .int i=>some (.inl i)
 | .str s=>some (.inr s)
 | _=>none
def tkOf:D→Option (List Key)
 | .tup l=>if plc l=true then some (l.filterMap keyOf) else none
 | _=>none
def dGet {κ :Type} [DecidableEq κ] (kvs:List (κ × D)) (k: κ):Option D:=(kvs.find? fun kv=>decide (kv.1=k)).map (·.2)
def memData (x:Option PyData) (y:Option PyData):Option Bool:=match x,y with
 |some a,some (.list xs)=>if a.depth≤64 then some (xs.any fun z=>PyData.eqv z a) else none
 |some a,some (.tuple xs)=>if a.depth≤64 then some (xs.any fun z=>PyData.eqv z a) else none
 | _,_=>none
def memKey (x:D) (kvs:List (Key × D)):Option Bool:=match keyOf x with
 |some k=>some (dGet kvs k).isSome
 |none=>none
def memT (x:D) (kvs:List (List Key × D)):Option Bool:=match tkOf x with
 |some k=>some (dGet kvs k).isSome
 |none=>none
def memStr (x:D) (z:Str):Option Bool:=match x with
 | .str c=>if c.cps.size=1 then some (decide (c.cps.getD 0 0 ∈ z.cps.toList)) else none
 | _=>none
def memKd (x:D) (ks:List Str) (l:List D):Option Bool:=match x with
 | .str z=>some (kdAt ks l z).isSome
 | _=>none
def memD (x y:D) (S:Store):Option Bool:=match y with
 | .str z=>memStr x z
 | .kd ks l=>memKd x ks l
 | .dic ks l=>memKey x (ks.zip l)
 | .tup l=>memData (toPy x) (toPy (.tup l))
 | .lst l=>memData (toPy x) (toPy (.lst l))
 | .obj n=>match S[n]? with
   |some (.lst l)=>memData (toPy x) (toPy (.lst l))
   |some (.ptp l)=>memData (toPy x) (toPy (.tup l))
   |some (.dK kvs)=>memKey x kvs
   |some (.dT kvs)=>memT x kvs
   | _=>none
 | _=>none
def inD:F2:=fun x y S=>match memD x y S with
 |some b=> .ok (.bl b) S
 |none=> .bad
def notInD:F2:=fun x y S=>match memD x y S with
 |some b=> .ok (.bl (!b)) S
 |none=> .bad
theorem c_in:Calm2 inD:=fun x y S=>by unfold inD;split<;>trivial
theorem c_notIn:Calm2 notInD:=fun x y S=>by unfold notInD;split<;>trivial
theorem str1 {c:Str} (h:c.cps.size=1):c=⟨#[c.cps.getD 0 0]⟩:=by
 obtain⟨⟨l⟩⟩:=c
 match l,h with
 | [a],_=>rfl
theorem kdAt_look {w:Wd} :∀ {ks:List Str} {l:List D} {vs:List V} {us:List Value} (z:Str),ks.length=l.length→Vals vs us→RepL G w l vs→
 (match kdAt ks l z with
   |some d=>∃v u,(ks.zip us).lookup z=some u∧RelV v u∧Rep G w d v
   |none=>(ks.zip us).lookup z=none)
 | [],[],vs,us,z,_,r,h=>by simp[kdAt]
 |k::ks,d::ds,vs,us,z,hl,r,h=>by
  simp only[RepL] at h
  obtain⟨v,r',rfl,h1,h2⟩:=h
  cases r with
  |cons ru rr=>
   rename_i u us'
   unfold kdAt
   by_cases e:z=k
   ·subst e
    rw[if_pos rfl]
    exact⟨v,u,by simp[List.lookup],ru,h1⟩
   ·rw[if_neg e]
    have:=kdAt_look z (by simpa using hl) rr h2
    have e2:((k::ks).zip (u::us')).lookup z=(ks.zip us').lookup z:=by
     simp only[List.zip_cons_cons,List.lookup]
     have:(z==k)=false:=by simpa using e
     rw[this]
    rw[e2]
    exact this
theorem dGet_rep {κ :Type} [DecidableEq κ] {w:Wd} :∀ {kvs:List (κ × D)} {vs:List (κ × V)} (k: κ),RepKV G w kvs vs→
 (match dGet kvs k with
   |some d=>∃v,valV vs k=some v∧Rep G w d v
   |none=>valV vs k=none)
 | [],vs,k,h=>by
   have:vs= [] :=h
   subst this;rfl
 |p::r,vs,k,h=>by
  obtain⟨v,y,rfl,h1,h2⟩:=h
  have ih:=dGet_rep k h2
  by_cases e:p.1=k
  ·have e1:dGet (p::r) k=some p.2:=by simp[dGet,List.find?_cons,e]
   rw[e1,L2.valV_pos (p:=(p.1,v)) e]
   exact⟨v,rfl,h1⟩
  ·have e1:dGet (p::r) k=dGet r k:=by simp[dGet,List.find?_cons,e]
   rw[e1,L2.valV_neg (p:=(p.1,v)) e]
   exact ih
theorem zip_kv {κ :Type} {w:Wd} :∀ {ks:List κ} {l:List D} {vs:List V},ks.length=l.length→RepL G w l vs→RepKV G w (ks.zip l) (ks.zip vs)
 | [],[],vs,_,h=>by simp only[RepL] at h;subst h;rfl
 |k::ks,d::ds,vs,hl,h=>by
  simp only[RepL] at h
  obtain⟨v,r,rfl,h1,h2⟩:=h
  exact⟨v,_,rfl,h1,zip_kv (by simpa using hl) h2⟩
theorem keyOf_rep {w:Wd} {d:D} {v:V} {k:Key} (r:Rep G w d v) (e:keyOf d=some k):v=kV k:=by
 cases d with
 |int i=>cases e;simp only[Rep] at r;exact r
 |str s=>cases e;simp only[Rep] at r;exact r
 | _=>cases e
theorem plc_vals {w:Wd} :∀ {l:List D} {vs:List V},plc l=true→RepL G w l vs→vs=(l.filterMap keyOf).map kV
 | [],vs,_,h=>by simp only[RepL] at h;subst h;rfl
 |d::l,vs,hp,h=>by
  simp only[RepL] at h
  obtain⟨v,r,rfl,h1,h2⟩:=h
  simp only[plc,List.all_cons,Bool.and_eq_true] at hp
  have ih:=plc_vals (l:=l) (by simpa[plc] using hp.2) h2
  cases d with
  |int i=>
   simp only[Rep] at h1
   subst h1
   rw[ih];rfl
  | _=>exact absurd hp.1 (by simp[isIt])
theorem tk_rep {w:Wd} {d:D} {v:V} {k:List Key} (r:Rep G w d v) (e:tkOf d=some k):∃b,v= .ref b∧w.H b=some (.tup (k.map kV))∧¬Mut w b:=by
 cases d with
 |tup l=>
  simp only[tkOf] at e
  split at e
  ·rename_i hp
   cases e
   simp only[Rep] at r
   obtain⟨a,vs,rfl,h|h,rl⟩:=r
   ·rw[plc_vals hp rl] at h
    exact⟨a,rfl,h.1,h.2⟩
   ·rw[hp] at h;cases h.2
  ·cases e
 | _=>cases e
theorem mem_ok (hK:X.K=G.K) (hw:X.w=G.w) (hu:X.A.units+65<cLine) {neg:Bool} {op:CmpOp} (ho:op=if neg then .NotIn else .In) {pins:List (Addr × Obj)} {s:Shared} {σ :L2.St} {w:Wd} {x y:V} {v u:Value} {Q:VK} {d1 d2:D} {b:Bool}
 (I:Inv X pins σ w.H s) (rx:RelV x v) (ry:RelV y u) (sr:SRep G w) (r1:Rep G w d1 x) (r2:Rep G w d2 y) (e:memD d1 d2 w.S=some b) (q:Q (.bl (if neg then !b else b)) w.H):
 wpAny (model X.prog X.w) X.A (compareOp op v u) (EP X pins σ Q) X.xe s:=by
 have data:∀ {a:PyData} {xs:List PyData} {isL:Bool},toPy d1=some a→toPy (deref d2 w.S)=some (if isL then .list xs else .tuple xs)→a.depth≤64→b=(xs.any fun z=>PyData.eqv z a)→
  wpAny (model X.prog X.w) X.A (compareOp op v u) (EP X pins σ Q) X.xe s:=fun {a xs isL} h1 h2 hd hb=>by
  obtain⟨p1,c1⟩:=dp_of d1 x a r1 h1
  obtain⟨p2,c2⟩:=deref_rep sr r2 h2
  rw[← hK] at p1 p2
  obtain⟨as,q1⟩:=Dp.reads I a x v p1 rx
  obtain⟨bs,q2⟩:=Dp.reads I _ y u p2 ry
  have room:X.A.units+1+min (PyData.depthAll xs) a.depth<cLine:=by omega
  subst hb
  cases isL<;>cases neg<;>simp only[if_true,Bool.false_eq_true,if_false,PyData.canLay0] at q2 c2 ho q<;>subst ho
  ·exact SeqAt.in_tuple_reads q2 q1 c2 c1 room ⟨.bl _,w.H,I,rfl,q⟩
  ·exact SeqAt.notIn_tuple_reads q2 q1 c2 c1 room ⟨.bl _,w.H,I,rfl,q⟩
  ·exact SeqAt.in_list_reads q2 q1 c2 c1 room ⟨.bl _,w.H,I,rfl,q⟩
  ·exact SeqAt.notIn_list_reads q2 q1 c2 c1 room ⟨.bl _,w.H,I,rfl,q⟩
 have dK:∀ {a:Addr} {kvs:List (Key × D)} {vs:List (Key × V)} {k:Key},y= .ref a→w.H a=some (.dK vs)→RepKV G w kvs vs→keyOf d1=some k→b=(dGet kvs k).isSome→wpAny (model X.prog X.w) X.A (compareOp op v u) (EP X pins σ Q) X.xe s:=fun {a kvs vs k} ey h1 h2 hk hb=>by
  subst ey
  cases ry
  have ex:=keyOf_rep r1 hk
  subst ex
  have g:DGet w.H a (kV k) (valV vs k):=DGet.k h1
  have eb:(valV vs k).isSome=b:=by
   have:=dGet_rep k h2
   rw[hb]
   cases hg:dGet kvs k with
   |none=>rw[hg] at this;simp only at this;rw[this];rfl
   |some d=>rw[hg] at this;simp only at this;obtain⟨z,e1,_⟩:=this;rw[e1];rfl
  cases neg<;>simp only[if_true,Bool.false_eq_true,if_false] at ho q<;>subst ho
  ·exact L2.d_in (by omega) I g rx fun s' I'=>⟨.bl _,w.H,I',rfl,by rw[eb];exact q⟩
  ·exact L2.d_notIn (by omega) I g rx fun s' I'=>⟨.bl _,w.H,I',rfl,by rw[eb];exact q⟩
 have data':∀ {l:List D} {isL:Bool},(if isL then(toPy (.lst l)) else toPy (.tup l))=toPy (deref d2 w.S)→memData (toPy d1) (if isL then(toPy (.lst l)) else toPy (.tup l))=some b→wpAny (model X.prog X.w) X.A (compareOp op v u) (EP X pins σ Q) X.xe s:=fun {l isL} h e=>by
  rw[h] at e
  unfold memData at e
  split at e
  ·rename_i a xs h1 h2
   split at e
   ·cases e;exact data (isL:=true) h1 h2 (by assumption) rfl
   ·cases e
  ·rename_i a xs h1 h2
   split at e
   ·cases e;exact data (isL:=false) h1 h2 (by assumption) rfl
   ·cases e
  ·cases e
 cases d2 with
 |str z=>
  simp only[memD,memStr] at e
  split at e
  ·split at e
   ·rename_i c hc
    simp only[Rep] at r1 r2
    subst r1 r2
    cases e
    cases neg<;>simp only[if_true,Bool.false_eq_true,if_false] at ho q<;>subst ho
    ·exact L2.op_in_sign pins s σ w.H _ _ v u Q I rx ry ⟨_,z,by rw[← str1 hc],rfl,q⟩
    ·exact L2.op_notIn_sign pins s σ w.H _ _ v u Q I rx ry ⟨_,z,by rw[← str1 hc],rfl,q⟩
   ·cases e
  ·cases e
 |kd ks l=>
  simp only[memD,memKd] at e
  split at e
  ·rename_i z
   simp only[Rep] at r1 r2
   subst r1
   obtain⟨a,es,n,vs,us,rfl,kd,hn,hl,rv,_,rl⟩:=r2
   cases e
   have look:=kdAt_look z hl rv rl
   have hb:((ks.zip us).lookup z).isSome=(kdAt ks l z).isSome:=by
    cases hk:kdAt ks l z with
    |none=>rw[hk] at look;simp only at look;rw[look];rfl
    |some d=>rw[hk] at look;simp only at look;obtain⟨_,u',e1,_⟩:=look;rw[e1];rfl
   rw[← hb] at q
   have kd':KDict X.K X.w a es n:=by rw[hK,hw];exact kd
   cases neg<;>simp only[if_true,Bool.false_eq_true,if_false] at ho q<;>subst ho
   ·exact L2.op_in_kd kd' pins s σ w.H _ _ v u Q I rx ry ⟨z,_,rfl,rfl,by rw[hK];exact hn z,q⟩
   ·exact L2.op_notIn_kd kd' pins s σ w.H _ _ v u Q I rx ry ⟨z,_,rfl,rfl,by rw[hK];exact hn z,q⟩
  ·cases e
 |dic ks l=>
  simp only[memD,memKey] at e
  split at e
  ·rename_i k hk
   simp only[Rep] at r2
   obtain⟨a,vs,rfl,h1,nm,hl,h2⟩:=r2
   cases e
   exact dK rfl h1 (zip_kv hl h2) hk rfl
  ·cases e
 |tup l=>exact data' (l:=l) (isL:=false) rfl e
 |lst l=>exact data' (l:=l) (isL:=true) rfl e
 |obj n=>
  simp only[memD] at e
  split at e
  ·rename_i l hn
   exact data' (l:=l) (isL:=true) (by simp[deref,hn]) e
  ·rename_i l hn
   exact data' (l:=l) (isL:=false) (by simp[deref,hn]) e
  ·rename_i kvs hn
   unfold memKey at e
   split at e
   ·rename_i k hk
    cases e
    simp only[Rep] at r2
    obtain⟨a,hm,rfl⟩:=r2
    obtain⟨vs,h1,h2⟩:=sr.obj n _ a hn hm
    exact dK rfl h1 h2 hk rfl
   ·cases e
  ·rename_i kvs hn
   unfold memT at e
   split at e
   ·rename_i k hk
    cases e
    simp only[Rep] at r2
    obtain⟨a,hm,rfl⟩:=r2
    obtain⟨vs,h1,h2⟩:=sr.obj n _ a hn hm
    cases ry
    obtain⟨bb,rfl,eb,_⟩:=tk_rep r1 hk
    have g:DGet w.H a (.ref bb) (valV vs k):=DGet.t h1 eb
    have eb':(valV vs k).isSome=(dGet kvs k).isSome:=by
     have:=dGet_rep k h2
     cases hg:dGet kvs k with
     |none=>rw[hg] at this;simp only at this;rw[this];rfl
     |some d=>rw[hg] at this;simp only at this;obtain⟨z,e1,_⟩:=this;rw[e1];rfl
    cases neg<;>simp only[if_true,Bool.false_eq_true,if_false] at ho q<;>subst ho
    ·exact L2.d_in (by omega) I g rx fun s' I'=>⟨.bl _,w.H,I',rfl,by rw[eb'];exact q⟩
    ·exact L2.d_notIn (by omega) I g rx fun s' I'=>⟨.bl _,w.H,I',rfl,by rw[eb'];exact q⟩
   ·cases e
  ·cases e
 | _=>simp[memD] at e
theorem o_in (hK:X.K=G.K) (hw:X.w=G.w) (hu:X.A.units+65<cLine):OpR X (compareOp .In) (r2 G inD):=by
 intro pins s σ H x y v u Q I rx ry q
 obtain⟨w,d1,d2,rfl,sr,r1,r2,p⟩:=q
 unfold inD at p
 split at p
 ·rename_i b e
  exact mem_ok (neg:=false) hK hw hu rfl I rx ry sr r1 r2 e (Post.ret (Ra:=Rep G) sr (by simp[Rep]) p)
 ·exact p.elim
theorem o_notIn (hK:X.K=G.K) (hw:X.w=G.w) (hu:X.A.units+65<cLine):OpR X (compareOp .NotIn) (r2 G notInD):=by
 intro pins s σ H x y v u Q I rx ry q
 obtain⟨w,d1,d2,rfl,sr,r1,r2,p⟩:=q
 unfold notInD at p
 split at p
 ·rename_i b e
  exact mem_ok (neg:=true) hK hw hu rfl I rx ry sr r1 r2 e (Post.ret (Ra:=Rep G) sr (by simp[Rep]) p)
 ·exact p.elim
end
end L3
namespace L3
open PySem PySem.Spec PyProof.Rows L2
def ixD:F2:=fun x y S=>match x with
 | .tup l=>match y with
   | .int i=>match atI l i with
     |some d=> .ok d S
     |none=> .bad
   | _=> .bad
 | .str z=>match y with
   | .int i=>if z.length≤sizeLine then match atI z.cps.toList i with
      |some c=> .ok (sgn c) S
      |none=> .bad
     else .bad
   | _=> .bad
 | .scr ns=>match y with
   | .int i=>match atI ns i with
     |some n=> .ok (.int n) S
     |none=> .bad
   | _=> .bad
 | .kd ks l=>match y with
   | .str z=>match kdAt ks l z with
     |some d=> .ok d S
     |none=> .bad
   | _=> .bad
 | .dic ks l=>match keyOf y with
   |some k=>match dGet (ks.zip l) k with
    |some d=> .ok d S
    |none=> .bad
   |none=> .bad
 | .lst l=>match y with
   | .int i=>match atI l i with
     |some d=> .ok d S
     |none=> .bad
   | _=> .bad
 | .obj n=>match S[n]? with
   |some (.lst l)=>match y with
    | .int i=>match atI l i with
      |some d=> .ok d S
      |none=> .bad
    | _=> .bad
   |some (.dK kvs)=>match keyOf y with
    |some k=>match dGet kvs k with
     |some d=> .ok d S
     |none=> .bad
    |none=> .bad
   |some (.dT kvs)=>match tkOf y with
    |some k=>match dGet kvs k with
     |some d=> .ok d S
     |none=> .bad
    |none=> .bad
   | _=> .bad
 | _=> .bad
section
variable {G:GC} {X:Cx} {w:Wd}
theorem c_ix:Calm2 ixD:=fun x y S=>by unfold ixD;repeat' split
                                      all_goals trivial
theorem RepL.at {l:List D} {vs:List V} {i:Int} {d:D} (r:RepL G w l vs) (e:atI l i=some d):∃v,atI vs i=some v∧Rep G w d v:=by
 unfold atI at e ⊢
 rw[r.length]
 cases h:ixN l.length i with
 |none=>rw[h] at e;cases e
 |some j=>
  rw[h] at e
  exact r.get e
theorem ix_dk (hu:X.A.units+1<cLine):IxR X (fun x y H Q=>∃a v,x= .ref a∧DGet H a y (some v)∧Q v H):=by
 intro value slice pins s σ H x y v u Q I rx ry h hs
 obtain⟨a,z,rfl,g,q⟩:=h
 cases rx
 exact tail_any (dict_typeIs I g) PySem.F.slot_dict_getitem.lookup (d_getItem hu I g ry fun w' s' I' r'=>⟨z,H,I',r',q⟩) hs
theorem o_ix (hK:X.K=G.K) (hw:X.w=G.w) (hu:X.A.units+1<cLine):IxR X (r2 G ixD):=by
 refine ixI2 ((ix_seq (X:=X)).or (ix_kdict.or (ix_dk hu))) fun x y H Q q=> ?_
 obtain⟨w,d1,d2,rfl,sr,r1,r2,p⟩:=q
 have dk:∀ {a:Addr} {kvs:List (Key × D)} {vs:List (Key × V)} {k:Key} {d:D},x= .ref a→w.H a=some (.dK vs)→RepKV G w kvs vs→keyOf d2=some k→dGet kvs k=some d→Post G w (.ok d w.S) (Rep G) Q (fun _ _ _=>False)→
  ∃a v,x=V.ref a∧DGet w.H a y (some v)∧Q v w.H:=fun {a kvs vs k d} ex h1 h2 hk hd p=>by
  have ey:=keyOf_rep r2 hk
  have:=dGet_rep k h2
  rw[hd] at this
  obtain⟨v,e1,e2⟩:=this
  exact⟨a,v,ex,by rw[ey,←e1];exact DGet.k h1,Post.ret sr e2 p⟩
 have lst:∀ {l:List D} {i:Int} {d:D},asL d1 w.S=some l→atI l i=some d→d2= .int i→Post G w (.ok d w.S) (Rep G) Q (fun _ _ _=>False)→rIx X.K x y w.H Q:=fun {l i d} h1 h2 h3 p'=>by
  subst h3
  simp only[Rep] at r2
  obtain⟨a,vs,rfl,e1,rl⟩:=asL_rep sr r1 h1
  obtain⟨v,e2,rv⟩:=rl.at h2
  exact .inl ⟨a,vs,i,v,rfl,r2,SqL.of e1,e2,Post.ret sr rv p'⟩
 cases d1 with
 |tup l=>
  simp only[ixD] at p
  split at p
  ·rename_i i
   split at p
   ·rename_i d hd
    simp only[Rep] at r1 r2
    obtain⟨a,vs,rfl,h1,rl⟩:=r1
    obtain⟨v,e2,rv⟩:=rl.at hd
    exact .inl (.inr (.inl ⟨a,vs,i,v,rfl,r2,by rw[hK];exact SqT_of h1,e2,Post.ret sr rv p⟩))
   ·exact p.elim
  ·exact p.elim
 |str z=>
  simp only[ixD] at p
  split at p
  ·rename_i i
   split at p
   ·rename_i hz
    split at p
    ·rename_i c hc
     simp only[Rep] at r1 r2
     exact .inl (.inr (.inr ⟨z,i,c,r1,r2,hz,hc,Post.ret (Ra:=Rep G) sr (by simp[Rep,sgn]) p⟩))
    ·exact p.elim
   ·exact p.elim
  ·exact p.elim
 |scr ns=>
  simp only[ixD] at p
  split at p
  ·rename_i i
   split at p
   ·rename_i n hn
    simp only[Rep] at r1 r2
    obtain⟨a,rfl,h1⟩:=r1
    refine .inl (.inl ⟨a,ns.map V.int,i, .int n,rfl,r2,by rw[hK];exact h1.imp (fun z=>z.1) id,?_,Post.ret (Ra:=Rep G) sr (by simp[Rep]) p⟩)
    unfold atI at hn ⊢
    rw[List.length_map]
    cases h:ixN ns.length i with
    |none=>rw[h] at hn;cases hn
    |some j=>rw[h] at hn;simp only[Option.bind] at hn ⊢;rw[List.getElem?_map,hn];rfl
   ·exact p.elim
  ·exact p.elim
 |kd ks l=>
  simp only[ixD] at p
  split at p
  ·rename_i z
   split at p
   ·rename_i d hd
    simp only[Rep] at r1 r2
    obtain⟨a,es,n,vs,us,rfl,kd,hn,hl,rv,_,rl⟩:=r1
    have look:=kdAt_look z hl rv rl
    rw[hd] at look
    obtain⟨v,u,e1,e2,e3⟩:=look
    refine .inr (.inl ⟨a,z,v,rfl,r2,⟨es,n,u,by rw[hK];exact kd.at_,by rw[hw];exact kd.lit,by rw[hK,hn z,e1],e2⟩,Post.ret sr e3 p⟩)
   ·exact p.elim
  ·exact p.elim
 |dic ks l=>
  simp only[ixD] at p
  split at p
  ·rename_i k hk
   split at p
   ·rename_i d hd
    simp only[Rep] at r1
    obtain⟨a,vs,rfl,h1,nm,hl,h2⟩:=r1
    exact .inr (.inr (dk rfl h1 (zip_kv hl h2) hk hd p))
   ·exact p.elim
  ·exact p.elim
 |lst l=>
  simp only[ixD] at p
  split at p
  ·split at p
   ·rename_i d hd
    exact .inl (lst rfl hd rfl p)
   ·exact p.elim
  ·exact p.elim
 |obj n=>
  simp only[ixD] at p
  split at p
  ·rename_i l hn
   split at p
   ·split at p
    ·rename_i d hd
     exact .inl (lst (by simp[asL,hn]) hd rfl p)
    ·exact p.elim
   ·exact p.elim
  ·rename_i kvs hn
   split at p
   ·rename_i k hk
    split at p
    ·rename_i d hd
     simp only[Rep] at r1
     obtain⟨a,hm,rfl⟩:=r1
     obtain⟨vs,h1,h2⟩:=sr.obj n _ a hn hm
     exact .inr (.inr (dk rfl h1 h2 hk hd p))
    ·exact p.elim
   ·exact p.elim
  ·rename_i kvs hn
   split at p
   ·rename_i k hk
    split at p
    ·rename_i d hd
     simp only[Rep] at r1
     obtain⟨a,hm,rfl⟩:=r1
     obtain⟨vs,h1,h2⟩:=sr.obj n _ a hn hm
     obtain⟨bb,rfl,eb,_⟩:=tk_rep r2 hk
     have:=dGet_rep k h2
     rw[hd] at this
     obtain⟨v,e1,e2⟩:=this
     exact .inr (.inr ⟨a,v,rfl,by rw[← e1];exact DGet.t h1 eb,Post.ret sr e2 p⟩)
    ·exact p.elim
   ·exact p.elim
  ·exact p.elim
 | _=>exact p.elim
def tyD (x:D) (S:Store):Option String:=match x with
 | .non=>some "NoneType"
 | .bl _=>some "bool"
 | .int _=>some "int"
 | .str _=>some "str"
 | .tup _=>some "tuple"
 | .lst _=>some "list"
 | .dic _ _=>some "dict"
 | .kd _ _=>some "dict"
 | .obj n=>match S[n]? with
   |some (.lst _)=>some "list"
   |some (.dK _)=>some "dict"
   |some (.dT _)=>some "dict"
   | _=>none
 | _=>none
def isiD:FN:=fun xs S=>match xs with
 | [x, .ty T] =>match tyD x S with
   |some t=>match kitB t T with
    |some b=> .ok (.bl b) S
    |none=> .bad
   |none=> .bad
 | _=> .bad
theorem c_isi:CalmN isiD:=fun xs S=>by unfold isiD;repeat' split
                                       all_goals trivial
theorem tyx {x:D} {v:V} {t:String} (sr:SRep G w) (r:Rep G w x v) (e:tyD x w.S=some t):TyX G.K w.H v (.type t):=by
 cases x with
 |non=>simp only[Rep] at r;cases e;subst r;exact .base .non
 |bl b=>simp only[Rep] at r;cases e;subst r;exact .base (.bl b)
 |int i=>simp only[Rep] at r;cases e;subst r;exact .base (.int i)
 |str s=>simp only[Rep] at r;cases e;subst r;exact .base (.str s)
 |tup l=>
  simp only[Rep] at r
  cases e
  obtain⟨a,vs,rfl,h1,_⟩:=r
  rcases h1 with⟨h,_⟩|⟨⟨o,its,n,h,hc,_⟩,_⟩
  ·exact .base (.tup h)
  ·exact .kTuple h hc
 |lst l=>
  simp only[Rep] at r
  cases e
  obtain⟨a,vs,rfl,h1,_⟩:=r
  exact .base (.lst h1)
 |dic ks l=>
  simp only[Rep] at r
  cases e
  obtain⟨a,vs,rfl,h1,_⟩:=r
  exact .base (.dK h1)
 |kd ks l=>
  simp only[Rep] at r
  cases e
  obtain⟨a,es,n,vs,us,rfl,kd,_⟩:=r
  exact .kDict kd.at_ rfl
 |obj n=>
  simp only[Rep] at r
  obtain⟨a,hm,rfl⟩:=r
  simp only[tyD] at e
  split at e
  ·rename_i l hn
   cases e
   obtain⟨vs,h1,_⟩:=sr.obj n _ a hn hm
   exact .base (.lst h1)
  ·rename_i l hn
   cases e
   obtain⟨vs,h1,_⟩:=sr.obj n _ a hn hm
   exact .base (.dK h1)
  ·rename_i l hn
   cases e
   obtain⟨vs,h1,_⟩:=sr.obj n _ a hn hm
   exact .base (.dT h1)
  ·cases e
 | _=>cases e
theorem o_isi (hK:X.K=G.K):CallR X (.builtin "isinstance") (rN G isiD):=by
 refine caI2 call_isi fun xs H Q q=> ?_
 obtain⟨w,ds,rfl,sr,rl,p⟩:=q
 unfold isiD at p
 split at p
 ·rename_i x T
  split at p
  ·rename_i t ht
   split at p
   ·rename_i b hb
    simp only[RepL,Rep] at rl
    obtain⟨v,r',rfl,r1,v2,r'',rfl,rfl,rfl⟩:=rl
    exact⟨v, .ty T, .type t, .type T,b,rfl, .ty T,by rw[hK];exact tyx sr r1 ht,kit_ty hb,Post.ret (Ra:=Rep G) sr (by simp[Rep]) p⟩
   ·exact p.elim
  ·exact p.elim
 ·exact p.elim
def lenD:FN:=fun xs S=>match xs with
 | [.tup l] => .ok (.int l.length) S
 | [.str s] =>if s.length≤sizeLine then .ok (.int s.length) S else .bad
 | [.scr ns] => .ok (.int ns.length) S
 | [x] =>match asL x S with
   |some l=> .ok (.int l.length) S
   |none=> .bad
 | _=> .bad
theorem c_len:CalmN lenD:=fun xs S=>by unfold lenD;repeat' split
                                       all_goals trivial
theorem o_len (hK:X.K=G.K):CallR X (.builtin "len") (rN G lenD):=by
 refine caI2 call_len fun xs H Q q=> ?_
 obtain⟨w,ds,rfl,sr,rl,p⟩:=q
 unfold lenD at p
 split at p
 ·rename_i l
  simp only[RepL,Rep] at rl
  obtain⟨v,r',rfl,⟨a,vs,rfl,h1,r1⟩,rfl⟩:=rl
  exact⟨.ref a,l.length,rfl, .inr ⟨vs,by rw[hK];exact SqT_of h1,r1.length.symm⟩,Post.ret (Ra:=Rep G) sr (by simp[Rep]) p⟩
 ·split at p
  ·rename_i s hs
   simp only[RepL,Rep] at rl
   obtain⟨v,r',rfl,rfl,rfl⟩:=rl
   exact⟨.str s,s.length,rfl,⟨hs,rfl⟩,Post.ret (Ra:=Rep G) sr (by simp[Rep]) p⟩
  ·exact p.elim
 ·rename_i ns
  simp only[RepL,Rep] at rl
  obtain⟨v,r',rfl,⟨a,rfl,h1⟩,rfl⟩:=rl
  exact⟨.ref a,ns.length,rfl, .inl ⟨ns.map V.int,by rw[hK];exact h1.imp (fun z=>z.1) id,by simp⟩,Post.ret (Ra:=Rep G) sr (by simp[Rep]) p⟩
 ·split at p
  ·rename_i l hl
   simp only[RepL] at rl
   obtain⟨v,r',rfl,r1,rfl⟩:=rl
   obtain⟨a,vs,rfl,h1,r2⟩:=asL_rep sr r1 hl
   exact⟨.ref a,l.length,rfl, .inl ⟨vs,SqL.of h1,r2.length.symm⟩,Post.ret (Ra:=Rep G) sr (by simp[Rep]) p⟩
  ·exact p.elim
 ·exact p.elim
def allInts:List D→Option (List Int)
 | [] =>some []
 | .int b::r=>(allInts r).map (b:: ·)
 | _=>none
theorem allInts_rep:∀ {l:List D} {vs:List V} {bs:List Int},RepL G w l vs→allInts l=some bs→vs=bs.map V.int
 | [],vs,bs,r,e=>by simp only[RepL] at r;cases e;exact r
 |d::ds,vs,bs,r,e=>by
  simp only[RepL] at r
  obtain⟨v,r',rfl,h1,h2⟩:=r
  cases d with
  |int b=>
   simp only[allInts,Option.map_eq_some_iff] at e
   obtain⟨bs',e1,rfl⟩:=e
   simp only[Rep] at h1
   rw[h1,allInts_rep h2 e1]
   rfl
  | _=>simp[allInts] at e
def sumD:FN:=fun xs S=>match xs with
 | [x] =>match(asL x S).bind allInts with
   |some bs=> .ok (.int bs.sum) S
   |none=> .bad
 | _=> .bad
theorem c_sum:CalmN sumD:=fun xs S=>by unfold sumD;repeat' split
                                       all_goals trivial
theorem asL_allInts {x:D} {v:V} {bs:List Int} (sr:SRep G w) (r:Rep G w x v) (e:(asL x w.S).bind allInts=some bs):∃a,v= .ref a∧w.H a=some (.lst (bs.map V.int)):=by
 cases h:asL x w.S with
 |none=>rw[h] at e;cases e
 |some l=>
  rw[h] at e
  obtain⟨a,vs,rfl,h1,h2⟩:=asL_rep sr r h
  exact⟨a,rfl,by rw[h1,allInts_rep h2 e]⟩
theorem o_sum (hc:X.calm=true):CallR X (.builtin "sum") (rN G sumD):=by
 refine caI2 (cr_sum hc) fun xs H Q q=> ?_
 obtain⟨w,ds,rfl,sr,rl,p⟩:=q
 unfold sumD at p
 split at p
 ·split at p
  ·rename_i bs hb
   simp only[RepL] at rl
   obtain⟨v,r',rfl,r1,rfl⟩:=rl
   obtain⟨a,rfl,h⟩:=asL_allInts sr r1 hb
   exact⟨a,bs,rfl,SqL.of h,Post.ret (Ra:=Rep G) sr (by simp[Rep]) p⟩
  ·exact p.elim
 ·exact p.elim
def maxI:List Int→Option Int
 | [] =>none
 |n::ns=>some (ns.foldl (fun m x=>if x>m then x else m) n)
def minI:List Int→Option Int
 | [] =>none
 |n::ns=>some (ns.foldl (fun m x=>if x<m then x else m) n)
theorem fold_max:∀(ns:List Int) (n:Int),(ns.foldl (fun m x=>if x>m then x else m) n=n∨ns.foldl (fun m x=>if x>m then x else m) n ∈ ns)∧n≤ns.foldl (fun m x=>if x>m then x else m) n∧∀y ∈ ns,y≤ns.foldl (fun m x=>if x>m then x else m) n
 | [],n=>⟨.inl rfl,Int.le_refl _,fun y h=>by simp at h⟩
 |a::ns,n=>by
  obtain⟨m,hm⟩:∃m,m=if a>n then a else n:=⟨_,rfl⟩
  have hm':(n≤m∧a≤m)∧(m=a∨m=n):=by rw[hm];split<;>omega
  simp only[List.foldl_cons]
  rw[← hm]
  obtain⟨h1,h2,h3⟩:=fold_max ns m
  refine⟨?_,by omega,fun y hy=> ?_⟩
  ·rcases h1 with h1|h1
   ·rw[h1]
    rcases hm'.2 with e|e
    ·exact .inr (by simp[e])
    ·exact .inl e
   ·exact .inr (by simp[h1])
  ·rcases List.mem_cons.mp hy with e|hy
   ·subst e;omega
   ·exact h3 y hy
theorem fold_min:∀(ns:List Int) (n:Int),(ns.foldl (fun m x=>if x<m then x else m) n=n∨ns.foldl (fun m x=>if x<m then x else m) n ∈ ns)∧ns.foldl (fun m x=>if x<m then x else m) n≤n∧∀y ∈ ns,ns.foldl (fun m x=>if x<m then x else m) n≤y
 | [],n=>⟨.inl rfl,Int.le_refl _,fun y h=>by simp at h⟩
 |a::ns,n=>by
  obtain⟨m,hm⟩:∃m,m=if a<n then a else n:=⟨_,rfl⟩
  have hm':(m≤n∧m≤a)∧(m=a∨m=n):=by rw[hm];split<;>omega
  simp only[List.foldl_cons]
  rw[← hm]
  obtain⟨h1,h2,h3⟩:=fold_min ns m
  refine⟨?_,by omega,fun y hy=> ?_⟩
  ·rcases h1 with h1|h1
   ·rw[h1]
    rcases hm'.2 with e|e
    ·exact .inr (by simp[e])
    ·exact .inl e
   ·exact .inr (by simp[h1])
  ·rcases List.mem_cons.mp hy with e|hy
   ·subst e;omega
   ·exact h3 y hy
theorem maxI_eq {ns:List Int} {m k:Int} (h:maxI ns=some k) (h1:m ∈ ns) (h2:∀y ∈ ns,y≤m):m=k:=by
 cases ns with
 |nil=>cases h
 |cons n ns=>
  cases h
  obtain⟨a1,a2,a3⟩:=fold_max ns n
  have le1:ns.foldl (fun m x=>if x>m then x else m) n≤m:=by
   rcases a1 with e|e
   ·rw[e];exact h2 n (by simp)
   ·exact h2 _ (by simp[e])
  have le2:m≤ns.foldl (fun m x=>if x>m then x else m) n:=by
   rcases List.mem_cons.mp h1 with e|e
   ·rw[e];exact a2
   ·exact a3 m e
  omega
theorem minI_eq {ns:List Int} {m k:Int} (h:minI ns=some k) (h1:m ∈ ns) (h2:∀y ∈ ns,m≤y):m=k:=by
 cases ns with
 |nil=>cases h
 |cons n ns=>
  cases h
  obtain⟨a1,a2,a3⟩:=fold_min ns n
  have le1:m≤ns.foldl (fun m x=>if x<m then x else m) n:=by
   rcases a1 with e|e
   ·rw[e];exact h2 n (by simp)
   ·exact h2 _ (by simp[e])
  have le2:ns.foldl (fun m x=>if x<m then x else m) n≤m:=by
   rcases List.mem_cons.mp h1 with e|e
   ·rw[e];exact a2
   ·exact a3 m e
  omega
def maxD:FN:=fun xs S=>match xs with
 | [.int i, .int j] => .ok (.int (if j>i then j else i)) S
 | [x] =>match((asL x S).bind allInts).bind maxI with
   |some m=> .ok (.int m) S
   |none=> .bad
 | _=> .bad
def minD:FN:=fun xs S=>match xs with
 | [.int i, .int j] => .ok (.int (if j<i then j else i)) S
 | [x] =>match((asL x S).bind allInts).bind minI with
   |some m=> .ok (.int m) S
   |none=> .bad
 | _=> .bad
theorem c_max:CalmN maxD:=fun xs S=>by unfold maxD;repeat' split
                                       all_goals trivial
theorem c_min:CalmN minD:=fun xs S=>by unfold minD;repeat' split
                                       all_goals trivial
theorem o_max (hc:X.calm=true):CallR X (.builtin "max") (rN G maxD):=by
 refine caI2 ((call_max2 hc).or (cr_max hc)) fun xs H Q q=> ?_
 obtain⟨w,ds,rfl,sr,rl,p⟩:=q
 unfold maxD at p
 split at p
 ·simp only[RepL,Rep] at rl
  obtain⟨v,r',rfl,rfl,v2,r'',rfl,rfl,rfl⟩:=rl
  exact .inl ⟨_,_,rfl,Post.ret (Ra:=Rep G) sr (by simp[Rep]) p⟩
 ·split at p
  ·rename_i m hm
   simp only[RepL] at rl
   obtain⟨v,r',rfl,r1,rfl⟩:=rl
   cases h:(asL _ w.S).bind allInts with
   |none=>rw[h] at hm;cases hm
   |some ns=>
    rw[h] at hm
    obtain⟨a,rfl,ha⟩:=asL_allInts sr r1 h
    refine .inr ⟨a,ns,rfl,SqL.of ha,?_,fun k hk hle=> ?_⟩
    ·cases ns with
     |nil=>cases hm
     |cons _ _=>simp
    ·rw[maxI_eq hm hk hle]
     exact Post.ret (Ra:=Rep G) sr (by simp[Rep]) p
  ·exact p.elim
 ·exact p.elim
theorem o_min (hc:X.calm=true):CallR X (.builtin "min") (rN G minD):=by
 refine caI2 ((call_min2 hc).or (cr_min hc)) fun xs H Q q=> ?_
 obtain⟨w,ds,rfl,sr,rl,p⟩:=q
 unfold minD at p
 split at p
 ·simp only[RepL,Rep] at rl
  obtain⟨v,r',rfl,rfl,v2,r'',rfl,rfl,rfl⟩:=rl
  exact .inl ⟨_,_,rfl,Post.ret (Ra:=Rep G) sr (by simp[Rep]) p⟩
 ·split at p
  ·rename_i m hm
   simp only[RepL] at rl
   obtain⟨v,r',rfl,r1,rfl⟩:=rl
   cases h:(asL _ w.S).bind allInts with
   |none=>rw[h] at hm;cases hm
   |some ns=>
    rw[h] at hm
    obtain⟨a,rfl,ha⟩:=asL_allInts sr r1 h
    refine .inr ⟨a,ns,rfl,SqL.of ha,?_,fun k hk hle=> ?_⟩
    ·cases ns with
     |nil=>cases hm
     |cons _ _=>simp
    ·rw[minI_eq hm hk hle]
     exact Post.ret (Ra:=Rep G) sr (by simp[Rep]) p
  ·exact p.elim
 ·exact p.elim
def absD:FN:=fun xs S=>match xs with
 | [.int i] => .ok (.int (if i<0 then -i else i)) S
 | _=> .bad
def intD:FN:=fun xs S=>match xs with
 | [.int i] => .ok (.int i) S
 | [.bl k] => .ok (.int (if k then 1 else 0)) S
 | _=> .bad
theorem c_abs:CalmN absD:=fun xs S=>by unfold absD;repeat' split
                                       all_goals trivial
theorem c_int:CalmN intD:=fun xs S=>by unfold intD;repeat' split
                                       all_goals trivial
theorem o_abs:CallR X (.builtin "abs") (rN G absD):=by
 refine caI2 call_abs fun xs H Q q=> ?_
 obtain⟨w,ds,rfl,sr,rl,p⟩:=q
 unfold absD at p
 split at p
 ·simp only[RepL,Rep] at rl
  obtain⟨v,r',rfl,rfl,rfl⟩:=rl
  exact⟨_,rfl,Post.ret (Ra:=Rep G) sr (by simp[Rep]) p⟩
 ·exact p.elim
theorem o_int:CallR X (.type "int") (rN G intD):=by
 refine caI2 call_int1 fun xs H Q q=> ?_
 obtain⟨w,ds,rfl,sr,rl,p⟩:=q
 unfold intD at p
 split at p
 ·simp only[RepL,Rep] at rl
  obtain⟨v,r',rfl,rfl,rfl⟩:=rl
  exact .inl ⟨_,rfl,Post.ret (Ra:=Rep G) sr (by simp[Rep]) p⟩
 ·simp only[RepL,Rep] at rl
  obtain⟨v,r',rfl,rfl,rfl⟩:=rl
  exact .inr ⟨_,rfl,Post.ret (Ra:=Rep G) sr (by simp[Rep]) p⟩
 ·exact p.elim
def tupleD:FN:=fun xs S=>match xs with
 | [.tup l] => .ok (.tup l) S
 | [x] =>match asL x S with
   |some l=> .ok (.tup l) S
   |none=> .bad
 | _=> .bad
def listD:FN:=fun xs S=>match xs with
 | [.tup l] => .ok (.lst l) S
 | [.scr ns] => .ok (.lst (ns.map .int)) S
 | [x] =>match asL x S with
   |some l=> .ok (.lst l) S
   |none=> .bad
 | _=> .bad
theorem c_tuple:CalmN tupleD:=fun xs S=>by unfold tupleD;repeat' split
                                           all_goals trivial
theorem c_list:CalmN listD:=fun xs S=>by unfold listD;repeat' split
                                         all_goals trivial
theorem o_tuple (hK:X.K=G.K):CallR X (.type "tuple") (rN G tupleD):=by
 refine caI2 call_tuple_of fun xs H Q q=> ?_
 obtain⟨w,ds,rfl,sr,rl,p⟩:=q
 unfold tupleD at p
 split at p
 ·simp only[RepL] at rl
  obtain⟨v,r',rfl,r1,rfl⟩:=rl
  have r1':=r1
  simp only[Rep] at r1
  obtain⟨a,vs,rfl,h1,r2⟩:=r1
  exact⟨a,vs,rfl, .inr ⟨by rw[hK];exact SqT_of h1,Post.ret (Ra:=Rep G) sr r1' p⟩⟩
 ·split at p
  ·rename_i l hl
   simp only[RepL] at rl
   obtain⟨v,r',rfl,r1,rfl⟩:=rl
   obtain⟨a,vs,rfl,h1,r2⟩:=asL_rep sr r1 hl
   exact⟨a,vs,rfl, .inl ⟨SqL.of h1,fun p' hp'=>new_tup sr r2 p p' hp'⟩⟩
  ·exact p.elim
 ·exact p.elim
theorem o_list (hK:X.K=G.K):CallR X (.type "list") (rN G listD):=by
 refine caI2 call_list_of fun xs H Q q=> ?_
 obtain⟨w,ds,rfl,sr,rl,p⟩:=q
 unfold listD at p
 split at p
 ·simp only[RepL,Rep] at rl
  obtain⟨v,r',rfl,⟨a,vs,rfl,h1,r2⟩,rfl⟩:=rl
  exact⟨a,vs,rfl, .inr (by rw[hK];exact SqT_of h1),fun p' hp'=>new_lst (S:=w.S) sr r2 p p' hp'⟩
 ·simp only[RepL,Rep] at rl
  obtain⟨v,r',rfl,⟨a,rfl,h1⟩,rfl⟩:=rl
  exact⟨a,_,rfl, .inl (by rw[hK];exact h1.imp (fun z=>z.1) id),fun p' hp'=>new_lst (S:=w.S) sr (RepL_ints.mpr rfl) p p' hp'⟩
 ·split at p
  ·rename_i l hl
   simp only[RepL] at rl
   obtain⟨v,r',rfl,r1,rfl⟩:=rl
   obtain⟨a,vs,rfl,h1,r2⟩:=asL_rep sr r1 hl
   exact⟨a,vs,rfl, .inl (SqL.of h1),fun p' hp'=>new_lst (S:=w.S) sr r2 p p' hp'⟩
  ·exact p.elim
 ·exact p.elim
end
end L3
namespace L3
open PySem PySem.Spec PyProof.Rows L2
section
variable {G:GC} {X:Cx} {Wx:WX} {pos:Pos} {w:Wd}
theorem q_tup {es:List Expr} {x1} {m:AD} (h:PA X es (tA G m Wx)):PE X (.Tuple es x1 pos) (tE G (eN mkTup m) Wx):=peI (pe_tup h) fun σ H Q q=>by
 obtain⟨w,env,rfl,sr,er,p⟩:=q
 refine⟨w,env,rfl,sr,er,(Post.bind (Ra:=RepL G) p).mono (fun x H1 m=> ?_) fun _ _ _ h=>h⟩
 obtain⟨w1,d1,rfl,x1,s1,rp1,p1⟩:=m
 unfold mkTup at p1
 split at p1
 ·exact⟨by rw[rp1.length];assumption,fun p' hp'=>new_tup s1 rp1 p1 p' hp'⟩
 ·exact p1.elim
theorem q_lst {es:List Expr} {m:AD} (h:PA X es (tA G m Wx)):PE X (.List es pos) (tE G (eN mkLst m) Wx):=peI (pe_lst h) fun σ H Q q=>by
 obtain⟨w,env,rfl,sr,er,p⟩:=q
 refine⟨w,env,rfl,sr,er,(Post.bind (Ra:=RepL G) p).mono (fun x H1 m=> ?_) fun _ _ _ h=>h⟩
 obtain⟨w1,d1,rfl,x1,s1,rp1,p1⟩:=m
 unfold mkLst at p1
 split at p1
 ·exact⟨by rw[rp1.length];assumption,fun p' hp'=>new_lst (S:=w1.S) s1 rp1 p1 p' hp'⟩
 ·exact p1.elim
theorem q_obj {es:List Expr} {m:AD} (h:PA X es (tA G m Wx)):PE X (.List es pos) (tE G (eN mkObj m) Wx):=peI (pe_lst h) fun σ H Q q=>by
 obtain⟨w,env,rfl,sr,er,p⟩:=q
 refine⟨w,env,rfl,sr,er,(Post.bind (Ra:=RepL G) p).mono (fun x H1 m=> ?_) fun _ _ _ h=>h⟩
 obtain⟨w1,d1,rfl,x1,s1,rp1,p1⟩:=m
 unfold mkObj at p1
 split at p1
 ·exact⟨by rw[rp1.length];assumption,fun p' hp'=>new_lobj s1 rp1 p1 p' hp'⟩
 ·exact p1.elim
theorem q_ifExp {c a b:Expr} {mc:TD} {ma mb:ED} (hc:PT X c (tT G mc Wx)) (ha:PE X a (tE G ma Wx)) (hb:PE X b (tE G mb Wx)):PE X (.IfExp c a b pos) (tE G (eIf mc ma mb) Wx):=peI (pe_ifExp hc ha hb) fun σ H Q q=>by
 obtain⟨w,env,rfl,sr,er,p⟩:=q
 refine⟨w,env,rfl,sr,er,(Post.bind (Ra:=fun _ (a b:Bool)=>a=b) p).mono (fun x H1 m=> ?_) fun _ _ _ h=>h⟩
 obtain⟨w1,d1,rfl,x1,s1,rp1,p1⟩:=m
 subst rp1
 cases d1 with
 |true=>exact iteT ⟨w1,env,rfl,s1,er.mono x1,p1⟩
 |false=>exact iteF ⟨w1,env,rfl,s1,er.mono x1,p1⟩
theorem tOfE_post {a:ED} {β :Type} {env:EnvD} {f:Bool→Store→R D} {Q:VK} {E:Value→Option Addr→Hp→Prop} (p:Post G w ((tOfE a env w.S).bind f) (Rep G) Q E):
 Post G w (a env w.S) (Rep G) (Mid G w (Rep G) fun w1 d=>∃k,d= .bl k∧Post G w1 (f k w1.S) (Rep G) Q E) E:=by
 unfold tOfE at p
 rw[R.bind_assoc] at p
 refine(Post.bind (Ra:=Rep G) p).mono (fun x H1 m=> ?_) fun _ _ _ h=>h
 obtain⟨w1,d1,rfl,x1,s1,rp1,p1⟩:=m
 refine⟨w1,d1,rfl,x1,s1,rp1,?_⟩
 cases d1 with
 |bl k=>exact⟨k,rfl,p1⟩
 | _=>exact p1.elim
theorem q_eone {op} {a:Expr} {m:ED} (h:PE X a (tE G m Wx)):PE X (.BoolOp op [a] pos) (tE G m Wx):=pe_one h
theorem q_eand {a b:Expr} {rest:List Expr} {ma mb:ED} (ha:PE X a (tE G ma Wx)) (hb:PE X (.BoolOp .And (b::rest) pos) (tE G mb Wx)):PE X (.BoolOp .And (a::b::rest) pos) (tE G (eAnd ma mb) Wx):=peI (pe_and ha hb) fun σ H Q q=>by
 obtain⟨w,env,rfl,sr,er,p⟩:=q
 refine⟨w,env,rfl,sr,er,(tOfE_post (β :=D) p).mono (fun x H1 m=> ?_) fun _ _ _ h=>h⟩
 obtain⟨w1,d1,rfl,x1,s1,rp1,k,rfl,p1⟩:=m
 simp only[Rep] at rp1
 refine⟨k,rp1,?_⟩
 cases k with
 |true=>exact iteT ⟨w1,env,rfl,s1,er.mono x1,p1⟩
 |false=>exact iteF (Post.ret (Ra:=Rep G) s1 (by simp[Rep]) p1)
theorem q_eor {a b:Expr} {rest:List Expr} {ma mb:ED} (ha:PE X a (tE G ma Wx)) (hb:PE X (.BoolOp .Or (b::rest) pos) (tE G mb Wx)):PE X (.BoolOp .Or (a::b::rest) pos) (tE G (eOr ma mb) Wx):=peI (pe_or ha hb) fun σ H Q q=>by
 obtain⟨w,env,rfl,sr,er,p⟩:=q
 refine⟨w,env,rfl,sr,er,(tOfE_post (β :=D) p).mono (fun x H1 m=> ?_) fun _ _ _ h=>h⟩
 obtain⟨w1,d1,rfl,x1,s1,rp1,k,rfl,p1⟩:=m
 simp only[Rep] at rp1
 refine⟨k,rp1,?_⟩
 cases k with
 |true=>exact iteT (Post.ret (Ra:=Rep G) s1 (by simp[Rep]) p1)
 |false=>exact iteF ⟨w1,env,rfl,s1,er.mono x1,p1⟩
theorem q_enot {a:Expr} {ma:ED} (ha:PE X a (tE G ma Wx)):PE X (.UnaryOp .Not a pos) (tE G (eNot ma) Wx):=peI (pe_not ha) fun σ H Q q=>by
 obtain⟨w,env,rfl,sr,er,p⟩:=q
 refine⟨w,env,rfl,sr,er,(tOfE_post (β :=D) p).mono (fun x H1 m=> ?_) fun _ _ _ h=>h⟩
 obtain⟨w1,d1,rfl,x1,s1,rp1,k,rfl,p1⟩:=m
 simp only[Rep] at rp1
 exact⟨k,rp1,Post.ret (Ra:=Rep G) s1 (by simp[Rep]) p1⟩
theorem imp_chain {f g:F2} {a b c:ED} (cf:Calm2 f) (cg:Calm2 g):∀ σ H Q,tE G (eChain f g a b c) Wx σ H Q→tChain (r2 G f) (r2 G g) (tE G a Wx) (tE G b Wx) (tE G c Wx) σ H Q:=by
 intro σ H Q q
 obtain⟨w,env,rfl,sr,er,p⟩:=q
 refine⟨w,env,rfl,sr,er,(Post.bind (Ra:=Rep G) p).mono (fun x H1 m=> ?_) fun _ _ _ h=>h⟩
 obtain⟨w1,d1,rfl,x1,s1,rp1,p1⟩:=m
 refine⟨w1,env,rfl,s1,er.mono x1,(Post.bind (Ra:=Rep G) p1).mono (fun y H2 m=> ?_) fun _ _ _ h=>h⟩
 obtain⟨w2,d2,rfl,x2,s2,rp2,p2⟩:=m
 refine⟨w2,d1,d2,rfl,s2,Rep.mono x2 _ _ rp1,rp2,((Post.bind (Ra:=Rep G) p2).mono (fun z H3 m=> ?_) fun _ _ _ h=>h).calm (cf _ _ _)⟩
 obtain⟨w3,d3,rfl,x3,s3,rp3,p3⟩:=m
 cases d3 with
 |bl k=>
  simp only[Rep] at rp3
  refine⟨k,rp3,?_⟩
  cases k with
  |false=>exact iteF (Post.ret (Ra:=Rep G) s3 (by simp[Rep]) p3)
  |true=>
   refine iteT ⟨w3,env,rfl,s3,((er.mono x1).mono x2).mono x3,(Post.bind (Ra:=Rep G) p3).mono (fun z H4 m=> ?_) fun _ _ _ h=>h⟩
   obtain⟨w4,d4,rfl,x4,s4,rp4,p4⟩:=m
   exact⟨w4,d2,d4,rfl,s4,Rep.mono (WX'.trans x3 x4) _ _ rp2,rp4,p4.calm (cg _ _ _)⟩
 | _=>exact p3.elim
theorem q_chain {op op':CmpOp} {f g:F2} {a b c:Expr} {ma mb mc:ED} (ho:OpR X (compareOp op) (r2 G f)) (cf:Calm2 f) (ho':OpR X (compareOp op') (r2 G g)) (cg:Calm2 g) (ha:PE X a (tE G ma Wx)) (hb:PE X b (tE G mb Wx)) (hc:PE X c (tE G mc Wx))
 (hm:lastMarks [op,op'] [b,c] =false:=by with_unfolding_all rfl):PE X (.Compare a [op,op'] [b,c] pos) (tE G (eChain f g ma mb mc) Wx):=peI (pe_chain ho ho' ha hb hc hm) (imp_chain cf cg)
theorem q_tcmp {op:CmpOp} {f:F2} {a b:Expr} {ma mb:ED} (ho:OpR X (compareOp op) (r2 G f)) (c:Calm2 f) (ha:PE X a (tE G ma Wx)) (hb:PE X b (tE G mb Wx)) (hm:behindInMarks op b=false):PT X (.Compare a [op] [b] pos) (tT G (tOfE (e2 f ma mb)) Wx):=
 ptI (pt_cmpR ho ha hb hm) fun σ H Q q=>by
  obtain⟨w,env,rfl,sr,er,p⟩:=q
  refine imp_e2 c σ w.H _ ⟨w,env,rfl,sr,er,(Post.bind (Ra:=Rep G) p).mono (fun x H1 m=> ?_) fun _ _ _ h=>h⟩
  obtain⟨w1,d1,rfl,x1,s1,rp1,p1⟩:=m
  cases d1 with
  |bl k=>
   simp only[Rep] at rp1
   exact⟨k,rp1,Post.ret (Ra:=fun _ (a b:Bool)=>a=b) s1 rfl p1⟩
  | _=>exact p1.elim
theorem q_truth {e:Expr} {m:ED} (hK:X.K=G.K) (h:PE X e (tE G m Wx)) (he:∀whole,isTrue e X.env whole=(do let v ←whole;standAt e.pos;holding [v] (truthy v)):=by intro _;rfl):PT X e (tT G (tTruth m) Wx):=ptI (pt_truth h he) fun σ H Q q=>by
 obtain⟨w,env,rfl,sr,er,p⟩:=q
 refine⟨w,env,rfl,sr,er,(Post.bind (Ra:=Rep G) p).mono (fun x H1 m=> ?_) fun _ _ _ h=>h⟩
 obtain⟨w1,d1,rfl,x1,s1,rp1,p1⟩:=m
 have fin:∀ {k:Bool},Post G w1 (.ok k w1.S) (fun _ (a b:Bool)=>a=b) Q (fun C dx H'=>Wx C dx σ H')→Q k w1.H:=fun {k} p=>Post.ret (Ra:=fun _ (a b:Bool)=>a=b) s1 rfl p
 have emp:∀ {l:List D} {vs:List V},RepL G w1 l vs→(!l.isEmpty)= !vs.isEmpty:=fun {l vs} r=>by
  have:=r.length
  cases l<;>cases vs<;>simp_all
 cases d1 with
 |non=>simp only[Rep] at rp1;subst rp1;exact⟨false,rfl,fin p1⟩
 |bl b=>simp only[Rep] at rp1;subst rp1;exact⟨b,rfl,fin p1⟩
 |int i=>simp only[Rep] at rp1;subst rp1;exact⟨_,rfl,fin p1⟩
 |str s=>
  simp only[Rep] at rp1;subst rp1
  simp only[truthD] at p1
  split at p1
  ·rename_i hz
   refine⟨s.length != 0,⟨hz,?_⟩,fin p1⟩
   cases s.length<;>rfl
  ·exact p1.elim
 |tup l=>
  simp only[Rep] at rp1
  obtain⟨a,vs,rfl,h1,r1⟩:=rp1
  exact⟨_, .inr (.inl ⟨vs,by rw[hK];exact SqT_of h1,emp r1⟩),fin p1⟩
 |lst l=>
  simp only[Rep] at rp1
  obtain⟨a,vs,rfl,h1,_,r1⟩:=rp1
  exact⟨_, .inl ⟨vs,SqL.of h1,emp r1⟩,fin p1⟩
 |obj n=>
  simp only[truthD] at p1
  split at p1
  ·rename_i l hn
   obtain⟨a,vs,rfl,h1,r1⟩:=asL_rep (l:=l) s1 rp1 (by simp[asL,hn])
   exact⟨_, .inl ⟨vs,SqL.of h1,emp r1⟩,fin p1⟩
  ·exact p1.elim
 | _=>exact p1.elim
def mtD (x:D) (S:Store):Option String:=match x with
 | .str _=>some "str"
 | .lst _=>some "list"
 | .dic _ _=>some "dict"
 | .obj n=>match S[n]? with
   |some (.lst _)=>some "list"
   |some (.dK _)=>some "dict"
   |some (.dT _)=>some "dict"
   | _=>none
 | _=>none
def eBM (T:String) (f:D→FN) (o:ED) (a:AD):ED:=fun env S=>(o env S).bind fun x S1=>if mtD x S1=some T then(a env S1).bind fun xs S2=>f x xs S2 else .bad
theorem tyv {x:D} {v:V} {T:String} (sr:SRep G w) (r:Rep G w x v) (e:mtD x w.S=some T):tyV G.K T v w.H:=by
 cases x with
 |str s=>simp only[Rep] at r;cases e;subst r;exact rfl
 |lst l=>
  simp only[Rep] at r
  cases e
  obtain⟨a,vs,rfl,h1,_⟩:=r
  exact .inl ⟨rfl,vs,SqL.of h1⟩
 |dic ks l=>
  simp only[Rep] at r
  cases e
  obtain⟨a,vs,rfl,h1,_⟩:=r
  exact .inr (.inr (.inl ⟨rfl, .inl ⟨_,h1⟩⟩))
 |obj n=>
  simp only[Rep] at r
  obtain⟨a,hm,rfl⟩:=r
  simp only[mtD] at e
  split at e
  ·rename_i l hn
   cases e
   obtain⟨vs,h1,_⟩:=sr.obj n _ a hn hm
   exact .inl ⟨rfl,vs,SqL.of h1⟩
  ·rename_i l hn
   cases e
   obtain⟨vs,h1,_⟩:=sr.obj n _ a hn hm
   exact .inr (.inr (.inl ⟨rfl, .inl ⟨_,h1⟩⟩))
  ·rename_i l hn
   cases e
   obtain⟨vs,h1,_⟩:=sr.obj n _ a hn hm
   exact .inr (.inr (.inl ⟨rfl, .inr ⟨_,h1⟩⟩))
  ·cases e
 | _=>cases e
theorem q_bm {o e:Expr} {es:List Expr} {name:Str} {apos cpos:Pos} {T id:String} {f:D→FN} {mo:ED} {ma:AD} (hK:X.K=G.K) (pa:PlainAttrs T) (slot:Slot T name id) (hty:typeOf (.builtin id)=pure (.type "method_descriptor")) (hm:MtR X id (rM G f)) (c:CalmM f) (ho:PE X o (tE G mo Wx)) (ha:PA X (e::es) (tA G ma Wx))
 (hbase:attributeBase o name X.env (eval o X.env)=eval o X.env:=by rfl)
 (hfew:((backTo cpos (starEach (e::es) X.env)).all (fun x=> !x.1)&&(backToKw cpos (keywordEach [] X.env)).all (fun x=>x.1.isSome)
   && decide ((e::es).length+([] :List Keyword).length+(if([] :List Keyword).isEmpty then 0 else 1)<30))=true:=by rfl)
 (hline:(apos.endLine==cpos.line)=true:=by rfl) (hs:starEach (e::es) X.env=(false,eval e X.env)::starEach es X.env:=by rfl) (hplain:(backTo cpos (starEach es X.env)).any (·.1)=false:=by rfl):
 PE X (.Call (.Attribute o name apos) (e::es) [] cpos) (tE G (eBM T f mo ma) Wx):=peI (pe_bm pa slot hty hm ho ha hbase hfew hline hs hplain) fun σ H Q q=>by
 obtain⟨w,env,rfl,sr,er,p⟩:=q
 refine⟨w,env,rfl,sr,er,(Post.bind (Ra:=Rep G) p).mono (fun x H1 m=> ?_) fun _ _ _ h=>h⟩
 obtain⟨w1,d1,rfl,x1,s1,rp1,p1⟩:=m
 split at p1
 ·rename_i ht
  refine⟨by rw[hK];exact tyv s1 rp1 ht,w1,env,rfl,s1,er.mono x1,(Post.bind (Ra:=RepL G) p1).mono (fun x H1 m=> ?_) fun _ _ _ h=>h⟩
  obtain⟨w2,d2,rfl,x2,s2,rp2,p2⟩:=m
  exact⟨w2,d1,d2,rfl,s2,Rep.mono x2 _ _ rp1,rp2,p2.calm (c _ _ _)⟩
 ·exact p1.elim
def lstAt (x:D) (S:Store):Option (Nat × List D):=match x with
 | .obj n=>match S[n]? with
   |some (.lst l)=>some (n,l)
   | _=>none
 | _=>none
theorem lstAt_rep {x:D} {v:V} {n:Nat} {l:List D} (sr:SRep G w) (r:Rep G w x v) (e:lstAt x w.S=some (n,l)):∃a vs,v= .ref a∧w.S[n]? =some (.lst l)∧w.mu[n]? =some a∧w.H a=some (.lst vs)∧RepL G w l vs:=by
 cases x with
 |obj m=>
  simp only[Rep] at r
  obtain⟨a,hm,rfl⟩:=r
  simp only[lstAt] at e
  split at e
  ·rename_i l' hn
   cases e
   obtain⟨vs,h1,h2⟩:=sr.obj _ _ a hn hm
   exact⟨a,vs,rfl,hn,hm,h1,h2⟩
  ·cases e
 | _=>cases e
theorem set_lst {n:Nat} {a:Addr} {l l':List D} {vs':List V} {d:D} {y:V} {Q:VK} {E:Value→Option Addr→Hp→Prop} (sr:SRep G w) (hn:w.S[n]? =some (.lst l)) (ha:w.mu[n]? =some a) (rl:RepL G w l' vs') (rd:Rep G w d y)
 (p:Post G w (.ok d (w.S.set n (.lst l'))) (Rep G) Q E):Q y (upd w.H a (.lst vs')):=by
 obtain⟨x,s⟩:=set_obj (ob':= .lst l') (o:= .lst vs') sr hn trivial ha fun w' x e=>⟨vs',e,RepL.mono x _ _ rl⟩
 exact p y _ x rfl s (Rep.mono x _ _ rd)
def appendD:D→FN:=fun x xs S=>match lstAt x S,xs with
 |some (n,l),[y] =>if l.length<sizeLine then .ok .non (S.set n (.lst (l++ [y]))) else .bad
 | _,_=> .bad
theorem c_append:CalmM appendD:=fun x xs S=>by unfold appendD;repeat' split
                                               all_goals trivial
theorem o_append:MtR X "list.append" (rM G appendD):=mtI2 mt_append fun x xs H Q q=>by
 obtain⟨w,d,ds,rfl,sr,r1,rl,p⟩:=q
 unfold appendD at p
 split at p
 ·rename_i n l y he
  split at p
  ·rename_i hz
   obtain⟨a,vs,rfl,hn,hm,h1,h2⟩:=lstAt_rep sr r1 he
   simp only[RepL] at rl
   obtain⟨v,r',rfl,ry,rfl⟩:=rl
   exact⟨a,vs,v,rfl,rfl,h1,by rw[h2.length];exact hz,set_lst sr hn hm (h2.append (RepL.one ry)) (by simp[Rep]) p⟩
  ·exact p.elim
 ·exact p.elim
def putD {κ :Type} [DecidableEq κ] (kvs:List (κ × D)) (k: κ) (v:D):List (κ × D):=
 if(kvs.any fun kv=>decide (kv.1=k))=true then kvs.map (fun kv=>if kv.1=k then(kv.1,v) else kv) else kvs++ [(k,v)]
theorem any_put {κ :Type} [DecidableEq κ] (k: κ):∀ {kvs:List (κ × D)} {vs:List (κ × V)},RepKV G w kvs vs→(kvs.any fun kv=>decide (kv.1=k))=(vs.any fun kv=>decide (kv.1=k))
 | [],vs,h=>by
   have:vs= [] :=h
   subst this;rfl
 |p::r,vs,h=>by
  obtain⟨v,y,rfl,h1,h2⟩:=h
  simp only[List.any_cons,any_put k h2]
theorem map_put {κ :Type} [DecidableEq κ] {d:D} {v:V} (k: κ) (rv:Rep G w d v):∀ {kvs:List (κ × D)} {vs:List (κ × V)},RepKV G w kvs vs→
 RepKV G w (kvs.map (fun kv=>if kv.1=k then(kv.1,d) else kv)) (vs.map (fun kv=>if kv.1=k then(kv.1,v) else kv))
 | [],vs,h=>by
   have:vs= [] :=h
   subst this;rfl
 |p::r,vs,h=>by
  obtain⟨u,y,rfl,h1,h2⟩:=h
  simp only[List.map_cons]
  by_cases e:p.1=k
  ·rw[if_pos e,if_pos e];exact⟨v,_,rfl,rv,map_put k rv h2⟩
  ·rw[if_neg e,if_neg e];exact⟨u,_,rfl,h1,map_put k rv h2⟩
theorem RepKV.append {κ :Type} :∀ {a b:List (κ × D)} {x y:List (κ × V)},RepKV G w a x→RepKV G w b y→RepKV G w (a++b) (x++y)
 | [],_,x,_,h,h'=>by
   have:x= [] :=h
   subst this;exact h'
 |p::r,b,x,y,h,h'=>by
  obtain⟨u,z,rfl,h1,h2⟩:=h
  exact⟨u,z++y,rfl,h1,RepKV.append h2 h'⟩
theorem RepKV.put {κ :Type} [DecidableEq κ] {kvs:List (κ × D)} {vs:List (κ × V)} {d:D} {v:V} (k: κ) (h:RepKV G w kvs vs) (rv:Rep G w d v):RepKV G w (putD kvs k d) (putK vs k v):=by
 unfold putD putK
 rw[any_put k h]
 split
 ·exact map_put k rv h
 ·exact h.append ⟨v,[],rfl,rv,rfl⟩
def setD (o i v:D) (S:Store):Option Store:=match o with
 | .obj n=>match S[n]? with
   |some (.lst l)=>match i with
    | .int k=>match ixN l.length k with
      |some j=>some (S.set n (.lst (l.set j v)))
      |none=>none
    | _=>none
   |some (.dK kvs)=>match keyOf i with
    |some k=>if kvs.length<sizeLine then some (S.set n (.dK (putD kvs k v))) else none
    |none=>none
   |some (.dT kvs)=>match tkOf i with
    |some k=>if kvs.length<sizeLine then some (S.set n (.dT (putD kvs k v))) else none
    |none=>none
   | _=>none
 | _=>none
def gSub (mo mi:ED):GD:=fun v env S=>match mo env S with
 | .ok o S1=>match mi env S1 with
   | .ok i S2=>match setD o i v S2 with
     |some S3=> .nx env S3
     |none=> .bad
   | _=> .bad
 | _=> .bad
def tSetD (G:GC):TSet:=fun o i v H k=>∃w d1 d2 d3 S',w.H=H∧SRep G w∧Rep G w d1 o∧Rep G w d2 i∧Rep G w d3 v∧setD d1 d2 d3 w.S=some S'∧∀w',WExt w w'→w'.S=S'→SRep G w'→k w'.H
theorem RepKV.len {κ :Type} :∀ {kvs:List (κ × D)} {vs:List (κ × V)},RepKV G w kvs vs→vs.length=kvs.length
 | [],vs,h=>by
   have:vs= [] :=h
   subst this;rfl
 |p::r,vs,h=>by
  obtain⟨u,y,rfl,h1,h2⟩:=h
  simp[RepKV.len h2]
theorem o_set (hu:X.A.units+1<cLine):PSet X (tSetD G):=by
 intro pins s σ H o i v ov iv u Q I ro ri ru q
 obtain⟨w,d1,d2,d3,S',rfl,sr,r1,r2,r3,e,k⟩:=q
 unfold setD at e
 split at e
 ·rename_i n
  split at e
  ·rename_i l hn
   split at e
   ·rename_i j
    split at e
    ·rename_i jj hj
     cases e
     simp only[Rep] at r1 r2
     obtain⟨a,hm,rfl⟩:=r1
     obtain⟨vs,h1,h2⟩:=sr.obj n _ a hn hm
     refine set_list pins s σ w.H (.ref a) i v ov iv u Q I ro ri ru ⟨a,vs,j,jj,rfl,r2,h1,by rw[h2.length];exact hj,?_⟩
     obtain⟨x,s'⟩:=set_obj (ob':= .lst (l.set jj d3)) (o:= .lst (vs.set jj v)) sr hn trivial hm fun w' x e=>⟨_,e,RepL.mono x _ _ (h2.set jj r3)⟩
     exact k _ x rfl s'
    ·cases e
   ·cases e
  ·rename_i kvs hn
   split at e
   ·rename_i kk hk
    split at e
    ·rename_i hz
     cases e
     have ek:=keyOf_rep r2 hk
     subst ek
     simp only[Rep] at r1
     obtain⟨a,hm,rfl⟩:=r1
     obtain⟨vs,h1,h2⟩:=sr.obj n _ a hn hm
     refine set_dict hu pins s σ w.H (.ref a) (kV kk) v ov iv u Q I ro ri ru ⟨a,_,rfl,DPut.k h1 (by rw[h2.len];exact hz),?_⟩
     obtain⟨x,s'⟩:=set_obj (ob':= .dK (putD kvs kk d3)) (o:= .dK (putK vs kk v)) sr hn trivial hm fun w' x e=>⟨_,e,RepKV.mono x _ _ (h2.put kk r3)⟩
     exact k _ x rfl s'
    ·cases e
   ·cases e
  ·rename_i kvs hn
   split at e
   ·rename_i kk hk
    split at e
    ·rename_i hz
     cases e
     obtain⟨bb,rfl,eb,_⟩:=tk_rep r2 hk
     simp only[Rep] at r1
     obtain⟨a,hm,rfl⟩:=r1
     obtain⟨vs,h1,h2⟩:=sr.obj n _ a hn hm
     refine set_dict hu pins s σ w.H (.ref a) (.ref bb) v ov iv u Q I ro ri ru ⟨a,_,rfl,DPut.t h1 eb (by rw[h2.len];exact hz),?_⟩
     obtain⟨x,s'⟩:=set_obj (ob':= .dT (putD kvs kk d3)) (o:= .dT (putK vs kk v)) sr hn trivial hm fun w' x e=>⟨_,e,RepKV.mono x _ _ (h2.put kk r3)⟩
     exact k _ x rfl s'
    ·cases e
   ·cases e
  ·cases e
 ·cases e
theorem q_gsub {o i:Expr} {mo mi:ED} (hu:X.A.units+1<cLine) (ho:PE X o (tE G mo Wx)) (hi:PE X i (tE G mi Wx))
 (ha:∀v,assign (.Subscript o i pos) X.env v=(do
   let ov ←holding [v] (eval o X.env)
   let iv ←holding [v,ov] (eval i X.env)
   standAt pos
   holding [v,ov,iv] (setItem ov iv v)
   release [v,ov,iv] []):=by intro _;rfl):PG X (.Subscript o i pos) (tG G (gSub mo mi)):=pgI (pg_sub ho hi (o_set hu) ha) fun v σ H Q q=>by
 obtain⟨w,env,d,rfl,sr,er,rp,p⟩:=q
 unfold gSub at p
 cases h1:mo env w.S with
 |ok o S1=>
  rw[h1] at p
  refine⟨w,env,rfl,sr,er,?_⟩
  rw[h1]
  intro vo w1 x1 e1 s1 ro
  subst e1
  simp only at p
  cases h2:mi env w1.S with
  |ok i S2=>
   rw[h2] at p
   refine⟨w1,env,rfl,s1,er.mono x1,?_⟩
   rw[h2]
   intro vi w2 x2 e2 s2 ri
   subst e2
   simp only at p
   cases h3:setD o i d w2.S with
   |some S3=>
    rw[h3] at p
    refine⟨w2,o,i,d,S3,rfl,s2,Rep.mono x2 _ _ ro,ri,Rep.mono (WX'.trans x1 x2) _ _ rp,h3,fun w3 x3 e3 s3=> ?_⟩
    exact p σ w3 (WX'.trans (WX'.trans x1 x2) x3) e3 s3 (((er.mono x1).mono x2).mono x3)
   |none=>rw[h3] at p;exact p.elim
  |exc _ _=>rw[h2] at p;exact p.elim
  |bad=>rw[h2] at p;exact p.elim
 |exc _ _=>rw[h1] at p;exact p.elim
 |bad=>rw[h1] at p;exact p.elim
theorem gn_sub {mo mi:ED} :GOk (gSub mo mi):=fun d env S=>by
 unfold gSub
 cases mo env S with
 |ok o S1=>
  simp only
  cases mi env S1 with
  |ok i S2=>
   simp only
   cases setD o i d S2 with
   |some S3=>exact .inl ⟨_,_,rfl⟩
   |none=>exact .inr rfl
  |exc _ _=>exact .inr rfl
  |bad=>exact .inr rfl
 |exc _ _=>exact .inr rfl
 |bad=>exact .inr rfl
theorem gNames_nx:∀ {is:List Nat} {ds:List D} {env:EnvD} {S:Store},(∃ env',gNames is ds env S= .nx env' S)∨gNames is ds env S= .bad
 | [],[],_,_=> .inl ⟨_,rfl⟩
 | [],_::_,_,_=> .inr rfl
 | _::_,[],_,_=> .inr rfl
 |i::is,d::ds,env,S=>gNames_nx (is:=is) (ds:=ds) (env:=env.set i (some d)) (S:=S)
def tGs (G:GC) (is:List Nat):TGs:=fun vs σ H Q=>∃w env ds env',w.H=H∧SRep G w∧ERep G w env σ ∧RepL G w ds vs∧gNames is ds env w.S= .nx env' w.S∧∀ σ',ERep G w env' σ'→Q σ' H
theorem pgsI {e:List Expr} {t t':TGs} (h:PGs X e t) (i:∀v σ H Q,t' v σ H Q→t v σ H Q):PGs X e t':=⟨fun pins s σ H v u Q I r q=>h.run pins s σ H v u Q I r (i _ _ _ _ q)⟩
theorem q_gsnil:PGs X [] (tGs G []):=pgsI pgs_nil fun v σ H Q q=>by
 obtain⟨w,env,ds,env',rfl,sr,er,rl,e,k⟩:=q
 cases ds with
 |nil=>
  simp only[RepL] at rl
  cases e
  exact⟨rl,k σ er⟩
 |cons _ _=>cases e
theorem q_gscons {e:Expr} {es:List Expr} {i:Nat} {is:List Nat} (h1:PG X e (L2.gName i)) (h2:PGs X es (tGs G is))
 (hs:(assignEach (e::es) X.env).map (·.2)=assign e X.env::(assignEach es X.env).map (·.2):=by rfl):PGs X (e::es) (tGs G (i::is)):=pgsI (pgs_cons h1 h2 hs) fun v σ H Q q=>by
 obtain⟨w,env,ds,env',rfl,sr,er,rl,e,k⟩:=q
 cases ds with
 |nil=>cases e
 |cons d ds=>
  simp only[RepL] at rl
  obtain⟨v,r,rfl,r1,r2⟩:=rl
  exact⟨v,r,rfl,w,_,ds,env',rfl,sr,er.set i r1,r2,e,k⟩
theorem q_gtup {es:List Expr} {k:Nat} {is:List Nat} (hK:X.K=G.K) (hc:X.calm=true) (h:PGs X es (tGs G is)) (hn:(assignEach es X.env).length=is.length:=by rfl) (hst:(assignEach es X.env).findIdx? (·.1)=none:=by rfl):
 PG X (.Tuple es k pos) (tG G (gTup is)):=pgI (pg_tup hc h hn hst) fun v σ H Q q=>by
 obtain⟨w,env,d,rfl,sr,er,rp,p⟩:=q
 have ln:∀ {is:List Nat} {l:List D} {env env':EnvD} {S S':Store},gNames is l env S= .nx env' S'→l.length=is.length:=by
  intro is
  induction is with
  |nil=>intro l env env' S S' e;cases l with
   |nil=>rfl
   |cons _ _=>cases e
  |cons i is ih=>intro l env env' S S' e;cases l with
   |nil=>cases e
   |cons d l=>simp only[List.length_cons];rw[ih e]
 cases d with
 |tup l=>
  simp only[Rep] at rp
  obtain⟨a,vs,rfl,h1,rl⟩:=rp
  simp only[gTup] at p
  rcases gNames_nx (is:=is) (ds:=l) (env:=env) (S:=w.S) with⟨env',e⟩|e
  ·rw[e] at p
   refine⟨a,vs,rfl,by rw[hK];exact SqT_of h1,by rw[rl.length];exact ln e,w,env,l,env',rfl,sr,er,rl,e,fun σ' er'=>p σ' w (.refl _) rfl sr er'⟩
  ·rw[e] at p;exact p.elim
 |wtp l=>
  simp only[Rep] at rp
  obtain⟨a,rfl,h1⟩:=rp
  have rl:RepL G w (l.map .int) (l.map V.int):=RepL_ints.mpr rfl
  simp only[gTup] at p
  rcases gNames_nx (is:=is) (ds:=l.map .int) (env:=env) (S:=w.S) with⟨env',e⟩|e
  ·rw[e] at p
   refine⟨a,_,rfl,by rw[hK];exact .inr h1,by rw[rl.length];exact ln e,w,env,_,env',rfl,sr,er,rl,e,fun σ' er'=>p σ' w (.refl _) rfl sr er'⟩
  ·rw[e] at p;exact p.elim
 | _=>exact p.elim
theorem gn_tup {is:List Nat} :GOk (gTup is):=fun d env S=>by
 cases d with
 |tup l=>
  rcases gNames_nx (is:=is) (ds:=l) (env:=env) (S:=S) with⟨env',e⟩|e
  ·exact .inl ⟨env',S,e⟩
  ·exact .inr e
 |wtp l=>
  rcases gNames_nx (is:=is) (ds:=l.map .int) (env:=env) (S:=S) with⟨env',e⟩|e
  ·exact .inl ⟨env',S,e⟩
  ·exact .inr e
 | _=>exact .inr rfl
def sPar (is:List Nat) (a:AD):SD:=fun env S=>(a env S).toS env fun xs S1=>gNames is xs env S1
theorem q_par {i j:Nat} {x y:Str} {a b:Expr} {m:AD} {px py pt:Pos} {kt k2 pt2} (hc:X.calm=true) (hN:X.N.Nodup) (hi:X.N[i]? =some x) (hj:X.N[j]? =some y) (hij:i≠j)
 (hx:X.env.scope.names.lookup x=some .local) (hy:X.env.scope.names.lookup y=some .local) (ha:PA X [a,b] (tA G m Wx))
 (hw:swappedStores [.Tuple [.Name x px, .Name y py] kt pt] (.Tuple [a,b] k2 pt2) X.env=pure (some [x,y]))
 (hs:swapsWithSole [.Tuple [.Name x px, .Name y py] kt pt] (.Tuple [a,b] k2 pt2) pos.line X.env=pure false:=by rfl):
 PS X (.Assign [.Tuple [.Name x px, .Name y py] kt pt] (.Tuple [a,b] k2 pt2) pos) (tS G (sPar [i,j] m) Wx):=psI (ps_par hc hN hi hj hij hx hy ha hw hs) fun D σ H q=>by
 obtain⟨w,env,rfl,sr,er,p⟩:=q
 refine⟨w,env,rfl,sr,er,(PostS.ofR (Ra:=RepL G) er p).mono (fun x H1 m=> ?_) fun _ _ _ h=>h⟩
 obtain⟨w1,ds,rfl,x1,s1,rl,p1⟩:=m
 match ds,rl with
 | [d1,d2],rl=>
   simp only[RepL] at rl
   obtain⟨v1,r1,rfl,q1,v2,r2,rfl,q2,rfl⟩:=rl
   exact⟨v1,v2,rfl,p1 _ w1 (.refl _) rfl s1 (((er.mono x1).set i q1).set j q2)⟩
 | [],_=>exact p1.elim
 | [_],_=>exact p1.elim
 | _::_::_::_,_=>exact p1.elim
end
end L3
namespace L3
open PySem PySem.Spec PyProof.Rows L2
structure Cal (P:Program) (w:World) (G:GC) (base:Heap) (k:Nat) (x:Str) (f:Addr) (fd:FuncData) (ps:List Str) (F:FN):Prop where
 ok:FnG P w G.K G.mg base k f fd ps (spOf G F)
 m:G.mg x=some (.ref f)
 kp:PySem.W.keepIn G.K (.ref f)=true
def Bnd (G:GC) (fd:FuncData) (ps:List Str) (dds:List D):Prop:=∃dvs ds,Vals dvs ds∧Binds G.K fd ps ds∧∀w,RepL G w dds dvs
theorem bnd0 {G:GC} {fd:FuncData} {ps:List Str} (h:Binds G.K fd ps []):Bnd G fd ps [] :=⟨[],[], .nil,h,fun w=>by simp[RepL]⟩
def Kbd (G:GC) (fd:FuncData) (ps:List Str) (n:Nat) (ks:List Str) (gD:List D→List D→List D):Prop:=
 ∃g gV,KBn G.K fd ps n ks g gV∧∀w ds es vs zs,ds.length=n→es.length=ks.length→RepL G w ds vs→RepL G w es zs→RepL G w (gD ds es) (gV vs zs)
def GRep (G:GC) (x:Str) (d:D):Prop:=∃u v,G.mg x=some u∧RelV v u∧∀w,Rep G w d v
def kwK (F:FN) (n m:Nat) (gD:List D→List D→List D):List D→FN:=fun xs zs S=>if xs.length=n∧zs.length=m then F (gD xs zs) S else .bad
def eKw (f:List D→FN) (a b:AD):ED:=fun env S=>(a env S).bind fun xs S1=>(b env S1).bind fun zs S2=>f xs zs S2
theorem u65 {k:Nat} {A:Around} (h:RoomG k A):A.units+65<cLine:=by have:=h.rm.un;omega
theorem u150 {k:Nat} {A:Around} (h:RoomG k A):A.units+150<cLine:=by have:=h.rm.un;omega
theorem u1 {k:Nat} {A:Around} (h:RoomG k A):A.units+1<cLine:=by have:=h.rm.un;omega
section
variable {X:Cx} {G:GC} {Wx:WX} {pos p:Pos} {k:Nat} {f:Addr} {fd:FuncData} {ps:List Str} {F:FN} {x:Str} {e:Expr} {es:List Expr} {dds:List D} {m:AD} {P:Program} {w:World} {base:Heap}
theorem q_fn (c:Cal X.prog X.w G X.base k x f fd ps F) (b:Bnd G fd ps dds) (hr:RoomG k X.A) (hK:X.K=G.K) (hm:X.mg=G.mg) (hg:Gl X x) (tk:Takes X Wx)
 (ha:PA X (e::es) (tA G m Wx)) (hdb:(x==("__debug__" :Str))=false:=by decide) (he:starEach (e::es) X.env=(false,eval e X.env)::starEach es X.env:=by rfl) (hpl:(backTo pos (starEach es X.env)).any (·.1)=false:=by rfl):
 PE X (.Call (.Name x p) (e::es) [] pos) (tE G (eN (callK F dds) m) Wx):=by
 obtain⟨dvs,ds,h1,h2,h3⟩:=b
 exact q_call (by rw[hK,hm];exact c.ok) hr hg (by rw[hm];exact c.m) (by rw[hK];exact c.kp) (by rw[hK];exact h2) h1 h3 tk ha hdb he hpl
def eFnL (i:Nat) (x:Str) (F:FN) (a:AD):ED:=fun env S=>match env[i]? with
 |some (some (.glb y))=>if y=x then(a env S).bind fun xs S1=>F xs S1 else .bad
 | _=> .bad
structure QK (X:Cx) (G:GC) (Wx:WX) (kws:List Keyword) (m:AD):Prop where
 pk:PK X kws (tA G m Wx)
theorem q_knil:QK X G Wx [] aNil:=⟨⟨fun po pins s σ H Q I q=>by
 obtain⟨w,env,rfl,sr,er,p⟩:=q
 exact pk_nil.run po pins s σ w.H Q I (Post.ret (Ra:=RepL G) sr (by simp[RepL]) p)⟩⟩
theorem q_kcons {kws:List Keyword} {nm:Option Str} {kpos:Pos} {a:ED} {b:AD} (ha:PE X e (tE G a Wx)) (hr:QK X G Wx kws b):QK X G Wx (⟨nm,e,kpos⟩::kws) (aCons a b):=⟨⟨fun po pins s σ H Q I q=>by
 refine(pk_cons (nm:=nm) (kpos:=kpos) ha hr.pk).run po pins s σ H Q I ?_
 obtain⟨w,env,rfl,sr,er,p⟩:=q
 refine⟨w,env,rfl,sr,er,(Post.bind (Ra:=Rep G) p).mono (fun x H1 m=> ?_) fun _ _ _ h=>h⟩
 obtain⟨w1,d1,rfl,x1,s1,rp1,p1⟩:=m
 refine⟨w1,env,rfl,s1,er.mono x1,(Post.bind (Ra:=RepL G) p1).mono (fun y H2 m=> ?_) fun _ _ _ h=>h⟩
 obtain⟨w2,d2,rfl,x2,s2,rp2,p2⟩:=m
 exact Post.ret (Ra:=RepL G) (a:=d1::d2) s2 (by simp only[RepL];exact⟨x,y,rfl,Rep.mono x2 _ _ rp1,rp2⟩) p2⟩⟩
theorem q_fnK {kws:List Keyword} {n:Nat} {ks:List Str} {gD:List D→List D→List D} {b:AD} (c:Cal X.prog X.w G X.base k x f fd ps F) (hb:Kbd G fd ps n ks gD) (hr:RoomG k X.A) (hK:X.K=G.K) (hm:X.mg=G.mg) (hg:Gl X x) (tk:Takes X Wx)
 (ha:PA X (e::es) (tA G m Wx)) (hkw:QK X G Wx kws b) (hall:(backToKw pos (keywordEach kws X.env)).all (·.1.isSome)=true:=by rfl) (hks:(backToKw pos (keywordEach kws X.env)).filterMap (·.1)=ks:=by rfl)
 (hdb:(x==("__debug__" :Str))=false:=by decide) (he:starEach (e::es) X.env=(false,eval e X.env)::starEach es X.env:=by rfl)
 (hpl:((backTo pos (starEach (e::es) X.env)).any (·.1) || (backToKw pos (keywordEach kws X.env)).any (·.1.isNone))=false:=by rfl):
 PE X (.Call (.Name x p) (e::es) kws pos) (tE G (eKw (kwK F n ks.length gD) m b) Wx):=by
 obtain⟨g,gV,hn,hrep⟩:=hb
 have ok:=c.ok
 rw[← hK,←hm] at ok
 have kp:PySem.W.keepIn X.K (.ref f)=true:=by rw[hK];exact c.kp
 rw[← hK] at hn
 refine⟨fun pins s σ H Q I q=> ?_⟩
 obtain⟨wd,env,rfl,sr,er,pp⟩:=q
 refine wpAny_Call_Name_kw (ld_glob I hg (by rw[hm];exact c.m) ?_ hdb)
 refine PySem.W.callWith_KW (h₀ :=X.base) I.ok.mod.kin kp hall (thn (ha.run pos pins s σ wd.H _ I ⟨wd,env,rfl,sr,er,Post.bind (Ra:=RepL G) pp⟩) fun us s1 ⟨vs,H1,I1,r,q⟩=> ?_) hpl he
 obtain⟨w1,d1,rfl,x1,s1',rp1,p1⟩:=q
 refine thn (hkw.pk.run pos pins s1 σ w1.H _ I1 ⟨w1,env,rfl,s1',er.mono x1,Post.bind (Ra:=RepL G) p1⟩) fun ws s2 ⟨zs,H2,I2,rz,q2⟩=>⟨I2.kIn,?_⟩
 obtain⟨w2,d2,rfl,x2,s2',rp2,p2⟩:=q2
 rw[hks]
 unfold kwK at p2
 split at p2
 ·rename_i hl
  have r2:=hn.rel r rz
  refine wpAny_call (codeAny_mono (FnG.called (E:=WE Wx) ok hr (passAt tk σ) I2 (hn.to s2 us ws I2.kIn ?_ ?_) (hn.rel r rz) ⟨w2,gD d1 d2,rfl,s2',hrep w2 d1 d2 vs zs hl.1 hl.2 (RepL.mono x2 _ _ rp1) rp2,p2⟩) fun r s' hq=> ?_)
  ·rw[← r.length,rp1.length];exact hl.1
  ·rw[← rz.length,rp2.length];exact hl.2
  ·match r,hq with
   | .error e,hq=>exact hq
   | .ok (.ret u),hq=>exact hq
 ·exact p2.elim
theorem q_cst {d:D} (h:GRep G x d) (hm:X.mg=G.mg) (hg:Gl X x) (hd:(x==("__debug__" :Str))=false:=by decide):PE X (.Name x pos) (tE G (eK d) Wx):=by
 obtain⟨u,v,h1,h2,h3⟩:=h
 exact q_const (pe_glob hg (by rw[hm];exact h1) h2 hd) h3
theorem q_ty {T:String} (hm:X.mg x=none) (hv:bootBuiltins x=some (.type T)) (hg:Gl X x) (hn:x≠ "__name__" :=by decide) (hd:(x==("__debug__" :Str))=false:=by decide):PE X (.Name x pos) (tE G (eK (.ty T)) Wx):=
 q_const (pe_bltn (v:= .ty T) hg hm hv rfl hn hd) fun w=>by simp[Rep]
theorem q_tb {e:Expr} {m:TD} (h:PW X e (tT G m Wx)):PT X e (tT G m Wx):=h.pt
theorem w_and1 {a:Expr} {ma:TD} (h:PT X a (tT G ma Wx)):PW X (.BoolOp .And [a] pos) (tT G ma Wx):=pw_and1 h
theorem w_or1 {a:Expr} {ma:TD} (h:PT X a (tT G ma Wx)):PW X (.BoolOp .Or [a] pos) (tT G ma Wx):=pw_or1 h
theorem w_and {a b:Expr} {rest:List Expr} {ma mb:TD} (ha:PT X a (tT G ma Wx)) (hb:PW X (.BoolOp .And (b::rest) pos) (tT G mb Wx)):PW X (.BoolOp .And (a::b::rest) pos) (tT G (tAnd ma mb) Wx):=pwI (pw_and ha hb) imp_and
theorem w_or {a b:Expr} {rest:List Expr} {ma mb:TD} (ha:PT X a (tT G ma Wx)) (hb:PW X (.BoolOp .Or (b::rest) pos) (tT G mb Wx)):PW X (.BoolOp .Or (a::b::rest) pos) (tT G (tOr ma mb) Wx):=pwI (pw_or ha hb) imp_or
end
theorem b_len:bootBuiltins "len" =some (.builtin "len"):=by decide +kernel
theorem b_isinstance:bootBuiltins "isinstance" =some (.builtin "isinstance"):=by decide +kernel
theorem b_sum:bootBuiltins "sum" =some (.builtin "sum"):=by decide +kernel
theorem b_max:bootBuiltins "max" =some (.builtin "max"):=by decide +kernel
theorem b_min:bootBuiltins "min" =some (.builtin "min"):=by decide +kernel
theorem b_abs:bootBuiltins "abs" =some (.builtin "abs"):=by decide +kernel
theorem b_int:bootBuiltins "int" =some (.type "int"):=by decide +kernel
theorem b_bool:bootBuiltins "bool" =some (.type "bool"):=by decide +kernel
theorem b_str:bootBuiltins "str" =some (.type "str"):=by decide +kernel
theorem b_tuple:bootBuiltins "tuple" =some (.type "tuple"):=by decide +kernel
theorem b_list:bootBuiltins "list" =some (.type "list"):=by decide +kernel
theorem b_dict:bootBuiltins "dict" =some (.type "dict"):=by decide +kernel
end L3
namespace L3
open PySem PySem.Spec PyProof.Rows L2
section
variable {G:GC} {X:Cx} {Wx:WX} {pos:Pos} {w:Wd}
theorem RepKV.parts {κ :Type} :∀ {kvs:List (κ × D)} {vs:List (κ × V)},RepKV G w kvs vs→∃us,vs=(kvs.map (·.1)).zip us∧RepL G w (kvs.map (·.2)) us
 | [],vs,h=>by
   have:vs= [] :=h
   subst this;exact⟨[],rfl,by simp[RepL]⟩
 |p::r,vs,h=>by
  obtain⟨u,z,rfl,h1,h2⟩:=h
  obtain⟨us,rfl,h3⟩:=RepKV.parts h2
  exact⟨u::us,rfl,by simp only[List.map_cons,RepL];exact⟨u,us,rfl,h1,h3⟩⟩
def eDic0:ED:=fun _ S=> .ok (.dic [] []) S
def eDct0:ED:=fun _ S=> .ok (.obj S.length) (S++ [.dK []])
theorem q_dic0:PE X (.Dict [] [] pos) (tE G eDic0 Wx):=peI pe_dnewK fun σ H Q q=>by
 obtain⟨w,env,rfl,sr,er,p⟩:=q
 intro a ha
 obtain⟨x,s,nm⟩:=new_ext (o:= .dK []) sr ha
 exact p (.ref a) _ x rfl s (by simp only[Rep,RepL];exact⟨a,[],rfl,upd_same,nm,rfl,rfl⟩)
theorem q_dct0:PE X (.Dict [] [] pos) (tE G eDct0 Wx):=peI pe_dnewK fun σ H Q q=>by
 obtain⟨w,env,rfl,sr,er,p⟩:=q
 intro a ha
 obtain⟨x,s⟩:=new_obj (ob:= .dK []) (o:= .dK []) sr ha fun w' x e=>⟨[],e,rfl⟩
 exact p (.ref a) _ x rfl s (by simp only[Rep];exact⟨a,by rw[← sr.len];simp,rfl⟩)
end
end L3
namespace L3
open PySem PySem.Spec PyProof.Rows L2
section
variable {G:GC} {x:Str} {a:Addr}
def KVal (G:GC) (d:D) (u:Value):Prop:=∃v,RelV v u∧∀w,Rep G w d v
def KVals (G:GC):List D→List Value→Prop
 | [],us=>us= []
 |d::ds,us=>∃u r,us=u::r∧KVal G d u∧KVals G ds r
theorem grep_of {d:D} {u:Value} (h:G.mg x=some u) (k:KVal G d u):GRep G x d:=by
 obtain⟨v,r,f⟩:=k
 exact⟨u,v,h,r,f⟩
theorem kv_str {i:Str} {t:PySem.Tok} :KVal G (.str i) (.str i t):=⟨.str i,⟨t,rfl⟩,fun w=>by simp[Rep]⟩
theorem kvs_nil:KVals G [] [] :=rfl
theorem kvs_cons {d:D} {ds:List D} {u:Value} {us:List Value} (h:KVal G d u) (r:KVals G ds us):KVals G (d::ds) (u::us):=⟨u,us,rfl,h,r⟩
theorem KVals.vals:∀ {ds:List D} {us:List Value},KVals G ds us→∃vs,Vals vs us∧∀w,RepL G w ds vs
 | [],us,h=>by
   have:us= [] :=h
   subst this;exact⟨[], .nil,fun w=>by simp[RepL]⟩
 |d::ds,us,h=>by
  obtain⟨u,r,rfl,⟨v,h1,h2⟩,h3⟩:=h
  obtain⟨vs,q1,q2⟩:=KVals.vals h3
  exact⟨v::vs, .cons h1 q1,fun w=>by simp only[RepL];exact⟨v,vs,rfl,h2 w,q2 w⟩⟩
theorem KVals.len:∀ {ds:List D} {us:List Value},KVals G ds us→us.length=ds.length
 | [],us,h=>by
   have:us= [] :=h
   subst this;rfl
 |d::ds,us,h=>by
  obtain⟨u,r,rfl,_,h3⟩:=h
  simp[KVals.len h3]
theorem kv_tup {ds:List D} {us:List Value} {dd:Option Addr} {n:Nat} {sl:Array (Option Value)} (l:G.K.lookup a=some ⟨.type "tuple",dd, .seq us.toArray n,sl⟩) (h:KVals G ds us) (hz:ds.length≤1000:=by decide) (hp:plc ds=false:=by rfl):KVal G (.tup ds) (.ref a):=by
 obtain⟨vs,h1,h2⟩:=h.vals
 refine⟨.ref a,rfl,fun w=> ?_⟩
 simp only[Rep]
 exact⟨a,vs,rfl, .inr ⟨⟨_,us.toArray,n,l,rfl,rfl,by simp only[List.size_toArray];rw[h.len,sizeLine_eq];omega,by simpa using h1⟩,hp⟩,h2 w⟩
theorem cx_none {P:Program} {w:World} {H:Hp} {s:Shared} {e:Value} {s':Shared} (h:L2.CX P w [] H s (fun _ _ _=>False) e s'):False:=by
 obtain⟨_,_,_,_,_,_,_,_,_,_,_,_,z⟩:=h
 exact z
theorem funD_mk {K:PySem.W.Frag} {x qual:Str} {params:Arguments} {body:List Stmt} {scope:Scope} {kws:List (Str × V)} {f:Addr} {oc:Value} {od an:Option Addr} {osl:Array (Option Value)} {kV doc pm cdv ct:Value}
 (l:K.lookup f=some ⟨oc,od, .func (PySem.W.fnOf x qual params body scope .none kV doc pm an cdv ct),osl⟩) (c:PySem.W.codeIn K cdv qual=true) (k:PySem.W.keepIn K (.ref f)=true) (kw:KwdV K kV kws):
 FunD K x qual params body scope [] kws f (PySem.W.fnOf x qual params body scope .none kV doc pm an cdv ct):=
 ⟨⟨oc,od, .none,kV,doc,pm,an,cdv,ct,osl,rfl,l,c, .inl ⟨rfl,rfl⟩,kw⟩,k⟩
theorem kw_none {K:PySem.W.Frag} {kV:Value} :KwdV K kV [] := .inl rfl
def KwL (K:PySem.W.Frag) (a:Addr) (l:List (Str × V)):Prop:=∀q ∈ l,∃u,PySem.W.nsIn K a q.1=some (some u)∧RelV q.2 u
theorem kw_nil {K:PySem.W.Frag} :KwL K a [] :=fun q h=>by simp at h
theorem kw_cons {K:PySem.W.Frag} {l:List (Str × V)} {y:Str} {v:V} {u:Value} (e:PySem.W.nsIn K a y=some (some u)) (r:RelV v u) (t:KwL K a l):KwL K a ((y,v)::l):=fun q h=>by
 rcases List.mem_cons.mp h with rfl|h
 ·exact⟨u,e,r⟩
 ·exact t q h
theorem kw_some {K:PySem.W.Frag} {l:List (Str × V)} (h:KwL K a l):KwdV K (.ref a) l:= .inr ⟨a,rfl,h⟩
theorem roomG_caller {k:Nat} (h:Room k callerA):RoomG k callerA:=⟨h,rfl⟩
end
end L3
namespace L3
open PySem PySem.Spec PyProof.Rows L2
abbrev PD:=EnvD→Store→R (Option Int)
def pNo:PD:=fun _ S=> .ok none S
def pYes (a:ED):PD:=fun env S=>(a env S).bind fun x S1=>match x with
 | .int i=> .ok (some i) S1
 | _=> .bad
def tO (G:GC) (m:PD) (Wx:WX):TO:=fun σ H Q=>∃w env,w.H=H∧SRep G w∧ERep G w env σ ∧Post G w (m env w.S) (fun _ a b=>a=b) Q (fun C dx H'=>Wx C dx σ H')
def cutL {α :Type} (xs:List α) (lo hi:Option Int):List α :=(xs.drop (HT.sIx xs.length 0 lo)).take (HT.sIx xs.length xs.length hi-HT.sIx xs.length 0 lo)
def slD (x:D) (lo hi:Option Int) (S:Store):R D:=match x with
 | .tup l=> .ok (.tup (cutL l lo hi)) S
 | .str z=>if z.length≤sizeLine then .ok (.str (cutS z lo hi)) S else .bad
 |x=>match asL x S with
  |some l=> .ok (.lst (cutL l lo hi)) S
  |none=> .bad
def eSl (a:ED) (l h:PD):ED:=fun env S=>(a env S).bind fun x S1=>(l env S1).bind fun lo S2=>(h env S2).bind fun hi S3=>slD x lo hi S3
theorem cutL_whole {α :Type} {xs:List α} {lo hi:Option Int} (h:HT.sIx xs.length 0 lo=0∧HT.sIx xs.length xs.length hi=xs.length):cutL xs lo hi=xs:=by
 unfold cutL
 rw[h.1,h.2]
 simp
section
variable {G:GC} {X:Cx} {Wx:WX} {pos p2:Pos} {w:Wd}
theorem RepL.cut {l:List D} {vs:List V} (h:RepL G w l vs) (lo hi:Option Int):RepL G w (cutL l lo hi) (cutV vs lo hi):=by
 unfold cutL cutV
 rw[h.length]
 exact(h.drop _).take _
theorem q_pno:PO X none (tO G pNo Wx):=⟨fun pins s σ H Q I q=>by
 obtain⟨w,env,rfl,sr,er,p⟩:=q
 exact po_none.run pins s σ w.H Q I (Post.ret (Ra:=fun _ (a b:Option Int)=>a=b) sr rfl p)⟩
theorem q_pyes {e:Expr} {m:ED} (h:PE X e (tE G m Wx)):PO X (some e) (tO G (pYes m) Wx):=⟨fun pins s σ H Q I q=>by
 refine(po_some h).run pins s σ H Q I ?_
 obtain⟨w,env,rfl,sr,er,p⟩:=q
 refine⟨w,env,rfl,sr,er,(Post.bind (Ra:=Rep G) p).mono (fun x H1 m=> ?_) fun _ _ _ h=>h⟩
 obtain⟨w1,d1,rfl,x1,s1,rp1,p1⟩:=m
 cases d1 with
 |int i=>
  simp only[Rep] at rp1
  exact⟨i,rp1,Post.ret (Ra:=fun _ (a b:Option Int)=>a=b) s1 rfl p1⟩
 | _=>exact p1.elim⟩
theorem q_slice {e:Expr} {lo hi:Option Expr} {m:ED} {ml mh:PD} (hK:X.K=G.K) (he:PE X e (tE G m Wx)) (hl:PO X lo (tO G ml Wx)) (hh:PO X hi (tO G mh Wx)):PE X (.Subscript e (.Slice lo hi none p2) pos) (tE G (eSl m ml mh) Wx):=
 peI (pe_slice (sl_tupA.or (sl_str.or sl_list)) he hl hh) fun σ H Q q=>by
  obtain⟨w,env,rfl,sr,er,p⟩:=q
  refine⟨w,env,rfl,sr,er,(Post.bind (Ra:=Rep G) p).mono (fun x H1 m=> ?_) fun _ _ _ h=>h⟩
  obtain⟨w1,d1,rfl,x1,s1,rp1,p1⟩:=m
  refine⟨w1,env,rfl,s1,er.mono x1,(Post.bind (Ra:=fun _ (a b:Option Int)=>a=b) p1).mono (fun lo H2 m=> ?_) fun _ _ _ h=>h⟩
  obtain⟨w2,d2,rfl,x2,s2,rfl,p2⟩:=m
  refine⟨w2,env,rfl,s2,(er.mono x1).mono x2,(Post.bind (Ra:=fun _ (a b:Option Int)=>a=b) p2).mono (fun hi H3 m=> ?_) fun _ _ _ h=>h⟩
  obtain⟨w3,d3,rfl,x3,s3,rfl,p3⟩:=m
  have r1:=Rep.mono (WX'.trans x2 x3) _ _ rp1
  unfold slD at p3
  split at p3
  ·have r1':=r1
   simp only[Rep] at r1
   obtain⟨a,vs,rfl,h1,h2⟩:=r1
   have hl:=h2.length
   refine .inl ⟨a,vs,rfl,by rw[hK];exact SqT_of h1,fun hw=> ?_,fun _ p' hp'=>new_tup s3 (h2.cut d2 d3) p3 p' hp'⟩
   rw[cutL_whole (by rw[← hl];exact hw)] at p3
   exact Post.ret (Ra:=Rep G) s3 r1' p3
  ·split at p3
   ·rename_i hz
    simp only[Rep] at r1
    exact .inr (.inl ⟨_,r1,hz,Post.ret (Ra:=Rep G) s3 (by simp[Rep]) p3⟩)
   ·exact p3.elim
  ·split at p3
   ·rename_i l hl
    obtain⟨a,vs,rfl,h1,h2⟩:=asL_rep s3 r1 hl
    exact .inr (.inr ⟨a,vs,rfl,SqL.of h1,fun p' hp'=>new_lst (S:=w3.S) s3 (h2.cut d2 d3) p3 p' hp'⟩)
   ·exact p3.elim
def strD:FN:=fun xs S=>match xs with
 | [.int i] =>if i.natAbs.log2<1920 then .ok (.str (toString i)) S else .bad
 | [.str z] => .ok (.str z) S
 | _=> .bad
theorem c_str:CalmN strD:=fun xs S=>by unfold strD;repeat' split
                                       all_goals trivial
theorem o_str:CallR X (.type "str") (rN G strD):=by
 refine caI2 (call_str_int.or SkE.call_str_str) fun xs H Q q=> ?_
 obtain⟨w,ds,rfl,sr,rl,p⟩:=q
 unfold strD at p
 split at p
 ·split at p
  ·rename_i hz
   simp only[RepL,Rep] at rl
   obtain⟨v,r',rfl,rfl,rfl⟩:=rl
   exact .inl ⟨_,rfl,hz,Post.ret (Ra:=Rep G) sr (by simp[Rep]) p⟩
  ·exact p.elim
 ·simp only[RepL,Rep] at rl
  obtain⟨v,r',rfl,rfl,rfl⟩:=rl
  exact .inr ⟨_,rfl,Post.ret (Ra:=Rep G) sr (by simp[Rep]) p⟩
 ·exact p.elim
def allStrs:List D→Option (List Str)
 | [] =>some []
 | .str b::r=>(allStrs r).map (b:: ·)
 | _=>none
theorem allStrs_rep:∀ {l:List D} {vs:List V} {bs:List Str},RepL G w l vs→allStrs l=some bs→vs=bs.map V.str
 | [],vs,bs,r,e=>by simp only[RepL] at r;cases e;exact r
 |d::ds,vs,bs,r,e=>by
  simp only[RepL] at r
  obtain⟨v,r',rfl,h1,h2⟩:=r
  cases d with
  |str b=>
   simp only[allStrs,Option.map_eq_some_iff] at e
   obtain⟨bs',e1,rfl⟩:=e
   simp only[Rep] at h1
   rw[h1,allStrs_rep h2 e1]
   rfl
  | _=>simp[allStrs] at e
def asS (x:D) (S:Store):Option (List D):=match x with
 | .tup l=>some l
 |x=>asL x S
def joinD:D→FN:=fun x xs S=>match x,xs with
 | .str a,[y] =>match(asS y S).bind allStrs with
   |some ys=>if(ys.map (·.length)).sum+ys.length*a.length≤16777216 then .ok (.str (Txt.join a ys)) S else .bad
   |none=> .bad
 | _,_=> .bad
theorem c_join:CalmM joinD:=fun x xs S=>by unfold joinD;repeat' split
                                           all_goals trivial
theorem asS_rep {x:D} {v:V} {l:List D} (sr:SRep G w) (r:Rep G w x v) (e:asS x w.S=some l):∃a vs,v= .ref a∧(SqL G.K w.H a vs∨SqT G.K w.H a vs)∧RepL G w l vs:=by
 unfold asS at e
 split at e
 ·cases e
  simp only[Rep] at r
  obtain⟨a,vs,rfl,h1,h2⟩:=r
  exact⟨a,vs,rfl, .inr (SqT_of h1),h2⟩
 ·obtain⟨a,vs,rfl,h1,h2⟩:=asL_rep sr r e
  exact⟨a,vs,rfl, .inl (SqL.of h1),h2⟩
theorem o_join (hK:X.K=G.K):MtR X "str.join" (rM G joinD):=mtI2 mt_join fun x xs H Q q=>by
 obtain⟨w,d,ds,rfl,sr,r1,rl,p⟩:=q
 unfold joinD at p
 split at p
 ·rename_i a y
  split at p
  ·rename_i ys hy
   split at p
   ·rename_i hz
    simp only[Rep] at r1
    simp only[RepL] at rl
    obtain⟨v,r',rfl,ry,rfl⟩:=rl
    cases hl:asS y w.S with
    |none=>rw[hl] at hy;cases hy
    |some l=>
     rw[hl] at hy
     obtain⟨b,vs,rfl,h1,h2⟩:=asS_rep sr ry hl
     rw[allStrs_rep h2 hy] at h1
     exact⟨a,b,ys,r1,rfl,by rw[hK];exact h1,hz,Post.ret (Ra:=Rep G) sr (by simp[Rep]) p⟩
   ·exact p.elim
  ·exact p.elim
 ·exact p.elim
def keyPy:Key→PyData
 | .inl i=> .int i
 | .inr x=> .str x
mutual
def toPyR:D→Option PyData
 | .non=>some .none
 | .bl b=>some (.bool b)
 | .int i=>some (.int i)
 | .str s=>some (.str s)
 | .tup l=>(toPyRL l).map .tuple
 | .lst l=>(toPyRL l).map .list
 | .dic ks l=>if ks.length=l.length then(toPyRL l).map fun xs=> .dict ((ks.map keyPy).zip xs) else none
 | .obj _=>none
 | .glb _=>none
 | .wtp _=>none
 | .ty _=>none
 | .scr _=>none
 | .kd _ _=>none
 | .xcp _ _ _=>none
 | .lam _ _=>none
def toPyRL:List D→Option (List PyData)
 | [] =>some []
 |d::ds=>match toPyR d,toPyRL ds with
  |some x,some xs=>some (x::xs)
  | _,_=>none
end
theorem toPyRL_len:∀(l:List D) (xs:List PyData),toPyRL l=some xs→xs.length=l.length
 | [],xs,h=>by simp only[toPyRL,Option.some.injEq] at h;subst h;rfl
 |d::l,xs,h=>by
  simp only[toPyRL] at h
  split at h
  ·rename_i y ys e1 e2
   cases h
   simp[toPyRL_len l ys e2]
  ·cases h
theorem dict_reads {P:Program} {w:World} {h:Heap} :∀ {es:List DictEntry} {kvs:List (Key × Value)} {ks:List Key} {vs:List V},vs.length=ks.length→KV (ks.zip vs) kvs→Pairs (mixKind P w) es kvs→
 ReadsAll h (es.map (·.key)) (ks.map keyPy) [] ∧Vals vs (es.map (·.val))
 | _,_,[],[],_,r,pr=>by cases r;cases pr;exact⟨.nil, .nil⟩
 | _,_,[],v::vs,hl,_,_=>by simp at hl
 | _,_,k::ks,[],hl,_,_=>by simp at hl
 | _,_,k::ks,v::vs,hl,r,pr=>by
   cases r with
   |cons r1 r2=>
    cases pr with
    |cons p1 p2 p3=>
     obtain⟨q1,q2⟩:=dict_reads (h:=h) (ks:=ks) (vs:=vs) (by simpa using hl) r2 p3
     refine⟨?_, .cons (by show L2.RelV v _;simp only [];rw[p2];exact r1.2) q2⟩
     have e1:k=_:=r1.1
     rename_i en es'
     have rd:Reads h en.key (keyPy k) [] :=by
      rcases keyIs_shape p1 with⟨i,t,e2,e3⟩|⟨x,t,e2,e3⟩
      ·rw[e3,e1.trans e2];exact .int i t
      ·rw[e3,e1.trans e2];exact .str x t
     exact .cons (as:= []) (bs:= []) rd q1
mutual
theorem reads_of {pins:List (Addr × Obj)} {s:Shared} {σ :L2.St} (hK:X.K=G.K) (hS:w.H sysModules=none) (I:Inv X pins σ w.H s):∀(d:D) (v:V) (u:Value) (x:PyData),Rep G w d v→toPyR d=some x→RelV v u→∃as,Reads s.heap u x as∧sysModules ∉ as
 | .non,v,u,x,r,e,rv=>by simp only[Rep] at r;subst r;cases e;cases rv;exact⟨[], .none,by simp⟩
 | .bl b,v,u,x,r,e,rv=>by simp only[Rep] at r;subst r;cases e;cases rv;exact⟨[], .bool b,by simp⟩
 | .int i,v,u,x,r,e,rv=>by simp only[Rep] at r;subst r;cases e;obtain⟨t,rfl⟩:=rv;exact⟨[], .int i t,by simp⟩
 | .str z,v,u,x,r,e,rv=>by simp only[Rep] at r;subst r;cases e;obtain⟨t,rfl⟩:=rv;exact⟨[], .str z t,by simp⟩
 | .tup l,v,u,x,r,e,rv=>by
   simp only[Rep] at r
   obtain⟨a,vs,rfl,h1,h2⟩:=r
   simp only[toPyR,Option.map_eq_some_iff] at e
   obtain⟨xs,e1,rfl⟩:=e
   cases rv
   obtain⟨its,rv,⟨o,ho,hc,n,hd⟩,_⟩:=I.tuple (xs:=vs) (by rw[hK];exact SqT_of h1)
   obtain⟨as,h3,h4⟩:=readsL_of hK hS I l vs its xs h2 e1 rv
   exact⟨as, .tuple ho hc hd h3,h4⟩
 | .lst l,v,u,x,r,e,rv=>by
   simp only[Rep] at r
   obtain⟨a,vs,rfl,h1,_,h2⟩:=r
   simp only[toPyR,Option.map_eq_some_iff] at e
   obtain⟨xs,e1,rfl⟩:=e
   cases rv
   obtain⟨its,rv,⟨o,n,ho,hc,_,hd⟩,_⟩:=I.list (xs:=vs) (SqL.of h1)
   obtain⟨as,h3,h4⟩:=readsL_of hK hS I l vs its xs h2 e1 rv
   exact⟨_, .list ho hc hd h3,fun h=>(List.mem_cons.mp h).elim (fun e=>by rw[← e,hS] at h1;cases h1) h4⟩
 | .dic ks l,v,u,x,r,e,rv=>by
   simp only[Rep] at r
   obtain⟨a,vs,rfl,h1,_,hl,h2⟩:=r
   simp only[toPyR] at e
   rw[if_pos hl] at e
   rw[Option.map_eq_some_iff] at e
   obtain⟨xs,e1,rfl⟩:=e
   cases rv
   obtain⟨_,hs,kvs,k1,o,es,ep,g,ex,dt,_,pr,_⟩:=dk_of I.hok h1
   have hv:vs.length=l.length:=RepL.length h2
   obtain⟨q1,q2⟩:=dict_reads (h:=s.heap) (ks:=ks) (vs:=vs) (by omega) k1 pr
   obtain⟨bs,q3,q4⟩:=readsL_of hK hS I l vs _ xs h2 e1 q2
   have hx:xs.length=ks.length:=by
    have h5:=toPyRL_len l xs e1
    omega
   have z1:((ks.map keyPy).zip xs).map (·.1)=ks.map keyPy:=by rw[List.map_fst_zip];simp;omega
   have z2:((ks.map keyPy).zip xs).map (·.2)=xs:=by rw[List.map_snd_zip];simp;omega
   refine⟨_, .dict (kvs:=(ks.map keyPy).zip xs) (as:= []) (bs:=bs) g ex.1 dt (by rw[z1];exact q1) (by rw[z2];exact q3),fun h=> ?_⟩
   simp only[List.cons_append,List.nil_append,List.mem_cons] at h
   rcases h with h|h
   ·rw[← h] at hs
    simp at hs
   ·exact q4 h
 | .obj _,_,_,_,_,e,_=>by simp[toPyR] at e
 | .glb _,_,_,_,_,e,_=>by simp[toPyR] at e
 | .wtp _,_,_,_,_,e,_=>by simp[toPyR] at e
 | .ty _,_,_,_,_,e,_=>by simp[toPyR] at e
 | .scr _,_,_,_,_,e,_=>by simp[toPyR] at e
 | .kd _ _,_,_,_,_,e,_=>by simp[toPyR] at e
theorem readsL_of {pins:List (Addr × Obj)} {s:Shared} {σ :L2.St} (hK:X.K=G.K) (hS:w.H sysModules=none) (I:Inv X pins σ w.H s):∀(d:List D) (v:List V) (u:List Value) (x:List PyData),RepL G w d v→toPyRL d=some x→Vals v u→∃as,ReadsAll s.heap u x as∧sysModules ∉ as
 | [],v,u,x,r,e,rv=>by simp only[RepL] at r;subst r;cases e;cases rv;exact⟨[], .nil,by simp⟩
 |d::ds,v,u,x,r,e,rv=>by
  simp only[RepL] at r
  obtain⟨v1,r',rfl,h1,h2⟩:=r
  simp only[toPyRL] at e
  split at e
  ·rename_i y ys e1 e2
   cases e
   cases rv with
   |cons ra rb=>
    obtain⟨as,q1,q2⟩:=reads_of hK hS I d v1 _ y h1 e1 ra
    obtain⟨bs,q3,q4⟩:=readsL_of hK hS I ds r' _ ys h2 e2 rb
    exact⟨_, .cons q1 q3,fun z=>(List.mem_append.mp z).elim q2 q4⟩
  ·cases e
end
def showOk (x:PyData):Bool:=x.showable&&decide (x.shown.length≤sizeLine)&&decide (x.depth≤100)
def reprD:FN:=fun xs S=>match xs with
 | [x] =>match toPyR (deref x S) with
   |some a=>if showOk a then .ok (.str a.shown) S else .bad
   |none=> .bad
 | _=> .bad
theorem c_repr:CalmN reprD:=fun xs S=>by unfold reprD;repeat' split
                                         all_goals trivial
theorem derefR_rep {pins:List (Addr × Obj)} {s:Shared} {σ :L2.St} (hK:X.K=G.K) (hS:w.H sysModules=none) (I:Inv X pins σ w.H s) {x:D} {v:V} {u:Value} (sr:SRep G w) (r:Rep G w x v) (rv:RelV v u) {y:PyData} (e:toPyR (deref x w.S)=some y):∃as,Reads s.heap u y as∧sysModules ∉ as:=by
 cases x with
 |obj n=>
  unfold deref at e
  cases hn:w.S[n]? with
  |none=>simp[hn,toPyR] at e
  |some o=>
   cases o with
   |lst l=>
    simp only[hn] at e
    obtain⟨a,vs,rfl,h1,h2⟩:=asL_rep (l:=l) sr r (by simp[asL,hn])
    simp only[toPyR,Option.map_eq_some_iff] at e
    obtain⟨xs,e1,rfl⟩:=e
    cases rv
    obtain⟨its,rv,⟨o,n,ho,hc,_,hd⟩,_⟩:=I.list (xs:=vs) (SqL.of h1)
    obtain⟨as,h3,h4⟩:=readsL_of hK hS I l vs its xs h2 e1 rv
    exact⟨_, .list ho hc hd h3,fun h=>(List.mem_cons.mp h).elim (fun e=>by rw[← e,hS] at h1;cases h1) h4⟩
   |ptp l=>
    simp only[hn] at e
    simp only[Rep] at r
    obtain⟨a,hm,rfl⟩:=r
    obtain⟨o,vs,⟨h1,_⟩,_,h2⟩:=sr.obj n _ a hn hm
    simp only[toPyR,Option.map_eq_some_iff] at e
    obtain⟨xs,e1,rfl⟩:=e
    cases rv
    obtain⟨its,rv,⟨o,ho,hc,n,hd⟩,_⟩:=I.tuple (xs:=vs) (.inl (.inr ⟨o,h1⟩))
    obtain⟨as,h3,h4⟩:=readsL_of hK hS I l vs its xs h2 e1 rv
    exact⟨as, .tuple ho hc hd h3,h4⟩
   | _=>simp[hn,toPyR] at e
 | _=>exact reads_of hK hS I _ v u y r e rv
theorem o_repr (hK:X.K=G.K) (hM:∃o,X.base.get? sysModules=some o) (hg:X.A.guards=some []) (hu:X.A.units+150<cLine):CallR X (.builtin "repr") (rN G reprD):=by
 intro pins s σ H xs us Q I rs q
 obtain⟨w,ds,rfl,sr,rl,p⟩:=q
 unfold reprD at p
 split at p
 ·rename_i x
  split at p
  ·rename_i a ha
   split at p
   ·rename_i ok
    simp only[showOk,Bool.and_eq_true,decide_eq_true_eq] at ok
    obtain⟨⟨ok1,ok2⟩,ok3⟩:=ok
    simp only[RepL] at rl
    obtain⟨v,r',rfl,r1,rfl⟩:=rl
    cases rs with
    |cons rv rt=>
     cases rt
     obtain⟨o,hM⟩:=hM
     obtain⟨as,rd,no⟩:=derefR_rep hK (I.bs _ _ hM).2 I sr r1 rv ha
     have fin:∀(z:Str) (h':Heap) (tk:PySem.Tok) (tk':Nat),z=a.shown→(∀ b o,s.heap.get? b=some o→h'.get? b=some o)→EP X pins σ Q (.str z tk) { s with heap:=h',toks:=tk' } :=fun z h' tk tk' ez k=>by
      subst ez
      exact⟨.str _,w.H,I.kept (t':=tk') k,⟨tk,rfl⟩,Post.ret (Ra:=Rep G) sr (by simp[Rep]) p⟩
     have same:∀b o,s.heap.get? b=some o→s.heap.get? b=some o:=fun _ _ h=>h
     cases rd with
     |none=>exact PySem.P.repr_of_none (fin _ s.heap _ _ rfl same)
     |bool b=>exact PySem.P.repr_of_bool (fin _ s.heap _ _ (by simp[PyData.shown]) same)
     |int i t=>exact PySem.P.repr_of_int (by simpa[PyData.showable] using ok1) (fin _ s.heap _ _ rfl same)
     |str z t=>exact PySem.P.repr_of_str (fin _ s.heap _ _ rfl same) (by simpa[PyData.shown] using ok2)
     |list h1 h2 h3 h4=>
      exact repr_of_reads' (.list h1 h2 h3 h4) ok1 (fun _=>no) hg (by omega) same (fun h' t tk k=>fin _ h' t tk rfl k) ok2
     |tuple h1 h2 h3 h4=>
      exact repr_of_reads' (.tuple h1 h2 h3 h4) ok1 (fun _=>no) hg (by omega) same (fun h' t tk k=>fin _ h' t tk rfl k) ok2
     |dict h1 h2 h3 h4 h5=>
      exact repr_of_reads' (.dict h1 h2 h3 h4 h5) ok1 (fun _=>no) hg (by omega) same (fun h' t tk k=>fin _ h' t tk rfl k) ok2
   ·exact p.elim
  ·exact p.elim
 ·exact p.elim
end
end L3
namespace L3
open PySem PySem.Spec PyProof.Rows L2
section
variable {G:GC} {X:Cx} {Wx:WX} {pos p2:Pos} {w:Wd}
def dkAt (x:D) (S:Store):Option (List (Key × D)):=match x with
 | .dic ks l=>if ks.length=l.length then some (ks.zip l) else none
 | .obj n=>match S[n]? with
   |some (.dK kvs)=>some kvs
   | _=>none
 | _=>none
theorem dkAt_rep {x:D} {v:V} {kvs:List (Key × D)} (sr:SRep G w) (r:Rep G w x v) (e:dkAt x w.S=some kvs):∃a vs,v= .ref a∧w.H a=some (.dK vs)∧RepKV G w kvs vs:=by
 cases x with
 |dic ks l=>
  simp only[dkAt] at e
  split at e
  ·rename_i hl
   cases e
   simp only[Rep] at r
   obtain⟨a,vs,rfl,h1,_,_,h2⟩:=r
   exact⟨a,_,rfl,h1,zip_kv hl h2⟩
  ·cases e
 |obj n=>
  simp only[dkAt] at e
  split at e
  ·rename_i l hn
   cases e
   simp only[Rep] at r
   obtain⟨a,hm,rfl⟩:=r
   obtain⟨vs,h1,h2⟩:=sr.obj n _ a hn hm
   exact⟨a,vs,rfl,h1,h2⟩
  ·cases e
 | _=>cases e
def dgetD:D→FN:=fun x xs S=>match dkAt x S,xs with
 |some kvs,[y] =>match keyOf y with
  |some k=> .ok ((dGet kvs k).getD .non) S
  |none=> .bad
 |some kvs,[y,z] =>match keyOf y with
  |some k=> .ok ((dGet kvs k).getD z) S
  |none=> .bad
 | _,_=> .bad
theorem c_dget:CalmM dgetD:=fun x xs S=>by unfold dgetD;repeat' split
                                           all_goals trivial
theorem o_dget (hu:X.A.units+1<cLine):MtR X "dict.get" (rM G dgetD):=by
 intro pins s σ H x xs v us Q I rx rs q
 obtain⟨w,d,ds,rfl,sr,r1,rl,p⟩:=q
 unfold dgetD at p
 split at p
 ·rename_i kvs y he
  split at p
  ·rename_i k hk
   obtain⟨a,vs,rfl,h1,h2⟩:=dkAt_rep sr r1 he
   simp only[RepL] at rl
   obtain⟨vy,r',rfl,ry,rfl⟩:=rl
   have ek:=keyOf_rep ry hk
   subst ek
   cases rx
   cases rs with
   |cons q1 q2=>
    cases q2
    refine d_get1 hu I (DGet.k h1) q1 fun w' s' I' rw'=>⟨_,w.H,I',rw',?_⟩
    have:=dGet_rep k h2
    cases hg:dGet kvs k with
    |none=>rw[hg] at this p;simp only at this;rw[this];exact Post.ret (Ra:=Rep G) sr (by simp[Rep]) p
    |some d=>rw[hg] at this p;simp only at this;obtain⟨z,e1,rz⟩:=this;rw[e1];exact Post.ret (Ra:=Rep G) sr rz p
  ·exact p.elim
 ·rename_i kvs y z he
  split at p
  ·rename_i k hk
   obtain⟨a,vs,rfl,h1,h2⟩:=dkAt_rep sr r1 he
   simp only[RepL] at rl
   obtain⟨vy,r',rfl,ry,vz,r'',rfl,rz,rfl⟩:=rl
   have ek:=keyOf_rep ry hk
   subst ek
   cases rx
   cases rs with
   |cons q1 q2=>
    cases q2 with
    |cons q2 q3=>
     cases q3
     refine d_get2 hu I (DGet.k h1) q1 q2 fun w' s' I' rw'=>⟨_,w.H,I',rw',?_⟩
     have:=dGet_rep k h2
     cases hg:dGet kvs k with
     |none=>rw[hg] at this p;simp only at this;rw[this];exact Post.ret (Ra:=Rep G) sr rz p
     |some d=>rw[hg] at this p;simp only at this;obtain⟨y,e1,ry⟩:=this;rw[e1];exact Post.ret (Ra:=Rep G) sr ry p
  ·exact p.elim
 ·exact p.elim
end
end L3
namespace L3
open PySem PySem.Spec PyProof.Rows L2
section
variable {G:GC} {X:Cx} {Wx:WX} {w:Wd}
def eBackT (a:ED):ED:=fun env S=>(a env S).bind fun x S1=>match x with
 | .tup l=> .ok (.tup l.reverse) S1
 | _=> .bad
end
end L3
namespace L3
open PySem PySem.Spec PyProof.Rows L2
theorem vals_getD:∀ {vs:List V} {us:List Value},Vals vs us→∀i:Nat,RelV (vs.getD i .non) (us.getD i .none)
 | [],us,h,i=>by cases h;exact rfl
 |v::vs,us,h,0=>by
  cases h with
  |cons r _=>exact r
 |v::vs,us,h,i+1=>by
  cases h with
  |cons _ t=>exact vals_getD t i
theorem repl_getD {G:GC} {w:Wd} :∀ {ds:List D} {vs:List V},RepL G w ds vs→∀i:Nat,Rep G w (ds.getD i .non) (vs.getD i .non)
 | [],vs,h,i=>by simp only[RepL] at h;subst h;simp[Rep]
 |d::ds,vs,h,0=>by
  simp only[RepL] at h
  obtain⟨v,r,rfl,h1,_⟩:=h
  exact h1
 |d::ds,vs,h,i+1=>by
  simp only[RepL] at h
  obtain⟨v,r,rfl,_,h2⟩:=h
  exact repl_getD h2 i
def gath {α :Type} (z: α) (src:List (Bool × Nat)) (us ws:List α):List α :=src.map fun p=>if p.1 then ws.getD p.2 z else us.getD p.2 z
theorem gath_vals {vs zs:List V} {us ws:List Value} (h:Vals vs us) (g:Vals zs ws):∀src:List (Bool × Nat),Vals (gath .non src vs zs) (gath .none src us ws)
 | [] => .nil
 |p::r=>by
  refine .cons ?_ (gath_vals h g r)
  show RelV (if p.1 then zs.getD p.2 .non else vs.getD p.2 .non) (if p.1 then ws.getD p.2 .none else us.getD p.2 .none)
  split
  ·exact vals_getD g _
  ·exact vals_getD h _
theorem gath_reps {G:GC} {w:Wd} {ds es:List D} {vs zs:List V} (h:RepL G w ds vs) (g:RepL G w es zs):∀src:List (Bool × Nat),RepL G w (gath .non src ds es) (gath .non src vs zs)
 | [] =>by simp[gath,RepL]
 |p::r=>by
  show RepL G w ((if p.1 then es.getD p.2 .non else ds.getD p.2 .non)::gath .non r ds es) ((if p.1 then zs.getD p.2 .non else vs.getD p.2 .non)::gath .non r vs zs)
  simp only[RepL]
  refine⟨_,_,rfl,?_,gath_reps h g r⟩
  split
  ·exact repl_getD g _
  ·exact repl_getD h _
section
variable {X:Cx} {G:GC} {Wx:WX} {pos p:Pos} {k:Nat} {f:Addr} {fd:FuncData} {ps:List Str} {F:FN} {x:Str}
theorem kbd_of {n:Nat} {ks:List Str} (src:List (Bool × Nat)) (h:∀(s:Shared) (us ws:List Value),us.length=n→ws.length=ks.length→BindsTo s fd ⟨us,ks.zip ws⟩ (ps.zip (gath .none src us ws))):Kbd G fd ps n ks (gath .non src):=
 ⟨gath .none src,gath .non src,⟨fun s us ws _ h1 h2=>h s us ws h1 h2,fun r1 r2=>gath_vals r1 r2 src⟩,fun w ds es vs zs _ _ r1 r2=>gath_reps r1 r2 src⟩
theorem q_fnK0 {kws:List Keyword} {ks:List Str} {gD:List D→List D→List D} {b:AD} (c:Cal X.prog X.w G X.base k x f fd ps F) (hb:Kbd G fd ps 0 ks gD) (hr:RoomG k X.A) (hK:X.K=G.K) (hm:X.mg=G.mg) (hg:Gl X x) (tk:Takes X Wx)
 (hkw:QK X G Wx kws b) (hall:(backToKw pos (keywordEach kws X.env)).all (·.1.isSome)=true:=by rfl) (hks:(backToKw pos (keywordEach kws X.env)).filterMap (·.1)=ks:=by rfl)
 (hdb:(x==("__debug__" :Str))=false:=by decide) (hpl:((backTo pos (starEach [] X.env)).any (·.1) || (backToKw pos (keywordEach kws X.env)).any (·.1.isNone))=false:=by rfl):
 PE X (.Call (.Name x p) [] kws pos) (tE G (eKw (kwK F 0 ks.length gD) aNil b) Wx):=by
 obtain⟨g,gV,hn,hrep⟩:=hb
 have ok:=c.ok
 rw[← hK,←hm] at ok
 have kp:PySem.W.keepIn X.K (.ref f)=true:=by rw[hK];exact c.kp
 rw[← hK] at hn
 refine⟨fun pins s σ H Q I q=> ?_⟩
 obtain⟨wd,env,rfl,sr,er,pp⟩:=q
 refine wpAny_Call_Name_kw (ld_glob I hg (by rw[hm];exact c.m) ?_ hdb)
 refine PySem.W.callWith_KW0 (h₀ :=X.base) I.ok.mod.kin kp hall ?_ hpl
 refine thn (hkw.pk.run pos pins s σ wd.H _ I ⟨wd,env,rfl,sr,er,Post.bind (Ra:=RepL G) pp⟩) fun ws s2 ⟨zs,H2,I2,rz,q2⟩=>⟨I2.kIn,?_⟩
 obtain⟨w2,d2,rfl,x2,s2',rp2,p2⟩:=q2
 rw[hks]
 unfold kwK at p2
 split at p2
 ·rename_i hl
  refine wpAny_call (codeAny_mono (FnG.called (E:=WE Wx) ok hr (passAt tk σ) I2 (hn.to s2 [] ws I2.kIn rfl ?_) (hn.rel .nil rz) ⟨w2,gD [] d2,rfl,s2',hrep w2 [] d2 [] zs hl.1 hl.2 (by simp[RepL]) rp2,p2⟩) fun r s' hq=> ?_)
  ·rw[← rz.length,rp2.length];exact hl.2
  ·match r,hq with
   | .error e,hq=>exact hq
   | .ok (.ret u),hq=>exact hq
 ·exact p2.elim
end
theorem b_repr:bootBuiltins "repr" =some (.builtin "repr"):=by decide +kernel
theorem b_sorted:bootBuiltins "sorted" =some (.builtin "sorted"):=by decide +kernel
end L3
namespace L3
open PySem PySem.Spec PyProof.Rows L2
theorem meets_enum1 {v:Value} {o:Obj} {H:Heap→Prop} (B:Begins v o H):
 Meets (Builtin.«enumerate.__new__» ⟨[.type "enumerate",v],[]⟩) (fun _ R s=>H s.heap∧
  R (.ok (.ret (.ref (s.heap.push o).objs.size))) { s with heap:=(s.heap.push o).push { cls:= .type "enumerate",data:= .fields #[.none, .bool false, .ref s.heap.objs.size,rawInt 0, .none, .none] } }):=
 .of_wp fun prog w A R s h=>by
  obtain⟨hp,g,d,tk,os⟩:=s;obtain⟨h1,h⟩:=h
  have hsub:=sub_enumerate
  have q1:∀ {A':Around} {E:Value→Shared→Prop} {Q:Value→Shared→Prop},Q (.ref hp.objs.size) ⟨hp.push o,g,d,tk,os⟩→wpAny (model prog w) A' (pyIter v) Q E ⟨hp,g,d,tk,os⟩:=
   fun q=>B.iter prog w _ _ ⟨hp,g,d,tk,os⟩ _ h1 q
  wp_walk using q1
  refine wpAny_stack_any fun st=>wpAny_pure ?_
  split
  ·rename_i c _ _ _ _ _
   cases(c==Value.type "enumerate")
   ·wp_walk using q1
    exact⟨_,rfl,h⟩
   ·wp_walk using q1
    exact⟨_,rfl,h⟩
  ·wp_walk using q1
   exact⟨_,rfl,h⟩
section
variable {prog:Program} {w:World} {A:Around} {E:Value→Shared→Prop} {s:Shared}
theorem enum1 {v:Value} {o:Obj} {H:Heap→Prop} {Q:Value→Shared→Prop} (B:Begins v o H) (h1:H s.heap)
 (h:∀h',IsEnum h' (s.heap.objs.size+1) s.heap.objs.size 0 .none→h'.get? s.heap.objs.size=some o→h'.objs.size=s.heap.objs.size+2→
   (∀ b o,s.heap.get? b=some o→h'.get? b=some o)→Q (.ref (s.heap.objs.size+1)) { s with heap:=h' }):
 wpAny (model prog w) A (call (.type "enumerate") [v]) Q E s:=by
 refine callType_new F.called_enumerate (by decide) (F.typeCall_enumerate_1 _) (F.newCall_enumerate_1 _) (fun obj=>F.args_object_init_2 obj _) F.entry_enumerate_new
  (meets_enum1 B) ⟨h1,?_⟩
 have hz:(s.heap.push o).objs.size=s.heap.objs.size+1:=Heap.size_push ..
 show _∧_
 rw[hz]
 have he:IsEnum ((s.heap.push o).push { cls:= .type "enumerate",data:= .fields #[.none, .bool false, .ref s.heap.objs.size,rawInt 0, .none, .none] }) (s.heap.objs.size+1) s.heap.objs.size 0 .none:=by
  have:=Heap.get?_push_size (s.heap.push o) (o:= { cls:= .type "enumerate",data:= .fields #[.none, .bool false, .ref s.heap.objs.size,rawInt 0, .none, .none] }) rfl
  rw[hz] at this;exact this
 refine⟨⟨_,he,rfl⟩,h _ he (Heap.get?_push_of_some _ (Heap.get?_push_size _ B.free)) (by rw[Heap.size_push,hz]) fun b o x=>Heap.get?_push_of_some _ (Heap.get?_push_of_some _ x)⟩
end
def Itet (K:PySem.W.Frag) (a:Addr):It:=
 ⟨fun i H=>∃(xs:List V) (x:V),SqT K H a xs∧xs[i]? =some x,fun i H v H'=>∃T x,v= .ref T∧H T=none∧H'=upd H T (.tup [.int (i:Nat),x])∧∀xs,SqT K H a xs→xs[i]? =some x,fun i H=>∃xs:List V,SqT K H a xs∧xs.length=i⟩
theorem turn_enumT {P:Program} {w:World} {K:PySem.W.Frag} {elts:List Expr} {kk:Nat} {tpos:Pos} (a e it:Addr):
 Turn P w K (.Tuple elts kk tpos) (Itet K a) [e,it] e (fun i h=>(∃ old,IsEnum h e it ((i:Nat):Int) old)∧h.IsTupleIter it a i∧e≠it∧a≠it∧a≠e) where
 mem:=by simp
 obj:=fun i h st b hb=>by
  obtain⟨⟨old,he⟩,⟨o,ho,hc,hd⟩,_⟩:=st
  have e':b=e∨b=it:=by simpa using hb
  rcases e' with z|z
  ·rw[z];exact⟨_,he,fun v q=>nomatch q⟩
  ·rw[z];exact⟨o,ho,fun v q=>by rw[hd] at q;cases q⟩
 keep:=fun i h h' st k=>let⟨⟨old,he⟩,⟨o,ho,r⟩,hne⟩:=st;⟨⟨old,k e (by simp) _ he⟩,⟨o,k it (by simp) o ho,r⟩,hne⟩
 item:=by
  intro X hP hw hK hc i pins s σ H E I hf st hg
  subst hP hw hK
  obtain⟨⟨old,he⟩,hit,hne,hait,hae⟩:=st
  obtain⟨xs,x,hq,hx⟩:=hg
  obtain⟨its,rv,p,hz⟩:=I.tuple hq
  obtain⟨u,hu,ru⟩:=rv.get hx
  have hel:e<s.heap.objs.size:=Heap.lt_size he
  have hil:it<s.heap.objs.size:=by obtain⟨_,q,_⟩:=hit;exact Heap.lt_size q
  have hlt:i<its.toArray.size:=by
   have:=(List.getElem?_eq_some_iff.mp hu).1
   simpa using this
  have hdn:X.A.in1.handled=none:=I.ok.hd hc
  refine wpAny_pyNext_enum_itemD (Draws.tuple hdn it a hait its.toArray) he ⟨hit,(show s.heap.IsTuple a its.toArray from p)⟩ hlt hne (by simp[Ne.symm hae,hne]) fun y h' tk hy ho hit' hT hsz hk=> ?_
  have hyu:y=u:=by
   have:its.toArray[i]? =some u:=by simpa using hu
   rw[this] at hy;exact(Option.some.inj hy).symm
  subst hyu
  refine⟨_,rfl,wpAny_letOwnedTupleGo_enum (s:= { s with heap:=h',toks:=tk+1 }) ho fun h'' he' sb=> ?_⟩
  have hT2:h''.get? s.heap.objs.size=some { cls:= .type "tuple",data:= .seq #[.int i tk,y] } :=(sb.2 _ (Nat.ne_of_gt hel)).trans hT
  have new:ObjOk X.prog X.w (upd H s.heap.objs.size (.tup [.int (i:Nat),x])) h'' s.heap.objs.size (.tup [.int (i:Nat),x]):=
   ⟨by show 2≤sizeLine;decide,[.int i tk,y], .cons ⟨_,rfl⟩ (.cons ru .nil),⟨_,hT2,rfl,_,rfl⟩⟩
  have I1:Inv X pins σ (upd H s.heap.objs.size (.tup [.int (i:Nat),x])) { s with heap:=h'',toks:=tk+1 } :=
   I.turnedNew (ch:= [e,it]) (fun b ob hb q=>(sb.2 b (fun z=>hb (by simp[z]))).trans (hk b ob (fun z=>hb (by simp[z])) (fun z=>hb (by simp[z])) q)) hf (Nat.le_refl _) new
  refine⟨.ref s.heap.objs.size,_,I1,rfl,⟨_,x,rfl,I.hok.fresh (Nat.le_refl _),rfl,fun ys hy=> ?_⟩,⟨⟨y,?_⟩,?_,hne,hait,hae⟩,fun b hb=> ?_⟩
  ·rw[I.tuple_inj hy hq];exact hx
  ·have e1:((i+1:Nat):Int)=(i:Int)+1:=by omega
   rw[e1];exact he'
  ·obtain⟨o,ho,r⟩:=hit'.1
   exact⟨o,(sb.2 it (Ne.symm hne)).trans ho,r⟩
  ·have hb':b<s.heap.objs.size:=by
    have e':b=e∨b=it:=by simpa using hb
    rcases e' with z|z
    ·rw[z];exact hel
    ·rw[z];exact hil
   rw[upd_ne (Nat.ne_of_lt hb')]
   exact(hf b hb).1
 done:=by
  intro X hP hw hK hc i pins s σ H E I hf st hg
  subst hP hw hK
  obtain⟨⟨old,he⟩,hit,hne,hait,hae⟩:=st
  obtain⟨xs,hq,hx⟩:=hg
  obtain⟨its,rv,p,hz⟩:=I.tuple hq
  obtain⟨f0,f1,f2,f3,f4,f5⟩:=hf it (by simp)
  have hl:=rv.length
  have hsz:i=its.toArray.size:=by simp;omega
  subst hsz
  exact wpAny_pyNext_enum_endD (Draws.tuple (show X.A.in1.handled=none from I.ok.hd hc) it a hait its.toArray) he ⟨hit,(show s.heap.IsTuple a its.toArray from p)⟩ fun h' eb=>⟨rfl,I.turned (t':=s.toks) (fun b o hb q=>eb b o hb q) f0 f1 f3 f4 f5⟩
 self:=fun A i s Q E st h=>let⟨⟨_,he⟩,_⟩:=st;wpAny_pyIter_enum he h
def enumL:Nat→List D→List D
 | _,[] => []
 |i,x::xs=> .tup [.int (i:Int),x] ::enumL (i+1) xs
def enumD (x:D) (S:Store):R (List D):=match x with
 | .tup l=> .ok (enumL 0 l) S
 | .lst l=> .ok (enumL 0 l) S
 | .scr ns=> .ok (enumL 0 (ns.map .int)) S
 | _=> .bad
theorem enumL_get:∀(k:Nat) (l:List D) (i:Nat) (d:D),(enumL k l)[i]? =some d→∃x,l[i]? =some x∧d= .tup [.int ((k+i:Nat):Int),x]
 | _,[],i,d,h=>by simp[enumL] at h
 |k,x::xs,0,d,h=>by
  simp only[enumL,List.getElem?_cons_zero,Option.some.injEq] at h
  exact⟨x,rfl,h.symm⟩
 |k,x::xs,i+1,d,h=>by
  simp only[enumL,List.getElem?_cons_succ] at h ⊢
  obtain⟨y,h1,h2⟩:=enumL_get (k+1) xs i d h
  exact⟨y,h1,by rw[h2,show k+1+i=k+(i+1) by omega]⟩
theorem enumL_len:∀(k:Nat) (l:List D),(enumL k l).length=l.length
 | _,[] =>rfl
 |k,x::xs=>by simp[enumL,enumL_len (k+1) xs]
section
variable {G:GC} {X:Cx} {Wx:WX} {pos:Pos}
theorem new_pair {w:Wd} {T:Addr} {i:Int} {d:D} {v:V} (sr:SRep G w) (hT:w.H T=none) (r:Rep G w d v):
 ∃w'',w''.H=upd w.H T (.tup [.int i,v])∧WExt w w''∧w''.S=w.S∧SRep G w''∧Rep G w'' (.tup [.int i,d]) (.ref T):=by
 obtain⟨x,s,nm⟩:=new_ext (o:= .tup [.int i,v]) sr hT
 refine⟨w.put T (.tup [.int i,v]),rfl,x,rfl,s,?_⟩
 simp only[Rep]
 refine⟨T,[.int i,v],rfl, .inl ⟨?_,nm⟩,?_⟩
 ·exact upd_same
 ·simp only[RepL,Rep]
  exact⟨_,_,rfl,rfl,v,[],rfl,Rep.mono x _ _ r,rfl⟩
theorem it_enumT {w:Wd} {a:Addr} {vs:List V} {l:List D} (h:TupAt G w a vs l) (r:RepL G w l vs):ItOk G w (Itet G.K a) (enumL 0 l):=by
 have sq:∀(T:List Addr) w',Tok T w→WX' T w w'→SqT G.K w'.H a vs:=fun T w' hT x=>by
  rcases h with⟨h,nm⟩|h
  ·exact .inl (.inl (x.keepM hT h nm).1)
  ·exact .inr h.1
 refine⟨fun T w' hT x s i d e=> ?_,fun T w' hT x s=>⟨vs,sq T w' hT x,by rw[enumL_len,r.length]⟩⟩
 obtain⟨y,e1,rfl⟩:=enumL_get 0 l i d e
 obtain⟨v,q1,q2⟩:=r.get e1
 refine⟨⟨vs,v,sq T w' hT x,q1⟩,fun y H'' hy=> ?_⟩
 obtain⟨Tn,z,rfl,hTn,rfl,hy⟩:=hy
 have e2:=hy vs (sq T w' hT x)
 rw[q1] at e2;cases e2
 have:=new_pair (i:=((0+i:Nat):Int)) s hTn (Rep.monoT x hT _ _ q2)
 rw[show 0+i=i by omega] at this ⊢
 exact this
theorem it_enum {w:Wd} {a:Addr} {vs:List V} {l:List D} (h:(w.H a=some (.lst vs)∧¬Mut w a)∨Fz w a (.lst vs)∨KL G.K a vs) (r:RepL G w l vs):ItOk G w (Ite G.K a) (enumL 0 l):=by
 have sq:∀(T:List Addr) w',Tok T w→WX' T w w'→SqL G.K w'.H a vs:=fun T w' hT x=>by
  rcases h with⟨h,nm⟩|h|h
  ·exact .inl (.inl (x.keepM hT h nm).1)
  ·exact .inl (Fz.monoT x hT h).1
  ·exact .inr h
 refine⟨fun T w' hT x s i d e=> ?_,fun T w' hT x s=>⟨vs,sq T w' hT x,by rw[enumL_len,r.length];exact Nat.le_refl _⟩⟩
 obtain⟨y,e1,rfl⟩:=enumL_get 0 l i d e
 obtain⟨v,q1,q2⟩:=r.get e1
 refine⟨⟨vs,v,sq T w' hT x,q1⟩,fun y H'' hy=> ?_⟩
 obtain⟨Tn,z,rfl,hTn,rfl,hy⟩:=hy
 have e2:=hy vs (sq T w' hT x)
 rw[q1] at e2;cases e2
 have:=new_pair (i:=((0+i:Nat):Int)) s hTn (Rep.monoT x hT _ _ q2)
 rw[show 0+i=i by omega] at this ⊢
 exact this
def enumA:List D→Store→R (List D):=fun xs S=>match xs with
 | [x] =>enumD x S
 | _=> .bad
theorem q_enum {elts:List Expr} {kk:Nat} {tpos p:Pos} {e:Expr} {m:AD} (hK:X.K=G.K) (hg:Gl X "enumerate") (hm:X.mg "enumerate" =none) (ha:PA X [e] (tA G m Wx)) (hs:starEach [e] X.env= [(false,eval e X.env)] :=by rfl):
 PI X (.Tuple elts kk tpos) (.Call (.Name "enumerate" p) [e] [] pos) (tI G (iArgs enumA m) Wx):=by
 refine⟨fun pins s σ H R I q=> ?_⟩
 obtain⟨w,env,rfl,sr,er,p⟩:=q
 refine Call_ (ld_blt I hg hm boot_enumerate (PyProof.Rows.callWith_type1 (thn (ha.run pos pins s σ w.H _ I ⟨w,env,rfl,sr,er,Post.bind p⟩) fun us s1 ⟨vs,H1,I1,r1,q1⟩=> ?_) hs rfl))
 obtain⟨w1,ds,rfl,x1,sr1,rp1,p1⟩:=q1
 unfold enumA at p1
 split at p1
 ·rename_i d1
  simp only[RepL] at rp1
  obtain⟨v,r',rfl,rp1,rfl⟩:=rp1
  cases r1 with
  |cons r rr=>
   cases rr
   have lst:∀ {a:Addr} {vs:List V},SqL X.K w1.H a vs→R (Ite G.K a) w1.H→wpAny (model X.prog X.w) X.A (call (.type "enumerate") [.ref a]) (fun v s'=>wpAny (model X.prog X.w) X.A (pyIter v) (PIE X pins σ (.Tuple elts kk tpos) R) X.xe s') X.xe s1:=fun {a vs} hq q=>by
    obtain⟨its,rv,p',hz⟩:=I1.list hq
    refine call_enumerate_list p'.isList fun h' he hit hsz hk=>wpAny_pyIter_enum he ?_
    have I2:Inv X pins σ w1.H { s1 with heap:=h' } :=I1.kept (t':=s1.toks) hk
    refine⟨s1.heap.objs.size+1,[s1.heap.objs.size+1,s1.heap.objs.size],_,_,w1.H,rfl,I2,turn_enum a (s1.heap.objs.size+1) s1.heap.objs.size,⟨⟨.none,he⟩,hit,Nat.succ_ne_self _⟩,fun b hb=> ?_,by rw[hK];exact q⟩
    have e':b=s1.heap.objs.size+1∨b=s1.heap.objs.size:=by simpa using hb
    have hle:s1.heap.objs.size≤b:=by
     rcases e' with z|z
     ·rw[z];exact Nat.le_add_right _ _
     ·rw[z];exact Nat.le_refl _
    exact I1.fpOk hle (I1.hok.fresh hle)
   unfold enumD at p1
   split at p1
   ·rename_i l
    simp only[Rep] at rp1
    obtain⟨a,vs,rfl,hq,rl⟩:=rp1
    cases r
    have q:=p1 (Itet G.K a) w1 (.refl _) rfl sr1 (it_enumT hq rl)
    have hq':SqT X.K w1.H a vs:=by rw[hK];exact hq.imp (fun z=> .inl z.1) (fun z=>z.1)
    obtain⟨its,rv,p,hz⟩:=I1.tuple hq'
    have hT:s1.heap.IsTuple a its.toArray:=p
    have hal:a<s1.heap.objs.size:=by obtain⟨_,q,_⟩:=hT;exact Heap.lt_size q
    refine enum1 (begins_tuple a its.toArray) hT fun h' he hit hsz hk=>wpAny_pyIter_enum he ?_
    have I2:Inv X pins σ w1.H { s1 with heap:=h' } :=I1.kept (t':=s1.toks) hk
    refine⟨s1.heap.objs.size+1,[s1.heap.objs.size+1,s1.heap.objs.size],_,_,w1.H,rfl,I2,turn_enumT a (s1.heap.objs.size+1) s1.heap.objs.size,⟨⟨.none,he⟩,⟨_,hit,rfl,rfl⟩,Nat.succ_ne_self _,Nat.ne_of_lt hal,Nat.ne_of_lt (Nat.lt_succ_of_lt hal)⟩,fun b hb=> ?_,by rw[hK];exact q⟩
    have e':b=s1.heap.objs.size+1∨b=s1.heap.objs.size:=by simpa using hb
    have hle:s1.heap.objs.size≤b:=by
     rcases e' with z|z
     ·rw[z];exact Nat.le_add_right _ _
     ·rw[z];exact Nat.le_refl _
    exact I1.fpOk hle (I1.hok.fresh hle)
   ·rename_i l
    simp only[Rep] at rp1
    obtain⟨a,vs,rfl,hq,nm,rl⟩:=rp1
    cases r
    exact lst (vs:=vs) (.inl (.inl hq)) (p1 (Ite G.K a) w1 (.refl _) rfl sr1 (it_enum (.inl ⟨hq,nm⟩) rl))
   ·rename_i ns
    simp only[Rep] at rp1
    obtain⟨a,rfl,hq⟩:=rp1
    cases r
    exact lst (vs:=ns.map V.int) (by rw[hK];exact hq.imp (fun z=>z.1) id) (p1 (Ite G.K a) w1 (.refl _) rfl sr1 (it_enum (.inr hq) (RepL_ints.mpr rfl)))
   ·exact p1.elim
 ·exact p1.elim
end
end L3
namespace L3
open PySem PySem.Spec PyProof.Rows L2
section
variable {G:GC} {X:Cx} {w:Wd}
theorem RepL.dropLast:∀ {l:List D} {vs:List V},RepL G w l vs→RepL G w l.dropLast vs.dropLast
 | [],vs,h=>by
   have:vs= [] :=h
   subst this;exact h
 | [d],vs,h=>by
   obtain⟨v,r,rfl,_,h2⟩:=h
   have:r= [] :=h2
   subst this;simp[RepL]
 |d::e::l,vs,h=>by
  obtain⟨v,r,rfl,h1,h2⟩:=h
  obtain⟨v',r',rfl,h3,h4⟩:=id h2
  have:=RepL.dropLast h2
  exact⟨v,_,rfl,h1,this⟩
theorem RepL.eraseIdx:∀ {l:List D} {vs:List V} (k:Nat),RepL G w l vs→RepL G w (l.eraseIdx k) (vs.eraseIdx k)
 | [],vs,k,h=>by
   have:vs= [] :=h
   subst this;simpa using h
 |d::l,vs,0,h=>by
  obtain⟨v,r,rfl,h1,h2⟩:=h
  exact h2
 |d::l,vs,k+1,h=>by
  obtain⟨v,r,rfl,h1,h2⟩:=h
  exact⟨v,_,rfl,h1,RepL.eraseIdx k h2⟩
def popD:D→FN:=fun x xs S=>match lstAt x S,xs with
 |some (n,l),[] =>match l[l.length-1]? with
  |some d=> .ok d (S.set n (.lst l.dropLast))
  |none=> .bad
 |some (n,l),[.int i] =>match ixN l.length i with
  |some k=>match l[k]? with
   |some d=>if -(2 ^ 63)≤i∧i<2 ^ 63 then .ok d (S.set n (.lst (l.eraseIdx k))) else .bad
   |none=> .bad
  |none=> .bad
 | _,_=> .bad
theorem c_pop:CalmM popD:=fun x xs S=>by unfold popD;repeat' split
                                         all_goals trivial
theorem o_pop:MtR X "list.pop" (rM G popD):=mtI2 (MtR.or mt_pop mt_popAt) fun x xs H Q q=>by
 obtain⟨w,d,ds,rfl,sr,r1,rl,p⟩:=q
 unfold popD at p
 split at p
 ·rename_i n l he
  split at p
  ·rename_i d hd
   obtain⟨a,vs,rfl,hn,hm,h1,h2⟩:=lstAt_rep sr r1 he
   have:xs= [] :=rl
   subst this
   obtain⟨v,hv,rv⟩:=h2.get hd
   exact .inl ⟨a,vs,v,rfl,rfl,h1,by rw[h2.length];exact hv,set_lst sr hn hm h2.dropLast rv p⟩
  ·exact p.elim
 ·rename_i n l i he
  split at p
  ·rename_i k hk
   split at p
   ·rename_i d hd
    split at p
    ·rename_i hz
     obtain⟨a,vs,rfl,hn,hm,h1,h2⟩:=lstAt_rep sr r1 he
     simp only[RepL,Rep] at rl
     obtain⟨v,r',rfl,rfl,rfl⟩:=rl
     obtain⟨v,hv,rv⟩:=h2.get hd
     refine .inr ⟨a,vs,i,k,v,rfl,rfl,h1,hz.1,hz.2,?_,hv,set_lst sr hn hm (h2.eraseIdx k) rv p⟩
     rw[h2.length]
     exact(ixN_seq hk).1
    ·exact p.elim
   ·exact p.elim
  ·exact p.elim
 ·exact p.elim
def insertD:D→FN:=fun x xs S=>match lstAt x S,xs with
 |some (n,l),[.int i,y] =>if l.length<sizeLine∧0≤i∧i<2 ^ 63 then .ok .non (S.set n (.lst (l.take i.toNat++ [y] ++l.drop i.toNat))) else .bad
 | _,_=> .bad
theorem c_insert:CalmM insertD:=fun x xs S=>by unfold insertD;repeat' split
                                               all_goals trivial
theorem o_insert:MtR X "list.insert" (rM G insertD):=mtI2 mt_insert fun x xs H Q q=>by
 obtain⟨w,d,ds,rfl,sr,r1,rl,p⟩:=q
 unfold insertD at p
 split at p
 ·rename_i n l i y he
  split at p
  ·rename_i hz
   obtain⟨a,vs,rfl,hn,hm,h1,h2⟩:=lstAt_rep sr r1 he
   simp only[RepL,Rep] at rl
   obtain⟨v,r',rfl,rfl,v',r'',rfl,ry,rfl⟩:=rl
   exact⟨a,vs,i,v',rfl,rfl,h1,by rw[h2.length];exact hz.1,hz.2.1,hz.2.2,set_lst sr hn hm (((h2.take _).append (RepL.one ry)).append (h2.drop _)) (by simp[Rep]) p⟩
  ·exact p.elim
 ·exact p.elim
end
end L3
namespace L3
open PySem PySem.Spec PyProof.Rows L2
def dcL (g:GD) (tt:TD) (tk tv:ED) (env:EnvD):List D→List (Key × D)→Store→R (List (Key × D))
 | [],acc,S=> .ok acc S
 |x::xs,acc,S=>match g x env S with
  | .nx env1 S1=>(tt env1 S1).nox.bind fun k S2=>match k with
    |true=>(tk env1 S2).nox.bind fun y S3=>(tv env1 S3).nox.bind fun z S4=>match keyOf y with
     |some k=>dcL g tt tk tv env xs (putD acc k z) S4
     |none=> .bad
    |false=>dcL g tt tk tv env xs acc S2
  | _=> .bad
def eDc (mi:ID) (vs:List Nat) (g:GD) (tt:TD) (tk tv:ED):ED:=fun env S=>(mi env S).bind fun xs S1=>
 if xs.length≤sizeLine then(dcL g tt tk tv (wipeD env vs) xs [] S1).nox.bind fun kvs S2=> .ok (.dic (kvs.map (·.1)) (kvs.map (·.2))) S2 else .bad
end L3
namespace L3
open PySem PySem.Spec PyProof.Rows L2
def putFD (f:Str) (v:D):List (Str × D)→List (Str × D)
 | [] => [(f,v)]
 |(g,x)::r=>if g=f then(g,v)::r else(g,x)::putFD f v r
def insAt (x:D) (S:Store):Option (Nat × Str × List (Str × D)):=match x with
 | .obj n=>match S[n]? with
   |some (.ins c fs)=>some (n,c,fs)
   | _=>none
 | _=>none
def sFldD (cs:List Str) (f:Str) (mo mv:ED):SD:=fun env S=>(mv env S).toS env fun y S1=>(mo env S1).toS env fun x S2=>match insAt x S2 with
 |some (n,c,fs)=>if c ∈ cs∧fs.length<1000 then .nx env (S2.set n (.ins c (putFD f y fs))) else .bad
 |none=> .bad
def eMeth (c m:Str) (F:FN) (mo:ED) (ma:AD):ED:=fun env S=>(mo env S).bind fun x S1=>match insAt x S1 with
 |some (_,c',fs)=>if c'=c∧fs.lookup m=none then(ma env S1).bind fun xs S2=>F (x::xs) S2 else .bad
 |none=> .bad
def mkIns (c:Str) (F:FN):FN:=fun xs S=>match F (.obj S.length::xs) (S++ [.ins c []]) with
 | .ok d S1=>match d with
   | .non=> .ok (.obj S.length) S1
   | _=> .bad
 | .exc e S1=> .exc e S1
 | .bad=> .bad
def lv:Nat→Nat
 |0=>1
 |k+1=>lv k+2
end L3
namespace L3
open PySem PySem.Spec PyProof.Rows L2
section
variable {G:GC} {X:Cx} {Wx:WX} {pos:Pos}
def dictO:FN:=fun xs S=>match xs with
 | [x] =>match dkAt x S with
   |some kvs=> .ok (.obj S.length) (S++ [.dK kvs])
   |none=> .bad
 | _=> .bad
theorem c_dictO:CalmN dictO:=fun xs S=>by unfold dictO;repeat' split
                                          all_goals trivial
theorem o_dictO:CallR X (.type "dict") (rN G dictO):=caI2 call_dictD fun xs H Q q=>by
 obtain⟨w,ds,rfl,sr,rl,p⟩:=q
 unfold dictO at p
 split at p
 ·rename_i x
  split at p
  ·rename_i kvs hk
   simp only[RepL] at rl
   obtain⟨v,r',rfl,rx,rfl⟩:=rl
   obtain⟨a,vs,rfl,h1,h2⟩:=dkAt_rep sr rx hk
   refine⟨a,vs,rfl, .inl h1,fun p' hp=> ?_⟩
   obtain⟨x1,s1⟩:=new_obj (o:= .dK vs) (ob:= .dK kvs) sr hp fun w' xe e=>⟨vs,e,RepKV.mono xe _ _ h2⟩
   refine p (.ref p') _ x1 rfl s1 ?_
   show ∃a,(w.mu++ [p'])[w.S.length]? =some a∧_
   exact⟨p',by rw[← sr.len];simp,rfl⟩
  ·exact p.elim
 ·exact p.elim
def gSeq (is:List Nat):GD:=fun d env S=>match d with
 | .tup l=>gNames is l env S
 | .lst l=>gNames is l env S
 | _=> .bad
end
end L3
namespace L3
open PySem PySem.Spec PyProof.Rows L2
def frzD:F1:=fun x S=>match x with
 | .obj n=>match S[n]? with
   |some (.lst l)=> .ok (.lst l) (S.set n .dead)
   |some (.dK kvs)=> .ok (.dic (kvs.map (·.1)) (kvs.map (·.2))) (S.set n .dead)
   | _=> .bad
 |x=> .ok x S
theorem bury {G:GC} {w:Wd} {n:Nat} {a:Addr} {ob:O} (sr:SRep G w) (hn:w.S[n]? =some ob) (lv:ob.live) (hm:w.mu[n]? =some a):
 WExt w { w with S:=w.S.set n .dead } ∧SRep G { w with S:=w.S.set n .dead } ∧¬Mut { w with S:=w.S.set n .dead } a:=by
 have hl:=(List.getElem?_eq_some_iff.mp hn).1
 have back:∀(m:Nat) (o:O),(w.S.set n .dead)[m]? =some o→o.live→m≠n∧w.S[m]? =some o:=fun m o h lo=>by
  by_cases e:n=m
  ·subst e;rw[List.getElem?_set_self hl] at h;cases h;exact lo.elim
  ·rw[List.getElem?_set_ne e] at h;exact⟨fun z=>e z.symm,h⟩
 have mb:∀b,MutS { w with S:=w.S.set n .dead } b→MutS w b:=fun b ⟨m,o,h1,l1,h2⟩=>⟨m,o,(back m o h1 l1).2,l1,h2⟩
 have x:WExt w { w with S:=w.S.set n .dead } :=⟨fun _ _ h=>h,fun b u h nm _=>⟨h,fun m=>nm (mb b m)⟩,fun _ h=> .inl h,fun _ h=>h⟩
 refine⟨x,⟨by simp[sr.len],fun i j b o1 o2 h1 h2 l1 l2 m1 m2=>sr.inj i j b o1 o2 (back i o1 h1 l1).2 (back j o2 h2 l2).2 l1 l2 m1 m2,fun m o b h1 h2=> ?_,fun b hb=>⟨(sr.tm b hb).1,fun m=>(sr.tm b hb).2 (mb b m)⟩⟩,fun m=> ?_⟩
 ·by_cases e:n=m
  ·subst e;rw[List.getElem?_set_self hl] at h1;cases h1;trivial
  ·rw[List.getElem?_set_ne e] at h1
   exact(sr.obj m o b h1 h2).keep x noT fun _=>rfl
 ·rcases m with⟨m,o,h1,l1,h2⟩|m
  ·obtain⟨ne,q⟩:=back m o h1 l1
   exact ne (sr.inj m n a o ob q hn l1 lv h2 hm)
  ·exact(sr.tm a m).2 ⟨n,ob,hn,lv,hm⟩
theorem frz_rep {G:GC} {w:Wd} {x y:D} {v:V} {S':Store} (sr:SRep G w) (r:Rep G w x v) (e:frzD x w.S= .ok y S'):∃w',WExt w w'∧w'.S=S'∧w'.H=w.H∧SRep G w'∧Rep G w' y v:=by
 unfold frzD at e
 split at e
 ·rename_i n
  simp only[Rep] at r
  obtain⟨a,hm,rfl⟩:=r
  split at e
  ·rename_i l hn
   cases e
   obtain⟨vs,h1,h2⟩:=sr.obj n _ a hn hm
   obtain⟨x,s,nm⟩:=bury sr hn trivial hm
   refine⟨_,x,rfl,rfl,s,?_⟩
   simp only[Rep]
   exact⟨a,vs,rfl,h1,nm,RepL.mono x _ _ h2⟩
  ·rename_i kvs hn
   cases e
   obtain⟨vs,h1,h2⟩:=sr.obj n _ a hn hm
   obtain⟨x,s,nm⟩:=bury sr hn trivial hm
   obtain⟨us,eu,ru⟩:=h2.parts
   refine⟨_,x,rfl,rfl,s,?_⟩
   simp only[Rep]
   exact⟨a,us,rfl,by rw[← eu];exact h1,nm,by simp,RepL.mono x _ _ ru⟩
  ·cases e
 ·cases e
  exact⟨w, .refl w,rfl,rfl,sr,r⟩
section
variable {G:GC} {X:Cx} {Wx:WX}
theorem q_frz {e:Expr} {m:ED} (h:PE X e (tE G m Wx)):PE X e (tE G (e1 frzD m) Wx):=peI h fun σ H Q q=>by
 obtain⟨w,env,rfl,sr,er,p⟩:=q
 refine⟨w,env,rfl,sr,er,(Post.bind (Ra:=Rep G) p).mono (fun v H1 ⟨w1,d,eH,x,s1,r1,p1⟩=> ?_) fun _ _ _ h=>h⟩
 subst eH
 replace p1:Post G w1 (frzD d w1.S) (Rep G) Q (fun C dx H'=>Wx C dx σ H'):=p1
 cases hf:frzD d w1.S with
 |ok y S'=>
  obtain⟨w2,x2,e2,eh,s2,r2⟩:=frz_rep s1 r1 hf
  rw[hf] at p1
  have:=p1 v w2 x2 e2 s2 r2
  rw[eh] at this
  exact this
 |exc _ _=>simp only[frzD] at hf;split at hf<;>(try split at hf)<;>cases hf
 |bad=>rw[hf] at p1;exact p1.elim
def sFrz (i:Nat) (m:SD):SD:=fun env S=>match env[i]? with
 |some (some x)=>match frzD x S with
  | .ok y S'=>m (env.set i (some y)) S'
  | _=> .bad
 | _=> .bad
theorem q_sfrz {st:Stmt} {i:Nat} {m:SD} (h:PS X st (tS G m Wx)):PS X st (tS G (sFrz i m) Wx):=psI h fun D σ H q=>by
 obtain⟨w,env,rfl,sr,er,p⟩:=q
 unfold sFrz at p
 split at p
 ·rename_i x hx
  split at p
  ·rename_i y S' hf
   obtain⟨v,hv,rv⟩:=er.at' i x hx
   obtain⟨w2,x2,e2,eh,s2,r2⟩:=frz_rep sr rv hf
   subst e2
   have er2:ERep G w2 (env.set i (some y)) σ :=by
    have:=(er.mono x2).set i r2
    have es: σ.set i (some v)= σ :=by
     apply List.ext_getElem?
     intro j
     by_cases hj:i=j
     ·subst hj
      rw[List.getElem?_set_self (List.getElem?_eq_some_iff.mp hv).1,hv]
     ·rw[List.getElem?_set_ne hj]
    rw[es] at this;exact this
   exact⟨w2,_,eh,s2,er2,PostS.shift (r:=m (env.set i (some y)) w2.S) x2 p⟩
  ·exact p.elim
 ·exact p.elim
end
end L3
namespace L3
open PySem PySem.Spec PyProof.Rows L2
def cEnds (M:Model) (A:Around) (E:Value→Shared→Prop) (use:Option (Value→Sem Unit)) (Q:Value→Shared→Prop) (acc:Value) (ce:Env) (r:Result) (z:Shared):Prop:=
 match r with
 | .ok f=>compPost M A E use Q acc ce.locals (.ok f) z
 | .error x=>∃mm,z.heap.Ns ce.locals mm∧∀hh,Heap.SameBut ce.locals z.heap hh→wpAny M A (passOn "comprehension.variables-let-go" x ce:Sem Value) (fun _ _=>False) E { z with heap:=hh }
theorem comp_walk {M:Model} {A:Around} {E:Value→Shared→Prop} {z:Shared} {env:Env} {e:Expr} {sc:Scope} {pos:Pos} {mk first:Sem Value} {g:Comprehension} {gs:List Comprehension} {cl:List (Str × Addr)} {use:Option (Value→Sem Unit)} {Q:Value→Shared→Prop}
 (eg:clausesOf e=g::gs) (ef:∀x,foldedSetIterable g.iter env x=pure x) (ec:closureFor sc env=pure cl) (ek:sc.kind= .function) (en:∀y ∈ sc.names,y.2= .local→sc.names.lookup y.1=some .local)
 (go:wpAny M A first (fun x z1=>wpAny M A (pyIter x) (fun it z2=>wpAny M A mk (fun acc z3=>wpAny M A (newFunctionEnv sc env.globals cl [] env.qual none .none (some env)) (fun ce z4=>
   codeAny M A (.compStart e 0 it acc { ce with scope:=relabel sc env }) (cEnds M A E use Q acc { ce with scope:=relabel sc env }) z4) E z3) E z2) E z1) E z):
 wpAny M A (comprehension e sc env pos mk false first use) Q E z:=by
 unfold comprehension
 rw[ec,eg]
 refine wpAny_bind (wpAny_mono go (fun x z1 g1=> ?_) fun _ _ q=>q)
 refine wpAny_bind (wpAny_standAt (wpAny_bind (wpAny_of_eq (ef x) ?_)))
 refine wpAny_bind (wpAny_holding (wpAny_mono g1 (fun it z2 g2=> ?_) fun _ _ q=>q))
 refine wpAny_standIf (wpAny_bind (wpAny_mono g2 (fun acc z3 g3=> ?_) fun _ _ q=>q))
 refine wpAny_bind (wpAny_pure (wpAny_bind (wpAny_mono g3 (fun ce z4 g4=> ?_) fun _ _ q=>q)))
 dsimp only
 have loc:∀l:List (Str × NameKind),(∀ y ∈ l,y ∈ sc.names)→∀y ∈ l,y.2= .local→Env.kindOf { ce with scope:=relabel sc env } y.1=some .local:=fun l hl y hy q=>lookup_relabel_local (en y (hl y hy) q)
 have sub:∀y ∈ (sc.names.filter fun y=>(y.2== .local || y.2== .cell)&&y.1 != (".0" :Str)).reverse,y ∈ sc.names:=fun y hy=>(List.mem_filter.mp (List.mem_reverse.mp hy)).1
 have sub2:∀y ∈ (sc.names.filter fun y=>(y.2== .local || y.2== .cell)&&y.1 != (".0" :Str)).reverse.drop 1++(sc.names.filter fun y=>(y.2== .local || y.2== .cell)&&y.1 != (".0" :Str)).reverse.take 1,y ∈ sc.names:=fun y hy=>
  (List.mem_append.mp hy).elim (fun k=>sub y (List.mem_of_mem_drop k)) fun k=>sub y (List.mem_of_mem_take k)
 refine wpAny_holding (wpAny_bind (wpAny_attempt (wpAny_holding (wpAny_run (codeAny_mono g4 fun r z5 q5=> ?_)))))
 match r,use,q5 with
 | .ok f,none,⟨mm,n1,k1⟩=>exact wpAny_bind (wpAny_holding (wpAny_comp_letGo (cenv:= { ce with scope:=relabel sc env }) ek _ z5 mm (loc _ sub) n1 fun hh _ _ sb=>wpAny_pure (k1 hh sb)))
 | .ok f,some u,q5=>
   refine wpAny_bind (wpAny_rule (wpAny_bind (wpAny_holding (wpAny_mono q5 (fun _ z6 q6=> ?_) fun _ _ q=>q))))
   obtain⟨mm,n1,k1⟩:=q6
   exact wpAny_bind (wpAny_comp_letGo (cenv:= { ce with scope:=relabel sc env }) ek _ z6 mm (loc _ sub2) n1 fun hh _ _ sb=>wpAny_pure (k1 hh sb))
 | .error x,use,⟨mm,n1,k1⟩=>exact wpAny_bind (wpAny_holding (wpAny_comp_letGo (cenv:= { ce with scope:=relabel sc env }) ek _ z5 mm (loc _ sub) n1 fun hh _ _ sb=>wpAny_mono (k1 hh sb) (fun _ _ f=>f.elim) fun _ _ q=>q))
section
open PySem.HandSPX
variable {M:Model} {A:Around} {E:Value→Shared→Prop} {z:Shared} {env:Env} {out:List Env} {F x:Addr} {ZZ:Obj→Prop} {B:Heap}
theorem note_any {fl:Value} {Q:Unit→Shared→Prop} (st:Steady ZZ) (fr:A.frames=some (env::out)) (ef:env.frame=some F) (k:B.StaysIn z.heap) (n:B.get? x=none) (ff:z.heap.FunFrames B (env::out)) (tr:TracedZ z.heap B x ZZ fl)
 (hq:∀hh,HeldZ B (env::out) x ZZ F hh→z.heap.UpToSlots hh→Q () { z with heap:=hh }):wpAny M A (noteFrame (.ref x) env) Q E z:=by
 obtain⟨o1,v1,tb,o2,v2,g1,z1,d1,i1,nb,ne,g2,d2,i2⟩:=tr
 by_cases same:(fl==rawInt F)=true
 ·refine againZ ef ⟨o1,v1,tb,o2,v2,g1,z1,d1,i1,nb,ne,g2,d2,by rw[i2,beq_iff_eq.mp same]⟩ ?_
  have:=hq z.heap ⟨k,n,ff,⟨o1,v1,tb,o2,v2,g1,z1,d1,i1,nb,ne,g2,d2,by rw[i2,beq_iff_eq.mp same]⟩⟩ fun b o e _=>⟨o.slots,e⟩
  exact this
 ·unfold noteFrame
  simp only[ef]
  refine wpAny_bind (wpAny_field g1 d1 i1 ?_)
  rw[if_pos (by simp:(Value.ref tb != Value.none)=true)]
  refine wpAny_bind (wpAny_field g2 d2 i2 ?_)
  rw[if_neg same]
  have sz:=(Array.getElem?_eq_some_iff.mp i2).1
  refine wpAny_bind (wpAny_setField g2 d2 sz ?_)
  have oth:∀b,b≠tb→(z.heap.update tb (Obj.mapFields (·.setIfInBounds 3 Value.none))).get? b=z.heap.get? b:=fun b hb=>Heap.get?_update_other _ _ fun q=>hb q.symm
  have nrec:∀b o,z.heap.get? b=some o→(∀ w,o.data≠ .fields w)→b≠tb:=fun b o e nf q=>by subst q;rw[g2] at e;cases e;exact nf _ d2
  have inB:∀b o,B.get? b=some o→b≠tb:=fun b o e q=>by subst q;rw[nb] at e;cases e
  refine wpAny_entryZ st fr (ff.of_keeps fun b o e nf=>⟨o,(oth b (nrec b o e nf)).trans e,rfl⟩) ef ((oth x ne.symm).trans g1) (fun b o e=>(oth b (inB b o e)).trans (k b o e)) n d1 (Array.getElem?_eq_some_iff.mp i1).1 z1 fun hh nt=> ?_
  obtain⟨a1,a2,a3,a4⟩:=nt
  exact hq hh ⟨a1,n,a2,a3⟩ fun b o e nf=>a4 b o ((oth b (nrec b o e nf)).trans e) nf
theorem note_sky {G:Addr} {Q:Unit→Shared→Prop} (st:Steady ZZ) (fr:A.frames=some (env::out)) (ef:env.frame=some F) (sky:Sky B (env::out) x ZZ G z.heap)
 (hq:∀hh,HeldZ B (env::out) x ZZ F hh→z.heap.UpToSlots hh→Q () { z with heap:=hh }):wpAny M A (noteFrame (.ref x) env) Q E z:=by
 rcases sky with⟨k,n,ff,oe,vs,g,zz,d,i⟩|⟨k,n,ff,t⟩|⟨k,n,ff,t⟩
 ·exact look_newZ st fr ff ef g k n d i zz hq
 ·exact note_any st fr ef k n ff t hq
 ·exact note_any st fr ef k n ff t hq
end
end L3
namespace L3
open PySem PySem.Spec PyProof.Rows L2
open PySem.HandSPX (HeldZ FlyingZ TracedZ)
theorem note_env {x:Value} {e1 e2:Env} (h:e1.frame=e2.frame):noteFrame x e1=noteFrame x e2:=by
 unfold noteFrame PySem.frameOf
 rw[h]
theorem frames_far {B B' h h':Heap} {C:Addr} (hh:∀b,b≠C→h'.get? b=h.get? b) (hB:∀b,b≠C→B'.get? b=B.get? b):∀ {l:List Env},(∀ b ∈ frs l,b≠C)→h.FunFrames B l→h'.FunFrames B' l
 | [],_,_=>trivial
 |e::l,nc,⟨k,⟨F,o,ef,n,g,d⟩,r⟩=>by
  have m:F ∈ frs (e::l):=List.mem_filterMap.mpr ⟨e,List.mem_cons_self,ef⟩
  have nF:=nc F m
  refine⟨k,⟨F,o,ef,(hB F nF).trans n,(hh F nF).trans g,d⟩,frames_far hh hB (fun b hb=>nc b ?_) r⟩
  obtain⟨q,q1,q2⟩:=List.mem_filterMap.mp hb
  exact List.mem_filterMap.mpr ⟨q,List.mem_cons_of_mem _ q1,q2⟩
section
variable {X:Cx} {Wx We:WX}
theorem blk_raise {pins:List (Addr × Obj)} {s3 s4:Shared} {σ σ4:L2.St} {H3:Hp} {fp:List Addr} {ce:Env} {sc:Scope} {xe:Value→Shared→Prop} {use:Option (Value→Sem Unit)} {Qf:Value→Shared→Prop} {acc:Value}
 (st:X.stack=X.env::X.outer) (fr:X.env.frame=some X.env.locals) (tk:Takes X Wx) (hW:∀cls d τ τ' H,We cls d τ' H→Wx cls d τ H)
 (I3:Inv X pins σ H3 s3) (hfp:∀b ∈ fp,FpOk X pins H3 b) (cf:ce.frame=X.env.frame) (cL:ce.locals=s3.heap.objs.size) (I4:Inv ((X.blk s3 H3 sc ce fp).wish xe) [] σ4 H3 s4):
 ∀u z,XE ((X.blk s3 H3 sc ce fp).wish xe) We u z→wpAny (model X.prog X.w) X.A (noteFrame u ce) (fun _ z'=>cEnds (model X.prog X.w) X.A X.xe use Qf acc ce (.error u) z') (fun _ _=>False) z:=by
 rintro u z ⟨a,B,sI,pI,σI,HI,cls,dx,rfl,II,nb,up,sky,na,os,ag,w⟩
 have frs3:∀b ∈ frs X.stack,b<s3.heap.objs.size:=fun b hb=>by
  obtain⟨_,o,g,_⟩:=I3.stack.mem hb
  exact Heap.lt_size g
 have nC:∀b ∈ frs X.stack,b≠ce.locals:=fun b hb q=>by have:=frs3 b hb;rw[q,cL] at this;exact Nat.lt_irrefl _ this
 have sky':Sky B (X.env::X.outer) a (Zc cls dx) ce.locals z.heap:=by rw[← st];exact sky
 have frA:X.A.frames=some (X.env::X.outer):=by rw[I3.ok.frames,st]
 rw[note_env cf]
 refine note_sky Zc.steady frA fr sky' fun h1 held up1=> ?_
 obtain⟨mm,nsI,_⟩:=id II.loc
 have nsI:sI.heap.Ns ce.locals mm:=nsI
 have toB:∀o,sI.heap.get? ce.locals=some o→B.get? ce.locals=some o:=fun o e=>nb _ o e fun q=>nC _ q rfl
 have ns1:h1.Ns ce.locals mm:=nsI.at fun o e=>held.1 _ o (toB o e)
 refine⟨mm,ns1,fun h2 sb=> ?_⟩
 have far:∀b,b≠ce.locals→h2.get? b=h1.get? b:=fun b q=>sb.2 b q
 obtain⟨B',b1,b2⟩:=restrict B fun b=>decide (b≠ce.locals)
 have bB:∀b,b≠ce.locals→B'.get? b=B.get? b:=fun b q=>b1 b (decide_eq_true q)
 have bC:B'.get? ce.locals=none:=b2 _ (by simp)
 have inB:∀b o,B'.get? b=some o→b≠ce.locals∧B.get? b=some o:=fun b o e=>by
  have q:b≠ce.locals:=fun q=>by rw[q,bC] at e;cases e
  exact⟨q,by rw[← bB b q];exact e⟩
 obtain⟨k1,k2,k3,oe,vs,tb,ot,ts,ga,za,da,ia,ntb,ne,gt,dt,it⟩:=id held
 have rec_ne:∀b o v,h1.get? b=some o→o.data= .fields v→b≠ce.locals:=fun b o v g d q=>by
  obtain⟨oc,es,ep,gc,dc,_⟩:=ns1
  rw[q,gc] at g;cases g
  rw[dc] at d;cases d
 have aC:=rec_ne a oe vs ga da
 have tC:=rec_ne tb ot ts gt dt
 have frX:∀b ∈ frs (X.env::X.outer),b≠ce.locals:=fun b hb=>nC b (by rw[st];exact hb)
 have held2:HeldZ B' (X.env::X.outer) a (Zc cls dx) X.env.locals h2:=
  ⟨fun b o e=>by obtain⟨q,e'⟩:=inB b o e;rw[far b q];exact k1 b o e',by rw[bB a aC];exact k2,frames_far far bB frX k3,
    oe,vs,tb,ot,ts,(far a aC).trans ga,za,da,ia,by rw[bB tb tC];exact ntb,ne,(far tb tC).trans gt,dt,it⟩
 obtain⟨G,g1,g2⟩:=restrict sI.heap fun b=>decide (b≠ce.locals)
 have gG:∀b,b≠ce.locals→G.get? b=sI.heap.get? b:=fun b q=>g1 b (decide_eq_true q)
 have inG:∀b o,G.get? b=some o→b≠ce.locals∧sI.heap.get? b=some o:=fun b o e=>by
  have q:b≠ce.locals:=fun q=>by rw[q,g2 _ (by simp)] at e;cases e
  exact⟨q,by rw[← gG b q];exact e⟩
 have I5:Inv X pins σ HI sI:=I3.call' (ch:=fp) II.os II.base II.hok II.bare fun b hb=>⟨(hfp b hb).2.2.2.1,(hfp b hb).2.1,(hfp b hb).2.2.2.2.1,(hfp b hb).2.2.2.2.2⟩
 have fC:FpOk X pins HI ce.locals:=by rw[cL];exact I3.fpOk (Nat.le_refl _) (by have q:HI ce.locals=none:=II.free;rw[cL] at q;exact q)
 have I6:Inv X pins σ HI { sI with heap:=G } :=I5.turned (t':=sI.toks) (it:=ce.locals) (fun b o q e=>by rw[gG b q];exact e) fC.1 fC.2.1 fC.2.2.2.1 fC.2.2.2.2.1 fC.2.2.2.2.2
 unfold PySem.passOn
 refine wpAny_bind (wpAny_field ((far a aC).trans ga) da ia ?_)
 rw[if_neg (show ¬((Value.ref tb==Value.none)=true) from by simp),cf,fr]
 have fin:wpAny (model X.prog X.w) X.A (setFlight (.ref a) (some X.env.locals)) (fun _ z4=>wpAny (model X.prog X.w) X.A (throw (.ref a):Sem Value) (fun _ _=>False) X.xe z4) X.xe { z with heap:=h2 } :=by
  refine PySem.HandSPX.setFlight_onZ held2 fun h3 held3 up3=>wpAny_throw (tk _ _ ?_)
  refine⟨a,B',{ sI with heap:=G },pins,σ,HI,cls,dx,rfl,I6,fun b o e hb=> ?_,fun b o e nf=> ?_, .inr (.inr (by rw[st];exact held3)),na,os,ag,hW cls dx σ σI HI w⟩
  ·obtain⟨q,e'⟩:=inG b o e
   rw[bB b q]
   exact nb b o e' hb
  ·obtain⟨q,e'⟩:=inG b o e
   obtain⟨sl1,e1⟩:=up b o e' nf
   obtain⟨sl2,e2⟩:=up1 b _ e1 nf
   have e3:h2.get? b=some { o with slots:=sl2 } :=(far b q).trans e2
   obtain⟨sl3,e4⟩:=up3 b _ e3 nf
   exact⟨sl3,e4⟩
 first
  |exact wpAny_bind (wpAny_pure (wpAny_bind fin))
  |exact wpAny_bind fin
end
end L3
namespace L3
open PySem PySem.Spec PyProof.Rows L2
section
variable {X:Cx} {Wx We:WX}
theorem lcx_core {pins:List (Addr × Obj)} {s:Shared} {σ :L2.St} {H:Hp} {Q:VK} {elt tg iter:Expr} {ifs:List Expr} {scope:Scope} {own:List (Str × Nat)} {pos pos':Pos} {wi:TI} {g:TG} {tt:TT} {te:TE} {use:Option (Value→Sem Unit)} {Qf:Value→Shared→Prop}
 (st:X.stack=X.env::X.outer) (fr:X.env.frame=some X.env.locals) (tk:Takes X Wx) (hW:∀cls d τ τ' H,We cls d τ' H→Wx cls d τ H)
 (hc:X.calm=true) (hN:X.N.Nodup) (I:Inv X pins σ H s) (hi:PI X tg iter wi) (ok:BlkOk X.N X.env.scope scope own)
 (hg:∀(s:Shared) (H:Hp) (C:Addr) (cl:List (Str × Addr)) (fp:List Addr) (xe:Value→Shared→Prop),PG ((X.blk s H scope (compEnvC scope cl C X.env) fp).wish xe) tg g)
 (ht:∀(s:Shared) (H:Hp) (C:Addr) (cl:List (Str × Addr)) (fp:List Addr) (xe:Value→Shared→Prop),PTs ((X.blk s H scope (compEnvC scope cl C X.env) fp).wish xe) ifs tt)
 (he:∀(s:Shared) (H:Hp) (C:Addr) (cl:List (Str × Addr)) (fp:List Addr) (xe:Value→Shared→Prop),Takes ((X.blk s H scope (compEnvC scope cl C X.env) fp).wish xe) We→PE ((X.blk s H scope (compEnvC scope cl C X.env) fp).wish xe) elt te)
 (hs:∀x,foldedSetIterable iter X.env x=pure x) (h:tLc wi g tt te (own.map (·.2)) σ H Q)
 (hR:∀D C s' m H',Inv X pins σ H' s'→Q (.ref D) H'→s'.heap.Ns C m→FpOk X pins H' C→compPost (model X.prog X.w) X.A X.xe use Qf (.ref D) C (.ok .next) s'):
 wpAny (model X.prog X.w) X.A (comprehension (.ListComp elt [⟨tg,iter,ifs,0⟩] scope pos) scope X.env pos' (newList []) false (eval iter X.env) use) Qf X.xe s:=by
 have capt:∀y ∈ scope.names,y.2= .free→∃c,X.env.cells.lookup y.1=some c:=fun y hy e=>(ok.free y hy e).elim (fun k=>I.ok.has _ (.inl k)) fun k=>I.ok.has _ (.inr k)
 refine comp_walk (use:=use) rfl hs (closure_ok capt) ok.kind (fun y hy e=>by rw[ok.uniq y hy,e]) (thn (hi.run pins s σ H _ I h) fun xv s1 hx=>thn hx fun itv s2 h2=> ?_)
 obtain⟨it,fp,tn,J,H2,rfl,I2,T,t2,f2,q⟩:=h2
 refine wpAny_newObj_type (newEnv_comp ?_) (by show 0≤sizeLine;decide)
 obtain⟨D,hD⟩:∃D,s2.heap.objs.size=D:=⟨_,rfl⟩
 rw[hD]
 obtain⟨W,⟨m0,w0⟩,turn⟩:=q D (I2.hok.fresh (Nat.le_of_eq hD))
 obtain⟨s3,e3⟩:∃s3:Shared,({ s2 with heap:=s2.heap.push { cls:= .type "list",data:= .seq ([] :List Value).toArray } } :Shared)=s3:=⟨_,rfl⟩
 obtain⟨H3,eH3⟩:∃H3:Hp,upd H2 D (.lst [])=H3:=⟨_,rfl⟩
 have hp3:s3.heap=s2.heap.push { cls:= .type "list",data:= .seq ([] :List Value).toArray } :=by rw[← e3]
 have k3:∀b o,s2.heap.get? b=some o→s3.heap.get? b=some o:=fun b o e=>by rw[hp3];exact Heap.get?_push_of_some _ e
 have I3:Inv X pins σ H3 s3:=by
  rw[← e3,←eH3]
  refine I2.laid (t':=s2.toks) (fun b o e=>Heap.get?_push_of_some _ e) (Nat.le_of_eq hD) ⟨Nat.zero_le _,[],0, .nil,?_⟩
  rw[← hD]
  exact Heap.get?_push_size _ rfl
 have f3:∀b ∈ fp,FpOk X pins H3 b∧b<s3.heap.objs.size:=fun b hb=>by
  obtain⟨o,e,_⟩:=T.obj _ _ t2 b hb
  have l:=Heap.lt_size e
  refine⟨⟨?_,(f2 b hb).2⟩,Heap.lt_size (k3 b o e)⟩
  rw[← eH3,upd_ne (by rw[← hD];exact Nat.ne_of_lt l)]
  exact(f2 b hb).1
 have t3:tn 0 s3.heap:=T.keep _ _ _ t2 fun b _ o e=>k3 b o e
 have I4:=block_start I3 ok hN f3
 have pg:=hg s3 H3 s3.heap.objs.size (cellsFrom (s3.heap.objs.size+1) scope.names (cloFrom X.env.cells scope.names [])) fp
 have pt:=ht s3 H3 s3.heap.objs.size (cellsFrom (s3.heap.objs.size+1) scope.names (cloFrom X.env.cells scope.names [])) fp
 have pe:=he s3 H3 s3.heap.objs.size (cellsFrom (s3.heap.objs.size+1) scope.names (cloFrom X.env.cells scope.names [])) fp
 rw[e3]
 show codeAny _ _ (.compStart (.ListComp elt [⟨tg,iter,ifs,0⟩] scope pos) 0 (.ref it) (.ref D) (compEnvC scope (cellsFrom (s3.heap.objs.size+1) scope.names (cloFrom X.env.cells scope.names [])) s3.heap.objs.size X.env))
  (cEnds (model X.prog X.w) X.A X.xe use Qf (.ref D) (compEnvC scope (cellsFrom (s3.heap.objs.size+1) scope.names (cloFrom X.env.cells scope.names [])) s3.heap.objs.size X.env)) { s3 with heap:=pushCells (s3.heap.push { cls:= .type "dict",data:= .dict #[] }) scope.names }
 rw[eH3] at w0
 have cf:(compEnvC scope (cellsFrom (s3.heap.objs.size+1) scope.names (cloFrom X.env.cells scope.names [])) s3.heap.objs.size X.env).frame=X.env.frame:=rfl
 have cL:(compEnvC scope (cellsFrom (s3.heap.objs.size+1) scope.names (cloFrom X.env.cells scope.names [])) s3.heap.objs.size X.env).locals=s3.heap.objs.size:=rfl
 generalize compEnvC scope (cellsFrom (s3.heap.objs.size+1) scope.names (cloFrom X.env.cells scope.names [])) s3.heap.objs.size X.env=ce at I4 pg pt pe cf cL ⊢
 have t4:tn 0 (pushCells (s3.heap.push { cls:= .type "dict",data:= .dict #[] }) scope.names):=T.keep _ _ _ t3 fun b _ o e=>pushCells_keeps _ _ _ _ (Heap.get?_push_of_some _ e)
 obtain⟨xe,exe⟩:∃xe:Value→Shared→Prop,(notedBy (model X.prog X.w) X.A ce fun e z=>cEnds (model X.prog X.w) X.A X.xe use Qf (.ref D) ce (.error e) z)=xe:=⟨_,rfl⟩
 have I4:=I4.wish xe
 have tkb:Takes ((X.blk s3 H3 scope ce fp).wish xe) We:=fun u z xx=>by
  show xe u z
  rw[← exe]
  exact wpAny_mono (blk_raise (xe:=xe) (use:=use) (Qf:=Qf) (acc:= .ref D) st fr tk hW I3 (fun b hb=>(f3 b hb).1) cf cL I4 u z xx) (fun _ _ y=>y) fun _ _ y=>y.elim
 have pg:=pg xe
 have pt:=pt xe
 have pe:=pe xe tkb
 have nfp:∀b ∈ fp,H3 b=none:=fun b hb=>(f3 b hb).1.1
 have stat:∀ {σ':L2.St} {H':Hp} {z:Shared},Inv ((X.blk s3 H3 scope ce fp).wish xe) [] σ' H' z→(∀ b ∈ fp,H' b=none)→∀b ∈ fp,FpOk ((X.blk s3 H3 scope ce fp).wish xe) [] H' b:=fun {σ' H' z} Iz hn b hb=>
  ⟨hn b hb,(Iz.ok.exf b hb).1,Iz.ok.exfs b hb, .inl hb,fun x c e=>(Iz.ok.exf b hb).2 x c e,fun p hp=>absurd (show p ∈ ([] :List (Addr × Obj))++ [] from hp) (by simp)⟩
 have loop:codeAny (model X.prog X.w) X.A (.compLoop (.ListComp elt [⟨tg,iter,ifs,0⟩] scope pos) 0 (.ref it) (.ref D) ce) (cEnds (model X.prog X.w) X.A X.xe use Qf (.ref D) ce) { s3 with heap:=pushCells (s3.heap.push { cls:= .type "dict",data:= .dict #[] }) scope.names } :=by
  refine compLoop_any (fun n z=>∃i Hz,Inv ((X.blk s3 H3 scope ce fp).wish xe) [] (L2.wipe σ (own.map (·.2))) Hz z∧tn i z.heap∧(∀ b ∈ fp,Hz b=none)∧W i n Hz) ?_ m0 ⟨0,H3,I4,t4,nfp,w0⟩
  rw[exe]
  rintro n s5 ⟨i,H5,I5,t5,n5,w5⟩
  rcases turn i n H5 w5 with⟨stop,qq⟩|⟨more,Nx,hNx,step⟩
  ·refine thn (T.done ((X.blk s3 H3 scope ce fp).wish xe) rfl rfl rfl hc i [] s5 _ H5 xe I5 (stat I5 n5) t5 stop) fun r s6 ⟨er,I6⟩=> ?_
   subst er
   have I7:Inv X pins σ H5 s6:=I3.call' (ch:=fp) I6.os I6.base I6.hok I6.bare fun b hb=>⟨(f3 b hb).1.2.2.2.1,(f3 b hb).1.2.1,(f3 b hb).1.2.2.2.2.1,(f3 b hb).1.2.2.2.2.2⟩
   obtain⟨m,hn,_⟩:=id I6.loc
   have hn:s6.heap.Ns ce.locals m:=hn
   have nC:H5 ce.locals=none:=I6.free
   exact hR D ce.locals s6 m H5 I7 qq hn (by rw[cL] at nC ⊢;exact I3.fpOk (Nat.le_refl _) nC)
  ·refine thn (T.item ((X.blk s3 H3 scope ce fp).wish xe) rfl rfl rfl hc i [] s5 _ H5 xe I5 (stat I5 n5) t5 more) fun r s6 ⟨u,er,h6⟩=> ?_
   subst er
   refine thn h6 fun _ s7 ⟨x,H7,I7,r7,y7,t7,n7⟩=> ?_
   have I7p:=I7.pinned (stat I7 n7) (T.obj _ _ t7)
   refine thn (pg.run _ s7 _ H7 x u _ I7p r7 (step x H7 y7)) fun _ s8 ⟨σ8,H8,I8,ew8,q8⟩=> ?_
   refine thn (pt.run _ s8 σ8 H8 _ I8 q8) fun b s9 ⟨H9,I9,q9⟩=> ?_
   have fin:∀ {z:Shared} {Hz:Hp},Inv ((X.blk s3 H3 scope ce fp).wish xe) ([] ++pinsAt fp s7.heap) σ8 Hz z→Nx Hz→∃m,m<n∧∃i Hz,Inv ((X.blk s3 H3 scope ce fp).wish xe) [] (L2.wipe σ (own.map (·.2))) Hz z∧tn i z.heap∧(∀ b ∈ fp,Hz b=none)∧W i m Hz:=fun {z Hz} Iz nx=>by
    obtain⟨m',lt,w'⟩:=hNx Hz nx
    have pin:∀b ∈ fp,∀o,s7.heap.get? b=some o→z.heap.get? b=some o∧Hz b=none:=fun b hb o e=>
     let y:=Iz.pin (b,o) (List.mem_append_right _ (List.mem_append_right _ (mem_pinsAt hb e)))
     ⟨y.1,y.2.1⟩
    refine⟨m',lt,i+1,Hz,(Iz.unpinned (pins:= [])).weak (by rw[← ew8,wipe_length]) (fun j v e=>(wipe_some (by rw[ew8];exact e)).1),T.keep _ _ _ t7 fun b hb o e=>(pin b hb o e).1,fun b hb=> ?_,w'⟩
    obtain⟨o,e,_⟩:=T.obj _ _ t7 b hb
    exact(pin b hb o e).2
   cases b with
   |false=>
    simp only[Bool.false_eq_true,if_false] at q9 ⊢
    exact fin I9 q9
   |true=>
    simp only[if_true] at q9 ⊢
    refine thn (pe.run _ s9 σ8 H9 _ I9 q9) fun y s10 ⟨yv,H10,I10,r10,a,eD,zD,nx⟩=> ?_
    exact app_ok (X:=(X.blk s3 H3 scope ce fp).wish xe) I10 eD zD r10 fun s11 I11=>fin I11 nx
 exact codeAny_compStart_list loop (T.self X.A 0 _ _ _ t4 loop)
theorem pe_lcx {elt tg iter:Expr} {ifs:List Expr} {scope:Scope} {own:List (Str × Nat)} {pos:Pos} {wi:TI} {g:TG} {tt:TT} {te:TE}
 (st:X.stack=X.env::X.outer) (fr:X.env.frame=some X.env.locals) (tk:Takes X Wx) (hW:∀cls d τ τ' H,We cls d τ' H→Wx cls d τ H)
 (hc:X.calm=true) (hN:X.N.Nodup) (hi:PI X tg iter wi) (ok:BlkOk X.N X.env.scope scope own)
 (hg:∀(s:Shared) (H:Hp) (C:Addr) (cl:List (Str × Addr)) (fp:List Addr) (xe:Value→Shared→Prop),PG ((X.blk s H scope (compEnvC scope cl C X.env) fp).wish xe) tg g)
 (ht:∀(s:Shared) (H:Hp) (C:Addr) (cl:List (Str × Addr)) (fp:List Addr) (xe:Value→Shared→Prop),PTs ((X.blk s H scope (compEnvC scope cl C X.env) fp).wish xe) ifs tt)
 (he:∀(s:Shared) (H:Hp) (C:Addr) (cl:List (Str × Addr)) (fp:List Addr) (xe:Value→Shared→Prop),Takes ((X.blk s H scope (compEnvC scope cl C X.env) fp).wish xe) We→PE ((X.blk s H scope (compEnvC scope cl C X.env) fp).wish xe) elt te)
 (hs:∀x,foldedSetIterable iter X.env x=pure x:=by intro _;rfl):PE X (.ListComp elt [⟨tg,iter,ifs,0⟩] scope pos) (tLc wi g tt te (own.map (·.2))):=by
 refine⟨fun pins s σ H Q I h=> ?_⟩
 rw[eval_ListComp]
 refine lcx_core st fr tk hW hc hN I hi ok hg ht he hs h fun D C z m Hz Iz q n f=>⟨m,n,fun hh sb=> ?_⟩
 exact⟨.ref D,Hz,Iz.turned (t':=z.toks) (fun b o hb e=>(sb.2 b hb).trans e) f.1 f.2.1 f.2.2.2.1 f.2.2.2.2.1 f.2.2.2.2.2,rfl,q⟩
theorem ps_setLcx {i:Nat} {y:Str} {py:Pos} {elt tg iter:Expr} {ifs:List Expr} {scope:Scope} {own:List (Str × Nat)} {pos spos:Pos} {wi:TI} {g:TG} {tt:TT} {te:TE}
 (st:X.stack=X.env::X.outer) (fr:X.env.frame=some X.env.locals) (tk:Takes X Wx) (hW:∀cls d τ τ' H,We cls d τ' H→Wx cls d τ H)
 (hc:X.calm=true) (hN:X.N.Nodup) (hy:X.N[i]? =some y) (hyl:X.env.scope.names.lookup y=some .local)
 (hsw:swapsWith (.ListComp elt [⟨tg,iter,ifs,0⟩] scope pos) (some (.Name y py)) spos.line X.env=pure true) (hi:PI X tg iter wi) (ok:BlkOk X.N X.env.scope scope own)
 (hg:∀(s:Shared) (H:Hp) (C:Addr) (cl:List (Str × Addr)) (fp:List Addr) (xe:Value→Shared→Prop),PG ((X.blk s H scope (compEnvC scope cl C X.env) fp).wish xe) tg g)
 (ht:∀(s:Shared) (H:Hp) (C:Addr) (cl:List (Str × Addr)) (fp:List Addr) (xe:Value→Shared→Prop),PTs ((X.blk s H scope (compEnvC scope cl C X.env) fp).wish xe) ifs tt)
 (he:∀(s:Shared) (H:Hp) (C:Addr) (cl:List (Str × Addr)) (fp:List Addr) (xe:Value→Shared→Prop),Takes ((X.blk s H scope (compEnvC scope cl C X.env) fp).wish xe) We→PE ((X.blk s H scope (compEnvC scope cl C X.env) fp).wish xe) elt te)
 (hs:∀x,foldedSetIterable iter X.env x=pure x:=by intro _;rfl):PS X (.Assign [.Name y py] (.ListComp elt [⟨tg,iter,ifs,0⟩] scope pos) spos) (tAsg (tLc wi g tt te (own.map (·.2))) (L2.gName i)):=by
 refine⟨fun pins s σ H D I h=> ?_⟩
 rw[exec_Assign_Name_used _ _ _ _ hsw]
 refine wpAny_bind (wpAny_standAt (wpAny_bind ?_))
 show wpAny _ X.A (do let _ ←comprehension (.ListComp elt [⟨tg,iter,ifs,0⟩] scope pos) scope X.env (firstIterPos [⟨tg,iter,ifs,0⟩] pos) (newList []) false (eval iter X.env) (some (assign (.Name y py) X.env))) _ _ s
 have h:tLc wi g tt te (own.map (·.2)) σ H (fun x H1=>L2.gName i x σ H1 D.nx):=h
 refine wpAny_bind (thn (lcx_core (Qf:=fun _ z=>SP X pins D .next z) st fr tk hW hc hN I hi ok hg ht he hs h fun L C z m Hz Iz q n f=> ?_) fun _ z q=>wpAny_pure (wpAny_pure q))
 show wpAny _ _ (assign (.Name y py) X.env (.ref L)) _ _ _
 refine wpAny_assign_Name (store_ok2 (v:=V.ref L) Iz hN hy (.inl hyl) rfl (fun z2 I2 ⟨a,sb,ha⟩=> ?_) (.inr hyl))
 have ne:C≠a:=ha.elim (fun e=>by rw[e];exact f.2.1) fun k e=>f.2.2.2.2.1 y a k e.symm
 exact⟨m,n.sameBut sb ne,fun h3 sb3=>⟨_,Hz,I2.turned (t':=z2.toks) (fun b o hb e=>(sb3.2 b hb).trans e) f.1 f.2.1 f.2.2.2.1 f.2.2.2.2.1 f.2.2.2.2.2,q⟩⟩
end
end L3
namespace L3
open PySem PySem.Spec PyProof.Rows L2
def lcLx (g:GD) (tt:TD) (te:ED) (env:EnvD):List D→Store→R (List D)
 | [],S=> .ok [] S
 |x::xs,S=>match g x env S with
  | .nx env1 S1=>(tt env1 S1).nox.bind fun k S2=>match k with
    |true=>(te env1 S2).bind fun y S3=>(lcLx g tt te env xs S3).bind fun ys S4=> .ok (y::ys) S4
    |false=>lcLx g tt te env xs S2
  | _=> .bad
def eLcx (mi:ID) (vs:List Nat) (g:GD) (tt:TD) (te:ED):ED:=fun env S=>(mi env S).bind fun xs S1=>
 if xs.length≤sizeLine then(lcLx g tt te (wipeD env vs) xs S1).bind fun ys S2=> .ok (.lst ys) S2 else .bad
section
variable {G:GC} {X:Cx} {Wx:WX} {pos:Pos}
theorem imp_lcx {E:XK} {mi:ID} {vs:List Nat} {g:GD} {tt:TD} {te:ED} :∀ σ H Q,tE G (eLcx mi vs g tt te) (WE0 E) σ H Q→tLc (tI G mi (WE0 E)) (tGW G g vs) (tT G tt WF) (tE G te (WE0 E)) vs σ H Q:=by
 intro σ H Q q
 obtain⟨w,env,rfl,sr,er,p⟩:=q
 refine⟨w,env,rfl,sr,er,(Post.bind (Ra:=fun w' xs (J:It)=>ItOk G w' J xs) p).mono (fun J H1 m=> ?_) fun _ _ _ h=>h⟩
 obtain⟨w1,xs,rfl,x1,s1,io,p1⟩:=m
 intro L hL
 have hfr:∀a ∈ [L],w1.H a=none:=fun a h=>by have:a=L:=by simpa using h
                                            rw[this];exact hL
 by_cases hz:xs.length≤sizeLine
 ·rw[if_pos hz] at p1
  have er1:=(er.mono x1).wipe vs
  have h0:WX' [L] w1 ⟨w1.mu,w1.S,upd w1.H L (.lst []),L::w1.tmp⟩:=
   ⟨fun _ _ h=>h,fun a o h nm ha=>⟨(upd_ne (by simpa using ha)).trans h,nm⟩,fun a h=>by
     rcases List.mem_cons.mp h with e|h
     ·exact .inr (by simp[e])
     ·exact .inl h,fun a h=>List.mem_cons_of_mem _ h⟩
  have nL: ¬MutS w1 L:=fun m=>by obtain⟨u,e⟩:=MutS.there s1 m;rw[hL] at e;cases e
  have sW:SRep G ⟨w1.mu,w1.S,upd w1.H L (.lst []),L::w1.tmp⟩:=by
   refine⟨s1.len,s1.inj,fun n ob a h1 h2=> ?_,fun a ha=> ?_⟩
   ·have h:=s1.obj n ob a h1 h2
    refine h.keep h0 (fr_tok hfr) fun lv=> ?_
    obtain⟨u,e⟩:=h.there lv
    exact upd_ne (ne_of_none e hL)
   ·rcases List.mem_cons.mp ha with e|ha
    ·subst e;exact⟨⟨⟨_,by first|assumption|(intro _ h;cases h)⟩,upd_same⟩,nL⟩
    ·obtain⟨⟨u,e⟩,nm⟩:=s1.tm a ha
     exact⟨⟨u,(upd_ne (ne_of_none e hL)).trans e⟩,nm⟩
  refine⟨fun i m H=>∃w3 acc us,w3.H=H∧SRep G w3∧WX' [L] w1 w3∧L ∈ w3.tmp∧w3.H L=some (.lst us)∧RepL G w3 acc us∧acc.length≤i∧i+m=xs.length∧
   (lcLx g tt te (wipeD env vs) xs w1.S)=(lcLx g tt te (wipeD env vs) (xs.drop i) w3.S).bind fun ys S2=> .ok (acc++ys) S2,
   ⟨xs.length,_,[],[],rfl,sW,h0,by simp,upd_same,by simp[RepL],Nat.le_refl _,by omega,?_⟩,fun i m H hW=> ?_⟩
  ·simp only[List.drop_zero,List.nil_append,R.bind_ok]
  obtain⟨w3,acc,us,rfl,s3,x3,tm3,hL3,ra3,hlen,em,eq⟩:=hW
  rw[eq] at p1
  by_cases hi:i<xs.length
  ·have e:xs[i]? =some xs[i] :=List.getElem?_eq_getElem hi
   obtain⟨go,yl⟩:=io.go [L] w3 (fr_tok hfr) x3 s3 i xs[i] e
   refine .inr ⟨go,fun H'=>∃w5 acc us,w5.H=H'∧SRep G w5∧WX' [L] w1 w5∧L ∈ w5.tmp∧w5.H L=some (.lst us)∧RepL G w5 acc us∧acc.length≤i+1∧(i+1)+(m-1)=xs.length∧
    (lcLx g tt te (wipeD env vs) xs w1.S)=(lcLx g tt te (wipeD env vs) (xs.drop (i+1)) w5.S).bind fun ys S2=> .ok (acc++ys) S2,fun H' hN=>⟨m-1,by omega,hN⟩,fun x H' hy=> ?_⟩
   obtain⟨w4,rfl,x4,eS4,s4,rp4⟩:=yl x H' hy
   have x14:WX' [L] w1 w4:=WX'.trans x3 (WX'.wide x4)
   refine⟨w4,wipeD env vs,xs[i],rfl,s4,er1.monoT x14 (fr_tok hfr),rp4,?_⟩
   rw[List.drop_eq_getElem_cons hi,lcLx] at eq p1
   rw[eS4]
   cases hg:g xs[i] (wipeD env vs) w3.S with
   |nx env5 S5=>
    rw[hg] at eq p1
    simp only at eq p1
    intro σ5 w5 x5 e5 s5 er5 hw
    subst e5
    refine⟨hw.trans (wipe_sub fun _ h=>h),w5,env5,rfl,s5,er5,?_⟩
    cases ht:tt env5 w5.S with
    |ok k S6=>
     rw[ht] at eq p1
     simp only[R.nox,R.bind] at eq p1
     intro b w6 x6 e6 s6 hb
     subst hb e6
     have x46:WExt w4 w6:=WX'.trans x5 x6
     have x16:WX' [L] w1 w6:=WX'.trans x14 (WX'.wide x46)
     have hL6:w6.H L=some (.lst us):=(x46.keep L _ ((x4.keep L _ hL3 ((s3.tm L tm3).2) (by simp)).1) ((s4.tm L (x4.tmp' L tm3)).2) (by simp)).1
     have tm6:L ∈ w6.tmp:=x46.tmp' L (x4.tmp' L tm3)
     have ra6:RepL G w6 acc us:=RepL.mono (WX'.trans x4 x46) _ _ ra3
     cases k with
     |false=>
      refine iteF ⟨w6,acc,us,rfl,s6,x16,tm6,hL6,ra6,by omega,by omega,?_⟩
      simpa using eq
     |true=>
      refine iteT ⟨w6,env5,rfl,s6,er5.mono x6,?_⟩
      simp only at eq p1
      cases hte:te env5 w6.S with
      |ok y S7=>
       rw[hte] at eq p1
       simp only[R.bind] at eq p1
       intro v w7 x7 e7 s7 r7
       subst e7
       have hL7:w7.H L=some (.lst us):=(x7.keep L _ hL6 ((s6.tm L tm6).2) (by simp)).1
       have tm7:L ∈ w7.tmp:=x7.tmp' L tm6
       have nm7: ¬MutS w7 L:=(s7.tm L tm7).2
       have lu:us.length=acc.length:=ra3.length
       refine⟨us,hL7,by omega,?_⟩
       have x8:WX' [L] w7 (w7.put L (.lst (us++ [v]))):=⟨fun _ _ h=>h,fun a o h nm ha=>⟨(upd_ne (by simpa using ha)).trans h,nm⟩,fun a h=> .inl h,fun a h=>h⟩
       have t8:Tok [L] w7:=fun a h=> .inl (by have:a=L:=by simpa using h
                                              rw[this];exact tm7)
       have s8:SRep G (w7.put L (.lst (us++ [v]))):=by
        refine⟨s7.len,s7.inj,fun n ob a h1 h2=> ?_,fun a ha=> ?_⟩
        ·have h:=s7.obj n ob a h1 h2
         exact h.keep x8 t8 fun lv=>upd_ne fun e=>nm7 (by subst e;exact⟨n,ob,h1,lv,h2⟩)
        ·obtain⟨⟨u,e⟩,nm⟩:=s7.tm a ha
         by_cases ea:a=L
         ·subst ea;exact⟨⟨⟨_,by first|assumption|(intro _ h;cases h)⟩,upd_same⟩,nm⟩
         ·exact⟨⟨u,(upd_ne ea).trans e⟩,nm⟩
       refine⟨_,acc++ [y],us++ [v],rfl,s8,WX'.trans (WX'.trans x16 (WX'.wide x7)) x8,tm7,upd_same,?_,by simp;omega,by omega,?_⟩
       ·exact(RepL.monoT x8 t8 _ _ (RepL.mono x7 _ _ ra6)).append (RepL.one (Rep.monoT x8 t8 _ _ r7))
       ·rw[eq]
        show _=(lcLx g tt te (wipeD env vs) (List.drop (i+1) xs) w7.S).bind _
        cases lcLx g tt te (wipeD env vs) (List.drop (i+1) xs) w7.S<;>simp[R.bind]
      |exc ee S7=>
       rw[hte] at p1
       simp only[R.bind] at p1
       intro C dx w7 x7 e7 s7 xr
       subst e7
       have x17:WX' [L] w1 w7:=WX'.trans x16 (WX'.wide x7)
       have tinc:∀a,a ∈ w1.tmp→a ∈ w7.tmp:=x17.tmp'
       have we:WExt w1 { w7 with tmp:=w1.tmp } :=⟨x17.mu,fun a o h nm _=>x17.keep a o h nm (by
        intro ha
        have:a=L:=by simpa using ha
        rw[this,hL] at h;cases h),fun a h=> .inl h,fun a h=>h⟩
       refine p1 C dx { w7 with tmp:=w1.tmp } we rfl (s7.untmp tinc) ?_
       obtain⟨h1,h2⟩:=xr
       refine⟨h1,h2.imp id fun⟨d,kvs,e1,e2,nm,rk⟩=>⟨d,kvs,e1,e2,fun m=>nm (m.imp id (tinc d)),RepKV.untmp tinc _ _ rk⟩⟩
      |bad=>rw[hte] at p1;exact p1.elim
    |exc ee S6=>rw[ht] at p1;exact p1.elim
    |bad=>rw[ht] at p1;exact p1.elim
   |ret _ _=>rw[hg] at p1;exact p1.elim
   |brk _ _=>rw[hg] at p1;exact p1.elim
   |ct _ _=>rw[hg] at p1;exact p1.elim
   |exc _ _ _=>rw[hg] at p1;exact p1.elim
   |bad=>rw[hg] at p1;exact p1.elim
  ·have ei:i=xs.length:=by omega
   subst ei
   refine .inl ⟨io.stop [L] w3 (fr_tok hfr) x3 s3,?_⟩
   rw[List.drop_length] at p1
   have we:WExt w1 { w3 with tmp:=w1.tmp } :=⟨x3.mu,fun a o h nm _=>x3.keep a o h nm (by
    intro ha
    have:a=L:=by simpa using ha
    rw[this,hL] at h;cases h),fun a h=> .inl h,fun a h=>h⟩
   have tinc:∀a,a ∈ w1.tmp→a ∈ w3.tmp:=x3.tmp'
   have se:SRep G { w3 with tmp:=w1.tmp } :=s3.untmp tinc
   have nmL: ¬Mut { w3 with tmp:=w1.tmp } L:=fun m=>m.elim (s3.tm L tm3).2 fun z=>by
    obtain⟨⟨u,e⟩,_⟩:=s1.tm L z
    rw[hL] at e;cases e
   have hr:Rep G { w3 with tmp:=w1.tmp } (.lst (acc++ [])) (.ref L):=by
    simp only[Rep,List.append_nil]
    exact⟨L,us,rfl,hL3,nmL,RepL.untmp tinc _ _ ra3⟩
   exact p1 (.ref L) { w3 with tmp:=w1.tmp } we rfl se hr
 ·rw[if_neg hz] at p1;exact p1.elim
theorem q_lcx {E:XK} {elt tg iter:Expr} {ifs:List Expr} {scope:Scope} {own:List (Str × Nat)} {mi:ID} {g:GD} {mt:TD} {me:ED} (st:X.stack=X.env::X.outer) (fr:X.env.frame=some X.env.locals) (tk:Takes X (WE0 E)) (hc:X.calm=true) (hN:X.N.Nodup) (hi:PI X tg iter (tI G mi (WE0 E))) (ok:BlkOk X.N X.env.scope scope own)
 (hg:∀(s:Shared) (H:Hp) (C:Addr) (cl:List (Str × Addr)) (fp:List Addr) (xe:Value→Shared→Prop),PG ((X.blk s H scope (compEnvC scope cl C X.env) fp).wish xe) tg (tGW G g (own.map (·.2))))
 (ht:∀(s:Shared) (H:Hp) (C:Addr) (cl:List (Str × Addr)) (fp:List Addr) (xe:Value→Shared→Prop),PTs ((X.blk s H scope (compEnvC scope cl C X.env) fp).wish xe) ifs (tT G mt WF))
 (he:∀(s:Shared) (H:Hp) (C:Addr) (cl:List (Str × Addr)) (fp:List Addr) (xe:Value→Shared→Prop),Takes ((X.blk s H scope (compEnvC scope cl C X.env) fp).wish xe) (WE0 E)→PE ((X.blk s H scope (compEnvC scope cl C X.env) fp).wish xe) elt (tE G me (WE0 E))) (hs:∀x,foldedSetIterable iter X.env x=pure x:=by intro _;rfl):
 PE X (.ListComp elt [⟨tg,iter,ifs,0⟩] scope pos) (tE G (eLcx mi (own.map (·.2)) g mt me) (WE0 E)):=peI (pe_lcx (We:=WE0 E) st fr tk (fun _ _ _ _ _ h=>h) hc hN hi ok hg ht he hs) imp_lcx
theorem q_setLcx {E:XK} {i:Nat} {y:Str} {py:Pos} {elt tg iter:Expr} {ifs:List Expr} {scope:Scope} {own:List (Str × Nat)} {spos:Pos} {mi:ID} {g:GD} {mt:TD} {me:ED} (st:X.stack=X.env::X.outer) (fr:X.env.frame=some X.env.locals) (tk:Takes X (WE0 E)) (hc:X.calm=true) (hN:X.N.Nodup) (hy:X.N[i]? =some y) (hyl:X.env.scope.names.lookup y=some .local)
 (hsw:swapsWith (.ListComp elt [⟨tg,iter,ifs,0⟩] scope pos) (some (.Name y py)) spos.line X.env=pure true) (hi:PI X tg iter (tI G mi (WE0 E))) (ok:BlkOk X.N X.env.scope scope own)
 (hg:∀(s:Shared) (H:Hp) (C:Addr) (cl:List (Str × Addr)) (fp:List Addr) (xe:Value→Shared→Prop),PG ((X.blk s H scope (compEnvC scope cl C X.env) fp).wish xe) tg (tGW G g (own.map (·.2))))
 (ht:∀(s:Shared) (H:Hp) (C:Addr) (cl:List (Str × Addr)) (fp:List Addr) (xe:Value→Shared→Prop),PTs ((X.blk s H scope (compEnvC scope cl C X.env) fp).wish xe) ifs (tT G mt WF))
 (he:∀(s:Shared) (H:Hp) (C:Addr) (cl:List (Str × Addr)) (fp:List Addr) (xe:Value→Shared→Prop),Takes ((X.blk s H scope (compEnvC scope cl C X.env) fp).wish xe) (WE0 E)→PE ((X.blk s H scope (compEnvC scope cl C X.env) fp).wish xe) elt (tE G me (WE0 E))) (hs:∀x,foldedSetIterable iter X.env x=pure x:=by intro _;rfl):
 PS X (.Assign [.Name y py] (.ListComp elt [⟨tg,iter,ifs,0⟩] scope pos) spos) (tS G (sAsg (eLcx mi (own.map (·.2)) g mt me) (gName i)) (WE0 E)):=psI (ps_setLcx (We:=WE0 E) st fr tk (fun _ _ _ _ _ h=>h) hc hN hy hyl hsw hi ok hg ht he hs) fun D σ H q=>by
 obtain⟨w,env,rfl,sr,er,p⟩:=q
 refine imp_lcx σ w.H _ ⟨w,env,rfl,sr,er,(PostS.ofR (Ra:=Rep G) er p).mono (fun x H1 m=> ?_) fun _ _ _ h=>h⟩
 obtain⟨w1,d1,rfl,x1,s1,rp1,p1⟩:=m
 exact p1 _ w1 (.refl w1) rfl s1 ((er.mono x1).set i rp1)
end
end L3
namespace L3
open PySem PySem.Spec PyProof.Rows L2
structure Oxc (K:PySem.W.Frag) (C:Addr) (B newId initId:String) (bmB:List Value):Prop where
 F:ExcBaseFacts B newId initId bmB
 SF:StoreFacts B bmB "object.__setattr__" "object"
 ini:PySem.W.excInitIn K C bmB newId=true
 ovr:PySem.W.excOver K C bmB=true
 sa:PySem.W.findIn K (.ref C) "__setattr__" =some (some (.builtin "object.__setattr__"))
 exC:PySem.W.subIn K (.ref C) (.type "BaseException")=some true
 tyC:PySem.W.typeIn K (.ref C)=some (.type "type")
 kC:PySem.W.keepIn K (.ref C)=true
 hd:PySem.W.hasDictIn K C=true
section
variable {X:Cx} {pins:List (Addr × Obj)} {σ :L2.St} {H:Hp} {s:Shared} {a C:Addr} {f:Str} {y:V} {u:Value} {Q:Unit→Shared→Prop} {E:Value→Shared→Prop} {A:Around} {B newId initId:String} {bmB:List Value}
theorem store1 (T:Oxc X.K C B newId initId bmB) (I:Inv X pins σ H s) (e:H a=some (exo a C none)) (no:PySem.W.findIn X.K (.ref C) f=some none) (ry:RelV y u)
 (h:∀dx s',H dx=none→dx≠a→Inv X pins σ (upd (upd H dx (exd dx [(f,y)])) a (exo a C (some dx))) s'→Q () s'):wpAny (model X.prog X.w) A (setAttr (.ref a) f u) Q E s:=by
 obtain⟨t1,ho⟩:=exo_at I.hok e
 have tk:PySem.W.takerIn X.K C f=some none:=by unfold PySem.W.takerIn;rw[no];rfl
 obtain⟨cd,hcd,hdd⟩:=PySem.W.any_some T.hd
 obtain⟨hp,g,d,t,os⟩:=s
 refine PySem.W.set_plain I.kIn (od:=none) ⟨ho,rfl,rfl,trivial⟩ T.sa ?_
 refine PySem.W.osa_openX (od:=none) T.SF I.kIn ⟨ho,rfl,rfl,trivial⟩ T.ovr tk fun b=> ?_
 have lx:a<hp.objs.size:=Heap.lt_size ho
 refine wpAny_bind (wpAny_pure (wpAny_bind (PySem.W.instanceDict_exc (c2:= .none) ho (PySem.W.looks_clsIn I.kIn hcd) hdd ?_)))
 obtain⟨dx,edx⟩:∃dx,hp.objs.size=dx:=⟨_,rfl⟩
 show wpAny _ _ (Builtin.ObjectAttr.storeInDict hp.objs.size (.str f _) f u) _ _ _
 have nsz:a≠hp.objs.size:=Nat.ne_of_lt lx
 have emp:((hp.push (PySem.W.dictOf [] 0)).update a fun o=> { o with dict:=some hp.objs.size }).Ns hp.objs.size fun _=>none:=
  ⟨_,#[],_,(Heap.get?_update_ne _ _ _ _ nsz.symm).trans (Heap.get?_push_at rfl rfl),rfl,fun e he=>absurd he (by simp),fun _=>rfl⟩
 refine PySem.HandSPX.store_in_new emp fun h2 tk2 ns2 sb2=> ?_
 have hn:H hp.objs.size=none:=I.hok.fresh (Nat.le_refl _)
 have gx:h2.get? a=some ({ cls:= .ref C,dict:=some hp.objs.size,data:= .fields #[.ref t1, .none, .none, .none, .bool false, .none] } :Obj):=
  (sb2.2 a nsz).trans (Heap.get?_update_self _ (Heap.get?_push_of_some _ ho) rfl)
 have keep:∀b o,b≠a→hp.get? b=some o→h2.get? b=some o:=fun b o hb q=>
  (sb2.2 b (Nat.ne_of_lt (Heap.lt_size q))).trans ((Heap.get?_update_ne _ _ _ _ hb).trans (Heap.get?_push_of_some _ q))
 have na:∀ {b:Addr},H b=none→b≠a:=fun {b} n z=>by rw[z,e] at n;cases n
 have nd:∀ {b:Addr} {o:Obj},hp.get? b=some o→b≠hp.objs.size:=fun {b o} q=>Nat.ne_of_lt (Heap.lt_size q)
 have un:Un X.fs [] H (upd (upd H hp.objs.size (exd hp.objs.size [(f,y)])) a (exo a C (some hp.objs.size))) hp h2:= {
  keep:=fun b o q n _ _=>keep b o (na n) q
  slot:=fun b o q n _ _=>⟨_,keep b o (na n) q⟩
  free:=fun b o q n _=>(upd_ne (na n)).trans ((upd_ne (nd q)).trans n)
  there:=fun b o q _=>if hb:b=a then⟨_,hb▸gx⟩ else⟨o,keep b o hb q⟩
  tups:=fun b xs q=>(upd_ne (at_ne e q exo_tup)).trans ((upd_ne (ne_of_none q hn)).trans q)
  frzs:=fun b o v q=>(upd_ne (at_ne e q exo_frz)).trans ((upd_ne (ne_of_none q hn)).trans q)
  tbls:=fun b ps q=>⟨#[],by rw[upd_ne (at_ne e q exo_tbl),upd_ne (ne_of_none q hn),q];simp⟩ }
 refine h _ _ hn (fun z=>nsz z.symm) (I.un (t':=tk2) un fun b o q=> ?_)
 by_cases hb:b=a
 ·subst hb
  rw[upd_same] at q;cases q
  exact exo_ok gx
 ·rw[upd_ne hb] at q
  by_cases hd:b=hp.objs.size
  ·subst hd
   rw[upd_same] at q;cases q
   exact exd_ok ns2 (relO_put (fs:= []) ry fun _=>trivial)
  ·rw[upd_ne hd] at q
   refine(I.hok b o q).stay (fun c v hc z=>keep c v (hc.elim (fun k=>by rw[k];exact hb) fun k=>at_ne e k exo_own) z) (fun c hc=>(upd_ne (at_ne e hc exo_own)).trans ((upd_ne (ne_of_none hc hn)).trans hc)) fun c xs hc=>(upd_ne (at_ne e hc exo_tup)).trans ((upd_ne (ne_of_none hc hn)).trans hc)
end
def tSto (K:PySem.W.Frag) (C:Addr) (f:Str) (to te:TE):TS:=fun D σ H=>te σ H fun y H1=>to σ H1 fun x H2=>∃a:Addr,x= .ref a∧H2 a=some (exo a C none)∧∀dx,H2 dx=none→dx≠a→D.nx σ (upd (upd H2 dx (exd dx [(f,y)])) a (exo a C (some dx)))
theorem ps_sto {X:Cx} {o e:Expr} {to te:TE} {f:Str} {p' pos:Pos} {C:Addr} {B newId initId:String} {bmB:List Value} (T:Oxc X.K C B newId initId bmB) (no:PySem.W.findIn X.K (.ref C) f=some none) (ho:PE X o to) (he:PE X e te)
 (hs:swapsWith e (some (.Attribute o f p')) pos.line X.env=pure false:=by rfl):PS X (.Assign [.Attribute o f p'] e pos) (tSto X.K C f to te):=
 ⟨fun pins s σ H D I h=>plainObj_wpAny_Assign_Attribute (thn (he.run pins s σ H _ I h) fun v s1 ⟨y,H1,I1,r1,q1⟩=>thn (ho.run pins s1 σ H1 _ I1 q1) fun u s2 ⟨x,H2,I2,r2,a,ex,ea,q⟩=>by
   subst ex
   obtain rfl:u=Value.ref a:=r2
   exact store1 T I2 ea no r1 fun dx s' n ne J=>⟨σ,_,J,q dx n ne⟩) hs⟩
def spI (C:Addr) (f:Str):Sp:=fun vs H Q _=>∃(a:Addr) (y:V),vs= [.ref a,y] ∧H a=some (exo a C none)∧∀dx,H dx=none→dx≠a→Q .non (upd (upd H dx (exd dx [(f,y)])) a (exo a C (some dx)))
theorem pmk_one {X:Cx} {x:Str} {e:Expr} {te:TE} {p pos:Pos} {C fI:Addr} {k:Nat} {fd:FuncData} {ps:List Str} {f:Str} {B newId initId:String} {bmB:List Value} (T:Oxc X.K C B newId initId bmB) (iC:PySem.W.findIn X.K (.ref C) "__init__" =some (some (.ref fI))) (tI:PySem.W.typeIn X.K (.ref fI)=some (.type "function"))
 (F1:FnG X.prog X.w X.K X.mg X.base k fI fd ps (spI C f)) (hr:RoomG (k+1) X.A) (hb:Binds X.K fd ps []) (hg:Gl X x) (hm:X.mg x=some (.ref C)) (he:PE X e te)
 (hdb:(x==("__debug__" :Str))=false:=by decide) (hs:starEach [e] X.env=(false,eval e X.env)::starEach [] X.env:=by rfl):
 PMk X (.Call (.Name x p) [e] [] pos) (fun σ H Q=>te σ H fun y H1=>∀d,H1 d=none→Q (.ref C) (some d) (upd H1 d (.xd [(f,y)]))):=by
 intro pins s σ H Q I h
 refine wpAny_Call_Name_kw (ld_glob I hg hm ?_ hdb)
 refine PySem.W.callWith_K (h₀ :=X.base) I.ok.mod.kin T.kC ?_ hs (by rfl)
 rw[hs]
 show wpAny _ _ (spliced ((false,eval e X.env)::backTo pos (starEach [] X.env))) _ _ s
 refine Calls.spliced_cons (thn (he.run pins s σ H _ I h) fun u s1 ⟨y,H1,I1,ry,q1⟩=> ?_)
 refine Calls.spliced_nil ⟨I1.kIn,?_⟩
 show wpAny _ _ (call (.ref C) [u]) _ _ _
 obtain⟨nm,N,qn,bs,bm,hdct,sn,sub,ab,col,dd,k0,k1,k2,k3,k5,hC,hT⟩:=PySem.W.excInit_of I1.kIn T.ini
 obtain⟨hp,g,dr,tk,os⟩:=s1
 have sz:hp.objs.size≤hp.objs.size+1:=Nat.le_succ _
 have n1:H1 (hp.objs.size+1)=none:=I1.hok.fresh sz
 have kk:∀b o,hp.get? b=some o→((hp.push (PySem.W.kdv_tup [u])).push (PySem.HandSPX.excO C hp.objs.size)).get? b=some o:=fun b o q=>Heap.get?_push_of_some _ (Heap.get?_push_of_some _ q)
 have gx:((hp.push (PySem.W.kdv_tup [u])).push (PySem.HandSPX.excO C hp.objs.size)).get? (hp.objs.size+1)=some (PySem.HandSPX.excO C hp.objs.size):=by heap_get
 have I2:Inv X pins σ (upd H1 (hp.objs.size+1) (exo (hp.objs.size+1) C none)) ⟨(hp.push (PySem.W.kdv_tup [u])).push (PySem.HandSPX.excO C hp.objs.size),g,dr,tk,os⟩:=I1.laid (t':=tk) (a:=hp.objs.size+1) (o:=exo (hp.objs.size+1) C none) (h':=(hp.push (PySem.W.kdv_tup [u])).push (PySem.HandSPX.excO C hp.objs.size)) kk sz (exo_ok gx)
 have want:spI C f [V.ref (hp.objs.size+1),y] (upd H1 (hp.objs.size+1) (exo (hp.objs.size+1) C none)) (fun v H2=>v= .non∧∃d,H2=upd (upd (upd H1 (hp.objs.size+1) (exo (hp.objs.size+1) C none)) d (exd d [(f,y)])) (hp.objs.size+1) (exo (hp.objs.size+1) C (some d))∧H1 d=none∧d≠hp.objs.size+1) (fun _ _ _=>False):=
  ⟨_,y,rfl,upd_same,fun dx nx ne=>⟨rfl,dx,rfl,by rw[upd_ne ne] at nx;exact nx,ne⟩⟩
 have rel:Vals [V.ref (hp.objs.size+1),y] [Value.ref (hp.objs.size+1),u] := .cons rfl (.cons ry .nil)
 have hl: [Value.ref (hp.objs.size+1),u].length=ps.length:=by
  rw[← rel.length];exact F1.len _ _ _ _ want
 have bd:=hb ⟨(hp.push (PySem.W.kdv_tup [u])).push (PySem.HandSPX.excO C hp.objs.size),g,dr,tk,os⟩ [Value.ref (hp.objs.size+1),u] I2.kIn hl
 rw[List.append_nil] at bd
 have rm:RoomG k (X.A.under (.builtin "type.__call__" ⟨.ref C:: [u],[]⟩)):=⟨hr.rm.make C [u] [],hr.gd⟩
 refine wpAny_call (PySem.HandSPX.call_own T.F hT hC (PySem.W.looks_findIn I1.kIn iC) (fun self=>PySem.W.bind_fn I1.kIn self tI) (by show 1≤sizeLine;rw[sizeLine_eq];omega)
  (codeAny_mono (F1.go _ X.stack _ _ ⟨[Value.ref (hp.objs.size+1),u],[]⟩ [Value.ref (hp.objs.size+1),u] _ _ (fun _ _ _=>False) rm (I2.env0.make C [u] []) bd rel want) fun r z hz=> ?_))
 match r,z,hz with
 | .error er,z,hz=>
   obtain⟨_,_,_,_,_,_,_,_,_,_,_,_,w⟩:=hz
   exact w.elim
 | .ok (.ret r'),⟨h2,g2,d2,t2,os2⟩,⟨v,H2,eo,bare,un,hok,rv,ev,d,eH,nd,ne⟩=>
   subst ev
   refine⟨rv,?_⟩
   have ed:H2 d=some (exd d [(f,y)]):=by rw[eH,upd_ne ne,upd_same]
   have ea:H2 (hp.objs.size+1)=some (exo (hp.objs.size+1) C (some d)):=by rw[eH,upd_same]
   refine mk_end (Q:=Q) (raises_own T.exC T.tyC) I1 sz kk un hok eo bare ea ed nd ?_
   have el:upd (L2.del H2 (hp.objs.size+1)) d (.xd [(f,y)])=upd H1 d (.xd [(f,y)]):=by
    funext b
    by_cases b1:b=d
    ·subst b1;rw[upd_same,upd_same]
    ·rw[upd_ne b1,upd_ne b1]
     by_cases b2:b=hp.objs.size+1
     ·subst b2;rw[L2.del_same,n1]
     ·rw[L2.del_ne b2,eH,upd_ne b2,upd_ne b1,upd_ne b2]
   rw[el]
   exact q1 d nd
 | .ok .next,_,hz=>exact False.elim hz
 | .ok .brk,_,hz=>exact False.elim hz
 | .ok .cont,_,hz=>exact False.elim hz
end L3
namespace L3
open PySem PySem.Spec PyProof.Rows L2
open PySem.HandSPX (HeldZ FlyingZ TracedZ)
abbrev Cx.suiteT (X:Cx) (a:Addr):Cx:= { X with A:=X.A.mark (some (.ref a)),calm:=false,xe:=fun _ _=>False }
theorem suite_ok {X:Cx} (ok:X.Ok) (a:Addr):(Cx.suiteT X a).Ok:=
 ⟨ok.mod,ok.kind,ok.glob,ok.blt,ok.above,ok.inj,ok.has,ok.cab,(fun z=>absurd (show false=true from z) Bool.false_ne_true),ok.frames,ok.stk,ok.exf,ok.bs,ok.bsz,ok.noex,ok.exfs,ok.funs,ok.frf⟩
section
variable {X:Cx} {pins:List (Addr × Obj)} {σ :L2.St} {H:Hp} {s:Shared} {a:Addr}
theorem toSuite (I:Inv X pins σ H s) (a:Addr):Inv (Cx.suiteT X a) pins σ H s:=⟨suite_ok I.ok a,I.os,I.bare,I.base,I.loc,I.cell,I.free,I.freeC,I.pin,I.hok,I.len⟩
theorem ofSuite (I:Inv (Cx.suiteT X a) pins σ H s) (ok:X.Ok):Inv X pins σ H s:=⟨ok,I.os,I.bare,I.base,I.loc,I.cell,I.free,I.freeC,I.pin,I.hok,I.len⟩
theorem track {cls:Value} {dx:Option Addr} {oe:Obj} {vs:Array Value} (I:Inv X pins σ H s) (ha:s.heap.get? a=some oe) (z:Zc cls dx oe) (hd:oe.data= .fields vs) (na:H a=none) (n0:X.s_0.heap.get? a=none) (np:∀p ∈ X.pn++pins,p.1≠a):
 Inv X pins σ (upd H a (xoH a cls dx)) s:=by
 have nL:X.env.locals≠a:=fun q=>by
  obtain⟨m,⟨o,es,ep,g,d,_⟩,_⟩:=I.loc
  rw[q,ha] at g;cases g
  rw[hd] at d;cases d
 have nC:∀x c,X.env.cells.lookup x=some c→c≠a:=fun x c e q=>by
  obtain⟨v,o,g,d⟩:=I.cell x c e
  rw[q,ha] at g;cases g
  rw[hd] at d;cases d
 have n1:∀ {b o},X.s_0.heap.get? b=some o→b≠a:=fun {b o} g q=>by rw[q,n0] at g;cases g
 have n2:∀ {b o},H b=some o→b≠a:=fun {b o} g q=>by rw[q,na] at g;cases g
 refine⟨I.ok,I.os,I.bare,⟨I.base.keep,I.base.slot,fun b o g n x=>(upd_ne (n1 g)).trans (I.base.free b o g n x),I.base.there,fun b xs e=> ?_,fun b o u e=> ?_,fun b ps e=> ?_⟩,I.loc,I.cell,(upd_ne nL).trans I.free,fun x c e=>(upd_ne (nC x c e)).trans (I.freeC x c e),fun p hp=> ?_,fun b u e=> ?_,I.len⟩
 ·have q:=I.base.tups b xs e
  exact(upd_ne (n2 q)).trans q
 ·have q:=I.base.frzs b o u e
  exact(upd_ne (n2 q)).trans q
 ·obtain⟨more,q⟩:=I.base.tbls b ps e
  exact⟨more,(upd_ne (n2 q)).trans q⟩
 ·obtain⟨q1,q2,q3,q4,q5⟩:=I.pin p hp
  exact⟨q1,(upd_ne (np p hp)).trans q2,q3,q4,q5⟩
 ·by_cases hb:b=a
  ·subst hb
   rw[upd_same] at e;cases e
   exact⟨⟨oe,vs,ha,z,hd⟩,⟨oe,ha⟩,fun _ _ ⟨o,v,q1,q2,q3⟩ k=>⟨o,v,k o q1,q2,q3⟩⟩
  ·rw[upd_ne hb] at e
   exact(I.hok b u e).stay (fun _ _ _ q=>q) (fun c q=>(upd_ne (n2 q)).trans q) fun c xs q=>(upd_ne (n2 q)).trans q
end
def Asks (X:Cx) (t:Expr) (ans:Value→Option Bool):Prop:=∀(a:Addr) (cls:Value) (b:Bool) (pins:List (Addr × Obj)) (σ :L2.St) (H:Hp) (s:Shared) (Q:Bool→Shared→Prop) (E:Value→Shared→Prop),
 Inv (Cx.suiteT X a) pins σ H s→PySem.W.Looks (model X.prog X.w) s.heap (typeOf (.ref a)) cls→ans cls=some b→
 (∀ h,(∀ c o,s.heap.get? c=some o→h.get? c=some o)→Q b { s with heap:=h })→
 wpAny (model X.prog X.w) (X.A.mark (some (.ref a))) (eval t X.env) (fun c s1=>wpAny (model X.prog X.w) (X.A.mark (some (.ref a))) (excMatches (.ref a) c) Q E s1) E s
section
variable {X:Cx}
theorem ev_name {a:Addr} {pins:List (Addr × Obj)} {σ :L2.St} {H:Hp} {s:Shared} {x:Str} {c:Value} {p:Pos} {Q E:Value→Shared→Prop} (hc:Names X x c) (I:Inv (Cx.suiteT X a) pins σ H s) (q:Q c s):wpAny (model X.prog X.w) (X.A.mark (some (.ref a))) (eval (.Name x p) X.env) Q E s:=by
 obtain⟨hg,hd,hm|⟨hm,hv,hn⟩⟩:=hc
 ·exact ld_glob (X:=Cx.suiteT X a) I hg hm q hd
 ·exact ld_blt (X:=Cx.suiteT X a) I hg hm hv q hn hd
theorem asks_three {x1 x2 x3:Str} {c1 c2 c3:Value} {p1 p2 p3 p:Pos} {kk:Nat} (n1:Names X x1 c1) (n2:Names X x2 c2) (n3:Names X x3 c3):Asks X (.Tuple [.Name x1 p1, .Name x2 p2, .Name x3 p3] kk p) (fun cls=>PySem.W.exmAny X.K cls [c1,c2,c3]):=by
 intro a cls b pins σ H s Q E I LT ans k
 refine wpAny_Tuple_spliced ?_
 refine Calls.spliced_cons (ev_name n1 I ?_)
 refine Calls.spliced_cons (ev_name n2 I ?_)
 refine Calls.spliced_cons (ev_name n3 I ?_)
 refine Calls.spliced_nil ⟨by show 3≤sizeLine;decide,?_⟩
 have kp:∀c o,s.heap.get? c=some o→(s.heap.push ({ cls:= .type "tuple",data:= .seq [c1,c2,c3].toArray } :Obj)).get? c=some o:=fun c o e=>Heap.get?_push_of_some _ e
 exact(PySem.W.exm_tup3 (M:=model X.prog X.w) (h:=s.heap.push ({ cls:= .type "tuple",data:= .seq [c1,c2,c3].toArray } :Obj)) (I.kIn.keeps kp) (LT.keeps kp) (Heap.get?_push_size _ rfl) ans).here (k _ kp)
end
end L3
namespace L3
open PySem PySem.Spec PyProof.Rows L2
open PySem.HandSPX (HeldZ FlyingZ TracedZ)
def Ex.d (e:Ex):D:= .xcp e.cls (e.fs.map (·.1)) (e.fs.map (·.2))
structure HdD where
 ys:List Str
 ns:List Str
 nm:Option Nat
 su:SD
def SR.past (r:SR) (nm:Option Nat):SR:=match r,nm with
 | .nx env S,none=> .nx env S
 | .nx env S,some i=> .nx (env.set i none) S
 | .ret d S,_=> .ret d S
 | .brk env S,none=> .brk env S
 | .brk env S,some i=> .brk (env.set i none) S
 | .ct env S,none=> .ct env S
 | .ct env S,some i=> .ct (env.set i none) S
 | _,_=> .bad
def nameD (nm:Option Nat) (e:Ex) (env:EnvD):EnvD:=match nm with
 |none=>env
 |some i=>env.set i (some e.d)
def hdsD:List HdD→Ex→EnvD→Store→SR
 | [],e,env,S=> .exc e env S
 |h::r,e,env,S=>if e.cls ∈ h.ys then(h.su (nameD h.nm e env) S).past h.nm else if e.cls ∈ h.ns then hdsD r e env S else .bad
def sTry (body:SD) (hs:List HdD):SD:=fun env S=>match body env S with
 | .exc e env1 S1=>hdsD hs e env1 S1
 |r=>r
inductive Hds (G:GC) (X:Cx):List ExceptHandler→List HdD→Prop
 |nil:Hds G X [] []
 |bare {t:Expr} {b:Stmt} {suite:List Stmt} {pos:Pos} {hs:List ExceptHandler} {l:List HdD} {ys ns:List Str} {su:SD} {ans:Value→Option Bool} (ask:Asks X t ans)
   (hy:∀c ∈ ys,∀C,G.mg c=some (.ref C)→ans (.ref C)=some true) (hn:∀c ∈ ns,∀C,G.mg c=some (.ref C)→ans (.ref C)=some false)
   (hsu:∀a,PSs (Cx.suiteT X a) (b::suite) (tS G su WF)) (r:Hds G X hs l):Hds G X (.ExceptHandler (some t) none (b::suite) pos::hs) (⟨ys,ns,none,su⟩::l)
 |named {t:Expr} {n:Str} {i:Nat} {b:Stmt} {suite:List Stmt} {pos:Pos} {hs:List ExceptHandler} {l:List HdD} {ys ns:List Str} {su:SD} {ans:Value→Option Bool} (ask:Asks X t ans) (hi:X.N[i]? =some n) (hl:X.env.kindOf n=some .local)
   (hy:∀c ∈ ys,∀C,G.mg c=some (.ref C)→ans (.ref C)=some true) (hn:∀c ∈ ns,∀C,G.mg c=some (.ref C)→ans (.ref C)=some false)
   (hsu:∀a,PSs (Cx.suiteT X a) (b::suite) (tS G su WF)) (r:Hds G X hs l):Hds G X (.ExceptHandler (some t) (some n) (b::suite) pos::hs) (⟨ys,ns,some i,su⟩::l)
def wHds (G:GC) (Wx:WX) (D:Ends) (l:List HdD):WX:=fun C dx σ H=>∃w env e,w.H=H∧SRep G w∧ERep G w env σ ∧XRep G w e C dx∧PostS G w (hdsD l e env w.S) D Wx
theorem xcp_rep {G:GC} {w:Wd} {e:Ex} {Ca a:Addr} {dx:Option Addr} (m:G.mg e.cls=some (.ref Ca)) (x:XRep G w e (.ref Ca) dx) (sr:SRep G w) (na:w.H a=none):
 WExt w (w.put a (xoH a (.ref Ca) dx))∧SRep G (w.put a (xoH a (.ref Ca) dx))∧Rep G (w.put a (xoH a (.ref Ca) dx)) e.d (.ref a):=by
 obtain⟨x1,s1,nm⟩:=new_ext (o:=xoH a (.ref Ca) dx) sr na
 refine⟨x1,s1,?_⟩
 unfold Ex.d
 simp only[Rep]
 obtain⟨_,hf⟩:=x
 have cut:∀ {fs:List (Str × D)} {kvs:List (Str × V)},RepKV G w fs kvs→∃vs,(fs.map (·.1)).zip vs=kvs∧RepL G w (fs.map (·.2)) vs:=by
  intro fs
  induction fs with
  |nil=>intro kvs h;cases kvs with
   |nil=>exact⟨[],rfl,by simp[RepL]⟩
   |cons _ _=>simp[RepKV] at h
  |cons p fs ih=>
   intro kvs h
   obtain⟨v,y,rfl,h1,h2⟩:=h
   obtain⟨vs,e1,e2⟩:=ih h2
   exact⟨v::vs,by simp[e1],by simp only[List.map_cons,RepL];exact⟨v,vs,rfl,h1,e2⟩⟩
 rcases hf with⟨hf,hd0⟩|⟨d,kvs,e1,e2,nd,rk⟩
 ·exact⟨a,Ca,dx,[],rfl,m,⟨upd_same,nm⟩,by simp, .inl ⟨by rw[hf];rfl,hd0⟩,by rw[hf];simp[RepL]⟩
 ·obtain⟨vs,q1,q2⟩:=cut rk
  have ne:d≠a:=fun q=>by rw[q,na] at e2;cases e2
  exact⟨a,Ca,dx,vs,rfl,m,⟨upd_same,nm⟩,by simp, .inr ⟨d,e1,by rw[q1];exact(upd_ne ne).trans e2,(x1.keepM noT e2 nd).2⟩,RepL.mono x1 _ _ q2⟩
def pastS (nm:Option Nat) (τ :L2.St):L2.St:=match nm with
 |none=> τ
 |some i=> τ.set i none
section
variable {G:GC} {X:Cx} {Wx:WX} {pos:Pos}
theorem suite_reads {w:Wd} {env:EnvD} {σ :L2.St} {D:Ends} {l:SR} {nm:Option Nat} (h:PostS G w (l.past nm) D Wx):
 PostS G w l { nx:=fun τ H=>D.nx (pastS nm τ) H,rt:=D.rt,bk:=fun τ H=>D.bk (pastS nm τ) H,ct:=fun τ H=>D.ct (pastS nm τ) H } WF:=by
 cases l with
 |nx env' S'=>cases nm with
  |none=>exact fun τ w' x e s er=>h τ w' x e s er
  |some i=>exact fun τ w' x e s er=>h (τ.set i none) w' x e s (er.unset i)
 |ret d S'=>cases nm<;>exact fun v w' x e s r=>h v w' x e s r
 |brk env' S'=>cases nm with
  |none=>exact fun τ w' x e s er=>h τ w' x e s er
  |some i=>exact fun τ w' x e s er=>h (τ.set i none) w' x e s (er.unset i)
 |ct env' S'=>cases nm with
  |none=>exact fun τ w' x e s er=>h τ w' x e s er
  |some i=>exact fun τ w' x e s er=>h (τ.set i none) w' x e s (er.unset i)
 |exc _ _ _=>cases nm<;>exact h.elim
 |bad=>cases nm<;>exact h.elim
theorem ps_hds {body:List Stmt} {h0:ExceptHandler} {hs:List ExceptHandler} {l:List HdD} {tb:WX→TS} (st:X.stack=X.env::X.outer) (fr:X.env.frame=some X.env.locals) (hN:X.N.Nodup) (hex:X.ex= []) (tk:Takes X Wx)
 (hb:∀(W:WX) (pn:List (Addr × Obj)) (xe:Value→Shared→Prop),Takes (X.tr pn xe) W→PassesOwn (model X.prog X.w) X.A X.env xe→PSs (X.tr pn xe) body (tb W)) (hh:Hds G X (h0::hs) l):
 PS X (.Try body (h0::hs) [] [] pos) (fun D σ H=>tb (wHds G Wx D l) D σ H):=by
 refine⟨fun pins s σ H D I h=> ?_⟩
 have ok:=I.ok
 have frA:X.A.frames=some (X.env::X.outer):=by rw[ok.frames,st]
 refine wpAny_Try_except ?_
 refine wpAny_mono ((hb (wHds G Wx D l) (X.pn++pins) (fun e z=>wpAny (model X.prog X.w) X.A (noteFrame e X.env) (fun _ z2=>wpAny (model X.prog X.w) X.A (setFlight e none) (fun _ z3=>
  wpAny (model X.prog X.w) X.A (handleBy e X.env (h0::hs)) (SP X pins D) X.xe z3) X.xe z2) X.xe z) (fun u z xx=> ?_) PassesOwn.looking).run [] s σ H D (I.toTry _) h) (fun f z hz=> ?_) fun _ _ y=>y
 ·obtain⟨a,B,sI,_,σ1,H1,cls,dx,rfl,J0,nb,up,sky,na,os,ag,w,env,e,rfl,sr,er,xr,p⟩:=xx
  have J:Inv X pins σ1 w.H sI:=J0.ofTry ok
  have sky':Sky B (X.env::X.outer) a (Zc cls dx) X.env.locals z.heap:=by rw[← st];exact sky
  show wpAny (model X.prog X.w) X.A (noteFrame (.ref a) X.env) _ _ _
  refine Sky.land Zc.steady frA fr sky' fun h3 fl3 up3=> ?_
  obtain⟨⟨Ca,mC,rfl⟩,_⟩:=id xr
  have nfr:a ∉ frs (X.env::X.outer):=fun hm=>by
   obtain⟨oe,vs,g,_,d⟩:=fl3.there
   obtain⟨_,o,g',nf⟩:=fl3.2.2.1.mem hm
   rw[g] at g';cases g'
   exact nf _ d
  have nI:sI.heap.get? a=none:=by
   cases q:sI.heap.get? a with
   |none=>rfl
   |some o=>
    have y:=nb a o q (by rw[st];exact nfr)
    rw[fl3.2.1] at y;cases y
  have n0:X.s_0.heap.get? a=none:=by
   cases q:X.s_0.heap.get? a with
   |none=>rfl
   |some o=>
    obtain⟨o',y⟩:=J.base.there a o q (by rw[hex];simp)
    rw[nI] at y;cases y
  have np:∀q ∈ X.pn++pins,q.1≠a:=fun q hq e=>by
   have y:=(J.pin q hq).1
   rw[e,nI] at y;cases y
  have go:∀(hs':List ExceptHandler) (l':List HdD),Hds G X hs' l'→∀(h4:Heap),FlyingZ B (X.env::X.outer) a (Zc (.ref Ca) dx) h4→z.heap.UpToSlots h4→PostS G w (hdsD l' e env w.S) D Wx→
   wpAny (model X.prog X.w) X.A (handleBy (.ref a) X.env hs') (SP X pins D) X.xe { z with heap:=h4 } :=by
   intro hs' l' hd
   have step:∀ {t:Expr} {ans:Value→Option Bool} {b:Bool} {h4:Heap} {Q:Bool→Shared→Prop} {E:Value→Shared→Prop},Asks X t ans→ans (.ref Ca)=some b→FlyingZ B (X.env::X.outer) a (Zc (.ref Ca) dx) h4→z.heap.UpToSlots h4→
    (∀ h5,FlyingZ B (X.env::X.outer) a (Zc (.ref Ca) dx) h5→z.heap.UpToSlots h5→Q b { z with heap:=h5 })→
    wpAny (model X.prog X.w) (X.A.mark (some (.ref a))) (eval t X.env) (fun c s1=>wpAny (model X.prog X.w) (X.A.mark (some (.ref a))) (excMatches (.ref a) c) Q E s1) E { z with heap:=h4 } :=by
    intro t ans b h4 Q E ask an fl4 up4 k
    have J4:Inv X pins σ1 w.H { z with heap:=h4 } :=J.landed nb fl4.1 (up.trans up4) os ag
    obtain⟨oe,vs,g,zz,d⟩:=fl4.there
    have LT:PySem.W.Looks (model X.prog X.w) h4 (typeOf (.ref a)) (.ref Ca):=fun A Q E s kk q=>wpAny_typeOf_ref (kk _ _ g) (by rw[zz.1];exact q)
    refine ask a (.ref Ca) b pins σ1 w.H { z with heap:=h4 } Q E (toSuite J4 a) LT an fun h5 kp=>k h5 ?_ (up4.trans (Heap.UpToSlots.of_keeps kp))
    obtain⟨k1,k2,k3,o1,v1,tb,o2,v2,g1,z1,d1,i1,ntb,ne,g2,d2,i2⟩:=fl4
    exact⟨fun b o q=>kp b o (k1 b o q),k2,k3.of_keeps fun b o q _=>⟨o,kp b o q,rfl⟩,o1,v1,tb,o2,v2,kp _ _ g1,z1,d1,i1,ntb,ne,kp _ _ g2,d2,i2⟩
   have enter:∀ {b:Stmt} {suite:List Stmt} {su:SD} {nm:Option Nat} {env':EnvD} {τ :L2.St} {h5:Heap} {s5:Shared} {Q:Flow→Shared→Prop} {E:Value→Shared→Prop},(∀ a,PSs (Cx.suiteT X a) (b::suite) (tS G su WF))→
    Inv (Cx.suiteT X a) pins τ (upd w.H a (xoH a (.ref Ca) dx)) s5→ERep G (w.put a (xoH a (.ref Ca) dx)) env' τ →PostS G w ((su env' w.S).past nm) D Wx→
    (∀ f s6,SP (Cx.suiteT X a) pins { nx:=fun τ H=>D.nx (pastS nm τ) H,rt:=D.rt,bk:=fun τ H=>D.bk (pastS nm τ) H,ct:=fun τ H=>D.ct (pastS nm τ) H } f s6→Q f s6)→
    wpAny (model X.prog X.w) (X.A.mark (some (.ref a))) (execs (b::suite) X.env) Q E s5:=by
    intro b suite su nm env' τ h5 s5 Q E hsu I5 er5 p5 k
    obtain⟨x1,s1,_⟩:=xcp_rep mC xr sr na
    have q:=(hsu a).run pins s5 τ _ _ I5 ⟨w.put a (xoH a (.ref Ca) dx),env',rfl,s1,er5,suite_reads (σ := τ) (env:=env') (PostS.shift x1 p5)⟩
    exact wpAny_mono q (fun f s6 y=>k f s6 y) fun _ _ y=>False.elim y
   induction hd with
   |nil=>
    intro h4 fl4 up4 p4
    refine wpAny_handleBy_nil ?_
    obtain⟨k1,k2,k3,o1,v1,tb,o2,v2,g1,z1,d1,i1,ntb,ne,g2,d2,i2⟩:=id fl4
    unfold PySem.passOn
    refine wpAny_bind (wpAny_field g1 d1 i1 ?_)
    rw[if_neg (show ¬((Value.ref tb==Value.none)=true) from by simp),fr]
    have fin:wpAny (model X.prog X.w) X.A (setFlight (.ref a) (some X.env.locals)) (fun _ z5=>wpAny (model X.prog X.w) X.A (throw (.ref a):Sem Flow) (SP X pins D) X.xe z5) X.xe { z with heap:=h4 } :=by
     refine PySem.HandSPX.setFlight_upZ fl4 fun h5 hh5 up5=>wpAny_throw (tk _ _ ?_)
     exact⟨a,B,sI,pins,σ1,w.H, .ref Ca,dx,rfl,J,nb,(up.trans up4).trans up5, .inr (.inr (by rw[st];exact hh5)),na,os,ag,p4 _ _ σ1 w (.refl w) rfl sr er xr⟩
    first
     |exact wpAny_bind (wpAny_pure (wpAny_bind fin))
     |exact wpAny_bind fin
   | @bare t b suite pos hs l ys ns su ans ask hy hn hsu r ih=>
     intro h4 fl4 up4 p4
     have p4:PostS G w (if e.cls ∈ ys then(su env w.S).past none else if e.cls ∈ ns then hdsD l e env w.S else .bad) D Wx:=p4
     refine wpAny_handleBy_cons (codeAny_handlers_test ?_) (by intro q;cases q)
     by_cases m:e.cls ∈ ys
     ·rw[if_pos m] at p4
      refine step ask (hy _ m Ca mC) fl4 up4 fun h5 fl5 up5=> ?_
      refine codeAny_handlers_suite ?_
      refine PySem.HandSPX.lands_againZ fl5 fun h6 fl6 up6=> ?_
      have J6:Inv X pins σ1 w.H { z with heap:=h6 } :=J.landed nb fl6.1 (up.trans (up5.trans up6)) os ag
      obtain⟨oe,vs,g,zz,d⟩:=fl6.there
      obtain⟨x1,_,_⟩:=xcp_rep mC xr sr na
      refine enter (nm:=none) (h5:=h6) hsu (toSuite (track J6 g zz d na n0 np) a) (er.mono x1) p4 fun f s6 y=> ?_
      cases f with
      |next=>obtain⟨σ6,H6,S6,q6⟩:=y;exact⟨σ6,H6,ofSuite S6 ok,q6⟩
      |brk=>obtain⟨σ6,H6,S6,q6⟩:=y;exact⟨σ6,H6,ofSuite S6 ok,q6⟩
      |cont=>obtain⟨σ6,H6,S6,q6⟩:=y;exact⟨σ6,H6,ofSuite S6 ok,q6⟩
      |ret u=>obtain⟨v6,σ6,H6,S6,r6,q6⟩:=y;exact⟨v6,σ6,H6,ofSuite S6 ok,r6,q6⟩
     ·rw[if_neg m] at p4
      by_cases m2:e.cls ∈ ns
      ·rw[if_pos m2] at p4
       refine step ask (hn _ m2 Ca mC) fl4 up4 fun h5 fl5 up5=> ?_
       exact ih h5 fl5 up5 p4
      ·rw[if_neg m2] at p4;exact p4.elim
   | @named t n i b suite pos hs l ys ns su ans ask hi hl hy hn hsu r ih=>
     intro h4 fl4 up4 p4
     have p4:PostS G w (if e.cls ∈ ys then(su (env.set i (some e.d)) w.S).past (some i) else if e.cls ∈ ns then hdsD l e env w.S else .bad) D Wx:=p4
     refine wpAny_handleBy_cons (codeAny_handlers_test ?_) (by intro q;cases q)
     by_cases m:e.cls ∈ ys
     ·rw[if_pos m] at p4
      refine step ask (hy _ m Ca mC) fl4 up4 fun h5 fl5 up5=> ?_
      refine codeAny_handlers_suite_as ?_
      refine PySem.HandSPX.lands_againZ fl5 fun h6 fl6 up6=> ?_
      have J6:Inv X pins σ1 w.H { z with heap:=h6 } :=J.landed nb fl6.1 (up.trans (up5.trans up6)) os ag
      obtain⟨oe,vs,g,zz,d⟩:=fl6.there
      obtain⟨x1,_,rx⟩:=xcp_rep mC xr sr na
      refine store_ok (X:=Cx.suiteT X a) (v:= .ref a) (toSuite (track J6 g zz d na n0 np) a) hN hi (.inl hl) rfl (fun s7 I7=> ?_) (.inr hl)
      have out:∀ {σ6:L2.St} {H6:Hp} {s6:Shared} {Q:Shared→Prop},Inv (Cx.suiteT X a) pins σ6 H6 s6→(∀ s7,Inv X pins (σ6.set i none) H6 s7→Q s7)→
       wpAny (model X.prog X.w) X.A (do bindName X.env n .none;unbindBehindTheSuite X.env n pos) (fun _ s7=>Q s7) X.xe s6:=fun S6 k=>gone_ok (ofSuite S6 ok) hN hi hl k
      refine enter (nm:=some i) (h5:=h6) hsu I7 ((er.mono x1).set i rx) p4 fun f s6 y=> ?_
      cases f with
      |next=>obtain⟨σ6,H6,S6,q6⟩:=y;exact out S6 fun s7 J7=>⟨_,_,J7,q6⟩
      |brk=>obtain⟨σ6,H6,S6,q6⟩:=y;exact out S6 fun s7 J7=>⟨_,_,J7,q6⟩
      |cont=>obtain⟨σ6,H6,S6,q6⟩:=y;exact out S6 fun s7 J7=>⟨_,_,J7,q6⟩
      |ret u=>obtain⟨v6,σ6,H6,S6,r6,q6⟩:=y;exact out S6 fun s7 J7=>⟨_,_,_,J7,r6,q6⟩
     ·rw[if_neg m] at p4
      by_cases m2:e.cls ∈ ns
      ·rw[if_pos m2] at p4
       refine step ask (hn _ m2 Ca mC) fl4 up4 fun h5 fl5 up5=> ?_
       exact ih h5 fl5 up5 p4
      ·rw[if_neg m2] at p4;exact p4.elim
  exact go (h0::hs) l hh h3 fl3 up3 p
 ·cases f with
  |next=>obtain⟨σ6,H6,S6,q6⟩:=hz;exact wpAny_execs_nil ⟨σ6,H6,S6.ofTry ok,q6⟩
  |brk=>obtain⟨σ6,H6,S6,q6⟩:=hz;exact⟨σ6,H6,S6.ofTry ok,q6⟩
  |cont=>obtain⟨σ6,H6,S6,q6⟩:=hz;exact⟨σ6,H6,S6.ofTry ok,q6⟩
  |ret u=>obtain⟨v6,σ6,H6,S6,r6,q6⟩:=hz;exact⟨v6,σ6,H6,S6.ofTry ok,r6,q6⟩
theorem q_try {body:List Stmt} {h0:ExceptHandler} {hs:List ExceptHandler} {l:List HdD} {mb:SD} (st:X.stack=X.env::X.outer) (fr:X.env.frame=some X.env.locals) (hN:X.N.Nodup) (hex:X.ex= []) (tk:Takes X Wx)
 (hb:∀(W:WX) (pn:List (Addr × Obj)) (xe:Value→Shared→Prop),Takes (X.tr pn xe) W→PassesOwn (model X.prog X.w) X.A X.env xe→PSs (X.tr pn xe) body (tS G mb W)) (hh:Hds G X (h0::hs) l):
 PS X (.Try body (h0::hs) [] [] pos) (tS G (sTry mb l) Wx):=psI (ps_hds st fr hN hex tk hb hh) fun D σ H q=>by
 obtain⟨w,env,rfl,sr,er,p⟩:=q
 refine⟨w,env,rfl,sr,er,?_⟩
 unfold sTry at p
 cases hm:mb env w.S with
 |exc e env1 S1=>
  rw[hm] at p
  intro C dx τ w' x es s' er' xr
  subst es
  exact⟨w',env1,e,rfl,s',er',xr,PostS.shift x p⟩
 |nx _ _=>rw[hm] at p;exact p
 |ret _ _=>rw[hm] at p;exact p
 |brk _ _=>rw[hm] at p;exact p
 |ct _ _=>rw[hm] at p;exact p
 |bad=>rw[hm] at p;exact p
end
end L3
namespace L3
open PySem PySem.Spec PyProof.Rows L2
def sRaise0 (c:Str):SD:=fun env S=> .exc ⟨c,[]⟩ env S
def sRaise1 (c f:Str) (a:ED):SD:=fun env S=>(a env S).toS env fun d S1=> .exc ⟨c,[(f,d)]⟩ env S1
structure Xc1 (P:Program) (w:World) (G:GC) (base:Heap) (k:Nat) (c f:Str) (C:Addr):Prop where
 m:G.mg c=some (.ref C)
 ox:∃B n i bm,Oxc G.K C B n i bm
 no:PySem.W.findIn G.K (.ref C) f=some none
 ini:∃fI fd ps,PySem.W.findIn G.K (.ref C) "__init__" =some (some (.ref fI))∧PySem.W.typeIn G.K (.ref fI)=some (.type "function")∧FnG P w G.K G.mg base k fI fd ps (spI C f)∧Binds G.K fd ps []
section
variable {G:GC} {X:Cx} {Wx:WX} {pos p:Pos}
theorem q_raise1 {k:Nat} {c f:Str} {C:Addr} {e:Expr} {me:ED} {pr:Pos} (T:Xc1 X.prog X.w G X.base k c f C) (hr:RoomG (k+1) X.A) (hK:X.K=G.K) (hmg:X.mg=G.mg) (hc:X.calm=true) (tk:Takes X Wx) (hg:Gl X c) (he:PE X e (tE G me Wx))
 (hdb:(c==("__debug__" :Str))=false:=by decide) (hs:starEach [e] X.env=(false,eval e X.env)::starEach [] X.env:=by rfl):PS X (.Raise (some (.Call (.Name c p) [e] [] pos)) none pr) (tS G (sRaise1 c f me) Wx):=by
 obtain⟨B,n,i,bm,ox⟩:=T.ox
 obtain⟨fI,fd,ps,i1,i2,i3,i4⟩:=T.ini
 rw[← hK] at ox i1 i2 i4
 rw[← hK,←hmg] at i3
 refine psI (ps_raise hc tk (pmk_one ox i1 i2 i3 hr i4 hg (by rw[hmg];exact T.m) he hdb hs)) fun D σ H q=> ?_
 obtain⟨w,env,rfl,sr,er,pp⟩:=q
 refine⟨w,env,rfl,sr,er,(PostS.ofR (Ra:=Rep G) er pp).mono (fun y H1 m=> ?_) fun _ _ _ h=>h⟩
 obtain⟨w1,d1,rfl,x1,s1,rp1,p1⟩:=m
 intro d nd
 obtain⟨x2,s2,nm⟩:=new_ext (o:=HO.xd [(f,y)]) s1 nd
 exact p1 (.ref C) (some d) σ _ x2 rfl s2 ((er.mono x1).mono x2) ⟨⟨C,T.m,rfl⟩, .inr ⟨d,[(f,y)],rfl,upd_same,nm,⟨y,[],rfl,Rep.mono x2 _ _ rp1,rfl⟩⟩⟩
end
structure XcI (K:PySem.W.Frag) (C:Addr):Prop where
 hga:PySem.W.findIn K (.ref C) "__getattribute__" =some (some (.builtin "BaseException.__getattribute__"))
 hgt:PySem.W.findIn K (.ref C) "__getattr__" =some none
 hsb:PySem.W.subIn K (.ref C) (.type "BaseException")=some true
 hd:PySem.W.hasDictIn K C=true
 ha:PySem.W.findIn K (.ref C) "__class__" =some (some (.builtin "object.__class__"))
 hn:PySem.W.specialIn K (.builtin "object.__class__") "__get__" =some (some (.builtin "getset_descriptor.__get__"))
 ht:PySem.W.takesIn K (.builtin "object.__class__")=some true
 hm:PySem.W.mroIn K C (.type "object")=some true
theorem XcI.kit {K:PySem.W.Frag} {C x:Addr} {ox:Obj} {od:Option Obj} (T:XcI K C):PySem.W.KitX K (.ref x) (.ref C) (fun h=>PySem.W.InstAt h x ox C od):=
 PySem.W.kitx_exc (by obtain⟨cd,h,_⟩:=PySem.W.any_some T.hd;rw[h];rfl) T.hga T.hgt T.hsb T.ha T.hn T.ht T.hm
def isxD (ys ns:List Str):F1:=fun x S=>match x with
 | .xcp c _ _=>if c ∈ ys then .ok (.bl true) S else if c ∈ ns then .ok (.bl false) S else .bad
 | _=> .bad
def ClsE (X:Cx) (t:Expr) (ans:Value→Option Bool):Prop:=∀(a C:Addr) (ox:Obj) (od:Option Obj) (b:Bool) (pins:List (Addr × Obj)) (σ :L2.St) (H:Hp) (s:Shared) (Q:Value→Shared→Prop) (E:Value→Shared→Prop),
 Inv X pins σ H s→PySem.W.InstAt s.heap a ox C od→XcI X.K C→ans (.ref C)=some b→(∀ h tk,(∀ c o,s.heap.get? c=some o→h.get? c=some o)→Q (.bool b) { s with heap:=h,toks:=tk })→
 wpAny (model X.prog X.w) X.A (eval t X.env) (fun c s1=>wpAny (model X.prog X.w) X.A (call (.builtin "isinstance") [.ref a,c]) Q E s1) E s
section
variable {X:Cx}
theorem at_name {pins:List (Addr × Obj)} {σ :L2.St} {H:Hp} {s:Shared} {x:Str} {c:Value} {p:Pos} {Q E:Value→Shared→Prop} (hc:Names X x c) (I:Inv X pins σ H s) (q:Q c s):wpAny (model X.prog X.w) X.A (eval (.Name x p) X.env) Q E s:=by
 obtain⟨hg,hd,hm|⟨hm,hv,hn⟩⟩:=hc
 ·exact ld_glob I hg hm q hd
 ·exact ld_blt I hg hm hv q hn hd
theorem cls_name {x:Str} {c:Value} {p:Pos} (hc:Names X x c):ClsE X (.Name x p) (fun cls=>PySem.W.kitOne X.K cls c):=by
 intro a C ox od b pins σ H s Q E I J T ans k
 exact at_name hc I (PySem.W.kia_one T.kit I.kIn J ans (fun z=>nomatch z) fun tk=>k s.heap tk fun _ _ e=>e)
theorem inst_keeps {h h':Heap} {a C:Addr} {ox:Obj} {od:Option Obj} (J:PySem.W.InstAt h a ox C od) (k:∀c o,h.get? c=some o→h'.get? c=some o):PySem.W.InstAt h' a ox C od:=by
 obtain⟨j1,j2,j3,j4⟩:=J
 refine⟨k _ _ j1,j2,j3,?_⟩
 revert j4
 cases ox.dict<;>cases od
 ·exact fun y=>y
 ·exact fun y=>y
 ·exact fun y=>y
 ·exact fun y=>k _ _ y
theorem xcp_inst {G:GC} {pins:List (Addr × Obj)} {σ :L2.St} {s:Shared} {w:Wd} {c:Str} {ks:List Str} {l:List D} {v:V} (I:Inv X pins σ w.H s) (r:Rep G w (.xcp c ks l) v):
 ∃a C ox od,v= .ref a∧G.mg c=some (.ref C)∧PySem.W.InstAt s.heap a ox C od∧(∀ f d,(ks.zip l).lookup f=some d→∃oD u x,od=some oD∧PySem.W.lookIn f oD=some (some u)∧RelV x u∧Rep G w d x):=by
 simp only[Rep] at r
 obtain⟨a,C,dx,vs,rfl,m,⟨ha,_⟩,hl,hf,rl⟩:=r
 have xo:ObjOk X.prog X.w w.H s.heap a (xoH a (.ref C) dx):=I.hok a _ ha
 obtain⟨⟨oe,fv,g,z,d⟩,_,_⟩:=xo
 have nc:PySem.W.notCls oe=true:=by unfold PySem.W.notCls;rw[d] <;>rfl
 rcases hf with⟨rfl,rfl⟩|⟨dd,rfl,hd,_⟩
 ·exact⟨a,C,oe,none,rfl,m,⟨g,z.1,nc,by rw[z.2];trivial⟩,fun f d h=>by simp at h⟩
 ·have xd:ObjOk X.prog X.w w.H s.heap dd (.xd (ks.zip vs)):=I.hok dd _ hd
  obtain⟨mA,hns,hr⟩:=xd
  obtain⟨od,ho,hlk⟩:=lookIn_ns hns
  refine⟨a,C,oe,some od,rfl,m,⟨g,z.1,nc,by rw[z.2];exact ho⟩,fun f d h=> ?_⟩
  have key:∀(ks:List Str) (l:List D) (vs:List V),ks.length=l.length→RepL G w l vs→(ks.zip l).lookup f=some d→∃x,(ks.zip vs).lookup f=some x∧Rep G w d x:=by
   intro ks
   induction ks with
   |nil=>intro l vs _ _ h;simp at h
   |cons k ks ih=>
    intro l vs hl r h
    cases l with
    |nil=>simp at hl
    |cons d0 l=>
     simp only[RepL] at r
     obtain⟨v0,r0,rfl,h1,h2⟩:=r
     simp only[List.zip_cons_cons,List.lookup_cons] at h ⊢
     cases e:f==k with
     |true=>rw[e] at h;cases h;exact⟨v0,rfl,h1⟩
     |false=>rw[e] at h;exact ih l r0 (by simpa using hl) h2 h
  obtain⟨x,e1,e2⟩:=key ks l vs hl rl h
  obtain⟨u,hu,ru⟩:=RelO.some_of (v:=x) (o:=mA f) (by rw[← e1];exact hr f)
  exact⟨od,u,x,rfl,by rw[hlk,hu],ru,e2⟩
end
section
variable {G:GC} {X:Cx} {Wx:WX} {pos p:Pos}
theorem q_isx {e t:Expr} {me:ED} {ys ns:List Str} {ans:Value→Option Bool} (hK:X.K=G.K) (hg:Gl X "isinstance") (hm:X.mg "isinstance" =none) (he:PE X e (tE G me Wx)) (ct:ClsE X t ans)
 (hy:∀c ∈ ys,∀C,G.mg c=some (.ref C)→XcI G.K C∧ans (.ref C)=some true) (hn:∀c ∈ ns,∀C,G.mg c=some (.ref C)→XcI G.K C∧ans (.ref C)=some false)
 (hs:starEach [e,t] X.env=(false,eval e X.env)::starEach [t] X.env:=by rfl) (hs2:starEach [t] X.env=(false,eval t X.env)::starEach [] X.env:=by rfl) (hpl:(backTo pos (starEach [t] X.env)).any (·.1)=false:=by rfl):
 PE X (.Call (.Name "isinstance" p) [e,t] [] pos) (tE G (e1 (isxD ys ns) me) Wx):=by
 refine⟨fun pins s σ H Q I q=> ?_⟩
 obtain⟨w,env,rfl,sr,er,pp⟩:=q
 refine wpAny_Call_Name_kw (ld_blt I hg hm PyProof.Rows.Boot.«isinstance» ?_ (by decide) (by decide))
 refine PyProof.Rows.callWith_builtin1 ?_ hs hpl
 rw[hs]
 show wpAny _ _ (spliced ((false,eval e X.env)::backTo pos (starEach [t] X.env))) _ _ s
 refine Calls.spliced_cons (thn (he.run pins s σ w.H _ I ⟨w,env,rfl,sr,er,Post.bind pp⟩) fun u s1 ⟨x,H1,I1,rx,q1⟩=> ?_)
 obtain⟨w1,d1,rfl,x1,s1',rp1,p1⟩:=q1
 unfold isxD at p1
 split at p1
 ·rename_i c ks l
  obtain⟨a,C,ox,od,rfl,m,J,_⟩:=xcp_inst I1 rp1
  cases rx
  rw[hs2]
  show wpAny _ _ (spliced ((false,eval t X.env)::backTo pos (starEach [] X.env))) _ _ s1
  have fin:∀b,XcI G.K C∧ans (.ref C)=some b→Post G w1 (.ok (.bl b) w1.S) (Rep G) Q (fun C dx H'=>Wx C dx σ H')→wpAny (model X.prog X.w) X.A (spliced ((false,eval t X.env)::backTo pos (starEach [] X.env))) (fun vs s2=>wpAny (model X.prog X.w) X.A (call (.builtin "isinstance") (.ref a::vs)) (EP X pins σ Q) X.xe s2) X.xe s1:=fun b hb pb=>
   Calls.spliced_cons (wpAny_mono (ct a C ox od b pins σ w1.H s1 (EP X pins σ Q) X.xe I1 J (by rw[hK];exact hb.1) hb.2 fun h tk kp=>⟨.bl b,w1.H,I1.kept (t':=tk) kp,rfl,Post.ret s1' (by simp[Rep]) pb⟩) (fun c s2 y=>Calls.spliced_nil y) fun _ _ y=>y)
  split at p1
  ·rename_i hy'
   exact fin true (hy c hy' C m) p1
  ·split at p1
   ·rename_i hn'
    exact fin false (hn c hn' C m) p1
   ·exact p1.elim
 ·exact p1.elim
def xfD (cs:List Str) (f:Str):F1:=fun x S=>match x with
 | .xcp c ks l=>if c ∈ cs then(match(ks.zip l).lookup f with
   |some d=> .ok d S
   |none=> .bad) else .bad
 | _=> .bad
theorem q_xf {e:Expr} {me:ED} {cs:List Str} {f:Str} (hK:X.K=G.K) (he:PE X e (tE G me Wx)) (hc:∀c ∈ cs,∀C,G.mg c=some (.ref C)→XcI G.K C∧PySem.W.findIn G.K (.ref C) f=some none)
 (hb:attributeBase e f X.env (eval e X.env)=eval e X.env:=by rfl):PE X (.Attribute e f pos) (tE G (e1 (xfD cs f) me) Wx):=by
 refine⟨fun pins s σ H Q I q=> ?_⟩
 obtain⟨w,env,rfl,sr,er,pp⟩:=q
 refine attr_of hb (thn (he.run pins s σ w.H _ I ⟨w,env,rfl,sr,er,Post.bind pp⟩) fun u s1 ⟨x,H1,I1,rx,q1⟩=> ?_)
 obtain⟨w1,d1,rfl,x1,s1',rp1,p1⟩:=q1
 unfold xfD at p1
 split at p1
 ·rename_i c ks l
  obtain⟨a,C,ox,od,rfl,m,J,fl⟩:=xcp_inst I1 rp1
  cases rx
  split at p1
  ·rename_i hc'
   obtain⟨T,no⟩:=hc c hc' C m
   rw[← hK] at T no
   cases hl:(ks.zip l).lookup f with
   |none=>rw[hl] at p1;exact p1.elim
   |some d=>
    rw[hl] at p1
    obtain⟨oD,u,y,rfl,l1,ry,r2⟩:=fl f d hl
    exact PySem.HandSPX.exc_get I1.kIn J T.hga T.hgt T.hsb (PySem.W.findObj_own T.hd no rfl l1) (handed_of ry) ⟨y,w1.H,I1.tok _,ry,Post.ret s1' r2 p1⟩
  ·exact p1.elim
 ·exact p1.elim
end
end L3
namespace L3
open PySem PySem.Spec PyProof.Rows L2
structure XcD (K:PySem.W.Frag) (D:Addr):Prop where
 sb:PySem.W.subIn K (.ref D) (.type "BaseException")=some true
 hd:PySem.W.hasDictIn K D=true
 ty:PySem.W.typeIn K (.ref D)=some (.type "type")
section
variable {K:PySem.W.Frag} {D C:Addr} {b b1 b2 b3:Bool} {t c c1 c2 c3:Value}
theorem exm_own (T:XcD K D) (h:PySem.W.subIn K t (.ref D)=some b):PySem.W.exmOne K t (.ref D)=some b:=by
 obtain⟨cd,hc,_⟩:=PySem.W.any_some T.hd
 unfold PySem.W.exmOne PySem.W.kitCls
 simp only[T.sb,hc,T.ty]
 simpa using h
theorem exm_three (h1:PySem.W.exmOne K t c1=some b1) (h2:PySem.W.exmOne K t c2=some b2) (h3:PySem.W.exmOne K t c3=some b3):PySem.W.exmAny K t [c1,c2,c3] =some (b1 || (b2 || b3)):=by
 simp[PySem.W.exmAny,h1,h2,h3]
theorem kit_own (T:XcD K D) (self:PySem.W.subIn K (.ref C) (.ref C)=some true) (h:PySem.W.subIn K (.ref C) (.ref D)=some b):PySem.W.kitOne K (.ref C) (.ref D)=some b:=by
 unfold PySem.W.kitOne
 by_cases e:C=D
 ·subst e
  rw[self] at h;cases h
  simp
 ·rw[if_neg (by simp[e])]
  obtain⟨cd,hc,_⟩:=PySem.W.any_some T.hd
  unfold PySem.W.kitCls
  simp only[hc,T.ty]
  simpa using h
theorem kit_blt {T:String} (m:PySem.W.kitMeta T=true) (h:PySem.W.subIn K (.ref C) (.type T)=some b):PySem.W.kitOne K (.ref C) (.type T)=some b:=by
 unfold PySem.W.kitOne
 rw[if_neg (by simp)]
 unfold PySem.W.kitCls
 simp only[m,if_true]
 exact h
end
section
variable {G:GC} {P:Addr→Prop} {c:Str} {cs:List Str} {C:Addr}
theorem ym_nil:∀c ∈ ([] :List Str),∀C,G.mg c=some (.ref C)→P C:=fun _ h=>nomatch h
theorem ym_cons (m:G.mg c=some (.ref C)) (p:P C) (r:∀c ∈ cs,∀C,G.mg c=some (.ref C)→P C):∀c' ∈ c::cs,∀C,G.mg c'=some (.ref C)→P C:=fun c' h C' m'=>by
 rcases List.mem_cons.mp h with rfl|h
 ·rw[m] at m';cases m';exact p
 ·exact r c' h C' m'
end
theorem init_ok {P:Program} {w:World} {K:PySem.W.Frag} {mg:Str→Option Value} {base:Heap} {x qual f:Str} {params:Arguments} {body:List Stmt} {scope:Scope} {dvs:List V} {kws:List (Str × V)} {fI C:Addr} {fd:FuncData} {N ps:List Str}
 (F:FunD K x qual params body scope dvs kws fI fd) (Sc:FnScope N ps scope) (hp:ps.length=2)
 (run:∀(cdv:Value) (A:Around) (outer:List Env) (s:Shared) (H:Hp) (E:XK),PSs (cxOf (L2.CX P w) P w K mg base N qual scope fI cdv A outer s H E) body (tSto K C f (tVar 0) (tVar 1))):FnG P w K mg base 1 fI fd ps (spI C f):=
 FnG.of_def F Sc (fun vs H Q E h=>by obtain⟨a,y,rfl,_⟩:=h;exact hp.symm) fun cdv A outer s H vs Q E _ h=>⟨_,run cdv A outer s H E,by
  obtain⟨a,y,rfl,h1,h2⟩:=h
  exact⟨y,rfl, .ref a,rfl,a,rfl,h1,h2⟩⟩
end L3
namespace L3
open PySem PySem.Spec PyProof.Rows L2
open PySem.W (SortsAt AllAlike Sortable dataKind dataKind_some dataKind_inv)
section
variable {prog:Program} {w:World} {A:Around} {E:Value→Shared→Prop} {s:Shared}
theorem call_tup_lt {Q:Value→Shared→Prop} {l b:Addr} {xs ys:Array Value} {e r:Nat→Bool} (hl:s.heap.IsTuple l xs) (hb:s.heap.IsTuple b ys)
 (he:∀j (h1:j<xs.size) (h2:j<ys.size),SeqAt.EqAt A.in1 s xs[j] ys[j] (e j)) (hr:∀j (h1:j<xs.size) (h2:j<ys.size),e j=false→SeqAt.RcLt A.in1 s xs[j] ys[j] (r j))
 (h:Q (.bool (SeqAt.firstLt e r (decide (xs.size<ys.size)) (List.range (min xs.size ys.size)))) s):wpAny (model prog w) A (call (.builtin "tuple.__lt__") [.ref l, .ref b]) Q E s:=by
 obtain⟨⟨c1,d1,a1,s1⟩,g1,t1,n1,k1⟩:=id hl
 obtain⟨⟨c2,d2,a2,s2⟩,g2,t2,n2,k2⟩:=id hb
 dsimp only at t1 k1 t2 k2
 subst t1 k1 t2 k2
 exact call_meets F.slot_tuple_lt ⟨_,g1,rfl⟩ F.entry_tuple_lt (F.args_tuple_lt_2 _ _) (SeqAt.tuple_ltAt l b xs ys n1 n2 d1 d2 s1 s2 e r) ⟨g1,g2,he,hr,h⟩
theorem oneLt_tup {xs ys:List PyData} {a b:Value} {as bs:List Addr} {Q:Bool→Shared→Prop} (ra:Reads s.heap a (.tuple xs) as) (rb:Reads s.heap b (.tuple ys) bs) (hal:PySem.W.alikeAll xs ys=true)
 (hu:A.units+min (PyData.tuple xs).depth (PyData.tuple ys).depth<cLine) (hq:Q (PySem.W.dataLt (.tuple xs) (.tuple ys)) s):wpAny (model prog w) A (oneLt' true a b) Q E s:=by
 cases ra with
 | @tuple l o vs n _ _ g1 t1 k1 r1=>
   cases rb with
   | @tuple l' o' vs' n' _ _ g2 t2 k2 r2=>
     have z1:vs.size=xs.length:=by simpa using SeqAt.ReadsAll.length _ _ _ r1
     have z2:vs'.size=ys.length:=by simpa using SeqAt.ReadsAll.length _ _ _ r2
     rw[PySem.W.dataLt_tuple,←PySem.W.firstLt_toks xs ys hal,←z1,←z2] at hq
     rw[oneLt'_eq]
     simp only[if_true]
     refine wpAny_bind (wpAny_cRoomFor (SeqAt.room_here hu) ?_)
     refine wpAny_bind (wpAny_callSpecialIfBound?_slot (T:= "tuple") ⟨_,g1,t1⟩ F.slot_tuple_lt (call_tup_lt (e:=SeqAt.pairEq xs ys) (r:=fun j=>PySem.W.dataLt (xs.getD j .none) (ys.getD j .none)) ⟨_,g1,t1,_,k1⟩ ⟨_,g2,t2,_,k2⟩ (fun j j1 j2=> ?_) (fun j j1 j2 hj=> ?_) ?_))
     ·have q:=PySem.W.eqAt_alikeAll xs ys A.in1 s vs.toList vs'.toList _ _ r1 r2 hal (SeqAt.room_in hu) j (by simpa using j1) (by simpa using j2)
      simpa using q
     ·have q:=PySem.W.rcLt_alikeAll xs ys A.in1 s vs.toList vs'.toList _ _ r1 r2 hal (SeqAt.room_in hu) j (by simpa using j1) (by simpa using j2) hj
      simpa using q
     ·exact wpAny_truthy_bool hq
theorem kind_empty {M:Model} {v0:Value} {vs:List Value} {ds:List PyData} {as:List Addr} {Q:SortKind→Shared→Prop} (r0:Reads s.heap v0 (.tuple []) as) (e:PySem.W.EachIs (fun v d=>∃as,Reads s.heap v d as) vs ds) (ht:∀d ∈ ds,∃xs,d= .tuple xs) (h2:1≤vs.length)
 (h:Q oneType' s):wpAny M A (keyKind' (v0::vs).toArray) Q E s:=by
 have first:∀ {v:Value} {xs:List PyData} {as:List Addr} {Q':Option Value→Shared→Prop},Reads s.heap v (.tuple xs) as→(∀ o,(xs= [] →o=none)→Q' o s)→wpAny M A (firstOfTuple' v) Q' E s:=fun {v xs as Q'} r q=>by
  cases r with
  | @tuple a o its n _ _ g t k r=>
    rw[PySem.W.kas_first_eq]
    have lk:PySem.W.Looks M s.heap (typeOf (.ref a)) (.type "tuple"):=t▸(PySem.W.Looks.ld g).andThen .now
    refine wpAny_bind (lk.here ?_)
    rw[if_neg (by decide)]
    refine wpAny_bind (PyProof.Rows.listItems_at g k (wpAny_pure (q _ fun z=> ?_)))
    subst z
    have:=SeqAt.ReadsAll.length _ _ _ r
    simp only[List.length_nil,Array.length_toList] at this
    simp[this]
 have rest:∀ {vs:List Value} {ds:List PyData} {Q':List (Option Value)→Shared→Prop},PySem.W.EachIs (fun v d=>∃as,Reads s.heap v d as) vs ds→(∀ d ∈ ds,∃xs,d= .tuple xs)→(∀ os:List (Option Value),Q' os s)→wpAny M A (vs.mapM firstOfTuple') Q' E s:=by
  intro vs ds Q' e
  induction e generalizing Q' with
  |nil=>intro _ q;rw[List.mapM_nil];exact wpAny_pure (q [])
  | @cons v d vs ds r t ih=>
    intro ht q
    obtain⟨as,r⟩:=r
    obtain⟨xs,rfl⟩:=ht d (List.mem_cons_self ..)
    rw[List.mapM_cons]
    exact wpAny_bind (first r fun o _=>wpAny_bind (ih (fun d hd=>ht d (List.mem_cons_of_mem _ hd)) fun os=>wpAny_pure (q (o::os))))
 have types:∀v ∈ v0::vs,PySem.W.Looks M s.heap (typeOf v) (.type "tuple"):=fun v hv=>by
  have one:∀ {v:Value} {xs:List PyData} {as:List Addr},Reads s.heap v (.tuple xs) as→PySem.W.Looks M s.heap (typeOf v) (.type "tuple"):=fun r=>PySem.W.looks_reads r
  rcases List.mem_cons.mp hv with rfl|hv
  ·exact one r0
  ·obtain⟨d,hd,as,r⟩:=e.left v hv
   obtain⟨xs,rfl⟩:=ht d hd
   exact one r
 rw[keyKind'_eq,List.mapM_toArray,map_eq_pure_bind]
 refine wpAny_bind (wpAny_bind ?_)
 rw[List.mapM_cons]
 refine wpAny_bind (first r0 fun o ho=> ?_)
 obtain rfl:=ho rfl
 refine wpAny_bind (rest e ht fun os=>wpAny_pure (wpAny_pure ?_))
 rw[if_neg (by simp),if_neg (by simp)]
 rw[oneTypeOnly'_eq,List.mapM_toArray,map_eq_pure_bind]
 refine wpAny_bind (wpAny_bind (wpAny_bind (PySem.W.kas_mapM (r:=Value.type "tuple") _ (fun v hv Q' q=>(types v hv).here q) (wpAny_pure ?_))))
 have al:((List.map (fun _=>Value.type "tuple") (v0::vs)).toArray.all fun x=>x==Value.type "tuple")=true:=by
  simp only[List.all_toArray,List.all_map,List.all_eq_true]
  intro _ _
  exact beq_self_eq_true _
 have a0:(List.map (fun _=>Value.type "tuple") (v0::vs)).toArray[0]? =some (Value.type "tuple"):=by simp
 rw[a0]
 simp only[al,if_true]
 exact wpAny_pure (wpAny_pure h)
theorem sorts_empty {vs:List Value} {ds:List PyData} (e:PySem.W.EachIs (fun v d=>∃as,Reads s.heap v d as) vs ds) (hal:AllAlike ds) (h0:ds.head? =some (.tuple [])) (ht:∀d ∈ ds,∃xs,d= .tuple xs) (hu:∀d,d ∈ ds→A.units+d.depth<cLine):SortsAt prog w A s (dataKind s.heap ds) vs:=by
 refine⟨fun v hv=> ?_,oneType',?_,fun h2 E Q hq=> ?_⟩
 ·obtain⟨d,hd,as,r⟩:=e.left v hv
  exact⟨_,dataKind_some hal hd r⟩
 ·intro E x y a b Q ha hb hq
  obtain⟨d,as,hd,ra,rfl⟩:=dataKind_inv ha
  obtain⟨d',as',hd',rb,rfl⟩:=dataKind_inv hb
  obtain⟨xs,rfl⟩:=ht d hd
  obtain⟨ys,rfl⟩:=ht d' hd'
  rw[keyLt'_oneType]
  exact oneLt_tup ra rb (by simpa[PySem.W.alike] using hal _ hd _ hd') (Nat.lt_of_le_of_lt (Nat.add_le_add_left (Nat.min_le_left _ _) _) (hu _ hd)) hq
 ·cases e with
  |nil=>exact absurd h2 (by simp)
  | @cons v d vs ds r t=>
    obtain⟨as,r⟩:=r
    simp only[List.head?_cons,Option.some.injEq] at h0
    subst h0
    exact kind_empty r t (fun d hd=>ht d (List.mem_cons_of_mem _ hd)) (by simpa using h2) hq
end
end L3
namespace L3
open PySem PySem.Spec PyProof.Rows L2
open PySem.W (SortsAt AllAlike Sortable dataKind EachIs)
def encD (d:D):PyData:=(toPy d).getD .none
def srtLe (a b:D):Bool:= !PySem.W.dataLt (encD b) (encD a)
def isTupP:PyData→Bool
 | .tuple _=>true
 | _=>false
def isTup1:PyData→Bool
 | .tuple (_::_)=>true
 | _=>false
def isOther:PyData→Bool
 | .tuple _=>false
 | .none=>false
 | _=>true
def isTup0:Option PyData→Bool
 |some (.tuple [])=>true
 | _=>false
def sortOk (l:List D):Bool:=decide (l.length≤sizeLine)&&(l.all fun d=>(toPy d).isSome&&decide ((encD d).depth≤40))&&(l.all fun a=>l.all fun b=>PySem.W.alike (encD a) (encD b))&&
 ((l.all fun d=>isTup1 (encD d)) || (l.all fun d=>isOther (encD d)) || (isTup0 (l.head?.map encD)&&l.all fun d=>isTupP (encD d)))
def sortL (l:List D):List D:=l.mergeSort srtLe
def sortedD:FN:=fun xs S=>match xs with
 | [x] =>match asL x S with
   |some l=>if sortOk l=true then .ok (.lst (sortL l)) S else .bad
   |none=> .bad
 | _=> .bad
theorem c_sorted:CalmN sortedD:=fun xs S=>by unfold sortedD;repeat' split
                                             all_goals trivial
section
variable {G:GC} {X:Cx} {w:Wd}
theorem each_rep {pins:List (Addr × Obj)} {σ :L2.St} {s:Shared} (hK:X.K=G.K) (I:Inv X pins σ w.H s):∀ {l:List D} {vs:List V} {us:List Value},RepL G w l vs→Vals vs us→(∀ d ∈ l,(toPy d).isSome=true)→
 EachIs (fun u d=>∃x,RelV x u∧Rep G w d x) us l∧EachIs (fun u d=>∃as,Reads s.heap u (encD d) as) us l
 | [],vs,us,r,v,_=>by
   simp only[RepL] at r
   subst r
   cases v
   exact⟨.nil, .nil⟩
 |d::l,vs,us,r,v,h=>by
  simp only[RepL] at r
  obtain⟨x,r',rfl,r1,r2⟩:=r
  cases v with
  |cons rx rv=>
   obtain⟨e1,e2⟩:=each_rep hK I r2 rv fun d hd=>h d (List.mem_cons_of_mem _ hd)
   obtain⟨y,hy⟩:=Option.isSome_iff_exists.mp (h d (List.mem_cons_self ..))
   obtain⟨p1,_⟩:=dp_of d x y r1 hy
   rw[← hK] at p1
   obtain⟨as,q⟩:=Dp.reads I y x _ p1 rx
   exact⟨.cons ⟨x,rx,r1⟩ e1, .cons ⟨as,by unfold encD;rw[hy];exact q⟩ e2⟩
theorem rep_each:∀ {l:List D} {us:List Value},EachIs (fun u d=>∃x,RelV x u∧Rep G w d x) us l→∃vs,Vals vs us∧RepL G w l vs
 | _,_, .nil=>⟨[], .nil,by simp[RepL]⟩
 | _,_, .cons ⟨x,rx,r1⟩ t=>by
   obtain⟨vs,v,r⟩:=rep_each t
   exact⟨x::vs, .cons rx v,by simp only[RepL];exact⟨x,vs,rfl,r1,r⟩⟩
theorem sort_kind {prog:Program} {ww:World} {A:Around} {s:Shared} {us:List Value} {l:List D} (h:sortOk l=true) (e:EachIs (fun u d=>∃as,Reads s.heap u (encD d) as) us l) (hu:A.units+42<cLine):SortsAt prog ww A s (dataKind s.heap (l.map encD)) us:=by
 simp only[sortOk,Bool.and_eq_true,List.all_eq_true,decide_eq_true_eq,Bool.or_eq_true] at h
 obtain⟨⟨⟨_,h1⟩,h2⟩,h3⟩:=h
 have al:AllAlike (l.map encD):=fun x hx y hy=>by
  obtain⟨a,ha,rfl⟩:=List.mem_map.mp hx
  obtain⟨b,hb,rfl⟩:=List.mem_map.mp hy
  exact h2 a ha b hb
 have dep:∀d ∈ l.map encD,A.units+d.depth<cLine:=fun x hx=>by
  obtain⟨a,ha,rfl⟩:=List.mem_map.mp hx
  have:=(h1 a ha).2
  omega
 have e':=PySem.W.each_map (R:=fun u d=>∃as,Reads s.heap u d as) encD e
 rcases h3 with(h3|h3)|⟨h3,h4⟩
 ·refine SortsAt.data e' al (.inl fun x hx=> ?_) dep
  obtain⟨a,ha,rfl⟩:=List.mem_map.mp hx
  have:=h3 a ha
  revert this
  cases encD a with
  |tuple xs=>cases xs with
   |nil=>intro h;simp[isTup1] at h
   |cons x r=>exact fun _=>⟨x,r,rfl⟩
  | _=>intro h;simp[isTup1] at h
 ·refine SortsAt.data e' al (.inr fun x hx=> ?_) dep
  obtain⟨a,ha,rfl⟩:=List.mem_map.mp hx
  have:=h3 a ha
  revert this
  cases encD a with
  |tuple xs=>intro h;simp[isOther] at h
  |none=>intro h;simp[isOther] at h
  | _=>exact fun _=>⟨by simp,by simp⟩
 ·refine sorts_empty e' al ?_ (fun x hx=> ?_) dep
  ·rw[List.head?_map]
   revert h3
   cases l.head?.map encD with
   |none=>intro h;simp[isTup0] at h
   |some x=>cases x with
    |tuple xs=>cases xs with
     |nil=>exact fun _=>rfl
     |cons _ _=>intro h;simp[isTup0] at h
    | _=>intro h;simp[isTup0] at h
  ·obtain⟨a,ha,rfl⟩:=List.mem_map.mp hx
   have:=h4 a ha
   revert this
   cases encD a with
   |tuple xs=>exact fun _=>⟨xs,rfl⟩
   | _=>intro h;simp[isTupP] at h
theorem o_sorted (hK:X.K=G.K) (hu:X.A.units+65<cLine):CallR X (.builtin "sorted") (rN G sortedD):=by
 intro pins s σ H xs us Q I r q
 obtain⟨w,ds,rfl,sr,rl,p⟩:=q
 unfold sortedD at p
 split at p
 ·rename_i x
  split at p
  ·rename_i l hl
   split at p
   ·rename_i ok
    simp only[RepL] at rl
    obtain⟨v,r',rfl,r1,rfl⟩:=rl
    obtain⟨a,vs,rfl,h1,r2⟩:=asL_rep sr r1 hl
    cases r with
    |cons rx rr=>
     cases rr
     cases rx
     obtain⟨its,rv,pl,_⟩:=I.list (SqL.of h1)
     have ok':=ok
     simp only[sortOk,Bool.and_eq_true,List.all_eq_true,decide_eq_true_eq] at ok'
     obtain⟨e1,e2⟩:=each_rep hK I r2 rv fun d hd=>(ok'.1.1.2 d hd).1
     have hz:its.length≤sizeLine:=by rw[e1.length];exact ok'.1.1.1
     have e3:EachIs (fun u d=>∃as,Reads (PySem.W.sortingHeap (PySem.W.copyHeap s.heap its) (s.heap.objs.size+1) its) u (encD d) as) its l:=e2.mono fun _ _ ⟨as,r⟩=>⟨as,PyProof.Rows.Reads.keeps (fun _ _=>PySem.W.sorting_copy_old) r⟩
     have al:AllAlike (l.map encD):=fun x hx y hy=>by
      obtain⟨a,ha,rfl⟩:=List.mem_map.mp hx
      obtain⟨b,hb,rfl⟩:=List.mem_map.mp hy
      exact ok'.1.2 a ha b hb
     refine PySem.W.sorted_vals pl.isList (sort_kind (s:= { s with heap:=PySem.W.sortingHeap (PySem.W.copyHeap s.heap its) (s.heap.objs.size+1) its }) ok e3 (by show X.A.units+2+42<cLine;omega)) hz ?_
     have out:=PySem.W.sortVals_data (R:=fun u d=>∃x,RelV x u∧Rep G w d x) false e1 e3 al
     have le:PySem.W.dataLe false encD=srtLe:=by
      funext a b
      rw[PySem.W.dataLe_eq]
      rfl
     rw[le] at out
     obtain⟨vs',v1,v2⟩:=rep_each out
     obtain⟨ep,g⟩:=sortedAll_at s.heap its (PySem.W.sortVals (dataKind (PySem.W.sortingHeap (PySem.W.copyHeap s.heap its) (s.heap.objs.size+1) its) (l.map encD)) false its its).toArray
     have nl:vs'.length≤sizeLine:=by
      rw[v2.length]
      have:(l.mergeSort srtLe).length=l.length:=List.length_mergeSort _
      rw[this]
      exact ok'.1.1.1
     refine⟨.ref (s.heap.objs.size+1),upd w.H (s.heap.objs.size+1) (.lst vs'),I.laid (t':=s.toks) (fun b o e=>sortedAll_old e) (Nat.le_succ _) ⟨nl,_,ep,v1,g⟩,rfl,?_⟩
     exact new_lst (S:=w.S) sr v2 p _ (I.hok.fresh (Nat.le_succ _))
   ·exact p.elim
  ·exact p.elim
 ·exact p.elim
end
end L3
namespace L3
open PySem PySem.Spec PyProof.Rows L2
def gat3 {α :Type} (src:List (Nat × Nat)) (us ms ws:List α):List α :=src.filterMap fun p=>(match p.1 with
 |0=>us
 |1=>ms
 | _=>ws)[p.2]?
theorem vals_at:∀ {vs:List V} {us:List Value},Vals vs us→∀i:Nat,(∃ v u,vs[i]? =some v∧us[i]? =some u∧RelV v u)∨(vs[i]? =none∧us[i]? =none)
 | _,_, .nil,i=> .inr ⟨rfl,rfl⟩
 | _,_, .cons h t,0=> .inl ⟨_,_,rfl,rfl,h⟩
 | _,_, .cons h t,i+1=>by simpa using vals_at t i
theorem reps_at {G:GC} {w:Wd} :∀ {ds:List D} {vs:List V},RepL G w ds vs→∀i:Nat,(∃ d v,ds[i]? =some d∧vs[i]? =some v∧Rep G w d v)∨(ds[i]? =none∧vs[i]? =none)
 | [],vs,h,i=>by simp only[RepL] at h;subst h;exact .inr ⟨rfl,rfl⟩
 |d::ds,vs,h,i=>by
  simp only[RepL] at h
  obtain⟨v,r,rfl,h1,h2⟩:=h
  cases i with
  |zero=>exact .inl ⟨_,_,rfl,rfl,h1⟩
  |succ i=>simpa using reps_at h2 i
theorem gat3_vals {vs mz zs:List V} {us mv ws:List Value} (h:Vals vs us) (g:Vals mz mv) (k:Vals zs ws):∀src:List (Nat × Nat),Vals (gat3 src vs mz zs) (gat3 src us mv ws)
 | [] => .nil
 |p::r=>by
  have ih:=gat3_vals h g k r
  have:(∃ v u,(match p.1 with|0=>vs|1=>mz|_=>zs)[p.2]? =some v∧(match p.1 with|0=>us|1=>mv|_=>ws)[p.2]? =some u∧RelV v u)∨((match p.1 with|0=>vs|1=>mz|_=>zs)[p.2]? =none∧(match p.1 with|0=>us|1=>mv|_=>ws)[p.2]? =none):=by
   split
   ·exact vals_at h _
   ·exact vals_at g _
   ·exact vals_at k _
  unfold gat3 at ih ⊢
  rcases this with⟨v,u,e1,e2,rv⟩|⟨e1,e2⟩
  ·rw[List.filterMap_cons,List.filterMap_cons,e1,e2];exact .cons rv ih
  ·rw[List.filterMap_cons,List.filterMap_cons,e1,e2];exact ih
theorem gat3_reps {G:GC} {w:Wd} {ds md es:List D} {vs mz zs:List V} (h:RepL G w ds vs) (g:RepL G w md mz) (k:RepL G w es zs):∀src:List (Nat × Nat),RepL G w (gat3 src ds md es) (gat3 src vs mz zs)
 | [] =>by simp[gat3,RepL]
 |p::r=>by
  have ih:=gat3_reps h g k r
  have:(∃ v u,(match p.1 with|0=>ds|1=>md|_=>es)[p.2]? =some v∧(match p.1 with|0=>vs|1=>mz|_=>zs)[p.2]? =some u∧Rep G w v u)∨((match p.1 with|0=>ds|1=>md|_=>es)[p.2]? =none∧(match p.1 with|0=>vs|1=>mz|_=>zs)[p.2]? =none):=by
   split
   ·exact reps_at h _
   ·exact reps_at g _
   ·exact reps_at k _
  unfold gat3 at ih ⊢
  rcases this with⟨v,u,e1,e2,rv⟩|⟨e1,e2⟩
  ·rw[List.filterMap_cons,List.filterMap_cons,e1,e2];simp only[RepL];exact⟨_,_,rfl,rv,ih⟩
  ·rw[List.filterMap_cons,List.filterMap_cons,e1,e2];exact ih
theorem kbd3_of {G:GC} {x qual:Str} {params:Arguments} {body:List Stmt} {scope:Scope} {kws:List (Str × V)} {f:Addr} {fd:FuncData} {ps:List Str} (F:FunD G.K x qual params body scope [] kws f fd) (n:Nat) (ks:List Str) (ms:List (Str × V)) (dds:List D) (src:List (Nat × Nat)) (hk:kws≠ []) (hms:∀q ∈ ms,q ∈ kws)
 (hd:∀w,RepL G w dds (ms.map (·.2)))
 (h:∀(D:Addr) (doc pm:Value) (an:Option Addr) (cdv ct:Value) (us mv ws:List Value),us.length=n→mv.length=ms.length→ws.length=ks.length→
   KwChain D ((ms.map (·.1)).zip mv) (bindArgs (PySem.W.fnOf x qual params body scope .none (.ref D) doc pm an cdv ct) ⟨us,ks.zip ws⟩) (ps.zip (gat3 src us mv ws))):Kbd G fd ps n ks (fun ds es=>gat3 src ds dds es):=by
 obtain⟨mv,hb⟩:=F.kbinds0 n ks ms (fun us mv ws=>gat3 src us mv ws) hk hms (fun a b c=>gat3_vals a b c src) h
 exact⟨_,_,hb,fun w ds es vs zs _ _ r1 r2=>gat3_reps r1 (hd w) r2 src⟩
end L3
namespace L3
open PySem PySem.Spec PyProof.Rows L2
section
variable {G:GC} {X:Cx} {w:Wd}
def isNonD:F2:=fun x y S=>match y with
 | .non=>match x with
   | .non=> .ok (.bl true) S
   | .glb _=> .bad
   | _=> .ok (.bl false) S
 | _=> .bad
theorem c_isNon:Calm2 isNonD:=fun x y S=>by unfold isNonD;repeat' split
                                            all_goals trivial
def isN:D→Bool
 | .non=>true
 | _=>false
theorem non_of {d:D} {v:V} (r:Rep G w d v) (hg:∀x,d≠ .glb x):decide (v= .non)=isN d:=by
 cases d with
 |non=>simp only[Rep] at r;subst r;rfl
 |glb x=>exact absurd rfl (hg x)
 |bl _=>simp only[Rep] at r;subst r;rfl
 |int _=>simp only[Rep] at r;subst r;rfl
 |str _=>simp only[Rep] at r;subst r;rfl
 |tup _=>simp only[Rep] at r;obtain⟨a,_,rfl,_⟩:=r;rfl
 |lst _=>simp only[Rep] at r;obtain⟨a,_,rfl,_⟩:=r;rfl
 |dic _ _=>simp only[Rep] at r;obtain⟨a,_,rfl,_⟩:=r;rfl
 |obj _=>simp only[Rep] at r;obtain⟨a,_,rfl⟩:=r;rfl
 |ty _=>simp only[Rep] at r;subst r;rfl
 |wtp _=>simp only[Rep] at r;obtain⟨a,rfl,_⟩:=r;rfl
 |scr _=>simp only[Rep] at r;obtain⟨a,rfl,_⟩:=r;rfl
 |kd _ _=>simp only[Rep] at r;obtain⟨a,_,_,_,_,rfl,_⟩:=r;rfl
 |xcp _ _ _=>simp only[Rep] at r;obtain⟨a,_,_,_,rfl,_⟩:=r;rfl
 |lam _ _=>simp only[Rep] at r;rw[r.1];rfl
theorem op2I' {op:CmpOp} {r r':V→V→Hp→VK→Prop} (h:OpR X (compareOp op) r) (i:∀x y H Q,r' x y H Q→r x y H Q):OpR X (compareOp op) r':=fun pins s σ H x y v u Q I rx ry q=>h pins s σ H x y v u Q I rx ry (i _ _ _ _ q)
theorem o_isNon:OpR X (compareOp .Is) (r2 G isNonD):=op2I' op_isN fun x y H Q q=>by
 obtain⟨w,d1,d2,rfl,sr,r1,r2,p⟩:=q
 unfold isNonD at p
 split at p
 ·simp only[Rep] at r2
  refine⟨r2,?_⟩
  split at p
  ·rw[non_of r1 (by simp)];exact Post.ret (Ra:=Rep G) sr (by simp[Rep,isN]) p
  ·exact p.elim
  ·rename_i h1 h2
   have hf:isN d1=false:=by
    cases d1 with
    |non=>exact absurd rfl h1
    | _=>rfl
   rw[non_of r1 h2,hf];exact Post.ret (Ra:=Rep G) sr (by simp[Rep]) p
 ·exact p.elim
end
end L3
namespace L3
open PySem PySem.Spec PyProof.Rows L2
def ne0D:F2:=fun x y S=>match y with
 | .lst [] =>match asL x S with
   |some l=> .ok (.bl (!l.isEmpty)) S
   |none=> .bad
 | _=> .bad
theorem c_ne0:Calm2 ne0D:=fun x y S=>by unfold ne0D;repeat' split
                                        all_goals trivial
section
variable {G:GC} {X:Cx} {w:Wd}
theorem o_ne0 (hu:X.A.units+64<cLine):OpR X (compareOp .NotEq) (r2 G ne0D):=by
 intro pins s σ H x y v u Q I rx ry q
 obtain⟨w,d1,d2,rfl,sr,r1,r2,p⟩:=q
 unfold ne0D at p
 split at p
 ·split at p
  ·rename_i l hl
   obtain⟨a,vs,rfl,h1,l1⟩:=asL_rep sr r1 hl
   simp only[Rep,RepL] at r2
   obtain⟨b,us,rfl,h2,_,rfl⟩:=r2
   cases rx
   cases ry
   obtain⟨its,rv,tp,_⟩:=I.list (SqL.of h1)
   obtain⟨its2,rv2,tp2,_⟩:=I.list (SqL.of h2)
   cases rv2
   have h3:=rv.length
   have h4:=l1.length
   cases l with
   |nil=>
    have e:its= [] :=List.length_eq_zero_iff.mp (by rw[← h3,h4];rfl)
    subst e
    refine SeqAt.RcNeAt.lists (e:=fun _=>true) tp.isList tp2.isList rfl (by omega) (fun j h1 h2=>absurd h2 (by simp)) X.prog X.w X.xe (EP X pins σ Q) ?_
    exact⟨.bl _,w.H,I,rfl,Post.ret (Ra:=Rep G) sr (by simp[Rep]) p⟩
   |cons d l=>
    refine SeqAt.RcNeAt.lists_lengths tp.isList tp2.isList (by
     have:its.length=l.length+1:=by rw[← h3,h4];rfl
     simp[this]) (by omega) X.prog X.w X.xe (EP X pins σ Q) ?_
    exact⟨.bl _,w.H,I,rfl,Post.ret (Ra:=Rep G) sr (by simp[Rep]) p⟩
  ·exact p.elim
 ·exact p.elim
end
end L3
namespace L3
open PySem PySem.Spec PyProof.Rows L2
def tIf (c a b:TD):TD:=fun env S=>(c env S).bind fun k S1=>match k with
 |true=>a env S1
 |false=>b env S1
end L3
namespace L3
open PySem PySem.Spec PyProof.Rows L2
def lcN (n:Nat) (g:GD) (tt:TD) (te:ED) (env:EnvD):List D→Store→R D
 | [],S=> .ok (.obj n) S
 |x::xs,S=>match g x env S with
  | .nx env1 S1=>(tt env1 S1).nox.bind fun k S2=>match k with
    |true=>(te env1 S2).nox.bind fun y S3=>match S3[n]? with
     |some (.lst acc)=>if acc.length<sizeLine then lcN n g tt te env xs (S3.set n (.lst (acc++ [y]))) else .bad
     | _=> .bad
    |false=>lcN n g tt te env xs S2
  | _=> .bad
def eLcN (mi:ID) (vs:List Nat) (g:GD) (tt:TD) (te:ED):ED:=fun env S=>(mi env S).bind fun xs S1=>
 if xs.length≤sizeLine then lcN S1.length g tt te (wipeD env vs) xs (S1++ [.lst []]) else .bad
section
variable {G:GC} {X:Cx} {Wx:WX} {pos:Pos}
theorem imp_lcN {mi:ID} {vs:List Nat} {g:GD} {tt:TD} {te:ED} :∀ σ H Q,tE G (eLcN mi vs g tt te) Wx σ H Q→tLc (tI G mi Wx) (tGW G g vs) (tT G tt WF) (tE G te WF) vs σ H Q:=by
 intro σ H Q q
 obtain⟨w,env,rfl,sr,er,p⟩:=q
 refine⟨w,env,rfl,sr,er,(Post.bind (Ra:=fun w' xs (J:It)=>ItOk G w' J xs) p).mono (fun J H1 m=> ?_) fun _ _ _ h=>h⟩
 obtain⟨w1,xs,rfl,x1,s1,io,p1⟩:=m
 intro L hL
 by_cases hz:xs.length≤sizeLine
 case neg=>rw[if_neg hz] at p1;exact p1.elim
 rw[if_pos hz] at p1
 obtain⟨F,SF,hF⟩:∃F SF,lcN w1.S.length g tt te (wipeD env vs) xs (w1.S++ [.lst []])= .ok F SF:=by
  cases h:lcN w1.S.length g tt te (wipeD env vs) xs (w1.S++ [.lst []]) with
  |ok F SF=>exact⟨F,SF,rfl⟩
  |exc e S=>
   exfalso
   have no:∀(xs:List D) (S:Store) (n:Nat),(∃ d S',lcN n g tt te (wipeD env vs) xs S= .ok d S')∨lcN n g tt te (wipeD env vs) xs S= .bad:=by
    intro xs
    induction xs with
    |nil=>exact fun S n=> .inl ⟨_,_,rfl⟩
    |cons x xs ih=>
     intro S n
     unfold lcN
     cases g x (wipeD env vs) S with
     |nx env1 S1=>
      simp only
      cases tt env1 S1 with
      |ok k S2=>
       simp only[R.nox,R.bind]
       cases k with
       |false=>exact ih S2 n
       |true=>
        simp only
        cases te env1 S2 with
        |ok y S3=>
         simp only[R.nox,R.bind]
         split
         ·split
          ·exact ih _ n
          ·exact .inr rfl
         ·exact .inr rfl
        |exc _ _=>exact .inr rfl
        |bad=>exact .inr rfl
      |exc _ _=>exact .inr rfl
      |bad=>exact .inr rfl
     | _=>exact .inr rfl
   rcases no xs (w1.S++ [.lst []]) w1.S.length with⟨d,S',e⟩|e
   ·rw[e] at h;cases h
   ·rw[e] at h;cases h
  |bad=>rw[h] at p1;exact p1.elim
 rw[hF] at p1
 obtain⟨n,hn⟩:∃n,n=w1.S.length:=⟨_,rfl⟩
 rw[← hn] at hF
 have er1:=(er.mono x1).wipe vs
 obtain⟨x0,s0⟩:=new_obj (w:=w1) (p:=L) (o:= .lst []) (ob:= .lst []) s1 hL fun w' x e=>⟨[],e,by simp[RepL]⟩
 have m0:(w1.mu++ [L])[n]? =some L:=by rw[hn,←s1.len];simp
 refine⟨fun i m H=>∃w3,w3.H=H∧SRep G w3∧WExt w1 w3∧w3.mu[n]? =some L∧i+m=xs.length∧lcN n g tt te (wipeD env vs) (xs.drop i) w3.S= .ok F SF,
  ⟨xs.length,_,rfl,s0,x0,m0,by omega,by simpa using hF⟩,fun i m H hW=> ?_⟩
 obtain⟨w3,rfl,s3,x3,m3,em,eq⟩:=hW
 have tok0:Tok [] w1:=fun a h=>by simp at h
 by_cases hi:i<xs.length
 ·have e:xs[i]? =some xs[i] :=List.getElem?_eq_getElem hi
  obtain⟨go,yl⟩:=io.go [] w3 tok0 x3 s3 i xs[i] e
  refine .inr ⟨go,fun H'=>∃w5,w5.H=H'∧SRep G w5∧WExt w1 w5∧w5.mu[n]? =some L∧(i+1)+(m-1)=xs.length∧lcN n g tt te (wipeD env vs) (xs.drop (i+1)) w5.S= .ok F SF,fun H' hN=>⟨m-1,by omega,hN⟩,fun x H' hy=> ?_⟩
  obtain⟨w4,rfl,x4,eS4,s4,rp4⟩:=yl x H' hy
  have x14:WExt w1 w4:=WX'.trans x3 x4
  refine⟨w4,wipeD env vs,xs[i],rfl,s4,er1.mono x14,rp4,?_⟩
  rw[List.drop_eq_getElem_cons hi,lcN] at eq
  rw[eS4]
  cases hg:g xs[i] (wipeD env vs) w3.S with
  |nx env5 S5=>
   rw[hg] at eq
   simp only at eq
   intro σ5 w5 x5 e5 s5 er5 hw
   subst e5
   refine⟨hw.trans (wipe_sub fun _ h=>h),w5,env5,rfl,s5,er5,?_⟩
   cases ht:tt env5 w5.S with
   |ok k S6=>
    rw[ht] at eq
    simp only[R.nox,R.bind] at eq
    intro b w6 x6 e6 s6 hb
    subst hb e6
    have x46:WExt w4 w6:=WX'.trans x5 x6
    have x16:WExt w1 w6:=WX'.trans x14 x46
    cases k with
    |false=>exact iteF ⟨w6,rfl,s6,x16,x46.mu _ _ (x4.mu _ _ m3),by omega,eq⟩
    |true=>
     refine iteT ⟨w6,env5,rfl,s6,er5.mono x6,?_⟩
     simp only at eq
     cases hte:te env5 w6.S with
     |ok y S7=>
      rw[hte] at eq
      simp only[R.nox,R.bind] at eq
      intro v w7 x7 e7 s7 r7
      subst e7
      have m7:w7.mu[n]? =some L:=x7.mu _ _ (x46.mu _ _ (x4.mu _ _ m3))
      split at eq
      ·rename_i acc hacc
       split at eq
       ·rename_i hz7
        obtain⟨us,hL7,ra7⟩:=s7.obj n _ L hacc m7
        have lu:us.length=acc.length:=ra7.length
        refine⟨us,hL7,by omega,?_⟩
        obtain⟨x8,s8⟩:=set_obj (ob':= .lst (acc++ [y])) (o:= .lst (us++ [v])) s7 hacc trivial m7 fun w' x e=>⟨_,e,RepL.mono x _ _ (ra7.append (RepL.one r7))⟩
        exact⟨_,rfl,s8,WX'.trans (WX'.trans x16 x7) x8,m7,by omega,eq⟩
       ·cases eq
      ·cases eq
     |exc ee S7=>rw[hte] at eq;cases eq
     |bad=>rw[hte] at eq;cases eq
   |exc ee S6=>rw[ht] at eq;cases eq
   |bad=>rw[ht] at eq;cases eq
  |ret _ _=>rw[hg] at eq;cases eq
  |brk _ _=>rw[hg] at eq;cases eq
  |ct _ _=>rw[hg] at eq;cases eq
  |exc _ _ _=>rw[hg] at eq;cases eq
  |bad=>rw[hg] at eq;cases eq
 ·have ei:i=xs.length:=by omega
  subst ei
  refine .inl ⟨io.stop [] w3 tok0 x3 s3,?_⟩
  rw[List.drop_length] at eq
  simp only[lcN,R.ok.injEq] at eq
  obtain⟨rfl,rfl⟩:=eq
  exact p1 (.ref L) w3 x3 rfl s3 (by simp only[Rep];exact⟨L,m3,rfl⟩)
theorem q_setLcN {i:Nat} {y:Str} {py:Pos} {elt tg iter:Expr} {ifs:List Expr} {scope:Scope} {own:List (Str × Nat)} {spos:Pos} {mi:ID} {g:GD} {mt:TD} {me:ED} (hc:X.calm=true) (hN:X.N.Nodup) (hy:X.N[i]? =some y) (hyl:X.env.scope.names.lookup y=some .local)
 (hsw:swapsWith (.ListComp elt [⟨tg,iter,ifs,0⟩] scope pos) (some (.Name y py)) spos.line X.env=pure true) (hi:PI X tg iter (tI G mi Wx)) (ok:BlkOk X.N X.env.scope scope own)
 (hg:∀(s:Shared) (H:Hp) (C:Addr) (cl:List (Str × Addr)) (fp:List Addr),PG (X.blk s H scope (compEnvC scope cl C X.env) fp) tg (tGW G g (own.map (·.2))))
 (ht:∀(s:Shared) (H:Hp) (C:Addr) (cl:List (Str × Addr)) (fp:List Addr),PTs (X.blk s H scope (compEnvC scope cl C X.env) fp) ifs (tT G mt WF))
 (he:∀(s:Shared) (H:Hp) (C:Addr) (cl:List (Str × Addr)) (fp:List Addr),PE (X.blk s H scope (compEnvC scope cl C X.env) fp) elt (tE G me WF)) (hs:∀x,foldedSetIterable iter X.env x=pure x:=by intro _;rfl):
 PS X (.Assign [.Name y py] (.ListComp elt [⟨tg,iter,ifs,0⟩] scope pos) spos) (tS G (sAsg (eLcN mi (own.map (·.2)) g mt me) (gName i)) Wx):=psI (ps_setLc hc hN hy hyl hsw hi ok hg ht he hs) fun D σ H q=>by
 obtain⟨w,env,rfl,sr,er,p⟩:=q
 refine imp_lcN (Wx:=Wx) σ w.H _ ⟨w,env,rfl,sr,er,(PostS.ofR (Ra:=Rep G) er p).mono (fun x H1 m=> ?_) fun _ _ _ h=>h⟩
 obtain⟨w1,d1,rfl,x1,s1,rp1,p1⟩:=m
 exact p1 _ w1 (.refl w1) rfl s1 ((er.mono x1).set i rp1)
end
end L3
namespace L3
open PySem PySem.Spec PyProof.Rows L2
def repTD:F2:=fun x y S=>match x,y with
 | .tup (d::l), .int k=>if 2≤k∧k≤1000∧l.length<1000 then .ok (.tup (List.replicate k.toNat (d::l)).flatten) S else .bad
 | _,_=> .bad
theorem c_repT:Calm2 repTD:=fun x y S=>by unfold repTD;repeat' split
                                          all_goals trivial
section
variable {G:GC} {X:Cx} {w:Wd}
theorem RepL.repD {ds:List D} {vs:List V} (h:RepL G w ds vs):∀m:Nat,RepL G w (List.replicate m ds).flatten (List.replicate m vs).flatten
 |0=>by simp[RepL]
 |m+1=>by
  simp only[List.replicate_succ,List.flatten_cons]
  exact RepL.append h (RepL.repD h m)
theorem o_repT (hK:X.K=G.K):OpR X (binaryOp .Mult) (r2 G repTD):=by
 refine opI2 op_repT fun x y H Q q=> ?_
 obtain⟨w,d1,d2,rfl,sr,r1,r2,p⟩:=q
 unfold repTD at p
 split at p
 ·rename_i d ds k
  split at p
  ·rename_i hk
   simp only[Rep] at r1 r2
   obtain⟨l,xs,rfl,ht,rl⟩:=r1
   subst r2
   have hT:SqT X.K w.H l xs:=by rw[hK];exact SqT_of ht
   have ln:=rl.length
   simp only[List.length_cons] at ln
   exact⟨l,k,xs,rfl,rfl,hT,(by rintro rfl;simp at ln),hk.1,hk.2.1,by omega,fun p' hp'=>new_tup sr (rl.repD k.toNat) p p' hp'⟩
  ·exact p.elim
 ·exact p.elim
end
end L3
namespace L3
open PySem PySem.Spec PyProof.Rows L2
def notTrD:F2:=fun x y S=>match x,y with
 | .bl a, .bl b=> .ok (.bl (!(a==b))) S
 | _,_=> .bad
theorem c_notTr:Calm2 notTrD:=fun x y S=>by unfold notTrD;repeat' split
                                            all_goals trivial
section
variable {G:GC} {X:Cx} {w:Wd}
theorem isnot_bl {M:Model} {A:Around} {E:Value→Shared→Prop} {s:Shared} {Q:Value→Shared→Prop} {a b:Bool} (h:Q (.bool (!(a==b))) s):wpAny M A (compareOp .IsNot (.bool a) (.bool b)) Q E s:=by
 have e:((Value.bool a)==(Value.bool b))=(a==b):=by cases a<;>cases b<;>rfl
 rw[← e] at h
 exact wpAny_pure h
theorem o_notTr:OpR X (compareOp .IsNot) (r2 G notTrD):=by
 intro pins s σ H x y v u Q I rx ry q
 obtain⟨w,d1,d2,rfl,sr,r1,r2,p⟩:=q
 unfold notTrD at p
 split at p
 ·simp only[Rep] at r1 r2
  subst r1 r2
  cases rx;cases ry
  exact isnot_bl ⟨.bl _,w.H,I,rfl,Post.ret (Ra:=Rep G) sr (by simp[Rep]) p⟩
 ·exact p.elim
end
end L3
namespace L3
open PySem PySem.Spec PyProof.Rows L2 RT
section
variable {prog:Program} {w:World} {A:Around} {E:Value→Shared→Prop} {s:Shared}
theorem nextOf_rt_item {it t:Addr} {i:Nat} {items:Array Value} {x:Value} {Q:Value→Shared→Prop} (hit:IsRt s.heap it t (i:Int)) (ht:IsTup s.heap t items) (hx:items[i]? =some x) (hsz:items.size≤sizeLine)
 (hQ:∀h',IsRt h' it t ((i:Int)-1)→Heap.SameBut it s.heap h'→Q x { s with heap:=h',toks:=s.toks+1 }):wpAny (model prog w) A (Builtin.SmallTypes.nextOf (.ref it)) Q E s:=by
 obtain⟨o,ho,hc,hd⟩:=id hit
 have hi:i<items.size:=(Array.getElem?_eq_some_iff.mp hx).1
 have hT:s.TypeIs (.ref t) "tuple" :=IsTup.typeOf' ht
 rw[sizeLine_eq] at hsz
 unfold Builtin.SmallTypes.nextOf
 refine wpAny_bind (wpAny_callSpecial?_slot (name:=Str.ofString "__next__") hit.typeIs slot_rt_next
  (wpAny_call_entry slot_rt_next hit.typeIs entry_rt_next ?_ (args_rt_next _)))
 unfold Builtin.«reversed.__next__»
 refine wpAny_bind (wpAny_of_eq (a:=(Value.ref it,[])) rfl ?_)
 try dsimp only
 refine wpAny_bind (wpAny_field ho hd (x:= .ref t) rfl ?_)
 try dsimp only
 refine wpAny_bind (wpAny_field ho hd (x:=rawInt (i:Int)) rfl ?_)
 show wpAny _ _ (if(i:Int)<0 then _ else _) _ _ s
 rw[if_neg (by omega)]
 try dsimp only
 refine wpAny_bind (wpAny_specialOf hT get_tuple ?_)
 try dsimp only
 try rw[if_neg (by decide)]
 try dsimp only
 refine wpAny_bind (wpAny_mkInt ?_)
 refine wpAny_bind (wpAny_attempt ?_)
 have fin:seqIndex? (i:Int) items.size=some i:=seqIndex_of (by omega) (by omega)
 refine PyProof.Rows.getItem_tuple (s:= { s with toks:=s.toks+1 }) ht (by omega) (by omega) fin hx ?_
 try dsimp only
 refine wpAny_bind (wpAny_field (s:= { s with toks:=s.toks+1 }) ho hd (x:=rawInt (i:Int)) rfl ?_)
 try dsimp only
 refine wpAny_bind (wpAny_setField (s:= { s with toks:=s.toks+1 }) ho hd (by simp) ?_)
 first
 |refine wpAny_pure ⟨x,rfl,wpAny_pure (hQ _ ?_ (Heap.SameBut.update ..))⟩
 |refine wpAny_bind (wpAny_pure (wpAny_pure ⟨x,rfl,wpAny_pure (hQ _ ?_ (Heap.SameBut.update ..))⟩))
 exact⟨_,Heap.get?_update_self _ ho (Obj.isFreed_of_fields (Obj.data_mapFields hd _)),(Obj.cls_mapFields ..).trans hc,by
  rw[Obj.data_mapFields hd];simp⟩
theorem nextOf_rt_end {it t:Addr} {Q:Value→Shared→Prop} (hh:A.handled=none) (hit:IsRt s.heap it t (-1))
 (hE:∀h' e,Heap.ExtBut it s.heap h'→(∃ o,h'.get? e=some o∧o.cls= .type "StopIteration")→E (.ref e) { s with heap:=h' }):wpAny (model prog w) A (Builtin.SmallTypes.nextOf (.ref it)) Q E s:=by
 obtain⟨o,ho,hc,hd⟩:=id hit
 unfold Builtin.SmallTypes.nextOf
 refine wpAny_bind (wpAny_callSpecial?_slot (name:=Str.ofString "__next__") hit.typeIs slot_rt_next
  (wpAny_call_entry slot_rt_next hit.typeIs entry_rt_next ?_ (args_rt_next _)))
 unfold Builtin.«reversed.__next__»
 refine wpAny_bind (wpAny_of_eq (a:=(Value.ref it,[])) rfl ?_)
 try dsimp only
 refine wpAny_bind (wpAny_field ho hd (x:= .ref t) rfl ?_)
 try dsimp only
 refine wpAny_bind (wpAny_field ho hd (x:=rawInt (-1)) rfl ?_)
 show wpAny _ _ (if(-1:Int)<0 then _ else _) _ _ s
 rw[if_pos (by decide)]
 try dsimp only
 refine wpAny_bind (wpAny_rule ?_)
 refine wpAny_bind ?_
 wp_delta
 refine wpAny_bind (wpAny_setField ho hd (by simp) ?_)
 have ho2:=Heap.get?_update_self (Obj.mapFields (·.setIfInBounds 1 (rawInt (-1)))) ho (Obj.isFreed_of_fields (Obj.data_mapFields hd _))
 refine wpAny_setField (s:= { s with heap:=s.heap.update it (Obj.mapFields (·.setIfInBounds 1 (rawInt (-1)))) }) ho2 (Obj.data_mapFields hd _) (by simp) ?_
 try dsimp only
 first
 |show wpAny _ _ (newExc (.type "StopIteration") [] >>= _) _ _ _
 |(refine wpAny_bind ?_;show wpAny _ _ (newExc (.type "StopIteration") [] >>= _) _ _ _)
 |(refine wpAny_bind ?_;wp_delta;show wpAny _ _ (newExc (.type "StopIteration") [] >>= _) _ _ _)
 refine wpAny_bind ?_
 simp only[newExc,newTuple]
 refine wpAny_bind (wpAny_newObj_type ?_ (by size_fits))
 refine wpAny_bind (m:=firstArgMember _ _) (wpAny_of_eq (a:=Value.none) (by first|rfl|(simp only[firstArgMember];rfl)) ?_)
 refine wpAny_newObj_type ?_ (by size_fits)
 simp only[raiseNew]
 refine wpAny_bind (wpAny_handled ?_)
 first|rw[show A.in1.handled=none from hh] |rw[hh]
 refine wpAny_bind (wpAny_pure (wpAny_throw ?_))
 refine hE _ _ ?_ ⟨_,Heap.get?_push_size _ rfl,rfl⟩
 refine((?_:Heap.ExtBut it s.heap _).push _).push _
 exact fun b ob hb e=>(Heap.get?_update_other _ _ (Ne.symm hb)).trans ((Heap.get?_update_other _ _ (Ne.symm hb)).trans e)
theorem Draws.rt (hh:A.handled=none) (it t:Addr) (hne:t≠it) (items:Array Value) (hsz:items.size≤sizeLine):
 Draws prog w A it [it,t] items.size (fun i v=>items[items.size-1-i]? =some v) (fun i h=>(i≤items.size∧IsRt h it t ((items.size:Int)-1-(i:Nat)))∧h.IsTuple t items) where
 live:=fun _ _ st=>let⟨o,ho,_⟩:=st.1.2;⟨o,ho⟩
 frame:=fun _ _ _ st hk=>⟨⟨st.1.1,st.1.2.at fun o e=>hk it (by simp) o e⟩,st.2.at fun o e=>hk t (by simp) o e⟩
 item:=fun i s Q E hi st hQ=>by
  obtain⟨⟨_,hit⟩,ht⟩:=st
  have e1:(items.size:Int)-1-((i:Nat):Int)=((items.size-1-i:Nat):Int):=by omega
  rw[e1] at hit
  refine nextOf_rt_item hit ht (x:=items[items.size-1-i]) (by simp) hsz fun h' hit' hs'=> ?_
  have e2:((items.size-1-i:Nat):Int)-1=(items.size:Int)-1-((i+1:Nat):Int):=by omega
  rw[e2] at hit'
  exact hQ _ h' (s.toks+1) (by simp) ⟨⟨by omega,hit'⟩,ht.extBut hs'.extBut hne⟩ hs'
 done:=fun s Q E st hE=>by
  obtain⟨⟨_,hit⟩,ht⟩:=st
  have e1:(items.size:Int)-1-((items.size:Nat):Int)= -1:=by omega
  rw[e1] at hit
  exact nextOf_rt_end hh hit hE
end
theorem meets_enumI {r:Addr} {H:Heap→Prop} (hi:∀(prog:Program) (w:World) (A:Around) (E:Value→Shared→Prop) (s:Shared) (Q:Value→Shared→Prop),H s.heap→Q (.ref r) s→wpAny (model prog w) A (pyIter (.ref r)) Q E s):
 Meets (Builtin.«enumerate.__new__» ⟨[.type "enumerate", .ref r],[]⟩) (fun _ R s=>H s.heap∧
  R (.ok (.ret (.ref s.heap.objs.size))) { s with heap:=s.heap.push { cls:= .type "enumerate",data:= .fields #[.none, .bool false, .ref r,rawInt 0, .none, .none] } }):=
 .of_wp fun prog w A R s h=>by
  obtain⟨hp,g,d,tk,os⟩:=s;obtain⟨h1,h⟩:=h
  have hsub:=sub_enumerate
  have q1:∀ {A':Around} {E:Value→Shared→Prop} {Q:Value→Shared→Prop},Q (.ref r) ⟨hp,g,d,tk,os⟩→wpAny (model prog w) A' (pyIter (.ref r)) Q E ⟨hp,g,d,tk,os⟩:=
   fun q=>hi prog w _ _ ⟨hp,g,d,tk,os⟩ _ h1 q
  wp_walk using q1
  refine wpAny_stack_any fun st=>wpAny_pure ?_
  split
  ·rename_i c _ _ _ _ _
   cases(c==Value.type "enumerate")
   ·wp_walk using q1
    exact⟨_,rfl,h⟩
   ·wp_walk using q1
    exact⟨_,rfl,h⟩
  ·wp_walk using q1
   exact⟨_,rfl,h⟩
section
variable {prog:Program} {w:World} {A:Around} {E:Value→Shared→Prop} {s:Shared}
theorem enumI {r:Addr} {H:Heap→Prop} {Q:Value→Shared→Prop} (hi:∀(prog:Program) (w:World) (A:Around) (E:Value→Shared→Prop) (s:Shared) (Q:Value→Shared→Prop),H s.heap→Q (.ref r) s→wpAny (model prog w) A (pyIter (.ref r)) Q E s) (h1:H s.heap)
 (h:∀h',IsEnum h' s.heap.objs.size r 0 .none→h'.objs.size=s.heap.objs.size+1→
   (∀ b o,s.heap.get? b=some o→h'.get? b=some o)→Q (.ref s.heap.objs.size) { s with heap:=h' }):
 wpAny (model prog w) A (call (.type "enumerate") [.ref r]) Q E s:=by
 refine callType_new F.called_enumerate (by decide) (F.typeCall_enumerate_1 _) (F.newCall_enumerate_1 _) (fun obj=>F.args_object_init_2 obj _) F.entry_enumerate_new
  (meets_enumI hi) ⟨h1,?_⟩
 have he:IsEnum (s.heap.push { cls:= .type "enumerate",data:= .fields #[.none, .bool false, .ref r,rawInt 0, .none, .none] }) s.heap.objs.size r 0 .none:=
  Heap.get?_push_size s.heap (o:= { cls:= .type "enumerate",data:= .fields #[.none, .bool false, .ref r,rawInt 0, .none, .none] }) rfl
 exact⟨⟨_,he,rfl⟩,h _ he (by rw[Heap.size_push]) fun b o x=>Heap.get?_push_of_some _ x⟩
end
def Itevt (K:PySem.W.Frag) (a:Addr) (n:Nat):It:=
 ⟨fun i H=>i<n∧∃(xs:List V) (x:V),SqT K H a xs∧xs.length=n∧xs[n-1-i]? =some x,fun i H v H'=>∃T x,v= .ref T∧H T=none∧H'=upd H T (.tup [.int (i:Nat),x])∧∀xs,SqT K H a xs→xs[n-1-i]? =some x,fun i H=>∃xs:List V,SqT K H a xs∧xs.length=n∧i=n⟩
theorem turn_enumR {P:Program} {w:World} {K:PySem.W.Frag} {elts:List Expr} {kk:Nat} {tpos:Pos} (a e it:Addr) (n:Nat):
 Turn P w K (.Tuple elts kk tpos) (Itevt K a n) [e,it] e (fun i h=>(∃ old,IsEnum h e it ((i:Nat):Int) old)∧(i≤n∧IsRt h it a ((n:Int)-1-(i:Nat)))∧e≠it∧a≠it∧a≠e) where
 mem:=by simp
 obj:=fun i h st b hb=>by
  obtain⟨⟨old,he⟩,⟨_,o,ho,hc,hd⟩,_⟩:=st
  have e':b=e∨b=it:=by simpa using hb
  rcases e' with z|z
  ·rw[z];exact⟨_,he,fun v q=>nomatch q⟩
  ·rw[z];exact⟨o,ho,fun v q=>by rw[hd] at q;cases q⟩
 keep:=fun i h h' st k=>let⟨⟨old,he⟩,⟨hin,o,ho,r⟩,hne⟩:=st;⟨⟨old,k e (by simp) _ he⟩,⟨hin,o,k it (by simp) o ho,r⟩,hne⟩
 item:=by
  intro X hP hw hK hc i pins s σ H E I hf st hg
  subst hP hw hK
  obtain⟨⟨old,he⟩,⟨_,hit⟩,hne,hait,hae⟩:=st
  obtain⟨hin,xs,x,hq,hxl,hx⟩:=hg
  obtain⟨its,rv,p,hz⟩:=I.tuple hq
  obtain⟨u,hu,ru⟩:=rv.get hx
  have hl:=rv.length
  have hel:e<s.heap.objs.size:=Heap.lt_size he
  have hil:it<s.heap.objs.size:=by obtain⟨_,q,_⟩:=hit;exact Heap.lt_size q
  have hsn:its.toArray.size=n:=by simp;omega
  have hz':its.toArray.size≤sizeLine:=by rw[List.size_toArray,←hl];exact hz
  have hdn:X.A.in1.handled=none:=I.ok.hd hc
  refine wpAny_pyNext_enum_itemD (Draws.rt hdn it a hait its.toArray hz') he ⟨⟨by omega,by rw[hsn];exact hit⟩,(show s.heap.IsTuple a its.toArray from p)⟩ (by omega) hne (by simp[Ne.symm hae,hne]) fun y h' tk hy ho hit' hT hsz hk=> ?_
  have hyu:y=u:=by
   have:its.toArray[n-1-i]? =some u:=by simpa using hu
   rw[hsn] at hy
   rw[this] at hy;exact(Option.some.inj hy).symm
  subst hyu
  refine⟨_,rfl,wpAny_letOwnedTupleGo_enum (s:= { s with heap:=h',toks:=tk+1 }) ho fun h'' he' sb=> ?_⟩
  have hT2:h''.get? s.heap.objs.size=some { cls:= .type "tuple",data:= .seq #[.int i tk,y] } :=(sb.2 _ (Nat.ne_of_gt hel)).trans hT
  have new:ObjOk X.prog X.w (upd H s.heap.objs.size (.tup [.int (i:Nat),x])) h'' s.heap.objs.size (.tup [.int (i:Nat),x]):=
   ⟨by show 2≤sizeLine;decide,[.int i tk,y], .cons ⟨_,rfl⟩ (.cons ru .nil),⟨_,hT2,rfl,_,rfl⟩⟩
  have I1:Inv X pins σ (upd H s.heap.objs.size (.tup [.int (i:Nat),x])) { s with heap:=h'',toks:=tk+1 } :=
   I.turnedNew (ch:= [e,it]) (fun b ob hb q=>(sb.2 b (fun z=>hb (by simp[z]))).trans (hk b ob (fun z=>hb (by simp[z])) (fun z=>hb (by simp[z])) q)) hf (Nat.le_refl _) new
  refine⟨.ref s.heap.objs.size,_,I1,rfl,⟨_,x,rfl,I.hok.fresh (Nat.le_refl _),rfl,fun ys hy=> ?_⟩,⟨⟨y,?_⟩,?_,hne,hait,hae⟩,fun b hb=> ?_⟩
  ·rw[I.tuple_inj hy hq];exact hx
  ·have e1:((i+1:Nat):Int)=(i:Int)+1:=by omega
   rw[e1];exact he'
  ·obtain⟨⟨hi',o,ho,r⟩,_⟩:=hit'
   rw[hsn] at r
   exact⟨by omega,o,(sb.2 it (Ne.symm hne)).trans ho,r⟩
  ·have hb':b<s.heap.objs.size:=by
    have e':b=e∨b=it:=by simpa using hb
    rcases e' with z|z
    ·rw[z];exact hel
    ·rw[z];exact hil
   rw[upd_ne (Nat.ne_of_lt hb')]
   exact(hf b hb).1
 done:=by
  intro X hP hw hK hc i pins s σ H E I hf st hg
  subst hP hw hK
  obtain⟨⟨old,he⟩,⟨_,hit⟩,hne,hait,hae⟩:=st
  obtain⟨xs,hq,hxl,hx⟩:=hg
  obtain⟨its,rv,p,hz⟩:=I.tuple hq
  obtain⟨f0,f1,f2,f3,f4,f5⟩:=hf it (by simp)
  have hl:=rv.length
  have hsn:its.toArray.size=n:=by simp;omega
  have hz':its.toArray.size≤sizeLine:=by rw[List.size_toArray,←hl];exact hz
  subst hx
  have he':IsEnum s.heap e it ((its.toArray.size:Nat):Int) old:=by rw[hsn];exact he
  exact wpAny_pyNext_enum_endD (Draws.rt (show X.A.in1.handled=none from I.ok.hd hc) it a hait its.toArray hz') he' ⟨⟨Nat.le_refl _,by rw[hsn];exact hit⟩,(show s.heap.IsTuple a its.toArray from p)⟩ fun h' eb=>⟨rfl,I.turned (t':=s.toks) (fun b o hb q=>eb b o hb q) f0 f1 f3 f4 f5⟩
 self:=fun A i s Q E st h=>let⟨⟨_,he⟩,_⟩:=st;wpAny_pyIter_enum he h
def erevD (x:D) (S:Store):R (List D):=match x with
 | .tup l=> .ok (enumL 0 l.reverse) S
 | _=> .bad
def erevA:List D→Store→R (List D):=fun xs S=>match xs with
 | [x] =>erevD x S
 | _=> .bad
section
variable {G:GC} {X:Cx} {Wx:WX} {pos:Pos}
theorem it_enumR {w:Wd} {a:Addr} {vs:List V} {l:List D} (h:TupAt G w a vs l) (r:RepL G w l vs):ItOk G w (Itevt G.K a l.length) (enumL 0 l.reverse):=by
 have hl:=r.length
 have sq:∀(T:List Addr) w',Tok T w→WX' T w w'→SqT G.K w'.H a vs:=fun T w' hT x=>by
  rcases h with⟨h,nm⟩|h
  ·exact .inl (.inl (x.keepM hT h nm).1)
  ·exact .inr h.1
 refine⟨fun T w' hT x s i d e=> ?_,fun T w' hT x s=>⟨vs,sq T w' hT x,hl,by rw[enumL_len,List.length_reverse]⟩⟩
 have hi:i<l.length:=by
  have:=(List.getElem?_eq_some_iff.mp e).1
  rw[enumL_len,List.length_reverse] at this;exact this
 obtain⟨y,e1,rfl⟩:=enumL_get 0 l.reverse i d e
 rw[List.getElem?_reverse (by omega)] at e1
 obtain⟨v,q1,q2⟩:=r.get e1
 refine⟨⟨hi,vs,v,sq T w' hT x,hl,q1⟩,fun y H'' hy=> ?_⟩
 obtain⟨Tn,z,rfl,hTn,rfl,hy⟩:=hy
 have e2:=hy vs (sq T w' hT x)
 rw[q1] at e2;cases e2
 have:=new_pair (i:=((0+i:Nat):Int)) s hTn (Rep.monoT x hT _ _ q2)
 rw[show 0+i=i by omega] at this ⊢
 exact this
theorem q_enumR {elts:List Expr} {kk:Nat} {tpos p p2 pos2:Pos} {e:Expr} {m:AD} (hK:X.K=G.K) (hg:Gl X "enumerate") (hm:X.mg "enumerate" =none) (hg2:Gl X "reversed") (hm2:X.mg "reversed" =none) (ha:PA X [e] (tA G m Wx))
 (hs:starEach [e] X.env= [(false,eval e X.env)] :=by rfl) (hs2:starEach [.Call (.Name "reversed" p2) [e] [] pos2] X.env=(false,eval (.Call (.Name "reversed" p2) [e] [] pos2) X.env)::starEach [] X.env:=by rfl):
 PI X (.Tuple elts kk tpos) (.Call (.Name "enumerate" p) [.Call (.Name "reversed" p2) [e] [] pos2] [] pos) (tI G (iArgs erevA m) Wx):=by
 refine⟨fun pins s σ H R I q=> ?_⟩
 obtain⟨w,env,rfl,sr,er,p⟩:=q
 refine Call_ (ld_blt I hg hm boot_enumerate (PyProof.Rows.callWith_type1 (args_cons ?_ hs2) hs2 rfl))
 refine Call_ (ld_blt I hg2 hm2 PyProof.Rows.boot_reversed (PyProof.Rows.callWith_type1 (thn (ha.run pos2 pins s σ w.H _ I ⟨w,env,rfl,sr,er,Post.bind p⟩) fun us s1 ⟨vs,H1,I1,r1,q1⟩=> ?_) hs rfl))
 obtain⟨w1,ds,rfl,x1,sr1,rp1,p1⟩:=q1
 unfold erevA at p1
 split at p1
 ·rename_i d1
  simp only[RepL] at rp1
  obtain⟨v,r',rfl,rp1,rfl⟩:=rp1
  cases r1 with
  |cons r rr=>
   cases rr
   unfold erevD at p1
   split at p1
   ·rename_i l
    simp only[Rep] at rp1
    obtain⟨a,vs,rfl,hq,rl⟩:=rp1
    cases r
    have q:=p1 (Itevt G.K a l.length) w1 (.refl _) rfl sr1 (it_enumR hq rl)
    have hq':SqT X.K w1.H a vs:=by rw[hK];exact hq.imp (fun z=> .inl z.1) (fun z=>z.1)
    obtain⟨its,rv,p',hz⟩:=I1.tuple hq'
    have hl:=rv.length
    have hl2:=rl.length
    have hn:=line63
    have hT:s1.heap.IsTuple a its.toArray:=p'
    have hal:a<s1.heap.objs.size:=by obtain⟨_,q,_⟩:=hT;exact Heap.lt_size q
    have e1:((its.toArray.size:Nat):Int)-1=(l.length:Int)-1-((0:Nat):Int):=by simp only[List.size_toArray];omega
    refine call_reversed_tup p' (fun A E Q k=>len_tuple p' (by simp only[List.size_toArray] <;>omega) k) ?_
    refine args_nil ?_
    obtain⟨r,hr⟩:∃r,r=s1.heap.objs.size:=⟨_,rfl⟩
    rw[← hr]
    have haR:a<r:=by rw[hr];exact hal
    have hn1:a≠r:=Nat.ne_of_lt haR
    have hn2:a≠r+1:=Nat.ne_of_lt (Nat.lt_succ_of_lt haR)
    have hrt:IsRt (s1.heap.push (rtObj a ((its.toArray.size:Int)-1))) r a ((l.length:Int)-1-((0:Nat):Int)):=by
     rw[← e1,hr]
     exact⟨_,Heap.get?_push_size _ rfl,rfl,rfl⟩
    have hsz0:(s1.heap.push (rtObj a ((its.toArray.size:Int)-1))).objs.size=r+1:=by rw[Heap.size_push,hr]
    refine enumI (H:=fun h=>IsRt h r a ((l.length:Int)-1-((0:Nat):Int))) (fun prog w A E s Q h1 h2=>iter_rt h1 h2) hrt fun h' he hsz hk=>wpAny_pyIter_enum he ?_
    have kp:∀b o,s1.heap.get? b=some o→h'.get? b=some o:=fun b o x=>hk b o (Heap.get?_push_of_some _ x)
    have I2:Inv X pins σ w1.H { s1 with heap:=h',toks:=s1.toks+1+1 } :=I1.kept (t':=s1.toks+1+1) kp
    have hrt':IsRt h' r a ((l.length:Int)-1-((0:Nat):Int)):=hrt.at fun o e=>hk r o e
    rw[show ({ s1 with heap:=s1.heap.push (rtObj a ((its.toArray.size:Int)-1)),toks:=s1.toks+1+1 } :Shared).heap.objs.size=r+1 from hsz0] at he ⊢
    refine⟨r+1,[r+1,r],_,_,w1.H,rfl,I2,turn_enumR a (r+1) r l.length,⟨⟨.none,he⟩,⟨Nat.zero_le _,hrt'⟩,Nat.succ_ne_self _,hn1,hn2⟩,fun b hb=> ?_,by rw[hK];exact q⟩
    have e':b=r+1∨b=r:=by simpa using hb
    have hle:s1.heap.objs.size≤b:=by
     rw[← hr]
     rcases e' with z|z
     ·rw[z];exact Nat.le_succ r
     ·rw[z];exact Nat.le_refl _
    exact I1.fpOk hle (I1.hok.fresh hle)
   ·exact p1.elim
 ·exact p1.elim
end
end L3
namespace L3
open PySem PySem.Spec PyProof.Rows L2
def fmtD:F1:=fun x S=>match x with
 | .str y=>if y.length≤sizeLine then .ok (.str y) S else .bad
 | .int i=>if i.natAbs.log2<1920 then .ok (.str (toString i)) S else .bad
 | _=> .bad
def jnGo:List ED→Str→ED
 | [],acc=>fun _ S=> .ok (.str acc) S
 |m::ms,acc=>fun env S=>(m env S).bind fun x S1=>match x with
  | .str y=>if(acc++y).length≤sizeLine then jnGo ms (acc++y) env S1 else .bad
  | _=> .bad
def eJn (ms:List ED):ED:=jnGo ms Str.empty
section
variable {G:GC} {X:Cx} {Wx:WX} {pos:Pos}
theorem q_fmt {e:Expr} {m:ED} (he:PE X e (tE G m Wx)):PE X (.FormattedValue e (-1) none pos) (tE G (e1 fmtD m) Wx):=
 peI (pe_fmt he) fun σ H Q q=>by
  obtain⟨w,env,rfl,sr,er,p⟩:=q
  refine⟨w,env,rfl,sr,er,(Post.bind p).mono (fun x H1 m=> ?_) fun _ _ _ h=>h⟩
  obtain⟨w1,d1,rfl,x1,s1,rp1,p1⟩:=m
  unfold fmtD at p1
  split at p1
  ·split at p1
   ·rename_i hz
    simp only[Rep] at rp1
    exact .inl ⟨_,rp1,hz,Post.ret (Ra:=Rep G) s1 (by simp[Rep]) p1⟩
   ·exact p1.elim
  ·split at p1
   ·rename_i hz
    simp only[Rep] at rp1
    exact .inr ⟨_,rp1,hz,Post.ret (Ra:=Rep G) s1 (by simp[Rep]) p1⟩
   ·exact p1.elim
  ·exact p1.elim
inductive QJ (G:GC) (X:Cx) (Wx:WX):List Expr→List ED→Prop where
 |nil:QJ G X Wx [] []
 |cons {e:Expr} {m:ED} {es:List Expr} {ms:List ED} (h:PE X e (tE G m Wx)) (r:QJ G X Wx es ms):QJ G X Wx (e::es) (m::ms)
theorem QJ.pj {es:List Expr} {ms:List ED} (h:QJ G X Wx es ms):PJ X es (ms.map fun m=>tE G m Wx):=by
 induction h with
 |nil=>exact .nil
 |cons h _ ih=>exact .cons h ih
theorem jn_go:∀(ms:List ED) (acc:Str) (σ :L2.St) (w:Wd) (env:EnvD) (Q:VK),SRep G w→ERep G w env σ →Post G w (jnGo ms acc env w.S) (Rep G) Q (fun C dx H'=>Wx C dx σ H')→
 tJs (ms.map fun m=>tE G m Wx) acc σ w.H (fun out H1=>Q (.str out) H1)
 | [],acc,σ,w,env,Q,sr,er,p=>Post.ret (Ra:=Rep G) sr (by simp[Rep]) p
 |m::ms,acc,σ,w,env,Q,sr,er,p=>by
  show(tE G m Wx) σ w.H _
  refine⟨w,env,rfl,sr,er,(Post.bind p).mono (fun x H1 m=> ?_) fun _ _ _ h=>h⟩
  obtain⟨w1,d1,rfl,x1,s1,rp1,p1⟩:=m
  split at p1
  ·rename_i y
   split at p1
   ·rename_i hz
    simp only[Rep] at rp1
    exact⟨y,rp1,hz,jn_go ms (acc++y) σ w1 env Q s1 (ERep.mono x1 er) p1⟩
   ·exact p1.elim
  ·exact p1.elim
theorem q_joined {v1 v2:Expr} {rest:List Expr} {ms:List ED} (h:QJ G X Wx (v1::v2::rest) ms):PE X (.JoinedStr (v1::v2::rest) pos) (tE G (eJn ms) Wx):=
 peI (pe_joined h.pj) fun σ H Q q=>by
  obtain⟨w,env,rfl,sr,er,p⟩:=q
  exact jn_go ms Str.empty σ w env Q sr er p
end
end L3
namespace L3
open PySem L2
def slS (x:D) (lo hi:Option Int) (S:Store):R D:=match x with
 | .scr ns=> .ok (.lst (cutL (ns.map .int) lo hi)) S
 | _=> .bad
def eSlS (a:ED) (l h:PD):ED:=fun env S=>(a env S).bind fun x S1=>(l env S1).bind fun lo S2=>(h env S2).bind fun hi S3=>slS x lo hi S3
section
variable {G:GC} {X:Cx} {Wx:WX} {pos p2:Pos} {w:Wd}
theorem q_sliceS {e:Expr} {lo hi:Option Expr} {m:ED} {ml mh:PD} (hK:X.K=G.K) (he:PE X e (tE G m Wx)) (hl:PO X lo (tO G ml Wx)) (hh:PO X hi (tO G mh Wx)):PE X (.Subscript e (.Slice lo hi none p2) pos) (tE G (eSlS m ml mh) Wx):=
 peI (pe_slice sl_list he hl hh) fun σ H Q q=>by
  obtain⟨w,env,rfl,sr,er,p⟩:=q
  refine⟨w,env,rfl,sr,er,(Post.bind (Ra:=Rep G) p).mono (fun x H1 m=> ?_) fun _ _ _ h=>h⟩
  obtain⟨w1,d1,rfl,x1,s1,rp1,p1⟩:=m
  refine⟨w1,env,rfl,s1,er.mono x1,(Post.bind (Ra:=fun _ (a b:Option Int)=>a=b) p1).mono (fun lo H2 m=> ?_) fun _ _ _ h=>h⟩
  obtain⟨w2,d2,rfl,x2,s2,rfl,p2⟩:=m
  refine⟨w2,env,rfl,s2,(er.mono x1).mono x2,(Post.bind (Ra:=fun _ (a b:Option Int)=>a=b) p2).mono (fun hi H3 m=> ?_) fun _ _ _ h=>h⟩
  obtain⟨w3,d3,rfl,x3,s3,rfl,p3⟩:=m
  have r1:=Rep.mono (WX'.trans x2 x3) _ _ rp1
  unfold slS at p3
  split at p3
  ·rename_i ns
   simp only[Rep] at r1
   obtain⟨a,rfl,h1⟩:=r1
   exact⟨a,_,rfl,by rw[hK];exact h1.imp (fun z=>z.1) id,fun p' hp'=>new_lst (S:=w3.S) s3 (RepL.cut (RepL_ints.mpr rfl) d2 d3) p3 p' hp'⟩
  ·exact p3.elim
end
def listO:FN:=fun xs S=>match xs with
 | [.tup l] => .ok (.obj S.length) (S++ [.lst l])
 | [x] =>match asL x S with
   |some l=> .ok (.obj S.length) (S++ [.lst l])
   |none=> .bad
 | _=> .bad
theorem c_listO:CalmN listO:=fun xs S=>by unfold listO;repeat' split
                                          all_goals trivial
section
variable {G:GC} {X:Cx}
theorem o_listO (hK:X.K=G.K):CallR X (.type "list") (rN G listO):=by
 refine caI2 call_list_of fun xs H Q q=> ?_
 obtain⟨w,ds,rfl,sr,rl,p⟩:=q
 unfold listO at p
 split at p
 ·simp only[RepL,Rep] at rl
  obtain⟨v,r',rfl,⟨a,vs,rfl,h1,r2⟩,rfl⟩:=rl
  exact⟨a,vs,rfl, .inr (by rw[hK];exact SqT_of h1),fun p' hp'=>new_lobj sr r2 p p' hp'⟩
 ·split at p
  ·rename_i l hl
   simp only[RepL] at rl
   obtain⟨v,r',rfl,r1,rfl⟩:=rl
   obtain⟨a,vs,rfl,h1,r2⟩:=asL_rep sr r1 hl
   exact⟨a,vs,rfl, .inl (SqL.of h1),fun p' hp'=>new_lobj sr r2 p p' hp'⟩
  ·exact p.elim
 ·exact p.elim
end
end L3
namespace L3
open PySem PySem.Spec PyProof.Rows L2
section
variable {K:PySem.W.Frag} {b b1 b2 b3 b4:Bool} {t c c1 c2 c3 c4:Value}
theorem kit_four (h1:PySem.W.kitOne K t c1=some b1) (h2:PySem.W.kitOne K t c2=some b2) (h3:PySem.W.kitOne K t c3=some b3) (h4:PySem.W.kitOne K t c4=some b4):PySem.W.kitAny K t [c1,c2,c3,c4] =some (b1 || (b2 || (b3 || b4))):=by
 unfold PySem.W.kitAny PySem.W.kitAny PySem.W.kitAny PySem.W.kitAny PySem.W.kitAny
 rw[h1,h2,h3,h4]
 cases b1<;>cases b2<;>cases b3<;>cases b4<;>rfl
end
section
variable {X:Cx}
theorem cls_four {x1 x2 x3 x4:Str} {c1 c2 c3 c4:Value} {p1 p2 p3 p4 p:Pos} {kk:Nat} (n1:Names X x1 c1) (n2:Names X x2 c2) (n3:Names X x3 c3) (n4:Names X x4 c4):ClsE X (.Tuple [.Name x1 p1, .Name x2 p2, .Name x3 p3, .Name x4 p4] kk p) (fun cls=>PySem.W.kitAny X.K cls [c1,c2,c3,c4]):=by
 intro a C ox od b pins σ H s Q E I J T ans k
 refine wpAny_Tuple_spliced ?_
 refine Calls.spliced_cons (at_name n1 I (Calls.spliced_cons (at_name n2 I (Calls.spliced_cons (at_name n3 I (Calls.spliced_cons (at_name n4 I (Calls.spliced_nil ⟨by show 4≤sizeLine;decide,?_⟩))))))))
 have kp:∀c o,s.heap.get? c=some o→(s.heap.push ({ cls:= .type "tuple",data:= .seq [c1,c2,c3,c4].toArray } :Obj)).get? c=some o:=fun c o e=>Heap.get?_push_of_some _ e
 exact PySem.W.kia_tup (s:= { s with heap:=s.heap.push ({ cls:= .type "tuple",data:= .seq [c1,c2,c3,c4].toArray } :Obj) }) T.kit (I.kIn.keeps kp) (inst_keeps J kp) (Heap.get?_push_size _ rfl) ans (fun z=>nomatch z) fun tk=>k _ tk kp
end
end L3
namespace L3
open PySem PySem.Spec PyProof.Rows L2
open PySem.W (SortsAt AllAlike Sortable dataKind dataKind_inv EachIs alike keyToks dataLt)
def apart (d d':PyData):Prop:=∃a b r r',d= .tuple (.str a::r)∧d'= .tuple (.str b::r')∧a≠b
end L3
namespace L3
open PySem
theorem nrfl {α :Sort u} {a b: α} (h:a=b):a=b:=h
inductive R.sat {α :Type} :R α →(α →Store→Prop)→Prop where
 |mk {a: α} {S:Store} {Q: α →Store→Prop} (h:Q a S):R.sat (.ok a S) Q
section
variable {α β :Type} {S:Store} {env:EnvD} {d:D}
@[simp] theorem sat_ok {a: α} {Q: α →Store→Prop} :(R.ok a S).sat Q=Q a S:=propext ⟨fun h=>by cases h;assumption, .mk⟩
@[simp] theorem sat_bad {Q: α →Store→Prop} :(R.bad:R α).sat Q=False:=propext ⟨fun h=>(by cases h),False.elim⟩
@[simp] theorem sat_exc {e:Ex} {Q: α →Store→Prop} :(R.exc e S:R α).sat Q=False:=propext ⟨fun h=>(by cases h),False.elim⟩
theorem sat_bind {r:R α} {f: α →Store→R β} {Q: β →Store→Prop} :(r.bind f).sat Q=r.sat fun a S=>(f a S).sat Q:=by cases r<;>simp[R.bind]
theorem sat_mono {r:R α} {Q Q': α →Store→Prop} (h:r.sat Q) (m:∀a S,Q a S→Q' a S):r.sat Q':=by cases h with|mk h=>exact .mk (m _ _ h)
theorem sat_ex {r:R α} {Q: α →Store→Prop} :r.sat Q↔∃a S,r= .ok a S∧Q a S:=
 ⟨fun h=>by cases h with|mk h=>exact⟨_,_,rfl,h⟩,fun⟨_,_,e,h⟩=>by rw[e];exact .mk h⟩
theorem sat_if_bad {c:Prop} [Decidable c] {a:R α} {Q: α →Store→Prop} :(if c then a else .bad).sat Q=(c∧a.sat Q):=by by_cases h:c<;>simp[h]
def blD (x:D) (S:Store):R Bool:=match x with
 | .bl k=> .ok k S
 | _=> .bad
@[simp] theorem blD_bl {k:Bool} :blD (.bl k) S= .ok k S:=nrfl rfl
theorem of_sat {r:R α} {x: α} (h:r.sat fun d S'=>d=x∧S'=S):r= .ok x S:=by
 obtain⟨a,S',e,rfl,rfl⟩:=sat_ex.mp h
 exact e
theorem to_sat {r:R α} {x: α} {Q: α →Store→Prop} (h:r= .ok x S) (q:Q x S):r.sat Q:=by rw[h];exact .mk q
variable {Q:D→Store→Prop} {QB:Bool→Store→Prop} {QL:List D→Store→Prop}
@[simp] theorem sat_eVar {i:Nat} :(eVar i env S).sat Q=match env[i]? with
   |some (some d)=>Q d S
   | _=>False:=by unfold eVar;cases env[i]? with
  |none=>simp
  |some o=>cases o<;>simp
@[simp] theorem sat_eK:(eK d env S).sat Q=Q d S:=sat_ok
@[simp] theorem sat_e1 {f:L3.F1} {a:ED} :(e1 f a env S).sat Q=(a env S).sat fun x S1=>(f x S1).sat Q:=sat_bind
@[simp] theorem sat_e2 {f:L3.F2} {a b:ED} :(e2 f a b env S).sat Q=(a env S).sat fun x S1=>(b env S1).sat fun y S2=>(f x y S2).sat Q:=by unfold e2;rw[sat_bind];simp only[sat_bind]
@[simp] theorem sat_aNil:(aNil env S).sat QL=QL [] S:=sat_ok
@[simp] theorem sat_aCons {a:ED} {r:AD} :(aCons a r env S).sat QL=(a env S).sat fun x S1=>(r env S1).sat fun xs S2=>QL (x::xs) S2:=by unfold aCons;rw[sat_bind];simp only[sat_bind,sat_ok]
@[simp] theorem sat_eN {f:FN} {a:AD} :(eN f a env S).sat Q=(a env S).sat fun xs S1=>(f xs S1).sat Q:=sat_bind
@[simp] theorem sat_eIf {c:TD} {a b:ED} :(eIf c a b env S).sat Q=(c env S).sat fun k S1=>if k=true then(a env S1).sat Q else(b env S1).sat Q:=by
  unfold eIf;rw[sat_bind];congr;funext k S1;cases k<;>simp
@[simp] theorem sat_tOfE {a:ED} :(tOfE a env S).sat QB=(a env S).sat fun x S1=>(blD x S1).sat QB:=by
  unfold tOfE;rw[sat_bind];congr
@[simp] theorem sat_tTruth {a:ED} :(tTruth a env S).sat QB=(a env S).sat fun x S1=>(truthD x S1).sat QB:=sat_bind
@[simp] theorem truthD_bl {k:Bool} :truthD (.bl k) S= .ok k S:=nrfl rfl
@[simp] theorem truthD_non:truthD .non S= .ok false S:=nrfl rfl
@[simp] theorem truthD_int {i:Int} :truthD (.int i) S= .ok (i != 0) S:=nrfl rfl
@[simp] theorem truthD_tup {l:List D} :truthD (.tup l) S= .ok (!l.isEmpty) S:=nrfl rfl
@[simp] theorem truthD_lst {l:List D} :truthD (.lst l) S= .ok (!l.isEmpty) S:=nrfl rfl
@[simp] theorem sat_tNot {a:TD} :(tNot a env S).sat QB=(a env S).sat fun k S1=>QB (!k) S1:=by unfold tNot;rw[sat_bind];simp only[sat_ok]
@[simp] theorem sat_tAnd {a b:TD} :(tAnd a b env S).sat QB=(a env S).sat fun k S1=>if k=true then(b env S1).sat QB else QB false S1:=by
  unfold tAnd;rw[sat_bind];congr;funext k S1;cases k<;>simp
@[simp] theorem sat_tOr {a b:TD} :(tOr a b env S).sat QB=(a env S).sat fun k S1=>if k=true then QB true S1 else(b env S1).sat QB:=by
  unfold tOr;rw[sat_bind];congr;funext k S1;cases k<;>simp
@[simp] theorem sat_eNot {a:ED} :(eNot a env S).sat Q=(a env S).sat fun x S1=>(blD x S1).sat fun k S2=>Q (.bl (!k)) S2:=by
  unfold eNot;rw[sat_bind,sat_tOfE];simp only[sat_ok]
@[simp] theorem sat_eAnd {a b:ED} :(eAnd a b env S).sat Q=(a env S).sat fun x S1=>(blD x S1).sat fun k S2=>if k=true then(b env S2).sat Q else Q (.bl false) S2:=by
  unfold eAnd;rw[sat_bind,sat_tOfE];congr;funext x S1;congr;funext k S2;cases k<;>simp
@[simp] theorem sat_eOr {a b:ED} :(eOr a b env S).sat Q=(a env S).sat fun x S1=>(blD x S1).sat fun k S2=>if k=true then Q (.bl true) S2 else(b env S2).sat Q:=by
  unfold eOr;rw[sat_bind,sat_tOfE];congr;funext x S1;congr;funext k S2;cases k<;>simp
@[simp] theorem sat_eChain {f g:L3.F2} {a b c:ED} :(eChain f g a b c env S).sat Q=(a env S).sat fun x S1=>(b env S1).sat fun y S2=>(f x y S2).sat fun r S3=>(blD r S3).sat fun k S4=>if k=true then(c env S4).sat fun z S5=>(g y z S5).sat Q else Q (.bl false) S4:=by
  unfold eChain;rw[sat_bind];simp only[sat_bind];congr;funext x S1;congr;funext y S2;congr;funext r S3
  cases r with
  |bl k=>cases k<;>simp[sat_bind]
  | _=>simp[blD]
@[simp] theorem sat_eBM {T:String} {f:D→FN} {o:ED} {a:AD} :(eBM T f o a env S).sat Q=(o env S).sat fun x S1=>(mtD x S1=some T∧(a env S1).sat fun xs S2=>(f x xs S2).sat Q):=by
  unfold eBM;rw[sat_bind];congr;funext x S1;rw[sat_if_bad,sat_bind]
@[simp] theorem sat_eKw {f:List D→FN} {a b:AD} :(eKw f a b env S).sat Q=(a env S).sat fun xs S1=>(b env S1).sat fun zs S2=>(f xs zs S2).sat Q:=by unfold eKw;rw[sat_bind];simp only[sat_bind]
@[simp] theorem sat_eFnL {i:Nat} {x:Str} {F:FN} {a:AD} :(eFnL i x F a env S).sat Q=match env[i]? with
   |some (some (.glb y))=>y=x∧(a env S).sat fun xs S1=>(F xs S1).sat Q
   | _=>False:=by
  unfold eFnL
  cases env[i]? with
  |none=>simp
  |some o=>
   cases o with
   |none=>simp
   |some d=>
    cases d with
    |glb y=>simp only [];rw[sat_if_bad,sat_bind]
    | _=>simp
@[simp] theorem callK_eq {F:FN} {dds xs:List D} :callK F dds xs S=F (xs++dds) S:=nrfl rfl
@[simp] theorem sat_iSeq {a:ED} :(iSeq a env S).sat QL=(a env S).sat fun x S1=>(itemsD x S1).sat QL:=sat_bind
@[simp] theorem sat_iArgs {f:List D→Store→R (List D)} {a:AD} :(iArgs f a env S).sat QL=(a env S).sat fun xs S1=>(f xs S1).sat QL:=sat_bind
@[simp] theorem itemsD_lst {l:List D} :itemsD (.lst l) S= .ok l S:=nrfl rfl
@[simp] theorem itemsD_tup {l:List D} :itemsD (.tup l) S= .ok l S:=nrfl rfl
@[simp] theorem sat_range1 {j:Int} :(range1 [.int j] S).sat QL=(okRng j=true∧QL (rangeD 0 j) S):=by unfold range1;simp only [];rw[sat_if_bad,sat_ok]
@[simp] theorem sat_range2 {i j:Int} :(range2 [.int i, .int j] S).sat QL=((okRng i&&okRng j)=true∧QL (rangeD i j) S):=by unfold range2;simp only [];rw[sat_if_bad,sat_ok]
@[simp] theorem sat_mkTup {xs:List D} :(mkTup xs S).sat Q=(xs.length≤sizeLine∧Q (.tup xs) S):=by unfold mkTup;rw[sat_if_bad,sat_ok]
@[simp] theorem sat_mkLst {xs:List D} :(mkLst xs S).sat Q=(xs.length≤sizeLine∧Q (.lst xs) S):=by unfold mkLst;rw[sat_if_bad,sat_ok]
@[simp] theorem sat_mkObj {xs:List D} :(mkObj xs S).sat Q=(xs.length≤sizeLine∧Q (.obj S.length) (S++ [.lst xs])):=by unfold mkObj;rw[sat_if_bad,sat_ok]
def lcSat (g:GD) (tt:TD) (te:ED) (env:EnvD):List D→Store→(List D→Store→Prop)→Prop
 | [],S,Q=>Q [] S
 |x::xs,S,Q=>match g x env S with
  | .nx env1 S1=>(tt env1 S1).sat fun k S2=>if k=true then(te env1 S2).sat fun y S3=>lcSat g tt te env xs S3 fun ys S4=>Q (y::ys) S4 else lcSat g tt te env xs S2 Q
  | _=>False
theorem sat_nox {r:R α} {Q: α →Store→Prop} :r.nox.sat Q=r.sat Q:=by cases r<;>simp[R.nox]
theorem sat_lcL {g:GD} {tt:TD} {te:ED} {env:EnvD} :∀ {xs:List D} {S:Store} {Q:List D→Store→Prop},(lcL g tt te env xs S).sat Q=lcSat g tt te env xs S Q
 | [],_,_=>sat_ok
 |x::xs,S,Q=>by
  unfold lcL lcSat
  cases g x env S with
  |nx env1 S1=>
   simp only
   rw[sat_bind,sat_nox]
   congr;funext k S2
   cases k with
   |true=>simp only[if_true];rw[sat_bind,sat_nox];congr;funext y S3;rw[sat_bind,sat_lcL];simp only[sat_ok]
   |false=>simp only[Bool.false_eq_true,if_false];exact sat_lcL
  | _=>simp
theorem sat_eLc {mi:ID} {vs:List Nat} {g:GD} {tt:TD} {te:ED} :(eLc mi vs g tt te env S).sat Q=(mi env S).sat fun xs S1=>(xs.length≤sizeLine∧lcSat g tt te (wipeD env vs) xs S1 fun ys S2=>Q (.lst ys) S2):=by
 unfold eLc;rw[sat_bind];congr;funext xs S1;rw[sat_if_bad,sat_bind,sat_lcL];simp only[sat_ok]
theorem lc_map {i:Nat} {te:ED} {env:EnvD} (f:D→D) {xs:List D} {S:Store} {Q:List D→Store→Prop}
 (ht:∀x ∈ xs,(te (env.set i (some x)) S).sat fun y S'=>y=f x∧S'=S) (hQ:Q (xs.map f) S):lcSat (gName i) tYesD te env xs S Q:=by
 induction xs generalizing Q with
 |nil=>exact hQ
 |cons x xs ih=>
  unfold lcSat
  simp only[gName,tYesD,sat_ok,if_true]
  refine sat_mono (ht x (List.mem_cons_self ..)) fun y S' h=> ?_
  obtain⟨rfl,rfl⟩:=h
  exact ih (fun x hx=>ht x (List.mem_cons_of_mem _ hx)) hQ
end
inductive SR.sat:SR→(EnvD→Store→Prop)→(D→Store→Prop)→(EnvD→Store→Prop)→(EnvD→Store→Prop)→Prop where
 |nx {e S} {N:EnvD→Store→Prop} {T:D→Store→Prop} {B C:EnvD→Store→Prop} (h:N e S):SR.sat (.nx e S) N T B C
 |ret {d S} {N:EnvD→Store→Prop} {T:D→Store→Prop} {B C:EnvD→Store→Prop} (h:T d S):SR.sat (.ret d S) N T B C
 |brk {e S} {N:EnvD→Store→Prop} {T:D→Store→Prop} {B C:EnvD→Store→Prop} (h:B e S):SR.sat (.brk e S) N T B C
 |ct {e S} {N:EnvD→Store→Prop} {T:D→Store→Prop} {B C:EnvD→Store→Prop} (h:C e S):SR.sat (.ct e S) N T B C
section
variable {S:Store} {env:EnvD} {d:D} {N B C:EnvD→Store→Prop} {T:D→Store→Prop} {Q:D→Store→Prop}
@[simp] theorem ssat_nx:(SR.nx env S).sat N T B C=N env S:=propext ⟨fun h=>by cases h;assumption, .nx⟩
@[simp] theorem ssat_ret:(SR.ret d S).sat N T B C=T d S:=propext ⟨fun h=>by cases h;assumption, .ret⟩
@[simp] theorem ssat_brk:(SR.brk env S).sat N T B C=B env S:=propext ⟨fun h=>by cases h;assumption, .brk⟩
@[simp] theorem ssat_ct:(SR.ct env S).sat N T B C=C env S:=propext ⟨fun h=>by cases h;assumption, .ct⟩
@[simp] theorem ssat_bad:SR.bad.sat N T B C=False:=propext ⟨fun h=>(by cases h),False.elim⟩
@[simp] theorem ssat_exc {e:Ex} :(SR.exc e env S).sat N T B C=False:=propext ⟨fun h=>(by cases h),False.elim⟩
theorem ssat_toS {α :Type} {r:R α} {k: α →Store→SR} :(r.toS env k).sat N T B C=r.sat fun a S=>(k a S).sat N T B C:=by cases r<;>simp[R.toS]
theorem ssat_mono {r:SR} {N' B' C':EnvD→Store→Prop} {T':D→Store→Prop} (h:r.sat N T B C) (hN:∀e S,N e S→N' e S) (hT:∀d S,T d S→T' d S) (hB:∀e S,B e S→B' e S) (hC:∀e S,C e S→C' e S):r.sat N' T' B' C':=by
 cases h with
 |nx h=>exact .nx (hN _ _ h)
 |ret h=>exact .ret (hT _ _ h)
 |brk h=>exact .brk (hB _ _ h)
 |ct h=>exact .ct (hC _ _ h)
@[simp] theorem ssat_skip:(sSkip env S).sat N T B C=N env S:=ssat_nx
@[simp] theorem ssat_seq {a b:SD} :(sSeq a b env S).sat N T B C=(a env S).sat (fun e S=>(b e S).sat N T B C) T B C:=by
  unfold sSeq;cases a env S<;>simp
@[simp] theorem ssat_if {c:TD} {a b:SD} :(sIf c a b env S).sat N T B C=(c env S).sat fun k S1=>if k=true then(a env S1).sat N T B C else(b env S1).sat N T B C:=by
  unfold sIf;rw[ssat_toS];congr;funext k S1;cases k<;>simp
@[simp] theorem ssat_sRet {a:ED} :(sRet a env S).sat N T B C=(a env S).sat T:=by unfold sRet;rw[ssat_toS];simp only[ssat_ret]
@[simp] theorem ssat_sExpr {a:ED} :(sExpr a env S).sat N T B C=(a env S).sat fun _ S1=>N env S1:=by unfold sExpr;rw[ssat_toS];simp only[ssat_nx]
@[simp] theorem ssat_sBrk:(sBrk env S).sat N T B C=B env S:=ssat_brk
@[simp] theorem ssat_sCt:(sCt env S).sat N T B C=C env S:=ssat_ct
@[simp] theorem ssat_asg {a:ED} {g:GD} :(sAsg a g env S).sat N T B C=(a env S).sat fun d S1=>(g d env S1).sat N T B C:=by unfold sAsg;rw[ssat_toS]
@[simp] theorem gName_eq {i:Nat} :gName i d env S= .nx (env.set i (some d)) S:=nrfl rfl
@[simp] theorem gTup_wtp {is:List Nat} {l:List Int} :gTup is (.wtp l) env S=gNames is (l.map D.int) env S:=nrfl rfl
@[simp] theorem gTup_tup {is:List Nat} {l:List D} :gTup is (.tup l) env S=gNames is l env S:=nrfl rfl
@[simp] theorem gNames_nil:gNames [] [] env S= .nx env S:=nrfl rfl
@[simp] theorem gNames_cons {i:Nat} {is:List Nat} {ds:List D} :gNames (i::is) (d::ds) env S=gNames is ds (env.set i (some d)) S:=nrfl rfl
@[simp] theorem ssat_par {is:List Nat} {a:AD} :(sPar is a env S).sat N T B C=(a env S).sat fun xs S1=>(gNames is xs env S1).sat N T B C:=by unfold sPar;rw[ssat_toS]
theorem ssat_for {mi:ID} {g:GD} {body:SD} :(sFor mi g body env S).sat N T B C=(mi env S).sat fun xs S1=>(forL g body xs env S1).sat N T B C:=by unfold sFor;rw[ssat_toS]
@[simp] theorem forL_nil {g:GD} {body:SD} :(forL g body [] env S).sat N T B C=N env S:=ssat_nx
theorem forL_cons {g:GD} {body:SD} {x:D} {xs:List D} :(forL g body (x::xs) env S).sat N T B C=(g x env S).sat (fun e S=>(body e S).sat (fun e S=>(forL g body xs e S).sat N T B C) T N (fun e S=>(forL g body xs e S).sat N T B C)) (fun _ _=>False) (fun _ _=>False) fun _ _=>False:=by
 show SR.sat (match g x env S with
  | .nx env1 S1=>match body env1 S1 with
    | .nx env2 S2=>forL g body xs env2 S2
    | .ct env2 S2=>forL g body xs env2 S2
    | .brk env2 S2=> .nx env2 S2
    | .ret d S2=> .ret d S2
    | .exc e env2 S2=> .exc e env2 S2
    | .bad=> .bad
  | _=> .bad) N T B C=_
 cases g x env S with
 |nx env1 S1=>simp only[ssat_nx];cases body env1 S1<;>simp
 | _=>simp
theorem for_rule {g:GD} {body:SD} (I:Nat→EnvD→Store→Prop) {xs:List D} (h0:I 0 env S)
 (hs:∀j (hj:j<xs.length) e S,I j e S→(g xs[j] e S).sat (fun e S=>(body e S).sat (I (j+1)) T N (I (j+1))) (fun _ _=>False) (fun _ _=>False) fun _ _=>False)
 (hN:∀e S,I xs.length e S→N e S):(forL g body xs env S).sat N T B C:=by
 induction xs generalizing I env S with
 |nil=>exact .nx (hN _ _ h0)
 |cons x xs ih=>
  rw[forL_cons]
  refine ssat_mono (hs 0 (by simp) env S h0) (fun e1 S1 h=> ?_) (fun _ _ h=>h) (fun _ _ h=>h) (fun _ _ h=>h)
  have go:∀e S,I 1 e S→(forL g body xs e S).sat N T B C:=fun e S h=>
   ih (fun j=>I (j+1)) h (fun j hj e S h=>by
    have:=hs (j+1) (by simp;omega) e S h
    simpa using this) (fun e S h=>hN e S (by simpa using h))
  exact ssat_mono h go (fun _ _ h=>h) (fun _ _ h=>h) go
theorem while_rule {c:TD} {body:SD} (I:Nat→EnvD→Store→Prop) {m k:Nat} (hk:m<k) (h0:I m env S)
 (hs:∀m e S,I m e S→(c e S).sat fun b S1=>if b=true then(body e S1).sat (fun e S=>∃m'<m,I m' e S) T N (fun e S=>∃m'<m,I m' e S) else N e S1):(sWhile c body k env S).sat N T B C:=by
 induction m using Nat.strongRecOn generalizing k env S with
 | _ m ih=>
   cases k with
   |zero=>omega
   |succ k=>
    unfold sWhile
    rw[ssat_toS]
    refine sat_mono (hs m env S h0) fun b S1 h=> ?_
    cases b with
    |false=>simpa using h
    |true=>
     simp only[if_true] at h ⊢
     have go:∀e S,(∃ m'<m,I m' e S)→(sWhile c body k e S).sat N T B C:=fun e S ⟨m',hm,h⟩=>ih m' hm (by omega) h
     revert h
     cases body env S1 with
     |nx e2 S2=>intro h;rw[ssat_nx] at h;exact go e2 S2 h
     |ct e2 S2=>intro h;rw[ssat_ct] at h;exact go e2 S2 h
     |brk e2 S2=>intro h;rw[ssat_brk] at h;exact .nx h
     |ret d S2=>intro h;rw[ssat_ret] at h;exact .ret h
     | _=>intro h;cases h
theorem sat_run {np n:Nat} {body:SD} {xs:List D} :(run np n body xs S).sat Q=(xs.length=np∧(body (xs.map some++List.replicate (n-xs.length) none) S).sat (fun _ S=>Q .non S) Q (fun _ _=>False) fun _ _=>False):=by
 unfold run;rw[sat_if_bad];congr
 cases body (xs.map some++List.replicate (n-xs.length) none) S<;>simp[SR.fin]
end
section
variable {S:Store} {Q:D→Store→Prop}
@[simp] theorem add_int {i j:Int} :addD (.int i) (.int j) S= .ok (.int (i+j)) S:=nrfl rfl
@[simp] theorem sub_int {i j:Int} :subD (.int i) (.int j) S= .ok (.int (i-j)) S:=nrfl rfl
@[simp] theorem neg_int {i:Int} :negD (.int i) S= .ok (.int (-i)) S:=nrfl rfl
@[simp] theorem lt_int {i j:Int} :ltD (.int i) (.int j) S= .ok (.bl (decide (i<j))) S:=nrfl rfl
@[simp] theorem le_int {i j:Int} :leD (.int i) (.int j) S= .ok (.bl (decide (i≤j))) S:=nrfl rfl
@[simp] theorem gt_int {i j:Int} :gtD (.int i) (.int j) S= .ok (.bl (decide (j<i))) S:=nrfl rfl
@[simp] theorem ge_int {i j:Int} :geD (.int i) (.int j) S= .ok (.bl (decide (j≤i))) S:=nrfl rfl
theorem mul_int {i j:Int} :(mulD (.int i) (.int j) S).sat Q=(mulOk i j=true∧Q (.int (i*j)) S):=by unfold mulD;simp only [];rw[sat_if_bad,sat_ok]
theorem fdiv_int {i j:Int} :(fdivD (.int i) (.int j) S).sat Q=((0<j∧j.natAbs.log2<9000)∧Q (.int (i / j)) S):=by unfold fdivD;simp only [];rw[sat_if_bad,sat_ok]
theorem mod_int {i j:Int} :(modD (.int i) (.int j) S).sat Q=(0<j∧Q (.int (i % j)) S):=by unfold modD;simp only [];rw[sat_if_bad,sat_ok]
theorem ibeq (i j:Int):(i==j)=decide (i=j):=by rw[Bool.eq_iff_iff];simp
theorem eq_int {i j:Int} :eqD (.int i) (.int j) S= .ok (.bl (decide (i=j))) S:=by
 show(if min 0 0≤64 then R.ok (D.bl (i==j)) S else .bad)=_
 simp[ibeq]
theorem ne_int {i j:Int} :neD (.int i) (.int j) S= .ok (.bl (decide (i≠j))) S:=by
 show(if min 0 0≤64 then R.ok (D.bl (!(i==j))) S else .bad)=_
 simp[ibeq]
@[simp] theorem len_tup {l:List D} :lenD [.tup l] S= .ok (.int l.length) S:=nrfl rfl
@[simp] theorem len_lst {l:List D} :lenD [.lst l] S= .ok (.int l.length) S:=nrfl rfl
@[simp] theorem len_scr {l:List Int} :lenD [.scr l] S= .ok (.int l.length) S:=nrfl rfl
theorem len_obj {n:Nat} {l:List D} (h:S[n]? =some (.lst l)):lenD [.obj n] S= .ok (.int l.length) S:=by simp[lenD,asL,h]
@[simp] theorem tuple_lst {l:List D} :tupleD [.lst l] S= .ok (.tup l) S:=nrfl rfl
@[simp] theorem tuple_tup {l:List D} :tupleD [.tup l] S= .ok (.tup l) S:=nrfl rfl
theorem mtD_obj {n:Nat} {l:List D} (h:S[n]? =some (.lst l)):mtD (.obj n) S=some "list" :=by simp[mtD,h]
@[simp] theorem rangeD_len {lo hi:Int} :(rangeD lo hi).length=(hi-lo).toNat:=by simp[rangeD]
@[simp] theorem rangeD_get {lo hi:Int} {j:Nat} (h:j<(rangeD lo hi).length):(rangeD lo hi)[j] = .int (lo+j):=by simp[rangeD]
theorem append_obj {n:Nat} {l:List D} {y:D} (h:S[n]? =some (.lst l)):(appendD (.obj n) [y] S).sat Q=(l.length<sizeLine∧Q .non (S.set n (.lst (l++ [y])))):=by
 unfold appendD;simp only[lstAt,h];rw[sat_if_bad,sat_ok]
theorem tuple_obj {n:Nat} {l:List D} (h:S[n]? =some (.lst l)):tupleD [.obj n] S= .ok (.tup l) S:=by simp[tupleD,asL,h]
end
end L3
namespace L3
open PySem PySem.Spec PyProof.Rows L2
section
variable {G:GC} {X:Cx} {Wx:WX} {w:Wd}
def eBackL (a:ED):ED:=fun env S=>(a env S).bind fun x S1=>match asL x S1 with
 |some l=> .ok (.lst l.reverse) S1
 |none=> .bad
end
@[simp] theorem sat_eBackL {a:ED} {env:EnvD} {S:Store} {Q:D→Store→Prop} :(eBackL a env S).sat Q=(a env S).sat fun x S1=>∃l,asL x S1=some l∧Q (.lst l.reverse) S1:=by
  unfold eBackL;rw[sat_bind];congr;funext x S1
  cases asL x S1<;>simp
end L3
namespace L3
open PySem L2
def slO (x:D) (lo hi:Option Int) (S:Store):R D:=match asL x S with
 |some l=> .ok (.obj S.length) (S++ [.lst (cutL l lo hi)])
 |none=> .bad
def eSlO (a:ED) (l h:PD):ED:=fun env S=>(a env S).bind fun x S1=>(l env S1).bind fun lo S2=>(h env S2).bind fun hi S3=>slO x lo hi S3
section
variable {env:EnvD} {S:Store} {Q:D→Store→Prop}
@[simp] theorem sat_eSlO {a:ED} {l h:PD} :(eSlO a l h env S).sat Q=(a env S).sat fun x S1=>(l env S1).sat fun lo S2=>(h env S2).sat fun hi S3=>(slO x lo hi S3).sat Q:=by
  unfold eSlO;rw[sat_bind];congr;funext x S1;rw[sat_bind];congr;funext lo S2;rw[sat_bind]
end
end L3
namespace L3
open PySem PySem.Spec PyProof.Rows L2 LamX
def LamMade (H:Hp) (P:Addr) (q:Str) (ps:Array Value) (c':Addr) (H1:Hp):Prop:=
 (H1=H∧H c'=some (CodeO c' q)∧∃pos:Pos,codeAmong pos ps.toList=some (.ref c'))∨∃more:Array Value,H c'=none∧H1=upd (upd H P (.tbl (ps++more))) c' (CodeO c' q)∧TriplesOk (ps++more).toList∧
   ∀(pos:Pos) (cv:Value),codeAmong pos (ps++more).toList=some cv→codeAmong pos ps.toList=some cv∨cv= .ref c'
section
variable {X:Cx} {pins:List (Addr × Obj)} {σ :L2.St} {H:Hp} {s:Shared}
theorem lam_made {c P:Addr} {params:Arguments} {body:Expr} {scope:Scope} {pos:Pos} {E Q:Value→Shared→Prop} {ps:Array Value} (I:Inv X pins σ H s) (B:TabB X.base X.mg c P) (here:X.env.code= .ref c)
 (tab:H P=some (.tbl ps)) (three:TriplesOk ps.toList) (old:∀(pos:Pos) (cv:Value),codeAmong pos ps.toList=some cv→∃c,cv= .ref c∧H c=some (CodeO c (X.env.qual++ "<lambda>")))
 (noDef:defaultsOf params X.env=([],[])) (cells:∀y ∈ scope.names,y.2= .free→∃c,X.env.cells.lookup y.1=some c)
 (then_:∀(f c':Addr) (pm ctv:Value) (H1:Hp) (s':Shared),Inv X pins σ H1 s'→LamMade H P (X.env.qual++ "<lambda>") ps c' H1→
   s'.heap.get? f=some (PySem.W.kla_obj "<lambda>" (X.env.qual++ "<lambda>") params body scope (cloFrom X.env.cells scope.names []) pm c' ctv)→H1 f=none→f ∉ frs X.stack→Q (.ref f) s'):
 wpAny (model X.prog X.w) X.A (eval (.Lambda params body scope pos) X.env) Q E s:=by
 have tabH:s.heap.get? P=some { cls:= .none,data:= .fields ps } :=I.hok P _ tab
 have noFrame:∀f,s.heap.objs.size≤f→f ∉ frs X.stack:=fun f big z=>by
  rcases List.mem_cons.mp (I.stkSub f z) with rfl|z
  ·exact absurd I.lt (Nat.not_lt.mpr big)
  ·exact I.nofs big z
 have nsG:=I.mod.glob.keeps I.bk
 have codeH:=B.code.keeps I.bk
 have bltH:=B.bm.keeps I.bk
 apply PySem.W.kla_eval noDef
 rcases hc:codeAmong pos ps.toList with _|cv
 ·apply PySem.W.kla_makeFunction (mg:=X.mg) (c:=c) (P:=P) (ps:=ps) (closure_ok cells) I.ok.glob nsG here codeH tabH three hc B.gP bltH
  intro c' ctv h2 tk keep ge lt rec tab2
  obtain⟨c2,oc,vs,t,same,at2,fields,nm⟩:=rec
  obtain rfl:c'=c2:=by injection same
  have fresh:H c'=none:=I.hok.fresh ge
  have up:s.heap.objs.size≤h2.objs.size:=Nat.le_of_lt (Nat.lt_of_le_of_lt ge lt)
  have J:=inv_table (t':=tk) (more:= #[rawInt pos.line,rawInt pos.col, .ref c']) (q:=X.env.qual++ "<lambda>") (h':=h2.push (PySem.W.kla_obj "<lambda>" (X.env.qual++ "<lambda>") params body scope (cloFrom X.env.cells scope.names []) ((X.mg "__name__").getD .none) c' ctv))
   I tab (fun b o ne e=>Heap.get?_push_of_some _ (keep b o ne e)) (Heap.get?_push_of_some _ tab2) ge ⟨oc,vs,t,Heap.get?_push_of_some _ at2,fields,nm⟩
  have list:(ps++ #[rawInt pos.line,rawInt pos.col, .ref c']).toList=ps.toList++ [rawInt pos.line,rawInt pos.col, .ref c'] :=Array.toList_append
  refine then_ h2.objs.size c' _ ctv _ _ J (.inr ⟨#[rawInt pos.line,rawInt pos.col, .ref c'],fresh,rfl,by rw[list];exact PySem.TriplesOk_snoc _ _ _ _ three,fun p' cv q=> ?_⟩) (Heap.get?_push_size _ rfl) ?_ (noFrame _ up)
  ·rw[list] at q
   exact among_app _ three q
  ·rw[upd_ne (Nat.ne_of_gt lt),upd_ne (fun z=>absurd (Heap.lt_size tabH) (by rw[← z];exact Nat.not_lt.mpr up))]
   exact I.hok.fresh up
 ·obtain⟨c',rfl,hco⟩:=old pos cv hc
  apply PySem.W.kla_makeFunctionHit (mg:=X.mg) (c:=c) (P:=P) (ps:=ps) (closure_ok cells) I.ok.glob nsG here codeH tabH three hc bltH
  intro ctv h2 tk keep up
  have J:Inv X pins σ H { s with heap:=h2.push (PySem.W.kla_obj "<lambda>" (X.env.qual++ "<lambda>") params body scope (cloFrom X.env.cells scope.names []) ((X.mg "__name__").getD .none) c' ctv),toks:=tk } :=I.kept fun b o e=>Heap.get?_push_of_some _ (keep b o e)
  exact then_ h2.objs.size c' _ ctv H _ J (.inl ⟨rfl,hco,pos,hc⟩) (Heap.get?_push_size _ rfl) (I.hok.fresh up) (noFrame _ up)
end
def LamBody (X:Cx) (k:Nat) (scope:Scope) (body:Expr) (t:XK→TE):Prop:=
 ∀(A:Around) (outer:List Env) (s:Shared) (H:Hp) (E:XK) (f c':Addr),RoomG k (A.deeper (lamEnv X scope s.heap.objs.size f c'))→PE (lamCx X A outer s H E scope f c') body (t E)
section
variable {X:Cx} {pins:List (Addr × Obj)} {σ :L2.St} {H:Hp} {s:Shared}
theorem lam_called {Ng:List Str} {qg:Str} {sg:Scope} {g f c':Addr} {cdg pm ctv:Value} {params:Arguments} {body:Expr} {scope:Scope} {k i:Nat} {a:Str} {pn:List (Addr × Obj)} {xe:Value→Shared→Prop} {Wx:WX} {E0:XK} {t:XK→TE} {p1 p2:Pos}
 (I:Inv X pins σ H s) (L:LamS X.env.scope scope) (at_:s.heap.get? f=some (PySem.W.kla_obj "<lambda>" (X.env.qual++ "<lambda>") params body scope (cloFrom X.env.cells scope.names []) pm c' ctv)) (un:H f=none) (nf:f ∉ frs X.stack)
 (binds:bindArgs (PySem.W.kla_fn "<lambda>" (X.env.qual++ "<lambda>") params body scope (cloFrom X.env.cells scope.names []) pm (.ref c') ctv) ⟨[],[]⟩=pure [])
 (tk:Takes ((cxOf (L2.CX X.prog X.w) X.prog X.w X.K X.mg X.base Ng qg sg g cdg X.A X.stack s H E0).tr pn xe) Wx) (room:RoomG (k+1) (X.A.deeper (envOfC qg sg s.heap.objs.size g cdg)))
 (runs:LamBody X k scope body t) (hN:Ng[i]? =some a) (hv:Vis sg a) (hd:(a==("__debug__" :Str))=false) (hcd:(a==("__classdict__" :Str))=false):
 PE ((cxOf (L2.CX X.prog X.w) X.prog X.w X.K X.mg X.base Ng qg sg g cdg X.A X.stack s H E0).tr pn xe) (.Call (.Name a p1) [] [] p2)
  (fun σZ HZ Q=> σZ[i]? =some (some (.ref f))∧HZ c'=some (CodeO c' (X.env.qual++ "<lambda>"))∧t (fun cls d H'=>Wx cls d σZ H') σ HZ Q):=by
 refine⟨fun pinsZ sZ σZ HZ Q IZ ⟨slot,code,told⟩=> ?_⟩
 apply wpAny_Call_Name_kw
 refine thn ((pe_var (pos:=p1) (i:=i) hN hv hd hcd).run pinsZ sZ σZ HZ (fun v H1=>v= .ref f∧H1=HZ) IZ ⟨.ref f,slot,rfl,rfl⟩) ?_
 rintro u s1 ⟨v1,H1,I1,ru,ev,eH⟩
 subst ev
 rw[eH] at I1
 cases ru
 have at1:=I1.base.keep f _ at_ un nf (by exact fun z=>nomatch (show f ∈ ([] :List Addr) from z))
 refine PySem.W.callWith_F0 ⟨_,_,_,_,at1⟩ ?_
 have chain:Un (frs X.stack) [] H HZ s.heap s1.heap:=I1.base
 obtain⟨⟨oc,vs,tt,e1,e2,e3⟩,_,_⟩:=I1.hok c' _ code
 have go:codeAny (model X.prog X.w) (X.A.deeper (envOfC qg sg s.heap.objs.size g cdg)) (.call (.ref f) ⟨[],[]⟩) (CR (L2.CX X.prog X.w) (envOfC qg sg s.heap.objs.size g cdg::X.stack) X.prog X.w HZ s1 Q (fun cls d H'=>Wx cls d σZ H')) s1:=by
  refine PySem.W.kla_callFunE room.rm.depth at1 rfl L.co L.gen rfl ⟨c',oc,vs,tt,rfl,e1,e2,e3⟩ ?_
  rw[binds]
  refine wpAny_pure (wpAny_newFunctionEnv (fun y hy=>(L.own y hy).2) (fun y hy=>absurd hy List.not_mem_nil) (fun h1 ns same=>⟨I1.nolimit.fresh _ same,?_⟩) L.kind)
  have stay:∀b o,s1.heap.get? b=some o→h1.get? b=some o:=fun b o e=>same.extBut b o (Nat.ne_of_lt (Heap.lt_size e)) (Heap.get?_push_of_some _ e)
  have J:=lam_start2 (X:=X) (A:=X.A.deeper (envOfC qg sg s.heap.objs.size g cdg)) (outer:=envOfC qg sg s.heap.objs.size g cdg::X.stack) (E:=fun cls d H'=>Wx cls d σZ H') (f:=f) (c':=c') (tk:=s1.toks+([] :List (Str × Value)).length) I L I1.env0 room.rm.hd chain ns stay
  apply PySem.W.kla_codeExpr
  refine wpAny_mono ((runs _ _ s1 HZ _ f c' (room.deeper _)).run [] _ σ HZ Q J told) (fun v s' hq=> ?_) fun _ _ hq=>hq
  obtain⟨w1,H1,J1,rv,q⟩:=hq
  exact⟨w1,H1,J1.os,J1.bare,J1.base,J1.hok,rv,q⟩
 refine wpAny_call (codeAny_mono go ?_)
 rintro(e|fl) s' hq
 ·exact passAt tk σZ pinsZ HZ s1 e s' I1 hq
 ·cases fl with
  |ret u=>exact I1.after hq
  | _=>exact False.elim hq
end
end L3
namespace L3
open PySem PySem.Spec PyProof.Rows L2 LamX
open Classical in
noncomputable def eLam (i:Nat) (t:LamTok) (den:List D→Store→R D):ED:=fun env S=>match env[i]? with
 |some (some (.lam t' l))=>if t'=t then den l S else .bad
 | _=> .bad
abbrev LamD:=LamTok→(List D→Store→R D)→SD
def lamRun (n:Nat) (B:LamD) (t:LamTok) (l:List D) (den:List D→Store→R D) (S:Store):R D:=(B t den (some (.lam t l)::List.replicate (n-1) none) S).fin
def tok0:LamTok:=⟨0,0,"",[],[]⟩
def LamAny (n:Nat) (B:LamD):Prop:=∀(t:LamTok) (l:List D) (den:List D→Store→R D) (S:Store),lamRun n B t l den S=lamRun n B tok0 l den S
def takeD (env:EnvD):List Nat→Option (List D)
 | [] =>some []
 |i::is=>match env[i]?,takeD env is with
  |some (some d),some l=>some (d::l)
  | _,_=>none
def backD:List Nat→List D→EnvD→EnvD
 |i::is,d::ds,e=>backD is ds (e.set i (some d))
 | _,_,e=>e
def eLamCall (y q:Str) (n:Nat) (B:LamD) (ids:List Nat) (m:ED):ED:=fun env S=>match S[(0:Nat)]? with
 |some (.tab y' q')=>if y'=y∧q'=q then(match takeD env ids with
  |some l=>lamRun n B tok0 l (fun l S'=>m (backD ids l (List.replicate env.length none)) S') S
  |none=> .bad) else .bad
 | _=> .bad
section
variable {G:GC} {w:Wd}
theorem takeD_vals {env:EnvD} {σ :L2.St} (er:ERep G w env σ):∀ {is:List Nat} {l:List D},takeD env is=some l→∃vs:List V,RepL G w l vs∧vs.length=is.length∧∀(j:Nat) (i:Nat) (v:V),is[j]? =some i→vs[j]? =some v→ σ[i]? =some (some v)
 | [],l,h=>by
   simp only[takeD,Option.some.injEq] at h
   subst h
   exact⟨[],by simp[RepL],rfl,fun j i v h=>by simp at h⟩
 |i::is,l,h=>by
  simp only[takeD] at h
  split at h
  ·rename_i d l' h1 h2
   cases h
   obtain⟨v,e1,e2⟩:=er.at' i d h1
   obtain⟨vs,r1,r2,r3⟩:=takeD_vals er h2
   refine⟨v::vs,by simp only[RepL];exact⟨v,vs,rfl,e2,r1⟩,by simp[r2],fun j i' v' q1 q2=> ?_⟩
   cases j with
   |zero=>simp only[List.getElem?_cons_zero,Option.some.injEq] at q1 q2;rw[← q1,←q2];exact e1
   |succ j=>exact r3 j i' v' (by simpa using q1) (by simpa using q2)
  ·cases h
theorem backD_rep {σ :L2.St} :∀ {is:List Nat} {l:List D} {vs:List V} {e:EnvD},RepL G w l vs→vs.length=is.length→(∀ (j:Nat) (i:Nat) (v:V),is[j]? =some i→vs[j]? =some v→ σ[i]? =some (some v))→ERep G w e σ →ERep G w (backD is l e) σ
 | [],l,vs,e,_,_,_,er=>by unfold backD;exact er
 |i::is,[],vs,e,r,hl,_,er=>by unfold backD;exact er
 |i::is,d::ds,vs,e,r,hl,hs,er=>by
  simp only[RepL] at r
  obtain⟨v,vr,rfl,r1,r2⟩:=r
  unfold backD
  refine backD_rep r2 (by simpa using hl) (fun j i' v' q1 q2=>hs (j+1) i' v' (by simpa using q1) (by simpa using q2)) ⟨by simp[er.len],fun j d' e'=> ?_⟩
  by_cases hj:i=j
  ·subst hj
   have hi:i<e.length:=by
    have:=(List.getElem?_eq_some_iff.mp e').1
    simpa using this
   rw[List.getElem?_set_self hi] at e'
   cases e'
   exact⟨v,hs 0 i v rfl rfl,r1⟩
  ·rw[List.getElem?_set_ne hj] at e'
   exact er.at' j d' e'
theorem none_rep {σ :L2.St} (n:Nat) (h:n= σ.length):ERep G w (List.replicate n none) σ :=⟨by simp[h],fun i d e=>by
 by_cases hi:i<n
 ·rw[List.getElem?_replicate,if_pos hi] at e;cases e
 ·rw[List.getElem?_eq_none (by simpa using hi)] at e;cases e⟩
end
section
variable {G:GC} {w:Wd} {y q:Str} {P:Addr} {ps:Array Value} {c:Addr} {H1:Hp}
theorem lam_world (sr:SRep G w) (h0:w.S[0]? =some (.tab y q)) (hm:w.mu[0]? =some P) (ti:TabIs G y P) (tab:w.H P=some (.tbl ps)) (old:∀(pos:Pos) (cv:Value),codeAmong pos ps.toList=some cv→∃c,cv= .ref c∧CodeAt w q c) (made:LamMade w.H P q ps c H1):
 WExt w { w with H:=H1 } ∧SRep G { w with H:=H1 } ∧CodeAt { w with H:=H1 } q c:=by
 have mP:MutS w P:=⟨0,_,h0,trivial,hm⟩
 rcases made with⟨rfl,e,pos,hc⟩|⟨more,fresh,rfl,three,among⟩
 ·obtain⟨c1,e1,h1⟩:=old pos _ hc
  injection e1 with e1
  subst e1
  exact⟨WExt.refl w,sr,h1⟩
 ·have nc:∀a u,w.H a=some u→a≠c:=fun a u h z=>by rw[z,fresh] at h;cases h
  have ncM: ¬Mut w c:=fun m=>by
   rcases m with m|m
   ·obtain⟨u,e⟩:=MutS.there sr m
    rw[fresh] at e;cases e
   ·obtain⟨⟨u,e⟩,_⟩:=sr.tm c m
    rw[fresh] at e;cases e
  have at_:∀a,a≠c→a≠P→upd (upd w.H P (.tbl (ps++more))) c (CodeO c q) a=w.H a:=fun a h1 h2=>by rw[upd_ne h1,upd_ne h2]
  have x:WExt w { w with H:=upd (upd w.H P (.tbl (ps++more))) c (CodeO c q) } :=
   ⟨fun _ _ h=>h,fun a u h nm _=>⟨(at_ a (nc a u h) fun z=>nm (by rw[z];exact mP)).trans h,nm⟩,fun _ h=> .inl h,fun _ h=>h⟩
  have cc:CodeAt { w with H:=upd (upd w.H P (.tbl (ps++more))) c (CodeO c q) } q c:=⟨upd_same,ncM⟩
  refine⟨x,⟨sr.len,sr.inj,fun n o a h1 h2=> ?_,fun a ha=> ?_⟩,cc⟩
  ·have h:=sr.obj n o a h1 h2
   by_cases hP:a=P∧o.live
   ·obtain⟨rfl,lv⟩:=hP
    obtain rfl:n=0:=sr.inj n 0 a o (.tab y q) h1 h0 lv trivial h2 hm
    rw[h0] at h1
    cases h1
    refine⟨ti,ps++more,(upd_ne (nc _ _ tab)).trans upd_same,three,fun pos cv hcv=> ?_⟩
    rcases among pos cv hcv with z|rfl
    ·obtain⟨c1,e1,e2⟩:=old pos cv z
     exact⟨c1,e1,x.keepM noT e2.1 e2.2⟩
    ·exact⟨c,rfl,cc⟩
   ·refine h.keep x noT fun lv=> ?_
    obtain⟨u,e⟩:=h.there lv
    exact at_ a (nc a u e) fun z=>hP ⟨z,lv⟩
  ·obtain⟨⟨u,e⟩,nm⟩:=sr.tm a ha
   exact⟨⟨u,(at_ a (nc a _ e) fun z=>nm (by rw[z];exact mP)).trans e⟩,nm⟩
end
def BltIn (base:Heap) (mg:Str→Option Value):Prop:=∃(bm:Addr) (o:Obj),mg "__builtins__" =some (.ref bm)∧bm≠builtinsNs∧bm≠mainGlobals∧base.get? bm=some o∧o.cls= .type "module" ∧o.dict=some builtinsNs∧o.data= .plain
def LamDef (P:Program) (G:GC) (base:Heap) (k:Nat) (Ng:List Str) (qg:Str) (sg:Scope) (g:Addr) (bg:List Stmt) (a:Str) (B:LamD):Prop:=
 ∀(cdg:Value) (A:Around) (outer:List Env) (s:Shared) (H:Hp) (E:XK) (t:LamTok) (den:List D→Store→R D),RoomG k (A.deeper (envOfC qg sg s.heap.objs.size g cdg))→
  (∀ (pn:List (Addr × Obj)) (xe:Value→Shared→Prop) (Wx:WX) (p1 p2:Pos),Takes ((cxOf (L2.CX P G.w) P G.w G.K G.mg base Ng qg sg g cdg A outer s H E).tr pn xe) Wx→
    PE ((cxOf (L2.CX P G.w) P G.w G.K G.mg base Ng qg sg g cdg A outer s H E).tr pn xe) (.Call (.Name a p1) [] [] p2) (tE G (eLam 0 t den) Wx))→
  PSs (cxOf (L2.CX P G.w) P G.w G.K G.mg base Ng qg sg g cdg A outer s H E) bg (tS G (B t den) (WE0 E))
section
variable {G:GC} {X:Cx} {Wx:WX}
theorem q_lamcall {x y a qg:Str} {g:Addr} {k n:Nat} {pg:Arguments} {bg:List Stmt} {sg:Scope} {fdg:FuncData} {Ng:List Str} {params:Arguments} {body:Expr} {scope:Scope} {B:LamD} {ids:List Nat} {m:ED} {p lpos pos:Pos} {fy:Addr} {fdy:FuncData} {oc:Value} {od:Option Addr} {osl:Array (Option Value)}
 (hK:X.K=G.K) (hw:X.w=G.w) (hmg:X.mg=G.mg) (F:FunD G.K x qg pg bg sg [] [] g fdg) (hb:Binds X.K fdg [a] []) (Sg:FnScope Ng [a] sg) (hNg:Ng[0]? =some a) (hn:Ng.length=n) (hva:Vis sg a) (D:LamDef X.prog G X.base (k+1) Ng qg sg g bg a B) (any:LamAny n B)
 (room:RoomG (k+2) X.A) (tk:Takes X Wx) (hg:Gl X x) (hm:X.mg x=some (.ref g))
 (my:G.mg y=some (.ref fy)) (ly:G.K.lookup fy=some ⟨oc,od, .func fdy,osl⟩) (cyf:fdy.code=X.env.code) (blt:BltIn X.base X.mg) (L:LamS X.env.scope scope) (hdef:defaultsOf params X.env=([],[]))
 (hbind:∀(q:Str) (cl:List (Str × Addr)) (pm cv ctv:Value),bindArgs (PySem.W.kla_fn "<lambda>" q params body scope cl pm cv ctv) ⟨[],[]⟩=pure [])
 (hbody:LamBody X k scope body (fun E=>tE G m (WE0 E))) (hdb:(x==("__debug__" :Str))=false) (hd:(a==("__debug__" :Str))=false) (hcd:(a==("__classdict__" :Str))=false):
 PE X (.Call (.Name x p) [.Lambda params body scope lpos] [] pos) (tE G (eLamCall y (X.env.qual++ "<lambda>") n B ids m) Wx):=by
 refine⟨fun pins s σ H Q I h=> ?_⟩
 obtain⟨w,env,rfl,sr,er,pp⟩:=h
 unfold eLamCall at pp
 split at pp
 case h_2=>exact pp.elim
 rename_i y' q' h0
 split at pp
 case isFalse=>exact pp.elim
 rename_i hyq
 obtain⟨rfl,rfl⟩:=hyq
 split at pp
 case h_2=>exact pp.elim
 rename_i l htk
 obtain⟨vs,rl,hvl,hvs⟩:=takeD_vals er htk
 have hl:=(List.getElem?_eq_some_iff.mp h0).1
 rw[← sr.len] at hl
 have hmu:w.mu[0]? =some w.mu[0] :=List.getElem?_eq_getElem hl
 generalize w.mu[0] =P at hmu
 have orep:=sr.obj 0 _ P h0 hmu
 obtain⟨ti,ps,tab,three,old⟩:=orep
 have ti':=ti
 obtain⟨f',c',fd',oc',od',osl',t1,t2,t3,t4⟩:=ti'
 rw[my] at t1
 cases t1
 rw[ly] at t2
 cases t2
 have here:X.env.code= .ref c':=by rw[← cyf];exact t3
 have noB:∀b o,X.base.get? b=some o→b≠P:=fun b o e z=>by
  obtain⟨e1,e2⟩:=I.ok.bs b o e
  have:=I.base.free b o e1 e2 (I.ok.noex b o e)
  rw[z,tab] at this
  cases this
 have TB:TabB X.base X.mg c' P:=by
  refine⟨PySem.W.codeHd_of_K I.ok.mod.kin (by rw[hK];exact t4),?_,?_⟩
  ·obtain⟨bm,o,b1,b2,b3,b4,b5,b6,b7⟩:=blt
   exact⟨bm,o,b1,b2,b3,noB bm o b4,b4,b5,b6,b7⟩
  ·obtain⟨o,es,ep,e,_⟩:=I.ok.mod.glob
   exact noB _ o e
 obtain⟨ocg,odg,dVg,kVg,docg,pmg,ang,cdg,ctg,oslg,rfl,lg,cg,_,_⟩:=F.ex
 refine wpAny_Call_Name_kw (ld_glob I hg hm ?_ hdb)
 refine PySem.W.callWith_K (h₀ :=X.base) I.ok.mod.kin (by rw[hK];exact F.kp) ?_ (by rfl) (by rfl)
 show wpAny _ _ (spliced ((false,eval (.Lambda params body scope lpos) X.env)::backTo pos (starEach [] X.env))) _ _ s
 refine Calls.spliced_cons (lam_made I TB here tab three (fun pos cv hc=>let⟨c,e1,e2⟩:=old pos cv hc;⟨c,e1,e2.1⟩) hdef (L.has I.ok) ?_)
 intro f c pm ctv H1 s' I1 made hf un nf
 refine Calls.spliced_nil ⟨I1.kIn,?_⟩
 obtain⟨x1,s1,code⟩:=lam_world sr h0 hmu ti tab old made
 have p1:=Post.shift x1 pp
 have lenσ :env.length= σ.length:=er.len
 have act:∀(pn:List (Addr × Obj)) (xe:Value→Shared→Prop) (Wz:WX) (p1 p2:Pos),Takes ((cxOf (L2.CX X.prog X.w) X.prog X.w X.K X.mg X.base Ng qg sg g cdg X.A X.stack s' H1 (WE Wx σ)).tr pn xe) Wz→RoomG (k+1) (X.A.deeper (envOfC qg sg s'.heap.objs.size g cdg))→
  PE ((cxOf (L2.CX X.prog X.w) X.prog X.w X.K X.mg X.base Ng qg sg g cdg X.A X.stack s' H1 (WE Wx σ)).tr pn xe) (.Call (.Name a p1) [] [] p2) (tE G (eLam 0 ⟨f,c,X.env.qual++ "<lambda>",ids,vs⟩ fun l S'=>m (backD ids l (List.replicate env.length none)) S') Wz):=fun pn xe Wz p1 p2 tkz rm=>by
  refine peI (lam_called (i:=0) I1 L hf un nf (hbind _ _ _ _ _) tkz rm hbody hNg hva hd hcd) fun σZ HZ QZ hz=> ?_
  obtain⟨wz,ez,rfl,srz,erz,pz⟩:=hz
  unfold eLam at pz
  split at pz
  case h_2=>exact pz.elim
  rename_i t' l' hz0
  split at pz
  case isFalse=>exact pz.elim
  rename_i ht
  subst ht
  obtain⟨v,e1,r⟩:=erz.at' 0 _ hz0
  simp only[Rep] at r
  obtain⟨rfl,cz,rz⟩:=r
  exact⟨e1,cz.1,wz,_,rfl,srz,backD_rep rz hvl hvs (none_rep _ lenσ),pz⟩
 have rc:codeAny (model X.prog X.w) X.A (.call (.ref g) ⟨[.ref f],[]⟩) (CR (L2.CX X.prog X.w) X.stack X.prog X.w H1 s' Q (WE Wx σ)) s':=by
  refine run_ofS (N:=Ng) (ps:= [a]) (us:= [.ref f]) (vs:= [.ref f]) (by rw[hK];exact lg) (by rw[hK];exact cg) Sg room.rm I1.env0 (hb s' [.ref f] I1.kIn rfl) (.cons rfl .nil) rfl fun hr'=> ?_
  have rm:RoomG (k+1) (X.A.deeper (envOfC qg sg s'.heap.objs.size g cdg)):=⟨hr',room.gd⟩
  have D':=D cdg X.A X.stack s' H1 (WE Wx σ) ⟨f,c,X.env.qual++ "<lambda>",ids,vs⟩ (fun l S'=>m (backD ids l (List.replicate env.length none)) S') rm
  rw[← hw,←hK,←hmg] at D'
  refine⟨_,D' fun pn xe Wz p1 p2 tkz=>act pn xe Wz p1 p2 tkz rm,?_⟩
  rw[← any ⟨f,c,X.env.qual++ "<lambda>",ids,vs⟩ l] at p1
  refine⟨{ w with H:=H1 },some (.lam ⟨f,c,X.env.qual++ "<lambda>",ids,vs⟩ l)::List.replicate (n-1) none,rfl,s1,?_,?_⟩
  ·have:=ERep.start (n:=n) (wd:= { w with H:=H1 }) (ds:= [L3.D.lam ⟨f,c,X.env.qual++ "<lambda>",ids,vs⟩ l]) (vs:= [.ref f]) (by
    simp only[RepL,Rep]
    exact⟨.ref f,[],rfl,⟨rfl,code,RepL.mono x1 l vs rl⟩,rfl⟩)
   rw[← hn] at this ⊢
   exact this
  ·unfold lamRun at p1
   cases hm':B ⟨f,c,X.env.qual++ "<lambda>",ids,vs⟩ (fun l S'=>m (backD ids l (List.replicate env.length none)) S') (some (.lam ⟨f,c,X.env.qual++ "<lambda>",ids,vs⟩ l)::List.replicate (n-1) none) w.S with
   |nx e S=>rw[hm'] at p1;exact fun σ' w' x hs s er=>p1 .non w' x hs s (by simp[Rep])
   |ret d S=>rw[hm'] at p1;exact p1
   |brk _ _=>rw[hm'] at p1;exact p1.elim
   |ct _ _=>rw[hm'] at p1;exact p1.elim
   |exc e env S=>rw[hm'] at p1;exact fun C dx σ' w' x hs s er xr=>p1 C dx w' x hs s xr
   |bad=>rw[hm'] at p1;exact p1.elim
 refine wpAny_call (codeAny_mono rc ?_)
 rintro(e|fl) s2 hq
 ·exact passAt tk σ pins H1 s' e s2 I1 hq
 ·cases fl with
  |ret u=>exact I1.after hq
  | _=>exact False.elim hq
end
end L3
namespace L3
open PySem PySem.Spec PyProof.Rows L2 LamX
def lw:Nat→Nat
 |0=>1
 |k+1=>lw k+3
theorem lw1:∀k,1≤lw k
 |0=>Nat.le_refl _
 |k+1=>Nat.le_trans (lw1 k) (Nat.le_add_right _ _)
def CodeOf (K:PySem.W.Frag) (f:Addr) (cdv:Value):Prop:=∃(oc:Value) (od:Option Addr) (osl:Array (Option Value)) (fd:FuncData),K.lookup f=some ⟨oc,od, .func fd,osl⟩∧fd.code=cdv
section
variable {P:Program} {w:World} {G:GC} {base:Heap} {x qual:Str} {params:Arguments} {body:List Stmt} {scope:Scope} {dvs:List V} {kws:List (Str × V)} {f:Addr} {fd:FuncData} {k n:Nat} {N ps:List Str} {m:SD}
theorem fn_okC (F:FunD G.K x qual params body scope dvs kws f fd) (Sc:FnScope N ps scope)
 (hb:∀(cdv:Value) (A:Around) (outer:List Env) (s:Shared) (H:Hp) (E:XK),CodeOf G.K f cdv→RoomG k (A.deeper (envOfC qual scope s.heap.objs.size f cdv))→
   PSs (cxOf (L2.CX P w) P w G.K G.mg base N qual scope f cdv A outer s H E) body (tS G m (WE0 E))):
 FnG P w G.K G.mg base (k+1) f fd ps (spOf G (run ps.length N.length m)):=by
 obtain⟨oc,od,dV,kV,doc,pm,an,cdv,ct,osl,rfl,place,code,_,_⟩:=F.ex
 have mine:CodeOf G.K f cdv:=⟨oc,od,osl,_,place,rfl⟩
 refine⟨fun vs H Q E h=>len_spOf run_ar h,fun A outer s H args us vs Q E room e0 bound rel want=> ?_⟩
 have size:=len_spOf run_ar want
 have inK:G.K.In s.heap:=e0.mod.kin.keeps fun b o h=>(e0.bs b o h).1
 refine codeAny_call_function room.rm.depth (inK _ _ place) rfl Sc.co Sc.gen rfl (PySem.W.codeRec_of inK code) (bound _ _ _ _ ?_)
 refine wpAny_newFunctionEnv_cells Sc.kind (fun y hy=> ?_) fun env made s2 entered=> ?_
 ·obtain⟨z,v⟩:=y
  refine(Sc.par z (List.of_mem_zip hy).1).imp id fun c=>⟨c,PySem.W.cellsFrom_some _ _ _ (.inl c)⟩
 subst made
 have nl:s.heap.NoLimit:=e0.mod.nolimit.keeps fun b o h=>(e0.bs b o h).1
 refine⟨nl.keeps entered.toInCall.keep,codeAny_func ?_⟩
 have runs:=hb cdv A outer s H E mine (room.deeper _)
 have I0:Inv (cxOf (L2.CX P w) P w G.K G.mg base N qual scope f cdv A outer s H E) [] (start N vs) H s2:=inv_start Sc room.rm.hd e0 size rel entered
 have holds:tS G m (WE0 E) { nx:=fun _ H'=>Q .non H',rt:=Q } (start N vs) H:=by
  obtain⟨wd,ds,rfl,sr,rp,p⟩:=want
  by_cases hl:ds.length=ps.length
  ·unfold run at p
   rw[if_pos hl] at p
   refine⟨wd,_,rfl,sr,ERep.start rp,?_⟩
   cases hm:m (ds.map some++List.replicate (N.length-ds.length) none) wd.S with
   |nx env S=>rw[hm] at p;exact fun σ' w' x hs s er=>p .non w' x hs s (by simp[Rep])
   |ret d S=>rw[hm] at p;exact p
   |brk _ _=>rw[hm] at p;exact p.elim
   |ct _ _=>rw[hm] at p;exact p.elim
   |exc e env S=>rw[hm] at p;exact fun C dx σ' w' x hs s er xr=>p C dx w' x hs s xr
   |bad=>rw[hm] at p;exact p.elim
  ·rw[run_ar ds wd.S hl] at p;exact p.elim
 refine wpAny_mono (runs.run [] s2 (start N vs) H _ I0 holds) (fun fl s' done=> ?_) fun _ _ z=>z
 have told:∀ {σ':L2.St} {H':Hp} {v:V} {u:Value},Inv (cxOf (L2.CX P w) P w G.K G.mg base N qual scope f cdv A outer s H E) [] σ' H' s'→RelV v u→Q v H'→CE outer P w H s Q u s':=fun {_ H' v _} J q q'=>⟨v,H',J.os,J.bare,J.base,J.hok,q,q'⟩
 match fl,done with
 | .ret u,⟨v,σ',H',J,q,q'⟩=>exact told J q q'
 | .next,⟨σ',H',J,q'⟩=>exact told (v:=V.non) (u:=Value.none) J rfl q'
 | .brk,⟨_,_,_,z⟩=>exact False.elim z
 | .cont,⟨_,_,_,z⟩=>exact False.elim z
end
def spLawT (K:PySem.W.Frag) (T:Addr):Sp:=fun vs H Q _=>∃(a:Addr) (ns:List Int),vs= [.ref a] ∧ns.length≤63∧a≠T∧H T=some (.tbl #[])∧SqL K H a (ns.map V.int)∧∀H',Q (.bl true) H'
theorem law_okT {P:Program} {w:World} {G:GC} {base:Heap} {k:Nat} {f T:Addr} {fd:FuncData} {x y q:Str} {F:FN} (ti:TabIs G y T) (hF:FnG P w G.K G.mg base k f fd [x] (spOf G F)) (true_:∀ns:List Int,ns.length≤63→∃S,F [.scr ns] [.tab y q] = .ok (.bl true) S):
 FnG P w G.K G.mg base k f fd [x] (spLawT G.K T):=by
 refine hF.imp fun vs H Q E h=> ?_
 obtain⟨a,ns,rfl,hl,ne,hT,hS,hQ⟩:=h
 obtain⟨S,e⟩:=true_ ns hl
 have nm:∀b:Addr,b≠T→¬Mut ⟨[T],[.tab y q],H,[]⟩ b:=fun b hb m=>by
  rcases m with⟨n,o,h1,_,h2⟩|m
  ·cases n with
   |zero=>
    have:T=b:=by simpa using h2
    exact hb this.symm
   |succ n=>simp at h1
  ·exact absurd m List.not_mem_nil
 refine⟨⟨[T],[.tab y q],H,[]⟩,[.scr ns],rfl,⟨rfl,fun n m b o o' h1 h2 _ _ _ _=> ?_,fun n o b h1 h2=> ?_,fun b h=>absurd h List.not_mem_nil⟩,?_,?_⟩
 ·have:=(List.getElem?_eq_some_iff.mp h1).1
  have:=(List.getElem?_eq_some_iff.mp h2).1
  simp only[List.length_cons,List.length_nil] at*
  omega
 ·have hz:n=0:=by
   have:=(List.getElem?_eq_some_iff.mp h1).1
   simp only[List.length_cons,List.length_nil] at this
   omega
  subst hz
  obtain rfl:O.tab y q=o:=by simpa using h1
  obtain rfl:T=b:=by simpa using h2
  exact⟨ti,#[],hT,trivial,fun pos cv z=>by simp[codeAmong] at z⟩
 ·simp only[RepL,Rep]
  refine⟨.ref a,[],rfl,⟨a,rfl,?_⟩,rfl⟩
  rcases hS with h|h
  ·exact .inl ⟨h,nm a ne⟩
  ·exact .inr h
 ·rw[e]
  intro v w' x hs s r
  simp only[Rep] at r
  subst r
  exact hQ _
section
variable {P:Program} {w:World} {K:PySem.W.Frag} {mg mb:Str→Option Value} {k:Nat} {fa sc c T:Addr} {fd:FuncData} {x:Str} {sp:Sp} {st:Shared} {its:List Value} {ns:List Int}
theorem top_tab (inK:K.In st.heap) (main:st.heap.Ns mainGlobals mg) (bns:st.heap.Ns builtinsNs mb) (boot:∀y:Str,y≠ "__name__" →mb y=bootBuiltins y) (nl:st.heap.NoLimit) (ng:st.gens= #[])
 (at_:st.heap.get? sc=some { cls:= .type "list",data:= .seq its.toArray }) (hi:IntsAre its ns) (size:ns.length≤63) (room:Room k callerA) (mods:∃mm,st.heap.Ns sysModules mm)
 (empty:st.heap.get? T=some { cls:= .none,data:= .fields #[] }) (apart:K.lookup T=none) (head:PySem.W.CodeHd st.heap c T)
 (bmain:∃(bm:Addr) (ob:Obj),mg "__builtins__" =some (.ref bm)∧bm≠builtinsNs∧st.heap.get? bm=some ob∧ob.cls= .type "module" ∧ob.dict=some builtinsNs∧ob.data= .plain)
 (F:∀base:Heap,K.In base→base.Ns mainGlobals mg→(∃ o,base.get? sysModules=some o)→BltIn base mg→FnG P w K mg base k fa fd [x] (spLawT K T)) (bind:∀(s:Shared) (u:Value),BindsTo s fd ⟨[u],[]⟩ [(x,u)]):
 codeAny (model P w) callerA (.call (.ref fa) ⟨[.ref sc],[]⟩) (fun r s'=>r= .ok (.ret (.bool true))∧OldK st.heap s'.heap∧s'.os=st.os∧AllBare s'.gens) st:=by
 have rel:=vals_ints hi
 have ne:sc≠T:=fun z=>by
  rw[z,empty] at at_
  cases at_
 have from_:∀H:Hp,H T=some (.tbl #[])→(∀ b,b≠T→b≠sc→H b=none)→(H sc=none∨(K.lookup sc=none∧∃o xs,H sc=some (.frz o (.lst xs))))→SqL K H sc (ns.map V.int)→HOk P w H st.heap→
  codeAny (model P w) callerA (.call (.ref fa) ⟨[.ref sc],[]⟩) (fun r s'=>r= .ok (.ret (.bool true))∧OldK st.heap s'.heap∧s'.os=st.os∧AllBare s'.gens) st:=by
  intro H hT others script sql held
  have hide:∀ {b:Addr} {o:Obj},st.heap.get? b=some o→b≠T→(b=sc→H sc=none)→(hidT st.heap H).get? b=some o:=fun {b o} e n1 n2=>by
   refine hidT_get e ?_
   by_cases hb:b=sc
   ·rw[hb];exact n2 hb
   ·exact others b n1 hb
  have space:∀ {b:Addr} {o:Obj},st.heap.get? b=some o→(∀ vs n,o.data≠ .seq vs n)→o.data≠ .fields #[] →(hidT st.heap H).get? b=some o:=fun {b o} e d1 d2=>by
   refine hide e (fun z=> ?_) fun z=> ?_
   ·rw[z,empty] at e;cases e;exact absurd rfl d2
   ·rw[z,at_] at e;cases e;exact absurd rfl (d1 _ _)
  have dicts:∀ {b:Addr} {m:Str→Option Value},st.heap.Ns b m→(hidT st.heap H).Ns b m:=fun {b m} ⟨o,es,ep,e,d,q⟩=>
   ⟨o,es,ep,space e (fun vs n z=>by rw[d] at z;cases z) (fun z=>by rw[d] at z;cases z),d,q⟩
  have inB:K.In (hidT st.heap H):=fun b o e=>hide (inK b o e) (fun z=>by rw[z,apart] at e;cases e) fun z=>by
   rcases script with h|⟨h,_⟩
   ·exact h
   ·rw[z,h] at e;cases e
  obtain⟨mc,nl1,nl2⟩:=nl
  have world:Mod K mg (hidT st.heap H):=⟨inB,dicts main,⟨mb,dicts bns,boot⟩,⟨mc,dicts nl1,nl2⟩⟩
  have blt:BltIn (hidT st.heap H) mg:=by
   obtain⟨bm,ob,b1,b2,b3,b4,b5,b6⟩:=bmain
   refine⟨bm,ob,b1,b2,fun z=> ?_,space b3 (fun vs n z=>by rw[b6] at z;cases z) (fun z=>by rw[b6] at z;cases z),b4,b5,b6⟩
   obtain⟨o,es,ep,e,d,_⟩:=main
   rw[z,e] at b3
   cases b3
   rw[d] at b6
   cases b6
  have there:∃o,(hidT st.heap H).get? sysModules=some o:=by
   obtain⟨mm,z⟩:=mods
   obtain⟨o,_,_,e,_⟩:=dicts z
   exact⟨o,e⟩
  have entry:Env0 P w K mg (hidT st.heap H) callerA [] st H:=
   { frames:=rfl,mod:=world,bs:=fun b o e=>of_hidT e,bsz:=Nat.le_of_eq (hidT_size _ _),funs:=trivial,frf:=fun b z=>(by cases z),hok:=held,bare:= .of_eq ng }
  refine codeAny_mono ((F _ inB (dicts main) there blt).go callerA [] st H ⟨[.ref sc],[]⟩ [.ref sc] [.ref sc] (fun v _=>v= .bl true) (fun _ _ _=>False) (roomG_caller room) entry (bind st (.ref sc)) (.cons rfl .nil) ⟨sc,ns,rfl,size,ne,hT,sql,fun _=>rfl⟩) fun r s' z=> ?_
  match r,z with
  | .error e,z=>exact(cx_none z).elim
  | .ok (.ret u),⟨v,H',e1,e2,e3,e4,e5,e6⟩=>
    have e6:v= .bl true:=e6
    subst e6
    obtain rfl:u=Value.bool true:=e5
    obtain⟨more,grown⟩:=e3.tbls T #[] hT
    have later:s'.heap.get? T=some { cls:= .none,data:= .fields (#[] ++more) } :=e4 T _ grown
    have same:∀b o,b≠T→st.heap.get? b=some o→s'.heap.get? b=some o:=fun b o nT e=>by
     by_cases hb:b=sc
     ·rcases script with h|⟨_,o',xs,h⟩
      ·exact e3.keep b o e (by rw[hb];exact h) (by simp[frs]) (by simp)
      ·have z1:=(held sc _ h).1
       have z2:=(e4 sc _ (e3.frzs sc o' _ h)).1
       rw[hb] at e ⊢
       rw[e] at z1
       cases z1
       exact z2
     ·exact e3.keep b o e (others b nT hb) (by simp[frs]) (by simp)
    refine⟨rfl,⟨fun b o e=> ?_,fun b o e=> ?_⟩,e1,e2⟩
    ·by_cases hb:b=T
     ·rw[hb] at e ⊢
      rw[empty] at e
      cases e
      exact .inr (.inl ⟨(head.tab empty).isCodeTable,rfl,#[],more,rfl,later⟩)
     ·exact .inl (same b o hb e)
    ·by_cases hb:b=T
     ·rw[hb];exact⟨_,later⟩
     ·exact⟨o,same b o hb e⟩
 by_cases hk:∃o,K.lookup sc=some o
 ·obtain⟨o,hk⟩:=hk
  obtain rfl:o=_:=Option.some.inj ((inK sc o hk).symm.trans at_)
  refine from_ (upd (fun _=>none) T (.tbl #[])) upd_same (fun b h1 _=>upd_ne h1) (.inl (upd_ne ne)) (.inr ⟨_,its.toArray,_,hk,rfl,rfl,rfl,?_,by simpa using rel⟩) fun b u z=> ?_
  ·rw[List.size_toArray,hi.length];exact Nat.le_trans size (by decide)
  ·by_cases hb:b=T
   ·subst hb;rw[upd_same] at z;cases z;exact empty
   ·rw[upd_ne hb] at z;cases z
 ·have none_:K.lookup sc=none:=by
   cases q:K.lookup sc with
   |none=>rfl
   |some o=>exact absurd ⟨o,q⟩ hk
  have here:(upd (upd (fun _=>none) T (.tbl #[])) sc (.frz { cls:= .type "list",data:= .seq its.toArray } (.lst (ns.map V.int)))) sc=some (.frz { cls:= .type "list",data:= .seq its.toArray } (.lst (ns.map V.int))):=upd_same
  refine from_ (upd (upd (fun _=>none) T (.tbl #[])) sc (.frz { cls:= .type "list",data:= .seq its.toArray } (.lst (ns.map V.int)))) ((upd_ne (Ne.symm ne)).trans upd_same) (fun b h1 h2=>(upd_ne h2).trans (upd_ne h1)) (.inr ⟨none_,_,_,here⟩) (.inl (.inr ⟨_,here⟩)) fun b u z=> ?_
  by_cases hb:b=sc
  ·subst hb
   rw[here] at z
   cases z
   exact⟨at_,by rw[List.length_map];exact Nat.le_trans size (by decide),its,_,rel,at_⟩
  ·rw[upd_ne hb] at z
   by_cases hb:b=T
   ·subst hb;rw[upd_same] at z;cases z;exact empty
   ·rw[upd_ne hb] at z;cases z
end
section
theorem walkT {l:PySem.W.OpenLaw} {q:Program} {loose:List Str} {XP:(Str→Option Value)→Heap→Prop} {YP:World→Heap→Prop} {d:DefRec} {K:Params→PySem.W.Frag} {k:Nat} {x:Str} (y:Str) (hn:l.most=some 63) (hi:importsNone q=true) (hdf:d.params.defaults= []) (hr:Room k callerA)
 (hrec:((recsOf q).any fun e=>e.name==y)=true) (hY:∀(w:World) (h:Heap),YP w h→(K w.params).In h)
 (F:∀(w:World) (mg:Str→Option Value) (fa:Addr) (h:Heap),(K w.params).In h→h.Ns mainGlobals mg→mg d.name=some (.ref fa)→
   ∃(fd:FuncData) (T:Addr),(∀ (s:Shared) (u:Value),BindsTo s fd ⟨[u],[]⟩ [(x,u)])∧TabIs ⟨K w.params,w,mg⟩ y T∧(K w.params).lookup T=none∧
    ∀base:Heap,(K w.params).In base→base.Ns mainGlobals mg→(∃ o,base.get? sysModules=some o)→BltIn base mg→FnG l.prog w (K w.params) mg base k fa fd [x] (spLawT (K w.params) T)):
 PySem.W.WalkO q loose XP YP l.row.toRowW d [] (fun f vs=>PySem.call f vs):=by
 refine Att.attach_call hn hdf fun w s₀ s₁ mg mb fa o pm cd doc a vs ns G Y ho hd hcd hmg hobj hints hlen hg=> ?_
 have KX:=hY w _ Y
 obtain⟨fd,T,hb,⟨fy,c,fdy,oc,od,osl,t1,t2,t3,t4⟩,apart,hF⟩:=F w mg fa _ KX G.T.g hmg
 have head:=PySem.W.codeHd_of_K KX t4
 obtain⟨r,inR,same⟩:=List.any_eq_true.mp hrec
 obtain rfl:r.name=y:=beq_iff_eq.mp same
 obtain⟨a',o',fd',c',P',h1,h2,h3,h4,_,⟨⟨oc2,vc,e1,_,e3,e4⟩,empty⟩⟩:=G.T.tab r inR
 have t1':mg r.name=some (.ref fy):=t1
 rw[t1'] at h1
 cases h1
 rw[KX _ _ t2] at h2
 cases h2
 cases h3
 rw[t3] at h4
 cases h4
 obtain⟨o3,v3,_,_,_,_,_,_,_,k1,_,k2,k3,_⟩:=id head
 rw[k1] at e1
 cases e1
 rw[k2] at e3
 cases e3
 rw[k3] at e4
 cases e4
 exact top_tab KX G.T.g G.T.b G.T.builtins G.T.nolimit hg hobj hints hlen hr (let⟨mm,z,_⟩:=(G.T.seer hi).mods;⟨mm,z⟩) empty apart head G.T.bmain hF hb
end
end L3
namespace L3
open PySem PySem.Spec PyProof.Rows L2
def codP (o:Obj):Option Addr:=match o.data with
 | .fields vs=>match(vs[11]? :Option Value) with
   |some (.ref T)=>some T
   | _=>none
 | _=>none
def codHdO (o:Obj) (c T:Addr):Bool:=PySem.W.codeHdIn [(c,o)] c T
theorem codeHdIn_of {K:PySem.W.Frag} {c T:Addr} {o:Obj} (h:K.lookup c=some o) (e:codHdO o c T=true):PySem.W.codeHdIn K c T=true:=by
 unfold codHdO PySem.W.codeHdIn at e
 unfold PySem.W.codeHdIn
 rw[h]
 have:List.lookup c [(c,o)] =some o:=by simp[List.lookup]
 rw[this] at e
 exact e
theorem tk_lam {X:Cx} {A:Around} {outer:List Env} {s:Shared} {H:Hp} {E:XK} {scope:Scope} {f c':Addr} :Takes (LamX.lamCx X A outer s H E scope f c') (WE0 E):=takes_of rfl rfl rfl rfl
end L3
namespace K18
open PySem L2 L3
noncomputable section
def fuel:Nat:=100000
def c_FREE_ORDER:D:=(.tup [(.str "plus"),(.str "times"),(.str "most")])
def c_GIVERS:D:=(.tup [(.str "let"),(.str "each")])
def kbd_are_alike_0_other_one_g:List D→List D→List D:=gath .non [(true,1),(true,0)]
def kbd_form_of_0_program_g:List D→List D→List D:=gath .non [(true,0)]
def kbd_is_number_1_high_s:List (Nat × Nat):= [(0,0),(1,0),(2,0)]
def kbd_is_number_1_high_g:List D→List D→List D:=fun ds es=>gat3 kbd_is_number_1_high_s ds [(.int 0)] es
def kbd_same_at_0_other_one_program_g:List D→List D→List D:=gath .non [(true,2),(true,1),(true,0)]
def kbd_same_heaps_0_ones_others_program_g:List D→List D→List D:=gath .non [(true,2),(true,0),(true,1)]
def kbd_same_runs_0_others_ones_program_g:List D→List D→List D:=gath .non [(true,2),(true,1),(true,0)]
def m_is_whole (F:Nat→FN):SD:=
    sRet (eAnd (eN isiD (aCons (eVar 0) (aCons (eK (.ty "int")) (aNil)))) (eNot (eN isiD (aCons (eVar 0) (aCons (eK (.ty "bool")) (aNil))))))
def m_is_number (F:Nat→FN):SD:=
    sRet (eAnd (eN (callK (F 0) []) (aCons (eVar 0) (aNil))) (eChain leD leD (eVar 1) (eVar 0) (eVar 2)))
def m_at (F:Nat→FN):SD:=
    sSeq (sIf (tNot (tTruth (eN isiD (aCons (eVar 1) (aCons (eK (.ty "tuple")) (aNil)))))) (sRaise1 "NoPlace" "place" (eVar 1)) (sSkip))
    (sSeq (sAsg (eVar 0) (gName 2))
    (sSeq (sFor (iSeq (eVar 1)) (gName 3) (sSeq (sIf (tNot (tTruth (eKw (kwK (F 1) 1 1 kbd_is_number_1_high_g) (aCons (eVar 3) (aNil)) (aCons (e2 subD (eN lenD (aCons (e2 ixD (eVar 2) (eK (.int 2))) (aNil))) (eK (.int 1))) (aNil))))) (sRaise1 "NoPlace" "place" (eVar 1)) (sSkip))
    (sAsg (e2 ixD (e2 ixD (eVar 2) (eK (.int 2))) (eVar 3)) (gName 2))))
    (sRet (eVar 2))))
def m_name_form (F:Nat→FN):SD:=
    sSeq (sFor (iArgs erevA (aCons (eVar 1) (aNil))) (gTup [3,4]) (sIf (tOfE (e2 eqD (eVar 4) (eVar 0))) (sRet (eJn [eK (.str "#"),e1 fmtD (eVar 3)])) (sSkip)))
    (sRet (eBM "dict" dgetD (eVar 2) (aCons (eVar 0) (aCons (eVar 0) (aNil)))))
def m_form_by (F:Nat→FN):SD:=
    sSeq (sAsg (eVar 0) (gTup [3,4,5]))
    (sSeq (sIf (tOfE (e2 eqD (eVar 3) (eK (.str "num")))) (sRet (eN strD (aCons (eVar 4) (aNil)))) (sSkip))
    (sSeq (sIf (tOfE (e2 eqD (eVar 3) (eK (.str "name")))) (sRet (eN (callK (F 3) []) (aCons (eVar 4) (aCons (eVar 1) (aCons (eVar 2) (aNil)))))) (sSkip))
    (sSeq (sIf (tAnd (tOfE (e2 eqD (eVar 5) (eN mkTup (aNil)))) (tOfE (e2 neD (eVar 4) (eK (.str ""))))) (sRet (eJn [eK (.str "("),e1 fmtD (eVar 3),eK (.str " "),e1 fmtD (eVar 4),eK (.str ")")])) (sSkip))
    (sSeq (sAsg (eVar 1) (gName 6))
    (sSeq (sAsg (eN mkObj (aNil)) (gName 7))
    (sSeq (sFor (iArgs enumA (aCons (eVar 5) (aNil))) (gTup [8,9]) (sSeq (sIf (tAnd (tOfE (e2 inD (eVar 3) (eK c_GIVERS))) (tOfE (e2 eqD (eVar 8) (eK (.int 1))))) (sAsg (e2 addD (eVar 1) (eN mkTup (aCons (eVar 4) (aNil)))) (gName 6)) (sSkip))
    (sExpr (eBM "list" appendD (eVar 7) (aCons (eN (callK (F 4) []) (aCons (eVar 9) (aCons (eVar 6) (aCons (eVar 2) (aNil))))) (aNil))))))
    (sSeq (sIf (tOfE (e2 inD (eVar 3) (eK c_FREE_ORDER))) (sAsg (eN sortedD (aCons (eVar 7) (aNil))) (gName 7)) (sSkip))
    (sRet (e2 addD (e2 addD (eK (.str "(")) (eBM "str" joinD (eK (.str " ")) (aCons (e2 addD (eN mkLst (aCons (eVar 3) (aNil))) (eVar 7)) (aNil)))) (eK (.str ")")))))))))))
def m_around (F:Nat→FN):SD:=
    sSeq (sAsg (eDct0) (gName 2))
    (sSeq (sAsg (eVar 0) (gName 3))
    (sSeq (sFor (iArgs enumA (aCons (eVar 1) (aNil))) (gTup [4,5]) (sSeq (sAsg (eVar 3) (gTup [6,7,8]))
    (sSeq (sIf (tAnd (tOfE (e2 inD (eVar 6) (eK c_GIVERS))) (tOfE (e2 eqD (eVar 5) (eK (.int 1))))) (sAsg (e2 addD (eK (.str "@")) (eBM "str" joinD (eK (.str ".")) (aCons (eLc (iSeq (eSl (eVar 1) (pNo) (pYes (eVar 4)))) [9] (gName 9) (tYesD) (eN strD (aCons (eVar 9) (aNil)))) (aNil)))) (gSub (eVar 2) (eVar 7))) (sSkip))
    (sAsg (e2 ixD (eVar 8) (eVar 5)) (gName 3)))))
    (sRet (e1 frzD (eVar 2)))))
def m_form_at (F:Nat→FN):SD:=
    sSeq (sAsg (eN (callK (F 2) []) (aCons (eVar 0) (aCons (eVar 1) (aNil)))) (gName 2))
    (sRet (eN (callK (F 4) []) (aCons (eVar 2) (aCons (eN mkTup (aNil)) (aCons (eN (callK (F 5) []) (aCons (eVar 0) (aCons (eVar 1) (aNil)))) (aNil))))))
def m_form_of (F:Nat→FN):SD:=
    sRet (eN (callK (F 4) []) (aCons (eVar 0) (aCons (eN mkTup (aNil)) (aCons (eDic0) (aNil)))))
def m_are_alike (F:Nat→FN):SD:=
    sRet (e2 eqD (eN (callK (F 7) []) (aCons (eVar 0) (aNil))) (eN (callK (F 7) []) (aCons (eVar 1) (aNil))))
def m_same_at (F:Nat→FN):SD:=
    sSeq (sAsg (eN (callK (F 6) []) (aCons (eVar 0) (aCons (eVar 1) (aNil)))) (gName 3))
    (sRet (e2 eqD (eVar 3) (eN (callK (F 6) []) (aCons (eVar 0) (aCons (eVar 2) (aNil))))))
def m_same_runs (F:Nat→FN):SD:=
    sSeq (sAsg (eLcx (iSeq (eVar 1)) [4] (gName 4) (tYesD) (eN (callK (F 6) []) (aCons (eVar 0) (aCons (eVar 4) (aNil))))) (gName 3))
    (sRet (e2 eqD (eVar 3) (eLcx (iSeq (eVar 2)) [4] (gName 4) (tYesD) (eN (callK (F 6) []) (aCons (eVar 0) (aCons (eVar 4) (aNil)))))))
def m_same_heaps (F:Nat→FN):SD:=
    sSeq (sAsg (eN sortedD (aCons (eLcx (iSeq (eVar 1)) [4] (gName 4) (tYesD) (eN (callK (F 6) []) (aCons (eVar 0) (aCons (eVar 4) (aNil))))) (aNil))) (gName 3))
    (sRet (e2 eqD (eVar 3) (eN sortedD (aCons (eLcx (iSeq (eVar 2)) [4] (gName 4) (tYesD) (eN (callK (F 6) []) (aCons (eVar 0) (aCons (eVar 4) (aNil))))) (aNil)))))
def m_law_purse (F:Nat→FN):SD:=
    sSeq (sPar [1,2] (aCons (eK (.int 7)) (aCons (eN mkObj (aNil)) (aNil))))
    (sSeq (sFor (iSeq (eSlS (eVar 0) (pNo) (pYes (eK (.int 63))))) (gName 3) (sSeq (sAsg (e2 modD (e2 addD (e2 addD (e2 mulD (eVar 1) (eK (.int 1000003))) (e2 modD (eVar 3) (eK (.int 2305843009213693951)))) (eK (.int 12345))) (eK (.int 2305843009213693951))) (gName 1))
    (sIf (tOfE (e2 geD (eN absD (aCons (eVar 3) (aNil))) (e2 powD (eK (.int 10)) (eK (.int 18))))) (sExpr (eBM "list" appendD (eVar 2) (aCons (e2 modD (eN absD (aCons (eVar 3) (aNil))) (e2 mulD (e2 powD (eK (.int 10)) (eK (.int 60))) (e2 powD (eK (.int 10)) (eK (.int 60))))) (aNil)))) (sSkip))))
    (sRet (eN mkObj (aCons (eVar 2) (aCons (eVar 1) (aCons (eK (.int 0)) (aNil)))))))
def m_law_pick (F:Nat→FN):SD:=
    sSeq (sWhile (tAnd (tOfE (e2 ne0D (e2 ixD (eVar 0) (eK (.int 0))) (eN mkLst (aNil)))) (tOfE (e2 eqD (e2 ixD (e2 ixD (eVar 0) (eK (.int 0))) (eK (.int 0))) (eK (.int 0))))) (sExpr (eBM "list" popD (e2 ixD (eVar 0) (eK (.int 0))) (aCons (eK (.int 0)) (aNil)))) fuel)
    (sSeq (sIf (tOfE (e2 ne0D (e2 ixD (eVar 0) (eK (.int 0))) (eN mkLst (aNil)))) (sSeq (sAsg (e2 modD (e2 ixD (e2 ixD (eVar 0) (eK (.int 0))) (eK (.int 0))) (eVar 1)) (gName 2))
    (sSeq (sAsg (e2 fdivD (e2 ixD (e2 ixD (eVar 0) (eK (.int 0))) (eK (.int 0))) (eVar 1)) (gSub (e2 ixD (eVar 0) (eK (.int 0))) (eK (.int 0))))
    (sRet (eVar 2)))) (sSkip))
    (sSeq (sAsg (e2 addD (e2 ixD (eVar 0) (eK (.int 2))) (eK (.int 1))) (gSub (eVar 0) (eK (.int 2))))
    (sSeq (sAsg (e2 ixD (eVar 0) (eK (.int 2))) (gName 3))
    (sSeq (sAsg (e2 ixD (eN mkLst (aCons (eK (.int 2147483629)) (aCons (eK (.int 2147483587)) (aCons (eK (.int 2147483579)) (aCons (eK (.int 2147483563)) (aCons (eK (.int 2147483549)) (aCons (eK (.int 2147483543)) (aCons (eK (.int 2147483497)) (aNil))))))))) (e2 modD (eVar 3) (eK (.int 7)))) (gName 4))
    (sSeq (sAsg (e2 modD (e2 addD (e2 ixD (eVar 0) (eK (.int 1))) (e2 mulD (eK (.int 65537)) (eVar 3))) (eK (.int 2147483647))) (gName 5))
    (sSeq (sAsg (e2 mulD (e2 modD (e2 powD (eVar 5) (eK (.int 5))) (eK (.int 2147483647))) (e2 addD (e2 mulD (eK (.int 2)) (eVar 3)) (eK (.int 1)))) (gName 6))
    (sRet (e2 modD (e2 fdivD (e2 modD (e2 addD (eVar 6) (e2 fdivD (e2 ixD (eVar 0) (eK (.int 1))) (eK (.int 2147483647)))) (eVar 4)) (eK (.int 61))) (eVar 1)))))))))
def m_law_thing (F:Nat→FN):SD:=
    sSeq (sPar [4,5] (aCons (eN (callK (F 13) []) (aCons (eVar 0) (aCons (eK (.int 14)) (aNil)))) (aCons (eN mkLst (aCons (eK (.str "x")) (aCons (eK (.str "y")) (aCons (eK (.str "ab")) (aCons (eK (.str "zzzzzzzz")) (aNil)))))) (aNil))))
    (sSeq (sIf (tOr (tOfE (e2 ltD (eVar 1) (eK (.int 2)))) (tOr (tOfE (e2 ltD (e2 ixD (eVar 2) (eK (.int 0))) (eK (.int 6)))) (tOfE (e2 ltD (eVar 4) (eK (.int 2)))))) (sSeq (sIf (tOfE (e2 eqD (eN (callK (F 13) []) (aCons (eVar 0) (aCons (eK (.int 3)) (aNil)))) (eK (.int 0)))) (sRet (eN mkTup (aCons (eK (.str "num")) (aCons (e2 ixD (eN mkLst (aCons (eK (.int 0)) (aCons (eK (.int 1)) (aCons (eK (.int 2)) (aCons (eK (.int 9972)) (aNil)))))) (eN (callK (F 13) []) (aCons (eVar 0) (aCons (eK (.int 4)) (aNil))))) (aCons (eN mkTup (aNil)) (aNil)))))) (sSkip))
    (sSeq (sAsg (e2 addD (eVar 5) (e2 mulD (eN listD (aCons (eVar 3) (aNil))) (eK (.int 2)))) (gName 6))
    (sRet (eN mkTup (aCons (eK (.str "name")) (aCons (e2 ixD (eVar 6) (eN (callK (F 13) []) (aCons (eVar 0) (aCons (eN lenD (aCons (eVar 6) (aNil))) (aNil))))) (aCons (eN mkTup (aNil)) (aNil)))))))) (sSkip))
    (sSeq (sIf (tOfE (e2 gtD (eVar 4) (eK (.int 10)))) (sSeq (sPar [7,8] (aCons (e2 ixD (eN mkLst (aCons (eK (.str "let")) (aCons (eK (.str "each")) (aNil)))) (eN (callK (F 13) []) (aCons (eVar 0) (aCons (eK (.int 2)) (aNil))))) (aCons (e2 ixD (eVar 5) (eN (callK (F 13) []) (aCons (eVar 0) (aCons (eK (.int 4)) (aNil))))) (aNil))))
    (sSeq (sAsg (e2 subD (e2 ixD (eVar 2) (eK (.int 0))) (eK (.int 2))) (gSub (eVar 2) (eK (.int 0))))
    (sSeq (sAsg (eN (callK (F 14) []) (aCons (eVar 0) (aCons (e2 subD (eVar 1) (eK (.int 1))) (aCons (eVar 2) (aCons (eVar 3) (aNil)))))) (gName 9))
    (sRet (eN mkTup (aCons (eVar 7) (aCons (eVar 8) (aCons (eN mkTup (aCons (eVar 9) (aCons (eN (callK (F 14) []) (aCons (eVar 0) (aCons (e2 subD (eVar 1) (eK (.int 1))) (aCons (eVar 2) (aCons (e2 addD (eVar 3) (eN mkTup (aCons (eVar 8) (aNil)))) (aNil)))))) (aNil)))) (aNil))))))))) (sSkip))
    (sSeq (sPar [7,10] (aCons (e2 ixD (eN mkLst (aCons (eK (.str "plus")) (aCons (eK (.str "times")) (aCons (eK (.str "most")) (aNil))))) (eN (callK (F 13) []) (aCons (eVar 0) (aCons (eK (.int 3)) (aNil))))) (aCons (e2 addD (eK (.int 1)) (eN (callK (F 13) []) (aCons (eVar 0) (aCons (e2 ixD (eN mkLst (aCons (eK (.int 3)) (aCons (eK (.int 6)) (aNil)))) (eN intD (aCons (e2 eqD (eVar 4) (eK (.int 5))) (aNil)))) (aNil))))) (aNil))))
    (sSeq (sIf (tOfE (e2 gtD (eVar 4) (eK (.int 5)))) (sPar [7,10] (aCons (eK (.str "row")) (aCons (eN (callK (F 13) []) (aCons (eVar 0) (aCons (e2 ixD (eN mkLst (aCons (eK (.int 5)) (aCons (eK (.int 7)) (aNil)))) (eN intD (aCons (e2 eqD (eVar 4) (eK (.int 7))) (aNil)))) (aNil)))) (aNil)))) (sSkip))
    (sSeq (sIf (tOfE (e2 gtD (eVar 4) (eK (.int 7)))) (sAsg (e2 ixD (eN mkLst (aCons (eN mkTup (aCons (eK (.str "say")) (aCons (eK (.int 1)) (aNil)))) (aCons (eN mkTup (aCons (eK (.str "less")) (aCons (eK (.int 2)) (aNil)))) (aCons (eN mkTup (aCons (eK (.str "below")) (aCons (eK (.int 2)) (aNil)))) (aCons (eN mkTup (aCons (eK (.str "if")) (aCons (eK (.int 3)) (aNil)))) (aNil)))))) (eN (callK (F 13) []) (aCons (eVar 0) (aCons (eK (.int 4)) (aNil))))) (gTup [7,10])) (sSkip))
    (sSeq (sAsg (e2 subD (e2 ixD (eVar 2) (eK (.int 0))) (eVar 10)) (gSub (eVar 2) (eK (.int 0))))
    (sRet (eN mkTup (aCons (eVar 7) (aCons (eK (.str "")) (aCons (eN tupleD (aCons (eLc (iArgs range1 (aCons (eVar 10) (aNil))) [11] (gName 11) (tYesD) (eN (callK (F 14) []) (aCons (eVar 0) (aCons (e2 subD (eVar 1) (eK (.int 1))) (aCons (eVar 2) (aCons (eVar 3) (aNil))))))) (aNil))) (aNil))))))))))))
def m_law_program (F:Nat→FN):SD:=
    sSeq (sPar [1,2] (aCons (e2 ixD (eN mkLst (aCons (eK (.int 10)) (aCons (eK (.int 5)) (aCons (eK (.int 5)) (aCons (eK (.int 4)) (aCons (eK (.int 3)) (aCons (eK (.int 6)) (aNil)))))))) (eN (callK (F 13) []) (aCons (eVar 0) (aCons (eK (.int 6)) (aNil))))) (aCons (e2 ixD (eN mkLst (aCons (eK (.int 8)) (aCons (eK (.int 20)) (aCons (eK (.int 40)) (aCons (eK (.int 59)) (aNil)))))) (eN (callK (F 13) []) (aCons (eVar 0) (aCons (eK (.int 4)) (aNil))))) (aNil))))
    (sRet (eN (callK (F 14) []) (aCons (eVar 0) (aCons (eVar 1) (aCons (eN mkObj (aCons (eVar 2) (aNil))) (aCons (eN mkTup (aNil)) (aNil)))))))
def m_law_free (F:Nat→FN):SD:=
    sSeq (sIf (tOfE (e2 eqD (e2 ixD (eVar 0) (eK (.int 0))) (eK (.str "name")))) (sRet (eN mkLst (aCons (e2 ixD (eVar 0) (eK (.int 1))) (aNil)))) (sSkip))
    (sSeq (sAsg (eN mkLst (aNil)) (gName 1))
    (sSeq (sFor (iArgs enumA (aCons (e2 ixD (eVar 0) (eK (.int 2))) (aNil))) (gTup [2,3]) (sSeq (sAsg (eN (callK (F 16) []) (aCons (eVar 3) (aNil))) (gName 4))
    (sAsg (e2 addD (eVar 1) (eLc (iSeq (eVar 4)) [5] (gName 5) (tNot (tAnd (tOfE (e2 inD (e2 ixD (eVar 0) (eK (.int 0))) (eN mkTup (aCons (eK (.str "let")) (aCons (eK (.str "each")) (aNil)))))) (tAnd (tOfE (e2 eqD (eVar 2) (eK (.int 1)))) (tOfE (e2 eqD (eVar 5) (e2 ixD (eVar 0) (eK (.int 1)))))))) (eVar 5))) (gName 1))))
    (sRet (eVar 1))))
def m_law_turned (F:Nat→FN):SD:=
    sSeq (sIf (tOfE (e2 eqD (e2 ixD (eVar 1) (eK (.int 0))) (eK (.str "name")))) (sRet (eN mkTup (aCons (eK (.str "name")) (aCons (eBM "dict" dgetD (eVar 2) (aCons (e2 ixD (eVar 1) (eK (.int 1))) (aCons (e2 ixD (eVar 1) (eK (.int 1))) (aNil)))) (aCons (eN mkTup (aNil)) (aNil)))))) (sSkip))
    (sSeq (sIf (tOfE (e2 inD (e2 ixD (eVar 1) (eK (.int 0))) (eN mkTup (aCons (eK (.str "let")) (aCons (eK (.str "each")) (aNil)))))) (sSeq (sAsg (eLc (iSeq (eN (callK (F 16) []) (aCons (e2 ixD (e2 ixD (eVar 1) (eK (.int 2))) (eK (.int 1))) (aNil)))) [4] (gName 4) (tOfE (e2 neD (eVar 4) (e2 ixD (eVar 1) (eK (.int 1))))) (eBM "dict" dgetD (eVar 2) (aCons (eVar 4) (aCons (eVar 4) (aNil))))) (gName 3))
    (sSeq (sAsg (eLc (iSeq (eN mkLst (aCons (eK (.str "x")) (aCons (eK (.str "y")) (aCons (eK (.str "ab")) (aCons (eK (.str "zzzzzzzz")) (aCons (eK (.str "q")) (aCons (eK (.str "abc")) (aCons (eK (.str "y")) (aCons (eK (.str "w")) (aNil))))))))))) [4] (gName 4) (tOfE (e2 notInD (eVar 4) (eVar 3))) (eVar 4)) (gName 5))
    (sSeq (sAsg (eN dictO (aCons (eVar 2) (aNil))) (gName 6))
    (sSeq (sAsg (e2 ixD (eVar 5) (eN (callK (F 13) []) (aCons (eVar 0) (aCons (eN lenD (aCons (eVar 5) (aNil))) (aNil))))) (gSub (eVar 6) (e2 ixD (eVar 1) (eK (.int 1)))))
    (sSeq (sAsg (eN mkTup (aCons (eN (callK (F 17) []) (aCons (eVar 0) (aCons (e2 ixD (e2 ixD (eVar 1) (eK (.int 2))) (eK (.int 0))) (aCons (eVar 2) (aNil))))) (aCons (eN (callK (F 17) []) (aCons (eVar 0) (aCons (e2 ixD (e2 ixD (eVar 1) (eK (.int 2))) (eK (.int 1))) (aCons (eVar 6) (aNil))))) (aNil)))) (gName 7))
    (sRet (eN mkTup (aCons (e2 ixD (eVar 1) (eK (.int 0))) (aCons (e2 ixD (eVar 6) (e2 ixD (eVar 1) (eK (.int 1)))) (aCons (eVar 7) (aNil))))))))))) (sSkip))
    (sSeq (sAsg (eLcN (iSeq (e2 ixD (eVar 1) (eK (.int 2)))) [8] (gName 8) (tYesD) (eN (callK (F 17) []) (aCons (eVar 0) (aCons (eVar 8) (aCons (eVar 2) (aNil)))))) (gName 7))
    (sSeq (sIf (tOfE (e2 inD (e2 ixD (eVar 1) (eK (.int 0))) (eN mkTup (aCons (eK (.str "plus")) (aCons (eK (.str "times")) (aCons (eK (.str "most")) (aNil))))))) (sSeq (sPar [9,7] (aCons (eVar 7) (aCons (eN mkObj (aNil)) (aNil))))
    (sFrz 9 (sFor (iSeq (eVar 9)) (gName 8) (sExpr (eBM "list" insertD (eVar 7) (aCons (eN (callK (F 13) []) (aCons (eVar 0) (aCons (e2 addD (eN lenD (aCons (eVar 7) (aNil))) (eK (.int 1))) (aNil)))) (aCons (eVar 8) (aNil)))))))) (sSkip))
    (sRet (eN mkTup (aCons (e2 ixD (eVar 1) (eK (.int 0))) (aCons (e2 ixD (eVar 1) (eK (.int 1))) (aCons (eN tupleD (aCons (eVar 7) (aNil))) (aNil)))))))))
def m_law_places (F:Nat→FN):SD:=
    sSeq (sAsg (eN mkLst (aCons (eN mkTup (aNil)) (aNil))) (gName 1))
    (sSeq (sFor (iArgs enumA (aCons (e2 ixD (eVar 0) (eK (.int 2))) (aNil))) (gTup [2,3]) (sAsg (e2 addD (eVar 1) (eLc (iSeq (eN (callK (F 18) []) (aCons (eVar 3) (aNil)))) [4] (gName 4) (tYesD) (e2 addD (eN mkTup (aCons (eVar 2) (aNil))) (eVar 4)))) (gName 1)))
    (sRet (eVar 1)))
def m_law_at (F:Nat→FN):SD:=
    sSeq (sFor (iSeq (eVar 1)) (gName 2) (sAsg (e2 ixD (e2 ixD (eVar 0) (eK (.int 2))) (eVar 2)) (gName 0)))
    (sRet (eVar 0))
def m_law_put (F:Nat→FN):SD:=
    sSeq (sIf (tOfE (e2 eqD (eVar 1) (eN mkTup (aNil)))) (sRet (eVar 2)) (sSkip))
    (sSeq (sAsg (eN listO (aCons (e2 ixD (eVar 0) (eK (.int 2))) (aNil))) (gName 3))
    (sSeq (sAsg (eN (callK (F 20) []) (aCons (e2 ixD (eVar 3) (e2 ixD (eVar 1) (eK (.int 0)))) (aCons (eSl (eVar 1) (pYes (eK (.int 1))) (pNo)) (aCons (eVar 2) (aNil))))) (gSub (eVar 3) (e2 ixD (eVar 1) (eK (.int 0)))))
    (sRet (eN mkTup (aCons (e2 ixD (eVar 0) (eK (.int 0))) (aCons (e2 ixD (eVar 0) (eK (.int 1))) (aCons (eN tupleD (aCons (eVar 3) (aNil))) (aNil))))))))
def m_law_count (F:Nat→FN):SD:=
    sRet (e2 addD (eK (.int 1)) (eN sumD (aCons (eLc (iSeq (e2 ixD (eVar 0) (eK (.int 2)))) [1] (gName 1) (tYesD) (eN (callK (F 21) []) (aCons (eVar 1) (aNil)))) (aNil))))
def m_law_deep (F:Nat→FN):SD:=
    sRet (e2 addD (eK (.int 1)) (eN maxD (aCons (e2 addD (eN mkLst (aCons (eK (.int 0)) (aNil))) (eLc (iSeq (e2 ixD (eVar 0) (eK (.int 2)))) [1] (gName 1) (tYesD) (eN (callK (F 22) []) (aCons (eVar 1) (aNil))))) (aNil))))
def m_law_copied (F:Nat→FN):SD:=
    sSeq (sFor (iArgs range1 (aCons (eN (callK (F 13) []) (aCons (eVar 0) (aCons (eK (.int 4)) (aNil)))) (aNil))) (gName 2) (sSeq (sAsg (eN (callK (F 18) []) (aCons (eVar 1) (aNil))) (gName 3))
    (sSeq (sPar [4,5] (aCons (e2 ixD (eVar 3) (eN (callK (F 13) []) (aCons (eVar 0) (aCons (eN lenD (aCons (eVar 3) (aNil))) (aNil))))) (aCons (e2 ixD (eVar 3) (eN (callK (F 13) []) (aCons (eVar 0) (aCons (eN lenD (aCons (eVar 3) (aNil))) (aNil))))) (aNil))))
    (sSeq (sAsg (eN (callK (F 19) []) (aCons (eVar 1) (aCons (eVar 4) (aNil)))) (gName 6))
    (sSeq (sIf (tOfE (e2 eqD (eN (callK (F 13) []) (aCons (eVar 0) (aCons (eK (.int 2)) (aNil)))) (eK (.int 0)))) (sAsg (eN (callK (F 17) []) (aCons (eVar 0) (aCons (eVar 6) (aCons (eDic0) (aNil))))) (gName 6)) (sSkip))
    (sSeq (sAsg (eN (callK (F 20) []) (aCons (eVar 1) (aCons (eVar 5) (aCons (eVar 6) (aNil))))) (gName 7))
    (sIf (tAnd (tOfE (e2 leD (eN (callK (F 21) []) (aCons (eVar 7) (aNil))) (eK (.int 60)))) (tOfE (e2 leD (eN (callK (F 22) []) (aCons (eVar 7) (aNil))) (eK (.int 10))))) (sAsg (eVar 7) (gName 1)) (sSkip))))))))
    (sRet (eVar 1))
def m_law_odd (F:Nat→FN):SD:=
    sSeq (sAsg (eN mkLst (aCons (e2 addD (eVar 1) (e2 repTD (eN mkTup (aCons (eK (.int 0)) (aNil))) (eK (.int 11)))) (aCons (e2 addD (eVar 1) (eN mkTup (aCons (e1 negD (eK (.int 1))) (aNil)))) (aCons (eN mkTup (aCons (eK (.int 7)) (aNil))) (aCons (eN mkTup (aCons (eK (.bl true)) (aNil))) (aCons (eN mkTup (aCons (eK (.str "0")) (aNil))) (aCons (eK .non) (aCons (eK (.int 0)) (aCons (eK (.str "0")) (aCons (eN mkLst (aNil)) (aCons (eN listD (aCons (eVar 1) (aNil))) (aCons (eDic0) (aNil))))))))))))) (gName 2))
    (sSeq (sAsg (e2 addD (eVar 2) (eN mkLst (aCons (eN mkTup (aCons (eK .non) (aNil))) (aCons (eN mkTup (aCons (eN mkTup (aNil)) (aNil))) (aCons (eK (.bl true)) (aNil)))))) (gName 2))
    (sRet (e2 ixD (eVar 2) (eN (callK (F 13) []) (aCons (eVar 0) (aCons (eN lenD (aCons (eVar 2) (aNil))) (aNil)))))))
def m_law_told (F:Nat→FN) (t:LamTok) (den:List D→Store→R D):SD:=
    sSeq (sAsg (eN mkTup (aCons (eK .non) (aCons (eK .non) (aNil)))) (gTup [1,2]))
    (sSeq (sTry (sAsg (eLam 0 t den) (gName 1)) [⟨["NoPlace"],[],(some 3),sAsg (eVar 3) (gName 2)⟩])
    (sSeq (sIf (tOfE (e2 isNonD (eVar 2) (eK .non))) (sRet (eN reprD (aCons (eVar 1) (aNil)))) (sSkip))
    (sSeq (sAsg (eOr (e1 (isxD [] ["NoPlace"]) (eVar 2)) (eNot (e1 (isxD ["NoPlace"] []) (eVar 2)))) (gName 4))
    (sRet (eIf (tOr (tTruth (eVar 4)) (tNot (tTruth (e1 (isxD ["NoPlace"] []) (eVar 2))))) (eK (.str "other")) (e2 addD (eK (.str "none: ")) (eN reprD (aCons (e1 (xfD ["NoPlace"] "place") (eVar 2)) (aNil)))))))))
def m_law_is_none (F:Nat→FN):SD:=
    sRet (e2 notInD (eN reprD (aCons (eVar 0) (aNil))) (eLc (iSeq (eVar 1)) [2] (gName 2) (tYesD) (eN reprD (aCons (eVar 2) (aNil)))))
def m_law (F:Nat→FN):SD:=
    sSeq (sAsg (eN (callK (F 12) []) (aCons (eVar 0) (aNil))) (gName 1))
    (sSeq (sFor (iArgs range1 (aCons (eN maxD (aCons (eK (.int 1)) (aCons (eN minD (aCons (eK (.int 3)) (aCons (eN lenD (aCons (eVar 0) (aNil))) (aNil)))) (aNil)))) (aNil))) (gName 2) (sSeq (sAsg (eN (callK (F 23) []) (aCons (eVar 1) (aCons (eN (callK (F 15) []) (aCons (eVar 1) (aNil))) (aNil)))) (gName 3))
    (sSeq (sAsg (eN (callK (F 18) []) (aCons (eVar 3) (aNil))) (gName 4))
    (sSeq (sAsg (eLcN (iArgs range1 (aCons (eK (.int 4)) (aNil))) [6] (gName 6) (tYesD) (e2 ixD (eVar 4) (eN (callK (F 13) []) (aCons (eVar 1) (aCons (eN lenD (aCons (eVar 4) (aNil))) (aNil)))))) (gName 5))
    (sSeq (sFor (iArgs range1 (aCons (eN (callK (F 13) []) (aCons (eVar 1) (aCons (eK (.int 3)) (aNil)))) (aNil))) (gName 7) (sSeq (sAsg (eN (callK (F 13) []) (aCons (eVar 1) (aCons (eK (.int 4)) (aNil)))) (gName 8))
    (sAsg (eN (callK (F 24) []) (aCons (eVar 1) (aCons (e2 ixD (eVar 4) (eN (callK (F 13) []) (aCons (eVar 1) (aCons (eN lenD (aCons (eVar 4) (aNil))) (aNil))))) (aNil)))) (gSub (eVar 5) (eVar 8)))))
    (sSeq (sFrz 5 (sAsg (eN mkTup (aCons (eN tupleD (aCons (eSl (eVar 5) (pNo) (pYes (eK (.int 2)))) (aNil))) (aCons (eN tupleD (aCons (eSl (eVar 5) (pYes (eK (.int 2))) (pNo)) (aNil))) (aNil)))) (gTup [9,10])))
    (sSeq (sAsg (eLc (iSeq (e1 frzD (eVar 5))) [12] (gName 12) (tTruth (eN (callK (F 26) []) (aCons (eVar 12) (aCons (eVar 4) (aNil))))) (eN reprD (aCons (eVar 12) (aNil)))) (gName 11))
    (sSeq (sAsg (eN mkObj (aCons (eLamCall "law" ((("law" :Str)++ ".<locals>.")++ "<lambda>") 5 (m_law_told F) [3,9,10] (eN (callK (F 10) []) (aCons (eVar 3) (aCons (eVar 9) (aCons (eVar 10) (aNil)))))) (aNil))) (gName 13))
    (sSeq (sExpr (eBM "list" appendD (eVar 13) (aCons (eLamCall "law" ((("law" :Str)++ ".<locals>.")++ "<lambda>") 5 (m_law_told F) [3,9,10] (eN (callK (F 11) []) (aCons (eVar 3) (aCons (eVar 9) (aCons (eVar 10) (aNil)))))) (aNil))))
    (sSeq (sAsg (eN mkObj (aCons (eLamCall "law" ((("law" :Str)++ ".<locals>.")++ "<lambda>") 5 (m_law_told F) [3,9,10] (eKw (kwK (F 10) 0 3 kbd_same_runs_0_others_ones_program_g) aNil (aCons (eVar 10) (aCons (eVar 9) (aCons (eVar 3) (aNil)))))) (aNil))) (gName 14))
    (sSeq (sExpr (eBM "list" appendD (eVar 14) (aCons (eLamCall "law" ((("law" :Str)++ ".<locals>.")++ "<lambda>") 5 (m_law_told F) [3,9,10] (eKw (kwK (F 11) 0 3 kbd_same_heaps_0_ones_others_program_g) aNil (aCons (eVar 9) (aCons (eVar 10) (aCons (eVar 3) (aNil)))))) (aNil))))
    (sSeq (sIf (tOr (tOfE (e2 neD (eVar 13) (eVar 14))) (tAnd (tOfE (e2 neD (eVar 11) (eN mkLst (aNil)))) (tOfE (e2 neD (eVar 13) (e2 mulD (eN mkLst (aCons (e2 addD (eK (.str "none: ")) (e2 ixD (eVar 11) (eK (.int 0)))) (aNil))) (eK (.int 2))))))) (sRet (eK (.bl false))) (sSkip))
    (sSeq (sFor (iSeq (eN mkTup (aCons (eN mkTup (aCons (e2 ixD (eVar 5) (eK (.int 0))) (aCons (e2 ixD (eVar 5) (eK (.int 3))) (aNil)))) (aCons (eN mkTup (aCons (e2 ixD (eVar 5) (eK (.int 2))) (aCons (e2 ixD (eVar 5) (eK (.int 1))) (aNil)))) (aNil))))) (gTup [15,16]) (sSeq (sAsg (eLc (iSeq (eN mkTup (aCons (eVar 15) (aCons (eVar 16) (aNil))))) [12] (gName 12) (tTruth (eN (callK (F 26) []) (aCons (eVar 12) (aCons (eVar 4) (aNil))))) (eN reprD (aCons (eVar 12) (aNil)))) (gName 11))
    (sSeq (sAsg (eLamCall "law" ((("law" :Str)++ ".<locals>.")++ "<lambda>") 5 (m_law_told F) [3,15,16] (eN (callK (F 9) []) (aCons (eVar 3) (aCons (eVar 15) (aCons (eVar 16) (aNil)))))) (gName 13))
    (sSeq (sIf (tOfE (e2 neD (eLamCall "law" ((("law" :Str)++ ".<locals>.")++ "<lambda>") 5 (m_law_told F) [3,15,16] (eKw (kwK (F 9) 0 3 kbd_same_at_0_other_one_program_g) aNil (aCons (eVar 16) (aCons (eVar 15) (aCons (eVar 3) (aNil)))))) (eVar 13))) (sRet (eK (.bl false))) (sSkip))
    (sIf (tOr (tAnd (tOfE (e2 neD (eVar 11) (eN mkLst (aNil)))) (tOfE (e2 neD (eVar 13) (e2 addD (eK (.str "none: ")) (e2 ixD (eVar 11) (eK (.int 0))))))) (tAnd (tOfE (e2 eqD (eVar 11) (eN mkLst (aNil)))) (tOfE (e2 notInD (eVar 13) (eN mkTup (aCons (eK (.str "True")) (aCons (eK (.str "False")) (aNil)))))))) (sRet (eK (.bl false))) (sSkip))))))
    (sIf (tOr (tOfE (e2 neD (eKw (kwK (F 7) 0 1 kbd_form_of_0_program_g) aNil (aCons (eVar 3) (aNil))) (eN (callK (F 7) []) (aCons (eVar 3) (aNil))))) (tOfE (e2 notTrD (eKw (kwK (F 8) 0 2 kbd_are_alike_0_other_one_g) aNil (aCons (eVar 3) (aCons (eVar 3) (aNil)))) (eK (.bl true))))) (sRet (eK (.bl false))) (sSkip)))))))))))))))
    (sRet (eK (.bl true))))
def tab (F:Nat→FN):List FN:= [run 1 1 (m_is_whole F),
 run 3 3 (m_is_number F),
 run 2 4 (m_at F),
 run 3 5 (m_name_form F),
 run 3 10 (m_form_by F),
 run 2 10 (m_around F),
 run 2 3 (m_form_at F),
 run 1 1 (m_form_of F),
 run 2 2 (m_are_alike F),
 run 3 4 (m_same_at F),
 run 3 5 (m_same_runs F),
 run 3 5 (m_same_heaps F),
 run 1 4 (m_law_purse F),
 run 2 7 (m_law_pick F),
 run 4 12 (m_law_thing F),
 run 1 3 (m_law_program F),
 run 1 6 (m_law_free F),
 run 3 10 (m_law_turned F),
 run 1 5 (m_law_places F),
 run 2 3 (m_law_at F),
 run 3 4 (m_law_put F),
 run 1 2 (m_law_count F),
 run 1 2 (m_law_deep F),
 run 2 8 (m_law_copied F),
 run 2 3 (m_law_odd F),
 (fun _ _=> .bad),
 run 2 3 (m_law_is_none F),
 run 1 17 (m_law F)]
def Fs:Nat→Nat→FN
 |0,_=>fun _ _=> .bad
 |k+1,i=>(tab (Fs k)).getD i fun _ _=> .bad
theorem Fs_is_whole (k:Nat):Fs (k+1) 0=run 1 1 (m_is_whole (Fs k)):=rfl
theorem Fs_is_number (k:Nat):Fs (k+1) 1=run 3 3 (m_is_number (Fs k)):=rfl
theorem Fs_at (k:Nat):Fs (k+1) 2=run 2 4 (m_at (Fs k)):=rfl
theorem Fs_name_form (k:Nat):Fs (k+1) 3=run 3 5 (m_name_form (Fs k)):=rfl
theorem Fs_form_by (k:Nat):Fs (k+1) 4=run 3 10 (m_form_by (Fs k)):=rfl
theorem Fs_around (k:Nat):Fs (k+1) 5=run 2 10 (m_around (Fs k)):=rfl
theorem Fs_form_at (k:Nat):Fs (k+1) 6=run 2 3 (m_form_at (Fs k)):=rfl
theorem Fs_form_of (k:Nat):Fs (k+1) 7=run 1 1 (m_form_of (Fs k)):=rfl
theorem Fs_are_alike (k:Nat):Fs (k+1) 8=run 2 2 (m_are_alike (Fs k)):=rfl
theorem Fs_same_at (k:Nat):Fs (k+1) 9=run 3 4 (m_same_at (Fs k)):=rfl
theorem Fs_same_runs (k:Nat):Fs (k+1) 10=run 3 5 (m_same_runs (Fs k)):=rfl
theorem Fs_same_heaps (k:Nat):Fs (k+1) 11=run 3 5 (m_same_heaps (Fs k)):=rfl
theorem Fs_law_purse (k:Nat):Fs (k+1) 12=run 1 4 (m_law_purse (Fs k)):=rfl
theorem Fs_law_pick (k:Nat):Fs (k+1) 13=run 2 7 (m_law_pick (Fs k)):=rfl
theorem Fs_law_thing (k:Nat):Fs (k+1) 14=run 4 12 (m_law_thing (Fs k)):=rfl
theorem Fs_law_program (k:Nat):Fs (k+1) 15=run 1 3 (m_law_program (Fs k)):=rfl
theorem Fs_law_free (k:Nat):Fs (k+1) 16=run 1 6 (m_law_free (Fs k)):=rfl
theorem Fs_law_turned (k:Nat):Fs (k+1) 17=run 3 10 (m_law_turned (Fs k)):=rfl
theorem Fs_law_places (k:Nat):Fs (k+1) 18=run 1 5 (m_law_places (Fs k)):=rfl
theorem Fs_law_at (k:Nat):Fs (k+1) 19=run 2 3 (m_law_at (Fs k)):=rfl
theorem Fs_law_put (k:Nat):Fs (k+1) 20=run 3 4 (m_law_put (Fs k)):=rfl
theorem Fs_law_count (k:Nat):Fs (k+1) 21=run 1 2 (m_law_count (Fs k)):=rfl
theorem Fs_law_deep (k:Nat):Fs (k+1) 22=run 1 2 (m_law_deep (Fs k)):=rfl
theorem Fs_law_copied (k:Nat):Fs (k+1) 23=run 2 8 (m_law_copied (Fs k)):=rfl
theorem Fs_law_odd (k:Nat):Fs (k+1) 24=run 2 3 (m_law_odd (Fs k)):=rfl
theorem Fs_law_is_none (k:Nat):Fs (k+1) 26=run 2 3 (m_law_is_none (Fs k)):=rfl
theorem Fs_law (k:Nat):Fs (k+1) 27=run 1 17 (m_law (Fs k)):=rfl
end
end K18
namespace K18
open PySem L2 L3
theorem gN (i:Nat) (d:D) (env:EnvD) (S:Store):gName i d env S= .nx (env.set i (some d)) S:=rfl
theorem told_by (F:Nat→FN) (t:LamTok) (l:List D) (den:List D→Store→R D) (S:Store):lamRun 5 (m_law_told F) t l den S=(match den l S with
 | .ok d S1=>reprD [d] S1
 | .exc e S1=>if e.cls=("NoPlace" :Str) then(match((e.fs.map (·.1)).zip (e.fs.map (·.2))).lookup ("place" :Str) with
   |some d=>(reprD [d] S1).bind fun x S2=>addD (.str "none: ") x S2
   |none=> .bad) else .bad
 | .bad=> .bad):=by
 unfold lamRun m_law_told
 have h0:(sAsg (eN mkTup (aCons (eK .non) (aCons (eK .non) (aNil)))) (gTup [1,2])) [some (.lam t l),none,none,none,none] S= .nx [some (.lam t l),some .non,some .non,none,none] S:=by rfl
 simp only[Nat.reduceSub,List.replicate]
 unfold sSeq
 rw[h0]
 simp only []
 have h1:eLam 0 t den [some (.lam t l),some .non,some .non,none,none] S=den l S:=by
  unfold eLam
  simp
 unfold sTry
 simp only[sAsg]
 rw[h1]
 cases hd:den l S with
 |bad=>rfl
 |ok d S1=>
  simp only[R.toS,gN,List.set_cons_succ,List.set_cons_zero]
  simp only[sIf,tOfE,e2,e1,eVar,eK,List.getElem?_cons_succ,List.getElem?_cons_zero,isNonD,sRet,eN,aCons,aNil,R.bind,R.toS]
  cases reprD [d] S1<;>rfl
 |exc e S1=>
  simp only[R.toS,hdsD,List.mem_cons,List.not_mem_nil,or_false]
  by_cases hc:e.cls=("NoPlace" :Str)
  ·rw[if_pos hc,if_pos hc]
   obtain⟨c,fs⟩:=e
   subst hc
   simp only[nameD,Ex.d,gN,sAsg,eVar,List.set_cons_succ,List.set_cons_zero,List.getElem?_cons_succ,List.getElem?_cons_zero,R.toS,SR.past]
   simp only[L3.sIf,L3.tOfE,L3.tOr,L3.tNot,L3.tTruth,L3.truthD,L3.tAnd,eOr,eNot,eIf,isxD,xfD,e2,e1,eVar,eK,List.getElem?_cons_succ,List.getElem?_cons_zero,isNonD,sRet,eN,aCons,aNil,R.bind,R.toS,sAsg,gN,sSkip,List.mem_cons,List.not_mem_nil,if_true,if_false,or_false,List.set_cons_succ,List.set_cons_zero,Bool.not_true,Bool.not_false]
   cases List.lookup ("place" :Str) ((fs.map (·.1)).zip (fs.map (·.2))) with
   |none=>rfl
   |some d=>
    simp only []
    cases reprD [d] S1 with
    |ok x S2=>simp only [];cases addD (.str "none: ") x S2<;>rfl
    |exc e S2=>rfl
    |bad=>rfl
  ·rw[if_neg hc,if_neg hc]
   rfl
theorem any_law_told (F:Nat→FN):LamAny 5 (m_law_told F):=fun t l den S=>by rw[told_by,told_by]
end K18
namespace K18
open PySem PySem.Spec PyProof.Rows L2 L3
def topS (i:Nat):Stmt:=PySem.Challenge.pw_holepatterns_k18_no_places_and_names.main.body.getD i (.Pass ⟨0,0,0,0⟩)
abbrev s_is_whole:Stmt:=topS 9
abbrev N_is_whole:List Str:= ["thing"]
theorem sc_is_whole:FnScope N_is_whole ["thing"] (defScope s_is_whole):=⟨rfl,rfl,rfl,by decide +kernel,rfl,by decide +kernel,by decide +kernel⟩
abbrev s_is_number:Stmt:=topS 10
abbrev N_is_number:List Str:= ["thing","low","high"]
theorem sc_is_number:FnScope N_is_number ["thing","low","high"] (defScope s_is_number):=⟨rfl,rfl,rfl,by decide +kernel,rfl,by decide +kernel,by decide +kernel⟩
abbrev s_at:Stmt:=topS 12
abbrev N_at:List Str:= ["program","place","thing","number"]
theorem sc_at:FnScope N_at ["program","place"] (defScope s_at):=⟨rfl,rfl,rfl,by decide +kernel,rfl,by decide +kernel,by decide +kernel⟩
abbrev s_name_form:Stmt:=topS 16
abbrev N_name_form:List Str:= ["name","given","outer","k","one"]
theorem sc_name_form:FnScope N_name_form ["name","given","outer"] (defScope s_name_form):=⟨rfl,rfl,rfl,by decide +kernel,rfl,by decide +kernel,by decide +kernel⟩
abbrev s_form_by:Stmt:=topS 17
abbrev N_form_by:List Str:= ["thing","given","outer","word","mark","parts","within","forms","k","part"]
theorem sc_form_by:FnScope N_form_by ["thing","given","outer"] (defScope s_form_by):=⟨rfl,rfl,rfl,by decide +kernel,rfl,by decide +kernel,by decide +kernel⟩
abbrev s_around:Stmt:=topS 18
abbrev N_around:List Str:= ["program","place","found","here","k","number","word","mark","parts","one"]
theorem sc_around:FnScope N_around ["program","place"] (defScope s_around):=⟨rfl,rfl,rfl,by decide +kernel,rfl,by decide +kernel,by decide +kernel⟩
abbrev s_form_at:Stmt:=topS 19
abbrev N_form_at:List Str:= ["program","place","thing"]
theorem sc_form_at:FnScope N_form_at ["program","place"] (defScope s_form_at):=⟨rfl,rfl,rfl,by decide +kernel,rfl,by decide +kernel,by decide +kernel⟩
abbrev s_form_of:Stmt:=topS 20
abbrev N_form_of:List Str:= ["program"]
theorem sc_form_of:FnScope N_form_of ["program"] (defScope s_form_of):=⟨rfl,rfl,rfl,by decide +kernel,rfl,by decide +kernel,by decide +kernel⟩
abbrev s_are_alike:Stmt:=topS 21
abbrev N_are_alike:List Str:= ["one","other"]
theorem sc_are_alike:FnScope N_are_alike ["one","other"] (defScope s_are_alike):=⟨rfl,rfl,rfl,by decide +kernel,rfl,by decide +kernel,by decide +kernel⟩
abbrev s_same_at:Stmt:=topS 23
abbrev N_same_at:List Str:= ["program","one","other","first"]
theorem sc_same_at:FnScope N_same_at ["program","one","other"] (defScope s_same_at):=⟨rfl,rfl,rfl,by decide +kernel,rfl,by decide +kernel,by decide +kernel⟩
abbrev s_same_runs:Stmt:=topS 24
abbrev N_same_runs:List Str:= ["program","ones","others","first","place"]
theorem sc_same_runs:FnScope N_same_runs ["program","ones","others"] (defScope s_same_runs):=⟨rfl,rfl,rfl,by decide +kernel,rfl,by decide +kernel,by decide +kernel⟩
abbrev s_same_heaps:Stmt:=topS 25
abbrev N_same_heaps:List Str:= ["program","ones","others","first","place"]
theorem sc_same_heaps:FnScope N_same_heaps ["program","ones","others"] (defScope s_same_heaps):=⟨rfl,rfl,rfl,by decide +kernel,rfl,by decide +kernel,by decide +kernel⟩
abbrev s_law_purse:Stmt:=topS 27
abbrev N_law_purse:List Str:= ["_law_script","_law_seed","_law_great","_law_cell"]
theorem sc_law_purse:FnScope N_law_purse ["_law_script"] (defScope s_law_purse):=⟨rfl,rfl,rfl,by decide +kernel,rfl,by decide +kernel,by decide +kernel⟩
abbrev s_law_pick:Stmt:=topS 28
abbrev N_law_pick:List Str:= ["_law_purse_here","_law_many","_law_digit","_law_turn","_law_prime","_law_once","_law_mixed"]
theorem sc_law_pick:FnScope N_law_pick ["_law_purse_here","_law_many"] (defScope s_law_pick):=⟨rfl,rfl,rfl,by decide +kernel,rfl,by decide +kernel,by decide +kernel⟩
abbrev s_law_thing:Stmt:=topS 29
abbrev N_law_thing:List Str:= ["_law_purse_here","_law_deep_here","_law_room","_law_given","_law_lot","_law_names","_law_some","_law_word","_law_name","_law_first","_law_many","_law_k"]
theorem sc_law_thing:FnScope N_law_thing ["_law_purse_here","_law_deep_here","_law_room","_law_given"] (defScope s_law_thing):=⟨rfl,rfl,rfl,by decide +kernel,rfl,by decide +kernel,by decide +kernel⟩
abbrev s_law_program:Stmt:=topS 30
abbrev N_law_program:List Str:= ["_law_purse_here","_law_deep_here","_law_many"]
theorem sc_law_program:FnScope N_law_program ["_law_purse_here"] (defScope s_law_program):=⟨rfl,rfl,rfl,by decide +kernel,rfl,by decide +kernel,by decide +kernel⟩
abbrev s_law_free:Stmt:=topS 31
abbrev N_law_free:List Str:= ["_law_thing_here","_law_found","_law_k","_law_part","_law_some","_law_name"]
theorem sc_law_free:FnScope N_law_free ["_law_thing_here"] (defScope s_law_free):=⟨rfl,rfl,rfl,by decide +kernel,rfl,by decide +kernel,by decide +kernel⟩
abbrev s_law_turned:Stmt:=topS 32
abbrev N_law_turned:List Str:= ["_law_purse_here","_law_thing_here","_law_called","_law_asked","_law_name","_law_some","_law_inner","_law_parts","_law_part","_law_rest"]
theorem sc_law_turned:FnScope N_law_turned ["_law_purse_here","_law_thing_here","_law_called"] (defScope s_law_turned):=⟨rfl,rfl,rfl,by decide +kernel,rfl,by decide +kernel,by decide +kernel⟩
abbrev s_law_places:Stmt:=topS 33
abbrev N_law_places:List Str:= ["_law_thing_here","_law_found","_law_k","_law_part","_law_place"]
theorem sc_law_places:FnScope N_law_places ["_law_thing_here"] (defScope s_law_places):=⟨rfl,rfl,rfl,by decide +kernel,rfl,by decide +kernel,by decide +kernel⟩
abbrev s_law_at:Stmt:=topS 34
abbrev N_law_at:List Str:= ["_law_thing_here","_law_place","_law_k"]
theorem sc_law_at:FnScope N_law_at ["_law_thing_here","_law_place"] (defScope s_law_at):=⟨rfl,rfl,rfl,by decide +kernel,rfl,by decide +kernel,by decide +kernel⟩
abbrev s_law_put:Stmt:=topS 35
abbrev N_law_put:List Str:= ["_law_thing_here","_law_place","_law_its","_law_parts"]
theorem sc_law_put:FnScope N_law_put ["_law_thing_here","_law_place","_law_its"] (defScope s_law_put):=⟨rfl,rfl,rfl,by decide +kernel,rfl,by decide +kernel,by decide +kernel⟩
abbrev s_law_count:Stmt:=topS 36
abbrev N_law_count:List Str:= ["_law_thing_here","_law_part"]
theorem sc_law_count:FnScope N_law_count ["_law_thing_here"] (defScope s_law_count):=⟨rfl,rfl,rfl,by decide +kernel,rfl,by decide +kernel,by decide +kernel⟩
abbrev s_law_deep:Stmt:=topS 37
abbrev N_law_deep:List Str:= ["_law_thing_here","_law_part"]
theorem sc_law_deep:FnScope N_law_deep ["_law_thing_here"] (defScope s_law_deep):=⟨rfl,rfl,rfl,by decide +kernel,rfl,by decide +kernel,by decide +kernel⟩
abbrev s_law_copied:Stmt:=topS 38
abbrev N_law_copied:List Str:= ["_law_purse_here","_law_code","_law_turn","_law_some","_law_mine","_law_its","_law_piece","_law_made"]
theorem sc_law_copied:FnScope N_law_copied ["_law_purse_here","_law_code"] (defScope s_law_copied):=⟨rfl,rfl,rfl,by decide +kernel,rfl,by decide +kernel,by decide +kernel⟩
abbrev s_law_odd:Stmt:=topS 39
abbrev N_law_odd:List Str:= ["_law_purse_here","_law_spot","_law_some"]
theorem sc_law_odd:FnScope N_law_odd ["_law_purse_here","_law_spot"] (defScope s_law_odd):=⟨rfl,rfl,rfl,by decide +kernel,rfl,by decide +kernel,by decide +kernel⟩
abbrev s_law_told:Stmt:=topS 40
abbrev N_law_told:List Str:= ["_law_call","_law_found","_law_caught","e","_law_wrong"]
theorem sc_law_told:FnScope N_law_told ["_law_call"] (defScope s_law_told):=⟨rfl,rfl,rfl,by decide +kernel,rfl,by decide +kernel,by decide +kernel⟩
abbrev s_law_is_none:Stmt:=topS 41
abbrev N_law_is_none:List Str:= ["_law_spot","_law_some","_law_good"]
theorem sc_law_is_none:FnScope N_law_is_none ["_law_spot","_law_some"] (defScope s_law_is_none):=⟨rfl,rfl,rfl,by decide +kernel,rfl,by decide +kernel,by decide +kernel⟩
abbrev s_law:Stmt:=topS 42
abbrev N_law:List Str:= ["_law_script","_law_purse_here","_law_turn","_law_made","_law_some","_law_spots","_law_k","_law_go","_law_where","_law_left","_law_right","_law_bad","_law_spot","_law_told_here","_law_named","_law_first","_law_second"]
theorem sc_law:FnScope N_law ["_law_script"] (defScope s_law):=⟨rfl,rfl,rfl,by decide +kernel,rfl,by decide +kernel,by decide +kernel⟩
abbrev s_NoPlace___init__:Stmt:=inClass (topS 4) 0
abbrev N_NoPlace___init__:List Str:= ["self","place"]
theorem sc_NoPlace___init__:FnScope N_NoPlace___init__ ["self","place"] (defScope s_NoPlace___init__):=⟨rfl,rfl,rfl,by decide +kernel,rfl,by decide +kernel,by decide +kernel⟩
structure Txt (K:PySem.W.Frag) (w:World) (mg:Str→Option Value) (fa:Nat→Addr) (fd:Nat→FuncData):Prop where
 z_LookupError:mg "LookupError" =none
 z_abs:mg "abs" =none
 z_bool:mg "bool" =none
 z_dict:mg "dict" =none
 z_enumerate:mg "enumerate" =none
 z_int:mg "int" =none
 z_isinstance:mg "isinstance" =none
 z_len:mg "len" =none
 z_list:mg "list" =none
 z_max:mg "max" =none
 z_min:mg "min" =none
 z_range:mg "range" =none
 z_repr:mg "repr" =none
 z_reversed:mg "reversed" =none
 z_sorted:mg "sorted" =none
 z_str:mg "str" =none
 z_sum:mg "sum" =none
 z_tuple:mg "tuple" =none
 c_FREE_ORDER:GRep ⟨K,w,mg⟩ "FREE_ORDER" c_FREE_ORDER
 c_GIVERS:GRep ⟨K,w,mg⟩ "GIVERS" c_GIVERS
 g_is_whole:mg "is_whole" =some (.ref (fa 0))
 F_is_whole:FunD K "is_whole" "is_whole" (defArgs s_is_whole) (defBody s_is_whole) (defScope s_is_whole) [] [] (fa 0) (fd 0)
 g_is_number:mg "is_number" =some (.ref (fa 1))
 F_is_number:FunD K "is_number" "is_number" (defArgs s_is_number) (defBody s_is_number) (defScope s_is_number) [] [("low", .int 0),("high", .int 9972)] (fa 1) (fd 1)
 g_at:mg "at" =some (.ref (fa 2))
 F_at:FunD K "at" "at" (defArgs s_at) (defBody s_at) (defScope s_at) [] [] (fa 2) (fd 2)
 g_name_form:mg "name_form" =some (.ref (fa 3))
 F_name_form:FunD K "name_form" "name_form" (defArgs s_name_form) (defBody s_name_form) (defScope s_name_form) [] [] (fa 3) (fd 3)
 g_form_by:mg "form_by" =some (.ref (fa 4))
 F_form_by:FunD K "form_by" "form_by" (defArgs s_form_by) (defBody s_form_by) (defScope s_form_by) [] [] (fa 4) (fd 4)
 g_around:mg "around" =some (.ref (fa 5))
 F_around:FunD K "around" "around" (defArgs s_around) (defBody s_around) (defScope s_around) [] [] (fa 5) (fd 5)
 g_form_at:mg "form_at" =some (.ref (fa 6))
 F_form_at:FunD K "form_at" "form_at" (defArgs s_form_at) (defBody s_form_at) (defScope s_form_at) [] [] (fa 6) (fd 6)
 g_form_of:mg "form_of" =some (.ref (fa 7))
 F_form_of:FunD K "form_of" "form_of" (defArgs s_form_of) (defBody s_form_of) (defScope s_form_of) [] [] (fa 7) (fd 7)
 g_are_alike:mg "are_alike" =some (.ref (fa 8))
 F_are_alike:FunD K "are_alike" "are_alike" (defArgs s_are_alike) (defBody s_are_alike) (defScope s_are_alike) [] [] (fa 8) (fd 8)
 g_same_at:mg "same_at" =some (.ref (fa 9))
 F_same_at:FunD K "same_at" "same_at" (defArgs s_same_at) (defBody s_same_at) (defScope s_same_at) [] [] (fa 9) (fd 9)
 g_same_runs:mg "same_runs" =some (.ref (fa 10))
 F_same_runs:FunD K "same_runs" "same_runs" (defArgs s_same_runs) (defBody s_same_runs) (defScope s_same_runs) [] [] (fa 10) (fd 10)
 g_same_heaps:mg "same_heaps" =some (.ref (fa 11))
 F_same_heaps:FunD K "same_heaps" "same_heaps" (defArgs s_same_heaps) (defBody s_same_heaps) (defScope s_same_heaps) [] [] (fa 11) (fd 11)
 g_law_purse:mg "_law_purse" =some (.ref (fa 12))
 F_law_purse:FunD K "_law_purse" "_law_purse" (defArgs s_law_purse) (defBody s_law_purse) (defScope s_law_purse) [] [] (fa 12) (fd 12)
 g_law_pick:mg "_law_pick" =some (.ref (fa 13))
 F_law_pick:FunD K "_law_pick" "_law_pick" (defArgs s_law_pick) (defBody s_law_pick) (defScope s_law_pick) [] [] (fa 13) (fd 13)
 g_law_thing:mg "_law_thing" =some (.ref (fa 14))
 F_law_thing:FunD K "_law_thing" "_law_thing" (defArgs s_law_thing) (defBody s_law_thing) (defScope s_law_thing) [] [] (fa 14) (fd 14)
 g_law_program:mg "_law_program" =some (.ref (fa 15))
 F_law_program:FunD K "_law_program" "_law_program" (defArgs s_law_program) (defBody s_law_program) (defScope s_law_program) [] [] (fa 15) (fd 15)
 g_law_free:mg "_law_free" =some (.ref (fa 16))
 F_law_free:FunD K "_law_free" "_law_free" (defArgs s_law_free) (defBody s_law_free) (defScope s_law_free) [] [] (fa 16) (fd 16)
 g_law_turned:mg "_law_turned" =some (.ref (fa 17))
 F_law_turned:FunD K "_law_turned" "_law_turned" (defArgs s_law_turned) (defBody s_law_turned) (defScope s_law_turned) [] [] (fa 17) (fd 17)
 g_law_places:mg "_law_places" =some (.ref (fa 18))
 F_law_places:FunD K "_law_places" "_law_places" (defArgs s_law_places) (defBody s_law_places) (defScope s_law_places) [] [] (fa 18) (fd 18)
 g_law_at:mg "_law_at" =some (.ref (fa 19))
 F_law_at:FunD K "_law_at" "_law_at" (defArgs s_law_at) (defBody s_law_at) (defScope s_law_at) [] [] (fa 19) (fd 19)
 g_law_put:mg "_law_put" =some (.ref (fa 20))
 F_law_put:FunD K "_law_put" "_law_put" (defArgs s_law_put) (defBody s_law_put) (defScope s_law_put) [] [] (fa 20) (fd 20)
 g_law_count:mg "_law_count" =some (.ref (fa 21))
 F_law_count:FunD K "_law_count" "_law_count" (defArgs s_law_count) (defBody s_law_count) (defScope s_law_count) [] [] (fa 21) (fd 21)
 g_law_deep:mg "_law_deep" =some (.ref (fa 22))
 F_law_deep:FunD K "_law_deep" "_law_deep" (defArgs s_law_deep) (defBody s_law_deep) (defScope s_law_deep) [] [] (fa 22) (fd 22)
 g_law_copied:mg "_law_copied" =some (.ref (fa 23))
 F_law_copied:FunD K "_law_copied" "_law_copied" (defArgs s_law_copied) (defBody s_law_copied) (defScope s_law_copied) [] [] (fa 23) (fd 23)
 g_law_odd:mg "_law_odd" =some (.ref (fa 24))
 F_law_odd:FunD K "_law_odd" "_law_odd" (defArgs s_law_odd) (defBody s_law_odd) (defScope s_law_odd) [] [] (fa 24) (fd 24)
 g_law_told:mg "_law_told" =some (.ref (fa 25))
 F_law_told:FunD K "_law_told" "_law_told" (defArgs s_law_told) (defBody s_law_told) (defScope s_law_told) [] [] (fa 25) (fd 25)
 g_law_is_none:mg "_law_is_none" =some (.ref (fa 26))
 F_law_is_none:FunD K "_law_is_none" "_law_is_none" (defArgs s_law_is_none) (defBody s_law_is_none) (defScope s_law_is_none) [] [] (fa 26) (fd 26)
 g_law:mg "law" =some (.ref (fa 27))
 F_law:FunD K "law" "law" (defArgs s_law) (defBody s_law) (defScope s_law) [] [] (fa 27) (fd 27)
 ca_Halted:mg "Halted" =some (.ref (fa 30))
 ca_Missing:mg "Missing" =some (.ref (fa 29))
 ca_NoName:mg "NoName" =some (.ref (fa 32))
 ca_NoNumber:mg "NoNumber" =some (.ref (fa 33))
 ca_NoPlace:mg "NoPlace" =some (.ref (fa 31))
 ca_Refused:mg "Refused" =some (.ref (fa 28))
 xd_Halted:XcD K (fa 30)
 xd_Missing:XcD K (fa 29)
 xd_NoName:XcD K (fa 32)
 xd_NoNumber:XcD K (fa 33)
 xd_NoPlace:XcD K (fa 31)
 xd_Refused:XcD K (fa 28)
 xi_NoPlace:XcI K (fa 31)
 xs_NoPlace__Halted:PySem.W.subIn K (.ref (fa 31)) (.ref (fa 30))=some false
 xs_NoPlace__LookupError:PySem.W.subIn K (.ref (fa 31)) (.type "LookupError")=some true
 xs_NoPlace__Missing:PySem.W.subIn K (.ref (fa 31)) (.ref (fa 29))=some true
 xs_NoPlace__NoName:PySem.W.subIn K (.ref (fa 31)) (.ref (fa 32))=some false
 xs_NoPlace__NoNumber:PySem.W.subIn K (.ref (fa 31)) (.ref (fa 33))=some false
 xs_NoPlace__NoPlace:PySem.W.subIn K (.ref (fa 31)) (.ref (fa 31))=some true
 xs_NoPlace__Refused:PySem.W.subIn K (.ref (fa 31)) (.ref (fa 28))=some false
 xn_NoPlace:PySem.W.findIn K (.ref (fa 31)) "place" =some none
 xo_NoPlace:∃B n i bm,Oxc K (fa 31) B n i bm
 xc_NoPlace:PySem.W.findIn K (.ref (fa 31)) "__init__" =some (some (.ref (fa 37)))
 xt_NoPlace:PySem.W.typeIn K (.ref (fa 37))=some (.type "function")
 F_NoPlace___init__:FunD K "__init__" "NoPlace.__init__" (defArgs s_NoPlace___init__) (defBody s_NoPlace___init__) (defScope s_NoPlace___init__) [] [] (fa 37) (fd 37)
section
variable {P:Program} {K:PySem.W.Frag} {w:World} {mg:Str→Option Value} {base:Heap} {fa:Nat→Addr} {fd:Nat→FuncData}
theorem Txt.bnd_is_whole (T:Txt K w mg fa fd):Bnd ⟨K,w,mg⟩ (fd 0) ["thing"] [] :=bnd0 (T.F_is_whole.bindsN fun _ _ _ _ _ _ us hl=>match us,hl with| [_],_=>rfl)
theorem Txt.bnd_at (T:Txt K w mg fa fd):Bnd ⟨K,w,mg⟩ (fd 2) ["program","place"] [] :=bnd0 (T.F_at.bindsN fun _ _ _ _ _ _ us hl=>match us,hl with| [_,_],_=>rfl)
theorem Txt.bnd_name_form (T:Txt K w mg fa fd):Bnd ⟨K,w,mg⟩ (fd 3) ["name","given","outer"] [] :=bnd0 (T.F_name_form.bindsN fun _ _ _ _ _ _ us hl=>match us,hl with| [_,_,_],_=>rfl)
theorem Txt.bnd_form_by (T:Txt K w mg fa fd):Bnd ⟨K,w,mg⟩ (fd 4) ["thing","given","outer"] [] :=bnd0 (T.F_form_by.bindsN fun _ _ _ _ _ _ us hl=>match us,hl with| [_,_,_],_=>rfl)
theorem Txt.bnd_around (T:Txt K w mg fa fd):Bnd ⟨K,w,mg⟩ (fd 5) ["program","place"] [] :=bnd0 (T.F_around.bindsN fun _ _ _ _ _ _ us hl=>match us,hl with| [_,_],_=>rfl)
theorem Txt.bnd_form_at (T:Txt K w mg fa fd):Bnd ⟨K,w,mg⟩ (fd 6) ["program","place"] [] :=bnd0 (T.F_form_at.bindsN fun _ _ _ _ _ _ us hl=>match us,hl with| [_,_],_=>rfl)
theorem Txt.bnd_form_of (T:Txt K w mg fa fd):Bnd ⟨K,w,mg⟩ (fd 7) ["program"] [] :=bnd0 (T.F_form_of.bindsN fun _ _ _ _ _ _ us hl=>match us,hl with| [_],_=>rfl)
theorem Txt.bnd_same_at (T:Txt K w mg fa fd):Bnd ⟨K,w,mg⟩ (fd 9) ["program","one","other"] [] :=bnd0 (T.F_same_at.bindsN fun _ _ _ _ _ _ us hl=>match us,hl with| [_,_,_],_=>rfl)
theorem Txt.bnd_same_runs (T:Txt K w mg fa fd):Bnd ⟨K,w,mg⟩ (fd 10) ["program","ones","others"] [] :=bnd0 (T.F_same_runs.bindsN fun _ _ _ _ _ _ us hl=>match us,hl with| [_,_,_],_=>rfl)
theorem Txt.bnd_same_heaps (T:Txt K w mg fa fd):Bnd ⟨K,w,mg⟩ (fd 11) ["program","ones","others"] [] :=bnd0 (T.F_same_heaps.bindsN fun _ _ _ _ _ _ us hl=>match us,hl with| [_,_,_],_=>rfl)
theorem Txt.bnd_law_purse (T:Txt K w mg fa fd):Bnd ⟨K,w,mg⟩ (fd 12) ["_law_script"] [] :=bnd0 (T.F_law_purse.bindsN fun _ _ _ _ _ _ us hl=>match us,hl with| [_],_=>rfl)
theorem Txt.bnd_law_pick (T:Txt K w mg fa fd):Bnd ⟨K,w,mg⟩ (fd 13) ["_law_purse_here","_law_many"] [] :=bnd0 (T.F_law_pick.bindsN fun _ _ _ _ _ _ us hl=>match us,hl with| [_,_],_=>rfl)
theorem Txt.bnd_law_thing (T:Txt K w mg fa fd):Bnd ⟨K,w,mg⟩ (fd 14) ["_law_purse_here","_law_deep_here","_law_room","_law_given"] [] :=bnd0 (T.F_law_thing.bindsN fun _ _ _ _ _ _ us hl=>match us,hl with| [_,_,_,_],_=>rfl)
theorem Txt.bnd_law_program (T:Txt K w mg fa fd):Bnd ⟨K,w,mg⟩ (fd 15) ["_law_purse_here"] [] :=bnd0 (T.F_law_program.bindsN fun _ _ _ _ _ _ us hl=>match us,hl with| [_],_=>rfl)
theorem Txt.bnd_law_free (T:Txt K w mg fa fd):Bnd ⟨K,w,mg⟩ (fd 16) ["_law_thing_here"] [] :=bnd0 (T.F_law_free.bindsN fun _ _ _ _ _ _ us hl=>match us,hl with| [_],_=>rfl)
theorem Txt.bnd_law_turned (T:Txt K w mg fa fd):Bnd ⟨K,w,mg⟩ (fd 17) ["_law_purse_here","_law_thing_here","_law_called"] [] :=bnd0 (T.F_law_turned.bindsN fun _ _ _ _ _ _ us hl=>match us,hl with| [_,_,_],_=>rfl)
theorem Txt.bnd_law_places (T:Txt K w mg fa fd):Bnd ⟨K,w,mg⟩ (fd 18) ["_law_thing_here"] [] :=bnd0 (T.F_law_places.bindsN fun _ _ _ _ _ _ us hl=>match us,hl with| [_],_=>rfl)
theorem Txt.bnd_law_at (T:Txt K w mg fa fd):Bnd ⟨K,w,mg⟩ (fd 19) ["_law_thing_here","_law_place"] [] :=bnd0 (T.F_law_at.bindsN fun _ _ _ _ _ _ us hl=>match us,hl with| [_,_],_=>rfl)
theorem Txt.bnd_law_put (T:Txt K w mg fa fd):Bnd ⟨K,w,mg⟩ (fd 20) ["_law_thing_here","_law_place","_law_its"] [] :=bnd0 (T.F_law_put.bindsN fun _ _ _ _ _ _ us hl=>match us,hl with| [_,_,_],_=>rfl)
theorem Txt.bnd_law_count (T:Txt K w mg fa fd):Bnd ⟨K,w,mg⟩ (fd 21) ["_law_thing_here"] [] :=bnd0 (T.F_law_count.bindsN fun _ _ _ _ _ _ us hl=>match us,hl with| [_],_=>rfl)
theorem Txt.bnd_law_deep (T:Txt K w mg fa fd):Bnd ⟨K,w,mg⟩ (fd 22) ["_law_thing_here"] [] :=bnd0 (T.F_law_deep.bindsN fun _ _ _ _ _ _ us hl=>match us,hl with| [_],_=>rfl)
theorem Txt.bnd_law_copied (T:Txt K w mg fa fd):Bnd ⟨K,w,mg⟩ (fd 23) ["_law_purse_here","_law_code"] [] :=bnd0 (T.F_law_copied.bindsN fun _ _ _ _ _ _ us hl=>match us,hl with| [_,_],_=>rfl)
theorem Txt.bnd_law_odd (T:Txt K w mg fa fd):Bnd ⟨K,w,mg⟩ (fd 24) ["_law_purse_here","_law_spot"] [] :=bnd0 (T.F_law_odd.bindsN fun _ _ _ _ _ _ us hl=>match us,hl with| [_,_],_=>rfl)
theorem Txt.bnn_law_told (T:Txt K w mg fa fd):Binds K (fd 25) ["_law_call"] [] :=T.F_law_told.bindsN fun _ _ _ _ _ _ us hl=>match us,hl with| [_],_=>rfl
theorem Txt.bnd_law_is_none (T:Txt K w mg fa fd):Bnd ⟨K,w,mg⟩ (fd 26) ["_law_spot","_law_some"] [] :=bnd0 (T.F_law_is_none.bindsN fun _ _ _ _ _ _ us hl=>match us,hl with| [_,_],_=>rfl)
theorem Txt.kbd_are_alike_0_other_one (T:Txt K w mg fa fd):Kbd ⟨K,w,mg⟩ (fd 8) ["one","other"] 0 ["other","one"] kbd_are_alike_0_other_one_g:=by
 obtain⟨oc,od,dV,kV,doc,pm,an,cdv,ct,osl,e,_,_,hD,_⟩:=T.F_are_alike.ex
 obtain rfl:dV= .none:=hD.elim (fun h=>h.2) fun h=>absurd rfl h.1
 refine kbd_of _ fun s us ws h1 h2=> ?_
 rw[e]
 match us,h1,ws,h2 with
 | [],_,[_,_],_=>exact .of_eq rfl
theorem Txt.kbd_form_of_0_program (T:Txt K w mg fa fd):Kbd ⟨K,w,mg⟩ (fd 7) ["program"] 0 ["program"] kbd_form_of_0_program_g:=by
 obtain⟨oc,od,dV,kV,doc,pm,an,cdv,ct,osl,e,_,_,hD,_⟩:=T.F_form_of.ex
 obtain rfl:dV= .none:=hD.elim (fun h=>h.2) fun h=>absurd rfl h.1
 refine kbd_of _ fun s us ws h1 h2=> ?_
 rw[e]
 match us,h1,ws,h2 with
 | [],_,[_],_=>exact .of_eq rfl
theorem Txt.kbd_is_number_1_high (T:Txt K w mg fa fd):Kbd ⟨K,w,mg⟩ (fd 1) ["thing","low","high"] 1 ["high"] kbd_is_number_1_high_g:=
 kbd3_of (G:=⟨K,w,mg⟩) T.F_is_number 1 ["high"] [("low", .int 0)] [(.int 0)] kbd_is_number_1_high_s (by simp) (by simp) (fun w=>by simp[RepL,Rep]) fun D doc pm an cdv ct us mv ws h1 h2 h3=>match us,h1,mv,h2,ws,h3 with
  | [_],_,[_],_,[_],_=>⟨_,_,_,_,_,_,rfl,rfl,rfl⟩
theorem Txt.kbd_same_at_0_other_one_program (T:Txt K w mg fa fd):Kbd ⟨K,w,mg⟩ (fd 9) ["program","one","other"] 0 ["other","one","program"] kbd_same_at_0_other_one_program_g:=by
 obtain⟨oc,od,dV,kV,doc,pm,an,cdv,ct,osl,e,_,_,hD,_⟩:=T.F_same_at.ex
 obtain rfl:dV= .none:=hD.elim (fun h=>h.2) fun h=>absurd rfl h.1
 refine kbd_of _ fun s us ws h1 h2=> ?_
 rw[e]
 match us,h1,ws,h2 with
 | [],_,[_,_,_],_=>exact .of_eq rfl
theorem Txt.kbd_same_heaps_0_ones_others_program (T:Txt K w mg fa fd):Kbd ⟨K,w,mg⟩ (fd 11) ["program","ones","others"] 0 ["ones","others","program"] kbd_same_heaps_0_ones_others_program_g:=by
 obtain⟨oc,od,dV,kV,doc,pm,an,cdv,ct,osl,e,_,_,hD,_⟩:=T.F_same_heaps.ex
 obtain rfl:dV= .none:=hD.elim (fun h=>h.2) fun h=>absurd rfl h.1
 refine kbd_of _ fun s us ws h1 h2=> ?_
 rw[e]
 match us,h1,ws,h2 with
 | [],_,[_,_,_],_=>exact .of_eq rfl
theorem Txt.kbd_same_runs_0_others_ones_program (T:Txt K w mg fa fd):Kbd ⟨K,w,mg⟩ (fd 10) ["program","ones","others"] 0 ["others","ones","program"] kbd_same_runs_0_others_ones_program_g:=by
 obtain⟨oc,od,dV,kV,doc,pm,an,cdv,ct,osl,e,_,_,hD,_⟩:=T.F_same_runs.ex
 obtain rfl:dV= .none:=hD.elim (fun h=>h.2) fun h=>absurd rfl h.1
 refine kbd_of _ fun s us ws h1 h2=> ?_
 rw[e]
 match us,h1,ws,h2 with
 | [],_,[_,_,_],_=>exact .of_eq rfl
theorem Txt.bnd_NoPlace___init__ (T:Txt K w mg fa fd):Binds K (fd 37) ["self","place"] [] :=T.F_NoPlace___init__.bindsN fun _ _ _ _ _ _ us hl=>match us,hl with| [_,_],_=>rfl
theorem Txt.x1_NoPlace (T:Txt K w mg fa fd) (P:Program) (base:Heap):Xc1 P w ⟨K,w,mg⟩ base 1 "NoPlace" "place" (fa 31):=
 ⟨T.ca_NoPlace,T.xo_NoPlace,T.xn_NoPlace,_,_,_,T.xc_NoPlace,T.xt_NoPlace,by
   obtain⟨B,n,i,bm,ox⟩:=T.xo_NoPlace
   exact init_ok (mg:=mg) T.F_NoPlace___init__ sc_NoPlace___init__ rfl fun _ _ _ _ _ _=>pss_one (ps_sto ox T.xn_NoPlace (pv 0) (pv 1)),T.bnd_NoPlace___init__⟩
end
theorem b_is_whole {P:Program} {K:PySem.W.Frag} {w:World} {mg:Str→Option Value} {base:Heap} {fa:Nat→Addr} {fd:Nat→FuncData} {F:Nat→FN} {k:Nat} (h1:1≤k) (hM:∃o,base.get? sysModules=some o) (T:Txt K w mg fa fd) (cdv:Value) (A:Around) (outer:List Env) (s:Shared) (H:Hp) (E:XK)
 (hrM:RoomG (k+1) (A.deeper (envOfC "is_whole" (defScope s_is_whole) s.heap.objs.size (fa 0) cdv))):
 PSs (cxOf (L2.CX P w) P w K mg base N_is_whole "is_whole" (defScope s_is_whole) (fa 0) cdv A outer s H E) (defBody s_is_whole) (tS ⟨K,w,mg⟩ (m_is_whole F) (WE0 E)):=
 have hr:=hrM.mono (Nat.le_succ _)
 have hr2:RoomG 2 _:=hrM.mono (Nat.succ_le_succ h1)
 q_sone (q_ret (q_eand (q_callB (o_isi (by rfl)) c_isi (by rfl) T.z_isinstance b_isinstance (q_cons (q_var (pv 0)) (q_cons (q_ty T.z_int b_int (by rfl)) (q_nil)))) (q_eone (q_enot (q_callB (o_isi (by rfl)) c_isi (by rfl) T.z_isinstance b_isinstance (q_cons (q_var (pv 0)) (q_cons (q_ty T.z_bool b_bool (by rfl)) (q_nil))))))))
theorem b_is_number {P:Program} {K:PySem.W.Frag} {w:World} {mg:Str→Option Value} {base:Heap} {fa:Nat→Addr} {fd:Nat→FuncData} {F:Nat→FN} {k:Nat} (h1:1≤k) (hM:∃o,base.get? sysModules=some o) (T:Txt K w mg fa fd) (C_is_whole:Cal P w ⟨K,w,mg⟩ base k "is_whole" (fa 0) (fd 0) ["thing"] (F 0)) (cdv:Value) (A:Around) (outer:List Env) (s:Shared) (H:Hp) (E:XK)
 (hrM:RoomG (k+1) (A.deeper (envOfC "is_number" (defScope s_is_number) s.heap.objs.size (fa 1) cdv))):
 PSs (cxOf (L2.CX P w) P w K mg base N_is_number "is_number" (defScope s_is_number) (fa 1) cdv A outer s H E) (defBody s_is_number) (tS ⟨K,w,mg⟩ (m_is_number F) (WE0 E)):=
 have hr:=hrM.mono (Nat.le_succ _)
 have hr2:RoomG 2 _:=hrM.mono (Nat.succ_le_succ h1)
 q_sone (q_ret (q_eand (q_fn C_is_whole T.bnd_is_whole hr (by rfl) (by rfl) (by rfl) tk_body (q_cons (q_var (pv 0)) (q_nil))) (q_eone (q_chain o_le c_le o_le c_le (q_var (pv 1)) (q_var (pv 0)) (q_var (pv 2))))))
theorem b_at {P:Program} {K:PySem.W.Frag} {w:World} {mg:Str→Option Value} {base:Heap} {fa:Nat→Addr} {fd:Nat→FuncData} {F:Nat→FN} {k:Nat} (h1:1≤k) (hM:∃o,base.get? sysModules=some o) (T:Txt K w mg fa fd) (C_is_number:Cal P w ⟨K,w,mg⟩ base k "is_number" (fa 1) (fd 1) ["thing","low","high"] (F 1)) (cdv:Value) (A:Around) (outer:List Env) (s:Shared) (H:Hp) (E:XK)
 (hrM:RoomG (k+1) (A.deeper (envOfC "at" (defScope s_at) s.heap.objs.size (fa 2) cdv))):
 PSs (cxOf (L2.CX P w) P w K mg base N_at "at" (defScope s_at) (fa 2) cdv A outer s H E) (defBody s_at) (tS ⟨K,w,mg⟩ (m_at F) (WE0 E)):=
 have hr:=hrM.mono (Nat.le_succ _)
 have hr2:RoomG 2 _:=hrM.mono (Nat.succ_le_succ h1)
 q_scons (q_if (q_tnot (q_truth (by rfl) (q_callB (o_isi (by rfl)) c_isi (by rfl) T.z_isinstance b_isinstance (q_cons (q_var (pv 1)) (q_cons (q_ty T.z_tuple b_tuple (by rfl)) (q_nil)))))) (q_sone (q_raise1 (k:=1) (T.x1_NoPlace P base) hr2 (by rfl) (by rfl) (by rfl) tk_body (by rfl) (q_var (pv 1)))) (q_snil))
  (q_scons (q_set (i:=2) sc_at.nd (by rfl) (.inl (by rfl)) (q_var (pv 0)))
  (q_scons (q_for po_body (by rfl) (q_iter (by rfl) (q_var (pv 1))) (q_gname (pg_name (i:=3) sc_at.nd (by rfl) (.inl (by rfl)))) (q_scons (q_if (q_tnot (q_truth (by rfl) (q_fnK C_is_number T.kbd_is_number_1_high hr (by rfl) (by rfl) (by rfl) tk_body (q_cons (q_var (pv 3)) (q_nil)) (q_kcons (q_op o_sub c_sub (q_callB (o_len (by rfl)) c_len (by rfl) T.z_len b_len (q_cons (q_ix (o_ix (by rfl) (by rfl) (u1 hr)) c_ix (q_var (pv 2)) (q_int) (fun _ _=>rfl)) (q_nil))) (q_int)) (q_knil))))) (q_sone (q_raise1 (k:=1) (T.x1_NoPlace P base) hr2 (by rfl) (by rfl) (by rfl) tk_body (by rfl) (q_var (pv 1)))) (q_snil))
  (q_sone (q_set (i:=2) sc_at.nd (by rfl) (.inl (by rfl)) (q_ix (o_ix (by rfl) (by rfl) (u1 hr)) c_ix (q_ix (o_ix (by rfl) (by rfl) (u1 hr)) c_ix (q_var (pv 2)) (q_int) (fun _ _=>rfl)) (q_var (pv 3)) (fun _ _=>rfl))))))
  (q_sone (q_ret (q_var (pv 2))))))
theorem b_name_form {P:Program} {K:PySem.W.Frag} {w:World} {mg:Str→Option Value} {base:Heap} {fa:Nat→Addr} {fd:Nat→FuncData} {F:Nat→FN} {k:Nat} (h1:1≤k) (hM:∃o,base.get? sysModules=some o) (T:Txt K w mg fa fd) (cdv:Value) (A:Around) (outer:List Env) (s:Shared) (H:Hp) (E:XK)
 (hrM:RoomG (k+1) (A.deeper (envOfC "name_form" (defScope s_name_form) s.heap.objs.size (fa 3) cdv))):
 PSs (cxOf (L2.CX P w) P w K mg base N_name_form "name_form" (defScope s_name_form) (fa 3) cdv A outer s H E) (defBody s_name_form) (tS ⟨K,w,mg⟩ (m_name_form F) (WE0 E)):=
 have hr:=hrM.mono (Nat.le_succ _)
 have hr2:RoomG 2 _:=hrM.mono (Nat.succ_le_succ h1)
 q_scons (q_for po_body (by rfl) (q_enumR (by rfl) (by rfl) T.z_enumerate (by rfl) T.z_reversed (q_cons (q_var (pv 1)) (q_nil))) (q_gtup (by rfl) (by rfl) (q_gscons (pg_name (i:=3) sc_name_form.nd (by rfl) (.inl (by rfl))) (q_gscons (pg_name (i:=4) sc_name_form.nd (by rfl) (.inl (by rfl))) (q_gsnil)))) (q_sone (q_if (q_tcmp (o_eq (by rfl) hr.units) c_eq (q_var (pv 4)) (q_var (pv 0)) (nomark _)) (q_sone (q_ret (q_joined (.cons (q_str) (.cons (q_fmt (q_var (pv 3))) .nil))))) (q_snil))))
  (q_sone (q_ret (q_bm (by rfl) PySem.F.plainAttrs_dict PySem.F.slot_dict_get PySem.F.type_dict_get (o_dget (u1 hr)) c_dget (q_var (pv 2)) (q_cons (q_var (pv 0)) (q_cons (q_var (pv 0)) (q_nil))))))
theorem b_form_by {P:Program} {K:PySem.W.Frag} {w:World} {mg:Str→Option Value} {base:Heap} {fa:Nat→Addr} {fd:Nat→FuncData} {F:Nat→FN} {k:Nat} (h1:1≤k) (hM:∃o,base.get? sysModules=some o) (T:Txt K w mg fa fd) (C_form_by:Cal P w ⟨K,w,mg⟩ base k "form_by" (fa 4) (fd 4) ["thing","given","outer"] (F 4)) (C_name_form:Cal P w ⟨K,w,mg⟩ base k "name_form" (fa 3) (fd 3) ["name","given","outer"] (F 3)) (cdv:Value) (A:Around) (outer:List Env) (s:Shared) (H:Hp) (E:XK)
 (hrM:RoomG (k+1) (A.deeper (envOfC "form_by" (defScope s_form_by) s.heap.objs.size (fa 4) cdv))):
 PSs (cxOf (L2.CX P w) P w K mg base N_form_by "form_by" (defScope s_form_by) (fa 4) cdv A outer s H E) (defBody s_form_by) (tS ⟨K,w,mg⟩ (m_form_by F) (WE0 E)):=
 have hr:=hrM.mono (Nat.le_succ _)
 have hr2:RoomG 2 _:=hrM.mono (Nat.succ_le_succ h1)
 q_scons (q_asg (q_var (pv 0)) (q_gtup (by rfl) (by rfl) (q_gscons (pg_name (i:=3) sc_form_by.nd (by rfl) (.inl (by rfl))) (q_gscons (pg_name (i:=4) sc_form_by.nd (by rfl) (.inl (by rfl))) (q_gscons (pg_name (i:=5) sc_form_by.nd (by rfl) (.inl (by rfl))) (q_gsnil))))) (gn:=gn_tup))
  (q_scons (q_if (q_tcmp (o_eq (by rfl) hr.units) c_eq (q_var (pv 3)) (q_str) (nomark _)) (q_sone (q_ret (q_callTy o_str c_str (by rfl) T.z_str b_str (q_cons (q_var (pv 4)) (q_nil))))) (q_snil))
  (q_scons (q_if (q_tcmp (o_eq (by rfl) hr.units) c_eq (q_var (pv 3)) (q_str) (nomark _)) (q_sone (q_ret (q_fn C_name_form T.bnd_name_form hr (by rfl) (by rfl) (by rfl) tk_body (q_cons (q_var (pv 4)) (q_cons (q_var (pv 1)) (q_cons (q_var (pv 2)) (q_nil))))))) (q_snil))
  (q_scons (q_if (q_tb (w_and (q_tcmp (o_eq (by rfl) hr.units) c_eq (q_var (pv 5)) (q_tup (q_nil)) (nomark _)) (w_and1 (q_tcmp (o_ne (by rfl) hr.units) c_ne (q_var (pv 4)) (q_str) (nomark _))))) (q_sone (q_ret (q_joined (.cons (q_str) (.cons (q_fmt (q_var (pv 3))) (.cons (q_str) (.cons (q_fmt (q_var (pv 4))) (.cons (q_str) .nil)))))))) (q_snil))
  (q_scons (q_set (i:=6) sc_form_by.nd (by rfl) (.inl (by rfl)) (q_var (pv 1)))
  (q_scons (q_set (i:=7) sc_form_by.nd (by rfl) (.inl (by rfl)) (q_obj (q_nil)))
  (q_scons (q_for po_body (by rfl) (q_enum (by rfl) (by rfl) T.z_enumerate (q_cons (q_var (pv 5)) (q_nil))) (q_gtup (by rfl) (by rfl) (q_gscons (pg_name (i:=8) sc_form_by.nd (by rfl) (.inl (by rfl))) (q_gscons (pg_name (i:=9) sc_form_by.nd (by rfl) (.inl (by rfl))) (q_gsnil)))) (q_scons (q_if (q_tb (w_and (q_tcmp (o_in (by rfl) (by rfl) (u65 hr)) c_in (q_var (pv 3)) (q_cst T.c_GIVERS (by rfl) (by rfl)) (by rfl)) (w_and1 (q_tcmp (o_eq (by rfl) hr.units) c_eq (q_var (pv 8)) (q_int) (nomark _))))) (q_sone (q_set (i:=6) sc_form_by.nd (by rfl) (.inl (by rfl)) (q_op (o_add (by rfl)) c_add (q_var (pv 1)) (q_tup (q_cons (q_var (pv 4)) (q_nil)))))) (q_snil))
  (q_sone (q_expr (q_bm (by rfl) PySem.F.plainAttrs_list PySem.F.slot_list_append PySem.F.type_list_append o_append c_append (q_var (pv 7)) (q_cons (q_fn C_form_by T.bnd_form_by hr (by rfl) (by rfl) (by rfl) tk_body (q_cons (q_var (pv 9)) (q_cons (q_var (pv 6)) (q_cons (q_var (pv 2)) (q_nil))))) (q_nil)))))))
  (q_scons (q_if (q_tcmp (o_in (by rfl) (by rfl) (u65 hr)) c_in (q_var (pv 3)) (q_cst T.c_FREE_ORDER (by rfl) (by rfl)) (by rfl)) (q_sone (q_set (i:=7) sc_form_by.nd (by rfl) (.inl (by rfl)) (q_callB (o_sorted (by rfl) (u65 hr)) c_sorted (by rfl) T.z_sorted b_sorted (q_cons (q_var (pv 7)) (q_nil))))) (q_snil))
  (q_sone (q_ret (q_op (o_add (by rfl)) c_add (q_op (o_add (by rfl)) c_add (q_str) (q_bm (by rfl) PySem.F.plainAttrs_str PySem.F.slot_str_join PySem.F.type_str_join (o_join (by rfl)) c_join (q_str) (q_cons (q_op (o_add (by rfl)) c_add (q_lst (q_cons (q_var (pv 3)) (q_nil))) (q_var (pv 7))) (q_nil)))) (q_str)))))))))))
theorem b_around {P:Program} {K:PySem.W.Frag} {w:World} {mg:Str→Option Value} {base:Heap} {fa:Nat→Addr} {fd:Nat→FuncData} {F:Nat→FN} {k:Nat} (h1:1≤k) (hM:∃o,base.get? sysModules=some o) (T:Txt K w mg fa fd) (cdv:Value) (A:Around) (outer:List Env) (s:Shared) (H:Hp) (E:XK)
 (hrM:RoomG (k+1) (A.deeper (envOfC "around" (defScope s_around) s.heap.objs.size (fa 5) cdv))):
 PSs (cxOf (L2.CX P w) P w K mg base N_around "around" (defScope s_around) (fa 5) cdv A outer s H E) (defBody s_around) (tS ⟨K,w,mg⟩ (m_around F) (WE0 E)):=
 have hr:=hrM.mono (Nat.le_succ _)
 have hr2:RoomG 2 _:=hrM.mono (Nat.succ_le_succ h1)
 q_scons (q_set (i:=2) sc_around.nd (by rfl) (.inl (by rfl)) (q_dct0))
  (q_scons (q_set (i:=3) sc_around.nd (by rfl) (.inl (by rfl)) (q_var (pv 0)))
  (q_scons (q_for po_body (by rfl) (q_enum (by rfl) (by rfl) T.z_enumerate (q_cons (q_var (pv 1)) (q_nil))) (q_gtup (by rfl) (by rfl) (q_gscons (pg_name (i:=4) sc_around.nd (by rfl) (.inl (by rfl))) (q_gscons (pg_name (i:=5) sc_around.nd (by rfl) (.inl (by rfl))) (q_gsnil)))) (q_scons (q_asg (q_var (pv 3)) (q_gtup (by rfl) (by rfl) (q_gscons (pg_name (i:=6) sc_around.nd (by rfl) (.inl (by rfl))) (q_gscons (pg_name (i:=7) sc_around.nd (by rfl) (.inl (by rfl))) (q_gscons (pg_name (i:=8) sc_around.nd (by rfl) (.inl (by rfl))) (q_gsnil))))) (gn:=gn_tup))
  (q_scons (q_if (q_tb (w_and (q_tcmp (o_in (by rfl) (by rfl) (u65 hr)) c_in (q_var (pv 6)) (q_cst T.c_GIVERS (by rfl) (by rfl)) (by rfl)) (w_and1 (q_tcmp (o_eq (by rfl) hr.units) c_eq (q_var (pv 5)) (q_int) (nomark _))))) (q_sone (q_asg (q_op (o_add (by rfl)) c_add (q_str) (q_bm (by rfl) PySem.F.plainAttrs_str PySem.F.slot_str_join PySem.F.type_str_join (o_join (by rfl)) c_join (q_str) (q_cons (q_lc (own:= [("one",9)]) (by rfl) sc_around.nd (q_iter (by rfl) (q_slice (by rfl) (q_var (pv 1)) (q_pno) (q_pyes (q_var (pv 4))))) (blkOk_by (own:= [("one",9)]) (N:=N_around) (sc:=defScope s_around) (by decide +kernel)) (fun _ _ _ _ _=>q_gnameW (pg_name (i:=9) sc_around.nd (by rfl) (.inl (by rfl))) (by decide)) (fun _ _ _ _ _=>q_tnil) (fun _ _ _ _ _=>q_callTy o_str c_str (by rfl) T.z_str b_str (q_cons (q_var (pv 9)) (q_nil)))) (q_nil)))) (q_gsub (Wx:=WE0 E) (u1 hr) (q_var (pv 2)) (q_var (pv 7))) (gn:=gn_sub))) (q_snil))
  (q_sone (q_set (i:=3) sc_around.nd (by rfl) (.inl (by rfl)) (q_ix (o_ix (by rfl) (by rfl) (u1 hr)) c_ix (q_var (pv 8)) (q_var (pv 5)) (fun _ _=>rfl)))))))
  (q_sone (q_ret (q_frz (q_var (pv 2)))))))
theorem b_form_at {P:Program} {K:PySem.W.Frag} {w:World} {mg:Str→Option Value} {base:Heap} {fa:Nat→Addr} {fd:Nat→FuncData} {F:Nat→FN} {k:Nat} (h1:1≤k) (hM:∃o,base.get? sysModules=some o) (T:Txt K w mg fa fd) (C_around:Cal P w ⟨K,w,mg⟩ base k "around" (fa 5) (fd 5) ["program","place"] (F 5)) (C_at:Cal P w ⟨K,w,mg⟩ base k "at" (fa 2) (fd 2) ["program","place"] (F 2)) (C_form_by:Cal P w ⟨K,w,mg⟩ base k "form_by" (fa 4) (fd 4) ["thing","given","outer"] (F 4)) (cdv:Value) (A:Around) (outer:List Env) (s:Shared) (H:Hp) (E:XK)
 (hrM:RoomG (k+1) (A.deeper (envOfC "form_at" (defScope s_form_at) s.heap.objs.size (fa 6) cdv))):
 PSs (cxOf (L2.CX P w) P w K mg base N_form_at "form_at" (defScope s_form_at) (fa 6) cdv A outer s H E) (defBody s_form_at) (tS ⟨K,w,mg⟩ (m_form_at F) (WE0 E)):=
 have hr:=hrM.mono (Nat.le_succ _)
 have hr2:RoomG 2 _:=hrM.mono (Nat.succ_le_succ h1)
 q_scons (q_set (i:=2) sc_form_at.nd (by rfl) (.inl (by rfl)) (q_fn C_at T.bnd_at hr (by rfl) (by rfl) (by rfl) tk_body (q_cons (q_var (pv 0)) (q_cons (q_var (pv 1)) (q_nil)))))
  (q_sone (q_ret (q_fn C_form_by T.bnd_form_by hr (by rfl) (by rfl) (by rfl) tk_body (q_cons (q_var (pv 2)) (q_cons (q_tup (q_nil)) (q_cons (q_fn C_around T.bnd_around hr (by rfl) (by rfl) (by rfl) tk_body (q_cons (q_var (pv 0)) (q_cons (q_var (pv 1)) (q_nil)))) (q_nil)))))))
theorem b_form_of {P:Program} {K:PySem.W.Frag} {w:World} {mg:Str→Option Value} {base:Heap} {fa:Nat→Addr} {fd:Nat→FuncData} {F:Nat→FN} {k:Nat} (h1:1≤k) (hM:∃o,base.get? sysModules=some o) (T:Txt K w mg fa fd) (C_form_by:Cal P w ⟨K,w,mg⟩ base k "form_by" (fa 4) (fd 4) ["thing","given","outer"] (F 4)) (cdv:Value) (A:Around) (outer:List Env) (s:Shared) (H:Hp) (E:XK)
 (hrM:RoomG (k+1) (A.deeper (envOfC "form_of" (defScope s_form_of) s.heap.objs.size (fa 7) cdv))):
 PSs (cxOf (L2.CX P w) P w K mg base N_form_of "form_of" (defScope s_form_of) (fa 7) cdv A outer s H E) (defBody s_form_of) (tS ⟨K,w,mg⟩ (m_form_of F) (WE0 E)):=
 have hr:=hrM.mono (Nat.le_succ _)
 have hr2:RoomG 2 _:=hrM.mono (Nat.succ_le_succ h1)
 q_sone (q_ret (q_fn C_form_by T.bnd_form_by hr (by rfl) (by rfl) (by rfl) tk_body (q_cons (q_var (pv 0)) (q_cons (q_tup (q_nil)) (q_cons (q_dic0) (q_nil))))))
theorem b_are_alike {P:Program} {K:PySem.W.Frag} {w:World} {mg:Str→Option Value} {base:Heap} {fa:Nat→Addr} {fd:Nat→FuncData} {F:Nat→FN} {k:Nat} (h1:1≤k) (hM:∃o,base.get? sysModules=some o) (T:Txt K w mg fa fd) (C_form_of:Cal P w ⟨K,w,mg⟩ base k "form_of" (fa 7) (fd 7) ["program"] (F 7)) (cdv:Value) (A:Around) (outer:List Env) (s:Shared) (H:Hp) (E:XK)
 (hrM:RoomG (k+1) (A.deeper (envOfC "are_alike" (defScope s_are_alike) s.heap.objs.size (fa 8) cdv))):
 PSs (cxOf (L2.CX P w) P w K mg base N_are_alike "are_alike" (defScope s_are_alike) (fa 8) cdv A outer s H E) (defBody s_are_alike) (tS ⟨K,w,mg⟩ (m_are_alike F) (WE0 E)):=
 have hr:=hrM.mono (Nat.le_succ _)
 have hr2:RoomG 2 _:=hrM.mono (Nat.succ_le_succ h1)
 q_sone (q_ret (q_cmp (o_eq (by rfl) hr.units) c_eq (q_fn C_form_of T.bnd_form_of hr (by rfl) (by rfl) (by rfl) tk_body (q_cons (q_var (pv 0)) (q_nil))) (q_fn C_form_of T.bnd_form_of hr (by rfl) (by rfl) (by rfl) tk_body (q_cons (q_var (pv 1)) (q_nil))) (nomark _)))
theorem b_same_at {P:Program} {K:PySem.W.Frag} {w:World} {mg:Str→Option Value} {base:Heap} {fa:Nat→Addr} {fd:Nat→FuncData} {F:Nat→FN} {k:Nat} (h1:1≤k) (hM:∃o,base.get? sysModules=some o) (T:Txt K w mg fa fd) (C_form_at:Cal P w ⟨K,w,mg⟩ base k "form_at" (fa 6) (fd 6) ["program","place"] (F 6)) (cdv:Value) (A:Around) (outer:List Env) (s:Shared) (H:Hp) (E:XK)
 (hrM:RoomG (k+1) (A.deeper (envOfC "same_at" (defScope s_same_at) s.heap.objs.size (fa 9) cdv))):
 PSs (cxOf (L2.CX P w) P w K mg base N_same_at "same_at" (defScope s_same_at) (fa 9) cdv A outer s H E) (defBody s_same_at) (tS ⟨K,w,mg⟩ (m_same_at F) (WE0 E)):=
 have hr:=hrM.mono (Nat.le_succ _)
 have hr2:RoomG 2 _:=hrM.mono (Nat.succ_le_succ h1)
 q_scons (q_set (i:=3) sc_same_at.nd (by rfl) (.inl (by rfl)) (q_fn C_form_at T.bnd_form_at hr (by rfl) (by rfl) (by rfl) tk_body (q_cons (q_var (pv 0)) (q_cons (q_var (pv 1)) (q_nil)))))
  (q_sone (q_ret (q_cmp (o_eq (by rfl) hr.units) c_eq (q_var (pv 3)) (q_fn C_form_at T.bnd_form_at hr (by rfl) (by rfl) (by rfl) tk_body (q_cons (q_var (pv 0)) (q_cons (q_var (pv 2)) (q_nil)))) (nomark _))))
theorem b_same_runs {P:Program} {K:PySem.W.Frag} {w:World} {mg:Str→Option Value} {base:Heap} {fa:Nat→Addr} {fd:Nat→FuncData} {F:Nat→FN} {k:Nat} (h1:1≤k) (hM:∃o,base.get? sysModules=some o) (T:Txt K w mg fa fd) (C_form_at:Cal P w ⟨K,w,mg⟩ base k "form_at" (fa 6) (fd 6) ["program","place"] (F 6)) (cdv:Value) (A:Around) (outer:List Env) (s:Shared) (H:Hp) (E:XK)
 (hrM:RoomG (k+1) (A.deeper (envOfC "same_runs" (defScope s_same_runs) s.heap.objs.size (fa 10) cdv))):
 PSs (cxOf (L2.CX P w) P w K mg base N_same_runs "same_runs" (defScope s_same_runs) (fa 10) cdv A outer s H E) (defBody s_same_runs) (tS ⟨K,w,mg⟩ (m_same_runs F) (WE0 E)):=
 have hr:=hrM.mono (Nat.le_succ _)
 have hr2:RoomG 2 _:=hrM.mono (Nat.succ_le_succ h1)
 q_scons (q_setLcx (i:=3) (own:= [("place",4)]) rfl rfl tk_body (by rfl) sc_same_runs.nd (by rfl) (by rfl) (sw_true (by rfl) (by rfl) (by rfl) (by decide +kernel)) (q_iter (by rfl) (q_var (pv 1))) (blkOk_by (own:= [("place",4)]) (N:=N_same_runs) (sc:=defScope s_same_runs) (by decide +kernel)) (fun _ _ _ _ _ _=>q_gnameW (pg_name (i:=4) sc_same_runs.nd (by rfl) (.inl (by rfl))) (by decide)) (fun _ _ _ _ _ _=>q_tnil) (fun _ _ _ _ _ _ tkx=>q_fn C_form_at T.bnd_form_at hr (by rfl) (by rfl) (by rfl) tkx (q_cons (q_var (pv 0)) (q_cons (q_var (pv 4)) (q_nil)))))
  (q_sone (q_ret (q_cmp (o_eq (by rfl) hr.units) c_eq (q_var (pv 3)) (q_lcx (own:= [("place",4)]) rfl rfl tk_body (by rfl) sc_same_runs.nd (q_iter (by rfl) (q_var (pv 2))) (blkOk_by (own:= [("place",4)]) (N:=N_same_runs) (sc:=defScope s_same_runs) (by decide +kernel)) (fun _ _ _ _ _ _=>q_gnameW (pg_name (i:=4) sc_same_runs.nd (by rfl) (.inl (by rfl))) (by decide)) (fun _ _ _ _ _ _=>q_tnil) (fun _ _ _ _ _ _ tkx=>q_fn C_form_at T.bnd_form_at hr (by rfl) (by rfl) (by rfl) tkx (q_cons (q_var (pv 0)) (q_cons (q_var (pv 4)) (q_nil))))) (nomark _))))
theorem b_same_heaps {P:Program} {K:PySem.W.Frag} {w:World} {mg:Str→Option Value} {base:Heap} {fa:Nat→Addr} {fd:Nat→FuncData} {F:Nat→FN} {k:Nat} (h1:1≤k) (hM:∃o,base.get? sysModules=some o) (T:Txt K w mg fa fd) (C_form_at:Cal P w ⟨K,w,mg⟩ base k "form_at" (fa 6) (fd 6) ["program","place"] (F 6)) (cdv:Value) (A:Around) (outer:List Env) (s:Shared) (H:Hp) (E:XK)
 (hrM:RoomG (k+1) (A.deeper (envOfC "same_heaps" (defScope s_same_heaps) s.heap.objs.size (fa 11) cdv))):
 PSs (cxOf (L2.CX P w) P w K mg base N_same_heaps "same_heaps" (defScope s_same_heaps) (fa 11) cdv A outer s H E) (defBody s_same_heaps) (tS ⟨K,w,mg⟩ (m_same_heaps F) (WE0 E)):=
 have hr:=hrM.mono (Nat.le_succ _)
 have hr2:RoomG 2 _:=hrM.mono (Nat.succ_le_succ h1)
 q_scons (q_set (i:=3) sc_same_heaps.nd (by rfl) (.inl (by rfl)) (q_callB (o_sorted (by rfl) (u65 hr)) c_sorted (by rfl) T.z_sorted b_sorted (q_cons (q_lcx (own:= [("place",4)]) rfl rfl tk_body (by rfl) sc_same_heaps.nd (q_iter (by rfl) (q_var (pv 1))) (blkOk_by (own:= [("place",4)]) (N:=N_same_heaps) (sc:=defScope s_same_heaps) (by decide +kernel)) (fun _ _ _ _ _ _=>q_gnameW (pg_name (i:=4) sc_same_heaps.nd (by rfl) (.inl (by rfl))) (by decide)) (fun _ _ _ _ _ _=>q_tnil) (fun _ _ _ _ _ _ tkx=>q_fn C_form_at T.bnd_form_at hr (by rfl) (by rfl) (by rfl) tkx (q_cons (q_var (pv 0)) (q_cons (q_var (pv 4)) (q_nil))))) (q_nil))))
  (q_sone (q_ret (q_cmp (o_eq (by rfl) hr.units) c_eq (q_var (pv 3)) (q_callB (o_sorted (by rfl) (u65 hr)) c_sorted (by rfl) T.z_sorted b_sorted (q_cons (q_lcx (own:= [("place",4)]) rfl rfl tk_body (by rfl) sc_same_heaps.nd (q_iter (by rfl) (q_var (pv 2))) (blkOk_by (own:= [("place",4)]) (N:=N_same_heaps) (sc:=defScope s_same_heaps) (by decide +kernel)) (fun _ _ _ _ _ _=>q_gnameW (pg_name (i:=4) sc_same_heaps.nd (by rfl) (.inl (by rfl))) (by decide)) (fun _ _ _ _ _ _=>q_tnil) (fun _ _ _ _ _ _ tkx=>q_fn C_form_at T.bnd_form_at hr (by rfl) (by rfl) (by rfl) tkx (q_cons (q_var (pv 0)) (q_cons (q_var (pv 4)) (q_nil))))) (q_nil))) (nomark _))))
theorem b_law_purse {P:Program} {K:PySem.W.Frag} {w:World} {mg:Str→Option Value} {base:Heap} {fa:Nat→Addr} {fd:Nat→FuncData} {F:Nat→FN} {k:Nat} (h1:1≤k) (hM:∃o,base.get? sysModules=some o) (T:Txt K w mg fa fd) (cdv:Value) (A:Around) (outer:List Env) (s:Shared) (H:Hp) (E:XK)
 (hrM:RoomG (k+1) (A.deeper (envOfC "_law_purse" (defScope s_law_purse) s.heap.objs.size (fa 12) cdv))):
 PSs (cxOf (L2.CX P w) P w K mg base N_law_purse "_law_purse" (defScope s_law_purse) (fa 12) cdv A outer s H E) (defBody s_law_purse) (tS ⟨K,w,mg⟩ (m_law_purse F) (WE0 E)):=
 have hr:=hrM.mono (Nat.le_succ _)
 have hr2:RoomG 2 _:=hrM.mono (Nat.succ_le_succ h1)
 q_scons (q_par (i:=1) (j:=2) (by rfl) sc_law_purse.nd (by rfl) (by rfl) (by decide) (by rfl) (by rfl) (q_cons (q_int) (q_cons (q_obj (q_nil)) (q_nil))) (by rfl))
  (q_scons (q_for po_body (by rfl) (q_iter (by rfl) (q_sliceS (by rfl) (q_var (pv 0)) (q_pno) (q_pyes (q_int)))) (q_gname (pg_name (i:=3) sc_law_purse.nd (by rfl) (.inl (by rfl)))) (q_scons (q_set (i:=1) sc_law_purse.nd (by rfl) (.inl (by rfl)) (q_op o_mod c_mod (q_op (o_add (by rfl)) c_add (q_op (o_add (by rfl)) c_add (q_op o_mul c_mul (q_var (pv 1)) (q_int)) (q_op o_mod c_mod (q_var (pv 3)) (q_int))) (q_int)) (q_int)))
  (q_sone (q_if (q_tcmp o_ge c_ge (q_callB o_abs c_abs (by rfl) T.z_abs b_abs (q_cons (q_var (pv 3)) (q_nil))) (q_op o_pow c_pow (q_int) (q_int)) (nomark _)) (q_sone (q_expr (q_bm (by rfl) PySem.F.plainAttrs_list PySem.F.slot_list_append PySem.F.type_list_append o_append c_append (q_var (pv 2)) (q_cons (q_op o_mod c_mod (q_callB o_abs c_abs (by rfl) T.z_abs b_abs (q_cons (q_var (pv 3)) (q_nil))) (q_op o_mul c_mul (q_op o_pow c_pow (q_int) (q_int)) (q_op o_pow c_pow (q_int) (q_int)))) (q_nil))))) (q_snil)))))
  (q_sone (q_ret (q_obj (q_cons (q_var (pv 2)) (q_cons (q_var (pv 1)) (q_cons (q_int) (q_nil))))))))
theorem b_law_pick {P:Program} {K:PySem.W.Frag} {w:World} {mg:Str→Option Value} {base:Heap} {fa:Nat→Addr} {fd:Nat→FuncData} {F:Nat→FN} {k:Nat} (h1:1≤k) (hM:∃o,base.get? sysModules=some o) (T:Txt K w mg fa fd) (cdv:Value) (A:Around) (outer:List Env) (s:Shared) (H:Hp) (E:XK)
 (hrM:RoomG (k+1) (A.deeper (envOfC "_law_pick" (defScope s_law_pick) s.heap.objs.size (fa 13) cdv))):
 PSs (cxOf (L2.CX P w) P w K mg base N_law_pick "_law_pick" (defScope s_law_pick) (fa 13) cdv A outer s H E) (defBody s_law_pick) (tS ⟨K,w,mg⟩ (m_law_pick F) (WE0 E)):=
 have hr:=hrM.mono (Nat.le_succ _)
 have hr2:RoomG 2 _:=hrM.mono (Nat.succ_le_succ h1)
 q_scons (q_while fuel po_body (q_tb (w_and (q_tcmp (o_ne0 hr.units) c_ne0 (q_ix (o_ix (by rfl) (by rfl) (u1 hr)) c_ix (q_var (pv 0)) (q_int) (fun _ _=>rfl)) (q_lst (q_nil)) (nomark _)) (w_and1 (q_tcmp (o_eq (by rfl) hr.units) c_eq (q_ix (o_ix (by rfl) (by rfl) (u1 hr)) c_ix (q_ix (o_ix (by rfl) (by rfl) (u1 hr)) c_ix (q_var (pv 0)) (q_int) (fun _ _=>rfl)) (q_int) (fun _ _=>rfl)) (q_int) (nomark _))))) (q_sone (q_expr (q_bm (by rfl) PySem.F.plainAttrs_list PySem.F.slot_list_pop PySem.F.type_list_pop o_pop c_pop (q_ix (o_ix (by rfl) (by rfl) (u1 hr)) c_ix (q_var (pv 0)) (q_int) (fun _ _=>rfl)) (q_cons (q_int) (q_nil))))))
  (q_scons (q_if (q_tcmp (o_ne0 hr.units) c_ne0 (q_ix (o_ix (by rfl) (by rfl) (u1 hr)) c_ix (q_var (pv 0)) (q_int) (fun _ _=>rfl)) (q_lst (q_nil)) (nomark _)) (q_scons (q_set (i:=2) sc_law_pick.nd (by rfl) (.inl (by rfl)) (q_op o_mod c_mod (q_ix (o_ix (by rfl) (by rfl) (u1 hr)) c_ix (q_ix (o_ix (by rfl) (by rfl) (u1 hr)) c_ix (q_var (pv 0)) (q_int) (fun _ _=>rfl)) (q_int) (fun _ _=>rfl)) (q_var (pv 1))))
  (q_scons (q_asg (q_op o_fdiv c_fdiv (q_ix (o_ix (by rfl) (by rfl) (u1 hr)) c_ix (q_ix (o_ix (by rfl) (by rfl) (u1 hr)) c_ix (q_var (pv 0)) (q_int) (fun _ _=>rfl)) (q_int) (fun _ _=>rfl)) (q_var (pv 1))) (q_gsub (Wx:=WE0 E) (u1 hr) (q_ix (o_ix (by rfl) (by rfl) (u1 hr)) c_ix (q_var (pv 0)) (q_int) (fun _ _=>rfl)) (q_int)) (gn:=gn_sub))
  (q_sone (q_ret (q_var (pv 2)))))) (q_snil))
  (q_scons (q_asg (q_op (o_add (by rfl)) c_add (q_ix (o_ix (by rfl) (by rfl) (u1 hr)) c_ix (q_var (pv 0)) (q_int) (fun _ _=>rfl)) (q_int)) (q_gsub (Wx:=WE0 E) (u1 hr) (q_var (pv 0)) (q_int)) (gn:=gn_sub))
  (q_scons (q_set (i:=3) sc_law_pick.nd (by rfl) (.inl (by rfl)) (q_ix (o_ix (by rfl) (by rfl) (u1 hr)) c_ix (q_var (pv 0)) (q_int) (fun _ _=>rfl)))
  (q_scons (q_set (i:=4) sc_law_pick.nd (by rfl) (.inl (by rfl)) (q_ix (o_ix (by rfl) (by rfl) (u1 hr)) c_ix (q_lst (q_cons (q_int) (q_cons (q_int) (q_cons (q_int) (q_cons (q_int) (q_cons (q_int) (q_cons (q_int) (q_cons (q_int) (q_nil))))))))) (q_op o_mod c_mod (q_var (pv 3)) (q_int)) (fun _ _=>rfl)))
  (q_scons (q_set (i:=5) sc_law_pick.nd (by rfl) (.inl (by rfl)) (q_op o_mod c_mod (q_op (o_add (by rfl)) c_add (q_ix (o_ix (by rfl) (by rfl) (u1 hr)) c_ix (q_var (pv 0)) (q_int) (fun _ _=>rfl)) (q_op o_mul c_mul (q_int) (q_var (pv 3)))) (q_int)))
  (q_scons (q_set (i:=6) sc_law_pick.nd (by rfl) (.inl (by rfl)) (q_op o_mul c_mul (q_op o_mod c_mod (q_op o_pow c_pow (q_var (pv 5)) (q_int)) (q_int)) (q_op (o_add (by rfl)) c_add (q_op o_mul c_mul (q_int) (q_var (pv 3))) (q_int))))
  (q_sone (q_ret (q_op o_mod c_mod (q_op o_fdiv c_fdiv (q_op o_mod c_mod (q_op (o_add (by rfl)) c_add (q_var (pv 6)) (q_op o_fdiv c_fdiv (q_ix (o_ix (by rfl) (by rfl) (u1 hr)) c_ix (q_var (pv 0)) (q_int) (fun _ _=>rfl)) (q_int))) (q_var (pv 4))) (q_int)) (q_var (pv 1)))))))))))
theorem b_law_thing {P:Program} {K:PySem.W.Frag} {w:World} {mg:Str→Option Value} {base:Heap} {fa:Nat→Addr} {fd:Nat→FuncData} {F:Nat→FN} {k:Nat} (h1:1≤k) (hM:∃o,base.get? sysModules=some o) (T:Txt K w mg fa fd) (C_law_pick:Cal P w ⟨K,w,mg⟩ base k "_law_pick" (fa 13) (fd 13) ["_law_purse_here","_law_many"] (F 13)) (C_law_thing:Cal P w ⟨K,w,mg⟩ base k "_law_thing" (fa 14) (fd 14) ["_law_purse_here","_law_deep_here","_law_room","_law_given"] (F 14)) (cdv:Value) (A:Around) (outer:List Env) (s:Shared) (H:Hp) (E:XK)
 (hrM:RoomG (k+1) (A.deeper (envOfC "_law_thing" (defScope s_law_thing) s.heap.objs.size (fa 14) cdv))):
 PSs (cxOf (L2.CX P w) P w K mg base N_law_thing "_law_thing" (defScope s_law_thing) (fa 14) cdv A outer s H E) (defBody s_law_thing) (tS ⟨K,w,mg⟩ (m_law_thing F) (WE0 E)):=
 have hr:=hrM.mono (Nat.le_succ _)
 have hr2:RoomG 2 _:=hrM.mono (Nat.succ_le_succ h1)
 q_scons (q_par (i:=4) (j:=5) (by rfl) sc_law_thing.nd (by rfl) (by rfl) (by decide) (by rfl) (by rfl) (q_cons (q_fn C_law_pick T.bnd_law_pick hr (by rfl) (by rfl) (by rfl) tk_body (q_cons (q_var (pv 0)) (q_cons (q_int) (q_nil)))) (q_cons (q_lst (q_cons (q_str) (q_cons (q_str) (q_cons (q_str) (q_cons (q_str) (q_nil)))))) (q_nil))) (by rfl))
  (q_scons (q_if (q_tb (w_or (q_tcmp o_lt c_lt (q_var (pv 1)) (q_int) (nomark _)) (w_or (q_tcmp o_lt c_lt (q_ix (o_ix (by rfl) (by rfl) (u1 hr)) c_ix (q_var (pv 2)) (q_int) (fun _ _=>rfl)) (q_int) (nomark _)) (w_or1 (q_tcmp o_lt c_lt (q_var (pv 4)) (q_int) (nomark _)))))) (q_scons (q_if (q_tcmp (o_eq (by rfl) hr.units) c_eq (q_fn C_law_pick T.bnd_law_pick hr (by rfl) (by rfl) (by rfl) tk_body (q_cons (q_var (pv 0)) (q_cons (q_int) (q_nil)))) (q_int) (nomark _)) (q_sone (q_ret (q_tup (q_cons (q_str) (q_cons (q_ix (o_ix (by rfl) (by rfl) (u1 hr)) c_ix (q_lst (q_cons (q_int) (q_cons (q_int) (q_cons (q_int) (q_cons (q_int) (q_nil)))))) (q_fn C_law_pick T.bnd_law_pick hr (by rfl) (by rfl) (by rfl) tk_body (q_cons (q_var (pv 0)) (q_cons (q_int) (q_nil)))) (fun _ _=>rfl)) (q_cons (q_tup (q_nil)) (q_nil))))))) (q_snil))
  (q_scons (q_set (i:=6) sc_law_thing.nd (by rfl) (.inl (by rfl)) (q_op (o_add (by rfl)) c_add (q_var (pv 5)) (q_op o_mul c_mul (q_callTy (o_list (by rfl)) c_list (by rfl) T.z_list b_list (q_cons (q_var (pv 3)) (q_nil))) (q_int))))
  (q_sone (q_ret (q_tup (q_cons (q_str) (q_cons (q_ix (o_ix (by rfl) (by rfl) (u1 hr)) c_ix (q_var (pv 6)) (q_fn C_law_pick T.bnd_law_pick hr (by rfl) (by rfl) (by rfl) tk_body (q_cons (q_var (pv 0)) (q_cons (q_callB (o_len (by rfl)) c_len (by rfl) T.z_len b_len (q_cons (q_var (pv 6)) (q_nil))) (q_nil)))) (fun _ _=>rfl)) (q_cons (q_tup (q_nil)) (q_nil))))))))) (q_snil))
  (q_scons (q_if (q_tcmp o_gt c_gt (q_var (pv 4)) (q_int) (nomark _)) (q_scons (q_par (i:=7) (j:=8) (by rfl) sc_law_thing.nd (by rfl) (by rfl) (by decide) (by rfl) (by rfl) (q_cons (q_ix (o_ix (by rfl) (by rfl) (u1 hr)) c_ix (q_lst (q_cons (q_str) (q_cons (q_str) (q_nil)))) (q_fn C_law_pick T.bnd_law_pick hr (by rfl) (by rfl) (by rfl) tk_body (q_cons (q_var (pv 0)) (q_cons (q_int) (q_nil)))) (fun _ _=>rfl)) (q_cons (q_ix (o_ix (by rfl) (by rfl) (u1 hr)) c_ix (q_var (pv 5)) (q_fn C_law_pick T.bnd_law_pick hr (by rfl) (by rfl) (by rfl) tk_body (q_cons (q_var (pv 0)) (q_cons (q_int) (q_nil)))) (fun _ _=>rfl)) (q_nil))) (by rfl))
  (q_scons (q_asg (q_op o_sub c_sub (q_ix (o_ix (by rfl) (by rfl) (u1 hr)) c_ix (q_var (pv 2)) (q_int) (fun _ _=>rfl)) (q_int)) (q_gsub (Wx:=WE0 E) (u1 hr) (q_var (pv 2)) (q_int)) (gn:=gn_sub))
  (q_scons (q_set (i:=9) sc_law_thing.nd (by rfl) (.inl (by rfl)) (q_fn C_law_thing T.bnd_law_thing hr (by rfl) (by rfl) (by rfl) tk_body (q_cons (q_var (pv 0)) (q_cons (q_op o_sub c_sub (q_var (pv 1)) (q_int)) (q_cons (q_var (pv 2)) (q_cons (q_var (pv 3)) (q_nil)))))))
  (q_sone (q_ret (q_tup (q_cons (q_var (pv 7)) (q_cons (q_var (pv 8)) (q_cons (q_tup (q_cons (q_var (pv 9)) (q_cons (q_fn C_law_thing T.bnd_law_thing hr (by rfl) (by rfl) (by rfl) tk_body (q_cons (q_var (pv 0)) (q_cons (q_op o_sub c_sub (q_var (pv 1)) (q_int)) (q_cons (q_var (pv 2)) (q_cons (q_op (o_add (by rfl)) c_add (q_var (pv 3)) (q_tup (q_cons (q_var (pv 8)) (q_nil)))) (q_nil)))))) (q_nil)))) (q_nil)))))))))) (q_snil))
  (q_scons (q_par (i:=7) (j:=10) (by rfl) sc_law_thing.nd (by rfl) (by rfl) (by decide) (by rfl) (by rfl) (q_cons (q_ix (o_ix (by rfl) (by rfl) (u1 hr)) c_ix (q_lst (q_cons (q_str) (q_cons (q_str) (q_cons (q_str) (q_nil))))) (q_fn C_law_pick T.bnd_law_pick hr (by rfl) (by rfl) (by rfl) tk_body (q_cons (q_var (pv 0)) (q_cons (q_int) (q_nil)))) (fun _ _=>rfl)) (q_cons (q_op (o_add (by rfl)) c_add (q_int) (q_fn C_law_pick T.bnd_law_pick hr (by rfl) (by rfl) (by rfl) tk_body (q_cons (q_var (pv 0)) (q_cons (q_ix (o_ix (by rfl) (by rfl) (u1 hr)) c_ix (q_lst (q_cons (q_int) (q_cons (q_int) (q_nil)))) (q_callTy o_int c_int (by rfl) T.z_int b_int (q_cons (q_cmp (o_eq (by rfl) hr.units) c_eq (q_var (pv 4)) (q_int) (nomark _)) (q_nil))) (fun _ _=>rfl)) (q_nil))))) (q_nil))) (by rfl))
  (q_scons (q_if (q_tcmp o_gt c_gt (q_var (pv 4)) (q_int) (nomark _)) (q_sone (q_par (i:=7) (j:=10) (by rfl) sc_law_thing.nd (by rfl) (by rfl) (by decide) (by rfl) (by rfl) (q_cons (q_str) (q_cons (q_fn C_law_pick T.bnd_law_pick hr (by rfl) (by rfl) (by rfl) tk_body (q_cons (q_var (pv 0)) (q_cons (q_ix (o_ix (by rfl) (by rfl) (u1 hr)) c_ix (q_lst (q_cons (q_int) (q_cons (q_int) (q_nil)))) (q_callTy o_int c_int (by rfl) T.z_int b_int (q_cons (q_cmp (o_eq (by rfl) hr.units) c_eq (q_var (pv 4)) (q_int) (nomark _)) (q_nil))) (fun _ _=>rfl)) (q_nil)))) (q_nil))) (by rfl))) (q_snil))
  (q_scons (q_if (q_tcmp o_gt c_gt (q_var (pv 4)) (q_int) (nomark _)) (q_sone (q_asg (q_ix (o_ix (by rfl) (by rfl) (u1 hr)) c_ix (q_lst (q_cons (q_tup (q_cons (q_str) (q_cons (q_int) (q_nil)))) (q_cons (q_tup (q_cons (q_str) (q_cons (q_int) (q_nil)))) (q_cons (q_tup (q_cons (q_str) (q_cons (q_int) (q_nil)))) (q_cons (q_tup (q_cons (q_str) (q_cons (q_int) (q_nil)))) (q_nil)))))) (q_fn C_law_pick T.bnd_law_pick hr (by rfl) (by rfl) (by rfl) tk_body (q_cons (q_var (pv 0)) (q_cons (q_int) (q_nil)))) (fun _ _=>rfl)) (q_gtup (by rfl) (by rfl) (q_gscons (pg_name (i:=7) sc_law_thing.nd (by rfl) (.inl (by rfl))) (q_gscons (pg_name (i:=10) sc_law_thing.nd (by rfl) (.inl (by rfl))) (q_gsnil)))) (gn:=gn_tup))) (q_snil))
  (q_scons (q_asg (q_op o_sub c_sub (q_ix (o_ix (by rfl) (by rfl) (u1 hr)) c_ix (q_var (pv 2)) (q_int) (fun _ _=>rfl)) (q_var (pv 10))) (q_gsub (Wx:=WE0 E) (u1 hr) (q_var (pv 2)) (q_int)) (gn:=gn_sub))
  (q_sone (q_ret (q_tup (q_cons (q_var (pv 7)) (q_cons (q_str) (q_cons (q_callTy (o_tuple (by rfl)) c_tuple (by rfl) T.z_tuple b_tuple (q_cons (q_lc (own:= [("_law_k",11)]) (by rfl) sc_law_thing.nd (q_range1 (by rfl) T.z_range (q_cons (q_var (pv 10)) (q_nil))) (blkOk_by (own:= [("_law_k",11)]) (N:=N_law_thing) (sc:=defScope s_law_thing) (by decide +kernel)) (fun _ _ _ _ _=>q_gnameW (pg_name (i:=11) sc_law_thing.nd (by rfl) (.inl (by rfl))) (by decide)) (fun _ _ _ _ _=>q_tnil) (fun _ _ _ _ _=>q_fn C_law_thing T.bnd_law_thing hr (by rfl) (by rfl) (by rfl) tk_blk (q_cons (q_var (pv 0)) (q_cons (q_op o_sub c_sub (q_var (pv 1)) (q_int)) (q_cons (q_var (pv 2)) (q_cons (q_var (pv 3)) (q_nil))))))) (q_nil))) (q_nil)))))))))))))
theorem b_law_program {P:Program} {K:PySem.W.Frag} {w:World} {mg:Str→Option Value} {base:Heap} {fa:Nat→Addr} {fd:Nat→FuncData} {F:Nat→FN} {k:Nat} (h1:1≤k) (hM:∃o,base.get? sysModules=some o) (T:Txt K w mg fa fd) (C_law_pick:Cal P w ⟨K,w,mg⟩ base k "_law_pick" (fa 13) (fd 13) ["_law_purse_here","_law_many"] (F 13)) (C_law_thing:Cal P w ⟨K,w,mg⟩ base k "_law_thing" (fa 14) (fd 14) ["_law_purse_here","_law_deep_here","_law_room","_law_given"] (F 14)) (cdv:Value) (A:Around) (outer:List Env) (s:Shared) (H:Hp) (E:XK)
 (hrM:RoomG (k+1) (A.deeper (envOfC "_law_program" (defScope s_law_program) s.heap.objs.size (fa 15) cdv))):
 PSs (cxOf (L2.CX P w) P w K mg base N_law_program "_law_program" (defScope s_law_program) (fa 15) cdv A outer s H E) (defBody s_law_program) (tS ⟨K,w,mg⟩ (m_law_program F) (WE0 E)):=
 have hr:=hrM.mono (Nat.le_succ _)
 have hr2:RoomG 2 _:=hrM.mono (Nat.succ_le_succ h1)
 q_scons (q_par (i:=1) (j:=2) (by rfl) sc_law_program.nd (by rfl) (by rfl) (by decide) (by rfl) (by rfl) (q_cons (q_ix (o_ix (by rfl) (by rfl) (u1 hr)) c_ix (q_lst (q_cons (q_int) (q_cons (q_int) (q_cons (q_int) (q_cons (q_int) (q_cons (q_int) (q_cons (q_int) (q_nil)))))))) (q_fn C_law_pick T.bnd_law_pick hr (by rfl) (by rfl) (by rfl) tk_body (q_cons (q_var (pv 0)) (q_cons (q_int) (q_nil)))) (fun _ _=>rfl)) (q_cons (q_ix (o_ix (by rfl) (by rfl) (u1 hr)) c_ix (q_lst (q_cons (q_int) (q_cons (q_int) (q_cons (q_int) (q_cons (q_int) (q_nil)))))) (q_fn C_law_pick T.bnd_law_pick hr (by rfl) (by rfl) (by rfl) tk_body (q_cons (q_var (pv 0)) (q_cons (q_int) (q_nil)))) (fun _ _=>rfl)) (q_nil))) (by rfl))
  (q_sone (q_ret (q_fn C_law_thing T.bnd_law_thing hr (by rfl) (by rfl) (by rfl) tk_body (q_cons (q_var (pv 0)) (q_cons (q_var (pv 1)) (q_cons (q_obj (q_cons (q_var (pv 2)) (q_nil))) (q_cons (q_tup (q_nil)) (q_nil))))))))
theorem b_law_free {P:Program} {K:PySem.W.Frag} {w:World} {mg:Str→Option Value} {base:Heap} {fa:Nat→Addr} {fd:Nat→FuncData} {F:Nat→FN} {k:Nat} (h1:1≤k) (hM:∃o,base.get? sysModules=some o) (T:Txt K w mg fa fd) (C_law_free:Cal P w ⟨K,w,mg⟩ base k "_law_free" (fa 16) (fd 16) ["_law_thing_here"] (F 16)) (cdv:Value) (A:Around) (outer:List Env) (s:Shared) (H:Hp) (E:XK)
 (hrM:RoomG (k+1) (A.deeper (envOfC "_law_free" (defScope s_law_free) s.heap.objs.size (fa 16) cdv))):
 PSs (cxOf (L2.CX P w) P w K mg base N_law_free "_law_free" (defScope s_law_free) (fa 16) cdv A outer s H E) (defBody s_law_free) (tS ⟨K,w,mg⟩ (m_law_free F) (WE0 E)):=
 have hr:=hrM.mono (Nat.le_succ _)
 have hr2:RoomG 2 _:=hrM.mono (Nat.succ_le_succ h1)
 q_scons (q_if (q_tcmp (o_eq (by rfl) hr.units) c_eq (q_ix (o_ix (by rfl) (by rfl) (u1 hr)) c_ix (q_var (pv 0)) (q_int) (fun _ _=>rfl)) (q_str) (nomark _)) (q_sone (q_ret (q_lst (q_cons (q_ix (o_ix (by rfl) (by rfl) (u1 hr)) c_ix (q_var (pv 0)) (q_int) (fun _ _=>rfl)) (q_nil))))) (q_snil))
  (q_scons (q_set (i:=1) sc_law_free.nd (by rfl) (.inl (by rfl)) (q_lst (q_nil)))
  (q_scons (q_for po_body (by rfl) (q_enum (by rfl) (by rfl) T.z_enumerate (q_cons (q_ix (o_ix (by rfl) (by rfl) (u1 hr)) c_ix (q_var (pv 0)) (q_int) (fun _ _=>rfl)) (q_nil))) (q_gtup (by rfl) (by rfl) (q_gscons (pg_name (i:=2) sc_law_free.nd (by rfl) (.inr (by rfl))) (q_gscons (pg_name (i:=3) sc_law_free.nd (by rfl) (.inl (by rfl))) (q_gsnil)))) (q_scons (q_set (i:=4) sc_law_free.nd (by rfl) (.inl (by rfl)) (q_fn C_law_free T.bnd_law_free hr (by rfl) (by rfl) (by rfl) tk_body (q_cons (q_var (pv 3)) (q_nil))))
  (q_sone (q_set (i:=1) sc_law_free.nd (by rfl) (.inl (by rfl)) (q_op (o_add (by rfl)) c_add (q_var (pv 1)) (q_lc (own:= [("_law_name",5)]) (by rfl) sc_law_free.nd (q_iter (by rfl) (q_var (pv 4))) (blkOk_by (own:= [("_law_name",5)]) (N:=N_law_free) (sc:=defScope s_law_free) (by decide +kernel)) (fun _ _ _ _ _=>q_gnameW (pg_name (i:=5) sc_law_free.nd (by rfl) (.inl (by rfl))) (by decide)) (fun _ _ _ _ _=>q_tone (q_tnot (q_tb (w_and (q_tcmp (o_in (by rfl) (by rfl) (u65 hr)) c_in (q_ix (o_ix (by rfl) (by rfl) (u1 hr)) c_ix (q_var (pv 0)) (q_int) (fun _ _=>rfl)) (q_tup (q_cons (q_str) (q_cons (q_str) (q_nil)))) (by rfl)) (w_and (q_tcmp (o_eq (by rfl) hr.units) c_eq (q_var (pv 2)) (q_int) (nomark _)) (w_and1 (q_tcmp (o_eq (by rfl) hr.units) c_eq (q_var (pv 5)) (q_ix (o_ix (by rfl) (by rfl) (u1 hr)) c_ix (q_var (pv 0)) (q_int) (fun _ _=>rfl)) (nomark _)))))))) (fun _ _ _ _ _=>q_var (pv 5))))))))
  (q_sone (q_ret (q_var (pv 1))))))
theorem b_law_turned {P:Program} {K:PySem.W.Frag} {w:World} {mg:Str→Option Value} {base:Heap} {fa:Nat→Addr} {fd:Nat→FuncData} {F:Nat→FN} {k:Nat} (h1:1≤k) (hM:∃o,base.get? sysModules=some o) (T:Txt K w mg fa fd) (C_law_free:Cal P w ⟨K,w,mg⟩ base k "_law_free" (fa 16) (fd 16) ["_law_thing_here"] (F 16)) (C_law_pick:Cal P w ⟨K,w,mg⟩ base k "_law_pick" (fa 13) (fd 13) ["_law_purse_here","_law_many"] (F 13)) (C_law_turned:Cal P w ⟨K,w,mg⟩ base k "_law_turned" (fa 17) (fd 17) ["_law_purse_here","_law_thing_here","_law_called"] (F 17)) (cdv:Value) (A:Around) (outer:List Env) (s:Shared) (H:Hp) (E:XK)
 (hrM:RoomG (k+1) (A.deeper (envOfC "_law_turned" (defScope s_law_turned) s.heap.objs.size (fa 17) cdv))):
 PSs (cxOf (L2.CX P w) P w K mg base N_law_turned "_law_turned" (defScope s_law_turned) (fa 17) cdv A outer s H E) (defBody s_law_turned) (tS ⟨K,w,mg⟩ (m_law_turned F) (WE0 E)):=
 have hr:=hrM.mono (Nat.le_succ _)
 have hr2:RoomG 2 _:=hrM.mono (Nat.succ_le_succ h1)
 q_scons (q_if (q_tcmp (o_eq (by rfl) hr.units) c_eq (q_ix (o_ix (by rfl) (by rfl) (u1 hr)) c_ix (q_var (pv 1)) (q_int) (fun _ _=>rfl)) (q_str) (nomark _)) (q_sone (q_ret (q_tup (q_cons (q_str) (q_cons (q_bm (by rfl) PySem.F.plainAttrs_dict PySem.F.slot_dict_get PySem.F.type_dict_get (o_dget (u1 hr)) c_dget (q_var (pv 2)) (q_cons (q_ix (o_ix (by rfl) (by rfl) (u1 hr)) c_ix (q_var (pv 1)) (q_int) (fun _ _=>rfl)) (q_cons (q_ix (o_ix (by rfl) (by rfl) (u1 hr)) c_ix (q_var (pv 1)) (q_int) (fun _ _=>rfl)) (q_nil)))) (q_cons (q_tup (q_nil)) (q_nil))))))) (q_snil))
  (q_scons (q_if (q_tcmp (o_in (by rfl) (by rfl) (u65 hr)) c_in (q_ix (o_ix (by rfl) (by rfl) (u1 hr)) c_ix (q_var (pv 1)) (q_int) (fun _ _=>rfl)) (q_tup (q_cons (q_str) (q_cons (q_str) (q_nil)))) (by rfl)) (q_scons (q_set (i:=3) sc_law_turned.nd (by rfl) (.inr (by rfl)) (q_lc (own:= [("_law_name",4)]) (by rfl) sc_law_turned.nd (q_iter (by rfl) (q_fn C_law_free T.bnd_law_free hr (by rfl) (by rfl) (by rfl) tk_body (q_cons (q_ix (o_ix (by rfl) (by rfl) (u1 hr)) c_ix (q_ix (o_ix (by rfl) (by rfl) (u1 hr)) c_ix (q_var (pv 1)) (q_int) (fun _ _=>rfl)) (q_int) (fun _ _=>rfl)) (q_nil)))) (blkOk_by (own:= [("_law_name",4)]) (N:=N_law_turned) (sc:=defScope s_law_turned) (by decide +kernel)) (fun _ _ _ _ _=>q_gnameW (pg_name (i:=4) sc_law_turned.nd (by rfl) (.inl (by rfl))) (by decide)) (fun _ _ _ _ _=>q_tone (q_tcmp (o_ne (by rfl) hr.units) c_ne (q_var (pv 4)) (q_ix (o_ix (by rfl) (by rfl) (u1 hr)) c_ix (q_var (pv 1)) (q_int) (fun _ _=>rfl)) (nomark _))) (fun _ _ _ _ _=>q_bm (by rfl) PySem.F.plainAttrs_dict PySem.F.slot_dict_get PySem.F.type_dict_get (o_dget (u1 hr)) c_dget (q_var (pv 2)) (q_cons (q_var (pv 4)) (q_cons (q_var (pv 4)) (q_nil))))))
  (q_scons (q_setLc (i:=5) (own:= [("_law_name",4)]) (by rfl) sc_law_turned.nd (by rfl) (by rfl) (sw_true (by rfl) (by rfl) (by rfl) (by decide +kernel)) (q_iter (by rfl) (q_lst (q_cons (q_str) (q_cons (q_str) (q_cons (q_str) (q_cons (q_str) (q_cons (q_str) (q_cons (q_str) (q_cons (q_str) (q_cons (q_str) (q_nil))))))))))) (blkOk_by (own:= [("_law_name",4)]) (N:=N_law_turned) (sc:=defScope s_law_turned) (by decide +kernel)) (fun _ _ _ _ _=>q_gnameW (pg_name (i:=4) sc_law_turned.nd (by rfl) (.inl (by rfl))) (by decide)) (fun _ _ _ _ _=>q_tone (q_tcmp (o_notIn (by rfl) (by rfl) (u65 hr)) c_notIn (q_var (pv 4)) (q_var (pv 3)) (by rfl))) (fun _ _ _ _ _=>q_var (pv 4)))
  (q_scons (q_set (i:=6) sc_law_turned.nd (by rfl) (.inl (by rfl)) (q_callTy o_dictO c_dictO (by rfl) T.z_dict b_dict (q_cons (q_var (pv 2)) (q_nil))))
  (q_scons (q_asg (q_ix (o_ix (by rfl) (by rfl) (u1 hr)) c_ix (q_var (pv 5)) (q_fn C_law_pick T.bnd_law_pick hr (by rfl) (by rfl) (by rfl) tk_body (q_cons (q_var (pv 0)) (q_cons (q_callB (o_len (by rfl)) c_len (by rfl) T.z_len b_len (q_cons (q_var (pv 5)) (q_nil))) (q_nil)))) (fun _ _=>rfl)) (q_gsub (Wx:=WE0 E) (u1 hr) (q_var (pv 6)) (q_ix (o_ix (by rfl) (by rfl) (u1 hr)) c_ix (q_var (pv 1)) (q_int) (fun _ _=>rfl))) (gn:=gn_sub))
  (q_scons (q_set (i:=7) sc_law_turned.nd (by rfl) (.inl (by rfl)) (q_tup (q_cons (q_fn C_law_turned T.bnd_law_turned hr (by rfl) (by rfl) (by rfl) tk_body (q_cons (q_var (pv 0)) (q_cons (q_ix (o_ix (by rfl) (by rfl) (u1 hr)) c_ix (q_ix (o_ix (by rfl) (by rfl) (u1 hr)) c_ix (q_var (pv 1)) (q_int) (fun _ _=>rfl)) (q_int) (fun _ _=>rfl)) (q_cons (q_var (pv 2)) (q_nil))))) (q_cons (q_fn C_law_turned T.bnd_law_turned hr (by rfl) (by rfl) (by rfl) tk_body (q_cons (q_var (pv 0)) (q_cons (q_ix (o_ix (by rfl) (by rfl) (u1 hr)) c_ix (q_ix (o_ix (by rfl) (by rfl) (u1 hr)) c_ix (q_var (pv 1)) (q_int) (fun _ _=>rfl)) (q_int) (fun _ _=>rfl)) (q_cons (q_var (pv 6)) (q_nil))))) (q_nil)))))
  (q_sone (q_ret (q_tup (q_cons (q_ix (o_ix (by rfl) (by rfl) (u1 hr)) c_ix (q_var (pv 1)) (q_int) (fun _ _=>rfl)) (q_cons (q_ix (o_ix (by rfl) (by rfl) (u1 hr)) c_ix (q_var (pv 6)) (q_ix (o_ix (by rfl) (by rfl) (u1 hr)) c_ix (q_var (pv 1)) (q_int) (fun _ _=>rfl)) (fun _ _=>rfl)) (q_cons (q_var (pv 7)) (q_nil)))))))))))) (q_snil))
  (q_scons (q_setLcN (i:=7) (own:= [("_law_part",8)]) (by rfl) sc_law_turned.nd (by rfl) (by rfl) (sw_true (by rfl) (by rfl) (by rfl) (by decide +kernel)) (q_iter (by rfl) (q_ix (o_ix (by rfl) (by rfl) (u1 hr)) c_ix (q_var (pv 1)) (q_int) (fun _ _=>rfl))) (blkOk_by (own:= [("_law_part",8)]) (N:=N_law_turned) (sc:=defScope s_law_turned) (by decide +kernel)) (fun _ _ _ _ _=>q_gnameW (pg_name (i:=8) sc_law_turned.nd (by rfl) (.inl (by rfl))) (by decide)) (fun _ _ _ _ _=>q_tnil) (fun _ _ _ _ _=>q_fn C_law_turned T.bnd_law_turned hr (by rfl) (by rfl) (by rfl) tk_blk (q_cons (q_var (pv 0)) (q_cons (q_var (pv 8)) (q_cons (q_var (pv 2)) (q_nil))))))
  (q_scons (q_if (q_tcmp (o_in (by rfl) (by rfl) (u65 hr)) c_in (q_ix (o_ix (by rfl) (by rfl) (u1 hr)) c_ix (q_var (pv 1)) (q_int) (fun _ _=>rfl)) (q_tup (q_cons (q_str) (q_cons (q_str) (q_cons (q_str) (q_nil))))) (by rfl)) (q_scons (q_par (i:=9) (j:=7) (by rfl) sc_law_turned.nd (by rfl) (by rfl) (by decide) (by rfl) (by rfl) (q_cons (q_var (pv 7)) (q_cons (q_obj (q_nil)) (q_nil))) (by rfl))
  (q_sone (q_sfrz (q_for po_body (by rfl) (q_iter (by rfl) (q_var (pv 9))) (q_gname (pg_name (i:=8) sc_law_turned.nd (by rfl) (.inl (by rfl)))) (q_sone (q_expr (q_bm (by rfl) PySem.F.plainAttrs_list PySem.F.slot_list_insert PySem.F.type_list_insert o_insert c_insert (q_var (pv 7)) (q_cons (q_fn C_law_pick T.bnd_law_pick hr (by rfl) (by rfl) (by rfl) tk_body (q_cons (q_var (pv 0)) (q_cons (q_op (o_add (by rfl)) c_add (q_callB (o_len (by rfl)) c_len (by rfl) T.z_len b_len (q_cons (q_var (pv 7)) (q_nil))) (q_int)) (q_nil)))) (q_cons (q_var (pv 8)) (q_nil)))))))))) (q_snil))
  (q_sone (q_ret (q_tup (q_cons (q_ix (o_ix (by rfl) (by rfl) (u1 hr)) c_ix (q_var (pv 1)) (q_int) (fun _ _=>rfl)) (q_cons (q_ix (o_ix (by rfl) (by rfl) (u1 hr)) c_ix (q_var (pv 1)) (q_int) (fun _ _=>rfl)) (q_cons (q_callTy (o_tuple (by rfl)) c_tuple (by rfl) T.z_tuple b_tuple (q_cons (q_var (pv 7)) (q_nil))) (q_nil))))))))))
theorem b_law_places {P:Program} {K:PySem.W.Frag} {w:World} {mg:Str→Option Value} {base:Heap} {fa:Nat→Addr} {fd:Nat→FuncData} {F:Nat→FN} {k:Nat} (h1:1≤k) (hM:∃o,base.get? sysModules=some o) (T:Txt K w mg fa fd) (C_law_places:Cal P w ⟨K,w,mg⟩ base k "_law_places" (fa 18) (fd 18) ["_law_thing_here"] (F 18)) (cdv:Value) (A:Around) (outer:List Env) (s:Shared) (H:Hp) (E:XK)
 (hrM:RoomG (k+1) (A.deeper (envOfC "_law_places" (defScope s_law_places) s.heap.objs.size (fa 18) cdv))):
 PSs (cxOf (L2.CX P w) P w K mg base N_law_places "_law_places" (defScope s_law_places) (fa 18) cdv A outer s H E) (defBody s_law_places) (tS ⟨K,w,mg⟩ (m_law_places F) (WE0 E)):=
 have hr:=hrM.mono (Nat.le_succ _)
 have hr2:RoomG 2 _:=hrM.mono (Nat.succ_le_succ h1)
 q_scons (q_set (i:=1) sc_law_places.nd (by rfl) (.inl (by rfl)) (q_lst (q_cons (q_tup (q_nil)) (q_nil))))
  (q_scons (q_for po_body (by rfl) (q_enum (by rfl) (by rfl) T.z_enumerate (q_cons (q_ix (o_ix (by rfl) (by rfl) (u1 hr)) c_ix (q_var (pv 0)) (q_int) (fun _ _=>rfl)) (q_nil))) (q_gtup (by rfl) (by rfl) (q_gscons (pg_name (i:=2) sc_law_places.nd (by rfl) (.inr (by rfl))) (q_gscons (pg_name (i:=3) sc_law_places.nd (by rfl) (.inl (by rfl))) (q_gsnil)))) (q_sone (q_set (i:=1) sc_law_places.nd (by rfl) (.inl (by rfl)) (q_op (o_add (by rfl)) c_add (q_var (pv 1)) (q_lc (own:= [("_law_place",4)]) (by rfl) sc_law_places.nd (q_iter (by rfl) (q_fn C_law_places T.bnd_law_places hr (by rfl) (by rfl) (by rfl) tk_body (q_cons (q_var (pv 3)) (q_nil)))) (blkOk_by (own:= [("_law_place",4)]) (N:=N_law_places) (sc:=defScope s_law_places) (by decide +kernel)) (fun _ _ _ _ _=>q_gnameW (pg_name (i:=4) sc_law_places.nd (by rfl) (.inl (by rfl))) (by decide)) (fun _ _ _ _ _=>q_tnil) (fun _ _ _ _ _=>q_op (o_add (by rfl)) c_add (q_tup (q_cons (q_var (pv 2)) (q_nil))) (q_var (pv 4))))))))
  (q_sone (q_ret (q_var (pv 1)))))
theorem b_law_at {P:Program} {K:PySem.W.Frag} {w:World} {mg:Str→Option Value} {base:Heap} {fa:Nat→Addr} {fd:Nat→FuncData} {F:Nat→FN} {k:Nat} (h1:1≤k) (hM:∃o,base.get? sysModules=some o) (T:Txt K w mg fa fd) (cdv:Value) (A:Around) (outer:List Env) (s:Shared) (H:Hp) (E:XK)
 (hrM:RoomG (k+1) (A.deeper (envOfC "_law_at" (defScope s_law_at) s.heap.objs.size (fa 19) cdv))):
 PSs (cxOf (L2.CX P w) P w K mg base N_law_at "_law_at" (defScope s_law_at) (fa 19) cdv A outer s H E) (defBody s_law_at) (tS ⟨K,w,mg⟩ (m_law_at F) (WE0 E)):=
 have hr:=hrM.mono (Nat.le_succ _)
 have hr2:RoomG 2 _:=hrM.mono (Nat.succ_le_succ h1)
 q_scons (q_for po_body (by rfl) (q_iter (by rfl) (q_var (pv 1))) (q_gname (pg_name (i:=2) sc_law_at.nd (by rfl) (.inl (by rfl)))) (q_sone (q_set (i:=0) sc_law_at.nd (by rfl) (.inl (by rfl)) (q_ix (o_ix (by rfl) (by rfl) (u1 hr)) c_ix (q_ix (o_ix (by rfl) (by rfl) (u1 hr)) c_ix (q_var (pv 0)) (q_int) (fun _ _=>rfl)) (q_var (pv 2)) (fun _ _=>rfl)))))
  (q_sone (q_ret (q_var (pv 0))))
theorem b_law_put {P:Program} {K:PySem.W.Frag} {w:World} {mg:Str→Option Value} {base:Heap} {fa:Nat→Addr} {fd:Nat→FuncData} {F:Nat→FN} {k:Nat} (h1:1≤k) (hM:∃o,base.get? sysModules=some o) (T:Txt K w mg fa fd) (C_law_put:Cal P w ⟨K,w,mg⟩ base k "_law_put" (fa 20) (fd 20) ["_law_thing_here","_law_place","_law_its"] (F 20)) (cdv:Value) (A:Around) (outer:List Env) (s:Shared) (H:Hp) (E:XK)
 (hrM:RoomG (k+1) (A.deeper (envOfC "_law_put" (defScope s_law_put) s.heap.objs.size (fa 20) cdv))):
 PSs (cxOf (L2.CX P w) P w K mg base N_law_put "_law_put" (defScope s_law_put) (fa 20) cdv A outer s H E) (defBody s_law_put) (tS ⟨K,w,mg⟩ (m_law_put F) (WE0 E)):=
 have hr:=hrM.mono (Nat.le_succ _)
 have hr2:RoomG 2 _:=hrM.mono (Nat.succ_le_succ h1)
 q_scons (q_if (q_tcmp (o_eq (by rfl) hr.units) c_eq (q_var (pv 1)) (q_tup (q_nil)) (nomark _)) (q_sone (q_ret (q_var (pv 2)))) (q_snil))
  (q_scons (q_set (i:=3) sc_law_put.nd (by rfl) (.inl (by rfl)) (q_callTy (o_listO (by rfl)) c_listO (by rfl) T.z_list b_list (q_cons (q_ix (o_ix (by rfl) (by rfl) (u1 hr)) c_ix (q_var (pv 0)) (q_int) (fun _ _=>rfl)) (q_nil))))
  (q_scons (q_asg (q_fn C_law_put T.bnd_law_put hr (by rfl) (by rfl) (by rfl) tk_body (q_cons (q_ix (o_ix (by rfl) (by rfl) (u1 hr)) c_ix (q_var (pv 3)) (q_ix (o_ix (by rfl) (by rfl) (u1 hr)) c_ix (q_var (pv 1)) (q_int) (fun _ _=>rfl)) (fun _ _=>rfl)) (q_cons (q_slice (by rfl) (q_var (pv 1)) (q_pyes (q_int)) (q_pno)) (q_cons (q_var (pv 2)) (q_nil))))) (q_gsub (Wx:=WE0 E) (u1 hr) (q_var (pv 3)) (q_ix (o_ix (by rfl) (by rfl) (u1 hr)) c_ix (q_var (pv 1)) (q_int) (fun _ _=>rfl))) (gn:=gn_sub))
  (q_sone (q_ret (q_tup (q_cons (q_ix (o_ix (by rfl) (by rfl) (u1 hr)) c_ix (q_var (pv 0)) (q_int) (fun _ _=>rfl)) (q_cons (q_ix (o_ix (by rfl) (by rfl) (u1 hr)) c_ix (q_var (pv 0)) (q_int) (fun _ _=>rfl)) (q_cons (q_callTy (o_tuple (by rfl)) c_tuple (by rfl) T.z_tuple b_tuple (q_cons (q_var (pv 3)) (q_nil))) (q_nil)))))))))
theorem b_law_count {P:Program} {K:PySem.W.Frag} {w:World} {mg:Str→Option Value} {base:Heap} {fa:Nat→Addr} {fd:Nat→FuncData} {F:Nat→FN} {k:Nat} (h1:1≤k) (hM:∃o,base.get? sysModules=some o) (T:Txt K w mg fa fd) (C_law_count:Cal P w ⟨K,w,mg⟩ base k "_law_count" (fa 21) (fd 21) ["_law_thing_here"] (F 21)) (cdv:Value) (A:Around) (outer:List Env) (s:Shared) (H:Hp) (E:XK)
 (hrM:RoomG (k+1) (A.deeper (envOfC "_law_count" (defScope s_law_count) s.heap.objs.size (fa 21) cdv))):
 PSs (cxOf (L2.CX P w) P w K mg base N_law_count "_law_count" (defScope s_law_count) (fa 21) cdv A outer s H E) (defBody s_law_count) (tS ⟨K,w,mg⟩ (m_law_count F) (WE0 E)):=
 have hr:=hrM.mono (Nat.le_succ _)
 have hr2:RoomG 2 _:=hrM.mono (Nat.succ_le_succ h1)
 q_sone (q_ret (q_op (o_add (by rfl)) c_add (q_int) (q_callB (o_sum (by rfl)) c_sum (by rfl) T.z_sum b_sum (q_cons (q_lc (own:= [("_law_part",1)]) (by rfl) sc_law_count.nd (q_iter (by rfl) (q_ix (o_ix (by rfl) (by rfl) (u1 hr)) c_ix (q_var (pv 0)) (q_int) (fun _ _=>rfl))) (blkOk_by (own:= [("_law_part",1)]) (N:=N_law_count) (sc:=defScope s_law_count) (by decide +kernel)) (fun _ _ _ _ _=>q_gnameW (pg_name (i:=1) sc_law_count.nd (by rfl) (.inl (by rfl))) (by decide)) (fun _ _ _ _ _=>q_tnil) (fun _ _ _ _ _=>q_fn C_law_count T.bnd_law_count hr (by rfl) (by rfl) (by rfl) tk_blk (q_cons (q_var (pv 1)) (q_nil)))) (q_nil)))))
theorem b_law_deep {P:Program} {K:PySem.W.Frag} {w:World} {mg:Str→Option Value} {base:Heap} {fa:Nat→Addr} {fd:Nat→FuncData} {F:Nat→FN} {k:Nat} (h1:1≤k) (hM:∃o,base.get? sysModules=some o) (T:Txt K w mg fa fd) (C_law_deep:Cal P w ⟨K,w,mg⟩ base k "_law_deep" (fa 22) (fd 22) ["_law_thing_here"] (F 22)) (cdv:Value) (A:Around) (outer:List Env) (s:Shared) (H:Hp) (E:XK)
 (hrM:RoomG (k+1) (A.deeper (envOfC "_law_deep" (defScope s_law_deep) s.heap.objs.size (fa 22) cdv))):
 PSs (cxOf (L2.CX P w) P w K mg base N_law_deep "_law_deep" (defScope s_law_deep) (fa 22) cdv A outer s H E) (defBody s_law_deep) (tS ⟨K,w,mg⟩ (m_law_deep F) (WE0 E)):=
 have hr:=hrM.mono (Nat.le_succ _)
 have hr2:RoomG 2 _:=hrM.mono (Nat.succ_le_succ h1)
 q_sone (q_ret (q_op (o_add (by rfl)) c_add (q_int) (q_callB (o_max (by rfl)) c_max (by rfl) T.z_max b_max (q_cons (q_op (o_add (by rfl)) c_add (q_lst (q_cons (q_int) (q_nil))) (q_lc (own:= [("_law_part",1)]) (by rfl) sc_law_deep.nd (q_iter (by rfl) (q_ix (o_ix (by rfl) (by rfl) (u1 hr)) c_ix (q_var (pv 0)) (q_int) (fun _ _=>rfl))) (blkOk_by (own:= [("_law_part",1)]) (N:=N_law_deep) (sc:=defScope s_law_deep) (by decide +kernel)) (fun _ _ _ _ _=>q_gnameW (pg_name (i:=1) sc_law_deep.nd (by rfl) (.inl (by rfl))) (by decide)) (fun _ _ _ _ _=>q_tnil) (fun _ _ _ _ _=>q_fn C_law_deep T.bnd_law_deep hr (by rfl) (by rfl) (by rfl) tk_blk (q_cons (q_var (pv 1)) (q_nil))))) (q_nil)))))
theorem b_law_copied {P:Program} {K:PySem.W.Frag} {w:World} {mg:Str→Option Value} {base:Heap} {fa:Nat→Addr} {fd:Nat→FuncData} {F:Nat→FN} {k:Nat} (h1:1≤k) (hM:∃o,base.get? sysModules=some o) (T:Txt K w mg fa fd) (C_law_at:Cal P w ⟨K,w,mg⟩ base k "_law_at" (fa 19) (fd 19) ["_law_thing_here","_law_place"] (F 19)) (C_law_count:Cal P w ⟨K,w,mg⟩ base k "_law_count" (fa 21) (fd 21) ["_law_thing_here"] (F 21)) (C_law_deep:Cal P w ⟨K,w,mg⟩ base k "_law_deep" (fa 22) (fd 22) ["_law_thing_here"] (F 22)) (C_law_pick:Cal P w ⟨K,w,mg⟩ base k "_law_pick" (fa 13) (fd 13) ["_law_purse_here","_law_many"] (F 13)) (C_law_places:Cal P w ⟨K,w,mg⟩ base k "_law_places" (fa 18) (fd 18) ["_law_thing_here"] (F 18)) (C_law_put:Cal P w ⟨K,w,mg⟩ base k "_law_put" (fa 20) (fd 20) ["_law_thing_here","_law_place","_law_its"] (F 20)) (C_law_turned:Cal P w ⟨K,w,mg⟩ base k "_law_turned" (fa 17) (fd 17) ["_law_purse_here","_law_thing_here","_law_called"] (F 17)) (cdv:Value) (A:Around) (outer:List Env) (s:Shared) (H:Hp) (E:XK)
 (hrM:RoomG (k+1) (A.deeper (envOfC "_law_copied" (defScope s_law_copied) s.heap.objs.size (fa 23) cdv))):
 PSs (cxOf (L2.CX P w) P w K mg base N_law_copied "_law_copied" (defScope s_law_copied) (fa 23) cdv A outer s H E) (defBody s_law_copied) (tS ⟨K,w,mg⟩ (m_law_copied F) (WE0 E)):=
 have hr:=hrM.mono (Nat.le_succ _)
 have hr2:RoomG 2 _:=hrM.mono (Nat.succ_le_succ h1)
 q_scons (q_for po_body (by rfl) (q_range1 (by rfl) T.z_range (q_cons (q_fn C_law_pick T.bnd_law_pick hr (by rfl) (by rfl) (by rfl) tk_body (q_cons (q_var (pv 0)) (q_cons (q_int) (q_nil)))) (q_nil))) (q_gname (pg_name (i:=2) sc_law_copied.nd (by rfl) (.inl (by rfl)))) (q_scons (q_set (i:=3) sc_law_copied.nd (by rfl) (.inl (by rfl)) (q_fn C_law_places T.bnd_law_places hr (by rfl) (by rfl) (by rfl) tk_body (q_cons (q_var (pv 1)) (q_nil))))
  (q_scons (q_par (i:=4) (j:=5) (by rfl) sc_law_copied.nd (by rfl) (by rfl) (by decide) (by rfl) (by rfl) (q_cons (q_ix (o_ix (by rfl) (by rfl) (u1 hr)) c_ix (q_var (pv 3)) (q_fn C_law_pick T.bnd_law_pick hr (by rfl) (by rfl) (by rfl) tk_body (q_cons (q_var (pv 0)) (q_cons (q_callB (o_len (by rfl)) c_len (by rfl) T.z_len b_len (q_cons (q_var (pv 3)) (q_nil))) (q_nil)))) (fun _ _=>rfl)) (q_cons (q_ix (o_ix (by rfl) (by rfl) (u1 hr)) c_ix (q_var (pv 3)) (q_fn C_law_pick T.bnd_law_pick hr (by rfl) (by rfl) (by rfl) tk_body (q_cons (q_var (pv 0)) (q_cons (q_callB (o_len (by rfl)) c_len (by rfl) T.z_len b_len (q_cons (q_var (pv 3)) (q_nil))) (q_nil)))) (fun _ _=>rfl)) (q_nil))) (by rfl))
  (q_scons (q_set (i:=6) sc_law_copied.nd (by rfl) (.inl (by rfl)) (q_fn C_law_at T.bnd_law_at hr (by rfl) (by rfl) (by rfl) tk_body (q_cons (q_var (pv 1)) (q_cons (q_var (pv 4)) (q_nil)))))
  (q_scons (q_if (q_tcmp (o_eq (by rfl) hr.units) c_eq (q_fn C_law_pick T.bnd_law_pick hr (by rfl) (by rfl) (by rfl) tk_body (q_cons (q_var (pv 0)) (q_cons (q_int) (q_nil)))) (q_int) (nomark _)) (q_sone (q_set (i:=6) sc_law_copied.nd (by rfl) (.inl (by rfl)) (q_fn C_law_turned T.bnd_law_turned hr (by rfl) (by rfl) (by rfl) tk_body (q_cons (q_var (pv 0)) (q_cons (q_var (pv 6)) (q_cons (q_dic0) (q_nil))))))) (q_snil))
  (q_scons (q_set (i:=7) sc_law_copied.nd (by rfl) (.inl (by rfl)) (q_fn C_law_put T.bnd_law_put hr (by rfl) (by rfl) (by rfl) tk_body (q_cons (q_var (pv 1)) (q_cons (q_var (pv 5)) (q_cons (q_var (pv 6)) (q_nil))))))
  (q_sone (q_if (q_tb (w_and (q_tcmp o_le c_le (q_fn C_law_count T.bnd_law_count hr (by rfl) (by rfl) (by rfl) tk_body (q_cons (q_var (pv 7)) (q_nil))) (q_int) (nomark _)) (w_and1 (q_tcmp o_le c_le (q_fn C_law_deep T.bnd_law_deep hr (by rfl) (by rfl) (by rfl) tk_body (q_cons (q_var (pv 7)) (q_nil))) (q_int) (nomark _))))) (q_sone (q_set (i:=1) sc_law_copied.nd (by rfl) (.inl (by rfl)) (q_var (pv 7)))) (q_snil)))))))))
  (q_sone (q_ret (q_var (pv 1))))
theorem b_law_odd {P:Program} {K:PySem.W.Frag} {w:World} {mg:Str→Option Value} {base:Heap} {fa:Nat→Addr} {fd:Nat→FuncData} {F:Nat→FN} {k:Nat} (h1:1≤k) (hM:∃o,base.get? sysModules=some o) (T:Txt K w mg fa fd) (C_law_pick:Cal P w ⟨K,w,mg⟩ base k "_law_pick" (fa 13) (fd 13) ["_law_purse_here","_law_many"] (F 13)) (cdv:Value) (A:Around) (outer:List Env) (s:Shared) (H:Hp) (E:XK)
 (hrM:RoomG (k+1) (A.deeper (envOfC "_law_odd" (defScope s_law_odd) s.heap.objs.size (fa 24) cdv))):
 PSs (cxOf (L2.CX P w) P w K mg base N_law_odd "_law_odd" (defScope s_law_odd) (fa 24) cdv A outer s H E) (defBody s_law_odd) (tS ⟨K,w,mg⟩ (m_law_odd F) (WE0 E)):=
 have hr:=hrM.mono (Nat.le_succ _)
 have hr2:RoomG 2 _:=hrM.mono (Nat.succ_le_succ h1)
 q_scons (q_set (i:=2) sc_law_odd.nd (by rfl) (.inl (by rfl)) (q_lst (q_cons (q_op (o_add (by rfl)) c_add (q_var (pv 1)) (q_op (o_repT (by rfl)) c_repT (q_tup (q_cons (q_int) (q_nil))) (q_int))) (q_cons (q_op (o_add (by rfl)) c_add (q_var (pv 1)) (q_tup (q_cons (q_un o_neg c_neg (q_int)) (q_nil)))) (q_cons (q_tup (q_cons (q_int) (q_nil))) (q_cons (q_tup (q_cons (q_bl) (q_nil))) (q_cons (q_tup (q_cons (q_str) (q_nil))) (q_cons (q_non) (q_cons (q_int) (q_cons (q_str) (q_cons (q_lst (q_nil)) (q_cons (q_callTy (o_list (by rfl)) c_list (by rfl) T.z_list b_list (q_cons (q_var (pv 1)) (q_nil))) (q_cons (q_dic0) (q_nil))))))))))))))
  (q_scons (q_set (i:=2) sc_law_odd.nd (by rfl) (.inl (by rfl)) (q_op (o_add (by rfl)) c_add (q_var (pv 2)) (q_lst (q_cons (q_tup (q_cons (q_non) (q_nil))) (q_cons (q_tup (q_cons (q_tup (q_nil)) (q_nil))) (q_cons (q_bl) (q_nil)))))))
  (q_sone (q_ret (q_ix (o_ix (by rfl) (by rfl) (u1 hr)) c_ix (q_var (pv 2)) (q_fn C_law_pick T.bnd_law_pick hr (by rfl) (by rfl) (by rfl) tk_body (q_cons (q_var (pv 0)) (q_cons (q_callB (o_len (by rfl)) c_len (by rfl) T.z_len b_len (q_cons (q_var (pv 2)) (q_nil))) (q_nil)))) (fun _ _=>rfl)))))
theorem b_law_told {P:Program} {K:PySem.W.Frag} {w:World} {mg:Str→Option Value} {base:Heap} {fa:Nat→Addr} {fd:Nat→FuncData} {F:Nat→FN} {k:Nat} (h1:1≤k) (hM:∃o,base.get? sysModules=some o) (T:Txt K w mg fa fd) (cdv:Value) (A:Around) (outer:List Env) (s:Shared) (H:Hp) (E:XK) {t:LamTok} {den:List D→Store→R D}
 (hrM:RoomG (k+1) (A.deeper (envOfC "_law_told" (defScope s_law_told) s.heap.objs.size (fa 25) cdv))) (act:∀(pn:List (Addr × Obj)) (xe:Value→Shared→Prop) (Wx:WX) (p1 p2:Pos),Takes ((cxOf (L2.CX P w) P w K mg base N_law_told "_law_told" (defScope s_law_told) (fa 25) cdv A outer s H E).tr pn xe) Wx→PE ((cxOf (L2.CX P w) P w K mg base N_law_told "_law_told" (defScope s_law_told) (fa 25) cdv A outer s H E).tr pn xe) (.Call (.Name "_law_call" p1) [] [] p2) (tE ⟨K,w,mg⟩ (eLam 0 t den) Wx)):
 PSs (cxOf (L2.CX P w) P w K mg base N_law_told "_law_told" (defScope s_law_told) (fa 25) cdv A outer s H E) (defBody s_law_told) (tS ⟨K,w,mg⟩ (m_law_told F t den) (WE0 E)):=
 have hr:=hrM.mono (Nat.le_succ _)
 have hr2:RoomG 2 _:=hrM.mono (Nat.succ_le_succ h1)
 q_scons (q_asg (q_tup (q_cons (q_non) (q_cons (q_non) (q_nil)))) (q_gtup (by rfl) (by rfl) (q_gscons (pg_name (i:=1) sc_law_told.nd (by rfl) (.inl (by rfl))) (q_gscons (pg_name (i:=2) sc_law_told.nd (by rfl) (.inl (by rfl))) (q_gsnil)))) (gn:=gn_tup))
  (q_scons (q_try rfl rfl sc_law_told.nd rfl tk_body (fun Wt _ _ tkt pot=>q_sone (q_set (i:=1) sc_law_told.nd (by rfl) (.inl (by rfl)) (act _ _ _ _ _ tkt))) (Hds.named (i:=3) (asks_three ⟨by rfl,by decide, .inl T.ca_Missing⟩ ⟨by rfl,by decide, .inl T.ca_Refused⟩ ⟨by rfl,by decide, .inl T.ca_Halted⟩) (by rfl) (by rfl) (ym_cons T.ca_NoPlace (exm_three (exm_own T.xd_Missing T.xs_NoPlace__Missing) (exm_own T.xd_Refused T.xs_NoPlace__Refused) (exm_own T.xd_Halted T.xs_NoPlace__Halted)) (ym_nil)) (ym_nil) (fun _=>q_sone (q_set (i:=2) sc_law_told.nd (by rfl) (.inl (by rfl)) (q_var (pv 3)))) (Hds.nil)))
  (q_scons (q_if (q_tcmp o_isNon c_isNon (q_var (pv 2)) (q_non) (nomark _)) (q_sone (q_ret (q_callB (o_repr (by rfl) hM hr.gd (u150 hr)) c_repr (by rfl) T.z_repr b_repr (q_cons (q_var (pv 1)) (q_nil))))) (q_snil))
  (q_scons (q_set (i:=4) sc_law_told.nd (by rfl) (.inl (by rfl)) (q_eor (q_isx (by rfl) (by rfl) T.z_isinstance (q_var (pv 2)) (cls_four ⟨by rfl,by decide, .inl T.ca_NoName⟩ ⟨by rfl,by decide, .inl T.ca_NoNumber⟩ ⟨by rfl,by decide, .inl T.ca_Refused⟩ ⟨by rfl,by decide, .inl T.ca_Halted⟩) (ym_nil) (ym_cons T.ca_NoPlace ⟨T.xi_NoPlace,(kit_four (kit_own T.xd_NoName T.xs_NoPlace__NoPlace T.xs_NoPlace__NoName) (kit_own T.xd_NoNumber T.xs_NoPlace__NoPlace T.xs_NoPlace__NoNumber) (kit_own T.xd_Refused T.xs_NoPlace__NoPlace T.xs_NoPlace__Refused) (kit_own T.xd_Halted T.xs_NoPlace__NoPlace T.xs_NoPlace__Halted))⟩ (ym_nil))) (q_eone (q_enot (q_isx (by rfl) (by rfl) T.z_isinstance (q_var (pv 2)) (cls_name ⟨by rfl,by decide, .inr ⟨T.z_LookupError,PyProof.Rows.Boot.«LookupError»,by decide⟩⟩) (ym_cons T.ca_NoPlace ⟨T.xi_NoPlace,(kit_blt (by decide +kernel) T.xs_NoPlace__LookupError)⟩ (ym_nil)) (ym_nil))))))
  (q_sone (q_ret (q_ifExp (q_tb (w_or (q_truth (by rfl) (q_var (pv 4))) (w_or1 (q_tnot (q_truth (by rfl) (q_isx (by rfl) (by rfl) T.z_isinstance (q_var (pv 2)) (cls_name ⟨by rfl,by decide, .inl T.ca_NoPlace⟩) (ym_cons T.ca_NoPlace ⟨T.xi_NoPlace,(kit_own T.xd_NoPlace T.xs_NoPlace__NoPlace T.xs_NoPlace__NoPlace)⟩ (ym_nil)) (ym_nil))))))) (q_str) (q_op (o_add (by rfl)) c_add (q_str) (q_callB (o_repr (by rfl) hM hr.gd (u150 hr)) c_repr (by rfl) T.z_repr b_repr (q_cons (q_xf (by rfl) (q_var (pv 2)) (ym_cons T.ca_NoPlace ⟨T.xi_NoPlace,T.xn_NoPlace⟩ (ym_nil))) (q_nil))))))))))
theorem b_law_is_none {P:Program} {K:PySem.W.Frag} {w:World} {mg:Str→Option Value} {base:Heap} {fa:Nat→Addr} {fd:Nat→FuncData} {F:Nat→FN} {k:Nat} (h1:1≤k) (hM:∃o,base.get? sysModules=some o) (T:Txt K w mg fa fd) (cdv:Value) (A:Around) (outer:List Env) (s:Shared) (H:Hp) (E:XK)
 (hrM:RoomG (k+1) (A.deeper (envOfC "_law_is_none" (defScope s_law_is_none) s.heap.objs.size (fa 26) cdv))):
 PSs (cxOf (L2.CX P w) P w K mg base N_law_is_none "_law_is_none" (defScope s_law_is_none) (fa 26) cdv A outer s H E) (defBody s_law_is_none) (tS ⟨K,w,mg⟩ (m_law_is_none F) (WE0 E)):=
 have hr:=hrM.mono (Nat.le_succ _)
 have hr2:RoomG 2 _:=hrM.mono (Nat.succ_le_succ h1)
 q_sone (q_ret (q_cmp (o_notIn (by rfl) (by rfl) (u65 hr)) c_notIn (q_callB (o_repr (by rfl) hM hr.gd (u150 hr)) c_repr (by rfl) T.z_repr b_repr (q_cons (q_var (pv 0)) (q_nil))) (q_lc (own:= [("_law_good",2)]) (by rfl) sc_law_is_none.nd (q_iter (by rfl) (q_var (pv 1))) (blkOk_by (own:= [("_law_good",2)]) (N:=N_law_is_none) (sc:=defScope s_law_is_none) (by decide +kernel)) (fun _ _ _ _ _=>q_gnameW (pg_name (i:=2) sc_law_is_none.nd (by rfl) (.inl (by rfl))) (by decide)) (fun _ _ _ _ _=>q_tnil) (fun _ _ _ _ _=>q_callB (o_repr (by rfl) hM hr.gd (u150 hr)) c_repr (by rfl) T.z_repr b_repr (q_cons (q_var (pv 2)) (q_nil)))) (by rfl)))
theorem b_law {P:Program} {K:PySem.W.Frag} {w:World} {mg:Str→Option Value} {base:Heap} {fa:Nat→Addr} {fd:Nat→FuncData} {F:Nat→FN} {k:Nat} (h1:1≤k) (hM:∃o,base.get? sysModules=some o) (hB:BltIn base mg) (T:Txt K w mg fa fd) (C_law_copied:Cal P w ⟨K,w,mg⟩ base k "_law_copied" (fa 23) (fd 23) ["_law_purse_here","_law_code"] (F 23)) (C_law_is_none:Cal P w ⟨K,w,mg⟩ base k "_law_is_none" (fa 26) (fd 26) ["_law_spot","_law_some"] (F 26)) (C_law_odd:Cal P w ⟨K,w,mg⟩ base k "_law_odd" (fa 24) (fd 24) ["_law_purse_here","_law_spot"] (F 24)) (C_law_pick:Cal P w ⟨K,w,mg⟩ base k "_law_pick" (fa 13) (fd 13) ["_law_purse_here","_law_many"] (F 13)) (C_law_places:Cal P w ⟨K,w,mg⟩ base k "_law_places" (fa 18) (fd 18) ["_law_thing_here"] (F 18)) (C_law_program:Cal P w ⟨K,w,mg⟩ base k "_law_program" (fa 15) (fd 15) ["_law_purse_here"] (F 15)) (C_law_purse:Cal P w ⟨K,w,mg⟩ base k "_law_purse" (fa 12) (fd 12) ["_law_script"] (F 12)) (C_are_alike:Cal P w ⟨K,w,mg⟩ base k "are_alike" (fa 8) (fd 8) ["one","other"] (F 8)) (C_form_of:Cal P w ⟨K,w,mg⟩ base k "form_of" (fa 7) (fd 7) ["program"] (F 7)) (C_same_at:Cal P w ⟨K,w,mg⟩ base k "same_at" (fa 9) (fd 9) ["program","one","other"] (F 9)) (C_same_heaps:Cal P w ⟨K,w,mg⟩ base k "same_heaps" (fa 11) (fd 11) ["program","ones","others"] (F 11)) (C_same_runs:Cal P w ⟨K,w,mg⟩ base k "same_runs" (fa 10) (fd 10) ["program","ones","others"] (F 10)) (cdv:Value) (A:Around) (outer:List Env) (s:Shared) (H:Hp) (E:XK) (hcy:CodeOf K (fa 27) cdv)
 (hrM:RoomG (k+2) (A.deeper (envOfC "law" (defScope s_law) s.heap.objs.size (fa 27) cdv))):
 PSs (cxOf (L2.CX P w) P w K mg base N_law "law" (defScope s_law) (fa 27) cdv A outer s H E) (defBody s_law) (tS ⟨K,w,mg⟩ (m_law F) (WE0 E)):=
 have hr:=hrM.mono (Nat.le_add_right _ _)
 have hr2:RoomG 2 _:=hrM.mono (Nat.le_add_left 2 _)
 match hcy with
 |⟨_,_,_,_,ly,cy⟩=>
 q_scons (q_set (i:=1) sc_law.nd (by rfl) (.inr (by rfl)) (q_fn C_law_purse T.bnd_law_purse hr (by rfl) (by rfl) (by rfl) tk_body (q_cons (q_var (pv 0)) (q_nil))))
  (q_scons (q_for po_body (by rfl) (q_range1 (by rfl) T.z_range (q_cons (q_callB (o_max (by rfl)) c_max (by rfl) T.z_max b_max (q_cons (q_int) (q_cons (q_callB (o_min (by rfl)) c_min (by rfl) T.z_min b_min (q_cons (q_int) (q_cons (q_callB (o_len (by rfl)) c_len (by rfl) T.z_len b_len (q_cons (q_var (pv 0)) (q_nil))) (q_nil)))) (q_nil)))) (q_nil))) (q_gname (pg_name (i:=2) sc_law.nd (by rfl) (.inl (by rfl)))) (q_scons (q_set (i:=3) sc_law.nd (by rfl) (.inr (by rfl)) (q_fn C_law_copied T.bnd_law_copied hr (by rfl) (by rfl) (by rfl) tk_body (q_cons (q_var (pv 1)) (q_cons (q_fn C_law_program T.bnd_law_program hr (by rfl) (by rfl) (by rfl) tk_body (q_cons (q_var (pv 1)) (q_nil))) (q_nil)))))
  (q_scons (q_set (i:=4) sc_law.nd (by rfl) (.inr (by rfl)) (q_fn C_law_places T.bnd_law_places hr (by rfl) (by rfl) (by rfl) tk_body (q_cons (q_var (pv 3)) (q_nil))))
  (q_scons (q_setLcN (i:=5) (own:= [("_law_k",6)]) (by rfl) sc_law.nd (by rfl) (by rfl) (sw_true (by rfl) (by rfl) (by rfl) (by decide +kernel)) (q_range1 (by rfl) T.z_range (q_cons (q_int) (q_nil))) (blkOk_by (own:= [("_law_k",6)]) (N:=N_law) (sc:=defScope s_law) (by decide +kernel)) (fun _ _ _ _ _=>q_gnameW (pg_name (i:=6) sc_law.nd (by rfl) (.inl (by rfl))) (by decide)) (fun _ _ _ _ _=>q_tnil) (fun _ _ _ _ _=>q_ix (o_ix (by rfl) (by rfl) (u1 hr)) c_ix (q_var (pv 4)) (q_fn C_law_pick T.bnd_law_pick hr (by rfl) (by rfl) (by rfl) tk_blk (q_cons (q_var (pv 1)) (q_cons (q_callB (o_len (by rfl)) c_len (by rfl) T.z_len b_len (q_cons (q_var (pv 4)) (q_nil))) (q_nil)))) (fun _ _=>rfl)))
  (q_scons (q_for po_body (by rfl) (q_range1 (by rfl) T.z_range (q_cons (q_fn C_law_pick T.bnd_law_pick hr (by rfl) (by rfl) (by rfl) tk_body (q_cons (q_var (pv 1)) (q_cons (q_int) (q_nil)))) (q_nil))) (q_gname (pg_name (i:=7) sc_law.nd (by rfl) (.inl (by rfl)))) (q_scons (q_set (i:=8) sc_law.nd (by rfl) (.inl (by rfl)) (q_fn C_law_pick T.bnd_law_pick hr (by rfl) (by rfl) (by rfl) tk_body (q_cons (q_var (pv 1)) (q_cons (q_int) (q_nil)))))
  (q_sone (q_asg (q_fn C_law_odd T.bnd_law_odd hr (by rfl) (by rfl) (by rfl) tk_body (q_cons (q_var (pv 1)) (q_cons (q_ix (o_ix (by rfl) (by rfl) (u1 hr)) c_ix (q_var (pv 4)) (q_fn C_law_pick T.bnd_law_pick hr (by rfl) (by rfl) (by rfl) tk_body (q_cons (q_var (pv 1)) (q_cons (q_callB (o_len (by rfl)) c_len (by rfl) T.z_len b_len (q_cons (q_var (pv 4)) (q_nil))) (q_nil)))) (fun _ _=>rfl)) (q_nil)))) (q_gsub (Wx:=WE0 E) (u1 hr) (q_var (pv 5)) (q_var (pv 8))) (gn:=gn_sub)))))
  (q_scons (q_sfrz (q_asg (q_tup (q_cons (q_callTy (o_tuple (by rfl)) c_tuple (by rfl) T.z_tuple b_tuple (q_cons (q_slice (by rfl) (q_var (pv 5)) (q_pno) (q_pyes (q_int))) (q_nil))) (q_cons (q_callTy (o_tuple (by rfl)) c_tuple (by rfl) T.z_tuple b_tuple (q_cons (q_slice (by rfl) (q_var (pv 5)) (q_pyes (q_int)) (q_pno)) (q_nil))) (q_nil)))) (q_gtup (by rfl) (by rfl) (q_gscons (pg_name (i:=9) sc_law.nd (by rfl) (.inr (by rfl))) (q_gscons (pg_name (i:=10) sc_law.nd (by rfl) (.inr (by rfl))) (q_gsnil)))) (gn:=gn_tup)))
  (q_scons (q_setLc (i:=11) (own:= [("_law_spot",12)]) (by rfl) sc_law.nd (by rfl) (by rfl) (sw_true (by rfl) (by rfl) (by rfl) (by decide +kernel)) (q_iter (by rfl) (q_frz (q_var (pv 5)))) (blkOk_by (own:= [("_law_spot",12)]) (N:=N_law) (sc:=defScope s_law) (by decide +kernel)) (fun _ _ _ _ _=>q_gnameW (pg_name (i:=12) sc_law.nd (by rfl) (.inl (by rfl))) (by decide)) (fun _ _ _ _ _=>q_tone (q_truth (by rfl) (q_fn C_law_is_none T.bnd_law_is_none hr (by rfl) (by rfl) (by rfl) tk_blk (q_cons (q_var (pv 12)) (q_cons (q_var (pv 4)) (q_nil)))))) (fun _ _ _ _ _=>q_callB (o_repr (by rfl) hM hr.gd (u150 hr)) c_repr (by rfl) T.z_repr b_repr (q_cons (q_var (pv 12)) (q_nil))))
  (q_scons (q_set (i:=13) sc_law.nd (by rfl) (.inl (by rfl)) (q_obj (q_cons (q_lamcall (by rfl) (by rfl) (by rfl) T.F_law_told T.bnn_law_told sc_law_told (by rfl) (by rfl) (.inl (by rfl)) (fun cdg A outer s H E t den rm act=>b_law_told h1 hM T cdg A outer s H E rm act) (any_law_told _) hrM tk_body (by rfl) T.g_law_told T.g_law ly cy hB (LamX.lamS_by (by show LamX.lamSB (defScope s_law) _=true;decide +kernel)) rfl (fun _ _ _ _ _=>rfl) (fun _ _ _ _ _ _ _ hr=>q_fn C_same_runs T.bnd_same_runs hr (by rfl) (by rfl) (by rfl) tk_lam (q_cons (q_var (pv 3)) (q_cons (q_var (pv 9)) (q_cons (q_var (pv 10)) (q_nil))))) (by decide) (by decide) (by decide)) (q_nil))))
  (q_scons (q_expr (q_bm (by rfl) PySem.F.plainAttrs_list PySem.F.slot_list_append PySem.F.type_list_append o_append c_append (q_var (pv 13)) (q_cons (q_lamcall (by rfl) (by rfl) (by rfl) T.F_law_told T.bnn_law_told sc_law_told (by rfl) (by rfl) (.inl (by rfl)) (fun cdg A outer s H E t den rm act=>b_law_told h1 hM T cdg A outer s H E rm act) (any_law_told _) hrM tk_body (by rfl) T.g_law_told T.g_law ly cy hB (LamX.lamS_by (by show LamX.lamSB (defScope s_law) _=true;decide +kernel)) rfl (fun _ _ _ _ _=>rfl) (fun _ _ _ _ _ _ _ hr=>q_fn C_same_heaps T.bnd_same_heaps hr (by rfl) (by rfl) (by rfl) tk_lam (q_cons (q_var (pv 3)) (q_cons (q_var (pv 9)) (q_cons (q_var (pv 10)) (q_nil))))) (by decide) (by decide) (by decide)) (q_nil))))
  (q_scons (q_set (i:=14) sc_law.nd (by rfl) (.inl (by rfl)) (q_obj (q_cons (q_lamcall (by rfl) (by rfl) (by rfl) T.F_law_told T.bnn_law_told sc_law_told (by rfl) (by rfl) (.inl (by rfl)) (fun cdg A outer s H E t den rm act=>b_law_told h1 hM T cdg A outer s H E rm act) (any_law_told _) hrM tk_body (by rfl) T.g_law_told T.g_law ly cy hB (LamX.lamS_by (by show LamX.lamSB (defScope s_law) _=true;decide +kernel)) rfl (fun _ _ _ _ _=>rfl) (fun _ _ _ _ _ _ _ hr=>q_fnK0 C_same_runs T.kbd_same_runs_0_others_ones_program hr (by rfl) (by rfl) (by rfl) tk_lam (q_kcons (q_var (pv 10)) (q_kcons (q_var (pv 9)) (q_kcons (q_var (pv 3)) (q_knil))))) (by decide) (by decide) (by decide)) (q_nil))))
  (q_scons (q_expr (q_bm (by rfl) PySem.F.plainAttrs_list PySem.F.slot_list_append PySem.F.type_list_append o_append c_append (q_var (pv 14)) (q_cons (q_lamcall (by rfl) (by rfl) (by rfl) T.F_law_told T.bnn_law_told sc_law_told (by rfl) (by rfl) (.inl (by rfl)) (fun cdg A outer s H E t den rm act=>b_law_told h1 hM T cdg A outer s H E rm act) (any_law_told _) hrM tk_body (by rfl) T.g_law_told T.g_law ly cy hB (LamX.lamS_by (by show LamX.lamSB (defScope s_law) _=true;decide +kernel)) rfl (fun _ _ _ _ _=>rfl) (fun _ _ _ _ _ _ _ hr=>q_fnK0 C_same_heaps T.kbd_same_heaps_0_ones_others_program hr (by rfl) (by rfl) (by rfl) tk_lam (q_kcons (q_var (pv 9)) (q_kcons (q_var (pv 10)) (q_kcons (q_var (pv 3)) (q_knil))))) (by decide) (by decide) (by decide)) (q_nil))))
  (q_scons (q_if (q_tb (w_or (q_tcmp (o_ne (by rfl) hr.units) c_ne (q_var (pv 13)) (q_var (pv 14)) (nomark _)) (w_or1 (q_tb (w_and (q_tcmp (o_ne (by rfl) hr.units) c_ne (q_var (pv 11)) (q_lst (q_nil)) (nomark _)) (w_and1 (q_tcmp (o_ne (by rfl) hr.units) c_ne (q_var (pv 13)) (q_op o_mul c_mul (q_lst (q_cons (q_op (o_add (by rfl)) c_add (q_str) (q_ix (o_ix (by rfl) (by rfl) (u1 hr)) c_ix (q_var (pv 11)) (q_int) (fun _ _=>rfl))) (q_nil))) (q_int)) (nomark _)))))))) (q_sone (q_ret (q_bl))) (q_snil))
  (q_scons (q_for po_body (by rfl) (q_iter (by rfl) (q_tup (q_cons (q_tup (q_cons (q_ix (o_ix (by rfl) (by rfl) (u1 hr)) c_ix (q_var (pv 5)) (q_int) (fun _ _=>rfl)) (q_cons (q_ix (o_ix (by rfl) (by rfl) (u1 hr)) c_ix (q_var (pv 5)) (q_int) (fun _ _=>rfl)) (q_nil)))) (q_cons (q_tup (q_cons (q_ix (o_ix (by rfl) (by rfl) (u1 hr)) c_ix (q_var (pv 5)) (q_int) (fun _ _=>rfl)) (q_cons (q_ix (o_ix (by rfl) (by rfl) (u1 hr)) c_ix (q_var (pv 5)) (q_int) (fun _ _=>rfl)) (q_nil)))) (q_nil))))) (q_gtup (by rfl) (by rfl) (q_gscons (pg_name (i:=15) sc_law.nd (by rfl) (.inr (by rfl))) (q_gscons (pg_name (i:=16) sc_law.nd (by rfl) (.inr (by rfl))) (q_gsnil)))) (q_scons (q_setLc (i:=11) (own:= [("_law_spot",12)]) (by rfl) sc_law.nd (by rfl) (by rfl) (sw_true (by rfl) (by rfl) (by rfl) (by decide +kernel)) (q_iter (by rfl) (q_tup (q_cons (q_var (pv 15)) (q_cons (q_var (pv 16)) (q_nil))))) (blkOk_by (own:= [("_law_spot",12)]) (N:=N_law) (sc:=defScope s_law) (by decide +kernel)) (fun _ _ _ _ _=>q_gnameW (pg_name (i:=12) sc_law.nd (by rfl) (.inl (by rfl))) (by decide)) (fun _ _ _ _ _=>q_tone (q_truth (by rfl) (q_fn C_law_is_none T.bnd_law_is_none hr (by rfl) (by rfl) (by rfl) tk_blk (q_cons (q_var (pv 12)) (q_cons (q_var (pv 4)) (q_nil)))))) (fun _ _ _ _ _=>q_callB (o_repr (by rfl) hM hr.gd (u150 hr)) c_repr (by rfl) T.z_repr b_repr (q_cons (q_var (pv 12)) (q_nil))))
  (q_scons (q_set (i:=13) sc_law.nd (by rfl) (.inl (by rfl)) (q_lamcall (by rfl) (by rfl) (by rfl) T.F_law_told T.bnn_law_told sc_law_told (by rfl) (by rfl) (.inl (by rfl)) (fun cdg A outer s H E t den rm act=>b_law_told h1 hM T cdg A outer s H E rm act) (any_law_told _) hrM tk_body (by rfl) T.g_law_told T.g_law ly cy hB (LamX.lamS_by (by show LamX.lamSB (defScope s_law) _=true;decide +kernel)) rfl (fun _ _ _ _ _=>rfl) (fun _ _ _ _ _ _ _ hr=>q_fn C_same_at T.bnd_same_at hr (by rfl) (by rfl) (by rfl) tk_lam (q_cons (q_var (pv 3)) (q_cons (q_var (pv 15)) (q_cons (q_var (pv 16)) (q_nil))))) (by decide) (by decide) (by decide)))
  (q_scons (q_if (q_tcmp (o_ne (by rfl) hr.units) c_ne (q_lamcall (by rfl) (by rfl) (by rfl) T.F_law_told T.bnn_law_told sc_law_told (by rfl) (by rfl) (.inl (by rfl)) (fun cdg A outer s H E t den rm act=>b_law_told h1 hM T cdg A outer s H E rm act) (any_law_told _) hrM tk_body (by rfl) T.g_law_told T.g_law ly cy hB (LamX.lamS_by (by show LamX.lamSB (defScope s_law) _=true;decide +kernel)) rfl (fun _ _ _ _ _=>rfl) (fun _ _ _ _ _ _ _ hr=>q_fnK0 C_same_at T.kbd_same_at_0_other_one_program hr (by rfl) (by rfl) (by rfl) tk_lam (q_kcons (q_var (pv 16)) (q_kcons (q_var (pv 15)) (q_kcons (q_var (pv 3)) (q_knil))))) (by decide) (by decide) (by decide)) (q_var (pv 13)) (nomark _)) (q_sone (q_ret (q_bl))) (q_snil))
  (q_sone (q_if (q_tb (w_or (q_tb (w_and (q_tcmp (o_ne (by rfl) hr.units) c_ne (q_var (pv 11)) (q_lst (q_nil)) (nomark _)) (w_and1 (q_tcmp (o_ne (by rfl) hr.units) c_ne (q_var (pv 13)) (q_op (o_add (by rfl)) c_add (q_str) (q_ix (o_ix (by rfl) (by rfl) (u1 hr)) c_ix (q_var (pv 11)) (q_int) (fun _ _=>rfl))) (nomark _))))) (w_or1 (q_tb (w_and (q_tcmp (o_eq (by rfl) hr.units) c_eq (q_var (pv 11)) (q_lst (q_nil)) (nomark _)) (w_and1 (q_tcmp (o_notIn (by rfl) (by rfl) (u65 hr)) c_notIn (q_var (pv 13)) (q_tup (q_cons (q_str) (q_cons (q_str) (q_nil)))) (by rfl)))))))) (q_sone (q_ret (q_bl))) (q_snil)))))))
  (q_sone (q_if (q_tb (w_or (q_tcmp (o_ne (by rfl) hr.units) c_ne (q_fnK0 C_form_of T.kbd_form_of_0_program hr (by rfl) (by rfl) (by rfl) tk_body (q_kcons (q_var (pv 3)) (q_knil))) (q_fn C_form_of T.bnd_form_of hr (by rfl) (by rfl) (by rfl) tk_body (q_cons (q_var (pv 3)) (q_nil))) (nomark _)) (w_or1 (q_tcmp o_notTr c_notTr (q_fnK0 C_are_alike T.kbd_are_alike_0_other_one hr (by rfl) (by rfl) (by rfl) tk_body (q_kcons (q_var (pv 3)) (q_kcons (q_var (pv 3)) (q_knil)))) (q_bl) (nomark _))))) (q_sone (q_ret (q_bl))) (q_snil))))))))))))))))
  (q_sone (q_ret (q_bl))))
structure Alls (P:Program) (K:PySem.W.Frag) (w:World) (mg:Str→Option Value) (base:Heap) (fa:Nat→Addr) (fd:Nat→FuncData) (k:Nat) (F:Nat→FN):Prop where
 c_is_whole:Cal P w ⟨K,w,mg⟩ base k "is_whole" (fa 0) (fd 0) ["thing"] (F 0)
 c_is_number:Cal P w ⟨K,w,mg⟩ base k "is_number" (fa 1) (fd 1) ["thing","low","high"] (F 1)
 c_at:Cal P w ⟨K,w,mg⟩ base k "at" (fa 2) (fd 2) ["program","place"] (F 2)
 c_name_form:Cal P w ⟨K,w,mg⟩ base k "name_form" (fa 3) (fd 3) ["name","given","outer"] (F 3)
 c_form_by:Cal P w ⟨K,w,mg⟩ base k "form_by" (fa 4) (fd 4) ["thing","given","outer"] (F 4)
 c_around:Cal P w ⟨K,w,mg⟩ base k "around" (fa 5) (fd 5) ["program","place"] (F 5)
 c_form_at:Cal P w ⟨K,w,mg⟩ base k "form_at" (fa 6) (fd 6) ["program","place"] (F 6)
 c_form_of:Cal P w ⟨K,w,mg⟩ base k "form_of" (fa 7) (fd 7) ["program"] (F 7)
 c_are_alike:Cal P w ⟨K,w,mg⟩ base k "are_alike" (fa 8) (fd 8) ["one","other"] (F 8)
 c_same_at:Cal P w ⟨K,w,mg⟩ base k "same_at" (fa 9) (fd 9) ["program","one","other"] (F 9)
 c_same_runs:Cal P w ⟨K,w,mg⟩ base k "same_runs" (fa 10) (fd 10) ["program","ones","others"] (F 10)
 c_same_heaps:Cal P w ⟨K,w,mg⟩ base k "same_heaps" (fa 11) (fd 11) ["program","ones","others"] (F 11)
 c_law_purse:Cal P w ⟨K,w,mg⟩ base k "_law_purse" (fa 12) (fd 12) ["_law_script"] (F 12)
 c_law_pick:Cal P w ⟨K,w,mg⟩ base k "_law_pick" (fa 13) (fd 13) ["_law_purse_here","_law_many"] (F 13)
 c_law_thing:Cal P w ⟨K,w,mg⟩ base k "_law_thing" (fa 14) (fd 14) ["_law_purse_here","_law_deep_here","_law_room","_law_given"] (F 14)
 c_law_program:Cal P w ⟨K,w,mg⟩ base k "_law_program" (fa 15) (fd 15) ["_law_purse_here"] (F 15)
 c_law_free:Cal P w ⟨K,w,mg⟩ base k "_law_free" (fa 16) (fd 16) ["_law_thing_here"] (F 16)
 c_law_turned:Cal P w ⟨K,w,mg⟩ base k "_law_turned" (fa 17) (fd 17) ["_law_purse_here","_law_thing_here","_law_called"] (F 17)
 c_law_places:Cal P w ⟨K,w,mg⟩ base k "_law_places" (fa 18) (fd 18) ["_law_thing_here"] (F 18)
 c_law_at:Cal P w ⟨K,w,mg⟩ base k "_law_at" (fa 19) (fd 19) ["_law_thing_here","_law_place"] (F 19)
 c_law_put:Cal P w ⟨K,w,mg⟩ base k "_law_put" (fa 20) (fd 20) ["_law_thing_here","_law_place","_law_its"] (F 20)
 c_law_count:Cal P w ⟨K,w,mg⟩ base k "_law_count" (fa 21) (fd 21) ["_law_thing_here"] (F 21)
 c_law_deep:Cal P w ⟨K,w,mg⟩ base k "_law_deep" (fa 22) (fd 22) ["_law_thing_here"] (F 22)
 c_law_copied:Cal P w ⟨K,w,mg⟩ base k "_law_copied" (fa 23) (fd 23) ["_law_purse_here","_law_code"] (F 23)
 c_law_odd:Cal P w ⟨K,w,mg⟩ base k "_law_odd" (fa 24) (fd 24) ["_law_purse_here","_law_spot"] (F 24)
 c_law_told:Cal P w ⟨K,w,mg⟩ base k "_law_told" (fa 25) (fd 25) ["_law_call"] (F 25)
 c_law_is_none:Cal P w ⟨K,w,mg⟩ base k "_law_is_none" (fa 26) (fd 26) ["_law_spot","_law_some"] (F 26)
 c_law:Cal P w ⟨K,w,mg⟩ base k "law" (fa 27) (fd 27) ["_law_script"] (F 27)
theorem all {P:Program} {K:PySem.W.Frag} {w:World} {mg:Str→Option Value} {base:Heap} {fa:Nat→Addr} {fd:Nat→FuncData} (hM:∃o,base.get? sysModules=some o) (hB:BltIn base mg) (T:Txt K w mg fa fd):∀k,Alls P K w mg base fa fd (lw k) (Fs k)
 |0=>⟨⟨fn_none,T.g_is_whole,T.F_is_whole.kp⟩,⟨fn_none,T.g_is_number,T.F_is_number.kp⟩,⟨fn_none,T.g_at,T.F_at.kp⟩,⟨fn_none,T.g_name_form,T.F_name_form.kp⟩,⟨fn_none,T.g_form_by,T.F_form_by.kp⟩,⟨fn_none,T.g_around,T.F_around.kp⟩,⟨fn_none,T.g_form_at,T.F_form_at.kp⟩,⟨fn_none,T.g_form_of,T.F_form_of.kp⟩,⟨fn_none,T.g_are_alike,T.F_are_alike.kp⟩,⟨fn_none,T.g_same_at,T.F_same_at.kp⟩,⟨fn_none,T.g_same_runs,T.F_same_runs.kp⟩,⟨fn_none,T.g_same_heaps,T.F_same_heaps.kp⟩,⟨fn_none,T.g_law_purse,T.F_law_purse.kp⟩,⟨fn_none,T.g_law_pick,T.F_law_pick.kp⟩,⟨fn_none,T.g_law_thing,T.F_law_thing.kp⟩,⟨fn_none,T.g_law_program,T.F_law_program.kp⟩,⟨fn_none,T.g_law_free,T.F_law_free.kp⟩,⟨fn_none,T.g_law_turned,T.F_law_turned.kp⟩,⟨fn_none,T.g_law_places,T.F_law_places.kp⟩,⟨fn_none,T.g_law_at,T.F_law_at.kp⟩,⟨fn_none,T.g_law_put,T.F_law_put.kp⟩,⟨fn_none,T.g_law_count,T.F_law_count.kp⟩,⟨fn_none,T.g_law_deep,T.F_law_deep.kp⟩,⟨fn_none,T.g_law_copied,T.F_law_copied.kp⟩,⟨fn_none,T.g_law_odd,T.F_law_odd.kp⟩,⟨fn_none,T.g_law_told,T.F_law_told.kp⟩,⟨fn_none,T.g_law_is_none,T.F_law_is_none.kp⟩,⟨fn_none,T.g_law,T.F_law.kp⟩⟩
 |k+1=>by
  have ih:=all (P:=P) (base:=base) hM hB T k
  exact⟨⟨fn_ok (G:=⟨K,w,mg⟩) T.F_is_whole sc_is_whole (fun cdv A outer s H E hr=>b_is_whole (lw1 k) hM T cdv A outer s H E (hr.mono (Nat.le_succ _))),T.g_is_whole,T.F_is_whole.kp⟩,
   ⟨fn_ok (G:=⟨K,w,mg⟩) T.F_is_number sc_is_number (fun cdv A outer s H E hr=>b_is_number (lw1 k) hM T ih.c_is_whole cdv A outer s H E (hr.mono (Nat.le_succ _))),T.g_is_number,T.F_is_number.kp⟩,
   ⟨fn_ok (G:=⟨K,w,mg⟩) T.F_at sc_at (fun cdv A outer s H E hr=>b_at (lw1 k) hM T ih.c_is_number cdv A outer s H E (hr.mono (Nat.le_succ _))),T.g_at,T.F_at.kp⟩,
   ⟨fn_ok (G:=⟨K,w,mg⟩) T.F_name_form sc_name_form (fun cdv A outer s H E hr=>b_name_form (lw1 k) hM T cdv A outer s H E (hr.mono (Nat.le_succ _))),T.g_name_form,T.F_name_form.kp⟩,
   ⟨fn_ok (G:=⟨K,w,mg⟩) T.F_form_by sc_form_by (fun cdv A outer s H E hr=>b_form_by (lw1 k) hM T ih.c_form_by ih.c_name_form cdv A outer s H E (hr.mono (Nat.le_succ _))),T.g_form_by,T.F_form_by.kp⟩,
   ⟨fn_ok (G:=⟨K,w,mg⟩) T.F_around sc_around (fun cdv A outer s H E hr=>b_around (lw1 k) hM T cdv A outer s H E (hr.mono (Nat.le_succ _))),T.g_around,T.F_around.kp⟩,
   ⟨fn_ok (G:=⟨K,w,mg⟩) T.F_form_at sc_form_at (fun cdv A outer s H E hr=>b_form_at (lw1 k) hM T ih.c_around ih.c_at ih.c_form_by cdv A outer s H E (hr.mono (Nat.le_succ _))),T.g_form_at,T.F_form_at.kp⟩,
   ⟨fn_ok (G:=⟨K,w,mg⟩) T.F_form_of sc_form_of (fun cdv A outer s H E hr=>b_form_of (lw1 k) hM T ih.c_form_by cdv A outer s H E (hr.mono (Nat.le_succ _))),T.g_form_of,T.F_form_of.kp⟩,
   ⟨fn_ok (G:=⟨K,w,mg⟩) T.F_are_alike sc_are_alike (fun cdv A outer s H E hr=>b_are_alike (lw1 k) hM T ih.c_form_of cdv A outer s H E (hr.mono (Nat.le_succ _))),T.g_are_alike,T.F_are_alike.kp⟩,
   ⟨fn_ok (G:=⟨K,w,mg⟩) T.F_same_at sc_same_at (fun cdv A outer s H E hr=>b_same_at (lw1 k) hM T ih.c_form_at cdv A outer s H E (hr.mono (Nat.le_succ _))),T.g_same_at,T.F_same_at.kp⟩,
   ⟨fn_ok (G:=⟨K,w,mg⟩) T.F_same_runs sc_same_runs (fun cdv A outer s H E hr=>b_same_runs (lw1 k) hM T ih.c_form_at cdv A outer s H E (hr.mono (Nat.le_succ _))),T.g_same_runs,T.F_same_runs.kp⟩,
   ⟨fn_ok (G:=⟨K,w,mg⟩) T.F_same_heaps sc_same_heaps (fun cdv A outer s H E hr=>b_same_heaps (lw1 k) hM T ih.c_form_at cdv A outer s H E (hr.mono (Nat.le_succ _))),T.g_same_heaps,T.F_same_heaps.kp⟩,
   ⟨fn_ok (G:=⟨K,w,mg⟩) T.F_law_purse sc_law_purse (fun cdv A outer s H E hr=>b_law_purse (lw1 k) hM T cdv A outer s H E (hr.mono (Nat.le_succ _))),T.g_law_purse,T.F_law_purse.kp⟩,
   ⟨fn_ok (G:=⟨K,w,mg⟩) T.F_law_pick sc_law_pick (fun cdv A outer s H E hr=>b_law_pick (lw1 k) hM T cdv A outer s H E (hr.mono (Nat.le_succ _))),T.g_law_pick,T.F_law_pick.kp⟩,
   ⟨fn_ok (G:=⟨K,w,mg⟩) T.F_law_thing sc_law_thing (fun cdv A outer s H E hr=>b_law_thing (lw1 k) hM T ih.c_law_pick ih.c_law_thing cdv A outer s H E (hr.mono (Nat.le_succ _))),T.g_law_thing,T.F_law_thing.kp⟩,
   ⟨fn_ok (G:=⟨K,w,mg⟩) T.F_law_program sc_law_program (fun cdv A outer s H E hr=>b_law_program (lw1 k) hM T ih.c_law_pick ih.c_law_thing cdv A outer s H E (hr.mono (Nat.le_succ _))),T.g_law_program,T.F_law_program.kp⟩,
   ⟨fn_ok (G:=⟨K,w,mg⟩) T.F_law_free sc_law_free (fun cdv A outer s H E hr=>b_law_free (lw1 k) hM T ih.c_law_free cdv A outer s H E (hr.mono (Nat.le_succ _))),T.g_law_free,T.F_law_free.kp⟩,
   ⟨fn_ok (G:=⟨K,w,mg⟩) T.F_law_turned sc_law_turned (fun cdv A outer s H E hr=>b_law_turned (lw1 k) hM T ih.c_law_free ih.c_law_pick ih.c_law_turned cdv A outer s H E (hr.mono (Nat.le_succ _))),T.g_law_turned,T.F_law_turned.kp⟩,
   ⟨fn_ok (G:=⟨K,w,mg⟩) T.F_law_places sc_law_places (fun cdv A outer s H E hr=>b_law_places (lw1 k) hM T ih.c_law_places cdv A outer s H E (hr.mono (Nat.le_succ _))),T.g_law_places,T.F_law_places.kp⟩,
   ⟨fn_ok (G:=⟨K,w,mg⟩) T.F_law_at sc_law_at (fun cdv A outer s H E hr=>b_law_at (lw1 k) hM T cdv A outer s H E (hr.mono (Nat.le_succ _))),T.g_law_at,T.F_law_at.kp⟩,
   ⟨fn_ok (G:=⟨K,w,mg⟩) T.F_law_put sc_law_put (fun cdv A outer s H E hr=>b_law_put (lw1 k) hM T ih.c_law_put cdv A outer s H E (hr.mono (Nat.le_succ _))),T.g_law_put,T.F_law_put.kp⟩,
   ⟨fn_ok (G:=⟨K,w,mg⟩) T.F_law_count sc_law_count (fun cdv A outer s H E hr=>b_law_count (lw1 k) hM T ih.c_law_count cdv A outer s H E (hr.mono (Nat.le_succ _))),T.g_law_count,T.F_law_count.kp⟩,
   ⟨fn_ok (G:=⟨K,w,mg⟩) T.F_law_deep sc_law_deep (fun cdv A outer s H E hr=>b_law_deep (lw1 k) hM T ih.c_law_deep cdv A outer s H E (hr.mono (Nat.le_succ _))),T.g_law_deep,T.F_law_deep.kp⟩,
   ⟨fn_ok (G:=⟨K,w,mg⟩) T.F_law_copied sc_law_copied (fun cdv A outer s H E hr=>b_law_copied (lw1 k) hM T ih.c_law_at ih.c_law_count ih.c_law_deep ih.c_law_pick ih.c_law_places ih.c_law_put ih.c_law_turned cdv A outer s H E (hr.mono (Nat.le_succ _))),T.g_law_copied,T.F_law_copied.kp⟩,
   ⟨fn_ok (G:=⟨K,w,mg⟩) T.F_law_odd sc_law_odd (fun cdv A outer s H E hr=>b_law_odd (lw1 k) hM T ih.c_law_pick cdv A outer s H E (hr.mono (Nat.le_succ _))),T.g_law_odd,T.F_law_odd.kp⟩,
   ⟨fn_none,T.g_law_told,T.F_law_told.kp⟩,
   ⟨fn_ok (G:=⟨K,w,mg⟩) T.F_law_is_none sc_law_is_none (fun cdv A outer s H E hr=>b_law_is_none (lw1 k) hM T cdv A outer s H E (hr.mono (Nat.le_succ _))),T.g_law_is_none,T.F_law_is_none.kp⟩,
   ⟨fn_okC (G:=⟨K,w,mg⟩) T.F_law sc_law (fun cdv A outer s H E hcy hr=>b_law (lw1 k) hM hB T ih.c_law_copied ih.c_law_is_none ih.c_law_odd ih.c_law_pick ih.c_law_places ih.c_law_program ih.c_law_purse ih.c_are_alike ih.c_form_of ih.c_same_at ih.c_same_heaps ih.c_same_runs cdv A outer s H E hcy hr),T.g_law,T.F_law.kp⟩⟩
end K18
namespace K18
open PySem PySem.Spec PyProof.Rows L2 L3
def fdOf (d0:FuncData) (d1:FuncData) (d2:FuncData) (d3:FuncData) (d4:FuncData) (d5:FuncData) (d6:FuncData) (d7:FuncData) (d8:FuncData) (d9:FuncData) (d10:FuncData) (d11:FuncData) (d12:FuncData) (d13:FuncData) (d14:FuncData) (d15:FuncData) (d16:FuncData) (d17:FuncData) (d18:FuncData) (d19:FuncData) (d20:FuncData) (d21:FuncData) (d22:FuncData) (d23:FuncData) (d24:FuncData) (d25:FuncData) (d26:FuncData) (d27:FuncData) (d28:FuncData) (d29:FuncData) (d30:FuncData) (d31:FuncData) (d32:FuncData) (d33:FuncData) (d34:FuncData) (d35:FuncData) (d36:FuncData) (d37:FuncData) (d38:FuncData) (d39:FuncData):Nat→FuncData
 |0=>d0
 |1=>d1
 |2=>d2
 |3=>d3
 |4=>d4
 |5=>d5
 |6=>d6
 |7=>d7
 |8=>d8
 |9=>d9
 |10=>d10
 |11=>d11
 |12=>d12
 |13=>d13
 |14=>d14
 |15=>d15
 |16=>d16
 |17=>d17
 |18=>d18
 |19=>d19
 |20=>d20
 |21=>d21
 |22=>d22
 |23=>d23
 |24=>d24
 |25=>d25
 |26=>d26
 |27=>d27
 |28=>d28
 |29=>d29
 |30=>d30
 |31=>d31
 |32=>d32
 |33=>d33
 |34=>d34
 |35=>d35
 |36=>d36
 |37=>d37
 |38=>d38
 |39=>d39
 | _=>d0
theorem all_mk {l:PySem.W.OpenLaw} {w:World} {K:PySem.W.Frag} {h:Heap} {mg:Str→Option Value} {fa:Addr} (X:K.In h) (G:h.Ns mainGlobals mg) (hfa:mg "law" =some (.ref fa)) (TT:∀ns:List Int,ns.length≤63→∃S,Fs 70 27 [.scr ns] [.tab "law" ((("law" :Str)++ ".<locals>.")++ "<lambda>")] = .ok (.bl true) S)
 {X1 X2 X3 X4 X5 X6 f7 f17 kd26 f29 f39 f49 f59 f69 f79 f89 f99 f109 f119 f129 f139 f149 f159 f169 f179 f189 f199 f209 f219 f229 f239 f249 f259 f269 f279 Cq289 Tq291 f292 a302 a309:Addr}
 {od8 an9 od18 an19 od30 an31 od40 an41 od50 an51 od60 an61 od70 an71 od80 an81 od90 an91 od100 an101 od110 an111 od120 an121 od130 an131 od140 an141 od150 an151 od160 an161 od170 an171 od180 an181 od190 an191 od200 an201 od210 an211 od220 an221 od230 an231 od240 an241 od250 an251 od260 an261 od270 an271 od280 an281 od293 an294 dd306 dd312:Option Addr}
 {sl10 sl20 sl32 sl42 sl52 sl62 sl72 sl82 sl92 sl102 sl112 sl122 sl132 sl142 sl152 sl162 sl172 sl182 sl192 sl202 sl212 sl222 sl232 sl242 sl252 sl262 sl272 sl282 sl295 sl308 sl314:Array (Option Value)}
 {oc11 dc12 pm13 cd14 ct15 kV16 oc21 dc22 pm23 cd24 ct25 oc33 dc34 pm35 cd36 ct37 kV38 oc43 dc44 pm45 cd46 ct47 kV48 oc53 dc54 pm55 cd56 ct57 kV58 oc63 dc64 pm65 cd66 ct67 kV68 oc73 dc74 pm75 cd76 ct77 kV78 oc83 dc84 pm85 cd86 ct87 kV88 oc93 dc94 pm95 cd96 ct97 kV98 oc103 dc104 pm105 cd106 ct107 kV108 oc113 dc114 pm115 cd116 ct117 kV118 oc123 dc124 pm125 cd126 ct127 kV128 oc133 dc134 pm135 cd136 ct137 kV138 oc143 dc144 pm145 cd146 ct147 kV148 oc153 dc154 pm155 cd156 ct157 kV158 oc163 dc164 pm165 cd166 ct167 kV168 oc173 dc174 pm175 cd176 ct177 kV178 oc183 dc184 pm185 cd186 ct187 kV188 oc193 dc194 pm195 cd196 ct197 kV198 oc203 dc204 pm205 cd206 ct207 kV208 oc213 dc214 pm215 cd216 ct217 kV218 oc223 dc224 pm225 cd226 ct227 kV228 oc233 dc234 pm235 cd236 ct237 kV238 oc243 dc244 pm245 cd246 ct247 kV248 oc253 dc254 pm255 cd256 ct257 kV258 oc263 dc264 pm265 cd266 ct267 kV268 oc273 dc274 pm275 cd276 ct277 kV278 oc283 dc284 pm285 cd286 ct287 kV288 oc296 dc297 pm298 cd299 ct300 kV301:Value}
 {t27 t28 t303 t304 t305 t310 t311:PySem.Tok}
 {oY290:Obj}
 {n307 n313:Nat}
 (a_Halted:PySem.W.nsIn K mainGlobals "Halted" =some (some (.ref X1)))
 (sb_Halted:PySem.W.subIn K (.ref X1) (.type "BaseException")=some true)
 (hd_Halted:PySem.W.hasDictIn K X1=true)
 (ty_Halted:PySem.W.typeIn K (.ref X1)=some (.type "type"))
 (a_Missing:PySem.W.nsIn K mainGlobals "Missing" =some (some (.ref X2)))
 (sb_Missing:PySem.W.subIn K (.ref X2) (.type "BaseException")=some true)
 (hd_Missing:PySem.W.hasDictIn K X2=true)
 (ty_Missing:PySem.W.typeIn K (.ref X2)=some (.type "type"))
 (a_NoName:PySem.W.nsIn K mainGlobals "NoName" =some (some (.ref X3)))
 (sb_NoName:PySem.W.subIn K (.ref X3) (.type "BaseException")=some true)
 (hd_NoName:PySem.W.hasDictIn K X3=true)
 (ty_NoName:PySem.W.typeIn K (.ref X3)=some (.type "type"))
 (a_NoNumber:PySem.W.nsIn K mainGlobals "NoNumber" =some (some (.ref X4)))
 (sb_NoNumber:PySem.W.subIn K (.ref X4) (.type "BaseException")=some true)
 (hd_NoNumber:PySem.W.hasDictIn K X4=true)
 (ty_NoNumber:PySem.W.typeIn K (.ref X4)=some (.type "type"))
 (a_NoPlace:PySem.W.nsIn K mainGlobals "NoPlace" =some (some (.ref X5)))
 (sb_NoPlace:PySem.W.subIn K (.ref X5) (.type "BaseException")=some true)
 (hd_NoPlace:PySem.W.hasDictIn K X5=true)
 (ty_NoPlace:PySem.W.typeIn K (.ref X5)=some (.type "type"))
 (kp_NoPlace:PySem.W.keepIn K (.ref X5)=true)
 (in_NoPlace:PySem.W.excInitIn K X5 [.type "LookupError", .type "Exception", .type "BaseException", .type "object"] "LookupError.__new__" =true)
 (ov_NoPlace:PySem.W.excOver K X5 [.type "LookupError", .type "Exception", .type "BaseException", .type "object"] =true)
 (sa_NoPlace:PySem.W.findIn K (.ref X5) "__setattr__" =some (some (.builtin "object.__setattr__")))
 (ga_NoPlace:PySem.W.findIn K (.ref X5) "__getattribute__" =some (some (.builtin "BaseException.__getattribute__")))
 (gg_NoPlace:PySem.W.findIn K (.ref X5) "__getattr__" =some none)
 (cl_NoPlace:PySem.W.findIn K (.ref X5) "__class__" =some (some (.builtin "object.__class__")))
 (mr_NoPlace:PySem.W.mroIn K X5 (.type "object")=some true)
 (xn_NoPlace:PySem.W.findIn K (.ref X5) "place" =some none)
 (a_Refused:PySem.W.nsIn K mainGlobals "Refused" =some (some (.ref X6)))
 (sb_Refused:PySem.W.subIn K (.ref X6) (.type "BaseException")=some true)
 (hd_Refused:PySem.W.hasDictIn K X6=true)
 (ty_Refused:PySem.W.typeIn K (.ref X6)=some (.type "type"))
 (sp_class:PySem.W.specialIn K (.builtin "object.__class__") "__get__" =some (some (.builtin "getset_descriptor.__get__")))
 (tk_class:PySem.W.takesIn K (.builtin "object.__class__")=some true)
 (xs_NoPlace__Halted:PySem.W.subIn K (.ref X5) (.ref X1)=some false)
 (xs_NoPlace__LookupError:PySem.W.subIn K (.ref X5) (.type "LookupError")=some true)
 (xs_NoPlace__Missing:PySem.W.subIn K (.ref X5) (.ref X2)=some true)
 (xs_NoPlace__NoName:PySem.W.subIn K (.ref X5) (.ref X3)=some false)
 (xs_NoPlace__NoNumber:PySem.W.subIn K (.ref X5) (.ref X4)=some false)
 (xs_NoPlace__NoPlace:PySem.W.subIn K (.ref X5) (.ref X5)=some true)
 (xs_NoPlace__Refused:PySem.W.subIn K (.ref X5) (.ref X6)=some false)
 (a_is_whole:PySem.W.nsIn K mainGlobals "is_whole" =some (some (.ref f7)))
 (l_is_whole:K.lookup f7=some ⟨oc11,od8, .func (PySem.W.fnOf "is_whole" "is_whole" (defArgs s_is_whole) (defBody s_is_whole) (defScope s_is_whole) .none kV16 dc12 pm13 an9 cd14 ct15),sl10⟩)
 (c_is_whole:PySem.W.codeIn K cd14 "is_whole" =true)
 (k_is_whole:PySem.W.keepIn K (.ref f7)=true)
 (a_is_number:PySem.W.nsIn K mainGlobals "is_number" =some (some (.ref f17)))
 (l_is_number:K.lookup f17=some ⟨oc21,od18, .func (PySem.W.fnOf "is_number" "is_number" (defArgs s_is_number) (defBody s_is_number) (defScope s_is_number) .none (.ref kd26) dc22 pm23 an19 cd24 ct25),sl20⟩)
 (c_is_number:PySem.W.codeIn K cd24 "is_number" =true)
 (k_is_number:PySem.W.keepIn K (.ref f17)=true)
 (w_is_number_high:PySem.W.nsIn K kd26 "high" =some (some (.int 9972 t27)))
 (w_is_number_low:PySem.W.nsIn K kd26 "low" =some (some (.int 0 t28)))
 (a_at:PySem.W.nsIn K mainGlobals "at" =some (some (.ref f29)))
 (l_at:K.lookup f29=some ⟨oc33,od30, .func (PySem.W.fnOf "at" "at" (defArgs s_at) (defBody s_at) (defScope s_at) .none kV38 dc34 pm35 an31 cd36 ct37),sl32⟩)
 (c_at:PySem.W.codeIn K cd36 "at" =true)
 (k_at:PySem.W.keepIn K (.ref f29)=true)
 (a_name_form:PySem.W.nsIn K mainGlobals "name_form" =some (some (.ref f39)))
 (l_name_form:K.lookup f39=some ⟨oc43,od40, .func (PySem.W.fnOf "name_form" "name_form" (defArgs s_name_form) (defBody s_name_form) (defScope s_name_form) .none kV48 dc44 pm45 an41 cd46 ct47),sl42⟩)
 (c_name_form:PySem.W.codeIn K cd46 "name_form" =true)
 (k_name_form:PySem.W.keepIn K (.ref f39)=true)
 (a_form_by:PySem.W.nsIn K mainGlobals "form_by" =some (some (.ref f49)))
 (l_form_by:K.lookup f49=some ⟨oc53,od50, .func (PySem.W.fnOf "form_by" "form_by" (defArgs s_form_by) (defBody s_form_by) (defScope s_form_by) .none kV58 dc54 pm55 an51 cd56 ct57),sl52⟩)
 (c_form_by:PySem.W.codeIn K cd56 "form_by" =true)
 (k_form_by:PySem.W.keepIn K (.ref f49)=true)
 (a_around:PySem.W.nsIn K mainGlobals "around" =some (some (.ref f59)))
 (l_around:K.lookup f59=some ⟨oc63,od60, .func (PySem.W.fnOf "around" "around" (defArgs s_around) (defBody s_around) (defScope s_around) .none kV68 dc64 pm65 an61 cd66 ct67),sl62⟩)
 (c_around:PySem.W.codeIn K cd66 "around" =true)
 (k_around:PySem.W.keepIn K (.ref f59)=true)
 (a_form_at:PySem.W.nsIn K mainGlobals "form_at" =some (some (.ref f69)))
 (l_form_at:K.lookup f69=some ⟨oc73,od70, .func (PySem.W.fnOf "form_at" "form_at" (defArgs s_form_at) (defBody s_form_at) (defScope s_form_at) .none kV78 dc74 pm75 an71 cd76 ct77),sl72⟩)
 (c_form_at:PySem.W.codeIn K cd76 "form_at" =true)
 (k_form_at:PySem.W.keepIn K (.ref f69)=true)
 (a_form_of:PySem.W.nsIn K mainGlobals "form_of" =some (some (.ref f79)))
 (l_form_of:K.lookup f79=some ⟨oc83,od80, .func (PySem.W.fnOf "form_of" "form_of" (defArgs s_form_of) (defBody s_form_of) (defScope s_form_of) .none kV88 dc84 pm85 an81 cd86 ct87),sl82⟩)
 (c_form_of:PySem.W.codeIn K cd86 "form_of" =true)
 (k_form_of:PySem.W.keepIn K (.ref f79)=true)
 (a_are_alike:PySem.W.nsIn K mainGlobals "are_alike" =some (some (.ref f89)))
 (l_are_alike:K.lookup f89=some ⟨oc93,od90, .func (PySem.W.fnOf "are_alike" "are_alike" (defArgs s_are_alike) (defBody s_are_alike) (defScope s_are_alike) .none kV98 dc94 pm95 an91 cd96 ct97),sl92⟩)
 (c_are_alike:PySem.W.codeIn K cd96 "are_alike" =true)
 (k_are_alike:PySem.W.keepIn K (.ref f89)=true)
 (a_same_at:PySem.W.nsIn K mainGlobals "same_at" =some (some (.ref f99)))
 (l_same_at:K.lookup f99=some ⟨oc103,od100, .func (PySem.W.fnOf "same_at" "same_at" (defArgs s_same_at) (defBody s_same_at) (defScope s_same_at) .none kV108 dc104 pm105 an101 cd106 ct107),sl102⟩)
 (c_same_at:PySem.W.codeIn K cd106 "same_at" =true)
 (k_same_at:PySem.W.keepIn K (.ref f99)=true)
 (a_same_runs:PySem.W.nsIn K mainGlobals "same_runs" =some (some (.ref f109)))
 (l_same_runs:K.lookup f109=some ⟨oc113,od110, .func (PySem.W.fnOf "same_runs" "same_runs" (defArgs s_same_runs) (defBody s_same_runs) (defScope s_same_runs) .none kV118 dc114 pm115 an111 cd116 ct117),sl112⟩)
 (c_same_runs:PySem.W.codeIn K cd116 "same_runs" =true)
 (k_same_runs:PySem.W.keepIn K (.ref f109)=true)
 (a_same_heaps:PySem.W.nsIn K mainGlobals "same_heaps" =some (some (.ref f119)))
 (l_same_heaps:K.lookup f119=some ⟨oc123,od120, .func (PySem.W.fnOf "same_heaps" "same_heaps" (defArgs s_same_heaps) (defBody s_same_heaps) (defScope s_same_heaps) .none kV128 dc124 pm125 an121 cd126 ct127),sl122⟩)
 (c_same_heaps:PySem.W.codeIn K cd126 "same_heaps" =true)
 (k_same_heaps:PySem.W.keepIn K (.ref f119)=true)
 (a_law_purse:PySem.W.nsIn K mainGlobals "_law_purse" =some (some (.ref f129)))
 (l_law_purse:K.lookup f129=some ⟨oc133,od130, .func (PySem.W.fnOf "_law_purse" "_law_purse" (defArgs s_law_purse) (defBody s_law_purse) (defScope s_law_purse) .none kV138 dc134 pm135 an131 cd136 ct137),sl132⟩)
 (c_law_purse:PySem.W.codeIn K cd136 "_law_purse" =true)
 (k_law_purse:PySem.W.keepIn K (.ref f129)=true)
 (a_law_pick:PySem.W.nsIn K mainGlobals "_law_pick" =some (some (.ref f139)))
 (l_law_pick:K.lookup f139=some ⟨oc143,od140, .func (PySem.W.fnOf "_law_pick" "_law_pick" (defArgs s_law_pick) (defBody s_law_pick) (defScope s_law_pick) .none kV148 dc144 pm145 an141 cd146 ct147),sl142⟩)
 (c_law_pick:PySem.W.codeIn K cd146 "_law_pick" =true)
 (k_law_pick:PySem.W.keepIn K (.ref f139)=true)
 (a_law_thing:PySem.W.nsIn K mainGlobals "_law_thing" =some (some (.ref f149)))
 (l_law_thing:K.lookup f149=some ⟨oc153,od150, .func (PySem.W.fnOf "_law_thing" "_law_thing" (defArgs s_law_thing) (defBody s_law_thing) (defScope s_law_thing) .none kV158 dc154 pm155 an151 cd156 ct157),sl152⟩)
 (c_law_thing:PySem.W.codeIn K cd156 "_law_thing" =true)
 (k_law_thing:PySem.W.keepIn K (.ref f149)=true)
 (a_law_program:PySem.W.nsIn K mainGlobals "_law_program" =some (some (.ref f159)))
 (l_law_program:K.lookup f159=some ⟨oc163,od160, .func (PySem.W.fnOf "_law_program" "_law_program" (defArgs s_law_program) (defBody s_law_program) (defScope s_law_program) .none kV168 dc164 pm165 an161 cd166 ct167),sl162⟩)
 (c_law_program:PySem.W.codeIn K cd166 "_law_program" =true)
 (k_law_program:PySem.W.keepIn K (.ref f159)=true)
 (a_law_free:PySem.W.nsIn K mainGlobals "_law_free" =some (some (.ref f169)))
 (l_law_free:K.lookup f169=some ⟨oc173,od170, .func (PySem.W.fnOf "_law_free" "_law_free" (defArgs s_law_free) (defBody s_law_free) (defScope s_law_free) .none kV178 dc174 pm175 an171 cd176 ct177),sl172⟩)
 (c_law_free:PySem.W.codeIn K cd176 "_law_free" =true)
 (k_law_free:PySem.W.keepIn K (.ref f169)=true)
 (a_law_turned:PySem.W.nsIn K mainGlobals "_law_turned" =some (some (.ref f179)))
 (l_law_turned:K.lookup f179=some ⟨oc183,od180, .func (PySem.W.fnOf "_law_turned" "_law_turned" (defArgs s_law_turned) (defBody s_law_turned) (defScope s_law_turned) .none kV188 dc184 pm185 an181 cd186 ct187),sl182⟩)
 (c_law_turned:PySem.W.codeIn K cd186 "_law_turned" =true)
 (k_law_turned:PySem.W.keepIn K (.ref f179)=true)
 (a_law_places:PySem.W.nsIn K mainGlobals "_law_places" =some (some (.ref f189)))
 (l_law_places:K.lookup f189=some ⟨oc193,od190, .func (PySem.W.fnOf "_law_places" "_law_places" (defArgs s_law_places) (defBody s_law_places) (defScope s_law_places) .none kV198 dc194 pm195 an191 cd196 ct197),sl192⟩)
 (c_law_places:PySem.W.codeIn K cd196 "_law_places" =true)
 (k_law_places:PySem.W.keepIn K (.ref f189)=true)
 (a_law_at:PySem.W.nsIn K mainGlobals "_law_at" =some (some (.ref f199)))
 (l_law_at:K.lookup f199=some ⟨oc203,od200, .func (PySem.W.fnOf "_law_at" "_law_at" (defArgs s_law_at) (defBody s_law_at) (defScope s_law_at) .none kV208 dc204 pm205 an201 cd206 ct207),sl202⟩)
 (c_law_at:PySem.W.codeIn K cd206 "_law_at" =true)
 (k_law_at:PySem.W.keepIn K (.ref f199)=true)
 (a_law_put:PySem.W.nsIn K mainGlobals "_law_put" =some (some (.ref f209)))
 (l_law_put:K.lookup f209=some ⟨oc213,od210, .func (PySem.W.fnOf "_law_put" "_law_put" (defArgs s_law_put) (defBody s_law_put) (defScope s_law_put) .none kV218 dc214 pm215 an211 cd216 ct217),sl212⟩)
 (c_law_put:PySem.W.codeIn K cd216 "_law_put" =true)
 (k_law_put:PySem.W.keepIn K (.ref f209)=true)
 (a_law_count:PySem.W.nsIn K mainGlobals "_law_count" =some (some (.ref f219)))
 (l_law_count:K.lookup f219=some ⟨oc223,od220, .func (PySem.W.fnOf "_law_count" "_law_count" (defArgs s_law_count) (defBody s_law_count) (defScope s_law_count) .none kV228 dc224 pm225 an221 cd226 ct227),sl222⟩)
 (c_law_count:PySem.W.codeIn K cd226 "_law_count" =true)
 (k_law_count:PySem.W.keepIn K (.ref f219)=true)
 (a_law_deep:PySem.W.nsIn K mainGlobals "_law_deep" =some (some (.ref f229)))
 (l_law_deep:K.lookup f229=some ⟨oc233,od230, .func (PySem.W.fnOf "_law_deep" "_law_deep" (defArgs s_law_deep) (defBody s_law_deep) (defScope s_law_deep) .none kV238 dc234 pm235 an231 cd236 ct237),sl232⟩)
 (c_law_deep:PySem.W.codeIn K cd236 "_law_deep" =true)
 (k_law_deep:PySem.W.keepIn K (.ref f229)=true)
 (a_law_copied:PySem.W.nsIn K mainGlobals "_law_copied" =some (some (.ref f239)))
 (l_law_copied:K.lookup f239=some ⟨oc243,od240, .func (PySem.W.fnOf "_law_copied" "_law_copied" (defArgs s_law_copied) (defBody s_law_copied) (defScope s_law_copied) .none kV248 dc244 pm245 an241 cd246 ct247),sl242⟩)
 (c_law_copied:PySem.W.codeIn K cd246 "_law_copied" =true)
 (k_law_copied:PySem.W.keepIn K (.ref f239)=true)
 (a_law_odd:PySem.W.nsIn K mainGlobals "_law_odd" =some (some (.ref f249)))
 (l_law_odd:K.lookup f249=some ⟨oc253,od250, .func (PySem.W.fnOf "_law_odd" "_law_odd" (defArgs s_law_odd) (defBody s_law_odd) (defScope s_law_odd) .none kV258 dc254 pm255 an251 cd256 ct257),sl252⟩)
 (c_law_odd:PySem.W.codeIn K cd256 "_law_odd" =true)
 (k_law_odd:PySem.W.keepIn K (.ref f249)=true)
 (a_law_told:PySem.W.nsIn K mainGlobals "_law_told" =some (some (.ref f259)))
 (l_law_told:K.lookup f259=some ⟨oc263,od260, .func (PySem.W.fnOf "_law_told" "_law_told" (defArgs s_law_told) (defBody s_law_told) (defScope s_law_told) .none kV268 dc264 pm265 an261 cd266 ct267),sl262⟩)
 (c_law_told:PySem.W.codeIn K cd266 "_law_told" =true)
 (k_law_told:PySem.W.keepIn K (.ref f259)=true)
 (a_law_is_none:PySem.W.nsIn K mainGlobals "_law_is_none" =some (some (.ref f269)))
 (l_law_is_none:K.lookup f269=some ⟨oc273,od270, .func (PySem.W.fnOf "_law_is_none" "_law_is_none" (defArgs s_law_is_none) (defBody s_law_is_none) (defScope s_law_is_none) .none kV278 dc274 pm275 an271 cd276 ct277),sl272⟩)
 (c_law_is_none:PySem.W.codeIn K cd276 "_law_is_none" =true)
 (k_law_is_none:PySem.W.keepIn K (.ref f269)=true)
 (a_law:PySem.W.nsIn K mainGlobals "law" =some (some (.ref f279)))
 (l_law:K.lookup f279=some ⟨oc283,od280, .func (PySem.W.fnOf "law" "law" (defArgs s_law) (defBody s_law) (defScope s_law) .none kV288 dc284 pm285 an281 cd286 ct287),sl282⟩)
 (c_law:PySem.W.codeIn K cd286 "law" =true)
 (k_law:PySem.W.keepIn K (.ref f279)=true)
 (lamC:cd286= .ref Cq289)
 (lamO:K.lookup Cq289=some oY290)
 (lamT:codP oY290=some Tq291)
 (lamH:codHdO oY290 Cq289 Tq291=true)
 (lamN:K.lookup Tq291=none)
 (xc_NoPlace:PySem.W.findIn K (.ref X5) "__init__" =some (some (.ref f292)))
 (xt_NoPlace:PySem.W.typeIn K (.ref f292)=some (.type "function"))
 (l_NoPlace___init__:K.lookup f292=some ⟨oc296,od293, .func (PySem.W.fnOf "__init__" "NoPlace.__init__" (defArgs s_NoPlace___init__) (defBody s_NoPlace___init__) (defScope s_NoPlace___init__) .none kV301 dc297 pm298 an294 cd299 ct300),sl295⟩)
 (c_NoPlace___init__:PySem.W.codeIn K cd299 "NoPlace.__init__" =true)
 (k_NoPlace___init__:PySem.W.keepIn K (.ref f292)=true)
 (z_LookupError:PySem.W.nsIn K mainGlobals "LookupError" =some none)
 (z_abs:PySem.W.nsIn K mainGlobals "abs" =some none)
 (z_bool:PySem.W.nsIn K mainGlobals "bool" =some none)
 (z_dict:PySem.W.nsIn K mainGlobals "dict" =some none)
 (z_enumerate:PySem.W.nsIn K mainGlobals "enumerate" =some none)
 (z_int:PySem.W.nsIn K mainGlobals "int" =some none)
 (z_isinstance:PySem.W.nsIn K mainGlobals "isinstance" =some none)
 (z_len:PySem.W.nsIn K mainGlobals "len" =some none)
 (z_list:PySem.W.nsIn K mainGlobals "list" =some none)
 (z_max:PySem.W.nsIn K mainGlobals "max" =some none)
 (z_min:PySem.W.nsIn K mainGlobals "min" =some none)
 (z_range:PySem.W.nsIn K mainGlobals "range" =some none)
 (z_repr:PySem.W.nsIn K mainGlobals "repr" =some none)
 (z_reversed:PySem.W.nsIn K mainGlobals "reversed" =some none)
 (z_sorted:PySem.W.nsIn K mainGlobals "sorted" =some none)
 (z_str:PySem.W.nsIn K mainGlobals "str" =some none)
 (z_sum:PySem.W.nsIn K mainGlobals "sum" =some none)
 (z_tuple:PySem.W.nsIn K mainGlobals "tuple" =some none)
 (x_FREE_ORDER:PySem.W.nsIn K mainGlobals "FREE_ORDER" =some (some (.ref a302)))
 (l_FREE_ORDER:K.lookup a302=some ⟨.type "tuple",dd306, .seq (List.toArray [(.str "plus" t303),(.str "times" t304),(.str "most" t305)]) n307,sl308⟩)
 (x_GIVERS:PySem.W.nsIn K mainGlobals "GIVERS" =some (some (.ref a309)))
 (l_GIVERS:K.lookup a309=some ⟨.type "tuple",dd312, .seq (List.toArray [(.str "let" t310),(.str "each" t311)]) n313,sl314⟩)
 : ∃(fd:FuncData) (TT:Addr),(∀ (s:Shared) (v:Value),BindsTo s fd ⟨[v],[]⟩ [("_law_script",v)])∧TabIs ⟨K,w,mg⟩ "law" TT∧K.lookup TT=none∧∀base:Heap,K.In base→base.Ns mainGlobals mg→(∃ o,base.get? sysModules=some o)→BltIn base mg→FnG l.prog w K mg base (lw 70) fa fd ["_law_script"] (spLawT K TT):=by
 have e:=hfa.symm.trans (PySem.W.mg_of X G a_law)
 cases e
 have F_is_whole:=funD_mk (K:=K) (kws:= []) l_is_whole c_is_whole k_is_whole kw_none
 have F_is_number:=funD_mk (K:=K) (kws:= [("low", .int 0),("high", .int 9972)]) l_is_number c_is_number k_is_number (kw_some (kw_cons w_is_number_low ⟨_,rfl⟩ (kw_cons w_is_number_high ⟨_,rfl⟩ kw_nil)))
 have F_at:=funD_mk (K:=K) (kws:= []) l_at c_at k_at kw_none
 have F_name_form:=funD_mk (K:=K) (kws:= []) l_name_form c_name_form k_name_form kw_none
 have F_form_by:=funD_mk (K:=K) (kws:= []) l_form_by c_form_by k_form_by kw_none
 have F_around:=funD_mk (K:=K) (kws:= []) l_around c_around k_around kw_none
 have F_form_at:=funD_mk (K:=K) (kws:= []) l_form_at c_form_at k_form_at kw_none
 have F_form_of:=funD_mk (K:=K) (kws:= []) l_form_of c_form_of k_form_of kw_none
 have F_are_alike:=funD_mk (K:=K) (kws:= []) l_are_alike c_are_alike k_are_alike kw_none
 have F_same_at:=funD_mk (K:=K) (kws:= []) l_same_at c_same_at k_same_at kw_none
 have F_same_runs:=funD_mk (K:=K) (kws:= []) l_same_runs c_same_runs k_same_runs kw_none
 have F_same_heaps:=funD_mk (K:=K) (kws:= []) l_same_heaps c_same_heaps k_same_heaps kw_none
 have F_law_purse:=funD_mk (K:=K) (kws:= []) l_law_purse c_law_purse k_law_purse kw_none
 have F_law_pick:=funD_mk (K:=K) (kws:= []) l_law_pick c_law_pick k_law_pick kw_none
 have F_law_thing:=funD_mk (K:=K) (kws:= []) l_law_thing c_law_thing k_law_thing kw_none
 have F_law_program:=funD_mk (K:=K) (kws:= []) l_law_program c_law_program k_law_program kw_none
 have F_law_free:=funD_mk (K:=K) (kws:= []) l_law_free c_law_free k_law_free kw_none
 have F_law_turned:=funD_mk (K:=K) (kws:= []) l_law_turned c_law_turned k_law_turned kw_none
 have F_law_places:=funD_mk (K:=K) (kws:= []) l_law_places c_law_places k_law_places kw_none
 have F_law_at:=funD_mk (K:=K) (kws:= []) l_law_at c_law_at k_law_at kw_none
 have F_law_put:=funD_mk (K:=K) (kws:= []) l_law_put c_law_put k_law_put kw_none
 have F_law_count:=funD_mk (K:=K) (kws:= []) l_law_count c_law_count k_law_count kw_none
 have F_law_deep:=funD_mk (K:=K) (kws:= []) l_law_deep c_law_deep k_law_deep kw_none
 have F_law_copied:=funD_mk (K:=K) (kws:= []) l_law_copied c_law_copied k_law_copied kw_none
 have F_law_odd:=funD_mk (K:=K) (kws:= []) l_law_odd c_law_odd k_law_odd kw_none
 have F_law_told:=funD_mk (K:=K) (kws:= []) l_law_told c_law_told k_law_told kw_none
 have F_law_is_none:=funD_mk (K:=K) (kws:= []) l_law_is_none c_law_is_none k_law_is_none kw_none
 have F_law:=funD_mk (K:=K) (kws:= []) l_law c_law k_law kw_none
 have F_NoPlace___init__:=funD_mk (K:=K) (kws:= []) l_NoPlace___init__ c_NoPlace___init__ k_NoPlace___init__ kw_none
 have T:Txt K w mg (fun i=>([f7,f17,f29,f39,f49,f59,f69,f79,f89,f99,f109,f119,f129,f139,f149,f159,f169,f179,f189,f199,f209,f219,f229,f239,f249,f259,f269,fa,X6,X2,X1,X5,X3,X4,0,0,0,f292,0,0] :List Addr).getD i 0) (fdOf _ _ _ _ _ _ _ _ _ _ _ _ _ _ _ _ _ _ _ _ _ _ _ _ _ _ _ _ default default default default default default default default default _ default default):= {
  z_LookupError:=PySem.W.mg_none_of X G z_LookupError,
  z_abs:=PySem.W.mg_none_of X G z_abs,
  z_bool:=PySem.W.mg_none_of X G z_bool,
  z_dict:=PySem.W.mg_none_of X G z_dict,
  z_enumerate:=PySem.W.mg_none_of X G z_enumerate,
  z_int:=PySem.W.mg_none_of X G z_int,
  z_isinstance:=PySem.W.mg_none_of X G z_isinstance,
  z_len:=PySem.W.mg_none_of X G z_len,
  z_list:=PySem.W.mg_none_of X G z_list,
  z_max:=PySem.W.mg_none_of X G z_max,
  z_min:=PySem.W.mg_none_of X G z_min,
  z_range:=PySem.W.mg_none_of X G z_range,
  z_repr:=PySem.W.mg_none_of X G z_repr,
  z_reversed:=PySem.W.mg_none_of X G z_reversed,
  z_sorted:=PySem.W.mg_none_of X G z_sorted,
  z_str:=PySem.W.mg_none_of X G z_str,
  z_sum:=PySem.W.mg_none_of X G z_sum,
  z_tuple:=PySem.W.mg_none_of X G z_tuple,
  c_FREE_ORDER:=grep_of (PySem.W.mg_of X G x_FREE_ORDER) (kv_tup l_FREE_ORDER (kvs_cons kv_str (kvs_cons kv_str (kvs_cons kv_str kvs_nil)))),
  c_GIVERS:=grep_of (PySem.W.mg_of X G x_GIVERS) (kv_tup l_GIVERS (kvs_cons kv_str (kvs_cons kv_str kvs_nil))),
  g_is_whole:=PySem.W.mg_of X G a_is_whole,
  F_is_whole:=F_is_whole,
  g_is_number:=PySem.W.mg_of X G a_is_number,
  F_is_number:=F_is_number,
  g_at:=PySem.W.mg_of X G a_at,
  F_at:=F_at,
  g_name_form:=PySem.W.mg_of X G a_name_form,
  F_name_form:=F_name_form,
  g_form_by:=PySem.W.mg_of X G a_form_by,
  F_form_by:=F_form_by,
  g_around:=PySem.W.mg_of X G a_around,
  F_around:=F_around,
  g_form_at:=PySem.W.mg_of X G a_form_at,
  F_form_at:=F_form_at,
  g_form_of:=PySem.W.mg_of X G a_form_of,
  F_form_of:=F_form_of,
  g_are_alike:=PySem.W.mg_of X G a_are_alike,
  F_are_alike:=F_are_alike,
  g_same_at:=PySem.W.mg_of X G a_same_at,
  F_same_at:=F_same_at,
  g_same_runs:=PySem.W.mg_of X G a_same_runs,
  F_same_runs:=F_same_runs,
  g_same_heaps:=PySem.W.mg_of X G a_same_heaps,
  F_same_heaps:=F_same_heaps,
  g_law_purse:=PySem.W.mg_of X G a_law_purse,
  F_law_purse:=F_law_purse,
  g_law_pick:=PySem.W.mg_of X G a_law_pick,
  F_law_pick:=F_law_pick,
  g_law_thing:=PySem.W.mg_of X G a_law_thing,
  F_law_thing:=F_law_thing,
  g_law_program:=PySem.W.mg_of X G a_law_program,
  F_law_program:=F_law_program,
  g_law_free:=PySem.W.mg_of X G a_law_free,
  F_law_free:=F_law_free,
  g_law_turned:=PySem.W.mg_of X G a_law_turned,
  F_law_turned:=F_law_turned,
  g_law_places:=PySem.W.mg_of X G a_law_places,
  F_law_places:=F_law_places,
  g_law_at:=PySem.W.mg_of X G a_law_at,
  F_law_at:=F_law_at,
  g_law_put:=PySem.W.mg_of X G a_law_put,
  F_law_put:=F_law_put,
  g_law_count:=PySem.W.mg_of X G a_law_count,
  F_law_count:=F_law_count,
  g_law_deep:=PySem.W.mg_of X G a_law_deep,
  F_law_deep:=F_law_deep,
  g_law_copied:=PySem.W.mg_of X G a_law_copied,
  F_law_copied:=F_law_copied,
  g_law_odd:=PySem.W.mg_of X G a_law_odd,
  F_law_odd:=F_law_odd,
  g_law_told:=PySem.W.mg_of X G a_law_told,
  F_law_told:=F_law_told,
  g_law_is_none:=PySem.W.mg_of X G a_law_is_none,
  F_law_is_none:=F_law_is_none,
  g_law:=PySem.W.mg_of X G a_law,
  F_law:=F_law,
  ca_Halted:=PySem.W.mg_of X G a_Halted,
  xd_Halted:=⟨sb_Halted,hd_Halted,ty_Halted⟩,
  ca_Missing:=PySem.W.mg_of X G a_Missing,
  xd_Missing:=⟨sb_Missing,hd_Missing,ty_Missing⟩,
  ca_NoName:=PySem.W.mg_of X G a_NoName,
  xd_NoName:=⟨sb_NoName,hd_NoName,ty_NoName⟩,
  ca_NoNumber:=PySem.W.mg_of X G a_NoNumber,
  xd_NoNumber:=⟨sb_NoNumber,hd_NoNumber,ty_NoNumber⟩,
  ca_NoPlace:=PySem.W.mg_of X G a_NoPlace,
  xd_NoPlace:=⟨sb_NoPlace,hd_NoPlace,ty_NoPlace⟩,
  xi_NoPlace:=⟨ga_NoPlace,gg_NoPlace,sb_NoPlace,hd_NoPlace,cl_NoPlace,sp_class,tk_class,mr_NoPlace⟩,
  xn_NoPlace:=xn_NoPlace,
  xo_NoPlace:=⟨_,_,_,_,PySem.F.excBase_LookupError,PySem.F.store_LookupError,in_NoPlace,ov_NoPlace,sa_NoPlace,sb_NoPlace,ty_NoPlace,kp_NoPlace,hd_NoPlace⟩,
  xc_NoPlace:=xc_NoPlace,
  xt_NoPlace:=xt_NoPlace,
  F_NoPlace___init__:=F_NoPlace___init__,
  ca_Refused:=PySem.W.mg_of X G a_Refused,
  xd_Refused:=⟨sb_Refused,hd_Refused,ty_Refused⟩,
  xs_NoPlace__Halted:=xs_NoPlace__Halted,
  xs_NoPlace__LookupError:=xs_NoPlace__LookupError,
  xs_NoPlace__Missing:=xs_NoPlace__Missing,
  xs_NoPlace__NoName:=xs_NoPlace__NoName,
  xs_NoPlace__NoNumber:=xs_NoPlace__NoNumber,
  xs_NoPlace__NoPlace:=xs_NoPlace__NoPlace,
  xs_NoPlace__Refused:=xs_NoPlace__Refused }
 have ti:TabIs ⟨K,w,mg⟩ "law" Tq291:=⟨_,_,_,_,_,_,PySem.W.mg_of X G a_law,l_law,lamC,codeHdIn_of lamO lamH⟩
 exact⟨_,_,fun s v=> .of_eq rfl,ti,lamN,fun base _ _ hM hB=>law_okT (G:=⟨K,w,mg⟩) ti (all (P:=l.prog) (base:=base) hM hB T 70).c_law.1 TT⟩
end K18
namespace L3
open PySem L2
theorem lg_lt {j:Int} {m:Nat} (h:j.natAbs<2 ^ 64):j.natAbs.log2<9000:=by
 by_cases h0:j.natAbs=0
 ·rw[h0];decide
 ·exact Nat.lt_trans ((Nat.log2_lt h0).mpr h) (by decide)
section
variable {n:Nat} {S:Store} {Q:D→Store→Prop}
theorem mulOk_r {i j:Int} (h: -(2 ^ 64)<j∧j<2 ^ 64):mulOk i j=true:=by simp only[mulOk,decide_eq_true_eq];exact .inl (.inr h)
theorem mulOk_l {i j:Int} (h: -(2 ^ 64)<i∧i<2 ^ 64):mulOk i j=true:=by simp only[mulOk,decide_eq_true_eq];exact .inl (.inl h)
theorem atI_mem {α :Type} {l:List α} {i:Int} (h0:0≤i) (h:i<l.length):∃x ∈ l,atI l i=some x:=by
 refine⟨l[i.toNat]'(by omega),List.getElem_mem _,?_⟩
 simp only[atI,ixN]
 simp[h0,h,show i.toNat<l.length by omega]
def T60:Int:=10 ^ 60
theorem pw1:powD (.int 10) (.int 60) S= .ok (.int T60) S:=by kernel_rfl
theorem pw3:powD (.int 10) (.int 18) S= .ok (.int 1000000000000000000) S:=by kernel_rfl
end
end L3
namespace L3
open PySem L2
section
variable {S:Store} {env:EnvD} {Q:D→Store→Prop}
@[simp] theorem isi_tup {l:List D} :isiD [.tup l, .ty "tuple"] S= .ok (.bl true) S:=by kernel_rfl
@[simp] theorem isi_str {s:Str} :isiD [.str s, .ty "str"] S= .ok (.bl true) S:=by kernel_rfl
@[simp] theorem isi_bl {b:Bool} :isiD [.bl b, .ty "bool"] S= .ok (.bl true) S:=by kernel_rfl
@[simp] theorem isi_lst_tup {l:List D} :isiD [.lst l, .ty "tuple"] S= .ok (.bl false) S:=by kernel_rfl
@[simp] theorem isi_dic_tup {k} {l:List D} :isiD [.dic k l, .ty "tuple"] S= .ok (.bl false) S:=by kernel_rfl
@[simp] theorem isi_str_tup {l:Str} :isiD [.str l, .ty "tuple"] S= .ok (.bl false) S:=by kernel_rfl
@[simp] theorem isi_int_tup {l:Int} :isiD [.int l, .ty "tuple"] S= .ok (.bl false) S:=by kernel_rfl
@[simp] theorem isi_bl_tup {l:Bool} :isiD [.bl l, .ty "tuple"] S= .ok (.bl false) S:=by kernel_rfl
@[simp] theorem isi_non_tup:isiD [.non, .ty "tuple"] S= .ok (.bl false) S:=by kernel_rfl
@[simp] theorem isi_lst_str {l:List D} :isiD [.lst l, .ty "str"] S= .ok (.bl false) S:=by kernel_rfl
@[simp] theorem isi_tup_str {l:List D} :isiD [.tup l, .ty "str"] S= .ok (.bl false) S:=by kernel_rfl
@[simp] theorem isi_dic_str {k} {l:List D} :isiD [.dic k l, .ty "str"] S= .ok (.bl false) S:=by kernel_rfl
@[simp] theorem isi_int_str {l:Int} :isiD [.int l, .ty "str"] S= .ok (.bl false) S:=by kernel_rfl
@[simp] theorem isi_bl_str {l:Bool} :isiD [.bl l, .ty "str"] S= .ok (.bl false) S:=by kernel_rfl
@[simp] theorem isi_non_str:isiD [.non, .ty "str"] S= .ok (.bl false) S:=by kernel_rfl
@[simp] theorem isi_int {l:Int} :isiD [.int l, .ty "int"] S= .ok (.bl true) S:=by kernel_rfl
@[simp] theorem isi_bl_int {l:Bool} :isiD [.bl l, .ty "int"] S= .ok (.bl true) S:=by kernel_rfl
@[simp] theorem isi_int_bl {l:Int} :isiD [.int l, .ty "bool"] S= .ok (.bl false) S:=by kernel_rfl
@[simp] theorem isi_tup_int {l:List D} :isiD [.tup l, .ty "int"] S= .ok (.bl false) S:=by kernel_rfl
@[simp] theorem isi_lst_int {l:List D} :isiD [.lst l, .ty "int"] S= .ok (.bl false) S:=by kernel_rfl
@[simp] theorem isi_dic_int {k} {l:List D} :isiD [.dic k l, .ty "int"] S= .ok (.bl false) S:=by kernel_rfl
@[simp] theorem isi_str_int {l:Str} :isiD [.str l, .ty "int"] S= .ok (.bl false) S:=by kernel_rfl
@[simp] theorem isi_non_int:isiD [.non, .ty "int"] S= .ok (.bl false) S:=by kernel_rfl
@[simp] theorem eq_strs {a b:Str} :eqD (.str a) (.str b) S= .ok (.bl (a==b)) S:=nrfl rfl
@[simp] theorem ne_strs {a b:Str} :neD (.str a) (.str b) S= .ok (.bl (!(a==b))) S:=nrfl rfl
@[simp] theorem eq_tup0 {l:List D} :eqD (.tup l) (.tup []) S= .ok (.bl l.isEmpty) S:=nrfl rfl
@[simp] theorem ne_tup0 {l:List D} :neD (.tup l) (.tup []) S= .ok (.bl (!l.isEmpty)) S:=nrfl rfl
theorem sum_lst:∀bs:List Int,allInts (bs.map D.int)=some bs
 | [] =>rfl
 |b::bs=>by simp[allInts,sum_lst bs]
theorem sum_int (bs:List Int):sumD [.lst (bs.map D.int)] S= .ok (.int bs.sum) S:=by simp[sumD,asL,sum_lst]
theorem small {n:Nat} (h:n≤1000):n≤sizeLine:=Nat.le_trans h (by decide)
theorem add_lst {a b:List D} (h:a.length+b.length≤sizeLine):addD (.lst a) (.lst b) S= .ok (.lst (a++b)) S:=by simp[addD,asL,h]
theorem add_tup {a b:List D} (h:a.length+b.length≤sizeLine):addD (.tup a) (.tup b) S= .ok (.tup (a++b)) S:=by simp[addD,h]
theorem add_str {a b:Str} (h:a.length+b.length≤sizeLine):addD (.str a) (.str b) S= .ok (.str (a++b)) S:=by simp[addD,h]
variable {N B C:EnvD→Store→Prop} {T:D→Store→Prop}
theorem for_each {g:GD} {body:SD} (I:EnvD→Store→Prop) {xs:List D} (h0:I env S)
 (hs:∀x ∈ xs,∀e S,I e S→(g x e S).sat (fun e S=>(body e S).sat I T N I) (fun _ _=>False) (fun _ _=>False) fun _ _=>False)
 (hN:∀e S,I e S→N e S):(forL g body xs env S).sat N T B C:=
 for_rule (fun _=>I) h0 (fun j hj e S h=>hs _ (List.getElem_mem hj) e S h) hN
theorem for_n {i:Nat} {body:SD} (I:EnvD→Store→Prop) {xs:List D} (h0:I env S)
 (hs:∀x ∈ xs,∀e S,I e S→(body (e.set i (some x)) S).sat I T N I) (hN:∀e S,I e S→N e S):(forL (gName i) body xs env S).sat N T B C:=
 for_each I h0 (fun x hx e S h=>by rw[gName_eq,ssat_nx];exact hs x hx e S h) hN
theorem seq_rule {a b:SD} (M:EnvD→Store→Prop) (h:(a env S).sat M T B C) (k:∀e S,M e S→(b e S).sat N T B C):(sSeq a b env S).sat N T B C:=by
 rw[ssat_seq];exact ssat_mono h k (fun _ _ h=>h) (fun _ _ h=>h) fun _ _ h=>h
@[simp] theorem sat_pNo {QO:Option Int→Store→Prop} :(pNo env S).sat QO=QO none S:=sat_ok
@[simp] theorem sat_pYes {a:ED} {QO:Option Int→Store→Prop} :(pYes a env S).sat QO=(a env S).sat fun x S1=>∃i,x= .int i∧QO (some i) S1:=by
  unfold pYes;rw[sat_bind];congr;funext x S1
  cases x<;>simp
@[simp] theorem sat_eSl {a:ED} {l h:PD} :(eSl a l h env S).sat Q=(a env S).sat fun x S1=>(l env S1).sat fun lo S2=>(h env S2).sat fun hi S3=>(slD x lo hi S3).sat Q:=by
  unfold eSl;simp only[sat_bind]
@[simp] theorem sl_tup {l:List D} {lo hi:Option Int} :slD (.tup l) lo hi S= .ok (.tup (cutL l lo hi)) S:=nrfl rfl
@[simp] theorem sl_lst {l:List D} {lo hi:Option Int} :slD (.lst l) lo hi S= .ok (.lst (cutL l lo hi)) S:=nrfl rfl
@[simp] theorem sat_eBackT {a:ED} :(eBackT a env S).sat Q=(a env S).sat fun x S1=>∃l,x= .tup l∧Q (.tup l.reverse) S1:=by
  unfold eBackT;rw[sat_bind];congr;funext x S1
  cases x<;>simp
@[simp] theorem sat_eDic0:(eDic0 env S).sat Q=Q (.dic [] []) S:=sat_ok
@[simp] theorem sat_eDct0:(eDct0 env S).sat Q=Q (.obj S.length) (S++ [.dK []]):=sat_ok
end
end L3
namespace L3
open PySem L2
def WORDS:List Str:= ["plus","times","most","row","say","less","below","if","let","each","num","name","any","rest","called","count"]
def isLet (c:Nat):Bool:=decide (97≤c)&&decide (c≤122)
structure NameOk (s:Str):Prop where
 lo:1≤s.length
 hi:s.length≤8
 lt:s.cps.toList.all isLet=true
 nw:s ∉ WORDS
inductive Tm where
 |num (i:Int)|nam (s:Str)|nd (w m:Str) (ps:List Tm)
mutual
def Tm.d:Tm→D
 | .num i=> .tup [.str "num", .int i, .tup []]
 | .nam s=> .tup [.str "name", .str s, .tup []]
 | .nd w m ps=> .tup [.str w, .str m, .tup (Tm.ds ps)]
def Tm.ds:List Tm→List D
 | [] => []
 |t::ts=>t.d::Tm.ds ts
end
mutual
def Tm.size:Tm→Nat
 | .num _=>1
 | .nam _=>1
 | .nd _ _ ps=>1+Tm.sizes ps
def Tm.sizes:List Tm→Nat
 | [] =>0
 |t::ts=>t.size+Tm.sizes ts
end
mutual
def Tm.dep:Tm→Nat
 | .num _=>1
 | .nam _=>1
 | .nd _ _ ps=>1+Tm.deps ps
def Tm.deps:List Tm→Nat
 | [] =>0
 |t::ts=>max t.dep (Tm.deps ts)
end
theorem Tm.ds_map:∀ts:List Tm,Tm.ds ts=ts.map Tm.d
 | [] =>rfl
 |t::ts=>by simp[Tm.ds,Tm.ds_map ts]
theorem Tm.ds_len (ts:List Tm):(Tm.ds ts).length=ts.length:=by simp[Tm.ds_map]
theorem Tm.sizes_app:∀a b:List Tm,Tm.sizes (a++b)=Tm.sizes a+Tm.sizes b
 | [],b=>by simp[Tm.sizes]
 |t::a,b=>by simp[Tm.sizes,Tm.sizes_app a b];omega
theorem Tm.deps_le {B:Nat} :∀ {ts:List Tm},Tm.deps ts≤B↔∀t ∈ ts,t.dep≤B
 | [] =>by simp[Tm.deps]
 |t::ts=>by simp[Tm.deps,Tm.deps_le (ts:=ts),Nat.max_le]
theorem Tm.size_pos:∀t:Tm,1≤t.size
 | .num _=>by simp[Tm.size]
 | .nam _=>by simp[Tm.size]
 | .nd _ _ ps=>by simp[Tm.size]
theorem Tm.dep_pos:∀t:Tm,1≤t.dep
 | .num _=>by simp[Tm.dep]
 | .nam _=>by simp[Tm.dep]
 | .nd _ _ ps=>by simp[Tm.dep]
def shape (w:Str):Option (Nat × Nat × Bool):=
 if w= "plus" ∨w= "times" ∨w= "most" then some (1,6,false)
 else if w= "row" then some (0,6,false)
 else if w= "say" then some (1,1,false)
 else if w= "less" ∨w= "below" then some (2,2,false)
 else if w= "if" then some (3,3,false)
 else if w= "let" ∨w= "each" then some (2,2,true)
 else none
inductive Good:Tm→Prop where
 |num {i:Int} :0≤i→i≤9972→Good (.num i)
 |nam {s:Str} :NameOk s→Good (.nam s)
 |nd {w m:Str} {ps:List Tm} {f mo:Nat} {g:Bool} :shape w=some (f,mo,g)→f≤ps.length→ps.length≤mo→(g=true→NameOk m)→(g=false→m= "")→(∀ p ∈ ps,Good p)→Good (.nd w m ps)
end L3
namespace L3
open PySem L2
theorem sz0:((0:Nat)≤sizeLine)=True:=eq_true (by decide)
theorem sz1:((1:Nat)≤sizeLine)=True:=eq_true (by decide)
theorem sz2:((2:Nat)≤sizeLine)=True:=eq_true (by decide)
theorem sz3:((3:Nat)≤sizeLine)=True:=eq_true (by decide)
theorem sz4:((4:Nat)≤sizeLine)=True:=eq_true (by decide)
theorem sz5:((5:Nat)≤sizeLine)=True:=eq_true (by decide)
theorem sz6:((6:Nat)≤sizeLine)=True:=eq_true (by decide)
theorem sz7:((7:Nat)≤sizeLine)=True:=eq_true (by decide)
theorem sz8:((8:Nat)≤sizeLine)=True:=eq_true (by decide)
theorem sz10:((10:Nat)≤sizeLine)=True:=eq_true (by decide)
theorem sz17:((17:Nat)≤sizeLine)=True:=eq_true (by decide)
theorem mt_str {z:Str} {S:Store} :mtD (.str z) S=some "str" :=rfl
theorem strs_map:∀l:List Str,allStrs (l.map .str)=some l
 | [] =>rfl
 |s::l=>by simp[allStrs,strs_map l]
end L3
namespace L3
open PySem L2
theorem cutL_mem {α :Type} {l:List α} {lo hi:Option Int} {x: α} (h:x ∈ cutL l lo hi):x ∈ l:=List.mem_of_mem_drop (List.mem_of_mem_take h)
theorem cutL_len {α :Type} {l:List α} {lo hi:Option Int} :(cutL l lo hi).length≤l.length:=by
 unfold cutL
 rw[List.length_take,List.length_drop];omega
end L3
namespace L3
open PySem L2
section
variable {S:Store} {env:EnvD} {Q:D→Store→Prop} {QL:List D→Store→Prop} {N B C:EnvD→Store→Prop} {T:D→Store→Prop}
theorem sat_eMeth {c m:Str} {F:FN} {mo:ED} {ma:AD} :(eMeth c m F mo ma env S).sat Q=(mo env S).sat fun x S1=>∃n fs,insAt x S1=some (n,c,fs)∧fs.lookup m=none∧(ma env S1).sat fun xs S2=>(F (x::xs) S2).sat Q:=by
 unfold eMeth;rw[sat_bind];congr;funext x S1
 cases h:insAt x S1 with
 |none=>simp
 |some v=>
  obtain⟨n,c',fs⟩:=v
  simp only []
  rw[sat_if_bad,sat_bind]
  apply propext
  constructor
  ·rintro⟨⟨e,h1⟩,h2⟩;subst e;exact⟨_,_,rfl,h1,h2⟩
  ·rintro⟨n',fs',e,h1,h2⟩;cases e;exact⟨⟨rfl,h1⟩,h2⟩
theorem sat_mkIns {c:Str} {F:FN} {xs:List D} :(mkIns c F xs S).sat Q=(F (.obj S.length::xs) (S++ [.ins c []])).sat fun d S1=>d= .non∧Q (.obj S.length) S1:=by
 unfold mkIns
 cases F (.obj S.length::xs) (S++ [.ins c []]) with
 |ok d S1=>cases d<;>simp
 | _=>simp
theorem ssat_fldD {cs:List Str} {f:Str} {mo mv:ED} :(sFldD cs f mo mv env S).sat N T B C=(mv env S).sat fun y S1=>(mo env S1).sat fun x S2=>∃n c fs,insAt x S2=some (n,c,fs)∧(c ∈ cs∧fs.length<1000)∧N env (S2.set n (.ins c (putFD f y fs))):=by
 unfold sFldD;rw[ssat_toS];congr;funext y S1;rw[ssat_toS];congr;funext x S2
 cases h:insAt x S2 with
 |none=>simp
 |some v=>
  obtain⟨n,c,fs⟩:=v
  simp only []
  apply propext
  constructor
  ·intro h1
   by_cases hc:c ∈ cs∧fs.length<1000
   ·rw[if_pos hc,ssat_nx] at h1;exact⟨_,_,_,rfl,hc,h1⟩
   ·rw[if_neg hc,ssat_bad] at h1;exact h1.elim
  ·rintro⟨n',c',fs',e,hc,h1⟩
   cases e
   rw[if_pos hc,ssat_nx];exact h1
@[simp] theorem gSeq_lst {is:List Nat} {l:List D} :gSeq is (.lst l) env S=gNames is l env S:=nrfl rfl
@[simp] theorem gSeq_tup {is:List Nat} {l:List D} :gSeq is (.tup l) env S=gNames is l env S:=nrfl rfl
theorem ssat_gSub {mo mi:ED} {v:D} :(gSub mo mi v env S).sat N T B C=(mo env S).sat fun o S1=>(mi env S1).sat fun i S2=>∃S3,setD o i v S2=some S3∧N env S3:=by
 unfold gSub
 cases mo env S with
 |ok o S1=>
  simp only[sat_ok]
  cases mi env S1 with
  |ok i S2=>
   simp only[sat_ok]
   cases setD o i v S2 with
   |some S3=>simp
   |none=>simp
  | _=>simp
 | _=>simp
def dcSat (g:GD) (tt:TD) (tk tv:ED) (env:EnvD):List D→List (Key × D)→Store→(List (Key × D)→Store→Prop)→Prop
 | [],acc,S,Q=>Q acc S
 |x::xs,acc,S,Q=>match g x env S with
  | .nx env1 S1=>(tt env1 S1).sat fun k S2=>if k=true then(tk env1 S2).sat fun y S3=>(tv env1 S3).sat fun z S4=>∃key,keyOf y=some key∧dcSat g tt tk tv env xs (putD acc key z) S4 Q else dcSat g tt tk tv env xs acc S2 Q
  | _=>False
theorem sat_dcL {g:GD} {tt:TD} {tk tv:ED} {env:EnvD} :∀ {xs:List D} {acc:List (Key × D)} {S:Store} {Q:List (Key × D)→Store→Prop},(dcL g tt tk tv env xs acc S).sat Q=dcSat g tt tk tv env xs acc S Q
 | [],_,_,_=>sat_ok
 |x::xs,acc,S,Q=>by
  unfold dcL dcSat
  cases g x env S with
  |nx env1 S1=>
   simp only
   rw[sat_bind,sat_nox]
   congr;funext k S2
   cases k with
   |true=>
    simp only[if_true];rw[sat_bind,sat_nox];congr;funext y S3;rw[sat_bind,sat_nox];congr;funext z S4
    cases keyOf y with
    |none=>simp
    |some key=>simp only[sat_dcL];simp
   |false=>simp only[Bool.false_eq_true,if_false];exact sat_dcL
  | _=>simp
theorem sat_eDc {mi:ID} {vs:List Nat} {g:GD} {tt:TD} {tk tv:ED} :(eDc mi vs g tt tk tv env S).sat Q=(mi env S).sat fun xs S1=>(xs.length≤sizeLine∧dcSat g tt tk tv (wipeD env vs) xs [] S1 fun kvs S2=>Q (.dic (kvs.map (·.1)) (kvs.map (·.2))) S2):=by
 unfold eDc;rw[sat_bind];congr;funext xs S1;rw[sat_if_bad,sat_bind,sat_nox,sat_dcL];simp only[sat_ok]
end
end L3
namespace L3
open PySem L2
def asc (s:Str):Bool:=decide (s.length≤20)&&s.cps.toList.all fun c=>decide (c<128)
inductive U (B:Nat):D→Prop where
 |non:U B .non
 |bl (b:Bool):U B (.bl b)
 |int {i:Int} : -10000≤i→i≤10000→U B (.int i)
 |str {s:Str} :asc s=true→U B (.str s)
 |tup {l:List D} :l.length≤B→(∀ x ∈ l,U B x)→U B (.tup l)
 |lst {l:List D} :l.length≤B→(∀ x ∈ l,U B x)→U B (.lst l)
 |dic:U B (.dic [] [])
def isNm:D→Bool
 | .str s=>decide (1≤s.length)&&decide (s.length≤8)&& !decide (s ∈ WORDS)&&s.cps.toList.all isLet
 | _=>false
def isNum:D→Bool
 | .int i=>decide (0≤i)&&decide (i≤9972)
 | _=>false
def isEmp:D→Bool
 | .str s=>decide (s= "")
 | _=>false
def fits (w:Str) (m:D) (n:Nat):Bool:=match shape w with
 |some (f,mo,g)=>decide (f≤n)&&decide (n≤mo)&&(if g=true then isNm m else isEmp m)
 |none=>false
def ok:Nat→D→Bool
 |0,_=>false
 |k+1, .tup [.str w,m, .tup ps] =>
  if w= "num" then isNum m&&ps.isEmpty
  else if w= "name" then isNm m&&ps.isEmpty
  else fits w m ps.length&&ps.all (ok k)
 | _+1,_=>false
theorem asc_ok {s:Str} (h:asc s=true):PyData.strOk s=true:=by
 simp only[asc,Bool.and_eq_true,decide_eq_true_eq] at h
 unfold PyData.strOk
 rw[← Array.all_toList,List.all_eq_true]
 intro c hc
 have:=List.all_eq_true.mp h.2 c hc
 simp only[decide_eq_true_eq] at this ⊢;omega
theorem asc_len {s:Str} (h:asc s=true):s.length≤20:=by
 simp only[asc,Bool.and_eq_true,decide_eq_true_eq] at h;exact h.1
theorem shape_word {w:Str} {f mo:Nat} {g:Bool} (h:shape w=some (f,mo,g)):w ∈ WORDS∧w≠ "num" ∧w≠ "name" :=by
 unfold shape at h
 split at h
 ·rename_i q;rcases q with rfl|rfl|rfl<;>decide +kernel
 split at h
 ·rename_i q;subst q;decide +kernel
 split at h
 ·rename_i q;subst q;decide +kernel
 split at h
 ·rename_i q;rcases q with rfl|rfl<;>decide +kernel
 split at h
 ·rename_i q;subst q;decide +kernel
 split at h
 ·rename_i q;rcases q with rfl|rfl<;>decide +kernel
 cases h
theorem shape_most {w:Str} {f mo:Nat} {g:Bool} (h:shape w=some (f,mo,g)):mo≤6:=by
 unfold shape at h
 repeat' split at h
 all_goals first|(cases h;done)|(cases h;decide)
end L3
namespace L3
open PySem L2
mutual
def wt:D→Nat
 | .tup l=>100+wts l
 | .lst l=>100+wts l
 | .non=>100| .bl _=>100| .int _=>100| .str _=>100| .dic _ _=>100| .obj _=>100| .glb _=>100| .wtp _=>100| .ty _=>100| .scr _=>100| .kd _ _=>100| .xcp _ _ _=>100| .lam _ _=>100
def wts:List D→Nat
 | [] =>0
 |x::xs=>wt x+wts xs
end
mutual
def dp:D→Nat
 | .tup l=>1+dps l
 | .lst l=>1+dps l
 | .dic _ _=>1
 | .non=>0| .bl _=>0| .int _=>0| .str _=>0| .obj _=>0| .glb _=>0| .wtp _=>0| .ty _=>0| .scr _=>0| .kd _ _=>0| .xcp _ _ _=>0| .lam _ _=>0
def dps:List D→Nat
 | [] =>0
 |x::xs=>max (dp x) (dps xs)
end
theorem int_signs (i:Int):∀c ∈ (toString i).toList,45≤c.toNat:=by
 have nat:∀(n:Nat),∀c ∈ (Nat.repr n).toList,45≤c.toNat:=by
  intro n c hc
  rw[Nat.toList_repr] at hc
  have h:=Nat.isDigit_of_mem_toDigits (by decide) (by decide) hc
  simp only[Char.isDigit,Bool.and_eq_true,decide_eq_true_eq] at h
  have e:c.val.toNat=c.toNat:=rfl
  have h2:48≤c.val.toNat:=by simpa using UInt32.le_iff_toNat_le.mp h.1
  omega
 intro c hc
 rw[Int.toString_eq_repr,Int.repr_eq_if] at hc
 split at hc
 ·exact nat _ c hc
 ·rw[String.toList_append,List.mem_append] at hc
  rcases hc with hc|hc
  ·have:c='-':=by simpa using hc
   subst this;decide
  ·exact nat _ c hc
theorem tl_of (s:String):(Str.ofString s).cps.toList=s.toList.map Char.toNat:=by rw[Str.ofString_eq_toList]
theorem int_not (i:Int):(((toString i:String):Str)== "''")=false:=by
 rw[beq_eq_false_iff_ne]
 intro h
 have e:(Str.ofString (toString i)).cps.toList= [39,39] :=by rw[h];decide +kernel
 rw[tl_of] at e
 have:39 ∈ (toString i).toList.map Char.toNat:=by rw[e];simp
 rw[List.mem_map] at this
 obtain⟨c,hc,h39⟩:=this
 have:=int_signs i c hc
 omega
theorem first_not {a b:Str} {s:Str} (ha:a.cps.toList.head? ≠some 39) (h0:a.cps.toList≠ []) (h:s=a++b):(s== "''")=false:=by
 rw[beq_eq_false_iff_ne]
 rintro rfl
 have e:("''" :Str).cps.toList= [39,39] :=by decide +kernel
 rw[h] at e
 have e:a.cps.toList++b.cps.toList= [39,39] :=by rw[← e];show _=(a.cps++b.cps).toList;simp
 cases q:a.cps.toList with
 |nil=>exact h0 q
 |cons c cs=>
  rw[q] at e ha
  simp only[List.cons_append,List.cons.injEq] at e
  exact ha (by simp[e.1])
theorem reprChar_pos (q c:Nat):1≤(Builtin.Str.reprChar q c).length:=by
 unfold Builtin.Str.reprChar
 simp only []
 repeat' split
 all_goals simp
theorem fold_ge (q:Nat):∀(l:List Nat) (acc:Array Nat),acc.size+l.length≤(l.foldl (fun out c=>out++(Builtin.Str.reprChar q c).toArray) acc).size
 | [],acc=>Nat.le_refl _
 |c::r,acc=>by
  have ih:=fold_ge q r (acc++(Builtin.Str.reprChar q c).toArray)
  have:=reprChar_pos q c
  simp only[List.foldl_cons,List.length_cons]
  simp only[Array.size_append,List.size_toArray] at ih
  omega
theorem reprText_ge (x:Str):x.length+2≤(reprText x).length:=by
 unfold reprText
 show _≤((x.cps.foldl (fun out c=>out++(Builtin.Str.reprChar (reprQuote x) c).toArray) #[reprQuote x]).push (reprQuote x)).size
 rw[Array.size_push,←Array.foldl_toList]
 have:=fold_ge (reprQuote x) x.cps.toList #[reprQuote x]
 have e1:(#[reprQuote x] :Array Nat).size=1:=rfl
 have e2:x.cps.toList.length=x.length:=by simp[Str.length]
 omega
theorem reprChar_lo:∀c<128,(Builtin.Str.reprChar 39 c).length≤4∧(Builtin.Str.reprChar 34 c).length≤4:=by decide +kernel
theorem fold_le (q:Nat) (hq:∀c<128,(Builtin.Str.reprChar q c).length≤4):∀(l:List Nat) (acc:Array Nat),(∀ c ∈ l,c<128)→(l.foldl (fun out c=>out++(Builtin.Str.reprChar q c).toArray) acc).size≤acc.size+4*l.length
 | [],acc,_=>Nat.le_refl _
 |c::r,acc,h=>by
  have ih:=fold_le q hq r (acc++(Builtin.Str.reprChar q c).toArray) fun d hd=>h d (List.mem_cons_of_mem _ hd)
  have:=hq c (h c List.mem_cons_self)
  simp only[List.foldl_cons,List.length_cons]
  simp only[Array.size_append,List.size_toArray] at ih
  omega
theorem reprText_le (x:Str) (h:∀c ∈ x.cps.toList,c<128):(reprText x).length≤4*x.length+2:=by
 unfold reprText
 show((x.cps.foldl (fun out c=>out++(Builtin.Str.reprChar (reprQuote x) c).toArray) #[reprQuote x]).push (reprQuote x)).size≤_
 rw[Array.size_push,←Array.foldl_toList]
 have hq:∀c<128,(Builtin.Str.reprChar (reprQuote x) c).length≤4:=fun c hc=>by
  unfold reprQuote
  split
  ·exact(reprChar_lo c hc).2
  ·exact(reprChar_lo c hc).1
 have:=fold_le (reprQuote x) hq x.cps.toList #[reprQuote x] h
 have e1:(#[reprQuote x] :Array Nat).size=1:=rfl
 have e2:x.cps.toList.length=x.length:=by simp[Str.length]
 omega
theorem str_emp (x:Str):(reprText x== "''")=decide (x= ""):=by
 rw[Bool.eq_iff_iff,beq_iff_eq,decide_eq_true_eq]
 constructor
 ·intro h
  have:=reprText_ge x
  rw[h] at this
  have e:("''" :Str).length=2:=by decide +kernel
  have l0:x.length=0:=by omega
  apply TL.ext_tl
  show x.cps.toList=("" :Str).cps.toList
  have:x.cps.toList= [] :=by
   have:x.cps.toList.length=0:=by simpa[Str.length] using l0
   exact List.length_eq_zero_iff.mp this
  rw[this];decide +kernel
 ·rintro rfl;decide +kernel
theorem join_le (ts:List Str):(Str.join ", " ts).length≤piled ts:=by
 by_cases h:ts= []
 ·subst h;decide +kernel
 ·have:=join_length_add ts h;omega
mutual
theorem shown_ok {B:Nat} :∀ {x:D},U B x→∃a,toPyR x=some a∧a.showable=true∧a.shown.length+2≤wt x∧a.depth≤dp x∧(a.shown== "''")=isEmp x
 | .non,_=>⟨.none,rfl,by simp[PyData.showable],by rw[PyData.shown_none];simp only[wt];decide +kernel,by simp[PyData.depth,dp],by rw[PyData.shown_none];simp only[isEmp];decide +kernel⟩
 | .bl b,_=>⟨.bool b,rfl,by simp[PyData.showable],by rw[PyData.shown_bool];simp only[wt];cases b<;>decide +kernel,by simp[PyData.depth,dp],by rw[PyData.shown_bool];simp only[isEmp];cases b<;>decide +kernel⟩
 | .int i,h=>by
   cases h with
   |int h0 h1=>
    have hn:i.natAbs<10 ^ 5:=by omega
    refine⟨.int i,rfl,?_,?_,by simp[PyData.depth,dp],?_⟩
    ·simp only[PyData.showable,decide_eq_true_eq]
     by_cases z:i.natAbs=0
     ·rw[z];decide
     ·exact Nat.lt_trans ((Nat.log2_lt z).mpr (Nat.lt_trans hn (by decide:(10:Nat) ^ 5<2 ^ 20))) (by decide)
    ·rw[PyData.shown_int]
     have:=int_text_length_le10 (k:=5) (by decide) hn
     have e:(Str.ofString (toString i)).length=(toString i).length:=by
      rw[Str.ofString_eq_toList]
      simp only[Str.length,List.size_toArray,List.length_map]
      first|exact String.length_toList|rfl|simp[String.length]
     simp only[wt]
     omega
    ·rw[PyData.shown_int,int_not];rfl
 | .str s,h=>by
   cases h with
   |str hs=>
    refine⟨.str s,rfl,by simp[PyData.showable],?_,by simp[PyData.depth,dp],?_⟩
    ·rw[PyData.shown_str]
     have l9:=asc_len hs
     have:=reprText_le s (fun c hc=>by
      simp only[asc,Bool.and_eq_true,decide_eq_true_eq] at hs
      have:=List.all_eq_true.mp hs.2 c hc
      simpa using this)
     simp only[wt]
     omega
    ·rw[PyData.shown_str,str_emp];rfl
 | .tup l,h=>by
   have h:∀x ∈ l,U B x:=by cases h with|tup _ h=>exact h
   obtain⟨as,e1,e2,e3,e4⟩:=showns_ok h
   refine⟨.tuple as,by simp only[toPyR,e1];rfl,by simpa[PyData.showable] using e2,?_,by simp only[PyData.depth,dp];omega,?_⟩
   ·rw[PyData.shown_tuple,strLen_append,strLen_append]
    have:=join_le (PyData.shownAll as)
    have a1:(("(" :String):Str).length=1:=rfl
    have a2:(((if as.length==1 then ",)" else ")" :String):Str)).length≤2:=by split<;>decide
    simp only[wt];omega
   ·rw[PyData.shown_tuple,Str.append_assoc]
    rw[first_not (a:= "(") (by decide +kernel) (by decide +kernel) rfl];rfl
 | .lst l,h=>by
   have h:∀x ∈ l,U B x:=by cases h with|lst _ h=>exact h
   obtain⟨as,e1,e2,e3,e4⟩:=showns_ok h
   refine⟨.list as,by simp only[toPyR,e1];rfl,by simpa[PyData.showable] using e2,?_,by simp only[PyData.depth,dp];omega,?_⟩
   ·rw[PyData.shown_list,strLen_append,strLen_append]
    have:=join_le (PyData.shownAll as)
    have a1:(("[" :String):Str).length=1:=rfl
    have a2:(("]" :String):Str).length=1:=rfl
    simp only[wt];omega
   ·rw[PyData.shown_list,Str.append_assoc]
    rw[first_not (a:= "[") (by decide +kernel) (by decide +kernel) rfl];rfl
 | .dic ks l,h=>by
   cases h with
   |dic=>
    refine⟨.dict [],rfl,by simp[PyData.showable,PyData.showableKv],?_,by simp[PyData.depth,PyData.depthKv,dp],?_⟩
    ·rw[PyData.shown_dict,PyData.shownKv_nil];simp only[wt];decide +kernel
    ·rw[PyData.shown_dict,PyData.shownKv_nil];simp only[isEmp];decide +kernel
 | .obj _,h=>nomatch h
 | .glb _,h=>nomatch h
 | .wtp _,h=>nomatch h
 | .ty _,h=>nomatch h
 | .scr _,h=>nomatch h
 | .kd _ _,h=>nomatch h
 | .xcp _ _ _,h=>nomatch h
 | .lam _ _,h=>nomatch h
theorem showns_ok {B:Nat} :∀ {l:List D},(∀ x ∈ l,U B x)→∃as,toPyRL l=some as∧PyData.showableAll as=true∧piled (PyData.shownAll as)≤wts l∧PyData.depthAll as≤dps l
 | [],_=>⟨[],rfl,by simp[PyData.showableAll],by simp[PyData.shownAll,piled,wts],by simp[PyData.depthAll,dps]⟩
 |x::l,h=>by
  obtain⟨a,e1,e2,e3,e4,_⟩:=shown_ok (h x (List.mem_cons_self ..))
  obtain⟨as,f1,f2,f3,f4⟩:=showns_ok fun y hy=>h y (List.mem_cons_of_mem _ hy)
  refine⟨a::as,by simp only[toPyRL,e1,f1],by simp[PyData.showableAll,e2,f2],?_,by simp only[PyData.depthAll,dps];omega⟩
  simp only[PyData.shownAll,piled_cons,wts];omega
end
section
variable {env:EnvD} {S S1:Store} {N B C:EnvD→Store→Prop} {T:D→Store→Prop} {c:TD} {a:ED} {r s t:SD}
theorem step_ret (hc:c env S= .ok true S1) (h:(a env S1).sat T):(sSeq (sIf c (sRet a) t) r env S).sat N T B C:=by
 rw[ssat_seq,ssat_if,hc,sat_ok,if_pos rfl,ssat_sRet];exact h
theorem step_no (hc:c env S= .ok false S1) (h:(r env S1).sat N T B C):(sSeq (sIf c s sSkip) r env S).sat N T B C:=by
 rw[ssat_seq,ssat_if,hc,sat_ok,if_neg Bool.false_ne_true,ssat_skip];exact h
theorem step_yes (hc:c env S= .ok true S1) (h:(sSeq s r env S1).sat N T B C):(sSeq (sIf c s t) r env S).sat N T B C:=by
 rw[ssat_seq,ssat_if,hc,sat_ok,if_pos rfl,←ssat_seq];exact h
theorem step_asg {d:D} {g:GD} {env':EnvD} {S2:Store} (ha:a env S= .ok d S1) (hg:g d env S1= .nx env' S2) (h:(r env' S2).sat N T B C):(sSeq (sAsg a g) r env S).sat N T B C:=by
 rw[ssat_seq,ssat_asg,ha,sat_ok,hg,ssat_nx];exact h
end
end L3
inductive L3.R.esat {α :Type} (E:L3.Ex→L3.Store→Prop):L3.R α →(α →L3.Store→Prop)→Prop where
 |mk {a: α} {S:L3.Store} {Q: α →L3.Store→Prop} (h:Q a S):L3.R.esat E (.ok a S) Q
 |ex {e:L3.Ex} {S:L3.Store} {Q: α →L3.Store→Prop} (h:E e S):L3.R.esat E (.exc e S) Q
inductive L3.SR.esat (F:L3.Ex→L3.EnvD→L3.Store→Prop):L3.SR→(L3.EnvD→L3.Store→Prop)→(L3.D→L3.Store→Prop)→(L3.EnvD→L3.Store→Prop)→(L3.EnvD→L3.Store→Prop)→Prop where
 |nx {e S} {N:L3.EnvD→L3.Store→Prop} {T:L3.D→L3.Store→Prop} {B C:L3.EnvD→L3.Store→Prop} (h:N e S):L3.SR.esat F (.nx e S) N T B C
 |ret {d S} {N:L3.EnvD→L3.Store→Prop} {T:L3.D→L3.Store→Prop} {B C:L3.EnvD→L3.Store→Prop} (h:T d S):L3.SR.esat F (.ret d S) N T B C
 |brk {e S} {N:L3.EnvD→L3.Store→Prop} {T:L3.D→L3.Store→Prop} {B C:L3.EnvD→L3.Store→Prop} (h:B e S):L3.SR.esat F (.brk e S) N T B C
 |ct {e S} {N:L3.EnvD→L3.Store→Prop} {T:L3.D→L3.Store→Prop} {B C:L3.EnvD→L3.Store→Prop} (h:C e S):L3.SR.esat F (.ct e S) N T B C
 |exc {x e S} {N:L3.EnvD→L3.Store→Prop} {T:L3.D→L3.Store→Prop} {B C:L3.EnvD→L3.Store→Prop} (h:F x e S):L3.SR.esat F (.exc x e S) N T B C
namespace L3.X
open PySem L2 L3
section
variable {α β :Type} {S:Store} {env:EnvD} {d:D} {E:Ex→Store→Prop}
@[simp] theorem sat_ok {a: α} {Q: α →Store→Prop} :(R.ok a S).esat E Q=Q a S:=propext ⟨fun h=>by cases h;assumption, .mk⟩
@[simp] theorem sat_bad {Q: α →Store→Prop} :(R.bad:R α).esat E Q=False:=propext ⟨fun h=>(by cases h),False.elim⟩
@[simp] theorem sat_exc {e:Ex} {Q: α →Store→Prop} :(R.exc e S:R α).esat E Q=E e S:=propext ⟨fun h=>(by cases h;assumption), .ex⟩
theorem sat_bind {r:R α} {f: α →Store→R β} {Q: β →Store→Prop} :(r.bind f).esat E Q=r.esat E fun a S=>(f a S).esat E Q:=by cases r<;>simp[R.bind]
theorem sat_monoE {E':Ex→Store→Prop} {r:R α} {Q Q': α →Store→Prop} (h:r.esat E Q) (m:∀a S,Q a S→Q' a S) (me:∀e S,E e S→E' e S):r.esat E' Q':=by
 cases h with
 |mk h=>exact .mk (m _ _ h)
 |ex h=>exact .ex (me _ _ h)
theorem of_sat {r:R α} {Q: α →Store→Prop} (h:r.sat Q):r.esat E Q:=by cases h with|mk h=>exact .mk h
variable {Q:D→Store→Prop} {QB:Bool→Store→Prop} {QL:List D→Store→Prop}
@[simp] theorem sat_blD {x:D} :(blD x S).esat E QB=∃k,x= .bl k∧QB k S:=by
  unfold blD;cases x<;>simp
theorem sat_if_bad {c:Prop} [Decidable c] {a:R α} {Q: α →Store→Prop} :(if c then a else .bad).esat E Q=(c∧a.esat E Q):=by by_cases h:c<;>simp[h]
@[simp] theorem sat_eVar {i:Nat} :(eVar i env S).esat E Q=match env[i]? with
   |some (some d)=>Q d S
   | _=>False:=by unfold eVar;cases env[i]? with
  |none=>simp
  |some o=>cases o<;>simp
@[simp] theorem sat_eK:(eK d env S).esat E Q=Q d S:=sat_ok
@[simp] theorem sat_e1 {f:L3.F1} {a:ED} :(e1 f a env S).esat E Q=(a env S).esat E fun x S1=>(f x S1).esat E Q:=sat_bind
@[simp] theorem sat_e2 {f:L3.F2} {a b:ED} :(e2 f a b env S).esat E Q=(a env S).esat E fun x S1=>(b env S1).esat E fun y S2=>(f x y S2).esat E Q:=by unfold e2;rw[sat_bind];simp only[sat_bind]
@[simp] theorem sat_aNil:(aNil env S).esat E QL=QL [] S:=sat_ok
@[simp] theorem sat_aCons {a:ED} {r:AD} :(aCons a r env S).esat E QL=(a env S).esat E fun x S1=>(r env S1).esat E fun xs S2=>QL (x::xs) S2:=by unfold aCons;rw[sat_bind];simp only[sat_bind,sat_ok]
@[simp] theorem sat_eN {f:FN} {a:AD} :(eN f a env S).esat E Q=(a env S).esat E fun xs S1=>(f xs S1).esat E Q:=sat_bind
@[simp] theorem sat_eIf {c:TD} {a b:ED} :(eIf c a b env S).esat E Q=(c env S).esat E fun k S1=>if k=true then(a env S1).esat E Q else(b env S1).esat E Q:=by
  unfold eIf;rw[sat_bind];congr;funext k S1;cases k<;>simp
@[simp] theorem sat_tOfE {a:ED} :(tOfE a env S).esat E QB=(a env S).esat E fun x S1=>(blD x S1).esat E QB:=by
  unfold tOfE;rw[sat_bind];congr
@[simp] theorem sat_tTruth {a:ED} :(tTruth a env S).esat E QB=(a env S).esat E fun x S1=>(truthD x S1).esat E QB:=sat_bind
@[simp] theorem sat_tNot {a:TD} :(tNot a env S).esat E QB=(a env S).esat E fun k S1=>QB (!k) S1:=by unfold tNot;rw[sat_bind];simp only[sat_ok]
@[simp] theorem sat_tAnd {a b:TD} :(tAnd a b env S).esat E QB=(a env S).esat E fun k S1=>if k=true then(b env S1).esat E QB else QB false S1:=by
  unfold tAnd;rw[sat_bind];congr;funext k S1;cases k<;>simp
@[simp] theorem sat_tOr {a b:TD} :(tOr a b env S).esat E QB=(a env S).esat E fun k S1=>if k=true then QB true S1 else(b env S1).esat E QB:=by
  unfold tOr;rw[sat_bind];congr;funext k S1;cases k<;>simp
@[simp] theorem sat_eNot {a:ED} :(eNot a env S).esat E Q=(a env S).esat E fun x S1=>(blD x S1).esat E fun k S2=>Q (.bl (!k)) S2:=by
  unfold eNot;rw[sat_bind,sat_tOfE];simp only[sat_ok]
@[simp] theorem sat_eAnd {a b:ED} :(eAnd a b env S).esat E Q=(a env S).esat E fun x S1=>(blD x S1).esat E fun k S2=>if k=true then(b env S2).esat E Q else Q (.bl false) S2:=by
  unfold eAnd;rw[sat_bind,sat_tOfE];congr;funext x S1;congr;funext k S2;cases k<;>simp
@[simp] theorem sat_eOr {a b:ED} :(eOr a b env S).esat E Q=(a env S).esat E fun x S1=>(blD x S1).esat E fun k S2=>if k=true then Q (.bl true) S2 else(b env S2).esat E Q:=by
  unfold eOr;rw[sat_bind,sat_tOfE];congr;funext x S1;congr;funext k S2;cases k<;>simp
@[simp] theorem sat_eChain {f g:L3.F2} {a b c:ED} :(eChain f g a b c env S).esat E Q=(a env S).esat E fun x S1=>(b env S1).esat E fun y S2=>(f x y S2).esat E fun r S3=>(blD r S3).esat E fun k S4=>if k=true then(c env S4).esat E fun z S5=>(g y z S5).esat E Q else Q (.bl false) S4:=by
  unfold eChain;rw[sat_bind];simp only[sat_bind];congr;funext x S1;congr;funext y S2;congr;funext r S3
  cases r with
  |bl k=>cases k<;>simp[sat_bind]
  | _=>simp[blD]
@[simp] theorem sat_eBM {T:String} {f:D→FN} {o:ED} {a:AD} :(eBM T f o a env S).esat E Q=(o env S).esat E fun x S1=>(mtD x S1=some T∧(a env S1).esat E fun xs S2=>(f x xs S2).esat E Q):=by
  unfold eBM;rw[sat_bind];congr;funext x S1;rw[sat_if_bad,sat_bind]
@[simp] theorem sat_eKw {f:List D→FN} {a b:AD} :(eKw f a b env S).esat E Q=(a env S).esat E fun xs S1=>(b env S1).esat E fun zs S2=>(f xs zs S2).esat E Q:=by unfold eKw;rw[sat_bind];simp only[sat_bind]
@[simp] theorem sat_eFnL {i:Nat} {x:Str} {F:FN} {a:AD} :(eFnL i x F a env S).esat E Q=match env[i]? with
   |some (some (.glb y))=>y=x∧(a env S).esat E fun xs S1=>(F xs S1).esat E Q
   | _=>False:=by
  unfold eFnL
  cases env[i]? with
  |none=>simp
  |some o=>
   cases o with
   |none=>simp
   |some d=>
    cases d with
    |glb y=>simp only [];rw[sat_if_bad,sat_bind]
    | _=>simp
@[simp] theorem sat_iSeq {a:ED} :(iSeq a env S).esat E QL=(a env S).esat E fun x S1=>(itemsD x S1).esat E QL:=sat_bind
@[simp] theorem sat_iArgs {f:List D→Store→R (List D)} {a:AD} :(iArgs f a env S).esat E QL=(a env S).esat E fun xs S1=>(f xs S1).esat E QL:=sat_bind
@[simp] theorem sat_range1 {j:Int} :(range1 [.int j] S).esat E QL=(okRng j=true∧QL (rangeD 0 j) S):=by unfold range1;simp only [];rw[sat_if_bad,sat_ok]
@[simp] theorem sat_range2 {i j:Int} :(range2 [.int i, .int j] S).esat E QL=((okRng i&&okRng j)=true∧QL (rangeD i j) S):=by unfold range2;simp only [];rw[sat_if_bad,sat_ok]
@[simp] theorem sat_mkTup {xs:List D} :(mkTup xs S).esat E Q=(xs.length≤sizeLine∧Q (.tup xs) S):=by unfold mkTup;rw[sat_if_bad,sat_ok]
@[simp] theorem sat_mkLst {xs:List D} :(mkLst xs S).esat E Q=(xs.length≤sizeLine∧Q (.lst xs) S):=by unfold mkLst;rw[sat_if_bad,sat_ok]
@[simp] theorem sat_mkObj {xs:List D} :(mkObj xs S).esat E Q=(xs.length≤sizeLine∧Q (.obj S.length) (S++ [.lst xs])):=by unfold mkObj;rw[sat_if_bad,sat_ok]
@[simp] theorem sat_pNo {QO:Option Int→Store→Prop} :(pNo env S).esat E QO=QO none S:=sat_ok
@[simp] theorem sat_pYes {a:ED} {QO:Option Int→Store→Prop} :(pYes a env S).esat E QO=(a env S).esat E fun x S1=>∃i,x= .int i∧QO (some i) S1:=by
  unfold pYes;rw[sat_bind];congr;funext x S1
  cases x<;>simp
@[simp] theorem sat_eSl {a:ED} {l h:PD} :(eSl a l h env S).esat E Q=(a env S).esat E fun x S1=>(l env S1).esat E fun lo S2=>(h env S2).esat E fun hi S3=>(slD x lo hi S3).esat E Q:=by
  unfold eSl;simp only[sat_bind]
@[simp] theorem sat_eBackT {a:ED} :(eBackT a env S).esat E Q=(a env S).esat E fun x S1=>∃l,x= .tup l∧Q (.tup l.reverse) S1:=by
  unfold eBackT;rw[sat_bind];congr;funext x S1
  cases x<;>simp
@[simp] theorem sat_eDic0:(eDic0 env S).esat E Q=Q (.dic [] []) S:=sat_ok
@[simp] theorem sat_eDct0:(eDct0 env S).esat E Q=Q (.obj S.length) (S++ [.dK []]):=sat_ok
theorem sat_eLcx {mi:ID} {vs:List Nat} {g:GD} {tt:TD} {te:ED} :(eLcx mi vs g tt te env S).esat E Q=(mi env S).esat E fun xs S1=>(xs.length≤sizeLine∧(lcLx g tt te (wipeD env vs) xs S1).esat E fun ys S2=>Q (.lst ys) S2):=by
 unfold eLcx;rw[sat_bind];congr;funext xs S1;rw[sat_if_bad,sat_bind];simp only[sat_ok]
end
section
variable {S S1:Store} {env:EnvD} {d:D} {N B C:EnvD→Store→Prop} {T:D→Store→Prop} {Q:D→Store→Prop} {F:Ex→EnvD→Store→Prop} {E:Ex→Store→Prop}
@[simp] theorem ssat_nx:(SR.nx env S).esat F N T B C=N env S:=propext ⟨fun h=>by cases h;assumption, .nx⟩
@[simp] theorem ssat_ret:(SR.ret d S).esat F N T B C=T d S:=propext ⟨fun h=>by cases h;assumption, .ret⟩
@[simp] theorem ssat_brk:(SR.brk env S).esat F N T B C=B env S:=propext ⟨fun h=>by cases h;assumption, .brk⟩
@[simp] theorem ssat_ct:(SR.ct env S).esat F N T B C=C env S:=propext ⟨fun h=>by cases h;assumption, .ct⟩
@[simp] theorem ssat_bad:SR.bad.esat F N T B C=False:=propext ⟨fun h=>(by cases h),False.elim⟩
@[simp] theorem ssat_exc {e:Ex} :(SR.exc e env S).esat F N T B C=F e env S:=propext ⟨fun h=>(by cases h;assumption), .exc⟩
theorem ssat_toS {α :Type} {r:R α} {k: α →Store→SR} :(r.toS env k).esat F N T B C=r.esat (fun e S=>F e env S) fun a S=>(k a S).esat F N T B C:=by cases r<;>simp[R.toS]
theorem ssat_mono {r:SR} {F':Ex→EnvD→Store→Prop} {N' B' C':EnvD→Store→Prop} {T':D→Store→Prop} (h:r.esat F N T B C) (hF:∀x e S,F x e S→F' x e S) (hN:∀e S,N e S→N' e S) (hT:∀d S,T d S→T' d S) (hB:∀e S,B e S→B' e S) (hC:∀e S,C e S→C' e S):r.esat F' N' T' B' C':=by
 cases h with
 |nx h=>exact .nx (hN _ _ h)
 |ret h=>exact .ret (hT _ _ h)
 |brk h=>exact .brk (hB _ _ h)
 |ct h=>exact .ct (hC _ _ h)
 |exc h=>exact .exc (hF _ _ _ h)
theorem of_ssat {r:SR} (h:r.sat N T B C):r.esat F N T B C:=by
 cases h with
 |nx h=>exact .nx h
 |ret h=>exact .ret h
 |brk h=>exact .brk h
 |ct h=>exact .ct h
@[simp] theorem ssat_skip:(sSkip env S).esat F N T B C=N env S:=ssat_nx
@[simp] theorem ssat_seq {a b:SD} :(sSeq a b env S).esat F N T B C=(a env S).esat F (fun e S=>(b e S).esat F N T B C) T B C:=by
  unfold sSeq;cases a env S<;>simp
@[simp] theorem ssat_if {c:TD} {a b:SD} :(sIf c a b env S).esat F N T B C=(c env S).esat (fun e S=>F e env S) fun k S1=>if k=true then(a env S1).esat F N T B C else(b env S1).esat F N T B C:=by
  unfold sIf;rw[ssat_toS];congr;funext k S1;cases k<;>simp
@[simp] theorem ssat_sRet {a:ED} :(sRet a env S).esat F N T B C=(a env S).esat (fun e S=>F e env S) T:=by unfold sRet;rw[ssat_toS];simp only[ssat_ret]
@[simp] theorem ssat_sExpr {a:ED} :(sExpr a env S).esat F N T B C=(a env S).esat (fun e S=>F e env S) fun _ S1=>N env S1:=by unfold sExpr;rw[ssat_toS];simp only[ssat_nx]
@[simp] theorem ssat_sBrk:(sBrk env S).esat F N T B C=B env S:=ssat_brk
@[simp] theorem ssat_sCt:(sCt env S).esat F N T B C=C env S:=ssat_ct
@[simp] theorem ssat_asg {a:ED} {g:GD} :(sAsg a g env S).esat F N T B C=(a env S).esat (fun e S=>F e env S) fun d S1=>(g d env S1).esat F N T B C:=by unfold sAsg;rw[ssat_toS]
@[simp] theorem ssat_par {is:List Nat} {a:AD} :(sPar is a env S).esat F N T B C=(a env S).esat (fun e S=>F e env S) fun xs S1=>(gNames is xs env S1).esat F N T B C:=by unfold sPar;rw[ssat_toS]
@[simp] theorem ssat_raise0 {c:Str} :(sRaise0 c env S).esat F N T B C=F ⟨c,[]⟩ env S:=ssat_exc
@[simp] theorem ssat_raise1 {c f:Str} {a:ED} :(sRaise1 c f a env S).esat F N T B C=(a env S).esat (fun e S=>F e env S) fun d S1=>F ⟨c,[(f,d)]⟩ env S1:=by unfold sRaise1;rw[ssat_toS];simp only[ssat_exc]
theorem ssat_for {mi:ID} {g:GD} {body:SD} :(sFor mi g body env S).esat F N T B C=(mi env S).esat (fun e S=>F e env S) fun xs S1=>(forL g body xs env S1).esat F N T B C:=by unfold sFor;rw[ssat_toS]
@[simp] theorem forL_nil {g:GD} {body:SD} :(forL g body [] env S).esat F N T B C=N env S:=ssat_nx
theorem forL_cons {g:GD} {body:SD} {x:D} {xs:List D} :(forL g body (x::xs) env S).esat F N T B C=(g x env S).sat (fun e S=>(body e S).esat F (fun e S=>(forL g body xs e S).esat F N T B C) T N (fun e S=>(forL g body xs e S).esat F N T B C)) (fun _ _=>False) (fun _ _=>False) fun _ _=>False:=by
 show SR.esat F (match g x env S with
  | .nx env1 S1=>match body env1 S1 with
    | .nx env2 S2=>forL g body xs env2 S2
    | .ct env2 S2=>forL g body xs env2 S2
    | .brk env2 S2=> .nx env2 S2
    | .ret d S2=> .ret d S2
    | .exc e env2 S2=> .exc e env2 S2
    | .bad=> .bad
  | _=> .bad) N T B C=_
 cases g x env S with
 |nx env1 S1=>simp only[L3.ssat_nx];cases body env1 S1<;>simp
 | _=>simp
theorem for_rule {g:GD} {body:SD} (I:Nat→EnvD→Store→Prop) {xs:List D} (h0:I 0 env S)
 (hs:∀j (hj:j<xs.length) e S,I j e S→(g xs[j] e S).sat (fun e S=>(body e S).esat F (I (j+1)) T N (I (j+1))) (fun _ _=>False) (fun _ _=>False) fun _ _=>False)
 (hN:∀e S,I xs.length e S→N e S):(forL g body xs env S).esat F N T B C:=by
 induction xs generalizing I env S with
 |nil=>exact .nx (hN _ _ h0)
 |cons x xs ih=>
  rw[forL_cons]
  refine L3.ssat_mono (hs 0 (by simp) env S h0) (fun e1 S1 h=> ?_) (fun _ _ h=>h) (fun _ _ h=>h) (fun _ _ h=>h)
  have go:∀e S,I 1 e S→(forL g body xs e S).esat F N T B C:=fun e S h=>
   ih (fun j=>I (j+1)) h (fun j hj e S h=>by
    have:=hs (j+1) (by simp;omega) e S h
    simpa using this) (fun e S h=>hN e S (by simpa using h))
  exact ssat_mono h (fun _ _ _ h=>h) go (fun _ _ h=>h) (fun _ _ h=>h) go
theorem sat_run {np n:Nat} {body:SD} {xs:List D} :(run np n body xs S).esat E Q=(xs.length=np∧(body (xs.map some++List.replicate (n-xs.length) none) S).esat (fun e _ S=>E e S) (fun _ S=>Q .non S) Q (fun _ _=>False) fun _ _=>False):=by
 unfold run;rw[sat_if_bad];congr
 cases body (xs.map some++List.replicate (n-xs.length) none) S<;>simp[SR.fin]
theorem step_no {c:TD} {r s:SD} (hc:c env S= .ok false S1) (h:(r env S1).esat F N T B C):(sSeq (sIf c s sSkip) r env S).esat F N T B C:=by
 rw[ssat_seq,ssat_if,hc,sat_ok,if_neg Bool.false_ne_true,ssat_skip];exact h
theorem step_asg {a:ED} {r:SD} {d:D} {g:GD} {env':EnvD} {S2:Store} (ha:a env S= .ok d S1) (hg:g d env S1= .nx env' S2) (h:(r env' S2).esat F N T B C):(sSeq (sAsg a g) r env S).esat F N T B C:=by
 rw[ssat_seq,ssat_asg,ha,sat_ok,hg,ssat_nx];exact h
end
end L3.X
namespace L3
open PySem L2
theorem set_last {S:Store} {a b:O} :(S++ [a]).set S.length b=S++ [b] :=by
 rw[List.set_append_right _ _ (Nat.le_refl _)];simp
theorem cutL_lo {l:List D} {i:Nat} (h:i≤l.length):cutL l none (some (i:Int))=l.take i:=by
 unfold cutL
 rw[HT.sIx_none,HT.sIx_nat]
 simp[Nat.min_eq_left h]
theorem cutL_hi {l:List D} {i:Nat} (h:i≤l.length):cutL l (some (i:Int)) none=l.drop i:=by
 unfold cutL
 rw[HT.sIx_none,HT.sIx_nat,Nat.min_eq_left h,List.take_of_length_le (by simp)]
def Tm.parts:Tm→List Tm
 | .num _=> []
 | .nam _=> []
 | .nd _ _ ps=>ps
def Tm.w:Tm→D
 | .num _=> .str "num"
 | .nam _=> .str "name"
 | .nd w _ _=> .str w
def Tm.m:Tm→D
 | .num i=> .int i
 | .nam s=> .str s
 | .nd _ m _=> .str m
theorem Tm.d_eq (t:Tm):t.d= .tup [t.w,t.m, .tup (Tm.ds t.parts)] :=by cases t<;>rfl
theorem Tm.sizes_mem {u:Tm} :∀ {ts:List Tm},u ∈ ts→u.size≤Tm.sizes ts
 |t::ts,h=>by
  simp only[Tm.sizes]
  rcases List.mem_cons.mp h with rfl|h
  ·omega
  ·have:=Tm.sizes_mem h;omega
theorem Tm.size_eq (t:Tm):t.size=1+Tm.sizes t.parts:=by cases t<;>simp[Tm.size,Tm.parts,Tm.sizes]
theorem Tm.dep_eq (t:Tm):t.dep=1+Tm.deps t.parts:=by cases t<;>simp[Tm.dep,Tm.parts,Tm.deps]
def Tm.at:Tm→List Nat→Option Tm
 |t,[] =>some t
 |t,i::q=>(t.parts[i]?).bind fun u=>u.at q
theorem Tm.at_app:∀(q r:List Nat) (t:Tm),t.at (q++r)=(t.at q).bind fun u=>u.at r
 | [],r,t=>rfl
 |i::q,r,t=>by
  simp only[List.cons_append,Tm.at]
  cases t.parts[i]? with
  |none=>rfl
  |some u=>exact Tm.at_app q r u
def pl (q:List Nat):D:= .tup (q.map fun i:Nat=> .int (i:Int))
theorem pl_inj {q r:List Nat} (h:pl q=pl r):q=r:=by
 simp only[pl,D.tup.injEq] at h
 exact List.map_inj_right (f:=fun i:Nat=>D.int (i:Int)) (fun a b e=>by have:=D.int.inj e;omega) |>.mp h
mutual
/-- all places -/
def Tm.spots:Tm→List (List Nat)
 | .num _=> [[]]
 | .nam _=> [[]]
 | .nd _ _ ps=> [] ::Tm.spotsL 0 ps
def Tm.spotsL:Nat→List Tm→List (List Nat)
 | _,[] => []
 |k,t::ts=>t.spots.map (k:: ·)++Tm.spotsL (k+1) ts
end
theorem Tm.spots_eq (t:Tm):t.spots= [] ::Tm.spotsL 0 t.parts:=by cases t<;>simp[Tm.spots,Tm.parts,Tm.spotsL]
theorem Tm.spotsL_mem {q:List Nat} :∀ {ts:List Tm} {k:Nat},q ∈ Tm.spotsL k ts↔∃i r u,q=(k+i)::r∧ts[i]? =some u∧r ∈ u.spots
 | [],k=>by simp[Tm.spotsL]
 |t::ts,k=>by
  simp only[Tm.spotsL,List.mem_append,List.mem_map]
  rw[Tm.spotsL_mem (ts:=ts) (k:=k+1)]
  constructor
  ·rintro(⟨r,hr,rfl⟩|⟨i,r,u,rfl,h1,h2⟩)
   ·exact⟨0,r,t,rfl,rfl,hr⟩
   ·exact⟨i+1,r,u,by rw[show k+(i+1)=k+1+i by omega],by simpa using h1,h2⟩
  ·rintro⟨i,r,u,rfl,h1,h2⟩
   cases i with
   |zero=>simp only[List.getElem?_cons_zero,Option.some.injEq] at h1;subst h1;exact .inl ⟨r,h2,rfl⟩
   |succ i=>exact .inr ⟨i,r,u,by rw[show k+(i+1)=k+1+i by omega],by simpa using h1,h2⟩
theorem Tm.spots_at:∀ {q:List Nat} {t:Tm},q ∈ t.spots↔∃u,t.at q=some u
 | [],t=>by rw[Tm.spots_eq];simp[Tm.at]
 |i::q,t=>by
  rw[Tm.spots_eq,List.mem_cons]
  have e:(i::q= [])=False:=by simp
  rw[e,false_or,Tm.spotsL_mem]
  simp only[Tm.at]
  constructor
  ·rintro⟨j,r,u,e,h1,h2⟩
   simp only[Nat.zero_add,List.cons.injEq] at e
   obtain⟨rfl,rfl⟩:=e
   obtain⟨v,hv⟩:=Tm.spots_at.mp h2
   exact⟨v,by rw[h1];exact hv⟩
  ·rintro⟨v,hv⟩
   cases h1:t.parts[i]? with
   |none=>rw[h1] at hv;cases hv
   |some u=>
    rw[h1] at hv
    exact⟨i,q,u,by simp,h1,Tm.spots_at.mpr ⟨v,hv⟩⟩
mutual
theorem Tm.spots_len:∀t:Tm,t.spots.length=t.size
 | .num _=>rfl
 | .nam _=>rfl
 | .nd _ _ ps=>by simp only[Tm.spots,List.length_cons,Tm.size];rw[Tm.spotsL_len ps 0];omega
theorem Tm.spotsL_len:∀(ts:List Tm) (k:Nat),(Tm.spotsL k ts).length=Tm.sizes ts
 | [],k=>rfl
 |t::ts,k=>by simp only[Tm.spotsL,List.length_append,List.length_map,Tm.sizes];rw[Tm.spots_len t,Tm.spotsL_len ts (k+1)]
end
theorem Tm.at_dep:∀ {q:List Nat} {t u:Tm},t.at q=some u→q.length+u.dep≤t.dep
 | [],t,u,h=>by simp only[Tm.at,Option.some.injEq] at h;subst h;simp
 |i::q,t,u,h=>by
  simp only[Tm.at] at h
  cases h1:t.parts[i]? with
  |none=>rw[h1] at h;cases h
  |some v=>
   rw[h1] at h
   have:=Tm.at_dep (q:=q) h
   have:=(Tm.deps_le (B:=Tm.deps t.parts)).mp (Nat.le_refl _) v (List.mem_of_getElem? h1)
   rw[Tm.dep_eq t]
   simp only[List.length_cons];omega
theorem Tm.ds_get {ts:List Tm} {i:Nat} :(Tm.ds ts)[i]? =(ts[i]?).map Tm.d:=by rw[Tm.ds_map,List.getElem?_map]
end L3
namespace L3
open PySem L2
variable {S:Store}
inductive Pln:D→Prop where
 |non:Pln .non
 |bl (b:Bool):Pln (.bl b)
 |int (i:Int):Pln (.int i)
 |str (s:Str):Pln (.str s)
 |tup (l:List D):Pln (.tup l)
 |lst (l:List D):Pln (.lst l)
 |dic:Pln (.dic [] [])
def isI:D→Bool
 | .int _=>true
 | _=>false
def numOk (y:D) (h:Int):Bool:=match y with
 | .int i=>decide (0≤i)&&decide (i≤h)
 | _=>false
def mIsWhole:SD:=sRet (eAnd (eN isiD (aCons (eVar 0) (aCons (eK (.ty "int")) (aNil)))) (eNot (eN isiD (aCons (eVar 0) (aCons (eK (.ty "bool")) (aNil))))))
def mIsNumber (isw:FN):SD:=sRet (eAnd (eN (callK isw []) (aCons (eVar 0) (aNil))) (eChain leD leD (eVar 1) (eVar 0) (eVar 2)))
def IsWholeF (f:FN):Prop:=∀(y:D) (S:Store),Pln y→f [y] S= .ok (.bl (isI y)) S
theorem isWholeF:IsWholeF (run 1 1 mIsWhole):=fun y S h=>by
 apply of_sat
 rw[sat_run]
 refine⟨rfl,?_⟩
 unfold mIsWhole
 cases h<;>simp[isI]
def IsNumberF (f:FN):Prop:=∀(y:D) (h:Int) (S:Store),Pln y→f [y, .int 0, .int h] S= .ok (.bl (numOk y h)) S
theorem isNumberF {isw:FN} (hw:IsWholeF isw):IsNumberF (run 3 3 (mIsNumber isw)):=fun y h S p=>by
 apply of_sat
 rw[sat_run]
 refine⟨rfl,?_⟩
 unfold mIsNumber
 simp only[ssat_sRet,sat_eAnd,sat_eN,sat_aCons,sat_aNil,sat_eVar,List.map_cons,List.map_nil,List.cons_append,List.nil_append,List.length_cons,List.length_nil,List.replicate,Nat.zero_add,Nat.reduceAdd,Nat.reduceSub,List.getElem?_cons_succ,List.getElem?_cons_zero,callK_eq,List.append_nil]
 rw[hw y S p,sat_ok,blD_bl,sat_ok]
 cases p<;>simp[isI,numOk]
 split<;>simp_all
 intro _
 omega
def mAt (isn:FN):SD:=
    sSeq (sIf (tNot (tTruth (eN isiD (aCons (eVar 1) (aCons (eK (.ty "tuple")) (aNil)))))) (sRaise1 "NoPlace" "place" (eVar 1)) (sSkip))
    (sSeq (sAsg (eVar 0) (gName 2))
    (sSeq (sFor (iSeq (eVar 1)) (gName 3) (sSeq (sIf (tNot (tTruth (eKw (kwK isn 1 1 (fun ds es=>gat3 [(0,0),(1,0),(2,0)] ds [.int 0] es)) (aCons (eVar 3) (aNil)) (aCons (e2 subD (eN lenD (aCons (e2 ixD (eVar 2) (eK (.int 2))) (aNil))) (eK (.int 1))) (aNil))))) (sRaise1 "NoPlace" "place" (eVar 1)) (sSkip))
    (sAsg (e2 ixD (e2 ixD (eVar 2) (eK (.int 2))) (eVar 3)) (gName 2))))
    (sRet (eVar 2))))
theorem ix_parts (t:Tm):ixD t.d (.int 2) S= .ok (.tup (Tm.ds t.parts)) S:=by rw[Tm.d_eq];rfl
theorem ix_nat {l:List D} {i:Nat} {d:D} (h:l[i]? =some d):ixD (.tup l) (.int (i:Int)) S= .ok d S:=by
 have hl:=(List.getElem?_eq_some_iff.mp h).1
 simp only[ixD,atI,ixN]
 have e1:(if(i:Int)<0 then(i:Int)+l.length else i)=i:=by rw[if_neg (by omega)]
 simp[hl,(List.getElem?_eq_some_iff.mp h).2]
inductive NoPl (t:Tm):D→Prop where
 |not {x:D} :Pln x→(∀ l,x≠ .tup l)→NoPl t x
 |deep {q:List Nat} {u:Tm} {y:D} {r:List D} :t.at q=some u→Pln y→numOk y ((u.parts.length:Int)-1)=false→NoPl t (.tup ((q.map fun i:Nat=>D.int (i:Int))++y::r))
def noP (x:D):Ex:=⟨"NoPlace",[("place",x)]⟩
def mAtB (isn:FN):SD:=sSeq (sIf (tNot (tTruth (eKw (kwK isn 1 1 (fun ds es=>gat3 [(0,0),(1,0),(2,0)] ds [.int 0] es)) (aCons (eVar 3) (aNil)) (aCons (e2 subD (eN lenD (aCons (e2 ixD (eVar 2) (eK (.int 2))) (aNil))) (eK (.int 1))) (aNil))))) (sRaise1 "NoPlace" "place" (eVar 1)) (sSkip))
    (sAsg (e2 ixD (e2 ixD (eVar 2) (eK (.int 2))) (eVar 3)) (gName 2))
theorem at_look {isn:FN} (hn:IsNumberF isn) {a b:Option D} {v:Tm} {z:D} (hz:Pln z):
 (tNot (tTruth (eKw (kwK isn 1 1 (fun ds es=>gat3 [(0,0),(1,0),(2,0)] ds [.int 0] es)) (aCons (eVar 3) (aNil)) (aCons (e2 subD (eN lenD (aCons (e2 ixD (eVar 2) (eK (.int 2))) (aNil))) (eK (.int 1))) (aNil))))) [a,b,some v.d,some z] S= .ok (!numOk z ((v.parts.length:Int)-1)) S:=by
 apply of_sat
 simp only[sat_tNot,sat_tTruth,sat_eKw,sat_aCons,sat_aNil,sat_eVar,sat_e2,sat_eN,sat_eK,List.getElem?_cons_succ,List.getElem?_cons_zero]
 rw[ix_parts,sat_ok,len_tup,sat_ok,sub_int,sat_ok,Tm.ds_len]
 have e:kwK isn 1 1 (fun ds es=>gat3 [(0,0),(1,0),(2,0)] ds [.int 0] es) [z] [.int ((v.parts.length:Int)-1)] S=isn [z, .int 0, .int ((v.parts.length:Int)-1)] S:=rfl
 rw[e,hn z _ S hz,sat_ok,truthD_bl,sat_ok]
 exact⟨rfl,rfl⟩
theorem at_step {isn:FN} (hn:IsNumberF isn) {a b:Option D} {v v':Tm} {i:Nat} (h:v.parts[i]? =some v'):
 (mAtB isn [a,b,some v.d,some (.int (i:Int))] S).sat (fun e S'=>e= [a,b,some v'.d,some (.int (i:Int))] ∧S'=S) (fun _ _=>False) (fun _ _=>False) fun _ _=>False:=by
 have hl:=(List.getElem?_eq_some_iff.mp h).1
 unfold mAtB
 refine step_no (S1:=S) ?_ ?_
 ·rw[at_look hn (.int _)]
  have:numOk (.int (i:Int)) ((v.parts.length:Int)-1)=true:=by simp only[numOk,Bool.and_eq_true,decide_eq_true_eq];omega
  rw[this];rfl
 simp only[ssat_asg,sat_e2,sat_eVar,sat_eK,List.getElem?_cons_succ,List.getElem?_cons_zero]
 rw[ix_parts,sat_ok,ix_nat (d:=v'.d) (by rw[Tm.ds_get,h];rfl),sat_ok,gName_eq,ssat_nx]
 exact⟨rfl,rfl⟩
theorem at_stop {isn:FN} (hn:IsNumberF isn) {a:Option D} {x z:D} {v:Tm} (hz:Pln z) (h:numOk z ((v.parts.length:Int)-1)=false):
 mAtB isn [a,some x,some v.d,some z] S= .exc (noP x) [a,some x,some v.d,some z] S:=by
 unfold mAtB sSeq sIf
 rw[at_look hn hz,h]
 rfl
theorem Tm.at_take {t u:Tm} {q:List Nat} (h:t.at q=some u) {j:Nat} (hj:j<q.length) {v:Tm} (hv:t.at (q.take j)=some v):∃v',v.parts[q[j]]? =some v'∧t.at (q.take (j+1))=some v':=by
 have e1:q=q.take (j+1)++q.drop (j+1):=(List.take_append_drop _ _).symm
 rw[e1,Tm.at_app] at h
 cases h2:t.at (q.take (j+1)) with
 |none=>rw[h2] at h;cases h
 |some v'=>
  refine⟨v',?_,rfl⟩
  rw[List.take_succ_eq_append_getElem hj,Tm.at_app,hv] at h2
  simp only[Option.bind_some,Tm.at] at h2
  cases h3:v.parts[q[j]]? with
  |none=>rw[h3] at h2;cases h2
  |some w=>rw[h3] at h2;simpa using h2
def IsAt (f:FN):Prop:=(∀ {t u:Tm} {q:List Nat} (S:Store),t.at q=some u→f [t.d,pl q] S= .ok u.d S)∧∀ {t:Tm} {x:D} (S:Store),NoPl t x→f [t.d,x] S= .exc (noP x) S
theorem isi_tupF {x:D} (h:Pln x) (n:∀l,x≠ .tup l):isiD [x, .ty "tuple"] S= .ok (.bl false) S:=by
 cases h with
 |tup l=>exact absurd rfl (n l)
 | _=>kernel_rfl
theorem exc_of {α :Type} {r:R α} {x:Ex} (h:r.esat (fun e S'=>e=x∧S'=S) fun _ _=>False):r= .exc x S:=by
 cases h with
 |mk h=>exact h.elim
 |ex h=>obtain⟨rfl,rfl⟩:=h;rfl
theorem itsAt {isn:FN} (hn:IsNumberF isn):IsAt (run 2 4 (mAt isn)):=by
 refine⟨fun {t u q} S h=> ?_,fun {t x} S h=> ?_⟩
 ·apply of_sat
  rw[sat_run]
  refine⟨rfl,?_⟩
  unfold mAt
  refine step_no (S1:=S) (of_sat (by simp[pl])) ?_
  refine step_asg (S1:=S) (S2:=S) (d:=t.d) (of_sat (by simp)) rfl ?_
  refine seq_rule (fun e S'=>e= [some t.d,some (pl q),some u.d,e.getD 3 none] ∧S'=S) ?_ ?_
  ·simp only[ssat_for,sat_iSeq,sat_eVar,List.map_cons,List.map_nil,List.cons_append,List.nil_append,List.length_cons,List.length_nil,List.replicate,Nat.zero_add,Nat.reduceAdd,Nat.reduceSub,List.set_cons_succ,List.set_cons_zero,List.getElem?_cons_succ,List.getElem?_cons_zero,pl,itemsD_tup,sat_ok]
   refine for_rule (fun j e S'=>(∃ a v,t.at (q.take j)=some v∧e= [some t.d,some (pl q),some v.d,a])∧S'=S) ⟨⟨_,t,by simp[Tm.at],rfl⟩,rfl⟩ ?_ ?_
   ·rintro j hj e S' ⟨⟨a,v,hv,rfl⟩,rfl⟩
    simp only[List.length_map] at hj
    obtain⟨v',h1,h2⟩:=Tm.at_take h hj hv
    simp only[gName_eq,ssat_nx,List.set_cons_succ,List.set_cons_zero,List.getElem_map]
    exact ssat_mono (at_step hn h1) (fun e S' ⟨h3,h4⟩=>⟨⟨_,v',h2,h3⟩,h4⟩) (fun _ _ h=>h.elim) (fun _ _ h=>h.elim) fun _ _ h=>h.elim
   ·rintro e S' ⟨⟨a,v,hv,rfl⟩,rfl⟩
    simp only[List.length_map,List.take_length,h,Option.some.injEq] at hv
    subst hv
    exact⟨rfl,rfl⟩
  ·rintro e S' ⟨h,rfl⟩
   rw[h]
   simp
 ·apply exc_of
  rw[X.sat_run]
  refine⟨rfl,?_⟩
  unfold mAt
  cases h with
  |not hp hne=>
   simp only[X.ssat_seq,X.ssat_if,X.sat_tNot,X.sat_tTruth,X.sat_eN,X.sat_aCons,X.sat_aNil,X.sat_eVar,X.sat_eK,List.map_cons,List.map_nil,List.cons_append,List.nil_append,List.length_cons,List.length_nil,List.replicate,Nat.zero_add,Nat.reduceAdd,Nat.reduceSub,List.getElem?_cons_succ,List.getElem?_cons_zero]
   rw[isi_tupF hp hne]
   simp[noP]
  | @deep q u y r hq hp hno=>
    refine X.step_no (S1:=S) (of_sat (by simp)) ?_
    refine X.step_asg (S1:=S) (S2:=S) (d:=t.d) (of_sat (by simp)) rfl ?_
    rw[X.ssat_seq]
    simp only[X.ssat_for,X.sat_iSeq,X.sat_eVar,List.map_cons,List.map_nil,List.cons_append,List.nil_append,List.length_cons,List.length_nil,List.replicate,Nat.zero_add,Nat.reduceAdd,Nat.reduceSub,List.set_cons_succ,List.set_cons_zero,List.getElem?_cons_succ,List.getElem?_cons_zero,itemsD_tup,X.sat_ok]
    generalize hx:(D.tup ((q.map fun i:Nat=>D.int (i:Int))++y::r))=x
    refine X.for_rule (fun j e S'=>(j≤q.length∧∃a v,t.at (q.take j)=some v∧e= [some t.d,some x,some v.d,a])∧S'=S) ⟨⟨by simp,_,t,by simp[Tm.at],rfl⟩,rfl⟩ ?_ ?_
    ·rintro j hj e S' ⟨⟨hle,a,v,hv,rfl⟩,rfl⟩
     simp only[gName_eq,ssat_nx,List.set_cons_succ,List.set_cons_zero]
     by_cases hlt:j<q.length
     ·obtain⟨v',h1,h2⟩:=Tm.at_take hq hlt hv
      have e1:((q.map fun i:Nat=>D.int (i:Int))++y::r)[j] = .int (q[j] :Int):=by rw[List.getElem_append_left (by simpa using hlt),List.getElem_map]
      rw[e1]
      exact X.of_ssat (ssat_mono (at_step hn h1) (fun e S' ⟨h3,h4⟩=>⟨⟨hlt,_,v',h2,h3⟩,h4⟩) (fun _ _ h=>h.elim) (fun _ _ h=>h.elim) fun _ _ h=>h.elim)
     ·have hjq:j=q.length:=by omega
      subst hjq
      rw[List.take_length,hq] at hv
      simp only[Option.some.injEq] at hv
      subst hv
      have e1:((q.map fun i:Nat=>D.int (i:Int))++y::r)[q.length] =y:=by rw[List.getElem_append_right (by simp)];simp
      rw[e1]
      have:=at_stop (S:=S') (a:=some t.d) (x:=x) hn hp hno
      unfold mAtB at this
      rw[this,X.ssat_exc]
      exact⟨rfl,rfl⟩
    ·rintro e S' ⟨⟨hle,_⟩,_⟩
     simp only[List.length_append,List.length_map,List.length_cons,List.length_nil] at hle
     omega
end L3
namespace L3
open PySem L2
variable {S:Store}
theorem Tm.len_sizes:∀ts:List Tm,ts.length≤Tm.sizes ts
 | [] =>by simp[Tm.sizes]
 |t::ts=>by
  have:=Tm.len_sizes ts
  have:=Tm.size_pos t
  simp only[Tm.sizes,List.length_cons];omega
def mThere:SD:=
    sSeq (sFor (iSeq (eVar 1)) (gName 2) (sAsg (e2 ixD (e2 ixD (eVar 0) (eK (.int 2))) (eVar 2)) (gName 0)))
    (sRet (eVar 0))
theorem there_ok {t u:Tm} {q:List Nat} (S:Store) (h:t.at q=some u):run 2 3 mThere [t.d,pl q] S= .ok u.d S:=by
 apply of_sat
 rw[sat_run]
 refine⟨rfl,?_⟩
 unfold mThere
 refine seq_rule (fun e S'=>(∃ a b,e= [some u.d,a,b])∧S'=S) ?_ ?_
 ·simp only[ssat_for,sat_iSeq,sat_eVar,List.map_cons,List.map_nil,List.cons_append,List.nil_append,List.length_cons,List.length_nil,List.replicate,Nat.zero_add,Nat.reduceAdd,Nat.reduceSub,List.set_cons_succ,List.set_cons_zero,List.getElem?_cons_succ,List.getElem?_cons_zero,pl,itemsD_tup,sat_ok]
  refine for_rule (fun j e S'=>(∃ a b v,t.at (q.take j)=some v∧e= [some v.d,a,b])∧S'=S) ⟨⟨_,_,t,by simp[Tm.at],rfl⟩,rfl⟩ ?_ ?_
  ·rintro j hj e S' ⟨⟨a,b,v,hv,rfl⟩,rfl⟩
   simp only[List.length_map] at hj
   obtain⟨v',h1,h2⟩:=Tm.at_take h hj hv
   simp only[gName_eq,ssat_nx,List.set_cons_succ,List.set_cons_zero,List.getElem_map,ssat_asg,sat_e2,sat_eVar,sat_eK,List.getElem?_cons_succ,List.getElem?_cons_zero]
   rw[ix_parts,sat_ok,ix_nat (d:=v'.d) (by rw[Tm.ds_get,h1];rfl),sat_ok]
   simp only[ssat_nx]
   exact⟨⟨_,_,v',h2,rfl⟩,trivial⟩
  ·rintro e S' ⟨⟨a,b,v,hv,rfl⟩,rfl⟩
   simp only[List.length_map,List.take_length,h,Option.some.injEq] at hv
   subst hv
   exact⟨⟨_,_,rfl⟩,rfl⟩
 ·rintro e S' ⟨⟨a,b,rfl⟩,rfl⟩
  simp
end L3
namespace L3
open PySem L2
variable {S:Store}
theorem Tm.spotsL_app:∀(a b:List Tm) (k:Nat),Tm.spotsL k (a++b)=Tm.spotsL k a++Tm.spotsL (k+a.length) b
 | [],b,k=>rfl
 |t::a,b,k=>by
  simp only[List.cons_append,Tm.spotsL,List.length_cons]
  rw[Tm.spotsL_app a b (k+1),List.append_assoc,show k+1+a.length=k+(a.length+1) by omega]
theorem Tm.spot_short {t:Tm} {q:List Nat} (h:q ∈ t.spots):q.length<t.dep:=by
 obtain⟨u,hu⟩:=Tm.spots_at.mp h
 have:=Tm.at_dep hu
 have:=Tm.dep_pos u
 omega
theorem enumL_at {l:List D} {k j:Nat} (h:j<(enumL k l).length):∃x,l[j]? =some x∧(enumL k l)[j] = .tup [.int ((k+j:Nat):Int),x] :=enumL_get k l j _ (List.getElem?_eq_getElem h)
theorem enumA_tup {l:List D} :enumA [.tup l] S= .ok (enumL 0 l) S:=rfl
end L3
namespace L3
open PySem L2
def HW:List Str:= ["any","called","count","rest"]
def Tm.word:Tm→Str
 | .num _=> "num"
 | .nam _=> "name"
 | .nd w _ _=>w
def isRest (t:Tm):Bool:=decide (t.word= "rest")
def rests (ps:List Tm):Nat:=(ps.filter isRest).length
def plains (ps:List Tm):Nat:=(ps.filter fun t=> !isRest t).length
def pshape (w:Str):Option (Nat × Nat × Nat × Bool):=
 if w= "plus" ∨w= "times" ∨w= "most" then some (0,4,1,false)
 else if w= "row" then some (0,6,2,false)
 else if w= "say" then some (1,1,0,false)
 else if w= "less" ∨w= "below" then some (2,2,0,false)
 else if w= "if" then some (3,3,0,false)
 else if w= "let" ∨w= "each" then some (2,2,0,true)
 else none
inductive PG:Tm→Prop where
 |num {i:Int} :0≤i→i≤9972→PG (.num i)
 |nam {s:Str} :NameOk s→PG (.nam s)
 |hole {w h:Str} :w ∈ HW→NameOk h→PG (.nd w h [])
 |nd {w m:Str} {ps:List Tm} {f mo r:Nat} {g:Bool} :pshape w=some (f,mo,r,g)→f≤plains ps→plains ps≤mo→rests ps≤r→(g=true→NameOk m)→(g=false→m= "")→(∀ p ∈ ps,PG p)→PG (.nd w m ps)
def GIV:List Str:= ["let","each"]
theorem Tm.ds_app (a b:List Tm):Tm.ds (a++b)=Tm.ds a++Tm.ds b:=by simp[Tm.ds_map]
end L3
namespace L3
open PySem L2
abbrev WEnv:=Str→Option Int
abbrev Ev:=Tm→WEnv→Option (Int × List Int)
def evs (f:Ev):List Tm→WEnv→Option (List Int × List Int)
 | [],_=>some ([],[])
 |t::ts,e=>match f t e with
  |some (v,o)=>match evs f ts e with
   |some (vs,o')=>some (v::vs,o++o')
   |none=>none
  |none=>none
def upE (e:WEnv) (x:Str) (v:Int):WEnv:=fun y=>if x=y then some v else e y
def rnds (f:Ev) (t:Tm) (e:WEnv) (x:Str):List Int→Int→Option (Int × List Int)
 | [],last=>some (last,[])
 |i::is,_=>match f t (upE e x i) with
  |some (v,o)=>match rnds f t e x is v with
   |some (v',o')=>some (v',o++o')
   |none=>none
  |none=>none
def turns (n:Int):List Int:=(List.range n.toNat).map fun i:Nat=>(i:Int)
def ev:Nat→Ev
 |0,_,_=>none
 |k+1, .num i,_=>if 0≤i∧i<9973 then some (i,[]) else none
 |k+1, .nam x,e=>(e x).map fun v=>(v,[])
 |k+1, .nd w m ps,e=>
  if 100<ps.length then none
  else if w= "plus" then(evs (ev k) ps e).map fun r=>(r.1.sum % 9973,r.2)
  else if w= "times" then(evs (ev k) ps e).map fun r=>(r.1.foldl (fun a b=>a*b % 9973) 1,r.2)
  else if w= "most" then match evs (ev k) ps e with
   |some (vs,o)=>(maxI vs).map fun v=>(v,o)
   |none=>none
  else if w= "less" then match evs (ev k) ps e with
   |some ([a,b],o)=>some ((a-b) % 9973,o)
   | _=>none
  else if w= "below" then match evs (ev k) ps e with
   |some ([a,b],o)=>some (if a<b then 1 else 0,o)
   | _=>none
  else if w= "row" then(evs (ev k) ps e).map fun r=>(r.1.getLastD 0,r.2)
  else match ps with
   | [a] =>if w= "say" then(ev k a e).map fun r=>(r.1,r.2++ [r.1]) else none
   | [a,b] =>match ev k a e with
     |some (v,o)=>
      if w= "let" then(ev k b (upE e m v)).map fun r=>(r.1,o++r.2)
      else if w= "each" then(rnds (ev k) b e m (turns (v % 4)) 0).map fun r=>(r.1,o++r.2)
      else none
     |none=>none
   | [a,b,c] =>if w= "if" then match ev k a e with
       |some (v,o)=>(ev k (if v≠0 then b else c) e).map fun r=>(r.1,o++r.2)
       |none=>none
     else none
   | _=>none
end L3
namespace L3
open PySem L2
abbrev Kn:=List (Key × D)
def Tm.gives:Tm→Option Str
 | .nd w m _=>if w= "let" ∨w= "each" then some m else none
 | _=>none
def Tm.name:Tm→Option Str
 | .nam s=>some s
 | _=>none
def knx (u:Tm) (p:List Nat) (kn:Kn) (k:Nat):Kn:=match u.gives with
 |some m=>if k=1 then putD kn (.inr m) (pl p) else kn
 |none=>kn
def gv:Kn→Tm→List Nat→List Nat→Option (Str × D)
 |kn,t,p,[] =>t.name.map fun s=>(s,(dGet kn (.inr s)).getD .non)
 |kn,t,p,i::r=>(t.parts[i]?).bind fun u=>gv (knx t p kn i) u (p++ [i]) r
def key (q:List Nat):List Key:=q.map fun i:Nat=> .inl (i:Int)
end L3
namespace L3
open PySem L2
structure E0 (n:Nat) (x0 x1:Option D) (wn:Nat) (e:EnvD):Prop where
 l:e.length=n
 h0:e[0]? =some x0
 h1:e[1]? =some x1
 h2:e[2]? =some (some (.obj wn))
end L3
namespace L3
open PySem L2
abbrev XR:=Option (List Int × Except Str Int)
abbrev XEv:=Tm→WEnv→XR
def xevs (f:XEv):List Tm→WEnv→Option (List Int × Except Str (List Int))
 | [],_=>some ([], .ok [])
 |t::ts,e=>match f t e with
  |some (o, .ok v)=>match xevs f ts e with
   |some (o', .ok vs)=>some (o++o', .ok (v::vs))
   |some (o', .error x)=>some (o++o', .error x)
   |none=>none
  |some (o, .error x)=>some (o, .error x)
  |none=>none
def xbind (r:XR) (g:Int→XR):XR:=match r with
 |some (o, .ok v)=>match g v with
  |some (o',r')=>some (o++o',r')
  |none=>none
 |r=>r
def xmany (r:Option (List Int × Except Str (List Int))) (g:List Int→Option Int):XR:=match r with
 |some (o, .ok vs)=>(g vs).map fun v=>(o, .ok v)
 |some (o, .error x)=>some (o, .error x)
 |none=>none
def xrnds (f:XEv) (t:Tm) (e:WEnv) (x:Str):List Int→Int→XR
 | [],last=>some ([], .ok last)
 |i::is,_=>xbind (f t (upE e x i)) fun v=>xrnds f t e x is v
def xsaid (v:Int):XR:=some ([v], .ok v)
def xword (w:Str) (vs:List Int):Option Int:=
 if w= "plus" then some (vs.sum % 9973)
 else if w= "times" then some (vs.foldl (fun a b=>a*b % 9973) 1)
 else if w= "most" then maxI vs
 else if w= "row" then some (vs.getLastD 0)
 else match vs with
  | [a,b] =>if w= "less" then some ((a-b) % 9973) else if w= "below" then some (if a<b then 1 else 0) else none
  | _=>none
def xv:Nat→XEv
 |0,_,_=>none
 |k+1, .num i,_=>if 0≤i∧i<9973 then some ([], .ok i) else none
 |k+1, .nam x,e=>some ([],match e x with
  |some v=> .ok v
  |none=> .error x)
 |k+1, .nd w m ps,e=>
  if 100<ps.length then none
  else if w= "say" then match ps with
   | [a] =>xbind (xv k a e) xsaid
   | _=>none
  else if w= "let" then match ps with
   | [a,b] =>xbind (xv k a e) fun v=>xv k b (upE e m v)
   | _=>none
  else if w= "each" then match ps with
   | [a,b] =>xbind (xv k a e) fun v=>xrnds (xv k) b e m (turns (v % 4)) 0
   | _=>none
  else if w= "if" then match ps with
   | [a,b,c] =>xbind (xv k a e) fun v=>xv k (if v≠0 then b else c) e
   | _=>none
  else if w= "plus" ∨w= "times" ∨w= "most" ∨w= "less" ∨w= "below" ∨w= "row" then xmany (xevs (xv k) ps e) (xword w)
  else none
end L3
namespace L3
open PySem L2 PyProof.Rows
def okS (s:Str):Prop:=∀c ∈ s.cps.toList,c<1114112
theorem okS_of (s:String):okS (Str.ofString s):=by
 intro c hc
 rw[signs_ofString] at hc
 obtain⟨d,_,rfl⟩:=List.mem_map.mp hc
 have h:=d.valid
 have e:d.toNat=d.val.toNat:=rfl
 rw[e]
 unfold UInt32.isValidChar Nat.isValidChar at h
 omega
theorem okS_app {a b:Str} (ha:okS a) (hb:okS b):okS (a++b):=fun c hc=>(mem_cps_append.mp hc).elim (ha c) (hb c)
theorem okS_join {sep:Str} (hs:okS sep) {ts:List Str} (h:∀t ∈ ts,okS t):okS (Str.join sep ts):=fun c hc=>by
 rcases(mem_join sep c ts).mp hc with⟨t,ht,h1⟩|⟨_,h1⟩
 ·exact h t ht c h1
 ·exact hs c h1
theorem okS_iff {s:Str} :okS s↔PyData.strOk s=true:=by
 unfold PyData.strOk okS
 rw[← Array.all_toList,List.all_eq_true]
 simp only[decide_eq_true_eq]
theorem reprChar_ok {q c:Nat} (hc:c<1114112):∀d ∈ Builtin.Str.reprChar q c,d<1114112:=by
 have hex:∀w:Nat,∀d ∈ (List.replicate (w-((Nat.toDigits 16 c).map Char.toNat).length) 48++(Nat.toDigits 16 c).map Char.toNat),d<1114112:=by
  intro w d hd
  rcases List.mem_append.mp hd with h|h
  ·rw[(List.mem_replicate.mp h).2];decide
  ·obtain⟨x,_,rfl⟩:=List.mem_map.mp h
   have h:=x.valid
   have e:x.toNat=x.val.toNat:=rfl
   rw[e]
   unfold UInt32.isValidChar Nat.isValidChar at h
   omega
 intro d hd
 unfold Builtin.Str.reprChar at hd
 simp only [] at hd
 repeat' split at hd
 all_goals first
  |(simp only[List.mem_cons,List.not_mem_nil,or_false] at hd;omega)
  |(rcases List.mem_append.mp hd with h|h
    ·simp only[List.mem_cons,List.not_mem_nil,or_false] at h;omega
    ·exact hex _ d h)
theorem fold_ok (q:Nat):∀(l:List Nat) (acc:Array Nat),(∀ c ∈ l,c<1114112)→(∀ d ∈ acc.toList,d<1114112)→∀d ∈ (l.foldl (fun out c=>out++(Builtin.Str.reprChar q c).toArray) acc).toList,d<1114112
 | [],acc,_,h=>h
 |c::r,acc,hl,h=>by
  rw[List.foldl_cons]
  refine fold_ok q r _ (fun x hx=>hl x (List.mem_cons_of_mem _ hx)) fun d hd=> ?_
  rw[Array.toList_append,List.mem_append] at hd
  rcases hd with hd|hd
  ·exact h d hd
  ·exact reprChar_ok (hl c (List.mem_cons_self ..)) d (by simpa using hd)
theorem reprText_ok {x:Str} (h:okS x):okS (reprText x):=by
 unfold reprText
 intro c hc
 have e:((x.cps.foldl (fun out c=>out++(Builtin.Str.reprChar (reprQuote x) c).toArray) #[reprQuote x]).push (reprQuote x)).toList=(x.cps.toList.foldl (fun out c=>out++(Builtin.Str.reprChar (reprQuote x) c).toArray) #[reprQuote x]).toList++ [reprQuote x] :=by
  rw[Array.toList_push,←Array.foldl_toList]
 have hc':c ∈ ((x.cps.foldl (fun out c=>out++(Builtin.Str.reprChar (reprQuote x) c).toArray) #[reprQuote x]).push (reprQuote x)).toList:=hc
 rw[e] at hc'
 have hq:reprQuote x<1114112:=by unfold reprQuote;split<;>decide
 rcases List.mem_append.mp hc' with h1|h1
 ·exact fold_ok _ _ _ h (fun d hd=>by simp at hd;omega) c h1
 ·rw[List.mem_singleton.mp h1];exact hq
mutual
theorem shown_okS {B:Nat} :∀ {x:D},U B x→∃a,toPyR x=some a∧okS a.shown
 | .non,_=>⟨.none,rfl,by rw[PyData.shown_none];exact okS_of _⟩
 | .bl b,_=>⟨.bool b,rfl,by rw[PyData.shown_bool];cases b<;>exact okS_of _⟩
 | .int i,h=>⟨.int i,rfl,by rw[PyData.shown_int];exact okS_of _⟩
 | .str s,h=>by
   cases h with
   |str hs=>exact⟨.str s,rfl,by rw[PyData.shown_str];exact reprText_ok (okS_iff.mpr (asc_ok hs))⟩
 | .tup l,h=>by
   have h:∀x ∈ l,U B x:=by cases h with|tup _ h=>exact h
   obtain⟨as,e1,e2⟩:=showns_okS h
   refine⟨.tuple as,by simp only[toPyR,e1];rfl,?_⟩
   rw[PyData.shown_tuple]
   refine okS_app (okS_app (okS_of _) (okS_join (okS_of _) e2)) ?_
   split<;>exact okS_of _
 | .lst l,h=>by
   have h:∀x ∈ l,U B x:=by cases h with|lst _ h=>exact h
   obtain⟨as,e1,e2⟩:=showns_okS h
   refine⟨.list as,by simp only[toPyR,e1];rfl,?_⟩
   rw[PyData.shown_list]
   exact okS_app (okS_app (okS_of _) (okS_join (okS_of _) e2)) (okS_of _)
 | .dic ks l,h=>by
   cases h with
   |dic=>
    refine⟨.dict [],rfl,?_⟩
    rw[PyData.shown_dict,PyData.shownKv_nil]
    exact okS_app (okS_app (okS_of _) (okS_join (okS_of _) (by simp))) (okS_of _)
 | .obj _,h=>nomatch h
 | .glb _,h=>nomatch h
 | .wtp _,h=>nomatch h
 | .ty _,h=>nomatch h
 | .scr _,h=>nomatch h
 | .kd _ _,h=>nomatch h
 | .xcp _ _ _,h=>nomatch h
 | .lam _ _,h=>nomatch h
theorem showns_okS {B:Nat} :∀ {l:List D},(∀ x ∈ l,U B x)→∃as,toPyRL l=some as∧∀t ∈ PyData.shownAll as,okS t
 | [],_=>⟨[],rfl,by simp[PyData.shownAll]⟩
 |x::l,h=>by
  obtain⟨a,e1,e2⟩:=shown_okS (h x (List.mem_cons_self ..))
  obtain⟨as,f1,f2⟩:=showns_okS fun y hy=>h y (List.mem_cons_of_mem _ hy)
  refine⟨a::as,by simp only[toPyRL,e1,f1],?_⟩
  intro t ht
  rw[PyData.shownAll_cons,List.mem_cons] at ht
  rcases ht with rfl|ht
  ·exact e2
  ·exact f2 t ht
end
theorem toPyL_strs:∀l:List Str,(∀ s ∈ l,PyData.strOk s=true)→toPyL (l.map .str)=some (l.map .str)
 | [],_=>rfl
 |s::l,h=>by
  simp only[List.map_cons,toPyL,toPy,h s (List.mem_cons_self ..),if_true,toPyL_strs l fun t ht=>h t (List.mem_cons_of_mem _ ht)]
end L3
namespace L3
open PySem L2
def isHeap (w:Str):Bool:=decide (w= "plus" ∨w= "times" ∨w= "most")
theorem in_heap {w:Str} {S:Store} (h:w ∈ WORDS):inD (.str w) (.tup [.str "plus", .str "times", .str "most"]) S= .ok (.bl (isHeap w)) S:=by
 simp only[WORDS,List.mem_cons,List.not_mem_nil,or_false] at h
 rcases h with rfl|rfl|rfl|rfl|rfl|rfl|rfl|rfl|rfl|rfl|rfl|rfl|rfl|rfl|rfl|rfl<;>kernel_rfl
end L3
namespace L3
open PySem L2
section
variable {S:Store}
inductive V:D→Prop where
 |non:V .non
 |bl (b:Bool):V (.bl b)
 |int (i:Int):V (.int i)
 |str {s:Str} :PyData.strOk s=true→s.length≤90000→V (.str s)
 |tup {l:List D} :l.length≤1000→(∀ x ∈ l,V x)→V (.tup l)
 |lst {l:List D} :l.length≤1000→(∀ x ∈ l,V x)→V (.lst l)
 |dic:V (.dic [] [])
end
end L3
namespace L3
open PySem L2
@[simp] theorem sat_tIf {S:Store} {env:EnvD} {QB:Bool→Store→Prop} {c a b:TD} :(tIf c a b env S).sat QB=(c env S).sat fun k S1=>if k=true then(a env S1).sat QB else(b env S1).sat QB:=by
  unfold tIf;rw[sat_bind];congr;funext k S1;cases k<;>simp
def cG:D:= .tup [.str "let", .str "each"]
def PS:List (Str × Nat × Nat):= [("plus",0,6),("times",0,6),("most",0,6),("row",0,8),("say",1,1),("less",2,2),("below",2,2),("if",3,3),("let",2,2),("each",2,2)]
end L3
namespace L3
open PySem L2
section
variable {S:Store}
theorem txts_py:∀ {l:List Str},(∀ s ∈ l,PyData.strOk s=true)→toPyL (l.map .str)=some (l.map .str)
 | [],_=>rfl
 |s::l,h=>by
  have h1:=h s (List.mem_cons_self ..)
  have ih:=txts_py (l:=l) fun x hx=>h x (List.mem_cons_of_mem _ hx)
  simp[List.map_cons,toPyL,toPy,h1,ih]
theorem in_txts {s:Str} {l:List Str} (h:PyData.strOk s=true) (hl:∀s ∈ l,PyData.strOk s=true):inD (.str s) (.tup (l.map .str)) S= .ok (.bl (decide (s ∈ l))) S:=by
 have e:memD (.str s) (.tup (l.map .str)) S=some (decide (s ∈ l)):=by
  show memData (toPy (.str s)) (toPy (.tup (l.map .str)))=_
  simp only[memData,toPy,h,if_true,txts_py hl,Option.map_some]
  rw[if_pos (show(PyData.str s).depth≤64 by simp[PyData.depth])]
  congr 1
  rw[Bool.eq_iff_iff]
  simp only[List.any_map,List.any_eq_true,Function.comp,decide_eq_true_eq,PyData.eqv]
  constructor
  ·rintro⟨x,hx,e⟩
   have:x=s:=by simpa using e
   exact this▸hx
  ·intro hx
   exact⟨s,hx,by simp⟩
 unfold inD
 rw[e]
theorem inG {s:Str} (h:PyData.strOk s=true):inD (.str s) cG S= .ok (.bl (decide (s ∈ GIV))) S:=in_txts (l:=GIV) h (by decide +kernel)
end
end L3
namespace L3
open PySem L2
def lowS (s:Str):Bool:=s.cps.toList.all fun c=>decide (c<128)
inductive W (L B:Nat):D→Prop where
 |non:W L B .non
 |bl (b:Bool):W L B (.bl b)
 |int {i:Int} : -(1+(L:Int))≤i→i≤9973+(L:Int)→W L B (.int i)
 |str {s:Str} :s.length≤9+L→lowS s=true→W L B (.str s)
 |tup {l:List D} :l.length≤B→(∀ x ∈ l,W L B x)→W L B (.tup l)
 |lst {l:List D} :l.length≤B→(∀ x ∈ l,W L B x)→W L B (.lst l)
 |dic:W L B (.dic [] [])
theorem int_low (i:Int):∀c ∈ (toString i).toList,c.toNat<128:=by
 have nat:∀(n:Nat),∀c ∈ (Nat.repr n).toList,c.toNat<128:=by
  intro n c hc
  rw[Nat.toList_repr] at hc
  have h:=Nat.isDigit_of_mem_toDigits (by decide) (by decide) hc
  simp only[Char.isDigit,Bool.and_eq_true,decide_eq_true_eq] at h
  have e:c.val.toNat=c.toNat:=rfl
  have h2:c.val.toNat≤57:=by simpa using UInt32.le_iff_toNat_le.mp h.2
  omega
 intro c hc
 rw[Int.toString_eq_repr,Int.repr_eq_if] at hc
 split at hc
 ·exact nat _ c hc
 ·rw[String.toList_append,List.mem_append] at hc
  rcases hc with hc|hc
  ·have:c='-':=by simpa using hc
   subst this;decide
  ·exact nat _ c hc
theorem str_int {i:Int} (h:i.natAbs<10 ^ 5):((toString i:String):Str).length≤9∧lowS ((toString i:String):Str)=true:=by
 refine⟨?_,?_⟩
 ·have:=int_text_length_le10 (k:=5) (by decide) h
  have e:(Str.ofString (toString i)).length=(toString i).length:=by
   rw[Str.ofString_eq_toList]
   simp only[Str.length,List.size_toArray,List.length_map]
   first|exact String.length_toList|rfl|simp[String.length]
  show(Str.ofString (toString i)).length≤9
  omega
 ·unfold lowS
  show(Str.ofString (toString i)).cps.toList.all _=true
  rw[tl_of,List.all_eq_true]
  intro c hc
  rw[List.mem_map] at hc
  obtain⟨d,hd,rfl⟩:=hc
  exact decide_eq_true (int_low i d hd)
def Grw (S S':Store):Prop:=∃T,S'=S++T
theorem Grw.refl {S:Store} :Grw S S:=⟨[],by simp⟩
theorem Grw.trans {S S' S'':Store} (a:Grw S S') (b:Grw S' S''):Grw S S'':=by
 obtain⟨T,rfl⟩:=a;obtain⟨T',rfl⟩:=b;exact⟨T++T',by simp⟩
end L3
namespace L3
open PySem L2
inductive C where
 |tok (s:List Nat)|nd (cs:List C)
mutual
def C.txt:C→List Nat
 | .tok s=>s
 | .nd cs=>40::(C.txts cs++ [41])
def C.txts:List C→List Nat
 | [] => []
 |c::cs=>c.txt++C.more cs
def C.more:List C→List Nat
 | [] => []
 |c::cs=>32::(c.txt++C.more cs)
end
def wsg (c:Nat):Bool:= !(decide (c=32) || decide (c=40) || decide (c=41))
mutual
def C.good:C→Bool
 | .tok s=> !s.isEmpty&&s.all wsg
 | .nd cs=>C.goods cs
def C.goods:List C→Bool
 | [] =>true
 |c::cs=>c.good&&C.goods cs
end
def DlC (r:List Nat):Prop:=r= [] ∨∃c r',r=c::r'∧wsg c=false
theorem tok_inj:∀ {a b r r':List Nat},a.all wsg=true→b.all wsg=true→DlC r→DlC r'→a++r=b++r'→a=b∧r=r'
 | [],[],_,_,_,_,_,_,e=>⟨rfl,e⟩
 | [],y::b,r,r',_,hb,hr,_,e=>by
   simp only[List.all_cons,Bool.and_eq_true] at hb
   rcases hr with rfl|⟨c,r1,rfl,hc⟩
   ·simp at e
   ·simp only[List.nil_append,List.cons_append,List.cons.injEq] at e
    rw[e.1,hb.1] at hc;cases hc
 |x::a,[],r,r',ha,_,_,hr',e=>by
  simp only[List.all_cons,Bool.and_eq_true] at ha
  rcases hr' with rfl|⟨c,r1,rfl,hc⟩
  ·simp at e
  ·simp only[List.nil_append,List.cons_append,List.cons.injEq] at e
   rw[← e.1,ha.1] at hc;cases hc
 |x::a,y::b,r,r',ha,hb,hr,hr',e=>by
  simp only[List.all_cons,Bool.and_eq_true] at ha hb
  simp only[List.cons_append,List.cons.injEq] at e
  obtain⟨h1,h2⟩:=tok_inj ha.2 hb.2 hr hr' e.2
  exact⟨by rw[e.1,h1],h2⟩
theorem DlC.more (cs:List C) (r:List Nat):DlC (C.more cs++41::r):=by
 cases cs with
 |nil=>exact .inr ⟨41,r,rfl,rfl⟩
 |cons c cs=>exact .inr ⟨32,_,rfl,rfl⟩
theorem C.first:∀ {c:C},c.good=true→∃x r,c.txt=x::r∧x≠41∧x≠32
 | .tok s,h=>by
   simp only[C.good,Bool.and_eq_true] at h
   cases s with
   |nil=>simp at h
   |cons a s=>
    have:=h.2
    simp only[List.all_cons,Bool.and_eq_true,wsg,Bool.not_eq_true',Bool.or_eq_false_iff,decide_eq_false_iff_not] at this
    exact⟨a,s,rfl,this.1.2,this.1.1.1⟩
 | .nd cs,_=>⟨40,_,rfl,by decide,by decide⟩
mutual
theorem C.inj:∀ {c d:C} {r r':List Nat},c.good=true→d.good=true→DlC r→DlC r'→c.txt++r=d.txt++r'→c=d∧r=r'
 | .tok a, .tok b,r,r',hc,hd,hr,hr',e=>by
   simp only[C.good,Bool.and_eq_true] at hc hd
   obtain⟨h1,h2⟩:=tok_inj hc.2 hd.2 hr hr' e
   exact⟨by rw[h1],h2⟩
 | .tok a, .nd ds,r,r',hc,hd,hr,hr',e=>by
   exfalso
   simp only[C.good,Bool.and_eq_true] at hc
   cases a with
   |nil=>simp at hc
   |cons x a=>
    simp only[C.txt,List.cons_append,List.cons.injEq] at e
    have:=hc.2
    simp only[List.all_cons,Bool.and_eq_true] at this
    rw[e.1] at this
    exact absurd this.1 (by decide)
 | .nd cs, .tok b,r,r',hc,hd,hr,hr',e=>by
   exfalso
   simp only[C.good,Bool.and_eq_true] at hd
   cases b with
   |nil=>simp at hd
   |cons x b=>
    simp only[C.txt,List.cons_append,List.cons.injEq] at e
    have:=hd.2
    simp only[List.all_cons,Bool.and_eq_true] at this
    rw[← e.1] at this
    exact absurd this.1 (by decide)
 | .nd cs, .nd ds,r,r',hc,hd,hr,hr',e=>by
   simp only[C.txt,List.cons_append,List.cons.injEq,true_and,List.append_assoc,List.nil_append] at e
   obtain⟨h1,h2⟩:=C.injs hc hd e
   exact⟨by rw[h1],h2⟩
theorem C.injs:∀ {cs ds:List C} {r r':List Nat},C.goods cs=true→C.goods ds=true→C.txts cs++41::r=C.txts ds++41::r'→cs=ds∧r=r'
 | [],[],_,_,_,_,e=>by simpa[C.txts] using e
 | [],d::ds,r,r',_,hd,e=>by
   exfalso
   simp only[C.goods,Bool.and_eq_true] at hd
   obtain⟨x,t,h1,h2,_⟩:=C.first hd.1
   simp only[C.txts,h1,List.nil_append,List.cons_append,List.cons.injEq] at e
   exact h2 e.1.symm
 |c::cs,[],r,r',hc,_,e=>by
  exfalso
  simp only[C.goods,Bool.and_eq_true] at hc
  obtain⟨x,t,h1,h2,_⟩:=C.first hc.1
  simp only[C.txts,h1,List.nil_append,List.cons_append,List.cons.injEq] at e
  exact h2 e.1
 |c::cs,d::ds,r,r',hc,hd,e=>by
  simp only[C.goods,Bool.and_eq_true] at hc hd
  simp only[C.txts,List.append_assoc] at e
  obtain⟨h1,h2⟩:=C.inj hc.1 hd.1 (DlC.more cs r) (DlC.more ds r') e
  obtain⟨h3,h4⟩:=C.injm hc.2 hd.2 h2
  exact⟨by rw[h1,h3],h4⟩
theorem C.injm:∀ {cs ds:List C} {r r':List Nat},C.goods cs=true→C.goods ds=true→C.more cs++41::r=C.more ds++41::r'→cs=ds∧r=r'
 | [],[],_,_,_,_,e=>by simpa[C.more] using e
 | [],d::ds,r,r',_,_,e=>by simp[C.more] at e
 |c::cs,[],r,r',_,_,e=>by simp[C.more] at e
 |c::cs,d::ds,r,r',hc,hd,e=>by
  simp only[C.goods,Bool.and_eq_true] at hc hd
  simp only[C.more,List.cons_append,List.cons.injEq,true_and,List.append_assoc] at e
  obtain⟨h1,h2⟩:=C.inj hc.1 hd.1 (DlC.more cs r) (DlC.more ds r') e
  obtain⟨h3,h4⟩:=C.injm hc.2 hd.2 h2
  exact⟨by rw[h1,h3],h4⟩
end
theorem C.txt_inj {c d:C} (hc:c.good=true) (hd:d.good=true) (e:c.txt=d.txt):c=d:=
 (C.inj (r:= []) (r':= []) hc hd (.inl rfl) (.inl rfl) (by simpa using e)).1
theorem C.goods_all:∀ {cs:List C},C.goods cs=true↔∀c ∈ cs,c.good=true
 | [] =>by simp[C.goods]
 |c::cs=>by simp[C.goods,C.goods_all (cs:=cs)]
def leL (a b:List Nat):Bool:=decide (a≤b)
def srtC (cs:List C):List C:=cs.mergeSort fun a b=>leL a.txt b.txt
theorem leL_trans (a b c:List Nat):leL a b=true→leL b c=true→leL a c=true:=by
 simp only[leL,decide_eq_true_eq];exact fun h1 h2=>List.le_trans h1 h2
theorem leL_total (a b:List Nat):(leL a b || leL b a)=true:=by
 simp only[leL,Bool.or_eq_true,decide_eq_true_eq];exact List.le_total a b
theorem leL_anti {a b:List Nat} (h1:leL a b=true) (h2:leL b a=true):a=b:=by
 simp only[leL,decide_eq_true_eq] at h1 h2;exact List.le_antisymm h1 h2
theorem srtC_perm (cs:List C):(srtC cs).Perm cs:=List.mergeSort_perm _ _
theorem srtC_eq {cs ds:List C} (hc:C.goods cs=true) (hd:C.goods ds=true):srtC cs=srtC ds↔cs.Perm ds:=by
 constructor
 ·intro e
  exact(srtC_perm cs).symm.trans (e▸srtC_perm ds)
 ·intro p
  have p2:(srtC cs).Perm (srtC ds):=(srtC_perm cs).trans (p.trans (srtC_perm ds).symm)
  refine List.Perm.eq_of_pairwise (le:=fun a b:C=>leL a.txt b.txt=true) (fun a b ha hb h1 h2=> ?_) ?_ ?_ p2
  ·have ha':=C.goods_all.mp hc a ((srtC_perm cs).mem_iff.mp ha)
   have hb':=C.goods_all.mp hd b ((srtC_perm ds).mem_iff.mp hb)
   exact C.txt_inj ha' hb' (leL_anti h1 h2)
  ·exact List.pairwise_mergeSort (fun a b c h1 h2=>leL_trans a.txt b.txt c.txt h1 h2) (fun a b=>leL_total a.txt b.txt) cs
  ·exact List.pairwise_mergeSort (fun a b c h1 h2=>leL_trans a.txt b.txt c.txt h1 h2) (fun a b=>leL_total a.txt b.txt) ds
end L3
namespace L3
open PySem L2
def mNameForm:SD:=
    sSeq (sFor (iArgs erevA (aCons (eVar 1) (aNil))) (gTup [3,4]) (sIf (tOfE (e2 eqD (eVar 4) (eVar 0))) (sRet (eJn [eK (.str "#"),e1 fmtD (eVar 3)])) (sSkip)))
    (sRet (eBM "dict" dgetD (eVar 2) (aCons (eVar 0) (aCons (eVar 0) (aNil)))))
def mFormBy (nf f:FN):SD:=
    sSeq (sAsg (eVar 0) (gTup [3,4,5]))
    (sSeq (sIf (tOfE (e2 eqD (eVar 3) (eK (.str "num")))) (sRet (eN strD (aCons (eVar 4) (aNil)))) (sSkip))
    (sSeq (sIf (tOfE (e2 eqD (eVar 3) (eK (.str "name")))) (sRet (eN (callK nf []) (aCons (eVar 4) (aCons (eVar 1) (aCons (eVar 2) (aNil)))))) (sSkip))
    (sSeq (sIf (tAnd (tOfE (e2 eqD (eVar 5) (eN mkTup (aNil)))) (tOfE (e2 neD (eVar 4) (eK (.str ""))))) (sRet (eJn [eK (.str "("),e1 fmtD (eVar 3),eK (.str " "),e1 fmtD (eVar 4),eK (.str ")")])) (sSkip))
    (sSeq (sAsg (eVar 1) (gName 6))
    (sSeq (sAsg (eN mkObj (aNil)) (gName 7))
    (sSeq (sFor (iArgs enumA (aCons (eVar 5) (aNil))) (gTup [8,9]) (sSeq (sIf (tAnd (tOfE (e2 inD (eVar 3) (eK (.tup [(.str "let"),(.str "each")])))) (tOfE (e2 eqD (eVar 8) (eK (.int 1))))) (sAsg (e2 addD (eVar 1) (eN mkTup (aCons (eVar 4) (aNil)))) (gName 6)) (sSkip))
    (sExpr (eBM "list" appendD (eVar 7) (aCons (eN (callK f []) (aCons (eVar 9) (aCons (eVar 6) (aCons (eVar 2) (aNil))))) (aNil))))))
    (sSeq (sIf (tOfE (e2 inD (eVar 3) (eK (.tup [(.str "plus"),(.str "times"),(.str "most")])))) (sAsg (eN sortedD (aCons (eVar 7) (aNil))) (gName 7)) (sSkip))
    (sRet (e2 addD (e2 addD (eK (.str "(")) (eBM "str" joinD (eK (.str " ")) (aCons (e2 addD (eN mkLst (aCons (eVar 3) (aNil))) (eVar 7)) (aNil)))) (eK (.str ")")))))))))))
def mFormOf (fb:FN):SD:=
    sRet (eN (callK fb []) (aCons (eVar 0) (aCons (eN mkTup (aNil)) (aCons (eDic0) (aNil)))))
def mAreAlike (fo:FN):SD:=
    sRet (e2 eqD (eN (callK fo []) (aCons (eVar 0) (aNil))) (eN (callK fo []) (aCons (eVar 1) (aNil))))
def T (l:List Nat):Str:=⟨l.toArray⟩
theorem T_cps (l:List Nat):(T l).cps.toList=l:=by simp[T]
theorem T_len (l:List Nat):(T l).length=l.length:=by show l.toArray.size=_;simp
theorem T_app (a b:List Nat):T a++T b=T (a++b):=by
 apply TL.ext_tl
 show((T a).cps++(T b).cps).toList=(T (a++b)).cps.toList
 simp[T]
theorem T_of (s:Str):T s.cps.toList=s:=by apply TL.ext_tl;show(T s.cps.toList).cps.toList=s.cps.toList;rw[T_cps]
theorem T_inj {a b:List Nat} (h:T a=T b):a=b:=by rw[← T_cps a,h,T_cps]
def lowL (l:List Nat):Bool:=l.all fun c=>decide (c<128)
theorem T_ok {l:List Nat} (h:lowL l=true):PyData.strOk (T l)=true:=by
 unfold PyData.strOk
 rw[← Array.all_toList,List.all_eq_true,T_cps]
 intro c hc
 have:=List.all_eq_true.mp h c hc
 simp only[decide_eq_true_eq] at this ⊢;omega
def dg (i:Int):List Nat:=(toString i).toList.map Char.toNat
theorem dg_T (i:Int):((toString i:String):Str)=T (dg i):=by
 apply TL.ext_tl
 show(Str.ofString (toString i)).cps.toList=(T (dg i)).cps.toList
 rw[tl_of,T_cps];rfl
theorem dg_sign {i:Int} :∀c ∈ dg i,45≤c∧c<128:=fun c hc=>by
 obtain⟨d,hd,rfl⟩:=List.mem_map.mp hc
 exact⟨int_signs i d hd,int_low i d hd⟩
theorem dg_len {i:Int} (h:i.natAbs<10 ^ 5):(dg i).length≤9:=by
 have:=(str_int h).1
 rw[dg_T,T_len] at this
 exact this
theorem dg_ne (i:Int):dg i≠ [] :=by
 intro h
 have e:=dg_T i
 rw[h] at e
 have:(toString i).toList= [] :=by
  unfold dg at h
  exact List.map_eq_nil_iff.mp h
 have h2:∀n:Nat,(Nat.repr n).toList≠ [] :=fun n h=>by
  rw[Nat.toList_repr] at h
  have:=Nat.toDigits_ne_nil (b:=10) (n:=n)
  first|exact this h|(exact absurd h (by simp[Nat.toDigits]))
 rw[Int.toString_eq_repr,Int.repr_eq_if] at this
 split at this
 ·exact h2 _ this
 ·simp at this
def ixS (s:Str):List Str→Option Nat
 | [] =>none
 |x::xs=>if x=s then some 0 else(ixS s xs).map (· +1)
theorem ixS_lt {s:Str} :∀ {l:List Str} {k:Nat},ixS s l=some k→k<l.length
 | [],k,h=>by cases h
 |x::xs,k,h=>by
  simp only[ixS] at h
  split at h
  ·cases h;simp
  ·obtain⟨j,hj,rfl⟩:=Option.map_eq_some_iff.mp h
   have:=ixS_lt hj
   simp;omega
def nmF (s:Str) (g:List Str) (o:Str→List Nat):List Nat:=match ixS s g.reverse with
 |some k=>35::dg (k:Nat)
 |none=>o s
def ordC (w:Str) (cs:List C):List C:=if isHeap w=true then srtC cs else cs
def gvn (w m:Str) (g:List Str):List Str:=if w ∈ GIV then g++ [m] else g
mutual
/-- a thing's form,as a tree -/
def cF:Tm→List Str→(Str→List Nat)→C
 | .num i,_,_=> .tok (dg i)
 | .nam s,g,o=> .tok (nmF s g o)
 | .nd w m ps,g,o=> .nd (.tok w.cps.toList::ordC w (match ps with
    | [] => []
    |p::ps=>cF p g o::cFl ps (gvn w m g) o))
def cFl:List Tm→List Str→(Str→List Nat)→List C
 | [],_,_=> []
 |p::ps,g,o=>cF p g o::cFl ps g o
end
def pF (w m:Str) (g:List Str) (o:Str→List Nat):List Tm→List C
 | [] => []
 |p::ps=>cF p g o::cFl ps (gvn w m g) o
theorem cF_nd (w m:Str) (ps:List Tm) (g:List Str) (o:Str→List Nat):cF (.nd w m ps) g o= .nd (.tok w.cps.toList::ordC w (pF w m g o ps)):=by
 cases ps<;>simp only[cF,pF]
theorem cFl_map:∀(ps:List Tm) (g:List Str) (o:Str→List Nat),cFl ps g o=ps.map fun p=>cF p g o
 | [],_,_=>rfl
 |p::ps,g,o=>by simp only[cFl,List.map_cons,cFl_map ps g o]
theorem pF_len (w m:Str) (g:List Str) (o:Str→List Nat) (ps:List Tm):(pF w m g o ps).length=ps.length:=by
 cases ps<;>simp[pF,cFl_map]
theorem pF_get {w m:Str} {g:List Str} {o:Str→List Nat} {ps:List Tm} {j:Nat} (h:j<ps.length):(pF w m g o ps)[j]'(by rw[pF_len];exact h)=cF ps[j] (if 1≤j then gvn w m g else g) o:=by
 cases ps with
 |nil=>simp at h
 |cons p ps=>
  cases j with
  |zero=>simp[pF]
  |succ j=>simp[pF,cFl_map]
def Og (o:Str→List Nat):Prop:=∀s,NameOk s→o s≠ [] ∧(o s).all wsg=true∧lowL (o s)=true∧(o s).length≤60
theorem name_wsg {s:Str} (h:NameOk s):s.cps.toList≠ [] ∧s.cps.toList.all wsg=true∧lowL s.cps.toList=true∧s.cps.toList.length≤8:=by
 have hl:∀c ∈ s.cps.toList,97≤c∧c≤122:=fun c hc=>by
  have:=List.all_eq_true.mp h.lt c hc
  simpa[isLet] using this
 refine⟨fun e=> ?_,?_,?_,?_⟩
 ·have:=h.lo
  have e2:s.cps.toList.length=s.length:=by simp[Str.length]
  rw[e] at e2;simp at e2;omega
 ·rw[List.all_eq_true];intro c hc
  have:=hl c hc
  simp[wsg];omega
 ·unfold lowL;rw[List.all_eq_true];intro c hc
  have:=hl c hc
  simp;omega
 ·have:=h.hi
  simpa[Str.length] using this
theorem Og.plain:Og fun s=>s.cps.toList:=fun s h=>by
 obtain⟨a,b,c,d⟩:=name_wsg h
 exact⟨a,b,c,Nat.le_trans d (by decide)⟩
theorem dg_wsg {i:Int} :(dg i).all wsg=true∧lowL (dg i)=true:=by
 constructor
 ·rw[List.all_eq_true];intro c hc
  have:=dg_sign c hc
  simp[wsg];omega
 ·unfold lowL;rw[List.all_eq_true];intro c hc
  have:=dg_sign c hc
  simp;omega
theorem nmF_ok {s:Str} {g:List Str} {o:Str→List Nat} (hs:NameOk s) (ho:Og o) (hg:g.length≤100):nmF s g o≠ [] ∧(nmF s g o).all wsg=true∧lowL (nmF s g o)=true∧(nmF s g o).length≤60:=by
 unfold nmF
 cases h:ixS s g.reverse with
 |none=>exact ho s hs
 |some k=>
  have hk:=ixS_lt h
  rw[List.length_reverse] at hk
  have:=dg_wsg (i:=(k:Nat))
  have hl:=dg_len (i:=((k:Nat):Int)) (by omega)
  refine⟨by simp,?_,?_,by simp;omega⟩
  ·simp only[List.all_cons,this.1,Bool.and_true];decide
  ·have:=this.2
   unfold lowL at this ⊢
   simp only[List.all_cons,this,Bool.and_true];decide
theorem word_wsg:∀w ∈ WORDS,w.cps.toList≠ [] ∧w.cps.toList.all wsg=true∧lowL w.cps.toList=true∧w.cps.toList.length≤8:=by decide +kernel
theorem shape_giv {w:Str} {f mo:Nat} {g:Bool} (h:shape w=some (f,mo,g)):(w ∈ GIV↔g=true)∧(g=true→f=2∧mo=2):=by
 have all:WORDS.all (fun w=>match shape w with
  |some (f,mo,g)=>(decide (w ∈ GIV)==g)&&(!g || (decide (f=2)&&decide (mo=2)))
  |none=>true)=true:=by decide +kernel
 have:=List.all_eq_true.mp all w (shape_word h).1
 rw[h] at this
 simp only[Bool.and_eq_true,beq_iff_eq,Bool.or_eq_true,Bool.not_eq_true',decide_eq_true_eq] at this
 obtain⟨h1,h2⟩:=this
 refine⟨by rw[← h1];simp,fun hg=> ?_⟩
 rcases h2 with h2|h2
 ·rw[hg] at h2;cases h2
 ·exact h2
theorem Good.nd_word {w m:Str} {ps:List Tm} (h:Good (.nd w m ps)):w ∈ WORDS∧w≠ "num" ∧w≠ "name" ∧ps.length≤6∧(∀ p ∈ ps,Good p)∧(w ∈ GIV→NameOk m)∧(w ∉ GIV→m= "")∧¬(ps= [] ∧m≠ ""):=by
 cases h with
 | @nd w m ps f mo g hw hf hm hg hn hp=>
   have hs:=shape_word hw
   have hmo:=shape_most hw
   obtain⟨hgv,hg2⟩:=shape_giv hw
   refine⟨hs.1,hs.2.1,hs.2.2,by omega,hp,fun h=>hg (hgv.mp h),fun h=>hn ?_,?_⟩
   ·cases g with
    |false=>rfl
    |true=>exact absurd (hgv.mpr rfl) h
   ·rintro⟨rfl,hm0⟩
    cases g with
    |false=>exact hm0 (hn rfl)
    |true=>
     have:=(hg2 rfl).1
     simp at hf
     omega
theorem ordC_mem {w:Str} {cs:List C} {c:C} :c ∈ ordC w cs↔c ∈ cs:=by
 unfold ordC;split
 ·exact(srtC_perm cs).mem_iff
 ·exact Iff.rfl
theorem ordC_len (w:Str) (cs:List C):(ordC w cs).length=cs.length:=by
 unfold ordC;split
 ·exact(srtC_perm cs).length_eq
 ·rfl
mutual
theorem cF_good:∀ {t:Tm} {g:List Str} {o:Str→List Nat},Good t→Og o→g.length+t.dep≤100→(cF t g o).good=true
 | .num i,g,o,_,_,_=>by
   simp only[cF,C.good,Bool.and_eq_true,Bool.not_eq_true',List.isEmpty_eq_false_iff]
   exact⟨dg_ne i,dg_wsg.1⟩
 | .nam s,g,o,h,ho,hg=>by
   have hs:NameOk s:=by cases h;assumption
   obtain⟨a,b,_⟩:=nmF_ok (g:=g) hs ho (by omega)
   simp only[cF,C.good,Bool.and_eq_true,Bool.not_eq_true',List.isEmpty_eq_false_iff]
   exact⟨a,b⟩
 | .nd w m ps,g,o,h,ho,hg=>by
   obtain⟨h1,h2,h3,h4,h5,_⟩:=h.nd_word
   rw[cF_nd]
   simp only[C.good,C.goods,Bool.and_eq_true,Bool.not_eq_true',List.isEmpty_eq_false_iff]
   obtain⟨a,b,_⟩:=word_wsg w h1
   refine⟨⟨a,b⟩,C.goods_all.mpr fun c hc=> ?_⟩
   have hd:Tm.deps ps+g.length<100:=by simp only[Tm.dep] at hg;omega
   exact pF_good h5 ho hd c (ordC_mem.mp hc)
theorem pF_good:∀ {ps:List Tm} {w m:Str} {g:List Str} {o:Str→List Nat},(∀ p ∈ ps,Good p)→Og o→Tm.deps ps+g.length<100→∀c ∈ pF w m g o ps,c.good=true
 | [],_,_,_,_,_,_,_,c,hc=>by cases hc
 |p::ps,w,m,g,o,h,ho,hg,c,hc=>by
  simp only[Tm.deps] at hg
  simp only[pF,List.mem_cons] at hc
  rcases hc with rfl|hc
  ·exact cF_good (h p List.mem_cons_self) ho (by omega)
  ·have hl:(gvn w m g).length≤g.length+1:=by unfold gvn;split<;>simp
   exact cFl_good (fun q hq=>h q (List.mem_cons_of_mem _ hq)) ho (by omega) c hc
theorem cFl_good:∀ {ps:List Tm} {g:List Str} {o:Str→List Nat},(∀ p ∈ ps,Good p)→Og o→Tm.deps ps+g.length≤100→∀c ∈ cFl ps g o,c.good=true
 | [],_,_,_,_,_,c,hc=>by cases hc
 |p::ps,g,o,h,ho,hg,c,hc=>by
  simp only[Tm.deps] at hg
  simp only[cFl,List.mem_cons] at hc
  rcases hc with rfl|hc
  ·exact cF_good (h p List.mem_cons_self) ho (by omega)
  ·exact cFl_good (fun q hq=>h q (List.mem_cons_of_mem _ hq)) ho (by omega) c hc
end
theorem more_low:∀ {cs:List C},(∀ c ∈ cs,lowL c.txt=true)→lowL (C.more cs)=true
 | [],_=>rfl
 |c::cs,h=>by
  have h1:=h c List.mem_cons_self
  have h2:=more_low fun d hd=>h d (List.mem_cons_of_mem _ hd)
  unfold lowL at h1 h2 ⊢
  simp only[C.more,List.all_cons,List.all_append,h1,h2,Bool.and_true];decide
theorem nd_low {cs:List C} (h:∀c ∈ cs,lowL c.txt=true):lowL (C.nd cs).txt=true:=by
 cases cs with
 |nil=>decide
 |cons c cs=>
  have h1:=h c List.mem_cons_self
  have h2:=more_low fun d hd=>h d (List.mem_cons_of_mem _ hd)
  unfold lowL at h1 h2 ⊢
  simp only[C.txt,C.txts,List.all_cons,List.all_append,h1,h2,Bool.and_true,List.all_nil];decide
theorem more_len:∀cs:List C,(C.more cs).length=(cs.map fun c=>c.txt.length).sum+cs.length
 | [] =>rfl
 |c::cs=>by simp only[C.more,List.length_cons,List.length_append,more_len cs,List.map_cons,List.sum_cons];omega
theorem nd_len (c:C) (cs:List C):(C.nd (c::cs)).txt.length=c.txt.length+(cs.map fun c=>c.txt.length).sum+cs.length+2:=by
 simp only[C.txt,C.txts,List.length_cons,List.length_append,more_len,List.length_nil];omega
theorem sum_perm {cs ds:List C} (h:cs.Perm ds):(cs.map fun c=>c.txt.length).sum=(ds.map fun c=>c.txt.length).sum:=(h.map _).sum_nat
theorem ordC_sum (w:Str) (cs:List C):((ordC w cs).map fun c=>c.txt.length).sum=(cs.map fun c=>c.txt.length).sum:=by
 unfold ordC;split
 ·exact sum_perm (srtC_perm cs)
 ·rfl
mutual
theorem cF_low:∀ {t:Tm} {g:List Str} {o:Str→List Nat},Good t→Og o→g.length+t.dep≤100→lowL (cF t g o).txt=true∧(cF t g o).txt.length≤80*t.size
 | .num i,g,o,h,_,_=>by
   have hi:0≤i∧i≤9972:=by cases h;exact⟨by assumption,by assumption⟩
   have:=dg_len (i:=i) (by omega)
   simp only[cF,C.txt,Tm.size]
   exact⟨dg_wsg.2,by omega⟩
 | .nam s,g,o,h,ho,hg=>by
   have hs:NameOk s:=by cases h;assumption
   obtain⟨_,_,c,d⟩:=nmF_ok (g:=g) hs ho (by omega)
   simp only[cF,C.txt,Tm.size]
   exact⟨c,by omega⟩
 | .nd w m ps,g,o,h,ho,hg=>by
   obtain⟨h1,h2,h3,h4,h5,_⟩:=h.nd_word
   obtain⟨_,_,wl,wn⟩:=word_wsg w h1
   have hd:Tm.deps ps+g.length<100:=by simp only[Tm.dep] at hg;omega
   obtain⟨k1,k2⟩:=pF_low (w:=w) (m:=m) h5 ho hd
   rw[cF_nd]
   refine⟨nd_low fun c hc=> ?_,?_⟩
   ·rcases List.mem_cons.mp hc with rfl|hc
    ·exact wl
    ·exact k1 c (ordC_mem.mp hc)
   ·rw[nd_len,ordC_sum,ordC_len,pF_len]
    simp only[C.txt,Tm.size]
    omega
theorem pF_low:∀ {ps:List Tm} {w m:Str} {g:List Str} {o:Str→List Nat},(∀ p ∈ ps,Good p)→Og o→Tm.deps ps+g.length<100→(∀ c ∈ pF w m g o ps,lowL c.txt=true)∧((pF w m g o ps).map fun c=>c.txt.length).sum≤80*Tm.sizes ps
 | [],_,_,_,_,_,_,_=>⟨fun c hc=>(by cases hc),by simp[pF]⟩
 |p::ps,w,m,g,o,h,ho,hg=>by
  simp only[Tm.deps] at hg
  obtain⟨a1,a2⟩:=cF_low (g:=g) (o:=o) (h p List.mem_cons_self) ho (by omega)
  have hl:(gvn w m g).length≤g.length+1:=by unfold gvn;split<;>simp
  obtain⟨b1,b2⟩:=cFl_low (ps:=ps) (g:=gvn w m g) (o:=o) (fun q hq=>h q (List.mem_cons_of_mem _ hq)) ho (by omega)
  refine⟨fun c hc=> ?_,?_⟩
  ·simp only[pF,List.mem_cons] at hc
   rcases hc with rfl|hc
   ·exact a1
   ·exact b1 c hc
  ·simp only[pF,List.map_cons,List.sum_cons,Tm.sizes];omega
theorem cFl_low:∀ {ps:List Tm} {g:List Str} {o:Str→List Nat},(∀ p ∈ ps,Good p)→Og o→Tm.deps ps+g.length≤100→(∀ c ∈ cFl ps g o,lowL c.txt=true)∧((cFl ps g o).map fun c=>c.txt.length).sum≤80*Tm.sizes ps
 | [],_,_,_,_,_=>⟨fun c hc=>(by cases hc),by simp[cFl]⟩
 |p::ps,g,o,h,ho,hg=>by
  simp only[Tm.deps] at hg
  obtain⟨a1,a2⟩:=cF_low (g:=g) (o:=o) (h p List.mem_cons_self) ho (by omega)
  obtain⟨b1,b2⟩:=cFl_low (ps:=ps) (g:=g) (o:=o) (fun q hq=>h q (List.mem_cons_of_mem _ hq)) ho (by omega)
  refine⟨fun c hc=> ?_,?_⟩
  ·simp only[cFl,List.mem_cons] at hc
   rcases hc with rfl|hc
   ·exact a1
   ·exact b1 c hc
  ·simp only[cFl,List.map_cons,List.sum_cons,Tm.sizes];omega
end
end L3
namespace L3
open PySem L2
def OD (od:D) (o:Str→List Nat):Prop:=(∀ S,mtD od S=some "dict")∧∀(s:Str) (S:Store),NameOk s→dgetD od [.str s, .str s] S= .ok (.str (T (o s))) S
theorem OD.plain:OD (.dic [] []) fun s=>s.cps.toList:=by
 refine⟨fun S=>rfl,fun s S h=> ?_⟩
 rw[T_of]
 rfl
def IsNF (f:FN):Prop:=∀(s:Str) (g:List Str) (od:D) (o:Str→List Nat) (S:Store),NameOk s→g.length≤100→OD od o→f [.str s, .tup (g.map .str),od] S= .ok (.str (T (nmF s g o))) S
theorem jn_num {env:EnvD} {S:Store} {k:Nat} (h:env[3]? =some (some (.int (k:Nat)))) (hk:k≤100):eJn [eK (.str "#"),e1 fmtD (eVar 3)] env S= .ok (.str (T (35::dg (k:Nat)))) S:=by
 have e1':fmtD (.int (k:Nat)) S= .ok (.str (toString (k:Int))) S:=by
  unfold fmtD
  simp only
  rw[if_pos]
  rw[Int.natAbs_natCast]
  by_cases z:k=0
  ·rw[z];decide
  ·exact Nat.lt_trans ((Nat.log2_lt z).mpr (Nat.lt_of_le_of_lt hk (by decide:100<2 ^ 20))) (by decide)
 have h0:Str.empty++("#" :Str)=T [35] :=by decide +kernel
 have hl:=dg_len (i:=((k:Nat):Int)) (by omega)
 simp only[eJn,jnGo,eK,R.bind,h0,e1,eVar,h,e1',dg_T]
 rw[if_pos (by rw[T_len];exact small (by simp))]
 rw[T_app,if_pos (by rw[T_len];exact small (by simp;omega))]
 rfl
theorem nf_for {N:EnvD→Store→Prop} {TT:D→Store→Prop} {B C:EnvD→Store→Prop} {s:Str} {z1 z2:Option D} {S:Store} :∀ {l:List Str} {k:Nat} {a b:Option D},k+l.length≤100→
 (match ixS s l with
   |some j=>TT (.str (T (35::dg ((k+j:Nat):Int)))) S
   |none=>∀a b,N [some (.str s),z1,z2,a,b] S)→
 (forL (gTup [3,4]) (sIf (tOfE (e2 eqD (eVar 4) (eVar 0))) (sRet (eJn [eK (.str "#"),e1 fmtD (eVar 3)])) (sSkip)) (enumL k (l.map .str)) [some (.str s),z1,z2,a,b] S).sat N TT B C
 | [],k,a,b,_,h=>by
   rw[List.map_nil]
   show(forL _ _ [] _ _).sat _ _ _ _
   rw[forL_nil]
   exact h a b
 |x::l,k,a,b,hk,h=>by
  simp only[List.length_cons] at hk
  rw[List.map_cons]
  show(forL _ _ (.tup [.int (k:Nat), .str x] ::enumL (k+1) (l.map .str)) _ _).sat _ _ _ _
  rw[forL_cons]
  simp only[gTup_tup,gNames_cons,gNames_nil,ssat_nx,List.set_cons_succ,List.set_cons_zero,ssat_if,sat_tOfE,sat_e2,sat_eVar,List.getElem?_cons_succ,List.getElem?_cons_zero,eq_strs,sat_ok,blD_bl]
  simp only[ixS] at h
  by_cases hx:x=s
  ·rw[if_pos hx] at h
   rw[show (x==s)=true by simp[hx],if_pos rfl,ssat_sRet]
   exact to_sat (jn_num rfl (by omega)) h
  ·rw[if_neg hx] at h
   rw[show (x==s)=false by simp[hx],if_neg Bool.false_ne_true,ssat_skip]
   refine nf_for (by omega) ?_
   cases hi:ixS s l with
   |none=>rw[hi] at h;exact h
   |some j=>
    rw[hi] at h
    simp only[Option.map_some] at h
    simp only
    rw[show k+1+j=k+(j+1) by omega];exact h
theorem isNF:IsNF (run 3 5 mNameForm):=fun s g od o S hs hg ho=>by
 apply of_sat
 rw[sat_run]
 refine⟨rfl,?_⟩
 unfold mNameForm
 simp only[List.map_cons,List.map_nil,List.cons_append,List.nil_append,List.length_cons,List.length_nil,List.replicate,Nat.zero_add,Nat.reduceAdd,Nat.reduceSub]
 rw[ssat_seq,ssat_for,sat_iArgs]
 simp only[sat_aCons,sat_aNil,sat_eVar,List.getElem?_cons_succ,List.getElem?_cons_zero]
 rw[show erevA [.tup (g.map .str)] S= .ok (enumL 0 (g.map D.str).reverse) S from rfl,sat_ok,←List.map_reverse]
 refine nf_for (by simpa using hg) ?_
 unfold nmF
 cases hi:ixS s g.reverse with
 |some k=>simp only[Nat.zero_add];exact⟨trivial,trivial⟩
 |none=>
  intro a b
  simp only[ssat_sRet,sat_eBM,sat_eVar,sat_aCons,sat_aNil,List.getElem?_cons_succ,List.getElem?_cons_zero]
  exact⟨ho.1 S,to_sat (ho.2 s S hs) ⟨rfl,rfl⟩⟩
def IsFB (f:FN) (k:Nat):Prop:=∀(t:Tm) (g:List Str) (od:D) (o:Str→List Nat) (S:Store),Good t→t.dep≤k→t.size≤1000→g.length+t.dep≤100→OD od o→Og o→(f [t.d, .tup (g.map .str),od] S).sat fun x S'=>x= .str (T (cF t g o).txt)∧Grw S S'
theorem isFB0 (f:FN):IsFB f 0:=fun t _ _ _ _ _ h=>by have:=t.dep_pos;omega
theorem sortOk_strs {l:List Str} (h:∀s ∈ l,PyData.strOk s=true) (hl:l.length≤1000):sortOk (l.map .str)=true:=by
 have tp:∀s ∈ l,toPy (.str s)=some (.str s):=fun s hs=>by simp[toPy,h s hs]
 have ec:∀s ∈ l,encD (.str s)= .str s:=fun s hs=>by simp[encD,tp s hs]
 simp only[sortOk,Bool.and_eq_true,List.all_eq_true,decide_eq_true_eq,Bool.or_eq_true]
 refine⟨⟨⟨small (by simpa using hl),fun d hd=> ?_⟩,fun d hd e he=> ?_⟩, .inl (.inr fun d hd=> ?_)⟩
 ·obtain⟨s,hs,rfl⟩:=List.mem_map.mp hd
  rw[tp s hs,ec s hs];exact⟨rfl,by simp[PyData.depth]⟩
 ·obtain⟨s,hs,rfl⟩:=List.mem_map.mp hd
  obtain⟨s',hs',rfl⟩:=List.mem_map.mp he
  rw[ec s hs,ec s' hs'];simp[PySem.W.alike]
 ·obtain⟨s,hs,rfl⟩:=List.mem_map.mp hd
  rw[ec s hs];rfl
def txD (c:C):D:= .str (T c.txt)
theorem sort_txts {cs:List C} (h:∀c ∈ cs,lowL c.txt=true):sortL (cs.map txD)=(srtC cs).map txD:=by
 unfold sortL srtC
 refine(List.map_mergeSort (f:=txD) fun a ha b hb=> ?_).symm
 have e:∀c ∈ cs,encD (txD c)= .str (T c.txt):=fun c hc=>by simp[encD,txD,toPy,T_ok (h c hc)]
 unfold srtLe
 rw[e a ha,e b hb]
 show leL a.txt b.txt= !PySem.W.dataLt (.str (T b.txt)) (.str (T a.txt))
 rw[show PySem.W.dataLt (.str (T b.txt)) (.str (T a.txt))=decide ((T b.txt).cps.toList<(T a.txt).cps.toList) from PySem.W.dataLt_str _ _]
 rw[T_cps,T_cps]
 unfold leL
 rw[Bool.eq_iff_iff]
 simp only[decide_eq_true_eq,Bool.not_eq_true',decide_eq_false_iff_not,List.not_lt]
theorem txts_join:∀cs:List C,C.txts cs=TL.joinL [32] (cs.map C.txt)
 | [] =>rfl
 | [c] =>by simp[C.txts,C.more,TL.joinL]
 |c::d::cs=>by
  have ih:=txts_join (d::cs)
  simp only[C.txts] at ih
  simp only[List.map_cons] at ih ⊢
  simp only[C.txts,C.more,TL.joinL,←ih]
  rfl
theorem join_T (cs:List C):Txt.join " " (cs.map fun c=>T c.txt)=T (C.txts cs):=by
 rw[TL.join_eq]
 apply TL.ext_tl
 rw[TL.tl_join]
 show _=(T (C.txts cs)).cps.toList
 rw[T_cps,txts_join,List.map_map]
 have:TL.tl (" " :Str)= [32] :=by decide +kernel
 rw[this]
 congr 1
 first|(apply List.map_congr_left;intro c _;exact T_cps _)|skip
theorem strs_txD (cs:List C):allStrs (cs.map txD)=some (cs.map fun c=>T c.txt):=by
 have:=strs_map (cs.map fun c=>T c.txt)
 rw[List.map_map] at this
 exact this
theorem in_giv {w:Str} (h:w ∈ WORDS) {S:Store} :inD (.str w) (.tup [.str "let", .str "each"]) S= .ok (.bl (decide (w ∈ GIV))) S:=
 inG (by
  revert h
  have:∀w ∈ WORDS,PyData.strOk w=true:=by decide +kernel
  exact this w)
theorem join_ret {w:Str} {cs:List C} {S:Store} {x:D} {env:EnvD} (e3:env[3]? =some (some (.str w))) (e7:env[7]? =some (some x)) (hx:asL x S=some (cs.map txD)) (hl:w.length+(cs.map fun c=>c.txt.length).sum+cs.length≤1000000) (hw:lowL w.cps.toList=true):
 (e2 addD (e2 addD (eK (.str "(")) (eBM "str" joinD (eK (.str " ")) (aCons (e2 addD (eN mkLst (aCons (eVar 3) (aNil))) (eVar 7)) (aNil)))) (eK (.str ")"))) env S= .ok (.str (T (C.nd (.tok w.cps.toList::cs)).txt)) S:=by
 apply of_sat
 have hz:∀ {k:Nat},k≤2000000→k≤sizeLine:=fun h=>Nat.le_trans h (by decide)
 simp only[sat_e2,sat_eK,sat_eBM,sat_aCons,sat_aNil,sat_eN,sat_eVar,e3,e7,sat_mkLst]
 refine⟨rfl,small (by simp),?_⟩
 have ea:addD (.lst [.str w]) x S= .ok (.lst (.str w::cs.map txD)) S:=by
  have h1:asL (.lst [.str w]) S=some [.str w] :=rfl
  have hcl:([D.str w].length+(cs.map txD).length)≤sizeLine:=hz (by simp;omega)
  cases x with
  |lst l=>
   have:l=cs.map txD:=by simpa[asL] using hx
   subst this
   rw[add_lst hcl];rfl
  |obj n=>
   unfold addD
   simp only[h1,hx]
   rw[if_pos hcl];rfl
  | _=>cases hx
 rw[ea,sat_ok]
 have hs:allStrs (.str w::cs.map txD)=some (w::cs.map fun c=>T c.txt):=by
  have:=strs_txD (.tok w.cps.toList::cs)
  simp only[List.map_cons,txD,C.txt,T_of] at this
  exact this
 have hsum:((w::cs.map fun c=>T c.txt).map (·.length)).sum=w.length+(cs.map fun c=>c.txt.length).sum:=by
  rw[List.map_cons,List.sum_cons,List.map_map]
  congr 2
 have ej:joinD (.str " ") [.lst (.str w::cs.map txD)] S= .ok (.str (T (C.txts (.tok w.cps.toList::cs)))) S:=by
  have hj:=join_T (.tok w.cps.toList::cs)
  simp only[List.map_cons,C.txt,T_of] at hj
  unfold joinD
  simp only[asS,asL,Option.bind,hs]
  rw[if_pos]
  ·rw[hj]
  ·rw[hsum]
   have:(" " :Str).length=1:=by decide +kernel
   rw[this]
   simp only[List.length_cons,List.length_map]
   omega
 rw[ej,sat_ok]
 have hlen:(C.txts (.tok w.cps.toList::cs)).length=w.length+(cs.map fun c=>c.txt.length).sum+cs.length:=by
  simp only[C.txts,C.txt,List.length_append,more_len]
  have:w.cps.toList.length=w.length:=by simp[Str.length]
  omega
 have ep:("(" :Str)=T [40] :=by decide +kernel
 have eq:(")" :Str)=T [41] :=by decide +kernel
 rw[ep,eq,add_str (hz (by rw[T_len,T_len];simp;omega)),sat_ok,T_app,add_str (hz (by rw[T_len,T_len];simp;omega)),sat_ok,T_app]
 exact⟨by simp only[C.txt,List.cons_append,List.nil_append],rfl⟩
theorem isFB {nf f:FN} {k:Nat} (hn:IsNF nf) (hf:IsFB f k):IsFB (run 3 10 (mFormBy nf f)) (k+1):=fun t g od o S ht hd hs hg ho hog=>by
 rw[sat_run]
 refine⟨rfl,?_⟩
 unfold mFormBy
 simp only[List.map_cons,List.map_nil,List.cons_append,List.nil_append,List.length_cons,List.length_nil,List.replicate,Nat.zero_add,Nat.reduceAdd,Nat.reduceSub]
 refine step_asg (S1:=S) (S2:=S) (d:=t.d) (env':= [some t.d,some (.tup (g.map .str)),some od,some t.w,some t.m,some (.tup (Tm.ds t.parts)),none,none,none,none]) rfl (by
  have:gTup [3,4,5] (.tup [t.w,t.m, .tup (Tm.ds t.parts)]) [some t.d,some (.tup (g.map .str)),some od,none,none,none,none,none,none,none] S= .nx [some t.d,some (.tup (g.map .str)),some od,some t.w,some t.m,some (.tup (Tm.ds t.parts)),none,none,none,none] S:=rfl
  rw[← Tm.d_eq] at this
  exact this) ?_
 cases t with
 |num i=>
  have hi:0≤i∧i≤9972:=by cases ht;exact⟨by assumption,by assumption⟩
  refine step_ret (S1:=S) (of_sat (by simp only[Tm.w,sat_tOfE,sat_e2,sat_eVar,sat_eK,List.getElem?_cons_succ,List.getElem?_cons_zero,eq_strs,sat_ok,blD_bl];exact⟨by decide +kernel,trivial⟩)) ?_
  simp only[Tm.m,sat_eN,sat_aCons,sat_aNil,sat_eVar,List.getElem?_cons_succ,List.getElem?_cons_zero]
  have e3:strD [.int i] S= .ok (.str (toString i)) S:=by
   unfold strD
   simp only
   rw[if_pos]
   by_cases z:i.natAbs=0
   ·rw[z];decide
   ·exact Nat.lt_trans ((Nat.log2_lt z).mpr (Nat.lt_trans (by omega:i.natAbs<10 ^ 5) (by decide:(10:Nat) ^ 5<2 ^ 20))) (by decide)
  rw[e3,sat_ok,dg_T]
  exact⟨by simp only[cF,C.txt], .refl⟩
 |nam s=>
  have hss:NameOk s:=by cases ht;assumption
  refine step_no (S1:=S) (of_sat (by simp only[Tm.w,sat_tOfE,sat_e2,sat_eVar,sat_eK,List.getElem?_cons_succ,List.getElem?_cons_zero,eq_strs,sat_ok,blD_bl];exact⟨by decide +kernel,trivial⟩)) ?_
  refine step_ret (S1:=S) (of_sat (by simp only[Tm.w,sat_tOfE,sat_e2,sat_eVar,sat_eK,List.getElem?_cons_succ,List.getElem?_cons_zero,eq_strs,sat_ok,blD_bl];exact⟨by decide +kernel,trivial⟩)) ?_
  simp only[Tm.m,sat_eN,sat_aCons,sat_aNil,sat_eVar,List.getElem?_cons_succ,List.getElem?_cons_zero,callK_eq,List.append_nil]
  rw[hn s g od o S hss (by omega) ho,sat_ok]
  exact⟨by simp only[cF,C.txt], .refl⟩
 |nd w m ps=>
  obtain⟨h1,h2,h3,h4,h5,h6,h7,h8⟩:=ht.nd_word
  obtain⟨_,_,wlow,wn⟩:=word_wsg w h1
  simp only[Tm.w,Tm.m,Tm.parts]
  have hdp:Tm.deps ps+g.length<100:=by simp only[Tm.dep] at hg;omega
  have hdk:∀p ∈ ps,p.dep≤k:=Tm.deps_le.mp (by simp only[Tm.dep] at hd;omega)
  have hsz:∀p ∈ ps,p.size≤1000:=fun p hp=>by have:=Tm.sizes_mem hp;simp only[Tm.size] at hs;omega
  obtain⟨plow,psum⟩:=pF_low (w:=w) (m:=m) (o:=o) h5 hog hdp
  have hss:Tm.sizes ps≤1000:=by simp only[Tm.size] at hs;omega
  refine step_no (S1:=S) (of_sat (by simp only[sat_tOfE,sat_e2,sat_eVar,sat_eK,List.getElem?_cons_succ,List.getElem?_cons_zero,eq_strs,sat_ok,blD_bl];exact⟨by simp[h2],trivial⟩)) ?_
  refine step_no (S1:=S) (of_sat (by simp only[sat_tOfE,sat_e2,sat_eVar,sat_eK,List.getElem?_cons_succ,List.getElem?_cons_zero,eq_strs,sat_ok,blD_bl];exact⟨by simp[h3],trivial⟩)) ?_
  refine step_no (S1:=S) (of_sat (by
   simp only[sat_tAnd,sat_tOfE,sat_e2,sat_eN,sat_aNil,sat_eVar,sat_eK,List.getElem?_cons_succ,List.getElem?_cons_zero,sat_mkTup]
   refine⟨small (by simp),?_⟩
   rw[eq_tup0,sat_ok,blD_bl,sat_ok]
   cases ps with
   |nil=>
    have:m= "" :=by
     by_cases hm:m= ""
     ·exact hm
     ·exact absurd ⟨rfl,hm⟩ h8
    subst this
    simp only[Tm.ds,List.isEmpty_nil,if_true,ne_strs,sat_ok,blD_bl,beq_self_eq_true,Bool.not_true]
    exact⟨trivial,trivial⟩
   |cons p ps=>simp only[Tm.ds,List.isEmpty_cons,Bool.false_eq_true,if_false];exact⟨trivial,trivial⟩)) ?_
  refine step_asg (S1:=S) (S2:=S) (d:= .tup (g.map .str)) rfl rfl ?_
  simp only[List.set_cons_succ,List.set_cons_zero]
  refine step_asg (S1:=S++ [.lst []]) (S2:=S++ [.lst []]) (d:= .obj S.length) rfl rfl ?_
  simp only[List.set_cons_succ,List.set_cons_zero]
  refine seq_rule (fun e S1=>∃a6 a8 a9:Option D,e= [some (Tm.nd w m ps).d,some (.tup (g.map .str)),some od,some (.str w),some (.str m),some (.tup (Tm.ds ps)),a6,some (.obj S.length),a8,a9] ∧(∃ TT,S1=S++ .lst ((pF w m g o ps).map txD)::TT)) ?_ ?_
  ·rw[ssat_for,sat_iArgs]
   simp only[sat_aCons,sat_aNil,sat_eVar,List.getElem?_cons_succ,List.getElem?_cons_zero]
   rw[show enumA [.tup (Tm.ds ps)] (S++ [.lst []])= .ok (enumL 0 (Tm.ds ps)) (S++ [.lst []]) from rfl,sat_ok]
   refine for_rule (fun j e S1=>∃a8 a9:Option D,e= [some (Tm.nd w m ps).d,some (.tup (g.map .str)),some od,some (.str w),some (.str m),some (.tup (Tm.ds ps)),some (.tup ((if 2≤j then gvn w m g else g).map .str)),some (.obj S.length),a8,a9] ∧(∃ TT,S1=S++ .lst (((pF w m g o ps).take j).map txD)::TT)) ⟨_,_,rfl,[],by simp⟩ ?_ ?_
   ·rintro j hj e S1 ⟨a8,a9,rfl,TT,rfl⟩
    rw[enumL_len,Tm.ds_len] at hj
    have hx:(enumL 0 (Tm.ds ps))[j]'(by rw [enumL_len, Tm.ds_len]; exact hj) = .tup [.int (j : Nat), (ps[j]'hj).d] :=by
     have h0:=List.getElem?_eq_getElem (l:=enumL 0 (Tm.ds ps)) (i:=j) (by rw[enumL_len,Tm.ds_len];exact hj)
     obtain⟨y,e1,e2⟩:=enumL_get 0 (Tm.ds ps) j _ h0
     rw[Tm.ds_map,List.getElem?_map,List.getElem?_eq_getElem hj] at e1
     simp only[Option.map_some,Option.some.injEq] at e1
     rw[e2,←e1,Nat.zero_add]
    rw[hx]
    simp only[gTup_tup,gNames_cons,gNames_nil,ssat_nx,List.set_cons_succ,List.set_cons_zero]
    have hg':(if j=1 then gvn w m g else if 2≤j then gvn w m g else g)=(if 1≤j then gvn w m g else g):=by
     by_cases h1:1≤j
     ·rw[if_pos h1]
      by_cases h2:j=1
      ·rw[if_pos h2]
      ·rw[if_neg h2,if_pos (by omega)]
     ·rw[if_neg h1,if_neg (by omega),if_neg (by omega)]
    refine seq_rule (fun e S2=>e= [some (Tm.nd w m ps).d,some (.tup (g.map .str)),some od,some (.str w),some (.str m),some (.tup (Tm.ds ps)),some (.tup ((if 1≤j then gvn w m g else g).map .str)),some (.obj S.length),some (.int (j:Nat)),some (ps[j]'hj).d] ∧S2=S++ .lst (((pF w m g o ps).take j).map txD)::TT) ?_ ?_
    ·rw[ssat_if,sat_tAnd,sat_tOfE,sat_e2]
     simp only[sat_eVar,sat_eK,List.getElem?_cons_succ,List.getElem?_cons_zero]
     rw[in_giv h1,sat_ok,blD_bl,sat_ok]
     by_cases hw:w ∈ GIV
     ·rw[decide_eq_true hw,if_pos rfl]
      simp only[sat_tOfE,sat_e2,sat_eVar,sat_eK,List.getElem?_cons_succ,List.getElem?_cons_zero,eq_int,sat_ok,blD_bl]
      by_cases hj1:j=1
      ·rw[show decide (((j:Nat):Int)=1)=true by simp[hj1],if_pos rfl]
       simp only[ssat_asg,sat_e2,sat_eN,sat_aCons,sat_aNil,sat_eVar,List.getElem?_cons_succ,List.getElem?_cons_zero,sat_mkTup]
       refine⟨small (by simp),?_⟩
       rw[add_tup (small (by simp;omega)),sat_ok]
       simp only[gName_eq,ssat_nx,List.set_cons_succ,List.set_cons_zero]
       rw[if_pos (by omega:1≤j)]
       refine⟨?_,trivial⟩
       simp[gvn,hw]
      ·rw[show decide (((j:Nat):Int)=1)=false by simp;omega,if_neg Bool.false_ne_true,ssat_skip]
       rw[if_neg hj1] at hg'
       rw[hg']
       first|exact⟨rfl,rfl⟩|exact⟨rfl,trivial⟩|exact⟨trivial,rfl⟩|exact⟨trivial,trivial⟩
     ·rw[decide_eq_false hw,if_neg Bool.false_ne_true,if_neg Bool.false_ne_true,ssat_skip]
      have:gvn w m g=g:=by simp[gvn,hw]
      rw[this]
      simp
    rintro e S2 ⟨rfl,rfl⟩
    have gl:S.length<(S++O.lst (((pF w m g o ps).take j).map txD)::TT).length:=by simp
    have g1:(S++O.lst (((pF w m g o ps).take j).map txD)::TT)[S.length]? =some (.lst (((pF w m g o ps).take j).map txD)):=by simp
    rw[ssat_sExpr,sat_eBM]
    simp only[sat_eVar,List.getElem?_cons_succ,List.getElem?_cons_zero]
    refine⟨by simp only[mtD,g1],?_⟩
    simp only[sat_eN,sat_aCons,sat_aNil,sat_eVar,List.getElem?_cons_succ,List.getElem?_cons_zero,callK_eq,List.append_nil]
    have hpm:=List.getElem_mem hj
    have hgl:(if 1≤j then gvn w m g else g).length≤g.length+1:=by
     split
     ·unfold gvn;split<;>simp
     ·omega
    have hdd:=Tm.deps_le.mp (Nat.le_refl (Tm.deps ps)) _ hpm
    refine sat_mono (hf (ps[j]'hj) (if 1≤j then gvn w m g else g) od o _ (h5 _ hpm) (hdk _ hpm) (hsz _ hpm) (by omega) ho hog) fun x S3 ⟨ex,T3,e3⟩=> ?_
    subst ex e3
    have g3:(S++O.lst (((pF w m g o ps).take j).map txD)::TT++T3)[S.length]? =some (.lst (((pF w m g o ps).take j).map txD)):=by simp
    rw[append_obj g3]
    have hpl:j<(pF w m g o ps).length:=by rw[pF_len];exact hj
    refine⟨by simp;exact Nat.lt_of_lt_of_le (by omega:min j (pF w m g o ps).length<100) (by decide),some (.int (j:Nat)),some (ps[j]'hj).d,?_,TT++T3,?_⟩
    ·have:(if 2≤j+1 then gvn w m g else g)=(if 1≤j then gvn w m g else g):=by
      by_cases h:1≤j
      ·rw[if_pos h,if_pos (by omega)]
      ·rw[if_neg h,if_neg (by omega)]
     rw[this]
    ·rw[List.take_succ_eq_append_getElem hpl,pF_get hj]
     simp[txD]
   ·rintro e S1 ⟨a8,a9,rfl,TT,rfl⟩
    rw[enumL_len,Tm.ds_len]
    refine⟨_,_,_,rfl,TT,?_⟩
    rw[List.take_of_length_le (by rw[pF_len];exact Nat.le_refl _)]
  rintro e S1 ⟨a6,a8,a9,rfl,TT,rfl⟩
  have g1:(S++O.lst ((pF w m g o ps).map txD)::TT)[S.length]? =some (.lst ((pF w m g o ps).map txD)):=by simp
  have hlenw:w.length≤8:=by simpa[Str.length] using wn
  have hlp:(pF w m g o ps).length≤6:=by rw[pF_len];exact h4
  rw[cF_nd]
  by_cases hh:isHeap w=true
  ·have eo:ordC w (pF w m g o ps)=srtC (pF w m g o ps):=by unfold ordC;rw[if_pos hh]
   rw[eo]
   rw[ssat_seq,ssat_if,sat_tOfE,sat_e2]
   simp only[sat_eVar,sat_eK,List.getElem?_cons_succ,List.getElem?_cons_zero]
   rw[in_heap h1,sat_ok,blD_bl,sat_ok,if_pos hh]
   simp only[ssat_asg,sat_eN,sat_aCons,sat_aNil,sat_eVar,List.getElem?_cons_succ,List.getElem?_cons_zero]
   have es:sortedD [.obj S.length] (S++O.lst ((pF w m g o ps).map txD)::TT)= .ok (.lst ((srtC (pF w m g o ps)).map txD)) (S++O.lst ((pF w m g o ps).map txD)::TT):=by
    unfold sortedD
    simp only[asL,g1]
    have ok:sortOk ((pF w m g o ps).map txD)=true:=by
     have:=sortOk_strs (l:=(pF w m g o ps).map fun c=>T c.txt) (fun s hs=>by
      obtain⟨c,hc,rfl⟩:=List.mem_map.mp hs
      exact T_ok (plow c hc)) (by rw[List.length_map];omega)
     rw[List.map_map] at this
     exact this
    rw[if_pos ok,sort_txts plow]
   rw[es,sat_ok]
   simp only[gName_eq,ssat_nx,List.set_cons_succ,List.set_cons_zero]
   rw[ssat_sRet]
   refine to_sat (join_ret (cs:=srtC (pF w m g o ps)) rfl rfl rfl ?_ wlow) ⟨rfl,_,rfl⟩
   rw[sum_perm (srtC_perm _),(srtC_perm (pF w m g o ps)).length_eq]
   omega
  ·have hh':isHeap w=false:=by simpa using hh
   have eo:ordC w (pF w m g o ps)=pF w m g o ps:=by unfold ordC;rw[hh'];rfl
   rw[eo]
   rw[ssat_seq,ssat_if,sat_tOfE,sat_e2]
   simp only[sat_eVar,sat_eK,List.getElem?_cons_succ,List.getElem?_cons_zero]
   rw[in_heap h1,sat_ok,blD_bl,sat_ok,hh',if_neg Bool.false_ne_true,ssat_skip,ssat_sRet]
   refine to_sat (join_ret (cs:=pF w m g o ps) (x:= .obj S.length) rfl rfl (by simp only[asL,g1]) (by omega) wlow) ⟨rfl,_,rfl⟩
end L3
namespace L3
open PySem L2
def mPurse:SD:=
    sSeq (sPar [1,2] (aCons (eK (.int 7)) (aCons (eN mkObj (aNil)) (aNil))))
    (sSeq (sFor (iSeq (eSlS (eVar 0) (pNo) (pYes (eK (.int 63))))) (gName 3) (sSeq (sAsg (e2 modD (e2 addD (e2 addD (e2 mulD (eVar 1) (eK (.int 1000003))) (e2 modD (eVar 3) (eK (.int 2305843009213693951)))) (eK (.int 12345))) (eK (.int 2305843009213693951))) (gName 1))
    (sIf (tOfE (e2 geD (eN absD (aCons (eVar 3) (aNil))) (e2 powD (eK (.int 10)) (eK (.int 18))))) (sExpr (eBM "list" appendD (eVar 2) (aCons (e2 modD (eN absD (aCons (eVar 3) (aNil))) (e2 mulD (e2 powD (eK (.int 10)) (eK (.int 60))) (e2 powD (eK (.int 10)) (eK (.int 60))))) (aNil)))) (sSkip))))
    (sRet (eN mkObj (aCons (eVar 2) (aCons (eVar 1) (aCons (eK (.int 0)) (aNil)))))))
def mPickP:SD:=
    sSeq (sWhile (tAnd (tOfE (e2 ne0D (e2 ixD (eVar 0) (eK (.int 0))) (eN mkLst (aNil)))) (tOfE (e2 eqD (e2 ixD (e2 ixD (eVar 0) (eK (.int 0))) (eK (.int 0))) (eK (.int 0))))) (sExpr (eBM "list" popD (e2 ixD (eVar 0) (eK (.int 0))) (aCons (eK (.int 0)) (aNil)))) 100000)
    (sSeq (sIf (tOfE (e2 ne0D (e2 ixD (eVar 0) (eK (.int 0))) (eN mkLst (aNil)))) (sSeq (sAsg (e2 modD (e2 ixD (e2 ixD (eVar 0) (eK (.int 0))) (eK (.int 0))) (eVar 1)) (gName 2))
    (sSeq (sAsg (e2 fdivD (e2 ixD (e2 ixD (eVar 0) (eK (.int 0))) (eK (.int 0))) (eVar 1)) (gSub (e2 ixD (eVar 0) (eK (.int 0))) (eK (.int 0))))
    (sRet (eVar 2)))) (sSkip))
    (sSeq (sAsg (e2 addD (e2 ixD (eVar 0) (eK (.int 2))) (eK (.int 1))) (gSub (eVar 0) (eK (.int 2))))
    (sSeq (sAsg (e2 ixD (eVar 0) (eK (.int 2))) (gName 3))
    (sSeq (sAsg (e2 ixD (eN mkLst (aCons (eK (.int 2147483629)) (aCons (eK (.int 2147483587)) (aCons (eK (.int 2147483579)) (aCons (eK (.int 2147483563)) (aCons (eK (.int 2147483549)) (aCons (eK (.int 2147483543)) (aCons (eK (.int 2147483497)) (aNil))))))))) (e2 modD (eVar 3) (eK (.int 7)))) (gName 4))
    (sSeq (sAsg (e2 modD (e2 addD (e2 ixD (eVar 0) (eK (.int 1))) (e2 mulD (eK (.int 65537)) (eVar 3))) (eK (.int 2147483647))) (gName 5))
    (sSeq (sAsg (e2 mulD (e2 modD (e2 powD (eVar 5) (eK (.int 5))) (eK (.int 2147483647))) (e2 addD (e2 mulD (eK (.int 2)) (eVar 3)) (eK (.int 1)))) (gName 6))
    (sRet (e2 modD (e2 fdivD (e2 modD (e2 addD (eVar 6) (e2 fdivD (e2 ixD (eVar 0) (eK (.int 1))) (eK (.int 2147483647)))) (eVar 4)) (eK (.int 61))) (eVar 1)))))))))
theorem sat_eSlS {env:EnvD} {S:Store} {Q:D→Store→Prop} {a:ED} {l h:PD} :(eSlS a l h env S).sat Q=(a env S).sat fun x S1=>(l env S1).sat fun lo S2=>(h env S2).sat fun hi S3=>(slS x lo hi S3).sat Q:=by
 unfold eSlS;simp only[sat_bind]
structure Purse (n m:Nat) (S:Store):Prop where
 ne:n≠m
 ex:∃(l:List Int) (s t:Int),l.length≤63∧S[m]? =some (.lst (l.map .int))∧S[n]? =some (.lst [.obj m, .int s, .int t])
structure FrU (X:List Nat) (S S':Store):Prop where
 le:S.length≤S'.length
 fr:∀p o,p ∉ X→S[p]? =some o→S'[p]? =some o
theorem FrU.refl {X:List Nat} {S:Store} :FrU X S S:=⟨Nat.le_refl _,fun _ _ _ h=>h⟩
theorem FrU.trans {X:List Nat} {S S' S'':Store} (h:FrU X S S') (g:FrU X S' S''):FrU X S S'':=⟨Nat.le_trans h.le g.le,fun p o hp e=>g.fr p o hp (h.fr p o hp e)⟩
theorem FrU.mono {X Y:List Nat} {S S':Store} (h:FrU X S S') (m:∀x ∈ X,x ∈ Y):FrU Y S S':=⟨h.le,fun p o hp e=>h.fr p o (fun q=>hp (m _ q)) e⟩
theorem FrU.app {X:List Nat} {S:Store} (T:Store):FrU X S (S++T):=⟨by simp,fun p o _ e=>by rw[List.getElem?_append_left (List.getElem?_eq_some_iff.mp e).1];exact e⟩
theorem FrU.set {X:List Nat} {S:Store} {p:Nat} (h:p ∈ X) (o:O):FrU X S (S.set p o):=⟨by simp,fun q o' hq e=>by rw[List.getElem?_set_ne (fun e'=>hq (by rw[← e'];exact h))];exact e⟩
theorem FrU.put {X:List Nat} {S S':Store} {p:Nat} (h:FrU X S S') (hp:S.length≤p) (o:O):FrU X S (S'.set p o):=
 ⟨by simp[h.le],fun q o' hq e=>by
   have:q<S.length:=(List.getElem?_eq_some_iff.mp e).1
   rw[List.getElem?_set_ne (by omega)];exact h.fr q o' hq e⟩
theorem FrU.appR {X:List Nat} {S S':Store} (h:FrU X S S') (T:Store):FrU X S (S'++T):=h.trans (.app T)
theorem FrU.cut {X:List Nat} {S S1 S2:Store} {p:Nat} (h:FrU X S S1) (g:FrU (p::X) S1 S2) (hp:S.length≤p):FrU X S S2:=
 ⟨Nat.le_trans h.le g.le,fun q o hq e=>by
   have:q<S.length:=(List.getElem?_eq_some_iff.mp e).1
   exact g.fr q o (by simp only[List.mem_cons,not_or];exact⟨by omega,hq⟩) (h.fr q o hq e)⟩
theorem Purse.fr {n m:Nat} {X:List Nat} {S S':Store} (h:Purse n m S) (g:FrU X S S') (hn:n ∉ X) (hm:m ∉ X):Purse n m S':=by
 obtain⟨l,s,t,h1,h2,h3⟩:=h.ex
 exact⟨h.ne,l,s,t,h1,g.fr m _ hm h2,g.fr n _ hn h3⟩
theorem Purse.app {n m:Nat} {S:Store} (h:Purse n m S) (T:Store):Purse n m (S++T):=h.fr (X:= []) (.app T) (by simp) (by simp)
theorem Purse.lt {n m:Nat} {S:Store} (h:Purse n m S):n<S.length∧m<S.length:=by
 obtain⟨l,s,t,h1,h2,h3⟩:=h.ex
 exact⟨(List.getElem?_eq_some_iff.mp h3).1,(List.getElem?_eq_some_iff.mp h2).1⟩
def IsPk (pk:FN):Prop:=∀(n m:Nat) (S:Store) (many:Int),Purse n m S→0<many→many<2 ^ 32→(pk [.obj n, .int many] S).sat fun d S'=>(∃ i,d= .int i∧0≤i∧i<many)∧FrU [n,m] S S'∧Purse n m S'
section
variable {n m:Nat} {S:Store} {Q:D→Store→Prop}
theorem pu0 {a b c:D} (h:S[n]? =some (.lst [a,b,c])):ixD (.obj n) (.int 0) S= .ok a S:=by simp[ixD,h,atI,ixN]
theorem pu1 {a b c:D} (h:S[n]? =some (.lst [a,b,c])):ixD (.obj n) (.int 1) S= .ok b S:=by simp[ixD,h,atI,ixN]
theorem pu2 {a b c:D} (h:S[n]? =some (.lst [a,b,c])):ixD (.obj n) (.int 2) S= .ok c S:=by simp[ixD,h,atI,ixN]
theorem puh {l:List D} {a:D} (h:S[n]? =some (.lst (a::l))):ixD (.obj n) (.int 0) S= .ok a S:=by simp[ixD,h,atI,ixN]
theorem puS {a b c x:D} (h:S[n]? =some (.lst [a,b,c])):setD (.obj n) (.int 2) x S=some (S.set n (.lst [a,b,x])):=by simp[setD,h,ixN]
theorem puT {l:List D} {a x:D} (h:S[n]? =some (.lst (a::l))):setD (.obj n) (.int 0) x S=some (S.set n (.lst (x::l))):=by simp[setD,h,ixN]
theorem ne0_obj {l:List D} (h:S[n]? =some (.lst l)):ne0D (.obj n) (.lst []) S= .ok (.bl (!l.isEmpty)) S:=by simp[ne0D,asL,h]
theorem pop0 {l:List D} {a:D} (h:S[n]? =some (.lst (a::l))):popD (.obj n) [.int 0] S= .ok a (S.set n (.lst l)):=by
 simp[popD,lstAt,h,ixN]
end
theorem isPk:IsPk (run 2 7 mPickP):=fun n m S many h h0 h1=>by
 obtain⟨l,s,t,hl,hm,hn⟩:=h.ex
 have hne:=h.ne
 rw[sat_run]
 refine⟨rfl,?_⟩
 unfold mPickP
 simp only[List.map_cons,List.map_nil,List.cons_append,List.nil_append,List.length_cons,List.length_nil,List.replicate,Nat.zero_add,Nat.reduceAdd,Nat.reduceSub]
 have hlog:many.natAbs.log2<9000:=lg_lt (m:=0) (by omega)
 refine seq_rule (fun e S1=>e= [some (.obj n),some (.int many),none,none,none,none,none] ∧FrU [n,m] S S1∧∃l:List Int,l.length≤63∧S1[m]? =some (.lst (l.map .int))∧S1[n]? =some (.lst [.obj m, .int s, .int t])) ?_ ?_
 ·refine while_rule (fun k e S1=>e= [some (.obj n),some (.int many),none,none,none,none,none] ∧FrU [n,m] S S1∧∃l:List Int,l.length=k∧l.length≤63∧S1[m]? =some (.lst (l.map .int))∧S1[n]? =some (.lst [.obj m, .int s, .int t])) (m:=l.length) (by omega) ⟨rfl, .refl,l,rfl,hl,hm,hn⟩ ?_
  rintro k e S1 ⟨rfl,fr,l,rfl,hl,hm,hn⟩
  simp only[sat_tAnd,sat_tOfE,sat_e2,sat_eVar,sat_eK,sat_eN,sat_aNil,sat_mkLst,List.getElem?_cons_zero,pu0 hn,sat_ok,ne0_obj hm,blD_bl]
  refine⟨small (by simp),?_⟩
  cases l with
  |nil=>simp only[List.map_nil,List.isEmpty_nil,Bool.not_true,Bool.false_eq_true,if_false];exact⟨trivial,fr,[],by simp,hm,hn⟩
  |cons a l=>
   simp only[List.map_cons] at hm
   simp only[List.map_cons,List.isEmpty_cons,Bool.not_false,if_true,puh hm,sat_ok,eq_int,blD_bl]
   by_cases ha:a=0
   ·simp only[ha,decide_true,if_true,ssat_sExpr,sat_eBM,sat_e2,sat_eVar,sat_eK,List.getElem?_cons_zero,pu0 hn,sat_ok,sat_aCons,sat_aNil]
    refine⟨mtD_obj hm,?_⟩
    rw[pop0 hm,sat_ok]
    have hm':m<S1.length:=(List.getElem?_eq_some_iff.mp hm).1
    refine⟨l.length,by simp,trivial,fr.trans (.set (by simp) _),l,rfl,by simp at hl;omega,?_,?_⟩
    ·rw[List.getElem?_set_self hm']
    ·rw[List.getElem?_set_ne (Ne.symm hne)];exact hn
   ·simp only[ha,decide_false,Bool.false_eq_true,if_false]
    exact⟨trivial,fr,a::l,hl,hm,hn⟩
 rintro e S1 ⟨rfl,fr,l,hl,hm,hn⟩
 have hm':m<S1.length:=(List.getElem?_eq_some_iff.mp hm).1
 have hn':n<S1.length:=(List.getElem?_eq_some_iff.mp hn).1
 cases l with
 |cons a l=>
  have hm2:=hm
  simp only[List.map_cons] at hm2
  rw[ssat_seq,ssat_if]
  simp only[sat_tOfE,sat_e2,sat_eVar,sat_eK,sat_eN,sat_aNil,sat_mkLst,List.getElem?_cons_zero,pu0 hn,sat_ok]
  refine⟨small (by simp),?_⟩
  rw[ne0_obj hm2,sat_ok,blD_bl,sat_ok]
  simp only[List.isEmpty_cons,Bool.not_false,if_true,ssat_seq,ssat_asg,sat_e2,sat_eVar,sat_eK,List.getElem?_cons_zero,List.getElem?_cons_succ,pu0 hn,puh hm2,sat_ok,mod_int,gName_eq,ssat_nx,List.set_cons_succ,List.set_cons_zero,fdiv_int,hlog,h0,true_and,ssat_sRet]
  have gs:∀x:D,gSub (e2 ixD (eVar 0) (eK (.int 0))) (eK (.int 0)) x [some (.obj n),some (.int many),some (.int (a % many)),none,none,none,none] S1= .nx [some (.obj n),some (.int many),some (.int (a % many)),none,none,none,none] (S1.set m (.lst (x::l.map .int))):=fun x=>by
   simp[gSub,e2,eVar,eK,R.bind,pu0 hn,puT hm2]
  rw[gs,ssat_nx]
  refine⟨⟨_,rfl,Int.emod_nonneg _ (by omega),Int.emod_lt_of_pos _ h0⟩,fr.trans (.set (by simp) _),hne,(a / many)::l,s,t,hl,?_,?_⟩
  ·rw[List.getElem?_set_self hm'];rfl
  ·rw[List.getElem?_set_ne (Ne.symm hne)];exact hn
 |nil=>
  refine step_no (S1:=S1) (of_sat (by
   simp only[sat_tOfE,sat_e2,sat_eVar,sat_eK,sat_eN,sat_aNil,sat_mkLst,List.getElem?_cons_zero,pu0 hn,sat_ok]
   refine⟨small (by simp),?_⟩
   rw[ne0_obj hm,sat_ok,blD_bl,sat_ok]
   exact⟨rfl,rfl⟩)) ?_
  have en:(S1.set n (.lst [.obj m, .int s, .int (t+1)]))[n]? =some (.lst [.obj m, .int s, .int (t+1)]):=by rw[List.getElem?_set_self hn']
  have gs:gSub (eVar 0) (eK (.int 2)) (.int (t+1)) [some (.obj n),some (.int many),none,none,none,none,none] S1= .nx [some (.obj n),some (.int many),none,none,none,none,none] (S1.set n (.lst [.obj m, .int s, .int (t+1)])):=by
   simp[gSub,eVar,eK,R.bind,puS hn]
  refine step_asg (S1:=S1) (of_sat (by
   simp only[sat_e2,sat_eVar,sat_eK,List.getElem?_cons_zero,pu2 hn,sat_ok,add_int]
   exact⟨trivial,trivial⟩)) gs ?_
  generalize hS2:S1.set n (.lst [.obj m, .int s, .int (t+1)])=S2 at en
  have fin:FrU [n,m] S S2∧Purse n m S2:=by
   subst hS2
   refine⟨fr.trans (.set (by simp) _),hne,[],s,t+1,by simp,?_,en⟩
   rw[List.getElem?_set_ne hne];exact hm
  refine step_asg (S1:=S2) (S2:=S2) (d:= .int (t+1)) (of_sat (by
   simp only[sat_e2,sat_eVar,sat_eK,List.getElem?_cons_zero,pu2 en,sat_ok];exact⟨trivial,trivial⟩)) rfl ?_
  simp only[List.set_cons_succ,List.set_cons_zero]
  have h7:0≤(t+1) % 7∧(t+1) % 7<7:=⟨Int.emod_nonneg _ (by omega),Int.emod_lt_of_pos _ (by omega)⟩
  obtain⟨x,hx,ex⟩:=atI_mem (l:= [D.int 2147483629, .int 2147483587, .int 2147483579, .int 2147483563, .int 2147483549, .int 2147483543, .int 2147483497]) h7.1 (by simpa using h7.2)
  have hx':∃p:Int,x= .int p∧0<p:=by
   simp only[List.mem_cons,List.not_mem_nil,or_false] at hx
   rcases hx with rfl|rfl|rfl|rfl|rfl|rfl|rfl<;>exact⟨_,rfl,by decide⟩
  obtain⟨p,rfl,hp⟩:=hx'
  refine step_asg (S1:=S2) (S2:=S2) (d:= .int p) (of_sat (by
   simp only[sat_e2,sat_eVar,sat_eK,sat_eN,sat_aCons,sat_aNil,sat_mkLst,List.getElem?_cons_succ,List.getElem?_cons_zero,mod_int]
   refine⟨small (by simp),by decide,?_⟩
   simp only[ixD,asL]
   rw[ex,sat_ok];exact⟨rfl,rfl⟩)) rfl ?_
  simp only[List.set_cons_succ,List.set_cons_zero]
  have ho:0≤(s+65537*(t+1)) % 2147483647∧(s+65537*(t+1)) % 2147483647<2147483647:=⟨Int.emod_nonneg _ (by omega),Int.emod_lt_of_pos _ (by omega)⟩
  generalize hon:(s+65537*(t+1)) % 2147483647=once at ho
  refine step_asg (S1:=S2) (S2:=S2) (d:= .int once) (of_sat (by
   simp only[sat_e2,sat_eVar,sat_eK,List.getElem?_cons_succ,List.getElem?_cons_zero,pu1 en,sat_ok,mul_int,add_int,mod_int]
   exact⟨mulOk_l (by omega),by decide,by rw[hon],trivial⟩)) rfl ?_
  simp only[List.set_cons_succ,List.set_cons_zero]
  have pw:powD (.int once) (.int 5) S2= .ok (.int (once ^ 5)) S2:=by
   unfold powD
   simp only
   rw[if_pos]
   ·rfl
   ·refine⟨by decide,?_⟩
    have:Builtin.Int.intBits once≤31:=by
     unfold Builtin.Int.intBits
     have:once.natAbs<2 ^ 31:=by omega
     split
     ·omega
     ·rename_i hz
      have:=(Nat.log2_lt (by simpa using hz)).mpr this
      omega
    omega
  refine step_asg (S1:=S2) (S2:=S2) (d:= .int (once ^ 5 % 2147483647*(2*(t+1)+1))) (of_sat (by
   simp only[sat_e2,sat_eVar,sat_eK,List.getElem?_cons_succ,List.getElem?_cons_zero,pw,sat_ok,mod_int,mul_int,add_int]
   have b1:0≤once ^ 5 % 2147483647:=Int.emod_nonneg _ (by omega)
   have b2:once ^ 5 % 2147483647<2147483647:=Int.emod_lt_of_pos _ (by omega)
   exact⟨by decide,mulOk_l (by omega),mulOk_l (by omega),trivial,trivial⟩)) rfl ?_
  simp only[List.set_cons_succ,List.set_cons_zero,ssat_sRet,sat_e2,sat_eVar,sat_eK,List.getElem?_cons_succ,List.getElem?_cons_zero,pu1 en,sat_ok,fdiv_int,add_int,mod_int]
  refine⟨⟨by decide,by decide⟩,hp,⟨by decide,by decide⟩,h0,⟨_,rfl,Int.emod_nonneg _ (by omega),Int.emod_lt_of_pos _ h0⟩,fin⟩
end L3
namespace L3
open PySem L2
local macro_rules| `(tactic| open_k)=> `(tactic| simp only[ssat_seq,ssat_asg,ssat_sRet,ssat_sExpr,ssat_if,ssat_skip,ssat_par,ssat_nx,ssat_ret,ssat_for,sat_e2,sat_e1,sat_eN,sat_aCons,sat_aNil,sat_eVar,sat_eK,sat_tOfE,sat_tTruth,sat_tNot,sat_tAnd,sat_tOr,sat_eIf,sat_eBM,sat_iSeq,sat_iArgs,sat_eAnd,sat_eOr,sat_eNot,sat_eChain,sat_eSl,sat_pNo,sat_pYes,sat_eLc,sat_eKw,sat_mkTup,sat_mkLst,sat_mkObj,sat_ok,callK_eq,List.append_nil,List.map_cons,List.map_nil,List.length_cons,List.length_nil,List.replicate,List.getElem?_cons_succ,List.getElem?_cons_zero,List.cons_append,List.nil_append,List.set_cons_succ,List.set_cons_zero,gName_eq,gTup_tup,gNames_cons,gNames_nil,Nat.zero_add,Nat.reduceAdd,Nat.reduceSub,sz0,sz1,sz2,sz3,sz4,sz5,sz6,sz7,sz8,sz10,sz17,true_and,add_int,sub_int,neg_int,lt_int,le_int,gt_int,ge_int,eq_int,ne_int,blD_bl,truthD_bl,itemsD_lst,itemsD_tup,wipeD,eq_strs,ne_strs,sl_tup,sl_lst,if_true,if_false,Bool.false_eq_true,sat_range1,sat_range2,tuple_lst,tuple_tup,len_tup,len_lst,len_scr,D.int.injEq,exists_eq_left',mt_str])
def mThing (pk f:FN):SD:=
    sSeq (sPar [4,5] (aCons (eN (callK pk []) (aCons (eVar 0) (aCons (eK (.int 14)) (aNil)))) (aCons (eN mkLst (aCons (eK (.str "x")) (aCons (eK (.str "y")) (aCons (eK (.str "ab")) (aCons (eK (.str "zzzzzzzz")) (aNil)))))) (aNil))))
    (sSeq (sIf (tOr (tOfE (e2 ltD (eVar 1) (eK (.int 2)))) (tOr (tOfE (e2 ltD (e2 ixD (eVar 2) (eK (.int 0))) (eK (.int 6)))) (tOfE (e2 ltD (eVar 4) (eK (.int 2)))))) (sSeq (sIf (tOfE (e2 eqD (eN (callK pk []) (aCons (eVar 0) (aCons (eK (.int 3)) (aNil)))) (eK (.int 0)))) (sRet (eN mkTup (aCons (eK (.str "num")) (aCons (e2 ixD (eN mkLst (aCons (eK (.int 0)) (aCons (eK (.int 1)) (aCons (eK (.int 2)) (aCons (eK (.int 9972)) (aNil)))))) (eN (callK pk []) (aCons (eVar 0) (aCons (eK (.int 4)) (aNil))))) (aCons (eN mkTup (aNil)) (aNil)))))) (sSkip))
    (sSeq (sAsg (e2 addD (eVar 5) (e2 mulD (eN listD (aCons (eVar 3) (aNil))) (eK (.int 2)))) (gName 6))
    (sRet (eN mkTup (aCons (eK (.str "name")) (aCons (e2 ixD (eVar 6) (eN (callK pk []) (aCons (eVar 0) (aCons (eN lenD (aCons (eVar 6) (aNil))) (aNil))))) (aCons (eN mkTup (aNil)) (aNil)))))))) (sSkip))
    (sSeq (sIf (tOfE (e2 gtD (eVar 4) (eK (.int 10)))) (sSeq (sPar [7,8] (aCons (e2 ixD (eN mkLst (aCons (eK (.str "let")) (aCons (eK (.str "each")) (aNil)))) (eN (callK pk []) (aCons (eVar 0) (aCons (eK (.int 2)) (aNil))))) (aCons (e2 ixD (eVar 5) (eN (callK pk []) (aCons (eVar 0) (aCons (eK (.int 4)) (aNil))))) (aNil))))
    (sSeq (sAsg (e2 subD (e2 ixD (eVar 2) (eK (.int 0))) (eK (.int 2))) (gSub (eVar 2) (eK (.int 0))))
    (sSeq (sAsg (eN (callK f []) (aCons (eVar 0) (aCons (e2 subD (eVar 1) (eK (.int 1))) (aCons (eVar 2) (aCons (eVar 3) (aNil)))))) (gName 9))
    (sRet (eN mkTup (aCons (eVar 7) (aCons (eVar 8) (aCons (eN mkTup (aCons (eVar 9) (aCons (eN (callK f []) (aCons (eVar 0) (aCons (e2 subD (eVar 1) (eK (.int 1))) (aCons (eVar 2) (aCons (e2 addD (eVar 3) (eN mkTup (aCons (eVar 8) (aNil)))) (aNil)))))) (aNil)))) (aNil))))))))) (sSkip))
    (sSeq (sPar [7,10] (aCons (e2 ixD (eN mkLst (aCons (eK (.str "plus")) (aCons (eK (.str "times")) (aCons (eK (.str "most")) (aNil))))) (eN (callK pk []) (aCons (eVar 0) (aCons (eK (.int 3)) (aNil))))) (aCons (e2 addD (eK (.int 1)) (eN (callK pk []) (aCons (eVar 0) (aCons (e2 ixD (eN mkLst (aCons (eK (.int 3)) (aCons (eK (.int 6)) (aNil)))) (eN intD (aCons (e2 eqD (eVar 4) (eK (.int 5))) (aNil)))) (aNil))))) (aNil))))
    (sSeq (sIf (tOfE (e2 gtD (eVar 4) (eK (.int 5)))) (sPar [7,10] (aCons (eK (.str "row")) (aCons (eN (callK pk []) (aCons (eVar 0) (aCons (e2 ixD (eN mkLst (aCons (eK (.int 5)) (aCons (eK (.int 7)) (aNil)))) (eN intD (aCons (e2 eqD (eVar 4) (eK (.int 7))) (aNil)))) (aNil)))) (aNil)))) (sSkip))
    (sSeq (sIf (tOfE (e2 gtD (eVar 4) (eK (.int 7)))) (sAsg (e2 ixD (eN mkLst (aCons (eN mkTup (aCons (eK (.str "say")) (aCons (eK (.int 1)) (aNil)))) (aCons (eN mkTup (aCons (eK (.str "less")) (aCons (eK (.int 2)) (aNil)))) (aCons (eN mkTup (aCons (eK (.str "below")) (aCons (eK (.int 2)) (aNil)))) (aCons (eN mkTup (aCons (eK (.str "if")) (aCons (eK (.int 3)) (aNil)))) (aNil)))))) (eN (callK pk []) (aCons (eVar 0) (aCons (eK (.int 4)) (aNil))))) (gTup [7,10])) (sSkip))
    (sSeq (sAsg (e2 subD (e2 ixD (eVar 2) (eK (.int 0))) (eVar 10)) (gSub (eVar 2) (eK (.int 0))))
    (sRet (eN mkTup (aCons (eVar 7) (aCons (eK (.str "")) (aCons (eN tupleD (aCons (eLc (iArgs range1 (aCons (eVar 10) (aNil))) [11] (gName 11) (tYesD) (eN (callK f []) (aCons (eVar 0) (aCons (e2 subD (eVar 1) (eK (.int 1))) (aCons (eVar 2) (aCons (eVar 3) (aNil))))))) (aNil))) (aNil))))))))))))
def mProgram (pk th:FN):SD:=
    sSeq (sPar [1,2] (aCons (e2 ixD (eN mkLst (aCons (eK (.int 10)) (aCons (eK (.int 5)) (aCons (eK (.int 5)) (aCons (eK (.int 4)) (aCons (eK (.int 3)) (aCons (eK (.int 6)) (aNil)))))))) (eN (callK pk []) (aCons (eVar 0) (aCons (eK (.int 6)) (aNil))))) (aCons (e2 ixD (eN mkLst (aCons (eK (.int 8)) (aCons (eK (.int 20)) (aCons (eK (.int 40)) (aCons (eK (.int 59)) (aNil)))))) (eN (callK pk []) (aCons (eVar 0) (aCons (eK (.int 4)) (aNil))))) (aNil))))
    (sRet (eN (callK th []) (aCons (eVar 0) (aCons (eVar 1) (aCons (eN mkObj (aCons (eVar 2) (aNil))) (aCons (eN mkTup (aNil)) (aNil)))))))
theorem nmo {s:Str} (h:(decide (1≤s.length)&&decide (s.length≤8)&&s.cps.toList.all isLet&&decide (s ∉ WORDS))=true):NameOk s:=by
 simp only[Bool.and_eq_true,decide_eq_true_eq] at h
 exact⟨h.1.1.1,h.1.1.2,h.1.2,h.2⟩
theorem nms {l:List Str} (h:(l.all fun s=>decide (1≤s.length)&&decide (s.length≤8)&&s.cps.toList.all isLet&&decide (s ∉ WORDS))=true):∀s ∈ l,NameOk s:=fun s hs=>nmo (List.all_eq_true.mp h s hs)
def NM4:List Str:= ["x","y","ab","zzzzzzzz"]
def NM7:List Str:= ["x","y","ab","zzzzzzzz","q","abc","w"]
theorem nm7:∀s ∈ NM7,NameOk s:=nms (by decide +kernel)
theorem nm47:∀s ∈ NM4,s ∈ NM7:=by decide +kernel
mutual
/-- all NAMEs are among these -/
def Tm.nin (L:List Str):Tm→Bool
 | .num _=>true
 | .nam s=>decide (s ∈ L)
 | .nd w m ps=>(!decide (w ∈ GIV) || decide (m ∈ L))&&Tm.nins L ps
def Tm.nins (L:List Str):List Tm→Bool
 | [] =>true
 |t::ts=>t.nin L&&Tm.nins L ts
end
theorem Tm.nins_all {L:List Str} :∀ {ts:List Tm},Tm.nins L ts=true↔∀t ∈ ts,t.nin L=true
 | [] =>by simp[Tm.nins]
 |t::ts=>by simp[Tm.nins,Tm.nins_all]
theorem ixm {l:List D} {i:Int} (h0:0≤i) (h1:i<l.length):∃x ∈ l,∀S,ixD (.lst l) (.int i) S= .ok x S:=by
 obtain⟨x,hx,e⟩:=atI_mem h0 h1
 exact⟨x,hx,fun S=>by simp[ixD,asL,e]⟩
def Stt (n m p:Nat) (r:Int) (S0 S:Store):Prop:=(p≠n∧p≠m)∧FrU [n,m,p] S0 S∧Purse n m S∧S[p]? =some (.lst [.int r])
section
variable {n m p:Nat} {r:Int} {S0 S:Store}
theorem Stt.pk {pk:FN} (hp:IsPk pk) (h:Stt n m p r S0 S) {many:Int} (h0:0<many) (h1:many<2 ^ 32):(pk [.obj n, .int many] S).sat fun d S'=>(∃ i,d= .int i∧0≤i∧i<many)∧Stt n m p r S0 S':=by
 obtain⟨hne,fr,pu,hr⟩:=h
 refine sat_mono (hp n m S many pu h0 h1) fun d S' ⟨a,fr',pu'⟩=>⟨a,hne,fr.trans (fr'.mono ?_),pu',fr'.fr p _ (by simp[hne.1,hne.2]) hr⟩
 intro x hx
 simp only[List.mem_cons,List.not_mem_nil,or_false] at hx ⊢
 rcases hx with h|h<;>simp[h]
theorem Stt.ix (h:Stt n m p r S0 S):ixD (.obj p) (.int 0) S= .ok (.int r) S:=puh h.2.2.2
theorem Stt.gs (h:Stt n m p r S0 S) {env:EnvD} (he:env[2]? =some (some (.obj p))) (x:Int):gSub (eVar 2) (eK (.int 0)) (.int x) env S= .nx env (S.set p (.lst [.int x])):=by
 simp[gSub,eVar,eK,R.bind,he,puT h.2.2.2]
theorem Stt.set (h:Stt n m p r S0 S) (x:Int):Stt n m p x S0 (S.set p (.lst [.int x])):=by
 obtain⟨hne,fr,pu,hr⟩:=h
 have hp:p<S.length:=(List.getElem?_eq_some_iff.mp hr).1
 exact⟨hne,fr.trans (.set (by simp) _),pu.fr (X:= [p]) (.set (by simp) _) (by simp[Ne.symm hne.1]) (by simp[Ne.symm hne.2]),by rw[List.getElem?_set_self hp]⟩
end
def Res (n m p:Nat) (k:Nat) (r:Int) (S0:Store) (d:D) (S':Store):Prop:=∃(t:Tm) (r':Int),d=t.d∧(Good t∧t.nin NM7=true)∧(t.size:Int)≤1+r-r'∧0≤r'∧t.dep≤max 1 k∧Stt n m p r' S0 S'
def IsTh (f:FN) (k:Nat):Prop:=∀(n m p:Nat) (S0 S:Store) (deep r:Int) (g:List Str),Stt n m p r S0 S→0≤r→r≤100→deep≤k→g.length+k≤30→(∀ s ∈ g,s ∈ NM7)→(f [.obj n, .int deep, .obj p, .tup (g.map .str)] S).sat (Res n m p k r S0)
section
variable {n m p:Nat} {r:Int} {S0:Store}
theorem leaf_th {pk:FN} (hp:IsPk pk) {k:Nat} {g:List Str} {deep lot:Int} {S:Store} (h:Stt n m p r S0 S) (h0:0≤r) (hg:∀s ∈ g,s ∈ NM7) (hgl:g.length≤30) {N B C:EnvD→Store→Prop} :
 ((sSeq (sIf (tOfE (e2 eqD (eN (callK pk []) (aCons (eVar 0) (aCons (eK (.int 3)) (aNil)))) (eK (.int 0)))) (sRet (eN mkTup (aCons (eK (.str "num")) (aCons (e2 ixD (eN mkLst (aCons (eK (.int 0)) (aCons (eK (.int 1)) (aCons (eK (.int 2)) (aCons (eK (.int 9972)) (aNil)))))) (eN (callK pk []) (aCons (eVar 0) (aCons (eK (.int 4)) (aNil))))) (aCons (eN mkTup (aNil)) (aNil)))))) (sSkip))
 (sSeq (sAsg (e2 addD (eVar 5) (e2 mulD (eN listD (aCons (eVar 3) (aNil))) (eK (.int 2)))) (gName 6))
 (sRet (eN mkTup (aCons (eK (.str "name")) (aCons (e2 ixD (eVar 6) (eN (callK pk []) (aCons (eVar 0) (aCons (eN lenD (aCons (eVar 6) (aNil))) (aNil))))) (aCons (eN mkTup (aNil)) (aNil))))))))
 [some (.obj n),some (.int deep),some (.obj p),some (.tup (g.map .str)),some (.int lot),some (.lst (NM4.map .str)),none,none,none,none,none,none] S).sat N (Res n m p k r S0) B C:=by
 have hk:1≤max 1 k:=by omega
 refine seq_rule (fun e S1=>e= [some (.obj n),some (.int deep),some (.obj p),some (.tup (g.map .str)),some (.int lot),some (.lst (NM4.map .str)),none,none,none,none,none,none] ∧Stt n m p r S0 S1) ?_ ?_
 ·open_k
  refine sat_mono (h.pk hp (by decide) (by decide)) ?_
  rintro d S1 ⟨⟨i,rfl,i0,i1⟩,h⟩
  open_k
  by_cases hi:i=0
  ·simp only[hi,decide_true,if_true]
   refine sat_mono (h.pk hp (by decide) (by decide)) ?_
   rintro d S1 ⟨⟨j,rfl,j0,j1⟩,h⟩
   obtain⟨x,hx,ex⟩:=ixm (l:= [D.int 0, .int 1, .int 2, .int 9972]) j0 (by simpa using j1)
   rw[ex,sat_ok]
   have:∃q:Int,x= .int q∧0≤q∧q≤9972:=by
    simp only[List.mem_cons,List.not_mem_nil,or_false] at hx
    rcases hx with rfl|rfl|rfl|rfl<;>exact⟨_,rfl,by decide,by decide⟩
   obtain⟨q,rfl,q0,q1⟩:=this
   exact⟨.num q,r,rfl,⟨.num q0 q1,rfl⟩,by simp only[Tm.size];omega,h0,by simp only[Tm.dep];omega,h⟩
  ·simp only[hi,decide_false,Bool.false_eq_true,if_false]
   exact h
 rintro e S1 ⟨rfl,h⟩
 have e1:((List.replicate 2 (g.map D.str)).flatten)=(g++g).map D.str:=by simp[List.replicate]
 refine step_asg (S1:=S1) (S2:=S1) (d:= .lst ((NM4++(g++g)).map .str)) (of_sat (by
  simp only[sat_e2,sat_eN,sat_aCons,sat_aNil,sat_eVar,sat_eK,List.getElem?_cons_succ,List.getElem?_cons_zero]
  rw[show listD [.tup (g.map .str)] S1= .ok (.lst (g.map .str)) S1 from rfl,sat_ok]
  have:mulD (.lst (g.map .str)) (.int 2) S1= .ok (.lst ((g++g).map .str)) S1:=by
   unfold mulD
   simp only[asL]
   rw[if_pos ⟨by decide,by decide,small (by simp;omega)⟩]
   rw[show (2:Int).toNat=2 from rfl,e1]
  rw[this,sat_ok,add_lst (small (by simp[NM4];omega)),←List.map_append,sat_ok]
  exact⟨rfl,rfl⟩)) rfl ?_
 simp only[List.set_cons_succ,List.set_cons_zero]
 open_k
 refine sat_mono (h.pk hp (by simp[NM4];omega) (by simp[NM4];omega)) ?_
 rintro d S2 ⟨⟨j,rfl,j0,j1⟩,h⟩
 obtain⟨x,hx,ex⟩:=ixm (l:=(NM4++(g++g)).map D.str) j0 j1
 rw[ex,sat_ok]
 obtain⟨s,hs,rfl⟩:=List.mem_map.mp hx
 have hn:s ∈ NM7:=by
  rcases List.mem_append.mp hs with h|h
  ·exact nm47 s h
  ·rcases List.mem_append.mp h with h|h<;>exact hg s h
 exact⟨.nam s,r,rfl,⟨.nam (nm7 s hn),by simp[Tm.nin,hn]⟩,by simp only[Tm.size];omega,h0,by simp only[Tm.dep];omega,h⟩
theorem parts_th {te:ED} {env:EnvD} {k:Nat} (ht:∀(x:D) (S:Store) (r:Int),Stt n m p r S0 S→0≤r→r≤100→(te (env.set 11 (some x)) S).sat (Res n m p k r S0)):∀(xs:List D) (S:Store) (r:Int) (Q:List D→Store→Prop),
 Stt n m p r S0 S→0≤r→r≤100→(∀ (ts:List Tm) (r':Int) (S':Store),ts.length=xs.length→(∀ t ∈ ts,Good t∧t.nin NM7=true)→(Tm.sizes ts:Int)≤xs.length+r-r'→0≤r'→Tm.deps ts≤max 1 k→Stt n m p r' S0 S'→Q (Tm.ds ts) S')→lcSat (gName 11) tYesD te env xs S Q
 | [],S,r,Q,h,h0,h1,hQ=>hQ [] r S rfl (by simp) (by simp[Tm.sizes]) h0 (by simp[Tm.deps]) h
 |x::xs,S,r,Q,h,h0,h1,hQ=>by
  unfold lcSat
  simp only[gName,tYesD,sat_ok,if_true]
  refine sat_mono (ht x S r h h0 h1) ?_
  rintro d S3 ⟨t,r',rfl,g,hs,r0,hd,h⟩
  have:=Tm.size_pos t
  refine parts_th ht xs S3 r' _ h r0 (by omega) fun ts r2 S4 hl hg hz r3 hd2 h2=> ?_
  exact hQ (t::ts) r2 S4 (by simp[hl]) (by
   intro u hu
   rcases List.mem_cons.mp hu with rfl|hu
   ·exact g
   ·exact hg u hu) (by simp only[Tm.sizes,List.length_cons];omega) r3 (by simp only[Tm.deps];omega) h2
def Wq (w:Str) (q:Int):Prop:=∃f mo:Nat,shape w=some (f,mo,false)∧(f:Int)≤q∧q≤mo∧mo≤6
theorem isTh {pk f:FN} {k:Nat} (hp:IsPk pk) (hf:k=0∨IsTh f k):IsTh (run 4 12 (mThing pk f)) (k+1):=fun n m p S0 S deep r g h h0 h1 hd hgk hg=>by
 rw[sat_run]
 refine⟨rfl,?_⟩
 unfold mThing
 simp only[List.map_cons,List.map_nil,List.cons_append,List.nil_append,List.length_cons,List.length_nil,List.replicate,Nat.zero_add,Nat.reduceAdd,Nat.reduceSub]
 refine seq_rule (fun e S1=>∃lot:Int,0≤lot∧lot<14∧e= [some (.obj n),some (.int deep),some (.obj p),some (.tup (g.map .str)),some (.int lot),some (.lst (NM4.map .str)),none,none,none,none,none,none] ∧Stt n m p r S0 S1) ?_ ?_
 ·open_k
  refine sat_mono (h.pk hp (by decide) (by decide)) ?_
  rintro d S1 ⟨⟨i,rfl,i0,i1⟩,h⟩
  exact⟨i,i0,i1,rfl,h⟩
 rintro e S1 ⟨lot,l0,l1,rfl,h⟩
 have hc:(tOr (tOfE (e2 ltD (eVar 1) (eK (.int 2)))) (tOr (tOfE (e2 ltD (e2 ixD (eVar 2) (eK (.int 0))) (eK (.int 6)))) (tOfE (e2 ltD (eVar 4) (eK (.int 2))))))
  [some (.obj n),some (.int deep),some (.obj p),some (.tup (g.map .str)),some (.int lot),some (.lst (NM4.map .str)),none,none,none,none,none,none] S1= .ok (decide (deep<2) || (decide (r<6) || decide (lot<2))) S1:=of_sat (by
  open_k
  by_cases h2:deep<2
  ·simp[h2]
  ·simp only[h2,decide_false,Bool.false_eq_true,if_false,h.ix,sat_ok,lt_int,blD_bl]
   by_cases h3:r<6<;>simp[h3])
 by_cases hb:deep<2∨r<6∨lot<2
 ·refine step_yes (hc.trans (by congr 1;simpa using hb)) ?_
  rw[ssat_seq]
  exact ssat_mono (leaf_th hp (N:=fun _ _=>False) (B:=fun _ _=>False) (C:=fun _ _=>False) h h0 hg (by omega)) (fun _ _ h=>h.elim) (fun _ _ h=>h) (fun _ _ h=>h.elim) (fun _ _ h=>h.elim)
 refine step_no (hc.trans (by congr 1;simp;omega)) ?_
 have hk:k≠0:=fun e=>hb (.inl (by subst e;omega))
 have hf:IsTh f k:=hf.resolve_left hk
 have h6:6≤r:=by omega
 have mk:max 1 k+1≤max 1 (k+1):=by omega
 by_cases h10:10<lot
 ·refine step_yes (S1:=S1) (of_sat (by open_k;exact⟨decide_eq_true h10,trivial⟩)) ?_
  rw[ssat_seq]
  refine seq_rule (fun e S2=>∃w z:Str,(w= "let" ∨w= "each")∧z ∈ NM7∧e= [some (.obj n),some (.int deep),some (.obj p),some (.tup (g.map .str)),some (.int lot),some (.lst (NM4.map .str)),none,some (.str w),some (.str z),none,none,none] ∧Stt n m p r S0 S2) ?_ ?_
  ·open_k
   refine sat_mono (h.pk hp (by decide) (by decide)) ?_
   rintro d S2 ⟨⟨i,rfl,i0,i1⟩,h⟩
   obtain⟨x,hx,ex⟩:=ixm (l:= [D.str "let", .str "each"]) i0 (by simpa using i1)
   rw[ex,sat_ok]
   refine sat_mono (h.pk hp (by decide) (by decide)) ?_
   rintro d S3 ⟨⟨j,rfl,j0,j1⟩,h⟩
   obtain⟨y,hy,ey⟩:=ixm (l:=NM4.map D.str) j0 (by simpa[NM4] using j1)
   rw[ey,sat_ok]
   obtain⟨z,hz,rfl⟩:=List.mem_map.mp hy
   simp only[List.mem_cons,List.not_mem_nil,or_false] at hx
   rcases hx with rfl|rfl
   ·exact⟨_,z, .inl rfl,nm47 z hz,rfl,h⟩
   ·exact⟨_,z, .inr rfl,nm47 z hz,rfl,h⟩
  rintro e S2 ⟨w,z,hw,hz,rfl,h⟩
  refine step_asg (S1:=S2) (of_sat (by open_k;rw[h.ix,sat_ok];open_k)) (h.gs rfl (r-2)) ?_
  replace h:=h.set (r-2)
  generalize S2.set p (.lst [.int (r-2)])=S2 at h
  rw[ssat_seq]
  open_k
  refine sat_mono (hf n m p S0 S2 (deep-1) (r-2) g h (by omega) (by omega) (by omega) (by omega) hg) ?_
  rintro d S3 ⟨t,r3,rfl,gt,zt,r30,dt,h⟩
  have zp:=Tm.size_pos t
  rw[add_tup (small (by simp;omega)),sat_ok]
  have eg:g.map D.str++ [.str z] =(g++ [z]).map D.str:=by simp
  rw[eg]
  refine sat_mono (hf n m p S0 S3 (deep-1) r3 (g++ [z]) h r30 (by omega) (by omega) (by simp;omega) (by
   intro s hs
   rcases List.mem_append.mp hs with hs|hs
   ·exact hg s hs
   ·rw[List.mem_singleton.mp hs];exact hz)) ?_
  rintro d S4 ⟨u,r4,rfl,gu,zu,r40,du,h⟩
  have sh:shape w=some (2,2,true):=by rcases hw with rfl|rfl<;>decide +kernel
  exact⟨.nd w z [t,u],r4,rfl,⟨.nd sh (by simp) (by simp) (fun _=>nm7 z hz) (fun h=>by cases h) (by
   intro q hq
   simp only[List.mem_cons,List.not_mem_nil,or_false] at hq
   rcases hq with rfl|rfl
   ·exact gt.1
   ·exact gu.1),by simp[Tm.nin,Tm.nins,hz,gt.2,gu.2]⟩,by simp only[Tm.size,Tm.sizes];omega,r40,by simp only[Tm.dep,Tm.deps];omega,h⟩
 refine step_no (S1:=S1) (of_sat (by open_k;exact⟨decide_eq_false h10,trivial⟩)) ?_
 refine seq_rule (fun e S2=>∃(w:Str) (q:Int),Wq w q∧e= [some (.obj n),some (.int deep),some (.obj p),some (.tup (g.map .str)),some (.int lot),some (.lst (NM4.map .str)),none,some (.str w),none,none,some (.int q),none] ∧Stt n m p r S0 S2) ?_ ?_
 ·open_k
  refine sat_mono (h.pk hp (by decide) (by decide)) ?_
  rintro d S2 ⟨⟨i,rfl,i0,i1⟩,h⟩
  obtain⟨x,hx,ex⟩:=ixm (l:= [D.str "plus", .str "times", .str "most"]) i0 (by simpa using i1)
  rw[ex,sat_ok]
  have e36:∃v:Int,0<v∧v≤6∧∀S,ixD (.lst [.int 3, .int 6]) (.int (if decide (lot=5)=true then 1 else 0)) S= .ok (.int v) S:=by
   by_cases h5:lot=5
   ·simp only[h5,decide_true,if_true];exact⟨6,by decide,by decide,fun S=>rfl⟩
   ·simp only[h5,decide_false,Bool.false_eq_true,if_false];exact⟨3,by decide,by decide,fun S=>rfl⟩
  obtain⟨v,v0,v6,ev⟩:=e36
  rw[show intD [D.bl (decide (lot=5))] S2= .ok (.int (if decide (lot=5)=true then 1 else 0)) S2 from rfl,sat_ok,ev,sat_ok]
  refine sat_mono (h.pk hp v0 (by omega)) ?_
  rintro d S3 ⟨⟨j,rfl,j0,j1⟩,h⟩
  open_k
  simp only[List.mem_cons,List.not_mem_nil,or_false] at hx
  rcases hx with rfl|rfl|rfl
  all_goals exact⟨_,_,⟨1,6,by decide +kernel,by omega,by omega,by decide⟩,rfl,h⟩
 rintro e S2 ⟨w,q,hw,rfl,h⟩
 refine seq_rule (fun e S2=>∃(w:Str) (q:Int),Wq w q∧e= [some (.obj n),some (.int deep),some (.obj p),some (.tup (g.map .str)),some (.int lot),some (.lst (NM4.map .str)),none,some (.str w),none,none,some (.int q),none] ∧Stt n m p r S0 S2) ?_ ?_
 ·open_k
  by_cases h5:5<lot
  ·rw[decide_eq_true h5,if_pos rfl]
   have e57:∃v:Int,0<v∧v≤7∧∀S,ixD (.lst [.int 5, .int 7]) (.int (if decide (lot=7)=true then 1 else 0)) S= .ok (.int v) S:=by
    by_cases h5:lot=7
    ·simp only[h5,decide_true,if_true];exact⟨7,by decide,by decide,fun S=>rfl⟩
    ·simp only[h5,decide_false,Bool.false_eq_true,if_false];exact⟨5,by decide,by decide,fun S=>rfl⟩
   obtain⟨v,v0,v6,ev⟩:=e57
   rw[show intD [D.bl (decide (lot=7))] S2= .ok (.int (if decide (lot=7)=true then 1 else 0)) S2 from rfl,sat_ok,ev,sat_ok]
   refine sat_mono (h.pk hp v0 (by omega)) ?_
   rintro d S3 ⟨⟨j,rfl,j0,j1⟩,h⟩
   exact⟨_,_,⟨0,6,by decide +kernel,by omega,by omega,by decide⟩,rfl,h⟩
  ·rw[decide_eq_false h5,if_neg Bool.false_ne_true]
   exact⟨_,_,hw,rfl,h⟩
 clear hw h
 rintro e S2 ⟨w,q,hw,rfl,h⟩
 refine seq_rule (fun e S2=>∃(w:Str) (q:Int),Wq w q∧e= [some (.obj n),some (.int deep),some (.obj p),some (.tup (g.map .str)),some (.int lot),some (.lst (NM4.map .str)),none,some (.str w),none,none,some (.int q),none] ∧Stt n m p r S0 S2) ?_ ?_
 ·open_k
  by_cases h5:7<lot
  ·rw[decide_eq_true h5,if_pos rfl]
   refine sat_mono (h.pk hp (by decide) (by decide)) ?_
   rintro d S3 ⟨⟨j,rfl,j0,j1⟩,h⟩
   obtain⟨x,hx,ex⟩:=ixm (l:= [D.tup [.str "say", .int 1], .tup [.str "less", .int 2], .tup [.str "below", .int 2], .tup [.str "if", .int 3]]) j0 (by simpa using j1)
   rw[ex,sat_ok]
   simp only[List.mem_cons,List.not_mem_nil,or_false] at hx
   rcases hx with rfl|rfl|rfl|rfl
   ·open_k
    exact⟨_,_,⟨1,1,by decide +kernel,by decide,by decide,by decide⟩,rfl,h⟩
   ·open_k
    exact⟨_,_,⟨2,2,by decide +kernel,by decide,by decide,by decide⟩,rfl,h⟩
   ·open_k
    exact⟨_,_,⟨2,2,by decide +kernel,by decide,by decide,by decide⟩,rfl,h⟩
   ·open_k
    exact⟨_,_,⟨3,3,by decide +kernel,by decide,by decide,by decide⟩,rfl,h⟩
  ·rw[decide_eq_false h5,if_neg Bool.false_ne_true]
   exact⟨_,_,hw,rfl,h⟩
 clear hw h
 rintro e S2 ⟨w,q,⟨f1,mo,sh,q0,q1,q6⟩,rfl,h⟩
 refine step_asg (S1:=S2) (of_sat (by open_k;rw[h.ix,sat_ok];open_k)) (h.gs rfl (r-q)) ?_
 replace h:=h.set (r-q)
 generalize S2.set p (.lst [.int (r-q)])=S2 at h
 open_k
 refine⟨by simp[okRng];omega,small (by simp;omega),?_⟩
 refine parts_th (k:=k) (fun x S r' h r0 r1=> ?_) _ S2 (r-q) _ h (by omega) (by omega) ?_
 ·open_k
  exact hf n m p S0 S (deep-1) r' g h r0 r1 (by omega) (by omega) hg
 ·intro ts r' S' hl hgt hz r0 hdt h
  rw[rangeD_len] at hl hz
  refine⟨.nd w "" ts,r',rfl,⟨.nd sh (by omega) (by omega) (fun h=>by cases h) (fun _=>rfl) fun t ht=>(hgt t ht).1,?_⟩,?_,r0,by simp only[Tm.dep];omega,h⟩
  ·have:w ∉ GIV:=fun e=>by have:=(shape_giv sh).1.mp e;cases this
   simp only[Tm.nin,this,decide_false,Bool.not_false,Bool.true_or,Bool.true_and]
   exact Tm.nins_all.mpr fun t ht=>(hgt t ht).2
  simp only[Tm.size]
  omega
def IsPr (f:FN):Prop:=∀(n m:Nat) (S:Store),Purse n m S→(f [.obj n] S).sat fun d S'=>∃t:Tm,d=t.d∧(Good t∧t.nin NM7=true)∧t.size≤60∧t.dep≤10∧FrU [n,m] S S'∧Purse n m S'
theorem isPr {pk th:FN} (hp:IsPk pk) (ht:IsTh th 10):IsPr (run 1 3 (mProgram pk th)):=fun n m S h=>by
 rw[sat_run]
 refine⟨rfl,?_⟩
 unfold mProgram
 simp only[List.map_cons,List.map_nil,List.cons_append,List.nil_append,List.length_cons,List.length_nil,List.replicate,Nat.zero_add,Nat.reduceAdd,Nat.reduceSub]
 refine seq_rule (fun e S1=>∃a b:Int,a≤10∧0≤b∧b≤59∧e= [some (.obj n),some (.int a),some (.int b)] ∧FrU [n,m] S S1∧Purse n m S1) ?_ ?_
 ·open_k
  refine sat_mono (hp n m S 6 h (by decide) (by decide)) ?_
  rintro d S1 ⟨⟨i,rfl,i0,i1⟩,fr,h⟩
  obtain⟨x,hx,ex⟩:=ixm (l:= [D.int 10, .int 5, .int 5, .int 4, .int 3, .int 6]) i0 (by simpa using i1)
  rw[ex,sat_ok]
  refine sat_mono (hp n m S1 4 h (by decide) (by decide)) ?_
  rintro d S2 ⟨⟨j,rfl,j0,j1⟩,fr2,h⟩
  obtain⟨y,hy,ey⟩:=ixm (l:= [D.int 8, .int 20, .int 40, .int 59]) j0 (by simpa using j1)
  rw[ey,sat_ok]
  have ha:∃a:Int,x= .int a∧a≤10:=by
   simp only[List.mem_cons,List.not_mem_nil,or_false] at hx
   rcases hx with rfl|rfl|rfl|rfl|rfl|rfl<;>exact⟨_,rfl,by decide⟩
  have hb:∃a:Int,y= .int a∧0≤a∧a≤59:=by
   simp only[List.mem_cons,List.not_mem_nil,or_false] at hy
   rcases hy with rfl|rfl|rfl|rfl<;>exact⟨_,rfl,by decide,by decide⟩
  obtain⟨a,rfl,a1⟩:=ha
  obtain⟨b,rfl,b0,b1⟩:=hb
  exact⟨a,b,a1,b0,b1,rfl,fr.trans fr2,h⟩
 rintro e S1 ⟨a,b,a1,b0,b1,rfl,fr,h⟩
 open_k
 have hl:=h.lt
 have st:Stt n m S1.length b (S1++ [.lst [.int b]]) (S1++ [.lst [.int b]]):=⟨⟨by omega,by omega⟩, .refl,h.app _,by simp⟩
 refine sat_mono (ht n m S1.length _ _ a b [] st b0 (by omega) (by omega) (by simp) (by simp)) ?_
 rintro d S2 ⟨t,r',rfl,g,z,r0,dd,_,fr2,pu,_⟩
 refine⟨t,rfl,g,by omega,by omega,(fr.appR _).cut (p:=S1.length) (fr2.mono (by simp)) fr.le,pu⟩
end
end L3
namespace L3
open PySem L2
local macro_rules| `(tactic| open_k)=> `(tactic| simp only[ssat_seq,ssat_asg,ssat_sRet,ssat_sExpr,ssat_if,ssat_skip,ssat_par,ssat_nx,ssat_ret,ssat_for,sat_e2,sat_e1,sat_eN,sat_aCons,sat_aNil,sat_eVar,sat_eK,sat_tOfE,sat_tTruth,sat_tNot,sat_tAnd,sat_tOr,sat_eIf,sat_eBM,sat_iSeq,sat_iArgs,sat_eAnd,sat_eOr,sat_eNot,sat_eChain,sat_eSl,sat_pNo,sat_pYes,sat_eLc,sat_eKw,sat_mkTup,sat_mkLst,sat_mkObj,sat_ok,callK_eq,List.append_nil,List.map_cons,List.map_nil,List.length_cons,List.length_nil,List.replicate,List.getElem?_cons_succ,List.getElem?_cons_zero,List.cons_append,List.nil_append,List.set_cons_succ,List.set_cons_zero,gName_eq,gTup_tup,gNames_cons,gNames_nil,Nat.zero_add,Nat.reduceAdd,Nat.reduceSub,sz0,sz1,sz2,sz3,sz4,sz5,sz6,sz7,sz8,sz10,sz17,true_and,add_int,sub_int,neg_int,lt_int,le_int,gt_int,ge_int,eq_int,ne_int,blD_bl,truthD_bl,itemsD_lst,itemsD_tup,wipeD,eq_strs,ne_strs,sl_tup,sl_lst,if_true,if_false,Bool.false_eq_true,sat_range1,sat_range2,tuple_lst,tuple_tup,len_tup,len_lst,len_scr,D.int.injEq,exists_eq_left',mt_str])
def mFree (f:FN):SD:=
    sSeq (sIf (tOfE (e2 eqD (e2 ixD (eVar 0) (eK (.int 0))) (eK (.str "name")))) (sRet (eN mkLst (aCons (e2 ixD (eVar 0) (eK (.int 1))) (aNil)))) (sSkip))
    (sSeq (sAsg (eN mkLst (aNil)) (gName 1))
    (sSeq (sFor (iArgs enumA (aCons (e2 ixD (eVar 0) (eK (.int 2))) (aNil))) (gTup [2,3]) (sSeq (sAsg (eN (callK f []) (aCons (eVar 3) (aNil))) (gName 4))
    (sAsg (e2 addD (eVar 1) (eLc (iSeq (eVar 4)) [5] (gName 5) (tNot (tAnd (tOfE (e2 inD (e2 ixD (eVar 0) (eK (.int 0))) (eN mkTup (aCons (eK (.str "let")) (aCons (eK (.str "each")) (aNil)))))) (tAnd (tOfE (e2 eqD (eVar 2) (eK (.int 1)))) (tOfE (e2 eqD (eVar 5) (e2 ixD (eVar 0) (eK (.int 1)))))))) (eVar 5))) (gName 1))))
    (sRet (eVar 1))))
theorem in_lsts {S:Store} {s:Str} {l:List Str} (h:PyData.strOk s=true) (hl:∀s ∈ l,PyData.strOk s=true):memD (.str s) (.lst (l.map .str)) S=some (decide (s ∈ l)):=by
 show memData (toPy (.str s)) (toPy (.lst (l.map .str)))=_
 simp only[memData,toPy,h,if_true,txts_py hl,Option.map_some]
 rw[if_pos (show(PyData.str s).depth≤64 by simp[PyData.depth])]
 congr 1
 rw[Bool.eq_iff_iff]
 simp only[List.any_map,List.any_eq_true,Function.comp,decide_eq_true_eq,PyData.eqv]
 constructor
 ·rintro⟨x,hx,e⟩
  have:x=s:=by simpa using e
  exact this▸hx
 ·intro hx
  exact⟨s,hx,by simp⟩
theorem notin_lsts {S:Store} {s:Str} {l:List Str} (h:PyData.strOk s=true) (hl:∀s ∈ l,PyData.strOk s=true):notInD (.str s) (.lst (l.map .str)) S= .ok (.bl (!decide (s ∈ l))) S:=by
 unfold notInD;rw[in_lsts h hl]
theorem beq_dec (a b:Str):(a==b)=decide (a=b):=by rw[Bool.eq_iff_iff];simp
mutual
/-- the NAMEs asked and not given within -/
def freeL:Tm→List Str
 | .num _=> []
 | .nam s=> [s]
 | .nd w m ps=>freeI w m 0 ps
def freeI (w m:Str):Nat→List Tm→List Str
 | _,[] => []
 |j,p::ps=>(freeL p).filter (fun s=> !(decide (w ∈ GIV)&&(decide (j=1)&&decide (s=m))))++freeI w m (j+1) ps
end
theorem freeI_app (w m:Str):∀(j:Nat) (ps qs:List Tm),freeI w m j (ps++qs)=freeI w m j ps++freeI w m (j+ps.length) qs
 |j,[],qs=>by simp[freeI]
 |j,p::ps,qs=>by
  simp only[List.cons_append,freeI,freeI_app w m (j+1) ps qs,List.append_assoc,List.length_cons]
  congr 3;omega
mutual
theorem freeL_len:∀t:Tm,(freeL t).length≤t.size
 | .num _=>by simp[freeL]
 | .nam _=>by simp[freeL,Tm.size]
 | .nd w m ps=>by have:=freeI_len w m 0 ps;simp only[freeL,Tm.size];omega
theorem freeI_len (w m:Str):∀(j:Nat) (ps:List Tm),(freeI w m j ps).length≤Tm.sizes ps
 | _,[] =>by simp[freeI]
 |j,p::ps=>by
  have h1:=freeL_len p
  have h2:=freeI_len w m (j+1) ps
  have h3:=List.length_filter_le (fun s=> !(decide (w ∈ GIV)&&(decide (j=1)&&decide (s=m)))) (freeL p)
  simp only[freeI,List.length_append,Tm.sizes];omega
end
mutual
theorem freeL_nin {L:List Str} :∀ {t:Tm},t.nin L=true→∀s ∈ freeL t,s ∈ L
 | .num _,_,s,hs=>by simp[freeL] at hs
 | .nam z,h,s,hs=>by
   simp only[freeL,List.mem_singleton] at hs
   subst hs
   simpa[Tm.nin] using h
 | .nd w m ps,h,s,hs=>by
   simp only[Tm.nin,Bool.and_eq_true] at h
   exact freeI_nin h.2 s hs
theorem freeI_nin {L:List Str} {w m:Str} :∀ {j:Nat} {ps:List Tm},Tm.nins L ps=true→∀s ∈ freeI w m j ps,s ∈ L
 | _,[],_,s,hs=>by simp[freeI] at hs
 |j,p::ps,h,s,hs=>by
  simp only[Tm.nins,Bool.and_eq_true] at h
  simp only[freeI,List.mem_append] at hs
  rcases hs with hs|hs
  ·exact freeL_nin h.1 s (List.mem_filter.mp hs).1
  ·exact freeI_nin h.2 s hs
end
section
variable {S:Store}
theorem td0 (t:Tm):ixD t.d (.int 0) S= .ok t.w S:=by rw[Tm.d_eq];rfl
theorem td1 (t:Tm):ixD t.d (.int 1) S= .ok t.m S:=by rw[Tm.d_eq];rfl
theorem td2 (t:Tm):ixD t.d (.int 2) S= .ok (.tup (Tm.ds t.parts)) S:=by rw[Tm.d_eq];rfl
end
theorem lc_fs {tt:TD} {te:ED} {env:EnvD} {i:Nat} {S:Store} (b:Str→Bool) (f:Str→Str):∀ {l:List Str} {Q:List D→Store→Prop},(∀ s ∈ l,tt (env.set i (some (.str s))) S= .ok (b s) S∧(b s=true→te (env.set i (some (.str s))) S= .ok (.str (f s)) S))→Q (((l.filter b).map f).map .str) S→lcSat (gName i) tt te env (l.map .str) S Q
 | [],Q,h,q=>q
 |s::l,Q,h,q=>by
  obtain⟨h1,h2⟩:=h s List.mem_cons_self
  have ih:=fun Q=>lc_fs (tt:=tt) (te:=te) (env:=env) (i:=i) (S:=S) b f (l:=l) (Q:=Q) fun x hx=>h x (List.mem_cons_of_mem _ hx)
  rw[List.map_cons]
  unfold lcSat
  simp only[gName,h1,sat_ok]
  cases hb:b s with
  |true=>
   rw[if_pos rfl,h2 hb,sat_ok]
   refine ih _ ?_
   rw[List.filter_cons_of_pos hb] at q
   exact q
  |false=>
   rw[if_neg Bool.false_ne_true]
   refine ih _ ?_
   rw[List.filter_cons_of_neg (by simp[hb])] at q
   exact q
def IsFr (f:FN) (k:Nat):Prop:=∀(t:Tm) (S:Store),Good t→t.dep≤k→t.size≤1000→f [t.d] S= .ok (.lst ((freeL t).map .str)) S
theorem isFr {f:FN} {k:Nat} (hf:IsFr f k):IsFr (run 1 6 (mFree f)) (k+1):=fun t S ht hd hs=>by
 apply of_sat
 rw[sat_run]
 refine⟨rfl,?_⟩
 unfold mFree
 simp only[List.map_cons,List.map_nil,List.cons_append,List.nil_append,List.length_cons,List.length_nil,List.replicate,Nat.zero_add,Nat.reduceAdd,Nat.reduceSub]
 cases t with
 |nam s=>
  refine step_ret (S1:=S) (of_sat (by open_k;rw[td0,sat_ok];simp only[Tm.w,eq_strs,sat_ok,blD_bl];exact⟨rfl,trivial⟩)) ?_
  open_k
  rw[td1,sat_ok]
  exact⟨rfl,rfl⟩
 |num i=>
  refine step_no (S1:=S) (of_sat (by open_k;rw[td0,sat_ok];simp only[Tm.w,eq_strs,sat_ok,blD_bl];exact⟨by decide +kernel,trivial⟩)) ?_
  open_k
  rw[td2,sat_ok]
  simp only[Tm.parts,Tm.ds]
  rw[show enumA [.tup []] S= .ok [] S from rfl,sat_ok,forL_nil]
  exact⟨rfl,rfl⟩
 |nd w m ps=>
  obtain⟨h1,h2,h3,h4,h5,h6,h7,h8⟩:=ht.nd_word
  refine step_no (S1:=S) (of_sat (by open_k;rw[td0,sat_ok];simp only[Tm.w,eq_strs,sat_ok,blD_bl];exact⟨by simp[h3],trivial⟩)) ?_
  refine step_asg (S1:=S) (S2:=S) (d:= .lst []) (of_sat (by open_k)) rfl ?_
  simp only[List.set_cons_succ,List.set_cons_zero]
  have hss:Tm.sizes ps≤1000:=by simp only[Tm.size] at hs;omega
  refine seq_rule (fun e S1=>S1=S∧∃a b c d:Option D,e= [some (Tm.nd w m ps).d,some (.lst ((freeI w m 0 ps).map .str)),a,b,c,d]) ?_ ?_
  ·rw[ssat_for,sat_iArgs]
   simp only[sat_aCons,sat_aNil,sat_eVar,sat_e2,sat_eK,List.getElem?_cons_zero]
   rw[td2,sat_ok]
   simp only[Tm.parts]
   rw[show enumA [.tup (Tm.ds ps)] S= .ok (enumL 0 (Tm.ds ps)) S from rfl,sat_ok]
   refine for_rule (fun j e S1=>S1=S∧∃a b c d:Option D,e= [some (Tm.nd w m ps).d,some (.lst ((freeI w m 0 (ps.take j)).map .str)),a,b,c,d]) ⟨rfl,_,_,_,_,rfl⟩ ?_ ?_
   ·rintro j hj e S1 ⟨rfl,a,b,c,d,rfl⟩
    rw[enumL_len,Tm.ds_len] at hj
    have hx:(enumL 0 (Tm.ds ps))[j]'(by rw [enumL_len, Tm.ds_len]; exact hj) = .tup [.int (j : Nat), (ps[j]'hj).d] :=by
     have h0:=List.getElem?_eq_getElem (l:=enumL 0 (Tm.ds ps)) (i:=j) (by rw[enumL_len,Tm.ds_len];exact hj)
     obtain⟨y,e1,e2⟩:=enumL_get 0 (Tm.ds ps) j _ h0
     rw[Tm.ds_map,List.getElem?_map,List.getElem?_eq_getElem hj] at e1
     simp only[Option.map_some,Option.some.injEq] at e1
     rw[e2,←e1,Nat.zero_add]
    rw[hx]
    simp only[gTup_tup,gNames_cons,gNames_nil,ssat_nx,List.set_cons_succ,List.set_cons_zero]
    have hm:=List.getElem_mem hj
    have hz:=Tm.sizes_mem hm
    have hdd:(ps[j]'hj).dep≤k:=Tm.deps_le.mp (by simp only[Tm.dep] at hd;omega) _ hm
    refine step_asg (S1:=S1) (S2:=S1) (d:= .lst ((freeL (ps[j]'hj)).map .str)) (of_sat (by open_k;rw[hf _ S1 (h5 _ hm) hdd (by omega),sat_ok];exact⟨rfl,rfl⟩)) rfl ?_
    simp only[List.set_cons_succ,List.set_cons_zero]
    open_k
    have hl1:=freeL_len (ps[j]'hj)
    have hl2:=freeI_len w m 0 ps
    refine⟨by rw[List.length_map];exact small (by omega),?_⟩
    refine lc_fs (fun s=> !(decide (w ∈ GIV)&&(decide (j=1)&&decide (s=m)))) (fun s=>s) (fun s hs=>⟨of_sat ?_,fun _=>of_sat ?_⟩) ?_
    ·open_k
     rw[td0,sat_ok]
     simp only[Tm.w]
     rw[in_giv h1,sat_ok]
     open_k
     by_cases hw:w ∈ GIV
     ·simp only[hw,decide_true,if_true,Bool.true_and]
      by_cases h1:((j:Nat):Int)=1
      ·have:j=1:=by omega
       simp only[h1,this,decide_true,if_true,Bool.true_and]
       rw[td1,sat_ok]
       simp only[Tm.m,eq_strs,sat_ok,blD_bl,beq_dec]
       exact⟨trivial,trivial⟩
      ·have: ¬j=1:=by omega
       simp only[h1,this,decide_false,Bool.false_eq_true,if_false,Bool.false_and]
       exact⟨trivial,trivial⟩
     ·simp only[hw,decide_false,Bool.false_eq_true,if_false,Bool.false_and]
      exact⟨trivial,trivial⟩
    ·open_k
    ·have ht:ps.take (j+1)=ps.take j++ [ps[j]'hj] :=List.take_succ_eq_append_getElem hj
     have hl3:(freeI w m 0 (ps.take j)).length≤1000:=by
      have:=congrArg List.length (congrArg (freeI w m 0) (List.take_append_drop j ps))
      rw[freeI_app] at this
      simp at this;omega
     rw[List.map_id',add_lst]
     ·rw[sat_ok,←List.map_append]
      have efi:freeI w m 0 (ps.take (j+1))=freeI w m 0 (ps.take j)++(freeL (ps[j]'hj)).filter fun s=> !(decide (w ∈ GIV)&&(decide (j=1)&&decide (s=m))):=by
       rw[ht,freeI_app]
       simp only[List.length_take,Nat.zero_add,freeI,List.append_nil]
       rw[Nat.min_eq_left (by omega)]
      rw[efi]
      exact⟨rfl,_,_,_,_,rfl⟩
     ·have:=List.length_filter_le (fun s=> !(decide (w ∈ GIV)&&(decide (j=1)&&decide (s=m)))) (freeL (ps[j]'hj))
      simp only[List.length_map]
      exact Nat.le_trans (by omega:_≤2000) (by decide)
   ·rintro e S1 ⟨rfl,a,b,c,d,rfl⟩
    rw[enumL_len,Tm.ds_len,List.take_length]
    exact⟨rfl,a,b,c,d,rfl⟩
  rintro e S1 ⟨rfl,a,b,c,d,rfl⟩
  open_k
  exact⟨rfl,trivial⟩
end L3
namespace L3
open PySem L2
def mTurned (pk fr f:FN):SD:=
    sSeq (sIf (tOfE (e2 eqD (e2 ixD (eVar 1) (eK (.int 0))) (eK (.str "name")))) (sRet (eN mkTup (aCons (eK (.str "name")) (aCons (eBM "dict" dgetD (eVar 2) (aCons (e2 ixD (eVar 1) (eK (.int 1))) (aCons (e2 ixD (eVar 1) (eK (.int 1))) (aNil)))) (aCons (eN mkTup (aNil)) (aNil)))))) (sSkip))
    (sSeq (sIf (tOfE (e2 inD (e2 ixD (eVar 1) (eK (.int 0))) (eN mkTup (aCons (eK (.str "let")) (aCons (eK (.str "each")) (aNil)))))) (sSeq (sAsg (eLc (iSeq (eN (callK fr []) (aCons (e2 ixD (e2 ixD (eVar 1) (eK (.int 2))) (eK (.int 1))) (aNil)))) [4] (gName 4) (tOfE (e2 neD (eVar 4) (e2 ixD (eVar 1) (eK (.int 1))))) (eBM "dict" dgetD (eVar 2) (aCons (eVar 4) (aCons (eVar 4) (aNil))))) (gName 3))
    (sSeq (sAsg (eLc (iSeq (eN mkLst (aCons (eK (.str "x")) (aCons (eK (.str "y")) (aCons (eK (.str "ab")) (aCons (eK (.str "zzzzzzzz")) (aCons (eK (.str "q")) (aCons (eK (.str "abc")) (aCons (eK (.str "y")) (aCons (eK (.str "w")) (aNil))))))))))) [4] (gName 4) (tOfE (e2 notInD (eVar 4) (eVar 3))) (eVar 4)) (gName 5))
    (sSeq (sAsg (eN dictO (aCons (eVar 2) (aNil))) (gName 6))
    (sSeq (sAsg (e2 ixD (eVar 5) (eN (callK pk []) (aCons (eVar 0) (aCons (eN lenD (aCons (eVar 5) (aNil))) (aNil))))) (gSub (eVar 6) (e2 ixD (eVar 1) (eK (.int 1)))))
    (sSeq (sAsg (eN mkTup (aCons (eN (callK f []) (aCons (eVar 0) (aCons (e2 ixD (e2 ixD (eVar 1) (eK (.int 2))) (eK (.int 0))) (aCons (eVar 2) (aNil))))) (aCons (eN (callK f []) (aCons (eVar 0) (aCons (e2 ixD (e2 ixD (eVar 1) (eK (.int 2))) (eK (.int 1))) (aCons (eVar 6) (aNil))))) (aNil)))) (gName 7))
    (sRet (eN mkTup (aCons (e2 ixD (eVar 1) (eK (.int 0))) (aCons (e2 ixD (eVar 6) (e2 ixD (eVar 1) (eK (.int 1)))) (aCons (eVar 7) (aNil))))))))))) (sSkip))
    (sSeq (sAsg (eLcN (iSeq (e2 ixD (eVar 1) (eK (.int 2)))) [8] (gName 8) (tYesD) (eN (callK f []) (aCons (eVar 0) (aCons (eVar 8) (aCons (eVar 2) (aNil)))))) (gName 7))
    (sSeq (sIf (tOfE (e2 inD (e2 ixD (eVar 1) (eK (.int 0))) (eN mkTup (aCons (eK (.str "plus")) (aCons (eK (.str "times")) (aCons (eK (.str "most")) (aNil))))))) (sSeq (sPar [9,7] (aCons (eVar 7) (aCons (eN mkObj (aNil)) (aNil))))
    (sFrz 9 (sFor (iSeq (eVar 9)) (gName 8) (sExpr (eBM "list" insertD (eVar 7) (aCons (eN (callK pk []) (aCons (eVar 0) (aCons (e2 addD (eN lenD (aCons (eVar 7) (aNil))) (eK (.int 1))) (aNil)))) (aCons (eVar 8) (aNil)))))))) (sSkip))
    (sRet (eN mkTup (aCons (e2 ixD (eVar 1) (eK (.int 0))) (aCons (e2 ixD (eVar 1) (eK (.int 1))) (aCons (eN tupleD (aCons (eVar 7) (aNil))) (aNil)))))))))
theorem dget_put {kvs:List (Key × D)} {k k':Key} {v:D} :dGet (putD kvs k v) k'=if k=k' then some v else dGet kvs k':=by
 have A:∀kvs:List (Key × D),dGet (kvs.map fun kv=>if kv.1=k then(kv.1,v) else kv) k'=if k=k'∧(kvs.any fun kv=>decide (kv.1=k))=true then some v else dGet kvs k':=by
  intro kvs
  induction kvs with
  |nil=>simp[dGet]
  |cons p r ih=>
   simp only[dGet,List.map_cons,List.find?_cons,List.any_cons] at ih ⊢
   by_cases h:p.1=k
   ·by_cases h2:k=k'
    ·subst h2;simp[h]
    ·have h3: ¬p.1=k':=fun e=>h2 (h▸e)
     simp only[h,if_true,h2,decide_false,false_and,if_false] at ih ⊢
     exact ih
   ·by_cases h3:p.1=k'
    ·have h2: ¬k=k':=fun e=>h (by rw[h3,e])
     simp only[h,if_false]
     rw[decide_eq_true h3,if_neg (fun x:k=k'∧_=>h2 x.1)]
    ·simp only[h,if_false,h3,decide_false,Bool.false_or] at ih ⊢
     exact ih
 unfold putD
 split
 ·rename_i h
  rw[A]
  simp[h]
 ·rename_i h
  simp only[dGet,List.find?_append]
  by_cases h2:k=k'
  ·subst h2
   have:kvs.find? (fun kv=>decide (kv.1=k))=none:=by
    rw[List.find?_eq_none]
    intro x hx hk
    exact h (List.any_eq_true.mpr ⟨x,hx,hk⟩)
   simp[this]
  ·simp[h2]
theorem put_lenP {kvs:List (Key × D)} {k:Key} {v:D} :(putD kvs k v).length≤kvs.length+1:=by
 unfold putD;split<;>simp
theorem pigeon:∀ {l l':List Str},l.Nodup→(∀ x ∈ l,x ∈ l')→l.length≤l'.length
 | [],_,_,_=>Nat.zero_le _
 |x::l,l',nd,h=>by
  rw[List.nodup_cons] at nd
  have hx:=h x List.mem_cons_self
  have ih:=pigeon (l:=l) (l':=l'.erase x) nd.2 fun y hy=>by
   have:y≠x:=fun e=>nd.1 (e▸hy)
   exact(List.mem_erase_of_ne this).mpr (h y (List.mem_cons_of_mem _ hy))
  have:=List.length_erase_of_mem hx
  have:=List.length_pos_of_mem hx
  simp only[List.length_cons];omega
theorem ok7:∀s ∈ NM7,PyData.strOk s=true:=by decide +kernel
def NM8:List Str:= ["x","y","ab","zzzzzzzz","q","abc","y","w"]
theorem nm87:∀s ∈ NM8,s ∈ NM7:=by decide +kernel
theorem nm78:∀s ∈ NM7,s ∈ NM8:=by decide +kernel
theorem nd7:NM7.Nodup:=by decide +kernel
theorem some_left {l:List Str} {m:Str} {c:Str→Str} (hm:m ∈ NM7) (hl:∀s ∈ l,s ∈ NM7∧s≠m):∃s ∈ NM8,s ∉ l.map c:=by
 refine Classical.byContradiction fun no=> ?_
 have all:∀s ∈ NM7,s ∈ ((NM7.erase m).map c):=fun s hs=>by
  have:s ∈ l.map c:=Classical.byContradiction fun h=>no ⟨s,nm78 s hs,h⟩
  obtain⟨x,hx,rfl⟩:=List.mem_map.mp this
  obtain⟨h1,h2⟩:=hl x hx
  exact List.mem_map.mpr ⟨x,(List.mem_erase_of_ne h2).mpr h1,rfl⟩
 have:=pigeon nd7 all
 rw[List.length_map,List.length_erase_of_mem hm] at this
 have h7:NM7.length=7:=rfl
 omega
def CD (cd:D) (c:Str→Str) (L:Nat) (S:Store):Prop:=∃kvs,dkAt cd S=some kvs∧kvs.length≤L∧∀s,(dGet kvs (.inr s)).getD (.str s)= .str (c s)
def Off (n m:Nat) (cd:D):Prop:=∀q,cd= .obj q→q≠n∧q≠m
theorem CD.nil {S:Store} :CD (.dic [] []) (fun s=>s) 0 S:=⟨[],rfl,Nat.le_refl _,fun s=>rfl⟩
theorem dkAt_fr {n m:Nat} {cd:D} {S S':Store} {kvs:List (Key × D)} (o:Off n m cd) (fr:FrU [n,m] S S') (h:dkAt cd S=some kvs):dkAt cd S'=some kvs:=by
 cases cd with
 |obj q=>
  obtain⟨h1,h2⟩:=o q rfl
  have e:S[q]? =some (.dK kvs):=by
   unfold dkAt at h
   simp only at h
   split at h
   ·rename_i kvs' e
    rw[e];cases h;rfl
   ·cases h
  have:=fr.fr q _ (by simp[h1,h2]) e
  unfold dkAt
  simp only[this]
 | _=>exact h
theorem CD.fr {n m:Nat} {cd:D} {c:Str→Str} {L:Nat} {S S':Store} (h:CD cd c L S) (o:Off n m cd) (fr:FrU [n,m] S S'):CD cd c L S':=by
 obtain⟨kvs,h1,h2,h3⟩:=h
 exact⟨kvs,dkAt_fr o fr h1,h2,h3⟩
theorem dkAt_mt {cd:D} {S:Store} {kvs:List (Key × D)} (h:dkAt cd S=some kvs):mtD cd S=some "dict" :=by
 cases cd with
 |obj q=>
  unfold dkAt at h
  simp only at h
  split at h
  ·rename_i kvs' e
   unfold mtD;simp only[e]
  ·cases h
 |dic ks l=>rfl
 | _=>cases h
theorem CD.mt {cd:D} {c:Str→Str} {L:Nat} {S:Store} (h:CD cd c L S):mtD cd S=some "dict" :=by
 obtain⟨kvs,h1,_⟩:=h
 exact dkAt_mt h1
theorem CD.get {cd:D} {c:Str→Str} {L:Nat} {S:Store} (h:CD cd c L S) (s:Str):dgetD cd [.str s, .str s] S= .ok (.str (c s)) S:=by
 obtain⟨kvs,h1,_,h3⟩:=h
 unfold dgetD
 simp only[h1,keyOf,h3]
def upd (c:Str→Str) (m z:Str):Str→Str:=fun s=>if s=m then z else c s
inductive Tn:(Str→Str)→Tm→Tm→Prop where
 |num {c:Str→Str} (i:Int):Tn c (.num i) (.num i)
 |nam {c:Str→Str} (s:Str):Tn c (.nam s) (.nam (c s))
 |giv {c:Str→Str} {w m z:Str} {a b a' b':Tm} :w ∈ GIV→Tn c a a'→z ∈ NM7→z ∉ ((freeL b).filter fun s=> !decide (s=m)).map c→Tn (upd c m z) b b'→Tn c (.nd w m [a,b]) (.nd w z [a',b'])
 |nd {c:Str→Str} {w m:Str} {ps us qs:List Tm} :w ∉ GIV→ps.length=us.length→(∀ i (h:i<ps.length) (h':i<us.length),Tn c ps[i] us[i])→qs.Perm us→(isHeap w=false→qs=us)→Tn c (.nd w m ps) (.nd w m qs)
section
variable {mi:ID} {vs:List Nat} {g:GD} {tt:TD} {te:ED} {env:EnvD} {S:Store} {Q:D→Store→Prop}
theorem sat_eLcN:(eLcN mi vs g tt te env S).sat Q=(mi env S).sat fun xs S1=>(xs.length≤sizeLine∧(lcN S1.length g tt te (wipeD env vs) xs (S1++ [.lst []])).sat Q):=by
 unfold eLcN;rw[sat_bind];congr;funext xs S1;rw[sat_if_bad]
end
theorem lcN_tm {te:ED} {env:EnvD} {i N n m:Nat} {S0:Store} {Rl:Tm→Tm→Prop} (hN:S0.length≤N) (hn:N≠n) (hm:N≠m):∀(ps acc:List Tm) (S:Store),(∀ t ∈ ps,∀S,FrU [n,m] S0 S→Purse n m S→(te (env.set i (some t.d)) S).sat fun d S'=>∃u:Tm,d=u.d∧Rl t u∧FrU [n,m] S S'∧Purse n m S')→
 FrU [n,m] S0 S→Purse n m S→S[N]? =some (.lst (Tm.ds acc))→acc.length+ps.length≤1000→
 (lcN N (gName i) tYesD te env (Tm.ds ps) S).sat fun d S'=>d= .obj N∧∃us:List Tm,ps.length=us.length∧(∀ i (h:i<ps.length) (h':i<us.length),Rl ps[i] us[i])∧FrU [n,m] S0 S'∧Purse n m S'∧S'[N]? =some (.lst (Tm.ds (acc++us)))
 | [],acc,S,ht,fr,pu,hN',hl=>by
   unfold lcN
   simp only[Tm.ds]
   exact .mk ⟨rfl,[],rfl,fun i h=>by simp at h,fr,pu,by simpa using hN'⟩
 |t::ps,acc,S,ht,fr,pu,hN',hl=>by
  simp only[Tm.ds]
  unfold lcN
  simp only[gName,tYesD,R.nox,R.bind]
  obtain⟨d,S2,e,u,rfl,hr,fr2,pu2⟩:=sat_ex.mp (ht t List.mem_cons_self S fr pu)
  rw[e]
  have h2:=fr2.fr N _ (by simp[hn,hm]) hN'
  simp only[R.nox,R.bind,h2]
  rw[if_pos (by rw[Tm.ds_len];exact Nat.lt_of_lt_of_le (by simp only[List.length_cons] at hl;omega:acc.length<1000) (by decide))]
  have hlt:N<S2.length:=(List.getElem?_eq_some_iff.mp h2).1
  refine sat_mono (lcN_tm hN hn hm ps (acc++ [u]) (S2.set N (.lst (Tm.ds acc++ [u.d]))) (fun t ht'=>ht t (List.mem_cons_of_mem _ ht')) ((fr.trans fr2).put hN _) (pu2.fr (X:= [N]) (.set (by simp) _) (by simp[Ne.symm hn]) (by simp[Ne.symm hm])) ?_ (by simp only[List.length_append,List.length_cons,List.length_nil] at hl ⊢;omega)) ?_
  ·rw[List.getElem?_set_self hlt,Tm.ds_app];rfl
  ·rintro d S' ⟨rfl,us,h1,h3,h4,h5,h6⟩
   refine⟨rfl,u::us,by simp[h1],?_,h4,h5,by rw[h6];simp⟩
   intro i h h'
   cases i with
   |zero=>exact hr
   |succ i=>exact h3 i (by simpa using h) (by simpa using h')
end L3
namespace L3
open PySem L2
local macro_rules| `(tactic| open_k)=> `(tactic| simp only[ssat_seq,ssat_asg,ssat_sRet,ssat_sExpr,ssat_if,ssat_skip,ssat_par,ssat_nx,ssat_ret,ssat_for,sat_e2,sat_e1,sat_eN,sat_aCons,sat_aNil,sat_eVar,sat_eK,sat_tOfE,sat_tTruth,sat_tNot,sat_tAnd,sat_tOr,sat_eIf,sat_eBM,sat_iSeq,sat_iArgs,sat_eAnd,sat_eOr,sat_eNot,sat_eChain,sat_eSl,sat_pNo,sat_pYes,sat_eLc,sat_eKw,sat_mkTup,sat_mkLst,sat_mkObj,sat_ok,callK_eq,List.append_nil,List.map_cons,List.map_nil,List.length_cons,List.length_nil,List.replicate,List.getElem?_cons_succ,List.getElem?_cons_zero,List.cons_append,List.nil_append,List.set_cons_succ,List.set_cons_zero,gName_eq,gTup_tup,gNames_cons,gNames_nil,Nat.zero_add,Nat.reduceAdd,Nat.reduceSub,sz0,sz1,sz2,sz3,sz4,sz5,sz6,sz7,sz8,sz10,sz17,true_and,add_int,sub_int,neg_int,lt_int,le_int,gt_int,ge_int,eq_int,ne_int,blD_bl,truthD_bl,itemsD_lst,itemsD_tup,wipeD,eq_strs,ne_strs,sl_tup,sl_lst,if_true,if_false,Bool.false_eq_true,sat_range1,sat_range2,tuple_lst,tuple_tup,len_tup,len_lst,len_scr,D.int.injEq,exists_eq_left',mt_str])
def IsTn (f:FN) (k:Nat):Prop:=∀(t:Tm) (n m:Nat) (cd:D) (c:Str→Str) (L:Nat) (S:Store),Good t→t.nin NM7=true→t.dep≤k→t.size≤1000→Purse n m S→Off n m cd→CD cd c L S→L+t.dep≤200→(∀ s ∈ NM7,c s ∈ NM7)→(f [.obj n,t.d,cd] S).sat fun d S'=>∃u:Tm,d=u.d∧Tn c t u∧FrU [n,m] S S'∧Purse n m S'
def isNamT:Tm→Bool
 | .nam _=>true
 | _=>false
def isGivT:Tm→Bool
 | .nd w _ _=>decide (w ∈ GIV)
 | _=>false
def isHeapT:Tm→Bool
 | .nd w _ _=>isHeap w
 | _=>false
theorem w_name {t:Tm} {S:Store} (h:Good t):eqD t.w (.str "name") S= .ok (.bl (isNamT t)) S:=by
 cases t with
 |num i=>simp only[Tm.w,eq_strs];rfl
 |nam s=>simp only[Tm.w,eq_strs];rfl
 |nd w m ps=>obtain⟨h1,h2,h3,h4⟩:=h.nd_word;simp only[Tm.w,eq_strs];simp[h3,isNamT]
theorem w_giv {t:Tm} {S:Store} (h:Good t):inD t.w (.tup [.str "let", .str "each"]) S= .ok (.bl (isGivT t)) S:=by
 cases t with
 |num i=>simp only[Tm.w];rw[in_giv (by decide +kernel)];rfl
 |nam s=>simp only[Tm.w];rw[in_giv (by decide +kernel)];rfl
 |nd w m ps=>obtain⟨h1,h2,h3,h4⟩:=h.nd_word;simp only[Tm.w];rw[in_giv h1];rfl
theorem w_heap {t:Tm} {S:Store} (h:Good t):inD t.w (.tup [.str "plus", .str "times", .str "most"]) S= .ok (.bl (isHeapT t)) S:=by
 cases t with
 |num i=>simp only[Tm.w];rw[in_heap (by decide +kernel)];rfl
 |nam s=>simp only[Tm.w];rw[in_heap (by decide +kernel)];rfl
 |nd w m ps=>obtain⟨h1,h2,h3,h4⟩:=h.nd_word;simp only[Tm.w];rw[in_heap h1];rfl
theorem Good.giv {w m:Str} {ps:List Tm} (h:Good (.nd w m ps)) (hw:w ∈ GIV):∃a b,ps= [a,b] :=by
 cases h with
 | @nd _ _ _ f mo g sh h1 h2 _ _ _=>
   obtain⟨e1,e2⟩:=shape_giv sh
   have:=e2 (e1.mp hw)
   match ps,h1,h2 with
   | [a,b],_,_=>exact⟨a,b,rfl⟩
   | [],h1,_=>simp at h1;omega
   | [_],h1,_=>simp at h1;omega
   | _::_::_::_,_,h2=>simp at h2;omega
theorem Off.new {n m:Nat} {S:Store} (h:Purse n m S):Off n m (.obj S.length):=fun q e=>by
 cases e
 have:=h.lt
 omega
section
variable {n m:Nat}
theorem heap_tn {pk:FN} (hp:IsPk pk) {env:EnvD} {S S1:Store} {N:Nat} {us:List Tm} (pS:Purse n m S) (pu:Purse n m S1) (fr:FrU [n,m] S S1) (hNS:S.length≤N) (hN:S1[N]? =some (.lst (Tm.ds us))) (hl:us.length≤100) (t cd:D) (a3 a4 a5 a6 a8 a9:Option D):
 (sSeq (sPar [9,7] (aCons (eVar 7) (aCons (eN mkObj (aNil)) (aNil))))
 (sFrz 9 (sFor (iSeq (eVar 9)) (gName 8) (sExpr (eBM "list" insertD (eVar 7) (aCons (eN (callK pk []) (aCons (eVar 0) (aCons (e2 addD (eN lenD (aCons (eVar 7) (aNil))) (eK (.int 1))) (aNil)))) (aCons (eVar 8) (aNil)))))))
 [some (.obj n),some t,some cd,a3,a4,a5,a6,some (.obj N),a8,a9] S1).sat (fun e S2=>∃(N2:Nat) (qs:List Tm) (a8 a9:Option D),e= [some (.obj n),some t,some cd,a3,a4,a5,a6,some (.obj N2),a8,a9] ∧qs.Perm us∧S2[N2]? =some (.lst (Tm.ds qs))∧FrU [n,m] S S2∧Purse n m S2) (fun _ _=>False) (fun _ _=>False) (fun _ _=>False):=by
 have hNl:N<S1.length:=(List.getElem?_eq_some_iff.mp hN).1
 have hpl:=pu.lt
 have hne:N≠n∧N≠m:=by have:=pS.lt;omega
 rw[ssat_seq,ssat_par]
 open_k
 have hfz:frzD (.obj N) (S1++ [O.lst []])= .ok (.lst (Tm.ds us)) ((S1++ [O.lst []]).set N .dead):=by
  unfold frzD
  simp only[List.getElem?_append_left hNl,hN]
 have key:∀m':SD,sFrz 9 m' [some (.obj n),some t,some cd,a3,a4,a5,a6,some (.obj S1.length),a8,some (.obj N)] (S1++ [O.lst []])=m' [some (.obj n),some t,some cd,a3,a4,a5,a6,some (.obj S1.length),a8,some (.lst (Tm.ds us))] ((S1++ [O.lst []]).set N .dead):=fun m'=>by
  unfold sFrz
  simp only[List.getElem?_cons_succ,List.getElem?_cons_zero,hfz,List.set_cons_succ,List.set_cons_zero]
 rw[key,ssat_for]
 open_k
 have fr0:FrU [n,m] S ((S1++ [O.lst []]).set N .dead):=(fr.appR _).put hNS _
 have pu0:Purse n m ((S1++ [O.lst []]).set N .dead):=(pu.app _).fr (X:= [N]) (.set (by simp) _) (by simp[Ne.symm hne.1]) (by simp[Ne.symm hne.2])
 have g0:((S1++ [O.lst []]).set N .dead)[S1.length]? =some (.lst []):=by
  rw[List.getElem?_set_ne (by omega)];simp
 have hN2:S1.length≠n∧S1.length≠m:=⟨by omega,by omega⟩
 have hSl:S.length≤S1.length:=fr.le
 refine for_rule (fun j e S2=>∃(qs:List Tm) (a8:Option D),e= [some (.obj n),some t,some cd,a3,a4,a5,a6,some (.obj S1.length),a8,some (.lst (Tm.ds us))] ∧qs.Perm (us.take j)∧S2[S1.length]? =some (.lst (Tm.ds qs))∧FrU [n,m] S S2∧Purse n m S2) ⟨[],_,rfl,by simp,g0,fr0,pu0⟩ ?_ ?_
 ·rintro j hj e S2 ⟨qs,b8,rfl,hq,g2,fr2,pu2⟩
  rw[Tm.ds_len] at hj
  have hx:(Tm.ds us)[j]'(by rw [Tm.ds_len]; exact hj) = (us[j]'hj).d:=by
   simp only[Tm.ds_map,List.getElem_map]
  rw[hx,gName_eq,ssat_nx]
  simp only[List.set_cons_succ,List.set_cons_zero]
  have hql:qs.length≤100:=by rw[hq.length_eq];simp;omega
  rw[ssat_sExpr,sat_eBM]
  simp only[sat_eVar,List.getElem?_cons_succ,List.getElem?_cons_zero]
  refine⟨mtD_obj g2,?_⟩
  open_k
  rw[len_obj g2,sat_ok]
  open_k
  refine sat_mono (hp n m S2 _ pu2 (by omega) (by rw[Tm.ds_len];omega)) ?_
  rintro d S3 ⟨⟨i,rfl,i0,i1⟩,fr3,pu3⟩
  have g3:=fr3.fr S1.length _ (by simp[hN2.1,hN2.2]) g2
  rw[Tm.ds_len] at i1
  have hi:insertD (.obj S1.length) [.int i,(us[j]'hj).d] S3 = .ok .non (S3.set S1.length (.lst (Tm.ds (qs.take i.toNat ++ [us[j]'hj] ++qs.drop i.toNat)))):=by
   unfold insertD
   simp only[lstAt,g3]
   rw[if_pos ⟨by rw[Tm.ds_len];exact Nat.lt_of_lt_of_le (by omega:qs.length<1000) (by decide),i0,by omega⟩]
   simp[Tm.ds_map,List.map_take,List.map_drop]
  rw[hi,sat_ok]
  have hl3:S1.length<S3.length:=(List.getElem?_eq_some_iff.mp g3).1
  refine⟨qs.take i.toNat++ [us[j]'hj] ++qs.drop i.toNat,_,rfl,?_,by rw[List.getElem?_set_self hl3],(fr2.trans fr3).put hSl _,pu3.fr (X:= [S1.length]) (.set (by simp) _) (by simp[Ne.symm hN2.1]) (by simp[Ne.symm hN2.2])⟩
  rw[List.take_succ_eq_append_getElem hj]
  have p1:(qs.take i.toNat++ [us[j]'hj] ++ qs.drop i.toNat).Perm (qs ++ [us[j]'hj]):=by
   have:=List.perm_append_comm (l₁ := [us[j]'hj]) (l₂ :=qs.drop i.toNat)
   have h2:=this.append_left (qs.take i.toNat)
   rw[← List.append_assoc,←List.append_assoc,List.take_append_drop] at h2
   exact h2
  exact p1.trans (hq.append_right _)
 ·rintro e S2 ⟨qs,b8,rfl,hq,g2,fr2,pu2⟩
  rw[Tm.ds_len,List.take_length] at hq
  exact⟨_,qs,_,_,rfl,hq,g2,fr2,pu2⟩
end
theorem isTn {pk fr f:FN} {k:Nat} (hp:IsPk pk) (hfr:IsFr fr k) (hf:IsTn f k):IsTn (run 3 10 (mTurned pk fr f)) (k+1):=fun t n m cd c L S ht h7 hd hs pu off hc hL c7=>by
 rw[sat_run]
 refine⟨rfl,?_⟩
 unfold mTurned
 simp only[List.map_cons,List.map_nil,List.cons_append,List.nil_append,List.length_cons,List.length_nil,List.replicate,Nat.zero_add,Nat.reduceAdd,Nat.reduceSub]
 have hn:=w_name (S:=S) ht
 have hg:=w_giv (S:=S) ht
 have other:∀(w mk:Str) (md:D) (ps:List Tm),t.w= .str w→t.m=md→t.parts=ps→(t= .nd w mk ps∧w ∉ GIV∨ps= [] ∧isHeap w=false∧∃i:Int,t= .num i)→(∀ p ∈ ps,Good p)→ps.length≤6→
  (sSeq (sAsg (eLcN (iSeq (e2 ixD (eVar 1) (eK (.int 2)))) [8] (gName 8) (tYesD) (eN (callK f []) (aCons (eVar 0) (aCons (eVar 8) (aCons (eVar 2) (aNil)))))) (gName 7))
  (sSeq (sIf (tOfE (e2 inD (e2 ixD (eVar 1) (eK (.int 0))) (eN mkTup (aCons (eK (.str "plus")) (aCons (eK (.str "times")) (aCons (eK (.str "most")) (aNil))))))) (sSeq (sPar [9,7] (aCons (eVar 7) (aCons (eN mkObj (aNil)) (aNil))))
  (sFrz 9 (sFor (iSeq (eVar 9)) (gName 8) (sExpr (eBM "list" insertD (eVar 7) (aCons (eN (callK pk []) (aCons (eVar 0) (aCons (e2 addD (eN lenD (aCons (eVar 7) (aNil))) (eK (.int 1))) (aNil)))) (aCons (eVar 8) (aNil)))))))) (sSkip))
  (sRet (eN mkTup (aCons (e2 ixD (eVar 1) (eK (.int 0))) (aCons (e2 ixD (eVar 1) (eK (.int 1))) (aCons (eN tupleD (aCons (eVar 7) (aNil))) (aNil)))))))
    [some (.obj n),some t.d,some cd,none,none,none,none,none,none,none] S).sat (fun _ _=>False) (fun d S'=>∃u:Tm,d=u.d∧Tn c t u∧FrU [n,m] S S'∧Purse n m S') (fun _ _=>False) fun _ _=>False:=by
  intro w mk md ps ew em ep hw hgp hl6
  have hpl:=pu.lt
  have hps:∀p ∈ ps,p.nin NM7=true∧p.dep≤k∧p.size≤1000∧L+p.dep≤200:=by
   rcases hw with⟨rfl,_⟩|⟨rfl,_⟩
   ·intro p hp'
    simp only[Tm.nin,Bool.and_eq_true] at h7
    have h1:=Tm.sizes_mem hp'
    have h2:=Tm.deps_le.mp (Nat.le_refl (Tm.deps ps)) _ hp'
    simp only[Tm.dep,Tm.size] at hd hs hL
    exact⟨Tm.nins_all.mp h7.2 p hp',by omega,by omega,by omega⟩
   ·simp
  refine seq_rule (fun e S1=>∃(us:List Tm),e= [some (.obj n),some t.d,some cd,none,none,none,none,some (.obj S.length),none,none] ∧ps.length=us.length∧(∀ i (h:i<ps.length) (h':i<us.length),Tn c ps[i] us[i])∧FrU [n,m] S S1∧Purse n m S1∧S1[S.length]? =some (.lst (Tm.ds us))) ?_ ?_
  ·rw[ssat_asg,sat_eLcN,sat_iSeq]
   open_k
   rw[td2,sat_ok,itemsD_tup,sat_ok,ep]
   refine⟨by rw[Tm.ds_len];exact small (by omega),?_⟩
   refine sat_mono (lcN_tm (S0:=S) (N:=S.length) (n:=n) (m:=m) (Rl:=Tn c) (Nat.le_refl _) (by omega) (by omega) ps [] (S++ [O.lst []]) ?_ (.app _) (pu.app _) (by simp[Tm.ds]) (by simp;omega)) ?_
   ·intro p hp' S1 fr1 pu1
    open_k
    obtain⟨q1,q2,q3,q4⟩:=hps p hp'
    exact hf p n m cd c L S1 (hgp p hp') q1 q2 q3 pu1 off (hc.fr off fr1) q4 c7
   ·rintro d S1 ⟨rfl,us,h1,h2,h3,h4,h5⟩
    exact⟨us,rfl,h1,h2,h3,h4,h5⟩
  rintro e S1 ⟨us,rfl,h1,h2,fr1,pu1,g1⟩
  have hh:=w_heap (S:=S1) ht
  have hisw:isHeapT t=isHeap w:=by
   rcases hw with⟨rfl,_⟩|⟨_,h,i,rfl⟩
   ·rfl
   ·exact h.symm
  rw[hisw] at hh
  have fin:∀(N2:Nat) (qs:List Tm) (a8 a9:Option D) (S2:Store),qs.Perm us→(isHeap w=false→qs=us)→S2[N2]? =some (.lst (Tm.ds qs))→FrU [n,m] S S2→Purse n m S2→
   (sRet (eN mkTup (aCons (e2 ixD (eVar 1) (eK (.int 0))) (aCons (e2 ixD (eVar 1) (eK (.int 1))) (aCons (eN tupleD (aCons (eVar 7) (aNil))) (aNil))))) [some (.obj n),some t.d,some cd,none,none,none,none,some (.obj N2),a8,a9] S2).sat (fun _ _=>False) (fun d S'=>∃u:Tm,d=u.d∧Tn c t u∧FrU [n,m] S S'∧Purse n m S') (fun _ _=>False) fun _ _=>False:=by
   intro N2 qs a8 a9 S2 hq hq2 g2 fr2 pu2
   open_k
   rw[td0,sat_ok,td1,sat_ok,tuple_obj g2,sat_ok]
   rcases hw with⟨rfl,hgv⟩|⟨rfl,_,i,rfl⟩
   ·exact⟨.nd w mk qs,rfl, .nd hgv h1 h2 hq hq2,fr2,pu2⟩
   ·have:us= [] :=by simpa using h1.symm
    subst this
    have:qs= [] :=hq.eq_nil
    subst this
    exact⟨.num i,rfl, .num i,fr2,pu2⟩
  by_cases hi:isHeap w=true
  ·refine step_yes (S1:=S1) (of_sat (by open_k;rw[td0,sat_ok,hh,sat_ok,blD_bl,sat_ok];exact⟨hi,rfl⟩)) ?_
   refine seq_rule _ (ssat_mono (heap_tn hp (env:= []) pu pu1 fr1 (Nat.le_refl _) g1 (by omega) t.d cd none none none none none none) (fun _ _ h=>h) (fun _ _ h=>h.elim) (fun _ _ h=>h.elim) (fun _ _ h=>h.elim)) ?_
   rintro e S2 ⟨N2,qs,a8,a9,rfl,hq,g2,fr2,pu2⟩
   exact fin N2 qs a8 a9 S2 hq (fun e=>by rw[e] at hi;cases hi) g2 fr2 pu2
  ·have hi':isHeap w=false:=by simpa using hi
   refine step_no (S1:=S1) (of_sat (by open_k;rw[td0,sat_ok,hh,sat_ok,blD_bl,sat_ok];exact⟨hi',rfl⟩)) ?_
   exact fin S.length us none none S1 (List.Perm.refl _) (fun _=>rfl) g1 fr1 pu1
 cases t with
 |nam s=>
  refine step_ret (S1:=S) (of_sat (by open_k;rw[td0,sat_ok,hn,sat_ok,blD_bl,sat_ok];exact⟨rfl,rfl⟩)) ?_
  rw[sat_eN]
  simp only[sat_aCons,sat_aNil,sat_eBM,sat_eK,sat_eVar,List.getElem?_cons_succ,List.getElem?_cons_zero]
  refine⟨hc.mt,?_⟩
  open_k
  rw[td1,sat_ok,td1,sat_ok]
  simp only[Tm.m]
  rw[hc.get,sat_ok]
  exact⟨.nam (c s),rfl, .nam s, .refl,pu⟩
 |num i=>
  refine step_no (S1:=S) (of_sat (by open_k;rw[td0,sat_ok,hn,sat_ok,blD_bl,sat_ok];exact⟨rfl,rfl⟩)) ?_
  refine step_no (S1:=S) (of_sat (by open_k;rw[td0,sat_ok,hg,sat_ok,blD_bl,sat_ok];exact⟨rfl,rfl⟩)) ?_
  exact ssat_mono (other "num" "" (.int i) [] rfl rfl rfl (.inr ⟨rfl,by decide +kernel,i,rfl⟩) (by simp) (by simp)) (fun _ _ h=>h.elim) (fun _ _ h=>h) (fun _ _ h=>h.elim) (fun _ _ h=>h.elim)
 |nd w mk ps=>
  obtain⟨g1,g2,g3,g4,g5,g6,g7,g8⟩:=ht.nd_word
  refine step_no (S1:=S) (of_sat (by open_k;rw[td0,sat_ok,hn,sat_ok,blD_bl,sat_ok];exact⟨rfl,rfl⟩)) ?_
  by_cases hw:w ∈ GIV
  case neg=>
   refine step_no (S1:=S) (of_sat (by open_k;rw[td0,sat_ok,hg,sat_ok,blD_bl,sat_ok];exact⟨decide_eq_false hw,rfl⟩)) ?_
   exact ssat_mono (other w mk (.str mk) ps rfl rfl rfl (.inl ⟨rfl,hw⟩) g5 g4) (fun _ _ h=>h.elim) (fun _ _ h=>h) (fun _ _ h=>h.elim) (fun _ _ h=>h.elim)
  obtain⟨a,b,rfl⟩:=ht.giv hw
  refine step_yes (S1:=S) (of_sat (by open_k;rw[td0,sat_ok,hg,sat_ok,blD_bl,sat_ok];exact⟨decide_eq_true hw,rfl⟩)) ?_
  rw[ssat_seq]
  simp only[Tm.nin,Tm.nins,hw,decide_true,Bool.not_true,Bool.false_or,Bool.and_true,Bool.and_eq_true,decide_eq_true_eq] at h7
  obtain⟨hmk,ha7,hb7⟩:=h7
  simp only[Tm.dep,Tm.deps] at hd hL
  simp only[Tm.size,Tm.sizes] at hs
  have ga:=g5 a (by simp)
  have gb:=g5 b (by simp)
  have hpl:=pu.lt
  have hfl:=freeL_len b
  have p0:∀S,ixD (.tup (Tm.ds [a,b])) (.int 0) S= .ok a.d S:=fun S=>rfl
  have p1:∀S,ixD (.tup (Tm.ds [a,b])) (.int 1) S= .ok b.d S:=fun S=>rfl
  have asked7:∀s ∈ (((freeL b).filter fun s=> !decide (s=mk)).map c),s ∈ NM7:=fun s hs=>by
   obtain⟨x,hx,rfl⟩:=List.mem_map.mp hs
   exact c7 x (freeL_nin hb7 x (List.mem_filter.mp hx).1)
  refine seq_rule (fun e S1=>S1=S∧e= [some (.obj n),some (Tm.nd w mk [a,b]).d,some cd,some (.lst ((((freeL b).filter fun s=> !decide (s=mk)).map c).map .str)),none,none,none,none,none,none]) ?_ ?_
  ·rw[ssat_asg]
   rw[sat_eLc,sat_iSeq]
   simp only[sat_eN,sat_aCons,sat_aNil,sat_e2,sat_eVar,sat_eK,List.getElem?_cons_succ,List.getElem?_cons_zero]
   rw[td2,sat_ok]
   simp only[Tm.parts]
   rw[p1,sat_ok,callK_eq,List.append_nil,hfr b S gb (by omega) (by omega),sat_ok,itemsD_lst,sat_ok]
   refine⟨by rw[List.length_map];exact small (by omega),?_⟩
   refine lc_fs (fun s=> !decide (s=mk)) c (fun s hs=>⟨of_sat ?_,fun _=>of_sat ?_⟩) ?_
   ·open_k
    rw[td1,sat_ok]
    simp only[Tm.m,ne_strs,sat_ok,blD_bl,beq_dec]
    exact⟨trivial,trivial⟩
   ·simp only[sat_aCons,sat_aNil,sat_eBM,sat_eK,sat_eVar,wipeD,List.set_cons_succ,List.set_cons_zero,List.getElem?_cons_succ,List.getElem?_cons_zero]
    refine⟨hc.mt,?_⟩
    rw[hc.get,sat_ok]
    exact⟨rfl,rfl⟩
   ·open_k
  rintro e S1 ⟨rfl,rfl⟩
  refine seq_rule (fun e S2=>S2=S1∧e= [some (.obj n),some (Tm.nd w mk [a,b]).d,some cd,some (.lst ((((freeL b).filter fun s=> !decide (s=mk)).map c).map .str)),none,some (.lst ((NM8.filter fun s=> !decide (s ∈ (((freeL b).filter fun s=> !decide (s=mk)).map c))).map .str)),none,none,none,none]) ?_ ?_
  ·rw[ssat_asg,sat_eLc,sat_iSeq]
   open_k
   refine lc_fs (l:=NM8) (fun s=> !decide (s ∈ (((freeL b).filter fun s=> !decide (s=mk)).map c))) (fun s=>s) (fun s hs=>⟨of_sat ?_,fun _=>of_sat ?_⟩) ?_
   ·open_k
    rw[notin_lsts (ok7 s (nm87 s hs)) (fun z hz=>ok7 z (asked7 z hz)),sat_ok,blD_bl,sat_ok]
    exact⟨rfl,rfl⟩
   ·open_k
   ·open_k
    rw[List.map_id']
  rintro e S2 ⟨rfl,rfl⟩
  obtain⟨kvs,hk1,hk2,hk3⟩:=hc
  have hc:CD cd c L S2:=⟨kvs,hk1,hk2,hk3⟩
  refine step_asg (S1:=S2++ [.dK kvs]) (S2:=S2++ [.dK kvs]) (d:= .obj S2.length) (by
   simp only[eN,aCons,aNil,eVar,List.getElem?_cons_succ,List.getElem?_cons_zero,R.bind]
   unfold dictO
   simp only[hk1]) rfl ?_
  simp only[List.set_cons_succ,List.set_cons_zero]
  have pu3:Purse n m (S2++ [.dK kvs]):=pu.app _
  have gq:(S2++ [O.dK kvs])[S2.length]? =some (.dK kvs):=by simp
  have fr3:FrU [n,m] S2 (S2++ [O.dK kvs]):= .app _
  generalize S2++ [O.dK kvs] =S3 at pu3 gq fr3
  have hqn:S2.length ∉ [n,m] :=by simp;omega
  obtain⟨z0,hz0,hz1⟩:=some_left (l:=(freeL b).filter fun s=> !decide (s=mk)) (m:=mk) (c:=c) hmk (fun s hs=>by
   have:=List.mem_filter.mp hs
   exact⟨freeL_nin hb7 s this.1,by simpa using this.2⟩)
  refine seq_rule (fun e S4=>∃z:Str,z ∈ NM7∧z ∉ (((freeL b).filter fun s=> !decide (s=mk)).map c)∧e= [some (.obj n),some (Tm.nd w mk [a,b]).d,some cd,some (.lst ((((freeL b).filter fun s=> !decide (s=mk)).map c).map .str)),none,some (.lst ((NM8.filter fun s=> !decide (s ∈ (((freeL b).filter fun s=> !decide (s=mk)).map c))).map .str)),some (.obj S2.length),none,none,none] ∧FrU [n,m] S2 S4∧Purse n m S4∧S4[S2.length]? =some (.dK (putD kvs (.inr mk) (.str z)))) ?_ ?_
  ·rw[ssat_asg]
   open_k
   have hlen:0<(NM8.filter fun s=> !decide (s ∈ (((freeL b).filter fun s=> !decide (s=mk)).map c))).length:=List.length_pos_of_mem (List.mem_filter.mpr ⟨hz0,by simpa using hz1⟩)
   have hlen2:(NM8.filter fun s=> !decide (s ∈ (((freeL b).filter fun s=> !decide (s=mk)).map c))).length≤8:=List.length_filter_le _ NM8
   refine sat_mono (hp n m S3 _ pu3 (by rw[List.length_map];omega) (by rw[List.length_map];omega)) ?_
   rintro d S4 ⟨⟨i,rfl,i0,i1⟩,fr4,pu4⟩
   obtain⟨x,hx,ex⟩:=ixm (l:=(NM8.filter fun s=> !decide (s ∈ (((freeL b).filter fun s=> !decide (s=mk)).map c))).map D.str) i0 i1
   rw[ex,sat_ok]
   obtain⟨z,hz,rfl⟩:=List.mem_map.mp hx
   obtain⟨z1,z2⟩:=List.mem_filter.mp hz
   have g4:=fr4.fr S2.length _ hqn gq
   have h4:S2.length<S4.length:=(List.getElem?_eq_some_iff.mp g4).1
   have hset:setD (.obj S2.length) (.str mk) (.str z) S4=some (S4.set S2.length (.dK (putD kvs (.inr mk) (.str z)))):=by
    unfold setD
    simp only[g4,keyOf]
    rw[if_pos (Nat.lt_of_lt_of_le (by omega:kvs.length<1000) (by decide))]
   have hgs:gSub (eVar 6) (e2 ixD (eVar 1) (eK (.int 1))) (.str z) [some (.obj n),some (Tm.nd w mk [a,b]).d,some cd,some (.lst ((((freeL b).filter fun s=> !decide (s=mk)).map c).map .str)),none,some (.lst ((NM8.filter fun s=> !decide (s ∈ (((freeL b).filter fun s=> !decide (s=mk)).map c))).map .str)),some (.obj S2.length),none,none,none] S4= .nx [some (.obj n),some (Tm.nd w mk [a,b]).d,some cd,some (.lst ((((freeL b).filter fun s=> !decide (s=mk)).map c).map .str)),none,some (.lst ((NM8.filter fun s=> !decide (s ∈ (((freeL b).filter fun s=> !decide (s=mk)).map c))).map .str)),some (.obj S2.length),none,none,none] (S4.set S2.length (.dK (putD kvs (.inr mk) (.str z)))):=by
    unfold gSub
    simp only[eVar,List.getElem?_cons_succ,List.getElem?_cons_zero]
    rw[show e2 ixD (eVar 1) (eK (.int 1)) _ S4= .ok (.str mk) S4 from rfl]
    simp only[hset]
   rw[hgs,ssat_nx]
   exact⟨z,nm87 z z1,by simpa using z2,rfl,(fr3.trans fr4).put (Nat.le_refl _) _,pu4.fr (X:= [S2.length]) (.set (by simp) _) (by simp;omega) (by simp;omega),by rw[List.getElem?_set_self h4]⟩
  rintro e S4 ⟨z,z7,zn,rfl,fr4,pu4,g4⟩
  have cd4:CD (.obj S2.length) (upd c mk z) (L+1) S4:=by
   refine⟨putD kvs (.inr mk) (.str z),by unfold dkAt;simp only[g4],Nat.le_trans put_lenP (by omega),fun s=> ?_⟩
   rw[dget_put]
   unfold upd
   by_cases hsm:s=mk
   ·rw[if_pos (by rw[hsm]),if_pos hsm];rfl
   ·rw[if_neg (fun e=>hsm (by cases e;rfl)),if_neg hsm];exact hk3 s
  have off4:Off n m (.obj S2.length):=Off.new pu
  refine seq_rule (fun e S5=>∃a' b':Tm,Tn c a a'∧Tn (upd c mk z) b b'∧e= [some (.obj n),some (Tm.nd w mk [a,b]).d,some cd,some (.lst ((((freeL b).filter fun s=> !decide (s=mk)).map c).map .str)),none,some (.lst ((NM8.filter fun s=> !decide (s ∈ (((freeL b).filter fun s=> !decide (s=mk)).map c))).map .str)),some (.obj S2.length),some (.tup [a'.d,b'.d]),none,none] ∧FrU [n,m] S2 S5∧Purse n m S5∧S5[S2.length]? =some (.dK (putD kvs (.inr mk) (.str z)))) ?_ ?_
  ·open_k
   rw[td2,sat_ok]
   simp only[Tm.parts]
   rw[p0,sat_ok]
   refine sat_mono (hf a n m cd c L S4 ga ha7 (by omega) (by omega) pu4 off (hc.fr off fr4) (by omega) c7) ?_
   rintro d S5 ⟨a',rfl,ta,fr5,pu5⟩
   rw[td2,sat_ok]
   simp only[Tm.parts]
   rw[p1,sat_ok]
   refine sat_mono (hf b n m (.obj S2.length) (upd c mk z) (L+1) S5 gb hb7 (by omega) (by omega) pu5 off4 (cd4.fr off4 fr5) (by omega) (fun s hs=>by
    unfold upd
    split
    ·exact z7
    ·exact c7 s hs)) ?_
   rintro d S6 ⟨b',rfl,tb,fr6,pu6⟩
   exact⟨a',b',ta,tb,rfl,fr4.trans (fr5.trans fr6),pu6,(fr5.trans fr6).fr _ _ hqn g4⟩
  rintro e S5 ⟨a',b',ta,tb,rfl,fr5,pu5,g5⟩
  open_k
  rw[td0,sat_ok,td1,sat_ok]
  simp only[Tm.w,Tm.m]
  have hix:ixD (.obj S2.length) (.str mk) S5= .ok (.str z) S5:=by
   unfold ixD
   simp only[g5,keyOf,dget_put,if_true]
  rw[hix,sat_ok]
  exact⟨.nd w z [a',b'],rfl, .giv hw ta z7 zn tb,fr5,pu5⟩
end L3
namespace L3
open PySem L2 PyProof.Rows
abbrev cods (s:Str):List Nat:=s.cps.toList
theorem cods_of (s:String):cods (Str.ofString s)=s.toList.map Char.toNat:=signs_ofString s
theorem cods_app (a b:Str):cods (a++b)=cods a++cods b:=cps_toList_append a b
theorem cods_inj {a b:Str} (h:cods a=cods b):a=b:=TL.ext_tl h
theorem repr_inj {m n:Nat} (h:(Nat.repr m).toList=(Nat.repr n).toList):m=n:=by
 rw[Nat.toList_repr,Nat.toList_repr] at h
 have:=congrArg (fun l=>Nat.ofDigitChars 10 l 0) h
 simp only[Nat.ofDigitChars_ten_toDigits] at this
 exact this
theorem repr_dig {n:Nat} :∀c ∈ (Nat.repr n).toList,48≤c.toNat∧c.toNat≤57:=by
 intro c hc
 rw[Nat.toList_repr] at hc
 have h:=Nat.isDigit_of_mem_toDigits (by decide) (by decide) hc
 simp only[Char.isDigit,Bool.and_eq_true,decide_eq_true_eq] at h
 have e:c.val.toNat=c.toNat:=rfl
 have h1:48≤c.val.toNat:=by simpa using UInt32.le_iff_toNat_le.mp h.1
 have h2:c.val.toNat≤57:=by simpa using UInt32.le_iff_toNat_le.mp h.2
 omega
theorem repr_ne {n:Nat} :(Nat.repr n).toList≠ [] :=by
 rw[Nat.toList_repr];exact Nat.toDigits_ne_nil
def isDg (c:Nat):Bool:=decide (48≤c)&&decide (c≤57) || decide (c=45)
theorem int_dig (i:Int):((toString i).toList.map Char.toNat).all isDg=true∧(toString i).toList≠ [] :=by
 rw[Int.toString_eq_repr,Int.repr_eq_if]
 have nat:∀n:Nat,((Nat.repr n).toList.map Char.toNat).all isDg=true:=fun n=>by
  rw[List.all_eq_true]
  intro c hc
  obtain⟨d,hd,rfl⟩:=List.mem_map.mp hc
  have:=repr_dig d hd
  simp only[isDg,Bool.or_eq_true,Bool.and_eq_true,decide_eq_true_eq]
  exact .inl this
 split
 ·exact⟨nat _,repr_ne⟩
 ·rw[String.toList_append]
  refine⟨?_,by simp⟩
  rw[List.map_append,List.all_append,nat]
  rfl
theorem chars_inj:∀ {a b:List Char},a.map Char.toNat=b.map Char.toNat→a=b
 | [],[],_=>rfl
 | [],_::_,h=>by simp at h
 | _::_,[],h=>by simp at h
 |x::a,y::b,h=>by
  simp only[List.map_cons,List.cons.injEq] at h
  have e:x=y:=by
   have h1:=h.1
   apply Char.ext
   apply UInt32.toNat_inj.mp
   exact h1
  rw[e,chars_inj h.2]
theorem int_inj {i j:Int} (h:(toString i).toList=(toString j).toList):i=j:=by
 rw[Int.toString_eq_repr,Int.toString_eq_repr,Int.repr_eq_if,Int.repr_eq_if] at h
 split at h
 ·split at h
  ·have:=repr_inj h;omega
  ·exfalso
   rw[String.toList_append] at h
   have:('-':Char) ∈ (Nat.repr i.toNat).toList:=by rw[h];simp
   have:=repr_dig _ this
   revert this;decide
 ·split at h
  ·exfalso
   rw[String.toList_append] at h
   have:('-':Char) ∈ (Nat.repr j.toNat).toList:=by rw[← h];simp
   have:=repr_dig _ this
   revert this;decide
  ·rw[String.toList_append,String.toList_append] at h
   have:=repr_inj (List.append_cancel_left h)
   omega
def Dl (a:List Nat):Prop:=a= [] ∨∃c r,a=c::r∧(c=44∨c=41∨c=93)
theorem Dl.not (h:Dl a):a.head?.any isDg=false:=by
 rcases h with rfl|⟨c,r,rfl,rfl|rfl|rfl⟩<;>rfl
theorem run_eq:∀ {x y a b:List Nat},x.all isDg=true→y.all isDg=true→a.head?.any isDg=false→b.head?.any isDg=false→x++a=y++b→x=y∧a=b
 | [],[],a,b,_,_,_,_,h=>⟨rfl,h⟩
 | [],d::y,a,b,_,hy,ha,_,h=>by
   simp only[List.nil_append,List.cons_append] at h
   subst h
   simp only[List.all_cons,Bool.and_eq_true] at hy
   simp[hy.1] at ha
 |d::x,[],a,b,hx,_,_,hb,h=>by
  simp only[List.nil_append,List.cons_append] at h
  subst h
  simp only[List.all_cons,Bool.and_eq_true] at hx
  simp[hx.1] at hb
 |c::x,d::y,a,b,hx,hy,ha,hb,h=>by
  simp only[List.cons_append,List.cons.injEq] at h
  simp only[List.all_cons,Bool.and_eq_true] at hx hy
  obtain⟨e1,e2⟩:=run_eq hx.2 hy.2 ha hb h.2
  exact⟨by rw[h.1,e1],e2⟩
def plainS (s:Str):Bool:=(cods s).all isLet
theorem rc_let {c:Nat} (h:isLet c=true):Builtin.Str.reprChar 39 c= [c] :=by
 simp only[isLet,Bool.and_eq_true,decide_eq_true_eq] at h
 have:∀k:Fin 26,Builtin.Str.reprChar 39 (97+k.val)= [97+k.val] :=by decide +kernel
 have:=this ⟨c-97,by omega⟩
 simp only at this
 rwa [show 97+(c-97)=c by omega] at this
theorem fold_let:∀(l:List Nat) (acc:Array Nat),l.all isLet=true→(l.foldl (fun out c=>out++(Builtin.Str.reprChar 39 c).toArray) acc).toList=acc.toList++l
 | [],acc,_=>by simp
 |c::r,acc,h=>by
  simp only[List.all_cons,Bool.and_eq_true] at h
  rw[List.foldl_cons,fold_let r _ h.2,rc_let h.1]
  simp
theorem quote_let {s:Str} (h:plainS s=true):reprQuote s=39:=by
 have h39:s.cps.contains 39=false:=by
  rw[Bool.eq_false_iff]
  intro hc
  have:39 ∈ s.cps.toList:=by simpa using hc
  have:=List.all_eq_true.mp h 39 this
  revert this;decide
 unfold reprQuote
 rw[h39];rfl
theorem repr_let {s:Str} (h:plainS s=true):cods (reprText s)=39::(cods s++ [39]):=by
 show(reprText s).cps.toList=_
 unfold reprText
 rw[quote_let h]
 show((s.cps.foldl (fun out c=>out++(Builtin.Str.reprChar 39 c).toArray) #[39]).push 39).toList=_
 rw[Array.toList_push,←Array.foldl_toList,fold_let _ _ h]
 simp
theorem str_run:∀ {x y a b:List Nat},x.all isLet=true→y.all isLet=true→x++39::a=y++39::b→x=y∧a=b
 | [],[],a,b,_,_,h=>by simpa using h
 | [],d::y,a,b,_,hy,h=>by
   simp only[List.nil_append,List.cons_append,List.cons.injEq] at h
   simp only[List.all_cons,Bool.and_eq_true] at hy
   rw[← h.1] at hy;exact absurd hy.1 (by decide)
 |d::x,[],a,b,hx,_,h=>by
  simp only[List.nil_append,List.cons_append,List.cons.injEq] at h
  simp only[List.all_cons,Bool.and_eq_true] at hx
  rw[h.1] at hx;exact absurd hx.1 (by decide)
 |c::x,d::y,a,b,hx,hy,h=>by
  simp only[List.cons_append,List.cons.injEq] at h
  simp only[List.all_cons,Bool.and_eq_true] at hx hy
  obtain⟨e1,e2⟩:=str_run hx.2 hy.2 h.2
  exact⟨by rw[h.1,e1],e2⟩
inductive PJ:PyData→Prop where
 |none:PJ .none
 |int (i:Int):PJ (.int i)
 |str {s:Str} :plainS s=true→PJ (.str s)
 |tuple {l:List PyData} :(∀ x ∈ l,PJ x)→PJ (.tuple l)
 |list {l:List PyData} :(∀ x ∈ l,PJ x)→PJ (.list l)
inductive Hd:PyData→List Nat→Prop where
 |none (r:List Nat):Hd .none (78::r)
 |int {i:Int} {c:Nat} {r:List Nat} :isDg c=true→Hd (.int i) (c::r)
 |str {s:Str} (r:List Nat):Hd (.str s) (39::r)
 |tuple {l:List PyData} (r:List Nat):Hd (.tuple l) (40::r)
 |list {l:List PyData} (r:List Nat):Hd (.list l) (91::r)
theorem hd_of {x:PyData} (h:PJ x):Hd x (cods x.shown):=by
 cases h with
 |none=>rw[PyData.shown_none,cods_of];exact .none _
 |int i=>
  rw[PyData.shown_int,cods_of]
  obtain⟨h1,h2⟩:=int_dig i
  cases hq:(toString i).toList with
  |nil=>exact absurd hq h2
  |cons c r=>
   rw[hq] at h1
   simp only[List.map_cons,List.all_cons,Bool.and_eq_true] at h1
   exact .int h1.1
 |str hs=>rw[PyData.shown_str,repr_let hs];exact .str _
 |tuple _=>
  rw[PyData.shown_tuple,cods_app,cods_app,cods_of]
  exact .tuple _
 |list _=>
  rw[PyData.shown_list,cods_app,cods_app,cods_of]
  exact .list _
def jn (l:List PyData):List Nat:=cods (Str.join ", " (PyData.shownAll l))
theorem jn_one (x:PyData):jn [x] =cods x.shown:=by
 unfold jn;simp[PyData.shownAll,Str.join]
theorem jn_two (x y:PyData) (l:List PyData):jn (x::y::l)=cods x.shown++44::32::jn (y::l):=by
 unfold jn
 simp only[PyData.shownAll,Str.join]
 rw[cods_app,cods_app]
 have:cods (", " :Str)= [44,32] :=by rw[show (", " :Str)=Str.ofString ", " from rfl,cods_of];rfl
 rw[this];simp
def kd:PyData→Nat
 | .none=>0
 | .int _=>1
 | .str _=>2
 | .tuple _=>3
 | .list _=>4
 | _=>5
def kc (c:Nat):Nat:=if c=78 then 0 else if isDg c=true then 1 else if c=39 then 2 else if c=40 then 3 else 4
theorem kd_of {x:PyData} (h:PJ x):∃c r,cods x.shown=c::r∧kc c=kd x∧c≠41∧c≠93∧c≠44:=by
 have h1:=hd_of h
 generalize cods x.shown=l at h1
 cases h1 with
 |none r=>exact⟨78,r,rfl,rfl,by decide⟩
 | @int i c r hc=>
   refine⟨c,r,rfl,?_,?_⟩
   ·have:c≠78:=by rintro rfl;revert hc;decide
    simp[kc,kd,this,hc]
   ·refine⟨?_,?_,?_⟩<;>(rintro rfl;revert hc;decide)
 |str r=>exact⟨39,r,rfl,rfl,by decide⟩
 |tuple r=>exact⟨40,r,rfl,rfl,by decide⟩
 |list r=>exact⟨91,r,rfl,rfl,by decide⟩
theorem kd_eq {x y:PyData} {a b:List Nat} (hx:PJ x) (hy:PJ y) (h:cods x.shown++a=cods y.shown++b):kd x=kd y:=by
 obtain⟨c,r,e1,k1,_⟩:=kd_of hx
 obtain⟨d,s,e2,k2,_⟩:=kd_of hy
 rw[e1,e2] at h
 simp only[List.cons_append,List.cons.injEq] at h
 rw[← k1,←k2,h.1]
theorem jn_head {l:List PyData} (h0:l≠ []) (h:∀x ∈ l,PJ x):∃c r,jn l=c::r∧c≠41∧c≠93:=by
 cases l with
 |nil=>exact absurd rfl h0
 |cons x l=>
  obtain⟨c,r,e1,_,h1,h2,_⟩:=kd_of (h x (List.mem_cons_self ..))
  cases l with
  |nil=>rw[jn_one];exact⟨c,r,e1,h1,h2⟩
  |cons y l=>rw[jn_two,e1];exact⟨c,_,rfl,h1,h2⟩
def InjAt (x:PyData):Prop:=∀ ⦃y:PyData⦄ ⦃a b:List Nat⦄,PJ x→PJ y→Dl a→Dl b→cods x.shown++a=cods y.shown++b→x=y∧a=b
def InjL (l:List PyData):Prop:=∀ ⦃m:List PyData⦄ ⦃a b:List Nat⦄ ⦃c:Nat⦄,(∀ x ∈ l,PJ x)→(∀ x ∈ m,PJ x)→l≠ [] →m≠ [] →(c=41∨c=93)→jn l++c::a=jn m++c::b→l=m∧a=b
theorem dl_c {c:Nat} {a:List Nat} (h:c=41∨c=93):Dl (c::a):= .inr ⟨c,a,rfl,by omega⟩
theorem dl_44 {a:List Nat} :Dl (44::a):= .inr ⟨44,a,rfl, .inl rfl⟩
theorem injL_of:∀ {l:List PyData},(∀ x ∈ l,InjAt x)→InjL l
 | [],_=>fun _ _ _ _ _ _ h0 _ _ _=>absurd rfl h0
 | [x],hi=>by
   intro m a b c hl hm _ h0 hc h
   have hx:=hi x (by simp)
   match m,h0 with
   | [y],_=>
     rw[jn_one,jn_one] at h
     obtain⟨e1,e2⟩:=hx (hl x (by simp)) (hm y (by simp)) (dl_c hc) (dl_c hc) h
     exact⟨by rw[e1],(List.cons.inj e2).2⟩
   |y::z::m,_=>
    exfalso
    rw[jn_one,jn_two,List.append_assoc] at h
    obtain⟨e1,e2⟩:=hx (hl x (by simp)) (hm y (by simp)) (dl_c hc) dl_44 h
    have:=(List.cons.inj e2).1
    omega
 |x::z::l,hi=>by
  intro m a b c hl hm _ h0 hc h
  have hx:=hi x (by simp)
  match m,h0 with
  | [y],_=>
    exfalso
    rw[jn_one,jn_two,List.append_assoc] at h
    obtain⟨e1,e2⟩:=hx (hl x (by simp)) (hm y (by simp)) dl_44 (dl_c hc) h
    have:=(List.cons.inj e2).1
    omega
  |y::w::m,_=>
   rw[jn_two,jn_two,List.append_assoc,List.append_assoc] at h
   obtain⟨e1,e2⟩:=hx (hl x (by simp)) (hm y (by simp)) dl_44 dl_44 h
   have e2:jn (z::l)++c::a=jn (w::m)++c::b:=(List.cons.inj (List.cons.inj e2).2).2
   obtain⟨e3,e4⟩:=injL_of (l:=z::l) (fun t ht=>hi t (List.mem_cons_of_mem _ ht)) (fun t ht=>hl t (List.mem_cons_of_mem _ ht)) (fun t ht=>hm t (List.mem_cons_of_mem _ ht)) (by simp) (by simp) hc e2
   exact⟨by rw[e1,e3],e4⟩
theorem cods_tup (l:List PyData):cods (PyData.tuple l).shown=40::(jn l++if l.length=1 then [44,41] else [41]):=by
 rw[PyData.shown_tuple,cods_app,cods_app,cods_of]
 unfold jn
 by_cases h:l.length=1
 ·simp only[h,beq_self_eq_true,if_true];rw[cods_of];rfl
 ·have:(l.length==1)=false:=by simpa using h
  simp only[h,this,if_false,Bool.false_eq_true];rw[cods_of];rfl
theorem cods_list (l:List PyData):cods (PyData.list l).shown=91::(jn l++ [93]):=by
 rw[PyData.shown_list,cods_app,cods_app,cods_of,cods_of]
 unfold jn
 rfl
theorem jn_nil:jn [] = [] :=by unfold jn;rw[PyData.shownAll_nil];rfl
mutual
theorem inj_at:∀x:PyData,InjAt x
 | .none=>by
   intro y a b hx hy ha hb h
   have hk:=kd_eq hx hy h
   cases hy<;>simp[kd] at hk
   exact⟨rfl,List.append_cancel_left h⟩
 | .int i=>by
   intro y a b hx hy ha hb h
   have hk:=kd_eq hx hy h
   cases hy with
   |int j=>
    rw[PyData.shown_int,PyData.shown_int,cods_of,cods_of] at h
    obtain⟨e1,e2⟩:=run_eq (int_dig i).1 (int_dig j).1 ha.not hb.not h
    exact⟨by rw[int_inj (chars_inj e1)],e2⟩
   | _=>simp[kd] at hk
 | .str s=>by
   intro y a b hx hy ha hb h
   have hk:=kd_eq hx hy h
   cases hx with
   |str hs=>
    cases hy with
    |str hr=>
     rw[PyData.shown_str,PyData.shown_str,repr_let hs,repr_let hr] at h
     simp only[List.cons_append,List.append_assoc,List.nil_append,List.cons.injEq,true_and] at h
     obtain⟨e1,e2⟩:=str_run hs hr h
     exact⟨by rw[cods_inj e1],e2⟩
    | _=>simp[kd] at hk
 | .tuple l=>by
   intro y a b hx hy ha hb h
   have hk:=kd_eq hx hy h
   have ih:=inj_all l
   cases hx with
   |tuple hl=>
    cases hy with
    | @tuple m hm=>
      rw[cods_tup,cods_tup] at h
      simp only[List.cons_append,List.cons.injEq,true_and,List.append_assoc] at h
      match l,m,hl,hm,ih,h with
      | [],[],_,_,_,h=>
        simp[jn_nil] at h
        exact⟨rfl,h⟩
      | [],z::m,_,hm,_,h=>
        exfalso
        obtain⟨c,r,e,n1,_⟩:=jn_head (by simp) hm
        rw[e,jn_nil] at h
        simp at h
        exact n1 h.1.symm
      |z::l,[],hl,_,_,h=>
       exfalso
       obtain⟨c,r,e,n1,_⟩:=jn_head (by simp) hl
       rw[e,jn_nil] at h
       simp at h
       exact n1 h.1
      | [x],[z],hl,hm,ih,h=>
        rw[jn_one,jn_one] at h
        simp only[List.length_cons,List.length_nil,Nat.zero_add,if_true,List.cons_append,List.nil_append] at h
        obtain⟨e1,e2⟩:=ih x (by simp) (hl x (by simp)) (hm z (by simp)) dl_44 dl_44 h
        simp only[List.cons.injEq,true_and] at e2
        exact⟨by rw[e1],e2⟩
      | [x],z::w::m,hl,hm,ih,h=>
        exfalso
        rw[jn_one,jn_two,List.append_assoc] at h
        simp only[List.length_cons,List.length_nil,Nat.zero_add,if_true,List.cons_append,List.nil_append] at h
        obtain⟨e1,e2⟩:=ih x (by simp) (hl x (by simp)) (hm z (by simp)) dl_44 dl_44 h
        simp at e2
      |x::w::l,[z],hl,hm,ih,h=>
       exfalso
       rw[jn_one,jn_two,List.append_assoc] at h
       simp only[List.length_cons,List.length_nil,Nat.zero_add,if_true,List.cons_append,List.nil_append] at h
       obtain⟨e1,e2⟩:=ih x (by simp) (hl x (by simp)) (hm z (by simp)) dl_44 dl_44 h
       simp at e2
      |x::w::l,z::v::m,hl,hm,ih,h=>
       rw[if_neg (by simp),if_neg (by simp)] at h
       simp only[List.cons_append,List.nil_append] at h
       obtain⟨e1,e2⟩:=injL_of ih hl hm (by simp) (by simp) (.inl rfl) h
       exact⟨by rw[e1],e2⟩
    | _=>simp[kd] at hk
 | .list l=>by
   intro y a b hx hy ha hb h
   have hk:=kd_eq hx hy h
   have ih:=inj_all l
   cases hx with
   |list hl=>
    cases hy with
    | @list m hm=>
      rw[cods_list,cods_list] at h
      simp only[List.cons_append,List.cons.injEq,true_and,List.append_assoc,List.nil_append] at h
      match l,m,hl,hm,ih,h with
      | [],[],_,_,_,h=>
        simp[jn_nil] at h
        exact⟨rfl,h⟩
      | [],z::m,_,hm,_,h=>
        exfalso
        obtain⟨c,r,e,_,n1⟩:=jn_head (by simp) hm
        rw[e,jn_nil] at h
        simp at h
        exact n1 h.1.symm
      |z::l,[],hl,_,_,h=>
       exfalso
       obtain⟨c,r,e,_,n1⟩:=jn_head (by simp) hl
       rw[e,jn_nil] at h
       simp at h
       exact n1 h.1
      |x::l,z::m,hl,hm,ih,h=>
       obtain⟨e1,e2⟩:=injL_of ih hl hm (by simp) (by simp) (.inr rfl) h
       exact⟨by rw[e1],e2⟩
    | _=>simp[kd] at hk
 | .bool _=>fun _ _ _ hx=>by cases hx
 | .dict _=>fun _ _ _ hx=>by cases hx
theorem inj_all:∀(l:List PyData),∀x ∈ l,InjAt x
 | [],x,h=>by cases h
 |z::l,x,h=>by
  rcases List.mem_cons.mp h with e|h
  ·rw[e];exact inj_at z
  ·exact inj_all l x h
end
theorem shown_inj {x y:PyData} (hx:PJ x) (hy:PJ y) (h:x.shown=y.shown):x=y:=
 (inj_at x hx hy (.inl rfl) (.inl rfl) (by rw[h])).1
end L3
namespace L3
open PySem L2
open Classical in
noncomputable def eqC (c d:C):Bool:=decide (c=d)
theorem eqC_iff {c d:C} :eqC c d=true↔c=d:=by unfold eqC;simp
theorem eqC_false {c d:C} :eqC c d=false↔c≠d:=by unfold eqC;simp
theorem eqC_of {c d:C} {b:Bool} (h:c=d↔b=true):eqC c d=b:=by
 cases b with
 |true=>exact eqC_iff.mpr (h.mpr rfl)
 |false=>exact eqC_false.mpr fun e=>by have:=h.mp e;cases this
end L3
namespace L3
open PySem L2
local macro_rules| `(tactic| open_k)=> `(tactic| simp only[ssat_seq,ssat_asg,ssat_sRet,ssat_sExpr,ssat_if,ssat_skip,ssat_par,ssat_nx,ssat_ret,ssat_for,sat_e2,sat_e1,sat_eN,sat_aCons,sat_aNil,sat_eVar,sat_eK,sat_tOfE,sat_tTruth,sat_tNot,sat_tAnd,sat_tOr,sat_eIf,sat_eBM,sat_iSeq,sat_iArgs,sat_eAnd,sat_eOr,sat_eNot,sat_eChain,sat_eSl,sat_pNo,sat_pYes,sat_eLc,sat_eKw,sat_mkTup,sat_mkLst,sat_mkObj,sat_ok,callK_eq,List.append_nil,List.map_cons,List.map_nil,List.length_cons,List.length_nil,List.replicate,List.getElem?_cons_succ,List.getElem?_cons_zero,List.cons_append,List.nil_append,List.set_cons_succ,List.set_cons_zero,gName_eq,gTup_tup,gNames_cons,gNames_nil,Nat.zero_add,Nat.reduceAdd,Nat.reduceSub,sz0,sz1,sz2,sz3,sz4,sz5,sz6,sz7,sz8,sz10,sz17,true_and,add_int,sub_int,neg_int,lt_int,le_int,gt_int,ge_int,eq_int,ne_int,blD_bl,truthD_bl,itemsD_lst,itemsD_tup,wipeD,eq_strs,ne_strs,sl_tup,sl_lst,if_true,if_false,Bool.false_eq_true,sat_range1,sat_range2,tuple_lst,tuple_tup,len_tup,len_lst,len_scr,D.int.injEq,exists_eq_left',mt_str])
def mPlacesP (f:FN):SD:=
    sSeq (sAsg (eN mkLst (aCons (eN mkTup (aNil)) (aNil))) (gName 1))
    (sSeq (sFor (iArgs enumA (aCons (e2 ixD (eVar 0) (eK (.int 2))) (aNil))) (gTup [2,3]) (sAsg (e2 addD (eVar 1) (eLc (iSeq (eN (callK f []) (aCons (eVar 3) (aNil)))) [4] (gName 4) (tYesD) (e2 addD (eN mkTup (aCons (eVar 2) (aNil))) (eVar 4)))) (gName 1)))
    (sRet (eVar 1)))
def mPutL (f:FN):SD:=
    sSeq (sIf (tOfE (e2 eqD (eVar 1) (eN mkTup (aNil)))) (sRet (eVar 2)) (sSkip))
    (sSeq (sAsg (eN listO (aCons (e2 ixD (eVar 0) (eK (.int 2))) (aNil))) (gName 3))
    (sSeq (sAsg (eN (callK f []) (aCons (e2 ixD (eVar 3) (e2 ixD (eVar 1) (eK (.int 0)))) (aCons (eSl (eVar 1) (pYes (eK (.int 1))) (pNo)) (aCons (eVar 2) (aNil))))) (gSub (eVar 3) (e2 ixD (eVar 1) (eK (.int 0)))))
    (sRet (eN mkTup (aCons (e2 ixD (eVar 0) (eK (.int 0))) (aCons (e2 ixD (eVar 0) (eK (.int 1))) (aCons (eN tupleD (aCons (eVar 3) (aNil))) (aNil))))))))
theorem Grw.fru {X:List Nat} {S S':Store} (h:Grw S S'):FrU X S S':=by
 obtain⟨T,rfl⟩:=h
 exact .app T
def Tm.putT (x:Tm):List Nat→Tm→Tm
 | [],_=>x
 |i::q, .nd w m ps=>match ps[i]? with
  |some p=> .nd w m (ps.set i (Tm.putT x q p))
  |none=> .nd w m ps
 | _::_,t=>t
theorem at_parts {t u:Tm} {i:Nat} {q:List Nat} (h:t.at (i::q)=some u):∃w m ps p,t= .nd w m ps∧ps[i]? =some p∧p.at q=some u:=by
 cases t with
 |num _=>simp[Tm.at,Tm.parts] at h
 |nam _=>simp[Tm.at,Tm.parts] at h
 |nd w m ps=>
  simp only[Tm.at,Tm.parts] at h
  cases e:ps[i]? with
  |none=>rw[e] at h;cases h
  |some p=>rw[e] at h;exact⟨w,m,ps,p,rfl,e,h⟩
theorem sizes_set {p u:Tm} :∀ {ps:List Tm} {i:Nat},ps[i]? =some p→Tm.sizes (ps.set i u)+p.size=Tm.sizes ps+u.size
 | [],i,h=>by simp at h
 |q::ps,0,h=>by
  simp only[List.getElem?_cons_zero,Option.some.injEq] at h
  subst h
  simp only[List.set_cons_zero,Tm.sizes];omega
 |q::ps,i+1,h=>by
  have:=sizes_set (u:=u) (ps:=ps) (i:=i) (by simpa using h)
  simp only[List.set_cons_succ,Tm.sizes];omega
theorem put_size {x u:Tm} :∀ {q:List Nat} {t:Tm},t.at q=some u→(Tm.putT x q t).size+u.size=t.size+x.size
 | [],t,h=>by
   simp only[Tm.at,Option.some.injEq] at h
   subst h
   simp only[Tm.putT];omega
 |i::q,t,h=>by
  obtain⟨w,m,ps,p,rfl,h1,h2⟩:=at_parts h
  have ih:=put_size (x:=x) h2
  have:=sizes_set (u:=Tm.putT x q p) h1
  simp only[Tm.putT,h1,Tm.size];omega
theorem put_good {x:Tm} (hx:Good x):∀ {q:List Nat} {t u:Tm},t.at q=some u→Good t→Good (Tm.putT x q t)
 | [],t,u,_,_=>hx
 |i::q,t,u,h,ht=>by
  obtain⟨w,m,ps,p,rfl,h1,h2⟩:=at_parts h
  simp only[Tm.putT,h1]
  cases ht with
  | @nd _ _ _ f mo g sh e1 e2 e3 e4 e5=>
    refine .nd sh (by simpa using e1) (by simpa using e2) e3 e4 fun y hy=> ?_
    rcases List.mem_or_eq_of_mem_set hy with hy|rfl
    ·exact e5 y hy
    ·exact put_good hx h2 (e5 p (List.mem_of_getElem? h1))
theorem put_nin {L:List Str} {x:Tm} (hx:x.nin L=true):∀ {q:List Nat} {t u:Tm},t.at q=some u→t.nin L=true→(Tm.putT x q t).nin L=true
 | [],t,u,_,_=>hx
 |i::q,t,u,h,ht=>by
  obtain⟨w,m,ps,p,rfl,h1,h2⟩:=at_parts h
  simp only[Tm.putT,h1]
  simp only[Tm.nin,Bool.and_eq_true] at ht ⊢
  refine⟨ht.1,Tm.nins_all.mpr fun y hy=> ?_⟩
  rcases List.mem_or_eq_of_mem_set hy with hy|rfl
  ·exact Tm.nins_all.mp ht.2 y hy
  ·exact put_nin hx h2 (Tm.nins_all.mp ht.2 p (List.mem_of_getElem? h1))
theorem put_dep {x:Tm} {B:Nat} :∀ {q:List Nat} {t u:Tm},t.at q=some u→t.dep≤B→q.length+x.dep≤B→(Tm.putT x q t).dep≤B
 | [],t,u,_,_,h=>by simpa[Tm.putT] using h
 |i::q,t,u,h,ht,hx=>by
  obtain⟨w,m,ps,p,rfl,h1,h2⟩:=at_parts h
  simp only[Tm.putT,h1]
  simp only[Tm.dep,List.length_cons] at ht hx ⊢
  have hd:=Tm.deps_le.mp (Nat.le_refl (Tm.deps ps))
  have:Tm.deps (ps.set i (Tm.putT x q p))≤B-1:=Tm.deps_le.mpr fun y hy=>by
   rcases List.mem_or_eq_of_mem_set hy with hy|rfl
   ·have:=hd y hy;omega
   ·have:=hd p (List.mem_of_getElem? h1)
    exact put_dep h2 (by omega) (by omega)
  omega
theorem at_good:∀ {q:List Nat} {t u:Tm},t.at q=some u→Good t→Good u
 | [],t,u,h,g=>by simp only[Tm.at,Option.some.injEq] at h;exact h▸g
 |i::q,t,u,h,g=>by
  obtain⟨w,m,ps,p,rfl,h1,h2⟩:=at_parts h
  exact at_good h2 (g.nd_word.2.2.2.2.1 p (List.mem_of_getElem? h1))
theorem at_nin {L:List Str} :∀ {q:List Nat} {t u:Tm},t.at q=some u→t.nin L=true→u.nin L=true
 | [],t,u,h,g=>by simp only[Tm.at,Option.some.injEq] at h;exact h▸g
 |i::q,t,u,h,g=>by
  obtain⟨w,m,ps,p,rfl,h1,h2⟩:=at_parts h
  simp only[Tm.nin,Bool.and_eq_true] at g
  exact at_nin h2 (Tm.nins_all.mp g.2 p (List.mem_of_getElem? h1))
mutual
theorem Tm.dep_le_size:∀t:Tm,t.dep≤t.size
 | .num _=>Nat.le_refl _
 | .nam _=>Nat.le_refl _
 | .nd _ _ ps=>by have:=Tm.deps_le_sizes ps;simp only[Tm.dep,Tm.size];omega
theorem Tm.deps_le_sizes:∀ts:List Tm,Tm.deps ts≤Tm.sizes ts
 | [] =>Nat.le_refl _
 |t::ts=>by have:=Tm.dep_le_size t;have:=Tm.deps_le_sizes ts;simp only[Tm.deps,Tm.sizes];omega
end
def IsPls (f:FN) (k:Nat):Prop:=∀(t:Tm) (S:Store),t.dep≤k→t.size≤1000→f [t.d] S= .ok (.lst (t.spots.map pl)) S
theorem isPls0 (f:FN):IsPls f 0:=fun t _ h=>by have:=t.dep_pos;omega
theorem isPls {f:FN} {k:Nat} (hf:IsPls f k):IsPls (run 1 5 (mPlacesP f)) (k+1):=fun t S hd hs=>by
 apply of_sat
 rw[sat_run]
 refine⟨rfl,?_⟩
 unfold mPlacesP
 simp only[List.map_cons,List.map_nil,List.cons_append,List.nil_append,List.length_cons,List.length_nil,List.replicate,Nat.zero_add,Nat.reduceAdd,Nat.reduceSub]
 have hse:=Tm.size_eq t
 have hde:=Tm.dep_eq t
 refine step_asg (S1:=S) (S2:=S) (d:= .lst [pl []]) (of_sat (by open_k;exact⟨rfl,trivial⟩)) rfl ?_
 simp only[List.set_cons_succ,List.set_cons_zero]
 refine seq_rule (fun e S1=>S1=S∧∃a b c:Option D,e= [some t.d,some (.lst (t.spots.map pl)),a,b,c]) ?_ ?_
 ·rw[ssat_for,sat_iArgs]
  simp only[sat_aCons,sat_aNil,sat_eVar,sat_e2,sat_eK,List.getElem?_cons_zero]
  rw[td2,sat_ok,enumA_tup,sat_ok]
  refine for_rule (fun j e S1=>S1=S∧∃a b c:Option D,e= [some t.d,some (.lst (([] ::Tm.spotsL 0 (t.parts.take j)).map pl)),a,b,c]) ⟨rfl,_,_,_,rfl⟩ ?_ ?_
  ·rintro j hj e S1 ⟨rfl,a,b,c,rfl⟩
   obtain⟨x,hx1,hx2⟩:=enumL_at hj
   rw[enumL_len,Tm.ds_len] at hj
   rw[Tm.ds_get,List.getElem?_eq_getElem hj,Option.map_some,Option.some.injEq] at hx1
   subst hx1
   rw[hx2,Nat.zero_add]
   simp only[gTup_tup,gNames_cons,gNames_nil,ssat_nx,List.set_cons_succ,List.set_cons_zero]
   have hm:=List.getElem_mem hj
   have hz:=Tm.sizes_mem hm
   have hdd:(t.parts[j]'hj).dep≤k:=Tm.deps_le.mp (by omega) _ hm
   have hsl:=Tm.spots_len (t.parts[j]'hj)
   have htk:t.parts.take (j+1)=t.parts.take j++ [t.parts[j]'hj] :=List.take_succ_eq_append_getElem hj
   have hst:=Tm.spotsL_len (t.parts.take j) 0
   have hsa:Tm.sizes (t.parts.take j)≤Tm.sizes t.parts:=by
    have:=congrArg Tm.sizes (List.take_append_drop j t.parts)
    rw[Tm.sizes_app] at this;omega
   open_k
   rw[hf _ S1 hdd (by omega),sat_ok]
   open_k
   refine⟨by rw[List.length_map];exact small (by omega),?_⟩
   have ef:((t.parts[j]'hj).spots.map pl).map (fun d => match d with | .tup l => D.tup (.int (j : Nat) :: l) | d => d) = ((t.parts[j]'hj).spots.map (j:: ·)).map pl:=by
    rw[List.map_map,List.map_map]
    apply List.map_congr_left
    intro q _
    rfl
   refine lc_map (fun d=>match d with| .tup l=>D.tup (.int (j:Nat)::l)|d=>d) (fun x hx=> ?_) ?_
   ·obtain⟨q,hq,rfl⟩:=List.mem_map.mp hx
    have hqd:=Tm.spot_short hq
    open_k
    unfold pl
    have hdsz:=Tm.dep_le_size (t.parts[j]'hj)
    rw[add_tup (small (by simp;omega)),sat_ok]
    exact⟨rfl,rfl⟩
   ·rw[ef,add_lst (by simp only[List.length_map,List.length_cons];exact Nat.le_trans (by omega:_≤3000) (by decide)),sat_ok]
    have efi:([] ::Tm.spotsL 0 (t.parts.take (j+1))).map pl=([] ::Tm.spotsL 0 (t.parts.take j)).map pl++((t.parts[j]'hj).spots.map (j:: ·)).map pl:=by
     rw[htk,Tm.spotsL_app,←List.map_append]
     simp only[Tm.spotsL,List.length_take,List.append_nil,List.cons_append,Nat.zero_add]
     rw[Nat.min_eq_left (by omega)]
    simp only[List.map_cons] at efi
    rw[efi]
    exact⟨rfl,_,_,_,rfl⟩
  ·rintro e S1 ⟨rfl,a,b,c,rfl⟩
   rw[enumL_len,Tm.ds_len,List.take_length,←Tm.spots_eq]
   exact⟨rfl,a,b,c,rfl⟩
 rintro e S1 ⟨rfl,a,b,c,rfl⟩
 open_k
def IsPutL (f:FN) (k:Nat):Prop:=∀(t u x:Tm) (q:List Nat) (S:Store),q.length<k→t.size≤1000→t.at q=some u→(f [t.d,pl q,x.d] S).sat fun d S'=>d=(Tm.putT x q t).d∧Grw S S'
theorem isPutL0 (f:FN):IsPutL f 0:=fun _ _ _ _ _ h=>by omega
theorem isPutL {f:FN} {k:Nat} (hf:IsPutL f k):IsPutL (run 3 4 (mPutL f)) (k+1):=fun t u x q S hq hs h=>by
 rw[sat_run]
 refine⟨rfl,?_⟩
 unfold mPutL
 simp only[List.map_cons,List.map_nil,List.cons_append,List.nil_append,List.length_cons,List.length_nil,List.replicate,Nat.zero_add,Nat.reduceAdd,Nat.reduceSub]
 cases q with
 |nil=>
  refine step_ret (S1:=S) (of_sat (by simp[pl,sz0])) ?_
  open_k
  exact⟨rfl, .refl⟩
 |cons i q=>
  obtain⟨w,m,ps,p,rfl,h1,h2⟩:=at_parts h
  have hi:=(List.getElem?_eq_some_iff.mp h1).1
  have hsz:=Tm.sizes_mem (List.mem_of_getElem? h1)
  simp only[Tm.size,List.length_cons] at hs hq
  have hpl:=Tm.len_sizes ps
  refine step_no (S1:=S) (of_sat (by simp[pl,sz0])) ?_
  refine step_asg (S1:=S++ [.lst (Tm.ds ps)]) (S2:=S++ [.lst (Tm.ds ps)]) (d:= .obj S.length) (by
   have:=td2 (S:=S) (Tm.nd w m ps)
   simp only[eN,aCons,aNil,e2,eK,eVar,List.getElem?_cons_succ,List.getElem?_cons_zero,R.bind,this]
   rfl) rfl ?_
  simp only[List.set_cons_succ,List.set_cons_zero]
  have gN:(S++ [O.lst (Tm.ds ps)])[S.length]? =some (.lst (Tm.ds ps)):=by simp
  have ep0:∀S,ixD (pl (i::q)) (.int 0) S= .ok (.int ((i:Nat):Int)) S:=fun S=>ix_nat (i:=0) (by simp)
  have e0:∀S,slD (pl (i::q)) (some 1) none S= .ok (pl q) S:=fun S=>by
   unfold pl
   rw[sl_tup,show(1:Int)=((1:Nat):Int) by rfl,cutL_hi (by simp)]
   rfl
  have eo:ixD (.obj S.length) (.int ((i:Nat):Int)) (S++ [O.lst (Tm.ds ps)])= .ok p.d (S++ [O.lst (Tm.ds ps)]):=by
   unfold ixD
   simp only[gN,atI,ixN]
   rw[if_pos (by omega:(0:Int)≤((i:Nat):Int))]
   have hi':((i:Nat):Int)<(ps.length:Int):=by omega
   simp only[Int.toNat_natCast,Tm.ds_len,hi',if_true,Option.bind,Tm.ds_get,h1,Option.map_some]
  rw[ssat_seq,ssat_asg]
  open_k
  rw[ep0,sat_ok,eo,sat_ok,e0,sat_ok]
  refine sat_mono (hf p u x q _ (by omega) (by omega) h2) ?_
  rintro d S2 ⟨rfl,T,rfl⟩
  have gN2:(S++ [O.lst (Tm.ds ps)] ++T)[S.length]? =some (.lst (Tm.ds ps)):=by simp
  have hset:setD (.obj S.length) (.int ((i:Nat):Int)) (Tm.putT x q p).d (S++ [O.lst (Tm.ds ps)] ++T)=some (S++ [O.lst (Tm.ds (ps.set i (Tm.putT x q p)))] ++T):=by
   unfold setD
   simp only[gN2,ixN]
   rw[if_pos (by omega:(0:Int)≤((i:Nat):Int))]
   have hi':((i:Nat):Int)<(ps.length:Int):=by omega
   simp only[Int.toNat_natCast,Tm.ds_len,hi',if_true]
   congr 1
   rw[List.append_assoc,List.set_append_right _ _ (Nat.le_refl _)]
   simp[Tm.ds_map,List.map_set]
  have hgs:gSub (eVar 3) (e2 ixD (eVar 1) (eK (.int 0))) (Tm.putT x q p).d [some (Tm.nd w m ps).d,some (pl (i::q)),some x.d,some (.obj S.length)] (S++ [O.lst (Tm.ds ps)] ++T)= .nx [some (Tm.nd w m ps).d,some (pl (i::q)),some x.d,some (.obj S.length)] (S++ [O.lst (Tm.ds (ps.set i (Tm.putT x q p)))] ++T):=by
   unfold gSub
   simp only[eVar,e2,eK,List.getElem?_cons_succ,List.getElem?_cons_zero,R.bind,ep0,hset]
  rw[hgs,ssat_nx]
  have gN3:(S++ [O.lst (Tm.ds (ps.set i (Tm.putT x q p)))] ++T)[S.length]? =some (.lst (Tm.ds (ps.set i (Tm.putT x q p)))):=by simp
  open_k
  rw[td0,sat_ok,td1,sat_ok,tuple_obj gN3,sat_ok]
  refine⟨?_,_,by rw[List.append_assoc]⟩
  simp only[Tm.putT,h1]
  rfl
end L3
namespace L3
open PySem L2
theorem sizes_perm {a b:List Tm} (h:a.Perm b):Tm.sizes a=Tm.sizes b:=by
 induction h with
 |nil=>rfl
 |cons x _ ih=>simp only[Tm.sizes,ih]
 |swap x y l=>simp only[Tm.sizes];omega
 |trans _ _ h1 h2=>rw[h1,h2]
theorem deps_sub {a b:List Tm} (h:∀t ∈ a,t ∈ b):Tm.deps a≤Tm.deps b:=Tm.deps_le.mpr fun t ht=>Tm.deps_le.mp (Nat.le_refl _) t (h t ht)
end L3
namespace L3
open PySem L2
theorem sizes_idx:∀ {a b:List Tm},a.length=b.length→(∀ i (h:i<a.length) (h':i<b.length),(b[i]).size=(a[i]).size)→Tm.sizes b=Tm.sizes a
 | [],[],_,_=>rfl
 |x::a,y::b,hl,h=>by
  have h0:=h 0 (by simp) (by simp)
  have ih:=sizes_idx (a:=a) (b:=b) (by simpa using hl) fun i h1 h2=>by
   have:=h (i+1) (by simpa using h1) (by simpa using h2)
   simpa using this
  simp only[List.getElem_cons_zero] at h0
  simp only[Tm.sizes,h0,ih]
 | [],_::_,hl,_=>by simp at hl
 | _::_,[],hl,_=>by simp at hl
theorem deps_idx:∀ {a b:List Tm},a.length=b.length→(∀ i (h:i<a.length) (h':i<b.length),(b[i]).dep=(a[i]).dep)→Tm.deps b=Tm.deps a
 | [],[],_,_=>rfl
 |x::a,y::b,hl,h=>by
  have h0:=h 0 (by simp) (by simp)
  have ih:=deps_idx (a:=a) (b:=b) (by simpa using hl) fun i h1 h2=>by
   have:=h (i+1) (by simpa using h1) (by simpa using h2)
   simpa using this
  simp only[List.getElem_cons_zero] at h0
  simp only[Tm.deps,h0,ih]
 | [],_::_,hl,_=>by simp at hl
 | _::_,[],hl,_=>by simp at hl
theorem deps_perm {a b:List Tm} (h:a.Perm b):Tm.deps a=Tm.deps b:=
 Nat.le_antisymm (deps_sub fun t ht=>h.mem_iff.mp ht) (deps_sub fun t ht=>h.mem_iff.mpr ht)
theorem Tn.ok:∀(K:Nat) {c:Str→Str} {t u:Tm},t.size≤K→Tn c t u→Good t→t.nin NM7=true→(∀ s ∈ NM7,c s ∈ NM7)→(Good u∧u.nin NM7=true)∧u.size=t.size∧u.dep=t.dep
 |0,_,t,_,h,_,_,_,_=>by have:=t.size_pos;omega
 |K+1,c,t,u,hK,h,ht,h7,c7=>by
  cases h with
  |num i=>exact⟨⟨ht,rfl⟩,rfl,rfl⟩
  |nam s=>
   have hs:s ∈ NM7:=by simpa[Tm.nin] using h7
   have:=c7 s hs
   exact⟨⟨.nam (nm7 _ this),by simp[Tm.nin,this]⟩,rfl,rfl⟩
  | @giv _ w m z a b a' b' hw ha hz hn hb=>
    simp only[Tm.nin,Tm.nins,hw,decide_true,Bool.not_true,Bool.false_or,Bool.and_true,Bool.and_eq_true,decide_eq_true_eq] at h7
    obtain⟨hm,ha7,hb7⟩:=h7
    simp only[Tm.size,Tm.sizes] at hK
    have gg:=ht.nd_word.2.2.2.2.1
    obtain⟨⟨a1,a2⟩,a3,a4⟩:=Tn.ok K (by omega) ha (gg a (by simp)) ha7 c7
    obtain⟨⟨b1,b2⟩,b3,b4⟩:=Tn.ok K (by omega) hb (gg b (by simp)) hb7 (fun s hs=>by
     unfold upd
     split
     ·exact hz
     ·exact c7 s hs)
    refine⟨⟨?_,?_⟩,by simp only[Tm.size,Tm.sizes];omega,by simp only[Tm.dep,Tm.deps];omega⟩
    ·cases ht with
     |nd sh e1 e2 e3 e4 e5=>
      refine .nd sh (by simpa using e1) (by simpa using e2) (fun _=>nm7 z hz) (fun h=>by
       have:=(shape_giv sh).1.mp hw
       rw[h] at this;cases this) fun x hx=> ?_
      simp only[List.mem_cons,List.not_mem_nil,or_false] at hx
      rcases hx with rfl|rfl
      ·exact a1
      ·exact b1
    ·simp[Tm.nin,Tm.nins,hz,a2,b2]
  | @nd _ w m ps us qs hw hl hk hp hh=>
    simp only[Tm.nin,hw,decide_false,Bool.not_false,Bool.true_or,Bool.true_and] at h7
    have gg:=ht.nd_word.2.2.2.2.1
    simp only[Tm.size] at hK
    have each:∀i (h:i<ps.length) (h':i<us.length),(Good us[i] ∧(us[i]).nin NM7=true)∧(us[i]).size=(ps[i]).size∧(us[i]).dep=(ps[i]).dep:=fun i h h'=>by
     have hm:=List.getElem_mem h
     have:=Tm.sizes_mem hm
     exact Tn.ok K (by omega) (hk i h h') (gg _ hm) (Tm.nins_all.mp h7 _ hm) c7
    have all:∀x ∈ qs,Good x∧x.nin NM7=true:=fun x hx=>by
     obtain⟨i,hi,rfl⟩:=List.mem_iff_getElem.mp (hp.mem_iff.mp hx)
     exact(each i (by omega) hi).1
    have hs:=sizes_idx hl fun i h h'=>(each i h h').2.1
    have hd:=deps_idx hl fun i h h'=>(each i h h').2.2
    refine⟨⟨?_,?_⟩,?_,?_⟩
    ·have hql:qs.length=ps.length:=by rw[hp.length_eq,hl]
     cases ht with
     |nd sh e1 e2 e3 e4 e5=>exact .nd sh (by omega) (by omega) e3 e4 fun x hx=>(all x hx).1
    ·simp only[Tm.nin,hw,decide_false,Bool.not_false,Bool.true_or,Bool.true_and]
     exact Tm.nins_all.mpr fun x hx=>(all x hx).2
    ·simp only[Tm.size,sizes_perm hp,hs]
    ·simp only[Tm.dep,deps_perm hp,hd]
end L3
namespace L3
open PySem L2
noncomputable def cO (t:Tm):C:=cF t [] fun s=>s.cps.toList
def IsFO (f:FN) (k:Nat):Prop:=∀(t:Tm) (S:Store),Good t→t.dep≤k→t.size≤1000→t.dep≤100→(f [t.d] S).sat fun x S'=>x= .str (T (cO t).txt)∧Grw S S'
theorem isFO {fb:FN} {k:Nat} (h:IsFB fb k):IsFO (run 1 1 (mFormOf fb)) k:=fun t S ht hd hs h1=>by
 rw[sat_run]
 refine⟨rfl,?_⟩
 unfold mFormOf
 simp only[List.map_cons,List.map_nil,List.cons_append,List.nil_append,List.length_cons,List.length_nil,List.replicate,Nat.zero_add,Nat.reduceAdd,Nat.reduceSub,ssat_sRet,sat_eN,sat_aCons,sat_aNil,sat_eVar,List.getElem?_cons_zero,sat_mkTup,sat_eDic0,callK_eq,List.append_nil]
 refine⟨small (by simp),?_⟩
 exact h t [] (.dic [] []) (fun s=>s.cps.toList) S ht hd hs (by simpa using h1) OD.plain Og.plain
theorem cO_good {t:Tm} (ht:Good t) (h1:t.dep≤100):(cO t).good=true:=cF_good ht Og.plain (by simpa using h1)
theorem txt_eq {t u:Tm} (ht:Good t) (hu:Good u) (h1:t.dep≤100) (h2:u.dep≤100):(T (cO t).txt==T (cO u).txt)=eqC (cO t) (cO u):=by
 refine(eqC_of ?_).symm
 constructor
 ·intro e;rw[e];simp
 ·intro e
  exact C.txt_inj (cO_good ht h1) (cO_good hu h2) (T_inj (by simpa using e))
def IsAA (f:FN) (k:Nat):Prop:=∀(t u:Tm) (S:Store),Good t→Good u→t.dep≤k→u.dep≤k→t.size≤1000→u.size≤1000→t.dep≤100→u.dep≤100→(f [t.d,u.d] S).sat fun x S'=>x= .bl (eqC (cO t) (cO u))∧Grw S S'
theorem isAA {fo:FN} {k:Nat} (h:IsFO fo k):IsAA (run 2 2 (mAreAlike fo)) k:=fun t u S ht hu h1 h2 h3 h4 h5 h6=>by
 rw[sat_run]
 refine⟨rfl,?_⟩
 unfold mAreAlike
 simp only[List.map_cons,List.map_nil,List.cons_append,List.nil_append,List.length_cons,List.length_nil,List.replicate,Nat.zero_add,Nat.reduceAdd,Nat.reduceSub,ssat_sRet,sat_e2,sat_eN,sat_aCons,sat_aNil,sat_eVar,List.getElem?_cons_zero,List.getElem?_cons_succ,callK_eq,List.append_nil]
 refine sat_mono (h t S ht h1 h3 h5) ?_
 rintro x S1 ⟨rfl,gr1⟩
 refine sat_mono (h u S1 hu h2 h4 h6) ?_
 rintro x S2 ⟨rfl,gr2⟩
 rw[eq_strs,sat_ok,txt_eq ht hu h5 h6]
 exact⟨rfl,gr1.trans gr2⟩
end L3
namespace L3
open PySem L2
abbrev Nx:=Str→List Nat ⊕ Str
def stepF (t:Tm) (p:List Nat) (i:Nat) (f:Nx):Nx:=match t with
 | .nd w m _=>if w ∈ GIV∧i=1 then fun s=>if s=m then .inl p else f s else f
 | _=>f
def outW:Tm→List Nat→List Nat→Nx→Nx
 | _,_,[],f=>f
 |t,p,i::q,f=>match t.parts[i]? with
  |some u=>outW u (p++ [i]) q (stepF t p i f)
  |none=>stepF t p i f
theorem outW_snoc:∀ {q:List Nat} {t v:Tm} {p:List Nat} {i:Nat} {f:Nx},t.at q=some v→outW t p (q++ [i]) f=stepF v (p++q) i (outW t p q f)
 | [],t,v,p,i,f,h=>by
   simp only[Tm.at,Option.some.injEq] at h
   subst h
   simp only[List.nil_append,outW,List.append_nil]
   cases t.parts[i]? <;>rfl
 |j::q,t,v,p,i,f,h=>by
  simp only[Tm.at] at h
  cases e:t.parts[j]? with
  |none=>rw[e] at h;cases h
  |some u=>
   rw[e] at h
   simp only[Option.bind] at h
   simp only[List.cons_append,outW,e]
   rw[outW_snoc h,List.append_assoc]
   rfl
structure NxOk (B:Nat) (f:Nx):Prop where
 pl:∀s p,f s= .inl p→p.length≤B∧∀i ∈ p,i<6
 nm:∀s z,f s= .inr z→z=s
theorem NxOk.inr:NxOk 0 .inr:=⟨fun s p h=>(by cases h),fun s z h=>(by cases h;rfl)⟩
theorem NxOk.mono {B B':Nat} {f:Nx} (h:NxOk B f) (hb:B≤B'):NxOk B' f:=⟨fun s p e=>⟨Nat.le_trans (h.pl s p e).1 hb,(h.pl s p e).2⟩,h.nm⟩
theorem NxOk.step {B:Nat} {f:Nx} (h:NxOk B f) {t:Tm} {p:List Nat} {i:Nat} (hp:p.length≤B) (h6:∀i ∈ p,i<6):NxOk B (stepF t p i f):=by
 unfold stepF
 cases t with
 |num _=>exact h
 |nam _=>exact h
 |nd w m ps=>
  simp only
  split
  ·refine⟨fun s q e=> ?_,fun s z e=> ?_⟩
   ·split at e
    ·cases e;exact⟨hp,h6⟩
    ·exact h.pl s q e
   ·split at e
    ·cases e
    ·exact h.nm s z e
  ·exact h
theorem at_lt6:∀ {q:List Nat} {t u:Tm},Good t→t.at q=some u→∀i ∈ q,i<6
 | [],_,_,_,_,i,h=>by cases h
 |j::q,t,u,g,h,i,hi=>by
  obtain⟨w,m,ps,p,rfl,h1,h2⟩:=at_parts h
  have hg:=g.nd_word
  rcases List.mem_cons.mp hi with rfl|hi
  ·have:=(List.getElem?_eq_some_iff.mp h1).1
   have:=hg.2.2.2.1
   omega
  ·exact at_lt6 (hg.2.2.2.2.1 p (List.mem_of_getElem? h1)) h2 i hi
theorem outW_ok {B:Nat} :∀ {q:List Nat} {t u:Tm} {p:List Nat} {f:Nx},Good t→t.at q=some u→NxOk B f→p.length+q.length≤B+1→(∀ i ∈ p,i<6)→NxOk B (outW t p q f)
 | [],t,u,p,f,_,_,hf,_,_=>hf
 |i::q,t,u,p,f,g,h,hf,hl,h6=>by
  obtain⟨w,m,ps,v,rfl,h1,h2⟩:=at_parts h
  have hg:=g.nd_word
  simp only[List.length_cons] at hl
  have hst:NxOk B (stepF (.nd w m ps) p i f):=hf.step (by omega) h6
  simp only[outW,Tm.parts,h1]
  refine outW_ok (hg.2.2.2.2.1 v (List.mem_of_getElem? h1)) h2 hst (by simp;omega) fun j hj=> ?_
  rcases List.mem_append.mp hj with hj|hj
  ·exact h6 j hj
  ·rw[List.mem_singleton.mp hj]
   have:=(List.getElem?_eq_some_iff.mp h1).1
   have:=hg.2.2.2.1
   omega
def dots:List Nat→List Nat
 | [] => []
 | [a] =>dg (a:Nat)
 |a::b::l=>dg (a:Nat)++46::dots (b::l)
theorem dots_join:∀l:List Nat,dots l=TL.joinL [46] (l.map fun a=>dg ((a:Nat):Int))
 | [] =>rfl
 | [a] =>by simp[dots,TL.joinL]
 |a::b::l=>by
  have ih:=dots_join (b::l)
  simp only[List.map_cons] at ih ⊢
  simp only[dots,TL.joinL,ih]
  rfl
def encO:List Nat ⊕ Str→List Nat
 | .inl p=>64::dots p
 | .inr s=>s.cps.toList
theorem dg6:∀i<6,(dg ((i:Nat):Int)).length=1:=by decide +kernel
theorem dots_len:∀ {p:List Nat},(∀ i ∈ p,i<6)→(dots p).length≤2*p.length
 | [],_=>by simp[dots]
 | [a],h=>by simp[dots,dg6 a (h a (by simp))]
 |a::b::l,h=>by
  have:=dots_len (p:=b::l) fun i hi=>h i (List.mem_cons_of_mem _ hi)
  simp only[dots,List.length_append,List.length_cons,dg6 a (h a (by simp))] at this ⊢
  omega
theorem dots_sgn:∀ {p:List Nat},∀c ∈ dots p,45≤c∧c<128
 | [],c,h=>by simp[dots] at h
 | [a],c,h=>dg_sign c h
 |a::b::l,c,h=>by
  simp only[dots,List.mem_append,List.mem_cons] at h
  rcases h with h|rfl|h
  ·exact dg_sign c h
  ·decide
  ·exact dots_sgn c h
theorem encO_og {f:Nx} (hf:NxOk 20 f):Og fun s=>encO (f s):=fun s hs=>by
 show encO (f s)≠ [] ∧(encO (f s)).all wsg=true∧lowL (encO (f s))=true∧(encO (f s)).length≤60
 cases e:f s with
 |inr z=>
  have:=hf.nm s z e
  subst this
  exact Og.plain z hs
 |inl p=>
  obtain⟨h1,h2⟩:=hf.pl s p e
  have hl:=dots_len h2
  refine⟨by simp[encO],?_,?_,by simp only[encO,List.length_cons];omega⟩
  ·simp only[encO,List.all_cons,Bool.and_eq_true]
   refine⟨by decide,List.all_eq_true.mpr fun c hc=> ?_⟩
   have:=dots_sgn c hc
   simp[wsg];omega
  ·unfold lowL
   simp only[encO,List.all_cons,Bool.and_eq_true]
   refine⟨by decide,List.all_eq_true.mpr fun c hc=> ?_⟩
   have:=dots_sgn c hc
   simp;omega
end L3
namespace L3
open PySem L2
local macro_rules| `(tactic| open_k)=> `(tactic| simp only[ssat_seq,ssat_asg,ssat_sRet,ssat_sExpr,ssat_if,ssat_skip,ssat_par,ssat_nx,ssat_ret,ssat_for,sat_e2,sat_e1,sat_eN,sat_aCons,sat_aNil,sat_eVar,sat_eK,sat_tOfE,sat_tTruth,sat_tNot,sat_tAnd,sat_tOr,sat_eIf,sat_eBM,sat_iSeq,sat_iArgs,sat_eAnd,sat_eOr,sat_eNot,sat_eChain,sat_eSl,sat_pNo,sat_pYes,sat_eLc,sat_eKw,sat_mkTup,sat_mkLst,sat_mkObj,sat_ok,callK_eq,List.append_nil,List.map_cons,List.map_nil,List.length_cons,List.length_nil,List.replicate,List.getElem?_cons_succ,List.getElem?_cons_zero,List.cons_append,List.nil_append,List.set_cons_succ,List.set_cons_zero,gName_eq,gTup_tup,gNames_cons,gNames_nil,Nat.zero_add,Nat.reduceAdd,Nat.reduceSub,sz0,sz1,sz2,sz3,sz4,sz5,sz6,sz7,sz8,sz10,sz17,true_and,add_int,sub_int,neg_int,lt_int,le_int,gt_int,ge_int,eq_int,ne_int,blD_bl,truthD_bl,itemsD_lst,itemsD_tup,wipeD,eq_strs,ne_strs,sl_tup,sl_lst,if_true,if_false,Bool.false_eq_true,sat_range1,sat_range2,tuple_lst,tuple_tup,len_tup,len_lst,len_scr,D.int.injEq,exists_eq_left',mt_str])
def mAround:SD:=
    sSeq (sAsg (eDct0) (gName 2))
    (sSeq (sAsg (eVar 0) (gName 3))
    (sSeq (sFor (iArgs enumA (aCons (eVar 1) (aNil))) (gTup [4,5]) (sSeq (sAsg (eVar 3) (gTup [6,7,8]))
    (sSeq (sIf (tAnd (tOfE (e2 inD (eVar 6) (eK (.tup [(.str "let"),(.str "each")])))) (tOfE (e2 eqD (eVar 5) (eK (.int 1))))) (sAsg (e2 addD (eK (.str "@")) (eBM "str" joinD (eK (.str ".")) (aCons (eLc (iSeq (eSl (eVar 1) (pNo) (pYes (eVar 4)))) [9] (gName 9) (tYesD) (eN strD (aCons (eVar 9) (aNil)))) (aNil)))) (gSub (eVar 2) (eVar 7))) (sSkip))
    (sAsg (e2 ixD (eVar 8) (eVar 5)) (gName 3)))))
    (sRet (e1 frzD (eVar 2)))))
def mFormAt (at_ fb ar:FN):SD:=
    sSeq (sAsg (eN (callK at_ []) (aCons (eVar 0) (aCons (eVar 1) (aNil)))) (gName 2))
    (sRet (eN (callK fb []) (aCons (eVar 2) (aCons (eN mkTup (aNil)) (aCons (eN (callK ar []) (aCons (eVar 0) (aCons (eVar 1) (aNil)))) (aNil))))))
def mSameAt (fa:FN):SD:=
    sSeq (sAsg (eN (callK fa []) (aCons (eVar 0) (aCons (eVar 1) (aNil)))) (gName 3))
    (sRet (e2 eqD (eVar 3) (eN (callK fa []) (aCons (eVar 0) (aCons (eVar 2) (aNil))))))
def DX (enc:List Nat ⊕ Str→D) (kvs:List (Key × D)) (f:Nx):Prop:=∀s,(dGet kvs (.inr s)).getD (.str s)=enc (f s)
theorem DX.put {enc:List Nat ⊕ Str→D} {kvs:List (Key × D)} {f:Nx} (h:DX enc kvs f) (m:Str) (p:List Nat):DX enc (putD kvs (.inr m) (enc (.inl p))) (fun s=>if s=m then .inl p else f s):=fun s=>by
 rw[dget_put]
 show _=enc (if s=m then .inl p else f s)
 by_cases hs:s=m
 ·rw[if_pos (by rw[hs]),if_pos hs];rfl
 ·rw[if_neg (fun e=>hs (by cases e;rfl)),if_neg hs];exact h s
def encT (x:List Nat ⊕ Str):D:= .str (T (encO x))
theorem DX.t0:DX encT [] .inr:=fun s=>by
 show D.str s=encT (.inr s)
 simp only[encT,encO,T_of]
theorem dic_at (kvs:List (Key × D)):∀S,dkAt (.dic (kvs.map (·.1)) (kvs.map (·.2))) S=some kvs:=fun S=>by
 unfold dkAt
 simp only[List.length_map,if_true]
 congr 1
 induction kvs with
 |nil=>rfl
 |cons p r ih=>simp only[List.map_cons,List.zip_cons_cons,ih]
theorem dic_get {enc:List Nat ⊕ Str→D} {kvs:List (Key × D)} {f:Nx} (h:DX enc kvs f) (s:Str) (S:Store):dgetD (.dic (kvs.map (·.1)) (kvs.map (·.2))) [.str s, .str s] S= .ok (enc (f s)) S:=by
 unfold dgetD
 simp only[dic_at,keyOf,h s]
theorem join_dots (l:List Nat):Txt.join "." (l.map fun a=>T (dg ((a:Nat):Int)))=T (dots l):=by
 rw[TL.join_eq]
 apply TL.ext_tl
 rw[TL.tl_join]
 show _=(T (dots l)).cps.toList
 rw[T_cps,dots_join,List.map_map]
 have:TL.tl ("." :Str)= [46] :=by decide +kernel
 rw[this]
 congr 1
 first|(apply List.map_congr_left;intro c _;exact T_cps _)|skip
theorem sum_one:∀ {l:List Nat},(∀ i ∈ l,i<6)→((l.map fun a=>T (dg ((a:Nat):Int))).map (·.length)).sum=l.length
 | [],_=>rfl
 |a::l,h=>by
  have ih:=sum_one (l:=l) fun i hi=>h i (List.mem_cons_of_mem _ hi)
  simp only[List.map_cons,List.sum_cons,ih,T_len,dg6 a (h a (by simp)),List.length_cons]
  omega
theorem frz_dic {N:Nat} {S:Store} {kvs:List (Key × D)} (h:S[N]? =some (.dK kvs)):frzD (.obj N) S= .ok (.dic (kvs.map (·.1)) (kvs.map (·.2))) (S.set N .dead):=by
 unfold frzD
 simp only[h]
theorem set_dK {S:Store} {kvs:List (Key × D)} {m:Str} {v:D} (h:kvs.length≤100):setD (.obj S.length) (.str m) v (S++ [.dK kvs])=some (S++ [.dK (putD kvs (.inr m) v)]):=by
 unfold setD
 have:(S++ [O.dK kvs])[S.length]? =some (.dK kvs):=by simp
 simp only[this,keyOf]
 rw[if_pos (Nat.lt_of_le_of_lt h (by decide)),set_last]
def IsAr (f:FN):Prop:=∀(t u:Tm) (q:List Nat) (S:Store),Good t→t.at q=some u→q.length≤20→(f [t.d,pl q] S).sat fun d S'=>OD d (fun s=>encO (outW t [] q .inr s))∧Grw S S'
theorem isAr:IsAr (run 2 10 mAround):=fun t u q S ht hq hl=>by
 rw[sat_run]
 refine⟨rfl,?_⟩
 unfold mAround
 simp only[List.map_cons,List.map_nil,List.cons_append,List.nil_append,List.length_cons,List.length_nil,List.replicate,Nat.zero_add,Nat.reduceAdd,Nat.reduceSub]
 have h6:=at_lt6 ht hq
 refine step_asg (S1:=S++ [.dK []]) (S2:=S++ [.dK []]) (d:= .obj S.length) rfl rfl ?_
 simp only[List.set_cons_succ,List.set_cons_zero]
 refine step_asg (S1:=S++ [.dK []]) (S2:=S++ [.dK []]) (d:=t.d) rfl rfl ?_
 simp only[List.set_cons_succ,List.set_cons_zero]
 refine seq_rule (fun e S1=>∃(kvs:List (Key × D)) (a3 a4 a5 a6 a7 a8 a9:Option D),e= [some t.d,some (pl q),some (.obj S.length),a3,a4,a5,a6,a7,a8,a9] ∧S1=S++ [.dK kvs] ∧DX encT kvs (outW t [] q .inr)) ?_ ?_
 ·rw[ssat_for,sat_iArgs]
  simp only[sat_aCons,sat_aNil,sat_eVar,List.getElem?_cons_succ,List.getElem?_cons_zero]
  rw[show enumA [pl q] (S++ [O.dK []])= .ok (enumL 0 (q.map fun i:Nat=>D.int (i:Int))) (S++ [O.dK []]) from rfl,sat_ok]
  refine for_rule (fun j e S1=>∃(kvs:List (Key × D)) (v:Tm) (a4 a5 a6 a7 a8 a9:Option D),e= [some t.d,some (pl q),some (.obj S.length),some v.d,a4,a5,a6,a7,a8,a9] ∧S1=S++ [.dK kvs] ∧kvs.length≤j∧t.at (q.take j)=some v∧DX encT kvs (outW t [] (q.take j) .inr)) ⟨[],t,_,_,_,_,_,_,rfl,rfl,Nat.le_refl _,by simp[Tm.at],by simpa[outW] using DX.t0⟩ ?_ ?_
  ·rintro j hj e S1 ⟨kvs,v,a4,a5,a6,a7,a8,a9,rfl,rfl,hk,hv,hdx⟩
   rw[enumL_len,List.length_map] at hj
   obtain⟨x,hx1,hx2⟩:=enumL_at (l:=q.map fun i:Nat=>D.int (i:Int)) (k:=0) (j:=j) (by rw[enumL_len,List.length_map];exact hj)
   rw[List.getElem?_map,List.getElem?_eq_getElem hj,Option.map_some,Option.some.injEq] at hx1
   subst hx1
   rw[hx2,Nat.zero_add]
   simp only[gTup_tup,gNames_cons,gNames_nil,ssat_nx,List.set_cons_succ,List.set_cons_zero]
   obtain⟨v',h1,h2⟩:=Tm.at_take hq hj hv
   have gv:=at_good hv ht
   refine step_asg (S1:=S++ [.dK kvs]) (S2:=S++ [.dK kvs]) (d:=v.d) (env':= [some t.d,some (pl q),some (.obj S.length),some v.d,some (.int (j:Nat)),some (.int ((q[j] :Nat):Int)),some v.w,some v.m,some (.tup (Tm.ds v.parts)),a9]) rfl (by rw[Tm.d_eq v];rfl) ?_
   have hc:(tAnd (tOfE (e2 inD (eVar 6) (eK (.tup [(.str "let"),(.str "each")])))) (tOfE (e2 eqD (eVar 5) (eK (.int 1))))) [some t.d,some (pl q),some (.obj S.length),some v.d,some (.int (j:Nat)),some (.int ((q[j] :Nat):Int)),some v.w,some v.m,some (.tup (Tm.ds v.parts)),a9] (S++ [.dK kvs])= .ok (isGivT v&&decide (q[j] =1)) (S++ [.dK kvs]):=of_sat (by
    open_k
    rw[w_giv gv,sat_ok,blD_bl,sat_ok]
    cases isGivT v with
    |true=>
     simp only[if_true,Bool.true_and]
     refine⟨?_,trivial⟩
     rw[Bool.eq_iff_iff];simp;omega
    |false=>simp)
   have tk:q.take (j+1)=q.take j++ [q[j]] :=List.take_succ_eq_append_getElem hj
   have eo:=outW_snoc (p:= []) (i:=q[j]) (f:= .inr) hv
   rw[List.nil_append,←tk] at eo
   have done:∀(kvs':List (Key × D)) (b9:Option D),kvs'.length≤j+1→DX encT kvs' (outW t [] (q.take (j+1)) .inr)→(sAsg (e2 ixD (eVar 8) (eVar 5)) (gName 3) [some t.d,some (pl q),some (.obj S.length),some v.d,some (.int (j:Nat)),some (.int ((q[j] :Nat):Int)),some v.w,some v.m,some (.tup (Tm.ds v.parts)),b9] (S++ [.dK kvs'])).sat (fun e S1=>∃(kvs:List (Key × D)) (v:Tm) (a4 a5 a6 a7 a8 a9:Option D),e= [some t.d,some (pl q),some (.obj S.length),some v.d,a4,a5,a6,a7,a8,a9] ∧S1=S++ [.dK kvs] ∧kvs.length≤j+1∧t.at (q.take (j+1))=some v∧DX encT kvs (outW t [] (q.take (j+1)) .inr)) (fun d S'=>OD d (fun s=>encO (outW t [] q .inr s))∧Grw S S') (fun e S1=>∃(kvs:List (Key × D)) (a3 a4 a5 a6 a7 a8 a9:Option D),e= [some t.d,some (pl q),some (.obj S.length),a3,a4,a5,a6,a7,a8,a9] ∧S1=S++ [.dK kvs] ∧DX encT kvs (outW t [] q .inr)) (fun e S1=>∃(kvs:List (Key × D)) (v:Tm) (a4 a5 a6 a7 a8 a9:Option D),e= [some t.d,some (pl q),some (.obj S.length),some v.d,a4,a5,a6,a7,a8,a9] ∧S1=S++ [.dK kvs] ∧kvs.length≤j+1∧t.at (q.take (j+1))=some v∧DX encT kvs (outW t [] (q.take (j+1)) .inr)):=by
    intro kvs' b9 hl' hd'
    open_k
    rw[ix_nat (d:=v'.d) (by rw[Tm.ds_get,h1];rfl),sat_ok]
    exact⟨kvs',v',_,_,_,_,_,_,rfl,rfl,hl',h2,hd'⟩
   by_cases hg:isGivT v=true∧q[j] =1
   ·obtain⟨hg1,hg2⟩:=hg
    cases v with
    |num _=>cases hg1
    |nam _=>cases hg1
    |nd w m ps=>
    have hw:w ∈ GIV:=by simpa[isGivT] using hg1
    have est:outW t [] (q.take (j+1)) .inr=fun s=>if s=m then .inl (q.take j) else outW t [] (q.take j) .inr s:=by
     rw[eo];unfold stepF;simp only[hw,hg2,and_self,if_true]
    refine step_yes (S1:=S++ [.dK kvs]) (hc.trans (by rw[hg1,decide_eq_true hg2];rfl)) ?_
    have h6':∀i ∈ q.take j,i<6:=fun i hi=>h6 i (List.mem_of_mem_take hi)
    have etx:(e2 addD (eK (.str "@")) (eBM "str" joinD (eK (.str ".")) (aCons (eLc (iSeq (eSl (eVar 1) (pNo) (pYes (eVar 4)))) [9] (gName 9) (tYesD) (eN strD (aCons (eVar 9) (aNil)))) (aNil)))) [some t.d,some (pl q),some (.obj S.length),some (Tm.nd w m ps).d,some (.int (j:Nat)),some (.int ((q[j] :Nat):Int)),some (Tm.nd w m ps).w,some (Tm.nd w m ps).m,some (.tup (Tm.ds (Tm.nd w m ps).parts)),a9] (S++ [.dK kvs])= .ok (encT (.inl (q.take j))) (S++ [.dK kvs]):=of_sat (by
     simp only[sat_e2,sat_eK,sat_eBM,sat_aCons,sat_aNil,sat_eLc,sat_iSeq,sat_eSl,sat_eVar,sat_pNo,sat_pYes,List.getElem?_cons_succ,List.getElem?_cons_zero,D.int.injEq,exists_eq_left']
     refine⟨rfl,?_⟩
     have ecut:slD (pl q) none (some ((j:Nat):Int)) (S++ [.dK kvs])= .ok (pl (q.take j)) (S++ [.dK kvs]):=by
      unfold pl
      rw[sl_tup,cutL_lo (by rw[List.length_map];omega),List.map_take]
     rw[ecut,sat_ok,show itemsD (pl (q.take j)) (S++ [O.dK kvs])= .ok ((q.take j).map fun i:Nat=>D.int (i:Int)) (S++ [O.dK kvs]) from rfl,sat_ok]
     refine⟨by rw[List.length_map];exact small (by rw[List.length_take];omega),?_⟩
     refine lc_map (fun d=>match d with| .int i=> .str (T (dg i))|d=>d) (fun x hx=> ?_) ?_
     ·obtain⟨i,hi,rfl⟩:=List.mem_map.mp hx
      have:=h6' i hi
      simp only[sat_eN,sat_aCons,sat_aNil,sat_eVar,wipeD,List.set_cons_succ,List.set_cons_zero,List.getElem?_cons_succ,List.getElem?_cons_zero]
      refine to_sat (x:= .str (T (dg (i:Int)))) ?_ ⟨rfl,rfl⟩
      unfold strD
      simp only
      rw[if_pos,dg_T]
      rw[Int.natAbs_natCast]
      by_cases z:i=0
      ·rw[z];decide
      ·exact Nat.lt_trans ((Nat.log2_lt z).mpr (Nat.lt_trans this (by decide:6<2 ^ 3))) (by decide)
     ·have em:((q.take j).map fun i:Nat=>D.int (i:Int)).map (fun d=>match d with| .int i=>D.str (T (dg i))|d=>d)=((q.take j).map fun a=>T (dg ((a:Nat):Int))).map .str:=by
       rw[List.map_map,List.map_map]
       apply List.map_congr_left
       intro i _
       rfl
      rw[em]
      have ej:joinD (.str ".") [.lst (((q.take j).map fun a=>T (dg ((a:Nat):Int))).map .str)] (S++ [.dK kvs])= .ok (.str (T (dots (q.take j)))) (S++ [.dK kvs]):=by
       unfold joinD
       simp only[asS,asL,Option.bind,strs_map]
       rw[if_pos,join_dots]
       rw[sum_one h6',List.length_map,List.length_take]
       have:("." :Str).length=1:=by decide +kernel
       rw[this];omega
      rw[ej,sat_ok]
      have ea:("@" :Str)=T [64] :=by decide +kernel
      have hdl:=dots_len h6'
      rw[List.length_take] at hdl
      rw[ea,add_str (small (by rw[T_len,T_len];simp;omega)),sat_ok,T_app]
      exact⟨rfl,rfl⟩)
    have hgs:gSub (eVar 2) (eVar 7) (encT (.inl (q.take j))) [some t.d,some (pl q),some (.obj S.length),some (Tm.nd w m ps).d,some (.int (j:Nat)),some (.int ((q[j] :Nat):Int)),some (Tm.nd w m ps).w,some (Tm.nd w m ps).m,some (.tup (Tm.ds (Tm.nd w m ps).parts)),a9] (S++ [.dK kvs])= .nx [some t.d,some (pl q),some (.obj S.length),some (Tm.nd w m ps).d,some (.int (j:Nat)),some (.int ((q[j] :Nat):Int)),some (Tm.nd w m ps).w,some (Tm.nd w m ps).m,some (.tup (Tm.ds (Tm.nd w m ps).parts)),a9] (S++ [.dK (putD kvs (.inr m) (encT (.inl (q.take j))))]):=by
     unfold gSub
     simp only[eVar,List.getElem?_cons_succ,List.getElem?_cons_zero,Tm.m]
     rw[set_dK (by omega)]
    refine step_asg etx hgs ?_
    refine done _ a9 (Nat.le_trans put_lenP (by omega)) ?_
    rw[est]
    exact hdx.put m (q.take j)
   ·refine step_no (S1:=S++ [.dK kvs]) (hc.trans (by
     congr 1
     rw[Bool.eq_false_iff]
     simp only[ne_eq,Bool.and_eq_true,decide_eq_true_eq]
     exact hg)) ?_
    refine done kvs a9 (by omega) ?_
    have est:outW t [] (q.take (j+1)) .inr=outW t [] (q.take j) .inr:=by
     rw[eo];unfold stepF
     cases v with
     |num _=>rfl
     |nam _=>rfl
     |nd w m ps=>
      simp only
      rw[if_neg]
      rintro⟨a,b⟩
      exact hg ⟨by simp[isGivT,a],b⟩
    rw[est];exact hdx
  ·rintro e S1 ⟨kvs,v,a4,a5,a6,a7,a8,a9,rfl,rfl,hk,hv,hdx⟩
   rw[enumL_len,List.length_map,List.take_length] at hdx
   exact⟨kvs,_,_,_,_,_,_,_,rfl,rfl,hdx⟩
 rintro e S1 ⟨kvs,a3,a4,a5,a6,a7,a8,a9,rfl,rfl,hdx⟩
 open_k
 rw[frz_dic (kvs:=kvs) (by simp),sat_ok,set_last]
 exact⟨⟨fun S=>rfl,fun s S _=>dic_get hdx s S⟩,_,rfl⟩
end L3
namespace L3
open PySem L2
local macro_rules| `(tactic| open_k)=> `(tactic| simp only[ssat_seq,ssat_asg,ssat_sRet,ssat_sExpr,ssat_if,ssat_skip,ssat_par,ssat_nx,ssat_ret,ssat_for,sat_e2,sat_e1,sat_eN,sat_aCons,sat_aNil,sat_eVar,sat_eK,sat_tOfE,sat_tTruth,sat_tNot,sat_tAnd,sat_tOr,sat_eIf,sat_eBM,sat_iSeq,sat_iArgs,sat_eAnd,sat_eOr,sat_eNot,sat_eChain,sat_eSl,sat_pNo,sat_pYes,sat_eLc,sat_eKw,sat_mkTup,sat_mkLst,sat_mkObj,sat_ok,callK_eq,List.append_nil,List.map_cons,List.map_nil,List.length_cons,List.length_nil,List.replicate,List.getElem?_cons_succ,List.getElem?_cons_zero,List.cons_append,List.nil_append,List.set_cons_succ,List.set_cons_zero,gName_eq,gTup_tup,gNames_cons,gNames_nil,Nat.zero_add,Nat.reduceAdd,Nat.reduceSub,sz0,sz1,sz2,sz3,sz4,sz5,sz6,sz7,sz8,sz10,sz17,true_and,add_int,sub_int,neg_int,lt_int,le_int,gt_int,ge_int,eq_int,ne_int,blD_bl,truthD_bl,itemsD_lst,itemsD_tup,wipeD,eq_strs,ne_strs,sl_tup,sl_lst,if_true,if_false,Bool.false_eq_true,sat_range1,sat_range2,tuple_lst,tuple_tup,len_tup,len_lst,len_scr,D.int.injEq,exists_eq_left',mt_str])
def IsAtO (f:FN):Prop:=∀ {t u:Tm} {q:List Nat} (S:Store),t.at q=some u→f [t.d,pl q] S= .ok u.d S
noncomputable def cPl (t:Tm) (q:List Nat) (u:Tm):C:=cF u [] fun s=>encO (outW t [] q .inr s)
theorem nx_ok {t u:Tm} {q:List Nat} (ht:Good t) (h:t.at q=some u) (hl:q.length≤20):NxOk 20 (outW t [] q .inr):=
 outW_ok ht h (NxOk.inr.mono (Nat.zero_le _)) (by simp;omega) (by simp)
theorem at_size:∀ {q:List Nat} {t u:Tm},t.at q=some u→u.size≤t.size
 | [],t,u,h=>by simp only[Tm.at,Option.some.injEq] at h;subst h;exact Nat.le_refl _
 |i::q,t,u,h=>by
  obtain⟨w,m,ps,p,rfl,h1,h2⟩:=at_parts h
  have:=at_size h2
  have:=Tm.sizes_mem (List.mem_of_getElem? h1)
  simp only[Tm.size];omega
def IsFA (f:FN) (k:Nat):Prop:=∀(t u:Tm) (q:List Nat) (S:Store),Good t→t.at q=some u→t.dep≤k→t.dep≤20→t.size≤1000→(f [t.d,pl q] S).sat fun x S'=>x= .str (T (cPl t q u).txt)∧Grw S S'
theorem isFA {at_ fb ar:FN} {k:Nat} (ha:IsAtO at_) (hf:IsFB fb k) (hr:IsAr ar):IsFA (run 2 3 (mFormAt at_ fb ar)) k:=fun t u q S ht h hd h20 hs=>by
 rw[sat_run]
 refine⟨rfl,?_⟩
 unfold mFormAt
 simp only[List.map_cons,List.map_nil,List.cons_append,List.nil_append,List.length_cons,List.length_nil,List.replicate,Nat.zero_add,Nat.reduceAdd,Nat.reduceSub]
 have hqd:=Tm.at_dep h
 have hsz:=at_size h
 refine step_asg (S1:=S) (S2:=S) (d:=u.d) (of_sat (by open_k;rw[ha S h,sat_ok];exact⟨rfl,rfl⟩)) rfl ?_
 simp only[List.set_cons_succ,List.set_cons_zero]
 open_k
 refine sat_mono (hr t u q S ht h (by omega)) ?_
 rintro od S1 ⟨hod,gr1⟩
 refine sat_mono (hf u [] od _ S1 (at_good h ht) (by omega) (by omega) (by simp;omega) hod (encO_og (nx_ok ht h (by omega)))) ?_
 rintro x S2 ⟨rfl,gr2⟩
 exact⟨rfl,gr1.trans gr2⟩
theorem cPl_good {t u:Tm} {q:List Nat} (ht:Good t) (h:t.at q=some u) (h20:t.dep≤20):(cPl t q u).good=true:=by
 have hqd:=Tm.at_dep h
 exact cF_good (at_good h ht) (encO_og (nx_ok ht h (by omega))) (by simp;omega)
end L3
namespace L3
open PySem L2
local macro_rules| `(tactic| open_k)=> `(tactic| simp only[ssat_seq,ssat_asg,ssat_sRet,ssat_sExpr,ssat_if,ssat_skip,ssat_par,ssat_nx,ssat_ret,ssat_for,sat_e2,sat_e1,sat_eN,sat_aCons,sat_aNil,sat_eVar,sat_eK,sat_tOfE,sat_tTruth,sat_tNot,sat_tAnd,sat_tOr,sat_eIf,sat_eBM,sat_iSeq,sat_iArgs,sat_eAnd,sat_eOr,sat_eNot,sat_eChain,sat_eSl,sat_pNo,sat_pYes,sat_eLc,sat_eKw,sat_mkTup,sat_mkLst,sat_mkObj,sat_ok,callK_eq,List.append_nil,List.map_cons,List.map_nil,List.length_cons,List.length_nil,List.replicate,List.getElem?_cons_succ,List.getElem?_cons_zero,List.cons_append,List.nil_append,List.set_cons_succ,List.set_cons_zero,gName_eq,gTup_tup,gNames_cons,gNames_nil,Nat.zero_add,Nat.reduceAdd,Nat.reduceSub,sz0,sz1,sz2,sz3,sz4,sz5,sz6,sz7,sz8,sz10,sz17,true_and,add_int,sub_int,neg_int,lt_int,le_int,gt_int,ge_int,eq_int,ne_int,blD_bl,truthD_bl,itemsD_lst,itemsD_tup,wipeD,eq_strs,ne_strs,sl_tup,sl_lst,if_true,if_false,Bool.false_eq_true,sat_range1,sat_range2,tuple_lst,tuple_tup,len_tup,len_lst,len_scr,D.int.injEq,exists_eq_left',mt_str])
def mCountL (f:FN):SD:=
    sRet (e2 addD (eK (.int 1)) (eN sumD (aCons (eLc (iSeq (e2 ixD (eVar 0) (eK (.int 2)))) [1] (gName 1) (tYesD) (eN (callK f []) (aCons (eVar 1) (aNil)))) (aNil))))
def mDeepL (f:FN):SD:=
    sRet (e2 addD (eK (.int 1)) (eN maxD (aCons (e2 addD (eN mkLst (aCons (eK (.int 0)) (aNil))) (eLc (iSeq (e2 ixD (eVar 0) (eK (.int 2)))) [1] (gName 1) (tYesD) (eN (callK f []) (aCons (eVar 1) (aNil))))) (aNil))))
def mCopied (pk pl_ at_ tn pt ct dp_:FN):SD:=
    sSeq (sFor (iArgs range1 (aCons (eN (callK pk []) (aCons (eVar 0) (aCons (eK (.int 4)) (aNil)))) (aNil))) (gName 2) (sSeq (sAsg (eN (callK pl_ []) (aCons (eVar 1) (aNil))) (gName 3))
    (sSeq (sPar [4,5] (aCons (e2 ixD (eVar 3) (eN (callK pk []) (aCons (eVar 0) (aCons (eN lenD (aCons (eVar 3) (aNil))) (aNil))))) (aCons (e2 ixD (eVar 3) (eN (callK pk []) (aCons (eVar 0) (aCons (eN lenD (aCons (eVar 3) (aNil))) (aNil))))) (aNil))))
    (sSeq (sAsg (eN (callK at_ []) (aCons (eVar 1) (aCons (eVar 4) (aNil)))) (gName 6))
    (sSeq (sIf (tOfE (e2 eqD (eN (callK pk []) (aCons (eVar 0) (aCons (eK (.int 2)) (aNil)))) (eK (.int 0)))) (sAsg (eN (callK tn []) (aCons (eVar 0) (aCons (eVar 6) (aCons (eDic0) (aNil))))) (gName 6)) (sSkip))
    (sSeq (sAsg (eN (callK pt []) (aCons (eVar 1) (aCons (eVar 5) (aCons (eVar 6) (aNil))))) (gName 7))
    (sIf (tAnd (tOfE (e2 leD (eN (callK ct []) (aCons (eVar 7) (aNil))) (eK (.int 60)))) (tOfE (e2 leD (eN (callK dp_ []) (aCons (eVar 7) (aNil))) (eK (.int 10))))) (sAsg (eVar 7) (gName 1)) (sSkip))))))))
    (sRet (eVar 1))
theorem lc_int {te:ED} {env:EnvD} {i:Nat} {S:Store} (g:Tm→Int):∀ {ts:List Tm} {Q:List D→Store→Prop},(∀ t ∈ ts,te (env.set i (some t.d)) S= .ok (.int (g t)) S)→Q ((ts.map g).map .int) S→lcSat (gName i) tYesD te env (Tm.ds ts) S Q
 | [],Q,h,q=>q
 |t::ts,Q,h,q=>by
  simp only[Tm.ds]
  unfold lcSat
  simp only[gName,tYesD,sat_ok,if_true,h t List.mem_cons_self]
  exact lc_int g (fun t ht=>h t (List.mem_cons_of_mem _ ht)) q
theorem sum_sizes:∀ts:List Tm,(ts.map fun t=>(t.size:Int)).sum=(Tm.sizes ts:Int)
 | [] =>rfl
 |t::ts=>by simp only[List.map_cons,List.sum_cons,sum_sizes ts,Tm.sizes];omega
def IsCt (f:FN) (k:Nat):Prop:=∀(t:Tm) (S:Store),t.dep≤k→t.size≤1000→f [t.d] S= .ok (.int (t.size:Nat)) S
theorem isCt0 (f:FN):IsCt f 0:=fun t _ h=>by have:=t.dep_pos;omega
theorem isCt {f:FN} {k:Nat} (hf:IsCt f k):IsCt (run 1 2 (mCountL f)) (k+1):=fun t S hd hs=>by
 apply of_sat
 rw[sat_run]
 refine⟨rfl,?_⟩
 unfold mCountL
 simp only[List.map_cons,List.map_nil,List.cons_append,List.nil_append,List.length_cons,List.length_nil,List.replicate,Nat.zero_add,Nat.reduceAdd,Nat.reduceSub]
 have hse:=Tm.size_eq t
 have hde:=Tm.dep_eq t
 have hl:=Tm.len_sizes t.parts
 open_k
 rw[td2,sat_ok,itemsD_tup,sat_ok]
 refine⟨by rw[Tm.ds_len];exact small (by omega),?_⟩
 refine lc_int (fun t=>(t.size:Int)) (fun p hp=>of_sat ?_) ?_
 ·open_k
  have:=Tm.sizes_mem hp
  have:=Tm.deps_le.mp (Nat.le_refl (Tm.deps t.parts)) p hp
  rw[hf p S (by omega) (by omega),sat_ok]
  exact⟨rfl,rfl⟩
 ·rw[sum_int,sat_ok,sum_sizes]
  refine⟨?_,rfl⟩
  rw[hse];congr 1
theorem deps_mem:∀ {ts:List Tm},Tm.deps ts=0∨∃t ∈ ts,t.dep=Tm.deps ts
 | [] => .inl rfl
 |t::ts=>by
  right
  have:=t.dep_pos
  simp only[Tm.deps]
  by_cases h:Tm.deps ts≤t.dep
  ·exact⟨t,List.mem_cons_self,by omega⟩
  ·rcases deps_mem (ts:=ts) with h0|⟨u,hu,e⟩
   ·omega
   ·exact⟨u,List.mem_cons_of_mem _ hu,by omega⟩
def IsDp (f:FN) (k:Nat):Prop:=∀(t:Tm) (S:Store),t.dep≤k→t.size≤1000→f [t.d] S= .ok (.int (t.dep:Nat)) S
theorem isDp0 (f:FN):IsDp f 0:=fun t _ h=>by have:=t.dep_pos;omega
theorem max_deps (ts:List Tm) (S:Store):maxD [.lst (D.int 0::(ts.map fun t=>(t.dep:Int)).map .int)] S= .ok (.int (Tm.deps ts:Nat)) S:=by
 have ha:allInts (D.int 0::(ts.map fun t=>(t.dep:Int)).map .int)=some (0::ts.map fun t=>(t.dep:Int)):=by
  simp only[allInts,sum_lst,Option.map_some]
 obtain⟨k,hk⟩:∃k,maxI (0::ts.map fun t=>(t.dep:Int))=some k:=⟨_,rfl⟩
 have e:=maxI_eq (m:=(Tm.deps ts:Int)) hk (by
  rcases deps_mem (ts:=ts) with h0|⟨u,hu,e⟩
  ·rw[h0];exact List.mem_cons_self
  ·exact List.mem_cons_of_mem _ (List.mem_map.mpr ⟨u,hu,by rw[e]⟩)) (fun y hy=>by
  rcases List.mem_cons.mp hy with rfl|hy
  ·omega
  ·obtain⟨t,ht,rfl⟩:=List.mem_map.mp hy
   have:=Tm.deps_le.mp (Nat.le_refl (Tm.deps ts)) t ht
   omega)
 unfold maxD
 simp only[asL,Option.bind,ha,hk,e]
theorem isDp {f:FN} {k:Nat} (hf:IsDp f k):IsDp (run 1 2 (mDeepL f)) (k+1):=fun t S hd hs=>by
 apply of_sat
 rw[sat_run]
 refine⟨rfl,?_⟩
 unfold mDeepL
 simp only[List.map_cons,List.map_nil,List.cons_append,List.nil_append,List.length_cons,List.length_nil,List.replicate,Nat.zero_add,Nat.reduceAdd,Nat.reduceSub]
 have hse:=Tm.size_eq t
 have hde:=Tm.dep_eq t
 have hl:=Tm.len_sizes t.parts
 open_k
 rw[td2,sat_ok,itemsD_tup,sat_ok]
 refine⟨by rw[Tm.ds_len];exact small (by omega),?_⟩
 refine lc_int (fun t=>(t.dep:Int)) (fun p hp=>of_sat ?_) ?_
 ·open_k
  have:=Tm.sizes_mem hp
  have:=Tm.deps_le.mp (Nat.le_refl (Tm.deps t.parts)) p hp
  rw[hf p S (by omega) (by omega),sat_ok]
  exact⟨rfl,rfl⟩
 ·rw[add_lst (by simp only[List.length_map,List.length_cons,List.length_nil];exact Nat.le_trans (by omega:_≤2000) (by decide)),sat_ok,List.cons_append,List.nil_append,max_deps,sat_ok,add_int,sat_ok]
  exact⟨by rw[hde];congr 1,rfl⟩
def OkC (t:Tm):Prop:=(Good t∧t.nin NM7=true)∧t.size≤60∧t.dep≤10
def IsCo (f:FN):Prop:=∀(n m:Nat) (t:Tm) (S:Store),Purse n m S→OkC t→(f [.obj n,t.d] S).sat fun d S'=>∃u:Tm,d=u.d∧OkC u∧FrU [n,m] S S'∧Purse n m S'
theorem isCo {pk pl_ at_ tn pt ct dp_:FN} (hp:IsPk pk) (hpl:IsPls pl_ 12) (ha:IsAtO at_) (htn:IsTn tn 12) (hpt:IsPutL pt 12) (hct:IsCt ct 40) (hdp:IsDp dp_ 40):IsCo (run 2 8 (mCopied pk pl_ at_ tn pt ct dp_)):=fun n m t S pu okt=>by
 rw[sat_run]
 refine⟨rfl,?_⟩
 unfold mCopied
 simp only[List.map_cons,List.map_nil,List.cons_append,List.nil_append,List.length_cons,List.length_nil,List.replicate,Nat.zero_add,Nat.reduceAdd,Nat.reduceSub]
 refine seq_rule (fun e S1=>∃(u:Tm) (a2 a3 a4 a5 a6 a7:Option D),OkC u∧e= [some (.obj n),some u.d,a2,a3,a4,a5,a6,a7] ∧FrU [n,m] S S1∧Purse n m S1) ?_ ?_
 ·rw[ssat_for]
  open_k
  refine sat_mono (hp n m S 4 pu (by decide) (by decide)) ?_
  rintro d S1 ⟨⟨i,rfl,i0,i1⟩,fr1,pu1⟩
  rw[sat_range1]
  refine⟨by simp[okRng];omega,?_⟩
  refine for_n (fun e S1=>∃(u:Tm) (a2 a3 a4 a5 a6 a7:Option D),OkC u∧e= [some (.obj n),some u.d,a2,a3,a4,a5,a6,a7] ∧FrU [n,m] S S1∧Purse n m S1) ⟨t,_,_,_,_,_,_,okt,rfl,fr1,pu1⟩ ?_ (fun _ _ h=>h)
  rintro x hx e S2 ⟨u,a2,a3,a4,a5,a6,a7,oku,rfl,fr2,pu2⟩
  simp only[List.set_cons_succ,List.set_cons_zero]
  obtain⟨⟨gu,u7⟩,hz,hd⟩:=oku
  refine step_asg (S1:=S2) (S2:=S2) (d:= .lst (u.spots.map pl)) (of_sat (by open_k;rw[hpl u S2 (by omega) (by omega),sat_ok];exact⟨rfl,rfl⟩)) rfl ?_
  simp only[List.set_cons_succ,List.set_cons_zero]
  have hsl:=Tm.spots_len u
  have hsp:=Tm.size_pos u
  refine seq_rule (fun e S3=>∃(p q:List Nat) (v w:Tm),u.at p=some v∧u.at q=some w∧e= [some (.obj n),some u.d,some x,some (.lst (u.spots.map pl)),some (pl p),some (pl q),a6,a7] ∧FrU [n,m] S S3∧Purse n m S3) ?_ ?_
  ·open_k
   refine sat_mono (hp n m S2 _ pu2 (by rw[List.length_map];omega) (by rw[List.length_map];omega)) ?_
   rintro d S3 ⟨⟨i,rfl,i0,i1⟩,fr3,pu3⟩
   obtain⟨y,hy,ey⟩:=ixm (l:=u.spots.map pl) i0 i1
   rw[ey,sat_ok]
   refine sat_mono (hp n m S3 _ pu3 (by rw[List.length_map];omega) (by rw[List.length_map];omega)) ?_
   rintro d S4 ⟨⟨j,rfl,j0,j1⟩,fr4,pu4⟩
   obtain⟨z,hz,ez⟩:=ixm (l:=u.spots.map pl) j0 j1
   rw[ez,sat_ok]
   obtain⟨p,hp',rfl⟩:=List.mem_map.mp hy
   obtain⟨q,hq',rfl⟩:=List.mem_map.mp hz
   obtain⟨v,hv⟩:=Tm.spots_at.mp hp'
   obtain⟨w,hw⟩:=Tm.spots_at.mp hq'
   exact⟨p,q,v,w,hv,hw,rfl,fr2.trans (fr3.trans fr4),pu4⟩
  rintro e S3 ⟨p,q,v,w,hv,hw,rfl,fr3,pu3⟩
  have gv:=at_good hv gu
  have v7:=at_nin hv u7
  have hvd:=Tm.at_dep hv
  have hwd:=Tm.at_dep hw
  have hvz:=at_size hv
  have hwz:=at_size hw
  refine step_asg (S1:=S3) (S2:=S3) (d:=v.d) (of_sat (by open_k;rw[ha S3 hv,sat_ok];exact⟨rfl,rfl⟩)) rfl ?_
  simp only[List.set_cons_succ,List.set_cons_zero]
  refine seq_rule (fun e S4=>∃x6:Tm,OkC x6∧e= [some (.obj n),some u.d,some x,some (.lst (u.spots.map pl)),some (pl p),some (pl q),some x6.d,a7] ∧FrU [n,m] S S4∧Purse n m S4) ?_ ?_
  ·open_k
   refine sat_mono (hp n m S3 2 pu3 (by decide) (by decide)) ?_
   rintro d S4 ⟨⟨i,rfl,i0,i1⟩,fr4,pu4⟩
   open_k
   by_cases h0:i=0
   ·rw[decide_eq_true h0,if_pos rfl]
    rw[sat_eDic0]
    refine sat_mono (htn v n m (.dic [] []) (fun s=>s) 0 S4 gv v7 (by omega) (by omega) pu4 (fun q e=>by cases e) CD.nil (by omega) (fun s hs=>hs)) ?_
    rintro d S5 ⟨y,rfl,ty,fr5,pu5⟩
    obtain⟨gy,zy,dy⟩:=Tn.ok _ (Nat.le_refl _) ty gv v7 (fun s hs=>hs)
    exact⟨y,⟨gy,by omega,by omega⟩,rfl,fr3.trans (fr4.trans fr5),pu5⟩
   ·rw[decide_eq_false h0,if_neg Bool.false_ne_true]
    exact⟨v,⟨⟨gv,v7⟩,by omega,by omega⟩,rfl,fr3.trans fr4,pu4⟩
  rintro e S4 ⟨y,oky,rfl,fr4,pu4⟩
  obtain⟨⟨gy,y7⟩,yz,yd⟩:=oky
  have hps:=put_size (x:=y) hw
  have mg:=put_good gy hw gu
  have m7:=put_nin y7 hw u7
  have md:(Tm.putT y q u).dep≤30:=put_dep hw (by omega) (by omega)
  refine seq_rule (fun e S5=>e= [some (.obj n),some u.d,some x,some (.lst (u.spots.map pl)),some (pl p),some (pl q),some y.d,some (Tm.putT y q u).d] ∧FrU [n,m] S S5∧Purse n m S5) ?_ ?_
  ·open_k
   refine sat_mono (hpt u w y q S4 (by omega) (by omega) hw) ?_
   rintro d S5 ⟨rfl,gr⟩
   exact⟨rfl,fr4.trans gr.fru,pu4.fr gr.fru (X:= []) (by simp) (by simp)⟩
  rintro e S5 ⟨rfl,fr5,pu5⟩
  open_k
  rw[hct _ S5 (by omega) (by omega),sat_ok]
  open_k
  by_cases h60:(((Tm.putT y q u).size:Nat):Int)≤60
  ·rw[decide_eq_true h60,if_pos rfl,hdp _ S5 (by omega) (by omega),sat_ok]
   open_k
   by_cases h10:(((Tm.putT y q u).dep:Nat):Int)≤10
   ·rw[decide_eq_true h10,if_pos rfl]
    exact⟨_,_,_,_,_,_,_,⟨⟨mg,m7⟩,by omega,by omega⟩,rfl,fr5,pu5⟩
   ·rw[decide_eq_false h10,if_neg Bool.false_ne_true]
    exact⟨u,_,_,_,_,_,_,⟨⟨gu,u7⟩,hz,hd⟩,rfl,fr5,pu5⟩
  ·rw[decide_eq_false h60,if_neg Bool.false_ne_true]
   exact⟨u,_,_,_,_,_,_,⟨⟨gu,u7⟩,hz,hd⟩,rfl,fr5,pu5⟩
 rintro e S1 ⟨u,a2,a3,a4,a5,a6,a7,oku,rfl,fr1,pu1⟩
 open_k
 exact⟨u,rfl,oku,fr1,pu1⟩
end L3
namespace L3
open PySem L2
theorem eqv_strs:∀a b:List Str,PyData.eqvAll (a.map .str) (b.map .str)=decide (a=b)
 | [],[] =>by simp[PyData.eqvAll]
 | [],y::b=>by simp[PyData.eqvAll]
 |x::a,[] =>by simp[PyData.eqvAll]
 |x::a,y::b=>by
  have ih:=eqv_strs a b
  simp only[List.map_cons,PyData.eqvAll,PyData.eqv,ih]
  rw[Bool.eq_iff_iff]
  simp
theorem depth_strs:∀a:List Str,PyData.depthAll (a.map .str)=0
 | [] =>by simp[PyData.depthAll]
 |x::a=>by simp[PyData.depthAll,PyData.depth,depth_strs a]
theorem eq_txts {a b:List Str} (ha:∀s ∈ a,PyData.strOk s=true) (hb:∀s ∈ b,PyData.strOk s=true) {S:Store} :eqD (.lst (a.map .str)) (.lst (b.map .str)) S= .ok (.bl (decide (a=b))) S:=by
 have h1:toPy (deref (.lst (a.map .str)) S)=some (.list (a.map .str)):=by simp only[deref,toPy,toPyL_strs a ha];rfl
 have h2:toPy (deref (.lst (b.map .str)) S)=some (.list (b.map .str)):=by simp only[deref,toPy,toPyL_strs b hb];rfl
 rw[eqD_py h1 h2 (by simp only[PyData.depth,depth_strs];omega)]
 simp only[PyData.eqv,eqv_strs]
abbrev Pts:=List (List Nat × Tm)
def PtOk (t:Tm) (l:Pts):Prop:=∀x ∈ l,t.at x.1=some x.2
noncomputable def cX (t:Tm) (x:List Nat × Tm):C:=cPl t x.1 x.2
theorem txt_list {a b:List C} (ha:∀c ∈ a,c.good=true) (hb:∀c ∈ b,c.good=true):(a.map fun c=>T c.txt)=(b.map fun c=>T c.txt)↔a=b:=by
 constructor
 ·intro h
  apply List.ext_getElem
  ·have:=congrArg List.length h
   simpa using this
  ·intro i h1 h2
   have:=List.getElem_of_eq h (by simpa using h1)
   simp only[List.getElem_map] at this
   exact C.txt_inj (ha _ (List.getElem_mem h1)) (hb _ (List.getElem_mem h2)) (T_inj this)
 ·intro h;rw[h]
section
variable {t:Tm}
structure TOk (t:Tm) (k:Nat):Prop where
 g:Good t
 k:t.dep≤k
 d:t.dep≤20
 z:t.size≤1000
theorem cX_good {k:Nat} (h:TOk t k) {l:Pts} (hl:PtOk t l):∀c ∈ l.map (cX t),c.good=true:=fun c hc=>by
 obtain⟨x,hx,rfl⟩:=List.mem_map.mp hc
 exact cPl_good h.g (hl x hx) h.d
theorem cX_low {k:Nat} (h:TOk t k) {l:Pts} (hl:PtOk t l):∀c ∈ l.map (cX t),lowL c.txt=true:=fun c hc=>by
 obtain⟨x,hx,rfl⟩:=List.mem_map.mp hc
 have hqd:=Tm.at_dep (hl x hx)
 have:=h.d
 exact(cF_low (at_good (hl x hx) h.g) (encO_og (nx_ok h.g (hl x hx) (by omega))) (by simp;omega)).1
end
end L3
namespace L3
open PySem L2
def VP (t:Tm) (x:D):Prop:=∃p u,x=pl p∧t.at p=some u
theorem vp_spots {t:Tm} :∀x ∈ t.spots.map pl,VP t x:=fun x hx=>by
 obtain⟨p,hp,rfl⟩:=List.mem_map.mp hx
 obtain⟨u,hu⟩:=Tm.spots_at.mp hp
 exact⟨p,u,rfl,hu⟩
theorem vp_mem {t:Tm} {x:D} (h:VP t x):x ∈ t.spots.map pl:=by
 obtain⟨p,u,rfl,hu⟩:=h
 exact List.mem_map.mpr ⟨p,Tm.spots_at.mpr ⟨u,hu⟩,rfl⟩
end L3
namespace L3.Od
open PySem L2 L3
def IsPurse1 (f:FN):Prop:=∀(ns:List Int) (o:O),ns.length≤63→(f [.scr ns] [o]).sat fun d S'=>∃n m,d= .obj n∧n≠0∧m≠0∧Purse n m S'∧S'[(0:Nat)]? =some o
theorem isPurse1:IsPurse1 (run 1 4 mPurse):=fun ns o hn=>by
 rw[sat_run]
 refine⟨rfl,?_⟩
 unfold mPurse
 simp only[List.map_cons,List.map_nil,List.cons_append,List.nil_append,List.length_cons,List.length_nil,List.replicate,Nat.zero_add,Nat.reduceAdd,Nat.reduceSub]
 rw[ssat_seq,ssat_par]
 simp only[sat_aCons,sat_eK,sat_eN,sat_aNil,sat_mkObj,List.length_nil,List.length_cons,List.nil_append,List.cons_append,Nat.zero_add]
 refine⟨small (by simp),?_⟩
 simp only[gNames_cons,gNames_nil,ssat_nx,List.set_cons_succ,List.set_cons_zero]
 refine seq_rule (fun e S1=>∃(s:Int) (a:Option D) (l:List Int),e= [some (.scr ns),some (.int s),some (.obj 1),a] ∧l.length≤63∧S1= [o, .lst (l.map .int)]) ?_ ?_
 ·rw[ssat_for,sat_iSeq,sat_eSlS]
  simp only[sat_eVar,sat_eK,List.getElem?_cons_zero,sat_pNo,sat_pYes,D.int.injEq,exists_eq_left']
  rw[show slS (.scr ns) none (some 63) [o,O.lst []] = .ok (.lst (cutL (ns.map .int) none (some 63))) [o,O.lst []] from rfl,sat_ok,itemsD_lst,sat_ok]
  have hlen:(cutL (ns.map D.int) none (some 63)).length≤63:=Nat.le_trans cutL_len (by simpa using hn)
  refine for_rule (fun j e S1=>∃(s:Int) (a:Option D) (l:List Int),e= [some (.scr ns),some (.int s),some (.obj 1),a] ∧l.length≤j∧S1= [o, .lst (l.map .int)]) ⟨7,none,[],rfl,by simp,rfl⟩ ?_ ?_
  ·rintro j hj e S1 ⟨s,a,l,rfl,hl,rfl⟩
   obtain⟨c,hc⟩:∃c:Int,(cutL (ns.map D.int) none (some 63))[j] = .int c:=by
    have:=cutL_mem (List.getElem_mem hj)
    obtain⟨c,_,hc⟩:=List.mem_map.mp this
    exact⟨c,hc.symm⟩
   rw[hc,gName_eq,ssat_nx]
   simp only[List.set_cons_succ,List.set_cons_zero]
   have m1:mulOk s 1000003=true:=mulOk_r (by decide)
   refine step_asg (S1:= [o, .lst (l.map .int)]) (S2:= [o, .lst (l.map .int)]) (d:= .int ((s*1000003+c % 2305843009213693951+12345) % 2305843009213693951)) (of_sat (by
    simp only[sat_e2,sat_eVar,sat_eK,List.getElem?_cons_succ,List.getElem?_cons_zero,mul_int,mod_int,add_int,sat_ok]
    exact⟨m1,by decide,by decide,trivial,trivial⟩)) rfl ?_
   simp only[List.set_cons_succ,List.set_cons_zero]
   rw[ssat_if]
   simp only[sat_tOfE,sat_e2,sat_eN,sat_aCons,sat_aNil,sat_eVar,sat_eK,List.getElem?_cons_succ,List.getElem?_cons_zero]
   obtain⟨ab,eab⟩:∃ab:Int,∀S,absD [D.int c] S= .ok (.int ab) S:=⟨_,fun S=>rfl⟩
   simp only[eab,sat_ok,pw3,ge_int,blD_bl]
   by_cases hb:(1000000000000000000:Int)≤ab
   ·rw[decide_eq_true hb,if_pos rfl]
    simp only[ssat_sExpr,sat_eBM,sat_e2,sat_eN,sat_aCons,sat_aNil,sat_eVar,sat_eK,List.getElem?_cons_succ,List.getElem?_cons_zero]
    refine⟨rfl,?_⟩
    rw[eab,sat_ok,pw1,sat_ok,pw1,sat_ok,mul_int]
    refine⟨by decide +kernel,?_⟩
    rw[mod_int]
    refine⟨by decide +kernel,?_⟩
    rw[append_obj (n:=1) (l:=l.map .int) rfl]
    refine⟨by rw[List.length_map];exact Nat.lt_of_lt_of_le (by omega:l.length<100) (by decide),_,_,l++ [ab % (T60*T60)],rfl,by simp;omega,by simp⟩
   ·rw[decide_eq_false hb,if_neg Bool.false_ne_true,ssat_skip]
    exact⟨_,_,l,rfl,by omega,rfl⟩
  ·rintro e S1 ⟨s,a,l,rfl,hl,rfl⟩
   exact⟨s,a,l,rfl,by omega,rfl⟩
 rintro e S1 ⟨s,a,l,rfl,hl,rfl⟩
 simp only[ssat_sRet,sat_eN,sat_aCons,sat_aNil,sat_eVar,sat_eK,List.getElem?_cons_succ,List.getElem?_cons_zero,sat_mkObj]
 exact⟨small (by simp),2,1,rfl,by decide,by decide,⟨by decide,l,s,0,hl,rfl,rfl⟩,rfl⟩
noncomputable def shD (x:D):Str:=match toPyR x with
 |some a=>a.shown
 |none=> ""
structure Shw (x:D):Prop where
 u:U 30 x
 w:wt x≤5000
 d:dp x≤10
theorem Shw.repr {x:D} (h:Shw x) (S:Store):reprD [x] S= .ok (.str (shD x)) S:=by
 obtain⟨a,e1,e2,e3,e4,e5⟩:=shown_ok h.u
 have hde:deref x S=x:=by cases h.u<;>rfl
 have hok:showOk a=true:=by
  simp only[showOk,e2,Bool.true_and,Bool.and_eq_true,decide_eq_true_eq]
  exact⟨Nat.le_trans (by have:=h.w;omega) (by decide:1000000≤sizeLine),by have:=h.d;omega⟩
 unfold reprD shD
 simp only[hde,e1]
 rw[if_pos hok]
theorem Shw.ok {x:D} (h:Shw x):PyData.strOk (shD x)=true:=by
 obtain⟨a,e1,e2⟩:=shown_okS h.u
 unfold shD
 rw[e1]
 exact okS_iff.mp e2
theorem Shw.len {x:D} (h:Shw x):(shD x).length≤5000:=by
 obtain⟨a,e1,e2,e3,e4,e5⟩:=shown_ok h.u
 unfold shD
 rw[e1]
 have:=h.w
 show a.shown.length≤5000
 omega
end L3.Od
namespace L3.Od
open PySem L2 L3
abbrev inz (q:List Nat):List D:=q.map fun i:Nat=>D.int (i:Int)
inductive Odd (q:List Nat):D→Prop
 |zeros:Odd q (.tup (inz q++List.replicate 11 (.int 0)))
 |neg:Odd q (.tup (inz q++ [.int (-1)]))
 |seven:Odd q (.tup [.int 7])
 |tru1:Odd q (.tup [.bl true])
 |s1:Odd q (.tup [.str "0"])
 |non:Odd q .non
 |zero:Odd q (.int 0)
 |s:Odd q (.str "0")
 |nil:Odd q (.lst [])
 |lst:Odd q (.lst (inz q))
 |dic:Odd q (.dic [] [])
 |non1:Odd q (.tup [.non])
 |unit1:Odd q (.tup [.tup []])
 |tru:Odd q (.bl true)
theorem parts6 {t:Tm} (h:Good t):t.parts.length≤6:=by
 cases t with
 |num i=>simp[Tm.parts]
 |nam s=>simp[Tm.parts]
 |nd w m ps=>exact h.nd_word.2.2.2.1
theorem zeros_out:∀(k:Nat) {t:Tm},t.dep≤k→∃j v,j+1≤k∧t.at (List.replicate j 0)=some v∧v.parts= []
 |0,t,h=>by have:=t.dep_pos;omega
 |k+1,t,h=>by
  cases hp:t.parts with
  |nil=>exact⟨0,t,by omega,rfl,hp⟩
  |cons p r=>
   have h1:=Tm.dep_eq t
   rw[hp] at h1
   simp only[Tm.deps] at h1
   obtain⟨j,v,e1,e2,e3⟩:=zeros_out k (t:=p) (by omega)
   refine⟨j+1,v,by omega,?_,e3⟩
   simp only[List.replicate_succ,Tm.at,hp,List.getElem?_cons_zero,Option.bind_some]
   exact e2
theorem odd_np {t u:Tm} {q:List Nat} {x:D} (g:Good t) (hd:t.dep≤10) (h:t.at q=some u) (o:Odd q x):NoPl t x:=by
 have root:∀ {y:D},Pln y→numOk y ((t.parts.length:Int)-1)=false→NoPl t (.tup [y]):=fun {y} hy hn=>NoPl.deep (q:= []) (u:=t) (r:= []) rfl hy hn
 have h6:=parts6 g
 cases o with
 |zeros=>
  have hdu:=Tm.at_dep h
  obtain⟨j,v,e1,e2,e3⟩:=zeros_out u.dep (Nat.le_refl _)
  have e4:t.at (q++List.replicate j 0)=some v:=by rw[Tm.at_app,h];exact e2
  have:=NoPl.deep (r:=List.replicate (10-j) (.int 0)) e4 (.int 0) (by rw[e3];decide)
  have e5:(inz q++List.replicate 11 (D.int 0))=(((q++List.replicate j 0).map fun i:Nat=>D.int (i:Int))++D.int 0::List.replicate (10-j) (.int 0)):=by
   rw[List.map_append,List.append_assoc,List.map_replicate]
   congr 1
   rw[← List.replicate_succ,show 10-j+1=11-j by omega,show((0:Nat):Int)=0 from rfl,List.replicate_append_replicate]
   congr 1
   omega
  rw[e5];exact this
 |neg=>exact NoPl.deep (r:= []) h (.int _) (by simp[numOk])
 |seven=>exact root (.int _) (by simp only[numOk,Bool.and_eq_false_iff,decide_eq_false_iff_not];right;omega)
 |tru1=>exact root (.bl _) rfl
 |s1=>exact root (.str _) rfl
 |non=>exact .not .non (fun l=>by simp)
 |zero=>exact .not (.int _) (fun l=>by simp)
 |s=>exact .not (.str _) (fun l=>by simp)
 |nil=>exact .not (.lst _) (fun l=>by simp)
 |lst=>exact .not (.lst _) (fun l=>by simp)
 |dic=>exact .not .dic (fun l=>by simp)
 |non1=>exact root .non rfl
 |unit1=>exact root (.tup _) rfl
 |tru=>exact .not (.bl _) (fun l=>by simp)
theorem wts_ints:∀q:List Nat,wts (inz q)=100*q.length
 | [] =>rfl
 |i::q=>by
  have:=wts_ints q
  simp only[inz,List.map_cons,wts,wt,List.length_cons] at this ⊢
  omega
theorem wts_app:∀a b:List D,wts (a++b)=wts a+wts b
 | [],b=>by simp[wts]
 |x::a,b=>by simp only[List.cons_append,wts,wts_app a b];omega
theorem wts_rep:∀n:Nat,wts (List.replicate n (D.int 0))=100*n
 |0=>rfl
 |n+1=>by simp only[List.replicate_succ,wts,wt,wts_rep n];omega
theorem dps_all {l:List D} (h:∀x ∈ l,dp x=0):dps l=0:=by
 induction l with
 |nil=>rfl
 |cons x l ih=>simp only[dps,h x List.mem_cons_self,ih fun y hy=>h y (List.mem_cons_of_mem _ hy)];rfl
theorem u_inz {q:List Nat} (h:∀i ∈ q,i<6):∀x ∈ inz q,U 30 x:=fun x hx=>by
 obtain⟨i,hi,rfl⟩:=List.mem_map.mp hx
 have:=h i hi
 exact .int (by omega) (by omega)
theorem d_ints {q:List Nat} :∀x ∈ inz q,dp x=0:=fun x hx=>by
 obtain⟨i,hi,rfl⟩:=List.mem_map.mp hx
 rfl
theorem pl_shw {q:List Nat} (hl:q.length≤12) (h:∀i ∈ q,i<6):Shw (pl q):=
 ⟨.tup (by simp;omega) (u_inz h),by show 100+wts (inz q)≤5000;rw[wts_ints];omega,by show 1+dps (inz q)≤10;rw[dps_all d_ints];omega⟩
theorem u0:U 30 (.str "0"):= .str (by decide +kernel)
theorem odd_shw {q:List Nat} {x:D} (hl:q.length≤12) (h:∀i ∈ q,i<6) (o:Odd q x):Shw x:=by
 have one:∀ {y:D},U 30 y→wt y≤4000→dp y≤5→Shw (.tup [y]):=fun {y} hy hw hd=>⟨.tup (by simp) (by simpa using hy),by simp only[wt,wts];omega,by simp only[dp,dps];omega⟩
 cases o with
 |zeros=>
  refine⟨.tup (by simp;omega) fun x hx=> ?_,?_,?_⟩
  ·rcases List.mem_append.mp hx with hx|hx
   ·exact u_inz h x hx
   ·rw[List.eq_of_mem_replicate hx];exact .int (by decide) (by decide)
  ·show 100+wts (inz q++List.replicate 11 (D.int 0))≤5000
   rw[wts_app,wts_ints,wts_rep];omega
  ·show 1+dps (inz q++List.replicate 11 (D.int 0))≤10
   rw[dps_all]
   ·omega
   ·intro x hx
    rcases List.mem_append.mp hx with hx|hx
    ·exact d_ints x hx
    ·rw[List.eq_of_mem_replicate hx];rfl
 |neg=>
  refine⟨.tup (by simp;omega) fun x hx=> ?_,?_,?_⟩
  ·rcases List.mem_append.mp hx with hx|hx
   ·exact u_inz h x hx
   ·rw[List.mem_singleton.mp hx];exact .int (by decide) (by decide)
  ·show 100+wts (inz q++ [D.int (-1)])≤5000
   rw[wts_app,wts_ints];simp only[wts,wt];omega
  ·show 1+dps (inz q++ [D.int (-1)])≤10
   rw[dps_all]
   ·omega
   ·intro x hx
    rcases List.mem_append.mp hx with hx|hx
    ·exact d_ints x hx
    ·rw[List.mem_singleton.mp hx];rfl
 |seven=>exact one (.int (by decide) (by decide)) (by simp[wt]) (by simp[dp])
 |tru1=>exact one (.bl _) (by simp[wt]) (by simp[dp])
 |s1=>exact one u0 (by simp[wt]) (by simp[dp])
 |non=>exact⟨.non,by simp[wt],by simp[dp]⟩
 |zero=>exact⟨.int (by decide) (by decide),by simp[wt],by simp[dp]⟩
 |s=>exact⟨u0,by simp[wt],by simp[dp]⟩
 |nil=>exact⟨.lst (by simp) (by simp),by simp[wt,wts],by simp[dp,dps]⟩
 |lst=>exact⟨.lst (by simp;omega) (u_inz h),by show 100+wts (inz q)≤5000;rw[wts_ints];omega,by show 1+dps (inz q)≤10;rw[dps_all d_ints];omega⟩
 |dic=>exact⟨.dic,by simp[wt],by simp[dp]⟩
 |non1=>exact one .non (by simp[wt]) (by simp[dp])
 |unit1=>exact one (.tup (by simp) (by simp)) (by simp[wt,wts]) (by simp[dp,dps])
 |tru=>exact⟨.bl _,by simp[wt],by simp[dp]⟩
theorem toPyRL_ints (q:List Nat):toPyRL (inz q)=some (q.map fun i:Nat=>PyData.int (i:Int)):=by
 induction q with
 |nil=>rfl
 |cons i q ih=>simp only[inz,List.map_cons] at ih ⊢;simp only[toPyRL,toPyR,ih]
theorem toPyRL_app:∀ {a b:List D} {x y:List PyData},toPyRL a=some x→toPyRL b=some y→toPyRL (a++b)=some (x++y)
 | [],b,x,y,h1,h2=>by cases h1;exact h2
 |d::a,b,x,y,h1,h2=>by
  simp only[toPyRL] at h1
  split at h1
  ·rename_i u us e1 e2
   cases h1
   simp only[List.cons_append,toPyRL,e1,toPyRL_app e2 h2]
  ·cases h1
abbrev pyI (q:List Nat):List PyData:=q.map fun i:Nat=>PyData.int (i:Int)
theorem pl_sh (q:List Nat):shD (pl q)=(PyData.tuple (pyI q)).shown:=by
 unfold shD
 have:toPyR (pl q)=some (.tuple (pyI q)):=by
  show(toPyRL (inz q)).map PyData.tuple=_
  rw[toPyRL_ints];rfl
 rw[this]
def okC (c:Nat):Bool:=isDg c || decide (c=41) || decide (c=44) || decide (c=32)
theorem jn_ok:∀q:List Nat,(jn (pyI q)).all okC=true
 | [] =>by decide +kernel
 | [i] =>by
   show(jn [PyData.int (i:Int)]).all okC=true
   rw[jn_one,PyData.shown_int,cods_of]
   have:=(int_dig (i:Int)).1
   rw[List.all_eq_true] at this ⊢
   intro c hc
   simp[okC,this c hc]
 |i::j::q=>by
  have ih:=jn_ok (j::q)
  show(jn (PyData.int (i:Int)::PyData.int (j:Int)::pyI q)).all okC=true
  rw[jn_two,PyData.shown_int,cods_of,List.all_append,List.all_cons,List.all_cons]
  have e:(jn (PyData.int (j:Int)::pyI q)).all okC=true:=ih
  rw[e]
  have:=(int_dig (i:Int)).1
  rw[List.all_eq_true] at this
  have e2:(((toString (i:Int)).toList.map Char.toNat)).all okC=true:=by
   rw[List.all_eq_true]
   intro c hc
   simp[okC,this c hc]
  rw[e2];rfl
theorem pl_cods (q:List Nat):∃r,cods (shD (pl q))=40::r∧r.all okC=true:=by
 rw[pl_sh,PyData.shown_tuple,cods_app,cods_app,cods_of]
 refine⟨jn (pyI q)++cods (if(pyI q).length==1 then ",)" else ")" :String),rfl,?_⟩
 rw[List.all_append,jn_ok]
 split<;>decide +kernel
theorem pj_ints (q:List Nat):∀x ∈ pyI q,PJ x:=fun x hx=>by
 obtain⟨i,_,rfl⟩:=List.mem_map.mp hx
 exact .int _
theorem not_head {q:List Nat} {s:Str} {c:Nat} {r:List Nat} (h:cods s=c::r) (hc:c≠40):s≠shD (pl q):=fun e=>by
 obtain⟨r',e1,_⟩:=pl_cods q
 rw[← e,h] at e1
 cases e1;exact hc rfl
theorem not_in {q:List Nat} {s:Str} {c:Nat} {r:List Nat} (h:cods s=40::r) (hc:r.all okC=false):s≠shD (pl q):=fun e=>by
 obtain⟨r',e1,e2⟩:=pl_cods q
 rw[← e,h] at e1
 cases e1;rw[hc] at e2;cases e2
theorem not_tup {q:List Nat} {l:List PyData} (h:∀x ∈ l,PJ x) (hn:l≠pyI q):(PyData.tuple l).shown≠shD (pl q):=fun e=>by
 rw[pl_sh] at e
 have:=shown_inj (.tuple h) (.tuple (pj_ints q)) e
 cases this
 exact hn rfl
theorem odd_ne {t u:Tm} {q:List Nat} {x:D} (g:Good t) (hd:t.dep≤10) (h:t.at q=some u) (o:Odd q x) {p:List Nat} {v:Tm} (hp:t.at p=some v):shD x≠shD (pl p):=by
 have h6:=parts6 g
 have hdp:=Tm.at_dep hp
 cases o with
 |zeros=>
  have e:toPyR (.tup (inz q++List.replicate 11 (.int 0)))=some (.tuple (pyI (q++List.replicate 11 0))):=by
   simp only[toPyR]
   rw[toPyRL_app (toPyRL_ints q) (show toPyRL (List.replicate 11 (D.int 0))=some (pyI (List.replicate 11 0)) by rfl)]
   simp[pyI]
  unfold shD
  rw[e]
  refine not_tup (pj_ints _) fun e'=> ?_
  have:(q++List.replicate 11 0).length=p.length:=by
   have:=congrArg List.length e'
   simpa[pyI] using this
  simp at this
  omega
 |neg=>
  have e:toPyR (.tup (inz q++ [.int (-1)]))=some (.tuple (pyI q++ [.int (-1)])):=by
   simp only[toPyR]
   rw[toPyRL_app (toPyRL_ints q) (show toPyRL [D.int (-1)] =some [.int (-1)] by rfl)]
   rfl
  unfold shD
  rw[e]
  refine not_tup (fun x hx=> ?_) fun e'=> ?_
  ·rcases List.mem_append.mp hx with hx|hx
   ·exact pj_ints q x hx
   ·rw[List.mem_singleton.mp hx];exact .int _
  ·have:PyData.int (-1) ∈ pyI p:=by rw[← e'];simp
   obtain⟨i,_,e2⟩:=List.mem_map.mp this
   injection e2 with e2
   omega
 |seven=>
  show(PyData.tuple [.int 7]).shown≠_
  refine not_tup (fun x hx=>by rw[List.mem_singleton.mp hx];exact .int _) fun e'=> ?_
  match p,e',hp with
  | [i],e',hp=>
    simp only[pyI,List.map_cons,List.map_nil,List.cons.injEq,PyData.int.injEq,and_true] at e'
    have:i=7:=by omega
    subst this
    simp only[Tm.at] at hp
    rw[List.getElem?_eq_none (by omega)] at hp
    cases hp
  | [],e',_=>simp[pyI] at e'
  | _::_::_,e',_=>simp[pyI] at e'
 |tru1=>
  show(PyData.tuple [.bool true]).shown≠_
  rw[PyData.shown_tuple]
  simp only[PyData.shownAll,Str.join,PyData.shown_bool]
  exact not_in (c:=0) (r:= [84,114,117,101,44,41]) (by decide +kernel) (by decide)
 |s1=>
  show(PyData.tuple [.str "0"]).shown≠_
  rw[PyData.shown_tuple]
  simp only[PyData.shownAll,Str.join,PyData.shown_str]
  exact not_in (c:=0) (r:= [39,48,39,44,41]) (by decide +kernel) (by decide)
 |non=>
  show PyData.none.shown≠_
  rw[PyData.shown_none]
  exact not_head (c:=78) (r:= [111,110,101]) (by decide +kernel) (by decide)
 |zero=>
  show(PyData.int 0).shown≠_
  rw[PyData.shown_int]
  exact not_head (c:=48) (r:= []) (by decide +kernel) (by decide)
 |s=>
  show(PyData.str "0").shown≠_
  rw[PyData.shown_str]
  exact not_head (c:=39) (r:= [48,39]) (by decide +kernel) (by decide)
 |nil=>
  show(PyData.list []).shown≠_
  rw[PyData.shown_list]
  exact not_head (c:=91) (r:= [93]) (by simp only[PyData.shownAll,Str.join];decide +kernel) (by decide)
 |lst=>
  have e:toPyR (.lst (inz q))=some (.list (pyI q)):=by simp only[toPyR];rw[toPyRL_ints];rfl
  have e2:shD (.lst (inz q))=(PyData.list (pyI q)).shown:=by unfold shD;rw[e]
  rw[e2,PyData.shown_list]
  exact not_head (c:=91) (r:=_) (by rw[cods_app,cods_app,cods_of];rfl) (by decide)
 |dic=>
  show(PyData.dict []).shown≠_
  rw[PyData.shown_dict,PyData.shownKv_nil]
  exact not_head (c:=123) (r:= [125]) (by decide +kernel) (by decide)
 |non1=>
  show(PyData.tuple [.none]).shown≠_
  refine not_tup (fun x hx=>by rw[List.mem_singleton.mp hx];exact .none) fun e'=> ?_
  match p,e' with
  | [i],e'=>simp[pyI] at e'
  | [],e'=>simp[pyI] at e'
  | _::_::_,e'=>simp[pyI] at e'
 |unit1=>
  show(PyData.tuple [.tuple []]).shown≠_
  refine not_tup (fun x hx=>by rw[List.mem_singleton.mp hx];exact .tuple (by simp)) fun e'=> ?_
  match p,e' with
  | [i],e'=>simp[pyI] at e'
  | [],e'=>simp[pyI] at e'
  | _::_::_,e'=>simp[pyI] at e'
 |tru=>
  show(PyData.bool true).shown≠_
  rw[PyData.shown_bool]
  exact not_head (c:=84) (r:= [114,117,101]) (by decide +kernel) (by decide)
end L3.Od
namespace L3.Od
open PySem L2 L3
abbrev Spo:=D × Option C
def SpOk (t:Tm) (s:Spo):Prop:=match s.2 with
 |some c=>∃p u,s.1=pl p∧t.at p=some u∧c=cPl t p u
 |none=>NoPl t s.1
noncomputable def res:List Spo→D ⊕ List C
 | [] => .inr []
 |(x,none)::_=> .inl x
 |(x,some c)::r=>match res r with
  | .inl y=> .inl y
  | .inr cs=> .inr (c::cs)
theorem res_app:∀a b:List Spo,res (a++b)=(match res a with
 | .inl x=> .inl x
 | .inr ca=>match res b with
   | .inl y=> .inl y
   | .inr cb=> .inr (ca++cb))
 | [],b=>by
   simp only[List.nil_append,res]
   cases res b<;>rfl
 |(x,none)::a,b=>rfl
 |(x,some c)::a,b=>by
  simp only[List.cons_append,res,res_app a b]
  cases res a with
  |inl y=>rfl
  |inr ca=>simp only [];cases res b<;>rfl
theorem spok_good {k:Nat} {t:Tm} {s:Spo} {c:C} (h:TOk t k) (hs:SpOk t s) (e:s.2=some c):c.good=true∧lowL c.txt=true:=by
 unfold SpOk at hs
 rw[e] at hs
 obtain⟨p,u,_,e2,rfl⟩:=hs
 have hq:PtOk t [(p,u)] :=fun x hx=>by rw[List.mem_singleton.mp hx];exact e2
 exact⟨cX_good h hq _ (by simp[cX]),cX_low h hq _ (by simp[cX])⟩
theorem res_good {k:Nat} {t:Tm} (h:TOk t k):∀ {l:List Spo} {cs:List C},(∀ s ∈ l,SpOk t s)→res l= .inr cs→cs.length=l.length∧∀c ∈ cs,c.good=true∧lowL c.txt=true
 | [],cs,_,e=>by cases e;simp
 |(x,none)::l,cs,_,e=>by cases e
 |(x,some c)::l,cs,hl,e=>by
  simp only[res] at e
  split at e
  ·cases e
  ·rename_i cs' e'
   cases e
   obtain⟨h1,h2⟩:=res_good h (fun s hs=>hl s (List.mem_cons_of_mem _ hs)) e'
   refine⟨by simp[h1],fun d hd=> ?_⟩
   rcases List.mem_cons.mp hd with rfl|hd
   ·exact spok_good h (hl _ List.mem_cons_self) rfl
   ·exact h2 d hd
def EX (s:Spo) (S:Store) (e:Ex) (S':Store):Prop:=s.2=none∧e=noP s.1∧Grw S S'
def OX (s:Spo) (S:Store) (d:D) (S':Store):Prop:=∃c,s.2=some c∧d=txD c∧Grw S S'
def IsFX (f:FN) (k:Nat):Prop:=∀(t:Tm) (s:Spo) (S:Store),TOk t k→SpOk t s→(f [t.d,s.1] S).esat (EX s S) (OX s S)
theorem isFX {at_ fb ar:FN} {k:Nat} (ha:IsAt at_) (hf:IsFA (run 2 3 (mFormAt at_ fb ar)) k):IsFX (run 2 3 (mFormAt at_ fb ar)) k:=fun t s S ht hs=>by
 obtain⟨x,o⟩:=s
 cases o with
 |some c=>
  obtain⟨p,u,rfl,e2,rfl⟩:=hs
  refine X.of_sat (sat_mono (hf t u p S ht.g e2 ht.k ht.d ht.z) ?_)
  rintro d S' ⟨rfl,gr⟩
  exact⟨_,rfl,rfl,gr⟩
 |none=>
  have:=ha.2 (t:=t) (x:=x) S hs
  have e:run 2 3 (mFormAt at_ fb ar) [t.d,x] S= .exc (noP x) S:=by
   unfold run mFormAt sSeq sAsg
   have:(eN (callK at_ []) (aCons (eVar 0) (aCons (eVar 1) (aNil)))) [some t.d,some x,none] S= .exc (noP x) S:=by
    show(callK at_ [] [t.d,x] S)=_
    rw[callK_eq]
    exact this
   simp only[List.map_cons,List.map_nil,List.cons_append,List.nil_append,List.length_cons,List.length_nil,List.replicate,Nat.zero_add,Nat.reduceAdd,Nat.reduceSub,if_true]
   rw[this]
   rfl
  rw[e]
  exact .ex ⟨rfl,rfl, .refl⟩
theorem lcx_sp {te:ED} {env:EnvD} {i:Nat} :∀(l:List Spo) (S:Store),(∀ s ∈ l,∀S,(te (env.set i (some s.1)) S).esat (EX s S) (OX s S))→
 (lcLx (gName i) tYesD te env (l.map (·.1)) S).esat (fun e S'=>∃x,res l= .inl x∧e=noP x∧Grw S S') (fun ys S'=>∃cs,res l= .inr cs∧ys=cs.map txD∧Grw S S')
 | [],S,h=> .mk ⟨[],rfl,rfl, .refl⟩
 |(x,o)::l,S,h=>by
  show(lcLx (gName i) tYesD te env (x::l.map (·.1)) S).esat _ _
  unfold lcLx
  simp only[gName,tYesD,R.nox]
  show((te (env.set i (some x)) S).bind _).esat _ _
  rw[X.sat_bind]
  refine X.sat_monoE (h (x,o) List.mem_cons_self S) ?_ ?_
  ·rintro d S1 ⟨c,e1,rfl,gr1⟩
   cases e1
   rw[X.sat_bind]
   refine X.sat_monoE (lcx_sp l S1 fun s hs=>h s (List.mem_cons_of_mem _ hs)) ?_ ?_
   ·rintro ys S2 ⟨cs,e2,rfl,gr2⟩
    exact .mk ⟨c::cs,by simp only[res,e2],rfl,gr1.trans gr2⟩
   ·rintro e S2 ⟨y,e2,rfl,gr2⟩
    exact⟨y,by simp only[res,e2],rfl,gr1.trans gr2⟩
  ·rintro e S1 ⟨e1,rfl,gr1⟩
   simp only at e1
   subst e1
   exact⟨x,rfl,rfl,gr1⟩
def mRunsX (fa:FN):SD:=
    sSeq (sAsg (eLcx (iSeq (eVar 1)) [4] (gName 4) (tYesD) (eN (callK fa []) (aCons (eVar 0) (aCons (eVar 4) (aNil))))) (gName 3))
    (sRet (e2 eqD (eVar 3) (eLcx (iSeq (eVar 2)) [4] (gName 4) (tYesD) (eN (callK fa []) (aCons (eVar 0) (aCons (eVar 4) (aNil)))))))
def mHeapsX (fa:FN):SD:=
    sSeq (sAsg (eN sortedD (aCons (eLcx (iSeq (eVar 1)) [4] (gName 4) (tYesD) (eN (callK fa []) (aCons (eVar 0) (aCons (eVar 4) (aNil))))) (aNil))) (gName 3))
    (sRet (e2 eqD (eVar 3) (eN sortedD (aCons (eLcx (iSeq (eVar 2)) [4] (gName 4) (tYesD) (eN (callK fa []) (aCons (eVar 0) (aCons (eVar 4) (aNil))))) (aNil)))))
def RX (R:List C→List C→Prop) (a b:List Spo) (r:L3.R D) (S:Store):Prop:=r.esat (fun e S'=>∃x,res (a++b)= .inl x∧e=noP x∧Grw S S') (fun d S'=>∃ca cb,res a= .inr ca∧res b= .inr cb∧(∃ y:Bool,d= .bl y∧(y=true↔R ca cb))∧Grw S S')
def IsRX (f:FN) (k:Nat) (R:List C→List C→Prop):Prop:=∀(t:Tm) (a b:List Spo) (S:Store),TOk t k→(∀ s ∈ a,SpOk t s)→(∀ s ∈ b,SpOk t s)→a.length≤20→b.length≤20→RX R a b (f [t.d, .tup (a.map (·.1)), .tup (b.map (·.1))] S) S
theorem em2 (cs:List C):cs.map txD=(cs.map fun c=>T c.txt).map .str:=by simp[txD]
theorem isRunsX {fa:FN} {k:Nat} (hf:IsFX fa k):IsRX (run 3 5 (mRunsX fa)) k fun a b=>a=b:=fun t a b S ht ha hb hla hlb=>by
 unfold RX
 rw[X.sat_run]
 refine⟨rfl,?_⟩
 unfold mRunsX
 simp only[List.map_cons,List.map_nil,List.cons_append,List.nil_append,List.length_cons,List.length_nil,List.replicate,Nat.zero_add,Nat.reduceAdd,Nat.reduceSub]
 rw[X.ssat_seq,X.ssat_asg,X.sat_eLcx,X.sat_iSeq]
 simp only[X.sat_eVar,List.getElem?_cons_succ,List.getElem?_cons_zero]
 rw[itemsD_tup,X.sat_ok]
 refine⟨by simp only[List.length_map];exact small (by omega),?_⟩
 refine X.sat_monoE (lcx_sp a S fun s hs S=> ?_) ?_ ?_
 ·simp only[X.sat_eN,X.sat_aCons,X.sat_aNil,X.sat_eVar,wipeD,List.set_cons_succ,List.set_cons_zero,List.getElem?_cons_succ,List.getElem?_cons_zero,callK_eq,List.append_nil]
  exact hf t s S ht (ha s hs)
 ·rintro ys S1 ⟨ca,e1,rfl,gr1⟩
  simp only[gName_eq,X.ssat_nx,List.set_cons_succ,List.set_cons_zero]
  rw[X.ssat_sRet,X.sat_e2,X.sat_eVar]
  simp only[List.getElem?_cons_succ,List.getElem?_cons_zero]
  rw[X.sat_eLcx,X.sat_iSeq]
  simp only[X.sat_eVar,List.getElem?_cons_succ,List.getElem?_cons_zero]
  rw[itemsD_tup,X.sat_ok]
  refine⟨by simp only[List.length_map];exact small (by omega),?_⟩
  refine X.sat_monoE (lcx_sp b S1 fun s hs S=> ?_) ?_ ?_
  ·simp only[X.sat_eN,X.sat_aCons,X.sat_aNil,X.sat_eVar,wipeD,List.set_cons_succ,List.set_cons_zero,List.getElem?_cons_succ,List.getElem?_cons_zero,callK_eq,List.append_nil]
   exact hf t s S ht (hb s hs)
  ·rintro ys S2 ⟨cb,e2,rfl,gr2⟩
   have g1:=(res_good ht ha e1).2
   have g2:=(res_good ht hb e2).2
   have ok:∀l:List C,(∀ c ∈ l,c.good=true∧lowL c.txt=true)→∀s ∈ l.map fun c=>T c.txt,PyData.strOk s=true:=fun l hl s hs=>by
    obtain⟨c,hc,rfl⟩:=List.mem_map.mp hs
    exact T_ok (hl c hc).2
   rw[em2,em2,eq_txts (ok ca g1) (ok cb g2),X.sat_ok]
   refine⟨ca,cb,e1,e2,⟨_,rfl,?_⟩,gr1.trans gr2⟩
   rw[decide_eq_true_iff,txt_list (fun c hc=>(g1 c hc).1) (fun c hc=>(g2 c hc).1)]
  ·rintro e S2 ⟨y,e2,rfl,gr2⟩
   exact⟨y,by rw[res_app,e1,e2],rfl,gr1.trans gr2⟩
 ·rintro e S1 ⟨x,e1,rfl,gr1⟩
  exact⟨x,by rw[res_app,e1],rfl,gr1⟩
theorem isHeapsX {fa:FN} {k:Nat} (hf:IsFX fa k):IsRX (run 3 5 (mHeapsX fa)) k fun a b=>a.Perm b:=fun t a b S ht ha hb hla hlb=>by
 have srt:∀(cs:List C) (S:Store),(∀ c ∈ cs,c.good=true∧lowL c.txt=true)→cs.length≤20→sortedD [.lst (cs.map txD)] S= .ok (.lst ((srtC cs).map txD)) S:=fun cs S hl hll=>by
  unfold sortedD
  simp only[asL]
  have ok:sortOk (cs.map txD)=true:=by
   have:=sortOk_strs (l:=cs.map fun c=>T c.txt) (fun s hs=>by
    obtain⟨c,hc,rfl⟩:=List.mem_map.mp hs
    exact T_ok (hl c hc).2) (by simp;omega)
   rw[em2];exact this
  rw[if_pos ok,sort_txts (fun c hc=>(hl c hc).2)]
 unfold RX
 rw[X.sat_run]
 refine⟨rfl,?_⟩
 unfold mHeapsX
 simp only[List.map_cons,List.map_nil,List.cons_append,List.nil_append,List.length_cons,List.length_nil,List.replicate,Nat.zero_add,Nat.reduceAdd,Nat.reduceSub]
 rw[X.ssat_seq,X.ssat_asg,X.sat_eN,X.sat_aCons,X.sat_eLcx,X.sat_iSeq]
 simp only[X.sat_eVar,X.sat_aNil,List.getElem?_cons_succ,List.getElem?_cons_zero]
 rw[itemsD_tup,X.sat_ok]
 refine⟨by simp only[List.length_map];exact small (by omega),?_⟩
 refine X.sat_monoE (lcx_sp a S fun s hs S=> ?_) ?_ ?_
 ·simp only[X.sat_eN,X.sat_aCons,X.sat_aNil,X.sat_eVar,wipeD,List.set_cons_succ,List.set_cons_zero,List.getElem?_cons_succ,List.getElem?_cons_zero,callK_eq,List.append_nil]
  exact hf t s S ht (ha s hs)
 ·rintro ys S1 ⟨ca,e1,rfl,gr1⟩
  have g1:=res_good ht ha e1
  rw[srt ca S1 g1.2 (by omega),X.sat_ok]
  simp only[gName_eq,X.ssat_nx,List.set_cons_succ,List.set_cons_zero]
  rw[X.ssat_sRet,X.sat_e2,X.sat_eVar]
  simp only[List.getElem?_cons_succ,List.getElem?_cons_zero]
  rw[X.sat_eN,X.sat_aCons,X.sat_eLcx,X.sat_iSeq]
  simp only[X.sat_eVar,X.sat_aNil,List.getElem?_cons_succ,List.getElem?_cons_zero]
  rw[itemsD_tup,X.sat_ok]
  refine⟨by simp only[List.length_map];exact small (by omega),?_⟩
  refine X.sat_monoE (lcx_sp b S1 fun s hs S=> ?_) ?_ ?_
  ·simp only[X.sat_eN,X.sat_aCons,X.sat_aNil,X.sat_eVar,wipeD,List.set_cons_succ,List.set_cons_zero,List.getElem?_cons_succ,List.getElem?_cons_zero,callK_eq,List.append_nil]
   exact hf t s S ht (hb s hs)
  ·rintro ys S2 ⟨cb,e2,rfl,gr2⟩
   have g2:=res_good ht hb e2
   rw[srt cb S2 g2.2 (by omega),X.sat_ok,em2,em2]
   have ok:∀l:List C,(∀ c ∈ l,c.good=true∧lowL c.txt=true)→∀s ∈ (srtC l).map fun c=>T c.txt,PyData.strOk s=true:=fun l hl s hs=>by
    obtain⟨c,hc,rfl⟩:=List.mem_map.mp hs
    exact T_ok (hl c ((srtC_perm _).mem_iff.mp hc)).2
   rw[eq_txts (ok ca g1.2) (ok cb g2.2),X.sat_ok]
   refine⟨ca,cb,e1,e2,⟨_,rfl,?_⟩,gr1.trans gr2⟩
   rw[decide_eq_true_iff,txt_list (fun c hc=>(g1.2 c ((srtC_perm _).mem_iff.mp hc)).1) (fun c hc=>(g2.2 c ((srtC_perm _).mem_iff.mp hc)).1),srtC_eq (C.goods_all.mpr fun c hc=>(g1.2 c hc).1) (C.goods_all.mpr fun c hc=>(g2.2 c hc).1)]
  ·rintro e S2 ⟨y,e2,rfl,gr2⟩
   exact⟨y,by rw[res_app,e1,e2],rfl,gr1.trans gr2⟩
 ·rintro e S1 ⟨x,e1,rfl,gr1⟩
  exact⟨x,by rw[res_app,e1],rfl,gr1⟩
def IsSX (f:FN) (k:Nat):Prop:=∀(t:Tm) (s s':Spo) (S:Store),TOk t k→SpOk t s→SpOk t s'→RX (fun a b=>a=b) [s] [s'] (f [t.d,s.1,s'.1] S) S
theorem isSX {fa:FN} {k:Nat} (hf:IsFX fa k):IsSX (run 3 4 (mSameAt fa)) k:=fun t s s' S ht hs hs'=>by
 unfold RX
 rw[X.sat_run]
 refine⟨rfl,?_⟩
 unfold mSameAt
 simp only[List.map_cons,List.map_nil,List.cons_append,List.nil_append,List.length_cons,List.length_nil,List.replicate,Nat.zero_add,Nat.reduceAdd,Nat.reduceSub]
 rw[X.ssat_seq,X.ssat_asg]
 simp only[X.sat_eN,X.sat_aCons,X.sat_aNil,X.sat_eVar,List.getElem?_cons_succ,List.getElem?_cons_zero,callK_eq,List.append_nil]
 obtain⟨x,o⟩:=s
 obtain⟨x',o'⟩:=s'
 refine X.sat_monoE (hf t (x,o) S ht hs) ?_ ?_
 ·rintro d S1 ⟨c,e1,rfl,gr1⟩
  simp only at e1
  subst e1
  simp only[gName_eq,X.ssat_nx,List.set_cons_succ,List.set_cons_zero]
  rw[X.ssat_sRet,X.sat_e2]
  simp only[X.sat_eN,X.sat_aCons,X.sat_aNil,X.sat_eVar,List.getElem?_cons_succ,List.getElem?_cons_zero,callK_eq,List.append_nil]
  refine X.sat_monoE (hf t (x',o') S1 ht hs') ?_ ?_
  ·rintro d S2 ⟨c',e2,rfl,gr2⟩
   simp only at e2
   subst e2
   unfold txD
   rw[eq_strs,X.sat_ok]
   refine⟨[c],[c'],rfl,rfl,⟨_,rfl,?_⟩,gr1.trans gr2⟩
   have g1:=(spok_good ht hs rfl).1
   have g2:=(spok_good ht hs' rfl).1
   rw[beq_iff_eq]
   constructor
   ·intro e;rw[C.txt_inj g1 g2 (T_inj e)]
   ·intro e;cases e;rfl
  ·rintro e S2 ⟨e2,rfl,gr2⟩
   simp only at e2
   subst e2
   exact⟨x',rfl,rfl,gr1.trans gr2⟩
 ·rintro e S1 ⟨e1,rfl,gr1⟩
  simp only at e1
  subst e1
  exact⟨x,rfl,rfl,gr1⟩
end L3.Od
namespace K18
open PySem L2 L3
variable {S:Store} {n m:Nat}
theorem nf (k:Nat):IsNF (Fs (k+1) 3):=by rw[Fs_name_form];exact isNF
theorem fb:∀L k,IsFB (Fs (k+1+L) 4) L
 |0,k=>isFB0 _
 |L+1,k=>by
  rw[show k+1+(L+1)=k+1+L+1 from rfl,Fs_form_by]
  have h1:=nf (k+L)
  rw[show k+L+1=k+1+L by omega] at h1
  exact isFB h1 (fb L k)
theorem pk (k:Nat):IsPk (Fs (k+1) 13):=by rw[Fs_law_pick];exact isPk
theorem th:∀L k,IsTh (Fs (k+2+L) 14) (L+1)
 |0,k=>by
  rw[show k+2+0=k+1+1 from rfl,Fs_law_thing];exact isTh (pk k) (.inl rfl)
 |L+1,k=>by
  rw[show k+2+(L+1)=k+2+L+1 from rfl,Fs_law_thing]
  have h1:=pk (k+1+L)
  rw[show k+1+L+1=k+2+L by omega] at h1
  exact isTh h1 (.inr (th L k))
theorem pr (k:Nat):IsPr (Fs (k+12) 15):=by
 rw[show k+12=k+11+1 from rfl,Fs_law_program]
 have h2:=th 9 k
 rw[show k+2+9=k+11 by omega] at h2
 exact isPr (pk (k+10)) h2
theorem fr:∀L k,IsFr (Fs (k+1+L) 16) L
 |0,k=>fun t S _ h=>by have:=t.dep_pos;omega
 |L+1,k=>by
  rw[show k+1+(L+1)=k+1+L+1 from rfl,Fs_law_free];exact isFr (fr L k)
theorem tn:∀L k,IsTn (Fs (k+1+L) 17) L
 |0,k=>fun t n m cd c L S _ _ h=>by have:=t.dep_pos;omega
 |L+1,k=>by
  rw[show k+1+(L+1)=k+1+L+1 from rfl,Fs_law_turned]
  have h1:=pk (k+L)
  rw[show k+L+1=k+1+L by omega] at h1
  exact isTn h1 (fr L k) (tn L k)
theorem pls:∀L k,IsPls (Fs (k+1+L) 18) L
 |0,k=>isPls0 _
 |L+1,k=>by
  rw[show k+1+(L+1)=k+1+L+1 from rfl,Fs_law_places];exact isPls (pls L k)
theorem ptl:∀L k,IsPutL (Fs (k+1+L) 20) L
 |0,k=>isPutL0 _
 |L+1,k=>by
  rw[show k+1+(L+1)=k+1+L+1 from rfl,Fs_law_put];exact isPutL (ptl L k)
theorem ato (k:Nat):IsAtO (Fs (k+1) 19):=fun S h=>by rw[Fs_law_at];exact there_ok S h
theorem ar (k:Nat):IsAr (Fs (k+1) 5):=by rw[Fs_around];exact isAr
theorem ct:∀L k,IsCt (Fs (k+1+L) 21) L
 |0,k=>isCt0 _
 |L+1,k=>by
  rw[show k+1+(L+1)=k+1+L+1 from rfl,Fs_law_count];exact isCt (ct L k)
theorem dpp:∀L k,IsDp (Fs (k+1+L) 22) L
 |0,k=>isDp0 _
 |L+1,k=>by
  rw[show k+1+(L+1)=k+1+L+1 from rfl,Fs_law_deep];exact isDp (dpp L k)
theorem co (k:Nat):IsCo (Fs (k+50) 23):=by
 rw[show k+50=k+49+1 from rfl,Fs_law_copied]
 have h1:=pk (k+48)
 have h2:=pls 12 (k+36)
 have h3:IsAtO (Fs (k+48+1) 19):=ato (k+48)
 have h4:=tn 12 (k+36)
 have h5:=ptl 12 (k+36)
 have h6:=ct 40 (k+8)
 have h7:=dpp 40 (k+8)
 exact isCo h1 h2 h3 h4 h5 h6 h7
theorem isn (k:Nat):IsNumberF (Fs (k+2) 1):=by
 rw[show k+2=k+1+1 from rfl,Fs_is_number]
 exact isNumberF (by rw[Fs_is_whole];exact isWholeF)
theorem pu (k:Nat):Od.IsPurse1 (Fs (k+1) 12):=by rw[Fs_law_purse];exact Od.isPurse1
theorem atx (k:Nat):IsAt (Fs (k+3) 2):=by rw[show k+3=k+2+1 from rfl,Fs_at];exact itsAt (isn k)
theorem fx (L k:Nat):Od.IsFX (Fs (k+4+L) 6) L:=by
 rw[show k+4+L=k+3+L+1 by omega,Fs_form_at]
 have h1:IsAt (Fs (k+L+3) 2):=atx (k+L)
 have h2:=fb L (k+2)
 have h3:=ar (k+2+L)
 rw[show k+L+3=k+3+L by omega] at h1
 rw[show k+2+1+L=k+3+L by omega] at h2
 rw[show k+2+L+1=k+3+L by omega] at h3
 exact Od.isFX h1 (isFA (fun {t u q} S e=>h1.1 S e) h2 h3)
theorem sa (L k:Nat):Od.IsSX (Fs (k+5+L) 9) L:=by
 rw[show k+5+L=k+4+L+1 by omega,Fs_same_at];exact Od.isSX (fx L k)
theorem sr (L k:Nat):Od.IsRX (Fs (k+5+L) 10) L fun a b=>a=b:=by
 rw[show k+5+L=k+4+L+1 by omega,Fs_same_runs];exact Od.isRunsX (fx L k)
theorem sh (L k:Nat):Od.IsRX (Fs (k+5+L) 11) L fun a b=>a.Perm b:=by
 rw[show k+5+L=k+4+L+1 by omega,Fs_same_heaps];exact Od.isHeapsX (fx L k)
theorem fo (L k:Nat):IsFO (Fs (k+2+L) 7) L:=by
 rw[show k+2+L=k+1+L+1 by omega,Fs_form_of];exact isFO (fb L k)
theorem aa (L k:Nat):IsAA (Fs (k+3+L) 8) L:=by
 rw[show k+3+L=k+2+L+1 by omega,Fs_are_alike];exact isAA (fo L k)
end K18
namespace K18
open PySem L2 L3 L3.Od
local macro_rules| `(tactic| open_k)=> `(tactic| simp only[ssat_seq,ssat_asg,ssat_sRet,ssat_sExpr,ssat_if,ssat_skip,ssat_par,ssat_nx,ssat_ret,ssat_for,sat_e2,sat_e1,sat_eN,sat_aCons,sat_aNil,sat_eVar,sat_eK,sat_tOfE,sat_tTruth,sat_tNot,sat_tAnd,sat_tOr,sat_eIf,sat_eBM,sat_iSeq,sat_iArgs,sat_eAnd,sat_eOr,sat_eNot,sat_eChain,sat_eSl,sat_pNo,sat_pYes,sat_eLc,sat_eKw,sat_mkTup,sat_mkLst,sat_mkObj,sat_ok,callK_eq,List.append_nil,List.map_cons,List.map_nil,List.length_cons,List.length_nil,List.replicate,List.getElem?_cons_succ,List.getElem?_cons_zero,List.cons_append,List.nil_append,List.set_cons_succ,List.set_cons_zero,gName_eq,gTup_tup,gNames_cons,gNames_nil,Nat.zero_add,Nat.reduceAdd,Nat.reduceSub,sz0,sz1,sz2,sz3,sz4,sz5,sz6,sz7,sz8,sz10,sz17,true_and,add_int,sub_int,neg_int,lt_int,le_int,gt_int,ge_int,eq_int,ne_int,blD_bl,truthD_bl,itemsD_lst,itemsD_tup,wipeD,eq_strs,ne_strs,L3.sl_tup,L3.sl_lst,if_true,if_false,Bool.false_eq_true,sat_range1,sat_range2,tuple_lst,tuple_tup,len_tup,len_lst,len_scr,D.int.injEq,exists_eq_left',mt_str,sat_eMeth,sat_mkIns,ssat_fldD,gSeq_lst,ssat_gSub,sat_eDc,sat_eBackT])
variable {S S':Store} {n m:Nat}
theorem lcN_acc {q:Nat} {g:GD} {te:ED} {env:EnvD} {ev:D→EnvD} (I:List D→Store→Prop):∀ {xs:List D} {acc:List D} {S:Store} {Q:D→Store→Prop},(∀ x ∈ xs,∀S,g x env S= .nx (ev x) S)→S[q]? =some (.lst acc)→acc.length+xs.length≤900→I acc S→
 (∀ x ∈ xs,∀acc S,I acc S→S[q]? =some (.lst acc)→(te (ev x) S).sat fun y S'=>S'[q]? =some (.lst acc)∧I (acc++ [y]) (S'.set q (.lst (acc++ [y]))))→
 (∀ ys S',ys.length=xs.length→I (acc++ys) S'→S'[q]? =some (.lst (acc++ys))→Q (.obj q) S')→(lcN q g tYesD te env xs S).sat Q
 | [],acc,S,Q,hg,hq,hl,hI,ht,hQ=>by
   unfold lcN
   rw[sat_ok]
   exact hQ [] S rfl (by simpa using hI) (by simpa using hq)
 |x::xs,acc,S,Q,hg,hq,hl,hI,ht,hQ=>by
  simp only[List.length_cons] at hl
  unfold lcN
  rw[hg x List.mem_cons_self]
  simp only[tYesD,R.nox,R.bind]
  obtain⟨y,S2,e,h1,h2⟩:=sat_ex.mp (ht x List.mem_cons_self acc S hI hq)
  rw[e]
  simp only[R.nox,R.bind,h1]
  rw[if_pos (Nat.lt_of_lt_of_le (m:=1000) (by omega) (by decide))]
  have l2:=(List.getElem?_eq_some_iff.mp h1).1
  refine lcN_acc I (acc:=acc++ [y]) (fun z hz=>hg z (List.mem_cons_of_mem _ hz)) (by rw[List.getElem?_set_self l2]) (by simp;omega) h2 (fun z hz=>ht z (List.mem_cons_of_mem _ hz)) fun ys S' a b c=>hQ (y::ys) S' (by simp[a]) (by simpa using b) (by simpa using c)
def oddL (q:List Nat):List D:= [.tup (inz q++List.replicate 11 (.int 0)), .tup (inz q++ [.int (-1)]), .tup [.int 7], .tup [.bl true], .tup [.str "0"], .non, .int 0, .str "0", .lst [], .lst (inz q), .dic [] [], .tup [.non], .tup [.tup []], .bl true]
theorem oddL_all {q:List Nat} :∀x ∈ oddL q,Odd q x:=fun x hx=>by
 simp only[oddL,List.mem_cons,List.not_mem_nil,or_false] at hx
 rcases hx with rfl|rfl|rfl|rfl|rfl|rfl|rfl|rfl|rfl|rfl|rfl|rfl|rfl|rfl
 ·exact .zeros
 ·exact .neg
 ·exact .seven
 ·exact .tru1
 ·exact .s1
 ·exact .non
 ·exact .zero
 ·exact .s
 ·exact .nil
 ·exact .lst
 ·exact .dic
 ·exact .non1
 ·exact .unit1
 ·exact .tru
theorem add_lst {a b:List D} (h:a.length+b.length≤100):addD (.lst a) (.lst b) S= .ok (.lst (a++b)) S:=by
 simp only[addD,asL]
 rw[if_pos (small (by omega))]
theorem odd_ok (k:Nat) (pu:Purse n m S) {q:List Nat} (hl:q.length≤12):(Fs (k+2) 24 [.obj n,pl q] S).sat fun d S'=>Odd q d∧FrU [n,m] S S'∧Purse n m S':=by
 rw[show k+2=k+1+1 from rfl,Fs_law_odd,sat_run]
 refine⟨rfl,?_⟩
 unfold m_law_odd
 simp only[List.map_cons,List.map_nil,List.cons_append,List.nil_append,List.length_cons,List.length_nil,List.replicate,Nat.zero_add,Nat.reduceAdd,Nat.reduceSub]
 have s20:∀k:Nat,k≤100→k≤sizeLine:=fun k h=>small (by omega)
 have e1:repTD (.tup [.int 0]) (.int 11) S= .ok (.tup (List.replicate 11 (.int 0))) S:=by rfl
 have e2:addD (pl q) (.tup (List.replicate 11 (.int 0))) S= .ok (.tup (inz q++List.replicate 11 (.int 0))) S:=by
  show(if(inz q).length+(List.replicate 11 (D.int 0)).length≤sizeLine then _ else _)=_
  rw[if_pos (s20 _ (by simp;omega))]
 have e3:addD (pl q) (.tup [.int (-1)]) S= .ok (.tup (inz q++ [.int (-1)])) S:=by
  show(if(inz q).length+ [D.int (-1)].length≤sizeLine then _ else _)=_
  rw[if_pos (s20 _ (by simp;omega))]
 have e4:listD [pl q] S= .ok (.lst (inz q)) S:=by rfl
 refine step_asg (S1:=S) (S2:=S) (d:= .lst [.tup (inz q++List.replicate 11 (.int 0)), .tup (inz q++ [.int (-1)]), .tup [.int 7], .tup [.bl true], .tup [.str "0"], .non, .int 0, .str "0", .lst [], .lst (inz q), .dic [] []]) (of_sat (by
  simp only[sat_e2,sat_e1,sat_eN,sat_aCons,sat_aNil,sat_eVar,sat_eK,sat_mkTup,sat_mkLst,sat_eDic0,neg_int,sat_ok,List.getElem?_cons_succ,List.getElem?_cons_zero,List.length_cons,List.length_nil]
  refine⟨s20 _ (by omega),?_⟩
  rw[e1,sat_ok,e2,sat_ok]
  refine⟨s20 _ (by omega),?_⟩
  rw[e3,sat_ok]
  refine⟨s20 _ (by omega),s20 _ (by omega),s20 _ (by omega),s20 _ (by omega),?_⟩
  rw[e4,sat_ok]
  exact⟨s20 _ (by omega),rfl,rfl⟩)) rfl ?_
 simp only[List.set_cons_succ,List.set_cons_zero]
 refine step_asg (S1:=S) (S2:=S) (d:= .lst (oddL q)) (of_sat (by
  simp only[sat_e2,sat_e1,sat_eN,sat_aCons,sat_aNil,sat_eVar,sat_eK,sat_mkTup,sat_mkLst,sat_ok,List.getElem?_cons_succ,List.getElem?_cons_zero,List.length_cons,List.length_nil]
  refine⟨s20 _ (by omega),s20 _ (by omega),s20 _ (by omega),s20 _ (by omega),?_⟩
  rw[add_lst (by simp),sat_ok]
  exact⟨rfl,rfl⟩)) rfl ?_
 simp only[List.set_cons_succ,List.set_cons_zero]
 open_k
 refine sat_mono (pk k n m S _ pu (by show(0:Int)<((14:Nat):Int);decide) (by show((14:Nat):Int)<_;decide)) ?_
 rintro d S1 ⟨⟨j,rfl,j0,j1⟩,fr1,pu1⟩
 obtain⟨z,hz,ez⟩:=ixm j0 j1
 rw[ez,sat_ok]
 exact⟨oddL_all z hz,fr1,pu1⟩
structure GSp (t:Tm) (s:Spo):Prop where
 ok:SpOk t s
 sh:Shw s.1
 ne:s.2=none→∀p v,t.at p=some v→shD s.1≠shD (pl p)
 yes:s.2≠none→∃p v,s.1=pl p∧t.at p=some v
theorem gsp_pl {t:Tm} (okt:OkC t) {p:List Nat} {u:Tm} (h:t.at p=some u):GSp t (pl p,some (cPl t p u)):=by
 have hd:=Tm.at_dep h
 have h6:=at_lt6 okt.1.1 h
 have:=okt.2.2
 exact⟨⟨p,u,rfl,h,rfl⟩,pl_shw (by omega) h6,fun e=>by(simp at e),fun _=>⟨p,u,rfl,h⟩⟩
theorem gsp_odd {t:Tm} (okt:OkC t) {p:List Nat} {u:Tm} {x:D} (h:t.at p=some u) (o:Odd p x):GSp t (x,none):=by
 have hd:=Tm.at_dep h
 have h6:=at_lt6 okt.1.1 h
 have:=okt.2.2
 exact⟨odd_np okt.1.1 okt.2.2 h o,odd_shw (by omega) h6 o,fun _ q v hq=>odd_ne okt.1.1 okt.2.2 h o hq,fun e=>absurd rfl e⟩
theorem mem_spot {t:Tm} {p:List Nat} {v:Tm} (h:t.at p=some v):p ∈ t.spots:=by
 have:=vp_mem (t:=t) ⟨p,v,rfl,h⟩
 obtain⟨q,hq,e⟩:=List.mem_map.mp this
 rwa [← pl_inj e]
theorem lc_same {te:ED} {env:EnvD} {i:Nat} {S:Store} (g:D→D):∀ {l:List D} {Q:List D→Store→Prop},(∀ x ∈ l,te (env.set i (some x)) S= .ok (g x) S)→Q (l.map g) S→lcSat (gName i) tYesD te env l S Q
 | [],Q,h,q=>q
 |x::l,Q,h,q=>by
  unfold lcSat
  simp only[L3.gName,tYesD,sat_ok,if_true,h x List.mem_cons_self]
  exact lc_same g (Q:=fun ys S4=>Q (g x::ys) S4) (fun y hy=>h y (List.mem_cons_of_mem _ hy)) q
theorem notInS {z:Str} {l:List Str} (h:PyData.strOk z=true) (hl:∀s ∈ l,PyData.strOk s=true):notInD (.str z) (.lst (l.map .str)) S= .ok (.bl (!decide (z ∈ l))) S:=by
 have:=in_lsts (S:=S) h hl
 unfold notInD;rw[this]
theorem none_ok (k:Nat) {t:Tm} (okt:OkC t) {s:Spo} (g:GSp t s) (S:Store):Fs (k+1) 26 [s.1, .lst (t.spots.map pl)] S= .ok (.bl s.2.isNone) S:=by
 apply of_sat
 rw[Fs_law_is_none,sat_run]
 refine⟨rfl,?_⟩
 unfold m_law_is_none
 simp only[List.map_cons,List.map_nil,List.cons_append,List.nil_append,List.length_cons,List.length_nil,List.replicate,Nat.zero_add,Nat.reduceAdd,Nat.reduceSub]
 have hsl:=Tm.spots_len t
 have hz:=okt.2.1
 rw[ssat_sRet,sat_e2]
 simp only[sat_eN,sat_aCons,sat_aNil,sat_eVar,List.getElem?_cons_succ,List.getElem?_cons_zero]
 rw[g.sh.repr,sat_ok,sat_eLc,sat_iSeq]
 simp only[sat_eVar,List.getElem?_cons_succ,List.getElem?_cons_zero,itemsD_lst,sat_ok]
 refine⟨small (by rw[List.length_map];omega),?_⟩
 have at_:∀p ∈ t.spots,∃v,t.at p=some v:=fun p hp=>by
  obtain⟨q,v,e,h⟩:=vp_spots (t:=t) (pl p) (List.mem_map_of_mem hp)
  exact⟨v,by rw[pl_inj e];exact h⟩
 refine lc_same (fun x=> .str (shD x)) (fun x hx=> ?_) ?_
 ·obtain⟨p,hp,rfl⟩:=List.mem_map.mp hx
  obtain⟨v,hv⟩:=at_ p hp
  apply of_sat
  simp only[sat_eN,sat_aCons,sat_aNil,sat_eVar,wipeD,List.set_cons_succ,List.set_cons_zero,List.getElem?_cons_succ,List.getElem?_cons_zero]
  rw[(gsp_pl okt hv).sh.repr,sat_ok]
  exact⟨rfl,rfl⟩
 ·rw[show (t.spots.map pl).map (fun x=>D.str (shD x))=((t.spots.map pl).map shD).map .str by simp,notInS g.sh.ok (fun z hz=>by
   obtain⟨x,hx,rfl⟩:=List.mem_map.mp hz
   obtain⟨p,hp,rfl⟩:=List.mem_map.mp hx
   obtain⟨v,hv⟩:=at_ p hp
   exact(gsp_pl okt hv).sh.ok),sat_ok]
  refine⟨?_,rfl⟩
  congr 1
  cases h:s.2 with
  |none=>
   simp only[Option.isNone_none,Bool.not_eq_true',decide_eq_false_iff_not]
   intro hm
   obtain⟨x,hx,e⟩:=List.mem_map.mp hm
   obtain⟨p,hp,rfl⟩:=List.mem_map.mp hx
   obtain⟨v,hv⟩:=at_ p hp
   exact g.ne h p v hv e.symm
  |some c=>
   obtain⟨p,v,e,hv⟩:=g.yes (by rw[h];simp)
   simp only[Option.isNone_some,Bool.not_eq_false',decide_eq_true_eq]
   rw[e]
   exact List.mem_map_of_mem (List.mem_map_of_mem (mem_spot hv))
noncomputable def bads (l:List Spo):List D:=(l.filter (·.2.isNone)).map (·.1)
theorem bads_res:∀l:List Spo,(∀ x,res l= .inl x→∃r,bads l=x::r)∧(∀ cs,res l= .inr cs→bads l= [])
 | [] =>⟨fun x h=>by(simp[res] at h),fun cs _=>rfl⟩
 |(x,none)::l=>⟨fun y h=>by simp only[res,Sum.inl.injEq] at h;subst h;exact⟨bads l,rfl⟩,fun cs h=>by simp[res] at h⟩
 |(x,some c)::l=>by
  have ih:=bads_res l
  have e:bads ((x,some c)::l)=bads l:=rfl
  rw[e]
  simp only[res]
  cases h:res l with
  |inl y=>exact⟨fun z hz=>by simp only[Sum.inl.injEq] at hz;subst hz;exact ih.1 y h,fun cs hc=>by cases hc⟩
  |inr cs=>exact⟨fun z hz=>(by cases hz),fun _ _=>ih.2 cs h⟩
def tf (y:Bool):Str:=if y then "True" else "False"
def nP:Str:= "none: "
def Ans (R:List C→List C→Prop) (a b:List Spo) (z:Str):Prop:=(∃ x,res (a++b)= .inl x∧z=nP++shD x)∨(∃ ca cb,res a= .inr ca∧res b= .inr cb∧∃y:Bool,(y=true↔R ca cb)∧z=tf y)
theorem Ans.two {R:List C→List C→Prop} {a b:List Spo} {ca cb:List C} (h1:res a= .inr ca) (h2:res b= .inr cb):res (a++b)= .inr (ca++cb):=by rw[res_app,h1,h2]
theorem Ans.uniq {R:List C→List C→Prop} {a b:List Spo} {z z':Str} (h:Ans R a b z) (h':Ans R a b z'):z=z':=by
 rcases h with⟨x,e1,rfl⟩|⟨ca,cb,e1,e2,y,hy,rfl⟩
 ·rcases h' with⟨x',e1',rfl⟩|⟨ca,cb,e3,e4,y,hy,rfl⟩
  ·rw[e1] at e1';cases e1';rfl
  ·rw[Ans.two (R:=R) e3 e4] at e1;cases e1
 ·rcases h' with⟨x',e1',rfl⟩|⟨ca',cb',e3,e4,y',hy',rfl⟩
  ·rw[Ans.two (R:=R) e1 e2] at e1';cases e1'
  ·rw[e1] at e3;rw[e2] at e4
   cases e3;cases e4
   have:y=y':=by rw[Bool.eq_iff_iff,hy,hy']
   rw[this]
theorem Ans.bad {R:List C→List C→Prop} {a b:List Spo} {z:Str} (h:Ans R a b z) {x:D} {r:List D} (e:bads (a++b)=x::r):z=nP++shD x:=by
 rcases h with⟨x',e1,rfl⟩|⟨ca,cb,e1,e2,y,hy,rfl⟩
 ·obtain⟨r',h⟩:=(bads_res _).1 _ e1
  rw[h] at e;cases e;rfl
 ·have:=(bads_res _).2 _ (Ans.two (R:=R) e1 e2)
  rw[this] at e;cases e
theorem Ans.good {R:List C→List C→Prop} {a b:List Spo} {z:Str} (h:Ans R a b z) (e:bads (a++b)= []):∃y,z=tf y:=by
 rcases h with⟨x',e1,rfl⟩|⟨ca,cb,e1,e2,y,hy,rfl⟩
 ·obtain⟨r',h⟩:=(bads_res _).1 _ e1
  rw[h] at e;cases e
 ·exact⟨y,rfl⟩
theorem bads_mem {l:List Spo} {x:D} (h:x ∈ bads l):∃s ∈ l,s.1=x:=by
 obtain⟨s,hs,rfl⟩:=List.mem_map.mp h
 exact⟨s,(List.mem_filter.mp hs).1,rfl⟩
theorem inl_mem {l:List Spo} {x:D} (h:res l= .inl x):∃s ∈ l,s.1=x:=by
 obtain⟨r,e⟩:=(bads_res l).1 x h
 exact bads_mem (by rw[e];exact List.mem_cons_self)
theorem nP_ok:okS nP:=okS_of _
theorem tf_ok (y:Bool):PyData.strOk (tf y)=true:=okS_iff.mp (by cases y<;>exact okS_of _)
theorem Ans.ok {R:List C→List C→Prop} {a b:List Spo} {z:Str} (h:Ans R a b z) (hs:∀s ∈ a++b,Shw s.1):PyData.strOk z=true:=by
 rcases h with⟨x',e1,rfl⟩|⟨ca,cb,e1,e2,y,hy,rfl⟩
 ·obtain⟨s,h1,rfl⟩:=inl_mem e1
  exact okS_iff.mp (okS_app nP_ok (okS_iff.mpr (hs s h1).ok))
 ·exact tf_ok y
theorem add_nP {x:D} (h:Shw x) (S:Store):addD (.str nP) (.str (shD x)) S= .ok (.str (nP++shD x)) S:=by
 have:=h.len
 show(if nP.length+(shD x).length≤sizeLine then _ else _)=_
 rw[if_pos]
 have:nP.length=6:=by decide +kernel
 exact Nat.le_trans (by omega:nP.length+(shD x).length≤6000) (by decide)
theorem told_rx {F:Nat→FN} {R:List C→List C→Prop} {a b:List Spo} {l:List D} {den:List D→Store→L3.R D} (h:RX R a b (den l S) S) (hs:∀s ∈ a++b,Shw s.1):
 (lamRun 5 (m_law_told F) tok0 l den S).sat fun d S'=>(∃ z,Ans R a b z∧d= .str z)∧Grw S S':=by
 rw[told_by]
 unfold RX at h
 generalize den l S=r at h
 cases h with
 | @mk d S1 Q h=>
   obtain⟨ca,cb,e1,e2,⟨y,rfl,hy⟩,gr⟩:=h
   simp only []
   have:reprD [D.bl y] S1= .ok (.str (tf y)) S1:=by
    have e:reprD [D.bl y] S1=(if showOk (.bool y) then .ok (.str (PyData.bool y).shown) S1 else .bad):=rfl
    rw[e,if_pos (by cases y<;>decide +kernel),PyData.shown_bool]
    cases y<;>rfl
   rw[this,sat_ok]
   exact⟨⟨_, .inr ⟨ca,cb,e1,e2,y,hy,rfl⟩,rfl⟩,gr⟩
 | @ex e S1 Q h=>
   obtain⟨x,e1,rfl,gr⟩:=h
   obtain⟨s,h1,rfl⟩:=inl_mem e1
   have hx:=hs s h1
   simp only[noP]
   rw[if_pos trivial]
   show((reprD [s.1] S1).bind fun x S2=>addD (.str nP) x S2).sat _
   rw[hx.repr]
   show(addD (.str nP) (.str (shD s.1)) S1).sat _
   rw[add_nP hx,sat_ok]
   exact⟨⟨_, .inl ⟨_,e1,rfl⟩,rfl⟩,gr⟩
theorem sat_lam {y q:Str} {nn:Nat} {B:LamD} {ids:List Nat} {m:ED} {env:EnvD} {l:List D} {Q:D→Store→Prop} (h0:S[(0:Nat)]? =some (.tab y q)) (hl:takeD env ids=some l) (h:(lamRun nn B tok0 l (fun l S'=>m (backD ids l (List.replicate env.length none)) S') S).sat Q):(eLamCall y q nn B ids m env S).sat Q:=by
 unfold eLamCall
 rw[h0]
 simp only[and_self,if_true,hl]
 exact h
theorem ne_txts {x y:D} {a b:List Str} (hx:deref x S= .lst (a.map .str)) (hy:deref y S= .lst (b.map .str)) (ha:∀s ∈ a,PyData.strOk s=true) (hb:∀s ∈ b,PyData.strOk s=true):neD x y S= .ok (.bl (!decide (a=b))) S:=by
 have h1:toPy (deref x S)=some (.list (a.map .str)):=by rw[hx];simp only[toPy,toPyL_strs a ha];rfl
 have h2:toPy (deref y S)=some (.list (b.map .str)):=by rw[hy];simp only[toPy,toPyL_strs b hb];rfl
 rw[neD_py h1 h2 (by simp only[PyData.depth,depth_strs];omega)]
 simp only[PyData.eqv,eqv_strs]
theorem eq_txtsG {x y:D} {a b:List Str} (hx:deref x S= .lst (a.map .str)) (hy:deref y S= .lst (b.map .str)) (ha:∀s ∈ a,PyData.strOk s=true) (hb:∀s ∈ b,PyData.strOk s=true):eqD x y S= .ok (.bl (decide (a=b))) S:=by
 have h1:toPy (deref x S)=some (.list (a.map .str)):=by rw[hx];simp only[toPy,toPyL_strs a ha];rfl
 have h2:toPy (deref y S)=some (.list (b.map .str)):=by rw[hy];simp only[toPy,toPyL_strs b hb];rfl
 rw[eqD_py h1 h2 (by simp only[PyData.depth,depth_strs];omega)]
 simp only[PyData.eqv,eqv_strs]
theorem deref_obj {p:Nat} {l:List D} (h:S[p]? =some (.lst l)):deref (.obj p) S= .lst l:=by simp[deref,h]
def TAB:O:= .tab "law" ((("law":Str)++ ".<locals>.")++ "<lambda>")
structure Iv (n m:Nat) (S:Store):Prop where
 pu:Purse n m S
 n0:n≠0
 m0:m≠0
 tab:S[(0:Nat)]? =some TAB
theorem Iv.fr (h:Iv n m S) (f:FrU [n,m] S S') (pu:Purse n m S'):Iv n m S':=⟨pu,h.n0,h.m0,f.fr 0 _ (by simp[h.n0.symm,h.m0.symm]) h.tab⟩
theorem Iv.fr0 (h:Iv n m S) (f:FrU [] S S'):Iv n m S':=⟨h.pu.fr f (by simp) (by simp),h.n0,h.m0,f.fr 0 _ (by simp) h.tab⟩
theorem Iv.grw (h:Iv n m S) (f:Grw S S'):Iv n m S':=h.fr0 f.fru
theorem Iv.set {p:Nat} (h:Iv n m S) (hn:p≠n) (hm:p≠m) (h0:p≠0) (o:O):Iv n m (S.set p o):=
 ⟨h.pu.fr (X:= [p]) (.set (by simp) o) (by simpa using hn.symm) (by simpa using hm.symm),h.n0,h.m0,by rw[List.getElem?_set_ne h0];exact h.tab⟩
theorem Iv.lt (h:Iv n m S):0<S.length∧n<S.length∧m<S.length:=⟨(List.getElem?_eq_some_iff.mp h.tab).1,h.pu.lt⟩
end K18
namespace K18
open PySem L2 L3 L3.Od
variable {S S':Store} {n m:Nat}
noncomputable def badT (l:List Spo):List Str:=(bads l).map shD
theorem badT_ok {t:Tm} {l:List Spo} (h:∀s ∈ l,GSp t s):∀z ∈ badT l,PyData.strOk z=true:=fun z hz=>by
 obtain⟨x,hx,rfl⟩:=List.mem_map.mp hz
 obtain⟨s,hs,rfl⟩:=bads_mem hx
 exact(h s hs).sh.ok
theorem lc_bads {t:Tm} (okt:OkC t) {env:EnvD} (h4:∀x,(env.set 12 (some x))[4]? =some (some (.lst (t.spots.map pl)))) (h12:∀x,(env.set 12 (some x))[12]? =some (some x)):∀ {l:List Spo} {Q:List D→Store→Prop},(∀ s ∈ l,GSp t s)→Q ((badT l).map .str) S→
 lcSat (gName 12) (tTruth (eN (callK (Fs 69 26) []) (aCons (eVar 12) (aCons (eVar 4) (aNil))))) (eN reprD (aCons (eVar 12) (aNil))) env (l.map (·.1)) S Q
 | [],Q,h,q=>q
 |s::l,Q,h,q=>by
  have g:=h s List.mem_cons_self
  simp only[List.map_cons]
  unfold lcSat
  simp only[L3.gName]
  rw[sat_tTruth,sat_eN]
  simp only[sat_aCons,sat_aNil,sat_eVar,h4,h12,callK_eq,List.append_nil]
  rw[none_ok 68 okt g S,sat_ok,truthD_bl,sat_ok]
  cases hs:s.2 with
  |none=>
   rw[Option.isNone_none,if_pos rfl,sat_eN]
   simp only[sat_aCons,sat_aNil,sat_eVar,h12]
   rw[g.sh.repr,sat_ok]
   have e:badT (s::l)=shD s.1::badT l:=by
    unfold badT bads
    rw[List.filter_cons_of_pos (by rw[hs];rfl)]
    rfl
   rw[e] at q
   exact lc_bads okt h4 h12 (Q:=fun ys S4=>Q (D.str (shD s.1)::ys) S4) (fun s' hs'=>h s' (List.mem_cons_of_mem _ hs')) q
  |some c=>
   rw[Option.isNone_some,if_neg Bool.false_ne_true]
   have e:badT (s::l)=badT l:=by
    unfold badT bads
    rw[List.filter_cons_of_neg (by rw[hs];simp)]
   rw[e] at q
   exact lc_bads okt h4 h12 (fun s' hs'=>h s' (List.mem_cons_of_mem _ hs')) q
theorem tolds {R:List C→List C→Prop} {a b:List Spo} {ids:List Nat} {mm:FN→ED} {env:EnvD} {l xs:List D} {f:FN} (iv:Iv n m S) (hl:takeD env ids=some l) (hm:∀f S',mm f (backD ids l (List.replicate env.length none)) S'=f xs S') (h:RX R a b (f xs S) S) (hs:∀s ∈ a++b,Shw s.1):
 (eLamCall "law" ((("law" :Str)++ ".<locals>.")++ "<lambda>") 5 (m_law_told (Fs 69)) ids (mm f) env S).sat fun d S'=>(∃ z,Ans R a b z∧d= .str z)∧Grw S S':=
 sat_lam iv.tab hl (told_rx (by rw[hm];exact h) hs)
theorem badT_nil {l:List Spo} (h:badT l= []):bads l= [] :=by
 unfold badT at h
 simpa using h
theorem badT_cons {l:List Spo} {z:Str} {r:List Str} (h:badT l=z::r):∃x r',bads l=x::r'∧z=shD x:=by
 unfold badT at h
 cases hb:bads l with
 |nil=>rw[hb] at h;cases h
 |cons x r'=>rw[hb] at h;cases h;exact⟨x,r',rfl,rfl⟩
theorem add_nPT {t:Tm} {l:List Spo} (h:∀s ∈ l,GSp t s) {z:Str} {r:List Str} (e:badT l=z::r) (S:Store):addD (.str nP) (.str z) S= .ok (.str (nP++z)) S:=by
 obtain⟨x,r',e1,rfl⟩:=badT_cons e
 obtain⟨s,hs,rfl⟩:=bads_mem (l:=l) (x:=x) (by rw[e1];exact List.mem_cons_self)
 exact add_nP (h s hs).sh S
theorem badT_ne {t:Tm} {l:List Spo} (h:∀s ∈ l,GSp t s):neD (.lst ((badT l).map .str)) (.lst []) S= .ok (.bl (!(badT l).isEmpty)) S∧eqD (.lst ((badT l).map .str)) (.lst []) S= .ok (.bl (badT l).isEmpty) S:=by
 have h1:=ne_txts (S:=S) (x:= .lst ((badT l).map .str)) (y:= .lst (([] :List Str).map .str)) rfl rfl (badT_ok h) (by simp)
 have h2:=eq_txtsG (S:=S) (x:= .lst ((badT l).map .str)) (y:= .lst (([] :List Str).map .str)) rfl rfl (badT_ok h) (by simp)
 have e:decide (badT l= [])=(badT l).isEmpty:=by cases badT l<;>simp
 rw[e] at h1 h2
 exact⟨h1,h2⟩
noncomputable def pairB:SD:=
 (sSeq (sAsg (eLc (iSeq (eN mkTup (aCons (eVar 15) (aCons (eVar 16) (aNil))))) [12] (gName 12) (tTruth (eN (callK (Fs 69 26) []) (aCons (eVar 12) (aCons (eVar 4) (aNil))))) (eN reprD (aCons (eVar 12) (aNil)))) (gName 11))
 (sSeq (sAsg (eLamCall "law" ((("law" :Str)++ ".<locals>.")++ "<lambda>") 5 (m_law_told (Fs 69)) [3,15,16] (eN (callK (Fs 69 9) []) (aCons (eVar 3) (aCons (eVar 15) (aCons (eVar 16) (aNil)))))) (gName 13))
 (sSeq (sIf (tOfE (e2 neD (eLamCall "law" ((("law" :Str)++ ".<locals>.")++ "<lambda>") 5 (m_law_told (Fs 69)) [3,15,16] (eKw (kwK (Fs 69 9) 0 3 kbd_same_at_0_other_one_program_g) aNil (aCons (eVar 16) (aCons (eVar 15) (aCons (eVar 3) (aNil)))))) (eVar 13))) (sRet (eK (.bl false))) (sSkip))
 (sIf (tOr (tAnd (tOfE (e2 neD (eVar 11) (eN mkLst (aNil)))) (tOfE (e2 neD (eVar 13) (e2 addD (eK (.str "none: ")) (e2 ixD (eVar 11) (eK (.int 0))))))) (tAnd (tOfE (e2 eqD (eVar 11) (eN mkLst (aNil)))) (tOfE (e2 notInD (eVar 13) (eN mkTup (aCons (eK (.str "True")) (aCons (eK (.str "False")) (aNil)))))))) (sRet (eK (.bl false))) (sSkip)))))
theorem pair_ok {ns:List Int} {t:Tm} {s s':Spo} {a2 a5 a6 a7 a8 a9 a10 a11 a12 a13 a14:Option D} (okt:OkC t) (g:GSp t s) (g':GSp t s') (iv:Iv n m S):
 (pairB [some (.scr ns),some (.obj n),a2,some t.d,some (.lst (t.spots.map pl)),a5,a6,a7,a8,a9,a10,a11,a12,a13,a14,some s.1,some s'.1] S).sat (fun e S1=>(∃ b11 b12 b13:Option D,e= [some (.scr ns),some (.obj n),a2,some t.d,some (.lst (t.spots.map pl)),a5,a6,a7,a8,a9,a10,b11,b12,b13,a14,some s.1,some s'.1])∧Iv n m S1) (fun _ _=>False) (fun _ _=>False) (fun _ _=>False):=by
 have ht:TOk t 12:=⟨okt.1.1,by have:=okt.2.2;omega,by have:=okt.2.2;omega,by have:=okt.2.1;omega⟩
 have gg:∀x ∈ [s,s'],GSp t x:=by simp[g,g']
 have hs:∀x ∈ [s] ++ [s'],Shw x.1:=by simp[g.sh,g'.sh]
 unfold pairB
 refine seq_rule (fun e S1=>(e= [some (.scr ns),some (.obj n),a2,some t.d,some (.lst (t.spots.map pl)),a5,a6,a7,a8,a9,a10,some (.lst ((badT [s,s']).map .str)),a12,a13,a14,some s.1,some s'.1])∧S1=S) ?_ ?_
 ·rw[ssat_asg,sat_eLc,sat_iSeq]
  simp only[sat_eN,sat_aCons,sat_aNil,sat_eVar,sat_mkTup,List.getElem?_cons_succ,List.getElem?_cons_zero,List.length_cons,List.length_nil]
  refine⟨small (by omega),?_⟩
  rw[itemsD_tup,sat_ok]
  refine⟨small (by simp),?_⟩
  exact lc_bads (l:= [s,s']) okt (fun x=>rfl) (fun x=>rfl) gg (by simp only[gName_eq,ssat_nx,List.set_cons_succ,List.set_cons_zero];exact⟨trivial,trivial⟩)
 rintro e S1 ⟨rfl,rfl⟩
 refine seq_rule (fun e S2=>∃z,Ans (fun a b=>a=b) [s] [s'] z∧(e= [some (.scr ns),some (.obj n),a2,some t.d,some (.lst (t.spots.map pl)),a5,a6,a7,a8,a9,a10,some (.lst ((badT [s,s']).map .str)),a12,some (.str z),a14,some s.1,some s'.1])∧Grw S1 S2) ?_ ?_
 ·rw[ssat_asg]
  refine sat_mono (tolds (mm:=fun f=>eN (callK f []) (aCons (eVar 3) (aCons (eVar 15) (aCons (eVar 16) (aNil))))) (xs:= [t.d,s.1,s'.1]) iv rfl (fun f S'=>rfl) (sa 12 52 t s s' S1 ht g.ok g'.ok) hs) ?_
  rintro d S2 ⟨⟨z,hz,rfl⟩,gr⟩
  simp only[gName_eq,ssat_nx,List.set_cons_succ,List.set_cons_zero]
  exact⟨z,hz,rfl,gr⟩
 rintro e S2 ⟨z,hz,rfl,gr⟩
 have iv2:=iv.grw gr
 have zok:=hz.ok hs
 rw[ssat_seq,ssat_if,sat_tOfE,sat_e2]
 refine sat_mono (tolds (mm:=fun f=>eKw (kwK f 0 3 kbd_same_at_0_other_one_program_g) aNil (aCons (eVar 16) (aCons (eVar 15) (aCons (eVar 3) (aNil))))) (xs:= [t.d,s.1,s'.1]) iv2 rfl (fun f S'=>rfl) (sa 12 52 t s s' S2 ht g.ok g'.ok) hs) ?_
 rintro d S3 ⟨⟨z',hz',rfl⟩,gr3⟩
 have iv3:=iv2.grw gr3
 obtain rfl:=hz.uniq hz'
 simp only[sat_eVar,List.getElem?_cons_succ,List.getElem?_cons_zero]
 rw[ne_strs,sat_ok,blD_bl,sat_ok,show(!(z==z))=false by simp,if_neg Bool.false_ne_true,ssat_skip]
 have hbe:=badT_ne (S:=S3) gg
 rw[ssat_if]
 simp only[sat_tOr,sat_tAnd,sat_tOfE,sat_e2,sat_eN,sat_aNil,sat_mkLst,sat_eVar,List.getElem?_cons_succ,List.getElem?_cons_zero,List.length_nil]
 refine⟨small (by omega),?_⟩
 rw[hbe.1,sat_ok,blD_bl,sat_ok]
 cases hb:badT [s,s'] with
 |nil=>
  obtain⟨y,rfl⟩:=hz.good (badT_nil hb)
  rw[show (!([] :List Str).isEmpty)=false from rfl,if_neg Bool.false_ne_true,if_neg Bool.false_ne_true]
  rw[hb] at hbe
  refine⟨small (by omega),?_⟩
  rw[hbe.2,sat_ok,blD_bl,sat_ok,show(([] :List Str).isEmpty)=true from rfl,if_pos rfl]
  simp only[sat_aCons,sat_aNil,sat_eK,sat_mkTup,List.length_cons,List.length_nil]
  refine⟨small (by omega),?_⟩
  have:∀(y:Bool) S,notInD (.str (tf y)) (.tup [.str "True", .str "False"]) S= .ok (.bl false) S:=fun y S=>by cases y<;>kernel_rfl
  rw[this,sat_ok,blD_bl,sat_ok,if_neg Bool.false_ne_true,ssat_skip]
  exact⟨⟨_,_,_,rfl⟩,iv3⟩
 |cons z0 r=>
  obtain⟨x,r',e1,e2⟩:=badT_cons hb
  have hzz:=hz.bad e1
  rw[← e2] at hzz
  rw[show (!(z0::r).isEmpty)=true from rfl,if_pos rfl]
  simp only[sat_eK]
  rw[hb] at hbe
  rw[show ixD (.lst ((z0::r).map .str)) (.int 0) S3= .ok (.str z0) S3 by simp[ixD,asL,atI,ixN],sat_ok]
  rw[show (Str.ofString "none: ")=nP from rfl,add_nPT gg hb S3,sat_ok,←hzz,ne_strs,sat_ok,blD_bl,sat_ok,show(!(z==z))=false by simp,if_neg Bool.false_ne_true]
  refine⟨small (by omega),?_⟩
  rw[hbe.2,sat_ok,blD_bl,sat_ok,show((z0::r).isEmpty)=false from rfl,if_neg Bool.false_ne_true,if_neg Bool.false_ne_true,ssat_skip]
  exact⟨⟨_,_,_,rfl⟩,iv3⟩
noncomputable def fromC:SD:=
 (sSeq (sFor (iSeq (eN mkTup (aCons (eN mkTup (aCons (e2 ixD (eVar 5) (eK (.int 0))) (aCons (e2 ixD (eVar 5) (eK (.int 3))) (aNil)))) (aCons (eN mkTup (aCons (e2 ixD (eVar 5) (eK (.int 2))) (aCons (e2 ixD (eVar 5) (eK (.int 1))) (aNil)))) (aNil))))) (gTup [15,16]) pairB)
 (sIf (tOr (tOfE (e2 neD (eKw (kwK (Fs 69 7) 0 1 kbd_form_of_0_program_g) aNil (aCons (eVar 3) (aNil))) (eN (callK (Fs 69 7) []) (aCons (eVar 3) (aNil))))) (tOfE (e2 notTrD (eKw (kwK (Fs 69 8) 0 2 kbd_are_alike_0_other_one_g) aNil (aCons (eVar 3) (aCons (eVar 3) (aNil)))) (eK (.bl true))))) (sRet (eK (.bl false))) (sSkip)))
noncomputable def fromA:SD:=
 (sSeq (sAsg (eLc (iSeq (e1 frzD (eVar 5))) [12] (gName 12) (tTruth (eN (callK (Fs 69 26) []) (aCons (eVar 12) (aCons (eVar 4) (aNil))))) (eN reprD (aCons (eVar 12) (aNil)))) (gName 11))
 (sSeq (sAsg (eN mkObj (aCons (eLamCall "law" ((("law" :Str)++ ".<locals>.")++ "<lambda>") 5 (m_law_told (Fs 69)) [3,9,10] (eN (callK (Fs 69 10) []) (aCons (eVar 3) (aCons (eVar 9) (aCons (eVar 10) (aNil)))))) (aNil))) (gName 13))
 (sSeq (sExpr (eBM "list" appendD (eVar 13) (aCons (eLamCall "law" ((("law" :Str)++ ".<locals>.")++ "<lambda>") 5 (m_law_told (Fs 69)) [3,9,10] (eN (callK (Fs 69 11) []) (aCons (eVar 3) (aCons (eVar 9) (aCons (eVar 10) (aNil)))))) (aNil))))
 (sSeq (sAsg (eN mkObj (aCons (eLamCall "law" ((("law" :Str)++ ".<locals>.")++ "<lambda>") 5 (m_law_told (Fs 69)) [3,9,10] (eKw (kwK (Fs 69 10) 0 3 kbd_same_runs_0_others_ones_program_g) aNil (aCons (eVar 10) (aCons (eVar 9) (aCons (eVar 3) (aNil)))))) (aNil))) (gName 14))
 (sSeq (sExpr (eBM "list" appendD (eVar 14) (aCons (eLamCall "law" ((("law" :Str)++ ".<locals>.")++ "<lambda>") 5 (m_law_told (Fs 69)) [3,9,10] (eKw (kwK (Fs 69 11) 0 3 kbd_same_heaps_0_ones_others_program_g) aNil (aCons (eVar 9) (aCons (eVar 10) (aCons (eVar 3) (aNil)))))) (aNil))))
 (sSeq (sIf (tOr (tOfE (e2 neD (eVar 13) (eVar 14))) (tAnd (tOfE (e2 neD (eVar 11) (eN mkLst (aNil)))) (tOfE (e2 neD (eVar 13) (e2 mulD (eN mkLst (aCons (e2 addD (eK (.str "none: ")) (e2 ixD (eVar 11) (eK (.int 0)))) (aNil))) (eK (.int 2))))))) (sRet (eK (.bl false))) (sSkip))
 fromC))))))
end K18
namespace K18
open PySem L2 L3 L3.Od
variable {S S':Store} {n m:Nat}
theorem ix4 {a b c d:D} (S:Store):ixD (.lst [a,b,c,d]) (.int 0) S= .ok a S∧ixD (.lst [a,b,c,d]) (.int 1) S= .ok b S∧ixD (.lst [a,b,c,d]) (.int 2) S= .ok c S∧ixD (.lst [a,b,c,d]) (.int 3) S= .ok d S:=by
 refine⟨?_,?_,?_,?_⟩<;>simp[ixD,asL,atI,ixN]
theorem c_ok {ns:List Int} {t:Tm} {s0 s1 s2 s3:Spo} {a2 a6 a7 a8 a9 a10 a11 a12 a13 a14 a15 a16:Option D} (okt:OkC t) (g0:GSp t s0) (g1:GSp t s1) (g2:GSp t s2) (g3:GSp t s3) (iv:Iv n m S):
 (fromC [some (.scr ns),some (.obj n),a2,some t.d,some (.lst (t.spots.map pl)),some (.lst [s0.1,s1.1,s2.1,s3.1]),a6,a7,a8,a9,a10,a11,a12,a13,a14,a15,a16] S).sat (fun e S1=>(∃ b11 b12 b13 b15 b16:Option D,e= [some (.scr ns),some (.obj n),a2,some t.d,some (.lst (t.spots.map pl)),some (.lst [s0.1,s1.1,s2.1,s3.1]),a6,a7,a8,a9,a10,b11,b12,b13,a14,b15,b16])∧Iv n m S1) (fun _ _=>False) (fun _ _=>False) (fun _ _=>False):=by
 unfold fromC
 refine seq_rule (fun e S1=>(∃ b11 b12 b13 b15 b16:Option D,e= [some (.scr ns),some (.obj n),a2,some t.d,some (.lst (t.spots.map pl)),some (.lst [s0.1,s1.1,s2.1,s3.1]),a6,a7,a8,a9,a10,b11,b12,b13,a14,b15,b16])∧Iv n m S1) ?_ ?_
 ·rw[ssat_for,sat_iSeq]
  simp only[sat_e2,sat_eN,sat_aCons,sat_aNil,sat_eVar,sat_eK,sat_mkTup,List.getElem?_cons_succ,List.getElem?_cons_zero,List.length_cons,List.length_nil]
  have ix:=ix4 (a:=s0.1) (b:=s1.1) (c:=s2.1) (d:=s3.1) S
  rw[ix.1,sat_ok,ix.2.2.2,sat_ok]
  refine⟨small (by omega),?_⟩
  rw[ix.2.2.1,sat_ok,ix.2.1,sat_ok]
  refine⟨small (by omega),small (by omega),?_⟩
  rw[itemsD_tup,sat_ok]
  refine for_each (fun e S1=>(∃ b11 b12 b13 b15 b16:Option D,e= [some (.scr ns),some (.obj n),a2,some t.d,some (.lst (t.spots.map pl)),some (.lst [s0.1,s1.1,s2.1,s3.1]),a6,a7,a8,a9,a10,b11,b12,b13,a14,b15,b16])∧Iv n m S1) ⟨⟨_,_,_,_,_,rfl⟩,iv⟩ ?_ (fun e S h=>h)
  rintro x hx e S1 ⟨⟨b11,b12,b13,b15,b16,rfl⟩,iv1⟩
  have both:∃s s':Spo,x= .tup [s.1,s'.1] ∧GSp t s∧GSp t s':=by
   simp only[List.mem_cons,List.not_mem_nil,or_false] at hx
   rcases hx with rfl|rfl
   ·exact⟨s0,s3,rfl,g0,g3⟩
   ·exact⟨s2,s1,rfl,g2,g1⟩
  obtain⟨s,s',rfl,gs,gs'⟩:=both
  simp only[gTup_tup,gNames_cons,gNames_nil,ssat_nx,List.set_cons_succ,List.set_cons_zero]
  refine ssat_mono (pair_ok (ns:=ns) okt gs gs' iv1) ?_ (fun _ _ h=>h.elim) (fun _ _ h=>h.elim) (fun _ _ h=>h.elim)
  rintro e S2 ⟨⟨c11,c12,c13,rfl⟩,iv2⟩
  exact⟨⟨_,_,_,_,_,rfl⟩,iv2⟩
 rintro e S1 ⟨⟨b11,b12,b13,b15,b16,rfl⟩,iv1⟩
 have hd:=okt.2.2
 have hz:=okt.2.1
 rw[ssat_if]
 simp only[sat_tOr,sat_tOfE,sat_e2,sat_eN,sat_eKw,sat_aCons,sat_aNil,sat_eVar,sat_eK,List.getElem?_cons_succ,List.getElem?_cons_zero,callK_eq,List.append_nil]
 have k1:∀S,kwK (Fs 69 7) 0 1 kbd_form_of_0_program_g [] [t.d] S=Fs 69 7 [t.d] S:=fun S=>by
  have:∀(f:FN),kwK f 0 1 kbd_form_of_0_program_g [] [t.d] S=f [t.d] S:=fun f=>rfl
  exact this _
 have k2:∀S,kwK (Fs 69 8) 0 2 kbd_are_alike_0_other_one_g [] [t.d,t.d] S=Fs 69 8 [t.d,t.d] S:=fun S=>by
  have:∀(f:FN),kwK f 0 2 kbd_are_alike_0_other_one_g [] [t.d,t.d] S=f [t.d,t.d] S:=fun f=>rfl
  exact this _
 rw[k1]
 refine sat_mono (fo 12 55 t S1 okt.1.1 (by omega) (by omega) (by omega)) ?_
 rintro d S2 ⟨rfl,gr2⟩
 refine sat_mono (fo 12 55 t S2 okt.1.1 (by omega) (by omega) (by omega)) ?_
 rintro d S3 ⟨rfl,gr3⟩
 rw[ne_strs,sat_ok,blD_bl,sat_ok,show ∀z:Str,(!(z==z))=false by simp,if_neg Bool.false_ne_true,k2]
 refine sat_mono (aa 12 54 t t S3 okt.1.1 okt.1.1 (by omega) (by omega) (by omega) (by omega) (by omega) (by omega)) ?_
 rintro d S4 ⟨rfl,gr4⟩
 rw[eqC_iff.mpr rfl,show notTrD (.bl true) (.bl true) S4= .ok (.bl false) S4 from rfl,sat_ok,blD_bl,sat_ok,if_neg Bool.false_ne_true,ssat_skip]
 exact⟨⟨_,_,_,_,_,rfl⟩,iv1.grw ((gr2.trans gr3).trans gr4)⟩
theorem app_obj {l:List D} {y:D} {p:Nat} (h:S[p]? =some (.lst l)) (hl:l.length≤100):appendD (.obj p) [y] S= .ok .non (S.set p (.lst (l++ [y]))):=by
 unfold appendD
 simp only[lstAt,h]
 rw[if_pos (Nat.lt_of_le_of_lt hl (by decide))]
theorem a_ok {ns:List Int} {t:Tm} {s0 s1 s2 s3:Spo} {a2 a6 a7 a8 a11 a12 a13 a14 a15 a16:Option D} (okt:OkC t) (g0:GSp t s0) (g1:GSp t s1) (g2:GSp t s2) (g3:GSp t s3) (iv:Iv n m S):
 (fromA [some (.scr ns),some (.obj n),a2,some t.d,some (.lst (t.spots.map pl)),some (.lst [s0.1,s1.1,s2.1,s3.1]),a6,a7,a8,some (.tup [s0.1,s1.1]),some (.tup [s2.1,s3.1]),a11,a12,a13,a14,a15,a16] S).sat (fun e S1=>(∃ a5 a6 a7 a8 a9 a10 a11 a12 a13 a14 a15 a16:Option D,e= [some (.scr ns),some (.obj n),a2,some t.d,some (.lst (t.spots.map pl)),a5,a6,a7,a8,a9,a10,a11,a12,a13,a14,a15,a16])∧Iv n m S1) (fun _ _=>False) (fun _ _=>False) (fun _ _=>False):=by
 have ht:TOk t 12:=⟨okt.1.1,by have:=okt.2.2;omega,by have:=okt.2.2;omega,by have:=okt.2.1;omega⟩
 have gg:∀x ∈ [s0,s1,s2,s3],GSp t x:=by simp[g0,g1,g2,g3]
 have hs:∀x ∈ [s0,s1] ++ [s2,s3],Shw x.1:=by simp[g0.sh,g1.sh,g2.sh,g3.sh]
 have o1:∀x ∈ [s0,s1],SpOk t x:=by simp[g0.ok,g1.ok]
 have o2:∀x ∈ [s2,s3],SpOk t x:=by simp[g2.ok,g3.ok]
 unfold fromA
 refine seq_rule (fun e S1=>(e= [some (.scr ns),some (.obj n),a2,some t.d,some (.lst (t.spots.map pl)),some (.lst [s0.1,s1.1,s2.1,s3.1]),a6,a7,a8,some (.tup [s0.1,s1.1]),some (.tup [s2.1,s3.1]),some (.lst ((badT [s0,s1,s2,s3]).map .str)),a12,a13,a14,a15,a16])∧S1=S) ?_ ?_
 ·rw[ssat_asg,sat_eLc,sat_iSeq]
  simp only[sat_e1,sat_eVar,List.getElem?_cons_succ,List.getElem?_cons_zero]
  rw[show frzD (.lst [s0.1,s1.1,s2.1,s3.1]) S= .ok (.lst [s0.1,s1.1,s2.1,s3.1]) S from rfl,sat_ok,itemsD_lst,sat_ok]
  refine⟨small (by simp),?_⟩
  exact lc_bads (l:= [s0,s1,s2,s3]) okt (fun x=>rfl) (fun x=>rfl) gg (by simp only[gName_eq,ssat_nx,List.set_cons_succ,List.set_cons_zero];exact⟨trivial,trivial⟩)
 rintro e S1 ⟨rfl,rfl⟩
 refine seq_rule (fun e S2=>∃p z,Ans (fun a b=>a=b) [s0,s1] [s2,s3] z∧(e= [some (.scr ns),some (.obj n),a2,some t.d,some (.lst (t.spots.map pl)),some (.lst [s0.1,s1.1,s2.1,s3.1]),a6,a7,a8,some (.tup [s0.1,s1.1]),some (.tup [s2.1,s3.1]),some (.lst ((badT [s0,s1,s2,s3]).map .str)),a12,some (.obj p),a14,a15,a16])∧Iv n m S2∧(p≠0∧p≠n∧p≠m)∧S2[p]? =some (.lst [.str z])) ?_ ?_
 ·rw[ssat_asg,sat_eN,sat_aCons]
  refine sat_mono (tolds (mm:=fun f=>eN (callK f []) (aCons (eVar 3) (aCons (eVar 9) (aCons (eVar 10) (aNil))))) (xs:= [t.d, .tup [s0.1,s1.1], .tup [s2.1,s3.1]]) iv rfl (fun f S'=>rfl) (sr 12 52 t [s0,s1] [s2,s3] S1 ht o1 o2 (by simp) (by simp)) hs) ?_
  rintro d S2 ⟨⟨z,hz,rfl⟩,gr⟩
  have iv2:=iv.grw gr
  have lt:=iv2.lt
  simp only[sat_aNil,sat_mkObj,gName_eq,ssat_nx,List.set_cons_succ,List.set_cons_zero,List.length_cons,List.length_nil]
  exact⟨small (by omega),S2.length,z,hz,rfl,iv2.grw ⟨_,rfl⟩,⟨by omega,by omega,by omega⟩,by simp⟩
 rintro e S2 ⟨p,z,hz,rfl,iv2,np,hp⟩
 refine seq_rule (fun e S3=>∃w,Ans (fun a b=>a.Perm b) [s0,s1] [s2,s3] w∧(e= [some (.scr ns),some (.obj n),a2,some t.d,some (.lst (t.spots.map pl)),some (.lst [s0.1,s1.1,s2.1,s3.1]),a6,a7,a8,some (.tup [s0.1,s1.1]),some (.tup [s2.1,s3.1]),some (.lst ((badT [s0,s1,s2,s3]).map .str)),a12,some (.obj p),a14,a15,a16])∧Iv n m S3∧S3[p]? =some (.lst [.str z, .str w])) ?_ ?_
 ·rw[ssat_sExpr,sat_eBM,sat_eVar]
  simp only[List.getElem?_cons_succ,List.getElem?_cons_zero]
  refine⟨by simp[mtD,hp],?_⟩
  rw[sat_aCons]
  refine sat_mono (tolds (mm:=fun f=>eN (callK f []) (aCons (eVar 3) (aCons (eVar 9) (aCons (eVar 10) (aNil))))) (xs:= [t.d, .tup [s0.1,s1.1], .tup [s2.1,s3.1]]) iv2 rfl (fun f S'=>rfl) (sh 12 52 t [s0,s1] [s2,s3] S2 ht o1 o2 (by simp) (by simp)) hs) ?_
  rintro d S3 ⟨⟨w,hw,rfl⟩,gr⟩
  have h3:=gr.fru.fr (X:= []) p _ (by simp) hp
  have l3:=(List.getElem?_eq_some_iff.mp h3).1
  simp only[sat_aNil]
  rw[app_obj h3 (by simp),sat_ok]
  exact⟨w,hw,trivial,(iv2.grw gr).set np.2.1 np.2.2 np.1 _,by rw[List.getElem?_set_self l3];rfl⟩
 rintro e S3 ⟨w,hw,rfl,iv3,hp3⟩
 refine seq_rule (fun e S4=>∃p',p≠p'∧(e= [some (.scr ns),some (.obj n),a2,some t.d,some (.lst (t.spots.map pl)),some (.lst [s0.1,s1.1,s2.1,s3.1]),a6,a7,a8,some (.tup [s0.1,s1.1]),some (.tup [s2.1,s3.1]),some (.lst ((badT [s0,s1,s2,s3]).map .str)),a12,some (.obj p),some (.obj p'),a15,a16])∧Iv n m S4∧(p'≠0∧p'≠n∧p'≠m)∧S4[p]? =some (.lst [.str z, .str w])∧S4[p']? =some (.lst [.str z])) ?_ ?_
 ·rw[ssat_asg,sat_eN,sat_aCons]
  refine sat_mono (tolds (mm:=fun f=>eKw (kwK f 0 3 kbd_same_runs_0_others_ones_program_g) aNil (aCons (eVar 10) (aCons (eVar 9) (aCons (eVar 3) (aNil))))) (xs:= [t.d, .tup [s0.1,s1.1], .tup [s2.1,s3.1]]) iv3 rfl (fun f S'=>rfl) (sr 12 52 t [s0,s1] [s2,s3] S3 ht o1 o2 (by simp) (by simp)) hs) ?_
  rintro d S4 ⟨⟨z',hz',rfl⟩,gr⟩
  obtain rfl:=hz.uniq hz'
  have iv4:=iv3.grw gr
  have lt:=iv4.lt
  have h4:=gr.fru.fr (X:= []) p _ (by simp) hp3
  have l4:=(List.getElem?_eq_some_iff.mp h4).1
  simp only[sat_aNil,sat_mkObj,gName_eq,ssat_nx,List.set_cons_succ,List.set_cons_zero,List.length_cons,List.length_nil]
  exact⟨small (by omega),S4.length,by omega,rfl,iv4.grw ⟨_,rfl⟩,⟨by omega,by omega,by omega⟩,by rw[List.getElem?_append_left l4];exact h4,by simp⟩
 rintro e S4 ⟨p',hpp,rfl,iv4,np',hp4,hq4⟩
 refine seq_rule (fun e S5=>(e= [some (.scr ns),some (.obj n),a2,some t.d,some (.lst (t.spots.map pl)),some (.lst [s0.1,s1.1,s2.1,s3.1]),a6,a7,a8,some (.tup [s0.1,s1.1]),some (.tup [s2.1,s3.1]),some (.lst ((badT [s0,s1,s2,s3]).map .str)),a12,some (.obj p),some (.obj p'),a15,a16])∧Iv n m S5∧S5[p]? =some (.lst [.str z, .str w])∧S5[p']? =some (.lst [.str z, .str w])) ?_ ?_
 ·rw[ssat_sExpr,sat_eBM,sat_eVar]
  simp only[List.getElem?_cons_succ,List.getElem?_cons_zero]
  refine⟨by simp[mtD,hq4],?_⟩
  rw[sat_aCons]
  refine sat_mono (tolds (mm:=fun f=>eKw (kwK f 0 3 kbd_same_heaps_0_ones_others_program_g) aNil (aCons (eVar 9) (aCons (eVar 10) (aCons (eVar 3) (aNil))))) (xs:= [t.d, .tup [s0.1,s1.1], .tup [s2.1,s3.1]]) iv4 rfl (fun f S'=>rfl) (sh 12 52 t [s0,s1] [s2,s3] S4 ht o1 o2 (by simp) (by simp)) hs) ?_
  rintro d S5 ⟨⟨w',hw',rfl⟩,gr⟩
  obtain rfl:=hw.uniq hw'
  have h5:=gr.fru.fr (X:= []) p _ (by simp) hp4
  have q5:=gr.fru.fr (X:= []) p' _ (by simp) hq4
  have l5:=(List.getElem?_eq_some_iff.mp q5).1
  simp only[sat_aNil]
  rw[app_obj q5 (by simp),sat_ok]
  exact⟨trivial,(iv4.grw gr).set np'.2.1 np'.2.2 np'.1 _,by rw[List.getElem?_set_ne hpp.symm];exact h5,by rw[List.getElem?_set_self l5];rfl⟩
 rintro e S5 ⟨rfl,iv5,hp5,hq5⟩
 have ok2:∀s ∈ [z,w],PyData.strOk s=true:=by
  intro s h
  simp only[List.mem_cons,List.not_mem_nil,or_false] at h
  rcases h with rfl|rfl
  ·exact hz.ok hs
  ·exact hw.ok hs
 have hbe:=(badT_ne (S:=S5) gg).1
 have fin:=c_ok (ns:=ns) (a2:=a2) (a6:=a6) (a7:=a7) (a8:=a8) (a9:=some (.tup [s0.1,s1.1])) (a10:=some (.tup [s2.1,s3.1])) (a11:=some (.lst ((badT [s0,s1,s2,s3]).map .str))) (a12:=a12) (a13:=some (.obj p)) (a14:=some (.obj p')) (a15:=a15) (a16:=a16) okt g0 g1 g2 g3 iv5
 have fin':=ssat_mono (N':=fun e S1=>(∃ a5 a6 a7 a8 a9 a10 a11 a12 a13 a14 a15 a16:Option D,e= [some (.scr ns),some (.obj n),a2,some t.d,some (.lst (t.spots.map pl)),a5,a6,a7,a8,a9,a10,a11,a12,a13,a14,a15,a16])∧Iv n m S1) fin (by
  rintro e S6 ⟨⟨_,_,_,_,_,rfl⟩,iv6⟩
  exact⟨⟨_,_,_,_,_,_,_,_,_,_,_,_,rfl⟩,iv6⟩) (fun _ _ h=>h) (fun _ _ h=>h) (fun _ _ h=>h)
 rw[ssat_seq,ssat_if]
 simp only[sat_tOr,sat_tAnd,sat_tOfE,sat_e2,sat_eN,sat_aNil,sat_mkLst,sat_eVar,List.getElem?_cons_succ,List.getElem?_cons_zero,List.length_nil]
 rw[ne_txts (a:= [z,w]) (b:= [z,w]) (deref_obj hp5) (deref_obj hq5) ok2 ok2,sat_ok,blD_bl,sat_ok,show(!decide ([z,w] = [z,w]))=false by simp,if_neg Bool.false_ne_true]
 refine⟨small (by omega),?_⟩
 rw[hbe,sat_ok,blD_bl,sat_ok]
 cases hb:badT [s0,s1,s2,s3] with
 |nil=>
  rw[show (!([] :List Str).isEmpty)=false from rfl,if_neg Bool.false_ne_true,if_neg Bool.false_ne_true,ssat_skip]
  rw[hb] at fin'
  exact fin'
 |cons z0 r=>
  obtain⟨x,r',e1,e2⟩:=badT_cons hb
  have h1:=hz.bad e1
  have h2:=hw.bad e1
  rw[← e2] at h1 h2
  rw[show (!(z0::r).isEmpty)=true from rfl,if_pos rfl]
  simp only[sat_aCons,sat_aNil,sat_e2,sat_eK,sat_eVar,List.getElem?_cons_succ,List.getElem?_cons_zero,List.length_cons,List.length_nil]
  rw[show ixD (.lst ((z0::r).map .str)) (.int 0) S5= .ok (.str z0) S5 by simp[ixD,asL,atI,ixN],sat_ok]
  rw[show (Str.ofString "none: ")=nP from rfl,add_nPT gg hb S5,sat_ok]
  refine⟨small (by omega),?_⟩
  have hm:mulD (.lst [.str (nP++z0)]) (.int 2) S5= .ok (.lst (([z,w] :List Str).map .str)) S5:=by
   simp only[mulD,asL]
   rw[if_pos ⟨by decide,by decide,small (by simp)⟩,h1,h2]
   rfl
  rw[hm,sat_ok,ne_txts (a:= [z,w]) (b:= [z,w]) (deref_obj hp5) rfl ok2 ok2,sat_ok,blD_bl,sat_ok,show(!decide ([z,w] = [z,w]))=false by simp,if_neg Bool.false_ne_true,ssat_skip]
  rw[hb] at fin'
  exact fin'
end K18
namespace K18
open PySem L2 L3 L3.Od
local macro_rules| `(tactic| open_k)=> `(tactic| simp only[ssat_seq,ssat_asg,ssat_sRet,ssat_sExpr,ssat_if,ssat_skip,ssat_par,ssat_nx,ssat_ret,ssat_for,sat_e2,sat_e1,sat_eN,sat_aCons,sat_aNil,sat_eVar,sat_eK,sat_tOfE,sat_tTruth,sat_tNot,sat_tAnd,sat_tOr,sat_eIf,sat_eBM,sat_iSeq,sat_iArgs,sat_eAnd,sat_eOr,sat_eNot,sat_eChain,sat_eSl,sat_pNo,sat_pYes,sat_eLc,sat_eKw,sat_mkTup,sat_mkLst,sat_mkObj,sat_ok,callK_eq,List.append_nil,List.map_cons,List.map_nil,List.length_cons,List.length_nil,List.replicate,List.getElem?_cons_succ,List.getElem?_cons_zero,List.cons_append,List.nil_append,List.set_cons_succ,List.set_cons_zero,gName_eq,gTup_tup,gNames_cons,gNames_nil,Nat.zero_add,Nat.reduceAdd,Nat.reduceSub,sz0,sz1,sz2,sz3,sz4,sz5,sz6,sz7,sz8,sz10,sz17,true_and,add_int,sub_int,neg_int,lt_int,le_int,gt_int,ge_int,eq_int,ne_int,blD_bl,truthD_bl,itemsD_lst,itemsD_tup,wipeD,eq_strs,ne_strs,L3.sl_tup,L3.sl_lst,if_true,if_false,Bool.false_eq_true,sat_range1,sat_range2,tuple_lst,tuple_tup,len_tup,len_lst,len_scr,D.int.injEq,exists_eq_left',mt_str,sat_eMeth,sat_mkIns,ssat_fldD,gSeq_lst,ssat_gSub,sat_eDc,sat_eBackT])
variable {S S':Store} {n m:Nat}
theorem set_at {q:Nat} {l:List D} {d:D} {j:Nat} (h:S[q]? =some (.lst l)) (hl:j<l.length):setD (.obj q) (.int (j:Int)) d S=some (S.set q (.lst (l.set j d))):=by
 have:ixN l.length (j:Int)=some j:=by
  unfold ixN
  rw[if_pos (by omega),if_pos (by omega)];simp
 simp only[setD,h,this]
def Four (t:Tm) (p:Nat) (S:Store):Prop:=∃ss:List Spo,ss.length=4∧(∀ s ∈ ss,GSp t s)∧S[p]? =some (.lst (ss.map (·.1)))
theorem Four.fr {t:Tm} {p:Nat} {X:List Nat} (h:Four t p S) (f:FrU X S S') (hp:p ∉ X):Four t p S':=by
 obtain⟨ss,h1,h2,h3⟩:=h
 exact⟨ss,h1,h2,f.fr p _ hp h3⟩
theorem law_true (ns:List Int) (h:ns.length≤63):∃S,Fs 70 27 [.scr ns] [.tab "law" ((("law":Str)++ ".<locals>.")++ "<lambda>")] = .ok (.bl true) S:=by
 suffices q:(Fs 70 27 [.scr ns] [TAB]).sat fun d S=>d= .bl true by
  obtain⟨d,S,e,rfl⟩:=sat_ex.mp q
  exact⟨S,e⟩
 rw[show (70:Nat)=69+1 from rfl,Fs_law,sat_run]
 refine⟨rfl,?_⟩
 unfold m_law
 simp only[List.map_cons,List.map_nil,List.cons_append,List.nil_append,List.length_cons,List.length_nil,List.replicate,Nat.zero_add,Nat.reduceAdd,Nat.reduceSub]
 refine seq_rule (fun e S1=>∃n m,e= [some (.scr ns),some (.obj n),none,none,none,none,none,none,none,none,none,none,none,none,none,none,none] ∧Iv n m S1) ?_ ?_
 ·open_k
  refine sat_mono (pu 68 ns TAB h) ?_
  rintro d S1 ⟨n,m,rfl,hn,hm,hp,h0⟩
  exact⟨n,m,rfl,hp,hn,hm,h0⟩
 rintro e S1 ⟨n,m,rfl,iv1⟩
 refine seq_rule (fun e S1=>True) ?_ ?_
 ·rw[ssat_for]
  open_k
  obtain⟨mn,emn⟩:∃j:Int,(j≤3)∧∀S,minD [.int 3, .int (ns.length:Nat)] S= .ok (.int j) S:=by
   refine⟨if((ns.length:Nat):Int)<3 then((ns.length:Nat):Int) else 3,by split<;>omega,fun S=>rfl⟩
  rw[emn.2,sat_ok]
  obtain⟨mx,emx⟩:∃j:Int,(1≤j∧j≤3)∧∀S,maxD [.int 1, .int mn] S= .ok (.int j) S:=by
   refine⟨if mn>1 then mn else 1,by split<;>omega,fun S=>rfl⟩
  rw[emx.2,sat_ok]
  open_k
  refine⟨by simp[okRng];omega,?_⟩
  refine for_n (fun e S2=>(∃ a2 a3 a4 a5 a6 a7 a8 a9 a10 a11 a12 a13 a14 a15 a16:Option D,e= [some (.scr ns),some (.obj n),a2,a3,a4,a5,a6,a7,a8,a9,a10,a11,a12,a13,a14,a15,a16])∧Iv n m S2) ⟨⟨_,_,_,_,_,_,_,_,_,_,_,_,_,_,_,rfl⟩,iv1⟩ ?_ (fun _ _ _=>trivial)
  rintro x hx e S2 ⟨⟨a2,a3,a4,a5,a6,a7,a8,a9,a10,a11,a12,a13,a14,a15,a16,rfl⟩,iv2⟩
  simp only[List.set_cons_succ,List.set_cons_zero]
  refine seq_rule (fun e S3=>∃t:Tm,OkC t∧e= [some (.scr ns),some (.obj n),some x,some t.d,a4,a5,a6,a7,a8,a9,a10,a11,a12,a13,a14,a15,a16] ∧Iv n m S3) ?_ ?_
  ·open_k
   refine sat_mono (pr 57 n m S2 iv2.pu) ?_
   rintro d S3 ⟨t,rfl,gt,zt,dt,fr3,pu3⟩
   refine sat_mono (co 19 n m t S3 pu3 ⟨gt,zt,dt⟩) ?_
   rintro d S4 ⟨u,rfl,oku,fr4,pu4⟩
   exact⟨u,oku,rfl,(iv2.fr fr3 pu3).fr fr4 pu4⟩
  rintro e S3 ⟨t,okt,rfl,iv3⟩
  have hz:=okt.2.1
  have hd:=okt.2.2
  have hsl:=Tm.spots_len t
  have hsp:=Tm.size_pos t
  refine step_asg (S1:=S3) (S2:=S3) (d:= .lst (t.spots.map pl)) (of_sat (by open_k;rw[pls 12 56 t S3 (by omega) (by omega),sat_ok];exact⟨rfl,rfl⟩)) rfl ?_
  simp only[List.set_cons_succ,List.set_cons_zero]
  refine seq_rule (fun e S4=>∃(p:Nat) (a6:Option D),e= [some (.scr ns),some (.obj n),some x,some t.d,some (.lst (t.spots.map pl)),some (.obj p),a6,a7,a8,a9,a10,a11,a12,a13,a14,a15,a16] ∧Iv n m S4∧(p≠0∧p≠n∧p≠m)∧Four t p S4) ?_ ?_
  ·simp only[ssat_asg,sat_eLcN,sat_iArgs,sat_aCons,sat_aNil,sat_eK]
   rw[sat_range1]
   refine⟨by decide,small (by simp),?_⟩
   have lt:=iv3.lt
   refine lcN_acc (ev:=fun y=>(wipeD [some (.scr ns),some (.obj n),some x,some t.d,some (.lst (t.spots.map pl)),a5,a6,a7,a8,a9,a10,a11,a12,a13,a14,a15,a16] [6]).set 6 (some y)) (fun acc S4=>Iv n m S4∧∃ss:List Spo,acc=ss.map (·.1)∧∀s ∈ ss,GSp t s) (acc:= []) (fun x _ S=>rfl) (by simp) (by simp) ⟨iv3.grw ⟨_,rfl⟩,[],rfl,by simp⟩ ?_ ?_
   ·rintro y hy acc S4 ⟨iv4,ss,rfl,hss⟩ hq
    simp only[wipeD,sat_e2,sat_eN,sat_aCons,sat_aNil,sat_eVar,List.set_cons_succ,List.set_cons_zero,List.getElem?_cons_succ,List.getElem?_cons_zero,callK_eq,List.append_nil,len_lst,sat_ok]
    refine sat_mono (pk 68 n m S4 _ iv4.pu (by rw[List.length_map];omega) (by rw[List.length_map];omega)) ?_
    rintro d S5 ⟨⟨j,rfl,j0,j1⟩,fr5,pu5⟩
    obtain⟨z,hz',ez⟩:=ixm j0 j1
    rw[ez,sat_ok]
    obtain⟨q,u,rfl,hqu⟩:=vp_spots z hz'
    refine⟨fr5.fr _ _ (by simp;omega) hq,((iv4.fr fr5 pu5).set (by omega) (by omega) (by omega) _),ss++ [(pl q,some (cPl t q u))],by simp,fun s hs=> ?_⟩
    rcases List.mem_append.mp hs with hs|hs
    ·exact hss s hs
    ·rw[List.mem_singleton.mp hs];exact gsp_pl okt hqu
   ·rintro ys S4 hlen ⟨iv4,ss,e,hss⟩ hq
    rw[List.nil_append] at e hq
    subst e
    simp only[gName_eq,ssat_nx,List.set_cons_succ,List.set_cons_zero]
    refine⟨S3.length,_,rfl,iv4,⟨by omega,by omega,by omega⟩,ss,?_,hss,hq⟩
    simpa using hlen
  rintro e S4 ⟨p,b6,rfl,iv4,np,f4⟩
  refine seq_rule (fun e S5=>∃(a7 a8:Option D),e= [some (.scr ns),some (.obj n),some x,some t.d,some (.lst (t.spots.map pl)),some (.obj p),b6,a7,a8,a9,a10,a11,a12,a13,a14,a15,a16] ∧Iv n m S5∧Four t p S5) ?_ ?_
  ·rw[ssat_for,sat_iArgs]
   simp only[sat_aCons,sat_aNil,sat_eN,sat_eVar,sat_eK,List.getElem?_cons_succ,List.getElem?_cons_zero,callK_eq,List.append_nil]
   refine sat_mono (pk 68 n m S4 3 iv4.pu (by decide) (by decide)) ?_
   rintro d S5 ⟨⟨i,rfl,i0,i1⟩,fr5,pu5⟩
   rw[sat_range1]
   refine⟨by unfold okRng;simp;omega,?_⟩
   refine for_n (fun e S6=>(∃ (a7 a8:Option D),e= [some (.scr ns),some (.obj n),some x,some t.d,some (.lst (t.spots.map pl)),some (.obj p),b6,a7,a8,a9,a10,a11,a12,a13,a14,a15,a16])∧Iv n m S6∧Four t p S6) ⟨⟨_,_,rfl⟩,iv4.fr fr5 pu5,f4.fr fr5 (by simp[np])⟩ ?_ (fun e S ⟨⟨a7,a8,he⟩,h1,h2⟩=>⟨a7,a8,he,h1,h2⟩)
   rintro y hy e S6 ⟨⟨c7,c8,rfl⟩,iv6,f6⟩
   simp only[List.set_cons_succ,List.set_cons_zero]
   refine seq_rule (fun e S7=>∃j:Nat,j<4∧e= [some (.scr ns),some (.obj n),some x,some t.d,some (.lst (t.spots.map pl)),some (.obj p),b6,some y,some (.int (j:Int)),a9,a10,a11,a12,a13,a14,a15,a16] ∧Iv n m S7∧Four t p S7) ?_ ?_
   ·open_k
    refine sat_mono (pk 68 n m S6 4 iv6.pu (by decide) (by decide)) ?_
    rintro d S7 ⟨⟨j,rfl,j0,j1⟩,fr7,pu7⟩
    refine⟨j.toNat,by omega,?_,iv6.fr fr7 pu7,f6.fr fr7 (by simp[np])⟩
    rw[Int.toNat_of_nonneg j0]
   rintro e S7 ⟨j,j4,rfl,iv7,f7⟩
   rw[ssat_asg]
   simp only[sat_eN,sat_aCons,sat_aNil,sat_e2,sat_eVar,List.getElem?_cons_succ,List.getElem?_cons_zero,callK_eq,List.append_nil,len_lst,sat_ok]
   refine sat_mono (pk 68 n m S7 _ iv7.pu (by rw[List.length_map];omega) (by rw[List.length_map];omega)) ?_
   rintro d S8 ⟨⟨j',rfl,j0,j1⟩,fr8,pu8⟩
   obtain⟨z,hz',ez⟩:=ixm j0 j1
   rw[ez,sat_ok]
   obtain⟨q,u,rfl,hqu⟩:=vp_spots z hz'
   have hqd:=Tm.at_dep hqu
   refine sat_mono (odd_ok 67 (q:=q) pu8 (by omega)) ?_
   rintro d S9 ⟨od,fr9,pu9⟩
   have iv9:=(iv7.fr fr8 pu8).fr fr9 pu9
   obtain⟨ss,l4,gs,hS⟩:=(f7.fr fr8 (by simp[np])).fr fr9 (by simp[np])
   rw[ssat_gSub]
   simp only[sat_eVar,List.getElem?_cons_succ,List.getElem?_cons_zero]
   have hpl:=(List.getElem?_eq_some_iff.mp hS).1
   refine⟨_,set_at hS (by rw[List.length_map];omega),⟨_,_,rfl⟩,iv9.set np.2.1 np.2.2 np.1 _,ss.set j (d,none),by simp[l4],fun s hs=> ?_,?_⟩
   ·rcases List.mem_or_eq_of_mem_set hs with hs|rfl
    ·exact gs s hs
    ·exact gsp_odd okt hqu od
   ·rw[List.getElem?_set_self hpl,List.map_set]
  rintro e S5 ⟨b7,b8,rfl,iv5,ss,l4,gs,hS⟩
  obtain⟨s0,s1,s2,s3,rfl⟩:∃s0 s1 s2 s3,ss= [s0,s1,s2,s3] :=by
   match ss,l4 with
   | [a,b,c,d],_=>exact⟨a,b,c,d,rfl⟩
  refine seq_rule (fun e S6=>e= [some (.scr ns),some (.obj n),some x,some t.d,some (.lst (t.spots.map pl)),some (.lst [s0.1,s1.1,s2.1,s3.1]),b6,b7,b8,some (.tup [s0.1,s1.1]),some (.tup [s2.1,s3.1]),a11,a12,a13,a14,a15,a16] ∧Iv n m S6) ?_ ?_
  ·have hfz:frzD (.obj p) S5= .ok (.lst [s0.1,s1.1,s2.1,s3.1]) (S5.set p .dead):=by
    unfold frzD
    simp only[hS]
    rfl
   have key:∀m':SD,sFrz 5 m' [some (.scr ns),some (.obj n),some x,some t.d,some (.lst (t.spots.map pl)),some (.obj p),b6,b7,b8,a9,a10,a11,a12,a13,a14,a15,a16] S5=m' [some (.scr ns),some (.obj n),some x,some t.d,some (.lst (t.spots.map pl)),some (.lst [s0.1,s1.1,s2.1,s3.1]),b6,b7,b8,a9,a10,a11,a12,a13,a14,a15,a16] (S5.set p .dead):=fun m'=>by
    unfold sFrz
    simp only[List.getElem?_cons_succ,List.getElem?_cons_zero,hfz,List.set_cons_succ,List.set_cons_zero]
   rw[key,ssat_asg]
   have c1:cutL [s0.1,s1.1,s2.1,s3.1] none (some 2)= [s0.1,s1.1] :=by
    have:=cutL_lo (l:= [s0.1,s1.1,s2.1,s3.1]) (i:=2) (by simp)
    simpa using this
   have c2:cutL [s0.1,s1.1,s2.1,s3.1] (some 2) none= [s2.1,s3.1] :=by
    have:=cutL_hi (l:= [s0.1,s1.1,s2.1,s3.1]) (i:=2) (by simp)
    simpa using this
   open_k
   rw[c1,c2]
   refine⟨rfl,iv5.set np.2.1 np.2.2 np.1 _⟩
  rintro e S6 ⟨rfl,iv6⟩
  have g0:=gs s0 (by simp)
  have g1:=gs s1 (by simp)
  have g2:=gs s2 (by simp)
  have g3:=gs s3 (by simp)
  refine ssat_mono (a_ok (ns:=ns) okt g0 g1 g2 g3 iv6) ?_ (fun _ _ h=>h.elim) (fun _ _ h=>h.elim) (fun _ _ h=>h.elim)
  rintro e S7 ⟨⟨c5,c6,c7,c8,c9,c10,c11,c12,c13,c14,c15,c16,rfl⟩,iv7⟩
  exact⟨⟨_,_,_,_,_,_,_,_,_,_,_,_,_,_,_,rfl⟩,iv7⟩
 intro e S2 _
 rw[ssat_sRet,sat_eK]
end K18
open PySem PySem.W PyProof.Rows in
set_option maxRecDepth 100000 in
theorem PySem.Challenge.cw_holepatterns_k18_no_places_and_names_holds : PySem.Challenge.rw_holepatterns_k18_no_places_and_names.Holds := by
 w_on;o_law;k_head;(case hw=>w_witness2)
 k_fill
 refine L3.walkT (l:=PySem.Challenge.rw_holepatterns_k18_no_places_and_names) (k:=(L3.lw 70)) (x:= "_law_script") "law" rfl (by decide +kernel) rfl ⟨rfl,by decide,by decide⟩ (by decide +kernel) (fun w h Y=>by first|exact PySem.W.kIn_of Y|exact PySem.W.km_in_of Y) ?F
 case F=>
  intro w mg fa h KX G hmg
  refine' K18.all_mk KX G hmg K18.law_true ?a_Halted ?sb_Halted ?hd_Halted ?ty_Halted ?a_Missing ?sb_Missing ?hd_Missing ?ty_Missing ?a_NoName ?sb_NoName ?hd_NoName ?ty_NoName ?a_NoNumber ?sb_NoNumber ?hd_NoNumber ?ty_NoNumber ?a_NoPlace ?sb_NoPlace ?hd_NoPlace ?ty_NoPlace ?kp_NoPlace ?in_NoPlace ?ov_NoPlace ?sa_NoPlace ?ga_NoPlace ?gg_NoPlace ?cl_NoPlace ?mr_NoPlace ?xn_NoPlace ?a_Refused ?sb_Refused ?hd_Refused ?ty_Refused ?sp_class ?tk_class ?xs_NoPlace__Halted ?xs_NoPlace__LookupError ?xs_NoPlace__Missing ?xs_NoPlace__NoName ?xs_NoPlace__NoNumber ?xs_NoPlace__NoPlace ?xs_NoPlace__Refused ?a_is_whole ?l_is_whole ?c_is_whole ?k_is_whole ?a_is_number ?l_is_number ?c_is_number ?k_is_number ?w_is_number_high ?w_is_number_low ?a_at ?l_at ?c_at ?k_at ?a_name_form ?l_name_form ?c_name_form ?k_name_form ?a_form_by ?l_form_by ?c_form_by ?k_form_by ?a_around ?l_around ?c_around ?k_around ?a_form_at ?l_form_at ?c_form_at ?k_form_at ?a_form_of ?l_form_of ?c_form_of ?k_form_of ?a_are_alike ?l_are_alike ?c_are_alike ?k_are_alike ?a_same_at ?l_same_at ?c_same_at ?k_same_at ?a_same_runs ?l_same_runs ?c_same_runs ?k_same_runs ?a_same_heaps ?l_same_heaps ?c_same_heaps ?k_same_heaps ?a_law_purse ?l_law_purse ?c_law_purse ?k_law_purse ?a_law_pick ?l_law_pick ?c_law_pick ?k_law_pick ?a_law_thing ?l_law_thing ?c_law_thing ?k_law_thing ?a_law_program ?l_law_program ?c_law_program ?k_law_program ?a_law_free ?l_law_free ?c_law_free ?k_law_free ?a_law_turned ?l_law_turned ?c_law_turned ?k_law_turned ?a_law_places ?l_law_places ?c_law_places ?k_law_places ?a_law_at ?l_law_at ?c_law_at ?k_law_at ?a_law_put ?l_law_put ?c_law_put ?k_law_put ?a_law_count ?l_law_count ?c_law_count ?k_law_count ?a_law_deep ?l_law_deep ?c_law_deep ?k_law_deep ?a_law_copied ?l_law_copied ?c_law_copied ?k_law_copied ?a_law_odd ?l_law_odd ?c_law_odd ?k_law_odd ?a_law_told ?l_law_told ?c_law_told ?k_law_told ?a_law_is_none ?l_law_is_none ?c_law_is_none ?k_law_is_none ?a_law ?l_law ?c_law ?k_law ?lamC ?lamO ?lamT ?lamH ?lamN ?xc_NoPlace ?xt_NoPlace ?l_NoPlace___init__ ?c_NoPlace___init__ ?k_NoPlace___init__ ?z_LookupError ?z_abs ?z_bool ?z_dict ?z_enumerate ?z_int ?z_isinstance ?z_len ?z_list ?z_max ?z_min ?z_range ?z_repr ?z_reversed ?z_sorted ?z_str ?z_sum ?z_tuple ?x_FREE_ORDER ?l_FREE_ORDER ?x_GIVERS ?l_GIVERS
  (case a_Halted=>k_is)
  (case sb_Halted=>k_is)
  (case hd_Halted=>k_is)
  (case ty_Halted=>k_is)
  (case a_Missing=>k_is)
  (case sb_Missing=>k_is)
  (case hd_Missing=>k_is)
  (case ty_Missing=>k_is)
  (case a_NoName=>k_is)
  (case sb_NoName=>k_is)
  (case hd_NoName=>k_is)
  (case ty_NoName=>k_is)
  (case a_NoNumber=>k_is)
  (case sb_NoNumber=>k_is)
  (case hd_NoNumber=>k_is)
  (case ty_NoNumber=>k_is)
  (case a_NoPlace=>k_is)
  (case sb_NoPlace=>k_is)
  (case hd_NoPlace=>k_is)
  (case ty_NoPlace=>k_is)
  (case kp_NoPlace=>k_is)
  (case in_NoPlace=>kx_is)
  (case ov_NoPlace=>kx_is)
  (case sa_NoPlace=>k_is)
  (case ga_NoPlace=>k_is)
  (case gg_NoPlace=>k_is)
  (case cl_NoPlace=>k_is)
  (case mr_NoPlace=>k_is)
  (case xn_NoPlace=>k_is)
  (case a_Refused=>k_is)
  (case sb_Refused=>k_is)
  (case hd_Refused=>k_is)
  (case ty_Refused=>k_is)
  (case sp_class=>k_is)
  (case tk_class=>k_is)
  (case xs_NoPlace__Halted=>k_is)
  (case xs_NoPlace__LookupError=>k_is)
  (case xs_NoPlace__Missing=>k_is)
  (case xs_NoPlace__NoName=>k_is)
  (case xs_NoPlace__NoNumber=>k_is)
  (case xs_NoPlace__NoPlace=>k_is)
  (case xs_NoPlace__Refused=>k_is)
  (case a_is_whole=>k_is)
  (case l_is_whole=>k_is)
  (case c_is_whole=>k_is)
  (case k_is_whole=>k_is)
  (case a_is_number=>k_is)
  (case l_is_number=>k_is)
  (case c_is_number=>k_is)
  (case k_is_number=>k_is)
  (case w_is_number_high=>k_is)
  (case w_is_number_low=>k_is)
  (case a_at=>k_is)
  (case l_at=>k_is)
  (case c_at=>k_is)
  (case k_at=>k_is)
  (case a_name_form=>k_is)
  (case l_name_form=>k_is)
  (case c_name_form=>k_is)
  (case k_name_form=>k_is)
  (case a_form_by=>k_is)
  (case l_form_by=>k_is)
  (case c_form_by=>k_is)
  (case k_form_by=>k_is)
  (case a_around=>k_is)
  (case l_around=>k_is)
  (case c_around=>k_is)
  (case k_around=>k_is)
  (case a_form_at=>k_is)
  (case l_form_at=>k_is)
  (case c_form_at=>k_is)
  (case k_form_at=>k_is)
  (case a_form_of=>k_is)
  (case l_form_of=>k_is)
  (case c_form_of=>k_is)
  (case k_form_of=>k_is)
  (case a_are_alike=>k_is)
  (case l_are_alike=>k_is)
  (case c_are_alike=>k_is)
  (case k_are_alike=>k_is)
  (case a_same_at=>k_is)
  (case l_same_at=>k_is)
  (case c_same_at=>k_is)
  (case k_same_at=>k_is)
  (case a_same_runs=>k_is)
  (case l_same_runs=>k_is)
  (case c_same_runs=>k_is)
  (case k_same_runs=>k_is)
  (case a_same_heaps=>k_is)
  (case l_same_heaps=>k_is)
  (case c_same_heaps=>k_is)
  (case k_same_heaps=>k_is)
  (case a_law_purse=>k_is)
  (case l_law_purse=>k_is)
  (case c_law_purse=>k_is)
  (case k_law_purse=>k_is)
  (case a_law_pick=>k_is)
  (case l_law_pick=>k_is)
  (case c_law_pick=>k_is)
  (case k_law_pick=>k_is)
  (case a_law_thing=>k_is)
  (case l_law_thing=>k_is)
  (case c_law_thing=>k_is)
  (case k_law_thing=>k_is)
  (case a_law_program=>k_is)
  (case l_law_program=>k_is)
  (case c_law_program=>k_is)
  (case k_law_program=>k_is)
  (case a_law_free=>k_is)
  (case l_law_free=>k_is)
  (case c_law_free=>k_is)
  (case k_law_free=>k_is)
  (case a_law_turned=>k_is)
  (case l_law_turned=>k_is)
  (case c_law_turned=>k_is)
  (case k_law_turned=>k_is)
  (case a_law_places=>k_is)
  (case l_law_places=>k_is)
  (case c_law_places=>k_is)
  (case k_law_places=>k_is)
  (case a_law_at=>k_is)
  (case l_law_at=>k_is)
  (case c_law_at=>k_is)
  (case k_law_at=>k_is)
  (case a_law_put=>k_is)
  (case l_law_put=>k_is)
  (case c_law_put=>k_is)
  (case k_law_put=>k_is)
  (case a_law_count=>k_is)
  (case l_law_count=>k_is)
  (case c_law_count=>k_is)
  (case k_law_count=>k_is)
  (case a_law_deep=>k_is)
  (case l_law_deep=>k_is)
  (case c_law_deep=>k_is)
  (case k_law_deep=>k_is)
  (case a_law_copied=>k_is)
  (case l_law_copied=>k_is)
  (case c_law_copied=>k_is)
  (case k_law_copied=>k_is)
  (case a_law_odd=>k_is)
  (case l_law_odd=>k_is)
  (case c_law_odd=>k_is)
  (case k_law_odd=>k_is)
  (case a_law_told=>k_is)
  (case l_law_told=>k_is)
  (case c_law_told=>k_is)
  (case k_law_told=>k_is)
  (case a_law_is_none=>k_is)
  (case l_law_is_none=>k_is)
  (case c_law_is_none=>k_is)
  (case k_law_is_none=>k_is)
  (case a_law=>k_is)
  (case l_law=>k_is)
  (case c_law=>k_is)
  (case k_law=>k_is)
  (case lamC=>rfl)
  (case lamO=>k_is)
  (case lamT=>rfl)
  (case lamH=>kernel_rfl)
  (case lamN=>kernel_rfl)
  (case xc_NoPlace=>k_is)
  (case xt_NoPlace=>k_is)
  (case l_NoPlace___init__=>k_is)
  (case c_NoPlace___init__=>k_is)
  (case k_NoPlace___init__=>k_is)
  (case z_LookupError=>k_is)
  (case z_abs=>k_is)
  (case z_bool=>k_is)
  (case z_dict=>k_is)
  (case z_enumerate=>k_is)
  (case z_int=>k_is)
  (case z_isinstance=>k_is)
  (case z_len=>k_is)
  (case z_list=>k_is)
  (case z_max=>k_is)
  (case z_min=>k_is)
  (case z_range=>k_is)
  (case z_repr=>k_is)
  (case z_reversed=>k_is)
  (case z_sorted=>k_is)
  (case z_str=>k_is)
  (case z_sum=>k_is)
  (case z_tuple=>k_is)
  (case x_FREE_ORDER=>k_is)
  (case l_FREE_ORDER=>k_is)
  (case x_GIVERS=>k_is)
  (case l_GIVERS=>k_is)
