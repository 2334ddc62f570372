import PyProof.Rows.All
import Wide.All
import OpenK.AllK
import Wide.FinOn
import HandS.Base
import HandS.Call
import HandS.List
import HandS.Comp
import HandS.Dict
import HandS.Iter
import HandS.Text
import HandS.Exc
import HandS.Ends
import HandS.Words
import HandS.WordsExc
import HandS.ExcOwn
import HandS.CallSlots
import HandS.CallLocal
import HandS.Defaults
import HandS.IsInst
import HandS.TupAny
import HandS.DictComp
import HandS.Style
import HandS.Wide
import HandS.TryOnly
import HandS.More
import HandS.Deep
import KE.KeyNested
import KE.KDictKeyed
import HandS.Lambda
import KE.KNestM
import PyProof.StrOps2
import HandS.Small
import HandS.RaiseMore
import PyProof.ReprRoads
import PyProof.CallFns
import PyProof.DictUpdate
import KE.GoesEnum
import KE.KUnpackStar
import HandS.ListItems
import HandS.Zip
import HandS.RevTup
import KE.KDictZip
import KE.KExcInit
import HandS.ExcInit
import KE.KTryMore
import HandS.ExcField
import KE.KExcIs
import KE.SortData
import HandS.SortRule
import HandS.MakeKwOnly
import HandS.Conv
import KE.DataFind
import KE.KDictPairs
import KE.KDictOf
import HandS.TupMul
import HandS.StrMore
import KE.KItemsList
import HandS.DictTup
import HandS.SetKeys
import HandS.SetFor
import PyProof.EqKinds
import HandS.DictEq
import PyProof.CallStr
import PyProof.Rows.IntBool
import PyProof.NeKinds
import HandS.Rev
import HandS.FStr
import HandS.TupSets
import KE.GoesSet
import KE.KDictWalk
import KE.KMinKey
import KE.KDictList
import HandS.SortKw
import KE.KDictSum
import PyProof.DictFindH
import PyProof.Rows.ReprOcc
import HandS.Codes
import PySem.Challenge.RW_holepatterns_k60_lean_rules
set_option maxHeartbeats 4000000
set_option Elab.async false
set_option linter.all false
set_option maxRecDepth 100000
namespace L3
open PySem PySem.Spec PyProof.Rows L2
abbrev NRow:=NestedKey × Addr × V
abbrev NVal:=NestedKey × Addr × Value
def PrN (rows:List NRow) (xs:List NVal):Prop:=Paired (fun(r:NRow) (x:NVal)=>r.1=x.1∧r.2.1=x.2.1∧RelV r.2.2 x.2.2) rows xs
def entN (w:World) (x:NVal):DictEntry:=⟨x.1.hash w, .ref x.2.1,x.2.2⟩
def RawN (w:World) (h:Heap) (a:Addr) (xs:List NVal):Prop:=∃o es ep,h.get? a=some o∧o.ExactDict∧o.data= .dict es ep∧es.toList=xs.map (entN w)∧(xs.map (·.1)).Nodup
def ObNP (w:World) (a:Addr) (rows:List NRow) (h:Heap):Prop:=(a==sysModules)=false∧rows.length≤sizeLine∧∃xs,PrN rows xs∧RawN w h a xs
def ObN (w:World) (a:Addr) (rows:List NRow):HO:= .ext (ObNP w a rows)
end L3
namespace L3
open PySem
structure LamTok where
 f:Addr
 c:Addr
 q:Str
 ids:List Nat
 vs:List L2.V
inductive D where
 |non|bl (b:Bool)|int (i:Int)|str (s:Str)|tup (l:List D)|lst (l:List D)
 |dic (ks:List L2.Key) (l:List D)|obj (n:Nat)|glb (x:Str)|ty (n:String)|scr (l:List Int)|kd (ks:List Str) (l:List D)
 /-- an exception that was caught: its class,its fields -/
 |xcp (c:Str) (ks:List Str) (l:List D)
 /-- a tuple of whole numbers that stands in the text -/
 |wtp (l:List Int)
 /-- a lambda,as it is handed to a def;what its names stood for when it was made -/
 |lam (t:LamTok) (l:List D)
deriving Inhabited
inductive O where
 |lst (l:List D)|dK (l:List (L2.Key × D))|dT (l:List (List L2.Key × D))|dN (l:List (PySem.NestedKey × D))|ins (c:Str) (fs:List (Str × D))|ptp (l:List D)|lkd (l:List (L2.Key × D))|dead
 /-- the table of code objects of a def that makes lambdas: the def,the lambdas' name -/
 |tab (x q:Str)
abbrev Store:=List O
structure Ex where
 cls:Str
 fs:List (Str × D)
inductive R (α :Type) where
 |ok (a: α) (S:Store)|exc (e:Ex) (S:Store)|bad
@[reducible] def R.bind {α β :Type} (r:R α) (f: α →Store→R β):R β :=
  match r with
  | .ok a S=>f a S
  | .exc e S=> .exc e S
  | .bad=> .bad
abbrev EnvD:=List (Option D)
abbrev ED:=EnvD→Store→R D
abbrev TD:=EnvD→Store→R Bool
abbrev AD:=EnvD→Store→R (List D)
inductive SR where
 |nx (env:EnvD) (S:Store)|ret (d:D) (S:Store)|brk (env:EnvD) (S:Store)|ct (env:EnvD) (S:Store)|exc (e:Ex) (env:EnvD) (S:Store)|bad
abbrev SD:=EnvD→Store→SR
def R.toS {α :Type} (env:EnvD) (r:R α) (k: α →Store→SR):SR:=
 match r with
 | .ok a S=>k a S
 | .exc e S=> .exc e env S
 | .bad=> .bad
def eVar (i:Nat):ED:=fun env S=>match env[i]? with
 |some (some d)=> .ok d S
 | _=> .bad
def eK (d:D):ED:=fun _ S=> .ok d S
abbrev F1:=D→Store→R D
abbrev F2:=D→D→Store→R D
abbrev FN:=List D→Store→R D
def e1 (f:F1) (a:ED):ED:=fun env S=>(a env S).bind fun x S1=>f x S1
def e2 (f:F2) (a b:ED):ED:=fun env S=>(a env S).bind fun x S1=>(b env S1).bind fun y S2=>f x y S2
def aNil:AD:=fun _ S=> .ok [] S
def aCons (a:ED) (r:AD):AD:=fun env S=>(a env S).bind fun x S1=>(r env S1).bind fun xs S2=> .ok (x::xs) S2
def eN (f:FN) (a:AD):ED:=fun env S=>(a env S).bind fun xs S1=>f xs S1
def eIf (c:TD) (a b:ED):ED:=fun env S=>(c env S).bind fun k S1=>match k with
 |true=>a env S1
 |false=>b env S1
def tOfE (a:ED):TD:=fun env S=>(a env S).bind fun x S1=>match x with
 | .bl k=> .ok k S1
 | _=> .bad
def truthD (x:D) (S:Store):R Bool:=match x with
 | .bl k=> .ok k S
 | .non=> .ok false S
 | .int i=> .ok (i != 0) S
 | .str s=>if s.length≤sizeLine then .ok (s.length != 0) S else .bad
 | .tup l=> .ok (!l.isEmpty) S
 | .lst l=> .ok (!l.isEmpty) S
 | .obj n=>match S[n]? with
   |some (.lst l)=> .ok (!l.isEmpty) S
   | _=> .bad
 | _=> .bad
def tTruth (a:ED):TD:=fun env S=>(a env S).bind fun x S1=>truthD x S1
def tNot (a:TD):TD:=fun env S=>(a env S).bind fun k S1=> .ok (!k) S1
def tAnd (a b:TD):TD:=fun env S=>(a env S).bind fun k S1=>match k with
 |true=>b env S1
 |false=> .ok false S1
def tOr (a b:TD):TD:=fun env S=>(a env S).bind fun k S1=>match k with
 |true=> .ok true S1
 |false=>b env S1
def eNot (a:ED):ED:=fun env S=>(tOfE a env S).bind fun k S1=> .ok (.bl (!k)) S1
def eAnd (a b:ED):ED:=fun env S=>(tOfE a env S).bind fun k S1=>match k with
 |true=>b env S1
 |false=> .ok (.bl false) S1
def eOr (a b:ED):ED:=fun env S=>(tOfE a env S).bind fun k S1=>match k with
 |true=> .ok (.bl true) S1
 |false=>b env S1
def eChain (f g:F2) (a b c:ED):ED:=fun env S=>(a env S).bind fun x S1=>(b env S1).bind fun y S2=>(f x y S2).bind fun k S3=>match k with
 | .bl true=>(c env S3).bind fun z S4=>g y z S4
 | .bl false=> .ok (.bl false) S3
 | _=> .bad
def mkTup:FN:=fun xs S=>if xs.length≤sizeLine then .ok (.tup xs) S else .bad
def mkLst:FN:=fun xs S=>if xs.length≤sizeLine then .ok (.lst xs) S else .bad
def mkObj:FN:=fun xs S=>if xs.length≤sizeLine then .ok (.obj S.length) (S++ [.lst xs]) else .bad
def sSkip:SD:=fun env S=> .nx env S
def sSeq (a b:SD):SD:=fun env S=>match a env S with
 | .nx env1 S1=>b env1 S1
 |r=>r
def sIf (c:TD) (a b:SD):SD:=fun env S=>(c env S).toS env fun k S1=>match k with
 |true=>a env S1
 |false=>b env S1
def sRet (a:ED):SD:=fun env S=>(a env S).toS env fun d S1=> .ret d S1
def sExpr (a:ED):SD:=fun env S=>(a env S).toS env fun _ S1=> .nx env S1
def sBrk:SD:=fun env S=> .brk env S
def sCt:SD:=fun env S=> .ct env S
abbrev GD:=D→EnvD→Store→SR
def gName (i:Nat):GD:=fun d env S=> .nx (env.set i (some d)) S
def sAsg (a:ED) (g:GD):SD:=fun env S=>(a env S).toS env fun d S1=>g d env S1
def gNames:List Nat→List D→EnvD→Store→SR
 | [],[],env,S=> .nx env S
 |i::is,d::ds,env,S=>gNames is ds (env.set i (some d)) S
 | _,_,_,_=> .bad
def gTup (is:List Nat):GD:=fun d env S=>match d with
 | .tup l=>gNames is l env S
 | .wtp l=>gNames is (l.map D.int) env S
 | _=> .bad
def forL (g:GD) (body:SD):List D→EnvD→Store→SR
 | [],env,S=> .nx env S
 |x::xs,env,S=>match g x env S with
  | .nx env1 S1=>match body env1 S1 with
    | .nx env2 S2=>forL g body xs env2 S2
    | .ct env2 S2=>forL g body xs env2 S2
    | .brk env2 S2=> .nx env2 S2
    | .ret d S2=> .ret d S2
    | .exc e env2 S2=> .exc e env2 S2
    | .bad=> .bad
  | _=> .bad
def SR.fin:SR→R D
 | .nx _ S1=> .ok .non S1
 | .ret d S1=> .ok d S1
 | .exc e _ S1=> .exc e S1
 | _=> .bad
def run (np n:Nat) (body:SD):FN:=fun xs S=>if xs.length=np then(body (xs.map some++List.replicate (n-xs.length) none) S).fin else .bad
end L3
namespace L3
open PySem PySem.Spec PyProof.Rows L2
structure GC where
 K:PySem.W.Frag
 w:World
 mg:Str→Option Value
structure Wd where
 mu:List Addr
 S:Store
 H:Hp
 /-- lists and dicts that are being made around here: nothing refers to them -/
 tmp:List Addr
def O.live:O→Prop
 | .dead=>False
 | .ptp _=>False
 | .lkd _=>False
 | _=>True
def O.own:O→Prop
 | .ptp _=>False
 | _=>True
theorem O.live.own:∀ {o:O},o.live→o.own
 | .lst _,_=>trivial
 | .dK _,_=>trivial
 | .dT _,_=>trivial
 | .dN _,_=>trivial
 | .ins _ _,_=>trivial
 | .tab _ _,_=>trivial
def MutS (w:Wd) (a:Addr):Prop:=∃(n:Nat) (o:O),w.S[n]? =some o∧o.live∧w.mu[n]? =some a
def Mut (w:Wd) (a:Addr):Prop:=MutS w a∨a ∈ w.tmp
def Fz (w:Wd) (a:Addr) (u:HO):Prop:=Rd w.H a u∧¬Mut w a
def KT (K:PySem.W.Frag) (a:Addr) (xs:List V):Prop:=
 ∃(o:Obj) (its:Array Value) (n:Nat),K.lookup a=some o∧o.cls= .type "tuple" ∧o.data= .seq its n∧its.size≤sizeLine∧Vals xs its.toList
def KL (K:PySem.W.Frag) (a:Addr) (xs:List V):Prop:=
 ∃(o:Obj) (its:Array Value) (n:Nat),K.lookup a=some o∧o.cls= .type "list" ∧o.dict=none∧o.data= .seq its n∧its.size≤sizeLine∧Vals xs its.toList
def xoH (a:Addr) (cls:Value) (dx:Option Addr):HO:= .ext fun h=>∃(oe:Obj) (vs:Array Value),h.get? a=some oe∧Zc cls dx oe∧oe.data= .fields vs
def isIt:D→Bool
 | .int _=>true
 | _=>false
def plc (l:List D):Bool:=l.all isIt
def TupAt (G:GC) (w:Wd) (a:Addr) (vs:List V) (l:List D):Prop:=(w.H a=some (.tup vs)∧¬Mut w a)∨(KT G.K a vs∧plc l=false)
def KEnt (G:GC):List DictEntry→List Str→List Value→Prop
 | [],ks,us=>ks= [] ∧us= []
 |e::es,ks,us=>∃k kr u ur t,ks=k::kr∧us=u::ur∧e.key= .str k t∧e.val=u∧e.hash=PyData.keyHash G.w.params k∧KEnt G es kr ur
def CodeAt (w:Wd) (q:Str) (c:Addr):Prop:=w.H c=some (LamX.CodeO c q)∧¬Mut w c
mutual
def Rep (G:GC) (w:Wd):D→V→Prop
 | .non,v=>v= .non
 | .bl b,v=>v= .bl b
 | .int i,v=>v= .int i
 | .str s,v=>v= .str s
 | .tup l,v=>∃a vs,v= .ref a∧TupAt G w a vs l∧RepL G w l vs
 | .lst l,v=>∃a vs,v= .ref a∧w.H a=some (.lst vs)∧¬Mut w a∧RepL G w l vs
 | .dic ks l,v=>∃a vs,v= .ref a∧w.H a=some (.dK (ks.zip vs))∧¬Mut w a∧ks.length=l.length∧RepL G w l vs
 | .obj n,v=>∃a,w.mu[n]? =some a∧v= .ref a
 | .glb x,v=>∃u,G.mg x=some u∧RelV v u
 | .wtp l,v=>∃a,v= .ref a∧KT G.K a (l.map V.int)
 | .ty n,v=>v= .ty n
 | .scr ns,v=>∃a,v= .ref a∧(Fz w a (.lst (ns.map V.int))∨KL G.K a (ns.map V.int))
 | .kd ks l,v=>∃a es n vs us,v= .ref a∧KDict G.K G.w a es n∧(∀ z,PySem.W.nsIn G.K a z=some ((ks.zip us).lookup z))∧ks.length=l.length∧Vals vs us∧KEnt G es.toList ks us∧RepL G w l vs
 | .lam t l,v=>v= .ref t.f∧CodeAt w t.q t.c∧RepL G w l t.vs
 | .xcp c ks l,v=>∃a C dx vs,v= .ref a∧G.mg c=some (.ref C)∧(w.H a=some (xoH a (.ref C) dx)∧¬Mut w a)∧ks.length=l.length∧((ks= [] ∧dx=none)∨∃d,dx=some d∧w.H d=some (.xd (ks.zip vs))∧¬Mut w d)∧RepL G w l vs
def RepL (G:GC) (w:Wd):List D→List V→Prop
 | [],vs=>vs= []
 |d::ds,vs=>∃v r,vs=v::r∧Rep G w d v∧RepL G w ds r
end
def RepKV {κ :Type} (G:GC) (w:Wd):List (κ × D)→List (κ × V)→Prop
 | [],x=>x= []
 |p::r,x=>∃v y,x=(p.1,v)::y∧Rep G w p.2 v∧RepKV G w r y
mutual
def kD:NestedKey→D
 | .none=> .non
 | .num i=> .int i
 | .text x=> .str x
 | .tup ks=> .tup (kDL ks)
def kDL:List NestedKey→List D
 | [] => []
 |k::ks=>kD k::kDL ks
end
mutual
def nkOk:NestedKey→Bool
 | .none=>true
 | .num _=>true
 | .text x=>PyData.strOk x
 | .tup ks=>nkOkL ks
def nkOkL:List NestedKey→Bool
 | [] =>true
 |k::ks=>nkOk k&&nkOkL ks
end
def RepN (G:GC) (w:Wd):List (NestedKey × D)→List NRow→Prop
 | [],x=>x= []
 |p::r,x=>∃b v y,x=(p.1,b,v)::y∧Rep G w (kD p.1) (.ref b)∧(p.1.depth≤8∧nkOk p.1=true)∧Rep G w p.2 v∧RepN G w r y
def TabIs (G:GC) (x:Str) (a:Addr):Prop:=∃(f c:Addr) (fd:FuncData) (oc:Value) (od:Option Addr) (osl:Array (Option Value)),G.mg x=some (.ref f)∧G.K.lookup f=some ⟨oc,od, .func fd,osl⟩∧fd.code= .ref c∧PySem.W.codeHdIn G.K c a=true
def TabR (w:Wd) (a:Addr) (q:Str):Prop:=∃ps:Array Value,w.H a=some (.tbl ps)∧TriplesOk ps.toList∧∀(pos:Pos) (cv:Value),codeAmong pos ps.toList=some cv→∃c,cv= .ref c∧CodeAt w q c
def ORep (G:GC) (w:Wd) (a:Addr):O→Prop
 | .lst ds=>∃vs,w.H a=some (.lst vs)∧RepL G w ds vs
 | .dK kvs=>∃vs,w.H a=some (.dK vs)∧RepKV G w kvs vs
 | .dT kvs=>∃vs,w.H a=some (.dT vs)∧RepKV G w kvs vs
 | .dN kvs=>∃rows,w.H a=some (ObN G.w a rows)∧RepN G w kvs rows
 | .ins c fs=>∃C dx vs,w.H a=some (.ins C dx vs)∧RepKV G w fs vs∧G.mg c=some (.ref C)
 | .ptp ds=>∃o vs,(w.H a=some (.frz o (.tup vs))∧¬Mut w a)∧o.dict=none∧RepL G w ds vs
 | .lkd kvs=>∃o vs,(w.H a=some (.frz o (.dK vs))∧¬Mut w a)∧RepKV G w kvs vs
 | .dead=>(∃ u,w.H a=some u)∧¬Mut w a
 | .tab x q=>TabIs G x a∧TabR w a q
def NT (u:HO):Prop:=∀vs,u≠ .tup vs
structure SRep (G:GC) (w:Wd):Prop where
 len:w.mu.length=w.S.length
 inj:∀(n m:Nat) (a:Addr) (o o':O),w.S[n]? =some o→w.S[m]? =some o'→o.own→o'.own→w.mu[n]? =some a→w.mu[m]? =some a→n=m
 obj:∀(n:Nat) (o:O) (a:Addr),w.S[n]? =some o→w.mu[n]? =some a→ORep G w a o
 tm:∀a ∈ w.tmp,(∃ u: { u:HO // NT u },w.H a=some u.1)∧¬MutS w a
structure ERep (G:GC) (w:Wd) (env:EnvD) (σ :L2.St):Prop where
 len:env.length= σ.length
 at':∀(i:Nat) (d:D),env[i]? =some (some d)→∃v:V,σ[i]? =some (some v)∧Rep G w d v
structure WX' (T:List Addr) (w w':Wd):Prop where
 mu:∀(n:Nat) (a:Addr),w.mu[n]? =some a→w'.mu[n]? =some a
 keep:∀(a:Addr) (o:HO),w.H a=some o→¬MutS w a→a ∉ T→w'.H a=some o∧¬MutS w' a
 tmp:∀a ∈ w'.tmp,a ∈ w.tmp∨a ∈ T
 tmp':∀a ∈ w.tmp,a ∈ w'.tmp
abbrev WExt (w w':Wd):Prop:=WX' [] w w'
theorem WExt.refl (w:Wd):WExt w w:=⟨fun _ _ h=>h,fun _ _ h h' _=>⟨h,h'⟩,fun _ h=> .inl h,fun _ h=>h⟩
theorem WX'.trans {T:List Addr} {a b c:Wd} (x:WX' T a b) (y:WX' T b c):WX' T a c:=
 ⟨fun n d h=>y.mu n d (x.mu n d h),fun d o h h' t=>let⟨h1,h2⟩:=x.keep d o h h' t;y.keep d o h1 h2 t,fun d h=>(y.tmp d h).elim (x.tmp d) .inr,fun d h=>y.tmp' d (x.tmp' d h)⟩
theorem WX'.wide {T:List Addr} {a b:Wd} (x:WExt a b):WX' T a b:=⟨x.mu,fun d o h h' _=>x.keep d o h h' (by simp),fun d h=>(x.tmp d h).imp id fun z=>by simp at z,x.tmp'⟩
def Tok (T:List Addr) (w:Wd):Prop:=∀a ∈ T,a ∈ w.tmp∨w.H a=none
theorem WX'.keepM {T:List Addr} {w w':Wd} (x:WX' T w w') (hT:Tok T w) {a:Addr} {o:HO} (h:w.H a=some o) (nm: ¬Mut w a):w'.H a=some o∧¬Mut w' a:=by
 have nT:a ∉ T:=fun z=>(hT a z).elim (fun z=>nm (.inr z)) fun z=>by rw[h] at z;cases z
 obtain⟨h1,h2⟩:=x.keep a o h (fun z=>nm (.inl z)) nT
 exact⟨h1,fun z=>z.elim h2 fun z=>(x.tmp a z).elim (fun z=>nm (.inr z)) nT⟩
section
variable {T:List Addr} {G:GC} {w w':Wd}
theorem Fz.monoT {a:Addr} {u:HO} (x:WX' T w w') (hT:Tok T w) (h:Fz w a u):Fz w' a u:=by
 obtain⟨h|⟨o,h⟩,nm⟩:=h
 ·obtain⟨h1,h2⟩:=x.keepM hT h nm;exact⟨.inl h1,h2⟩
 ·obtain⟨h1,h2⟩:=x.keepM hT h nm;exact⟨.inr ⟨o,h1⟩,h2⟩
mutual
theorem Rep.monoT (x:WX' T w w') (hT:Tok T w):∀(d:D) (v:V),Rep G w d v→Rep G w' d v
 | .non,v,h=>by simpa only[Rep] using h
 | .bl b,v,h=>by simpa only[Rep] using h
 | .int i,v,h=>by simpa only[Rep] using h
 | .str s,v,h=>by simpa only[Rep] using h
 | .tup l,v,h=>by
   simp only[Rep] at h ⊢
   obtain⟨a,vs,e,h1,h2⟩:=h
   exact⟨a,vs,e,h1.imp (fun z=>x.keepM hT z.1 z.2) id,RepL.monoT x hT l vs h2⟩
 | .lst l,v,h=>by
   simp only[Rep] at h ⊢
   obtain⟨a,vs,e,h1,nm,h2⟩:=h
   obtain⟨q1,q2⟩:=x.keepM hT h1 nm
   exact⟨a,vs,e,q1,q2,RepL.monoT x hT l vs h2⟩
 | .dic ks l,v,h=>by
   simp only[Rep] at h ⊢
   obtain⟨a,vs,e,h1,nm,hl,h2⟩:=h
   obtain⟨q1,q2⟩:=x.keepM hT h1 nm
   exact⟨a,vs,e,q1,q2,hl,RepL.monoT x hT l vs h2⟩
 | .obj n,v,h=>by
   simp only[Rep] at h ⊢
   obtain⟨a,h1,e⟩:=h
   exact⟨a,x.mu n a h1,e⟩
 | .glb y,v,h=>by simpa only[Rep] using h
 | .wtp _,v,h=>by simpa only[Rep] using h
 | .ty n,v,h=>by simpa only[Rep] using h
 | .scr ns,v,h=>by
   simp only[Rep] at h ⊢
   obtain⟨a,e,h1⟩:=h
   exact⟨a,e,h1.imp (Fz.monoT x hT) id⟩
 | .kd ks l,v,h=>by
   simp only[Rep] at h ⊢
   obtain⟨a,es,n,vs,us,e,h1,h2,h3,h4,ke,h5⟩:=h
   exact⟨a,es,n,vs,us,e,h1,h2,h3,h4,ke,RepL.monoT x hT l vs h5⟩
 | .lam t l,v,h=>by
   simp only[Rep] at h ⊢
   exact⟨h.1,x.keepM hT h.2.1.1 h.2.1.2,RepL.monoT x hT l t.vs h.2.2⟩
 | .xcp c ks l,v,h=>by
   simp only[Rep] at h ⊢
   obtain⟨a,C,dx,vs,e,h1,⟨h2,nm⟩,h3,h4,h5⟩:=h
   exact⟨a,C,dx,vs,e,h1,x.keepM hT h2 nm,h3,h4.imp id fun⟨d,e1,e2,nd⟩=>let⟨q1,q2⟩:=x.keepM hT e2 nd;⟨d,e1,q1,q2⟩,RepL.monoT x hT l vs h5⟩
theorem RepL.monoT (x:WX' T w w') (hT:Tok T w):∀(d:List D) (v:List V),RepL G w d v→RepL G w' d v
 | [],v,h=>by simpa only[RepL] using h
 |d::ds,v,h=>by
  simp only[RepL] at h ⊢
  obtain⟨y,r,e,h1,h2⟩:=h
  exact⟨y,r,e,Rep.monoT x hT d y h1,RepL.monoT x hT ds r h2⟩
end
end
theorem noT {w:Wd} :Tok [] w:=fun _ h=>by simp at h
theorem Rep.mono {G:GC} {w w':Wd} (x:WExt w w') (d:D) (v:V) (h:Rep G w d v):Rep G w' d v:=Rep.monoT x noT d v h
theorem RepL.mono {G:GC} {w w':Wd} (x:WExt w w') (d:List D) (v:List V) (h:RepL G w d v):RepL G w' d v:=RepL.monoT x noT d v h
theorem RepKV.monoT {κ :Type} {T:List Addr} {G:GC} {w w':Wd} (x:WX' T w w') (hT:Tok T w):∀(d:List (κ × D)) (v:List (κ × V)),RepKV G w d v→RepKV G w' d v
 | [],v,h=>h
 |d::ds,v,h=>by
  obtain⟨y,r,e,h1,h2⟩:=h
  exact⟨y,r,e,Rep.monoT x hT _ y h1,RepKV.monoT x hT ds r h2⟩
theorem RepN.monoT {T:List Addr} {G:GC} {w w':Wd} (x:WX' T w w') (hT:Tok T w):∀(d:List (NestedKey × D)) (v:List NRow),RepN G w d v→RepN G w' d v
 | [],v,h=>h
 |p::ds,v,h=>by
  obtain⟨b,u,y,e,h1,h2,h3,h4⟩:=h
  exact⟨b,u,y,e,Rep.monoT x hT _ _ h1,h2,Rep.monoT x hT _ _ h3,RepN.monoT x hT ds y h4⟩
theorem RepKV.mono {κ :Type} {G:GC} {w w':Wd} (x:WExt w w') (d:List (κ × D)) (v:List (κ × V)) (h:RepKV G w d v):RepKV G w' d v:=RepKV.monoT x noT d v h
theorem ERep.monoT {T:List Addr} {G:GC} {w w':Wd} {env:EnvD} {σ :L2.St} (x:WX' T w w') (hT:Tok T w) (h:ERep G w env σ):ERep G w' env σ :=
 ⟨h.len,fun i d e=>let⟨v,h1,h2⟩:=h.at' i d e;⟨v,h1,Rep.monoT x hT d v h2⟩⟩
theorem ERep.mono {G:GC} {w w':Wd} {env:EnvD} {σ :L2.St} (x:WExt w w') (h:ERep G w env σ):ERep G w' env σ :=ERep.monoT x noT h
theorem ERep.set {G:GC} {w:Wd} {env:EnvD} {σ :L2.St} {d:D} {v:V} (i:Nat) (h:ERep G w env σ) (r:Rep G w d v):ERep G w (env.set i (some d)) (σ.set i (some v)):=by
 refine⟨by simp[h.len],fun j d' e=> ?_⟩
 by_cases hj:i=j
 ·subst hj
  by_cases hi:i<env.length
  ·rw[List.getElem?_set_self hi] at e
   cases e
   exact⟨v,List.getElem?_set_self (by rw[← h.len];exact hi),r⟩
  ·rw[List.getElem?_eq_none (by simpa using hi)] at e
   cases e
 ·rw[List.getElem?_set_ne hj] at e ⊢
  exact h.at' j d' e
def XRep (G:GC) (w:Wd) (e:Ex) (C:Value) (dx:Option Addr):Prop:=
 (∃ Ca,G.mg e.cls=some (.ref Ca)∧C= .ref Ca)∧((e.fs= [] ∧dx=none)∨∃d kvs,dx=some d∧w.H d=some (.xd kvs)∧¬Mut w d∧RepKV G w e.fs kvs)
def Post {α β :Type} (G:GC) (w:Wd) (r:R α) (Ra:Wd→ α → β →Prop) (Q: β →Hp→Prop) (E:Value→Option Addr→Hp→Prop):Prop:=
 match r with
 | .ok d S'=>∀v w',WExt w w'→w'.S=S'→SRep G w'→Ra w' d v→Q v w'.H
 | .exc e S'=>∀C dx w',WExt w w'→w'.S=S'→SRep G w'→XRep G w' e C dx→E C dx w'.H
 | .bad=>False
section
variable {α β γ δ :Type} {G:GC} {w w':Wd} {r:R α} {Ra:Wd→ α → β →Prop} {Rb:Wd→ γ → δ →Prop} {Q Q': β →Hp→Prop} {E E':Value→Option Addr→Hp→Prop}
theorem Post.shift (x:WExt w w') (h:Post G w r Ra Q E):Post G w' r Ra Q E:=by
 cases r with
 |ok d S'=>exact fun v w2 e hs sr rp=>h v w2 (WX'.trans x e) hs sr rp
 |exc e S'=>exact fun C dx w2 e hs sr rp=>h C dx w2 (WX'.trans x e) hs sr rp
 |bad=>exact h
theorem Post.mono (h:Post G w r Ra Q E) (hq:∀v H,Q v H→Q' v H) (he:∀C d H,E C d H→E' C d H):Post G w r Ra Q' E':=by
 cases r with
 |ok d S'=>exact fun v w2 e hs sr rp=>hq _ _ (h v w2 e hs sr rp)
 |exc e S'=>exact fun C dx w2 e hs sr rp=>he _ _ _ (h C dx w2 e hs sr rp)
 |bad=>exact h
def Mid {β :Type} (G:GC) (w:Wd) (Ra:Wd→ α → β →Prop) (P:Wd→ α →Prop) (x: β) (H1:Hp):Prop:=
 ∃w1 d,w1.H=H1∧WExt w w1∧SRep G w1∧Ra w1 d x∧P w1 d
theorem Post.bind {f: α →Store→R γ} {Q: δ →Hp→Prop} (h:Post G w (r.bind f) Rb Q E):
 Post G w r Ra (Mid G w Ra fun w1 d=>Post G w1 (f d w1.S) Rb Q E) E:=by
 cases r with
 |ok d S'=>
  intro v w1 e hs sr rp
  refine⟨w1,d,rfl,e,sr,rp,?_⟩
  subst hs
  exact Post.shift e h
 |exc e S'=>exact h
 |bad=>exact h
theorem Post.ret {a: α} {b: β} (sr:SRep G w) (ra:Ra w a b) (h:Post G w (.ok a w.S) Ra Q E):Q b w.H:=h b w (.refl w) rfl sr ra
end
def tE (G:GC) (m:ED) (Wx:WX):TE:=fun σ H Q=>∃w env,w.H=H∧SRep G w∧ERep G w env σ ∧Post G w (m env w.S) (Rep G) Q (fun C dx H'=>Wx C dx σ H')
def tT (G:GC) (m:TD) (Wx:WX):TT:=fun σ H Q=>∃w env,w.H=H∧SRep G w∧ERep G w env σ ∧Post G w (m env w.S) (fun _ a b=>a=b) Q (fun C dx H'=>Wx C dx σ H')
def tA (G:GC) (m:AD) (Wx:WX):TA:=fun σ H Q=>∃w env,w.H=H∧SRep G w∧ERep G w env σ ∧Post G w (m env w.S) (RepL G) Q (fun C dx H'=>Wx C dx σ H')
def PostS (G:GC) (w:Wd) (r:SR) (D:Ends) (Wx:WX):Prop:=
 match r with
 | .nx env' S'=>∀ σ' w',WExt w w'→w'.S=S'→SRep G w'→ERep G w' env' σ'→D.nx σ' w'.H
 | .ret d S'=>∀v w',WExt w w'→w'.S=S'→SRep G w'→Rep G w' d v→D.rt v w'.H
 | .brk env' S'=>∀ σ' w',WExt w w'→w'.S=S'→SRep G w'→ERep G w' env' σ'→D.bk σ' w'.H
 | .ct env' S'=>∀ σ' w',WExt w w'→w'.S=S'→SRep G w'→ERep G w' env' σ'→D.ct σ' w'.H
 | .exc e env' S'=>∀C dx σ' w',WExt w w'→w'.S=S'→SRep G w'→ERep G w' env' σ'→XRep G w' e C dx→Wx C dx σ' w'.H
 | .bad=>False
def tS (G:GC) (m:SD) (Wx:WX):TS:=fun D σ H=>∃w env,w.H=H∧SRep G w∧ERep G w env σ ∧PostS G w (m env w.S) D Wx
theorem PostS.shift {G:GC} {w w':Wd} {r:SR} {D:Ends} {Wx:WX} (x:WExt w w') (h:PostS G w r D Wx):PostS G w' r D Wx:=by
 cases r with
 |nx env S'=>exact fun v w2 e hs sr rp=>h v w2 (WX'.trans x e) hs sr rp
 |ret d S'=>exact fun v w2 e hs sr rp=>h v w2 (WX'.trans x e) hs sr rp
 |brk env S'=>exact fun v w2 e hs sr rp=>h v w2 (WX'.trans x e) hs sr rp
 |ct env S'=>exact fun v w2 e hs sr rp=>h v w2 (WX'.trans x e) hs sr rp
 |exc e env S'=>exact fun C dx σ w2 e hs sr er rp=>h C dx σ w2 (WX'.trans x e) hs sr er rp
 |bad=>exact h
theorem PostS.ofR {α β :Type} {G:GC} {w:Wd} {r:R α} {Ra:Wd→ α → β →Prop} {k: α →Store→SR} {D:Ends} {Wx:WX} {env:EnvD} {σ :L2.St} (er:ERep G w env σ) (h:PostS G w (r.toS env k) D Wx):
 Post G w r Ra (Mid G w Ra fun w1 d=>PostS G w1 (k d w1.S) D Wx) (fun C dx H'=>Wx C dx σ H'):=by
 cases r with
 |ok d S'=>
  intro v w1 e hs sr rp
  refine⟨w1,d,rfl,e,sr,rp,?_⟩
  subst hs
  exact PostS.shift e h
 |exc e S'=>exact fun C dx w2 x hs sr rp=>h C dx σ w2 x hs sr (er.mono x) rp
 |bad=>exact h
theorem peI {X:Cx} {e:Expr} {t t':TE} (h:PE X e t) (i:∀ σ H Q,t' σ H Q→t σ H Q):PE X e t':=⟨fun pins s σ H Q I q=>h.run pins s σ H Q I (i _ _ _ q)⟩
theorem ptI {X:Cx} {e:Expr} {t t':TT} (h:PT X e t) (i:∀ σ H Q,t' σ H Q→t σ H Q):PT X e t':=⟨fun pins s σ H Q I q=>h.run pins s σ H Q I (i _ _ _ q)⟩
theorem pwI {X:Cx} {e:Expr} {t t':TT} (h:PW X e t) (i:∀ σ H Q,t' σ H Q→t σ H Q):PW X e t':=⟨fun wh pins s σ H Q I q=>h.run wh pins s σ H Q I (i _ _ _ q)⟩
theorem paI {X:Cx} {e:List Expr} {t t':TA} (h:PA X e t) (i:∀ σ H Q,t' σ H Q→t σ H Q):PA X e t':=⟨fun po pins s σ H Q I q=>h.run po pins s σ H Q I (i _ _ _ q)⟩
theorem psI {X:Cx} {e:Stmt} {t t':TS} (h:PS X e t) (i:∀D σ H,t' D σ H→t D σ H):PS X e t':=⟨fun pins s σ H D I q=>h.run pins s σ H D I (i _ _ _ q)⟩
theorem pssI {X:Cx} {e:List Stmt} {t t':TS} (h:PSs X e t) (i:∀D σ H,t' D σ H→t D σ H):PSs X e t':=⟨fun pins s σ H D I q=>h.run pins s σ H D I (i _ _ _ q)⟩
abbrev WF:WX:=fun _ _ _ _=>False
section
variable {G:GC} {X:Cx} {Wx:WX} {pos:Pos}
theorem q_var {e:Expr} {i:Nat} (h:PE X e (tVar i)):PE X e (tE G (eVar i) Wx):=peI h fun σ H Q q=>by
 obtain⟨w,env,rfl,sr,er,p⟩:=q
 unfold eVar at p
 cases hi:env[i]? with
 |none=>rw[hi] at p;exact p.elim
 |some o=>
  cases o with
  |none=>rw[hi] at p;exact p.elim
  |some d=>
   rw[hi] at p
   obtain⟨v,e,r⟩:=er.at' i d hi
   exact⟨v,e,Post.ret sr r p⟩
theorem q_const {e:Expr} {v:V} {d:D} (h:PE X e (tC v)) (r:∀w,Rep G w d v):PE X e (tE G (eK d) Wx):=peI h fun σ H Q q=>by
 obtain⟨w,env,rfl,sr,er,p⟩:=q
 exact Post.ret sr (r w) p
theorem q_int {i j} :PE X (.Constant (.int i) j pos) (tE G (eK (.int i)) Wx):=q_const pe_int fun _=>by simp[Rep]
theorem q_bl {b j} :PE X (.Constant (.bool b) j pos) (tE G (eK (.bl b)) Wx):=q_const pe_bl fun _=>by simp[Rep]
theorem q_non {j} :PE X (.Constant .none j pos) (tE G (eK .non) Wx):=q_const pe_non fun _=>by simp[Rep]
theorem q_str {x j} :PE X (.Constant (.str x) j pos) (tE G (eK (.str x)) Wx):=q_const pe_str fun _=>by simp[Rep]
def r2 (G:GC) (f:F2):R2:=fun x y H Q=>∃w d1 d2,w.H=H∧SRep G w∧Rep G w d1 x∧Rep G w d2 y∧Post G w (f d1 d2 w.S) (Rep G) Q (fun _ _ _=>False)
def r1 (G:GC) (f:F1):V→Hp→VK→Prop:=fun x H Q=>∃w d1,w.H=H∧SRep G w∧Rep G w d1 x∧Post G w (f d1 w.S) (Rep G) Q (fun _ _ _=>False)
def rN (G:GC) (f:FN):List V→Hp→VK→Prop:=fun xs H Q=>∃w ds,w.H=H∧SRep G w∧RepL G w ds xs∧Post G w (f ds w.S) (Rep G) Q (fun _ _ _=>False)
def rM (G:GC) (f:D→FN):V→List V→Hp→VK→Prop:=fun x xs H Q=>∃w d ds,w.H=H∧SRep G w∧Rep G w d x∧RepL G w ds xs∧Post G w (f d ds w.S) (Rep G) Q (fun _ _ _=>False)
def R.calm {α :Type} :R α →Prop
 | .exc _ _=>False
 | _=>True
def Calm2 (f:F2):Prop:=∀x y S,(f x y S).calm
def Calm1 (f:F1):Prop:=∀x S,(f x S).calm
def CalmN (f:FN):Prop:=∀xs S,(f xs S).calm
def CalmM (f:D→FN):Prop:=∀x xs S,(f x xs S).calm
theorem Post.calm {α β :Type} {w:Wd} {r:R α} {Ra:Wd→ α → β →Prop} {Q: β →Hp→Prop} {E E':Value→Option Addr→Hp→Prop} (c:r.calm) (h:Post G w r Ra Q E):Post G w r Ra Q E':=by
 cases r with
 |ok _ _=>exact h
 |exc _ _=>exact c.elim
 |bad=>exact h
theorem imp_e2 {f:F2} {a b:ED} (c:Calm2 f):∀ σ H Q,tE G (e2 f a b) Wx σ H Q→tOp (r2 G f) (tE G a Wx) (tE G b Wx) σ H Q:=by
 intro σ H Q q
 obtain⟨w,env,rfl,sr,er,p⟩:=q
 refine⟨w,env,rfl,sr,er,(Post.bind p).mono (fun x H1 m=> ?_) fun _ _ _ h=>h⟩
 obtain⟨w1,d1,rfl,x1,s1,rp1,p1⟩:=m
 refine⟨w1,env,rfl,s1,er.mono x1,(Post.bind p1).mono (fun y H2 m=> ?_) fun _ _ _ h=>h⟩
 obtain⟨w2,d2,rfl,x2,s2,rp2,p2⟩:=m
 exact⟨w2,d1,d2,rfl,s2,Rep.mono x2 _ _ rp1,rp2,p2.calm (c _ _ _)⟩
theorem q_op {op:Operator} {f:F2} {a b:Expr} {ma mb:ED} (ho:OpR X (binaryOp op) (r2 G f)) (c:Calm2 f) (ha:PE X a (tE G ma Wx)) (hb:PE X b (tE G mb Wx)):PE X (.BinOp a op b pos) (tE G (e2 f ma mb) Wx):=
 peI (pe_op ho ha hb) (imp_e2 c)
theorem q_cmp {op:CmpOp} {f:F2} {a b:Expr} {ma mb:ED} (ho:OpR X (compareOp op) (r2 G f)) (c:Calm2 f) (ha:PE X a (tE G ma Wx)) (hb:PE X b (tE G mb Wx)) (hm:behindInMarks op b=false):PE X (.Compare a [op] [b] pos) (tE G (e2 f ma mb) Wx):=
 peI (pe_cmpR ho ha hb hm) (imp_e2 c)
theorem q_ix {f:F2} {a b:Expr} {ma mb:ED} (ho:IxR X (r2 G f)) (c:Calm2 f) (ha:PE X a (tE G ma Wx)) (hb:PE X b (tE G mb Wx)) (hs:PlainIx b):PE X (.Subscript a b pos) (tE G (e2 f ma mb) Wx):=
 peI (pe_ix ho ha hb hs) (imp_e2 c)
theorem q_un {op:UnaryOp} {f:F1} {a:Expr} {ma:ED} (ho:UnR X (unaryOp op) (r1 G f)) (c:Calm1 f) (ha:PE X a (tE G ma Wx)):PE X (.UnaryOp op a pos) (tE G (e1 f ma) Wx):=
 peI (pe_un ho ha) fun σ H Q q=>by
  obtain⟨w,env,rfl,sr,er,p⟩:=q
  refine⟨w,env,rfl,sr,er,(Post.bind p).mono (fun x H1 m=> ?_) fun _ _ _ h=>h⟩
  obtain⟨w1,d1,rfl,x1,s1,rp1,p1⟩:=m
  exact⟨w1,d1,rfl,s1,rp1,p1.calm (c _ _)⟩
theorem q_nil:PA X [] (tA G aNil Wx):=paI pa_nil fun σ H Q q=>by
 obtain⟨w,env,rfl,sr,er,p⟩:=q
 exact Post.ret (Ra:=RepL G) sr (by simp[RepL]) p
theorem q_cons {e:Expr} {es:List Expr} {m:ED} {ms:AD} (ha:PE X e (tE G m Wx)) (hr:PA X es (tA G ms Wx)) (hs:starEach (e::es) X.env=(false,eval e X.env)::starEach es X.env:=by rfl):PA X (e::es) (tA G (aCons m ms) Wx):=
 paI (pa_cons ha hr hs) fun σ H Q q=>by
  obtain⟨w,env,rfl,sr,er,p⟩:=q
  refine⟨w,env,rfl,sr,er,(Post.bind p).mono (fun x H1 m=> ?_) fun _ _ _ h=>h⟩
  obtain⟨w1,d1,rfl,x1,s1,rp1,p1⟩:=m
  refine⟨w1,env,rfl,s1,er.mono x1,(Post.bind p1).mono (fun y H2 m=> ?_) fun _ _ _ h=>h⟩
  obtain⟨w2,d2,rfl,x2,s2,rp2,p2⟩:=m
  exact Post.ret (Ra:=RepL G) (a:=d1::d2) s2 (by simp only[RepL];exact⟨x,y,rfl,Rep.mono x2 _ _ rp1,rp2⟩) p2
theorem imp_eN {f:FN} {a:AD} (c:CalmN f):∀ σ H Q,tE G (eN f a) Wx σ H Q→tCB (rN G f) (tA G a Wx) σ H Q:=by
 intro σ H Q q
 obtain⟨w,env,rfl,sr,er,p⟩:=q
 refine⟨w,env,rfl,sr,er,(Post.bind p).mono (fun x H1 m=> ?_) fun _ _ _ h=>h⟩
 obtain⟨w1,d1,rfl,x1,s1,rp1,p1⟩:=m
 exact⟨w1,d1,rfl,s1,rp1,p1.calm (c _ _)⟩
theorem q_callB {id:String} {x:Str} {p:Pos} {f:FN} {e:Expr} {es:List Expr} {m:AD} (hc:CallR X (.builtin id) (rN G f)) (c:CalmN f) (hg:Gl X x) (hm:X.mg x=none) (hv:bootBuiltins x=some (.builtin id)) (ha:PA X (e::es) (tA G m Wx)) (hn:x≠ "__name__" :=by decide) (hdb:(x==("__debug__" :Str))=false:=by decide)
 (he:starEach (e::es) X.env=(false,eval e X.env)::starEach es X.env:=by rfl) (hpl:(backTo pos (starEach es X.env)).any (·.1)=false:=by rfl):PE X (.Call (.Name x p) (e::es) [] pos) (tE G (eN f m) Wx):=
 peI (pe_callB hc hg hm hv ha hn hdb he hpl) (imp_eN c)
theorem q_callTy {T:String} {x:Str} {p:Pos} {f:FN} {e:Expr} {es:List Expr} {m:AD} (hc:CallR X (.type T) (rN G f)) (c:CalmN f) (hg:Gl X x) (hm:X.mg x=none) (hv:bootBuiltins x=some (.type T)) (ha:PA X (e::es) (tA G m Wx)) (hn:x≠ "__name__" :=by decide) (hdb:(x==("__debug__" :Str))=false:=by decide)
 (he:starEach (e::es) X.env=(false,eval e X.env)::starEach es X.env:=by rfl) (hpl:(backTo pos (starEach es X.env)).any (·.1)=false:=by rfl):PE X (.Call (.Name x p) (e::es) [] pos) (tE G (eN f m) Wx):=
 peI (pe_callTy hc hg hm hv ha hn hdb he hpl) (imp_eN c)
end
end L3
namespace L3
open PySem PySem.Spec PyProof.Rows L2
section
variable {G:GC} {w:Wd} {p:Addr} {o:HO}
theorem RepL.length:∀ {ds:List D} {vs:List V},RepL G w ds vs→vs.length=ds.length
 | [],vs,h=>by simp only[RepL] at h;subst h;rfl
 |d::ds,vs,h=>by
  simp only[RepL] at h
  obtain⟨v,r,rfl,_,h2⟩:=h
  simp[RepL.length h2]
theorem RepL.get:∀ {ds:List D} {vs:List V} {i:Nat} {d:D},RepL G w ds vs→ds[i]? =some d→∃v,vs[i]? =some v∧Rep G w d v
 | [],_,_,_,_,e=>by simp at e
 |d::ds,vs,0,d',h,e=>by
  simp only[RepL] at h
  obtain⟨v,r,rfl,h1,h2⟩:=h
  simp at e;subst e
  exact⟨v,rfl,h1⟩
 |d::ds,vs,i+1,d',h,e=>by
  simp only[RepL] at h
  obtain⟨v,r,rfl,h1,h2⟩:=h
  obtain⟨u,q1,q2⟩:=RepL.get (i:=i) (d:=d') h2 (by simpa using e)
  exact⟨u,by simpa using q1,q2⟩
theorem RepL.append:∀ {ds ds':List D} {vs vs':List V},RepL G w ds vs→RepL G w ds' vs'→RepL G w (ds++ds') (vs++vs')
 | [],_,_,_,h,h'=>by simp only[RepL] at h;subst h;exact h'
 |d::ds,ds',vs,vs',h,h'=>by
  simp only[RepL] at h
  obtain⟨v,r,rfl,h1,h2⟩:=h
  show RepL G w (d::(ds++ds')) (v::(r++vs'))
  simp only[RepL]
  exact⟨v,r++vs',rfl,h1,RepL.append h2 h'⟩
theorem RepL.one {d:D} {v:V} (h:Rep G w d v):RepL G w [d] [v] :=by
 simp only[RepL];exact⟨v,[],rfl,h,rfl⟩
theorem RepL.take:∀ {ds:List D} {vs:List V} (n:Nat),RepL G w ds vs→RepL G w (ds.take n) (vs.take n)
 | _,_,0,_=>by simp[RepL]
 | [],vs,n+1,h=>by simp only[RepL] at h;subst h;simp[RepL]
 |d::ds,vs,n+1,h=>by
  simp only[RepL] at h
  obtain⟨v,r,rfl,h1,h2⟩:=h
  simp only[List.take_succ_cons,RepL]
  exact⟨v,_,rfl,h1,RepL.take n h2⟩
theorem RepL.drop:∀ {ds:List D} {vs:List V} (n:Nat),RepL G w ds vs→RepL G w (ds.drop n) (vs.drop n)
 | _,_,0,h=>h
 | [],vs,n+1,h=>by simp only[RepL] at h;subst h;simp[RepL]
 |d::ds,vs,n+1,h=>by
  simp only[RepL] at h
  obtain⟨v,r,rfl,h1,h2⟩:=h
  simp only[List.drop_succ_cons]
  exact RepL.drop n h2
theorem RepL.set:∀ {ds:List D} {vs:List V} (n:Nat) {d:D} {v:V},RepL G w ds vs→Rep G w d v→RepL G w (ds.set n d) (vs.set n v)
 | [],vs,n,d,v,h,h'=>by simp only[RepL] at h;subst h;simp[RepL]
 |d::ds,vs,0,d',v',h,h'=>by
  simp only[RepL] at h
  obtain⟨v,r,rfl,h1,h2⟩:=h
  simp only[List.set_cons_zero,RepL]
  exact⟨_,_,rfl,h',h2⟩
 |d::ds,vs,n+1,d',v',h,h'=>by
  simp only[RepL] at h
  obtain⟨v,r,rfl,h1,h2⟩:=h
  simp only[List.set_cons_succ,RepL]
  exact⟨_,_,rfl,h1,RepL.set n h2 h'⟩
theorem ORep.there {a:Addr} {ob:O} (h:ORep G w a ob) (lv:ob.live):∃u,w.H a=some u:=by
 cases ob with
 |lst l=>obtain⟨vs,e,_⟩:=h;exact⟨_,e⟩
 |dK l=>obtain⟨vs,e,_⟩:=h;exact⟨_,e⟩
 |dT l=>obtain⟨vs,e,_⟩:=h;exact⟨_,e⟩
 |dN l=>obtain⟨vs,e,_⟩:=h;exact⟨_,e⟩
 |ins c l=>obtain⟨_,_,_,e,_⟩:=h;exact⟨_,e⟩
 |ptp l=>exact lv.elim
 |lkd l=>exact lv.elim
 |dead=>exact lv.elim
 |tab x q=>obtain⟨_,ps,e,_⟩:=h;exact⟨_,e⟩
theorem ORep.there' {a:Addr} {ob:O} (h:ORep G w a ob) (lv:ob.own):∃u,w.H a=some u:=by
 cases ob with
 |lst l=>exact h.there trivial
 |dK l=>exact h.there trivial
 |dT l=>exact h.there trivial
 |dN l=>exact h.there trivial
 |ins c l=>exact h.there trivial
 |tab x q=>exact h.there trivial
 |ptp l=>exact lv.elim
 |lkd l=>obtain⟨_,_,⟨e,_⟩,_⟩:=h;exact⟨_,e⟩
 |dead=>exact h.1
theorem MutS.there {a:Addr} (sr:SRep G w) (m:MutS w a):∃u,w.H a=some u:=by
 obtain⟨n,ob,h1,lv,h2⟩:=m
 exact(sr.obj n ob a h1 h2).there lv
theorem ORep.keep {T:List Addr} {w':Wd} {a:Addr} {ob:O} (x:WX' T w w') (hT:Tok T w) (h:ORep G w a ob) (e:ob.live→w'.H a=w.H a):ORep G w' a ob:=by
 cases ob with
 |lst l=>obtain⟨vs,h1,h2⟩:=h;exact⟨vs,(e trivial).trans h1,RepL.monoT x hT _ _ h2⟩
 |dK l=>obtain⟨vs,h1,h2⟩:=h;exact⟨vs,(e trivial).trans h1,RepKV.monoT x hT _ _ h2⟩
 |dT l=>obtain⟨vs,h1,h2⟩:=h;exact⟨vs,(e trivial).trans h1,RepKV.monoT x hT _ _ h2⟩
 |dN l=>obtain⟨vs,h1,h2⟩:=h;exact⟨vs,(e trivial).trans h1,RepN.monoT x hT _ _ h2⟩
 |ins c l=>obtain⟨C,dx,vs,h1,h2,h3⟩:=h;exact⟨C,dx,vs,(e trivial).trans h1,RepKV.monoT x hT _ _ h2,h3⟩
 |ptp l=>obtain⟨o,vs,⟨h1,nm⟩,h2,h3⟩:=h;exact⟨o,vs,x.keepM hT h1 nm,h2,RepL.monoT x hT _ _ h3⟩
 |lkd l=>obtain⟨o,vs,⟨h1,nm⟩,h3⟩:=h;exact⟨o,vs,x.keepM hT h1 nm,RepKV.monoT x hT _ _ h3⟩
 |dead=>obtain⟨⟨u,h1⟩,h2⟩:=h;obtain⟨h3,h4⟩:=x.keepM hT h1 h2;exact⟨⟨u,h3⟩,h4⟩
 |tab y q=>obtain⟨h0,ps,h1,h2,h3⟩:=h;exact⟨h0,ps,(e trivial).trans h1,h2,fun pos cv hc=>let⟨c,e1,e2⟩:=h3 pos cv hc;⟨c,e1,x.keepM hT e2.1 e2.2⟩⟩
abbrev Wd.put (w:Wd) (p:Addr) (o:HO):Wd:= { w with H:=upd w.H p o }
theorem new_ext (sr:SRep G w) (hp:w.H p=none):WExt w (w.put p o)∧SRep G (w.put p o)∧¬Mut (w.put p o) p:=by
 have x:WExt w (w.put p o):=⟨fun _ _ h=>h,fun a u h nm _=>⟨(upd_ne (ne_of_none h hp)).trans h,nm⟩,fun _ h=> .inl h,fun _ h=>h⟩
 refine⟨x,⟨sr.len,sr.inj,fun n ob a h1 h2=> ?_,fun a ha=> ?_⟩,fun m=>m.elim (fun m=> ?_) fun m=> ?_⟩
 ·have h:=sr.obj n ob a h1 h2
  refine h.keep x noT fun lv=> ?_
  obtain⟨u,e⟩:=h.there lv
  exact upd_ne (ne_of_none e hp)
 ·obtain⟨⟨u,e⟩,nm⟩:=sr.tm a ha
  exact⟨⟨u,(upd_ne (ne_of_none e hp)).trans e⟩,nm⟩
 ·obtain⟨u,e⟩:=MutS.there sr (show MutS w p from m)
  rw[hp] at e;cases e
 ·obtain⟨⟨u,e⟩,_⟩:=sr.tm p m
  rw[hp] at e;cases e
theorem new_obj {ob:O} (sr:SRep G w) (hp:w.H p=none) (hor:∀w',WExt w w'→w'.H p=some o→ORep G w' p ob):
 WExt w ⟨w.mu++ [p],w.S++ [ob],upd w.H p o,w.tmp⟩∧SRep G ⟨w.mu++ [p],w.S++ [ob],upd w.H p o,w.tmp⟩:=by
 have nmS:∀a u,w.H a=some u→¬MutS w a→¬MutS ⟨w.mu++ [p],w.S++ [ob],upd w.H p o,w.tmp⟩ a:=fun a u h nm m=>by
  obtain⟨n,o',h1,lv,h2⟩:=m
  by_cases hn:n<w.S.length
  ·refine nm ⟨n,o',?_,lv,?_⟩
   ·simpa[List.getElem?_append_left hn] using h1
   ·have:n<w.mu.length:=by rw[sr.len];exact hn
    simpa[List.getElem?_append_left this] using h2
  ·have e:n=w.S.length:=by
    have:=(List.getElem?_eq_some_iff.mp h1).1
    simp at this;omega
   subst e
   have:(w.mu++ [p])[w.mu.length]? =some p:=by simp
   rw[← sr.len] at h2
   have e2:p=a:=Option.some.inj (this.symm.trans h2)
   rw[e2,h] at hp;cases hp
 have x:WExt w ⟨w.mu++ [p],w.S++ [ob],upd w.H p o,w.tmp⟩:=
  ⟨fun n a h=>by
    have hl:=(List.getElem?_eq_some_iff.mp h).1
    show(w.mu++ [p])[n]? =some a
    rw[List.getElem?_append_left hl];exact h,
    fun a u h nm _=>⟨(upd_ne (ne_of_none h hp)).trans h,nmS a u h nm⟩,fun _ h=> .inl h,fun _ h=>h⟩
 have split:∀(n:Nat) (o':O),(w.S++ [ob])[n]? =some o'→w.S[n]? =some o'∨(n=w.S.length∧o'=ob):=fun n o' h=>by
  by_cases hn:n<w.S.length
  ·rw[List.getElem?_append_left hn] at h;exact .inl h
  ·have e:n=w.S.length:=by
    have:=(List.getElem?_eq_some_iff.mp h).1
    simp at this;omega
   subst e;simp at h;exact .inr ⟨rfl,h.symm⟩
 have mul:∀(n:Nat) (a:Addr),n<w.S.length→(w.mu++ [p])[n]? =some a→w.mu[n]? =some a:=fun n a hn h=>by
  have:n<w.mu.length:=by rw[sr.len];exact hn
  rw[List.getElem?_append_left this] at h;exact h
 have mur:∀(a:Addr),(w.mu++ [p])[w.S.length]? =some a→a=p:=fun a h=>by
  rw[← sr.len] at h;simp at h;exact h.symm
 have old:∀(n:Nat) (o':O) (a:Addr),w.S[n]? =some o'→o'.own→(w.mu++ [p])[n]? =some a→a≠p:=fun n o' a h lv hm e=>by
  have hn:=(List.getElem?_eq_some_iff.mp h).1
  obtain⟨u,q⟩:=(sr.obj n o' a h (mul n a hn hm)).there' lv
  rw[e,hp] at q;cases q
 refine⟨x,⟨by simp[sr.len],fun n m a o1 o2 h1 h2 l1 l2 m1 m2=> ?_,fun n o' a h1 h2=> ?_,fun a ha=> ?_⟩⟩
 ·rcases split n o1 h1 with q1|⟨e1,q1⟩<;>rcases split m o2 h2 with q2|⟨e2,q2⟩
  ·exact sr.inj n m a o1 o2 q1 q2 l1 l2 (mul n a (List.getElem?_eq_some_iff.mp q1).1 m1) (mul m a (List.getElem?_eq_some_iff.mp q2).1 m2)
  ·subst e2;exact absurd (mur a m2) (old n o1 a q1 l1 m1)
  ·subst e1;exact absurd (mur a m1) (old m o2 a q2 l2 m2)
  ·rw[e1,e2]
 ·rcases split n o' h1 with q1|⟨e1,q1⟩
  ·have hn:=(List.getElem?_eq_some_iff.mp q1).1
   have h:=sr.obj n o' a q1 (mul n a hn h2)
   refine h.keep x noT fun lv=> ?_
   obtain⟨u,e⟩:=h.there lv
   exact upd_ne (ne_of_none e hp)
  ·subst e1 q1
   have e:a=p:=mur a h2
   subst e
   exact hor _ x upd_same
 ·obtain⟨⟨u,e⟩,nm⟩:=sr.tm a ha
  exact⟨⟨u,(upd_ne (ne_of_none e hp)).trans e⟩,nmS a u.1 e nm⟩
theorem set_obj' {n:Nat} {a:Addr} {ob ob':O} (sr:SRep G w) (hn:w.S[n]? =some ob) (lv:ob.live) (ha:w.mu[n]? =some a) (hor:∀w',WExt w w'→w'.H a=some o→(¬ ob'.live→¬Mut w' a)→ORep G w' a ob'):
 WExt w ⟨w.mu,w.S.set n ob',upd w.H a o,w.tmp⟩∧SRep G ⟨w.mu,w.S.set n ob',upd w.H a o,w.tmp⟩:=by
 have hl:=(List.getElem?_eq_some_iff.mp hn).1
 have back:∀(m:Nat) (o':O),(w.S.set n ob')[m]? =some o'→(m=n∧o'=ob')∨(m≠n∧w.S[m]? =some o'):=fun m o' h=>by
  by_cases e:n=m
  ·subst e;rw[List.getElem?_set_self hl] at h;exact .inl ⟨rfl,(Option.some.inj h).symm⟩
  ·rw[List.getElem?_set_ne e] at h;exact .inr ⟨fun z=>e z.symm,h⟩
 have mb:∀b,MutS ⟨w.mu,w.S.set n ob',upd w.H a o,w.tmp⟩ b→MutS w b:=fun b ⟨m,o',h1,l1,h2⟩=>by
  rcases back m o' h1 with⟨e,_⟩|⟨_,q⟩
  ·subst e;exact⟨m,ob,hn,lv,h2⟩
  ·exact⟨m,o',q,l1,h2⟩
 have nA:∀b,¬MutS w b→b≠a:=fun b nm e=>nm (by subst e;exact⟨n,ob,hn,lv,ha⟩)
 have x:WExt w ⟨w.mu,w.S.set n ob',upd w.H a o,w.tmp⟩:=⟨fun _ _ h=>h,fun b u h nm _=>⟨(upd_ne (nA b nm)).trans h,fun m=>nm (mb b m)⟩,fun _ h=> .inl h,fun _ h=>h⟩
 have lvOf:∀(m:Nat) (o':O),(w.S.set n ob')[m]? =some o'→o'.own→∃o2,w.S[m]? =some o2∧o2.own:=fun m o' h l=>by
  rcases back m o' h with⟨e,_⟩|⟨_,q⟩
  ·subst e;exact⟨ob,hn,lv.own⟩
  ·exact⟨o',q,l⟩
 have nmA: ¬ob'.live→¬Mut ⟨w.mu,w.S.set n ob',upd w.H a o,w.tmp⟩ a:=fun nl m=>by
  rcases m with⟨m,o',h1,l1,h2⟩|m
  ·rcases back m o' h1 with⟨_,e2⟩|⟨ne,q⟩
   ·subst e2;exact nl l1
   ·exact ne (sr.inj m n a o' ob q hn l1.own lv.own h2 ha)
  ·exact(sr.tm a m).2 ⟨n,ob,hn,lv,ha⟩
 refine⟨x,⟨by simp[sr.len],fun i j b o1 o2 h1 h2 l1 l2 m1 m2=> ?_,fun m o' b h1 h2=> ?_,fun b hb=> ?_⟩⟩
 ·obtain⟨p1,q1,r1⟩:=lvOf i o1 h1 l1
  obtain⟨p2,q2,r2⟩:=lvOf j o2 h2 l2
  exact sr.inj i j b p1 p2 q1 q2 r1 r2 m1 m2
 ·rcases back m o' h1 with⟨e,e2⟩|⟨ne,q⟩
  ·subst e e2
   have e3:b=a:=Option.some.inj (h2.symm.trans ha)
   subst e3
   exact hor _ x upd_same nmA
  ·have h:=sr.obj m o' b q h2
   refine h.keep x noT fun l=>upd_ne fun e=>ne ?_
   subst e
   exact sr.inj m n _ o' ob q hn l.own lv.own h2 ha
 ·obtain⟨⟨u,e⟩,nm⟩:=sr.tm b hb
  exact⟨⟨u,(upd_ne (nA b nm)).trans e⟩,fun m=>nm (mb b m)⟩
theorem set_obj {n:Nat} {a:Addr} {ob ob':O} (sr:SRep G w) (hn:w.S[n]? =some ob) (lv:ob.live) (ha:w.mu[n]? =some a) (hor:∀w',WExt w w'→w'.H a=some o→ORep G w' a ob'):
 WExt w ⟨w.mu,w.S.set n ob',upd w.H a o,w.tmp⟩∧SRep G ⟨w.mu,w.S.set n ob',upd w.H a o,w.tmp⟩:=set_obj' sr hn lv ha fun w' x e _=>hor w' x e
end
end L3
namespace L3
open PySem PySem.Spec PyProof.Rows L2
section
variable {G:GC} {X:Cx} {Wx:WX} {pos:Pos}
theorem q_tnot {c:Expr} {m:TD} (h:PT X c (tT G m Wx)):PT X (.UnaryOp .Not c pos) (tT G (tNot m) Wx):=ptI (pt_not h) fun σ H Q q=>by
 obtain⟨w,env,rfl,sr,er,p⟩:=q
 refine⟨w,env,rfl,sr,er,(Post.bind (Ra:=fun _ (a b:Bool)=>a=b) p).mono (fun x H1 m=> ?_) fun _ _ _ h=>h⟩
 obtain⟨w1,d1,rfl,x1,s1,rp1,p1⟩:=m
 subst rp1
 exact Post.ret (Ra:=fun _ (a b:Bool)=>a=b) s1 rfl p1
theorem imp_and {a b:TD} :∀ σ H Q,tT G (tAnd a b) Wx σ H Q→L2.tAnd (tT G a Wx) (tT G b Wx) σ H Q:=by
 intro σ H Q q
 obtain⟨w,env,rfl,sr,er,p⟩:=q
 refine⟨w,env,rfl,sr,er,(Post.bind (Ra:=fun _ (a b:Bool)=>a=b) p).mono (fun x H1 m=> ?_) fun _ _ _ h=>h⟩
 obtain⟨w1,d1,rfl,x1,s1,rp1,p1⟩:=m
 subst rp1
 cases d1 with
 |true=>exact iteT ⟨w1,env,rfl,s1,er.mono x1,p1⟩
 |false=>exact iteF (Post.ret (Ra:=fun _ (a b:Bool)=>a=b) s1 rfl p1)
theorem imp_or {a b:TD} :∀ σ H Q,tT G (tOr a b) Wx σ H Q→L2.tOr (tT G a Wx) (tT G b Wx) σ H Q:=by
 intro σ H Q q
 obtain⟨w,env,rfl,sr,er,p⟩:=q
 refine⟨w,env,rfl,sr,er,(Post.bind (Ra:=fun _ (a b:Bool)=>a=b) p).mono (fun x H1 m=> ?_) fun _ _ _ h=>h⟩
 obtain⟨w1,d1,rfl,x1,s1,rp1,p1⟩:=m
 subst rp1
 cases d1 with
 |true=>exact iteT (Post.ret (Ra:=fun _ (a b:Bool)=>a=b) s1 rfl p1)
 |false=>exact iteF ⟨w1,env,rfl,s1,er.mono x1,p1⟩
theorem q_expr {e:Expr} {m:ED} (h:PE X e (tE G m Wx)) (hs:swapsWith e none pos.line X.env=pure false:=by rfl):PS X (.Expr e pos) (tS G (sExpr m) Wx):=psI (ps_expr h hs) fun D σ H q=>by
 obtain⟨w,env,rfl,sr,er,p⟩:=q
 refine⟨w,env,rfl,sr,er,(PostS.ofR (Ra:=Rep G) er p).mono (fun x H1 m=> ?_) fun _ _ _ h=>h⟩
 obtain⟨w1,d1,rfl,x1,s1,rp1,p1⟩:=m
 exact p1 σ w1 (.refl w1) rfl s1 (er.mono x1)
theorem q_ret {e:Expr} {m:ED} (h:PE X e (tE G m Wx)):PS X (.Return (some e) pos) (tS G (sRet m) Wx):=psI (ps_ret h) fun D σ H q=>by
 obtain⟨w,env,rfl,sr,er,p⟩:=q
 refine⟨w,env,rfl,sr,er,(PostS.ofR (Ra:=Rep G) er p).mono (fun x H1 m=> ?_) fun _ _ _ h=>h⟩
 obtain⟨w1,d1,rfl,x1,s1,rp1,p1⟩:=m
 exact p1 x w1 (.refl w1) rfl s1 rp1
theorem q_if {c:Expr} {a b:List Stmt} {mc:TD} {ma mb:SD} (hc:PT X c (tT G mc Wx)) (ha:PSs X a (tS G ma Wx)) (hb:PSs X b (tS G mb Wx)):PS X (.If c a b pos) (tS G (sIf mc ma mb) Wx):=psI (ps_if hc ha hb) fun D σ H q=>by
 obtain⟨w,env,rfl,sr,er,p⟩:=q
 refine⟨w,env,rfl,sr,er,(PostS.ofR (Ra:=fun _ (a b:Bool)=>a=b) er p).mono (fun x H1 m=> ?_) fun _ _ _ h=>h⟩
 obtain⟨w1,d1,rfl,x1,s1,rp1,p1⟩:=m
 subst rp1
 cases d1 with
 |true=>exact iteT ⟨w1,env,rfl,s1,er.mono x1,p1⟩
 |false=>exact iteF ⟨w1,env,rfl,s1,er.mono x1,p1⟩
theorem q_snil:PSs X [] (tS G sSkip Wx):=pssI pss_nil fun D σ H q=>by
 obtain⟨w,env,rfl,sr,er,p⟩:=q
 exact p σ w (.refl w) rfl sr er
theorem q_scons {st:Stmt} {rest:List Stmt} {a b:SD} (h1:PS X st (tS G a Wx)) (h2:PSs X rest (tS G b Wx)):PSs X (st::rest) (tS G (sSeq a b) Wx):=pssI (pss_cons h1 h2) fun D σ H q=>by
 obtain⟨w,env,rfl,sr,er,p⟩:=q
 refine⟨w,env,rfl,sr,er,?_⟩
 unfold sSeq at p
 cases h:a env w.S with
 |nx env1 S1=>
  rw[h] at p
  intro σ' w' e hs s' er'
  subst hs
  exact⟨w',env1,rfl,s',er',PostS.shift e p⟩
 |ret d S1=>rw[h] at p;exact p
 |brk env1 S1=>rw[h] at p;exact p
 |ct env1 S1=>rw[h] at p;exact p
 |exc e env1 S1=>rw[h] at p;exact p
 |bad=>rw[h] at p;exact p.elim
theorem q_sone {st:Stmt} {a:SD} (h1:PS X st (tS G a Wx)):PSs X [st] (tS G a Wx):=pss_one h1
def tG (G:GC) (g:GD):TG:=fun v σ H Q=>∃w env d,w.H=H∧SRep G w∧ERep G w env σ ∧Rep G w d v∧
 match g d env w.S with
 | .nx env' S'=>∀ σ' w',WExt w w'→w'.S=S'→SRep G w'→ERep G w' env' σ'→Q σ' w'.H
 | _=>False
theorem pgI {e:Expr} {t t':TG} (h:PG X e t) (i:∀v σ H Q,t' v σ H Q→t v σ H Q):PG X e t':=⟨fun pins s σ H v u Q I r q=>h.run pins s σ H v u Q I r (i _ _ _ _ q)⟩
theorem q_gname {e:Expr} {i:Nat} (h:PG X e (L2.gName i)):PG X e (tG G (gName i)):=pgI h fun v σ H Q q=>by
 obtain⟨w,env,d,rfl,sr,er,rp,p⟩:=q
 exact p _ w (.refl w) rfl sr (er.set i rp)
def GOk (g:GD):Prop:=∀d env S,(∃ env' S',g d env S= .nx env' S')∨g d env S= .bad
theorem q_asg {tg e:Expr} {m:ED} {g:GD} (he:PE X e (tE G m Wx)) (hg:PG X tg (tG G g)) (hs:swapsWithSole [tg] e pos.line X.env=pure false:=by rfl) (hw:swappedStores [tg] e X.env=pure none:=by rfl)
 (h1:(assignEach [tg] X.env).map (·.2)= [assign tg X.env] :=by rfl) (gn:GOk g):PS X (.Assign [tg] e pos) (tS G (sAsg m g) Wx):=psI (ps_asg he hg hs hw h1) fun D σ H q=>by
 obtain⟨w,env,rfl,sr,er,p⟩:=q
 refine⟨w,env,rfl,sr,er,(PostS.ofR (Ra:=Rep G) er p).mono (fun x H1 m=> ?_) fun _ _ _ h=>h⟩
 obtain⟨w1,d1,rfl,x1,s1,rp1,p1⟩:=m
 refine⟨w1,env,d1,rfl,s1,er.mono x1,rp1,?_⟩
 rcases gn d1 env w1.S with⟨env',S',h⟩|h
 ·rw[h] at p1 ⊢;exact p1
 ·rw[h] at p1;exact p1.elim
theorem q_set {i:Nat} {x:Str} {e:Expr} {m:ED} {pos':Pos} (hN:X.N.Nodup) (hi:X.N[i]? =some x) (hx:Loc X.env.scope x) (he:PE X e (tE G m Wx)) (hs:swapsWith e (some (.Name x pos')) pos.line X.env=pure false:=by rfl) (hf:X.fn x=true∨X.env.scope.names.lookup x=some .local:=by first|exact .inl rfl|exact .inr rfl|assumption):
 PS X (.Assign [.Name x pos'] e pos) (tS G (sAsg m (gName i)) Wx):=psI (ps_set hN hi hx he hs hf) fun D σ H q=>by
 obtain⟨w,env,rfl,sr,er,p⟩:=q
 refine⟨w,env,rfl,sr,er,(PostS.ofR (Ra:=Rep G) er p).mono (fun x H1 m=> ?_) fun _ _ _ h=>h⟩
 obtain⟨w1,d1,rfl,x1,s1,rp1,p1⟩:=m
 exact p1 _ w1 (.refl w1) rfl s1 ((er.mono x1).set i rp1)
structure ItOk (G:GC) (w:Wd) (J:It) (xs:List D):Prop where
 go:∀(T:List Addr) w',Tok T w→WX' T w w'→SRep G w'→∀(i:Nat) (d:D),xs[i]? =some d→J.go i w'.H∧∀x H'',J.yld i w'.H x H''→∃w'',w''.H=H''∧WExt w' w''∧w''.S=w'.S∧SRep G w''∧Rep G w'' d x
 stop:∀(T:List Addr) w',Tok T w→WX' T w w'→SRep G w'→J.stop xs.length w'.H
abbrev ID:=EnvD→Store→R (List D)
def tI (G:GC) (m:ID) (Wx:WX):TI:=fun σ H Rr=>∃w env,w.H=H∧SRep G w∧ERep G w env σ ∧Post G w (m env w.S) (fun w' xs (J:It)=>ItOk G w' J xs) Rr (fun C dx H'=>Wx C dx σ H')
end
end L3
namespace L3
open PySem PySem.Spec PyProof.Rows L2
def sgn (c:Nat):D:= .str ⟨#[c]⟩
def itemsD (x:D) (S:Store):R (List D):=match x with
 | .tup l=> .ok l S
 | .lst l=> .ok l S
 | .str s=> .ok (s.cps.toList.map sgn) S
 | .scr ns=> .ok (ns.map .int) S
 | .obj n=>match S[n]? with
   |some (.ptp l)=> .ok l S
   | _=> .bad
 | _=> .bad
def iSeq (a:ED):ID:=fun env S=>(a env S).bind fun x S1=>itemsD x S1
def rangeD (lo hi:Int):List D:=(List.range (hi-lo).toNat).map fun i=> .int (lo+(i:Nat))
def okRng (i:Int):Bool:=decide (-(2 ^ 62)≤i∧i<2 ^ 62)
def range1:List D→Store→R (List D):=fun xs S=>match xs with
 | [.int j] =>if okRng j then .ok (rangeD 0 j) S else .bad
 | _=> .bad
def range2:List D→Store→R (List D):=fun xs S=>match xs with
 | [.int i, .int j] =>if okRng i&&okRng j then .ok (rangeD i j) S else .bad
 | _=> .bad
def iArgs (f:List D→Store→R (List D)) (a:AD):ID:=fun env S=>(a env S).bind fun xs S1=>f xs S1
theorem piI {X:Cx} {tg e:Expr} {t t':TI} (h:PI X tg e t) (i:∀ σ H R,t' σ H R→t σ H R):PI X tg e t':=⟨fun pins s σ H R I q=>h.run pins s σ H R I (i _ _ _ q)⟩
section
variable {G:GC} {X:Cx} {Wx:WX} {pos:Pos}
theorem RepL_ints {w:Wd} :∀ {ns:List Int} {vs:List V},RepL G w (ns.map .int) vs↔vs=ns.map V.int
 | [],vs=>by simp[RepL]
 |n::ns,vs=>by
  simp only[List.map_cons,RepL,Rep]
  constructor
  ·rintro⟨v,r,rfl,rfl,h⟩;rw[RepL_ints.mp h]
  ·rintro rfl;exact⟨_,_,rfl,rfl,RepL_ints.mpr rfl⟩
theorem fr_tok {T:List Addr} {w:Wd} (h:∀a ∈ T,w.H a=none):Tok T w:=fun a ha=> .inr (h a ha)
theorem it_list {w:Wd} {a:Addr} {vs:List V} {l:List D} (h:(w.H a=some (.lst vs)∧¬Mut w a)∨Fz w a (.lst vs)∨KL G.K a vs) (r:RepL G w l vs):ItOk G w (Itl G.K a) l:=by
 have sq:∀(T:List Addr) w',Tok T w→WX' T w w'→SqL G.K w'.H a vs:=fun T w' hT x=>by
  rcases h with⟨h,nm⟩|h|h
  ·exact .inl (.inl (x.keepM hT h nm).1)
  ·exact .inl (Fz.monoT x hT h).1
  ·exact .inr h
 have inj:∀(T:List Addr) w',Tok T w→WX' T w w'→∀(i:Nat) (d:D),l[i]? =some d→∃v,vs[i]? =some v∧Rep G w' d v:=fun T w' hT x i d e=>by
  obtain⟨v,q1,q2⟩:=r.get e
  exact⟨v,q1,Rep.monoT x hT _ _ q2⟩
 refine⟨fun T w' hT x s i d e=> ?_,fun T w' hT x s=>⟨vs,sq T w' hT x,by rw[r.length];exact Nat.le_refl _⟩⟩
 obtain⟨v,q1,q2⟩:=inj T w' hT x i d e
 refine⟨⟨vs,v,sq T w' hT x,q1⟩,fun y H'' hy=> ?_⟩
 obtain⟨rfl,hy⟩:=hy
 have e2:=hy vs (sq T w' hT x)
 rw[q1] at e2;cases e2
 exact⟨w',rfl, .refl w',rfl,s,q2⟩
theorem it_tup {w:Wd} {a:Addr} {vs:List V} {l:List D} (h:TupAt G w a vs l) (r:RepL G w l vs):ItOk G w (Itt G.K a) l:=by
 have sq:∀(T:List Addr) w',Tok T w→WX' T w w'→SqT G.K w'.H a vs:=fun T w' hT x=>by
  rcases h with⟨h,nm⟩|h
  ·exact .inl (.inl (x.keepM hT h nm).1)
  ·exact .inr h.1
 refine⟨fun T w' hT x s i d e=> ?_,fun T w' hT x s=>⟨vs,sq T w' hT x,by rw[r.length];exact Nat.le_refl _⟩⟩
 obtain⟨v,q1,q2⟩:=r.get e
 refine⟨⟨vs,v,sq T w' hT x,q1⟩,fun y H'' hy=> ?_⟩
 obtain⟨rfl,hy⟩:=hy
 have e2:=hy vs (sq T w' hT x)
 rw[q1] at e2;cases e2
 exact⟨w',rfl, .refl w',rfl,s,Rep.monoT x hT _ _ q2⟩
theorem it_rng {w:Wd} {lo:Int} {n:Nat} :ItOk G w (Itr lo n) ((List.range n).map fun i=> .int (lo+(i:Nat))):=by
 refine⟨fun T w' hT x s i d e=> ?_,fun T w' hT x s=>by simp[Itr]⟩
 rw[List.getElem?_map] at e
 by_cases hi:i<n
 ·rw[List.getElem?_range hi] at e
  cases e
  refine⟨hi,fun y H'' hy=> ?_⟩
  obtain⟨rfl,rfl⟩:=hy
  exact⟨w',rfl, .refl w',rfl,s,by simp[Rep]⟩
 ·rw[List.getElem?_eq_none (by simpa using hi)] at e;cases e
theorem it_str {w:Wd} {z:Str} :ItOk G w (Its z) (z.cps.toList.map sgn):=by
 refine⟨fun T w' hT x s i d e=> ?_,fun T w' hT x s=>by simp[Its]⟩
 rw[List.getElem?_map] at e
 cases q:z.cps.toList[i]? with
 |none=>rw[q] at e;cases e
 |some c=>
  rw[q] at e
  cases e
  have hi:i<z.cps.size:=by simpa using(List.getElem?_eq_some_iff.mp q).1
  refine⟨hi,fun y H'' hy=> ?_⟩
  obtain⟨rfl,c',h1,rfl⟩:=hy
  have:c'=c:=by
   have h2:z.cps.toList[i]? =some c':=by simpa using h1
   rw[h2] at q;exact Option.some.inj q
  subst this
  exact⟨w',rfl, .refl w',rfl,s,by simp[Rep,sgn]⟩
theorem it_ptp {w:Wd} {a:Addr} {o:Obj} {vs:List V} {l:List D} (h:w.H a=some (.frz o (.tup vs))∧¬Mut w a) (r:RepL G w l vs):ItOk G w (Itt G.K a) l:=by
 have sq:∀(T:List Addr) w',Tok T w→WX' T w w'→SqT G.K w'.H a vs:=fun T w' hT x=> .inl (.inr ⟨o,(x.keepM hT h.1 h.2).1⟩)
 refine⟨fun T w' hT x s i d e=> ?_,fun T w' hT x s=>⟨vs,sq T w' hT x,by rw[r.length];exact Nat.le_refl _⟩⟩
 obtain⟨v,q1,q2⟩:=r.get e
 refine⟨⟨vs,v,sq T w' hT x,q1⟩,fun y H'' hy=> ?_⟩
 obtain⟨rfl,hy⟩:=hy
 have e2:=hy vs (sq T w' hT x)
 rw[q1] at e2;cases e2
 exact⟨w',rfl, .refl w',rfl,s,Rep.monoT x hT _ _ q2⟩
theorem q_iter {tg e:Expr} {m:ED} (hK:X.K=G.K) (h:PE X e (tE G m Wx)):PI X tg e (tI G (iSeq m) Wx):=by
 refine⟨fun pins s σ H R I q=> ?_⟩
 obtain⟨w,env,rfl,sr,er,p⟩:=q
 refine thn (h.run pins s σ w.H _ I ⟨w,env,rfl,sr,er,Post.bind p⟩) fun v s1 ⟨x,H1,I1,r1,q1⟩=> ?_
 obtain⟨w1,d1,rfl,x1,sr1,rp1,p1⟩:=q1
 have lst:∀ {a:Addr} {vs:List V},SqL X.K w1.H a vs→R (Itl G.K a) w1.H→wpAny (model X.prog X.w) X.A (pyIter (.ref a)) (PIE X pins σ tg R) X.xe s1:=fun {a vs} hq q=>by
  obtain⟨its,rv,p,hz⟩:=I1.list hq
  refine wpAny_pyIter_list p.isList ?_
  refine⟨s1.heap.objs.size,[s1.heap.objs.size],_,_,w1.H,rfl,I1.kept (t':=s1.toks) fun b o e=>Heap.get?_push_of_some _ e,turn_list a _,⟨_,Heap.get?_push_size _ rfl,rfl,rfl⟩,fun b hb=> ?_,by rw[hK];exact q⟩
  have e:b=s1.heap.objs.size:=by simpa using hb
  subst e
  exact I1.fpOk (Nat.le_refl _) (I1.hok.fresh (Nat.le_refl _))
 cases d1 with
 |tup l=>
  simp only[Rep] at rp1
  obtain⟨a,vs,rfl,hq,rl⟩:=rp1
  cases r1
  have q:=p1 (Itt G.K a) w1 (.refl _) rfl sr1 (it_tup hq rl)
  have hq':SqT X.K w1.H a vs:=by rw[hK];exact hq.imp (fun z=> .inl z.1) (fun z=>z.1)
  obtain⟨its,rv,p,hz⟩:=I1.tuple hq'
  refine wpAny_pyIter_tuple (show s1.heap.IsTuple a its.toArray from p) ?_
  refine⟨s1.heap.objs.size,[s1.heap.objs.size],_,_,w1.H,rfl,I1.kept (t':=s1.toks) fun b o e=>Heap.get?_push_of_some _ e,turn_tuple a _,⟨_,Heap.get?_push_size _ rfl,rfl,rfl⟩,fun b hb=> ?_,by rw[hK];exact q⟩
  have e:b=s1.heap.objs.size:=by simpa using hb
  subst e
  exact I1.fpOk (Nat.le_refl _) (I1.hok.fresh (Nat.le_refl _))
 |lst l=>
  simp only[Rep] at rp1
  obtain⟨a,vs,rfl,hq,nm,rl⟩:=rp1
  cases r1
  exact lst (vs:=vs) (.inl (.inl hq)) (p1 (Itl G.K a) w1 (.refl _) rfl sr1 (it_list (.inl ⟨hq,nm⟩) rl))
 |scr ns=>
  simp only[Rep] at rp1
  obtain⟨a,rfl,hq⟩:=rp1
  cases r1
  exact lst (vs:=ns.map V.int) (by rw[hK];exact hq.imp (fun z=>z.1) id) (p1 (Itl G.K a) w1 (.refl _) rfl sr1 (it_list (.inr hq) (RepL_ints.mpr rfl)))
 |str z=>
  simp only[Rep] at rp1
  subst rp1
  obtain⟨t,rfl⟩:=r1
  have q:=p1 (Its z) w1 (.refl _) rfl sr1 it_str
  cases ha:z.cps.all (· <128)
  ·exact wpAny_pyIter_wide ha (pi_one (tk:=s1.toks) I1 _ (turn_str _ z t "str_iterator" (.inr rfl)) ⟨_,Heap.get?_push_size _ rfl,rfl,rfl⟩ q)
  ·exact wpAny_pyIter_ascii ha (pi_one (tk:=s1.toks) I1 _ (turn_str _ z t "str_ascii_iterator" (.inl rfl)) ⟨_,Heap.get?_push_size _ rfl,rfl,rfl⟩ q)
 |obj n=>
  simp only[itemsD] at p1
  split at p1
  ·rename_i l hn
   simp only[Rep] at rp1
   obtain⟨a,hm,rfl⟩:=rp1
   obtain⟨o,vs,hq,_,rl⟩:=sr1.obj n _ a hn hm
   cases r1
   have q:=p1 (Itt G.K a) w1 (.refl _) rfl sr1 (it_ptp hq rl)
   have hq':SqT X.K w1.H a vs:= .inl (.inr ⟨o,hq.1⟩)
   obtain⟨its,rv,p,hz⟩:=I1.tuple hq'
   refine wpAny_pyIter_tuple (show s1.heap.IsTuple a its.toArray from p) ?_
   refine⟨s1.heap.objs.size,[s1.heap.objs.size],_,_,w1.H,rfl,I1.kept (t':=s1.toks) fun b o e=>Heap.get?_push_of_some _ e,turn_tuple a _,⟨_,Heap.get?_push_size _ rfl,rfl,rfl⟩,fun b hb=> ?_,by rw[hK];exact q⟩
   have e:b=s1.heap.objs.size:=by simpa using hb
   subst e
   exact I1.fpOk (Nat.le_refl _) (I1.hok.fresh (Nat.le_refl _))
  ·exact p1.elim
 | _=>exact p1.elim
theorem q_range1 {tg a:Expr} {m:AD} {p:Pos} (hg:Gl X "range") (hm:X.mg "range" =none) (ha:PA X [a] (tA G m Wx)) (hs:starEach [a] X.env= [(false,eval a X.env)] :=by rfl):PI X tg (.Call (.Name "range" p) [a] [] pos) (tI G (iArgs range1 m) Wx):=piI (pi_range1 hg hm ha hs) fun σ H R q=>by
 obtain⟨w,env,rfl,sr,er,p⟩:=q
 refine⟨w,env,rfl,sr,er,(Post.bind p).mono (fun x H1 m=> ?_) fun _ _ _ h=>h⟩
 obtain⟨w1,d1,rfl,x1,s1,rp1,p1⟩:=m
 unfold range1 at p1
 split at p1
 ·rename_i j
  split at p1
  ·rename_i hj
   have hj: -(2 ^ 62)≤j∧j<2 ^ 62:=by simpa[okRng] using hj
   simp only[RepL,Rep] at rp1
   obtain⟨v,r,rfl,rfl,rfl⟩:=rp1
   refine⟨j,rfl,hj.1,hj.2,?_⟩
   have q:=p1 (Itr 0 j.toNat) w1 (.refl _) rfl s1 (by have:=it_rng (G:=G) (w:=w1) (lo:=0) (n:=j.toNat);simpa[rangeD] using this)
   exact q
  ·exact p1.elim
 ·exact p1.elim
def sFor (mi:ID) (g:GD) (body:SD):SD:=fun env S=>(mi env S).toS env fun xs S1=>forL g body xs env S1
theorem q_for {tg iter:Expr} {body:List Stmt} {mi:ID} {g:GD} {mb:SD} (hp:PassesOwn (model X.prog X.w) X.A X.env X.xe) (hc:X.calm=true) (hi:PI X tg iter (tI G mi Wx)) (hg:PG X tg (tG G g)) (hb:PSs X body (tS G mb Wx))
 (hs:∀x,foldedSetIterable iter X.env x=pure x:=by intro _;rfl):PS X (.For tg iter body [] pos) (tS G (sFor mi g mb) Wx):=psI (ps_for hp hc hi hg hb hs) fun D σ H q=>by
 obtain⟨w,env,rfl,sr,er,p⟩:=q
 refine⟨w,env,rfl,sr,er,(PostS.ofR (Ra:=fun w' xs (J:It)=>ItOk G w' J xs) er p).mono (fun J H1 m=> ?_) fun _ _ _ h=>h⟩
 obtain⟨w1,xs,rfl,x1,s1,io,p1⟩:=m
 refine⟨fun i m σ H=>∃w env,w.H=H∧SRep G w∧ERep G w env σ ∧WExt w1 w∧i+m=xs.length∧PostS G w (forL g mb (xs.drop i) env w.S) D Wx,⟨xs.length,w1,env,rfl,s1,er.mono x1, .refl _,by omega,by simpa using p1⟩,fun i m σ H hW=> ?_⟩
 obtain⟨w2,env2,rfl,s2,er2,x2,em,p2⟩:=hW
 by_cases hi:i<xs.length
 ·have e:xs[i]? =some xs[i] :=List.getElem?_eq_getElem hi
  rw[List.drop_eq_getElem_cons hi] at p2
  obtain⟨go,yl⟩:=io.go [] w2 (fun a h=>by simp at h) x2 s2 i xs[i] e
  refine .inr ⟨go,fun σ' H'=>∃w env,w.H=H'∧SRep G w∧ERep G w env σ'∧WExt w1 w∧(i+1)+(m-1)=xs.length∧PostS G w (forL g mb (xs.drop (i+1)) env w.S) D Wx,fun σ' H' hN=>⟨m-1,by omega,hN⟩,fun x H' hy=> ?_⟩
  obtain⟨w3,rfl,x3,eS,s3,rp3⟩:=yl x H' hy
  refine⟨w3,env2,xs[i],rfl,s3,er2.mono x3,rp3,?_⟩
  rw[forL] at p2
  rw[eS]
  cases hg2:g xs[i] env2 w2.S with
  |nx env4 S4=>
   rw[hg2] at p2
   intro σ4 w4 x4 e4 s4 er4
   subst e4
   refine⟨w4,env4,rfl,s4,er4,?_⟩
   have x24:WExt w1 w4:=WX'.trans (WX'.trans x2 x3) x4
   have p3:=PostS.shift (WX'.trans x3 x4) p2
   cases hb4:mb env4 w4.S with
   |nx env5 S5=>
    simp only[hb4] at p3
    intro σ5 w5 x5 e5 s5 er5
    subst e5
    exact⟨w5,env5,rfl,s5,er5,WX'.trans x24 x5,by omega,PostS.shift x5 p3⟩
   |ct env5 S5=>
    simp only[hb4] at p3
    intro σ5 w5 x5 e5 s5 er5
    subst e5
    exact⟨w5,env5,rfl,s5,er5,WX'.trans x24 x5,by omega,PostS.shift x5 p3⟩
   |brk env5 S5=>simp only[hb4] at p3;exact p3
   |ret d S5=>simp only[hb4] at p3;exact p3
   |exc e env5 S5=>simp only[hb4] at p3;exact p3
   |bad=>simp only[hb4] at p3;exact p3.elim
  |ret _ _=>rw[hg2] at p2;exact p2.elim
  |brk _ _=>rw[hg2] at p2;exact p2.elim
  |ct _ _=>rw[hg2] at p2;exact p2.elim
  |exc _ _ _=>rw[hg2] at p2;exact p2.elim
  |bad=>rw[hg2] at p2;exact p2.elim
 ·have ei:i=xs.length:=by omega
  subst ei
  refine .inl ⟨io.stop [] w2 (fun a h=>by simp at h) x2 s2,?_⟩
  rw[List.drop_length] at p2
  exact p2 σ w2 (.refl _) rfl s2 er2
end
end L3
namespace L3
open PySem PySem.Spec PyProof.Rows L2
def R.nox {α :Type} (r:R α):R α :=match r with
 | .ok a S=> .ok a S
 | _=> .bad
def wipeD (env:EnvD):List Nat→EnvD
 | [] =>env
 |v::vs=>(wipeD env vs).set v none
def tYesD:TD:=fun _ S=> .ok true S
def lcL (g:GD) (tt:TD) (te:ED) (env:EnvD):List D→Store→R (List D)
 | [],S=> .ok [] S
 |x::xs,S=>match g x env S with
  | .nx env1 S1=>(tt env1 S1).nox.bind fun k S2=>match k with
    |true=>(te env1 S2).nox.bind fun y S3=>(lcL g tt te env xs S3).bind fun ys S4=> .ok (y::ys) S4
    |false=>lcL g tt te env xs S2
  | _=> .bad
def eLc (mi:ID) (vs:List Nat) (g:GD) (tt:TD) (te:ED):ED:=fun env S=>(mi env S).bind fun xs S1=>
 if xs.length≤sizeLine then(lcL g tt te (wipeD env vs) xs S1).bind fun ys S2=> .ok (.lst ys) S2 else .bad
theorem R.bind_assoc {α β γ :Type} (r:R α) (f: α →Store→R β) (g: β →Store→R γ):(r.bind f).bind g=r.bind fun a S=>(f a S).bind g:=by
 cases r<;>rfl
theorem R.bind_ok {α :Type} (r:R α):(r.bind fun a S=> .ok a S)=r:=by cases r<;>rfl
section
variable {G:GC} {X:Cx} {Wx:WX} {pos:Pos}
theorem ERep.unset {w:Wd} {env:EnvD} {σ :L2.St} (i:Nat) (h:ERep G w env σ):ERep G w (env.set i none) (σ.set i none):=by
 refine⟨by simp[h.len],fun j d' e=> ?_⟩
 by_cases hj:i=j
 ·subst hj
  by_cases hi:i<env.length
  ·rw[List.getElem?_set_self hi] at e;cases e
  ·rw[List.getElem?_eq_none (by simpa using hi)] at e;cases e
 ·rw[List.getElem?_set_ne hj] at e ⊢
  exact h.at' j d' e
theorem ERep.wipe {w:Wd} {env:EnvD} {σ :L2.St} (h:ERep G w env σ):∀vs:List Nat,ERep G w (wipeD env vs) (L2.wipe σ vs)
 | [] =>h
 |v::vs=>(ERep.wipe h vs).unset v
theorem wipe_set {σ :L2.St} {i:Nat} {x:Option V} :∀ {vs:List Nat},i ∈ vs→L2.wipe (σ.set i x) vs=L2.wipe σ vs
 | [],h=>by simp at h
 |v::vs,h=>by
  show(L2.wipe (σ.set i x) vs).set v none=(L2.wipe σ vs).set v none
  by_cases hi:i ∈ vs
  ·rw[wipe_set hi]
  ·have hv:i=v:=by simpa[hi] using h
   subst hv
   have:∀ {us:List Nat} {τ :L2.St},i ∉ us→L2.wipe (τ.set i x) us=(L2.wipe τ us).set i x:=by
    intro us
    induction us with
    |nil=>intro τ _;rfl
    |cons u us ih=>
     intro τ hu
     have h1:i≠u:=fun e=>hu (by simp[e])
     have h2:i ∉ us:=fun e=>hu (by simp[e])
     show(L2.wipe (τ.set i x) us).set u none=((L2.wipe τ us).set u none).set i x
     rw[ih h2,List.set_comm _ _ h1]
   rw[this hi,List.set_set]
theorem wipe_sub {σ :L2.St} {vs:List Nat} :∀ {us:List Nat},(∀ i ∈ us,i ∈ vs)→L2.wipe (L2.wipe σ us) vs=L2.wipe σ vs
 | [],_=>rfl
 |u::us,h=>by
  show L2.wipe ((L2.wipe σ us).set u none) vs=_
  rw[wipe_set (h u (by simp)),wipe_sub fun i hi=>h i (by simp[hi])]
mutual
theorem Rep.untmp {w:Wd} {t:List Addr} (ht:∀a ∈ t,a ∈ w.tmp):∀(d:D) (v:V),Rep G w d v→Rep G { w with tmp:=t } d v
 | .non,v,h=>by simpa only[Rep] using h
 | .bl b,v,h=>by simpa only[Rep] using h
 | .int i,v,h=>by simpa only[Rep] using h
 | .str s,v,h=>by simpa only[Rep] using h
 | .tup l,v,h=>by
   simp only[Rep] at h ⊢
   obtain⟨a,vs,e,h1,h2⟩:=h
   exact⟨a,vs,e,h1.imp (fun z=>⟨z.1,fun m=>z.2 (m.imp id (ht a))⟩) id,RepL.untmp ht l vs h2⟩
 | .lst l,v,h=>by
   simp only[Rep] at h ⊢
   obtain⟨a,vs,e,h1,nm,h2⟩:=h
   exact⟨a,vs,e,h1,fun m=>nm (m.imp id (ht a)),RepL.untmp ht l vs h2⟩
 | .dic ks l,v,h=>by
   simp only[Rep] at h ⊢
   obtain⟨a,vs,e,h1,nm,hl,h2⟩:=h
   exact⟨a,vs,e,h1,fun m=>nm (m.imp id (ht a)),hl,RepL.untmp ht l vs h2⟩
 | .obj n,v,h=>by simpa only[Rep] using h
 | .glb y,v,h=>by simpa only[Rep] using h
 | .wtp _,v,h=>by simpa only[Rep] using h
 | .ty n,v,h=>by simpa only[Rep] using h
 | .scr ns,v,h=>by
   simp only[Rep] at h ⊢
   obtain⟨a,e,h1⟩:=h
   exact⟨a,e,h1.imp (fun z=>⟨z.1,fun m=>z.2 (m.imp id (ht a))⟩) id⟩
 | .kd ks l,v,h=>by
   simp only[Rep] at h ⊢
   obtain⟨a,es,n,vs,us,e,h1,h2,h3,h4,ke,h5⟩:=h
   exact⟨a,es,n,vs,us,e,h1,h2,h3,h4,ke,RepL.untmp ht l vs h5⟩
 | .lam t l,v,h=>by
   simp only[Rep] at h ⊢
   exact⟨h.1,⟨h.2.1.1,fun m=>h.2.1.2 (m.imp id (ht t.c))⟩,RepL.untmp ht l t.vs h.2.2⟩
 | .xcp c ks l,v,h=>by
   simp only[Rep] at h ⊢
   obtain⟨a,C,dx,vs,e,h1,⟨h2,nm⟩,h3,h4,h5⟩:=h
   exact⟨a,C,dx,vs,e,h1,⟨h2,fun m=>nm (m.imp id (ht a))⟩,h3,h4.imp id fun⟨d,e1,e2,nd⟩=>⟨d,e1,e2,fun m=>nd (m.imp id (ht d))⟩,RepL.untmp ht l vs h5⟩
theorem RepL.untmp {w:Wd} {t:List Addr} (ht:∀a ∈ t,a ∈ w.tmp):∀(d:List D) (v:List V),RepL G w d v→RepL G { w with tmp:=t } d v
 | [],v,h=>by simpa only[RepL] using h
 |d::ds,v,h=>by
  simp only[RepL] at h ⊢
  obtain⟨y,r,e,h1,h2⟩:=h
  exact⟨y,r,e,Rep.untmp ht d y h1,RepL.untmp ht ds r h2⟩
end
theorem RepKV.untmp {κ :Type} {w:Wd} {t:List Addr} (ht:∀a ∈ t,a ∈ w.tmp):∀(d:List (κ × D)) (v:List (κ × V)),RepKV G w d v→RepKV G { w with tmp:=t } d v
 | [],v,h=>h
 |d::ds,v,h=>by
  obtain⟨y,r,e,h1,h2⟩:=h
  exact⟨y,r,e,Rep.untmp ht _ y h1,RepKV.untmp ht ds r h2⟩
theorem RepN.untmp {w:Wd} {t:List Addr} (ht:∀a ∈ t,a ∈ w.tmp):∀(d:List (NestedKey × D)) (v:List NRow),RepN G w d v→RepN G { w with tmp:=t } d v
 | [],v,h=>h
 |d::ds,v,h=>by
  obtain⟨b,u,y,e,h1,h2,h3,h4⟩:=h
  exact⟨b,u,y,e,Rep.untmp ht _ _ h1,h2,Rep.untmp ht _ u h3,RepN.untmp ht ds y h4⟩
theorem ORep.untmp {w:Wd} {t:List Addr} (ht:∀a ∈ t,a ∈ w.tmp) {a:Addr} :∀ {ob:O},ORep G w a ob→ORep G { w with tmp:=t } a ob
 | .lst _,⟨vs,h1,h2⟩=>⟨vs,h1,RepL.untmp ht _ _ h2⟩
 | .dK _,⟨vs,h1,h2⟩=>⟨vs,h1,RepKV.untmp ht _ _ h2⟩
 | .dT _,⟨vs,h1,h2⟩=>⟨vs,h1,RepKV.untmp ht _ _ h2⟩
 | .dN _,⟨vs,h1,h2⟩=>⟨vs,h1,RepN.untmp ht _ _ h2⟩
 | .ins _ _,⟨C,dx,vs,h1,h2,h3⟩=>⟨C,dx,vs,h1,RepKV.untmp ht _ _ h2,h3⟩
 | .ptp _,⟨o,vs,⟨h1,nm⟩,h2,h3⟩=>⟨o,vs,⟨h1,fun m=>nm (m.imp id (ht a))⟩,h2,RepL.untmp ht _ _ h3⟩
 | .lkd _,⟨o,vs,⟨h1,nm⟩,h3⟩=>⟨o,vs,⟨h1,fun m=>nm (m.imp id (ht a))⟩,RepKV.untmp ht _ _ h3⟩
 | .dead,⟨h1,nm⟩=>⟨h1,fun m=>nm (m.imp id (ht a))⟩
 | .tab _ _,⟨h0,ps,h1,h2,h3⟩=>⟨h0,ps,h1,h2,fun pos cv hc=>let⟨c,e1,e2⟩:=h3 pos cv hc;⟨c,e1,e2.1,fun m=>e2.2 (m.imp id (ht c))⟩⟩
theorem SRep.untmp {w:Wd} {t:List Addr} (ht:∀a ∈ t,a ∈ w.tmp) (s:SRep G w):SRep G { w with tmp:=t } :=
 ⟨s.len,s.inj,fun n ob a h1 h2=>ORep.untmp ht (s.obj n ob a h1 h2),fun a ha=>s.tm a (ht a ha)⟩
def tGW (G:GC) (g:GD) (vs:List Nat):TG:=fun v σ H Q=>∃w env d,w.H=H∧SRep G w∧ERep G w env σ ∧Rep G w d v∧
 match g d env w.S with
 | .nx env' S'=>∀ σ' w',WExt w w'→w'.S=S'→SRep G w'→ERep G w' env' σ'→L2.wipe σ' vs=L2.wipe σ vs→Q σ' w'.H
 | _=>False
theorem q_gnameW {e:Expr} {i:Nat} {vs:List Nat} (h:PG X e (L2.gName i)) (hv:i ∈ vs):PG X e (tGW G (gName i) vs):=pgI h fun v σ H Q q=>by
 obtain⟨w,env,d,rfl,sr,er,rp,p⟩:=q
 exact p _ w (.refl w) rfl sr (er.set i rp) (wipe_set hv)
theorem imp_lc {mi:ID} {vs:List Nat} {g:GD} {tt:TD} {te:ED} :∀ σ H Q,tE G (eLc mi vs g tt te) Wx σ H Q→tLc (tI G mi Wx) (tGW G g vs) (tT G tt WF) (tE G te WF) vs σ H Q:=by
 intro σ H Q q
 obtain⟨w,env,rfl,sr,er,p⟩:=q
 refine⟨w,env,rfl,sr,er,(Post.bind (Ra:=fun w' xs (J:It)=>ItOk G w' J xs) p).mono (fun J H1 m=> ?_) fun _ _ _ h=>h⟩
 obtain⟨w1,xs,rfl,x1,s1,io,p1⟩:=m
 intro L hL
 have hfr:∀a ∈ [L],w1.H a=none:=fun a h=>by have:a=L:=by simpa using h
                                            rw[this];exact hL
 by_cases hz:xs.length≤sizeLine
 ·rw[if_pos hz] at p1
  have er1:=(er.mono x1).wipe vs
  have h0:WX' [L] w1 ⟨w1.mu,w1.S,upd w1.H L (.lst []),L::w1.tmp⟩:=
   ⟨fun _ _ h=>h,fun a o h nm ha=>⟨(upd_ne (by simpa using ha)).trans h,nm⟩,fun a h=>by
     rcases List.mem_cons.mp h with e|h
     ·exact .inr (by simp[e])
     ·exact .inl h,fun a h=>List.mem_cons_of_mem _ h⟩
  have nL: ¬MutS w1 L:=fun m=>by obtain⟨u,e⟩:=MutS.there s1 m;rw[hL] at e;cases e
  have sW:SRep G ⟨w1.mu,w1.S,upd w1.H L (.lst []),L::w1.tmp⟩:=by
   refine⟨s1.len,s1.inj,fun n ob a h1 h2=> ?_,fun a ha=> ?_⟩
   ·have h:=s1.obj n ob a h1 h2
    refine h.keep h0 (fr_tok hfr) fun lv=> ?_
    obtain⟨u,e⟩:=h.there lv
    exact upd_ne (ne_of_none e hL)
   ·rcases List.mem_cons.mp ha with e|ha
    ·subst e;exact⟨⟨⟨_,by first|assumption|(intro _ h;cases h)⟩,upd_same⟩,nL⟩
    ·obtain⟨⟨u,e⟩,nm⟩:=s1.tm a ha
     exact⟨⟨u,(upd_ne (ne_of_none e hL)).trans e⟩,nm⟩
  refine⟨fun i m H=>∃w3 acc us,w3.H=H∧SRep G w3∧WX' [L] w1 w3∧L ∈ w3.tmp∧w3.H L=some (.lst us)∧RepL G w3 acc us∧acc.length≤i∧i+m=xs.length∧
   (lcL g tt te (wipeD env vs) xs w1.S)=(lcL g tt te (wipeD env vs) (xs.drop i) w3.S).bind fun ys S2=> .ok (acc++ys) S2,
   ⟨xs.length,_,[],[],rfl,sW,h0,by simp,upd_same,by simp[RepL],Nat.le_refl _,by omega,?_⟩,fun i m H hW=> ?_⟩
  ·simp only[List.drop_zero,List.nil_append,R.bind_ok]
  obtain⟨w3,acc,us,rfl,s3,x3,tm3,hL3,ra3,hlen,em,eq⟩:=hW
  rw[eq] at p1
  by_cases hi:i<xs.length
  ·have e:xs[i]? =some xs[i] :=List.getElem?_eq_getElem hi
   obtain⟨go,yl⟩:=io.go [L] w3 (fr_tok hfr) x3 s3 i xs[i] e
   refine .inr ⟨go,fun H'=>∃w5 acc us,w5.H=H'∧SRep G w5∧WX' [L] w1 w5∧L ∈ w5.tmp∧w5.H L=some (.lst us)∧RepL G w5 acc us∧acc.length≤i+1∧(i+1)+(m-1)=xs.length∧
    (lcL g tt te (wipeD env vs) xs w1.S)=(lcL g tt te (wipeD env vs) (xs.drop (i+1)) w5.S).bind fun ys S2=> .ok (acc++ys) S2,fun H' hN=>⟨m-1,by omega,hN⟩,fun x H' hy=> ?_⟩
   obtain⟨w4,rfl,x4,eS4,s4,rp4⟩:=yl x H' hy
   have x14:WX' [L] w1 w4:=WX'.trans x3 (WX'.wide x4)
   refine⟨w4,wipeD env vs,xs[i],rfl,s4,er1.monoT x14 (fr_tok hfr),rp4,?_⟩
   rw[List.drop_eq_getElem_cons hi,lcL] at eq p1
   rw[eS4]
   cases hg:g xs[i] (wipeD env vs) w3.S with
   |nx env5 S5=>
    rw[hg] at eq p1
    simp only at eq p1
    intro σ5 w5 x5 e5 s5 er5 hw
    subst e5
    refine⟨hw.trans (wipe_sub fun _ h=>h),w5,env5,rfl,s5,er5,?_⟩
    cases ht:tt env5 w5.S with
    |ok k S6=>
     rw[ht] at eq p1
     simp only[R.nox,R.bind] at eq p1
     intro b w6 x6 e6 s6 hb
     subst hb e6
     have x46:WExt w4 w6:=WX'.trans x5 x6
     have x16:WX' [L] w1 w6:=WX'.trans x14 (WX'.wide x46)
     have hL6:w6.H L=some (.lst us):=(x46.keep L _ ((x4.keep L _ hL3 ((s3.tm L tm3).2) (by simp)).1) ((s4.tm L (x4.tmp' L tm3)).2) (by simp)).1
     have tm6:L ∈ w6.tmp:=x46.tmp' L (x4.tmp' L tm3)
     have ra6:RepL G w6 acc us:=RepL.mono (WX'.trans x4 x46) _ _ ra3
     cases k with
     |false=>
      refine iteF ⟨w6,acc,us,rfl,s6,x16,tm6,hL6,ra6,by omega,by omega,?_⟩
      simpa using eq
     |true=>
      refine iteT ⟨w6,env5,rfl,s6,er5.mono x6,?_⟩
      simp only at eq p1
      cases hte:te env5 w6.S with
      |ok y S7=>
       rw[hte] at eq p1
       simp only[R.nox,R.bind] at eq p1
       intro v w7 x7 e7 s7 r7
       subst e7
       have hL7:w7.H L=some (.lst us):=(x7.keep L _ hL6 ((s6.tm L tm6).2) (by simp)).1
       have tm7:L ∈ w7.tmp:=x7.tmp' L tm6
       have nm7: ¬MutS w7 L:=(s7.tm L tm7).2
       have lu:us.length=acc.length:=ra3.length
       refine⟨us,hL7,by omega,?_⟩
       have x8:WX' [L] w7 (w7.put L (.lst (us++ [v]))):=⟨fun _ _ h=>h,fun a o h nm ha=>⟨(upd_ne (by simpa using ha)).trans h,nm⟩,fun a h=> .inl h,fun a h=>h⟩
       have t8:Tok [L] w7:=fun a h=> .inl (by have:a=L:=by simpa using h
                                              rw[this];exact tm7)
       have s8:SRep G (w7.put L (.lst (us++ [v]))):=by
        refine⟨s7.len,s7.inj,fun n ob a h1 h2=> ?_,fun a ha=> ?_⟩
        ·have h:=s7.obj n ob a h1 h2
         exact h.keep x8 t8 fun lv=>upd_ne fun e=>nm7 (by subst e;exact⟨n,ob,h1,lv,h2⟩)
        ·obtain⟨⟨u,e⟩,nm⟩:=s7.tm a ha
         by_cases ea:a=L
         ·subst ea;exact⟨⟨⟨_,by first|assumption|(intro _ h;cases h)⟩,upd_same⟩,nm⟩
         ·exact⟨⟨u,(upd_ne ea).trans e⟩,nm⟩
       refine⟨_,acc++ [y],us++ [v],rfl,s8,WX'.trans (WX'.trans x16 (WX'.wide x7)) x8,tm7,upd_same,?_,by simp;omega,by omega,?_⟩
       ·exact(RepL.monoT x8 t8 _ _ (RepL.mono x7 _ _ ra6)).append (RepL.one (Rep.monoT x8 t8 _ _ r7))
       ·rw[eq]
        show _=(lcL g tt te (wipeD env vs) (List.drop (i+1) xs) w7.S).bind _
        cases lcL g tt te (wipeD env vs) (List.drop (i+1) xs) w7.S<;>simp[R.bind]
      |exc ee S7=>rw[hte] at p1;exact p1.elim
      |bad=>rw[hte] at p1;exact p1.elim
    |exc ee S6=>rw[ht] at p1;exact p1.elim
    |bad=>rw[ht] at p1;exact p1.elim
   |ret _ _=>rw[hg] at p1;exact p1.elim
   |brk _ _=>rw[hg] at p1;exact p1.elim
   |ct _ _=>rw[hg] at p1;exact p1.elim
   |exc _ _ _=>rw[hg] at p1;exact p1.elim
   |bad=>rw[hg] at p1;exact p1.elim
  ·have ei:i=xs.length:=by omega
   subst ei
   refine .inl ⟨io.stop [L] w3 (fr_tok hfr) x3 s3,?_⟩
   rw[List.drop_length] at p1
   have we:WExt w1 { w3 with tmp:=w1.tmp } :=⟨x3.mu,fun a o h nm _=>x3.keep a o h nm (by
    intro ha
    have:a=L:=by simpa using ha
    rw[this,hL] at h;cases h),fun a h=> .inl h,fun a h=>h⟩
   have tinc:∀a,a ∈ w1.tmp→a ∈ w3.tmp:=x3.tmp'
   have se:SRep G { w3 with tmp:=w1.tmp } :=s3.untmp tinc
   have nmL: ¬Mut { w3 with tmp:=w1.tmp } L:=fun m=>m.elim (s3.tm L tm3).2 fun z=>by
    obtain⟨⟨u,e⟩,_⟩:=s1.tm L z
    rw[hL] at e;cases e
   have hr:Rep G { w3 with tmp:=w1.tmp } (.lst (acc++ [])) (.ref L):=by
    simp only[Rep,List.append_nil]
    exact⟨L,us,rfl,hL3,nmL,RepL.untmp tinc _ _ ra3⟩
   exact p1 (.ref L) { w3 with tmp:=w1.tmp } we rfl se hr
 ·rw[if_neg hz] at p1;exact p1.elim
theorem q_lc {elt tg iter:Expr} {ifs:List Expr} {scope:Scope} {own:List (Str × Nat)} {mi:ID} {g:GD} {mt:TD} {me:ED} (hc:X.calm=true) (hN:X.N.Nodup) (hi:PI X tg iter (tI G mi Wx)) (ok:BlkOk X.N X.env.scope scope own)
 (hg:∀(s:Shared) (H:Hp) (C:Addr) (cl:List (Str × Addr)) (fp:List Addr),PG (X.blk s H scope (compEnvC scope cl C X.env) fp) tg (tGW G g (own.map (·.2))))
 (ht:∀(s:Shared) (H:Hp) (C:Addr) (cl:List (Str × Addr)) (fp:List Addr),PTs (X.blk s H scope (compEnvC scope cl C X.env) fp) ifs (tT G mt WF))
 (he:∀(s:Shared) (H:Hp) (C:Addr) (cl:List (Str × Addr)) (fp:List Addr),PE (X.blk s H scope (compEnvC scope cl C X.env) fp) elt (tE G me WF)) (hs:∀x,foldedSetIterable iter X.env x=pure x:=by intro _;rfl):
 PE X (.ListComp elt [⟨tg,iter,ifs,0⟩] scope pos) (tE G (eLc mi (own.map (·.2)) g mt me) Wx):=peI (pe_lc hc hN hi ok hg ht he hs) imp_lc
theorem q_setLc {i:Nat} {y:Str} {py:Pos} {elt tg iter:Expr} {ifs:List Expr} {scope:Scope} {own:List (Str × Nat)} {spos:Pos} {mi:ID} {g:GD} {mt:TD} {me:ED} (hc:X.calm=true) (hN:X.N.Nodup) (hy:X.N[i]? =some y) (hyl:X.env.scope.names.lookup y=some .local)
 (hsw:swapsWith (.ListComp elt [⟨tg,iter,ifs,0⟩] scope pos) (some (.Name y py)) spos.line X.env=pure true) (hi:PI X tg iter (tI G mi Wx)) (ok:BlkOk X.N X.env.scope scope own)
 (hg:∀(s:Shared) (H:Hp) (C:Addr) (cl:List (Str × Addr)) (fp:List Addr),PG (X.blk s H scope (compEnvC scope cl C X.env) fp) tg (tGW G g (own.map (·.2))))
 (ht:∀(s:Shared) (H:Hp) (C:Addr) (cl:List (Str × Addr)) (fp:List Addr),PTs (X.blk s H scope (compEnvC scope cl C X.env) fp) ifs (tT G mt WF))
 (he:∀(s:Shared) (H:Hp) (C:Addr) (cl:List (Str × Addr)) (fp:List Addr),PE (X.blk s H scope (compEnvC scope cl C X.env) fp) elt (tE G me WF)) (hs:∀x,foldedSetIterable iter X.env x=pure x:=by intro _;rfl):
 PS X (.Assign [.Name y py] (.ListComp elt [⟨tg,iter,ifs,0⟩] scope pos) spos) (tS G (sAsg (eLc mi (own.map (·.2)) g mt me) (gName i)) Wx):=psI (ps_setLc hc hN hy hyl hsw hi ok hg ht he hs) fun D σ H q=>by
 obtain⟨w,env,rfl,sr,er,p⟩:=q
 refine imp_lc (Wx:=Wx) σ w.H _ ⟨w,env,rfl,sr,er,(PostS.ofR (Ra:=Rep G) er p).mono (fun x H1 m=> ?_) fun _ _ _ h=>h⟩
 obtain⟨w1,d1,rfl,x1,s1,rp1,p1⟩:=m
 exact p1 _ w1 (.refl w1) rfl s1 ((er.mono x1).set i rp1)
theorem q_tnil:PTs X [] (tT G tYesD WF):=⟨fun pins s σ H Q I q=>by
 obtain⟨w,env,rfl,sr,er,p⟩:=q
 exact pts_nil.run pins s σ w.H Q I (Post.ret (Ra:=fun _ (a b:Bool)=>a=b) sr rfl p)⟩
theorem q_tone {c:Expr} {m:TD} (h:PT X c (tT G m WF)):PTs X [c] (tT G m WF):=pts_one h
end
end L3
namespace L3
open PySem PySem.Spec PyProof.Rows L2
structure RoomG (k:Nat) (A:Around):Prop where
 rm:Room k A
 gd:A.guards=some []
theorem RoomG.deeper {k:Nat} {A:Around} (r:RoomG (k+1) A) (env:Env):RoomG k (A.deeper env):=⟨r.rm.deeper env,r.gd⟩
theorem RoomG.units {k:Nat} {A:Around} (r:RoomG k A):A.units+64<cLine:=r.rm.units
structure FnG (P:Program) (w:World) (K:PySem.W.Frag) (mg:Str→Option Value) (base:Heap) (k:Nat) (f:Addr) (fd:FuncData) (ps:List Str) (sp:Sp):Prop where
 len:∀vs H Q E,sp vs H Q E→vs.length=ps.length
 go:∀(A:Around) (outer:List Env) (s:Shared) (H:Hp) (args:Args) (us:List Value) (vs:List V) (Q:VK) (E:XK),
  RoomG k A→Env0 P w K mg base A outer s H→BindsTo s fd args (ps.zip us)→Vals vs us→sp vs H Q E→codeAny (model P w) A (.call (.ref f) args) (CR (L2.CX P w) outer P w H s Q E) s
theorem FnG.imp {P:Program} {w:World} {K:PySem.W.Frag} {mg:Str→Option Value} {base:Heap} {k:Nat} {f:Addr} {fd:FuncData} {ps:List Str} {sp sp':Sp} (F:FnG P w K mg base k f fd ps sp) (i:∀vs H Q E,sp' vs H Q E→sp vs H Q E):
 FnG P w K mg base k f fd ps sp':=
 ⟨fun _ _ _ _ h=>F.len _ _ _ _ (i _ _ _ _ h),fun A outer s H args us vs Q E r e b v h=>F.go A outer s H args us vs Q E r e b v (i _ _ _ _ h)⟩
theorem FnG.of_def {P:Program} {w:World} {K:PySem.W.Frag} {mg:Str→Option Value} {base:Heap} {x qual:Str} {params:Arguments} {body:List Stmt} {scope:Scope} {dvs:List V} {kws:List (Str × V)} {f:Addr} {fd:FuncData} {N ps:List Str} {k:Nat} {sp:Sp}
 (F:FunD K x qual params body scope dvs kws f fd) (Sc:FnScope N ps scope) (len:∀vs H Q E,sp vs H Q E→vs.length=ps.length)
 (inner:∀(cdv:Value) (A:Around) (outer:List Env) (s:Shared) (H:Hp) (vs:List V) (Q:VK) (E:XK),RoomG k (A.deeper (envOfC qual scope s.heap.objs.size f cdv))→sp vs H Q E→
   ∃t:TS,PSs (cxOf (L2.CX P w) P w K mg base N qual scope f cdv A outer s H E) body t∧t { nx:=fun _ H'=>Q .non H',rt:=Q } (start N vs) H):FnG P w K mg base (k+1) f fd ps sp:=by
 obtain⟨_,_,_,_,_,_,_,cdv,_,_,rfl,place,code,_,_⟩:=F.ex
 refine⟨len,fun A outer s H args us vs Q E room e0 bound rel want=> ?_⟩
 have size:=len _ _ _ _ want
 have inK:K.In s.heap:=e0.mod.kin.keeps fun b o h=>(e0.bs b o h).1
 refine codeAny_call_function room.rm.depth (inK _ _ place) rfl Sc.co Sc.gen rfl (PySem.W.codeRec_of inK code) (bound _ _ _ _ ?_)
 refine wpAny_newFunctionEnv_cells Sc.kind (fun y hy=> ?_) fun env made s2 entered=> ?_
 ·obtain⟨n,v⟩:=y
  refine(Sc.par n (List.of_mem_zip hy).1).imp id fun c=>⟨c,PySem.W.cellsFrom_some _ _ _ (.inl c)⟩
 subst made
 have nl:s.heap.NoLimit:=e0.mod.nolimit.keeps fun b o h=>(e0.bs b o h).1
 refine⟨nl.keeps entered.toInCall.keep,codeAny_func ?_⟩
 obtain⟨t,runs,holds⟩:=inner cdv A outer s H vs Q E (room.deeper _) want
 have I0:Inv (cxOf (L2.CX P w) P w K mg base N qual scope f cdv A outer s H E) [] (start N vs) H s2:=inv_start Sc room.rm.hd e0 size rel entered
 refine wpAny_mono (runs.run [] s2 (start N vs) H _ I0 holds) (fun fl s' done=> ?_) fun _ _ z=>z
 have told:∀ {σ':L2.St} {H':Hp} {v:V} {u:Value},Inv (cxOf (L2.CX P w) P w K mg base N qual scope f cdv A outer s H E) [] σ' H' s'→RelV v u→Q v H'→CE outer P w H s Q u s':=fun {_ H' v _} J q q'=>⟨v,H',J.os,J.bare,J.base,J.hok,q,q'⟩
 match fl,done with
 | .ret u,⟨v,σ',H',J,q,q'⟩=>exact told J q q'
 | .next,⟨σ',H',J,q'⟩=>exact told (v:=V.non) (u:=Value.none) J rfl q'
 | .brk,⟨_,_,_,z⟩=>exact False.elim z
 | .cont,⟨_,_,_,z⟩=>exact False.elim z
section
variable {X:Cx} {k:Nat} {f:Addr} {fd:FuncData} {ps:List Str} {sp:Sp} {dvs:List V} {ds:List Value} {E:L2.St→XK}
theorem FnG.called {pins:List (Addr × Obj)} {σ :L2.St} {H:Hp} {s:Shared} {Q:VK} {args:Args} {zs:List Value} {ys:List V} (F:FnG X.prog X.w X.K X.mg X.base k f fd ps sp) (room:RoomG k X.A) (hx:PassesAt (L2.CX X.prog X.w) X σ (E σ)) (I:Inv X pins σ H s)
 (bound:BindsTo s fd args (ps.zip zs)) (rel:Vals ys zs) (want:sp ys H Q (E σ)):codeAny (model X.prog X.w) X.A (.call (.ref f) args) (fun r s'=>match r with
   | .ok (.ret u)=>EP X pins σ Q u s'
   | .error e=>X.xe e s'
   | _=>False) s:=by
 refine codeAny_mono (F.go X.A X.stack s H args zs ys Q (E σ) room I.env0 bound rel want) fun r s' q=> ?_
 match r,q with
 | .error e,q=>exact hx pins H s e s' I q
 | .ok (.ret u),q=>exact I.after q
theorem FnG.byPlace {pins:List (Addr × Obj)} {σ :L2.St} {H:Hp} {s:Shared} {Q:VK} {us:List Value} {vs:List V} (F:FnG X.prog X.w X.K X.mg X.base k f fd ps sp) (room:RoomG k X.A) (bs:Binds X.K fd ps ds) (dv:Vals dvs ds) (hx:PassesAt (L2.CX X.prog X.w) X σ (E σ))
 (I:Inv X pins σ H s) (rel:Vals vs us) (want:sp (vs++dvs) H Q (E σ)):wpAny (model X.prog X.w) X.A (call (.ref f) us) (EP X pins σ Q) X.xe s:=by
 have all:=rel.append dv
 refine wpAny_call (codeAny_mono (F.called room hx I (bs s us I.kIn (by rw[← all.length];exact F.len _ _ _ _ want)) all want) fun r s' q=> ?_)
 match r,q with
 | .error _,q=>exact q
 | .ok (.ret _),q=>exact q
end
def spOf (G:GC) (F:FN):Sp:=fun vs H Q E=>∃w ds,w.H=H∧SRep G w∧RepL G w ds vs∧Post G w (F ds w.S) (Rep G) Q E
abbrev WE0 (E:XK):WX:=fun C d _ H=>E C d H
def callK (F:FN) (dds:List D):FN:=fun xs S=>F (xs++dds) S
section
variable {G:GC} {X:Cx} {Wx:WX} {pos p:Pos} {k:Nat} {f:Addr} {fd:FuncData} {ps:List Str} {F:FN} {x:Str} {e:Expr} {es:List Expr} {dvs:List V} {ds:List Value} {dds:List D} {m:AD}
theorem imp_call (hdd:∀w,RepL G w dds dvs):∀ σ H Q,tE G (eN (callK F dds) m) Wx σ H Q→tCallSD (spOf G F) dvs (WE Wx) (tA G m Wx) σ H Q:=by
 intro σ H Q q
 obtain⟨w,env,rfl,sr,er,p⟩:=q
 refine⟨w,env,rfl,sr,er,(Post.bind p).mono (fun x H1 m=> ?_) fun _ _ _ h=>h⟩
 obtain⟨w1,d1,rfl,x1,s1,rp1,p1⟩:=m
 exact⟨w1,d1++dds,rfl,s1,rp1.append (hdd w1),p1⟩
theorem q_call (hF:FnG X.prog X.w X.K X.mg X.base k f fd ps (spOf G F)) (hr:RoomG k X.A) (hg:Gl X x) (hm:X.mg x=some (.ref f)) (hk:PySem.W.keepIn X.K (.ref f)=true) (hb:Binds X.K fd ps ds) (hd:Vals dvs ds) (hdd:∀w,RepL G w dds dvs) (tk:Takes X Wx)
 (ha:PA X (e::es) (tA G m Wx)) (hdb:(x==("__debug__" :Str))=false:=by decide) (he:starEach (e::es) X.env=(false,eval e X.env)::starEach es X.env:=by rfl) (hpl:(backTo pos (starEach es X.env)).any (·.1)=false:=by rfl):
 PE X (.Call (.Name x p) (e::es) [] pos) (tE G (eN (callK F dds) m) Wx):=
 peI (t:=tCallSD (spOf G F) dvs (WE Wx) (tA G m Wx)) ⟨fun pins s σ H Q I h=>wpAny_Call_Name_kw (ld_glob I hg hm (PySem.W.callWith_K (h₀ :=X.base) I.ok.mod.kin hk
  (thn (ha.run pos pins s σ H _ I h) fun us s1 ⟨vs,H1,I1,r,q⟩=>⟨I1.kIn,FnG.byPlace (E:=WE Wx) hF hr hb hd (passAt tk σ) I1 r q⟩) he hpl) hdb)⟩ (imp_call hdd)
end
section
variable {P:Program} {w:World} {G:GC} {base:Heap} {x qual:Str} {params:Arguments} {body:List Stmt} {scope:Scope} {dvs:List V} {kws:List (Str × V)} {f:Addr} {fd:FuncData} {k n:Nat} {N ps:List Str} {m:SD}
theorem len_spOf {vs:List V} {H:Hp} {Q:VK} {E:XK} {F:FN} {n:Nat} (ar:∀ds S,ds.length≠n→F ds S= .bad) (h:spOf G F vs H Q E):vs.length=n:=by
 obtain⟨w,ds,rfl,sr,rp,p⟩:=h
 rw[rp.length]
 by_cases e:ds.length=n
 ·exact e
 ·rw[ar ds w.S e] at p;exact p.elim
theorem run_ar:∀(ds:List D) (S:Store),ds.length≠n→run n k m ds S= .bad:=fun ds S h=>by unfold run;rw[if_neg h]
theorem ERep.start {wd:Wd} {ds:List D} {vs:List V} (h:RepL G wd ds vs):ERep G wd (ds.map some++List.replicate (n-ds.length) none) (vs.map some++List.replicate (n-vs.length) none):=by
 have hl:=h.length
 refine⟨by simp[hl],fun i d e=> ?_⟩
 by_cases hi:i<ds.length
 ·rw[List.getElem?_append_left (by simpa using hi),List.getElem?_map] at e
  cases q:ds[i]? with
  |none=>rw[q] at e;cases e
  |some d'=>
   rw[q] at e
   cases e
   obtain⟨v,h1,h2⟩:=h.get q
   refine⟨v,?_,h2⟩
   rw[List.getElem?_append_left (by simp[hl];exact hi),List.getElem?_map,h1]
   rfl
 ·rw[List.getElem?_append_right (by simpa using hi)] at e
  have:=(List.getElem?_eq_some_iff.mp e).2
  simp at this
theorem fn_ok (F:FunD G.K x qual params body scope dvs kws f fd) (S:FnScope N ps scope)
 (hb:∀(cdv:Value) (A:Around) (outer:List Env) (s:Shared) (H:Hp) (E:XK),RoomG k (A.deeper (envOfC qual scope s.heap.objs.size f cdv))→
   PSs (cxOf (L2.CX P w) P w G.K G.mg base N qual scope f cdv A outer s H E) body (tS G m (WE0 E))):
 FnG P w G.K G.mg base (k+1) f fd ps (spOf G (run ps.length N.length m)):=by
 refine FnG.of_def F S (fun vs H Q E h=>len_spOf run_ar h) fun cdv A outer s H vs Q E hr h=>⟨_,hb cdv A outer s H E hr,?_⟩
 obtain⟨wd,ds,rfl,sr,rp,p⟩:=h
 by_cases hl:ds.length=ps.length
 ·unfold run at p
  rw[if_pos hl] at p
  refine⟨wd,_,rfl,sr,ERep.start rp,?_⟩
  cases hm:m (ds.map some++List.replicate (N.length-ds.length) none) wd.S with
  |nx env S=>rw[hm] at p;exact fun σ' w' x hs s er=>p .non w' x hs s (by simp[Rep])
  |ret d S=>rw[hm] at p;exact p
  |brk _ _=>rw[hm] at p;exact p.elim
  |ct _ _=>rw[hm] at p;exact p.elim
  |exc e env S=>rw[hm] at p;exact fun C dx σ' w' x hs s er xr=>p C dx w' x hs s xr
  |bad=>rw[hm] at p;exact p.elim
 ·rw[run_ar ds wd.S hl] at p;exact p.elim
theorem fn_none {nn:Nat} :FnG P w G.K G.mg base nn f fd ps (spOf G fun _ _=> .bad):=
 ⟨fun vs H Q E ⟨w,ds,_,_,_,p⟩=>p.elim,fun A outer s H args us vs Q E _ _ _ _ ⟨w,ds,_,_,_,p⟩=>p.elim⟩
theorem tk_body {K:PySem.W.Frag} {mg:Str→Option Value} {qual:Str} {scope:Scope} {cdv:Value} {A:Around} {outer:List Env} {s:Shared} {H:Hp} {E:XK} :Takes (cxOf (L2.CX P w) P w K mg base N qual scope f cdv A outer s H E) (WE0 E):=takes_of rfl rfl rfl rfl
theorem po_body {K:PySem.W.Frag} {mg:Str→Option Value} {qual:Str} {scope:Scope} {cdv:Value} {A:Around} {outer:List Env} {s:Shared} {H:Hp} {E:XK} :PassesOwn (model P w) (cxOf (L2.CX P w) P w K mg base N qual scope f cdv A outer s H E).A (cxOf (L2.CX P w) P w K mg base N qual scope f cdv A outer s H E).env (cxOf (L2.CX P w) P w K mg base N qual scope f cdv A outer s H E).xe:=passes_of (X:=cxOf (L2.CX P w) P w K mg base N qual scope f cdv A outer s H E) rfl
theorem tk_blk {X:Cx} {s:Shared} {H:Hp} {sc:Scope} {ce:Env} {fp:List Addr} :Takes (X.blk s H sc ce fp) WF:=fun u s' h=>by
 obtain⟨_,_,_,_,_,_,_,_,_,_,_,_,_,_,_,_,z⟩:=h
 exact z.elim
end
end L3
namespace L3
open PySem PySem.Spec PyProof.Rows L2
theorem opI2 {X:Cx} {f:Value→Value→Sem Value} {r r':R2} (h:OpR X f r) (i:∀x y H Q,r' x y H Q→r x y H Q):OpR X f r':=fun pins s σ H x y v u Q I rx ry q=>h pins s σ H x y v u Q I rx ry (i _ _ _ _ q)
theorem unI2 {X:Cx} {f:Value→Sem Value} {r r':V→Hp→VK→Prop} (h:UnR X f r) (i:∀x H Q,r' x H Q→r x H Q):UnR X f r':=fun pins s σ H x v Q I rx q=>h pins s σ H x v Q I rx (i _ _ _ q)
theorem ixI2 {X:Cx} {r r':R2} (h:IxR X r) (i:∀x y H Q,r' x y H Q→r x y H Q):IxR X r':=fun a b pins s σ H x y v u Q I rx ry q=>h a b pins s σ H x y v u Q I rx ry (i _ _ _ _ q)
theorem caI2 {X:Cx} {f:Value} {r r':List V→Hp→VK→Prop} (h:CallR X f r) (i:∀xs H Q,r' xs H Q→r xs H Q):CallR X f r':=fun pins s σ H xs us Q I rs q=>h pins s σ H xs us Q I rs (i _ _ _ q)
theorem mtI2 {X:Cx} {id:String} {r r':V→List V→Hp→VK→Prop} (h:MtR X id r) (i:∀x xs H Q,r' x xs H Q→r x xs H Q):MtR X id r':=fun pins s σ H x xs v us Q I rx rs q=>h pins s σ H x xs v us Q I rx rs (i _ _ _ _ q)
section
variable {G:GC} {w:Wd}
def asL (x:D) (S:Store):Option (List D):=match x with
 | .lst l=>some l
 | .obj n=>match S[n]? with
   |some (.lst l)=>some l
   | _=>none
 | _=>none
theorem asL_rep {x:D} {v:V} {l:List D} (sr:SRep G w) (h:Rep G w x v) (e:asL x w.S=some l):∃a vs,v= .ref a∧w.H a=some (.lst vs)∧RepL G w l vs:=by
 cases x with
 |lst l'=>
  cases e
  simp only[Rep] at h
  obtain⟨a,vs,rfl,h1,_,h2⟩:=h
  exact⟨a,vs,rfl,h1,h2⟩
 |obj n=>
  simp only[Rep] at h
  obtain⟨a,h1,rfl⟩:=h
  unfold asL at e
  dsimp only at e
  cases hn:w.S[n]? with
  |none=>rw[hn] at e;cases e
  |some o=>
   rw[hn] at e
   cases o with
   |lst l'=>
    cases e
    obtain⟨vs,q1,q2⟩:=sr.obj n _ a hn h1
    exact⟨a,vs,rfl,q1,q2⟩
   | _=>cases e
 | _=>cases e
theorem new_lst {l:List D} {vs:List V} {S:Store} {Q:VK} {E:Value→Option Addr→Hp→Prop} (sr:SRep G w) (rl:RepL G w l vs) (p:Post G w (.ok (.lst l) w.S) (Rep G) Q E) (a:Addr) (ha:w.H a=none):Q (.ref a) (upd w.H a (.lst vs)):=by
 obtain⟨x,s,nm⟩:=new_ext (o:= .lst vs) sr ha
 exact p (.ref a) _ x rfl s (by simp only[Rep];exact⟨a,vs,rfl,upd_same,nm,RepL.mono x _ _ rl⟩)
theorem new_tup {l:List D} {vs:List V} {Q:VK} {E:Value→Option Addr→Hp→Prop} (sr:SRep G w) (rl:RepL G w l vs) (p:Post G w (.ok (.tup l) w.S) (Rep G) Q E) (a:Addr) (ha:w.H a=none):Q (.ref a) (upd w.H a (.tup vs)):=by
 obtain⟨x,s,nm⟩:=new_ext (o:= .tup vs) sr ha
 exact p (.ref a) _ x rfl s (by simp only[Rep];exact⟨a,vs,rfl, .inl ⟨upd_same,nm⟩,RepL.mono x _ _ rl⟩)
theorem new_lobj {l:List D} {vs:List V} {Q:VK} {E:Value→Option Addr→Hp→Prop} (sr:SRep G w) (rl:RepL G w l vs) (p:Post G w (.ok (.obj w.S.length) (w.S++ [.lst l])) (Rep G) Q E) (a:Addr) (ha:w.H a=none):Q (.ref a) (upd w.H a (.lst vs)):=by
 obtain⟨x,s⟩:=new_obj (ob:= .lst l) (o:= .lst vs) sr ha fun w' x e=>⟨vs,e,RepL.mono x _ _ rl⟩
 exact p (.ref a) _ x rfl s (by simp only[Rep];exact⟨a,by rw[← sr.len];simp,rfl⟩)
theorem SqT_of {a:Addr} {vs:List V} {l:List D} (h:TupAt G w a vs l):SqT G.K w.H a vs:=h.imp (fun z=> .inl z.1) fun z=>z.1
end
def repS (z:Str) (k:Int):Str:=⟨(List.replicate k.toNat z.cps.toList).flatten.toArray⟩
theorem fold_app:∀(l:List (Array Nat)) (a:Array Nat),(l.foldl (· ++ ·) a).toList=a.toList++(l.map Array.toList).flatten
 | [],a=>by simp
 |x::l,a=>by simp[fold_app l]
theorem repS_fold (z:Str) (k:Int):(⟨(List.replicate k.toNat z.cps).foldl (· ++ ·) #[]⟩:Str)=repS z k:=by
 unfold repS
 congr 1
 apply Array.ext'
 rw[fold_app];simp
theorem repS_one (z:Str):repS z 1=z:=by
 unfold repS;simp
theorem repS_nil {z:Str} (k:Int) (h:z.length=0):repS z k=z:=by
 have e:z.cps= #[] :=Array.eq_empty_of_size_eq_zero h
 obtain⟨c⟩:=z
 simp only at e;subst e
 unfold repS;simp
theorem repS_lt {z:Str} {k:Int} (h:k<1):repS z k=Str.empty:=by
 unfold repS
 rw[show k.toNat=0 by omega];rfl
theorem repS_len (z:Str) (k:Int):(repS z k).length=k.toNat*z.length:=by
 show(repS z k).cps.size=k.toNat*z.cps.size
 unfold repS;simp
theorem op_repS {X:Cx} :OpR X (binaryOp .Mult) (fun x y H Q=>∃z k,x= .str z∧y= .int k∧ -(2 ^ 63)≤k∧k<2 ^ 63∧z.length*k.toNat≤sizeLine∧Q (.str (repS z k)) H):=by
 intro pins s σ H x y v u Q I rx ry h
 obtain⟨z,k,rfl,rfl,h1,h2,h3,q⟩:=h
 obtain⟨t,rfl⟩:=rx
 obtain⟨t',rfl⟩:=ry
 refine P.mul_str (by simp;omega) (fun h _=> ?_) (fun _ _=> ?_) ?_
 ·intro c
  have:(z.length:Int)*k≤2 ^ 24:=by
   have h4:((z.length*k.toNat:Nat):Int)≤((2 ^ 24:Nat):Int):=Int.ofNat_le.mpr h3
   rw[Int.natCast_mul,Int.toNat_of_nonneg (by omega)] at h4
   exact h4
  have c2:=(Int.ediv_lt_iff_lt_mul (by omega:0<k)).mp c
  omega
 ·exact decide_eq_false (Nat.not_lt.mpr h3)
 ·split
  ·rename_i hk
   rw[repS_lt hk] at q
   exact⟨by decide, .str Str.empty,H,I.tok _,⟨_,rfl⟩,q⟩
  ·split
   ·rename_i hk
    have e:repS z k=z:=by
     rw[Bool.or_eq_true] at hk
     rcases hk with hk|hk
     ·have:=beq_iff_eq.mp hk;subst this;exact repS_one z
     ·exact repS_nil k (beq_iff_eq.mp hk)
    rw[e] at q
    exact⟨.str z,H,I,⟨_,rfl⟩,q⟩
   ·rw[repS_fold]
    refine⟨?_, .str (repS z k),H,I.tok _,⟨_,rfl⟩,q⟩
    rw[repS_len];rw[Nat.mul_comm];exact h3
def mulOk (i j:Int):Bool:=decide (((-(2 ^ 64)<i∧i<2 ^ 64)∨(-(2 ^ 64)<j∧j<2 ^ 64))∨i.natAbs.log2+j.natAbs.log2<1000000)
def addD:F2:=fun x y S=>match x,y with
 | .int i, .int j=> .ok (.int (i+j)) S
 | .str a, .str b=>if a.length+b.length≤sizeLine then .ok (.str (a++b)) S else .bad
 | .tup a, .tup b=>if a.length+b.length≤sizeLine then .ok (.tup (a++b)) S else .bad
 |x,y=>match asL x S,asL y S with
  |some a,some b=>if a.length+b.length≤sizeLine then .ok (.lst (a++b)) S else .bad
  | _,_=> .bad
def subD:F2:=fun x y S=>match x,y with
 | .int i, .int j=> .ok (.int (i-j)) S
 | _,_=> .bad
def mulD:F2:=fun x y S=>match x,y with
 | .int i, .int j=>if mulOk i j then .ok (.int (i*j)) S else .bad
 | .str z, .int k=>if -(2 ^ 63)≤k∧k<2 ^ 63∧z.length*k.toNat≤sizeLine then .ok (.str (repS z k)) S else .bad
 |x, .int k=>match asL x S with
  |some a=>if -(2 ^ 63)≤k∧k<2 ^ 63∧a.length*k.toNat≤sizeLine then .ok (.lst (List.replicate k.toNat a).flatten) S else .bad
  | _=> .bad
 | _,_=> .bad
def fdivD:F2:=fun x y S=>match x,y with
 | .int i, .int j=>if 0<j∧j.natAbs.log2<9000 then .ok (.int (i / j)) S else .bad
 | _,_=> .bad
def modD:F2:=fun x y S=>match x,y with
 | .int i, .int j=>if 0<j then .ok (.int (i % j)) S else .bad
 | _,_=> .bad
def powD:F2:=fun x y S=>match x,y with
 | .int i, .int j=>if 0≤j∧(Builtin.Int.intBits i:Int)*j≤2 ^ 27 then .ok (.int (i ^ j.toNat)) S else .bad
 | _,_=> .bad
def negD:F1:=fun x S=>match x with
 | .int i=> .ok (.int (-i)) S
 | _=> .bad
section
variable {G:GC} {X:Cx}
theorem c_add:Calm2 addD:=fun x y S=>by unfold addD;repeat' split
                                        all_goals trivial
theorem c_sub:Calm2 subD:=fun x y S=>by unfold subD;repeat' split
                                        all_goals trivial
theorem c_mul:Calm2 mulD:=fun x y S=>by unfold mulD;repeat' split
                                        all_goals trivial
theorem c_fdiv:Calm2 fdivD:=fun x y S=>by unfold fdivD;repeat' split
                                          all_goals trivial
theorem c_mod:Calm2 modD:=fun x y S=>by unfold modD;repeat' split
                                        all_goals trivial
theorem c_pow:Calm2 powD:=fun x y S=>by unfold powD;repeat' split
                                        all_goals trivial
theorem c_neg:Calm1 negD:=fun x S=>by unfold negD;repeat' split
                                      all_goals trivial
theorem o_add (hK:X.K=G.K):OpR X (binaryOp .Add) (r2 G addD):=by
 refine opI2 (op_add.or (op_add_str.or (op_catA.or op_cat))) fun x y H Q q=> ?_
 obtain⟨w,d1,d2,rfl,sr,r1,r2,p⟩:=q
 unfold addD at p
 split at p
 ·simp only[Rep] at r1 r2
  exact .inl ⟨_,_,r1,r2,Post.ret (Ra:=Rep G) sr (by simp[Rep]) p⟩
 ·split at p
  ·rename_i hz
   simp only[Rep] at r1 r2
   exact .inr (.inl ⟨_,_,r1,r2,hz,Post.ret (Ra:=Rep G) sr (by simp[Rep]) p⟩)
  ·exact p.elim
 ·split at p
  ·rename_i hz
   have r1':=r1
   have r2':=r2
   simp only[Rep] at r1 r2
   obtain⟨a,vs,rfl,h1,l1⟩:=r1
   obtain⟨b,us,rfl,h2,l2⟩:=r2
   have e1:=l1.length
   have e2:=l2.length
   refine .inr (.inr (.inl ⟨a,b,vs,us,rfl,rfl,by rw[hK];exact SqT_of h1,by rw[hK];exact SqT_of h2,by omega,fun e=> ?_,fun _ e=> ?_,fun _ _ p' hp'=> ?_⟩))
   ·have e':=List.eq_nil_of_length_eq_zero (by rw[← e1,e];rfl)
    rw[e',List.nil_append] at p
    exact Post.ret (Ra:=Rep G) sr r2' p
   ·have e':=List.eq_nil_of_length_eq_zero (by rw[← e2,e];rfl)
    rw[e',List.append_nil] at p
    exact Post.ret (Ra:=Rep G) sr r1' p
   ·exact new_tup sr (l1.append l2) p p' hp'
  ·exact p.elim
 ·split at p
  ·rename_i l1 l2 h1 h2
   split at p
   ·rename_i hz
    obtain⟨a,vs,rfl,e1,q1⟩:=asL_rep sr r1 h1
    obtain⟨b,us,rfl,e2,q2⟩:=asL_rep sr r2 h2
    refine .inr (.inr (.inr ⟨a,b,vs,us,rfl,rfl,e1,e2,by rw[q1.length,q2.length];exact hz,fun p' hp'=>new_lst (S:=w.S) sr (q1.append q2) p p' hp'⟩))
   ·exact p.elim
  ·exact p.elim
theorem o_sub:OpR X (binaryOp .Sub) (r2 G subD):=by
 refine opI2 op_sub fun x y H Q q=> ?_
 obtain⟨w,d1,d2,rfl,sr,r1,r2,p⟩:=q
 unfold subD at p
 split at p
 ·simp only[Rep] at r1 r2
  exact⟨_,_,r1,r2,Post.ret (Ra:=Rep G) sr (by simp[Rep]) p⟩
 ·exact p.elim
theorem RepL.rep {w:Wd} {ds:List D} {vs:List V} (h:RepL G w ds vs):∀k:Nat,RepL G w (List.replicate k ds).flatten (List.replicate k vs).flatten
 |0=>by simp[RepL]
 |k+1=>by
  simp only[List.replicate_succ,List.flatten_cons]
  exact h.append (RepL.rep h k)
theorem o_mul:OpR X (binaryOp .Mult) (r2 G mulD):=by
 refine opI2 ((op_mul.or op_mulW).or (op_rep.or op_repS)) fun x y H Q q=> ?_
 obtain⟨w,d1,d2,rfl,sr,r1,r2,p⟩:=q
 unfold mulD at p
 split at p
 ·simp only[Rep] at r1 r2
  split at p
  ·rename_i hz
   rcases of_decide_eq_true hz with hz|hz
   ·exact .inl (.inl ⟨_,_,r1,r2,(by unfold CMul;exact hz),Post.ret (Ra:=Rep G) sr (by simp[Rep]) p⟩)
   ·exact .inl (.inr ⟨_,_,r1,r2,hz,Post.ret (Ra:=Rep G) sr (by simp[Rep]) p⟩)
  ·exact p.elim
 ·simp only[Rep] at r1 r2
  split at p
  ·rename_i hz
   exact .inr (.inr ⟨_,_,r1,r2,hz.1,hz.2.1,hz.2.2,Post.ret (Ra:=Rep G) sr (by simp[Rep]) p⟩)
  ·exact p.elim
 ·split at p
  ·rename_i l hl
   split at p
   ·rename_i hz
    obtain⟨a,vs,rfl,e1,q1⟩:=asL_rep sr r1 hl
    simp only[Rep] at r2
    refine .inr (.inl ⟨a,_,vs,rfl,r2,e1,hz.1,hz.2.1,by rw[q1.length];exact hz.2.2,fun p' hp'=>new_lst (S:=w.S) sr (q1.rep _) p p' hp'⟩)
   ·exact p.elim
  ·exact p.elim
 ·exact p.elim
theorem o_fdiv:OpR X (binaryOp .FloorDiv) (r2 G fdivD):=by
 refine opI2 op_fdivW fun x y H Q q=> ?_
 obtain⟨w,d1,d2,rfl,sr,r1,r2,p⟩:=q
 unfold fdivD at p
 split at p
 ·simp only[Rep] at r1 r2
  split at p
  ·rename_i hz
   exact⟨_,_,r1,r2,hz,Post.ret (Ra:=Rep G) sr (by simp[Rep]) p⟩
  ·exact p.elim
 ·exact p.elim
theorem o_mod:OpR X (binaryOp .Mod) (r2 G modD):=by
 refine opI2 op_mod fun x y H Q q=> ?_
 obtain⟨w,d1,d2,rfl,sr,r1,r2,p⟩:=q
 unfold modD at p
 split at p
 ·simp only[Rep] at r1 r2
  split at p
  ·rename_i hz
   exact⟨_,_,r1,r2,hz,Post.ret (Ra:=Rep G) sr (by simp[Rep]) p⟩
  ·exact p.elim
 ·exact p.elim
theorem o_pow:OpR X (binaryOp .Pow) (r2 G powD):=by
 refine opI2 (opI (C:=fun i j=>0≤j∧(Builtin.Int.intBits i:Int)*j≤2 ^ 27) (g:=fun i j=>i ^ j.toNat) fun _ _ _ _ _ _ _ hc q=>pow_int hc.1 hc.2 q) fun x y H Q q=> ?_
 obtain⟨w,d1,d2,rfl,sr,r1,r2,p⟩:=q
 unfold powD at p
 split at p
 ·simp only[Rep] at r1 r2
  split at p
  ·rename_i hz
   exact⟨_,_,r1,r2,hz,Post.ret (Ra:=Rep G) sr (by simp[Rep]) p⟩
  ·exact p.elim
 ·exact p.elim
theorem o_neg:UnR X (unaryOp .USub) (r1 G negD):=by
 refine unI2 un_neg fun x H Q q=> ?_
 obtain⟨w,d1,rfl,sr,r1,p⟩:=q
 unfold negD at p
 split at p
 ·simp only[Rep] at r1
  exact⟨_,r1,Post.ret (Ra:=Rep G) sr (by simp[Rep]) p⟩
 ·exact p.elim
end
def ltD:F2:=fun x y S=>match x,y with
 | .int i, .int j=> .ok (.bl (decide (i<j))) S
 | .str a, .str b=> .ok (.bl (decide (a.cps.toList<b.cps.toList))) S
 | _,_=> .bad
def leD:F2:=fun x y S=>match x,y with
 | .int i, .int j=> .ok (.bl (decide (i≤j))) S
 | .str a, .str b=> .ok (.bl (!decide (b.cps.toList<a.cps.toList))) S
 | _,_=> .bad
def gtD:F2:=fun x y S=>match x,y with
 | .int i, .int j=> .ok (.bl (decide (j<i))) S
 | .str a, .str b=> .ok (.bl (decide (b.cps.toList<a.cps.toList))) S
 | _,_=> .bad
def geD:F2:=fun x y S=>match x,y with
 | .int i, .int j=> .ok (.bl (decide (j≤i))) S
 | .str a, .str b=> .ok (.bl (!decide (a.cps.toList<b.cps.toList))) S
 | _,_=> .bad
section
variable {G:GC} {X:Cx}
theorem c_lt:Calm2 ltD:=fun x y S=>by unfold ltD;repeat' split
                                      all_goals trivial
theorem c_le:Calm2 leD:=fun x y S=>by unfold leD;repeat' split
                                      all_goals trivial
theorem c_gt:Calm2 gtD:=fun x y S=>by unfold gtD;repeat' split
                                      all_goals trivial
theorem c_ge:Calm2 geD:=fun x y S=>by unfold geD;repeat' split
                                      all_goals trivial
theorem o_lt:OpR X (compareOp .Lt) (r2 G ltD):=by
 refine opI2 (op_lt.or L2.op_lt_str) fun x y H Q q=> ?_
 obtain⟨w,d1,d2,rfl,sr,r1,r2,p⟩:=q
 unfold ltD at p
 split at p
 ·simp only[Rep] at r1 r2
  exact .inl ⟨_,_,r1,r2,Post.ret (Ra:=Rep G) sr (by simp[Rep]) p⟩
 ·simp only[Rep] at r1 r2
  exact .inr ⟨_,_,r1,r2,Post.ret (Ra:=Rep G) sr (by simp[Rep]) p⟩
 ·exact p.elim
theorem o_le:OpR X (compareOp .LtE) (r2 G leD):=by
 refine opI2 (op_le.or L2.op_le_str) fun x y H Q q=> ?_
 obtain⟨w,d1,d2,rfl,sr,r1,r2,p⟩:=q
 unfold leD at p
 split at p
 ·simp only[Rep] at r1 r2
  exact .inl ⟨_,_,r1,r2,Post.ret (Ra:=Rep G) sr (by simp[Rep]) p⟩
 ·simp only[Rep] at r1 r2
  exact .inr ⟨_,_,r1,r2,Post.ret (Ra:=Rep G) sr (by simp[Rep]) p⟩
 ·exact p.elim
theorem o_gt:OpR X (compareOp .Gt) (r2 G gtD):=by
 refine opI2 (op_gt.or L2.op_gt_str) fun x y H Q q=> ?_
 obtain⟨w,d1,d2,rfl,sr,r1,r2,p⟩:=q
 unfold gtD at p
 split at p
 ·simp only[Rep] at r1 r2
  exact .inl ⟨_,_,r1,r2,Post.ret (Ra:=Rep G) sr (by simp[Rep]) p⟩
 ·simp only[Rep] at r1 r2
  exact .inr ⟨_,_,r1,r2,Post.ret (Ra:=Rep G) sr (by simp[Rep]) p⟩
 ·exact p.elim
theorem o_ge:OpR X (compareOp .GtE) (r2 G geD):=by
 refine opI2 (op_ge.or L2.op_ge_str) fun x y H Q q=> ?_
 obtain⟨w,d1,d2,rfl,sr,r1,r2,p⟩:=q
 unfold geD at p
 split at p
 ·simp only[Rep] at r1 r2
  exact .inl ⟨_,_,r1,r2,Post.ret (Ra:=Rep G) sr (by simp[Rep]) p⟩
 ·simp only[Rep] at r1 r2
  exact .inr ⟨_,_,r1,r2,Post.ret (Ra:=Rep G) sr (by simp[Rep]) p⟩
 ·exact p.elim
end
mutual
def toPy:D→Option PyData
 | .non=>some .none
 | .bl b=>some (.bool b)
 | .int i=>some (.int i)
 | .str s=>if PyData.strOk s=true then some (.str s) else none
 | .tup l=>(toPyL l).map .tuple
 | .lst l=>(toPyL l).map .list
 | .dic _ _=>none
 | .obj _=>none
 | .glb _=>none
 | .wtp _=>none
 | .ty _=>none
 | .scr ns=>some (.list (ns.map .int))
 | .kd _ _=>none
 | .xcp _ _ _=>none
 | .lam _ _=>none
def toPyL:List D→Option (List PyData)
 | [] =>some []
 |d::ds=>match toPy d,toPyL ds with
  |some x,some xs=>some (x::xs)
  | _,_=>none
end
def deref (x:D) (S:Store):D:=match x with
 | .obj n=>match S[n]? with
   |some (.lst l)=> .lst l
   |some (.ptp l)=> .tup l
   | _=>x
 | _=>x
def eqD:F2:=fun x y S=>match x,y with
 | .str a, .str b=> .ok (.bl (a==b)) S
 | .tup l, .tup [] => .ok (.bl l.isEmpty) S
 |x,y=>match toPy (deref x S),toPy (deref y S) with
  |some a,some b=>if min a.depth b.depth≤64 then .ok (.bl (PyData.eqv a b)) S else .bad
  | _,_=> .bad
def neD:F2:=fun x y S=>match x,y with
 | .str a, .str b=> .ok (.bl (!(a==b))) S
 | .tup l, .tup [] => .ok (.bl (!l.isEmpty)) S
 |x,y=>match toPy (deref x S),toPy (deref y S) with
  |some a,some b=>if min a.depth b.depth≤64 then .ok (.bl (!PyData.eqv a b)) S else .bad
  | _,_=> .bad
theorem neD_py {x y:D} {S:Store} {a b:PyData} (h1:toPy (deref x S)=some a) (h2:toPy (deref y S)=some b) (h:min a.depth b.depth≤64):neD x y S= .ok (.bl (!PyData.eqv a b)) S:=by
 unfold neD
 split
 ·simp only[deref,toPy] at h1 h2
  split at h1<;>cases h1
  split at h2<;>cases h2
  simp[PyData.eqv]
 ·rename_i l
  simp only[deref,toPy,Option.map_eq_some_iff] at h1 h2
  obtain⟨xs,e1,rfl⟩:=h1
  obtain⟨ys,e2,rfl⟩:=h2
  cases e2
  cases l with
  |nil=>cases e1;simp[PyData.eqv,PyData.eqvAll]
  |cons d ds=>
   simp only[toPyL] at e1
   split at e1<;>cases e1
   simp[PyData.eqv,PyData.eqvAll]
 ·rw[h1,h2];simp only;rw[if_pos h]
section
variable {G:GC} {X:Cx} {w:Wd}
theorem c_eq:Calm2 eqD:=fun x y S=>by unfold eqD;repeat' split
                                      all_goals trivial
theorem c_ne:Calm2 neD:=fun x y S=>by unfold neD;repeat' split
                                      all_goals trivial
theorem dpI:∀(ns:List Int),DpAll G.K w.H (ns.map V.int) (ns.map PyData.int)
 | [] => .nil
 |n::ns=> .cons (.int n) (dpI ns)
mutual
theorem dp_of:∀(d:D) (v:V) (x:PyData),Rep G w d v→toPy d=some x→Dp G.K w.H v x∧x.canLay0=true
 | .non,v,x,r,e=>by simp only[Rep] at r;cases e;subst r;exact⟨.non,rfl⟩
 | .bl b,v,x,r,e=>by simp only[Rep] at r;cases e;subst r;exact⟨.bl b,rfl⟩
 | .int i,v,x,r,e=>by simp only[Rep] at r;cases e;subst r;exact⟨.int i,rfl⟩
 | .str s,v,x,r,e=>by
   simp only[Rep] at r
   simp only[toPy] at e
   split at e
   ·rename_i h
    cases e;subst r;exact⟨.str s,h⟩
   ·cases e
 | .tup l,v,x,r,e=>by
   simp only[Rep] at r
   obtain⟨a,vs,rfl,h1,h2⟩:=r
   simp only[toPy,Option.map_eq_some_iff] at e
   obtain⟨xs,e1,rfl⟩:=e
   obtain⟨q1,q2⟩:=dpL_of l vs xs h2 e1
   exact⟨.tup (SqT_of h1) q1,by simpa[PyData.canLay0] using q2⟩
 | .lst l,v,x,r,e=>by
   simp only[Rep] at r
   obtain⟨a,vs,rfl,h1,_,h2⟩:=r
   simp only[toPy,Option.map_eq_some_iff] at e
   obtain⟨xs,e1,rfl⟩:=e
   obtain⟨q1,q2⟩:=dpL_of l vs xs h2 e1
   exact⟨.lst (SqL.of h1) q1,by simpa[PyData.canLay0] using q2⟩
 | .dic _ _,_,_,_,e=>by simp[toPy] at e
 | .obj _,_,_,_,e=>by simp[toPy] at e
 | .glb _,_,_,_,e=>by simp[toPy] at e
 | .wtp _,_,_,_,e=>by simp[toPy] at e
 | .ty _,_,_,_,e=>by simp[toPy] at e
 | .kd _ _,_,_,_,e=>by simp[toPy] at e
 | .xcp _ _ _,_,_,_,e=>by simp[toPy] at e
 | .lam _ _,_,_,_,e=>by simp[toPy] at e
 | .scr ns,v,x,r,e=>by
   simp only[Rep] at r
   obtain⟨a,rfl,h1⟩:=r
   simp only[toPy,Option.some.injEq] at e
   subst e
   refine⟨.lst (h1.imp (fun z=>z.1) id) (dpI ns),?_⟩
   simp only[PyData.canLay0]
   exact PyProof.Rows.canLayAll_ints ns
theorem dpL_of:∀(ds:List D) (vs:List V) (xs:List PyData),RepL G w ds vs→toPyL ds=some xs→DpAll G.K w.H vs xs∧PyData.canLayAll0 xs=true
 | [],vs,xs,r,e=>by simp only[RepL] at r;simp only[toPyL,Option.some.injEq] at e;subst r e;exact⟨.nil,rfl⟩
 |d::ds,vs,xs,r,e=>by
  simp only[RepL] at r
  obtain⟨v,r',rfl,h1,h2⟩:=r
  simp only[toPyL] at e
  split at e
  ·rename_i x xs' e1 e2
   cases e
   obtain⟨q1,q2⟩:=dp_of d v x h1 e1
   obtain⟨q3,q4⟩:=dpL_of ds r' xs' h2 e2
   exact⟨.cons q1 q3,by simp[PyData.canLayAll0,q2,q4]⟩
  ·cases e
end
theorem deref_rep {x:D} {v:V} (sr:SRep G w) (r:Rep G w x v) {y:PyData} (e:toPy (deref x w.S)=some y):Dp G.K w.H v y∧y.canLay0=true:=by
 cases x with
 |obj n=>
  unfold deref at e
  cases hn:w.S[n]? with
  |none=>simp[hn,toPy] at e
  |some o=>
   cases o with
   |lst l=>
    simp only[hn] at e
    obtain⟨a,vs,rfl,h1,h2⟩:=asL_rep (l:=l) sr r (by simp[asL,hn])
    simp only[toPy,Option.map_eq_some_iff] at e
    obtain⟨xs,e1,rfl⟩:=e
    obtain⟨q1,q2⟩:=dpL_of l vs xs h2 e1
    exact⟨.lst (SqL.of h1) q1,by simpa[PyData.canLay0] using q2⟩
   |ptp l=>
    simp only[hn] at e
    simp only[Rep] at r
    obtain⟨a,hm,rfl⟩:=r
    obtain⟨o,vs,⟨h1,_⟩,_,h2⟩:=sr.obj n _ a hn hm
    simp only[toPy,Option.map_eq_some_iff] at e
    obtain⟨xs,e1,rfl⟩:=e
    obtain⟨q1,q2⟩:=dpL_of l vs xs h2 e1
    exact⟨.tup (.inl (.inr ⟨o,h1⟩)) q1,by simpa[PyData.canLay0] using q2⟩
   | _=>simp[hn,toPy] at e
 | _=>exact dp_of _ v y r e
end
end L3
namespace L3
open PySem PySem.Spec PyProof.Rows L2
section
variable {G:GC} {X:Cx}
theorem o_eq (hK:X.K=G.K) (hu:X.A.units+64<cLine):OpR X (compareOp .Eq) (r2 G eqD):=by
 intro pins s σ H x y v u Q I rx ry q
 obtain⟨w,d1,d2,rfl,sr,r1,r2,p⟩:=q
 unfold eqD at p
 split at p
 ·simp only[Rep] at r1 r2
  subst r1 r2
  exact L2.op_eq pins s σ w.H _ _ v u Q I rx ry ⟨rfl,by rw[L2.dec_str];exact Post.ret (Ra:=Rep G) sr (by simp[Rep]) p⟩
 ·rename_i l
  simp only[Rep,RepL] at r1 r2
  obtain⟨a,vs,rfl,h1,l1⟩:=r1
  obtain⟨b,us,rfl,h2,rfl⟩:=r2
  cases rx
  cases ry
  obtain⟨its,rv,tp,_⟩:=I.tuple (xs:=vs) (by rw[hK];exact SqT_of h1)
  obtain⟨its2,rv2,tp2,_⟩:=I.tuple (xs:= []) (by rw[hK];exact SqT_of h2)
  cases rv2
  have hl:=rv.length
  have hl2:=l1.length
  refine SeqAt.RcAt.tuples (e:=fun _=>true) tp tp2 (by omega) (fun j h1 h2=>absurd h2 (by simp)) X.prog X.w X.xe (EP X pins σ Q) ?_
  refine⟨.bl _,w.H,I,rfl,?_⟩
  have e:((List.range (min its.toArray.size ([] :List Value).toArray.size)).all (fun _=>true)&&its.toArray.size==([] :List Value).toArray.size)=l.isEmpty:=by
   simp only[List.size_toArray,List.length_nil,Nat.min_zero,List.range_zero,List.all_nil,Bool.true_and]
   rw[← hl,hl2]
   cases l<;>rfl
  rw[e]
  exact Post.ret (Ra:=Rep G) sr (by simp[Rep]) p
 ·split at p
  ·rename_i a b h1 h2
   split at p
   ·rename_i hm
    obtain⟨p1,c1⟩:=deref_rep sr r1 h1
    obtain⟨p2,c2⟩:=deref_rep sr r2 h2
    rw[← hK] at p1 p2
    obtain⟨as,q1⟩:=Dp.reads I a x v p1 rx
    obtain⟨bs,q2⟩:=Dp.reads I b y u p2 ry
    exact SeqAt.compareEq_reads q1 q2 c1 c2 (by omega) ⟨.bl _,w.H,I,rfl,Post.ret (Ra:=Rep G) sr (by simp[Rep]) p⟩
   ·exact p.elim
  ·exact p.elim
theorem o_ne (hK:X.K=G.K) (hu:X.A.units+64<cLine):OpR X (compareOp .NotEq) (r2 G neD):=by
 intro pins s σ H x y v u Q I rx ry q
 obtain⟨w,d1,d2,rfl,sr,r1,r2,p⟩:=q
 unfold neD at p
 split at p
 ·simp only[Rep] at r1 r2
  subst r1 r2
  exact L2.op_ne pins s σ w.H _ _ v u Q I rx ry ⟨rfl,by rw[L2.dec_str];exact Post.ret (Ra:=Rep G) sr (by simp[Rep]) p⟩
 ·rename_i l
  simp only[Rep,RepL] at r1 r2
  obtain⟨a,vs,rfl,h1,l1⟩:=r1
  obtain⟨b,us,rfl,h2,rfl⟩:=r2
  cases rx
  cases ry
  obtain⟨its,rv,tp,_⟩:=I.tuple (xs:=vs) (by rw[hK];exact SqT_of h1)
  obtain⟨its2,rv2,tp2,_⟩:=I.tuple (xs:= []) (by rw[hK];exact SqT_of h2)
  cases rv2
  have hl:=rv.length
  have hl2:=l1.length
  refine SeqAt.RcNeAt.tuples (e:=fun _=>true) tp tp2 (by omega) (fun j h1 h2=>absurd h2 (by simp)) X.prog X.w X.xe (EP X pins σ Q) ?_
  refine⟨.bl _,w.H,I,rfl,?_⟩
  have e:((List.range (min its.toArray.size ([] :List Value).toArray.size)).all (fun _=>true)&&its.toArray.size==([] :List Value).toArray.size)=l.isEmpty:=by
   simp only[List.size_toArray,List.length_nil,Nat.min_zero,List.range_zero,List.all_nil,Bool.true_and]
   rw[← hl,hl2]
   cases l<;>rfl
  rw[e]
  exact Post.ret (Ra:=Rep G) sr (by simp[Rep]) p
 ·split at p
  ·rename_i a b h1 h2
   split at p
   ·rename_i hm
    obtain⟨p1,c1⟩:=deref_rep sr r1 h1
    obtain⟨p2,c2⟩:=deref_rep sr r2 h2
    rw[← hK] at p1 p2
    obtain⟨as,q1⟩:=Dp.reads I a x v p1 rx
    obtain⟨bs,q2⟩:=Dp.reads I b y u p2 ry
    exact SeqAt.compareNe_reads q1 q2 c1 c2 (by omega) ⟨.bl _,w.H,I,rfl,Post.ret (Ra:=Rep G) sr (by simp[Rep]) p⟩
   ·exact p.elim
  ·exact p.elim
def kdAt:List Str→List D→Str→Option D
 |k::ks,d::ds,z=>if z=k then some d else kdAt ks ds z
 | _,_,_=>none
def keyOf:D→Option Key
 | .int i=>some (.inl i)
 | .str s=>some (.inr s)
 | _=>none
def tkOf:D→Option (List Key)
 | .tup l=>if plc l=true then some (l.filterMap keyOf) else none
 | _=>none
def dGet {κ :Type} [DecidableEq κ] (kvs:List (κ × D)) (k: κ):Option D:=(kvs.find? fun kv=>decide (kv.1=k)).map (·.2)
def memData (x:Option PyData) (y:Option PyData):Option Bool:=match x,y with
 |some a,some (.list xs)=>if a.depth≤64 then some (xs.any fun z=>PyData.eqv z a) else none
 |some a,some (.tuple xs)=>if a.depth≤64 then some (xs.any fun z=>PyData.eqv z a) else none
 | _,_=>none
def memKey (x:D) (kvs:List (Key × D)):Option Bool:=match keyOf x with
 |some k=>some (dGet kvs k).isSome
 |none=>none
def memT (x:D) (kvs:List (List Key × D)):Option Bool:=match tkOf x with
 |some k=>some (dGet kvs k).isSome
 |none=>none
def memStr (x:D) (z:Str):Option Bool:=match x with
 | .str c=>if c.cps.size=1 then some (decide (c.cps.getD 0 0 ∈ z.cps.toList)) else none
 | _=>none
def memKd (x:D) (ks:List Str) (l:List D):Option Bool:=match x with
 | .str z=>some (kdAt ks l z).isSome
 | _=>none
def memD (x y:D) (S:Store):Option Bool:=match y with
 | .str z=>memStr x z
 | .kd ks l=>memKd x ks l
 | .dic ks l=>memKey x (ks.zip l)
 | .tup l=>memData (toPy x) (toPy (.tup l))
 | .lst l=>memData (toPy x) (toPy (.lst l))
 | .obj n=>match S[n]? with
   |some (.lst l)=>memData (toPy x) (toPy (.lst l))
   |some (.ptp l)=>memData (toPy x) (toPy (.tup l))
   |some (.dK kvs)=>memKey x kvs
   |some (.dT kvs)=>memT x kvs
   | _=>none
 | _=>none
def inD:F2:=fun x y S=>match memD x y S with
 |some b=> .ok (.bl b) S
 |none=> .bad
def notInD:F2:=fun x y S=>match memD x y S with
 |some b=> .ok (.bl (!b)) S
 |none=> .bad
theorem c_in:Calm2 inD:=fun x y S=>by unfold inD;split<;>trivial
theorem c_notIn:Calm2 notInD:=fun x y S=>by unfold notInD;split<;>trivial
theorem str1 {c:Str} (h:c.cps.size=1):c=⟨#[c.cps.getD 0 0]⟩:=by
 obtain⟨⟨l⟩⟩:=c
 match l,h with
 | [a],_=>rfl
theorem kdAt_look {w:Wd} :∀ {ks:List Str} {l:List D} {vs:List V} {us:List Value} (z:Str),ks.length=l.length→Vals vs us→RepL G w l vs→
 (match kdAt ks l z with
   |some d=>∃v u,(ks.zip us).lookup z=some u∧RelV v u∧Rep G w d v
   |none=>(ks.zip us).lookup z=none)
 | [],[],vs,us,z,_,r,h=>by simp[kdAt]
 |k::ks,d::ds,vs,us,z,hl,r,h=>by
  simp only[RepL] at h
  obtain⟨v,r',rfl,h1,h2⟩:=h
  cases r with
  |cons ru rr=>
   rename_i u us'
   unfold kdAt
   by_cases e:z=k
   ·subst e
    rw[if_pos rfl]
    exact⟨v,u,by simp[List.lookup],ru,h1⟩
   ·rw[if_neg e]
    have:=kdAt_look z (by simpa using hl) rr h2
    have e2:((k::ks).zip (u::us')).lookup z=(ks.zip us').lookup z:=by
     simp only[List.zip_cons_cons,List.lookup]
     have:(z==k)=false:=by simpa using e
     rw[this]
    rw[e2]
    exact this
theorem dGet_rep {κ :Type} [DecidableEq κ] {w:Wd} :∀ {kvs:List (κ × D)} {vs:List (κ × V)} (k: κ),RepKV G w kvs vs→
 (match dGet kvs k with
   |some d=>∃v,valV vs k=some v∧Rep G w d v
   |none=>valV vs k=none)
 | [],vs,k,h=>by
   have:vs= [] :=h
   subst this;rfl
 |p::r,vs,k,h=>by
  obtain⟨v,y,rfl,h1,h2⟩:=h
  have ih:=dGet_rep k h2
  by_cases e:p.1=k
  ·have e1:dGet (p::r) k=some p.2:=by simp[dGet,List.find?_cons,e]
   rw[e1,L2.valV_pos (p:=(p.1,v)) e]
   exact⟨v,rfl,h1⟩
  ·have e1:dGet (p::r) k=dGet r k:=by simp[dGet,List.find?_cons,e]
   rw[e1,L2.valV_neg (p:=(p.1,v)) e]
   exact ih
theorem zip_kv {κ :Type} {w:Wd} :∀ {ks:List κ} {l:List D} {vs:List V},ks.length=l.length→RepL G w l vs→RepKV G w (ks.zip l) (ks.zip vs)
 | [],[],vs,_,h=>by simp only[RepL] at h;subst h;rfl
 |k::ks,d::ds,vs,hl,h=>by
  simp only[RepL] at h
  obtain⟨v,r,rfl,h1,h2⟩:=h
  exact⟨v,_,rfl,h1,zip_kv (by simpa using hl) h2⟩
theorem keyOf_rep {w:Wd} {d:D} {v:V} {k:Key} (r:Rep G w d v) (e:keyOf d=some k):v=kV k:=by
 cases d with
 |int i=>cases e;simp only[Rep] at r;exact r
 |str s=>cases e;simp only[Rep] at r;exact r
 | _=>cases e
theorem plc_vals {w:Wd} :∀ {l:List D} {vs:List V},plc l=true→RepL G w l vs→vs=(l.filterMap keyOf).map kV
 | [],vs,_,h=>by simp only[RepL] at h;subst h;rfl
 |d::l,vs,hp,h=>by
  simp only[RepL] at h
  obtain⟨v,r,rfl,h1,h2⟩:=h
  simp only[plc,List.all_cons,Bool.and_eq_true] at hp
  have ih:=plc_vals (l:=l) (by simpa[plc] using hp.2) h2
  cases d with
  |int i=>
   simp only[Rep] at h1
   subst h1
   rw[ih];rfl
  | _=>exact absurd hp.1 (by simp[isIt])
theorem tk_rep {w:Wd} {d:D} {v:V} {k:List Key} (r:Rep G w d v) (e:tkOf d=some k):∃b,v= .ref b∧w.H b=some (.tup (k.map kV))∧¬Mut w b:=by
 cases d with
 |tup l=>
  simp only[tkOf] at e
  split at e
  ·rename_i hp
   cases e
   simp only[Rep] at r
   obtain⟨a,vs,rfl,h|h,rl⟩:=r
   ·rw[plc_vals hp rl] at h
    exact⟨a,rfl,h.1,h.2⟩
   ·rw[hp] at h;cases h.2
  ·cases e
 | _=>cases e
theorem mem_ok (hK:X.K=G.K) (hw:X.w=G.w) (hu:X.A.units+65<cLine) {neg:Bool} {op:CmpOp} (ho:op=if neg then .NotIn else .In) {pins:List (Addr × Obj)} {s:Shared} {σ :L2.St} {w:Wd} {x y:V} {v u:Value} {Q:VK} {d1 d2:D} {b:Bool}
 (I:Inv X pins σ w.H s) (rx:RelV x v) (ry:RelV y u) (sr:SRep G w) (r1:Rep G w d1 x) (r2:Rep G w d2 y) (e:memD d1 d2 w.S=some b) (q:Q (.bl (if neg then !b else b)) w.H):
 wpAny (model X.prog X.w) X.A (compareOp op v u) (EP X pins σ Q) X.xe s:=by
 have data:∀ {a:PyData} {xs:List PyData} {isL:Bool},toPy d1=some a→toPy (deref d2 w.S)=some (if isL then .list xs else .tuple xs)→a.depth≤64→b=(xs.any fun z=>PyData.eqv z a)→
  wpAny (model X.prog X.w) X.A (compareOp op v u) (EP X pins σ Q) X.xe s:=fun {a xs isL} h1 h2 hd hb=>by
  obtain⟨p1,c1⟩:=dp_of d1 x a r1 h1
  obtain⟨p2,c2⟩:=deref_rep sr r2 h2
  rw[← hK] at p1 p2
  obtain⟨as,q1⟩:=Dp.reads I a x v p1 rx
  obtain⟨bs,q2⟩:=Dp.reads I _ y u p2 ry
  have room:X.A.units+1+min (PyData.depthAll xs) a.depth<cLine:=by omega
  subst hb
  cases isL<;>cases neg<;>simp only[if_true,Bool.false_eq_true,if_false,PyData.canLay0] at q2 c2 ho q<;>subst ho
  ·exact SeqAt.in_tuple_reads q2 q1 c2 c1 room ⟨.bl _,w.H,I,rfl,q⟩
  ·exact SeqAt.notIn_tuple_reads q2 q1 c2 c1 room ⟨.bl _,w.H,I,rfl,q⟩
  ·exact SeqAt.in_list_reads q2 q1 c2 c1 room ⟨.bl _,w.H,I,rfl,q⟩
  ·exact SeqAt.notIn_list_reads q2 q1 c2 c1 room ⟨.bl _,w.H,I,rfl,q⟩
 have dK:∀ {a:Addr} {kvs:List (Key × D)} {vs:List (Key × V)} {k:Key},y= .ref a→w.H a=some (.dK vs)→RepKV G w kvs vs→keyOf d1=some k→b=(dGet kvs k).isSome→wpAny (model X.prog X.w) X.A (compareOp op v u) (EP X pins σ Q) X.xe s:=fun {a kvs vs k} ey h1 h2 hk hb=>by
  subst ey
  cases ry
  have ex:=keyOf_rep r1 hk
  subst ex
  have g:DGet w.H a (kV k) (valV vs k):=DGet.k h1
  have eb:(valV vs k).isSome=b:=by
   have:=dGet_rep k h2
   rw[hb]
   cases hg:dGet kvs k with
   |none=>rw[hg] at this;simp only at this;rw[this];rfl
   |some d=>rw[hg] at this;simp only at this;obtain⟨z,e1,_⟩:=this;rw[e1];rfl
  cases neg<;>simp only[if_true,Bool.false_eq_true,if_false] at ho q<;>subst ho
  ·exact L2.d_in (by omega) I g rx fun s' I'=>⟨.bl _,w.H,I',rfl,by rw[eb];exact q⟩
  ·exact L2.d_notIn (by omega) I g rx fun s' I'=>⟨.bl _,w.H,I',rfl,by rw[eb];exact q⟩
 have data':∀ {l:List D} {isL:Bool},(if isL then(toPy (.lst l)) else toPy (.tup l))=toPy (deref d2 w.S)→memData (toPy d1) (if isL then(toPy (.lst l)) else toPy (.tup l))=some b→wpAny (model X.prog X.w) X.A (compareOp op v u) (EP X pins σ Q) X.xe s:=fun {l isL} h e=>by
  rw[h] at e
  unfold memData at e
  split at e
  ·rename_i a xs h1 h2
   split at e
   ·cases e;exact data (isL:=true) h1 h2 (by assumption) rfl
   ·cases e
  ·rename_i a xs h1 h2
   split at e
   ·cases e;exact data (isL:=false) h1 h2 (by assumption) rfl
   ·cases e
  ·cases e
 cases d2 with
 |str z=>
  simp only[memD,memStr] at e
  split at e
  ·split at e
   ·rename_i c hc
    simp only[Rep] at r1 r2
    subst r1 r2
    cases e
    cases neg<;>simp only[if_true,Bool.false_eq_true,if_false] at ho q<;>subst ho
    ·exact L2.op_in_sign pins s σ w.H _ _ v u Q I rx ry ⟨_,z,by rw[← str1 hc],rfl,q⟩
    ·exact L2.op_notIn_sign pins s σ w.H _ _ v u Q I rx ry ⟨_,z,by rw[← str1 hc],rfl,q⟩
   ·cases e
  ·cases e
 |kd ks l=>
  simp only[memD,memKd] at e
  split at e
  ·rename_i z
   simp only[Rep] at r1 r2
   subst r1
   obtain⟨a,es,n,vs,us,rfl,kd,hn,hl,rv,_,rl⟩:=r2
   cases e
   have look:=kdAt_look z hl rv rl
   have hb:((ks.zip us).lookup z).isSome=(kdAt ks l z).isSome:=by
    cases hk:kdAt ks l z with
    |none=>rw[hk] at look;simp only at look;rw[look];rfl
    |some d=>rw[hk] at look;simp only at look;obtain⟨_,u',e1,_⟩:=look;rw[e1];rfl
   rw[← hb] at q
   have kd':KDict X.K X.w a es n:=by rw[hK,hw];exact kd
   cases neg<;>simp only[if_true,Bool.false_eq_true,if_false] at ho q<;>subst ho
   ·exact L2.op_in_kd kd' pins s σ w.H _ _ v u Q I rx ry ⟨z,_,rfl,rfl,by rw[hK];exact hn z,q⟩
   ·exact L2.op_notIn_kd kd' pins s σ w.H _ _ v u Q I rx ry ⟨z,_,rfl,rfl,by rw[hK];exact hn z,q⟩
  ·cases e
 |dic ks l=>
  simp only[memD,memKey] at e
  split at e
  ·rename_i k hk
   simp only[Rep] at r2
   obtain⟨a,vs,rfl,h1,nm,hl,h2⟩:=r2
   cases e
   exact dK rfl h1 (zip_kv hl h2) hk rfl
  ·cases e
 |tup l=>exact data' (l:=l) (isL:=false) rfl e
 |lst l=>exact data' (l:=l) (isL:=true) rfl e
 |obj n=>
  simp only[memD] at e
  split at e
  ·rename_i l hn
   exact data' (l:=l) (isL:=true) (by simp[deref,hn]) e
  ·rename_i l hn
   exact data' (l:=l) (isL:=false) (by simp[deref,hn]) e
  ·rename_i kvs hn
   unfold memKey at e
   split at e
   ·rename_i k hk
    cases e
    simp only[Rep] at r2
    obtain⟨a,hm,rfl⟩:=r2
    obtain⟨vs,h1,h2⟩:=sr.obj n _ a hn hm
    exact dK rfl h1 h2 hk rfl
   ·cases e
  ·rename_i kvs hn
   unfold memT at e
   split at e
   ·rename_i k hk
    cases e
    simp only[Rep] at r2
    obtain⟨a,hm,rfl⟩:=r2
    obtain⟨vs,h1,h2⟩:=sr.obj n _ a hn hm
    cases ry
    obtain⟨bb,rfl,eb,_⟩:=tk_rep r1 hk
    have g:DGet w.H a (.ref bb) (valV vs k):=DGet.t h1 eb
    have eb':(valV vs k).isSome=(dGet kvs k).isSome:=by
     have:=dGet_rep k h2
     cases hg:dGet kvs k with
     |none=>rw[hg] at this;simp only at this;rw[this];rfl
     |some d=>rw[hg] at this;simp only at this;obtain⟨z,e1,_⟩:=this;rw[e1];rfl
    cases neg<;>simp only[if_true,Bool.false_eq_true,if_false] at ho q<;>subst ho
    ·exact L2.d_in (by omega) I g rx fun s' I'=>⟨.bl _,w.H,I',rfl,by rw[eb'];exact q⟩
    ·exact L2.d_notIn (by omega) I g rx fun s' I'=>⟨.bl _,w.H,I',rfl,by rw[eb'];exact q⟩
   ·cases e
  ·cases e
 | _=>simp[memD] at e
theorem o_in (hK:X.K=G.K) (hw:X.w=G.w) (hu:X.A.units+65<cLine):OpR X (compareOp .In) (r2 G inD):=by
 intro pins s σ H x y v u Q I rx ry q
 obtain⟨w,d1,d2,rfl,sr,r1,r2,p⟩:=q
 unfold inD at p
 split at p
 ·rename_i b e
  exact mem_ok (neg:=false) hK hw hu rfl I rx ry sr r1 r2 e (Post.ret (Ra:=Rep G) sr (by simp[Rep]) p)
 ·exact p.elim
theorem o_notIn (hK:X.K=G.K) (hw:X.w=G.w) (hu:X.A.units+65<cLine):OpR X (compareOp .NotIn) (r2 G notInD):=by
 intro pins s σ H x y v u Q I rx ry q
 obtain⟨w,d1,d2,rfl,sr,r1,r2,p⟩:=q
 unfold notInD at p
 split at p
 ·rename_i b e
  exact mem_ok (neg:=true) hK hw hu rfl I rx ry sr r1 r2 e (Post.ret (Ra:=Rep G) sr (by simp[Rep]) p)
 ·exact p.elim
end
end L3
namespace L3
open PySem PySem.Spec PyProof.Rows L2
def ixD:F2:=fun x y S=>match x with
 | .tup l=>match y with
   | .int i=>match atI l i with
     |some d=> .ok d S
     |none=> .bad
   | _=> .bad
 | .str z=>match y with
   | .int i=>if z.length≤sizeLine then match atI z.cps.toList i with
      |some c=> .ok (sgn c) S
      |none=> .bad
     else .bad
   | _=> .bad
 | .scr ns=>match y with
   | .int i=>match atI ns i with
     |some n=> .ok (.int n) S
     |none=> .bad
   | _=> .bad
 | .kd ks l=>match y with
   | .str z=>match kdAt ks l z with
     |some d=> .ok d S
     |none=> .bad
   | _=> .bad
 | .dic ks l=>match keyOf y with
   |some k=>match dGet (ks.zip l) k with
    |some d=> .ok d S
    |none=> .bad
   |none=> .bad
 | .lst l=>match y with
   | .int i=>match atI l i with
     |some d=> .ok d S
     |none=> .bad
   | _=> .bad
 | .obj n=>match S[n]? with
   |some (.lst l)=>match y with
    | .int i=>match atI l i with
      |some d=> .ok d S
      |none=> .bad
    | _=> .bad
   |some (.dK kvs)=>match keyOf y with
    |some k=>match dGet kvs k with
     |some d=> .ok d S
     |none=> .bad
    |none=> .bad
   |some (.dT kvs)=>match tkOf y with
    |some k=>match dGet kvs k with
     |some d=> .ok d S
     |none=> .bad
    |none=> .bad
   | _=> .bad
 | _=> .bad
section
variable {G:GC} {X:Cx} {w:Wd}
theorem c_ix:Calm2 ixD:=fun x y S=>by unfold ixD;repeat' split
                                      all_goals trivial
theorem RepL.at {l:List D} {vs:List V} {i:Int} {d:D} (r:RepL G w l vs) (e:atI l i=some d):∃v,atI vs i=some v∧Rep G w d v:=by
 unfold atI at e ⊢
 rw[r.length]
 cases h:ixN l.length i with
 |none=>rw[h] at e;cases e
 |some j=>
  rw[h] at e
  exact r.get e
theorem ix_dk (hu:X.A.units+1<cLine):IxR X (fun x y H Q=>∃a v,x= .ref a∧DGet H a y (some v)∧Q v H):=by
 intro value slice pins s σ H x y v u Q I rx ry h hs
 obtain⟨a,z,rfl,g,q⟩:=h
 cases rx
 exact tail_any (dict_typeIs I g) PySem.F.slot_dict_getitem.lookup (d_getItem hu I g ry fun w' s' I' r'=>⟨z,H,I',r',q⟩) hs
theorem o_ix (hK:X.K=G.K) (hw:X.w=G.w) (hu:X.A.units+1<cLine):IxR X (r2 G ixD):=by
 refine ixI2 ((ix_seq (X:=X)).or (ix_kdict.or (ix_dk hu))) fun x y H Q q=> ?_
 obtain⟨w,d1,d2,rfl,sr,r1,r2,p⟩:=q
 have dk:∀ {a:Addr} {kvs:List (Key × D)} {vs:List (Key × V)} {k:Key} {d:D},x= .ref a→w.H a=some (.dK vs)→RepKV G w kvs vs→keyOf d2=some k→dGet kvs k=some d→Post G w (.ok d w.S) (Rep G) Q (fun _ _ _=>False)→
  ∃a v,x=V.ref a∧DGet w.H a y (some v)∧Q v w.H:=fun {a kvs vs k d} ex h1 h2 hk hd p=>by
  have ey:=keyOf_rep r2 hk
  have:=dGet_rep k h2
  rw[hd] at this
  obtain⟨v,e1,e2⟩:=this
  exact⟨a,v,ex,by rw[ey,←e1];exact DGet.k h1,Post.ret sr e2 p⟩
 have lst:∀ {l:List D} {i:Int} {d:D},asL d1 w.S=some l→atI l i=some d→d2= .int i→Post G w (.ok d w.S) (Rep G) Q (fun _ _ _=>False)→rIx X.K x y w.H Q:=fun {l i d} h1 h2 h3 p'=>by
  subst h3
  simp only[Rep] at r2
  obtain⟨a,vs,rfl,e1,rl⟩:=asL_rep sr r1 h1
  obtain⟨v,e2,rv⟩:=rl.at h2
  exact .inl ⟨a,vs,i,v,rfl,r2,SqL.of e1,e2,Post.ret sr rv p'⟩
 cases d1 with
 |tup l=>
  simp only[ixD] at p
  split at p
  ·rename_i i
   split at p
   ·rename_i d hd
    simp only[Rep] at r1 r2
    obtain⟨a,vs,rfl,h1,rl⟩:=r1
    obtain⟨v,e2,rv⟩:=rl.at hd
    exact .inl (.inr (.inl ⟨a,vs,i,v,rfl,r2,by rw[hK];exact SqT_of h1,e2,Post.ret sr rv p⟩))
   ·exact p.elim
  ·exact p.elim
 |str z=>
  simp only[ixD] at p
  split at p
  ·rename_i i
   split at p
   ·rename_i hz
    split at p
    ·rename_i c hc
     simp only[Rep] at r1 r2
     exact .inl (.inr (.inr ⟨z,i,c,r1,r2,hz,hc,Post.ret (Ra:=Rep G) sr (by simp[Rep,sgn]) p⟩))
    ·exact p.elim
   ·exact p.elim
  ·exact p.elim
 |scr ns=>
  simp only[ixD] at p
  split at p
  ·rename_i i
   split at p
   ·rename_i n hn
    simp only[Rep] at r1 r2
    obtain⟨a,rfl,h1⟩:=r1
    refine .inl (.inl ⟨a,ns.map V.int,i, .int n,rfl,r2,by rw[hK];exact h1.imp (fun z=>z.1) id,?_,Post.ret (Ra:=Rep G) sr (by simp[Rep]) p⟩)
    unfold atI at hn ⊢
    rw[List.length_map]
    cases h:ixN ns.length i with
    |none=>rw[h] at hn;cases hn
    |some j=>rw[h] at hn;simp only[Option.bind] at hn ⊢;rw[List.getElem?_map,hn];rfl
   ·exact p.elim
  ·exact p.elim
 |kd ks l=>
  simp only[ixD] at p
  split at p
  ·rename_i z
   split at p
   ·rename_i d hd
    simp only[Rep] at r1 r2
    obtain⟨a,es,n,vs,us,rfl,kd,hn,hl,rv,_,rl⟩:=r1
    have look:=kdAt_look z hl rv rl
    rw[hd] at look
    obtain⟨v,u,e1,e2,e3⟩:=look
    refine .inr (.inl ⟨a,z,v,rfl,r2,⟨es,n,u,by rw[hK];exact kd.at_,by rw[hw];exact kd.lit,by rw[hK,hn z,e1],e2⟩,Post.ret sr e3 p⟩)
   ·exact p.elim
  ·exact p.elim
 |dic ks l=>
  simp only[ixD] at p
  split at p
  ·rename_i k hk
   split at p
   ·rename_i d hd
    simp only[Rep] at r1
    obtain⟨a,vs,rfl,h1,nm,hl,h2⟩:=r1
    exact .inr (.inr (dk rfl h1 (zip_kv hl h2) hk hd p))
   ·exact p.elim
  ·exact p.elim
 |lst l=>
  simp only[ixD] at p
  split at p
  ·split at p
   ·rename_i d hd
    exact .inl (lst rfl hd rfl p)
   ·exact p.elim
  ·exact p.elim
 |obj n=>
  simp only[ixD] at p
  split at p
  ·rename_i l hn
   split at p
   ·split at p
    ·rename_i d hd
     exact .inl (lst (by simp[asL,hn]) hd rfl p)
    ·exact p.elim
   ·exact p.elim
  ·rename_i kvs hn
   split at p
   ·rename_i k hk
    split at p
    ·rename_i d hd
     simp only[Rep] at r1
     obtain⟨a,hm,rfl⟩:=r1
     obtain⟨vs,h1,h2⟩:=sr.obj n _ a hn hm
     exact .inr (.inr (dk rfl h1 h2 hk hd p))
    ·exact p.elim
   ·exact p.elim
  ·rename_i kvs hn
   split at p
   ·rename_i k hk
    split at p
    ·rename_i d hd
     simp only[Rep] at r1
     obtain⟨a,hm,rfl⟩:=r1
     obtain⟨vs,h1,h2⟩:=sr.obj n _ a hn hm
     obtain⟨bb,rfl,eb,_⟩:=tk_rep r2 hk
     have:=dGet_rep k h2
     rw[hd] at this
     obtain⟨v,e1,e2⟩:=this
     exact .inr (.inr ⟨a,v,rfl,by rw[← e1];exact DGet.t h1 eb,Post.ret sr e2 p⟩)
    ·exact p.elim
   ·exact p.elim
  ·exact p.elim
 | _=>exact p.elim
def tyD (x:D) (S:Store):Option String:=match x with
 | .non=>some "NoneType"
 | .bl _=>some "bool"
 | .int _=>some "int"
 | .str _=>some "str"
 | .tup _=>some "tuple"
 | .lst _=>some "list"
 | .dic _ _=>some "dict"
 | .kd _ _=>some "dict"
 | .obj n=>match S[n]? with
   |some (.lst _)=>some "list"
   |some (.dK _)=>some "dict"
   |some (.dT _)=>some "dict"
   | _=>none
 | _=>none
def isiD:FN:=fun xs S=>match xs with
 | [x, .ty T] =>match tyD x S with
   |some t=>match kitB t T with
    |some b=> .ok (.bl b) S
    |none=> .bad
   |none=> .bad
 | _=> .bad
def lenD:FN:=fun xs S=>match xs with
 | [.tup l] => .ok (.int l.length) S
 | [.str s] =>if s.length≤sizeLine then .ok (.int s.length) S else .bad
 | [.scr ns] => .ok (.int ns.length) S
 | [x] =>match asL x S with
   |some l=> .ok (.int l.length) S
   |none=> .bad
 | _=> .bad
theorem c_len:CalmN lenD:=fun xs S=>by unfold lenD;repeat' split
                                       all_goals trivial
theorem o_len (hK:X.K=G.K):CallR X (.builtin "len") (rN G lenD):=by
 refine caI2 call_len fun xs H Q q=> ?_
 obtain⟨w,ds,rfl,sr,rl,p⟩:=q
 unfold lenD at p
 split at p
 ·rename_i l
  simp only[RepL,Rep] at rl
  obtain⟨v,r',rfl,⟨a,vs,rfl,h1,r1⟩,rfl⟩:=rl
  exact⟨.ref a,l.length,rfl, .inr ⟨vs,by rw[hK];exact SqT_of h1,r1.length.symm⟩,Post.ret (Ra:=Rep G) sr (by simp[Rep]) p⟩
 ·split at p
  ·rename_i s hs
   simp only[RepL,Rep] at rl
   obtain⟨v,r',rfl,rfl,rfl⟩:=rl
   exact⟨.str s,s.length,rfl,⟨hs,rfl⟩,Post.ret (Ra:=Rep G) sr (by simp[Rep]) p⟩
  ·exact p.elim
 ·rename_i ns
  simp only[RepL,Rep] at rl
  obtain⟨v,r',rfl,⟨a,rfl,h1⟩,rfl⟩:=rl
  exact⟨.ref a,ns.length,rfl, .inl ⟨ns.map V.int,by rw[hK];exact h1.imp (fun z=>z.1) id,by simp⟩,Post.ret (Ra:=Rep G) sr (by simp[Rep]) p⟩
 ·split at p
  ·rename_i l hl
   simp only[RepL] at rl
   obtain⟨v,r',rfl,r1,rfl⟩:=rl
   obtain⟨a,vs,rfl,h1,r2⟩:=asL_rep sr r1 hl
   exact⟨.ref a,l.length,rfl, .inl ⟨vs,SqL.of h1,r2.length.symm⟩,Post.ret (Ra:=Rep G) sr (by simp[Rep]) p⟩
  ·exact p.elim
 ·exact p.elim
def allBls:List D→Option (List Bool)
 | [] =>some []
 | .bl b::r=>(allBls r).map (b:: ·)
 | _=>none
def allInts:List D→Option (List Int)
 | [] =>some []
 | .int b::r=>(allInts r).map (b:: ·)
 | _=>none
theorem allBls_rep:∀ {l:List D} {vs:List V} {bs:List Bool},RepL G w l vs→allBls l=some bs→vs=bs.map V.bl
 | [],vs,bs,r,e=>by simp only[RepL] at r;cases e;exact r
 |d::ds,vs,bs,r,e=>by
  simp only[RepL] at r
  obtain⟨v,r',rfl,h1,h2⟩:=r
  cases d with
  |bl b=>
   simp only[allBls,Option.map_eq_some_iff] at e
   obtain⟨bs',e1,rfl⟩:=e
   simp only[Rep] at h1
   rw[h1,allBls_rep h2 e1]
   rfl
  | _=>simp[allBls] at e
theorem allInts_rep:∀ {l:List D} {vs:List V} {bs:List Int},RepL G w l vs→allInts l=some bs→vs=bs.map V.int
 | [],vs,bs,r,e=>by simp only[RepL] at r;cases e;exact r
 |d::ds,vs,bs,r,e=>by
  simp only[RepL] at r
  obtain⟨v,r',rfl,h1,h2⟩:=r
  cases d with
  |int b=>
   simp only[allInts,Option.map_eq_some_iff] at e
   obtain⟨bs',e1,rfl⟩:=e
   simp only[Rep] at h1
   rw[h1,allInts_rep h2 e1]
   rfl
  | _=>simp[allInts] at e
def allD:FN:=fun xs S=>match xs with
 | [x] =>match(asL x S).bind allBls with
   |some bs=> .ok (.bl (bs.all id)) S
   |none=> .bad
 | _=> .bad
theorem c_all:CalmN allD:=fun xs S=>by unfold allD;repeat' split
                                       all_goals trivial
theorem asL_allBls {x:D} {v:V} {bs:List Bool} (sr:SRep G w) (r:Rep G w x v) (e:(asL x w.S).bind allBls=some bs):∃a,v= .ref a∧w.H a=some (.lst (bs.map V.bl)):=by
 cases h:asL x w.S with
 |none=>rw[h] at e;cases e
 |some l=>
  rw[h] at e
  obtain⟨a,vs,rfl,h1,h2⟩:=asL_rep sr r h
  exact⟨a,rfl,by rw[h1,allBls_rep h2 e]⟩
theorem asL_allInts {x:D} {v:V} {bs:List Int} (sr:SRep G w) (r:Rep G w x v) (e:(asL x w.S).bind allInts=some bs):∃a,v= .ref a∧w.H a=some (.lst (bs.map V.int)):=by
 cases h:asL x w.S with
 |none=>rw[h] at e;cases e
 |some l=>
  rw[h] at e
  obtain⟨a,vs,rfl,h1,h2⟩:=asL_rep sr r h
  exact⟨a,rfl,by rw[h1,allInts_rep h2 e]⟩
theorem o_all (hc:X.calm=true):CallR X (.builtin "all") (rN G allD):=by
 refine caI2 (cr_all hc) fun xs H Q q=> ?_
 obtain⟨w,ds,rfl,sr,rl,p⟩:=q
 unfold allD at p
 split at p
 ·split at p
  ·rename_i bs hb
   simp only[RepL] at rl
   obtain⟨v,r',rfl,r1,rfl⟩:=rl
   obtain⟨a,rfl,h⟩:=asL_allBls sr r1 hb
   exact⟨a,bs,rfl,SqL.of h,Post.ret (Ra:=Rep G) sr (by simp[Rep]) p⟩
  ·exact p.elim
 ·exact p.elim
def maxI:List Int→Option Int
 | [] =>none
 |n::ns=>some (ns.foldl (fun m x=>if x>m then x else m) n)
def minI:List Int→Option Int
 | [] =>none
 |n::ns=>some (ns.foldl (fun m x=>if x<m then x else m) n)
theorem fold_max:∀(ns:List Int) (n:Int),(ns.foldl (fun m x=>if x>m then x else m) n=n∨ns.foldl (fun m x=>if x>m then x else m) n ∈ ns)∧n≤ns.foldl (fun m x=>if x>m then x else m) n∧∀y ∈ ns,y≤ns.foldl (fun m x=>if x>m then x else m) n
 | [],n=>⟨.inl rfl,Int.le_refl _,fun y h=>by simp at h⟩
 |a::ns,n=>by
  obtain⟨m,hm⟩:∃m,m=if a>n then a else n:=⟨_,rfl⟩
  have hm':(n≤m∧a≤m)∧(m=a∨m=n):=by rw[hm];split<;>omega
  simp only[List.foldl_cons]
  rw[← hm]
  obtain⟨h1,h2,h3⟩:=fold_max ns m
  refine⟨?_,by omega,fun y hy=> ?_⟩
  ·rcases h1 with h1|h1
   ·rw[h1]
    rcases hm'.2 with e|e
    ·exact .inr (by simp[e])
    ·exact .inl e
   ·exact .inr (by simp[h1])
  ·rcases List.mem_cons.mp hy with e|hy
   ·subst e;omega
   ·exact h3 y hy
theorem fold_min:∀(ns:List Int) (n:Int),(ns.foldl (fun m x=>if x<m then x else m) n=n∨ns.foldl (fun m x=>if x<m then x else m) n ∈ ns)∧ns.foldl (fun m x=>if x<m then x else m) n≤n∧∀y ∈ ns,ns.foldl (fun m x=>if x<m then x else m) n≤y
 | [],n=>⟨.inl rfl,Int.le_refl _,fun y h=>by simp at h⟩
 |a::ns,n=>by
  obtain⟨m,hm⟩:∃m,m=if a<n then a else n:=⟨_,rfl⟩
  have hm':(m≤n∧m≤a)∧(m=a∨m=n):=by rw[hm];split<;>omega
  simp only[List.foldl_cons]
  rw[← hm]
  obtain⟨h1,h2,h3⟩:=fold_min ns m
  refine⟨?_,by omega,fun y hy=> ?_⟩
  ·rcases h1 with h1|h1
   ·rw[h1]
    rcases hm'.2 with e|e
    ·exact .inr (by simp[e])
    ·exact .inl e
   ·exact .inr (by simp[h1])
  ·rcases List.mem_cons.mp hy with e|hy
   ·subst e;omega
   ·exact h3 y hy
theorem maxI_eq {ns:List Int} {m k:Int} (h:maxI ns=some k) (h1:m ∈ ns) (h2:∀y ∈ ns,y≤m):m=k:=by
 cases ns with
 |nil=>cases h
 |cons n ns=>
  cases h
  obtain⟨a1,a2,a3⟩:=fold_max ns n
  have le1:ns.foldl (fun m x=>if x>m then x else m) n≤m:=by
   rcases a1 with e|e
   ·rw[e];exact h2 n (by simp)
   ·exact h2 _ (by simp[e])
  have le2:m≤ns.foldl (fun m x=>if x>m then x else m) n:=by
   rcases List.mem_cons.mp h1 with e|e
   ·rw[e];exact a2
   ·exact a3 m e
  omega
theorem minI_eq {ns:List Int} {m k:Int} (h:minI ns=some k) (h1:m ∈ ns) (h2:∀y ∈ ns,m≤y):m=k:=by
 cases ns with
 |nil=>cases h
 |cons n ns=>
  cases h
  obtain⟨a1,a2,a3⟩:=fold_min ns n
  have le1:m≤ns.foldl (fun m x=>if x<m then x else m) n:=by
   rcases a1 with e|e
   ·rw[e];exact h2 n (by simp)
   ·exact h2 _ (by simp[e])
  have le2:ns.foldl (fun m x=>if x<m then x else m) n≤m:=by
   rcases List.mem_cons.mp h1 with e|e
   ·rw[e];exact a2
   ·exact a3 m e
  omega
def maxD:FN:=fun xs S=>match xs with
 | [.int i, .int j] => .ok (.int (if j>i then j else i)) S
 | [x] =>match((asL x S).bind allInts).bind maxI with
   |some m=> .ok (.int m) S
   |none=> .bad
 | _=> .bad
def minD:FN:=fun xs S=>match xs with
 | [.int i, .int j] => .ok (.int (if j<i then j else i)) S
 | [x] =>match((asL x S).bind allInts).bind minI with
   |some m=> .ok (.int m) S
   |none=> .bad
 | _=> .bad
theorem c_max:CalmN maxD:=fun xs S=>by unfold maxD;repeat' split
                                       all_goals trivial
theorem c_min:CalmN minD:=fun xs S=>by unfold minD;repeat' split
                                       all_goals trivial
theorem o_max (hc:X.calm=true):CallR X (.builtin "max") (rN G maxD):=by
 refine caI2 ((call_max2 hc).or (cr_max hc)) fun xs H Q q=> ?_
 obtain⟨w,ds,rfl,sr,rl,p⟩:=q
 unfold maxD at p
 split at p
 ·simp only[RepL,Rep] at rl
  obtain⟨v,r',rfl,rfl,v2,r'',rfl,rfl,rfl⟩:=rl
  exact .inl ⟨_,_,rfl,Post.ret (Ra:=Rep G) sr (by simp[Rep]) p⟩
 ·split at p
  ·rename_i m hm
   simp only[RepL] at rl
   obtain⟨v,r',rfl,r1,rfl⟩:=rl
   cases h:(asL _ w.S).bind allInts with
   |none=>rw[h] at hm;cases hm
   |some ns=>
    rw[h] at hm
    obtain⟨a,rfl,ha⟩:=asL_allInts sr r1 h
    refine .inr ⟨a,ns,rfl,SqL.of ha,?_,fun k hk hle=> ?_⟩
    ·cases ns with
     |nil=>cases hm
     |cons _ _=>simp
    ·rw[maxI_eq hm hk hle]
     exact Post.ret (Ra:=Rep G) sr (by simp[Rep]) p
  ·exact p.elim
 ·exact p.elim
theorem o_min (hc:X.calm=true):CallR X (.builtin "min") (rN G minD):=by
 refine caI2 ((call_min2 hc).or (cr_min hc)) fun xs H Q q=> ?_
 obtain⟨w,ds,rfl,sr,rl,p⟩:=q
 unfold minD at p
 split at p
 ·simp only[RepL,Rep] at rl
  obtain⟨v,r',rfl,rfl,v2,r'',rfl,rfl,rfl⟩:=rl
  exact .inl ⟨_,_,rfl,Post.ret (Ra:=Rep G) sr (by simp[Rep]) p⟩
 ·split at p
  ·rename_i m hm
   simp only[RepL] at rl
   obtain⟨v,r',rfl,r1,rfl⟩:=rl
   cases h:(asL _ w.S).bind allInts with
   |none=>rw[h] at hm;cases hm
   |some ns=>
    rw[h] at hm
    obtain⟨a,rfl,ha⟩:=asL_allInts sr r1 h
    refine .inr ⟨a,ns,rfl,SqL.of ha,?_,fun k hk hle=> ?_⟩
    ·cases ns with
     |nil=>cases hm
     |cons _ _=>simp
    ·rw[minI_eq hm hk hle]
     exact Post.ret (Ra:=Rep G) sr (by simp[Rep]) p
  ·exact p.elim
 ·exact p.elim
def absD:FN:=fun xs S=>match xs with
 | [.int i] => .ok (.int (if i<0 then -i else i)) S
 | _=> .bad
def intD:FN:=fun xs S=>match xs with
 | [.int i] => .ok (.int i) S
 | [.bl k] => .ok (.int (if k then 1 else 0)) S
 | _=> .bad
theorem c_abs:CalmN absD:=fun xs S=>by unfold absD;repeat' split
                                       all_goals trivial
theorem c_int:CalmN intD:=fun xs S=>by unfold intD;repeat' split
                                       all_goals trivial
theorem o_abs:CallR X (.builtin "abs") (rN G absD):=by
 refine caI2 call_abs fun xs H Q q=> ?_
 obtain⟨w,ds,rfl,sr,rl,p⟩:=q
 unfold absD at p
 split at p
 ·simp only[RepL,Rep] at rl
  obtain⟨v,r',rfl,rfl,rfl⟩:=rl
  exact⟨_,rfl,Post.ret (Ra:=Rep G) sr (by simp[Rep]) p⟩
 ·exact p.elim
theorem o_int:CallR X (.type "int") (rN G intD):=by
 refine caI2 call_int1 fun xs H Q q=> ?_
 obtain⟨w,ds,rfl,sr,rl,p⟩:=q
 unfold intD at p
 split at p
 ·simp only[RepL,Rep] at rl
  obtain⟨v,r',rfl,rfl,rfl⟩:=rl
  exact .inl ⟨_,rfl,Post.ret (Ra:=Rep G) sr (by simp[Rep]) p⟩
 ·simp only[RepL,Rep] at rl
  obtain⟨v,r',rfl,rfl,rfl⟩:=rl
  exact .inr ⟨_,rfl,Post.ret (Ra:=Rep G) sr (by simp[Rep]) p⟩
 ·exact p.elim
def tupleD:FN:=fun xs S=>match xs with
 | [.tup l] => .ok (.tup l) S
 | [x] =>match asL x S with
   |some l=> .ok (.tup l) S
   |none=> .bad
 | _=> .bad
theorem c_tuple:CalmN tupleD:=fun xs S=>by unfold tupleD;repeat' split
                                           all_goals trivial
theorem o_tuple (hK:X.K=G.K):CallR X (.type "tuple") (rN G tupleD):=by
 refine caI2 call_tuple_of fun xs H Q q=> ?_
 obtain⟨w,ds,rfl,sr,rl,p⟩:=q
 unfold tupleD at p
 split at p
 ·simp only[RepL] at rl
  obtain⟨v,r',rfl,r1,rfl⟩:=rl
  have r1':=r1
  simp only[Rep] at r1
  obtain⟨a,vs,rfl,h1,r2⟩:=r1
  exact⟨a,vs,rfl, .inr ⟨by rw[hK];exact SqT_of h1,Post.ret (Ra:=Rep G) sr r1' p⟩⟩
 ·split at p
  ·rename_i l hl
   simp only[RepL] at rl
   obtain⟨v,r',rfl,r1,rfl⟩:=rl
   obtain⟨a,vs,rfl,h1,r2⟩:=asL_rep sr r1 hl
   exact⟨a,vs,rfl, .inl ⟨SqL.of h1,fun p' hp'=>new_tup sr r2 p p' hp'⟩⟩
  ·exact p.elim
 ·exact p.elim
end
end L3
namespace L3
open PySem PySem.Spec PyProof.Rows L2
section
variable {G:GC} {X:Cx} {Wx:WX} {pos:Pos} {w:Wd}
theorem q_tup {es:List Expr} {x1} {m:AD} (h:PA X es (tA G m Wx)):PE X (.Tuple es x1 pos) (tE G (eN mkTup m) Wx):=peI (pe_tup h) fun σ H Q q=>by
 obtain⟨w,env,rfl,sr,er,p⟩:=q
 refine⟨w,env,rfl,sr,er,(Post.bind (Ra:=RepL G) p).mono (fun x H1 m=> ?_) fun _ _ _ h=>h⟩
 obtain⟨w1,d1,rfl,x1,s1,rp1,p1⟩:=m
 unfold mkTup at p1
 split at p1
 ·exact⟨by rw[rp1.length];assumption,fun p' hp'=>new_tup s1 rp1 p1 p' hp'⟩
 ·exact p1.elim
theorem q_lst {es:List Expr} {m:AD} (h:PA X es (tA G m Wx)):PE X (.List es pos) (tE G (eN mkLst m) Wx):=peI (pe_lst h) fun σ H Q q=>by
 obtain⟨w,env,rfl,sr,er,p⟩:=q
 refine⟨w,env,rfl,sr,er,(Post.bind (Ra:=RepL G) p).mono (fun x H1 m=> ?_) fun _ _ _ h=>h⟩
 obtain⟨w1,d1,rfl,x1,s1,rp1,p1⟩:=m
 unfold mkLst at p1
 split at p1
 ·exact⟨by rw[rp1.length];assumption,fun p' hp'=>new_lst (S:=w1.S) s1 rp1 p1 p' hp'⟩
 ·exact p1.elim
theorem q_obj {es:List Expr} {m:AD} (h:PA X es (tA G m Wx)):PE X (.List es pos) (tE G (eN mkObj m) Wx):=peI (pe_lst h) fun σ H Q q=>by
 obtain⟨w,env,rfl,sr,er,p⟩:=q
 refine⟨w,env,rfl,sr,er,(Post.bind (Ra:=RepL G) p).mono (fun x H1 m=> ?_) fun _ _ _ h=>h⟩
 obtain⟨w1,d1,rfl,x1,s1,rp1,p1⟩:=m
 unfold mkObj at p1
 split at p1
 ·exact⟨by rw[rp1.length];assumption,fun p' hp'=>new_lobj s1 rp1 p1 p' hp'⟩
 ·exact p1.elim
theorem q_ifExp {c a b:Expr} {mc:TD} {ma mb:ED} (hc:PT X c (tT G mc Wx)) (ha:PE X a (tE G ma Wx)) (hb:PE X b (tE G mb Wx)):PE X (.IfExp c a b pos) (tE G (eIf mc ma mb) Wx):=peI (pe_ifExp hc ha hb) fun σ H Q q=>by
 obtain⟨w,env,rfl,sr,er,p⟩:=q
 refine⟨w,env,rfl,sr,er,(Post.bind (Ra:=fun _ (a b:Bool)=>a=b) p).mono (fun x H1 m=> ?_) fun _ _ _ h=>h⟩
 obtain⟨w1,d1,rfl,x1,s1,rp1,p1⟩:=m
 subst rp1
 cases d1 with
 |true=>exact iteT ⟨w1,env,rfl,s1,er.mono x1,p1⟩
 |false=>exact iteF ⟨w1,env,rfl,s1,er.mono x1,p1⟩
theorem tOfE_post {a:ED} {β :Type} {env:EnvD} {f:Bool→Store→R D} {Q:VK} {E:Value→Option Addr→Hp→Prop} (p:Post G w ((tOfE a env w.S).bind f) (Rep G) Q E):
 Post G w (a env w.S) (Rep G) (Mid G w (Rep G) fun w1 d=>∃k,d= .bl k∧Post G w1 (f k w1.S) (Rep G) Q E) E:=by
 unfold tOfE at p
 rw[R.bind_assoc] at p
 refine(Post.bind (Ra:=Rep G) p).mono (fun x H1 m=> ?_) fun _ _ _ h=>h
 obtain⟨w1,d1,rfl,x1,s1,rp1,p1⟩:=m
 refine⟨w1,d1,rfl,x1,s1,rp1,?_⟩
 cases d1 with
 |bl k=>exact⟨k,rfl,p1⟩
 | _=>exact p1.elim
theorem q_eone {op} {a:Expr} {m:ED} (h:PE X a (tE G m Wx)):PE X (.BoolOp op [a] pos) (tE G m Wx):=pe_one h
theorem q_eand {a b:Expr} {rest:List Expr} {ma mb:ED} (ha:PE X a (tE G ma Wx)) (hb:PE X (.BoolOp .And (b::rest) pos) (tE G mb Wx)):PE X (.BoolOp .And (a::b::rest) pos) (tE G (eAnd ma mb) Wx):=peI (pe_and ha hb) fun σ H Q q=>by
 obtain⟨w,env,rfl,sr,er,p⟩:=q
 refine⟨w,env,rfl,sr,er,(tOfE_post (β :=D) p).mono (fun x H1 m=> ?_) fun _ _ _ h=>h⟩
 obtain⟨w1,d1,rfl,x1,s1,rp1,k,rfl,p1⟩:=m
 simp only[Rep] at rp1
 refine⟨k,rp1,?_⟩
 cases k with
 |true=>exact iteT ⟨w1,env,rfl,s1,er.mono x1,p1⟩
 |false=>exact iteF (Post.ret (Ra:=Rep G) s1 (by simp[Rep]) p1)
theorem imp_chain {f g:F2} {a b c:ED} (cf:Calm2 f) (cg:Calm2 g):∀ σ H Q,tE G (eChain f g a b c) Wx σ H Q→tChain (r2 G f) (r2 G g) (tE G a Wx) (tE G b Wx) (tE G c Wx) σ H Q:=by
 intro σ H Q q
 obtain⟨w,env,rfl,sr,er,p⟩:=q
 refine⟨w,env,rfl,sr,er,(Post.bind (Ra:=Rep G) p).mono (fun x H1 m=> ?_) fun _ _ _ h=>h⟩
 obtain⟨w1,d1,rfl,x1,s1,rp1,p1⟩:=m
 refine⟨w1,env,rfl,s1,er.mono x1,(Post.bind (Ra:=Rep G) p1).mono (fun y H2 m=> ?_) fun _ _ _ h=>h⟩
 obtain⟨w2,d2,rfl,x2,s2,rp2,p2⟩:=m
 refine⟨w2,d1,d2,rfl,s2,Rep.mono x2 _ _ rp1,rp2,((Post.bind (Ra:=Rep G) p2).mono (fun z H3 m=> ?_) fun _ _ _ h=>h).calm (cf _ _ _)⟩
 obtain⟨w3,d3,rfl,x3,s3,rp3,p3⟩:=m
 cases d3 with
 |bl k=>
  simp only[Rep] at rp3
  refine⟨k,rp3,?_⟩
  cases k with
  |false=>exact iteF (Post.ret (Ra:=Rep G) s3 (by simp[Rep]) p3)
  |true=>
   refine iteT ⟨w3,env,rfl,s3,((er.mono x1).mono x2).mono x3,(Post.bind (Ra:=Rep G) p3).mono (fun z H4 m=> ?_) fun _ _ _ h=>h⟩
   obtain⟨w4,d4,rfl,x4,s4,rp4,p4⟩:=m
   exact⟨w4,d2,d4,rfl,s4,Rep.mono (WX'.trans x3 x4) _ _ rp2,rp4,p4.calm (cg _ _ _)⟩
 | _=>exact p3.elim
theorem q_tchain {op op':CmpOp} {f g:F2} {a b c:Expr} {ma mb mc:ED} (ho:OpR X (compareOp op) (r2 G f)) (cf:Calm2 f) (ho':OpR X (compareOp op') (r2 G g)) (cg:Calm2 g) (ha:PE X a (tE G ma Wx)) (hb:PE X b (tE G mb Wx)) (hc:PE X c (tE G mc Wx))
 (hm:lastMarks [op,op'] [b,c] =false:=by with_unfolding_all rfl):PT X (.Compare a [op,op'] [b,c] pos) (tT G (tOfE (eChain f g ma mb mc)) Wx):=ptI (pt_chain ho ho' ha hb hc hm) fun σ H Q q=>by
 obtain⟨w,env,rfl,sr,er,p⟩:=q
 refine imp_chain cf cg σ w.H _ ⟨w,env,rfl,sr,er,(Post.bind (Ra:=Rep G) p).mono (fun x H1 m=> ?_) fun _ _ _ h=>h⟩
 obtain⟨w1,d1,rfl,x1,s1,rp1,p1⟩:=m
 cases d1 with
 |bl k=>
  simp only[Rep] at rp1
  exact⟨k,rp1,Post.ret (Ra:=fun _ (a b:Bool)=>a=b) s1 rfl p1⟩
 | _=>exact p1.elim
theorem q_tcmp {op:CmpOp} {f:F2} {a b:Expr} {ma mb:ED} (ho:OpR X (compareOp op) (r2 G f)) (c:Calm2 f) (ha:PE X a (tE G ma Wx)) (hb:PE X b (tE G mb Wx)) (hm:behindInMarks op b=false):PT X (.Compare a [op] [b] pos) (tT G (tOfE (e2 f ma mb)) Wx):=
 ptI (pt_cmpR ho ha hb hm) fun σ H Q q=>by
  obtain⟨w,env,rfl,sr,er,p⟩:=q
  refine imp_e2 c σ w.H _ ⟨w,env,rfl,sr,er,(Post.bind (Ra:=Rep G) p).mono (fun x H1 m=> ?_) fun _ _ _ h=>h⟩
  obtain⟨w1,d1,rfl,x1,s1,rp1,p1⟩:=m
  cases d1 with
  |bl k=>
   simp only[Rep] at rp1
   exact⟨k,rp1,Post.ret (Ra:=fun _ (a b:Bool)=>a=b) s1 rfl p1⟩
  | _=>exact p1.elim
theorem q_truth {e:Expr} {m:ED} (hK:X.K=G.K) (h:PE X e (tE G m Wx)) (he:∀whole,isTrue e X.env whole=(do let v ←whole;standAt e.pos;holding [v] (truthy v)):=by intro _;rfl):PT X e (tT G (tTruth m) Wx):=ptI (pt_truth h he) fun σ H Q q=>by
 obtain⟨w,env,rfl,sr,er,p⟩:=q
 refine⟨w,env,rfl,sr,er,(Post.bind (Ra:=Rep G) p).mono (fun x H1 m=> ?_) fun _ _ _ h=>h⟩
 obtain⟨w1,d1,rfl,x1,s1,rp1,p1⟩:=m
 have fin:∀ {k:Bool},Post G w1 (.ok k w1.S) (fun _ (a b:Bool)=>a=b) Q (fun C dx H'=>Wx C dx σ H')→Q k w1.H:=fun {k} p=>Post.ret (Ra:=fun _ (a b:Bool)=>a=b) s1 rfl p
 have emp:∀ {l:List D} {vs:List V},RepL G w1 l vs→(!l.isEmpty)= !vs.isEmpty:=fun {l vs} r=>by
  have:=r.length
  cases l<;>cases vs<;>simp_all
 cases d1 with
 |non=>simp only[Rep] at rp1;subst rp1;exact⟨false,rfl,fin p1⟩
 |bl b=>simp only[Rep] at rp1;subst rp1;exact⟨b,rfl,fin p1⟩
 |int i=>simp only[Rep] at rp1;subst rp1;exact⟨_,rfl,fin p1⟩
 |str s=>
  simp only[Rep] at rp1;subst rp1
  simp only[truthD] at p1
  split at p1
  ·rename_i hz
   refine⟨s.length != 0,⟨hz,?_⟩,fin p1⟩
   cases s.length<;>rfl
  ·exact p1.elim
 |tup l=>
  simp only[Rep] at rp1
  obtain⟨a,vs,rfl,h1,r1⟩:=rp1
  exact⟨_, .inr (.inl ⟨vs,by rw[hK];exact SqT_of h1,emp r1⟩),fin p1⟩
 |lst l=>
  simp only[Rep] at rp1
  obtain⟨a,vs,rfl,h1,_,r1⟩:=rp1
  exact⟨_, .inl ⟨vs,SqL.of h1,emp r1⟩,fin p1⟩
 |obj n=>
  simp only[truthD] at p1
  split at p1
  ·rename_i l hn
   obtain⟨a,vs,rfl,h1,r1⟩:=asL_rep (l:=l) s1 rp1 (by simp[asL,hn])
   exact⟨_, .inl ⟨vs,SqL.of h1,emp r1⟩,fin p1⟩
  ·exact p1.elim
 | _=>exact p1.elim
def mtD (x:D) (S:Store):Option String:=match x with
 | .str _=>some "str"
 | .lst _=>some "list"
 | .dic _ _=>some "dict"
 | .obj n=>match S[n]? with
   |some (.lst _)=>some "list"
   |some (.dK _)=>some "dict"
   |some (.dT _)=>some "dict"
   | _=>none
 | _=>none
def eBM (T:String) (f:D→FN) (o:ED) (a:AD):ED:=fun env S=>(o env S).bind fun x S1=>if mtD x S1=some T then(a env S1).bind fun xs S2=>f x xs S2 else .bad
theorem tyv {x:D} {v:V} {T:String} (sr:SRep G w) (r:Rep G w x v) (e:mtD x w.S=some T):tyV G.K T v w.H:=by
 cases x with
 |str s=>simp only[Rep] at r;cases e;subst r;exact rfl
 |lst l=>
  simp only[Rep] at r
  cases e
  obtain⟨a,vs,rfl,h1,_⟩:=r
  exact .inl ⟨rfl,vs,SqL.of h1⟩
 |dic ks l=>
  simp only[Rep] at r
  cases e
  obtain⟨a,vs,rfl,h1,_⟩:=r
  exact .inr (.inr (.inl ⟨rfl, .inl ⟨_,h1⟩⟩))
 |obj n=>
  simp only[Rep] at r
  obtain⟨a,hm,rfl⟩:=r
  simp only[mtD] at e
  split at e
  ·rename_i l hn
   cases e
   obtain⟨vs,h1,_⟩:=sr.obj n _ a hn hm
   exact .inl ⟨rfl,vs,SqL.of h1⟩
  ·rename_i l hn
   cases e
   obtain⟨vs,h1,_⟩:=sr.obj n _ a hn hm
   exact .inr (.inr (.inl ⟨rfl, .inl ⟨_,h1⟩⟩))
  ·rename_i l hn
   cases e
   obtain⟨vs,h1,_⟩:=sr.obj n _ a hn hm
   exact .inr (.inr (.inl ⟨rfl, .inr ⟨_,h1⟩⟩))
  ·cases e
 | _=>cases e
theorem q_bm {o e:Expr} {es:List Expr} {name:Str} {apos cpos:Pos} {T id:String} {f:D→FN} {mo:ED} {ma:AD} (hK:X.K=G.K) (pa:PlainAttrs T) (slot:Slot T name id) (hty:typeOf (.builtin id)=pure (.type "method_descriptor")) (hm:MtR X id (rM G f)) (c:CalmM f) (ho:PE X o (tE G mo Wx)) (ha:PA X (e::es) (tA G ma Wx))
 (hbase:attributeBase o name X.env (eval o X.env)=eval o X.env:=by rfl)
 (hfew:((backTo cpos (starEach (e::es) X.env)).all (fun x=> !x.1)&&(backToKw cpos (keywordEach [] X.env)).all (fun x=>x.1.isSome)
   && decide ((e::es).length+([] :List Keyword).length+(if([] :List Keyword).isEmpty then 0 else 1)<30))=true:=by rfl)
 (hline:(apos.endLine==cpos.line)=true:=by rfl) (hs:starEach (e::es) X.env=(false,eval e X.env)::starEach es X.env:=by rfl) (hplain:(backTo cpos (starEach es X.env)).any (·.1)=false:=by rfl):
 PE X (.Call (.Attribute o name apos) (e::es) [] cpos) (tE G (eBM T f mo ma) Wx):=peI (pe_bm pa slot hty hm ho ha hbase hfew hline hs hplain) fun σ H Q q=>by
 obtain⟨w,env,rfl,sr,er,p⟩:=q
 refine⟨w,env,rfl,sr,er,(Post.bind (Ra:=Rep G) p).mono (fun x H1 m=> ?_) fun _ _ _ h=>h⟩
 obtain⟨w1,d1,rfl,x1,s1,rp1,p1⟩:=m
 split at p1
 ·rename_i ht
  refine⟨by rw[hK];exact tyv s1 rp1 ht,w1,env,rfl,s1,er.mono x1,(Post.bind (Ra:=RepL G) p1).mono (fun x H1 m=> ?_) fun _ _ _ h=>h⟩
  obtain⟨w2,d2,rfl,x2,s2,rp2,p2⟩:=m
  exact⟨w2,d1,d2,rfl,s2,Rep.mono x2 _ _ rp1,rp2,p2.calm (c _ _ _)⟩
 ·exact p1.elim
def lstAt (x:D) (S:Store):Option (Nat × List D):=match x with
 | .obj n=>match S[n]? with
   |some (.lst l)=>some (n,l)
   | _=>none
 | _=>none
theorem lstAt_rep {x:D} {v:V} {n:Nat} {l:List D} (sr:SRep G w) (r:Rep G w x v) (e:lstAt x w.S=some (n,l)):∃a vs,v= .ref a∧w.S[n]? =some (.lst l)∧w.mu[n]? =some a∧w.H a=some (.lst vs)∧RepL G w l vs:=by
 cases x with
 |obj m=>
  simp only[Rep] at r
  obtain⟨a,hm,rfl⟩:=r
  simp only[lstAt] at e
  split at e
  ·rename_i l' hn
   cases e
   obtain⟨vs,h1,h2⟩:=sr.obj _ _ a hn hm
   exact⟨a,vs,rfl,hn,hm,h1,h2⟩
  ·cases e
 | _=>cases e
theorem set_lst {n:Nat} {a:Addr} {l l':List D} {vs':List V} {d:D} {y:V} {Q:VK} {E:Value→Option Addr→Hp→Prop} (sr:SRep G w) (hn:w.S[n]? =some (.lst l)) (ha:w.mu[n]? =some a) (rl:RepL G w l' vs') (rd:Rep G w d y)
 (p:Post G w (.ok d (w.S.set n (.lst l'))) (Rep G) Q E):Q y (upd w.H a (.lst vs')):=by
 obtain⟨x,s⟩:=set_obj (ob':= .lst l') (o:= .lst vs') sr hn trivial ha fun w' x e=>⟨vs',e,RepL.mono x _ _ rl⟩
 exact p y _ x rfl s (Rep.mono x _ _ rd)
def appendD:D→FN:=fun x xs S=>match lstAt x S,xs with
 |some (n,l),[y] =>if l.length<sizeLine then .ok .non (S.set n (.lst (l++ [y]))) else .bad
 | _,_=> .bad
theorem c_append:CalmM appendD:=fun x xs S=>by unfold appendD;repeat' split
                                               all_goals trivial
theorem o_append:MtR X "list.append" (rM G appendD):=mtI2 mt_append fun x xs H Q q=>by
 obtain⟨w,d,ds,rfl,sr,r1,rl,p⟩:=q
 unfold appendD at p
 split at p
 ·rename_i n l y he
  split at p
  ·rename_i hz
   obtain⟨a,vs,rfl,hn,hm,h1,h2⟩:=lstAt_rep sr r1 he
   simp only[RepL] at rl
   obtain⟨v,r',rfl,ry,rfl⟩:=rl
   exact⟨a,vs,v,rfl,rfl,h1,by rw[h2.length];exact hz,set_lst sr hn hm (h2.append (RepL.one ry)) (by simp[Rep]) p⟩
  ·exact p.elim
 ·exact p.elim
def putD {κ :Type} [DecidableEq κ] (kvs:List (κ × D)) (k: κ) (v:D):List (κ × D):=
 if(kvs.any fun kv=>decide (kv.1=k))=true then kvs.map (fun kv=>if kv.1=k then(kv.1,v) else kv) else kvs++ [(k,v)]
theorem any_put {κ :Type} [DecidableEq κ] (k: κ):∀ {kvs:List (κ × D)} {vs:List (κ × V)},RepKV G w kvs vs→(kvs.any fun kv=>decide (kv.1=k))=(vs.any fun kv=>decide (kv.1=k))
 | [],vs,h=>by
   have:vs= [] :=h
   subst this;rfl
 |p::r,vs,h=>by
  obtain⟨v,y,rfl,h1,h2⟩:=h
  simp only[List.any_cons,any_put k h2]
theorem map_put {κ :Type} [DecidableEq κ] {d:D} {v:V} (k: κ) (rv:Rep G w d v):∀ {kvs:List (κ × D)} {vs:List (κ × V)},RepKV G w kvs vs→
 RepKV G w (kvs.map (fun kv=>if kv.1=k then(kv.1,d) else kv)) (vs.map (fun kv=>if kv.1=k then(kv.1,v) else kv))
 | [],vs,h=>by
   have:vs= [] :=h
   subst this;rfl
 |p::r,vs,h=>by
  obtain⟨u,y,rfl,h1,h2⟩:=h
  simp only[List.map_cons]
  by_cases e:p.1=k
  ·rw[if_pos e,if_pos e];exact⟨v,_,rfl,rv,map_put k rv h2⟩
  ·rw[if_neg e,if_neg e];exact⟨u,_,rfl,h1,map_put k rv h2⟩
theorem RepKV.append {κ :Type} :∀ {a b:List (κ × D)} {x y:List (κ × V)},RepKV G w a x→RepKV G w b y→RepKV G w (a++b) (x++y)
 | [],_,x,_,h,h'=>by
   have:x= [] :=h
   subst this;exact h'
 |p::r,b,x,y,h,h'=>by
  obtain⟨u,z,rfl,h1,h2⟩:=h
  exact⟨u,z++y,rfl,h1,RepKV.append h2 h'⟩
theorem RepKV.put {κ :Type} [DecidableEq κ] {kvs:List (κ × D)} {vs:List (κ × V)} {d:D} {v:V} (k: κ) (h:RepKV G w kvs vs) (rv:Rep G w d v):RepKV G w (putD kvs k d) (putK vs k v):=by
 unfold putD putK
 rw[any_put k h]
 split
 ·exact map_put k rv h
 ·exact h.append ⟨v,[],rfl,rv,rfl⟩
def setD (o i v:D) (S:Store):Option Store:=match o with
 | .obj n=>match S[n]? with
   |some (.lst l)=>match i with
    | .int k=>match ixN l.length k with
      |some j=>some (S.set n (.lst (l.set j v)))
      |none=>none
    | _=>none
   |some (.dK kvs)=>match keyOf i with
    |some k=>if kvs.length<sizeLine then some (S.set n (.dK (putD kvs k v))) else none
    |none=>none
   |some (.dT kvs)=>match tkOf i with
    |some k=>if kvs.length<sizeLine then some (S.set n (.dT (putD kvs k v))) else none
    |none=>none
   | _=>none
 | _=>none
def gSub (mo mi:ED):GD:=fun v env S=>match mo env S with
 | .ok o S1=>match mi env S1 with
   | .ok i S2=>match setD o i v S2 with
     |some S3=> .nx env S3
     |none=> .bad
   | _=> .bad
 | _=> .bad
def tSetD (G:GC):TSet:=fun o i v H k=>∃w d1 d2 d3 S',w.H=H∧SRep G w∧Rep G w d1 o∧Rep G w d2 i∧Rep G w d3 v∧setD d1 d2 d3 w.S=some S'∧∀w',WExt w w'→w'.S=S'→SRep G w'→k w'.H
theorem RepKV.len {κ :Type} :∀ {kvs:List (κ × D)} {vs:List (κ × V)},RepKV G w kvs vs→vs.length=kvs.length
 | [],vs,h=>by
   have:vs= [] :=h
   subst this;rfl
 |p::r,vs,h=>by
  obtain⟨u,y,rfl,h1,h2⟩:=h
  simp[RepKV.len h2]
theorem o_set (hu:X.A.units+1<cLine):PSet X (tSetD G):=by
 intro pins s σ H o i v ov iv u Q I ro ri ru q
 obtain⟨w,d1,d2,d3,S',rfl,sr,r1,r2,r3,e,k⟩:=q
 unfold setD at e
 split at e
 ·rename_i n
  split at e
  ·rename_i l hn
   split at e
   ·rename_i j
    split at e
    ·rename_i jj hj
     cases e
     simp only[Rep] at r1 r2
     obtain⟨a,hm,rfl⟩:=r1
     obtain⟨vs,h1,h2⟩:=sr.obj n _ a hn hm
     refine set_list pins s σ w.H (.ref a) i v ov iv u Q I ro ri ru ⟨a,vs,j,jj,rfl,r2,h1,by rw[h2.length];exact hj,?_⟩
     obtain⟨x,s'⟩:=set_obj (ob':= .lst (l.set jj d3)) (o:= .lst (vs.set jj v)) sr hn trivial hm fun w' x e=>⟨_,e,RepL.mono x _ _ (h2.set jj r3)⟩
     exact k _ x rfl s'
    ·cases e
   ·cases e
  ·rename_i kvs hn
   split at e
   ·rename_i kk hk
    split at e
    ·rename_i hz
     cases e
     have ek:=keyOf_rep r2 hk
     subst ek
     simp only[Rep] at r1
     obtain⟨a,hm,rfl⟩:=r1
     obtain⟨vs,h1,h2⟩:=sr.obj n _ a hn hm
     refine set_dict hu pins s σ w.H (.ref a) (kV kk) v ov iv u Q I ro ri ru ⟨a,_,rfl,DPut.k h1 (by rw[h2.len];exact hz),?_⟩
     obtain⟨x,s'⟩:=set_obj (ob':= .dK (putD kvs kk d3)) (o:= .dK (putK vs kk v)) sr hn trivial hm fun w' x e=>⟨_,e,RepKV.mono x _ _ (h2.put kk r3)⟩
     exact k _ x rfl s'
    ·cases e
   ·cases e
  ·rename_i kvs hn
   split at e
   ·rename_i kk hk
    split at e
    ·rename_i hz
     cases e
     obtain⟨bb,rfl,eb,_⟩:=tk_rep r2 hk
     simp only[Rep] at r1
     obtain⟨a,hm,rfl⟩:=r1
     obtain⟨vs,h1,h2⟩:=sr.obj n _ a hn hm
     refine set_dict hu pins s σ w.H (.ref a) (.ref bb) v ov iv u Q I ro ri ru ⟨a,_,rfl,DPut.t h1 eb (by rw[h2.len];exact hz),?_⟩
     obtain⟨x,s'⟩:=set_obj (ob':= .dT (putD kvs kk d3)) (o:= .dT (putK vs kk v)) sr hn trivial hm fun w' x e=>⟨_,e,RepKV.mono x _ _ (h2.put kk r3)⟩
     exact k _ x rfl s'
    ·cases e
   ·cases e
  ·cases e
 ·cases e
theorem q_gsub {o i:Expr} {mo mi:ED} (hu:X.A.units+1<cLine) (ho:PE X o (tE G mo Wx)) (hi:PE X i (tE G mi Wx))
 (ha:∀v,assign (.Subscript o i pos) X.env v=(do
   let ov ←holding [v] (eval o X.env)
   let iv ←holding [v,ov] (eval i X.env)
   standAt pos
   holding [v,ov,iv] (setItem ov iv v)
   release [v,ov,iv] []):=by intro _;rfl):PG X (.Subscript o i pos) (tG G (gSub mo mi)):=pgI (pg_sub ho hi (o_set hu) ha) fun v σ H Q q=>by
 obtain⟨w,env,d,rfl,sr,er,rp,p⟩:=q
 unfold gSub at p
 cases h1:mo env w.S with
 |ok o S1=>
  rw[h1] at p
  refine⟨w,env,rfl,sr,er,?_⟩
  rw[h1]
  intro vo w1 x1 e1 s1 ro
  subst e1
  simp only at p
  cases h2:mi env w1.S with
  |ok i S2=>
   rw[h2] at p
   refine⟨w1,env,rfl,s1,er.mono x1,?_⟩
   rw[h2]
   intro vi w2 x2 e2 s2 ri
   subst e2
   simp only at p
   cases h3:setD o i d w2.S with
   |some S3=>
    rw[h3] at p
    refine⟨w2,o,i,d,S3,rfl,s2,Rep.mono x2 _ _ ro,ri,Rep.mono (WX'.trans x1 x2) _ _ rp,h3,fun w3 x3 e3 s3=> ?_⟩
    exact p σ w3 (WX'.trans (WX'.trans x1 x2) x3) e3 s3 (((er.mono x1).mono x2).mono x3)
   |none=>rw[h3] at p;exact p.elim
  |exc _ _=>rw[h2] at p;exact p.elim
  |bad=>rw[h2] at p;exact p.elim
 |exc _ _=>rw[h1] at p;exact p.elim
 |bad=>rw[h1] at p;exact p.elim
theorem gn_sub {mo mi:ED} :GOk (gSub mo mi):=fun d env S=>by
 unfold gSub
 cases mo env S with
 |ok o S1=>
  simp only
  cases mi env S1 with
  |ok i S2=>
   simp only
   cases setD o i d S2 with
   |some S3=>exact .inl ⟨_,_,rfl⟩
   |none=>exact .inr rfl
  |exc _ _=>exact .inr rfl
  |bad=>exact .inr rfl
 |exc _ _=>exact .inr rfl
 |bad=>exact .inr rfl
theorem gNames_nx:∀ {is:List Nat} {ds:List D} {env:EnvD} {S:Store},(∃ env',gNames is ds env S= .nx env' S)∨gNames is ds env S= .bad
 | [],[],_,_=> .inl ⟨_,rfl⟩
 | [],_::_,_,_=> .inr rfl
 | _::_,[],_,_=> .inr rfl
 |i::is,d::ds,env,S=>gNames_nx (is:=is) (ds:=ds) (env:=env.set i (some d)) (S:=S)
def tGs (G:GC) (is:List Nat):TGs:=fun vs σ H Q=>∃w env ds env',w.H=H∧SRep G w∧ERep G w env σ ∧RepL G w ds vs∧gNames is ds env w.S= .nx env' w.S∧∀ σ',ERep G w env' σ'→Q σ' H
theorem pgsI {e:List Expr} {t t':TGs} (h:PGs X e t) (i:∀v σ H Q,t' v σ H Q→t v σ H Q):PGs X e t':=⟨fun pins s σ H v u Q I r q=>h.run pins s σ H v u Q I r (i _ _ _ _ q)⟩
theorem q_gsnil:PGs X [] (tGs G []):=pgsI pgs_nil fun v σ H Q q=>by
 obtain⟨w,env,ds,env',rfl,sr,er,rl,e,k⟩:=q
 cases ds with
 |nil=>
  simp only[RepL] at rl
  cases e
  exact⟨rl,k σ er⟩
 |cons _ _=>cases e
theorem q_gscons {e:Expr} {es:List Expr} {i:Nat} {is:List Nat} (h1:PG X e (L2.gName i)) (h2:PGs X es (tGs G is))
 (hs:(assignEach (e::es) X.env).map (·.2)=assign e X.env::(assignEach es X.env).map (·.2):=by rfl):PGs X (e::es) (tGs G (i::is)):=pgsI (pgs_cons h1 h2 hs) fun v σ H Q q=>by
 obtain⟨w,env,ds,env',rfl,sr,er,rl,e,k⟩:=q
 cases ds with
 |nil=>cases e
 |cons d ds=>
  simp only[RepL] at rl
  obtain⟨v,r,rfl,r1,r2⟩:=rl
  exact⟨v,r,rfl,w,_,ds,env',rfl,sr,er.set i r1,r2,e,k⟩
theorem q_gtup {es:List Expr} {k:Nat} {is:List Nat} (hK:X.K=G.K) (hc:X.calm=true) (h:PGs X es (tGs G is)) (hn:(assignEach es X.env).length=is.length:=by rfl) (hst:(assignEach es X.env).findIdx? (·.1)=none:=by rfl):
 PG X (.Tuple es k pos) (tG G (gTup is)):=pgI (pg_tup hc h hn hst) fun v σ H Q q=>by
 obtain⟨w,env,d,rfl,sr,er,rp,p⟩:=q
 have ln:∀ {is:List Nat} {l:List D} {env env':EnvD} {S S':Store},gNames is l env S= .nx env' S'→l.length=is.length:=by
  intro is
  induction is with
  |nil=>intro l env env' S S' e;cases l with
   |nil=>rfl
   |cons _ _=>cases e
  |cons i is ih=>intro l env env' S S' e;cases l with
   |nil=>cases e
   |cons d l=>simp only[List.length_cons];rw[ih e]
 cases d with
 |tup l=>
  simp only[Rep] at rp
  obtain⟨a,vs,rfl,h1,rl⟩:=rp
  simp only[gTup] at p
  rcases gNames_nx (is:=is) (ds:=l) (env:=env) (S:=w.S) with⟨env',e⟩|e
  ·rw[e] at p
   refine⟨a,vs,rfl,by rw[hK];exact SqT_of h1,by rw[rl.length];exact ln e,w,env,l,env',rfl,sr,er,rl,e,fun σ' er'=>p σ' w (.refl _) rfl sr er'⟩
  ·rw[e] at p;exact p.elim
 |wtp l=>
  simp only[Rep] at rp
  obtain⟨a,rfl,h1⟩:=rp
  have rl:RepL G w (l.map .int) (l.map V.int):=RepL_ints.mpr rfl
  simp only[gTup] at p
  rcases gNames_nx (is:=is) (ds:=l.map .int) (env:=env) (S:=w.S) with⟨env',e⟩|e
  ·rw[e] at p
   refine⟨a,_,rfl,by rw[hK];exact .inr h1,by rw[rl.length];exact ln e,w,env,_,env',rfl,sr,er,rl,e,fun σ' er'=>p σ' w (.refl _) rfl sr er'⟩
  ·rw[e] at p;exact p.elim
 | _=>exact p.elim
theorem gn_tup {is:List Nat} :GOk (gTup is):=fun d env S=>by
 cases d with
 |tup l=>
  rcases gNames_nx (is:=is) (ds:=l) (env:=env) (S:=S) with⟨env',e⟩|e
  ·exact .inl ⟨env',S,e⟩
  ·exact .inr e
 |wtp l=>
  rcases gNames_nx (is:=is) (ds:=l.map .int) (env:=env) (S:=S) with⟨env',e⟩|e
  ·exact .inl ⟨env',S,e⟩
  ·exact .inr e
 | _=>exact .inr rfl
def sPar (is:List Nat) (a:AD):SD:=fun env S=>(a env S).toS env fun xs S1=>gNames is xs env S1
theorem q_par {i j:Nat} {x y:Str} {a b:Expr} {m:AD} {px py pt:Pos} {kt k2 pt2} (hc:X.calm=true) (hN:X.N.Nodup) (hi:X.N[i]? =some x) (hj:X.N[j]? =some y) (hij:i≠j)
 (hx:X.env.scope.names.lookup x=some .local) (hy:X.env.scope.names.lookup y=some .local) (ha:PA X [a,b] (tA G m Wx))
 (hw:swappedStores [.Tuple [.Name x px, .Name y py] kt pt] (.Tuple [a,b] k2 pt2) X.env=pure (some [x,y]))
 (hs:swapsWithSole [.Tuple [.Name x px, .Name y py] kt pt] (.Tuple [a,b] k2 pt2) pos.line X.env=pure false:=by rfl):
 PS X (.Assign [.Tuple [.Name x px, .Name y py] kt pt] (.Tuple [a,b] k2 pt2) pos) (tS G (sPar [i,j] m) Wx):=psI (ps_par hc hN hi hj hij hx hy ha hw hs) fun D σ H q=>by
 obtain⟨w,env,rfl,sr,er,p⟩:=q
 refine⟨w,env,rfl,sr,er,(PostS.ofR (Ra:=RepL G) er p).mono (fun x H1 m=> ?_) fun _ _ _ h=>h⟩
 obtain⟨w1,ds,rfl,x1,s1,rl,p1⟩:=m
 match ds,rl with
 | [d1,d2],rl=>
   simp only[RepL] at rl
   obtain⟨v1,r1,rfl,q1,v2,r2,rfl,q2,rfl⟩:=rl
   exact⟨v1,v2,rfl,p1 _ w1 (.refl _) rfl s1 (((er.mono x1).set i q1).set j q2)⟩
 | [],_=>exact p1.elim
 | [_],_=>exact p1.elim
 | _::_::_::_,_=>exact p1.elim
end
end L3
namespace L3
open PySem PySem.Spec PyProof.Rows L2
structure Cal (P:Program) (w:World) (G:GC) (base:Heap) (k:Nat) (x:Str) (f:Addr) (fd:FuncData) (ps:List Str) (F:FN):Prop where
 ok:FnG P w G.K G.mg base k f fd ps (spOf G F)
 m:G.mg x=some (.ref f)
 kp:PySem.W.keepIn G.K (.ref f)=true
def Bnd (G:GC) (fd:FuncData) (ps:List Str) (dds:List D):Prop:=∃dvs ds,Vals dvs ds∧Binds G.K fd ps ds∧∀w,RepL G w dds dvs
theorem bnd0 {G:GC} {fd:FuncData} {ps:List Str} (h:Binds G.K fd ps []):Bnd G fd ps [] :=⟨[],[], .nil,h,fun w=>by simp[RepL]⟩
def Kbd (G:GC) (fd:FuncData) (ps:List Str) (n:Nat) (ks:List Str) (gD:List D→List D→List D):Prop:=
 ∃g gV,KBn G.K fd ps n ks g gV∧∀w ds es vs zs,ds.length=n→es.length=ks.length→RepL G w ds vs→RepL G w es zs→RepL G w (gD ds es) (gV vs zs)
def GRep (G:GC) (x:Str) (d:D):Prop:=∃u v,G.mg x=some u∧RelV v u∧∀w,Rep G w d v
def kwK (F:FN) (n m:Nat) (gD:List D→List D→List D):List D→FN:=fun xs zs S=>if xs.length=n∧zs.length=m then F (gD xs zs) S else .bad
def eKw (f:List D→FN) (a b:AD):ED:=fun env S=>(a env S).bind fun xs S1=>(b env S1).bind fun zs S2=>f xs zs S2
theorem u65 {k:Nat} {A:Around} (h:RoomG k A):A.units+65<cLine:=by have:=h.rm.un;omega
theorem u150 {k:Nat} {A:Around} (h:RoomG k A):A.units+150<cLine:=by have:=h.rm.un;omega
theorem u1 {k:Nat} {A:Around} (h:RoomG k A):A.units+1<cLine:=by have:=h.rm.un;omega
section
variable {X:Cx} {G:GC} {Wx:WX} {pos p:Pos} {k:Nat} {f:Addr} {fd:FuncData} {ps:List Str} {F:FN} {x:Str} {e:Expr} {es:List Expr} {dds:List D} {m:AD} {P:Program} {w:World} {base:Heap}
theorem q_fn (c:Cal X.prog X.w G X.base k x f fd ps F) (b:Bnd G fd ps dds) (hr:RoomG k X.A) (hK:X.K=G.K) (hm:X.mg=G.mg) (hg:Gl X x) (tk:Takes X Wx)
 (ha:PA X (e::es) (tA G m Wx)) (hdb:(x==("__debug__" :Str))=false:=by decide) (he:starEach (e::es) X.env=(false,eval e X.env)::starEach es X.env:=by rfl) (hpl:(backTo pos (starEach es X.env)).any (·.1)=false:=by rfl):
 PE X (.Call (.Name x p) (e::es) [] pos) (tE G (eN (callK F dds) m) Wx):=by
 obtain⟨dvs,ds,h1,h2,h3⟩:=b
 exact q_call (by rw[hK,hm];exact c.ok) hr hg (by rw[hm];exact c.m) (by rw[hK];exact c.kp) (by rw[hK];exact h2) h1 h3 tk ha hdb he hpl
def eFnL (i:Nat) (x:Str) (F:FN) (a:AD):ED:=fun env S=>match env[i]? with
 |some (some (.glb y))=>if y=x then(a env S).bind fun xs S1=>F xs S1 else .bad
 | _=> .bad
structure QK (X:Cx) (G:GC) (Wx:WX) (kws:List Keyword) (m:AD):Prop where
 pk:PK X kws (tA G m Wx)
theorem q_knil:QK X G Wx [] aNil:=⟨⟨fun po pins s σ H Q I q=>by
 obtain⟨w,env,rfl,sr,er,p⟩:=q
 exact pk_nil.run po pins s σ w.H Q I (Post.ret (Ra:=RepL G) sr (by simp[RepL]) p)⟩⟩
theorem q_kcons {kws:List Keyword} {nm:Option Str} {kpos:Pos} {a:ED} {b:AD} (ha:PE X e (tE G a Wx)) (hr:QK X G Wx kws b):QK X G Wx (⟨nm,e,kpos⟩::kws) (aCons a b):=⟨⟨fun po pins s σ H Q I q=>by
 refine(pk_cons (nm:=nm) (kpos:=kpos) ha hr.pk).run po pins s σ H Q I ?_
 obtain⟨w,env,rfl,sr,er,p⟩:=q
 refine⟨w,env,rfl,sr,er,(Post.bind (Ra:=Rep G) p).mono (fun x H1 m=> ?_) fun _ _ _ h=>h⟩
 obtain⟨w1,d1,rfl,x1,s1,rp1,p1⟩:=m
 refine⟨w1,env,rfl,s1,er.mono x1,(Post.bind (Ra:=RepL G) p1).mono (fun y H2 m=> ?_) fun _ _ _ h=>h⟩
 obtain⟨w2,d2,rfl,x2,s2,rp2,p2⟩:=m
 exact Post.ret (Ra:=RepL G) (a:=d1::d2) s2 (by simp only[RepL];exact⟨x,y,rfl,Rep.mono x2 _ _ rp1,rp2⟩) p2⟩⟩
theorem q_cst {d:D} (h:GRep G x d) (hm:X.mg=G.mg) (hg:Gl X x) (hd:(x==("__debug__" :Str))=false:=by decide):PE X (.Name x pos) (tE G (eK d) Wx):=by
 obtain⟨u,v,h1,h2,h3⟩:=h
 exact q_const (pe_glob hg (by rw[hm];exact h1) h2 hd) h3
theorem q_tb {e:Expr} {m:TD} (h:PW X e (tT G m Wx)):PT X e (tT G m Wx):=h.pt
theorem w_and1 {a:Expr} {ma:TD} (h:PT X a (tT G ma Wx)):PW X (.BoolOp .And [a] pos) (tT G ma Wx):=pw_and1 h
theorem w_or1 {a:Expr} {ma:TD} (h:PT X a (tT G ma Wx)):PW X (.BoolOp .Or [a] pos) (tT G ma Wx):=pw_or1 h
theorem w_and {a b:Expr} {rest:List Expr} {ma mb:TD} (ha:PT X a (tT G ma Wx)) (hb:PW X (.BoolOp .And (b::rest) pos) (tT G mb Wx)):PW X (.BoolOp .And (a::b::rest) pos) (tT G (tAnd ma mb) Wx):=pwI (pw_and ha hb) imp_and
theorem w_or {a b:Expr} {rest:List Expr} {ma mb:TD} (ha:PT X a (tT G ma Wx)) (hb:PW X (.BoolOp .Or (b::rest) pos) (tT G mb Wx)):PW X (.BoolOp .Or (a::b::rest) pos) (tT G (tOr ma mb) Wx):=pwI (pw_or ha hb) imp_or
end
theorem b_len:bootBuiltins "len" =some (.builtin "len"):=by decide +kernel
theorem b_all:bootBuiltins "all" =some (.builtin "all"):=by decide +kernel
theorem b_max:bootBuiltins "max" =some (.builtin "max"):=by decide +kernel
theorem b_min:bootBuiltins "min" =some (.builtin "min"):=by decide +kernel
theorem b_abs:bootBuiltins "abs" =some (.builtin "abs"):=by decide +kernel
theorem b_int:bootBuiltins "int" =some (.type "int"):=by decide +kernel
theorem b_tuple:bootBuiltins "tuple" =some (.type "tuple"):=by decide +kernel
theorem b_list:bootBuiltins "list" =some (.type "list"):=by decide +kernel
theorem b_dict:bootBuiltins "dict" =some (.type "dict"):=by decide +kernel
end L3
namespace L3
open PySem PySem.Spec PyProof.Rows L2
section
variable {G:GC} {X:Cx} {Wx:WX} {pos:Pos} {w:Wd}
theorem tmp_off {w0 w2:Wd} {p:Addr} {H':Hp} (s0:SRep G w0) (hp:w0.H p=none) (x:WX' [p] w0 w2) (s2:SRep G w2) (tm:p ∈ w2.tmp) (hH:∀b,b≠p→H' b=w2.H b):
 WExt w0 ⟨w2.mu,w2.S,H',w0.tmp⟩∧SRep G ⟨w2.mu,w2.S,H',w0.tmp⟩∧(∀ d v,Rep G w2 d v→Rep G ⟨w2.mu,w2.S,H',w0.tmp⟩ d v)∧(∀ d v,RepL G w2 d v→RepL G ⟨w2.mu,w2.S,H',w0.tmp⟩ d v)∧¬Mut ⟨w2.mu,w2.S,H',w0.tmp⟩ p:=by
 have np:p ∉ w0.tmp:=fun z=>by obtain⟨⟨u,e⟩,_⟩:=s0.tm p z;rw[hp] at e;cases e
 have nm: ¬MutS w2 p:=(s2.tm p tm).2
 have x1:WX' [p] w2 ⟨w2.mu,w2.S,H',w2.tmp⟩:=⟨fun _ _ h=>h,fun a o h nm ha=>⟨(hH a (by simpa using ha)).trans h,nm⟩,fun a h=> .inl h,fun a h=>h⟩
 have tk:Tok [p] w2:=fun a h=> .inl (by have:a=p:=by simpa using h
                                        rw[this];exact tm)
 have inc:∀a,a ∈ w0.tmp→a ∈ w2.tmp:=x.tmp'
 have s1:SRep G ⟨w2.mu,w2.S,H',w0.tmp⟩:=by
  refine⟨s2.len,s2.inj,fun n ob a h1 h2=> ?_,fun a ha=> ?_⟩
  ·have h:=s2.obj n ob a h1 h2
   exact ORep.untmp (t:=w0.tmp) (w:=⟨w2.mu,w2.S,H',w2.tmp⟩) inc (h.keep x1 tk fun lv=>hH a fun e=>nm (by subst e;exact⟨n,ob,h1,lv,h2⟩))
  ·obtain⟨⟨u,e⟩,q⟩:=s2.tm a (inc a ha)
   exact⟨⟨u,(hH a fun z=>np (z▸ha)).trans e⟩,q⟩
 refine⟨⟨x.mu,fun a o h nmS _=> ?_,fun a h=> .inl h,fun a h=>h⟩,s1,fun d v h=>Rep.untmp (t:=w0.tmp) (w:=⟨w2.mu,w2.S,H',w2.tmp⟩) inc d v (Rep.monoT x1 tk d v h),fun d v h=>RepL.untmp (t:=w0.tmp) (w:=⟨w2.mu,w2.S,H',w2.tmp⟩) inc d v (RepL.monoT x1 tk d v h),fun m=>m.elim nm np⟩
 have ha:a≠p:=fun e=>by rw[e,hp] at h;cases h
 obtain⟨h1,h2⟩:=x.keep a o h nmS (by simpa using ha)
 exact⟨(hH a ha).trans h1,h2⟩
theorem tmp_on {p:Addr} {o:HO} (s0:SRep G w) (hp:w.H p=none) (hn:NT o:=by intro _ h;cases h):WX' [p] w ⟨w.mu,w.S,upd w.H p o,p::w.tmp⟩∧SRep G ⟨w.mu,w.S,upd w.H p o,p::w.tmp⟩∧(∀ d v,Rep G w d v→Rep G ⟨w.mu,w.S,upd w.H p o,p::w.tmp⟩ d v):=by
 have h0:WX' [p] w ⟨w.mu,w.S,upd w.H p o,p::w.tmp⟩:=
  ⟨fun _ _ h=>h,fun a o h nm ha=>⟨(upd_ne (by simpa using ha)).trans h,nm⟩,fun a h=>by
    rcases List.mem_cons.mp h with e|h
    ·exact .inr (by simp[e])
    ·exact .inl h,fun a h=>List.mem_cons_of_mem _ h⟩
 have tk:Tok [p] w:=fun a h=> .inr (by have:a=p:=by simpa using h
                                       rw[this];exact hp)
 have nL: ¬MutS w p:=fun m=>by obtain⟨u,e⟩:=MutS.there s0 m;rw[hp] at e;cases e
 refine⟨h0,⟨s0.len,s0.inj,fun n ob a h1 h2=> ?_,fun a ha=> ?_⟩,fun d v h=>Rep.monoT h0 tk d v h⟩
 ·have h:=s0.obj n ob a h1 h2
  refine h.keep h0 tk fun lv=> ?_
  obtain⟨u,e⟩:=h.there lv
  exact upd_ne (ne_of_none e hp)
 ·rcases List.mem_cons.mp ha with e|ha
  ·subst e;exact⟨⟨⟨_,by first|assumption|(intro _ h;cases h)⟩,upd_same⟩,nL⟩
  ·obtain⟨⟨u,e⟩,nm⟩:=s0.tm a ha
   exact⟨⟨u,(upd_ne (ne_of_none e hp)).trans e⟩,nm⟩
def mergeD (kvs more:List (Key × D)):List (Key × D):=more.foldl (fun acc kv=>putD acc kv.1 kv.2) kvs
def pairsD:List (ED × ED)→EnvD→Store→R (List (D × D))
 | [],_,S=> .ok [] S
 |(k,v)::r,env,S=>(k env S).bind fun x S1=>(v env S1).bind fun y S2=>(pairsD r env S2).bind fun ps S3=> .ok ((x,y)::ps) S3
def keyed:List (D × D)→Option (List (Key × D))
 | [] =>some []
 |p::r=>match keyOf p.1,keyed r with
  |some k,some ks=>some ((k,p.2)::ks)
  | _,_=>none
def eDic (ps:List (ED × ED)):ED:=fun env S=>(pairsD ps env S).nox.bind fun xs S1=>match keyed xs with
 |some kvs=>if kvs.length≤15 then .ok (.dic ((mergeD [] kvs).map (·.1)) ((mergeD [] kvs).map (·.2))) S1 else .bad
 |none=> .bad
def eDct (ps:List (ED × ED)):ED:=fun env S=>(pairsD ps env S).nox.bind fun xs S1=>match keyed xs with
 |some kvs=>if kvs.length≤15 then .ok (.obj S1.length) (S1++ [.dK (mergeD [] kvs)]) else .bad
 |none=> .bad
theorem RepKV.merge:∀ {more:List (Key × D)} {mv:List (Key × V)} {kvs:List (Key × D)} {vs:List (Key × V)},RepKV G w more mv→RepKV G w kvs vs→RepKV G w (mergeD kvs more) (mergeK vs mv)
 | [],mv,kvs,vs,h,h'=>by
   have:mv= [] :=h
   subst this;exact h'
 |p::r,mv,kvs,vs,h,h'=>by
  obtain⟨u,z,rfl,h1,h2⟩:=h
  show RepKV G w (mergeD (putD kvs p.1 p.2) r) (mergeK (putK vs p.1 u) z)
  exact RepKV.merge h2 (h'.put p.1 h1)
theorem RepKV.parts {κ :Type} :∀ {kvs:List (κ × D)} {vs:List (κ × V)},RepKV G w kvs vs→∃us,vs=(kvs.map (·.1)).zip us∧RepL G w (kvs.map (·.2)) us
 | [],vs,h=>by
   have:vs= [] :=h
   subst this;exact⟨[],rfl,by simp[RepL]⟩
 |p::r,vs,h=>by
  obtain⟨u,z,rfl,h1,h2⟩:=h
  obtain⟨us,rfl,h3⟩:=RepKV.parts h2
  exact⟨u::us,rfl,by simp only[List.map_cons,RepL];exact⟨u,us,rfl,h1,h3⟩⟩
def RepP (G:GC) (w:Wd):List (D × D)→List (V × V)→Prop
 | [],x=>x= []
 |p::r,x=>∃a b y,x=(a,b)::y∧Rep G w p.1 a∧Rep G w p.2 b∧RepP G w r y
theorem RepP.keyed:∀ {ps:List (D × D)} {vs:List (V × V)} {kvs:List (Key × D)},RepP G w ps vs→keyed ps=some kvs→∃ks,vs=ks.map (fun kv=>(kV kv.1,kv.2))∧RepKV G w kvs ks
 | [],vs,kvs,h,e=>by
   have:vs= [] :=h
   cases e
   subst this;exact⟨[],rfl,rfl⟩
 |p::r,vs,kvs,h,e=>by
  obtain⟨a,b,y,rfl,h1,h2,h3⟩:=h
  simp only[L3.keyed] at e
  split at e
  ·rename_i k ks hk hks
   cases e
   obtain⟨us,rfl,q⟩:=RepP.keyed h3 hks
   exact⟨(k,b)::us,by simp[keyOf_rep h1 hk],⟨b,us,rfl,h2,q⟩⟩
  ·cases e
structure QP (X:Cx) (G:GC) (Wx:WX) (pos:Pos) (ks:List (Option Expr)) (vs:List Expr) (ps:List (ED × ED)):Prop where
 ex:∃trs,PPs X pos ks vs trs∧∀ σ H Q,(∃ w env,w.H=H∧SRep G w∧ERep G w env σ ∧Post G w (pairsD ps env w.S) (RepP G) Q (fun C dx H'=>Wx C dx σ H'))→tPairs trs σ H Q
theorem q_pnil:QP X G Wx pos [] [] [] :=⟨[],pps_nil,fun σ H Q ⟨w,env,eH,sr,er,p⟩=>by
 subst eH
 exact Post.ret (Ra:=RepP G) (a:= []) (b:= []) sr (show([] :List (V × V))= [] from rfl) p⟩
theorem q_pcons {k v:Expr} {ks:List (Option Expr)} {vs:List Expr} {mk mv:ED} {ps:List (ED × ED)} (hk:PE X k (tE G mk Wx)) (hv:PE X v (tE G mv Wx)) (hr:QP X G Wx pos ks vs ps):QP X G Wx pos (some k::ks) (v::vs) ((mk,mv)::ps):=by
 obtain⟨trs,h1,h2⟩:=hr.ex
 refine⟨_,pps_cons hk hv h1,fun σ H Q ⟨w,env,eH,sr,er,p⟩=> ?_⟩
 subst eH
 refine⟨w,env,rfl,sr,er,(Post.bind (Ra:=Rep G) p).mono (fun x H1 m=> ?_) fun _ _ _ h=>h⟩
 obtain⟨w1,d1,rfl,x1,s1,r1,p1⟩:=m
 refine⟨w1,env,rfl,s1,er.mono x1,(Post.bind (Ra:=Rep G) p1).mono (fun y H2 m=> ?_) fun _ _ _ h=>h⟩
 obtain⟨w2,d2,rfl,x2,s2,r2,p2⟩:=m
 refine h2 σ w2.H _ ⟨w2,env,rfl,s2,(er.mono x1).mono x2,(Post.bind (Ra:=RepP G) p2).mono (fun zs H3 m=> ?_) fun _ _ _ h=>h⟩
 obtain⟨w3,d3,rfl,x3,s3,r3,p3⟩:=m
 exact Post.ret (Ra:=RepP G) (a:=(d1,d2)::d3) s3 ⟨x,y,zs,rfl,Rep.mono (WX'.trans x2 x3) _ _ r1,Rep.mono x3 _ _ r2,r3⟩ p3
theorem disp_mid {ps:List (ED × ED)} {trs:List (TE × TE)} {f:List (D × D)→Store→R D} (ht:∀ σ H Q,(∃ w env,w.H=H∧SRep G w∧ERep G w env σ ∧Post G w (pairsD ps env w.S) (RepP G) Q (fun C dx H'=>Wx C dx σ H'))→tPairs trs σ H Q)
 {σ :L2.St} {Q:VK} {env:EnvD} (sr:SRep G w) (er:ERep G w env σ) (p:Post G w ((pairsD ps env w.S).nox.bind f) (Rep G) Q (fun C dx H'=>Wx C dx σ H'))
 (fin:∀(a:Addr) (w2:Wd) (xs:List (D × D)) (vs:List (V × V)),w.H a=none→WX' [a] w w2→SRep G w2→a ∈ w2.tmp→w2.H a=some (.dK [])→RepP G w2 xs vs→Post G w (f xs w2.S) (Rep G) Q (fun C dx H'=>Wx C dx σ H')→
   ∃kvs:List (Key × V),vs=kvs.map (fun kv=>(kV kv.1,kv.2))∧kvs.length≤15∧Q (.ref a) (upd w2.H a (.dK (mergeK [] kvs)))):tDisp trs σ w.H Q:=by
 intro a ha
 obtain⟨x0,s0,r0⟩:=tmp_on (o:= .dK []) sr ha
 refine ht σ _ _ ⟨⟨w.mu,w.S,upd w.H a (.dK []),a::w.tmp⟩,env,rfl,s0,⟨er.len,fun i d e=>let⟨v,h1,h2⟩:=er.at' i d e;⟨v,h1,r0 d v h2⟩⟩,?_⟩
 show Post G _ (pairsD ps env w.S) (RepP G) _ _
 cases h:pairsD ps env w.S with
 |ok xs S'=>
  rw[h] at p
  intro vs w2 x2 e2 s2 r2
  subst e2
  have tm:a ∈ w2.tmp:=x2.tmp' a (by simp)
  have hp:w2.H a=some (.dK []):=(x2.keep a _ upd_same (s0.tm a (by simp)).2 (by simp)).1
  exact⟨hp,fin a w2 xs vs ha (WX'.trans x0 (WX'.wide x2)) s2 tm hp r2 p⟩
 |exc e S'=>rw[h] at p;exact p.elim
 |bad=>rw[h] at p;exact p.elim
theorem q_dic {ks:List (Option Expr)} {vs:List Expr} {ps:List (ED × ED)} (h:QP X G Wx pos ks vs ps) (hall:ks.all (·.isSome)=true) (hl:ks.length=vs.length) (h0:ks≠ []) (h15:ks.length≤15):PE X (.Dict ks vs pos) (tE G (eDic ps) Wx):=by
 obtain⟨trs,h1,h2⟩:=h.ex
 refine peI (pe_disp h1 hall hl h0 h15) fun σ H Q q=> ?_
 obtain⟨w,env,rfl,sr,er,p⟩:=q
 refine disp_mid h2 sr er p fun a w2 xs us ha x s2 tm hp r2 p=> ?_
 split at p
 ·rename_i kvs hk
  split at p
  ·rename_i hz
   obtain⟨ks',rfl,rk⟩:=r2.keyed hk
   have len:∀ {kvs:List (Key × D)} {ks:List (Key × V)} {w:Wd},RepKV G w kvs ks→ks.length=kvs.length:=by
    intro kvs
    induction kvs with
    |nil=>intro ks w h;have:ks= [] :=h;subst this;rfl
    |cons p r ih=>intro ks w h;obtain⟨u,z,rfl,_,h2⟩:=h;simp[ih h2]
   refine⟨ks',rfl,by rw[len rk];exact hz,?_⟩
   obtain⟨us,e1,r3⟩:=(RepKV.merge rk (kvs:= []) (vs:= []) rfl).parts
   obtain⟨x1,s1,f1,f2,nm⟩:=tmp_off (H':=upd w2.H a (.dK (mergeK [] ks'))) sr ha x s2 tm fun b hb=>upd_ne hb
   refine p (.ref a) _ x1 rfl s1 ?_
   simp only[Rep]
   exact⟨a,us,rfl,by rw[← e1];exact upd_same,nm,by simp,f2 _ _ r3⟩
  ·exact p.elim
 ·exact p.elim
theorem q_dct {ks:List (Option Expr)} {vs:List Expr} {ps:List (ED × ED)} (h:QP X G Wx pos ks vs ps) (hall:ks.all (·.isSome)=true) (hl:ks.length=vs.length) (h0:ks≠ []) (h15:ks.length≤15):PE X (.Dict ks vs pos) (tE G (eDct ps) Wx):=by
 obtain⟨trs,h1,h2⟩:=h.ex
 refine peI (pe_disp h1 hall hl h0 h15) fun σ H Q q=> ?_
 obtain⟨w,env,rfl,sr,er,p⟩:=q
 refine disp_mid h2 sr er p fun a w2 xs us ha x s2 tm hp r2 p=> ?_
 split at p
 ·rename_i kvs hk
  split at p
  ·rename_i hz
   obtain⟨ks',rfl,rk⟩:=r2.keyed hk
   have len:∀ {kvs:List (Key × D)} {ks:List (Key × V)} {w:Wd},RepKV G w kvs ks→ks.length=kvs.length:=by
    intro kvs
    induction kvs with
    |nil=>intro ks w h;have:ks= [] :=h;subst this;rfl
    |cons p r ih=>intro ks w h;obtain⟨u,z,rfl,_,h2⟩:=h;simp[ih h2]
   refine⟨ks',rfl,by rw[len rk];exact hz,?_⟩
   have rm:=RepKV.merge rk (kvs:= []) (vs:= []) rfl
   obtain⟨x1,s1,f1,f2,nm⟩:=tmp_off (H':=fun b=>if b=a then none else w2.H b) sr ha x s2 tm fun b hb=>if_neg hb
   obtain⟨us,e1,r3⟩:=rm.parts
   have back:∀ {kvs:List (Key × D)} {us:List V} {w':Wd},RepL G w' (kvs.map (·.2)) us→RepKV G w' kvs ((kvs.map (·.1)).zip us):=by
    intro kvs
    induction kvs with
    |nil=>intro us w' _;rfl
    |cons p r ih=>intro us w' h;simp only[List.map_cons,RepL] at h;obtain⟨v,r',rfl,h1,h2⟩:=h;exact⟨v,_,rfl,h1,ih h2⟩
   have r4:=back (f2 _ _ r3)
   rw[← e1] at r4
   obtain⟨x2,s2'⟩:=new_obj (w:=⟨w2.mu,w2.S,fun b=>if b=a then none else w2.H b,w.tmp⟩) (p:=a) (ob:= .dK (mergeD [] kvs)) (o:= .dK (mergeK [] ks')) s1 (if_pos rfl) fun w' x' e=>⟨_,e,RepKV.mono x' _ _ r4⟩
   have eH:upd (fun b=>if b=a then none else w2.H b) a (.dK (mergeK [] ks'))=upd w2.H a (.dK (mergeK [] ks')):=by
    funext b
    unfold upd
    by_cases hb:b=a
    ·rw[if_pos hb,if_pos hb]
    ·rw[if_neg hb,if_neg hb];exact if_neg hb
   have q:=p (.ref a) _ (WX'.trans x1 x2) rfl s2' (by simp only[Rep];exact⟨a,by rw[← s1.len];simp,rfl⟩)
   rw[← eH]
   exact q
  ·exact p.elim
 ·exact p.elim
def eDic0:ED:=fun _ S=> .ok (.dic [] []) S
def eDct0:ED:=fun _ S=> .ok (.obj S.length) (S++ [.dK []])
theorem q_dic0:PE X (.Dict [] [] pos) (tE G eDic0 Wx):=peI pe_dnewK fun σ H Q q=>by
 obtain⟨w,env,rfl,sr,er,p⟩:=q
 intro a ha
 obtain⟨x,s,nm⟩:=new_ext (o:= .dK []) sr ha
 exact p (.ref a) _ x rfl s (by simp only[Rep,RepL];exact⟨a,[],rfl,upd_same,nm,rfl,rfl⟩)
theorem q_dct0:PE X (.Dict [] [] pos) (tE G eDct0 Wx):=peI pe_dnewK fun σ H Q q=>by
 obtain⟨w,env,rfl,sr,er,p⟩:=q
 intro a ha
 obtain⟨x,s⟩:=new_obj (ob:= .dK []) (o:= .dK []) sr ha fun w' x e=>⟨[],e,rfl⟩
 exact p (.ref a) _ x rfl s (by simp only[Rep];exact⟨a,by rw[← sr.len];simp,rfl⟩)
def splitD:D→FN:=fun x xs S=>match x,xs with
 | .str a,[.str b] =>if(b.length==0)=false∧a.length+2≤sizeLine then .ok (.lst ((Txt.split a b).map .str)) S else .bad
 | _,_=> .bad
theorem c_split:CalmM splitD:=fun x xs S=>by unfold splitD;repeat' split
                                             all_goals trivial
theorem RepL_strs {w:Wd} :∀ {ns:List Str} {vs:List V},RepL G w (ns.map .str) vs↔vs=ns.map V.str
 | [],vs=>by simp[RepL]
 |n::ns,vs=>by
  simp only[List.map_cons,RepL,Rep]
  constructor
  ·rintro⟨v,r,rfl,rfl,h⟩;rw[RepL_strs.mp h]
  ·rintro rfl;exact⟨_,_,rfl,rfl,RepL_strs.mpr rfl⟩
theorem o_split:MtR X "str.split" (rM G splitD):=mtI2 mt_split fun x xs H Q q=>by
 obtain⟨w,d,ds,rfl,sr,r1,rl,p⟩:=q
 unfold splitD at p
 split at p
 ·rename_i a b
  split at p
  ·rename_i hz
   simp only[Rep] at r1
   simp only[RepL,Rep] at rl
   obtain⟨v,r',rfl,rfl,rfl⟩:=rl
   exact⟨a,b,r1,rfl,hz.1,hz.2,fun p' hp'=>new_lst (S:=w.S) sr (RepL_strs.mpr rfl) p p' hp'⟩
  ·exact p.elim
 ·exact p.elim
end
end L3
namespace L3
open PySem PySem.Spec PyProof.Rows L2
section
variable {G:GC} {x:Str} {a:Addr}
def KVal (G:GC) (d:D) (u:Value):Prop:=∃v,RelV v u∧∀w,Rep G w d v
def KVals (G:GC):List D→List Value→Prop
 | [],us=>us= []
 |d::ds,us=>∃u r,us=u::r∧KVal G d u∧KVals G ds r
theorem grep_of {d:D} {u:Value} (h:G.mg x=some u) (k:KVal G d u):GRep G x d:=by
 obtain⟨v,r,f⟩:=k
 exact⟨u,v,h,r,f⟩
theorem kv_str {i:Str} {t:PySem.Tok} :KVal G (.str i) (.str i t):=⟨.str i,⟨t,rfl⟩,fun w=>by simp[Rep]⟩
theorem kvs_nil:KVals G [] [] :=rfl
theorem kvs_cons {d:D} {ds:List D} {u:Value} {us:List Value} (h:KVal G d u) (r:KVals G ds us):KVals G (d::ds) (u::us):=⟨u,us,rfl,h,r⟩
theorem KVals.vals:∀ {ds:List D} {us:List Value},KVals G ds us→∃vs,Vals vs us∧∀w,RepL G w ds vs
 | [],us,h=>by
   have:us= [] :=h
   subst this;exact⟨[], .nil,fun w=>by simp[RepL]⟩
 |d::ds,us,h=>by
  obtain⟨u,r,rfl,⟨v,h1,h2⟩,h3⟩:=h
  obtain⟨vs,q1,q2⟩:=KVals.vals h3
  exact⟨v::vs, .cons h1 q1,fun w=>by simp only[RepL];exact⟨v,vs,rfl,h2 w,q2 w⟩⟩
theorem KVals.len:∀ {ds:List D} {us:List Value},KVals G ds us→us.length=ds.length
 | [],us,h=>by
   have:us= [] :=h
   subst this;rfl
 |d::ds,us,h=>by
  obtain⟨u,r,rfl,_,h3⟩:=h
  simp[KVals.len h3]
theorem kv_tup {ds:List D} {us:List Value} {dd:Option Addr} {n:Nat} {sl:Array (Option Value)} (l:G.K.lookup a=some ⟨.type "tuple",dd, .seq us.toArray n,sl⟩) (h:KVals G ds us) (hz:ds.length≤1000:=by decide) (hp:plc ds=false:=by rfl):KVal G (.tup ds) (.ref a):=by
 obtain⟨vs,h1,h2⟩:=h.vals
 refine⟨.ref a,rfl,fun w=> ?_⟩
 simp only[Rep]
 exact⟨a,vs,rfl, .inr ⟨⟨_,us.toArray,n,l,rfl,rfl,by simp only[List.size_toArray];rw[h.len,sizeLine_eq];omega,by simpa using h1⟩,hp⟩,h2 w⟩
def spLaw (K:PySem.W.Frag):Sp:=fun vs H Q _=>∃(a:Addr) (ns:List Int),vs= [.ref a] ∧ns.length≤63∧Only H∧SqL K H a (ns.map V.int)∧∀H',Q (.bl true) H'
theorem law_ok {P:Program} {w:World} {base:Heap} {k:Nat} {f:Addr} {fd:FuncData} {x:Str} {F:FN} (hF:FnG P w G.K G.mg base k f fd [x] (spOf G F)) (true_:∀ns:List Int,ns.length≤63→∃S,F [.scr ns] [] = .ok (.bl true) S):
 FnG P w G.K G.mg base k f fd [x] (spLaw G.K):=by
 refine hF.imp fun vs H Q E h=> ?_
 obtain⟨a,ns,rfl,hl,ho,hS,hQ⟩:=h
 obtain⟨S,e⟩:=true_ ns hl
 refine⟨⟨[],[],H,[]⟩,[.scr ns],rfl,⟨rfl,fun n m a o o' h=>by simp at h,fun n o a h=>by simp at h,fun a h=>by simp at h⟩,?_,?_⟩
 ·simp only[RepL,Rep]
  refine⟨.ref a,[],rfl,⟨a,rfl,?_⟩,rfl⟩
  rcases hS with h|h
  ·exact .inl ⟨h,fun m=>m.elim (fun⟨n,o,h,_⟩=>by simp at h) fun h=>by simp at h⟩
  ·exact .inr h
 ·rw[e]
  intro v w' x hs s r
  simp only[Rep] at r
  subst r
  exact hQ _
theorem cx_none {P:Program} {w:World} {H:Hp} {s:Shared} {e:Value} {s':Shared} (h:L2.CX P w [] H s (fun _ _ _=>False) e s'):False:=by
 obtain⟨_,_,_,_,_,_,_,_,_,_,_,_,z⟩:=h
 exact z
theorem funD_mk {K:PySem.W.Frag} {x qual:Str} {params:Arguments} {body:List Stmt} {scope:Scope} {kws:List (Str × V)} {f:Addr} {oc:Value} {od an:Option Addr} {osl:Array (Option Value)} {kV doc pm cdv ct:Value}
 (l:K.lookup f=some ⟨oc,od, .func (PySem.W.fnOf x qual params body scope .none kV doc pm an cdv ct),osl⟩) (c:PySem.W.codeIn K cdv qual=true) (k:PySem.W.keepIn K (.ref f)=true) (kw:KwdV K kV kws):
 FunD K x qual params body scope [] kws f (PySem.W.fnOf x qual params body scope .none kV doc pm an cdv ct):=
 ⟨⟨oc,od, .none,kV,doc,pm,an,cdv,ct,osl,rfl,l,c, .inl ⟨rfl,rfl⟩,kw⟩,k⟩
theorem kw_none {K:PySem.W.Frag} {kV:Value} :KwdV K kV [] := .inl rfl
theorem roomG_caller {k:Nat} (h:Room k callerA):RoomG k callerA:=⟨h,rfl⟩
theorem top_core {P:Program} {w:World} {K:PySem.W.Frag} {mg mb:Str→Option Value} {k:Nat} {fa sc:Addr} {fd:FuncData} {x:Str} {sp:Sp} {st:Shared} {its:List Value} {ns:List Int} {H:Hp}
 (inK:K.In st.heap) (main:st.heap.Ns mainGlobals mg) (bns:st.heap.Ns builtinsNs mb) (boot:∀y:Str,y≠ "__name__" →mb y=bootBuiltins y) (nl:st.heap.NoLimit) (ng:st.gens= #[])
 (at_:st.heap.get? sc=some { cls:= .type "list",data:= .seq its.toArray }) (room:Room k callerA)
 (mods:∃mm,st.heap.Ns sysModules mm) (F:∀base:Heap,K.In base→base.Ns mainGlobals mg→(∃ o,base.get? sysModules=some o)→FnG P w K mg base k fa fd [x] sp) (bind:∀(s:Shared) (u:Value),BindsTo s fd ⟨[u],[]⟩ [(x,u)])
 (only:Only H) (held:HOk P w H st.heap) (alone:∀b,H b≠none→b=sc) (apart:H sc≠none→K.lookup sc=none)
 (want:sp [.ref sc] H (fun v _=>v= .bl true) fun _ _ _=>False):
 codeAny (model P w) callerA (.call (.ref fa) ⟨[.ref sc],[]⟩) (fun r s'=>r= .ok (.ret (.bool true))∧OldK st.heap s'.heap∧s'.os=st.os∧AllBare s'.gens) st:=by
 have shown:∀ {b:Addr} {o:Obj},st.heap.get? b=some o→(b=sc→H sc=none)→(hidT st.heap H).get? b=some o:=fun {b o} e n=>by
  refine hidT_get e ?_
  by_cases hb:b=sc
  ·rw[hb];exact n hb
  ·exact Classical.byContradiction fun z=>hb (alone b z)
 have dicts:∀ {b:Addr} {m:Str→Option Value},st.heap.Ns b m→(hidT st.heap H).Ns b m:=fun {b m} z=>by
  obtain⟨o,es,ep,e,d,q⟩:=z
  refine⟨o,es,ep,shown e fun hb=> ?_,d,q⟩
  rw[hb,at_] at e
  cases e
  cases(show Data.seq its.toArray _=Data.dict es ep from d)
 have inB:K.In (hidT st.heap H):=fun b o e=>shown (inK b o e) fun hb=>Classical.byContradiction fun z=>by
  rw[hb,apart z] at e;cases e
 obtain⟨mc,nl1,nl2⟩:=nl
 have world:Mod K mg (hidT st.heap H):=⟨inB,dicts main,⟨mb,dicts bns,boot⟩,⟨mc,dicts nl1,nl2⟩⟩
 have entry:Env0 P w K mg (hidT st.heap H) callerA [] st H:=
  { frames:=rfl,mod:=world,bs:=fun b o e=>of_hidT e,bsz:=Nat.le_of_eq (hidT_size _ _),funs:=trivial,frf:=fun b z=>(by cases z),hok:=held,bare:= .of_eq ng }
 have there:∃o,(hidT st.heap H).get? sysModules=some o:=by
  obtain⟨mm,z⟩:=mods
  obtain⟨o,_,_,e,_⟩:=dicts z
  exact⟨o,e⟩
 have run:=(F _ inB (dicts main) there).go callerA [] st H ⟨[.ref sc],[]⟩ [.ref sc] [.ref sc] _ _ (roomG_caller room) entry (bind st (.ref sc)) (.cons rfl .nil) want
 refine codeAny_mono run fun r s' z=> ?_
 match r,z with
 | .error e,z=>exact(cx_none z).elim
 | .ok (.ret u),⟨v,H',e1,e2,e3,e4,e5,e6⟩=>
   have e6:v= .bl true:=e6
   subst e6
   obtain rfl:u=Value.bool true:=e5
   refine⟨rfl,OldK.of_keep fun b o e=> ?_,e1,e2⟩
   rcases only b with z|⟨ob,xs,z⟩
   ·exact e3.keep b o e z (fun q=>by cases q) (fun q=>by cases q)
   ·have old:=(held b _ z).1
    have new:=(e4 b _ (e3.frzs b ob _ z)).1
    rw[e] at old
    cases old
    exact new
theorem top_call {P:Program} {w:World} {K:PySem.W.Frag} {mg mb:Str→Option Value} {k:Nat} {fa sc:Addr} {fd:FuncData} {x:Str} {sp:Sp} {st:Shared} {its:List Value} {ns:List Int}
 (inK:K.In st.heap) (main:st.heap.Ns mainGlobals mg) (bns:st.heap.Ns builtinsNs mb) (boot:∀y:Str,y≠ "__name__" →mb y=bootBuiltins y) (nl:st.heap.NoLimit) (ng:st.gens= #[])
 (at_:st.heap.get? sc=some { cls:= .type "list",data:= .seq its.toArray }) (hi:IntsAre its ns) (size:ns.length≤sizeLine) (room:Room k callerA)
 (mods:∃mm,st.heap.Ns sysModules mm) (F:∀base:Heap,K.In base→base.Ns mainGlobals mg→(∃ o,base.get? sysModules=some o)→FnG P w K mg base k fa fd [x] sp) (bind:∀(s:Shared) (u:Value),BindsTo s fd ⟨[u],[]⟩ [(x,u)])
 (want:∀H:Hp,Only H→SqL K H sc (ns.map V.int)→sp [.ref sc] H (fun v _=>v= .bl true) fun _ _ _=>False):
 codeAny (model P w) callerA (.call (.ref fa) ⟨[.ref sc],[]⟩) (fun r s'=>r= .ok (.ret (.bool true))∧OldK st.heap s'.heap∧s'.os=st.os∧AllBare s'.gens) st:=by
 have rel:=vals_ints hi
 by_cases hk:∃o,K.lookup sc=some o
 ·obtain⟨o,hk⟩:=hk
  obtain rfl:o=_:=Option.some.inj ((inK sc o hk).symm.trans at_)
  have none_:∀b:Addr,(fun _=>none:Hp) b=none:=fun _=>rfl
  refine top_core (H:=fun _=>none) (ns:=ns) inK main bns boot nl ng at_ room mods F bind (fun b=> .inl rfl) (fun b u z=> ?_) (fun b z=>absurd rfl z) (fun z=>absurd rfl z) (want _ (fun b=> .inl rfl) (.inr ⟨_,its.toArray,_,hk,rfl,rfl,rfl,?_,by simpa using rel⟩))
  ·cases(show(none:Option HO)=some u from z)
  ·rw[List.size_toArray,hi.length];exact size
 ·let o0:Obj:= { cls:= .type "list",data:= .seq its.toArray }
  let H0:Hp:=upd (fun _=>none) sc (.frz o0 (.lst (ns.map V.int)))
  have here:H0 sc=some (.frz o0 (.lst (ns.map V.int))):=upd_same
  have there:∀b,b≠sc→H0 b=none:=fun b hb=>upd_ne hb
  have only:Only H0:=fun b=>by
   by_cases hb:b=sc
   ·rw[hb];exact .inr ⟨o0,_,here⟩
   ·exact .inl (there b hb)
  refine top_core (H:=H0) (ns:=ns) inK main bns boot nl ng at_ room mods F bind only (fun b u z=> ?_) (fun b z=>Classical.byContradiction fun hb=>z (there b hb)) (fun _=> ?_) (want H0 only (.inl (.inr ⟨o0,here⟩)))
  ·by_cases hb:b=sc
   ·subst hb
    rw[here] at z
    cases z
    exact⟨at_,by rw[List.length_map];exact size,its,_,rel,at_⟩
   ·rw[there b hb] at z;cases z
  ·cases q:K.lookup sc with
   |none=>rfl
   |some o=>exact absurd ⟨o,q⟩ hk
theorem walk {l:PySem.W.OpenLaw} {q:Program} {loose:List Str} {XP:(Str→Option Value)→Heap→Prop} {YP:World→Heap→Prop} {d:DefRec} {K:Params→PySem.W.Frag} {k:Nat} {x:Str} (hn:l.most=some 63) (hi:importsNone q=true) (hdf:d.params.defaults= []) (hr:Room k callerA)
 (hY:∀(w:World) (h:Heap),YP w h→(K w.params).In h)
 (F:∀(w:World) (mg:Str→Option Value) (fa:Addr) (h:Heap),(K w.params).In h→h.Ns mainGlobals mg→mg d.name=some (.ref fa)→
   ∃fd:FuncData,(∀ (s:Shared) (u:Value),BindsTo s fd ⟨[u],[]⟩ [(x,u)])∧∀base:Heap,(K w.params).In base→base.Ns mainGlobals mg→(∃ o,base.get? sysModules=some o)→FnG l.prog w (K w.params) mg base k fa fd [x] (spLaw (K w.params))):
 PySem.W.WalkO q loose XP YP l.row.toRowW d [] (fun f vs=>PySem.call f vs):=by
 refine Att.attach_call hn hdf fun w s₀ s₁ mg mb fa o pm cd doc a vs ns G Y ho hd hcd hmg hobj hints hlen hg=> ?_
 obtain⟨fd,hb,hF⟩:=F w mg fa _ (hY w _ Y) G.T.g hmg
 exact top_call (hY w _ Y) G.T.g G.T.b G.T.builtins G.T.nolimit hg hobj hints (Nat.le_trans hlen (by decide)) hr (let⟨mm,z,_⟩:=(G.T.seer hi).mods;⟨mm,z⟩) hF hb fun H hO hS=>⟨a,ns,rfl,hlen,hO,hS,fun _=>rfl⟩
end
end L3
namespace L3
open PySem PySem.Spec PyProof.Rows L2
abbrev PD:=EnvD→Store→R (Option Int)
def pNo:PD:=fun _ S=> .ok none S
def pYes (a:ED):PD:=fun env S=>(a env S).bind fun x S1=>match x with
 | .int i=> .ok (some i) S1
 | _=> .bad
def tO (G:GC) (m:PD) (Wx:WX):TO:=fun σ H Q=>∃w env,w.H=H∧SRep G w∧ERep G w env σ ∧Post G w (m env w.S) (fun _ a b=>a=b) Q (fun C dx H'=>Wx C dx σ H')
def cutL {α :Type} (xs:List α) (lo hi:Option Int):List α :=(xs.drop (HT.sIx xs.length 0 lo)).take (HT.sIx xs.length xs.length hi-HT.sIx xs.length 0 lo)
def slD (x:D) (lo hi:Option Int) (S:Store):R D:=match x with
 | .tup l=> .ok (.tup (cutL l lo hi)) S
 | .str z=>if z.length≤sizeLine then .ok (.str (cutS z lo hi)) S else .bad
 |x=>match asL x S with
  |some l=> .ok (.lst (cutL l lo hi)) S
  |none=> .bad
def eSl (a:ED) (l h:PD):ED:=fun env S=>(a env S).bind fun x S1=>(l env S1).bind fun lo S2=>(h env S2).bind fun hi S3=>slD x lo hi S3
theorem cutL_whole {α :Type} {xs:List α} {lo hi:Option Int} (h:HT.sIx xs.length 0 lo=0∧HT.sIx xs.length xs.length hi=xs.length):cutL xs lo hi=xs:=by
 unfold cutL
 rw[h.1,h.2]
 simp
section
variable {G:GC} {X:Cx} {Wx:WX} {pos p2:Pos} {w:Wd}
theorem RepL.cut {l:List D} {vs:List V} (h:RepL G w l vs) (lo hi:Option Int):RepL G w (cutL l lo hi) (cutV vs lo hi):=by
 unfold cutL cutV
 rw[h.length]
 exact(h.drop _).take _
theorem q_pno:PO X none (tO G pNo Wx):=⟨fun pins s σ H Q I q=>by
 obtain⟨w,env,rfl,sr,er,p⟩:=q
 exact po_none.run pins s σ w.H Q I (Post.ret (Ra:=fun _ (a b:Option Int)=>a=b) sr rfl p)⟩
theorem q_pyes {e:Expr} {m:ED} (h:PE X e (tE G m Wx)):PO X (some e) (tO G (pYes m) Wx):=⟨fun pins s σ H Q I q=>by
 refine(po_some h).run pins s σ H Q I ?_
 obtain⟨w,env,rfl,sr,er,p⟩:=q
 refine⟨w,env,rfl,sr,er,(Post.bind (Ra:=Rep G) p).mono (fun x H1 m=> ?_) fun _ _ _ h=>h⟩
 obtain⟨w1,d1,rfl,x1,s1,rp1,p1⟩:=m
 cases d1 with
 |int i=>
  simp only[Rep] at rp1
  exact⟨i,rp1,Post.ret (Ra:=fun _ (a b:Option Int)=>a=b) s1 rfl p1⟩
 | _=>exact p1.elim⟩
theorem q_slice {e:Expr} {lo hi:Option Expr} {m:ED} {ml mh:PD} (hK:X.K=G.K) (he:PE X e (tE G m Wx)) (hl:PO X lo (tO G ml Wx)) (hh:PO X hi (tO G mh Wx)):PE X (.Subscript e (.Slice lo hi none p2) pos) (tE G (eSl m ml mh) Wx):=
 peI (pe_slice (sl_tupA.or (sl_str.or sl_list)) he hl hh) fun σ H Q q=>by
  obtain⟨w,env,rfl,sr,er,p⟩:=q
  refine⟨w,env,rfl,sr,er,(Post.bind (Ra:=Rep G) p).mono (fun x H1 m=> ?_) fun _ _ _ h=>h⟩
  obtain⟨w1,d1,rfl,x1,s1,rp1,p1⟩:=m
  refine⟨w1,env,rfl,s1,er.mono x1,(Post.bind (Ra:=fun _ (a b:Option Int)=>a=b) p1).mono (fun lo H2 m=> ?_) fun _ _ _ h=>h⟩
  obtain⟨w2,d2,rfl,x2,s2,rfl,p2⟩:=m
  refine⟨w2,env,rfl,s2,(er.mono x1).mono x2,(Post.bind (Ra:=fun _ (a b:Option Int)=>a=b) p2).mono (fun hi H3 m=> ?_) fun _ _ _ h=>h⟩
  obtain⟨w3,d3,rfl,x3,s3,rfl,p3⟩:=m
  have r1:=Rep.mono (WX'.trans x2 x3) _ _ rp1
  unfold slD at p3
  split at p3
  ·have r1':=r1
   simp only[Rep] at r1
   obtain⟨a,vs,rfl,h1,h2⟩:=r1
   have hl:=h2.length
   refine .inl ⟨a,vs,rfl,by rw[hK];exact SqT_of h1,fun hw=> ?_,fun _ p' hp'=>new_tup s3 (h2.cut d2 d3) p3 p' hp'⟩
   rw[cutL_whole (by rw[← hl];exact hw)] at p3
   exact Post.ret (Ra:=Rep G) s3 r1' p3
  ·split at p3
   ·rename_i hz
    simp only[Rep] at r1
    exact .inr (.inl ⟨_,r1,hz,Post.ret (Ra:=Rep G) s3 (by simp[Rep]) p3⟩)
   ·exact p3.elim
  ·split at p3
   ·rename_i l hl
    obtain⟨a,vs,rfl,h1,h2⟩:=asL_rep s3 r1 hl
    exact .inr (.inr ⟨a,vs,rfl,SqL.of h1,fun p' hp'=>new_lst (S:=w3.S) s3 (h2.cut d2 d3) p3 p' hp'⟩)
   ·exact p3.elim
def allStrs:List D→Option (List Str)
 | [] =>some []
 | .str b::r=>(allStrs r).map (b:: ·)
 | _=>none
theorem allStrs_rep:∀ {l:List D} {vs:List V} {bs:List Str},RepL G w l vs→allStrs l=some bs→vs=bs.map V.str
 | [],vs,bs,r,e=>by simp only[RepL] at r;cases e;exact r
 |d::ds,vs,bs,r,e=>by
  simp only[RepL] at r
  obtain⟨v,r',rfl,h1,h2⟩:=r
  cases d with
  |str b=>
   simp only[allStrs,Option.map_eq_some_iff] at e
   obtain⟨bs',e1,rfl⟩:=e
   simp only[Rep] at h1
   rw[h1,allStrs_rep h2 e1]
   rfl
  | _=>simp[allStrs] at e
def asS (x:D) (S:Store):Option (List D):=match x with
 | .tup l=>some l
 |x=>asL x S
def joinD:D→FN:=fun x xs S=>match x,xs with
 | .str a,[y] =>match(asS y S).bind allStrs with
   |some ys=>if(ys.map (·.length)).sum+ys.length*a.length≤16777216 then .ok (.str (Txt.join a ys)) S else .bad
   |none=> .bad
 | _,_=> .bad
theorem c_join:CalmM joinD:=fun x xs S=>by unfold joinD;repeat' split
                                           all_goals trivial
theorem asS_rep {x:D} {v:V} {l:List D} (sr:SRep G w) (r:Rep G w x v) (e:asS x w.S=some l):∃a vs,v= .ref a∧(SqL G.K w.H a vs∨SqT G.K w.H a vs)∧RepL G w l vs:=by
 unfold asS at e
 split at e
 ·cases e
  simp only[Rep] at r
  obtain⟨a,vs,rfl,h1,h2⟩:=r
  exact⟨a,vs,rfl, .inr (SqT_of h1),h2⟩
 ·obtain⟨a,vs,rfl,h1,h2⟩:=asL_rep sr r e
  exact⟨a,vs,rfl, .inl (SqL.of h1),h2⟩
theorem o_join (hK:X.K=G.K):MtR X "str.join" (rM G joinD):=mtI2 mt_join fun x xs H Q q=>by
 obtain⟨w,d,ds,rfl,sr,r1,rl,p⟩:=q
 unfold joinD at p
 split at p
 ·rename_i a y
  split at p
  ·rename_i ys hy
   split at p
   ·rename_i hz
    simp only[Rep] at r1
    simp only[RepL] at rl
    obtain⟨v,r',rfl,ry,rfl⟩:=rl
    cases hl:asS y w.S with
    |none=>rw[hl] at hy;cases hy
    |some l=>
     rw[hl] at hy
     obtain⟨b,vs,rfl,h1,h2⟩:=asS_rep sr ry hl
     rw[allStrs_rep h2 hy] at h1
     exact⟨a,b,ys,r1,rfl,by rw[hK];exact h1,hz,Post.ret (Ra:=Rep G) sr (by simp[Rep]) p⟩
   ·exact p.elim
  ·exact p.elim
 ·exact p.elim
def keyPy:Key→PyData
 | .inl i=> .int i
 | .inr x=> .str x
mutual
def toPyR:D→Option PyData
 | .non=>some .none
 | .bl b=>some (.bool b)
 | .int i=>some (.int i)
 | .str s=>some (.str s)
 | .tup l=>(toPyRL l).map .tuple
 | .lst l=>(toPyRL l).map .list
 | .dic ks l=>if ks.length=l.length then(toPyRL l).map fun xs=> .dict ((ks.map keyPy).zip xs) else none
 | .obj _=>none
 | .glb _=>none
 | .wtp _=>none
 | .ty _=>none
 | .scr _=>none
 | .kd _ _=>none
 | .xcp _ _ _=>none
 | .lam _ _=>none
def toPyRL:List D→Option (List PyData)
 | [] =>some []
 |d::ds=>match toPyR d,toPyRL ds with
  |some x,some xs=>some (x::xs)
  | _,_=>none
end
theorem toPyRL_len:∀(l:List D) (xs:List PyData),toPyRL l=some xs→xs.length=l.length
 | [],xs,h=>by simp only[toPyRL,Option.some.injEq] at h;subst h;rfl
 |d::l,xs,h=>by
  simp only[toPyRL] at h
  split at h
  ·rename_i y ys e1 e2
   cases h
   simp[toPyRL_len l ys e2]
  ·cases h
theorem dict_reads {P:Program} {w:World} {h:Heap} :∀ {es:List DictEntry} {kvs:List (Key × Value)} {ks:List Key} {vs:List V},vs.length=ks.length→KV (ks.zip vs) kvs→Pairs (mixKind P w) es kvs→
 ReadsAll h (es.map (·.key)) (ks.map keyPy) [] ∧Vals vs (es.map (·.val))
 | _,_,[],[],_,r,pr=>by cases r;cases pr;exact⟨.nil, .nil⟩
 | _,_,[],v::vs,hl,_,_=>by simp at hl
 | _,_,k::ks,[],hl,_,_=>by simp at hl
 | _,_,k::ks,v::vs,hl,r,pr=>by
   cases r with
   |cons r1 r2=>
    cases pr with
    |cons p1 p2 p3=>
     obtain⟨q1,q2⟩:=dict_reads (h:=h) (ks:=ks) (vs:=vs) (by simpa using hl) r2 p3
     refine⟨?_, .cons (by show L2.RelV v _;simp only [];rw[p2];exact r1.2) q2⟩
     have e1:k=_:=r1.1
     rename_i en es'
     have rd:Reads h en.key (keyPy k) [] :=by
      rcases keyIs_shape p1 with⟨i,t,e2,e3⟩|⟨x,t,e2,e3⟩
      ·rw[e3,e1.trans e2];exact .int i t
      ·rw[e3,e1.trans e2];exact .str x t
     exact .cons (as:= []) (bs:= []) rd q1
mutual
theorem reads_of {pins:List (Addr × Obj)} {s:Shared} {σ :L2.St} (hK:X.K=G.K) (hS:w.H sysModules=none) (I:Inv X pins σ w.H s):∀(d:D) (v:V) (u:Value) (x:PyData),Rep G w d v→toPyR d=some x→RelV v u→∃as,Reads s.heap u x as∧sysModules ∉ as
 | .non,v,u,x,r,e,rv=>by simp only[Rep] at r;subst r;cases e;cases rv;exact⟨[], .none,by simp⟩
 | .bl b,v,u,x,r,e,rv=>by simp only[Rep] at r;subst r;cases e;cases rv;exact⟨[], .bool b,by simp⟩
 | .int i,v,u,x,r,e,rv=>by simp only[Rep] at r;subst r;cases e;obtain⟨t,rfl⟩:=rv;exact⟨[], .int i t,by simp⟩
 | .str z,v,u,x,r,e,rv=>by simp only[Rep] at r;subst r;cases e;obtain⟨t,rfl⟩:=rv;exact⟨[], .str z t,by simp⟩
 | .tup l,v,u,x,r,e,rv=>by
   simp only[Rep] at r
   obtain⟨a,vs,rfl,h1,h2⟩:=r
   simp only[toPyR,Option.map_eq_some_iff] at e
   obtain⟨xs,e1,rfl⟩:=e
   cases rv
   obtain⟨its,rv,⟨o,ho,hc,n,hd⟩,_⟩:=I.tuple (xs:=vs) (by rw[hK];exact SqT_of h1)
   obtain⟨as,h3,h4⟩:=readsL_of hK hS I l vs its xs h2 e1 rv
   exact⟨as, .tuple ho hc hd h3,h4⟩
 | .lst l,v,u,x,r,e,rv=>by
   simp only[Rep] at r
   obtain⟨a,vs,rfl,h1,_,h2⟩:=r
   simp only[toPyR,Option.map_eq_some_iff] at e
   obtain⟨xs,e1,rfl⟩:=e
   cases rv
   obtain⟨its,rv,⟨o,n,ho,hc,_,hd⟩,_⟩:=I.list (xs:=vs) (SqL.of h1)
   obtain⟨as,h3,h4⟩:=readsL_of hK hS I l vs its xs h2 e1 rv
   exact⟨_, .list ho hc hd h3,fun h=>(List.mem_cons.mp h).elim (fun e=>by rw[← e,hS] at h1;cases h1) h4⟩
 | .dic ks l,v,u,x,r,e,rv=>by
   simp only[Rep] at r
   obtain⟨a,vs,rfl,h1,_,hl,h2⟩:=r
   simp only[toPyR] at e
   rw[if_pos hl] at e
   rw[Option.map_eq_some_iff] at e
   obtain⟨xs,e1,rfl⟩:=e
   cases rv
   obtain⟨_,hs,kvs,k1,o,es,ep,g,ex,dt,_,pr,_⟩:=dk_of I.hok h1
   have hv:vs.length=l.length:=RepL.length h2
   obtain⟨q1,q2⟩:=dict_reads (h:=s.heap) (ks:=ks) (vs:=vs) (by omega) k1 pr
   obtain⟨bs,q3,q4⟩:=readsL_of hK hS I l vs _ xs h2 e1 q2
   have hx:xs.length=ks.length:=by
    have h5:=toPyRL_len l xs e1
    omega
   have z1:((ks.map keyPy).zip xs).map (·.1)=ks.map keyPy:=by rw[List.map_fst_zip];simp;omega
   have z2:((ks.map keyPy).zip xs).map (·.2)=xs:=by rw[List.map_snd_zip];simp;omega
   refine⟨_, .dict (kvs:=(ks.map keyPy).zip xs) (as:= []) (bs:=bs) g ex.1 dt (by rw[z1];exact q1) (by rw[z2];exact q3),fun h=> ?_⟩
   simp only[List.cons_append,List.nil_append,List.mem_cons] at h
   rcases h with h|h
   ·rw[← h] at hs
    simp at hs
   ·exact q4 h
 | .obj _,_,_,_,_,e,_=>by simp[toPyR] at e
 | .glb _,_,_,_,_,e,_=>by simp[toPyR] at e
 | .wtp _,_,_,_,_,e,_=>by simp[toPyR] at e
 | .ty _,_,_,_,_,e,_=>by simp[toPyR] at e
 | .scr _,_,_,_,_,e,_=>by simp[toPyR] at e
 | .kd _ _,_,_,_,_,e,_=>by simp[toPyR] at e
theorem readsL_of {pins:List (Addr × Obj)} {s:Shared} {σ :L2.St} (hK:X.K=G.K) (hS:w.H sysModules=none) (I:Inv X pins σ w.H s):∀(d:List D) (v:List V) (u:List Value) (x:List PyData),RepL G w d v→toPyRL d=some x→Vals v u→∃as,ReadsAll s.heap u x as∧sysModules ∉ as
 | [],v,u,x,r,e,rv=>by simp only[RepL] at r;subst r;cases e;cases rv;exact⟨[], .nil,by simp⟩
 |d::ds,v,u,x,r,e,rv=>by
  simp only[RepL] at r
  obtain⟨v1,r',rfl,h1,h2⟩:=r
  simp only[toPyRL] at e
  split at e
  ·rename_i y ys e1 e2
   cases e
   cases rv with
   |cons ra rb=>
    obtain⟨as,q1,q2⟩:=reads_of hK hS I d v1 _ y h1 e1 ra
    obtain⟨bs,q3,q4⟩:=readsL_of hK hS I ds r' _ ys h2 e2 rb
    exact⟨_, .cons q1 q3,fun z=>(List.mem_append.mp z).elim q2 q4⟩
  ·cases e
end
def showOk (x:PyData):Bool:=x.showable&&decide (x.shown.length≤sizeLine)&&decide (x.depth≤100)
def reprD:FN:=fun xs S=>match xs with
 | [x] =>match toPyR (deref x S) with
   |some a=>if showOk a then .ok (.str a.shown) S else .bad
   |none=> .bad
 | _=> .bad
theorem c_repr:CalmN reprD:=fun xs S=>by unfold reprD;repeat' split
                                         all_goals trivial
theorem derefR_rep {pins:List (Addr × Obj)} {s:Shared} {σ :L2.St} (hK:X.K=G.K) (hS:w.H sysModules=none) (I:Inv X pins σ w.H s) {x:D} {v:V} {u:Value} (sr:SRep G w) (r:Rep G w x v) (rv:RelV v u) {y:PyData} (e:toPyR (deref x w.S)=some y):∃as,Reads s.heap u y as∧sysModules ∉ as:=by
 cases x with
 |obj n=>
  unfold deref at e
  cases hn:w.S[n]? with
  |none=>simp[hn,toPyR] at e
  |some o=>
   cases o with
   |lst l=>
    simp only[hn] at e
    obtain⟨a,vs,rfl,h1,h2⟩:=asL_rep (l:=l) sr r (by simp[asL,hn])
    simp only[toPyR,Option.map_eq_some_iff] at e
    obtain⟨xs,e1,rfl⟩:=e
    cases rv
    obtain⟨its,rv,⟨o,n,ho,hc,_,hd⟩,_⟩:=I.list (xs:=vs) (SqL.of h1)
    obtain⟨as,h3,h4⟩:=readsL_of hK hS I l vs its xs h2 e1 rv
    exact⟨_, .list ho hc hd h3,fun h=>(List.mem_cons.mp h).elim (fun e=>by rw[← e,hS] at h1;cases h1) h4⟩
   |ptp l=>
    simp only[hn] at e
    simp only[Rep] at r
    obtain⟨a,hm,rfl⟩:=r
    obtain⟨o,vs,⟨h1,_⟩,_,h2⟩:=sr.obj n _ a hn hm
    simp only[toPyR,Option.map_eq_some_iff] at e
    obtain⟨xs,e1,rfl⟩:=e
    cases rv
    obtain⟨its,rv,⟨o,ho,hc,n,hd⟩,_⟩:=I.tuple (xs:=vs) (.inl (.inr ⟨o,h1⟩))
    obtain⟨as,h3,h4⟩:=readsL_of hK hS I l vs its xs h2 e1 rv
    exact⟨as, .tuple ho hc hd h3,h4⟩
   | _=>simp[hn,toPyR] at e
 | _=>exact reads_of hK hS I _ v u y r e rv
theorem o_repr (hK:X.K=G.K) (hM:∃o,X.base.get? sysModules=some o) (hg:X.A.guards=some []) (hu:X.A.units+150<cLine):CallR X (.builtin "repr") (rN G reprD):=by
 intro pins s σ H xs us Q I rs q
 obtain⟨w,ds,rfl,sr,rl,p⟩:=q
 unfold reprD at p
 split at p
 ·rename_i x
  split at p
  ·rename_i a ha
   split at p
   ·rename_i ok
    simp only[showOk,Bool.and_eq_true,decide_eq_true_eq] at ok
    obtain⟨⟨ok1,ok2⟩,ok3⟩:=ok
    simp only[RepL] at rl
    obtain⟨v,r',rfl,r1,rfl⟩:=rl
    cases rs with
    |cons rv rt=>
     cases rt
     obtain⟨o,hM⟩:=hM
     obtain⟨as,rd,no⟩:=derefR_rep hK (I.bs _ _ hM).2 I sr r1 rv ha
     have fin:∀(z:Str) (h':Heap) (tk:PySem.Tok) (tk':Nat),z=a.shown→(∀ b o,s.heap.get? b=some o→h'.get? b=some o)→EP X pins σ Q (.str z tk) { s with heap:=h',toks:=tk' } :=fun z h' tk tk' ez k=>by
      subst ez
      exact⟨.str _,w.H,I.kept (t':=tk') k,⟨tk,rfl⟩,Post.ret (Ra:=Rep G) sr (by simp[Rep]) p⟩
     have same:∀b o,s.heap.get? b=some o→s.heap.get? b=some o:=fun _ _ h=>h
     cases rd with
     |none=>exact PySem.P.repr_of_none (fin _ s.heap _ _ rfl same)
     |bool b=>exact PySem.P.repr_of_bool (fin _ s.heap _ _ (by simp[PyData.shown]) same)
     |int i t=>exact PySem.P.repr_of_int (by simpa[PyData.showable] using ok1) (fin _ s.heap _ _ rfl same)
     |str z t=>exact PySem.P.repr_of_str (fin _ s.heap _ _ rfl same) (by simpa[PyData.shown] using ok2)
     |list h1 h2 h3 h4=>
      exact repr_of_reads' (.list h1 h2 h3 h4) ok1 (fun _=>no) hg (by omega) same (fun h' t tk k=>fin _ h' t tk rfl k) ok2
     |tuple h1 h2 h3 h4=>
      exact repr_of_reads' (.tuple h1 h2 h3 h4) ok1 (fun _=>no) hg (by omega) same (fun h' t tk k=>fin _ h' t tk rfl k) ok2
     |dict h1 h2 h3 h4 h5=>
      exact repr_of_reads' (.dict h1 h2 h3 h4 h5) ok1 (fun _=>no) hg (by omega) same (fun h' t tk k=>fin _ h' t tk rfl k) ok2
   ·exact p.elim
  ·exact p.elim
 ·exact p.elim
end
end L3
namespace L3
open PySem PySem.Spec PyProof.Rows L2
section
variable {G:GC} {X:Cx} {Wx:WX} {pos p2:Pos} {w:Wd}
def dkAt (x:D) (S:Store):Option (List (Key × D)):=match x with
 | .dic ks l=>if ks.length=l.length then some (ks.zip l) else none
 | .obj n=>match S[n]? with
   |some (.dK kvs)=>some kvs
   | _=>none
 | _=>none
theorem dkAt_rep {x:D} {v:V} {kvs:List (Key × D)} (sr:SRep G w) (r:Rep G w x v) (e:dkAt x w.S=some kvs):∃a vs,v= .ref a∧w.H a=some (.dK vs)∧RepKV G w kvs vs:=by
 cases x with
 |dic ks l=>
  simp only[dkAt] at e
  split at e
  ·rename_i hl
   cases e
   simp only[Rep] at r
   obtain⟨a,vs,rfl,h1,_,_,h2⟩:=r
   exact⟨a,_,rfl,h1,zip_kv hl h2⟩
  ·cases e
 |obj n=>
  simp only[dkAt] at e
  split at e
  ·rename_i l hn
   cases e
   simp only[Rep] at r
   obtain⟨a,hm,rfl⟩:=r
   obtain⟨vs,h1,h2⟩:=sr.obj n _ a hn hm
   exact⟨a,vs,rfl,h1,h2⟩
  ·cases e
 | _=>cases e
def dgetD:D→FN:=fun x xs S=>match dkAt x S,xs with
 |some kvs,[y] =>match keyOf y with
  |some k=> .ok ((dGet kvs k).getD .non) S
  |none=> .bad
 |some kvs,[y,z] =>match keyOf y with
  |some k=> .ok ((dGet kvs k).getD z) S
  |none=> .bad
 | _,_=> .bad
theorem c_dget:CalmM dgetD:=fun x xs S=>by unfold dgetD;repeat' split
                                           all_goals trivial
theorem o_dget (hu:X.A.units+1<cLine):MtR X "dict.get" (rM G dgetD):=by
 intro pins s σ H x xs v us Q I rx rs q
 obtain⟨w,d,ds,rfl,sr,r1,rl,p⟩:=q
 unfold dgetD at p
 split at p
 ·rename_i kvs y he
  split at p
  ·rename_i k hk
   obtain⟨a,vs,rfl,h1,h2⟩:=dkAt_rep sr r1 he
   simp only[RepL] at rl
   obtain⟨vy,r',rfl,ry,rfl⟩:=rl
   have ek:=keyOf_rep ry hk
   subst ek
   cases rx
   cases rs with
   |cons q1 q2=>
    cases q2
    refine d_get1 hu I (DGet.k h1) q1 fun w' s' I' rw'=>⟨_,w.H,I',rw',?_⟩
    have:=dGet_rep k h2
    cases hg:dGet kvs k with
    |none=>rw[hg] at this p;simp only at this;rw[this];exact Post.ret (Ra:=Rep G) sr (by simp[Rep]) p
    |some d=>rw[hg] at this p;simp only at this;obtain⟨z,e1,rz⟩:=this;rw[e1];exact Post.ret (Ra:=Rep G) sr rz p
  ·exact p.elim
 ·rename_i kvs y z he
  split at p
  ·rename_i k hk
   obtain⟨a,vs,rfl,h1,h2⟩:=dkAt_rep sr r1 he
   simp only[RepL] at rl
   obtain⟨vy,r',rfl,ry,vz,r'',rfl,rz,rfl⟩:=rl
   have ek:=keyOf_rep ry hk
   subst ek
   cases rx
   cases rs with
   |cons q1 q2=>
    cases q2 with
    |cons q2 q3=>
     cases q3
     refine d_get2 hu I (DGet.k h1) q1 q2 fun w' s' I' rw'=>⟨_,w.H,I',rw',?_⟩
     have:=dGet_rep k h2
     cases hg:dGet kvs k with
     |none=>rw[hg] at this p;simp only at this;rw[this];exact Post.ret (Ra:=Rep G) sr rz p
     |some d=>rw[hg] at this p;simp only at this;obtain⟨y,e1,ry⟩:=this;rw[e1];exact Post.ret (Ra:=Rep G) sr ry p
  ·exact p.elim
 ·exact p.elim
end
end L3
namespace L3
open PySem PySem.Spec PyProof.Rows L2
section
variable {prog:Program} {w:World} {A:Around} {E:Value→Shared→Prop} {s:Shared}
theorem applied_back {sl:Addr} {t:PySem.Tok} {n:Nat} {Q:Int × Int × Nat→Shared→Prop} (at_:s.heap.IsSliceOf sl .none .none (.int (-1) t)) (h:Q ((n:Int)-1,-1,n) s):
 wpAny (model prog w) A (Builtin.Slice.sliceApplied (.ref sl) (pure (n:Int))) Q E s:=by
 obtain⟨ob,e1,_,e2⟩:=id at_
 unfold Builtin.Slice.sliceApplied Builtin.Slice.sliceFields
 refine wpAny_bind (wpAny_bind (wpAny_field e1 e2 (x:= .none) rfl (wpAny_bind (wpAny_field e1 e2 (x:= .none) rfl (wpAny_bind (wpAny_field e1 e2 (x:= .int (-1) t) rfl (wpAny_pure ?_)))))))
 refine wpAny_bind (slicePart_int ?_)
 show wpAny _ _ (if((-1:Int)==0)=true then _ else _) _ _ s
 rw[if_neg (by decide)]
 refine wpAny_bind (slicePart_none (wpAny_bind (slicePart_none (wpAny_bind (wpAny_pure ?_)))))
 have e3:Builtin.Slice.sliceAdjust none none (-1) (n:Int)=((n:Int)-1,-1):=rfl
 have e4:Builtin.Slice.slicePlaces ((n:Int)-1) (-1) (-1)=n:=by
  unfold Builtin.Slice.slicePlaces
  rw[if_neg (by decide)]
  by_cases h0:n=0
  ·subst h0;decide
  ·rw[if_pos (by omega)]
   have:((n:Int)-1- -1-1) / -(-1)+1=n:=by
    rw[show -(-1:Int)=1 by decide,Int.ediv_one];omega
   rw[this];rfl
 show wpAny _ _ (match Builtin.Slice.sliceAdjust none none (-1) (n:Int) with|(lo,hi)=>pure (lo,(-1:Int),Builtin.Slice.slicePlaces lo hi (-1))) _ _ s
 rw[e3]
 show wpAny _ _ (pure ((n:Int)-1,(-1:Int),Builtin.Slice.slicePlaces ((n:Int)-1) (-1) (-1))) _ _ s
 rw[e4]
 exact wpAny_pure h
theorem picked_back (xs:Array Value):((List.range xs.size).filterMap fun(k:Nat)=>xs[((xs.size:Int)-1+(k:Int)* -1).toNat]?).toArray=xs.toList.reverse.toArray:=by
 have e:((List.range xs.size).filterMap fun(k:Nat)=>xs[((xs.size:Int)-1+(k:Int)* -1).toNat]?)=xs.toList.reverse:=by
  have fm:(List.range xs.size).filterMap (fun(k:Nat)=>xs[((xs.size:Int)-1+(k:Int)* -1).toNat]?)=(List.range xs.size).filterMap (fun k=>xs.toList.reverse[k]?):=by
   have gen:∀l:List Nat,(∀ k ∈ l,k<xs.size)→l.filterMap (fun(k:Nat)=>xs[((xs.size:Int)-1+(k:Int)* -1).toNat]?)=l.filterMap (fun k=>xs.toList.reverse[k]?):=fun l=>by
    induction l with
    |nil=>intro _;rfl
    |cons k l ih=>
     intro hl
     have hk:k<xs.size:=hl k (by simp)
     have e:xs[((xs.size:Int)-1+(k:Int)* -1).toNat]? =xs.toList.reverse[k]? :=by
      rw[List.getElem?_reverse (by simpa using hk)]
      have:((xs.size:Int)-1+(k:Int)* -1).toNat=xs.toList.length-1-k:=by simp;omega
      rw[this];simp
     rw[List.filterMap_cons,List.filterMap_cons,e,ih fun k hk=>hl k (List.mem_cons_of_mem _ hk)]
   exact gen _ fun k hk=>List.mem_range.mp hk
  rw[fm]
  have all:∀l:List Value,(List.range l.length).filterMap (fun k=>l[k]?)=l:=fun l=>by
   induction l with
   |nil=>rfl
   |cons a l ih=>
    rw[List.length_cons,List.range_succ_eq_map,List.filterMap_cons]
    simp only[List.getElem?_cons_zero,List.filterMap_map]
    congr 1
  have:=all xs.toList.reverse
  rw[List.length_reverse,Array.length_toList] at this
  rw[this]
 rw[e]
theorem tuple_back {t sl:Addr} {items:Array Value} {tk:PySem.Tok} {Q:Value→Shared→Prop} (at_:IsTup s.heap t items) (ofS:s.heap.IsSliceOf sl .none .none (.int (-1) tk)) (small:items.size≤sizeLine)
 (h:Q (.ref s.heap.objs.size) { s with heap:=s.heap.push { cls:= .type "tuple",data:= .seq items.toList.reverse.toArray } }):wpAny (model prog w) A (getItem (.ref t) (.ref sl)) Q E s:=by
 have fits:sizeOk (.seq items.toList.reverse.toArray):=by
  show items.toList.reverse.toArray.size≤sizeLine
  rw[List.size_toArray,List.length_reverse,Array.length_toList];exact small
 have kind:s.TypeIs (.ref sl) "slice" :=let⟨ob,e1,e2,_⟩:=id ofS;⟨ob,e1,e2⟩
 unfold getItem
 try with_reducible refine wpAny_holding ?_
 first|refine wpAny_bind (wpAny_pure ?_)|skip
 refine wpAny_bind (wpAny_sequenceKey at_.typeIs (by decide) (wpAny_bind (wpAny_callSpecial?_slot (name:=Str.ofString "__getitem__") at_.typeIs PyProof.Rows.slot_tuple_getitem
  (wpAny_call_entry PyProof.Rows.slot_tuple_getitem at_.typeIs entry_tuple_getitem ?_ (args_tuple_getitem _ _)))))
 show wpAny _ _ (Builtin.Tuple.tupleItemsOf (.ref t) >>= _) _ _ s
 refine wpAny_bind (tupleItemsOf_ at_ (wpAny_bind (wpAny_typeOf kind ?_)))
 rw[if_pos (by decide)]
 refine wpAny_bind (applied_back (n:=items.size) ofS ?_)
 have no: ¬((((items.size:Int)-1)==0&&(-1:Int)==1&&items.size==items.size)=true):=by simp
 show wpAny _ _ (if(((items.size:Int)-1)==0&&(-1:Int)==1&&items.size==items.size)=true then _ else _) _ _ s
 rw[if_neg no,picked_back]
 first
  |exact wpAny_bind (m:=Builtin.Tuple.tupleExact _) (wpAny_newObj_type (wpAny_pure ⟨_,rfl,wpAny_pure h⟩) fits)
  |exact wpAny_bind (m:=Builtin.Tuple.tupleExact _) (wpAny_newObj_type (wpAny_bind (wpAny_pure (wpAny_pure ⟨_,rfl,wpAny_pure h⟩))) fits)
  |exact wpAny_bind (wpAny_bind (m:=Builtin.Tuple.tupleExact _) (wpAny_newObj_type (wpAny_pure (wpAny_pure ⟨_,rfl,wpAny_pure h⟩)) fits))
  |exact wpAny_bind (wpAny_bind (m:=Builtin.Tuple.tupleExact _) (wpAny_newObj_type (wpAny_pure ⟨_,rfl,wpAny_pure h⟩) fits))
end
section
variable {G:GC} {X:Cx} {Wx:WX} {w:Wd}
def eBackT (a:ED):ED:=fun env S=>(a env S).bind fun x S1=>match x with
 | .tup l=> .ok (.tup l.reverse) S1
 | _=> .bad
theorem RepL.rev {l:List D} :∀ {vs:List V},RepL G w l vs→RepL G w l.reverse vs.reverse:=by
 induction l with
 |nil=>intro vs h;simp only[RepL] at h;subst h;simp[RepL]
 |cons d ds ih=>
  intro vs h
  simp only[RepL] at h
  obtain⟨v,r,rfl,h1,h2⟩:=h
  rw[List.reverse_cons,List.reverse_cons]
  exact(ih h2).append (RepL.one h1)
theorem q_backT {e:Expr} {m:ED} {k:Nat} {p1 p2 p3 pos:Pos} (hK:X.K=G.K) (he:PE X e (tE G m Wx)):PE X (.Subscript e (.Slice none none (some (.UnaryOp .USub (.Constant (.int 1) k p1) p2)) p3) pos) (tE G (eBackT m) Wx):=by
 refine⟨fun pins s σ H Q I h=> ?_⟩
 obtain⟨w,env,rfl,sr,er,p⟩:=h
 refine Subscript_ (thn (he.run pins s σ w.H _ I ⟨w,env,rfl,sr,er,Post.bind (Ra:=Rep G) p⟩) fun v s1 ⟨x,H1,I1,r1,q1⟩=> ?_)
 obtain⟨w1,d1,rfl,x1,sr1,rp1,pq⟩:=q1
 cases d1 with
 |tup l=>
  simp only[Rep] at rp1
  obtain⟨a,vs,rfl,h1,h2⟩:=rp1
  cases r1
  have step:PO X (some (.UnaryOp .USub (.Constant (.int 1) k p1) p2)) (tPart (tUn (rU fun i=> .int (-i)) (tC (.int 1)))):=po_some (pe_un un_neg pe_int)
  refine wpAny_Slice (thn (po_none.run pins s1 σ w1.H (fun o H2=>o=none∧H2=w1.H) I1 ⟨rfl,rfl⟩) fun va s2 ⟨oa,H2,I2,pa,ea,ha⟩=> ?_)
  subst ea ha
  refine thn (po_none.run pins s2 σ w1.H (fun o H3=>o=none∧H3=w1.H) I2 ⟨rfl,rfl⟩) fun vb s3 ⟨ob,H3,I3,pb,eb,hb⟩=> ?_
  subst eb hb
  refine thn (step.run pins s3 σ w1.H (fun o H4=>o=some (-1)∧H4=w1.H) I3 ⟨1,rfl,-1,rfl,rfl,rfl⟩) fun vc s4 ⟨oc,H4,I4,pc,ec,hc⟩=> ?_
  subst ec hc
  cases pa
  cases pb
  cases pc with
  |int i t=>
   have I5:Inv X pins σ w1.H { s4 with heap:=s4.heap.push { cls:= .type "slice",data:= .fields #[.none, .none, .int (-1) t] } } :=I4.kept (t':=s4.toks) fun b ob q=>Heap.get?_push_of_some _ q
   obtain⟨its,rv,tp,hz⟩:=I5.tuple (xs:=vs) (by rw[hK];exact SqT_of h1)
   have hl:=rv.length
   show wpAny (model X.prog X.w) X.A (subscriptTail e (.Slice none none (some (.UnaryOp .USub (.Constant (.int 1) k p1) p2)) p3) (.ref a) (.ref s4.heap.objs.size)) (EP X pins σ Q) X.xe { s4 with heap:=s4.heap.push { cls:= .type "slice",data:= .fields #[.none, .none, .int (-1) t] } }
   refine tail_any (ops:= [.ref a, .ref s4.heap.objs.size]) tp.typeIs PyProof.Rows.slot_tuple_getitem.lookup ?_ (by with_unfolding_all rfl)
   refine tuple_back tp (Heap.IsSliceOf.new _ .none .none (.int (-1) t)) (by rw[List.size_toArray];omega) ?_
   have hfr:=I5.hok.fresh (Nat.le_refl _)
   refine⟨.ref _,_,I5.laid (t':=s4.toks) (o:= .tup vs.reverse) (fun b ob q=>Heap.get?_push_of_some _ q) (Nat.le_refl _) ?_,rfl,new_tup sr1 h2.rev pq _ hfr⟩
   exact⟨by rw[List.length_reverse];exact hz,its.reverse,rv.reverse,⟨_,Heap.get?_push_size _ rfl,rfl,_,rfl⟩⟩
 | _=>exact pq.elim
end
end L3
namespace L3
open PySem PySem.Spec PyProof.Rows L2
theorem vals_getD:∀ {vs:List V} {us:List Value},Vals vs us→∀i:Nat,RelV (vs.getD i .non) (us.getD i .none)
 | [],us,h,i=>by cases h;exact rfl
 |v::vs,us,h,0=>by
  cases h with
  |cons r _=>exact r
 |v::vs,us,h,i+1=>by
  cases h with
  |cons _ t=>exact vals_getD t i
theorem repl_getD {G:GC} {w:Wd} :∀ {ds:List D} {vs:List V},RepL G w ds vs→∀i:Nat,Rep G w (ds.getD i .non) (vs.getD i .non)
 | [],vs,h,i=>by simp only[RepL] at h;subst h;simp[Rep]
 |d::ds,vs,h,0=>by
  simp only[RepL] at h
  obtain⟨v,r,rfl,h1,_⟩:=h
  exact h1
 |d::ds,vs,h,i+1=>by
  simp only[RepL] at h
  obtain⟨v,r,rfl,_,h2⟩:=h
  exact repl_getD h2 i
def gath {α :Type} (z: α) (src:List (Bool × Nat)) (us ws:List α):List α :=src.map fun p=>if p.1 then ws.getD p.2 z else us.getD p.2 z
theorem gath_vals {vs zs:List V} {us ws:List Value} (h:Vals vs us) (g:Vals zs ws):∀src:List (Bool × Nat),Vals (gath .non src vs zs) (gath .none src us ws)
 | [] => .nil
 |p::r=>by
  refine .cons ?_ (gath_vals h g r)
  show RelV (if p.1 then zs.getD p.2 .non else vs.getD p.2 .non) (if p.1 then ws.getD p.2 .none else us.getD p.2 .none)
  split
  ·exact vals_getD g _
  ·exact vals_getD h _
theorem gath_reps {G:GC} {w:Wd} {ds es:List D} {vs zs:List V} (h:RepL G w ds vs) (g:RepL G w es zs):∀src:List (Bool × Nat),RepL G w (gath .non src ds es) (gath .non src vs zs)
 | [] =>by simp[gath,RepL]
 |p::r=>by
  show RepL G w ((if p.1 then es.getD p.2 .non else ds.getD p.2 .non)::gath .non r ds es) ((if p.1 then zs.getD p.2 .non else vs.getD p.2 .non)::gath .non r vs zs)
  simp only[RepL]
  refine⟨_,_,rfl,?_,gath_reps h g r⟩
  split
  ·exact repl_getD g _
  ·exact repl_getD h _
section
variable {X:Cx} {G:GC} {Wx:WX} {pos p:Pos} {k:Nat} {f:Addr} {fd:FuncData} {ps:List Str} {F:FN} {x:Str}
theorem kbd_of {n:Nat} {ks:List Str} (src:List (Bool × Nat)) (h:∀(s:Shared) (us ws:List Value),us.length=n→ws.length=ks.length→BindsTo s fd ⟨us,ks.zip ws⟩ (ps.zip (gath .none src us ws))):Kbd G fd ps n ks (gath .non src):=
 ⟨gath .none src,gath .non src,⟨fun s us ws _ h1 h2=>h s us ws h1 h2,fun r1 r2=>gath_vals r1 r2 src⟩,fun w ds es vs zs _ _ r1 r2=>gath_reps r1 r2 src⟩
theorem q_fnK0 {kws:List Keyword} {ks:List Str} {gD:List D→List D→List D} {b:AD} (c:Cal X.prog X.w G X.base k x f fd ps F) (hb:Kbd G fd ps 0 ks gD) (hr:RoomG k X.A) (hK:X.K=G.K) (hm:X.mg=G.mg) (hg:Gl X x) (tk:Takes X Wx)
 (hkw:QK X G Wx kws b) (hall:(backToKw pos (keywordEach kws X.env)).all (·.1.isSome)=true:=by rfl) (hks:(backToKw pos (keywordEach kws X.env)).filterMap (·.1)=ks:=by rfl)
 (hdb:(x==("__debug__" :Str))=false:=by decide) (hpl:((backTo pos (starEach [] X.env)).any (·.1) || (backToKw pos (keywordEach kws X.env)).any (·.1.isNone))=false:=by rfl):
 PE X (.Call (.Name x p) [] kws pos) (tE G (eKw (kwK F 0 ks.length gD) aNil b) Wx):=by
 obtain⟨g,gV,hn,hrep⟩:=hb
 have ok:=c.ok
 rw[← hK,←hm] at ok
 have kp:PySem.W.keepIn X.K (.ref f)=true:=by rw[hK];exact c.kp
 rw[← hK] at hn
 refine⟨fun pins s σ H Q I q=> ?_⟩
 obtain⟨wd,env,rfl,sr,er,pp⟩:=q
 refine wpAny_Call_Name_kw (ld_glob I hg (by rw[hm];exact c.m) ?_ hdb)
 refine PySem.W.callWith_KW0 (h₀ :=X.base) I.ok.mod.kin kp hall ?_ hpl
 refine thn (hkw.pk.run pos pins s σ wd.H _ I ⟨wd,env,rfl,sr,er,Post.bind (Ra:=RepL G) pp⟩) fun ws s2 ⟨zs,H2,I2,rz,q2⟩=>⟨I2.kIn,?_⟩
 obtain⟨w2,d2,rfl,x2,s2',rp2,p2⟩:=q2
 rw[hks]
 unfold kwK at p2
 split at p2
 ·rename_i hl
  refine wpAny_call (codeAny_mono (FnG.called (E:=WE Wx) ok hr (passAt tk σ) I2 (hn.to s2 [] ws I2.kIn rfl ?_) (hn.rel .nil rz) ⟨w2,gD [] d2,rfl,s2',hrep w2 [] d2 [] zs hl.1 hl.2 (by simp[RepL]) rp2,p2⟩) fun r s' hq=> ?_)
  ·rw[← rz.length,rp2.length];exact hl.2
  ·match r,hq with
   | .error e,hq=>exact hq
   | .ok (.ret u),hq=>exact hq
 ·exact p2.elim
end
theorem b_repr:bootBuiltins "repr" =some (.builtin "repr"):=by decide +kernel
end L3
namespace L3
open PySem PySem.Spec PyProof.Rows L2
theorem meets_enum1 {v:Value} {o:Obj} {H:Heap→Prop} (B:Begins v o H):
 Meets (Builtin.«enumerate.__new__» ⟨[.type "enumerate",v],[]⟩) (fun _ R s=>H s.heap∧
  R (.ok (.ret (.ref (s.heap.push o).objs.size))) { s with heap:=(s.heap.push o).push { cls:= .type "enumerate",data:= .fields #[.none, .bool false, .ref s.heap.objs.size,rawInt 0, .none, .none] } }):=
 .of_wp fun prog w A R s h=>by
  obtain⟨hp,g,d,tk,os⟩:=s;obtain⟨h1,h⟩:=h
  have hsub:=sub_enumerate
  have q1:∀ {A':Around} {E:Value→Shared→Prop} {Q:Value→Shared→Prop},Q (.ref hp.objs.size) ⟨hp.push o,g,d,tk,os⟩→wpAny (model prog w) A' (pyIter v) Q E ⟨hp,g,d,tk,os⟩:=
   fun q=>B.iter prog w _ _ ⟨hp,g,d,tk,os⟩ _ h1 q
  wp_walk using q1
  refine wpAny_stack_any fun st=>wpAny_pure ?_
  split
  ·rename_i c _ _ _ _ _
   cases(c==Value.type "enumerate")
   ·wp_walk using q1
    exact⟨_,rfl,h⟩
   ·wp_walk using q1
    exact⟨_,rfl,h⟩
  ·wp_walk using q1
   exact⟨_,rfl,h⟩
section
variable {prog:Program} {w:World} {A:Around} {E:Value→Shared→Prop} {s:Shared}
theorem enum1 {v:Value} {o:Obj} {H:Heap→Prop} {Q:Value→Shared→Prop} (B:Begins v o H) (h1:H s.heap)
 (h:∀h',IsEnum h' (s.heap.objs.size+1) s.heap.objs.size 0 .none→h'.get? s.heap.objs.size=some o→h'.objs.size=s.heap.objs.size+2→
   (∀ b o,s.heap.get? b=some o→h'.get? b=some o)→Q (.ref (s.heap.objs.size+1)) { s with heap:=h' }):
 wpAny (model prog w) A (call (.type "enumerate") [v]) Q E s:=by
 refine callType_new F.called_enumerate (by decide) (F.typeCall_enumerate_1 _) (F.newCall_enumerate_1 _) (fun obj=>F.args_object_init_2 obj _) F.entry_enumerate_new
  (meets_enum1 B) ⟨h1,?_⟩
 have hz:(s.heap.push o).objs.size=s.heap.objs.size+1:=Heap.size_push ..
 show _∧_
 rw[hz]
 have he:IsEnum ((s.heap.push o).push { cls:= .type "enumerate",data:= .fields #[.none, .bool false, .ref s.heap.objs.size,rawInt 0, .none, .none] }) (s.heap.objs.size+1) s.heap.objs.size 0 .none:=by
  have:=Heap.get?_push_size (s.heap.push o) (o:= { cls:= .type "enumerate",data:= .fields #[.none, .bool false, .ref s.heap.objs.size,rawInt 0, .none, .none] }) rfl
  rw[hz] at this;exact this
 refine⟨⟨_,he,rfl⟩,h _ he (Heap.get?_push_of_some _ (Heap.get?_push_size _ B.free)) (by rw[Heap.size_push,hz]) fun b o x=>Heap.get?_push_of_some _ (Heap.get?_push_of_some _ x)⟩
end
def Itet (K:PySem.W.Frag) (a:Addr):It:=
 ⟨fun i H=>∃(xs:List V) (x:V),SqT K H a xs∧xs[i]? =some x,fun i H v H'=>∃T x,v= .ref T∧H T=none∧H'=upd H T (.tup [.int (i:Nat),x])∧∀xs,SqT K H a xs→xs[i]? =some x,fun i H=>∃xs:List V,SqT K H a xs∧xs.length=i⟩
theorem turn_enumT {P:Program} {w:World} {K:PySem.W.Frag} {elts:List Expr} {kk:Nat} {tpos:Pos} (a e it:Addr):
 Turn P w K (.Tuple elts kk tpos) (Itet K a) [e,it] e (fun i h=>(∃ old,IsEnum h e it ((i:Nat):Int) old)∧h.IsTupleIter it a i∧e≠it∧a≠it∧a≠e) where
 mem:=by simp
 obj:=fun i h st b hb=>by
  obtain⟨⟨old,he⟩,⟨o,ho,hc,hd⟩,_⟩:=st
  have e':b=e∨b=it:=by simpa using hb
  rcases e' with z|z
  ·rw[z];exact⟨_,he,fun v q=>nomatch q⟩
  ·rw[z];exact⟨o,ho,fun v q=>by rw[hd] at q;cases q⟩
 keep:=fun i h h' st k=>let⟨⟨old,he⟩,⟨o,ho,r⟩,hne⟩:=st;⟨⟨old,k e (by simp) _ he⟩,⟨o,k it (by simp) o ho,r⟩,hne⟩
 item:=by
  intro X hP hw hK hc i pins s σ H E I hf st hg
  subst hP hw hK
  obtain⟨⟨old,he⟩,hit,hne,hait,hae⟩:=st
  obtain⟨xs,x,hq,hx⟩:=hg
  obtain⟨its,rv,p,hz⟩:=I.tuple hq
  obtain⟨u,hu,ru⟩:=rv.get hx
  have hel:e<s.heap.objs.size:=Heap.lt_size he
  have hil:it<s.heap.objs.size:=by obtain⟨_,q,_⟩:=hit;exact Heap.lt_size q
  have hlt:i<its.toArray.size:=by
   have:=(List.getElem?_eq_some_iff.mp hu).1
   simpa using this
  have hdn:X.A.in1.handled=none:=I.ok.hd hc
  refine wpAny_pyNext_enum_itemD (Draws.tuple hdn it a hait its.toArray) he ⟨hit,(show s.heap.IsTuple a its.toArray from p)⟩ hlt hne (by simp[Ne.symm hae,hne]) fun y h' tk hy ho hit' hT hsz hk=> ?_
  have hyu:y=u:=by
   have:its.toArray[i]? =some u:=by simpa using hu
   rw[this] at hy;exact(Option.some.inj hy).symm
  subst hyu
  refine⟨_,rfl,wpAny_letOwnedTupleGo_enum (s:= { s with heap:=h',toks:=tk+1 }) ho fun h'' he' sb=> ?_⟩
  have hT2:h''.get? s.heap.objs.size=some { cls:= .type "tuple",data:= .seq #[.int i tk,y] } :=(sb.2 _ (Nat.ne_of_gt hel)).trans hT
  have new:ObjOk X.prog X.w (upd H s.heap.objs.size (.tup [.int (i:Nat),x])) h'' s.heap.objs.size (.tup [.int (i:Nat),x]):=
   ⟨by show 2≤sizeLine;decide,[.int i tk,y], .cons ⟨_,rfl⟩ (.cons ru .nil),⟨_,hT2,rfl,_,rfl⟩⟩
  have I1:Inv X pins σ (upd H s.heap.objs.size (.tup [.int (i:Nat),x])) { s with heap:=h'',toks:=tk+1 } :=
   I.turnedNew (ch:= [e,it]) (fun b ob hb q=>(sb.2 b (fun z=>hb (by simp[z]))).trans (hk b ob (fun z=>hb (by simp[z])) (fun z=>hb (by simp[z])) q)) hf (Nat.le_refl _) new
  refine⟨.ref s.heap.objs.size,_,I1,rfl,⟨_,x,rfl,I.hok.fresh (Nat.le_refl _),rfl,fun ys hy=> ?_⟩,⟨⟨y,?_⟩,?_,hne,hait,hae⟩,fun b hb=> ?_⟩
  ·rw[I.tuple_inj hy hq];exact hx
  ·have e1:((i+1:Nat):Int)=(i:Int)+1:=by omega
   rw[e1];exact he'
  ·obtain⟨o,ho,r⟩:=hit'.1
   exact⟨o,(sb.2 it (Ne.symm hne)).trans ho,r⟩
  ·have hb':b<s.heap.objs.size:=by
    have e':b=e∨b=it:=by simpa using hb
    rcases e' with z|z
    ·rw[z];exact hel
    ·rw[z];exact hil
   rw[upd_ne (Nat.ne_of_lt hb')]
   exact(hf b hb).1
 done:=by
  intro X hP hw hK hc i pins s σ H E I hf st hg
  subst hP hw hK
  obtain⟨⟨old,he⟩,hit,hne,hait,hae⟩:=st
  obtain⟨xs,hq,hx⟩:=hg
  obtain⟨its,rv,p,hz⟩:=I.tuple hq
  obtain⟨f0,f1,f2,f3,f4,f5⟩:=hf it (by simp)
  have hl:=rv.length
  have hsz:i=its.toArray.size:=by simp;omega
  subst hsz
  exact wpAny_pyNext_enum_endD (Draws.tuple (show X.A.in1.handled=none from I.ok.hd hc) it a hait its.toArray) he ⟨hit,(show s.heap.IsTuple a its.toArray from p)⟩ fun h' eb=>⟨rfl,I.turned (t':=s.toks) (fun b o hb q=>eb b o hb q) f0 f1 f3 f4 f5⟩
 self:=fun A i s Q E st h=>let⟨⟨_,he⟩,_⟩:=st;wpAny_pyIter_enum he h
def enumL:Nat→List D→List D
 | _,[] => []
 |i,x::xs=> .tup [.int (i:Int),x] ::enumL (i+1) xs
def enumD (x:D) (S:Store):R (List D):=match x with
 | .tup l=> .ok (enumL 0 l) S
 | .lst l=> .ok (enumL 0 l) S
 | .scr ns=> .ok (enumL 0 (ns.map .int)) S
 | _=> .bad
theorem enumL_get:∀(k:Nat) (l:List D) (i:Nat) (d:D),(enumL k l)[i]? =some d→∃x,l[i]? =some x∧d= .tup [.int ((k+i:Nat):Int),x]
 | _,[],i,d,h=>by simp[enumL] at h
 |k,x::xs,0,d,h=>by
  simp only[enumL,List.getElem?_cons_zero,Option.some.injEq] at h
  exact⟨x,rfl,h.symm⟩
 |k,x::xs,i+1,d,h=>by
  simp only[enumL,List.getElem?_cons_succ] at h ⊢
  obtain⟨y,h1,h2⟩:=enumL_get (k+1) xs i d h
  exact⟨y,h1,by rw[h2,show k+1+i=k+(i+1) by omega]⟩
theorem enumL_len:∀(k:Nat) (l:List D),(enumL k l).length=l.length
 | _,[] =>rfl
 |k,x::xs=>by simp[enumL,enumL_len (k+1) xs]
section
variable {G:GC} {X:Cx} {Wx:WX} {pos:Pos}
theorem new_pair {w:Wd} {T:Addr} {i:Int} {d:D} {v:V} (sr:SRep G w) (hT:w.H T=none) (r:Rep G w d v):
 ∃w'',w''.H=upd w.H T (.tup [.int i,v])∧WExt w w''∧w''.S=w.S∧SRep G w''∧Rep G w'' (.tup [.int i,d]) (.ref T):=by
 obtain⟨x,s,nm⟩:=new_ext (o:= .tup [.int i,v]) sr hT
 refine⟨w.put T (.tup [.int i,v]),rfl,x,rfl,s,?_⟩
 simp only[Rep]
 refine⟨T,[.int i,v],rfl, .inl ⟨?_,nm⟩,?_⟩
 ·exact upd_same
 ·simp only[RepL,Rep]
  exact⟨_,_,rfl,rfl,v,[],rfl,Rep.mono x _ _ r,rfl⟩
theorem it_enumT {w:Wd} {a:Addr} {vs:List V} {l:List D} (h:TupAt G w a vs l) (r:RepL G w l vs):ItOk G w (Itet G.K a) (enumL 0 l):=by
 have sq:∀(T:List Addr) w',Tok T w→WX' T w w'→SqT G.K w'.H a vs:=fun T w' hT x=>by
  rcases h with⟨h,nm⟩|h
  ·exact .inl (.inl (x.keepM hT h nm).1)
  ·exact .inr h.1
 refine⟨fun T w' hT x s i d e=> ?_,fun T w' hT x s=>⟨vs,sq T w' hT x,by rw[enumL_len,r.length]⟩⟩
 obtain⟨y,e1,rfl⟩:=enumL_get 0 l i d e
 obtain⟨v,q1,q2⟩:=r.get e1
 refine⟨⟨vs,v,sq T w' hT x,q1⟩,fun y H'' hy=> ?_⟩
 obtain⟨Tn,z,rfl,hTn,rfl,hy⟩:=hy
 have e2:=hy vs (sq T w' hT x)
 rw[q1] at e2;cases e2
 have:=new_pair (i:=((0+i:Nat):Int)) s hTn (Rep.monoT x hT _ _ q2)
 rw[show 0+i=i by omega] at this ⊢
 exact this
theorem it_enum {w:Wd} {a:Addr} {vs:List V} {l:List D} (h:(w.H a=some (.lst vs)∧¬Mut w a)∨Fz w a (.lst vs)∨KL G.K a vs) (r:RepL G w l vs):ItOk G w (Ite G.K a) (enumL 0 l):=by
 have sq:∀(T:List Addr) w',Tok T w→WX' T w w'→SqL G.K w'.H a vs:=fun T w' hT x=>by
  rcases h with⟨h,nm⟩|h|h
  ·exact .inl (.inl (x.keepM hT h nm).1)
  ·exact .inl (Fz.monoT x hT h).1
  ·exact .inr h
 refine⟨fun T w' hT x s i d e=> ?_,fun T w' hT x s=>⟨vs,sq T w' hT x,by rw[enumL_len,r.length];exact Nat.le_refl _⟩⟩
 obtain⟨y,e1,rfl⟩:=enumL_get 0 l i d e
 obtain⟨v,q1,q2⟩:=r.get e1
 refine⟨⟨vs,v,sq T w' hT x,q1⟩,fun y H'' hy=> ?_⟩
 obtain⟨Tn,z,rfl,hTn,rfl,hy⟩:=hy
 have e2:=hy vs (sq T w' hT x)
 rw[q1] at e2;cases e2
 have:=new_pair (i:=((0+i:Nat):Int)) s hTn (Rep.monoT x hT _ _ q2)
 rw[show 0+i=i by omega] at this ⊢
 exact this
def enumA:List D→Store→R (List D):=fun xs S=>match xs with
 | [x] =>enumD x S
 | _=> .bad
theorem q_enum {elts:List Expr} {kk:Nat} {tpos p:Pos} {e:Expr} {m:AD} (hK:X.K=G.K) (hg:Gl X "enumerate") (hm:X.mg "enumerate" =none) (ha:PA X [e] (tA G m Wx)) (hs:starEach [e] X.env= [(false,eval e X.env)] :=by rfl):
 PI X (.Tuple elts kk tpos) (.Call (.Name "enumerate" p) [e] [] pos) (tI G (iArgs enumA m) Wx):=by
 refine⟨fun pins s σ H R I q=> ?_⟩
 obtain⟨w,env,rfl,sr,er,p⟩:=q
 refine Call_ (ld_blt I hg hm boot_enumerate (PyProof.Rows.callWith_type1 (thn (ha.run pos pins s σ w.H _ I ⟨w,env,rfl,sr,er,Post.bind p⟩) fun us s1 ⟨vs,H1,I1,r1,q1⟩=> ?_) hs rfl))
 obtain⟨w1,ds,rfl,x1,sr1,rp1,p1⟩:=q1
 unfold enumA at p1
 split at p1
 ·rename_i d1
  simp only[RepL] at rp1
  obtain⟨v,r',rfl,rp1,rfl⟩:=rp1
  cases r1 with
  |cons r rr=>
   cases rr
   have lst:∀ {a:Addr} {vs:List V},SqL X.K w1.H a vs→R (Ite G.K a) w1.H→wpAny (model X.prog X.w) X.A (call (.type "enumerate") [.ref a]) (fun v s'=>wpAny (model X.prog X.w) X.A (pyIter v) (PIE X pins σ (.Tuple elts kk tpos) R) X.xe s') X.xe s1:=fun {a vs} hq q=>by
    obtain⟨its,rv,p',hz⟩:=I1.list hq
    refine call_enumerate_list p'.isList fun h' he hit hsz hk=>wpAny_pyIter_enum he ?_
    have I2:Inv X pins σ w1.H { s1 with heap:=h' } :=I1.kept (t':=s1.toks) hk
    refine⟨s1.heap.objs.size+1,[s1.heap.objs.size+1,s1.heap.objs.size],_,_,w1.H,rfl,I2,turn_enum a (s1.heap.objs.size+1) s1.heap.objs.size,⟨⟨.none,he⟩,hit,Nat.succ_ne_self _⟩,fun b hb=> ?_,by rw[hK];exact q⟩
    have e':b=s1.heap.objs.size+1∨b=s1.heap.objs.size:=by simpa using hb
    have hle:s1.heap.objs.size≤b:=by
     rcases e' with z|z
     ·rw[z];exact Nat.le_add_right _ _
     ·rw[z];exact Nat.le_refl _
    exact I1.fpOk hle (I1.hok.fresh hle)
   unfold enumD at p1
   split at p1
   ·rename_i l
    simp only[Rep] at rp1
    obtain⟨a,vs,rfl,hq,rl⟩:=rp1
    cases r
    have q:=p1 (Itet G.K a) w1 (.refl _) rfl sr1 (it_enumT hq rl)
    have hq':SqT X.K w1.H a vs:=by rw[hK];exact hq.imp (fun z=> .inl z.1) (fun z=>z.1)
    obtain⟨its,rv,p,hz⟩:=I1.tuple hq'
    have hT:s1.heap.IsTuple a its.toArray:=p
    have hal:a<s1.heap.objs.size:=by obtain⟨_,q,_⟩:=hT;exact Heap.lt_size q
    refine enum1 (begins_tuple a its.toArray) hT fun h' he hit hsz hk=>wpAny_pyIter_enum he ?_
    have I2:Inv X pins σ w1.H { s1 with heap:=h' } :=I1.kept (t':=s1.toks) hk
    refine⟨s1.heap.objs.size+1,[s1.heap.objs.size+1,s1.heap.objs.size],_,_,w1.H,rfl,I2,turn_enumT a (s1.heap.objs.size+1) s1.heap.objs.size,⟨⟨.none,he⟩,⟨_,hit,rfl,rfl⟩,Nat.succ_ne_self _,Nat.ne_of_lt hal,Nat.ne_of_lt (Nat.lt_succ_of_lt hal)⟩,fun b hb=> ?_,by rw[hK];exact q⟩
    have e':b=s1.heap.objs.size+1∨b=s1.heap.objs.size:=by simpa using hb
    have hle:s1.heap.objs.size≤b:=by
     rcases e' with z|z
     ·rw[z];exact Nat.le_add_right _ _
     ·rw[z];exact Nat.le_refl _
    exact I1.fpOk hle (I1.hok.fresh hle)
   ·rename_i l
    simp only[Rep] at rp1
    obtain⟨a,vs,rfl,hq,nm,rl⟩:=rp1
    cases r
    exact lst (vs:=vs) (.inl (.inl hq)) (p1 (Ite G.K a) w1 (.refl _) rfl sr1 (it_enum (.inl ⟨hq,nm⟩) rl))
   ·rename_i ns
    simp only[Rep] at rp1
    obtain⟨a,rfl,hq⟩:=rp1
    cases r
    exact lst (vs:=ns.map V.int) (by rw[hK];exact hq.imp (fun z=>z.1) id) (p1 (Ite G.K a) w1 (.refl _) rfl sr1 (it_enum (.inr hq) (RepL_ints.mpr rfl)))
   ·exact p1.elim
 ·exact p1.elim
end
end L3
namespace L3
open PySem PySem.Spec PyProof.Rows L2
def lcL2 (g:GD) (tt:TD) (mi1:ID) (vs1:List Nat) (g1:GD) (tt1:TD) (te:ED) (env:EnvD):List D→Store→R (List D)
 | [],S=> .ok [] S
 |x::xs,S=>match g x env S with
  | .nx env1 S1=>(tt env1 S1).nox.bind fun k S2=>match k with
    |true=>(mi1 env1 S2).nox.bind fun ys S3=>(lcL g1 tt1 te (wipeD env1 vs1) ys S3).bind fun zs S4=>(lcL2 g tt mi1 vs1 g1 tt1 te env xs S4).bind fun us S5=> .ok (zs++us) S5
    |false=>lcL2 g tt mi1 vs1 g1 tt1 te env xs S2
  | _=> .bad
def eLc2 (mi:ID) (vs:List Nat) (g:GD) (tt:TD) (mi1:ID) (vs1:List Nat) (g1:GD) (tt1:TD) (te:ED):ED:=fun env S=>(mi env S).bind fun xs S1=>
 (lcL2 g tt mi1 vs1 g1 tt1 te (wipeD env vs) xs S1).nox.bind fun ys S2=>if ys.length≤sizeLine then .ok (.lst ys) S2 else .bad
theorem bind_eq {α β :Type} {r:R α} {f: α →Store→R β} {b: β} {S:Store} (h:r.bind f= .ok b S):∃a S1,r= .ok a S1∧f a S1= .ok b S:=by
 cases r with
 |ok a S1=>exact⟨a,S1,rfl,h⟩
 |exc e S1=>cases h
 |bad=>cases h
section
variable {G:GC} {X:Cx} {Wx:WX} {pos:Pos}
theorem put_end {w:Wd} {L:Addr} {us:List V} {v:V} (s7:SRep G w) (tm7:L ∈ w.tmp):WX' [L] w (w.put L (.lst (us++ [v])))∧Tok [L] w∧SRep G (w.put L (.lst (us++ [v]))):=by
 have nm7: ¬MutS w L:=(s7.tm L tm7).2
 have x8:WX' [L] w (w.put L (.lst (us++ [v]))):=⟨fun _ _ h=>h,fun a o h nm ha=>⟨(upd_ne (by simpa using ha)).trans h,nm⟩,fun a h=> .inl h,fun a h=>h⟩
 have t8:Tok [L] w:=fun a h=> .inl (by have:a=L:=by simpa using h
                                       rw[this];exact tm7)
 refine⟨x8,t8,s7.len,s7.inj,fun n ob a h1 h2=> ?_,fun a ha=> ?_⟩
 ·have h:=s7.obj n ob a h1 h2
  exact h.keep x8 t8 fun lv=>upd_ne fun e=>nm7 (by subst e;exact⟨n,ob,h1,lv,h2⟩)
 ·obtain⟨⟨u,e⟩,nm⟩:=s7.tm a ha
  by_cases ea:a=L
  ·subst ea;exact⟨⟨⟨_,by first|assumption|(intro _ h;cases h)⟩,upd_same⟩,nm⟩
  ·exact⟨⟨u,(upd_ne ea).trans e⟩,nm⟩
theorem imp_lc2 {mi mi1:ID} {vs vs1:List Nat} {g g1:GD} {tt tt1:TD} {te:ED} :∀ σ H Q,tE G (eLc2 mi vs g tt mi1 vs1 g1 tt1 te) Wx σ H Q→tLc2 (tI G mi Wx) (tGW G g vs) (tT G tt WF) (tI G mi1 WF) (tGW G g1 vs1) (tT G tt1 WF) (tE G te WF) vs vs1 σ H Q:=by
 intro σ H Q q
 obtain⟨w,env,rfl,sr,er,p⟩:=q
 refine⟨w,env,rfl,sr,er,(Post.bind (Ra:=fun w' xs (J:It)=>ItOk G w' J xs) p).mono (fun J H1 m=> ?_) fun _ _ _ h=>h⟩
 obtain⟨w1,xs,rfl,x1,s1,io,p1⟩:=m
 intro L hL
 have hfr:∀a ∈ [L],w1.H a=none:=fun a h=>by have:a=L:=by simpa using h
                                            rw[this];exact hL
 obtain⟨F,SF,hF,hz⟩:∃F SF,lcL2 g tt mi1 vs1 g1 tt1 te (wipeD env vs) xs w1.S= .ok F SF∧F.length≤sizeLine:=by
  cases h:lcL2 g tt mi1 vs1 g1 tt1 te (wipeD env vs) xs w1.S with
  |ok F SF=>
   rw[h] at p1
   by_cases hz:F.length≤sizeLine
   ·exact⟨F,SF,rfl,hz⟩
   ·simp only[R.nox,R.bind,if_neg hz] at p1;exact p1.elim
  |exc e S=>rw[h] at p1;exact p1.elim
  |bad=>rw[h] at p1;exact p1.elim
 rw[hF] at p1
 simp only[R.nox,R.bind,if_pos hz] at p1
 have er1:=(er.mono x1).wipe vs
 have h0:WX' [L] w1 ⟨w1.mu,w1.S,upd w1.H L (.lst []),L::w1.tmp⟩:=
  ⟨fun _ _ h=>h,fun a o h nm ha=>⟨(upd_ne (by simpa using ha)).trans h,nm⟩,fun a h=>by
    rcases List.mem_cons.mp h with e|h
    ·exact .inr (by simp[e])
    ·exact .inl h,fun a h=>List.mem_cons_of_mem _ h⟩
 have nL: ¬MutS w1 L:=fun m=>by obtain⟨u,e⟩:=MutS.there s1 m;rw[hL] at e;cases e
 have sW:SRep G ⟨w1.mu,w1.S,upd w1.H L (.lst []),L::w1.tmp⟩:=by
  refine⟨s1.len,s1.inj,fun n ob a h1 h2=> ?_,fun a ha=> ?_⟩
  ·have h:=s1.obj n ob a h1 h2
   refine h.keep h0 (fr_tok hfr) fun lv=> ?_
   obtain⟨u,e⟩:=h.there lv
   exact upd_ne (ne_of_none e hL)
  ·rcases List.mem_cons.mp ha with e|ha
   ·subst e;exact⟨⟨⟨_,by first|assumption|(intro _ h;cases h)⟩,upd_same⟩,nL⟩
   ·obtain⟨⟨u,e⟩,nm⟩:=s1.tm a ha
    exact⟨⟨u,(upd_ne (ne_of_none e hL)).trans e⟩,nm⟩
 refine⟨fun i m H=>∃w3 acc us,w3.H=H∧SRep G w3∧WX' [L] w1 w3∧L ∈ w3.tmp∧w3.H L=some (.lst us)∧RepL G w3 acc us∧i+m=xs.length∧
  ((lcL2 g tt mi1 vs1 g1 tt1 te (wipeD env vs) (xs.drop i) w3.S).bind fun ys S2=> .ok (acc++ys) S2)= .ok F SF,
  ⟨xs.length,_,[],[],rfl,sW,h0,by simp,upd_same,by simp[RepL],by omega,?_⟩,fun i m H hW=> ?_⟩
 ·simp only[List.drop_zero,List.nil_append,R.bind_ok];exact hF
 obtain⟨w3,acc,us,rfl,s3,x3,tm3,hL3,ra3,em,eq⟩:=hW
 by_cases hi:i<xs.length
 ·have e:xs[i]? =some xs[i] :=List.getElem?_eq_getElem hi
  obtain⟨go,yl⟩:=io.go [L] w3 (fr_tok hfr) x3 s3 i xs[i] e
  refine .inr ⟨go,fun H'=>∃w5 acc us,w5.H=H'∧SRep G w5∧WX' [L] w1 w5∧L ∈ w5.tmp∧w5.H L=some (.lst us)∧RepL G w5 acc us∧(i+1)+(m-1)=xs.length∧
   ((lcL2 g tt mi1 vs1 g1 tt1 te (wipeD env vs) (xs.drop (i+1)) w5.S).bind fun ys S2=> .ok (acc++ys) S2)= .ok F SF,fun H' hN=>⟨m-1,by omega,hN⟩,fun x H' hy=> ?_⟩
  obtain⟨w4,rfl,x4,eS4,s4,rp4⟩:=yl x H' hy
  have x14:WX' [L] w1 w4:=WX'.trans x3 (WX'.wide x4)
  refine⟨w4,wipeD env vs,xs[i],rfl,s4,er1.monoT x14 (fr_tok hfr),rp4,?_⟩
  rw[List.drop_eq_getElem_cons hi,lcL2] at eq
  rw[eS4]
  cases hg:g xs[i] (wipeD env vs) w3.S with
  |nx env5 S5=>
   rw[hg] at eq
   simp only at eq
   intro σ5 w5 x5 e5 s5 er5 hw
   subst e5
   refine⟨hw.trans (wipe_sub fun _ h=>h),w5,env5,rfl,s5,er5,?_⟩
   cases ht:tt env5 w5.S with
   |ok k S6=>
    rw[ht] at eq
    simp only[R.nox,R.bind] at eq
    intro b w6 x6 e6 s6 hb
    subst hb e6
    have x46:WExt w4 w6:=WX'.trans x5 x6
    have x16:WX' [L] w1 w6:=WX'.trans x14 (WX'.wide x46)
    have hL6:w6.H L=some (.lst us):=(x46.keep L _ ((x4.keep L _ hL3 ((s3.tm L tm3).2) (by simp)).1) ((s4.tm L (x4.tmp' L tm3)).2) (by simp)).1
    have tm6:L ∈ w6.tmp:=x46.tmp' L (x4.tmp' L tm3)
    have ra6:RepL G w6 acc us:=RepL.mono (WX'.trans x4 x46) _ _ ra3
    cases k with
    |false=>
     refine iteF ⟨w6,acc,us,rfl,s6,x16,tm6,hL6,ra6,by omega,?_⟩
     simpa[R.bind] using eq
    |true=>
     refine iteT ⟨w6,env5,rfl,s6,er5.mono x6,?_⟩
     simp only at eq
     cases hm1:mi1 env5 w6.S with
     |ok ys S7=>
      rw[hm1] at eq
      simp only[R.nox,R.bind] at eq
      intro J1 w7 x7 e7 s7 io1
      subst e7
      have er7:ERep G w7 env5 σ5:=(er5.mono x6).mono x7
      have x17:WX' [L] w1 w7:=WX'.trans x16 (WX'.wide x7)
      have hL7:w7.H L=some (.lst us):=(x7.keep L _ hL6 ((s6.tm L tm6).2) (by simp)).1
      have tm7:L ∈ w7.tmp:=x7.tmp' L tm6
      have ra7:RepL G w7 acc us:=RepL.mono x7 _ _ ra6
      have t7:Tok [L] w7:=fun a h=> .inl (by have:a=L:=by simpa using h
                                             rw[this];exact tm7)
      have er8:=er7.wipe vs1
      refine⟨fun j k H=>∃w8 acc us,w8.H=H∧SRep G w8∧WX' [L] w7 w8∧L ∈ w8.tmp∧w8.H L=some (.lst us)∧RepL G w8 acc us∧j+k=ys.length∧
       ((lcL g1 tt1 te (wipeD env5 vs1) (ys.drop j) w8.S).bind fun zs S4=>(lcL2 g tt mi1 vs1 g1 tt1 te (wipeD env vs) (xs.drop (i+1)) S4).bind fun us S5=> .ok (acc++(zs++us)) S5)= .ok F SF,
       ⟨ys.length,w7,acc,us,rfl,s7,⟨fun _ _ h=>h,fun a o h nm _=>⟨h,nm⟩,fun a h=> .inl h,fun a h=>h⟩,tm7,hL7,ra7,by omega,?_⟩,fun j k H hW1=> ?_⟩
      ·rw[List.drop_zero]
       rw[← eq]
       simp only[R.bind_assoc]
      obtain⟨w8,acc8,us8,rfl,s8,x8,tm8,hL8,ra8,ek,eq8⟩:=hW1
      by_cases hj:j<ys.length
      ·have e1:ys[j]? =some ys[j] :=List.getElem?_eq_getElem hj
       obtain⟨go1,yl1⟩:=io1.go [L] w8 t7 x8 s8 j ys[j] e1
       refine .inr ⟨go1,fun H'=>∃w9 acc us,w9.H=H'∧SRep G w9∧WX' [L] w7 w9∧L ∈ w9.tmp∧w9.H L=some (.lst us)∧RepL G w9 acc us∧(j+1)+(k-1)=ys.length∧
        ((lcL g1 tt1 te (wipeD env5 vs1) (ys.drop (j+1)) w9.S).bind fun zs S4=>(lcL2 g tt mi1 vs1 g1 tt1 te (wipeD env vs) (xs.drop (i+1)) S4).bind fun us S5=> .ok (acc++(zs++us)) S5)= .ok F SF,fun H' hN=>⟨k-1,by omega,hN⟩,fun x H' hy=> ?_⟩
       obtain⟨w9,rfl,x9,eS9,s9,rp9⟩:=yl1 x H' hy
       have x79:WX' [L] w7 w9:=WX'.trans x8 (WX'.wide x9)
       refine⟨w9,wipeD env5 vs1,ys[j],rfl,s9,er8.monoT x79 t7,rp9,?_⟩
       rw[List.drop_eq_getElem_cons hj,lcL] at eq8
       rw[eS9]
       cases hg1:g1 ys[j] (wipeD env5 vs1) w8.S with
       |nx env10 S10=>
        rw[hg1] at eq8
        simp only at eq8
        intro σ10 w10 x10 e10 s10 er10 hw10
        subst e10
        refine⟨hw10.trans (wipe_sub fun _ h=>h),w10,env10,rfl,s10,er10,?_⟩
        cases ht1:tt1 env10 w10.S with
        |ok k1 S11=>
         rw[ht1] at eq8
         simp only[R.nox,R.bind] at eq8
         intro b w11 x11 e11 s11 hb
         subst hb e11
         have x911:WExt w9 w11:=WX'.trans x10 x11
         have x711:WX' [L] w7 w11:=WX'.trans x79 (WX'.wide x911)
         have hL11:w11.H L=some (.lst us8):=(x911.keep L _ ((x9.keep L _ hL8 ((s8.tm L tm8).2) (by simp)).1) ((s9.tm L (x9.tmp' L tm8)).2) (by simp)).1
         have tm11:L ∈ w11.tmp:=x911.tmp' L (x9.tmp' L tm8)
         have ra11:RepL G w11 acc8 us8:=RepL.mono (WX'.trans x9 x911) _ _ ra8
         cases k1 with
         |false=>
          refine iteF ⟨w11,acc8,us8,rfl,s11,x711,tm11,hL11,ra11,by omega,?_⟩
          simpa[R.bind] using eq8
         |true=>
          refine iteT ⟨w11,env10,rfl,s11,er10.mono x11,?_⟩
          simp only at eq8
          cases hte:te env10 w11.S with
          |ok y S12=>
           rw[hte] at eq8
           simp only[R.nox,R.bind] at eq8
           intro v w12 x12 e12 s12 r12
           subst e12
           have hL12:w12.H L=some (.lst us8):=(x12.keep L _ hL11 ((s11.tm L tm11).2) (by simp)).1
           have tm12:L ∈ w12.tmp:=x12.tmp' L tm11
           have lu:us8.length=acc8.length:=ra11.length
           have eq9:((lcL g1 tt1 te (wipeD env5 vs1) (ys.drop (j+1)) w12.S).bind fun zs S4=>(lcL2 g tt mi1 vs1 g1 tt1 te (wipeD env vs) (xs.drop (i+1)) S4).bind fun us S5=> .ok (acc8++ [y] ++(zs++us)) S5)= .ok F SF:=by
            rw[← eq8]
            show _=((lcL g1 tt1 te (wipeD env5 vs1) (List.drop (j+1) ys) w12.S).bind _).bind _
            cases lcL g1 tt1 te (wipeD env5 vs1) (List.drop (j+1) ys) w12.S<;>simp[R.bind]
           have hlt:acc8.length<sizeLine:=by
            obtain⟨zs,S4,h1,h2⟩:=bind_eq eq9
            obtain⟨us',S5,h3,h4⟩:=bind_eq h2
            have hFe:acc8++ [y] ++(zs++us')=F:=by cases h4;rfl
            have hl:=congrArg List.length hFe
            simp only[List.length_append,List.length_cons,List.length_nil] at hl
            omega
           obtain⟨xP,tP,sP⟩:=put_end (us:=us8) (v:=v) s12 tm12
           refine⟨us8,hL12,by omega,?_⟩
           refine⟨_,acc8++ [y],us8++ [v],rfl,sP,WX'.trans (WX'.trans x711 (WX'.wide x12)) xP,tm12,upd_same,?_,by omega,eq9⟩
           exact(RepL.monoT xP tP _ _ (RepL.mono x12 _ _ ra11)).append (RepL.one (Rep.monoT xP tP _ _ r12))
          |exc ee S12=>rw[hte] at eq8;cases eq8
          |bad=>rw[hte] at eq8;cases eq8
        |exc ee S11=>rw[ht1] at eq8;cases eq8
        |bad=>rw[ht1] at eq8;cases eq8
       |ret _ _=>rw[hg1] at eq8;cases eq8
       |brk _ _=>rw[hg1] at eq8;cases eq8
       |ct _ _=>rw[hg1] at eq8;cases eq8
       |exc _ _ _=>rw[hg1] at eq8;cases eq8
       |bad=>rw[hg1] at eq8;cases eq8
      ·have ej:j=ys.length:=by omega
       subst ej
       refine .inl ⟨io1.stop [L] w8 t7 x8 s8,?_⟩
       rw[List.drop_length] at eq8
       refine⟨w8,acc8,us8,rfl,s8,WX'.trans x17 x8,tm8,hL8,ra8,by omega,?_⟩
       simpa[lcL,R.bind] using eq8
     |exc ee S7=>rw[hm1] at eq;cases eq
     |bad=>rw[hm1] at eq;cases eq
   |exc ee S6=>rw[ht] at eq;cases eq
   |bad=>rw[ht] at eq;cases eq
  |ret _ _=>rw[hg] at eq;cases eq
  |brk _ _=>rw[hg] at eq;cases eq
  |ct _ _=>rw[hg] at eq;cases eq
  |exc _ _ _=>rw[hg] at eq;cases eq
  |bad=>rw[hg] at eq;cases eq
 ·have ei:i=xs.length:=by omega
  subst ei
  refine .inl ⟨io.stop [L] w3 (fr_tok hfr) x3 s3,?_⟩
  rw[List.drop_length] at eq
  simp only[lcL2,R.bind,List.append_nil,R.ok.injEq] at eq
  obtain⟨rfl,rfl⟩:=eq
  have we:WExt w1 { w3 with tmp:=w1.tmp } :=⟨x3.mu,fun a o h nm _=>x3.keep a o h nm (by
   intro ha
   have:a=L:=by simpa using ha
   rw[this,hL] at h;cases h),fun a h=> .inl h,fun a h=>h⟩
  have tinc:∀a,a ∈ w1.tmp→a ∈ w3.tmp:=x3.tmp'
  have se:SRep G { w3 with tmp:=w1.tmp } :=s3.untmp tinc
  have nmL: ¬Mut { w3 with tmp:=w1.tmp } L:=fun m=>m.elim (s3.tm L tm3).2 fun z=>by
   obtain⟨⟨u,e⟩,_⟩:=s1.tm L z
   rw[hL] at e;cases e
  have hr:Rep G { w3 with tmp:=w1.tmp } (.lst acc) (.ref L):=by
   simp only[Rep]
   exact⟨L,us,rfl,hL3,nmL,RepL.untmp tinc _ _ ra3⟩
  exact p1 (.ref L) { w3 with tmp:=w1.tmp } we rfl se hr
theorem q_lc2 {elt tg iter tg1 iter1:Expr} {ifs ifs1:List Expr} {scope:Scope} {own:List (Str × Nat)} {mi mi1:ID} {vs1:List Nat} {g g1:GD} {mt mt1:TD} {me:ED} (hc:X.calm=true) (hN:X.N.Nodup) (hi:PI X tg iter (tI G mi Wx)) (ok:BlkOk X.N X.env.scope scope own) (hv:∀i ∈ vs1,i ∈ own.map (·.2))
 (hg:∀(s:Shared) (H:Hp) (C:Addr) (cl:List (Str × Addr)) (fp:List Addr),PG (X.blk s H scope (compEnvC scope cl C X.env) fp) tg (tGW G g (own.map (·.2))))
 (ht:∀(s:Shared) (H:Hp) (C:Addr) (cl:List (Str × Addr)) (fp:List Addr),PTs (X.blk s H scope (compEnvC scope cl C X.env) fp) ifs (tT G mt WF))
 (hi1:∀(s:Shared) (H:Hp) (C:Addr) (cl:List (Str × Addr)) (fp:List Addr),PI (X.blk s H scope (compEnvC scope cl C X.env) fp) tg1 iter1 (tI G mi1 WF))
 (hg1:∀(s:Shared) (H:Hp) (C:Addr) (cl:List (Str × Addr)) (fp:List Addr),PG (X.blk s H scope (compEnvC scope cl C X.env) fp) tg1 (tGW G g1 vs1))
 (ht1:∀(s:Shared) (H:Hp) (C:Addr) (cl:List (Str × Addr)) (fp:List Addr),PTs (X.blk s H scope (compEnvC scope cl C X.env) fp) ifs1 (tT G mt1 WF))
 (he:∀(s:Shared) (H:Hp) (C:Addr) (cl:List (Str × Addr)) (fp:List Addr),PE (X.blk s H scope (compEnvC scope cl C X.env) fp) elt (tE G me WF)) (hs:∀x,foldedSetIterable iter X.env x=pure x:=by intro _;rfl) (hs1:∀env x,foldedSetIterable iter1 env x=pure x:=by intro _ _;rfl):
 PE X (.ListComp elt [⟨tg,iter,ifs,0⟩,⟨tg1,iter1,ifs1,0⟩] scope pos) (tE G (eLc2 mi (own.map (·.2)) g mt mi1 vs1 g1 mt1 me) Wx):=peI (pe_lc2 hc hN hi ok hv hg ht hi1 hg1 ht1 he hs hs1) imp_lc2
end
end L3
namespace L3
open PySem PySem.Spec PyProof.Rows L2
section
variable {G:GC} {X:Cx} {w:Wd}
theorem RepL.dropLast:∀ {l:List D} {vs:List V},RepL G w l vs→RepL G w l.dropLast vs.dropLast
 | [],vs,h=>by
   have:vs= [] :=h
   subst this;exact h
 | [d],vs,h=>by
   obtain⟨v,r,rfl,_,h2⟩:=h
   have:r= [] :=h2
   subst this;simp[RepL]
 |d::e::l,vs,h=>by
  obtain⟨v,r,rfl,h1,h2⟩:=h
  obtain⟨v',r',rfl,h3,h4⟩:=id h2
  have:=RepL.dropLast h2
  exact⟨v,_,rfl,h1,this⟩
theorem RepL.eraseIdx:∀ {l:List D} {vs:List V} (k:Nat),RepL G w l vs→RepL G w (l.eraseIdx k) (vs.eraseIdx k)
 | [],vs,k,h=>by
   have:vs= [] :=h
   subst this;simpa using h
 |d::l,vs,0,h=>by
  obtain⟨v,r,rfl,h1,h2⟩:=h
  exact h2
 |d::l,vs,k+1,h=>by
  obtain⟨v,r,rfl,h1,h2⟩:=h
  exact⟨v,_,rfl,h1,RepL.eraseIdx k h2⟩
def extendD:D→FN:=fun x xs S=>match lstAt x S,xs with
 |some (n,l),[.lst m] =>if l.length+m.length≤sizeLine then .ok .non (S.set n (.lst (l++m))) else .bad
 | _,_=> .bad
theorem c_extend:CalmM extendD:=fun x xs S=>by unfold extendD;repeat' split
                                               all_goals trivial
theorem o_extend:MtR X "list.extend" (rM G extendD):=mtI2 mt_extend fun x xs H Q q=>by
 obtain⟨w,d,ds,rfl,sr,r1,rl,p⟩:=q
 unfold extendD at p
 split at p
 ·rename_i n l m he
  split at p
  ·rename_i hz
   obtain⟨a,vs,rfl,hn,hm,h1,h2⟩:=lstAt_rep sr r1 he
   simp only[RepL,Rep] at rl
   obtain⟨v,r',rfl,⟨b,ws,rfl,hb,nm,h3⟩,rfl⟩:=rl
   exact⟨a,b,vs,ws,rfl,rfl,h1,hb,by rw[h2.length,h3.length];exact hz,set_lst sr hn hm (h2.append h3) (by simp[Rep]) p⟩
  ·exact p.elim
 ·exact p.elim
def popD:D→FN:=fun x xs S=>match lstAt x S,xs with
 |some (n,l),[] =>match l[l.length-1]? with
  |some d=> .ok d (S.set n (.lst l.dropLast))
  |none=> .bad
 |some (n,l),[.int i] =>match ixN l.length i with
  |some k=>match l[k]? with
   |some d=>if -(2 ^ 63)≤i∧i<2 ^ 63 then .ok d (S.set n (.lst (l.eraseIdx k))) else .bad
   |none=> .bad
  |none=> .bad
 | _,_=> .bad
theorem c_pop:CalmM popD:=fun x xs S=>by unfold popD;repeat' split
                                         all_goals trivial
theorem o_pop:MtR X "list.pop" (rM G popD):=mtI2 (MtR.or mt_pop mt_popAt) fun x xs H Q q=>by
 obtain⟨w,d,ds,rfl,sr,r1,rl,p⟩:=q
 unfold popD at p
 split at p
 ·rename_i n l he
  split at p
  ·rename_i d hd
   obtain⟨a,vs,rfl,hn,hm,h1,h2⟩:=lstAt_rep sr r1 he
   have:xs= [] :=rl
   subst this
   obtain⟨v,hv,rv⟩:=h2.get hd
   exact .inl ⟨a,vs,v,rfl,rfl,h1,by rw[h2.length];exact hv,set_lst sr hn hm h2.dropLast rv p⟩
  ·exact p.elim
 ·rename_i n l i he
  split at p
  ·rename_i k hk
   split at p
   ·rename_i d hd
    split at p
    ·rename_i hz
     obtain⟨a,vs,rfl,hn,hm,h1,h2⟩:=lstAt_rep sr r1 he
     simp only[RepL,Rep] at rl
     obtain⟨v,r',rfl,rfl,rfl⟩:=rl
     obtain⟨v,hv,rv⟩:=h2.get hd
     refine .inr ⟨a,vs,i,k,v,rfl,rfl,h1,hz.1,hz.2,?_,hv,set_lst sr hn hm (h2.eraseIdx k) rv p⟩
     rw[h2.length]
     exact(ixN_seq hk).1
    ·exact p.elim
   ·exact p.elim
  ·exact p.elim
 ·exact p.elim
def insertD:D→FN:=fun x xs S=>match lstAt x S,xs with
 |some (n,l),[.int i,y] =>if l.length<sizeLine∧0≤i∧i<2 ^ 63 then .ok .non (S.set n (.lst (l.take i.toNat++ [y] ++l.drop i.toNat))) else .bad
 | _,_=> .bad
theorem c_insert:CalmM insertD:=fun x xs S=>by unfold insertD;repeat' split
                                               all_goals trivial
theorem o_insert:MtR X "list.insert" (rM G insertD):=mtI2 mt_insert fun x xs H Q q=>by
 obtain⟨w,d,ds,rfl,sr,r1,rl,p⟩:=q
 unfold insertD at p
 split at p
 ·rename_i n l i y he
  split at p
  ·rename_i hz
   obtain⟨a,vs,rfl,hn,hm,h1,h2⟩:=lstAt_rep sr r1 he
   simp only[RepL,Rep] at rl
   obtain⟨v,r',rfl,rfl,v',r'',rfl,ry,rfl⟩:=rl
   exact⟨a,vs,i,v',rfl,rfl,h1,by rw[h2.length];exact hz.1,hz.2.1,hz.2.2,set_lst sr hn hm (((h2.take _).append (RepL.one ry)).append (h2.drop _)) (by simp[Rep]) p⟩
  ·exact p.elim
 ·exact p.elim
end
end L3
namespace L3
open PySem PySem.Spec PyProof.Rows L2
section
variable {G:GC} {X:Cx} {Wx:WX} {pos:Pos}
theorem put_len {κ :Type} [DecidableEq κ] (kvs:List (κ × D)) (k: κ) (v:D):(putD kvs k v).length≤kvs.length+1:=by
 unfold putD;split<;>simp
end
end L3
namespace L3
open PySem PySem.Spec PyProof.Rows L2
def lv:Nat→Nat
 |0=>1
 |k+1=>lv k+2
end L3
namespace L3
open PySem PySem.Spec PyProof.Rows L2
section
variable {G:GC} {X:Cx} {Wx:WX} {pos:Pos}
def gSeq (is:List Nat):GD:=fun d env S=>match d with
 | .tup l=>gNames is l env S
 | .lst l=>gNames is l env S
 | _=> .bad
theorem gNames_len:∀ {is:List Nat} {l:List D} {env env':EnvD} {S S':Store},gNames is l env S= .nx env' S'→l.length=is.length
 | [],[],_,_,_,_,_=>rfl
 | [],_::_,_,_,_,_,e=>nomatch e
 | _::_,[],_,_,_,_,e=>nomatch e
 |i::is,d::l,env,env',S,S',e=>by
  have:=gNames_len (is:=is) (l:=l) (env:=env.set i (some d)) e
  simp[this]
end
end L3
namespace L3
open PySem PySem.Spec PyProof.Rows L2
def keyD:Key→D
 | .inl i=> .int i
 | .inr s=> .str s
theorem keyD_rep {G:GC} {w:Wd} :∀k:Key,Rep G w (keyD k) (kV k)
 | .inl i=>by simp only[keyD,Rep];rfl
 | .inr s=>by simp only[keyD,Rep];rfl
theorem grow_ext {G:GC} {w:Wd} {H':Hp} (sr:SRep G w) (k:∀b o,w.H b=some o→H' b=some o):
 WExt w { w with H:=H' } ∧SRep G { w with H:=H' } ∧∀p,w.H p=none→¬Mut { w with H:=H' } p:=by
 have x:WExt w { w with H:=H' } :=⟨fun _ _ h=>h,fun a u h nm _=>⟨k a u h,nm⟩,fun _ h=> .inl h,fun _ h=>h⟩
 refine⟨x,⟨sr.len,sr.inj,fun n ob a h1 h2=> ?_,fun a ha=> ?_⟩,fun p hp m=>m.elim (fun m=> ?_) fun m=> ?_⟩
 ·have h:=sr.obj n ob a h1 h2
  refine h.keep x noT fun lv=> ?_
  obtain⟨u,e⟩:=h.there lv
  exact(k a u e).trans e.symm
 ·obtain⟨⟨u,e⟩,nm⟩:=sr.tm a ha
  exact⟨⟨u,k a u e⟩,nm⟩
 ·obtain⟨u,e⟩:=MutS.there sr (show MutS w p from m)
  rw[hp] at e;cases e
 ·obtain⟨⟨u,e⟩,_⟩:=sr.tm p m
  rw[hp] at e;cases e
def pairs:List (Key × D)→List D
 | [] => []
 |p::r=> .tup [keyD p.1,p.2] ::pairs r
def litemsD:F1:=fun x S=>match dkAt x S with
 |some kvs=> .ok (.lst (pairs kvs)) S
 |none=> .bad
theorem pairs_rep {G:GC} {w:Wd} :∀ {kvs:List (Key × D)} {vs:List (Key × V)} {ts:List Addr},RepKV G w kvs vs→(∀ t ∈ ts,¬Mut w t)→Paired (fun(t:Addr) (q:Key × V)=>w.H t=some (.tup [kV q.1,q.2])) ts vs→RepL G w (pairs kvs) (ts.map V.ref)
 | [],vs,ts,h,_,p=>by
   have e:vs= [] :=h
   subst e
   cases p
   simp[pairs,RepL]
 |q::kvs,vs,ts,h,nm,p=>by
  obtain⟨v,y,e,h1,h2⟩:=h
  subst e
  cases p with
  |cons r t=>
   rename_i a as
   show RepL G w (.tup [keyD q.1,q.2] ::pairs kvs) (V.ref a::as.map V.ref)
   simp only[RepL]
   refine⟨_,_,rfl,?_,pairs_rep h2 (fun t ht=>nm t (List.mem_cons_of_mem _ ht)) t⟩
   simp only[Rep]
   refine⟨a,_,rfl, .inl ⟨r,nm a List.mem_cons_self⟩,?_⟩
   simp only[RepL]
   exact⟨_,_,rfl,keyD_rep _,_,_,rfl,h1,rfl⟩
section
variable {G:GC} {X:Cx} {Wx:WX} {e:Expr} {m:ED} {p apos cpos pos:Pos}
theorem q_items (hc:X.calm=true) (he:PE X e (tE G m Wx)) (hg:Gl X "list") (hm:X.mg "list" =none) (hbase:attributeBase e "items" X.env (eval e X.env)=eval e X.env:=by rfl) (hline:(apos.endLine==cpos.line)=true:=by rfl)
 (hs:starEach [.Call (.Attribute e "items" apos) [] [] cpos] X.env=(false,eval (.Call (.Attribute e "items" apos) [] [] cpos) X.env)::starEach [] X.env:=by rfl):
 PE X (.Call (.Name "list" p) [.Call (.Attribute e "items" apos) [] [] cpos] [] pos) (tE G (e1 litemsD m) Wx):=
 peI (LiI.pe_listItems hc he hg hm PyProof.Rows.boot_list hbase hline hs) fun σ H Q q=>by
 obtain⟨w,env,rfl,sr,er,p⟩:=q
 refine⟨w,env,rfl,sr,er,(Post.bind p).mono (fun v H1 ⟨w1,d,eH,x,s1,r1,p1⟩=> ?_) fun _ _ _ h=>h⟩
 subst eH
 simp only[litemsD] at p1
 split at p1
 ·rename_i kvs hk
  obtain⟨a,vs,rfl,h1,h2⟩:=dkAt_rep s1 r1 hk
  refine⟨a,vs,rfl,h1,fun H' p' ts k hp hts hpt hpH pr=> ?_⟩
  obtain⟨x1,s2,nm⟩:=grow_ext s1 k
  refine p1 (.ref p') { w1 with H:=H' } x1 rfl s2 ?_
  simp only[Rep]
  exact⟨p',_,rfl,hpH,nm p' hp,pairs_rep (RepKV.mono x1 _ _ h2) (fun t ht=>nm t (hts t ht)) pr⟩
 ·exact p1.elim
end
end L3
namespace L3
open PySem PySem.Spec PyProof.Rows L2
section
variable {G:GC} {X:Cx} {Wx:WX} {pos:Pos}
def tGsW (G:GC) (is vs:List Nat):TGs:=fun us σ H Q=>∃w env ds env',w.H=H∧SRep G w∧ERep G w env σ ∧RepL G w ds us∧gNames is ds env w.S= .nx env' w.S∧∀ σ',ERep G w env' σ'→L2.wipe σ' vs=L2.wipe σ vs→Q σ' H
theorem q_gsnW {vs:List Nat} :PGs X [] (tGsW G [] vs):=pgsI pgs_nil fun v σ H Q q=>by
 obtain⟨w,env,ds,env',rfl,sr,er,rl,e,k⟩:=q
 cases ds with
 |nil=>
  simp only[RepL] at rl
  cases e
  exact⟨rl,k σ er rfl⟩
 |cons _ _=>cases e
theorem q_gscW {e:Expr} {es:List Expr} {i:Nat} {is vs:List Nat} (h1:PG X e (L2.gName i)) (h2:PGs X es (tGsW G is vs)) (hv:i ∈ vs:=by decide)
 (hs:(assignEach (e::es) X.env).map (·.2)=assign e X.env::(assignEach es X.env).map (·.2):=by rfl):PGs X (e::es) (tGsW G (i::is) vs):=pgsI (pgs_cons h1 h2 hs) fun v σ H Q q=>by
 obtain⟨w,env,ds,env',rfl,sr,er,rl,e,k⟩:=q
 cases ds with
 |nil=>cases e
 |cons d ds=>
  simp only[RepL] at rl
  obtain⟨v,r,rfl,r1,r2⟩:=rl
  exact⟨v,r,rfl,w,_,ds,env',rfl,sr,er.set i r1,r2,e,fun σ' er' hw=>k σ' er' (hw.trans (wipe_set hv))⟩
theorem q_gtupW {es:List Expr} {k:Nat} {is vs:List Nat} (hK:X.K=G.K) (hc:X.calm=true) (h:PGs X es (tGsW G is vs)) (hn:(assignEach es X.env).length=is.length:=by rfl) (hst:(assignEach es X.env).findIdx? (·.1)=none:=by rfl):
 PG X (.Tuple es k pos) (tGW G (gTup is) vs):=pgI (pg_tup hc h hn hst) fun v σ H Q q=>by
 obtain⟨w,env,d,rfl,sr,er,rp,p⟩:=q
 cases d with
 |tup l=>
  simp only[Rep] at rp
  obtain⟨a,us,rfl,h1,rl⟩:=rp
  simp only[gTup] at p
  rcases gNames_nx (is:=is) (ds:=l) (env:=env) (S:=w.S) with⟨env',e⟩|e
  ·rw[e] at p
   refine⟨a,us,rfl,by rw[hK];exact SqT_of h1,by rw[rl.length];exact gNames_len e,w,env,l,env',rfl,sr,er,rl,e,fun σ' er' hw=>p σ' w (.refl _) rfl sr er' hw⟩
  ·rw[e] at p;exact p.elim
 |wtp l=>
  simp only[Rep] at rp
  obtain⟨a,rfl,h1⟩:=rp
  have rl:RepL G w (l.map .int) (l.map V.int):=RepL_ints.mpr rfl
  simp only[gTup] at p
  rcases gNames_nx (is:=is) (ds:=l.map .int) (env:=env) (S:=w.S) with⟨env',e⟩|e
  ·rw[e] at p
   refine⟨a,_,rfl,by rw[hK];exact .inr h1,by rw[rl.length];exact gNames_len e,w,env,_,env',rfl,sr,er,rl,e,fun σ' er' hw=>p σ' w (.refl _) rfl sr er' hw⟩
  ·rw[e] at p;exact p.elim
 | _=>exact p.elim
end
end L3
namespace L3
open PySem PySem.Spec PyProof.Rows L2
def frzD:F1:=fun x S=>match x with
 | .obj n=>match S[n]? with
   |some (.lst l)=> .ok (.lst l) (S.set n .dead)
   |some (.dK kvs)=> .ok (.dic (kvs.map (·.1)) (kvs.map (·.2))) (S.set n .dead)
   | _=> .bad
 |x=> .ok x S
theorem bury {G:GC} {w:Wd} {n:Nat} {a:Addr} {ob:O} (sr:SRep G w) (hn:w.S[n]? =some ob) (lv:ob.live) (hm:w.mu[n]? =some a):
 WExt w { w with S:=w.S.set n .dead } ∧SRep G { w with S:=w.S.set n .dead } ∧¬Mut { w with S:=w.S.set n .dead } a:=by
 have hl:=(List.getElem?_eq_some_iff.mp hn).1
 have back:∀(m:Nat) (o:O),(w.S.set n .dead)[m]? =some o→o.live→m≠n∧w.S[m]? =some o:=fun m o h lo=>by
  by_cases e:n=m
  ·subst e;rw[List.getElem?_set_self hl] at h;cases h;exact lo.elim
  ·rw[List.getElem?_set_ne e] at h;exact⟨fun z=>e z.symm,h⟩
 have bk:∀(m:Nat) (o:O),(w.S.set n .dead)[m]? =some o→o.own→∃o2,w.S[m]? =some o2∧o2.own:=fun m o h lo=>by
  by_cases e:n=m
  ·subst e;exact⟨ob,hn,lv.own⟩
  ·rw[List.getElem?_set_ne e] at h;exact⟨o,h,lo⟩
 have mb:∀b,MutS { w with S:=w.S.set n .dead } b→MutS w b:=fun b ⟨m,o,h1,l1,h2⟩=>⟨m,o,(back m o h1 l1).2,l1,h2⟩
 have x:WExt w { w with S:=w.S.set n .dead } :=⟨fun _ _ h=>h,fun b u h nm _=>⟨h,fun m=>nm (mb b m)⟩,fun _ h=> .inl h,fun _ h=>h⟩
 have nmA: ¬Mut { w with S:=w.S.set n .dead } a:=fun m=>by
  rcases m with⟨m,o,h1,l1,h2⟩|m
  ·obtain⟨ne,q⟩:=back m o h1 l1
   exact ne (sr.inj m n a o ob q hn l1.own lv.own h2 hm)
  ·exact(sr.tm a m).2 ⟨n,ob,hn,lv,hm⟩
 refine⟨x,⟨by simp[sr.len],fun i j b o1 o2 h1 h2 l1 l2 m1 m2=>(let⟨p1,q1,r1⟩:=bk i o1 h1 l1;let⟨p2,q2,r2⟩:=bk j o2 h2 l2;sr.inj i j b p1 p2 q1 q2 r1 r2 m1 m2),fun m o b h1 h2=> ?_,fun b hb=>⟨(sr.tm b hb).1,fun m=>(sr.tm b hb).2 (mb b m)⟩⟩,nmA⟩
 ·by_cases e:n=m
  ·subst e;rw[List.getElem?_set_self hl] at h1;cases h1
   have eb:b=a:=Option.some.inj (h2.symm.trans hm)
   subst eb
   exact⟨(sr.obj _ ob _ hn hm).there lv,nmA⟩
  ·rw[List.getElem?_set_ne e] at h1
   exact(sr.obj m o b h1 h2).keep x noT fun _=>rfl
theorem frz_rep {G:GC} {w:Wd} {x y:D} {v:V} {S':Store} (sr:SRep G w) (r:Rep G w x v) (e:frzD x w.S= .ok y S'):∃w',WExt w w'∧w'.S=S'∧w'.H=w.H∧SRep G w'∧Rep G w' y v:=by
 unfold frzD at e
 split at e
 ·rename_i n
  simp only[Rep] at r
  obtain⟨a,hm,rfl⟩:=r
  split at e
  ·rename_i l hn
   cases e
   obtain⟨vs,h1,h2⟩:=sr.obj n _ a hn hm
   obtain⟨x,s,nm⟩:=bury sr hn trivial hm
   refine⟨_,x,rfl,rfl,s,?_⟩
   simp only[Rep]
   exact⟨a,vs,rfl,h1,nm,RepL.mono x _ _ h2⟩
  ·rename_i kvs hn
   cases e
   obtain⟨vs,h1,h2⟩:=sr.obj n _ a hn hm
   obtain⟨x,s,nm⟩:=bury sr hn trivial hm
   obtain⟨us,eu,ru⟩:=h2.parts
   refine⟨_,x,rfl,rfl,s,?_⟩
   simp only[Rep]
   exact⟨a,us,rfl,by rw[← eu];exact h1,nm,by simp,RepL.mono x _ _ ru⟩
  ·cases e
 ·cases e
  exact⟨w, .refl w,rfl,rfl,sr,r⟩
section
variable {G:GC} {X:Cx} {Wx:WX}
theorem q_frz {e:Expr} {m:ED} (h:PE X e (tE G m Wx)):PE X e (tE G (e1 frzD m) Wx):=peI h fun σ H Q q=>by
 obtain⟨w,env,rfl,sr,er,p⟩:=q
 refine⟨w,env,rfl,sr,er,(Post.bind (Ra:=Rep G) p).mono (fun v H1 ⟨w1,d,eH,x,s1,r1,p1⟩=> ?_) fun _ _ _ h=>h⟩
 subst eH
 replace p1:Post G w1 (frzD d w1.S) (Rep G) Q (fun C dx H'=>Wx C dx σ H'):=p1
 cases hf:frzD d w1.S with
 |ok y S'=>
  obtain⟨w2,x2,e2,eh,s2,r2⟩:=frz_rep s1 r1 hf
  rw[hf] at p1
  have:=p1 v w2 x2 e2 s2 r2
  rw[eh] at this
  exact this
 |exc _ _=>simp only[frzD] at hf;split at hf<;>(try split at hf)<;>cases hf
 |bad=>rw[hf] at p1;exact p1.elim
end
end L3
namespace L3
open PySem PySem.Spec PyProof.Rows L2
def sRaise0 (c:Str):SD:=fun env S=> .exc ⟨c,[]⟩ env S
def sRaise1 (c f:Str) (a:ED):SD:=fun env S=>(a env S).toS env fun d S1=> .exc ⟨c,[(f,d)]⟩ env S1
end L3
namespace L3
open PySem PySem.Spec PyProof.Rows L2
open PySem.W (SortsAt AllAlike Sortable dataKind dataKind_some dataKind_inv)
section
variable {prog:Program} {w:World} {A:Around} {E:Value→Shared→Prop} {s:Shared}
theorem call_tup_lt {Q:Value→Shared→Prop} {l b:Addr} {xs ys:Array Value} {e r:Nat→Bool} (hl:s.heap.IsTuple l xs) (hb:s.heap.IsTuple b ys)
 (he:∀j (h1:j<xs.size) (h2:j<ys.size),SeqAt.EqAt A.in1 s xs[j] ys[j] (e j)) (hr:∀j (h1:j<xs.size) (h2:j<ys.size),e j=false→SeqAt.RcLt A.in1 s xs[j] ys[j] (r j))
 (h:Q (.bool (SeqAt.firstLt e r (decide (xs.size<ys.size)) (List.range (min xs.size ys.size)))) s):wpAny (model prog w) A (call (.builtin "tuple.__lt__") [.ref l, .ref b]) Q E s:=by
 obtain⟨⟨c1,d1,a1,s1⟩,g1,t1,n1,k1⟩:=id hl
 obtain⟨⟨c2,d2,a2,s2⟩,g2,t2,n2,k2⟩:=id hb
 dsimp only at t1 k1 t2 k2
 subst t1 k1 t2 k2
 exact call_meets F.slot_tuple_lt ⟨_,g1,rfl⟩ F.entry_tuple_lt (F.args_tuple_lt_2 _ _) (SeqAt.tuple_ltAt l b xs ys n1 n2 d1 d2 s1 s2 e r) ⟨g1,g2,he,hr,h⟩
theorem oneLt_tup {xs ys:List PyData} {a b:Value} {as bs:List Addr} {Q:Bool→Shared→Prop} (ra:Reads s.heap a (.tuple xs) as) (rb:Reads s.heap b (.tuple ys) bs) (hal:PySem.W.alikeAll xs ys=true)
 (hu:A.units+min (PyData.tuple xs).depth (PyData.tuple ys).depth<cLine) (hq:Q (PySem.W.dataLt (.tuple xs) (.tuple ys)) s):wpAny (model prog w) A (oneLt' true a b) Q E s:=by
 cases ra with
 | @tuple l o vs n _ _ g1 t1 k1 r1=>
   cases rb with
   | @tuple l' o' vs' n' _ _ g2 t2 k2 r2=>
     have z1:vs.size=xs.length:=by simpa using SeqAt.ReadsAll.length _ _ _ r1
     have z2:vs'.size=ys.length:=by simpa using SeqAt.ReadsAll.length _ _ _ r2
     rw[PySem.W.dataLt_tuple,←PySem.W.firstLt_toks xs ys hal,←z1,←z2] at hq
     rw[oneLt'_eq]
     simp only[if_true]
     refine wpAny_bind (wpAny_cRoomFor (SeqAt.room_here hu) ?_)
     refine wpAny_bind (wpAny_callSpecialIfBound?_slot (T:= "tuple") ⟨_,g1,t1⟩ F.slot_tuple_lt (call_tup_lt (e:=SeqAt.pairEq xs ys) (r:=fun j=>PySem.W.dataLt (xs.getD j .none) (ys.getD j .none)) ⟨_,g1,t1,_,k1⟩ ⟨_,g2,t2,_,k2⟩ (fun j j1 j2=> ?_) (fun j j1 j2 hj=> ?_) ?_))
     ·have q:=PySem.W.eqAt_alikeAll xs ys A.in1 s vs.toList vs'.toList _ _ r1 r2 hal (SeqAt.room_in hu) j (by simpa using j1) (by simpa using j2)
      simpa using q
     ·have q:=PySem.W.rcLt_alikeAll xs ys A.in1 s vs.toList vs'.toList _ _ r1 r2 hal (SeqAt.room_in hu) j (by simpa using j1) (by simpa using j2) hj
      simpa using q
     ·exact wpAny_truthy_bool hq
theorem kind_empty {M:Model} {v0:Value} {vs:List Value} {ds:List PyData} {as:List Addr} {Q:SortKind→Shared→Prop} (r0:Reads s.heap v0 (.tuple []) as) (e:PySem.W.EachIs (fun v d=>∃as,Reads s.heap v d as) vs ds) (ht:∀d ∈ ds,∃xs,d= .tuple xs) (h2:1≤vs.length)
 (h:Q oneType' s):wpAny M A (keyKind' (v0::vs).toArray) Q E s:=by
 have first:∀ {v:Value} {xs:List PyData} {as:List Addr} {Q':Option Value→Shared→Prop},Reads s.heap v (.tuple xs) as→(∀ o,(xs= [] →o=none)→Q' o s)→wpAny M A (firstOfTuple' v) Q' E s:=fun {v xs as Q'} r q=>by
  cases r with
  | @tuple a o its n _ _ g t k r=>
    rw[PySem.W.kas_first_eq]
    have lk:PySem.W.Looks M s.heap (typeOf (.ref a)) (.type "tuple"):=t▸(PySem.W.Looks.ld g).andThen .now
    refine wpAny_bind (lk.here ?_)
    rw[if_neg (by decide)]
    refine wpAny_bind (PyProof.Rows.listItems_at g k (wpAny_pure (q _ fun z=> ?_)))
    subst z
    have:=SeqAt.ReadsAll.length _ _ _ r
    simp only[List.length_nil,Array.length_toList] at this
    simp[this]
 have rest:∀ {vs:List Value} {ds:List PyData} {Q':List (Option Value)→Shared→Prop},PySem.W.EachIs (fun v d=>∃as,Reads s.heap v d as) vs ds→(∀ d ∈ ds,∃xs,d= .tuple xs)→(∀ os:List (Option Value),Q' os s)→wpAny M A (vs.mapM firstOfTuple') Q' E s:=by
  intro vs ds Q' e
  induction e generalizing Q' with
  |nil=>intro _ q;rw[List.mapM_nil];exact wpAny_pure (q [])
  | @cons v d vs ds r t ih=>
    intro ht q
    obtain⟨as,r⟩:=r
    obtain⟨xs,rfl⟩:=ht d (List.mem_cons_self ..)
    rw[List.mapM_cons]
    exact wpAny_bind (first r fun o _=>wpAny_bind (ih (fun d hd=>ht d (List.mem_cons_of_mem _ hd)) fun os=>wpAny_pure (q (o::os))))
 have types:∀v ∈ v0::vs,PySem.W.Looks M s.heap (typeOf v) (.type "tuple"):=fun v hv=>by
  have one:∀ {v:Value} {xs:List PyData} {as:List Addr},Reads s.heap v (.tuple xs) as→PySem.W.Looks M s.heap (typeOf v) (.type "tuple"):=fun r=>PySem.W.looks_reads r
  rcases List.mem_cons.mp hv with rfl|hv
  ·exact one r0
  ·obtain⟨d,hd,as,r⟩:=e.left v hv
   obtain⟨xs,rfl⟩:=ht d hd
   exact one r
 rw[keyKind'_eq,List.mapM_toArray,map_eq_pure_bind]
 refine wpAny_bind (wpAny_bind ?_)
 rw[List.mapM_cons]
 refine wpAny_bind (first r0 fun o ho=> ?_)
 obtain rfl:=ho rfl
 refine wpAny_bind (rest e ht fun os=>wpAny_pure (wpAny_pure ?_))
 rw[if_neg (by simp),if_neg (by simp)]
 rw[oneTypeOnly'_eq,List.mapM_toArray,map_eq_pure_bind]
 refine wpAny_bind (wpAny_bind (wpAny_bind (PySem.W.kas_mapM (r:=Value.type "tuple") _ (fun v hv Q' q=>(types v hv).here q) (wpAny_pure ?_))))
 have al:((List.map (fun _=>Value.type "tuple") (v0::vs)).toArray.all fun x=>x==Value.type "tuple")=true:=by
  simp only[List.all_toArray,List.all_map,List.all_eq_true]
  intro _ _
  exact beq_self_eq_true _
 have a0:(List.map (fun _=>Value.type "tuple") (v0::vs)).toArray[0]? =some (Value.type "tuple"):=by simp
 rw[a0]
 simp only[al,if_true]
 exact wpAny_pure (wpAny_pure h)
theorem sorts_empty {vs:List Value} {ds:List PyData} (e:PySem.W.EachIs (fun v d=>∃as,Reads s.heap v d as) vs ds) (hal:AllAlike ds) (h0:ds.head? =some (.tuple [])) (ht:∀d ∈ ds,∃xs,d= .tuple xs) (hu:∀d,d ∈ ds→A.units+d.depth<cLine):SortsAt prog w A s (dataKind s.heap ds) vs:=by
 refine⟨fun v hv=> ?_,oneType',?_,fun h2 E Q hq=> ?_⟩
 ·obtain⟨d,hd,as,r⟩:=e.left v hv
  exact⟨_,dataKind_some hal hd r⟩
 ·intro E x y a b Q ha hb hq
  obtain⟨d,as,hd,ra,rfl⟩:=dataKind_inv ha
  obtain⟨d',as',hd',rb,rfl⟩:=dataKind_inv hb
  obtain⟨xs,rfl⟩:=ht d hd
  obtain⟨ys,rfl⟩:=ht d' hd'
  rw[keyLt'_oneType]
  exact oneLt_tup ra rb (by simpa[PySem.W.alike] using hal _ hd _ hd') (Nat.lt_of_le_of_lt (Nat.add_le_add_left (Nat.min_le_left _ _) _) (hu _ hd)) hq
 ·cases e with
  |nil=>exact absurd h2 (by simp)
  | @cons v d vs ds r t=>
    obtain⟨as,r⟩:=r
    simp only[List.head?_cons,Option.some.injEq] at h0
    subst h0
    exact kind_empty r t (fun d hd=>ht d (List.mem_cons_of_mem _ hd)) (by simpa using h2) hq
end
end L3
namespace L3
open PySem PySem.Spec PyProof.Rows L2
open PySem.W (SortsAt AllAlike Sortable dataKind EachIs)
def encD (d:D):PyData:=(toPy d).getD .none
def srtLe (a b:D):Bool:= !PySem.W.dataLt (encD b) (encD a)
def isTupP:PyData→Bool
 | .tuple _=>true
 | _=>false
def isTup1:PyData→Bool
 | .tuple (_::_)=>true
 | _=>false
def isOther:PyData→Bool
 | .tuple _=>false
 | .none=>false
 | _=>true
def isTup0:Option PyData→Bool
 |some (.tuple [])=>true
 | _=>false
def sortOk (l:List D):Bool:=decide (l.length≤sizeLine)&&(l.all fun d=>(toPy d).isSome&&decide ((encD d).depth≤40))&&(l.all fun a=>l.all fun b=>PySem.W.alike (encD a) (encD b))&&
 ((l.all fun d=>isTup1 (encD d)) || (l.all fun d=>isOther (encD d)) || (isTup0 (l.head?.map encD)&&l.all fun d=>isTupP (encD d)))
def sortL (l:List D):List D:=l.mergeSort srtLe
section
variable {G:GC} {X:Cx} {w:Wd}
theorem each_rep {pins:List (Addr × Obj)} {σ :L2.St} {s:Shared} (hK:X.K=G.K) (I:Inv X pins σ w.H s):∀ {l:List D} {vs:List V} {us:List Value},RepL G w l vs→Vals vs us→(∀ d ∈ l,(toPy d).isSome=true)→
 EachIs (fun u d=>∃x,RelV x u∧Rep G w d x) us l∧EachIs (fun u d=>∃as,Reads s.heap u (encD d) as) us l
 | [],vs,us,r,v,_=>by
   simp only[RepL] at r
   subst r
   cases v
   exact⟨.nil, .nil⟩
 |d::l,vs,us,r,v,h=>by
  simp only[RepL] at r
  obtain⟨x,r',rfl,r1,r2⟩:=r
  cases v with
  |cons rx rv=>
   obtain⟨e1,e2⟩:=each_rep hK I r2 rv fun d hd=>h d (List.mem_cons_of_mem _ hd)
   obtain⟨y,hy⟩:=Option.isSome_iff_exists.mp (h d (List.mem_cons_self ..))
   obtain⟨p1,_⟩:=dp_of d x y r1 hy
   rw[← hK] at p1
   obtain⟨as,q⟩:=Dp.reads I y x _ p1 rx
   exact⟨.cons ⟨x,rx,r1⟩ e1, .cons ⟨as,by unfold encD;rw[hy];exact q⟩ e2⟩
theorem rep_each:∀ {l:List D} {us:List Value},EachIs (fun u d=>∃x,RelV x u∧Rep G w d x) us l→∃vs,Vals vs us∧RepL G w l vs
 | _,_, .nil=>⟨[], .nil,by simp[RepL]⟩
 | _,_, .cons ⟨x,rx,r1⟩ t=>by
   obtain⟨vs,v,r⟩:=rep_each t
   exact⟨x::vs, .cons rx v,by simp only[RepL];exact⟨x,vs,rfl,r1,r⟩⟩
theorem sort_kind {prog:Program} {ww:World} {A:Around} {s:Shared} {us:List Value} {l:List D} (h:sortOk l=true) (e:EachIs (fun u d=>∃as,Reads s.heap u (encD d) as) us l) (hu:A.units+42<cLine):SortsAt prog ww A s (dataKind s.heap (l.map encD)) us:=by
 simp only[sortOk,Bool.and_eq_true,List.all_eq_true,decide_eq_true_eq,Bool.or_eq_true] at h
 obtain⟨⟨⟨_,h1⟩,h2⟩,h3⟩:=h
 have al:AllAlike (l.map encD):=fun x hx y hy=>by
  obtain⟨a,ha,rfl⟩:=List.mem_map.mp hx
  obtain⟨b,hb,rfl⟩:=List.mem_map.mp hy
  exact h2 a ha b hb
 have dep:∀d ∈ l.map encD,A.units+d.depth<cLine:=fun x hx=>by
  obtain⟨a,ha,rfl⟩:=List.mem_map.mp hx
  have:=(h1 a ha).2
  omega
 have e':=PySem.W.each_map (R:=fun u d=>∃as,Reads s.heap u d as) encD e
 rcases h3 with(h3|h3)|⟨h3,h4⟩
 ·refine SortsAt.data e' al (.inl fun x hx=> ?_) dep
  obtain⟨a,ha,rfl⟩:=List.mem_map.mp hx
  have:=h3 a ha
  revert this
  cases encD a with
  |tuple xs=>cases xs with
   |nil=>intro h;simp[isTup1] at h
   |cons x r=>exact fun _=>⟨x,r,rfl⟩
  | _=>intro h;simp[isTup1] at h
 ·refine SortsAt.data e' al (.inr fun x hx=> ?_) dep
  obtain⟨a,ha,rfl⟩:=List.mem_map.mp hx
  have:=h3 a ha
  revert this
  cases encD a with
  |tuple xs=>intro h;simp[isOther] at h
  |none=>intro h;simp[isOther] at h
  | _=>exact fun _=>⟨by simp,by simp⟩
 ·refine sorts_empty e' al ?_ (fun x hx=> ?_) dep
  ·rw[List.head?_map]
   revert h3
   cases l.head?.map encD with
   |none=>intro h;simp[isTup0] at h
   |some x=>cases x with
    |tuple xs=>cases xs with
     |nil=>exact fun _=>rfl
     |cons _ _=>intro h;simp[isTup0] at h
    | _=>intro h;simp[isTup0] at h
  ·obtain⟨a,ha,rfl⟩:=List.mem_map.mp hx
   have:=h4 a ha
   revert this
   cases encD a with
   |tuple xs=>exact fun _=>⟨xs,rfl⟩
   | _=>intro h;simp[isTupP] at h
end
end L3
namespace L3
open PySem PySem.Spec PyProof.Rows L2
section
variable {G:GC} {X:Cx} {w:Wd}
theorem reads_all {pins:List (Addr × Obj)} {σ :L2.St} {s:Shared} (hK:X.K=G.K) (I:Inv X pins σ w.H s):∀ {l:List D} {vs:List V} {us:List Value} {as:List PyData},RepL G w l vs→Vals vs us→toPyL l=some as→∃bs,ReadsAll s.heap us as bs
 | [],vs,us,as,r,v,e=>by
   simp only[RepL] at r
   subst r
   cases v
   cases e
   exact⟨[], .nil⟩
 |d::l,vs,us,as,r,v,e=>by
  simp only[RepL] at r
  obtain⟨x,r',rfl,r1,r2⟩:=r
  cases v with
  |cons rx rv=>
   simp only[toPyL] at e
   split at e
   ·rename_i y ys e1 e2
    cases e
    obtain⟨bs,q⟩:=reads_all hK I r2 rv e2
    obtain⟨p1,_⟩:=dp_of d x y r1 e1
    rw[← hK] at p1
    obtain⟨cs,q1⟩:=Dp.reads I y x _ p1 rx
    exact⟨_, .cons q1 q⟩
   ·cases e
end
end L3
namespace L3
open PySem PySem.Spec PyProof.Rows L2
theorem u66 {k:Nat} {A:Around} (h:RoomG k A):A.units+66<cLine:=by have:=h.rm.un;omega
def pairK:D→Option (Key × D)
 | .tup [k,v] =>(keyOf k).map fun k=>(k,v)
 | _=>none
def pairKs:List D→Option (List (Key × D))
 | [] =>some []
 |d::l=>match pairK d,pairKs l with
  |some p,some r=>some (p::r)
  | _,_=>none
def dictPV:FN:=fun xs S=>match xs with
 | [x] =>match asL x S with
   |some l=>match pairKs l with
    |some kvs=> .ok (.dic ((mergeD [] kvs).map (·.1)) ((mergeD [] kvs).map (·.2))) S
    |none=> .bad
   |none=> .bad
 | _=> .bad
theorem c_dictPV:CalmN dictPV:=fun xs S=>by unfold dictPV;repeat' split
                                            all_goals trivial
section
variable {G:GC} {X:Cx} {w:Wd}
theorem pairK_rep {d:D} {v:V} {p:Key × D} (r:Rep G w d v) (e:pairK d=some p):∃a y,v= .ref a∧SqT G.K w.H a [kV p.1,y] ∧Rep G w p.2 y:=by
 unfold pairK at e
 split at e
 ·rename_i k z
  cases hk:keyOf k with
  |none=>rw[hk] at e;cases e
  |some kk=>
   rw[hk] at e
   cases e
   simp only[Rep] at r
   obtain⟨a,vs,rfl,h1,rl⟩:=r
   simp only[RepL] at rl
   obtain⟨x,_,rfl,rx,y,_,rfl,ry,rfl⟩:=rl
   have ek:=keyOf_rep rx hk
   subst ek
   exact⟨a,y,rfl,SqT_of h1,ry⟩
 ·cases e
theorem pairKs_rep:∀ {l:List D} {vs:List V} {kvs:List (Key × D)},RepL G w l vs→pairKs l=some kvs→∃(ps:List Addr) (kus:List (Key × V)),vs=ps.map V.ref∧Paired (fun p kv=>SqT G.K w.H p [kV kv.1,kv.2]) ps kus∧RepKV G w kvs kus
 | [],vs,kvs,r,e=>by
   simp only[RepL] at r
   subst r
   cases e
   exact⟨[],[],rfl, .nil,rfl⟩
 |d::l,vs,kvs,r,e=>by
  simp only[RepL] at r
  obtain⟨v,r',rfl,r1,r2⟩:=r
  simp only[pairKs] at e
  split at e
  ·rename_i p q e1 e2
   cases e
   obtain⟨a,y,rfl,h1,h2⟩:=pairK_rep r1 e1
   obtain⟨ps,kus,rfl,h3,h4⟩:=pairKs_rep r2 e2
   exact⟨a::ps,(p.1,y)::kus,rfl, .cons h1 h3,y,kus,rfl,h2,h4⟩
  ·cases e
theorem o_dictPV (hc:X.calm=true) (hK:X.K=G.K):CallR X (.type "dict") (rN G dictPV):=caI2 (call_dictP hc) fun xs H Q q=>by
 obtain⟨w,ds,rfl,sr,rl,p⟩:=q
 unfold dictPV at p
 split at p
 ·rename_i x
  split at p
  ·rename_i l hl
   split at p
   ·rename_i kvs hk
    simp only[RepL] at rl
    obtain⟨v,r',rfl,rx,rfl⟩:=rl
    obtain⟨a,vs,rfl,h1,h2⟩:=asL_rep sr rx hl
    obtain⟨ps,kus,rfl,h3,h4⟩:=pairKs_rep h2 hk
    refine⟨a,ps,kus,rfl,SqL.of h1,by rw[hK];exact h3,fun p' hp=> ?_⟩
    obtain⟨x1,s1,nm⟩:=new_ext (o:= .dK (mergeK [] kus)) sr hp
    obtain⟨us,eu,ru⟩:=(RepKV.merge (kvs:= []) (vs:= []) h4 rfl).parts
    refine p (.ref p') (w.put p' (.dK (mergeK [] kus))) x1 rfl s1 ?_
    simp only[Rep]
    exact⟨p',us,rfl,by rw[← eu];exact upd_same,nm,by simp,RepL.mono x1 _ _ ru⟩
   ·exact p.elim
  ·exact p.elim
 ·exact p.elim
end
end L3
namespace L3
open PySem PySem.Spec PyProof.Rows L2
def ne0D:F2:=fun x y S=>match y with
 | .lst [] =>match asL x S with
   |some l=> .ok (.bl (!l.isEmpty)) S
   |none=> .bad
 | _=> .bad
theorem c_ne0:Calm2 ne0D:=fun x y S=>by unfold ne0D;repeat' split
                                        all_goals trivial
section
variable {G:GC} {X:Cx} {w:Wd}
theorem o_ne0 (hu:X.A.units+64<cLine):OpR X (compareOp .NotEq) (r2 G ne0D):=by
 intro pins s σ H x y v u Q I rx ry q
 obtain⟨w,d1,d2,rfl,sr,r1,r2,p⟩:=q
 unfold ne0D at p
 split at p
 ·split at p
  ·rename_i l hl
   obtain⟨a,vs,rfl,h1,l1⟩:=asL_rep sr r1 hl
   simp only[Rep,RepL] at r2
   obtain⟨b,us,rfl,h2,_,rfl⟩:=r2
   cases rx
   cases ry
   obtain⟨its,rv,tp,_⟩:=I.list (SqL.of h1)
   obtain⟨its2,rv2,tp2,_⟩:=I.list (SqL.of h2)
   cases rv2
   have h3:=rv.length
   have h4:=l1.length
   cases l with
   |nil=>
    have e:its= [] :=List.length_eq_zero_iff.mp (by rw[← h3,h4];rfl)
    subst e
    refine SeqAt.RcNeAt.lists (e:=fun _=>true) tp.isList tp2.isList rfl (by omega) (fun j h1 h2=>absurd h2 (by simp)) X.prog X.w X.xe (EP X pins σ Q) ?_
    exact⟨.bl _,w.H,I,rfl,Post.ret (Ra:=Rep G) sr (by simp[Rep]) p⟩
   |cons d l=>
    refine SeqAt.RcNeAt.lists_lengths tp.isList tp2.isList (by
     have:its.length=l.length+1:=by rw[← h3,h4];rfl
     simp[this]) (by omega) X.prog X.w X.xe (EP X pins σ Q) ?_
    exact⟨.bl _,w.H,I,rfl,Post.ret (Ra:=Rep G) sr (by simp[Rep]) p⟩
  ·exact p.elim
 ·exact p.elim
end
end L3
namespace L3
open PySem PySem.Spec PyProof.Rows L2
open Classical in
noncomputable def lcO (n:Nat) (all:List D) (g:GD) (tt:TD) (te:ED) (env:EnvD):List D→Store→R (List D)
 | [],S=>if S[n]? =some (.lst all) then .ok [] S else .bad
 |x::xs,S=>if S[n]? =some (.lst all) then match g x env S with
  | .nx env1 S1=>(tt env1 S1).nox.bind fun k S2=>match k with
    |true=>(te env1 S2).nox.bind fun y S3=>(lcO n all g tt te env xs S3).bind fun ys S4=> .ok (y::ys) S4
    |false=>lcO n all g tt te env xs S2
  | _=> .bad
  else .bad
noncomputable def lcAt (vs:List Nat) (g:GD) (tt:TD) (te:ED) (env:EnvD) (d:D) (S1:Store):R D:=match d with
 | .obj n=>match S1[n]? with
   |some (.lst xs)=>if xs.length≤sizeLine then(lcO n xs g tt te (wipeD env vs) xs S1).bind fun ys S2=> .ok (.lst ys) S2 else .bad
   | _=> .bad
 | _=> .bad
def iO (m:ED):ED:=fun env S=>(m env S).bind fun d S1=>match d with
    | .obj n=>match S1[n]? with
      |some (.lst _)=> .ok d S1
      | _=> .bad
    | _=> .bad
noncomputable def eLcO (mi:ED) (vs:List Nat) (g:GD) (tt:TD) (te:ED):ED:=fun env S=>(iO mi env S).bind fun d S1=>lcAt vs g tt te env d S1
structure ItOkO (G:GC) (w:Wd) (J:It) (n:Nat) (xs:List D):Prop where
 go:∀(T:List Addr) w',Tok T w→WX' T w w'→SRep G w'→w'.S[n]? =some (.lst xs)→∀(i:Nat) (d:D),xs[i]? =some d→J.go i w'.H∧∀x H'',J.yld i w'.H x H''→∃w'',w''.H=H''∧WExt w' w''∧w''.S=w'.S∧SRep G w''∧Rep G w'' d x
 stop:∀(T:List Addr) w',Tok T w→WX' T w w'→SRep G w'→w'.S[n]? =some (.lst xs)→J.stop xs.length w'.H
def ItO (G:GC) (w':Wd) (d:D) (J:It):Prop:=∃n xs,d= .obj n∧w'.S[n]? =some (.lst xs)∧ItOkO G w' J n xs
def tIO (G:GC) (m:ED) (Wx:WX):TI:=fun σ H Rr=>∃w env,w.H=H∧SRep G w∧ERep G w env σ ∧Post G w (iO m env w.S) (fun w' d (J:It)=>ItO G w' d J) Rr (fun C dx H'=>Wx C dx σ H')
theorem it_listO {G:GC} {w:Wd} {n:Nat} {a:Addr} {l:List D} (hm:w.mu[n]? =some a):ItOkO G w (Itl G.K a) n l:=by
 have at':∀(T:List Addr) w',Tok T w→WX' T w w'→SRep G w'→w'.S[n]? =some (.lst l)→∃vs,SqL G.K w'.H a vs∧RepL G w' l vs:=fun T w' hT x s hS=>by
  obtain⟨vs,h1,h2⟩:=s.obj n _ a hS (x.mu n a hm)
  exact⟨vs, .inl (.inl h1),h2⟩
 refine⟨fun T w' hT x s hS i d e=> ?_,fun T w' hT x s hS=> ?_⟩
 ·obtain⟨vs,sq,r⟩:=at' T w' hT x s hS
  obtain⟨v,q1,q2⟩:=r.get e
  refine⟨⟨vs,v,sq,q1⟩,fun y H'' hy=> ?_⟩
  obtain⟨rfl,hy⟩:=hy
  have e2:=hy vs sq
  rw[q1] at e2;cases e2
  exact⟨w',rfl, .refl w',rfl,s,q2⟩
 ·obtain⟨vs,sq,r⟩:=at' T w' hT x s hS
  exact⟨vs,sq,by rw[r.length];exact Nat.le_refl _⟩
section
variable {G:GC} {X:Cx} {Wx:WX} {pos:Pos}
theorem q_iterO {tg e:Expr} {m:ED} (hK:X.K=G.K) (h:PE X e (tE G m Wx)):PI X tg e (tIO G m Wx):=by
 refine⟨fun pins s σ H R I q=> ?_⟩
 obtain⟨w,env,rfl,sr,er,p⟩:=q
 refine thn (h.run pins s σ w.H _ I ⟨w,env,rfl,sr,er,Post.bind p⟩) fun v s1 ⟨x,H1,I1,r1,q1⟩=> ?_
 obtain⟨w1,d1,rfl,x1,sr1,rp1,p1⟩:=q1
 split at p1
 ·rename_i n
  split at p1
  ·rename_i l hn
   simp only[Rep] at rp1
   obtain⟨a,hm,rfl⟩:=rp1
   obtain⟨vs,hq,rl⟩:=sr1.obj n _ a hn hm
   cases r1
   have q:=p1 (Itl G.K a) w1 (.refl _) rfl sr1 ⟨n,l,rfl,hn,it_listO hm⟩
   obtain⟨its,rv,p,hz⟩:=I1.list (.inl (.inl hq))
   refine wpAny_pyIter_list p.isList ?_
   refine⟨s1.heap.objs.size,[s1.heap.objs.size],_,_,w1.H,rfl,I1.kept (t':=s1.toks) fun b o e=>Heap.get?_push_of_some _ e,turn_list a _,⟨_,Heap.get?_push_size _ rfl,rfl,rfl⟩,fun b hb=> ?_,by rw[hK];exact q⟩
   have e:b=s1.heap.objs.size:=by simpa using hb
   subst e
   exact I1.fpOk (Nat.le_refl _) (I1.hok.fresh (Nat.le_refl _))
  ·exact p1.elim
 ·exact p1.elim
theorem imp_lcO {mi:ED} {vs:List Nat} {g:GD} {tt:TD} {te:ED} :∀ σ H Q,tE G (eLcO mi vs g tt te) Wx σ H Q→tLc (tIO G mi Wx) (tGW G g vs) (tT G tt WF) (tE G te WF) vs σ H Q:=by
 intro σ H Q q
 obtain⟨w,env,rfl,sr,er,p⟩:=q
 refine⟨w,env,rfl,sr,er,(Post.bind (Ra:=fun w' d (J:It)=>ItO G w' d J) p).mono (fun J H1 m=> ?_) fun _ _ _ h=>h⟩
 obtain⟨w1,d0,rfl,x1,s1,⟨nn,xs,rfl,hnn,io⟩,p1⟩:=m
 simp only[lcAt,hnn] at p1
 intro L hL
 have hfr:∀a ∈ [L],w1.H a=none:=fun a h=>by have:a=L:=by simpa using h
                                            rw[this];exact hL
 by_cases hz:xs.length≤sizeLine
 ·rw[if_pos hz] at p1
  have er1:=(er.mono x1).wipe vs
  have h0:WX' [L] w1 ⟨w1.mu,w1.S,upd w1.H L (.lst []),L::w1.tmp⟩:=
   ⟨fun _ _ h=>h,fun a o h nm ha=>⟨(upd_ne (by simpa using ha)).trans h,nm⟩,fun a h=>by
     rcases List.mem_cons.mp h with e|h
     ·exact .inr (by simp[e])
     ·exact .inl h,fun a h=>List.mem_cons_of_mem _ h⟩
  have nL: ¬MutS w1 L:=fun m=>by obtain⟨u,e⟩:=MutS.there s1 m;rw[hL] at e;cases e
  have sW:SRep G ⟨w1.mu,w1.S,upd w1.H L (.lst []),L::w1.tmp⟩:=by
   refine⟨s1.len,s1.inj,fun n ob a h1 h2=> ?_,fun a ha=> ?_⟩
   ·have h:=s1.obj n ob a h1 h2
    refine h.keep h0 (fr_tok hfr) fun lv=> ?_
    obtain⟨u,e⟩:=h.there lv
    exact upd_ne (ne_of_none e hL)
   ·rcases List.mem_cons.mp ha with e|ha
    ·subst e;exact⟨⟨⟨_,by first|assumption|(intro _ h;cases h)⟩,upd_same⟩,nL⟩
    ·obtain⟨⟨u,e⟩,nm⟩:=s1.tm a ha
     exact⟨⟨u,(upd_ne (ne_of_none e hL)).trans e⟩,nm⟩
  refine⟨fun i m H=>∃w3 acc us,w3.H=H∧SRep G w3∧WX' [L] w1 w3∧L ∈ w3.tmp∧w3.H L=some (.lst us)∧RepL G w3 acc us∧acc.length≤i∧i+m=xs.length∧
   (lcO nn xs g tt te (wipeD env vs) xs w1.S)=(lcO nn xs g tt te (wipeD env vs) (xs.drop i) w3.S).bind fun ys S2=> .ok (acc++ys) S2,
   ⟨xs.length,_,[],[],rfl,sW,h0,by simp,upd_same,by simp[RepL],Nat.le_refl _,by omega,?_⟩,fun i m H hW=> ?_⟩
  ·simp only[List.drop_zero,List.nil_append,R.bind_ok]
  obtain⟨w3,acc,us,rfl,s3,x3,tm3,hL3,ra3,hlen,em,eq⟩:=hW
  rw[eq] at p1
  by_cases hP:w3.S[nn]? =some (.lst xs)
  case neg=>
   exfalso
   cases hd:xs.drop i with
   |nil=>rw[hd,lcO,if_neg hP] at p1;exact p1.elim
   |cons y ys=>rw[hd,lcO,if_neg hP] at p1;exact p1.elim
  by_cases hi:i<xs.length
  ·have e:xs[i]? =some xs[i] :=List.getElem?_eq_getElem hi
   obtain⟨go,yl⟩:=io.go [L] w3 (fr_tok hfr) x3 s3 hP i xs[i] e
   refine .inr ⟨go,fun H'=>∃w5 acc us,w5.H=H'∧SRep G w5∧WX' [L] w1 w5∧L ∈ w5.tmp∧w5.H L=some (.lst us)∧RepL G w5 acc us∧acc.length≤i+1∧(i+1)+(m-1)=xs.length∧
    (lcO nn xs g tt te (wipeD env vs) xs w1.S)=(lcO nn xs g tt te (wipeD env vs) (xs.drop (i+1)) w5.S).bind fun ys S2=> .ok (acc++ys) S2,fun H' hN=>⟨m-1,by omega,hN⟩,fun x H' hy=> ?_⟩
   obtain⟨w4,rfl,x4,eS4,s4,rp4⟩:=yl x H' hy
   have x14:WX' [L] w1 w4:=WX'.trans x3 (WX'.wide x4)
   refine⟨w4,wipeD env vs,xs[i],rfl,s4,er1.monoT x14 (fr_tok hfr),rp4,?_⟩
   rw[List.drop_eq_getElem_cons hi,lcO,if_pos hP] at eq p1
   rw[eS4]
   cases hg:g xs[i] (wipeD env vs) w3.S with
   |nx env5 S5=>
    rw[hg] at eq p1
    simp only at eq p1
    intro σ5 w5 x5 e5 s5 er5 hw
    subst e5
    refine⟨hw.trans (wipe_sub fun _ h=>h),w5,env5,rfl,s5,er5,?_⟩
    cases ht:tt env5 w5.S with
    |ok k S6=>
     rw[ht] at eq p1
     simp only[R.nox,R.bind] at eq p1
     intro b w6 x6 e6 s6 hb
     subst hb e6
     have x46:WExt w4 w6:=WX'.trans x5 x6
     have x16:WX' [L] w1 w6:=WX'.trans x14 (WX'.wide x46)
     have hL6:w6.H L=some (.lst us):=(x46.keep L _ ((x4.keep L _ hL3 ((s3.tm L tm3).2) (by simp)).1) ((s4.tm L (x4.tmp' L tm3)).2) (by simp)).1
     have tm6:L ∈ w6.tmp:=x46.tmp' L (x4.tmp' L tm3)
     have ra6:RepL G w6 acc us:=RepL.mono (WX'.trans x4 x46) _ _ ra3
     cases k with
     |false=>
      refine iteF ⟨w6,acc,us,rfl,s6,x16,tm6,hL6,ra6,by omega,by omega,?_⟩
      simpa using eq
     |true=>
      refine iteT ⟨w6,env5,rfl,s6,er5.mono x6,?_⟩
      simp only at eq p1
      cases hte:te env5 w6.S with
      |ok y S7=>
       rw[hte] at eq p1
       simp only[R.nox,R.bind] at eq p1
       intro v w7 x7 e7 s7 r7
       subst e7
       have hL7:w7.H L=some (.lst us):=(x7.keep L _ hL6 ((s6.tm L tm6).2) (by simp)).1
       have tm7:L ∈ w7.tmp:=x7.tmp' L tm6
       have nm7: ¬MutS w7 L:=(s7.tm L tm7).2
       have lu:us.length=acc.length:=ra3.length
       refine⟨us,hL7,by omega,?_⟩
       have x8:WX' [L] w7 (w7.put L (.lst (us++ [v]))):=⟨fun _ _ h=>h,fun a o h nm ha=>⟨(upd_ne (by simpa using ha)).trans h,nm⟩,fun a h=> .inl h,fun a h=>h⟩
       have t8:Tok [L] w7:=fun a h=> .inl (by have:a=L:=by simpa using h
                                              rw[this];exact tm7)
       have s8:SRep G (w7.put L (.lst (us++ [v]))):=by
        refine⟨s7.len,s7.inj,fun n ob a h1 h2=> ?_,fun a ha=> ?_⟩
        ·have h:=s7.obj n ob a h1 h2
         exact h.keep x8 t8 fun lv=>upd_ne fun e=>nm7 (by subst e;exact⟨n,ob,h1,lv,h2⟩)
        ·obtain⟨⟨u,e⟩,nm⟩:=s7.tm a ha
         by_cases ea:a=L
         ·subst ea;exact⟨⟨⟨_,by first|assumption|(intro _ h;cases h)⟩,upd_same⟩,nm⟩
         ·exact⟨⟨u,(upd_ne ea).trans e⟩,nm⟩
       refine⟨_,acc++ [y],us++ [v],rfl,s8,WX'.trans (WX'.trans x16 (WX'.wide x7)) x8,tm7,upd_same,?_,by simp;omega,by omega,?_⟩
       ·exact(RepL.monoT x8 t8 _ _ (RepL.mono x7 _ _ ra6)).append (RepL.one (Rep.monoT x8 t8 _ _ r7))
       ·rw[eq]
        show _=(lcO nn xs g tt te (wipeD env vs) (List.drop (i+1) xs) w7.S).bind _
        cases lcO nn xs g tt te (wipeD env vs) (List.drop (i+1) xs) w7.S<;>simp[R.bind]
      |exc ee S7=>rw[hte] at p1;exact p1.elim
      |bad=>rw[hte] at p1;exact p1.elim
    |exc ee S6=>rw[ht] at p1;exact p1.elim
    |bad=>rw[ht] at p1;exact p1.elim
   |ret _ _=>rw[hg] at p1;exact p1.elim
   |brk _ _=>rw[hg] at p1;exact p1.elim
   |ct _ _=>rw[hg] at p1;exact p1.elim
   |exc _ _ _=>rw[hg] at p1;exact p1.elim
   |bad=>rw[hg] at p1;exact p1.elim
  ·have ei:i=xs.length:=by omega
   subst ei
   refine .inl ⟨io.stop [L] w3 (fr_tok hfr) x3 s3 hP,?_⟩
   rw[List.drop_length,lcO,if_pos hP] at p1
   have we:WExt w1 { w3 with tmp:=w1.tmp } :=⟨x3.mu,fun a o h nm _=>x3.keep a o h nm (by
    intro ha
    have:a=L:=by simpa using ha
    rw[this,hL] at h;cases h),fun a h=> .inl h,fun a h=>h⟩
   have tinc:∀a,a ∈ w1.tmp→a ∈ w3.tmp:=x3.tmp'
   have se:SRep G { w3 with tmp:=w1.tmp } :=s3.untmp tinc
   have nmL: ¬Mut { w3 with tmp:=w1.tmp } L:=fun m=>m.elim (s3.tm L tm3).2 fun z=>by
    obtain⟨⟨u,e⟩,_⟩:=s1.tm L z
    rw[hL] at e;cases e
   have hr:Rep G { w3 with tmp:=w1.tmp } (.lst (acc++ [])) (.ref L):=by
    simp only[Rep,List.append_nil]
    exact⟨L,us,rfl,hL3,nmL,RepL.untmp tinc _ _ ra3⟩
   exact p1 (.ref L) { w3 with tmp:=w1.tmp } we rfl se hr
 ·rw[if_neg hz] at p1;exact p1.elim
theorem q_setLcO {i:Nat} {y:Str} {py:Pos} {elt tg iter:Expr} {ifs:List Expr} {scope:Scope} {own:List (Str × Nat)} {spos:Pos} {mi:ED} {g:GD} {mt:TD} {me:ED} (hc:X.calm=true) (hN:X.N.Nodup) (hy:X.N[i]? =some y) (hyl:X.env.scope.names.lookup y=some .local)
 (hsw:swapsWith (.ListComp elt [⟨tg,iter,ifs,0⟩] scope pos) (some (.Name y py)) spos.line X.env=pure true) (hi:PI X tg iter (tIO G mi Wx)) (ok:BlkOk X.N X.env.scope scope own)
 (hg:∀(s:Shared) (H:Hp) (C:Addr) (cl:List (Str × Addr)) (fp:List Addr),PG (X.blk s H scope (compEnvC scope cl C X.env) fp) tg (tGW G g (own.map (·.2))))
 (ht:∀(s:Shared) (H:Hp) (C:Addr) (cl:List (Str × Addr)) (fp:List Addr),PTs (X.blk s H scope (compEnvC scope cl C X.env) fp) ifs (tT G mt WF))
 (he:∀(s:Shared) (H:Hp) (C:Addr) (cl:List (Str × Addr)) (fp:List Addr),PE (X.blk s H scope (compEnvC scope cl C X.env) fp) elt (tE G me WF)) (hs:∀x,foldedSetIterable iter X.env x=pure x:=by intro _;rfl):
 PS X (.Assign [.Name y py] (.ListComp elt [⟨tg,iter,ifs,0⟩] scope pos) spos) (tS G (sAsg (eLcO mi (own.map (·.2)) g mt me) (gName i)) Wx):=psI (ps_setLc hc hN hy hyl hsw hi ok hg ht he hs) fun D σ H q=>by
 obtain⟨w,env,rfl,sr,er,p⟩:=q
 refine imp_lcO (Wx:=Wx) σ w.H _ ⟨w,env,rfl,sr,er,(PostS.ofR (Ra:=Rep G) er p).mono (fun x H1 m=> ?_) fun _ _ _ h=>h⟩
 obtain⟨w1,d1,rfl,x1,s1,rp1,p1⟩:=m
 exact p1 _ w1 (.refl w1) rfl s1 ((er.mono x1).set i rp1)
end
theorem lcO_keep {n:Nat} {all:List D} {g:GD} {tt:TD} {te:ED} {env:EnvD} {S:Store} (hS:S[n]? =some (.lst all)) (f:D→Option D):∀ {xs:List D},(∀ x ∈ xs,∃e,g x env S= .nx e S∧match f x with
 |some y=>tt e S= .ok true S∧te e S= .ok y S
 |none=>tt e S= .ok false S)→lcO n all g tt te env xs S= .ok (xs.filterMap f) S
 | [],_=>by rw[lcO,if_pos hS];rfl
 |x::xs,h=>by
  obtain⟨e,h1,h2⟩:=h x List.mem_cons_self
  have ih:=lcO_keep hS f (xs:=xs) fun y hy=>h y (List.mem_cons_of_mem _ hy)
  rw[lcO,if_pos hS,h1]
  simp only
  cases hf:f x with
  |none=>
   rw[hf] at h2
   simp only at h2
   rw[h2]
   simp only[R.nox,R.bind,List.filterMap_cons,hf]
   exact ih
  |some y=>
   rw[hf] at h2
   simp only at h2
   rw[h2.1]
   simp only[R.nox,R.bind,List.filterMap_cons,hf]
   rw[h2.2]
   simp only[R.nox,R.bind]
   rw[ih]
theorem eLcO_keep {mi:ED} {vs:List Nat} {n:Nat} {all:List D} {g:GD} {tt:TD} {te:ED} {env:EnvD} {S S0:Store} (hm:mi env S0= .ok (.obj n) S) (hS:S[n]? =some (.lst all)) (hl:all.length≤sizeLine) (f:D→Option D)
 (h:∀x ∈ all,∃e,g x (wipeD env vs) S= .nx e S∧match f x with
 |some y=>tt e S= .ok true S∧te e S= .ok y S
 |none=>tt e S= .ok false S):eLcO mi vs g tt te env S0= .ok (.lst (all.filterMap f)) S:=by
 unfold eLcO iO
 rw[hm]
 simp only[R.bind,hS,lcAt]
 rw[if_pos hl,lcO_keep hS f h]
end L3
namespace L3
open PySem PySem.Spec PyProof.Rows L2
section
variable {P:Program} {w:World} {A:Around} {E:Value→Shared→Prop} {s:Shared}
theorem nodup_le {α :Type} :∀ {l m:List α},l.Nodup→(∀ x ∈ l,x ∈ m)→l.length≤m.length
 | [],m,_,_=>Nat.zero_le _
 |x::l,m,h,s=>by
  rw[List.nodup_cons] at h
  obtain⟨a,b,rfl⟩:=List.append_of_mem (s x List.mem_cons_self)
  have:=nodup_le (l:=l) (m:=a++b) h.2 fun y hy=>by
   have:=s y (List.mem_cons_of_mem _ hy)
   rw[List.mem_append,List.mem_cons] at this
   rw[List.mem_append]
   rcases this with h'|rfl|h'
   ·exact .inl h'
   ·exact absurd hy h.1
   ·exact .inr h'
  simp at this ⊢;omega
end
end L3
namespace L3
open PySem PySem.Spec PyProof.Rows L2
def tIf (c a b:TD):TD:=fun env S=>(c env S).bind fun k S1=>match k with
 |true=>a env S1
 |false=>b env S1
end L3
namespace L3
open PySem PySem.Spec PyProof.Rows L2
def lcN (n:Nat) (g:GD) (tt:TD) (te:ED) (env:EnvD):List D→Store→R D
 | [],S=> .ok (.obj n) S
 |x::xs,S=>match g x env S with
  | .nx env1 S1=>(tt env1 S1).nox.bind fun k S2=>match k with
    |true=>(te env1 S2).nox.bind fun y S3=>match S3[n]? with
     |some (.lst acc)=>if acc.length<sizeLine then lcN n g tt te env xs (S3.set n (.lst (acc++ [y]))) else .bad
     | _=> .bad
    |false=>lcN n g tt te env xs S2
  | _=> .bad
def eLcN (mi:ID) (vs:List Nat) (g:GD) (tt:TD) (te:ED):ED:=fun env S=>(mi env S).bind fun xs S1=>
 if xs.length≤sizeLine then lcN S1.length g tt te (wipeD env vs) xs (S1++ [.lst []]) else .bad
section
variable {G:GC} {X:Cx} {Wx:WX} {pos:Pos}
theorem imp_lcN {mi:ID} {vs:List Nat} {g:GD} {tt:TD} {te:ED} :∀ σ H Q,tE G (eLcN mi vs g tt te) Wx σ H Q→tLc (tI G mi Wx) (tGW G g vs) (tT G tt WF) (tE G te WF) vs σ H Q:=by
 intro σ H Q q
 obtain⟨w,env,rfl,sr,er,p⟩:=q
 refine⟨w,env,rfl,sr,er,(Post.bind (Ra:=fun w' xs (J:It)=>ItOk G w' J xs) p).mono (fun J H1 m=> ?_) fun _ _ _ h=>h⟩
 obtain⟨w1,xs,rfl,x1,s1,io,p1⟩:=m
 intro L hL
 by_cases hz:xs.length≤sizeLine
 case neg=>rw[if_neg hz] at p1;exact p1.elim
 rw[if_pos hz] at p1
 obtain⟨F,SF,hF⟩:∃F SF,lcN w1.S.length g tt te (wipeD env vs) xs (w1.S++ [.lst []])= .ok F SF:=by
  cases h:lcN w1.S.length g tt te (wipeD env vs) xs (w1.S++ [.lst []]) with
  |ok F SF=>exact⟨F,SF,rfl⟩
  |exc e S=>
   exfalso
   have no:∀(xs:List D) (S:Store) (n:Nat),(∃ d S',lcN n g tt te (wipeD env vs) xs S= .ok d S')∨lcN n g tt te (wipeD env vs) xs S= .bad:=by
    intro xs
    induction xs with
    |nil=>exact fun S n=> .inl ⟨_,_,rfl⟩
    |cons x xs ih=>
     intro S n
     unfold lcN
     cases g x (wipeD env vs) S with
     |nx env1 S1=>
      simp only
      cases tt env1 S1 with
      |ok k S2=>
       simp only[R.nox,R.bind]
       cases k with
       |false=>exact ih S2 n
       |true=>
        simp only
        cases te env1 S2 with
        |ok y S3=>
         simp only[R.nox,R.bind]
         split
         ·split
          ·exact ih _ n
          ·exact .inr rfl
         ·exact .inr rfl
        |exc _ _=>exact .inr rfl
        |bad=>exact .inr rfl
      |exc _ _=>exact .inr rfl
      |bad=>exact .inr rfl
     | _=>exact .inr rfl
   rcases no xs (w1.S++ [.lst []]) w1.S.length with⟨d,S',e⟩|e
   ·rw[e] at h;cases h
   ·rw[e] at h;cases h
  |bad=>rw[h] at p1;exact p1.elim
 rw[hF] at p1
 obtain⟨n,hn⟩:∃n,n=w1.S.length:=⟨_,rfl⟩
 rw[← hn] at hF
 have er1:=(er.mono x1).wipe vs
 obtain⟨x0,s0⟩:=new_obj (w:=w1) (p:=L) (o:= .lst []) (ob:= .lst []) s1 hL fun w' x e=>⟨[],e,by simp[RepL]⟩
 have m0:(w1.mu++ [L])[n]? =some L:=by rw[hn,←s1.len];simp
 refine⟨fun i m H=>∃w3,w3.H=H∧SRep G w3∧WExt w1 w3∧w3.mu[n]? =some L∧i+m=xs.length∧lcN n g tt te (wipeD env vs) (xs.drop i) w3.S= .ok F SF,
  ⟨xs.length,_,rfl,s0,x0,m0,by omega,by simpa using hF⟩,fun i m H hW=> ?_⟩
 obtain⟨w3,rfl,s3,x3,m3,em,eq⟩:=hW
 have tok0:Tok [] w1:=fun a h=>by simp at h
 by_cases hi:i<xs.length
 ·have e:xs[i]? =some xs[i] :=List.getElem?_eq_getElem hi
  obtain⟨go,yl⟩:=io.go [] w3 tok0 x3 s3 i xs[i] e
  refine .inr ⟨go,fun H'=>∃w5,w5.H=H'∧SRep G w5∧WExt w1 w5∧w5.mu[n]? =some L∧(i+1)+(m-1)=xs.length∧lcN n g tt te (wipeD env vs) (xs.drop (i+1)) w5.S= .ok F SF,fun H' hN=>⟨m-1,by omega,hN⟩,fun x H' hy=> ?_⟩
  obtain⟨w4,rfl,x4,eS4,s4,rp4⟩:=yl x H' hy
  have x14:WExt w1 w4:=WX'.trans x3 x4
  refine⟨w4,wipeD env vs,xs[i],rfl,s4,er1.mono x14,rp4,?_⟩
  rw[List.drop_eq_getElem_cons hi,lcN] at eq
  rw[eS4]
  cases hg:g xs[i] (wipeD env vs) w3.S with
  |nx env5 S5=>
   rw[hg] at eq
   simp only at eq
   intro σ5 w5 x5 e5 s5 er5 hw
   subst e5
   refine⟨hw.trans (wipe_sub fun _ h=>h),w5,env5,rfl,s5,er5,?_⟩
   cases ht:tt env5 w5.S with
   |ok k S6=>
    rw[ht] at eq
    simp only[R.nox,R.bind] at eq
    intro b w6 x6 e6 s6 hb
    subst hb e6
    have x46:WExt w4 w6:=WX'.trans x5 x6
    have x16:WExt w1 w6:=WX'.trans x14 x46
    cases k with
    |false=>exact iteF ⟨w6,rfl,s6,x16,x46.mu _ _ (x4.mu _ _ m3),by omega,eq⟩
    |true=>
     refine iteT ⟨w6,env5,rfl,s6,er5.mono x6,?_⟩
     simp only at eq
     cases hte:te env5 w6.S with
     |ok y S7=>
      rw[hte] at eq
      simp only[R.nox,R.bind] at eq
      intro v w7 x7 e7 s7 r7
      subst e7
      have m7:w7.mu[n]? =some L:=x7.mu _ _ (x46.mu _ _ (x4.mu _ _ m3))
      split at eq
      ·rename_i acc hacc
       split at eq
       ·rename_i hz7
        obtain⟨us,hL7,ra7⟩:=s7.obj n _ L hacc m7
        have lu:us.length=acc.length:=ra7.length
        refine⟨us,hL7,by omega,?_⟩
        obtain⟨x8,s8⟩:=set_obj (ob':= .lst (acc++ [y])) (o:= .lst (us++ [v])) s7 hacc trivial m7 fun w' x e=>⟨_,e,RepL.mono x _ _ (ra7.append (RepL.one r7))⟩
        exact⟨_,rfl,s8,WX'.trans (WX'.trans x16 x7) x8,m7,by omega,eq⟩
       ·cases eq
      ·cases eq
     |exc ee S7=>rw[hte] at eq;cases eq
     |bad=>rw[hte] at eq;cases eq
   |exc ee S6=>rw[ht] at eq;cases eq
   |bad=>rw[ht] at eq;cases eq
  |ret _ _=>rw[hg] at eq;cases eq
  |brk _ _=>rw[hg] at eq;cases eq
  |ct _ _=>rw[hg] at eq;cases eq
  |exc _ _ _=>rw[hg] at eq;cases eq
  |bad=>rw[hg] at eq;cases eq
 ·have ei:i=xs.length:=by omega
  subst ei
  refine .inl ⟨io.stop [] w3 tok0 x3 s3,?_⟩
  rw[List.drop_length] at eq
  simp only[lcN,R.ok.injEq] at eq
  obtain⟨rfl,rfl⟩:=eq
  exact p1 (.ref L) w3 x3 rfl s3 (by simp only[Rep];exact⟨L,m3,rfl⟩)
theorem q_setLcN {i:Nat} {y:Str} {py:Pos} {elt tg iter:Expr} {ifs:List Expr} {scope:Scope} {own:List (Str × Nat)} {spos:Pos} {mi:ID} {g:GD} {mt:TD} {me:ED} (hc:X.calm=true) (hN:X.N.Nodup) (hy:X.N[i]? =some y) (hyl:X.env.scope.names.lookup y=some .local)
 (hsw:swapsWith (.ListComp elt [⟨tg,iter,ifs,0⟩] scope pos) (some (.Name y py)) spos.line X.env=pure true) (hi:PI X tg iter (tI G mi Wx)) (ok:BlkOk X.N X.env.scope scope own)
 (hg:∀(s:Shared) (H:Hp) (C:Addr) (cl:List (Str × Addr)) (fp:List Addr),PG (X.blk s H scope (compEnvC scope cl C X.env) fp) tg (tGW G g (own.map (·.2))))
 (ht:∀(s:Shared) (H:Hp) (C:Addr) (cl:List (Str × Addr)) (fp:List Addr),PTs (X.blk s H scope (compEnvC scope cl C X.env) fp) ifs (tT G mt WF))
 (he:∀(s:Shared) (H:Hp) (C:Addr) (cl:List (Str × Addr)) (fp:List Addr),PE (X.blk s H scope (compEnvC scope cl C X.env) fp) elt (tE G me WF)) (hs:∀x,foldedSetIterable iter X.env x=pure x:=by intro _;rfl):
 PS X (.Assign [.Name y py] (.ListComp elt [⟨tg,iter,ifs,0⟩] scope pos) spos) (tS G (sAsg (eLcN mi (own.map (·.2)) g mt me) (gName i)) Wx):=psI (ps_setLc hc hN hy hyl hsw hi ok hg ht he hs) fun D σ H q=>by
 obtain⟨w,env,rfl,sr,er,p⟩:=q
 refine imp_lcN (Wx:=Wx) σ w.H _ ⟨w,env,rfl,sr,er,(PostS.ofR (Ra:=Rep G) er p).mono (fun x H1 m=> ?_) fun _ _ _ h=>h⟩
 obtain⟨w1,d1,rfl,x1,s1,rp1,p1⟩:=m
 exact p1 _ w1 (.refl w1) rfl s1 ((er.mono x1).set i rp1)
end
end L3
namespace L3
open PySem L2
def listO:FN:=fun xs S=>match xs with
 | [.tup l] => .ok (.obj S.length) (S++ [.lst l])
 | [x] =>match asL x S with
   |some l=> .ok (.obj S.length) (S++ [.lst l])
   |none=> .bad
 | _=> .bad
theorem c_listO:CalmN listO:=fun xs S=>by unfold listO;repeat' split
                                          all_goals trivial
section
variable {G:GC} {X:Cx}
theorem o_listO (hK:X.K=G.K):CallR X (.type "list") (rN G listO):=by
 refine caI2 call_list_of fun xs H Q q=> ?_
 obtain⟨w,ds,rfl,sr,rl,p⟩:=q
 unfold listO at p
 split at p
 ·simp only[RepL,Rep] at rl
  obtain⟨v,r',rfl,⟨a,vs,rfl,h1,r2⟩,rfl⟩:=rl
  exact⟨a,vs,rfl, .inr (by rw[hK];exact SqT_of h1),fun p' hp'=>new_lobj sr r2 p p' hp'⟩
 ·split at p
  ·rename_i l hl
   simp only[RepL] at rl
   obtain⟨v,r',rfl,r1,rfl⟩:=rl
   obtain⟨a,vs,rfl,h1,r2⟩:=asL_rep sr r1 hl
   exact⟨a,vs,rfl, .inl (SqL.of h1),fun p' hp'=>new_lobj sr r2 p p' hp'⟩
  ·exact p.elim
 ·exact p.elim
end
end L3
namespace L3.BS
open PySem PySem.Spec PyProof.Rows L2
def Mk (m:Nat):Prop:=m=7∨m=31∨m=127∨m=511∨m=2047
def geo:Nat→Nat
 |0=>0
 |b+1=>5*geo b+1
theorem geo_pow:∀b,4*geo b+1=5 ^ b
 |0=>rfl
 |b+1=>by
  have h:=geo_pow b
  rw[Nat.pow_succ,←h]
  show 4*(5*geo b+1)+1=_
  omega
theorem geo_eq (b:Nat):geo b=(5 ^ b-1) / 4:=by
 have h:=geo_pow b
 omega
theorem lcg_geo (m:Nat):∀b,lcgN m b=geo b % (m+1)
 |0=>(Nat.zero_mod _).symm
 |b+1=>by
  have h:=lcg_geo m b
  have e:lcgN m (b+1)=(lcgN m b*5+1) % (m+1):=rfl
  rw[e,h,Nat.add_mod,Nat.mul_mod,Nat.mod_mod,←Nat.mul_mod,←Nat.add_mod]
  show(geo b*5+1) % (m+1)=(5*geo b+1) % (m+1)
  rw[Nat.mul_comm]
def bitsS (g:Nat→Nat):Nat→Nat→Nat
 |lo,0=>1 <<< g lo
 |lo,k+1=>bitsS g lo k ||| bitsS g (lo+2 ^ k) k
theorem bitsS_some (g:Nat→Nat) {j:Nat} :∀(k lo:Nat),(bitsS g lo k).testBit j=true→∃b,lo≤b∧b<lo+2 ^ k∧g b=j
 |0,lo,h=>by
  have h':(1 <<< g lo).testBit j=true:=h
  rw[Nat.testBit_shiftLeft,Bool.and_eq_true,decide_eq_true_eq] at h'
  have h2:(1:Nat).testBit (j-g lo)=true:=h'.2
  have h1:j ≥ g lo:=h'.1
  have h3:j-g lo=0:=by
   rw[Nat.testBit_one_eq_true_iff_self_eq_zero] at h2
   exact h2
  exact⟨lo,Nat.le_refl _,by show lo<lo+1;omega,by omega⟩
 |k+1,lo,h=>by
  have h':(bitsS g lo k ||| bitsS g (lo+2 ^ k) k).testBit j=true:=h
  rw[Nat.testBit_or,Bool.or_eq_true] at h'
  have hp:2 ^ (k+1)=2 ^ k+2 ^ k:=by rw[Nat.pow_succ];omega
  rcases h' with z|z
  ·obtain⟨b,b1,b2,b3⟩:=bitsS_some g k lo z
   exact⟨b,b1,by omega,b3⟩
  ·obtain⟨b,b1,b2,b3⟩:=bitsS_some g k (lo+2 ^ k) z
   exact⟨b,by omega,by omega,b3⟩
def rnd (m b:Nat):Nat:=(5 ^ b-1) / 4 % (m+1)
theorem lcg_rnd (m b:Nat):lcgN m b=rnd m b:=by rw[lcg_geo,geo_eq];rfl
def wholeAt (m k:Nat):Bool:=bitsS (rnd m) 0 k==2 ^ (m+1)-1&&rnd m (m+1)==0&&m+1==2 ^ k
theorem w7:wholeAt 7 3=true:=by decide +kernel
theorem w31:wholeAt 31 5=true:=by decide +kernel
theorem w127:wholeAt 127 7=true:=by decide +kernel
theorem w511:wholeAt 511 9=true:=by decide +kernel
theorem w2047:wholeAt 2047 11=true:=by decide +kernel
theorem whole_of {m:Nat} (h:Mk m):∃k,wholeAt m k=true:=by
 rcases h with rfl|rfl|rfl|rfl|rfl
 ·exact⟨_,w7⟩
 ·exact⟨_,w31⟩
 ·exact⟨_,w127⟩
 ·exact⟨_,w511⟩
 ·exact⟨_,w2047⟩
theorem Mk.odd {m:Nat} (h:Mk m):m % 2=1:=by
 rcases h with rfl|rfl|rfl|rfl|rfl<;>rfl
theorem Mk.le {m:Nat} (h:Mk m):m≤2047:=by
 unfold Mk at h
 omega
theorem round_all {m:Nat} (h:Mk m):(∀ j,j≤m→∃b,b≤m∧lcgN m b=j)∧lcgN m (m+1)=0:=by
 obtain⟨k,hw⟩:=whole_of h
 unfold wholeAt at hw
 rw[Bool.and_eq_true,Bool.and_eq_true,beq_iff_eq,beq_iff_eq,beq_iff_eq] at hw
 obtain⟨⟨h1,h2⟩,h3⟩:=hw
 refine⟨fun j hj=> ?_,by rw[lcg_rnd];exact h2⟩
 have hb:(bitsS (rnd m) 0 k).testBit j=true:=by
  rw[h1,Nat.testBit_two_pow_sub_one]
  exact decide_eq_true (by omega)
 obtain⟨b,_,b2,b3⟩:=bitsS_some _ k 0 hb
 exact⟨b,by omega,by rw[lcg_rnd];exact b3⟩
theorem round_back {m:Nat} (h:Mk m):∀n,lcgN m (n+(m+1))=lcgN m n
 |0=>by rw[Nat.zero_add];exact(round_all h).2
 |n+1=>by
  have ih:=round_back h n
  have e:n+1+(m+1)=n+(m+1)+1:=by omega
  rw[e]
  have e1:∀z,lcgN m (z+1)=(lcgN m z*5+1) % (m+1):=fun _=>rfl
  rw[e1,e1,ih]
theorem meets {m:Nat} (hm:Mk m) (h:Int) {j:Nat} (hj:j≤m):∃n,n≤m+12∧runI m (SetTable.bits h) n=j:=by
 obtain⟨all,_⟩:=round_all hm
 obtain⟨a,a1,a2⟩:=all _ (runI_le m (SetTable.bits h) 12)
 obtain⟨b,b1,b2⟩:=all j hj
 have step:∀k,runI m (SetTable.bits h) (12+k)=lcgN m (a+k):=fun k=>by
  rw[runI_tail (bits_lt h),←a2,lcgN_add]
 by_cases c:a≤b
 ·refine⟨12+(b-a),by omega,?_⟩
  rw[step]
  have e:a+(b-a)=b:=by omega
  rw[e,b2]
 ·refine⟨12+(b+(m+1)-a),by omega,?_⟩
  rw[step]
  have e:a+(b+(m+1)-a)=b+(m+1):=by omega
  rw[e,round_back hm,b2]
theorem meets_way {m:Nat} (hm:Mk m) (h:Int) {j:Nat} (hj:j≤m):∃k,k<10*SetTable.turns m∧way m h k=j:=by
 obtain⟨n,n1,n2⟩:=meets hm h hj
 obtain⟨k,k1,k2⟩:=run_nth m (SetTable.bits h) n
 refine⟨k,?_,by unfold way;rw[k2];exact n2⟩
 have:SetTable.turns m ≥ m+13:=by unfold SetTable.turns;omega
 omega
theorem way_in {m:Nat} (h:Int) (k:Nat):way m h k≤m:=by
 have b:=nth_in (m:=m) k (runAt m (SetTable.bits h % (m+1)) (SetTable.bits h)) (by
  have hi:SetTable.bits h % (m+1)<m+1:=Nat.mod_lt _ (Nat.succ_pos m)
  have r:=runEnd_bd (m:=m) (i:=SetTable.bits h % (m+1)) (by omega)
  unfold runAt
  dsimp only
  omega)
 unfold way
 omega
structure Tab (t:SetTable) (hs:List Int):Prop where
 ris:Ris t.place.toList
 dm:t.dummies= #[]
 sz:t.place.size=hs.length
 mok:Mk t.mask
 bd:∀x ∈ t.place.toList,x≤t.mask
 reach:∀(i:Nat) (h:Int) (j:Nat),hs[i]? =some h→t.place.toList[i]? =some j→∃k,way t.mask h k=j∧∀k',k'<k→way t.mask h k' ∈ t.place.toList
section
variable {t:SetTable} {hs:List Int}
theorem Tab.len (T:Tab t hs):t.place.toList.length=hs.length:=T.sz
theorem Tab.first (T:Tab t hs) (hl:hs.length≤t.mask) (h:Int):∃K,K<10*SetTable.turns t.mask∧way t.mask h K ∉ t.place.toList∧∀k,k<K→way t.mask h k ∈ t.place.toList:=by
 obtain⟨j,j1,j2⟩:=st_missing t.place.toList (t.mask+1) (by rw[T.len];omega)
 obtain⟨k0,c1,c2⟩:=meets_way T.mok h (show j≤t.mask by omega)
 obtain⟨K,d1,d2,d3⟩:=st_least (p:=fun k=>¬way t.mask h k ∈ t.place.toList) k0 (by rw[c2];exact j2)
 exact⟨K,by omega,d2,fun k hk=>Classical.not_not.mp (d3 k hk)⟩
theorem Tab.before (T:Tab t hs) {h:Int} {K i j:Nat} (hK:way t.mask h K ∉ t.place.toList) (hi:hs[i]? =some h) (hj:t.place.toList[i]? =some j):∃k,k<K∧way t.mask h k=j:=by
 obtain⟨k,e1,e2⟩:=T.reach i h j hi hj
 have hm:j ∈ t.place.toList:=List.mem_of_getElem? hj
 have ne:k≠K:=fun z=>hK (by rw[← z,e1];exact hm)
 have nl: ¬K<k:=fun z=>hK (e2 K z)
 exact⟨k,by omega,e1⟩
theorem Tab.put (T:Tab t hs) {h:Int} {K:Nat} (hK:way t.mask h K ∉ t.place.toList) (hb:∀k,k<K→way t.mask h k ∈ t.place.toList):
 ∃p,(t.put (way t.mask h K)).2=p∧SetTable.below t.place (way t.mask h K)=p∧p≤hs.length∧Tab (t.put (way t.mask h K)).1 (hs.take p++h::hs.drop p)∧(t.put (way t.mask h K)).1.fill=hs.length+1:=by
 generalize hj:way t.mask h K=j at hK ⊢
 have cut:=(below_cut T.ris j).1
 generalize hp:SetTable.below t.place j=p at cut
 have cut':p≤t.place.toList.length:=cut
 have cuth:p≤hs.length:=by rw[T.len] at cut';exact cut'
 have ePl:(t.put j).1.place.toList=t.place.toList.take p++j::t.place.toList.drop p:=by rw[put_place,hp]
 have eSz:(t.put j).1.place.size=hs.length+1:=by
  have q:=congrArg List.length ePl
  rw[len_ins _ cut',T.len] at q
  exact q
 have keepIn:∀x,x ∈ t.place.toList→x ∈ (t.put j).1.place.toList:=fun x hx=>by rw[ePl];exact mem_ins.mpr (.inr hx)
 have free:t.place[p]? ≠some j:=fun z=>hK (by
  rw[← Array.getElem?_toList] at z
  exact List.mem_of_getElem? z)
 refine⟨p,hp,rfl,cuth,?_,by show(t.put j).1.place.size+(t.put j).1.dummies.size=_;rw[eSz,put_dm T.dm];rfl⟩
 refine { ris:= ?_,dm:=put_dm T.dm j,sz:=by rw[eSz,len_ins _ cuth],mok:=T.mok,bd:=fun x hx=> ?_,reach:=fun i h' j' q1 q2=> ?_ }
 ·have r:=ris_insert T.ris (j:=j) (by rw[hp];exact free)
  exact r
 ·rw[ePl,mem_ins] at hx
  rcases hx with rfl|hx
  ·show _≤t.mask
   rw[← hj];exact way_in h K
  ·exact T.bd x hx
 ·rw[ePl,tins_get _ cut'] at q2
  rw[tins_get _ cuth] at q1
  have old:∀i0,hs[i0]? =some h'→t.place.toList[i0]? =some j'→∃k,way t.mask h' k=j'∧∀k',k'<k→way t.mask h' k' ∈ (t.put j).1.place.toList:=fun i0 z1 z2=>by
   obtain⟨k,y1,y2⟩:=T.reach i0 h' j' z1 z2
   exact⟨k,y1,fun k' hk=>keepIn _ (y2 k' hk)⟩
  by_cases c1:i<p
  ·rw[if_pos c1] at q1 q2
   exact old i q1 q2
  ·by_cases c2:i=p
   ·rw[if_neg c1,if_pos c2] at q1 q2
    cases q1
    cases q2
    exact⟨K,hj,fun k' hk=>keepIn _ (hb k' hk)⟩
   ·rw[if_neg c1,if_neg c2] at q1 q2
    exact old (i-1) q1 q2
theorem Tab.putAll (T:Tab t hs) {h:Int} {K:Nat} (hK:way t.mask h K ∉ t.place.toList) (hb:∀k,k<K→way t.mask h k ∈ t.place.toList) {j p:Nat} (hj:way t.mask h K=j) (hp:SetTable.below t.place j=p):
 (t.put j).2=p∧p≤hs.length∧Tab (t.put j).1 (hs.take p++h::hs.drop p)∧(t.put j).1.mask=t.mask∧(t.put j).1.led=t.led∧(t.put j).1.fill=hs.length+1:=by
 obtain⟨p',q1,q2,q3,q4,q5⟩:=T.put hK hb
 rw[hj] at q1 q2 q4 q5
 obtain rfl:p'=p:=q2.symm.trans hp
 exact⟨q1,q3,q4,rfl,rfl,q5⟩
end
theorem free_at {m:Nat} (hm:Mk m) (own:Array (Option Nat)) (h:Int) {j:Nat} (hj:j≤m) (hf:oAt own j=none):
 ∃K,SetTable.layClean.free m own (SetTable.turns m) (SetTable.bits h % (m+1)) (SetTable.bits h)=some (way m h K)∧oAt own (way m h K)=none∧∀k,k<K→∃x,oAt own (way m h k)=some x:=by
 obtain⟨n,n1,n2⟩:=meets hm h hj
 generalize hN:off m (SetTable.bits h % (m+1)) (SetTable.bits h) n=N
 have eN:way m h N=j:=by
  unfold way
  rw[← hN,nth_off,itL_run]
  exact n2
 obtain⟨K,k1,k2,k3⟩:=st_least (p:=fun k=>oAt own (way m h k)=none) N (by rw[eN];exact hf)
 have occ:∀k,k<K→∃x,oAt own (way m h k)=some x:=fun k hk=>by
  cases e:oAt own (way m h k) with
  |some x=>exact⟨x,rfl⟩
  |none=>exact(k3 k hk e).elim
 have tb:SetTable.turns m ≥ m+13:=by unfold SetTable.turns;omega
 refine⟨K,free_spec m own _ n _ _ K (by omega) (by rw[hN];exact k1) (fun k hk=> ?_) (by rw[show oAt own _=none from k2];rfl),k2,occ⟩
 obtain⟨x,hx⟩:=occ k hk
 rw[show oAt own (nth m (runAt m (SetTable.bits h % (m+1)) (SetTable.bits h)) k).j=some x from hx]
 rfl
theorem own_more {m:Nat} (hm:Mk m) {done:List Int} {own:Array (Option Nat)} (W:Own m done own) (hl:done.length≤m) (h:Int):
 ∃j,SetTable.layClean.free m own (SetTable.turns m) (SetTable.bits h % (m+1)) (SetTable.bits h)=some j∧Own m (done++ [h]) (own.setIfInBounds j (some done.length)):=by
 obtain⟨ps,ps1,ps2⟩:=W.ps
 obtain⟨j0,j1,j2⟩:=st_missing ps (m+1) (by omega)
 have e0:oAt own j0=none:=Classical.byContradiction fun z=>j2 (ps2 j0 (by omega) z)
 obtain⟨K,f1,f2,f3⟩:=free_at hm own h (show j0≤m by omega) e0
 generalize hj:way m h K=j at f1 f2
 have hjm:j≤m:=hj▸way_in h K
 have at_j:oAt (own.setIfInBounds j (some done.length)) j=some done.length:=oAt_set_self _ (by rw[W.sz];omega)
 have at_o:∀i,i≠j→oAt (own.setIfInBounds j (some done.length)) i=oAt own i:=fun i hi=>oAt_set_ne _ hi
 have full:∀i,oAt own i≠none→oAt (own.setIfInBounds j (some done.length)) i≠none:=fun i hi=>by
  by_cases c:i=j
  ·subst c;exact absurd f2 hi
  ·rw[at_o i c];exact hi
 refine⟨j,f1,{ sz:=by simpa using W.sz,at_:=fun i k hi e=> ?_,all:=fun k hk=> ?_,ps:=⟨j::ps,by simp[ps1],fun i hi e=> ?_⟩ }⟩
 ·by_cases c:i=j
  ·subst c
   rw[at_j] at e
   cases e
   exact⟨h,K,by simp,hj,fun k' hk'=>full _ (by obtain⟨x,hx⟩:=f3 k' hk';rw[hx];simp)⟩
  ·rw[at_o i c] at e
   obtain⟨h',K',q1,q2,q3⟩:=W.at_ i k hi e
   have lt:=(List.getElem?_eq_some_iff.mp q1).1
   exact⟨h',K',by rw[List.getElem?_append_left lt];exact q1,q2,fun k' hk'=>full _ (q3 k' hk')⟩
 ·rw[List.length_append] at hk
  by_cases c:k=done.length
  ·exact⟨j,hjm,by rw[at_j,c]⟩
  ·obtain⟨i,i1,i2⟩:=W.all k (by simp at hk;omega)
   refine⟨i,i1,?_⟩
   rw[at_o i (fun z=>by rw[z,f2] at i2;cases i2)]
   exact i2
 ·by_cases c:i=j
  ·rw[c];exact List.mem_cons_self
  ·rw[at_o i c] at e
   exact List.mem_cons_of_mem _ (ps2 i hi e)
theorem own_fold {m:Nat} (hm:Mk m):∀(more done:List Int) (own:Array (Option Nat)),Own m done own→done.length+more.length≤m→∃own',more.foldl (stepF m) (some (own,done.length))=some (own',done.length+more.length)∧Own m (done++more) own'
 | [],done,own,W,_=>⟨own,rfl,by rw[List.append_nil];exact W⟩
 |h::more,done,own,W,hl=>by
  have hl':done.length+(more.length+1)≤m:=hl
  obtain⟨j,e,W1⟩:=own_more hm W (by omega) h
  have e1:(done++ [h]).length=done.length+1:=by simp
  obtain⟨own',f,W2⟩:=own_fold hm more (done++ [h]) _ W1 (by omega)
  refine⟨own',?_,by simpa using W2⟩
  rw[List.foldl_cons,stepF_some e,←e1,f,e1]
  simp
  omega
theorem relay (t:SetTable) {hs:Array Int} {wanted M:Nat} (hw:SetTable.sizeAbove wanted-1=M) (hM:Mk M) (hn:hs.size≤M):
 ∃t' order,t.relaid hs wanted=some (t',order)∧order.toList.Perm (List.range hs.size)∧Tab t' (order.toList.map fun i=>hs.getD i 0)∧t'.mask=M∧t'.led=t.led:=by
 obtain⟨own,f,W⟩:=own_fold hM hs.toList [] _ (Own.init M) (by simpa using hn)
 have ec:SetTable.layClean M hs=some own:=by
  rw[layClean_eq]
  have f':hs.toList.foldl (stepF M) (some (Array.replicate (M+1) none,0))=some (own,0+hs.toList.length):=f
  rw[f']
  rfl
 have W':Own M hs.toList own:=W
 have hr:=relaid_eq t hs wanted
 rw[hw,ec] at hr
 obtain⟨r1,r2⟩:=ris_live (fun j=>own.getD j none) (List.range (M+1)) (List.pairwise_lt_range)
 have r1':Ris ((liveOf M own).map (·.1)):=r1
 have uniq:((liveOf M own).map (·.1)).Nodup:=r1'.imp Nat.ne_of_lt
 have hl:(liveOf M own).length=hs.size:=by
  obtain⟨ps,p1,p2⟩:=W'.ps
  have up:=nat_nodup_len _ ps uniq fun x hx=>by
   obtain⟨⟨y,k⟩,hq,rfl⟩:=List.mem_map.mp hx
   obtain⟨b1,b2⟩:=(mem_live W'.sz).mp hq
   exact p2 y b1 (by rw[b2];simp)
  have dn:=nat_nodup_len (List.range hs.size) ((liveOf M own).map (·.2)) List.nodup_range fun k hk=>by
   obtain⟨i,b1,b2⟩:=W'.all k (by simpa using hk)
   exact List.mem_map.mpr ⟨_,(mem_live W'.sz).mpr ⟨b1,b2⟩,rfl⟩
  simp only[List.length_map,List.length_range] at up dn
  have p1':ps.length=hs.size:=p1
  omega
 refine⟨_,_,hr,?_,?_,rfl,rfl⟩
 ·refine perm_range hs.size _ (by simpa using hl) fun k hk=> ?_
  obtain⟨i,b1,b2⟩:=W'.all k (by simpa using hk)
  exact List.mem_map.mpr ⟨_,(mem_live W'.sz).mpr ⟨b1,b2⟩,rfl⟩
 ·refine { ris:=r1',dm:=rfl,sz:=by simp[tabOf],mok:=hM,bd:=fun x hx=>by have:=List.mem_range.mp (r2 x hx);show x≤M;omega,reach:=fun i h j q1 q2=> ?_ }
  have q1':(((liveOf M own).map (·.2)).map fun i=>hs.getD i 0)[i]? =some h:=q1
  have q2':((liveOf M own).map (·.1))[i]? =some j:=q2
  rw[List.getElem?_map,Option.map_eq_some_iff] at q2'
  obtain⟨⟨y,k⟩,z1,rfl⟩:=q2'
  rw[List.getElem?_map,List.getElem?_map,z1] at q1'
  have q1'':hs.getD k 0=h:=Option.some.inj q1'
  obtain⟨b1,b2⟩:=(mem_live W'.sz).mp (List.mem_of_getElem? z1)
  obtain⟨h0,K,a1,a2,a3⟩:=W'.at_ y k b1 b2
  have e0:hs.getD k 0=h0:=by
   rw[Array.getD_eq_getD_getElem?,←Array.getElem?_toList,a1]
   rfl
  obtain rfl:h0=h:=e0.symm.trans q1''
  refine⟨K,a2,fun k' hk'=> ?_⟩
  cases z:oAt own (way M h0 k') with
  |none=>exact(a3 k' hk' z).elim
  |some k2=>exact List.mem_map.mpr ⟨(way M h0 k',k2),(mem_live W'.sz).mpr ⟨way_in h0 k',z⟩,rfl⟩
theorem grow5:SetTable.sizeAbove (SetTable.grown 5)=32:=by decide +kernel
theorem grow19:SetTable.sizeAbove (SetTable.grown 19)=128:=by decide +kernel
theorem grow77:SetTable.sizeAbove (SetTable.grown 77)=512:=by decide +kernel
theorem grow307:SetTable.sizeAbove (SetTable.grown 307)=2048:=by decide +kernel
theorem grows {m n:Nat} (hm:Mk m) (h:n*5<m*3) (h2:(n+1)*5 ≥ m*3) (hn:n<1200):∃M,SetTable.sizeAbove (SetTable.grown (n+1))=M+1∧Mk M∧(n+1)*5<M*3:=by
 rcases hm with rfl|rfl|rfl|rfl|rfl
 ·obtain rfl:n=4:=by omega
  exact⟨31,grow5, .inr (.inl rfl),by omega⟩
 ·obtain rfl:n=18:=by omega
  exact⟨127,grow19, .inr (.inr (.inl rfl)),by omega⟩
 ·obtain rfl:n=76:=by omega
  exact⟨511,grow77, .inr (.inr (.inr (.inl rfl))),by omega⟩
 ·obtain rfl:n=306:=by omega
  exact⟨2047,grow307, .inr (.inr (.inr (.inr rfl))),by omega⟩
 ·omega
end L3.BS
namespace L3
open PySem PySem.Spec PyProof.Rows L2
section
variable {P:Program} {w:World} {K:Type} [DecidableEq K]
structure SetQ (knd:HeapKind P w K):Prop where
 cls:∀ {A:Around} {E:Value→Shared→Prop} {s:Shared} {k:K} {a:Addr} {Q:Bool→Shared→Prop},knd.is s.heap k a→Q false s→wpAny (model P w) A (ofAClassStatement 8 (.ref a)) Q E s
 byv:∀ {A:Around} {E:Value→Shared→Prop} {s:Shared} {k:K} {a:Addr} {Q:Bool→Shared→Prop},knd.is s.heap k a→(∀ b,Q b s)→wpAny (model P w) A (hashByValue 8 (.ref a)) Q E s
 stay:∀ {h h':Heap} {k:K} {a d:Addr} {o:Obj} {es:Array (Int × Value)} {ep:Nat} {t:SetTable},knd.is h k a→h.get? d=some o→o.data= .set es ep t→Heap.SameBut d h h'→knd.is h' k a
 mono:∀ {h h':Heap} {k:K} {a:Addr},knd.is h k a→(∀ b o,h.get? b=some o→h'.get? b=some o)→knd.is h' k a
variable {knd:HeapKind P w K} {A:Around} {E:Value→Shared→Prop} {s:Shared}
theorem seenH (q:SetQ knd) {k:K} {b:Addr} {Q:Bool→Shared→Prop} (hk:knd.is s.heap k b) {ys:List Value} (hy:∀y ∈ ys,∃k' c,y=Value.ref c∧knd.is s.heap k' c) (h:Q false s):
 wpAny (model P w) A (searchCouldBeSeen (.ref b) ys) Q E s:=by
 unfold searchCouldBeSeen
 refine wpAny_bind ?_
 refine wpAny_forIn_list _ (fun rest r s'=>r.1=none∧s'=s∧∀y ∈ rest,∃k' c,y=Value.ref c∧knd.is s.heap k' c) _ ?_ ?_ _ _ ⟨rfl,rfl,hy⟩
 ·rintro v rest r s' ⟨hr,rfl,hall⟩
  obtain⟨k',c,rfl,hc⟩:=hall v List.mem_cons_self
  have back:∀y ∈ rest,∃k' c,y=Value.ref c∧knd.is s'.heap k' c:=fun u hu=>hall u (List.mem_cons_of_mem _ hu)
  dsimp only
  by_cases hv:(b==c || (carriedByValue (.ref b)&&carriedByValue (.ref c)))=true
  ·refine wp_if_pos hv ?_
   exact wpAny_pure ⟨rfl,rfl,back⟩
  ·refine wp_if_neg hv ?_
   refine wpAny_bind (knd.quiet hk ?_)
   simp only[Bool.not_true,Bool.false_eq_true,if_false]
   refine wpAny_bind (knd.quiet hc ?_)
   simp only[Bool.not_true,Bool.false_eq_true,if_false]
   refine wpAny_bind (q.cls hk ?_)
   simp only[Bool.false_eq_true,if_false]
   refine wpAny_bind (q.cls hc ?_)
   simp only[Bool.false_eq_true,if_false]
   exact wpAny_pure ⟨rfl,rfl,back⟩
 ·rintro⟨r1,r2⟩ s' ⟨hr,rfl,_⟩
  simp only at hr
  subst hr
  exact wpAny_pure h
def rowsH (knd:HeapKind P w K) (L:List (Addr × K)):List (Int × Value):=L.map fun p=>(knd.hash p.2,Value.ref p.1)
structure SetH (knd:HeapKind P w K) (h:Heap) (a:Addr) (L:List (Addr × K)) (es:Array (Int × Value)) (ep:Nat) (t:SetTable):Prop where
 ob:∃o,h.get? a=some o∧o.ExactSet∧o.data= .set es ep t
 rows:es.toList=rowsH knd L
 tab:BS.Tab t (L.map fun p=>knd.hash p.2)
 nd:(L.map (·.2)).Nodup
 mem:∀p ∈ L,knd.is h p.2 p.1
 led:w.params.followText "set-order" =true∨t.led=true
 room:L.length*5<t.mask*3
 few:L.length<1200
variable {a:Addr} {L:List (Addr × K)} {es:Array (Int × Value)} {ep:Nat} {t:SetTable}
theorem rowsH_len (hr:es.toList=rowsH knd L):es.size=L.length:=by
 have h:=congrArg List.length hr
 rw[rowsH,Array.length_toList,List.length_map] at h
 exact h
theorem rowsH_at (hr:es.toList=rowsH knd L) {i:Nat} {p:Addr × K} (h:L[i]? =some p):es[i]? =some (knd.hash p.2,Value.ref p.1):=by
 rw[← Array.getElem?_toList,hr,rowsH,List.getElem?_map,h] <;>rfl
theorem fits_of (h1:t.place.size=es.size) (h2:t.dummies= #[]) (h3:es.size≤t.mask):t.fits es.size=true:=by
 unfold SetTable.fits SetTable.fill
 rw[h2,Bool.and_eq_true,beq_iff_eq,decide_eq_true_eq]
 show t.place.size=es.size∧t.place.size+0≤t.mask
 omega
theorem SetH.size (R:SetH knd s.heap a L es ep t):es.size=L.length:=rowsH_len R.rows
theorem SetH.fits (R:SetH knd s.heap a L es ep t):t.fits es.size=true:=by
 have h1:=R.tab.sz
 rw[List.length_map] at h1
 have h2:=R.size
 have h3:=R.room
 exact fits_of (by omega) R.tab.dm (by omega)
theorem SetH.gw (R:SetH knd s.heap a L es ep t): ¬t.gaveWay=true:=by
 unfold SetTable.gaveWay
 rw[R.tab.mok.odd]
 decide
theorem no_dummy (m:Nat):∀(n:Nat) (p:SetTable.Probe),p.dummy=none→(nth m p n).dummy=none
 |0,_,h=>h
 |n+1,p,h=>no_dummy m n (adv m p) (by unfold adv;split<;>exact h)
theorem searchH (q:SetQ knd) (R:SetH knd s.heap a L es ep t) {x:Addr} {k:K} (hx:knd.is s.heap k x) (hu:knd.room A) {N:Nat} (hNf:N<10*SetTable.turns t.mask)
 (hN:way t.mask (knd.hash k) N ∉ t.place.toList) (hNb:∀c,c<N→way t.mask (knd.hash k) c ∈ t.place.toList) {Q:SetFound→Shared→Prop}
 (hin:k ∈ L.map (·.2)→Q (.there none) s) (hout:k ∉ L.map (·.2)→Q (.free (way t.mask (knd.hash k) N) false) s):
 ∀(f c:Nat) (stand:Option SetTable.Probe),stand.getD (t.probeStart (knd.hash k))=nth t.mask (runAt t.mask (SetTable.bits (knd.hash k) % (t.mask+1)) (SetTable.bits (knd.hash k))) c→c≤N→N-c<f→
  (∀ (i:Nat) p,L[i]? =some p→p.2=k→∃c',c≤c'∧c'<N∧t.place.toList[i]? =some (way t.mask (knd.hash k) c'))→
  wpAny (model P w) A (setSearchFrom a (.ref x) (knd.hash k) true f stand) Q E s
 |0,c,stand,_,_,hf,_=>absurd hf (Nat.not_lt_zero _)
 |f+1,c,stand,hst,hc,hf,hre=>by
  obtain⟨o,ho,hex,hd⟩:=R.ob
  rw[setSearchFrom_succ]
  refine wpAny_bind (wpAny_setState_of ho hd R.fits ?_)
  dsimp only
  refine wp_if_neg R.gw ?_
  try refine wpAny_bind (wpAny_pure ?_)
  generalize hB:runAt t.mask (SetTable.bits (knd.hash k) % (t.mask+1)) (SetTable.bits (knd.hash k))=B at hst
  have eW:∀c,way t.mask (knd.hash k) c=(nth t.mask B c).j:=fun c=>by rw[← hB]
  have hnd:(nth t.mask B c).dummy=none:=no_dummy _ _ _ (by rw[← hB];rfl)
  have sh:∀z,nth t.mask (nth t.mask B c) z=nth t.mask B (c+z):=fun z=>(nth_add t.mask c _ z).symm
  have e1:∀z,(nth t.mask (nth t.mask B c) z).j=way t.mask (knd.hash k) (c+z):=fun z=>by rw[sh,eW]
  have spec:=go_spec t R.tab.ris R.tab.dm (fun i=>(es[i]?.map (·.1)).getD 0) (knd.hash k) (10*SetTable.turns t.mask) (N-c) _ hnd (by omega)
   (fun z hz=>by rw[e1];exact hNb (c+z) (by omega)) (by rw[e1,show c+(N-c)=N by omega];exact hN)
  have hashAt:∀(i:Nat) p,L[i]? =some p→(fun i=>(es[i]?.map (·.1)).getD 0) i=knd.hash p.2:=fun i p hp=>by
   show(es[i]?.map (·.1)).getD 0=_
   rw[rowsH_at R.rows hp] <;>rfl
  rcases spec with⟨z,i,hz,hi,hh,hno,hpr⟩|⟨hno,hpr⟩
  ·have hpr':t.probe (fun i=>(es[i]?.map (·.1)).getD 0) (knd.hash k) (stand.getD (t.probeStart (knd.hash k)))=some (.candidate (way t.mask (knd.hash k) (c+z)) i (nth t.mask B (c+(z+1)))):=by
    rw[hst,←e1,←sh]
    exact hpr
   rw[hpr']
   dsimp only
   rw[e1] at hi
   have hil:i<L.length:=by
    have h1:i<t.place.toList.length:=(List.getElem?_eq_some_iff.mp hi).1
    have h2:=R.tab.sz
    rw[List.length_map] at h2
    rw[Array.length_toList] at h1
    omega
   have hp:L[i]? =some L[i] :=List.getElem?_eq_getElem hil
   generalize hpe:L[i] =p at hp
   have hmem:p ∈ L:=List.mem_of_getElem? hp
   have hpt:=R.mem p hmem
   have rest:wpAny (model P w) A (searchRest a (.ref x) (knd.hash k) true f es t (way t.mask (knd.hash k) (c+z)) i (nth t.mask B (c+(z+1)))) Q E s:=by
    unfold searchRest
    rw[rowsH_at R.rows hp]
    dsimp only
    refine wpAny_bind (wpAny_holding (knd.eqBool hu hpt hx ?_))
    refine wpAny_bind (wpAny_setState_of ho hd R.fits ?_)
    dsimp only
    by_cases hkk:p.2=k
    ·refine wp_if_pos (by simp[hkk]) ?_
     exact wpAny_pure (hin (List.mem_map.mpr ⟨p,hmem,hkk⟩))
    ·refine wp_if_neg (by simp[hkk]) ?_
     try refine wpAny_bind (wpAny_pure ?_)
     rw[sameMem]
     dsimp only
     have hsl:t.slot (way t.mask (knd.hash k) (c+z))= .live i:=slot_live R.tab.ris hi
     simp only[if_true,hsl,rowsH_at R.rows hp]
     refine wpAny_bind (wpAny_isSame_ref_self (wpAny_bind (wpAny_pure ?_)))
     simp only[if_true]
     refine wp_if_neg (by simp[hkk]) ?_
     refine searchH q R hx hu hNf hN hNb hin hout f (c+(z+1)) _ (by rw[hB];rfl) (by omega) (by omega) fun i0 p0 h0 hk0=> ?_
     obtain⟨c',a1,a2,a3⟩:=hre i0 p0 h0 hk0
     refine⟨c',?_,a2,a3⟩
     rcases Nat.lt_or_ge c' (c+z) with y|y
     ·exfalso
      refine hno (c'-c) i0 (by omega) (by rw[e1,show c+(c'-c)=c' by omega];exact a3) ?_
      exact(hashAt i0 p0 h0).trans (congrArg knd.hash hk0)
     ·rcases Nat.lt_or_ge (c+z) c' with u|u
      ·omega
      ·exfalso
       have ec:c'=c+z:=Nat.le_antisymm u y
       rw[ec] at a3
       have s0:=slot_live R.tab.ris a3
       rw[hsl] at s0
       injection s0 with s0
       rw[← s0,hp] at h0
       exact hkk ((congrArg Prod.snd (Option.some.inj h0)).trans hk0)
   by_cases hl:t.led=true
   ·refine wp_if_neg (by simp[hl]) ?_
    try refine wpAny_bind (wpAny_pure ?_)
    exact rest
   ·refine wp_if_pos (by simp[hl]) ?_
    refine wpAny_bind (seenH q hx (fun y hy=> ?_) ?_)
    ·obtain⟨e,he,ee⟩:=List.mem_map.mp hy
     have he1:e ∈ es∧e.1=knd.hash k:=by simpa using he
     have he2:e ∈ es.toList:=by simpa using he1.1
     rw[R.rows] at he2
     obtain⟨p2,hp2,e2⟩:=List.mem_map.mp he2
     exact⟨p2.2,p2.1,by rw[← ee,←e2],R.mem p2 hp2⟩
    ·refine wp_if_neg (by decide) ?_
     try refine wpAny_bind (wpAny_pure ?_)
     exact rest
  ·have hpr':t.probe (fun i=>(es[i]?.map (·.1)).getD 0) (knd.hash k) (stand.getD (t.probeStart (knd.hash k)))=some (.empty (way t.mask (knd.hash k) N) none):=by
    have e2:way t.mask (knd.hash k) N=(nth t.mask (nth t.mask B c) (N-c)).j:=by rw[e1,show c+(N-c)=N by omega]
    rw[hst,e2]
    exact hpr
   rw[hpr']
   dsimp only
   refine wpAny_pure (hout fun hm=> ?_)
   obtain⟨p0,h0,hk0⟩:=List.mem_map.mp hm
   obtain⟨i0,hi0,e0⟩:=List.getElem_of_mem h0
   have h00:L[i0]? =some p0:=by rw[List.getElem?_eq_getElem hi0,e0]
   obtain⟨c',a1,a2,a3⟩:=hre i0 p0 h00 hk0
   refine hno (c'-c) i0 (by omega) (by rw[e1,show c+(c'-c)=c' by omega];exact a3) ?_
   exact(hashAt i0 p0 h00).trans (congrArg knd.hash hk0)
theorem search_all (q:SetQ knd) (R:SetH knd s.heap a L es ep t) {x:Addr} {k:K} (hx:knd.is s.heap k x) (hu:knd.room A) {Q:SetFound→Shared→Prop}
 (hin:k ∈ L.map (·.2)→Q (.there none) s)
 (hout:∀N,k ∉ L.map (·.2)→way t.mask (knd.hash k) N ∉ t.place.toList→(∀ c,c<N→way t.mask (knd.hash k) c ∈ t.place.toList)→Q (.free (way t.mask (knd.hash k) N) false) s):
 wpAny (model P w) A (setSearch a (.ref x) (knd.hash k) true) Q E s:=by
 have hroom:=R.room
 obtain⟨N,hNf,hN,hNb⟩:=R.tab.first (by rw[List.length_map];omega) (knd.hash k)
 have hbig:N<100000:=by
  have:10*SetTable.turns t.mask<100000:=by
   have:=R.tab.mok.le
   unfold SetTable.turns
   omega
  omega
 unfold setSearch
 refine searchH q R hx hu hNf hN hNb hin (fun hn=>hout N hn hN hNb) 100000 0 none rfl (Nat.zero_le _) (by omega) fun i p hp hk=> ?_
 have hi:(L.map fun p=>knd.hash p.2)[i]? =some (knd.hash k):=by rw[List.getElem?_map,hp,←hk] <;>rfl
 have hil:i<t.place.toList.length:=by
  have h1:i<L.length:=(List.getElem?_eq_some_iff.mp hp).1
  have h2:=R.tab.sz
  rw[List.length_map] at h2
  rw[Array.length_toList]
  omega
 have hj:=List.getElem?_eq_getElem hil
 obtain⟨c,hc,e⟩:=R.tab.before hN hi hj
 exact⟨c,Nat.zero_le _,hc,by rw[hj,e]⟩
theorem rowsH_order (order:Array Nat) (hr:es.toList=rowsH knd L) (hp:order.toList.Perm (List.range L.length)):
 ∃L2,(order.filterMap (es[·]?)).toList=rowsH knd L2∧L2.Perm L∧(L2.map fun p=>knd.hash p.2)=order.toList.map fun i=>(es.map (·.1)).getD i 0:=by
 have hsz:=rowsH_len hr
 have ent:∀i (h:i<L.length),es[i]? =some (knd.hash (L[i]).2,Value.ref (L[i]).1):=fun i h=>rowsH_at hr (List.getElem?_eq_getElem h)
 have key:∀l:List Nat,(∀ i ∈ l,i<L.length)→(l.filterMap fun i=>es[i]?)=rowsH knd (l.filterMap fun i=>L[i]?)∧((l.filterMap fun i=>L[i]?).map fun p=>knd.hash p.2)=l.map fun i=>(es.map (·.1)).getD i 0:=by
  intro l
  induction l with
  |nil=>intro _;exact⟨rfl,rfl⟩
  |cons i l ih=>
   intro hl
   have hi:=hl i List.mem_cons_self
   obtain⟨e1,e3⟩:=ih fun j hj=>hl j (List.mem_cons_of_mem _ hj)
   rw[List.filterMap_cons_some (ent i hi),List.filterMap_cons_some (List.getElem?_eq_getElem hi),e1]
   refine⟨rfl,?_⟩
   rw[List.map_cons,List.map_cons,e3]
   have e5:(es.map (·.1))[i]? =some (knd.hash (L[i]).2):=by rw[Array.getElem?_map,ent i hi] <;>rfl
   have e4:(es.map (·.1)).getD i 0=knd.hash (L[i]).2:=by simp[Array.getD_eq_getD_getElem?,e5]
   rw[e4]
 obtain⟨e1,e3⟩:=key order.toList fun i hi=>List.mem_range.mp (hp.mem_iff.mp hi)
 refine⟨_,by first|(rw[Array.toList_filterMap];exact e1)|simpa using e1,?_,e3⟩
 have h1:=hp.filterMap fun i=>L[i]?
 have h2:∀n,n≤L.length→(List.range n).filterMap (fun i=>L[i]?)=L.take n:=by
  intro n
  induction n with
  |zero=>intro _;rfl
  |succ n ih=>
   intro hn
   have hlt:n<L.length:=hn
   rw[List.range_succ,List.filterMap_append,ih (Nat.le_of_lt hlt),List.take_succ,List.getElem?_eq_getElem hlt]
   rw[List.filterMap_cons_some (List.getElem?_eq_getElem hlt)] <;>rfl
 rw[h2 L.length (Nat.le_refl _),List.take_length] at h1
 exact h1
theorem relayH (q:SetQ knd) {o:Obj} (ho:s.heap.get? a=some o) (hex:o.ExactSet) (hd:o.data= .set es ep t) (hrows:es.toList=rowsH knd L) (hsz:t.place.size=es.size) (hdm:t.dummies= #[]) (hfl:es.size≤t.mask)
 (nd:(L.map (·.2)).Nodup) (mem:∀p ∈ L,knd.is s.heap p.2 p.1) (ld:w.params.followText "set-order" =true∨t.led=true) (few:L.length<1200) {wanted M:Nat}
 (hw:SetTable.sizeAbove wanted-1=M) (hM:BS.Mk M) (hw2:SetTable.sizeAbove wanted≤2048) (hn:L.length*5<M*3) {Q:Unit→Shared→Prop}
 (hQ:∀h' L' es' ep' t',Heap.SameBut a s.heap h'→SetH knd h' a L' es' ep' t'→L'.Perm L→Q () { s with heap:=h' }):wpAny (model P w) A (setRelay a wanted) Q E s:=by
 have hsl:=rowsH_len hrows
 have hfits:=fits_of hsz hdm hfl
 obtain⟨t',order,e,hp,T,em,el⟩:=BS.relay t (hs:=es.map (·.1)) (wanted:=wanted) hw hM (by rw[Array.size_map,hsl];omega)
 rw[Array.size_map,hsl] at hp
 obtain⟨L2,r1,r2,r3⟩:=rowsH_order order hrows hp
 rw[← r3] at T
 have hs2:(order.filterMap (es[·]?)).size=es.size:=by rw[rowsH_len r1,r2.length_eq,hsl]
 rw[setRelay_eq]
 refine wpAny_bind (wpAny_setState_of ho hd hfits ?_)
 dsimp only
 refine wp_if_neg (by rw[sizeLine_eq];omega) ?_
 try refine wpAny_bind (wpAny_pure ?_)
 rw[e]
 dsimp only
 refine wpAny_bind ?_
 refine wp_if_neg (by rw[hs2];simp) ?_
 try refine wpAny_bind (wpAny_pure ?_)
 refine wpAny_pure ?_
 dsimp only
 refine wpAny_storeSet_of ho hd ?_ (by rw[hs2,hsl,sizeLine_eq];omega)
 have sb:Heap.SameBut a s.heap (s.heap.update a (Obj.putSet (order.filterMap (es[·]?)) t')):=Heap.SameBut.update ..
 refine hQ _ L2 (order.filterMap (es[·]?)) (ep+1) t' sb ?_ r2
 refine⟨⟨_,store_at ho hd,⟨hex.1,hex.2.1,hex.2.2⟩,rfl⟩,r1,T,(r2.map (·.2)).nodup_iff.mpr nd,fun p hpm=>q.stay (mem p (r2.mem_iff.mp hpm)) ho hd sb,by rw[el];exact ld,?_,by rw[r2.length_eq];exact few⟩
 rw[r2.length_eq,em]
 exact hn
theorem addH (q:SetQ knd) (R:SetH knd s.heap a L es ep t) {x:Addr} {k:K} (hx:knd.is s.heap k x) (hu:knd.room A) (hfew:L.length+1<1200) {Q:Bool→Shared→Prop}
 (hQ:∀b h' L' es' ep' t',Heap.SameBut a s.heap h'→SetH knd h' a L' es' ep' t'→(k ∈ L.map (·.2)→L'=L)→(k ∉ L.map (·.2)→L'.Perm ((x,k)::L))→Q b { s with heap:=h' }):
 wpAny (model P w) A (setAddHashed a (.ref x) (knd.hash k)) Q E s:=by
 obtain⟨o,ho,hex,hd⟩:=R.ob
 have hsl:=R.size
 have hroom:=R.room
 unfold setAddHashed
 refine wpAny_holding ?_
 rw[show (100000:Nat)=99999+1 from rfl,setAddHashedIn_succ]
 refine wpAny_bind (wpAny_setState_of ho hd R.fits ?_)
 dsimp only
 refine wp_if_neg (by simp[byScan,Value.scannable]) ?_
 try refine wpAny_bind (wpAny_pure ?_)
 refine wpAny_bind (search_all q R hx hu (fun hm=> ?_) fun N hm hN hb=> ?_)
 ·dsimp only
  exact wpAny_pure (hQ false s.heap L es ep t (Heap.SameBut.refl a s.heap) R (fun _=>rfl) fun z=>absurd hm z)
 ·dsimp only
  refine wpAny_bind (wpAny_setState_of ho hd R.fits ?_)
  dsimp only
  obtain⟨q1,q2,q3,q4,q5,q9⟩:=R.tab.putAll hN hb rfl rfl
  generalize hpt:t.put (way t.mask (knd.hash k) N)=pt at q1 q3 q4 q5 q9 ⊢
  obtain⟨t0,p⟩:=pt
  dsimp only at q1 q3 q4 q5 q9 ⊢
  subst q1
  have tail:∀t1:SetTable,t1=t0∨t1= { t0 with plain:=false } →wpAny (model P w) A (do
   storeSet a (SetTable.insertAt es (SetTable.below t.place (way t.mask (knd.hash k) N)) (knd.hash k,Value.ref x)) t1
   if !false&&t1.tooFull then setRelay a (SetTable.grown (es.size+1))
   return true) Q E s:=by
   intro t1 ht1
   have q3':BS.Tab t1 ((L.map fun p=>knd.hash p.2).take (SetTable.below t.place (way t.mask (knd.hash k) N))++knd.hash k::(L.map fun p=>knd.hash p.2).drop (SetTable.below t.place (way t.mask (knd.hash k) N))):=by
    rcases ht1 with rfl|rfl
    ·exact q3
    ·exact⟨q3.ris,q3.dm,q3.sz,q3.mok,q3.bd,q3.reach⟩
   have q4':t1.mask=t.mask:=by rcases ht1 with rfl|rfl<;>exact q4
   have q5':t1.led=t.led:=by rcases ht1 with rfl|rfl<;>exact q5
   have q9':t1.tooFull=t0.tooFull:=by rcases ht1 with rfl|rfl<;>rfl
   have em:t1.mask=t0.mask:=by rcases ht1 with rfl|rfl<;>rfl
   have hin:(SetTable.insertAt es (SetTable.below t.place (way t.mask (knd.hash k) N)) (knd.hash k,Value.ref x)).toList=rowsH knd (L.take (SetTable.below t.place (way t.mask (knd.hash k) N))++(x,k)::L.drop (SetTable.below t.place (way t.mask (knd.hash k) N))):=by
    rw[SetTable.toList_insertAt,R.rows]
    unfold rowsH
    rw[List.map_append,List.map_cons,List.map_take,List.map_drop]
   generalize hpp:SetTable.below t.place (way t.mask (knd.hash k) N)=p at q3' hin ⊢
   have pm:=put_perm L p (x,k)
   have hlen:(L.take p++(x,k)::L.drop p).length=L.length+1:=pm.length_eq
   have hhs:(L.take p++(x,k)::L.drop p).map (fun p=>knd.hash p.2)=(L.map fun p=>knd.hash p.2).take p++knd.hash k::(L.map fun p=>knd.hash p.2).drop p:=by
    rw[List.map_append,List.map_cons,List.map_take,List.map_drop]
   rw[← hhs] at q3'
   have nd1:((L.take p++(x,k)::L.drop p).map (·.2)).Nodup:=by
    refine(pm.map (·.2)).nodup_iff.mpr ?_
    rw[List.map_cons]
    exact List.nodup_cons.mpr ⟨hm,R.nd⟩
   have hes:(SetTable.insertAt es p (knd.hash k,Value.ref x)).size=L.length+1:=by rw[rowsH_len hin,hlen]
   generalize SetTable.insertAt es p (knd.hash k,Value.ref x)=es1 at hin hes ⊢
   generalize L.take p++(x,k)::L.drop p=L1 at pm hlen q3' nd1 hin
   refine wpAny_bind (wpAny_storeSet_of ho hd ?_ (by rw[hes,sizeLine_eq];omega))
   have sb:Heap.SameBut a s.heap (s.heap.update a (Obj.putSet es1 t1)):=Heap.SameBut.update ..
   have ho1:=store_at (es':=es1) (t':=t1) ho hd
   generalize s.heap.update a (Obj.putSet es1 t1)=h1 at sb ho1 ⊢
   have mem1:∀p ∈ L1,knd.is h1 p.2 p.1:=fun p hp=>by
    rcases List.mem_cons.mp (pm.mem_iff.mp hp) with e|hp
    ·rw[e];exact q.stay hx ho hd sb
    ·exact q.stay (R.mem p hp) ho hd sb
   have ld1:w.params.followText "set-order" =true∨t1.led=true:=by rw[q5'];exact R.led
   by_cases hf:t1.tooFull=true
   ·first
     |(refine wpAny_bind ?_;refine wp_if_pos (by simp[hf]) ?_)
     |(refine wp_if_pos (by simp[hf]) ?_;refine wpAny_bind ?_)
    have hfull:(L.length+1)*5 ≥ t1.mask*3:=by
     have h:=hf
     rw[q9'] at h
     unfold SetTable.tooFull at h
     rw[decide_eq_true_eq,q9,List.length_map,←em] at h
     exact h
    rw[hsl]
    have hsz1:t1.place.size=es1.size:=by
     have h:=q3'.sz
     rw[List.length_map,hlen] at h
     rw[h,hes]
    have eN1:t.mask=t1.mask:=q4'.symm
    obtain⟨M,g1,g2,g3⟩:=BS.grows (n:=L.length) R.tab.mok hroom (by rw[eN1];exact hfull) (by omega)
    have go:∀M,SetTable.sizeAbove (SetTable.grown (L.length+1))-1=M→BS.Mk M→SetTable.sizeAbove (SetTable.grown (L.length+1))≤2048→(L.length+1)*5<M*3→
     wpAny (model P w) A (setRelay a (SetTable.grown (L.length+1))) (fun _ s'=>wpAny (model P w) A (pure true) Q E s') E { s with heap:=h1 } :=fun M h1' h2' h3' h4'=>by
     refine relayH (s:= { s with heap:=h1 }) q ho1 ⟨hex.1,hex.2.1,hex.2.2⟩ rfl hin hsz1 q3'.dm (by rw[hes,q4'];omega) nd1 mem1 ld1 (by rw[hlen];exact hfew) h1' h2' h3' (by rw[hlen];exact h4') ?_
     intro h2 L2 es2 ep2 t2 sb2 R2 pm2
     exact wpAny_pure (hQ true h2 L2 es2 ep2 t2 (sb.trans sb2) R2 (fun z=>absurd z hm) fun _=>pm2.trans pm)
    exact go M (by rw[g1];rfl) g2 (by rw[g1];have:=g2.le;omega) g3
   ·first
     |refine wp_if_neg (by simp[hf]) ?_
     |(refine wpAny_bind ?_;refine wp_if_neg (by simp[hf]) ?_;refine wpAny_pure ?_)
    refine wpAny_pure (hQ true h1 L1 es1 (ep+1) t1 sb ⟨⟨_,ho1,⟨hex.1,hex.2.1,hex.2.2⟩,rfl⟩,hin,q3',nd1,mem1,ld1,?_,by rw[hlen];exact hfew⟩ (fun z=>absurd z hm) fun _=>pm)
    have h:=hf
    rw[q9'] at h
    unfold SetTable.tooFull at h
    rw[decide_eq_true_eq,q9,List.length_map,←em] at h
    rw[hlen]
    omega
  by_cases hp1:t0.plain=true
  ·first
    |(refine wpAny_bind ?_;refine wp_if_pos hp1 ?_;refine q.byv hx fun b=> ?_)
    |refine wp_if_pos hp1 (wpAny_bind (q.byv hx fun b=> ?_))
   cases b with
   |true=>exact tail t0 (.inl rfl)
   |false=>exact tail _ (.inr rfl)
  ·first
    |(refine wpAny_bind ?_;refine wp_if_neg hp1 ?_;refine wpAny_pure ?_)
    |refine wp_if_neg hp1 (wpAny_bind (wpAny_pure ?_))
   exact tail t0 (.inl rfl)
theorem setH_fresh {h:Heap} {a:Addr} (ho:h.get? a=some { cls:= .type "set",dict:=none,data:= .set #[] 0 (.fresh 0 0 (!w.params.followText "set-order")) }):SetH knd h a [] #[] 0 (.fresh 0 0 (!w.params.followText "set-order")) where
 ob:=⟨_,ho,⟨rfl,rfl,rfl⟩,rfl⟩
 rows:=rfl
 tab:=⟨List.Pairwise.nil,rfl,rfl, .inl rfl,fun x hx=>(by cases hx),fun i h j hi=>(by simp at hi)⟩
 nd:=List.nodup_nil
 mem:=fun p hp=>(by cases hp)
 led:=by
  show _∨(!w.params.followText "set-order")=true
  cases w.params.followText "set-order"
  ·exact .inr rfl
  ·exact .inl rfl
 room:=by
  show 0*5<7*3
  decide
 few:=by
  show 0<1200
  decide
end
end L3
namespace L3
open PySem PySem.Spec PyProof.Rows L2
section
variable {P:Program} {w:World}
def ClsAt (P:Program) (w:World) (n:Nat) (s:Shared) (v:Value):Prop:=∀(A:Around) (E:Value→Shared→Prop) (Q:Bool→Shared→Prop),Q false s→wpAny (model P w) A (ofAClassStatement n v) Q E s
def ByvAt (P:Program) (w:World) (n:Nat) (s:Shared) (v:Value):Prop:=∀(A:Around) (E:Value→Shared→Prop) (Q:Bool→Shared→Prop),(∀ b,Q b s)→wpAny (model P w) A (hashByValue n v) Q E s
theorem cls_tup {n:Nat} {s:Shared} {a:Addr} {o:Obj} {vs:Array Value} {m:Nat} (ho:s.heap.get? a=some o) (hc:o.cls= .type "tuple") (hd:o.data= .seq vs m) (hq:∀v ∈ vs.toList,ClsAt P w n s v):ClsAt P w (n+1) s (.ref a):=fun A E Q h=>by
 unfold ofAClassStatement
 refine wpAny_bind (wpAny_typeOf ⟨o,ho,hc⟩ ?_)
 dsimp only
 have e:(("tuple" :String)== "tuple")=true:=by decide
 simp only[e,if_true,Bool.not_true,Bool.false_eq_true,if_false]
 try refine wpAny_bind (wpAny_pure ?_)
 try simp only[Bool.not_true,Bool.false_eq_true,if_false]
 show wpAny _ _ (seqItems? (.ref a) >>= _) _ _ s
 refine wpAny_bind (wpAny_seqItems ho hd ?_)
 dsimp only
 refine wpAny_bind ?_
 show wpAny _ _ (forIn vs _ _) _ _ s
 rw[← Array.forIn_toList]
 refine wpAny_forIn_list _ (fun rest r s'=>r.1=none∧s'=s∧∀v ∈ rest,ClsAt P w n s v) _ ?_ ?_ _ _ ⟨rfl,rfl,hq⟩
 ·rintro v rest r s' ⟨hr,rfl,hall⟩
  refine wpAny_bind (hall v List.mem_cons_self _ _ _ ?_)
  simp only[Bool.false_eq_true,if_false]
  exact wpAny_pure ⟨rfl,rfl,fun u hu=>hall u (List.mem_cons_of_mem _ hu)⟩
 ·rintro⟨r1,r2⟩ s' ⟨hr,rfl,_⟩
  simp only at hr
  subst hr
  exact wpAny_pure h
theorem byv_tup {n:Nat} {s:Shared} {a:Addr} {o:Obj} {vs:Array Value} {m:Nat} (ho:s.heap.get? a=some o) (hc:o.cls= .type "tuple") (hd:o.data= .seq vs m) (hq:∀v ∈ vs.toList,ByvAt P w n s v):ByvAt P w (n+1) s (.ref a):=fun A E Q h=>by
 unfold hashByValue
 refine wpAny_bind (wpAny_specialOf (⟨o,ho,hc⟩:s.TypeIs (.ref a) "tuple") F.slot_tuple_hash.lookup ?_)
 show wpAny _ _ (seqItems? (.ref a) >>= _) _ _ s
 refine wpAny_bind (wpAny_seqItems ho hd ?_)
 refine wpAny_bind ?_
 show wpAny _ _ (forIn vs _ _) _ _ s
 rw[← Array.forIn_toList]
 refine wpAny_forIn_list _ (fun rest r s'=>r.1=none∧s'=s∧∀v ∈ rest,ByvAt P w n s v) _ ?_ ?_ _ _ ⟨rfl,rfl,hq⟩
 ·rintro v rest r s' ⟨hr,rfl,hall⟩
  refine wpAny_bind (hall v List.mem_cons_self _ _ _ fun b=> ?_)
  cases b with
  |true=>
   simp only[Bool.not_true,Bool.false_eq_true,if_false]
   exact wpAny_pure ⟨rfl,rfl,fun u hu=>hall u (List.mem_cons_of_mem _ hu)⟩
  |false=>
   simp only[Bool.not_false,if_true]
   exact wpAny_pure (wpAny_pure (h false))
 ·rintro⟨r1,r2⟩ s' ⟨hr,rfl,_⟩
  simp only at hr
  subst hr
  exact wpAny_pure (h true)
mutual
theorem cls_key:∀(k:NestedKey) (v:Value) (n:Nat) (s:Shared),NestedIs s.heap k v→k.depth≤n→ClsAt P w n s v
 | .none,_,n,s,x,_=>by cases x;exact fun A E Q h=>by unfold ofAClassStatement;exact wpAny_pure h
 | .num i,_,n,s,x,_=>by cases x<;>exact fun A E Q h=>by unfold ofAClassStatement;exact wpAny_pure h
 | .text y,_,n,s,x,_=>by cases x;exact fun A E Q h=>by unfold ofAClassStatement;exact wpAny_pure h
 | .tup ks,_,n,s,x,hn=>by
   cases x with
   |tup hg hc hd hk=>
    simp only[NestedKey.depth] at hn
    cases n with
    |zero=>omega
    |succ n=>exact cls_tup hg hc hd (cls_keys ks _ n s hk (by omega))
theorem cls_keys:∀(ks:List NestedKey) (vs:List Value) (n:Nat) (s:Shared),NestedAll s.heap ks vs→NestedKey.depthAll ks≤n→∀v ∈ vs,ClsAt P w n s v
 | [],_,n,s,x,_,v,hv=>by cases x;cases hv
 |k::ks,_,n,s,x,hn,v,hv=>by
  cases x with
  |cons x1 x2=>
   simp only[NestedKey.depthAll] at hn
   rcases List.mem_cons.mp hv with e|hv
   ·rw[e];exact cls_key k _ n s x1 (by omega)
   ·exact cls_keys ks _ n s x2 (by omega) v hv
end
mutual
theorem byv_key:∀(k:NestedKey) (v:Value) (n:Nat) (s:Shared),NestedIs s.heap k v→k.depth≤n→ByvAt P w n s v
 | .none,_,n,s,x,_=>by cases x;exact fun A E Q h=>by unfold hashByValue;exact wpAny_pure (h _)
 | .num i,_,n,s,x,_=>by cases x<;>exact fun A E Q h=>by unfold hashByValue;exact wpAny_pure (h _)
 | .text y,_,n,s,x,_=>by cases x;exact fun A E Q h=>by unfold hashByValue;exact wpAny_pure (h _)
 | .tup ks,_,n,s,x,hn=>by
   cases x with
   |tup hg hc hd hk=>
    simp only[NestedKey.depth] at hn
    cases n with
    |zero=>omega
    |succ n=>exact byv_tup hg hc hd (byv_keys ks _ n s hk (by omega))
theorem byv_keys:∀(ks:List NestedKey) (vs:List Value) (n:Nat) (s:Shared),NestedAll s.heap ks vs→NestedKey.depthAll ks≤n→∀v ∈ vs,ByvAt P w n s v
 | [],_,n,s,x,_,v,hv=>by cases x;cases hv
 |k::ks,_,n,s,x,hn,v,hv=>by
  cases x with
  |cons x1 x2=>
   simp only[NestedKey.depthAll] at hn
   rcases List.mem_cons.mp hv with e|hv
   ·rw[e];exact byv_key k _ n s x1 (by omega)
   ·exact byv_keys ks _ n s x2 (by omega) v hv
end
theorem setQ_nested:SetQ (nestedKind P w) where
 cls:=fun h q=>cls_key _ _ 8 _ h.1 h.2 _ _ _ q
 byv:=fun h q=>byv_key _ _ 8 _ h.1 h.2 _ _ _ q
 stay:=fun {h h' k a d o es ep t} x ho hd hs=>⟨NestedIs.at (fun b ob vs n hb hc=>by
  refine(hs.2 b fun e=> ?_).trans hb
  subst e
  rw[ho] at hb
  cases hb
  rw[hd] at hc
  cases hc) k _ x.1,x.2⟩
 mono:=fun {h h' k a} x m=>⟨NestedIs.at (fun b ob vs n hb _=>m b ob hb) k _ x.1,x.2⟩
end
end L3
namespace L3
open PySem PySem.Spec PyProof.Rows L2
def kyE (e:Int × Value):L2.Key:=match e.2 with
 | .int k _=> .inl k
 | .str x _=> .inr x
 | _=> .inl 0
def GdE (w:World) (e:Int × Value):Prop:=RelV (kV (kyE e)) e.2∧e.1=keyH w (kyE e)
theorem kyE_of {k:L2.Key} {v:Value} (r:RelV (kV k) v) (i:Int):kyE (i,v)=k:=by
 cases k with
 |inl j=>obtain⟨t,e⟩:=(show ∃t,v=Value.int j t from r);subst e;rfl
 |inr x=>obtain⟨t,e⟩:=(show ∃t,v=Value.str x t from r);subst e;rfl
theorem gdE_of {w:World} {k:L2.Key} {v:Value} (r:RelV (kV k) v):GdE w (keyH w k,v):=by
 unfold GdE
 rw[kyE_of r]
 exact⟨r,rfl⟩
section
variable {P:Program} {w:World} {A:Around} {E:Value→Shared→Prop} {s:Shared} {a:Addr} {S:List L2.Key}
theorem gdE_elems {l:List (Int × Value)} (g:∀e ∈ l,GdE w e):ElemsOf (mixKind P w) l:=fun e he=>by
 obtain⟨h1,h2⟩:=g e he
 exact⟨⟨kyE e,kV_is (P:=P) (w:=w) h1,h2⟩,key_scan h1⟩
theorem gdE_is {e:Int × Value} (g:GdE w e) (k:L2.Key):(mixKind P w).is k e.2=true↔kyE e=k:=
 ⟨fun h=>(mixKind P w).inj _ _ _ (kV_is (P:=P) (w:=w) g.1) h,fun h=>h▸kV_is (P:=P) (w:=w) g.1⟩
def SetM (w:World) (h:Heap) (a:Addr) (S:List L2.Key):Prop:=
 ∃o es ep t,h.get? a=some o∧o.ExactSet∧o.data= .set es ep t∧(∀ e ∈ es.toList,GdE w e)∧(es.toList.map kyE).Nodup∧(∀ k,k ∈ S↔k ∈ es.toList.map kyE)∧t.fits es.size=true∧Ris t.place.toList∧(w.params.followText "set-order" =true∨t.led=true)
theorem SetM.at {h h':Heap} (R:SetM w h a S) (k:∀o,h.get? a=some o→h'.get? a=some o):SetM w h' a S:=by
 obtain⟨o,es,ep,t,ho,r⟩:=R
 exact⟨o,es,ep,t,k o ho,r⟩
theorem few_of {es:Array (Int × Value)} (nd:(es.toList.map kyE).Nodup) (m:∀k,k ∈ S↔k ∈ es.toList.map kyE):es.size≤S.length:=by
 have:=nodup_le nd fun k hk=>(m k).mpr hk
 simpa using this
theorem setM_tail {g:Bool→Sem Unit} (hg:∀(b:Bool) (s₁ :Shared) (Q':Unit→Shared→Prop),Q' () s₁ →wpAny (model P w) A (g b) Q' E s₁)
 {o:Obj} {es:Array (Int × Value)} {ep:Nat} {t:SetTable} (ho:s.heap.get? a=some o) (hex:o.ExactSet) (hd:o.data= .set es ep t)
 {es1:Array (Int × Value)} {t2:SetTable} (g1:∀e ∈ es1.toList,GdE w e) (nd1:(es1.toList.map kyE).Nodup) (m1:∀k,k ∈ S↔k ∈ es1.toList.map kyE)
 (hb1:es1.size<scanBound) (hf2:t2.fits es1.size=true) (hr:Ris t2.place.toList) (hl:w.params.followText "set-order" =true∨t2.led=true) {wasDummy:Bool} {R:Option Bool→Shared→Prop}
 (hR:∀h',Heap.SameBut a s.heap h'→SetM w h' a S→R (some true) { s with heap:=h' }):
 wpAny (model P w) A (do
  storeSet a es1 t2
  if(!wasDummy&&t2.tooFull)=true then do
     g (relayAll t2 es1 (SetTable.grown es1.size)).2.2
     storeSet a (relayAll t2 es1 (SetTable.grown es1.size)).1 (relayAll t2 es1 (SetTable.grown es1.size)).2.1
     pure (some true)
   else pure (some true)) R E s:=by
 refine wpAny_bind (wpAny_storeSet_of ho hd ?_ (fits_of_scanBound hb1))
 have ho1:=store_at (es':=es1) (t':=t2) ho hd
 have sb1:=Heap.SameBut.update s.heap a (Obj.putSet es1 t2)
 split
 ·have pm:=relayAll_perm t2 es1 (SetTable.grown es1.size)
  have hf3:=relayAll_fits t2 es1 (SetTable.grown es1.size)
  have hr3:=relayAll_ris t2 es1 (SetTable.grown es1.size)
  have hl3:=relayAll_led t2 es1 (SetTable.grown es1.size)
  generalize relayAll t2 es1 (SetTable.grown es1.size)=Z at pm hf3 hr3 hl3 ⊢
  obtain⟨es2,t3,gave⟩:=Z
  dsimp only at pm hf3 hr3 hl3 ⊢
  have hsz:es2.size=es1.size:=by rw[← Array.length_toList,pm.length_eq,Array.length_toList]
  refine wpAny_bind (hg _ _ _ ?_)
  refine wpAny_bind (wpAny_storeSet_of ho1 rfl ?_ (fits_of_scanBound (by rw[hsz];exact hb1)))
  have ho2:=store_at (es':=es2) (t':=t3) ho1 rfl
  refine wpAny_pure (hR _ (sb1.trans (Heap.SameBut.update _ a _)) ?_)
  exact⟨_,es2,_,t3,ho2,hex,rfl,fun e he=>g1 e (pm.mem_iff.mp he),(pm.map kyE).nodup_iff.mpr nd1,fun k=>(m1 k).trans (pm.map kyE).mem_iff.symm,hf3,hr3,hl.imp id fun z=>by rw[hl3];exact z⟩
 ·exact wpAny_pure (hR _ sb1 ⟨_,es1,_,t2,ho1,hex,rfl,g1,nd1,m1,hf2,hr,hl⟩)
theorem addM {k:L2.Key} {v:Value} {Q:Bool→Shared→Prop} (rv:RelV (kV k) v) (R:SetM w s.heap a S) (room:S.length+1<scanBound)
 (hQ:∀b h',Heap.SameBut a s.heap h'→SetM w h' a (S++ [k])→Q b { s with heap:=h' }):
 wpAny (model P w) A (setAddHashed a v ((mixKind P w).hash k)) Q E s:=by
 obtain⟨o,es,ep,t,ho,hex,hd,g,nd,hm,hf,hr,hl⟩:=R
 have hkey:(mixKind P w).is k v=true:=kV_is (P:=P) (w:=w) rv
 have hsc:v.scannable=true:=key_scan rv
 have hel:ElemsOf (mixKind P w) es.toList:=gdE_elems g
 have hfew:=few_of nd hm
 have hb:es.size<scanBound:=by omega
 unfold setAddHashed setAddHashedIn
 refine wpAny_holding (wpAny_bind (wpAny_setState_of ho hd hf ?_))
 dsimp only
 rw[byScan_of hsc hb hel]
 simp only[↓reduceIte]
 unfold setAddByScan
 refine wpAny_bind ?_
 refine wpAny_bind (wpAny_rule ?_)
 refine wpAny_bind (wpAny_setScan_of hkey ho hd hf hel ?_)
 cases hfi:List.findIdx? (fun e=>(mixKind P w).is k e.2) es.toList with
 |some j=>
  dsimp only
  obtain⟨hj,pj,_⟩:=List.findIdx?_eq_some_iff_getElem.mp hfi
  have hSk:k ∈ S:=(hm k).2 (List.mem_map.mpr ⟨es.toList[j],List.getElem_mem hj,(gdE_is (P:=P) (g _ (List.getElem_mem hj)) k).mp pj⟩)
  refine wpAny_pure (wpAny_pure ?_)
  refine hQ false s.heap (Heap.SameBut.refl a s.heap) ⟨o,es,ep,t,ho,hex,hd,g,nd,fun i=> ?_,hf,hr,hl⟩
  rw[← hm i,List.mem_append,List.mem_singleton]
  exact⟨fun z=>z.elim id (fun e=>e▸hSk), .inl⟩
 |none=>
  dsimp only
  have hnk:k ∉ es.toList.map kyE:=fun z=>by
   obtain⟨e,he,q⟩:=List.mem_map.mp z
   have c:=List.findIdx?_eq_none_iff.mp hfi e he
   rw[(gdE_is (P:=P) (g e he) k).mpr q] at c
   cases c
  have hgw:∀(b:Bool) {s₁ :Shared} {Q':Unit→Shared→Prop},Q' () s₁ →wpAny (model P w) A (match b with|true=>rule "set.scan.the-table-gave-way" |false=>pure ()) Q' E s₁ :=
   fun b s₁ Q' q=>by cases b<;>first|exact wpAny_pure q|exact wpAny_rule q
  have pm:=layNew_perm t es ((mixKind P w).hash k) v
  have hf1:=layNew_fits t es ((mixKind P w).hash k) v
  have hr1:=layNew_ris t es ((mixKind P w).hash k) v hr
  have hl1:=layNew_led t es ((mixKind P w).hash k) v
  generalize layNew t es ((mixKind P w).hash k) v=Z at pm hf1 hr1 hl1 ⊢
  obtain⟨es1,t1,wasDummy,gave⟩:=Z
  dsimp only at pm hf1 hr1 hl1 ⊢
  rw[Array.toList_push] at pm
  have pc:es1.toList.Perm (((mixKind P w).hash k,v)::es.toList):=pm.trans (List.perm_append_singleton _ _)
  have pk:(es1.toList.map kyE).Perm (k::es.toList.map kyE):=by
   have:=pc.map kyE
   rw[List.map_cons,kyE_of rv] at this
   exact this
  have g1:∀e ∈ es1.toList,GdE w e:=fun e he=>by
   rcases List.mem_cons.mp (pc.mem_iff.mp he) with z|z
   ·rw[z];exact gdE_of rv
   ·exact g e z
  have nd1:(es1.toList.map kyE).Nodup:=pk.nodup_iff.mpr (List.nodup_cons.mpr ⟨hnk,nd⟩)
  have m1:∀i,i ∈ S++ [k] ↔i ∈ es1.toList.map kyE:=fun i=>by
   rw[List.mem_append,List.mem_singleton,hm i,pk.mem_iff,List.mem_cons]
   exact Or.comm
  have hb1:es1.size<scanBound:=by
   have:=few_of nd1 m1
   rw[List.length_append,List.length_singleton] at this
   omega
  have hled:w.params.followText "set-order" =true∨t1.led=true:=hl.imp id fun z=>by rw[hl1];exact z
  refine wpAny_bind (hgw _ ?_)
  split
  ·refine wpAny_bind ?_
   rw[hashByValue_scannable 8 hsc]
   refine wpAny_pure ?_
   refine setM_tail (S:=S++ [k]) ?_ ho hex hd g1 nd1 m1 hb1 ?_ ?_ ?_ ?_
   ·intro b s₁ Q' q;cases b<;>first|exact wpAny_pure q|exact wpAny_rule q
   ·first|(split<;>first|exact hf1|exact SetTable.fits_plain_off hf1)|exact hf1
   ·first|(split<;>exact hr1)|exact hr1
   ·first|(split<;>exact hled)|exact hled
   ·intro h' sb r;dsimp only;exact wpAny_pure (hQ true h' sb r)
  ·refine wpAny_bind (wpAny_pure ?_)
   simp only[↓reduceIte]
   refine setM_tail (S:=S++ [k]) ?_ ho hex hd g1 nd1 m1 hb1 hf1 hr1 hled ?_
   ·intro b s₁ Q' q;cases b<;>first|exact wpAny_pure q|exact wpAny_rule q
   ·intro h' sb r;dsimp only;exact wpAny_pure (hQ true h' sb r)
theorem setM_fresh {h:Heap} {a:Addr} (ho:h.get? a=some { cls:= .type "set",dict:=none,data:= .set #[] 0 (.fresh 0 0 (!w.params.followText "set-order")) }):SetM w h a [] :=
 ⟨_,#[],0,_,ho,⟨rfl,rfl,rfl⟩,rfl,(fun e he=>by simp at he),(by simp),(fun k=>by simp),(by rfl),List.Pairwise.nil,by
   show _∨(!w.params.followText "set-order")=true
   cases w.params.followText "set-order"
   ·exact .inr rfl
   ·exact .inl rfl⟩
end
end L3
namespace L3
open PySem PySem.Spec PyProof.Rows L2
abbrev Elt:=L2.Key ⊕ (Addr × NestedKey)
def valU:Elt→V
 | .inl k=>kV k
 | .inr p=> .ref p.1
def SetHL (P:Program) (w:World) (h:Heap) (a:Addr) (kps:List (Addr × NestedKey)):Prop:=
 ∃L es ep t,(∃ o,h.get? a=some o∧o.ExactSet∧o.data= .set es ep t)∧es.toList=rowsH (nestedKind P w) L∧BS.Tab t (L.map fun p=>(nestedKind P w).hash p.2)∧(L.map (·.2)).Nodup∧
  (w.params.followText "set-order" =true∨t.led=true)∧L.length*5<t.mask*3∧L.length<1200∧(∀ p ∈ L,p ∈ kps)∧∀p ∈ kps,p.2 ∈ L.map (·.2)
def ObP (P:Program) (w:World) (a:Addr) (S:List Elt) (h:Heap):Prop:=
 (∃ o,h.get? a=some o)∧(∀ ks:List L2.Key,S=ks.map Sum.inl→SetM w h a ks)∧∀kps:List (Addr × NestedKey),S=kps.map Sum.inr→SetHL P w h a kps
def ObU (P:Program) (w:World) (a:Addr) (S:List Elt):HO:= .ext (ObP P w a S)
def KAt (K:PySem.W.Frag) (H:Hp) (p:Addr × NestedKey):Prop:=Dp K H (.ref p.1) p.2.data∧p.2.depth≤8
mutual
theorem nested_of {h:Heap} :∀(k:NestedKey) (u:Value) (as:List Addr),Reads h u k.data as→NestedIs h k u
 | .none,_,_,r=>by cases r;exact .none
 | .num i,_,_,r=>by cases r;exact .int i _
 | .text x,_,_,r=>by cases r;exact .text x _
 | .tup ks,_,_,r=>by
   cases r with
   |tuple ho hc hd ra=>exact .tup ho hc hd (nested_all ks _ _ ra)
theorem nested_all {h:Heap} :∀(ks:List NestedKey) (us:List Value) (as:List Addr),ReadsAll h us (NestedKey.datas ks) as→NestedAll h ks us
 | [],_,_,r=>by cases r;exact .nil
 |k::ks,_,_,r=>by
  cases r with
  |cons r1 r2=>exact .cons (nested_of k _ _ r1) (nested_all ks _ _ r2)
end
section
variable {X:Cx} {pins:List (Addr × Obj)} {σ :L2.St} {H:Hp} {s:Shared} {a:Addr} {S:List Elt}
theorem KAt.is (I:Inv X pins σ H s) {p:Addr × NestedKey} (h:KAt X.K H p):(nestedKind X.prog X.w).is s.heap p.2 p.1:=by
 obtain⟨as,r⟩:=Dp.reads I p.2.data (.ref p.1) (.ref p.1) h.1 rfl
 exact⟨nested_of _ _ _ r,h.2⟩
theorem obP_at {P:Program} {w:World} {h h':Heap} (R:ObP P w a S h) (k:∀o,h.get? a=some o→h'.get? a=some o):ObP P w a S h':=by
 obtain⟨⟨o,ho⟩,h1,h2⟩:=R
 refine⟨⟨o,k o ho⟩,fun ks e=>(h1 ks e).at k,fun kps e=> ?_⟩
 obtain⟨L,es,ep,t,⟨o',ho',r⟩,q⟩:=h2 kps e
 exact⟨L,es,ep,t,⟨o',k o' ho',r⟩,q⟩
theorem obU_new {P:Program} {w:World} {H:Hp} {h:Heap} (R:ObP P w a S h):ObjOk P w H h a (ObU P w a S):=⟨R,R.1,fun _ _ p k=>obP_at p k⟩
theorem obP_fresh {P:Program} {w:World} {h:Heap} {a:Addr} (ho:h.get? a=some { cls:= .type "set",dict:=none,data:= .set #[] 0 (.fresh 0 0 (!w.params.followText "set-order")) }):ObP P w a [] h:=by
 refine⟨⟨_,ho⟩,fun ks e=> ?_,fun kps e=> ?_⟩
 ·have:ks= [] :=by simpa using e.symm
  subst this
  exact setM_fresh ho
 ·have:kps= [] :=by simpa using e.symm
  subst this
  have R:SetH (nestedKind P w) h a [] #[] 0 (.fresh 0 0 (!w.params.followText "set-order")):=setH_fresh ho
  exact⟨[],_,_,_,R.ob,R.rows,R.tab,R.nd,R.led,R.room,R.few,by simp,by simp⟩
end
end L3
namespace L3
open PySem PySem.Spec PyProof.Rows L2
open PySem.W (SortsAt AllAlike Sortable dataKind dataKind_inv EachIs alike keyToks dataLt)
def apart (d d':PyData):Prop:=∃a b r r',d= .tuple (.str a::r)∧d'= .tuple (.str b::r')∧a≠b
def AllApart (ds:List PyData):Prop:=∀d ∈ ds,∀d' ∈ ds,alike d d'=true∨apart d d'
def HasFirst (ds:List PyData):Prop:=∀d ∈ ds,∃a r,d= .tuple (.str a::r)
section
variable {prog:Program} {w:World} {A:Around} {E:Value→Shared→Prop} {s:Shared}
theorem reads_apart {h:Heap} {v:Value} {d d':PyData} {as bs:List Addr} (ha:apart d d') (r:Reads h v d as) (r':Reads h v d' bs):False:=by
 obtain⟨a,b,t,t',rfl,rfl,hn⟩:=ha
 cases r with
 | @tuple l o vs n _ _ g1 t1 k1 r1=>
   cases r' with
   | @tuple _ o' vs' n' _ _ g2 t2 k2 r2=>
     rw[g1] at g2
     cases g2
     rw[k1] at k2
     cases k2
     generalize vs.toList=us at r1 r2
     cases r1 with
     |cons p1 _=>
      cases r2 with
      |cons p2 _=>
       cases p1
       cases p2
       exact hn rfl
theorem apart_some {h:Heap} {ds:List PyData} (hal:AllApart ds) {v:Value} {d:PyData} {as:List Addr} (hd:d ∈ ds) (r:Reads h v d as):(dataKind h ds).keyOf v=some (keyToks d):=by
 have q:∃d,d ∈ ds∧∃as,Reads h v d as:=⟨d,hd,as,r⟩
 have e:(dataKind h ds).keyOf v=some (keyToks q.choose):=by
  show(open Classical in if q:∃d,d ∈ ds∧∃as,Reads h v d as then some (keyToks q.choose) else none)=_
  rw[dif_pos q]
 obtain⟨h1,as',h2⟩:=q.choose_spec
 rw[e]
 rcases hal _ h1 _ hd with ha|ha
 ·rw[PySem.W.alike_unique _ _ _ _ _ ha h2 r]
 ·exact(reads_apart ha h2 r).elim
theorem sorts_apart {vs:List Value} {ds:List PyData} (e:EachIs (fun v d=>∃as,Reads s.heap v d as) vs ds) (hal:AllApart ds) (hf:HasFirst ds) (hu:∀d,d ∈ ds→A.units+d.depth<cLine):SortsAt prog w A s (dataKind s.heap ds) vs:=by
 have room:∀ {d d':PyData},d ∈ ds→A.units+min d.depth d'.depth<cLine:=fun {d d'} hd=>Nat.lt_of_le_of_lt (Nat.add_le_add_left (Nat.min_le_left _ _) _) (hu d hd)
 refine⟨fun v hv=> ?_,?_⟩
 ·obtain⟨d,hd,as,r⟩:=e.left v hv
  exact⟨_,apart_some hal hd r⟩
 ·refine⟨tuples' true,?_,fun h2 E Q hq=> ?_⟩
  ·intro E x y a b Q ha hb hq
   obtain⟨d,as,hd,ra,rfl⟩:=dataKind_inv ha
   obtain⟨d',as',hd',rb,rfl⟩:=dataKind_inv hb
   have hdd:=hal d hd d' hd'
   have hroom:=room (d':=d') hd
   obtain⟨x1,r1,rfl⟩:=hf d hd
   obtain⟨x2,r2,rfl⟩:=hf d' hd'
   have hq':Q (dataLt (.tuple (.str x1::r1)) (.tuple (.str x2::r2))) s:=hq
   rw[PySem.W.dataLt_tuple] at hq'
   cases ra with
   | @tuple l o xs n _ _ h1 h2 h3 h4=>
     cases rb with
     | @tuple l' o' xs' n' _ _ k1 k2 k3 k4=>
       have n1:xs.size=(PyData.str x1::r1).length:=by simpa using SeqAt.ReadsAll.length _ _ _ h4
       have n2:xs'.size=(PyData.str x2::r2).length:=by simpa using SeqAt.ReadsAll.length _ _ _ k4
       refine PySem.W.kat_lt h1 h3 k1 k3 ?_
       rcases hdd with hdd|⟨a,b,t,t',e1,e2,hn⟩
       ·refine PySem.W.katLex_alike (.str x1::r1) (.str x2::r2) 0 _ _ _ _ h4 k4 (by simpa[alike] using hdd) (by have q:=SeqAt.room_in hroom;omega) (fun hb _ x r t ex=> ?_) (by rw[n1,n2]) hq'
        obtain⟨rfl,rfl⟩:=List.cons.inj ex
        simp
       ·cases e1
        cases e2
        have al:alike (.str x1) (.str x2)=true:=rfl
        have ne:PyData.eqv (.str x1) (.str x2)=false:=by simp[PyData.eqv,hn]
        rw[PySem.W.dataLt_all_no al ne] at hq'
        have hr:A.units+min (PyData.str x1).depth (PyData.str x2).depth<cLine:=by
         have:=hu _ hd
         simp only[PyData.depth] at this ⊢
         omega
        generalize xs.toList=us at h4
        generalize xs'.toList=us' at k4
        cases h4 with
        |cons p1 p2=>
         cases k4 with
         |cons q1 q2=>
          rw[List.zip_cons_cons]
          refine PySem.W.kat_cons (PySem.W.eqAt_alike _ _ A s _ _ _ _ p1 q1 al hr prog w _ _ ?_)
          rw[ne]
          exact PySem.W.kat_no (PySem.W.oneLt_alike (fun _ t=>by simp) p1 q1 al (by simp) hr hq')
  ·obtain⟨fs,t1,t2,t3⟩:=PySem.W.each_katTups e fun d hd=>by obtain⟨a,r,q⟩:=hf d hd;exact⟨_,r,q⟩
   refine PySem.W.kat_kind (T:=Value.type "str") t1 (by omega) (fun f hf'=> ?_) (beq_self_eq_true _) hq
   obtain⟨x,r,as,m1,m2⟩:=t3 f hf'
   obtain⟨a,r',q⟩:=hf _ m1
   cases q
   exact PySem.W.looks_reads m2
end
theorem sortVals_apart {β :Type} {h':Heap} {R:Value→ β →Prop} {enc: β →PyData} {vs:List Value} {bs:List β} (rev:Bool) (e:EachIs R vs bs) (er:EachIs (fun v b=>∃as,Reads h' v (enc b) as) vs bs) (hal:AllApart (bs.map enc)):
 EachIs R (PySem.W.sortVals (dataKind h' (bs.map enc)) rev vs vs) (bs.mergeSort (PySem.W.dataLe rev enc)):=
 PySem.W.sortVals_each (κ :=dataKind h' (bs.map enc)) (fun b=>keyToks (enc b)) e (PySem.W.each_of_map enc ((PySem.W.each_mem (PySem.W.each_map (R:=fun v d=>∃as,Reads h' v d as) enc er)).mono fun _ _ ⟨⟨_,r⟩,hd⟩=>apart_some hal hd r))
end L3
namespace L3
open PySem PySem.Spec PyProof.Rows L2
open PySem.W (SortsAt AllAlike EachIs dataKind)
mutual
def nkD:D→Option NestedKey
 | .non=>some .none
 | .int i=>some (.num i)
 | .str s=>some (.text s)
 | .tup l=>(nkDL l).map .tup
 | _=>none
def nkDL:List D→Option (List NestedKey)
 | [] =>some []
 |d::l=>match nkD d,nkDL l with
  |some k,some ks=>some (k::ks)
  | _,_=>none
end
mutual
theorem nk_kD:∀(d:D) (k:NestedKey),nkD d=some k→d=kD k
 | .non,_,h=>by simp only[nkD,Option.some.injEq] at h;subst h;simp only[kD]
 | .int _,_,h=>by simp only[nkD,Option.some.injEq] at h;subst h;simp only[kD]
 | .str _,_,h=>by simp only[nkD,Option.some.injEq] at h;subst h;simp only[kD]
 | .tup l,_,h=>by
   simp only[nkD,Option.map_eq_some_iff] at h
   obtain⟨ks,h1,rfl⟩:=h
   simp only[kD]
   rw[nkL_kD l ks h1]
 | .bl _,_,h=>by simp[nkD] at h
 | .lst _,_,h=>by simp[nkD] at h
 | .dic _ _,_,h=>by simp[nkD] at h
 | .obj _,_,h=>by simp[nkD] at h
 | .glb _,_,h=>by simp[nkD] at h
 | .ty _,_,h=>by simp[nkD] at h
 | .scr _,_,h=>by simp[nkD] at h
 | .kd _ _,_,h=>by simp[nkD] at h
 | .xcp _ _ _,_,h=>by simp[nkD] at h
 | .lam _ _,_,h=>by simp[nkD] at h
 | .wtp _,_,h=>by simp[nkD] at h
theorem nkL_kD:∀(l:List D) (ks:List NestedKey),nkDL l=some ks→l=kDL ks
 | [],_,h=>by simp only[nkDL,Option.some.injEq] at h;subst h;simp only[kDL]
 |d::l,_,h=>by
  simp only[nkDL] at h
  split at h
  ·rename_i k ks h1 h2
   cases h
   simp only[kDL]
   rw[nk_kD d k h1,nkL_kD l ks h2]
   all_goals rfl
  ·cases h
end
mutual
theorem kD_py:∀(k:NestedKey) (y:PyData),toPy (kD k)=some y→y=k.data
 | .none,y,h=>by simp only[kD,toPy,Option.some.injEq] at h;subst h;simp only[NestedKey.data]
 | .num i,y,h=>by simp only[kD,toPy,Option.some.injEq] at h;subst h;simp only[NestedKey.data]
 | .text x,y,h=>by
   simp only[kD,toPy] at h
   split at h
   ·cases h;simp only[NestedKey.data]
   ·cases h
 | .tup ks,y,h=>by
   simp only[kD,toPy,Option.map_eq_some_iff] at h
   obtain⟨ys,h1,rfl⟩:=h
   simp only[NestedKey.data]
   rw[kDL_py ks ys h1]
theorem kDL_py:∀(ks:List NestedKey) (ys:List PyData),toPyL (kDL ks)=some ys→ys=NestedKey.datas ks
 | [],_,h=>by simp only[kDL,toPyL,Option.some.injEq] at h;subst h;simp only[NestedKey.datas]
 |k::ks,_,h=>by
  simp only[kDL,toPyL] at h
  split at h
  ·rename_i x xs h1 h2
   cases h
   simp only[NestedKey.datas]
   rw[kD_py k x h1,kDL_py ks xs h2]
  ·cases h
end
def ddK:List NestedKey→List NestedKey
 | [] => []
 |k::l=>if k ∈ l then ddK l else k::ddK l
theorem ddK_mem:∀ {l:List NestedKey} {x:NestedKey},x ∈ ddK l↔x ∈ l
 | [],x=>by simp[ddK]
 |k::l,x=>by
  unfold ddK
  split
  ·rename_i h
   rw[ddK_mem (l:=l),List.mem_cons]
   exact⟨.inr,fun h'=>h'.elim (fun e=>e▸h) id⟩
  ·rw[List.mem_cons,List.mem_cons,ddK_mem (l:=l)]
theorem ddK_nodup:∀l:List NestedKey,(ddK l).Nodup
 | [] =>by simp[ddK]
 |k::l=>by
  unfold ddK
  split
  ·exact ddK_nodup l
  ·rename_i h
   exact List.nodup_cons.mpr ⟨fun h'=>h (ddK_mem.mp h'),ddK_nodup l⟩
def keyN:L2.Key→NestedKey
 | .inl i=> .num i
 | .inr x=> .text x
def keyU:Elt→NestedKey
 | .inl k=>keyN k
 | .inr p=>p.2
def isTN:NestedKey→Bool
 | .num _=>true
 | .text _=>true
 | _=>false
def isTp:NestedKey→Bool
 | .tup _=>true
 | _=>false
def okSt (l:List D):Bool:=decide (l.length≤sizeLine)&&(l.all fun d=>(toPy d).isSome&&decide ((encD d).depth≤40))&&(l.all fun a=>l.all fun b=>PySem.W.alike (encD a) (encD b))&&((l.all fun d=>isTup1 (encD d)) || (l.all fun d=>isOther (encD d)))
def noTie (ks:List NestedKey):Bool:=ks.all fun a=>ks.all fun b=>decide (a=b) || !(srtLe (kD a) (kD b)&&srtLe (kD b) (kD a))
def fstT:PyData→Option Str
 | .tuple (.str x::_)=>some x
 | _=>none
def okFs (l:List D):Bool:=decide (l.length≤sizeLine)&&(l.all fun d=>(toPy d).isSome&&decide ((encD d).depth≤40))&&(l.all fun d=>(fstT (encD d)).isSome)&&(l.all fun a=>l.all fun b=>PySem.W.alike (encD a) (encD b) || decide (fstT (encD a)≠fstT (encD b)))
def okSd (l:List D):Bool:=okSt l || okFs l || (decide (l.length≤1)&&sortOk l)
theorem okSd_of {l:List D} (h:okSt l=true):okSd l=true:=by simp[okSd,h]
theorem okSd_py {l:List D} (h:okSd l=true) {d:D} (hd:d ∈ l):(toPy d).isSome=true:=by
 simp only[okSd,Bool.or_eq_true,Bool.and_eq_true] at h
 rcases h with(h|h)|h
 ·simp only[okSt,Bool.and_eq_true,List.all_eq_true] at h
  exact(h.1.1.2 d hd).1
 ·simp only[okFs,Bool.and_eq_true,List.all_eq_true] at h
  exact(h.1.1.2 d hd).1
 ·simp only[sortOk,Bool.and_eq_true,List.all_eq_true] at h
  exact(h.2.1.1.2 d hd).1
def okSet (ks:List NestedKey):Bool:=((ks.all isTN&&decide (ks.length≤4000)) || (ks.all isTp&&(ks.all fun k=>decide (k.depth≤8))&&decide (ks.length<1200)))&&okSd ((ddK ks).map kD)&&noTie (ddK ks)
def sortSetD:F1:=fun x S=>match x with
 | .lst l=>match nkDL l with
   |some ks=>if okSet ks=true then .ok (.lst (sortL ((ddK ks).map kD))) S else .bad
   |none=> .bad
 | _=> .bad
theorem okS_perm {l m:List D} (p:m.Perm l) (h:okSt l=true):sortOk m=true:=by
 simp only[okSt,sortOk,Bool.and_eq_true,List.all_eq_true,decide_eq_true_eq,Bool.or_eq_true] at h ⊢
 obtain⟨⟨⟨h1,h2⟩,h3⟩,h4⟩:=h
 refine⟨⟨⟨by rw[p.length_eq];exact h1,fun d hd=>h2 d (p.mem_iff.mp hd)⟩,fun a ha b hb=>h3 a (p.mem_iff.mp ha) b (p.mem_iff.mp hb)⟩, .inl ?_⟩
 exact h4.imp (fun h d hd=>h d (p.mem_iff.mp hd)) (fun h d hd=>h d (p.mem_iff.mp hd))
theorem okFs_perm {l m:List D} (p:m.Perm l) (h:okFs l=true):okFs m=true:=by
 simp only[okFs,Bool.and_eq_true,List.all_eq_true,decide_eq_true_eq] at h ⊢
 obtain⟨⟨⟨h1,h2⟩,h3⟩,h4⟩:=h
 exact⟨⟨⟨by rw[p.length_eq];exact h1,fun d hd=>h2 d (p.mem_iff.mp hd)⟩,fun d hd=>h3 d (p.mem_iff.mp hd)⟩,fun a ha b hb=>h4 a (p.mem_iff.mp ha) b (p.mem_iff.mp hb)⟩
structure SrtOk (l:List D):Prop where
 len:l.length≤sizeLine
 py:∀d ∈ l,(toPy d).isSome=true
 kind:∀ {prog:Program} {ww:World} {A:Around} {s:Shared} {us:List Value},EachIs (fun u d=>∃as,Reads s.heap u (encD d) as) us l→A.units+42<cLine→SortsAt prog ww A s (dataKind s.heap (l.map encD)) us
 vals:∀ {h':Heap} {R:Value→D→Prop} {vs:List Value},EachIs R vs l→EachIs (fun v b=>∃as,Reads h' v (encD b) as) vs l→EachIs R (PySem.W.sortVals (dataKind h' (l.map encD)) false vs vs) (l.mergeSort (PySem.W.dataLe false encD))
theorem srt_old {l:List D} (h:sortOk l=true):SrtOk l:=by
 have h':=h
 simp only[sortOk,Bool.and_eq_true,List.all_eq_true,decide_eq_true_eq] at h'
 have al:AllAlike (l.map encD):=fun x hx y hy=>by
  obtain⟨a,ha,rfl⟩:=List.mem_map.mp hx
  obtain⟨b,hb,rfl⟩:=List.mem_map.mp hy
  exact h'.1.2 a ha b hb
 exact⟨h'.1.1.1,fun d hd=>(h'.1.1.2 d hd).1,fun e hu=>sort_kind h e hu,fun e er=>PySem.W.sortVals_data false e er al⟩
theorem fstT_some {d:PyData} {x:Str} (h:fstT d=some x):∃r,d= .tuple (.str x::r):=by
 unfold fstT at h
 split at h
 ·cases h;exact⟨_,rfl⟩
 ·cases h
theorem srt_fs {l:List D} (h:okFs l=true):SrtOk l:=by
 simp only[okFs,Bool.and_eq_true,List.all_eq_true,decide_eq_true_eq,Bool.or_eq_true] at h
 obtain⟨⟨⟨h1,h2⟩,h3⟩,h4⟩:=h
 have hf:HasFirst (l.map encD):=fun d hd=>by
  obtain⟨a,ha,rfl⟩:=List.mem_map.mp hd
  obtain⟨x,hx⟩:=Option.isSome_iff_exists.mp (h3 a ha)
  obtain⟨r,e⟩:=fstT_some hx
  exact⟨x,r,e⟩
 have al:AllApart (l.map encD):=fun x hx y hy=>by
  obtain⟨a,ha,rfl⟩:=List.mem_map.mp hx
  obtain⟨b,hb,rfl⟩:=List.mem_map.mp hy
  rcases h4 a ha b hb with q|q
  ·exact .inl q
  ·obtain⟨x,r,e⟩:=hf _ hx
   obtain⟨y,t,e'⟩:=hf _ hy
   refine .inr ⟨x,y,r,t,e,e',?_⟩
   rintro rfl
   rw[e,e'] at q
   exact q rfl
 exact⟨h1,fun d hd=>(h2 d hd).1,fun e hu=>sorts_apart (PySem.W.each_map (R:=fun u d=>∃as,Reads _ u d as) encD e) al hf (fun x hx=>by
  obtain⟨a,ha,rfl⟩:=List.mem_map.mp hx
  have:=(h2 a ha).2
  omega),fun e er=>sortVals_apart false e er al⟩
theorem srt_of {l m:List D} (p:m.Perm l) (h:okSd l=true):SrtOk m:=by
 simp only[okSd,Bool.or_eq_true,Bool.and_eq_true,decide_eq_true_eq] at h
 rcases h with(h|h)|⟨h1,h2⟩
 ·exact srt_old (okS_perm p h)
 ·exact srt_fs (okFs_perm p h)
 ·have e:m=l:=by
   cases l with
   |nil=>exact p.eq_nil
   |cons a l=>
    cases l with
    |nil=>exact List.perm_singleton.mp p
    |cons b l=>simp at h1
  rw[e]
  exact srt_old h2
theorem sTr (a b c:D) (h1:srtLe a b=true) (h2:srtLe b c=true):srtLe a c=true:=by
 unfold srtLe PySem.W.dataLt at*
 simp only[Bool.not_eq_true'] at*
 cases h:PyProof.Rows.lexLt itemOrd (PySem.W.keyToks (encD c)) (PySem.W.keyToks (encD a)) with
 |false=>rfl
 |true=>
  rcases(PyProof.Rows.listOrd itemOrd).negTrans _ (PySem.W.keyToks (encD b)) _ h with h|h
  ·exact absurd (h2.symm.trans h) (by simp)
  ·exact absurd (h1.symm.trans h) (by simp)
theorem sTo (a b:D):(srtLe a b || srtLe b a)=true:=by
 unfold srtLe PySem.W.dataLt
 cases h1:PyProof.Rows.lexLt itemOrd (PySem.W.keyToks (encD b)) (PySem.W.keyToks (encD a)) with
 |false=>rfl
 |true=>
  cases h2:PyProof.Rows.lexLt itemOrd (PySem.W.keyToks (encD a)) (PySem.W.keyToks (encD b)) with
  |false=>rfl
  |true=>
   have:=(PyProof.Rows.listOrd itemOrd).trans _ _ _ h1 h2
   rw[(PyProof.Rows.listOrd itemOrd).irrefl] at this
   cases this
theorem sortK_perm {ks:List NestedKey} (h:noTie ks=true) {m:List D} (p:m.Perm (ks.map kD)):m.mergeSort srtLe=sortL (ks.map kD):=by
 unfold sortL
 have q:(m.mergeSort srtLe).Perm ((ks.map kD).mergeSort srtLe):=(List.mergeSort_perm _ _).trans (p.trans (List.mergeSort_perm _ _).symm)
 refine List.Perm.eq_of_pairwise (le:=fun a b=>srtLe a b=true) ?_ (List.pairwise_mergeSort sTr sTo _) (List.pairwise_mergeSort sTr sTo _) q
 intro a b ha hb h1 h2
 obtain⟨x,hx,rfl⟩:=List.mem_map.mp (p.mem_iff.mp ((List.mergeSort_perm _ _).mem_iff.mp ha))
 obtain⟨y,hy,rfl⟩:=List.mem_map.mp ((List.mergeSort_perm _ _).mem_iff.mp hb)
 simp only[noTie,List.all_eq_true,Bool.or_eq_true,decide_eq_true_eq,Bool.not_eq_true',Bool.and_eq_false_iff] at h
 rcases h x hx y hy with e|e|e
 ·rw[e]
 ·rw[h1] at e;cases e
 ·rw[h2] at e;cases e
theorem each_perm {α β :Type} {R: α → β →Prop} {vs us:List α} (p:vs.Perm us):∀ {bs:List β},EachIs R us bs→∃bs',bs'.Perm bs∧EachIs R vs bs':=by
 induction p with
 |nil=>intro bs e;cases e;exact⟨[], .refl _, .nil⟩
 |cons x _ ih=>
  intro bs e
  cases e with
  |cons r e=>
   obtain⟨bs',p',e'⟩:=ih e
   exact⟨_,p'.cons _, .cons r e'⟩
 |swap x y l=>
  intro bs e
  cases e with
  |cons r1 e=>cases e with
   |cons r2 e=>exact⟨_,List.Perm.swap _ _ _, .cons r2 (.cons r1 e)⟩
 |trans _ _ ih1 ih2=>
  intro bs e
  obtain⟨b1,p1,e1⟩:=ih2 e
  obtain⟨b2,p2,e2⟩:=ih1 e1
  exact⟨b2,p2.trans p1,e2⟩
def EltRep (G:GC) (w:Wd) (d:D) (e:Elt):Prop:=nkD d=some (keyU e)∧Rep G w d (valU e)
end L3
namespace L3
open PySem
theorem nrfl {α :Sort u} {a b: α} (h:a=b):a=b:=h
inductive All2 {α β :Type} (P: α → β →Prop):List α →List β →Prop where
 |nil:All2 P [] []
 |cons {x y xs ys} :P x y→All2 P xs ys→All2 P (x::xs) (y::ys)
theorem All2.imp {α β :Type} {P R: α → β →Prop} {xs ys} (h:All2 P xs ys) (m:∀x ∈ xs,∀y,P x y→R x y):All2 R xs ys:=by
 induction h with
 |nil=>exact .nil
 |cons p _ ih=>exact .cons (m _ (List.mem_cons_self ..) _ p) (ih fun x hx=>m x (List.mem_cons_of_mem _ hx))
theorem All2.len {α β :Type} {P: α → β →Prop} {xs ys} (h:All2 P xs ys):ys.length=xs.length:=by induction h<;>simp_all
inductive R.sat {α :Type} :R α →(α →Store→Prop)→Prop where
 |mk {a: α} {S:Store} {Q: α →Store→Prop} (h:Q a S):R.sat (.ok a S) Q
section
variable {α β :Type} {S:Store} {env:EnvD} {d:D}
@[simp] theorem sat_ok {a: α} {Q: α →Store→Prop} :(R.ok a S).sat Q=Q a S:=propext ⟨fun h=>by cases h;assumption, .mk⟩
@[simp] theorem sat_bad {Q: α →Store→Prop} :(R.bad:R α).sat Q=False:=propext ⟨fun h=>(by cases h),False.elim⟩
@[simp] theorem sat_exc {e:Ex} {Q: α →Store→Prop} :(R.exc e S:R α).sat Q=False:=propext ⟨fun h=>(by cases h),False.elim⟩
theorem sat_bind {r:R α} {f: α →Store→R β} {Q: β →Store→Prop} :(r.bind f).sat Q=r.sat fun a S=>(f a S).sat Q:=by cases r<;>simp[R.bind]
theorem sat_mono {r:R α} {Q Q': α →Store→Prop} (h:r.sat Q) (m:∀a S,Q a S→Q' a S):r.sat Q':=by cases h with|mk h=>exact .mk (m _ _ h)
theorem sat_ex {r:R α} {Q: α →Store→Prop} :r.sat Q↔∃a S,r= .ok a S∧Q a S:=
 ⟨fun h=>by cases h with|mk h=>exact⟨_,_,rfl,h⟩,fun⟨_,_,e,h⟩=>by rw[e];exact .mk h⟩
theorem sat_if_bad {c:Prop} [Decidable c] {a:R α} {Q: α →Store→Prop} :(if c then a else .bad).sat Q=(c∧a.sat Q):=by by_cases h:c<;>simp[h]
def blD (x:D) (S:Store):R Bool:=match x with
 | .bl k=> .ok k S
 | _=> .bad
@[simp] theorem blD_bl {k:Bool} :blD (.bl k) S= .ok k S:=nrfl rfl
theorem of_sat {r:R α} {x: α} (h:r.sat fun d S'=>d=x∧S'=S):r= .ok x S:=by
 obtain⟨a,S',e,rfl,rfl⟩:=sat_ex.mp h
 exact e
theorem to_sat {r:R α} {x: α} {Q: α →Store→Prop} (h:r= .ok x S) (q:Q x S):r.sat Q:=by rw[h];exact .mk q
variable {Q:D→Store→Prop} {QB:Bool→Store→Prop} {QL:List D→Store→Prop}
@[simp] theorem sat_eVar {i:Nat} :(eVar i env S).sat Q=match env[i]? with
   |some (some d)=>Q d S
   | _=>False:=by unfold eVar;cases env[i]? with
  |none=>simp
  |some o=>cases o<;>simp
@[simp] theorem sat_eK:(eK d env S).sat Q=Q d S:=sat_ok
@[simp] theorem sat_e1 {f:L3.F1} {a:ED} :(e1 f a env S).sat Q=(a env S).sat fun x S1=>(f x S1).sat Q:=sat_bind
@[simp] theorem sat_e2 {f:L3.F2} {a b:ED} :(e2 f a b env S).sat Q=(a env S).sat fun x S1=>(b env S1).sat fun y S2=>(f x y S2).sat Q:=by unfold e2;rw[sat_bind];simp only[sat_bind]
@[simp] theorem sat_aNil:(aNil env S).sat QL=QL [] S:=sat_ok
@[simp] theorem sat_aCons {a:ED} {r:AD} :(aCons a r env S).sat QL=(a env S).sat fun x S1=>(r env S1).sat fun xs S2=>QL (x::xs) S2:=by unfold aCons;rw[sat_bind];simp only[sat_bind,sat_ok]
@[simp] theorem sat_eN {f:FN} {a:AD} :(eN f a env S).sat Q=(a env S).sat fun xs S1=>(f xs S1).sat Q:=sat_bind
@[simp] theorem sat_eIf {c:TD} {a b:ED} :(eIf c a b env S).sat Q=(c env S).sat fun k S1=>if k=true then(a env S1).sat Q else(b env S1).sat Q:=by
  unfold eIf;rw[sat_bind];congr;funext k S1;cases k<;>simp
@[simp] theorem sat_tOfE {a:ED} :(tOfE a env S).sat QB=(a env S).sat fun x S1=>(blD x S1).sat QB:=by
  unfold tOfE;rw[sat_bind];congr
@[simp] theorem sat_tTruth {a:ED} :(tTruth a env S).sat QB=(a env S).sat fun x S1=>(truthD x S1).sat QB:=sat_bind
@[simp] theorem truthD_bl {k:Bool} :truthD (.bl k) S= .ok k S:=nrfl rfl
@[simp] theorem truthD_non:truthD .non S= .ok false S:=nrfl rfl
@[simp] theorem truthD_int {i:Int} :truthD (.int i) S= .ok (i != 0) S:=nrfl rfl
@[simp] theorem truthD_tup {l:List D} :truthD (.tup l) S= .ok (!l.isEmpty) S:=nrfl rfl
@[simp] theorem truthD_lst {l:List D} :truthD (.lst l) S= .ok (!l.isEmpty) S:=nrfl rfl
@[simp] theorem sat_tNot {a:TD} :(tNot a env S).sat QB=(a env S).sat fun k S1=>QB (!k) S1:=by unfold tNot;rw[sat_bind];simp only[sat_ok]
@[simp] theorem sat_tAnd {a b:TD} :(tAnd a b env S).sat QB=(a env S).sat fun k S1=>if k=true then(b env S1).sat QB else QB false S1:=by
  unfold tAnd;rw[sat_bind];congr;funext k S1;cases k<;>simp
@[simp] theorem sat_tOr {a b:TD} :(tOr a b env S).sat QB=(a env S).sat fun k S1=>if k=true then QB true S1 else(b env S1).sat QB:=by
  unfold tOr;rw[sat_bind];congr;funext k S1;cases k<;>simp
@[simp] theorem sat_eNot {a:ED} :(eNot a env S).sat Q=(a env S).sat fun x S1=>(blD x S1).sat fun k S2=>Q (.bl (!k)) S2:=by
  unfold eNot;rw[sat_bind,sat_tOfE];simp only[sat_ok]
@[simp] theorem sat_eAnd {a b:ED} :(eAnd a b env S).sat Q=(a env S).sat fun x S1=>(blD x S1).sat fun k S2=>if k=true then(b env S2).sat Q else Q (.bl false) S2:=by
  unfold eAnd;rw[sat_bind,sat_tOfE];congr;funext x S1;congr;funext k S2;cases k<;>simp
@[simp] theorem sat_eOr {a b:ED} :(eOr a b env S).sat Q=(a env S).sat fun x S1=>(blD x S1).sat fun k S2=>if k=true then Q (.bl true) S2 else(b env S2).sat Q:=by
  unfold eOr;rw[sat_bind,sat_tOfE];congr;funext x S1;congr;funext k S2;cases k<;>simp
@[simp] theorem sat_eChain {f g:L3.F2} {a b c:ED} :(eChain f g a b c env S).sat Q=(a env S).sat fun x S1=>(b env S1).sat fun y S2=>(f x y S2).sat fun r S3=>(blD r S3).sat fun k S4=>if k=true then(c env S4).sat fun z S5=>(g y z S5).sat Q else Q (.bl false) S4:=by
  unfold eChain;rw[sat_bind];simp only[sat_bind];congr;funext x S1;congr;funext y S2;congr;funext r S3
  cases r with
  |bl k=>cases k<;>simp[sat_bind]
  | _=>simp[blD]
@[simp] theorem sat_eBM {T:String} {f:D→FN} {o:ED} {a:AD} :(eBM T f o a env S).sat Q=(o env S).sat fun x S1=>(mtD x S1=some T∧(a env S1).sat fun xs S2=>(f x xs S2).sat Q):=by
  unfold eBM;rw[sat_bind];congr;funext x S1;rw[sat_if_bad,sat_bind]
@[simp] theorem sat_eKw {f:List D→FN} {a b:AD} :(eKw f a b env S).sat Q=(a env S).sat fun xs S1=>(b env S1).sat fun zs S2=>(f xs zs S2).sat Q:=by unfold eKw;rw[sat_bind];simp only[sat_bind]
@[simp] theorem sat_eFnL {i:Nat} {x:Str} {F:FN} {a:AD} :(eFnL i x F a env S).sat Q=match env[i]? with
   |some (some (.glb y))=>y=x∧(a env S).sat fun xs S1=>(F xs S1).sat Q
   | _=>False:=by
  unfold eFnL
  cases env[i]? with
  |none=>simp
  |some o=>
   cases o with
   |none=>simp
   |some d=>
    cases d with
    |glb y=>simp only [];rw[sat_if_bad,sat_bind]
    | _=>simp
@[simp] theorem callK_eq {F:FN} {dds xs:List D} :callK F dds xs S=F (xs++dds) S:=nrfl rfl
@[simp] theorem sat_iSeq {a:ED} :(iSeq a env S).sat QL=(a env S).sat fun x S1=>(itemsD x S1).sat QL:=sat_bind
@[simp] theorem sat_iArgs {f:List D→Store→R (List D)} {a:AD} :(iArgs f a env S).sat QL=(a env S).sat fun xs S1=>(f xs S1).sat QL:=sat_bind
@[simp] theorem itemsD_lst {l:List D} :itemsD (.lst l) S= .ok l S:=nrfl rfl
@[simp] theorem itemsD_tup {l:List D} :itemsD (.tup l) S= .ok l S:=nrfl rfl
@[simp] theorem sat_range1 {j:Int} :(range1 [.int j] S).sat QL=(okRng j=true∧QL (rangeD 0 j) S):=by unfold range1;simp only [];rw[sat_if_bad,sat_ok]
@[simp] theorem sat_range2 {i j:Int} :(range2 [.int i, .int j] S).sat QL=((okRng i&&okRng j)=true∧QL (rangeD i j) S):=by unfold range2;simp only [];rw[sat_if_bad,sat_ok]
@[simp] theorem sat_mkTup {xs:List D} :(mkTup xs S).sat Q=(xs.length≤sizeLine∧Q (.tup xs) S):=by unfold mkTup;rw[sat_if_bad,sat_ok]
@[simp] theorem sat_mkLst {xs:List D} :(mkLst xs S).sat Q=(xs.length≤sizeLine∧Q (.lst xs) S):=by unfold mkLst;rw[sat_if_bad,sat_ok]
@[simp] theorem sat_mkObj {xs:List D} :(mkObj xs S).sat Q=(xs.length≤sizeLine∧Q (.obj S.length) (S++ [.lst xs])):=by unfold mkObj;rw[sat_if_bad,sat_ok]
def lcSat (g:GD) (tt:TD) (te:ED) (env:EnvD):List D→Store→(List D→Store→Prop)→Prop
 | [],S,Q=>Q [] S
 |x::xs,S,Q=>match g x env S with
  | .nx env1 S1=>(tt env1 S1).sat fun k S2=>if k=true then(te env1 S2).sat fun y S3=>lcSat g tt te env xs S3 fun ys S4=>Q (y::ys) S4 else lcSat g tt te env xs S2 Q
  | _=>False
theorem sat_nox {r:R α} {Q: α →Store→Prop} :r.nox.sat Q=r.sat Q:=by cases r<;>simp[R.nox]
theorem sat_lcL {g:GD} {tt:TD} {te:ED} {env:EnvD} :∀ {xs:List D} {S:Store} {Q:List D→Store→Prop},(lcL g tt te env xs S).sat Q=lcSat g tt te env xs S Q
 | [],_,_=>sat_ok
 |x::xs,S,Q=>by
  unfold lcL lcSat
  cases g x env S with
  |nx env1 S1=>
   simp only
   rw[sat_bind,sat_nox]
   congr;funext k S2
   cases k with
   |true=>simp only[if_true];rw[sat_bind,sat_nox];congr;funext y S3;rw[sat_bind,sat_lcL];simp only[sat_ok]
   |false=>simp only[Bool.false_eq_true,if_false];exact sat_lcL
  | _=>simp
theorem sat_eLc {mi:ID} {vs:List Nat} {g:GD} {tt:TD} {te:ED} :(eLc mi vs g tt te env S).sat Q=(mi env S).sat fun xs S1=>(xs.length≤sizeLine∧lcSat g tt te (wipeD env vs) xs S1 fun ys S2=>Q (.lst ys) S2):=by
 unfold eLc;rw[sat_bind];congr;funext xs S1;rw[sat_if_bad,sat_bind,sat_lcL];simp only[sat_ok]
theorem lc_rule {i:Nat} {te:ED} {env:EnvD} (I:Store→Prop) (P:D→D→Prop):∀ {xs:List D} {S:Store} {Q:List D→Store→Prop},
 I S→(∀ x ∈ xs,∀S,I S→(te (env.set i (some x)) S).sat fun y S'=>P x y∧I S')→(∀ ys S',I S'→All2 P xs ys→Q ys S')→lcSat (gName i) tYesD te env xs S Q
 | [],S,Q,hI,ht,hQ=>hQ [] S hI .nil
 |x::xs,S,Q,hI,ht,hQ=>by
  unfold lcSat
  simp only[gName,tYesD,sat_ok,if_true]
  refine sat_mono (ht x (List.mem_cons_self ..) S hI) fun y S3 h=> ?_
  exact lc_rule I P h.2 (fun x hx=>ht x (List.mem_cons_of_mem _ hx)) fun ys S' h1 h2=>hQ _ _ h1 (.cons h.1 h2)
theorem lc_map {i:Nat} {te:ED} {env:EnvD} (f:D→D) {xs:List D} {S:Store} {Q:List D→Store→Prop}
 (ht:∀x ∈ xs,(te (env.set i (some x)) S).sat fun y S'=>y=f x∧S'=S) (hQ:Q (xs.map f) S):lcSat (gName i) tYesD te env xs S Q:=by
 induction xs generalizing Q with
 |nil=>exact hQ
 |cons x xs ih=>
  unfold lcSat
  simp only[gName,tYesD,sat_ok,if_true]
  refine sat_mono (ht x (List.mem_cons_self ..)) fun y S' h=> ?_
  obtain⟨rfl,rfl⟩:=h
  exact ih (fun x hx=>ht x (List.mem_cons_of_mem _ hx)) hQ
end
inductive SR.sat:SR→(EnvD→Store→Prop)→(D→Store→Prop)→(EnvD→Store→Prop)→(EnvD→Store→Prop)→Prop where
 |nx {e S} {N:EnvD→Store→Prop} {T:D→Store→Prop} {B C:EnvD→Store→Prop} (h:N e S):SR.sat (.nx e S) N T B C
 |ret {d S} {N:EnvD→Store→Prop} {T:D→Store→Prop} {B C:EnvD→Store→Prop} (h:T d S):SR.sat (.ret d S) N T B C
 |brk {e S} {N:EnvD→Store→Prop} {T:D→Store→Prop} {B C:EnvD→Store→Prop} (h:B e S):SR.sat (.brk e S) N T B C
 |ct {e S} {N:EnvD→Store→Prop} {T:D→Store→Prop} {B C:EnvD→Store→Prop} (h:C e S):SR.sat (.ct e S) N T B C
section
variable {S:Store} {env:EnvD} {d:D} {N B C:EnvD→Store→Prop} {T:D→Store→Prop} {Q:D→Store→Prop}
@[simp] theorem ssat_nx:(SR.nx env S).sat N T B C=N env S:=propext ⟨fun h=>by cases h;assumption, .nx⟩
@[simp] theorem ssat_ret:(SR.ret d S).sat N T B C=T d S:=propext ⟨fun h=>by cases h;assumption, .ret⟩
@[simp] theorem ssat_brk:(SR.brk env S).sat N T B C=B env S:=propext ⟨fun h=>by cases h;assumption, .brk⟩
@[simp] theorem ssat_ct:(SR.ct env S).sat N T B C=C env S:=propext ⟨fun h=>by cases h;assumption, .ct⟩
@[simp] theorem ssat_bad:SR.bad.sat N T B C=False:=propext ⟨fun h=>(by cases h),False.elim⟩
@[simp] theorem ssat_exc {e:Ex} :(SR.exc e env S).sat N T B C=False:=propext ⟨fun h=>(by cases h),False.elim⟩
theorem ssat_toS {α :Type} {r:R α} {k: α →Store→SR} :(r.toS env k).sat N T B C=r.sat fun a S=>(k a S).sat N T B C:=by cases r<;>simp[R.toS]
theorem ssat_mono {r:SR} {N' B' C':EnvD→Store→Prop} {T':D→Store→Prop} (h:r.sat N T B C) (hN:∀e S,N e S→N' e S) (hT:∀d S,T d S→T' d S) (hB:∀e S,B e S→B' e S) (hC:∀e S,C e S→C' e S):r.sat N' T' B' C':=by
 cases h with
 |nx h=>exact .nx (hN _ _ h)
 |ret h=>exact .ret (hT _ _ h)
 |brk h=>exact .brk (hB _ _ h)
 |ct h=>exact .ct (hC _ _ h)
@[simp] theorem ssat_skip:(sSkip env S).sat N T B C=N env S:=ssat_nx
@[simp] theorem ssat_seq {a b:SD} :(sSeq a b env S).sat N T B C=(a env S).sat (fun e S=>(b e S).sat N T B C) T B C:=by
  unfold sSeq;cases a env S<;>simp
@[simp] theorem ssat_if {c:TD} {a b:SD} :(sIf c a b env S).sat N T B C=(c env S).sat fun k S1=>if k=true then(a env S1).sat N T B C else(b env S1).sat N T B C:=by
  unfold sIf;rw[ssat_toS];congr;funext k S1;cases k<;>simp
@[simp] theorem ssat_sRet {a:ED} :(sRet a env S).sat N T B C=(a env S).sat T:=by unfold sRet;rw[ssat_toS];simp only[ssat_ret]
@[simp] theorem ssat_sExpr {a:ED} :(sExpr a env S).sat N T B C=(a env S).sat fun _ S1=>N env S1:=by unfold sExpr;rw[ssat_toS];simp only[ssat_nx]
@[simp] theorem ssat_sBrk:(sBrk env S).sat N T B C=B env S:=ssat_brk
@[simp] theorem ssat_sCt:(sCt env S).sat N T B C=C env S:=ssat_ct
@[simp] theorem ssat_asg {a:ED} {g:GD} :(sAsg a g env S).sat N T B C=(a env S).sat fun d S1=>(g d env S1).sat N T B C:=by unfold sAsg;rw[ssat_toS]
@[simp] theorem gName_eq {i:Nat} :gName i d env S= .nx (env.set i (some d)) S:=nrfl rfl
@[simp] theorem gTup_wtp {is:List Nat} {l:List Int} :gTup is (.wtp l) env S=gNames is (l.map D.int) env S:=nrfl rfl
@[simp] theorem gTup_tup {is:List Nat} {l:List D} :gTup is (.tup l) env S=gNames is l env S:=nrfl rfl
@[simp] theorem gNames_nil:gNames [] [] env S= .nx env S:=nrfl rfl
@[simp] theorem gNames_cons {i:Nat} {is:List Nat} {ds:List D} :gNames (i::is) (d::ds) env S=gNames is ds (env.set i (some d)) S:=nrfl rfl
@[simp] theorem ssat_par {is:List Nat} {a:AD} :(sPar is a env S).sat N T B C=(a env S).sat fun xs S1=>(gNames is xs env S1).sat N T B C:=by unfold sPar;rw[ssat_toS]
theorem ssat_for {mi:ID} {g:GD} {body:SD} :(sFor mi g body env S).sat N T B C=(mi env S).sat fun xs S1=>(forL g body xs env S1).sat N T B C:=by unfold sFor;rw[ssat_toS]
@[simp] theorem forL_nil {g:GD} {body:SD} :(forL g body [] env S).sat N T B C=N env S:=ssat_nx
theorem forL_cons {g:GD} {body:SD} {x:D} {xs:List D} :(forL g body (x::xs) env S).sat N T B C=(g x env S).sat (fun e S=>(body e S).sat (fun e S=>(forL g body xs e S).sat N T B C) T N (fun e S=>(forL g body xs e S).sat N T B C)) (fun _ _=>False) (fun _ _=>False) fun _ _=>False:=by
 show SR.sat (match g x env S with
  | .nx env1 S1=>match body env1 S1 with
    | .nx env2 S2=>forL g body xs env2 S2
    | .ct env2 S2=>forL g body xs env2 S2
    | .brk env2 S2=> .nx env2 S2
    | .ret d S2=> .ret d S2
    | .exc e env2 S2=> .exc e env2 S2
    | .bad=> .bad
  | _=> .bad) N T B C=_
 cases g x env S with
 |nx env1 S1=>simp only[ssat_nx];cases body env1 S1<;>simp
 | _=>simp
theorem for_rule {g:GD} {body:SD} (I:Nat→EnvD→Store→Prop) {xs:List D} (h0:I 0 env S)
 (hs:∀j (hj:j<xs.length) e S,I j e S→(g xs[j] e S).sat (fun e S=>(body e S).sat (I (j+1)) T N (I (j+1))) (fun _ _=>False) (fun _ _=>False) fun _ _=>False)
 (hN:∀e S,I xs.length e S→N e S):(forL g body xs env S).sat N T B C:=by
 induction xs generalizing I env S with
 |nil=>exact .nx (hN _ _ h0)
 |cons x xs ih=>
  rw[forL_cons]
  refine ssat_mono (hs 0 (by simp) env S h0) (fun e1 S1 h=> ?_) (fun _ _ h=>h) (fun _ _ h=>h) (fun _ _ h=>h)
  have go:∀e S,I 1 e S→(forL g body xs e S).sat N T B C:=fun e S h=>
   ih (fun j=>I (j+1)) h (fun j hj e S h=>by
    have:=hs (j+1) (by simp;omega) e S h
    simpa using this) (fun e S h=>hN e S (by simpa using h))
  exact ssat_mono h go (fun _ _ h=>h) (fun _ _ h=>h) go
theorem sat_run {np n:Nat} {body:SD} {xs:List D} :(run np n body xs S).sat Q=(xs.length=np∧(body (xs.map some++List.replicate (n-xs.length) none) S).sat (fun _ S=>Q .non S) Q (fun _ _=>False) fun _ _=>False):=by
 unfold run;rw[sat_if_bad];congr
 cases body (xs.map some++List.replicate (n-xs.length) none) S<;>simp[SR.fin]
end
section
variable {S:Store} {Q:D→Store→Prop}
@[simp] theorem add_int {i j:Int} :addD (.int i) (.int j) S= .ok (.int (i+j)) S:=nrfl rfl
@[simp] theorem sub_int {i j:Int} :subD (.int i) (.int j) S= .ok (.int (i-j)) S:=nrfl rfl
@[simp] theorem neg_int {i:Int} :negD (.int i) S= .ok (.int (-i)) S:=nrfl rfl
@[simp] theorem lt_int {i j:Int} :ltD (.int i) (.int j) S= .ok (.bl (decide (i<j))) S:=nrfl rfl
@[simp] theorem le_int {i j:Int} :leD (.int i) (.int j) S= .ok (.bl (decide (i≤j))) S:=nrfl rfl
@[simp] theorem gt_int {i j:Int} :gtD (.int i) (.int j) S= .ok (.bl (decide (j<i))) S:=nrfl rfl
@[simp] theorem ge_int {i j:Int} :geD (.int i) (.int j) S= .ok (.bl (decide (j≤i))) S:=nrfl rfl
theorem mul_int {i j:Int} :(mulD (.int i) (.int j) S).sat Q=(mulOk i j=true∧Q (.int (i*j)) S):=by unfold mulD;simp only [];rw[sat_if_bad,sat_ok]
theorem fdiv_int {i j:Int} :(fdivD (.int i) (.int j) S).sat Q=((0<j∧j.natAbs.log2<9000)∧Q (.int (i / j)) S):=by unfold fdivD;simp only [];rw[sat_if_bad,sat_ok]
theorem mod_int {i j:Int} :(modD (.int i) (.int j) S).sat Q=(0<j∧Q (.int (i % j)) S):=by unfold modD;simp only [];rw[sat_if_bad,sat_ok]
theorem ibeq (i j:Int):(i==j)=decide (i=j):=by rw[Bool.eq_iff_iff];simp
theorem eq_int {i j:Int} :eqD (.int i) (.int j) S= .ok (.bl (decide (i=j))) S:=by
 show(if min 0 0≤64 then R.ok (D.bl (i==j)) S else .bad)=_
 simp[ibeq]
theorem ne_int {i j:Int} :neD (.int i) (.int j) S= .ok (.bl (decide (i≠j))) S:=by
 show(if min 0 0≤64 then R.ok (D.bl (!(i==j))) S else .bad)=_
 simp[ibeq]
@[simp] theorem len_tup {l:List D} :lenD [.tup l] S= .ok (.int l.length) S:=nrfl rfl
@[simp] theorem len_lst {l:List D} :lenD [.lst l] S= .ok (.int l.length) S:=nrfl rfl
@[simp] theorem len_scr {l:List Int} :lenD [.scr l] S= .ok (.int l.length) S:=nrfl rfl
theorem len_obj {n:Nat} {l:List D} (h:S[n]? =some (.lst l)):lenD [.obj n] S= .ok (.int l.length) S:=by simp[lenD,asL,h]
@[simp] theorem tuple_lst {l:List D} :tupleD [.lst l] S= .ok (.tup l) S:=nrfl rfl
@[simp] theorem tuple_tup {l:List D} :tupleD [.tup l] S= .ok (.tup l) S:=nrfl rfl
theorem mtD_obj {n:Nat} {l:List D} (h:S[n]? =some (.lst l)):mtD (.obj n) S=some "list" :=by simp[mtD,h]
@[simp] theorem rangeD_len {lo hi:Int} :(rangeD lo hi).length=(hi-lo).toNat:=by simp[rangeD]
@[simp] theorem rangeD_get {lo hi:Int} {j:Nat} (h:j<(rangeD lo hi).length):(rangeD lo hi)[j] = .int (lo+j):=by simp[rangeD]
theorem append_obj {n:Nat} {l:List D} {y:D} (h:S[n]? =some (.lst l)):(appendD (.obj n) [y] S).sat Q=(l.length<sizeLine∧Q .non (S.set n (.lst (l++ [y])))):=by
 unfold appendD;simp only[lstAt,h];rw[sat_if_bad,sat_ok]
theorem tuple_obj {n:Nat} {l:List D} (h:S[n]? =some (.lst l)):tupleD [.obj n] S= .ok (.tup l) S:=by simp[tupleD,asL,h]
end
end L3
namespace L3
open PySem PySem.Spec PyProof.Rows L2
open PySem.W (SortsAt AllAlike EachIs dataKind)
theorem keyN_inj {a b:L2.Key} (h:keyN a=keyN b):a=b:=by
 cases a<;>cases b<;>simp_all [keyN]
def Side (S:List Elt):Prop:=(∃ ks:List L2.Key,S=ks.map Sum.inl)∨∃kps:List (Addr × NestedKey),S=kps.map Sum.inr
theorem each_mapR {α β γ :Type} {R: α → γ →Prop} (f: β → γ):∀ {l:List β} {g: β → α},(∀ b ∈ l,R (g b) (f b))→EachIs R (l.map g) (l.map f)
 | [],_,_=> .nil
 |b::l,g,h=> .cons (h b List.mem_cons_self) (each_mapR f fun b hb=>h b (List.mem_cons_of_mem _ hb))
theorem set_out {P:Program} {w:World} {h:Heap} {a:Addr} {S:List Elt} (R:ObP P w a S h) (side:Side S) (hz:S.length≤4000):
 ∃o es ep t,h.get? a=some o∧o.cls= .type "set" ∧o.data= .set es ep t∧t.fits es.size=true∧es.size<scanBound∧Ris t.place.toList∧(w.params.followText "set-order" =true∨t.led=true)∧
  ∃L:List Elt,EachIs (fun v e=>RelV (valU e) v) (es.toList.map (·.2)) L∧(L.map keyU).Nodup∧(∀ e ∈ L,e ∈ S)∧∀e ∈ S,keyU e ∈ L.map keyU:=by
 rcases side with⟨ks,rfl⟩|⟨kps,rfl⟩
 ·obtain⟨o,es,ep,t,ho,hex,hd,g,nd,hm,hf,hr,hl⟩:=R.2.1 ks rfl
  have hfew:=few_of nd hm
  rw[List.length_map] at hz
  refine⟨o,es,ep,t,ho,hex.1,hd,hf,by show es.size<4096;omega,hr,hl,es.toList.map fun e=> .inl (kyE e),each_mapR _ fun e he=>(g e he).1,?_,?_,?_⟩
  ·rw[List.map_map]
   have:(keyU ∘ fun e:Int × Value=>(.inl (kyE e):Elt))=keyN ∘ kyE:=rfl
   rw[this,←List.map_map]
   exact List.Pairwise.map _ (fun _ _ hne e=>hne (keyN_inj e)) nd
  ·intro e he
   obtain⟨x,hx,rfl⟩:=List.mem_map.mp he
   exact List.mem_map.mpr ⟨kyE x,(hm _).mpr (List.mem_map.mpr ⟨x,hx,rfl⟩),rfl⟩
  ·intro e he
   obtain⟨k,hk,rfl⟩:=List.mem_map.mp he
   obtain⟨x,hx,e⟩:=List.mem_map.mp ((hm k).mp hk)
   exact List.mem_map.mpr ⟨.inl (kyE x),List.mem_map.mpr ⟨x,hx,rfl⟩,by rw[e]⟩
 ·obtain⟨L,es,ep,t,⟨o,ho,hex,hd⟩,hr,tab,nd,led,room,few,sub,all⟩:=R.2.2 kps rfl
  have hs:=rowsH_len hr
  have h1:=tab.sz
  rw[List.length_map] at h1
  refine⟨o,es,ep,t,ho,hex.1,hd,fits_of (by omega) tab.dm (by omega),by show es.size<4096;omega,tab.ris,led,L.map Sum.inr,?_,?_,?_,?_⟩
  ·rw[hr,rowsH,List.map_map]
   exact each_mapR _ fun p _=>rfl
  ·rw[List.map_map];exact nd
  ·intro e he
   obtain⟨p,hp,rfl⟩:=List.mem_map.mp he
   exact List.mem_map.mpr ⟨p,sub p hp,rfl⟩
  ·intro e he
   obtain⟨p,hp,rfl⟩:=List.mem_map.mp he
   rw[List.map_map]
   exact all p hp
section
variable {G:GC} {X:Cx} {w:Wd} {pins:List (Addr × Obj)} {σ :L2.St} {s:Shared} {a:Addr} {S:List Elt} {acc:List D} {ks:List NestedKey}
theorem elts_keys:∀ {acc:List D} {S:List Elt} {ks:List NestedKey},All2 (EltRep G w) acc S→nkDL acc=some ks→ks=S.map keyU
 | _,_,_, .nil,h=>by simp only[nkDL,Option.some.injEq] at h;subst h;rfl
 | _,_,_, .cons p r,h=>by
   simp only[nkDL] at h
   split at h
   ·rename_i k ks h1 h2
    cases h
    rw[elts_keys r h2,List.map_cons]
    rw[p.1] at h1
    cases h1
    rfl
   ·cases h
theorem elts_mem:∀ {acc:List D} {S:List Elt},All2 (EltRep G w) acc S→∀e ∈ S,∃d ∈ acc,EltRep G w d e
 | _,_, .nil,e,h=>by cases h
 | _,_, .cons p r,e,h=>by
   rcases List.mem_cons.mp h with rfl|h
   ·exact⟨_,List.mem_cons_self,p⟩
   ·obtain⟨d,hd,q⟩:=elts_mem r e h
    exact⟨d,List.mem_cons_of_mem _ hd,q⟩
theorem okSet_small (h:okSet ks=true):ks.length≤4000:=by
 simp only[okSet,Bool.and_eq_true,Bool.or_eq_true,decide_eq_true_eq] at h
 rcases h.1.1 with h|h<;>omega
theorem sorted_setU {Q:VK} {Ex:Value→Option Addr→Hp→Prop} (hK:X.K=G.K) (hc:X.calm=true) (hu:X.A.units+65<cLine) (I:Inv X pins σ w.H s) (sr:SRep G w) (hD:w.H a=some (ObU X.prog X.w a S))
 (rep:All2 (EltRep G w) acc S) (hks:nkDL acc=some ks) (ok:okSet ks=true) (side:Side S) (p:Post G w (.ok (.lst (sortL ((ddK ks).map kD))) w.S) (Rep G) Q Ex):
 wpAny (model X.prog X.w) X.A (call (.builtin "sorted") [.ref a]) (EP X pins σ Q) X.xe s:=by
 have R:ObP X.prog X.w a S s.heap:=(I.hok a _ hD).1
 have ek:=elts_keys rep hks
 have hz:S.length≤4000:=by have:=okSet_small ok;rw[ek,List.length_map] at this;exact this
 obtain⟨o,es,ep,t,ho,hcl,hd,hf,hsz,hr,hl,L,eL,nd,sub,all⟩:=set_out R side hz
 have ok2:=ok
 simp only[okSet,Bool.and_eq_true] at ok2
 obtain⟨⟨_,okd⟩,tie⟩:=ok2
 refine Calls.call_function_entry kind_sorted plain_sorted entry_sorted (args_sorted1 _) ?_
 unfold Builtin.«sorted»
 refine wpAny_bind (m:=checkCount "sorted" 1 1 _) (wpAny_pure ?_)
 refine wpAny_bind (collect_set (A:=X.A.in1) (I.ok.hd hc) ⟨o,ho,hcl,hd⟩ hf hsz hr hl fun s1 vs k1 hz1 g1 o1 pm=> ?_)
 obtain⟨L',pL,eL'⟩:=each_perm pm eL
 have pk:(L'.map keyU).Perm (ddK ks):=by
  refine(List.perm_ext_iff_of_nodup ((pL.map keyU).nodup_iff.mpr nd) (ddK_nodup ks)).mpr fun k=> ?_
  rw[ddK_mem,(pL.map keyU).mem_iff,ek]
  constructor
  ·intro h
   obtain⟨e,he,rfl⟩:=List.mem_map.mp h
   exact List.mem_map.mpr ⟨e,sub e he,rfl⟩
  ·intro h
   obtain⟨e,he,rfl⟩:=List.mem_map.mp h
   exact all e he
 have pd:(L'.map fun e=>kD (keyU e)).Perm ((ddK ks).map kD):=by
  have:=pk.map kD
  rw[List.map_map] at this
  exact this
 have so:SrtOk (L'.map fun e=>kD (keyU e)):=srt_of pd okd
 have one:∀e ∈ L',Rep G w (kD (keyU e)) (valU e):=fun e he=>by
  obtain⟨d,_,q1,q2⟩:=elts_mem rep e (sub e (pL.mem_iff.mp he))
  rw[← nk_kD d _ q1]
  exact q2
 have e1:EachIs (fun u d=>∃x,RelV x u∧Rep G w d x) vs (L'.map fun e=>kD (keyU e)):=by
  have:∀ {us:List Value} {l:List Elt},EachIs (fun v e=>RelV (valU e) v) us l→(∀ e ∈ l,Rep G w (kD (keyU e)) (valU e))→EachIs (fun u d=>∃x,RelV x u∧Rep G w d x) us (l.map fun e=>kD (keyU e)):=by
   intro us l h
   induction h with
   |nil=>intro _;exact .nil
   |cons r _ ih=>intro q;exact .cons ⟨_,r,q _ List.mem_cons_self⟩ (ih fun e he=>q e (List.mem_cons_of_mem _ he))
  exact this eL' one
 obtain⟨vs0,rv0,rl0⟩:=rep_each e1
 obtain⟨e1',e2⟩:=each_rep hK I rl0 rv0 so.py
 have hvl:vs.length≤sizeLine:=by rw[e1.length];exact so.len
 refine wpAny_bind (wpAny_newList ?_ hvl)
 have hoL:(s1.heap.push (seqObj "list" vs.toArray 0)).get? s1.heap.objs.size=some (seqObj "list" vs.toArray 0):=Heap.get?_push_size _ rfl
 have old:∀b u,s.heap.get? b=some u→(PySem.W.sortingHeap (s1.heap.push (seqObj "list" vs.toArray 0)) s1.heap.objs.size vs).get? b=some u:=fun b u q=>by
  have h1:=k1 b u q
  exact PySem.W.sortingHeap_old (Nat.ne_of_lt (Heap.lt_size h1)) (Heap.get?_push_of_some _ h1)
 have e3:EachIs (fun u d=>∃as,Reads (PySem.W.sortingHeap (s1.heap.push (seqObj "list" vs.toArray 0)) s1.heap.objs.size vs) u (encD d) as) vs (L'.map fun e=>kD (keyU e)):=e2.mono fun _ _ ⟨as,r⟩=>⟨as,PyProof.Rows.Reads.keeps old r⟩
 refine wpAny_bind (wpAny_holding (wpAny_call_entry slot_list_sort ⟨_,hoL,rfl⟩ entry_list_sort (PySem.W.list_sort_vals (s:= { s1 with heap:=s1.heap.push (seqObj "list" vs.toArray 0) }) hoL (so.kind (s:= { s1 with heap:=PySem.W.sortingHeap (s1.heap.push (seqObj "list" vs.toArray 0)) s1.heap.objs.size vs }) e3 (by show X.A.units+2+42<cLine;omega)) hvl ⟨_,rfl,?_⟩) (args_list_sort _)))
 have out:=so.vals (R:=fun u d=>∃x,RelV x u∧Rep G w d x) e1 e3
 have le:PySem.W.dataLe false encD=srtLe:=by
  funext a b
  rw[PySem.W.dataLe_eq]
  rfl
 rw[le,sortK_perm tie pd] at out
 generalize PySem.W.sortVals (dataKind (PySem.W.sortingHeap (s1.heap.push (seqObj "list" vs.toArray 0)) s1.heap.objs.size vs) ((L'.map fun e=>kD (keyU e)).map encD)) false vs vs=outv at out ⊢
 obtain⟨c,hcc⟩:=sortedHeap_at (vs:=vs) (out:=outv.toArray) hoL
 obtain⟨vs',v1,v2⟩:=rep_each out
 have hlen:vs'.length≤sizeLine:=by
  rw[v2.length]
  have:(sortL ((ddK ks).map kD)).length=((ddK ks).map kD).length:=List.length_mergeSort _
  rw[this,←pd.length_eq]
  exact so.len
 have k2:∀b u,s.heap.get? b=some u→(sortedHeap (s1.heap.push (seqObj "list" vs.toArray 0)) s1.heap.objs.size vs outv.toArray).get? b=some u:=fun b u e=>by
  have q:=k1 b u e
  have hlt:=Heap.lt_size q
  rw[sortedHeap_old (Nat.ne_of_lt hlt) (by rw[size_push'];exact Nat.lt_succ_of_lt hlt)]
  exact Heap.get?_push_of_some _ q
 have hn:w.H s1.heap.objs.size=none:=I.hok.fresh hz1
 have J:Inv X pins σ (upd w.H s1.heap.objs.size (.lst vs')) { s with heap:=sortedHeap (s1.heap.push (seqObj "list" vs.toArray 0)) s1.heap.objs.size vs outv.toArray,gens:=s1.gens,drawn:=s1.drawn,toks:=s1.toks } :=
  I.call (ch:= []) (Un.laid k2 hz1 hn) (I.hok.laid k2 hz1 ⟨hlen,outv,c,v1,by simpa using hcc⟩) (by rw[g1];exact I.bare) (fun _ z=>nomatch z)
 refine wpAny_pure ⟨_,rfl,?_⟩
 have e:({ s1 with heap:=sortedHeap (s1.heap.push (seqObj "list" vs.toArray 0)) s1.heap.objs.size vs outv.toArray } :Shared)= { s with heap:=sortedHeap (s1.heap.push (seqObj "list" vs.toArray 0)) s1.heap.objs.size vs outv.toArray,gens:=s1.gens,drawn:=s1.drawn,toks:=s1.toks } :=by
  cases s1
  cases s
  cases o1
  rfl
 show EP X pins σ Q _ ({ s1 with heap:=sortedHeap (s1.heap.push (seqObj "list" vs.toArray 0)) s1.heap.objs.size vs outv.toArray } :Shared)
 rw[e]
 exact⟨.ref s1.heap.objs.size,_,J,rfl,new_lst (S:=w.S) sr v2 p _ hn⟩
end
end L3
namespace L3
open PySem PySem.Spec PyProof.Rows L2
section
variable {G:GC} {X:Cx} {Wx:WX} {w:Wd} {ks:List NestedKey}
theorem nkDL_mem:∀ {l:List D} {ks:List NestedKey},nkDL l=some ks→(ks.length=l.length∧∀d ∈ l,∃k ∈ ks,nkD d=some k)
 | [],_,h=>by simp only[nkDL,Option.some.injEq] at h;subst h;exact⟨rfl,by simp⟩
 |d::l,_,h=>by
  simp only[nkDL] at h
  split at h
  ·rename_i k ks h1 h2
   cases h
   obtain⟨q1,q2⟩:=nkDL_mem h2
   refine⟨by simp[q1],fun x hx=> ?_⟩
   rcases List.mem_cons.mp hx with rfl|hx
   ·exact⟨k,List.mem_cons_self,h1⟩
   ·obtain⟨k',hk',e⟩:=q2 x hx
    exact⟨k',List.mem_cons_of_mem _ hk',e⟩
  ·cases h
theorem okSet_py (ok:okSet ks=true) {k:NestedKey} (hk:k ∈ ks):toPy (kD k)=some k.data:=by
 simp only[okSet,Bool.and_eq_true] at ok
 obtain⟨⟨_,okd⟩,_⟩:=ok
 have:=okSd_py okd (List.mem_map.mpr ⟨k,ddK_mem.mpr hk,rfl⟩)
 obtain⟨y,hy⟩:=Option.isSome_iff_exists.mp this
 rw[hy,kD_py k y hy]
theorem kat_of (ok:okSet ks=true) (tp:ks.all isTp=true) (dp:∀k ∈ ks,k.depth≤8) {k:NestedKey} (hk:k ∈ ks) {d:D} {a:Addr} (e:nkD d=some k) (r:Rep G w d (.ref a)):KAt G.K w.H (a,k):=by
 have h1:=okSet_py ok hk
 rw[← nk_kD d k e] at h1
 exact⟨(dp_of d (.ref a) _ r h1).1,dp k hk⟩
end
end L3
namespace L3
open PySem PySem.Spec PyProof.Rows L2
open PySem.W (EachIs)
section
variable {P:Program} {w:World} {A:Around} {E:Value→Shared→Prop} {s:Shared}
def AllH (P:Program) (w:World) (h:Heap) (S:List Elt):Prop:=((∃ ks:List L2.Key,S=ks.map Sum.inl)∧S.length<4095)∨((∃ kps:List (Addr × NestedKey),S=kps.map Sum.inr∧∀q ∈ kps,(nestedKind P w).is h q.2 q.1)∧S.length<1200)
def hashU (P:Program) (w:World):Elt→Int
 | .inl k=>(mixKind P w).hash k
 | .inr p=>(nestedKind P w).hash p.2
def drawsU:Elt→Nat
 | .inl _=>1
 | .inr p=>p.2.draws
theorem map_inl_app {ks ks':List L2.Key} {k:L2.Key} (e:ks.map (Sum.inl:L2.Key→Elt)++ [.inl k] =ks'.map Sum.inl):ks'=ks++ [k] :=by
 have e':(ks++ [k]).map (Sum.inl:L2.Key→Elt)=ks'.map Sum.inl:=by simpa using e
 exact((List.map_inj_right fun a b h=>Sum.inl.inj h).mp e').symm
theorem map_inr_app {ks ks':List (Addr × NestedKey)} {k:Addr × NestedKey} (e:ks.map (Sum.inr:_→Elt)++ [.inr k] =ks'.map Sum.inr):ks'=ks++ [k] :=by
 have e':(ks++ [k]).map (Sum.inr:_→Elt)=ks'.map Sum.inr:=by simpa using e
 exact((List.map_inj_right fun a b h=>Sum.inr.inj h).mp e').symm
theorem allH_mono {h h':Heap} {S:List Elt} (H:AllH P w h S) (k:∀b o,h.get? b=some o→h'.get? b=some o):AllH P w h' S:=by
 rcases H with h1|⟨⟨kps,e,q⟩,z⟩
 ·exact .inl h1
 ·exact .inr ⟨⟨kps,e,fun p hp=>(setQ_nested (P:=P) (w:=w)).mono (q p hp) k⟩,z⟩
theorem addP {a:Addr} {S all:List Elt} {u:Value} {k:Elt} {Q:Bool→Shared→Prop} (hu:A.units+8<cLine) (R:ObP P w a S s.heap) (ru:RelV (valU k) u) (H:AllH P w s.heap all) {i:Nat} (eS:S=all.take i) (ek:all[i]? =some k)
 (hQ:∀b h',Heap.SameBut a s.heap h'→ObP P w a (S++ [k]) h'→Q b { s with heap:=h' }):wpAny (model P w) A (setAddHashed a u (hashU P w k)) Q E s:=by
 have hi:i<all.length:=(List.getElem?_eq_some_iff.mp ek).1
 have hS:S.length≤i:=by rw[eS,List.length_take];omega
 have km:k ∈ all:=List.mem_of_getElem? ek
 have sub:∀x ∈ S,x ∈ all:=fun x hx=>List.mem_of_mem_take (by rw[eS] at hx;exact hx)
 rcases H with⟨⟨ks0,e0⟩,hz⟩|⟨⟨kps0,e0,hk0⟩,hz⟩
 ·obtain⟨k,rfl⟩:∃k':L2.Key,k= .inl k':=by
   rw[e0] at km
   obtain⟨k',_,rfl⟩:=List.mem_map.mp km
   exact⟨k',rfl⟩
  obtain⟨ks,rfl⟩:∃ks:List L2.Key,S=ks.map Sum.inl:=⟨ks0.take i,by rw[eS,e0,List.map_take]⟩
  refine addM (P:=P) (w:=w) (k:=k) ru (R.2.1 ks rfl) (by rw[List.length_map] at hS;show ks.length+1<4096;omega) fun b h' sb r=>hQ b h' sb ?_
  obtain⟨o,es,ep,t,ho,r'⟩:=id r
  refine⟨⟨o,ho⟩,fun ks' e=> ?_,fun kps e=> ?_⟩
  ·rw[map_inl_app e];exact r
  ·exfalso
   have:(Sum.inl k:Elt) ∈ kps.map (Sum.inr:_→Elt):=by rw[← e];simp
   simp at this
 ·obtain⟨p,rfl⟩:∃p:Addr × NestedKey,k= .inr p:=by
   rw[e0] at km
   obtain⟨p,_,rfl⟩:=List.mem_map.mp km
   exact⟨p,rfl⟩
  obtain⟨kps,rfl⟩:∃kps:List (Addr × NestedKey),S=kps.map Sum.inr:=⟨kps0.take i,by rw[eS,e0,List.map_take]⟩
  have in0:∀q:Addr × NestedKey,(Sum.inr q:Elt) ∈ all→q ∈ kps0:=fun q hq=>by
   rw[e0] at hq
   obtain⟨q',hq',e⟩:=List.mem_map.mp hq
   rw[← Sum.inr.inj e]
   exact hq'
  obtain⟨L,es,ep,t,ob,hr,tab,nd,led,room,few,sub',all'⟩:=R.2.2 kps rfl
  have RH:SetH (nestedKind P w) s.heap a L es ep t:=⟨ob,hr,tab,nd,fun q hq=>hk0 q (in0 q (sub _ (List.mem_map.mpr ⟨q,sub' q hq,rfl⟩))),led,room,few⟩
  have hx:=hk0 p (in0 p km)
  obtain rfl:u=Value.ref p.1:=ru
  rw[List.length_map] at hS
  have hL:L.length≤kps.length:=by
   have h1:=nodup_le (m:=kps.map (·.2)) nd fun x hx=>by
    obtain⟨q,hq,rfl⟩:=List.mem_map.mp hx
    exact List.mem_map.mpr ⟨q,sub' q hq,rfl⟩
   simpa using h1
  refine addH setQ_nested RH hx hu (by omega) fun b h' L' es' ep' t' sb R' c1 c2=>hQ b h' sb ?_
  obtain⟨o,ho,r'⟩:=R'.ob
  refine⟨⟨o,ho⟩,fun ks' e=> ?_,fun kps' e=> ?_⟩
  ·exfalso
   have:(Sum.inr p:Elt) ∈ ks'.map (Sum.inl:_→Elt):=by rw[← e];simp
   simp at this
  ·rw[map_inr_app e]
   refine⟨L',es',ep',t',R'.ob,R'.rows,R'.tab,R'.nd,R'.led,R'.room,R'.few,?_,?_⟩
   ·intro q hq
    by_cases hm:p.2 ∈ L.map (·.2)
    ·rw[c1 hm] at hq
     exact List.mem_append_left _ (sub' q hq)
    ·rcases List.mem_cons.mp ((c2 hm).mem_iff.mp hq) with z|z
     ·rw[z];simp
     ·exact List.mem_append_left _ (sub' q z)
   ·intro q hq
    by_cases hm:p.2 ∈ L.map (·.2)
    ·rw[c1 hm]
     rcases List.mem_append.mp hq with z|z
     ·exact all' q z
     ·rw[List.mem_singleton.mp z];exact hm
    ·rw[((c2 hm).map (·.2)).mem_iff,List.map_cons]
     rcases List.mem_append.mp hq with z|z
     ·exact List.mem_cons_of_mem _ (all' q z)
     ·rw[List.mem_singleton.mp z];exact List.mem_cons_self
theorem pyHashU {all:List Elt} {k:Elt} {u:Value} {Q:Int→Shared→Prop} (hu:A.units+8<cLine) (H:AllH P w s.heap all) (km:k ∈ all) (ru:RelV (valU k) u) (h:Q (hashU P w k) { s with toks:=s.toks+drawsU k }):wpAny (model P w) A (pyHash u) Q E s:=by
 cases k with
 |inl k=>exact(mixKind P w).pyHash (kV_is (P:=P) (w:=w) ru) h
 |inr p=>
  obtain rfl:u=Value.ref p.1:=ru
  rcases H with⟨⟨ks0,e0⟩,hz⟩|⟨⟨kps0,e0,hk0⟩,hz⟩
  ·rw[e0] at km;simp at km
  ·rw[e0] at km
   obtain⟨q,hq,e⟩:=List.mem_map.mp km
   cases Sum.inr.inj e
   exact(nestedKind P w).pyHash hu (hk0 p hq) h
theorem set_update_any {I:Addr} {fp wr:List Addr} {G:Array GenState→Array GenState→Prop} {n:Nat} {Pv:Nat→Value→Prop} {St:Nat→Shared→Prop} {R:Result→Shared→Prop}
 (W:WalksS P w A.in1 I fp wr G n Pv St) (S:Addr) (hSf:S ∉ fp) (ks:List Elt) (hn:n=ks.length) (hval:∀i v,Pv i v→∃k,ks[i]? =some k∧RelV (valU k) v) (h0:Heap) (ha:AllH P w h0 ks) (hS0:h0.get? S=none) (hw0:∀b ∈ wr,h0.get? b=none) (hu:A.in1.units+12<cLine):
 ∀(k i:Nat) (s:Shared),n-i=k→i≤n→St i s→(∀ b o,h0.get? b=some o→s.heap.get? b=some o)→ObP P w S (ks.take i) s.heap→
  (∀ (s':Shared),Moved (S::wr) G s s'→ObP P w S ks s'.heap→(∀ b o,h0.get? b=some o→s'.heap.get? b=some o)→R (.ok (.ret .none)) s')→
  codeAny (model P w) A (.builtin "set.update.loop" ⟨[.ref S, .ref I],[]⟩) R s:=by
 have hSw:S ∉ wr:=fun h=>hSf (W.sub _ h)
 have hsub:∀b ∈ wr,b ∈ S::wr:=fun b hb=>List.mem_cons_of_mem _ hb
 have keepM:∀ {s s':Shared},Moved wr G s s'→(∀ b o,h0.get? b=some o→s.heap.get? b=some o)→∀b o,h0.get? b=some o→s'.heap.get? b=some o:=fun hm hkp b o e=>
  hm.heap b o (fun hb=>by rw[hw0 b hb] at e;cases e) (hkp b o e)
 intro k
 induction k with
 |zero=>
  intro i s hk' hi hst hkp hS hR
  have hin:i=n:=by omega
  subst hin
  refine codeAny_builtin F.entry_set_update_loop ?_
  rw[Around.under_plainId F.plain_set_update_loop _]
  show wpAny _ A.in1 (pyNext (.ref I) >>= _) _ _ s
  refine wpAny_bind (W.done s _ _ hst fun s' hm=> ?_)
  show wpAny _ A.in1 (ret Value.none) _ _ s'
  have e:ks.take i=ks:=List.take_of_length_le (by omega)
  rw[e] at hS
  exact wpAny_pure (hR s' (hm.mono hsub) (obP_at hS fun o e=>hm.heap S o hSw e) (keepM hm hkp))
 |succ k ih=>
  intro i s hk' hi hst hkp hS hR
  have hlt:i<n:=by omega
  refine codeAny_builtin F.entry_set_update_loop ?_
  rw[Around.under_plainId F.plain_set_update_loop _]
  show wpAny _ A.in1 (pyNext (.ref I) >>= _) _ _ s
  refine wpAny_bind (W.item i s _ _ hlt hst fun v s' hP hst' hm=> ?_)
  obtain⟨z,hz,rz⟩:=hval i v hP
  have hkp':=keepM hm hkp
  have hS':ObP P w S (ks.take i) s'.heap:=obP_at hS fun o e=>hm.heap S o hSw e
  have ha':=allH_mono ha hkp'
  show wpAny _ A.in1 (holding [v] (setAdd S v) >>= _) _ _ s'
  refine wpAny_bind (wpAny_holding ?_)
  unfold setAdd
  refine wpAny_holding ?_
  refine wpAny_bind (pyHashU (by omega) ha' (List.mem_of_getElem? hz) rz ?_)
  refine addP (s:= { s' with toks:=s'.toks+drawsU z }) (by omega) hS' rz ha' rfl hz fun b h' hsb hS2=> ?_
  have et:ks.take (i+1)=ks.take i++ [z] :=by rw[List.take_add_one,hz];rfl
  rw[← et] at hS2
  have hkp2:∀b o,h0.get? b=some o→h'.get? b=some o:=fun b o e=>(hsb.2 b (fun z=>by rw[z,hS0] at e;cases e)).trans (hkp' b o e)
  refine wpAny_pure ⟨plainId_quiet F.plain_set_update_loop _,ih (i+1) _ (by omega) hlt (W.frame _ s' _ _ hst' (Nat.le_add_right _ _) fun b hb o e=> ?_) hkp2 hS2 fun s'' hm'' hS'' hkp''=> ?_⟩
  ·rw[hsb.2 b (fun h:b=S=>hSf (by rw[← h];exact hb))];exact e
  ·refine hR s'' (Moved.trans W.gtrans ((hm.mono hsub).then_heap (Nat.le_add_right _ _) fun b o hb e=> ?_) hm'') hS'' hkp''
   rw[hsb.2 b (fun h:b=S=>hb (by rw[h];exact List.mem_cons_self))];exact e
set_option maxRecDepth 100000 in
theorem call_set_any {l:Addr} {items:Array Value} (ks:List Elt) {Q:Value→Shared→Prop} (hh:A.handled=none) (hl:s.heap.IsList l items) (hisz:items.size=ks.length) (hval:∀(i:Nat) (v:Value),items[i]? =some v→∃k,ks[i]? =some k∧RelV (valU k) v) (ha:AllH P w s.heap ks) (hu:A.units+30<cLine)
 (h:∀(h':Heap) (tk:Nat),ObP P w s.heap.objs.size ks h'→(∀ b o,s.heap.get? b=some o→h'.get? b=some o)→Q (.ref s.heap.objs.size) { s with heap:=h',toks:=tk }):
 wpAny (model P w) A (call (.type "set") [.ref l]) Q E s:=by
 obtain⟨c,tl,hmro⟩:=F.called_set.mro
 have hmade:=F.called_set.made
 have hsub:=F.called_set.sub
 refine wpAny_call (codeAny_of_tree ?_)
 show wpAny _ _ (callAny (.type "set") _) _ _ _
 refine wpAny_pure ⟨Code.quiet_builtin _ (by decide +kernel),codeAny_builtin F.entry_type_call ?_⟩
 rw[Around.under_plain (weight_type_call_type "set" [.ref l] []) rfl]
 have h1:=F.called_set.notType
 have h2:=F.called_set.canCreate
 have hct:=F.typeCall_set_1 (.ref l)
 repeat (any_goals (first|assumption|wp_step))
 refine codeAny_mono (code_set_led1 (.ref l) (E:=E) (Q₁ :=fun obj s₁ =>obj= .ref s.heap.objs.size∧s₁ = { s with heap:=s.heap.push { cls:= .type "set",dict:=none,data:= .set #[] 0 (.fresh 0 0 (!w.params.followText "set-order")) } }) ⟨rfl,rfl⟩) fun r s₁ hr=> ?_
 cases r with
 |error e=>exact hr
 |ok fl=>
  cases fl with
  |ret obj=>
   obtain⟨rfl,rfl⟩:=hr
   have hS:(s.heap.push { cls:= .type "set",dict:=none,data:= .set #[] 0 (.fresh 0 0 (!w.params.followText "set-order")) }).get? s.heap.objs.size=some { cls:= .type "set",dict:=none,data:= .set #[] 0 (.fresh 0 0 (!w.params.followText "set-order")) } :=Heap.get?_push_size _ rfl
   have hT:Shared.TypeIs { s with heap:=s.heap.push { cls:= .type "set",dict:=none,data:= .set #[] 0 (.fresh 0 0 (!w.params.followText "set-order")) } } (.ref s.heap.objs.size) "set" :=⟨_,hS,rfl⟩
   have hli:=F.called_set.init.lookup
   have hbi:=F.called_set.init.bind (.ref s.heap.objs.size)
   repeat (any_goals (first|assumption|wp_step))
   refine codeAny_mono (codeAny_call_builtin (R:=wants (fun r s₂ =>r= .none∧∃h' tk,s₂ = { s with heap:=h',toks:=tk } ∧ObP P w s.heap.objs.size ks h'∧
    (∀ b o,s.heap.get? b=some o→h'.get? b=some o)) E) F.called_set.init.plain F.entry_set_init (check_set_init_1 hT ?_)) fun r₂ s₂ hr₂ => ?_
   ·obtain⟨ol,hol,hcl,nl,hdl⟩:=hl
    obtain⟨ocls,odict,odata,oslots⟩:=ol
    simp only at hcl hdl
    subst hcl;subst hdl
    have hol':(s.heap.push { cls:= .type "set",dict:=none,data:= .set #[] 0 (.fresh 0 0 (!w.params.followText "set-order")) }).get? l=some { cls:= .type "list",dict:=odict,data:= .seq items nl,slots:=oslots } :=Heap.get?_push_of_some _ hol
    have hsls:=F.sub_list_set
    have hslf:=F.sub_list_frozenset
    have hne:(Value.type "list" ==Value.type "dict")=false:=by decide
    have hl1:(s.heap.push { cls:= .type "set",dict:=none,data:= .set #[] 0 (.fresh 0 0 (!w.params.followText "set-order")) }).IsList l items:=⟨_,hol',rfl,nl,rfl⟩
    unfold Builtin.«set.__init__» noKeywords Builtin.Frozenset.updateFrom
    generalize hPI:pyIter=PI
    wp_walk
    subst hPI
    refine wpAny_pyIter_list hl1 ?_
    refine wpAny_bind (wpAny_runValue ?_)
    have hlS:l<s.heap.objs.size:=Heap.lt_size hol
    have hh3:A.in1.in1.in1.handled=none:=by simp[hh]
    have hz1:(s.heap.push { cls:= .type "set",dict:=none,data:= .set #[] 0 (.fresh 0 0 (!w.params.followText "set-order")) }).objs.size=s.heap.objs.size+1:=Heap.size_push ..
    have hneI:l≠(s.heap.push { cls:= .type "set",dict:=none,data:= .set #[] 0 (.fresh 0 0 (!w.params.followText "set-order")) }).objs.size:=by
     rw[Heap.size_push];exact Nat.ne_of_lt (Nat.lt_succ_of_lt hlS)
    have hSf:s.heap.objs.size ∉ [(s.heap.push { cls:= .type "set",dict:=none,data:= .set #[] 0 (.fresh 0 0 (!w.params.followText "set-order")) }).objs.size,l] :=by
     rw[Heap.size_push];simp only[List.mem_cons,List.mem_singleton,List.not_mem_nil,or_false,not_or]
     exact⟨Nat.ne_of_lt (Nat.lt_succ_self _),Nat.ne_of_gt hlS⟩
    have none_of:∀b,s.heap.objs.size≤b→s.heap.get? b=none:=fun b hb=>by
     cases q:s.heap.get? b with
     |none=>rfl
     |some o=>exact absurd (Nat.lt_of_lt_of_le (Heap.lt_size q) hb) (Nat.lt_irrefl _)
    refine set_update_any ((Walks.list hh3 _ l hneI items).toS) s.heap.objs.size
     hSf ks hisz hval s.heap ha (none_of _ (Nat.le_refl _)) (fun b hb=>none_of b (by
      rw[List.mem_singleton.mp hb,Heap.size_push]
      exact Nat.le_succ _)) (by show A.units+3+12<cLine;omega) (items.size-0) 0 _ (by omega) (Nat.zero_le _)
     ⟨⟨_,Heap.get?_push_size _ rfl,rfl,rfl⟩,(hl1.push _)⟩ (fun b o e=>Heap.get?_push_of_some _ (Heap.get?_push_of_some _ e)) ?hS0 ?hR
    case hS0=>
     have hget:((s.heap.push { cls:= .type "set",dict:=none,data:= .set #[] 0 (.fresh 0 0 (!w.params.followText "set-order")) }).push { cls:= .type "list_iterator",data:= .fields #[.ref l, .int 0 0] }).get? s.heap.objs.size
      = some { cls:= .type "set",dict:=none,data:= .set #[] 0 (.fresh 0 0 (!w.params.followText "set-order")) } :=Heap.get?_push_of_some _ hS
     exact obP_fresh hget
    case hR=>
     intro s' hm hS' hkp
     obtain⟨h',g2,d',tk',os'⟩:=s'
     have eg:g2=s.gens:=hm.gens
     have ed:d'=s.drawn:=hm.drawn
     have eo:os'=s.os:=hm.os
     subst eg;subst ed;subst eo
     show wpAny _ _ _ _ _ _
     refine wpAny_pure ?_
     show wpAny _ _ (ret Value.none) _ _ _
     exact wpAny_pure ⟨rfl,h',tk',rfl,hS',hkp⟩
   ·cases r₂ with
    |error e=>exact hr₂
    |ok fl₂ =>
     cases fl₂ with
     |ret r=>
      obtain⟨rfl,h',tk,rfl,hS',hk'⟩:=hr₂
      repeat (any_goals (first|assumption|wp_step))
      exact h _ _ hS' hk'
     | _=>exact hr₂.elim
  | _=>exact hr.elim
end
section
variable {G:GC} {X:Cx} {Wx:WX} {e:Expr} {m:ED} {p p2 pos pos2:Pos}
def sortSetO:F1:=fun x S=>match asL x S with
 |some l=>sortSetD (.lst l) S
 |none=> .bad
theorem elts_of {w:Wd} {ks0:List NestedKey} (ok:okSet ks0=true):∀ {l:List D} {ks:List NestedKey} {vs:List V},nkDL l=some ks→(∀ k ∈ ks,k ∈ ks0)→RepL G w l vs→∃S:List Elt,vs=S.map valU∧All2 (EltRep G w) l S∧
 ((ks0.all isTN=true→∃l:List L2.Key,S=l.map Sum.inl)∧(ks0.all isTp=true→∃l:List (Addr × NestedKey),S=l.map Sum.inr∧∀q ∈ l,KAt G.K w.H q))
 | [],_,vs,h,_,r=>by
   simp only[RepL] at r
   subst r
   exact⟨[],rfl, .nil,fun _=>⟨[],rfl⟩,fun _=>⟨[],rfl,by simp⟩⟩
 |d::l,_,vs,h,hs,r=>by
  simp only[nkDL] at h
  split at h
  ·rename_i k ks h1 h2
   cases h
   simp only[RepL] at r
   obtain⟨v,r',rfl,r1,r2⟩:=r
   obtain⟨S,rfl,al,sa,sb⟩:=elts_of ok h2 (fun k hk=>hs k (List.mem_cons_of_mem _ hk)) r2
   have hk:=hs k List.mem_cons_self
   have hdk:=nk_kD d k h1
   have r1':=r1
   rw[hdk] at r1'
   have ok2:=ok
   simp only[okSet,Bool.and_eq_true,Bool.or_eq_true,decide_eq_true_eq] at ok2
   rcases ok2.1.1 with⟨tn,hz⟩|⟨⟨tp,dp⟩,hz⟩
   ·have q1:=List.all_eq_true.mp tn k hk
    have nt: ¬ks0.all isTp=true:=fun h=>by
     have:=List.all_eq_true.mp h k hk
     cases k<;>simp[isTN,isTp] at q1 this
    obtain⟨ll,rfl⟩:=sa tn
    cases k with
    |num i=>
     simp only[kD,Rep] at r1'
     subst r1'
     exact⟨.inl (.inl i)::_,rfl, .cons ⟨h1,r1⟩ al,fun _=>⟨.inl i::ll,rfl⟩,fun h=>absurd h nt⟩
    |text x=>
     simp only[kD,Rep] at r1'
     subst r1'
     exact⟨.inl (.inr x)::_,rfl, .cons ⟨h1,r1⟩ al,fun _=>⟨.inr x::ll,rfl⟩,fun h=>absurd h nt⟩
    |none=>simp[isTN] at q1
    |tup _=>simp[isTN] at q1
   ·have q1:=List.all_eq_true.mp tp k hk
    have nt: ¬ks0.all isTN=true:=fun h=>by
     have:=List.all_eq_true.mp h k hk
     cases k<;>simp[isTN,isTp] at q1 this
    obtain⟨ll,rfl,hll⟩:=sb tp
    cases k with
    |tup kk=>
     simp only[kD,Rep] at r1'
     obtain⟨a,vs',rfl,_⟩:=r1'
     refine⟨.inr (a, .tup kk)::_,rfl, .cons ⟨h1,r1⟩ al,fun h=>absurd h nt,fun _=>⟨(a, .tup kk)::ll,rfl,fun q hq=> ?_⟩⟩
     rcases List.mem_cons.mp hq with rfl|hq
     ·exact kat_of ok tp (fun k hk=>by simpa using List.all_eq_true.mp dp k hk) hk h1 r1
     ·exact hll q hq
    |none=>simp[isTp] at q1
    |num _=>simp[isTp] at q1
    |text _=>simp[isTp] at q1
  ·cases h
theorem vals_get:∀ {S:List Elt} {us:List Value},Vals (S.map valU) us→us.length=S.length∧∀(i:Nat) (v:Value),us[i]? =some v→∃k,S[i]? =some k∧RelV (valU k) v
 | [],us,r=>by cases r;exact⟨rfl,fun i v h=>by simp at h⟩
 |k::S,us,r=>by
  cases r with
  |cons ry rt=>
   obtain⟨h1,h2⟩:=vals_get rt
   refine⟨by simp[h1],fun i v h=> ?_⟩
   cases i with
   |zero=>cases h;exact⟨k,rfl,ry⟩
   |succ i=>exact h2 i v (by simpa using h)
theorem q_sortSet (hK:X.K=G.K) (hu:X.A.units+65<cLine) (hc:X.calm=true) (he:PE X e (tE G m Wx)) (hg:Gl X "sorted") (hm:X.mg "sorted" =none) (hg2:Gl X "set") (hm2:X.mg "set" =none)
 (hs:starEach [.Call (.Name "set" p2) [e] [] pos2] X.env=(false,eval (.Call (.Name "set" p2) [e] [] pos2) X.env)::starEach [] X.env:=by rfl)
 (hs2:starEach [e] X.env=(false,eval e X.env)::starEach [] X.env:=by rfl):
 PE X (.Call (.Name "sorted" p) [.Call (.Name "set" p2) [e] [] pos2] [] pos) (tE G (e1 sortSetO m) Wx):=by
 refine⟨fun pins s σ H Q I hq=> ?_⟩
 obtain⟨w,env,rfl,sr,er,pp⟩:=hq
 refine wpAny_Call_Name_kw (ld_blt I hg hm (show bootBuiltins "sorted" =some (.builtin "sorted") from by kernel_rfl) ?_)
 refine PyProof.Rows.callWith_builtin1 ?_ hs rfl
 rw[hs]
 show wpAny _ _ (spliced ((false,eval (.Call (.Name "set" p2) [e] [] pos2) X.env)::backTo pos (starEach [] X.env))) _ _ s
 refine Calls.spliced_cons ?_
 refine wpAny_Call_Name_kw (ld_blt I hg2 hm2 (show bootBuiltins "set" =some (.type "set") from by kernel_rfl) ?_)
 refine PyProof.Rows.callWith_type1 ?_ hs2 rfl
 rw[hs2]
 show wpAny _ _ (spliced ((false,eval e X.env)::backTo pos2 (starEach [] X.env))) _ _ s
 refine Calls.spliced_cons (thn (he.run pins s σ w.H _ I ⟨w,env,rfl,sr,er,Post.bind pp⟩) fun u s1 ⟨x,H1,I1,rx,w1,d,eH,x1,sr1,r1,p1⟩=> ?_)
 subst eH
 simp only[sortSetO] at p1
 split at p1
 case h_2=>exact p1.elim
 rename_i l hl
 simp only[sortSetD] at p1
 split at p1
 case h_2=>exact p1.elim
 rename_i ks hks
 split at p1
 case isFalse=>exact p1.elim
 rename_i ok
 obtain⟨a,vs,rfl,ha,h2⟩:=asL_rep sr1 r1 hl
 obtain rfl:u=Value.ref a:=rx
 obtain⟨S,rfl,al,sa,sb⟩:=elts_of ok hks (fun _ h=>h) h2
 obtain⟨its,rv,pl,_⟩:=I1.list (SqL.of ha)
 obtain⟨v1,v2⟩:=vals_get rv
 have ok2:=ok
 simp only[okSet,Bool.and_eq_true,Bool.or_eq_true,decide_eq_true_eq] at ok2
 have hlS:S.length=ks.length:=by rw[al.len,(nkDL_mem hks).1]
 have side:Side S:=by
  rcases ok2.1.1 with h|h
  ·exact .inl (sa h.1)
  ·obtain⟨l,e,_⟩:=sb h.1.1
   exact .inr ⟨l,e⟩
 have hall:AllH X.prog X.w s1.heap S:=by
  rcases ok2.1.1 with h|h
  ·exact .inl ⟨sa h.1,by omega⟩
  ·obtain⟨l,e,q⟩:=sb h.1.1
   exact .inr ⟨⟨l,e,fun p hp=>KAt.is I1 (by rw[hK];exact q p hp)⟩,by omega⟩
 refine Calls.spliced_nil ?_
 refine call_set_any (items:=its.toArray) S (I1.ok.hd hc) pl.isList (by simpa using v1) (fun i v h=>v2 i v (by simpa using h)) hall (by omega) fun h' tk hS hk=> ?_
 have J:Inv X pins σ (upd w1.H s1.heap.objs.size (ObU X.prog X.w s1.heap.objs.size S)) { s1 with heap:=h',toks:=tk } :=I1.laid (t':=tk) hk (Nat.le_refl _) (obU_new hS)
 have hn:w1.H s1.heap.objs.size=none:=I1.hok.fresh (Nat.le_refl _)
 obtain⟨xx,ss,nm⟩:=new_ext (o:=ObU X.prog X.w s1.heap.objs.size S) sr1 hn
 refine Calls.spliced_nil ?_
 refine sorted_setU (w:=w1.put s1.heap.objs.size (ObU X.prog X.w s1.heap.objs.size S)) hK hc hu (J.tok _) ss upd_same (al.imp fun _ _ _ h=>⟨h.1,Rep.mono xx _ _ h.2⟩) hks ok side (Ex:=fun C dx H'=>Wx C dx σ H') ?_
 exact Post.shift xx p1
end
end L3
namespace L3
open PySem PySem.Spec PyProof.Rows L2
section
variable {G:GC} {w w':Wd}
theorem RepKV.of {κ :Type} (k:∀d v,Rep G w d v→Rep G w' d v):∀(d:List (κ × D)) (v:List (κ × V)),RepKV G w d v→RepKV G w' d v
 | [],v,h=>h
 |d::ds,v,h=>by
  obtain⟨y,r,e,h1,h2⟩:=h
  exact⟨y,r,e,k _ _ h1,RepKV.of k ds r h2⟩
end
def DRep (G:GC) (w:Wd) (u:HO):O→Prop
 | .dK kvs=>∃vs,u= .dK vs∧RepKV G w kvs vs
 | .dT kvs=>∃vs,u= .dT vs∧RepKV G w kvs vs
 | _=>False
section
variable {G:GC} {w:Wd} {n:Nat} {a:Addr} {ob:O} {u:HO} {od:Obj}
theorem DRep.of {w':Wd} (k:∀d v,Rep G w d v→Rep G w' d v) (h:DRep G w u ob):DRep G w' u ob:=by
 cases ob with
 |dK kvs=>obtain⟨vs,e,r⟩:=h;exact⟨vs,e,RepKV.of k _ _ r⟩
 |dT kvs=>obtain⟨vs,e,r⟩:=h;exact⟨vs,e,RepKV.of k _ _ r⟩
 | _=>exact h.elim
theorem DRep.live (h:DRep G w u ob):ob.live:=by cases ob<;>first|exact h.elim|trivial
theorem DRep.mut (h:DRep G w u ob):L2.Mut (some u):=by
 cases ob with
 |dK kvs=>obtain⟨vs,rfl,r⟩:=h;trivial
 |dT kvs=>obtain⟨vs,rfl,r⟩:=h;trivial
 | _=>exact h.elim
theorem drep_at (sr:SRep G w) (hn:w.S[n]? =some ob) (hm:w.mu[n]? =some a) (hk:∃x,(ob= .dK x)∨∃y,ob= .dT y):∃u,w.H a=some u∧DRep G w u ob:=by
 have h:=sr.obj n ob a hn hm
 obtain⟨x,rfl|⟨y,rfl⟩⟩:=hk
 ·obtain⟨vs,h1,h2⟩:=h;exact⟨_,h1,vs,rfl,h2⟩
 ·obtain⟨vs,h1,h2⟩:=h;exact⟨_,h1,vs,rfl,h2⟩
def lkW (w:Wd) (n:Nat) (a:Addr) (od:Obj) (u:HO):Wd:=⟨w.mu,w.S.set n .dead,upd w.H a (.frz od u),w.tmp⟩
structure LkAt (w:Wd) (n:Nat) (a:Addr) (od:Obj) (u:HO):Prop where
 mu:w.mu[n]? =some a
 at':w.H a=some (.frz od u)
 nm: ¬Mut w a
theorem lock_ok (sr:SRep G w) (hn:w.S[n]? =some ob) (lv:ob.live) (hm:w.mu[n]? =some a):WExt w (lkW w n a od u)∧SRep G (lkW w n a od u)∧LkAt (lkW w n a od u) n a od u:=by
 obtain⟨x,s⟩:=set_obj' (o:= .frz od u) (ob':= .dead) sr hn lv hm fun w' _ e nm=>⟨⟨_,e⟩,nm fun h=>h⟩
 have hl:=(List.getElem?_eq_some_iff.mp hn).1
 refine⟨x,s,hm,upd_same,fun m=> ?_⟩
 rcases m with⟨m,o,h1,l1,h2⟩|m
 ·have h1:(w.S.set n .dead)[m]? =some o:=h1
  have h2:w.mu[m]? =some a:=h2
  by_cases e:n=m
  ·subst e
   rw[List.getElem?_set_self hl] at h1
   cases h1
   exact l1
  ·rw[List.getElem?_set_ne e] at h1
   exact e (sr.inj n m a ob o hn h1 lv.own l1.own hm h2)
 ·exact(sr.tm a m).2 ⟨n,ob,hn,lv,hm⟩
end
end L3
namespace L3
open PySem PySem.Spec PyProof.Rows L2
def ItiT (d:Addr) (o:Obj) (kvs:List (List Key × V)):It:=
 ⟨fun i H=>H d=some (.frz o (.dT kvs))∧i<kvs.length,fun i H x H'=>∃T k v q,kvs[i]? =some (k,v)∧x= .ref T∧H T=none∧H q=some (.tup (k.map kV))∧H'=upd H T (.tup [.ref q,v]),fun i H=>H d=some (.frz o (.dT kvs))∧kvs.length≤i⟩
section
variable {X:Cx} {pins:List (Addr × Obj)} {σ :L2.St} {H:Hp} {s:Shared} {d:Addr} {o:Obj}
theorem frzT_all {kvs:List (List Key × V)} (I:Inv X pins σ H s) (h:H d=some (.frz o (.dT kvs))):
 (d==sysModules)=false∧s.heap.get? d=some o∧o.ExactDict∧∃(es:Array DictEntry) (ep:Nat),o.data= .dict es ep∧es.size=kvs.length∧
   ∀(i:Nat) (k:List Key) (v:V),kvs[i]? =some (k,v)→∃(en:DictEntry) (q:Addr),es[i]? =some en∧en.key= .ref q∧H q=some (.tup (k.map kV))∧RelV v en.val:=by
 obtain⟨hd,z,hs,xs,pr,o',es,ep,ho,hx,hdt,he,_⟩:=I.hok d _ h
 rw[hd] at ho
 cases ho
 refine⟨hs,hd,hx,es,ep,hdt,?_,fun i k v e=> ?_⟩
 ·have l1:es.size=xs.length:=size_of_entries he
  have l2:kvs.length=xs.length:=Paired.length pr
  omega
 ·obtain⟨b,hb,e1,e2,e3⟩:=L2.paired_get pr e
  have q:=entry_at he i
  rw[hb] at q
  exact⟨_,b.2.1,q,rfl,e2,e3⟩
end
section
variable {P:Program} {w:World} {K:PySem.W.Frag} {d:Addr} {o:Obj} {es:Array DictEntry} {ep:Nat}
theorem turn_itemsT {kvs:List (List Key × V)} {elts:List Expr} {kk:Nat} {tpos:Pos} (it:Addr) (hod:o.data= .dict es ep):
 Turn P w K (.Tuple elts kk tpos) (ItiT d o kvs) [it] it (fun i h=>∃ok ov,IsItemIter h it d i kvs.length ep ok ov) where
 mem:=by simp
 obj:=fun i h st b hb=>by
  have e:b=it:=by simpa using hb
  subst e
  obtain⟨ok,ov,e⟩:=st
  exact⟨_,e,fun v z=>nomatch z⟩
 keep:=fun i h h' st k=>let⟨ok,ov,e⟩:=st;⟨ok,ov,k it (by simp) _ e⟩
 item:=by
  intro X hP hw hK hc i pins s σ H E I hf st hg
  subst hP hw hK
  obtain⟨hd,hi⟩:=hg
  obtain⟨hs,hgd,hx,es',ep',hdt,hsz,ent⟩:=frzT_all I hd
  obtain⟨rfl,rfl⟩:=dict_ep hod hdt
  obtain⟨⟨k,v⟩,hkv⟩:∃p,kvs[i]? =some p:=⟨kvs[i],List.getElem?_eq_getElem hi⟩
  obtain⟨en,q,e1,e2,e3,e4⟩:=ent i k v hkv
  obtain⟨ok,ov,he⟩:=st
  rw[← hsz] at he
  have hlt:it<s.heap.objs.size:=Heap.lt_size he
  have hie:i<es'.size:=by omega
  have een:es'[i] =en:=by
   rw[Array.getElem?_eq_getElem hie] at e1
   exact Option.some.inj e1
  refine DT.nextI (es:=es') he ⟨o,hgd,hx,hdt⟩ hie fun h' ho hT hz hk=> ?_
  rw[een,e2] at ho hT
  refine⟨_,rfl,wpAny_letOwnedTupleGo_items (s:= { s with heap:=h' }) ho fun h'' he' sb=> ?_⟩
  have hT2:h''.get? s.heap.objs.size=some { cls:= .type "tuple",data:= .seq #[.ref q,en.val] } :=(sb.2 _ (Nat.ne_of_gt hlt)).trans hT
  have new:ObjOk X.prog X.w (upd H s.heap.objs.size (.tup [.ref q,v])) h'' s.heap.objs.size (.tup [.ref q,v]):=
   ⟨by show 2≤sizeLine;decide,[.ref q,en.val], .cons rfl (.cons e4 .nil),⟨_,hT2,rfl,_,rfl⟩⟩
  have I1:Inv X pins σ (upd H s.heap.objs.size (.tup [.ref q,v])) { s with heap:=h'' } :=
   I.turnedNew (t':=s.toks) (ch:= [it]) (fun b ob hb e=>(sb.2 b (by simpa using hb)).trans (hk b ob (by simpa using hb) e)) hf (Nat.le_refl _) new
  refine⟨.ref s.heap.objs.size,_,I1,rfl,⟨_,k,v,q,hkv,rfl,I.hok.fresh (Nat.le_refl _),e3,rfl⟩,⟨.ref q,en.val,?_⟩,fun b hb=> ?_⟩
  ·rw[← hsz];exact he'
  ·have e:b=it:=by simpa using hb
   rw[e,upd_ne (Nat.ne_of_lt hlt)]
   exact(hf it (by simp)).1
 done:=by
  intro X hP hw hK hc i pins s σ H E I hf st hg
  subst hP hw hK
  obtain⟨hd,hi⟩:=hg
  obtain⟨f0,f1,f2,f3,f4,f5⟩:=hf it (by simp)
  obtain⟨hs,hgd,hx,es',ep',hdt,hsz,ent⟩:=frzT_all I hd
  obtain⟨rfl,rfl⟩:=dict_ep hod hdt
  obtain⟨ok,ov,he⟩:=st
  rw[← hsz] at he
  exact DT.endI (es:=es') (I.ok.hd hc) he ⟨o,hgd,hx,hdt⟩ (by omega) fun h' eb=>⟨rfl,I.turned (t':=s.toks) (fun b ob hb e=>eb b ob hb e) f0 f1 f3 f4 f5⟩
 self:=fun A i s Q E st h=>let⟨_,_,e⟩:=st;PySem.W.kcp_self e h
end
def prsT (kvs:List (List Key × D)):List D:=kvs.map fun p=> .tup [.tup (p.1.map keyD),p.2]
theorem kv_at {κ :Type} {G:GC} {w:Wd} :∀ {kvs:List (κ × D)} {vs:List (κ × V)},RepKV G w kvs vs→∀(i:Nat) (k: κ) (v:V),vs[i]? =some (k,v)→∃d,kvs[i]? =some (k,d)∧Rep G w d v
 | [],vs,h,i,k,v,e=>by
   have h:vs= [] :=h
   subst h
   simp at e
 |p::kvs,vs,h,i,k,v,e=>by
  obtain⟨y,r,rfl,h1,h2⟩:=h
  cases i with
  |zero=>cases e;exact⟨p.2,rfl,h1⟩
  |succ i=>exact kv_at h2 i k v (by simpa using e)
theorem rep_keyD {G:GC} {w:Wd} (k:Key):Rep G w (keyD k) (kV k):=by
 cases k<;>simp[keyD,kV,Rep]
theorem repL_keys {G:GC} {w:Wd} :∀k:List Key,RepL G w (k.map keyD) (k.map kV)
 | [] =>by simp[RepL]
 |k::ks=>by
  simp only[List.map_cons,RepL]
  exact⟨_,_,rfl,rep_keyD k,repL_keys ks⟩
section
variable {G:GC} {w:Wd} {n:Nat} {a:Addr} {od:Obj}
theorem tup_nm (sr:SRep G w) {q:Addr} {vs:List V} (h:w.H q=some (.tup vs)): ¬Mut w q:=by
 rintro(⟨m,o,h1,l,h2⟩|m)
 ·have:=sr.obj m o q h1 h2
  cases o with
  |lst _=>obtain⟨_,e,_⟩:=this;rw[h] at e;cases e
  |dK _=>obtain⟨_,e,_⟩:=this;rw[h] at e;cases e
  |dT _=>obtain⟨_,e,_⟩:=this;rw[h] at e;cases e
  |dN _=>obtain⟨_,e,_⟩:=this;rw[h] at e;unfold ObN at e;cases e
  |ins _ _=>obtain⟨_,_,_,e,_⟩:=this;rw[h] at e;cases e
  |ptp _=>exact l
  |lkd _=>exact l
  |dead=>exact l
  |tab _ _=>obtain⟨_,_,e,_⟩:=this;rw[h] at e;cases e
 ·obtain⟨⟨u,e⟩,_⟩:=sr.tm q m
  rw[h] at e
  exact u.2 vs (Option.some.inj e).symm
theorem it_itemsT {kvs:List (List Key × D)} {vs:List (List Key × V)} (lk:LkAt w n a od (.dT vs)) (r:RepKV G w kvs vs):ItOk G w (ItiT a od vs) (prsT kvs):=by
 have hl:kvs.length=vs.length:=r.len.symm
 refine⟨fun T w' hT x s i d e=> ?_,fun T w' hT x s=>⟨(x.keepM hT lk.at' lk.nm).1,by simp[prsT,hl]⟩⟩
 have hi:i<kvs.length:=by
  have:=(List.getElem?_eq_some_iff.mp e).1
  simpa[prsT] using this
 refine⟨⟨(x.keepM hT lk.at' lk.nm).1,by omega⟩,fun y H'' hy=> ?_⟩
 obtain⟨T',k,v,q,e1,rfl,e2,e3,rfl⟩:=hy
 obtain⟨d',e4,r4⟩:=kv_at r i k v e1
 have ed:d= .tup [.tup (k.map keyD),d'] :=by
  simp only[prsT,List.getElem?_map,e4,Option.map_some,Option.some.injEq] at e
  exact e.symm
 subst ed
 obtain⟨x2,s2,nm2⟩:=new_ext (o:= .tup [.ref q,v]) s e2
 refine⟨_,rfl,x2,rfl,s2,?_⟩
 have hqT:q≠T':=ne_of_none e3 e2
 have hq2:(w'.put T' (.tup [.ref q,v])).H q=some (.tup (k.map kV)):=(upd_ne hqT).trans e3
 simp only[Rep]
 refine⟨T',_,rfl, .inl ⟨upd_same,nm2⟩,?_⟩
 simp only[RepL]
 refine⟨.ref q,_,rfl,?_,v,[],rfl,Rep.mono x2 _ _ (Rep.monoT x hT _ _ r4),rfl⟩
 simp only[Rep]
 exact⟨q,_,rfl, .inl ⟨hq2,tup_nm s2 hq2⟩,repL_keys k⟩
theorem pairs_get:∀ {kvs:List (Key × D)} {i:Nat} {d:D},(pairs kvs)[i]? =some d→∃k x,kvs[i]? =some (k,x)∧d= .tup [keyD k,x]
 | [],i,d,e=>by simp[pairs] at e
 |p::kvs,0,d,e=>by simp only[pairs,List.getElem?_cons_zero,Option.some.injEq] at e;exact⟨p.1,p.2,rfl,e.symm⟩
 |p::kvs,i+1,d,e=>by
  simp only[pairs,List.getElem?_cons_succ] at e ⊢
  exact pairs_get e
theorem pairs_length:∀kvs:List (Key × D),(pairs kvs).length=kvs.length
 | [] =>rfl
 |p::kvs=>by simp[pairs,pairs_length kvs]
theorem it_itemsK {kvs:List (Key × D)} {vs:List (Key × V)} (lk:LkAt w n a od (.dK vs)) (r:RepKV G w kvs vs):ItOk G w (Iti a od vs) (pairs kvs):=by
 have hl:kvs.length=vs.length:=r.len.symm
 refine⟨fun T w' hT x s i d e=> ?_,fun T w' hT x s=>⟨(x.keepM hT lk.at' lk.nm).1,by rw[pairs_length,hl];exact Nat.le_refl _⟩⟩
 obtain⟨k,d',e4,rfl⟩:=pairs_get e
 have hi:=(List.getElem?_eq_some_iff.mp e4).1
 refine⟨⟨(x.keepM hT lk.at' lk.nm).1,by omega⟩,fun y H'' hy=> ?_⟩
 obtain⟨T',k',v,e1,rfl,e2,rfl⟩:=hy
 obtain⟨d2,e5,r4⟩:=kv_at r i k' v e1
 rw[e4] at e5
 cases e5
 obtain⟨x2,s2,nm2⟩:=new_ext (o:= .tup [kV k,v]) s e2
 refine⟨_,rfl,x2,rfl,s2,?_⟩
 simp only[Rep]
 refine⟨T',_,rfl, .inl ⟨upd_same,nm2⟩,?_⟩
 simp only[RepL]
 exact⟨kV k,_,rfl,rep_keyD k,v,[],rfl,Rep.mono x2 _ _ (Rep.monoT x hT _ _ r4),rfl⟩
end
def itsO:O→Option (List D)
 | .dT kvs=>some (prsT kvs)
 | .dK kvs=>some (pairs kvs)
 | _=>none
end L3
namespace L3
open PySem PySem.Spec PyProof.Rows L2
def SelOk (sel:O→Option (List D)):Prop:=∀ob ps,sel ob=some ps→∃x,(ob= .dK x)∨∃y,ob= .dT y
theorem sel_its:SelOk itsO:=fun ob ps h=>by
 cases ob with
 |dK x=>exact⟨x, .inl rfl⟩
 |dT y=>exact⟨[], .inr ⟨y,rfl⟩⟩
 | _=>cases h
end L3
namespace L3
open PySem PySem.Spec PyProof.Rows L2
def iFz (sel:O→Option (List D)) (o:ED):ID:=fun env S=>(o env S).bind fun d S1=>match d with
 | .obj n=>match S1[n]? with
   |some ob=>match sel ob with
    |some ps=> .ok ps (S1.set n .dead)
    |none=> .bad
   |none=> .bad
 | _=> .bad
section
variable {G:GC} {X:Cx} {Wx:WX} {e:Expr} {apos cpos:Pos} {o:ED}
theorem fz_post {w1:Wd} {d:D} {sel:O→Option (List D)} {R:It→Hp→Prop} {E:Value→Option Addr→Hp→Prop} (hs:SelOk sel) (sr:SRep G w1)
 (p:Post G w1 (match d with
   | .obj n=>match w1.S[n]? with
     |some ob=>match sel ob with
      |some ps=> .ok ps (w1.S.set n .dead)
      |none=> .bad
     |none=> .bad
   | _=> .bad:L3.R (List D)) (fun w' xs (J:It)=>ItOk G w' J xs) R E):
 ∃n ob ps a u,d= .obj n∧w1.mu[n]? =some a∧w1.H a=some u∧DRep G w1 u ob∧sel ob=some ps∧∀od,∃w2:Wd,w2.H=upd w1.H a (.frz od u)∧SRep G w2∧LkAt w2 n a od u∧DRep G w2 u ob∧∀J,ItOk G w2 J ps→R J w2.H:=by
 split at p
 case h_2=>exact p.elim
 rename_i n
 split at p
 case h_2=>exact p.elim
 rename_i ob hn
 split at p
 case h_2=>exact p.elim
 rename_i ps hps
 have hl:=(List.getElem?_eq_some_iff.mp hn).1
 rw[← sr.len] at hl
 have hm:w1.mu[n]? =some w1.mu[n] :=List.getElem?_eq_getElem hl
 obtain⟨u,h3,h4⟩:=drep_at sr hn hm (hs ob ps hps)
 refine⟨n,ob,ps,_,u,rfl,hm,h3,h4,hps,fun od=> ?_⟩
 obtain⟨x,s,lk⟩:=lock_ok (od:=od) (u:=u) sr hn h4.live hm
 exact⟨lkW w1 n w1.mu[n] od u,rfl,s,lk,h4.of fun d v h=>Rep.mono x d v h,fun J io=>p J _ x rfl s io⟩
theorem q_itemsF {elts:List Expr} {kk:Nat} {tpos:Pos} (he:PE X e (tE G o Wx)) (hbase:attributeBase e "items" X.env (eval e X.env)=eval e X.env:=by rfl) (hline:(apos.endLine==cpos.line)=true:=by rfl):
 PI X (.Tuple elts kk tpos) (.Call (.Attribute e "items" apos) [] [] cpos) (tI G (iFz itsO o) Wx):=by
 refine⟨fun pins s σ H R I h=> ?_⟩
 obtain⟨w,env,rfl,sr,er,p⟩:=h
 refine wpAny_Call_method (T:= "dict") (id:= "dict.items") hbase rfl hline F.plainAttrs_dict F.slot_dict_items F.type_dict_items (thn (he.run pins s σ w.H _ I ⟨w,env,rfl,sr,er,Post.bind p⟩) fun v s1 ⟨x,H1,I1,rx,w1,d,eH,x1,sr1,r1,p1⟩=> ?_)
 subst eH
 obtain⟨n,ob,ps,a,u,rfl,hmu,hau,dr,hps,fin⟩:=fz_post sel_its sr1 p1
 simp only[Rep] at r1
 obtain⟨a',hm',rfl⟩:=r1
 rw[hmu] at hm'
 cases hm'
 obtain rfl:v=Value.ref a:=rx
 obtain⟨od,I1'⟩:=I1.lock hau dr.mut
 obtain⟨w2,eH2,sr2,lk2,dr2,fin2⟩:=fin od
 rw[← eH2] at I1'
 cases ob with
 |dT kvs=>
  obtain⟨vs,rfl,rk⟩:=dr2
  simp only[itsO,Option.some.injEq] at hps
  subst hps
  obtain⟨hs,hgd,hx,es,ep,hdt,hsz,ent⟩:=frzT_all I1' lk2.at'
  have q:=fin2 (ItiT a od vs) (it_itemsT lk2 rk)
  have raw:DT.Raw s1.heap a es ep:=⟨od,hgd,hx,hdt⟩
  refine⟨raw.typeIs,fun a' e'=>by cases e';exact⟨od,hgd,by first|exact hx.2.1|exact hx.1|exact hx.2⟩,?_⟩
  have I2:Inv X pins σ w2.H { s1 with heap:=s1.heap.push { cls:= .type "dict_items",data:= .fields #[.ref a] } } :=I1'.kept (t':=s1.toks) fun b ob q=>Heap.get?_push_of_some _ q
  have fin:wpAny (model X.prog X.w) X.A (pyIter (.ref s1.heap.objs.size)) (PIE X pins σ (.Tuple elts kk tpos) R) X.xe { s1 with heap:=s1.heap.push { cls:= .type "dict_items",data:= .fields #[.ref a] } } :=by
   refine DT.iterI (es:=es) (ep:=ep) (d:=a) ⟨_,Heap.get?_push_size _ rfl,rfl,rfl⟩ (raw.push _) (pi_one (tk:=s1.toks) I2 _ (turn_itemsT _ hdt) ⟨.none, .none,?_⟩ q)
   rw[← hsz]
   exact Heap.get?_push_size _ rfl
  show wpAny _ _ (callWith cpos (.builtin "dict.items") [.ref a] [] []) _ X.xe s1
  exact method_meetsIn F.slot_dict_items F.entry_dict_items rfl (PySem.evalArgs_none ⟨rfl,raw.typeIs,F.args_dict_items_1 _,_,DT.meetsItems (es:=es) (ep:=ep) hs,⟨raw,fin⟩⟩)
 |dK kvs=>
  obtain⟨vs,rfl,rk⟩:=dr2
  simp only[itsO,Option.some.injEq] at hps
  subst hps
  obtain⟨hs,hgd,hx,es,ep,vs',hdt,hsz,kv,hm⟩:=I1'.frzK lk2.at'
  have q:=fin2 (Iti a od vs) (it_itemsK lk2 rk)
  have hl:vs.length=vs'.length:=Paired.length kv
  refine⟨hm.dictOf.typeIs,hm.dictOf.mapOf.noDict,?_⟩
  have I2:Inv X pins σ w2.H { s1 with heap:=s1.heap.push { cls:= .type "dict_items",data:= .fields #[.ref a] } } :=I1'.kept (t':=s1.toks) fun b ob q=>Heap.get?_push_of_some _ q
  have fin:wpAny (model X.prog X.w) X.A (pyIter (.ref s1.heap.objs.size)) (PIE X pins σ (.Tuple elts kk tpos) R) X.xe { s1 with heap:=s1.heap.push { cls:= .type "dict_items",data:= .fields #[.ref a] } } :=by
   refine wpAny_pyIter_items (d:=a) (knd:=mixKind X.prog X.w) ⟨_,Heap.get?_push_size _ rfl,rfl,rfl⟩ (hm.push _) (pi_one (tk:=s1.toks) I2 _ (turn_items _ hdt) ⟨.none, .none,?_⟩ q)
   rw[hl]
   exact Heap.get?_push_size _ rfl
  show wpAny _ _ (callWith cpos (.builtin "dict.items") [.ref a] [] []) _ X.xe s1
  exact method_meetsIn F.slot_dict_items F.entry_dict_items rfl (PySem.evalArgs_none ⟨rfl,hm.dictOf.typeIs,F.args_dict_items_1 _,_,meets_dict_items (mixKind X.prog X.w) a hs,⟨vs',hm.dictOf⟩,fin⟩)
 | _=>exact dr2.elim
end
end L3
namespace L3
open PySem PySem.Spec PyProof.Rows L2
section
variable {G:GC} {X:Cx} {Wx:WX} {w:Wd}
def eBackL (a:ED):ED:=fun env S=>(a env S).bind fun x S1=>match asL x S1 with
 |some l=> .ok (.lst l.reverse) S1
 |none=> .bad
end
@[simp] theorem sat_eBackL {a:ED} {env:EnvD} {S:Store} {Q:D→Store→Prop} :(eBackL a env S).sat Q=(a env S).sat fun x S1=>∃l,asL x S1=some l∧Q (.lst l.reverse) S1:=by
  unfold eBackL;rw[sat_bind];congr;funext x S1
  cases asL x S1<;>simp
end L3
namespace L3
open PySem PySem.Spec PyProof.Rows L2
def removeD:D→FN:=fun x xs S=>match lstAt x S,xs with
 |some (n,l),[y] =>match toPyL l,toPy y with
  |some as,some b=>match PySem.SeqAt.dataPlace as b with
   |some j=>if(PyData.plainAll as&&b.plain&&decide (b.depth≤64)&&decide (l.length≤sizeLine))=true then .ok .non (S.set n (.lst (l.eraseIdx j))) else .bad
   |none=> .bad
  | _,_=> .bad
 | _,_=> .bad
theorem c_remove:CalmM removeD:=fun x xs S=>by unfold removeD;repeat' split
                                               all_goals trivial
section
variable {G:GC} {X:Cx} {w:Wd}
theorem o_remove (hK:X.K=G.K) (hu:X.A.units+66<cLine):MtR X "list.remove" (rM G removeD):=by
 intro pins s σ H x xs v us Q I rx rs q
 obtain⟨w,d,ds,rfl,sr,r1,rl,p⟩:=q
 unfold removeD at p
 split at p
 ·rename_i n l y hl
  split at p
  ·rename_i as b ha hb
   split at p
   ·rename_i j hj
    split at p
    ·rename_i ok
     simp only[Bool.and_eq_true,decide_eq_true_eq] at ok
     obtain⟨a,vs,rfl,hn,hm,h1,h2⟩:=lstAt_rep sr r1 hl
     simp only[RepL] at rl
     obtain⟨vy,r',rfl,ry,rfl⟩:=rl
     cases rx
     cases rs with
     |cons q1 q2=>
      cases q2
      obtain⟨z,its,k,r,hlen,e⟩:=I.lstM h1
      obtain⟨bs,ra⟩:=reads_all hK I h2 r ha
      obtain⟨p1,_⟩:=dp_of y vy b ry hb
      rw[← hK] at p1
      obtain⟨cs,rb⟩:=Dp.reads I b vy _ p1 q1
      have hm2:min (PyData.depthAll as) b.depth≤b.depth:=Nat.min_le_right _ _
      have hlv:=h2.length
      refine PySem.SeqAt.remove_list_data (vs:=its.toArray) (j:=j) ⟨_,e,rfl,k,rfl⟩ (by simpa using ra) rb ok.1.1.1 ok.1.1.2 (by omega) hj (by rw[List.size_toArray,←hlen,hlv];exact ok.2) ?_
      refine⟨.non,_,I.lset (its':=its.eraseIdx j) h1 e ?_ (r.eraseIdx j) ?_,rfl,set_lst sr hn hm (h2.eraseIdx j) (by simp[Rep]) p⟩
      ·show its.toArray.eraseIdxIfInBounds j=(its.eraseIdx j).toArray
       rw[List.eraseIdxIfInBounds_toArray]
      ·have:=List.length_eraseIdx_le vs j
       omega
    ·exact p.elim
   ·exact p.elim
  ·exact p.elim
 ·exact p.elim
end
end L3
namespace L3
open PySem PySem.Spec PyProof.Rows L2
section
variable {G:GC} {X:Cx} {Wx:WX} {e:Expr} {o:ED} {w:Wd} {n:Nat} {a:Addr} {od:Obj}
theorem it_keysK {kvs:List (Key × D)} {vs:List (Key × V)} (lk:LkAt w n a od (.dK vs)) (r:RepKV G w kvs vs):ItOk G w (Itk a od vs) (kvs.map fun p=>keyD p.1):=by
 have hl:kvs.length=vs.length:=r.len.symm
 refine⟨fun T w' hT x s i d e=> ?_,fun T w' hT x s=>⟨(x.keepM hT lk.at' lk.nm).1,by simp[hl]⟩⟩
 rw[List.getElem?_map] at e
 obtain⟨⟨k,d'⟩,e4,rfl⟩:=Option.map_eq_some_iff.mp e
 have hi:=(List.getElem?_eq_some_iff.mp e4).1
 refine⟨⟨(x.keepM hT lk.at' lk.nm).1,by omega⟩,fun y H'' hy=> ?_⟩
 obtain⟨rfl,k',v',e1,rfl⟩:=hy
 obtain⟨d2,e5,r4⟩:=kv_at r i k' v' e1
 rw[e4] at e5
 cases e5
 exact⟨w',rfl, .refl w',rfl,s,rep_keyD k⟩
end
end L3
namespace L3
open PySem L2
def slO (x:D) (lo hi:Option Int) (S:Store):R D:=match asL x S with
 |some l=> .ok (.obj S.length) (S++ [.lst (cutL l lo hi)])
 |none=> .bad
def eSlO (a:ED) (l h:PD):ED:=fun env S=>(a env S).bind fun x S1=>(l env S1).bind fun lo S2=>(h env S2).bind fun hi S3=>slO x lo hi S3
section
variable {env:EnvD} {S:Store} {Q:D→Store→Prop}
@[simp] theorem sat_eSlO {a:ED} {l h:PD} :(eSlO a l h env S).sat Q=(a env S).sat fun x S1=>(l env S1).sat fun lo S2=>(h env S2).sat fun hi S3=>(slO x lo hi S3).sat Q:=by
  unfold eSlO;rw[sat_bind];congr;funext x S1;rw[sat_bind];congr;funext lo S2;rw[sat_bind]
end
end L3
namespace L3
open PySem L2
def Hand (n:Nat) (S:Store):Prop:=∃g s:Int,S[n]? =some (.lst [.int g, .int s])
structure FrH (n:Nat) (S S':Store):Prop where
 le:S.length≤S'.length
 fr:∀m o,m≠n→S[m]? =some o→S'[m]? =some o
 hd:Hand n S'
theorem FrH.refl {n:Nat} {S:Store} (h:Hand n S):FrH n S S:=⟨Nat.le_refl _,fun _ _ _ h=>h,h⟩
theorem FrH.trans {n:Nat} {S S' S'':Store} (h:FrH n S S') (g:FrH n S' S''):FrH n S S'':=⟨Nat.le_trans h.le g.le,fun m o hm e=>g.fr m o hm (h.fr m o hm e),g.hd⟩
theorem Hand.lt {n:Nat} {S:Store} (h:Hand n S):n<S.length:=by
 obtain⟨g,s,e⟩:=h
 exact(List.getElem?_eq_some_iff.mp e).1
theorem FrH.set {n:Nat} {S:Store} (h:Hand n S) (g s:Int):FrH n S (S.set n (.lst [.int g, .int s])):=by
 refine⟨by simp,fun m o hm e=> ?_,⟨g,s,by simp[List.getElem?_set_self h.lt]⟩⟩
 rw[List.getElem?_set_ne (Ne.symm hm)];exact e
theorem FrH.app {n:Nat} {S:Store} (h:Hand n S) (o:O):FrH n S (S++ [o]):=by
 have e:∀(m:Nat) (o':O),S[m]? =some o'→(S++ [o])[m]? =some o':=fun m o' e=>by
  rw[List.getElem?_append_left (List.getElem?_eq_some_iff.mp e).1];exact e
 obtain⟨g,s,q⟩:=h
 exact⟨by simp,fun m o' _ q=>e m o' q,⟨g,s,e _ _ q⟩⟩
theorem FrH.put {n p:Nat} {S S':Store} (h:FrH n S S') (hn:Hand n S) (hp:S.length≤p) (o:O):FrH n S (S'.set p o):=by
 have l:=hn.lt
 refine⟨by simp[h.le],fun m o' hm e=> ?_,?_⟩
 ·have:m<S.length:=(List.getElem?_eq_some_iff.mp e).1
  rw[List.getElem?_set_ne (by omega)];exact h.fr m o' hm e
 ·obtain⟨g,s,e⟩:=h.hd
  exact⟨g,s,by rw[List.getElem?_set_ne (by omega)];exact e⟩
theorem lg_lt {j:Int} {m:Nat} (h:j.natAbs<2 ^ 64):j.natAbs.log2<9000:=by
 by_cases h0:j.natAbs=0
 ·rw[h0];decide
 ·exact Nat.lt_trans ((Nat.log2_lt h0).mpr h) (by decide)
def mTake:SD:=
    sSeq (sIf (tOfE (e2 gtD (e2 ixD (eVar 0) (eK (.int 0))) (eK (.int 0)))) (sSeq (sAsg (e2 modD (e2 ixD (eVar 0) (eK (.int 0))) (eVar 1)) (gName 2))
    (sSeq (sAsg (e2 fdivD (e2 ixD (eVar 0) (eK (.int 0))) (eVar 1)) (gSub (eVar 0) (eK (.int 0))))
    (sRet (eVar 2)))) (sSkip))
    (sSeq (sAsg (e2 modD (e2 addD (e2 mulD (e2 ixD (eVar 0) (eK (.int 1))) (eK (.int 1181783497276652981))) (eK (.int 12345678910987))) (eK (.int 2305843009213693951))) (gSub (eVar 0) (eK (.int 1))))
    (sRet (e2 modD (e2 fdivD (e2 modD (e2 mulD (e2 fdivD (e2 ixD (eVar 0) (eK (.int 1))) (eK (.int 65537))) (e2 addD (e2 modD (e2 ixD (eVar 0) (eK (.int 1))) (eK (.int 65537))) (eK (.int 3)))) (eK (.int 2305843009213693921))) (eK (.int 97))) (eVar 1))))
section
variable {n:Nat} {S:Store} {Q:D→Store→Prop}
theorem ix0 {g s:Int} (h:S[n]? =some (.lst [.int g, .int s])):ixD (.obj n) (.int 0) S= .ok (.int g) S:=by simp[ixD,h,atI,ixN]
theorem ix1 {g s:Int} (h:S[n]? =some (.lst [.int g, .int s])):ixD (.obj n) (.int 1) S= .ok (.int s) S:=by simp[ixD,h,atI,ixN]
theorem set0 {g s x:Int} (h:S[n]? =some (.lst [.int g, .int s])):setD (.obj n) (.int 0) (.int x) S=some (S.set n (.lst [.int x, .int s])):=by simp[setD,h,ixN]
theorem set1 {g s x:Int} (h:S[n]? =some (.lst [.int g, .int s])):setD (.obj n) (.int 1) (.int x) S=some (S.set n (.lst [.int g, .int x])):=by simp[setD,h,ixN]
theorem mulOk_r {i j:Int} (h: -(2 ^ 64)<j∧j<2 ^ 64):mulOk i j=true:=by simp only[mulOk,decide_eq_true_eq];exact .inl (.inr h)
theorem mulOk_l {i j:Int} (h: -(2 ^ 64)<i∧i<2 ^ 64):mulOk i j=true:=by simp only[mulOk,decide_eq_true_eq];exact .inl (.inl h)
theorem take_ok (h:Hand n S) {many:Int} (hm:0<many) (hb:many<2 ^ 64):(run 2 3 mTake [.obj n, .int many] S).sat fun d S'=>(∃ i,d= .int i∧0≤i∧i<many)∧FrH n S S':=by
 obtain⟨g,s,e⟩:=h
 have h:Hand n S:=⟨g,s,e⟩
 have hlog:many.natAbs.log2<9000:=lg_lt (m:=0) (by omega)
 rw[sat_run]
 refine⟨rfl,?_⟩
 unfold mTake
 have l2:∀j:Nat,j<2 ^ 64→0<j→j.log2<9000:=fun j hj h0=>Nat.lt_trans ((Nat.log2_lt (by omega)).mpr hj) (by decide)
 by_cases hg:0<g
 ·simp[ix0 e,hg,mod_int,fdiv_int,hm,hlog,gSub,eVar,eK,set0 e]
  exact⟨⟨Int.emod_nonneg _ (by omega),Int.emod_lt_of_pos _ hm⟩, .set h _ _⟩
 ·have e2:(S.set n (.lst [.int g, .int ((s*1181783497276652981+12345678910987) % 2305843009213693951)]))[n]? =some (.lst [.int g, .int ((s*1181783497276652981+12345678910987) % 2305843009213693951)]):=by
   simp[List.getElem?_set_self h.lt]
  simp[ix0 e,ix1 e,ix1 e2,hg,mod_int,fdiv_int,mul_int,hm,hlog,gSub,eVar,eK,set1 e,mulOk_r]
  refine⟨l2 _ (by decide) (by decide),mulOk_r (by omega),l2 _ (by decide) (by decide),⟨Int.emod_nonneg _ (by omega),Int.emod_lt_of_pos _ hm⟩, .set h _ _⟩
def IsTake (tk:FN):Prop:=∀(n:Nat) (S:Store) (many:Int),Hand n S→0<many→many<2 ^ 64→(tk [.obj n, .int many] S).sat fun d S'=>(∃ i,d= .int i∧0≤i∧i<many)∧FrH n S S'
theorem isTake:IsTake (run 2 3 mTake):=fun n S many h h1 h2=>take_ok h h1 h2
def mPick (tk:FN):SD:=sRet (e2 ixD (eVar 1) (eN (callK tk []) (aCons (eVar 0) (aCons (eN lenD (aCons (eVar 1) (aNil))) (aNil)))))
theorem atI_mem {α :Type} {l:List α} {i:Int} (h0:0≤i) (h:i<l.length):∃x ∈ l,atI l i=some x:=by
 refine⟨l[i.toNat]'(by omega),List.getElem_mem _,?_⟩
 simp only[atI,ixN]
 simp[h0,h,show i.toNat<l.length by omega]
def mHand:SD:=
    sSeq (sAsg (e2 addD (e2 mulD (eK (.int 3)) (eVar 1)) (eN lenD (aCons (eVar 0) (aNil)))) (gName 2))
    (sSeq (sIf (tOfE (e2 ltD (eVar 1) (eN lenD (aCons (eVar 0) (aNil))))) (sAsg (e2 ixD (eVar 0) (eVar 1)) (gName 2)) (sSkip))
    (sSeq (sAsg (e2 mulD (e2 modD (eN absD (aCons (eVar 2) (aNil))) (e2 powD (e2 powD (eK (.int 10)) (eK (.int 60))) (eK (.int 5)))) (eN intD (aCons (e2 geD (eN absD (aCons (eVar 2) (aNil))) (e2 powD (eK (.int 10)) (eK (.int 18)))) (aNil)))) (gName 3))
    (sRet (eN mkObj (aCons (eVar 3) (aCons (e2 modD (e2 mulD (e2 addD (e2 addD (e2 modD (eVar 2) (eK (.int 2305843009213693951))) (e2 mulD (e2 mulD (eK (.int 7919)) (eVar 1)) (eVar 1))) (eK (.int 11))) (eK (.int 48271))) (eK (.int 2305843009213693951))) (aNil)))))))
def IsHand (hd:FN):Prop:=∀(S:Store) (ns:List Int) (k:Int),0≤k→k<2 ^ 32→(hd [.scr ns, .int k] S).sat fun d S'=>d= .obj S.length∧∃g s:Int,S'=S++ [.lst [.int g, .int s]]
def T60:Int:=10 ^ 60
def T300:Int:=10 ^ 300
theorem T300_pos:0<T300:=by decide +kernel
theorem pw1:powD (.int 10) (.int 60) S= .ok (.int T60) S:=by kernel_rfl
theorem pw2:powD (.int T60) (.int 5) S= .ok (.int T300) S:=by kernel_rfl
theorem pw3:powD (.int 10) (.int 18) S= .ok (.int 1000000000000000000) S:=by kernel_rfl
theorem isHand:IsHand (run 2 4 mHand):=fun S ns k h0 hk=>by
 rw[sat_run]
 refine⟨rfl,?_⟩
 have key:∀c:Int,((sSeq (sAsg (e2 mulD (e2 modD (eN absD (aCons (eVar 2) (aNil))) (e2 powD (e2 powD (eK (.int 10)) (eK (.int 60))) (eK (.int 5)))) (eN intD (aCons (e2 geD (eN absD (aCons (eVar 2) (aNil))) (e2 powD (eK (.int 10)) (eK (.int 18)))) (aNil)))) (gName 3))
  (sRet (eN mkObj (aCons (eVar 3) (aCons (e2 modD (e2 mulD (e2 addD (e2 addD (e2 modD (eVar 2) (eK (.int 2305843009213693951))) (e2 mulD (e2 mulD (eK (.int 7919)) (eVar 1)) (eVar 1))) (eK (.int 11))) (eK (.int 48271))) (eK (.int 2305843009213693951))) (aNil)))))) [some (.scr ns),some (.int k),some (.int c),none] S).sat
    (fun _ S1=>D.non= .obj S.length∧∃g s:Int,S1=S++ [.lst [.int g, .int s]]) (fun d S'=>d= .obj S.length∧∃g s:Int,S'=S++ [.lst [.int g, .int s]]) (fun _ _=>False) fun _ _=>False:=fun c=>by
  simp[pw1,pw2,pw3,absD,intD,mod_int,mul_int,T300_pos]
  refine⟨mulOk_r (by split<;>omega),mulOk_l (by omega),mulOk_r (by omega),mulOk_r (by omega),by decide⟩
 unfold mHand
 simp only[ssat_seq,ssat_asg,sat_e2,sat_eK,sat_eVar,ssat_if,sat_eN,sat_aCons,sat_aNil]
 simp[mul_int,mulOk_l]
 by_cases hc:k<ns.length
 ·obtain⟨x,hx,e⟩:=atI_mem (l:=ns) h0 hc
  simp[hc,ixD,e]
  have:=key x
  simpa[mul_int,mulOk_l] using this
 ·simp[hc]
  have:=key (3*k+ns.length)
  simpa[mul_int,mulOk_l] using this
end
end L3
namespace L3
open PySem L2
section
variable {S:Store} {env:EnvD} {Q:D→Store→Prop}
@[simp] theorem isi_tup {l:List D} :isiD [.tup l, .ty "tuple"] S= .ok (.bl true) S:=by kernel_rfl
@[simp] theorem isi_str {s:Str} :isiD [.str s, .ty "str"] S= .ok (.bl true) S:=by kernel_rfl
@[simp] theorem isi_bl {b:Bool} :isiD [.bl b, .ty "bool"] S= .ok (.bl true) S:=by kernel_rfl
@[simp] theorem isi_lst_tup {l:List D} :isiD [.lst l, .ty "tuple"] S= .ok (.bl false) S:=by kernel_rfl
@[simp] theorem isi_dic_tup {k} {l:List D} :isiD [.dic k l, .ty "tuple"] S= .ok (.bl false) S:=by kernel_rfl
@[simp] theorem isi_str_tup {l:Str} :isiD [.str l, .ty "tuple"] S= .ok (.bl false) S:=by kernel_rfl
@[simp] theorem isi_int_tup {l:Int} :isiD [.int l, .ty "tuple"] S= .ok (.bl false) S:=by kernel_rfl
@[simp] theorem isi_bl_tup {l:Bool} :isiD [.bl l, .ty "tuple"] S= .ok (.bl false) S:=by kernel_rfl
@[simp] theorem isi_non_tup:isiD [.non, .ty "tuple"] S= .ok (.bl false) S:=by kernel_rfl
@[simp] theorem isi_lst_str {l:List D} :isiD [.lst l, .ty "str"] S= .ok (.bl false) S:=by kernel_rfl
@[simp] theorem isi_tup_str {l:List D} :isiD [.tup l, .ty "str"] S= .ok (.bl false) S:=by kernel_rfl
@[simp] theorem isi_dic_str {k} {l:List D} :isiD [.dic k l, .ty "str"] S= .ok (.bl false) S:=by kernel_rfl
@[simp] theorem isi_int_str {l:Int} :isiD [.int l, .ty "str"] S= .ok (.bl false) S:=by kernel_rfl
@[simp] theorem isi_bl_str {l:Bool} :isiD [.bl l, .ty "str"] S= .ok (.bl false) S:=by kernel_rfl
@[simp] theorem isi_non_str:isiD [.non, .ty "str"] S= .ok (.bl false) S:=by kernel_rfl
@[simp] theorem isi_int {l:Int} :isiD [.int l, .ty "int"] S= .ok (.bl true) S:=by kernel_rfl
@[simp] theorem isi_bl_int {l:Bool} :isiD [.bl l, .ty "int"] S= .ok (.bl true) S:=by kernel_rfl
@[simp] theorem isi_int_bl {l:Int} :isiD [.int l, .ty "bool"] S= .ok (.bl false) S:=by kernel_rfl
@[simp] theorem isi_tup_int {l:List D} :isiD [.tup l, .ty "int"] S= .ok (.bl false) S:=by kernel_rfl
@[simp] theorem isi_lst_int {l:List D} :isiD [.lst l, .ty "int"] S= .ok (.bl false) S:=by kernel_rfl
@[simp] theorem isi_dic_int {k} {l:List D} :isiD [.dic k l, .ty "int"] S= .ok (.bl false) S:=by kernel_rfl
@[simp] theorem isi_str_int {l:Str} :isiD [.str l, .ty "int"] S= .ok (.bl false) S:=by kernel_rfl
@[simp] theorem isi_non_int:isiD [.non, .ty "int"] S= .ok (.bl false) S:=by kernel_rfl
@[simp] theorem eq_strs {a b:Str} :eqD (.str a) (.str b) S= .ok (.bl (a==b)) S:=nrfl rfl
@[simp] theorem ne_strs {a b:Str} :neD (.str a) (.str b) S= .ok (.bl (!(a==b))) S:=nrfl rfl
@[simp] theorem eq_tup0 {l:List D} :eqD (.tup l) (.tup []) S= .ok (.bl l.isEmpty) S:=nrfl rfl
@[simp] theorem ne_tup0 {l:List D} :neD (.tup l) (.tup []) S= .ok (.bl (!l.isEmpty)) S:=nrfl rfl
theorem all_lst:∀bs:List Bool,allBls (bs.map D.bl)=some bs
 | [] =>rfl
 |b::bs=>by simp[allBls,all_lst bs]
theorem all_bl (bs:List Bool):allD [.lst (bs.map D.bl)] S= .ok (.bl (bs.all id)) S:=by simp[allD,asL,all_lst]
theorem sum_lst:∀bs:List Int,allInts (bs.map D.int)=some bs
 | [] =>rfl
 |b::bs=>by simp[allInts,sum_lst bs]
theorem small {n:Nat} (h:n≤1000):n≤sizeLine:=Nat.le_trans h (by decide)
theorem add_lst {a b:List D} (h:a.length+b.length≤sizeLine):addD (.lst a) (.lst b) S= .ok (.lst (a++b)) S:=by simp[addD,asL,h]
theorem add_tup {a b:List D} (h:a.length+b.length≤sizeLine):addD (.tup a) (.tup b) S= .ok (.tup (a++b)) S:=by simp[addD,h]
theorem add_str {a b:Str} (h:a.length+b.length≤sizeLine):addD (.str a) (.str b) S= .ok (.str (a++b)) S:=by simp[addD,h]
theorem mem_range {lo hi:Int} {x:D} (h:x ∈ rangeD lo hi):∃i:Int,x= .int i∧lo≤i∧i<hi:=by
 simp only[rangeD,List.mem_map,List.mem_range] at h
 obtain⟨a,ha,rfl⟩:=h
 exact⟨_,rfl,by omega,by omega⟩
variable {N B C:EnvD→Store→Prop} {T:D→Store→Prop}
theorem for_each {g:GD} {body:SD} (I:EnvD→Store→Prop) {xs:List D} (h0:I env S)
 (hs:∀x ∈ xs,∀e S,I e S→(g x e S).sat (fun e S=>(body e S).sat I T N I) (fun _ _=>False) (fun _ _=>False) fun _ _=>False)
 (hN:∀e S,I e S→N e S):(forL g body xs env S).sat N T B C:=
 for_rule (fun _=>I) h0 (fun j hj e S h=>hs _ (List.getElem_mem hj) e S h) hN
theorem seq_rule {a b:SD} (M:EnvD→Store→Prop) (h:(a env S).sat M T B C) (k:∀e S,M e S→(b e S).sat N T B C):(sSeq a b env S).sat N T B C:=by
 rw[ssat_seq];exact ssat_mono h k (fun _ _ h=>h) (fun _ _ h=>h) fun _ _ h=>h
@[simp] theorem sat_pNo {QO:Option Int→Store→Prop} :(pNo env S).sat QO=QO none S:=sat_ok
@[simp] theorem sat_pYes {a:ED} {QO:Option Int→Store→Prop} :(pYes a env S).sat QO=(a env S).sat fun x S1=>∃i,x= .int i∧QO (some i) S1:=by
  unfold pYes;rw[sat_bind];congr;funext x S1
  cases x<;>simp
@[simp] theorem sat_eSl {a:ED} {l h:PD} :(eSl a l h env S).sat Q=(a env S).sat fun x S1=>(l env S1).sat fun lo S2=>(h env S2).sat fun hi S3=>(slD x lo hi S3).sat Q:=by
  unfold eSl;simp only[sat_bind]
@[simp] theorem sl_tup {l:List D} {lo hi:Option Int} :slD (.tup l) lo hi S= .ok (.tup (cutL l lo hi)) S:=nrfl rfl
@[simp] theorem sl_lst {l:List D} {lo hi:Option Int} :slD (.lst l) lo hi S= .ok (.lst (cutL l lo hi)) S:=nrfl rfl
@[simp] theorem sat_eBackT {a:ED} :(eBackT a env S).sat Q=(a env S).sat fun x S1=>∃l,x= .tup l∧Q (.tup l.reverse) S1:=by
  unfold eBackT;rw[sat_bind];congr;funext x S1
  cases x<;>simp
@[simp] theorem sat_eDic0:(eDic0 env S).sat Q=Q (.dic [] []) S:=sat_ok
@[simp] theorem sat_eDct0:(eDct0 env S).sat Q=Q (.obj S.length) (S++ [.dK []]):=sat_ok
end
end L3
namespace L3
open PySem L2
section
variable {S:Store} {env:EnvD} {Q:D→Store→Prop} {QL:List D→Store→Prop} {N B C:EnvD→Store→Prop} {T:D→Store→Prop}
@[simp] theorem gSeq_lst {is:List Nat} {l:List D} :gSeq is (.lst l) env S=gNames is l env S:=nrfl rfl
@[simp] theorem gSeq_tup {is:List Nat} {l:List D} :gSeq is (.tup l) env S=gNames is l env S:=nrfl rfl
theorem ssat_gSub {mo mi:ED} {v:D} :(gSub mo mi v env S).sat N T B C=(mo env S).sat fun o S1=>(mi env S1).sat fun i S2=>∃S3,setD o i v S2=some S3∧N env S3:=by
 unfold gSub
 cases mo env S with
 |ok o S1=>
  simp only[sat_ok]
  cases mi env S1 with
  |ok i S2=>
   simp only[sat_ok]
   cases setD o i v S2 with
   |some S3=>simp
   |none=>simp
  | _=>simp
 | _=>simp
theorem setD_dK {n:Nat} {kvs:List (Key × D)} {i v:D} {k:Key} (h:S[n]? =some (.dK kvs)) (hk:keyOf i=some k) (hz:kvs.length<sizeLine):setD (.obj n) i v S=some (S.set n (.dK (putD kvs k v))):=by
 simp only[setD,h,hk,hz,if_true]
theorem ix_dict {x y:D} {kvs:List (Key × D)} {k:Key} {d:D} (h:dkAt x S=some kvs) (hk:keyOf y=some k) (hd:dGet kvs k=some d):ixD x y S= .ok d S:=by
 unfold dkAt at h
 cases x with
 |dic ks l=>
  simp only at h
  split at h
  ·cases h;simp only[ixD,hk,hd]
  ·cases h
 |obj n=>
  simp only at h
  split at h
  ·rename_i kv hn;cases h;simp only[ixD,hn,hk,hd]
  ·cases h
 | _=>cases h
end
end L3
namespace L3
open PySem PySem.Spec PyProof.Rows L2
def iLkd (o:ED):ID:=fun env S=>(o env S).bind fun d S1=>match d with
 | .obj n=>match S1[n]? with
   |some (.dK kvs)=> .ok (kvs.map fun p=>keyD p.1) (S1.set n (.lkd kvs))
   |some (.lkd kvs)=> .ok (kvs.map fun p=>keyD p.1) S1
   | _=> .bad
 | _=> .bad
def ixkD:F2:=fun x y S=>match x with
 | .obj n=>match S[n]? with
   |some (.dK kvs)=>match keyOf y with
    |some k=>match dGet kvs k with
     |some d=> .ok d S
     |none=> .bad
    |none=> .bad
   |some (.lkd kvs)=>match keyOf y with
    |some k=>match dGet kvs k with
     |some d=> .ok d S
     |none=> .bad
    |none=> .bad
   | _=> .bad
 | _=> .bad
theorem c_ixk:Calm2 ixkD:=fun x y S=>by unfold ixkD;repeat' split
                                        all_goals trivial
section
variable {G:GC} {X:Cx} {Wx:WX} {e:Expr} {o:ED} {w:Wd} {n:Nat} {a:Addr} {od:Obj}
theorem lkd_ok {kvs:List (Key × D)} {vs:List (Key × V)} (sr:SRep G w) (hn:w.S[n]? =some (.dK kvs)) (hm:w.mu[n]? =some a) (hr:RepKV G w kvs vs):
 ∃w2:Wd,WExt w w2∧w2.H=upd w.H a (.frz od (.dK vs))∧w2.S=w.S.set n (.lkd kvs)∧SRep G w2∧LkAt w2 n a od (.dK vs)∧RepKV G w2 kvs vs:=by
 have key:∀w',WExt w w'→w'.H a=some (.frz od (.dK vs))→(¬ (O.lkd kvs).live→¬Mut w' a)→ORep G w' a (.lkd kvs):=fun w' x e nm=>⟨od,vs,⟨e,nm fun h=>h⟩,RepKV.mono x _ _ hr⟩
 obtain⟨x,s⟩:=set_obj' (o:= .frz od (.dK vs)) (ob':= .lkd kvs) sr hn trivial hm key
 have hl:=(List.getElem?_eq_some_iff.mp hn).1
 obtain⟨o2,vs2,⟨h1,h2⟩,h3⟩:=s.obj n (.lkd kvs) a (by show(w.S.set n _)[n]? =_;rw[List.getElem?_set_self hl]) hm
 exact⟨_,x,rfl,rfl,s,⟨hm,upd_same,h2⟩,RepKV.mono x _ _ hr⟩
theorem q_lkd {tg:Expr} (he:PE X e (tE G o Wx)):PI X tg e (tI G (iLkd o) Wx):=by
 refine⟨fun pins s σ H R I h=> ?_⟩
 obtain⟨w,env,rfl,sr,er,p⟩:=h
 refine thn (he.run pins s σ w.H _ I ⟨w,env,rfl,sr,er,Post.bind p⟩) fun v s1 ⟨x,H1,I1,rx,w1,d,eH,x1,sr1,r1,p1⟩=> ?_
 subst eH
 dsimp only at p1
 split at p1
 case h_2=>exact p1.elim
 rename_i n
 simp only[Rep] at r1
 obtain⟨a,hm,rfl⟩:=r1
 obtain rfl:v=Value.ref a:=rx
 split at p1
 case h_3=>exact p1.elim
 ·rename_i kvs hn
  obtain⟨vs,h1,h2⟩:=sr1.obj n _ a hn hm
  obtain⟨od,I1'⟩:=I1.lock h1 trivial
  obtain⟨w2,x2,eH2,eS2,sr2,lk2,rk⟩:=lkd_ok (od:=od) sr1 hn hm h2
  rw[← eH2] at I1'
  obtain⟨hs,hgd,hx,es,ep,vs',hdt,hsz,kv,hmm⟩:=I1'.frzK lk2.at'
  have q:=p1 (Itk a od vs) w2 x2 eS2 sr2 (it_keysK lk2 rk)
  refine iter_keys hs hgd hx hdt (pi_one (tk:=s1.toks) I1' _ (turn_keys _ hdt) ⟨_,Heap.get?_push_size _ rfl,rfl,?_⟩ q)
  rw[hsz] <;>rfl
 ·rename_i kvs hn
  obtain⟨od,vs,⟨h1,nm⟩,h2⟩:=sr1.obj n _ a hn hm
  have lk:LkAt w1 n a od (.dK vs):=⟨hm,h1,nm⟩
  obtain⟨hs,hgd,hx,es,ep,vs',hdt,hsz,kv,hmm⟩:=I1.frzK lk.at'
  have q:=p1 (Itk a od vs) w1 (.refl _) rfl sr1 (it_keysK lk h2)
  refine iter_keys hs hgd hx hdt (pi_one (tk:=s1.toks) I1 _ (turn_keys _ hdt) ⟨_,Heap.get?_push_size _ rfl,rfl,?_⟩ q)
  rw[hsz] <;>rfl
theorem o_ixk (hu:X.A.units+1<cLine):IxR X (r2 G ixkD):=by
 refine ixI2 (ix_dk hu) fun x y H Q q=> ?_
 obtain⟨w,d1,d2,rfl,sr,r1,r2,p⟩:=q
 unfold ixkD at p
 split at p
 case h_2=>exact p.elim
 rename_i n
 simp only[Rep] at r1
 obtain⟨a,hm,rfl⟩:=r1
 split at p
 case h_3=>exact p.elim
 ·rename_i kvs hn
  split at p
  case h_2=>exact p.elim
  rename_i k hk
  split at p
  case h_2=>exact p.elim
  rename_i d hd
  obtain⟨vs,h1,h2⟩:=sr.obj n _ a hn hm
  have ey:=keyOf_rep r2 hk
  have:=dGet_rep k h2
  rw[hd] at this
  obtain⟨v,e1,e2⟩:=this
  exact⟨a,v,rfl, .inl ⟨vs,k, .inl h1,ey,e1.symm⟩,Post.ret sr e2 p⟩
 ·rename_i kvs hn
  split at p
  case h_2=>exact p.elim
  rename_i k hk
  split at p
  case h_2=>exact p.elim
  rename_i d hd
  obtain⟨od,vs,⟨h1,nm⟩,h2⟩:=sr.obj n _ a hn hm
  have ey:=keyOf_rep r2 hk
  have:=dGet_rep k h2
  rw[hd] at this
  obtain⟨v,e1,e2⟩:=this
  exact⟨a,v,rfl, .inl ⟨vs,k, .inr ⟨od,h1⟩,ey,e1.symm⟩,Post.ret sr e2 p⟩
end
end L3
namespace K60
open PySem L2 L3
noncomputable section
def c_HOLES:D:=(.tup [(.str "any"),(.str "called"),(.str "count"),(.str "rest")])
def kbd_is_lean_0_rule_g:List D→List D→List D:=gath .non [(true,0)]
def m_listed (F:Nat→FN):SD:=
    sRet (e2 addD (eN mkLst (aCons (eVar 0) (aNil))) (eLc2 (iSeq (e2 ixD (eVar 0) (eK (.int 2)))) [2,1] (gName 2) (tYesD) (iSeq (eN (callK (F 0) []) (aCons (eVar 2) (aNil)))) [1] (gName 1) (tYesD) (eVar 1)))
def m_nodes_of (F:Nat→FN):SD:=
    sRet (eN tupleD (aCons (eN (callK (F 0) []) (aCons (eVar 0) (aNil))) (aNil)))
def m_holes_counted (F:Nat→FN):SD:=
    sSeq (sAsg (eDct0) (gName 1))
    (sSeq (sFor (iSeq (eN (callK (F 1) []) (aCons (eVar 0) (aNil)))) (gTup [2,3,4]) (sIf (tOfE (e2 inD (eVar 2) (eK c_HOLES))) (sAsg (e2 addD (eBM "dict" dgetD (eVar 1) (aCons (eVar 3) (aCons (eK (.int 0)) (aNil)))) (eK (.int 1))) (gSub (eVar 1) (eVar 3))) (sSkip)))
    (sRet (eVar 1)))
def m_is_lean (F:Nat→FN):SD:=
    sSeq (sAsg (eVar 0) (gTup [1,2,3,4]))
    (sSeq (sAsg (eN (callK (F 2) []) (aCons (eVar 2) (aNil))) (gName 5))
    (sRet (eN allD (aCons (eLc (iFz itsO (eN (callK (F 2) []) (aCons (eVar 4) (aNil)))) [6,7] (gTup [6,7]) (tYesD) (e2 leD (eVar 7) (e2 ixD (eVar 5) (eVar 6)))) (aNil)))))
def m_law_hand (F:Nat→FN):SD:=
    sSeq (sAsg (e2 addD (e2 mulD (eK (.int 3)) (eVar 1)) (eN lenD (aCons (eVar 0) (aNil)))) (gName 2))
    (sSeq (sIf (tOfE (e2 ltD (eVar 1) (eN lenD (aCons (eVar 0) (aNil))))) (sAsg (e2 ixD (eVar 0) (eVar 1)) (gName 2)) (sSkip))
    (sSeq (sAsg (e2 mulD (e2 modD (eN absD (aCons (eVar 2) (aNil))) (e2 powD (e2 powD (eK (.int 10)) (eK (.int 60))) (eK (.int 5)))) (eN intD (aCons (e2 geD (eN absD (aCons (eVar 2) (aNil))) (e2 powD (eK (.int 10)) (eK (.int 18)))) (aNil)))) (gName 3))
    (sRet (eN mkObj (aCons (eVar 3) (aCons (e2 modD (e2 mulD (e2 addD (e2 addD (e2 modD (eVar 2) (eK (.int 2305843009213693951))) (e2 mulD (e2 mulD (eK (.int 7919)) (eVar 1)) (eVar 1))) (eK (.int 11))) (eK (.int 48271))) (eK (.int 2305843009213693951))) (aNil)))))))
def m_law_take (F:Nat→FN):SD:=
    sSeq (sIf (tOfE (e2 gtD (e2 ixD (eVar 0) (eK (.int 0))) (eK (.int 0)))) (sSeq (sAsg (e2 modD (e2 ixD (eVar 0) (eK (.int 0))) (eVar 1)) (gName 2))
    (sSeq (sAsg (e2 fdivD (e2 ixD (eVar 0) (eK (.int 0))) (eVar 1)) (gSub (eVar 0) (eK (.int 0))))
    (sRet (eVar 2)))) (sSkip))
    (sSeq (sAsg (e2 modD (e2 addD (e2 mulD (e2 ixD (eVar 0) (eK (.int 1))) (eK (.int 1181783497276652981))) (eK (.int 12345678910987))) (eK (.int 2305843009213693951))) (gSub (eVar 0) (eK (.int 1))))
    (sRet (e2 modD (e2 fdivD (e2 modD (e2 mulD (e2 fdivD (e2 ixD (eVar 0) (eK (.int 1))) (eK (.int 65537))) (e2 addD (e2 modD (e2 ixD (eVar 0) (eK (.int 1))) (eK (.int 65537))) (eK (.int 3)))) (eK (.int 2305843009213693921))) (eK (.int 97))) (eVar 1))))
def m_law_pick (F:Nat→FN):SD:=
    sRet (e2 ixD (eVar 1) (eN (callK (F 5) []) (aCons (eVar 0) (aCons (eN lenD (aCons (eVar 1) (aNil))) (aNil)))))
def m_law_called (F:Nat→FN):SD:=
    sSeq (sAsg (eK (.str "abcdefghijklmnopqrstuvwxyz")) (gName 2))
    (sSeq (sAsg (eBM "str" splitD (eK (.str "plus times most row say less below if let each num name any rest called count")) (aCons (eK (.str " ")) (aNil))) (gName 3))
    (sSeq (sAsg (eN mkTup (aCons (eN (callK (F 5) []) (aCons (eVar 0) (aCons (eK (.int 676)) (aNil)))) (aCons (eN (callK (F 6) []) (aCons (eVar 0) (aCons (eN mkLst (aCons (eK (.int 1)) (aCons (eK (.int 3)) (aCons (eK (.int 7)) (aCons (eK (.int 25)) (aCons (eK (.int 27)) (aCons (eK (.int 51)) (aCons (eK (.int 105)) (aNil))))))))) (aNil)))) (aNil)))) (gTup [4,5]))
    (sSeq (sIf (tAnd (tOfE (e2 ltD (eVar 1) (eK (.int 27)))) (tOfE (e2 eqD (eN (callK (F 5) []) (aCons (eVar 0) (aCons (eK (.int 6)) (aNil)))) (eK (.int 0))))) (sRet (eLc (iArgs range1 (aCons (eVar 1) (aNil))) [6] (gName 6) (tYesD) (e2 ixD (eVar 2) (e2 modD (e2 addD (eVar 4) (eVar 6)) (eK (.int 26)))))) (sSkip))
    (sSeq (sAsg (eBM "str" joinD (eK (.str "")) (aCons (eLc (iArgs range1 (aCons (eN (callK (F 6) []) (aCons (eVar 0) (aCons (eN mkLst (aCons (eK (.int 0)) (aCons (eK (.int 0)) (aCons (eK (.int 1)) (aCons (eK (.int 2)) (aCons (eK (.int 6)) (aNil))))))) (aNil)))) (aNil))) [6] (gName 6) (tYesD) (eN (callK (F 6) []) (aCons (eVar 0) (aCons (eVar 2) (aNil))))) (aNil))) (gName 7))
    (sSeq (sPar [8,9] (aCons (eN (callK (F 5) []) (aCons (eVar 0) (aCons (e2 addD (eN lenD (aCons (eVar 7) (aNil))) (eK (.int 1))) (aNil)))) (aCons (eN mkObj (aNil)) (aNil))))
    (sSeq (sFor (iArgs range1 (aCons (eVar 1) (aNil))) (gName 6) (sSeq (sAsg (e2 modD (e2 addD (eVar 4) (e2 mulD (eVar 5) (eVar 6))) (eK (.int 676))) (gName 10))
    (sSeq (sAsg (e2 addD (e2 ixD (eVar 2) (e2 fdivD (eVar 10) (eK (.int 26)))) (e2 ixD (eVar 2) (e2 modD (eVar 10) (eK (.int 26))))) (gName 11))
    (sSeq (sAsg (e2 addD (e2 addD (eSl (eVar 7) (pNo) (pYes (eVar 8))) (eVar 11)) (eSl (eVar 7) (pYes (eVar 8)) (pNo))) (gName 12))
    (sExpr (eBM "list" appendD (eVar 9) (aCons (e2 addD (eVar 12) (e2 mulD (eK (.str "x")) (eN intD (aCons (e2 inD (eVar 12) (eVar 3)) (aNil))))) (aNil))))))))
    (sRet (eVar 9))))))))
def m_law_digit (F:Nat→FN):SD:=
    sRet (eN (callK (F 6) []) (aCons (eVar 0) (aCons (eN mkLst (aCons (eK (.int 0)) (aCons (eK (.int 1)) (aCons (eK (.int 2)) (aCons (eK (.int 3)) (aCons (eN (callK (F 5) []) (aCons (eVar 0) (aCons (eK (.int 6)) (aNil)))) (aCons (eK (.int 9972)) (aCons (eN (callK (F 5) []) (aCons (eVar 0) (aCons (eK (.int 9973)) (aNil)))) (aNil))))))))) (aNil))))
def m_law_grown (F:Nat→FN):SD:=
    sSeq (sAsg (e2 subD (e2 ixD (eVar 1) (eK (.str "left"))) (eK (.int 1))) (gSub (eVar 1) (eK (.str "left"))))
    (sSeq (sIf (tOr (tOfE (e2 eqD (eVar 3) (eK (.int 0)))) (tOfE (e2 ltD (e2 ixD (eVar 1) (eK (.str "left"))) (eK (.int 4))))) (sSeq (sIf (tOfE (e2 ltD (eN (callK (F 5) []) (aCons (eVar 0) (aCons (eK (.int 5)) (aNil)))) (eK (.int 3)))) (sRet (eN mkTup (aCons (eK (.str "name")) (aCons (eN (callK (F 6) []) (aCons (eVar 0) (aCons (e2 addD (e2 addD (eSl (eVar 2) (pYes (e1 negD (eK (.int 2)))) (pNo)) (eSl (eVar 2) (pYes (e1 negD (eK (.int 2)))) (pNo))) (e2 ixD (eVar 1) (eK (.str "pool")))) (aNil)))) (aCons (eN mkTup (aNil)) (aNil)))))) (sSkip))
    (sRet (eN mkTup (aCons (eK (.str "num")) (aCons (eN (callK (F 8) []) (aCons (eVar 0) (aNil))) (aCons (eN mkTup (aNil)) (aNil))))))) (sSkip))
    (sSeq (sPar [4,5] (aCons (eN (callK (F 5) []) (aCons (eVar 0) (aCons (eK (.int 13)) (aNil)))) (aCons (eN (callK (F 6) []) (aCons (eVar 0) (aCons (eN mkLst (aCons (eK (.int 2)) (aCons (eK (.int 2)) (aCons (eK (.int 3)) (aCons (eK (.int 1)) (aCons (eK (.int 4)) (aNil))))))) (aNil)))) (aNil))))
    (sSeq (sIf (tOfE (e2 ltD (eVar 4) (eK (.int 4)))) (sSeq (sAsg (e2 ixD (eN mkLst (aCons (eK (.str "plus")) (aCons (eK (.str "times")) (aCons (eK (.str "most")) (aCons (eK (.str "plus")) (aNil)))))) (eVar 4)) (gName 6))
    (sRet (eN mkTup (aCons (eVar 6) (aCons (eK (.str "")) (aCons (eN tupleD (aCons (eLc (iArgs range1 (aCons (eVar 5) (aNil))) [7] (gName 7) (tYesD) (eN (callK (F 9) []) (aCons (eVar 0) (aCons (eVar 1) (aCons (eVar 2) (aCons (e2 subD (eVar 3) (eK (.int 1))) (aNil))))))) (aNil))) (aNil))))))) (sSkip))
    (sSeq (sIf (tOfE (e2 ltD (eVar 4) (eK (.int 7)))) (sSeq (sAsg (eN (callK (F 6) []) (aCons (eVar 0) (aCons (eN mkLst (aCons (eVar 5) (aCons (eK (.int 0)) (aCons (eK (.int 3)) (aCons (eK (.int 4)) (aCons (eK (.int 5)) (aNil))))))) (aNil)))) (gName 5))
    (sRet (eN mkTup (aCons (eK (.str "row")) (aCons (eK (.str "")) (aCons (eN tupleD (aCons (eLc (iArgs range1 (aCons (eVar 5) (aNil))) [7] (gName 7) (tYesD) (eN (callK (F 9) []) (aCons (eVar 0) (aCons (eVar 1) (aCons (eVar 2) (aCons (e2 subD (eVar 3) (eK (.int 1))) (aNil))))))) (aNil))) (aNil))))))) (sSkip))
    (sSeq (sIf (tOfE (e2 ltD (eVar 4) (eK (.int 10)))) (sSeq (sAsg (e2 ixD (eN mkLst (aCons (eK (.str "let")) (aCons (eK (.str "each")) (aCons (eK (.str "let")) (aNil))))) (e2 subD (eVar 4) (eK (.int 7)))) (gName 6))
    (sSeq (sPar [8,9] (aCons (eN (callK (F 6) []) (aCons (eVar 0) (aCons (e2 ixD (eVar 1) (eK (.str "pool"))) (aNil)))) (aCons (eN (callK (F 9) []) (aCons (eVar 0) (aCons (eVar 1) (aCons (eVar 2) (aCons (e2 subD (eVar 3) (eK (.int 1))) (aNil)))))) (aNil))))
    (sRet (eN mkTup (aCons (eVar 6) (aCons (eVar 8) (aCons (eN mkTup (aCons (eVar 9) (aCons (eN (callK (F 9) []) (aCons (eVar 0) (aCons (eVar 1) (aCons (e2 addD (eVar 2) (eN mkLst (aCons (eVar 8) (aNil)))) (aCons (e2 subD (eVar 3) (eK (.int 1))) (aNil)))))) (aNil)))) (aNil)))))))) (sSkip))
    (sSeq (sAsg (e2 ixD (eN mkLst (aCons (eK (.str "say")) (aCons (eN (callK (F 6) []) (aCons (eVar 0) (aCons (eN mkLst (aCons (eK (.str "less")) (aCons (eK (.str "below")) (aNil)))) (aNil)))) (aCons (eK (.str "if")) (aNil))))) (e2 subD (eVar 4) (eK (.int 10)))) (gName 6))
    (sRet (eN mkTup (aCons (eVar 6) (aCons (eK (.str "")) (aCons (eN tupleD (aCons (eLc (iArgs range1 (aCons (e2 subD (eVar 4) (eK (.int 9))) (aNil))) [7] (gName 7) (tYesD) (eN (callK (F 9) []) (aCons (eVar 0) (aCons (eVar 1) (aCons (eVar 2) (aCons (e2 subD (eVar 3) (eK (.int 1))) (aNil))))))) (aNil))) (aNil))))))))))))
def m_law_code (F:Nat→FN):SD:=
    sSeq (sAsg (eN (callK (F 7) []) (aCons (eVar 0) (aCons (e2 addD (eK (.int 1)) (eN (callK (F 5) []) (aCons (eVar 0) (aCons (eK (.int 5)) (aNil))))) (aNil)))) (gName 2))
    (sRet (eN (callK (F 9) []) (aCons (eVar 0) (aCons (eDct [(eK (.str "left"),eVar 1),(eK (.str "pool"),eVar 2)]) (aCons (eN mkLst (aNil)) (aCons (e2 addD (eK (.int 3)) (eN (callK (F 5) []) (aCons (eVar 0) (aCons (eK (.int 5)) (aNil))))) (aNil)))))))
def m_law_spots (F:Nat→FN):SD:=
    sSeq (sAsg (eN mkObj (aCons (eN mkTup (aNil)) (aNil))) (gName 1))
    (sSeq (sFor (iArgs enumA (aCons (e2 ixD (eVar 0) (eK (.int 2))) (aNil))) (gTup [2,3]) (sExpr (eBM "list" extendD (eVar 1) (aCons (eLc (iSeq (eN (callK (F 11) []) (aCons (eVar 3) (aNil)))) [4] (gName 4) (tYesD) (e2 addD (eN mkTup (aCons (eVar 2) (aNil))) (eVar 4))) (aNil)))))
    (sRet (e1 frzD (eVar 1))))
def m_law_there (F:Nat→FN):SD:=
    sSeq (sFor (iSeq (eVar 1)) (gName 2) (sAsg (e2 ixD (e2 ixD (eVar 0) (eK (.int 2))) (eVar 2)) (gName 0)))
    (sRet (eVar 0))
def m_law_hole (F:Nat→FN):SD:=
    sSeq (sAsg (eLcO (e2 ixD (eVar 1) (eK (.str "holes"))) [4,5] (gTup [4,5]) (tOfE (e2 eqD (eVar 5) (eVar 2))) (eVar 4)) (gName 3))
    (sSeq (sIf (tAnd (tOfE (e2 neD (eVar 3) (eN mkLst (aNil)))) (tOfE (e2 eqD (eN (callK (F 5) []) (aCons (eVar 0) (aCons (eK (.int 5)) (aNil)))) (eK (.int 0))))) (sRet (eN mkTup (aCons (eVar 2) (aCons (eN (callK (F 6) []) (aCons (eVar 0) (aCons (eVar 3) (aNil)))) (aCons (eN mkTup (aNil)) (aNil)))))) (sSkip))
    (sSeq (sExpr (eBM "list" appendD (e2 ixD (eVar 1) (eK (.str "holes"))) (aCons (eN mkTup (aCons (eBM "list" popD (e2 ixD (eVar 1) (eK (.str "fresh"))) (aCons (eK (.int 0)) (aNil))) (aCons (eVar 2) (aNil)))) (aNil))))
    (sRet (eN mkTup (aCons (eVar 2) (aCons (e2 ixD (e2 ixD (e2 ixD (eVar 1) (eK (.str "holes"))) (e1 negD (eK (.int 1)))) (eK (.int 0))) (aCons (eN mkTup (aNil)) (aNil))))))))
def m_law_holed (F:Nat→FN):SD:=
    sSeq (sAsg (eVar 2) (gTup [5,6,7]))
    (sSeq (sIf (tOfE (e2 inD (eVar 5) (eN mkTup (aCons (eK (.str "name")) (aCons (eK (.str "num")) (aNil)))))) (sSeq (sIf (tAnd (tOfE (e2 inD (eVar 6) (eVar 3))) (tOfE (e2 gtD (eN (callK (F 5) []) (aCons (eVar 0) (aCons (eK (.int 6)) (aNil)))) (eK (.int 0))))) (sRet (eN mkTup (aCons (eVar 5) (aCons (e2 ixD (eVar 3) (eVar 6)) (aCons (eN mkTup (aNil)) (aNil)))))) (sSkip))
    (sSeq (sIf (tOr (tOfE (e2 inD (eVar 6) (eVar 3))) (tOfE (e2 eqD (eN (callK (F 5) []) (aCons (eVar 0) (aCons (eK (.int 4)) (aNil)))) (eK (.int 0))))) (sRet (eN (callK (F 13) []) (aCons (eVar 0) (aCons (eVar 1) (aCons (eN (callK (F 6) []) (aCons (eVar 0) (aCons (eN mkLst (aCons (e2 ixD (eDic [(eK (.str "name"),eK (.str "called")),(eK (.str "num"),eK (.str "count"))]) (eVar 5)) (aCons (eK (.str "any")) (aNil)))) (aNil)))) (aNil)))))) (sSkip))
    (sRet (eVar 2)))) (sSkip))
    (sSeq (sAsg (eN lenD (aCons (eVar 7) (aNil))) (gName 8))
    (sSeq (sIf (tOfE (e2 inD (eVar 5) (eN mkTup (aCons (eK (.str "plus")) (aCons (eK (.str "times")) (aCons (eK (.str "most")) (aNil))))))) (sAsg (e2 mulD (e2 ixD (eVar 1) (eK (.str "ways"))) (e2 ixD (eN mkLst (aCons (eK (.int 1)) (aCons (eK (.int 1)) (aCons (eK (.int 2)) (aCons (eK (.int 6)) (aCons (eK (.int 24)) (aNil))))))) (eVar 8))) (gSub (eVar 1) (eK (.str "ways")))) (sSkip))
    (sSeq (sIf (tOr (tOfE (e2 eqD (eVar 4) (eK (.int 0)))) (tOr (tOfE (e2 gtD (e2 ixD (eVar 1) (eK (.str "ways"))) (eK (.int 200)))) (tOfE (e2 eqD (eN (callK (F 5) []) (aCons (eVar 0) (aCons (eK (.int 5)) (aNil)))) (eK (.int 0)))))) (sRet (eN (callK (F 13) []) (aCons (eVar 0) (aCons (eVar 1) (aCons (eK (.str "any")) (aNil)))))) (sSkip))
    (sSeq (sIf (tOfE (e2 inD (eVar 5) (eN mkTup (aCons (eK (.str "let")) (aCons (eK (.str "each")) (aNil)))))) (sSeq (sAsg (eBM "list" popD (e2 ixD (eVar 1) (eK (.str "fresh"))) (aCons (eK (.int 0)) (aNil))) (gName 9))
    (sSeq (sAsg (eN (callK (F 14) []) (aCons (eVar 0) (aCons (eVar 1) (aCons (e2 ixD (eVar 7) (eK (.int 0))) (aCons (eVar 3) (aCons (e2 subD (eVar 4) (eK (.int 1))) (aNil))))))) (gName 10))
    (sSeq (sAsg (eN dictPV (aCons (e2 addD (e1 litemsD (eVar 3)) (eN mkLst (aCons (eN mkTup (aCons (eVar 6) (aCons (eVar 9) (aNil)))) (aNil)))) (aNil))) (gName 11))
    (sRet (eN mkTup (aCons (eVar 5) (aCons (eVar 9) (aCons (eN mkTup (aCons (eVar 10) (aCons (eN (callK (F 14) []) (aCons (eVar 0) (aCons (eVar 1) (aCons (e2 ixD (eVar 7) (eK (.int 1))) (aCons (eVar 11) (aCons (e2 subD (eVar 4) (eK (.int 1))) (aNil))))))) (aNil)))) (aNil))))))))) (sSkip))
    (sSeq (sPar [12,13] (aCons (eN mkObj (aNil)) (aCons (eN (callK (F 5) []) (aCons (eVar 0) (aCons (e2 addD (eVar 8) (eK (.int 1))) (aNil)))) (aNil))))
    (sSeq (sAsg (e2 addD (eVar 13) (eN (callK (F 5) []) (aCons (eVar 0) (aCons (e2 subD (e2 addD (eVar 8) (eK (.int 1))) (eVar 13)) (aNil))))) (gName 14))
    (sSeq (sAsg (eAnd (e2 inD (eVar 5) (eN mkTup (aCons (eK (.str "plus")) (aCons (eK (.str "times")) (aCons (eK (.str "most")) (aCons (eK (.str "row")) (aNil))))))) (e2 eqD (eN (callK (F 5) []) (aCons (eVar 0) (aCons (eK (.int 2)) (aNil)))) (eK (.int 0)))) (gName 15))
    (sSeq (sFor (iArgs range1 (aCons (e2 addD (eVar 8) (eK (.int 1))) (aNil))) (gName 16) (sSeq (sIf (tAnd (tTruth (eVar 15)) (tOfE (e2 eqD (eVar 16) (eVar 13)))) (sExpr (eBM "list" appendD (eVar 12) (aCons (eN (callK (F 13) []) (aCons (eVar 0) (aCons (eVar 1) (aCons (eK (.str "rest")) (aNil))))) (aNil)))) (sSkip))
    (sIf (tAnd (tOfE (e2 ltD (eVar 16) (eVar 8))) (tNot (tAnd (tTruth (eVar 15)) (tOfE (eChain leD ltD (eVar 13) (eVar 16) (eVar 14)))))) (sExpr (eBM "list" appendD (eVar 12) (aCons (eN (callK (F 14) []) (aCons (eVar 0) (aCons (eVar 1) (aCons (e2 ixD (eVar 7) (eVar 16)) (aCons (eVar 3) (aCons (e2 subD (eVar 4) (eK (.int 1))) (aNil))))))) (aNil)))) (sSkip))))
    (sRet (eN mkTup (aCons (eVar 5) (aCons (eK (.str "")) (aCons (eN tupleD (aCons (eVar 12) (aNil))) (aNil)))))))))))))))
def m_law_sought (F:Nat→FN):SD:=
    sSeq (sAsg (eN (callK (F 12) []) (aCons (eVar 1) (aCons (eN (callK (F 6) []) (aCons (eVar 0) (aCons (eN (callK (F 11) []) (aCons (eVar 1) (aNil))) (aNil)))) (aNil)))) (gName 2))
    (sSeq (sPar [3,4] (aCons (eK (.str "abcdefghijklmnopqrstuvwxyz")) (aCons (eN (callK (F 5) []) (aCons (eVar 0) (aCons (eK (.int 26)) (aNil)))) (aNil))))
    (sSeq (sAsg (eN mkObj (aNil)) (gName 5))
    (sSeq (sFor (iArgs range1 (aCons (eK (.int 60)) (aNil))) (gName 6) (sExpr (eBM "list" appendD (eVar 5) (aCons (e2 addD (e2 addD (eK (.str "hole")) (e2 ixD (eVar 3) (e2 modD (e2 addD (eVar 4) (e2 fdivD (eVar 6) (eK (.int 26)))) (eK (.int 26))))) (e2 ixD (eVar 3) (e2 modD (eVar 6) (eK (.int 26))))) (aNil)))))
    (sSeq (sAsg (eN (callK (F 14) []) (aCons (eVar 0) (aCons (eDct [(eK (.str "ways"),eK (.int 1)),(eK (.str "holes"),eN mkObj (aNil)),(eK (.str "fresh"),eVar 5)]) (aCons (eVar 2) (aCons (eDic0) (aCons (eK (.int 5)) (aNil))))))) (gName 7))
    (sRet (eIf (tOfE (e2 leD (eN lenD (aCons (eN (callK (F 17) []) (aCons (eVar 7) (aNil))) (aNil))) (eK (.int 20)))) (eVar 7) (eN mkTup (aCons (eK (.str "any")) (aCons (e2 ixD (eVar 5) (e1 negD (eK (.int 1)))) (aCons (eN mkTup (aNil)) (aNil)))))))))))
def m_law_deep (F:Nat→FN):SD:=
    sRet (e2 addD (eK (.int 1)) (eN maxD (aCons (e2 addD (eN mkLst (aCons (eK (.int 0)) (aNil))) (eLc (iSeq (e2 ixD (eVar 0) (eK (.int 2)))) [1] (gName 1) (tYesD) (eN (callK (F 16) []) (aCons (eVar 1) (aNil))))) (aNil))))
def m_law_nodes (F:Nat→FN):SD:=
    sSeq (sAsg (eN mkObj (aCons (eVar 0) (aNil))) (gName 1))
    (sSeq (sFor (iSeq (e2 ixD (eVar 0) (eK (.int 2)))) (gName 2) (sExpr (eBM "list" extendD (eVar 1) (aCons (eN (callK (F 17) []) (aCons (eVar 2) (aNil))) (aNil)))))
    (sRet (e1 frzD (eVar 1))))
def m_law_names_in (F:Nat→FN):SD:=
    sRet (e1 sortSetO (eLc (iSeq (eN (callK (F 17) []) (aCons (eVar 0) (aNil)))) [1] (gName 1) (tOfE (e2 inD (e2 ixD (eVar 1) (eK (.int 0))) (eN mkTup (aCons (eK (.str "name")) (aCons (eK (.str "let")) (aCons (eK (.str "each")) (aNil))))))) (e2 ixD (eVar 1) (eK (.int 1)))))
def m_law_leaf_put (F:Nat→FN):SD:=
    sSeq (sPar [3,4] (aCons (eN (callK (F 5) []) (aCons (eVar 0) (aCons (eK (.int 6)) (aNil)))) (aCons (eLc (iSeq (e2 ixD (eVar 1) (eK (.str "holes")))) [5] (gName 5) (tOfE (e2 neD (e2 ixD (eVar 5) (eK (.int 0))) (eK (.str "rest")))) (eVar 5)) (aNil))))
    (sSeq (sIf (tAnd (tOfE (e2 neD (eVar 4) (eN mkLst (aNil)))) (tOfE (e2 ltD (eVar 3) (eK (.int 3))))) (sRet (eN (callK (F 6) []) (aCons (eVar 0) (aCons (eVar 4) (aNil))))) (sSkip))
    (sSeq (sIf (tOfE (e2 ltD (eVar 3) (eK (.int 5)))) (sRet (eN mkTup (aCons (eK (.str "name")) (aCons (eN (callK (F 6) []) (aCons (eVar 0) (aCons (e2 addD (e2 addD (eSl (eVar 2) (pYes (e1 negD (eK (.int 2)))) (pNo)) (eSl (eVar 2) (pYes (e1 negD (eK (.int 2)))) (pNo))) (e2 ixD (eVar 1) (eK (.str "written")))) (aNil)))) (aCons (eN mkTup (aNil)) (aNil)))))) (sSkip))
    (sRet (eN mkTup (aCons (eK (.str "num")) (aCons (eN (callK (F 8) []) (aCons (eVar 0) (aNil))) (aCons (eN mkTup (aNil)) (aNil))))))))
def m_law_new (F:Nat→FN):SD:=
    sSeq (sAsg (e2 subD (e2 ixD (eVar 1) (eK (.str "room"))) (eK (.int 1))) (gSub (eVar 1) (eK (.str "room"))))
    (sSeq (sAsg (eN (callK (F 5) []) (aCons (eVar 0) (aCons (eK (.int 10)) (aNil)))) (gName 4))
    (sSeq (sIf (tOr (tOfE (e2 eqD (eVar 3) (eK (.int 0)))) (tOr (tOfE (e2 ltD (e2 ixD (eVar 1) (eK (.str "room"))) (eK (.int 5)))) (tOfE (e2 ltD (eVar 4) (eK (.int 3)))))) (sRet (eN (callK (F 19) []) (aCons (eVar 0) (aCons (eVar 1) (aCons (eVar 2) (aNil)))))) (sSkip))
    (sSeq (sIf (tOfE (e2 ltD (eVar 4) (eK (.int 6)))) (sSeq (sAsg (eLcN (iArgs range1 (aCons (e2 addD (eK (.int 1)) (eN (callK (F 5) []) (aCons (eVar 0) (aCons (eK (.int 3)) (aNil))))) (aNil))) [6] (gName 6) (tYesD) (eN (callK (F 20) []) (aCons (eVar 0) (aCons (eVar 1) (aCons (eVar 2) (aCons (e2 subD (eVar 3) (eK (.int 1))) (aNil))))))) (gName 5))
    (sSeq (sAsg (eLc (iSeq (e2 ixD (eVar 1) (eK (.str "holes")))) [8] (gName 8) (tOfE (e2 eqD (e2 ixD (eVar 8) (eK (.int 0))) (eK (.str "rest")))) (eVar 8)) (gName 7))
    (sSeq (sFor (iArgs range1 (aCons (e2 mulD (eN (callK (F 5) []) (aCons (eVar 0) (aCons (eK (.int 3)) (aNil)))) (eN intD (aCons (e2 ne0D (eVar 7) (eN mkLst (aNil))) (aNil)))) (aNil))) (gName 9) (sExpr (eBM "list" insertD (eVar 5) (aCons (eN (callK (F 5) []) (aCons (eVar 0) (aCons (e2 addD (eN lenD (aCons (eVar 5) (aNil))) (eK (.int 1))) (aNil)))) (aCons (eN (callK (F 6) []) (aCons (eVar 0) (aCons (eVar 7) (aNil)))) (aNil))))))
    (sRet (eN mkTup (aCons (eN (callK (F 6) []) (aCons (eVar 0) (aCons (eN mkLst (aCons (eK (.str "plus")) (aCons (eK (.str "row")) (aCons (eK (.str "times")) (aCons (eK (.str "row")) (aCons (eK (.str "most")) (aNil))))))) (aNil)))) (aCons (eK (.str "")) (aCons (eN tupleD (aCons (eVar 5) (aNil))) (aNil))))))))) (sSkip))
    (sSeq (sIf (tAnd (tOfE (e2 ltD (eVar 4) (eK (.int 9)))) (tOfE (e2 ne0D (e2 ixD (eVar 1) (eK (.str "givers"))) (eN mkLst (aNil))))) (sSeq (sAsg (eBM "list" popD (e2 ixD (eVar 1) (eK (.str "givers"))) (aCons (eN (callK (F 5) []) (aCons (eVar 0) (aCons (eN lenD (aCons (e2 ixD (eVar 1) (eK (.str "givers"))) (aNil))) (aNil)))) (aNil))) (gName 10))
    (sSeq (sAsg (eN (callK (F 20) []) (aCons (eVar 0) (aCons (eVar 1) (aCons (eVar 2) (aCons (e2 subD (eVar 3) (eK (.int 1))) (aNil)))))) (gName 11))
    (sRet (eN mkTup (aCons (eN (callK (F 6) []) (aCons (eVar 0) (aCons (eN mkLst (aCons (eK (.str "let")) (aCons (eK (.str "each")) (aNil)))) (aNil)))) (aCons (eVar 10) (aCons (eN mkTup (aCons (eVar 11) (aCons (eN (callK (F 20) []) (aCons (eVar 0) (aCons (eVar 1) (aCons (e2 addD (eVar 2) (eN mkLst (aCons (eVar 10) (aNil)))) (aCons (e2 subD (eVar 3) (eK (.int 1))) (aNil)))))) (aNil)))) (aNil)))))))) (sSkip))
    (sSeq (sAsg (e2 addD (eK (.int 1)) (eN (callK (F 5) []) (aCons (eVar 0) (aCons (eK (.int 3)) (aNil))))) (gName 12))
    (sSeq (sAsg (e2 ixD (eN mkLst (aCons (eK (.str "say")) (aCons (eK (.str "less")) (aCons (eK (.str "if")) (aNil))))) (e2 subD (eVar 12) (eK (.int 1)))) (gName 13))
    (sRet (eN mkTup (aCons (eVar 13) (aCons (eK (.str "")) (aCons (eN tupleD (aCons (eLc (iArgs range1 (aCons (eVar 12) (aNil))) [6] (gName 6) (tYesD) (eN (callK (F 20) []) (aCons (eVar 0) (aCons (eVar 1) (aCons (eVar 2) (aCons (e2 subD (eVar 3) (eK (.int 1))) (aNil))))))) (aNil))) (aNil))))))))))))
def m_law_about (F:Nat→FN):SD:=
    sSeq (sAsg (eVar 2) (gTup [4,5,6]))
    (sSeq (sIf (tOr (tAnd (tOfE (e2 neD (eVar 4) (eK (.str "rest")))) (tOfE (e2 eqD (eN (callK (F 5) []) (aCons (eVar 0) (aCons (eK (.int 7)) (aNil)))) (eK (.int 0))))) (tAnd (tOfE (e2 inD (eVar 4) (eN mkTup (aCons (eK (.str "let")) (aCons (eK (.str "each")) (aNil)))))) (tOfE (e2 notInD (eVar 5) (e2 ixD (eVar 1) (eK (.str "givers"))))))) (sRet (eN (callK (F 20) []) (aCons (eVar 0) (aCons (eVar 1) (aCons (eVar 3) (aCons (eK (.int 2)) (aNil))))))) (sSkip))
    (sSeq (sIf (tOfE (e2 inD (eVar 4) (eN mkTup (aCons (eK (.str "let")) (aCons (eK (.str "each")) (aNil)))))) (sSeq (sExpr (eBM "list" removeD (e2 ixD (eVar 1) (eK (.str "givers"))) (aCons (eVar 5) (aNil))))
    (sSeq (sAsg (eIf (tOfE (e2 eqD (eN (callK (F 5) []) (aCons (eVar 0) (aCons (eK (.int 5)) (aNil)))) (eK (.int 0)))) (eBackT (eVar 6)) (eVar 6)) (gName 7))
    (sSeq (sAsg (eN (callK (F 21) []) (aCons (eVar 0) (aCons (eVar 1) (aCons (e2 ixD (eVar 7) (eK (.int 0))) (aCons (eVar 3) (aNil)))))) (gName 8))
    (sRet (eN mkTup (aCons (eVar 4) (aCons (eVar 5) (aCons (eN mkTup (aCons (eVar 8) (aCons (eN (callK (F 21) []) (aCons (eVar 0) (aCons (eVar 1) (aCons (e2 ixD (eVar 7) (eK (.int 1))) (aCons (e2 addD (eVar 3) (eN mkLst (aCons (eVar 5) (aNil)))) (aNil)))))) (aNil)))) (aNil))))))))) (sSkip))
    (sSeq (sIf (tAnd (tOfE (e2 inD (eVar 4) (eN mkTup (aCons (eK (.str "plus")) (aCons (eK (.str "times")) (aCons (eK (.str "most")) (aCons (eK (.str "row")) (aNil)))))))) (tOfE (e2 neD (eVar 6) (eN mkTup (aNil))))) (sSeq (sPar [9,10] (aCons (eN (callK (F 5) []) (aCons (eVar 0) (aCons (eN lenD (aCons (eVar 6) (aNil))) (aNil)))) (aCons (eN (callK (F 5) []) (aCons (eVar 0) (aCons (eK (.int 8)) (aNil)))) (aNil))))
    (sIf (tOfE (e2 ltD (eVar 10) (eK (.int 3)))) (sAsg (e2 ixD (eN mkLst (aCons (e2 addD (eSl (eVar 6) (pNo) (pYes (eVar 9))) (eSl (eVar 6) (pYes (e2 addD (eVar 9) (eK (.int 1)))) (pNo))) (aCons (eSl (e2 addD (eSl (eVar 6) (pYes (e1 negD (eK (.int 1)))) (pNo)) (eVar 6)) (pNo) (pYes (eK (.int 6)))) (aCons (eBackT (eVar 6)) (aNil))))) (eVar 10)) (gName 6)) (sSkip))) (sSkip))
    (sRet (eN mkTup (aCons (eVar 4) (aCons (eVar 5) (aCons (eN tupleD (aCons (eLc (iSeq (eVar 6)) [11] (gName 11) (tYesD) (eN (callK (F 21) []) (aCons (eVar 0) (aCons (eVar 1) (aCons (eVar 11) (aCons (eVar 3) (aNil))))))) (aNil))) (aNil)))))))))
def m_law_templ (F:Nat→FN):SD:=
    sSeq (sAsg (eLc (iSeq (eN (callK (F 17) []) (aCons (eVar 2) (aNil)))) [4] (gName 4) (tOfE (e2 inD (e2 ixD (eVar 4) (eK (.int 0))) (eN mkTup (aCons (eK (.str "let")) (aCons (eK (.str "each")) (aNil)))))) (e2 ixD (eVar 4) (eK (.int 1)))) (gName 3))
    (sSeq (sAsg (e1 sortSetO (eLc (iSeq (eN (callK (F 17) []) (aCons (eVar 2) (aNil)))) [4] (gName 4) (tOfE (e2 inD (e2 ixD (eVar 4) (eK (.int 0))) (eN mkTup (aCons (eK (.str "any")) (aCons (eK (.str "called")) (aCons (eK (.str "count")) (aCons (eK (.str "rest")) (aNil)))))))) (eVar 4))) (gName 5))
    (sSeq (sAsg (eN mkTup (aCons (eN (callK (F 7) []) (aCons (eVar 0) (aCons (eK (.int 2)) (aNil)))) (aCons (eN (callK (F 18) []) (aCons (eVar 1) (aNil))) (aNil)))) (gTup [6,7]))
    (sSeq (sAsg (eDct [(eK (.str "room"),eK (.int 16)),(eK (.str "holes"),eVar 5),(eK (.str "written"),e2 addD (e2 addD (eVar 3) (eVar 6)) (eVar 7)),(eK (.str "givers"),eN listO (aCons (eVar 3) (aNil)))]) (gName 8))
    (sSeq (sExpr (eBM "list" extendD (e2 ixD (eVar 8) (eK (.str "givers"))) (aCons (e2 addD (eLc (iSeq (e2 addD (eN mkLst (aCons (e2 ixD (eVar 6) (eK (.int 0))) (aNil))) (eSl (eVar 7) (pNo) (pYes (eK (.int 2)))))) [9] (gName 9) (tOfE (e2 notInD (eVar 9) (e2 addD (eVar 3) (eSl (eVar 6) (pNo) (pYes (eK (.int 1))))))) (eVar 9)) (eSl (eVar 6) (pNo) (pYes (eK (.int 1))))) (aNil))))
    (sSeq (sAsg (eN (callK (F 5) []) (aCons (eVar 0) (aCons (eK (.int 5)) (aNil)))) (gName 10))
    (sSeq (sAsg (eIf (tOfE (e2 eqD (eVar 10) (eK (.int 0)))) (eVar 2) (eN (callK (F 21) []) (aCons (eVar 0) (aCons (eVar 8) (aCons (eVar 2) (aCons (eN mkLst (aNil)) (aNil))))))) (gName 11))
    (sSeq (sIf (tOfE (e2 eqD (eVar 10) (eK (.int 4)))) (sAsg (eN (callK (F 20) []) (aCons (eVar 0) (aCons (eVar 8) (aCons (eN mkLst (aNil)) (aCons (eK (.int 4)) (aNil)))))) (gName 11)) (sSkip))
    (sSeq (sAsg (eN maxD (aCons (eLc (iSeq (eN (callK (F 17) []) (aCons (eVar 11) (aNil)))) [4] (gName 4) (tYesD) (eN lenD (aCons (e2 ixD (eVar 4) (eK (.int 2))) (aNil)))) (aNil))) (gName 12))
    (sSeq (sIf (tOr (tOfE (e2 gtD (eN lenD (aCons (eN (callK (F 17) []) (aCons (eVar 11) (aNil))) (aNil))) (eK (.int 20)))) (tOr (tOfE (e2 gtD (eN (callK (F 16) []) (aCons (eVar 11) (aNil))) (eK (.int 6)))) (tOr (tOfE (e2 eqD (e2 ixD (eVar 11) (eK (.int 0))) (eK (.str "rest")))) (tOfE (e2 gtD (eVar 12) (eK (.int 6))))))) (sRet (eVar 2)) (sSkip))
    (sRet (eVar 11)))))))))))
def m_law_counts (F:Nat→FN):SD:=
    sSeq (sAsg (eDct0) (gName 1))
    (sSeq (sFor (iSeq (eN (callK (F 17) []) (aCons (eVar 0) (aNil)))) (gName 2) (sIf (tOfE (e2 inD (e2 ixD (eVar 2) (eK (.int 0))) (eN mkTup (aCons (eK (.str "any")) (aCons (eK (.str "called")) (aCons (eK (.str "count")) (aCons (eK (.str "rest")) (aNil)))))))) (sAsg (e2 addD (eBM "dict" dgetD (eVar 1) (aCons (e2 ixD (eVar 2) (eK (.int 1))) (aCons (eK (.int 0)) (aNil)))) (eK (.int 1))) (gSub (eVar 1) (e2 ixD (eVar 2) (eK (.int 1))))) (sSkip)))
    (sRet (eVar 1)))
def m_law (F:Nat→FN):SD:=
    sSeq (sFor (iArgs range1 (aCons (eN maxD (aCons (eK (.int 1)) (aCons (eN minD (aCons (eK (.int 4)) (aCons (eN lenD (aCons (eVar 0) (aNil))) (aNil)))) (aNil)))) (aNil))) (gName 1) (sSeq (sAsg (eN (callK (F 4) []) (aCons (eVar 0) (aCons (eVar 1) (aNil)))) (gName 2))
    (sSeq (sAsg (eN (callK (F 10) []) (aCons (eVar 2) (aCons (e2 addD (eK (.int 6)) (eN (callK (F 5) []) (aCons (eVar 2) (aCons (eK (.int 23)) (aNil))))) (aNil)))) (gName 3))
    (sSeq (sAsg (eN (callK (F 15) []) (aCons (eVar 2) (aCons (eVar 3) (aNil)))) (gName 4))
    (sSeq (sAsg (eN (callK (F 23) []) (aCons (eVar 4) (aNil))) (gName 5))
    (sSeq (sAsg (e1 sortSetO (eLc (iSeq (eN (callK (F 17) []) (aCons (eVar 4) (aNil)))) [7] (gName 7) (tOfE (e2 inD (e2 ixD (eVar 7) (eK (.int 1))) (eVar 5))) (eVar 7))) (gName 6))
    (sSeq (sAsg (eN mkLst (aCons (eVar 4) (aCons (eN mkTup (aCons (eK (.str "num")) (aCons (eK (.int 1)) (aCons (eN mkTup (aNil)) (aNil))))) (aCons (eN mkTup (aCons (eK (.str "row")) (aCons (eK (.str "")) (aCons (eN tupleD (aCons (eSl (e2 addD (eVar 6) (eVar 6)) (pNo) (pYes (eK (.int 8)))) (aNil))) (aNil))))) (aCons (eN mkTup (aCons (eK (.str "row")) (aCons (eK (.str "")) (aCons (eN tupleD (aCons (eSl (eVar 6) (pNo) (pYes (eK (.int 8)))) (aNil))) (aNil))))) (aNil)))))) (gName 8))
    (sSeq (sAsg (e2 addD (eVar 8) (eLc (iArgs range1 (aCons (eK (.int 4)) (aNil))) [9] (gName 9) (tYesD) (eN (callK (F 22) []) (aCons (eVar 2) (aCons (eVar 3) (aCons (eVar 4) (aNil))))))) (gName 8))
    (sFor (iSeq (eVar 8)) (gName 10) (sSeq (sAsg (eN mkTup (aCons (eK (.str "within")) (aCons (eN mkTup (aCons (eK (.str "find")) (aCons (eN mkTup (aCons (eK (.str "any")) (aCons (eK (.str "holeany")) (aCons (eN mkTup (aNil)) (aNil))))) (aNil)))) (aNil)))) (gName 11))
    (sSeq (sAsg (eN mkTup (aCons (eK (.str "rule")) (aCons (eVar 4) (aCons (eN (callK (F 6) []) (aCons (eVar 2) (aCons (eN mkLst (aCons (eK .non) (aCons (eN mkTup (aCons (eK (.str "find")) (aCons (eVar 4) (aNil)))) (aCons (eN mkTup (aCons (eK (.str "not")) (aCons (eVar 11) (aNil)))) (aCons (eVar 11) (aNil)))))) (aNil)))) (aCons (eVar 10) (aNil)))))) (gName 12))
    (sSeq (sAsg (eN mkTup (aCons (eN (callK (F 23) []) (aCons (eVar 10) (aNil))) (aCons (eN reprD (aCons (eVar 12) (aNil))) (aNil)))) (gTup [13,14]))
    (sSeq (sAsg (eN allD (aCons (eLc (iLkd (eVar 13)) [16] (gName 16) (tYesD) (e2 leD (e2 ixkD (eVar 13) (eVar 16)) (e2 ixD (eVar 5) (eVar 16)))) (aNil))) (gName 15))
    (sIf (tOr (tOfE (e2 neD (eN reprD (aCons (eN (callK (F 3) []) (aCons (eVar 12) (aNil))) (aNil))) (eN reprD (aCons (eVar 15) (aNil))))) (tOr (tOfE (e2 neD (eN reprD (aCons (eKw (kwK (F 3) 0 1 kbd_is_lean_0_rule_g) aNil (aCons (eVar 12) (aNil))) (aNil))) (eN reprD (aCons (eVar 15) (aNil))))) (tOfE (e2 neD (eN reprD (aCons (eVar 12) (aNil))) (eVar 14))))) (sRet (eK (.bl false))) (sSkip)))))))))))))))
    (sRet (eK (.bl true)))
def tab (F:Nat→FN):List FN:= [run 1 3 (m_listed F),
 run 1 1 (m_nodes_of F),
 run 1 5 (m_holes_counted F),
 run 1 8 (m_is_lean F),
 run 2 4 (m_law_hand F),
 run 2 3 (m_law_take F),
 run 2 2 (m_law_pick F),
 run 2 13 (m_law_called F),
 run 1 1 (m_law_digit F),
 run 4 10 (m_law_grown F),
 run 2 3 (m_law_code F),
 run 1 5 (m_law_spots F),
 run 2 3 (m_law_there F),
 run 3 6 (m_law_hole F),
 run 5 17 (m_law_holed F),
 run 2 8 (m_law_sought F),
 run 1 2 (m_law_deep F),
 run 1 3 (m_law_nodes F),
 run 1 2 (m_law_names_in F),
 run 3 6 (m_law_leaf_put F),
 run 4 14 (m_law_new F),
 run 4 12 (m_law_about F),
 run 3 13 (m_law_templ F),
 run 1 3 (m_law_counts F),
 run 1 17 (m_law F)]
def Fs:Nat→Nat→FN
 |0,_=>fun _ _=> .bad
 |k+1,i=>(tab (Fs k)).getD i fun _ _=> .bad
theorem Fs_listed (k:Nat):Fs (k+1) 0=run 1 3 (m_listed (Fs k)):=rfl
theorem Fs_nodes_of (k:Nat):Fs (k+1) 1=run 1 1 (m_nodes_of (Fs k)):=rfl
theorem Fs_holes_counted (k:Nat):Fs (k+1) 2=run 1 5 (m_holes_counted (Fs k)):=rfl
theorem Fs_is_lean (k:Nat):Fs (k+1) 3=run 1 8 (m_is_lean (Fs k)):=rfl
theorem Fs_law_hand (k:Nat):Fs (k+1) 4=run 2 4 (m_law_hand (Fs k)):=rfl
theorem Fs_law_take (k:Nat):Fs (k+1) 5=run 2 3 (m_law_take (Fs k)):=rfl
theorem Fs_law_pick (k:Nat):Fs (k+1) 6=run 2 2 (m_law_pick (Fs k)):=rfl
theorem Fs_law_called (k:Nat):Fs (k+1) 7=run 2 13 (m_law_called (Fs k)):=rfl
theorem Fs_law_digit (k:Nat):Fs (k+1) 8=run 1 1 (m_law_digit (Fs k)):=rfl
theorem Fs_law_grown (k:Nat):Fs (k+1) 9=run 4 10 (m_law_grown (Fs k)):=rfl
theorem Fs_law_code (k:Nat):Fs (k+1) 10=run 2 3 (m_law_code (Fs k)):=rfl
theorem Fs_law_spots (k:Nat):Fs (k+1) 11=run 1 5 (m_law_spots (Fs k)):=rfl
theorem Fs_law_there (k:Nat):Fs (k+1) 12=run 2 3 (m_law_there (Fs k)):=rfl
theorem Fs_law_hole (k:Nat):Fs (k+1) 13=run 3 6 (m_law_hole (Fs k)):=rfl
theorem Fs_law_holed (k:Nat):Fs (k+1) 14=run 5 17 (m_law_holed (Fs k)):=rfl
theorem Fs_law_sought (k:Nat):Fs (k+1) 15=run 2 8 (m_law_sought (Fs k)):=rfl
theorem Fs_law_deep (k:Nat):Fs (k+1) 16=run 1 2 (m_law_deep (Fs k)):=rfl
theorem Fs_law_nodes (k:Nat):Fs (k+1) 17=run 1 3 (m_law_nodes (Fs k)):=rfl
theorem Fs_law_names_in (k:Nat):Fs (k+1) 18=run 1 2 (m_law_names_in (Fs k)):=rfl
theorem Fs_law_leaf_put (k:Nat):Fs (k+1) 19=run 3 6 (m_law_leaf_put (Fs k)):=rfl
theorem Fs_law_new (k:Nat):Fs (k+1) 20=run 4 14 (m_law_new (Fs k)):=rfl
theorem Fs_law_about (k:Nat):Fs (k+1) 21=run 4 12 (m_law_about (Fs k)):=rfl
theorem Fs_law_templ (k:Nat):Fs (k+1) 22=run 3 13 (m_law_templ (Fs k)):=rfl
theorem Fs_law_counts (k:Nat):Fs (k+1) 23=run 1 3 (m_law_counts (Fs k)):=rfl
theorem Fs_law (k:Nat):Fs (k+1) 24=run 1 17 (m_law (Fs k)):=rfl
end
end K60
namespace K60
open PySem PySem.Spec PyProof.Rows L2 L3
def topS (i:Nat):Stmt:=PySem.Challenge.pw_holepatterns_k60_lean_rules.main.body.getD i (.Pass ⟨0,0,0,0⟩)
abbrev s_listed:Stmt:=topS 1
abbrev N_listed:List Str:= ["thing","node","part"]
theorem sc_listed:FnScope N_listed ["thing"] (defScope s_listed):=⟨rfl,rfl,rfl,by decide +kernel,rfl,by decide +kernel,by decide +kernel⟩
abbrev s_nodes_of:Stmt:=topS 2
abbrev N_nodes_of:List Str:= ["pattern"]
theorem sc_nodes_of:FnScope N_nodes_of ["pattern"] (defScope s_nodes_of):=⟨rfl,rfl,rfl,by decide +kernel,rfl,by decide +kernel,by decide +kernel⟩
abbrev s_holes_counted:Stmt:=topS 5
abbrev N_holes_counted:List Str:= ["pattern","found","word","mark","parts"]
theorem sc_holes_counted:FnScope N_holes_counted ["pattern"] (defScope s_holes_counted):=⟨rfl,rfl,rfl,by decide +kernel,rfl,by decide +kernel,by decide +kernel⟩
abbrev s_is_lean:Stmt:=topS 6
abbrev N_is_lean:List Str:= ["rule","name","pattern","seeking","template","known","h","many"]
theorem sc_is_lean:FnScope N_is_lean ["rule"] (defScope s_is_lean):=⟨rfl,rfl,rfl,by decide +kernel,rfl,by decide +kernel,by decide +kernel⟩
abbrev s_law_hand:Stmt:=topS 8
abbrev N_law_hand:List Str:= ["_law_script","_law_k","_law_cell","_law_great"]
theorem sc_law_hand:FnScope N_law_hand ["_law_script","_law_k"] (defScope s_law_hand):=⟨rfl,rfl,rfl,by decide +kernel,rfl,by decide +kernel,by decide +kernel⟩
abbrev s_law_take:Stmt:=topS 9
abbrev N_law_take:List Str:= ["_law_hand_here","_law_many","_law_digit_here"]
theorem sc_law_take:FnScope N_law_take ["_law_hand_here","_law_many"] (defScope s_law_take):=⟨rfl,rfl,rfl,by decide +kernel,rfl,by decide +kernel,by decide +kernel⟩
abbrev s_law_pick:Stmt:=topS 10
abbrev N_law_pick:List Str:= ["_law_hand_here","_law_some"]
theorem sc_law_pick:FnScope N_law_pick ["_law_hand_here","_law_some"] (defScope s_law_pick):=⟨rfl,rfl,rfl,by decide +kernel,rfl,by decide +kernel,by decide +kernel⟩
abbrev s_law_called:Stmt:=topS 11
abbrev N_law_called:List Str:= ["_law_hand_here","_law_many","_law_letters","_law_shut","_law_first","_law_by","_law_k","_law_stem","_law_spot","_law_found","_law_n","_law_pair","_law_word"]
theorem sc_law_called:FnScope N_law_called ["_law_hand_here","_law_many"] (defScope s_law_called):=⟨rfl,rfl,rfl,by decide +kernel,rfl,by decide +kernel,by decide +kernel⟩
abbrev s_law_digit:Stmt:=topS 12
abbrev N_law_digit:List Str:= ["_law_hand_here"]
theorem sc_law_digit:FnScope N_law_digit ["_law_hand_here"] (defScope s_law_digit):=⟨rfl,rfl,rfl,by decide +kernel,rfl,by decide +kernel,by decide +kernel⟩
abbrev s_law_grown:Stmt:=topS 13
abbrev N_law_grown:List Str:= ["_law_hand_here","_law_pot","_law_scope","_law_level","_law_lot","_law_many","_law_word","_law_k","_law_given","_law_first"]
theorem sc_law_grown:FnScope N_law_grown ["_law_hand_here","_law_pot","_law_scope","_law_level"] (defScope s_law_grown):=⟨rfl,rfl,rfl,by decide +kernel,rfl,by decide +kernel,by decide +kernel⟩
abbrev s_law_code:Stmt:=topS 14
abbrev N_law_code:List Str:= ["_law_hand_here","_law_size","_law_pool"]
theorem sc_law_code:FnScope N_law_code ["_law_hand_here","_law_size"] (defScope s_law_code):=⟨rfl,rfl,rfl,by decide +kernel,rfl,by decide +kernel,by decide +kernel⟩
abbrev s_law_spots:Stmt:=topS 15
abbrev N_law_spots:List Str:= ["_law_code_here","_law_found","_law_k","_law_part","_law_spot"]
theorem sc_law_spots:FnScope N_law_spots ["_law_code_here"] (defScope s_law_spots):=⟨rfl,rfl,rfl,by decide +kernel,rfl,by decide +kernel,by decide +kernel⟩
abbrev s_law_there:Stmt:=topS 16
abbrev N_law_there:List Str:= ["_law_code_here","_law_spot","_law_k"]
theorem sc_law_there:FnScope N_law_there ["_law_code_here","_law_spot"] (defScope s_law_there):=⟨rfl,rfl,rfl,by decide +kernel,rfl,by decide +kernel,by decide +kernel⟩
abbrev s_law_hole:Stmt:=topS 17
abbrev N_law_hole:List Str:= ["_law_hand_here","_law_pot","_law_word","_law_known","_law_h","_law_other"]
theorem sc_law_hole:FnScope N_law_hole ["_law_hand_here","_law_pot","_law_word"] (defScope s_law_hole):=⟨rfl,rfl,rfl,by decide +kernel,rfl,by decide +kernel,by decide +kernel⟩
abbrev s_law_holed:Stmt:=topS 18
abbrev N_law_holed:List Str:= ["_law_hand_here","_law_pot","_law_made","_law_names","_law_level","_law_word","_law_mark","_law_parts","_law_many","_law_own","_law_first","_law_inner","_law_found","_law_begin","_law_end","_law_wanted","_law_k"]
theorem sc_law_holed:FnScope N_law_holed ["_law_hand_here","_law_pot","_law_made","_law_names","_law_level"] (defScope s_law_holed):=⟨rfl,rfl,rfl,by decide +kernel,rfl,by decide +kernel,by decide +kernel⟩
abbrev s_law_sought:Stmt:=topS 19
abbrev N_law_sought:List Str:= ["_law_hand_here","_law_code_here","_law_piece","_law_letters","_law_first","_law_fresh","_law_k","_law_made"]
theorem sc_law_sought:FnScope N_law_sought ["_law_hand_here","_law_code_here"] (defScope s_law_sought):=⟨rfl,rfl,rfl,by decide +kernel,rfl,by decide +kernel,by decide +kernel⟩
abbrev s_law_deep:Stmt:=topS 20
abbrev N_law_deep:List Str:= ["_law_made","_law_part"]
theorem sc_law_deep:FnScope N_law_deep ["_law_made"] (defScope s_law_deep):=⟨rfl,rfl,rfl,by decide +kernel,rfl,by decide +kernel,by decide +kernel⟩
abbrev s_law_nodes:Stmt:=topS 21
abbrev N_law_nodes:List Str:= ["_law_made","_law_found","_law_part"]
theorem sc_law_nodes:FnScope N_law_nodes ["_law_made"] (defScope s_law_nodes):=⟨rfl,rfl,rfl,by decide +kernel,rfl,by decide +kernel,by decide +kernel⟩
abbrev s_law_names_in:Stmt:=topS 22
abbrev N_law_names_in:List Str:= ["_law_made","_law_node"]
theorem sc_law_names_in:FnScope N_law_names_in ["_law_made"] (defScope s_law_names_in):=⟨rfl,rfl,rfl,by decide +kernel,rfl,by decide +kernel,by decide +kernel⟩
abbrev s_law_leaf_put:Stmt:=topS 23
abbrev N_law_leaf_put:List Str:= ["_law_hand_here","_law_pot","_law_scope","_law_lot","_law_plain","_law_hole_here"]
theorem sc_law_leaf_put:FnScope N_law_leaf_put ["_law_hand_here","_law_pot","_law_scope"] (defScope s_law_leaf_put):=⟨rfl,rfl,rfl,by decide +kernel,rfl,by decide +kernel,by decide +kernel⟩
abbrev s_law_new:Stmt:=topS 24
abbrev N_law_new:List Str:= ["_law_hand_here","_law_pot","_law_scope","_law_level","_law_lot","_law_some","_law_k","_law_rests","_law_hole_here","_law_turn","_law_given","_law_first","_law_many","_law_word"]
theorem sc_law_new:FnScope N_law_new ["_law_hand_here","_law_pot","_law_scope","_law_level"] (defScope s_law_new):=⟨rfl,rfl,rfl,by decide +kernel,rfl,by decide +kernel,by decide +kernel⟩
abbrev s_law_about:Stmt:=topS 25
abbrev N_law_about:List Str:= ["_law_hand_here","_law_pot","_law_made","_law_scope","_law_word","_law_mark","_law_parts","_law_some","_law_first","_law_k","_law_way","_law_part"]
theorem sc_law_about:FnScope N_law_about ["_law_hand_here","_law_pot","_law_made","_law_scope"] (defScope s_law_about):=⟨rfl,rfl,rfl,by decide +kernel,rfl,by decide +kernel,by decide +kernel⟩
abbrev s_law_templ:Stmt:=topS 26
abbrev N_law_templ:List Str:= ["_law_hand_here","_law_code_here","_law_made","_law_own","_law_node","_law_holes","_law_more","_law_names","_law_pot","_law_name","_law_way","_law_found","_law_wide"]
theorem sc_law_templ:FnScope N_law_templ ["_law_hand_here","_law_code_here","_law_made"] (defScope s_law_templ):=⟨rfl,rfl,rfl,by decide +kernel,rfl,by decide +kernel,by decide +kernel⟩
abbrev s_law_counts:Stmt:=topS 27
abbrev N_law_counts:List Str:= ["_law_made","_law_found","_law_node"]
theorem sc_law_counts:FnScope N_law_counts ["_law_made"] (defScope s_law_counts):=⟨rfl,rfl,rfl,by decide +kernel,rfl,by decide +kernel,by decide +kernel⟩
abbrev s_law:Stmt:=topS 28
abbrev N_law:List Str:= ["_law_script","_law_k","_law_hand_here","_law_code_here","_law_made","_law_own","_law_holes","_law_node","_law_some","_law_turn","_law_shape","_law_more","_law_ruling","_law_counts_here","_law_kept","_law_due","_law_hole_here"]
theorem sc_law:FnScope N_law ["_law_script"] (defScope s_law):=⟨rfl,rfl,rfl,by decide +kernel,rfl,by decide +kernel,by decide +kernel⟩
structure Txt (K:PySem.W.Frag) (w:World) (mg:Str→Option Value) (fa:Nat→Addr) (fd:Nat→FuncData):Prop where
 z_abs:mg "abs" =none
 z_all:mg "all" =none
 z_dict:mg "dict" =none
 z_enumerate:mg "enumerate" =none
 z_int:mg "int" =none
 z_len:mg "len" =none
 z_list:mg "list" =none
 z_max:mg "max" =none
 z_min:mg "min" =none
 z_range:mg "range" =none
 z_repr:mg "repr" =none
 z_set:mg "set" =none
 z_sorted:mg "sorted" =none
 z_tuple:mg "tuple" =none
 c_HOLES:GRep ⟨K,w,mg⟩ "HOLES" c_HOLES
 g_listed:mg "listed" =some (.ref (fa 0))
 F_listed:FunD K "listed" "listed" (defArgs s_listed) (defBody s_listed) (defScope s_listed) [] [] (fa 0) (fd 0)
 g_nodes_of:mg "nodes_of" =some (.ref (fa 1))
 F_nodes_of:FunD K "nodes_of" "nodes_of" (defArgs s_nodes_of) (defBody s_nodes_of) (defScope s_nodes_of) [] [] (fa 1) (fd 1)
 g_holes_counted:mg "holes_counted" =some (.ref (fa 2))
 F_holes_counted:FunD K "holes_counted" "holes_counted" (defArgs s_holes_counted) (defBody s_holes_counted) (defScope s_holes_counted) [] [] (fa 2) (fd 2)
 g_is_lean:mg "is_lean" =some (.ref (fa 3))
 F_is_lean:FunD K "is_lean" "is_lean" (defArgs s_is_lean) (defBody s_is_lean) (defScope s_is_lean) [] [] (fa 3) (fd 3)
 g_law_hand:mg "_law_hand" =some (.ref (fa 4))
 F_law_hand:FunD K "_law_hand" "_law_hand" (defArgs s_law_hand) (defBody s_law_hand) (defScope s_law_hand) [] [] (fa 4) (fd 4)
 g_law_take:mg "_law_take" =some (.ref (fa 5))
 F_law_take:FunD K "_law_take" "_law_take" (defArgs s_law_take) (defBody s_law_take) (defScope s_law_take) [] [] (fa 5) (fd 5)
 g_law_pick:mg "_law_pick" =some (.ref (fa 6))
 F_law_pick:FunD K "_law_pick" "_law_pick" (defArgs s_law_pick) (defBody s_law_pick) (defScope s_law_pick) [] [] (fa 6) (fd 6)
 g_law_called:mg "_law_called" =some (.ref (fa 7))
 F_law_called:FunD K "_law_called" "_law_called" (defArgs s_law_called) (defBody s_law_called) (defScope s_law_called) [] [] (fa 7) (fd 7)
 g_law_digit:mg "_law_digit" =some (.ref (fa 8))
 F_law_digit:FunD K "_law_digit" "_law_digit" (defArgs s_law_digit) (defBody s_law_digit) (defScope s_law_digit) [] [] (fa 8) (fd 8)
 g_law_grown:mg "_law_grown" =some (.ref (fa 9))
 F_law_grown:FunD K "_law_grown" "_law_grown" (defArgs s_law_grown) (defBody s_law_grown) (defScope s_law_grown) [] [] (fa 9) (fd 9)
 g_law_code:mg "_law_code" =some (.ref (fa 10))
 F_law_code:FunD K "_law_code" "_law_code" (defArgs s_law_code) (defBody s_law_code) (defScope s_law_code) [] [] (fa 10) (fd 10)
 g_law_spots:mg "_law_spots" =some (.ref (fa 11))
 F_law_spots:FunD K "_law_spots" "_law_spots" (defArgs s_law_spots) (defBody s_law_spots) (defScope s_law_spots) [] [] (fa 11) (fd 11)
 g_law_there:mg "_law_there" =some (.ref (fa 12))
 F_law_there:FunD K "_law_there" "_law_there" (defArgs s_law_there) (defBody s_law_there) (defScope s_law_there) [] [] (fa 12) (fd 12)
 g_law_hole:mg "_law_hole" =some (.ref (fa 13))
 F_law_hole:FunD K "_law_hole" "_law_hole" (defArgs s_law_hole) (defBody s_law_hole) (defScope s_law_hole) [] [] (fa 13) (fd 13)
 g_law_holed:mg "_law_holed" =some (.ref (fa 14))
 F_law_holed:FunD K "_law_holed" "_law_holed" (defArgs s_law_holed) (defBody s_law_holed) (defScope s_law_holed) [] [] (fa 14) (fd 14)
 g_law_sought:mg "_law_sought" =some (.ref (fa 15))
 F_law_sought:FunD K "_law_sought" "_law_sought" (defArgs s_law_sought) (defBody s_law_sought) (defScope s_law_sought) [] [] (fa 15) (fd 15)
 g_law_deep:mg "_law_deep" =some (.ref (fa 16))
 F_law_deep:FunD K "_law_deep" "_law_deep" (defArgs s_law_deep) (defBody s_law_deep) (defScope s_law_deep) [] [] (fa 16) (fd 16)
 g_law_nodes:mg "_law_nodes" =some (.ref (fa 17))
 F_law_nodes:FunD K "_law_nodes" "_law_nodes" (defArgs s_law_nodes) (defBody s_law_nodes) (defScope s_law_nodes) [] [] (fa 17) (fd 17)
 g_law_names_in:mg "_law_names_in" =some (.ref (fa 18))
 F_law_names_in:FunD K "_law_names_in" "_law_names_in" (defArgs s_law_names_in) (defBody s_law_names_in) (defScope s_law_names_in) [] [] (fa 18) (fd 18)
 g_law_leaf_put:mg "_law_leaf_put" =some (.ref (fa 19))
 F_law_leaf_put:FunD K "_law_leaf_put" "_law_leaf_put" (defArgs s_law_leaf_put) (defBody s_law_leaf_put) (defScope s_law_leaf_put) [] [] (fa 19) (fd 19)
 g_law_new:mg "_law_new" =some (.ref (fa 20))
 F_law_new:FunD K "_law_new" "_law_new" (defArgs s_law_new) (defBody s_law_new) (defScope s_law_new) [] [] (fa 20) (fd 20)
 g_law_about:mg "_law_about" =some (.ref (fa 21))
 F_law_about:FunD K "_law_about" "_law_about" (defArgs s_law_about) (defBody s_law_about) (defScope s_law_about) [] [] (fa 21) (fd 21)
 g_law_templ:mg "_law_templ" =some (.ref (fa 22))
 F_law_templ:FunD K "_law_templ" "_law_templ" (defArgs s_law_templ) (defBody s_law_templ) (defScope s_law_templ) [] [] (fa 22) (fd 22)
 g_law_counts:mg "_law_counts" =some (.ref (fa 23))
 F_law_counts:FunD K "_law_counts" "_law_counts" (defArgs s_law_counts) (defBody s_law_counts) (defScope s_law_counts) [] [] (fa 23) (fd 23)
 g_law:mg "law" =some (.ref (fa 24))
 F_law:FunD K "law" "law" (defArgs s_law) (defBody s_law) (defScope s_law) [] [] (fa 24) (fd 24)
section
variable {P:Program} {K:PySem.W.Frag} {w:World} {mg:Str→Option Value} {base:Heap} {fa:Nat→Addr} {fd:Nat→FuncData}
theorem Txt.bnd_listed (T:Txt K w mg fa fd):Bnd ⟨K,w,mg⟩ (fd 0) ["thing"] [] :=bnd0 (T.F_listed.bindsN fun _ _ _ _ _ _ us hl=>match us,hl with| [_],_=>rfl)
theorem Txt.bnd_nodes_of (T:Txt K w mg fa fd):Bnd ⟨K,w,mg⟩ (fd 1) ["pattern"] [] :=bnd0 (T.F_nodes_of.bindsN fun _ _ _ _ _ _ us hl=>match us,hl with| [_],_=>rfl)
theorem Txt.bnd_holes_counted (T:Txt K w mg fa fd):Bnd ⟨K,w,mg⟩ (fd 2) ["pattern"] [] :=bnd0 (T.F_holes_counted.bindsN fun _ _ _ _ _ _ us hl=>match us,hl with| [_],_=>rfl)
theorem Txt.bnd_is_lean (T:Txt K w mg fa fd):Bnd ⟨K,w,mg⟩ (fd 3) ["rule"] [] :=bnd0 (T.F_is_lean.bindsN fun _ _ _ _ _ _ us hl=>match us,hl with| [_],_=>rfl)
theorem Txt.bnd_law_hand (T:Txt K w mg fa fd):Bnd ⟨K,w,mg⟩ (fd 4) ["_law_script","_law_k"] [] :=bnd0 (T.F_law_hand.bindsN fun _ _ _ _ _ _ us hl=>match us,hl with| [_,_],_=>rfl)
theorem Txt.bnd_law_take (T:Txt K w mg fa fd):Bnd ⟨K,w,mg⟩ (fd 5) ["_law_hand_here","_law_many"] [] :=bnd0 (T.F_law_take.bindsN fun _ _ _ _ _ _ us hl=>match us,hl with| [_,_],_=>rfl)
theorem Txt.bnd_law_pick (T:Txt K w mg fa fd):Bnd ⟨K,w,mg⟩ (fd 6) ["_law_hand_here","_law_some"] [] :=bnd0 (T.F_law_pick.bindsN fun _ _ _ _ _ _ us hl=>match us,hl with| [_,_],_=>rfl)
theorem Txt.bnd_law_called (T:Txt K w mg fa fd):Bnd ⟨K,w,mg⟩ (fd 7) ["_law_hand_here","_law_many"] [] :=bnd0 (T.F_law_called.bindsN fun _ _ _ _ _ _ us hl=>match us,hl with| [_,_],_=>rfl)
theorem Txt.bnd_law_digit (T:Txt K w mg fa fd):Bnd ⟨K,w,mg⟩ (fd 8) ["_law_hand_here"] [] :=bnd0 (T.F_law_digit.bindsN fun _ _ _ _ _ _ us hl=>match us,hl with| [_],_=>rfl)
theorem Txt.bnd_law_grown (T:Txt K w mg fa fd):Bnd ⟨K,w,mg⟩ (fd 9) ["_law_hand_here","_law_pot","_law_scope","_law_level"] [] :=bnd0 (T.F_law_grown.bindsN fun _ _ _ _ _ _ us hl=>match us,hl with| [_,_,_,_],_=>rfl)
theorem Txt.bnd_law_code (T:Txt K w mg fa fd):Bnd ⟨K,w,mg⟩ (fd 10) ["_law_hand_here","_law_size"] [] :=bnd0 (T.F_law_code.bindsN fun _ _ _ _ _ _ us hl=>match us,hl with| [_,_],_=>rfl)
theorem Txt.bnd_law_spots (T:Txt K w mg fa fd):Bnd ⟨K,w,mg⟩ (fd 11) ["_law_code_here"] [] :=bnd0 (T.F_law_spots.bindsN fun _ _ _ _ _ _ us hl=>match us,hl with| [_],_=>rfl)
theorem Txt.bnd_law_there (T:Txt K w mg fa fd):Bnd ⟨K,w,mg⟩ (fd 12) ["_law_code_here","_law_spot"] [] :=bnd0 (T.F_law_there.bindsN fun _ _ _ _ _ _ us hl=>match us,hl with| [_,_],_=>rfl)
theorem Txt.bnd_law_hole (T:Txt K w mg fa fd):Bnd ⟨K,w,mg⟩ (fd 13) ["_law_hand_here","_law_pot","_law_word"] [] :=bnd0 (T.F_law_hole.bindsN fun _ _ _ _ _ _ us hl=>match us,hl with| [_,_,_],_=>rfl)
theorem Txt.bnd_law_holed (T:Txt K w mg fa fd):Bnd ⟨K,w,mg⟩ (fd 14) ["_law_hand_here","_law_pot","_law_made","_law_names","_law_level"] [] :=bnd0 (T.F_law_holed.bindsN fun _ _ _ _ _ _ us hl=>match us,hl with| [_,_,_,_,_],_=>rfl)
theorem Txt.bnd_law_sought (T:Txt K w mg fa fd):Bnd ⟨K,w,mg⟩ (fd 15) ["_law_hand_here","_law_code_here"] [] :=bnd0 (T.F_law_sought.bindsN fun _ _ _ _ _ _ us hl=>match us,hl with| [_,_],_=>rfl)
theorem Txt.bnd_law_deep (T:Txt K w mg fa fd):Bnd ⟨K,w,mg⟩ (fd 16) ["_law_made"] [] :=bnd0 (T.F_law_deep.bindsN fun _ _ _ _ _ _ us hl=>match us,hl with| [_],_=>rfl)
theorem Txt.bnd_law_nodes (T:Txt K w mg fa fd):Bnd ⟨K,w,mg⟩ (fd 17) ["_law_made"] [] :=bnd0 (T.F_law_nodes.bindsN fun _ _ _ _ _ _ us hl=>match us,hl with| [_],_=>rfl)
theorem Txt.bnd_law_names_in (T:Txt K w mg fa fd):Bnd ⟨K,w,mg⟩ (fd 18) ["_law_made"] [] :=bnd0 (T.F_law_names_in.bindsN fun _ _ _ _ _ _ us hl=>match us,hl with| [_],_=>rfl)
theorem Txt.bnd_law_leaf_put (T:Txt K w mg fa fd):Bnd ⟨K,w,mg⟩ (fd 19) ["_law_hand_here","_law_pot","_law_scope"] [] :=bnd0 (T.F_law_leaf_put.bindsN fun _ _ _ _ _ _ us hl=>match us,hl with| [_,_,_],_=>rfl)
theorem Txt.bnd_law_new (T:Txt K w mg fa fd):Bnd ⟨K,w,mg⟩ (fd 20) ["_law_hand_here","_law_pot","_law_scope","_law_level"] [] :=bnd0 (T.F_law_new.bindsN fun _ _ _ _ _ _ us hl=>match us,hl with| [_,_,_,_],_=>rfl)
theorem Txt.bnd_law_about (T:Txt K w mg fa fd):Bnd ⟨K,w,mg⟩ (fd 21) ["_law_hand_here","_law_pot","_law_made","_law_scope"] [] :=bnd0 (T.F_law_about.bindsN fun _ _ _ _ _ _ us hl=>match us,hl with| [_,_,_,_],_=>rfl)
theorem Txt.bnd_law_templ (T:Txt K w mg fa fd):Bnd ⟨K,w,mg⟩ (fd 22) ["_law_hand_here","_law_code_here","_law_made"] [] :=bnd0 (T.F_law_templ.bindsN fun _ _ _ _ _ _ us hl=>match us,hl with| [_,_,_],_=>rfl)
theorem Txt.bnd_law_counts (T:Txt K w mg fa fd):Bnd ⟨K,w,mg⟩ (fd 23) ["_law_made"] [] :=bnd0 (T.F_law_counts.bindsN fun _ _ _ _ _ _ us hl=>match us,hl with| [_],_=>rfl)
theorem Txt.kbd_is_lean_0_rule (T:Txt K w mg fa fd):Kbd ⟨K,w,mg⟩ (fd 3) ["rule"] 0 ["rule"] kbd_is_lean_0_rule_g:=by
 obtain⟨oc,od,dV,kV,doc,pm,an,cdv,ct,osl,e,_,_,hD,_⟩:=T.F_is_lean.ex
 obtain rfl:dV= .none:=hD.elim (fun h=>h.2) fun h=>absurd rfl h.1
 refine kbd_of _ fun s us ws h1 h2=> ?_
 rw[e]
 match us,h1,ws,h2 with
 | [],_,[_],_=>exact .of_eq rfl
end
theorem b_listed {P:Program} {K:PySem.W.Frag} {w:World} {mg:Str→Option Value} {base:Heap} {fa:Nat→Addr} {fd:Nat→FuncData} {F:Nat→FN} {k:Nat} (hM:∃o,base.get? sysModules=some o) (T:Txt K w mg fa fd) (C_listed:Cal P w ⟨K,w,mg⟩ base k "listed" (fa 0) (fd 0) ["thing"] (F 0)) (cdv:Value) (A:Around) (outer:List Env) (s:Shared) (H:Hp) (E:XK)
 (hr:RoomG k (A.deeper (envOfC "listed" (defScope s_listed) s.heap.objs.size (fa 0) cdv))):
 PSs (cxOf (L2.CX P w) P w K mg base N_listed "listed" (defScope s_listed) (fa 0) cdv A outer s H E) (defBody s_listed) (tS ⟨K,w,mg⟩ (m_listed F) (WE0 E)):=
 q_sone (q_ret (q_op (o_add (by rfl)) c_add (q_lst (q_cons (q_var (pv 0)) (q_nil))) (q_lc2 (own:= [("part",2),("node",1)]) (vs1:= [1]) (by rfl) sc_listed.nd (q_iter (by rfl) (q_ix (o_ix (by rfl) (by rfl) (u1 hr)) c_ix (q_var (pv 0)) (q_int) (fun _ _=>rfl))) (blkOk_by (own:= [("part",2),("node",1)]) (N:=N_listed) (sc:=defScope s_listed) (by decide +kernel)) (by decide) (fun _ _ _ _ _=>q_gnameW (pg_name (i:=2) sc_listed.nd (by rfl) (.inl (by rfl))) (by decide)) (fun _ _ _ _ _=>q_tnil) (fun _ _ _ _ _=>q_iter (by rfl) (q_fn C_listed T.bnd_listed hr (by rfl) (by rfl) (by rfl) tk_blk (q_cons (q_var (pv 2)) (q_nil)))) (fun _ _ _ _ _=>q_gnameW (pg_name (i:=1) sc_listed.nd (by rfl) (.inl (by rfl))) (by decide)) (fun _ _ _ _ _=>q_tnil) (fun _ _ _ _ _=>q_var (pv 1)))))
theorem b_nodes_of {P:Program} {K:PySem.W.Frag} {w:World} {mg:Str→Option Value} {base:Heap} {fa:Nat→Addr} {fd:Nat→FuncData} {F:Nat→FN} {k:Nat} (hM:∃o,base.get? sysModules=some o) (T:Txt K w mg fa fd) (C_listed:Cal P w ⟨K,w,mg⟩ base k "listed" (fa 0) (fd 0) ["thing"] (F 0)) (cdv:Value) (A:Around) (outer:List Env) (s:Shared) (H:Hp) (E:XK)
 (hr:RoomG k (A.deeper (envOfC "nodes_of" (defScope s_nodes_of) s.heap.objs.size (fa 1) cdv))):
 PSs (cxOf (L2.CX P w) P w K mg base N_nodes_of "nodes_of" (defScope s_nodes_of) (fa 1) cdv A outer s H E) (defBody s_nodes_of) (tS ⟨K,w,mg⟩ (m_nodes_of F) (WE0 E)):=
 q_sone (q_ret (q_callTy (o_tuple (by rfl)) c_tuple (by rfl) T.z_tuple b_tuple (q_cons (q_fn C_listed T.bnd_listed hr (by rfl) (by rfl) (by rfl) tk_body (q_cons (q_var (pv 0)) (q_nil))) (q_nil))))
theorem b_holes_counted {P:Program} {K:PySem.W.Frag} {w:World} {mg:Str→Option Value} {base:Heap} {fa:Nat→Addr} {fd:Nat→FuncData} {F:Nat→FN} {k:Nat} (hM:∃o,base.get? sysModules=some o) (T:Txt K w mg fa fd) (C_nodes_of:Cal P w ⟨K,w,mg⟩ base k "nodes_of" (fa 1) (fd 1) ["pattern"] (F 1)) (cdv:Value) (A:Around) (outer:List Env) (s:Shared) (H:Hp) (E:XK)
 (hr:RoomG k (A.deeper (envOfC "holes_counted" (defScope s_holes_counted) s.heap.objs.size (fa 2) cdv))):
 PSs (cxOf (L2.CX P w) P w K mg base N_holes_counted "holes_counted" (defScope s_holes_counted) (fa 2) cdv A outer s H E) (defBody s_holes_counted) (tS ⟨K,w,mg⟩ (m_holes_counted F) (WE0 E)):=
 q_scons (q_set (i:=1) sc_holes_counted.nd (by rfl) (.inl (by rfl)) (q_dct0))
  (q_scons (q_for po_body (by rfl) (q_iter (by rfl) (q_fn C_nodes_of T.bnd_nodes_of hr (by rfl) (by rfl) (by rfl) tk_body (q_cons (q_var (pv 0)) (q_nil)))) (q_gtup (by rfl) (by rfl) (q_gscons (pg_name (i:=2) sc_holes_counted.nd (by rfl) (.inl (by rfl))) (q_gscons (pg_name (i:=3) sc_holes_counted.nd (by rfl) (.inl (by rfl))) (q_gscons (pg_name (i:=4) sc_holes_counted.nd (by rfl) (.inl (by rfl))) (q_gsnil))))) (q_sone (q_if (q_tcmp (o_in (by rfl) (by rfl) (u65 hr)) c_in (q_var (pv 2)) (q_cst T.c_HOLES (by rfl) (by rfl)) (by rfl)) (q_sone (q_asg (q_op (o_add (by rfl)) c_add (q_bm (by rfl) PySem.F.plainAttrs_dict PySem.F.slot_dict_get PySem.F.type_dict_get (o_dget (u1 hr)) c_dget (q_var (pv 1)) (q_cons (q_var (pv 3)) (q_cons (q_int) (q_nil)))) (q_int)) (q_gsub (Wx:=WE0 E) (u1 hr) (q_var (pv 1)) (q_var (pv 3))) (gn:=gn_sub))) (q_snil))))
  (q_sone (q_ret (q_var (pv 1)))))
theorem b_is_lean {P:Program} {K:PySem.W.Frag} {w:World} {mg:Str→Option Value} {base:Heap} {fa:Nat→Addr} {fd:Nat→FuncData} {F:Nat→FN} {k:Nat} (hM:∃o,base.get? sysModules=some o) (T:Txt K w mg fa fd) (C_holes_counted:Cal P w ⟨K,w,mg⟩ base k "holes_counted" (fa 2) (fd 2) ["pattern"] (F 2)) (cdv:Value) (A:Around) (outer:List Env) (s:Shared) (H:Hp) (E:XK)
 (hr:RoomG k (A.deeper (envOfC "is_lean" (defScope s_is_lean) s.heap.objs.size (fa 3) cdv))):
 PSs (cxOf (L2.CX P w) P w K mg base N_is_lean "is_lean" (defScope s_is_lean) (fa 3) cdv A outer s H E) (defBody s_is_lean) (tS ⟨K,w,mg⟩ (m_is_lean F) (WE0 E)):=
 q_scons (q_asg (q_var (pv 0)) (q_gtup (by rfl) (by rfl) (q_gscons (pg_name (i:=1) sc_is_lean.nd (by rfl) (.inl (by rfl))) (q_gscons (pg_name (i:=2) sc_is_lean.nd (by rfl) (.inl (by rfl))) (q_gscons (pg_name (i:=3) sc_is_lean.nd (by rfl) (.inl (by rfl))) (q_gscons (pg_name (i:=4) sc_is_lean.nd (by rfl) (.inl (by rfl))) (q_gsnil)))))) (gn:=gn_tup))
  (q_scons (q_set (i:=5) sc_is_lean.nd (by rfl) (.inr (by rfl)) (q_fn C_holes_counted T.bnd_holes_counted hr (by rfl) (by rfl) (by rfl) tk_body (q_cons (q_var (pv 2)) (q_nil))))
  (q_sone (q_ret (q_callB (o_all (by rfl)) c_all (by rfl) T.z_all b_all (q_cons (q_lc (own:= [("h",6),("many",7)]) (by rfl) sc_is_lean.nd (q_itemsF (q_fn C_holes_counted T.bnd_holes_counted hr (by rfl) (by rfl) (by rfl) tk_body (q_cons (q_var (pv 4)) (q_nil)))) (blkOk_by (own:= [("h",6),("many",7)]) (N:=N_is_lean) (sc:=defScope s_is_lean) (by decide +kernel)) (fun _ _ _ _ _=>q_gtupW (by rfl) (by rfl) (q_gscW (pg_name (i:=6) sc_is_lean.nd (by rfl) (.inl (by rfl))) (q_gscW (pg_name (i:=7) sc_is_lean.nd (by rfl) (.inl (by rfl))) (q_gsnW)))) (fun _ _ _ _ _=>q_tnil) (fun _ _ _ _ _=>q_cmp o_le c_le (q_var (pv 7)) (q_ix (o_ix (by rfl) (by rfl) (u1 hr)) c_ix (q_var (pv 5)) (q_var (pv 6)) (fun _ _=>rfl)) (nomark _))) (q_nil))))))
theorem b_law_hand {P:Program} {K:PySem.W.Frag} {w:World} {mg:Str→Option Value} {base:Heap} {fa:Nat→Addr} {fd:Nat→FuncData} {F:Nat→FN} {k:Nat} (hM:∃o,base.get? sysModules=some o) (T:Txt K w mg fa fd) (cdv:Value) (A:Around) (outer:List Env) (s:Shared) (H:Hp) (E:XK)
 (hr:RoomG k (A.deeper (envOfC "_law_hand" (defScope s_law_hand) s.heap.objs.size (fa 4) cdv))):
 PSs (cxOf (L2.CX P w) P w K mg base N_law_hand "_law_hand" (defScope s_law_hand) (fa 4) cdv A outer s H E) (defBody s_law_hand) (tS ⟨K,w,mg⟩ (m_law_hand F) (WE0 E)):=
 q_scons (q_set (i:=2) sc_law_hand.nd (by rfl) (.inl (by rfl)) (q_op (o_add (by rfl)) c_add (q_op o_mul c_mul (q_int) (q_var (pv 1))) (q_callB (o_len (by rfl)) c_len (by rfl) T.z_len b_len (q_cons (q_var (pv 0)) (q_nil)))))
  (q_scons (q_if (q_tcmp o_lt c_lt (q_var (pv 1)) (q_callB (o_len (by rfl)) c_len (by rfl) T.z_len b_len (q_cons (q_var (pv 0)) (q_nil))) (nomark _)) (q_sone (q_set (i:=2) sc_law_hand.nd (by rfl) (.inl (by rfl)) (q_ix (o_ix (by rfl) (by rfl) (u1 hr)) c_ix (q_var (pv 0)) (q_var (pv 1)) (fun _ _=>rfl)))) (q_snil))
  (q_scons (q_set (i:=3) sc_law_hand.nd (by rfl) (.inl (by rfl)) (q_op o_mul c_mul (q_op o_mod c_mod (q_callB o_abs c_abs (by rfl) T.z_abs b_abs (q_cons (q_var (pv 2)) (q_nil))) (q_op o_pow c_pow (q_op o_pow c_pow (q_int) (q_int)) (q_int))) (q_callTy o_int c_int (by rfl) T.z_int b_int (q_cons (q_cmp o_ge c_ge (q_callB o_abs c_abs (by rfl) T.z_abs b_abs (q_cons (q_var (pv 2)) (q_nil))) (q_op o_pow c_pow (q_int) (q_int)) (nomark _)) (q_nil)))))
  (q_sone (q_ret (q_obj (q_cons (q_var (pv 3)) (q_cons (q_op o_mod c_mod (q_op o_mul c_mul (q_op (o_add (by rfl)) c_add (q_op (o_add (by rfl)) c_add (q_op o_mod c_mod (q_var (pv 2)) (q_int)) (q_op o_mul c_mul (q_op o_mul c_mul (q_int) (q_var (pv 1))) (q_var (pv 1)))) (q_int)) (q_int)) (q_int)) (q_nil))))))))
theorem b_law_take {P:Program} {K:PySem.W.Frag} {w:World} {mg:Str→Option Value} {base:Heap} {fa:Nat→Addr} {fd:Nat→FuncData} {F:Nat→FN} {k:Nat} (hM:∃o,base.get? sysModules=some o) (T:Txt K w mg fa fd) (cdv:Value) (A:Around) (outer:List Env) (s:Shared) (H:Hp) (E:XK)
 (hr:RoomG k (A.deeper (envOfC "_law_take" (defScope s_law_take) s.heap.objs.size (fa 5) cdv))):
 PSs (cxOf (L2.CX P w) P w K mg base N_law_take "_law_take" (defScope s_law_take) (fa 5) cdv A outer s H E) (defBody s_law_take) (tS ⟨K,w,mg⟩ (m_law_take F) (WE0 E)):=
 q_scons (q_if (q_tcmp o_gt c_gt (q_ix (o_ix (by rfl) (by rfl) (u1 hr)) c_ix (q_var (pv 0)) (q_int) (fun _ _=>rfl)) (q_int) (nomark _)) (q_scons (q_set (i:=2) sc_law_take.nd (by rfl) (.inl (by rfl)) (q_op o_mod c_mod (q_ix (o_ix (by rfl) (by rfl) (u1 hr)) c_ix (q_var (pv 0)) (q_int) (fun _ _=>rfl)) (q_var (pv 1))))
  (q_scons (q_asg (q_op o_fdiv c_fdiv (q_ix (o_ix (by rfl) (by rfl) (u1 hr)) c_ix (q_var (pv 0)) (q_int) (fun _ _=>rfl)) (q_var (pv 1))) (q_gsub (Wx:=WE0 E) (u1 hr) (q_var (pv 0)) (q_int)) (gn:=gn_sub))
  (q_sone (q_ret (q_var (pv 2)))))) (q_snil))
  (q_scons (q_asg (q_op o_mod c_mod (q_op (o_add (by rfl)) c_add (q_op o_mul c_mul (q_ix (o_ix (by rfl) (by rfl) (u1 hr)) c_ix (q_var (pv 0)) (q_int) (fun _ _=>rfl)) (q_int)) (q_int)) (q_int)) (q_gsub (Wx:=WE0 E) (u1 hr) (q_var (pv 0)) (q_int)) (gn:=gn_sub))
  (q_sone (q_ret (q_op o_mod c_mod (q_op o_fdiv c_fdiv (q_op o_mod c_mod (q_op o_mul c_mul (q_op o_fdiv c_fdiv (q_ix (o_ix (by rfl) (by rfl) (u1 hr)) c_ix (q_var (pv 0)) (q_int) (fun _ _=>rfl)) (q_int)) (q_op (o_add (by rfl)) c_add (q_op o_mod c_mod (q_ix (o_ix (by rfl) (by rfl) (u1 hr)) c_ix (q_var (pv 0)) (q_int) (fun _ _=>rfl)) (q_int)) (q_int))) (q_int)) (q_int)) (q_var (pv 1))))))
theorem b_law_pick {P:Program} {K:PySem.W.Frag} {w:World} {mg:Str→Option Value} {base:Heap} {fa:Nat→Addr} {fd:Nat→FuncData} {F:Nat→FN} {k:Nat} (hM:∃o,base.get? sysModules=some o) (T:Txt K w mg fa fd) (C_law_take:Cal P w ⟨K,w,mg⟩ base k "_law_take" (fa 5) (fd 5) ["_law_hand_here","_law_many"] (F 5)) (cdv:Value) (A:Around) (outer:List Env) (s:Shared) (H:Hp) (E:XK)
 (hr:RoomG k (A.deeper (envOfC "_law_pick" (defScope s_law_pick) s.heap.objs.size (fa 6) cdv))):
 PSs (cxOf (L2.CX P w) P w K mg base N_law_pick "_law_pick" (defScope s_law_pick) (fa 6) cdv A outer s H E) (defBody s_law_pick) (tS ⟨K,w,mg⟩ (m_law_pick F) (WE0 E)):=
 q_sone (q_ret (q_ix (o_ix (by rfl) (by rfl) (u1 hr)) c_ix (q_var (pv 1)) (q_fn C_law_take T.bnd_law_take hr (by rfl) (by rfl) (by rfl) tk_body (q_cons (q_var (pv 0)) (q_cons (q_callB (o_len (by rfl)) c_len (by rfl) T.z_len b_len (q_cons (q_var (pv 1)) (q_nil))) (q_nil)))) (fun _ _=>rfl)))
theorem b_law_called {P:Program} {K:PySem.W.Frag} {w:World} {mg:Str→Option Value} {base:Heap} {fa:Nat→Addr} {fd:Nat→FuncData} {F:Nat→FN} {k:Nat} (hM:∃o,base.get? sysModules=some o) (T:Txt K w mg fa fd) (C_law_pick:Cal P w ⟨K,w,mg⟩ base k "_law_pick" (fa 6) (fd 6) ["_law_hand_here","_law_some"] (F 6)) (C_law_take:Cal P w ⟨K,w,mg⟩ base k "_law_take" (fa 5) (fd 5) ["_law_hand_here","_law_many"] (F 5)) (cdv:Value) (A:Around) (outer:List Env) (s:Shared) (H:Hp) (E:XK)
 (hr:RoomG k (A.deeper (envOfC "_law_called" (defScope s_law_called) s.heap.objs.size (fa 7) cdv))):
 PSs (cxOf (L2.CX P w) P w K mg base N_law_called "_law_called" (defScope s_law_called) (fa 7) cdv A outer s H E) (defBody s_law_called) (tS ⟨K,w,mg⟩ (m_law_called F) (WE0 E)):=
 q_scons (q_set (i:=2) sc_law_called.nd (by rfl) (.inr (by rfl)) (q_str))
  (q_scons (q_set (i:=3) sc_law_called.nd (by rfl) (.inl (by rfl)) (q_bm (by rfl) PySem.F.plainAttrs_str PySem.F.slot_str_split PySem.F.type_str_split o_split c_split (q_str) (q_cons (q_str) (q_nil))))
  (q_scons (q_asg (q_tup (q_cons (q_fn C_law_take T.bnd_law_take hr (by rfl) (by rfl) (by rfl) tk_body (q_cons (q_var (pv 0)) (q_cons (q_int) (q_nil)))) (q_cons (q_fn C_law_pick T.bnd_law_pick hr (by rfl) (by rfl) (by rfl) tk_body (q_cons (q_var (pv 0)) (q_cons (q_lst (q_cons (q_int) (q_cons (q_int) (q_cons (q_int) (q_cons (q_int) (q_cons (q_int) (q_cons (q_int) (q_cons (q_int) (q_nil))))))))) (q_nil)))) (q_nil)))) (q_gtup (by rfl) (by rfl) (q_gscons (pg_name (i:=4) sc_law_called.nd (by rfl) (.inr (by rfl))) (q_gscons (pg_name (i:=5) sc_law_called.nd (by rfl) (.inl (by rfl))) (q_gsnil)))) (gn:=gn_tup))
  (q_scons (q_if (q_tb (w_and (q_tcmp o_lt c_lt (q_var (pv 1)) (q_int) (nomark _)) (w_and1 (q_tcmp (o_eq (by rfl) hr.units) c_eq (q_fn C_law_take T.bnd_law_take hr (by rfl) (by rfl) (by rfl) tk_body (q_cons (q_var (pv 0)) (q_cons (q_int) (q_nil)))) (q_int) (nomark _))))) (q_sone (q_ret (q_lc (own:= [("_law_k",6)]) (by rfl) sc_law_called.nd (q_range1 (by rfl) T.z_range (q_cons (q_var (pv 1)) (q_nil))) (blkOk_by (own:= [("_law_k",6)]) (N:=N_law_called) (sc:=defScope s_law_called) (by decide +kernel)) (fun _ _ _ _ _=>q_gnameW (pg_name (i:=6) sc_law_called.nd (by rfl) (.inl (by rfl))) (by decide)) (fun _ _ _ _ _=>q_tnil) (fun _ _ _ _ _=>q_ix (o_ix (by rfl) (by rfl) (u1 hr)) c_ix (q_var (pv 2)) (q_op o_mod c_mod (q_op (o_add (by rfl)) c_add (q_var (pv 4)) (q_var (pv 6))) (q_int)) (fun _ _=>rfl))))) (q_snil))
  (q_scons (q_set (i:=7) sc_law_called.nd (by rfl) (.inl (by rfl)) (q_bm (by rfl) PySem.F.plainAttrs_str PySem.F.slot_str_join PySem.F.type_str_join (o_join (by rfl)) c_join (q_str) (q_cons (q_lc (own:= [("_law_k",6)]) (by rfl) sc_law_called.nd (q_range1 (by rfl) T.z_range (q_cons (q_fn C_law_pick T.bnd_law_pick hr (by rfl) (by rfl) (by rfl) tk_body (q_cons (q_var (pv 0)) (q_cons (q_lst (q_cons (q_int) (q_cons (q_int) (q_cons (q_int) (q_cons (q_int) (q_cons (q_int) (q_nil))))))) (q_nil)))) (q_nil))) (blkOk_by (own:= [("_law_k",6)]) (N:=N_law_called) (sc:=defScope s_law_called) (by decide +kernel)) (fun _ _ _ _ _=>q_gnameW (pg_name (i:=6) sc_law_called.nd (by rfl) (.inl (by rfl))) (by decide)) (fun _ _ _ _ _=>q_tnil) (fun _ _ _ _ _=>q_fn C_law_pick T.bnd_law_pick hr (by rfl) (by rfl) (by rfl) tk_blk (q_cons (q_var (pv 0)) (q_cons (q_var (pv 2)) (q_nil))))) (q_nil))))
  (q_scons (q_par (i:=8) (j:=9) (by rfl) sc_law_called.nd (by rfl) (by rfl) (by decide) (by rfl) (by rfl) (q_cons (q_fn C_law_take T.bnd_law_take hr (by rfl) (by rfl) (by rfl) tk_body (q_cons (q_var (pv 0)) (q_cons (q_op (o_add (by rfl)) c_add (q_callB (o_len (by rfl)) c_len (by rfl) T.z_len b_len (q_cons (q_var (pv 7)) (q_nil))) (q_int)) (q_nil)))) (q_cons (q_obj (q_nil)) (q_nil))) (by rfl))
  (q_scons (q_for po_body (by rfl) (q_range1 (by rfl) T.z_range (q_cons (q_var (pv 1)) (q_nil))) (q_gname (pg_name (i:=6) sc_law_called.nd (by rfl) (.inl (by rfl)))) (q_scons (q_set (i:=10) sc_law_called.nd (by rfl) (.inl (by rfl)) (q_op o_mod c_mod (q_op (o_add (by rfl)) c_add (q_var (pv 4)) (q_op o_mul c_mul (q_var (pv 5)) (q_var (pv 6)))) (q_int)))
  (q_scons (q_set (i:=11) sc_law_called.nd (by rfl) (.inl (by rfl)) (q_op (o_add (by rfl)) c_add (q_ix (o_ix (by rfl) (by rfl) (u1 hr)) c_ix (q_var (pv 2)) (q_op o_fdiv c_fdiv (q_var (pv 10)) (q_int)) (fun _ _=>rfl)) (q_ix (o_ix (by rfl) (by rfl) (u1 hr)) c_ix (q_var (pv 2)) (q_op o_mod c_mod (q_var (pv 10)) (q_int)) (fun _ _=>rfl))))
  (q_scons (q_set (i:=12) sc_law_called.nd (by rfl) (.inl (by rfl)) (q_op (o_add (by rfl)) c_add (q_op (o_add (by rfl)) c_add (q_slice (by rfl) (q_var (pv 7)) (q_pno) (q_pyes (q_var (pv 8)))) (q_var (pv 11))) (q_slice (by rfl) (q_var (pv 7)) (q_pyes (q_var (pv 8))) (q_pno))))
  (q_sone (q_expr (q_bm (by rfl) PySem.F.plainAttrs_list PySem.F.slot_list_append PySem.F.type_list_append o_append c_append (q_var (pv 9)) (q_cons (q_op (o_add (by rfl)) c_add (q_var (pv 12)) (q_op o_mul c_mul (q_str) (q_callTy o_int c_int (by rfl) T.z_int b_int (q_cons (q_cmp (o_in (by rfl) (by rfl) (u65 hr)) c_in (q_var (pv 12)) (q_var (pv 3)) (by rfl)) (q_nil))))) (q_nil)))))))))
  (q_sone (q_ret (q_var (pv 9))))))))))
theorem b_law_digit {P:Program} {K:PySem.W.Frag} {w:World} {mg:Str→Option Value} {base:Heap} {fa:Nat→Addr} {fd:Nat→FuncData} {F:Nat→FN} {k:Nat} (hM:∃o,base.get? sysModules=some o) (T:Txt K w mg fa fd) (C_law_pick:Cal P w ⟨K,w,mg⟩ base k "_law_pick" (fa 6) (fd 6) ["_law_hand_here","_law_some"] (F 6)) (C_law_take:Cal P w ⟨K,w,mg⟩ base k "_law_take" (fa 5) (fd 5) ["_law_hand_here","_law_many"] (F 5)) (cdv:Value) (A:Around) (outer:List Env) (s:Shared) (H:Hp) (E:XK)
 (hr:RoomG k (A.deeper (envOfC "_law_digit" (defScope s_law_digit) s.heap.objs.size (fa 8) cdv))):
 PSs (cxOf (L2.CX P w) P w K mg base N_law_digit "_law_digit" (defScope s_law_digit) (fa 8) cdv A outer s H E) (defBody s_law_digit) (tS ⟨K,w,mg⟩ (m_law_digit F) (WE0 E)):=
 q_sone (q_ret (q_fn C_law_pick T.bnd_law_pick hr (by rfl) (by rfl) (by rfl) tk_body (q_cons (q_var (pv 0)) (q_cons (q_lst (q_cons (q_int) (q_cons (q_int) (q_cons (q_int) (q_cons (q_int) (q_cons (q_fn C_law_take T.bnd_law_take hr (by rfl) (by rfl) (by rfl) tk_body (q_cons (q_var (pv 0)) (q_cons (q_int) (q_nil)))) (q_cons (q_int) (q_cons (q_fn C_law_take T.bnd_law_take hr (by rfl) (by rfl) (by rfl) tk_body (q_cons (q_var (pv 0)) (q_cons (q_int) (q_nil)))) (q_nil))))))))) (q_nil)))))
theorem b_law_grown {P:Program} {K:PySem.W.Frag} {w:World} {mg:Str→Option Value} {base:Heap} {fa:Nat→Addr} {fd:Nat→FuncData} {F:Nat→FN} {k:Nat} (hM:∃o,base.get? sysModules=some o) (T:Txt K w mg fa fd) (C_law_digit:Cal P w ⟨K,w,mg⟩ base k "_law_digit" (fa 8) (fd 8) ["_law_hand_here"] (F 8)) (C_law_grown:Cal P w ⟨K,w,mg⟩ base k "_law_grown" (fa 9) (fd 9) ["_law_hand_here","_law_pot","_law_scope","_law_level"] (F 9)) (C_law_pick:Cal P w ⟨K,w,mg⟩ base k "_law_pick" (fa 6) (fd 6) ["_law_hand_here","_law_some"] (F 6)) (C_law_take:Cal P w ⟨K,w,mg⟩ base k "_law_take" (fa 5) (fd 5) ["_law_hand_here","_law_many"] (F 5)) (cdv:Value) (A:Around) (outer:List Env) (s:Shared) (H:Hp) (E:XK)
 (hr:RoomG k (A.deeper (envOfC "_law_grown" (defScope s_law_grown) s.heap.objs.size (fa 9) cdv))):
 PSs (cxOf (L2.CX P w) P w K mg base N_law_grown "_law_grown" (defScope s_law_grown) (fa 9) cdv A outer s H E) (defBody s_law_grown) (tS ⟨K,w,mg⟩ (m_law_grown F) (WE0 E)):=
 q_scons (q_asg (q_op o_sub c_sub (q_ix (o_ix (by rfl) (by rfl) (u1 hr)) c_ix (q_var (pv 1)) (q_str) (fun _ _=>rfl)) (q_int)) (q_gsub (Wx:=WE0 E) (u1 hr) (q_var (pv 1)) (q_str)) (gn:=gn_sub))
  (q_scons (q_if (q_tb (w_or (q_tcmp (o_eq (by rfl) hr.units) c_eq (q_var (pv 3)) (q_int) (nomark _)) (w_or1 (q_tcmp o_lt c_lt (q_ix (o_ix (by rfl) (by rfl) (u1 hr)) c_ix (q_var (pv 1)) (q_str) (fun _ _=>rfl)) (q_int) (nomark _))))) (q_scons (q_if (q_tcmp o_lt c_lt (q_fn C_law_take T.bnd_law_take hr (by rfl) (by rfl) (by rfl) tk_body (q_cons (q_var (pv 0)) (q_cons (q_int) (q_nil)))) (q_int) (nomark _)) (q_sone (q_ret (q_tup (q_cons (q_str) (q_cons (q_fn C_law_pick T.bnd_law_pick hr (by rfl) (by rfl) (by rfl) tk_body (q_cons (q_var (pv 0)) (q_cons (q_op (o_add (by rfl)) c_add (q_op (o_add (by rfl)) c_add (q_slice (by rfl) (q_var (pv 2)) (q_pyes (q_un o_neg c_neg (q_int))) (q_pno)) (q_slice (by rfl) (q_var (pv 2)) (q_pyes (q_un o_neg c_neg (q_int))) (q_pno))) (q_ix (o_ix (by rfl) (by rfl) (u1 hr)) c_ix (q_var (pv 1)) (q_str) (fun _ _=>rfl))) (q_nil)))) (q_cons (q_tup (q_nil)) (q_nil))))))) (q_snil))
  (q_sone (q_ret (q_tup (q_cons (q_str) (q_cons (q_fn C_law_digit T.bnd_law_digit hr (by rfl) (by rfl) (by rfl) tk_body (q_cons (q_var (pv 0)) (q_nil))) (q_cons (q_tup (q_nil)) (q_nil)))))))) (q_snil))
  (q_scons (q_par (i:=4) (j:=5) (by rfl) sc_law_grown.nd (by rfl) (by rfl) (by decide) (by rfl) (by rfl) (q_cons (q_fn C_law_take T.bnd_law_take hr (by rfl) (by rfl) (by rfl) tk_body (q_cons (q_var (pv 0)) (q_cons (q_int) (q_nil)))) (q_cons (q_fn C_law_pick T.bnd_law_pick hr (by rfl) (by rfl) (by rfl) tk_body (q_cons (q_var (pv 0)) (q_cons (q_lst (q_cons (q_int) (q_cons (q_int) (q_cons (q_int) (q_cons (q_int) (q_cons (q_int) (q_nil))))))) (q_nil)))) (q_nil))) (by rfl))
  (q_scons (q_if (q_tcmp o_lt c_lt (q_var (pv 4)) (q_int) (nomark _)) (q_scons (q_set (i:=6) sc_law_grown.nd (by rfl) (.inl (by rfl)) (q_ix (o_ix (by rfl) (by rfl) (u1 hr)) c_ix (q_lst (q_cons (q_str) (q_cons (q_str) (q_cons (q_str) (q_cons (q_str) (q_nil)))))) (q_var (pv 4)) (fun _ _=>rfl)))
  (q_sone (q_ret (q_tup (q_cons (q_var (pv 6)) (q_cons (q_str) (q_cons (q_callTy (o_tuple (by rfl)) c_tuple (by rfl) T.z_tuple b_tuple (q_cons (q_lc (own:= [("_law_k",7)]) (by rfl) sc_law_grown.nd (q_range1 (by rfl) T.z_range (q_cons (q_var (pv 5)) (q_nil))) (blkOk_by (own:= [("_law_k",7)]) (N:=N_law_grown) (sc:=defScope s_law_grown) (by decide +kernel)) (fun _ _ _ _ _=>q_gnameW (pg_name (i:=7) sc_law_grown.nd (by rfl) (.inl (by rfl))) (by decide)) (fun _ _ _ _ _=>q_tnil) (fun _ _ _ _ _=>q_fn C_law_grown T.bnd_law_grown hr (by rfl) (by rfl) (by rfl) tk_blk (q_cons (q_var (pv 0)) (q_cons (q_var (pv 1)) (q_cons (q_var (pv 2)) (q_cons (q_op o_sub c_sub (q_var (pv 3)) (q_int)) (q_nil))))))) (q_nil))) (q_nil)))))))) (q_snil))
  (q_scons (q_if (q_tcmp o_lt c_lt (q_var (pv 4)) (q_int) (nomark _)) (q_scons (q_set (i:=5) sc_law_grown.nd (by rfl) (.inl (by rfl)) (q_fn C_law_pick T.bnd_law_pick hr (by rfl) (by rfl) (by rfl) tk_body (q_cons (q_var (pv 0)) (q_cons (q_lst (q_cons (q_var (pv 5)) (q_cons (q_int) (q_cons (q_int) (q_cons (q_int) (q_cons (q_int) (q_nil))))))) (q_nil)))))
  (q_sone (q_ret (q_tup (q_cons (q_str) (q_cons (q_str) (q_cons (q_callTy (o_tuple (by rfl)) c_tuple (by rfl) T.z_tuple b_tuple (q_cons (q_lc (own:= [("_law_k",7)]) (by rfl) sc_law_grown.nd (q_range1 (by rfl) T.z_range (q_cons (q_var (pv 5)) (q_nil))) (blkOk_by (own:= [("_law_k",7)]) (N:=N_law_grown) (sc:=defScope s_law_grown) (by decide +kernel)) (fun _ _ _ _ _=>q_gnameW (pg_name (i:=7) sc_law_grown.nd (by rfl) (.inl (by rfl))) (by decide)) (fun _ _ _ _ _=>q_tnil) (fun _ _ _ _ _=>q_fn C_law_grown T.bnd_law_grown hr (by rfl) (by rfl) (by rfl) tk_blk (q_cons (q_var (pv 0)) (q_cons (q_var (pv 1)) (q_cons (q_var (pv 2)) (q_cons (q_op o_sub c_sub (q_var (pv 3)) (q_int)) (q_nil))))))) (q_nil))) (q_nil)))))))) (q_snil))
  (q_scons (q_if (q_tcmp o_lt c_lt (q_var (pv 4)) (q_int) (nomark _)) (q_scons (q_set (i:=6) sc_law_grown.nd (by rfl) (.inl (by rfl)) (q_ix (o_ix (by rfl) (by rfl) (u1 hr)) c_ix (q_lst (q_cons (q_str) (q_cons (q_str) (q_cons (q_str) (q_nil))))) (q_op o_sub c_sub (q_var (pv 4)) (q_int)) (fun _ _=>rfl)))
  (q_scons (q_par (i:=8) (j:=9) (by rfl) sc_law_grown.nd (by rfl) (by rfl) (by decide) (by rfl) (by rfl) (q_cons (q_fn C_law_pick T.bnd_law_pick hr (by rfl) (by rfl) (by rfl) tk_body (q_cons (q_var (pv 0)) (q_cons (q_ix (o_ix (by rfl) (by rfl) (u1 hr)) c_ix (q_var (pv 1)) (q_str) (fun _ _=>rfl)) (q_nil)))) (q_cons (q_fn C_law_grown T.bnd_law_grown hr (by rfl) (by rfl) (by rfl) tk_body (q_cons (q_var (pv 0)) (q_cons (q_var (pv 1)) (q_cons (q_var (pv 2)) (q_cons (q_op o_sub c_sub (q_var (pv 3)) (q_int)) (q_nil)))))) (q_nil))) (by rfl))
  (q_sone (q_ret (q_tup (q_cons (q_var (pv 6)) (q_cons (q_var (pv 8)) (q_cons (q_tup (q_cons (q_var (pv 9)) (q_cons (q_fn C_law_grown T.bnd_law_grown hr (by rfl) (by rfl) (by rfl) tk_body (q_cons (q_var (pv 0)) (q_cons (q_var (pv 1)) (q_cons (q_op (o_add (by rfl)) c_add (q_var (pv 2)) (q_lst (q_cons (q_var (pv 8)) (q_nil)))) (q_cons (q_op o_sub c_sub (q_var (pv 3)) (q_int)) (q_nil)))))) (q_nil)))) (q_nil))))))))) (q_snil))
  (q_scons (q_set (i:=6) sc_law_grown.nd (by rfl) (.inl (by rfl)) (q_ix (o_ix (by rfl) (by rfl) (u1 hr)) c_ix (q_lst (q_cons (q_str) (q_cons (q_fn C_law_pick T.bnd_law_pick hr (by rfl) (by rfl) (by rfl) tk_body (q_cons (q_var (pv 0)) (q_cons (q_lst (q_cons (q_str) (q_cons (q_str) (q_nil)))) (q_nil)))) (q_cons (q_str) (q_nil))))) (q_op o_sub c_sub (q_var (pv 4)) (q_int)) (fun _ _=>rfl)))
  (q_sone (q_ret (q_tup (q_cons (q_var (pv 6)) (q_cons (q_str) (q_cons (q_callTy (o_tuple (by rfl)) c_tuple (by rfl) T.z_tuple b_tuple (q_cons (q_lc (own:= [("_law_k",7)]) (by rfl) sc_law_grown.nd (q_range1 (by rfl) T.z_range (q_cons (q_op o_sub c_sub (q_var (pv 4)) (q_int)) (q_nil))) (blkOk_by (own:= [("_law_k",7)]) (N:=N_law_grown) (sc:=defScope s_law_grown) (by decide +kernel)) (fun _ _ _ _ _=>q_gnameW (pg_name (i:=7) sc_law_grown.nd (by rfl) (.inl (by rfl))) (by decide)) (fun _ _ _ _ _=>q_tnil) (fun _ _ _ _ _=>q_fn C_law_grown T.bnd_law_grown hr (by rfl) (by rfl) (by rfl) tk_blk (q_cons (q_var (pv 0)) (q_cons (q_var (pv 1)) (q_cons (q_var (pv 2)) (q_cons (q_op o_sub c_sub (q_var (pv 3)) (q_int)) (q_nil))))))) (q_nil))) (q_nil)))))))))))))
theorem b_law_code {P:Program} {K:PySem.W.Frag} {w:World} {mg:Str→Option Value} {base:Heap} {fa:Nat→Addr} {fd:Nat→FuncData} {F:Nat→FN} {k:Nat} (hM:∃o,base.get? sysModules=some o) (T:Txt K w mg fa fd) (C_law_called:Cal P w ⟨K,w,mg⟩ base k "_law_called" (fa 7) (fd 7) ["_law_hand_here","_law_many"] (F 7)) (C_law_grown:Cal P w ⟨K,w,mg⟩ base k "_law_grown" (fa 9) (fd 9) ["_law_hand_here","_law_pot","_law_scope","_law_level"] (F 9)) (C_law_take:Cal P w ⟨K,w,mg⟩ base k "_law_take" (fa 5) (fd 5) ["_law_hand_here","_law_many"] (F 5)) (cdv:Value) (A:Around) (outer:List Env) (s:Shared) (H:Hp) (E:XK)
 (hr:RoomG k (A.deeper (envOfC "_law_code" (defScope s_law_code) s.heap.objs.size (fa 10) cdv))):
 PSs (cxOf (L2.CX P w) P w K mg base N_law_code "_law_code" (defScope s_law_code) (fa 10) cdv A outer s H E) (defBody s_law_code) (tS ⟨K,w,mg⟩ (m_law_code F) (WE0 E)):=
 q_scons (q_set (i:=2) sc_law_code.nd (by rfl) (.inl (by rfl)) (q_fn C_law_called T.bnd_law_called hr (by rfl) (by rfl) (by rfl) tk_body (q_cons (q_var (pv 0)) (q_cons (q_op (o_add (by rfl)) c_add (q_int) (q_fn C_law_take T.bnd_law_take hr (by rfl) (by rfl) (by rfl) tk_body (q_cons (q_var (pv 0)) (q_cons (q_int) (q_nil))))) (q_nil)))))
  (q_sone (q_ret (q_fn C_law_grown T.bnd_law_grown hr (by rfl) (by rfl) (by rfl) tk_body (q_cons (q_var (pv 0)) (q_cons (q_dct (q_pcons (q_str) (q_var (pv 1)) (q_pcons (q_str) (q_var (pv 2)) (q_pnil))) rfl rfl (by simp) (by decide)) (q_cons (q_lst (q_nil)) (q_cons (q_op (o_add (by rfl)) c_add (q_int) (q_fn C_law_take T.bnd_law_take hr (by rfl) (by rfl) (by rfl) tk_body (q_cons (q_var (pv 0)) (q_cons (q_int) (q_nil))))) (q_nil))))))))
theorem b_law_spots {P:Program} {K:PySem.W.Frag} {w:World} {mg:Str→Option Value} {base:Heap} {fa:Nat→Addr} {fd:Nat→FuncData} {F:Nat→FN} {k:Nat} (hM:∃o,base.get? sysModules=some o) (T:Txt K w mg fa fd) (C_law_spots:Cal P w ⟨K,w,mg⟩ base k "_law_spots" (fa 11) (fd 11) ["_law_code_here"] (F 11)) (cdv:Value) (A:Around) (outer:List Env) (s:Shared) (H:Hp) (E:XK)
 (hr:RoomG k (A.deeper (envOfC "_law_spots" (defScope s_law_spots) s.heap.objs.size (fa 11) cdv))):
 PSs (cxOf (L2.CX P w) P w K mg base N_law_spots "_law_spots" (defScope s_law_spots) (fa 11) cdv A outer s H E) (defBody s_law_spots) (tS ⟨K,w,mg⟩ (m_law_spots F) (WE0 E)):=
 q_scons (q_set (i:=1) sc_law_spots.nd (by rfl) (.inl (by rfl)) (q_obj (q_cons (q_tup (q_nil)) (q_nil))))
  (q_scons (q_for po_body (by rfl) (q_enum (by rfl) (by rfl) T.z_enumerate (q_cons (q_ix (o_ix (by rfl) (by rfl) (u1 hr)) c_ix (q_var (pv 0)) (q_int) (fun _ _=>rfl)) (q_nil))) (q_gtup (by rfl) (by rfl) (q_gscons (pg_name (i:=2) sc_law_spots.nd (by rfl) (.inr (by rfl))) (q_gscons (pg_name (i:=3) sc_law_spots.nd (by rfl) (.inl (by rfl))) (q_gsnil)))) (q_sone (q_expr (q_bm (by rfl) PySem.F.plainAttrs_list PySem.F.slot_list_extend PySem.F.type_list_extend o_extend c_extend (q_var (pv 1)) (q_cons (q_lc (own:= [("_law_spot",4)]) (by rfl) sc_law_spots.nd (q_iter (by rfl) (q_fn C_law_spots T.bnd_law_spots hr (by rfl) (by rfl) (by rfl) tk_body (q_cons (q_var (pv 3)) (q_nil)))) (blkOk_by (own:= [("_law_spot",4)]) (N:=N_law_spots) (sc:=defScope s_law_spots) (by decide +kernel)) (fun _ _ _ _ _=>q_gnameW (pg_name (i:=4) sc_law_spots.nd (by rfl) (.inl (by rfl))) (by decide)) (fun _ _ _ _ _=>q_tnil) (fun _ _ _ _ _=>q_op (o_add (by rfl)) c_add (q_tup (q_cons (q_var (pv 2)) (q_nil))) (q_var (pv 4)))) (q_nil))))))
  (q_sone (q_ret (q_frz (q_var (pv 1))))))
theorem b_law_there {P:Program} {K:PySem.W.Frag} {w:World} {mg:Str→Option Value} {base:Heap} {fa:Nat→Addr} {fd:Nat→FuncData} {F:Nat→FN} {k:Nat} (hM:∃o,base.get? sysModules=some o) (T:Txt K w mg fa fd) (cdv:Value) (A:Around) (outer:List Env) (s:Shared) (H:Hp) (E:XK)
 (hr:RoomG k (A.deeper (envOfC "_law_there" (defScope s_law_there) s.heap.objs.size (fa 12) cdv))):
 PSs (cxOf (L2.CX P w) P w K mg base N_law_there "_law_there" (defScope s_law_there) (fa 12) cdv A outer s H E) (defBody s_law_there) (tS ⟨K,w,mg⟩ (m_law_there F) (WE0 E)):=
 q_scons (q_for po_body (by rfl) (q_iter (by rfl) (q_var (pv 1))) (q_gname (pg_name (i:=2) sc_law_there.nd (by rfl) (.inl (by rfl)))) (q_sone (q_set (i:=0) sc_law_there.nd (by rfl) (.inl (by rfl)) (q_ix (o_ix (by rfl) (by rfl) (u1 hr)) c_ix (q_ix (o_ix (by rfl) (by rfl) (u1 hr)) c_ix (q_var (pv 0)) (q_int) (fun _ _=>rfl)) (q_var (pv 2)) (fun _ _=>rfl)))))
  (q_sone (q_ret (q_var (pv 0))))
theorem b_law_hole {P:Program} {K:PySem.W.Frag} {w:World} {mg:Str→Option Value} {base:Heap} {fa:Nat→Addr} {fd:Nat→FuncData} {F:Nat→FN} {k:Nat} (hM:∃o,base.get? sysModules=some o) (T:Txt K w mg fa fd) (C_law_pick:Cal P w ⟨K,w,mg⟩ base k "_law_pick" (fa 6) (fd 6) ["_law_hand_here","_law_some"] (F 6)) (C_law_take:Cal P w ⟨K,w,mg⟩ base k "_law_take" (fa 5) (fd 5) ["_law_hand_here","_law_many"] (F 5)) (cdv:Value) (A:Around) (outer:List Env) (s:Shared) (H:Hp) (E:XK)
 (hr:RoomG k (A.deeper (envOfC "_law_hole" (defScope s_law_hole) s.heap.objs.size (fa 13) cdv))):
 PSs (cxOf (L2.CX P w) P w K mg base N_law_hole "_law_hole" (defScope s_law_hole) (fa 13) cdv A outer s H E) (defBody s_law_hole) (tS ⟨K,w,mg⟩ (m_law_hole F) (WE0 E)):=
 q_scons (q_setLcO (i:=3) (own:= [("_law_h",4),("_law_other",5)]) (by rfl) sc_law_hole.nd (by rfl) (by rfl) (sw_true (by rfl) (by rfl) (by rfl) (by decide +kernel)) (q_iterO (by rfl) (q_ix (o_ix (by rfl) (by rfl) (u1 hr)) c_ix (q_var (pv 1)) (q_str) (fun _ _=>rfl))) (blkOk_by (own:= [("_law_h",4),("_law_other",5)]) (N:=N_law_hole) (sc:=defScope s_law_hole) (by decide +kernel)) (fun _ _ _ _ _=>q_gtupW (by rfl) (by rfl) (q_gscW (pg_name (i:=4) sc_law_hole.nd (by rfl) (.inl (by rfl))) (q_gscW (pg_name (i:=5) sc_law_hole.nd (by rfl) (.inl (by rfl))) (q_gsnW)))) (fun _ _ _ _ _=>q_tone (q_tcmp (o_eq (by rfl) hr.units) c_eq (q_var (pv 5)) (q_var (pv 2)) (nomark _))) (fun _ _ _ _ _=>q_var (pv 4)))
  (q_scons (q_if (q_tb (w_and (q_tcmp (o_ne (by rfl) hr.units) c_ne (q_var (pv 3)) (q_lst (q_nil)) (nomark _)) (w_and1 (q_tcmp (o_eq (by rfl) hr.units) c_eq (q_fn C_law_take T.bnd_law_take hr (by rfl) (by rfl) (by rfl) tk_body (q_cons (q_var (pv 0)) (q_cons (q_int) (q_nil)))) (q_int) (nomark _))))) (q_sone (q_ret (q_tup (q_cons (q_var (pv 2)) (q_cons (q_fn C_law_pick T.bnd_law_pick hr (by rfl) (by rfl) (by rfl) tk_body (q_cons (q_var (pv 0)) (q_cons (q_var (pv 3)) (q_nil)))) (q_cons (q_tup (q_nil)) (q_nil))))))) (q_snil))
  (q_scons (q_expr (q_bm (by rfl) PySem.F.plainAttrs_list PySem.F.slot_list_append PySem.F.type_list_append o_append c_append (q_ix (o_ix (by rfl) (by rfl) (u1 hr)) c_ix (q_var (pv 1)) (q_str) (fun _ _=>rfl)) (q_cons (q_tup (q_cons (q_bm (by rfl) PySem.F.plainAttrs_list PySem.F.slot_list_pop PySem.F.type_list_pop o_pop c_pop (q_ix (o_ix (by rfl) (by rfl) (u1 hr)) c_ix (q_var (pv 1)) (q_str) (fun _ _=>rfl)) (q_cons (q_int) (q_nil))) (q_cons (q_var (pv 2)) (q_nil)))) (q_nil))))
  (q_sone (q_ret (q_tup (q_cons (q_var (pv 2)) (q_cons (q_ix (o_ix (by rfl) (by rfl) (u1 hr)) c_ix (q_ix (o_ix (by rfl) (by rfl) (u1 hr)) c_ix (q_ix (o_ix (by rfl) (by rfl) (u1 hr)) c_ix (q_var (pv 1)) (q_str) (fun _ _=>rfl)) (q_un o_neg c_neg (q_int)) (fun _ _=>rfl)) (q_int) (fun _ _=>rfl)) (q_cons (q_tup (q_nil)) (q_nil)))))))))
theorem b_law_holed {P:Program} {K:PySem.W.Frag} {w:World} {mg:Str→Option Value} {base:Heap} {fa:Nat→Addr} {fd:Nat→FuncData} {F:Nat→FN} {k:Nat} (hM:∃o,base.get? sysModules=some o) (T:Txt K w mg fa fd) (C_law_hole:Cal P w ⟨K,w,mg⟩ base k "_law_hole" (fa 13) (fd 13) ["_law_hand_here","_law_pot","_law_word"] (F 13)) (C_law_holed:Cal P w ⟨K,w,mg⟩ base k "_law_holed" (fa 14) (fd 14) ["_law_hand_here","_law_pot","_law_made","_law_names","_law_level"] (F 14)) (C_law_pick:Cal P w ⟨K,w,mg⟩ base k "_law_pick" (fa 6) (fd 6) ["_law_hand_here","_law_some"] (F 6)) (C_law_take:Cal P w ⟨K,w,mg⟩ base k "_law_take" (fa 5) (fd 5) ["_law_hand_here","_law_many"] (F 5)) (cdv:Value) (A:Around) (outer:List Env) (s:Shared) (H:Hp) (E:XK)
 (hr:RoomG k (A.deeper (envOfC "_law_holed" (defScope s_law_holed) s.heap.objs.size (fa 14) cdv))):
 PSs (cxOf (L2.CX P w) P w K mg base N_law_holed "_law_holed" (defScope s_law_holed) (fa 14) cdv A outer s H E) (defBody s_law_holed) (tS ⟨K,w,mg⟩ (m_law_holed F) (WE0 E)):=
 q_scons (q_asg (q_var (pv 2)) (q_gtup (by rfl) (by rfl) (q_gscons (pg_name (i:=5) sc_law_holed.nd (by rfl) (.inl (by rfl))) (q_gscons (pg_name (i:=6) sc_law_holed.nd (by rfl) (.inl (by rfl))) (q_gscons (pg_name (i:=7) sc_law_holed.nd (by rfl) (.inl (by rfl))) (q_gsnil))))) (gn:=gn_tup))
  (q_scons (q_if (q_tcmp (o_in (by rfl) (by rfl) (u65 hr)) c_in (q_var (pv 5)) (q_tup (q_cons (q_str) (q_cons (q_str) (q_nil)))) (by rfl)) (q_scons (q_if (q_tb (w_and (q_tcmp (o_in (by rfl) (by rfl) (u65 hr)) c_in (q_var (pv 6)) (q_var (pv 3)) (by rfl)) (w_and1 (q_tcmp o_gt c_gt (q_fn C_law_take T.bnd_law_take hr (by rfl) (by rfl) (by rfl) tk_body (q_cons (q_var (pv 0)) (q_cons (q_int) (q_nil)))) (q_int) (nomark _))))) (q_sone (q_ret (q_tup (q_cons (q_var (pv 5)) (q_cons (q_ix (o_ix (by rfl) (by rfl) (u1 hr)) c_ix (q_var (pv 3)) (q_var (pv 6)) (fun _ _=>rfl)) (q_cons (q_tup (q_nil)) (q_nil))))))) (q_snil))
  (q_scons (q_if (q_tb (w_or (q_tcmp (o_in (by rfl) (by rfl) (u65 hr)) c_in (q_var (pv 6)) (q_var (pv 3)) (by rfl)) (w_or1 (q_tcmp (o_eq (by rfl) hr.units) c_eq (q_fn C_law_take T.bnd_law_take hr (by rfl) (by rfl) (by rfl) tk_body (q_cons (q_var (pv 0)) (q_cons (q_int) (q_nil)))) (q_int) (nomark _))))) (q_sone (q_ret (q_fn C_law_hole T.bnd_law_hole hr (by rfl) (by rfl) (by rfl) tk_body (q_cons (q_var (pv 0)) (q_cons (q_var (pv 1)) (q_cons (q_fn C_law_pick T.bnd_law_pick hr (by rfl) (by rfl) (by rfl) tk_body (q_cons (q_var (pv 0)) (q_cons (q_lst (q_cons (q_ix (o_ix (by rfl) (by rfl) (u1 hr)) c_ix (q_dic (q_pcons (q_str) (q_str) (q_pcons (q_str) (q_str) (q_pnil))) rfl rfl (by simp) (by decide)) (q_var (pv 5)) (fun _ _=>rfl)) (q_cons (q_str) (q_nil)))) (q_nil)))) (q_nil))))))) (q_snil))
  (q_sone (q_ret (q_var (pv 2)))))) (q_snil))
  (q_scons (q_set (i:=8) sc_law_holed.nd (by rfl) (.inl (by rfl)) (q_callB (o_len (by rfl)) c_len (by rfl) T.z_len b_len (q_cons (q_var (pv 7)) (q_nil))))
  (q_scons (q_if (q_tcmp (o_in (by rfl) (by rfl) (u65 hr)) c_in (q_var (pv 5)) (q_tup (q_cons (q_str) (q_cons (q_str) (q_cons (q_str) (q_nil))))) (by rfl)) (q_sone (q_asg (q_op o_mul c_mul (q_ix (o_ix (by rfl) (by rfl) (u1 hr)) c_ix (q_var (pv 1)) (q_str) (fun _ _=>rfl)) (q_ix (o_ix (by rfl) (by rfl) (u1 hr)) c_ix (q_lst (q_cons (q_int) (q_cons (q_int) (q_cons (q_int) (q_cons (q_int) (q_cons (q_int) (q_nil))))))) (q_var (pv 8)) (fun _ _=>rfl))) (q_gsub (Wx:=WE0 E) (u1 hr) (q_var (pv 1)) (q_str)) (gn:=gn_sub))) (q_snil))
  (q_scons (q_if (q_tb (w_or (q_tcmp (o_eq (by rfl) hr.units) c_eq (q_var (pv 4)) (q_int) (nomark _)) (w_or (q_tcmp o_gt c_gt (q_ix (o_ix (by rfl) (by rfl) (u1 hr)) c_ix (q_var (pv 1)) (q_str) (fun _ _=>rfl)) (q_int) (nomark _)) (w_or1 (q_tcmp (o_eq (by rfl) hr.units) c_eq (q_fn C_law_take T.bnd_law_take hr (by rfl) (by rfl) (by rfl) tk_body (q_cons (q_var (pv 0)) (q_cons (q_int) (q_nil)))) (q_int) (nomark _)))))) (q_sone (q_ret (q_fn C_law_hole T.bnd_law_hole hr (by rfl) (by rfl) (by rfl) tk_body (q_cons (q_var (pv 0)) (q_cons (q_var (pv 1)) (q_cons (q_str) (q_nil))))))) (q_snil))
  (q_scons (q_if (q_tcmp (o_in (by rfl) (by rfl) (u65 hr)) c_in (q_var (pv 5)) (q_tup (q_cons (q_str) (q_cons (q_str) (q_nil)))) (by rfl)) (q_scons (q_set (i:=9) sc_law_holed.nd (by rfl) (.inl (by rfl)) (q_bm (by rfl) PySem.F.plainAttrs_list PySem.F.slot_list_pop PySem.F.type_list_pop o_pop c_pop (q_ix (o_ix (by rfl) (by rfl) (u1 hr)) c_ix (q_var (pv 1)) (q_str) (fun _ _=>rfl)) (q_cons (q_int) (q_nil))))
  (q_scons (q_set (i:=10) sc_law_holed.nd (by rfl) (.inl (by rfl)) (q_fn C_law_holed T.bnd_law_holed hr (by rfl) (by rfl) (by rfl) tk_body (q_cons (q_var (pv 0)) (q_cons (q_var (pv 1)) (q_cons (q_ix (o_ix (by rfl) (by rfl) (u1 hr)) c_ix (q_var (pv 7)) (q_int) (fun _ _=>rfl)) (q_cons (q_var (pv 3)) (q_cons (q_op o_sub c_sub (q_var (pv 4)) (q_int)) (q_nil))))))))
  (q_scons (q_set (i:=11) sc_law_holed.nd (by rfl) (.inl (by rfl)) (q_callTy (o_dictPV (by rfl) (by rfl)) c_dictPV (by rfl) T.z_dict b_dict (q_cons (q_op (o_add (by rfl)) c_add (q_items (by rfl) (q_var (pv 3)) (by rfl) T.z_list) (q_lst (q_cons (q_tup (q_cons (q_var (pv 6)) (q_cons (q_var (pv 9)) (q_nil)))) (q_nil)))) (q_nil))))
  (q_sone (q_ret (q_tup (q_cons (q_var (pv 5)) (q_cons (q_var (pv 9)) (q_cons (q_tup (q_cons (q_var (pv 10)) (q_cons (q_fn C_law_holed T.bnd_law_holed hr (by rfl) (by rfl) (by rfl) tk_body (q_cons (q_var (pv 0)) (q_cons (q_var (pv 1)) (q_cons (q_ix (o_ix (by rfl) (by rfl) (u1 hr)) c_ix (q_var (pv 7)) (q_int) (fun _ _=>rfl)) (q_cons (q_var (pv 11)) (q_cons (q_op o_sub c_sub (q_var (pv 4)) (q_int)) (q_nil))))))) (q_nil)))) (q_nil)))))))))) (q_snil))
  (q_scons (q_par (i:=12) (j:=13) (by rfl) sc_law_holed.nd (by rfl) (by rfl) (by decide) (by rfl) (by rfl) (q_cons (q_obj (q_nil)) (q_cons (q_fn C_law_take T.bnd_law_take hr (by rfl) (by rfl) (by rfl) tk_body (q_cons (q_var (pv 0)) (q_cons (q_op (o_add (by rfl)) c_add (q_var (pv 8)) (q_int)) (q_nil)))) (q_nil))) (by rfl))
  (q_scons (q_set (i:=14) sc_law_holed.nd (by rfl) (.inl (by rfl)) (q_op (o_add (by rfl)) c_add (q_var (pv 13)) (q_fn C_law_take T.bnd_law_take hr (by rfl) (by rfl) (by rfl) tk_body (q_cons (q_var (pv 0)) (q_cons (q_op o_sub c_sub (q_op (o_add (by rfl)) c_add (q_var (pv 8)) (q_int)) (q_var (pv 13))) (q_nil))))))
  (q_scons (q_set (i:=15) sc_law_holed.nd (by rfl) (.inl (by rfl)) (q_eand (q_cmp (o_in (by rfl) (by rfl) (u65 hr)) c_in (q_var (pv 5)) (q_tup (q_cons (q_str) (q_cons (q_str) (q_cons (q_str) (q_cons (q_str) (q_nil)))))) (by rfl)) (q_eone (q_cmp (o_eq (by rfl) hr.units) c_eq (q_fn C_law_take T.bnd_law_take hr (by rfl) (by rfl) (by rfl) tk_body (q_cons (q_var (pv 0)) (q_cons (q_int) (q_nil)))) (q_int) (nomark _)))))
  (q_scons (q_for po_body (by rfl) (q_range1 (by rfl) T.z_range (q_cons (q_op (o_add (by rfl)) c_add (q_var (pv 8)) (q_int)) (q_nil))) (q_gname (pg_name (i:=16) sc_law_holed.nd (by rfl) (.inl (by rfl)))) (q_scons (q_if (q_tb (w_and (q_truth (by rfl) (q_var (pv 15))) (w_and1 (q_tcmp (o_eq (by rfl) hr.units) c_eq (q_var (pv 16)) (q_var (pv 13)) (nomark _))))) (q_sone (q_expr (q_bm (by rfl) PySem.F.plainAttrs_list PySem.F.slot_list_append PySem.F.type_list_append o_append c_append (q_var (pv 12)) (q_cons (q_fn C_law_hole T.bnd_law_hole hr (by rfl) (by rfl) (by rfl) tk_body (q_cons (q_var (pv 0)) (q_cons (q_var (pv 1)) (q_cons (q_str) (q_nil))))) (q_nil))))) (q_snil))
  (q_sone (q_if (q_tb (w_and (q_tcmp o_lt c_lt (q_var (pv 16)) (q_var (pv 8)) (nomark _)) (w_and1 (q_tnot (q_tb (w_and (q_truth (by rfl) (q_var (pv 15))) (w_and1 (q_tchain o_le c_le o_lt c_lt (q_var (pv 13)) (q_var (pv 16)) (q_var (pv 14)))))))))) (q_sone (q_expr (q_bm (by rfl) PySem.F.plainAttrs_list PySem.F.slot_list_append PySem.F.type_list_append o_append c_append (q_var (pv 12)) (q_cons (q_fn C_law_holed T.bnd_law_holed hr (by rfl) (by rfl) (by rfl) tk_body (q_cons (q_var (pv 0)) (q_cons (q_var (pv 1)) (q_cons (q_ix (o_ix (by rfl) (by rfl) (u1 hr)) c_ix (q_var (pv 7)) (q_var (pv 16)) (fun _ _=>rfl)) (q_cons (q_var (pv 3)) (q_cons (q_op o_sub c_sub (q_var (pv 4)) (q_int)) (q_nil))))))) (q_nil))))) (q_snil)))))
  (q_sone (q_ret (q_tup (q_cons (q_var (pv 5)) (q_cons (q_str) (q_cons (q_callTy (o_tuple (by rfl)) c_tuple (by rfl) T.z_tuple b_tuple (q_cons (q_var (pv 12)) (q_nil))) (q_nil))))))))))))))))
theorem b_law_sought {P:Program} {K:PySem.W.Frag} {w:World} {mg:Str→Option Value} {base:Heap} {fa:Nat→Addr} {fd:Nat→FuncData} {F:Nat→FN} {k:Nat} (hM:∃o,base.get? sysModules=some o) (T:Txt K w mg fa fd) (C_law_holed:Cal P w ⟨K,w,mg⟩ base k "_law_holed" (fa 14) (fd 14) ["_law_hand_here","_law_pot","_law_made","_law_names","_law_level"] (F 14)) (C_law_nodes:Cal P w ⟨K,w,mg⟩ base k "_law_nodes" (fa 17) (fd 17) ["_law_made"] (F 17)) (C_law_pick:Cal P w ⟨K,w,mg⟩ base k "_law_pick" (fa 6) (fd 6) ["_law_hand_here","_law_some"] (F 6)) (C_law_spots:Cal P w ⟨K,w,mg⟩ base k "_law_spots" (fa 11) (fd 11) ["_law_code_here"] (F 11)) (C_law_take:Cal P w ⟨K,w,mg⟩ base k "_law_take" (fa 5) (fd 5) ["_law_hand_here","_law_many"] (F 5)) (C_law_there:Cal P w ⟨K,w,mg⟩ base k "_law_there" (fa 12) (fd 12) ["_law_code_here","_law_spot"] (F 12)) (cdv:Value) (A:Around) (outer:List Env) (s:Shared) (H:Hp) (E:XK)
 (hr:RoomG k (A.deeper (envOfC "_law_sought" (defScope s_law_sought) s.heap.objs.size (fa 15) cdv))):
 PSs (cxOf (L2.CX P w) P w K mg base N_law_sought "_law_sought" (defScope s_law_sought) (fa 15) cdv A outer s H E) (defBody s_law_sought) (tS ⟨K,w,mg⟩ (m_law_sought F) (WE0 E)):=
 q_scons (q_set (i:=2) sc_law_sought.nd (by rfl) (.inl (by rfl)) (q_fn C_law_there T.bnd_law_there hr (by rfl) (by rfl) (by rfl) tk_body (q_cons (q_var (pv 1)) (q_cons (q_fn C_law_pick T.bnd_law_pick hr (by rfl) (by rfl) (by rfl) tk_body (q_cons (q_var (pv 0)) (q_cons (q_fn C_law_spots T.bnd_law_spots hr (by rfl) (by rfl) (by rfl) tk_body (q_cons (q_var (pv 1)) (q_nil))) (q_nil)))) (q_nil)))))
  (q_scons (q_par (i:=3) (j:=4) (by rfl) sc_law_sought.nd (by rfl) (by rfl) (by decide) (by rfl) (by rfl) (q_cons (q_str) (q_cons (q_fn C_law_take T.bnd_law_take hr (by rfl) (by rfl) (by rfl) tk_body (q_cons (q_var (pv 0)) (q_cons (q_int) (q_nil)))) (q_nil))) (by rfl))
  (q_scons (q_set (i:=5) sc_law_sought.nd (by rfl) (.inl (by rfl)) (q_obj (q_nil)))
  (q_scons (q_for po_body (by rfl) (q_range1 (by rfl) T.z_range (q_cons (q_int) (q_nil))) (q_gname (pg_name (i:=6) sc_law_sought.nd (by rfl) (.inl (by rfl)))) (q_sone (q_expr (q_bm (by rfl) PySem.F.plainAttrs_list PySem.F.slot_list_append PySem.F.type_list_append o_append c_append (q_var (pv 5)) (q_cons (q_op (o_add (by rfl)) c_add (q_op (o_add (by rfl)) c_add (q_str) (q_ix (o_ix (by rfl) (by rfl) (u1 hr)) c_ix (q_var (pv 3)) (q_op o_mod c_mod (q_op (o_add (by rfl)) c_add (q_var (pv 4)) (q_op o_fdiv c_fdiv (q_var (pv 6)) (q_int))) (q_int)) (fun _ _=>rfl))) (q_ix (o_ix (by rfl) (by rfl) (u1 hr)) c_ix (q_var (pv 3)) (q_op o_mod c_mod (q_var (pv 6)) (q_int)) (fun _ _=>rfl))) (q_nil))))))
  (q_scons (q_set (i:=7) sc_law_sought.nd (by rfl) (.inl (by rfl)) (q_fn C_law_holed T.bnd_law_holed hr (by rfl) (by rfl) (by rfl) tk_body (q_cons (q_var (pv 0)) (q_cons (q_dct (q_pcons (q_str) (q_int) (q_pcons (q_str) (q_obj (q_nil)) (q_pcons (q_str) (q_var (pv 5)) (q_pnil)))) rfl rfl (by simp) (by decide)) (q_cons (q_var (pv 2)) (q_cons (q_dic0) (q_cons (q_int) (q_nil))))))))
  (q_sone (q_ret (q_ifExp (q_tcmp o_le c_le (q_callB (o_len (by rfl)) c_len (by rfl) T.z_len b_len (q_cons (q_fn C_law_nodes T.bnd_law_nodes hr (by rfl) (by rfl) (by rfl) tk_body (q_cons (q_var (pv 7)) (q_nil))) (q_nil))) (q_int) (nomark _)) (q_var (pv 7)) (q_tup (q_cons (q_str) (q_cons (q_ix (o_ix (by rfl) (by rfl) (u1 hr)) c_ix (q_var (pv 5)) (q_un o_neg c_neg (q_int)) (fun _ _=>rfl)) (q_cons (q_tup (q_nil)) (q_nil))))))))))))
theorem b_law_deep {P:Program} {K:PySem.W.Frag} {w:World} {mg:Str→Option Value} {base:Heap} {fa:Nat→Addr} {fd:Nat→FuncData} {F:Nat→FN} {k:Nat} (hM:∃o,base.get? sysModules=some o) (T:Txt K w mg fa fd) (C_law_deep:Cal P w ⟨K,w,mg⟩ base k "_law_deep" (fa 16) (fd 16) ["_law_made"] (F 16)) (cdv:Value) (A:Around) (outer:List Env) (s:Shared) (H:Hp) (E:XK)
 (hr:RoomG k (A.deeper (envOfC "_law_deep" (defScope s_law_deep) s.heap.objs.size (fa 16) cdv))):
 PSs (cxOf (L2.CX P w) P w K mg base N_law_deep "_law_deep" (defScope s_law_deep) (fa 16) cdv A outer s H E) (defBody s_law_deep) (tS ⟨K,w,mg⟩ (m_law_deep F) (WE0 E)):=
 q_sone (q_ret (q_op (o_add (by rfl)) c_add (q_int) (q_callB (o_max (by rfl)) c_max (by rfl) T.z_max b_max (q_cons (q_op (o_add (by rfl)) c_add (q_lst (q_cons (q_int) (q_nil))) (q_lc (own:= [("_law_part",1)]) (by rfl) sc_law_deep.nd (q_iter (by rfl) (q_ix (o_ix (by rfl) (by rfl) (u1 hr)) c_ix (q_var (pv 0)) (q_int) (fun _ _=>rfl))) (blkOk_by (own:= [("_law_part",1)]) (N:=N_law_deep) (sc:=defScope s_law_deep) (by decide +kernel)) (fun _ _ _ _ _=>q_gnameW (pg_name (i:=1) sc_law_deep.nd (by rfl) (.inl (by rfl))) (by decide)) (fun _ _ _ _ _=>q_tnil) (fun _ _ _ _ _=>q_fn C_law_deep T.bnd_law_deep hr (by rfl) (by rfl) (by rfl) tk_blk (q_cons (q_var (pv 1)) (q_nil))))) (q_nil)))))
theorem b_law_nodes {P:Program} {K:PySem.W.Frag} {w:World} {mg:Str→Option Value} {base:Heap} {fa:Nat→Addr} {fd:Nat→FuncData} {F:Nat→FN} {k:Nat} (hM:∃o,base.get? sysModules=some o) (T:Txt K w mg fa fd) (C_law_nodes:Cal P w ⟨K,w,mg⟩ base k "_law_nodes" (fa 17) (fd 17) ["_law_made"] (F 17)) (cdv:Value) (A:Around) (outer:List Env) (s:Shared) (H:Hp) (E:XK)
 (hr:RoomG k (A.deeper (envOfC "_law_nodes" (defScope s_law_nodes) s.heap.objs.size (fa 17) cdv))):
 PSs (cxOf (L2.CX P w) P w K mg base N_law_nodes "_law_nodes" (defScope s_law_nodes) (fa 17) cdv A outer s H E) (defBody s_law_nodes) (tS ⟨K,w,mg⟩ (m_law_nodes F) (WE0 E)):=
 q_scons (q_set (i:=1) sc_law_nodes.nd (by rfl) (.inl (by rfl)) (q_obj (q_cons (q_var (pv 0)) (q_nil))))
  (q_scons (q_for po_body (by rfl) (q_iter (by rfl) (q_ix (o_ix (by rfl) (by rfl) (u1 hr)) c_ix (q_var (pv 0)) (q_int) (fun _ _=>rfl))) (q_gname (pg_name (i:=2) sc_law_nodes.nd (by rfl) (.inl (by rfl)))) (q_sone (q_expr (q_bm (by rfl) PySem.F.plainAttrs_list PySem.F.slot_list_extend PySem.F.type_list_extend o_extend c_extend (q_var (pv 1)) (q_cons (q_fn C_law_nodes T.bnd_law_nodes hr (by rfl) (by rfl) (by rfl) tk_body (q_cons (q_var (pv 2)) (q_nil))) (q_nil))))))
  (q_sone (q_ret (q_frz (q_var (pv 1))))))
theorem b_law_names_in {P:Program} {K:PySem.W.Frag} {w:World} {mg:Str→Option Value} {base:Heap} {fa:Nat→Addr} {fd:Nat→FuncData} {F:Nat→FN} {k:Nat} (hM:∃o,base.get? sysModules=some o) (T:Txt K w mg fa fd) (C_law_nodes:Cal P w ⟨K,w,mg⟩ base k "_law_nodes" (fa 17) (fd 17) ["_law_made"] (F 17)) (cdv:Value) (A:Around) (outer:List Env) (s:Shared) (H:Hp) (E:XK)
 (hr:RoomG k (A.deeper (envOfC "_law_names_in" (defScope s_law_names_in) s.heap.objs.size (fa 18) cdv))):
 PSs (cxOf (L2.CX P w) P w K mg base N_law_names_in "_law_names_in" (defScope s_law_names_in) (fa 18) cdv A outer s H E) (defBody s_law_names_in) (tS ⟨K,w,mg⟩ (m_law_names_in F) (WE0 E)):=
 q_sone (q_ret (q_sortSet (by rfl) (u65 hr) (by rfl) (q_lc (own:= [("_law_node",1)]) (by rfl) sc_law_names_in.nd (q_iter (by rfl) (q_fn C_law_nodes T.bnd_law_nodes hr (by rfl) (by rfl) (by rfl) tk_body (q_cons (q_var (pv 0)) (q_nil)))) (blkOk_by (own:= [("_law_node",1)]) (N:=N_law_names_in) (sc:=defScope s_law_names_in) (by decide +kernel)) (fun _ _ _ _ _=>q_gnameW (pg_name (i:=1) sc_law_names_in.nd (by rfl) (.inl (by rfl))) (by decide)) (fun _ _ _ _ _=>q_tone (q_tcmp (o_in (by rfl) (by rfl) (u65 hr)) c_in (q_ix (o_ix (by rfl) (by rfl) (u1 hr)) c_ix (q_var (pv 1)) (q_int) (fun _ _=>rfl)) (q_tup (q_cons (q_str) (q_cons (q_str) (q_cons (q_str) (q_nil))))) (by rfl))) (fun _ _ _ _ _=>q_ix (o_ix (by rfl) (by rfl) (u1 hr)) c_ix (q_var (pv 1)) (q_int) (fun _ _=>rfl))) (by rfl) T.z_sorted (by rfl) T.z_set))
theorem b_law_leaf_put {P:Program} {K:PySem.W.Frag} {w:World} {mg:Str→Option Value} {base:Heap} {fa:Nat→Addr} {fd:Nat→FuncData} {F:Nat→FN} {k:Nat} (hM:∃o,base.get? sysModules=some o) (T:Txt K w mg fa fd) (C_law_digit:Cal P w ⟨K,w,mg⟩ base k "_law_digit" (fa 8) (fd 8) ["_law_hand_here"] (F 8)) (C_law_pick:Cal P w ⟨K,w,mg⟩ base k "_law_pick" (fa 6) (fd 6) ["_law_hand_here","_law_some"] (F 6)) (C_law_take:Cal P w ⟨K,w,mg⟩ base k "_law_take" (fa 5) (fd 5) ["_law_hand_here","_law_many"] (F 5)) (cdv:Value) (A:Around) (outer:List Env) (s:Shared) (H:Hp) (E:XK)
 (hr:RoomG k (A.deeper (envOfC "_law_leaf_put" (defScope s_law_leaf_put) s.heap.objs.size (fa 19) cdv))):
 PSs (cxOf (L2.CX P w) P w K mg base N_law_leaf_put "_law_leaf_put" (defScope s_law_leaf_put) (fa 19) cdv A outer s H E) (defBody s_law_leaf_put) (tS ⟨K,w,mg⟩ (m_law_leaf_put F) (WE0 E)):=
 q_scons (q_par (i:=3) (j:=4) (by rfl) sc_law_leaf_put.nd (by rfl) (by rfl) (by decide) (by rfl) (by rfl) (q_cons (q_fn C_law_take T.bnd_law_take hr (by rfl) (by rfl) (by rfl) tk_body (q_cons (q_var (pv 0)) (q_cons (q_int) (q_nil)))) (q_cons (q_lc (own:= [("_law_hole_here",5)]) (by rfl) sc_law_leaf_put.nd (q_iter (by rfl) (q_ix (o_ix (by rfl) (by rfl) (u1 hr)) c_ix (q_var (pv 1)) (q_str) (fun _ _=>rfl))) (blkOk_by (own:= [("_law_hole_here",5)]) (N:=N_law_leaf_put) (sc:=defScope s_law_leaf_put) (by decide +kernel)) (fun _ _ _ _ _=>q_gnameW (pg_name (i:=5) sc_law_leaf_put.nd (by rfl) (.inl (by rfl))) (by decide)) (fun _ _ _ _ _=>q_tone (q_tcmp (o_ne (by rfl) hr.units) c_ne (q_ix (o_ix (by rfl) (by rfl) (u1 hr)) c_ix (q_var (pv 5)) (q_int) (fun _ _=>rfl)) (q_str) (nomark _))) (fun _ _ _ _ _=>q_var (pv 5))) (q_nil))) (by rfl))
  (q_scons (q_if (q_tb (w_and (q_tcmp (o_ne (by rfl) hr.units) c_ne (q_var (pv 4)) (q_lst (q_nil)) (nomark _)) (w_and1 (q_tcmp o_lt c_lt (q_var (pv 3)) (q_int) (nomark _))))) (q_sone (q_ret (q_fn C_law_pick T.bnd_law_pick hr (by rfl) (by rfl) (by rfl) tk_body (q_cons (q_var (pv 0)) (q_cons (q_var (pv 4)) (q_nil)))))) (q_snil))
  (q_scons (q_if (q_tcmp o_lt c_lt (q_var (pv 3)) (q_int) (nomark _)) (q_sone (q_ret (q_tup (q_cons (q_str) (q_cons (q_fn C_law_pick T.bnd_law_pick hr (by rfl) (by rfl) (by rfl) tk_body (q_cons (q_var (pv 0)) (q_cons (q_op (o_add (by rfl)) c_add (q_op (o_add (by rfl)) c_add (q_slice (by rfl) (q_var (pv 2)) (q_pyes (q_un o_neg c_neg (q_int))) (q_pno)) (q_slice (by rfl) (q_var (pv 2)) (q_pyes (q_un o_neg c_neg (q_int))) (q_pno))) (q_ix (o_ix (by rfl) (by rfl) (u1 hr)) c_ix (q_var (pv 1)) (q_str) (fun _ _=>rfl))) (q_nil)))) (q_cons (q_tup (q_nil)) (q_nil))))))) (q_snil))
  (q_sone (q_ret (q_tup (q_cons (q_str) (q_cons (q_fn C_law_digit T.bnd_law_digit hr (by rfl) (by rfl) (by rfl) tk_body (q_cons (q_var (pv 0)) (q_nil))) (q_cons (q_tup (q_nil)) (q_nil)))))))))
theorem b_law_new {P:Program} {K:PySem.W.Frag} {w:World} {mg:Str→Option Value} {base:Heap} {fa:Nat→Addr} {fd:Nat→FuncData} {F:Nat→FN} {k:Nat} (hM:∃o,base.get? sysModules=some o) (T:Txt K w mg fa fd) (C_law_leaf_put:Cal P w ⟨K,w,mg⟩ base k "_law_leaf_put" (fa 19) (fd 19) ["_law_hand_here","_law_pot","_law_scope"] (F 19)) (C_law_new:Cal P w ⟨K,w,mg⟩ base k "_law_new" (fa 20) (fd 20) ["_law_hand_here","_law_pot","_law_scope","_law_level"] (F 20)) (C_law_pick:Cal P w ⟨K,w,mg⟩ base k "_law_pick" (fa 6) (fd 6) ["_law_hand_here","_law_some"] (F 6)) (C_law_take:Cal P w ⟨K,w,mg⟩ base k "_law_take" (fa 5) (fd 5) ["_law_hand_here","_law_many"] (F 5)) (cdv:Value) (A:Around) (outer:List Env) (s:Shared) (H:Hp) (E:XK)
 (hr:RoomG k (A.deeper (envOfC "_law_new" (defScope s_law_new) s.heap.objs.size (fa 20) cdv))):
 PSs (cxOf (L2.CX P w) P w K mg base N_law_new "_law_new" (defScope s_law_new) (fa 20) cdv A outer s H E) (defBody s_law_new) (tS ⟨K,w,mg⟩ (m_law_new F) (WE0 E)):=
 q_scons (q_asg (q_op o_sub c_sub (q_ix (o_ix (by rfl) (by rfl) (u1 hr)) c_ix (q_var (pv 1)) (q_str) (fun _ _=>rfl)) (q_int)) (q_gsub (Wx:=WE0 E) (u1 hr) (q_var (pv 1)) (q_str)) (gn:=gn_sub))
  (q_scons (q_set (i:=4) sc_law_new.nd (by rfl) (.inl (by rfl)) (q_fn C_law_take T.bnd_law_take hr (by rfl) (by rfl) (by rfl) tk_body (q_cons (q_var (pv 0)) (q_cons (q_int) (q_nil)))))
  (q_scons (q_if (q_tb (w_or (q_tcmp (o_eq (by rfl) hr.units) c_eq (q_var (pv 3)) (q_int) (nomark _)) (w_or (q_tcmp o_lt c_lt (q_ix (o_ix (by rfl) (by rfl) (u1 hr)) c_ix (q_var (pv 1)) (q_str) (fun _ _=>rfl)) (q_int) (nomark _)) (w_or1 (q_tcmp o_lt c_lt (q_var (pv 4)) (q_int) (nomark _)))))) (q_sone (q_ret (q_fn C_law_leaf_put T.bnd_law_leaf_put hr (by rfl) (by rfl) (by rfl) tk_body (q_cons (q_var (pv 0)) (q_cons (q_var (pv 1)) (q_cons (q_var (pv 2)) (q_nil))))))) (q_snil))
  (q_scons (q_if (q_tcmp o_lt c_lt (q_var (pv 4)) (q_int) (nomark _)) (q_scons (q_setLcN (i:=5) (own:= [("_law_k",6)]) (by rfl) sc_law_new.nd (by rfl) (by rfl) (sw_true (by rfl) (by rfl) (by rfl) (by decide +kernel)) (q_range1 (by rfl) T.z_range (q_cons (q_op (o_add (by rfl)) c_add (q_int) (q_fn C_law_take T.bnd_law_take hr (by rfl) (by rfl) (by rfl) tk_body (q_cons (q_var (pv 0)) (q_cons (q_int) (q_nil))))) (q_nil))) (blkOk_by (own:= [("_law_k",6)]) (N:=N_law_new) (sc:=defScope s_law_new) (by decide +kernel)) (fun _ _ _ _ _=>q_gnameW (pg_name (i:=6) sc_law_new.nd (by rfl) (.inl (by rfl))) (by decide)) (fun _ _ _ _ _=>q_tnil) (fun _ _ _ _ _=>q_fn C_law_new T.bnd_law_new hr (by rfl) (by rfl) (by rfl) tk_blk (q_cons (q_var (pv 0)) (q_cons (q_var (pv 1)) (q_cons (q_var (pv 2)) (q_cons (q_op o_sub c_sub (q_var (pv 3)) (q_int)) (q_nil)))))))
  (q_scons (q_setLc (i:=7) (own:= [("_law_hole_here",8)]) (by rfl) sc_law_new.nd (by rfl) (by rfl) (sw_true (by rfl) (by rfl) (by rfl) (by decide +kernel)) (q_iter (by rfl) (q_ix (o_ix (by rfl) (by rfl) (u1 hr)) c_ix (q_var (pv 1)) (q_str) (fun _ _=>rfl))) (blkOk_by (own:= [("_law_hole_here",8)]) (N:=N_law_new) (sc:=defScope s_law_new) (by decide +kernel)) (fun _ _ _ _ _=>q_gnameW (pg_name (i:=8) sc_law_new.nd (by rfl) (.inl (by rfl))) (by decide)) (fun _ _ _ _ _=>q_tone (q_tcmp (o_eq (by rfl) hr.units) c_eq (q_ix (o_ix (by rfl) (by rfl) (u1 hr)) c_ix (q_var (pv 8)) (q_int) (fun _ _=>rfl)) (q_str) (nomark _))) (fun _ _ _ _ _=>q_var (pv 8)))
  (q_scons (q_for po_body (by rfl) (q_range1 (by rfl) T.z_range (q_cons (q_op o_mul c_mul (q_fn C_law_take T.bnd_law_take hr (by rfl) (by rfl) (by rfl) tk_body (q_cons (q_var (pv 0)) (q_cons (q_int) (q_nil)))) (q_callTy o_int c_int (by rfl) T.z_int b_int (q_cons (q_cmp (o_ne0 hr.units) c_ne0 (q_var (pv 7)) (q_lst (q_nil)) (nomark _)) (q_nil)))) (q_nil))) (q_gname (pg_name (i:=9) sc_law_new.nd (by rfl) (.inl (by rfl)))) (q_sone (q_expr (q_bm (by rfl) PySem.F.plainAttrs_list PySem.F.slot_list_insert PySem.F.type_list_insert o_insert c_insert (q_var (pv 5)) (q_cons (q_fn C_law_take T.bnd_law_take hr (by rfl) (by rfl) (by rfl) tk_body (q_cons (q_var (pv 0)) (q_cons (q_op (o_add (by rfl)) c_add (q_callB (o_len (by rfl)) c_len (by rfl) T.z_len b_len (q_cons (q_var (pv 5)) (q_nil))) (q_int)) (q_nil)))) (q_cons (q_fn C_law_pick T.bnd_law_pick hr (by rfl) (by rfl) (by rfl) tk_body (q_cons (q_var (pv 0)) (q_cons (q_var (pv 7)) (q_nil)))) (q_nil)))))))
  (q_sone (q_ret (q_tup (q_cons (q_fn C_law_pick T.bnd_law_pick hr (by rfl) (by rfl) (by rfl) tk_body (q_cons (q_var (pv 0)) (q_cons (q_lst (q_cons (q_str) (q_cons (q_str) (q_cons (q_str) (q_cons (q_str) (q_cons (q_str) (q_nil))))))) (q_nil)))) (q_cons (q_str) (q_cons (q_callTy (o_tuple (by rfl)) c_tuple (by rfl) T.z_tuple b_tuple (q_cons (q_var (pv 5)) (q_nil))) (q_nil)))))))))) (q_snil))
  (q_scons (q_if (q_tb (w_and (q_tcmp o_lt c_lt (q_var (pv 4)) (q_int) (nomark _)) (w_and1 (q_tcmp (o_ne0 hr.units) c_ne0 (q_ix (o_ix (by rfl) (by rfl) (u1 hr)) c_ix (q_var (pv 1)) (q_str) (fun _ _=>rfl)) (q_lst (q_nil)) (nomark _))))) (q_scons (q_set (i:=10) sc_law_new.nd (by rfl) (.inl (by rfl)) (q_bm (by rfl) PySem.F.plainAttrs_list PySem.F.slot_list_pop PySem.F.type_list_pop o_pop c_pop (q_ix (o_ix (by rfl) (by rfl) (u1 hr)) c_ix (q_var (pv 1)) (q_str) (fun _ _=>rfl)) (q_cons (q_fn C_law_take T.bnd_law_take hr (by rfl) (by rfl) (by rfl) tk_body (q_cons (q_var (pv 0)) (q_cons (q_callB (o_len (by rfl)) c_len (by rfl) T.z_len b_len (q_cons (q_ix (o_ix (by rfl) (by rfl) (u1 hr)) c_ix (q_var (pv 1)) (q_str) (fun _ _=>rfl)) (q_nil))) (q_nil)))) (q_nil))))
  (q_scons (q_set (i:=11) sc_law_new.nd (by rfl) (.inl (by rfl)) (q_fn C_law_new T.bnd_law_new hr (by rfl) (by rfl) (by rfl) tk_body (q_cons (q_var (pv 0)) (q_cons (q_var (pv 1)) (q_cons (q_var (pv 2)) (q_cons (q_op o_sub c_sub (q_var (pv 3)) (q_int)) (q_nil)))))))
  (q_sone (q_ret (q_tup (q_cons (q_fn C_law_pick T.bnd_law_pick hr (by rfl) (by rfl) (by rfl) tk_body (q_cons (q_var (pv 0)) (q_cons (q_lst (q_cons (q_str) (q_cons (q_str) (q_nil)))) (q_nil)))) (q_cons (q_var (pv 10)) (q_cons (q_tup (q_cons (q_var (pv 11)) (q_cons (q_fn C_law_new T.bnd_law_new hr (by rfl) (by rfl) (by rfl) tk_body (q_cons (q_var (pv 0)) (q_cons (q_var (pv 1)) (q_cons (q_op (o_add (by rfl)) c_add (q_var (pv 2)) (q_lst (q_cons (q_var (pv 10)) (q_nil)))) (q_cons (q_op o_sub c_sub (q_var (pv 3)) (q_int)) (q_nil)))))) (q_nil)))) (q_nil))))))))) (q_snil))
  (q_scons (q_set (i:=12) sc_law_new.nd (by rfl) (.inl (by rfl)) (q_op (o_add (by rfl)) c_add (q_int) (q_fn C_law_take T.bnd_law_take hr (by rfl) (by rfl) (by rfl) tk_body (q_cons (q_var (pv 0)) (q_cons (q_int) (q_nil))))))
  (q_scons (q_set (i:=13) sc_law_new.nd (by rfl) (.inl (by rfl)) (q_ix (o_ix (by rfl) (by rfl) (u1 hr)) c_ix (q_lst (q_cons (q_str) (q_cons (q_str) (q_cons (q_str) (q_nil))))) (q_op o_sub c_sub (q_var (pv 12)) (q_int)) (fun _ _=>rfl)))
  (q_sone (q_ret (q_tup (q_cons (q_var (pv 13)) (q_cons (q_str) (q_cons (q_callTy (o_tuple (by rfl)) c_tuple (by rfl) T.z_tuple b_tuple (q_cons (q_lc (own:= [("_law_k",6)]) (by rfl) sc_law_new.nd (q_range1 (by rfl) T.z_range (q_cons (q_var (pv 12)) (q_nil))) (blkOk_by (own:= [("_law_k",6)]) (N:=N_law_new) (sc:=defScope s_law_new) (by decide +kernel)) (fun _ _ _ _ _=>q_gnameW (pg_name (i:=6) sc_law_new.nd (by rfl) (.inl (by rfl))) (by decide)) (fun _ _ _ _ _=>q_tnil) (fun _ _ _ _ _=>q_fn C_law_new T.bnd_law_new hr (by rfl) (by rfl) (by rfl) tk_blk (q_cons (q_var (pv 0)) (q_cons (q_var (pv 1)) (q_cons (q_var (pv 2)) (q_cons (q_op o_sub c_sub (q_var (pv 3)) (q_int)) (q_nil))))))) (q_nil))) (q_nil)))))))))))))
theorem b_law_about {P:Program} {K:PySem.W.Frag} {w:World} {mg:Str→Option Value} {base:Heap} {fa:Nat→Addr} {fd:Nat→FuncData} {F:Nat→FN} {k:Nat} (hM:∃o,base.get? sysModules=some o) (T:Txt K w mg fa fd) (C_law_about:Cal P w ⟨K,w,mg⟩ base k "_law_about" (fa 21) (fd 21) ["_law_hand_here","_law_pot","_law_made","_law_scope"] (F 21)) (C_law_new:Cal P w ⟨K,w,mg⟩ base k "_law_new" (fa 20) (fd 20) ["_law_hand_here","_law_pot","_law_scope","_law_level"] (F 20)) (C_law_take:Cal P w ⟨K,w,mg⟩ base k "_law_take" (fa 5) (fd 5) ["_law_hand_here","_law_many"] (F 5)) (cdv:Value) (A:Around) (outer:List Env) (s:Shared) (H:Hp) (E:XK)
 (hr:RoomG k (A.deeper (envOfC "_law_about" (defScope s_law_about) s.heap.objs.size (fa 21) cdv))):
 PSs (cxOf (L2.CX P w) P w K mg base N_law_about "_law_about" (defScope s_law_about) (fa 21) cdv A outer s H E) (defBody s_law_about) (tS ⟨K,w,mg⟩ (m_law_about F) (WE0 E)):=
 q_scons (q_asg (q_var (pv 2)) (q_gtup (by rfl) (by rfl) (q_gscons (pg_name (i:=4) sc_law_about.nd (by rfl) (.inl (by rfl))) (q_gscons (pg_name (i:=5) sc_law_about.nd (by rfl) (.inl (by rfl))) (q_gscons (pg_name (i:=6) sc_law_about.nd (by rfl) (.inl (by rfl))) (q_gsnil))))) (gn:=gn_tup))
  (q_scons (q_if (q_tb (w_or (q_tb (w_and (q_tcmp (o_ne (by rfl) hr.units) c_ne (q_var (pv 4)) (q_str) (nomark _)) (w_and1 (q_tcmp (o_eq (by rfl) hr.units) c_eq (q_fn C_law_take T.bnd_law_take hr (by rfl) (by rfl) (by rfl) tk_body (q_cons (q_var (pv 0)) (q_cons (q_int) (q_nil)))) (q_int) (nomark _))))) (w_or1 (q_tb (w_and (q_tcmp (o_in (by rfl) (by rfl) (u65 hr)) c_in (q_var (pv 4)) (q_tup (q_cons (q_str) (q_cons (q_str) (q_nil)))) (by rfl)) (w_and1 (q_tcmp (o_notIn (by rfl) (by rfl) (u65 hr)) c_notIn (q_var (pv 5)) (q_ix (o_ix (by rfl) (by rfl) (u1 hr)) c_ix (q_var (pv 1)) (q_str) (fun _ _=>rfl)) (by rfl)))))))) (q_sone (q_ret (q_fn C_law_new T.bnd_law_new hr (by rfl) (by rfl) (by rfl) tk_body (q_cons (q_var (pv 0)) (q_cons (q_var (pv 1)) (q_cons (q_var (pv 3)) (q_cons (q_int) (q_nil)))))))) (q_snil))
  (q_scons (q_if (q_tcmp (o_in (by rfl) (by rfl) (u65 hr)) c_in (q_var (pv 4)) (q_tup (q_cons (q_str) (q_cons (q_str) (q_nil)))) (by rfl)) (q_scons (q_expr (q_bm (by rfl) PySem.F.plainAttrs_list PySem.F.slot_list_remove PySem.F.type_list_remove (o_remove (by rfl) (u66 hr)) c_remove (q_ix (o_ix (by rfl) (by rfl) (u1 hr)) c_ix (q_var (pv 1)) (q_str) (fun _ _=>rfl)) (q_cons (q_var (pv 5)) (q_nil))))
  (q_scons (q_set (i:=7) sc_law_about.nd (by rfl) (.inl (by rfl)) (q_ifExp (q_tcmp (o_eq (by rfl) hr.units) c_eq (q_fn C_law_take T.bnd_law_take hr (by rfl) (by rfl) (by rfl) tk_body (q_cons (q_var (pv 0)) (q_cons (q_int) (q_nil)))) (q_int) (nomark _)) (q_backT (by rfl) (q_var (pv 6))) (q_var (pv 6))))
  (q_scons (q_set (i:=8) sc_law_about.nd (by rfl) (.inl (by rfl)) (q_fn C_law_about T.bnd_law_about hr (by rfl) (by rfl) (by rfl) tk_body (q_cons (q_var (pv 0)) (q_cons (q_var (pv 1)) (q_cons (q_ix (o_ix (by rfl) (by rfl) (u1 hr)) c_ix (q_var (pv 7)) (q_int) (fun _ _=>rfl)) (q_cons (q_var (pv 3)) (q_nil)))))))
  (q_sone (q_ret (q_tup (q_cons (q_var (pv 4)) (q_cons (q_var (pv 5)) (q_cons (q_tup (q_cons (q_var (pv 8)) (q_cons (q_fn C_law_about T.bnd_law_about hr (by rfl) (by rfl) (by rfl) tk_body (q_cons (q_var (pv 0)) (q_cons (q_var (pv 1)) (q_cons (q_ix (o_ix (by rfl) (by rfl) (u1 hr)) c_ix (q_var (pv 7)) (q_int) (fun _ _=>rfl)) (q_cons (q_op (o_add (by rfl)) c_add (q_var (pv 3)) (q_lst (q_cons (q_var (pv 5)) (q_nil)))) (q_nil)))))) (q_nil)))) (q_nil)))))))))) (q_snil))
  (q_scons (q_if (q_tb (w_and (q_tcmp (o_in (by rfl) (by rfl) (u65 hr)) c_in (q_var (pv 4)) (q_tup (q_cons (q_str) (q_cons (q_str) (q_cons (q_str) (q_cons (q_str) (q_nil)))))) (by rfl)) (w_and1 (q_tcmp (o_ne (by rfl) hr.units) c_ne (q_var (pv 6)) (q_tup (q_nil)) (nomark _))))) (q_scons (q_par (i:=9) (j:=10) (by rfl) sc_law_about.nd (by rfl) (by rfl) (by decide) (by rfl) (by rfl) (q_cons (q_fn C_law_take T.bnd_law_take hr (by rfl) (by rfl) (by rfl) tk_body (q_cons (q_var (pv 0)) (q_cons (q_callB (o_len (by rfl)) c_len (by rfl) T.z_len b_len (q_cons (q_var (pv 6)) (q_nil))) (q_nil)))) (q_cons (q_fn C_law_take T.bnd_law_take hr (by rfl) (by rfl) (by rfl) tk_body (q_cons (q_var (pv 0)) (q_cons (q_int) (q_nil)))) (q_nil))) (by rfl))
  (q_sone (q_if (q_tcmp o_lt c_lt (q_var (pv 10)) (q_int) (nomark _)) (q_sone (q_set (i:=6) sc_law_about.nd (by rfl) (.inl (by rfl)) (q_ix (o_ix (by rfl) (by rfl) (u1 hr)) c_ix (q_lst (q_cons (q_op (o_add (by rfl)) c_add (q_slice (by rfl) (q_var (pv 6)) (q_pno) (q_pyes (q_var (pv 9)))) (q_slice (by rfl) (q_var (pv 6)) (q_pyes (q_op (o_add (by rfl)) c_add (q_var (pv 9)) (q_int))) (q_pno))) (q_cons (q_slice (by rfl) (q_op (o_add (by rfl)) c_add (q_slice (by rfl) (q_var (pv 6)) (q_pyes (q_un o_neg c_neg (q_int))) (q_pno)) (q_var (pv 6))) (q_pno) (q_pyes (q_int))) (q_cons (q_backT (by rfl) (q_var (pv 6))) (q_nil))))) (q_var (pv 10)) (fun _ _=>rfl)))) (q_snil)))) (q_snil))
  (q_sone (q_ret (q_tup (q_cons (q_var (pv 4)) (q_cons (q_var (pv 5)) (q_cons (q_callTy (o_tuple (by rfl)) c_tuple (by rfl) T.z_tuple b_tuple (q_cons (q_lc (own:= [("_law_part",11)]) (by rfl) sc_law_about.nd (q_iter (by rfl) (q_var (pv 6))) (blkOk_by (own:= [("_law_part",11)]) (N:=N_law_about) (sc:=defScope s_law_about) (by decide +kernel)) (fun _ _ _ _ _=>q_gnameW (pg_name (i:=11) sc_law_about.nd (by rfl) (.inl (by rfl))) (by decide)) (fun _ _ _ _ _=>q_tnil) (fun _ _ _ _ _=>q_fn C_law_about T.bnd_law_about hr (by rfl) (by rfl) (by rfl) tk_blk (q_cons (q_var (pv 0)) (q_cons (q_var (pv 1)) (q_cons (q_var (pv 11)) (q_cons (q_var (pv 3)) (q_nil))))))) (q_nil))) (q_nil))))))))))
theorem b_law_templ {P:Program} {K:PySem.W.Frag} {w:World} {mg:Str→Option Value} {base:Heap} {fa:Nat→Addr} {fd:Nat→FuncData} {F:Nat→FN} {k:Nat} (hM:∃o,base.get? sysModules=some o) (T:Txt K w mg fa fd) (C_law_about:Cal P w ⟨K,w,mg⟩ base k "_law_about" (fa 21) (fd 21) ["_law_hand_here","_law_pot","_law_made","_law_scope"] (F 21)) (C_law_called:Cal P w ⟨K,w,mg⟩ base k "_law_called" (fa 7) (fd 7) ["_law_hand_here","_law_many"] (F 7)) (C_law_deep:Cal P w ⟨K,w,mg⟩ base k "_law_deep" (fa 16) (fd 16) ["_law_made"] (F 16)) (C_law_names_in:Cal P w ⟨K,w,mg⟩ base k "_law_names_in" (fa 18) (fd 18) ["_law_made"] (F 18)) (C_law_new:Cal P w ⟨K,w,mg⟩ base k "_law_new" (fa 20) (fd 20) ["_law_hand_here","_law_pot","_law_scope","_law_level"] (F 20)) (C_law_nodes:Cal P w ⟨K,w,mg⟩ base k "_law_nodes" (fa 17) (fd 17) ["_law_made"] (F 17)) (C_law_take:Cal P w ⟨K,w,mg⟩ base k "_law_take" (fa 5) (fd 5) ["_law_hand_here","_law_many"] (F 5)) (cdv:Value) (A:Around) (outer:List Env) (s:Shared) (H:Hp) (E:XK)
 (hr:RoomG k (A.deeper (envOfC "_law_templ" (defScope s_law_templ) s.heap.objs.size (fa 22) cdv))):
 PSs (cxOf (L2.CX P w) P w K mg base N_law_templ "_law_templ" (defScope s_law_templ) (fa 22) cdv A outer s H E) (defBody s_law_templ) (tS ⟨K,w,mg⟩ (m_law_templ F) (WE0 E)):=
 q_scons (q_set (i:=3) sc_law_templ.nd (by rfl) (.inr (by rfl)) (q_lc (own:= [("_law_node",4)]) (by rfl) sc_law_templ.nd (q_iter (by rfl) (q_fn C_law_nodes T.bnd_law_nodes hr (by rfl) (by rfl) (by rfl) tk_body (q_cons (q_var (pv 2)) (q_nil)))) (blkOk_by (own:= [("_law_node",4)]) (N:=N_law_templ) (sc:=defScope s_law_templ) (by decide +kernel)) (fun _ _ _ _ _=>q_gnameW (pg_name (i:=4) sc_law_templ.nd (by rfl) (.inl (by rfl))) (by decide)) (fun _ _ _ _ _=>q_tone (q_tcmp (o_in (by rfl) (by rfl) (u65 hr)) c_in (q_ix (o_ix (by rfl) (by rfl) (u1 hr)) c_ix (q_var (pv 4)) (q_int) (fun _ _=>rfl)) (q_tup (q_cons (q_str) (q_cons (q_str) (q_nil)))) (by rfl))) (fun _ _ _ _ _=>q_ix (o_ix (by rfl) (by rfl) (u1 hr)) c_ix (q_var (pv 4)) (q_int) (fun _ _=>rfl))))
  (q_scons (q_set (i:=5) sc_law_templ.nd (by rfl) (.inl (by rfl)) (q_sortSet (by rfl) (u65 hr) (by rfl) (q_lc (own:= [("_law_node",4)]) (by rfl) sc_law_templ.nd (q_iter (by rfl) (q_fn C_law_nodes T.bnd_law_nodes hr (by rfl) (by rfl) (by rfl) tk_body (q_cons (q_var (pv 2)) (q_nil)))) (blkOk_by (own:= [("_law_node",4)]) (N:=N_law_templ) (sc:=defScope s_law_templ) (by decide +kernel)) (fun _ _ _ _ _=>q_gnameW (pg_name (i:=4) sc_law_templ.nd (by rfl) (.inl (by rfl))) (by decide)) (fun _ _ _ _ _=>q_tone (q_tcmp (o_in (by rfl) (by rfl) (u65 hr)) c_in (q_ix (o_ix (by rfl) (by rfl) (u1 hr)) c_ix (q_var (pv 4)) (q_int) (fun _ _=>rfl)) (q_tup (q_cons (q_str) (q_cons (q_str) (q_cons (q_str) (q_cons (q_str) (q_nil)))))) (by rfl))) (fun _ _ _ _ _=>q_var (pv 4))) (by rfl) T.z_sorted (by rfl) T.z_set))
  (q_scons (q_asg (q_tup (q_cons (q_fn C_law_called T.bnd_law_called hr (by rfl) (by rfl) (by rfl) tk_body (q_cons (q_var (pv 0)) (q_cons (q_int) (q_nil)))) (q_cons (q_fn C_law_names_in T.bnd_law_names_in hr (by rfl) (by rfl) (by rfl) tk_body (q_cons (q_var (pv 1)) (q_nil))) (q_nil)))) (q_gtup (by rfl) (by rfl) (q_gscons (pg_name (i:=6) sc_law_templ.nd (by rfl) (.inr (by rfl))) (q_gscons (pg_name (i:=7) sc_law_templ.nd (by rfl) (.inl (by rfl))) (q_gsnil)))) (gn:=gn_tup))
  (q_scons (q_set (i:=8) sc_law_templ.nd (by rfl) (.inl (by rfl)) (q_dct (q_pcons (q_str) (q_int) (q_pcons (q_str) (q_var (pv 5)) (q_pcons (q_str) (q_op (o_add (by rfl)) c_add (q_op (o_add (by rfl)) c_add (q_var (pv 3)) (q_var (pv 6))) (q_var (pv 7))) (q_pcons (q_str) (q_callTy (o_listO (by rfl)) c_listO (by rfl) T.z_list b_list (q_cons (q_var (pv 3)) (q_nil))) (q_pnil))))) rfl rfl (by simp) (by decide)))
  (q_scons (q_expr (q_bm (by rfl) PySem.F.plainAttrs_list PySem.F.slot_list_extend PySem.F.type_list_extend o_extend c_extend (q_ix (o_ix (by rfl) (by rfl) (u1 hr)) c_ix (q_var (pv 8)) (q_str) (fun _ _=>rfl)) (q_cons (q_op (o_add (by rfl)) c_add (q_lc (own:= [("_law_name",9)]) (by rfl) sc_law_templ.nd (q_iter (by rfl) (q_op (o_add (by rfl)) c_add (q_lst (q_cons (q_ix (o_ix (by rfl) (by rfl) (u1 hr)) c_ix (q_var (pv 6)) (q_int) (fun _ _=>rfl)) (q_nil))) (q_slice (by rfl) (q_var (pv 7)) (q_pno) (q_pyes (q_int))))) (blkOk_by (own:= [("_law_name",9)]) (N:=N_law_templ) (sc:=defScope s_law_templ) (by decide +kernel)) (fun _ _ _ _ _=>q_gnameW (pg_name (i:=9) sc_law_templ.nd (by rfl) (.inl (by rfl))) (by decide)) (fun _ _ _ _ _=>q_tone (q_tcmp (o_notIn (by rfl) (by rfl) (u65 hr)) c_notIn (q_var (pv 9)) (q_op (o_add (by rfl)) c_add (q_var (pv 3)) (q_slice (by rfl) (q_var (pv 6)) (q_pno) (q_pyes (q_int)))) (by rfl))) (fun _ _ _ _ _=>q_var (pv 9))) (q_slice (by rfl) (q_var (pv 6)) (q_pno) (q_pyes (q_int)))) (q_nil))))
  (q_scons (q_set (i:=10) sc_law_templ.nd (by rfl) (.inl (by rfl)) (q_fn C_law_take T.bnd_law_take hr (by rfl) (by rfl) (by rfl) tk_body (q_cons (q_var (pv 0)) (q_cons (q_int) (q_nil)))))
  (q_scons (q_set (i:=11) sc_law_templ.nd (by rfl) (.inl (by rfl)) (q_ifExp (q_tcmp (o_eq (by rfl) hr.units) c_eq (q_var (pv 10)) (q_int) (nomark _)) (q_var (pv 2)) (q_fn C_law_about T.bnd_law_about hr (by rfl) (by rfl) (by rfl) tk_body (q_cons (q_var (pv 0)) (q_cons (q_var (pv 8)) (q_cons (q_var (pv 2)) (q_cons (q_lst (q_nil)) (q_nil))))))))
  (q_scons (q_if (q_tcmp (o_eq (by rfl) hr.units) c_eq (q_var (pv 10)) (q_int) (nomark _)) (q_sone (q_set (i:=11) sc_law_templ.nd (by rfl) (.inl (by rfl)) (q_fn C_law_new T.bnd_law_new hr (by rfl) (by rfl) (by rfl) tk_body (q_cons (q_var (pv 0)) (q_cons (q_var (pv 8)) (q_cons (q_lst (q_nil)) (q_cons (q_int) (q_nil)))))))) (q_snil))
  (q_scons (q_set (i:=12) sc_law_templ.nd (by rfl) (.inl (by rfl)) (q_callB (o_max (by rfl)) c_max (by rfl) T.z_max b_max (q_cons (q_lc (own:= [("_law_node",4)]) (by rfl) sc_law_templ.nd (q_iter (by rfl) (q_fn C_law_nodes T.bnd_law_nodes hr (by rfl) (by rfl) (by rfl) tk_body (q_cons (q_var (pv 11)) (q_nil)))) (blkOk_by (own:= [("_law_node",4)]) (N:=N_law_templ) (sc:=defScope s_law_templ) (by decide +kernel)) (fun _ _ _ _ _=>q_gnameW (pg_name (i:=4) sc_law_templ.nd (by rfl) (.inl (by rfl))) (by decide)) (fun _ _ _ _ _=>q_tnil) (fun _ _ _ _ _=>q_callB (o_len (by rfl)) c_len (by rfl) T.z_len b_len (q_cons (q_ix (o_ix (by rfl) (by rfl) (u1 hr)) c_ix (q_var (pv 4)) (q_int) (fun _ _=>rfl)) (q_nil)))) (q_nil))))
  (q_scons (q_if (q_tb (w_or (q_tcmp o_gt c_gt (q_callB (o_len (by rfl)) c_len (by rfl) T.z_len b_len (q_cons (q_fn C_law_nodes T.bnd_law_nodes hr (by rfl) (by rfl) (by rfl) tk_body (q_cons (q_var (pv 11)) (q_nil))) (q_nil))) (q_int) (nomark _)) (w_or (q_tcmp o_gt c_gt (q_fn C_law_deep T.bnd_law_deep hr (by rfl) (by rfl) (by rfl) tk_body (q_cons (q_var (pv 11)) (q_nil))) (q_int) (nomark _)) (w_or (q_tcmp (o_eq (by rfl) hr.units) c_eq (q_ix (o_ix (by rfl) (by rfl) (u1 hr)) c_ix (q_var (pv 11)) (q_int) (fun _ _=>rfl)) (q_str) (nomark _)) (w_or1 (q_tcmp o_gt c_gt (q_var (pv 12)) (q_int) (nomark _))))))) (q_sone (q_ret (q_var (pv 2)))) (q_snil))
  (q_sone (q_ret (q_var (pv 11)))))))))))))
theorem b_law_counts {P:Program} {K:PySem.W.Frag} {w:World} {mg:Str→Option Value} {base:Heap} {fa:Nat→Addr} {fd:Nat→FuncData} {F:Nat→FN} {k:Nat} (hM:∃o,base.get? sysModules=some o) (T:Txt K w mg fa fd) (C_law_nodes:Cal P w ⟨K,w,mg⟩ base k "_law_nodes" (fa 17) (fd 17) ["_law_made"] (F 17)) (cdv:Value) (A:Around) (outer:List Env) (s:Shared) (H:Hp) (E:XK)
 (hr:RoomG k (A.deeper (envOfC "_law_counts" (defScope s_law_counts) s.heap.objs.size (fa 23) cdv))):
 PSs (cxOf (L2.CX P w) P w K mg base N_law_counts "_law_counts" (defScope s_law_counts) (fa 23) cdv A outer s H E) (defBody s_law_counts) (tS ⟨K,w,mg⟩ (m_law_counts F) (WE0 E)):=
 q_scons (q_set (i:=1) sc_law_counts.nd (by rfl) (.inl (by rfl)) (q_dct0))
  (q_scons (q_for po_body (by rfl) (q_iter (by rfl) (q_fn C_law_nodes T.bnd_law_nodes hr (by rfl) (by rfl) (by rfl) tk_body (q_cons (q_var (pv 0)) (q_nil)))) (q_gname (pg_name (i:=2) sc_law_counts.nd (by rfl) (.inl (by rfl)))) (q_sone (q_if (q_tcmp (o_in (by rfl) (by rfl) (u65 hr)) c_in (q_ix (o_ix (by rfl) (by rfl) (u1 hr)) c_ix (q_var (pv 2)) (q_int) (fun _ _=>rfl)) (q_tup (q_cons (q_str) (q_cons (q_str) (q_cons (q_str) (q_cons (q_str) (q_nil)))))) (by rfl)) (q_sone (q_asg (q_op (o_add (by rfl)) c_add (q_bm (by rfl) PySem.F.plainAttrs_dict PySem.F.slot_dict_get PySem.F.type_dict_get (o_dget (u1 hr)) c_dget (q_var (pv 1)) (q_cons (q_ix (o_ix (by rfl) (by rfl) (u1 hr)) c_ix (q_var (pv 2)) (q_int) (fun _ _=>rfl)) (q_cons (q_int) (q_nil)))) (q_int)) (q_gsub (Wx:=WE0 E) (u1 hr) (q_var (pv 1)) (q_ix (o_ix (by rfl) (by rfl) (u1 hr)) c_ix (q_var (pv 2)) (q_int) (fun _ _=>rfl))) (gn:=gn_sub))) (q_snil))))
  (q_sone (q_ret (q_var (pv 1)))))
theorem b_law {P:Program} {K:PySem.W.Frag} {w:World} {mg:Str→Option Value} {base:Heap} {fa:Nat→Addr} {fd:Nat→FuncData} {F:Nat→FN} {k:Nat} (hM:∃o,base.get? sysModules=some o) (T:Txt K w mg fa fd) (C_law_code:Cal P w ⟨K,w,mg⟩ base k "_law_code" (fa 10) (fd 10) ["_law_hand_here","_law_size"] (F 10)) (C_law_counts:Cal P w ⟨K,w,mg⟩ base k "_law_counts" (fa 23) (fd 23) ["_law_made"] (F 23)) (C_law_hand:Cal P w ⟨K,w,mg⟩ base k "_law_hand" (fa 4) (fd 4) ["_law_script","_law_k"] (F 4)) (C_law_nodes:Cal P w ⟨K,w,mg⟩ base k "_law_nodes" (fa 17) (fd 17) ["_law_made"] (F 17)) (C_law_pick:Cal P w ⟨K,w,mg⟩ base k "_law_pick" (fa 6) (fd 6) ["_law_hand_here","_law_some"] (F 6)) (C_law_sought:Cal P w ⟨K,w,mg⟩ base k "_law_sought" (fa 15) (fd 15) ["_law_hand_here","_law_code_here"] (F 15)) (C_law_take:Cal P w ⟨K,w,mg⟩ base k "_law_take" (fa 5) (fd 5) ["_law_hand_here","_law_many"] (F 5)) (C_law_templ:Cal P w ⟨K,w,mg⟩ base k "_law_templ" (fa 22) (fd 22) ["_law_hand_here","_law_code_here","_law_made"] (F 22)) (C_is_lean:Cal P w ⟨K,w,mg⟩ base k "is_lean" (fa 3) (fd 3) ["rule"] (F 3)) (cdv:Value) (A:Around) (outer:List Env) (s:Shared) (H:Hp) (E:XK)
 (hr:RoomG k (A.deeper (envOfC "law" (defScope s_law) s.heap.objs.size (fa 24) cdv))):
 PSs (cxOf (L2.CX P w) P w K mg base N_law "law" (defScope s_law) (fa 24) cdv A outer s H E) (defBody s_law) (tS ⟨K,w,mg⟩ (m_law F) (WE0 E)):=
 q_scons (q_for po_body (by rfl) (q_range1 (by rfl) T.z_range (q_cons (q_callB (o_max (by rfl)) c_max (by rfl) T.z_max b_max (q_cons (q_int) (q_cons (q_callB (o_min (by rfl)) c_min (by rfl) T.z_min b_min (q_cons (q_int) (q_cons (q_callB (o_len (by rfl)) c_len (by rfl) T.z_len b_len (q_cons (q_var (pv 0)) (q_nil))) (q_nil)))) (q_nil)))) (q_nil))) (q_gname (pg_name (i:=1) sc_law.nd (by rfl) (.inl (by rfl)))) (q_scons (q_set (i:=2) sc_law.nd (by rfl) (.inr (by rfl)) (q_fn C_law_hand T.bnd_law_hand hr (by rfl) (by rfl) (by rfl) tk_body (q_cons (q_var (pv 0)) (q_cons (q_var (pv 1)) (q_nil)))))
  (q_scons (q_set (i:=3) sc_law.nd (by rfl) (.inr (by rfl)) (q_fn C_law_code T.bnd_law_code hr (by rfl) (by rfl) (by rfl) tk_body (q_cons (q_var (pv 2)) (q_cons (q_op (o_add (by rfl)) c_add (q_int) (q_fn C_law_take T.bnd_law_take hr (by rfl) (by rfl) (by rfl) tk_body (q_cons (q_var (pv 2)) (q_cons (q_int) (q_nil))))) (q_nil)))))
  (q_scons (q_set (i:=4) sc_law.nd (by rfl) (.inr (by rfl)) (q_fn C_law_sought T.bnd_law_sought hr (by rfl) (by rfl) (by rfl) tk_body (q_cons (q_var (pv 2)) (q_cons (q_var (pv 3)) (q_nil)))))
  (q_scons (q_set (i:=5) sc_law.nd (by rfl) (.inr (by rfl)) (q_fn C_law_counts T.bnd_law_counts hr (by rfl) (by rfl) (by rfl) tk_body (q_cons (q_var (pv 4)) (q_nil))))
  (q_scons (q_set (i:=6) sc_law.nd (by rfl) (.inl (by rfl)) (q_sortSet (by rfl) (u65 hr) (by rfl) (q_lc (own:= [("_law_node",7)]) (by rfl) sc_law.nd (q_iter (by rfl) (q_fn C_law_nodes T.bnd_law_nodes hr (by rfl) (by rfl) (by rfl) tk_body (q_cons (q_var (pv 4)) (q_nil)))) (blkOk_by (own:= [("_law_node",7)]) (N:=N_law) (sc:=defScope s_law) (by decide +kernel)) (fun _ _ _ _ _=>q_gnameW (pg_name (i:=7) sc_law.nd (by rfl) (.inl (by rfl))) (by decide)) (fun _ _ _ _ _=>q_tone (q_tcmp (o_in (by rfl) (by rfl) (u65 hr)) c_in (q_ix (o_ix (by rfl) (by rfl) (u1 hr)) c_ix (q_var (pv 7)) (q_int) (fun _ _=>rfl)) (q_var (pv 5)) (by rfl))) (fun _ _ _ _ _=>q_var (pv 7))) (by rfl) T.z_sorted (by rfl) T.z_set))
  (q_scons (q_set (i:=8) sc_law.nd (by rfl) (.inl (by rfl)) (q_lst (q_cons (q_var (pv 4)) (q_cons (q_tup (q_cons (q_str) (q_cons (q_int) (q_cons (q_tup (q_nil)) (q_nil))))) (q_cons (q_tup (q_cons (q_str) (q_cons (q_str) (q_cons (q_callTy (o_tuple (by rfl)) c_tuple (by rfl) T.z_tuple b_tuple (q_cons (q_slice (by rfl) (q_op (o_add (by rfl)) c_add (q_var (pv 6)) (q_var (pv 6))) (q_pno) (q_pyes (q_int))) (q_nil))) (q_nil))))) (q_cons (q_tup (q_cons (q_str) (q_cons (q_str) (q_cons (q_callTy (o_tuple (by rfl)) c_tuple (by rfl) T.z_tuple b_tuple (q_cons (q_slice (by rfl) (q_var (pv 6)) (q_pno) (q_pyes (q_int))) (q_nil))) (q_nil))))) (q_nil)))))))
  (q_scons (q_set (i:=8) sc_law.nd (by rfl) (.inl (by rfl)) (q_op (o_add (by rfl)) c_add (q_var (pv 8)) (q_lc (own:= [("_law_turn",9)]) (by rfl) sc_law.nd (q_range1 (by rfl) T.z_range (q_cons (q_int) (q_nil))) (blkOk_by (own:= [("_law_turn",9)]) (N:=N_law) (sc:=defScope s_law) (by decide +kernel)) (fun _ _ _ _ _=>q_gnameW (pg_name (i:=9) sc_law.nd (by rfl) (.inl (by rfl))) (by decide)) (fun _ _ _ _ _=>q_tnil) (fun _ _ _ _ _=>q_fn C_law_templ T.bnd_law_templ hr (by rfl) (by rfl) (by rfl) tk_blk (q_cons (q_var (pv 2)) (q_cons (q_var (pv 3)) (q_cons (q_var (pv 4)) (q_nil))))))))
  (q_sone (q_for po_body (by rfl) (q_iter (by rfl) (q_var (pv 8))) (q_gname (pg_name (i:=10) sc_law.nd (by rfl) (.inl (by rfl)))) (q_scons (q_set (i:=11) sc_law.nd (by rfl) (.inl (by rfl)) (q_tup (q_cons (q_str) (q_cons (q_tup (q_cons (q_str) (q_cons (q_tup (q_cons (q_str) (q_cons (q_str) (q_cons (q_tup (q_nil)) (q_nil))))) (q_nil)))) (q_nil)))))
  (q_scons (q_set (i:=12) sc_law.nd (by rfl) (.inl (by rfl)) (q_tup (q_cons (q_str) (q_cons (q_var (pv 4)) (q_cons (q_fn C_law_pick T.bnd_law_pick hr (by rfl) (by rfl) (by rfl) tk_body (q_cons (q_var (pv 2)) (q_cons (q_lst (q_cons (q_non) (q_cons (q_tup (q_cons (q_str) (q_cons (q_var (pv 4)) (q_nil)))) (q_cons (q_tup (q_cons (q_str) (q_cons (q_var (pv 11)) (q_nil)))) (q_cons (q_var (pv 11)) (q_nil)))))) (q_nil)))) (q_cons (q_var (pv 10)) (q_nil)))))))
  (q_scons (q_asg (q_tup (q_cons (q_fn C_law_counts T.bnd_law_counts hr (by rfl) (by rfl) (by rfl) tk_body (q_cons (q_var (pv 10)) (q_nil))) (q_cons (q_callB (o_repr (by rfl) hM hr.gd (u150 hr)) c_repr (by rfl) T.z_repr b_repr (q_cons (q_var (pv 12)) (q_nil))) (q_nil)))) (q_gtup (by rfl) (by rfl) (q_gscons (pg_name (i:=13) sc_law.nd (by rfl) (.inr (by rfl))) (q_gscons (pg_name (i:=14) sc_law.nd (by rfl) (.inl (by rfl))) (q_gsnil)))) (gn:=gn_tup))
  (q_scons (q_set (i:=15) sc_law.nd (by rfl) (.inl (by rfl)) (q_callB (o_all (by rfl)) c_all (by rfl) T.z_all b_all (q_cons (q_lc (own:= [("_law_hole_here",16)]) (by rfl) sc_law.nd (q_lkd (q_var (pv 13))) (blkOk_by (own:= [("_law_hole_here",16)]) (N:=N_law) (sc:=defScope s_law) (by decide +kernel)) (fun _ _ _ _ _=>q_gnameW (pg_name (i:=16) sc_law.nd (by rfl) (.inl (by rfl))) (by decide)) (fun _ _ _ _ _=>q_tnil) (fun _ _ _ _ _=>q_cmp o_le c_le (q_ix (o_ixk (u1 hr)) c_ixk (q_var (pv 13)) (q_var (pv 16)) (fun _ _=>rfl)) (q_ix (o_ix (by rfl) (by rfl) (u1 hr)) c_ix (q_var (pv 5)) (q_var (pv 16)) (fun _ _=>rfl)) (nomark _))) (q_nil))))
  (q_sone (q_if (q_tb (w_or (q_tcmp (o_ne (by rfl) hr.units) c_ne (q_callB (o_repr (by rfl) hM hr.gd (u150 hr)) c_repr (by rfl) T.z_repr b_repr (q_cons (q_fn C_is_lean T.bnd_is_lean hr (by rfl) (by rfl) (by rfl) tk_body (q_cons (q_var (pv 12)) (q_nil))) (q_nil))) (q_callB (o_repr (by rfl) hM hr.gd (u150 hr)) c_repr (by rfl) T.z_repr b_repr (q_cons (q_var (pv 15)) (q_nil))) (nomark _)) (w_or (q_tcmp (o_ne (by rfl) hr.units) c_ne (q_callB (o_repr (by rfl) hM hr.gd (u150 hr)) c_repr (by rfl) T.z_repr b_repr (q_cons (q_fnK0 C_is_lean T.kbd_is_lean_0_rule hr (by rfl) (by rfl) (by rfl) tk_body (q_kcons (q_var (pv 12)) (q_knil))) (q_nil))) (q_callB (o_repr (by rfl) hM hr.gd (u150 hr)) c_repr (by rfl) T.z_repr b_repr (q_cons (q_var (pv 15)) (q_nil))) (nomark _)) (w_or1 (q_tcmp (o_ne (by rfl) hr.units) c_ne (q_callB (o_repr (by rfl) hM hr.gd (u150 hr)) c_repr (by rfl) T.z_repr b_repr (q_cons (q_var (pv 12)) (q_nil))) (q_var (pv 14)) (nomark _)))))) (q_sone (q_ret (q_bl))) (q_snil)))))))))))))))))
  (q_sone (q_ret (q_bl)))
structure Alls (P:Program) (K:PySem.W.Frag) (w:World) (mg:Str→Option Value) (base:Heap) (fa:Nat→Addr) (fd:Nat→FuncData) (k:Nat) (F:Nat→FN):Prop where
 c_listed:Cal P w ⟨K,w,mg⟩ base k "listed" (fa 0) (fd 0) ["thing"] (F 0)
 c_nodes_of:Cal P w ⟨K,w,mg⟩ base k "nodes_of" (fa 1) (fd 1) ["pattern"] (F 1)
 c_holes_counted:Cal P w ⟨K,w,mg⟩ base k "holes_counted" (fa 2) (fd 2) ["pattern"] (F 2)
 c_is_lean:Cal P w ⟨K,w,mg⟩ base k "is_lean" (fa 3) (fd 3) ["rule"] (F 3)
 c_law_hand:Cal P w ⟨K,w,mg⟩ base k "_law_hand" (fa 4) (fd 4) ["_law_script","_law_k"] (F 4)
 c_law_take:Cal P w ⟨K,w,mg⟩ base k "_law_take" (fa 5) (fd 5) ["_law_hand_here","_law_many"] (F 5)
 c_law_pick:Cal P w ⟨K,w,mg⟩ base k "_law_pick" (fa 6) (fd 6) ["_law_hand_here","_law_some"] (F 6)
 c_law_called:Cal P w ⟨K,w,mg⟩ base k "_law_called" (fa 7) (fd 7) ["_law_hand_here","_law_many"] (F 7)
 c_law_digit:Cal P w ⟨K,w,mg⟩ base k "_law_digit" (fa 8) (fd 8) ["_law_hand_here"] (F 8)
 c_law_grown:Cal P w ⟨K,w,mg⟩ base k "_law_grown" (fa 9) (fd 9) ["_law_hand_here","_law_pot","_law_scope","_law_level"] (F 9)
 c_law_code:Cal P w ⟨K,w,mg⟩ base k "_law_code" (fa 10) (fd 10) ["_law_hand_here","_law_size"] (F 10)
 c_law_spots:Cal P w ⟨K,w,mg⟩ base k "_law_spots" (fa 11) (fd 11) ["_law_code_here"] (F 11)
 c_law_there:Cal P w ⟨K,w,mg⟩ base k "_law_there" (fa 12) (fd 12) ["_law_code_here","_law_spot"] (F 12)
 c_law_hole:Cal P w ⟨K,w,mg⟩ base k "_law_hole" (fa 13) (fd 13) ["_law_hand_here","_law_pot","_law_word"] (F 13)
 c_law_holed:Cal P w ⟨K,w,mg⟩ base k "_law_holed" (fa 14) (fd 14) ["_law_hand_here","_law_pot","_law_made","_law_names","_law_level"] (F 14)
 c_law_sought:Cal P w ⟨K,w,mg⟩ base k "_law_sought" (fa 15) (fd 15) ["_law_hand_here","_law_code_here"] (F 15)
 c_law_deep:Cal P w ⟨K,w,mg⟩ base k "_law_deep" (fa 16) (fd 16) ["_law_made"] (F 16)
 c_law_nodes:Cal P w ⟨K,w,mg⟩ base k "_law_nodes" (fa 17) (fd 17) ["_law_made"] (F 17)
 c_law_names_in:Cal P w ⟨K,w,mg⟩ base k "_law_names_in" (fa 18) (fd 18) ["_law_made"] (F 18)
 c_law_leaf_put:Cal P w ⟨K,w,mg⟩ base k "_law_leaf_put" (fa 19) (fd 19) ["_law_hand_here","_law_pot","_law_scope"] (F 19)
 c_law_new:Cal P w ⟨K,w,mg⟩ base k "_law_new" (fa 20) (fd 20) ["_law_hand_here","_law_pot","_law_scope","_law_level"] (F 20)
 c_law_about:Cal P w ⟨K,w,mg⟩ base k "_law_about" (fa 21) (fd 21) ["_law_hand_here","_law_pot","_law_made","_law_scope"] (F 21)
 c_law_templ:Cal P w ⟨K,w,mg⟩ base k "_law_templ" (fa 22) (fd 22) ["_law_hand_here","_law_code_here","_law_made"] (F 22)
 c_law_counts:Cal P w ⟨K,w,mg⟩ base k "_law_counts" (fa 23) (fd 23) ["_law_made"] (F 23)
 c_law:Cal P w ⟨K,w,mg⟩ base k "law" (fa 24) (fd 24) ["_law_script"] (F 24)
theorem all {P:Program} {K:PySem.W.Frag} {w:World} {mg:Str→Option Value} {base:Heap} {fa:Nat→Addr} {fd:Nat→FuncData} (hM:∃o,base.get? sysModules=some o) (T:Txt K w mg fa fd):∀k,Alls P K w mg base fa fd k (Fs k)
 |0=>⟨⟨fn_none,T.g_listed,T.F_listed.kp⟩,⟨fn_none,T.g_nodes_of,T.F_nodes_of.kp⟩,⟨fn_none,T.g_holes_counted,T.F_holes_counted.kp⟩,⟨fn_none,T.g_is_lean,T.F_is_lean.kp⟩,⟨fn_none,T.g_law_hand,T.F_law_hand.kp⟩,⟨fn_none,T.g_law_take,T.F_law_take.kp⟩,⟨fn_none,T.g_law_pick,T.F_law_pick.kp⟩,⟨fn_none,T.g_law_called,T.F_law_called.kp⟩,⟨fn_none,T.g_law_digit,T.F_law_digit.kp⟩,⟨fn_none,T.g_law_grown,T.F_law_grown.kp⟩,⟨fn_none,T.g_law_code,T.F_law_code.kp⟩,⟨fn_none,T.g_law_spots,T.F_law_spots.kp⟩,⟨fn_none,T.g_law_there,T.F_law_there.kp⟩,⟨fn_none,T.g_law_hole,T.F_law_hole.kp⟩,⟨fn_none,T.g_law_holed,T.F_law_holed.kp⟩,⟨fn_none,T.g_law_sought,T.F_law_sought.kp⟩,⟨fn_none,T.g_law_deep,T.F_law_deep.kp⟩,⟨fn_none,T.g_law_nodes,T.F_law_nodes.kp⟩,⟨fn_none,T.g_law_names_in,T.F_law_names_in.kp⟩,⟨fn_none,T.g_law_leaf_put,T.F_law_leaf_put.kp⟩,⟨fn_none,T.g_law_new,T.F_law_new.kp⟩,⟨fn_none,T.g_law_about,T.F_law_about.kp⟩,⟨fn_none,T.g_law_templ,T.F_law_templ.kp⟩,⟨fn_none,T.g_law_counts,T.F_law_counts.kp⟩,⟨fn_none,T.g_law,T.F_law.kp⟩⟩
 |k+1=>by
  have ih:=all (P:=P) (base:=base) hM T k
  exact⟨⟨fn_ok (G:=⟨K,w,mg⟩) T.F_listed sc_listed (b_listed hM T ih.c_listed),T.g_listed,T.F_listed.kp⟩,
   ⟨fn_ok (G:=⟨K,w,mg⟩) T.F_nodes_of sc_nodes_of (b_nodes_of hM T ih.c_listed),T.g_nodes_of,T.F_nodes_of.kp⟩,
   ⟨fn_ok (G:=⟨K,w,mg⟩) T.F_holes_counted sc_holes_counted (b_holes_counted hM T ih.c_nodes_of),T.g_holes_counted,T.F_holes_counted.kp⟩,
   ⟨fn_ok (G:=⟨K,w,mg⟩) T.F_is_lean sc_is_lean (b_is_lean hM T ih.c_holes_counted),T.g_is_lean,T.F_is_lean.kp⟩,
   ⟨fn_ok (G:=⟨K,w,mg⟩) T.F_law_hand sc_law_hand (b_law_hand hM T),T.g_law_hand,T.F_law_hand.kp⟩,
   ⟨fn_ok (G:=⟨K,w,mg⟩) T.F_law_take sc_law_take (b_law_take hM T),T.g_law_take,T.F_law_take.kp⟩,
   ⟨fn_ok (G:=⟨K,w,mg⟩) T.F_law_pick sc_law_pick (b_law_pick hM T ih.c_law_take),T.g_law_pick,T.F_law_pick.kp⟩,
   ⟨fn_ok (G:=⟨K,w,mg⟩) T.F_law_called sc_law_called (b_law_called hM T ih.c_law_pick ih.c_law_take),T.g_law_called,T.F_law_called.kp⟩,
   ⟨fn_ok (G:=⟨K,w,mg⟩) T.F_law_digit sc_law_digit (b_law_digit hM T ih.c_law_pick ih.c_law_take),T.g_law_digit,T.F_law_digit.kp⟩,
   ⟨fn_ok (G:=⟨K,w,mg⟩) T.F_law_grown sc_law_grown (b_law_grown hM T ih.c_law_digit ih.c_law_grown ih.c_law_pick ih.c_law_take),T.g_law_grown,T.F_law_grown.kp⟩,
   ⟨fn_ok (G:=⟨K,w,mg⟩) T.F_law_code sc_law_code (b_law_code hM T ih.c_law_called ih.c_law_grown ih.c_law_take),T.g_law_code,T.F_law_code.kp⟩,
   ⟨fn_ok (G:=⟨K,w,mg⟩) T.F_law_spots sc_law_spots (b_law_spots hM T ih.c_law_spots),T.g_law_spots,T.F_law_spots.kp⟩,
   ⟨fn_ok (G:=⟨K,w,mg⟩) T.F_law_there sc_law_there (b_law_there hM T),T.g_law_there,T.F_law_there.kp⟩,
   ⟨fn_ok (G:=⟨K,w,mg⟩) T.F_law_hole sc_law_hole (b_law_hole hM T ih.c_law_pick ih.c_law_take),T.g_law_hole,T.F_law_hole.kp⟩,
   ⟨fn_ok (G:=⟨K,w,mg⟩) T.F_law_holed sc_law_holed (b_law_holed hM T ih.c_law_hole ih.c_law_holed ih.c_law_pick ih.c_law_take),T.g_law_holed,T.F_law_holed.kp⟩,
   ⟨fn_ok (G:=⟨K,w,mg⟩) T.F_law_sought sc_law_sought (b_law_sought hM T ih.c_law_holed ih.c_law_nodes ih.c_law_pick ih.c_law_spots ih.c_law_take ih.c_law_there),T.g_law_sought,T.F_law_sought.kp⟩,
   ⟨fn_ok (G:=⟨K,w,mg⟩) T.F_law_deep sc_law_deep (b_law_deep hM T ih.c_law_deep),T.g_law_deep,T.F_law_deep.kp⟩,
   ⟨fn_ok (G:=⟨K,w,mg⟩) T.F_law_nodes sc_law_nodes (b_law_nodes hM T ih.c_law_nodes),T.g_law_nodes,T.F_law_nodes.kp⟩,
   ⟨fn_ok (G:=⟨K,w,mg⟩) T.F_law_names_in sc_law_names_in (b_law_names_in hM T ih.c_law_nodes),T.g_law_names_in,T.F_law_names_in.kp⟩,
   ⟨fn_ok (G:=⟨K,w,mg⟩) T.F_law_leaf_put sc_law_leaf_put (b_law_leaf_put hM T ih.c_law_digit ih.c_law_pick ih.c_law_take),T.g_law_leaf_put,T.F_law_leaf_put.kp⟩,
   ⟨fn_ok (G:=⟨K,w,mg⟩) T.F_law_new sc_law_new (b_law_new hM T ih.c_law_leaf_put ih.c_law_new ih.c_law_pick ih.c_law_take),T.g_law_new,T.F_law_new.kp⟩,
   ⟨fn_ok (G:=⟨K,w,mg⟩) T.F_law_about sc_law_about (b_law_about hM T ih.c_law_about ih.c_law_new ih.c_law_take),T.g_law_about,T.F_law_about.kp⟩,
   ⟨fn_ok (G:=⟨K,w,mg⟩) T.F_law_templ sc_law_templ (b_law_templ hM T ih.c_law_about ih.c_law_called ih.c_law_deep ih.c_law_names_in ih.c_law_new ih.c_law_nodes ih.c_law_take),T.g_law_templ,T.F_law_templ.kp⟩,
   ⟨fn_ok (G:=⟨K,w,mg⟩) T.F_law_counts sc_law_counts (b_law_counts hM T ih.c_law_nodes),T.g_law_counts,T.F_law_counts.kp⟩,
   ⟨fn_ok (G:=⟨K,w,mg⟩) T.F_law sc_law (b_law hM T ih.c_law_code ih.c_law_counts ih.c_law_hand ih.c_law_nodes ih.c_law_pick ih.c_law_sought ih.c_law_take ih.c_law_templ ih.c_is_lean),T.g_law,T.F_law.kp⟩⟩
end K60
namespace K60
open PySem PySem.Spec PyProof.Rows L2 L3
def fdOf (d0:FuncData) (d1:FuncData) (d2:FuncData) (d3:FuncData) (d4:FuncData) (d5:FuncData) (d6:FuncData) (d7:FuncData) (d8:FuncData) (d9:FuncData) (d10:FuncData) (d11:FuncData) (d12:FuncData) (d13:FuncData) (d14:FuncData) (d15:FuncData) (d16:FuncData) (d17:FuncData) (d18:FuncData) (d19:FuncData) (d20:FuncData) (d21:FuncData) (d22:FuncData) (d23:FuncData) (d24:FuncData):Nat→FuncData
 |0=>d0
 |1=>d1
 |2=>d2
 |3=>d3
 |4=>d4
 |5=>d5
 |6=>d6
 |7=>d7
 |8=>d8
 |9=>d9
 |10=>d10
 |11=>d11
 |12=>d12
 |13=>d13
 |14=>d14
 |15=>d15
 |16=>d16
 |17=>d17
 |18=>d18
 |19=>d19
 |20=>d20
 |21=>d21
 |22=>d22
 |23=>d23
 |24=>d24
 | _=>d0
theorem all_mk {l:PySem.W.OpenLaw} {w:World} {K:PySem.W.Frag} {h:Heap} {mg:Str→Option Value} {fa:Addr} (X:K.In h) (G:h.Ns mainGlobals mg) (hfa:mg "law" =some (.ref fa)) (TT:∀ns:List Int,ns.length≤63→∃S,Fs 100 24 [.scr ns] [] = .ok (.bl true) S)
 {f1 f11 f21 f31 f41 f51 f61 f71 f81 f91 f101 f111 f121 f131 f141 f151 f161 f171 f181 f191 f201 f211 f221 f231 f241 a251:Addr}
 {od2 an3 od12 an13 od22 an23 od32 an33 od42 an43 od52 an53 od62 an63 od72 an73 od82 an83 od92 an93 od102 an103 od112 an113 od122 an123 od132 an133 od142 an143 od152 an153 od162 an163 od172 an173 od182 an183 od192 an193 od202 an203 od212 an213 od222 an223 od232 an233 od242 an243 dd256:Option Addr}
 {sl4 sl14 sl24 sl34 sl44 sl54 sl64 sl74 sl84 sl94 sl104 sl114 sl124 sl134 sl144 sl154 sl164 sl174 sl184 sl194 sl204 sl214 sl224 sl234 sl244 sl258:Array (Option Value)}
 {oc5 dc6 pm7 cd8 ct9 kV10 oc15 dc16 pm17 cd18 ct19 kV20 oc25 dc26 pm27 cd28 ct29 kV30 oc35 dc36 pm37 cd38 ct39 kV40 oc45 dc46 pm47 cd48 ct49 kV50 oc55 dc56 pm57 cd58 ct59 kV60 oc65 dc66 pm67 cd68 ct69 kV70 oc75 dc76 pm77 cd78 ct79 kV80 oc85 dc86 pm87 cd88 ct89 kV90 oc95 dc96 pm97 cd98 ct99 kV100 oc105 dc106 pm107 cd108 ct109 kV110 oc115 dc116 pm117 cd118 ct119 kV120 oc125 dc126 pm127 cd128 ct129 kV130 oc135 dc136 pm137 cd138 ct139 kV140 oc145 dc146 pm147 cd148 ct149 kV150 oc155 dc156 pm157 cd158 ct159 kV160 oc165 dc166 pm167 cd168 ct169 kV170 oc175 dc176 pm177 cd178 ct179 kV180 oc185 dc186 pm187 cd188 ct189 kV190 oc195 dc196 pm197 cd198 ct199 kV200 oc205 dc206 pm207 cd208 ct209 kV210 oc215 dc216 pm217 cd218 ct219 kV220 oc225 dc226 pm227 cd228 ct229 kV230 oc235 dc236 pm237 cd238 ct239 kV240 oc245 dc246 pm247 cd248 ct249 kV250:Value}
 {t252 t253 t254 t255:PySem.Tok}
 {n257:Nat}
 (a_listed:PySem.W.nsIn K mainGlobals "listed" =some (some (.ref f1)))
 (l_listed:K.lookup f1=some ⟨oc5,od2, .func (PySem.W.fnOf "listed" "listed" (defArgs s_listed) (defBody s_listed) (defScope s_listed) .none kV10 dc6 pm7 an3 cd8 ct9),sl4⟩)
 (c_listed:PySem.W.codeIn K cd8 "listed" =true)
 (k_listed:PySem.W.keepIn K (.ref f1)=true)
 (a_nodes_of:PySem.W.nsIn K mainGlobals "nodes_of" =some (some (.ref f11)))
 (l_nodes_of:K.lookup f11=some ⟨oc15,od12, .func (PySem.W.fnOf "nodes_of" "nodes_of" (defArgs s_nodes_of) (defBody s_nodes_of) (defScope s_nodes_of) .none kV20 dc16 pm17 an13 cd18 ct19),sl14⟩)
 (c_nodes_of:PySem.W.codeIn K cd18 "nodes_of" =true)
 (k_nodes_of:PySem.W.keepIn K (.ref f11)=true)
 (a_holes_counted:PySem.W.nsIn K mainGlobals "holes_counted" =some (some (.ref f21)))
 (l_holes_counted:K.lookup f21=some ⟨oc25,od22, .func (PySem.W.fnOf "holes_counted" "holes_counted" (defArgs s_holes_counted) (defBody s_holes_counted) (defScope s_holes_counted) .none kV30 dc26 pm27 an23 cd28 ct29),sl24⟩)
 (c_holes_counted:PySem.W.codeIn K cd28 "holes_counted" =true)
 (k_holes_counted:PySem.W.keepIn K (.ref f21)=true)
 (a_is_lean:PySem.W.nsIn K mainGlobals "is_lean" =some (some (.ref f31)))
 (l_is_lean:K.lookup f31=some ⟨oc35,od32, .func (PySem.W.fnOf "is_lean" "is_lean" (defArgs s_is_lean) (defBody s_is_lean) (defScope s_is_lean) .none kV40 dc36 pm37 an33 cd38 ct39),sl34⟩)
 (c_is_lean:PySem.W.codeIn K cd38 "is_lean" =true)
 (k_is_lean:PySem.W.keepIn K (.ref f31)=true)
 (a_law_hand:PySem.W.nsIn K mainGlobals "_law_hand" =some (some (.ref f41)))
 (l_law_hand:K.lookup f41=some ⟨oc45,od42, .func (PySem.W.fnOf "_law_hand" "_law_hand" (defArgs s_law_hand) (defBody s_law_hand) (defScope s_law_hand) .none kV50 dc46 pm47 an43 cd48 ct49),sl44⟩)
 (c_law_hand:PySem.W.codeIn K cd48 "_law_hand" =true)
 (k_law_hand:PySem.W.keepIn K (.ref f41)=true)
 (a_law_take:PySem.W.nsIn K mainGlobals "_law_take" =some (some (.ref f51)))
 (l_law_take:K.lookup f51=some ⟨oc55,od52, .func (PySem.W.fnOf "_law_take" "_law_take" (defArgs s_law_take) (defBody s_law_take) (defScope s_law_take) .none kV60 dc56 pm57 an53 cd58 ct59),sl54⟩)
 (c_law_take:PySem.W.codeIn K cd58 "_law_take" =true)
 (k_law_take:PySem.W.keepIn K (.ref f51)=true)
 (a_law_pick:PySem.W.nsIn K mainGlobals "_law_pick" =some (some (.ref f61)))
 (l_law_pick:K.lookup f61=some ⟨oc65,od62, .func (PySem.W.fnOf "_law_pick" "_law_pick" (defArgs s_law_pick) (defBody s_law_pick) (defScope s_law_pick) .none kV70 dc66 pm67 an63 cd68 ct69),sl64⟩)
 (c_law_pick:PySem.W.codeIn K cd68 "_law_pick" =true)
 (k_law_pick:PySem.W.keepIn K (.ref f61)=true)
 (a_law_called:PySem.W.nsIn K mainGlobals "_law_called" =some (some (.ref f71)))
 (l_law_called:K.lookup f71=some ⟨oc75,od72, .func (PySem.W.fnOf "_law_called" "_law_called" (defArgs s_law_called) (defBody s_law_called) (defScope s_law_called) .none kV80 dc76 pm77 an73 cd78 ct79),sl74⟩)
 (c_law_called:PySem.W.codeIn K cd78 "_law_called" =true)
 (k_law_called:PySem.W.keepIn K (.ref f71)=true)
 (a_law_digit:PySem.W.nsIn K mainGlobals "_law_digit" =some (some (.ref f81)))
 (l_law_digit:K.lookup f81=some ⟨oc85,od82, .func (PySem.W.fnOf "_law_digit" "_law_digit" (defArgs s_law_digit) (defBody s_law_digit) (defScope s_law_digit) .none kV90 dc86 pm87 an83 cd88 ct89),sl84⟩)
 (c_law_digit:PySem.W.codeIn K cd88 "_law_digit" =true)
 (k_law_digit:PySem.W.keepIn K (.ref f81)=true)
 (a_law_grown:PySem.W.nsIn K mainGlobals "_law_grown" =some (some (.ref f91)))
 (l_law_grown:K.lookup f91=some ⟨oc95,od92, .func (PySem.W.fnOf "_law_grown" "_law_grown" (defArgs s_law_grown) (defBody s_law_grown) (defScope s_law_grown) .none kV100 dc96 pm97 an93 cd98 ct99),sl94⟩)
 (c_law_grown:PySem.W.codeIn K cd98 "_law_grown" =true)
 (k_law_grown:PySem.W.keepIn K (.ref f91)=true)
 (a_law_code:PySem.W.nsIn K mainGlobals "_law_code" =some (some (.ref f101)))
 (l_law_code:K.lookup f101=some ⟨oc105,od102, .func (PySem.W.fnOf "_law_code" "_law_code" (defArgs s_law_code) (defBody s_law_code) (defScope s_law_code) .none kV110 dc106 pm107 an103 cd108 ct109),sl104⟩)
 (c_law_code:PySem.W.codeIn K cd108 "_law_code" =true)
 (k_law_code:PySem.W.keepIn K (.ref f101)=true)
 (a_law_spots:PySem.W.nsIn K mainGlobals "_law_spots" =some (some (.ref f111)))
 (l_law_spots:K.lookup f111=some ⟨oc115,od112, .func (PySem.W.fnOf "_law_spots" "_law_spots" (defArgs s_law_spots) (defBody s_law_spots) (defScope s_law_spots) .none kV120 dc116 pm117 an113 cd118 ct119),sl114⟩)
 (c_law_spots:PySem.W.codeIn K cd118 "_law_spots" =true)
 (k_law_spots:PySem.W.keepIn K (.ref f111)=true)
 (a_law_there:PySem.W.nsIn K mainGlobals "_law_there" =some (some (.ref f121)))
 (l_law_there:K.lookup f121=some ⟨oc125,od122, .func (PySem.W.fnOf "_law_there" "_law_there" (defArgs s_law_there) (defBody s_law_there) (defScope s_law_there) .none kV130 dc126 pm127 an123 cd128 ct129),sl124⟩)
 (c_law_there:PySem.W.codeIn K cd128 "_law_there" =true)
 (k_law_there:PySem.W.keepIn K (.ref f121)=true)
 (a_law_hole:PySem.W.nsIn K mainGlobals "_law_hole" =some (some (.ref f131)))
 (l_law_hole:K.lookup f131=some ⟨oc135,od132, .func (PySem.W.fnOf "_law_hole" "_law_hole" (defArgs s_law_hole) (defBody s_law_hole) (defScope s_law_hole) .none kV140 dc136 pm137 an133 cd138 ct139),sl134⟩)
 (c_law_hole:PySem.W.codeIn K cd138 "_law_hole" =true)
 (k_law_hole:PySem.W.keepIn K (.ref f131)=true)
 (a_law_holed:PySem.W.nsIn K mainGlobals "_law_holed" =some (some (.ref f141)))
 (l_law_holed:K.lookup f141=some ⟨oc145,od142, .func (PySem.W.fnOf "_law_holed" "_law_holed" (defArgs s_law_holed) (defBody s_law_holed) (defScope s_law_holed) .none kV150 dc146 pm147 an143 cd148 ct149),sl144⟩)
 (c_law_holed:PySem.W.codeIn K cd148 "_law_holed" =true)
 (k_law_holed:PySem.W.keepIn K (.ref f141)=true)
 (a_law_sought:PySem.W.nsIn K mainGlobals "_law_sought" =some (some (.ref f151)))
 (l_law_sought:K.lookup f151=some ⟨oc155,od152, .func (PySem.W.fnOf "_law_sought" "_law_sought" (defArgs s_law_sought) (defBody s_law_sought) (defScope s_law_sought) .none kV160 dc156 pm157 an153 cd158 ct159),sl154⟩)
 (c_law_sought:PySem.W.codeIn K cd158 "_law_sought" =true)
 (k_law_sought:PySem.W.keepIn K (.ref f151)=true)
 (a_law_deep:PySem.W.nsIn K mainGlobals "_law_deep" =some (some (.ref f161)))
 (l_law_deep:K.lookup f161=some ⟨oc165,od162, .func (PySem.W.fnOf "_law_deep" "_law_deep" (defArgs s_law_deep) (defBody s_law_deep) (defScope s_law_deep) .none kV170 dc166 pm167 an163 cd168 ct169),sl164⟩)
 (c_law_deep:PySem.W.codeIn K cd168 "_law_deep" =true)
 (k_law_deep:PySem.W.keepIn K (.ref f161)=true)
 (a_law_nodes:PySem.W.nsIn K mainGlobals "_law_nodes" =some (some (.ref f171)))
 (l_law_nodes:K.lookup f171=some ⟨oc175,od172, .func (PySem.W.fnOf "_law_nodes" "_law_nodes" (defArgs s_law_nodes) (defBody s_law_nodes) (defScope s_law_nodes) .none kV180 dc176 pm177 an173 cd178 ct179),sl174⟩)
 (c_law_nodes:PySem.W.codeIn K cd178 "_law_nodes" =true)
 (k_law_nodes:PySem.W.keepIn K (.ref f171)=true)
 (a_law_names_in:PySem.W.nsIn K mainGlobals "_law_names_in" =some (some (.ref f181)))
 (l_law_names_in:K.lookup f181=some ⟨oc185,od182, .func (PySem.W.fnOf "_law_names_in" "_law_names_in" (defArgs s_law_names_in) (defBody s_law_names_in) (defScope s_law_names_in) .none kV190 dc186 pm187 an183 cd188 ct189),sl184⟩)
 (c_law_names_in:PySem.W.codeIn K cd188 "_law_names_in" =true)
 (k_law_names_in:PySem.W.keepIn K (.ref f181)=true)
 (a_law_leaf_put:PySem.W.nsIn K mainGlobals "_law_leaf_put" =some (some (.ref f191)))
 (l_law_leaf_put:K.lookup f191=some ⟨oc195,od192, .func (PySem.W.fnOf "_law_leaf_put" "_law_leaf_put" (defArgs s_law_leaf_put) (defBody s_law_leaf_put) (defScope s_law_leaf_put) .none kV200 dc196 pm197 an193 cd198 ct199),sl194⟩)
 (c_law_leaf_put:PySem.W.codeIn K cd198 "_law_leaf_put" =true)
 (k_law_leaf_put:PySem.W.keepIn K (.ref f191)=true)
 (a_law_new:PySem.W.nsIn K mainGlobals "_law_new" =some (some (.ref f201)))
 (l_law_new:K.lookup f201=some ⟨oc205,od202, .func (PySem.W.fnOf "_law_new" "_law_new" (defArgs s_law_new) (defBody s_law_new) (defScope s_law_new) .none kV210 dc206 pm207 an203 cd208 ct209),sl204⟩)
 (c_law_new:PySem.W.codeIn K cd208 "_law_new" =true)
 (k_law_new:PySem.W.keepIn K (.ref f201)=true)
 (a_law_about:PySem.W.nsIn K mainGlobals "_law_about" =some (some (.ref f211)))
 (l_law_about:K.lookup f211=some ⟨oc215,od212, .func (PySem.W.fnOf "_law_about" "_law_about" (defArgs s_law_about) (defBody s_law_about) (defScope s_law_about) .none kV220 dc216 pm217 an213 cd218 ct219),sl214⟩)
 (c_law_about:PySem.W.codeIn K cd218 "_law_about" =true)
 (k_law_about:PySem.W.keepIn K (.ref f211)=true)
 (a_law_templ:PySem.W.nsIn K mainGlobals "_law_templ" =some (some (.ref f221)))
 (l_law_templ:K.lookup f221=some ⟨oc225,od222, .func (PySem.W.fnOf "_law_templ" "_law_templ" (defArgs s_law_templ) (defBody s_law_templ) (defScope s_law_templ) .none kV230 dc226 pm227 an223 cd228 ct229),sl224⟩)
 (c_law_templ:PySem.W.codeIn K cd228 "_law_templ" =true)
 (k_law_templ:PySem.W.keepIn K (.ref f221)=true)
 (a_law_counts:PySem.W.nsIn K mainGlobals "_law_counts" =some (some (.ref f231)))
 (l_law_counts:K.lookup f231=some ⟨oc235,od232, .func (PySem.W.fnOf "_law_counts" "_law_counts" (defArgs s_law_counts) (defBody s_law_counts) (defScope s_law_counts) .none kV240 dc236 pm237 an233 cd238 ct239),sl234⟩)
 (c_law_counts:PySem.W.codeIn K cd238 "_law_counts" =true)
 (k_law_counts:PySem.W.keepIn K (.ref f231)=true)
 (a_law:PySem.W.nsIn K mainGlobals "law" =some (some (.ref f241)))
 (l_law:K.lookup f241=some ⟨oc245,od242, .func (PySem.W.fnOf "law" "law" (defArgs s_law) (defBody s_law) (defScope s_law) .none kV250 dc246 pm247 an243 cd248 ct249),sl244⟩)
 (c_law:PySem.W.codeIn K cd248 "law" =true)
 (k_law:PySem.W.keepIn K (.ref f241)=true)
 (z_abs:PySem.W.nsIn K mainGlobals "abs" =some none)
 (z_all:PySem.W.nsIn K mainGlobals "all" =some none)
 (z_dict:PySem.W.nsIn K mainGlobals "dict" =some none)
 (z_enumerate:PySem.W.nsIn K mainGlobals "enumerate" =some none)
 (z_int:PySem.W.nsIn K mainGlobals "int" =some none)
 (z_len:PySem.W.nsIn K mainGlobals "len" =some none)
 (z_list:PySem.W.nsIn K mainGlobals "list" =some none)
 (z_max:PySem.W.nsIn K mainGlobals "max" =some none)
 (z_min:PySem.W.nsIn K mainGlobals "min" =some none)
 (z_range:PySem.W.nsIn K mainGlobals "range" =some none)
 (z_repr:PySem.W.nsIn K mainGlobals "repr" =some none)
 (z_set:PySem.W.nsIn K mainGlobals "set" =some none)
 (z_sorted:PySem.W.nsIn K mainGlobals "sorted" =some none)
 (z_tuple:PySem.W.nsIn K mainGlobals "tuple" =some none)
 (x_HOLES:PySem.W.nsIn K mainGlobals "HOLES" =some (some (.ref a251)))
 (l_HOLES:K.lookup a251=some ⟨.type "tuple",dd256, .seq (List.toArray [(.str "any" t252),(.str "called" t253),(.str "count" t254),(.str "rest" t255)]) n257,sl258⟩)
 : ∃fd:FuncData,(∀ (s:Shared) (v:Value),BindsTo s fd ⟨[v],[]⟩ [("_law_script",v)])∧∀base:Heap,K.In base→base.Ns mainGlobals mg→(∃ o,base.get? sysModules=some o)→FnG l.prog w K mg base 100 fa fd ["_law_script"] (spLaw K):=by
 have e:=hfa.symm.trans (PySem.W.mg_of X G a_law)
 cases e
 have F_listed:=funD_mk (K:=K) (kws:= []) l_listed c_listed k_listed kw_none
 have F_nodes_of:=funD_mk (K:=K) (kws:= []) l_nodes_of c_nodes_of k_nodes_of kw_none
 have F_holes_counted:=funD_mk (K:=K) (kws:= []) l_holes_counted c_holes_counted k_holes_counted kw_none
 have F_is_lean:=funD_mk (K:=K) (kws:= []) l_is_lean c_is_lean k_is_lean kw_none
 have F_law_hand:=funD_mk (K:=K) (kws:= []) l_law_hand c_law_hand k_law_hand kw_none
 have F_law_take:=funD_mk (K:=K) (kws:= []) l_law_take c_law_take k_law_take kw_none
 have F_law_pick:=funD_mk (K:=K) (kws:= []) l_law_pick c_law_pick k_law_pick kw_none
 have F_law_called:=funD_mk (K:=K) (kws:= []) l_law_called c_law_called k_law_called kw_none
 have F_law_digit:=funD_mk (K:=K) (kws:= []) l_law_digit c_law_digit k_law_digit kw_none
 have F_law_grown:=funD_mk (K:=K) (kws:= []) l_law_grown c_law_grown k_law_grown kw_none
 have F_law_code:=funD_mk (K:=K) (kws:= []) l_law_code c_law_code k_law_code kw_none
 have F_law_spots:=funD_mk (K:=K) (kws:= []) l_law_spots c_law_spots k_law_spots kw_none
 have F_law_there:=funD_mk (K:=K) (kws:= []) l_law_there c_law_there k_law_there kw_none
 have F_law_hole:=funD_mk (K:=K) (kws:= []) l_law_hole c_law_hole k_law_hole kw_none
 have F_law_holed:=funD_mk (K:=K) (kws:= []) l_law_holed c_law_holed k_law_holed kw_none
 have F_law_sought:=funD_mk (K:=K) (kws:= []) l_law_sought c_law_sought k_law_sought kw_none
 have F_law_deep:=funD_mk (K:=K) (kws:= []) l_law_deep c_law_deep k_law_deep kw_none
 have F_law_nodes:=funD_mk (K:=K) (kws:= []) l_law_nodes c_law_nodes k_law_nodes kw_none
 have F_law_names_in:=funD_mk (K:=K) (kws:= []) l_law_names_in c_law_names_in k_law_names_in kw_none
 have F_law_leaf_put:=funD_mk (K:=K) (kws:= []) l_law_leaf_put c_law_leaf_put k_law_leaf_put kw_none
 have F_law_new:=funD_mk (K:=K) (kws:= []) l_law_new c_law_new k_law_new kw_none
 have F_law_about:=funD_mk (K:=K) (kws:= []) l_law_about c_law_about k_law_about kw_none
 have F_law_templ:=funD_mk (K:=K) (kws:= []) l_law_templ c_law_templ k_law_templ kw_none
 have F_law_counts:=funD_mk (K:=K) (kws:= []) l_law_counts c_law_counts k_law_counts kw_none
 have F_law:=funD_mk (K:=K) (kws:= []) l_law c_law k_law kw_none
 have T:Txt K w mg (fun i=>([f1,f11,f21,f31,f41,f51,f61,f71,f81,f91,f101,f111,f121,f131,f141,f151,f161,f171,f181,f191,f201,f211,f221,f231,fa] :List Addr).getD i 0) (fdOf _ _ _ _ _ _ _ _ _ _ _ _ _ _ _ _ _ _ _ _ _ _ _ _ _):= {
  z_abs:=PySem.W.mg_none_of X G z_abs,
  z_all:=PySem.W.mg_none_of X G z_all,
  z_dict:=PySem.W.mg_none_of X G z_dict,
  z_enumerate:=PySem.W.mg_none_of X G z_enumerate,
  z_int:=PySem.W.mg_none_of X G z_int,
  z_len:=PySem.W.mg_none_of X G z_len,
  z_list:=PySem.W.mg_none_of X G z_list,
  z_max:=PySem.W.mg_none_of X G z_max,
  z_min:=PySem.W.mg_none_of X G z_min,
  z_range:=PySem.W.mg_none_of X G z_range,
  z_repr:=PySem.W.mg_none_of X G z_repr,
  z_set:=PySem.W.mg_none_of X G z_set,
  z_sorted:=PySem.W.mg_none_of X G z_sorted,
  z_tuple:=PySem.W.mg_none_of X G z_tuple,
  c_HOLES:=grep_of (PySem.W.mg_of X G x_HOLES) (kv_tup l_HOLES (kvs_cons kv_str (kvs_cons kv_str (kvs_cons kv_str (kvs_cons kv_str kvs_nil))))),
  g_listed:=PySem.W.mg_of X G a_listed,
  F_listed:=F_listed,
  g_nodes_of:=PySem.W.mg_of X G a_nodes_of,
  F_nodes_of:=F_nodes_of,
  g_holes_counted:=PySem.W.mg_of X G a_holes_counted,
  F_holes_counted:=F_holes_counted,
  g_is_lean:=PySem.W.mg_of X G a_is_lean,
  F_is_lean:=F_is_lean,
  g_law_hand:=PySem.W.mg_of X G a_law_hand,
  F_law_hand:=F_law_hand,
  g_law_take:=PySem.W.mg_of X G a_law_take,
  F_law_take:=F_law_take,
  g_law_pick:=PySem.W.mg_of X G a_law_pick,
  F_law_pick:=F_law_pick,
  g_law_called:=PySem.W.mg_of X G a_law_called,
  F_law_called:=F_law_called,
  g_law_digit:=PySem.W.mg_of X G a_law_digit,
  F_law_digit:=F_law_digit,
  g_law_grown:=PySem.W.mg_of X G a_law_grown,
  F_law_grown:=F_law_grown,
  g_law_code:=PySem.W.mg_of X G a_law_code,
  F_law_code:=F_law_code,
  g_law_spots:=PySem.W.mg_of X G a_law_spots,
  F_law_spots:=F_law_spots,
  g_law_there:=PySem.W.mg_of X G a_law_there,
  F_law_there:=F_law_there,
  g_law_hole:=PySem.W.mg_of X G a_law_hole,
  F_law_hole:=F_law_hole,
  g_law_holed:=PySem.W.mg_of X G a_law_holed,
  F_law_holed:=F_law_holed,
  g_law_sought:=PySem.W.mg_of X G a_law_sought,
  F_law_sought:=F_law_sought,
  g_law_deep:=PySem.W.mg_of X G a_law_deep,
  F_law_deep:=F_law_deep,
  g_law_nodes:=PySem.W.mg_of X G a_law_nodes,
  F_law_nodes:=F_law_nodes,
  g_law_names_in:=PySem.W.mg_of X G a_law_names_in,
  F_law_names_in:=F_law_names_in,
  g_law_leaf_put:=PySem.W.mg_of X G a_law_leaf_put,
  F_law_leaf_put:=F_law_leaf_put,
  g_law_new:=PySem.W.mg_of X G a_law_new,
  F_law_new:=F_law_new,
  g_law_about:=PySem.W.mg_of X G a_law_about,
  F_law_about:=F_law_about,
  g_law_templ:=PySem.W.mg_of X G a_law_templ,
  F_law_templ:=F_law_templ,
  g_law_counts:=PySem.W.mg_of X G a_law_counts,
  F_law_counts:=F_law_counts,
  g_law:=PySem.W.mg_of X G a_law,
  F_law:=F_law }
 exact⟨_,fun s v=> .of_eq rfl,fun base _ _ hM=>law_ok (G:=⟨K,w,mg⟩) (all (P:=l.prog) (base:=base) hM T 100).c_law.1 TT⟩
end K60
namespace L3
open PySem L2
def WORDS:List Str:= ["plus","times","most","row","say","less","below","if","let","each","num","name","any","rest","called","count"]
def isLet (c:Nat):Bool:=decide (97≤c)&&decide (c≤122)
structure NameOk (s:Str):Prop where
 lo:1≤s.length
 hi:s.length≤8
 lt:s.cps.toList.all isLet=true
 nw:s ∉ WORDS
inductive Tm where
 |num (i:Int)|nam (s:Str)|nd (w m:Str) (ps:List Tm)
mutual
def Tm.d:Tm→D
 | .num i=> .tup [.str "num", .int i, .tup []]
 | .nam s=> .tup [.str "name", .str s, .tup []]
 | .nd w m ps=> .tup [.str w, .str m, .tup (Tm.ds ps)]
def Tm.ds:List Tm→List D
 | [] => []
 |t::ts=>t.d::Tm.ds ts
end
mutual
def Tm.size:Tm→Nat
 | .num _=>1
 | .nam _=>1
 | .nd _ _ ps=>1+Tm.sizes ps
def Tm.sizes:List Tm→Nat
 | [] =>0
 |t::ts=>t.size+Tm.sizes ts
end
mutual
def Tm.dep:Tm→Nat
 | .num _=>1
 | .nam _=>1
 | .nd _ _ ps=>1+Tm.deps ps
def Tm.deps:List Tm→Nat
 | [] =>0
 |t::ts=>max t.dep (Tm.deps ts)
end
theorem Tm.ds_map:∀ts:List Tm,Tm.ds ts=ts.map Tm.d
 | [] =>rfl
 |t::ts=>by simp[Tm.ds,Tm.ds_map ts]
theorem Tm.ds_len (ts:List Tm):(Tm.ds ts).length=ts.length:=by simp[Tm.ds_map]
theorem Tm.sizes_app:∀a b:List Tm,Tm.sizes (a++b)=Tm.sizes a+Tm.sizes b
 | [],b=>by simp[Tm.sizes]
 |t::a,b=>by simp[Tm.sizes,Tm.sizes_app a b];omega
theorem Tm.deps_le {B:Nat} :∀ {ts:List Tm},Tm.deps ts≤B↔∀t ∈ ts,t.dep≤B
 | [] =>by simp[Tm.deps]
 |t::ts=>by simp[Tm.deps,Tm.deps_le (ts:=ts),Nat.max_le]
theorem Tm.size_pos:∀t:Tm,1≤t.size
 | .num _=>by simp[Tm.size]
 | .nam _=>by simp[Tm.size]
 | .nd _ _ ps=>by simp[Tm.size]
theorem Tm.dep_pos:∀t:Tm,1≤t.dep
 | .num _=>by simp[Tm.dep]
 | .nam _=>by simp[Tm.dep]
 | .nd _ _ ps=>by simp[Tm.dep]
def shape (w:Str):Option (Nat × Nat × Bool):=
 if w= "plus" ∨w= "times" ∨w= "most" then some (1,6,false)
 else if w= "row" then some (0,6,false)
 else if w= "say" then some (1,1,false)
 else if w= "less" ∨w= "below" then some (2,2,false)
 else if w= "if" then some (3,3,false)
 else if w= "let" ∨w= "each" then some (2,2,true)
 else none
inductive Src (n:Nat) (S:Store):D→List D→Prop where
 |lst (l:List D):Src n S (.lst l) l
 |tup (l:List D):Src n S (.tup l) l
 |str (z:Str):z.length≤1000→Src n S (.str z) (z.cps.toList.map sgn)
 |obj {q:Nat} {l:List D} :q≠n→S[q]? =some (.lst l)→Src n S (.obj q) l
theorem Src.fr {n:Nat} {S S':Store} {x:D} {l:List D} (h:Src n S x l) (f:FrH n S S'):Src n S' x l:=by
 cases h with
 |lst=>exact .lst _
 |tup=>exact .tup _
 |str _ hz=>exact .str _ hz
 |obj hq e=>exact .obj hq (f.fr _ _ hq e)
theorem Src.len {n:Nat} {S:Store} {x:D} {l:List D} (h:Src n S x l):lenD [x] S= .ok (.int l.length) S:=by
 cases h with
 |lst=>rfl
 |tup=>rfl
 |str z hz=>
  unfold lenD
  simp only
  rw[if_pos (small hz)]
  simp[Str.length]
 |obj _ e=>exact len_obj e
theorem atI_map {α β :Type} (f: α → β) (l:List α) (i:Int):atI (l.map f) i=(atI l i).map f:=by
 unfold atI
 rw[List.length_map]
 cases ixN l.length i with
 |none=>rfl
 |some j=>simp
theorem Src.ix {n:Nat} {S:Store} {x:D} {l:List D} (h:Src n S x l) {i:Int} (h0:0≤i) (h1:i<l.length):∃d ∈ l,ixD x (.int i) S= .ok d S:=by
 obtain⟨d,hd,e⟩:=atI_mem h0 h1
 refine⟨d,hd,?_⟩
 cases h with
 |lst=>simp[ixD,e]
 |tup=>simp[ixD,e]
 |str z hz=>
  rw[atI_map] at e
  cases q:atI z.cps.toList i with
  |none=>rw[q] at e;cases e
  |some c=>
   rw[q] at e
   cases e
   simp only[ixD]
   rw[if_pos (small hz),q]
 |obj _ e2=>simp[ixD,e2,e]
def IsPick2 (pk:FN):Prop:=∀(n:Nat) (S:Store) (x:D) (l:List D),Hand n S→Src n S x l→l≠ [] →l.length<2 ^ 32→(pk [.obj n,x] S).sat fun d S'=>d ∈ l∧FrH n S S'
theorem isPick2 {tk:FN} (ht:IsTake tk):IsPick2 (run 2 2 (mPick tk)):=fun n S x l h hs h1 h2=>by
 have hl:0<l.length:=(match l,h1 with|_::_,_=>by simp)
 rw[sat_run]
 refine⟨rfl,?_⟩
 unfold mPick
 simp only[ssat_sRet,sat_e2,sat_eVar,sat_eN,sat_aCons,sat_aNil,callK_eq,List.append_nil,List.map_cons,List.map_nil,List.length_cons,List.length_nil,List.replicate,List.getElem?_cons_succ,List.getElem?_cons_zero,List.cons_append,List.nil_append,hs.len,sat_ok]
 refine sat_mono (ht n S l.length h (by omega) (by omega)) fun d S' q=> ?_
 obtain⟨⟨i,rfl,h0,h3⟩,fr⟩:=q
 obtain⟨d,hd,e⟩:=(hs.fr fr).ix h0 h3
 rw[e,sat_ok]
 exact⟨hd,fr⟩
theorem lc_acc {i:Nat} {te:ED} {env:EnvD} (I:List D→Store→Prop):∀ {xs:List D} {acc:List D} {S:Store} {Q:List D→Store→Prop},
 I acc S→(∀ x ∈ xs,∀acc S,I acc S→(te (env.set i (some x)) S).sat fun y S'=>I (acc++ [y]) S')→(∀ ys S',ys.length=xs.length→I (acc++ys) S'→Q ys S')→lcSat (gName i) tYesD te env xs S Q
 | [],acc,S,Q,hI,ht,hQ=>hQ [] S rfl (by simpa using hI)
 |x::xs,acc,S,Q,hI,ht,hQ=>by
  unfold lcSat
  simp only[gName,tYesD,sat_ok,if_true]
  refine sat_mono (ht x (List.mem_cons_self ..) acc S hI) fun y S3 h=> ?_
  refine lc_acc I (acc:=acc++ [y]) h (fun x hx=>ht x (List.mem_cons_of_mem _ hx)) fun ys S' h1 h2=>hQ _ _ (by simp[h1]) (by simpa using h2)
def LET:Str:= "abcdefghijklmnopqrstuvwxyz"
theorem let_ix {i:Int} (h0:0≤i) (h1:i<26) (S:Store):∃c,isLet c=true∧ixD (.str LET) (.int i) S= .ok (.str ⟨#[c]⟩) S:=by
 obtain⟨d,hd,e⟩:=(Src.str (n:=0) (S:=S) LET (by decide +kernel)).ix h0 (by rw[show (LET.cps.toList.map sgn).length=26 by decide +kernel];omega)
 simp only[List.mem_map] at hd
 obtain⟨c,hc,rfl⟩:=hd
 have:LET.cps.toList.all isLet=true:=by decide +kernel
 exact⟨c,List.all_eq_true.mp this c hc,e⟩
theorem let_src {n:Nat} {S:Store} :Src n S (.str LET) (LET.cps.toList.map sgn):= .str _ (by decide +kernel)
theorem let_mem {d:D} (h:d ∈ LET.cps.toList.map sgn):∃c,isLet c=true∧d= .str ⟨#[c]⟩:=by
 simp only[List.mem_map] at h
 obtain⟨c,hc,rfl⟩:=h
 have:LET.cps.toList.all isLet=true:=by decide +kernel
 exact⟨c,List.all_eq_true.mp this c hc,rfl⟩
theorem name_one {c:Nat} (h:isLet c=true):NameOk ⟨#[c]⟩:=by
 refine⟨by simp[Str.length],by simp[Str.length],by simp[h],fun hw=> ?_⟩
 have:∀s ∈ WORDS,s.length≠1:=by decide +kernel
 exact this _ hw rfl
theorem nameWithX {s:Str} (h:s ∈ WORDS):NameOk (s++ "x"):=by
 have a:WORDS.all (fun s=>decide (1≤(s++ "x").length)&&decide ((s++ "x").length≤8)&&(s++ "x").cps.toList.all isLet&&decide ((s++ "x") ∉ WORDS))=true:=by decide +kernel
 have:=List.all_eq_true.mp a s h
 simp only[Bool.and_eq_true,decide_eq_true_eq] at this
 exact⟨this.1.1.1,this.1.1.2,this.1.2,this.2⟩
end L3
namespace L3
open PySem L2
theorem sz0:((0:Nat)≤sizeLine)=True:=eq_true (by decide)
theorem sz1:((1:Nat)≤sizeLine)=True:=eq_true (by decide)
theorem sz2:((2:Nat)≤sizeLine)=True:=eq_true (by decide)
theorem sz3:((3:Nat)≤sizeLine)=True:=eq_true (by decide)
theorem sz4:((4:Nat)≤sizeLine)=True:=eq_true (by decide)
theorem sz5:((5:Nat)≤sizeLine)=True:=eq_true (by decide)
theorem sz6:((6:Nat)≤sizeLine)=True:=eq_true (by decide)
theorem sz7:((7:Nat)≤sizeLine)=True:=eq_true (by decide)
theorem sz8:((8:Nat)≤sizeLine)=True:=eq_true (by decide)
theorem sz10:((10:Nat)≤sizeLine)=True:=eq_true (by decide)
theorem sz17:((17:Nat)≤sizeLine)=True:=eq_true (by decide)
local macro_rules| `(tactic| open_k)=> `(tactic| simp only[ssat_seq,ssat_asg,ssat_sRet,ssat_sExpr,ssat_if,ssat_skip,ssat_par,ssat_nx,ssat_ret,ssat_for,sat_e2,sat_e1,sat_eN,sat_aCons,sat_aNil,sat_eVar,sat_eK,sat_tOfE,sat_tTruth,sat_tNot,sat_tAnd,sat_tOr,sat_eIf,sat_eBM,sat_iSeq,sat_iArgs,sat_eAnd,sat_eOr,sat_eNot,sat_eChain,sat_eSl,sat_pNo,sat_pYes,sat_eLc,sat_eKw,sat_mkTup,sat_mkLst,sat_mkObj,sat_ok,callK_eq,List.append_nil,List.map_cons,List.map_nil,List.length_cons,List.length_nil,List.replicate,List.getElem?_cons_succ,List.getElem?_cons_zero,List.cons_append,List.nil_append,List.set_cons_succ,List.set_cons_zero,gName_eq,gTup_tup,gNames_cons,gNames_nil,Nat.zero_add,Nat.reduceAdd,Nat.reduceSub,sz0,sz1,sz2,sz3,sz4,sz5,sz6,sz7,sz8,sz10,sz17,true_and,add_int,sub_int,neg_int,lt_int,le_int,gt_int,ge_int,eq_int,ne_int,blD_bl,truthD_bl,itemsD_lst,itemsD_tup,wipeD,eq_strs,ne_strs,sl_tup,sl_lst,if_true,if_false,Bool.false_eq_true,sat_range1,sat_range2,tuple_lst,tuple_tup,len_tup,len_lst,len_scr])
def mCalled (tk pk:FN):SD:=
    sSeq (sAsg (eK (.str "abcdefghijklmnopqrstuvwxyz")) (gName 2))
    (sSeq (sAsg (eBM "str" splitD (eK (.str "plus times most row say less below if let each num name any rest called count")) (aCons (eK (.str " ")) (aNil))) (gName 3))
    (sSeq (sAsg (eN mkTup (aCons (eN (callK tk []) (aCons (eVar 0) (aCons (eK (.int 676)) (aNil)))) (aCons (eN (callK pk []) (aCons (eVar 0) (aCons (eN mkLst (aCons (eK (.int 1)) (aCons (eK (.int 3)) (aCons (eK (.int 7)) (aCons (eK (.int 25)) (aCons (eK (.int 27)) (aCons (eK (.int 51)) (aCons (eK (.int 105)) (aNil))))))))) (aNil)))) (aNil)))) (gTup [4,5]))
    (sSeq (sIf (tAnd (tOfE (e2 ltD (eVar 1) (eK (.int 27)))) (tOfE (e2 eqD (eN (callK tk []) (aCons (eVar 0) (aCons (eK (.int 6)) (aNil)))) (eK (.int 0))))) (sRet (eLc (iArgs range1 (aCons (eVar 1) (aNil))) [6] (gName 6) (tYesD) (e2 ixD (eVar 2) (e2 modD (e2 addD (eVar 4) (eVar 6)) (eK (.int 26)))))) (sSkip))
    (sSeq (sAsg (eBM "str" joinD (eK (.str "")) (aCons (eLc (iArgs range1 (aCons (eN (callK pk []) (aCons (eVar 0) (aCons (eN mkLst (aCons (eK (.int 0)) (aCons (eK (.int 0)) (aCons (eK (.int 1)) (aCons (eK (.int 2)) (aCons (eK (.int 6)) (aNil))))))) (aNil)))) (aNil))) [6] (gName 6) (tYesD) (eN (callK pk []) (aCons (eVar 0) (aCons (eVar 2) (aNil))))) (aNil))) (gName 7))
    (sSeq (sPar [8,9] (aCons (eN (callK tk []) (aCons (eVar 0) (aCons (e2 addD (eN lenD (aCons (eVar 7) (aNil))) (eK (.int 1))) (aNil)))) (aCons (eN mkObj (aNil)) (aNil))))
    (sSeq (sFor (iArgs range1 (aCons (eVar 1) (aNil))) (gName 6) (sSeq (sAsg (e2 modD (e2 addD (eVar 4) (e2 mulD (eVar 5) (eVar 6))) (eK (.int 676))) (gName 10))
    (sSeq (sAsg (e2 addD (e2 ixD (eVar 2) (e2 fdivD (eVar 10) (eK (.int 26)))) (e2 ixD (eVar 2) (e2 modD (eVar 10) (eK (.int 26))))) (gName 11))
    (sSeq (sAsg (e2 addD (e2 addD (eSl (eVar 7) (pNo) (pYes (eVar 8))) (eVar 11)) (eSl (eVar 7) (pYes (eVar 8)) (pNo))) (gName 12))
    (sExpr (eBM "list" appendD (eVar 9) (aCons (e2 addD (eVar 12) (e2 mulD (eK (.str "x")) (eN intD (aCons (e2 inD (eVar 12) (eVar 3)) (aNil))))) (aNil))))))))
    (sRet (eVar 9))))))))
def mDigit (tk pk:FN):SD:=
    sRet (eN (callK pk []) (aCons (eVar 0) (aCons (eN mkLst (aCons (eK (.int 0)) (aCons (eK (.int 1)) (aCons (eK (.int 2)) (aCons (eK (.int 3)) (aCons (eN (callK tk []) (aCons (eVar 0) (aCons (eK (.int 6)) (aNil)))) (aCons (eK (.int 9972)) (aCons (eN (callK tk []) (aCons (eVar 0) (aCons (eK (.int 9973)) (aNil)))) (aNil))))))))) (aNil))))
theorem split_words {S:Store} :splitD (.str "plus times most row say less below if let each num name any rest called count") [.str " "] S= .ok (.lst (WORDS.map .str)) S:=by kernel_rfl
theorem mt_str {z:Str} {S:Store} :mtD (.str z) S=some "str" :=rfl
def PoolV (S S':Store) (d:D) (l:List Str):Prop:=d= .lst (l.map .str)∨∃q,S.length≤q∧d= .obj q∧S'[q]? =some (.lst (l.map .str))
theorem in_words {s:Str} {S:Store} (h:s.cps.toList.all isLet=true):inD (.str s) (.lst (WORDS.map .str)) S= .ok (.bl (decide (s ∈ WORDS))) S:=by
 have ok:PyData.strOk s=true:=by
  unfold PyData.strOk
  rw[← Array.all_toList,List.all_eq_true]
  intro c hc
  have:=List.all_eq_true.mp h c hc
  simp only[isLet,Bool.and_eq_true,decide_eq_true_eq] at this
  simp only[decide_eq_true_eq];omega
 have ws:toPyL (WORDS.map .str)=some (WORDS.map .str):=by kernel_rfl
 have e:memD (.str s) (.lst (WORDS.map .str)) S=some (decide (s ∈ WORDS)):=by
  simp only[memD,memData,toPy,ok,if_true,ws,Option.map_some]
  rw[if_pos (show(PyData.str s).depth≤64 by simp[PyData.depth])]
  congr 1
  rw[Bool.eq_iff_iff]
  simp only[List.any_map,List.any_eq_true,Function.comp,decide_eq_true_eq,PyData.eqv]
  constructor
  ·rintro⟨x,hx,e⟩
   have:x=s:=by simpa using e
   exact this▸hx
  ·intro hx
   exact⟨s,hx,by simp⟩
 unfold inD
 rw[e]
theorem join_letters:∀(cs:List Nat),Txt.join "" (cs.map fun c=>(⟨#[c]⟩:Str))=⟨cs.toArray⟩:=by
 intro cs
 rw[TL.join_eq]
 have:TL.tl (Str.join "" (cs.map fun c=>(⟨#[c]⟩:Str)))=cs:=by
  rw[TL.tl_join]
  have e0:TL.tl "" = [] :=by decide +kernel
  rw[e0]
  induction cs with
  |nil=>rfl
  |cons c cs ih=>
   cases cs with
   |nil=>rfl
   |cons b cs=>
    simp only[List.map_cons,TL.joinL,List.nil_append] at ih ⊢
    rw[ih]
    rfl
 have e:∀z:Str,z=⟨(TL.tl z).toArray⟩:=fun z=>by
  cases z with
  |mk a=>simp[TL.tl]
 rw[e (Str.join _ _),this]
section
variable {S:Store} {env:EnvD} {N B C:EnvD→Store→Prop} {T:D→Store→Prop} {a b c d e r:SD}
theorem seq2 (M:EnvD→Store→Prop) (h:(sSeq a b env S).sat M T B C) (k:∀e S,M e S→(r e S).sat N T B C):(sSeq a (sSeq b r) env S).sat N T B C:=by
 rw[ssat_seq] at h ⊢
 exact ssat_mono h (fun _ _ h=>seq_rule M h k) (fun _ _ h=>h) (fun _ _ h=>h) fun _ _ h=>h
theorem seq3 (M:EnvD→Store→Prop) (h:(sSeq a (sSeq b c) env S).sat M T B C) (k:∀e S,M e S→(r e S).sat N T B C):(sSeq a (sSeq b (sSeq c r)) env S).sat N T B C:=by
 rw[ssat_seq] at h ⊢
 exact ssat_mono h (fun _ _ h=>seq2 M h k) (fun _ _ h=>h) (fun _ _ h=>h) fun _ _ h=>h
theorem seq4 (M:EnvD→Store→Prop) (h:(sSeq a (sSeq b (sSeq c d)) env S).sat M T B C) (k:∀e S,M e S→(r e S).sat N T B C):(sSeq a (sSeq b (sSeq c (sSeq d r))) env S).sat N T B C:=by
 rw[ssat_seq] at h ⊢
 exact ssat_mono h (fun _ _ h=>seq3 M h k) (fun _ _ h=>h) (fun _ _ h=>h) fun _ _ h=>h
end
theorem FrH.mk2 {n:Nat} {S S':Store} (h:FrH n S S') (o:O):FrH n S (S'++ [o]):=h.trans (.app h.hd o)
theorem len_s {z:Str} {S:Store} (h:z.length≤1000):lenD [.str z] S= .ok (.int z.length) S:=by
 unfold lenD;simp only;rw[if_pos (small h)]
theorem sl_str {z:Str} {lo hi:Option Int} {S:Store} (h:z.length≤1000):slD (.str z) lo hi S= .ok (.str (cutS z lo hi)) S:=by
 unfold slD;simp only;rw[if_pos (small h)]
theorem md {i:Int} :0≤i % 26∧i % 26<26:=⟨Int.emod_nonneg _ (by decide),Int.emod_lt_of_pos _ (by decide)⟩
theorem mulx {b:Bool} {S:Store} :mulD (.str "x") (.int (if b=true then 1 else 0)) S= .ok (.str (if b=true then "x" else "")) S:=by cases b<;>kernel_rfl
theorem strs_map:∀l:List Str,allStrs (l.map .str)=some l
 | [] =>rfl
 |s::l=>by simp[allStrs,strs_map l]
theorem word_ok {st:List Nat} {a b:Nat} {sp:Nat} (hs:st.all isLet=true) (ha:isLet a=true) (hb:isLet b=true) (hl:st.length≤6) (hsp:sp≤st.length) (z:Str) (hz:z=⟨(st.take sp++ [a,b] ++st.drop sp).toArray⟩):
 z.cps.toList.all isLet=true∧z.length≤8∧NameOk (z++(if decide (z ∈ WORDS)=true then("x" :Str) else("" :Str))):=by
 have e1:z.cps.toList=st.take sp++ [a,b] ++st.drop sp:=by rw[hz]
 have l1:z.length=st.length+2:=by
  rw[TL.len_tl]
  show z.cps.toList.length=_
  rw[e1];simp;omega
 have al:z.cps.toList.all isLet=true:=by
  rw[e1]
  simp only[List.all_append,List.all_cons,List.all_nil,ha,hb,Bool.and_true,Bool.and_eq_true]
  rw[List.all_eq_true] at hs ⊢
  refine⟨fun x hx=>hs x (List.mem_of_mem_take hx),?_⟩
  rw[List.all_eq_true]
  exact fun x hx=>hs x (List.mem_of_mem_drop hx)
 refine⟨al,by omega,?_⟩
 by_cases hw:z ∈ WORDS
 ·simp only[hw,decide_true,if_true]
  exact nameWithX hw
 ·simp only[hw,decide_false,Bool.false_eq_true,if_false]
  have:z++("" :Str)=z:=by
   apply TL.ext_tl
   show(z.cps++("" :Str).cps).toList=z.cps.toList
   rw[Array.toList_append,show("" :Str).cps.toList= [] by decide +kernel,List.append_nil]
  rw[this]
  exact⟨by omega,by omega,al,hw⟩
theorem called_ok {tk pk:FN} (ht:IsTake tk) (hp:IsPick2 pk) {n:Nat} {S:Store} (hS:Hand n S) {many:Nat} (hm:many≤1000):(run 2 13 (mCalled tk pk) [.obj n, .int many] S).sat fun d S'=>FrH n S S'∧∃l:List Str,l.length=many∧(∀ s ∈ l,NameOk s)∧PoolV S S' d l:=by
 rw[sat_run]
 refine⟨rfl,?_⟩
 unfold mCalled
 have okm:okRng (many:Int)=true:=by simp[okRng];omega
 refine seq4 (fun e S1=>∃f b:Int,e= [some (.obj n),some (.int many),some (.str LET),some (.lst (WORDS.map .str)),some (.int f),some (.int b),none,none,none,none,none,none,none] ∧0≤f∧0≤b∧FrH n S S1) ?_ ?_
 ·open_k
  simp only[mt_str,split_words,sat_ok,true_and]
  refine sat_mono (ht n S 676 hS (by decide) (by decide)) fun d1 S1 ⟨⟨f,e1,f0,f1⟩,fr1⟩=> ?_
  subst e1
  refine sat_mono (hp n S1 _ _ fr1.hd (.lst _) (by simp) (by simp)) fun d2 S2 ⟨hb,fr2⟩=> ?_
  obtain⟨b,rfl,b0⟩:∃b:Int,d2= .int b∧0≤b:=by
   simp at hb
   rcases hb with rfl|rfl|rfl|rfl|rfl|rfl|rfl<;>exact⟨_,rfl,by decide⟩
  have fin:∀S3,FrH n S S3→∃f_1 b_1:Int,[some (D.obj n),some (D.int ↑many),some (D.str "abcdefghijklmnopqrstuvwxyz"),some (D.lst (List.map D.str WORDS)),some (D.int f),some (D.int b),none,none,none,none,none,none,none] = [some (.obj n),some (.int many),some (.str LET),some (.lst (WORDS.map .str)),some (.int f_1),some (.int b_1),none,none,none,none,none,none,none] ∧0≤f_1∧0≤b_1∧FrH n S S3:=fun S3 fr=>⟨f,b,rfl,f0,b0,fr⟩
  by_cases h27:(many:Int)<27
  ·simp only[h27,decide_true,if_true]
   refine sat_mono (ht n S2 6 fr2.hd (by decide) (by decide)) fun d3 S3 ⟨⟨z,e3,_,_⟩,fr3⟩=> ?_
   subst e3
   open_k
   by_cases hz:z=0
   ·simp only[hz,decide_true,if_true]
    refine⟨okm,by rw[rangeD_len];exact small (by omega),?_⟩
    refine lc_rule (fun S'=>S'=S3) (fun _ y=>∃s,y= .str s∧NameOk s) rfl (fun x hx S4 e4=> ?_) fun ys S5 e5 hy=> ?_
    ·subst e4
     obtain⟨i,rfl,i0,i1⟩:=mem_range hx
     open_k
     simp only[mod_int]
     refine⟨by decide,?_⟩
     obtain⟨c,hc,e⟩:=let_ix (md (i:=f+i)).1 (md (i:=f+i)).2 S4
     rw[show ("abcdefghijklmnopqrstuvwxyz" :Str)=LET from rfl,e,sat_ok]
     exact⟨⟨_,rfl,name_one hc⟩,rfl⟩
    ·subst e5
     obtain⟨l,rfl,hl⟩:∃l:List Str,ys=l.map .str∧∀s ∈ l,NameOk s:=by
      clear okm hm h27 fin
      generalize rangeD 0 (many:Int)=xs at hy
      induction hy with
      |nil=>exact⟨[],rfl,by simp⟩
      |cons p _ ih=>
       obtain⟨s,rfl,hs⟩:=p
       obtain⟨l,rfl,hl⟩:=ih
       exact⟨s::l,rfl,by simpa using⟨hs,hl⟩⟩
     have:=hy.len
     simp at this
     exact⟨(fr1.trans fr2).trans fr3,l,this,hl, .inl rfl⟩
   ·simp only[hz,decide_false,Bool.false_eq_true,if_false]
    exact fin S3 ((fr1.trans fr2).trans fr3)
  ·simp only[h27,decide_false,Bool.false_eq_true,if_false]
   exact fin S2 (fr1.trans fr2)
 ·rintro e S1 ⟨f,b,rfl,f0,b0,fr⟩
  have hlt:=hS.lt
  refine seq2 (fun e S2=>∃(st:List Nat) (sp q:Nat),e= [some (.obj n),some (.int many),some (.str LET),some (.lst (WORDS.map .str)),some (.int f),some (.int b),none,some (.str ⟨st.toArray⟩),some (.int sp),some (.obj q),none,none,none] ∧
   st.all isLet=true∧st.length≤6∧sp≤st.length∧FrH n S S2∧S.length≤q∧S2[q]? =some (.lst [])) ?_ ?_
  ·open_k
   simp only[mt_str,true_and]
   refine sat_mono (hp n S1 _ _ fr.hd (.lst _) (by simp) (by simp)) fun d2 S2 ⟨hb,fr2⟩=> ?_
   obtain⟨L,rfl,hL⟩:∃L:Nat,d2= .int L∧L≤6:=by
    simp at hb
    rcases hb with rfl|rfl|rfl|rfl
    ·exact⟨0,rfl,by decide⟩
    ·exact⟨1,rfl,by decide⟩
    ·exact⟨2,rfl,by decide⟩
    ·exact⟨6,rfl,by decide⟩
   open_k
   refine⟨by simp[okRng];omega,by rw[rangeD_len];exact small (by omega),?_⟩
   refine lc_rule (FrH n S) (fun _ y=>∃c,y= .str ⟨#[c]⟩∧isLet c=true) (fr.trans fr2) (fun x hx S4 h4=> ?_) fun ys S5 h5 hy=> ?_
   ·open_k
    refine sat_mono (hp n S4 _ _ h4.hd let_src (by decide +kernel) (by decide +kernel)) fun d S5 ⟨hd,fr5⟩=> ?_
    obtain⟨c,hc,rfl⟩:=let_mem hd
    exact⟨⟨c,rfl,hc⟩,h4.trans fr5⟩
   ·obtain⟨st,rfl,hst⟩:∃st:List Nat,ys=(st.map fun c=>(⟨#[c]⟩:Str)).map .str∧st.all isLet=true:=by
     clear hb
     generalize rangeD 0 (L:Int)=xs at hy
     induction hy with
     |nil=>exact⟨[],rfl,rfl⟩
     |cons p _ ih=>
      obtain⟨c,rfl,hc⟩:=p
      obtain⟨st,rfl,hst⟩:=ih
      exact⟨c::st,rfl,by simp only[List.all_cons,hc,hst,Bool.and_self]⟩
    have hl:=hy.len
    simp at hl
    have ej:joinD (.str "") [.lst ((st.map fun c=>(⟨#[c]⟩:Str)).map .str)] S5= .ok (.str ⟨st.toArray⟩) S5:=by
     simp only[joinD,asS,asL,Option.bind_some,strs_map]
     have:(((st.map fun c=>(⟨#[c]⟩:Str)).map (·.length)).sum+(st.map fun c=>(⟨#[c]⟩:Str)).length*Str.length "")≤16777216:=by
      have e0:Str.length "" =0:=by decide +kernel
      have e1:(st.map fun c=>(⟨#[c]⟩:Str)).map (·.length)=st.map fun _=>1:=by simp[Str.length]
      have es:∀l:List Nat,(l.map fun _=>1).sum=l.length:=fun l=>by
       induction l with
       |nil=>rfl
       |cons a l ih=>simp[ih];omega
      rw[e0,e1,es]
      simp;omega
     rw[if_pos this,join_letters]
    rw[ej]
    have hlen:(⟨st.toArray⟩:Str).length=st.length:=by simp[Str.length]
    simp only[sat_ok,len_s (show(⟨st.toArray⟩:Str).length≤1000 by rw[hlen];omega),hlen,add_int]
    refine sat_mono (ht n S5 _ h5.hd (by omega) (by omega)) fun d S6 ⟨⟨z,e6,z0,z1⟩,fr6⟩=> ?_
    subst e6
    have fr7:=h5.trans fr6
    exact⟨st,z.toNat,S6.length,by rw[Int.toNat_of_nonneg z0],hst,by omega,by omega,fr7.mk2 _,fr7.le,by simp⟩
  ·rintro e S2 ⟨st,sp,q,rfl,hst,hl6,hsp,fr2,hq,e2⟩
   have hqn:q≠n:=by omega
   have hlen:(⟨st.toArray⟩:Str).length=st.length:=by simp[Str.length]
   refine seq_rule (fun e S3=>(∃ a6 a10 a11 a12:Option D,e= [some (.obj n),some (.int many),some (.str LET),some (.lst (WORDS.map .str)),some (.int f),some (.int b),a6,some (.str ⟨st.toArray⟩),some (.int sp),some (.obj q),a10,a11,a12])∧
    FrH n S S3∧∃l:List Str,l.length=many∧(∀ s ∈ l,NameOk s)∧S3[q]? =some (.lst (l.map .str))) ?_ ?_
   ·open_k
    refine⟨okm,?_⟩
    refine for_rule (fun j e S3=>(∃ a6 a10 a11 a12:Option D,e= [some (.obj n),some (.int many),some (.str LET),some (.lst (WORDS.map .str)),some (.int f),some (.int b),a6,some (.str ⟨st.toArray⟩),some (.int sp),some (.obj q),a10,a11,a12])∧
     FrH n S S3∧∃l:List Str,l.length=j∧(∀ s ∈ l,NameOk s)∧S3[q]? =some (.lst (l.map .str))) ⟨⟨_,_,_,_,rfl⟩,fr2,[],rfl,by simp,e2⟩ ?_ ?_
    ·rintro j hj e S3 ⟨⟨a6,a10,a11,a12,rfl⟩,fr3,l,hl,hn,e3⟩
     rw[rangeD_get hj]
     have hj':j<many:=by simpa using hj
     open_k
     rw[mul_int]
     refine⟨mulOk_r (by omega),?_⟩
     open_k
     rw[mod_int]
     refine⟨by decide,?_⟩
     have m676:∀i:Int,0≤i % 676∧i % 676<676:=fun i=>⟨Int.emod_nonneg _ (by decide),Int.emod_lt_of_pos _ (by decide)⟩
     obtain⟨v,hv⟩:∃v:Int,(f+b*(0+(j:Int))) % 676=v:=⟨_,rfl⟩
     have hv2:=m676 (f+b*(0+(j:Int)))
     rw[hv] at hv2 ⊢
     rw[fdiv_int]
     refine⟨by decide,?_⟩
     obtain⟨c1,hc1,ec1⟩:=let_ix (i:=v / 26) (by omega) (by omega) S3
     rw[ec1,sat_ok,mod_int]
     refine⟨by decide,?_⟩
     obtain⟨c2,hc2,ec2⟩:=let_ix (md (i:=v)).1 (md (i:=v)).2 S3
     rw[ec2,sat_ok]
     have one:∀c:Nat,(⟨#[c]⟩:Str).length=1:=fun c=>rfl
     rw[add_str (by rw[one,one];exact small (by decide)),sat_ok]
     have hz1000:(⟨st.toArray⟩:Str).length≤1000:=by rw[hlen];omega
     have elo:cutS ⟨st.toArray⟩ none (some (sp:Int))=⟨(st.take sp).toArray⟩:=by
      unfold cutS
      rw[hlen,HT.sIx_none,HT.sIx_nat]
      simp[Nat.min_eq_left hsp]
     have ehi:cutS ⟨st.toArray⟩ (some (sp:Int)) none=⟨(st.drop sp).toArray⟩:=by
      unfold cutS
      rw[hlen,HT.sIx_none,HT.sIx_nat]
      simp[Nat.min_eq_left hsp]
      rw[List.take_of_length_le (by simp)]
     refine⟨_,rfl,?_⟩
     rw[sl_str hz1000,elo,sat_ok]
     have lt:(⟨(st.take sp).toArray⟩:Str).length≤6:=by simp[Str.length];omega
     have ld:(⟨(st.drop sp).toArray⟩:Str).length≤6:=by simp[Str.length];omega
     have two:((⟨#[c1]⟩:Str)++(⟨#[c2]⟩:Str)).length=2:=rfl
     have app:∀a b:Str,(a++b).length=a.length+b.length:=fun a b=>by
      show(a.cps++b.cps).size=_
      rw[Array.size_append];rfl
     rw[add_str (small (by rw[two];omega)),sat_ok]
     refine⟨_,rfl,?_⟩
     rw[sl_str hz1000,ehi,sat_ok,add_str (small (by rw[app,two];omega)),sat_ok]
     obtain⟨z,hz⟩:∃z:Str,z=(⟨(st.take sp).toArray⟩:Str)++((⟨#[c1]⟩:Str)++(⟨#[c2]⟩:Str))++(⟨(st.drop sp).toArray⟩:Str):=⟨_,rfl⟩
     have hz2:z=⟨(st.take sp++ [c1,c2] ++st.drop sp).toArray⟩:=by
      rw[hz]
      apply TL.ext_tl
      show((((st.take sp).toArray++(#[c1] ++ #[c2]))++(st.drop sp).toArray)).toList=_
      simp
     rw[← hz]
     obtain⟨al,l8,ok⟩:=word_ok hst hc1 hc2 hl6 hsp z hz2
     refine⟨mtD_obj e3,?_⟩
     rw[in_words al,sat_ok]
     simp only[intD,sat_ok]
     rw[mulx,sat_ok]
     have lx:∀b:Bool,(if b=true then("x" :Str) else "").length≤1:=fun b=>by cases b<;>decide +kernel
     rw[add_str (small (by have:=lx (decide (z ∈ WORDS));omega)),sat_ok,append_obj e3]
     refine⟨Nat.lt_of_lt_of_le (m:=1000) (by simp;omega) (by decide),⟨_,_,_,_,rfl⟩,fr3.put hS hq _,l++ [z++(if decide (z ∈ WORDS)=true then("x" :Str) else("" :Str))],by simp[hl],?_,?_⟩
     ·intro s hs
      rcases List.mem_append.mp hs with h|h
      ·exact hn s h
      ·simp only[List.mem_singleton] at h;rw[h];exact ok
     ·rw[List.getElem?_set_self (List.getElem?_eq_some_iff.mp e3).1]
      simp
    ·rintro e S3 ⟨⟨a6,a10,a11,a12,rfl⟩,fr3,l,hl,hn,e3⟩
     simp at hl
     exact⟨⟨_,_,_,_,rfl⟩,fr3,l,hl,hn,e3⟩
   ·rintro e S3 ⟨⟨a6,a10,a11,a12,rfl⟩,fr3,l,hl,hn,e3⟩
    open_k
    exact⟨fr3,l,hl,hn, .inr ⟨q,hq,rfl,e3⟩⟩
def IsDigit (dg:FN):Prop:=∀(n:Nat) (S:Store),Hand n S→(dg [.obj n] S).sat fun d S'=>(∃ i:Int,d= .int i∧0≤i∧i≤9972)∧FrH n S S'
theorem isDigit {tk pk:FN} (ht:IsTake tk) (hp:IsPick2 pk):IsDigit (run 1 1 (mDigit tk pk)):=fun n S hS=>by
 rw[sat_run]
 refine⟨rfl,?_⟩
 unfold mDigit
 open_k
 refine sat_mono (ht n S 6 hS (by decide) (by decide)) fun d1 S1 ⟨⟨a,e1,a0,a1⟩,fr1⟩=> ?_
 subst e1
 refine sat_mono (ht n S1 9973 fr1.hd (by decide) (by decide)) fun d2 S2 ⟨⟨b,e2,b0,b1⟩,fr2⟩=> ?_
 subst e2
 refine sat_mono (hp n S2 _ _ fr2.hd (.lst _) (by simp) (by simp)) fun d3 S3 ⟨h,fr3⟩=>⟨?_,(fr1.trans fr2).trans fr3⟩
 simp at h
 rcases h with rfl|rfl|rfl|rfl|rfl|rfl|rfl<;>exact⟨_,rfl,by omega,by omega⟩
end L3
namespace L3
open PySem L2
section
variable {n p:Nat} {S S' S'':Store} {left x:Int} {pv:D}
theorem gsub_eq {mo mi:ED} {o i v:D} {env:EnvD} (ho:mo env S= .ok o S) (hi:mi env S= .ok i S) (h:setD o i v S=some S'):gSub mo mi v env S= .nx env S':=by simp[gSub,ho,hi,h]
end
theorem cutL_mem {α :Type} {l:List α} {lo hi:Option Int} {x: α} (h:x ∈ cutL l lo hi):x ∈ l:=List.mem_of_mem_drop (List.mem_of_mem_take h)
theorem cutL_len {α :Type} {l:List α} {lo hi:Option Int} :(cutL l lo hi).length≤l.length:=by
 unfold cutL
 rw[List.length_take,List.length_drop];omega
end L3
namespace L3.Q
open PySem L2 L3
def shape4 (w:Str):Option (Nat × Nat × Bool):=
 if w= "plus" ∨w= "times" ∨w= "most" then some (1,4,false)
 else if w= "row" then some (0,5,false)
 else if w= "say" then some (1,1,false)
 else if w= "less" ∨w= "below" then some (2,2,false)
 else if w= "if" then some (3,3,false)
 else if w= "let" ∨w= "each" then some (2,2,true)
 else none
inductive Good4:Tm→Prop where
 |num {i:Int} :0≤i→i≤9972→Good4 (.num i)
 |nam {s:Str} :NameOk s→Good4 (.nam s)
 |nd {w m:Str} {ps:List Tm} {f mo:Nat} {g:Bool} :shape4 w=some (f,mo,g)→f≤ps.length→ps.length≤mo→(g=true→NameOk m)→(g=false→m= "")→(∀ p ∈ ps,Good4 p)→Good4 (.nd w m ps)
local macro_rules| `(tactic| open_k)=> `(tactic| simp only[ssat_seq,ssat_asg,ssat_sRet,ssat_sExpr,ssat_if,ssat_skip,ssat_par,ssat_nx,ssat_ret,ssat_for,sat_e2,sat_e1,sat_eN,sat_aCons,sat_aNil,sat_eVar,sat_eK,sat_tOfE,sat_tTruth,sat_tNot,sat_tAnd,sat_tOr,sat_eIf,sat_eBM,sat_iSeq,sat_iArgs,sat_eAnd,sat_eOr,sat_eNot,sat_eChain,sat_eSl,sat_pNo,sat_pYes,sat_eLc,sat_eKw,sat_mkTup,sat_mkLst,sat_mkObj,sat_ok,callK_eq,List.append_nil,List.map_cons,List.map_nil,List.length_cons,List.length_nil,List.replicate,List.getElem?_cons_succ,List.getElem?_cons_zero,List.cons_append,List.nil_append,List.set_cons_succ,List.set_cons_zero,gName_eq,gTup_tup,gNames_cons,gNames_nil,Nat.zero_add,Nat.reduceAdd,Nat.reduceSub,sz0,sz1,sz2,sz3,sz4,sz5,sz6,sz7,sz8,sz10,sz17,true_and,add_int,sub_int,neg_int,lt_int,le_int,gt_int,ge_int,eq_int,ne_int,blD_bl,truthD_bl,itemsD_lst,itemsD_tup,wipeD,eq_strs,ne_strs,sl_tup,sl_lst,if_true,if_false,Bool.false_eq_true,sat_range1,sat_range2,tuple_lst,tuple_tup,len_tup,len_lst,len_scr,D.int.injEq,exists_eq_left',mt_str])
def mGrown (tk pk dg gr:FN):SD:=
    sSeq (sAsg (e2 subD (e2 ixD (eVar 1) (eK (.str "left"))) (eK (.int 1))) (gSub (eVar 1) (eK (.str "left"))))
    (sSeq (sIf (tOr (tOfE (e2 eqD (eVar 3) (eK (.int 0)))) (tOfE (e2 ltD (e2 ixD (eVar 1) (eK (.str "left"))) (eK (.int 4))))) (sSeq (sIf (tOfE (e2 ltD (eN (callK tk []) (aCons (eVar 0) (aCons (eK (.int 5)) (aNil)))) (eK (.int 3)))) (sRet (eN mkTup (aCons (eK (.str "name")) (aCons (eN (callK pk []) (aCons (eVar 0) (aCons (e2 addD (e2 addD (eSl (eVar 2) (pYes (e1 negD (eK (.int 2)))) (pNo)) (eSl (eVar 2) (pYes (e1 negD (eK (.int 2)))) (pNo))) (e2 ixD (eVar 1) (eK (.str "pool")))) (aNil)))) (aCons (eN mkTup (aNil)) (aNil)))))) (sSkip))
    (sRet (eN mkTup (aCons (eK (.str "num")) (aCons (eN (callK dg []) (aCons (eVar 0) (aNil))) (aCons (eN mkTup (aNil)) (aNil))))))) (sSkip))
    (sSeq (sPar [4,5] (aCons (eN (callK tk []) (aCons (eVar 0) (aCons (eK (.int 13)) (aNil)))) (aCons (eN (callK pk []) (aCons (eVar 0) (aCons (eN mkLst (aCons (eK (.int 2)) (aCons (eK (.int 2)) (aCons (eK (.int 3)) (aCons (eK (.int 1)) (aCons (eK (.int 4)) (aNil))))))) (aNil)))) (aNil))))
    (sSeq (sIf (tOfE (e2 ltD (eVar 4) (eK (.int 4)))) (sSeq (sAsg (e2 ixD (eN mkLst (aCons (eK (.str "plus")) (aCons (eK (.str "times")) (aCons (eK (.str "most")) (aCons (eK (.str "plus")) (aNil)))))) (eVar 4)) (gName 6))
    (sRet (eN mkTup (aCons (eVar 6) (aCons (eK (.str "")) (aCons (eN tupleD (aCons (eLc (iArgs range1 (aCons (eVar 5) (aNil))) [7] (gName 7) (tYesD) (eN (callK gr []) (aCons (eVar 0) (aCons (eVar 1) (aCons (eVar 2) (aCons (e2 subD (eVar 3) (eK (.int 1))) (aNil))))))) (aNil))) (aNil))))))) (sSkip))
    (sSeq (sIf (tOfE (e2 ltD (eVar 4) (eK (.int 7)))) (sSeq (sAsg (eN (callK pk []) (aCons (eVar 0) (aCons (eN mkLst (aCons (eVar 5) (aCons (eK (.int 0)) (aCons (eK (.int 3)) (aCons (eK (.int 4)) (aCons (eK (.int 5)) (aNil))))))) (aNil)))) (gName 5))
    (sRet (eN mkTup (aCons (eK (.str "row")) (aCons (eK (.str "")) (aCons (eN tupleD (aCons (eLc (iArgs range1 (aCons (eVar 5) (aNil))) [7] (gName 7) (tYesD) (eN (callK gr []) (aCons (eVar 0) (aCons (eVar 1) (aCons (eVar 2) (aCons (e2 subD (eVar 3) (eK (.int 1))) (aNil))))))) (aNil))) (aNil))))))) (sSkip))
    (sSeq (sIf (tOfE (e2 ltD (eVar 4) (eK (.int 10)))) (sSeq (sAsg (e2 ixD (eN mkLst (aCons (eK (.str "let")) (aCons (eK (.str "each")) (aCons (eK (.str "let")) (aNil))))) (e2 subD (eVar 4) (eK (.int 7)))) (gName 6))
    (sSeq (sPar [8,9] (aCons (eN (callK pk []) (aCons (eVar 0) (aCons (e2 ixD (eVar 1) (eK (.str "pool"))) (aNil)))) (aCons (eN (callK gr []) (aCons (eVar 0) (aCons (eVar 1) (aCons (eVar 2) (aCons (e2 subD (eVar 3) (eK (.int 1))) (aNil)))))) (aNil))))
    (sRet (eN mkTup (aCons (eVar 6) (aCons (eVar 8) (aCons (eN mkTup (aCons (eVar 9) (aCons (eN (callK gr []) (aCons (eVar 0) (aCons (eVar 1) (aCons (e2 addD (eVar 2) (eN mkLst (aCons (eVar 8) (aNil)))) (aCons (e2 subD (eVar 3) (eK (.int 1))) (aNil)))))) (aNil)))) (aNil)))))))) (sSkip))
    (sSeq (sAsg (e2 ixD (eN mkLst (aCons (eK (.str "say")) (aCons (eN (callK pk []) (aCons (eVar 0) (aCons (eN mkLst (aCons (eK (.str "less")) (aCons (eK (.str "below")) (aNil)))) (aNil)))) (aCons (eK (.str "if")) (aNil))))) (e2 subD (eVar 4) (eK (.int 10)))) (gName 6))
    (sRet (eN mkTup (aCons (eVar 6) (aCons (eK (.str "")) (aCons (eN tupleD (aCons (eLc (iArgs range1 (aCons (e2 subD (eVar 4) (eK (.int 9))) (aNil))) [7] (gName 7) (tYesD) (eN (callK gr []) (aCons (eVar 0) (aCons (eVar 1) (aCons (eVar 2) (aCons (e2 subD (eVar 3) (eK (.int 1))) (aNil))))))) (aNil))) (aNil))))))))))))
def Pot (p:Nat) (left:Int) (pv:D) (S:Store):Prop:=S[p]? =some (.dK [(.inr "left", .int left),(.inr "pool",pv)])
section
variable {n p:Nat} {S S' S'':Store} {left x:Int} {pv:D}
theorem pot_left (h:Pot p left pv S):ixD (.obj p) (.str "left") S= .ok (.int left) S:=by
 simp only[ixD,show S[p]? =_ from h]
 kernel_rfl
theorem pot_pool (h:Pot p left pv S):ixD (.obj p) (.str "pool") S= .ok pv S:=by
 simp only[ixD,show S[p]? =_ from h]
 kernel_rfl
theorem pot_set (h:Pot p left pv S):setD (.obj p) (.str "left") (.int x) S=some (S.set p (.dK [(.inr "left", .int x),(.inr "pool",pv)])):=by
 simp only[setD,show S[p]? =_ from h]
 kernel_rfl
structure FrX (n p:Nat) (S S':Store):Prop where
 le:S.length≤S'.length
 fr:∀m o,m≠n→m≠p→S[m]? =some o→S'[m]? =some o
 hd:Hand n S'
theorem FrX.of (h:FrH n S S'):FrX n p S S':=⟨h.le,fun m o hm _ e=>h.fr m o hm e,h.hd⟩
theorem FrX.trans (h:FrX n p S S') (g:FrX n p S' S''):FrX n p S S'':=⟨Nat.le_trans h.le g.le,fun m o h1 h2 e=>g.fr m o h1 h2 (h.fr m o h1 h2 e),g.hd⟩
theorem Pot.fr (h:Pot p left pv S) (hp:p≠n) (f:FrH n S S'):Pot p left pv S':=f.fr _ _ hp h
theorem FrX.set (h:Hand n S) (hp:n≠p) (o:O):FrX n p S (S.set p o):=by
 refine⟨by simp,fun m o' _ hm e=>by rw[List.getElem?_set_ne (Ne.symm hm)];exact e,?_⟩
 obtain⟨g,s,e⟩:=h
 exact⟨g,s,by rw[List.getElem?_set_ne (Ne.symm hp)];exact e⟩
inductive Pool (n p:Nat) (S:Store):D→List Str→Prop where
 |lst (l:List Str):Pool n p S (.lst (l.map .str)) l
 |obj {q:Nat} {l:List Str} :q≠n→q≠p→S[q]? =some (.lst (l.map .str))→Pool n p S (.obj q) l
theorem Pool.fr {l:List Str} (h:Pool n p S pv l) (f:FrX n p S S'):Pool n p S' pv l:=by
 cases h with
 |lst=>exact .lst _
 |obj h1 h2 e=>exact .obj h1 h2 (f.fr _ _ h1 h2 e)
theorem Pool.src {l:List Str} (h:Pool n p S pv l):Src n S pv (l.map .str):=by
 cases h with
 |lst=>exact .lst _
 |obj h1 h2 e=>exact .obj h1 e
theorem Pool.add {l:List Str} (h:Pool n p S pv l) {a:List D} (hz:a.length+l.length≤sizeLine):addD (.lst a) pv S= .ok (.lst (a++l.map .str)) S:=by
 cases h with
 |lst=>exact add_lst (by simpa using hz)
 |obj h1 h2 e=>simp[addD,asL,e,hz]
theorem gsub_eq {mo mi:ED} {o i v:D} {env:EnvD} (ho:mo env S= .ok o S) (hi:mi env S= .ok i S) (h:setD o i v S=some S'):gSub mo mi v env S= .nx env S':=by simp[gSub,ho,hi,h]
end
theorem cutL_mem {α :Type} {l:List α} {lo hi:Option Int} {x: α} (h:x ∈ cutL l lo hi):x ∈ l:=List.mem_of_mem_drop (List.mem_of_mem_take h)
theorem cutL_len {α :Type} {l:List α} {lo hi:Option Int} :(cutL l lo hi).length≤l.length:=by
 unfold cutL
 rw[List.length_take,List.length_drop];omega
def GrownOk (gr:FN) (level:Nat):Prop:=∀(n p:Nat) (S:Store) (left:Int) (pv:D) (pool scope:List Str),Hand n S→n≠p→Pot p left pv S→Pool n p S pv pool→pool≠ [] →pool.length≤500→(∀ s ∈ pool,NameOk s)→
 (∀ s ∈ scope,NameOk s)→scope.length+level≤200→(gr [.obj n, .obj p, .lst (scope.map .str), .int level] S).sat fun d S'=>∃t:Tm,d=t.d∧Good4 t∧t.dep≤level+1∧FrX n p S S'∧Pot p (left-t.size) pv S'∧
   (left≤4→t.size=1)∧(5≤left→3-4*(level:Int)≤left-t.size)
theorem kids {gr:FN} {L:Nat} (hg:GrownOk gr L) {n p:Nat} {S:Store} {left:Int} {pv:D} {pool scope:List Str} (hS:Hand n S) (hnp:n≠p) (hpot:Pot p left pv S) (hpool:Pool n p S pv pool) (h0:pool≠ []) (h1:pool.length≤500) (hn:∀s ∈ pool,NameOk s)
 (hs:∀s ∈ scope,NameOk s) (hl:scope.length+L≤200) (hleft:4≤left) {m:Nat} (hm:m≤5) {env:EnvD} {i:Nat} (hi:4≤i) (e0:env[0]? =some (some (.obj n))) (e1:env[1]? =some (some (.obj p))) (e2':env[2]? =some (some (.lst (scope.map .str)))) (e3:env[3]? =some (some (.int ((L+1:Nat):Int))))
 {Q:List D→Store→Prop} (hQ:∀ts S',ts.length=m→(∀ t ∈ ts,Good4 t)→Tm.deps ts≤L+1→FrX n p S S'→Pot p (left-Tm.sizes ts) pv S'→3-4*((L+1:Nat):Int)≤left-Tm.sizes ts→Q (Tm.ds ts) S'):
 lcSat (gName i) tYesD (eN (callK gr []) (aCons (eVar 0) (aCons (eVar 1) (aCons (eVar 2) (aCons (e2 subD (eVar 3) (eK (.int 1))) (aNil)))))) env (rangeD 0 m) S Q:=by
 refine lc_acc (acc:= []) (fun acc S'=>∃ts,acc=Tm.ds ts∧(∀ t ∈ ts,Good4 t)∧Tm.deps ts≤L+1∧FrX n p S S'∧Pot p (left-Tm.sizes ts) pv S'∧(ts= [] ∨3-4*(L:Int)-((ts.length:Int)-1)≤left-Tm.sizes ts)) ?_ ?_ ?_
 ·exact⟨[],rfl,by simp,by simp[Tm.deps],⟨Nat.le_refl _,fun _ _ _ _ e=>e,hS⟩,by simpa[Tm.sizes] using hpot, .inl rfl⟩
 ·rintro x hx acc S1 ⟨ts,rfl,hgood,hdep,fr,pot,hb⟩
  have g:∀j:Nat,j<4→(env.set i (some x))[j]? =env[j]? :=fun j hj=>by rw[List.getElem?_set_ne (by omega)]
  simp only[sat_eN,sat_aCons,sat_aNil,sat_eVar,g 0 (by decide),g 1 (by decide),g 2 (by decide),e0,e1,e2',sat_e2,g 3 (by decide),e3,sat_eK,sub_int,sat_ok,callK_eq,List.append_nil]
  rw[show (((L+1:Nat):Int)-1)=(L:Int) by omega]
  refine sat_mono (hg n p S1 _ pv pool scope fr.hd hnp pot (hpool.fr fr) h0 h1 hn hs hl) fun d S2 q=> ?_
  obtain⟨t,rfl,g1,g2,fr2,pot2,b1,b2⟩:=q
  have es:Tm.sizes (ts++ [t])=Tm.sizes ts+t.size:=by rw[Tm.sizes_app];simp[Tm.sizes]
  refine⟨ts++ [t],by simp[Tm.ds_map],?_,?_,fr.trans fr2,?_, .inr ?_⟩
  ·intro t' ht
   rcases List.mem_append.mp ht with h|h
   ·exact hgood t' h
   ·simp only[List.mem_singleton] at h;rw[h];exact g1
  ·rw[Tm.deps_le] at hdep ⊢
   intro t' ht
   rcases List.mem_append.mp ht with h|h
   ·exact hdep t' h
   ·simp only[List.mem_singleton] at h;rw[h];exact g2
  ·rw[es]
   have:left-((Tm.sizes ts+t.size:Nat):Int)=left-Tm.sizes ts-t.size:=by omega
   rw[this];exact pot2
  ·rw[es]
   have e:left-((Tm.sizes ts+t.size:Nat):Int)=left-Tm.sizes ts-t.size:=by omega
   rw[e]
   simp only[List.length_append,List.length_cons,List.length_nil]
   have b1:=b1
   have b2:=b2
   by_cases h5:5≤left-(Tm.sizes ts:Int)
   ·have:=b2 h5;omega
   ·have:=b1 (by omega)
    rcases hb with rfl|hb
    ·simp[Tm.sizes] at h5 ⊢;omega
    ·omega
 ·rintro ys S1 hlen ⟨ts,e,hgood,hdep,fr,pot,hb⟩
  simp only[List.nil_append] at e
  subst e
  have hl2:ts.length=m:=by rw[Tm.ds_len] at hlen;simpa using hlen
  refine hQ ts S1 hl2 hgood hdep fr pot ?_
  rcases hb with rfl|hb
  ·simp[Tm.sizes];omega
  ·omega
theorem grown_ok {tk pk dg gr:FN} (ht:IsTake tk) (hp:IsPick2 pk) (hd:IsDigit dg) {L:Nat} (ih:L≠0→GrownOk gr (L-1)):GrownOk (run 4 10 (mGrown tk pk dg gr)) L:=by
 intro n p S left pv pool scope hS hnp hpot hpool h0 h1 hn hs hl
 rw[sat_run]
 refine⟨rfl,?_⟩
 unfold mGrown
 have pl:p<S.length:=(List.getElem?_eq_some_iff.mp hpot).1
 refine seq_rule (fun e S1=>e= [some (D.obj n),some (D.obj p),some (D.lst (List.map D.str scope)),some (D.int (L:Int)),none,none,none,none,none,none] ∧FrX n p S S1∧Pot p (left-1) pv S1) ?_ ?_
 ·open_k
  rw[pot_left hpot]
  open_k
  rw[gsub_eq (o:= .obj p) (i:= .str "left") (by simp[eVar]) (by simp[eK]) (pot_set hpot)]
  open_k
  exact⟨FrX.set hS hnp _,by show(S.set p _)[p]? =_;rw[List.getElem?_set_self pl]⟩
 rintro e S1 ⟨rfl,fr1,pot1⟩
 have pool1:=hpool.fr fr1
 refine seq_rule (fun e S2=>e= [some (D.obj n),some (D.obj p),some (D.lst (List.map D.str scope)),some (D.int (L:Int)),none,none,none,none,none,none] ∧S2=S1∧L≠0∧4≤left-1) ?_ ?_
 ·have leaf:(sSeq (sIf (tOfE (e2 ltD (eN (callK tk []) (aCons (eVar 0) (aCons (eK (.int 5)) (aNil)))) (eK (.int 3)))) (sRet (eN mkTup (aCons (eK (.str "name")) (aCons (eN (callK pk []) (aCons (eVar 0) (aCons (e2 addD (e2 addD (eSl (eVar 2) (pYes (e1 negD (eK (.int 2)))) (pNo)) (eSl (eVar 2) (pYes (e1 negD (eK (.int 2)))) (pNo))) (e2 ixD (eVar 1) (eK (.str "pool")))) (aNil)))) (aCons (eN mkTup (aNil)) (aNil)))))) (sSkip))
  (sRet (eN mkTup (aCons (eK (.str "num")) (aCons (eN (callK dg []) (aCons (eVar 0) (aNil))) (aCons (eN mkTup (aNil)) (aNil)))))) [some (D.obj n),some (D.obj p),some (D.lst (List.map D.str scope)),some (D.int (L:Int)),none,none,none,none,none,none] S1).sat (fun _ _=>False) (fun d S'=>∃t:Tm,d=t.d∧Good4 t∧t.size=1∧t.dep=1∧FrH n S1 S') (fun _ _=>False) (fun _ _=>False):=by
    open_k
    refine sat_mono (ht n S1 5 fr1.hd (by decide) (by decide)) fun d1 S2 ⟨⟨f,e1,f0,f1⟩,fr2⟩=> ?_
    subst e1
    open_k
    by_cases h3:f<3
    ·simp only[h3,decide_true,if_true]
     have ec:cutL (scope.map D.str) (some (-2)) none=(cutL scope (some (-2)) none).map D.str:=by unfold cutL;simp
     have lc:(cutL scope (some (-2)) none).length≤200:=Nat.le_trans cutL_len (by omega)
     rw[ec,add_lst (small (by simp;omega)),sat_ok,pot_pool (pot1.fr (Ne.symm hnp) fr2),sat_ok]
     rw[← List.map_append,(pool1.fr (.of fr2)).add (small (by simp;omega)),sat_ok,←List.map_append]
     refine sat_mono (hp n S2 _ _ fr2.hd (.lst _) (by simp[h0]) (by simp;omega)) fun d2 S3 ⟨hb,fr3⟩=> ?_
     simp only[List.mem_map] at hb
     obtain⟨z,hz,rfl⟩:=hb
     have hz:NameOk z:=by
      rcases List.mem_append.mp hz with h|h
      ·rcases List.mem_append.mp h with h|h<;>exact hs z (cutL_mem h)
      ·exact hn z h
     exact⟨.nam z,rfl, .nam hz,rfl,rfl,fr2.trans fr3⟩
    ·simp only[h3,decide_false,Bool.false_eq_true,if_false]
     refine sat_mono (hd n S2 fr2.hd) fun d2 S3 ⟨⟨i,e2,i0,i1⟩,fr3⟩=> ?_
     subst e2
     exact⟨.num i,rfl, .num i0 i1,rfl,rfl,fr2.trans fr3⟩
  have fin:∀d S',(∃ t:Tm,d=t.d∧Good4 t∧t.size=1∧t.dep=1∧FrH n S1 S')→∃t:Tm,d=t.d∧Good4 t∧t.dep≤L+1∧FrX n p S S'∧Pot p (left-t.size) pv S'∧(left≤4→t.size=1)∧(5≤left→3-4*(L:Int)≤left-t.size):=by
   rintro d S' ⟨t,e,g,s1,d1,fr⟩
   refine⟨t,e,g,by omega,fr1.trans (.of fr),?_,fun _=>s1,fun _=>by rw[s1];omega⟩
   rw[s1];exact pot1.fr (Ne.symm hnp) fr
  rw[ssat_if,sat_tOr]
  simp only[sat_tOfE,sat_e2,sat_eVar,sat_eK,List.getElem?_cons_succ,List.getElem?_cons_zero,eq_int,sat_ok,blD_bl]
  by_cases hL:(L:Int)=0
  ·rw[if_pos (decide_eq_true hL)]
   exact ssat_mono leaf (fun _ _ h=>h.elim) fin (fun _ _ h=>h.elim) (fun _ _ h=>h.elim)
  ·simp only[hL,decide_false,Bool.false_eq_true,if_false,pot_left pot1,sat_ok,lt_int,blD_bl]
   by_cases h4:left-1<4
   ·rw[if_pos (decide_eq_true h4)]
    exact ssat_mono leaf (fun _ _ h=>h.elim) fin (fun _ _ h=>h.elim) (fun _ _ h=>h.elim)
   ·simp only[h4,decide_false,Bool.false_eq_true,if_false,ssat_skip]
    exact⟨trivial,trivial,by omega,by omega⟩
 rintro e S2 ⟨rfl,rfl,hL,h4⟩
 obtain⟨L,rfl⟩:∃L',L=L'+1:=⟨L-1,by omega⟩
 have ih:=ih (by omega)
 rw[Nat.add_sub_cancel] at ih
 refine seq_rule (fun e S3=>∃(lot:Int) (m:Nat),e= [some (D.obj n),some (D.obj p),some (D.lst (List.map D.str scope)),some (D.int ((L+1:Nat):Int)),some (.int lot),some (.int (m:Int)),none,none,none,none] ∧0≤lot∧lot<13∧1≤m∧m≤4∧FrX n p S S3∧Pot p (left-1) pv S3) ?_ ?_
 ·open_k
  refine sat_mono (ht n S2 13 fr1.hd (by decide) (by decide)) fun d1 S3 ⟨⟨f,e1,f0,f1⟩,fr2⟩=> ?_
  subst e1
  refine sat_mono (hp n S3 _ _ fr2.hd (.lst _) (by simp) (by simp)) fun d2 S4 ⟨hb,fr3⟩=> ?_
  have:∃m:Nat,d2= .int m∧1≤m∧m≤4:=by
   simp at hb
   rcases hb with rfl|rfl|rfl|rfl
   ·exact⟨2,rfl,by decide,by decide⟩
   ·exact⟨3,rfl,by decide,by decide⟩
   ·exact⟨1,rfl,by decide,by decide⟩
   ·exact⟨4,rfl,by decide,by decide⟩
  obtain⟨m,rfl,m1,m4⟩:=this
  exact⟨f,m,rfl,f0,f1,m1,m4,fr1.trans (.of (fr2.trans fr3)),pot1.fr (Ne.symm hnp) (fr2.trans fr3)⟩
 rintro e S3 ⟨lot,m,rfl,l0,l1,m1,m4,fr3,pot3⟩
 have pool3:=hpool.fr fr3
 have made:∀(w:Str) (ts:List Tm) (S':Store) (f mo:Nat),shape4 w=some (f,mo,false)→f≤ts.length→ts.length≤mo→(∀ t ∈ ts,Good4 t)→Tm.deps ts≤L+1→FrX n p S3 S'→Pot p (left-1-Tm.sizes ts) pv S'→3-4*((L+1:Nat):Int)≤left-1-Tm.sizes ts→
  ∃t:Tm,D.tup [.str w, .str "", .tup (Tm.ds ts)] =t.d∧Good4 t∧t.dep≤L+1+1∧FrX n p S S'∧Pot p (left-t.size) pv S'∧(left≤4→t.size=1)∧(5≤left→3-4*((L+1:Nat):Int)≤left-t.size):=by
  intro w ts S' f mo hw hf hmo hg hdp fr pot b
  have e:left-((Tm.nd w "" ts).size:Int)=left-1-Tm.sizes ts:=by simp only[Tm.size];omega
  refine⟨.nd w "" ts,rfl, .nd hw hf hmo (fun h=>by cases h) (fun _=>rfl) hg,by simp only[Tm.dep];omega,fr3.trans fr,by rw[e];exact pot,fun h=>by omega,fun _=>by rw[e];exact b⟩
 have pickW:∀(l:List Str) (i:Int) (S:Store),0≤i→i<l.length→∃w ∈ l,ixD (.lst (l.map .str)) (.int i) S= .ok (.str w) S:=by
  intro l i S h0 h1
  obtain⟨d,hd,e⟩:=(Src.lst (n:=n) (S:=S) (l.map .str)).ix h0 (by simpa using h1)
  simp only[List.mem_map] at hd
  obtain⟨w,hw,rfl⟩:=hd
  exact⟨w,hw,e⟩
 rw[ssat_seq,ssat_if]
 simp only[sat_tOfE,sat_e2,sat_eVar,sat_eK,List.getElem?_cons_succ,List.getElem?_cons_zero,lt_int,sat_ok,blD_bl]
 by_cases c4:lot<4
 ·rw[if_pos (decide_eq_true c4)]
  obtain⟨w,hw,e⟩:=pickW ["plus","times","most","plus"] lot S3 l0 (by simpa using c4)
  have hsh:shape4 w=some (1,4,false):=by
   simp at hw;rcases hw with rfl|rfl|rfl|rfl<;>decide +kernel
  simp only[List.map_cons,List.map_nil] at e
  open_k
  rw[e,sat_ok]
  refine⟨by simp[okRng];omega,by rw[rangeD_len];exact small (by omega),?_⟩
  refine kids ih fr3.hd hnp pot3 pool3 h0 h1 hn hs (by omega) (by omega) (by omega) (by decide) rfl rfl rfl rfl fun ts S' hlen hg hdp fr pot b=> ?_
  exact made w ts S' _ _ hsh (by omega) (by omega) hg hdp fr pot b
 rw[if_neg (by simpa using c4),ssat_skip,ssat_seq,ssat_if]
 simp only[sat_tOfE,sat_e2,sat_eVar,sat_eK,List.getElem?_cons_succ,List.getElem?_cons_zero,lt_int,sat_ok,blD_bl]
 by_cases c7:lot<7
 ·rw[if_pos (decide_eq_true c7)]
  open_k
  refine sat_mono (hp n S3 _ _ fr3.hd (.lst _) (by simp) (by simp)) fun d2 S4 ⟨hb,fr4⟩=> ?_
  have:∃m:Nat,d2= .int m∧m≤5:=by
   simp at hb
   rcases hb with rfl|rfl|rfl|rfl|rfl
   ·exact⟨m,rfl,by omega⟩
   ·exact⟨0,rfl,by decide⟩
   ·exact⟨3,rfl,by decide⟩
   ·exact⟨4,rfl,by decide⟩
   ·exact⟨5,rfl,by decide⟩
  obtain⟨m,rfl,m5⟩:=this
  open_k
  have fr5:=fr3.trans (.of fr4)
  refine⟨by simp[okRng];omega,by rw[rangeD_len];exact small (by omega),?_⟩
  refine kids ih fr4.hd hnp (pot3.fr (Ne.symm hnp) fr4) (hpool.fr fr5) h0 h1 hn hs (by omega) (by omega) (by omega) (by decide) rfl rfl rfl rfl fun ts S' hlen hg hdp fr pot b=> ?_
  exact made "row" ts S' 0 5 (by decide +kernel) (by omega) (by omega) hg hdp ((FrX.of fr4).trans fr) pot b
 rw[if_neg (by simpa using c7),ssat_skip,ssat_seq,ssat_if]
 simp only[sat_tOfE,sat_e2,sat_eVar,sat_eK,List.getElem?_cons_succ,List.getElem?_cons_zero,lt_int,sat_ok,blD_bl]
 by_cases c10:lot<10
 ·rw[if_pos (decide_eq_true c10)]
  obtain⟨w,hw,e⟩:=pickW ["let","each","let"] (lot-7) S3 (by omega) (by simp;omega)
  have hsh:shape4 w=some (2,2,true):=by
   simp at hw;rcases hw with rfl|rfl|rfl<;>decide +kernel
  simp only[List.map_cons,List.map_nil] at e
  open_k
  rw[e,sat_ok]
  rw[pot_pool pot3,sat_ok]
  refine sat_mono (hp n S3 _ _ fr3.hd pool3.src (by simp[h0]) (by simp;omega)) fun d2 S4 ⟨hb,fr4⟩=> ?_
  simp only[List.mem_map] at hb
  obtain⟨z,hz,rfl⟩:=hb
  have fr5:=fr3.trans (.of fr4)
  have el:(((L+1:Nat):Int)-1)=(L:Int):=by omega
  rw[el]
  refine sat_mono (ih n p S4 _ pv pool scope fr4.hd hnp (pot3.fr (Ne.symm hnp) fr4) (hpool.fr fr5) h0 h1 hn hs (by omega)) fun d3 S5 q=> ?_
  obtain⟨t1,rfl,g1,dp1,fr6,pot6,b1,b2⟩:=q
  rw[show ([D.str z] :List D)= [z].map D.str from rfl,add_lst (small (by simp;omega)),sat_ok,←List.map_append]
  refine sat_mono (ih n p S5 _ pv pool (scope++ [z]) fr6.hd hnp pot6 (hpool.fr (fr5.trans fr6)) h0 h1 hn (by
   intro s h
   rcases List.mem_append.mp h with h|h
   ·exact hs s h
   ·simp only[List.mem_singleton] at h;rw[h];exact hn z hz) (by simp;omega)) fun d4 S6 q=> ?_
  obtain⟨t2,rfl,g2,dp2,fr7,pot7,b3,b4⟩:=q
  have es:left-((Tm.nd w z [t1,t2]).size:Int)=left-1-t1.size-t2.size:=by simp only[Tm.size,Tm.sizes];omega
  refine⟨.nd w z [t1,t2],rfl, .nd hsh (by simp) (by simp) (fun _=>hn z hz) (fun h=>by cases h) (by simp[g1,g2]),by simp only[Tm.dep,Tm.deps];omega,(fr5.trans fr6).trans fr7,by rw[es];exact pot7,fun h=>by omega,fun _=> ?_⟩
  rw[es]
  by_cases h5:5≤left-1
  ·have:=b2 h5
   by_cases h6:5≤left-1-(t1.size:Int)
   ·have:=b4 h6;omega
   ·have:=b3 (by omega);omega
  ·have:=b1 (by omega)
   have:=b3 (by omega)
   omega
 rw[if_neg (by simpa using c10),ssat_skip]
 open_k
 refine sat_mono (hp n S3 _ _ fr3.hd (.lst _) (by simp) (by simp)) fun d2 S4 ⟨hb,fr4⟩=> ?_
 have fr5:=fr3.trans (.of fr4)
 have:∃w0:Str,d2= .str w0∧(w0= "less" ∨w0= "below"):=by
  simp at hb
  rcases hb with rfl|rfl
  ·exact⟨_,rfl, .inl rfl⟩
  ·exact⟨_,rfl, .inr rfl⟩
 obtain⟨w0,rfl,hw0⟩:=this
 obtain⟨w,k,ek,e,hsh⟩:∃(w:Str) (k:Nat),lot-9=k∧ixD (.lst [.str "say", .str w0, .str "if"]) (.int (lot-10)) S4= .ok (.str w) S4∧shape4 w=some (k,k,false)∧k≤3:=by
  have:lot=10∨lot=11∨lot=12:=by omega
  rcases this with rfl|rfl|rfl
  ·exact⟨"say",1,rfl,rfl,by decide +kernel,by decide⟩
  ·refine⟨w0,2,rfl,rfl,?_,by decide⟩
   rcases hw0 with rfl|rfl<;>decide +kernel
  ·exact⟨"if",3,rfl,rfl,by decide +kernel,by decide⟩
 rw[e,sat_ok]
 rw[ek]
 refine⟨by simp[okRng];omega,by rw[rangeD_len];exact small (by omega),?_⟩
 refine kids ih fr4.hd hnp (pot3.fr (Ne.symm hnp) fr4) (hpool.fr fr5) h0 h1 hn hs (by omega) (by omega) (by omega) (by decide) rfl rfl rfl rfl fun ts S' hlen hg hdp fr pot b=> ?_
 exact made w ts S' k k hsh.1 (by omega) (by omega) hg hdp ((FrX.of fr4).trans fr) pot b
def mCode (tk cl gr:FN):SD:=
    sSeq (sAsg (eN (callK cl []) (aCons (eVar 0) (aCons (e2 addD (eK (.int 1)) (eN (callK tk []) (aCons (eVar 0) (aCons (eK (.int 5)) (aNil))))) (aNil)))) (gName 2))
    (sRet (eN (callK gr []) (aCons (eVar 0) (aCons (eDct [(eK (.str "left"),eVar 1),(eK (.str "pool"),eVar 2)]) (aCons (eN mkLst (aNil)) (aCons (e2 addD (eK (.int 3)) (eN (callK tk []) (aCons (eVar 0) (aCons (eK (.int 5)) (aNil))))) (aNil)))))))
def IsCalled (cl:FN):Prop:=∀(n:Nat) (S:Store) (many:Nat),Hand n S→many≤1000→(cl [.obj n, .int many] S).sat fun d S'=>FrH n S S'∧∃l:List Str,l.length=many∧(∀ s ∈ l,NameOk s)∧PoolV S S' d l
theorem isCalled {tk pk:FN} (ht:IsTake tk) (hp:IsPick2 pk):IsCalled (run 2 13 (mCalled tk pk)):=fun n S many h hm=>called_ok ht hp h hm
theorem code_any {tk cl gr:FN} (ht:IsTake tk) (hc:IsCalled cl) (hg:∀L,L≤7→GrownOk gr L) {n:Nat} {S:Store} (hS:Hand n S) {left:Nat} :(run 2 3 (mCode tk cl gr) [.obj n, .int left] S).sat fun d S'=>∃t:Tm,d=t.d∧Good4 t∧t.dep≤8∧t.size≤left+25∧FrH n S S':=by
 rw[sat_run]
 refine⟨rfl,?_⟩
 unfold mCode
 refine seq_rule (fun e S1=>∃(pv:D) (l:List Str),e= [some (.obj n),some (.int left),some pv] ∧FrH n S S1∧1≤l.length∧l.length≤5∧(∀ s ∈ l,NameOk s)∧PoolV S S1 pv l) ?_ ?_
 ·open_k
  refine sat_mono (ht n S 5 hS (by decide) (by decide)) fun d1 S1 ⟨⟨f,e1,f0,f1⟩,fr1⟩=> ?_
  subst e1
  open_k
  have e:(1+f)=((1+f.toNat:Nat):Int):=by omega
  rw[e]
  refine sat_mono (hc n S1 _ fr1.hd (by omega)) fun d2 S2 ⟨fr2,l,hl,hn,pv⟩=> ?_
  refine⟨d2,l,rfl,fr1.trans fr2,by omega,by omega,hn,?_⟩
  rcases pv with h|⟨q,h1,h2,h3⟩
  ·exact .inl h
  ·exact .inr ⟨q,Nat.le_trans fr1.le h1,h2,h3⟩
 rintro e S1 ⟨pv,l,rfl,fr1,l1,l5,hn,hpv⟩
 open_k
 have ed:(eDct [(eK (D.str "left"),eVar 1),(eK (D.str "pool"),eVar 2)] [some (D.obj n),some (D.int left),some pv] S1)= .ok (.obj S1.length) (S1++ [.dK [(.inr "left", .int left),(.inr "pool",pv)]]):=by
  simp[eDct,pairsD,R.nox,R.bind,eK,eVar]
  kernel_rfl
 rw[ed,sat_ok]
 have fr2:=fr1.mk2 (.dK [(.inr "left", .int left),(.inr "pool",pv)])
 have pot2:Pot S1.length left pv (S1++ [.dK [(.inr "left", .int left),(.inr "pool",pv)]]):=by simp[Pot]
 have nl:n<S1.length:=fr1.hd.lt
 have pool2:Pool n S1.length (S1++ [.dK [(.inr "left", .int left),(.inr "pool",pv)]]) pv l:=by
  rcases hpv with h|⟨q,h1,rfl,h3⟩
  ·rw[h];exact .lst l
  ·have hq:=(List.getElem?_eq_some_iff.mp h3).1
   have:=hS.lt
   exact .obj (by omega) (by omega) (by rw[List.getElem?_append_left hq];exact h3)
 refine sat_mono (ht n _ 5 fr2.hd (by decide) (by decide)) fun d2 S2 ⟨⟨f,e2,f0,f1⟩,fr3⟩=> ?_
 subst e2
 open_k
 have e:(3+f)=((3+f.toNat:Nat):Int):=by omega
 rw[e]
 have l0:l≠ [] :=by intro h;rw[h] at l1;simp at l1
 refine sat_mono (hg (3+f.toNat) (by omega) n S1.length S2 left pv l [] fr3.hd (by omega) (pot2.fr (by omega) fr3) (pool2.fr (.of fr3)) l0 (by omega) hn (by simp) (by simp;omega)) fun d3 S3 q=> ?_
 obtain⟨t,rfl,g1,dp,fr4,pot4,b1,b2⟩:=q
 have hsz:t.size≤left+25:=by
  by_cases h:(5:Int)≤left
  ·have:=b2 h;omega
  ·have:=b1 (by omega);omega
 refine⟨t,rfl,g1,by omega,hsz,?_⟩
 have fx:FrH n S S2:=fr2.trans fr3
 exact⟨Nat.le_trans fx.le fr4.le,fun m o hm e=>fr4.fr m o hm (by have:=(List.getElem?_eq_some_iff.mp e).1;have:=fr1.le;omega) (fx.fr m o hm e),fr4.hd⟩
end L3.Q
namespace L3
open PySem L2
def asc (s:Str):Bool:=decide (s.length≤20)&&s.cps.toList.all fun c=>decide (c<128)
inductive U (B:Nat):D→Prop where
 |non:U B .non
 |bl (b:Bool):U B (.bl b)
 |int {i:Int} : -10000≤i→i≤10000→U B (.int i)
 |str {s:Str} :asc s=true→U B (.str s)
 |tup {l:List D} :l.length≤B→(∀ x ∈ l,U B x)→U B (.tup l)
 |lst {l:List D} :l.length≤B→(∀ x ∈ l,U B x)→U B (.lst l)
 |dic:U B (.dic [] [])
def isNm:D→Bool
 | .str s=>decide (1≤s.length)&&decide (s.length≤8)&& !decide (s ∈ WORDS)&&s.cps.toList.all isLet
 | _=>false
def isNum:D→Bool
 | .int i=>decide (0≤i)&&decide (i≤9972)
 | _=>false
def isEmp:D→Bool
 | .str s=>decide (s= "")
 | _=>false
def fits (w:Str) (m:D) (n:Nat):Bool:=match shape w with
 |some (f,mo,g)=>decide (f≤n)&&decide (n≤mo)&&(if g=true then isNm m else isEmp m)
 |none=>false
def ok:Nat→D→Bool
 |0,_=>false
 |k+1, .tup [.str w,m, .tup ps] =>
  if w= "num" then isNum m&&ps.isEmpty
  else if w= "name" then isNm m&&ps.isEmpty
  else fits w m ps.length&&ps.all (ok k)
 | _+1,_=>false
theorem asc_ok {s:Str} (h:asc s=true):PyData.strOk s=true:=by
 simp only[asc,Bool.and_eq_true,decide_eq_true_eq] at h
 unfold PyData.strOk
 rw[← Array.all_toList,List.all_eq_true]
 intro c hc
 have:=List.all_eq_true.mp h.2 c hc
 simp only[decide_eq_true_eq] at this ⊢;omega
theorem asc_len {s:Str} (h:asc s=true):s.length≤20:=by
 simp only[asc,Bool.and_eq_true,decide_eq_true_eq] at h;exact h.1
theorem name_asc {s:Str} (h:NameOk s):asc s=true:=by
 simp only[asc,Bool.and_eq_true,decide_eq_true_eq]
 refine⟨by have:=h.hi;omega,?_⟩
 rw[List.all_eq_true]
 intro c hc
 have:=List.all_eq_true.mp h.lt c hc
 simp only[isLet,Bool.and_eq_true,decide_eq_true_eq] at this ⊢;omega
theorem words_asc {s:Str} (h:s ∈ WORDS):asc s=true:=by
 have a:WORDS.all asc=true:=by decide +kernel
 exact List.all_eq_true.mp a s h
theorem U.mono {B B':Nat} (hB:B≤B'):∀ {x:D},U B x→U B' x
 | _, .non=> .non
 | _, .bl b=> .bl b
 | _, .int h0 h1=> .int h0 h1
 | _, .str h=> .str h
 | _, .tup h hl=> .tup (Nat.le_trans h hB) fun x hx=>U.mono hB (hl x hx)
 | _, .lst h hl=> .lst (Nat.le_trans h hB) fun x hx=>U.mono hB (hl x hx)
 | _, .dic=> .dic
theorem let_list:LET.cps.toList=List.range' 97 26:=by decide +kernel
end L3
namespace L3
open PySem L2
mutual
def wt:D→Nat
 | .tup l=>100+wts l
 | .lst l=>100+wts l
 | .non=>100| .bl _=>100| .int _=>100| .str _=>100| .dic _ _=>100| .obj _=>100| .glb _=>100| .wtp _=>100| .ty _=>100| .scr _=>100| .kd _ _=>100| .xcp _ _ _=>100| .lam _ _=>100
def wts:List D→Nat
 | [] =>0
 |x::xs=>wt x+wts xs
end
mutual
def dp:D→Nat
 | .tup l=>1+dps l
 | .lst l=>1+dps l
 | .dic _ _=>1
 | .non=>0| .bl _=>0| .int _=>0| .str _=>0| .obj _=>0| .glb _=>0| .wtp _=>0| .ty _=>0| .scr _=>0| .kd _ _=>0| .xcp _ _ _=>0| .lam _ _=>0
def dps:List D→Nat
 | [] =>0
 |x::xs=>max (dp x) (dps xs)
end
theorem int_signs (i:Int):∀c ∈ (toString i).toList,45≤c.toNat:=by
 have nat:∀(n:Nat),∀c ∈ (Nat.repr n).toList,45≤c.toNat:=by
  intro n c hc
  rw[Nat.toList_repr] at hc
  have h:=Nat.isDigit_of_mem_toDigits (by decide) (by decide) hc
  simp only[Char.isDigit,Bool.and_eq_true,decide_eq_true_eq] at h
  have e:c.val.toNat=c.toNat:=rfl
  have h2:48≤c.val.toNat:=by simpa using UInt32.le_iff_toNat_le.mp h.1
  omega
 intro c hc
 rw[Int.toString_eq_repr,Int.repr_eq_if] at hc
 split at hc
 ·exact nat _ c hc
 ·rw[String.toList_append,List.mem_append] at hc
  rcases hc with hc|hc
  ·have:c='-':=by simpa using hc
   subst this;decide
  ·exact nat _ c hc
theorem tl_of (s:String):(Str.ofString s).cps.toList=s.toList.map Char.toNat:=by rw[Str.ofString_eq_toList]
theorem int_not (i:Int):(((toString i:String):Str)== "''")=false:=by
 rw[beq_eq_false_iff_ne]
 intro h
 have e:(Str.ofString (toString i)).cps.toList= [39,39] :=by rw[h];decide +kernel
 rw[tl_of] at e
 have:39 ∈ (toString i).toList.map Char.toNat:=by rw[e];simp
 rw[List.mem_map] at this
 obtain⟨c,hc,h39⟩:=this
 have:=int_signs i c hc
 omega
theorem first_not {a b:Str} {s:Str} (ha:a.cps.toList.head? ≠some 39) (h0:a.cps.toList≠ []) (h:s=a++b):(s== "''")=false:=by
 rw[beq_eq_false_iff_ne]
 rintro rfl
 have e:("''" :Str).cps.toList= [39,39] :=by decide +kernel
 rw[h] at e
 have e:a.cps.toList++b.cps.toList= [39,39] :=by rw[← e];show _=(a.cps++b.cps).toList;simp
 cases q:a.cps.toList with
 |nil=>exact h0 q
 |cons c cs=>
  rw[q] at e ha
  simp only[List.cons_append,List.cons.injEq] at e
  exact ha (by simp[e.1])
theorem reprChar_pos (q c:Nat):1≤(Builtin.Str.reprChar q c).length:=by
 unfold Builtin.Str.reprChar
 simp only []
 repeat' split
 all_goals simp
theorem fold_ge (q:Nat):∀(l:List Nat) (acc:Array Nat),acc.size+l.length≤(l.foldl (fun out c=>out++(Builtin.Str.reprChar q c).toArray) acc).size
 | [],acc=>Nat.le_refl _
 |c::r,acc=>by
  have ih:=fold_ge q r (acc++(Builtin.Str.reprChar q c).toArray)
  have:=reprChar_pos q c
  simp only[List.foldl_cons,List.length_cons]
  simp only[Array.size_append,List.size_toArray] at ih
  omega
theorem reprText_ge (x:Str):x.length+2≤(reprText x).length:=by
 unfold reprText
 show _≤((x.cps.foldl (fun out c=>out++(Builtin.Str.reprChar (reprQuote x) c).toArray) #[reprQuote x]).push (reprQuote x)).size
 rw[Array.size_push,←Array.foldl_toList]
 have:=fold_ge (reprQuote x) x.cps.toList #[reprQuote x]
 have e1:(#[reprQuote x] :Array Nat).size=1:=rfl
 have e2:x.cps.toList.length=x.length:=by simp[Str.length]
 omega
theorem reprChar_lo:∀c<128,(Builtin.Str.reprChar 39 c).length≤4∧(Builtin.Str.reprChar 34 c).length≤4:=by decide +kernel
theorem fold_le (q:Nat) (hq:∀c<128,(Builtin.Str.reprChar q c).length≤4):∀(l:List Nat) (acc:Array Nat),(∀ c ∈ l,c<128)→(l.foldl (fun out c=>out++(Builtin.Str.reprChar q c).toArray) acc).size≤acc.size+4*l.length
 | [],acc,_=>Nat.le_refl _
 |c::r,acc,h=>by
  have ih:=fold_le q hq r (acc++(Builtin.Str.reprChar q c).toArray) fun d hd=>h d (List.mem_cons_of_mem _ hd)
  have:=hq c (h c List.mem_cons_self)
  simp only[List.foldl_cons,List.length_cons]
  simp only[Array.size_append,List.size_toArray] at ih
  omega
theorem reprText_le (x:Str) (h:∀c ∈ x.cps.toList,c<128):(reprText x).length≤4*x.length+2:=by
 unfold reprText
 show((x.cps.foldl (fun out c=>out++(Builtin.Str.reprChar (reprQuote x) c).toArray) #[reprQuote x]).push (reprQuote x)).size≤_
 rw[Array.size_push,←Array.foldl_toList]
 have hq:∀c<128,(Builtin.Str.reprChar (reprQuote x) c).length≤4:=fun c hc=>by
  unfold reprQuote
  split
  ·exact(reprChar_lo c hc).2
  ·exact(reprChar_lo c hc).1
 have:=fold_le (reprQuote x) hq x.cps.toList #[reprQuote x] h
 have e1:(#[reprQuote x] :Array Nat).size=1:=rfl
 have e2:x.cps.toList.length=x.length:=by simp[Str.length]
 omega
theorem str_emp (x:Str):(reprText x== "''")=decide (x= ""):=by
 rw[Bool.eq_iff_iff,beq_iff_eq,decide_eq_true_eq]
 constructor
 ·intro h
  have:=reprText_ge x
  rw[h] at this
  have e:("''" :Str).length=2:=by decide +kernel
  have l0:x.length=0:=by omega
  apply TL.ext_tl
  show x.cps.toList=("" :Str).cps.toList
  have:x.cps.toList= [] :=by
   have:x.cps.toList.length=0:=by simpa[Str.length] using l0
   exact List.length_eq_zero_iff.mp this
  rw[this];decide +kernel
 ·rintro rfl;decide +kernel
theorem join_le (ts:List Str):(Str.join ", " ts).length≤piled ts:=by
 by_cases h:ts= []
 ·subst h;decide +kernel
 ·have:=join_length_add ts h;omega
mutual
theorem shown_ok {B:Nat} :∀ {x:D},U B x→∃a,toPyR x=some a∧a.showable=true∧a.shown.length+2≤wt x∧a.depth≤dp x∧(a.shown== "''")=isEmp x
 | .non,_=>⟨.none,rfl,by simp[PyData.showable],by rw[PyData.shown_none];simp only[wt];decide +kernel,by simp[PyData.depth,dp],by rw[PyData.shown_none];simp only[isEmp];decide +kernel⟩
 | .bl b,_=>⟨.bool b,rfl,by simp[PyData.showable],by rw[PyData.shown_bool];simp only[wt];cases b<;>decide +kernel,by simp[PyData.depth,dp],by rw[PyData.shown_bool];simp only[isEmp];cases b<;>decide +kernel⟩
 | .int i,h=>by
   cases h with
   |int h0 h1=>
    have hn:i.natAbs<10 ^ 5:=by omega
    refine⟨.int i,rfl,?_,?_,by simp[PyData.depth,dp],?_⟩
    ·simp only[PyData.showable,decide_eq_true_eq]
     by_cases z:i.natAbs=0
     ·rw[z];decide
     ·exact Nat.lt_trans ((Nat.log2_lt z).mpr (Nat.lt_trans hn (by decide:(10:Nat) ^ 5<2 ^ 20))) (by decide)
    ·rw[PyData.shown_int]
     have:=int_text_length_le10 (k:=5) (by decide) hn
     have e:(Str.ofString (toString i)).length=(toString i).length:=by
      rw[Str.ofString_eq_toList]
      simp only[Str.length,List.size_toArray,List.length_map]
      first|exact String.length_toList|rfl|simp[String.length]
     simp only[wt]
     omega
    ·rw[PyData.shown_int,int_not];rfl
 | .str s,h=>by
   cases h with
   |str hs=>
    refine⟨.str s,rfl,by simp[PyData.showable],?_,by simp[PyData.depth,dp],?_⟩
    ·rw[PyData.shown_str]
     have l9:=asc_len hs
     have:=reprText_le s (fun c hc=>by
      simp only[asc,Bool.and_eq_true,decide_eq_true_eq] at hs
      have:=List.all_eq_true.mp hs.2 c hc
      simpa using this)
     simp only[wt]
     omega
    ·rw[PyData.shown_str,str_emp];rfl
 | .tup l,h=>by
   have h:∀x ∈ l,U B x:=by cases h with|tup _ h=>exact h
   obtain⟨as,e1,e2,e3,e4⟩:=showns_ok h
   refine⟨.tuple as,by simp only[toPyR,e1];rfl,by simpa[PyData.showable] using e2,?_,by simp only[PyData.depth,dp];omega,?_⟩
   ·rw[PyData.shown_tuple,strLen_append,strLen_append]
    have:=join_le (PyData.shownAll as)
    have a1:(("(" :String):Str).length=1:=rfl
    have a2:(((if as.length==1 then ",)" else ")" :String):Str)).length≤2:=by split<;>decide
    simp only[wt];omega
   ·rw[PyData.shown_tuple,Str.append_assoc]
    rw[first_not (a:= "(") (by decide +kernel) (by decide +kernel) rfl];rfl
 | .lst l,h=>by
   have h:∀x ∈ l,U B x:=by cases h with|lst _ h=>exact h
   obtain⟨as,e1,e2,e3,e4⟩:=showns_ok h
   refine⟨.list as,by simp only[toPyR,e1];rfl,by simpa[PyData.showable] using e2,?_,by simp only[PyData.depth,dp];omega,?_⟩
   ·rw[PyData.shown_list,strLen_append,strLen_append]
    have:=join_le (PyData.shownAll as)
    have a1:(("[" :String):Str).length=1:=rfl
    have a2:(("]" :String):Str).length=1:=rfl
    simp only[wt];omega
   ·rw[PyData.shown_list,Str.append_assoc]
    rw[first_not (a:= "[") (by decide +kernel) (by decide +kernel) rfl];rfl
 | .dic ks l,h=>by
   cases h with
   |dic=>
    refine⟨.dict [],rfl,by simp[PyData.showable,PyData.showableKv],?_,by simp[PyData.depth,PyData.depthKv,dp],?_⟩
    ·rw[PyData.shown_dict,PyData.shownKv_nil];simp only[wt];decide +kernel
    ·rw[PyData.shown_dict,PyData.shownKv_nil];simp only[isEmp];decide +kernel
 | .obj _,h=>nomatch h
 | .glb _,h=>nomatch h
 | .wtp _,h=>nomatch h
 | .ty _,h=>nomatch h
 | .scr _,h=>nomatch h
 | .kd _ _,h=>nomatch h
 | .xcp _ _ _,h=>nomatch h
 | .lam _ _,h=>nomatch h
theorem showns_ok {B:Nat} :∀ {l:List D},(∀ x ∈ l,U B x)→∃as,toPyRL l=some as∧PyData.showableAll as=true∧piled (PyData.shownAll as)≤wts l∧PyData.depthAll as≤dps l
 | [],_=>⟨[],rfl,by simp[PyData.showableAll],by simp[PyData.shownAll,piled,wts],by simp[PyData.depthAll,dps]⟩
 |x::l,h=>by
  obtain⟨a,e1,e2,e3,e4,_⟩:=shown_ok (h x (List.mem_cons_self ..))
  obtain⟨as,f1,f2,f3,f4⟩:=showns_ok fun y hy=>h y (List.mem_cons_of_mem _ hy)
  refine⟨a::as,by simp only[toPyRL,e1,f1],by simp[PyData.showableAll,e2,f2],?_,by simp only[PyData.depthAll,dps];omega⟩
  simp only[PyData.shownAll,piled_cons,wts];omega
end
theorem repr_ok {B:Nat} {x:D} (h:U B x) (hw:wt x≤1000000) (hd:dp x≤100):∃z:Str,(∀ S,reprD [x] S= .ok (.str z) S)∧(z== "''")=isEmp x:=by
 obtain⟨a,e1,e2,e3,e4,e5⟩:=shown_ok h
 refine⟨a.shown,fun S=> ?_,e5⟩
 have hde:deref x S=x:=by cases h<;>rfl
 have hok:showOk a=true:=by
  simp only[showOk,e2,Bool.true_and,Bool.and_eq_true,decide_eq_true_eq]
  exact⟨Nat.le_trans (by omega) (by decide:1000000≤sizeLine),by omega⟩
 unfold reprD
 simp only[hde,e1]
 rw[if_pos hok]
section
variable {env:EnvD} {S S1:Store} {N B C:EnvD→Store→Prop} {T:D→Store→Prop} {c:TD} {a:ED} {r s t:SD}
theorem step_no (hc:c env S= .ok false S1) (h:(r env S1).sat N T B C):(sSeq (sIf c s sSkip) r env S).sat N T B C:=by
 rw[ssat_seq,ssat_if,hc,sat_ok,if_neg Bool.false_ne_true,ssat_skip];exact h
theorem step_yes (hc:c env S= .ok true S1) (h:(sSeq s r env S1).sat N T B C):(sSeq (sIf c s t) r env S).sat N T B C:=by
 rw[ssat_seq,ssat_if,hc,sat_ok,if_pos rfl,←ssat_seq];exact h
theorem step_asg {d:D} {g:GD} {env':EnvD} {S2:Store} (ha:a env S= .ok d S1) (hg:g d env S1= .nx env' S2) (h:(r env' S2).sat N T B C):(sSeq (sAsg a g) r env S).sat N T B C:=by
 rw[ssat_seq,ssat_asg,ha,sat_ok,hg,ssat_nx];exact h
end
end L3
inductive L3.R.esat {α :Type} (E:L3.Ex→L3.Store→Prop):L3.R α →(α →L3.Store→Prop)→Prop where
 |mk {a: α} {S:L3.Store} {Q: α →L3.Store→Prop} (h:Q a S):L3.R.esat E (.ok a S) Q
 |ex {e:L3.Ex} {S:L3.Store} {Q: α →L3.Store→Prop} (h:E e S):L3.R.esat E (.exc e S) Q
inductive L3.SR.esat (F:L3.Ex→L3.EnvD→L3.Store→Prop):L3.SR→(L3.EnvD→L3.Store→Prop)→(L3.D→L3.Store→Prop)→(L3.EnvD→L3.Store→Prop)→(L3.EnvD→L3.Store→Prop)→Prop where
 |nx {e S} {N:L3.EnvD→L3.Store→Prop} {T:L3.D→L3.Store→Prop} {B C:L3.EnvD→L3.Store→Prop} (h:N e S):L3.SR.esat F (.nx e S) N T B C
 |ret {d S} {N:L3.EnvD→L3.Store→Prop} {T:L3.D→L3.Store→Prop} {B C:L3.EnvD→L3.Store→Prop} (h:T d S):L3.SR.esat F (.ret d S) N T B C
 |brk {e S} {N:L3.EnvD→L3.Store→Prop} {T:L3.D→L3.Store→Prop} {B C:L3.EnvD→L3.Store→Prop} (h:B e S):L3.SR.esat F (.brk e S) N T B C
 |ct {e S} {N:L3.EnvD→L3.Store→Prop} {T:L3.D→L3.Store→Prop} {B C:L3.EnvD→L3.Store→Prop} (h:C e S):L3.SR.esat F (.ct e S) N T B C
 |exc {x e S} {N:L3.EnvD→L3.Store→Prop} {T:L3.D→L3.Store→Prop} {B C:L3.EnvD→L3.Store→Prop} (h:F x e S):L3.SR.esat F (.exc x e S) N T B C
namespace L3.X
open PySem L2 L3
section
variable {α β :Type} {S:Store} {env:EnvD} {d:D} {E:Ex→Store→Prop}
@[simp] theorem sat_ok {a: α} {Q: α →Store→Prop} :(R.ok a S).esat E Q=Q a S:=propext ⟨fun h=>by cases h;assumption, .mk⟩
@[simp] theorem sat_bad {Q: α →Store→Prop} :(R.bad:R α).esat E Q=False:=propext ⟨fun h=>(by cases h),False.elim⟩
@[simp] theorem sat_exc {e:Ex} {Q: α →Store→Prop} :(R.exc e S:R α).esat E Q=E e S:=propext ⟨fun h=>(by cases h;assumption), .ex⟩
theorem sat_bind {r:R α} {f: α →Store→R β} {Q: β →Store→Prop} :(r.bind f).esat E Q=r.esat E fun a S=>(f a S).esat E Q:=by cases r<;>simp[R.bind]
variable {Q:D→Store→Prop} {QB:Bool→Store→Prop} {QL:List D→Store→Prop}
@[simp] theorem sat_blD {x:D} :(blD x S).esat E QB=∃k,x= .bl k∧QB k S:=by
  unfold blD;cases x<;>simp
theorem sat_if_bad {c:Prop} [Decidable c] {a:R α} {Q: α →Store→Prop} :(if c then a else .bad).esat E Q=(c∧a.esat E Q):=by by_cases h:c<;>simp[h]
@[simp] theorem sat_eVar {i:Nat} :(eVar i env S).esat E Q=match env[i]? with
   |some (some d)=>Q d S
   | _=>False:=by unfold eVar;cases env[i]? with
  |none=>simp
  |some o=>cases o<;>simp
@[simp] theorem sat_eK:(eK d env S).esat E Q=Q d S:=sat_ok
@[simp] theorem sat_e1 {f:L3.F1} {a:ED} :(e1 f a env S).esat E Q=(a env S).esat E fun x S1=>(f x S1).esat E Q:=sat_bind
@[simp] theorem sat_e2 {f:L3.F2} {a b:ED} :(e2 f a b env S).esat E Q=(a env S).esat E fun x S1=>(b env S1).esat E fun y S2=>(f x y S2).esat E Q:=by unfold e2;rw[sat_bind];simp only[sat_bind]
@[simp] theorem sat_aNil:(aNil env S).esat E QL=QL [] S:=sat_ok
@[simp] theorem sat_aCons {a:ED} {r:AD} :(aCons a r env S).esat E QL=(a env S).esat E fun x S1=>(r env S1).esat E fun xs S2=>QL (x::xs) S2:=by unfold aCons;rw[sat_bind];simp only[sat_bind,sat_ok]
@[simp] theorem sat_eN {f:FN} {a:AD} :(eN f a env S).esat E Q=(a env S).esat E fun xs S1=>(f xs S1).esat E Q:=sat_bind
@[simp] theorem sat_eIf {c:TD} {a b:ED} :(eIf c a b env S).esat E Q=(c env S).esat E fun k S1=>if k=true then(a env S1).esat E Q else(b env S1).esat E Q:=by
  unfold eIf;rw[sat_bind];congr;funext k S1;cases k<;>simp
@[simp] theorem sat_tOfE {a:ED} :(tOfE a env S).esat E QB=(a env S).esat E fun x S1=>(blD x S1).esat E QB:=by
  unfold tOfE;rw[sat_bind];congr
@[simp] theorem sat_tTruth {a:ED} :(tTruth a env S).esat E QB=(a env S).esat E fun x S1=>(truthD x S1).esat E QB:=sat_bind
@[simp] theorem sat_tNot {a:TD} :(tNot a env S).esat E QB=(a env S).esat E fun k S1=>QB (!k) S1:=by unfold tNot;rw[sat_bind];simp only[sat_ok]
@[simp] theorem sat_tAnd {a b:TD} :(tAnd a b env S).esat E QB=(a env S).esat E fun k S1=>if k=true then(b env S1).esat E QB else QB false S1:=by
  unfold tAnd;rw[sat_bind];congr;funext k S1;cases k<;>simp
@[simp] theorem sat_tOr {a b:TD} :(tOr a b env S).esat E QB=(a env S).esat E fun k S1=>if k=true then QB true S1 else(b env S1).esat E QB:=by
  unfold tOr;rw[sat_bind];congr;funext k S1;cases k<;>simp
@[simp] theorem sat_eNot {a:ED} :(eNot a env S).esat E Q=(a env S).esat E fun x S1=>(blD x S1).esat E fun k S2=>Q (.bl (!k)) S2:=by
  unfold eNot;rw[sat_bind,sat_tOfE];simp only[sat_ok]
@[simp] theorem sat_eAnd {a b:ED} :(eAnd a b env S).esat E Q=(a env S).esat E fun x S1=>(blD x S1).esat E fun k S2=>if k=true then(b env S2).esat E Q else Q (.bl false) S2:=by
  unfold eAnd;rw[sat_bind,sat_tOfE];congr;funext x S1;congr;funext k S2;cases k<;>simp
@[simp] theorem sat_eOr {a b:ED} :(eOr a b env S).esat E Q=(a env S).esat E fun x S1=>(blD x S1).esat E fun k S2=>if k=true then Q (.bl true) S2 else(b env S2).esat E Q:=by
  unfold eOr;rw[sat_bind,sat_tOfE];congr;funext x S1;congr;funext k S2;cases k<;>simp
@[simp] theorem sat_eChain {f g:L3.F2} {a b c:ED} :(eChain f g a b c env S).esat E Q=(a env S).esat E fun x S1=>(b env S1).esat E fun y S2=>(f x y S2).esat E fun r S3=>(blD r S3).esat E fun k S4=>if k=true then(c env S4).esat E fun z S5=>(g y z S5).esat E Q else Q (.bl false) S4:=by
  unfold eChain;rw[sat_bind];simp only[sat_bind];congr;funext x S1;congr;funext y S2;congr;funext r S3
  cases r with
  |bl k=>cases k<;>simp[sat_bind]
  | _=>simp[blD]
@[simp] theorem sat_eBM {T:String} {f:D→FN} {o:ED} {a:AD} :(eBM T f o a env S).esat E Q=(o env S).esat E fun x S1=>(mtD x S1=some T∧(a env S1).esat E fun xs S2=>(f x xs S2).esat E Q):=by
  unfold eBM;rw[sat_bind];congr;funext x S1;rw[sat_if_bad,sat_bind]
@[simp] theorem sat_eKw {f:List D→FN} {a b:AD} :(eKw f a b env S).esat E Q=(a env S).esat E fun xs S1=>(b env S1).esat E fun zs S2=>(f xs zs S2).esat E Q:=by unfold eKw;rw[sat_bind];simp only[sat_bind]
@[simp] theorem sat_eFnL {i:Nat} {x:Str} {F:FN} {a:AD} :(eFnL i x F a env S).esat E Q=match env[i]? with
   |some (some (.glb y))=>y=x∧(a env S).esat E fun xs S1=>(F xs S1).esat E Q
   | _=>False:=by
  unfold eFnL
  cases env[i]? with
  |none=>simp
  |some o=>
   cases o with
   |none=>simp
   |some d=>
    cases d with
    |glb y=>simp only [];rw[sat_if_bad,sat_bind]
    | _=>simp
@[simp] theorem sat_iSeq {a:ED} :(iSeq a env S).esat E QL=(a env S).esat E fun x S1=>(itemsD x S1).esat E QL:=sat_bind
@[simp] theorem sat_iArgs {f:List D→Store→R (List D)} {a:AD} :(iArgs f a env S).esat E QL=(a env S).esat E fun xs S1=>(f xs S1).esat E QL:=sat_bind
@[simp] theorem sat_range1 {j:Int} :(range1 [.int j] S).esat E QL=(okRng j=true∧QL (rangeD 0 j) S):=by unfold range1;simp only [];rw[sat_if_bad,sat_ok]
@[simp] theorem sat_range2 {i j:Int} :(range2 [.int i, .int j] S).esat E QL=((okRng i&&okRng j)=true∧QL (rangeD i j) S):=by unfold range2;simp only [];rw[sat_if_bad,sat_ok]
@[simp] theorem sat_mkTup {xs:List D} :(mkTup xs S).esat E Q=(xs.length≤sizeLine∧Q (.tup xs) S):=by unfold mkTup;rw[sat_if_bad,sat_ok]
@[simp] theorem sat_mkLst {xs:List D} :(mkLst xs S).esat E Q=(xs.length≤sizeLine∧Q (.lst xs) S):=by unfold mkLst;rw[sat_if_bad,sat_ok]
@[simp] theorem sat_mkObj {xs:List D} :(mkObj xs S).esat E Q=(xs.length≤sizeLine∧Q (.obj S.length) (S++ [.lst xs])):=by unfold mkObj;rw[sat_if_bad,sat_ok]
@[simp] theorem sat_pNo {QO:Option Int→Store→Prop} :(pNo env S).esat E QO=QO none S:=sat_ok
@[simp] theorem sat_pYes {a:ED} {QO:Option Int→Store→Prop} :(pYes a env S).esat E QO=(a env S).esat E fun x S1=>∃i,x= .int i∧QO (some i) S1:=by
  unfold pYes;rw[sat_bind];congr;funext x S1
  cases x<;>simp
@[simp] theorem sat_eSl {a:ED} {l h:PD} :(eSl a l h env S).esat E Q=(a env S).esat E fun x S1=>(l env S1).esat E fun lo S2=>(h env S2).esat E fun hi S3=>(slD x lo hi S3).esat E Q:=by
  unfold eSl;simp only[sat_bind]
@[simp] theorem sat_eBackT {a:ED} :(eBackT a env S).esat E Q=(a env S).esat E fun x S1=>∃l,x= .tup l∧Q (.tup l.reverse) S1:=by
  unfold eBackT;rw[sat_bind];congr;funext x S1
  cases x<;>simp
@[simp] theorem sat_eDic0:(eDic0 env S).esat E Q=Q (.dic [] []) S:=sat_ok
@[simp] theorem sat_eDct0:(eDct0 env S).esat E Q=Q (.obj S.length) (S++ [.dK []]):=sat_ok
end
section
variable {S S1:Store} {env:EnvD} {d:D} {N B C:EnvD→Store→Prop} {T:D→Store→Prop} {Q:D→Store→Prop} {F:Ex→EnvD→Store→Prop} {E:Ex→Store→Prop}
@[simp] theorem ssat_nx:(SR.nx env S).esat F N T B C=N env S:=propext ⟨fun h=>by cases h;assumption, .nx⟩
@[simp] theorem ssat_ret:(SR.ret d S).esat F N T B C=T d S:=propext ⟨fun h=>by cases h;assumption, .ret⟩
@[simp] theorem ssat_brk:(SR.brk env S).esat F N T B C=B env S:=propext ⟨fun h=>by cases h;assumption, .brk⟩
@[simp] theorem ssat_ct:(SR.ct env S).esat F N T B C=C env S:=propext ⟨fun h=>by cases h;assumption, .ct⟩
@[simp] theorem ssat_bad:SR.bad.esat F N T B C=False:=propext ⟨fun h=>(by cases h),False.elim⟩
@[simp] theorem ssat_exc {e:Ex} :(SR.exc e env S).esat F N T B C=F e env S:=propext ⟨fun h=>(by cases h;assumption), .exc⟩
theorem ssat_toS {α :Type} {r:R α} {k: α →Store→SR} :(r.toS env k).esat F N T B C=r.esat (fun e S=>F e env S) fun a S=>(k a S).esat F N T B C:=by cases r<;>simp[R.toS]
@[simp] theorem ssat_skip:(sSkip env S).esat F N T B C=N env S:=ssat_nx
@[simp] theorem ssat_seq {a b:SD} :(sSeq a b env S).esat F N T B C=(a env S).esat F (fun e S=>(b e S).esat F N T B C) T B C:=by
  unfold sSeq;cases a env S<;>simp
@[simp] theorem ssat_if {c:TD} {a b:SD} :(sIf c a b env S).esat F N T B C=(c env S).esat (fun e S=>F e env S) fun k S1=>if k=true then(a env S1).esat F N T B C else(b env S1).esat F N T B C:=by
  unfold sIf;rw[ssat_toS];congr;funext k S1;cases k<;>simp
@[simp] theorem ssat_sRet {a:ED} :(sRet a env S).esat F N T B C=(a env S).esat (fun e S=>F e env S) T:=by unfold sRet;rw[ssat_toS];simp only[ssat_ret]
@[simp] theorem ssat_sExpr {a:ED} :(sExpr a env S).esat F N T B C=(a env S).esat (fun e S=>F e env S) fun _ S1=>N env S1:=by unfold sExpr;rw[ssat_toS];simp only[ssat_nx]
@[simp] theorem ssat_sBrk:(sBrk env S).esat F N T B C=B env S:=ssat_brk
@[simp] theorem ssat_sCt:(sCt env S).esat F N T B C=C env S:=ssat_ct
@[simp] theorem ssat_asg {a:ED} {g:GD} :(sAsg a g env S).esat F N T B C=(a env S).esat (fun e S=>F e env S) fun d S1=>(g d env S1).esat F N T B C:=by unfold sAsg;rw[ssat_toS]
@[simp] theorem ssat_par {is:List Nat} {a:AD} :(sPar is a env S).esat F N T B C=(a env S).esat (fun e S=>F e env S) fun xs S1=>(gNames is xs env S1).esat F N T B C:=by unfold sPar;rw[ssat_toS]
@[simp] theorem ssat_raise0 {c:Str} :(sRaise0 c env S).esat F N T B C=F ⟨c,[]⟩ env S:=ssat_exc
@[simp] theorem ssat_raise1 {c f:Str} {a:ED} :(sRaise1 c f a env S).esat F N T B C=(a env S).esat (fun e S=>F e env S) fun d S1=>F ⟨c,[(f,d)]⟩ env S1:=by unfold sRaise1;rw[ssat_toS];simp only[ssat_exc]
@[simp] theorem forL_nil {g:GD} {body:SD} :(forL g body [] env S).esat F N T B C=N env S:=ssat_nx
end
end L3.X
namespace L3
open PySem L2
structure Grow (S S':Store):Prop where
 le:S.length≤S'.length
 fr:∀(i:Nat) (o:O),S[i]? =some o→S'[i]? =some o
theorem Grow.trans {S S' S'':Store} (a:Grow S S') (b:Grow S' S''):Grow S S'':=⟨Nat.le_trans a.le b.le,fun i o h=>b.fr i o (a.fr i o h)⟩
theorem Grow.app (S:Store) (o:O):Grow S (S++ [o]):=⟨by simp,fun m o' e=>by rw[List.getElem?_append_left (List.getElem?_eq_some_iff.mp e).1];exact e⟩
theorem Grow.put {S S':Store} (h:Grow S S') {p:Nat} (hp:S.length≤p) (o:O):Grow S (S'.set p o):=by
 refine⟨by simpa using h.le,fun m o' e=> ?_⟩
 have:=(List.getElem?_eq_some_iff.mp e).1
 rw[List.getElem?_set_ne (by omega)];exact h.fr m o' e
theorem Grow.hand {S S':Store} {n:Nat} (x:Grow S S') (h:Hand n S):FrH n S S':=⟨x.le,fun i o _ h=>x.fr i o h,let⟨g,s,e⟩:=h;⟨g,s,x.fr _ _ e⟩⟩
theorem cutL_lo {l:List D} {i:Nat} (h:i≤l.length):cutL l none (some (i:Int))=l.take i:=by
 unfold cutL
 rw[HT.sIx_none,HT.sIx_nat]
 simp[Nat.min_eq_left h]
theorem cutL_hi {l:List D} {i:Nat} (h:i≤l.length):cutL l (some (i:Int)) none=l.drop i:=by
 unfold cutL
 rw[HT.sIx_none,HT.sIx_nat,Nat.min_eq_left h,List.take_of_length_le (by simp)]
def Tm.parts:Tm→List Tm
 | .num _=> []
 | .nam _=> []
 | .nd _ _ ps=>ps
def Tm.w:Tm→D
 | .num _=> .str "num"
 | .nam _=> .str "name"
 | .nd w _ _=> .str w
def Tm.m:Tm→D
 | .num i=> .int i
 | .nam s=> .str s
 | .nd _ m _=> .str m
theorem Tm.d_eq (t:Tm):t.d= .tup [t.w,t.m, .tup (Tm.ds t.parts)] :=by cases t<;>rfl
theorem Tm.sizes_mem {u:Tm} :∀ {ts:List Tm},u ∈ ts→u.size≤Tm.sizes ts
 |t::ts,h=>by
  simp only[Tm.sizes]
  rcases List.mem_cons.mp h with rfl|h
  ·omega
  ·have:=Tm.sizes_mem h;omega
theorem Tm.size_eq (t:Tm):t.size=1+Tm.sizes t.parts:=by cases t<;>simp[Tm.size,Tm.parts,Tm.sizes]
theorem Tm.dep_eq (t:Tm):t.dep=1+Tm.deps t.parts:=by cases t<;>simp[Tm.dep,Tm.parts,Tm.deps]
def Tm.at:Tm→List Nat→Option Tm
 |t,[] =>some t
 |t,i::q=>(t.parts[i]?).bind fun u=>u.at q
theorem Tm.at_app:∀(q r:List Nat) (t:Tm),t.at (q++r)=(t.at q).bind fun u=>u.at r
 | [],r,t=>rfl
 |i::q,r,t=>by
  simp only[List.cons_append,Tm.at]
  cases t.parts[i]? with
  |none=>rfl
  |some u=>exact Tm.at_app q r u
def pl (q:List Nat):D:= .tup (q.map fun i:Nat=> .int (i:Int))
mutual
/-- all places -/
def Tm.spots:Tm→List (List Nat)
 | .num _=> [[]]
 | .nam _=> [[]]
 | .nd _ _ ps=> [] ::Tm.spotsL 0 ps
def Tm.spotsL:Nat→List Tm→List (List Nat)
 | _,[] => []
 |k,t::ts=>t.spots.map (k:: ·)++Tm.spotsL (k+1) ts
end
theorem Tm.spots_eq (t:Tm):t.spots= [] ::Tm.spotsL 0 t.parts:=by cases t<;>simp[Tm.spots,Tm.parts,Tm.spotsL]
theorem Tm.spotsL_mem {q:List Nat} :∀ {ts:List Tm} {k:Nat},q ∈ Tm.spotsL k ts↔∃i r u,q=(k+i)::r∧ts[i]? =some u∧r ∈ u.spots
 | [],k=>by simp[Tm.spotsL]
 |t::ts,k=>by
  simp only[Tm.spotsL,List.mem_append,List.mem_map]
  rw[Tm.spotsL_mem (ts:=ts) (k:=k+1)]
  constructor
  ·rintro(⟨r,hr,rfl⟩|⟨i,r,u,rfl,h1,h2⟩)
   ·exact⟨0,r,t,rfl,rfl,hr⟩
   ·exact⟨i+1,r,u,by rw[show k+(i+1)=k+1+i by omega],by simpa using h1,h2⟩
  ·rintro⟨i,r,u,rfl,h1,h2⟩
   cases i with
   |zero=>simp only[List.getElem?_cons_zero,Option.some.injEq] at h1;subst h1;exact .inl ⟨r,h2,rfl⟩
   |succ i=>exact .inr ⟨i,r,u,by rw[show k+(i+1)=k+1+i by omega],by simpa using h1,h2⟩
theorem Tm.spots_at:∀ {q:List Nat} {t:Tm},q ∈ t.spots↔∃u,t.at q=some u
 | [],t=>by rw[Tm.spots_eq];simp[Tm.at]
 |i::q,t=>by
  rw[Tm.spots_eq,List.mem_cons]
  have e:(i::q= [])=False:=by simp
  rw[e,false_or,Tm.spotsL_mem]
  simp only[Tm.at]
  constructor
  ·rintro⟨j,r,u,e,h1,h2⟩
   simp only[Nat.zero_add,List.cons.injEq] at e
   obtain⟨rfl,rfl⟩:=e
   obtain⟨v,hv⟩:=Tm.spots_at.mp h2
   exact⟨v,by rw[h1];exact hv⟩
  ·rintro⟨v,hv⟩
   cases h1:t.parts[i]? with
   |none=>rw[h1] at hv;cases hv
   |some u=>
    rw[h1] at hv
    exact⟨i,q,u,by simp,h1,Tm.spots_at.mpr ⟨v,hv⟩⟩
mutual
theorem Tm.spots_len:∀t:Tm,t.spots.length=t.size
 | .num _=>rfl
 | .nam _=>rfl
 | .nd _ _ ps=>by simp only[Tm.spots,List.length_cons,Tm.size];rw[Tm.spotsL_len ps 0];omega
theorem Tm.spotsL_len:∀(ts:List Tm) (k:Nat),(Tm.spotsL k ts).length=Tm.sizes ts
 | [],k=>rfl
 |t::ts,k=>by simp only[Tm.spotsL,List.length_append,List.length_map,Tm.sizes];rw[Tm.spots_len t,Tm.spotsL_len ts (k+1)]
end
theorem Tm.at_dep:∀ {q:List Nat} {t u:Tm},t.at q=some u→q.length+u.dep≤t.dep
 | [],t,u,h=>by simp only[Tm.at,Option.some.injEq] at h;subst h;simp
 |i::q,t,u,h=>by
  simp only[Tm.at] at h
  cases h1:t.parts[i]? with
  |none=>rw[h1] at h;cases h
  |some v=>
   rw[h1] at h
   have:=Tm.at_dep (q:=q) h
   have:=(Tm.deps_le (B:=Tm.deps t.parts)).mp (Nat.le_refl _) v (List.mem_of_getElem? h1)
   rw[Tm.dep_eq t]
   simp only[List.length_cons];omega
theorem Tm.ds_get {ts:List Tm} {i:Nat} :(Tm.ds ts)[i]? =(ts[i]?).map Tm.d:=by rw[Tm.ds_map,List.getElem?_map]
end L3
namespace L3
open PySem L2
variable {S:Store}
theorem ix_parts (t:Tm):ixD t.d (.int 2) S= .ok (.tup (Tm.ds t.parts)) S:=by rw[Tm.d_eq];rfl
theorem ix_nat {l:List D} {i:Nat} {d:D} (h:l[i]? =some d):ixD (.tup l) (.int (i:Int)) S= .ok d S:=by
 have hl:=(List.getElem?_eq_some_iff.mp h).1
 simp only[ixD,atI,ixN]
 have e1:(if(i:Int)<0 then(i:Int)+l.length else i)=i:=by rw[if_neg (by omega)]
 simp[hl,(List.getElem?_eq_some_iff.mp h).2]
theorem Tm.at_take {t u:Tm} {q:List Nat} (h:t.at q=some u) {j:Nat} (hj:j<q.length) {v:Tm} (hv:t.at (q.take j)=some v):∃v',v.parts[q[j]]? =some v'∧t.at (q.take (j+1))=some v':=by
 have e1:q=q.take (j+1)++q.drop (j+1):=(List.take_append_drop _ _).symm
 rw[e1,Tm.at_app] at h
 cases h2:t.at (q.take (j+1)) with
 |none=>rw[h2] at h;cases h
 |some v'=>
  refine⟨v',?_,rfl⟩
  rw[List.take_succ_eq_append_getElem hj,Tm.at_app,hv] at h2
  simp only[Option.bind_some,Tm.at] at h2
  cases h3:v.parts[q[j]]? with
  |none=>rw[h3] at h2;cases h2
  |some w=>rw[h3] at h2;simpa using h2
end L3
namespace L3
open PySem L2
variable {S:Store}
theorem Tm.len_sizes:∀ts:List Tm,ts.length≤Tm.sizes ts
 | [] =>by simp[Tm.sizes]
 |t::ts=>by
  have:=Tm.len_sizes ts
  have:=Tm.size_pos t
  simp only[Tm.sizes,List.length_cons];omega
theorem Tm.parts_size {t u:Tm} {i:Nat} (h:t.parts[i]? =some u):u.size<t.size:=by
 have:=Tm.sizes_mem (List.mem_of_getElem? h)
 rw[Tm.size_eq t];omega
theorem Tm.parts_len (t:Tm):t.parts.length<t.size:=by
 have:=Tm.len_sizes t.parts
 rw[Tm.size_eq t];omega
theorem mkTup1 {d:D} :mkTup [d] S= .ok (.tup [d]) S:=by
 apply of_sat;rw[sat_mkTup];exact⟨small (by simp),rfl,rfl⟩
def mThere:SD:=
    sSeq (sFor (iSeq (eVar 1)) (gName 2) (sAsg (e2 ixD (e2 ixD (eVar 0) (eK (.int 2))) (eVar 2)) (gName 0)))
    (sRet (eVar 0))
theorem there_ok {t u:Tm} {q:List Nat} (S:Store) (h:t.at q=some u):run 2 3 mThere [t.d,pl q] S= .ok u.d S:=by
 apply of_sat
 rw[sat_run]
 refine⟨rfl,?_⟩
 unfold mThere
 refine seq_rule (fun e S'=>(∃ a b,e= [some u.d,a,b])∧S'=S) ?_ ?_
 ·simp only[ssat_for,sat_iSeq,sat_eVar,List.map_cons,List.map_nil,List.cons_append,List.nil_append,List.length_cons,List.length_nil,List.replicate,Nat.zero_add,Nat.reduceAdd,Nat.reduceSub,List.set_cons_succ,List.set_cons_zero,List.getElem?_cons_succ,List.getElem?_cons_zero,pl,itemsD_tup,sat_ok]
  refine for_rule (fun j e S'=>(∃ a b v,t.at (q.take j)=some v∧e= [some v.d,a,b])∧S'=S) ⟨⟨_,_,t,by simp[Tm.at],rfl⟩,rfl⟩ ?_ ?_
  ·rintro j hj e S' ⟨⟨a,b,v,hv,rfl⟩,rfl⟩
   simp only[List.length_map] at hj
   obtain⟨v',h1,h2⟩:=Tm.at_take h hj hv
   simp only[gName_eq,ssat_nx,List.set_cons_succ,List.set_cons_zero,List.getElem_map,ssat_asg,sat_e2,sat_eVar,sat_eK,List.getElem?_cons_succ,List.getElem?_cons_zero]
   rw[ix_parts,sat_ok,ix_nat (d:=v'.d) (by rw[Tm.ds_get,h1];rfl),sat_ok]
   simp only[ssat_nx]
   exact⟨⟨_,_,v',h2,rfl⟩,trivial⟩
  ·rintro e S' ⟨⟨a,b,v,hv,rfl⟩,rfl⟩
   simp only[List.length_map,List.take_length,h,Option.some.injEq] at hv
   subst hv
   exact⟨⟨_,_,rfl⟩,rfl⟩
 ·rintro e S' ⟨⟨a,b,rfl⟩,rfl⟩
  simp
end L3
namespace L3
open PySem L2
variable {S:Store}
theorem Tm.spotsL_app:∀(a b:List Tm) (k:Nat),Tm.spotsL k (a++b)=Tm.spotsL k a++Tm.spotsL (k+a.length) b
 | [],b,k=>rfl
 |t::a,b,k=>by
  simp only[List.cons_append,Tm.spotsL,List.length_cons]
  rw[Tm.spotsL_app a b (k+1),List.append_assoc,show k+1+a.length=k+(a.length+1) by omega]
theorem Tm.spot_short {t:Tm} {q:List Nat} (h:q ∈ t.spots):q.length<t.dep:=by
 obtain⟨u,hu⟩:=Tm.spots_at.mp h
 have:=Tm.at_dep hu
 have:=Tm.dep_pos u
 omega
theorem enumL_at {l:List D} {k j:Nat} (h:j<(enumL k l).length):∃x,l[j]? =some x∧(enumL k l)[j] = .tup [.int ((k+j:Nat):Int),x] :=enumL_get k l j _ (List.getElem?_eq_getElem h)
theorem enumA_tup {l:List D} :enumA [.tup l] S= .ok (enumL 0 l) S:=rfl
theorem extend_obj {n:Nat} {l m:List D} {Q:D→Store→Prop} (e:S[n]? =some (.lst l)) (hz:l.length+m.length≤sizeLine) (q:Q .non (S.set n (.lst (l++m)))):(extendD (.obj n) [.lst m] S).sat Q:=by
 unfold extendD
 simp only[lstAt,e,hz,if_true,sat_ok]
 exact q
def under (i:Nat):D→D
 | .tup l=> .tup (.int (i:Int)::l)
 |d=>d
def mSpots (f:FN):SD:=
    sSeq (sAsg (eN mkObj (aCons (eN mkTup (aNil)) (aNil))) (gName 1))
    (sSeq (sFor (iArgs enumA (aCons (e2 ixD (eVar 0) (eK (.int 2))) (aNil))) (gTup [2,3]) (sExpr (eBM "list" extendD (eVar 1) (aCons (eLc (iSeq (eN (callK f []) (aCons (eVar 3) (aNil)))) [4] (gName 4) (tYesD) (e2 addD (eN mkTup (aCons (eVar 2) (aNil))) (eVar 4))) (aNil)))))
    (sRet (e1 frzD (eVar 1))))
def IsSpots (f:FN) (n:Nat):Prop:=∀ {t:Tm} (S:Store),t.dep≤n→t.size≤900→(f [t.d] S).sat fun d S'=>d= .lst (t.spots.map pl)∧Grow S S'
theorem isSpots {f:FN} {n:Nat} (hf:IsSpots f n) (hn:n≤1000):IsSpots (run 1 5 (mSpots f)) (n+1):=fun {t} S hd hs=>by
 rw[sat_run]
 refine⟨rfl,?_⟩
 unfold mSpots
 have hp:=Tm.parts_len t
 refine step_asg (S1:=S++ [.lst [.tup []]]) (S2:=S++ [.lst [.tup []]]) (d:= .obj S.length) (by
  obtain⟨a,S',e,h1,h2⟩:=sat_ex.mp (show(eN mkObj (aCons (eN mkTup aNil) aNil) (List.map some [t.d] ++List.replicate (5- [t.d].length) none) S).sat fun d S'=>d= .obj S.length∧S'=S++ [.lst [.tup []]] by simp[sz0,sz1])
  rw[e,h1,h2]) rfl ?_
 refine seq_rule (fun e S'=>(∃ a b c,e= [some t.d,some (.obj S.length),a,b,c])∧S'[S.length]? =some (.lst (t.spots.map pl))∧Grow S S') ?_ ?_
 ·simp only[ssat_for,sat_iArgs,sat_aCons,sat_aNil,sat_e2,sat_eVar,sat_eK,List.map_cons,List.map_nil,List.cons_append,List.nil_append,List.length_cons,List.length_nil,List.replicate,Nat.zero_add,Nat.reduceAdd,Nat.reduceSub,List.set_cons_succ,List.set_cons_zero,List.getElem?_cons_succ,List.getElem?_cons_zero]
  rw[ix_parts,sat_ok,enumA_tup,sat_ok]
  refine for_rule (fun j e S'=>(∃ a b c,e= [some t.d,some (.obj S.length),a,b,c])∧S'[S.length]? =some (.lst ((([] :List Nat)::Tm.spotsL 0 (t.parts.take j)).map pl))∧Grow S S') ⟨⟨_,_,_,rfl⟩,by simp[Tm.spotsL,pl],Grow.app ..⟩ ?_ ?_
  ·rintro j hj e S' ⟨⟨a,b,c,rfl⟩,hS,gr⟩
   obtain⟨x,h1,h2⟩:=enumL_at hj
   rw[h2,Nat.zero_add]
   rw[Tm.ds_get] at h1
   cases h3:t.parts[j]? with
   |none=>rw[h3] at h1;cases h1
   |some u=>
    rw[h3] at h1
    simp only[Option.map_some,Option.some.injEq] at h1
    subst h1
    have hj':=(List.getElem?_eq_some_iff.mp h3).1
    have hu:=Tm.parts_size h3
    have hud:u.dep≤n:=by
     have:=(Tm.deps_le (B:=Tm.deps t.parts)).mp (Nat.le_refl _) u (List.mem_of_getElem? h3)
     rw[Tm.dep_eq t] at hd;omega
    simp only[gTup_tup,gNames_cons,gNames_nil,ssat_nx,List.set_cons_succ,List.set_cons_zero,ssat_sExpr,sat_eBM,sat_aCons,sat_aNil,sat_eVar,List.getElem?_cons_succ,List.getElem?_cons_zero]
    refine⟨by simp[mtD,hS],?_⟩
    rw[sat_eLc]
    simp only[sat_iSeq,sat_eN,sat_aCons,sat_aNil,sat_eVar,List.getElem?_cons_succ,List.getElem?_cons_zero,callK_eq,List.append_nil]
    refine sat_mono (hf (t:=u) S' hud (by omega)) fun d S2 ⟨e,g2⟩=> ?_
    subst e
    rw[itemsD_lst,sat_ok]
    have hul:u.spots.length=u.size:=Tm.spots_len u
    refine⟨small (by rw[List.length_map];omega),?_⟩
    have hS2:=g2.fr _ _ hS
    have em:(u.spots.map pl).map (under j)=(u.spots.map (j:: ·)).map pl:=by
     rw[List.map_map,List.map_map];rfl
    refine lc_map (under j) ?_ ?_
    ·rintro x hx
     obtain⟨q,hq,rfl⟩:=List.mem_map.mp hx
     have hql:=Tm.spot_short hq
     simp only[wipeD,List.set_cons_succ,List.set_cons_zero,sat_e2,sat_eN,sat_aCons,sat_aNil,sat_eVar,List.getElem?_cons_succ,List.getElem?_cons_zero,mkTup1,sat_ok]
     unfold pl
     rw[add_tup (small (by simp;omega)),sat_ok]
     exact⟨rfl,rfl⟩
    ·rw[em]
     have e1:t.parts.take (j+1)=t.parts.take j++ [u] :=by
      rw[List.take_succ_eq_append_getElem hj']
      have:t.parts[j] =u:=by rw[List.getElem?_eq_getElem hj'] at h3;simpa using h3
      rw[this]
     have e2:Tm.spotsL 0 (t.parts.take (j+1))=Tm.spotsL 0 (t.parts.take j)++u.spots.map (j:: ·):=by
      rw[e1,Tm.spotsL_app]
      simp[Tm.spotsL,Nat.min_eq_left (Nat.le_of_lt hj')]
     have e3:(Tm.spotsL 0 (t.parts.take j)).length+u.size≤900:=by
      have h5:(Tm.spotsL 0 (t.parts.take (j+1))).length≤Tm.sizes t.parts:=by
       rw[Tm.spotsL_len]
       have:=Tm.sizes_app (t.parts.take (j+1)) (t.parts.drop (j+1))
       rw[List.take_append_drop] at this
       omega
      rw[e2,List.length_append,List.length_map,hul] at h5
      rw[Tm.size_eq t] at hs
      omega
     refine extend_obj hS2 (small (by simp;omega)) ?_
     refine⟨⟨_,_,_,rfl⟩,?_,(gr.trans g2).put (Nat.le_refl _) _⟩
     rw[List.getElem?_set_self (by have:=(List.getElem?_eq_some_iff.mp hS2).1;omega),e2]
     simp
  ·rintro e S' ⟨⟨a,b,c,rfl⟩,hS,gr⟩
   rw[enumL_len,Tm.ds_len,List.take_length,←Tm.spots_eq] at hS
   exact⟨⟨_,_,_,rfl⟩,hS,gr⟩
 ·rintro e S' ⟨⟨a,b,c,rfl⟩,hS,gr⟩
  simp only[ssat_sRet,sat_e1,sat_eVar,List.getElem?_cons_succ,List.getElem?_cons_zero]
  unfold frzD
  simp only[hS,sat_ok]
  exact⟨trivial,gr.put (Nat.le_refl _) _⟩
theorem isSpots0 (f:FN):IsSpots f 0:=fun {t} S h=>by have:=Tm.dep_pos t;omega
end L3
namespace L3
open PySem L2
def HW:List Str:= ["any","called","count","rest"]
def Tm.word:Tm→Str
 | .num _=> "num"
 | .nam _=> "name"
 | .nd w _ _=>w
theorem Tm.w_eq (t:Tm):t.w= .str t.word:=by cases t<;>rfl
def isRest (t:Tm):Bool:=decide (t.word= "rest")
def rests (ps:List Tm):Nat:=(ps.filter isRest).length
def plains (ps:List Tm):Nat:=(ps.filter fun t=> !isRest t).length
theorem rests_add (ps:List Tm):rests ps+plains ps=ps.length:=by
 induction ps with
 |nil=>rfl
 |cons t r ih=>
  simp only[rests,plains,List.filter_cons] at ih ⊢
  cases isRest t<;>simp at* <;>omega
theorem rests_app (a b:List Tm):rests (a++b)=rests a+rests b:=by simp[rests]
theorem plains_app (a b:List Tm):plains (a++b)=plains a+plains b:=by simp[plains]
def pshape (w:Str):Option (Nat × Nat × Nat × Bool):=
 if w= "plus" ∨w= "times" ∨w= "most" then some (0,4,1,false)
 else if w= "row" then some (0,6,2,false)
 else if w= "say" then some (1,1,0,false)
 else if w= "less" ∨w= "below" then some (2,2,0,false)
 else if w= "if" then some (3,3,0,false)
 else if w= "let" ∨w= "each" then some (2,2,0,true)
 else none
inductive PG:Tm→Prop where
 |num {i:Int} :0≤i→i≤9972→PG (.num i)
 |nam {s:Str} :NameOk s→PG (.nam s)
 |hole {w h:Str} :w ∈ HW→NameOk h→PG (.nd w h [])
 |nd {w m:Str} {ps:List Tm} {f mo r:Nat} {g:Bool} :pshape w=some (f,mo,r,g)→f≤plains ps→plains ps≤mo→rests ps≤r→(g=true→NameOk m)→(g=false→m= "")→(∀ p ∈ ps,PG p)→PG (.nd w m ps)
mutual
/-- its holes,each with its word -/
def Tm.hl:Tm→List (Str × Str)
 | .num _=> []
 | .nam _=> []
 | .nd w m ps=>if w ∈ HW then [(m,w)] else Tm.hls ps
def Tm.hls:List Tm→List (Str × Str)
 | [] => []
 |t::ts=>t.hl++Tm.hls ts
end
def GIV:List Str:= ["let","each"]
mutual
/-- the names that it gives -/
def Tm.gv:Tm→List Str
 | .num _=> []
 | .nam _=> []
 | .nd w m ps=>if w ∈ GIV then m::Tm.gvs ps else Tm.gvs ps
def Tm.gvs:List Tm→List Str
 | [] => []
 |t::ts=>t.gv++Tm.gvs ts
end
theorem Tm.gvs_app:∀a b:List Tm,Tm.gvs (a++b)=Tm.gvs a++Tm.gvs b
 | [],b=>rfl
 |t::a,b=>by simp[Tm.gvs,Tm.gvs_app a b]
theorem Tm.hls_app:∀a b:List Tm,Tm.hls (a++b)=Tm.hls a++Tm.hls b
 | [],b=>rfl
 |t::a,b=>by simp[Tm.hls,Tm.hls_app a b]
theorem Tm.ds_app (a b:List Tm):Tm.ds (a++b)=Tm.ds a++Tm.ds b:=by simp[Tm.ds_map]
theorem Tm.deps_app (a b:List Tm):Tm.deps (a++b)=max (Tm.deps a) (Tm.deps b):=by
 induction a with
 |nil=>simp[Tm.deps]
 |cons t a ih=>simp[Tm.deps,ih,Nat.max_assoc]
theorem pshape_word {w:Str} {f mo r:Nat} {g:Bool} (h:pshape w=some (f,mo,r,g)):asc w=true∧w ∉ HW∧w≠ "num" ∧w≠ "name" ∧mo≤6∧r≤2∧(w ∈ GIV↔g=true)∧w ∈ WORDS:=by
 have all:WORDS.all (fun w=>match pshape w with
  |some (f,mo,r,g)=>asc w&& !decide (w ∈ HW)&& !decide (w= "num")&& !decide (w= "name")&&decide (mo≤6)&&decide (r≤2)&&(decide (w ∈ GIV)==g)
  |none=>true)=true:=by decide +kernel
 have key:w ∈ WORDS→asc w=true∧w ∉ HW∧w≠ "num" ∧w≠ "name" ∧mo≤6∧r≤2∧(w ∈ GIV↔g=true)∧w ∈ WORDS:=fun hw=>by
  have:=List.all_eq_true.mp all w hw
  rw[h] at this
  simp only[Bool.and_eq_true,Bool.not_eq_true',decide_eq_false_iff_not,decide_eq_true_eq,beq_iff_eq] at this
  obtain⟨⟨⟨⟨⟨⟨a,b⟩,c⟩,d⟩,e⟩,f⟩,g⟩:=this
  refine⟨a,b,c,d,e,f,?_,hw⟩
  rw[← g,decide_eq_true_eq]
 refine key ?_
 unfold pshape at h
 simp only[WORDS,List.mem_cons,List.not_mem_nil,or_false]
 split at h
 ·rename_i c;rcases c with c|c|c<;>simp[c]
 ·split at h
  ·rename_i c;simp[c]
  ·split at h
   ·rename_i c;simp[c]
   ·split at h
    ·rename_i c;rcases c with c|c<;>simp[c]
    ·split at h
     ·rename_i c;simp[c]
     ·split at h
      ·rename_i c;rcases c with c|c<;>simp[c]
      ·cases h
theorem PG.len {w m:Str} {ps:List Tm} (h:PG (.nd w m ps)):ps.length≤8:=by
 cases h with
 |hole _ _=>simp
 |nd hs _ h1 h2 _ _ _=>
  obtain⟨_,_,_,_,a,b,_⟩:=pshape_word hs
  have:=rests_add ps
  omega
theorem PG.kids {w m:Str} {ps:List Tm} (h:PG (.nd w m ps)):∀p ∈ ps,PG p:=by
 cases h with
 |hole _ _=>simp
 |nd _ _ _ _ _ _ h=>exact h
structure Ap (n p hq fq:Nat):Prop where
 np:n≠p
 nh:n≠hq
 nf:n≠fq
 ph:p≠hq
 pf:p≠fq
 hf:hq≠fq
structure FrP (n p hq fq:Nat) (S S':Store):Prop where
 le:S.length≤S'.length
 fr:∀m o,m≠n→m≠p→m≠hq→m≠fq→S[m]? =some o→S'[m]? =some o
section
variable {n p hq fq:Nat} {S S' S'':Store} {r x:Int} {hs:List (Str × Str)} {fs:List Str}
theorem FrP.refl:FrP n p hq fq S S:=⟨Nat.le_refl _,fun _ _ _ _ _ _ h=>h⟩
theorem FrP.trans (a:FrP n p hq fq S S') (b:FrP n p hq fq S' S''):FrP n p hq fq S S'':=⟨Nat.le_trans a.le b.le,fun m o h1 h2 h3 h4 e=>b.fr m o h1 h2 h3 h4 (a.fr m o h1 h2 h3 h4 e)⟩
theorem FrP.of (a:FrH n S S'):FrP n p hq fq S S':=⟨a.le,fun m o h1 _ _ _ e=>a.fr m o h1 e⟩
theorem FrP.set {m:Nat} (o:O) (h:m=p∨m=hq∨m=fq):FrP n p hq fq S (S.set m o):=
 ⟨by simp,fun k o' _ h2 h3 h4 e=>by rw[List.getElem?_set_ne (by rcases h with rfl|rfl|rfl<;>omega)];exact e⟩
theorem FrP.app (o:O):FrP n p hq fq S (S++ [o]):=⟨by simp,fun m o' _ _ _ _ e=>by rw[List.getElem?_append_left (List.getElem?_eq_some_iff.mp e).1];exact e⟩
theorem FrP.put {m:Nat} (a:FrP n p hq fq S S') (hm:S.length≤m) (o:O):FrP n p hq fq S (S'.set m o):=
 ⟨by simp[a.le],fun k o' h1 h2 h3 h4 e=>by
   have:k<S.length:=(List.getElem?_eq_some_iff.mp e).1
   rw[List.getElem?_set_ne (by omega)];exact a.fr k o' h1 h2 h3 h4 e⟩
end
def freshS (n:Nat):Str:=⟨#[104,111,108,101,97+n / 26,97+n % 26]⟩
theorem freshS_ok {n:Nat} (h:n<676):NameOk (freshS n):=by
 refine⟨by show 1≤6;decide,by show 6≤8;decide,?_,fun hw=> ?_⟩
 ·show([104,111,108,101,97+n / 26,97+n % 26] :List Nat).all isLet=true
  have h1:n / 26<26:=by omega
  have h2:n % 26<26:=by omega
  simp[isLet]
  omega
 ·have all:WORDS.all (fun s=>decide (s.cps.toList[0]? ≠some 104))=true:=by decide +kernel
  have:=List.all_eq_true.mp all _ hw
  simp[freshS] at this
theorem freshS_inj {n m:Nat} (hn:n<676) (hm:m<676) (h:freshS n=freshS m):n=m:=by
 have e:(freshS n).cps.toList=(freshS m).cps.toList:=by rw[h]
 simp only[freshS,List.cons.injEq] at e
 omega
def Fre (s:Str):Prop:=∃m:Nat,m<676∧s=freshS m
theorem Fre.ok {s:Str} (h:Fre s):NameOk s:=by obtain⟨m,hm,rfl⟩:=h;exact freshS_ok hm
structure Gh (hs:List (Str × Str)) (gs fs:List Str):Prop where
 nd:(hs.map (·.1)++gs++fs).Nodup
 fo:∀s ∈ hs.map (·.1)++gs++fs,Fre s
 hw:∀x ∈ hs,x.2 ∈ HW
theorem Gh.ok {hs:List (Str × Str)} {gs fs:List Str} (h:Gh hs gs fs):∀s ∈ hs.map (·.1)++gs++fs,NameOk s:=fun s hs=>(h.fo s hs).ok
theorem Gh.toHole {hs:List (Str × Str)} {gs fs:List Str} {f w:Str} (h:Gh hs gs (f::fs)) (hw:w ∈ HW):Gh (hs++ [(f,w)]) gs fs:=by
 have p:List.Perm ((hs++ [(f,w)]).map (·.1)++gs++fs) (hs.map (·.1)++gs++f::fs):=by
  simp only[List.map_append,List.map_cons,List.map_nil,List.append_assoc,List.cons_append,List.nil_append]
  exact List.Perm.append_left _ List.perm_middle.symm
 refine⟨p.nodup_iff.mpr h.nd,fun s hs=>h.fo s (p.mem_iff.mp hs),fun x hx=> ?_⟩
 rcases List.mem_append.mp hx with hx|hx
 ·exact h.hw x hx
 ·simp only[List.mem_cons,List.not_mem_nil,or_false] at hx;rw[hx];exact hw
theorem Gh.toGiv {hs:List (Str × Str)} {gs fs:List Str} {f:Str} (h:Gh hs gs (f::fs)):Gh hs (gs++ [f]) fs:=by
 have p:hs.map (·.1)++(gs++ [f])++fs=hs.map (·.1)++gs++f::fs:=by simp
 exact⟨by rw[p];exact h.nd,by rw[p];exact h.fo,h.hw⟩
theorem Gh.first {hs:List (Str × Str)} {gs fs:List Str} {f:Str} (h:Gh hs gs (f::fs)):NameOk f:=h.ok f (by simp)
theorem Gh.hole {hs:List (Str × Str)} {gs fs:List Str} {x:Str × Str} (h:Gh hs gs fs) (hx:x ∈ hs):NameOk x.1:=h.ok _ (by simp only[List.append_assoc,List.mem_append];exact .inl (List.mem_map.mpr ⟨x,hx,rfl⟩))
end L3
namespace L3
open PySem L2
abbrev WEnv:=Str→Option Int
abbrev Ev:=Tm→WEnv→Option (Int × List Int)
def evs (f:Ev):List Tm→WEnv→Option (List Int × List Int)
 | [],_=>some ([],[])
 |t::ts,e=>match f t e with
  |some (v,o)=>match evs f ts e with
   |some (vs,o')=>some (v::vs,o++o')
   |none=>none
  |none=>none
def upE (e:WEnv) (x:Str) (v:Int):WEnv:=fun y=>if x=y then some v else e y
def rnds (f:Ev) (t:Tm) (e:WEnv) (x:Str):List Int→Int→Option (Int × List Int)
 | [],last=>some (last,[])
 |i::is,_=>match f t (upE e x i) with
  |some (v,o)=>match rnds f t e x is v with
   |some (v',o')=>some (v',o++o')
   |none=>none
  |none=>none
def turns (n:Int):List Int:=(List.range n.toNat).map fun i:Nat=>(i:Int)
def ev:Nat→Ev
 |0,_,_=>none
 |k+1, .num i,_=>if 0≤i∧i<9973 then some (i,[]) else none
 |k+1, .nam x,e=>(e x).map fun v=>(v,[])
 |k+1, .nd w m ps,e=>
  if 100<ps.length then none
  else if w= "plus" then(evs (ev k) ps e).map fun r=>(r.1.sum % 9973,r.2)
  else if w= "times" then(evs (ev k) ps e).map fun r=>(r.1.foldl (fun a b=>a*b % 9973) 1,r.2)
  else if w= "most" then match evs (ev k) ps e with
   |some (vs,o)=>(maxI vs).map fun v=>(v,o)
   |none=>none
  else if w= "less" then match evs (ev k) ps e with
   |some ([a,b],o)=>some ((a-b) % 9973,o)
   | _=>none
  else if w= "below" then match evs (ev k) ps e with
   |some ([a,b],o)=>some (if a<b then 1 else 0,o)
   | _=>none
  else if w= "row" then(evs (ev k) ps e).map fun r=>(r.1.getLastD 0,r.2)
  else match ps with
   | [a] =>if w= "say" then(ev k a e).map fun r=>(r.1,r.2++ [r.1]) else none
   | [a,b] =>match ev k a e with
     |some (v,o)=>
      if w= "let" then(ev k b (upE e m v)).map fun r=>(r.1,o++r.2)
      else if w= "each" then(rnds (ev k) b e m (turns (v % 4)) 0).map fun r=>(r.1,o++r.2)
      else none
     |none=>none
   | [a,b,c] =>if w= "if" then match ev k a e with
       |some (v,o)=>(ev k (if v≠0 then b else c) e).map fun r=>(r.1,o++r.2)
       |none=>none
     else none
   | _=>none
end L3
namespace L3
open PySem L2
abbrev Kn:=List (Key × D)
def Tm.gives:Tm→Option Str
 | .nd w m _=>if w= "let" ∨w= "each" then some m else none
 | _=>none
def Tm.name:Tm→Option Str
 | .nam s=>some s
 | _=>none
def knx (u:Tm) (p:List Nat) (kn:Kn) (k:Nat):Kn:=match u.gives with
 |some m=>if k=1 then putD kn (.inr m) (pl p) else kn
 |none=>kn
def gv:Kn→Tm→List Nat→List Nat→Option (Str × D)
 |kn,t,p,[] =>t.name.map fun s=>(s,(dGet kn (.inr s)).getD .non)
 |kn,t,p,i::r=>(t.parts[i]?).bind fun u=>gv (knx t p kn i) u (p++ [i]) r
def key (q:List Nat):List Key:=q.map fun i:Nat=> .inl (i:Int)
end L3
namespace L3
open PySem L2
variable {S:Store} {n:Nat}
theorem tm_wt:∀t:Tm,wt t.d≤400*t.size
 | .num _=>by simp[Tm.d,wt,wts,Tm.size]
 | .nam _=>by simp[Tm.d,wt,wts,Tm.size]
 | .nd w m ps=>by
   have:∀ts:List Tm,(∀ t ∈ ts,wt t.d≤400*t.size)→wts (Tm.ds ts)≤400*Tm.sizes ts:=by
    intro ts
    induction ts with
    |nil=>intro _;simp[Tm.ds,wts]
    |cons t ts ih=>
     intro h
     have h1:=h t (List.mem_cons_self ..)
     have h2:=ih fun t ht=>h t (List.mem_cons_of_mem _ ht)
     simp only[Tm.ds,wts,Tm.sizes];omega
   have:=this ps fun t _=>tm_wt t
   simp only[Tm.d,wt,wts,Tm.size];omega
theorem is_ok {α :Type} {r:R α} {a: α} {S1:Store} (h:r.sat fun d S'=>d=a∧S'=S1):r= .ok a S1:=by
 obtain⟨x,S',e,rfl,rfl⟩:=sat_ex.mp h
 exact e
end L3
namespace L3
open PySem L2 PyProof.Rows
def okS (s:Str):Prop:=∀c ∈ s.cps.toList,c<1114112
theorem toPyL_strs:∀l:List Str,(∀ s ∈ l,PyData.strOk s=true)→toPyL (l.map .str)=some (l.map .str)
 | [],_=>rfl
 |s::l,h=>by
  simp only[List.map_cons,toPyL,toPy,h s (List.mem_cons_self ..),if_true,toPyL_strs l fun t ht=>h t (List.mem_cons_of_mem _ ht)]
end L3
namespace L3
open PySem L2
noncomputable def mHole (tk pk:FN):SD:=
 sSeq (sAsg (eLcO (e2 ixD (eVar 1) (eK (.str "holes"))) [4,5] (gTup [4,5]) (tOfE (e2 eqD (eVar 5) (eVar 2))) (eVar 4)) (gName 3))
 (sSeq (sIf (tAnd (tOfE (e2 neD (eVar 3) (eN mkLst (aNil)))) (tOfE (e2 eqD (eN (callK tk []) (aCons (eVar 0) (aCons (eK (.int 5)) (aNil)))) (eK (.int 0))))) (sRet (eN mkTup (aCons (eVar 2) (aCons (eN (callK pk []) (aCons (eVar 0) (aCons (eVar 3) (aNil)))) (aCons (eN mkTup (aNil)) (aNil)))))) (sSkip))
 (sSeq (sExpr (eBM "list" appendD (e2 ixD (eVar 1) (eK (.str "holes"))) (aCons (eN mkTup (aCons (eBM "list" popD (e2 ixD (eVar 1) (eK (.str "fresh"))) (aCons (eK (.int 0)) (aNil))) (aCons (eVar 2) (aNil)))) (aNil))))
 (sRet (eN mkTup (aCons (eVar 2) (aCons (e2 ixD (e2 ixD (e2 ixD (eVar 1) (eK (.str "holes"))) (e1 negD (eK (.int 1)))) (eK (.int 0))) (aCons (eN mkTup (aNil)) (aNil))))))))
def ofW (hs:List (Str × Str)) (w:Str):List Str:=(hs.filter fun x=>decide (x.2=w)).map (·.1)
def ofF (w:Str):D→Option D
 | .tup [.str h, .str v] =>if v=w then some (.str h) else none
 | _=>none
theorem ofF_all (w:Str):∀hs:List (Str × Str),(hs.map fun x=>D.tup [.str x.1, .str x.2]).filterMap (ofF w)=(ofW hs w).map .str
 | [] =>rfl
 |(h,v)::hs=>by
  have ih:=ofF_all w hs
  simp only[List.map_cons,List.filterMap_cons,ofF]
  by_cases e:v=w
  ·subst e
   simp only[if_true]
   rw[ih];simp[ofW]
  ·simp only[e,if_false]
   rw[ih];simp[ofW,e]
theorem ofW_mem {hs:List (Str × Str)} {w h:Str} (m:h ∈ ofW hs w):(h,w) ∈ hs:=by
 simp only[ofW,List.mem_map,List.mem_filter,decide_eq_true_eq] at m
 obtain⟨⟨a,b⟩,⟨m,e⟩,e2⟩:=m
 subst e e2
 exact m
theorem ne_lst0 {l:List Str} {S:Store} (h:∀s ∈ l,PyData.strOk s=true):neD (.lst (l.map .str)) (.lst []) S= .ok (.bl (!l.isEmpty)) S:=by
 have h1:toPy (deref (.lst (l.map .str)) S)=some (.list (l.map .str)):=by simp only[deref,toPy,toPyL_strs l h];rfl
 have h2:toPy (deref (.lst []) S)=some (.list []):=by simp[deref,toPy,toPyL]
 rw[neD_py h1 h2 (by simp[PyData.depth,PyData.depthAll])]
 cases l with
 |nil=>simp[PyData.eqv,PyData.eqvAll]
 |cons a l=>simp[PyData.eqv,PyData.eqvAll]
end L3
namespace L3
open PySem L2
def NmD (L:Nat) (d:D):Prop:=∃kvs:List (Key × D),d= .dic (kvs.map (·.1)) (kvs.map (·.2))∧(∀ x ∈ kvs,∃s,x.2= .str s∧NameOk s)∧kvs.length+L≤100
theorem zip_maps {α β :Type} :∀l:List (α × β),(l.map (·.1)).zip (l.map (·.2))=l
 | [] =>rfl
 |x::l=>by simp[zip_maps l]
theorem NmD.look {L:Nat} {d:D} (h:NmD L d) (m:Str):(∀ S,inD (.str m) d S= .ok (.bl false) S)∨(∃ s,NameOk s∧∀S,inD (.str m) d S= .ok (.bl true) S∧ixD d (.str m) S= .ok (.str s) S):=by
 obtain⟨kvs,rfl,h1,h2⟩:=h
 cases hd:dGet kvs (.inr m) with
 |none=>
  refine .inl fun S=> ?_
  simp only[inD,memD,memKey,keyOf,zip_maps,hd]
  rfl
 |some v=>
  have:∃x ∈ kvs,x.2=v:=by
   simp only[dGet,Option.map_eq_some_iff] at hd
   obtain⟨x,hx,e⟩:=hd
   exact⟨x,List.mem_of_find?_eq_some hx,e⟩
  obtain⟨x,hx,rfl⟩:=this
  obtain⟨s,e,ok⟩:=h1 x hx
  refine .inr ⟨s,ok,fun S=>⟨?_,?_⟩⟩
  ·simp only[inD,memD,memKey,keyOf,zip_maps,hd]
   rfl
  ·simp only[ixD,keyOf,zip_maps,hd,e]
theorem keyOf_keyD (k:Key):keyOf (keyD k)=some k:=by cases k<;>rfl
theorem pairKs_pairs:∀kvs:List (Key × D),pairKs (pairs kvs)=some kvs
 | [] =>rfl
 |p::r=>by simp[pairs,pairKs,pairK,keyOf_keyD,pairKs_pairs r]
theorem pairKs_app {a b:List D} {x y:List (Key × D)} (h1:pairKs a=some x) (h2:pairKs b=some y):pairKs (a++b)=some (x++y):=by
 induction a generalizing x with
 |nil=>cases h1;simpa using h2
 |cons d l ih=>
  simp only[pairKs] at h1
  split at h1
  ·rename_i p r e1 e2
   cases h1
   simp[pairKs,e1,ih e2]
  ·cases h1
theorem pairs_len:∀kvs:List (Key × D),(pairs kvs).length=kvs.length
 | [] =>rfl
 |p::r=>by simp[pairs,pairs_len r]
theorem put_all {P:D→Prop} {kvs:List (Key × D)} {k:Key} {v:D} (h:∀x ∈ kvs,P x.2) (hv:P v):∀x ∈ putD kvs k v,P x.2:=by
 intro x hx
 unfold putD at hx
 split at hx
 ·obtain⟨y,hy,rfl⟩:=List.mem_map.mp hx
  split
  ·exact hv
  ·exact h y hy
 ·rcases List.mem_append.mp hx with hx|hx
  ·exact h x hx
  ·simp only[List.mem_cons,List.not_mem_nil,or_false] at hx;rw[hx];exact hv
theorem merge_all {P:D→Prop} :∀ {l acc:List (Key × D)},(∀ x ∈ acc,P x.2)→(∀ x ∈ l,P x.2)→∀x ∈ mergeD acc l,P x.2
 | [],acc,h,_=>h
 |y::l,acc,h,g=>by
  show ∀x ∈ mergeD (putD acc y.1 y.2) l,P x.2
  exact merge_all (put_all h (g y List.mem_cons_self)) fun x hx=>g x (List.mem_cons_of_mem _ hx)
theorem merge_len:∀ {l acc:List (Key × D)},(mergeD acc l).length≤acc.length+l.length
 | [],acc=>Nat.le_refl _
 |y::l,acc=>by
  show(mergeD (putD acc y.1 y.2) l).length≤_
  have:=merge_len (l:=l) (acc:=putD acc y.1 y.2)
  have:=put_len acc y.1 y.2
  simp only[List.length_cons];omega
end L3
namespace L3
open PySem L2
theorem gvs_one (u:Tm):Tm.gvs [u] =u.gv:=by simp[Tm.gvs]
theorem hls_one (u:Tm):Tm.hls [u] =u.hl:=by simp[Tm.hls]
end L3
namespace L3
open PySem L2
theorem shape4_pshape {w:Str} {f mo:Nat} {g:Bool} (h:Q.shape4 w=some (f,mo,g)):(w= "let" ∨w= "each")∧f=2∧mo=2∧g=true∧pshape w=some (2,2,0,true)∨(w ∈ (["row","plus","times","most"] :List Str))∧g=false∧mo≤5∨(w ∈ (["say","less","below","if"] :List Str))∧pshape w=some (f,mo,0,g)∧g=false:=by
 have key:∀w' ∈ (["plus","times","most","row","say","less","below","if","let","each"] :List Str),Q.shape4 w'=some (f,mo,g)→(w'= "let" ∨w'= "each")∧f=2∧mo=2∧g=true∧pshape w'=some (2,2,0,true)∨(w' ∈ (["row","plus","times","most"] :List Str))∧g=false∧mo≤5∨(w' ∈ (["say","less","below","if"] :List Str))∧pshape w'=some (f,mo,0,g)∧g=false:=by
  have all:(["plus","times","most","row","say","less","below","if","let","each"] :List Str).all (fun w'=>match Q.shape4 w' with
   |some (f,mo,g)=>(decide (w'= "let" ∨w'= "each")&&f==2&&mo==2&&g&&decide (pshape w'=some (2,2,0,true))) || (decide (w' ∈ (["row","plus","times","most"] :List Str))&& !g&&decide (mo≤5)) || (decide (w' ∈ (["say","less","below","if"] :List Str))&&decide (pshape w'=some (f,mo,0,g))&& !g)
   |none=>true)=true:=by decide +kernel
  intro w' hw e
  have:=List.all_eq_true.mp all w' hw
  rw[e] at this
  simp only[Bool.or_eq_true,Bool.and_eq_true,decide_eq_true_eq,beq_iff_eq,Bool.not_eq_true'] at this
  rcases this with(⟨⟨⟨⟨a,b⟩,c⟩,d⟩,e⟩|⟨⟨a,b⟩,c⟩)|⟨⟨a,b⟩,c⟩
  ·exact .inl ⟨a,b,c,d,e⟩
  ·exact .inr (.inl ⟨a,b,c⟩)
  ·exact .inr (.inr ⟨a,b,c⟩)
 refine key w ?_ h
 unfold Q.shape4 at h
 simp only[List.mem_cons,List.not_mem_nil,or_false]
 split at h
 ·rename_i c;rcases c with c|c|c<;>simp[c]
 ·split at h
  ·rename_i c;simp[c]
  ·split at h
   ·rename_i c;simp[c]
   ·split at h
    ·rename_i c;rcases c with c|c<;>simp[c]
    ·split at h
     ·rename_i c;simp[c]
     ·split at h
      ·rename_i c;rcases c with c|c<;>simp[c]
      ·cases h
theorem plains_all {us:List Tm} (h:∀u ∈ us,isRest u=false):plains us=us.length∧rests us=0:=by
 induction us with
 |nil=>exact⟨rfl,rfl⟩
 |cons u us ih=>
  obtain⟨a,b⟩:=ih fun v hv=>h v (List.mem_cons_of_mem _ hv)
  have:=h u List.mem_cons_self
  simp only[plains,rests,List.filter_cons,this] at a b ⊢
  exact⟨by simpa using a,by simpa using b⟩
theorem hole_gv {w z:Str} (hw:w ∈ HW):(Tm.nd w z []).gv= [] ∧(Tm.nd w z []).hl= [(z,w)] ∧PG (.nd w z [])=PG (.nd w z []):=by
 refine⟨?_,by simp[Tm.hl,hw],rfl⟩
 have:w ∉ GIV:=by
  simp only[HW,List.mem_cons,List.not_mem_nil,or_false] at hw
  rcases hw with rfl|rfl|rfl|rfl<;>decide +kernel
 simp[Tm.gv,this,Tm.gvs]
end L3
namespace L3
open PySem L2
section
variable {env:EnvD} {S:Store} {N B C:EnvD→Store→Prop} {T:D→Store→Prop} {a r:SD}
theorem seq_done (h:(a env S).sat (fun _ _=>False) T (fun _ _=>False) fun _ _=>False):(sSeq a r env S).sat N T B C:=by
 rw[ssat_seq];exact ssat_mono h (fun _ _ h=>h.elim) (fun _ _ h=>h) (fun _ _ h=>h.elim) fun _ _ h=>h.elim
end
theorem isRest_num (i:Int):isRest (.num i)=false:=by show decide (("num" :Str)= "rest")=false;decide +kernel
theorem isRest_nam (s:Str):isRest (.nam s)=false:=by show decide (("name" :Str)= "rest")=false;decide +kernel
theorem in_le {w:Str} {S:Store} (h:w= "let" ∨w= "each"):inD (.str w) (.tup [.str "let", .str "each"]) S= .ok (.bl true) S:=by
 rcases h with rfl|rfl<;>kernel_rfl
theorem in_le_no {w:Str} {S:Store} (h:w ∈ (["row","plus","times","most","say","less","below","if"] :List Str)):inD (.str w) (.tup [.str "let", .str "each"]) S= .ok (.bl false) S:=by
 simp only[List.mem_cons,List.not_mem_nil,or_false] at h
 rcases h with rfl|rfl|rfl|rfl|rfl|rfl|rfl|rfl<;>kernel_rfl
end L3
namespace L3
open PySem L2
theorem rest_gv (z:Str):(Tm.nd "rest" z []).gv= [] ∧(Tm.nd "rest" z []).hl= [(z,("rest" :Str))] :=by
 obtain⟨a,b,_⟩:=hole_gv (w:= "rest") (z:=z) (by decide +kernel)
 exact⟨a,b⟩
theorem rest_is (z:Str):isRest (.nd "rest" z [])=true:=by show decide (("rest" :Str)= "rest")=true;decide +kernel
theorem rests_snoc (us:List Tm) (u:Tm):rests (us++ [u])=rests us+(if isRest u then 1 else 0)∧plains (us++ [u])=plains us+(if isRest u then 0 else 1):=by
 rw[rests_app,plains_app]
 constructor
 ·congr 1
  simp only[rests,List.filter_cons,List.filter_nil]
  cases isRest u<;>rfl
 ·congr 1
  simp only[plains,List.filter_cons,List.filter_nil]
  cases isRest u<;>rfl
end L3
namespace L3
open PySem L2
def isHeap (w:Str):Bool:=decide (w= "plus" ∨w= "times" ∨w= "most")
theorem hw_words {w:Str} (h:w ∈ HW):w ∈ WORDS∧isHeap w=false:=by
 simp only[HW,List.mem_cons,List.not_mem_nil,or_false] at h
 rcases h with rfl|rfl|rfl|rfl<;>decide +kernel
theorem PG.word {t:Tm} (h:PG t):t.word ∈ WORDS:=by
 cases h with
 |num _ _=>show("num" :Str) ∈ WORDS;decide +kernel
 |nam _=>show("name" :Str) ∈ WORDS;decide +kernel
 |hole h _=>exact(hw_words h).1
 |nd h _ _ _ _ _ _=>exact(pshape_word h).2.2.2.2.2.2.2
theorem PG.parts {t:Tm} (h:PG t):t.parts.length≤8∧∀u ∈ t.parts,PG u:=by
 cases t with
 |num _=>exact⟨by simp[Tm.parts],by simp[Tm.parts]⟩
 |nam _=>exact⟨by simp[Tm.parts],by simp[Tm.parts]⟩
 |nd w m ps=>exact⟨h.len,h.kids⟩
theorem ne_tup0' {l:List D} {S:Store} :neD (.tup l) (.tup []) S= .ok (.bl (!l.isEmpty)) S:=ne_tup0
end L3
namespace L3
open PySem L2
structure Pat (t:Tm):Prop where
 pg:PG t
 rs:isRest t=false
 size:t.size≤20
 dep:t.dep≤6
 cons:∀x ∈ t.hl,∀y ∈ t.hl,x.1=y.1→x.2=y.2
 gnd:t.gv.Nodup
 apart:∀x ∈ t.hl,x.1 ∉ t.gv
 hfo:∀x ∈ t.hl,Fre x.1
 gfo:∀x ∈ t.gv,Fre x
theorem let_at {i:Int} (h0:0≤i) (h1:i<26) (S:Store):ixD (.str LET) (.int i) S= .ok (.str ⟨#[97+i.toNat]⟩) S:=by
 obtain⟨k,rfl⟩:∃k:Nat,i=k:=⟨i.toNat,by omega⟩
 have hk:k<26:=by omega
 simp only[ixD]
 rw[if_pos (by decide +kernel)]
 have:atI LET.cps.toList (k:Int)=some (97+k):=by
  rw[let_list]
  simp only[atI,ixN]
  simp
  rw[if_pos (by omega)]
  simp[List.getElem?_range',hk]
 rw[this];rfl
def IsThere (th:FN):Prop:=∀(t u:Tm) (q:List Nat) (S:Store),t.at q=some u→th [t.d,pl q] S= .ok u.d S
theorem Good4.at {u:Tm} :∀ {q:List Nat} {t:Tm},Q.Good4 t→t.at q=some u→Q.Good4 u
 | [],t,h,e=>by cases e;exact h
 |i::q,t,h,e=>by
  simp only[Tm.at] at e
  cases hp:t.parts[i]? with
  |none=>rw[hp] at e;cases e
  |some v=>
   rw[hp] at e
   refine Good4.at (q:=q) (t:=v) ?_ e
   have hm:=List.mem_of_getElem? hp
   cases h with
   |num _ _=>simp[Tm.parts] at hm
   |nam _=>simp[Tm.parts] at hm
   |nd _ _ _ _ _ k=>exact k v hm
end L3
namespace L3
open PySem L2
local macro_rules| `(tactic| open_k)=> `(tactic| simp only[ssat_seq,ssat_asg,ssat_sRet,ssat_sExpr,ssat_if,ssat_skip,ssat_par,ssat_nx,ssat_ret,ssat_for,sat_e2,sat_e1,sat_eN,sat_aCons,sat_aNil,sat_eVar,sat_eK,sat_tOfE,sat_tTruth,sat_tNot,sat_tAnd,sat_tOr,sat_eIf,sat_eBM,sat_iSeq,sat_iArgs,sat_eAnd,sat_eOr,sat_eNot,sat_eChain,sat_eSl,sat_pNo,sat_pYes,sat_eLc,sat_eKw,sat_mkTup,sat_mkLst,sat_mkObj,sat_ok,callK_eq,List.append_nil,List.map_cons,List.map_nil,List.length_cons,List.length_nil,List.replicate,List.getElem?_cons_succ,List.getElem?_cons_zero,List.cons_append,List.nil_append,List.set_cons_succ,List.set_cons_zero,gName_eq,gTup_tup,gNames_cons,gNames_nil,Nat.zero_add,Nat.reduceAdd,Nat.reduceSub,sz0,sz1,sz2,sz3,sz4,sz5,sz6,sz7,sz8,sz10,sz17,true_and,add_int,sub_int,neg_int,lt_int,le_int,gt_int,ge_int,eq_int,ne_int,blD_bl,truthD_bl,itemsD_lst,itemsD_tup,wipeD,eq_strs,ne_strs,sl_tup,sl_lst,if_true,if_false,Bool.false_eq_true,sat_range1,sat_range2,tuple_lst,tuple_tup,len_tup,len_lst,len_scr,D.int.injEq,exists_eq_left',mt_str])
def mListed (f:FN):SD:=
    sRet (e2 addD (eN mkLst (aCons (eVar 0) (aNil))) (eLc2 (iSeq (e2 ixD (eVar 0) (eK (.int 2)))) [2,1] (gName 2) (tYesD) (iSeq (eN (callK f []) (aCons (eVar 2) (aNil)))) [1] (gName 1) (tYesD) (eVar 1)))
def mNodesOf (f:FN):SD:=
    sRet (eN tupleD (aCons (eN (callK f []) (aCons (eVar 0) (aNil))) (aNil)))
mutual
def Tm.nodes:Tm→List Tm
 | .num i=> [.num i]
 | .nam s=> [.nam s]
 | .nd w m ps=> .nd w m ps::Tm.nodesL ps
def Tm.nodesL:List Tm→List Tm
 | [] => []
 |t::ts=>t.nodes++Tm.nodesL ts
end
theorem Tm.nodes_eq (t:Tm):t.nodes=t::Tm.nodesL t.parts:=by cases t<;>rfl
theorem Tm.nodesL_mem {x:Tm} :∀ {ts:List Tm},x ∈ Tm.nodesL ts↔∃t ∈ ts,x ∈ t.nodes
 | [] =>by simp[Tm.nodesL]
 |t::ts=>by simp[Tm.nodesL,Tm.nodesL_mem (ts:=ts)]
mutual
theorem Tm.nodes_len:∀t:Tm,t.nodes.length=t.size
 | .num _=>rfl
 | .nam _=>rfl
 | .nd w m ps=>by simp[Tm.nodes,Tm.size,Tm.nodesL_len ps];omega
theorem Tm.nodesL_len:∀ts:List Tm,(Tm.nodesL ts).length=Tm.sizes ts
 | [] =>rfl
 |t::ts=>by simp[Tm.nodesL,Tm.sizes,Tm.nodes_len t,Tm.nodesL_len ts]
end
theorem lcL_id {S:Store} {env:EnvD} {i:Nat} (hi:i<env.length):∀xs:List D,lcL (gName i) tYesD (eVar i) env xs S= .ok xs S
 | [] =>rfl
 |x::xs=>by
  have:eVar i (env.set i (some x)) S= .ok x S:=by simp[eVar,List.getElem?_set_self hi]
  unfold lcL
  simp only[gName,tYesD,R.nox,R.bind,this,lcL_id hi xs]
def IsListed (f:FN) (k:Nat):Prop:=∀(t:Tm) (S:Store),t.dep≤k→t.size≤900→f [t.d] S= .ok (.lst (Tm.ds t.nodes)) S
theorem isListed0 (f:FN):IsListed f 0:=fun t S h=>by have:=Tm.dep_pos t;omega
theorem isListed {f:FN} {k:Nat} (h:IsListed f k):IsListed (run 1 3 (mListed f)) (k+1):=fun t S hd hs=>by
 have hse:=Tm.size_eq t
 have hde:=Tm.dep_eq t
 have loop:∀ts:List Tm,(∀ u ∈ ts,u ∈ t.parts)→lcL2 (gName 2) (tYesD) (iSeq (eN (callK f []) (aCons (eVar 2) (aNil)))) [1] (gName 1) (tYesD) (eVar 1) (wipeD [some t.d,none,none] [2,1]) (Tm.ds ts) S= .ok (Tm.ds (Tm.nodesL ts)) S:=by
  intro ts
  induction ts with
  |nil=>intro _;rfl
  |cons u ts ih=>
   intro hm
   have hu:=hm u List.mem_cons_self
   have h1:f [u.d] S= .ok (.lst (Tm.ds u.nodes)) S:=h u S (by
    have:=Tm.deps_le.mp (Nat.le_refl (Tm.deps t.parts)) u hu;omega) (by have:=Tm.sizes_mem hu;omega)
   have h2:=ih fun v hv=>hm v (List.mem_cons_of_mem _ hv)
   have h3:(iSeq (eN (callK f []) (aCons (eVar 2) (aNil)))) ((wipeD [some t.d,none,none] [2,1]).set 2 (some u.d)) S= .ok (Tm.ds u.nodes) S:=by
    simp only[iSeq,eN,aCons,aNil,eVar,wipeD,List.set_cons_succ,List.set_cons_zero,List.getElem?_cons_succ,List.getElem?_cons_zero,R.bind,callK_eq,List.append_nil,h1,itemsD_lst]
   show lcL2 _ _ _ _ _ _ _ _ (u.d::Tm.ds ts) S=_
   unfold lcL2
   simp only[gName,tYesD,R.nox,R.bind,h3,lcL_id (i:=1) (env:=wipeD ((wipeD [some t.d,none,none] [2,1]).set 2 (some u.d)) [1]) (by simp[wipeD]),h2]
   simp[Tm.nodesL,Tm.ds_app]
 have e2c:eLc2 (iSeq (e2 ixD (eVar 0) (eK (.int 2)))) [2,1] (gName 2) (tYesD) (iSeq (eN (callK f []) (aCons (eVar 2) (aNil)))) [1] (gName 1) (tYesD) (eVar 1) [some t.d,none,none] S= .ok (.lst (Tm.ds (Tm.nodesL t.parts))) S:=by
  have hi:(iSeq (e2 ixD (eVar 0) (eK (.int 2)))) [some t.d,none,none] S= .ok (Tm.ds t.parts) S:=by
   simp only[iSeq,e2,eVar,eK,List.getElem?_cons_zero,R.bind,ix_parts,itemsD_tup]
  unfold eLc2
  rw[hi]
  simp only[R.bind,loop t.parts fun _ h=>h,R.nox]
  rw[if_pos (small (by rw[Tm.ds_len,Tm.nodesL_len];omega))]
 apply of_sat
 rw[sat_run]
 refine⟨rfl,?_⟩
 unfold mListed
 simp only[ssat_sRet,sat_e2,sat_eN,sat_aCons,sat_aNil,sat_eVar,sat_mkLst,List.map_cons,List.map_nil,List.length_cons,List.length_nil,List.replicate,List.cons_append,List.nil_append,Nat.zero_add,Nat.reduceAdd,Nat.reduceSub,List.getElem?_cons_zero]
 refine⟨small (by simp),?_⟩
 rw[e2c,sat_ok,add_lst (small (by simp[Tm.ds_len,Tm.nodesL_len];omega)),sat_ok]
 refine⟨?_,rfl⟩
 rw[Tm.nodes_eq];rfl
theorem nodesOf_ok {f:FN} {k:Nat} (h:IsListed f k) {t:Tm} (S:Store) (hd:t.dep≤k) (hs:t.size≤900):run 1 1 (mNodesOf f) [t.d] S= .ok (.tup (Tm.ds t.nodes)) S:=by
 apply of_sat
 rw[sat_run]
 refine⟨rfl,?_⟩
 unfold mNodesOf
 open_k
 rw[h t S hd hs,sat_ok]
 open_k
def ownH (u:Tm):List (Str × Str):=match u with
 | .nd w m _=>if w ∈ HW then [(m,w)] else []
 | _=> []
def holesL (ns:List Tm):List (Str × Str):=ns.flatMap ownH
def putHD (hs:List (Str × Str)) (acc:List (Key × D)):List (Key × D):=hs.foldl (fun a x=>putD a (.inr x.1) (.str x.2)) acc
theorem in_hw {w:Str} {S:Store} (h:w ∈ WORDS) {c:D} (hc:c= .tup [.str "any", .str "called", .str "count", .str "rest"]):inD (.str w) c S= .ok (.bl (decide (w ∈ HW))) S:=by
 subst hc
 simp only[WORDS,List.mem_cons,List.not_mem_nil,or_false] at h
 rcases h with rfl|rfl|rfl|rfl|rfl|rfl|rfl|rfl|rfl|rfl|rfl|rfl|rfl|rfl|rfl|rfl<;>kernel_rfl
theorem pairs_map:∀l:List (Key × D),pairs l=l.map fun p=> .tup [keyD p.1,p.2]
 | [] =>rfl
 |p::r=>by simp[pairs,pairs_map r]
theorem holesL_cons (u:Tm) (ns:List Tm):holesL (u::ns)=ownH u++holesL ns:=rfl
theorem ownH_len (u:Tm):(ownH u).length≤1:=by
 cases u with
 |num _=>simp[ownH]
 |nam _=>simp[ownH]
 |nd w m ps=>simp only[ownH];split<;>simp
theorem holesL_len:∀ns:List Tm,(holesL ns).length≤ns.length
 | [] =>Nat.le_refl _
 |u::ns=>by
  have:=holesL_len ns
  have:=ownH_len u
  rw[holesL_cons,List.length_append,List.length_cons];omega
theorem own_wordK (u:Tm):(u.word ∈ HW∧∃m ps,u= .nd u.word m ps∧ownH u= [(m,u.word)] ∧u.m= .str m)∨(u.word ∉ HW∧ownH u= []):=by
 cases u with
 |num i=>exact .inr ⟨by show("num" :Str) ∉ HW;decide +kernel,rfl⟩
 |nam s=>exact .inr ⟨by show("name" :Str) ∉ HW;decide +kernel,rfl⟩
 |nd w m ps=>
  by_cases hw:w ∈ HW
  ·exact .inl ⟨hw,m,ps,rfl,by simp[ownH,hw,Tm.word],rfl⟩
  ·exact .inr ⟨hw,by simp[ownH,hw]⟩
mutual
theorem PG.nodes:∀ {t:Tm},PG t→∀u ∈ t.nodes,PG u
 | .num _,h,u,hu=>by
   simp only[Tm.nodes,List.mem_cons,List.not_mem_nil,or_false] at hu
   rw[hu];exact h
 | .nam _,h,u,hu=>by
   simp only[Tm.nodes,List.mem_cons,List.not_mem_nil,or_false] at hu
   rw[hu];exact h
 | .nd w m ps,h,u,hu=>by
   simp only[Tm.nodes,List.mem_cons] at hu
   rcases hu with rfl|hu
   ·exact h
   ·exact PG.nodesL h.kids u hu
theorem PG.nodesL:∀ {ts:List Tm},(∀ t ∈ ts,PG t)→∀u ∈ Tm.nodesL ts,PG u
 | [],_,u,hu=>by simp[Tm.nodesL] at hu
 |t::ts,h,u,hu=>by
  simp only[Tm.nodesL,List.mem_append] at hu
  rcases hu with hu|hu
  ·exact PG.nodes (h t List.mem_cons_self) u hu
  ·exact PG.nodesL (fun v hv=>h v (List.mem_cons_of_mem _ hv)) u hu
end
end L3
namespace L3
open PySem L2
section
variable {S:Store}
inductive V:D→Prop where
 |non:V .non
 |bl (b:Bool):V (.bl b)
 |int (i:Int):V (.int i)
 |str {s:Str} :PyData.strOk s=true→s.length≤90000→V (.str s)
 |tup {l:List D} :l.length≤1000→(∀ x ∈ l,V x)→V (.tup l)
 |lst {l:List D} :l.length≤1000→(∀ x ∈ l,V x)→V (.lst l)
 |dic:V (.dic [] [])
end
end L3
namespace L3
open PySem L2
@[simp] theorem sat_tIf {S:Store} {env:EnvD} {QB:Bool→Store→Prop} {c a b:TD} :(tIf c a b env S).sat QB=(c env S).sat fun k S1=>if k=true then(a env S1).sat QB else(b env S1).sat QB:=by
  unfold tIf;rw[sat_bind];congr;funext k S1;cases k<;>simp
def PS:List (Str × Nat × Nat):= [("plus",0,6),("times",0,6),("most",0,6),("row",0,8),("say",1,1),("less",2,2),("below",2,2),("if",3,3),("let",2,2),("each",2,2)]
def pshp (w:Str):Option (Nat × Nat):=(PS.find? fun x=>decide (x.1=w)).map (·.2)
def leafT (w:Str) (m:D):Option Tm:=
 if w ∈ HW then(match m with
  | .str s=>if isNm (.str s)=true then some (.nd w s []) else none
  | _=>none)
 else if w= "num" then(match m with
  | .int i=>if 0≤i∧i≤9972 then some (.num i) else none
  | _=>none)
 else if w= "name" then(match m with
  | .str s=>if isNm (.str s)=true then some (.nam s) else none
  | _=>none)
 else none
def allSome {α :Type} :List (Option α)→Option (List α)
 | [] =>some []
 |some a::l=>(allSome l).map (a:: ·)
 |none::_=>none
def markT (w:Str) (m:D):Option Str:=match m with
 | .str s=>if w ∈ GIV then(if isNm (.str s)=true then some s else none) else if s= "" then some "" else none
 | _=>none
def toTm:Nat→D→Option Tm
 |k+1, .tup [.str w,m, .tup ps] =>match pshp w with
  |some (lo,hi)=>if lo≤ps.length∧ps.length≤hi then(match markT w m with
   |some s=>(allSome (ps.map (toTm k))).map (Tm.nd w s)
   |none=>none) else none
  |none=>match ps with
   | [] =>leafT w m
   | _=>none
 | _,_=>none
end L3
namespace L3
open PySem L2
section
variable {S:Store}
theorem txts_py:∀ {l:List Str},(∀ s ∈ l,PyData.strOk s=true)→toPyL (l.map .str)=some (l.map .str)
 | [],_=>rfl
 |s::l,h=>by
  have h1:=h s (List.mem_cons_self ..)
  have ih:=txts_py (l:=l) fun x hx=>h x (List.mem_cons_of_mem _ hx)
  simp[List.map_cons,toPyL,toPy,h1,ih]
theorem in_txts {s:Str} {l:List Str} (h:PyData.strOk s=true) (hl:∀s ∈ l,PyData.strOk s=true):inD (.str s) (.tup (l.map .str)) S= .ok (.bl (decide (s ∈ l))) S:=by
 have e:memD (.str s) (.tup (l.map .str)) S=some (decide (s ∈ l)):=by
  show memData (toPy (.str s)) (toPy (.tup (l.map .str)))=_
  simp only[memData,toPy,h,if_true,txts_py hl,Option.map_some]
  rw[if_pos (show(PyData.str s).depth≤64 by simp[PyData.depth])]
  congr 1
  rw[Bool.eq_iff_iff]
  simp only[List.any_map,List.any_eq_true,Function.comp,decide_eq_true_eq,PyData.eqv]
  constructor
  ·rintro⟨x,hx,e⟩
   have:x=s:=by simpa using e
   exact this▸hx
  ·intro hx
   exact⟨s,hx,by simp⟩
 unfold inD
 rw[e]
end
end L3
namespace L3
open PySem L2
def ownG (u:Tm):List Str:=match u with
 | .nd w m _=>if w ∈ GIV then [m] else []
 | _=> []
def givsL (ns:List Tm):List Str:=ns.flatMap ownG
theorem givsL_cons (u:Tm) (ns:List Tm):givsL (u::ns)=ownG u++givsL ns:=rfl
end L3
namespace L3
open PySem L2
section
variable {S:Store}
def hkv (acc:List (Str × Str)):List (Key × D):=acc.map fun x=>(.inr x.1, .str x.2)
end
end L3
namespace L3
open PySem L2
theorem dps_map:∀ {ts:List Tm},(∀ t ∈ ts,dp t.d=2*t.dep)→dps (Tm.ds ts)=2*Tm.deps ts
 | [],_=>rfl
 |t::ts,h=>by
  show max (dp t.d) (dps (Tm.ds ts))=2*max t.dep (Tm.deps ts)
  rw[h t List.mem_cons_self,dps_map fun u hu=>h u (List.mem_cons_of_mem _ hu)]
  omega
theorem dp_d:∀t:Tm,dp t.d=2*t.dep
 | .num i=>rfl
 | .nam s=>rfl
 | .nd w m ps=>by
   show 1+max 0 (max 0 (max (1+dps (Tm.ds ps)) 0))=2*(1+Tm.deps ps)
   rw[dps_map fun t _=>dp_d t]
   omega
mutual
theorem givs_gv:∀t:Tm,givsL t.nodes=t.gv
 | .num i=>rfl
 | .nam s=>rfl
 | .nd w m ps=>by
   rw[Tm.nodes_eq,givsL_cons]
   show(if w ∈ GIV then [m] else [])++givsL (Tm.nodesL ps)=if w ∈ GIV then m::Tm.gvs ps else Tm.gvs ps
   rw[givs_gvs ps]
   split<;>rfl
theorem givs_gvs:∀ts:List Tm,givsL (Tm.nodesL ts)=Tm.gvs ts
 | [] =>rfl
 |t::ts=>by
  show(t.nodes++Tm.nodesL ts).flatMap ownG=t.gv++Tm.gvs ts
  rw[List.flatMap_append]
  have h1:=givs_gv t
  have h2:=givs_gvs ts
  unfold givsL at h1 h2
  rw[h1,h2]
end
mutual
theorem holes_hl:∀ {t:Tm},PG t→holesL t.nodes=t.hl
 | .num i,_=>rfl
 | .nam s,_=>rfl
 | .nd w m ps,h=>by
   rw[Tm.nodes_eq,holesL_cons]
   show(if w ∈ HW then [(m,w)] else [])++holesL (Tm.nodesL ps)=if w ∈ HW then [(m,w)] else Tm.hls ps
   rw[holes_hls h.kids]
   split
   ·rename_i hw
    cases h with
    |hole _ _=>rfl
    |nd hs _ _ _ _ _ _=>exact absurd hw (pshape_word hs).2.1
   ·rfl
theorem holes_hls:∀ {ts:List Tm},(∀ t ∈ ts,PG t)→holesL (Tm.nodesL ts)=Tm.hls ts
 | [],_=>rfl
 |t::ts,h=>by
  show(t.nodes++Tm.nodesL ts).flatMap ownH=t.hl++Tm.hls ts
  rw[List.flatMap_append]
  have h1:=holes_hl (h t List.mem_cons_self)
  have h2:=holes_hls fun u hu=>h u (List.mem_cons_of_mem _ hu)
  unfold holesL at h1 h2
  rw[h1,h2]
end
end L3
namespace L3
open PySem L2
def lowS (s:Str):Bool:=s.cps.toList.all fun c=>decide (c<128)
inductive W (L B:Nat):D→Prop where
 |non:W L B .non
 |bl (b:Bool):W L B (.bl b)
 |int {i:Int} : -(1+(L:Int))≤i→i≤9973+(L:Int)→W L B (.int i)
 |str {s:Str} :s.length≤9+L→lowS s=true→W L B (.str s)
 |tup {l:List D} :l.length≤B→(∀ x ∈ l,W L B x)→W L B (.tup l)
 |lst {l:List D} :l.length≤B→(∀ x ∈ l,W L B x)→W L B (.lst l)
 |dic:W L B (.dic [] [])
end L3
namespace L3
open PySem L2
def holP (d:D):List D:=match toTm 6 d with
 |some t=>sortL (pairs (putHD (holesL t.nodes) []))
 |none=> []
def twoOf:D→Option (Str × Str)
 | .tup [.str a, .str b] =>some (a,b)
 | _=>none
def two (x:Str × Str):D:= .tup [.str x.1, .str x.2]
def hpl (d:D):List (Str × Str):=(holP d).filterMap twoOf
end L3
namespace L3
open PySem L2
variable {S:Store}
def ddS:List Str→List Str
 | [] => []
 |k::l=>if k ∈ l then ddS l else k::ddS l
theorem ddK_txt:∀l:List Str,ddK (l.map .text)=(ddS l).map .text
 | [] =>rfl
 |k::l=>by
  simp only[List.map_cons,ddK,ddS]
  have e:(NestedKey.text k ∈ l.map NestedKey.text)↔k ∈ l:=by simp
  by_cases h:k ∈ l
  ·rw[if_pos (e.mpr h),if_pos h,ddK_txt l]
  ·rw[if_neg (fun c=>h (e.mp c)),if_neg h,ddK_txt l];rfl
theorem ddS_mem:∀ {l:List Str} {x:Str},x ∈ ddS l↔x ∈ l
 | [],x=>by simp[ddS]
 |k::l,x=>by
  unfold ddS
  split
  ·rename_i h
   rw[ddS_mem (l:=l),List.mem_cons]
   exact⟨.inr,fun h'=>h'.elim (fun e=>e▸h) id⟩
  ·rw[List.mem_cons,List.mem_cons,ddS_mem (l:=l)]
theorem ddS_len:∀l:List Str,(ddS l).length≤l.length
 | [] =>Nat.le_refl _
 |k::l=>by
  have:=ddS_len l
  unfold ddS
  split
  ·simp only[List.length_cons];omega
  ·simp only[List.length_cons];omega
def ltS (a b:Str):Prop:=a.cps.toList<b.cps.toList
instance (a b:Str):Decidable (ltS a b):=inferInstanceAs (Decidable (a.cps.toList<b.cps.toList))
def leS (a b:Str):Bool:= !decide (b.cps.toList<a.cps.toList)
theorem leS_anti {a b:Str} (h1:leS a b=true) (h2:leS b a=true):a=b:=by
 simp only[leS,Bool.not_eq_true',decide_eq_false_iff_not,List.not_lt] at*
 exact PySem.W.str_of_cps (List.le_antisymm h1 h2)
theorem srt_str {a b:Str} (ha:PyData.strOk a=true) (hb:PyData.strOk b=true):srtLe (.str a) (.str b)=leS a b:=by
 unfold srtLe
 rw[show encD (.str a)= .str a by simp[encD,toPy,ha],show encD (.str b)= .str b by simp[encD,toPy,hb]]
 rw[show PySem.W.dataLt (.str b) (.str a)=decide (b.cps.toList<a.cps.toList) from PySem.W.dataLt_str _ _]
 rfl
def ssT (l:List Str):List Str:=(ddS l).mergeSort leS
theorem ssT_mem {l:List Str} {x:Str} :x ∈ ssT l↔x ∈ l:=by unfold ssT;rw[List.mem_mergeSort];exact ddS_mem
theorem ssT_len (l:List Str):(ssT l).length≤l.length:=by unfold ssT;rw[List.length_mergeSort];exact ddS_len l
theorem sortSet_txt {x:D} {l:List Str} (hx:asL x S=some (l.map .str)) (h:∀s ∈ l,PyData.strOk s=true) (hl:l.length≤1000):sortSetO x S= .ok (.lst ((ssT l).map .str)) S:=by
 have nk:∀l:List Str,nkDL (l.map .str)=some (l.map .text):=fun l=>by
  induction l with
  |nil=>rfl
  |cons a l ih=>simp only[List.map_cons,nkDL,nkD,ih]
 have hd:∀s ∈ ddS l,PyData.strOk s=true:=fun s hs=>h s (ddS_mem.mp hs)
 have em:(ddK (l.map .text)).map kD=(ddS l).map .str:=by
  rw[ddK_txt,List.map_map];exact List.map_congr_left fun s _=>by simp[kD]
 have tp:∀s ∈ ddS l,toPy (.str s)=some (.str s):=fun s hs=>by simp[toPy,hd s hs]
 have ec:∀s ∈ ddS l,encD (.str s)= .str s:=fun s hs=>by simp[encD,tp s hs]
 have ok1:okSt ((ddK (l.map .text)).map kD)=true:=by
  rw[em]
  simp only[okSt,Bool.and_eq_true,List.all_eq_true,decide_eq_true_eq,Bool.or_eq_true]
  refine⟨⟨⟨small (by have:=ddS_len l;rw[List.length_map];omega),fun d hd=> ?_⟩,fun d hd e he=> ?_⟩, .inr fun d hd=> ?_⟩
  ·obtain⟨s,hs,rfl⟩:=List.mem_map.mp hd
   rw[tp s hs,ec s hs];exact⟨rfl,by simp[PyData.depth]⟩
  ·obtain⟨s,hs,rfl⟩:=List.mem_map.mp hd
   obtain⟨s',hs',rfl⟩:=List.mem_map.mp he
   rw[ec s hs,ec s' hs'];simp[PySem.W.alike]
  ·obtain⟨s,hs,rfl⟩:=List.mem_map.mp hd
   rw[ec s hs];rfl
 have ok2:noTie (ddK (l.map .text))=true:=by
  rw[ddK_txt]
  simp only[noTie,List.all_eq_true,Bool.or_eq_true,decide_eq_true_eq,Bool.not_eq_true']
  intro a ha b hb
  obtain⟨s,hs,rfl⟩:=List.mem_map.mp ha
  obtain⟨t,ht,rfl⟩:=List.mem_map.mp hb
  simp only[kD]
  rw[srt_str (hd s hs) (hd t ht),srt_str (hd t ht) (hd s hs)]
  by_cases c:(leS s t&&leS t s)=true
  ·simp only[Bool.and_eq_true] at c
   exact .inl (by rw[leS_anti c.1 c.2])
  ·exact .inr (by simpa using c)
 have ok:okSet (l.map .text)=true:=by
  simp only[okSet,Bool.and_eq_true,Bool.or_eq_true]
  refine⟨⟨.inl ⟨?_,by simp;omega⟩,okSd_of ok1⟩,ok2⟩
  simp[isTN]
 unfold sortSetO sortSetD
 simp only[hx,nk,ok,if_true]
 rw[em]
 congr 2
 unfold sortL ssT
 exact(List.map_mergeSort fun a ha b hb=>(srt_str (hd a ha) (hd b hb)).symm).symm
end L3
namespace L3
open PySem L2
open PySem.W (keyToks keyToksAll alike alikeAll)
mutual
theorem toks_inj:∀(x y:PyData) (a b:List (Int ⊕ List Nat)),alike x y=true→keyToks x++a=keyToks y++b→x=y∧a=b
 | .none,y,a,b,h,e=>by
   cases y<;>simp only[alike,Bool.false_eq_true] at h
   exact⟨rfl,by simpa[keyToks] using e⟩
 | .bool p,y,a,b,h,e=>by
   cases y<;>simp only[alike,Bool.false_eq_true] at h
   rename_i q
   simp only[keyToks,List.cons_append,List.nil_append,List.cons.injEq,Sum.inl.injEq] at e
   refine⟨?_,e.2⟩
   cases p<;>cases q<;>simp at e ⊢
 | .int p,y,a,b,h,e=>by
   cases y<;>simp only[alike,Bool.false_eq_true] at h
   simp only[keyToks,List.cons_append,List.nil_append,List.cons.injEq,Sum.inl.injEq] at e
   exact⟨by rw[e.1],e.2⟩
 | .str p,y,a,b,h,e=>by
   cases y<;>simp only[alike,Bool.false_eq_true] at h
   simp only[keyToks,List.cons_append,List.nil_append,List.cons.injEq,Sum.inr.injEq] at e
   exact⟨by rw[PySem.W.str_of_cps e.1],e.2⟩
 | .list p,y,a,b,h,e=>by
   cases y<;>simp only[alike,Bool.false_eq_true] at h
   simp only[keyToks] at e
   obtain⟨h1,h2⟩:=toksAll_inj _ _ a b h e
   exact⟨by rw[h1],h2⟩
 | .tuple p,y,a,b,h,e=>by
   cases y<;>simp only[alike,Bool.false_eq_true] at h
   simp only[keyToks] at e
   obtain⟨h1,h2⟩:=toksAll_inj _ _ a b h e
   exact⟨by rw[h1],h2⟩
 | .dict _,y,a,b,h,e=>by cases y<;>simp[alike] at h
theorem toksAll_inj:∀(xs ys:List PyData) (a b:List (Int ⊕ List Nat)),alikeAll xs ys=true→keyToksAll xs++a=keyToksAll ys++b→xs=ys∧a=b
 | [],[],a,b,_,e=>⟨rfl,by simpa[keyToksAll] using e⟩
 | [],y::ys,a,b,_,e=>by simp[keyToksAll] at e
 |x::xs,[],a,b,h,e=>by simp[keyToksAll] at e
 |x::xs,y::ys,a,b,h,e=>by
  rw[alikeAll,Bool.and_eq_true] at h
  simp only[keyToksAll,List.cons_append,List.append_assoc,List.cons.injEq,true_and] at e
  obtain⟨h1,h2⟩:=toks_inj x y _ _ h.1 e
  obtain⟨h3,h4⟩:=toksAll_inj xs ys a b h.2 h2
  exact⟨by rw[h1,h3],h4⟩
end
theorem enc_inj {a b:D} {x y:PyData} (h1:toPy a=some x) (h2:toPy b=some y) (ha:alike x y=true) (p:srtLe a b=true) (q:srtLe b a=true):x=y:=by
 have e1:encD a=x:=by simp[encD,h1]
 have e2:encD b=y:=by simp[encD,h2]
 unfold srtLe PySem.W.dataLt at p q
 rw[e1,e2,Bool.not_eq_true'] at p q
 have:=PyProof.Rows.lex_total _ _ q p
 exact(toks_inj x y [] [] ha (by simpa using this)).1
mutual
theorem kdata_inj:∀(k l:NestedKey),k.data=l.data→k=l
 | .none,l,h=>by cases l<;>simp[NestedKey.data] at h ⊢
 | .num i,l,h=>by cases l<;>simp[NestedKey.data] at h ⊢;exact h
 | .text x,l,h=>by cases l<;>simp[NestedKey.data] at h ⊢;exact h
 | .tup ks,l,h=>by
   cases l<;>simp[NestedKey.data] at h ⊢
   exact kdatas_inj _ _ h
theorem kdatas_inj:∀(k l:List NestedKey),NestedKey.datas k=NestedKey.datas l→k=l
 | [],l,h=>by cases l<;>simp[NestedKey.datas] at h ⊢
 |k::ks,l,h=>by
  cases l with
  |nil=>simp[NestedKey.datas] at h
  |cons m ms=>
   simp only[NestedKey.datas,List.cons.injEq] at h
   rw[kdata_inj k m h.1,kdatas_inj ks ms h.2]
end
theorem noTie_of {ks:List NestedKey} (h:okSt (ks.map kD)=true):noTie ks=true:=by
 simp only[okSt,Bool.and_eq_true,List.all_eq_true,decide_eq_true_eq] at h
 obtain⟨⟨⟨_,h2⟩,h3⟩,_⟩:=h
 simp only[noTie,List.all_eq_true,Bool.or_eq_true,decide_eq_true_eq,Bool.not_eq_true']
 intro a ha b hb
 cases c:(srtLe (kD a) (kD b)&&srtLe (kD b) (kD a)) with
 |false=>exact .inr rfl
 |true=>
  rw[Bool.and_eq_true] at c
  have py:∀k ∈ ks,toPy (kD k)=some k.data:=fun k hk=>by
   obtain⟨y,hy⟩:=Option.isSome_iff_exists.mp (h2 (kD k) (List.mem_map_of_mem hk)).1
   rw[hy,kD_py k y hy]
  have al:=h3 (kD a) (List.mem_map_of_mem ha) (kD b) (List.mem_map_of_mem hb)
  have e1:encD (kD a)=a.data:=by simp[encD,py a ha]
  have e2:encD (kD b)=b.data:=by simp[encD,py b hb]
  rw[e1,e2] at al
  exact .inl (kdata_inj a b (enc_inj (py a ha) (py b hb) al c.1 c.2))
theorem sortSet_map {α :Type} [DecidableEq α] {x:D} {l:List α} {f: α →NestedKey} {S:Store} (inj:∀a ∈ l,∀b ∈ l,f a=f b→a=b) (hx:asL x S=some (l.map fun a=>kD (f a))) (hn:∀a ∈ l,nkD (kD (f a))=some (f a))
 (side:((l.all fun a=>isTN (f a))=true∧l.length≤4000)∨(∀ a ∈ l,isTp (f a)=true∧(f a).depth≤8)∧l.length<1200) (ok:okSt (l.map fun a=>kD (f a))=true):
 ∃m:List α,sortSetO x S= .ok (.lst (m.map fun a=>kD (f a))) S∧m.Nodup∧(∀ a,a ∈ m↔a ∈ l)∧m.length≤l.length∧m.Pairwise (fun a b=>srtLe (kD (f a)) (kD (f b))=true):=by
 have dd:∀ {l:List α},(∀ a ∈ l,∀b ∈ l,f a=f b→a=b)→∃m:List α,ddK (l.map f)=m.map f∧m.Nodup∧(∀ a,a ∈ m↔a ∈ l)∧m.length≤l.length:=by
  intro l
  induction l with
  |nil=>exact fun _=>⟨[],rfl,List.nodup_nil,by simp,Nat.le_refl _⟩
  |cons a l ih=>
   intro inj
   obtain⟨m,e,nd,hm,hl⟩:=ih fun a ha b hb=>inj a (List.mem_cons_of_mem _ ha) b (List.mem_cons_of_mem _ hb)
   simp only[List.map_cons,ddK]
   by_cases c:f a ∈ l.map f
   ·rw[if_pos c]
    obtain⟨b,hb,eb⟩:=List.mem_map.mp c
    have:=inj b (List.mem_cons_of_mem _ hb) a List.mem_cons_self eb
    subst this
    refine⟨m,e,nd,fun x=> ?_,by simp only[List.length_cons];omega⟩
    rw[hm,List.mem_cons]
    exact⟨.inr,fun h=>h.elim (fun e=>e▸hb) id⟩
   ·rw[if_neg c]
    refine⟨a::m,by rw[e];rfl,List.nodup_cons.mpr ⟨fun h=>c (List.mem_map_of_mem ((hm a).mp h)),nd⟩,fun x=> ?_,by simp only[List.length_cons];omega⟩
    rw[List.mem_cons,List.mem_cons,hm]
 obtain⟨m,e,nd,hm,hl⟩:=dd inj
 have nk:∀l:List α,(∀ a ∈ l,nkD (kD (f a))=some (f a))→nkDL (l.map fun a=>kD (f a))=some (l.map f):=by
  intro l
  induction l with
  |nil=>exact fun _=>rfl
  |cons a l ih=>
   intro h
   simp only[List.map_cons,nkDL,h a List.mem_cons_self,ih fun b hb=>h b (List.mem_cons_of_mem _ hb)]
 have okm:okSt ((m.map f).map kD)=true:=by
  simp only[okSt,Bool.and_eq_true,List.all_eq_true,decide_eq_true_eq,Bool.or_eq_true,List.map_map] at ok ⊢
  have sub:∀d ∈ m.map (kD ∘ f),d ∈ l.map fun a=>kD (f a):=fun d hd=>by
   obtain⟨a,ha,rfl⟩:=List.mem_map.mp hd
   exact List.mem_map.mpr ⟨a,(hm a).mp ha,rfl⟩
  refine⟨⟨⟨?_,fun d hd=>ok.1.1.2 d (sub d hd)⟩,fun d hd e he=>ok.1.2 d (sub d hd) e (sub e he)⟩,ok.2.imp (fun h d hd=>h d (sub d hd)) (fun h d hd=>h d (sub d hd))⟩
  have:=ok.1.1.1
  rw[List.length_map] at this ⊢
  omega
 have okS:okSet (l.map f)=true:=by
  simp only[okSet,Bool.and_eq_true,Bool.or_eq_true,List.all_eq_true,decide_eq_true_eq]
  rw[e]
  refine⟨⟨?_,okSd_of okm⟩,noTie_of okm⟩
  rcases side with⟨h1,h2⟩|⟨h1,h2⟩
  ·rw[List.all_eq_true] at h1
   exact .inl ⟨fun k hk=>by obtain⟨a,ha,rfl⟩:=List.mem_map.mp hk;exact h1 a ha,by rw[List.length_map];exact h2⟩
  ·exact .inr ⟨⟨fun k hk=>by obtain⟨a,ha,rfl⟩:=List.mem_map.mp hk;exact(h1 a ha).1,fun k hk=>by obtain⟨a,ha,rfl⟩:=List.mem_map.mp hk;exact(h1 a ha).2⟩,by rw[List.length_map];exact h2⟩
 refine⟨m.mergeSort fun a b=>srtLe (kD (f a)) (kD (f b)),?_,(List.mergeSort_perm m _).nodup_iff.mpr nd,fun a=>by rw[List.mem_mergeSort];exact hm a,by rw[List.length_mergeSort];exact hl,?_⟩
 ·unfold sortSetO sortSetD
  simp only[hx,nk l hn,okS,if_true,e,List.map_map]
  congr 2
  unfold sortL
  rw[show (kD ∘ f)=fun a=>kD (f a) from rfl]
  exact(List.map_mergeSort (r:=fun a b=>srtLe (kD (f a)) (kD (f b))) (s:=srtLe) (f:=fun a=>kD (f a)) fun a _ b _=>rfl).symm
 ·exact List.pairwise_mergeSort (le:=fun a b=>srtLe (kD (f a)) (kD (f b))) (fun a b c=>sTr (kD (f a)) (kD (f b)) (kD (f c))) (fun a b=>sTo (kD (f a)) (kD (f b))) m
end L3
namespace L3.Wy
open PySem L2 L3
local macro_rules| `(tactic| open_k)=> `(tactic| simp only[ssat_seq,ssat_asg,ssat_sRet,ssat_sExpr,ssat_if,ssat_skip,ssat_par,ssat_nx,ssat_ret,ssat_for,sat_e2,sat_e1,sat_eN,sat_aCons,sat_aNil,sat_eVar,sat_eK,sat_tOfE,sat_tTruth,sat_tNot,sat_tAnd,sat_tOr,sat_eIf,sat_eBM,sat_iSeq,sat_iArgs,sat_eAnd,sat_eOr,sat_eNot,sat_eChain,sat_eSl,sat_pNo,sat_pYes,sat_eLc,sat_eKw,sat_mkTup,sat_mkLst,sat_mkObj,sat_ok,callK_eq,List.append_nil,List.map_cons,List.map_nil,List.length_cons,List.length_nil,List.replicate,List.getElem?_cons_succ,List.getElem?_cons_zero,List.cons_append,List.nil_append,List.set_cons_succ,List.set_cons_zero,gName_eq,gTup_tup,gNames_cons,gNames_nil,Nat.zero_add,Nat.reduceAdd,Nat.reduceSub,sz0,sz1,sz2,sz3,sz4,sz5,sz6,sz7,sz8,sz10,sz17,true_and,add_int,sub_int,neg_int,lt_int,le_int,gt_int,ge_int,eq_int,ne_int,blD_bl,truthD_bl,itemsD_lst,itemsD_tup,wipeD,eq_strs,ne_strs,sl_tup,sl_lst,if_true,if_false,Bool.false_eq_true,sat_range1,sat_range2,tuple_lst,tuple_tup,len_tup,len_lst,len_scr,D.int.injEq,exists_eq_left',mt_str])
structure Pt (n p hq fq:Nat) (r:Int) (hs:List (Str × Str)) (fs:List Str) (S:Store):Prop where
 pot:S[p]? =some (.dK [(.inr "ways", .int r),(.inr "holes", .obj hq),(.inr "fresh", .obj fq)])
 ho:S[hq]? =some (.lst (hs.map fun x=> .tup [.str x.1, .str x.2]))
 fr:S[fq]? =some (.lst (fs.map .str))
 hd:Hand n S
section
variable {n p hq fq:Nat} {S S' S'':Store} {r x:Int} {hs:List (Str × Str)} {fs:List Str}
theorem Pt.of (ap:Ap n p hq fq) (h:Pt n p hq fq r hs fs S) (f:FrH n S S'):Pt n p hq fq r hs fs S':=
 ⟨f.fr _ _ (Ne.symm ap.np) h.pot,f.fr _ _ (Ne.symm ap.nh) h.ho,f.fr _ _ (Ne.symm ap.nf) h.fr,f.hd⟩
theorem Pt.app (h:Pt n p hq fq r hs fs S) (o:O):Pt n p hq fq r hs fs (S++ [o]):=by
 have e:∀ {m:Nat} {o':O},S[m]? =some o'→(S++ [o])[m]? =some o':=fun e=>by rw[List.getElem?_append_left (List.getElem?_eq_some_iff.mp e).1];exact e
 obtain⟨g,s,q⟩:=h.hd
 exact⟨e h.pot,e h.ho,e h.fr,g,s,e q⟩
theorem Pt.lt (h:Pt n p hq fq r hs fs S):n<S.length∧p<S.length∧hq<S.length∧fq<S.length:=
 ⟨h.hd.lt,(List.getElem?_eq_some_iff.mp h.pot).1,(List.getElem?_eq_some_iff.mp h.ho).1,(List.getElem?_eq_some_iff.mp h.fr).1⟩
theorem Pt.put (h:Pt n p hq fq r hs fs S) {m:Nat} (o:O) (hm:m≠n∧m≠p∧m≠hq∧m≠fq):Pt n p hq fq r hs fs (S.set m o):=by
 have e:∀ {k:Nat} {o':O},k≠m→S[k]? =some o'→(S.set m o)[k]? =some o':=fun hk e=>by rw[List.getElem?_set_ne (Ne.symm hk)];exact e
 obtain⟨g,s,q⟩:=h.hd
 exact⟨e (Ne.symm hm.2.1) h.pot,e (Ne.symm hm.2.2.1) h.ho,e (Ne.symm hm.2.2.2) h.fr,g,s,e (Ne.symm hm.1) q⟩
theorem Pt.room (h:Pt n p hq fq r hs fs S):ixD (.obj p) (.str "ways") S= .ok (.int r) S:=by
 simp only[ixD,h.pot];kernel_rfl
theorem Pt.holes (h:Pt n p hq fq r hs fs S):ixD (.obj p) (.str "holes") S= .ok (.obj hq) S:=by
 simp only[ixD,h.pot];kernel_rfl
theorem Pt.fresh (h:Pt n p hq fq r hs fs S):ixD (.obj p) (.str "fresh") S= .ok (.obj fq) S:=by
 simp only[ixD,h.pot];kernel_rfl
theorem Pt.setR (h:Pt n p hq fq r hs fs S):setD (.obj p) (.str "ways") (.int x) S=some (S.set p (.dK [(.inr "ways", .int x),(.inr "holes", .obj hq),(.inr "fresh", .obj fq)])):=by
 simp only[setD,h.pot];kernel_rfl
theorem Pt.room_to (ap:Ap n p hq fq) (h:Pt n p hq fq r hs fs S) (x:Int):Pt n p hq fq x hs fs (S.set p (.dK [(.inr "ways", .int x),(.inr "holes", .obj hq),(.inr "fresh", .obj fq)])):=by
 obtain⟨g,s,q⟩:=h.hd
 refine⟨List.getElem?_set_self h.lt.2.1,?_,?_,g,s,?_⟩
 ·rw[List.getElem?_set_ne ap.ph];exact h.ho
 ·rw[List.getElem?_set_ne ap.pf];exact h.fr
 ·rw[List.getElem?_set_ne (Ne.symm ap.np)];exact q
theorem Pt.pop (ap:Ap n p hq fq) {f:Str} (h:Pt n p hq fq r hs (f::fs) S):popD (.obj fq) [.int 0] S= .ok (.str f) (S.set fq (.lst (fs.map .str)))∧Pt n p hq fq r hs fs (S.set fq (.lst (fs.map .str))):=by
 constructor
 ·simp[popD,lstAt,h.fr,ixN]
 ·obtain⟨g,s,q⟩:=h.hd
  refine⟨?_,?_,List.getElem?_set_self h.lt.2.2.2,g,s,?_⟩
  ·rw[List.getElem?_set_ne (Ne.symm ap.pf)];exact h.pot
  ·rw[List.getElem?_set_ne (Ne.symm ap.hf)];exact h.ho
  ·rw[List.getElem?_set_ne (Ne.symm ap.nf)];exact q
theorem Pt.push (ap:Ap n p hq fq) {f w:Str} (h:Pt n p hq fq r hs fs S) (hl:hs.length<1000):
 appendD (.obj hq) [.tup [.str f, .str w]] S= .ok .non (S.set hq (.lst ((hs++ [(f,w)]).map fun x=> .tup [.str x.1, .str x.2])))∧Pt n p hq fq r (hs++ [(f,w)]) fs (S.set hq (.lst ((hs++ [(f,w)]).map fun x=> .tup [.str x.1, .str x.2]))):=by
 constructor
 ·unfold appendD
  simp only[lstAt,h.ho]
  rw[if_pos (by simp;exact Nat.lt_of_lt_of_le hl (by decide))]
  simp
 ·obtain⟨g,s,q⟩:=h.hd
  refine⟨?_,List.getElem?_set_self h.lt.2.2.1,?_,g,s,?_⟩
  ·rw[List.getElem?_set_ne (Ne.symm ap.ph)];exact h.pot
  ·rw[List.getElem?_set_ne ap.hf];exact h.fr
  ·rw[List.getElem?_set_ne (Ne.symm ap.nh)];exact q
end
def IsHole (hl:FN):Prop:=∀(n p hq fq:Nat) (S:Store) (r:Int) (hs:List (Str × Str)) (gs fs:List Str) (w:Str),Ap n p hq fq→Pt n p hq fq r hs fs S→Gh hs gs fs→w ∈ HW→fs≠ [] →hs.length+fs.length≤500→
 (hl [.obj n, .obj p, .str w] S).sat fun d S'=>∃h hx fs',d=(Tm.nd w h []).d∧NameOk h∧(h,w) ∈ hs++hx∧Pt n p hq fq r (hs++hx) fs' S'∧Gh (hs++hx) gs fs'∧fs.length=fs'.length+hx.length∧hx.length≤1∧FrP n p hq fq S S'
theorem isHole {tk pk:FN} (ht:IsTake tk) (hp:IsPick2 pk):IsHole (run 3 6 (mHole tk pk)):=fun n p hq fq S r hs gs fs w ap pt gh hw hf hlen=>by
 rw[sat_run]
 refine⟨rfl,?_⟩
 unfold mHole
 refine seq_rule (fun e S1=>e= [some (.obj n),some (.obj p),some (.str w),some (.lst ((ofW hs w).map .str)),none,none] ∧S1=S) ?_ ?_
 ·open_k
  refine to_sat (eLcO_keep (S:=S) (S0:=S) (all:=hs.map fun x=> .tup [.str x.1, .str x.2]) (n:=hq) ?_ pt.ho (by rw[List.length_map];exact small (by omega)) (ofF w) fun x hx=> ?_) ?_
  ·simp only[e2,eVar,eK,R.bind,List.getElem?_cons_succ,List.getElem?_cons_zero,pt.holes]
  ·obtain⟨⟨h,v⟩,hm,rfl⟩:=List.mem_map.mp hx
   refine⟨_,rfl,?_⟩
   simp only[ofF]
   by_cases e:v=w
   ·subst e
    simp only[if_true]
    exact⟨by simp[tOfE,e2,eVar,R.bind,wipeD],by simp[eVar,wipeD]⟩
   ·simp only[e,if_false]
    simp[tOfE,e2,eVar,R.bind,wipeD,e]
  rw[ofF_all]
  exact⟨rfl,rfl⟩
 rintro e S1 ⟨rfl,hS⟩
 obtain rfl:S=S1:=hS.symm
 obtain⟨f,fs,rfl⟩:∃f fs',fs=f::fs':=by cases fs with
  |nil=>exact absurd rfl hf
  |cons f fs=>exact⟨f,fs,rfl⟩
 have anew:∀S1,Pt n p hq fq r hs (f::fs) S1→FrP n p hq fq S S1→SR.sat (sSeq (sExpr (eBM "list" appendD (e2 ixD (eVar 1) (eK (.str "holes"))) (aCons (eN mkTup (aCons (eBM "list" popD (e2 ixD (eVar 1) (eK (.str "fresh"))) (aCons (eK (.int 0)) (aNil))) (aCons (eVar 2) (aNil)))) (aNil))))
  (sRet (eN mkTup (aCons (eVar 2) (aCons (e2 ixD (e2 ixD (e2 ixD (eVar 1) (eK (.str "holes"))) (e1 negD (eK (.int 1)))) (eK (.int 0))) (aCons (eN mkTup (aNil)) (aNil)))))) [some (.obj n),some (.obj p),some (.str w),some (.lst ((ofW hs w).map .str)),none,none] S1)
    (fun _ _=>False) (fun d S'=>∃h hx fs',d=(Tm.nd w h []).d∧NameOk h∧(h,w) ∈ hs++hx∧Pt n p hq fq r (hs++hx) fs' S'∧Gh (hs++hx) gs fs'∧(f::fs).length=fs'.length+hx.length∧hx.length≤1∧FrP n p hq fq S S') (fun _ _=>False) (fun _ _=>False):=by
  intro S1 pt1 fr1
  obtain⟨e1,pt2⟩:=pt1.pop ap
  obtain⟨e2,pt3⟩:=pt2.push ap (f:=f) (w:=w) (by simp at hlen;omega)
  open_k
  rw[pt1.holes,sat_ok]
  refine⟨mtD_obj pt1.ho,?_⟩
  rw[pt1.fresh,sat_ok]
  refine⟨mtD_obj pt1.fr,?_⟩
  rw[e1,sat_ok,e2,sat_ok,pt3.holes,sat_ok]
  have ix:ixD (.obj hq) (.int (-1)) (S1.set fq (.lst (fs.map .str)) |>.set hq (.lst ((hs++ [(f,w)]).map fun x=> .tup [.str x.1, .str x.2])))= .ok (.tup [.str f, .str w]) (S1.set fq (.lst (fs.map .str)) |>.set hq (.lst ((hs++ [(f,w)]).map fun x=> .tup [.str x.1, .str x.2]))):=by
   simp only[ixD,pt3.ho]
   rw[show atI ((hs++ [(f,w)]).map fun x=>D.tup [.str x.1, .str x.2]) (-1)=some (.tup [.str f, .str w]) by
    simp[atI,ixN]
    rw[if_pos (by omega),show(-1+((hs.length:Int)+1)).toNat=hs.length by omega]
    simp]
  rw[ix,sat_ok]
  refine⟨f,[(f,w)],fs,?_,gh.first,by simp,pt3,gh.toHole hw,by simp,by simp,fr1.trans ((FrP.set _ (.inr (.inr rfl))).trans (.set _ (.inr (.inl rfl))))⟩
  rfl
 rw[ssat_seq,ssat_if,sat_tAnd]
 simp only[sat_tOfE,L3.sat_e2,sat_eVar,List.getElem?_cons_succ,List.getElem?_cons_zero,sat_eN,sat_aNil,sat_mkLst,List.length_nil,sz0,true_and]
 have ne:neD (.lst ((ofW hs w).map .str)) (.lst []) S= .ok (.bl (!(ofW hs w).isEmpty)) S:=ne_lst0 fun s m=>asc_ok (name_asc (gh.hole (ofW_mem m)))
 rw[ne,sat_ok]
 simp only[blD_bl,sat_ok]
 cases hem:(ofW hs w) with
 |nil=>
  simp only[List.isEmpty_nil,Bool.not_true,Bool.false_eq_true,if_false,ssat_skip,hem] at anew ⊢
  exact ssat_mono (anew S pt .refl) (fun _ _ h=>h.elim) (fun _ _ h=>h) (fun _ _ h=>h) fun _ _ h=>h
 |cons a l=>
  simp only[List.isEmpty_cons,Bool.not_false,if_true,hem] at anew ⊢
  simp only[sat_tOfE,L3.sat_e2,sat_eN,sat_aCons,sat_aNil,sat_eVar,sat_eK,callK_eq,List.append_nil,List.getElem?_cons_succ,List.getElem?_cons_zero]
  refine sat_mono (ht n S 5 pt.hd (by decide) (by decide)) fun d S2 ⟨⟨i,e,_,_⟩,fr⟩=> ?_
  subst e
  rw[eq_int,sat_ok,blD_bl,sat_ok]
  have pt2:=pt.of ap fr
  by_cases hi:i=0
  ·simp only[hi,decide_true,if_true]
   rw[ssat_sRet]
   simp only[sat_eN,sat_aCons,sat_aNil,sat_eVar,sat_eK,callK_eq,List.append_nil,List.getElem?_cons_succ,List.getElem?_cons_zero]
   refine sat_mono (hp n S2 _ _ fr.hd (.lst ((a::l).map D.str)) (by simp) (by
    have:(ofW hs w).length≤hs.length:=by simp only[ofW,List.length_map];exact List.length_filter_le _ _
    rw[hem] at this
    rw[List.length_map];simp at hlen this ⊢;omega)) fun d S3 ⟨hm,fr3⟩=> ?_
   obtain⟨h,hh,rfl⟩:=List.mem_map.mp (show d ∈ (a::l).map D.str from hm)
   have:=ofW_mem (hem▸hh)
   rw[sat_mkTup]
   refine⟨small (by simp),?_⟩
   rw[sat_mkTup]
   refine⟨small (by simp),?_⟩
   exact⟨h,[],f::fs,rfl,gh.hole this,by simpa using this,by simpa using pt2.of ap fr3,by simpa using gh,by simp,by simp, .of (fr.trans fr3)⟩
  ·simp only[hi,decide_false,Bool.false_eq_true,if_false]
   rw[ssat_skip]
   exact ssat_mono (anew S2 pt2 (.of fr)) (fun _ _ h=>h.elim) (fun _ _ h=>h) (fun _ _ h=>h) fun _ _ h=>h
end L3.Wy
namespace L3.Wy
open PySem L2 L3
def mHoledW (tk pk hl hd:FN):SD:=
    sSeq (sAsg (eVar 2) (gTup [5,6,7]))
    (sSeq (sIf (tOfE (e2 inD (eVar 5) (eN mkTup (aCons (eK (.str "name")) (aCons (eK (.str "num")) (aNil)))))) (sSeq (sIf (tAnd (tOfE (e2 inD (eVar 6) (eVar 3))) (tOfE (e2 gtD (eN (callK tk []) (aCons (eVar 0) (aCons (eK (.int 6)) (aNil)))) (eK (.int 0))))) (sRet (eN mkTup (aCons (eVar 5) (aCons (e2 ixD (eVar 3) (eVar 6)) (aCons (eN mkTup (aNil)) (aNil)))))) (sSkip))
    (sSeq (sIf (tOr (tOfE (e2 inD (eVar 6) (eVar 3))) (tOfE (e2 eqD (eN (callK tk []) (aCons (eVar 0) (aCons (eK (.int 4)) (aNil)))) (eK (.int 0))))) (sRet (eN (callK hl []) (aCons (eVar 0) (aCons (eVar 1) (aCons (eN (callK pk []) (aCons (eVar 0) (aCons (eN mkLst (aCons (e2 ixD (eDic [(eK (.str "name"),eK (.str "called")),(eK (.str "num"),eK (.str "count"))]) (eVar 5)) (aCons (eK (.str "any")) (aNil)))) (aNil)))) (aNil)))))) (sSkip))
    (sRet (eVar 2)))) (sSkip))
    (sSeq (sAsg (eN lenD (aCons (eVar 7) (aNil))) (gName 8))
    (sSeq (sIf (tOfE (e2 inD (eVar 5) (eN mkTup (aCons (eK (.str "plus")) (aCons (eK (.str "times")) (aCons (eK (.str "most")) (aNil))))))) (sAsg (e2 mulD (e2 ixD (eVar 1) (eK (.str "ways"))) (e2 ixD (eN mkLst (aCons (eK (.int 1)) (aCons (eK (.int 1)) (aCons (eK (.int 2)) (aCons (eK (.int 6)) (aCons (eK (.int 24)) (aNil))))))) (eVar 8))) (gSub (eVar 1) (eK (.str "ways")))) (sSkip))
    (sSeq (sIf (tOr (tOfE (e2 eqD (eVar 4) (eK (.int 0)))) (tOr (tOfE (e2 gtD (e2 ixD (eVar 1) (eK (.str "ways"))) (eK (.int 200)))) (tOfE (e2 eqD (eN (callK tk []) (aCons (eVar 0) (aCons (eK (.int 5)) (aNil)))) (eK (.int 0)))))) (sRet (eN (callK hl []) (aCons (eVar 0) (aCons (eVar 1) (aCons (eK (.str "any")) (aNil)))))) (sSkip))
    (sSeq (sIf (tOfE (e2 inD (eVar 5) (eN mkTup (aCons (eK (.str "let")) (aCons (eK (.str "each")) (aNil)))))) (sSeq (sAsg (eBM "list" popD (e2 ixD (eVar 1) (eK (.str "fresh"))) (aCons (eK (.int 0)) (aNil))) (gName 9))
    (sSeq (sAsg (eN (callK hd []) (aCons (eVar 0) (aCons (eVar 1) (aCons (e2 ixD (eVar 7) (eK (.int 0))) (aCons (eVar 3) (aCons (e2 subD (eVar 4) (eK (.int 1))) (aNil))))))) (gName 10))
    (sSeq (sAsg (eN dictPV (aCons (e2 addD (e1 litemsD (eVar 3)) (eN mkLst (aCons (eN mkTup (aCons (eVar 6) (aCons (eVar 9) (aNil)))) (aNil)))) (aNil))) (gName 11))
    (sRet (eN mkTup (aCons (eVar 5) (aCons (eVar 9) (aCons (eN mkTup (aCons (eVar 10) (aCons (eN (callK hd []) (aCons (eVar 0) (aCons (eVar 1) (aCons (e2 ixD (eVar 7) (eK (.int 1))) (aCons (eVar 11) (aCons (e2 subD (eVar 4) (eK (.int 1))) (aNil))))))) (aNil)))) (aNil))))))))) (sSkip))
    (sSeq (sPar [12,13] (aCons (eN mkObj (aNil)) (aCons (eN (callK tk []) (aCons (eVar 0) (aCons (e2 addD (eVar 8) (eK (.int 1))) (aNil)))) (aNil))))
    (sSeq (sAsg (e2 addD (eVar 13) (eN (callK tk []) (aCons (eVar 0) (aCons (e2 subD (e2 addD (eVar 8) (eK (.int 1))) (eVar 13)) (aNil))))) (gName 14))
    (sSeq (sAsg (eAnd (e2 inD (eVar 5) (eN mkTup (aCons (eK (.str "plus")) (aCons (eK (.str "times")) (aCons (eK (.str "most")) (aCons (eK (.str "row")) (aNil))))))) (e2 eqD (eN (callK tk []) (aCons (eVar 0) (aCons (eK (.int 2)) (aNil)))) (eK (.int 0)))) (gName 15))
    (sSeq (sFor (iArgs range1 (aCons (e2 addD (eVar 8) (eK (.int 1))) (aNil))) (gName 16) (sSeq (sIf (tAnd (tTruth (eVar 15)) (tOfE (e2 eqD (eVar 16) (eVar 13)))) (sExpr (eBM "list" appendD (eVar 12) (aCons (eN (callK hl []) (aCons (eVar 0) (aCons (eVar 1) (aCons (eK (.str "rest")) (aNil))))) (aNil)))) (sSkip))
    (sIf (tAnd (tOfE (e2 ltD (eVar 16) (eVar 8))) (tNot (tAnd (tTruth (eVar 15)) (tOfE (eChain leD ltD (eVar 13) (eVar 16) (eVar 14)))))) (sExpr (eBM "list" appendD (eVar 12) (aCons (eN (callK hd []) (aCons (eVar 0) (aCons (eVar 1) (aCons (e2 ixD (eVar 7) (eVar 16)) (aCons (eVar 3) (aCons (e2 subD (eVar 4) (eK (.int 1))) (aNil))))))) (aNil)))) (sSkip))))
    (sRet (eN mkTup (aCons (eVar 5) (aCons (eK (.str "")) (aCons (eN tupleD (aCons (eVar 12) (aNil))) (aNil)))))))))))))))
structure Ho (n p hq fq e:Nat) (hs:List (Str × Str)) (gs fs:List Str) (c:Nat) (S:Store):Prop where
 pt:∃r:Int,True∧Pt n p hq fq r hs fs S
 gh:Gh hs gs fs
 ps:c≤fs.length
 len:hs.length+fs.length≤60
section
variable {n p hq fq e:Nat} {hs:List (Str × Str)} {gs fs:List Str} {c:Nat} {S S':Store}
theorem Ho.hand (h:Ho n p hq fq e hs gs fs c S):Hand n S:=by obtain⟨r,_,h⟩:=h.pt;exact h.hd
theorem Ho.of (ap:Ap n p hq fq) (h:Ho n p hq fq e hs gs fs c S) (f:FrH n S S'):Ho n p hq fq e hs gs fs c S':=by
 obtain⟨r,h1,h2⟩:=h.pt
 exact⟨⟨r,h1,h2.of ap f⟩,h.gh,h.ps,h.len⟩
theorem Ho.less {e' c':Nat} (h:Ho n p hq fq e hs gs fs c S) (he:e≤e') (hc:c'≤c):Ho n p hq fq e' hs gs fs c' S:=by
 obtain⟨r,h1,h2⟩:=h.pt
 exact⟨⟨r,trivial,h2⟩,h.gh,Nat.le_trans hc h.ps,h.len⟩
theorem Ho.put (h:Ho n p hq fq e hs gs fs c S) {m:Nat} (o:O) (hm:m≠n∧m≠p∧m≠hq∧m≠fq):Ho n p hq fq e hs gs fs c (S.set m o):=by
 obtain⟨r,h1,h2⟩:=h.pt
 exact⟨⟨r,h1,h2.put o hm⟩,h.gh,h.ps,h.len⟩
theorem Ho.app (h:Ho n p hq fq e hs gs fs c S) (o:O):Ho n p hq fq e hs gs fs c (S++ [o]):=by
 obtain⟨r,h1,h2⟩:=h.pt
 exact⟨⟨r,h1,h2.app o⟩,h.gh,h.ps,h.len⟩
theorem Ho.hole {hl:FN} (hh:IsHole hl) (ap:Ap n p hq fq) (h:Ho n p hq fq e hs gs fs (c+1) S) {w:Str} (hw:w ∈ HW):(hl [.obj n, .obj p, .str w] S).sat fun d S'=>∃z hx fs',d=(Tm.nd w z []).d∧NameOk z∧(z,w) ∈ hs++hx∧Ho n p hq fq e (hs++hx) gs fs' c S'∧FrP n p hq fq S S':=by
 obtain⟨r,h1,h2⟩:=h.pt
 refine sat_mono (hh n p hq fq S r hs gs fs w ap h2 h.gh hw (by have:=h.ps;intro e;rw[e] at this;simp at this) (by have:=h.len;omega)) ?_
 rintro d S' ⟨z,hx,fs',e,e1,e2,e3,e4,e5,e6,e7⟩
 exact⟨z,hx,fs',e,e1,e2,⟨⟨r,h1,e3⟩,e4,by have:=h.ps;omega,by have:=h.len;simp only[List.length_append];omega⟩,e7⟩
theorem Ho.own (ap:Ap n p hq fq) (h:Ho n p hq fq e hs gs fs (c+1) S):∃f fs',fs=f::fs'∧NameOk f∧popD (.obj fq) [.int 0] S= .ok (.str f) (S.set fq (.lst (fs'.map .str)))∧Ho n p hq fq e hs (gs++ [f]) fs' c (S.set fq (.lst (fs'.map .str))):=by
 have:=h.ps
 cases fs with
 |nil=>simp at this
 |cons f fs'=>
  obtain⟨r,h1,h2⟩:=h.pt
  obtain⟨e1,e2⟩:=h2.pop ap
  have hp:=h.ps
  have hl:=h.len
  simp only[List.length_cons] at hp hl
  exact⟨f,fs',rfl,h.gh.first,e1,⟨⟨r,h1,e2⟩,h.gh.toGiv,by omega,by omega⟩⟩
end
structure HoR (n p hq fq e:Nat) (hs:List (Str × Str)) (gs:List Str) (c:Nat) (us:List Tm) (S S':Store):Prop where
 ex:∃hx fs',Ho n p hq fq e (hs++hx) (gs++Tm.gvs us) fs' c S'∧∀x ∈ Tm.hls us,x ∈ hs++hx
 fr:FrP n p hq fq S S'
def NmW (L:Nat) (d:D):Prop:=∃kvs:List (Key × D),d= .dic (kvs.map (·.1)) (kvs.map (·.2))∧(∀ x ∈ kvs,∃s,x.2= .str s∧NameOk s)∧kvs.length+L≤100∧∀x ∈ kvs,∃s,x.1= .inr s
theorem NmW.d {L:Nat} {d:D} (h:NmW L d):NmD L d:=by
 obtain⟨kvs,e,h1,h2,_⟩:=h
 exact⟨kvs,e,h1,h2⟩
theorem NmW.less {L L':Nat} {d:D} (h:NmW L d) (hl:L'≤L):NmW L' d:=by
 obtain⟨kvs,e,h1,h2,h3⟩:=h
 exact⟨kvs,e,h1,by omega,h3⟩
theorem NmW.int {L:Nat} {d:D} (h:NmW L d) (i:Int) (S:Store):inD (.int i) d S= .ok (.bl false) S:=by
 obtain⟨kvs,rfl,h1,h2,h3⟩:=h
 have hd:dGet kvs (.inl i)=none:=by
  unfold dGet
  rw[Option.map_eq_none_iff,List.find?_eq_none]
  intro x hx
  obtain⟨s,e⟩:=h3 x hx
  simp[e]
 simp only[inD,memD,memKey,keyOf,zip_maps,hd]
 rfl
theorem put_keys {P:Key→Prop} {kvs:List (Key × D)} {k:Key} {v:D} (h:∀x ∈ kvs,P x.1) (hk:P k):∀x ∈ putD kvs k v,P x.1:=by
 intro x hx
 unfold putD at hx
 split at hx
 ·obtain⟨y,hy,rfl⟩:=List.mem_map.mp hx
  split
  ·rename_i e
   first|exact h y hy|(simp only;exact hk)
  ·exact h y hy
 ·rcases List.mem_append.mp hx with hx|hx
  ·exact h x hx
  ·simp only[List.mem_cons,List.not_mem_nil,or_false] at hx;rw[hx];exact hk
theorem merge_keys {P:Key→Prop} :∀ {l acc:List (Key × D)},(∀ x ∈ acc,P x.1)→(∀ x ∈ l,P x.1)→∀x ∈ mergeD acc l,P x.1
 | [],acc,h,_=>h
 |y::l,acc,h,g=>by
  show ∀x ∈ mergeD (putD acc y.1 y.2) l,P x.1
  exact merge_keys (put_keys h (g y List.mem_cons_self)) fun x hx=>g x (List.mem_cons_of_mem _ hx)
theorem NmW.add {L:Nat} {d:D} (h:NmW (L+1) d) (m f:Str) (hf:NameOk f):∃d',NmW L d'∧∀S,((litemsD d S).bind fun x S1=>(addD x (.lst [.tup [.str m, .str f]]) S1).bind fun y S2=>dictPV [y] S2)= .ok d' S:=by
 obtain⟨kvs,rfl,h1,h2,h3⟩:=h
 have hp:pairKs (pairs kvs++ [.tup [.str m, .str f]])=some (kvs++ [(.inr m, .str f)]):=pairKs_app (pairKs_pairs kvs) rfl
 refine⟨_,⟨mergeD [] (kvs++ [(.inr m, .str f)]),rfl,?_,?_,?_⟩,fun S=> ?_⟩
 ·refine merge_all (P:=fun v=>∃s,v= .str s∧NameOk s) (by simp) fun x hx=> ?_
  rcases List.mem_append.mp hx with hx|hx
  ·exact h1 x hx
  ·simp only[List.mem_cons,List.not_mem_nil,or_false] at hx;rw[hx];exact⟨f,rfl,hf⟩
 ·have:=merge_len (l:=kvs++ [(.inr m, .str f)]) (acc:= [])
  simp only[List.length_append,List.length_cons,List.length_nil] at this;omega
 ·refine merge_keys (P:=fun k=>∃s,k= .inr s) (by simp) fun x hx=> ?_
  rcases List.mem_append.mp hx with hx|hx
  ·exact h3 x hx
  ·simp only[List.mem_cons,List.not_mem_nil,or_false] at hx;rw[hx];exact⟨m,rfl⟩
 ·have hd:dkAt (.dic (kvs.map (·.1)) (kvs.map (·.2))) S=some kvs:=by simp[dkAt,zip_maps]
  simp only[litemsD,hd,R.bind]
  rw[add_lst (small (by simp[pairs_len];omega))]
  simp only[R.bind,dictPV,asL,hp]
def HoledOk (hd:FN) (L:Nat):Prop:=∀(n p hq fq e:Nat) (S:Store) (hs:List (Str × Str)) (gs fs:List Str) (c:Nat) (t:Tm) (nm:D),Ap n p hq fq→Ho n p hq fq e hs gs fs (c+t.size) S→Q.Good4 t→NmW L nm→L≤5→
 (hd [.obj n, .obj p,t.d,nm, .int L] S).sat fun d S'=>∃u:Tm,d=u.d∧PG u∧isRest u=false∧u.dep≤L+1∧u.size≤2*t.size∧HoR n p hq fq e hs gs c [u] S S'
end L3.Wy
namespace L3.Wy
open PySem L2 L3
section
variable {n p hq fq e:Nat} {hs:List (Str × Str)} {gs fs:List Str} {c:Nat} {S S1 S':Store} {L z:Nat}
def Done (n p hq fq e:Nat) (hs:List (Str × Str)) (gs:List Str) (c L z:Nat) (S:Store) (d:D) (S':Store):Prop:=∃u:Tm,d=u.d∧PG u∧isRest u=false∧u.dep≤L+1∧u.size≤2*z∧HoR n p hq fq e hs gs c [u] S S'
theorem Done.pre {d:D} (h:Done n p hq fq e hs gs c L z S1 d S') (f:FrP n p hq fq S S1):Done n p hq fq e hs gs c L z S d S':=by
 obtain⟨u,h1,h2,h3,h4,h6,h5⟩:=h
 exact⟨u,h1,h2,h3,h4,h6,h5.ex,f.trans h5.fr⟩
theorem hole_r {hl:FN} (hh:IsHole hl) (ap:Ap n p hq fq) (h:Ho n p hq fq e hs gs fs (c+1) S) {w:Str} (hw:w ∈ HW) (hr:w≠ "rest") (hz0:1≤z):(hl [.obj n, .obj p, .str w] S).sat (Done n p hq fq e hs gs c L z S):=by
 refine sat_mono (h.hole hh ap hw) ?_
 rintro d S' ⟨y,hx,fs',rfl,ok,hz,ho,fr⟩
 obtain⟨g1,g2,_⟩:=hole_gv (w:=w) (z:=y) hw
 refine⟨.nd w y [],rfl, .hole hw ok,decide_eq_false hr,by simp[Tm.dep,Tm.deps],by simp[Tm.size,Tm.sizes];omega,⟨hx,fs',?_,?_⟩,fr⟩
 ·rw[gvs_one,g1,List.append_nil];exact ho
 ·rw[hls_one,g2]
  intro x hx'
  simp only[List.mem_cons,List.not_mem_nil,or_false] at hx'
  rw[hx'];exact hz
theorem leaf_r (h:Ho n p hq fq e hs gs fs (c+1) S) {t:Tm} (hp:PG t) (h1:t.gv= []) (h2:t.hl= []) (h3:isRest t=false) (h4:t.dep=1) (h5:t.size=1) (hz0:1≤z):Done n p hq fq e hs gs c L z S t.d S:=by
 refine⟨t,rfl,hp,h3,by omega,by omega,⟨[],fs,?_,?_⟩, .refl⟩
 ·rw[gvs_one,h1,List.append_nil,List.append_nil];exact h.less (Nat.le_refl _) (by omega)
 ·rw[hls_one,h2];simp
end
theorem in_nn {w:Str} {S:Store} (h:w= "name" ∨w= "num"):inD (.str w) (.tup [.str "name", .str "num"]) S= .ok (.bl true) S:=by rcases h with rfl|rfl<;>kernel_rfl
theorem leafW {tk pk hl hd:FN} (ht:IsTake tk) (hp:IsPick2 pk) (hh:IsHole hl) {L n p hq fq e:Nat} {S:Store} {hs:List (Str × Str)} {gs fs:List Str} {c:Nat} {t:Tm} {nm:D} (ap:Ap n p hq fq) (ho:Ho n p hq fq e hs gs fs (c+1) S) (hg:Q.Good4 t) (hn:NmW L nm) (hl1:(∃ i,t= .num i)∨∃s,t= .nam s):
 (run 5 17 (mHoledW tk pk hl hd) [.obj n, .obj p,t.d,nm, .int L] S).sat (Done n p hq fq e hs gs c L 1 S):=by
 rw[sat_run]
 refine⟨rfl,?_⟩
 unfold mHoledW
 simp only[List.map_cons,List.map_nil,List.cons_append,List.nil_append,List.length_cons,List.length_nil,List.replicate,Nat.zero_add,Nat.reduceAdd,Nat.reduceSub]
 have last:∀(w:Str) (m:D) (S1:Store),(w= "name" ∨w= "num")→t.d= .tup [.str w,m, .tup []] →FrP n p hq fq S S1→Ho n p hq fq e hs gs fs (c+1) S1→((sRet (eN (callK hl []) (aCons (eVar 0) (aCons (eVar 1) (aCons (eN (callK pk []) (aCons (eVar 0) (aCons (eN mkLst (aCons (e2 ixD (eDic [(eK (.str "name"),eK (.str "called")),(eK (.str "num"),eK (.str "count"))]) (eVar 5)) (aCons (eK (.str "any")) (aNil)))) (aNil)))) (aNil)))))) [some (.obj n),some (.obj p),some t.d,some nm,some (.int L),some (.str w),some m,some (.tup []),none,none,none,none,none,none,none,none,none] S1).sat (fun _ _=>False) (Done n p hq fq e hs gs c L 1 S) (fun _ _=>False) (fun _ _=>False):=by
  intro w m S1 hw ed fr h1
  obtain⟨v,hv,ev⟩:∃v:Str,(v= "called" ∨v= "count")∧∀env:EnvD,env[5]? =some (some (.str w))→(e2 ixD (eDic [(eK (.str "name"),eK (.str "called")),(eK (.str "num"),eK (.str "count"))]) (eVar 5)) env S1= .ok (.str v) S1:=by
   rcases hw with rfl|rfl
   ·exact⟨"called", .inl rfl,fun env he=>by simp only[e2,eVar,he];kernel_rfl⟩
   ·exact⟨"count", .inr rfl,fun env he=>by simp only[e2,eVar,he];kernel_rfl⟩
  rw[ssat_sRet]
  simp only[sat_eN,sat_aCons,sat_aNil,sat_eVar,sat_eK,sat_mkLst,List.getElem?_cons_succ,List.getElem?_cons_zero,callK_eq,List.append_nil]
  rw[ev _ rfl,sat_ok]
  refine⟨of_eq_true sz2,?_⟩
  refine sat_mono (hp n S1 _ _ h1.hand (.lst [D.str v,D.str "any"]) (by simp) (by simp)) ?_
  rintro d S2 ⟨hm,f2⟩
  have h2:=h1.of ap f2
  have hd:∃x:Str,d= .str x∧x ∈ HW∧x≠ "rest" :=by
   simp only[List.mem_cons,List.not_mem_nil,or_false] at hm
   rcases hm with rfl|rfl
   ·rcases hv with rfl|rfl<;>exact⟨_,rfl,by decide +kernel,by decide +kernel⟩
   ·exact⟨_,rfl,by decide +kernel,by decide +kernel⟩
  obtain⟨x,rfl,x1,x2⟩:=hd
  exact sat_mono (hole_r hh ap h2 x1 x2 (Nat.le_refl 1)) fun d S3 h=>h.pre (fr.trans (.of f2))
 have free:∀(w:Str) (m:D),(w= "name" ∨w= "num")→t.d= .tup [.str w,m, .tup []] →(∀ S,inD m nm S= .ok (.bl false) S)→PG t→t.gv= [] →t.hl= [] →isRest t=false→t.dep=1→t.size=1→((sSeq (sIf (tAnd (tOfE (e2 inD (eVar 6) (eVar 3))) (tOfE (e2 gtD (eN (callK tk []) (aCons (eVar 0) (aCons (eK (.int 6)) (aNil)))) (eK (.int 0))))) (sRet (eN mkTup (aCons (eVar 5) (aCons (e2 ixD (eVar 3) (eVar 6)) (aCons (eN mkTup (aNil)) (aNil)))))) (sSkip))
  (sSeq (sIf (tOr (tOfE (e2 inD (eVar 6) (eVar 3))) (tOfE (e2 eqD (eN (callK tk []) (aCons (eVar 0) (aCons (eK (.int 4)) (aNil)))) (eK (.int 0))))) (sRet (eN (callK hl []) (aCons (eVar 0) (aCons (eVar 1) (aCons (eN (callK pk []) (aCons (eVar 0) (aCons (eN mkLst (aCons (e2 ixD (eDic [(eK (.str "name"),eK (.str "called")),(eK (.str "num"),eK (.str "count"))]) (eVar 5)) (aCons (eK (.str "any")) (aNil)))) (aNil)))) (aNil)))))) (sSkip))
  (sRet (eVar 2)))) [some (.obj n),some (.obj p),some t.d,some nm,some (.int L),some (.str w),some m,some (.tup []),none,none,none,none,none,none,none,none,none] S).sat (fun _ _=>False) (Done n p hq fq e hs gs c L 1 S) (fun _ _=>False) (fun _ _=>False):=by
  intro w m hw ed hi p1 p2 p3 p4 p5 p6
  refine step_no (S1:=S) ?_ ?_
  ·apply of_sat
   simp only[sat_tAnd,sat_tOfE,sat_e2,sat_eVar,List.getElem?_cons_succ,List.getElem?_cons_zero]
   rw[hi,sat_ok,blD_bl,sat_ok,if_neg (by simp)]
   exact⟨by trivial,by trivial⟩
  rw[ssat_seq,ssat_if]
  simp only[sat_tOr,sat_tOfE,sat_e2,sat_eVar,List.getElem?_cons_succ,List.getElem?_cons_zero]
  rw[hi,sat_ok,blD_bl,sat_ok,if_neg (by simp)]
  simp only[sat_tOfE,sat_e2,sat_eN,sat_aCons,sat_aNil,sat_eVar,sat_eK,List.getElem?_cons_succ,List.getElem?_cons_zero,callK_eq,List.append_nil]
  refine sat_mono (ht n S 4 ho.hand (by decide) (by decide)) ?_
  rintro d S1 ⟨⟨z,rfl,_,_⟩,f1⟩
  rw[eq_int,sat_ok,blD_bl,sat_ok]
  have h1:=ho.of ap f1
  by_cases hz:z=0
  ·rw[if_pos (by simpa using hz)]
   exact ssat_mono (last w m S1 hw ed (.of f1) h1) (fun _ _ h=>h.elim) (fun _ _ h=>h) (fun _ _ h=>h.elim) fun _ _ h=>h.elim
  ·rw[if_neg (by simpa using hz),ssat_skip,ssat_sRet,sat_eVar]
   simp only[List.getElem?_cons_succ,List.getElem?_cons_zero]
   exact(leaf_r h1 p1 p2 p3 p4 p5 p6 (Nat.le_refl 1)).pre (.of f1)
 rcases hl1 with⟨i,rfl⟩|⟨s,rfl⟩
 ·obtain⟨i0,i1⟩:0≤i∧i≤9972:=by cases hg with|num a b=>exact⟨a,b⟩
  refine step_asg (S1:=S) (S2:=S) (d:=(Tm.num i).d) (env':= [some (.obj n),some (.obj p),some (Tm.num i).d,some nm,some (.int L),some (.str "num"),some (.int i),some (.tup []),none,none,none,none,none,none,none,none,none]) rfl rfl ?_
  refine step_yes (S1:=S) ?_ (seq_done (free "num" (.int i) (.inr rfl) rfl (fun S=>hn.int i S) (.num i0 i1) rfl rfl (isRest_num i) rfl rfl))
  apply of_sat
  simp only[sat_tOfE,sat_e2,sat_eVar,sat_eN,sat_aCons,sat_aNil,sat_eK,sat_mkTup,List.getElem?_cons_succ,List.getElem?_cons_zero]
  refine⟨of_eq_true sz2,?_⟩
  rw[in_nn (.inr rfl),sat_ok,blD_bl,sat_ok]
  exact⟨rfl,rfl⟩
 ·have ok:NameOk s:=by cases hg with|nam h=>exact h
  refine step_asg (S1:=S) (S2:=S) (d:=(Tm.nam s).d) (env':= [some (.obj n),some (.obj p),some (Tm.nam s).d,some nm,some (.int L),some (.str "name"),some (.str s),some (.tup []),none,none,none,none,none,none,none,none,none]) rfl rfl ?_
  refine step_yes (S1:=S) ?_ (seq_done ?_)
  ·apply of_sat
   simp only[sat_tOfE,sat_e2,sat_eVar,sat_eN,sat_aCons,sat_aNil,sat_eK,sat_mkTup,List.getElem?_cons_succ,List.getElem?_cons_zero]
   refine⟨of_eq_true sz2,?_⟩
   rw[in_nn (.inl rfl),sat_ok,blD_bl,sat_ok]
   exact⟨rfl,rfl⟩
  rcases hn.d.look s with hno|⟨s',ok',hyes⟩
  ·exact free "name" (.str s) (.inl rfl) rfl hno (.nam ok) rfl rfl (isRest_nam s) rfl rfl
  rw[ssat_seq,ssat_if]
  simp only[sat_tAnd,sat_tOfE,sat_e2,sat_eVar,List.getElem?_cons_succ,List.getElem?_cons_zero]
  rw[(hyes S).1,sat_ok,blD_bl,sat_ok,if_pos rfl]
  simp only[sat_tOfE,sat_e2,sat_eN,sat_aCons,sat_aNil,sat_eVar,sat_eK,List.getElem?_cons_succ,List.getElem?_cons_zero,callK_eq,List.append_nil]
  refine sat_mono (ht n S 6 ho.hand (by decide) (by decide)) ?_
  rintro d S1 ⟨⟨z,rfl,_,_⟩,f1⟩
  rw[gt_int,sat_ok,blD_bl,sat_ok]
  have h1:=ho.of ap f1
  split
  ·rw[ssat_sRet]
   simp only[sat_eN,sat_aCons,sat_aNil,sat_e2,sat_eVar,sat_mkTup,List.getElem?_cons_succ,List.getElem?_cons_zero]
   rw[(hyes S1).2,sat_ok]
   refine⟨of_eq_true sz0,of_eq_true sz3,?_⟩
   exact(leaf_r h1 (.nam ok') rfl rfl (isRest_nam s') rfl rfl (Nat.le_refl 1):Done n p hq fq e hs gs c L 1 S1 (Tm.nam s').d S1).pre (.of f1)
  ·rw[ssat_skip]
   refine step_yes (S1:=S1) ?_ (seq_done (last "name" (.str s) S1 (.inl rfl) rfl (.of f1) h1))
   apply of_sat
   simp only[sat_tOr,sat_tOfE,sat_e2,sat_eVar,List.getElem?_cons_succ,List.getElem?_cons_zero]
   rw[(hyes S1).1,sat_ok,blD_bl,sat_ok,if_pos rfl]
   exact⟨by trivial,by trivial⟩
end L3.Wy
namespace L3.Wy
open PySem L2 L3
section
variable {n p hq fq e:Nat} {hs:List (Str × Str)} {gs:List Str} {c:Nat} {S S1:Store} {us:List Tm}
theorem HoR.hand (h:HoR n p hq fq e hs gs c us S S1):Hand n S1:=by obtain⟨⟨hx,fs',ho,_⟩,_⟩:=h;exact ho.hand
theorem HoR.of (ap:Ap n p hq fq) (h:HoR n p hq fq e hs gs c us S S1) {S2:Store} (f:FrH n S1 S2):HoR n p hq fq e hs gs c us S S2:=by
 obtain⟨⟨hx,fs',ho,hm⟩,fr⟩:=h
 exact⟨⟨hx,fs',ho.of ap f,hm⟩,fr.trans (.of f)⟩
theorem HoR.less {c':Nat} (h:HoR n p hq fq e hs gs c us S S1) (hc:c'≤c):HoR n p hq fq e hs gs c' us S S1:=by
 obtain⟨⟨hx,fs',ho,hm⟩,fr⟩:=h
 exact⟨⟨hx,fs',ho.less (Nat.le_refl _) hc,hm⟩,fr⟩
theorem HoR.start {fs:List Str} (ho:Ho n p hq fq e hs gs fs c S):HoR n p hq fq e hs gs c [] S S:=⟨⟨[],fs,by simpa[Tm.gvs] using ho,by simp[Tm.hls]⟩, .refl⟩
theorem HoR.more (h:HoR n p hq fq e hs gs c us S S1) (o:O):HoR n p hq fq e hs gs c us S (S1++ [o]):=by
 obtain⟨⟨hx,fs',ho,hm⟩,fr⟩:=h
 exact⟨⟨hx,fs',ho.app o,hm⟩,fr.trans (.app o)⟩
theorem HoR.put (h:HoR n p hq fq e hs gs c us S S1) {q:Nat} (o:O) (hS:S.length≤q) (hq':n<S.length∧p<S.length∧hq<S.length∧fq<S.length):HoR n p hq fq e hs gs c us S (S1.set q o):=by
 obtain⟨⟨hx,fs',ho,hm⟩,fr⟩:=h
 exact⟨⟨hx,fs',ho.put o (by omega),hm⟩,fr.put hS o⟩
theorem HoR.rest {hl:FN} (hh:IsHole hl) (ap:Ap n p hq fq) (h:HoR n p hq fq e hs gs (c+1) us S S1) {Q:D→Store→Prop} (hQ:∀z S2,NameOk z→FrP n p hq fq S1 S2→HoR n p hq fq e hs gs c (us++ [.nd "rest" z []]) S S2→Q (Tm.nd "rest" z []).d S2):(hl [.obj n, .obj p, .str "rest"] S1).sat Q:=by
 obtain⟨⟨hx,fs',ho,hm⟩,fr⟩:=h
 refine sat_mono (ho.hole hh ap (by decide +kernel)) ?_
 rintro d S2 ⟨z,hx2,fs2,rfl,ok,hz,ho2,fr2⟩
 obtain⟨g1,g2⟩:=rest_gv z
 refine hQ z S2 ok fr2 ⟨⟨hx++hx2,fs2,?_,?_⟩,fr.trans fr2⟩
 ·rw[Tm.gvs_app,gvs_one,g1,List.append_nil,←List.append_assoc];exact ho2
 ·intro x hx'
  rw[Tm.hls_app,hls_one,g2] at hx'
  rw[← List.append_assoc]
  rcases List.mem_append.mp hx' with h|h
  ·exact List.mem_append_left _ (hm x h)
  ·simp only[List.mem_cons,List.not_mem_nil,or_false] at h
   rw[h];exact hz
theorem HoR.one {hd:FN} {L:Nat} (hh:HoledOk hd L) (ap:Ap n p hq fq) {t:Tm} {nm:D} (h:HoR n p hq fq e hs gs (c+t.size) us S S1) (hg:Q.Good4 t) (hn:NmW L nm) (hL:L≤5)
 {Q:D→Store→Prop} (hQ:∀u S2,PG u→isRest u=false→u.dep≤L+1→u.size≤2*t.size→FrP n p hq fq S1 S2→HoR n p hq fq e hs gs c (us++ [u]) S S2→Q u.d S2):(hd [.obj n, .obj p,t.d,nm, .int L] S1).sat Q:=by
 obtain⟨⟨hx,fs',ho,hm⟩,fr⟩:=h
 refine sat_mono (hh n p hq fq e S1 (hs++hx) (gs++Tm.gvs us) fs' c t nm ap ho hg hn hL) ?_
 rintro d S2 ⟨u,rfl,h1,h2,h3,h4,⟨⟨hx2,fs2,ho2,hm2⟩,fr2⟩⟩
 refine hQ u S2 h1 h2 h3 h4 fr2 ⟨⟨hx++hx2,fs2,?_,?_⟩,fr.trans fr2⟩
 ·rw[Tm.gvs_app,←List.append_assoc,←List.append_assoc];exact ho2
 ·intro x hx'
  rw[Tm.hls_app] at hx'
  rw[← List.append_assoc]
  rcases List.mem_append.mp hx' with h|h
  ·exact List.mem_append_left _ (hm x h)
  ·exact hm2 x h
end
theorem in_heap (w:Str) (h:PyData.strOk w=true) (S:Store):∃b:Bool,inD (.str w) (.tup [.str "plus", .str "times", .str "most"]) S= .ok (.bl b) S∧(b=true→w= "plus" ∨w= "times" ∨w= "most"):=by
 refine⟨decide (w ∈ (["plus","times","most"] :List Str)),in_txts (l:= ["plus","times","most"]) h (by decide +kernel),fun hb=> ?_⟩
 simpa using hb
theorem in_rows (w:Str) (h:PyData.strOk w=true) (S:Store):inD (.str w) (.tup [.str "plus", .str "times", .str "most", .str "row"]) S= .ok (.bl (decide (w ∈ (["plus","times","most","row"] :List Str)))) S:=in_txts (l:= ["plus","times","most","row"]) h (by decide +kernel)
end L3.Wy
namespace L3.Wy
open PySem L2 L3
def mParts (hl hd:FN):SD:=sSeq (sIf (tAnd (tTruth (eVar 15)) (tOfE (e2 eqD (eVar 16) (eVar 13)))) (sExpr (eBM "list" appendD (eVar 12) (aCons (eN (callK hl []) (aCons (eVar 0) (aCons (eVar 1) (aCons (eK (.str "rest")) (aNil))))) (aNil)))) (sSkip))
    (sIf (tAnd (tOfE (e2 ltD (eVar 16) (eVar 8))) (tNot (tAnd (tTruth (eVar 15)) (tOfE (eChain leD ltD (eVar 13) (eVar 16) (eVar 14)))))) (sExpr (eBM "list" appendD (eVar 12) (aCons (eN (callK hd []) (aCons (eVar 0) (aCons (eVar 1) (aCons (e2 ixD (eVar 7) (eVar 16)) (aCons (eVar 3) (aCons (e2 subD (eVar 4) (eK (.int 1))) (aNil))))))) (aNil)))) (sSkip))
def cst (ps:List Tm) (wt:Bool) (b j:Nat):Nat:=Tm.sizes (ps.drop j)+(if wt=true∧j≤b then 1 else 0)
theorem cst_rest {ps:List Tm} {b:Nat} :cst ps true b b=Tm.sizes (ps.drop b)+1:=by simp[cst]
theorem sizes_snoc (us:List Tm) (u:Tm):Tm.sizes (us++ [u])=Tm.sizes us+u.size:=by
 induction us with
 |nil=>simp[Tm.sizes]
 |cons a us ih=>simp[Tm.sizes,ih,Nat.add_assoc]
theorem sizes_take {ps:List Tm} {j:Nat} (h:j<ps.length):Tm.sizes (ps.take (j+1))=Tm.sizes (ps.take j)+ps[j].size:=by
 rw[List.take_succ_eq_append_getElem h,sizes_snoc]
theorem sizes_drop {ps:List Tm} {j:Nat} (h:j<ps.length):Tm.sizes (ps.drop j)=ps[j].size+Tm.sizes (ps.drop (j+1)):=by
 rw[List.drop_eq_getElem_cons h];rfl
section
variable {n p hq fq e:Nat} {hs:List (Str × Str)} {gs:List Str} {c L:Nat} {S0:Store} {ps:List Tm} {nm:D} {w m:Str} {td:D} {q b:Nat} {en:Int} {wt:Bool}
def envP (n p L q b:Nat) (en:Int) (wt:Bool) (td nm:D) (w m:Str) (ps:List Tm) (a16:Option D):EnvD:= [some (.obj n),some (.obj p),some td,some nm,some (.int ((L+1:Nat):Int)),some (.str w),some (.str m),some (.tup (Tm.ds ps)),some (.int (ps.length:Nat)),none,none,none,some (.obj q),some (.int b),some (.int en),some (.bl wt),a16]
structure InvP (n p hq fq e:Nat) (hs:List (Str × Str)) (gs:List Str) (c L:Nat) (S0:Store) (ps:List Tm) (q b:Nat) (wt:Bool) (j:Nat) (us:List Tm) (S:Store):Prop where
 rs:rests us≤if wt=true∧b<j then 1 else 0
 pl:plains us≤min j ps.length
 al:wt=false→plains us=min j ps.length
 ok:∀u ∈ us,PG u
 dp:Tm.deps us≤L+1
 sz:Tm.sizes us≤2*Tm.sizes (ps.take j)+(if wt=true∧b<j then 1 else 0)
 ho:HoR n p hq fq e hs gs (c+cst ps wt b j) us S0 S
 q:S[q]? =some (.lst (Tm.ds us))
theorem parts_ok {hl hd:FN} (hh:IsHole hl) (hk:HoledOk hd L) (ap:Ap n p hq fq) (hL:L≤5) (hg:∀t ∈ ps,Q.Good4 t) (hps:ps.length≤5) (hn:NmW L nm) (hq0:S0.length≤q) (hlt:n<S0.length∧p<S0.length∧hq<S0.length∧fq<S0.length) (hb:b≤ps.length) {j:Nat} (hj:j<ps.length+1) {us:List Tm} {S:Store} (I:InvP n p hq fq e hs gs c L S0 ps q b wt j us S) {T:D→Store→Prop} {N B C:EnvD→Store→Prop}
 (hN:∀us' S',InvP n p hq fq e hs gs c L S0 ps q b wt (j+1) us' S'→N (envP n p L q b en wt td nm w m ps (some (.int (j:Nat)))) S'):
 (mParts hl hd (envP n p L q b en wt td nm w m ps (some (.int (j:Nat)))) S).sat N T B C:=by
 unfold mParts
 have hsz:∀(us:List Tm),rests us≤1→plains us≤5→(Tm.ds us).length<sizeLine:=fun us h1 h2=>by
  have:=rests_add us
  rw[Tm.ds_len]
  exact Nat.lt_of_le_of_lt (by omega:us.length≤10) (by decide)
 have hrs1:rests us≤1:=Nat.le_trans I.rs (by split<;>omega)
 refine seq_rule (fun e' S'=>e'=envP n p L q b en wt td nm w m ps (some (.int (j:Nat)))∧∃us',rests us'≤(if wt=true∧b<j+1 then 1 else 0)∧plains us'=plains us∧(∀ u ∈ us',PG u)∧Tm.deps us'≤L+1∧Tm.sizes us'≤2*Tm.sizes (ps.take j)+(if wt=true∧b<j+1 then 1 else 0)∧HoR n p hq fq e hs gs (c+(Tm.sizes (ps.drop j)+(if wt=true∧j+1≤b then 1 else 0))) us' S0 S'∧S'[q]? =some (.lst (Tm.ds us'))) ?_ ?_
 ·rw[ssat_if,sat_tAnd,sat_tTruth]
  simp only[envP,sat_tOfE,sat_e2,sat_eVar,List.getElem?_cons_succ,List.getElem?_cons_zero,truthD_bl,sat_ok]
  cases wt with
  |false=>
   rw[if_neg (by simp),if_neg (by simp),ssat_skip]
   refine⟨rfl,us,?_,rfl,I.ok,I.dp,?_,?_,I.q⟩
   ·have:=I.rs;simpa using this
   ·have:=I.sz;simpa using this
   ·have:=I.ho;simpa[cst] using this
  |true=>
   rw[if_pos rfl,eq_int,sat_ok,blD_bl,sat_ok]
   by_cases hjb:j=b
   ·subst hjb
    rw[if_pos (by simp),ssat_sExpr]
    simp only[sat_eBM,sat_eN,sat_aCons,sat_aNil,sat_eVar,sat_eK,List.getElem?_cons_succ,List.getElem?_cons_zero,callK_eq,List.append_nil]
    refine⟨mtD_obj I.q,?_⟩
    have h0:=I.ho
    rw[cst_rest,←Nat.add_assoc] at h0
    refine h0.rest hh ap fun z S2 ok fr h2=> ?_
    have q2:=fr.fr _ _ (by omega) (by omega) (by omega) (by omega) I.q
    rw[L3.append_obj q2]
    refine⟨hsz us hrs1 (by have:=I.pl;omega),by trivial,us++ [.nd "rest" z []],?_,?_,?_,?_,?_,?_,?_⟩
    ·have h3:=I.rs
     have:=(rests_snoc us (.nd "rest" z [])).1
     rw[rest_is,if_pos rfl] at this
     rw[if_neg (by simp)] at h3
     rw[if_pos (by simp)]
     omega
    ·have:=(rests_snoc us (.nd "rest" z [])).2
     rw[rest_is,if_pos rfl] at this
     exact this
    ·intro u hu
     rcases List.mem_append.mp hu with hu|hu
     ·exact I.ok u hu
     ·rw[List.mem_singleton] at hu;rw[hu];exact .hole (by decide +kernel) ok
    ·rw[Tm.deps_app]
     have:=I.dp
     simp[Tm.deps,Tm.dep];omega
    ·have h3:=I.sz
     rw[if_neg (by simp)] at h3
     rw[sizes_snoc,if_pos (by simp)]
     simp[Tm.size,Tm.sizes];omega
    ·have h3:=h2.put (.lst (Tm.ds us++ [(Tm.nd "rest" z []).d])) hq0 hlt
     exact h3.less (by rw[if_neg (by rintro⟨_,h⟩;omega)];omega)
    ·rw[List.getElem?_set_self (List.getElem?_eq_some_iff.mp q2).1,Tm.ds_app];rfl
   ·rw[if_neg (by simp;omega),ssat_skip]
    refine⟨rfl,us,?_,rfl,I.ok,I.dp,?_,?_,I.q⟩
    ·refine Nat.le_trans I.rs ?_
     split<;>split<;>simp at* <;>omega
    ·refine Nat.le_trans I.sz (Nat.add_le_add_left ?_ _)
     split<;>split<;>simp at* <;>omega
    ·refine I.ho.less ?_
     unfold cst
     split<;>split<;>simp at* <;>omega
 rintro e' S1 ⟨rfl,us1,r1,p1,ok1,d1,z1,h1,q1⟩
 have hr11:rests us1≤1:=Nat.le_trans r1 (by split<;>omega)
 have skip:j=ps.length∨wt=true→N (envP n p L q b en wt td nm w m ps (some (.int (j:Nat)))) S1:=by
  intro hc
  refine hN us1 S1 ⟨r1,by rw[p1];have:=I.pl;omega,fun hw=> ?_,ok1,d1,?_,?_,q1⟩
  ·rcases hc with hc|hc
   ·rw[p1,I.al hw];omega
   ·rw[hw] at hc;cases hc
  ·refine Nat.le_trans z1 ?_
   by_cases hjl:j<ps.length
   ·rw[sizes_take hjl];omega
   ·rw[List.take_of_length_le (by omega),List.take_of_length_le (by omega)];exact Nat.le_refl _
  ·refine h1.less ?_
   unfold cst
   by_cases hjl:j<ps.length
   ·rw[sizes_drop hjl];omega
   ·rw[List.drop_eq_nil_of_le (by omega),List.drop_eq_nil_of_le (by omega)];omega
 rw[ssat_if,sat_tAnd]
 simp only[envP,sat_tOfE,sat_e2,sat_eVar,List.getElem?_cons_succ,List.getElem?_cons_zero]
 rw[lt_int,sat_ok,blD_bl,sat_ok]
 by_cases hjl:j<ps.length
 case neg=>
  rw[if_neg (by simp;omega),if_neg (by simp),ssat_skip]
  exact skip (.inl (by omega))
 rw[if_pos (by simp;omega),sat_tNot,sat_tAnd,sat_tTruth]
 simp only[sat_eVar,List.getElem?_cons_succ,List.getElem?_cons_zero,truthD_bl,sat_ok]
 have part:((sExpr (eBM "list" appendD (eVar 12) (aCons (eN (callK hd []) (aCons (eVar 0) (aCons (eVar 1) (aCons (e2 ixD (eVar 7) (eVar 16)) (aCons (eVar 3) (aCons (e2 subD (eVar 4) (eK (.int 1))) (aNil))))))) (aNil)))) (envP n p L q b en wt td nm w m ps (some (.int (j:Nat)))) S1).sat N T B C:=by
  rw[ssat_sExpr]
  simp only[envP,sat_eBM,sat_eN,sat_aCons,sat_aNil,sat_e2,sat_eVar,sat_eK,List.getElem?_cons_succ,List.getElem?_cons_zero,callK_eq,List.append_nil]
  refine⟨mtD_obj q1,?_⟩
  have hix:ixD (.tup (Tm.ds ps)) (.int (j:Nat)) S1= .ok ps[j].d S1:=by
   have h2:atI (Tm.ds ps) (j:Nat)=some ps[j].d:=by
    unfold atI ixN
    rw[if_pos (by omega),if_pos (by rw[Tm.ds_len];omega)]
    simp[Tm.ds_map,hjl]
   unfold ixD;simp only[h2]
  rw[hix,sat_ok,sub_int,sat_ok,show(((L+1:Nat):Int)-1)=(L:Int) by omega]
  have h2:HoR n p hq fq e hs gs (c+cst ps wt b (j+1)+ps[j].size) us1 S0 S1:=h1.less (by
   unfold cst
   rw[sizes_drop hjl];omega)
  refine h2.one hk ap (hg _ (List.getElem_mem hjl)) hn hL fun u S2 g1 g2 g3 g4 fr h3=> ?_
  have q2:=fr.fr _ _ (by omega) (by omega) (by omega) (by omega) q1
  rw[L3.append_obj q2]
  obtain⟨s1,s2⟩:=rests_snoc us1 u
  rw[g2] at s1 s2
  simp only[Bool.false_eq_true,if_false] at s1 s2
  refine⟨hsz us1 hr11 (by rw[p1];have:=I.pl;omega),?_⟩
  refine hN (us1++ [u]) _ ⟨by rw[s1];simpa using r1,by rw[s2,p1];have:=I.pl;omega,fun hw=>by rw[s2,p1,I.al hw];omega,?_,?_,by rw[sizes_snoc,sizes_take hjl];omega,h3.put _ hq0 hlt,?_⟩
  ·intro v hv
   rcases List.mem_append.mp hv with hv|hv
   ·exact ok1 v hv
   ·rw[List.mem_singleton] at hv;rw[hv];exact g1
  ·rw[Tm.deps_app];simp[Tm.deps];omega
  ·rw[List.getElem?_set_self (List.getElem?_eq_some_iff.mp q2).1,Tm.ds_app];rfl
 cases hw:wt with
 |false=>
  subst hw
  rw[if_neg (by simp)]
  simp only[Bool.not_false,if_true]
  exact part
 |true=>
  subst hw
  rw[if_pos rfl]
  simp only[sat_tOfE,sat_eChain,sat_eVar,List.getElem?_cons_succ,List.getElem?_cons_zero]
  rw[le_int,sat_ok,blD_bl,sat_ok]
  split
  ·rw[lt_int,sat_ok,blD_bl,sat_ok]
   split
   ·exact part
   ·rw[ssat_skip];exact skip (.inr rfl)
  ·rw[blD_bl,sat_ok]
   simp only[Bool.not_false,if_true]
   exact part
end
end L3.Wy
namespace L3.Wy
open PySem L2 L3
theorem nn_no {w:Str} {S:Store} (h:w ∈ (["row","plus","times","most","say","less","below","if","let","each"] :List Str)):inD (.str w) (.tup [.str "name", .str "num"]) S= .ok (.bl false) S:=by
 simp only[List.mem_cons,List.not_mem_nil,or_false] at h
 rcases h with rfl|rfl|rfl|rfl|rfl|rfl|rfl|rfl|rfl|rfl<;>kernel_rfl
theorem rows_ps {w:Str} (h:w ∈ (["plus","times","most","row"] :List Str)):∃mo,pshape w=some (0,mo,(if w= "row" then 2 else 1),false)∧(w≠ "row" →mo=4)∧(w= "row" →mo=6):=by
 simp only[List.mem_cons,List.not_mem_nil,or_false] at h
 rcases h with rfl|rfl|rfl|rfl
 ·exact⟨4,by decide +kernel,fun _=>rfl,fun h=>absurd h (by decide +kernel)⟩
 ·exact⟨4,by decide +kernel,fun _=>rfl,fun h=>absurd h (by decide +kernel)⟩
 ·exact⟨4,by decide +kernel,fun _=>rfl,fun h=>absurd h (by decide +kernel)⟩
 ·exact⟨6,by decide +kernel,fun h=>absurd rfl h,fun _=>rfl⟩
theorem heap_shape {w:Str} (h:w= "plus" ∨w= "times" ∨w= "most"):Q.shape4 w=some (1,4,false):=by rcases h with rfl|rfl|rfl<;>decide +kernel
theorem isHoledW {tk pk hl hd:FN} (ht:IsTake tk) (hp:IsPick2 pk) (hh:IsHole hl) {L:Nat} (ihd:∀L',L=L'+1→HoledOk hd L'):HoledOk (run 5 17 (mHoledW tk pk hl hd)) L:=fun n p hq fq e S hs gs fs c t nm ap ho hg hn hL=>by
 have sp:=Tm.size_pos t
 cases t with
 |num i=>exact leafW ht hp hh ap (ho.less (Nat.le_refl _) (by omega)) hg hn (.inl ⟨i,rfl⟩)
 |nam s=>exact leafW ht hp hh ap (ho.less (Nat.le_refl _) (by omega)) hg hn (.inr ⟨s,rfl⟩)
 |nd w m ps=>
 cases hg with
 | @nd _ _ _ f mo g hs4 h1 h2 h3 h4 h5=>
 have cat:=shape4_pshape hs4
 have hsz:(Tm.nd w m ps).size=1+Tm.sizes ps:=rfl
 rw[hsz] at ho
 have hwl:w ∈ (["row","plus","times","most","say","less","below","if","let","each"] :List Str):=by
  rcases cat with⟨c,_⟩|⟨c,_⟩|⟨c,_⟩
  ·rcases c with rfl|rfl<;>simp
  ·simp only[List.mem_cons,List.not_mem_nil,or_false] at c ⊢
   rcases c with h|h|h|h<;>simp[h]
  ·simp only[List.mem_cons,List.not_mem_nil,or_false] at c ⊢
   rcases c with h|h|h|h<;>simp[h]
 have hwok:PyData.strOk w=true:=(by decide +kernel:∀w ∈ (["row","plus","times","most","say","less","below","if","let","each"] :List Str),PyData.strOk w=true) w hwl
 have hps5:ps.length≤5:=by
  have:∀ {w':Str} {f mo:Nat} {g:Bool},Q.shape4 w'=some (f,mo,g)→mo≤5:=fun h=>by
   unfold Q.shape4 at h
   repeat' split at h
   all_goals first|(cases h;decide)|cases h
  have:=this hs4
  omega
 rw[sat_run]
 refine⟨rfl,?_⟩
 unfold mHoledW
 simp only[List.map_cons,List.map_nil,List.cons_append,List.nil_append,List.length_cons,List.length_nil,List.replicate,Nat.zero_add,Nat.reduceAdd,Nat.reduceSub]
 refine step_asg (S1:=S) (S2:=S) (d:=(Tm.nd w m ps).d) (env':= [some (.obj n),some (.obj p),some (Tm.nd w m ps).d,some nm,some (.int L),some (.str w),some (.str m),some (.tup (Tm.ds ps)),none,none,none,none,none,none,none,none,none]) rfl rfl ?_
 refine step_no (S1:=S) ?_ ?_
 ·apply of_sat
  simp only[sat_tOfE,sat_e2,sat_eVar,sat_eN,sat_aCons,sat_aNil,sat_eK,sat_mkTup,List.getElem?_cons_succ,List.getElem?_cons_zero]
  refine⟨of_eq_true sz2,?_⟩
  rw[nn_no hwl,sat_ok,blD_bl,sat_ok]
  exact⟨rfl,rfl⟩
 refine step_asg (S1:=S) (S2:=S) (d:= .int (ps.length:Nat)) (env':= [some (.obj n),some (.obj p),some (Tm.nd w m ps).d,some nm,some (.int L),some (.str w),some (.str m),some (.tup (Tm.ds ps)),some (.int (ps.length:Nat)),none,none,none,none,none,none,none,none]) ?_ rfl ?_
 ·apply of_sat
  simp only[sat_eN,sat_aCons,sat_aNil,sat_eVar,List.getElem?_cons_succ,List.getElem?_cons_zero]
  rw[len_tup,sat_ok,Tm.ds_len]
  exact⟨rfl,rfl⟩
 refine seq_rule (fun e' S1=>e'= [some (.obj n),some (.obj p),some (Tm.nd w m ps).d,some nm,some (.int L),some (.str w),some (.str m),some (.tup (Tm.ds ps)),some (.int (ps.length:Nat)),none,none,none,none,none,none,none,none] ∧Ho n p hq fq e hs gs fs (c+(1+Tm.sizes ps)) S1∧FrP n p hq fq S S1) ?_ ?_
 ·rw[ssat_if]
  simp only[sat_tOfE,sat_e2,sat_eVar,sat_eN,sat_aCons,sat_aNil,sat_eK,sat_mkTup,List.getElem?_cons_succ,List.getElem?_cons_zero]
  refine⟨of_eq_true sz3,?_⟩
  obtain⟨hb,eb,hheap⟩:=in_heap w hwok S
  rw[eb,sat_ok,blD_bl,sat_ok]
  cases hb with
  |false=>rw[if_neg (by simp),ssat_skip];exact⟨rfl,ho, .refl⟩
  |true=>
   rw[if_pos rfl,ssat_asg]
   have hs':=heap_shape (hheap rfl)
   rw[hs4] at hs'
   cases hs'
   obtain⟨r,_,pt⟩:=ho.pt
   simp only[sat_e2,sat_eN,sat_aCons,sat_aNil,sat_eVar,sat_eK,sat_mkLst,List.getElem?_cons_succ,List.getElem?_cons_zero]
   rw[pt.room,sat_ok]
   refine⟨of_eq_true sz5,?_⟩
   obtain⟨k,k0,k1,ek⟩:∃k:Int,0≤k∧k≤24∧ixD (.lst [.int 1, .int 1, .int 2, .int 6, .int 24]) (.int (ps.length:Nat)) S= .ok (.int k) S:=by
    have:ps.length=0∨ps.length=1∨ps.length=2∨ps.length=3∨ps.length=4:=by omega
    rcases this with h|h|h|h|h<;>rw[h]
    ·exact⟨1,by decide,by decide,by kernel_rfl⟩
    ·exact⟨1,by decide,by decide,by kernel_rfl⟩
    ·exact⟨2,by decide,by decide,by kernel_rfl⟩
    ·exact⟨6,by decide,by decide,by kernel_rfl⟩
    ·exact⟨24,by decide,by decide,by kernel_rfl⟩
   rw[ek,sat_ok,mul_int]
   refine⟨by unfold mulOk;simp only[decide_eq_true_eq];left;right;omega,?_⟩
   rw[gsub_eq (o:= .obj p) (i:= .str "ways") (by simp[eVar]) (by simp[eK]) pt.setR,ssat_nx]
   exact⟨rfl,⟨⟨_,trivial,pt.room_to ap _⟩,ho.gh,ho.ps,ho.len⟩, .set _ (.inl rfl)⟩
 rintro e' S1 ⟨rfl,ho1,fr1⟩
 refine seq_rule (fun e' S2=>e'= [some (.obj n),some (.obj p),some (Tm.nd w m ps).d,some nm,some (.int L),some (.str w),some (.str m),some (.tup (Tm.ds ps)),some (.int (ps.length:Nat)),none,none,none,none,none,none,none,none] ∧(∃ L',L=L'+1)∧Ho n p hq fq e hs gs fs (c+(1+Tm.sizes ps)) S2∧FrP n p hq fq S S2) ?_ ?_
 ·have hole:∀S2,Ho n p hq fq e hs gs fs (c+(1+Tm.sizes ps)) S2→FrP n p hq fq S S2→((sRet (eN (callK hl []) (aCons (eVar 0) (aCons (eVar 1) (aCons (eK (.str "any")) (aNil)))))) [some (.obj n),some (.obj p),some (Tm.nd w m ps).d,some nm,some (.int L),some (.str w),some (.str m),some (.tup (Tm.ds ps)),some (.int (ps.length:Nat)),none,none,none,none,none,none,none,none] S2).sat (fun _ _=>False) (Done n p hq fq e hs gs c L (Tm.nd w m ps).size S) (fun _ _=>False) (fun _ _=>False):=by
   intro S2 h f
   rw[ssat_sRet]
   simp only[sat_eN,sat_aCons,sat_aNil,sat_eVar,sat_eK,List.getElem?_cons_succ,List.getElem?_cons_zero,callK_eq,List.append_nil]
   exact sat_mono (hole_r hh ap (h.less (c':=c+1) (Nat.le_refl _) (by omega)) (by decide +kernel) (by decide +kernel) sp) fun d S3 h=>h.pre f
  obtain⟨r,_,pt⟩:=ho1.pt
  rw[ssat_if,sat_tOr]
  simp only[sat_tOfE,sat_e2,sat_eVar,sat_eK,List.getElem?_cons_succ,List.getElem?_cons_zero]
  rw[eq_int,sat_ok,blD_bl,sat_ok]
  by_cases hL0:(L:Int)=0
  ·rw[if_pos (decide_eq_true hL0)]
   exact ssat_mono (hole S1 ho1 fr1) (fun _ _ h=>h.elim) (fun _ _ h=>h) (fun _ _ h=>h.elim) fun _ _ h=>h.elim
  rw[if_neg (by simpa using hL0),sat_tOr]
  simp only[sat_tOfE,sat_e2,sat_eVar,sat_eK,List.getElem?_cons_succ,List.getElem?_cons_zero]
  rw[pt.room,sat_ok,gt_int,sat_ok,blD_bl,sat_ok]
  split
  ·exact ssat_mono (hole S1 ho1 fr1) (fun _ _ h=>h.elim) (fun _ _ h=>h) (fun _ _ h=>h.elim) fun _ _ h=>h.elim
  simp only[sat_tOfE,sat_e2,sat_eN,sat_aCons,sat_aNil,sat_eVar,sat_eK,List.getElem?_cons_succ,List.getElem?_cons_zero,callK_eq,List.append_nil]
  refine sat_mono (ht n S1 5 ho1.hand (by decide) (by decide)) ?_
  rintro d S2 ⟨⟨z,rfl,_,_⟩,f2⟩
  rw[eq_int,sat_ok,blD_bl,sat_ok]
  split
  ·exact ssat_mono (hole S2 (ho1.of ap f2) (fr1.trans (.of f2))) (fun _ _ h=>h.elim) (fun _ _ h=>h) (fun _ _ h=>h.elim) fun _ _ h=>h.elim
  ·rw[ssat_skip]
   exact⟨rfl,⟨L-1,by omega⟩,ho1.of ap f2,fr1.trans (.of f2)⟩
 rintro e' S2 ⟨rfl,⟨L',rfl⟩,ho2,fr2⟩
 have hdk:=ihd L' rfl
 have hcast:(((L'+1:Nat):Int)-1)=(L':Int):=by omega
 have lts:=(show n<S2.length∧p<S2.length∧hq<S2.length∧fq<S2.length from by obtain⟨r,_,pt⟩:=ho2.pt;exact pt.lt)
 rcases cat with⟨cw,rfl,rfl,rfl,hps⟩|cat
 ·
  have hwr:w≠ "rest" :=by rcases cw with rfl|rfl<;>decide +kernel
  have hgiv:w ∈ GIV:=by rcases cw with rfl|rfl<;>decide +kernel
  refine step_yes (S1:=S2) ?_ (seq_done ?_)
  ·apply of_sat
   simp only[sat_tOfE,sat_e2,sat_eVar,sat_eN,sat_aCons,sat_aNil,sat_eK,sat_mkTup,List.getElem?_cons_succ,List.getElem?_cons_zero]
   refine⟨of_eq_true sz2,?_⟩
   rw[in_le cw,sat_ok,blD_bl,sat_ok]
   exact⟨rfl,rfl⟩
  obtain⟨t1,t2,rfl⟩:∃t1 t2,ps= [t1,t2] :=by
   have hl2:ps.length=2:=by omega
   match ps,hl2 with
   | [a,b],_=>exact⟨a,b,rfl⟩
  have hsz2:Tm.sizes [t1,t2] =t1.size+t2.size:=by simp[Tm.sizes]
  rw[hsz2] at ho2
  obtain⟨fr0,fs0,rfl,okf,ep,ho4⟩:=(ho2.less (c':=c+t2.size+t1.size+1) (Nat.le_refl _) (by omega)).own ap
  obtain⟨nm2,hn2,en2⟩:=hn.add m fr0 okf
  obtain⟨r,_,pt⟩:=ho2.pt
  rw[ssat_seq,ssat_asg]
  simp only[sat_eBM,sat_e2,sat_eVar,sat_eK,sat_aCons,sat_aNil,List.getElem?_cons_succ,List.getElem?_cons_zero]
  rw[pt.fresh,sat_ok]
  refine⟨mtD_obj pt.fr,?_⟩
  rw[ep,sat_ok]
  simp only[gName_eq,ssat_nx,List.set_cons_succ,List.set_cons_zero]
  rw[ssat_seq,ssat_asg]
  simp only[sat_eN,sat_aCons,sat_aNil,sat_e2,sat_eVar,sat_eK,List.getElem?_cons_succ,List.getElem?_cons_zero,callK_eq,List.append_nil]
  rw[show ∀S,ixD (D.tup (Tm.ds [t1,t2])) (D.int 0) S= .ok t1.d S from fun _=>rfl,sat_ok,sub_int,sat_ok,hcast]
  have st:=HoR.start ho4
  refine st.one hdk ap (h5 t1 (by simp)) (hn.less (by omega)) (by omega) fun u1 S5 b1 b2 b3 b5 _ b4=> ?_
  simp only[gName_eq,ssat_nx,List.set_cons_succ,List.set_cons_zero]
  rw[ssat_seq,ssat_asg]
  simp only[sat_eN,sat_aCons,sat_aNil,sat_e2,sat_e1,sat_eVar,sat_mkTup,sat_mkLst,List.getElem?_cons_succ,List.getElem?_cons_zero]
  have nms:∀(S:Store) (Q:D→Store→Prop),Q nm2 S→(litemsD nm S).sat fun x S1=>(addD x (D.lst [D.tup [D.str m,D.str fr0]]) S1).sat fun x S1=>(dictPV [x] S1).sat Q:=fun S Q q=>by
   have:=to_sat (en2 S) q
   rw[sat_bind] at this
   simp only[sat_bind] at this
   exact this
  have e2':∀(S:Store) (Q:D→Store→Prop),Q nm2 S→(litemsD nm S).sat fun x S1=> [D.str m,D.str fr0].length≤sizeLine∧ [D.tup [D.str m,D.str fr0]].length≤sizeLine∧(addD x (D.lst [D.tup [D.str m,D.str fr0]]) S1).sat fun x S1=>(dictPV [x] S1).sat Q:=fun S Q q=>sat_mono (nms S Q q) fun x S1 h=>⟨of_eq_true sz2,of_eq_true sz1,h⟩
  refine e2' S5 _ ?_
  simp only[gName_eq,ssat_nx,List.set_cons_succ,List.set_cons_zero]
  rw[ssat_sRet]
  simp only[sat_eN,sat_aCons,sat_aNil,sat_e2,sat_eVar,sat_eK,sat_mkTup,List.getElem?_cons_succ,List.getElem?_cons_zero,callK_eq,List.append_nil]
  rw[show ∀S,ixD (D.tup (Tm.ds [t1,t2])) (D.int 1) S= .ok t2.d S from fun _=>rfl,sat_ok,sub_int,sat_ok,hcast]
  refine b4.one hdk ap (h5 t2 (by simp)) hn2 (by omega) fun u2 S6 c1 c2 c3 c5 _ c4=> ?_
  obtain⟨⟨hx,fs',a1,a2⟩,hfr⟩:=c4
  refine⟨of_eq_true sz2,of_eq_true sz3, .nd w fr0 [u1,u2],rfl, .nd hps (by
   obtain⟨q1,q2⟩:=plains_all (us:= [u1,u2]) fun u hu=>by
    simp only[List.mem_cons,List.not_mem_nil,or_false] at hu
    rcases hu with rfl|rfl
    ·exact b2
    ·exact c2
   simp at q1 q2;omega) (by
   obtain⟨q1,q2⟩:=plains_all (us:= [u1,u2]) fun u hu=>by
    simp only[List.mem_cons,List.not_mem_nil,or_false] at hu
    rcases hu with rfl|rfl
    ·exact b2
    ·exact c2
   simp at q1 q2;omega) (by
   obtain⟨q1,q2⟩:=plains_all (us:= [u1,u2]) fun u hu=>by
    simp only[List.mem_cons,List.not_mem_nil,or_false] at hu
    rcases hu with rfl|rfl
    ·exact b2
    ·exact c2
   simp at q1 q2;omega) (fun _=>okf) (fun h=>by cases h) (fun u hu=>by
   simp only[List.mem_cons,List.not_mem_nil,or_false] at hu
   rcases hu with rfl|rfl
   ·exact b1
   ·exact c1),by simp[isRest,Tm.word,hwr],by simp only[Tm.dep,Tm.deps];omega,by simp only[Tm.size,Tm.sizes];omega,⟨⟨hx,fs',?_,?_⟩,(fr2.trans (.set _ (.inr (.inr rfl)))).trans hfr⟩⟩
  ·rw[gvs_one]
   simp only[Tm.gv,hgiv,if_true]
   simpa using a1
  ·rw[hls_one]
   obtain⟨_,hwh,_⟩:=pshape_word hps
   simpa[Tm.hl,hwh] using a2
 ·
  have hno:w ∈ (["row","plus","times","most","say","less","below","if"] :List Str):=by
   rcases cat with⟨c,_⟩|⟨c,_⟩
   ·simp only[List.mem_cons,List.not_mem_nil,or_false] at c ⊢
    rcases c with h|h|h|h<;>simp[h]
   ·simp only[List.mem_cons,List.not_mem_nil,or_false] at c ⊢
    rcases c with h|h|h|h<;>simp[h]
  have hwn:w ∉ HW∧w ∉ GIV∧w≠ "rest" :=(by decide +kernel:∀w ∈ (["row","plus","times","most","say","less","below","if"] :List Str),w ∉ HW∧w ∉ GIV∧w≠ "rest") w hno
  refine step_no (S1:=S2) ?_ ?_
  ·apply of_sat
   simp only[sat_tOfE,sat_e2,sat_eVar,sat_eN,sat_aCons,sat_aNil,sat_eK,sat_mkTup,List.getElem?_cons_succ,List.getElem?_cons_zero]
   refine⟨of_eq_true sz2,?_⟩
   rw[in_le_no hno,sat_ok,blD_bl,sat_ok]
   exact⟨rfl,rfl⟩
  refine seq_rule (fun e' S3=>∃b:Nat,e'= [some (.obj n),some (.obj p),some (Tm.nd w m ps).d,some nm,some (.int ((L'+1:Nat):Int)),some (.str w),some (.str m),some (.tup (Tm.ds ps)),some (.int (ps.length:Nat)),none,none,none,some (.obj S2.length),some (.int (b:Nat)),none,none,none] ∧b≤ps.length∧HoR n p hq fq e hs gs (c+(1+Tm.sizes ps)) [] S2 S3∧S3[S2.length]? =some (.lst [])) ?_ ?_
  ·rw[ssat_par]
   simp only[sat_eN,sat_aCons,sat_aNil,sat_e2,sat_eVar,sat_eK,sat_mkObj,List.getElem?_cons_succ,List.getElem?_cons_zero,callK_eq,List.append_nil]
   refine⟨of_eq_true sz0,?_⟩
   rw[add_int,sat_ok]
   have h0:HoR n p hq fq e hs gs (c+(1+Tm.sizes ps)) [] S2 (S2++ [.lst []]):=(HoR.start ho2).more _
   rw[show ((ps.length:Nat):Int)+1=((ps.length+1:Nat):Int) by omega]
   refine sat_mono (ht n _ _ h0.hand (by omega) (by omega)) ?_
   rintro d S3 ⟨⟨z,rfl,z0,z1⟩,f3⟩
   obtain⟨b,rfl⟩:∃b:Nat,z=b:=⟨z.toNat,by omega⟩
   simp only[gNames_cons,gNames_nil,ssat_nx,List.set_cons_succ,List.set_cons_zero]
   exact⟨b,rfl,by omega,h0.of ap f3,f3.fr _ _ (by omega) (by simp)⟩
  rintro e' S3 ⟨b,rfl,hb,h3,q3⟩
  refine seq_rule (fun e' S4=>∃en:Int,e'= [some (.obj n),some (.obj p),some (Tm.nd w m ps).d,some nm,some (.int ((L'+1:Nat):Int)),some (.str w),some (.str m),some (.tup (Tm.ds ps)),some (.int (ps.length:Nat)),none,none,none,some (.obj S2.length),some (.int (b:Nat)),some (.int en),none,none] ∧HoR n p hq fq e hs gs (c+(1+Tm.sizes ps)) [] S2 S4∧S4[S2.length]? =some (.lst [])) ?_ ?_
  ·rw[ssat_asg]
   simp only[sat_eN,sat_aCons,sat_aNil,sat_e2,sat_eVar,sat_eK,List.getElem?_cons_succ,List.getElem?_cons_zero,callK_eq,List.append_nil]
   rw[add_int,sat_ok,sub_int,sat_ok]
   rw[show ((ps.length:Nat):Int)+1-(b:Int)=((ps.length+1-b:Nat):Int) by omega]
   refine sat_mono (ht n _ _ h3.hand (by omega) (by omega)) ?_
   rintro d S4 ⟨⟨z,rfl,z0,z1⟩,f4⟩
   rw[add_int,sat_ok]
   simp only[gName_eq,ssat_nx,List.set_cons_succ,List.set_cons_zero]
   exact⟨_,rfl,h3.of ap f4,f4.fr _ _ (by omega) q3⟩
  rintro e' S4 ⟨en,rfl,h4',q4⟩
  refine seq_rule (fun e' S5=>∃wt:Bool,e'=envP n p L' S2.length b en wt (Tm.nd w m ps).d nm w m ps none∧(wt=true→w ∈ (["plus","times","most","row"] :List Str))∧HoR n p hq fq e hs gs (c+(1+Tm.sizes ps)) [] S2 S5∧S5[S2.length]? =some (.lst [])) ?_ ?_
  ·rw[ssat_asg,sat_eAnd]
   simp only[sat_e2,sat_eVar,sat_eN,sat_aCons,sat_aNil,sat_eK,sat_mkTup,List.getElem?_cons_succ,List.getElem?_cons_zero]
   refine⟨of_eq_true sz4,?_⟩
   rw[in_rows w hwok,sat_ok,blD_bl,sat_ok]
   by_cases hr:w ∈ (["plus","times","most","row"] :List Str)
   ·rw[decide_eq_true hr,if_pos rfl]
    simp only[sat_e2,sat_eVar,sat_eN,sat_aCons,sat_aNil,sat_eK,List.getElem?_cons_succ,List.getElem?_cons_zero,callK_eq,List.append_nil]
    refine sat_mono (ht n _ 2 h4'.hand (by decide) (by decide)) ?_
    rintro d S5 ⟨⟨z,rfl,z0,z1⟩,f5⟩
    rw[eq_int,sat_ok]
    simp only[gName_eq,ssat_nx,List.set_cons_succ,List.set_cons_zero]
    exact⟨decide (z=0),rfl,fun _=>hr,h4'.of ap f5,f5.fr _ _ (by omega) q4⟩
   ·rw[decide_eq_false hr,if_neg (by simp)]
    simp only[gName_eq,ssat_nx,List.set_cons_succ,List.set_cons_zero]
    exact⟨false,rfl,fun h=>(by cases h),h4',q4⟩
  rintro e' S5 ⟨wt,rfl,hwt,h5',q5⟩
  refine seq_rule (fun e' S6=>∃(us:List Tm) (a16:Option D),e'=envP n p L' S2.length b en wt (Tm.nd w m ps).d nm w m ps a16∧InvP n p hq fq e hs gs c L' S2 ps S2.length b wt (ps.length+1) us S6) ?_ ?_
  ·rw[ssat_for,sat_iArgs]
   simp only[envP,sat_aCons,sat_aNil,sat_e2,sat_eVar,sat_eK,List.getElem?_cons_succ,List.getElem?_cons_zero]
   rw[add_int,sat_ok,show((ps.length:Nat):Int)+1=((ps.length+1:Nat):Int) by omega]
   simp only[sat_range1]
   refine⟨by simp[okRng];omega,?_⟩
   refine for_rule (fun j e' S6=>∃(us:List Tm) (a16:Option D),e'=envP n p L' S2.length b en wt (Tm.nd w m ps).d nm w m ps a16∧InvP n p hq fq e hs gs c L' S2 ps S2.length b wt j us S6) ⟨[],none,rfl,?_⟩ ?_ ?_
   ·refine⟨by simp[rests],by simp[plains],fun _=>by simp[plains],by simp,by simp[Tm.deps],by simp[Tm.sizes],?_,by simpa[Tm.ds] using q5⟩
    refine h5'.less ?_
    unfold cst
    split<;>simp<;>omega
   ·rintro j hj e' S6 ⟨us,a16,rfl,I⟩
    have hj':j<ps.length+1:=by simpa using hj
    rw[rangeD_get hj,gName_eq,ssat_nx]
    simp only[envP,List.set_cons_succ,List.set_cons_zero,Int.zero_add]
    refine parts_ok (en:=en) (td:=(Tm.nd w m ps).d) (w:=w) (m:=m) hh hdk ap (by omega) h5 hps5 (hn.less (by omega)) (Nat.le_refl _) lts hb hj' I fun us' S' I'=>⟨us',_,rfl,I'⟩
   ·rintro e' S6 ⟨us,a16,rfl,I⟩
    rw[rangeD_len] at I
    exact⟨us,a16,rfl,by simpa using I⟩
  rintro e' S6 ⟨us,a16,rfl,I⟩
  rw[ssat_sRet]
  simp only[envP,sat_eN,sat_aCons,sat_aNil,sat_eVar,sat_eK,sat_mkTup,List.getElem?_cons_succ,List.getElem?_cons_zero]
  rw[tuple_obj I.q,sat_ok]
  refine⟨of_eq_true sz3,?_⟩
  have hr:=I.rs
  have hpl:=I.pl
  have hal:=I.al
  have hra:rests us≤1:=Nat.le_trans hr (by split<;>omega)
  have pg:PG (.nd w "" us):=by
   by_cases hrow:w ∈ (["plus","times","most","row"] :List Str)
   ·obtain⟨mo',e1,e2,e3⟩:=rows_ps hrow
    have hmo:plains us≤mo':=by
     by_cases hw:w= "row"
     ·rw[e3 hw];omega
     ·rw[e2 hw]
      have hh':w= "plus" ∨w= "times" ∨w= "most" :=by
       simp only[List.mem_cons,List.not_mem_nil,or_false] at hrow
       rcases hrow with h|h|h|h
       ·exact .inl h
       ·exact .inr (.inl h)
       ·exact .inr (.inr h)
       ·exact absurd h hw
      have hs':=heap_shape hh'
      rw[hs4] at hs'
      cases hs'
      omega
    exact .nd e1 (Nat.zero_le _) hmo (by split<;>omega) (fun h=>(by cases h)) (fun _=>rfl) I.ok
   ·have hwf:wt=false:=by
     cases wt with
     |false=>rfl
     |true=>exact absurd (hwt rfl) hrow
    rcases cat with⟨c',_⟩|⟨_,hps,rfl⟩
    ·refine absurd ?_ hrow
     simp only[List.mem_cons,List.not_mem_nil,or_false] at c' ⊢
     rcases c' with h|h|h|h<;>simp[h]
    ·have hp:=hal hwf
     have hr0:rests us=0:=by
      rw[hwf] at hr
      simpa using hr
     exact .nd hps (by omega) (by omega) (by omega) (fun h=>(by cases h)) (fun _=>rfl) I.ok
  obtain⟨⟨hx,fs',a1,a2⟩,hfr⟩:=I.ho
  refine⟨.nd w "" us,rfl,pg,by simp[isRest,Tm.word,hwn.2.2],by simp only[Tm.dep];have:=I.dp;omega,by
   have h1:=I.sz
   rw[List.take_of_length_le (by omega)] at h1
   simp only[Tm.size]
   have:(if wt=true∧b<ps.length+1 then 1 else 0)≤1:=by split<;>omega
   omega,⟨⟨hx,fs',?_,?_⟩,fr2.trans hfr⟩⟩
  ·rw[gvs_one]
   have:(Tm.nd w "" us).gv=Tm.gvs us:=by simp[Tm.gv,hwn.2.1]
   rw[this];exact a1.less (Nat.le_refl _) (by omega)
  ·rw[hls_one]
   have:(Tm.nd w "" us).hl=Tm.hls us:=by simp[Tm.hl,hwn.1]
   rw[this];exact a2
end L3.Wy
namespace L3.Wy
open PySem L2 L3
def mNodesW (f:FN):SD:=
    sSeq (sAsg (eN mkObj (aCons (eVar 0) (aNil))) (gName 1))
    (sSeq (sFor (iSeq (e2 ixD (eVar 0) (eK (.int 2)))) (gName 2) (sExpr (eBM "list" extendD (eVar 1) (aCons (eN (callK f []) (aCons (eVar 2) (aNil))) (aNil)))))
    (sRet (e1 frzD (eVar 1))))
def IsNo (f:FN) (k:Nat):Prop:=∀(t:Tm) (S:Store),t.dep≤k→t.size≤900→(f [t.d] S).sat fun d S'=>d= .lst (Tm.ds t.nodes)∧Grow S S'
theorem isNo0 (f:FN):IsNo f 0:=fun t S h=>by have:=t.dep_pos;omega
theorem nodes_loop (f:FN) {q:Nat} {S0:Store} :∀ {us acc:List Tm} {S:Store} {env:EnvD} {T:D→Store→Prop} {N B C:EnvD→Store→Prop},(∀ t ∈ us,∀S,(f [t.d] S).sat fun d S'=>d= .lst (Tm.ds t.nodes)∧Grow S S')→
 S[q]? =some (.lst (Tm.ds acc))→S0.length≤q→Grow S0 S→env[1]? =some (some (.obj q))→env.length=3→acc.length+Tm.sizes us≤1000→
 (∀ env' S',env'[1]? =some (some (.obj q))→S'[q]? =some (.lst (Tm.ds (acc++Tm.nodesL us)))→Grow S0 S'→N env' S')→
 (forL (gName 2) (sExpr (eBM "list" extendD (eVar 1) (aCons (eN (callK f []) (aCons (eVar 2) (aNil))) (aNil)))) (Tm.ds us) env S).sat N T B C
 | [],acc,S,env,T,N,B,C,hf,hq,hle,gr,he,hl,hz,hN=>by
   simp only[Tm.ds]
   rw[forL_nil]
   refine hN _ _ he ?_ gr
   simpa[Tm.nodesL] using hq
 |t::us,acc,S,env,T,N,B,C,hf,hq,hle,gr,he,hl,hz,hN=>by
  simp only[Tm.ds,Tm.sizes] at hz ⊢
  obtain⟨x0,x1,x2,rfl⟩:∃x0 x1 x2,env= [x0,x1,x2] :=by
   match env,hl with
   | [x0,x1,x2],_=>exact⟨_,_,_,rfl⟩
  have he:x1=some (.obj q):=by simpa using he
  subst he
  rw[forL_cons]
  simp only[gName_eq,ssat_nx,List.set_cons_succ,List.set_cons_zero]
  rw[ssat_sExpr]
  simp only[sat_eBM,sat_eN,sat_aCons,sat_aNil,sat_eVar,List.getElem?_cons_succ,List.getElem?_cons_zero,callK_eq,List.append_nil]
  refine⟨mtD_obj hq,?_⟩
  refine sat_mono (hf t (by simp) S) ?_
  rintro x S2 ⟨rfl,g2⟩
  have hq2:=g2.fr _ _ hq
  have hnl:=Tm.nodes_len t
  refine extend_obj hq2 (small (by rw[Tm.ds_len,Tm.ds_len];omega)) ?_
  rw[← Tm.ds_app]
  refine nodes_loop f (us:=us) (acc:=acc++t.nodes) (fun u hu=>hf u (by simp[hu])) ?_ hle ((gr.trans g2).put hle _) rfl rfl (by rw[List.length_append];omega) ?_
  ·rw[List.getElem?_set_self (List.getElem?_eq_some_iff.mp hq2).1]
  ·intro env' S' a1 a2 a3
   refine hN env' S' a1 ?_ a3
   rw[a2];simp[Tm.nodesL]
theorem isNo {f:FN} {k:Nat} (hf:IsNo f k):IsNo (run 1 3 (mNodesW f)) (k+1):=fun t S hd hs=>by
 rw[sat_run]
 refine⟨rfl,?_⟩
 unfold mNodesW
 simp only[List.map_cons,List.map_nil,List.cons_append,List.nil_append,List.length_cons,List.length_nil,List.replicate,Nat.zero_add,Nat.reduceAdd,Nat.reduceSub]
 have hse:=Tm.size_eq t
 have hde:=Tm.dep_eq t
 rw[ssat_seq,ssat_asg]
 simp only[sat_eN,sat_aCons,sat_aNil,sat_eVar,sat_mkObj,List.getElem?_cons_zero]
 refine⟨of_eq_true sz1,?_⟩
 simp only[gName_eq,ssat_nx,List.set_cons_succ,List.set_cons_zero]
 rw[ssat_seq,ssat_for,sat_iSeq]
 simp only[sat_e2,sat_eVar,sat_eK,List.getElem?_cons_zero]
 rw[show ixD t.d (.int 2) (S++ [.lst [t.d]])= .ok (.tup (Tm.ds t.parts)) (S++ [.lst [t.d]]) by rw[Tm.d_eq];rfl,sat_ok,itemsD_tup,sat_ok]
 refine nodes_loop (S0:=S) f (q:=S.length) (us:=t.parts) (acc:= [t]) (fun u hu S=> ?_) (by simp[Tm.ds]) (Nat.le_refl _) (Grow.app S _) rfl rfl (by simp;omega) fun env' S' a1 a2 a3=> ?_
 ·have h1:=Tm.deps_le.mp (Nat.le_refl (Tm.deps t.parts)) u hu
  have h2:=Tm.sizes_mem hu
  exact hf u S (by omega) (by omega)
 ·rw[ssat_sRet,sat_e1]
  simp only[sat_eVar,a1]
  have hn: [t] ++Tm.nodesL t.parts=t.nodes:=by rw[Tm.nodes_eq];rfl
  rw[hn] at a2
  have:frzD (.obj S.length) S'= .ok (.lst (Tm.ds t.nodes)) (S'.set S.length .dead):=by unfold frzD;simp only[a2]
  rw[this,sat_ok]
  exact⟨rfl,a3.put (Nat.le_refl _) _⟩
end L3.Wy
namespace L3.Wy
open PySem L2 L3
local macro_rules| `(tactic| open_k)=> `(tactic| simp only[ssat_seq,ssat_asg,ssat_sRet,ssat_sExpr,ssat_if,ssat_skip,ssat_par,ssat_nx,ssat_ret,ssat_for,sat_e2,sat_e1,sat_eN,sat_aCons,sat_aNil,sat_eVar,sat_eK,sat_tOfE,sat_tTruth,sat_tNot,sat_tAnd,sat_tOr,sat_eIf,sat_eBM,sat_iSeq,sat_iArgs,sat_eAnd,sat_eOr,sat_eNot,sat_eChain,sat_eSl,sat_pNo,sat_pYes,sat_eLc,sat_eKw,sat_mkTup,sat_mkLst,sat_mkObj,sat_ok,callK_eq,List.append_nil,List.map_cons,List.map_nil,List.length_cons,List.length_nil,List.replicate,List.getElem?_cons_succ,List.getElem?_cons_zero,List.cons_append,List.nil_append,List.set_cons_succ,List.set_cons_zero,gName_eq,gTup_tup,gNames_cons,gNames_nil,Nat.zero_add,Nat.reduceAdd,Nat.reduceSub,sz0,sz1,sz2,sz3,sz4,sz5,sz6,sz7,sz8,sz10,sz17,true_and,add_int,sub_int,neg_int,lt_int,le_int,gt_int,ge_int,eq_int,ne_int,blD_bl,truthD_bl,itemsD_lst,itemsD_tup,wipeD,eq_strs,ne_strs,sl_tup,sl_lst,if_true,if_false,Bool.false_eq_true,sat_range1,sat_range2,tuple_lst,tuple_tup,len_tup,len_lst,len_scr,D.int.injEq,exists_eq_left',mt_str])
def mSoughtW (tk pk so th hd no:FN):SD:=
    sSeq (sAsg (eN (callK th []) (aCons (eVar 1) (aCons (eN (callK pk []) (aCons (eVar 0) (aCons (eN (callK so []) (aCons (eVar 1) (aNil))) (aNil)))) (aNil)))) (gName 2))
    (sSeq (sPar [3,4] (aCons (eK (.str "abcdefghijklmnopqrstuvwxyz")) (aCons (eN (callK tk []) (aCons (eVar 0) (aCons (eK (.int 26)) (aNil)))) (aNil))))
    (sSeq (sAsg (eN mkObj (aNil)) (gName 5))
    (sSeq (sFor (iArgs range1 (aCons (eK (.int 60)) (aNil))) (gName 6) (sExpr (eBM "list" appendD (eVar 5) (aCons (e2 addD (e2 addD (eK (.str "hole")) (e2 ixD (eVar 3) (e2 modD (e2 addD (eVar 4) (e2 fdivD (eVar 6) (eK (.int 26)))) (eK (.int 26))))) (e2 ixD (eVar 3) (e2 modD (eVar 6) (eK (.int 26))))) (aNil)))))
    (sSeq (sAsg (eN (callK hd []) (aCons (eVar 0) (aCons (eDct [(eK (.str "ways"),eK (.int 1)),(eK (.str "holes"),eN mkObj (aNil)),(eK (.str "fresh"),eVar 5)]) (aCons (eVar 2) (aCons (eDic0) (aCons (eK (.int 5)) (aNil))))))) (gName 7))
    (sRet (eIf (tOfE (e2 leD (eN lenD (aCons (eN (callK no []) (aCons (eVar 7) (aNil))) (aNil))) (eK (.int 20)))) (eVar 7) (eN mkTup (aCons (eK (.str "any")) (aCons (e2 ixD (eVar 5) (e1 negD (eK (.int 1)))) (aCons (eN mkTup (aNil)) (aNil)))))))))))
def IsSoughtW (so:FN):Prop:=∀(n:Nat) (S:Store) (t:Tm),Hand n S→Q.Good4 t→t.dep≤8→t.size≤59→(so [.obj n,t.d] S).sat fun d S'=>∃u:Tm,d=u.d∧Pat u∧FrH n S S'
def nmW (f k:Nat):Nat:=(f+k / 26) % 26*26+k % 26
def freshW (f j:Nat):List Str:=(List.range j).map fun k=>freshS (nmW f k)
theorem nmW_lt (f k:Nat):nmW f k<676:=by unfold nmW;omega
theorem nmW_inj {f a b:Nat} (ha:a<600) (hb:b<600) (h:nmW f a=nmW f b):a=b:=by unfold nmW at h;omega
theorem freshW_nodup (f:Nat) {j:Nat} (hj:j≤600):(freshW f j).Nodup:=by
 unfold freshW
 rw[List.Nodup,List.pairwise_map]
 refine List.Pairwise.imp_of_mem (R:=fun a b=>a<b) (fun {a b} ha hb hab e=> ?_) List.pairwise_lt_range
 have ha:=List.mem_range.mp ha
 have hb:=List.mem_range.mp hb
 have:=nmW_inj (by omega) (by omega) (freshS_inj (nmW_lt _ _) (nmW_lt _ _) e)
 omega
theorem freshW_fo (f j:Nat):∀s ∈ freshW f j,Fre s:=fun s hs=>by
 obtain⟨k,_,rfl⟩:=List.mem_map.mp hs
 exact⟨_,nmW_lt _ _,rfl⟩
theorem freshW_succ (f j:Nat):freshW f (j+1)=freshW f j++ [freshS (nmW f j)] :=by simp[freshW,List.range_succ]
theorem at_size {u:Tm} :∀ {q:List Nat} {t:Tm},t.at q=some u→u.size≤t.size
 | [],t,e=>by cases e;exact Nat.le_refl _
 |i::q,t,e=>by
  simp only[Tm.at] at e
  cases hp:t.parts[i]? with
  |none=>rw[hp] at e;cases e
  |some v=>
   rw[hp] at e
   have h1:=at_size (q:=q) (t:=v) e
   have h2:=Tm.sizes_mem (List.mem_of_getElem? hp)
   have h3:=Tm.size_eq t
   omega
theorem isSoughtW {tk pk so th hd no:FN} (ht:IsTake tk) (hp:IsPick2 pk) (hso:IsSpots so 8) (hth:IsThere th) (hhd:HoledOk hd 5) (hno:IsNo no 6):IsSoughtW (run 2 8 (mSoughtW tk pk so th hd no)):=fun n S t hS hg hd8 hs59=>by
 have hs9:t.size≤900:=by omega
 rw[sat_run]
 refine⟨rfl,?_⟩
 unfold mSoughtW
 refine seq_rule (fun e S1=>(∃ v:Tm,e= [some (.obj n),some t.d,some v.d,none,none,none,none,none] ∧Q.Good4 v∧v.size≤t.size)∧FrH n S S1) ?_ ?_
 ·open_k
  refine sat_mono (hso S hd8 hs9) ?_
  rintro d S1 ⟨rfl,gr⟩
  have fr1:=gr.hand hS
  refine sat_mono (hp n S1 _ _ fr1.hd (.lst _) ?_ ?_) ?_
  ·have hsp:=Tm.size_pos t
   have:=Tm.spots_len t
   intro e
   rw[List.map_eq_nil_iff] at e
   rw[e] at this
   simp at this
   omega
  ·have:=Tm.spots_len t
   simp;omega
  rintro d S2 ⟨hm,fr2⟩
  obtain⟨q,hq,rfl⟩:=List.mem_map.mp hm
  obtain⟨v,hv⟩:=Tm.spots_at.mp hq
  rw[hth t v q S2 hv,sat_ok]
  exact⟨⟨v,rfl,Good4.at hg hv,at_size hv⟩,fr1.trans fr2⟩
 rintro e S1 ⟨⟨v,rfl,hgv,hvs⟩,fr1⟩
 refine seq_rule (fun e S2=>(∃ f:Nat,e= [some (.obj n),some t.d,some v.d,some (.str LET),some (.int f),none,none,none] ∧f<26)∧FrH n S S2) ?_ ?_
 ·open_k
  refine sat_mono (ht n S1 26 fr1.hd (by decide) (by decide)) ?_
  rintro d S2 ⟨⟨i,rfl,i0,i1⟩,fr2⟩
  refine⟨⟨i.toNat,?_,by omega⟩,fr1.trans fr2⟩
  rw[Int.toNat_of_nonneg i0]
  rfl
 rintro e S2 ⟨⟨f,rfl,hf⟩,fr2⟩
 obtain⟨fq,hfq⟩:∃fq,fq=S2.length:=⟨_,rfl⟩
 refine step_asg (S1:=S2++ [.lst []]) (S2:=S2++ [.lst []]) (d:= .obj fq) (by rw[hfq];rfl) rfl ?_
 simp only[List.set_cons_succ,List.set_cons_zero]
 have lts:=hS.lt
 have fr3:=fr2.mk2 (.lst [])
 have q3:(S2++ [O.lst []])[fq]? =some (.lst []):=by rw[hfq];simp
 refine seq_rule (fun e S3=>(∃ a6:Option D,e= [some (.obj n),some t.d,some v.d,some (.str LET),some (.int f),some (.obj fq),a6,none])∧FrH n S S3∧S3[fq]? =some (.lst ((freshW f 60).map .str))) ?_ ?_
 ·open_k
  refine⟨by decide,?_⟩
  refine for_rule (fun j e S3=>(∃ a6:Option D,e= [some (.obj n),some t.d,some v.d,some (.str LET),some (.int f),some (.obj fq),a6,none])∧FrH n S S3∧S3[fq]? =some (.lst ((freshW f j).map .str))) ⟨⟨none,rfl⟩,fr3,by simpa[freshW] using q3⟩ ?_ ?_
  ·rintro j hj e S3 ⟨⟨a6,rfl⟩,fr4,q4⟩
   rw[rangeD_get hj]
   have hj':j<60:=by simpa using hj
   open_k
   refine⟨mtD_obj q4,?_⟩
   rw[fdiv_int]
   refine⟨by decide,?_⟩
   rw[add_int,sat_ok,mod_int]
   refine⟨by decide,?_⟩
   rw[let_at (i:=((f:Int)+(0+(j:Int)) / 26) % 26) (by omega) (by omega),sat_ok,add_str (small (by show 4+1≤1000;decide)),sat_ok,mod_int]
   refine⟨by decide,?_⟩
   rw[let_at (i:=(0+(j:Int)) % 26) (by omega) (by omega),sat_ok,add_str (small (by show 5+1≤1000;decide)),sat_ok]
   have ew:("hole" :Str)++(⟨#[97+(((f:Int)+(0+(j:Int)) / 26) % 26).toNat]⟩:Str)++(⟨#[97+((0+(j:Int)) % 26).toNat]⟩:Str)=freshS (nmW f j):=by
    have e1:(((f:Int)+(0+(j:Int)) / 26) % 26).toNat=nmW f j / 26:=by unfold nmW;omega
    have e2:((0+(j:Int)) % 26).toNat=nmW f j % 26:=by unfold nmW;omega
    rw[e1,e2]
    rfl
   rw[ew,append_obj q4]
   refine⟨Nat.lt_of_lt_of_le (m:=100) (by simp[freshW];omega) (by decide),⟨_,rfl⟩,fr4.put hS (by have:=fr2.le;omega) _,?_⟩
   rw[List.getElem?_set_self (List.getElem?_eq_some_iff.mp q4).1,freshW_succ,List.map_append]
   rfl
  ·rintro e S3 ⟨h1,h2,h3⟩
   exact⟨h1,h2,by simpa using h3⟩
 rintro e S3 ⟨⟨a6,rfl⟩,fr4,q4⟩
 have hq3:fq<S3.length:=(List.getElem?_eq_some_iff.mp q4).1
 have le2:=fr2.le
 let Sd:Store:=S3++ [.lst []] ++ [.dK [(.inr "ways", .int 1),(.inr "holes", .obj S3.length),(.inr "fresh", .obj fq)]]
 have hSd:Sd=S3++ [.lst []] ++ [.dK [(.inr "ways", .int 1),(.inr "holes", .obj S3.length),(.inr "fresh", .obj fq)]] :=rfl
 have ap:Ap n (S3.length+1) S3.length fq:=by constructor<;>omega
 have fr5:FrH n S Sd:=(fr4.mk2 _).mk2 _
 have pt:Pt n (S3.length+1) S3.length fq 1 [] (freshW f 60) Sd:=by
  refine⟨by simp[Sd],by simp[Sd],?_,fr5.hd⟩
  simp only[Sd]
  rw[List.append_assoc,List.getElem?_append_left hq3]
  exact q4
 have len60:(freshW f 60).length=60:=by simp[freshW]
 have ho:Ho n (S3.length+1) S3.length fq 0 [] [] (freshW f 60) (1+v.size) Sd:=by
  refine⟨⟨1,trivial,pt⟩,⟨by simpa using freshW_nodup f (by decide),by simpa using freshW_fo f 60,by simp⟩,by rw[len60];omega,by rw[len60];simp⟩
 refine seq_rule (fun e S4=>∃(u:Tm) (a6:Option D) (z:Str),e= [some (.obj n),some t.d,some v.d,some (.str LET),some (.int f),some (.obj fq),a6,some u.d] ∧PG u∧isRest u=false∧u.dep≤6∧u.size≤118∧(∀ x ∈ u.hl,∀y ∈ u.hl,x.1=y.1→x.2=y.2)∧u.gv.Nodup∧(∀ x ∈ u.hl,x.1 ∉ u.gv)∧(∀ x ∈ u.hl,Fre x.1)∧(∀ x ∈ u.gv,Fre x)∧FrH n S S4∧Fre z∧∃fs:List Str,S4[fq]? =some (.lst ((fs++ [z]).map .str))) ?_ ?_
 ·have ed:(eDct [(eK (.str "ways"),eK (.int 1)),(eK (.str "holes"),eN mkObj (aNil)),(eK (.str "fresh"),eVar 5)]) [some (.obj n),some t.d,some v.d,some (.str LET),some (.int f),some (.obj fq),a6,none] S3= .ok (.obj (S3.length+1)) Sd:=by
   have e0:(mkObj [] S3)= .ok (.obj S3.length) (S3++ [.lst []]):=rfl
   simp only[eDct,pairsD,R.nox,R.bind,eK,eVar,eN,aNil,e0,List.getElem?_cons_succ,List.getElem?_cons_zero]
   have:(S3++ [O.lst []]).length=S3.length+1:=by simp
   rw[this]
   kernel_rfl
  simp only[ssat_asg,sat_eN,sat_aCons,sat_aNil,sat_eVar,List.getElem?_cons_succ,List.getElem?_cons_zero,callK_eq,List.append_nil]
  rw[ed,sat_ok]
  simp only[sat_eDic0,sat_eK]
  refine sat_mono (hhd n (S3.length+1) S3.length fq 0 Sd [] [] (freshW f 60) 1 v (.dic [] []) ap ho hgv ⟨[],rfl,by simp,by decide,by simp⟩ (by decide)) ?_
  rintro d S4 ⟨u,rfl,h1,h2,h3,hsz,⟨⟨hx,fs',ho',hm⟩,fr⟩⟩
  rw[gName_eq,ssat_nx]
  have hpos:=ho'.ps
  obtain⟨fs0,z,rfl⟩:∃fs0 z,fs'=fs0++ [z] :=by
   rcases List.eq_nil_or_concat fs' with e|⟨a,b,e⟩
   ·rw[e] at hpos;simp at hpos
   ·exact⟨a,b,by rw[e,List.concat_eq_append]⟩
  have gh:=ho'.gh
  obtain⟨_,_,pt'⟩:=ho'.pt
  simp only[List.nil_append,gvs_one,hls_one] at gh hm ho'
  refine⟨u,a6,z,rfl,h1,h2,h3,by omega,?_,?_,?_,fun x hx1=>gh.fo x.1 (List.mem_append_left _ (List.mem_append_left _ (List.mem_map.mpr ⟨x,hm x hx1,rfl⟩))),fun x hx1=>gh.fo x (List.mem_append_left _ (List.mem_append_right _ hx1)),?_,gh.fo z (by simp),fs0,pt'.fr⟩
  ·intro x hx1 y hy1 e
   have nd:(hx.map (·.1)).Nodup:=by
    have:=gh.nd
    rw[List.append_assoc] at this
    exact(List.nodup_append.mp this).1
   have key:∀ {l:List (Str × Str)},(l.map (·.1)).Nodup→∀ {x y:Str × Str},x ∈ l→y ∈ l→x.1=y.1→x=y:=by
    intro l
    induction l with
    |nil=>intro _ x y h;simp at h
    |cons a l ih=>
     intro nd x y h1 h2 e
     rw[List.map_cons,List.nodup_cons] at nd
     rcases List.mem_cons.mp h1 with rfl|k1<;>rcases List.mem_cons.mp h2 with rfl|k2
     ·rfl
     ·exact absurd (List.mem_map.mpr ⟨y,k2,e.symm⟩) nd.1
     ·exact absurd (List.mem_map.mpr ⟨x,k1,e⟩) nd.1
     ·exact ih nd.2 k1 k2 e
   rw[key nd (hm x hx1) (hm y hy1) e]
  ·have:=gh.nd
   rw[List.append_assoc] at this
   exact(List.nodup_append.mp (List.nodup_append.mp this).2.1).1
  ·intro x hx1 hgv'
   have:=gh.nd
   rw[List.append_assoc] at this
   have:=(List.nodup_append.mp this).2.2
   exact this x.1 (List.mem_map.mpr ⟨x,hm x hx1,rfl⟩) x.1 (List.mem_append_left _ hgv') rfl
  ·have lSd:Sd.length=S3.length+2:=by simp[Sd]
   have le4:=fr4.le
   refine⟨Nat.le_trans fr5.le fr.le,fun m o hmn e=> ?_,pt'.hd⟩
   have hml:=(List.getElem?_eq_some_iff.mp e).1
   exact fr.fr m o hmn (by omega) (by omega) (by omega) (fr5.fr m o hmn e)
 rintro e S4 ⟨u,b6,z,rfl,h1,h2,h3,hu118,h4,h5,h6,h7,h8,fr6,foz,fs0,q6⟩
 have okz:=foz.ok
 rw[ssat_sRet,sat_eIf,sat_tOfE,sat_e2]
 have usz:u.size≤900:=by omega
 simp only[sat_eN,sat_aCons,sat_aNil,sat_eVar,sat_eK,List.getElem?_cons_succ,List.getElem?_cons_zero,callK_eq,List.append_nil]
 refine sat_mono (hno u S4 h3 usz) ?_
 rintro d S5 ⟨rfl,g5⟩
 have fr7:=fr6.trans (g5.hand fr6.hd)
 have q7:=g5.fr _ _ q6
 rw[len_lst,Tm.ds_len,Tm.nodes_len,sat_ok,le_int,sat_ok,blD_bl,sat_ok]
 by_cases h20:u.size≤20
 ·rw[if_pos (by simp;omega)]
  exact⟨u,rfl,⟨h1,h2,h20,h3,h4,h5,h6,h7,h8⟩,fr7⟩
 rw[if_neg (by simp;omega)]
 simp only[sat_e2,sat_e1,sat_eN,sat_aCons,sat_aNil,sat_eVar,sat_eK,sat_mkTup,List.getElem?_cons_succ,List.getElem?_cons_zero]
 have ix:ixD (.obj fq) (.int (-1)) S5= .ok (.str z) S5:=by
  simp only[ixD,q7]
  rw[show atI ((fs0++ [z]).map D.str) (-1)=some (.str z) by
   simp[atI,ixN]
   rw[if_pos (by omega),show(-1+((fs0.length:Int)+1)).toNat=fs0.length by omega]
   simp]
 rw[neg_int,sat_ok,ix,sat_ok]
 have hany:("any" :Str) ∈ HW:=by decide +kernel
 obtain⟨e1,e2,_⟩:=hole_gv (z:=z) hany
 refine⟨of_eq_true sz0,of_eq_true sz3, .nd "any" z [],rfl,⟨.hole hany okz,by show decide (("any" :Str)= "rest")=false;decide +kernel,by simp[Tm.size,Tm.sizes],by simp[Tm.dep,Tm.deps],?_,by rw[e1];exact List.nodup_nil,by rw[e1];simp,by rw[e2];intro x hx;simp only[List.mem_cons,List.not_mem_nil,or_false] at hx;rw[hx];exact foz,by rw[e1];simp⟩,fr7⟩
 rw[e2]
 intro x hx y hy _
 simp only[List.mem_cons,List.not_mem_nil,or_false] at hx hy
 rw[hx,hy]
end L3.Wy
namespace L3
open PySem L2
def wd (st:List Nat) (sp v:Nat):Str:=⟨(st.take sp++ [97+v / 26,97+v % 26] ++st.drop sp).toArray⟩
end L3
namespace L3
open PySem L2
inductive C where
 |tok (s:List Nat)|nd (cs:List C)
end L3
namespace L3
open PySem L2
def T (l:List Nat):Str:=⟨l.toArray⟩
def dg (i:Int):List Nat:=(toString i).toList.map Char.toNat
def ixS (s:Str):List Str→Option Nat
 | [] =>none
 |x::xs=>if x=s then some 0 else(ixS s xs).map (· +1)
end L3
namespace L3
open PySem L2
def NM7:List Str:= ["x","y","ab","zzzzzzzz","q","abc","w"]
end L3
namespace L3
open PySem L2
theorem in_lsts {S:Store} {s:Str} {l:List Str} (h:PyData.strOk s=true) (hl:∀s ∈ l,PyData.strOk s=true):memD (.str s) (.lst (l.map .str)) S=some (decide (s ∈ l)):=by
 show memData (toPy (.str s)) (toPy (.lst (l.map .str)))=_
 simp only[memData,toPy,h,if_true,txts_py hl,Option.map_some]
 rw[if_pos (show(PyData.str s).depth≤64 by simp[PyData.depth])]
 congr 1
 rw[Bool.eq_iff_iff]
 simp only[List.any_map,List.any_eq_true,Function.comp,decide_eq_true_eq,PyData.eqv]
 constructor
 ·rintro⟨x,hx,e⟩
  have:x=s:=by simpa using e
  exact this▸hx
 ·intro hx
  exact⟨s,hx,by simp⟩
mutual
/-- the NAMEs asked and not given within -/
def freeL:Tm→List Str
 | .num _=> []
 | .nam s=> [s]
 | .nd w m ps=>freeI w m 0 ps
def freeI (w m:Str):Nat→List Tm→List Str
 | _,[] => []
 |j,p::ps=>(freeL p).filter (fun s=> !(decide (w ∈ GIV)&&(decide (j=1)&&decide (s=m))))++freeI w m (j+1) ps
end
section
variable {S:Store}
theorem td2 (t:Tm):ixD t.d (.int 2) S= .ok (.tup (Tm.ds t.parts)) S:=by rw[Tm.d_eq];rfl
end
end L3
namespace L3
open PySem L2
def upd (c:Str→Str) (m z:Str):Str→Str:=fun s=>if s=m then z else c s
inductive Tn:(Str→Str)→Tm→Tm→Prop where
 |num {c:Str→Str} (i:Int):Tn c (.num i) (.num i)
 |nam {c:Str→Str} (s:Str):Tn c (.nam s) (.nam (c s))
 |giv {c:Str→Str} {w m z:Str} {a b a' b':Tm} :w ∈ GIV→Tn c a a'→z ∈ NM7→z ∉ ((freeL b).filter fun s=> !decide (s=m)).map c→Tn (upd c m z) b b'→Tn c (.nd w m [a,b]) (.nd w z [a',b'])
 |nd {c:Str→Str} {w m:Str} {ps us qs:List Tm} :w ∉ GIV→ps.length=us.length→(∀ i (h:i<ps.length) (h':i<us.length),Tn c ps[i] us[i])→qs.Perm us→(isHeap w=false→qs=us)→Tn c (.nd w m ps) (.nd w m qs)
section
variable {mi:ID} {vs:List Nat} {g:GD} {tt:TD} {te:ED} {env:EnvD} {S:Store} {Q:D→Store→Prop}
theorem sat_eLcN:(eLcN mi vs g tt te env S).sat Q=(mi env S).sat fun xs S1=>(xs.length≤sizeLine∧(lcN S1.length g tt te (wipeD env vs) xs (S1++ [.lst []])).sat Q):=by
 unfold eLcN;rw[sat_bind];congr;funext xs S1;rw[sat_if_bad]
end
end L3
namespace L3
open PySem L2 PyProof.Rows
def kd:PyData→Nat
 | .none=>0
 | .int _=>1
 | .str _=>2
 | .tuple _=>3
 | .list _=>4
 | _=>5
end L3
namespace L3
open PySem L2
theorem sizes_perm {a b:List Tm} (h:a.Perm b):Tm.sizes a=Tm.sizes b:=by
 induction h with
 |nil=>rfl
 |cons x _ ih=>simp only[Tm.sizes,ih]
 |swap x y l=>simp only[Tm.sizes];omega
 |trans _ _ h1 h2=>rw[h1,h2]
theorem deps_sub {a b:List Tm} (h:∀t ∈ a,t ∈ b):Tm.deps a≤Tm.deps b:=Tm.deps_le.mpr fun t ht=>Tm.deps_le.mp (Nat.le_refl _) t (h t ht)
end L3
namespace L3
open PySem L2
theorem deps_perm {a b:List Tm} (h:a.Perm b):Tm.deps a=Tm.deps b:=
 Nat.le_antisymm (deps_sub fun t ht=>h.mem_iff.mp ht) (deps_sub fun t ht=>h.mem_iff.mpr ht)
end L3
namespace L3
open PySem L2
abbrev Nx:=Str→List Nat ⊕ Str
def stepF (t:Tm) (p:List Nat) (i:Nat) (f:Nx):Nx:=match t with
 | .nd w m _=>if w ∈ GIV∧i=1 then fun s=>if s=m then .inl p else f s else f
 | _=>f
end L3
namespace L3.Ft
open PySem L2 L3
noncomputable section
end
variable {S:Store}
end L3.Ft
namespace L3
open PySem L2
local macro_rules| `(tactic| open_k)=> `(tactic| simp only[ssat_seq,ssat_asg,ssat_sRet,ssat_sExpr,ssat_if,ssat_skip,ssat_par,ssat_nx,ssat_ret,ssat_for,sat_e2,sat_e1,sat_eN,sat_aCons,sat_aNil,sat_eVar,sat_eK,sat_tOfE,sat_tTruth,sat_tNot,sat_tAnd,sat_tOr,sat_eIf,sat_eBM,sat_iSeq,sat_iArgs,sat_eAnd,sat_eOr,sat_eNot,sat_eChain,sat_eSl,sat_pNo,sat_pYes,sat_eLc,sat_eKw,sat_mkTup,sat_mkLst,sat_mkObj,sat_ok,callK_eq,List.append_nil,List.map_cons,List.map_nil,List.length_cons,List.length_nil,List.replicate,List.getElem?_cons_succ,List.getElem?_cons_zero,List.cons_append,List.nil_append,List.set_cons_succ,List.set_cons_zero,gName_eq,gTup_tup,gNames_cons,gNames_nil,Nat.zero_add,Nat.reduceAdd,Nat.reduceSub,sz0,sz1,sz2,sz3,sz4,sz5,sz6,sz7,sz8,sz10,sz17,true_and,add_int,sub_int,neg_int,lt_int,le_int,gt_int,ge_int,eq_int,ne_int,blD_bl,truthD_bl,itemsD_lst,itemsD_tup,wipeD,eq_strs,ne_strs,sl_tup,sl_lst,if_true,if_false,Bool.false_eq_true,sat_range1,sat_range2,tuple_lst,tuple_tup,len_tup,len_lst,len_scr,D.int.injEq,exists_eq_left',mt_str])
def mDeepL (f:FN):SD:=
    sRet (e2 addD (eK (.int 1)) (eN maxD (aCons (e2 addD (eN mkLst (aCons (eK (.int 0)) (aNil))) (eLc (iSeq (e2 ixD (eVar 0) (eK (.int 2)))) [1] (gName 1) (tYesD) (eN (callK f []) (aCons (eVar 1) (aNil))))) (aNil))))
theorem lc_int {te:ED} {env:EnvD} {i:Nat} {S:Store} (g:Tm→Int):∀ {ts:List Tm} {Q:List D→Store→Prop},(∀ t ∈ ts,te (env.set i (some t.d)) S= .ok (.int (g t)) S)→Q ((ts.map g).map .int) S→lcSat (gName i) tYesD te env (Tm.ds ts) S Q
 | [],Q,h,q=>q
 |t::ts,Q,h,q=>by
  simp only[Tm.ds]
  unfold lcSat
  simp only[gName,tYesD,sat_ok,if_true,h t List.mem_cons_self]
  exact lc_int g (fun t ht=>h t (List.mem_cons_of_mem _ ht)) q
theorem deps_mem:∀ {ts:List Tm},Tm.deps ts=0∨∃t ∈ ts,t.dep=Tm.deps ts
 | [] => .inl rfl
 |t::ts=>by
  right
  have:=t.dep_pos
  simp only[Tm.deps]
  by_cases h:Tm.deps ts≤t.dep
  ·exact⟨t,List.mem_cons_self,by omega⟩
  ·rcases deps_mem (ts:=ts) with h0|⟨u,hu,e⟩
   ·omega
   ·exact⟨u,List.mem_cons_of_mem _ hu,by omega⟩
def IsDp (f:FN) (k:Nat):Prop:=∀(t:Tm) (S:Store),t.dep≤k→t.size≤1000→f [t.d] S= .ok (.int (t.dep:Nat)) S
theorem isDp0 (f:FN):IsDp f 0:=fun t _ h=>by have:=t.dep_pos;omega
theorem max_deps (ts:List Tm) (S:Store):maxD [.lst (D.int 0::(ts.map fun t=>(t.dep:Int)).map .int)] S= .ok (.int (Tm.deps ts:Nat)) S:=by
 have ha:allInts (D.int 0::(ts.map fun t=>(t.dep:Int)).map .int)=some (0::ts.map fun t=>(t.dep:Int)):=by
  simp only[allInts,sum_lst,Option.map_some]
 obtain⟨k,hk⟩:∃k,maxI (0::ts.map fun t=>(t.dep:Int))=some k:=⟨_,rfl⟩
 have e:=maxI_eq (m:=(Tm.deps ts:Int)) hk (by
  rcases deps_mem (ts:=ts) with h0|⟨u,hu,e⟩
  ·rw[h0];exact List.mem_cons_self
  ·exact List.mem_cons_of_mem _ (List.mem_map.mpr ⟨u,hu,by rw[e]⟩)) (fun y hy=>by
  rcases List.mem_cons.mp hy with rfl|hy
  ·omega
  ·obtain⟨t,ht,rfl⟩:=List.mem_map.mp hy
   have:=Tm.deps_le.mp (Nat.le_refl (Tm.deps ts)) t ht
   omega)
 unfold maxD
 simp only[asL,Option.bind,ha,hk,e]
theorem isDp {f:FN} {k:Nat} (hf:IsDp f k):IsDp (run 1 2 (mDeepL f)) (k+1):=fun t S hd hs=>by
 apply of_sat
 rw[sat_run]
 refine⟨rfl,?_⟩
 unfold mDeepL
 simp only[List.map_cons,List.map_nil,List.cons_append,List.nil_append,List.length_cons,List.length_nil,List.replicate,Nat.zero_add,Nat.reduceAdd,Nat.reduceSub]
 have hse:=Tm.size_eq t
 have hde:=Tm.dep_eq t
 have hl:=Tm.len_sizes t.parts
 open_k
 rw[td2,sat_ok,itemsD_tup,sat_ok]
 refine⟨by rw[Tm.ds_len];exact small (by omega),?_⟩
 refine lc_int (fun t=>(t.dep:Int)) (fun p hp=>of_sat ?_) ?_
 ·open_k
  have:=Tm.sizes_mem hp
  have:=Tm.deps_le.mp (Nat.le_refl (Tm.deps t.parts)) p hp
  rw[hf p S (by omega) (by omega),sat_ok]
  exact⟨rfl,rfl⟩
 ·rw[add_lst (by simp only[List.length_map,List.length_cons,List.length_nil];exact Nat.le_trans (by omega:_≤2000) (by decide)),sat_ok,List.cons_append,List.nil_append,max_deps,sat_ok,add_int,sat_ok]
  exact⟨by rw[hde];congr 1,rfl⟩
end L3
namespace L3.Ft
open PySem L2 L3
variable {S:Store}
theorem eqdec {a b:Str} :(a==b)=decide (a=b):=by rw[Bool.eq_iff_iff];simp
end L3.Ft
namespace L3
open PySem L2
def isBr (c:Nat):Bool:=c==40 || c==41
def isLay (c:Nat):Bool:=c==32 || c==10
def isWs (c:Nat):Bool:= !(isBr c || isLay c || c==59)
def lay:Bool→List Nat→Nat
 | _,[] =>0
 |r,c::cs=>if r || isLay c || c==59 then 1+lay (c==59 || (r&& !(c==10))) cs else 0
def wl:List Nat→Nat
 | [] =>0
 |c::cs=>if isWs c then 1+wl cs else 0
def wend:List Nat→Nat
 | [] =>0
 |c::cs=>if isBr c then 1 else wl (c::cs)
abbrev Tk:=List Nat × Nat × Nat
def toks:Nat→List Nat→Nat→List Tk
 |0,_,_=> []
 |n+1,l,p=>match l.drop (lay false l) with
  | [] => []
  |c::cs=>((c::cs).take (wend (c::cs)),p+lay false l,p+lay false l+wend (c::cs))::toks n ((c::cs).drop (wend (c::cs))) (p+lay false l+wend (c::cs))
end L3
namespace L3.Fl
open PySem L2 L3
theorem ixS_none {s:Str} :∀ {l:List Str},ixS s l=none↔s ∉ l
 | [] =>by simp[ixS]
 |x::l=>by
  simp only[ixS,List.mem_cons,not_or]
  by_cases h:x=s
  ·rw[if_pos h];simp[h]
  ·rw[if_neg h,Option.map_eq_none_iff,ixS_none (l:=l)]
   exact⟨fun hh=>⟨fun e=>h e.symm,hh⟩,fun hh=>hh.2⟩
theorem place_ixS {s:Str} :∀ {l:List Str},PySem.SeqAt.dataPlace (l.map .str) (.str s)=ixS s l
 | [] =>rfl
 |x::l=>by
  have ih:=place_ixS (s:=s) (l:=l)
  unfold PySem.SeqAt.dataPlace at ih ⊢
  simp only[List.map_cons,List.findIdx?_cons,ixS,ih,PyData.eqv]
  by_cases h:x=s
  ·subst h;simp
  ·rw[if_neg h]
   simp[h]
theorem plain_strs:∀(l:List Str),PyData.plainAll (l.map .str)=true
 | [] =>rfl
 |x::l=>by simp only[List.map_cons,PyData.plainAll,PyData.plain,plain_strs l,Bool.and_self]
end L3.Fl
namespace L3.Ft
open PySem L2 L3
theorem lc_pure {α :Type} {g:L3.GD} {tt:TD} {te:ED} {env:EnvD} {S:Store} (dx f: α →D) (c: α →Bool):∀ {l:List α} {Q:List D→Store→Prop},(∀ a ∈ l,∃e1,g (dx a) env S= .nx e1 S∧tt e1 S= .ok (c a) S∧(c a=true→te e1 S= .ok (f a) S))→Q ((l.filter c).map f) S→lcSat g tt te env (l.map dx) S Q
 | [],Q,_,q=>q
 |a::l,Q,h,q=>by
  obtain⟨e1,h1,h2,h3⟩:=h a List.mem_cons_self
  simp only[List.map_cons,lcSat,h1,h2,sat_ok]
  by_cases hc:c a=true
  ·rw[if_pos hc,h3 hc,sat_ok]
   rw[List.filter_cons,if_pos hc] at q
   exact lc_pure dx f c (fun b hb=>h b (List.mem_cons_of_mem _ hb)) q
  ·rw[if_neg hc]
   rw[List.filter_cons,if_neg hc] at q
   exact lc_pure dx f c (fun b hb=>h b (List.mem_cons_of_mem _ hb)) q
end L3.Ft
namespace L3.Dr
open PySem L2 L3
structure FrY (n p g:Nat) (S S':Store):Prop where
 le:S.length≤S'.length
 fr:∀m o,m≠n→m≠p→m≠g→S[m]? =some o→S'[m]? =some o
theorem FrY.refl {n p g:Nat} {S:Store} :FrY n p g S S:=⟨Nat.le_refl _,fun _ _ _ _ _ e=>e⟩
theorem FrY.trans {n p g:Nat} {S S' S'':Store} (a:FrY n p g S S') (b:FrY n p g S' S''):FrY n p g S S'':=⟨Nat.le_trans a.le b.le,fun m o h1 h2 h3 e=>b.fr m o h1 h2 h3 (a.fr m o h1 h2 h3 e)⟩
theorem FrY.of {n p g:Nat} {S S':Store} (f:FrH n S S'):FrY n p g S S':=⟨f.le,fun m o h1 _ _ e=>f.fr m o h1 e⟩
end L3.Dr
namespace L3.Tp
open PySem L2 L3 L3.Ft
open L3.Dr (FrY)
theorem nodes_kidL {u:Tm} :∀ {ps:List Tm} {p:Tm},p ∈ ps→u ∈ p.nodes→u ∈ Tm.nodesL ps
 |q::ps,p,hp,h=>by
  simp only[Tm.nodesL,List.mem_append]
  rcases List.mem_cons.mp hp with rfl|hp
  ·exact .inl h
  ·exact .inr (nodes_kidL hp h)
theorem nodes_kid {u p:Tm} {w m:Str} {ps:List Tm} (hp:p ∈ ps) (h:u ∈ p.nodes):u ∈ (Tm.nd w m ps).nodes:=by
 simp only[Tm.nodes,List.mem_cons]
 exact .inr (nodes_kidL hp h)
inductive Wt (H:List (Str × Str)):Tm→Prop where
 |num {i:Int} :0≤i→i≤9972→Wt H (.num i)
 |nam {s:Str} :NameOk s→Wt H (.nam s)
 |nd {w m:Str} {ps:List Tm} :w ∈ WORDS→(m= "" ∨NameOk m)→ps.length≤8→(w ∈ HW→(w,m) ∈ H)→(∀ p ∈ ps,Wt H p)→Wt H (.nd w m ps)
theorem Wt.mono {H H':List (Str × Str)} (h:∀x ∈ H,x ∈ H') {t:Tm} (g:Wt H t):Wt H' t:=by
 induction g with
 |num a b=>exact .num a b
 |nam a=>exact .nam a
 |nd a b c d _ ih=>exact .nd a b c (fun e=>h _ (d e)) ih
theorem Wt.word {H:List (Str × Str)} {t:Tm} (h:Wt H t):t.word ∈ WORDS:=by
 cases h with
 |num _ _=>show("num" :Str) ∈ WORDS;decide +kernel
 |nam _=>show("name" :Str) ∈ WORDS;decide +kernel
 |nd h _ _ _ _=>exact h
theorem Wt.kids {H:List (Str × Str)} {t:Tm} (h:Wt H t):t.parts.length≤8∧∀p ∈ t.parts,Wt H p:=by
 cases h with
 |num _ _=>exact⟨by simp[Tm.parts],fun p hp=>by cases hp⟩
 |nam _=>exact⟨by simp[Tm.parts],fun p hp=>by cases hp⟩
 |nd _ _ h1 _ h2=>exact⟨h1,h2⟩
theorem pg_wt {H:List (Str × Str)} :∀(k:Nat) (t:Tm),t.size≤k→PG t→(∀ w m,Tm.nd w m [] ∈ t.nodes→w ∈ HW→(w,m) ∈ H)→Wt H t
 |0,t,h,_,_=>by have:=t.size_pos;omega
 |k+1,t,h,g,hH=>by
  cases g with
  |num h0 h1=>exact .num h0 h1
  |nam hs=>exact .nam hs
  | @hole w m h1 h2=>
    refine .nd ?_ (.inr h2) (by simp) (fun _=>hH w m (by simp[Tm.nodes]) h1) fun p hp=>by cases hp
    have:∀w ∈ HW,w ∈ WORDS:=by decide +kernel
    exact this w h1
  | @nd w m ps f mo r gg hs h1 h2 h3 h4 h5 hk=>
    have hw:=pshape_word hs
    refine .nd hw.2.2.2.2.2.2.2 ?_ ?_ (fun h=>absurd h hw.2.1) fun p hp=>pg_wt k p ?_ (hk p hp) fun w' m' hm=>hH w' m' (nodes_kid hp hm)
    ·cases gg with
     |true=>exact .inr (h4 rfl)
     |false=>exact .inl (h5 rfl)
    ·have:=rests_add ps
     omega
    ·have:=Tm.sizes_mem hp
     simp only[Tm.size] at h
     omega
def hoD (x:Str × Str):D:=(Tm.nd x.1 x.2 []).d
def tpO (hs:List (Str × Str)) (wr:List Str) (g:Nat) (r:Int):O:= .dK [(.inr "room", .int r),(.inr "holes", .lst (hs.map hoD)),(.inr "written", .lst (wr.map .str)),(.inr "givers", .obj g)]
structure TP (n p g:Nat) (hs:List (Str × Str)) (wr:List Str) (r:Int) (gs:List Str) (S:Store):Prop where
 hd:Hand n S
 pO:S[p]? =some (tpO hs wr g r)
 gO:S[g]? =some (.lst (gs.map .str))
 np:n≠p
 ng:n≠g
 pg:p≠g
 ho:∀x ∈ hs,x.1 ∈ HW∧NameOk x.2
 hl:hs.length≤100
 w0:wr≠ []
 wl:wr.length≤200
 wo:∀s ∈ wr,NameOk s
 go:∀s ∈ gs,NameOk s
 gl:gs.length≤100
section
variable {n p g:Nat} {hs:List (Str × Str)} {wr:List Str} {r:Int} {gs:List Str} {S S':Store}
theorem TP.of (h:TP n p g hs wr r gs S) (f:FrH n S S'):TP n p g hs wr r gs S':=⟨f.hd,f.fr _ _ (Ne.symm h.np) h.pO,f.fr _ _ (Ne.symm h.ng) h.gO,h.np,h.ng,h.pg,h.ho,h.hl,h.w0,h.wl,h.wo,h.go,h.gl⟩
theorem TP.app (h:TP n p g hs wr r gs S) (o:O):TP n p g hs wr r gs (S++ [o]):=by
 have e:∀ {m:Nat} {o':O},S[m]? =some o'→(S++ [o])[m]? =some o':=fun e=>by rw[List.getElem?_append_left (List.getElem?_eq_some_iff.mp e).1];exact e
 obtain⟨gg,s,q⟩:=h.hd
 exact⟨⟨gg,s,e q⟩,e h.pO,e h.gO,h.np,h.ng,h.pg,h.ho,h.hl,h.w0,h.wl,h.wo,h.go,h.gl⟩
theorem TP.put (h:TP n p g hs wr r gs S) {m:Nat} (o:O) (h1:m≠n) (h2:m≠p) (h3:m≠g):TP n p g hs wr r gs (S.set m o):=by
 have e:∀ {k:Nat} {o':O},k≠m→S[k]? =some o'→(S.set m o)[k]? =some o':=fun hk e=>by rw[List.getElem?_set_ne (Ne.symm hk)];exact e
 obtain⟨gg,s,q⟩:=h.hd
 exact⟨⟨gg,s,e (Ne.symm h1) q⟩,e (Ne.symm h2) h.pO,e (Ne.symm h3) h.gO,h.np,h.ng,h.pg,h.ho,h.hl,h.w0,h.wl,h.wo,h.go,h.gl⟩
theorem TP.lt (h:TP n p g hs wr r gs S):n<S.length∧p<S.length∧g<S.length:=⟨h.hd.lt,(List.getElem?_eq_some_iff.mp h.pO).1,(List.getElem?_eq_some_iff.mp h.gO).1⟩
theorem TP.room (h:TP n p g hs wr r gs S):ixD (.obj p) (.str "room") S= .ok (.int r) S:=by
 simp only[ixD,show S[p]? =_ from h.pO,tpO]
 kernel_rfl
theorem TP.holes (h:TP n p g hs wr r gs S):ixD (.obj p) (.str "holes") S= .ok (.lst (hs.map hoD)) S:=by
 simp only[ixD,show S[p]? =_ from h.pO,tpO]
 kernel_rfl
theorem TP.written (h:TP n p g hs wr r gs S):ixD (.obj p) (.str "written") S= .ok (.lst (wr.map .str)) S:=by
 simp only[ixD,show S[p]? =_ from h.pO,tpO]
 kernel_rfl
theorem TP.givers (h:TP n p g hs wr r gs S):ixD (.obj p) (.str "givers") S= .ok (.obj g) S:=by
 simp only[ixD,show S[p]? =_ from h.pO,tpO]
 kernel_rfl
theorem TP.less (h:TP n p g hs wr r gs S):setD (.obj p) (.str "room") (.int (r-1)) S=some (S.set p (tpO hs wr g (r-1)))∧TP n p g hs wr (r-1) gs (S.set p (tpO hs wr g (r-1)))∧FrY n p g S (S.set p (tpO hs wr g (r-1))):=by
 refine⟨?_,⟨?_,?_,?_,h.np,h.ng,h.pg,h.ho,h.hl,h.w0,h.wl,h.wo,h.go,h.gl⟩,⟨by simp,fun m o _ hm _ e=>by rw[List.getElem?_set_ne (Ne.symm hm)];exact e⟩⟩
 ·simp only[setD,show S[p]? =_ from h.pO,tpO]
  kernel_rfl
 ·obtain⟨gg,s,q⟩:=h.hd
  exact⟨gg,s,by rw[List.getElem?_set_ne (Ne.symm h.np)];exact q⟩
 ·rw[List.getElem?_set_self (List.getElem?_eq_some_iff.mp h.pO).1]
 ·rw[List.getElem?_set_ne h.pg];exact h.gO
theorem TP.giv (h:TP n p g hs wr r gs S) {gs':List Str} (h1:∀s ∈ gs',NameOk s) (h2:gs'.length≤100):TP n p g hs wr r gs' (S.set g (.lst (gs'.map .str)))∧FrY n p g S (S.set g (.lst (gs'.map .str))):=by
 refine⟨⟨?_,?_,?_,h.np,h.ng,h.pg,h.ho,h.hl,h.w0,h.wl,h.wo,h1,h2⟩,⟨by simp,fun m o _ _ hm e=>by rw[List.getElem?_set_ne (Ne.symm hm)];exact e⟩⟩
 ·obtain⟨gg,s,q⟩:=h.hd
  exact⟨gg,s,by rw[List.getElem?_set_ne (Ne.symm h.ng)];exact q⟩
 ·rw[List.getElem?_set_ne (Ne.symm h.pg)];exact h.pO
 ·rw[List.getElem?_set_self h.lt.2.2]
end
def mLeafPut (tk pk dg:FN):SD:=
    sSeq (sPar [3,4] (aCons (eN (callK tk []) (aCons (eVar 0) (aCons (eK (.int 6)) (aNil)))) (aCons (eLc (iSeq (e2 ixD (eVar 1) (eK (.str "holes")))) [5] (gName 5) (tOfE (e2 neD (e2 ixD (eVar 5) (eK (.int 0))) (eK (.str "rest")))) (eVar 5)) (aNil))))
    (sSeq (sIf (tAnd (tOfE (e2 neD (eVar 4) (eN mkLst (aNil)))) (tOfE (e2 ltD (eVar 3) (eK (.int 3))))) (sRet (eN (callK pk []) (aCons (eVar 0) (aCons (eVar 4) (aNil))))) (sSkip))
    (sSeq (sIf (tOfE (e2 ltD (eVar 3) (eK (.int 5)))) (sRet (eN mkTup (aCons (eK (.str "name")) (aCons (eN (callK pk []) (aCons (eVar 0) (aCons (e2 addD (e2 addD (eSl (eVar 2) (pYes (e1 negD (eK (.int 2)))) (pNo)) (eSl (eVar 2) (pYes (e1 negD (eK (.int 2)))) (pNo))) (e2 ixD (eVar 1) (eK (.str "written")))) (aNil)))) (aCons (eN mkTup (aNil)) (aNil)))))) (sSkip))
    (sRet (eN mkTup (aCons (eK (.str "num")) (aCons (eN (callK dg []) (aCons (eVar 0) (aNil))) (aCons (eN mkTup (aNil)) (aNil))))))))
def IsLp (f:FN):Prop:=∀(n p g:Nat) (hs:List (Str × Str)) (wr:List Str) (r:Int) (gs:List Str) (S:Store) (scope:List Str),TP n p g hs wr r gs S→scope.length≤200→(∀ s ∈ scope,NameOk s)→(f [.obj n, .obj p, .lst (scope.map .str)] S).sat fun d S'=>∃u:Tm,d=u.d∧Wt hs u∧u.size=1∧u.dep=1∧FrH n S S'
theorem hole_wt {H:List (Str × Str)} {x:Str × Str} (h:x.1 ∈ HW∧NameOk x.2) (hx:x ∈ H):Wt H (.nd x.1 x.2 []):=by
 refine .nd ?_ (.inr h.2) (by simp) (fun _=>hx) fun p hp=>by cases hp
 have:∀w ∈ HW,w ∈ WORDS:=by decide +kernel
 exact this _ h.1
theorem hole_py {x:Str × Str} (h:x.1 ∈ HW∧NameOk x.2):toPy (hoD x)=some (.tuple [.str x.1, .str x.2, .tuple []]):=by
 have h1:PyData.strOk x.1=true:=by
  have:∀w ∈ HW,PyData.strOk w=true:=by decide +kernel
  exact this _ h.1
 have h2:PyData.strOk x.2=true:=asc_ok (name_asc h.2)
 show toPy (.tup [.str x.1, .str x.2, .tup []])=_
 simp only[toPy,toPyL,h1,h2,if_true,Option.map_some]
theorem ne_holes {hs:List (Str × Str)} (h:∀x ∈ hs,x.1 ∈ HW∧NameOk x.2) (S:Store):neD (.lst (hs.map hoD)) (.lst []) S= .ok (.bl (!hs.isEmpty)) S:=by
 have hp:∀hs:List (Str × Str),(∀ x ∈ hs,x.1 ∈ HW∧NameOk x.2)→toPyL (hs.map hoD)=some (hs.map fun x=> .tuple [.str x.1, .str x.2, .tuple []]):=fun hs=>by
  induction hs with
  |nil=>intro _;rfl
  |cons x hs ih=>
   intro h
   simp only[List.map_cons,toPyL,hole_py (h x List.mem_cons_self),ih fun y hy=>h y (List.mem_cons_of_mem _ hy)]
 rw[neD_py (a:= .list (hs.map fun x=> .tuple [.str x.1, .str x.2, .tuple []])) (b:= .list []) (by simp[deref,toPy,hp hs h]) rfl (by simp[PyData.depth,PyData.depthAll])]
 cases hs<;>rfl
theorem isLp {tk pk dg:FN} (ht:IsTake tk) (hp:IsPick2 pk) (hd:IsDigit dg):IsLp (run 3 6 (mLeafPut tk pk dg)):=fun n p g hs wr r gs S scope tp hsc hsn=>by
 rw[sat_run]
 refine⟨rfl,?_⟩
 unfold mLeafPut
 simp only[List.map_cons,List.map_nil,List.cons_append,List.nil_append,List.length_cons,List.length_nil,List.replicate,Nat.zero_add,Nat.reduceAdd,Nat.reduceSub]
 rw[ssat_seq,ssat_par]
 simp only[sat_aCons,sat_aNil,sat_eN,sat_eVar,sat_eK,List.getElem?_cons_succ,List.getElem?_cons_zero,callK_eq,List.append_nil]
 refine sat_mono (ht n S 6 tp.hd (by decide) (by decide)) ?_
 rintro d S1 ⟨⟨i,rfl,i0,i1⟩,f1⟩
 have t1:=tp.of f1
 rw[sat_eLc]
 simp only[sat_iSeq,sat_e2,sat_eVar,sat_eK,List.getElem?_cons_succ,List.getElem?_cons_zero]
 rw[t1.holes,sat_ok,itemsD_lst,sat_ok]
 refine⟨small (by rw[List.length_map];have:=tp.hl;omega),?_⟩
 simp only[wipeD,List.set_cons_succ,List.set_cons_zero]
 refine lc_pure hoD hoD (fun x:Str × Str=> !decide (x.1=("rest" :Str))) (fun x hx=>⟨_,by rw[gName_eq],of_sat (by
  simp only[List.set_cons_succ,List.set_cons_zero,sat_tOfE,sat_e2,sat_eVar,sat_eK,List.getElem?_cons_succ,List.getElem?_cons_zero]
  rw[show ixD (hoD x) (.int 0) S1= .ok (.str x.1) S1 from rfl,sat_ok,ne_strs,sat_ok,blD_bl,sat_ok]
  refine⟨?_,rfl⟩
  congr 1),fun _=>rfl⟩) ?_
 simp only[gNames_cons,gNames_nil,ssat_nx,List.set_cons_succ,List.set_cons_zero]
 have hfl:(hs.filter fun x:Str × Str=> !decide (x.1=("rest" :Str))).length≤100:=Nat.le_trans (List.length_filter_le _ _) tp.hl
 have hfo:∀x ∈ hs.filter fun x:Str × Str=> !decide (x.1=("rest" :Str)),x.1 ∈ HW∧NameOk x.2:=fun x hx=>tp.ho x (List.mem_filter.mp hx).1
 have hfm:∀x ∈ hs.filter fun x:Str × Str=> !decide (x.1=("rest" :Str)),x ∈ hs:=fun x hx=>(List.mem_filter.mp hx).1
 generalize (hs.filter fun x:Str × Str=> !decide (x.1=("rest" :Str)))=fs at hfl hfo hfm
 refine seq_rule (fun e S2=>e= [some (.obj n),some (.obj p),some (.lst (scope.map .str)),some (.int i),some (.lst (fs.map hoD)),none] ∧S2=S1) ?_ ?_
 ·rw[ssat_if,sat_tAnd]
  simp only[sat_tOfE,sat_e2,sat_eN,sat_aNil,sat_eVar,sat_eK,List.getElem?_cons_succ,List.getElem?_cons_zero]
  rw[sat_mkLst]
  refine⟨small (by simp),?_⟩
  rw[ne_holes hfo,sat_ok,blD_bl,sat_ok]
  cases fs with
  |nil=>
   rw[if_neg (by simp),if_neg Bool.false_ne_true,ssat_skip]
   exact⟨rfl,rfl⟩
  |cons f0 fs=>
   rw[if_pos (by simp),lt_int,sat_ok,blD_bl,sat_ok]
   by_cases c:i<3
   ·rw[if_pos (decide_eq_true c),ssat_sRet]
    simp only[sat_eN,sat_aCons,sat_aNil,sat_eVar,List.getElem?_cons_succ,List.getElem?_cons_zero,callK_eq,List.append_nil]
    refine sat_mono (hp n S1 _ _ f1.hd (.lst _) (by simp) (by rw[List.length_map];omega)) ?_
    rintro d S2 ⟨hm,f2⟩
    obtain⟨x,hx,rfl⟩:=List.mem_map.mp hm
    exact⟨.nd x.1 x.2 [],rfl,hole_wt (hfo x hx) (hfm x hx),rfl,rfl,f1.trans f2⟩
   ·rw[if_neg (by simpa using c),ssat_skip]
    exact⟨rfl,rfl⟩
 rintro e S2 ⟨rfl,rfl⟩
 rw[ssat_seq,ssat_if]
 simp only[sat_tOfE,sat_e2,sat_eVar,sat_eK,List.getElem?_cons_succ,List.getElem?_cons_zero]
 rw[lt_int,sat_ok,blD_bl,sat_ok]
 by_cases c:i<5
 ·rw[if_pos (decide_eq_true c),ssat_sRet]
  simp only[sat_eN,sat_aCons,sat_aNil,sat_e2,sat_e1,sat_eSl,sat_pYes,sat_pNo,sat_eVar,sat_eK,List.getElem?_cons_succ,List.getElem?_cons_zero,callK_eq,List.append_nil,neg_int,sat_ok,D.int.injEq,exists_eq_left']
  have ec:cutL (scope.map D.str) (some (-2)) none=(cutL scope (some (-2)) none).map D.str:=by unfold cutL;simp
  have hcl:(cutL scope (some (-2)) none).length≤scope.length:=cutL_len
  rw[L3.sl_lst,sat_ok,L3.sl_lst,sat_ok,ec,add_lst (small (by rw[List.length_map];omega)),sat_ok,t1.written,sat_ok,add_lst (small (by rw[List.length_append,List.length_map,List.length_map];have:=tp.wl;omega)),sat_ok,←List.map_append,←List.map_append]
  refine sat_mono (hp n S2 _ _ f1.hd (.lst _) ?_ ?_) ?_
  ·intro e
   rw[List.map_eq_nil_iff] at e
   exact tp.w0 (List.append_eq_nil_iff.mp e).2
  ·rw[List.length_map,List.length_append,List.length_append];have:=tp.wl;omega
  rintro d S3 ⟨hm,f2⟩
  obtain⟨s,hs',rfl⟩:=List.mem_map.mp hm
  have hso:NameOk s:=by
   rcases List.mem_append.mp hs' with h|h
   ·rcases List.mem_append.mp h with h|h
    ·exact hsn s (cutL_mem h)
    ·exact hsn s (cutL_mem h)
   ·exact tp.wo s h
  simp only[sat_mkTup]
  refine⟨small (by simp),small (by simp),?_⟩
  exact⟨.nam s,rfl, .nam hso,rfl,rfl,f1.trans f2⟩
 ·rw[if_neg (by simpa using c),ssat_skip,ssat_sRet]
  simp only[sat_eN,sat_aCons,sat_aNil,sat_eVar,sat_eK,List.getElem?_cons_succ,List.getElem?_cons_zero,callK_eq,List.append_nil]
  refine sat_mono (hd n S2 f1.hd) ?_
  rintro d S3 ⟨⟨z,rfl,z0,z1⟩,f2⟩
  simp only[sat_mkTup]
  refine⟨small (by simp),small (by simp),?_⟩
  exact⟨.num z,rfl, .num z0 z1,rfl,rfl,f1.trans f2⟩
end L3.Tp
namespace L3
open PySem L2
variable {S:Store}
inductive TA:Tm→Prop where
 |num (i:Int):TA (.num i)
 |nam {s:Str} :PyData.strOk s=true→TA (.nam s)
 |nd {w m:Str} {ps:List Tm} :PyData.strOk w=true→w≠ "name" →PyData.strOk m=true→(∀ p ∈ ps,TA p)→TA (.nd w m ps)
end L3
namespace L3.Tp
open PySem L2 L3 L3.Ft
open L3.Dr (FrY)
def szN:Nat→Nat
 |0=>1
 |L+1=>3+3*szN L
theorem szN_pos:∀L,1≤szN L
 |0=>Nat.le_refl _
 |L+1=>by simp only[szN];omega
def mNew (tk pk lp nw:FN):SD:=
    sSeq (sAsg (e2 subD (e2 ixD (eVar 1) (eK (.str "room"))) (eK (.int 1))) (gSub (eVar 1) (eK (.str "room"))))
    (sSeq (sAsg (eN (callK tk []) (aCons (eVar 0) (aCons (eK (.int 10)) (aNil)))) (gName 4))
    (sSeq (sIf (tOr (tOfE (e2 eqD (eVar 3) (eK (.int 0)))) (tOr (tOfE (e2 ltD (e2 ixD (eVar 1) (eK (.str "room"))) (eK (.int 5)))) (tOfE (e2 ltD (eVar 4) (eK (.int 3)))))) (sRet (eN (callK lp []) (aCons (eVar 0) (aCons (eVar 1) (aCons (eVar 2) (aNil)))))) (sSkip))
    (sSeq (sIf (tOfE (e2 ltD (eVar 4) (eK (.int 6)))) (sSeq (sAsg (eLcN (iArgs range1 (aCons (e2 addD (eK (.int 1)) (eN (callK tk []) (aCons (eVar 0) (aCons (eK (.int 3)) (aNil))))) (aNil))) [6] (gName 6) (tYesD) (eN (callK nw []) (aCons (eVar 0) (aCons (eVar 1) (aCons (eVar 2) (aCons (e2 subD (eVar 3) (eK (.int 1))) (aNil))))))) (gName 5))
    (sSeq (sAsg (eLc (iSeq (e2 ixD (eVar 1) (eK (.str "holes")))) [8] (gName 8) (tOfE (e2 eqD (e2 ixD (eVar 8) (eK (.int 0))) (eK (.str "rest")))) (eVar 8)) (gName 7))
    (sSeq (sFor (iArgs range1 (aCons (e2 mulD (eN (callK tk []) (aCons (eVar 0) (aCons (eK (.int 3)) (aNil)))) (eN intD (aCons (e2 ne0D (eVar 7) (eN mkLst (aNil))) (aNil)))) (aNil))) (gName 9) (sExpr (eBM "list" insertD (eVar 5) (aCons (eN (callK tk []) (aCons (eVar 0) (aCons (e2 addD (eN lenD (aCons (eVar 5) (aNil))) (eK (.int 1))) (aNil)))) (aCons (eN (callK pk []) (aCons (eVar 0) (aCons (eVar 7) (aNil)))) (aNil))))))
    (sRet (eN mkTup (aCons (eN (callK pk []) (aCons (eVar 0) (aCons (eN mkLst (aCons (eK (.str "plus")) (aCons (eK (.str "row")) (aCons (eK (.str "times")) (aCons (eK (.str "row")) (aCons (eK (.str "most")) (aNil))))))) (aNil)))) (aCons (eK (.str "")) (aCons (eN tupleD (aCons (eVar 5) (aNil))) (aNil))))))))) (sSkip))
    (sSeq (sIf (tAnd (tOfE (e2 ltD (eVar 4) (eK (.int 9)))) (tOfE (e2 ne0D (e2 ixD (eVar 1) (eK (.str "givers"))) (eN mkLst (aNil))))) (sSeq (sAsg (eBM "list" popD (e2 ixD (eVar 1) (eK (.str "givers"))) (aCons (eN (callK tk []) (aCons (eVar 0) (aCons (eN lenD (aCons (e2 ixD (eVar 1) (eK (.str "givers"))) (aNil))) (aNil)))) (aNil))) (gName 10))
    (sSeq (sAsg (eN (callK nw []) (aCons (eVar 0) (aCons (eVar 1) (aCons (eVar 2) (aCons (e2 subD (eVar 3) (eK (.int 1))) (aNil)))))) (gName 11))
    (sRet (eN mkTup (aCons (eN (callK pk []) (aCons (eVar 0) (aCons (eN mkLst (aCons (eK (.str "let")) (aCons (eK (.str "each")) (aNil)))) (aNil)))) (aCons (eVar 10) (aCons (eN mkTup (aCons (eVar 11) (aCons (eN (callK nw []) (aCons (eVar 0) (aCons (eVar 1) (aCons (e2 addD (eVar 2) (eN mkLst (aCons (eVar 10) (aNil)))) (aCons (e2 subD (eVar 3) (eK (.int 1))) (aNil)))))) (aNil)))) (aNil)))))))) (sSkip))
    (sSeq (sAsg (e2 addD (eK (.int 1)) (eN (callK tk []) (aCons (eVar 0) (aCons (eK (.int 3)) (aNil))))) (gName 12))
    (sSeq (sAsg (e2 ixD (eN mkLst (aCons (eK (.str "say")) (aCons (eK (.str "less")) (aCons (eK (.str "if")) (aNil))))) (e2 subD (eVar 12) (eK (.int 1)))) (gName 13))
    (sRet (eN mkTup (aCons (eVar 13) (aCons (eK (.str "")) (aCons (eN tupleD (aCons (eLc (iArgs range1 (aCons (eVar 12) (aNil))) [6] (gName 6) (tYesD) (eN (callK nw []) (aCons (eVar 0) (aCons (eVar 1) (aCons (eVar 2) (aCons (e2 subD (eVar 3) (eK (.int 1))) (aNil))))))) (aNil))) (aNil))))))))))))
def IsNw (f:FN) (L:Nat):Prop:=∀(n p g:Nat) (hs:List (Str × Str)) (wr:List Str) (r:Int) (gs:List Str) (S:Store) (scope:List Str),TP n p g hs wr r gs S→scope.length+L≤200→(∀ s ∈ scope,NameOk s)→(f [.obj n, .obj p, .lst (scope.map .str), .int ((L:Nat):Int)] S).sat fun d S'=>∃(u:Tm) (r':Int) (gs':List Str),d=u.d∧Wt hs u∧u.dep≤L+1∧u.size≤szN L∧TP n p g hs wr r' gs' S'∧FrY n p g S S'
section
variable {nw:FN} {L:Nat} {n p g:Nat} {hs:List (Str × Str)} {wr:List Str} {scope:List Str} {env:EnvD}
theorem one_new (ih:IsNw nw L) (hsc:scope.length+L≤200) (hsn:∀s ∈ scope,NameOk s) (e0:env[0]? =some (some (.obj n))) (e1:env[1]? =some (some (.obj p))) (e2':env[2]? =some (some (.lst (scope.map .str)))) (e3:env[3]? =some (some (.int ((L+1:Nat):Int)))) (x:D) {r:Int} {gs:List Str} {S:Store} (tp:TP n p g hs wr r gs S):
 (eN (callK nw []) (aCons (eVar 0) (aCons (eVar 1) (aCons (eVar 2) (aCons (e2 subD (eVar 3) (eK (.int 1))) (aNil))))) (env.set 6 (some x)) S).sat fun d S'=>∃(u:Tm) (r':Int) (gs':List Str),d=u.d∧Wt hs u∧u.dep≤L+1∧u.size≤szN L∧TP n p g hs wr r' gs' S'∧FrY n p g S S':=by
 have gk:∀j,j≠6→(env.set 6 (some x))[j]? =env[j]? :=fun j a=>by rw[List.getElem?_set_ne (Ne.symm a)]
 simp only[sat_eN,sat_aCons,sat_aNil,sat_e2,sat_eK,sat_eVar,gk 0 (by decide),gk 1 (by decide),gk 2 (by decide),gk 3 (by decide),e0,e1,e2',e3,callK_eq,List.append_nil]
 rw[sub_int,sat_ok,show(((L+1:Nat):Int)-1)=((L:Nat):Int) by omega]
 exact ih n p g hs wr r gs S scope tp hsc hsn
theorem news (ih:IsNw nw L) (hsc:scope.length+L≤200) (hsn:∀s ∈ scope,NameOk s) (e0:env[0]? =some (some (.obj n))) (e1:env[1]? =some (some (.obj p))) (e2':env[2]? =some (some (.lst (scope.map .str)))) (e3:env[3]? =some (some (.int ((L+1:Nat):Int)))):∀(xs:List D) (r:Int) (gs:List Str) (S:Store) (Q:List D→Store→Prop),TP n p g hs wr r gs S→
 (∀ us r' gs' S',us.length=xs.length→(∀ u ∈ us,Wt hs u)→Tm.deps us≤L+1→Tm.sizes us≤xs.length*szN L→TP n p g hs wr r' gs' S'→FrY n p g S S'→Q (Tm.ds us) S')→
 lcSat (gName 6) tYesD (eN (callK nw []) (aCons (eVar 0) (aCons (eVar 1) (aCons (eVar 2) (aCons (e2 subD (eVar 3) (eK (.int 1))) (aNil)))))) env xs S Q
 | [],r,gs,S,Q,tp,h=>h [] r gs S rfl (by simp) (by simp[Tm.deps]) (by simp[Tm.sizes]) tp .refl
 |x::xs,r,gs,S,Q,tp,h=>by
  simp only[lcSat,gName,tYesD,sat_ok,if_true]
  refine sat_mono (one_new ih hsc hsn e0 e1 e2' e3 x tp) ?_
  rintro d S1 ⟨u,r1,gs1,rfl,u1,u2,u3,t1,f1⟩
  refine news ih hsc hsn e0 e1 e2' e3 xs r1 gs1 S1 _ t1 fun us r2 gs2 S2 a1 a2 a3 a4 a5 a6=> ?_
  refine h (u::us) r2 gs2 S2 (by simp[a1]) (fun y hy=> ?_) (by simp only[Tm.deps];omega) (by simp only[Tm.sizes,List.length_cons,Nat.add_mul,Nat.one_mul];omega) a5 (f1.trans a6)
  rcases List.mem_cons.mp hy with rfl|hy
  ·exact u1
  ·exact a2 y hy
theorem newsN (ih:IsNw nw L) (hsc:scope.length+L≤200) (hsn:∀s ∈ scope,NameOk s) (e0:env[0]? =some (some (.obj n))) (e1:env[1]? =some (some (.obj p))) (e2':env[2]? =some (some (.lst (scope.map .str)))) (e3:env[3]? =some (some (.int ((L+1:Nat):Int)))) {N:Nat} (h1:N≠n) (h2:N≠p) (h3:N≠g):∀(xs:List D) (r:Int) (gs:List Str) (S:Store) (acc:List Tm) (Q:D→Store→Prop),TP n p g hs wr r gs S→S[N]? =some (.lst (Tm.ds acc))→acc.length+xs.length≤900→
 (∀ us r' gs' S',us.length=xs.length→(∀ u ∈ us,Wt hs u)→Tm.deps us≤L+1→Tm.sizes us≤xs.length*szN L→TP n p g hs wr r' gs' S'→S'[N]? =some (.lst (Tm.ds (acc++us)))→S.length≤S'.length→(∀ m o,m≠n→m≠p→m≠g→m≠N→S[m]? =some o→S'[m]? =some o)→Q (.obj N) S')→
 (lcN N (gName 6) tYesD (eN (callK nw []) (aCons (eVar 0) (aCons (eVar 1) (aCons (eVar 2) (aCons (e2 subD (eVar 3) (eK (.int 1))) (aNil)))))) env xs S).sat Q
 | [],r,gs,S,acc,Q,tp,hN,hl,h=>by
   unfold lcN
   exact .mk (h [] r gs S rfl (by simp) (by simp[Tm.deps]) (by simp[Tm.sizes]) tp (by simpa using hN) (Nat.le_refl _) fun _ _ _ _ _ _ e=>e)
 |x::xs,r,gs,S,acc,Q,tp,hN,hl,h=>by
  unfold lcN
  simp only[gName,tYesD,R.nox,R.bind]
  obtain⟨d,S1,e,u,r1,gs1,rfl,u1,u2,u3,t1,f1⟩:=sat_ex.mp (one_new ih hsc hsn e0 e1 e2' e3 x tp)
  rw[e]
  have hN1:=f1.fr N _ h1 h2 h3 hN
  simp only[R.nox,R.bind,hN1]
  simp only[List.length_cons] at hl
  rw[if_pos (by rw[Tm.ds_len];exact Nat.lt_of_lt_of_le (by omega:acc.length<1000) (by decide))]
  have hlt:N<S1.length:=(List.getElem?_eq_some_iff.mp hN1).1
  have fle:=f1.le
  refine newsN ih hsc hsn e0 e1 e2' e3 h1 h2 h3 xs r1 gs1 (S1.set N (.lst (Tm.ds acc++ [u.d]))) (acc++ [u]) Q (t1.put _ h1 h2 h3) ?_ (by simp only[List.length_append,List.length_cons,List.length_nil];omega) fun us r2 gs2 S2 a1 a2 a3 a4 a5 a6 a7 a8=> ?_
  ·rw[List.getElem?_set_self hlt,Tm.ds_app];rfl
  ·refine h (u::us) r2 gs2 S2 (by simp[a1]) (fun y hy=> ?_) (by simp only[Tm.deps];omega) (by simp only[Tm.sizes,List.length_cons,Nat.add_mul,Nat.one_mul];omega) a5 (by rw[a6];simp) (by rw[List.length_set] at a7;omega) fun m o b1 b2 b3 b4 e=> ?_
   ·rcases List.mem_cons.mp hy with rfl|hy
    ·exact u1
    ·exact a2 y hy
   ·exact a8 m o b1 b2 b3 b4 (by rw[List.getElem?_set_ne (Ne.symm b4)];exact f1.fr m o b1 b2 b3 e)
end
theorem popI {n p g:Nat} {hs:List (Str × Str)} {wr:List Str} {r:Int} {gs:List Str} {S:Store} (h:TP n p g hs wr r gs S) {i:Nat} (hi:i<gs.length):popD (.obj g) [.int ((i:Nat):Int)] S= .ok (.str gs[i]) (S.set g (.lst ((gs.eraseIdx i).map .str))):=by
 have hl:=h.gl
 have e1:ixN (gs.map D.str).length ((i:Nat):Int)=some i:=by
  rw[List.length_map]
  unfold ixN
  simp;omega
 have e2:(gs.map D.str)[i]? =some (.str gs[i]):=by rw[List.getElem?_map,List.getElem?_eq_getElem hi];rfl
 have e3:(gs.map D.str).eraseIdx i=(gs.eraseIdx i).map D.str:=by simp[List.eraseIdx_eq_take_drop_succ]
 unfold popD
 simp only[lstAt,h.gO,e1,e2]
 rw[if_pos (by omega),e3]
theorem ne0_strs {g:Nat} {gs:List Str} {S:Store} (h:S[g]? =some (.lst (gs.map .str))):ne0D (.obj g) (.lst []) S= .ok (.bl (!gs.isEmpty)) S:=by
 unfold ne0D
 simp only[asL,h]
 cases gs<;>rfl
theorem frY_put {n p g N:Nat} {S S':Store} (h:FrY n p g S S') (hN:S.length≤N) (o:O):FrY n p g S (S'.set N o):=⟨by rw[List.length_set];exact h.le,fun m o' b1 b2 b3 e=>by
 have:=(List.getElem?_eq_some_iff.mp e).1
 rw[List.getElem?_set_ne (by omega)];exact h.fr m o' b1 b2 b3 e⟩
theorem rangeD_len (lo hi:Int):(rangeD lo hi).length=(hi-lo).toNat:=by simp[rangeD]
theorem isNw {tk pk lp nw:FN} {L:Nat} (ht:IsTake tk) (hp:IsPick2 pk) (hlp:IsLp lp) (ih:∀L',L=L'+1→IsNw nw L'):IsNw (run 4 14 (mNew tk pk lp nw)) L:=fun n p g hs wr r gs S scope tp hsc hsn=>by
 rw[sat_run]
 refine⟨rfl,?_⟩
 unfold mNew
 simp only[List.map_cons,List.map_nil,List.cons_append,List.nil_append,List.length_cons,List.length_nil,List.replicate,Nat.zero_add,Nat.reduceAdd,Nat.reduceSub]
 rw[ssat_seq,ssat_asg]
 simp only[sat_e2,sat_eVar,sat_eK,List.getElem?_cons_succ,List.getElem?_cons_zero]
 rw[tp.room,sat_ok,sub_int,sat_ok,ssat_gSub]
 simp only[sat_eVar,sat_eK,List.getElem?_cons_succ,List.getElem?_cons_zero]
 obtain⟨q1,tp1,f1⟩:=tp.less
 refine⟨_,q1,?_⟩
 generalize S.set p (tpO hs wr g (r-1))=S1 at q1 tp1 f1
 rw[ssat_seq,ssat_asg]
 simp only[sat_eN,sat_aCons,sat_aNil,sat_eVar,sat_eK,List.getElem?_cons_succ,List.getElem?_cons_zero,callK_eq,List.append_nil]
 refine sat_mono (ht n S1 10 tp1.hd (by decide) (by decide)) ?_
 rintro d S2 ⟨⟨lot,rfl,l0,l1⟩,f2⟩
 have tp2:=tp1.of f2
 have fy2:FrY n p g S S2:=f1.trans (.of f2)
 rw[gName_eq,ssat_nx]
 simp only[List.set_cons_succ,List.set_cons_zero]
 refine seq_rule (fun e S3=>e= [some (.obj n),some (.obj p),some (.lst (scope.map .str)),some (.int ((L:Nat):Int)),some (.int lot),none,none,none,none,none,none,none,none,none] ∧S3=S2∧L≠0) ?_ ?_
 ·have leaf:∀N:EnvD→Store→Prop,((sRet (eN (callK lp []) (aCons (eVar 0) (aCons (eVar 1) (aCons (eVar 2) (aNil)))))) [some (.obj n),some (.obj p),some (.lst (scope.map .str)),some (.int ((L:Nat):Int)),some (.int lot),none,none,none,none,none,none,none,none,none] S2).sat N (fun d S'=>∃(u:Tm) (r':Int) (gs':List Str),d=u.d∧Wt hs u∧u.dep≤L+1∧u.size≤szN L∧TP n p g hs wr r' gs' S'∧FrY n p g S S') (fun _ _=>False) fun _ _=>False:=fun N=>by
   rw[ssat_sRet]
   simp only[sat_eN,sat_aCons,sat_aNil,sat_eVar,List.getElem?_cons_succ,List.getElem?_cons_zero,callK_eq,List.append_nil]
   refine sat_mono (hlp n p g hs wr (r-1) gs S2 scope tp2 (by omega) hsn) ?_
   rintro d S3 ⟨u,rfl,u1,u2,u3,f3⟩
   have:=szN_pos L
   exact⟨u,r-1,gs,rfl,u1,by omega,by omega,tp2.of f3,fy2.trans (.of f3)⟩
  rw[ssat_if,sat_tOr]
  simp only[sat_tOfE,sat_e2,sat_eVar,sat_eK,List.getElem?_cons_succ,List.getElem?_cons_zero]
  rw[eq_int,sat_ok,blD_bl,sat_ok]
  by_cases hL:((L:Nat):Int)=0
  ·rw[if_pos (decide_eq_true hL),if_pos trivial];exact leaf _
  rw[if_neg (by simpa using hL),sat_tOr]
  simp only[sat_tOfE,sat_e2,sat_eVar,sat_eK,List.getElem?_cons_succ,List.getElem?_cons_zero]
  rw[tp2.room,sat_ok,lt_int,sat_ok,blD_bl,sat_ok]
  by_cases hr:r-1<5
  ·rw[if_pos (decide_eq_true hr),if_pos trivial];exact leaf _
  rw[if_neg (by simpa using hr),lt_int,sat_ok,blD_bl,sat_ok]
  by_cases h3:lot<3
  ·rw[if_pos (decide_eq_true h3)];exact leaf _
  rw[if_neg (by simpa using h3),ssat_skip]
  exact⟨rfl,rfl,by omega⟩
 rintro e S3 ⟨rfl,rfl,hL⟩
 obtain⟨L,rfl⟩:∃L',L=L'+1:=⟨L-1,by omega⟩
 have ihL:=ih L rfl
 have hpos:=szN_pos L
 rw[ssat_seq,ssat_if]
 simp only[sat_tOfE,sat_e2,sat_eVar,sat_eK,List.getElem?_cons_succ,List.getElem?_cons_zero]
 rw[lt_int,sat_ok,blD_bl,sat_ok]
 by_cases h6:lot<6
 ·rw[if_pos (decide_eq_true h6)]
  rw[ssat_seq,ssat_asg,sat_eLcN]
  simp only[sat_iArgs,sat_aCons,sat_aNil,sat_eN,sat_e2,sat_eVar,sat_eK,List.getElem?_cons_succ,List.getElem?_cons_zero,callK_eq,List.append_nil]
  refine sat_mono (ht n S3 3 tp2.hd (by decide) (by decide)) ?_
  rintro d S4 ⟨⟨j,rfl,j0,j1⟩,f4⟩
  rw[add_int,sat_ok,sat_range1]
  refine⟨by simp[okRng];omega,?_⟩
  have hrl:=rangeD_len 0 (1+j)
  have tp4:=tp2.of f4
  have lt4:=tp4.lt
  refine⟨small (by omega),?_⟩
  simp only[wipeD,List.set_cons_succ,List.set_cons_zero]
  refine newsN (N:=S4.length) (env:= [some (.obj n),some (.obj p),some (.lst (scope.map .str)),some (.int ((L+1:Nat):Int)),some (.int lot),none,none,none,none,none,none,none,none,none]) ihL (by omega) hsn rfl rfl rfl rfl (by omega) (by omega) (by omega) (rangeD 0 (1+j)) (r-1) gs (S4++ [.lst []]) [] _ (tp4.app _) (by simp[Tm.ds]) (by simp;omega) fun us r5 gs5 S5 a1 a2 a3 a4 tp5 a6 a7 a8=> ?_
  have fy5:FrY n p g S S5:=fy2.trans ((FrY.of f4).trans ⟨by simp at a7;omega,fun m o b1 b2 b3 e=>a8 m o b1 b2 b3 (by have:=(List.getElem?_eq_some_iff.mp e).1;omega) (by rw[List.getElem?_append_left (List.getElem?_eq_some_iff.mp e).1];exact e)⟩)
  rw[List.nil_append] at a6
  have hul:us.length≤3:=by omega
  have hS4:S.length≤S4.length:=by have:=fy2.le;have:=f4.le;omega
  rw[gName_eq,ssat_nx]
  simp only[List.set_cons_succ,List.set_cons_zero]
  rw[ssat_seq,ssat_asg,sat_eLc]
  simp only[sat_iSeq,sat_e2,sat_eVar,sat_eK,List.getElem?_cons_succ,List.getElem?_cons_zero]
  rw[tp5.holes,sat_ok,itemsD_lst,sat_ok]
  refine⟨small (by rw[List.length_map];have:=tp5.hl;omega),?_⟩
  simp only[wipeD,List.set_cons_succ,List.set_cons_zero]
  refine lc_pure hoD hoD (fun x:Str × Str=>decide (x.1=("rest" :Str))) (fun x hx=>⟨_,by rw[gName_eq],of_sat (by
   simp only[List.set_cons_succ,List.set_cons_zero,sat_tOfE,sat_e2,sat_eVar,sat_eK,List.getElem?_cons_succ,List.getElem?_cons_zero]
   rw[show ixD (hoD x) (.int 0) S5= .ok (.str x.1) S5 from rfl,sat_ok,eq_strs,sat_ok,blD_bl,sat_ok,eqdec]
   exact⟨rfl,rfl⟩),fun _=>rfl⟩) ?_
  rw[gName_eq,ssat_nx]
  simp only[List.set_cons_succ,List.set_cons_zero]
  have hfl:(hs.filter fun x:Str × Str=>decide (x.1=("rest" :Str))).length≤100:=Nat.le_trans (List.length_filter_le _ _) tp.hl
  have hfo:∀x ∈ hs.filter fun x:Str × Str=>decide (x.1=("rest" :Str)),x.1 ∈ HW∧NameOk x.2:=fun x hx=>tp.ho x (List.mem_filter.mp hx).1
  have hfm:∀x ∈ hs.filter fun x:Str × Str=>decide (x.1=("rest" :Str)),x ∈ hs:=fun x hx=>(List.mem_filter.mp hx).1
  generalize (hs.filter fun x:Str × Str=>decide (x.1=("rest" :Str)))=fs at hfl hfo hfm
  refine seq_rule (fun e S6=>(∃ a9:Option D,e= [some (.obj n),some (.obj p),some (.lst (scope.map .str)),some (.int ((L+1:Nat):Int)),some (.int lot),some (.obj S4.length),none,some (.lst (fs.map hoD)),none,a9,none,none,none,none])∧∃vs:List Tm,S6[S4.length]? =some (.lst (Tm.ds vs))∧vs.length≤5∧(∀ v ∈ vs,Wt hs v)∧Tm.deps vs≤L+1∧Tm.sizes vs≤3*szN L+2∧TP n p g hs wr r5 gs5 S6∧FrY n p g S S6) ?_ ?_
  ·rw[ssat_for,sat_iArgs]
   simp only[sat_aCons,sat_aNil,sat_eN,sat_e2,sat_eVar,sat_eK,List.getElem?_cons_succ,List.getElem?_cons_zero,callK_eq,List.append_nil]
   refine sat_mono (ht n S5 3 tp5.hd (by decide) (by decide)) ?_
   rintro d S6 ⟨⟨z,rfl,z0,z1⟩,f6⟩
   have tp6:=tp5.of f6
   rw[sat_mkLst]
   refine⟨small (by simp),?_⟩
   rw[show ne0D (.lst (fs.map hoD)) (.lst []) S6= .ok (.bl (!fs.isEmpty)) S6 by unfold ne0D;simp only[asL];cases fs<;>rfl,sat_ok]
   obtain⟨b,hb,eb⟩:∃b:Int,(b=0∨(b=1∧fs≠ []))∧intD [.bl (!fs.isEmpty)] S6= .ok (.int b) S6:=by
    cases fs with
    |nil=>exact⟨0, .inl rfl,rfl⟩
    |cons f0 fs=>exact⟨1, .inr ⟨rfl,by simp⟩,rfl⟩
   rw[eb,sat_ok,mul_int]
   refine⟨mulOk_r (by omega),?_⟩
   rw[sat_range1]
   have hzb:0≤z*b∧z*b≤2∧(0<z*b→fs≠ []):=by
    rcases hb with rfl|⟨rfl,h⟩
    ·simp
    ·rw[Int.mul_one];exact⟨z0,by omega,fun _=>h⟩
   obtain⟨zb,hzb'⟩:∃zb,zb=z*b:=⟨_,rfl⟩
   rw[← hzb'] at hzb ⊢
   refine⟨by simp[okRng];omega,?_⟩
   have hrl6:=rangeD_len 0 zb
   refine for_rule (fun j e S6=>(∃ a9:Option D,e= [some (.obj n),some (.obj p),some (.lst (scope.map .str)),some (.int ((L+1:Nat):Int)),some (.int lot),some (.obj S4.length),none,some (.lst (fs.map hoD)),none,a9,none,none,none,none])∧∃vs:List Tm,S6[S4.length]? =some (.lst (Tm.ds vs))∧vs.length≤3+j∧(∀ v ∈ vs,Wt hs v)∧Tm.deps vs≤L+1∧Tm.sizes vs≤3*szN L+j∧TP n p g hs wr r5 gs5 S6∧FrY n p g S S6) ⟨⟨_,rfl⟩,us,f6.fr _ _ (by omega) a6,by omega,a2,a3,?_,tp6,fy5.trans (.of f6)⟩ ?_ ?_
   ·have:us.length*szN L≤3*szN L:=Nat.mul_le_mul_right _ hul
    rw[a1] at this
    omega
   ·rintro i hi e S7 ⟨⟨a9,rfl⟩,vs,v1,v2,v3,v4,v5,tp7,fy7⟩
    rw[gName_eq,ssat_nx]
    simp only[List.set_cons_succ,List.set_cons_zero]
    rw[ssat_sExpr]
    simp only[sat_eBM,sat_aCons,sat_aNil,sat_eN,sat_e2,sat_eVar,sat_eK,List.getElem?_cons_succ,List.getElem?_cons_zero,callK_eq,List.append_nil]
    refine⟨mtD_obj v1,?_⟩
    rw[show lenD [.obj S4.length] S7= .ok (.int ((vs.length:Nat):Int)) S7 by simp[lenD,asL,v1,Tm.ds_len],sat_ok,add_int,sat_ok]
    refine sat_mono (ht n S7 _ tp7.hd (by omega) (by omega)) ?_
    rintro d S8 ⟨⟨k,rfl,k0,k1⟩,f8⟩
    have hfne:fs≠ [] :=hzb.2.2 (by omega)
    refine sat_mono (hp n S8 _ _ f8.hd (.lst _) (by intro e;rw[List.map_eq_nil_iff] at e;exact hfne e) (by rw[List.length_map];omega)) ?_
    rintro d S9 ⟨hm,f9⟩
    obtain⟨x,hx,rfl⟩:=List.mem_map.mp hm
    have f89:=f8.trans f9
    have v1':=f89.fr _ _ (by omega) v1
    have tp9:=tp7.of f89
    obtain⟨kk,rfl⟩:∃kk:Nat,k=kk:=⟨k.toNat,by omega⟩
    have ein:insertD (.obj S4.length) [.int ((kk:Nat):Int),hoD x] S9= .ok .non (S9.set S4.length (.lst (Tm.ds (vs.take kk++ [.nd x.1 x.2 []] ++vs.drop kk)))):=by
     unfold insertD
     simp only[lstAt,v1']
     rw[if_pos ⟨by rw[Tm.ds_len];exact Nat.lt_of_lt_of_le (by omega:vs.length<1000) (by decide),by omega,by omega⟩]
     simp[Tm.ds_map,hoD]
    rw[ein,sat_ok]
    have pm:(vs.take kk++ [Tm.nd x.1 x.2 []] ++vs.drop kk).Perm (.nd x.1 x.2 [] ::vs):=by
     rw[List.append_assoc]
     refine List.perm_middle.trans ?_
     show(Tm.nd x.1 x.2 [] ::(vs.take kk++vs.drop kk)).Perm _
     rw[List.take_append_drop]
    have l9:S4.length<S9.length:=(List.getElem?_eq_some_iff.mp v1').1
    refine⟨⟨_,rfl⟩,vs.take kk++ [.nd x.1 x.2 []] ++vs.drop kk,List.getElem?_set_self l9,?_,?_,?_,?_,tp9.put _ (by omega) (by omega) (by omega),?_⟩
    ·rw[pm.length_eq,List.length_cons];omega
    ·intro v hv
     rcases List.mem_cons.mp (pm.mem_iff.mp hv) with rfl|h
     ·exact hole_wt (hfo x hx) (hfm x hx)
     ·exact v3 v h
    ·rw[deps_perm pm]
     simp only[Tm.deps,Tm.dep];omega
    ·rw[sizes_perm pm]
     simp only[Tm.sizes,Tm.size];omega
    ·exact frY_put (fy7.trans (.of f89)) hS4 _
   ·rintro e S7 ⟨h1,vs,v1,v2,v3,v4,v5,tp7,fy7⟩
    rw[hrl6] at v2 v5
    exact⟨h1,vs,v1,by omega,v3,v4,by omega,tp7,fy7⟩
  rintro e S6 ⟨⟨a9,rfl⟩,vs,v1,v2,v3,v4,v5,tp6,fy6⟩
  rw[ssat_sRet]
  simp only[sat_eN,sat_aCons,sat_aNil,sat_eVar,sat_eK,List.getElem?_cons_succ,List.getElem?_cons_zero,callK_eq,List.append_nil]
  rw[sat_mkLst]
  refine⟨small (by simp),?_⟩
  refine sat_mono (hp n S6 _ _ tp6.hd (.lst _) (by simp) (by simp)) ?_
  rintro d S7 ⟨hm,f7⟩
  rw[tuple_obj (f7.fr _ _ (by omega) v1),sat_ok]
  obtain⟨w,hw,rfl⟩:∃w,(w ∈ WORDS∧w ∉ HW)∧d= .str w:=by
   simp only[List.mem_cons,List.not_mem_nil,or_false] at hm
   rcases hm with rfl|rfl|rfl|rfl|rfl
   all_goals exact⟨_,by decide +kernel,rfl⟩
  rw[sat_mkTup]
  refine⟨small (by simp),?_⟩
  exact⟨.nd w "" vs,r5,gs5,rfl, .nd hw.1 (.inl rfl) (by omega) (fun h=>absurd h hw.2) v3,by simp only[Tm.dep];omega,by simp only[Tm.size,szN];omega,tp6.of f7,fy6.trans (.of f7)⟩
 rw[if_neg (by simpa using h6),ssat_skip]
 refine seq_rule (fun e S4=>e= [some (.obj n),some (.obj p),some (.lst (scope.map .str)),some (.int ((L+1:Nat):Int)),some (.int lot),none,none,none,none,none,none,none,none,none] ∧S4=S3) ?_ ?_
 ·rw[ssat_if,sat_tAnd]
  simp only[sat_tOfE,sat_e2,sat_eN,sat_aNil,sat_eVar,sat_eK,List.getElem?_cons_succ,List.getElem?_cons_zero]
  rw[lt_int,sat_ok,blD_bl,sat_ok]
  by_cases h9:lot<9
  ·rw[if_pos (decide_eq_true h9),tp2.givers,sat_ok,sat_mkLst]
   refine⟨small (by simp),?_⟩
   rw[ne0_strs tp2.gO,sat_ok,blD_bl,sat_ok]
   by_cases hg:gs= []
   ·subst hg
    rw[if_neg (by simp),ssat_skip]
    exact⟨rfl,rfl⟩
   have hgl:0<gs.length:=List.length_pos_iff.mpr hg
   rw[if_pos (by simpa using hg)]
   rw[ssat_seq,ssat_asg]
   simp only[sat_eBM,sat_aCons,sat_aNil,sat_eN,sat_e2,sat_eVar,sat_eK,List.getElem?_cons_succ,List.getElem?_cons_zero,callK_eq,List.append_nil]
   rw[tp2.givers,sat_ok]
   refine⟨mtD_obj tp2.gO,?_⟩
   rw[tp2.givers,sat_ok,show lenD [.obj g] S3= .ok (.int ((gs.length:Nat):Int)) S3 by simp[lenD,asL,tp2.gO],sat_ok]
   refine sat_mono (ht n S3 _ tp2.hd (by omega) (by have:=tp2.gl;omega)) ?_
   rintro d S4 ⟨⟨i,rfl,i0,i1⟩,f4⟩
   obtain⟨i,rfl⟩:∃i':Nat,i=i':=⟨i.toNat,by omega⟩
   have tp4:=tp2.of f4
   have hi:i<gs.length:=by omega
   rw[popI tp4 hi,sat_ok,gName_eq,ssat_nx]
   simp only[List.set_cons_succ,List.set_cons_zero]
   have hgo:NameOk gs[i] :=tp.go _ (List.getElem_mem hi)
   obtain⟨tp5,fy5⟩:=tp4.giv (gs':=gs.eraseIdx i) (fun s hs'=>tp.go s (List.mem_of_mem_eraseIdx hs')) (by have:=tp2.gl;have:=List.length_eraseIdx_le gs i;omega)
   generalize S4.set g (.lst ((gs.eraseIdx i).map .str))=S5 at tp5 fy5
   have el':(((L+1:Nat):Int)-1)=(L:Int):=by omega
   rw[ssat_seq,ssat_asg]
   simp only[sat_eN,sat_aCons,sat_aNil,sat_e2,sat_eVar,sat_eK,List.getElem?_cons_succ,List.getElem?_cons_zero,callK_eq,List.append_nil]
   rw[sub_int,sat_ok,el']
   refine sat_mono (ihL n p g hs wr _ _ S5 scope tp5 (by omega) hsn) ?_
   rintro d S6 ⟨u,r6,gs6,rfl,u1,u2,u3,tp6,fy6⟩
   rw[gName_eq,ssat_nx]
   simp only[List.set_cons_succ,List.set_cons_zero]
   rw[ssat_sRet]
   simp only[sat_eN,sat_aCons,sat_aNil,sat_e2,sat_eVar,sat_eK,List.getElem?_cons_succ,List.getElem?_cons_zero,callK_eq,List.append_nil]
   rw[sat_mkLst]
   refine⟨small (by simp),?_⟩
   refine sat_mono (hp n S6 _ _ tp6.hd (.lst _) (by simp) (by simp)) ?_
   rintro d S7 ⟨hm,f7⟩
   obtain⟨w,hw,rfl⟩:∃w,(w ∈ WORDS∧w ∉ HW)∧d= .str w:=by
    simp only[List.mem_cons,List.not_mem_nil,or_false] at hm
    rcases hm with rfl|rfl
    all_goals exact⟨_,by decide +kernel,rfl⟩
   rw[sat_mkLst]
   refine⟨small (by simp),?_⟩
   rw[show (D.lst [.str gs[i]])= .lst ([gs[i]].map .str) from rfl,add_lst (small (by simp;omega)),sat_ok,←List.map_append,sub_int,sat_ok,el']
   refine sat_mono (ihL n p g hs wr _ _ S7 (scope++ [gs[i]]) (tp6.of f7) (by rw[List.length_append];simp;omega) fun s hs'=> ?_) ?_
   ·rcases List.mem_append.mp hs' with h|h
    ·exact hsn s h
    ·rw[List.mem_singleton.mp h];exact hgo
   rintro d S8 ⟨v,r8,gs8,rfl,v1,v2,v3,tp8,fy8⟩
   rw[sat_mkTup]
   refine⟨small (by simp),?_⟩
   rw[sat_mkTup]
   refine⟨small (by simp),?_⟩
   refine⟨.nd w gs[i] [u,v],r8,gs8,rfl, .nd hw.1 (.inr hgo) (by simp) (fun h=>absurd h hw.2) ?_,by simp only[Tm.dep,Tm.deps];omega,by simp only[Tm.size,Tm.sizes,szN];omega,tp8,((((fy2.trans (.of f4)).trans fy5).trans fy6).trans (.of f7)).trans fy8⟩
   intro x hx
   simp only[List.mem_cons,List.not_mem_nil,or_false] at hx
   rcases hx with rfl|rfl
   ·exact u1
   ·exact v1
  ·rw[if_neg (by simpa using h9),if_neg Bool.false_ne_true,ssat_skip]
   exact⟨rfl,rfl⟩
 rintro e S4 ⟨rfl,rfl⟩
 rw[ssat_seq,ssat_asg]
 simp only[sat_eN,sat_aCons,sat_aNil,sat_e2,sat_eVar,sat_eK,List.getElem?_cons_succ,List.getElem?_cons_zero,callK_eq,List.append_nil]
 refine sat_mono (ht n S4 3 tp2.hd (by decide) (by decide)) ?_
 rintro d S5 ⟨⟨j,rfl,j0,j1⟩,f5⟩
 have tp5:=tp2.of f5
 rw[add_int,sat_ok,gName_eq,ssat_nx]
 simp only[List.set_cons_succ,List.set_cons_zero]
 obtain⟨w,hw,ew⟩:∃w,(w ∈ WORDS∧w ∉ HW)∧∀S,ixD (.lst [.str "say", .str "less", .str "if"]) (.int (1+j-1)) S= .ok (.str w) S:=by
  have:j=0∨j=1∨j=2:=by omega
  rcases this with rfl|rfl|rfl
  ·exact⟨"say",by decide +kernel,fun S=>rfl⟩
  ·exact⟨"less",by decide +kernel,fun S=>rfl⟩
  ·exact⟨"if",by decide +kernel,fun S=>rfl⟩
 rw[ssat_seq,ssat_asg]
 simp only[sat_eN,sat_aCons,sat_aNil,sat_e2,sat_eVar,sat_eK,List.getElem?_cons_succ,List.getElem?_cons_zero]
 rw[sat_mkLst]
 refine⟨small (by simp),?_⟩
 rw[sub_int,sat_ok,ew,sat_ok,gName_eq,ssat_nx]
 simp only[List.set_cons_succ,List.set_cons_zero]
 rw[ssat_sRet]
 simp only[sat_eN,sat_aCons,sat_aNil,sat_eVar,sat_eK,List.getElem?_cons_succ,List.getElem?_cons_zero]
 rw[sat_eLc]
 simp only[sat_iArgs,sat_aCons,sat_aNil,sat_eVar,List.getElem?_cons_succ,List.getElem?_cons_zero]
 rw[sat_range1]
 refine⟨by simp[okRng];omega,?_⟩
 have hrl:=rangeD_len 0 (1+j)
 refine⟨small (by omega),?_⟩
 simp only[wipeD,List.set_cons_succ,List.set_cons_zero]
 refine news (env:= [some (.obj n),some (.obj p),some (.lst (scope.map .str)),some (.int ((L+1:Nat):Int)),some (.int lot),none,none,none,none,none,none,none,some (.int (1+j)),some (.str w)]) ihL (by omega) hsn rfl rfl rfl rfl (rangeD 0 (1+j)) (r-1) gs S5 _ tp5 fun us r6 gs6 S6 a1 a2 a3 a4 tp6 fy6=> ?_
 rw[tuple_lst,sat_ok,sat_mkTup]
 refine⟨small (by simp),?_⟩
 have hul:us.length≤3:=by omega
 have:us.length*szN L≤3*szN L:=Nat.mul_le_mul_right _ hul
 rw[a1] at this
 exact⟨.nd w "" us,r6,gs6,rfl, .nd hw.1 (.inl rfl) (by omega) (fun h=>absurd h hw.2) a2,by simp only[Tm.dep];omega,by simp only[Tm.size,szN];omega,tp6,(fy2.trans (.of f5)).trans fy6⟩
end L3.Tp
namespace L3.Tp
open PySem L2 L3 L3.Ft
open L3.Dr (FrY)
theorem sml_c:16000000≤sizeLine:=by decide
theorem sml {n:Nat} (h:n≤16000000):n≤sizeLine:=Nat.le_trans h sml_c
def IsNoL (f:FN) (k:Nat):Prop:=∀(t:Tm) (S:Store),t.dep≤k→t.size≤60000→(f [t.d] S).sat fun d S'=>d= .lst (Tm.ds t.nodes)∧Grow S S'
theorem isNoL0 (f:FN):IsNoL f 0:=fun t S h=>by have:=t.dep_pos;omega
theorem nodes_loopL (f:FN) {q:Nat} {S0:Store} :∀ {us acc:List Tm} {S:Store} {env:EnvD} {T:D→Store→Prop} {N B C:EnvD→Store→Prop},(∀ t ∈ us,∀S,(f [t.d] S).sat fun d S'=>d= .lst (Tm.ds t.nodes)∧Grow S S')→
 S[q]? =some (.lst (Tm.ds acc))→S0.length≤q→Grow S0 S→env[1]? =some (some (.obj q))→env.length=3→acc.length+Tm.sizes us≤70000→
 (∀ env' S',env'[1]? =some (some (.obj q))→S'[q]? =some (.lst (Tm.ds (acc++Tm.nodesL us)))→Grow S0 S'→N env' S')→
 (forL (gName 2) (sExpr (eBM "list" extendD (eVar 1) (aCons (eN (callK f []) (aCons (eVar 2) (aNil))) (aNil)))) (Tm.ds us) env S).sat N T B C
 | [],acc,S,env,T,N,B,C,hf,hq,hle,gr,he,hl,hz,hN=>by
   simp only[Tm.ds]
   rw[forL_nil]
   refine hN _ _ he ?_ gr
   simpa[Tm.nodesL] using hq
 |t::us,acc,S,env,T,N,B,C,hf,hq,hle,gr,he,hl,hz,hN=>by
  simp only[Tm.ds,Tm.sizes] at hz ⊢
  obtain⟨x0,x1,x2,rfl⟩:∃x0 x1 x2,env= [x0,x1,x2] :=by
   match env,hl with
   | [x0,x1,x2],_=>exact⟨_,_,_,rfl⟩
  have he:x1=some (.obj q):=by simpa using he
  subst he
  rw[forL_cons]
  simp only[gName_eq,ssat_nx,List.set_cons_succ,List.set_cons_zero]
  rw[ssat_sExpr]
  simp only[sat_eBM,sat_eN,sat_aCons,sat_aNil,sat_eVar,List.getElem?_cons_succ,List.getElem?_cons_zero,callK_eq,List.append_nil]
  refine⟨mtD_obj hq,?_⟩
  refine sat_mono (hf t (by simp) S) ?_
  rintro x S2 ⟨rfl,g2⟩
  have hq2:=g2.fr _ _ hq
  have hnl:=Tm.nodes_len t
  refine extend_obj hq2 (sml (by rw[Tm.ds_len,Tm.ds_len];omega)) ?_
  rw[← Tm.ds_app]
  refine nodes_loopL f (us:=us) (acc:=acc++t.nodes) (fun u hu=>hf u (by simp[hu])) ?_ hle ((gr.trans g2).put hle _) rfl rfl (by rw[List.length_append];omega) ?_
  ·rw[List.getElem?_set_self (List.getElem?_eq_some_iff.mp hq2).1]
  ·intro env' S' a1 a2 a3
   refine hN env' S' a1 ?_ a3
   rw[a2];simp[Tm.nodesL]
theorem isNoL {f:FN} {k:Nat} (hf:IsNoL f k):IsNoL (run 1 3 (L3.Wy.mNodesW f)) (k+1):=fun t S hd hs=>by
 rw[sat_run]
 refine⟨rfl,?_⟩
 unfold L3.Wy.mNodesW
 simp only[List.map_cons,List.map_nil,List.cons_append,List.nil_append,List.length_cons,List.length_nil,List.replicate,Nat.zero_add,Nat.reduceAdd,Nat.reduceSub]
 have hse:=Tm.size_eq t
 have hde:=Tm.dep_eq t
 rw[ssat_seq,ssat_asg]
 simp only[sat_eN,sat_aCons,sat_aNil,sat_eVar,sat_mkObj,List.getElem?_cons_zero]
 refine⟨of_eq_true sz1,?_⟩
 simp only[gName_eq,ssat_nx,List.set_cons_succ,List.set_cons_zero]
 rw[ssat_seq,ssat_for,sat_iSeq]
 simp only[sat_e2,sat_eVar,sat_eK,List.getElem?_cons_zero]
 rw[show ixD t.d (.int 2) (S++ [.lst [t.d]])= .ok (.tup (Tm.ds t.parts)) (S++ [.lst [t.d]]) by rw[Tm.d_eq];rfl,sat_ok,itemsD_tup,sat_ok]
 refine nodes_loopL (S0:=S) f (q:=S.length) (us:=t.parts) (acc:= [t]) (fun u hu S=> ?_) (by simp[Tm.ds]) (Nat.le_refl _) (Grow.app S _) rfl rfl (by simp;omega) fun env' S' a1 a2 a3=> ?_
 ·have h1:=Tm.deps_le.mp (Nat.le_refl (Tm.deps t.parts)) u hu
  have h2:=Tm.sizes_mem hu
  exact hf u S (by omega) (by omega)
 ·rw[ssat_sRet,sat_e1]
  simp only[sat_eVar,a1]
  have hn: [t] ++Tm.nodesL t.parts=t.nodes:=by rw[Tm.nodes_eq];rfl
  rw[hn] at a2
  have:frzD (.obj S.length) S'= .ok (.lst (Tm.ds t.nodes)) (S'.set S.length .dead):=by unfold frzD;simp only[a2]
  rw[this,sat_ok]
  exact⟨rfl,a3.put (Nat.le_refl _) _⟩
def G2:List Str:= ["let","each"]
def H4:List Str:= ["plus","times","most","row"]
structure Vry (ps qs:List Tm):Prop where
 len:qs.length≤8
 mem:∀q ∈ qs,q ∈ ps
 siz:Tm.sizes qs≤2*Tm.sizes ps
theorem sizes_sub {a b:List Tm} (h:a.Sublist b):Tm.sizes a≤Tm.sizes b:=by
 induction h with
 |slnil=>exact Nat.le_refl _
 |cons x _ ih=>simp only[Tm.sizes];omega
 |cons_cons x _ ih=>simp only[Tm.sizes];omega
theorem sizes_app:∀a b:List Tm,Tm.sizes (a++b)=Tm.sizes a+Tm.sizes b
 | [],b=>by simp[Tm.sizes]
 |t::a,b=>by simp only[List.cons_append,Tm.sizes,sizes_app a b];omega
theorem ds_take (ps:List Tm) (k:Nat):(Tm.ds ps).take k=Tm.ds (ps.take k):=by simp[Tm.ds_map,List.map_take]
theorem ds_drop (ps:List Tm) (k:Nat):(Tm.ds ps).drop k=Tm.ds (ps.drop k):=by simp[Tm.ds_map,List.map_drop]
theorem ds_rev (ps:List Tm):(Tm.ds ps).reverse=Tm.ds ps.reverse:=by simp[Tm.ds_map]
theorem cut_last {l:List D} :∃a,cutL l (some (-1)) none=l.drop a:=⟨_,by
 unfold cutL
 exact List.take_of_length_le (by rw[List.length_drop,show HT.sIx l.length l.length none=l.length from rfl];exact Nat.le_refl _)⟩
theorem vry_self {ps:List Tm} (h:ps.length≤8):Vry ps ps:=⟨h,fun _ h=>h,by omega⟩
theorem vry0 {ps:List Tm} {k:Nat} (h:ps.length≤8) (hk:k<ps.length):∃qs,cutL (Tm.ds ps) none (some (k:Int))++cutL (Tm.ds ps) (some ((k:Int)+1)) none=Tm.ds qs∧Vry ps qs:=by
 refine⟨ps.take k++ps.drop (k+1),?_,?_,?_,?_⟩
 ·rw[cutL_lo (by rw[Tm.ds_len];omega),show((k:Int)+1)=((k+1:Nat):Int) by omega,cutL_hi (by rw[Tm.ds_len];omega),ds_take,ds_drop,Tm.ds_app]
 ·rw[List.length_append,List.length_take,List.length_drop];omega
 ·intro q hq
  rcases List.mem_append.mp hq with h|h
  ·exact List.mem_of_mem_take h
  ·exact List.mem_of_mem_drop h
 ·rw[sizes_app]
  have:=sizes_sub (List.take_sublist k ps)
  have:=sizes_sub (List.drop_sublist (k+1) ps)
  omega
theorem vry1 {ps:List Tm} :∃qs,cutL (cutL (Tm.ds ps) (some (-1)) none++Tm.ds ps) none (some 6)=Tm.ds qs∧Vry ps qs:=by
 obtain⟨a,e⟩:=cut_last (l:=Tm.ds ps)
 refine⟨(ps.drop a++ps).take 6,?_,?_,?_,?_⟩
 ·rw[e,ds_drop,←Tm.ds_app]
  unfold cutL
  rw[show HT.sIx (Tm.ds (ps.drop a++ps)).length 0 none=0 from rfl,List.drop_zero,←ds_take,List.take_eq_take_iff]
  rw[Tm.ds_len]
  simp only[HT.sIx]
  split<;>omega
 ·rw[List.length_take];omega
 ·intro q hq
  rcases List.mem_append.mp (List.mem_of_mem_take hq) with h|h
  ·exact List.mem_of_mem_drop h
  ·exact h
 ·have:=sizes_sub (List.take_sublist 6 (ps.drop a++ps))
  rw[sizes_app] at this
  have:=sizes_sub (List.drop_sublist a ps)
  omega
theorem vry2 {ps:List Tm} (h:ps.length≤8):Vry ps ps.reverse:=⟨by simpa using h,fun q hq=>by simpa using hq,by rw[sizes_perm (List.reverse_perm ps)];omega⟩
theorem pg_letI {t:Tm} (h:PG t) (hw:t.word ∈ G2):∃(m:Str) (a b:Tm),t= .nd t.word m [a,b] ∧NameOk m∧PG a∧PG b:=by
 cases h with
 |num _ _=>exact absurd hw (by show("num" :Str) ∉ G2;decide +kernel)
 |nam _=>exact absurd hw (by show("name" :Str) ∉ G2;decide +kernel)
 | @hole w m h1 h2=>
   have:∀w ∈ HW,w ∉ G2:=by decide +kernel
   exact absurd hw (this w h1)
 | @nd w m ps f mo r g hs h1 h2 h3 h4 h5 hk=>
   have hw':w ∈ G2:=hw
   have e:pshape w=some (2,2,0,true):=by
    have:∀w ∈ G2,pshape w=some (2,2,0,true):=by decide +kernel
    exact this w hw'
   rw[e] at hs
   cases hs
   have:=rests_add ps
   obtain⟨a,b,rfl⟩:∃a b,ps= [a,b] :=by
    match ps,(by omega:ps.length=2) with
    | [a,b],_=>exact⟨a,b,rfl⟩
   exact⟨m,a,b,rfl,h4 rfl,hk a (by simp),hk b (by simp)⟩
theorem remI {n p g:Nat} {hs:List (Str × Str)} {wr:List Str} {r:Int} {gs:List Str} {S:Store} (h:TP n p g hs wr r gs S) {s:Str} (hm:s ∈ gs):∃gs':List Str,removeD (.obj g) [.str s] S= .ok .non (S.set g (.lst (gs'.map .str)))∧(∀ x ∈ gs',NameOk x)∧gs'.length≤100:=by
 have hg:∀s ∈ gs,PyData.strOk s=true:=fun s hs=>asc_ok (name_asc (h.go s hs))
 have hl:=h.gl
 cases e:ixS s gs with
 |none=>exact absurd hm (L3.Fl.ixS_none.mp e)
 |some j=>
  refine⟨gs.eraseIdx j,?_,fun x hx=>h.go x (List.mem_of_mem_eraseIdx hx),by have:=List.length_eraseIdx_le gs j;omega⟩
  have e3:(gs.map D.str).eraseIdx j=(gs.eraseIdx j).map D.str:=by simp[List.eraseIdx_eq_take_drop_succ]
  have hs:=hg s hm
  unfold removeD
  simp only[lstAt,h.gO,txts_py hg,toPy,hs,if_true,L3.Fl.place_ixS,e,L3.Fl.plain_strs]
  rw[if_pos (by
   simp only[PyData.plain,PyData.depth,Bool.true_and,Bool.and_eq_true,decide_eq_true_eq,List.length_map]
   exact⟨by trivial,small (by omega)⟩),e3]
def mAbout (tk nw ab:FN):SD:=
    sSeq (sAsg (eVar 2) (gTup [4,5,6]))
    (sSeq (sIf (tOr (tAnd (tOfE (e2 neD (eVar 4) (eK (.str "rest")))) (tOfE (e2 eqD (eN (callK tk []) (aCons (eVar 0) (aCons (eK (.int 7)) (aNil)))) (eK (.int 0))))) (tAnd (tOfE (e2 inD (eVar 4) (eN mkTup (aCons (eK (.str "let")) (aCons (eK (.str "each")) (aNil)))))) (tOfE (e2 notInD (eVar 5) (e2 ixD (eVar 1) (eK (.str "givers"))))))) (sRet (eN (callK nw []) (aCons (eVar 0) (aCons (eVar 1) (aCons (eVar 3) (aCons (eK (.int 2)) (aNil))))))) (sSkip))
    (sSeq (sIf (tOfE (e2 inD (eVar 4) (eN mkTup (aCons (eK (.str "let")) (aCons (eK (.str "each")) (aNil)))))) (sSeq (sExpr (eBM "list" removeD (e2 ixD (eVar 1) (eK (.str "givers"))) (aCons (eVar 5) (aNil))))
    (sSeq (sAsg (eIf (tOfE (e2 eqD (eN (callK tk []) (aCons (eVar 0) (aCons (eK (.int 5)) (aNil)))) (eK (.int 0)))) (eBackT (eVar 6)) (eVar 6)) (gName 7))
    (sSeq (sAsg (eN (callK ab []) (aCons (eVar 0) (aCons (eVar 1) (aCons (e2 ixD (eVar 7) (eK (.int 0))) (aCons (eVar 3) (aNil)))))) (gName 8))
    (sRet (eN mkTup (aCons (eVar 4) (aCons (eVar 5) (aCons (eN mkTup (aCons (eVar 8) (aCons (eN (callK ab []) (aCons (eVar 0) (aCons (eVar 1) (aCons (e2 ixD (eVar 7) (eK (.int 1))) (aCons (e2 addD (eVar 3) (eN mkLst (aCons (eVar 5) (aNil)))) (aNil)))))) (aNil)))) (aNil))))))))) (sSkip))
    (sSeq (sIf (tAnd (tOfE (e2 inD (eVar 4) (eN mkTup (aCons (eK (.str "plus")) (aCons (eK (.str "times")) (aCons (eK (.str "most")) (aCons (eK (.str "row")) (aNil)))))))) (tOfE (e2 neD (eVar 6) (eN mkTup (aNil))))) (sSeq (sPar [9,10] (aCons (eN (callK tk []) (aCons (eVar 0) (aCons (eN lenD (aCons (eVar 6) (aNil))) (aNil)))) (aCons (eN (callK tk []) (aCons (eVar 0) (aCons (eK (.int 8)) (aNil)))) (aNil))))
    (sIf (tOfE (e2 ltD (eVar 10) (eK (.int 3)))) (sAsg (e2 ixD (eN mkLst (aCons (e2 addD (eSl (eVar 6) (pNo) (pYes (eVar 9))) (eSl (eVar 6) (pYes (e2 addD (eVar 9) (eK (.int 1)))) (pNo))) (aCons (eSl (e2 addD (eSl (eVar 6) (pYes (e1 negD (eK (.int 1)))) (pNo)) (eVar 6)) (pNo) (pYes (eK (.int 6)))) (aCons (eBackT (eVar 6)) (aNil))))) (eVar 10)) (gName 6)) (sSkip))) (sSkip))
    (sRet (eN mkTup (aCons (eVar 4) (aCons (eVar 5) (aCons (eN tupleD (aCons (eLc (iSeq (eVar 6)) [11] (gName 11) (tYesD) (eN (callK ab []) (aCons (eVar 0) (aCons (eVar 1) (aCons (eVar 11) (aCons (eVar 3) (aNil))))))) (aNil))) (aNil)))))))))
def abZ:Nat→Nat
 |0=>21
 |L+1=>2*abZ L
theorem abZ_pos:∀L,21≤abZ L
 |0=>Nat.le_refl _
 |L+1=>by simp only[abZ];have:=abZ_pos L;omega
def IsAb (f:FN) (L:Nat):Prop:=∀(n p g:Nat) (hs:List (Str × Str)) (wr:List Str) (r:Int) (gs:List Str) (S:Store) (t:Tm) (scope:List Str),TP n p g hs wr r gs S→PG t→Wt hs t→t.dep≤L→scope.length+L≤190→(∀ s ∈ scope,NameOk s)→(f [.obj n, .obj p,t.d, .lst (scope.map .str)] S).sat fun d S'=>∃(u:Tm) (r':Int) (gs':List Str),d=u.d∧Wt hs u∧u.dep≤L+2∧u.size≤abZ L*t.size∧TP n p g hs wr r' gs' S'∧FrY n p g S S'
theorem isAb0 (f:FN):IsAb f 0:=fun n p g hs wr r gs S t scope tp hg _ hd=>by have:=t.dep_pos;omega
section
variable {ab:FN} {L:Nat} {n p g:Nat} {hs:List (Str × Str)} {wr:List Str} {scope:List Str} {env:EnvD}
theorem abouts (ih:IsAb ab L) (hsc:scope.length+L≤190) (hsn:∀s ∈ scope,NameOk s) (e0:env[0]? =some (some (.obj n))) (e1:env[1]? =some (some (.obj p))) (e3:env[3]? =some (some (.lst (scope.map .str)))) (hl:11<env.length):∀(ts:List Tm) (r:Int) (gs:List Str) (S:Store) (Q:List D→Store→Prop),TP n p g hs wr r gs S→(∀ t ∈ ts,PG t∧Wt hs t∧t.dep≤L)→
 (∀ us r' gs' S',us.length=ts.length→(∀ u ∈ us,Wt hs u)→Tm.deps us≤L+2→Tm.sizes us≤abZ L*Tm.sizes ts→TP n p g hs wr r' gs' S'→FrY n p g S S'→Q (Tm.ds us) S')→
 lcSat (gName 11) tYesD (eN (callK ab []) (aCons (eVar 0) (aCons (eVar 1) (aCons (eVar 11) (aCons (eVar 3) (aNil)))))) env (Tm.ds ts) S Q
 | [],r,gs,S,Q,tp,hp,h=>h [] r gs S rfl (by simp) (by simp[Tm.deps]) (by simp[Tm.sizes]) tp .refl
 |t::ts,r,gs,S,Q,tp,hp,h=>by
  have gk:∀j,j≠11→(env.set 11 (some t.d))[j]? =env[j]? :=fun j a=>by rw[List.getElem?_set_ne (Ne.symm a)]
  have g11:(env.set 11 (some t.d))[11]? =some (some t.d):=List.getElem?_set_self hl
  simp only[Tm.ds,lcSat,gName,tYesD,sat_ok,if_true]
  simp only[sat_eN,sat_aCons,sat_aNil,sat_eVar,gk 0 (by decide),gk 1 (by decide),gk 3 (by decide),g11,e0,e1,e3,callK_eq,List.append_nil]
  obtain⟨a,wa,b⟩:=hp t List.mem_cons_self
  refine sat_mono (ih n p g hs wr r gs S t scope tp a wa b hsc hsn) ?_
  rintro d S1 ⟨u,r1,gs1,rfl,u1,u2,u3,t1,f1⟩
  refine abouts ih hsc hsn e0 e1 e3 hl ts r1 gs1 S1 _ t1 (fun x hx=>hp x (List.mem_cons_of_mem _ hx)) fun us r2 gs2 S2 a1 a2 a3 a4 a5 a6=> ?_
  refine h (u::us) r2 gs2 S2 (by simp[a1]) (fun y hy=> ?_) (by simp only[Tm.deps];omega) (by simp only[Tm.sizes,Nat.mul_add];omega) a5 (f1.trans a6)
  rcases List.mem_cons.mp hy with rfl|hy
  ·exact u1
  ·exact a2 y hy
end
theorem isAb {tk nw ab:FN} {L:Nat} (ht:IsTake tk) (hnw:IsNw nw 2) (ih:IsAb ab L):IsAb (run 4 12 (mAbout tk nw ab)) (L+1):=fun n p g hs wr r gs S t scope tp hg htw hd hsc hsn=>by
 have hse:=Tm.size_eq t
 have hde:=Tm.dep_eq t
 have hZ:=abZ_pos L
 have h8:=hg.parts
 have haw:asc t.word=true:=words_asc (L3.PG.word hg)
 have hmul:abZ L*(2*Tm.sizes t.parts)=2*abZ L*Tm.sizes t.parts:=by rw[← Nat.mul_assoc,Nat.mul_comm (abZ L) 2]
 have hbig:abZ (L+1)*t.size=2*abZ L+2*abZ L*Tm.sizes t.parts:=by rw[hse];simp only[abZ,Nat.mul_add,Nat.mul_one]
 rw[sat_run]
 refine⟨rfl,?_⟩
 unfold mAbout
 simp only[List.map_cons,List.map_nil,List.cons_append,List.nil_append,List.length_cons,List.length_nil,List.replicate,Nat.zero_add,Nat.reduceAdd,Nat.reduceSub]
 refine step_asg (S1:=S) (S2:=S) (d:=t.d) (env':= [some (.obj n),some (.obj p),some t.d,some (.lst (scope.map .str)),some (.str t.word),some t.m,some (.tup (Tm.ds t.parts)),none,none,none,none,none]) rfl (by
  have:gTup [4,5,6] (.tup [t.w,t.m, .tup (Tm.ds t.parts)]) [some (.obj n),some (.obj p),some t.d,some (.lst (scope.map .str)),none,none,none,none,none,none,none,none] S= .nx [some (.obj n),some (.obj p),some t.d,some (.lst (scope.map .str)),some t.w,some t.m,some (.tup (Tm.ds t.parts)),none,none,none,none,none] S:=rfl
  rw[← Tm.d_eq,Tm.w_eq] at this
  exact this) ?_
 have inG:∀S,inD (.str t.word) (.tup [.str "let", .str "each"]) S= .ok (.bl (decide (t.word ∈ G2))) S:=fun S=>in_txts (l:=G2) (asc_ok haw) (by decide +kernel)
 have inH:∀S,inD (.str t.word) (.tup [.str "plus", .str "times", .str "most", .str "row"]) S= .ok (.bl (decide (t.word ∈ H4))) S:=fun S=>in_txts (l:=H4) (asc_ok haw) (by decide +kernel)
 refine seq_rule (fun e S1=>e= [some (.obj n),some (.obj p),some t.d,some (.lst (scope.map .str)),some (.str t.word),some t.m,some (.tup (Tm.ds t.parts)),none,none,none,none,none] ∧TP n p g hs wr r gs S1∧FrY n p g S S1∧(t.word ∈ G2→∃s,t.m= .str s∧s ∈ gs)) ?_ ?_
 ·have newB:∀(S1:Store) (N:EnvD→Store→Prop),TP n p g hs wr r gs S1→FrY n p g S S1→((sRet (eN (callK nw []) (aCons (eVar 0) (aCons (eVar 1) (aCons (eVar 3) (aCons (eK (.int 2)) (aNil))))))) [some (.obj n),some (.obj p),some t.d,some (.lst (scope.map .str)),some (.str t.word),some t.m,some (.tup (Tm.ds t.parts)),none,none,none,none,none] S1).sat N (fun d S'=>∃(u:Tm) (r':Int) (gs':List Str),d=u.d∧Wt hs u∧u.dep≤L+1+2∧u.size≤abZ (L+1)*t.size∧TP n p g hs wr r' gs' S'∧FrY n p g S S') (fun _ _=>False) fun _ _=>False:=fun S1 N tp1 fy1=>by
   rw[ssat_sRet]
   simp only[sat_eN,sat_aCons,sat_aNil,sat_eVar,sat_eK,List.getElem?_cons_succ,List.getElem?_cons_zero,callK_eq,List.append_nil]
   refine sat_mono (hnw n p g hs wr r gs S1 scope tp1 (by omega) hsn) ?_
   rintro d S2 ⟨u,r2,gs2,rfl,u1,u2,u3,tp2,fy2⟩
   have:szN 2=21:=rfl
   exact⟨u,r2,gs2,rfl,u1,by omega,by omega,tp2,fy1.trans fy2⟩
  have second:∀(S1:Store),TP n p g hs wr r gs S1→((tAnd (tOfE (e2 inD (eVar 4) (eN mkTup (aCons (eK (.str "let")) (aCons (eK (.str "each")) (aNil)))))) (tOfE (e2 notInD (eVar 5) (e2 ixD (eVar 1) (eK (.str "givers")))))) [some (.obj n),some (.obj p),some t.d,some (.lst (scope.map .str)),some (.str t.word),some t.m,some (.tup (Tm.ds t.parts)),none,none,none,none,none] S1).sat fun b S2=>S2=S1∧(b=true∨(b=false∧(t.word ∈ G2→∃s,t.m= .str s∧s ∈ gs))):=fun S1 tp1=>by
   rw[sat_tAnd]
   simp only[sat_tOfE,sat_e2,sat_eN,sat_aCons,sat_aNil,sat_eVar,sat_eK,List.getElem?_cons_succ,List.getElem?_cons_zero]
   rw[sat_mkTup]
   refine⟨small (by simp),?_⟩
   rw[inG,sat_ok,blD_bl,sat_ok]
   by_cases hw:t.word ∈ G2
   ·rw[if_pos (decide_eq_true hw),tp1.givers,sat_ok]
    obtain⟨m,a,b,e,hm,_⟩:=pg_letI hg hw
    have em:t.m= .str m:=by rw[e];rfl
    have hgo:∀s ∈ gs,PyData.strOk s=true:=fun s hs=>asc_ok (name_asc (tp.go s hs))
    have en:notInD (.str m) (.obj g) S1= .ok (.bl (!decide (m ∈ gs))) S1:=by
     have:=in_lsts (S:=S1) (s:=m) (l:=gs) (asc_ok (name_asc hm)) hgo
     have e2:memD (.str m) (.obj g) S1=some (decide (m ∈ gs)):=by
      rw[← this]
      simp only[memD,tp1.gO]
     unfold notInD
     rw[e2]
    rw[em,en,sat_ok,blD_bl,sat_ok]
    refine⟨rfl,?_⟩
    by_cases hmg:m ∈ gs
    ·right;exact⟨by simpa using hmg,fun _=>⟨m,rfl,hmg⟩⟩
    ·left;simpa using hmg
   ·rw[if_neg (by simpa using hw)]
    exact⟨by trivial, .inr ⟨by trivial,fun h=>absurd h hw⟩⟩
  rw[ssat_if,sat_tOr,sat_tAnd]
  simp only[sat_tOfE,sat_e2,sat_eN,sat_aCons,sat_aNil,sat_eVar,sat_eK,List.getElem?_cons_succ,List.getElem?_cons_zero,callK_eq,List.append_nil]
  rw[ne_strs,sat_ok,blD_bl,sat_ok]
  have go:∀(S1:Store),TP n p g hs wr r gs S1→FrY n p g S S1→∀K:Bool→Store→Prop,(∀ b,(b=true∨(b=false∧(t.word ∈ G2→∃s,t.m= .str s∧s ∈ gs)))→K b S1)→((tAnd (tOfE (e2 inD (eVar 4) (eN mkTup (aCons (eK (.str "let")) (aCons (eK (.str "each")) (aNil)))))) (tOfE (e2 notInD (eVar 5) (e2 ixD (eVar 1) (eK (.str "givers")))))) [some (.obj n),some (.obj p),some t.d,some (.lst (scope.map .str)),some (.str t.word),some t.m,some (.tup (Tm.ds t.parts)),none,none,none,none,none] S1).sat K:=fun S1 tp1 _ K h=>sat_mono (second S1 tp1) fun b S2 ⟨e,q⟩=>by subst e;exact h b q
  by_cases hr:t.word= "rest"
  ·rw[if_neg (by simp[hr])]
   rw[if_neg Bool.false_ne_true]
   refine go S tp .refl _ fun b hb=> ?_
   rcases hb with rfl|⟨rfl,hb⟩
   ·rw[if_pos rfl];exact newB S _ tp .refl
   ·rw[if_neg Bool.false_ne_true,ssat_skip];exact⟨by trivial,tp, .refl,hb⟩
  ·rw[if_pos (by simpa using hr)]
   refine sat_mono (ht n S 7 tp.hd (by decide) (by decide)) ?_
   rintro d S1 ⟨⟨i,rfl,i0,i1⟩,f1⟩
   have tp1:=tp.of f1
   rw[eq_int,sat_ok,blD_bl,sat_ok]
   by_cases hi:i=0
   ·rw[if_pos (decide_eq_true hi),if_pos trivial];exact newB S1 _ tp1 (.of f1)
   ·rw[if_neg (by simpa using hi)]
    refine go S1 tp1 (.of f1) _ fun b hb=> ?_
    rcases hb with rfl|⟨rfl,hb⟩
    ·rw[if_pos rfl];exact newB S1 _ tp1 (.of f1)
    ·rw[if_neg Bool.false_ne_true,ssat_skip];exact⟨by trivial,tp1, .of f1,hb⟩
 rintro e S1 ⟨rfl,tp1,fy1,hgiv⟩
 rw[ssat_seq,ssat_if]
 simp only[sat_tOfE,sat_e2,sat_eN,sat_aCons,sat_aNil,sat_eVar,sat_eK,List.getElem?_cons_succ,List.getElem?_cons_zero]
 rw[sat_mkTup]
 refine⟨small (by simp),?_⟩
 rw[inG,sat_ok,blD_bl,sat_ok]
 by_cases hw:t.word ∈ G2
 ·rw[if_pos (decide_eq_true hw)]
  obtain⟨m,a,b,e,hm,ha,hb⟩:=pg_letI hg hw
  have em:t.m= .str m:=by rw[e];rfl
  have ep:t.parts= [a,b] :=by rw[e];rfl
  obtain⟨s,es,hsg⟩:=hgiv hw
  obtain rfl:m=s:=by rw[em] at es;cases es;rfl
  have hdab:a.dep≤L∧b.dep≤L:=by
   rw[ep] at hde
   simp only[Tm.deps] at hde
   omega
  have hwab:Wt hs a∧Wt hs b:=⟨htw.kids.2 a (by rw[ep];simp),htw.kids.2 b (by rw[ep];simp)⟩
  have hzab:a.size+b.size=Tm.sizes t.parts:=by rw[ep];simp[Tm.sizes]
  rw[em,ep]
  simp only[Tm.ds]
  obtain⟨gs2,erm,g21,g22⟩:=remI tp1 hsg
  obtain⟨tp2,fy2⟩:=tp1.giv (gs':=gs2) g21 g22
  rw[ssat_seq,ssat_sExpr]
  simp only[sat_eBM,sat_aCons,sat_aNil,sat_e2,sat_eVar,sat_eK,List.getElem?_cons_succ,List.getElem?_cons_zero]
  rw[tp1.givers,sat_ok]
  refine⟨mtD_obj tp1.gO,?_⟩
  rw[erm,sat_ok]
  generalize S1.set g (.lst (gs2.map .str))=S2 at tp2 fy2
  have fy02:=fy1.trans fy2
  refine seq_rule (fun e S3=>∃c d:Tm,((c=a∧d=b)∨(c=b∧d=a))∧e= [some (.obj n),some (.obj p),some t.d,some (.lst (scope.map .str)),some (.str t.word),some (.str m),some (.tup [a.d,b.d]),some (.tup [c.d,d.d]),none,none,none,none] ∧TP n p g hs wr r gs2 S3∧FrY n p g S S3) ?_ ?_
  ·rw[ssat_asg,sat_eIf]
   simp only[sat_tOfE,sat_e2,sat_eN,sat_aCons,sat_aNil,sat_eVar,sat_eK,List.getElem?_cons_succ,List.getElem?_cons_zero,callK_eq,List.append_nil]
   refine sat_mono (ht n S2 5 tp2.hd (by decide) (by decide)) ?_
   rintro d S3 ⟨⟨i,rfl,i0,i1⟩,f3⟩
   rw[eq_int,sat_ok,blD_bl,sat_ok]
   by_cases hi:i=0
   ·rw[if_pos (decide_eq_true hi),sat_eBackT]
    simp only[sat_eVar,List.getElem?_cons_succ,List.getElem?_cons_zero]
    refine⟨_,rfl,?_⟩
    rw[gName_eq,ssat_nx]
    exact⟨b,a, .inr ⟨rfl,rfl⟩,rfl,tp2.of f3,fy02.trans (.of f3)⟩
   ·rw[if_neg (by simpa using hi),gName_eq,ssat_nx]
    exact⟨a,b, .inl ⟨rfl,rfl⟩,rfl,tp2.of f3,fy02.trans (.of f3)⟩
  rintro e3 S3 ⟨c,d,hcd,rfl,tp3,fy3⟩
  obtain⟨hwc,hwd,hc,hd',hcL,hdL,hzz⟩:Wt hs c∧Wt hs d∧PG c∧PG d∧c.dep≤L∧d.dep≤L∧c.size+d.size=Tm.sizes t.parts:=by
   rcases hcd with⟨rfl,rfl⟩|⟨rfl,rfl⟩
   ·exact⟨hwab.1,hwab.2,ha,hb,hdab.1,hdab.2,hzab⟩
   ·exact⟨hwab.2,hwab.1,hb,ha,hdab.2,hdab.1,by omega⟩
  rw[ssat_seq,ssat_asg]
  simp only[sat_eN,sat_aCons,sat_aNil,sat_e2,sat_eVar,sat_eK,List.getElem?_cons_succ,List.getElem?_cons_zero,callK_eq,List.append_nil]
  rw[show ixD (.tup [c.d,d.d]) (.int 0) S3= .ok c.d S3 from rfl,sat_ok]
  refine sat_mono (ih n p g hs wr r gs2 S3 c scope tp3 hc hwc hcL (by omega) hsn) ?_
  rintro x S4 ⟨u,r4,gs4,rfl,u1,u2,u3,tp4,fy4⟩
  rw[gName_eq,ssat_nx]
  simp only[List.set_cons_succ,List.set_cons_zero]
  rw[ssat_sRet]
  simp only[sat_eN,sat_aCons,sat_aNil,sat_e2,sat_eVar,sat_eK,List.getElem?_cons_succ,List.getElem?_cons_zero,callK_eq,List.append_nil]
  rw[show ixD (.tup [c.d,d.d]) (.int 1) S4= .ok d.d S4 from rfl,sat_ok,sat_mkLst]
  refine⟨small (by simp),?_⟩
  rw[show (D.lst [.str m])= .lst ([m].map .str) from rfl,add_lst (small (by simp;omega)),sat_ok,←List.map_append]
  refine sat_mono (ih n p g hs wr r4 gs4 S4 d (scope++ [m]) tp4 hd' hwd hdL (by rw[List.length_append];simp;omega) fun s hs'=> ?_) ?_
  ·rcases List.mem_append.mp hs' with h|h
   ·exact hsn s h
   ·rw[List.mem_singleton.mp h];exact hm
  rintro x S5 ⟨v,r5,gs5,rfl,v1,v2,v3,tp5,fy5⟩
  rw[sat_mkTup]
  refine⟨small (by simp),?_⟩
  rw[sat_mkTup]
  refine⟨small (by simp),?_⟩
  refine⟨.nd t.word m [u,v],r5,gs5,rfl, .nd (L3.PG.word hg) (.inr hm) (by simp) (fun h=>absurd hw ((show ∀w ∈ HW,w ∉ G2 by decide +kernel) _ h)) ?_,by simp only[Tm.dep,Tm.deps];omega,?_,tp5,(fy3.trans fy4).trans fy5⟩
  ·intro x hx
   simp only[List.mem_cons,List.not_mem_nil,or_false] at hx
   rcases hx with rfl|rfl
   ·exact u1
   ·exact v1
  ·rw[hbig,←hzz]
   simp only[Tm.size,Tm.sizes,Nat.mul_add]
   have e1:2*abZ L*c.size=2*(abZ L*c.size):=Nat.mul_assoc _ _ _
   have e2:2*abZ L*d.size=2*(abZ L*d.size):=Nat.mul_assoc _ _ _
   omega
 rw[if_neg (by simpa using hw),ssat_skip]
 refine seq_rule (fun e S2=>∃(qs:List Tm) (a9 a10:Option D),Vry t.parts qs∧(t.parts= [] →qs= [])∧e= [some (.obj n),some (.obj p),some t.d,some (.lst (scope.map .str)),some (.str t.word),some t.m,some (.tup (Tm.ds qs)),none,none,a9,a10,none] ∧TP n p g hs wr r gs S2∧FrY n p g S S2) ?_ ?_
 ·rw[ssat_if,sat_tAnd]
  simp only[sat_tOfE,sat_e2,sat_eN,sat_aCons,sat_aNil,sat_eVar,sat_eK,List.getElem?_cons_succ,List.getElem?_cons_zero]
  rw[sat_mkTup]
  refine⟨small (by simp),?_⟩
  rw[inH,sat_ok,blD_bl,sat_ok]
  by_cases hh:t.word ∈ H4
  rotate_left
  ·rw[if_neg (by simpa using hh),if_neg Bool.false_ne_true,ssat_skip]
   exact⟨t.parts,none,none,vry_self h8.1,id,rfl,tp1,fy1⟩
  rw[if_pos (decide_eq_true hh),sat_mkTup]
  refine⟨small (by simp),?_⟩
  rw[ne_tup0',sat_ok,blD_bl,sat_ok]
  by_cases he:t.parts= []
  ·rw[if_neg (by simp[he,Tm.ds]),ssat_skip]
   exact⟨t.parts,none,none,vry_self h8.1,id,rfl,tp1,fy1⟩
  have hpl:0<t.parts.length:=List.length_pos_iff.mpr he
  rw[if_pos (by
   cases hp:t.parts with
   |nil=>exact absurd hp he
   |cons x xs=>simp[Tm.ds])]
  rw[ssat_seq,ssat_par]
  simp only[sat_eN,sat_aCons,sat_aNil,sat_eVar,sat_eK,List.getElem?_cons_succ,List.getElem?_cons_zero,callK_eq,List.append_nil]
  rw[len_tup,sat_ok,Tm.ds_len]
  refine sat_mono (ht n S1 _ tp1.hd (by omega) (by omega)) ?_
  rintro d S2 ⟨⟨k,rfl,k0,k1⟩,f2⟩
  obtain⟨k,rfl⟩:∃k':Nat,k=k':=⟨k.toNat,by omega⟩
  have hk:k<t.parts.length:=by omega
  refine sat_mono (ht n S2 8 f2.hd (by decide) (by decide)) ?_
  rintro d S3 ⟨⟨i,rfl,i0,i1⟩,f3⟩
  have f23:=f2.trans f3
  simp only[gNames_cons,gNames_nil,ssat_nx,List.set_cons_succ,List.set_cons_zero]
  rw[ssat_if]
  simp only[sat_tOfE,sat_e2,sat_eVar,sat_eK,List.getElem?_cons_succ,List.getElem?_cons_zero]
  rw[lt_int,sat_ok,blD_bl,sat_ok]
  by_cases hi:i<3
  rotate_left
  ·rw[if_neg (by simpa using hi),ssat_skip]
   exact⟨t.parts,_,_,vry_self h8.1,id,rfl,tp1.of f23,fy1.trans (.of f23)⟩
  rw[if_pos (decide_eq_true hi),ssat_asg]
  simp only[sat_eN,sat_aCons,sat_aNil,sat_e2,sat_e1,sat_eSl,sat_pYes,sat_pNo,sat_eVar,sat_eK,List.getElem?_cons_succ,List.getElem?_cons_zero,neg_int,sat_ok,D.int.injEq,exists_eq_left',sat_eBackT,add_int,L3.sl_tup]
  obtain⟨q0,e0,v0⟩:=vry0 h8.1 hk
  obtain⟨q1,e1,v1⟩:=vry1 (ps:=t.parts)
  have z1:(cutL (Tm.ds t.parts) none (some (k:Int))).length≤8:=Nat.le_trans cutL_len (by rw[Tm.ds_len];omega)
  have z2:(cutL (Tm.ds t.parts) (some ((k:Int)+1)) none).length≤8:=Nat.le_trans cutL_len (by rw[Tm.ds_len];omega)
  have z3:(cutL (Tm.ds t.parts) (some (-1)) none).length≤8:=Nat.le_trans cutL_len (by rw[Tm.ds_len];omega)
  rw[add_tup (small (by omega)),sat_ok,add_tup (small (by rw[Tm.ds_len];omega)),sat_ok,L3.sl_tup,sat_ok]
  refine⟨_,rfl,?_⟩
  rw[sat_mkLst]
  refine⟨small (by simp),?_⟩
  rw[e0,e1,ds_rev]
  have:i=0∨i=1∨i=2:=by omega
  rcases this with rfl|rfl|rfl
  ·rw[show ∀a b c:D,ixD (.lst [a,b,c]) (.int 0) S3= .ok a S3 from fun _ _ _=>rfl,sat_ok,gName_eq,ssat_nx]
   exact⟨q0,_,_,v0,fun h=>absurd h he,rfl,tp1.of f23,fy1.trans (.of f23)⟩
  ·rw[show ∀a b c:D,ixD (.lst [a,b,c]) (.int 1) S3= .ok b S3 from fun _ _ _=>rfl,sat_ok,gName_eq,ssat_nx]
   exact⟨q1,_,_,v1,fun h=>absurd h he,rfl,tp1.of f23,fy1.trans (.of f23)⟩
  ·rw[show ∀a b c:D,ixD (.lst [a,b,c]) (.int 2) S3= .ok c S3 from fun _ _ _=>rfl,sat_ok,gName_eq,ssat_nx]
   exact⟨_,_,_,vry2 h8.1,fun h=>absurd h he,rfl,tp1.of f23,fy1.trans (.of f23)⟩
 rintro e S2 ⟨qs,a9,a10,vq,hq0,rfl,tp2,fy2⟩
 rw[ssat_sRet]
 simp only[sat_eN,sat_aCons,sat_aNil,sat_eVar,List.getElem?_cons_succ,List.getElem?_cons_zero]
 rw[sat_eLc]
 simp only[sat_iSeq,sat_eVar,List.getElem?_cons_succ,List.getElem?_cons_zero]
 rw[itemsD_tup,sat_ok]
 refine⟨small (by rw[Tm.ds_len];have:=vq.len;omega),?_⟩
 simp only[wipeD,List.set_cons_succ,List.set_cons_zero]
 refine abouts (env:= [some (.obj n),some (.obj p),some t.d,some (.lst (scope.map .str)),some (.str t.word),some t.m,some (.tup (Tm.ds qs)),none,none,a9,a10,none]) ih (by omega) hsn rfl rfl rfl (by simp) qs r gs S2 _ tp2 (fun q hq=> ?_) fun us r3 gs3 S3 a1 a2 a3 a4 tp3 fy3=> ?_
 ·have hqp:=vq.mem q hq
  have:=Tm.deps_le.mp (Nat.le_refl (Tm.deps t.parts)) q hqp
  exact⟨h8.2 q hqp,htw.kids.2 q hqp,by omega⟩
 rw[tuple_lst,sat_ok,sat_mkTup]
 refine⟨small (by simp),?_⟩
 have hus:1+Tm.sizes us≤abZ (L+1)*t.size:=by
  have h1:abZ L*Tm.sizes qs≤abZ L*(2*Tm.sizes t.parts):=Nat.mul_le_mul_left _ vq.siz
  rw[hmul] at h1
  omega
 have hfy:=fy2.trans fy3
 cases hg with
 | @num i h0 h1=>
   obtain rfl:=hq0 rfl
   obtain rfl:us= [] :=List.length_eq_zero_iff.mp (by simpa using a1)
   exact⟨.num i,r3,gs3,rfl, .num h0 h1,by simp only[Tm.dep];omega,by simpa[Tm.size,Tm.sizes] using hus,tp3,hfy⟩
 | @nam s h0=>
   obtain rfl:=hq0 rfl
   obtain rfl:us= [] :=List.length_eq_zero_iff.mp (by simpa using a1)
   exact⟨.nam s,r3,gs3,rfl, .nam h0,by simp only[Tm.dep];omega,by simpa[Tm.size,Tm.sizes] using hus,tp3,hfy⟩
 | @hole w m h1 h2=>
   obtain rfl:=hq0 rfl
   obtain rfl:us= [] :=List.length_eq_zero_iff.mp (by simpa using a1)
   exact⟨.nd w m [],r3,gs3,rfl,hole_wt (x:=(w,m)) ⟨h1,h2⟩ (by cases htw with|nd _ _ _ h _=>exact h h1),by simp only[Tm.dep,Tm.deps];omega,by simpa[Tm.size,Tm.sizes] using hus,tp3,hfy⟩
 | @nd w m ps f mo rr gg hsh h1 h2 h3 h4 h5 hk=>
   refine⟨.nd w m us,r3,gs3,rfl, .nd (pshape_word hsh).2.2.2.2.2.2.2 ?_ (by rw[a1];exact vq.len) (fun h=>absurd h (pshape_word hsh).2.1) a2,by simp only[Tm.dep];omega,by simpa[Tm.size] using hus,tp3,hfy⟩
   cases gg with
   |true=>exact .inr (h4 rfl)
   |false=>exact .inl (h5 rfl)
end L3.Tp
namespace L3
open PySem L2
noncomputable section
end
variable {S:Store} {n:Nat}
theorem tm_m {t:Tm} (h:Q.Good4 t) (hw:t.word ∈ (["name","let","each"] :List Str)):∃s,t.m= .str s∧NameOk s:=by
 cases h with
 |num _ _=>exact absurd hw (by show("num" :Str) ∉ _;decide +kernel)
 |nam h=>exact⟨_,rfl,h⟩
 | @nd w m ps f mo g h1 h2 h3 h4 h5 h6=>
   refine⟨m,rfl,h4 ?_⟩
   have:w ∈ (["name","let","each"] :List Str):=hw
   simp only[List.mem_cons,List.not_mem_nil,or_false] at this
   rcases this with rfl|rfl|rfl
   ·exact absurd h1 (by rw[show Q.shape4 "name" =none by decide +kernel];simp)
   ·rw[show Q.shape4 "let" =some (2,2,true) by decide +kernel] at h1;cases h1;rfl
   ·rw[show Q.shape4 "each" =some (2,2,true) by decide +kernel] at h1;cases h1;rfl
theorem good4_word {t:Tm} (h:Q.Good4 t):t.word ∈ WORDS:=by
 cases h with
 |num _ _=>show("num" :Str) ∈ _;decide +kernel
 |nam _=>show("name" :Str) ∈ _;decide +kernel
 | @nd w m ps f mo g h1 _ _ _ _ _=>
   show w ∈ WORDS
   unfold Q.shape4 at h1
   simp only[WORDS,List.mem_cons,List.not_mem_nil,or_false]
   split at h1
   ·rename_i c;rcases c with c|c|c<;>simp[c]
   split at h1
   ·rename_i c;simp[c]
   split at h1
   ·rename_i c;simp[c]
   split at h1
   ·rename_i c;rcases c with c|c<;>simp[c]
   split at h1
   ·rename_i c;simp[c]
   split at h1
   ·rename_i c;rcases c with c|c<;>simp[c]
   ·cases h1
theorem good4_parts {t:Tm} (h:Q.Good4 t):∀u ∈ t.parts,Q.Good4 u:=by
 cases h with
 |num _ _=>intro u hu;simp[Tm.parts] at hu
 |nam _=>intro u hu;simp[Tm.parts] at hu
 |nd _ _ _ _ _ h=>exact h
end L3
namespace L3.Tp
open PySem L2 L3 L3.Ft
open L3.Dr (FrY)
theorem add_as {x y:D} {a b:List D} {S:Store} (hx:asL x S=some a) (hy:asL y S=some b) (h:a.length+b.length≤sizeLine):addD x y S= .ok (.lst (a++b)) S:=by
 cases x with
 |lst l=>
  cases hx
  unfold addD
  simp only[show asL (.lst a) S=some a from rfl,hy]
  rw[if_pos h]
 |obj q=>
  unfold addD
  simp only[hx,hy]
  rw[if_pos h]
 | _=>cases hx
theorem pool_as {S S' S'':Store} {d:D} {l:List Str} (h:PoolV S S' d l) (g:Grow S' S''):asL d S''=some (l.map .str):=by
 rcases h with rfl|⟨q,_,rfl,e⟩
 ·rfl
 ·simp only[asL,g.fr _ _ e]
theorem ix_as {x:D} {l:List Str} {S:Store} (h:asL x S=some (l.map .str)) {j:Nat} (hj:j<l.length):ixD x (.int (j:Nat)) S= .ok (.str l[j]) S:=by
 have ha:atI (l.map D.str) ((j:Nat):Int)=some (.str l[j]):=by
  simp[atI,ixN,hj]
 cases x with
 |lst m=>
  cases h
  simp only[ixD,ha]
 |obj q=>
  simp only[asL] at h
  split at h
  ·rename_i m e
   cases h
   simp only[ixD,e,ha]
  ·cases h
 | _=>cases h
theorem sl_as {x:D} {l:List Str} {S:Store} (h:asL x S=some (l.map .str)) (lo hi:Option Int):slD x lo hi S= .ok (.lst ((cutL l lo hi).map .str)) S:=by
 have ec:cutL (l.map D.str) lo hi=(cutL l lo hi).map D.str:=by unfold cutL;simp
 cases x with
 |lst m=>cases h;rw[← ec];rfl
 |obj q=>unfold slD;simp only[h,ec]
 | _=>cases h
def kH (x:Str × Str):NestedKey:= .tup [.text x.1, .text x.2, .tup []]
theorem kH_inj (a b:Str × Str) (h:kH a=kH b):a=b:=by
 simp only[kH,NestedKey.tup.injEq,List.cons.injEq,NestedKey.text.injEq] at h
 exact Prod.ext h.1 h.2.1
theorem sortSet_ho {x:D} {l:List (Str × Str)} {S:Store} (hx:asL x S=some (l.map hoD)) (hl:l.length<64) (ho:∀x ∈ l,x.1 ∈ HW∧NameOk x.2):∃m:List (Str × Str),sortSetO x S= .ok (.lst (m.map hoD)) S∧(∀ a,a ∈ m↔a ∈ l)∧m.length≤l.length:=by
 obtain⟨m,e,_,hm,hl',_⟩:=sortSet_map (x:=x) (l:=l) (f:=kH) (S:=S) (fun a _ b _=>kH_inj a b) (by rw[hx];rfl) (fun a _=>rfl) (.inr ⟨fun a _=>⟨rfl,by simp[kH,NestedKey.depth,NestedKey.depthAll]⟩,Nat.lt_trans hl (by decide)⟩) (by
  have tp:∀a ∈ l,toPy (kD (kH a))=some (.tuple [.str a.1, .str a.2, .tuple []]):=fun a ha=>hole_py (ho a ha)
  have ec:∀a ∈ l,encD (kD (kH a))= .tuple [.str a.1, .str a.2, .tuple []] :=fun a ha=>by simp only[encD,tp a ha,Option.getD_some]
  simp only[okSt,Bool.and_eq_true,List.all_eq_true,decide_eq_true_eq,Bool.or_eq_true]
  refine⟨⟨⟨small (by rw[List.length_map];omega),fun d hd=> ?_⟩,fun d hd e he=> ?_⟩, .inl fun d hd=> ?_⟩
  ·obtain⟨a,ha,rfl⟩:=List.mem_map.mp hd
   rw[tp a ha,ec a ha];exact⟨rfl,by simp[PyData.depth,PyData.depthAll]⟩
  ·obtain⟨a,ha,rfl⟩:=List.mem_map.mp hd
   obtain⟨b,hb,rfl⟩:=List.mem_map.mp he
   rw[ec a ha,ec b hb];simp[PySem.W.alike,PySem.W.alikeAll]
  ·obtain⟨a,ha,rfl⟩:=List.mem_map.mp hd
   rw[ec a ha];rfl)
 exact⟨m,e,hm,hl'⟩
def nmOf (u:Tm):Str:=match u.m with
 | .str s=>s
 | _=> ""
def N3:List Str:= ["name","let","each"]
def mNamesIn (no:FN):SD:=
    sRet (e1 sortSetO (eLc (iSeq (eN (callK no []) (aCons (eVar 0) (aNil)))) [1] (gName 1) (tOfE (e2 inD (e2 ixD (eVar 1) (eK (.int 0))) (eN mkTup (aCons (eK (.str "name")) (aCons (eK (.str "let")) (aCons (eK (.str "each")) (aNil))))))) (e2 ixD (eVar 1) (eK (.int 1)))))
theorem good4_nd:∀(k:Nat) (t:Tm),t.size≤k→Q.Good4 t→∀u ∈ t.nodes,Q.Good4 u
 |0,t,h,_,_,_=>by have:=Tm.size_pos t;omega
 |k+1,t,h,g,u,hu=>by
  rw[Tm.nodes_eq,List.mem_cons] at hu
  rcases hu with rfl|hu
  ·exact g
  ·obtain⟨v,hv,hu⟩:=Tm.nodesL_mem.mp hu
   have h1:=Tm.sizes_mem hv
   have:=Tm.size_eq t
   exact good4_nd k v (by omega) (good4_parts g v hv) u hu
theorem ix0 (t:Tm) (S:Store):ixD t.d (.int 0) S= .ok (.str t.word) S:=by rw[Tm.d_eq,←Tm.w_eq];rfl
theorem ix1 (t:Tm) (S:Store):ixD t.d (.int 1) S= .ok t.m S:=by rw[Tm.d_eq];rfl
theorem ix2 (t:Tm) (S:Store):ixD t.d (.int 2) S= .ok (.tup (Tm.ds t.parts)) S:=by rw[Tm.d_eq];rfl
def IsNmI (f:FN):Prop:=∀(t:Tm) (S:Store),Q.Good4 t→t.dep≤8→t.size≤900→(f [t.d] S).sat fun d S'=>(∃ l:List Str,d= .lst (l.map .str)∧l.length≤t.size∧∀s ∈ l,NameOk s)∧Grow S S'
theorem isNmI {no:FN} (hno:IsNoL no 8):IsNmI (run 1 2 (mNamesIn no)):=fun t S hg hd hs=>by
 rw[sat_run]
 refine⟨rfl,?_⟩
 unfold mNamesIn
 simp only[List.map_cons,List.map_nil,List.cons_append,List.nil_append,List.length_cons,List.length_nil,List.replicate,Nat.zero_add,Nat.reduceAdd,Nat.reduceSub]
 rw[ssat_sRet,sat_e1,sat_eLc]
 simp only[sat_iSeq,sat_eN,sat_aCons,sat_aNil,sat_eVar,List.getElem?_cons_zero,callK_eq,List.append_nil]
 refine sat_mono (hno t S hd (by omega)) ?_
 rintro d S1 ⟨rfl,g1⟩
 rw[itemsD_lst,sat_ok]
 refine⟨small (by rw[Tm.ds_len,Tm.nodes_len];omega),?_⟩
 simp only[wipeD,List.set_cons_succ,List.set_cons_zero]
 rw[Tm.ds_map]
 have hgn:=good4_nd _ t (Nat.le_refl _) hg
 refine lc_pure Tm.d (fun u=> .str (nmOf u)) (fun u:Tm=>decide (u.word ∈ N3)) (fun u hu=>⟨_,by rw[gName_eq],of_sat (by
  simp only[List.set_cons_succ,List.set_cons_zero,sat_tOfE,sat_e2,sat_eN,sat_aCons,sat_aNil,sat_eVar,sat_eK,List.getElem?_cons_succ,List.getElem?_cons_zero]
  rw[ix0,sat_ok,sat_mkTup]
  refine⟨small (by simp),?_⟩
  have hin:inD (.str u.word) (.tup [.str "name", .str "let", .str "each"]) S1= .ok (.bl (decide (u.word ∈ N3))) S1:=in_txts (l:=N3) (asc_ok (words_asc (good4_word (hgn u hu)))) (by decide +kernel)
  rw[hin,sat_ok,blD_bl,sat_ok]
  exact⟨rfl,rfl⟩),fun hc=>of_sat (by
  simp only[List.set_cons_succ,List.set_cons_zero,sat_e2,sat_eVar,sat_eK,List.getElem?_cons_succ,List.getElem?_cons_zero]
  rw[ix1,sat_ok]
  obtain⟨s,e,_⟩:=tm_m (hgn u hu) (of_decide_eq_true hc)
  exact⟨by simp only[nmOf,e],rfl⟩)⟩) ?_
 have hl:(t.nodes.filter fun u:Tm=>decide (u.word ∈ N3)).length≤t.size:=by rw[← Tm.nodes_len];exact List.length_filter_le _ _
 have hn:∀s ∈ (t.nodes.filter fun u:Tm=>decide (u.word ∈ N3)).map nmOf,NameOk s:=fun s hs=>by
  obtain⟨u,hu,rfl⟩:=List.mem_map.mp hs
  obtain⟨hu,hc⟩:=List.mem_filter.mp hu
  obtain⟨s,e,h⟩:=tm_m (hgn u hu) (of_decide_eq_true hc)
  simp only[nmOf,e];exact h
 have e:(t.nodes.filter fun u:Tm=>decide (u.word ∈ N3)).map (fun u=>D.str (nmOf u))=((t.nodes.filter fun u:Tm=>decide (u.word ∈ N3)).map nmOf).map .str:=by rw[List.map_map];rfl
 rw[e,sortSet_txt (l:=(t.nodes.filter fun u:Tm=>decide (u.word ∈ N3)).map nmOf) rfl (fun s hs=>asc_ok (name_asc (hn s hs))) (by rw[List.length_map];omega),sat_ok]
 refine⟨⟨_,rfl,?_,fun s hs=>hn s (ssT_mem.mp hs)⟩,g1⟩
 have:=ssT_len ((t.nodes.filter fun u:Tm=>decide (u.word ∈ N3)).map nmOf)
 rw[List.length_map] at this
 omega
end L3.Tp
namespace L3.Tp
open PySem L2 L3 L3.Ft
open L3.Dr (FrY)
theorem growH {n:Nat} {S S':Store} (h:Hand n S) (g:Grow S S'):FrH n S S':=by
 obtain⟨a,b,e⟩:=h
 exact⟨g.le,fun m o _ e=>g.fr m o e,a,b,g.fr _ _ e⟩
theorem fryH {n p g:Nat} {S S':Store} (f:FrY n p g S S') (hp:S.length≤p) (hg:S.length≤g) (hd:Hand n S'):FrH n S S':=
 ⟨f.le,fun m o hm e=>f.fr m o hm (by have:=(List.getElem?_eq_some_iff.mp e).1;omega) (by have:=(List.getElem?_eq_some_iff.mp e).1;omega) e,hd⟩
theorem pg_holeI {t:Tm} (h:PG t) (hw:t.word ∈ HW):∃m:Str,t= .nd t.word m [] ∧NameOk m:=by
 cases h with
 |num _ _=>exact absurd hw (by show("num" :Str) ∉ HW;decide +kernel)
 |nam _=>exact absurd hw (by show("name" :Str) ∉ HW;decide +kernel)
 | @hole w m h1 h2=>exact⟨m,rfl,h2⟩
 | @nd w m ps f mo r g hs h1 h2 h3 h4 h5 hk=>exact absurd hw (pshape_word hs).2.1
theorem dct4 {a b c:ED} {env:EnvD} {S S1:Store} {x y z:D} (ha:a env S= .ok x S) (hb:b env S= .ok y S) (hc:c env S= .ok z S1):eDct [(eK (.str "room"),eK (.int 16)),(eK (.str "holes"),a),(eK (.str "written"),b),(eK (.str "givers"),c)] env S= .ok (.obj S1.length) (S1++ [.dK [(.inr "room", .int 16),(.inr "holes",x),(.inr "written",y),(.inr "givers",z)]]):=by
 have e:pairsD [(eK (.str "room"),eK (.int 16)),(eK (.str "holes"),a),(eK (.str "written"),b),(eK (.str "givers"),c)] env S= .ok [(.str "room", .int 16),(.str "holes",x),(.str "written",y),(.str "givers",z)] S1:=by
  simp only[pairsD,eK,R.bind,ha,hb,hc]
 unfold eDct
 rw[e]
 kernel_rfl
theorem lens_max {ns:List Nat} (h:ns≠ []) (S:Store):∃w:Int,maxD [.lst ((ns.map fun i:Nat=>(i:Int)).map .int)] S= .ok (.int w) S:=by
 cases ns with
 |nil=>exact absurd rfl h
 |cons a ns=>
  obtain⟨w,e⟩:∃w,maxI ((a::ns).map fun i:Nat=>(i:Int))=some w:=⟨_,rfl⟩
  refine⟨w,?_⟩
  unfold maxD
  simp only[asL,Option.bind,sum_lst,e]
theorem notIn_nmL {s:Str} {l:List Str} {S:Store} (h:NameOk s) (hl:∀x ∈ l,NameOk x):notInD (.str s) (.lst (l.map .str)) S= .ok (.bl (!decide (s ∈ l))) S:=by
 have:=in_lsts (S:=S) (s:=s) (l:=l) (asc_ok (name_asc h)) fun x hx=>asc_ok (name_asc (hl x hx))
 unfold notInD
 rw[this]
def mTempl (no cl nm tk ab nw dp:FN):SD:=
    sSeq (sAsg (eLc (iSeq (eN (callK no []) (aCons (eVar 2) (aNil)))) [4] (gName 4) (tOfE (e2 inD (e2 ixD (eVar 4) (eK (.int 0))) (eN mkTup (aCons (eK (.str "let")) (aCons (eK (.str "each")) (aNil)))))) (e2 ixD (eVar 4) (eK (.int 1)))) (gName 3))
    (sSeq (sAsg (e1 sortSetO (eLc (iSeq (eN (callK no []) (aCons (eVar 2) (aNil)))) [4] (gName 4) (tOfE (e2 inD (e2 ixD (eVar 4) (eK (.int 0))) (eN mkTup (aCons (eK (.str "any")) (aCons (eK (.str "called")) (aCons (eK (.str "count")) (aCons (eK (.str "rest")) (aNil)))))))) (eVar 4))) (gName 5))
    (sSeq (sAsg (eN mkTup (aCons (eN (callK cl []) (aCons (eVar 0) (aCons (eK (.int 2)) (aNil)))) (aCons (eN (callK nm []) (aCons (eVar 1) (aNil))) (aNil)))) (gTup [6,7]))
    (sSeq (sAsg (eDct [(eK (.str "room"),eK (.int 16)),(eK (.str "holes"),eVar 5),(eK (.str "written"),e2 addD (e2 addD (eVar 3) (eVar 6)) (eVar 7)),(eK (.str "givers"),eN listO (aCons (eVar 3) (aNil)))]) (gName 8))
    (sSeq (sExpr (eBM "list" extendD (e2 ixD (eVar 8) (eK (.str "givers"))) (aCons (e2 addD (eLc (iSeq (e2 addD (eN mkLst (aCons (e2 ixD (eVar 6) (eK (.int 0))) (aNil))) (eSl (eVar 7) (pNo) (pYes (eK (.int 2)))))) [9] (gName 9) (tOfE (e2 notInD (eVar 9) (e2 addD (eVar 3) (eSl (eVar 6) (pNo) (pYes (eK (.int 1))))))) (eVar 9)) (eSl (eVar 6) (pNo) (pYes (eK (.int 1))))) (aNil))))
    (sSeq (sAsg (eN (callK tk []) (aCons (eVar 0) (aCons (eK (.int 5)) (aNil)))) (gName 10))
    (sSeq (sAsg (eIf (tOfE (e2 eqD (eVar 10) (eK (.int 0)))) (eVar 2) (eN (callK ab []) (aCons (eVar 0) (aCons (eVar 8) (aCons (eVar 2) (aCons (eN mkLst (aNil)) (aNil))))))) (gName 11))
    (sSeq (sIf (tOfE (e2 eqD (eVar 10) (eK (.int 4)))) (sAsg (eN (callK nw []) (aCons (eVar 0) (aCons (eVar 8) (aCons (eN mkLst (aNil)) (aCons (eK (.int 4)) (aNil)))))) (gName 11)) (sSkip))
    (sSeq (sAsg (eN maxD (aCons (eLc (iSeq (eN (callK no []) (aCons (eVar 11) (aNil)))) [4] (gName 4) (tYesD) (eN lenD (aCons (e2 ixD (eVar 4) (eK (.int 2))) (aNil)))) (aNil))) (gName 12))
    (sSeq (sIf (tOr (tOfE (e2 gtD (eN lenD (aCons (eN (callK no []) (aCons (eVar 11) (aNil))) (aNil))) (eK (.int 20)))) (tOr (tOfE (e2 gtD (eN (callK dp []) (aCons (eVar 11) (aNil))) (eK (.int 6)))) (tOr (tOfE (e2 eqD (e2 ixD (eVar 11) (eK (.int 0))) (eK (.str "rest")))) (tOfE (e2 gtD (eVar 12) (eK (.int 6))))))) (sRet (eVar 2)) (sSkip))
    (sRet (eVar 11)))))))))))
def hoL (t:Tm):List (Str × Str):=(t.nodes.filter fun u:Tm=>decide (u.word ∈ HW)).map fun u=>(u.word,nmOf u)
theorem hoL_mem {t:Tm} {w m:Str} (h:Tm.nd w m [] ∈ t.nodes) (hw:w ∈ HW):(w,m) ∈ hoL t:=by
 unfold hoL
 exact List.mem_map.mpr ⟨_,List.mem_filter.mpr ⟨h,decide_eq_true hw⟩,rfl⟩
def IsTem (f:FN):Prop:=∀(n:Nat) (S:Store) (c t:Tm),Hand n S→Q.Good4 c→c.dep≤8→c.size≤59→PG t→t.size≤20→t.dep≤6→(f [.obj n,c.d,t.d] S).sat fun d S'=>∃u:Tm,d=u.d∧Wt (hoL t) u∧u.size≤20∧u.dep≤6∧FrH n S S'
theorem isTem {no cl nm tk ab nw dp:FN} (hno:IsNoL no 8) (hcl:Q.IsCalled cl) (hnm:IsNmI nm) (ht:IsTake tk) (hab:IsAb ab 6) (hnw:IsNw nw 4) (hdp:IsDp dp 8):IsTem (run 3 13 (mTempl no cl nm tk ab nw dp)):=fun n S c t hS hc hc8 hc59 hg ht20 ht6=>by
 have hgn:∀u ∈ t.nodes,PG u:=L3.PG.nodes hg
 have inG:∀ {u:Tm} (S:Store),u ∈ t.nodes→inD (.str u.word) (.tup [.str "let", .str "each"]) S= .ok (.bl (decide (u.word ∈ G2))) S:=fun S hu=>in_txts (l:=G2) (asc_ok (words_asc (L3.PG.word (hgn _ hu)))) (by decide +kernel)
 have inH:∀ {u:Tm} (S:Store),u ∈ t.nodes→inD (.str u.word) (.tup [.str "any", .str "called", .str "count", .str "rest"]) S= .ok (.bl (decide (u.word ∈ HW))) S:=fun S hu=>in_txts (l:=HW) (asc_ok (words_asc (L3.PG.word (hgn _ hu)))) (by decide +kernel)
 rw[sat_run]
 refine⟨rfl,?_⟩
 unfold mTempl
 simp only[List.map_cons,List.map_nil,List.cons_append,List.nil_append,List.length_cons,List.length_nil,List.replicate,Nat.zero_add,Nat.reduceAdd,Nat.reduceSub]
 refine seq_rule (fun e S1=>∃ow:List Str,e= [some (.obj n),some c.d,some t.d,some (.lst (ow.map .str)),none,none,none,none,none,none,none,none,none] ∧(∀ s ∈ ow,NameOk s)∧ow.length≤20∧FrH n S S1) ?_ ?_
 ·rw[ssat_asg,sat_eLc]
  simp only[sat_iSeq,sat_eN,sat_aCons,sat_aNil,sat_eVar,List.getElem?_cons_succ,List.getElem?_cons_zero,callK_eq,List.append_nil]
  refine sat_mono (hno t S (by omega) (by omega)) ?_
  rintro d S1 ⟨rfl,g1⟩
  rw[itemsD_lst,sat_ok]
  refine⟨small (by rw[Tm.ds_len,Tm.nodes_len];omega),?_⟩
  simp only[wipeD,List.set_cons_succ,List.set_cons_zero]
  rw[Tm.ds_map]
  refine lc_pure Tm.d (fun u=> .str (nmOf u)) (fun u:Tm=>decide (u.word ∈ G2)) (fun u hu=>⟨_,by rw[gName_eq],of_sat (by
   simp only[List.set_cons_succ,List.set_cons_zero,sat_tOfE,sat_e2,sat_eN,sat_aCons,sat_aNil,sat_eVar,sat_eK,List.getElem?_cons_succ,List.getElem?_cons_zero]
   rw[ix0,sat_ok,sat_mkTup]
   refine⟨small (by simp),?_⟩
   rw[inG _ hu,sat_ok,blD_bl,sat_ok]
   exact⟨rfl,rfl⟩),fun hc=>of_sat (by
   simp only[List.set_cons_succ,List.set_cons_zero,sat_e2,sat_eVar,sat_eK,List.getElem?_cons_succ,List.getElem?_cons_zero]
   rw[ix1,sat_ok]
   obtain⟨m,a,b,e,_⟩:=pg_letI (hgn u hu) (of_decide_eq_true hc)
   have em:u.m= .str m:=by rw[e];rfl
   exact⟨by simp only[nmOf,em],rfl⟩)⟩) ?_
  rw[gName_eq,ssat_nx]
  have e:(t.nodes.filter fun u:Tm=>decide (u.word ∈ G2)).map (fun u=>D.str (nmOf u))=((t.nodes.filter fun u:Tm=>decide (u.word ∈ G2)).map nmOf).map .str:=by rw[List.map_map];rfl
  rw[e]
  refine⟨_,by trivial,fun s hs=> ?_,?_,growH hS g1⟩
  ·obtain⟨u,hu,rfl⟩:=List.mem_map.mp hs
   obtain⟨hu,hc⟩:=List.mem_filter.mp hu
   obtain⟨m,a,b,e,hm,_⟩:=pg_letI (hgn u hu) (of_decide_eq_true hc)
   have em:u.m= .str m:=by rw[e];rfl
   simp only[nmOf,em];exact hm
  ·rw[List.length_map]
   have:=List.length_filter_le (fun u:Tm=>decide (u.word ∈ G2)) t.nodes
   rw[Tm.nodes_len] at this
   omega
 rintro e S1 ⟨ow,rfl,hon,hol,f1⟩
 refine seq_rule (fun e S2=>∃hs:List (Str × Str),e= [some (.obj n),some c.d,some t.d,some (.lst (ow.map .str)),none,some (.lst (hs.map hoD)),none,none,none,none,none,none,none] ∧(∀ x ∈ hs,x.1 ∈ HW∧NameOk x.2)∧hs.length≤20∧(∀ x,x ∈ hs↔x ∈ hoL t)∧FrH n S S2) ?_ ?_
 ·rw[ssat_asg,sat_e1,sat_eLc]
  simp only[sat_iSeq,sat_eN,sat_aCons,sat_aNil,sat_eVar,List.getElem?_cons_succ,List.getElem?_cons_zero,callK_eq,List.append_nil]
  refine sat_mono (hno t S1 (by omega) (by omega)) ?_
  rintro d S2 ⟨rfl,g2⟩
  rw[itemsD_lst,sat_ok]
  refine⟨small (by rw[Tm.ds_len,Tm.nodes_len];omega),?_⟩
  simp only[wipeD,List.set_cons_succ,List.set_cons_zero]
  rw[Tm.ds_map]
  refine lc_pure Tm.d (fun u=>hoD (u.word,nmOf u)) (fun u:Tm=>decide (u.word ∈ HW)) (fun u hu=>⟨_,by rw[gName_eq],of_sat (by
   simp only[List.set_cons_succ,List.set_cons_zero,sat_tOfE,sat_e2,sat_eN,sat_aCons,sat_aNil,sat_eVar,sat_eK,List.getElem?_cons_succ,List.getElem?_cons_zero]
   rw[ix0,sat_ok,sat_mkTup]
   refine⟨small (by simp),?_⟩
   rw[inH _ hu,sat_ok,blD_bl,sat_ok]
   exact⟨rfl,rfl⟩),fun hc=>of_sat (by
   simp only[List.set_cons_succ,List.set_cons_zero,sat_eVar,List.getElem?_cons_succ,List.getElem?_cons_zero]
   obtain⟨m,e,_⟩:=pg_holeI (hgn u hu) (of_decide_eq_true hc)
   have em:u.m= .str m:=by rw[e];rfl
   refine⟨?_,by trivial⟩
   simp only[hoD,nmOf,em]
   rw[← e])⟩) ?_
  have e:(t.nodes.filter fun u:Tm=>decide (u.word ∈ HW)).map (fun u=>hoD (u.word,nmOf u))=((t.nodes.filter fun u:Tm=>decide (u.word ∈ HW)).map fun u=>(u.word,nmOf u)).map hoD:=by rw[List.map_map];rfl
  have hl:(t.nodes.filter fun u:Tm=>decide (u.word ∈ HW)).length≤20:=by
   have:=List.length_filter_le (fun u:Tm=>decide (u.word ∈ HW)) t.nodes
   rw[Tm.nodes_len] at this
   omega
  have ho:∀x ∈ (t.nodes.filter fun u:Tm=>decide (u.word ∈ HW)).map fun u=>(u.word,nmOf u),x.1 ∈ HW∧NameOk x.2:=fun x hx=>by
   obtain⟨u,hu,rfl⟩:=List.mem_map.mp hx
   obtain⟨hu,hc⟩:=List.mem_filter.mp hu
   obtain⟨m,e,hm⟩:=pg_holeI (hgn u hu) (of_decide_eq_true hc)
   have em:u.m= .str m:=by rw[e];rfl
   refine⟨of_decide_eq_true hc,?_⟩
   simp only[nmOf,em];exact hm
  rw[e]
  obtain⟨m,es,hm,hml⟩:=sortSet_ho (S:=S2) (x:= .lst (((t.nodes.filter fun u:Tm=>decide (u.word ∈ HW)).map fun u=>(u.word,nmOf u)).map hoD)) rfl (by rw[List.length_map];omega) ho
  rw[es,sat_ok,gName_eq,ssat_nx]
  refine⟨m,by trivial,fun x hx=>ho x ((hm x).mp hx),by rw[List.length_map] at hml;omega,fun x=>hm x,f1.trans (growH f1.hd g2)⟩
 rintro e S2 ⟨hs,rfl,hho,hhl,hhm,f2⟩
 refine seq_rule (fun e S4=>∃(mo nl:List Str) (y:D),e= [some (.obj n),some c.d,some t.d,some (.lst (ow.map .str)),none,some (.lst (hs.map hoD)),some y,some (.lst (nl.map .str)),none,none,none,none,none] ∧asL y S4=some (mo.map .str)∧(∃ S3,PoolV S2 S3 y mo∧Grow S3 S4)∧mo.length=2∧(∀ s ∈ mo,NameOk s)∧nl.length≤59∧(∀ s ∈ nl,NameOk s)∧FrH n S S4) ?_ ?_
 ·rw[ssat_asg]
  simp only[sat_eN,sat_aCons,sat_aNil,sat_eVar,sat_eK,List.getElem?_cons_succ,List.getElem?_cons_zero,callK_eq,List.append_nil]
  refine sat_mono (hcl n S2 2 f2.hd (by decide)) ?_
  rintro y S3 ⟨f3,mo,hml,hmn,hpv⟩
  refine sat_mono (hnm c S3 hc hc8 (by omega)) ?_
  rintro d S4 ⟨⟨nl,rfl,hnl,hnn⟩,g4⟩
  rw[sat_mkTup]
  refine⟨small (by simp),?_⟩
  simp only[gTup_tup,gNames_cons,gNames_nil,ssat_nx,List.set_cons_succ,List.set_cons_zero]
  exact⟨mo,nl,y,by trivial,pool_as hpv g4,⟨S3,hpv,g4⟩,hml,hmn,by omega,hnn,(f2.trans f3).trans (growH f3.hd g4)⟩
 rintro e S4 ⟨mo,nl,y,rfl,hy,⟨S3,hpv,g34⟩,hmo,hmn,hnl,hnn,f4⟩
 have ecut:cutL (mo.map D.str) none (some 1)=(cutL mo none (some 1)).map D.str:=by unfold cutL;simp
 have hcm:∀s ∈ cutL mo none (some 1),NameOk s:=fun s h=>hmn s (cutL_mem h)
 have hcl1:(cutL mo none (some 1)).length≤2:=Nat.le_trans cutL_len (by omega)
 have hcn:∀s ∈ cutL nl none (some 2),NameOk s:=fun s h=>hnn s (cutL_mem h)
 have hcn2:(cutL nl none (some 2)).length≤59:=Nat.le_trans cutL_len (by omega)
 rw[ssat_seq,ssat_asg]
 have ew:(e2 addD (e2 addD (eVar 3) (eVar 6)) (eVar 7)) [some (.obj n),some c.d,some t.d,some (.lst (ow.map .str)),none,some (.lst (hs.map hoD)),some y,some (.lst (nl.map .str)),none,none,none,none,none] S4= .ok (.lst ((ow++mo++nl).map .str)) S4:=of_sat (by
  simp only[sat_e2,sat_eVar,List.getElem?_cons_succ,List.getElem?_cons_zero]
  rw[add_as rfl hy (small (by rw[List.length_map,List.length_map];omega)),sat_ok,add_as rfl rfl (small (by rw[List.length_append,List.length_map,List.length_map,List.length_map];omega)),sat_ok]
  exact⟨by rw[List.map_append,List.map_append],rfl⟩)
 rw[dct4 (x:= .lst (hs.map hoD)) (y:= .lst ((ow++mo++nl).map .str)) (z:= .obj S4.length) (S1:=S4++ [.lst (ow.map .str)]) rfl ew rfl,sat_ok,gName_eq,ssat_nx]
 simp only[List.set_cons_succ,List.set_cons_zero,List.length_append,List.length_cons,List.length_nil,Nat.zero_add]
 have tp5:TP n (S4.length+1) S4.length hs (ow++mo++nl) 16 ow (S4++ [.lst (ow.map .str)] ++ [tpO hs (ow++mo++nl) S4.length 16]):=by
  have hlt:=f4.hd.lt
  obtain⟨ga,gb,ge⟩:=f4.hd
  refine⟨⟨ga,gb,?_⟩,by simp,by simp,by omega,by omega,by omega,hho,by omega,?_,?_,?_,hon,by omega⟩
  ·rw[List.append_assoc,List.getElem?_append_left (List.getElem?_eq_some_iff.mp ge).1];exact ge
  ·intro h
   have:=congrArg List.length h
   simp only[List.length_append,List.length_nil] at this
   omega
  ·simp only[List.length_append];omega
  ·intro s h
   rcases List.mem_append.mp h with h|h
   ·rcases List.mem_append.mp h with h|h
    ·exact hon s h
    ·exact hmn s h
   ·exact hnn s h
 have g45:Grow S4 (S4++ [.lst (ow.map .str)] ++ [tpO hs (ow++mo++nl) S4.length 16]):=(Grow.app S4 _).trans (Grow.app _ _)
 show((sSeq _ _) _ (S4++ [.lst (ow.map .str)] ++ [tpO hs (ow++mo++nl) S4.length 16])).sat _ _ _ _
 generalize S4++ [.lst (ow.map .str)] ++ [tpO hs (ow++mo++nl) S4.length 16] =S5 at tp5 g45
 have f5:FrH n S S5:=f4.trans (growH f4.hd g45)
 have hy5:asL y S5=some (mo.map .str):=pool_as hpv (g34.trans g45)
 have hSl:S.length≤S4.length:=f4.le
 generalize hpq:S4.length+1=p at tp5
 generalize hgq:S4.length=g at tp5
 generalize (ow++mo++nl)=wr at tp5
 refine seq_rule (fun e S6=>e= [some (.obj n),some c.d,some t.d,some (.lst (ow.map .str)),none,some (.lst (hs.map hoD)),some y,some (.lst (nl.map .str)),some (.obj p),none,none,none,none] ∧∃gs:List Str,TP n p g hs wr 16 gs S6∧FrY n p g S S6) ?_ ?_
 ·rw[ssat_sExpr]
  simp only[sat_eBM,sat_aCons,sat_aNil,sat_e2,sat_eVar,sat_eK,List.getElem?_cons_succ,List.getElem?_cons_zero]
  rw[tp5.givers,sat_ok]
  refine⟨mtD_obj tp5.gO,?_⟩
  rw[sat_eLc]
  simp only[sat_iSeq,sat_e2,sat_eN,sat_aCons,sat_aNil,sat_eSl,sat_pNo,sat_pYes,sat_eVar,sat_eK,List.getElem?_cons_succ,List.getElem?_cons_zero,D.int.injEq,exists_eq_left',sat_ok]
  rw[show ixD y (.int 0) S5= .ok (.str (mo[0]'(by omega))) S5 from ix_as (j:=0) hy5 (by omega),sat_ok,sat_mkLst]
  refine⟨small (by simp),?_⟩
  rw[sl_as (l:=nl) rfl,sat_ok,add_as (a:= [.str mo[0]]) rfl rfl (small (by rw[List.length_map];simp;omega)),sat_ok,itemsD_lst,sat_ok]
  refine⟨small (by rw[List.length_append,List.length_map];simp;omega),?_⟩
  simp only[wipeD,List.set_cons_succ,List.set_cons_zero]
  rw[show ([D.str mo[0]] ++(cutL nl none (some 2)).map D.str)=([mo[0]] ++cutL nl none (some 2)).map D.str by simp]
  have hcand:∀s ∈ [mo[0]] ++cutL nl none (some 2),NameOk s:=fun s h=>by
   rcases List.mem_append.mp h with h|h
   ·rw[List.mem_singleton.mp h];exact hmn _ (List.getElem_mem _)
   ·exact hcn s h
  have hex:∀s ∈ ow++cutL mo none (some 1),NameOk s:=fun s h=>by
   rcases List.mem_append.mp h with h|h
   ·exact hon s h
   ·exact hcm s h
  refine lc_pure D.str D.str (fun s:Str=> !decide (s ∈ ow++cutL mo none (some 1))) (fun s hs'=>⟨_,by rw[gName_eq],of_sat (by
   simp only[List.set_cons_succ,List.set_cons_zero,sat_tOfE,sat_e2,sat_eSl,sat_pNo,sat_pYes,sat_eVar,sat_eK,List.getElem?_cons_succ,List.getElem?_cons_zero,D.int.injEq,exists_eq_left']
   rw[sl_as hy5,sat_ok,add_as rfl rfl (small (by rw[List.length_map,List.length_map];omega)),sat_ok,←List.map_append,notIn_nmL (hcand s hs') hex,sat_ok,blD_bl,sat_ok]
   exact⟨rfl,rfl⟩),fun _=>rfl⟩) ?_
  rw[sl_as hy5,sat_ok,add_as rfl rfl (small (by
   rw[List.length_map,List.length_map]
   have:=List.length_filter_le (fun s:Str=> !decide (s ∈ ow++cutL mo none (some 1))) ([mo[0]] ++cutL nl none (some 2))
   simp only[List.length_append,List.length_cons,List.length_nil] at this
   omega)),sat_ok,←List.map_append]
  have hfl:=List.length_filter_le (fun s:Str=> !decide (s ∈ ow++cutL mo none (some 1))) ([mo[0]] ++cutL nl none (some 2))
  have hfo:∀s ∈ ([mo[0]] ++cutL nl none (some 2)).filter (fun s:Str=> !decide (s ∈ ow++cutL mo none (some 1))),NameOk s:=fun s h=>hcand s (List.mem_filter.mp h).1
  generalize ([mo[0]] ++cutL nl none (some 2)).filter (fun s:Str=> !decide (s ∈ ow++cutL mo none (some 1)))=fs at hfl hfo
  simp only[List.length_append,List.length_cons,List.length_nil] at hfl
  refine extend_obj tp5.gO (small (by rw[List.length_map,List.length_map,List.length_append];omega)) ?_
  rw[← List.map_append]
  obtain⟨tp6,fy6⟩:=tp5.giv (gs':=ow++(fs++cutL mo none (some 1))) (fun s h=>by
   rcases List.mem_append.mp h with h|h
   ·exact hon s h
   ·rcases List.mem_append.mp h with h|h
    ·exact hfo s h
    ·exact hcm s h) (by simp only[List.length_append];omega)
  exact⟨by trivial,_,tp6,(FrY.of f5).trans fy6⟩
 rintro e S6 ⟨rfl,gs6,tp6,fy6⟩
 refine seq_rule (fun e S7=>∃i:Int,e= [some (.obj n),some c.d,some t.d,some (.lst (ow.map .str)),none,some (.lst (hs.map hoD)),some y,some (.lst (nl.map .str)),some (.obj p),none,some (.int i),none,none] ∧TP n p g hs wr 16 gs6 S7∧FrY n p g S S7) ?_ ?_
 ·rw[ssat_asg]
  simp only[sat_eN,sat_aCons,sat_aNil,sat_eVar,sat_eK,List.getElem?_cons_succ,List.getElem?_cons_zero,callK_eq,List.append_nil]
  refine sat_mono (ht n S6 5 tp6.hd (by decide) (by decide)) ?_
  rintro d S7 ⟨⟨i,rfl,i0,i1⟩,f7⟩
  rw[gName_eq,ssat_nx]
  exact⟨i,rfl,tp6.of f7,fy6.trans (.of f7)⟩
 rintro e S7 ⟨i,rfl,tp7,fy7⟩
 have htw:Wt hs t:=pg_wt _ t (Nat.le_refl _) hg fun w m h1 h2=>(hhm _).mpr (hoL_mem h1 h2)
 have up:∀ {x:Tm},Wt hs x→Wt (hoL t) x:=fun h=>h.mono fun x hx=>(hhm x).mp hx
 refine seq_rule (fun e S8=>∃(u:Tm) (r8:Int) (gs8:List Str),e= [some (.obj n),some c.d,some t.d,some (.lst (ow.map .str)),none,some (.lst (hs.map hoD)),some y,some (.lst (nl.map .str)),some (.obj p),none,some (.int i),some u.d,none] ∧Wt hs u∧u.dep≤8∧u.size≤60000∧TP n p g hs wr r8 gs8 S8∧FrY n p g S S8) ?_ ?_
 ·rw[ssat_asg,sat_eIf]
  simp only[sat_tOfE,sat_eN,sat_aCons,sat_aNil,sat_e2,sat_eVar,sat_eK,List.getElem?_cons_succ,List.getElem?_cons_zero,callK_eq,List.append_nil]
  rw[eq_int,sat_ok,blD_bl,sat_ok]
  by_cases hi:i=0
  ·rw[if_pos (decide_eq_true hi),gName_eq,ssat_nx]
   exact⟨t,16,gs6,rfl,htw,by omega,by omega,tp7,fy7⟩
  ·rw[if_neg (by simpa using hi),sat_mkLst]
   refine⟨small (by simp),?_⟩
   refine sat_mono (hab n p g hs wr 16 gs6 S7 t [] tp7 hg htw ht6 (by simp) (by simp)) ?_
   rintro d S8 ⟨u,r8,gs8,rfl,u1,u2,u3,tp8,fy8⟩
   rw[gName_eq,ssat_nx]
   have h1:abZ 6*t.size≤abZ 6*20:=Nat.mul_le_mul_left _ ht20
   have h2:abZ 6=1344:=rfl
   rw[h2] at h1 u3
   exact⟨u,r8,gs8,rfl,u1,u2,by omega,tp8,fy7.trans fy8⟩
 rintro e S8 ⟨u,r8,gs8,rfl,u1,u2,u3,tp8,fy8⟩
 refine seq_rule (fun e S9=>∃(u:Tm) (r8:Int) (gs8:List Str),e= [some (.obj n),some c.d,some t.d,some (.lst (ow.map .str)),none,some (.lst (hs.map hoD)),some y,some (.lst (nl.map .str)),some (.obj p),none,some (.int i),some u.d,none] ∧Wt hs u∧u.dep≤8∧u.size≤60000∧TP n p g hs wr r8 gs8 S9∧FrY n p g S S9) ?_ ?_
 ·rw[ssat_if]
  simp only[sat_tOfE,sat_e2,sat_eVar,sat_eK,List.getElem?_cons_succ,List.getElem?_cons_zero]
  rw[eq_int,sat_ok,blD_bl,sat_ok]
  by_cases hi:i=4
  ·rw[if_pos (decide_eq_true hi),ssat_asg]
   simp only[sat_eN,sat_aCons,sat_aNil,sat_eVar,sat_eK,List.getElem?_cons_succ,List.getElem?_cons_zero,callK_eq,List.append_nil]
   rw[sat_mkLst]
   refine⟨small (by simp),?_⟩
   refine sat_mono (hnw n p g hs wr r8 gs8 S8 [] tp8 (by simp) (by simp)) ?_
   rintro d S9 ⟨v,r9,gs9,rfl,v1,v2,v3,tp9,fy9⟩
   rw[gName_eq,ssat_nx]
   have h2:szN 4=201:=rfl
   exact⟨v,r9,gs9,rfl,v1,by omega,by omega,tp9,fy8.trans fy9⟩
  ·rw[if_neg (by simpa using hi),ssat_skip]
   exact⟨u,r8,gs8,rfl,u1,u2,u3,tp8,fy8⟩
 rintro e S9 ⟨u,r9,gs9,rfl,u1,u2,u3,tp9,fy9⟩
 have f9:FrH n S S9:=fryH fy9 (by omega) (by omega) tp9.hd
 refine seq_rule (fun e S10=>∃w:Int,e= [some (.obj n),some c.d,some t.d,some (.lst (ow.map .str)),none,some (.lst (hs.map hoD)),some y,some (.lst (nl.map .str)),some (.obj p),none,some (.int i),some u.d,some (.int w)] ∧FrH n S S10) ?_ ?_
 ·rw[ssat_asg]
  simp only[sat_eN,sat_aCons,sat_aNil]
  rw[sat_eLc]
  simp only[sat_iSeq,sat_eN,sat_aCons,sat_aNil,sat_eVar,List.getElem?_cons_succ,List.getElem?_cons_zero,callK_eq,List.append_nil]
  refine sat_mono (hno u S9 u2 u3) ?_
  rintro d S10 ⟨rfl,g10⟩
  rw[itemsD_lst,sat_ok]
  refine⟨sml (by rw[Tm.ds_len,Tm.nodes_len];omega),?_⟩
  simp only[wipeD,List.set_cons_succ,List.set_cons_zero]
  rw[Tm.ds_map]
  refine lc_pure Tm.d (fun u=> .int ((u.parts.length:Nat):Int)) (fun _:Tm=>true) (fun v hv=>⟨_,by rw[gName_eq],rfl,fun _=>of_sat (by
   simp only[List.set_cons_succ,List.set_cons_zero,sat_eN,sat_aCons,sat_aNil,sat_e2,sat_eVar,sat_eK,List.getElem?_cons_succ,List.getElem?_cons_zero]
   rw[ix2,sat_ok,len_tup,sat_ok,Tm.ds_len]
   exact⟨rfl,rfl⟩)⟩) ?_
  rw[List.filter_eq_self.mpr fun _ _=>rfl]
  obtain⟨w,ew⟩:=lens_max (ns:=u.nodes.map fun v=>v.parts.length) (by
   intro h
   have:=congrArg List.length h
   rw[List.length_map,Tm.nodes_len] at this
   have:=u.size_pos
   simp at *;omega) S10
  rw[show (u.nodes.map fun u=>D.int ((u.parts.length:Nat):Int))=((u.nodes.map fun v=>v.parts.length).map fun i:Nat=>(i:Int)).map .int by rw[List.map_map,List.map_map];rfl,ew,sat_ok,gName_eq,ssat_nx]
  exact⟨w,rfl,f9.trans (growH f9.hd g10)⟩
 rintro e S10 ⟨w,rfl,f10⟩
 refine seq_rule (fun e S11=>e= [some (.obj n),some c.d,some t.d,some (.lst (ow.map .str)),none,some (.lst (hs.map hoD)),some y,some (.lst (nl.map .str)),some (.obj p),none,some (.int i),some u.d,some (.int w)] ∧FrH n S S11∧u.size≤20∧u.dep≤6) ?_ ?_
 ·rw[ssat_if,sat_tOr]
  simp only[sat_tOfE,sat_e2,sat_eN,sat_aCons,sat_aNil,sat_eVar,sat_eK,List.getElem?_cons_succ,List.getElem?_cons_zero,callK_eq,List.append_nil]
  refine sat_mono (hno u S10 u2 u3) ?_
  rintro d S11 ⟨rfl,g11⟩
  have f11:=f10.trans (growH f10.hd g11)
  rw[len_lst,sat_ok,Tm.ds_len,Tm.nodes_len,gt_int,sat_ok,blD_bl,sat_ok]
  by_cases hz:((u.size:Nat):Int)>20
  ·rw[if_pos (decide_eq_true hz),if_pos trivial,ssat_sRet]
   simp only[sat_eVar,List.getElem?_cons_succ,List.getElem?_cons_zero]
   exact⟨t,rfl,up htw,ht20,ht6,f11⟩
  rw[if_neg (by simpa using hz),sat_tOr]
  simp only[sat_tOfE,sat_e2,sat_eN,sat_aCons,sat_aNil,sat_eVar,sat_eK,List.getElem?_cons_succ,List.getElem?_cons_zero,callK_eq,List.append_nil]
  rw[hdp u S11 u2 (by omega),sat_ok,gt_int,sat_ok,blD_bl,sat_ok]
  by_cases hdz:((u.dep:Nat):Int)>6
  ·rw[if_pos (decide_eq_true hdz),if_pos trivial,ssat_sRet]
   simp only[sat_eVar,List.getElem?_cons_succ,List.getElem?_cons_zero]
   exact⟨t,rfl,up htw,ht20,ht6,f11⟩
  rw[if_neg (by simpa using hdz),sat_tOr]
  simp only[sat_tOfE,sat_e2,sat_eN,sat_aCons,sat_aNil,sat_eVar,sat_eK,List.getElem?_cons_succ,List.getElem?_cons_zero,callK_eq,List.append_nil]
  rw[ix0,sat_ok,eq_strs,sat_ok,blD_bl,sat_ok]
  by_cases hr:u.word= "rest"
  ·rw[if_pos (by simpa using hr),if_pos trivial,ssat_sRet]
   simp only[sat_eVar,List.getElem?_cons_succ,List.getElem?_cons_zero]
   exact⟨t,rfl,up htw,ht20,ht6,f11⟩
  rw[if_neg (by simpa using hr),gt_int,sat_ok,blD_bl,sat_ok]
  by_cases hww:w>6
  ·rw[if_pos (decide_eq_true hww),ssat_sRet]
   simp only[sat_eVar,List.getElem?_cons_succ,List.getElem?_cons_zero]
   exact⟨t,rfl,up htw,ht20,ht6,f11⟩
  rw[if_neg (by simpa using hww),ssat_skip]
  exact⟨rfl,f11,by omega,by omega⟩
 rintro e S11 ⟨rfl,f11,a20,a6⟩
 rw[ssat_sRet]
 simp only[sat_eVar,List.getElem?_cons_succ,List.getElem?_cons_zero]
 exact⟨u,rfl,up u1,a20,a6,f11⟩
end L3.Tp
namespace K60
open PySem L2 L3
variable {S:Store} {n:Nat}
theorem tk (k:Nat):IsTake (Fs (k+1) 5):=by rw[Fs_law_take];exact isTake
theorem pk (k:Nat):IsPick2 (Fs (k+2) 6):=by rw[show k+2=k+1+1 from rfl,Fs_law_pick];exact isPick2 (tk k)
theorem cl (k:Nat):L3.Q.IsCalled (Fs (k+3) 7):=by rw[show k+3=k+2+1 from rfl,Fs_law_called];exact Q.isCalled (tk (k+1)) (pk k)
theorem dg (k:Nat):IsDigit (Fs (k+3) 8):=by rw[show k+3=k+2+1 from rfl,Fs_law_digit];exact isDigit (tk (k+1)) (pk k)
theorem gr:∀L k,Q.GrownOk (Fs (k+4+L) 9) L
 |0,k=>by rw[show k+4+0=k+3+1 from rfl,Fs_law_grown];exact Q.grown_ok (tk (k+2)) (pk (k+1)) (dg k) fun h=>absurd rfl h
 |L+1,k=>by
  rw[show k+4+(L+1)=k+4+L+1 from rfl,Fs_law_grown]
  have h1:=tk (k+3+L)
  have h2:=pk (k+2+L)
  have h3:=dg (k+1+L)
  rw[show k+3+L+1=k+4+L by omega] at h1
  rw[show k+2+L+2=k+4+L by omega] at h2
  rw[show k+1+L+3=k+4+L by omega] at h3
  exact Q.grown_ok h1 h2 h3 fun _=>gr L k
theorem code (k:Nat) (hS:Hand n S) {left:Nat} :(Fs (k+13) 10 [.obj n, .int left] S).sat fun d S'=>∃t:Tm,d=t.d∧Q.Good4 t∧t.dep≤8∧t.size≤left+25∧FrH n S S':=by
 rw[show k+13=k+12+1 from rfl,Fs_law_code]
 refine Q.code_any (tk (k+11)) (cl (k+9)) (fun L hL=> ?_) hS
 have:=gr L (k+8-L)
 rw[show k+8-L+4+L=k+12 by omega] at this
 exact this
theorem spots:∀n k:Nat,n≤1000→IsSpots (Fs (k+n) 11) n
 |0,k,_=>isSpots0 _
 |n+1,k,h=>by rw[show k+(n+1)=k+n+1 from rfl,Fs_law_spots];exact isSpots (spots n k (by omega)) (by omega)
theorem there (k:Nat):IsThere (Fs (k+1) 12):=fun t u q S h=>by rw[Fs_law_there];exact there_ok S h
theorem hole (k:Nat):L3.Wy.IsHole (Fs (k+3) 13):=by rw[show k+3=k+2+1 from rfl,Fs_law_hole];exact L3.Wy.isHole (tk (k+1)) (pk k)
theorem holed:∀L k,L3.Wy.HoledOk (Fs (k+4+L) 14) L
 |0,k=>by
  rw[show k+4+0=k+3+1 from rfl,Fs_law_holed]
  exact L3.Wy.isHoledW (tk (k+2)) (pk (k+1)) (hole k) fun _ h=>by cases h
 |L+1,k=>by
  rw[show k+4+(L+1)=k+4+L+1 from rfl,Fs_law_holed]
  have h1:=tk (k+3+L)
  have h2:=pk (k+2+L)
  have h3:=hole (k+1+L)
  rw[show k+3+L+1=k+4+L by omega] at h1
  rw[show k+2+L+2=k+4+L by omega] at h2
  rw[show k+1+L+3=k+4+L by omega] at h3
  exact L3.Wy.isHoledW h1 h2 h3 fun L' e=>by cases e;exact holed L k
theorem nodes:∀n k:Nat,L3.Wy.IsNo (Fs (k+n) 17) n
 |0,k=>L3.Wy.isNo0 _
 |n+1,k=>by rw[show k+(n+1)=k+n+1 from rfl,Fs_law_nodes];exact L3.Wy.isNo (nodes n k)
theorem nodesL:∀n k:Nat,L3.Tp.IsNoL (Fs (k+n) 17) n
 |0,k=>L3.Tp.isNoL0 _
 |n+1,k=>by rw[show k+(n+1)=k+n+1 from rfl,Fs_law_nodes];exact L3.Tp.isNoL (nodesL n k)
theorem sought (k:Nat):L3.Wy.IsSoughtW (Fs (k+20) 15):=by
 rw[show k+20=k+19+1 from rfl,Fs_law_sought]
 exact L3.Wy.isSoughtW (tk (k+18)) (pk (k+17)) (spots 8 (k+11) (by decide)) (there (k+18)) (holed 5 (k+10)) (nodes 6 (k+13))
theorem deep:∀n k:Nat,IsDp (Fs (k+n) 16) n
 |0,k=>isDp0 _
 |n+1,k=>by rw[show k+(n+1)=k+n+1 from rfl,Fs_law_deep];exact isDp (deep n k)
theorem nmI (k:Nat):L3.Tp.IsNmI (Fs (k+9) 18):=by
 rw[show k+9=k+8+1 from rfl,Fs_law_names_in];exact L3.Tp.isNmI (nodesL 8 k)
theorem leafp (k:Nat):L3.Tp.IsLp (Fs (k+4) 19):=by
 rw[show k+4=k+3+1 from rfl,Fs_law_leaf_put];exact L3.Tp.isLp (tk (k+2)) (pk (k+1)) (dg k)
theorem new:∀L k,L3.Tp.IsNw (Fs (k+5+L) 20) L
 |0,k=>by
  rw[show k+5+0=k+4+1 from rfl,Fs_law_new]
  exact L3.Tp.isNw (tk (k+3)) (pk (k+2)) (leafp k) fun _ h=>by cases h
 |L+1,k=>by
  rw[show k+5+(L+1)=k+5+L+1 from rfl,Fs_law_new]
  have h1:=tk (k+4+L)
  have h2:=pk (k+3+L)
  have h3:=leafp (k+1+L)
  rw[show k+4+L+1=k+5+L by omega] at h1
  rw[show k+3+L+2=k+5+L by omega] at h2
  rw[show k+1+L+4=k+5+L by omega] at h3
  exact L3.Tp.isNw h1 h2 h3 fun L' e=>by cases e;exact new L k
theorem about:∀L k,L3.Tp.IsAb (Fs (k+8+L) 21) L
 |0,k=>L3.Tp.isAb0 _
 |L+1,k=>by
  rw[show k+8+(L+1)=k+8+L+1 from rfl,Fs_law_about]
  have h1:=tk (k+7+L)
  have h2:=new 2 (k+1+L)
  rw[show k+7+L+1=k+8+L by omega] at h1
  rw[show k+1+L+5+2=k+8+L by omega] at h2
  exact L3.Tp.isAb h1 h2 (about L k)
theorem templ (k:Nat):L3.Tp.IsTem (Fs (k+20) 22):=by
 rw[show k+20=k+19+1 from rfl,Fs_law_templ]
 exact L3.Tp.isTem (nodesL 8 (k+11)) (cl (k+16)) (nmI (k+10)) (tk (k+18)) (about 6 (k+5)) (new 4 (k+10)) (deep 8 (k+11))
end K60
namespace K60
open PySem L2 L3
variable {S:Store} {n:Nat}
theorem listed:∀n k:Nat,IsListed (Fs (k+n) 0) n
 |0,k=>isListed0 _
 |n+1,k=>by rw[show k+(n+1)=k+n+1 from rfl,Fs_listed];exact isListed (listed n k)
theorem nodesOf (k:Nat) {t:Tm} (S:Store) (hd:t.dep≤8) (hs:t.size≤900):Fs (k+9) 1 [t.d] S= .ok (.tup (Tm.ds t.nodes)) S:=by
 rw[show k+9=k+8+1 from rfl,Fs_nodes_of];exact nodesOf_ok (listed 8 k) S hd hs
def kvW (ws:List (Str × Int)):List (Key × D):=ws.map fun p=>(.inr p.1, .int p.2)
theorem kvW_get (ws:List (Str × Int)) (w:Str):dGet (kvW ws) (.inr w)=((ws.find? fun p=>decide (p.1=w)).map (·.2)).map .int:=by
 induction ws with
 |nil=>rfl
 |cons p ws ih=>
  simp only[kvW,dGet,List.map_cons,List.find?_cons] at ih ⊢
  by_cases h:p.1=w
  ·simp[h]
  ·have: ¬(Sum.inr p.1:Key)= .inr w:=fun e=>h (by cases e;rfl)
   simp only[h,this,decide_false]
   exact ih
def WN (t:Tm):Prop:=∀u ∈ t.nodes,u.word ∈ WORDS
def look0 (l:List (Str × Int)) (m:Str):Int:=((l.find? fun p=>decide (p.1=m)).map (·.2)).getD 0
def putC (l:List (Str × Int)) (m:Str) (v:Int):List (Str × Int):=if(l.any fun p=>decide (p.1=m))=true then l.map (fun p=>if p.1=m then(p.1,v) else p) else l++ [(m,v)]
def cnt1 (l:List (Str × Int)) (m:Str):List (Str × Int):=putC l m (look0 l m+1)
def cntT (ms:List Str):List (Str × Int):=ms.foldl cnt1 []
theorem kvW_put (l:List (Str × Int)) (m:Str) (v:Int):kvW (putC l m v)=putD (kvW l) (.inr m) (.int v):=by
 have e:((kvW l).any fun kv=>decide (kv.1=(Sum.inr m:Key)))=(l.any fun p=>decide (p.1=m)):=by
  unfold kvW
  rw[List.any_map]
  congr 1
  funext p
  simp
 unfold putC putD
 rw[e]
 split
 ·unfold kvW
  rw[List.map_map,List.map_map]
  refine List.map_congr_left fun p _=> ?_
  simp only[Function.comp]
  by_cases h:p.1=m
  ·simp[h]
  ·have: ¬(Sum.inr p.1:Key)= .inr m:=fun e=>h (by cases e;rfl)
   simp[h,this]
 ·simp[kvW]
theorem putC_len (l:List (Str × Int)) (m:Str) (v:Int):(putC l m v).length≤l.length+1:=by
 unfold putC;split<;>simp
theorem cnt_len:∀(ms:List Str) (l:List (Str × Int)),(ms.foldl cnt1 l).length≤l.length+ms.length
 | [],l=>Nat.le_refl _
 |m::ms,l=>by
  have:=cnt_len ms (cnt1 l m)
  have:=putC_len l m (look0 l m+1)
  simp only[List.foldl_cons,List.length_cons]
  unfold cnt1 at*
  omega
def mrk (ns:List Tm):List Str:=(holesL ns).map (·.1)
theorem holesCounted (k:Nat) {t:Tm} (S:Store) (hd:t.dep≤8) (hs:t.size≤900) (hw:WN t):(Fs (k+10) 2 [t.d] S).sat fun d S'=>d= .obj S.length∧S'[S.length]? =some (.dK (kvW (cntT (mrk t.nodes))))∧Grow S S':=by
 rw[show k+10=k+9+1 from rfl,Fs_holes_counted,sat_run]
 refine⟨rfl,?_⟩
 unfold m_holes_counted
 refine step_asg (d:= .obj S.length) (S1:=S++ [.dK []]) (by kernel_rfl) (by rfl) ?_
 refine seq_rule (fun e S1=>∃(a2 a3 a4:Option D),e= [some t.d,some (.obj S.length),a2,a3,a4] ∧S1[S.length]? =some (.dK (kvW (cntT (mrk t.nodes))))∧Grow S S1) ?_ ?_
 ·show((sFor _ _ _) [some t.d,some (.obj S.length),none,none,none] (S++ [.dK []])).sat _ _ _ _
  rw[ssat_for,sat_iSeq]
  simp only[sat_eN,sat_aCons,sat_aNil,sat_eVar,List.getElem?_cons_zero,callK_eq,List.append_nil]
  rw[nodesOf k _ hd hs,sat_ok,itemsD_tup,sat_ok]
  refine for_rule (fun j e S1=>∃(a2 a3 a4:Option D),e= [some t.d,some (.obj S.length),a2,a3,a4] ∧S1[S.length]? =some (.dK (kvW (cntT (mrk (t.nodes.take j)))))∧Grow S S1) ⟨_,_,_,rfl,by simp[mrk,holesL,cntT,kvW], .app _ _⟩ ?_ ?_
  ·rintro j hj e S1 ⟨a2,a3,a4,rfl,h1,g1⟩
   rw[Tm.ds_len] at hj
   have ej:(Tm.ds t.nodes)[j]'(by rw[Tm.ds_len];exact hj)=t.nodes[j].d:=by simp[Tm.ds_map]
   have hu:=hw _ (List.getElem_mem hj)
   rw[ej,Tm.d_eq]
   simp only[gTup_tup,gNames_cons,gNames_nil,ssat_nx,List.set_cons_succ,List.set_cons_zero]
   have et:t.nodes.take (j+1)=t.nodes.take j++ [t.nodes[j]] :=by rw[List.take_succ_eq_append_getElem hj]
   have eh:cntT (mrk (t.nodes.take (j+1)))=((ownH t.nodes[j]).map (·.1)).foldl cnt1 (cntT (mrk (t.nodes.take j))):=by
    unfold mrk holesL cntT
    rw[et,List.flatMap_append,List.map_append,List.foldl_append]
    simp
   have hlen:(kvW (cntT (mrk (t.nodes.take j)))).length≤900:=by
    have h1:=cnt_len (mrk (t.nodes.take j)) []
    have h2:=holesL_len (t.nodes.take j)
    have h3:=Tm.nodes_len t
    simp only[kvW,List.length_map,mrk,cntT,List.length_nil,List.length_take] at*
    omega
   rw[ssat_if]
   simp only[sat_tOfE,sat_e2,sat_eVar,sat_eK,List.getElem?_cons_succ,List.getElem?_cons_zero]
   rw[Tm.w_eq,in_hw (c:=c_HOLES) hu rfl,sat_ok,blD_bl,sat_ok]
   rcases own_wordK t.nodes[j] with⟨hh,m,ps,e,eo,em⟩|⟨hh,eo⟩
   ·rw[if_pos (decide_eq_true hh)]
    rw[eo] at eh
    simp only[ssat_asg,sat_e2,sat_eBM,sat_eVar,sat_aCons,sat_aNil,sat_eK,List.getElem?_cons_succ,List.getElem?_cons_zero]
    refine⟨by simp[mtD,h1],?_⟩
    have eg:dgetD (.obj S.length) [t.nodes[j].m, .int 0] S1= .ok (.int (look0 (cntT (mrk (t.nodes.take j))) m)) S1:=by
     rw[em]
     simp only[dgetD,dkAt,h1]
     show R.ok ((dGet (kvW _) (.inr m)).getD (.int 0)) S1=_
     rw[kvW_get]
     unfold look0
     cases((cntT (mrk (t.nodes.take j))).find? fun p=>decide (p.1=m))<;>rfl
    rw[eg,sat_ok,add_int,sat_ok]
    rw[gsub_eq (o:= .obj S.length) (i:= .str m) (by simp[eVar]) (by simp[eVar,em]) (setD_dK h1 rfl (Nat.lt_of_lt_of_le (m:=1000) (by omega) (by decide))),ssat_nx]
    refine⟨_,_,_,rfl,?_,g1.put (Nat.le_refl _) _⟩
    rw[List.getElem?_set_self (List.getElem?_eq_some_iff.mp h1).1,eh]
    simp only[List.map_cons,List.map_nil,List.foldl_cons,List.foldl_nil,cnt1,kvW_put]
   ·rw[if_neg (by simpa using hh),ssat_skip]
    rw[eo] at eh
    exact⟨_,_,_,rfl,by rw[eh];exact h1,g1⟩
  ·rintro e S1 ⟨a2,a3,a4,rfl,h1,g1⟩
   rw[Tm.ds_len,List.take_length] at h1
   exact⟨_,_,_,rfl,h1,g1⟩
 rintro e S1 ⟨a2,a3,a4,rfl,h1,g1⟩
 simp only[ssat_sRet,sat_eVar,List.getElem?_cons_succ,List.getElem?_cons_zero]
 exact⟨by trivial,h1,g1⟩
def leanB (L R:List Str):Bool:=(cntT R).all fun p=>decide (p.2≤look0 (cntT L) p.1)
def leanX (L R:List Str):Bool:=(cntT R).all fun p=>(cntT L).any fun q=>decide (q.1=p.1)
theorem lc_g {g:GD} {te:ED} {env:EnvD} {α :Type} (dx f: α →D):∀ {as:List α} {Q:List D→Store→Prop},(∀ a ∈ as,∃e1,g (dx a) env S= .nx e1 S∧te e1 S= .ok (f a) S)→Q (as.map f) S→lcSat g tYesD te env (as.map dx) S Q
 | [],Q,_,h=>h
 |a::as,Q,ha,h=>by
  obtain⟨e1,h1,h2⟩:=ha a List.mem_cons_self
  rw[List.map_cons]
  unfold lcSat
  rw[h1]
  simp only[tYesD,sat_ok,if_true]
  rw[h2,sat_ok]
  exact lc_g dx f (fun v hv=>ha v (List.mem_cons_of_mem _ hv)) h
theorem all_fn {α :Type} (l:List α) (f: α →Bool) (S:Store):allD [.lst (l.map fun a=>D.bl (f a))] S= .ok (.bl (l.all f)) S:=by
 have:=all_bl (S:=S) (l.map f)
 rw[List.map_map] at this
 rw[show (fun a=>D.bl (f a))=(D.bl ∘ f) from rfl,this,List.all_map];rfl
theorem look_get {l:List (Str × Int)} {m:Str} (h:(l.any fun q=>decide (q.1=m))=true):dGet (kvW l) (.inr m)=some (.int (look0 l m)):=by
 rw[kvW_get]
 unfold look0
 obtain⟨q,hq,e⟩:=List.any_eq_true.mp h
 cases hf:l.find? fun p=>decide (p.1=m) with
 |some r=>rfl
 |none=>
  have:=List.find?_eq_none.mp hf q hq
  exact absurd e this
structure Sml (t:Tm):Prop where
 sz:t.size≤60
 dp:t.dep≤8
 wn:WN t
theorem isLean (k:Nat) {nm:Str} {p q:Tm} {sk:D} (ha:Sml p) (hb:Sml q) (hx:leanX (mrk p.nodes) (mrk q.nodes)=true) (S:Store):(Fs (k+11) 3 [.tup [.str nm,p.d,sk,q.d]] S).sat fun d S'=>d= .bl (leanB (mrk p.nodes) (mrk q.nodes))∧Grow S S':=by
 rw[show k+11=k+10+1 from rfl,Fs_is_lean,sat_run]
 refine⟨rfl,?_⟩
 unfold m_is_lean
 refine step_asg (d:= .tup [.str nm,p.d,sk,q.d]) (S1:=S) (by kernel_rfl) (by rfl) ?_
 refine seq_rule (fun e S1=>e= [some (.tup [.str nm,p.d,sk,q.d]),some (.str nm),some p.d,some sk,some q.d,some (.obj S.length),none,none] ∧S1[S.length]? =some (.dK (kvW (cntT (mrk p.nodes))))∧Grow S S1) ?_ ?_
 ·show((sAsg _ _) [some (.tup [.str nm,p.d,sk,q.d]),some (.str nm),some p.d,some sk,some q.d,none,none,none] S).sat _ _ _ _
  simp only[ssat_asg,sat_eN,sat_aCons,sat_aNil,sat_eVar,List.getElem?_cons_succ,List.getElem?_cons_zero,callK_eq,List.append_nil]
  refine sat_mono (holesCounted k S (by have:=ha.dp;omega) (by have:=ha.sz;omega) ha.wn) ?_
  rintro d S1 ⟨rfl,h1,g1⟩
  rw[gName_eq,ssat_nx]
  exact⟨rfl,h1,g1⟩
 rintro e S1 ⟨rfl,h1,g1⟩
 simp only[ssat_sRet,sat_eN,sat_aCons,sat_aNil,sat_eLc]
 have it:(iFz itsO (eN (callK (Fs (k+10) 2) []) (aCons (eVar 4) (aNil))) [some (.tup [.str nm,p.d,sk,q.d]),some (.str nm),some p.d,some sk,some q.d,some (.obj S.length),none,none] S1).sat fun xs S2=>xs=pairs (kvW (cntT (mrk q.nodes)))∧S2[S.length]? =some (.dK (kvW (cntT (mrk p.nodes))))∧Grow S S2:=by
  have h:=holesCounted k S1 (t:=q) (by have:=hb.dp;omega) (by have:=hb.sz;omega) hb.wn
  obtain⟨d,S2,e,rfl,h2,g2⟩:=sat_ex.mp h
  have:(eN (callK (Fs (k+10) 2) []) (aCons (eVar 4) (aNil))) [some (.tup [.str nm,p.d,sk,q.d]),some (.str nm),some p.d,some sk,some q.d,some (.obj S.length),none,none] S1= .ok (.obj S1.length) S2:=by
   simp only[eN,aCons,aNil,eVar,List.getElem?_cons_succ,List.getElem?_cons_zero,R.bind,callK_eq,List.append_nil,e]
  unfold iFz
  rw[this]
  simp only[R.bind,h2,itsO,sat_ok]
  have hl:=(List.getElem?_eq_some_iff.mp h1).1
  refine⟨trivial,?_,(g1.trans g2).put (by have:=g1.le;omega) _⟩
  rw[List.getElem?_set_ne (by omega)];exact g2.fr _ _ h1
 refine sat_mono it ?_
 rintro xs S2 ⟨rfl,h2,g2⟩
 have hcl:(cntT (mrk q.nodes)).length≤900:=by
  have h1:=cnt_len (mrk q.nodes) []
  have h2:=holesL_len q.nodes
  have h3:=Tm.nodes_len q
  have:=hb.sz
  simp only[List.length_map,mrk,cntT,List.length_nil] at*
  omega
 have ep:pairs (kvW (cntT (mrk q.nodes)))=(cntT (mrk q.nodes)).map fun c=>D.tup [.str c.1, .int c.2] :=by
  rw[pairs_map,kvW,List.map_map];rfl
 refine⟨small (by rw[ep,List.length_map];omega),?_⟩
 rw[ep]
 refine lc_g (fun c:Str × Int=>D.tup [.str c.1, .int c.2]) (fun c=>D.bl (decide (c.2≤look0 (cntT (mrk p.nodes)) c.1))) (fun c hc=> ?_) ?_
 ·refine⟨[some (.tup [.str nm,p.d,sk,q.d]),some (.str nm),some p.d,some sk,some q.d,some (.obj S.length),some (.str c.1),some (.int c.2)],by rfl,?_⟩
  apply of_sat
  simp only[sat_e2,sat_eVar,List.getElem?_cons_succ,List.getElem?_cons_zero]
  have:=List.all_eq_true.mp hx c hc
  rw[ix_dict (kvs:=kvW (cntT (mrk p.nodes))) (k:= .inr c.1) (by simp[dkAt,h2]) rfl (look_get this),sat_ok,le_int,sat_ok]
  exact⟨rfl,rfl⟩
 ·rw[all_fn,sat_ok]
  exact⟨rfl,g2⟩
end K60
namespace L3.Tp
open PySem L2 L3
variable {S:Store} {n:Nat}
structure G1 (x:D):Prop where
 u:U 20 x
 w:wt x≤400000
 d:dp x≤60
theorem G1.rep {x:D} (h:G1 x):∃z:Str,∀S,reprD [x] S= .ok (.str z) S:=by
 obtain⟨z,hz,_⟩:=repr_ok h.u (Nat.le_trans h.w (by decide)) (Nat.le_trans h.d (by decide))
 exact⟨z,hz⟩
structure Bj (B W P:Nat) (x:D):Prop where
 u:U B x
 w:wt x≤W
 d:dp x≤P
theorem Bj.g {B W P:Nat} {x:D} (h:Bj B W P x) (h1:B≤20) (h2:W≤400000) (h3:P≤60):G1 x:=⟨h.u.mono h1,Nat.le_trans h.w h2,Nat.le_trans h.d h3⟩
theorem wt_u {H:List (Str × Str)} :∀(k:Nat) (t:Tm),t.size≤k→Wt H t→U 8 t.d
 |0,t,h,_=>by have:=t.size_pos;omega
 |k+1,t,h,g=>by
  cases g with
  |num h0 h1=>
   refine .tup (by simp) fun x hx=> ?_
   simp only[List.mem_cons,List.not_mem_nil,or_false] at hx
   rcases hx with rfl|rfl|rfl
   ·exact .str (by decide +kernel)
   ·exact .int (by omega) (by omega)
   ·exact .tup (by simp) (by simp)
  |nam hs=>
   refine .tup (by simp) fun x hx=> ?_
   simp only[List.mem_cons,List.not_mem_nil,or_false] at hx
   rcases hx with rfl|rfl|rfl
   ·exact .str (by decide +kernel)
   ·exact .str (name_asc hs)
   ·exact .tup (by simp) (by simp)
  | @nd w m ps hw hm h8 hh hk=>
    show U 8 (.tup [.str w, .str m, .tup (Tm.ds ps)])
    refine .tup (by simp) fun x hx=> ?_
    simp only[List.mem_cons,List.not_mem_nil,or_false] at hx
    rcases hx with rfl|rfl|rfl
    ·exact .str (words_asc hw)
    ·refine .str ?_
     rcases hm with rfl|hm
     ·decide +kernel
     ·exact name_asc hm
    ·refine .tup (by rw[Tm.ds_len];exact h8) fun x hx=> ?_
     rw[Tm.ds_map,List.mem_map] at hx
     obtain⟨t,ht,rfl⟩:=hx
     have:=Tm.sizes_mem ht
     simp only[Tm.size] at h
     exact wt_u k t (by omega) (hk t ht)
theorem wt_bj {H:List (Str × Str)} {t:Tm} (g:Wt H t) (hz:t.size≤20) (hd:t.dep≤6):Bj 8 8000 12 t.d:=by
 have h1:=tm_wt t
 have h2:=dp_d t
 exact⟨wt_u _ t (Nat.le_refl _) g,by omega,by omega⟩
theorem Bj.mono {B W P B' W' P':Nat} {x:D} (h:Bj B W P x) (h1:B≤B') (h2:W≤W') (h3:P≤P'):Bj B' W' P' x:=⟨h.u.mono h1,Nat.le_trans h.w h2,Nat.le_trans h.d h3⟩
theorem non_bj {B W P:Nat} (hW:100≤W):Bj B W P .non:=⟨.non,by simp only[wt];omega,by simp only[dp];omega⟩
theorem tup2_bj {B W P:Nat} {s:Str} {a:D} (hs:asc s=true) (h:Bj B W P a) (hB:2≤B):Bj B (W+200) (P+1) (.tup [.str s,a]):=by
 have:=h.w;have:=h.d
 exact⟨.tup (by simpa using hB) (by
  intro x hx
  simp only[List.mem_cons,List.not_mem_nil,or_false] at hx
  rcases hx with rfl|rfl
  ·exact .str hs
  ·exact h.u),by simp only[wt,wts];omega,by simp only[dp,dps];omega⟩
end L3.Tp
namespace K60
open PySem L2 L3 L3.Tp
variable {S:Store} {n:Nat}
theorem putC_keys (l:List (Str × Int)) (m:Str) (v:Int):(putC l m v).map (·.1)=if m ∈ l.map (·.1) then l.map (·.1) else l.map (·.1)++ [m] :=by
 unfold putC
 by_cases h:m ∈ l.map (·.1)
 ·have:(l.any fun p=>decide (p.1=m))=true:=by
   obtain⟨p,hp,e⟩:=List.mem_map.mp h
   exact List.any_eq_true.mpr ⟨p,hp,by simpa using e⟩
  rw[if_pos this,if_pos h,List.map_map]
  refine List.map_congr_left fun p _=> ?_
  simp only[Function.comp]
  split<;>rfl
 ·have: ¬(l.any fun p=>decide (p.1=m))=true:=by
   intro ha
   obtain⟨p,hp,e⟩:=List.any_eq_true.mp ha
   exact h (List.mem_map.mpr ⟨p,hp,by simpa using e⟩)
  rw[if_neg this,if_neg h]
  simp
theorem cnt_keys:∀(ms:List Str) (l:List (Str × Int)),(l.map (·.1)).Nodup→((ms.foldl cnt1 l).map (·.1)).Nodup∧∀m,m ∈ (ms.foldl cnt1 l).map (·.1)↔m ∈ l.map (·.1)∨m ∈ ms
 | [],l,h=>⟨h,fun m=>by simp⟩
 |a::ms,l,h=>by
  have hk:=putC_keys l a (look0 l a+1)
  have hn:((cnt1 l a).map (·.1)).Nodup:=by
   unfold cnt1
   rw[hk]
   split
   ·exact h
   ·rename_i hc
    rw[List.nodup_append]
    refine⟨h,by simp,fun x hx y hy e=> ?_⟩
    rw[List.mem_singleton] at hy
    exact hc (by rw[← hy,←e];exact hx)
  obtain⟨h1,h2⟩:=cnt_keys ms (cnt1 l a) hn
  refine⟨h1,fun m=> ?_⟩
  rw[List.foldl_cons,h2 m]
  unfold cnt1
  rw[hk]
  split
  ·rename_i hc
   simp only[List.mem_cons]
   constructor
   ·rintro(h|h)
    ·exact .inl h
    ·exact .inr (.inr h)
   ·rintro(h|rfl|h)
    ·exact .inl h
    ·exact .inl hc
    ·exact .inr h
  ·simp only[List.mem_append,List.mem_cons,List.not_mem_nil,or_false]
   constructor
   ·rintro((h|h)|h)
    ·exact .inl h
    ·exact .inr (.inl h)
    ·exact .inr (.inr h)
   ·rintro(h|h|h)
    ·exact .inl (.inl h)
    ·exact .inl (.inr h)
    ·exact .inr h
theorem cntT_keys (ms:List Str):((cntT ms).map (·.1)).Nodup∧∀m,m ∈ (cntT ms).map (·.1)↔m ∈ ms:=by
 obtain⟨h1,h2⟩:=cnt_keys ms [] (by simp)
 exact⟨h1,fun m=>by rw[show cntT ms=ms.foldl cnt1 [] from rfl,h2 m];simp⟩
theorem cntT_len (ms:List Str):(cntT ms).length≤ms.length:=by
 have:=cnt_len ms []
 simpa[cntT] using this
theorem look_own:∀ {l:List (Str × Int)},(l.map (·.1)).Nodup→∀p ∈ l,look0 l p.1=p.2
 | [],_,p,hp=>by cases hp
 |q::l,h,p,hp=>by
  rw[List.map_cons,List.nodup_cons] at h
  unfold look0
  by_cases e:q.1=p.1
  ·have:p=q:=by
    rcases List.mem_cons.mp hp with hp|hp
    ·exact hp
    ·exact absurd (List.mem_map.mpr ⟨p,hp,e.symm⟩) h.1
   subst this
   simp
  ·have hp:p ∈ l:=by
    rcases List.mem_cons.mp hp with hp|hp
    ·subst hp;exact absurd rfl e
    ·exact hp
   have:=look_own h.2 p hp
   unfold look0 at this
   rw[List.find?_cons_of_neg (by simpa using e)]
   exact this
theorem leanX_of {L R:List Str} (h:∀m ∈ R,m ∈ L):leanX L R=true:=by
 unfold leanX
 rw[List.all_eq_true]
 intro p hp
 have:p.1 ∈ (cntT L).map (·.1):=(cntT_keys L).2 _ |>.mpr (h _ ((cntT_keys R).2 _ |>.mp (List.mem_map_of_mem hp)))
 obtain⟨q,hq,e⟩:=List.mem_map.mp this
 exact List.any_eq_true.mpr ⟨q,hq,by simpa using e⟩
theorem lawCounts (k:Nat) {t:Tm} (h:Sml t) (S:Store):(Fs (k+10) 23 [t.d] S).sat fun d S'=>d= .obj S.length∧S'[S.length]? =some (.dK (kvW (cntT (mrk t.nodes))))∧Grow S S':=by
 have hs:=h.sz
 have hd:=h.dp
 have hw:=h.wn
 rw[show k+10=k+9+1 from rfl,Fs_law_counts,sat_run]
 refine⟨rfl,?_⟩
 unfold m_law_counts
 refine step_asg (d:= .obj S.length) (S1:=S++ [.dK []]) (by kernel_rfl) (by rfl) ?_
 refine seq_rule (fun e S1=>∃(a2:Option D),e= [some t.d,some (.obj S.length),a2] ∧S1[S.length]? =some (.dK (kvW (cntT (mrk t.nodes))))∧Grow S S1) ?_ ?_
 ·show((sFor _ _ _) [some t.d,some (.obj S.length),none] (S++ [.dK []])).sat _ _ _ _
  rw[ssat_for,sat_iSeq]
  simp only[sat_eN,sat_aCons,sat_aNil,sat_eVar,List.getElem?_cons_zero,callK_eq,List.append_nil]
  refine sat_mono (nodesL 8 (k+1) t _ hd (by omega)) ?_
  rintro d S0 ⟨rfl,g0⟩
  rw[itemsD_lst,sat_ok]
  refine for_rule (fun j e S1=>∃(a2:Option D),e= [some t.d,some (.obj S.length),a2] ∧S1[S.length]? =some (.dK (kvW (cntT (mrk (t.nodes.take j)))))∧Grow S S1) ⟨_,rfl,g0.fr _ _ (by simp[mrk,holesL,cntT,kvW]),(Grow.app _ _).trans g0⟩ ?_ ?_
  ·rintro j hj e S1 ⟨a2,rfl,h1,g1⟩
   rw[Tm.ds_len] at hj
   have ej:(Tm.ds t.nodes)[j]'(by rw[Tm.ds_len];exact hj)=t.nodes[j].d:=by simp[Tm.ds_map]
   have hu:=hw _ (List.getElem_mem hj)
   rw[ej]
   simp only[gName_eq,ssat_nx,List.set_cons_succ,List.set_cons_zero]
   have et:t.nodes.take (j+1)=t.nodes.take j++ [t.nodes[j]] :=by rw[List.take_succ_eq_append_getElem hj]
   have eh:cntT (mrk (t.nodes.take (j+1)))=((ownH t.nodes[j]).map (·.1)).foldl cnt1 (cntT (mrk (t.nodes.take j))):=by
    unfold mrk holesL cntT
    rw[et,List.flatMap_append,List.map_append,List.foldl_append]
    simp
   have hlen:(kvW (cntT (mrk (t.nodes.take j)))).length≤900:=by
    have h1:=cnt_len (mrk (t.nodes.take j)) []
    have h2:=holesL_len (t.nodes.take j)
    have h3:=Tm.nodes_len t
    simp only[kvW,List.length_map,mrk,cntT,List.length_nil,List.length_take] at*
    omega
   rw[ssat_if]
   simp only[sat_tOfE,sat_e2,sat_eN,sat_aCons,sat_aNil,sat_eVar,sat_eK,List.getElem?_cons_succ,List.getElem?_cons_zero]
   rw[Tp.ix0,sat_ok,sat_mkTup]
   refine⟨of_eq_true sz4,?_⟩
   rw[in_hw hu rfl,sat_ok,blD_bl,sat_ok]
   rcases own_wordK t.nodes[j] with⟨hh,m,ps,e,eo,em⟩|⟨hh,eo⟩
   ·rw[if_pos (decide_eq_true hh)]
    rw[eo] at eh
    simp only[ssat_asg,sat_e2,sat_eBM,sat_eVar,sat_aCons,sat_aNil,sat_eK,List.getElem?_cons_succ,List.getElem?_cons_zero]
    refine⟨by simp[mtD,h1],?_⟩
    rw[Tp.ix1,sat_ok]
    have eg:dgetD (.obj S.length) [t.nodes[j].m, .int 0] S1= .ok (.int (look0 (cntT (mrk (t.nodes.take j))) m)) S1:=by
     rw[em]
     simp only[dgetD,dkAt,h1]
     show R.ok ((dGet (kvW _) (.inr m)).getD (.int 0)) S1=_
     rw[kvW_get]
     unfold look0
     cases((cntT (mrk (t.nodes.take j))).find? fun p=>decide (p.1=m))<;>rfl
    rw[eg,sat_ok,add_int,sat_ok,ssat_gSub]
    simp only[sat_e2,sat_eVar,sat_eK,List.getElem?_cons_succ,List.getElem?_cons_zero]
    rw[Tp.ix1,sat_ok,em]
    refine⟨_,setD_dK h1 rfl (Nat.lt_of_lt_of_le (m:=1000) (by omega) (by decide)),_,rfl,?_,g1.put (Nat.le_refl _) _⟩
    rw[List.getElem?_set_self (List.getElem?_eq_some_iff.mp h1).1,eh]
    simp only[List.map_cons,List.map_nil,List.foldl_cons,List.foldl_nil,cnt1,kvW_put]
   ·rw[if_neg (by simpa using hh),ssat_skip]
    rw[eo] at eh
    exact⟨_,rfl,by rw[eh];exact h1,g1⟩
  ·rintro e S1 ⟨a2,rfl,h1,g1⟩
   rw[Tm.ds_len,List.take_length] at h1
   exact⟨_,rfl,h1,g1⟩
 rintro e S1 ⟨a2,rfl,h1,g1⟩
 simp only[ssat_sRet,sat_eVar,List.getElem?_cons_succ,List.getElem?_cons_zero]
 exact⟨by trivial,h1,g1⟩
end K60
namespace K60
open PySem L2 L3 L3.Tp
variable {S:Store} {n:Nat}
def lfT (x:Str × Str):Tm:=if x.1= "name" then .nam x.2 else .nd x.1 x.2 []
theorem lfT_d (x:Str × Str):(lfT x).d=Tp.hoD x:=by
 unfold lfT Tp.hoD
 split
 ·rename_i h
  rw[h];rfl
 ·rfl
theorem lfT_size (x:Str × Str):(lfT x).size=1:=by unfold lfT;split<;>simp[Tm.size,Tm.sizes]
theorem lfT_dep (x:Str × Str):(lfT x).dep=1:=by unfold lfT;split<;>simp[Tm.dep,Tm.deps]
def Lf (H:List (Str × Str)) (x:Str × Str):Prop:=(x.1= "name" ∨(x.1 ∈ HW∧x ∈ H))∧NameOk x.2
theorem Lf.ok {H:List (Str × Str)} {x:Str × Str} (h:Lf H x):PyData.strOk x.1=true∧PyData.strOk x.2=true:=by
 refine⟨?_,asc_ok (name_asc h.2)⟩
 rcases h.1 with e|⟨e,_⟩
 ·rw[e];decide +kernel
 ·have:∀w ∈ HW,PyData.strOk w=true:=by decide +kernel
  exact this _ e
theorem Lf.wt {H:List (Str × Str)} {x:Str × Str} (h:Lf H x):Wt H (lfT x):=by
 unfold lfT
 by_cases hn:x.1= "name"
 ·rw[if_pos hn];exact .nam h.2
 ·rw[if_neg hn]
  rcases h.1 with e|⟨e,hm⟩
  ·exact absurd e hn
  ·refine .nd ?_ (.inr h.2) (by simp) (fun _=>hm) fun p hp=>by cases hp
   have:∀w ∈ HW,w ∈ WORDS:=by decide +kernel
   exact this _ e
theorem lf_py {x:Str × Str} (h:PyData.strOk x.1=true∧PyData.strOk x.2=true):toPy (Tp.hoD x)=some (.tuple [.str x.1, .str x.2, .tuple []]):=by
 show toPy (.tup [.str x.1, .str x.2, .tup []])=_
 simp only[toPy,toPyL,h.1,h.2,if_true,Option.map_some]
theorem sort_lf {x:D} {l:List (Str × Str)} {S:Store} (hx:asL x S=some (l.map Tp.hoD)) (hl:l.length<64) (ho:∀x ∈ l,PyData.strOk x.1=true∧PyData.strOk x.2=true):∃m:List (Str × Str),sortSetO x S= .ok (.lst (m.map Tp.hoD)) S∧(∀ a,a ∈ m↔a ∈ l)∧m.length≤l.length:=by
 obtain⟨m,e,_,hm,hl',_⟩:=sortSet_map (x:=x) (l:=l) (f:=kH) (S:=S) (fun a _ b _=>kH_inj a b) (by rw[hx];rfl) (fun a _=>rfl) (.inr ⟨fun a _=>⟨rfl,by simp[kH,NestedKey.depth,NestedKey.depthAll]⟩,Nat.lt_trans hl (by decide)⟩) (by
  have tp:∀a ∈ l,toPy (kD (kH a))=some (.tuple [.str a.1, .str a.2, .tuple []]):=fun a ha=>lf_py (ho a ha)
  have ec:∀a ∈ l,encD (kD (kH a))= .tuple [.str a.1, .str a.2, .tuple []] :=fun a ha=>by simp only[encD,tp a ha,Option.getD_some]
  simp only[okSt,Bool.and_eq_true,List.all_eq_true,decide_eq_true_eq,Bool.or_eq_true]
  refine⟨⟨⟨small (by rw[List.length_map];omega),fun d hd=> ?_⟩,fun d hd e he=> ?_⟩, .inl fun d hd=> ?_⟩
  ·obtain⟨a,ha,rfl⟩:=List.mem_map.mp hd
   rw[tp a ha,ec a ha];exact⟨rfl,by simp[PyData.depth,PyData.depthAll]⟩
  ·obtain⟨a,ha,rfl⟩:=List.mem_map.mp hd
   obtain⟨b,hb,rfl⟩:=List.mem_map.mp he
   rw[ec a ha,ec b hb];simp[PySem.W.alike,PySem.W.alikeAll]
  ·obtain⟨a,ha,rfl⟩:=List.mem_map.mp hd
   rw[ec a ha];rfl)
 exact⟨m,e,hm,hl'⟩
def mkB (t u:Tm):Bool:=match u.m with
 | .str m=>decide (m ∈ mrk t.nodes)
 | _=>false
theorem mrk_hl {t:Tm} (h:PG t):mrk t.nodes=t.hl.map (·.1):=by unfold mrk;rw[holes_hl h]
theorem own_leaf {t u:Tm} (hp:Pat t) (hu:u ∈ t.nodes) (hb:mkB t u=true):u.d=Tp.hoD (u.word,nmOf u)∧Lf (hoL t) (u.word,nmOf u):=by
 have pu:=L3.PG.nodes hp.pg u hu
 have hap:∀m,m ∈ mrk t.nodes→m ∉ t.gv∧NameOk m:=fun m hm=>by
  rw[mrk_hl hp.pg] at hm
  obtain⟨x,hx,rfl⟩:=List.mem_map.mp hm
  exact⟨hp.apart x hx,(hp.hfo x hx).ok⟩
 cases pu with
 |num h0 h1=>simp[mkB,Tm.m] at hb
 |nam hs=>exact⟨rfl, .inl rfl,hs⟩
 | @hole w m h1 h2=>exact⟨rfl, .inr ⟨h1,hoL_mem hu h1⟩,h2⟩
 | @nd w m ps f mo r gg hs h1 h2 h3 h4 h5 hk=>
   exfalso
   have hm:m ∈ mrk t.nodes:=by simpa[mkB,Tm.m] using hb
   obtain⟨n1,n2⟩:=hap m hm
   have hw:=pshape_word hs
   cases gg with
   |false=>
    rw[h5 rfl] at n2
    have:=n2.lo
    have e0:("" :Str).length=0:=by decide +kernel
    omega
   |true=>
    refine n1 ?_
    rw[← givs_gv]
    unfold givsL
    refine List.mem_flatMap.mpr ⟨_,hu,?_⟩
    unfold ownG
    simp only[hw.2.2.2.2.2.2.1.mpr rfl,if_true,List.mem_singleton]
structure Shp (t u:Tm):Prop where
 wt:Wt (hoL t) u
 sz:u.size≤20
 dp:u.dep≤6
theorem wt_nodes {H:List (Str × Str)} :∀(k:Nat) {u:Tm},u.size≤k→Wt H u→∀v ∈ u.nodes,Wt H v
 |0,u,h,_,_,_=>by have:=u.size_pos;omega
 |k+1,u,h,w,v,hv=>by
  rw[Tm.nodes_eq,List.mem_cons] at hv
  rcases hv with rfl|hv
  ·exact w
  ·obtain⟨p,hp,hv⟩:=Tm.nodesL_mem.mp hv
   have:=Tm.sizes_mem hp
   have e:=Tm.size_eq u
   exact wt_nodes k (by omega) (w.kids.2 p hp) v hv
theorem Shp.sml {t u:Tm} (h:Shp t u):Sml u:=⟨by have:=h.sz;omega,by have:=h.dp;omega,fun v hv=>(wt_nodes _ (Nat.le_refl _) h.wt v hv).word⟩
theorem Shp.sub {t u:Tm} (h:Shp t u):∀m ∈ mrk u.nodes,m ∈ mrk t.nodes:=fun m hm=>by
 unfold mrk holesL at hm
 obtain⟨x,hx,rfl⟩:=List.mem_map.mp hm
 obtain⟨v,hv,hx⟩:=List.mem_flatMap.mp hx
 have wv:=wt_nodes _ (Nat.le_refl _) h.wt v hv
 cases wv with
 |num=>simp[ownH] at hx
 |nam=>simp[ownH] at hx
 | @nd w m ps a b c d e=>
   unfold ownH at hx
   simp only at hx
   split at hx
   ·rename_i hw
    rw[List.mem_singleton] at hx
    subst hx
    have:=d hw
    unfold hoL at this
    obtain⟨v',hv',e'⟩:=List.mem_map.mp this
    obtain⟨hv',hc⟩:=List.mem_filter.mp hv'
    unfold mrk holesL
    refine List.mem_map.mpr ⟨(m,w),List.mem_flatMap.mpr ⟨v',hv',?_⟩,rfl⟩
    rcases own_wordK v' with⟨hh,m',ps',e2,eo,em⟩|⟨hh,_⟩
    ·rw[eo,List.mem_singleton]
     simp only[Prod.mk.injEq] at e'
     rw[← e'.1,←e'.2]
     simp only[nmOf,em]
    ·exact absurd (of_decide_eq_true hc) hh
   ·cases hx
theorem pat_shp {t:Tm} (h:Pat t):Shp t t:=⟨pg_wt _ t (Nat.le_refl _) h.pg fun w m h1 h2=>hoL_mem h1 h2,h.size,h.dep⟩
def rowT (l:List (Str × Str)):Tm:= .nd "row" "" ((l.take 8).map lfT)
theorem row_shp {t:Tm} {l:List (Str × Str)} (h:∀x ∈ l,Lf (hoL t) x):Shp t (rowT l):=by
 have hl:(l.take 8).length≤8:=by rw[List.length_take];omega
 have hm:∀x ∈ l.take 8,Lf (hoL t) x:=fun x hx=>h x (List.mem_of_mem_take hx)
 unfold rowT
 generalize l.take 8=r at hl hm
 have hz:Tm.sizes (r.map lfT)=r.length:=by
  clear hl hm
  induction r with
  |nil=>rfl
  |cons x r ih=>simp only[List.map_cons,Tm.sizes,lfT_size,ih,List.length_cons];omega
 have hd:Tm.deps (r.map lfT)≤1:=Tm.deps_le.mpr fun p hp=>by
  obtain⟨x,_,rfl⟩:=List.mem_map.mp hp
  rw[lfT_dep];exact Nat.le_refl _
 refine⟨.nd (by decide +kernel) (.inl rfl) (by simpa using hl) (fun h=>absurd h (by decide +kernel)) fun p hp=> ?_,by simp only[Tm.size,hz];omega,by simp only[Tm.dep];omega⟩
 obtain⟨x,hx,rfl⟩:=List.mem_map.mp hp
 exact(hm x hx).wt
theorem num_shp (t:Tm):Shp t (.num 1):=⟨.num (by decide) (by decide),by simp[Tm.size],by simp[Tm.dep]⟩
theorem rowT_d (l:List (Str × Str)):(rowT l).d= .tup [.str "row", .str "", .tup ((l.take 8).map Tp.hoD)] :=by
 unfold rowT
 simp only[Tm.d,Tm.ds_map,List.map_map]
 have:(Tm.d ∘ lfT)=Tp.hoD:=by funext x;exact lfT_d x
 rw[this]
theorem due_eq (L R:List Str):((cntT R).all fun p=>decide (look0 (cntT R) p.1≤look0 (cntT L) p.1))=leanB L R:=by
 unfold leanB
 rw[Bool.eq_iff_iff]
 simp only[List.all_eq_true,decide_eq_true_eq]
 have h:=(cntT_keys R).1
 constructor
 ·intro a p hp
  have:=a p hp
  rwa [look_own h p hp] at this
 ·intro a p hp
  rw[look_own h p hp]
  exact a p hp
end K60
namespace K60
open PySem L2 L3 L3.Tp
variable {S:Store} {n:Nat}
def MORE:D:= .tup [.str "within", .tup [.str "find", .tup [.str "any", .str "holeany", .tup []]]]
def skL (t:Tm):List D:= [.non, .tup [.str "find",t.d], .tup [.str "not",MORE],MORE]
theorem rul_bj {a:Str} {b c e:D} (h0:asc a=true) (h1:Bj 8 8000 12 b) (h2:Bj 8 17000 15 c) (h3:Bj 8 8000 12 e):Bj 8 40000 16 (.tup [.str a,b,c,e]):=by
 have:=h1.w;have:=h2.w;have:=h3.w
 have:=h1.d;have:=h2.d;have:=h3.d
 refine⟨.tup (by simp) ?_,by simp only[wt,wts];omega,by simp only[L3.dp,dps];omega⟩
 intro x hx
 simp only[List.mem_cons,List.not_mem_nil,or_false] at hx
 rcases hx with rfl|rfl|rfl|rfl
 ·exact .str h0
 ·exact h1.u
 ·exact h2.u
 ·exact h3.u
theorem sk_bj {t:Tm} (ht:Shp t t):∀x ∈ skL t,Bj 8 17000 15 x:=by
 have f0:=wt_bj ht.wt ht.sz ht.dp
 have f1:=tup2_bj (s:= "find") (by decide +kernel) f0 (by decide)
 have a0:Bj 8 400 2 (.tup [.str "any", .str "holeany", .tup []]):=by
  refine⟨.tup (by simp) ?_,by simp[wt,wts],by simp[L3.dp,dps]⟩
  intro x hx
  simp only[List.mem_cons,List.not_mem_nil,or_false] at hx
  rcases hx with rfl|rfl|rfl
  ·exact .str (by decide +kernel)
  ·exact .str (by decide +kernel)
  ·exact .tup (by simp) (by simp)
 have a1:=tup2_bj (s:= "find") (by decide +kernel) a0 (by decide)
 have a2:=tup2_bj (s:= "within") (by decide +kernel) a1 (by decide)
 have a3:=tup2_bj (s:= "not") (by decide +kernel) a2 (by decide)
 intro x hx
 simp only[skL,List.mem_cons,List.not_mem_nil,or_false] at hx
 rcases hx with rfl|rfl|rfl|rfl
 ·exact non_bj (by decide)
 ·exact f1.mono (by omega) (by omega) (by omega)
 ·exact a3.mono (by omega) (by omega) (by omega)
 ·exact a2.mono (by omega) (by omega) (by omega)
theorem bl_rep (b:Bool):∃z:Str,∀S,reprD [.bl b] S= .ok (.str z) S:=by cases b<;>exact⟨_,fun S=>rfl⟩
theorem draws {te:ED} {env:EnvD} {P:Tm→Prop} (ht:∀(S:Store) (x:D),Hand n S→(te (env.set 9 (some x)) S).sat fun d S'=>∃u:Tm,d=u.d∧P u∧FrH n S S'):∀(xs:List D) {S:Store} {Q:List D→Store→Prop},Hand n S→(∀ us S',us.length=xs.length→(∀ u ∈ us,P u)→FrH n S S'→Q (Tm.ds us) S')→lcSat (gName 9) tYesD te env xs S Q
 | [],S,Q,hS,h=>h [] S rfl (by simp) (FrH.refl hS)
 |x::xs,S,Q,hS,h=>by
  simp only[lcSat,L3.gName,tYesD,sat_ok,if_true]
  refine sat_mono (ht S x hS) ?_
  rintro d S1 ⟨u,rfl,pu,f1⟩
  refine draws ht xs f1.hd fun us S2 a1 a2 a3=> ?_
  refine h (u::us) S2 (by simp[a1]) (fun v hv=> ?_) (f1.trans a3)
  rcases List.mem_cons.mp hv with rfl|hv
  ·exact pu
  ·exact a2 v hv
theorem in_own {t u:Tm} {o:Nat} (hu:u ∈ t.nodes) (ho:S[o]? =some (.dK (kvW (cntT (mrk t.nodes))))):inD u.m (.obj o) S= .ok (.bl (mkB t u)) S:=by
 have key:∀m:Str,(dGet (kvW (cntT (mrk t.nodes))) (.inr m)).isSome=decide (m ∈ mrk t.nodes):=fun m=>by
  rw[kvW_get]
  rw[Bool.eq_iff_iff]
  simp only[Option.isSome_map,decide_eq_true_eq]
  rw[← (cntT_keys (mrk t.nodes)).2 m,Option.isSome_iff_exists]
  constructor
  ·rintro⟨p,hp⟩
   have:=List.find?_some hp
   exact List.mem_map.mpr ⟨p,List.mem_of_find?_eq_some hp,by simpa using this⟩
  ·intro h
   obtain⟨p,hp,e⟩:=List.mem_map.mp h
   cases hf:(cntT (mrk t.nodes)).find? fun p=>decide (p.1=m) with
   |some q=>exact⟨q,rfl⟩
   |none=>exact absurd (by simpa using e) (List.find?_eq_none.mp hf p hp)
 have num:∀i:Int,(dGet (kvW (cntT (mrk t.nodes))) (.inl i)).isSome=false:=fun i=>by
  unfold dGet
  rw[Option.isSome_map,Option.isSome_eq_false_iff,Option.isNone_iff_eq_none,List.find?_eq_none]
  intro x hx
  unfold kvW at hx
  obtain⟨p,_,rfl⟩:=List.mem_map.mp hx
  simp
 cases u with
 |num i=>
  simp only[inD,memD,Tm.m,ho,memKey,L3.keyOf,num,mkB]
 |nam s=>
  simp only[inD,memD,Tm.m,ho,memKey,L3.keyOf,key,mkB]
 |nd w m ps=>
  simp only[inD,memD,Tm.m,ho,memKey,L3.keyOf,key,mkB]
def mOne (F:Nat→FN):SD:=sSeq (sAsg (eN mkTup (aCons (eK (.str "within")) (aCons (eN mkTup (aCons (eK (.str "find")) (aCons (eN mkTup (aCons (eK (.str "any")) (aCons (eK (.str "holeany")) (aCons (eN mkTup (aNil)) (aNil))))) (aNil)))) (aNil)))) (gName 11))
    (sSeq (sAsg (eN mkTup (aCons (eK (.str "rule")) (aCons (eVar 4) (aCons (eN (callK (F 6) []) (aCons (eVar 2) (aCons (eN mkLst (aCons (eK .non) (aCons (eN mkTup (aCons (eK (.str "find")) (aCons (eVar 4) (aNil)))) (aCons (eN mkTup (aCons (eK (.str "not")) (aCons (eVar 11) (aNil)))) (aCons (eVar 11) (aNil)))))) (aNil)))) (aCons (eVar 10) (aNil)))))) (gName 12))
    (sSeq (sAsg (eN mkTup (aCons (eN (callK (F 23) []) (aCons (eVar 10) (aNil))) (aCons (eN reprD (aCons (eVar 12) (aNil))) (aNil)))) (gTup [13,14]))
    (sSeq (sAsg (eN allD (aCons (eLc (iLkd (eVar 13)) [16] (gName 16) (tYesD) (e2 leD (e2 ixkD (eVar 13) (eVar 16)) (e2 ixD (eVar 5) (eVar 16)))) (aNil))) (gName 15))
    (sIf (tOr (tOfE (e2 neD (eN reprD (aCons (eN (callK (F 3) []) (aCons (eVar 12) (aNil))) (aNil))) (eN reprD (aCons (eVar 15) (aNil))))) (tOr (tOfE (e2 neD (eN reprD (aCons (eKw (kwK (F 3) 0 1 kbd_is_lean_0_rule_g) aNil (aCons (eVar 12) (aNil))) (aNil))) (eN reprD (aCons (eVar 15) (aNil))))) (tOfE (e2 neD (eN reprD (aCons (eVar 12) (aNil))) (eVar 14))))) (sRet (eK (.bl false))) (sSkip)))))
theorem one {ns:List Int} {i:Int} {c t u:Tm} {a6 a7 a8 a9 a11 a12 a13 a14 a15 a16:Option D} {o:Nat} {T:D→Store→Prop} {N B C:EnvD→Store→Prop} (hS:Hand n S) (hno:n≠o) (ho:S[o]? =some (.dK (kvW (cntT (mrk t.nodes))))) (ht:Shp t t) (hu:Shp t u)
 (hN:∀S' b11 b12 b13 b14 b15 b16,Hand n S'→S'[o]? =some (.dK (kvW (cntT (mrk t.nodes))))→N [some (.scr ns),some (.int i),some (.obj n),some c.d,some t.d,some (.obj o),a6,a7,a8,a9,some u.d,b11,b12,b13,b14,b15,b16] S'):
 (mOne (Fs 99) [some (.scr ns),some (.int i),some (.obj n),some c.d,some t.d,some (.obj o),a6,a7,a8,a9,some u.d,a11,a12,a13,a14,a15,a16] S).sat N T B C:=by
 unfold mOne
 refine step_asg (d:=MORE) (S1:=S) (S2:=S) (env':= [some (.scr ns),some (.int i),some (.obj n),some c.d,some t.d,some (.obj o),a6,a7,a8,a9,some u.d,some MORE,a12,a13,a14,a15,a16]) (by kernel_rfl) rfl ?_
 refine seq_rule (fun e S'=>∃sk ∈ skL t,e= [some (.scr ns),some (.int i),some (.obj n),some c.d,some t.d,some (.obj o),a6,a7,a8,a9,some u.d,some MORE,some (.tup [.str "rule",t.d,sk,u.d]),a13,a14,a15,a16] ∧Hand n S'∧S'[o]? =some (.dK (kvW (cntT (mrk t.nodes))))) ?_ ?_
 ·rw[ssat_asg]
  simp only[sat_eN,sat_aCons,sat_aNil,sat_eVar,sat_eK,List.getElem?_cons_succ,List.getElem?_cons_zero,callK_eq,List.append_nil,sat_mkTup,sat_mkLst]
  refine⟨of_eq_true sz2,of_eq_true sz2,of_eq_true sz4,?_⟩
  refine sat_mono (pk 97 n S _ _ hS (.lst (skL t)) (by simp[skL]) (by simp[skL])) ?_
  rintro sk S1 ⟨hsk,f1⟩
  refine⟨of_eq_true sz4,?_⟩
  simp only[gName_eq,ssat_nx,List.set_cons_succ,List.set_cons_zero]
  exact⟨sk,hsk,rfl,f1.hd,f1.fr _ _ (Ne.symm hno) ho⟩
 rintro e S1 ⟨sk,hsk,rfl,h1,o1⟩
 obtain⟨z,hz⟩:=((rul_bj (a:= "rule") (by decide +kernel) (wt_bj ht.wt ht.sz ht.dp) (sk_bj ht sk hsk) (wt_bj hu.wt hu.sz hu.dp)).g (by decide) (by decide) (by decide)).rep
 refine seq_rule (fun e S'=>∃q,q≠o∧e= [some (.scr ns),some (.int i),some (.obj n),some c.d,some t.d,some (.obj o),a6,a7,a8,a9,some u.d,some MORE,some (.tup [.str "rule",t.d,sk,u.d]),some (.obj q),some (.str z),a15,a16] ∧Hand n S'∧n≠q∧S'[o]? =some (.dK (kvW (cntT (mrk t.nodes))))∧S'[q]? =some (.dK (kvW (cntT (mrk u.nodes))))) ?_ ?_
 ·rw[ssat_asg]
  simp only[sat_eN,sat_aCons,sat_aNil,sat_eVar,List.getElem?_cons_succ,List.getElem?_cons_zero,callK_eq,List.append_nil]
  refine sat_mono (lawCounts 89 hu.sml S1) ?_
  rintro d S2 ⟨rfl,q2,g2⟩
  rw[hz,sat_ok,sat_mkTup]
  refine⟨of_eq_true sz2,?_⟩
  simp only[gTup_tup,gNames_cons,gNames_nil,ssat_nx,List.set_cons_succ,List.set_cons_zero]
  have:=(List.getElem?_eq_some_iff.mp o1).1
  have:=h1.lt
  exact⟨S1.length,by omega,rfl,(g2.hand h1).hd,by omega,g2.fr _ _ o1,q2⟩
 rintro e S2 ⟨q,hqo,rfl,h2,hnq,o2,q2⟩
 refine seq_rule (fun e S'=>e= [some (.scr ns),some (.int i),some (.obj n),some c.d,some t.d,some (.obj o),a6,a7,a8,a9,some u.d,some MORE,some (.tup [.str "rule",t.d,sk,u.d]),some (.obj q),some (.str z),some (.bl (leanB (mrk t.nodes) (mrk u.nodes))),a16] ∧Hand n S'∧S'[o]? =some (.dK (kvW (cntT (mrk t.nodes))))) ?_ ?_
 ·rw[ssat_asg]
  simp only[sat_eN,sat_aCons,sat_aNil]
  rw[sat_eLc]
  have it:iLkd (eVar 13) [some (.scr ns),some (.int i),some (.obj n),some c.d,some t.d,some (.obj o),a6,a7,a8,a9,some u.d,some MORE,some (.tup [.str "rule",t.d,sk,u.d]),some (.obj q),some (.str z),a15,a16] S2= .ok ((cntT (mrk u.nodes)).map fun p=>D.str p.1) (S2.set q (.lkd (kvW (cntT (mrk u.nodes))))):=by
   unfold iLkd
   simp only[eVar,List.getElem?_cons_succ,List.getElem?_cons_zero,R.bind,q2]
   congr 1
   unfold kvW
   rw[List.map_map];rfl
  rw[it,sat_ok]
  have q3:(S2.set q (.lkd (kvW (cntT (mrk u.nodes)))))[q]? =some (.lkd (kvW (cntT (mrk u.nodes)))):=List.getElem?_set_self (List.getElem?_eq_some_iff.mp q2).1
  have o3:(S2.set q (.lkd (kvW (cntT (mrk u.nodes)))))[o]? =some (.dK (kvW (cntT (mrk t.nodes)))):=by rw[List.getElem?_set_ne hqo];exact o2
  have h3:Hand n (S2.set q (.lkd (kvW (cntT (mrk u.nodes))))):=by
   obtain⟨ga,gb,ge⟩:=h2
   exact⟨ga,gb,by rw[List.getElem?_set_ne (Ne.symm hnq)];exact ge⟩
  generalize S2.set q (.lkd (kvW (cntT (mrk u.nodes))))=S3 at q3 o3 h3
  have hlen:(cntT (mrk u.nodes)).length≤60:=by
   have a1:=cntT_len (mrk u.nodes)
   have a2:=holesL_len u.nodes
   have a3:=Tm.nodes_len u
   have a4:=hu.sz
   simp only[mrk,List.length_map] at a1 ⊢
   omega
  refine⟨small (by rw[List.length_map];omega),?_⟩
  simp only[wipeD,List.set_cons_succ,List.set_cons_zero]
  refine lc_g (fun p:Str × Int=>D.str p.1) (fun p=>D.bl (decide (look0 (cntT (mrk u.nodes)) p.1≤look0 (cntT (mrk t.nodes)) p.1))) (fun p hp=> ?_) ?_
  ·refine⟨_,by rw[gName_eq],?_⟩
   apply of_sat
   simp only[List.set_cons_succ,List.set_cons_zero,sat_e2,sat_eVar,List.getElem?_cons_succ,List.getElem?_cons_zero]
   have k1:((cntT (mrk u.nodes)).any fun q=>decide (q.1=p.1))=true:=List.any_eq_true.mpr ⟨p,hp,by simp⟩
   have k2:((cntT (mrk t.nodes)).any fun q=>decide (q.1=p.1))=true:=List.all_eq_true.mp (leanX_of hu.sub) p hp
   have e1:ixkD (.obj q) (.str p.1) S3= .ok (.int (look0 (cntT (mrk u.nodes)) p.1)) S3:=by
    simp only[ixkD,q3,L3.keyOf,look_get k1]
   rw[e1,sat_ok,ix_dict (kvs:=kvW (cntT (mrk t.nodes))) (k:= .inr p.1) (by simp[dkAt,o3]) rfl (look_get k2),sat_ok,le_int,sat_ok]
   exact⟨rfl,rfl⟩
  ·rw[all_fn,sat_ok,due_eq]
   simp only[gName_eq,ssat_nx,List.set_cons_succ,List.set_cons_zero]
   exact⟨by trivial,h3,o3⟩
 rintro e S3 ⟨rfl,h3,o3⟩
 obtain⟨y,hy⟩:=bl_rep (leanB (mrk t.nodes) (mrk u.nodes))
 have hx:=leanX_of hu.sub
 rw[ssat_if]
 simp only[sat_tOr,sat_tOfE,sat_e2,sat_eN,sat_aCons,sat_aNil,sat_eVar,List.getElem?_cons_succ,List.getElem?_cons_zero,callK_eq,List.append_nil]
 refine sat_mono (isLean 88 (nm:= "rule") (sk:=sk) ht.sml hu.sml hx S3) ?_
 rintro d S4 ⟨rfl,g4⟩
 rw[hy,sat_ok,hy,sat_ok,ne_strs,sat_ok,blD_bl,sat_ok,if_neg (by simp)]
 have ek:∀S,(eKw (kwK (Fs 99 3) 0 1 kbd_is_lean_0_rule_g) aNil (aCons (eVar 12) aNil)) [some (.scr ns),some (.int i),some (.obj n),some c.d,some t.d,some (.obj o),a6,a7,a8,a9,some u.d,some MORE,some (.tup [.str "rule",t.d,sk,u.d]),some (.obj q),some (.str z),some (.bl (leanB (mrk t.nodes) (mrk u.nodes))),a16] S=Fs 99 3 [.tup [.str "rule",t.d,sk,u.d]] S:=fun S=>by
  simp only[eKw,aCons,aNil,eVar,List.getElem?_cons_zero,List.getElem?_cons_succ,R.bind,kwK]
  rfl
 rw[ek]
 refine sat_mono (isLean 88 (nm:= "rule") (sk:=sk) ht.sml hu.sml hx S4) ?_
 rintro d S5 ⟨rfl,g5⟩
 rw[hy,sat_ok,hy,sat_ok,ne_strs,sat_ok,blD_bl,sat_ok,if_neg (by simp),hz,sat_ok,ne_strs,sat_ok,blD_bl,sat_ok,if_neg (by simp),ssat_skip]
 exact hN _ _ _ _ _ _ _ ((g4.trans g5).hand h3).hd ((g4.trans g5).fr _ _ o3)
end K60
namespace K60
open PySem L2 L3 L3.Tp
variable {S:Store} {n:Nat}
def SH (t:Tm) (m:List (Str × Str)):List Tm:= [t, .num 1,rowT (m++m),rowT m]
theorem cut8 (l:List D):cutL l none (some 8)=l.take 8:=by
 unfold cutL
 rw[show (some (8:Int))=some ((8:Nat):Int) from rfl,HT.sIx_none,HT.sIx_nat]
 simp only[List.drop_zero,Nat.sub_zero]
 rw[List.take_eq_take_min.symm.trans (by rfl)]
theorem law_true:∀ns:List Int,ns.length≤63→∃S,Fs 100 24 [.scr ns] [] = .ok (.bl true) S:=by
 intro ns hn
 have key:(Fs 100 24 [.scr ns] []).sat fun d _=>d= .bl true:=by
  rw[show (100:Nat)=99+1 from rfl,Fs_law,sat_run]
  refine⟨rfl,?_⟩
  unfold m_law
  refine seq_rule (fun e S=>True) ?_ fun e S _=>by simp
  obtain⟨m,hm,em⟩:∃m:Nat,m≤4∧∀(env:EnvD) S,env[0]? =some (some (.scr ns))→(eN maxD (aCons (eK (.int 1)) (aCons (eN minD (aCons (eK (.int 4)) (aCons (eN lenD (aCons (eVar 0) (aNil))) (aNil)))) (aNil)))) env S= .ok (.int m) S:=by
   refine⟨max 1 (min 4 ns.length),by omega,fun env S h0=> ?_⟩
   apply of_sat
   simp only[sat_eN,sat_aCons,sat_aNil,sat_eVar,sat_eK,h0]
   simp[minD,maxD]
   repeat' split
   all_goals omega
  simp only[ssat_for,sat_iArgs,sat_aCons,sat_aNil,List.map_cons,List.map_nil,List.cons_append,List.nil_append,List.length_cons,List.length_nil,Nat.zero_add,Nat.reduceSub,List.replicate]
  rw[em _ _ rfl,sat_ok,sat_range1]
  refine⟨by simp[okRng];omega,?_⟩
  refine for_each (fun e S=>∃a1 a2 a3 a4 a5 a6 a7 a8 a9 a10 a11 a12 a13 a14 a15 a16:Option D,e= [some (.scr ns),a1,a2,a3,a4,a5,a6,a7,a8,a9,a10,a11,a12,a13,a14,a15,a16]) ⟨_,_,_,_,_,_,_,_,_,_,_,_,_,_,_,_,rfl⟩ ?_ fun _ _ _=>trivial
  rintro x hx e S ⟨a1,a2,a3,a4,a5,a6,a7,a8,a9,a10,a11,a12,a13,a14,a15,a16,rfl⟩
  obtain⟨i,rfl,i0,i1⟩:=mem_range hx
  simp only[gName_eq,ssat_nx,List.set_cons_succ,List.set_cons_zero]
  refine seq_rule (fun e S=>∃n,e= [some (.scr ns),some (.int i),some (.obj n),a3,a4,a5,a6,a7,a8,a9,a10,a11,a12,a13,a14,a15,a16] ∧Hand n S) ?_ ?_
  ·simp only[ssat_asg,sat_eN,sat_aCons,sat_aNil,sat_eVar,List.getElem?_cons_succ,List.getElem?_cons_zero,callK_eq,List.append_nil]
   have hd:IsHand (Fs 99 4):=by rw[show (99:Nat)=98+1 from rfl,Fs_law_hand];exact isHand
   refine sat_mono (hd S ns i i0 (by omega)) fun d S' ⟨e,g,s,eS⟩=> ?_
   subst e eS
   simp only[gName_eq,ssat_nx,List.set_cons_succ,List.set_cons_zero]
   exact⟨_,rfl,g,s,by simp⟩
  rintro e S ⟨n,rfl,hS⟩
  refine seq_rule (fun e S=>∃t:Tm,e= [some (.scr ns),some (.int i),some (.obj n),some t.d,a4,a5,a6,a7,a8,a9,a10,a11,a12,a13,a14,a15,a16] ∧Q.Good4 t∧t.dep≤8∧t.size≤59∧Hand n S) ?_ ?_
  ·simp only[ssat_asg,sat_eN,sat_aCons,sat_aNil,sat_e2,sat_eVar,sat_eK,List.getElem?_cons_succ,List.getElem?_cons_zero,callK_eq,List.append_nil]
   refine sat_mono (tk 98 n S 23 hS (by decide) (by decide)) ?_
   rintro d S1 ⟨⟨j,rfl,j0,j1⟩,f1⟩
   rw[add_int,sat_ok]
   obtain⟨lf,elf⟩:∃lf:Nat,6+j=(lf:Int):=⟨(6+j).toNat,by omega⟩
   rw[elf]
   refine sat_mono (code 86 (left:=lf) f1.hd) ?_
   rintro d S2 ⟨t,rfl,g1,g2,g3,f2⟩
   simp only[gName_eq,ssat_nx,List.set_cons_succ,List.set_cons_zero]
   exact⟨t,rfl,g1,g2,by omega,f2.hd⟩
  rintro e S ⟨c,rfl,gc,gd,gs,hS⟩
  refine seq_rule (fun e S=>∃t:Tm,e= [some (.scr ns),some (.int i),some (.obj n),some c.d,some t.d,a5,a6,a7,a8,a9,a10,a11,a12,a13,a14,a15,a16] ∧Pat t∧Hand n S) ?_ ?_
  ·rw[ssat_asg]
   simp only[sat_eN,sat_aCons,sat_aNil,sat_eVar,List.getElem?_cons_succ,List.getElem?_cons_zero,callK_eq,List.append_nil]
   refine sat_mono (sought 79 n S c hS gc gd gs) ?_
   rintro d S1 ⟨p,rfl,hp,f1⟩
   simp only[gName_eq,ssat_nx,List.set_cons_succ,List.set_cons_zero]
   exact⟨p,rfl,hp,f1.hd⟩
  rintro e S ⟨t,rfl,hp,hS⟩
  have ht:=pat_shp hp
  refine seq_rule (fun e S=>∃o,n≠o∧e= [some (.scr ns),some (.int i),some (.obj n),some c.d,some t.d,some (.obj o),a6,a7,a8,a9,a10,a11,a12,a13,a14,a15,a16] ∧Hand n S∧S[o]? =some (.dK (kvW (cntT (mrk t.nodes))))) ?_ ?_
  ·rw[ssat_asg]
   simp only[sat_eN,sat_aCons,sat_aNil,sat_eVar,List.getElem?_cons_succ,List.getElem?_cons_zero,callK_eq,List.append_nil]
   refine sat_mono (lawCounts 89 ht.sml S) ?_
   rintro d S1 ⟨rfl,h1,g1⟩
   simp only[gName_eq,ssat_nx,List.set_cons_succ,List.set_cons_zero]
   have:=hS.lt
   exact⟨S.length,by omega,rfl,(g1.hand hS).hd,h1⟩
  rintro e S ⟨o,hno,rfl,hS,ho⟩
  refine seq_rule (fun e S=>∃m:List (Str × Str),(∀ x ∈ m,Lf (hoL t) x)∧m.length≤20∧e= [some (.scr ns),some (.int i),some (.obj n),some c.d,some t.d,some (.obj o),some (.lst (m.map Tp.hoD)),a7,a8,a9,a10,a11,a12,a13,a14,a15,a16] ∧Hand n S∧S[o]? =some (.dK (kvW (cntT (mrk t.nodes))))) ?_ ?_
  ·rw[ssat_asg,sat_e1,sat_eLc]
   simp only[sat_iSeq,sat_eN,sat_aCons,sat_aNil,sat_eVar,List.getElem?_cons_succ,List.getElem?_cons_zero,callK_eq,List.append_nil]
   refine sat_mono (nodesL 8 91 t S (by have:=hp.dep;omega) (by have:=hp.size;omega)) ?_
   rintro d S1 ⟨rfl,g1⟩
   have o1:=g1.fr _ _ ho
   have hz:=hp.size
   rw[itemsD_lst,sat_ok]
   refine⟨small (by rw[Tm.ds_len,Tm.nodes_len];omega),?_⟩
   simp only[wipeD,List.set_cons_succ,List.set_cons_zero]
   rw[Tm.ds_map]
   refine L3.Ft.lc_pure Tm.d Tm.d (mkB t) (fun u hu=>⟨_,by rw[gName_eq],of_sat (by
    simp only[List.set_cons_succ,List.set_cons_zero,sat_tOfE,sat_e2,sat_eVar,sat_eK,List.getElem?_cons_succ,List.getElem?_cons_zero]
    rw[Tp.ix1,sat_ok,in_own hu o1,sat_ok,blD_bl,sat_ok]
    exact⟨rfl,rfl⟩),fun _=>of_sat (by
    simp only[List.set_cons_succ,List.set_cons_zero,sat_eVar,List.getElem?_cons_succ,List.getElem?_cons_zero]
    first|exact⟨rfl,rfl⟩|trivial)⟩) ?_
   have el:(t.nodes.filter (mkB t)).map Tm.d=((t.nodes.filter (mkB t)).map fun u=>(u.word,nmOf u)).map Tp.hoD:=by
    rw[List.map_map]
    refine List.map_congr_left fun u hu=> ?_
    obtain⟨hu,hb⟩:=List.mem_filter.mp hu
    exact(own_leaf hp hu hb).1
   have hlf:∀x ∈ (t.nodes.filter (mkB t)).map fun u=>(u.word,nmOf u),Lf (hoL t) x:=fun x hx=>by
    obtain⟨u,hu,rfl⟩:=List.mem_map.mp hx
    obtain⟨hu,hb⟩:=List.mem_filter.mp hu
    exact(own_leaf hp hu hb).2
   have hll:((t.nodes.filter (mkB t)).map fun u=>(u.word,nmOf u)).length≤20:=by
    rw[List.length_map]
    have:=List.length_filter_le (mkB t) t.nodes
    rw[Tm.nodes_len] at this
    omega
   rw[el]
   generalize (t.nodes.filter (mkB t)).map (fun u=>(u.word,nmOf u))=l at hlf hll
   obtain⟨m,es,hm,hml⟩:=sort_lf (S:=S1) (x:= .lst (l.map Tp.hoD)) (l:=l) rfl (by omega) fun x hx=>(hlf x hx).ok
   rw[es,sat_ok,gName_eq,ssat_nx]
   exact⟨m,fun x hx=>hlf x ((hm x).mp hx),by omega,by trivial,(g1.hand hS).hd,o1⟩
  rintro e S ⟨m,hlf,hml,rfl,hS,ho⟩
  have hsh:∀u ∈ SH t m,Shp t u:=by
   intro u hu
   simp only[SH,List.mem_cons,List.not_mem_nil,or_false] at hu
   rcases hu with rfl|rfl|rfl|rfl
   ·exact ht
   ·exact num_shp t
   ·exact row_shp fun x hx=>by
     rcases List.mem_append.mp hx with h|h<;>exact hlf x h
   ·exact row_shp hlf
  refine step_asg (S1:=S) (S2:=S) (d:= .lst (Tm.ds (SH t m))) (env':= [some (.scr ns),some (.int i),some (.obj n),some c.d,some t.d,some (.obj o),some (.lst (m.map Tp.hoD)),a7,some (.lst (Tm.ds (SH t m))),a9,a10,a11,a12,a13,a14,a15,a16]) ?_ rfl ?_
  ·apply is_ok
   simp only[sat_eN,sat_aCons,sat_aNil,sat_e2,sat_eSl,sat_pNo,sat_pYes,sat_eVar,sat_eK,sat_mkTup,sat_mkLst,List.getElem?_cons_succ,List.getElem?_cons_zero,D.int.injEq,exists_eq_left']
   refine⟨of_eq_true sz0,of_eq_true sz3,?_⟩
   rw[add_lst (small (by rw[List.length_map];omega)),sat_ok,L3.sl_lst,sat_ok,tuple_lst,sat_ok]
   refine⟨of_eq_true sz3,?_⟩
   rw[L3.sl_lst,sat_ok,tuple_lst,sat_ok]
   refine⟨of_eq_true sz3,of_eq_true sz4,?_,rfl⟩
   simp only[SH,Tm.ds,rowT_d,cut8,←List.map_append,←List.map_take]
   rfl
  refine seq_rule (fun e S=>∃(us:List Tm) (a9:Option D),(∀ u ∈ us,Shp t u)∧us.length≤8∧e= [some (.scr ns),some (.int i),some (.obj n),some c.d,some t.d,some (.obj o),some (.lst (m.map Tp.hoD)),a7,some (.lst (Tm.ds us)),a9,a10,a11,a12,a13,a14,a15,a16] ∧Hand n S∧S[o]? =some (.dK (kvW (cntT (mrk t.nodes))))) ?_ ?_
  ·rw[ssat_asg]
   simp only[sat_e2,sat_eVar,List.getElem?_cons_succ,List.getElem?_cons_zero]
   rw[sat_eLc]
   simp only[sat_iArgs,sat_aCons,sat_aNil,sat_eK,sat_range1]
   refine⟨by simp[okRng],?_⟩
   have hr:(rangeD 0 4).length=4:=by decide
   refine⟨small (by rw[hr];omega),?_⟩
   simp only[wipeD,List.set_cons_succ,List.set_cons_zero]
   refine draws (n:=n) (P:=Shp t) (fun S1 x h1=> ?_) (rangeD 0 4) hS fun us S1 u1 u2 f1=> ?_
   ·simp only[List.set_cons_succ,List.set_cons_zero,sat_eN,sat_aCons,sat_aNil,sat_eVar,List.getElem?_cons_succ,List.getElem?_cons_zero,callK_eq,List.append_nil]
    refine sat_mono (templ 79 n S1 c t h1 gc gd gs hp.pg hp.size hp.dep) ?_
    rintro d S2 ⟨u,rfl,w1,w2,w3,f2⟩
    exact⟨u,rfl,⟨w1,w2,w3⟩,f2⟩
   ·rw[hr] at u1
    rw[add_lst (small (by rw[Tm.ds_len,Tm.ds_len];simp[SH];omega)),sat_ok,←Tm.ds_app]
    simp only[gName_eq,ssat_nx,List.set_cons_succ,List.set_cons_zero]
    refine⟨SH t m++us,a9,fun u hu=> ?_,by simp[SH];omega,rfl,f1.hd,f1.fr _ _ (Ne.symm hno) ho⟩
    rcases List.mem_append.mp hu with h|h
    ·exact hsh u h
    ·exact u2 u h
  rintro e S ⟨us,b9,hus,hul,rfl,hS,ho⟩
  rw[ssat_for,sat_iSeq]
  simp only[sat_eVar,List.getElem?_cons_succ,List.getElem?_cons_zero]
  rw[itemsD_lst,sat_ok]
  refine for_each (fun e S=>(∃ b10 b11 b12 b13 b14 b15 b16:Option D,e= [some (.scr ns),some (.int i),some (.obj n),some c.d,some t.d,some (.obj o),some (.lst (m.map Tp.hoD)),a7,some (.lst (Tm.ds us)),b9,b10,b11,b12,b13,b14,b15,b16])∧Hand n S∧S[o]? =some (.dK (kvW (cntT (mrk t.nodes))))) ⟨⟨_,_,_,_,_,_,_,rfl⟩,hS,ho⟩ ?_ (by rintro e S ⟨⟨b10,b11,b12,b13,b14,b15,b16,rfl⟩,_⟩;exact⟨_,_,_,_,_,_,_,_,_,_,_,_,_,_,_,_,rfl⟩)
  rintro x hx e S ⟨⟨b10,b11,b12,b13,b14,b15,b16,rfl⟩,hS,ho⟩
  rw[Tm.ds_map] at hx
  obtain⟨u,hu,rfl⟩:=List.mem_map.mp hx
  simp only[gName_eq,ssat_nx,List.set_cons_succ,List.set_cons_zero]
  exact one hS hno ho ht (hus u hu) fun S' c11 c12 c13 c14 c15 c16 h1 h2=>⟨⟨_,_,_,_,_,_,_,rfl⟩,h1,h2⟩
 obtain⟨d,S,e,rfl⟩:=sat_ex.mp key
 exact⟨S,e⟩
end K60
open PySem PySem.W PyProof.Rows in
set_option maxRecDepth 100000 in
theorem PySem.Challenge.cw_holepatterns_k60_lean_rules_holds : PySem.Challenge.rw_holepatterns_k60_lean_rules.Holds := by
 w_on;o_law;k_head;(case hw=>w_witness2)
 k_fill
 refine L3.walk (l:=PySem.Challenge.rw_holepatterns_k60_lean_rules) (k:=100) (x:= "_law_script") rfl (by decide +kernel) rfl ⟨rfl,by decide,by decide⟩ (fun w h Y=>PySem.W.kIn_of Y) ?F
 case F=>
  intro w mg fa h KX G hmg
  refine' K60.all_mk KX G hmg K60.law_true ?a_listed ?l_listed ?c_listed ?k_listed ?a_nodes_of ?l_nodes_of ?c_nodes_of ?k_nodes_of ?a_holes_counted ?l_holes_counted ?c_holes_counted ?k_holes_counted ?a_is_lean ?l_is_lean ?c_is_lean ?k_is_lean ?a_law_hand ?l_law_hand ?c_law_hand ?k_law_hand ?a_law_take ?l_law_take ?c_law_take ?k_law_take ?a_law_pick ?l_law_pick ?c_law_pick ?k_law_pick ?a_law_called ?l_law_called ?c_law_called ?k_law_called ?a_law_digit ?l_law_digit ?c_law_digit ?k_law_digit ?a_law_grown ?l_law_grown ?c_law_grown ?k_law_grown ?a_law_code ?l_law_code ?c_law_code ?k_law_code ?a_law_spots ?l_law_spots ?c_law_spots ?k_law_spots ?a_law_there ?l_law_there ?c_law_there ?k_law_there ?a_law_hole ?l_law_hole ?c_law_hole ?k_law_hole ?a_law_holed ?l_law_holed ?c_law_holed ?k_law_holed ?a_law_sought ?l_law_sought ?c_law_sought ?k_law_sought ?a_law_deep ?l_law_deep ?c_law_deep ?k_law_deep ?a_law_nodes ?l_law_nodes ?c_law_nodes ?k_law_nodes ?a_law_names_in ?l_law_names_in ?c_law_names_in ?k_law_names_in ?a_law_leaf_put ?l_law_leaf_put ?c_law_leaf_put ?k_law_leaf_put ?a_law_new ?l_law_new ?c_law_new ?k_law_new ?a_law_about ?l_law_about ?c_law_about ?k_law_about ?a_law_templ ?l_law_templ ?c_law_templ ?k_law_templ ?a_law_counts ?l_law_counts ?c_law_counts ?k_law_counts ?a_law ?l_law ?c_law ?k_law ?z_abs ?z_all ?z_dict ?z_enumerate ?z_int ?z_len ?z_list ?z_max ?z_min ?z_range ?z_repr ?z_set ?z_sorted ?z_tuple ?x_HOLES ?l_HOLES
  (case a_listed=>k_is)
  (case l_listed=>k_is)
  (case c_listed=>k_is)
  (case k_listed=>k_is)
  (case a_nodes_of=>k_is)
  (case l_nodes_of=>k_is)
  (case c_nodes_of=>k_is)
  (case k_nodes_of=>k_is)
  (case a_holes_counted=>k_is)
  (case l_holes_counted=>k_is)
  (case c_holes_counted=>k_is)
  (case k_holes_counted=>k_is)
  (case a_is_lean=>k_is)
  (case l_is_lean=>k_is)
  (case c_is_lean=>k_is)
  (case k_is_lean=>k_is)
  (case a_law_hand=>k_is)
  (case l_law_hand=>k_is)
  (case c_law_hand=>k_is)
  (case k_law_hand=>k_is)
  (case a_law_take=>k_is)
  (case l_law_take=>k_is)
  (case c_law_take=>k_is)
  (case k_law_take=>k_is)
  (case a_law_pick=>k_is)
  (case l_law_pick=>k_is)
  (case c_law_pick=>k_is)
  (case k_law_pick=>k_is)
  (case a_law_called=>k_is)
  (case l_law_called=>k_is)
  (case c_law_called=>k_is)
  (case k_law_called=>k_is)
  (case a_law_digit=>k_is)
  (case l_law_digit=>k_is)
  (case c_law_digit=>k_is)
  (case k_law_digit=>k_is)
  (case a_law_grown=>k_is)
  (case l_law_grown=>k_is)
  (case c_law_grown=>k_is)
  (case k_law_grown=>k_is)
  (case a_law_code=>k_is)
  (case l_law_code=>k_is)
  (case c_law_code=>k_is)
  (case k_law_code=>k_is)
  (case a_law_spots=>k_is)
  (case l_law_spots=>k_is)
  (case c_law_spots=>k_is)
  (case k_law_spots=>k_is)
  (case a_law_there=>k_is)
  (case l_law_there=>k_is)
  (case c_law_there=>k_is)
  (case k_law_there=>k_is)
  (case a_law_hole=>k_is)
  (case l_law_hole=>k_is)
  (case c_law_hole=>k_is)
  (case k_law_hole=>k_is)
  (case a_law_holed=>k_is)
  (case l_law_holed=>k_is)
  (case c_law_holed=>k_is)
  (case k_law_holed=>k_is)
  (case a_law_sought=>k_is)
  (case l_law_sought=>k_is)
  (case c_law_sought=>k_is)
  (case k_law_sought=>k_is)
  (case a_law_deep=>k_is)
  (case l_law_deep=>k_is)
  (case c_law_deep=>k_is)
  (case k_law_deep=>k_is)
  (case a_law_nodes=>k_is)
  (case l_law_nodes=>k_is)
  (case c_law_nodes=>k_is)
  (case k_law_nodes=>k_is)
  (case a_law_names_in=>k_is)
  (case l_law_names_in=>k_is)
  (case c_law_names_in=>k_is)
  (case k_law_names_in=>k_is)
  (case a_law_leaf_put=>k_is)
  (case l_law_leaf_put=>k_is)
  (case c_law_leaf_put=>k_is)
  (case k_law_leaf_put=>k_is)
  (case a_law_new=>k_is)
  (case l_law_new=>k_is)
  (case c_law_new=>k_is)
  (case k_law_new=>k_is)
  (case a_law_about=>k_is)
  (case l_law_about=>k_is)
  (case c_law_about=>k_is)
  (case k_law_about=>k_is)
  (case a_law_templ=>k_is)
  (case l_law_templ=>k_is)
  (case c_law_templ=>k_is)
  (case k_law_templ=>k_is)
  (case a_law_counts=>k_is)
  (case l_law_counts=>k_is)
  (case c_law_counts=>k_is)
  (case k_law_counts=>k_is)
  (case a_law=>k_is)
  (case l_law=>k_is)
  (case c_law=>k_is)
  (case k_law=>k_is)
  (case z_abs=>k_is)
  (case z_all=>k_is)
  (case z_dict=>k_is)
  (case z_enumerate=>k_is)
  (case z_int=>k_is)
  (case z_len=>k_is)
  (case z_list=>k_is)
  (case z_max=>k_is)
  (case z_min=>k_is)
  (case z_range=>k_is)
  (case z_repr=>k_is)
  (case z_set=>k_is)
  (case z_sorted=>k_is)
  (case z_tuple=>k_is)
  (case x_HOLES=>k_is)
  (case l_HOLES=>k_is)
