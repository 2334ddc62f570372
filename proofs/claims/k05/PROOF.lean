import PyProof.Rows.All
import Wide.All
import OpenK.AllK
import Wide.FinOn
import HandS.Base
import HandS.Call
import HandS.List
import HandS.Comp
import HandS.Dict
import HandS.Iter
import HandS.Text
import HandS.Exc
import HandS.Ends
import HandS.Words
import HandS.WordsExc
import HandS.ExcOwn
import HandS.CallSlots
import HandS.CallLocal
import HandS.Defaults
import HandS.IsInst
import HandS.TupAny
import HandS.DictComp
import HandS.Style
import HandS.Wide
import HandS.TryOnly
import HandS.More
import HandS.Deep
import KE.KeyNested
import KE.KDictKeyed
import HandS.Lambda
import KE.KNestM
import PyProof.StrOps2
import HandS.Small
import HandS.RaiseMore
import PyProof.ReprRoads
import PyProof.CallFns
import PyProof.DictUpdate
import KE.GoesEnum
import KE.KUnpackStar
import HandS.ListItems
import HandS.Zip
import HandS.RevTup
import KE.KDictZip
import KE.KExcInit
import HandS.ExcInit
import KE.KTryMore
import HandS.ExcField
import KE.KExcIs
import KE.SortData
import HandS.SortRule
import HandS.MakeKwOnly
import HandS.Conv
import KE.DataFind
import KE.KDictPairs
import KE.KDictOf
import HandS.TupMul
import HandS.StrMore
import KE.KItemsList
import HandS.DictTup
import HandS.SetKeys
import HandS.SetFor
import PyProof.EqKinds
import HandS.DictEq
import PyProof.CallStr
import PyProof.Rows.IntBool
import PyProof.NeKinds
import HandS.Rev
import HandS.FStr
import HandS.TupSets
import KE.GoesSet
import KE.KDictWalk
import KE.KMinKey
import KE.KDictList
import HandS.SortKw
import KE.KDictSum
import PyProof.DictFindH
import KE.SortKeyHeap
import PyProof.Rows.ReprOcc
import HandS.Codes
import PySem.Challenge.RW_holepatterns_k05_names_free_and_asked
set_option maxHeartbeats 4000000
set_option Elab.async false
set_option linter.all false
set_option maxRecDepth 100000
namespace L3
open PySem PySem.Spec PyProof.Rows L2
abbrev NRow:=NestedKey × Addr × V
abbrev NVal:=NestedKey × Addr × Value
def PrN (rows:List NRow) (xs:List NVal):Prop:=Paired (fun(r:NRow) (x:NVal)=>r.1=x.1∧r.2.1=x.2.1∧RelV r.2.2 x.2.2) rows xs
def entN (w:World) (x:NVal):DictEntry:=⟨x.1.hash w, .ref x.2.1,x.2.2⟩
def RawN (w:World) (h:Heap) (a:Addr) (xs:List NVal):Prop:=∃o es ep,h.get? a=some o∧o.ExactDict∧o.data= .dict es ep∧es.toList=xs.map (entN w)∧(xs.map (·.1)).Nodup
def ObNP (w:World) (a:Addr) (rows:List NRow) (h:Heap):Prop:=(a==sysModules)=false∧rows.length≤sizeLine∧∃xs,PrN rows xs∧RawN w h a xs
def ObN (w:World) (a:Addr) (rows:List NRow):HO:= .ext (ObNP w a rows)
theorem obN_at {w:World} {a:Addr} {rows:List NRow} {h h':Heap} (R:ObNP w a rows h) (k:∀o,h.get? a=some o→h'.get? a=some o):ObNP w a rows h':=by
 obtain⟨h1,h2,xs,h3,o,es,ep,ho,r⟩:=R
 exact⟨h1,h2,xs,h3,o,es,ep,k o ho,r⟩
theorem obN_new {P:Program} {w w0:World} {H:Hp} {h:Heap} {a:Addr} {rows:List NRow} (R:ObNP w a rows h):ObjOk P w0 H h a (ObN w a rows):=
 ⟨R,(let⟨_,_,_,_,o,_,_,ho,_⟩:=R;⟨o,ho⟩),fun _ _ p k=>obN_at p k⟩
def KatN (K:PySem.W.Frag) (H:Hp) (p:NestedKey × Addr):Prop:=Dp K H (.ref p.2) p.1.data∧p.1.depth≤8
mutual
theorem nestedN_of {h:Heap} :∀(k:NestedKey) (u:Value) (as:List Addr),Reads h u k.data as→NestedIs h k u
 | .none,_,_,r=>by cases r;exact .none
 | .num i,_,_,r=>by cases r;exact .int i _
 | .text x,_,_,r=>by cases r;exact .text x _
 | .tup ks,_,_,r=>by
   cases r with
   |tuple ho hc hd ra=>exact .tup ho hc hd (nestedN_all ks _ _ ra)
theorem nestedN_all {h:Heap} :∀(ks:List NestedKey) (us:List Value) (as:List Addr),ReadsAll h us (NestedKey.datas ks) as→NestedAll h ks us
 | [],_,_,r=>by cases r;exact .nil
 |k::ks,_,_,r=>by
  cases r with
  |cons r1 r2=>exact .cons (nestedN_of k _ _ r1) (nestedN_all ks _ _ r2)
end
def atR (rows:List NRow) (k:NestedKey):Option (Addr × V):=(rows.find? fun x=>decide (x.1=k)).map (·.2)
def putR (rows:List NRow) (k:NestedKey) (b:Addr) (v:V):List NRow:=if(atR rows k).isSome then rows.map (fun x=>if x.1=k then(x.1,x.2.1,v) else x) else rows++ [(k,b,v)]
section
variable {X:Cx} {pins:List (Addr × Obj)} {σ :L2.St} {H:Hp} {s:Shared} {a b:Addr} {rows:List NRow} {k:NestedKey} {A:Around} {E:Value→Shared→Prop}
theorem KatN.is (I:Inv X pins σ H s) {p:NestedKey × Addr} (h:KatN X.K H p):(nestedKind X.prog X.w).is s.heap p.1 p.2:=by
 obtain⟨as,r⟩:=Dp.reads I p.1.data (.ref p.2) (.ref p.2) h.1 rfl
 exact⟨nestedN_of _ _ _ r,h.2⟩
theorem prN_at:∀ {rows:List NRow} {xs:List NVal},PrN rows xs→∀k,(match atR rows k,atKey xs k with
 |none,none=>True
 |some p,some q=>p.1=q.1∧RelV p.2 q.2
 | _,_=>False)
 | _,_, .nil,k=>by simp[atR,atKey]
 | _,_, .cons (a:=x) (b:=y) h t,k=>by
   have ih:=prN_at t k
   simp only[atR,atKey,List.find?_cons] at ih ⊢
   rw[← h.1]
   by_cases e:x.1=k
   ·simpa[e] using h.2
   ·simpa[e] using ih
theorem prN_some {xs:List NVal} (r:PrN rows xs) (k:NestedKey):(atR rows k).isSome=(atKey xs k).isSome:=by
 have:=prN_at r k
 cases h1:atR rows k<;>cases h2:atKey xs k<;>rw[h1,h2] at this<;>first|rfl|exact this.elim
theorem prN_len {xs:List NVal} (r:PrN rows xs):rows.length=xs.length:=Paired.length r
theorem prN_map {v:V} {u:Value} (rv:RelV v u) (k:NestedKey):∀ {rows:List NRow} {xs:List NVal},PrN rows xs→PrN (rows.map (fun x=>if x.1=k then(x.1,x.2.1,v) else x)) (xs.map (putAt k u))
 | _,_, .nil=> .nil
 | _,_, .cons (a:=x) (b:=y) h t=>by
   simp only[List.map_cons]
   refine .cons ?_ (prN_map rv k t)
   unfold putAt
   by_cases e:x.1=k
   ·rw[if_pos e,if_pos (by rw[← h.1];exact e)];exact⟨h.1,h.2.1,rv⟩
   ·rw[if_neg e,if_neg (by rw[← h.1];exact e)];exact h
theorem prN_app:∀ {rows:List NRow} {xs:List NVal} {r:NRow} {x:NVal},PrN rows xs→(r.1=x.1∧r.2.1=x.2.1∧RelV r.2.2 x.2.2)→PrN (rows++ [r]) (xs++ [x])
 | _,_,_,_, .nil,h=> .cons h .nil
 | _,_,_,_, .cons q t,h=> .cons q (prN_app t h)
theorem prN_put {v:V} {u:Value} {xs:List NVal} (r:PrN rows xs) (rv:RelV v u) (k:NestedKey) (b:Addr):PrN (putR rows k b v) (storedH xs k b u):=by
 unfold putR storedH
 rw[prN_some r k]
 split
 ·exact prN_map rv k r
 ·exact prN_app r ⟨rfl,rfl,rv⟩
theorem dictN (I:Inv X pins σ H s) (e:H a=some (ObN X.w a rows)) (hk:∀r ∈ rows,KatN X.K H (r.1,r.2.1)):(a==sysModules)=false∧rows.length≤sizeLine∧∃xs,PrN rows xs∧s.heap.DictOfH (nestedKind X.prog X.w) a xs:=by
 obtain⟨⟨h1,h2,xs,h3,o,es,ep,ho,hx,hd,he,hn⟩,_⟩:=(I.hok a _ e:ObjOk X.prog X.w H s.heap a (ObN X.w a rows))
 refine⟨h1,h2,xs,h3,o,es,ep,ho,hx,hd,he,fun x hx=> ?_,hn⟩
 have all:∀ {rows:List NRow} {xs:List NVal},PrN rows xs→(∀ r ∈ rows,KatN X.K H (r.1,r.2.1))→∀x ∈ xs,(nestedKind X.prog X.w).is s.heap x.1 x.2.1:=by
  intro rows xs q
  induction q with
  |nil=>intro _ x hx;exact nomatch hx
  | @cons p q ps qs hq t ih=>
    intro hk x hx
    rcases List.mem_cons.mp hx with e|hx
    ·subst e
     have:=(hk p (List.mem_cons_self ..)).is I
     rw[hq.1,hq.2.1] at this
     exact this
    ·exact ih (fun r hr=>hk r (List.mem_cons_of_mem _ hr)) x hx
 exact all h3 hk x hx
theorem roomN (hu:A.units+9<cLine) {prog:Program} {w:World} :(nestedKind prog w).room A.in1:=show A.units+1+8<cLine by omega
theorem putR_len (rows:List NRow) (k:NestedKey) (b:Addr) (v:V):(putR rows k b v).length≤rows.length+1:=by
 unfold putR;split
 ·rw[List.length_map];omega
 ·simp
theorem n_write {xs:List NVal} {h':Heap} {t':Nat} (I:Inv X pins σ H s) (hd:(a==sysModules)=false) (e:H a=some (ObN X.w a rows)) {rows':List NRow} (hl:rows'.length≤sizeLine) (rel:PrN rows' xs) (dd:h'.DictOfH (nestedKind X.prog X.w) a xs) (hs:Heap.SameBut a s.heap h'):
 Inv X pins σ (upd H a (ObN X.w a rows')) { s with heap:=h',toks:=t' } :=by
 obtain⟨q,es,ep,hq,h2,h3,h4,_,h5⟩:=dd
 exact d_write I (by rw[e];exact True.intro) hs ⟨q,hq⟩ (obN_new ⟨hd,hl,xs,rel,q,es,ep,hq,h2,h3,h4,h5⟩)
theorem n_setItem {v:V} {r:Value} {Q:Unit→Shared→Prop} (hu:A.units+9<cLine) (I:Inv X pins σ H s) (e:H a=some (ObN X.w a rows)) (hk:∀r ∈ rows,KatN X.K H (r.1,r.2.1)) (kb:KatN X.K H (k,b)) (hz:rows.length<sizeLine) (rv:RelV v r)
 (h:∀s',Inv X pins σ (upd H a (ObN X.w a (putR rows k b v))) s'→Q () s'):wpAny (model X.prog X.w) A (setItem (.ref a) (.ref b) r) Q E s:=by
 obtain⟨hd,z,xs,rel,dd⟩:=dictN I e hk
 refine wpAny_setItem_heap (hsz:=by rw[← prN_len rel];exact z) (roomN hu) (kb.is I) dd fun h' dd' hs=>h _ ?_
 exact n_write I hd e (by have:=putR_len rows k b v;omega) (prN_put rel rv k b) dd' hs
theorem obN_empty {w:World} (h:Heap) (hb:sysModules<h.objs.size):ObNP w h.objs.size [] (h.push { cls:= .type "dict",data:= .dict #[] }):=
 ⟨by simpa using(Nat.ne_of_gt hb),Nat.zero_le _,[], .nil,_,#[],0,Heap.get?_push_size _ rfl,⟨rfl,rfl,rfl⟩,rfl,rfl,List.nodup_nil⟩
def tDNewN (w:World):TE:=fun _ H Q=>∀p,H p=none→Q (.ref p) (upd H p (ObN w p []))
theorem pe_dnewN {pos:Pos} :PE X (.Dict [] [] pos) (tDNewN X.w):=⟨fun pins s σ H Q I h=>
 wpAny_Dict_empty ⟨.ref s.heap.objs.size,_,I.laid (a:=s.heap.objs.size) (o:=ObN X.w s.heap.objs.size []) (t':=s.toks) (fun _ _ q=>Heap.get?_push_of_some _ q) (Nat.le_refl _) (obN_new (obN_empty s.heap I.big)),rfl,h _ (I.hok.fresh (Nat.le_refl _))⟩⟩
end
end L3
namespace L3
open PySem
structure LamTok where
 f:Addr
 c:Addr
 q:Str
 ids:List Nat
 vs:List L2.V
inductive D where
 |non|bl (b:Bool)|int (i:Int)|str (s:Str)|tup (l:List D)|lst (l:List D)
 |dic (ks:List L2.Key) (l:List D)|obj (n:Nat)|glb (x:Str)|ty (n:String)|scr (l:List Int)|kd (ks:List Str) (l:List D)
 /-- an exception that was caught: its class,its fields -/
 |xcp (c:Str) (ks:List Str) (l:List D)
 /-- a tuple of whole numbers that stands in the text -/
 |wtp (l:List Int)
 /-- a lambda,as it is handed to a def;what its names stood for when it was made -/
 |lam (t:LamTok) (l:List D)
deriving Inhabited
inductive O where
 |lst (l:List D)|dK (l:List (L2.Key × D))|dT (l:List (List L2.Key × D))|dN (l:List (PySem.NestedKey × D))|ins (c:Str) (fs:List (Str × D))|ptp (l:List D)|dead
 /-- the table of code objects of a def that makes lambdas: the def,the lambdas' name -/
 |tab (x q:Str)
abbrev Store:=List O
structure Ex where
 cls:Str
 fs:List (Str × D)
inductive R (α :Type) where
 |ok (a: α) (S:Store)|exc (e:Ex) (S:Store)|bad
@[reducible] def R.bind {α β :Type} (r:R α) (f: α →Store→R β):R β :=
  match r with
  | .ok a S=>f a S
  | .exc e S=> .exc e S
  | .bad=> .bad
abbrev EnvD:=List (Option D)
abbrev ED:=EnvD→Store→R D
abbrev TD:=EnvD→Store→R Bool
abbrev AD:=EnvD→Store→R (List D)
inductive SR where
 |nx (env:EnvD) (S:Store)|ret (d:D) (S:Store)|brk (env:EnvD) (S:Store)|ct (env:EnvD) (S:Store)|exc (e:Ex) (env:EnvD) (S:Store)|bad
abbrev SD:=EnvD→Store→SR
def R.toS {α :Type} (env:EnvD) (r:R α) (k: α →Store→SR):SR:=
 match r with
 | .ok a S=>k a S
 | .exc e S=> .exc e env S
 | .bad=> .bad
def eVar (i:Nat):ED:=fun env S=>match env[i]? with
 |some (some d)=> .ok d S
 | _=> .bad
def eK (d:D):ED:=fun _ S=> .ok d S
abbrev F1:=D→Store→R D
abbrev F2:=D→D→Store→R D
abbrev FN:=List D→Store→R D
def e1 (f:F1) (a:ED):ED:=fun env S=>(a env S).bind fun x S1=>f x S1
def e2 (f:F2) (a b:ED):ED:=fun env S=>(a env S).bind fun x S1=>(b env S1).bind fun y S2=>f x y S2
def aNil:AD:=fun _ S=> .ok [] S
def aCons (a:ED) (r:AD):AD:=fun env S=>(a env S).bind fun x S1=>(r env S1).bind fun xs S2=> .ok (x::xs) S2
def eN (f:FN) (a:AD):ED:=fun env S=>(a env S).bind fun xs S1=>f xs S1
def eIf (c:TD) (a b:ED):ED:=fun env S=>(c env S).bind fun k S1=>match k with
 |true=>a env S1
 |false=>b env S1
def tOfE (a:ED):TD:=fun env S=>(a env S).bind fun x S1=>match x with
 | .bl k=> .ok k S1
 | _=> .bad
def truthD (x:D) (S:Store):R Bool:=match x with
 | .bl k=> .ok k S
 | .non=> .ok false S
 | .int i=> .ok (i != 0) S
 | .str s=>if s.length≤sizeLine then .ok (s.length != 0) S else .bad
 | .tup l=> .ok (!l.isEmpty) S
 | .lst l=> .ok (!l.isEmpty) S
 | .obj n=>match S[n]? with
   |some (.lst l)=> .ok (!l.isEmpty) S
   | _=> .bad
 | _=> .bad
def tTruth (a:ED):TD:=fun env S=>(a env S).bind fun x S1=>truthD x S1
def tNot (a:TD):TD:=fun env S=>(a env S).bind fun k S1=> .ok (!k) S1
def tAnd (a b:TD):TD:=fun env S=>(a env S).bind fun k S1=>match k with
 |true=>b env S1
 |false=> .ok false S1
def tOr (a b:TD):TD:=fun env S=>(a env S).bind fun k S1=>match k with
 |true=> .ok true S1
 |false=>b env S1
def eNot (a:ED):ED:=fun env S=>(tOfE a env S).bind fun k S1=> .ok (.bl (!k)) S1
def eAnd (a b:ED):ED:=fun env S=>(tOfE a env S).bind fun k S1=>match k with
 |true=>b env S1
 |false=> .ok (.bl false) S1
def eOr (a b:ED):ED:=fun env S=>(tOfE a env S).bind fun k S1=>match k with
 |true=> .ok (.bl true) S1
 |false=>b env S1
def eChain (f g:F2) (a b c:ED):ED:=fun env S=>(a env S).bind fun x S1=>(b env S1).bind fun y S2=>(f x y S2).bind fun k S3=>match k with
 | .bl true=>(c env S3).bind fun z S4=>g y z S4
 | .bl false=> .ok (.bl false) S3
 | _=> .bad
def mkTup:FN:=fun xs S=>if xs.length≤sizeLine then .ok (.tup xs) S else .bad
def mkLst:FN:=fun xs S=>if xs.length≤sizeLine then .ok (.lst xs) S else .bad
def mkObj:FN:=fun xs S=>if xs.length≤sizeLine then .ok (.obj S.length) (S++ [.lst xs]) else .bad
def sSkip:SD:=fun env S=> .nx env S
def sSeq (a b:SD):SD:=fun env S=>match a env S with
 | .nx env1 S1=>b env1 S1
 |r=>r
def sIf (c:TD) (a b:SD):SD:=fun env S=>(c env S).toS env fun k S1=>match k with
 |true=>a env S1
 |false=>b env S1
def sRet (a:ED):SD:=fun env S=>(a env S).toS env fun d S1=> .ret d S1
def sExpr (a:ED):SD:=fun env S=>(a env S).toS env fun _ S1=> .nx env S1
def sBrk:SD:=fun env S=> .brk env S
def sCt:SD:=fun env S=> .ct env S
abbrev GD:=D→EnvD→Store→SR
def gName (i:Nat):GD:=fun d env S=> .nx (env.set i (some d)) S
def sAsg (a:ED) (g:GD):SD:=fun env S=>(a env S).toS env fun d S1=>g d env S1
def gNames:List Nat→List D→EnvD→Store→SR
 | [],[],env,S=> .nx env S
 |i::is,d::ds,env,S=>gNames is ds (env.set i (some d)) S
 | _,_,_,_=> .bad
def gTup (is:List Nat):GD:=fun d env S=>match d with
 | .tup l=>gNames is l env S
 | .wtp l=>gNames is (l.map D.int) env S
 | _=> .bad
def forL (g:GD) (body:SD):List D→EnvD→Store→SR
 | [],env,S=> .nx env S
 |x::xs,env,S=>match g x env S with
  | .nx env1 S1=>match body env1 S1 with
    | .nx env2 S2=>forL g body xs env2 S2
    | .ct env2 S2=>forL g body xs env2 S2
    | .brk env2 S2=> .nx env2 S2
    | .ret d S2=> .ret d S2
    | .exc e env2 S2=> .exc e env2 S2
    | .bad=> .bad
  | _=> .bad
def sWhile (c:TD) (body:SD):Nat→SD
 |0,_,_=> .bad
 |n+1,env,S=>(c env S).toS env fun k S1=>match k with
  |false=> .nx env S1
  |true=>match body env S1 with
   | .nx env2 S2=>sWhile c body n env2 S2
   | .ct env2 S2=>sWhile c body n env2 S2
   | .brk env2 S2=> .nx env2 S2
   | .ret d S2=> .ret d S2
   | .exc e env2 S2=> .exc e env2 S2
   | .bad=> .bad
def SR.fin:SR→R D
 | .nx _ S1=> .ok .non S1
 | .ret d S1=> .ok d S1
 | .exc e _ S1=> .exc e S1
 | _=> .bad
def run (np n:Nat) (body:SD):FN:=fun xs S=>if xs.length=np then(body (xs.map some++List.replicate (n-xs.length) none) S).fin else .bad
end L3
namespace L3
open PySem PySem.Spec PyProof.Rows L2
structure GC where
 K:PySem.W.Frag
 w:World
 mg:Str→Option Value
structure Wd where
 mu:List Addr
 S:Store
 H:Hp
 /-- lists and dicts that are being made around here: nothing refers to them -/
 tmp:List Addr
def O.live:O→Prop
 | .dead=>False
 | .ptp _=>False
 | _=>True
def MutS (w:Wd) (a:Addr):Prop:=∃(n:Nat) (o:O),w.S[n]? =some o∧o.live∧w.mu[n]? =some a
def Mut (w:Wd) (a:Addr):Prop:=MutS w a∨a ∈ w.tmp
def Fz (w:Wd) (a:Addr) (u:HO):Prop:=Rd w.H a u∧¬Mut w a
def KT (K:PySem.W.Frag) (a:Addr) (xs:List V):Prop:=
 ∃(o:Obj) (its:Array Value) (n:Nat),K.lookup a=some o∧o.cls= .type "tuple" ∧o.data= .seq its n∧its.size≤sizeLine∧Vals xs its.toList
def KL (K:PySem.W.Frag) (a:Addr) (xs:List V):Prop:=
 ∃(o:Obj) (its:Array Value) (n:Nat),K.lookup a=some o∧o.cls= .type "list" ∧o.dict=none∧o.data= .seq its n∧its.size≤sizeLine∧Vals xs its.toList
def xoH (a:Addr) (cls:Value) (dx:Option Addr):HO:= .ext fun h=>∃(oe:Obj) (vs:Array Value),h.get? a=some oe∧Zc cls dx oe∧oe.data= .fields vs
def isIt:D→Bool
 | .int _=>true
 | _=>false
def plc (l:List D):Bool:=l.all isIt
def TupAt (G:GC) (w:Wd) (a:Addr) (vs:List V) (l:List D):Prop:=(w.H a=some (.tup vs)∧¬Mut w a)∨(KT G.K a vs∧plc l=false)
def KEnt (G:GC):List DictEntry→List Str→List Value→Prop
 | [],ks,us=>ks= [] ∧us= []
 |e::es,ks,us=>∃k kr u ur t,ks=k::kr∧us=u::ur∧e.key= .str k t∧e.val=u∧e.hash=PyData.keyHash G.w.params k∧KEnt G es kr ur
def CodeAt (w:Wd) (q:Str) (c:Addr):Prop:=w.H c=some (LamX.CodeO c q)∧¬Mut w c
mutual
def Rep (G:GC) (w:Wd):D→V→Prop
 | .non,v=>v= .non
 | .bl b,v=>v= .bl b
 | .int i,v=>v= .int i
 | .str s,v=>v= .str s
 | .tup l,v=>∃a vs,v= .ref a∧TupAt G w a vs l∧RepL G w l vs
 | .lst l,v=>∃a vs,v= .ref a∧w.H a=some (.lst vs)∧¬Mut w a∧RepL G w l vs
 | .dic ks l,v=>∃a vs,v= .ref a∧w.H a=some (.dK (ks.zip vs))∧¬Mut w a∧ks.length=l.length∧RepL G w l vs
 | .obj n,v=>∃a,w.mu[n]? =some a∧v= .ref a
 | .glb x,v=>∃u,G.mg x=some u∧RelV v u
 | .wtp l,v=>∃a,v= .ref a∧KT G.K a (l.map V.int)
 | .ty n,v=>v= .ty n
 | .scr ns,v=>∃a,v= .ref a∧(Fz w a (.lst (ns.map V.int))∨KL G.K a (ns.map V.int))
 | .kd ks l,v=>∃a es n vs us,v= .ref a∧KDict G.K G.w a es n∧(∀ z,PySem.W.nsIn G.K a z=some ((ks.zip us).lookup z))∧ks.length=l.length∧Vals vs us∧KEnt G es.toList ks us∧RepL G w l vs
 | .lam t l,v=>v= .ref t.f∧CodeAt w t.q t.c∧RepL G w l t.vs
 | .xcp c ks l,v=>∃a C dx vs,v= .ref a∧G.mg c=some (.ref C)∧(w.H a=some (xoH a (.ref C) dx)∧¬Mut w a)∧ks.length=l.length∧((ks= [] ∧dx=none)∨∃d,dx=some d∧w.H d=some (.xd (ks.zip vs))∧¬Mut w d)∧RepL G w l vs
def RepL (G:GC) (w:Wd):List D→List V→Prop
 | [],vs=>vs= []
 |d::ds,vs=>∃v r,vs=v::r∧Rep G w d v∧RepL G w ds r
end
def RepKV {κ :Type} (G:GC) (w:Wd):List (κ × D)→List (κ × V)→Prop
 | [],x=>x= []
 |p::r,x=>∃v y,x=(p.1,v)::y∧Rep G w p.2 v∧RepKV G w r y
mutual
def kD:NestedKey→D
 | .none=> .non
 | .num i=> .int i
 | .text x=> .str x
 | .tup ks=> .tup (kDL ks)
def kDL:List NestedKey→List D
 | [] => []
 |k::ks=>kD k::kDL ks
end
mutual
def nkOk:NestedKey→Bool
 | .none=>true
 | .num _=>true
 | .text x=>PyData.strOk x
 | .tup ks=>nkOkL ks
def nkOkL:List NestedKey→Bool
 | [] =>true
 |k::ks=>nkOk k&&nkOkL ks
end
def RepN (G:GC) (w:Wd):List (NestedKey × D)→List NRow→Prop
 | [],x=>x= []
 |p::r,x=>∃b v y,x=(p.1,b,v)::y∧Rep G w (kD p.1) (.ref b)∧(p.1.depth≤8∧nkOk p.1=true)∧Rep G w p.2 v∧RepN G w r y
def TabIs (G:GC) (x:Str) (a:Addr):Prop:=∃(f c:Addr) (fd:FuncData) (oc:Value) (od:Option Addr) (osl:Array (Option Value)),G.mg x=some (.ref f)∧G.K.lookup f=some ⟨oc,od, .func fd,osl⟩∧fd.code= .ref c∧PySem.W.codeHdIn G.K c a=true
def TabR (w:Wd) (a:Addr) (q:Str):Prop:=∃ps:Array Value,w.H a=some (.tbl ps)∧TriplesOk ps.toList∧∀(pos:Pos) (cv:Value),codeAmong pos ps.toList=some cv→∃c,cv= .ref c∧CodeAt w q c
def ORep (G:GC) (w:Wd) (a:Addr):O→Prop
 | .lst ds=>∃vs,w.H a=some (.lst vs)∧RepL G w ds vs
 | .dK kvs=>∃vs,w.H a=some (.dK vs)∧RepKV G w kvs vs
 | .dT kvs=>∃vs,w.H a=some (.dT vs)∧RepKV G w kvs vs
 | .dN kvs=>∃rows,w.H a=some (ObN G.w a rows)∧RepN G w kvs rows
 | .ins c fs=>∃C dx vs,w.H a=some (.ins C dx vs)∧RepKV G w fs vs∧G.mg c=some (.ref C)
 | .ptp ds=>∃o vs,(w.H a=some (.frz o (.tup vs))∧¬Mut w a)∧o.dict=none∧RepL G w ds vs
 | .dead=>True
 | .tab x q=>TabIs G x a∧TabR w a q
def NT (u:HO):Prop:=∀vs,u≠ .tup vs
structure SRep (G:GC) (w:Wd):Prop where
 len:w.mu.length=w.S.length
 inj:∀(n m:Nat) (a:Addr) (o o':O),w.S[n]? =some o→w.S[m]? =some o'→o.live→o'.live→w.mu[n]? =some a→w.mu[m]? =some a→n=m
 obj:∀(n:Nat) (o:O) (a:Addr),w.S[n]? =some o→w.mu[n]? =some a→ORep G w a o
 tm:∀a ∈ w.tmp,(∃ u: { u:HO // NT u },w.H a=some u.1)∧¬MutS w a
structure ERep (G:GC) (w:Wd) (env:EnvD) (σ :L2.St):Prop where
 len:env.length= σ.length
 at':∀(i:Nat) (d:D),env[i]? =some (some d)→∃v:V,σ[i]? =some (some v)∧Rep G w d v
structure WX' (T:List Addr) (w w':Wd):Prop where
 mu:∀(n:Nat) (a:Addr),w.mu[n]? =some a→w'.mu[n]? =some a
 keep:∀(a:Addr) (o:HO),w.H a=some o→¬MutS w a→a ∉ T→w'.H a=some o∧¬MutS w' a
 tmp:∀a ∈ w'.tmp,a ∈ w.tmp∨a ∈ T
 tmp':∀a ∈ w.tmp,a ∈ w'.tmp
abbrev WExt (w w':Wd):Prop:=WX' [] w w'
theorem WExt.refl (w:Wd):WExt w w:=⟨fun _ _ h=>h,fun _ _ h h' _=>⟨h,h'⟩,fun _ h=> .inl h,fun _ h=>h⟩
theorem WX'.trans {T:List Addr} {a b c:Wd} (x:WX' T a b) (y:WX' T b c):WX' T a c:=
 ⟨fun n d h=>y.mu n d (x.mu n d h),fun d o h h' t=>let⟨h1,h2⟩:=x.keep d o h h' t;y.keep d o h1 h2 t,fun d h=>(y.tmp d h).elim (x.tmp d) .inr,fun d h=>y.tmp' d (x.tmp' d h)⟩
theorem WX'.wide {T:List Addr} {a b:Wd} (x:WExt a b):WX' T a b:=⟨x.mu,fun d o h h' _=>x.keep d o h h' (by simp),fun d h=>(x.tmp d h).imp id fun z=>by simp at z,x.tmp'⟩
def Tok (T:List Addr) (w:Wd):Prop:=∀a ∈ T,a ∈ w.tmp∨w.H a=none
theorem WX'.keepM {T:List Addr} {w w':Wd} (x:WX' T w w') (hT:Tok T w) {a:Addr} {o:HO} (h:w.H a=some o) (nm: ¬Mut w a):w'.H a=some o∧¬Mut w' a:=by
 have nT:a ∉ T:=fun z=>(hT a z).elim (fun z=>nm (.inr z)) fun z=>by rw[h] at z;cases z
 obtain⟨h1,h2⟩:=x.keep a o h (fun z=>nm (.inl z)) nT
 exact⟨h1,fun z=>z.elim h2 fun z=>(x.tmp a z).elim (fun z=>nm (.inr z)) nT⟩
section
variable {T:List Addr} {G:GC} {w w':Wd}
theorem Fz.monoT {a:Addr} {u:HO} (x:WX' T w w') (hT:Tok T w) (h:Fz w a u):Fz w' a u:=by
 obtain⟨h|⟨o,h⟩,nm⟩:=h
 ·obtain⟨h1,h2⟩:=x.keepM hT h nm;exact⟨.inl h1,h2⟩
 ·obtain⟨h1,h2⟩:=x.keepM hT h nm;exact⟨.inr ⟨o,h1⟩,h2⟩
mutual
theorem Rep.monoT (x:WX' T w w') (hT:Tok T w):∀(d:D) (v:V),Rep G w d v→Rep G w' d v
 | .non,v,h=>by simpa only[Rep] using h
 | .bl b,v,h=>by simpa only[Rep] using h
 | .int i,v,h=>by simpa only[Rep] using h
 | .str s,v,h=>by simpa only[Rep] using h
 | .tup l,v,h=>by
   simp only[Rep] at h ⊢
   obtain⟨a,vs,e,h1,h2⟩:=h
   exact⟨a,vs,e,h1.imp (fun z=>x.keepM hT z.1 z.2) id,RepL.monoT x hT l vs h2⟩
 | .lst l,v,h=>by
   simp only[Rep] at h ⊢
   obtain⟨a,vs,e,h1,nm,h2⟩:=h
   obtain⟨q1,q2⟩:=x.keepM hT h1 nm
   exact⟨a,vs,e,q1,q2,RepL.monoT x hT l vs h2⟩
 | .dic ks l,v,h=>by
   simp only[Rep] at h ⊢
   obtain⟨a,vs,e,h1,nm,hl,h2⟩:=h
   obtain⟨q1,q2⟩:=x.keepM hT h1 nm
   exact⟨a,vs,e,q1,q2,hl,RepL.monoT x hT l vs h2⟩
 | .obj n,v,h=>by
   simp only[Rep] at h ⊢
   obtain⟨a,h1,e⟩:=h
   exact⟨a,x.mu n a h1,e⟩
 | .glb y,v,h=>by simpa only[Rep] using h
 | .wtp _,v,h=>by simpa only[Rep] using h
 | .ty n,v,h=>by simpa only[Rep] using h
 | .scr ns,v,h=>by
   simp only[Rep] at h ⊢
   obtain⟨a,e,h1⟩:=h
   exact⟨a,e,h1.imp (Fz.monoT x hT) id⟩
 | .kd ks l,v,h=>by
   simp only[Rep] at h ⊢
   obtain⟨a,es,n,vs,us,e,h1,h2,h3,h4,ke,h5⟩:=h
   exact⟨a,es,n,vs,us,e,h1,h2,h3,h4,ke,RepL.monoT x hT l vs h5⟩
 | .lam t l,v,h=>by
   simp only[Rep] at h ⊢
   exact⟨h.1,x.keepM hT h.2.1.1 h.2.1.2,RepL.monoT x hT l t.vs h.2.2⟩
 | .xcp c ks l,v,h=>by
   simp only[Rep] at h ⊢
   obtain⟨a,C,dx,vs,e,h1,⟨h2,nm⟩,h3,h4,h5⟩:=h
   exact⟨a,C,dx,vs,e,h1,x.keepM hT h2 nm,h3,h4.imp id fun⟨d,e1,e2,nd⟩=>let⟨q1,q2⟩:=x.keepM hT e2 nd;⟨d,e1,q1,q2⟩,RepL.monoT x hT l vs h5⟩
theorem RepL.monoT (x:WX' T w w') (hT:Tok T w):∀(d:List D) (v:List V),RepL G w d v→RepL G w' d v
 | [],v,h=>by simpa only[RepL] using h
 |d::ds,v,h=>by
  simp only[RepL] at h ⊢
  obtain⟨y,r,e,h1,h2⟩:=h
  exact⟨y,r,e,Rep.monoT x hT d y h1,RepL.monoT x hT ds r h2⟩
end
end
theorem noT {w:Wd} :Tok [] w:=fun _ h=>by simp at h
theorem Rep.mono {G:GC} {w w':Wd} (x:WExt w w') (d:D) (v:V) (h:Rep G w d v):Rep G w' d v:=Rep.monoT x noT d v h
theorem RepL.mono {G:GC} {w w':Wd} (x:WExt w w') (d:List D) (v:List V) (h:RepL G w d v):RepL G w' d v:=RepL.monoT x noT d v h
theorem RepKV.monoT {κ :Type} {T:List Addr} {G:GC} {w w':Wd} (x:WX' T w w') (hT:Tok T w):∀(d:List (κ × D)) (v:List (κ × V)),RepKV G w d v→RepKV G w' d v
 | [],v,h=>h
 |d::ds,v,h=>by
  obtain⟨y,r,e,h1,h2⟩:=h
  exact⟨y,r,e,Rep.monoT x hT _ y h1,RepKV.monoT x hT ds r h2⟩
theorem RepN.monoT {T:List Addr} {G:GC} {w w':Wd} (x:WX' T w w') (hT:Tok T w):∀(d:List (NestedKey × D)) (v:List NRow),RepN G w d v→RepN G w' d v
 | [],v,h=>h
 |p::ds,v,h=>by
  obtain⟨b,u,y,e,h1,h2,h3,h4⟩:=h
  exact⟨b,u,y,e,Rep.monoT x hT _ _ h1,h2,Rep.monoT x hT _ _ h3,RepN.monoT x hT ds y h4⟩
theorem RepKV.mono {κ :Type} {G:GC} {w w':Wd} (x:WExt w w') (d:List (κ × D)) (v:List (κ × V)) (h:RepKV G w d v):RepKV G w' d v:=RepKV.monoT x noT d v h
theorem ERep.monoT {T:List Addr} {G:GC} {w w':Wd} {env:EnvD} {σ :L2.St} (x:WX' T w w') (hT:Tok T w) (h:ERep G w env σ):ERep G w' env σ :=
 ⟨h.len,fun i d e=>let⟨v,h1,h2⟩:=h.at' i d e;⟨v,h1,Rep.monoT x hT d v h2⟩⟩
theorem ERep.mono {G:GC} {w w':Wd} {env:EnvD} {σ :L2.St} (x:WExt w w') (h:ERep G w env σ):ERep G w' env σ :=ERep.monoT x noT h
theorem ERep.set {G:GC} {w:Wd} {env:EnvD} {σ :L2.St} {d:D} {v:V} (i:Nat) (h:ERep G w env σ) (r:Rep G w d v):ERep G w (env.set i (some d)) (σ.set i (some v)):=by
 refine⟨by simp[h.len],fun j d' e=> ?_⟩
 by_cases hj:i=j
 ·subst hj
  by_cases hi:i<env.length
  ·rw[List.getElem?_set_self hi] at e
   cases e
   exact⟨v,List.getElem?_set_self (by rw[← h.len];exact hi),r⟩
  ·rw[List.getElem?_eq_none (by simpa using hi)] at e
   cases e
 ·rw[List.getElem?_set_ne hj] at e ⊢
  exact h.at' j d' e
def XRep (G:GC) (w:Wd) (e:Ex) (C:Value) (dx:Option Addr):Prop:=
 (∃ Ca,G.mg e.cls=some (.ref Ca)∧C= .ref Ca)∧((e.fs= [] ∧dx=none)∨∃d kvs,dx=some d∧w.H d=some (.xd kvs)∧¬Mut w d∧RepKV G w e.fs kvs)
def Post {α β :Type} (G:GC) (w:Wd) (r:R α) (Ra:Wd→ α → β →Prop) (Q: β →Hp→Prop) (E:Value→Option Addr→Hp→Prop):Prop:=
 match r with
 | .ok d S'=>∀v w',WExt w w'→w'.S=S'→SRep G w'→Ra w' d v→Q v w'.H
 | .exc e S'=>∀C dx w',WExt w w'→w'.S=S'→SRep G w'→XRep G w' e C dx→E C dx w'.H
 | .bad=>False
section
variable {α β γ δ :Type} {G:GC} {w w':Wd} {r:R α} {Ra:Wd→ α → β →Prop} {Rb:Wd→ γ → δ →Prop} {Q Q': β →Hp→Prop} {E E':Value→Option Addr→Hp→Prop}
theorem Post.shift (x:WExt w w') (h:Post G w r Ra Q E):Post G w' r Ra Q E:=by
 cases r with
 |ok d S'=>exact fun v w2 e hs sr rp=>h v w2 (WX'.trans x e) hs sr rp
 |exc e S'=>exact fun C dx w2 e hs sr rp=>h C dx w2 (WX'.trans x e) hs sr rp
 |bad=>exact h
theorem Post.mono (h:Post G w r Ra Q E) (hq:∀v H,Q v H→Q' v H) (he:∀C d H,E C d H→E' C d H):Post G w r Ra Q' E':=by
 cases r with
 |ok d S'=>exact fun v w2 e hs sr rp=>hq _ _ (h v w2 e hs sr rp)
 |exc e S'=>exact fun C dx w2 e hs sr rp=>he _ _ _ (h C dx w2 e hs sr rp)
 |bad=>exact h
def Mid {β :Type} (G:GC) (w:Wd) (Ra:Wd→ α → β →Prop) (P:Wd→ α →Prop) (x: β) (H1:Hp):Prop:=
 ∃w1 d,w1.H=H1∧WExt w w1∧SRep G w1∧Ra w1 d x∧P w1 d
theorem Post.bind {f: α →Store→R γ} {Q: δ →Hp→Prop} (h:Post G w (r.bind f) Rb Q E):
 Post G w r Ra (Mid G w Ra fun w1 d=>Post G w1 (f d w1.S) Rb Q E) E:=by
 cases r with
 |ok d S'=>
  intro v w1 e hs sr rp
  refine⟨w1,d,rfl,e,sr,rp,?_⟩
  subst hs
  exact Post.shift e h
 |exc e S'=>exact h
 |bad=>exact h
theorem Post.ret {a: α} {b: β} (sr:SRep G w) (ra:Ra w a b) (h:Post G w (.ok a w.S) Ra Q E):Q b w.H:=h b w (.refl w) rfl sr ra
end
def tE (G:GC) (m:ED) (Wx:WX):TE:=fun σ H Q=>∃w env,w.H=H∧SRep G w∧ERep G w env σ ∧Post G w (m env w.S) (Rep G) Q (fun C dx H'=>Wx C dx σ H')
def tT (G:GC) (m:TD) (Wx:WX):TT:=fun σ H Q=>∃w env,w.H=H∧SRep G w∧ERep G w env σ ∧Post G w (m env w.S) (fun _ a b=>a=b) Q (fun C dx H'=>Wx C dx σ H')
def tA (G:GC) (m:AD) (Wx:WX):TA:=fun σ H Q=>∃w env,w.H=H∧SRep G w∧ERep G w env σ ∧Post G w (m env w.S) (RepL G) Q (fun C dx H'=>Wx C dx σ H')
def PostS (G:GC) (w:Wd) (r:SR) (D:Ends) (Wx:WX):Prop:=
 match r with
 | .nx env' S'=>∀ σ' w',WExt w w'→w'.S=S'→SRep G w'→ERep G w' env' σ'→D.nx σ' w'.H
 | .ret d S'=>∀v w',WExt w w'→w'.S=S'→SRep G w'→Rep G w' d v→D.rt v w'.H
 | .brk env' S'=>∀ σ' w',WExt w w'→w'.S=S'→SRep G w'→ERep G w' env' σ'→D.bk σ' w'.H
 | .ct env' S'=>∀ σ' w',WExt w w'→w'.S=S'→SRep G w'→ERep G w' env' σ'→D.ct σ' w'.H
 | .exc e env' S'=>∀C dx σ' w',WExt w w'→w'.S=S'→SRep G w'→ERep G w' env' σ'→XRep G w' e C dx→Wx C dx σ' w'.H
 | .bad=>False
def tS (G:GC) (m:SD) (Wx:WX):TS:=fun D σ H=>∃w env,w.H=H∧SRep G w∧ERep G w env σ ∧PostS G w (m env w.S) D Wx
theorem PostS.shift {G:GC} {w w':Wd} {r:SR} {D:Ends} {Wx:WX} (x:WExt w w') (h:PostS G w r D Wx):PostS G w' r D Wx:=by
 cases r with
 |nx env S'=>exact fun v w2 e hs sr rp=>h v w2 (WX'.trans x e) hs sr rp
 |ret d S'=>exact fun v w2 e hs sr rp=>h v w2 (WX'.trans x e) hs sr rp
 |brk env S'=>exact fun v w2 e hs sr rp=>h v w2 (WX'.trans x e) hs sr rp
 |ct env S'=>exact fun v w2 e hs sr rp=>h v w2 (WX'.trans x e) hs sr rp
 |exc e env S'=>exact fun C dx σ w2 e hs sr er rp=>h C dx σ w2 (WX'.trans x e) hs sr er rp
 |bad=>exact h
theorem PostS.ofR {α β :Type} {G:GC} {w:Wd} {r:R α} {Ra:Wd→ α → β →Prop} {k: α →Store→SR} {D:Ends} {Wx:WX} {env:EnvD} {σ :L2.St} (er:ERep G w env σ) (h:PostS G w (r.toS env k) D Wx):
 Post G w r Ra (Mid G w Ra fun w1 d=>PostS G w1 (k d w1.S) D Wx) (fun C dx H'=>Wx C dx σ H'):=by
 cases r with
 |ok d S'=>
  intro v w1 e hs sr rp
  refine⟨w1,d,rfl,e,sr,rp,?_⟩
  subst hs
  exact PostS.shift e h
 |exc e S'=>exact fun C dx w2 x hs sr rp=>h C dx σ w2 x hs sr (er.mono x) rp
 |bad=>exact h
theorem peI {X:Cx} {e:Expr} {t t':TE} (h:PE X e t) (i:∀ σ H Q,t' σ H Q→t σ H Q):PE X e t':=⟨fun pins s σ H Q I q=>h.run pins s σ H Q I (i _ _ _ q)⟩
theorem ptI {X:Cx} {e:Expr} {t t':TT} (h:PT X e t) (i:∀ σ H Q,t' σ H Q→t σ H Q):PT X e t':=⟨fun pins s σ H Q I q=>h.run pins s σ H Q I (i _ _ _ q)⟩
theorem pwI {X:Cx} {e:Expr} {t t':TT} (h:PW X e t) (i:∀ σ H Q,t' σ H Q→t σ H Q):PW X e t':=⟨fun wh pins s σ H Q I q=>h.run wh pins s σ H Q I (i _ _ _ q)⟩
theorem paI {X:Cx} {e:List Expr} {t t':TA} (h:PA X e t) (i:∀ σ H Q,t' σ H Q→t σ H Q):PA X e t':=⟨fun po pins s σ H Q I q=>h.run po pins s σ H Q I (i _ _ _ q)⟩
theorem psI {X:Cx} {e:Stmt} {t t':TS} (h:PS X e t) (i:∀D σ H,t' D σ H→t D σ H):PS X e t':=⟨fun pins s σ H D I q=>h.run pins s σ H D I (i _ _ _ q)⟩
theorem pssI {X:Cx} {e:List Stmt} {t t':TS} (h:PSs X e t) (i:∀D σ H,t' D σ H→t D σ H):PSs X e t':=⟨fun pins s σ H D I q=>h.run pins s σ H D I (i _ _ _ q)⟩
abbrev WF:WX:=fun _ _ _ _=>False
section
variable {G:GC} {X:Cx} {Wx:WX} {pos:Pos}
theorem q_var {e:Expr} {i:Nat} (h:PE X e (tVar i)):PE X e (tE G (eVar i) Wx):=peI h fun σ H Q q=>by
 obtain⟨w,env,rfl,sr,er,p⟩:=q
 unfold eVar at p
 cases hi:env[i]? with
 |none=>rw[hi] at p;exact p.elim
 |some o=>
  cases o with
  |none=>rw[hi] at p;exact p.elim
  |some d=>
   rw[hi] at p
   obtain⟨v,e,r⟩:=er.at' i d hi
   exact⟨v,e,Post.ret sr r p⟩
theorem q_const {e:Expr} {v:V} {d:D} (h:PE X e (tC v)) (r:∀w,Rep G w d v):PE X e (tE G (eK d) Wx):=peI h fun σ H Q q=>by
 obtain⟨w,env,rfl,sr,er,p⟩:=q
 exact Post.ret sr (r w) p
theorem q_int {i j} :PE X (.Constant (.int i) j pos) (tE G (eK (.int i)) Wx):=q_const pe_int fun _=>by simp[Rep]
theorem q_bl {b j} :PE X (.Constant (.bool b) j pos) (tE G (eK (.bl b)) Wx):=q_const pe_bl fun _=>by simp[Rep]
theorem q_non {j} :PE X (.Constant .none j pos) (tE G (eK .non) Wx):=q_const pe_non fun _=>by simp[Rep]
theorem q_str {x j} :PE X (.Constant (.str x) j pos) (tE G (eK (.str x)) Wx):=q_const pe_str fun _=>by simp[Rep]
def r2 (G:GC) (f:F2):R2:=fun x y H Q=>∃w d1 d2,w.H=H∧SRep G w∧Rep G w d1 x∧Rep G w d2 y∧Post G w (f d1 d2 w.S) (Rep G) Q (fun _ _ _=>False)
def r1 (G:GC) (f:F1):V→Hp→VK→Prop:=fun x H Q=>∃w d1,w.H=H∧SRep G w∧Rep G w d1 x∧Post G w (f d1 w.S) (Rep G) Q (fun _ _ _=>False)
def rN (G:GC) (f:FN):List V→Hp→VK→Prop:=fun xs H Q=>∃w ds,w.H=H∧SRep G w∧RepL G w ds xs∧Post G w (f ds w.S) (Rep G) Q (fun _ _ _=>False)
def rM (G:GC) (f:D→FN):V→List V→Hp→VK→Prop:=fun x xs H Q=>∃w d ds,w.H=H∧SRep G w∧Rep G w d x∧RepL G w ds xs∧Post G w (f d ds w.S) (Rep G) Q (fun _ _ _=>False)
def R.calm {α :Type} :R α →Prop
 | .exc _ _=>False
 | _=>True
def Calm2 (f:F2):Prop:=∀x y S,(f x y S).calm
def Calm1 (f:F1):Prop:=∀x S,(f x S).calm
def CalmN (f:FN):Prop:=∀xs S,(f xs S).calm
def CalmM (f:D→FN):Prop:=∀x xs S,(f x xs S).calm
theorem Post.calm {α β :Type} {w:Wd} {r:R α} {Ra:Wd→ α → β →Prop} {Q: β →Hp→Prop} {E E':Value→Option Addr→Hp→Prop} (c:r.calm) (h:Post G w r Ra Q E):Post G w r Ra Q E':=by
 cases r with
 |ok _ _=>exact h
 |exc _ _=>exact c.elim
 |bad=>exact h
theorem imp_e2 {f:F2} {a b:ED} (c:Calm2 f):∀ σ H Q,tE G (e2 f a b) Wx σ H Q→tOp (r2 G f) (tE G a Wx) (tE G b Wx) σ H Q:=by
 intro σ H Q q
 obtain⟨w,env,rfl,sr,er,p⟩:=q
 refine⟨w,env,rfl,sr,er,(Post.bind p).mono (fun x H1 m=> ?_) fun _ _ _ h=>h⟩
 obtain⟨w1,d1,rfl,x1,s1,rp1,p1⟩:=m
 refine⟨w1,env,rfl,s1,er.mono x1,(Post.bind p1).mono (fun y H2 m=> ?_) fun _ _ _ h=>h⟩
 obtain⟨w2,d2,rfl,x2,s2,rp2,p2⟩:=m
 exact⟨w2,d1,d2,rfl,s2,Rep.mono x2 _ _ rp1,rp2,p2.calm (c _ _ _)⟩
theorem q_op {op:Operator} {f:F2} {a b:Expr} {ma mb:ED} (ho:OpR X (binaryOp op) (r2 G f)) (c:Calm2 f) (ha:PE X a (tE G ma Wx)) (hb:PE X b (tE G mb Wx)):PE X (.BinOp a op b pos) (tE G (e2 f ma mb) Wx):=
 peI (pe_op ho ha hb) (imp_e2 c)
theorem q_cmp {op:CmpOp} {f:F2} {a b:Expr} {ma mb:ED} (ho:OpR X (compareOp op) (r2 G f)) (c:Calm2 f) (ha:PE X a (tE G ma Wx)) (hb:PE X b (tE G mb Wx)) (hm:behindInMarks op b=false):PE X (.Compare a [op] [b] pos) (tE G (e2 f ma mb) Wx):=
 peI (pe_cmpR ho ha hb hm) (imp_e2 c)
theorem q_ix {f:F2} {a b:Expr} {ma mb:ED} (ho:IxR X (r2 G f)) (c:Calm2 f) (ha:PE X a (tE G ma Wx)) (hb:PE X b (tE G mb Wx)) (hs:PlainIx b):PE X (.Subscript a b pos) (tE G (e2 f ma mb) Wx):=
 peI (pe_ix ho ha hb hs) (imp_e2 c)
theorem q_un {op:UnaryOp} {f:F1} {a:Expr} {ma:ED} (ho:UnR X (unaryOp op) (r1 G f)) (c:Calm1 f) (ha:PE X a (tE G ma Wx)):PE X (.UnaryOp op a pos) (tE G (e1 f ma) Wx):=
 peI (pe_un ho ha) fun σ H Q q=>by
  obtain⟨w,env,rfl,sr,er,p⟩:=q
  refine⟨w,env,rfl,sr,er,(Post.bind p).mono (fun x H1 m=> ?_) fun _ _ _ h=>h⟩
  obtain⟨w1,d1,rfl,x1,s1,rp1,p1⟩:=m
  exact⟨w1,d1,rfl,s1,rp1,p1.calm (c _ _)⟩
theorem q_nil:PA X [] (tA G aNil Wx):=paI pa_nil fun σ H Q q=>by
 obtain⟨w,env,rfl,sr,er,p⟩:=q
 exact Post.ret (Ra:=RepL G) sr (by simp[RepL]) p
theorem q_cons {e:Expr} {es:List Expr} {m:ED} {ms:AD} (ha:PE X e (tE G m Wx)) (hr:PA X es (tA G ms Wx)) (hs:starEach (e::es) X.env=(false,eval e X.env)::starEach es X.env:=by rfl):PA X (e::es) (tA G (aCons m ms) Wx):=
 paI (pa_cons ha hr hs) fun σ H Q q=>by
  obtain⟨w,env,rfl,sr,er,p⟩:=q
  refine⟨w,env,rfl,sr,er,(Post.bind p).mono (fun x H1 m=> ?_) fun _ _ _ h=>h⟩
  obtain⟨w1,d1,rfl,x1,s1,rp1,p1⟩:=m
  refine⟨w1,env,rfl,s1,er.mono x1,(Post.bind p1).mono (fun y H2 m=> ?_) fun _ _ _ h=>h⟩
  obtain⟨w2,d2,rfl,x2,s2,rp2,p2⟩:=m
  exact Post.ret (Ra:=RepL G) (a:=d1::d2) s2 (by simp only[RepL];exact⟨x,y,rfl,Rep.mono x2 _ _ rp1,rp2⟩) p2
theorem imp_eN {f:FN} {a:AD} (c:CalmN f):∀ σ H Q,tE G (eN f a) Wx σ H Q→tCB (rN G f) (tA G a Wx) σ H Q:=by
 intro σ H Q q
 obtain⟨w,env,rfl,sr,er,p⟩:=q
 refine⟨w,env,rfl,sr,er,(Post.bind p).mono (fun x H1 m=> ?_) fun _ _ _ h=>h⟩
 obtain⟨w1,d1,rfl,x1,s1,rp1,p1⟩:=m
 exact⟨w1,d1,rfl,s1,rp1,p1.calm (c _ _)⟩
theorem q_callB {id:String} {x:Str} {p:Pos} {f:FN} {e:Expr} {es:List Expr} {m:AD} (hc:CallR X (.builtin id) (rN G f)) (c:CalmN f) (hg:Gl X x) (hm:X.mg x=none) (hv:bootBuiltins x=some (.builtin id)) (ha:PA X (e::es) (tA G m Wx)) (hn:x≠ "__name__" :=by decide) (hdb:(x==("__debug__" :Str))=false:=by decide)
 (he:starEach (e::es) X.env=(false,eval e X.env)::starEach es X.env:=by rfl) (hpl:(backTo pos (starEach es X.env)).any (·.1)=false:=by rfl):PE X (.Call (.Name x p) (e::es) [] pos) (tE G (eN f m) Wx):=
 peI (pe_callB hc hg hm hv ha hn hdb he hpl) (imp_eN c)
theorem q_callTy {T:String} {x:Str} {p:Pos} {f:FN} {e:Expr} {es:List Expr} {m:AD} (hc:CallR X (.type T) (rN G f)) (c:CalmN f) (hg:Gl X x) (hm:X.mg x=none) (hv:bootBuiltins x=some (.type T)) (ha:PA X (e::es) (tA G m Wx)) (hn:x≠ "__name__" :=by decide) (hdb:(x==("__debug__" :Str))=false:=by decide)
 (he:starEach (e::es) X.env=(false,eval e X.env)::starEach es X.env:=by rfl) (hpl:(backTo pos (starEach es X.env)).any (·.1)=false:=by rfl):PE X (.Call (.Name x p) (e::es) [] pos) (tE G (eN f m) Wx):=
 peI (pe_callTy hc hg hm hv ha hn hdb he hpl) (imp_eN c)
end
end L3
namespace L3
open PySem PySem.Spec PyProof.Rows L2
section
variable {G:GC} {w:Wd} {p:Addr} {o:HO}
theorem RepL.length:∀ {ds:List D} {vs:List V},RepL G w ds vs→vs.length=ds.length
 | [],vs,h=>by simp only[RepL] at h;subst h;rfl
 |d::ds,vs,h=>by
  simp only[RepL] at h
  obtain⟨v,r,rfl,_,h2⟩:=h
  simp[RepL.length h2]
theorem RepL.get:∀ {ds:List D} {vs:List V} {i:Nat} {d:D},RepL G w ds vs→ds[i]? =some d→∃v,vs[i]? =some v∧Rep G w d v
 | [],_,_,_,_,e=>by simp at e
 |d::ds,vs,0,d',h,e=>by
  simp only[RepL] at h
  obtain⟨v,r,rfl,h1,h2⟩:=h
  simp at e;subst e
  exact⟨v,rfl,h1⟩
 |d::ds,vs,i+1,d',h,e=>by
  simp only[RepL] at h
  obtain⟨v,r,rfl,h1,h2⟩:=h
  obtain⟨u,q1,q2⟩:=RepL.get (i:=i) (d:=d') h2 (by simpa using e)
  exact⟨u,by simpa using q1,q2⟩
theorem RepL.append:∀ {ds ds':List D} {vs vs':List V},RepL G w ds vs→RepL G w ds' vs'→RepL G w (ds++ds') (vs++vs')
 | [],_,_,_,h,h'=>by simp only[RepL] at h;subst h;exact h'
 |d::ds,ds',vs,vs',h,h'=>by
  simp only[RepL] at h
  obtain⟨v,r,rfl,h1,h2⟩:=h
  show RepL G w (d::(ds++ds')) (v::(r++vs'))
  simp only[RepL]
  exact⟨v,r++vs',rfl,h1,RepL.append h2 h'⟩
theorem RepL.one {d:D} {v:V} (h:Rep G w d v):RepL G w [d] [v] :=by
 simp only[RepL];exact⟨v,[],rfl,h,rfl⟩
theorem RepL.take:∀ {ds:List D} {vs:List V} (n:Nat),RepL G w ds vs→RepL G w (ds.take n) (vs.take n)
 | _,_,0,_=>by simp[RepL]
 | [],vs,n+1,h=>by simp only[RepL] at h;subst h;simp[RepL]
 |d::ds,vs,n+1,h=>by
  simp only[RepL] at h
  obtain⟨v,r,rfl,h1,h2⟩:=h
  simp only[List.take_succ_cons,RepL]
  exact⟨v,_,rfl,h1,RepL.take n h2⟩
theorem RepL.drop:∀ {ds:List D} {vs:List V} (n:Nat),RepL G w ds vs→RepL G w (ds.drop n) (vs.drop n)
 | _,_,0,h=>h
 | [],vs,n+1,h=>by simp only[RepL] at h;subst h;simp[RepL]
 |d::ds,vs,n+1,h=>by
  simp only[RepL] at h
  obtain⟨v,r,rfl,h1,h2⟩:=h
  simp only[List.drop_succ_cons]
  exact RepL.drop n h2
theorem RepL.set:∀ {ds:List D} {vs:List V} (n:Nat) {d:D} {v:V},RepL G w ds vs→Rep G w d v→RepL G w (ds.set n d) (vs.set n v)
 | [],vs,n,d,v,h,h'=>by simp only[RepL] at h;subst h;simp[RepL]
 |d::ds,vs,0,d',v',h,h'=>by
  simp only[RepL] at h
  obtain⟨v,r,rfl,h1,h2⟩:=h
  simp only[List.set_cons_zero,RepL]
  exact⟨_,_,rfl,h',h2⟩
 |d::ds,vs,n+1,d',v',h,h'=>by
  simp only[RepL] at h
  obtain⟨v,r,rfl,h1,h2⟩:=h
  simp only[List.set_cons_succ,RepL]
  exact⟨_,_,rfl,h1,RepL.set n h2 h'⟩
theorem ORep.there {a:Addr} {ob:O} (h:ORep G w a ob) (lv:ob.live):∃u,w.H a=some u:=by
 cases ob with
 |lst l=>obtain⟨vs,e,_⟩:=h;exact⟨_,e⟩
 |dK l=>obtain⟨vs,e,_⟩:=h;exact⟨_,e⟩
 |dT l=>obtain⟨vs,e,_⟩:=h;exact⟨_,e⟩
 |dN l=>obtain⟨vs,e,_⟩:=h;exact⟨_,e⟩
 |ins c l=>obtain⟨_,_,_,e,_⟩:=h;exact⟨_,e⟩
 |ptp l=>exact lv.elim
 |dead=>exact lv.elim
 |tab x q=>obtain⟨_,ps,e,_⟩:=h;exact⟨_,e⟩
theorem MutS.there {a:Addr} (sr:SRep G w) (m:MutS w a):∃u,w.H a=some u:=by
 obtain⟨n,ob,h1,lv,h2⟩:=m
 exact(sr.obj n ob a h1 h2).there lv
theorem ORep.keep {T:List Addr} {w':Wd} {a:Addr} {ob:O} (x:WX' T w w') (hT:Tok T w) (h:ORep G w a ob) (e:ob.live→w'.H a=w.H a):ORep G w' a ob:=by
 cases ob with
 |lst l=>obtain⟨vs,h1,h2⟩:=h;exact⟨vs,(e trivial).trans h1,RepL.monoT x hT _ _ h2⟩
 |dK l=>obtain⟨vs,h1,h2⟩:=h;exact⟨vs,(e trivial).trans h1,RepKV.monoT x hT _ _ h2⟩
 |dT l=>obtain⟨vs,h1,h2⟩:=h;exact⟨vs,(e trivial).trans h1,RepKV.monoT x hT _ _ h2⟩
 |dN l=>obtain⟨vs,h1,h2⟩:=h;exact⟨vs,(e trivial).trans h1,RepN.monoT x hT _ _ h2⟩
 |ins c l=>obtain⟨C,dx,vs,h1,h2,h3⟩:=h;exact⟨C,dx,vs,(e trivial).trans h1,RepKV.monoT x hT _ _ h2,h3⟩
 |ptp l=>obtain⟨o,vs,⟨h1,nm⟩,h2,h3⟩:=h;exact⟨o,vs,x.keepM hT h1 nm,h2,RepL.monoT x hT _ _ h3⟩
 |dead=>trivial
 |tab y q=>obtain⟨h0,ps,h1,h2,h3⟩:=h;exact⟨h0,ps,(e trivial).trans h1,h2,fun pos cv hc=>let⟨c,e1,e2⟩:=h3 pos cv hc;⟨c,e1,x.keepM hT e2.1 e2.2⟩⟩
abbrev Wd.put (w:Wd) (p:Addr) (o:HO):Wd:= { w with H:=upd w.H p o }
theorem new_ext (sr:SRep G w) (hp:w.H p=none):WExt w (w.put p o)∧SRep G (w.put p o)∧¬Mut (w.put p o) p:=by
 have x:WExt w (w.put p o):=⟨fun _ _ h=>h,fun a u h nm _=>⟨(upd_ne (ne_of_none h hp)).trans h,nm⟩,fun _ h=> .inl h,fun _ h=>h⟩
 refine⟨x,⟨sr.len,sr.inj,fun n ob a h1 h2=> ?_,fun a ha=> ?_⟩,fun m=>m.elim (fun m=> ?_) fun m=> ?_⟩
 ·have h:=sr.obj n ob a h1 h2
  refine h.keep x noT fun lv=> ?_
  obtain⟨u,e⟩:=h.there lv
  exact upd_ne (ne_of_none e hp)
 ·obtain⟨⟨u,e⟩,nm⟩:=sr.tm a ha
  exact⟨⟨u,(upd_ne (ne_of_none e hp)).trans e⟩,nm⟩
 ·obtain⟨u,e⟩:=MutS.there sr (show MutS w p from m)
  rw[hp] at e;cases e
 ·obtain⟨⟨u,e⟩,_⟩:=sr.tm p m
  rw[hp] at e;cases e
theorem new_obj {ob:O} (sr:SRep G w) (hp:w.H p=none) (hor:∀w',WExt w w'→w'.H p=some o→ORep G w' p ob):
 WExt w ⟨w.mu++ [p],w.S++ [ob],upd w.H p o,w.tmp⟩∧SRep G ⟨w.mu++ [p],w.S++ [ob],upd w.H p o,w.tmp⟩:=by
 have nmS:∀a u,w.H a=some u→¬MutS w a→¬MutS ⟨w.mu++ [p],w.S++ [ob],upd w.H p o,w.tmp⟩ a:=fun a u h nm m=>by
  obtain⟨n,o',h1,lv,h2⟩:=m
  by_cases hn:n<w.S.length
  ·refine nm ⟨n,o',?_,lv,?_⟩
   ·simpa[List.getElem?_append_left hn] using h1
   ·have:n<w.mu.length:=by rw[sr.len];exact hn
    simpa[List.getElem?_append_left this] using h2
  ·have e:n=w.S.length:=by
    have:=(List.getElem?_eq_some_iff.mp h1).1
    simp at this;omega
   subst e
   have:(w.mu++ [p])[w.mu.length]? =some p:=by simp
   rw[← sr.len] at h2
   have e2:p=a:=Option.some.inj (this.symm.trans h2)
   rw[e2,h] at hp;cases hp
 have x:WExt w ⟨w.mu++ [p],w.S++ [ob],upd w.H p o,w.tmp⟩:=
  ⟨fun n a h=>by
    have hl:=(List.getElem?_eq_some_iff.mp h).1
    show(w.mu++ [p])[n]? =some a
    rw[List.getElem?_append_left hl];exact h,
    fun a u h nm _=>⟨(upd_ne (ne_of_none h hp)).trans h,nmS a u h nm⟩,fun _ h=> .inl h,fun _ h=>h⟩
 have split:∀(n:Nat) (o':O),(w.S++ [ob])[n]? =some o'→w.S[n]? =some o'∨(n=w.S.length∧o'=ob):=fun n o' h=>by
  by_cases hn:n<w.S.length
  ·rw[List.getElem?_append_left hn] at h;exact .inl h
  ·have e:n=w.S.length:=by
    have:=(List.getElem?_eq_some_iff.mp h).1
    simp at this;omega
   subst e;simp at h;exact .inr ⟨rfl,h.symm⟩
 have mul:∀(n:Nat) (a:Addr),n<w.S.length→(w.mu++ [p])[n]? =some a→w.mu[n]? =some a:=fun n a hn h=>by
  have:n<w.mu.length:=by rw[sr.len];exact hn
  rw[List.getElem?_append_left this] at h;exact h
 have mur:∀(a:Addr),(w.mu++ [p])[w.S.length]? =some a→a=p:=fun a h=>by
  rw[← sr.len] at h;simp at h;exact h.symm
 have old:∀(n:Nat) (o':O) (a:Addr),w.S[n]? =some o'→o'.live→(w.mu++ [p])[n]? =some a→a≠p:=fun n o' a h lv hm e=>by
  have hn:=(List.getElem?_eq_some_iff.mp h).1
  obtain⟨u,q⟩:=(sr.obj n o' a h (mul n a hn hm)).there lv
  rw[e,hp] at q;cases q
 refine⟨x,⟨by simp[sr.len],fun n m a o1 o2 h1 h2 l1 l2 m1 m2=> ?_,fun n o' a h1 h2=> ?_,fun a ha=> ?_⟩⟩
 ·rcases split n o1 h1 with q1|⟨e1,q1⟩<;>rcases split m o2 h2 with q2|⟨e2,q2⟩
  ·exact sr.inj n m a o1 o2 q1 q2 l1 l2 (mul n a (List.getElem?_eq_some_iff.mp q1).1 m1) (mul m a (List.getElem?_eq_some_iff.mp q2).1 m2)
  ·subst e2;exact absurd (mur a m2) (old n o1 a q1 l1 m1)
  ·subst e1;exact absurd (mur a m1) (old m o2 a q2 l2 m2)
  ·rw[e1,e2]
 ·rcases split n o' h1 with q1|⟨e1,q1⟩
  ·have hn:=(List.getElem?_eq_some_iff.mp q1).1
   have h:=sr.obj n o' a q1 (mul n a hn h2)
   refine h.keep x noT fun lv=> ?_
   obtain⟨u,e⟩:=h.there lv
   exact upd_ne (ne_of_none e hp)
  ·subst e1 q1
   have e:a=p:=mur a h2
   subst e
   exact hor _ x upd_same
 ·obtain⟨⟨u,e⟩,nm⟩:=sr.tm a ha
  exact⟨⟨u,(upd_ne (ne_of_none e hp)).trans e⟩,nmS a u.1 e nm⟩
theorem set_obj {n:Nat} {a:Addr} {ob ob':O} (sr:SRep G w) (hn:w.S[n]? =some ob) (lv:ob.live) (ha:w.mu[n]? =some a) (hor:∀w',WExt w w'→w'.H a=some o→ORep G w' a ob'):
 WExt w ⟨w.mu,w.S.set n ob',upd w.H a o,w.tmp⟩∧SRep G ⟨w.mu,w.S.set n ob',upd w.H a o,w.tmp⟩:=by
 have hl:=(List.getElem?_eq_some_iff.mp hn).1
 have back:∀(m:Nat) (o':O),(w.S.set n ob')[m]? =some o'→(m=n∧o'=ob')∨(m≠n∧w.S[m]? =some o'):=fun m o' h=>by
  by_cases e:n=m
  ·subst e;rw[List.getElem?_set_self hl] at h;exact .inl ⟨rfl,(Option.some.inj h).symm⟩
  ·rw[List.getElem?_set_ne e] at h;exact .inr ⟨fun z=>e z.symm,h⟩
 have mb:∀b,MutS ⟨w.mu,w.S.set n ob',upd w.H a o,w.tmp⟩ b→MutS w b:=fun b ⟨m,o',h1,l1,h2⟩=>by
  rcases back m o' h1 with⟨e,_⟩|⟨_,q⟩
  ·subst e;exact⟨m,ob,hn,lv,h2⟩
  ·exact⟨m,o',q,l1,h2⟩
 have nA:∀b,¬MutS w b→b≠a:=fun b nm e=>nm (by subst e;exact⟨n,ob,hn,lv,ha⟩)
 have x:WExt w ⟨w.mu,w.S.set n ob',upd w.H a o,w.tmp⟩:=⟨fun _ _ h=>h,fun b u h nm _=>⟨(upd_ne (nA b nm)).trans h,fun m=>nm (mb b m)⟩,fun _ h=> .inl h,fun _ h=>h⟩
 have lvOf:∀(m:Nat) (o':O),(w.S.set n ob')[m]? =some o'→o'.live→∃o2,w.S[m]? =some o2∧o2.live:=fun m o' h l=>by
  rcases back m o' h with⟨e,_⟩|⟨_,q⟩
  ·subst e;exact⟨ob,hn,lv⟩
  ·exact⟨o',q,l⟩
 refine⟨x,⟨by simp[sr.len],fun i j b o1 o2 h1 h2 l1 l2 m1 m2=> ?_,fun m o' b h1 h2=> ?_,fun b hb=> ?_⟩⟩
 ·obtain⟨p1,q1,r1⟩:=lvOf i o1 h1 l1
  obtain⟨p2,q2,r2⟩:=lvOf j o2 h2 l2
  exact sr.inj i j b p1 p2 q1 q2 r1 r2 m1 m2
 ·rcases back m o' h1 with⟨e,e2⟩|⟨ne,q⟩
  ·subst e e2
   have e3:b=a:=Option.some.inj (h2.symm.trans ha)
   subst e3
   exact hor _ x upd_same
  ·have h:=sr.obj m o' b q h2
   refine h.keep x noT fun l=>upd_ne fun e=>ne ?_
   subst e
   exact sr.inj m n _ o' ob q hn l lv h2 ha
 ·obtain⟨⟨u,e⟩,nm⟩:=sr.tm b hb
  exact⟨⟨u,(upd_ne (nA b nm)).trans e⟩,fun m=>nm (mb b m)⟩
end
end L3
namespace L3
open PySem PySem.Spec PyProof.Rows L2
section
variable {G:GC} {X:Cx} {Wx:WX} {pos:Pos}
theorem q_tnot {c:Expr} {m:TD} (h:PT X c (tT G m Wx)):PT X (.UnaryOp .Not c pos) (tT G (tNot m) Wx):=ptI (pt_not h) fun σ H Q q=>by
 obtain⟨w,env,rfl,sr,er,p⟩:=q
 refine⟨w,env,rfl,sr,er,(Post.bind (Ra:=fun _ (a b:Bool)=>a=b) p).mono (fun x H1 m=> ?_) fun _ _ _ h=>h⟩
 obtain⟨w1,d1,rfl,x1,s1,rp1,p1⟩:=m
 subst rp1
 exact Post.ret (Ra:=fun _ (a b:Bool)=>a=b) s1 rfl p1
theorem imp_and {a b:TD} :∀ σ H Q,tT G (tAnd a b) Wx σ H Q→L2.tAnd (tT G a Wx) (tT G b Wx) σ H Q:=by
 intro σ H Q q
 obtain⟨w,env,rfl,sr,er,p⟩:=q
 refine⟨w,env,rfl,sr,er,(Post.bind (Ra:=fun _ (a b:Bool)=>a=b) p).mono (fun x H1 m=> ?_) fun _ _ _ h=>h⟩
 obtain⟨w1,d1,rfl,x1,s1,rp1,p1⟩:=m
 subst rp1
 cases d1 with
 |true=>exact iteT ⟨w1,env,rfl,s1,er.mono x1,p1⟩
 |false=>exact iteF (Post.ret (Ra:=fun _ (a b:Bool)=>a=b) s1 rfl p1)
theorem imp_or {a b:TD} :∀ σ H Q,tT G (tOr a b) Wx σ H Q→L2.tOr (tT G a Wx) (tT G b Wx) σ H Q:=by
 intro σ H Q q
 obtain⟨w,env,rfl,sr,er,p⟩:=q
 refine⟨w,env,rfl,sr,er,(Post.bind (Ra:=fun _ (a b:Bool)=>a=b) p).mono (fun x H1 m=> ?_) fun _ _ _ h=>h⟩
 obtain⟨w1,d1,rfl,x1,s1,rp1,p1⟩:=m
 subst rp1
 cases d1 with
 |true=>exact iteT (Post.ret (Ra:=fun _ (a b:Bool)=>a=b) s1 rfl p1)
 |false=>exact iteF ⟨w1,env,rfl,s1,er.mono x1,p1⟩
theorem q_expr {e:Expr} {m:ED} (h:PE X e (tE G m Wx)) (hs:swapsWith e none pos.line X.env=pure false:=by rfl):PS X (.Expr e pos) (tS G (sExpr m) Wx):=psI (ps_expr h hs) fun D σ H q=>by
 obtain⟨w,env,rfl,sr,er,p⟩:=q
 refine⟨w,env,rfl,sr,er,(PostS.ofR (Ra:=Rep G) er p).mono (fun x H1 m=> ?_) fun _ _ _ h=>h⟩
 obtain⟨w1,d1,rfl,x1,s1,rp1,p1⟩:=m
 exact p1 σ w1 (.refl w1) rfl s1 (er.mono x1)
theorem q_ret {e:Expr} {m:ED} (h:PE X e (tE G m Wx)):PS X (.Return (some e) pos) (tS G (sRet m) Wx):=psI (ps_ret h) fun D σ H q=>by
 obtain⟨w,env,rfl,sr,er,p⟩:=q
 refine⟨w,env,rfl,sr,er,(PostS.ofR (Ra:=Rep G) er p).mono (fun x H1 m=> ?_) fun _ _ _ h=>h⟩
 obtain⟨w1,d1,rfl,x1,s1,rp1,p1⟩:=m
 exact p1 x w1 (.refl w1) rfl s1 rp1
theorem q_if {c:Expr} {a b:List Stmt} {mc:TD} {ma mb:SD} (hc:PT X c (tT G mc Wx)) (ha:PSs X a (tS G ma Wx)) (hb:PSs X b (tS G mb Wx)):PS X (.If c a b pos) (tS G (sIf mc ma mb) Wx):=psI (ps_if hc ha hb) fun D σ H q=>by
 obtain⟨w,env,rfl,sr,er,p⟩:=q
 refine⟨w,env,rfl,sr,er,(PostS.ofR (Ra:=fun _ (a b:Bool)=>a=b) er p).mono (fun x H1 m=> ?_) fun _ _ _ h=>h⟩
 obtain⟨w1,d1,rfl,x1,s1,rp1,p1⟩:=m
 subst rp1
 cases d1 with
 |true=>exact iteT ⟨w1,env,rfl,s1,er.mono x1,p1⟩
 |false=>exact iteF ⟨w1,env,rfl,s1,er.mono x1,p1⟩
theorem q_snil:PSs X [] (tS G sSkip Wx):=pssI pss_nil fun D σ H q=>by
 obtain⟨w,env,rfl,sr,er,p⟩:=q
 exact p σ w (.refl w) rfl sr er
theorem q_scons {st:Stmt} {rest:List Stmt} {a b:SD} (h1:PS X st (tS G a Wx)) (h2:PSs X rest (tS G b Wx)):PSs X (st::rest) (tS G (sSeq a b) Wx):=pssI (pss_cons h1 h2) fun D σ H q=>by
 obtain⟨w,env,rfl,sr,er,p⟩:=q
 refine⟨w,env,rfl,sr,er,?_⟩
 unfold sSeq at p
 cases h:a env w.S with
 |nx env1 S1=>
  rw[h] at p
  intro σ' w' e hs s' er'
  subst hs
  exact⟨w',env1,rfl,s',er',PostS.shift e p⟩
 |ret d S1=>rw[h] at p;exact p
 |brk env1 S1=>rw[h] at p;exact p
 |ct env1 S1=>rw[h] at p;exact p
 |exc e env1 S1=>rw[h] at p;exact p
 |bad=>rw[h] at p;exact p.elim
theorem q_sone {st:Stmt} {a:SD} (h1:PS X st (tS G a Wx)):PSs X [st] (tS G a Wx):=pss_one h1
def tG (G:GC) (g:GD):TG:=fun v σ H Q=>∃w env d,w.H=H∧SRep G w∧ERep G w env σ ∧Rep G w d v∧
 match g d env w.S with
 | .nx env' S'=>∀ σ' w',WExt w w'→w'.S=S'→SRep G w'→ERep G w' env' σ'→Q σ' w'.H
 | _=>False
theorem pgI {e:Expr} {t t':TG} (h:PG X e t) (i:∀v σ H Q,t' v σ H Q→t v σ H Q):PG X e t':=⟨fun pins s σ H v u Q I r q=>h.run pins s σ H v u Q I r (i _ _ _ _ q)⟩
theorem q_gname {e:Expr} {i:Nat} (h:PG X e (L2.gName i)):PG X e (tG G (gName i)):=pgI h fun v σ H Q q=>by
 obtain⟨w,env,d,rfl,sr,er,rp,p⟩:=q
 exact p _ w (.refl w) rfl sr (er.set i rp)
def GOk (g:GD):Prop:=∀d env S,(∃ env' S',g d env S= .nx env' S')∨g d env S= .bad
theorem q_asg {tg e:Expr} {m:ED} {g:GD} (he:PE X e (tE G m Wx)) (hg:PG X tg (tG G g)) (hs:swapsWithSole [tg] e pos.line X.env=pure false:=by rfl) (hw:swappedStores [tg] e X.env=pure none:=by rfl)
 (h1:(assignEach [tg] X.env).map (·.2)= [assign tg X.env] :=by rfl) (gn:GOk g):PS X (.Assign [tg] e pos) (tS G (sAsg m g) Wx):=psI (ps_asg he hg hs hw h1) fun D σ H q=>by
 obtain⟨w,env,rfl,sr,er,p⟩:=q
 refine⟨w,env,rfl,sr,er,(PostS.ofR (Ra:=Rep G) er p).mono (fun x H1 m=> ?_) fun _ _ _ h=>h⟩
 obtain⟨w1,d1,rfl,x1,s1,rp1,p1⟩:=m
 refine⟨w1,env,d1,rfl,s1,er.mono x1,rp1,?_⟩
 rcases gn d1 env w1.S with⟨env',S',h⟩|h
 ·rw[h] at p1 ⊢;exact p1
 ·rw[h] at p1;exact p1.elim
theorem q_set {i:Nat} {x:Str} {e:Expr} {m:ED} {pos':Pos} (hN:X.N.Nodup) (hi:X.N[i]? =some x) (hx:Loc X.env.scope x) (he:PE X e (tE G m Wx)) (hs:swapsWith e (some (.Name x pos')) pos.line X.env=pure false:=by rfl) (hf:X.fn x=true∨X.env.scope.names.lookup x=some .local:=by first|exact .inl rfl|exact .inr rfl|assumption):
 PS X (.Assign [.Name x pos'] e pos) (tS G (sAsg m (gName i)) Wx):=psI (ps_set hN hi hx he hs hf) fun D σ H q=>by
 obtain⟨w,env,rfl,sr,er,p⟩:=q
 refine⟨w,env,rfl,sr,er,(PostS.ofR (Ra:=Rep G) er p).mono (fun x H1 m=> ?_) fun _ _ _ h=>h⟩
 obtain⟨w1,d1,rfl,x1,s1,rp1,p1⟩:=m
 exact p1 _ w1 (.refl w1) rfl s1 ((er.mono x1).set i rp1)
structure ItOk (G:GC) (w:Wd) (J:It) (xs:List D):Prop where
 go:∀(T:List Addr) w',Tok T w→WX' T w w'→SRep G w'→∀(i:Nat) (d:D),xs[i]? =some d→J.go i w'.H∧∀x H'',J.yld i w'.H x H''→∃w'',w''.H=H''∧WExt w' w''∧w''.S=w'.S∧SRep G w''∧Rep G w'' d x
 stop:∀(T:List Addr) w',Tok T w→WX' T w w'→SRep G w'→J.stop xs.length w'.H
abbrev ID:=EnvD→Store→R (List D)
def tI (G:GC) (m:ID) (Wx:WX):TI:=fun σ H Rr=>∃w env,w.H=H∧SRep G w∧ERep G w env σ ∧Post G w (m env w.S) (fun w' xs (J:It)=>ItOk G w' J xs) Rr (fun C dx H'=>Wx C dx σ H')
end
end L3
namespace L3
open PySem PySem.Spec PyProof.Rows L2
def sgn (c:Nat):D:= .str ⟨#[c]⟩
def itemsD (x:D) (S:Store):R (List D):=match x with
 | .tup l=> .ok l S
 | .lst l=> .ok l S
 | .str s=> .ok (s.cps.toList.map sgn) S
 | .scr ns=> .ok (ns.map .int) S
 | .obj n=>match S[n]? with
   |some (.ptp l)=> .ok l S
   | _=> .bad
 | _=> .bad
def iSeq (a:ED):ID:=fun env S=>(a env S).bind fun x S1=>itemsD x S1
def rangeD (lo hi:Int):List D:=(List.range (hi-lo).toNat).map fun i=> .int (lo+(i:Nat))
def okRng (i:Int):Bool:=decide (-(2 ^ 62)≤i∧i<2 ^ 62)
def range1:List D→Store→R (List D):=fun xs S=>match xs with
 | [.int j] =>if okRng j then .ok (rangeD 0 j) S else .bad
 | _=> .bad
def range2:List D→Store→R (List D):=fun xs S=>match xs with
 | [.int i, .int j] =>if okRng i&&okRng j then .ok (rangeD i j) S else .bad
 | _=> .bad
def iArgs (f:List D→Store→R (List D)) (a:AD):ID:=fun env S=>(a env S).bind fun xs S1=>f xs S1
theorem piI {X:Cx} {tg e:Expr} {t t':TI} (h:PI X tg e t) (i:∀ σ H R,t' σ H R→t σ H R):PI X tg e t':=⟨fun pins s σ H R I q=>h.run pins s σ H R I (i _ _ _ q)⟩
section
variable {G:GC} {X:Cx} {Wx:WX} {pos:Pos}
theorem RepL_ints {w:Wd} :∀ {ns:List Int} {vs:List V},RepL G w (ns.map .int) vs↔vs=ns.map V.int
 | [],vs=>by simp[RepL]
 |n::ns,vs=>by
  simp only[List.map_cons,RepL,Rep]
  constructor
  ·rintro⟨v,r,rfl,rfl,h⟩;rw[RepL_ints.mp h]
  ·rintro rfl;exact⟨_,_,rfl,rfl,RepL_ints.mpr rfl⟩
theorem fr_tok {T:List Addr} {w:Wd} (h:∀a ∈ T,w.H a=none):Tok T w:=fun a ha=> .inr (h a ha)
theorem it_list {w:Wd} {a:Addr} {vs:List V} {l:List D} (h:(w.H a=some (.lst vs)∧¬Mut w a)∨Fz w a (.lst vs)∨KL G.K a vs) (r:RepL G w l vs):ItOk G w (Itl G.K a) l:=by
 have sq:∀(T:List Addr) w',Tok T w→WX' T w w'→SqL G.K w'.H a vs:=fun T w' hT x=>by
  rcases h with⟨h,nm⟩|h|h
  ·exact .inl (.inl (x.keepM hT h nm).1)
  ·exact .inl (Fz.monoT x hT h).1
  ·exact .inr h
 have inj:∀(T:List Addr) w',Tok T w→WX' T w w'→∀(i:Nat) (d:D),l[i]? =some d→∃v,vs[i]? =some v∧Rep G w' d v:=fun T w' hT x i d e=>by
  obtain⟨v,q1,q2⟩:=r.get e
  exact⟨v,q1,Rep.monoT x hT _ _ q2⟩
 refine⟨fun T w' hT x s i d e=> ?_,fun T w' hT x s=>⟨vs,sq T w' hT x,by rw[r.length];exact Nat.le_refl _⟩⟩
 obtain⟨v,q1,q2⟩:=inj T w' hT x i d e
 refine⟨⟨vs,v,sq T w' hT x,q1⟩,fun y H'' hy=> ?_⟩
 obtain⟨rfl,hy⟩:=hy
 have e2:=hy vs (sq T w' hT x)
 rw[q1] at e2;cases e2
 exact⟨w',rfl, .refl w',rfl,s,q2⟩
theorem it_tup {w:Wd} {a:Addr} {vs:List V} {l:List D} (h:TupAt G w a vs l) (r:RepL G w l vs):ItOk G w (Itt G.K a) l:=by
 have sq:∀(T:List Addr) w',Tok T w→WX' T w w'→SqT G.K w'.H a vs:=fun T w' hT x=>by
  rcases h with⟨h,nm⟩|h
  ·exact .inl (.inl (x.keepM hT h nm).1)
  ·exact .inr h.1
 refine⟨fun T w' hT x s i d e=> ?_,fun T w' hT x s=>⟨vs,sq T w' hT x,by rw[r.length];exact Nat.le_refl _⟩⟩
 obtain⟨v,q1,q2⟩:=r.get e
 refine⟨⟨vs,v,sq T w' hT x,q1⟩,fun y H'' hy=> ?_⟩
 obtain⟨rfl,hy⟩:=hy
 have e2:=hy vs (sq T w' hT x)
 rw[q1] at e2;cases e2
 exact⟨w',rfl, .refl w',rfl,s,Rep.monoT x hT _ _ q2⟩
theorem it_rng {w:Wd} {lo:Int} {n:Nat} :ItOk G w (Itr lo n) ((List.range n).map fun i=> .int (lo+(i:Nat))):=by
 refine⟨fun T w' hT x s i d e=> ?_,fun T w' hT x s=>by simp[Itr]⟩
 rw[List.getElem?_map] at e
 by_cases hi:i<n
 ·rw[List.getElem?_range hi] at e
  cases e
  refine⟨hi,fun y H'' hy=> ?_⟩
  obtain⟨rfl,rfl⟩:=hy
  exact⟨w',rfl, .refl w',rfl,s,by simp[Rep]⟩
 ·rw[List.getElem?_eq_none (by simpa using hi)] at e;cases e
theorem it_str {w:Wd} {z:Str} :ItOk G w (Its z) (z.cps.toList.map sgn):=by
 refine⟨fun T w' hT x s i d e=> ?_,fun T w' hT x s=>by simp[Its]⟩
 rw[List.getElem?_map] at e
 cases q:z.cps.toList[i]? with
 |none=>rw[q] at e;cases e
 |some c=>
  rw[q] at e
  cases e
  have hi:i<z.cps.size:=by simpa using(List.getElem?_eq_some_iff.mp q).1
  refine⟨hi,fun y H'' hy=> ?_⟩
  obtain⟨rfl,c',h1,rfl⟩:=hy
  have:c'=c:=by
   have h2:z.cps.toList[i]? =some c':=by simpa using h1
   rw[h2] at q;exact Option.some.inj q
  subst this
  exact⟨w',rfl, .refl w',rfl,s,by simp[Rep,sgn]⟩
theorem it_ptp {w:Wd} {a:Addr} {o:Obj} {vs:List V} {l:List D} (h:w.H a=some (.frz o (.tup vs))∧¬Mut w a) (r:RepL G w l vs):ItOk G w (Itt G.K a) l:=by
 have sq:∀(T:List Addr) w',Tok T w→WX' T w w'→SqT G.K w'.H a vs:=fun T w' hT x=> .inl (.inr ⟨o,(x.keepM hT h.1 h.2).1⟩)
 refine⟨fun T w' hT x s i d e=> ?_,fun T w' hT x s=>⟨vs,sq T w' hT x,by rw[r.length];exact Nat.le_refl _⟩⟩
 obtain⟨v,q1,q2⟩:=r.get e
 refine⟨⟨vs,v,sq T w' hT x,q1⟩,fun y H'' hy=> ?_⟩
 obtain⟨rfl,hy⟩:=hy
 have e2:=hy vs (sq T w' hT x)
 rw[q1] at e2;cases e2
 exact⟨w',rfl, .refl w',rfl,s,Rep.monoT x hT _ _ q2⟩
theorem q_iter {tg e:Expr} {m:ED} (hK:X.K=G.K) (h:PE X e (tE G m Wx)):PI X tg e (tI G (iSeq m) Wx):=by
 refine⟨fun pins s σ H R I q=> ?_⟩
 obtain⟨w,env,rfl,sr,er,p⟩:=q
 refine thn (h.run pins s σ w.H _ I ⟨w,env,rfl,sr,er,Post.bind p⟩) fun v s1 ⟨x,H1,I1,r1,q1⟩=> ?_
 obtain⟨w1,d1,rfl,x1,sr1,rp1,p1⟩:=q1
 have lst:∀ {a:Addr} {vs:List V},SqL X.K w1.H a vs→R (Itl G.K a) w1.H→wpAny (model X.prog X.w) X.A (pyIter (.ref a)) (PIE X pins σ tg R) X.xe s1:=fun {a vs} hq q=>by
  obtain⟨its,rv,p,hz⟩:=I1.list hq
  refine wpAny_pyIter_list p.isList ?_
  refine⟨s1.heap.objs.size,[s1.heap.objs.size],_,_,w1.H,rfl,I1.kept (t':=s1.toks) fun b o e=>Heap.get?_push_of_some _ e,turn_list a _,⟨_,Heap.get?_push_size _ rfl,rfl,rfl⟩,fun b hb=> ?_,by rw[hK];exact q⟩
  have e:b=s1.heap.objs.size:=by simpa using hb
  subst e
  exact I1.fpOk (Nat.le_refl _) (I1.hok.fresh (Nat.le_refl _))
 cases d1 with
 |tup l=>
  simp only[Rep] at rp1
  obtain⟨a,vs,rfl,hq,rl⟩:=rp1
  cases r1
  have q:=p1 (Itt G.K a) w1 (.refl _) rfl sr1 (it_tup hq rl)
  have hq':SqT X.K w1.H a vs:=by rw[hK];exact hq.imp (fun z=> .inl z.1) (fun z=>z.1)
  obtain⟨its,rv,p,hz⟩:=I1.tuple hq'
  refine wpAny_pyIter_tuple (show s1.heap.IsTuple a its.toArray from p) ?_
  refine⟨s1.heap.objs.size,[s1.heap.objs.size],_,_,w1.H,rfl,I1.kept (t':=s1.toks) fun b o e=>Heap.get?_push_of_some _ e,turn_tuple a _,⟨_,Heap.get?_push_size _ rfl,rfl,rfl⟩,fun b hb=> ?_,by rw[hK];exact q⟩
  have e:b=s1.heap.objs.size:=by simpa using hb
  subst e
  exact I1.fpOk (Nat.le_refl _) (I1.hok.fresh (Nat.le_refl _))
 |lst l=>
  simp only[Rep] at rp1
  obtain⟨a,vs,rfl,hq,nm,rl⟩:=rp1
  cases r1
  exact lst (vs:=vs) (.inl (.inl hq)) (p1 (Itl G.K a) w1 (.refl _) rfl sr1 (it_list (.inl ⟨hq,nm⟩) rl))
 |scr ns=>
  simp only[Rep] at rp1
  obtain⟨a,rfl,hq⟩:=rp1
  cases r1
  exact lst (vs:=ns.map V.int) (by rw[hK];exact hq.imp (fun z=>z.1) id) (p1 (Itl G.K a) w1 (.refl _) rfl sr1 (it_list (.inr hq) (RepL_ints.mpr rfl)))
 |str z=>
  simp only[Rep] at rp1
  subst rp1
  obtain⟨t,rfl⟩:=r1
  have q:=p1 (Its z) w1 (.refl _) rfl sr1 it_str
  cases ha:z.cps.all (· <128)
  ·exact wpAny_pyIter_wide ha (pi_one (tk:=s1.toks) I1 _ (turn_str _ z t "str_iterator" (.inr rfl)) ⟨_,Heap.get?_push_size _ rfl,rfl,rfl⟩ q)
  ·exact wpAny_pyIter_ascii ha (pi_one (tk:=s1.toks) I1 _ (turn_str _ z t "str_ascii_iterator" (.inl rfl)) ⟨_,Heap.get?_push_size _ rfl,rfl,rfl⟩ q)
 |obj n=>
  simp only[itemsD] at p1
  split at p1
  ·rename_i l hn
   simp only[Rep] at rp1
   obtain⟨a,hm,rfl⟩:=rp1
   obtain⟨o,vs,hq,_,rl⟩:=sr1.obj n _ a hn hm
   cases r1
   have q:=p1 (Itt G.K a) w1 (.refl _) rfl sr1 (it_ptp hq rl)
   have hq':SqT X.K w1.H a vs:= .inl (.inr ⟨o,hq.1⟩)
   obtain⟨its,rv,p,hz⟩:=I1.tuple hq'
   refine wpAny_pyIter_tuple (show s1.heap.IsTuple a its.toArray from p) ?_
   refine⟨s1.heap.objs.size,[s1.heap.objs.size],_,_,w1.H,rfl,I1.kept (t':=s1.toks) fun b o e=>Heap.get?_push_of_some _ e,turn_tuple a _,⟨_,Heap.get?_push_size _ rfl,rfl,rfl⟩,fun b hb=> ?_,by rw[hK];exact q⟩
   have e:b=s1.heap.objs.size:=by simpa using hb
   subst e
   exact I1.fpOk (Nat.le_refl _) (I1.hok.fresh (Nat.le_refl _))
  ·exact p1.elim
 | _=>exact p1.elim
theorem q_range1 {tg a:Expr} {m:AD} {p:Pos} (hg:Gl X "range") (hm:X.mg "range" =none) (ha:PA X [a] (tA G m Wx)) (hs:starEach [a] X.env= [(false,eval a X.env)] :=by rfl):PI X tg (.Call (.Name "range" p) [a] [] pos) (tI G (iArgs range1 m) Wx):=piI (pi_range1 hg hm ha hs) fun σ H R q=>by
 obtain⟨w,env,rfl,sr,er,p⟩:=q
 refine⟨w,env,rfl,sr,er,(Post.bind p).mono (fun x H1 m=> ?_) fun _ _ _ h=>h⟩
 obtain⟨w1,d1,rfl,x1,s1,rp1,p1⟩:=m
 unfold range1 at p1
 split at p1
 ·rename_i j
  split at p1
  ·rename_i hj
   have hj: -(2 ^ 62)≤j∧j<2 ^ 62:=by simpa[okRng] using hj
   simp only[RepL,Rep] at rp1
   obtain⟨v,r,rfl,rfl,rfl⟩:=rp1
   refine⟨j,rfl,hj.1,hj.2,?_⟩
   have q:=p1 (Itr 0 j.toNat) w1 (.refl _) rfl s1 (by have:=it_rng (G:=G) (w:=w1) (lo:=0) (n:=j.toNat);simpa[rangeD] using this)
   exact q
  ·exact p1.elim
 ·exact p1.elim
def sFor (mi:ID) (g:GD) (body:SD):SD:=fun env S=>(mi env S).toS env fun xs S1=>forL g body xs env S1
theorem q_for {tg iter:Expr} {body:List Stmt} {mi:ID} {g:GD} {mb:SD} (hp:PassesOwn (model X.prog X.w) X.A X.env X.xe) (hc:X.calm=true) (hi:PI X tg iter (tI G mi Wx)) (hg:PG X tg (tG G g)) (hb:PSs X body (tS G mb Wx))
 (hs:∀x,foldedSetIterable iter X.env x=pure x:=by intro _;rfl):PS X (.For tg iter body [] pos) (tS G (sFor mi g mb) Wx):=psI (ps_for hp hc hi hg hb hs) fun D σ H q=>by
 obtain⟨w,env,rfl,sr,er,p⟩:=q
 refine⟨w,env,rfl,sr,er,(PostS.ofR (Ra:=fun w' xs (J:It)=>ItOk G w' J xs) er p).mono (fun J H1 m=> ?_) fun _ _ _ h=>h⟩
 obtain⟨w1,xs,rfl,x1,s1,io,p1⟩:=m
 refine⟨fun i m σ H=>∃w env,w.H=H∧SRep G w∧ERep G w env σ ∧WExt w1 w∧i+m=xs.length∧PostS G w (forL g mb (xs.drop i) env w.S) D Wx,⟨xs.length,w1,env,rfl,s1,er.mono x1, .refl _,by omega,by simpa using p1⟩,fun i m σ H hW=> ?_⟩
 obtain⟨w2,env2,rfl,s2,er2,x2,em,p2⟩:=hW
 by_cases hi:i<xs.length
 ·have e:xs[i]? =some xs[i] :=List.getElem?_eq_getElem hi
  rw[List.drop_eq_getElem_cons hi] at p2
  obtain⟨go,yl⟩:=io.go [] w2 (fun a h=>by simp at h) x2 s2 i xs[i] e
  refine .inr ⟨go,fun σ' H'=>∃w env,w.H=H'∧SRep G w∧ERep G w env σ'∧WExt w1 w∧(i+1)+(m-1)=xs.length∧PostS G w (forL g mb (xs.drop (i+1)) env w.S) D Wx,fun σ' H' hN=>⟨m-1,by omega,hN⟩,fun x H' hy=> ?_⟩
  obtain⟨w3,rfl,x3,eS,s3,rp3⟩:=yl x H' hy
  refine⟨w3,env2,xs[i],rfl,s3,er2.mono x3,rp3,?_⟩
  rw[forL] at p2
  rw[eS]
  cases hg2:g xs[i] env2 w2.S with
  |nx env4 S4=>
   rw[hg2] at p2
   intro σ4 w4 x4 e4 s4 er4
   subst e4
   refine⟨w4,env4,rfl,s4,er4,?_⟩
   have x24:WExt w1 w4:=WX'.trans (WX'.trans x2 x3) x4
   have p3:=PostS.shift (WX'.trans x3 x4) p2
   cases hb4:mb env4 w4.S with
   |nx env5 S5=>
    simp only[hb4] at p3
    intro σ5 w5 x5 e5 s5 er5
    subst e5
    exact⟨w5,env5,rfl,s5,er5,WX'.trans x24 x5,by omega,PostS.shift x5 p3⟩
   |ct env5 S5=>
    simp only[hb4] at p3
    intro σ5 w5 x5 e5 s5 er5
    subst e5
    exact⟨w5,env5,rfl,s5,er5,WX'.trans x24 x5,by omega,PostS.shift x5 p3⟩
   |brk env5 S5=>simp only[hb4] at p3;exact p3
   |ret d S5=>simp only[hb4] at p3;exact p3
   |exc e env5 S5=>simp only[hb4] at p3;exact p3
   |bad=>simp only[hb4] at p3;exact p3.elim
  |ret _ _=>rw[hg2] at p2;exact p2.elim
  |brk _ _=>rw[hg2] at p2;exact p2.elim
  |ct _ _=>rw[hg2] at p2;exact p2.elim
  |exc _ _ _=>rw[hg2] at p2;exact p2.elim
  |bad=>rw[hg2] at p2;exact p2.elim
 ·have ei:i=xs.length:=by omega
  subst ei
  refine .inl ⟨io.stop [] w2 (fun a h=>by simp at h) x2 s2,?_⟩
  rw[List.drop_length] at p2
  exact p2 σ w2 (.refl _) rfl s2 er2
theorem q_while {c:Expr} {body:List Stmt} {mc:TD} {mb:SD} (n:Nat) (hp:PassesOwn (model X.prog X.w) X.A X.env X.xe) (hc:PT X c (tT G mc Wx)) (hb:PSs X body (tS G mb Wx)):PS X (.While c body [] pos) (tS G (sWhile mc mb n) Wx):=psI (ps_while hp hc hb) fun D σ H q=>by
 refine⟨fun m σ H=>tS G (sWhile mc mb m) Wx D σ H,⟨n,q⟩,fun m σ H hW=> ?_⟩
 obtain⟨w,env,rfl,sr,er,p⟩:=hW
 cases m with
 |zero=>exact p.elim
 |succ m=>
  refine⟨w,env,rfl,sr,er,(PostS.ofR (Ra:=fun _ (a b:Bool)=>a=b) er p).mono (fun x H1 m=> ?_) fun _ _ _ h=>h⟩
  obtain⟨w1,d1,rfl,x1,s1,rp1,p1⟩:=m
  subst rp1
  cases d1 with
  |false=>exact iteF (p1 σ w1 (.refl _) rfl s1 (er.mono x1))
  |true=>
   refine iteT ⟨fun σ' H'=>tS G (sWhile mc mb m) Wx D σ' H',fun σ' H' h=>⟨m,by omega,h⟩,w1,env,rfl,s1,er.mono x1,?_⟩
   cases hb4:mb env w1.S with
   |nx env5 S5=>
    simp only[hb4] at p1
    intro σ5 w5 x5 e5 s5 er5
    subst e5
    exact⟨w5,env5,rfl,s5,er5,PostS.shift x5 p1⟩
   |ct env5 S5=>
    simp only[hb4] at p1
    intro σ5 w5 x5 e5 s5 er5
    subst e5
    exact⟨w5,env5,rfl,s5,er5,PostS.shift x5 p1⟩
   |brk env5 S5=>simp only[hb4] at p1;exact p1
   |ret d S5=>simp only[hb4] at p1;exact p1
   |exc e env5 S5=>simp only[hb4] at p1;exact p1
   |bad=>simp only[hb4] at p1;exact p1.elim
end
end L3
namespace L3
open PySem PySem.Spec PyProof.Rows L2
def R.nox {α :Type} (r:R α):R α :=match r with
 | .ok a S=> .ok a S
 | _=> .bad
def wipeD (env:EnvD):List Nat→EnvD
 | [] =>env
 |v::vs=>(wipeD env vs).set v none
def tYesD:TD:=fun _ S=> .ok true S
def lcL (g:GD) (tt:TD) (te:ED) (env:EnvD):List D→Store→R (List D)
 | [],S=> .ok [] S
 |x::xs,S=>match g x env S with
  | .nx env1 S1=>(tt env1 S1).nox.bind fun k S2=>match k with
    |true=>(te env1 S2).nox.bind fun y S3=>(lcL g tt te env xs S3).bind fun ys S4=> .ok (y::ys) S4
    |false=>lcL g tt te env xs S2
  | _=> .bad
def eLc (mi:ID) (vs:List Nat) (g:GD) (tt:TD) (te:ED):ED:=fun env S=>(mi env S).bind fun xs S1=>
 if xs.length≤sizeLine then(lcL g tt te (wipeD env vs) xs S1).bind fun ys S2=> .ok (.lst ys) S2 else .bad
theorem R.bind_assoc {α β γ :Type} (r:R α) (f: α →Store→R β) (g: β →Store→R γ):(r.bind f).bind g=r.bind fun a S=>(f a S).bind g:=by
 cases r<;>rfl
theorem R.bind_ok {α :Type} (r:R α):(r.bind fun a S=> .ok a S)=r:=by cases r<;>rfl
section
variable {G:GC} {X:Cx} {Wx:WX} {pos:Pos}
theorem ERep.unset {w:Wd} {env:EnvD} {σ :L2.St} (i:Nat) (h:ERep G w env σ):ERep G w (env.set i none) (σ.set i none):=by
 refine⟨by simp[h.len],fun j d' e=> ?_⟩
 by_cases hj:i=j
 ·subst hj
  by_cases hi:i<env.length
  ·rw[List.getElem?_set_self hi] at e;cases e
  ·rw[List.getElem?_eq_none (by simpa using hi)] at e;cases e
 ·rw[List.getElem?_set_ne hj] at e ⊢
  exact h.at' j d' e
theorem ERep.wipe {w:Wd} {env:EnvD} {σ :L2.St} (h:ERep G w env σ):∀vs:List Nat,ERep G w (wipeD env vs) (L2.wipe σ vs)
 | [] =>h
 |v::vs=>(ERep.wipe h vs).unset v
theorem wipe_set {σ :L2.St} {i:Nat} {x:Option V} :∀ {vs:List Nat},i ∈ vs→L2.wipe (σ.set i x) vs=L2.wipe σ vs
 | [],h=>by simp at h
 |v::vs,h=>by
  show(L2.wipe (σ.set i x) vs).set v none=(L2.wipe σ vs).set v none
  by_cases hi:i ∈ vs
  ·rw[wipe_set hi]
  ·have hv:i=v:=by simpa[hi] using h
   subst hv
   have:∀ {us:List Nat} {τ :L2.St},i ∉ us→L2.wipe (τ.set i x) us=(L2.wipe τ us).set i x:=by
    intro us
    induction us with
    |nil=>intro τ _;rfl
    |cons u us ih=>
     intro τ hu
     have h1:i≠u:=fun e=>hu (by simp[e])
     have h2:i ∉ us:=fun e=>hu (by simp[e])
     show(L2.wipe (τ.set i x) us).set u none=((L2.wipe τ us).set u none).set i x
     rw[ih h2,List.set_comm _ _ h1]
   rw[this hi,List.set_set]
theorem wipe_sub {σ :L2.St} {vs:List Nat} :∀ {us:List Nat},(∀ i ∈ us,i ∈ vs)→L2.wipe (L2.wipe σ us) vs=L2.wipe σ vs
 | [],_=>rfl
 |u::us,h=>by
  show L2.wipe ((L2.wipe σ us).set u none) vs=_
  rw[wipe_set (h u (by simp)),wipe_sub fun i hi=>h i (by simp[hi])]
mutual
theorem Rep.untmp {w:Wd} {t:List Addr} (ht:∀a ∈ t,a ∈ w.tmp):∀(d:D) (v:V),Rep G w d v→Rep G { w with tmp:=t } d v
 | .non,v,h=>by simpa only[Rep] using h
 | .bl b,v,h=>by simpa only[Rep] using h
 | .int i,v,h=>by simpa only[Rep] using h
 | .str s,v,h=>by simpa only[Rep] using h
 | .tup l,v,h=>by
   simp only[Rep] at h ⊢
   obtain⟨a,vs,e,h1,h2⟩:=h
   exact⟨a,vs,e,h1.imp (fun z=>⟨z.1,fun m=>z.2 (m.imp id (ht a))⟩) id,RepL.untmp ht l vs h2⟩
 | .lst l,v,h=>by
   simp only[Rep] at h ⊢
   obtain⟨a,vs,e,h1,nm,h2⟩:=h
   exact⟨a,vs,e,h1,fun m=>nm (m.imp id (ht a)),RepL.untmp ht l vs h2⟩
 | .dic ks l,v,h=>by
   simp only[Rep] at h ⊢
   obtain⟨a,vs,e,h1,nm,hl,h2⟩:=h
   exact⟨a,vs,e,h1,fun m=>nm (m.imp id (ht a)),hl,RepL.untmp ht l vs h2⟩
 | .obj n,v,h=>by simpa only[Rep] using h
 | .glb y,v,h=>by simpa only[Rep] using h
 | .wtp _,v,h=>by simpa only[Rep] using h
 | .ty n,v,h=>by simpa only[Rep] using h
 | .scr ns,v,h=>by
   simp only[Rep] at h ⊢
   obtain⟨a,e,h1⟩:=h
   exact⟨a,e,h1.imp (fun z=>⟨z.1,fun m=>z.2 (m.imp id (ht a))⟩) id⟩
 | .kd ks l,v,h=>by
   simp only[Rep] at h ⊢
   obtain⟨a,es,n,vs,us,e,h1,h2,h3,h4,ke,h5⟩:=h
   exact⟨a,es,n,vs,us,e,h1,h2,h3,h4,ke,RepL.untmp ht l vs h5⟩
 | .lam t l,v,h=>by
   simp only[Rep] at h ⊢
   exact⟨h.1,⟨h.2.1.1,fun m=>h.2.1.2 (m.imp id (ht t.c))⟩,RepL.untmp ht l t.vs h.2.2⟩
 | .xcp c ks l,v,h=>by
   simp only[Rep] at h ⊢
   obtain⟨a,C,dx,vs,e,h1,⟨h2,nm⟩,h3,h4,h5⟩:=h
   exact⟨a,C,dx,vs,e,h1,⟨h2,fun m=>nm (m.imp id (ht a))⟩,h3,h4.imp id fun⟨d,e1,e2,nd⟩=>⟨d,e1,e2,fun m=>nd (m.imp id (ht d))⟩,RepL.untmp ht l vs h5⟩
theorem RepL.untmp {w:Wd} {t:List Addr} (ht:∀a ∈ t,a ∈ w.tmp):∀(d:List D) (v:List V),RepL G w d v→RepL G { w with tmp:=t } d v
 | [],v,h=>by simpa only[RepL] using h
 |d::ds,v,h=>by
  simp only[RepL] at h ⊢
  obtain⟨y,r,e,h1,h2⟩:=h
  exact⟨y,r,e,Rep.untmp ht d y h1,RepL.untmp ht ds r h2⟩
end
theorem RepKV.untmp {κ :Type} {w:Wd} {t:List Addr} (ht:∀a ∈ t,a ∈ w.tmp):∀(d:List (κ × D)) (v:List (κ × V)),RepKV G w d v→RepKV G { w with tmp:=t } d v
 | [],v,h=>h
 |d::ds,v,h=>by
  obtain⟨y,r,e,h1,h2⟩:=h
  exact⟨y,r,e,Rep.untmp ht _ y h1,RepKV.untmp ht ds r h2⟩
theorem RepN.untmp {w:Wd} {t:List Addr} (ht:∀a ∈ t,a ∈ w.tmp):∀(d:List (NestedKey × D)) (v:List NRow),RepN G w d v→RepN G { w with tmp:=t } d v
 | [],v,h=>h
 |d::ds,v,h=>by
  obtain⟨b,u,y,e,h1,h2,h3,h4⟩:=h
  exact⟨b,u,y,e,Rep.untmp ht _ _ h1,h2,Rep.untmp ht _ u h3,RepN.untmp ht ds y h4⟩
theorem ORep.untmp {w:Wd} {t:List Addr} (ht:∀a ∈ t,a ∈ w.tmp) {a:Addr} :∀ {ob:O},ORep G w a ob→ORep G { w with tmp:=t } a ob
 | .lst _,⟨vs,h1,h2⟩=>⟨vs,h1,RepL.untmp ht _ _ h2⟩
 | .dK _,⟨vs,h1,h2⟩=>⟨vs,h1,RepKV.untmp ht _ _ h2⟩
 | .dT _,⟨vs,h1,h2⟩=>⟨vs,h1,RepKV.untmp ht _ _ h2⟩
 | .dN _,⟨vs,h1,h2⟩=>⟨vs,h1,RepN.untmp ht _ _ h2⟩
 | .ins _ _,⟨C,dx,vs,h1,h2,h3⟩=>⟨C,dx,vs,h1,RepKV.untmp ht _ _ h2,h3⟩
 | .ptp _,⟨o,vs,⟨h1,nm⟩,h2,h3⟩=>⟨o,vs,⟨h1,fun m=>nm (m.imp id (ht a))⟩,h2,RepL.untmp ht _ _ h3⟩
 | .dead,_=>trivial
 | .tab _ _,⟨h0,ps,h1,h2,h3⟩=>⟨h0,ps,h1,h2,fun pos cv hc=>let⟨c,e1,e2⟩:=h3 pos cv hc;⟨c,e1,e2.1,fun m=>e2.2 (m.imp id (ht c))⟩⟩
theorem SRep.untmp {w:Wd} {t:List Addr} (ht:∀a ∈ t,a ∈ w.tmp) (s:SRep G w):SRep G { w with tmp:=t } :=
 ⟨s.len,s.inj,fun n ob a h1 h2=>ORep.untmp ht (s.obj n ob a h1 h2),fun a ha=>s.tm a (ht a ha)⟩
def tGW (G:GC) (g:GD) (vs:List Nat):TG:=fun v σ H Q=>∃w env d,w.H=H∧SRep G w∧ERep G w env σ ∧Rep G w d v∧
 match g d env w.S with
 | .nx env' S'=>∀ σ' w',WExt w w'→w'.S=S'→SRep G w'→ERep G w' env' σ'→L2.wipe σ' vs=L2.wipe σ vs→Q σ' w'.H
 | _=>False
theorem q_gnameW {e:Expr} {i:Nat} {vs:List Nat} (h:PG X e (L2.gName i)) (hv:i ∈ vs):PG X e (tGW G (gName i) vs):=pgI h fun v σ H Q q=>by
 obtain⟨w,env,d,rfl,sr,er,rp,p⟩:=q
 exact p _ w (.refl w) rfl sr (er.set i rp) (wipe_set hv)
theorem imp_lc {mi:ID} {vs:List Nat} {g:GD} {tt:TD} {te:ED} :∀ σ H Q,tE G (eLc mi vs g tt te) Wx σ H Q→tLc (tI G mi Wx) (tGW G g vs) (tT G tt WF) (tE G te WF) vs σ H Q:=by
 intro σ H Q q
 obtain⟨w,env,rfl,sr,er,p⟩:=q
 refine⟨w,env,rfl,sr,er,(Post.bind (Ra:=fun w' xs (J:It)=>ItOk G w' J xs) p).mono (fun J H1 m=> ?_) fun _ _ _ h=>h⟩
 obtain⟨w1,xs,rfl,x1,s1,io,p1⟩:=m
 intro L hL
 have hfr:∀a ∈ [L],w1.H a=none:=fun a h=>by have:a=L:=by simpa using h
                                            rw[this];exact hL
 by_cases hz:xs.length≤sizeLine
 ·rw[if_pos hz] at p1
  have er1:=(er.mono x1).wipe vs
  have h0:WX' [L] w1 ⟨w1.mu,w1.S,upd w1.H L (.lst []),L::w1.tmp⟩:=
   ⟨fun _ _ h=>h,fun a o h nm ha=>⟨(upd_ne (by simpa using ha)).trans h,nm⟩,fun a h=>by
     rcases List.mem_cons.mp h with e|h
     ·exact .inr (by simp[e])
     ·exact .inl h,fun a h=>List.mem_cons_of_mem _ h⟩
  have nL: ¬MutS w1 L:=fun m=>by obtain⟨u,e⟩:=MutS.there s1 m;rw[hL] at e;cases e
  have sW:SRep G ⟨w1.mu,w1.S,upd w1.H L (.lst []),L::w1.tmp⟩:=by
   refine⟨s1.len,s1.inj,fun n ob a h1 h2=> ?_,fun a ha=> ?_⟩
   ·have h:=s1.obj n ob a h1 h2
    refine h.keep h0 (fr_tok hfr) fun lv=> ?_
    obtain⟨u,e⟩:=h.there lv
    exact upd_ne (ne_of_none e hL)
   ·rcases List.mem_cons.mp ha with e|ha
    ·subst e;exact⟨⟨⟨_,by first|assumption|(intro _ h;cases h)⟩,upd_same⟩,nL⟩
    ·obtain⟨⟨u,e⟩,nm⟩:=s1.tm a ha
     exact⟨⟨u,(upd_ne (ne_of_none e hL)).trans e⟩,nm⟩
  refine⟨fun i m H=>∃w3 acc us,w3.H=H∧SRep G w3∧WX' [L] w1 w3∧L ∈ w3.tmp∧w3.H L=some (.lst us)∧RepL G w3 acc us∧acc.length≤i∧i+m=xs.length∧
   (lcL g tt te (wipeD env vs) xs w1.S)=(lcL g tt te (wipeD env vs) (xs.drop i) w3.S).bind fun ys S2=> .ok (acc++ys) S2,
   ⟨xs.length,_,[],[],rfl,sW,h0,by simp,upd_same,by simp[RepL],Nat.le_refl _,by omega,?_⟩,fun i m H hW=> ?_⟩
  ·simp only[List.drop_zero,List.nil_append,R.bind_ok]
  obtain⟨w3,acc,us,rfl,s3,x3,tm3,hL3,ra3,hlen,em,eq⟩:=hW
  rw[eq] at p1
  by_cases hi:i<xs.length
  ·have e:xs[i]? =some xs[i] :=List.getElem?_eq_getElem hi
   obtain⟨go,yl⟩:=io.go [L] w3 (fr_tok hfr) x3 s3 i xs[i] e
   refine .inr ⟨go,fun H'=>∃w5 acc us,w5.H=H'∧SRep G w5∧WX' [L] w1 w5∧L ∈ w5.tmp∧w5.H L=some (.lst us)∧RepL G w5 acc us∧acc.length≤i+1∧(i+1)+(m-1)=xs.length∧
    (lcL g tt te (wipeD env vs) xs w1.S)=(lcL g tt te (wipeD env vs) (xs.drop (i+1)) w5.S).bind fun ys S2=> .ok (acc++ys) S2,fun H' hN=>⟨m-1,by omega,hN⟩,fun x H' hy=> ?_⟩
   obtain⟨w4,rfl,x4,eS4,s4,rp4⟩:=yl x H' hy
   have x14:WX' [L] w1 w4:=WX'.trans x3 (WX'.wide x4)
   refine⟨w4,wipeD env vs,xs[i],rfl,s4,er1.monoT x14 (fr_tok hfr),rp4,?_⟩
   rw[List.drop_eq_getElem_cons hi,lcL] at eq p1
   rw[eS4]
   cases hg:g xs[i] (wipeD env vs) w3.S with
   |nx env5 S5=>
    rw[hg] at eq p1
    simp only at eq p1
    intro σ5 w5 x5 e5 s5 er5 hw
    subst e5
    refine⟨hw.trans (wipe_sub fun _ h=>h),w5,env5,rfl,s5,er5,?_⟩
    cases ht:tt env5 w5.S with
    |ok k S6=>
     rw[ht] at eq p1
     simp only[R.nox,R.bind] at eq p1
     intro b w6 x6 e6 s6 hb
     subst hb e6
     have x46:WExt w4 w6:=WX'.trans x5 x6
     have x16:WX' [L] w1 w6:=WX'.trans x14 (WX'.wide x46)
     have hL6:w6.H L=some (.lst us):=(x46.keep L _ ((x4.keep L _ hL3 ((s3.tm L tm3).2) (by simp)).1) ((s4.tm L (x4.tmp' L tm3)).2) (by simp)).1
     have tm6:L ∈ w6.tmp:=x46.tmp' L (x4.tmp' L tm3)
     have ra6:RepL G w6 acc us:=RepL.mono (WX'.trans x4 x46) _ _ ra3
     cases k with
     |false=>
      refine iteF ⟨w6,acc,us,rfl,s6,x16,tm6,hL6,ra6,by omega,by omega,?_⟩
      simpa using eq
     |true=>
      refine iteT ⟨w6,env5,rfl,s6,er5.mono x6,?_⟩
      simp only at eq p1
      cases hte:te env5 w6.S with
      |ok y S7=>
       rw[hte] at eq p1
       simp only[R.nox,R.bind] at eq p1
       intro v w7 x7 e7 s7 r7
       subst e7
       have hL7:w7.H L=some (.lst us):=(x7.keep L _ hL6 ((s6.tm L tm6).2) (by simp)).1
       have tm7:L ∈ w7.tmp:=x7.tmp' L tm6
       have nm7: ¬MutS w7 L:=(s7.tm L tm7).2
       have lu:us.length=acc.length:=ra3.length
       refine⟨us,hL7,by omega,?_⟩
       have x8:WX' [L] w7 (w7.put L (.lst (us++ [v]))):=⟨fun _ _ h=>h,fun a o h nm ha=>⟨(upd_ne (by simpa using ha)).trans h,nm⟩,fun a h=> .inl h,fun a h=>h⟩
       have t8:Tok [L] w7:=fun a h=> .inl (by have:a=L:=by simpa using h
                                              rw[this];exact tm7)
       have s8:SRep G (w7.put L (.lst (us++ [v]))):=by
        refine⟨s7.len,s7.inj,fun n ob a h1 h2=> ?_,fun a ha=> ?_⟩
        ·have h:=s7.obj n ob a h1 h2
         exact h.keep x8 t8 fun lv=>upd_ne fun e=>nm7 (by subst e;exact⟨n,ob,h1,lv,h2⟩)
        ·obtain⟨⟨u,e⟩,nm⟩:=s7.tm a ha
         by_cases ea:a=L
         ·subst ea;exact⟨⟨⟨_,by first|assumption|(intro _ h;cases h)⟩,upd_same⟩,nm⟩
         ·exact⟨⟨u,(upd_ne ea).trans e⟩,nm⟩
       refine⟨_,acc++ [y],us++ [v],rfl,s8,WX'.trans (WX'.trans x16 (WX'.wide x7)) x8,tm7,upd_same,?_,by simp;omega,by omega,?_⟩
       ·exact(RepL.monoT x8 t8 _ _ (RepL.mono x7 _ _ ra6)).append (RepL.one (Rep.monoT x8 t8 _ _ r7))
       ·rw[eq]
        show _=(lcL g tt te (wipeD env vs) (List.drop (i+1) xs) w7.S).bind _
        cases lcL g tt te (wipeD env vs) (List.drop (i+1) xs) w7.S<;>simp[R.bind]
      |exc ee S7=>rw[hte] at p1;exact p1.elim
      |bad=>rw[hte] at p1;exact p1.elim
    |exc ee S6=>rw[ht] at p1;exact p1.elim
    |bad=>rw[ht] at p1;exact p1.elim
   |ret _ _=>rw[hg] at p1;exact p1.elim
   |brk _ _=>rw[hg] at p1;exact p1.elim
   |ct _ _=>rw[hg] at p1;exact p1.elim
   |exc _ _ _=>rw[hg] at p1;exact p1.elim
   |bad=>rw[hg] at p1;exact p1.elim
  ·have ei:i=xs.length:=by omega
   subst ei
   refine .inl ⟨io.stop [L] w3 (fr_tok hfr) x3 s3,?_⟩
   rw[List.drop_length] at p1
   have we:WExt w1 { w3 with tmp:=w1.tmp } :=⟨x3.mu,fun a o h nm _=>x3.keep a o h nm (by
    intro ha
    have:a=L:=by simpa using ha
    rw[this,hL] at h;cases h),fun a h=> .inl h,fun a h=>h⟩
   have tinc:∀a,a ∈ w1.tmp→a ∈ w3.tmp:=x3.tmp'
   have se:SRep G { w3 with tmp:=w1.tmp } :=s3.untmp tinc
   have nmL: ¬Mut { w3 with tmp:=w1.tmp } L:=fun m=>m.elim (s3.tm L tm3).2 fun z=>by
    obtain⟨⟨u,e⟩,_⟩:=s1.tm L z
    rw[hL] at e;cases e
   have hr:Rep G { w3 with tmp:=w1.tmp } (.lst (acc++ [])) (.ref L):=by
    simp only[Rep,List.append_nil]
    exact⟨L,us,rfl,hL3,nmL,RepL.untmp tinc _ _ ra3⟩
   exact p1 (.ref L) { w3 with tmp:=w1.tmp } we rfl se hr
 ·rw[if_neg hz] at p1;exact p1.elim
theorem q_lc {elt tg iter:Expr} {ifs:List Expr} {scope:Scope} {own:List (Str × Nat)} {mi:ID} {g:GD} {mt:TD} {me:ED} (hc:X.calm=true) (hN:X.N.Nodup) (hi:PI X tg iter (tI G mi Wx)) (ok:BlkOk X.N X.env.scope scope own)
 (hg:∀(s:Shared) (H:Hp) (C:Addr) (cl:List (Str × Addr)) (fp:List Addr),PG (X.blk s H scope (compEnvC scope cl C X.env) fp) tg (tGW G g (own.map (·.2))))
 (ht:∀(s:Shared) (H:Hp) (C:Addr) (cl:List (Str × Addr)) (fp:List Addr),PTs (X.blk s H scope (compEnvC scope cl C X.env) fp) ifs (tT G mt WF))
 (he:∀(s:Shared) (H:Hp) (C:Addr) (cl:List (Str × Addr)) (fp:List Addr),PE (X.blk s H scope (compEnvC scope cl C X.env) fp) elt (tE G me WF)) (hs:∀x,foldedSetIterable iter X.env x=pure x:=by intro _;rfl):
 PE X (.ListComp elt [⟨tg,iter,ifs,0⟩] scope pos) (tE G (eLc mi (own.map (·.2)) g mt me) Wx):=peI (pe_lc hc hN hi ok hg ht he hs) imp_lc
theorem q_tnil:PTs X [] (tT G tYesD WF):=⟨fun pins s σ H Q I q=>by
 obtain⟨w,env,rfl,sr,er,p⟩:=q
 exact pts_nil.run pins s σ w.H Q I (Post.ret (Ra:=fun _ (a b:Bool)=>a=b) sr rfl p)⟩
theorem q_tone {c:Expr} {m:TD} (h:PT X c (tT G m WF)):PTs X [c] (tT G m WF):=pts_one h
end
end L3
namespace L3
open PySem PySem.Spec PyProof.Rows L2
structure RoomG (k:Nat) (A:Around):Prop where
 rm:Room k A
 gd:A.guards=some []
theorem RoomG.deeper {k:Nat} {A:Around} (r:RoomG (k+1) A) (env:Env):RoomG k (A.deeper env):=⟨r.rm.deeper env,r.gd⟩
theorem RoomG.units {k:Nat} {A:Around} (r:RoomG k A):A.units+64<cLine:=r.rm.units
theorem RoomG.mono {j k:Nat} {A:Around} (r:RoomG k A) (h:j≤k):RoomG j A:=⟨r.rm.mono h,r.gd⟩
structure FnG (P:Program) (w:World) (K:PySem.W.Frag) (mg:Str→Option Value) (base:Heap) (k:Nat) (f:Addr) (fd:FuncData) (ps:List Str) (sp:Sp):Prop where
 len:∀vs H Q E,sp vs H Q E→vs.length=ps.length
 go:∀(A:Around) (outer:List Env) (s:Shared) (H:Hp) (args:Args) (us:List Value) (vs:List V) (Q:VK) (E:XK),
  RoomG k A→Env0 P w K mg base A outer s H→BindsTo s fd args (ps.zip us)→Vals vs us→sp vs H Q E→codeAny (model P w) A (.call (.ref f) args) (CR (L2.CX P w) outer P w H s Q E) s
theorem FnG.imp {P:Program} {w:World} {K:PySem.W.Frag} {mg:Str→Option Value} {base:Heap} {k:Nat} {f:Addr} {fd:FuncData} {ps:List Str} {sp sp':Sp} (F:FnG P w K mg base k f fd ps sp) (i:∀vs H Q E,sp' vs H Q E→sp vs H Q E):
 FnG P w K mg base k f fd ps sp':=
 ⟨fun _ _ _ _ h=>F.len _ _ _ _ (i _ _ _ _ h),fun A outer s H args us vs Q E r e b v h=>F.go A outer s H args us vs Q E r e b v (i _ _ _ _ h)⟩
theorem FnG.of_def {P:Program} {w:World} {K:PySem.W.Frag} {mg:Str→Option Value} {base:Heap} {x qual:Str} {params:Arguments} {body:List Stmt} {scope:Scope} {dvs:List V} {kws:List (Str × V)} {f:Addr} {fd:FuncData} {N ps:List Str} {k:Nat} {sp:Sp}
 (F:FunD K x qual params body scope dvs kws f fd) (Sc:FnScope N ps scope) (len:∀vs H Q E,sp vs H Q E→vs.length=ps.length)
 (inner:∀(cdv:Value) (A:Around) (outer:List Env) (s:Shared) (H:Hp) (vs:List V) (Q:VK) (E:XK),RoomG k (A.deeper (envOfC qual scope s.heap.objs.size f cdv))→sp vs H Q E→
   ∃t:TS,PSs (cxOf (L2.CX P w) P w K mg base N qual scope f cdv A outer s H E) body t∧t { nx:=fun _ H'=>Q .non H',rt:=Q } (start N vs) H):FnG P w K mg base (k+1) f fd ps sp:=by
 obtain⟨_,_,_,_,_,_,_,cdv,_,_,rfl,place,code,_,_⟩:=F.ex
 refine⟨len,fun A outer s H args us vs Q E room e0 bound rel want=> ?_⟩
 have size:=len _ _ _ _ want
 have inK:K.In s.heap:=e0.mod.kin.keeps fun b o h=>(e0.bs b o h).1
 refine codeAny_call_function room.rm.depth (inK _ _ place) rfl Sc.co Sc.gen rfl (PySem.W.codeRec_of inK code) (bound _ _ _ _ ?_)
 refine wpAny_newFunctionEnv_cells Sc.kind (fun y hy=> ?_) fun env made s2 entered=> ?_
 ·obtain⟨n,v⟩:=y
  refine(Sc.par n (List.of_mem_zip hy).1).imp id fun c=>⟨c,PySem.W.cellsFrom_some _ _ _ (.inl c)⟩
 subst made
 have nl:s.heap.NoLimit:=e0.mod.nolimit.keeps fun b o h=>(e0.bs b o h).1
 refine⟨nl.keeps entered.toInCall.keep,codeAny_func ?_⟩
 obtain⟨t,runs,holds⟩:=inner cdv A outer s H vs Q E (room.deeper _) want
 have I0:Inv (cxOf (L2.CX P w) P w K mg base N qual scope f cdv A outer s H E) [] (start N vs) H s2:=inv_start Sc room.rm.hd e0 size rel entered
 refine wpAny_mono (runs.run [] s2 (start N vs) H _ I0 holds) (fun fl s' done=> ?_) fun _ _ z=>z
 have told:∀ {σ':L2.St} {H':Hp} {v:V} {u:Value},Inv (cxOf (L2.CX P w) P w K mg base N qual scope f cdv A outer s H E) [] σ' H' s'→RelV v u→Q v H'→CE outer P w H s Q u s':=fun {_ H' v _} J q q'=>⟨v,H',J.os,J.bare,J.base,J.hok,q,q'⟩
 match fl,done with
 | .ret u,⟨v,σ',H',J,q,q'⟩=>exact told J q q'
 | .next,⟨σ',H',J,q'⟩=>exact told (v:=V.non) (u:=Value.none) J rfl q'
 | .brk,⟨_,_,_,z⟩=>exact False.elim z
 | .cont,⟨_,_,_,z⟩=>exact False.elim z
section
variable {X:Cx} {k:Nat} {f:Addr} {fd:FuncData} {ps:List Str} {sp:Sp} {dvs:List V} {ds:List Value} {E:L2.St→XK}
theorem FnG.called {pins:List (Addr × Obj)} {σ :L2.St} {H:Hp} {s:Shared} {Q:VK} {args:Args} {zs:List Value} {ys:List V} (F:FnG X.prog X.w X.K X.mg X.base k f fd ps sp) (room:RoomG k X.A) (hx:PassesAt (L2.CX X.prog X.w) X σ (E σ)) (I:Inv X pins σ H s)
 (bound:BindsTo s fd args (ps.zip zs)) (rel:Vals ys zs) (want:sp ys H Q (E σ)):codeAny (model X.prog X.w) X.A (.call (.ref f) args) (fun r s'=>match r with
   | .ok (.ret u)=>EP X pins σ Q u s'
   | .error e=>X.xe e s'
   | _=>False) s:=by
 refine codeAny_mono (F.go X.A X.stack s H args zs ys Q (E σ) room I.env0 bound rel want) fun r s' q=> ?_
 match r,q with
 | .error e,q=>exact hx pins H s e s' I q
 | .ok (.ret u),q=>exact I.after q
theorem FnG.byPlace {pins:List (Addr × Obj)} {σ :L2.St} {H:Hp} {s:Shared} {Q:VK} {us:List Value} {vs:List V} (F:FnG X.prog X.w X.K X.mg X.base k f fd ps sp) (room:RoomG k X.A) (bs:Binds X.K fd ps ds) (dv:Vals dvs ds) (hx:PassesAt (L2.CX X.prog X.w) X σ (E σ))
 (I:Inv X pins σ H s) (rel:Vals vs us) (want:sp (vs++dvs) H Q (E σ)):wpAny (model X.prog X.w) X.A (call (.ref f) us) (EP X pins σ Q) X.xe s:=by
 have all:=rel.append dv
 refine wpAny_call (codeAny_mono (F.called room hx I (bs s us I.kIn (by rw[← all.length];exact F.len _ _ _ _ want)) all want) fun r s' q=> ?_)
 match r,q with
 | .error _,q=>exact q
 | .ok (.ret _),q=>exact q
end
def spOf (G:GC) (F:FN):Sp:=fun vs H Q E=>∃w ds,w.H=H∧SRep G w∧RepL G w ds vs∧Post G w (F ds w.S) (Rep G) Q E
abbrev WE0 (E:XK):WX:=fun C d _ H=>E C d H
def callK (F:FN) (dds:List D):FN:=fun xs S=>F (xs++dds) S
section
variable {G:GC} {X:Cx} {Wx:WX} {pos p:Pos} {k:Nat} {f:Addr} {fd:FuncData} {ps:List Str} {F:FN} {x:Str} {e:Expr} {es:List Expr} {dvs:List V} {ds:List Value} {dds:List D} {m:AD}
theorem imp_call (hdd:∀w,RepL G w dds dvs):∀ σ H Q,tE G (eN (callK F dds) m) Wx σ H Q→tCallSD (spOf G F) dvs (WE Wx) (tA G m Wx) σ H Q:=by
 intro σ H Q q
 obtain⟨w,env,rfl,sr,er,p⟩:=q
 refine⟨w,env,rfl,sr,er,(Post.bind p).mono (fun x H1 m=> ?_) fun _ _ _ h=>h⟩
 obtain⟨w1,d1,rfl,x1,s1,rp1,p1⟩:=m
 exact⟨w1,d1++dds,rfl,s1,rp1.append (hdd w1),p1⟩
theorem q_call (hF:FnG X.prog X.w X.K X.mg X.base k f fd ps (spOf G F)) (hr:RoomG k X.A) (hg:Gl X x) (hm:X.mg x=some (.ref f)) (hk:PySem.W.keepIn X.K (.ref f)=true) (hb:Binds X.K fd ps ds) (hd:Vals dvs ds) (hdd:∀w,RepL G w dds dvs) (tk:Takes X Wx)
 (ha:PA X (e::es) (tA G m Wx)) (hdb:(x==("__debug__" :Str))=false:=by decide) (he:starEach (e::es) X.env=(false,eval e X.env)::starEach es X.env:=by rfl) (hpl:(backTo pos (starEach es X.env)).any (·.1)=false:=by rfl):
 PE X (.Call (.Name x p) (e::es) [] pos) (tE G (eN (callK F dds) m) Wx):=
 peI (t:=tCallSD (spOf G F) dvs (WE Wx) (tA G m Wx)) ⟨fun pins s σ H Q I h=>wpAny_Call_Name_kw (ld_glob I hg hm (PySem.W.callWith_K (h₀ :=X.base) I.ok.mod.kin hk
  (thn (ha.run pos pins s σ H _ I h) fun us s1 ⟨vs,H1,I1,r,q⟩=>⟨I1.kIn,FnG.byPlace (E:=WE Wx) hF hr hb hd (passAt tk σ) I1 r q⟩) he hpl) hdb)⟩ (imp_call hdd)
end
section
variable {P:Program} {w:World} {G:GC} {base:Heap} {x qual:Str} {params:Arguments} {body:List Stmt} {scope:Scope} {dvs:List V} {kws:List (Str × V)} {f:Addr} {fd:FuncData} {k n:Nat} {N ps:List Str} {m:SD}
theorem len_spOf {vs:List V} {H:Hp} {Q:VK} {E:XK} {F:FN} {n:Nat} (ar:∀ds S,ds.length≠n→F ds S= .bad) (h:spOf G F vs H Q E):vs.length=n:=by
 obtain⟨w,ds,rfl,sr,rp,p⟩:=h
 rw[rp.length]
 by_cases e:ds.length=n
 ·exact e
 ·rw[ar ds w.S e] at p;exact p.elim
theorem run_ar:∀(ds:List D) (S:Store),ds.length≠n→run n k m ds S= .bad:=fun ds S h=>by unfold run;rw[if_neg h]
theorem ERep.start {wd:Wd} {ds:List D} {vs:List V} (h:RepL G wd ds vs):ERep G wd (ds.map some++List.replicate (n-ds.length) none) (vs.map some++List.replicate (n-vs.length) none):=by
 have hl:=h.length
 refine⟨by simp[hl],fun i d e=> ?_⟩
 by_cases hi:i<ds.length
 ·rw[List.getElem?_append_left (by simpa using hi),List.getElem?_map] at e
  cases q:ds[i]? with
  |none=>rw[q] at e;cases e
  |some d'=>
   rw[q] at e
   cases e
   obtain⟨v,h1,h2⟩:=h.get q
   refine⟨v,?_,h2⟩
   rw[List.getElem?_append_left (by simp[hl];exact hi),List.getElem?_map,h1]
   rfl
 ·rw[List.getElem?_append_right (by simpa using hi)] at e
  have:=(List.getElem?_eq_some_iff.mp e).2
  simp at this
theorem fn_ok (F:FunD G.K x qual params body scope dvs kws f fd) (S:FnScope N ps scope)
 (hb:∀(cdv:Value) (A:Around) (outer:List Env) (s:Shared) (H:Hp) (E:XK),RoomG k (A.deeper (envOfC qual scope s.heap.objs.size f cdv))→
   PSs (cxOf (L2.CX P w) P w G.K G.mg base N qual scope f cdv A outer s H E) body (tS G m (WE0 E))):
 FnG P w G.K G.mg base (k+1) f fd ps (spOf G (run ps.length N.length m)):=by
 refine FnG.of_def F S (fun vs H Q E h=>len_spOf run_ar h) fun cdv A outer s H vs Q E hr h=>⟨_,hb cdv A outer s H E hr,?_⟩
 obtain⟨wd,ds,rfl,sr,rp,p⟩:=h
 by_cases hl:ds.length=ps.length
 ·unfold run at p
  rw[if_pos hl] at p
  refine⟨wd,_,rfl,sr,ERep.start rp,?_⟩
  cases hm:m (ds.map some++List.replicate (N.length-ds.length) none) wd.S with
  |nx env S=>rw[hm] at p;exact fun σ' w' x hs s er=>p .non w' x hs s (by simp[Rep])
  |ret d S=>rw[hm] at p;exact p
  |brk _ _=>rw[hm] at p;exact p.elim
  |ct _ _=>rw[hm] at p;exact p.elim
  |exc e env S=>rw[hm] at p;exact fun C dx σ' w' x hs s er xr=>p C dx w' x hs s xr
  |bad=>rw[hm] at p;exact p.elim
 ·rw[run_ar ds wd.S hl] at p;exact p.elim
theorem fn_none {nn:Nat} :FnG P w G.K G.mg base nn f fd ps (spOf G fun _ _=> .bad):=
 ⟨fun vs H Q E ⟨w,ds,_,_,_,p⟩=>p.elim,fun A outer s H args us vs Q E _ _ _ _ ⟨w,ds,_,_,_,p⟩=>p.elim⟩
theorem tk_body {K:PySem.W.Frag} {mg:Str→Option Value} {qual:Str} {scope:Scope} {cdv:Value} {A:Around} {outer:List Env} {s:Shared} {H:Hp} {E:XK} :Takes (cxOf (L2.CX P w) P w K mg base N qual scope f cdv A outer s H E) (WE0 E):=takes_of rfl rfl rfl rfl
theorem po_body {K:PySem.W.Frag} {mg:Str→Option Value} {qual:Str} {scope:Scope} {cdv:Value} {A:Around} {outer:List Env} {s:Shared} {H:Hp} {E:XK} :PassesOwn (model P w) (cxOf (L2.CX P w) P w K mg base N qual scope f cdv A outer s H E).A (cxOf (L2.CX P w) P w K mg base N qual scope f cdv A outer s H E).env (cxOf (L2.CX P w) P w K mg base N qual scope f cdv A outer s H E).xe:=passes_of (X:=cxOf (L2.CX P w) P w K mg base N qual scope f cdv A outer s H E) rfl
theorem tk_blk {X:Cx} {s:Shared} {H:Hp} {sc:Scope} {ce:Env} {fp:List Addr} :Takes (X.blk s H sc ce fp) WF:=fun u s' h=>by
 obtain⟨_,_,_,_,_,_,_,_,_,_,_,_,_,_,_,_,z⟩:=h
 exact z.elim
end
end L3
namespace L3
open PySem PySem.Spec PyProof.Rows L2
theorem opI2 {X:Cx} {f:Value→Value→Sem Value} {r r':R2} (h:OpR X f r) (i:∀x y H Q,r' x y H Q→r x y H Q):OpR X f r':=fun pins s σ H x y v u Q I rx ry q=>h pins s σ H x y v u Q I rx ry (i _ _ _ _ q)
theorem unI2 {X:Cx} {f:Value→Sem Value} {r r':V→Hp→VK→Prop} (h:UnR X f r) (i:∀x H Q,r' x H Q→r x H Q):UnR X f r':=fun pins s σ H x v Q I rx q=>h pins s σ H x v Q I rx (i _ _ _ q)
theorem ixI2 {X:Cx} {r r':R2} (h:IxR X r) (i:∀x y H Q,r' x y H Q→r x y H Q):IxR X r':=fun a b pins s σ H x y v u Q I rx ry q=>h a b pins s σ H x y v u Q I rx ry (i _ _ _ _ q)
theorem caI2 {X:Cx} {f:Value} {r r':List V→Hp→VK→Prop} (h:CallR X f r) (i:∀xs H Q,r' xs H Q→r xs H Q):CallR X f r':=fun pins s σ H xs us Q I rs q=>h pins s σ H xs us Q I rs (i _ _ _ q)
theorem mtI2 {X:Cx} {id:String} {r r':V→List V→Hp→VK→Prop} (h:MtR X id r) (i:∀x xs H Q,r' x xs H Q→r x xs H Q):MtR X id r':=fun pins s σ H x xs v us Q I rx rs q=>h pins s σ H x xs v us Q I rx rs (i _ _ _ _ q)
section
variable {G:GC} {w:Wd}
def asL (x:D) (S:Store):Option (List D):=match x with
 | .lst l=>some l
 | .obj n=>match S[n]? with
   |some (.lst l)=>some l
   | _=>none
 | _=>none
theorem asL_rep {x:D} {v:V} {l:List D} (sr:SRep G w) (h:Rep G w x v) (e:asL x w.S=some l):∃a vs,v= .ref a∧w.H a=some (.lst vs)∧RepL G w l vs:=by
 cases x with
 |lst l'=>
  cases e
  simp only[Rep] at h
  obtain⟨a,vs,rfl,h1,_,h2⟩:=h
  exact⟨a,vs,rfl,h1,h2⟩
 |obj n=>
  simp only[Rep] at h
  obtain⟨a,h1,rfl⟩:=h
  unfold asL at e
  dsimp only at e
  cases hn:w.S[n]? with
  |none=>rw[hn] at e;cases e
  |some o=>
   rw[hn] at e
   cases o with
   |lst l'=>
    cases e
    obtain⟨vs,q1,q2⟩:=sr.obj n _ a hn h1
    exact⟨a,vs,rfl,q1,q2⟩
   | _=>cases e
 | _=>cases e
theorem new_lst {l:List D} {vs:List V} {S:Store} {Q:VK} {E:Value→Option Addr→Hp→Prop} (sr:SRep G w) (rl:RepL G w l vs) (p:Post G w (.ok (.lst l) w.S) (Rep G) Q E) (a:Addr) (ha:w.H a=none):Q (.ref a) (upd w.H a (.lst vs)):=by
 obtain⟨x,s,nm⟩:=new_ext (o:= .lst vs) sr ha
 exact p (.ref a) _ x rfl s (by simp only[Rep];exact⟨a,vs,rfl,upd_same,nm,RepL.mono x _ _ rl⟩)
theorem new_tup {l:List D} {vs:List V} {Q:VK} {E:Value→Option Addr→Hp→Prop} (sr:SRep G w) (rl:RepL G w l vs) (p:Post G w (.ok (.tup l) w.S) (Rep G) Q E) (a:Addr) (ha:w.H a=none):Q (.ref a) (upd w.H a (.tup vs)):=by
 obtain⟨x,s,nm⟩:=new_ext (o:= .tup vs) sr ha
 exact p (.ref a) _ x rfl s (by simp only[Rep];exact⟨a,vs,rfl, .inl ⟨upd_same,nm⟩,RepL.mono x _ _ rl⟩)
theorem new_lobj {l:List D} {vs:List V} {Q:VK} {E:Value→Option Addr→Hp→Prop} (sr:SRep G w) (rl:RepL G w l vs) (p:Post G w (.ok (.obj w.S.length) (w.S++ [.lst l])) (Rep G) Q E) (a:Addr) (ha:w.H a=none):Q (.ref a) (upd w.H a (.lst vs)):=by
 obtain⟨x,s⟩:=new_obj (ob:= .lst l) (o:= .lst vs) sr ha fun w' x e=>⟨vs,e,RepL.mono x _ _ rl⟩
 exact p (.ref a) _ x rfl s (by simp only[Rep];exact⟨a,by rw[← sr.len];simp,rfl⟩)
theorem SqT_of {a:Addr} {vs:List V} {l:List D} (h:TupAt G w a vs l):SqT G.K w.H a vs:=h.imp (fun z=> .inl z.1) fun z=>z.1
end
def repS (z:Str) (k:Int):Str:=⟨(List.replicate k.toNat z.cps.toList).flatten.toArray⟩
theorem fold_app:∀(l:List (Array Nat)) (a:Array Nat),(l.foldl (· ++ ·) a).toList=a.toList++(l.map Array.toList).flatten
 | [],a=>by simp
 |x::l,a=>by simp[fold_app l]
theorem repS_fold (z:Str) (k:Int):(⟨(List.replicate k.toNat z.cps).foldl (· ++ ·) #[]⟩:Str)=repS z k:=by
 unfold repS
 congr 1
 apply Array.ext'
 rw[fold_app];simp
theorem repS_one (z:Str):repS z 1=z:=by
 unfold repS;simp
theorem repS_nil {z:Str} (k:Int) (h:z.length=0):repS z k=z:=by
 have e:z.cps= #[] :=Array.eq_empty_of_size_eq_zero h
 obtain⟨c⟩:=z
 simp only at e;subst e
 unfold repS;simp
theorem repS_lt {z:Str} {k:Int} (h:k<1):repS z k=Str.empty:=by
 unfold repS
 rw[show k.toNat=0 by omega];rfl
theorem repS_len (z:Str) (k:Int):(repS z k).length=k.toNat*z.length:=by
 show(repS z k).cps.size=k.toNat*z.cps.size
 unfold repS;simp
theorem op_repS {X:Cx} :OpR X (binaryOp .Mult) (fun x y H Q=>∃z k,x= .str z∧y= .int k∧ -(2 ^ 63)≤k∧k<2 ^ 63∧z.length*k.toNat≤sizeLine∧Q (.str (repS z k)) H):=by
 intro pins s σ H x y v u Q I rx ry h
 obtain⟨z,k,rfl,rfl,h1,h2,h3,q⟩:=h
 obtain⟨t,rfl⟩:=rx
 obtain⟨t',rfl⟩:=ry
 refine P.mul_str (by simp;omega) (fun h _=> ?_) (fun _ _=> ?_) ?_
 ·intro c
  have:(z.length:Int)*k≤2 ^ 24:=by
   have h4:((z.length*k.toNat:Nat):Int)≤((2 ^ 24:Nat):Int):=Int.ofNat_le.mpr h3
   rw[Int.natCast_mul,Int.toNat_of_nonneg (by omega)] at h4
   exact h4
  have c2:=(Int.ediv_lt_iff_lt_mul (by omega:0<k)).mp c
  omega
 ·exact decide_eq_false (Nat.not_lt.mpr h3)
 ·split
  ·rename_i hk
   rw[repS_lt hk] at q
   exact⟨by decide, .str Str.empty,H,I.tok _,⟨_,rfl⟩,q⟩
  ·split
   ·rename_i hk
    have e:repS z k=z:=by
     rw[Bool.or_eq_true] at hk
     rcases hk with hk|hk
     ·have:=beq_iff_eq.mp hk;subst this;exact repS_one z
     ·exact repS_nil k (beq_iff_eq.mp hk)
    rw[e] at q
    exact⟨.str z,H,I,⟨_,rfl⟩,q⟩
   ·rw[repS_fold]
    refine⟨?_, .str (repS z k),H,I.tok _,⟨_,rfl⟩,q⟩
    rw[repS_len];rw[Nat.mul_comm];exact h3
def mulOk (i j:Int):Bool:=decide (((-(2 ^ 64)<i∧i<2 ^ 64)∨(-(2 ^ 64)<j∧j<2 ^ 64))∨i.natAbs.log2+j.natAbs.log2<1000000)
def addD:F2:=fun x y S=>match x,y with
 | .int i, .int j=> .ok (.int (i+j)) S
 | .str a, .str b=>if a.length+b.length≤sizeLine then .ok (.str (a++b)) S else .bad
 | .tup a, .tup b=>if a.length+b.length≤sizeLine then .ok (.tup (a++b)) S else .bad
 |x,y=>match asL x S,asL y S with
  |some a,some b=>if a.length+b.length≤sizeLine then .ok (.lst (a++b)) S else .bad
  | _,_=> .bad
def subD:F2:=fun x y S=>match x,y with
 | .int i, .int j=> .ok (.int (i-j)) S
 | _,_=> .bad
def mulD:F2:=fun x y S=>match x,y with
 | .int i, .int j=>if mulOk i j then .ok (.int (i*j)) S else .bad
 | .str z, .int k=>if -(2 ^ 63)≤k∧k<2 ^ 63∧z.length*k.toNat≤sizeLine then .ok (.str (repS z k)) S else .bad
 |x, .int k=>match asL x S with
  |some a=>if -(2 ^ 63)≤k∧k<2 ^ 63∧a.length*k.toNat≤sizeLine then .ok (.lst (List.replicate k.toNat a).flatten) S else .bad
  | _=> .bad
 | _,_=> .bad
def fdivD:F2:=fun x y S=>match x,y with
 | .int i, .int j=>if 0<j∧j.natAbs.log2<9000 then .ok (.int (i / j)) S else .bad
 | _,_=> .bad
def modD:F2:=fun x y S=>match x,y with
 | .int i, .int j=>if 0<j then .ok (.int (i % j)) S else .bad
 | _,_=> .bad
def powD:F2:=fun x y S=>match x,y with
 | .int i, .int j=>if 0≤j∧(Builtin.Int.intBits i:Int)*j≤2 ^ 27 then .ok (.int (i ^ j.toNat)) S else .bad
 | _,_=> .bad
def negD:F1:=fun x S=>match x with
 | .int i=> .ok (.int (-i)) S
 | _=> .bad
section
variable {G:GC} {X:Cx}
theorem c_add:Calm2 addD:=fun x y S=>by unfold addD;repeat' split
                                        all_goals trivial
theorem c_sub:Calm2 subD:=fun x y S=>by unfold subD;repeat' split
                                        all_goals trivial
theorem c_mul:Calm2 mulD:=fun x y S=>by unfold mulD;repeat' split
                                        all_goals trivial
theorem c_fdiv:Calm2 fdivD:=fun x y S=>by unfold fdivD;repeat' split
                                          all_goals trivial
theorem c_mod:Calm2 modD:=fun x y S=>by unfold modD;repeat' split
                                        all_goals trivial
theorem c_pow:Calm2 powD:=fun x y S=>by unfold powD;repeat' split
                                        all_goals trivial
theorem c_neg:Calm1 negD:=fun x S=>by unfold negD;repeat' split
                                      all_goals trivial
theorem o_add (hK:X.K=G.K):OpR X (binaryOp .Add) (r2 G addD):=by
 refine opI2 (op_add.or (op_add_str.or (op_catA.or op_cat))) fun x y H Q q=> ?_
 obtain⟨w,d1,d2,rfl,sr,r1,r2,p⟩:=q
 unfold addD at p
 split at p
 ·simp only[Rep] at r1 r2
  exact .inl ⟨_,_,r1,r2,Post.ret (Ra:=Rep G) sr (by simp[Rep]) p⟩
 ·split at p
  ·rename_i hz
   simp only[Rep] at r1 r2
   exact .inr (.inl ⟨_,_,r1,r2,hz,Post.ret (Ra:=Rep G) sr (by simp[Rep]) p⟩)
  ·exact p.elim
 ·split at p
  ·rename_i hz
   have r1':=r1
   have r2':=r2
   simp only[Rep] at r1 r2
   obtain⟨a,vs,rfl,h1,l1⟩:=r1
   obtain⟨b,us,rfl,h2,l2⟩:=r2
   have e1:=l1.length
   have e2:=l2.length
   refine .inr (.inr (.inl ⟨a,b,vs,us,rfl,rfl,by rw[hK];exact SqT_of h1,by rw[hK];exact SqT_of h2,by omega,fun e=> ?_,fun _ e=> ?_,fun _ _ p' hp'=> ?_⟩))
   ·have e':=List.eq_nil_of_length_eq_zero (by rw[← e1,e];rfl)
    rw[e',List.nil_append] at p
    exact Post.ret (Ra:=Rep G) sr r2' p
   ·have e':=List.eq_nil_of_length_eq_zero (by rw[← e2,e];rfl)
    rw[e',List.append_nil] at p
    exact Post.ret (Ra:=Rep G) sr r1' p
   ·exact new_tup sr (l1.append l2) p p' hp'
  ·exact p.elim
 ·split at p
  ·rename_i l1 l2 h1 h2
   split at p
   ·rename_i hz
    obtain⟨a,vs,rfl,e1,q1⟩:=asL_rep sr r1 h1
    obtain⟨b,us,rfl,e2,q2⟩:=asL_rep sr r2 h2
    refine .inr (.inr (.inr ⟨a,b,vs,us,rfl,rfl,e1,e2,by rw[q1.length,q2.length];exact hz,fun p' hp'=>new_lst (S:=w.S) sr (q1.append q2) p p' hp'⟩))
   ·exact p.elim
  ·exact p.elim
theorem o_sub:OpR X (binaryOp .Sub) (r2 G subD):=by
 refine opI2 op_sub fun x y H Q q=> ?_
 obtain⟨w,d1,d2,rfl,sr,r1,r2,p⟩:=q
 unfold subD at p
 split at p
 ·simp only[Rep] at r1 r2
  exact⟨_,_,r1,r2,Post.ret (Ra:=Rep G) sr (by simp[Rep]) p⟩
 ·exact p.elim
theorem RepL.rep {w:Wd} {ds:List D} {vs:List V} (h:RepL G w ds vs):∀k:Nat,RepL G w (List.replicate k ds).flatten (List.replicate k vs).flatten
 |0=>by simp[RepL]
 |k+1=>by
  simp only[List.replicate_succ,List.flatten_cons]
  exact h.append (RepL.rep h k)
theorem o_mul:OpR X (binaryOp .Mult) (r2 G mulD):=by
 refine opI2 ((op_mul.or op_mulW).or (op_rep.or op_repS)) fun x y H Q q=> ?_
 obtain⟨w,d1,d2,rfl,sr,r1,r2,p⟩:=q
 unfold mulD at p
 split at p
 ·simp only[Rep] at r1 r2
  split at p
  ·rename_i hz
   rcases of_decide_eq_true hz with hz|hz
   ·exact .inl (.inl ⟨_,_,r1,r2,(by unfold CMul;exact hz),Post.ret (Ra:=Rep G) sr (by simp[Rep]) p⟩)
   ·exact .inl (.inr ⟨_,_,r1,r2,hz,Post.ret (Ra:=Rep G) sr (by simp[Rep]) p⟩)
  ·exact p.elim
 ·simp only[Rep] at r1 r2
  split at p
  ·rename_i hz
   exact .inr (.inr ⟨_,_,r1,r2,hz.1,hz.2.1,hz.2.2,Post.ret (Ra:=Rep G) sr (by simp[Rep]) p⟩)
  ·exact p.elim
 ·split at p
  ·rename_i l hl
   split at p
   ·rename_i hz
    obtain⟨a,vs,rfl,e1,q1⟩:=asL_rep sr r1 hl
    simp only[Rep] at r2
    refine .inr (.inl ⟨a,_,vs,rfl,r2,e1,hz.1,hz.2.1,by rw[q1.length];exact hz.2.2,fun p' hp'=>new_lst (S:=w.S) sr (q1.rep _) p p' hp'⟩)
   ·exact p.elim
  ·exact p.elim
 ·exact p.elim
theorem o_fdiv:OpR X (binaryOp .FloorDiv) (r2 G fdivD):=by
 refine opI2 op_fdivW fun x y H Q q=> ?_
 obtain⟨w,d1,d2,rfl,sr,r1,r2,p⟩:=q
 unfold fdivD at p
 split at p
 ·simp only[Rep] at r1 r2
  split at p
  ·rename_i hz
   exact⟨_,_,r1,r2,hz,Post.ret (Ra:=Rep G) sr (by simp[Rep]) p⟩
  ·exact p.elim
 ·exact p.elim
theorem o_mod:OpR X (binaryOp .Mod) (r2 G modD):=by
 refine opI2 op_mod fun x y H Q q=> ?_
 obtain⟨w,d1,d2,rfl,sr,r1,r2,p⟩:=q
 unfold modD at p
 split at p
 ·simp only[Rep] at r1 r2
  split at p
  ·rename_i hz
   exact⟨_,_,r1,r2,hz,Post.ret (Ra:=Rep G) sr (by simp[Rep]) p⟩
  ·exact p.elim
 ·exact p.elim
theorem o_pow:OpR X (binaryOp .Pow) (r2 G powD):=by
 refine opI2 (opI (C:=fun i j=>0≤j∧(Builtin.Int.intBits i:Int)*j≤2 ^ 27) (g:=fun i j=>i ^ j.toNat) fun _ _ _ _ _ _ _ hc q=>pow_int hc.1 hc.2 q) fun x y H Q q=> ?_
 obtain⟨w,d1,d2,rfl,sr,r1,r2,p⟩:=q
 unfold powD at p
 split at p
 ·simp only[Rep] at r1 r2
  split at p
  ·rename_i hz
   exact⟨_,_,r1,r2,hz,Post.ret (Ra:=Rep G) sr (by simp[Rep]) p⟩
  ·exact p.elim
 ·exact p.elim
theorem o_neg:UnR X (unaryOp .USub) (r1 G negD):=by
 refine unI2 un_neg fun x H Q q=> ?_
 obtain⟨w,d1,rfl,sr,r1,p⟩:=q
 unfold negD at p
 split at p
 ·simp only[Rep] at r1
  exact⟨_,r1,Post.ret (Ra:=Rep G) sr (by simp[Rep]) p⟩
 ·exact p.elim
end
def ltD:F2:=fun x y S=>match x,y with
 | .int i, .int j=> .ok (.bl (decide (i<j))) S
 | .str a, .str b=> .ok (.bl (decide (a.cps.toList<b.cps.toList))) S
 | _,_=> .bad
def leD:F2:=fun x y S=>match x,y with
 | .int i, .int j=> .ok (.bl (decide (i≤j))) S
 | .str a, .str b=> .ok (.bl (!decide (b.cps.toList<a.cps.toList))) S
 | _,_=> .bad
def gtD:F2:=fun x y S=>match x,y with
 | .int i, .int j=> .ok (.bl (decide (j<i))) S
 | .str a, .str b=> .ok (.bl (decide (b.cps.toList<a.cps.toList))) S
 | _,_=> .bad
def geD:F2:=fun x y S=>match x,y with
 | .int i, .int j=> .ok (.bl (decide (j≤i))) S
 | .str a, .str b=> .ok (.bl (!decide (a.cps.toList<b.cps.toList))) S
 | _,_=> .bad
section
variable {G:GC} {X:Cx}
theorem c_lt:Calm2 ltD:=fun x y S=>by unfold ltD;repeat' split
                                      all_goals trivial
theorem c_le:Calm2 leD:=fun x y S=>by unfold leD;repeat' split
                                      all_goals trivial
theorem c_gt:Calm2 gtD:=fun x y S=>by unfold gtD;repeat' split
                                      all_goals trivial
theorem c_ge:Calm2 geD:=fun x y S=>by unfold geD;repeat' split
                                      all_goals trivial
theorem o_lt:OpR X (compareOp .Lt) (r2 G ltD):=by
 refine opI2 (op_lt.or L2.op_lt_str) fun x y H Q q=> ?_
 obtain⟨w,d1,d2,rfl,sr,r1,r2,p⟩:=q
 unfold ltD at p
 split at p
 ·simp only[Rep] at r1 r2
  exact .inl ⟨_,_,r1,r2,Post.ret (Ra:=Rep G) sr (by simp[Rep]) p⟩
 ·simp only[Rep] at r1 r2
  exact .inr ⟨_,_,r1,r2,Post.ret (Ra:=Rep G) sr (by simp[Rep]) p⟩
 ·exact p.elim
theorem o_le:OpR X (compareOp .LtE) (r2 G leD):=by
 refine opI2 (op_le.or L2.op_le_str) fun x y H Q q=> ?_
 obtain⟨w,d1,d2,rfl,sr,r1,r2,p⟩:=q
 unfold leD at p
 split at p
 ·simp only[Rep] at r1 r2
  exact .inl ⟨_,_,r1,r2,Post.ret (Ra:=Rep G) sr (by simp[Rep]) p⟩
 ·simp only[Rep] at r1 r2
  exact .inr ⟨_,_,r1,r2,Post.ret (Ra:=Rep G) sr (by simp[Rep]) p⟩
 ·exact p.elim
theorem o_gt:OpR X (compareOp .Gt) (r2 G gtD):=by
 refine opI2 (op_gt.or L2.op_gt_str) fun x y H Q q=> ?_
 obtain⟨w,d1,d2,rfl,sr,r1,r2,p⟩:=q
 unfold gtD at p
 split at p
 ·simp only[Rep] at r1 r2
  exact .inl ⟨_,_,r1,r2,Post.ret (Ra:=Rep G) sr (by simp[Rep]) p⟩
 ·simp only[Rep] at r1 r2
  exact .inr ⟨_,_,r1,r2,Post.ret (Ra:=Rep G) sr (by simp[Rep]) p⟩
 ·exact p.elim
theorem o_ge:OpR X (compareOp .GtE) (r2 G geD):=by
 refine opI2 (op_ge.or L2.op_ge_str) fun x y H Q q=> ?_
 obtain⟨w,d1,d2,rfl,sr,r1,r2,p⟩:=q
 unfold geD at p
 split at p
 ·simp only[Rep] at r1 r2
  exact .inl ⟨_,_,r1,r2,Post.ret (Ra:=Rep G) sr (by simp[Rep]) p⟩
 ·simp only[Rep] at r1 r2
  exact .inr ⟨_,_,r1,r2,Post.ret (Ra:=Rep G) sr (by simp[Rep]) p⟩
 ·exact p.elim
end
mutual
def toPy:D→Option PyData
 | .non=>some .none
 | .bl b=>some (.bool b)
 | .int i=>some (.int i)
 | .str s=>if PyData.strOk s=true then some (.str s) else none
 | .tup l=>(toPyL l).map .tuple
 | .lst l=>(toPyL l).map .list
 | .dic _ _=>none
 | .obj _=>none
 | .glb _=>none
 | .wtp _=>none
 | .ty _=>none
 | .scr ns=>some (.list (ns.map .int))
 | .kd _ _=>none
 | .xcp _ _ _=>none
 | .lam _ _=>none
def toPyL:List D→Option (List PyData)
 | [] =>some []
 |d::ds=>match toPy d,toPyL ds with
  |some x,some xs=>some (x::xs)
  | _,_=>none
end
def deref (x:D) (S:Store):D:=match x with
 | .obj n=>match S[n]? with
   |some (.lst l)=> .lst l
   |some (.ptp l)=> .tup l
   | _=>x
 | _=>x
def eqD:F2:=fun x y S=>match x,y with
 | .str a, .str b=> .ok (.bl (a==b)) S
 | .tup l, .tup [] => .ok (.bl l.isEmpty) S
 |x,y=>match toPy (deref x S),toPy (deref y S) with
  |some a,some b=>if min a.depth b.depth≤64 then .ok (.bl (PyData.eqv a b)) S else .bad
  | _,_=> .bad
def neD:F2:=fun x y S=>match x,y with
 | .str a, .str b=> .ok (.bl (!(a==b))) S
 | .tup l, .tup [] => .ok (.bl (!l.isEmpty)) S
 |x,y=>match toPy (deref x S),toPy (deref y S) with
  |some a,some b=>if min a.depth b.depth≤64 then .ok (.bl (!PyData.eqv a b)) S else .bad
  | _,_=> .bad
theorem eqD_py {x y:D} {S:Store} {a b:PyData} (h1:toPy (deref x S)=some a) (h2:toPy (deref y S)=some b) (h:min a.depth b.depth≤64):eqD x y S= .ok (.bl (PyData.eqv a b)) S:=by
 unfold eqD
 split
 ·simp only[deref,toPy] at h1 h2
  split at h1<;>cases h1
  split at h2<;>cases h2
  simp[PyData.eqv]
 ·rename_i l
  simp only[deref,toPy,Option.map_eq_some_iff] at h1 h2
  obtain⟨xs,e1,rfl⟩:=h1
  obtain⟨ys,e2,rfl⟩:=h2
  cases e2
  cases l with
  |nil=>cases e1;simp[PyData.eqv,PyData.eqvAll]
  |cons d ds=>
   simp only[toPyL] at e1
   split at e1<;>cases e1
   simp[PyData.eqv,PyData.eqvAll]
 ·rw[h1,h2];simp only;rw[if_pos h]
theorem neD_py {x y:D} {S:Store} {a b:PyData} (h1:toPy (deref x S)=some a) (h2:toPy (deref y S)=some b) (h:min a.depth b.depth≤64):neD x y S= .ok (.bl (!PyData.eqv a b)) S:=by
 unfold neD
 split
 ·simp only[deref,toPy] at h1 h2
  split at h1<;>cases h1
  split at h2<;>cases h2
  simp[PyData.eqv]
 ·rename_i l
  simp only[deref,toPy,Option.map_eq_some_iff] at h1 h2
  obtain⟨xs,e1,rfl⟩:=h1
  obtain⟨ys,e2,rfl⟩:=h2
  cases e2
  cases l with
  |nil=>cases e1;simp[PyData.eqv,PyData.eqvAll]
  |cons d ds=>
   simp only[toPyL] at e1
   split at e1<;>cases e1
   simp[PyData.eqv,PyData.eqvAll]
 ·rw[h1,h2];simp only;rw[if_pos h]
section
variable {G:GC} {X:Cx} {w:Wd}
theorem c_eq:Calm2 eqD:=fun x y S=>by unfold eqD;repeat' split
                                      all_goals trivial
theorem c_ne:Calm2 neD:=fun x y S=>by unfold neD;repeat' split
                                      all_goals trivial
theorem dpI:∀(ns:List Int),DpAll G.K w.H (ns.map V.int) (ns.map PyData.int)
 | [] => .nil
 |n::ns=> .cons (.int n) (dpI ns)
mutual
theorem dp_of:∀(d:D) (v:V) (x:PyData),Rep G w d v→toPy d=some x→Dp G.K w.H v x∧x.canLay0=true
 | .non,v,x,r,e=>by simp only[Rep] at r;cases e;subst r;exact⟨.non,rfl⟩
 | .bl b,v,x,r,e=>by simp only[Rep] at r;cases e;subst r;exact⟨.bl b,rfl⟩
 | .int i,v,x,r,e=>by simp only[Rep] at r;cases e;subst r;exact⟨.int i,rfl⟩
 | .str s,v,x,r,e=>by
   simp only[Rep] at r
   simp only[toPy] at e
   split at e
   ·rename_i h
    cases e;subst r;exact⟨.str s,h⟩
   ·cases e
 | .tup l,v,x,r,e=>by
   simp only[Rep] at r
   obtain⟨a,vs,rfl,h1,h2⟩:=r
   simp only[toPy,Option.map_eq_some_iff] at e
   obtain⟨xs,e1,rfl⟩:=e
   obtain⟨q1,q2⟩:=dpL_of l vs xs h2 e1
   exact⟨.tup (SqT_of h1) q1,by simpa[PyData.canLay0] using q2⟩
 | .lst l,v,x,r,e=>by
   simp only[Rep] at r
   obtain⟨a,vs,rfl,h1,_,h2⟩:=r
   simp only[toPy,Option.map_eq_some_iff] at e
   obtain⟨xs,e1,rfl⟩:=e
   obtain⟨q1,q2⟩:=dpL_of l vs xs h2 e1
   exact⟨.lst (SqL.of h1) q1,by simpa[PyData.canLay0] using q2⟩
 | .dic _ _,_,_,_,e=>by simp[toPy] at e
 | .obj _,_,_,_,e=>by simp[toPy] at e
 | .glb _,_,_,_,e=>by simp[toPy] at e
 | .wtp _,_,_,_,e=>by simp[toPy] at e
 | .ty _,_,_,_,e=>by simp[toPy] at e
 | .kd _ _,_,_,_,e=>by simp[toPy] at e
 | .xcp _ _ _,_,_,_,e=>by simp[toPy] at e
 | .lam _ _,_,_,_,e=>by simp[toPy] at e
 | .scr ns,v,x,r,e=>by
   simp only[Rep] at r
   obtain⟨a,rfl,h1⟩:=r
   simp only[toPy,Option.some.injEq] at e
   subst e
   refine⟨.lst (h1.imp (fun z=>z.1) id) (dpI ns),?_⟩
   simp only[PyData.canLay0]
   exact PyProof.Rows.canLayAll_ints ns
theorem dpL_of:∀(ds:List D) (vs:List V) (xs:List PyData),RepL G w ds vs→toPyL ds=some xs→DpAll G.K w.H vs xs∧PyData.canLayAll0 xs=true
 | [],vs,xs,r,e=>by simp only[RepL] at r;simp only[toPyL,Option.some.injEq] at e;subst r e;exact⟨.nil,rfl⟩
 |d::ds,vs,xs,r,e=>by
  simp only[RepL] at r
  obtain⟨v,r',rfl,h1,h2⟩:=r
  simp only[toPyL] at e
  split at e
  ·rename_i x xs' e1 e2
   cases e
   obtain⟨q1,q2⟩:=dp_of d v x h1 e1
   obtain⟨q3,q4⟩:=dpL_of ds r' xs' h2 e2
   exact⟨.cons q1 q3,by simp[PyData.canLayAll0,q2,q4]⟩
  ·cases e
end
theorem deref_rep {x:D} {v:V} (sr:SRep G w) (r:Rep G w x v) {y:PyData} (e:toPy (deref x w.S)=some y):Dp G.K w.H v y∧y.canLay0=true:=by
 cases x with
 |obj n=>
  unfold deref at e
  cases hn:w.S[n]? with
  |none=>simp[hn,toPy] at e
  |some o=>
   cases o with
   |lst l=>
    simp only[hn] at e
    obtain⟨a,vs,rfl,h1,h2⟩:=asL_rep (l:=l) sr r (by simp[asL,hn])
    simp only[toPy,Option.map_eq_some_iff] at e
    obtain⟨xs,e1,rfl⟩:=e
    obtain⟨q1,q2⟩:=dpL_of l vs xs h2 e1
    exact⟨.lst (SqL.of h1) q1,by simpa[PyData.canLay0] using q2⟩
   |ptp l=>
    simp only[hn] at e
    simp only[Rep] at r
    obtain⟨a,hm,rfl⟩:=r
    obtain⟨o,vs,⟨h1,_⟩,_,h2⟩:=sr.obj n _ a hn hm
    simp only[toPy,Option.map_eq_some_iff] at e
    obtain⟨xs,e1,rfl⟩:=e
    obtain⟨q1,q2⟩:=dpL_of l vs xs h2 e1
    exact⟨.tup (.inl (.inr ⟨o,h1⟩)) q1,by simpa[PyData.canLay0] using q2⟩
   | _=>simp[hn,toPy] at e
 | _=>exact dp_of _ v y r e
end
end L3
namespace L3
open PySem PySem.Spec PyProof.Rows L2
section
variable {G:GC} {X:Cx}
theorem o_eq (hK:X.K=G.K) (hu:X.A.units+64<cLine):OpR X (compareOp .Eq) (r2 G eqD):=by
 intro pins s σ H x y v u Q I rx ry q
 obtain⟨w,d1,d2,rfl,sr,r1,r2,p⟩:=q
 unfold eqD at p
 split at p
 ·simp only[Rep] at r1 r2
  subst r1 r2
  exact L2.op_eq pins s σ w.H _ _ v u Q I rx ry ⟨rfl,by rw[L2.dec_str];exact Post.ret (Ra:=Rep G) sr (by simp[Rep]) p⟩
 ·rename_i l
  simp only[Rep,RepL] at r1 r2
  obtain⟨a,vs,rfl,h1,l1⟩:=r1
  obtain⟨b,us,rfl,h2,rfl⟩:=r2
  cases rx
  cases ry
  obtain⟨its,rv,tp,_⟩:=I.tuple (xs:=vs) (by rw[hK];exact SqT_of h1)
  obtain⟨its2,rv2,tp2,_⟩:=I.tuple (xs:= []) (by rw[hK];exact SqT_of h2)
  cases rv2
  have hl:=rv.length
  have hl2:=l1.length
  refine SeqAt.RcAt.tuples (e:=fun _=>true) tp tp2 (by omega) (fun j h1 h2=>absurd h2 (by simp)) X.prog X.w X.xe (EP X pins σ Q) ?_
  refine⟨.bl _,w.H,I,rfl,?_⟩
  have e:((List.range (min its.toArray.size ([] :List Value).toArray.size)).all (fun _=>true)&&its.toArray.size==([] :List Value).toArray.size)=l.isEmpty:=by
   simp only[List.size_toArray,List.length_nil,Nat.min_zero,List.range_zero,List.all_nil,Bool.true_and]
   rw[← hl,hl2]
   cases l<;>rfl
  rw[e]
  exact Post.ret (Ra:=Rep G) sr (by simp[Rep]) p
 ·split at p
  ·rename_i a b h1 h2
   split at p
   ·rename_i hm
    obtain⟨p1,c1⟩:=deref_rep sr r1 h1
    obtain⟨p2,c2⟩:=deref_rep sr r2 h2
    rw[← hK] at p1 p2
    obtain⟨as,q1⟩:=Dp.reads I a x v p1 rx
    obtain⟨bs,q2⟩:=Dp.reads I b y u p2 ry
    exact SeqAt.compareEq_reads q1 q2 c1 c2 (by omega) ⟨.bl _,w.H,I,rfl,Post.ret (Ra:=Rep G) sr (by simp[Rep]) p⟩
   ·exact p.elim
  ·exact p.elim
theorem o_ne (hK:X.K=G.K) (hu:X.A.units+64<cLine):OpR X (compareOp .NotEq) (r2 G neD):=by
 intro pins s σ H x y v u Q I rx ry q
 obtain⟨w,d1,d2,rfl,sr,r1,r2,p⟩:=q
 unfold neD at p
 split at p
 ·simp only[Rep] at r1 r2
  subst r1 r2
  exact L2.op_ne pins s σ w.H _ _ v u Q I rx ry ⟨rfl,by rw[L2.dec_str];exact Post.ret (Ra:=Rep G) sr (by simp[Rep]) p⟩
 ·rename_i l
  simp only[Rep,RepL] at r1 r2
  obtain⟨a,vs,rfl,h1,l1⟩:=r1
  obtain⟨b,us,rfl,h2,rfl⟩:=r2
  cases rx
  cases ry
  obtain⟨its,rv,tp,_⟩:=I.tuple (xs:=vs) (by rw[hK];exact SqT_of h1)
  obtain⟨its2,rv2,tp2,_⟩:=I.tuple (xs:= []) (by rw[hK];exact SqT_of h2)
  cases rv2
  have hl:=rv.length
  have hl2:=l1.length
  refine SeqAt.RcNeAt.tuples (e:=fun _=>true) tp tp2 (by omega) (fun j h1 h2=>absurd h2 (by simp)) X.prog X.w X.xe (EP X pins σ Q) ?_
  refine⟨.bl _,w.H,I,rfl,?_⟩
  have e:((List.range (min its.toArray.size ([] :List Value).toArray.size)).all (fun _=>true)&&its.toArray.size==([] :List Value).toArray.size)=l.isEmpty:=by
   simp only[List.size_toArray,List.length_nil,Nat.min_zero,List.range_zero,List.all_nil,Bool.true_and]
   rw[← hl,hl2]
   cases l<;>rfl
  rw[e]
  exact Post.ret (Ra:=Rep G) sr (by simp[Rep]) p
 ·split at p
  ·rename_i a b h1 h2
   split at p
   ·rename_i hm
    obtain⟨p1,c1⟩:=deref_rep sr r1 h1
    obtain⟨p2,c2⟩:=deref_rep sr r2 h2
    rw[← hK] at p1 p2
    obtain⟨as,q1⟩:=Dp.reads I a x v p1 rx
    obtain⟨bs,q2⟩:=Dp.reads I b y u p2 ry
    exact SeqAt.compareNe_reads q1 q2 c1 c2 (by omega) ⟨.bl _,w.H,I,rfl,Post.ret (Ra:=Rep G) sr (by simp[Rep]) p⟩
   ·exact p.elim
  ·exact p.elim
def kdAt:List Str→List D→Str→Option D
 |k::ks,d::ds,z=>if z=k then some d else kdAt ks ds z
 | _,_,_=>none
def keyOf:D→Option Key
 | .int i=>some (.inl i)
 | .str s=>some (.inr s)
 | _=>none
def tkOf:D→Option (List Key)
 | .tup l=>if plc l=true then some (l.filterMap keyOf) else none
 | _=>none
def dGet {κ :Type} [DecidableEq κ] (kvs:List (κ × D)) (k: κ):Option D:=(kvs.find? fun kv=>decide (kv.1=k)).map (·.2)
def memData (x:Option PyData) (y:Option PyData):Option Bool:=match x,y with
 |some a,some (.list xs)=>if a.depth≤64 then some (xs.any fun z=>PyData.eqv z a) else none
 |some a,some (.tuple xs)=>if a.depth≤64 then some (xs.any fun z=>PyData.eqv z a) else none
 | _,_=>none
def memKey (x:D) (kvs:List (Key × D)):Option Bool:=match keyOf x with
 |some k=>some (dGet kvs k).isSome
 |none=>none
def memT (x:D) (kvs:List (List Key × D)):Option Bool:=match tkOf x with
 |some k=>some (dGet kvs k).isSome
 |none=>none
def memStr (x:D) (z:Str):Option Bool:=match x with
 | .str c=>if c.cps.size=1 then some (decide (c.cps.getD 0 0 ∈ z.cps.toList)) else none
 | _=>none
def memKd (x:D) (ks:List Str) (l:List D):Option Bool:=match x with
 | .str z=>some (kdAt ks l z).isSome
 | _=>none
def memD (x y:D) (S:Store):Option Bool:=match y with
 | .str z=>memStr x z
 | .kd ks l=>memKd x ks l
 | .dic ks l=>memKey x (ks.zip l)
 | .tup l=>memData (toPy x) (toPy (.tup l))
 | .lst l=>memData (toPy x) (toPy (.lst l))
 | .obj n=>match S[n]? with
   |some (.lst l)=>memData (toPy x) (toPy (.lst l))
   |some (.ptp l)=>memData (toPy x) (toPy (.tup l))
   |some (.dK kvs)=>memKey x kvs
   |some (.dT kvs)=>memT x kvs
   | _=>none
 | _=>none
def inD:F2:=fun x y S=>match memD x y S with
 |some b=> .ok (.bl b) S
 |none=> .bad
theorem c_in:Calm2 inD:=fun x y S=>by unfold inD;split<;>trivial
theorem str1 {c:Str} (h:c.cps.size=1):c=⟨#[c.cps.getD 0 0]⟩:=by
 obtain⟨⟨l⟩⟩:=c
 match l,h with
 | [a],_=>rfl
theorem kdAt_look {w:Wd} :∀ {ks:List Str} {l:List D} {vs:List V} {us:List Value} (z:Str),ks.length=l.length→Vals vs us→RepL G w l vs→
 (match kdAt ks l z with
   |some d=>∃v u,(ks.zip us).lookup z=some u∧RelV v u∧Rep G w d v
   |none=>(ks.zip us).lookup z=none)
 | [],[],vs,us,z,_,r,h=>by simp[kdAt]
 |k::ks,d::ds,vs,us,z,hl,r,h=>by
  simp only[RepL] at h
  obtain⟨v,r',rfl,h1,h2⟩:=h
  cases r with
  |cons ru rr=>
   rename_i u us'
   unfold kdAt
   by_cases e:z=k
   ·subst e
    rw[if_pos rfl]
    exact⟨v,u,by simp[List.lookup],ru,h1⟩
   ·rw[if_neg e]
    have:=kdAt_look z (by simpa using hl) rr h2
    have e2:((k::ks).zip (u::us')).lookup z=(ks.zip us').lookup z:=by
     simp only[List.zip_cons_cons,List.lookup]
     have:(z==k)=false:=by simpa using e
     rw[this]
    rw[e2]
    exact this
theorem dGet_rep {κ :Type} [DecidableEq κ] {w:Wd} :∀ {kvs:List (κ × D)} {vs:List (κ × V)} (k: κ),RepKV G w kvs vs→
 (match dGet kvs k with
   |some d=>∃v,valV vs k=some v∧Rep G w d v
   |none=>valV vs k=none)
 | [],vs,k,h=>by
   have:vs= [] :=h
   subst this;rfl
 |p::r,vs,k,h=>by
  obtain⟨v,y,rfl,h1,h2⟩:=h
  have ih:=dGet_rep k h2
  by_cases e:p.1=k
  ·have e1:dGet (p::r) k=some p.2:=by simp[dGet,List.find?_cons,e]
   rw[e1,L2.valV_pos (p:=(p.1,v)) e]
   exact⟨v,rfl,h1⟩
  ·have e1:dGet (p::r) k=dGet r k:=by simp[dGet,List.find?_cons,e]
   rw[e1,L2.valV_neg (p:=(p.1,v)) e]
   exact ih
theorem zip_kv {κ :Type} {w:Wd} :∀ {ks:List κ} {l:List D} {vs:List V},ks.length=l.length→RepL G w l vs→RepKV G w (ks.zip l) (ks.zip vs)
 | [],[],vs,_,h=>by simp only[RepL] at h;subst h;rfl
 |k::ks,d::ds,vs,hl,h=>by
  simp only[RepL] at h
  obtain⟨v,r,rfl,h1,h2⟩:=h
  exact⟨v,_,rfl,h1,zip_kv (by simpa using hl) h2⟩
theorem keyOf_rep {w:Wd} {d:D} {v:V} {k:Key} (r:Rep G w d v) (e:keyOf d=some k):v=kV k:=by
 cases d with
 |int i=>cases e;simp only[Rep] at r;exact r
 |str s=>cases e;simp only[Rep] at r;exact r
 | _=>cases e
theorem plc_vals {w:Wd} :∀ {l:List D} {vs:List V},plc l=true→RepL G w l vs→vs=(l.filterMap keyOf).map kV
 | [],vs,_,h=>by simp only[RepL] at h;subst h;rfl
 |d::l,vs,hp,h=>by
  simp only[RepL] at h
  obtain⟨v,r,rfl,h1,h2⟩:=h
  simp only[plc,List.all_cons,Bool.and_eq_true] at hp
  have ih:=plc_vals (l:=l) (by simpa[plc] using hp.2) h2
  cases d with
  |int i=>
   simp only[Rep] at h1
   subst h1
   rw[ih];rfl
  | _=>exact absurd hp.1 (by simp[isIt])
theorem tk_rep {w:Wd} {d:D} {v:V} {k:List Key} (r:Rep G w d v) (e:tkOf d=some k):∃b,v= .ref b∧w.H b=some (.tup (k.map kV))∧¬Mut w b:=by
 cases d with
 |tup l=>
  simp only[tkOf] at e
  split at e
  ·rename_i hp
   cases e
   simp only[Rep] at r
   obtain⟨a,vs,rfl,h|h,rl⟩:=r
   ·rw[plc_vals hp rl] at h
    exact⟨a,rfl,h.1,h.2⟩
   ·rw[hp] at h;cases h.2
  ·cases e
 | _=>cases e
theorem mem_ok (hK:X.K=G.K) (hw:X.w=G.w) (hu:X.A.units+65<cLine) {neg:Bool} {op:CmpOp} (ho:op=if neg then .NotIn else .In) {pins:List (Addr × Obj)} {s:Shared} {σ :L2.St} {w:Wd} {x y:V} {v u:Value} {Q:VK} {d1 d2:D} {b:Bool}
 (I:Inv X pins σ w.H s) (rx:RelV x v) (ry:RelV y u) (sr:SRep G w) (r1:Rep G w d1 x) (r2:Rep G w d2 y) (e:memD d1 d2 w.S=some b) (q:Q (.bl (if neg then !b else b)) w.H):
 wpAny (model X.prog X.w) X.A (compareOp op v u) (EP X pins σ Q) X.xe s:=by
 have data:∀ {a:PyData} {xs:List PyData} {isL:Bool},toPy d1=some a→toPy (deref d2 w.S)=some (if isL then .list xs else .tuple xs)→a.depth≤64→b=(xs.any fun z=>PyData.eqv z a)→
  wpAny (model X.prog X.w) X.A (compareOp op v u) (EP X pins σ Q) X.xe s:=fun {a xs isL} h1 h2 hd hb=>by
  obtain⟨p1,c1⟩:=dp_of d1 x a r1 h1
  obtain⟨p2,c2⟩:=deref_rep sr r2 h2
  rw[← hK] at p1 p2
  obtain⟨as,q1⟩:=Dp.reads I a x v p1 rx
  obtain⟨bs,q2⟩:=Dp.reads I _ y u p2 ry
  have room:X.A.units+1+min (PyData.depthAll xs) a.depth<cLine:=by omega
  subst hb
  cases isL<;>cases neg<;>simp only[if_true,Bool.false_eq_true,if_false,PyData.canLay0] at q2 c2 ho q<;>subst ho
  ·exact SeqAt.in_tuple_reads q2 q1 c2 c1 room ⟨.bl _,w.H,I,rfl,q⟩
  ·exact SeqAt.notIn_tuple_reads q2 q1 c2 c1 room ⟨.bl _,w.H,I,rfl,q⟩
  ·exact SeqAt.in_list_reads q2 q1 c2 c1 room ⟨.bl _,w.H,I,rfl,q⟩
  ·exact SeqAt.notIn_list_reads q2 q1 c2 c1 room ⟨.bl _,w.H,I,rfl,q⟩
 have dK:∀ {a:Addr} {kvs:List (Key × D)} {vs:List (Key × V)} {k:Key},y= .ref a→w.H a=some (.dK vs)→RepKV G w kvs vs→keyOf d1=some k→b=(dGet kvs k).isSome→wpAny (model X.prog X.w) X.A (compareOp op v u) (EP X pins σ Q) X.xe s:=fun {a kvs vs k} ey h1 h2 hk hb=>by
  subst ey
  cases ry
  have ex:=keyOf_rep r1 hk
  subst ex
  have g:DGet w.H a (kV k) (valV vs k):=DGet.k h1
  have eb:(valV vs k).isSome=b:=by
   have:=dGet_rep k h2
   rw[hb]
   cases hg:dGet kvs k with
   |none=>rw[hg] at this;simp only at this;rw[this];rfl
   |some d=>rw[hg] at this;simp only at this;obtain⟨z,e1,_⟩:=this;rw[e1];rfl
  cases neg<;>simp only[if_true,Bool.false_eq_true,if_false] at ho q<;>subst ho
  ·exact L2.d_in (by omega) I g rx fun s' I'=>⟨.bl _,w.H,I',rfl,by rw[eb];exact q⟩
  ·exact L2.d_notIn (by omega) I g rx fun s' I'=>⟨.bl _,w.H,I',rfl,by rw[eb];exact q⟩
 have data':∀ {l:List D} {isL:Bool},(if isL then(toPy (.lst l)) else toPy (.tup l))=toPy (deref d2 w.S)→memData (toPy d1) (if isL then(toPy (.lst l)) else toPy (.tup l))=some b→wpAny (model X.prog X.w) X.A (compareOp op v u) (EP X pins σ Q) X.xe s:=fun {l isL} h e=>by
  rw[h] at e
  unfold memData at e
  split at e
  ·rename_i a xs h1 h2
   split at e
   ·cases e;exact data (isL:=true) h1 h2 (by assumption) rfl
   ·cases e
  ·rename_i a xs h1 h2
   split at e
   ·cases e;exact data (isL:=false) h1 h2 (by assumption) rfl
   ·cases e
  ·cases e
 cases d2 with
 |str z=>
  simp only[memD,memStr] at e
  split at e
  ·split at e
   ·rename_i c hc
    simp only[Rep] at r1 r2
    subst r1 r2
    cases e
    cases neg<;>simp only[if_true,Bool.false_eq_true,if_false] at ho q<;>subst ho
    ·exact L2.op_in_sign pins s σ w.H _ _ v u Q I rx ry ⟨_,z,by rw[← str1 hc],rfl,q⟩
    ·exact L2.op_notIn_sign pins s σ w.H _ _ v u Q I rx ry ⟨_,z,by rw[← str1 hc],rfl,q⟩
   ·cases e
  ·cases e
 |kd ks l=>
  simp only[memD,memKd] at e
  split at e
  ·rename_i z
   simp only[Rep] at r1 r2
   subst r1
   obtain⟨a,es,n,vs,us,rfl,kd,hn,hl,rv,_,rl⟩:=r2
   cases e
   have look:=kdAt_look z hl rv rl
   have hb:((ks.zip us).lookup z).isSome=(kdAt ks l z).isSome:=by
    cases hk:kdAt ks l z with
    |none=>rw[hk] at look;simp only at look;rw[look];rfl
    |some d=>rw[hk] at look;simp only at look;obtain⟨_,u',e1,_⟩:=look;rw[e1];rfl
   rw[← hb] at q
   have kd':KDict X.K X.w a es n:=by rw[hK,hw];exact kd
   cases neg<;>simp only[if_true,Bool.false_eq_true,if_false] at ho q<;>subst ho
   ·exact L2.op_in_kd kd' pins s σ w.H _ _ v u Q I rx ry ⟨z,_,rfl,rfl,by rw[hK];exact hn z,q⟩
   ·exact L2.op_notIn_kd kd' pins s σ w.H _ _ v u Q I rx ry ⟨z,_,rfl,rfl,by rw[hK];exact hn z,q⟩
  ·cases e
 |dic ks l=>
  simp only[memD,memKey] at e
  split at e
  ·rename_i k hk
   simp only[Rep] at r2
   obtain⟨a,vs,rfl,h1,nm,hl,h2⟩:=r2
   cases e
   exact dK rfl h1 (zip_kv hl h2) hk rfl
  ·cases e
 |tup l=>exact data' (l:=l) (isL:=false) rfl e
 |lst l=>exact data' (l:=l) (isL:=true) rfl e
 |obj n=>
  simp only[memD] at e
  split at e
  ·rename_i l hn
   exact data' (l:=l) (isL:=true) (by simp[deref,hn]) e
  ·rename_i l hn
   exact data' (l:=l) (isL:=false) (by simp[deref,hn]) e
  ·rename_i kvs hn
   unfold memKey at e
   split at e
   ·rename_i k hk
    cases e
    simp only[Rep] at r2
    obtain⟨a,hm,rfl⟩:=r2
    obtain⟨vs,h1,h2⟩:=sr.obj n _ a hn hm
    exact dK rfl h1 h2 hk rfl
   ·cases e
  ·rename_i kvs hn
   unfold memT at e
   split at e
   ·rename_i k hk
    cases e
    simp only[Rep] at r2
    obtain⟨a,hm,rfl⟩:=r2
    obtain⟨vs,h1,h2⟩:=sr.obj n _ a hn hm
    cases ry
    obtain⟨bb,rfl,eb,_⟩:=tk_rep r1 hk
    have g:DGet w.H a (.ref bb) (valV vs k):=DGet.t h1 eb
    have eb':(valV vs k).isSome=(dGet kvs k).isSome:=by
     have:=dGet_rep k h2
     cases hg:dGet kvs k with
     |none=>rw[hg] at this;simp only at this;rw[this];rfl
     |some d=>rw[hg] at this;simp only at this;obtain⟨z,e1,_⟩:=this;rw[e1];rfl
    cases neg<;>simp only[if_true,Bool.false_eq_true,if_false] at ho q<;>subst ho
    ·exact L2.d_in (by omega) I g rx fun s' I'=>⟨.bl _,w.H,I',rfl,by rw[eb'];exact q⟩
    ·exact L2.d_notIn (by omega) I g rx fun s' I'=>⟨.bl _,w.H,I',rfl,by rw[eb'];exact q⟩
   ·cases e
  ·cases e
 | _=>simp[memD] at e
theorem o_in (hK:X.K=G.K) (hw:X.w=G.w) (hu:X.A.units+65<cLine):OpR X (compareOp .In) (r2 G inD):=by
 intro pins s σ H x y v u Q I rx ry q
 obtain⟨w,d1,d2,rfl,sr,r1,r2,p⟩:=q
 unfold inD at p
 split at p
 ·rename_i b e
  exact mem_ok (neg:=false) hK hw hu rfl I rx ry sr r1 r2 e (Post.ret (Ra:=Rep G) sr (by simp[Rep]) p)
 ·exact p.elim
end
end L3
namespace L3
open PySem PySem.Spec PyProof.Rows L2
def ixD:F2:=fun x y S=>match x with
 | .tup l=>match y with
   | .int i=>match atI l i with
     |some d=> .ok d S
     |none=> .bad
   | _=> .bad
 | .str z=>match y with
   | .int i=>if z.length≤sizeLine then match atI z.cps.toList i with
      |some c=> .ok (sgn c) S
      |none=> .bad
     else .bad
   | _=> .bad
 | .scr ns=>match y with
   | .int i=>match atI ns i with
     |some n=> .ok (.int n) S
     |none=> .bad
   | _=> .bad
 | .kd ks l=>match y with
   | .str z=>match kdAt ks l z with
     |some d=> .ok d S
     |none=> .bad
   | _=> .bad
 | .dic ks l=>match keyOf y with
   |some k=>match dGet (ks.zip l) k with
    |some d=> .ok d S
    |none=> .bad
   |none=> .bad
 | .lst l=>match y with
   | .int i=>match atI l i with
     |some d=> .ok d S
     |none=> .bad
   | _=> .bad
 | .obj n=>match S[n]? with
   |some (.lst l)=>match y with
    | .int i=>match atI l i with
      |some d=> .ok d S
      |none=> .bad
    | _=> .bad
   |some (.dK kvs)=>match keyOf y with
    |some k=>match dGet kvs k with
     |some d=> .ok d S
     |none=> .bad
    |none=> .bad
   |some (.dT kvs)=>match tkOf y with
    |some k=>match dGet kvs k with
     |some d=> .ok d S
     |none=> .bad
    |none=> .bad
   | _=> .bad
 | _=> .bad
section
variable {G:GC} {X:Cx} {w:Wd}
theorem c_ix:Calm2 ixD:=fun x y S=>by unfold ixD;repeat' split
                                      all_goals trivial
theorem RepL.at {l:List D} {vs:List V} {i:Int} {d:D} (r:RepL G w l vs) (e:atI l i=some d):∃v,atI vs i=some v∧Rep G w d v:=by
 unfold atI at e ⊢
 rw[r.length]
 cases h:ixN l.length i with
 |none=>rw[h] at e;cases e
 |some j=>
  rw[h] at e
  exact r.get e
theorem ix_dk (hu:X.A.units+1<cLine):IxR X (fun x y H Q=>∃a v,x= .ref a∧DGet H a y (some v)∧Q v H):=by
 intro value slice pins s σ H x y v u Q I rx ry h hs
 obtain⟨a,z,rfl,g,q⟩:=h
 cases rx
 exact tail_any (dict_typeIs I g) PySem.F.slot_dict_getitem.lookup (d_getItem hu I g ry fun w' s' I' r'=>⟨z,H,I',r',q⟩) hs
theorem o_ix (hK:X.K=G.K) (hw:X.w=G.w) (hu:X.A.units+1<cLine):IxR X (r2 G ixD):=by
 refine ixI2 ((ix_seq (X:=X)).or (ix_kdict.or (ix_dk hu))) fun x y H Q q=> ?_
 obtain⟨w,d1,d2,rfl,sr,r1,r2,p⟩:=q
 have dk:∀ {a:Addr} {kvs:List (Key × D)} {vs:List (Key × V)} {k:Key} {d:D},x= .ref a→w.H a=some (.dK vs)→RepKV G w kvs vs→keyOf d2=some k→dGet kvs k=some d→Post G w (.ok d w.S) (Rep G) Q (fun _ _ _=>False)→
  ∃a v,x=V.ref a∧DGet w.H a y (some v)∧Q v w.H:=fun {a kvs vs k d} ex h1 h2 hk hd p=>by
  have ey:=keyOf_rep r2 hk
  have:=dGet_rep k h2
  rw[hd] at this
  obtain⟨v,e1,e2⟩:=this
  exact⟨a,v,ex,by rw[ey,←e1];exact DGet.k h1,Post.ret sr e2 p⟩
 have lst:∀ {l:List D} {i:Int} {d:D},asL d1 w.S=some l→atI l i=some d→d2= .int i→Post G w (.ok d w.S) (Rep G) Q (fun _ _ _=>False)→rIx X.K x y w.H Q:=fun {l i d} h1 h2 h3 p'=>by
  subst h3
  simp only[Rep] at r2
  obtain⟨a,vs,rfl,e1,rl⟩:=asL_rep sr r1 h1
  obtain⟨v,e2,rv⟩:=rl.at h2
  exact .inl ⟨a,vs,i,v,rfl,r2,SqL.of e1,e2,Post.ret sr rv p'⟩
 cases d1 with
 |tup l=>
  simp only[ixD] at p
  split at p
  ·rename_i i
   split at p
   ·rename_i d hd
    simp only[Rep] at r1 r2
    obtain⟨a,vs,rfl,h1,rl⟩:=r1
    obtain⟨v,e2,rv⟩:=rl.at hd
    exact .inl (.inr (.inl ⟨a,vs,i,v,rfl,r2,by rw[hK];exact SqT_of h1,e2,Post.ret sr rv p⟩))
   ·exact p.elim
  ·exact p.elim
 |str z=>
  simp only[ixD] at p
  split at p
  ·rename_i i
   split at p
   ·rename_i hz
    split at p
    ·rename_i c hc
     simp only[Rep] at r1 r2
     exact .inl (.inr (.inr ⟨z,i,c,r1,r2,hz,hc,Post.ret (Ra:=Rep G) sr (by simp[Rep,sgn]) p⟩))
    ·exact p.elim
   ·exact p.elim
  ·exact p.elim
 |scr ns=>
  simp only[ixD] at p
  split at p
  ·rename_i i
   split at p
   ·rename_i n hn
    simp only[Rep] at r1 r2
    obtain⟨a,rfl,h1⟩:=r1
    refine .inl (.inl ⟨a,ns.map V.int,i, .int n,rfl,r2,by rw[hK];exact h1.imp (fun z=>z.1) id,?_,Post.ret (Ra:=Rep G) sr (by simp[Rep]) p⟩)
    unfold atI at hn ⊢
    rw[List.length_map]
    cases h:ixN ns.length i with
    |none=>rw[h] at hn;cases hn
    |some j=>rw[h] at hn;simp only[Option.bind] at hn ⊢;rw[List.getElem?_map,hn];rfl
   ·exact p.elim
  ·exact p.elim
 |kd ks l=>
  simp only[ixD] at p
  split at p
  ·rename_i z
   split at p
   ·rename_i d hd
    simp only[Rep] at r1 r2
    obtain⟨a,es,n,vs,us,rfl,kd,hn,hl,rv,_,rl⟩:=r1
    have look:=kdAt_look z hl rv rl
    rw[hd] at look
    obtain⟨v,u,e1,e2,e3⟩:=look
    refine .inr (.inl ⟨a,z,v,rfl,r2,⟨es,n,u,by rw[hK];exact kd.at_,by rw[hw];exact kd.lit,by rw[hK,hn z,e1],e2⟩,Post.ret sr e3 p⟩)
   ·exact p.elim
  ·exact p.elim
 |dic ks l=>
  simp only[ixD] at p
  split at p
  ·rename_i k hk
   split at p
   ·rename_i d hd
    simp only[Rep] at r1
    obtain⟨a,vs,rfl,h1,nm,hl,h2⟩:=r1
    exact .inr (.inr (dk rfl h1 (zip_kv hl h2) hk hd p))
   ·exact p.elim
  ·exact p.elim
 |lst l=>
  simp only[ixD] at p
  split at p
  ·split at p
   ·rename_i d hd
    exact .inl (lst rfl hd rfl p)
   ·exact p.elim
  ·exact p.elim
 |obj n=>
  simp only[ixD] at p
  split at p
  ·rename_i l hn
   split at p
   ·split at p
    ·rename_i d hd
     exact .inl (lst (by simp[asL,hn]) hd rfl p)
    ·exact p.elim
   ·exact p.elim
  ·rename_i kvs hn
   split at p
   ·rename_i k hk
    split at p
    ·rename_i d hd
     simp only[Rep] at r1
     obtain⟨a,hm,rfl⟩:=r1
     obtain⟨vs,h1,h2⟩:=sr.obj n _ a hn hm
     exact .inr (.inr (dk rfl h1 h2 hk hd p))
    ·exact p.elim
   ·exact p.elim
  ·rename_i kvs hn
   split at p
   ·rename_i k hk
    split at p
    ·rename_i d hd
     simp only[Rep] at r1
     obtain⟨a,hm,rfl⟩:=r1
     obtain⟨vs,h1,h2⟩:=sr.obj n _ a hn hm
     obtain⟨bb,rfl,eb,_⟩:=tk_rep r2 hk
     have:=dGet_rep k h2
     rw[hd] at this
     obtain⟨v,e1,e2⟩:=this
     exact .inr (.inr ⟨a,v,rfl,by rw[← e1];exact DGet.t h1 eb,Post.ret sr e2 p⟩)
    ·exact p.elim
   ·exact p.elim
  ·exact p.elim
 | _=>exact p.elim
def tyD (x:D) (S:Store):Option String:=match x with
 | .non=>some "NoneType"
 | .bl _=>some "bool"
 | .int _=>some "int"
 | .str _=>some "str"
 | .tup _=>some "tuple"
 | .lst _=>some "list"
 | .dic _ _=>some "dict"
 | .kd _ _=>some "dict"
 | .obj n=>match S[n]? with
   |some (.lst _)=>some "list"
   |some (.dK _)=>some "dict"
   |some (.dT _)=>some "dict"
   | _=>none
 | _=>none
def isiD:FN:=fun xs S=>match xs with
 | [x, .ty T] =>match tyD x S with
   |some t=>match kitB t T with
    |some b=> .ok (.bl b) S
    |none=> .bad
   |none=> .bad
 | _=> .bad
theorem c_isi:CalmN isiD:=fun xs S=>by unfold isiD;repeat' split
                                       all_goals trivial
theorem tyx {x:D} {v:V} {t:String} (sr:SRep G w) (r:Rep G w x v) (e:tyD x w.S=some t):TyX G.K w.H v (.type t):=by
 cases x with
 |non=>simp only[Rep] at r;cases e;subst r;exact .base .non
 |bl b=>simp only[Rep] at r;cases e;subst r;exact .base (.bl b)
 |int i=>simp only[Rep] at r;cases e;subst r;exact .base (.int i)
 |str s=>simp only[Rep] at r;cases e;subst r;exact .base (.str s)
 |tup l=>
  simp only[Rep] at r
  cases e
  obtain⟨a,vs,rfl,h1,_⟩:=r
  rcases h1 with⟨h,_⟩|⟨⟨o,its,n,h,hc,_⟩,_⟩
  ·exact .base (.tup h)
  ·exact .kTuple h hc
 |lst l=>
  simp only[Rep] at r
  cases e
  obtain⟨a,vs,rfl,h1,_⟩:=r
  exact .base (.lst h1)
 |dic ks l=>
  simp only[Rep] at r
  cases e
  obtain⟨a,vs,rfl,h1,_⟩:=r
  exact .base (.dK h1)
 |kd ks l=>
  simp only[Rep] at r
  cases e
  obtain⟨a,es,n,vs,us,rfl,kd,_⟩:=r
  exact .kDict kd.at_ rfl
 |obj n=>
  simp only[Rep] at r
  obtain⟨a,hm,rfl⟩:=r
  simp only[tyD] at e
  split at e
  ·rename_i l hn
   cases e
   obtain⟨vs,h1,_⟩:=sr.obj n _ a hn hm
   exact .base (.lst h1)
  ·rename_i l hn
   cases e
   obtain⟨vs,h1,_⟩:=sr.obj n _ a hn hm
   exact .base (.dK h1)
  ·rename_i l hn
   cases e
   obtain⟨vs,h1,_⟩:=sr.obj n _ a hn hm
   exact .base (.dT h1)
  ·cases e
 | _=>cases e
theorem o_isi (hK:X.K=G.K):CallR X (.builtin "isinstance") (rN G isiD):=by
 refine caI2 call_isi fun xs H Q q=> ?_
 obtain⟨w,ds,rfl,sr,rl,p⟩:=q
 unfold isiD at p
 split at p
 ·rename_i x T
  split at p
  ·rename_i t ht
   split at p
   ·rename_i b hb
    simp only[RepL,Rep] at rl
    obtain⟨v,r',rfl,r1,v2,r'',rfl,rfl,rfl⟩:=rl
    exact⟨v, .ty T, .type t, .type T,b,rfl, .ty T,by rw[hK];exact tyx sr r1 ht,kit_ty hb,Post.ret (Ra:=Rep G) sr (by simp[Rep]) p⟩
   ·exact p.elim
  ·exact p.elim
 ·exact p.elim
def lenD:FN:=fun xs S=>match xs with
 | [.tup l] => .ok (.int l.length) S
 | [.str s] =>if s.length≤sizeLine then .ok (.int s.length) S else .bad
 | [.scr ns] => .ok (.int ns.length) S
 | [x] =>match asL x S with
   |some l=> .ok (.int l.length) S
   |none=> .bad
 | _=> .bad
theorem c_len:CalmN lenD:=fun xs S=>by unfold lenD;repeat' split
                                       all_goals trivial
theorem o_len (hK:X.K=G.K):CallR X (.builtin "len") (rN G lenD):=by
 refine caI2 call_len fun xs H Q q=> ?_
 obtain⟨w,ds,rfl,sr,rl,p⟩:=q
 unfold lenD at p
 split at p
 ·rename_i l
  simp only[RepL,Rep] at rl
  obtain⟨v,r',rfl,⟨a,vs,rfl,h1,r1⟩,rfl⟩:=rl
  exact⟨.ref a,l.length,rfl, .inr ⟨vs,by rw[hK];exact SqT_of h1,r1.length.symm⟩,Post.ret (Ra:=Rep G) sr (by simp[Rep]) p⟩
 ·split at p
  ·rename_i s hs
   simp only[RepL,Rep] at rl
   obtain⟨v,r',rfl,rfl,rfl⟩:=rl
   exact⟨.str s,s.length,rfl,⟨hs,rfl⟩,Post.ret (Ra:=Rep G) sr (by simp[Rep]) p⟩
  ·exact p.elim
 ·rename_i ns
  simp only[RepL,Rep] at rl
  obtain⟨v,r',rfl,⟨a,rfl,h1⟩,rfl⟩:=rl
  exact⟨.ref a,ns.length,rfl, .inl ⟨ns.map V.int,by rw[hK];exact h1.imp (fun z=>z.1) id,by simp⟩,Post.ret (Ra:=Rep G) sr (by simp[Rep]) p⟩
 ·split at p
  ·rename_i l hl
   simp only[RepL] at rl
   obtain⟨v,r',rfl,r1,rfl⟩:=rl
   obtain⟨a,vs,rfl,h1,r2⟩:=asL_rep sr r1 hl
   exact⟨.ref a,l.length,rfl, .inl ⟨vs,SqL.of h1,r2.length.symm⟩,Post.ret (Ra:=Rep G) sr (by simp[Rep]) p⟩
  ·exact p.elim
 ·exact p.elim
def allBls:List D→Option (List Bool)
 | [] =>some []
 | .bl b::r=>(allBls r).map (b:: ·)
 | _=>none
def allInts:List D→Option (List Int)
 | [] =>some []
 | .int b::r=>(allInts r).map (b:: ·)
 | _=>none
theorem allBls_rep:∀ {l:List D} {vs:List V} {bs:List Bool},RepL G w l vs→allBls l=some bs→vs=bs.map V.bl
 | [],vs,bs,r,e=>by simp only[RepL] at r;cases e;exact r
 |d::ds,vs,bs,r,e=>by
  simp only[RepL] at r
  obtain⟨v,r',rfl,h1,h2⟩:=r
  cases d with
  |bl b=>
   simp only[allBls,Option.map_eq_some_iff] at e
   obtain⟨bs',e1,rfl⟩:=e
   simp only[Rep] at h1
   rw[h1,allBls_rep h2 e1]
   rfl
  | _=>simp[allBls] at e
theorem allInts_rep:∀ {l:List D} {vs:List V} {bs:List Int},RepL G w l vs→allInts l=some bs→vs=bs.map V.int
 | [],vs,bs,r,e=>by simp only[RepL] at r;cases e;exact r
 |d::ds,vs,bs,r,e=>by
  simp only[RepL] at r
  obtain⟨v,r',rfl,h1,h2⟩:=r
  cases d with
  |int b=>
   simp only[allInts,Option.map_eq_some_iff] at e
   obtain⟨bs',e1,rfl⟩:=e
   simp only[Rep] at h1
   rw[h1,allInts_rep h2 e1]
   rfl
  | _=>simp[allInts] at e
def allD:FN:=fun xs S=>match xs with
 | [x] =>match(asL x S).bind allBls with
   |some bs=> .ok (.bl (bs.all id)) S
   |none=> .bad
 | _=> .bad
theorem c_all:CalmN allD:=fun xs S=>by unfold allD;repeat' split
                                       all_goals trivial
theorem asL_allBls {x:D} {v:V} {bs:List Bool} (sr:SRep G w) (r:Rep G w x v) (e:(asL x w.S).bind allBls=some bs):∃a,v= .ref a∧w.H a=some (.lst (bs.map V.bl)):=by
 cases h:asL x w.S with
 |none=>rw[h] at e;cases e
 |some l=>
  rw[h] at e
  obtain⟨a,vs,rfl,h1,h2⟩:=asL_rep sr r h
  exact⟨a,rfl,by rw[h1,allBls_rep h2 e]⟩
theorem asL_allInts {x:D} {v:V} {bs:List Int} (sr:SRep G w) (r:Rep G w x v) (e:(asL x w.S).bind allInts=some bs):∃a,v= .ref a∧w.H a=some (.lst (bs.map V.int)):=by
 cases h:asL x w.S with
 |none=>rw[h] at e;cases e
 |some l=>
  rw[h] at e
  obtain⟨a,vs,rfl,h1,h2⟩:=asL_rep sr r h
  exact⟨a,rfl,by rw[h1,allInts_rep h2 e]⟩
theorem o_all (hc:X.calm=true):CallR X (.builtin "all") (rN G allD):=by
 refine caI2 (cr_all hc) fun xs H Q q=> ?_
 obtain⟨w,ds,rfl,sr,rl,p⟩:=q
 unfold allD at p
 split at p
 ·split at p
  ·rename_i bs hb
   simp only[RepL] at rl
   obtain⟨v,r',rfl,r1,rfl⟩:=rl
   obtain⟨a,rfl,h⟩:=asL_allBls sr r1 hb
   exact⟨a,bs,rfl,SqL.of h,Post.ret (Ra:=Rep G) sr (by simp[Rep]) p⟩
  ·exact p.elim
 ·exact p.elim
def maxI:List Int→Option Int
 | [] =>none
 |n::ns=>some (ns.foldl (fun m x=>if x>m then x else m) n)
def minI:List Int→Option Int
 | [] =>none
 |n::ns=>some (ns.foldl (fun m x=>if x<m then x else m) n)
theorem fold_max:∀(ns:List Int) (n:Int),(ns.foldl (fun m x=>if x>m then x else m) n=n∨ns.foldl (fun m x=>if x>m then x else m) n ∈ ns)∧n≤ns.foldl (fun m x=>if x>m then x else m) n∧∀y ∈ ns,y≤ns.foldl (fun m x=>if x>m then x else m) n
 | [],n=>⟨.inl rfl,Int.le_refl _,fun y h=>by simp at h⟩
 |a::ns,n=>by
  obtain⟨m,hm⟩:∃m,m=if a>n then a else n:=⟨_,rfl⟩
  have hm':(n≤m∧a≤m)∧(m=a∨m=n):=by rw[hm];split<;>omega
  simp only[List.foldl_cons]
  rw[← hm]
  obtain⟨h1,h2,h3⟩:=fold_max ns m
  refine⟨?_,by omega,fun y hy=> ?_⟩
  ·rcases h1 with h1|h1
   ·rw[h1]
    rcases hm'.2 with e|e
    ·exact .inr (by simp[e])
    ·exact .inl e
   ·exact .inr (by simp[h1])
  ·rcases List.mem_cons.mp hy with e|hy
   ·subst e;omega
   ·exact h3 y hy
theorem fold_min:∀(ns:List Int) (n:Int),(ns.foldl (fun m x=>if x<m then x else m) n=n∨ns.foldl (fun m x=>if x<m then x else m) n ∈ ns)∧ns.foldl (fun m x=>if x<m then x else m) n≤n∧∀y ∈ ns,ns.foldl (fun m x=>if x<m then x else m) n≤y
 | [],n=>⟨.inl rfl,Int.le_refl _,fun y h=>by simp at h⟩
 |a::ns,n=>by
  obtain⟨m,hm⟩:∃m,m=if a<n then a else n:=⟨_,rfl⟩
  have hm':(m≤n∧m≤a)∧(m=a∨m=n):=by rw[hm];split<;>omega
  simp only[List.foldl_cons]
  rw[← hm]
  obtain⟨h1,h2,h3⟩:=fold_min ns m
  refine⟨?_,by omega,fun y hy=> ?_⟩
  ·rcases h1 with h1|h1
   ·rw[h1]
    rcases hm'.2 with e|e
    ·exact .inr (by simp[e])
    ·exact .inl e
   ·exact .inr (by simp[h1])
  ·rcases List.mem_cons.mp hy with e|hy
   ·subst e;omega
   ·exact h3 y hy
theorem maxI_eq {ns:List Int} {m k:Int} (h:maxI ns=some k) (h1:m ∈ ns) (h2:∀y ∈ ns,y≤m):m=k:=by
 cases ns with
 |nil=>cases h
 |cons n ns=>
  cases h
  obtain⟨a1,a2,a3⟩:=fold_max ns n
  have le1:ns.foldl (fun m x=>if x>m then x else m) n≤m:=by
   rcases a1 with e|e
   ·rw[e];exact h2 n (by simp)
   ·exact h2 _ (by simp[e])
  have le2:m≤ns.foldl (fun m x=>if x>m then x else m) n:=by
   rcases List.mem_cons.mp h1 with e|e
   ·rw[e];exact a2
   ·exact a3 m e
  omega
theorem minI_eq {ns:List Int} {m k:Int} (h:minI ns=some k) (h1:m ∈ ns) (h2:∀y ∈ ns,m≤y):m=k:=by
 cases ns with
 |nil=>cases h
 |cons n ns=>
  cases h
  obtain⟨a1,a2,a3⟩:=fold_min ns n
  have le1:m≤ns.foldl (fun m x=>if x<m then x else m) n:=by
   rcases a1 with e|e
   ·rw[e];exact h2 n (by simp)
   ·exact h2 _ (by simp[e])
  have le2:ns.foldl (fun m x=>if x<m then x else m) n≤m:=by
   rcases List.mem_cons.mp h1 with e|e
   ·rw[e];exact a2
   ·exact a3 m e
  omega
def maxD:FN:=fun xs S=>match xs with
 | [.int i, .int j] => .ok (.int (if j>i then j else i)) S
 | [x] =>match((asL x S).bind allInts).bind maxI with
   |some m=> .ok (.int m) S
   |none=> .bad
 | _=> .bad
def minD:FN:=fun xs S=>match xs with
 | [.int i, .int j] => .ok (.int (if j<i then j else i)) S
 | [x] =>match((asL x S).bind allInts).bind minI with
   |some m=> .ok (.int m) S
   |none=> .bad
 | _=> .bad
theorem c_max:CalmN maxD:=fun xs S=>by unfold maxD;repeat' split
                                       all_goals trivial
theorem c_min:CalmN minD:=fun xs S=>by unfold minD;repeat' split
                                       all_goals trivial
theorem o_max (hc:X.calm=true):CallR X (.builtin "max") (rN G maxD):=by
 refine caI2 ((call_max2 hc).or (cr_max hc)) fun xs H Q q=> ?_
 obtain⟨w,ds,rfl,sr,rl,p⟩:=q
 unfold maxD at p
 split at p
 ·simp only[RepL,Rep] at rl
  obtain⟨v,r',rfl,rfl,v2,r'',rfl,rfl,rfl⟩:=rl
  exact .inl ⟨_,_,rfl,Post.ret (Ra:=Rep G) sr (by simp[Rep]) p⟩
 ·split at p
  ·rename_i m hm
   simp only[RepL] at rl
   obtain⟨v,r',rfl,r1,rfl⟩:=rl
   cases h:(asL _ w.S).bind allInts with
   |none=>rw[h] at hm;cases hm
   |some ns=>
    rw[h] at hm
    obtain⟨a,rfl,ha⟩:=asL_allInts sr r1 h
    refine .inr ⟨a,ns,rfl,SqL.of ha,?_,fun k hk hle=> ?_⟩
    ·cases ns with
     |nil=>cases hm
     |cons _ _=>simp
    ·rw[maxI_eq hm hk hle]
     exact Post.ret (Ra:=Rep G) sr (by simp[Rep]) p
  ·exact p.elim
 ·exact p.elim
theorem o_min (hc:X.calm=true):CallR X (.builtin "min") (rN G minD):=by
 refine caI2 ((call_min2 hc).or (cr_min hc)) fun xs H Q q=> ?_
 obtain⟨w,ds,rfl,sr,rl,p⟩:=q
 unfold minD at p
 split at p
 ·simp only[RepL,Rep] at rl
  obtain⟨v,r',rfl,rfl,v2,r'',rfl,rfl,rfl⟩:=rl
  exact .inl ⟨_,_,rfl,Post.ret (Ra:=Rep G) sr (by simp[Rep]) p⟩
 ·split at p
  ·rename_i m hm
   simp only[RepL] at rl
   obtain⟨v,r',rfl,r1,rfl⟩:=rl
   cases h:(asL _ w.S).bind allInts with
   |none=>rw[h] at hm;cases hm
   |some ns=>
    rw[h] at hm
    obtain⟨a,rfl,ha⟩:=asL_allInts sr r1 h
    refine .inr ⟨a,ns,rfl,SqL.of ha,?_,fun k hk hle=> ?_⟩
    ·cases ns with
     |nil=>cases hm
     |cons _ _=>simp
    ·rw[minI_eq hm hk hle]
     exact Post.ret (Ra:=Rep G) sr (by simp[Rep]) p
  ·exact p.elim
 ·exact p.elim
def absD:FN:=fun xs S=>match xs with
 | [.int i] => .ok (.int (if i<0 then -i else i)) S
 | _=> .bad
def intD:FN:=fun xs S=>match xs with
 | [.int i] => .ok (.int i) S
 | [.bl k] => .ok (.int (if k then 1 else 0)) S
 | _=> .bad
theorem c_abs:CalmN absD:=fun xs S=>by unfold absD;repeat' split
                                       all_goals trivial
theorem c_int:CalmN intD:=fun xs S=>by unfold intD;repeat' split
                                       all_goals trivial
theorem o_abs:CallR X (.builtin "abs") (rN G absD):=by
 refine caI2 call_abs fun xs H Q q=> ?_
 obtain⟨w,ds,rfl,sr,rl,p⟩:=q
 unfold absD at p
 split at p
 ·simp only[RepL,Rep] at rl
  obtain⟨v,r',rfl,rfl,rfl⟩:=rl
  exact⟨_,rfl,Post.ret (Ra:=Rep G) sr (by simp[Rep]) p⟩
 ·exact p.elim
theorem o_int:CallR X (.type "int") (rN G intD):=by
 refine caI2 call_int1 fun xs H Q q=> ?_
 obtain⟨w,ds,rfl,sr,rl,p⟩:=q
 unfold intD at p
 split at p
 ·simp only[RepL,Rep] at rl
  obtain⟨v,r',rfl,rfl,rfl⟩:=rl
  exact .inl ⟨_,rfl,Post.ret (Ra:=Rep G) sr (by simp[Rep]) p⟩
 ·simp only[RepL,Rep] at rl
  obtain⟨v,r',rfl,rfl,rfl⟩:=rl
  exact .inr ⟨_,rfl,Post.ret (Ra:=Rep G) sr (by simp[Rep]) p⟩
 ·exact p.elim
def tupleD:FN:=fun xs S=>match xs with
 | [.tup l] => .ok (.tup l) S
 | [x] =>match asL x S with
   |some l=> .ok (.tup l) S
   |none=> .bad
 | _=> .bad
def listD:FN:=fun xs S=>match xs with
 | [.tup l] => .ok (.lst l) S
 | [.scr ns] => .ok (.lst (ns.map .int)) S
 | [x] =>match asL x S with
   |some l=> .ok (.lst l) S
   |none=> .bad
 | _=> .bad
theorem c_tuple:CalmN tupleD:=fun xs S=>by unfold tupleD;repeat' split
                                           all_goals trivial
theorem c_list:CalmN listD:=fun xs S=>by unfold listD;repeat' split
                                         all_goals trivial
theorem o_tuple (hK:X.K=G.K):CallR X (.type "tuple") (rN G tupleD):=by
 refine caI2 call_tuple_of fun xs H Q q=> ?_
 obtain⟨w,ds,rfl,sr,rl,p⟩:=q
 unfold tupleD at p
 split at p
 ·simp only[RepL] at rl
  obtain⟨v,r',rfl,r1,rfl⟩:=rl
  have r1':=r1
  simp only[Rep] at r1
  obtain⟨a,vs,rfl,h1,r2⟩:=r1
  exact⟨a,vs,rfl, .inr ⟨by rw[hK];exact SqT_of h1,Post.ret (Ra:=Rep G) sr r1' p⟩⟩
 ·split at p
  ·rename_i l hl
   simp only[RepL] at rl
   obtain⟨v,r',rfl,r1,rfl⟩:=rl
   obtain⟨a,vs,rfl,h1,r2⟩:=asL_rep sr r1 hl
   exact⟨a,vs,rfl, .inl ⟨SqL.of h1,fun p' hp'=>new_tup sr r2 p p' hp'⟩⟩
  ·exact p.elim
 ·exact p.elim
theorem o_list (hK:X.K=G.K):CallR X (.type "list") (rN G listD):=by
 refine caI2 call_list_of fun xs H Q q=> ?_
 obtain⟨w,ds,rfl,sr,rl,p⟩:=q
 unfold listD at p
 split at p
 ·simp only[RepL,Rep] at rl
  obtain⟨v,r',rfl,⟨a,vs,rfl,h1,r2⟩,rfl⟩:=rl
  exact⟨a,vs,rfl, .inr (by rw[hK];exact SqT_of h1),fun p' hp'=>new_lst (S:=w.S) sr r2 p p' hp'⟩
 ·simp only[RepL,Rep] at rl
  obtain⟨v,r',rfl,⟨a,rfl,h1⟩,rfl⟩:=rl
  exact⟨a,_,rfl, .inl (by rw[hK];exact h1.imp (fun z=>z.1) id),fun p' hp'=>new_lst (S:=w.S) sr (RepL_ints.mpr rfl) p p' hp'⟩
 ·split at p
  ·rename_i l hl
   simp only[RepL] at rl
   obtain⟨v,r',rfl,r1,rfl⟩:=rl
   obtain⟨a,vs,rfl,h1,r2⟩:=asL_rep sr r1 hl
   exact⟨a,vs,rfl, .inl (SqL.of h1),fun p' hp'=>new_lst (S:=w.S) sr r2 p p' hp'⟩
  ·exact p.elim
 ·exact p.elim
end
end L3
namespace L3
open PySem PySem.Spec PyProof.Rows L2
section
variable {G:GC} {X:Cx} {Wx:WX} {pos:Pos} {w:Wd}
theorem q_tup {es:List Expr} {x1} {m:AD} (h:PA X es (tA G m Wx)):PE X (.Tuple es x1 pos) (tE G (eN mkTup m) Wx):=peI (pe_tup h) fun σ H Q q=>by
 obtain⟨w,env,rfl,sr,er,p⟩:=q
 refine⟨w,env,rfl,sr,er,(Post.bind (Ra:=RepL G) p).mono (fun x H1 m=> ?_) fun _ _ _ h=>h⟩
 obtain⟨w1,d1,rfl,x1,s1,rp1,p1⟩:=m
 unfold mkTup at p1
 split at p1
 ·exact⟨by rw[rp1.length];assumption,fun p' hp'=>new_tup s1 rp1 p1 p' hp'⟩
 ·exact p1.elim
theorem q_lst {es:List Expr} {m:AD} (h:PA X es (tA G m Wx)):PE X (.List es pos) (tE G (eN mkLst m) Wx):=peI (pe_lst h) fun σ H Q q=>by
 obtain⟨w,env,rfl,sr,er,p⟩:=q
 refine⟨w,env,rfl,sr,er,(Post.bind (Ra:=RepL G) p).mono (fun x H1 m=> ?_) fun _ _ _ h=>h⟩
 obtain⟨w1,d1,rfl,x1,s1,rp1,p1⟩:=m
 unfold mkLst at p1
 split at p1
 ·exact⟨by rw[rp1.length];assumption,fun p' hp'=>new_lst (S:=w1.S) s1 rp1 p1 p' hp'⟩
 ·exact p1.elim
theorem q_obj {es:List Expr} {m:AD} (h:PA X es (tA G m Wx)):PE X (.List es pos) (tE G (eN mkObj m) Wx):=peI (pe_lst h) fun σ H Q q=>by
 obtain⟨w,env,rfl,sr,er,p⟩:=q
 refine⟨w,env,rfl,sr,er,(Post.bind (Ra:=RepL G) p).mono (fun x H1 m=> ?_) fun _ _ _ h=>h⟩
 obtain⟨w1,d1,rfl,x1,s1,rp1,p1⟩:=m
 unfold mkObj at p1
 split at p1
 ·exact⟨by rw[rp1.length];assumption,fun p' hp'=>new_lobj s1 rp1 p1 p' hp'⟩
 ·exact p1.elim
theorem tOfE_post {a:ED} {β :Type} {env:EnvD} {f:Bool→Store→R D} {Q:VK} {E:Value→Option Addr→Hp→Prop} (p:Post G w ((tOfE a env w.S).bind f) (Rep G) Q E):
 Post G w (a env w.S) (Rep G) (Mid G w (Rep G) fun w1 d=>∃k,d= .bl k∧Post G w1 (f k w1.S) (Rep G) Q E) E:=by
 unfold tOfE at p
 rw[R.bind_assoc] at p
 refine(Post.bind (Ra:=Rep G) p).mono (fun x H1 m=> ?_) fun _ _ _ h=>h
 obtain⟨w1,d1,rfl,x1,s1,rp1,p1⟩:=m
 refine⟨w1,d1,rfl,x1,s1,rp1,?_⟩
 cases d1 with
 |bl k=>exact⟨k,rfl,p1⟩
 | _=>exact p1.elim
theorem q_eone {op} {a:Expr} {m:ED} (h:PE X a (tE G m Wx)):PE X (.BoolOp op [a] pos) (tE G m Wx):=pe_one h
theorem q_eand {a b:Expr} {rest:List Expr} {ma mb:ED} (ha:PE X a (tE G ma Wx)) (hb:PE X (.BoolOp .And (b::rest) pos) (tE G mb Wx)):PE X (.BoolOp .And (a::b::rest) pos) (tE G (eAnd ma mb) Wx):=peI (pe_and ha hb) fun σ H Q q=>by
 obtain⟨w,env,rfl,sr,er,p⟩:=q
 refine⟨w,env,rfl,sr,er,(tOfE_post (β :=D) p).mono (fun x H1 m=> ?_) fun _ _ _ h=>h⟩
 obtain⟨w1,d1,rfl,x1,s1,rp1,k,rfl,p1⟩:=m
 simp only[Rep] at rp1
 refine⟨k,rp1,?_⟩
 cases k with
 |true=>exact iteT ⟨w1,env,rfl,s1,er.mono x1,p1⟩
 |false=>exact iteF (Post.ret (Ra:=Rep G) s1 (by simp[Rep]) p1)
theorem q_enot {a:Expr} {ma:ED} (ha:PE X a (tE G ma Wx)):PE X (.UnaryOp .Not a pos) (tE G (eNot ma) Wx):=peI (pe_not ha) fun σ H Q q=>by
 obtain⟨w,env,rfl,sr,er,p⟩:=q
 refine⟨w,env,rfl,sr,er,(tOfE_post (β :=D) p).mono (fun x H1 m=> ?_) fun _ _ _ h=>h⟩
 obtain⟨w1,d1,rfl,x1,s1,rp1,k,rfl,p1⟩:=m
 simp only[Rep] at rp1
 exact⟨k,rp1,Post.ret (Ra:=Rep G) s1 (by simp[Rep]) p1⟩
theorem imp_chain {f g:F2} {a b c:ED} (cf:Calm2 f) (cg:Calm2 g):∀ σ H Q,tE G (eChain f g a b c) Wx σ H Q→tChain (r2 G f) (r2 G g) (tE G a Wx) (tE G b Wx) (tE G c Wx) σ H Q:=by
 intro σ H Q q
 obtain⟨w,env,rfl,sr,er,p⟩:=q
 refine⟨w,env,rfl,sr,er,(Post.bind (Ra:=Rep G) p).mono (fun x H1 m=> ?_) fun _ _ _ h=>h⟩
 obtain⟨w1,d1,rfl,x1,s1,rp1,p1⟩:=m
 refine⟨w1,env,rfl,s1,er.mono x1,(Post.bind (Ra:=Rep G) p1).mono (fun y H2 m=> ?_) fun _ _ _ h=>h⟩
 obtain⟨w2,d2,rfl,x2,s2,rp2,p2⟩:=m
 refine⟨w2,d1,d2,rfl,s2,Rep.mono x2 _ _ rp1,rp2,((Post.bind (Ra:=Rep G) p2).mono (fun z H3 m=> ?_) fun _ _ _ h=>h).calm (cf _ _ _)⟩
 obtain⟨w3,d3,rfl,x3,s3,rp3,p3⟩:=m
 cases d3 with
 |bl k=>
  simp only[Rep] at rp3
  refine⟨k,rp3,?_⟩
  cases k with
  |false=>exact iteF (Post.ret (Ra:=Rep G) s3 (by simp[Rep]) p3)
  |true=>
   refine iteT ⟨w3,env,rfl,s3,((er.mono x1).mono x2).mono x3,(Post.bind (Ra:=Rep G) p3).mono (fun z H4 m=> ?_) fun _ _ _ h=>h⟩
   obtain⟨w4,d4,rfl,x4,s4,rp4,p4⟩:=m
   exact⟨w4,d2,d4,rfl,s4,Rep.mono (WX'.trans x3 x4) _ _ rp2,rp4,p4.calm (cg _ _ _)⟩
 | _=>exact p3.elim
theorem q_chain {op op':CmpOp} {f g:F2} {a b c:Expr} {ma mb mc:ED} (ho:OpR X (compareOp op) (r2 G f)) (cf:Calm2 f) (ho':OpR X (compareOp op') (r2 G g)) (cg:Calm2 g) (ha:PE X a (tE G ma Wx)) (hb:PE X b (tE G mb Wx)) (hc:PE X c (tE G mc Wx))
 (hm:lastMarks [op,op'] [b,c] =false:=by with_unfolding_all rfl):PE X (.Compare a [op,op'] [b,c] pos) (tE G (eChain f g ma mb mc) Wx):=peI (pe_chain ho ho' ha hb hc hm) (imp_chain cf cg)
theorem q_tcmp {op:CmpOp} {f:F2} {a b:Expr} {ma mb:ED} (ho:OpR X (compareOp op) (r2 G f)) (c:Calm2 f) (ha:PE X a (tE G ma Wx)) (hb:PE X b (tE G mb Wx)) (hm:behindInMarks op b=false):PT X (.Compare a [op] [b] pos) (tT G (tOfE (e2 f ma mb)) Wx):=
 ptI (pt_cmpR ho ha hb hm) fun σ H Q q=>by
  obtain⟨w,env,rfl,sr,er,p⟩:=q
  refine imp_e2 c σ w.H _ ⟨w,env,rfl,sr,er,(Post.bind (Ra:=Rep G) p).mono (fun x H1 m=> ?_) fun _ _ _ h=>h⟩
  obtain⟨w1,d1,rfl,x1,s1,rp1,p1⟩:=m
  cases d1 with
  |bl k=>
   simp only[Rep] at rp1
   exact⟨k,rp1,Post.ret (Ra:=fun _ (a b:Bool)=>a=b) s1 rfl p1⟩
  | _=>exact p1.elim
theorem q_truth {e:Expr} {m:ED} (hK:X.K=G.K) (h:PE X e (tE G m Wx)) (he:∀whole,isTrue e X.env whole=(do let v ←whole;standAt e.pos;holding [v] (truthy v)):=by intro _;rfl):PT X e (tT G (tTruth m) Wx):=ptI (pt_truth h he) fun σ H Q q=>by
 obtain⟨w,env,rfl,sr,er,p⟩:=q
 refine⟨w,env,rfl,sr,er,(Post.bind (Ra:=Rep G) p).mono (fun x H1 m=> ?_) fun _ _ _ h=>h⟩
 obtain⟨w1,d1,rfl,x1,s1,rp1,p1⟩:=m
 have fin:∀ {k:Bool},Post G w1 (.ok k w1.S) (fun _ (a b:Bool)=>a=b) Q (fun C dx H'=>Wx C dx σ H')→Q k w1.H:=fun {k} p=>Post.ret (Ra:=fun _ (a b:Bool)=>a=b) s1 rfl p
 have emp:∀ {l:List D} {vs:List V},RepL G w1 l vs→(!l.isEmpty)= !vs.isEmpty:=fun {l vs} r=>by
  have:=r.length
  cases l<;>cases vs<;>simp_all
 cases d1 with
 |non=>simp only[Rep] at rp1;subst rp1;exact⟨false,rfl,fin p1⟩
 |bl b=>simp only[Rep] at rp1;subst rp1;exact⟨b,rfl,fin p1⟩
 |int i=>simp only[Rep] at rp1;subst rp1;exact⟨_,rfl,fin p1⟩
 |str s=>
  simp only[Rep] at rp1;subst rp1
  simp only[truthD] at p1
  split at p1
  ·rename_i hz
   refine⟨s.length != 0,⟨hz,?_⟩,fin p1⟩
   cases s.length<;>rfl
  ·exact p1.elim
 |tup l=>
  simp only[Rep] at rp1
  obtain⟨a,vs,rfl,h1,r1⟩:=rp1
  exact⟨_, .inr (.inl ⟨vs,by rw[hK];exact SqT_of h1,emp r1⟩),fin p1⟩
 |lst l=>
  simp only[Rep] at rp1
  obtain⟨a,vs,rfl,h1,_,r1⟩:=rp1
  exact⟨_, .inl ⟨vs,SqL.of h1,emp r1⟩,fin p1⟩
 |obj n=>
  simp only[truthD] at p1
  split at p1
  ·rename_i l hn
   obtain⟨a,vs,rfl,h1,r1⟩:=asL_rep (l:=l) s1 rp1 (by simp[asL,hn])
   exact⟨_, .inl ⟨vs,SqL.of h1,emp r1⟩,fin p1⟩
  ·exact p1.elim
 | _=>exact p1.elim
def mtD (x:D) (S:Store):Option String:=match x with
 | .str _=>some "str"
 | .lst _=>some "list"
 | .dic _ _=>some "dict"
 | .obj n=>match S[n]? with
   |some (.lst _)=>some "list"
   |some (.dK _)=>some "dict"
   |some (.dT _)=>some "dict"
   | _=>none
 | _=>none
def eBM (T:String) (f:D→FN) (o:ED) (a:AD):ED:=fun env S=>(o env S).bind fun x S1=>if mtD x S1=some T then(a env S1).bind fun xs S2=>f x xs S2 else .bad
theorem tyv {x:D} {v:V} {T:String} (sr:SRep G w) (r:Rep G w x v) (e:mtD x w.S=some T):tyV G.K T v w.H:=by
 cases x with
 |str s=>simp only[Rep] at r;cases e;subst r;exact rfl
 |lst l=>
  simp only[Rep] at r
  cases e
  obtain⟨a,vs,rfl,h1,_⟩:=r
  exact .inl ⟨rfl,vs,SqL.of h1⟩
 |dic ks l=>
  simp only[Rep] at r
  cases e
  obtain⟨a,vs,rfl,h1,_⟩:=r
  exact .inr (.inr (.inl ⟨rfl, .inl ⟨_,h1⟩⟩))
 |obj n=>
  simp only[Rep] at r
  obtain⟨a,hm,rfl⟩:=r
  simp only[mtD] at e
  split at e
  ·rename_i l hn
   cases e
   obtain⟨vs,h1,_⟩:=sr.obj n _ a hn hm
   exact .inl ⟨rfl,vs,SqL.of h1⟩
  ·rename_i l hn
   cases e
   obtain⟨vs,h1,_⟩:=sr.obj n _ a hn hm
   exact .inr (.inr (.inl ⟨rfl, .inl ⟨_,h1⟩⟩))
  ·rename_i l hn
   cases e
   obtain⟨vs,h1,_⟩:=sr.obj n _ a hn hm
   exact .inr (.inr (.inl ⟨rfl, .inr ⟨_,h1⟩⟩))
  ·cases e
 | _=>cases e
theorem q_bm {o e:Expr} {es:List Expr} {name:Str} {apos cpos:Pos} {T id:String} {f:D→FN} {mo:ED} {ma:AD} (hK:X.K=G.K) (pa:PlainAttrs T) (slot:Slot T name id) (hty:typeOf (.builtin id)=pure (.type "method_descriptor")) (hm:MtR X id (rM G f)) (c:CalmM f) (ho:PE X o (tE G mo Wx)) (ha:PA X (e::es) (tA G ma Wx))
 (hbase:attributeBase o name X.env (eval o X.env)=eval o X.env:=by rfl)
 (hfew:((backTo cpos (starEach (e::es) X.env)).all (fun x=> !x.1)&&(backToKw cpos (keywordEach [] X.env)).all (fun x=>x.1.isSome)
   && decide ((e::es).length+([] :List Keyword).length+(if([] :List Keyword).isEmpty then 0 else 1)<30))=true:=by rfl)
 (hline:(apos.endLine==cpos.line)=true:=by rfl) (hs:starEach (e::es) X.env=(false,eval e X.env)::starEach es X.env:=by rfl) (hplain:(backTo cpos (starEach es X.env)).any (·.1)=false:=by rfl):
 PE X (.Call (.Attribute o name apos) (e::es) [] cpos) (tE G (eBM T f mo ma) Wx):=peI (pe_bm pa slot hty hm ho ha hbase hfew hline hs hplain) fun σ H Q q=>by
 obtain⟨w,env,rfl,sr,er,p⟩:=q
 refine⟨w,env,rfl,sr,er,(Post.bind (Ra:=Rep G) p).mono (fun x H1 m=> ?_) fun _ _ _ h=>h⟩
 obtain⟨w1,d1,rfl,x1,s1,rp1,p1⟩:=m
 split at p1
 ·rename_i ht
  refine⟨by rw[hK];exact tyv s1 rp1 ht,w1,env,rfl,s1,er.mono x1,(Post.bind (Ra:=RepL G) p1).mono (fun x H1 m=> ?_) fun _ _ _ h=>h⟩
  obtain⟨w2,d2,rfl,x2,s2,rp2,p2⟩:=m
  exact⟨w2,d1,d2,rfl,s2,Rep.mono x2 _ _ rp1,rp2,p2.calm (c _ _ _)⟩
 ·exact p1.elim
theorem q_bm0 {o:Expr} {name:Str} {apos cpos:Pos} {T id:String} {f:D→FN} {mo:ED} (hK:X.K=G.K) (pa:PlainAttrs T) (slot:Slot T name id) (hty:typeOf (.builtin id)=pure (.type "method_descriptor")) (hm:MtR X id (rM G f)) (c:CalmM f) (ho:PE X o (tE G mo Wx))
 (hbase:attributeBase o name X.env (eval o X.env)=eval o X.env:=by rfl) (hline:(apos.endLine==cpos.line)=true:=by rfl):PE X (.Call (.Attribute o name apos) [] [] cpos) (tE G (eBM T f mo aNil) Wx):=peI (pe_bm0 pa slot hty hm ho hbase hline) fun σ H Q q=>by
 obtain⟨w,env,rfl,sr,er,p⟩:=q
 refine⟨w,env,rfl,sr,er,(Post.bind (Ra:=Rep G) p).mono (fun x H1 m=> ?_) fun _ _ _ h=>h⟩
 obtain⟨w1,d1,rfl,x1,s1,rp1,p1⟩:=m
 split at p1
 ·rename_i ht
  exact⟨by rw[hK];exact tyv s1 rp1 ht,w1,d1,[],rfl,s1,rp1,by simp[RepL],p1.calm (c _ _ _)⟩
 ·exact p1.elim
def lstAt (x:D) (S:Store):Option (Nat × List D):=match x with
 | .obj n=>match S[n]? with
   |some (.lst l)=>some (n,l)
   | _=>none
 | _=>none
theorem lstAt_rep {x:D} {v:V} {n:Nat} {l:List D} (sr:SRep G w) (r:Rep G w x v) (e:lstAt x w.S=some (n,l)):∃a vs,v= .ref a∧w.S[n]? =some (.lst l)∧w.mu[n]? =some a∧w.H a=some (.lst vs)∧RepL G w l vs:=by
 cases x with
 |obj m=>
  simp only[Rep] at r
  obtain⟨a,hm,rfl⟩:=r
  simp only[lstAt] at e
  split at e
  ·rename_i l' hn
   cases e
   obtain⟨vs,h1,h2⟩:=sr.obj _ _ a hn hm
   exact⟨a,vs,rfl,hn,hm,h1,h2⟩
  ·cases e
 | _=>cases e
theorem set_lst {n:Nat} {a:Addr} {l l':List D} {vs':List V} {d:D} {y:V} {Q:VK} {E:Value→Option Addr→Hp→Prop} (sr:SRep G w) (hn:w.S[n]? =some (.lst l)) (ha:w.mu[n]? =some a) (rl:RepL G w l' vs') (rd:Rep G w d y)
 (p:Post G w (.ok d (w.S.set n (.lst l'))) (Rep G) Q E):Q y (upd w.H a (.lst vs')):=by
 obtain⟨x,s⟩:=set_obj (ob':= .lst l') (o:= .lst vs') sr hn trivial ha fun w' x e=>⟨vs',e,RepL.mono x _ _ rl⟩
 exact p y _ x rfl s (Rep.mono x _ _ rd)
def appendD:D→FN:=fun x xs S=>match lstAt x S,xs with
 |some (n,l),[y] =>if l.length<sizeLine then .ok .non (S.set n (.lst (l++ [y]))) else .bad
 | _,_=> .bad
theorem c_append:CalmM appendD:=fun x xs S=>by unfold appendD;repeat' split
                                               all_goals trivial
theorem o_append:MtR X "list.append" (rM G appendD):=mtI2 mt_append fun x xs H Q q=>by
 obtain⟨w,d,ds,rfl,sr,r1,rl,p⟩:=q
 unfold appendD at p
 split at p
 ·rename_i n l y he
  split at p
  ·rename_i hz
   obtain⟨a,vs,rfl,hn,hm,h1,h2⟩:=lstAt_rep sr r1 he
   simp only[RepL] at rl
   obtain⟨v,r',rfl,ry,rfl⟩:=rl
   exact⟨a,vs,v,rfl,rfl,h1,by rw[h2.length];exact hz,set_lst sr hn hm (h2.append (RepL.one ry)) (by simp[Rep]) p⟩
  ·exact p.elim
 ·exact p.elim
def putD {κ :Type} [DecidableEq κ] (kvs:List (κ × D)) (k: κ) (v:D):List (κ × D):=
 if(kvs.any fun kv=>decide (kv.1=k))=true then kvs.map (fun kv=>if kv.1=k then(kv.1,v) else kv) else kvs++ [(k,v)]
theorem any_put {κ :Type} [DecidableEq κ] (k: κ):∀ {kvs:List (κ × D)} {vs:List (κ × V)},RepKV G w kvs vs→(kvs.any fun kv=>decide (kv.1=k))=(vs.any fun kv=>decide (kv.1=k))
 | [],vs,h=>by
   have:vs= [] :=h
   subst this;rfl
 |p::r,vs,h=>by
  obtain⟨v,y,rfl,h1,h2⟩:=h
  simp only[List.any_cons,any_put k h2]
theorem map_put {κ :Type} [DecidableEq κ] {d:D} {v:V} (k: κ) (rv:Rep G w d v):∀ {kvs:List (κ × D)} {vs:List (κ × V)},RepKV G w kvs vs→
 RepKV G w (kvs.map (fun kv=>if kv.1=k then(kv.1,d) else kv)) (vs.map (fun kv=>if kv.1=k then(kv.1,v) else kv))
 | [],vs,h=>by
   have:vs= [] :=h
   subst this;rfl
 |p::r,vs,h=>by
  obtain⟨u,y,rfl,h1,h2⟩:=h
  simp only[List.map_cons]
  by_cases e:p.1=k
  ·rw[if_pos e,if_pos e];exact⟨v,_,rfl,rv,map_put k rv h2⟩
  ·rw[if_neg e,if_neg e];exact⟨u,_,rfl,h1,map_put k rv h2⟩
theorem RepKV.append {κ :Type} :∀ {a b:List (κ × D)} {x y:List (κ × V)},RepKV G w a x→RepKV G w b y→RepKV G w (a++b) (x++y)
 | [],_,x,_,h,h'=>by
   have:x= [] :=h
   subst this;exact h'
 |p::r,b,x,y,h,h'=>by
  obtain⟨u,z,rfl,h1,h2⟩:=h
  exact⟨u,z++y,rfl,h1,RepKV.append h2 h'⟩
theorem RepKV.put {κ :Type} [DecidableEq κ] {kvs:List (κ × D)} {vs:List (κ × V)} {d:D} {v:V} (k: κ) (h:RepKV G w kvs vs) (rv:Rep G w d v):RepKV G w (putD kvs k d) (putK vs k v):=by
 unfold putD putK
 rw[any_put k h]
 split
 ·exact map_put k rv h
 ·exact h.append ⟨v,[],rfl,rv,rfl⟩
def setD (o i v:D) (S:Store):Option Store:=match o with
 | .obj n=>match S[n]? with
   |some (.lst l)=>match i with
    | .int k=>match ixN l.length k with
      |some j=>some (S.set n (.lst (l.set j v)))
      |none=>none
    | _=>none
   |some (.dK kvs)=>match keyOf i with
    |some k=>if kvs.length<sizeLine then some (S.set n (.dK (putD kvs k v))) else none
    |none=>none
   |some (.dT kvs)=>match tkOf i with
    |some k=>if kvs.length<sizeLine then some (S.set n (.dT (putD kvs k v))) else none
    |none=>none
   | _=>none
 | _=>none
def gSub (mo mi:ED):GD:=fun v env S=>match mo env S with
 | .ok o S1=>match mi env S1 with
   | .ok i S2=>match setD o i v S2 with
     |some S3=> .nx env S3
     |none=> .bad
   | _=> .bad
 | _=> .bad
def tSetD (G:GC):TSet:=fun o i v H k=>∃w d1 d2 d3 S',w.H=H∧SRep G w∧Rep G w d1 o∧Rep G w d2 i∧Rep G w d3 v∧setD d1 d2 d3 w.S=some S'∧∀w',WExt w w'→w'.S=S'→SRep G w'→k w'.H
theorem RepKV.len {κ :Type} :∀ {kvs:List (κ × D)} {vs:List (κ × V)},RepKV G w kvs vs→vs.length=kvs.length
 | [],vs,h=>by
   have:vs= [] :=h
   subst this;rfl
 |p::r,vs,h=>by
  obtain⟨u,y,rfl,h1,h2⟩:=h
  simp[RepKV.len h2]
theorem o_set (hu:X.A.units+1<cLine):PSet X (tSetD G):=by
 intro pins s σ H o i v ov iv u Q I ro ri ru q
 obtain⟨w,d1,d2,d3,S',rfl,sr,r1,r2,r3,e,k⟩:=q
 unfold setD at e
 split at e
 ·rename_i n
  split at e
  ·rename_i l hn
   split at e
   ·rename_i j
    split at e
    ·rename_i jj hj
     cases e
     simp only[Rep] at r1 r2
     obtain⟨a,hm,rfl⟩:=r1
     obtain⟨vs,h1,h2⟩:=sr.obj n _ a hn hm
     refine set_list pins s σ w.H (.ref a) i v ov iv u Q I ro ri ru ⟨a,vs,j,jj,rfl,r2,h1,by rw[h2.length];exact hj,?_⟩
     obtain⟨x,s'⟩:=set_obj (ob':= .lst (l.set jj d3)) (o:= .lst (vs.set jj v)) sr hn trivial hm fun w' x e=>⟨_,e,RepL.mono x _ _ (h2.set jj r3)⟩
     exact k _ x rfl s'
    ·cases e
   ·cases e
  ·rename_i kvs hn
   split at e
   ·rename_i kk hk
    split at e
    ·rename_i hz
     cases e
     have ek:=keyOf_rep r2 hk
     subst ek
     simp only[Rep] at r1
     obtain⟨a,hm,rfl⟩:=r1
     obtain⟨vs,h1,h2⟩:=sr.obj n _ a hn hm
     refine set_dict hu pins s σ w.H (.ref a) (kV kk) v ov iv u Q I ro ri ru ⟨a,_,rfl,DPut.k h1 (by rw[h2.len];exact hz),?_⟩
     obtain⟨x,s'⟩:=set_obj (ob':= .dK (putD kvs kk d3)) (o:= .dK (putK vs kk v)) sr hn trivial hm fun w' x e=>⟨_,e,RepKV.mono x _ _ (h2.put kk r3)⟩
     exact k _ x rfl s'
    ·cases e
   ·cases e
  ·rename_i kvs hn
   split at e
   ·rename_i kk hk
    split at e
    ·rename_i hz
     cases e
     obtain⟨bb,rfl,eb,_⟩:=tk_rep r2 hk
     simp only[Rep] at r1
     obtain⟨a,hm,rfl⟩:=r1
     obtain⟨vs,h1,h2⟩:=sr.obj n _ a hn hm
     refine set_dict hu pins s σ w.H (.ref a) (.ref bb) v ov iv u Q I ro ri ru ⟨a,_,rfl,DPut.t h1 eb (by rw[h2.len];exact hz),?_⟩
     obtain⟨x,s'⟩:=set_obj (ob':= .dT (putD kvs kk d3)) (o:= .dT (putK vs kk v)) sr hn trivial hm fun w' x e=>⟨_,e,RepKV.mono x _ _ (h2.put kk r3)⟩
     exact k _ x rfl s'
    ·cases e
   ·cases e
  ·cases e
 ·cases e
theorem q_gsub {o i:Expr} {mo mi:ED} (hu:X.A.units+1<cLine) (ho:PE X o (tE G mo Wx)) (hi:PE X i (tE G mi Wx))
 (ha:∀v,assign (.Subscript o i pos) X.env v=(do
   let ov ←holding [v] (eval o X.env)
   let iv ←holding [v,ov] (eval i X.env)
   standAt pos
   holding [v,ov,iv] (setItem ov iv v)
   release [v,ov,iv] []):=by intro _;rfl):PG X (.Subscript o i pos) (tG G (gSub mo mi)):=pgI (pg_sub ho hi (o_set hu) ha) fun v σ H Q q=>by
 obtain⟨w,env,d,rfl,sr,er,rp,p⟩:=q
 unfold gSub at p
 cases h1:mo env w.S with
 |ok o S1=>
  rw[h1] at p
  refine⟨w,env,rfl,sr,er,?_⟩
  rw[h1]
  intro vo w1 x1 e1 s1 ro
  subst e1
  simp only at p
  cases h2:mi env w1.S with
  |ok i S2=>
   rw[h2] at p
   refine⟨w1,env,rfl,s1,er.mono x1,?_⟩
   rw[h2]
   intro vi w2 x2 e2 s2 ri
   subst e2
   simp only at p
   cases h3:setD o i d w2.S with
   |some S3=>
    rw[h3] at p
    refine⟨w2,o,i,d,S3,rfl,s2,Rep.mono x2 _ _ ro,ri,Rep.mono (WX'.trans x1 x2) _ _ rp,h3,fun w3 x3 e3 s3=> ?_⟩
    exact p σ w3 (WX'.trans (WX'.trans x1 x2) x3) e3 s3 (((er.mono x1).mono x2).mono x3)
   |none=>rw[h3] at p;exact p.elim
  |exc _ _=>rw[h2] at p;exact p.elim
  |bad=>rw[h2] at p;exact p.elim
 |exc _ _=>rw[h1] at p;exact p.elim
 |bad=>rw[h1] at p;exact p.elim
theorem gn_sub {mo mi:ED} :GOk (gSub mo mi):=fun d env S=>by
 unfold gSub
 cases mo env S with
 |ok o S1=>
  simp only
  cases mi env S1 with
  |ok i S2=>
   simp only
   cases setD o i d S2 with
   |some S3=>exact .inl ⟨_,_,rfl⟩
   |none=>exact .inr rfl
  |exc _ _=>exact .inr rfl
  |bad=>exact .inr rfl
 |exc _ _=>exact .inr rfl
 |bad=>exact .inr rfl
theorem gNames_nx:∀ {is:List Nat} {ds:List D} {env:EnvD} {S:Store},(∃ env',gNames is ds env S= .nx env' S)∨gNames is ds env S= .bad
 | [],[],_,_=> .inl ⟨_,rfl⟩
 | [],_::_,_,_=> .inr rfl
 | _::_,[],_,_=> .inr rfl
 |i::is,d::ds,env,S=>gNames_nx (is:=is) (ds:=ds) (env:=env.set i (some d)) (S:=S)
def tGs (G:GC) (is:List Nat):TGs:=fun vs σ H Q=>∃w env ds env',w.H=H∧SRep G w∧ERep G w env σ ∧RepL G w ds vs∧gNames is ds env w.S= .nx env' w.S∧∀ σ',ERep G w env' σ'→Q σ' H
theorem pgsI {e:List Expr} {t t':TGs} (h:PGs X e t) (i:∀v σ H Q,t' v σ H Q→t v σ H Q):PGs X e t':=⟨fun pins s σ H v u Q I r q=>h.run pins s σ H v u Q I r (i _ _ _ _ q)⟩
theorem q_gsnil:PGs X [] (tGs G []):=pgsI pgs_nil fun v σ H Q q=>by
 obtain⟨w,env,ds,env',rfl,sr,er,rl,e,k⟩:=q
 cases ds with
 |nil=>
  simp only[RepL] at rl
  cases e
  exact⟨rl,k σ er⟩
 |cons _ _=>cases e
theorem q_gscons {e:Expr} {es:List Expr} {i:Nat} {is:List Nat} (h1:PG X e (L2.gName i)) (h2:PGs X es (tGs G is))
 (hs:(assignEach (e::es) X.env).map (·.2)=assign e X.env::(assignEach es X.env).map (·.2):=by rfl):PGs X (e::es) (tGs G (i::is)):=pgsI (pgs_cons h1 h2 hs) fun v σ H Q q=>by
 obtain⟨w,env,ds,env',rfl,sr,er,rl,e,k⟩:=q
 cases ds with
 |nil=>cases e
 |cons d ds=>
  simp only[RepL] at rl
  obtain⟨v,r,rfl,r1,r2⟩:=rl
  exact⟨v,r,rfl,w,_,ds,env',rfl,sr,er.set i r1,r2,e,k⟩
theorem q_gtup {es:List Expr} {k:Nat} {is:List Nat} (hK:X.K=G.K) (hc:X.calm=true) (h:PGs X es (tGs G is)) (hn:(assignEach es X.env).length=is.length:=by rfl) (hst:(assignEach es X.env).findIdx? (·.1)=none:=by rfl):
 PG X (.Tuple es k pos) (tG G (gTup is)):=pgI (pg_tup hc h hn hst) fun v σ H Q q=>by
 obtain⟨w,env,d,rfl,sr,er,rp,p⟩:=q
 have ln:∀ {is:List Nat} {l:List D} {env env':EnvD} {S S':Store},gNames is l env S= .nx env' S'→l.length=is.length:=by
  intro is
  induction is with
  |nil=>intro l env env' S S' e;cases l with
   |nil=>rfl
   |cons _ _=>cases e
  |cons i is ih=>intro l env env' S S' e;cases l with
   |nil=>cases e
   |cons d l=>simp only[List.length_cons];rw[ih e]
 cases d with
 |tup l=>
  simp only[Rep] at rp
  obtain⟨a,vs,rfl,h1,rl⟩:=rp
  simp only[gTup] at p
  rcases gNames_nx (is:=is) (ds:=l) (env:=env) (S:=w.S) with⟨env',e⟩|e
  ·rw[e] at p
   refine⟨a,vs,rfl,by rw[hK];exact SqT_of h1,by rw[rl.length];exact ln e,w,env,l,env',rfl,sr,er,rl,e,fun σ' er'=>p σ' w (.refl _) rfl sr er'⟩
  ·rw[e] at p;exact p.elim
 |wtp l=>
  simp only[Rep] at rp
  obtain⟨a,rfl,h1⟩:=rp
  have rl:RepL G w (l.map .int) (l.map V.int):=RepL_ints.mpr rfl
  simp only[gTup] at p
  rcases gNames_nx (is:=is) (ds:=l.map .int) (env:=env) (S:=w.S) with⟨env',e⟩|e
  ·rw[e] at p
   refine⟨a,_,rfl,by rw[hK];exact .inr h1,by rw[rl.length];exact ln e,w,env,_,env',rfl,sr,er,rl,e,fun σ' er'=>p σ' w (.refl _) rfl sr er'⟩
  ·rw[e] at p;exact p.elim
 | _=>exact p.elim
theorem gn_tup {is:List Nat} :GOk (gTup is):=fun d env S=>by
 cases d with
 |tup l=>
  rcases gNames_nx (is:=is) (ds:=l) (env:=env) (S:=S) with⟨env',e⟩|e
  ·exact .inl ⟨env',S,e⟩
  ·exact .inr e
 |wtp l=>
  rcases gNames_nx (is:=is) (ds:=l.map .int) (env:=env) (S:=S) with⟨env',e⟩|e
  ·exact .inl ⟨env',S,e⟩
  ·exact .inr e
 | _=>exact .inr rfl
def sPar (is:List Nat) (a:AD):SD:=fun env S=>(a env S).toS env fun xs S1=>gNames is xs env S1
theorem q_par {i j:Nat} {x y:Str} {a b:Expr} {m:AD} {px py pt:Pos} {kt k2 pt2} (hc:X.calm=true) (hN:X.N.Nodup) (hi:X.N[i]? =some x) (hj:X.N[j]? =some y) (hij:i≠j)
 (hx:X.env.scope.names.lookup x=some .local) (hy:X.env.scope.names.lookup y=some .local) (ha:PA X [a,b] (tA G m Wx))
 (hw:swappedStores [.Tuple [.Name x px, .Name y py] kt pt] (.Tuple [a,b] k2 pt2) X.env=pure (some [x,y]))
 (hs:swapsWithSole [.Tuple [.Name x px, .Name y py] kt pt] (.Tuple [a,b] k2 pt2) pos.line X.env=pure false:=by rfl):
 PS X (.Assign [.Tuple [.Name x px, .Name y py] kt pt] (.Tuple [a,b] k2 pt2) pos) (tS G (sPar [i,j] m) Wx):=psI (ps_par hc hN hi hj hij hx hy ha hw hs) fun D σ H q=>by
 obtain⟨w,env,rfl,sr,er,p⟩:=q
 refine⟨w,env,rfl,sr,er,(PostS.ofR (Ra:=RepL G) er p).mono (fun x H1 m=> ?_) fun _ _ _ h=>h⟩
 obtain⟨w1,ds,rfl,x1,s1,rl,p1⟩:=m
 match ds,rl with
 | [d1,d2],rl=>
   simp only[RepL] at rl
   obtain⟨v1,r1,rfl,q1,v2,r2,rfl,q2,rfl⟩:=rl
   exact⟨v1,v2,rfl,p1 _ w1 (.refl _) rfl s1 (((er.mono x1).set i q1).set j q2)⟩
 | [],_=>exact p1.elim
 | [_],_=>exact p1.elim
 | _::_::_::_,_=>exact p1.elim
end
end L3
namespace L3
open PySem PySem.Spec PyProof.Rows L2
structure Cal (P:Program) (w:World) (G:GC) (base:Heap) (k:Nat) (x:Str) (f:Addr) (fd:FuncData) (ps:List Str) (F:FN):Prop where
 ok:FnG P w G.K G.mg base k f fd ps (spOf G F)
 m:G.mg x=some (.ref f)
 kp:PySem.W.keepIn G.K (.ref f)=true
def Bnd (G:GC) (fd:FuncData) (ps:List Str) (dds:List D):Prop:=∃dvs ds,Vals dvs ds∧Binds G.K fd ps ds∧∀w,RepL G w dds dvs
theorem bnd0 {G:GC} {fd:FuncData} {ps:List Str} (h:Binds G.K fd ps []):Bnd G fd ps [] :=⟨[],[], .nil,h,fun w=>by simp[RepL]⟩
def Kbd (G:GC) (fd:FuncData) (ps:List Str) (n:Nat) (ks:List Str) (gD:List D→List D→List D):Prop:=
 ∃g gV,KBn G.K fd ps n ks g gV∧∀w ds es vs zs,ds.length=n→es.length=ks.length→RepL G w ds vs→RepL G w es zs→RepL G w (gD ds es) (gV vs zs)
def GRep (G:GC) (x:Str) (d:D):Prop:=∃u v,G.mg x=some u∧RelV v u∧∀w,Rep G w d v
def kwK (F:FN) (n m:Nat) (gD:List D→List D→List D):List D→FN:=fun xs zs S=>if xs.length=n∧zs.length=m then F (gD xs zs) S else .bad
def eKw (f:List D→FN) (a b:AD):ED:=fun env S=>(a env S).bind fun xs S1=>(b env S1).bind fun zs S2=>f xs zs S2
theorem u65 {k:Nat} {A:Around} (h:RoomG k A):A.units+65<cLine:=by have:=h.rm.un;omega
theorem u150 {k:Nat} {A:Around} (h:RoomG k A):A.units+150<cLine:=by have:=h.rm.un;omega
theorem u1 {k:Nat} {A:Around} (h:RoomG k A):A.units+1<cLine:=by have:=h.rm.un;omega
section
variable {X:Cx} {G:GC} {Wx:WX} {pos p:Pos} {k:Nat} {f:Addr} {fd:FuncData} {ps:List Str} {F:FN} {x:Str} {e:Expr} {es:List Expr} {dds:List D} {m:AD} {P:Program} {w:World} {base:Heap}
theorem q_fn (c:Cal X.prog X.w G X.base k x f fd ps F) (b:Bnd G fd ps dds) (hr:RoomG k X.A) (hK:X.K=G.K) (hm:X.mg=G.mg) (hg:Gl X x) (tk:Takes X Wx)
 (ha:PA X (e::es) (tA G m Wx)) (hdb:(x==("__debug__" :Str))=false:=by decide) (he:starEach (e::es) X.env=(false,eval e X.env)::starEach es X.env:=by rfl) (hpl:(backTo pos (starEach es X.env)).any (·.1)=false:=by rfl):
 PE X (.Call (.Name x p) (e::es) [] pos) (tE G (eN (callK F dds) m) Wx):=by
 obtain⟨dvs,ds,h1,h2,h3⟩:=b
 exact q_call (by rw[hK,hm];exact c.ok) hr hg (by rw[hm];exact c.m) (by rw[hK];exact c.kp) (by rw[hK];exact h2) h1 h3 tk ha hdb he hpl
def eFnL (i:Nat) (x:Str) (F:FN) (a:AD):ED:=fun env S=>match env[i]? with
 |some (some (.glb y))=>if y=x then(a env S).bind fun xs S1=>F xs S1 else .bad
 | _=> .bad
structure QK (X:Cx) (G:GC) (Wx:WX) (kws:List Keyword) (m:AD):Prop where
 pk:PK X kws (tA G m Wx)
theorem q_knil:QK X G Wx [] aNil:=⟨⟨fun po pins s σ H Q I q=>by
 obtain⟨w,env,rfl,sr,er,p⟩:=q
 exact pk_nil.run po pins s σ w.H Q I (Post.ret (Ra:=RepL G) sr (by simp[RepL]) p)⟩⟩
theorem q_kcons {kws:List Keyword} {nm:Option Str} {kpos:Pos} {a:ED} {b:AD} (ha:PE X e (tE G a Wx)) (hr:QK X G Wx kws b):QK X G Wx (⟨nm,e,kpos⟩::kws) (aCons a b):=⟨⟨fun po pins s σ H Q I q=>by
 refine(pk_cons (nm:=nm) (kpos:=kpos) ha hr.pk).run po pins s σ H Q I ?_
 obtain⟨w,env,rfl,sr,er,p⟩:=q
 refine⟨w,env,rfl,sr,er,(Post.bind (Ra:=Rep G) p).mono (fun x H1 m=> ?_) fun _ _ _ h=>h⟩
 obtain⟨w1,d1,rfl,x1,s1,rp1,p1⟩:=m
 refine⟨w1,env,rfl,s1,er.mono x1,(Post.bind (Ra:=RepL G) p1).mono (fun y H2 m=> ?_) fun _ _ _ h=>h⟩
 obtain⟨w2,d2,rfl,x2,s2,rp2,p2⟩:=m
 exact Post.ret (Ra:=RepL G) (a:=d1::d2) s2 (by simp only[RepL];exact⟨x,y,rfl,Rep.mono x2 _ _ rp1,rp2⟩) p2⟩⟩
theorem q_fnK {kws:List Keyword} {n:Nat} {ks:List Str} {gD:List D→List D→List D} {b:AD} (c:Cal X.prog X.w G X.base k x f fd ps F) (hb:Kbd G fd ps n ks gD) (hr:RoomG k X.A) (hK:X.K=G.K) (hm:X.mg=G.mg) (hg:Gl X x) (tk:Takes X Wx)
 (ha:PA X (e::es) (tA G m Wx)) (hkw:QK X G Wx kws b) (hall:(backToKw pos (keywordEach kws X.env)).all (·.1.isSome)=true:=by rfl) (hks:(backToKw pos (keywordEach kws X.env)).filterMap (·.1)=ks:=by rfl)
 (hdb:(x==("__debug__" :Str))=false:=by decide) (he:starEach (e::es) X.env=(false,eval e X.env)::starEach es X.env:=by rfl)
 (hpl:((backTo pos (starEach (e::es) X.env)).any (·.1) || (backToKw pos (keywordEach kws X.env)).any (·.1.isNone))=false:=by rfl):
 PE X (.Call (.Name x p) (e::es) kws pos) (tE G (eKw (kwK F n ks.length gD) m b) Wx):=by
 obtain⟨g,gV,hn,hrep⟩:=hb
 have ok:=c.ok
 rw[← hK,←hm] at ok
 have kp:PySem.W.keepIn X.K (.ref f)=true:=by rw[hK];exact c.kp
 rw[← hK] at hn
 refine⟨fun pins s σ H Q I q=> ?_⟩
 obtain⟨wd,env,rfl,sr,er,pp⟩:=q
 refine wpAny_Call_Name_kw (ld_glob I hg (by rw[hm];exact c.m) ?_ hdb)
 refine PySem.W.callWith_KW (h₀ :=X.base) I.ok.mod.kin kp hall (thn (ha.run pos pins s σ wd.H _ I ⟨wd,env,rfl,sr,er,Post.bind (Ra:=RepL G) pp⟩) fun us s1 ⟨vs,H1,I1,r,q⟩=> ?_) hpl he
 obtain⟨w1,d1,rfl,x1,s1',rp1,p1⟩:=q
 refine thn (hkw.pk.run pos pins s1 σ w1.H _ I1 ⟨w1,env,rfl,s1',er.mono x1,Post.bind (Ra:=RepL G) p1⟩) fun ws s2 ⟨zs,H2,I2,rz,q2⟩=>⟨I2.kIn,?_⟩
 obtain⟨w2,d2,rfl,x2,s2',rp2,p2⟩:=q2
 rw[hks]
 unfold kwK at p2
 split at p2
 ·rename_i hl
  have r2:=hn.rel r rz
  refine wpAny_call (codeAny_mono (FnG.called (E:=WE Wx) ok hr (passAt tk σ) I2 (hn.to s2 us ws I2.kIn ?_ ?_) (hn.rel r rz) ⟨w2,gD d1 d2,rfl,s2',hrep w2 d1 d2 vs zs hl.1 hl.2 (RepL.mono x2 _ _ rp1) rp2,p2⟩) fun r s' hq=> ?_)
  ·rw[← r.length,rp1.length];exact hl.1
  ·rw[← rz.length,rp2.length];exact hl.2
  ·match r,hq with
   | .error e,hq=>exact hq
   | .ok (.ret u),hq=>exact hq
 ·exact p2.elim
theorem q_cst {d:D} (h:GRep G x d) (hm:X.mg=G.mg) (hg:Gl X x) (hd:(x==("__debug__" :Str))=false:=by decide):PE X (.Name x pos) (tE G (eK d) Wx):=by
 obtain⟨u,v,h1,h2,h3⟩:=h
 exact q_const (pe_glob hg (by rw[hm];exact h1) h2 hd) h3
theorem q_ty {T:String} (hm:X.mg x=none) (hv:bootBuiltins x=some (.type T)) (hg:Gl X x) (hn:x≠ "__name__" :=by decide) (hd:(x==("__debug__" :Str))=false:=by decide):PE X (.Name x pos) (tE G (eK (.ty T)) Wx):=
 q_const (pe_bltn (v:= .ty T) hg hm hv rfl hn hd) fun w=>by simp[Rep]
theorem q_tb {e:Expr} {m:TD} (h:PW X e (tT G m Wx)):PT X e (tT G m Wx):=h.pt
theorem w_and1 {a:Expr} {ma:TD} (h:PT X a (tT G ma Wx)):PW X (.BoolOp .And [a] pos) (tT G ma Wx):=pw_and1 h
theorem w_or1 {a:Expr} {ma:TD} (h:PT X a (tT G ma Wx)):PW X (.BoolOp .Or [a] pos) (tT G ma Wx):=pw_or1 h
theorem w_and {a b:Expr} {rest:List Expr} {ma mb:TD} (ha:PT X a (tT G ma Wx)) (hb:PW X (.BoolOp .And (b::rest) pos) (tT G mb Wx)):PW X (.BoolOp .And (a::b::rest) pos) (tT G (tAnd ma mb) Wx):=pwI (pw_and ha hb) imp_and
theorem w_or {a b:Expr} {rest:List Expr} {ma mb:TD} (ha:PT X a (tT G ma Wx)) (hb:PW X (.BoolOp .Or (b::rest) pos) (tT G mb Wx)):PW X (.BoolOp .Or (a::b::rest) pos) (tT G (tOr ma mb) Wx):=pwI (pw_or ha hb) imp_or
end
theorem b_len:bootBuiltins "len" =some (.builtin "len"):=by decide +kernel
theorem b_isinstance:bootBuiltins "isinstance" =some (.builtin "isinstance"):=by decide +kernel
theorem b_all:bootBuiltins "all" =some (.builtin "all"):=by decide +kernel
theorem b_max:bootBuiltins "max" =some (.builtin "max"):=by decide +kernel
theorem b_min:bootBuiltins "min" =some (.builtin "min"):=by decide +kernel
theorem b_abs:bootBuiltins "abs" =some (.builtin "abs"):=by decide +kernel
theorem b_int:bootBuiltins "int" =some (.type "int"):=by decide +kernel
theorem b_bool:bootBuiltins "bool" =some (.type "bool"):=by decide +kernel
theorem b_tuple:bootBuiltins "tuple" =some (.type "tuple"):=by decide +kernel
theorem b_list:bootBuiltins "list" =some (.type "list"):=by decide +kernel
theorem b_dict:bootBuiltins "dict" =some (.type "dict"):=by decide +kernel
end L3
namespace L3
open PySem PySem.Spec PyProof.Rows L2
section
variable {G:GC} {X:Cx} {Wx:WX} {pos:Pos} {w:Wd}
theorem tmp_off {w0 w2:Wd} {p:Addr} {H':Hp} (s0:SRep G w0) (hp:w0.H p=none) (x:WX' [p] w0 w2) (s2:SRep G w2) (tm:p ∈ w2.tmp) (hH:∀b,b≠p→H' b=w2.H b):
 WExt w0 ⟨w2.mu,w2.S,H',w0.tmp⟩∧SRep G ⟨w2.mu,w2.S,H',w0.tmp⟩∧(∀ d v,Rep G w2 d v→Rep G ⟨w2.mu,w2.S,H',w0.tmp⟩ d v)∧(∀ d v,RepL G w2 d v→RepL G ⟨w2.mu,w2.S,H',w0.tmp⟩ d v)∧¬Mut ⟨w2.mu,w2.S,H',w0.tmp⟩ p:=by
 have np:p ∉ w0.tmp:=fun z=>by obtain⟨⟨u,e⟩,_⟩:=s0.tm p z;rw[hp] at e;cases e
 have nm: ¬MutS w2 p:=(s2.tm p tm).2
 have x1:WX' [p] w2 ⟨w2.mu,w2.S,H',w2.tmp⟩:=⟨fun _ _ h=>h,fun a o h nm ha=>⟨(hH a (by simpa using ha)).trans h,nm⟩,fun a h=> .inl h,fun a h=>h⟩
 have tk:Tok [p] w2:=fun a h=> .inl (by have:a=p:=by simpa using h
                                        rw[this];exact tm)
 have inc:∀a,a ∈ w0.tmp→a ∈ w2.tmp:=x.tmp'
 have s1:SRep G ⟨w2.mu,w2.S,H',w0.tmp⟩:=by
  refine⟨s2.len,s2.inj,fun n ob a h1 h2=> ?_,fun a ha=> ?_⟩
  ·have h:=s2.obj n ob a h1 h2
   exact ORep.untmp (t:=w0.tmp) (w:=⟨w2.mu,w2.S,H',w2.tmp⟩) inc (h.keep x1 tk fun lv=>hH a fun e=>nm (by subst e;exact⟨n,ob,h1,lv,h2⟩))
  ·obtain⟨⟨u,e⟩,q⟩:=s2.tm a (inc a ha)
   exact⟨⟨u,(hH a fun z=>np (z▸ha)).trans e⟩,q⟩
 refine⟨⟨x.mu,fun a o h nmS _=> ?_,fun a h=> .inl h,fun a h=>h⟩,s1,fun d v h=>Rep.untmp (t:=w0.tmp) (w:=⟨w2.mu,w2.S,H',w2.tmp⟩) inc d v (Rep.monoT x1 tk d v h),fun d v h=>RepL.untmp (t:=w0.tmp) (w:=⟨w2.mu,w2.S,H',w2.tmp⟩) inc d v (RepL.monoT x1 tk d v h),fun m=>m.elim nm np⟩
 have ha:a≠p:=fun e=>by rw[e,hp] at h;cases h
 obtain⟨h1,h2⟩:=x.keep a o h nmS (by simpa using ha)
 exact⟨(hH a ha).trans h1,h2⟩
theorem tmp_on {p:Addr} {o:HO} (s0:SRep G w) (hp:w.H p=none) (hn:NT o:=by intro _ h;cases h):WX' [p] w ⟨w.mu,w.S,upd w.H p o,p::w.tmp⟩∧SRep G ⟨w.mu,w.S,upd w.H p o,p::w.tmp⟩∧(∀ d v,Rep G w d v→Rep G ⟨w.mu,w.S,upd w.H p o,p::w.tmp⟩ d v):=by
 have h0:WX' [p] w ⟨w.mu,w.S,upd w.H p o,p::w.tmp⟩:=
  ⟨fun _ _ h=>h,fun a o h nm ha=>⟨(upd_ne (by simpa using ha)).trans h,nm⟩,fun a h=>by
    rcases List.mem_cons.mp h with e|h
    ·exact .inr (by simp[e])
    ·exact .inl h,fun a h=>List.mem_cons_of_mem _ h⟩
 have tk:Tok [p] w:=fun a h=> .inr (by have:a=p:=by simpa using h
                                       rw[this];exact hp)
 have nL: ¬MutS w p:=fun m=>by obtain⟨u,e⟩:=MutS.there s0 m;rw[hp] at e;cases e
 refine⟨h0,⟨s0.len,s0.inj,fun n ob a h1 h2=> ?_,fun a ha=> ?_⟩,fun d v h=>Rep.monoT h0 tk d v h⟩
 ·have h:=s0.obj n ob a h1 h2
  refine h.keep h0 tk fun lv=> ?_
  obtain⟨u,e⟩:=h.there lv
  exact upd_ne (ne_of_none e hp)
 ·rcases List.mem_cons.mp ha with e|ha
  ·subst e;exact⟨⟨⟨_,by first|assumption|(intro _ h;cases h)⟩,upd_same⟩,nL⟩
  ·obtain⟨⟨u,e⟩,nm⟩:=s0.tm a ha
   exact⟨⟨u,(upd_ne (ne_of_none e hp)).trans e⟩,nm⟩
def mergeD (kvs more:List (Key × D)):List (Key × D):=more.foldl (fun acc kv=>putD acc kv.1 kv.2) kvs
def pairsD:List (ED × ED)→EnvD→Store→R (List (D × D))
 | [],_,S=> .ok [] S
 |(k,v)::r,env,S=>(k env S).bind fun x S1=>(v env S1).bind fun y S2=>(pairsD r env S2).bind fun ps S3=> .ok ((x,y)::ps) S3
def keyed:List (D × D)→Option (List (Key × D))
 | [] =>some []
 |p::r=>match keyOf p.1,keyed r with
  |some k,some ks=>some ((k,p.2)::ks)
  | _,_=>none
def eDct (ps:List (ED × ED)):ED:=fun env S=>(pairsD ps env S).nox.bind fun xs S1=>match keyed xs with
 |some kvs=>if kvs.length≤15 then .ok (.obj S1.length) (S1++ [.dK (mergeD [] kvs)]) else .bad
 |none=> .bad
theorem RepKV.merge:∀ {more:List (Key × D)} {mv:List (Key × V)} {kvs:List (Key × D)} {vs:List (Key × V)},RepKV G w more mv→RepKV G w kvs vs→RepKV G w (mergeD kvs more) (mergeK vs mv)
 | [],mv,kvs,vs,h,h'=>by
   have:mv= [] :=h
   subst this;exact h'
 |p::r,mv,kvs,vs,h,h'=>by
  obtain⟨u,z,rfl,h1,h2⟩:=h
  show RepKV G w (mergeD (putD kvs p.1 p.2) r) (mergeK (putK vs p.1 u) z)
  exact RepKV.merge h2 (h'.put p.1 h1)
theorem RepKV.parts {κ :Type} :∀ {kvs:List (κ × D)} {vs:List (κ × V)},RepKV G w kvs vs→∃us,vs=(kvs.map (·.1)).zip us∧RepL G w (kvs.map (·.2)) us
 | [],vs,h=>by
   have:vs= [] :=h
   subst this;exact⟨[],rfl,by simp[RepL]⟩
 |p::r,vs,h=>by
  obtain⟨u,z,rfl,h1,h2⟩:=h
  obtain⟨us,rfl,h3⟩:=RepKV.parts h2
  exact⟨u::us,rfl,by simp only[List.map_cons,RepL];exact⟨u,us,rfl,h1,h3⟩⟩
def RepP (G:GC) (w:Wd):List (D × D)→List (V × V)→Prop
 | [],x=>x= []
 |p::r,x=>∃a b y,x=(a,b)::y∧Rep G w p.1 a∧Rep G w p.2 b∧RepP G w r y
theorem RepP.keyed:∀ {ps:List (D × D)} {vs:List (V × V)} {kvs:List (Key × D)},RepP G w ps vs→keyed ps=some kvs→∃ks,vs=ks.map (fun kv=>(kV kv.1,kv.2))∧RepKV G w kvs ks
 | [],vs,kvs,h,e=>by
   have:vs= [] :=h
   cases e
   subst this;exact⟨[],rfl,rfl⟩
 |p::r,vs,kvs,h,e=>by
  obtain⟨a,b,y,rfl,h1,h2,h3⟩:=h
  simp only[L3.keyed] at e
  split at e
  ·rename_i k ks hk hks
   cases e
   obtain⟨us,rfl,q⟩:=RepP.keyed h3 hks
   exact⟨(k,b)::us,by simp[keyOf_rep h1 hk],⟨b,us,rfl,h2,q⟩⟩
  ·cases e
structure QP (X:Cx) (G:GC) (Wx:WX) (pos:Pos) (ks:List (Option Expr)) (vs:List Expr) (ps:List (ED × ED)):Prop where
 ex:∃trs,PPs X pos ks vs trs∧∀ σ H Q,(∃ w env,w.H=H∧SRep G w∧ERep G w env σ ∧Post G w (pairsD ps env w.S) (RepP G) Q (fun C dx H'=>Wx C dx σ H'))→tPairs trs σ H Q
theorem q_pnil:QP X G Wx pos [] [] [] :=⟨[],pps_nil,fun σ H Q ⟨w,env,eH,sr,er,p⟩=>by
 subst eH
 exact Post.ret (Ra:=RepP G) (a:= []) (b:= []) sr (show([] :List (V × V))= [] from rfl) p⟩
theorem q_pcons {k v:Expr} {ks:List (Option Expr)} {vs:List Expr} {mk mv:ED} {ps:List (ED × ED)} (hk:PE X k (tE G mk Wx)) (hv:PE X v (tE G mv Wx)) (hr:QP X G Wx pos ks vs ps):QP X G Wx pos (some k::ks) (v::vs) ((mk,mv)::ps):=by
 obtain⟨trs,h1,h2⟩:=hr.ex
 refine⟨_,pps_cons hk hv h1,fun σ H Q ⟨w,env,eH,sr,er,p⟩=> ?_⟩
 subst eH
 refine⟨w,env,rfl,sr,er,(Post.bind (Ra:=Rep G) p).mono (fun x H1 m=> ?_) fun _ _ _ h=>h⟩
 obtain⟨w1,d1,rfl,x1,s1,r1,p1⟩:=m
 refine⟨w1,env,rfl,s1,er.mono x1,(Post.bind (Ra:=Rep G) p1).mono (fun y H2 m=> ?_) fun _ _ _ h=>h⟩
 obtain⟨w2,d2,rfl,x2,s2,r2,p2⟩:=m
 refine h2 σ w2.H _ ⟨w2,env,rfl,s2,(er.mono x1).mono x2,(Post.bind (Ra:=RepP G) p2).mono (fun zs H3 m=> ?_) fun _ _ _ h=>h⟩
 obtain⟨w3,d3,rfl,x3,s3,r3,p3⟩:=m
 exact Post.ret (Ra:=RepP G) (a:=(d1,d2)::d3) s3 ⟨x,y,zs,rfl,Rep.mono (WX'.trans x2 x3) _ _ r1,Rep.mono x3 _ _ r2,r3⟩ p3
theorem disp_mid {ps:List (ED × ED)} {trs:List (TE × TE)} {f:List (D × D)→Store→R D} (ht:∀ σ H Q,(∃ w env,w.H=H∧SRep G w∧ERep G w env σ ∧Post G w (pairsD ps env w.S) (RepP G) Q (fun C dx H'=>Wx C dx σ H'))→tPairs trs σ H Q)
 {σ :L2.St} {Q:VK} {env:EnvD} (sr:SRep G w) (er:ERep G w env σ) (p:Post G w ((pairsD ps env w.S).nox.bind f) (Rep G) Q (fun C dx H'=>Wx C dx σ H'))
 (fin:∀(a:Addr) (w2:Wd) (xs:List (D × D)) (vs:List (V × V)),w.H a=none→WX' [a] w w2→SRep G w2→a ∈ w2.tmp→w2.H a=some (.dK [])→RepP G w2 xs vs→Post G w (f xs w2.S) (Rep G) Q (fun C dx H'=>Wx C dx σ H')→
   ∃kvs:List (Key × V),vs=kvs.map (fun kv=>(kV kv.1,kv.2))∧kvs.length≤15∧Q (.ref a) (upd w2.H a (.dK (mergeK [] kvs)))):tDisp trs σ w.H Q:=by
 intro a ha
 obtain⟨x0,s0,r0⟩:=tmp_on (o:= .dK []) sr ha
 refine ht σ _ _ ⟨⟨w.mu,w.S,upd w.H a (.dK []),a::w.tmp⟩,env,rfl,s0,⟨er.len,fun i d e=>let⟨v,h1,h2⟩:=er.at' i d e;⟨v,h1,r0 d v h2⟩⟩,?_⟩
 show Post G _ (pairsD ps env w.S) (RepP G) _ _
 cases h:pairsD ps env w.S with
 |ok xs S'=>
  rw[h] at p
  intro vs w2 x2 e2 s2 r2
  subst e2
  have tm:a ∈ w2.tmp:=x2.tmp' a (by simp)
  have hp:w2.H a=some (.dK []):=(x2.keep a _ upd_same (s0.tm a (by simp)).2 (by simp)).1
  exact⟨hp,fin a w2 xs vs ha (WX'.trans x0 (WX'.wide x2)) s2 tm hp r2 p⟩
 |exc e S'=>rw[h] at p;exact p.elim
 |bad=>rw[h] at p;exact p.elim
theorem q_dct {ks:List (Option Expr)} {vs:List Expr} {ps:List (ED × ED)} (h:QP X G Wx pos ks vs ps) (hall:ks.all (·.isSome)=true) (hl:ks.length=vs.length) (h0:ks≠ []) (h15:ks.length≤15):PE X (.Dict ks vs pos) (tE G (eDct ps) Wx):=by
 obtain⟨trs,h1,h2⟩:=h.ex
 refine peI (pe_disp h1 hall hl h0 h15) fun σ H Q q=> ?_
 obtain⟨w,env,rfl,sr,er,p⟩:=q
 refine disp_mid h2 sr er p fun a w2 xs us ha x s2 tm hp r2 p=> ?_
 split at p
 ·rename_i kvs hk
  split at p
  ·rename_i hz
   obtain⟨ks',rfl,rk⟩:=r2.keyed hk
   have len:∀ {kvs:List (Key × D)} {ks:List (Key × V)} {w:Wd},RepKV G w kvs ks→ks.length=kvs.length:=by
    intro kvs
    induction kvs with
    |nil=>intro ks w h;have:ks= [] :=h;subst this;rfl
    |cons p r ih=>intro ks w h;obtain⟨u,z,rfl,_,h2⟩:=h;simp[ih h2]
   refine⟨ks',rfl,by rw[len rk];exact hz,?_⟩
   have rm:=RepKV.merge rk (kvs:= []) (vs:= []) rfl
   obtain⟨x1,s1,f1,f2,nm⟩:=tmp_off (H':=fun b=>if b=a then none else w2.H b) sr ha x s2 tm fun b hb=>if_neg hb
   obtain⟨us,e1,r3⟩:=rm.parts
   have back:∀ {kvs:List (Key × D)} {us:List V} {w':Wd},RepL G w' (kvs.map (·.2)) us→RepKV G w' kvs ((kvs.map (·.1)).zip us):=by
    intro kvs
    induction kvs with
    |nil=>intro us w' _;rfl
    |cons p r ih=>intro us w' h;simp only[List.map_cons,RepL] at h;obtain⟨v,r',rfl,h1,h2⟩:=h;exact⟨v,_,rfl,h1,ih h2⟩
   have r4:=back (f2 _ _ r3)
   rw[← e1] at r4
   obtain⟨x2,s2'⟩:=new_obj (w:=⟨w2.mu,w2.S,fun b=>if b=a then none else w2.H b,w.tmp⟩) (p:=a) (ob:= .dK (mergeD [] kvs)) (o:= .dK (mergeK [] ks')) s1 (if_pos rfl) fun w' x' e=>⟨_,e,RepKV.mono x' _ _ r4⟩
   have eH:upd (fun b=>if b=a then none else w2.H b) a (.dK (mergeK [] ks'))=upd w2.H a (.dK (mergeK [] ks')):=by
    funext b
    unfold upd
    by_cases hb:b=a
    ·rw[if_pos hb,if_pos hb]
    ·rw[if_neg hb,if_neg hb];exact if_neg hb
   have q:=p (.ref a) _ (WX'.trans x1 x2) rfl s2' (by simp only[Rep];exact⟨a,by rw[← s1.len];simp,rfl⟩)
   rw[← eH]
   exact q
  ·exact p.elim
 ·exact p.elim
def eDic0:ED:=fun _ S=> .ok (.dic [] []) S
def eDct0:ED:=fun _ S=> .ok (.obj S.length) (S++ [.dK []])
theorem q_dic0:PE X (.Dict [] [] pos) (tE G eDic0 Wx):=peI pe_dnewK fun σ H Q q=>by
 obtain⟨w,env,rfl,sr,er,p⟩:=q
 intro a ha
 obtain⟨x,s,nm⟩:=new_ext (o:= .dK []) sr ha
 exact p (.ref a) _ x rfl s (by simp only[Rep,RepL];exact⟨a,[],rfl,upd_same,nm,rfl,rfl⟩)
theorem q_dct0:PE X (.Dict [] [] pos) (tE G eDct0 Wx):=peI pe_dnewK fun σ H Q q=>by
 obtain⟨w,env,rfl,sr,er,p⟩:=q
 intro a ha
 obtain⟨x,s⟩:=new_obj (ob:= .dK []) (o:= .dK []) sr ha fun w' x e=>⟨[],e,rfl⟩
 exact p (.ref a) _ x rfl s (by simp only[Rep];exact⟨a,by rw[← sr.len];simp,rfl⟩)
def splitD:D→FN:=fun x xs S=>match x,xs with
 | .str a,[.str b] =>if(b.length==0)=false∧a.length+2≤sizeLine then .ok (.lst ((Txt.split a b).map .str)) S else .bad
 | _,_=> .bad
theorem c_split:CalmM splitD:=fun x xs S=>by unfold splitD;repeat' split
                                             all_goals trivial
theorem RepL_strs {w:Wd} :∀ {ns:List Str} {vs:List V},RepL G w (ns.map .str) vs↔vs=ns.map V.str
 | [],vs=>by simp[RepL]
 |n::ns,vs=>by
  simp only[List.map_cons,RepL,Rep]
  constructor
  ·rintro⟨v,r,rfl,rfl,h⟩;rw[RepL_strs.mp h]
  ·rintro rfl;exact⟨_,_,rfl,rfl,RepL_strs.mpr rfl⟩
theorem o_split:MtR X "str.split" (rM G splitD):=mtI2 mt_split fun x xs H Q q=>by
 obtain⟨w,d,ds,rfl,sr,r1,rl,p⟩:=q
 unfold splitD at p
 split at p
 ·rename_i a b
  split at p
  ·rename_i hz
   simp only[Rep] at r1
   simp only[RepL,Rep] at rl
   obtain⟨v,r',rfl,rfl,rfl⟩:=rl
   exact⟨a,b,r1,rfl,hz.1,hz.2,fun p' hp'=>new_lst (S:=w.S) sr (RepL_strs.mpr rfl) p p' hp'⟩
  ·exact p.elim
 ·exact p.elim
end
end L3
namespace L3
open PySem PySem.Spec PyProof.Rows L2
section
variable {G:GC} {x:Str} {a:Addr}
def KVal (G:GC) (d:D) (u:Value):Prop:=∃v,RelV v u∧∀w,Rep G w d v
def KVals (G:GC):List D→List Value→Prop
 | [],us=>us= []
 |d::ds,us=>∃u r,us=u::r∧KVal G d u∧KVals G ds r
theorem grep_of {d:D} {u:Value} (h:G.mg x=some u) (k:KVal G d u):GRep G x d:=by
 obtain⟨v,r,f⟩:=k
 exact⟨u,v,h,r,f⟩
theorem kv_str {i:Str} {t:PySem.Tok} :KVal G (.str i) (.str i t):=⟨.str i,⟨t,rfl⟩,fun w=>by simp[Rep]⟩
theorem kvs_nil:KVals G [] [] :=rfl
theorem kvs_cons {d:D} {ds:List D} {u:Value} {us:List Value} (h:KVal G d u) (r:KVals G ds us):KVals G (d::ds) (u::us):=⟨u,us,rfl,h,r⟩
theorem KVals.vals:∀ {ds:List D} {us:List Value},KVals G ds us→∃vs,Vals vs us∧∀w,RepL G w ds vs
 | [],us,h=>by
   have:us= [] :=h
   subst this;exact⟨[], .nil,fun w=>by simp[RepL]⟩
 |d::ds,us,h=>by
  obtain⟨u,r,rfl,⟨v,h1,h2⟩,h3⟩:=h
  obtain⟨vs,q1,q2⟩:=KVals.vals h3
  exact⟨v::vs, .cons h1 q1,fun w=>by simp only[RepL];exact⟨v,vs,rfl,h2 w,q2 w⟩⟩
theorem KVals.len:∀ {ds:List D} {us:List Value},KVals G ds us→us.length=ds.length
 | [],us,h=>by
   have:us= [] :=h
   subst this;rfl
 |d::ds,us,h=>by
  obtain⟨u,r,rfl,_,h3⟩:=h
  simp[KVals.len h3]
theorem kv_tup {ds:List D} {us:List Value} {dd:Option Addr} {n:Nat} {sl:Array (Option Value)} (l:G.K.lookup a=some ⟨.type "tuple",dd, .seq us.toArray n,sl⟩) (h:KVals G ds us) (hz:ds.length≤1000:=by decide) (hp:plc ds=false:=by rfl):KVal G (.tup ds) (.ref a):=by
 obtain⟨vs,h1,h2⟩:=h.vals
 refine⟨.ref a,rfl,fun w=> ?_⟩
 simp only[Rep]
 exact⟨a,vs,rfl, .inr ⟨⟨_,us.toArray,n,l,rfl,rfl,by simp only[List.size_toArray];rw[h.len,sizeLine_eq];omega,by simpa using h1⟩,hp⟩,h2 w⟩
theorem cx_none {P:Program} {w:World} {H:Hp} {s:Shared} {e:Value} {s':Shared} (h:L2.CX P w [] H s (fun _ _ _=>False) e s'):False:=by
 obtain⟨_,_,_,_,_,_,_,_,_,_,_,_,z⟩:=h
 exact z
theorem funD_mk {K:PySem.W.Frag} {x qual:Str} {params:Arguments} {body:List Stmt} {scope:Scope} {kws:List (Str × V)} {f:Addr} {oc:Value} {od an:Option Addr} {osl:Array (Option Value)} {kV doc pm cdv ct:Value}
 (l:K.lookup f=some ⟨oc,od, .func (PySem.W.fnOf x qual params body scope .none kV doc pm an cdv ct),osl⟩) (c:PySem.W.codeIn K cdv qual=true) (k:PySem.W.keepIn K (.ref f)=true) (kw:KwdV K kV kws):
 FunD K x qual params body scope [] kws f (PySem.W.fnOf x qual params body scope .none kV doc pm an cdv ct):=
 ⟨⟨oc,od, .none,kV,doc,pm,an,cdv,ct,osl,rfl,l,c, .inl ⟨rfl,rfl⟩,kw⟩,k⟩
theorem kw_none {K:PySem.W.Frag} {kV:Value} :KwdV K kV [] := .inl rfl
def KwL (K:PySem.W.Frag) (a:Addr) (l:List (Str × V)):Prop:=∀q ∈ l,∃u,PySem.W.nsIn K a q.1=some (some u)∧RelV q.2 u
theorem kw_nil {K:PySem.W.Frag} :KwL K a [] :=fun q h=>by simp at h
theorem kw_cons {K:PySem.W.Frag} {l:List (Str × V)} {y:Str} {v:V} {u:Value} (e:PySem.W.nsIn K a y=some (some u)) (r:RelV v u) (t:KwL K a l):KwL K a ((y,v)::l):=fun q h=>by
 rcases List.mem_cons.mp h with rfl|h
 ·exact⟨u,e,r⟩
 ·exact t q h
theorem kw_some {K:PySem.W.Frag} {l:List (Str × V)} (h:KwL K a l):KwdV K (.ref a) l:= .inr ⟨a,rfl,h⟩
theorem roomG_caller {k:Nat} (h:Room k callerA):RoomG k callerA:=⟨h,rfl⟩
end
end L3
namespace L3
open PySem PySem.Spec PyProof.Rows L2
abbrev PD:=EnvD→Store→R (Option Int)
def pNo:PD:=fun _ S=> .ok none S
def pYes (a:ED):PD:=fun env S=>(a env S).bind fun x S1=>match x with
 | .int i=> .ok (some i) S1
 | _=> .bad
def tO (G:GC) (m:PD) (Wx:WX):TO:=fun σ H Q=>∃w env,w.H=H∧SRep G w∧ERep G w env σ ∧Post G w (m env w.S) (fun _ a b=>a=b) Q (fun C dx H'=>Wx C dx σ H')
def cutL {α :Type} (xs:List α) (lo hi:Option Int):List α :=(xs.drop (HT.sIx xs.length 0 lo)).take (HT.sIx xs.length xs.length hi-HT.sIx xs.length 0 lo)
def slD (x:D) (lo hi:Option Int) (S:Store):R D:=match x with
 | .tup l=> .ok (.tup (cutL l lo hi)) S
 | .str z=>if z.length≤sizeLine then .ok (.str (cutS z lo hi)) S else .bad
 |x=>match asL x S with
  |some l=> .ok (.lst (cutL l lo hi)) S
  |none=> .bad
def eSl (a:ED) (l h:PD):ED:=fun env S=>(a env S).bind fun x S1=>(l env S1).bind fun lo S2=>(h env S2).bind fun hi S3=>slD x lo hi S3
theorem cutL_whole {α :Type} {xs:List α} {lo hi:Option Int} (h:HT.sIx xs.length 0 lo=0∧HT.sIx xs.length xs.length hi=xs.length):cutL xs lo hi=xs:=by
 unfold cutL
 rw[h.1,h.2]
 simp
section
variable {G:GC} {X:Cx} {Wx:WX} {pos p2:Pos} {w:Wd}
theorem RepL.cut {l:List D} {vs:List V} (h:RepL G w l vs) (lo hi:Option Int):RepL G w (cutL l lo hi) (cutV vs lo hi):=by
 unfold cutL cutV
 rw[h.length]
 exact(h.drop _).take _
theorem q_pno:PO X none (tO G pNo Wx):=⟨fun pins s σ H Q I q=>by
 obtain⟨w,env,rfl,sr,er,p⟩:=q
 exact po_none.run pins s σ w.H Q I (Post.ret (Ra:=fun _ (a b:Option Int)=>a=b) sr rfl p)⟩
theorem q_pyes {e:Expr} {m:ED} (h:PE X e (tE G m Wx)):PO X (some e) (tO G (pYes m) Wx):=⟨fun pins s σ H Q I q=>by
 refine(po_some h).run pins s σ H Q I ?_
 obtain⟨w,env,rfl,sr,er,p⟩:=q
 refine⟨w,env,rfl,sr,er,(Post.bind (Ra:=Rep G) p).mono (fun x H1 m=> ?_) fun _ _ _ h=>h⟩
 obtain⟨w1,d1,rfl,x1,s1,rp1,p1⟩:=m
 cases d1 with
 |int i=>
  simp only[Rep] at rp1
  exact⟨i,rp1,Post.ret (Ra:=fun _ (a b:Option Int)=>a=b) s1 rfl p1⟩
 | _=>exact p1.elim⟩
theorem q_slice {e:Expr} {lo hi:Option Expr} {m:ED} {ml mh:PD} (hK:X.K=G.K) (he:PE X e (tE G m Wx)) (hl:PO X lo (tO G ml Wx)) (hh:PO X hi (tO G mh Wx)):PE X (.Subscript e (.Slice lo hi none p2) pos) (tE G (eSl m ml mh) Wx):=
 peI (pe_slice (sl_tupA.or (sl_str.or sl_list)) he hl hh) fun σ H Q q=>by
  obtain⟨w,env,rfl,sr,er,p⟩:=q
  refine⟨w,env,rfl,sr,er,(Post.bind (Ra:=Rep G) p).mono (fun x H1 m=> ?_) fun _ _ _ h=>h⟩
  obtain⟨w1,d1,rfl,x1,s1,rp1,p1⟩:=m
  refine⟨w1,env,rfl,s1,er.mono x1,(Post.bind (Ra:=fun _ (a b:Option Int)=>a=b) p1).mono (fun lo H2 m=> ?_) fun _ _ _ h=>h⟩
  obtain⟨w2,d2,rfl,x2,s2,rfl,p2⟩:=m
  refine⟨w2,env,rfl,s2,(er.mono x1).mono x2,(Post.bind (Ra:=fun _ (a b:Option Int)=>a=b) p2).mono (fun hi H3 m=> ?_) fun _ _ _ h=>h⟩
  obtain⟨w3,d3,rfl,x3,s3,rfl,p3⟩:=m
  have r1:=Rep.mono (WX'.trans x2 x3) _ _ rp1
  unfold slD at p3
  split at p3
  ·have r1':=r1
   simp only[Rep] at r1
   obtain⟨a,vs,rfl,h1,h2⟩:=r1
   have hl:=h2.length
   refine .inl ⟨a,vs,rfl,by rw[hK];exact SqT_of h1,fun hw=> ?_,fun _ p' hp'=>new_tup s3 (h2.cut d2 d3) p3 p' hp'⟩
   rw[cutL_whole (by rw[← hl];exact hw)] at p3
   exact Post.ret (Ra:=Rep G) s3 r1' p3
  ·split at p3
   ·rename_i hz
    simp only[Rep] at r1
    exact .inr (.inl ⟨_,r1,hz,Post.ret (Ra:=Rep G) s3 (by simp[Rep]) p3⟩)
   ·exact p3.elim
  ·split at p3
   ·rename_i l hl
    obtain⟨a,vs,rfl,h1,h2⟩:=asL_rep s3 r1 hl
    exact .inr (.inr ⟨a,vs,rfl,SqL.of h1,fun p' hp'=>new_lst (S:=w3.S) s3 (h2.cut d2 d3) p3 p' hp'⟩)
   ·exact p3.elim
def allStrs:List D→Option (List Str)
 | [] =>some []
 | .str b::r=>(allStrs r).map (b:: ·)
 | _=>none
theorem allStrs_rep:∀ {l:List D} {vs:List V} {bs:List Str},RepL G w l vs→allStrs l=some bs→vs=bs.map V.str
 | [],vs,bs,r,e=>by simp only[RepL] at r;cases e;exact r
 |d::ds,vs,bs,r,e=>by
  simp only[RepL] at r
  obtain⟨v,r',rfl,h1,h2⟩:=r
  cases d with
  |str b=>
   simp only[allStrs,Option.map_eq_some_iff] at e
   obtain⟨bs',e1,rfl⟩:=e
   simp only[Rep] at h1
   rw[h1,allStrs_rep h2 e1]
   rfl
  | _=>simp[allStrs] at e
def asS (x:D) (S:Store):Option (List D):=match x with
 | .tup l=>some l
 |x=>asL x S
def joinD:D→FN:=fun x xs S=>match x,xs with
 | .str a,[y] =>match(asS y S).bind allStrs with
   |some ys=>if(ys.map (·.length)).sum+ys.length*a.length≤16777216 then .ok (.str (Txt.join a ys)) S else .bad
   |none=> .bad
 | _,_=> .bad
theorem c_join:CalmM joinD:=fun x xs S=>by unfold joinD;repeat' split
                                           all_goals trivial
theorem asS_rep {x:D} {v:V} {l:List D} (sr:SRep G w) (r:Rep G w x v) (e:asS x w.S=some l):∃a vs,v= .ref a∧(SqL G.K w.H a vs∨SqT G.K w.H a vs)∧RepL G w l vs:=by
 unfold asS at e
 split at e
 ·cases e
  simp only[Rep] at r
  obtain⟨a,vs,rfl,h1,h2⟩:=r
  exact⟨a,vs,rfl, .inr (SqT_of h1),h2⟩
 ·obtain⟨a,vs,rfl,h1,h2⟩:=asL_rep sr r e
  exact⟨a,vs,rfl, .inl (SqL.of h1),h2⟩
theorem o_join (hK:X.K=G.K):MtR X "str.join" (rM G joinD):=mtI2 mt_join fun x xs H Q q=>by
 obtain⟨w,d,ds,rfl,sr,r1,rl,p⟩:=q
 unfold joinD at p
 split at p
 ·rename_i a y
  split at p
  ·rename_i ys hy
   split at p
   ·rename_i hz
    simp only[Rep] at r1
    simp only[RepL] at rl
    obtain⟨v,r',rfl,ry,rfl⟩:=rl
    cases hl:asS y w.S with
    |none=>rw[hl] at hy;cases hy
    |some l=>
     rw[hl] at hy
     obtain⟨b,vs,rfl,h1,h2⟩:=asS_rep sr ry hl
     rw[allStrs_rep h2 hy] at h1
     exact⟨a,b,ys,r1,rfl,by rw[hK];exact h1,hz,Post.ret (Ra:=Rep G) sr (by simp[Rep]) p⟩
   ·exact p.elim
  ·exact p.elim
 ·exact p.elim
def keyPy:Key→PyData
 | .inl i=> .int i
 | .inr x=> .str x
mutual
def toPyR:D→Option PyData
 | .non=>some .none
 | .bl b=>some (.bool b)
 | .int i=>some (.int i)
 | .str s=>some (.str s)
 | .tup l=>(toPyRL l).map .tuple
 | .lst l=>(toPyRL l).map .list
 | .dic ks l=>if ks.length=l.length then(toPyRL l).map fun xs=> .dict ((ks.map keyPy).zip xs) else none
 | .obj _=>none
 | .glb _=>none
 | .wtp _=>none
 | .ty _=>none
 | .scr _=>none
 | .kd _ _=>none
 | .xcp _ _ _=>none
 | .lam _ _=>none
def toPyRL:List D→Option (List PyData)
 | [] =>some []
 |d::ds=>match toPyR d,toPyRL ds with
  |some x,some xs=>some (x::xs)
  | _,_=>none
end
theorem toPyRL_len:∀(l:List D) (xs:List PyData),toPyRL l=some xs→xs.length=l.length
 | [],xs,h=>by simp only[toPyRL,Option.some.injEq] at h;subst h;rfl
 |d::l,xs,h=>by
  simp only[toPyRL] at h
  split at h
  ·rename_i y ys e1 e2
   cases h
   simp[toPyRL_len l ys e2]
  ·cases h
theorem dict_reads {P:Program} {w:World} {h:Heap} :∀ {es:List DictEntry} {kvs:List (Key × Value)} {ks:List Key} {vs:List V},vs.length=ks.length→KV (ks.zip vs) kvs→Pairs (mixKind P w) es kvs→
 ReadsAll h (es.map (·.key)) (ks.map keyPy) [] ∧Vals vs (es.map (·.val))
 | _,_,[],[],_,r,pr=>by cases r;cases pr;exact⟨.nil, .nil⟩
 | _,_,[],v::vs,hl,_,_=>by simp at hl
 | _,_,k::ks,[],hl,_,_=>by simp at hl
 | _,_,k::ks,v::vs,hl,r,pr=>by
   cases r with
   |cons r1 r2=>
    cases pr with
    |cons p1 p2 p3=>
     obtain⟨q1,q2⟩:=dict_reads (h:=h) (ks:=ks) (vs:=vs) (by simpa using hl) r2 p3
     refine⟨?_, .cons (by show L2.RelV v _;simp only [];rw[p2];exact r1.2) q2⟩
     have e1:k=_:=r1.1
     rename_i en es'
     have rd:Reads h en.key (keyPy k) [] :=by
      rcases keyIs_shape p1 with⟨i,t,e2,e3⟩|⟨x,t,e2,e3⟩
      ·rw[e3,e1.trans e2];exact .int i t
      ·rw[e3,e1.trans e2];exact .str x t
     exact .cons (as:= []) (bs:= []) rd q1
mutual
theorem reads_of {pins:List (Addr × Obj)} {s:Shared} {σ :L2.St} (hK:X.K=G.K) (hS:w.H sysModules=none) (I:Inv X pins σ w.H s):∀(d:D) (v:V) (u:Value) (x:PyData),Rep G w d v→toPyR d=some x→RelV v u→∃as,Reads s.heap u x as∧sysModules ∉ as
 | .non,v,u,x,r,e,rv=>by simp only[Rep] at r;subst r;cases e;cases rv;exact⟨[], .none,by simp⟩
 | .bl b,v,u,x,r,e,rv=>by simp only[Rep] at r;subst r;cases e;cases rv;exact⟨[], .bool b,by simp⟩
 | .int i,v,u,x,r,e,rv=>by simp only[Rep] at r;subst r;cases e;obtain⟨t,rfl⟩:=rv;exact⟨[], .int i t,by simp⟩
 | .str z,v,u,x,r,e,rv=>by simp only[Rep] at r;subst r;cases e;obtain⟨t,rfl⟩:=rv;exact⟨[], .str z t,by simp⟩
 | .tup l,v,u,x,r,e,rv=>by
   simp only[Rep] at r
   obtain⟨a,vs,rfl,h1,h2⟩:=r
   simp only[toPyR,Option.map_eq_some_iff] at e
   obtain⟨xs,e1,rfl⟩:=e
   cases rv
   obtain⟨its,rv,⟨o,ho,hc,n,hd⟩,_⟩:=I.tuple (xs:=vs) (by rw[hK];exact SqT_of h1)
   obtain⟨as,h3,h4⟩:=readsL_of hK hS I l vs its xs h2 e1 rv
   exact⟨as, .tuple ho hc hd h3,h4⟩
 | .lst l,v,u,x,r,e,rv=>by
   simp only[Rep] at r
   obtain⟨a,vs,rfl,h1,_,h2⟩:=r
   simp only[toPyR,Option.map_eq_some_iff] at e
   obtain⟨xs,e1,rfl⟩:=e
   cases rv
   obtain⟨its,rv,⟨o,n,ho,hc,_,hd⟩,_⟩:=I.list (xs:=vs) (SqL.of h1)
   obtain⟨as,h3,h4⟩:=readsL_of hK hS I l vs its xs h2 e1 rv
   exact⟨_, .list ho hc hd h3,fun h=>(List.mem_cons.mp h).elim (fun e=>by rw[← e,hS] at h1;cases h1) h4⟩
 | .dic ks l,v,u,x,r,e,rv=>by
   simp only[Rep] at r
   obtain⟨a,vs,rfl,h1,_,hl,h2⟩:=r
   simp only[toPyR] at e
   rw[if_pos hl] at e
   rw[Option.map_eq_some_iff] at e
   obtain⟨xs,e1,rfl⟩:=e
   cases rv
   obtain⟨_,hs,kvs,k1,o,es,ep,g,ex,dt,_,pr,_⟩:=dk_of I.hok h1
   have hv:vs.length=l.length:=RepL.length h2
   obtain⟨q1,q2⟩:=dict_reads (h:=s.heap) (ks:=ks) (vs:=vs) (by omega) k1 pr
   obtain⟨bs,q3,q4⟩:=readsL_of hK hS I l vs _ xs h2 e1 q2
   have hx:xs.length=ks.length:=by
    have h5:=toPyRL_len l xs e1
    omega
   have z1:((ks.map keyPy).zip xs).map (·.1)=ks.map keyPy:=by rw[List.map_fst_zip];simp;omega
   have z2:((ks.map keyPy).zip xs).map (·.2)=xs:=by rw[List.map_snd_zip];simp;omega
   refine⟨_, .dict (kvs:=(ks.map keyPy).zip xs) (as:= []) (bs:=bs) g ex.1 dt (by rw[z1];exact q1) (by rw[z2];exact q3),fun h=> ?_⟩
   simp only[List.cons_append,List.nil_append,List.mem_cons] at h
   rcases h with h|h
   ·rw[← h] at hs
    simp at hs
   ·exact q4 h
 | .obj _,_,_,_,_,e,_=>by simp[toPyR] at e
 | .glb _,_,_,_,_,e,_=>by simp[toPyR] at e
 | .wtp _,_,_,_,_,e,_=>by simp[toPyR] at e
 | .ty _,_,_,_,_,e,_=>by simp[toPyR] at e
 | .scr _,_,_,_,_,e,_=>by simp[toPyR] at e
 | .kd _ _,_,_,_,_,e,_=>by simp[toPyR] at e
theorem readsL_of {pins:List (Addr × Obj)} {s:Shared} {σ :L2.St} (hK:X.K=G.K) (hS:w.H sysModules=none) (I:Inv X pins σ w.H s):∀(d:List D) (v:List V) (u:List Value) (x:List PyData),RepL G w d v→toPyRL d=some x→Vals v u→∃as,ReadsAll s.heap u x as∧sysModules ∉ as
 | [],v,u,x,r,e,rv=>by simp only[RepL] at r;subst r;cases e;cases rv;exact⟨[], .nil,by simp⟩
 |d::ds,v,u,x,r,e,rv=>by
  simp only[RepL] at r
  obtain⟨v1,r',rfl,h1,h2⟩:=r
  simp only[toPyRL] at e
  split at e
  ·rename_i y ys e1 e2
   cases e
   cases rv with
   |cons ra rb=>
    obtain⟨as,q1,q2⟩:=reads_of hK hS I d v1 _ y h1 e1 ra
    obtain⟨bs,q3,q4⟩:=readsL_of hK hS I ds r' _ ys h2 e2 rb
    exact⟨_, .cons q1 q3,fun z=>(List.mem_append.mp z).elim q2 q4⟩
  ·cases e
end
def showOk (x:PyData):Bool:=x.showable&&decide (x.shown.length≤sizeLine)&&decide (x.depth≤100)
def reprD:FN:=fun xs S=>match xs with
 | [x] =>match toPyR (deref x S) with
   |some a=>if showOk a then .ok (.str a.shown) S else .bad
   |none=> .bad
 | _=> .bad
theorem c_repr:CalmN reprD:=fun xs S=>by unfold reprD;repeat' split
                                         all_goals trivial
theorem derefR_rep {pins:List (Addr × Obj)} {s:Shared} {σ :L2.St} (hK:X.K=G.K) (hS:w.H sysModules=none) (I:Inv X pins σ w.H s) {x:D} {v:V} {u:Value} (sr:SRep G w) (r:Rep G w x v) (rv:RelV v u) {y:PyData} (e:toPyR (deref x w.S)=some y):∃as,Reads s.heap u y as∧sysModules ∉ as:=by
 cases x with
 |obj n=>
  unfold deref at e
  cases hn:w.S[n]? with
  |none=>simp[hn,toPyR] at e
  |some o=>
   cases o with
   |lst l=>
    simp only[hn] at e
    obtain⟨a,vs,rfl,h1,h2⟩:=asL_rep (l:=l) sr r (by simp[asL,hn])
    simp only[toPyR,Option.map_eq_some_iff] at e
    obtain⟨xs,e1,rfl⟩:=e
    cases rv
    obtain⟨its,rv,⟨o,n,ho,hc,_,hd⟩,_⟩:=I.list (xs:=vs) (SqL.of h1)
    obtain⟨as,h3,h4⟩:=readsL_of hK hS I l vs its xs h2 e1 rv
    exact⟨_, .list ho hc hd h3,fun h=>(List.mem_cons.mp h).elim (fun e=>by rw[← e,hS] at h1;cases h1) h4⟩
   |ptp l=>
    simp only[hn] at e
    simp only[Rep] at r
    obtain⟨a,hm,rfl⟩:=r
    obtain⟨o,vs,⟨h1,_⟩,_,h2⟩:=sr.obj n _ a hn hm
    simp only[toPyR,Option.map_eq_some_iff] at e
    obtain⟨xs,e1,rfl⟩:=e
    cases rv
    obtain⟨its,rv,⟨o,ho,hc,n,hd⟩,_⟩:=I.tuple (xs:=vs) (.inl (.inr ⟨o,h1⟩))
    obtain⟨as,h3,h4⟩:=readsL_of hK hS I l vs its xs h2 e1 rv
    exact⟨as, .tuple ho hc hd h3,h4⟩
   | _=>simp[hn,toPyR] at e
 | _=>exact reads_of hK hS I _ v u y r e rv
theorem o_repr (hK:X.K=G.K) (hM:∃o,X.base.get? sysModules=some o) (hg:X.A.guards=some []) (hu:X.A.units+150<cLine):CallR X (.builtin "repr") (rN G reprD):=by
 intro pins s σ H xs us Q I rs q
 obtain⟨w,ds,rfl,sr,rl,p⟩:=q
 unfold reprD at p
 split at p
 ·rename_i x
  split at p
  ·rename_i a ha
   split at p
   ·rename_i ok
    simp only[showOk,Bool.and_eq_true,decide_eq_true_eq] at ok
    obtain⟨⟨ok1,ok2⟩,ok3⟩:=ok
    simp only[RepL] at rl
    obtain⟨v,r',rfl,r1,rfl⟩:=rl
    cases rs with
    |cons rv rt=>
     cases rt
     obtain⟨o,hM⟩:=hM
     obtain⟨as,rd,no⟩:=derefR_rep hK (I.bs _ _ hM).2 I sr r1 rv ha
     have fin:∀(z:Str) (h':Heap) (tk:PySem.Tok) (tk':Nat),z=a.shown→(∀ b o,s.heap.get? b=some o→h'.get? b=some o)→EP X pins σ Q (.str z tk) { s with heap:=h',toks:=tk' } :=fun z h' tk tk' ez k=>by
      subst ez
      exact⟨.str _,w.H,I.kept (t':=tk') k,⟨tk,rfl⟩,Post.ret (Ra:=Rep G) sr (by simp[Rep]) p⟩
     have same:∀b o,s.heap.get? b=some o→s.heap.get? b=some o:=fun _ _ h=>h
     cases rd with
     |none=>exact PySem.P.repr_of_none (fin _ s.heap _ _ rfl same)
     |bool b=>exact PySem.P.repr_of_bool (fin _ s.heap _ _ (by simp[PyData.shown]) same)
     |int i t=>exact PySem.P.repr_of_int (by simpa[PyData.showable] using ok1) (fin _ s.heap _ _ rfl same)
     |str z t=>exact PySem.P.repr_of_str (fin _ s.heap _ _ rfl same) (by simpa[PyData.shown] using ok2)
     |list h1 h2 h3 h4=>
      exact repr_of_reads' (.list h1 h2 h3 h4) ok1 (fun _=>no) hg (by omega) same (fun h' t tk k=>fin _ h' t tk rfl k) ok2
     |tuple h1 h2 h3 h4=>
      exact repr_of_reads' (.tuple h1 h2 h3 h4) ok1 (fun _=>no) hg (by omega) same (fun h' t tk k=>fin _ h' t tk rfl k) ok2
     |dict h1 h2 h3 h4 h5=>
      exact repr_of_reads' (.dict h1 h2 h3 h4 h5) ok1 (fun _=>no) hg (by omega) same (fun h' t tk k=>fin _ h' t tk rfl k) ok2
   ·exact p.elim
  ·exact p.elim
 ·exact p.elim
end
end L3
namespace L3
open PySem PySem.Spec PyProof.Rows L2
section
variable {G:GC} {X:Cx} {Wx:WX} {pos p2:Pos} {w:Wd}
def dkAt (x:D) (S:Store):Option (List (Key × D)):=match x with
 | .dic ks l=>if ks.length=l.length then some (ks.zip l) else none
 | .obj n=>match S[n]? with
   |some (.dK kvs)=>some kvs
   | _=>none
 | _=>none
theorem dkAt_rep {x:D} {v:V} {kvs:List (Key × D)} (sr:SRep G w) (r:Rep G w x v) (e:dkAt x w.S=some kvs):∃a vs,v= .ref a∧w.H a=some (.dK vs)∧RepKV G w kvs vs:=by
 cases x with
 |dic ks l=>
  simp only[dkAt] at e
  split at e
  ·rename_i hl
   cases e
   simp only[Rep] at r
   obtain⟨a,vs,rfl,h1,_,_,h2⟩:=r
   exact⟨a,_,rfl,h1,zip_kv hl h2⟩
  ·cases e
 |obj n=>
  simp only[dkAt] at e
  split at e
  ·rename_i l hn
   cases e
   simp only[Rep] at r
   obtain⟨a,hm,rfl⟩:=r
   obtain⟨vs,h1,h2⟩:=sr.obj n _ a hn hm
   exact⟨a,vs,rfl,h1,h2⟩
  ·cases e
 | _=>cases e
def dgetD:D→FN:=fun x xs S=>match dkAt x S,xs with
 |some kvs,[y] =>match keyOf y with
  |some k=> .ok ((dGet kvs k).getD .non) S
  |none=> .bad
 |some kvs,[y,z] =>match keyOf y with
  |some k=> .ok ((dGet kvs k).getD z) S
  |none=> .bad
 | _,_=> .bad
theorem c_dget:CalmM dgetD:=fun x xs S=>by unfold dgetD;repeat' split
                                           all_goals trivial
theorem o_dget (hu:X.A.units+1<cLine):MtR X "dict.get" (rM G dgetD):=by
 intro pins s σ H x xs v us Q I rx rs q
 obtain⟨w,d,ds,rfl,sr,r1,rl,p⟩:=q
 unfold dgetD at p
 split at p
 ·rename_i kvs y he
  split at p
  ·rename_i k hk
   obtain⟨a,vs,rfl,h1,h2⟩:=dkAt_rep sr r1 he
   simp only[RepL] at rl
   obtain⟨vy,r',rfl,ry,rfl⟩:=rl
   have ek:=keyOf_rep ry hk
   subst ek
   cases rx
   cases rs with
   |cons q1 q2=>
    cases q2
    refine d_get1 hu I (DGet.k h1) q1 fun w' s' I' rw'=>⟨_,w.H,I',rw',?_⟩
    have:=dGet_rep k h2
    cases hg:dGet kvs k with
    |none=>rw[hg] at this p;simp only at this;rw[this];exact Post.ret (Ra:=Rep G) sr (by simp[Rep]) p
    |some d=>rw[hg] at this p;simp only at this;obtain⟨z,e1,rz⟩:=this;rw[e1];exact Post.ret (Ra:=Rep G) sr rz p
  ·exact p.elim
 ·rename_i kvs y z he
  split at p
  ·rename_i k hk
   obtain⟨a,vs,rfl,h1,h2⟩:=dkAt_rep sr r1 he
   simp only[RepL] at rl
   obtain⟨vy,r',rfl,ry,vz,r'',rfl,rz,rfl⟩:=rl
   have ek:=keyOf_rep ry hk
   subst ek
   cases rx
   cases rs with
   |cons q1 q2=>
    cases q2 with
    |cons q2 q3=>
     cases q3
     refine d_get2 hu I (DGet.k h1) q1 q2 fun w' s' I' rw'=>⟨_,w.H,I',rw',?_⟩
     have:=dGet_rep k h2
     cases hg:dGet kvs k with
     |none=>rw[hg] at this p;simp only at this;rw[this];exact Post.ret (Ra:=Rep G) sr rz p
     |some d=>rw[hg] at this p;simp only at this;obtain⟨y,e1,ry⟩:=this;rw[e1];exact Post.ret (Ra:=Rep G) sr ry p
  ·exact p.elim
 ·exact p.elim
end
end L3
namespace L3
open PySem PySem.Spec PyProof.Rows L2
section
variable {G:GC} {X:Cx} {Wx:WX} {w:Wd}
def eBackT (a:ED):ED:=fun env S=>(a env S).bind fun x S1=>match x with
 | .tup l=> .ok (.tup l.reverse) S1
 | _=> .bad
end
end L3
namespace L3
open PySem PySem.Spec PyProof.Rows L2
theorem vals_getD:∀ {vs:List V} {us:List Value},Vals vs us→∀i:Nat,RelV (vs.getD i .non) (us.getD i .none)
 | [],us,h,i=>by cases h;exact rfl
 |v::vs,us,h,0=>by
  cases h with
  |cons r _=>exact r
 |v::vs,us,h,i+1=>by
  cases h with
  |cons _ t=>exact vals_getD t i
theorem repl_getD {G:GC} {w:Wd} :∀ {ds:List D} {vs:List V},RepL G w ds vs→∀i:Nat,Rep G w (ds.getD i .non) (vs.getD i .non)
 | [],vs,h,i=>by simp only[RepL] at h;subst h;simp[Rep]
 |d::ds,vs,h,0=>by
  simp only[RepL] at h
  obtain⟨v,r,rfl,h1,_⟩:=h
  exact h1
 |d::ds,vs,h,i+1=>by
  simp only[RepL] at h
  obtain⟨v,r,rfl,_,h2⟩:=h
  exact repl_getD h2 i
def gath {α :Type} (z: α) (src:List (Bool × Nat)) (us ws:List α):List α :=src.map fun p=>if p.1 then ws.getD p.2 z else us.getD p.2 z
theorem gath_vals {vs zs:List V} {us ws:List Value} (h:Vals vs us) (g:Vals zs ws):∀src:List (Bool × Nat),Vals (gath .non src vs zs) (gath .none src us ws)
 | [] => .nil
 |p::r=>by
  refine .cons ?_ (gath_vals h g r)
  show RelV (if p.1 then zs.getD p.2 .non else vs.getD p.2 .non) (if p.1 then ws.getD p.2 .none else us.getD p.2 .none)
  split
  ·exact vals_getD g _
  ·exact vals_getD h _
theorem gath_reps {G:GC} {w:Wd} {ds es:List D} {vs zs:List V} (h:RepL G w ds vs) (g:RepL G w es zs):∀src:List (Bool × Nat),RepL G w (gath .non src ds es) (gath .non src vs zs)
 | [] =>by simp[gath,RepL]
 |p::r=>by
  show RepL G w ((if p.1 then es.getD p.2 .non else ds.getD p.2 .non)::gath .non r ds es) ((if p.1 then zs.getD p.2 .non else vs.getD p.2 .non)::gath .non r vs zs)
  simp only[RepL]
  refine⟨_,_,rfl,?_,gath_reps h g r⟩
  split
  ·exact repl_getD g _
  ·exact repl_getD h _
section
variable {X:Cx} {G:GC} {Wx:WX} {pos p:Pos} {k:Nat} {f:Addr} {fd:FuncData} {ps:List Str} {F:FN} {x:Str}
theorem kbd_of {n:Nat} {ks:List Str} (src:List (Bool × Nat)) (h:∀(s:Shared) (us ws:List Value),us.length=n→ws.length=ks.length→BindsTo s fd ⟨us,ks.zip ws⟩ (ps.zip (gath .none src us ws))):Kbd G fd ps n ks (gath .non src):=
 ⟨gath .none src,gath .non src,⟨fun s us ws _ h1 h2=>h s us ws h1 h2,fun r1 r2=>gath_vals r1 r2 src⟩,fun w ds es vs zs _ _ r1 r2=>gath_reps r1 r2 src⟩
theorem q_fnK0 {kws:List Keyword} {ks:List Str} {gD:List D→List D→List D} {b:AD} (c:Cal X.prog X.w G X.base k x f fd ps F) (hb:Kbd G fd ps 0 ks gD) (hr:RoomG k X.A) (hK:X.K=G.K) (hm:X.mg=G.mg) (hg:Gl X x) (tk:Takes X Wx)
 (hkw:QK X G Wx kws b) (hall:(backToKw pos (keywordEach kws X.env)).all (·.1.isSome)=true:=by rfl) (hks:(backToKw pos (keywordEach kws X.env)).filterMap (·.1)=ks:=by rfl)
 (hdb:(x==("__debug__" :Str))=false:=by decide) (hpl:((backTo pos (starEach [] X.env)).any (·.1) || (backToKw pos (keywordEach kws X.env)).any (·.1.isNone))=false:=by rfl):
 PE X (.Call (.Name x p) [] kws pos) (tE G (eKw (kwK F 0 ks.length gD) aNil b) Wx):=by
 obtain⟨g,gV,hn,hrep⟩:=hb
 have ok:=c.ok
 rw[← hK,←hm] at ok
 have kp:PySem.W.keepIn X.K (.ref f)=true:=by rw[hK];exact c.kp
 rw[← hK] at hn
 refine⟨fun pins s σ H Q I q=> ?_⟩
 obtain⟨wd,env,rfl,sr,er,pp⟩:=q
 refine wpAny_Call_Name_kw (ld_glob I hg (by rw[hm];exact c.m) ?_ hdb)
 refine PySem.W.callWith_KW0 (h₀ :=X.base) I.ok.mod.kin kp hall ?_ hpl
 refine thn (hkw.pk.run pos pins s σ wd.H _ I ⟨wd,env,rfl,sr,er,Post.bind (Ra:=RepL G) pp⟩) fun ws s2 ⟨zs,H2,I2,rz,q2⟩=>⟨I2.kIn,?_⟩
 obtain⟨w2,d2,rfl,x2,s2',rp2,p2⟩:=q2
 rw[hks]
 unfold kwK at p2
 split at p2
 ·rename_i hl
  refine wpAny_call (codeAny_mono (FnG.called (E:=WE Wx) ok hr (passAt tk σ) I2 (hn.to s2 [] ws I2.kIn rfl ?_) (hn.rel .nil rz) ⟨w2,gD [] d2,rfl,s2',hrep w2 [] d2 [] zs hl.1 hl.2 (by simp[RepL]) rp2,p2⟩) fun r s' hq=> ?_)
  ·rw[← rz.length,rp2.length];exact hl.2
  ·match r,hq with
   | .error e,hq=>exact hq
   | .ok (.ret u),hq=>exact hq
 ·exact p2.elim
end
theorem b_repr:bootBuiltins "repr" =some (.builtin "repr"):=by decide +kernel
theorem b_sorted:bootBuiltins "sorted" =some (.builtin "sorted"):=by decide +kernel
end L3
namespace L3
open PySem PySem.Spec PyProof.Rows L2
theorem meets_enum1 {v:Value} {o:Obj} {H:Heap→Prop} (B:Begins v o H):
 Meets (Builtin.«enumerate.__new__» ⟨[.type "enumerate",v],[]⟩) (fun _ R s=>H s.heap∧
  R (.ok (.ret (.ref (s.heap.push o).objs.size))) { s with heap:=(s.heap.push o).push { cls:= .type "enumerate",data:= .fields #[.none, .bool false, .ref s.heap.objs.size,rawInt 0, .none, .none] } }):=
 .of_wp fun prog w A R s h=>by
  obtain⟨hp,g,d,tk,os⟩:=s;obtain⟨h1,h⟩:=h
  have hsub:=sub_enumerate
  have q1:∀ {A':Around} {E:Value→Shared→Prop} {Q:Value→Shared→Prop},Q (.ref hp.objs.size) ⟨hp.push o,g,d,tk,os⟩→wpAny (model prog w) A' (pyIter v) Q E ⟨hp,g,d,tk,os⟩:=
   fun q=>B.iter prog w _ _ ⟨hp,g,d,tk,os⟩ _ h1 q
  wp_walk using q1
  refine wpAny_stack_any fun st=>wpAny_pure ?_
  split
  ·rename_i c _ _ _ _ _
   cases(c==Value.type "enumerate")
   ·wp_walk using q1
    exact⟨_,rfl,h⟩
   ·wp_walk using q1
    exact⟨_,rfl,h⟩
  ·wp_walk using q1
   exact⟨_,rfl,h⟩
section
variable {prog:Program} {w:World} {A:Around} {E:Value→Shared→Prop} {s:Shared}
theorem enum1 {v:Value} {o:Obj} {H:Heap→Prop} {Q:Value→Shared→Prop} (B:Begins v o H) (h1:H s.heap)
 (h:∀h',IsEnum h' (s.heap.objs.size+1) s.heap.objs.size 0 .none→h'.get? s.heap.objs.size=some o→h'.objs.size=s.heap.objs.size+2→
   (∀ b o,s.heap.get? b=some o→h'.get? b=some o)→Q (.ref (s.heap.objs.size+1)) { s with heap:=h' }):
 wpAny (model prog w) A (call (.type "enumerate") [v]) Q E s:=by
 refine callType_new F.called_enumerate (by decide) (F.typeCall_enumerate_1 _) (F.newCall_enumerate_1 _) (fun obj=>F.args_object_init_2 obj _) F.entry_enumerate_new
  (meets_enum1 B) ⟨h1,?_⟩
 have hz:(s.heap.push o).objs.size=s.heap.objs.size+1:=Heap.size_push ..
 show _∧_
 rw[hz]
 have he:IsEnum ((s.heap.push o).push { cls:= .type "enumerate",data:= .fields #[.none, .bool false, .ref s.heap.objs.size,rawInt 0, .none, .none] }) (s.heap.objs.size+1) s.heap.objs.size 0 .none:=by
  have:=Heap.get?_push_size (s.heap.push o) (o:= { cls:= .type "enumerate",data:= .fields #[.none, .bool false, .ref s.heap.objs.size,rawInt 0, .none, .none] }) rfl
  rw[hz] at this;exact this
 refine⟨⟨_,he,rfl⟩,h _ he (Heap.get?_push_of_some _ (Heap.get?_push_size _ B.free)) (by rw[Heap.size_push,hz]) fun b o x=>Heap.get?_push_of_some _ (Heap.get?_push_of_some _ x)⟩
end
def Itet (K:PySem.W.Frag) (a:Addr):It:=
 ⟨fun i H=>∃(xs:List V) (x:V),SqT K H a xs∧xs[i]? =some x,fun i H v H'=>∃T x,v= .ref T∧H T=none∧H'=upd H T (.tup [.int (i:Nat),x])∧∀xs,SqT K H a xs→xs[i]? =some x,fun i H=>∃xs:List V,SqT K H a xs∧xs.length=i⟩
theorem turn_enumT {P:Program} {w:World} {K:PySem.W.Frag} {elts:List Expr} {kk:Nat} {tpos:Pos} (a e it:Addr):
 Turn P w K (.Tuple elts kk tpos) (Itet K a) [e,it] e (fun i h=>(∃ old,IsEnum h e it ((i:Nat):Int) old)∧h.IsTupleIter it a i∧e≠it∧a≠it∧a≠e) where
 mem:=by simp
 obj:=fun i h st b hb=>by
  obtain⟨⟨old,he⟩,⟨o,ho,hc,hd⟩,_⟩:=st
  have e':b=e∨b=it:=by simpa using hb
  rcases e' with z|z
  ·rw[z];exact⟨_,he,fun v q=>nomatch q⟩
  ·rw[z];exact⟨o,ho,fun v q=>by rw[hd] at q;cases q⟩
 keep:=fun i h h' st k=>let⟨⟨old,he⟩,⟨o,ho,r⟩,hne⟩:=st;⟨⟨old,k e (by simp) _ he⟩,⟨o,k it (by simp) o ho,r⟩,hne⟩
 item:=by
  intro X hP hw hK hc i pins s σ H E I hf st hg
  subst hP hw hK
  obtain⟨⟨old,he⟩,hit,hne,hait,hae⟩:=st
  obtain⟨xs,x,hq,hx⟩:=hg
  obtain⟨its,rv,p,hz⟩:=I.tuple hq
  obtain⟨u,hu,ru⟩:=rv.get hx
  have hel:e<s.heap.objs.size:=Heap.lt_size he
  have hil:it<s.heap.objs.size:=by obtain⟨_,q,_⟩:=hit;exact Heap.lt_size q
  have hlt:i<its.toArray.size:=by
   have:=(List.getElem?_eq_some_iff.mp hu).1
   simpa using this
  have hdn:X.A.in1.handled=none:=I.ok.hd hc
  refine wpAny_pyNext_enum_itemD (Draws.tuple hdn it a hait its.toArray) he ⟨hit,(show s.heap.IsTuple a its.toArray from p)⟩ hlt hne (by simp[Ne.symm hae,hne]) fun y h' tk hy ho hit' hT hsz hk=> ?_
  have hyu:y=u:=by
   have:its.toArray[i]? =some u:=by simpa using hu
   rw[this] at hy;exact(Option.some.inj hy).symm
  subst hyu
  refine⟨_,rfl,wpAny_letOwnedTupleGo_enum (s:= { s with heap:=h',toks:=tk+1 }) ho fun h'' he' sb=> ?_⟩
  have hT2:h''.get? s.heap.objs.size=some { cls:= .type "tuple",data:= .seq #[.int i tk,y] } :=(sb.2 _ (Nat.ne_of_gt hel)).trans hT
  have new:ObjOk X.prog X.w (upd H s.heap.objs.size (.tup [.int (i:Nat),x])) h'' s.heap.objs.size (.tup [.int (i:Nat),x]):=
   ⟨by show 2≤sizeLine;decide,[.int i tk,y], .cons ⟨_,rfl⟩ (.cons ru .nil),⟨_,hT2,rfl,_,rfl⟩⟩
  have I1:Inv X pins σ (upd H s.heap.objs.size (.tup [.int (i:Nat),x])) { s with heap:=h'',toks:=tk+1 } :=
   I.turnedNew (ch:= [e,it]) (fun b ob hb q=>(sb.2 b (fun z=>hb (by simp[z]))).trans (hk b ob (fun z=>hb (by simp[z])) (fun z=>hb (by simp[z])) q)) hf (Nat.le_refl _) new
  refine⟨.ref s.heap.objs.size,_,I1,rfl,⟨_,x,rfl,I.hok.fresh (Nat.le_refl _),rfl,fun ys hy=> ?_⟩,⟨⟨y,?_⟩,?_,hne,hait,hae⟩,fun b hb=> ?_⟩
  ·rw[I.tuple_inj hy hq];exact hx
  ·have e1:((i+1:Nat):Int)=(i:Int)+1:=by omega
   rw[e1];exact he'
  ·obtain⟨o,ho,r⟩:=hit'.1
   exact⟨o,(sb.2 it (Ne.symm hne)).trans ho,r⟩
  ·have hb':b<s.heap.objs.size:=by
    have e':b=e∨b=it:=by simpa using hb
    rcases e' with z|z
    ·rw[z];exact hel
    ·rw[z];exact hil
   rw[upd_ne (Nat.ne_of_lt hb')]
   exact(hf b hb).1
 done:=by
  intro X hP hw hK hc i pins s σ H E I hf st hg
  subst hP hw hK
  obtain⟨⟨old,he⟩,hit,hne,hait,hae⟩:=st
  obtain⟨xs,hq,hx⟩:=hg
  obtain⟨its,rv,p,hz⟩:=I.tuple hq
  obtain⟨f0,f1,f2,f3,f4,f5⟩:=hf it (by simp)
  have hl:=rv.length
  have hsz:i=its.toArray.size:=by simp;omega
  subst hsz
  exact wpAny_pyNext_enum_endD (Draws.tuple (show X.A.in1.handled=none from I.ok.hd hc) it a hait its.toArray) he ⟨hit,(show s.heap.IsTuple a its.toArray from p)⟩ fun h' eb=>⟨rfl,I.turned (t':=s.toks) (fun b o hb q=>eb b o hb q) f0 f1 f3 f4 f5⟩
 self:=fun A i s Q E st h=>let⟨⟨_,he⟩,_⟩:=st;wpAny_pyIter_enum he h
def enumL:Nat→List D→List D
 | _,[] => []
 |i,x::xs=> .tup [.int (i:Int),x] ::enumL (i+1) xs
def enumD (x:D) (S:Store):R (List D):=match x with
 | .tup l=> .ok (enumL 0 l) S
 | .lst l=> .ok (enumL 0 l) S
 | .scr ns=> .ok (enumL 0 (ns.map .int)) S
 | _=> .bad
theorem enumL_get:∀(k:Nat) (l:List D) (i:Nat) (d:D),(enumL k l)[i]? =some d→∃x,l[i]? =some x∧d= .tup [.int ((k+i:Nat):Int),x]
 | _,[],i,d,h=>by simp[enumL] at h
 |k,x::xs,0,d,h=>by
  simp only[enumL,List.getElem?_cons_zero,Option.some.injEq] at h
  exact⟨x,rfl,h.symm⟩
 |k,x::xs,i+1,d,h=>by
  simp only[enumL,List.getElem?_cons_succ] at h ⊢
  obtain⟨y,h1,h2⟩:=enumL_get (k+1) xs i d h
  exact⟨y,h1,by rw[h2,show k+1+i=k+(i+1) by omega]⟩
theorem enumL_len:∀(k:Nat) (l:List D),(enumL k l).length=l.length
 | _,[] =>rfl
 |k,x::xs=>by simp[enumL,enumL_len (k+1) xs]
section
variable {G:GC} {X:Cx} {Wx:WX} {pos:Pos}
theorem new_pair {w:Wd} {T:Addr} {i:Int} {d:D} {v:V} (sr:SRep G w) (hT:w.H T=none) (r:Rep G w d v):
 ∃w'',w''.H=upd w.H T (.tup [.int i,v])∧WExt w w''∧w''.S=w.S∧SRep G w''∧Rep G w'' (.tup [.int i,d]) (.ref T):=by
 obtain⟨x,s,nm⟩:=new_ext (o:= .tup [.int i,v]) sr hT
 refine⟨w.put T (.tup [.int i,v]),rfl,x,rfl,s,?_⟩
 simp only[Rep]
 refine⟨T,[.int i,v],rfl, .inl ⟨?_,nm⟩,?_⟩
 ·exact upd_same
 ·simp only[RepL,Rep]
  exact⟨_,_,rfl,rfl,v,[],rfl,Rep.mono x _ _ r,rfl⟩
theorem it_enumT {w:Wd} {a:Addr} {vs:List V} {l:List D} (h:TupAt G w a vs l) (r:RepL G w l vs):ItOk G w (Itet G.K a) (enumL 0 l):=by
 have sq:∀(T:List Addr) w',Tok T w→WX' T w w'→SqT G.K w'.H a vs:=fun T w' hT x=>by
  rcases h with⟨h,nm⟩|h
  ·exact .inl (.inl (x.keepM hT h nm).1)
  ·exact .inr h.1
 refine⟨fun T w' hT x s i d e=> ?_,fun T w' hT x s=>⟨vs,sq T w' hT x,by rw[enumL_len,r.length]⟩⟩
 obtain⟨y,e1,rfl⟩:=enumL_get 0 l i d e
 obtain⟨v,q1,q2⟩:=r.get e1
 refine⟨⟨vs,v,sq T w' hT x,q1⟩,fun y H'' hy=> ?_⟩
 obtain⟨Tn,z,rfl,hTn,rfl,hy⟩:=hy
 have e2:=hy vs (sq T w' hT x)
 rw[q1] at e2;cases e2
 have:=new_pair (i:=((0+i:Nat):Int)) s hTn (Rep.monoT x hT _ _ q2)
 rw[show 0+i=i by omega] at this ⊢
 exact this
theorem it_enum {w:Wd} {a:Addr} {vs:List V} {l:List D} (h:(w.H a=some (.lst vs)∧¬Mut w a)∨Fz w a (.lst vs)∨KL G.K a vs) (r:RepL G w l vs):ItOk G w (Ite G.K a) (enumL 0 l):=by
 have sq:∀(T:List Addr) w',Tok T w→WX' T w w'→SqL G.K w'.H a vs:=fun T w' hT x=>by
  rcases h with⟨h,nm⟩|h|h
  ·exact .inl (.inl (x.keepM hT h nm).1)
  ·exact .inl (Fz.monoT x hT h).1
  ·exact .inr h
 refine⟨fun T w' hT x s i d e=> ?_,fun T w' hT x s=>⟨vs,sq T w' hT x,by rw[enumL_len,r.length];exact Nat.le_refl _⟩⟩
 obtain⟨y,e1,rfl⟩:=enumL_get 0 l i d e
 obtain⟨v,q1,q2⟩:=r.get e1
 refine⟨⟨vs,v,sq T w' hT x,q1⟩,fun y H'' hy=> ?_⟩
 obtain⟨Tn,z,rfl,hTn,rfl,hy⟩:=hy
 have e2:=hy vs (sq T w' hT x)
 rw[q1] at e2;cases e2
 have:=new_pair (i:=((0+i:Nat):Int)) s hTn (Rep.monoT x hT _ _ q2)
 rw[show 0+i=i by omega] at this ⊢
 exact this
def enumA:List D→Store→R (List D):=fun xs S=>match xs with
 | [x] =>enumD x S
 | _=> .bad
theorem q_enum {elts:List Expr} {kk:Nat} {tpos p:Pos} {e:Expr} {m:AD} (hK:X.K=G.K) (hg:Gl X "enumerate") (hm:X.mg "enumerate" =none) (ha:PA X [e] (tA G m Wx)) (hs:starEach [e] X.env= [(false,eval e X.env)] :=by rfl):
 PI X (.Tuple elts kk tpos) (.Call (.Name "enumerate" p) [e] [] pos) (tI G (iArgs enumA m) Wx):=by
 refine⟨fun pins s σ H R I q=> ?_⟩
 obtain⟨w,env,rfl,sr,er,p⟩:=q
 refine Call_ (ld_blt I hg hm boot_enumerate (PyProof.Rows.callWith_type1 (thn (ha.run pos pins s σ w.H _ I ⟨w,env,rfl,sr,er,Post.bind p⟩) fun us s1 ⟨vs,H1,I1,r1,q1⟩=> ?_) hs rfl))
 obtain⟨w1,ds,rfl,x1,sr1,rp1,p1⟩:=q1
 unfold enumA at p1
 split at p1
 ·rename_i d1
  simp only[RepL] at rp1
  obtain⟨v,r',rfl,rp1,rfl⟩:=rp1
  cases r1 with
  |cons r rr=>
   cases rr
   have lst:∀ {a:Addr} {vs:List V},SqL X.K w1.H a vs→R (Ite G.K a) w1.H→wpAny (model X.prog X.w) X.A (call (.type "enumerate") [.ref a]) (fun v s'=>wpAny (model X.prog X.w) X.A (pyIter v) (PIE X pins σ (.Tuple elts kk tpos) R) X.xe s') X.xe s1:=fun {a vs} hq q=>by
    obtain⟨its,rv,p',hz⟩:=I1.list hq
    refine call_enumerate_list p'.isList fun h' he hit hsz hk=>wpAny_pyIter_enum he ?_
    have I2:Inv X pins σ w1.H { s1 with heap:=h' } :=I1.kept (t':=s1.toks) hk
    refine⟨s1.heap.objs.size+1,[s1.heap.objs.size+1,s1.heap.objs.size],_,_,w1.H,rfl,I2,turn_enum a (s1.heap.objs.size+1) s1.heap.objs.size,⟨⟨.none,he⟩,hit,Nat.succ_ne_self _⟩,fun b hb=> ?_,by rw[hK];exact q⟩
    have e':b=s1.heap.objs.size+1∨b=s1.heap.objs.size:=by simpa using hb
    have hle:s1.heap.objs.size≤b:=by
     rcases e' with z|z
     ·rw[z];exact Nat.le_add_right _ _
     ·rw[z];exact Nat.le_refl _
    exact I1.fpOk hle (I1.hok.fresh hle)
   unfold enumD at p1
   split at p1
   ·rename_i l
    simp only[Rep] at rp1
    obtain⟨a,vs,rfl,hq,rl⟩:=rp1
    cases r
    have q:=p1 (Itet G.K a) w1 (.refl _) rfl sr1 (it_enumT hq rl)
    have hq':SqT X.K w1.H a vs:=by rw[hK];exact hq.imp (fun z=> .inl z.1) (fun z=>z.1)
    obtain⟨its,rv,p,hz⟩:=I1.tuple hq'
    have hT:s1.heap.IsTuple a its.toArray:=p
    have hal:a<s1.heap.objs.size:=by obtain⟨_,q,_⟩:=hT;exact Heap.lt_size q
    refine enum1 (begins_tuple a its.toArray) hT fun h' he hit hsz hk=>wpAny_pyIter_enum he ?_
    have I2:Inv X pins σ w1.H { s1 with heap:=h' } :=I1.kept (t':=s1.toks) hk
    refine⟨s1.heap.objs.size+1,[s1.heap.objs.size+1,s1.heap.objs.size],_,_,w1.H,rfl,I2,turn_enumT a (s1.heap.objs.size+1) s1.heap.objs.size,⟨⟨.none,he⟩,⟨_,hit,rfl,rfl⟩,Nat.succ_ne_self _,Nat.ne_of_lt hal,Nat.ne_of_lt (Nat.lt_succ_of_lt hal)⟩,fun b hb=> ?_,by rw[hK];exact q⟩
    have e':b=s1.heap.objs.size+1∨b=s1.heap.objs.size:=by simpa using hb
    have hle:s1.heap.objs.size≤b:=by
     rcases e' with z|z
     ·rw[z];exact Nat.le_add_right _ _
     ·rw[z];exact Nat.le_refl _
    exact I1.fpOk hle (I1.hok.fresh hle)
   ·rename_i l
    simp only[Rep] at rp1
    obtain⟨a,vs,rfl,hq,nm,rl⟩:=rp1
    cases r
    exact lst (vs:=vs) (.inl (.inl hq)) (p1 (Ite G.K a) w1 (.refl _) rfl sr1 (it_enum (.inl ⟨hq,nm⟩) rl))
   ·rename_i ns
    simp only[Rep] at rp1
    obtain⟨a,rfl,hq⟩:=rp1
    cases r
    exact lst (vs:=ns.map V.int) (by rw[hK];exact hq.imp (fun z=>z.1) id) (p1 (Ite G.K a) w1 (.refl _) rfl sr1 (it_enum (.inr hq) (RepL_ints.mpr rfl)))
   ·exact p1.elim
 ·exact p1.elim
end
end L3
namespace L3
open PySem PySem.Spec PyProof.Rows L2
section
variable {G:GC} {X:Cx} {w:Wd}
theorem RepL.dropLast:∀ {l:List D} {vs:List V},RepL G w l vs→RepL G w l.dropLast vs.dropLast
 | [],vs,h=>by
   have:vs= [] :=h
   subst this;exact h
 | [d],vs,h=>by
   obtain⟨v,r,rfl,_,h2⟩:=h
   have:r= [] :=h2
   subst this;simp[RepL]
 |d::e::l,vs,h=>by
  obtain⟨v,r,rfl,h1,h2⟩:=h
  obtain⟨v',r',rfl,h3,h4⟩:=id h2
  have:=RepL.dropLast h2
  exact⟨v,_,rfl,h1,this⟩
theorem RepL.eraseIdx:∀ {l:List D} {vs:List V} (k:Nat),RepL G w l vs→RepL G w (l.eraseIdx k) (vs.eraseIdx k)
 | [],vs,k,h=>by
   have:vs= [] :=h
   subst this;simpa using h
 |d::l,vs,0,h=>by
  obtain⟨v,r,rfl,h1,h2⟩:=h
  exact h2
 |d::l,vs,k+1,h=>by
  obtain⟨v,r,rfl,h1,h2⟩:=h
  exact⟨v,_,rfl,h1,RepL.eraseIdx k h2⟩
def extendD:D→FN:=fun x xs S=>match lstAt x S,xs with
 |some (n,l),[.lst m] =>if l.length+m.length≤sizeLine then .ok .non (S.set n (.lst (l++m))) else .bad
 | _,_=> .bad
theorem c_extend:CalmM extendD:=fun x xs S=>by unfold extendD;repeat' split
                                               all_goals trivial
theorem o_extend:MtR X "list.extend" (rM G extendD):=mtI2 mt_extend fun x xs H Q q=>by
 obtain⟨w,d,ds,rfl,sr,r1,rl,p⟩:=q
 unfold extendD at p
 split at p
 ·rename_i n l m he
  split at p
  ·rename_i hz
   obtain⟨a,vs,rfl,hn,hm,h1,h2⟩:=lstAt_rep sr r1 he
   simp only[RepL,Rep] at rl
   obtain⟨v,r',rfl,⟨b,ws,rfl,hb,nm,h3⟩,rfl⟩:=rl
   exact⟨a,b,vs,ws,rfl,rfl,h1,hb,by rw[h2.length,h3.length];exact hz,set_lst sr hn hm (h2.append h3) (by simp[Rep]) p⟩
  ·exact p.elim
 ·exact p.elim
def popD:D→FN:=fun x xs S=>match lstAt x S,xs with
 |some (n,l),[] =>match l[l.length-1]? with
  |some d=> .ok d (S.set n (.lst l.dropLast))
  |none=> .bad
 |some (n,l),[.int i] =>match ixN l.length i with
  |some k=>match l[k]? with
   |some d=>if -(2 ^ 63)≤i∧i<2 ^ 63 then .ok d (S.set n (.lst (l.eraseIdx k))) else .bad
   |none=> .bad
  |none=> .bad
 | _,_=> .bad
theorem c_pop:CalmM popD:=fun x xs S=>by unfold popD;repeat' split
                                         all_goals trivial
theorem o_pop:MtR X "list.pop" (rM G popD):=mtI2 (MtR.or mt_pop mt_popAt) fun x xs H Q q=>by
 obtain⟨w,d,ds,rfl,sr,r1,rl,p⟩:=q
 unfold popD at p
 split at p
 ·rename_i n l he
  split at p
  ·rename_i d hd
   obtain⟨a,vs,rfl,hn,hm,h1,h2⟩:=lstAt_rep sr r1 he
   have:xs= [] :=rl
   subst this
   obtain⟨v,hv,rv⟩:=h2.get hd
   exact .inl ⟨a,vs,v,rfl,rfl,h1,by rw[h2.length];exact hv,set_lst sr hn hm h2.dropLast rv p⟩
  ·exact p.elim
 ·rename_i n l i he
  split at p
  ·rename_i k hk
   split at p
   ·rename_i d hd
    split at p
    ·rename_i hz
     obtain⟨a,vs,rfl,hn,hm,h1,h2⟩:=lstAt_rep sr r1 he
     simp only[RepL,Rep] at rl
     obtain⟨v,r',rfl,rfl,rfl⟩:=rl
     obtain⟨v,hv,rv⟩:=h2.get hd
     refine .inr ⟨a,vs,i,k,v,rfl,rfl,h1,hz.1,hz.2,?_,hv,set_lst sr hn hm (h2.eraseIdx k) rv p⟩
     rw[h2.length]
     exact(ixN_seq hk).1
    ·exact p.elim
   ·exact p.elim
  ·exact p.elim
 ·exact p.elim
end
end L3
namespace L3
open PySem PySem.Spec PyProof.Rows L2
section
variable {G:GC} {X:Cx} {Wx:WX} {pos:Pos}
theorem put_dk {w:Wd} {L:Addr} {o:HO} (s7:SRep G w) (tm7:L ∈ w.tmp) (hn:NT o:=by intro _ h;cases h):WX' [L] w (w.put L o)∧Tok [L] w∧SRep G (w.put L o):=by
 have nm7: ¬MutS w L:=(s7.tm L tm7).2
 have x8:WX' [L] w (w.put L o):=⟨fun _ _ h=>h,fun a o h nm ha=>⟨(upd_ne (by simpa using ha)).trans h,nm⟩,fun a h=> .inl h,fun a h=>h⟩
 have t8:Tok [L] w:=fun a h=> .inl (by have:a=L:=by simpa using h
                                       rw[this];exact tm7)
 refine⟨x8,t8,s7.len,s7.inj,fun n ob a h1 h2=> ?_,fun a ha=> ?_⟩
 ·have h:=s7.obj n ob a h1 h2
  exact h.keep x8 t8 fun lv=>upd_ne fun e=>nm7 (by subst e;exact⟨n,ob,h1,lv,h2⟩)
 ·obtain⟨⟨u,e⟩,nm⟩:=s7.tm a ha
  by_cases ea:a=L
  ·subst ea;exact⟨⟨⟨_,by first|assumption|(intro _ h;cases h)⟩,upd_same⟩,nm⟩
  ·exact⟨⟨u,(upd_ne ea).trans e⟩,nm⟩
theorem sw_trueD {kx vx:Expr} {gs:List Comprehension} {scope:Scope} {pos py:Pos} {y:Str} {l:Nat} {env:Env} (hk:env.scope.kind= .function) (hy:env.scope.names.lookup y=some .local) (hl:(py.line==pos.line)=true)
 (ha:(scope.names.any fun(n,k)=>n==y&&(k== .local || k== .cell))=false):swapsWith (.DictComp kx vx gs scope pos) (some (.Name y py)) l env=pure true:=by
 have ky:env.kindOf y=some .local:=hy
 have hb:env.blockKind= .function:=by unfold Env.blockKind;rw[hk];rfl
 unfold swapsWith
 simp only[hb,ky,ha,Expr.pos,hl]
 rfl
theorem ps_setDc {i:Nat} {y:Str} {py:Pos} {kx vx tg iter:Expr} {ifs:List Expr} {scope:Scope} {own:List (Str × Nat)} {pos spos:Pos} {wi:TI} {g:TG} {tt:TT} {tk tv:TE} (hc:X.calm=true) (hN:X.N.Nodup) (hy:X.N[i]? =some y) (hyl:X.env.scope.names.lookup y=some .local)
 (hsw:swapsWith (.DictComp kx vx [⟨tg,iter,ifs,0⟩] scope pos) (some (.Name y py)) spos.line X.env=pure true) (hi:PI X tg iter wi) (ok:BlkOk X.N X.env.scope scope own)
 (hg:∀(s:Shared) (H:Hp) (C:Addr) (cl:List (Str × Addr)) (fp:List Addr),PG (X.blk s H scope (compEnvC scope cl C X.env) fp) tg g) (ht:∀(s:Shared) (H:Hp) (C:Addr) (cl:List (Str × Addr)) (fp:List Addr),PTs (X.blk s H scope (compEnvC scope cl C X.env) fp) ifs tt)
 (hk:∀(s:Shared) (H:Hp) (C:Addr) (cl:List (Str × Addr)) (fp:List Addr),PE (X.blk s H scope (compEnvC scope cl C X.env) fp) kx tk)
 (he:∀(s:Shared) (H:Hp) (C:Addr) (cl:List (Str × Addr)) (fp:List Addr),PE (X.blk s H scope (compEnvC scope cl C X.env) fp) vx tv) (hs:∀x,foldedSetIterable iter X.env x=pure x:=by intro _;rfl):
 PS X (.Assign [.Name y py] (.DictComp kx vx [⟨tg,iter,ifs,0⟩] scope pos) spos) (tAsg (tDc wi g tt tk tv (own.map (·.2))) (L2.gName i)):=by
 refine⟨fun pins s σ H D I h=> ?_⟩
 rw[exec_Assign_Name_used _ _ _ _ hsw]
 refine wpAny_bind (wpAny_standAt (wpAny_bind ?_))
 show wpAny _ X.A (do let _ ←comprehension (.DictComp kx vx [⟨tg,iter,ifs,0⟩] scope pos) scope X.env (firstIterPos [⟨tg,iter,ifs,0⟩] pos) newDict false (eval iter X.env) (some (assign (.Name y py) X.env))) _ _ s
 have h:tDc wi g tt tk tv (own.map (·.2)) σ H (fun x H1=>L2.gName i x σ H1 D.nx):=h
 refine wpAny_bind (thn (dc_core (use:=some (assign (.Name y py) X.env)) (Qf:=fun _ s'=>SP X pins D .next s') hc hN I hi ok hg ht hk he hs h fun L C s' m H' I' q hn f=> ?_) fun _ s' hq=>wpAny_pure (wpAny_pure hq))
 show wpAny _ _ (assign (.Name y py) X.env (.ref L)) _ _ _
 refine wpAny_assign_Name (store_ok2 (v:=V.ref L) I' hN hy (.inl hyl) rfl (fun s2 I2 ⟨a,sb,ha⟩=> ?_) (.inr hyl))
 obtain⟨f0,f1,f2,f3,f4,f5⟩:=f
 have haC:C≠a:=by
  rcases ha with z|z
  ·rw[z];exact f1
  ·exact fun e=>f4 y a z e.symm
 refine⟨m,hn.sameBut sb haC,fun h3 sb3=> ?_⟩
 exact⟨_,H',I2.turned (t':=s2.toks) (fun b o hb e=>(sb3.2 b hb).trans e) f0 f1 f3 f4 f5,q⟩
end
end L3
namespace L3
open PySem PySem.Spec PyProof.Rows L2
def putFD (f:Str) (v:D):List (Str × D)→List (Str × D)
 | [] => [(f,v)]
 |(g,x)::r=>if g=f then(g,v)::r else(g,x)::putFD f v r
section
variable {G:GC} {w:Wd}
theorem RepKV.putF {d:D} {v:V} {f:Str} (rv:Rep G w d v):∀ {fs:List (Str × D)} {vs:List (Str × V)},RepKV G w fs vs→RepKV G w (putFD f d fs) (L2.putF f v vs)
 | [],vs,h=>by
   have:vs= [] :=h
   subst this
   exact⟨v,[],rfl,rv,rfl⟩
 |p::r,vs,h=>by
  obtain⟨u,y,rfl,h1,h2⟩:=h
  obtain⟨g,x⟩:=p
  show RepKV G w (if g=f then(g,d)::r else(g,x)::putFD f d r) (if g=f then(g,v)::y else(g,u)::L2.putF f v y)
  by_cases e:g=f
  ·rw[if_pos e,if_pos e];exact⟨v,y,rfl,rv,h2⟩
  ·rw[if_neg e,if_neg e];exact⟨u,_,rfl,h1,RepKV.putF rv h2⟩
theorem RepKV.lookup:∀ {fs:List (Str × D)} {vs:List (Str × V)} {f:Str},RepKV G w fs vs→(match fs.lookup f with
 |some d=>∃v,vs.lookup f=some v∧Rep G w d v
 |none=>vs.lookup f=none)
 | [],vs,f,h=>by
   have:vs= [] :=h
   subst this;simp
 |p::r,vs,f,h=>by
  obtain⟨u,y,rfl,h1,h2⟩:=h
  have ih:=RepKV.lookup (f:=f) h2
  by_cases e:f=p.1
  ·have e':(f==p.1)=true:=beq_iff_eq.mpr e
   simp only[List.lookup,e']
   exact⟨u,rfl,h1⟩
  ·have e':(f==p.1)=false:=beq_eq_false_iff_ne.mpr e
   simp only[List.lookup,e']
   exact ih
end
def insAt (x:D) (S:Store):Option (Nat × Str × List (Str × D)):=match x with
 | .obj n=>match S[n]? with
   |some (.ins c fs)=>some (n,c,fs)
   | _=>none
 | _=>none
theorem insAt_rep {G:GC} {w:Wd} {x:D} {v:V} {n:Nat} {c:Str} {fs:List (Str × D)} (sr:SRep G w) (r:Rep G w x v) (e:insAt x w.S=some (n,c,fs)):
 ∃a C dx vs,x= .obj n∧v= .ref a∧w.S[n]? =some (.ins c fs)∧w.mu[n]? =some a∧w.H a=some (.ins C dx vs)∧RepKV G w fs vs∧G.mg c=some (.ref C):=by
 cases x with
 |obj m=>
  simp only[Rep] at r
  obtain⟨a,hm,rfl⟩:=r
  simp only[insAt] at e
  split at e
  ·rename_i c' fs' hn
   cases e
   obtain⟨C,dx,vs,h1,h2,h3⟩:=sr.obj _ _ a hn hm
   exact⟨a,C,dx,vs,rfl,rfl,hn,hm,h1,h2,h3⟩
  ·cases e
 | _=>cases e
def fldD (cs:List Str) (f:Str):F1:=fun x S=>match insAt x S with
 |some (_,c,fs)=>if c ∈ cs then match fs.lookup f with
  |some d=> .ok d S
  |none=> .bad
  else .bad
 |none=> .bad
def FldOk (G:GC) (cs:List Str) (f:Str):Prop:=∀c ∈ cs,∃C,G.mg c=some (.ref C)∧Cls G.K C∧NoAttr G.K C f
def sFldD (cs:List Str) (f:Str) (mo mv:ED):SD:=fun env S=>(mv env S).toS env fun y S1=>(mo env S1).toS env fun x S2=>match insAt x S2 with
 |some (n,c,fs)=>if c ∈ cs∧fs.length<1000 then .nx env (S2.set n (.ins c (putFD f y fs))) else .bad
 |none=> .bad
def eMeth (c m:Str) (F:FN) (mo:ED) (ma:AD):ED:=fun env S=>(mo env S).bind fun x S1=>match insAt x S1 with
 |some (_,c',fs)=>if c'=c∧fs.lookup m=none then(ma env S1).bind fun xs S2=>F (x::xs) S2 else .bad
 |none=> .bad
def mkIns (c:Str) (F:FN):FN:=fun xs S=>match F (.obj S.length::xs) (S++ [.ins c []]) with
 | .ok d S1=>match d with
   | .non=> .ok (.obj S.length) S1
   | _=> .bad
 | .exc e S1=> .exc e S1
 | .bad=> .bad
section
variable {G:GC} {X:Cx} {Wx:WX} {pos p apos:Pos} {k:Nat} {f C:Addr} {fd:FuncData} {ps:List Str} {F:FN} {x c m:Str} {o e value:Expr} {es:List Expr} {dds:List D} {mo mv:ED} {ma:AD} {cs:List Str}
theorem q_fld (hK:X.K=G.K) (hf:FldOk G cs x) (ho:PE X o (tE G mo Wx)) (hb:attributeBase o x X.env (eval o X.env)=eval o X.env:=by rfl):PE X (.Attribute o x pos) (tE G (e1 (fldD cs x) mo) Wx):=peI (pe_fld ho hb) fun σ H Q q=>by
 obtain⟨w,env,rfl,sr,er,p⟩:=q
 refine⟨w,env,rfl,sr,er,(Post.bind p).mono (fun v H1 m=> ?_) fun _ _ _ h=>h⟩
 obtain⟨w1,d1,rfl,x1,s1,rp1,p1⟩:=m
 unfold fldD at p1
 split at p1
 ·rename_i n c fs he
  split at p1
  ·rename_i hc
   split at p1
   ·rename_i d hd
    obtain⟨a,C,dx,vs,rfl,rfl,hn,hm,h1,h2,h3⟩:=insAt_rep s1 rp1 he
    obtain⟨C',g1,g2,g3⟩:=hf c hc
    have:C'=C:=by rw[h3] at g1;cases g1;rfl
    subst this
    have l:=RepKV.lookup (f:=x) h2
    rw[hd] at l
    obtain⟨v,l1,l2⟩:=l
    exact⟨a,C',dx,vs,v,rfl,h1,by rw[hK];exact g2,by rw[hK];exact g3,l1,p1 v w1 (.refl _) rfl s1 l2⟩
   ·exact p1.elim
  ·exact p1.elim
 ·exact p1.elim
theorem q_sfld {pos':Pos} (hK:X.K=G.K) (hf:FldOk G cs x) (ho:PE X o (tE G mo Wx)) (hv:PE X value (tE G mv Wx)) (hs:swapsWith value (some (.Attribute o x pos')) pos.line X.env=pure false:=by rfl):PS X (.Assign [.Attribute o x pos'] value pos) (tS G (sFldD cs x mo mv) Wx):=psI (ps_fld ho hv hs) fun D σ H q=>by
 obtain⟨w,env,rfl,sr,er,p⟩:=q
 refine⟨w,env,rfl,sr,er,(PostS.ofR (Ra:=Rep G) er p).mono (fun y H1 m=> ?_) fun _ _ _ h=>h⟩
 obtain⟨w1,d1,rfl,x1,s1,rp1,p1⟩:=m
 refine⟨w1,env,rfl,s1,er.mono x1,(PostS.ofR (Ra:=Rep G) (er.mono x1) p1).mono (fun v H1 m=> ?_) fun _ _ _ h=>h⟩
 obtain⟨w2,d2,rfl,x2,s2,rp2,p2⟩:=m
 split at p2
 ·rename_i n c fs he
  split at p2
  ·rename_i hz
   obtain⟨a,C,dx,vs,rfl,rfl,hn,hm,h1,h2,h3⟩:=insAt_rep s2 rp2 he
   obtain⟨C',g1,g2,g3⟩:=hf c hz.1
   have:C'=C:=by rw[h3] at g1;cases g1;rfl
   subst this
   refine⟨a,C',dx,vs,rfl,h1,by rw[hK];exact g2,by rw[hK];exact g3,by rw[h2.len];exact hz.2,?_⟩
   obtain⟨xw,sw⟩:=set_obj (ob':= .ins c (putFD x d1 fs)) (o:= .ins C' dx (L2.putF x y vs)) s2 hn trivial hm fun w' xe e=>⟨C',dx,_,e,RepKV.putF (Rep.mono xe _ _ (Rep.mono x2 _ _ rp1)) (RepKV.mono xe _ _ h2),h3⟩
   exact p2 σ _ xw rfl sw ((er.mono x1).mono (WX'.trans x2 xw))
  ·exact p2.elim
 ·exact p2.elim
structure Mtd (P:Program) (w:World) (G:GC) (base:Heap) (k:Nat) (c m:Str) (f:Addr) (fd:FuncData) (ps:List Str) (F:FN):Prop where
 ok:FnG P w G.K G.mg base k f fd ps (spOf G F)
 cl:∃C,G.mg c=some (.ref C)∧Cls G.K C∧Meth G.K C m f
theorem q_meth {pl:Sem Bool} (M:Mtd X.prog X.w G X.base k c m f fd ps F) (b:Bnd G fd ps dds) (hr:RoomG k X.A) (hK:X.K=G.K) (hmg:X.mg=G.mg) (tk:Takes X Wx) (ho:PE X o (tE G mo Wx)) (ha:PA X (e::es) (tA G ma Wx))
 (hst:starEach (e::es) X.env=(false,eval e X.env)::starEach es X.env:=by rfl) (hpl:(backTo pos (starEach es X.env)).any (·.1)=false:=by rfl)
 (ht:eval (.Call (.Attribute o m apos) (e::es) [] pos) X.env=(do
   let ov ←eval o X.env
   standAt apos.atName
   let(f,first) ←holding [ov] (getMethod ov m pl)
   callWith pos f first (backTo pos (starEach (e::es) X.env)) (backToKw pos (keywordEach [] X.env))):=by rfl):
 PE X (.Call (.Attribute o m apos) (e::es) [] pos) (tE G (eMeth c m (callK F dds) mo ma) Wx):=by
 obtain⟨dvs,ds,b1,b2,b3⟩:=b
 obtain⟨C,g1,g2,g3⟩:=M.cl
 refine⟨fun pins s σ H Q I h=> ?_⟩
 obtain⟨w,env,rfl,sr,er,p⟩:=h
 refine PySem.W.methodCall_KW (pl:=pl) (thn (ho.run pins s σ w.H _ I ⟨w,env,rfl,sr,er,Post.bind p⟩) fun u s1 ⟨x,H1,I1,rx,q⟩=> ?_) ht
 obtain⟨w1,d1,rfl,x1,sr1,rp1,p1⟩:=q
 split at p1
 ·rename_i n c' fs he
  split at p1
  ·rename_i hz
   obtain⟨rfl,hl⟩:=hz
   obtain⟨a,C',dx,vs,rfl,rfl,hn,hm,h1,h2,h3⟩:=insAt_rep sr1 rp1 he
   have:C'=C:=by rw[h3] at g1;cases g1;rfl
   subst this
   obtain rfl:u=Value.ref a:=rx
   have l:=RepKV.lookup (f:=m) h2
   rw[hl] at l
   refine getmeth_ok I1 h1 (by rw[hK];exact g2) (by rw[hK];exact g3) l ?_
   refine PySem.W.callWith_K (first:= [.ref a]) (h₀ :=X.base) I.ok.mod.kin (by rw[hK];exact g3.kp) (thn (ha.run pos pins s1 σ w1.H _ I1 ⟨w1,env,rfl,sr1,er.mono x1,Post.bind p1⟩) fun us s2 ⟨vs2,H2,I2,r,q2⟩=>⟨I2.kIn,?_⟩) hst hpl
   obtain⟨w2,d2,rfl,x2,sr2,rp2,p2⟩:=q2
   refine FnG.byPlace (E:=WE Wx) (us:= .ref a::us) (vs:= .ref a::vs2) (by rw[hK,hmg];exact M.ok) hr (by rw[hK];exact b2) b1 (passAt tk σ) I2 (.cons rfl r) ?_
   refine⟨w2,(.obj n::d2)++dds,rfl,sr2,?_,p2⟩
   have:RepL G w2 (.obj n::d2) (.ref a::vs2):=⟨.ref a,vs2,rfl,⟨a,x2.mu _ _ hm,rfl⟩,rp2⟩
   exact this.append (b3 w2)
  ·exact p1.elim
 ·exact p1.elim
structure Mak (P:Program) (w:World) (G:GC) (base:Heap) (k:Nat) (c:Str) (C f:Addr) (fd:FuncData) (ps:List Str) (F:FN):Prop where
 ok:FnG P w G.K G.mg base k f fd ps (spOf G F)
 m:G.mg c=some (.ref C)
 mkr:Mk G.K C f
theorem new_ins {w:Wd} (sr:SRep G w) (hC:G.mg c=some (.ref C)) {x dx:Addr} (hx:w.H x=none) (hdx:w.H dx=none) (hne:dx≠x):
 ∃w1,w1.H=upd (upd w.H dx (.own x)) x (.ins C dx [])∧w1.S=w.S++ [.ins c []] ∧WExt w w1∧SRep G w1∧w1.mu[w.S.length]? =some x:=by
 obtain⟨x1,s1,_⟩:=new_ext (o:= .own x) sr hdx
 have hx1:(w.put dx (.own x)).H x=none:=(upd_ne (Ne.symm hne)).trans hx
 obtain⟨x2,s2⟩:=new_obj (o:= .ins C dx []) (ob:= .ins c []) s1 hx1 fun w' _ e=>⟨C,dx,[],e,rfl,hC⟩
 refine⟨_,rfl,rfl,WX'.trans x1 x2,s2,?_⟩
 show(w.mu++ [x])[w.S.length]? =some x
 rw[← sr.len];simp
theorem imp_make {dvs:List V} (hC:G.mg c=some (.ref C)) (hdd:∀w,RepL G w dds dvs):∀ σ H Q,tE G (eN (mkIns c (callK F dds)) ma) Wx σ H Q→tA G ma Wx σ H fun vs H1=>∀x dx,H1 x=none→H1 dx=none→dx≠x→
 spOf G F (.ref x::(vs++dvs)) (upd (upd H1 dx (.own x)) x (.ins C dx [])) (fun v H2=>v= .non∧Q (.ref x) H2) (WE Wx σ):=by
 intro σ H Q q
 obtain⟨w,env,rfl,sr,er,p⟩:=q
 refine⟨w,env,rfl,sr,er,(Post.bind p).mono (fun vs H1 m=> ?_) fun _ _ _ h=>h⟩
 obtain⟨w1,d1,rfl,x1,s1,rp1,p1⟩:=m
 intro x dx hx hdx hne
 obtain⟨w2,e2,eS,x2,s2,hm⟩:=new_ins s1 hC hx hdx hne
 refine⟨w2, .obj w1.S.length::(d1++dds),e2,s2,⟨.ref x,_,rfl,⟨x,hm,rfl⟩,(RepL.mono x2 _ _ rp1).append (hdd w2)⟩,?_⟩
 unfold mkIns callK at p1
 rw[← eS] at p1
 rw[List.cons_append] at p1
 cases hF:F (.obj w1.S.length::(d1++dds)) w2.S with
 |ok d S1=>
  rw[hF] at p1
  simp only at p1
  cases d with
  |non=>
   intro v w3 x3 e3 s3 r3
   subst e3
   refine⟨by simpa[Rep] using r3,p1 (.ref x) w3 (WX'.trans x2 x3) rfl s3 ⟨x,x3.mu _ _ hm,rfl⟩⟩
  | _=>exact p1.elim
 |exc e S1=>
  rw[hF] at p1
  intro Ce dxe w3 x3 e3 s3 xr
  exact p1 Ce dxe w3 (WX'.trans x2 x3) e3 s3 xr
 |bad=>rw[hF] at p1;exact p1.elim
theorem RoomG.make {A:Around} (r:RoomG (k+1) A) (C:Addr) (us:List Value) (kw:List (Str × Value)):RoomG k (A.under (.builtin "type.__call__" ⟨.ref C::us,kw⟩)):=
 ⟨r.rm.make C us kw,by
   have e:(Code.builtin "type.__call__" ⟨.ref C::us,kw⟩).guards= [] :=by
    unfold Code.guards
    rw[if_neg]
    show ¬(guardIds.contains "type.__call__" =true)
    decide
   simp only[Around.under,e,pushGuards]
   exact r.gd⟩
theorem run_makeG {pins:List (Addr × Obj)} {σ :L2.St} {H:Hp} {s:Shared} {Q:VK} {us:List Value} {vs dvs:List V} {ds:List Value} {E:L2.St→XK} (M:Mk X.K C f) (hF:FnG X.prog X.w X.K X.mg X.base k f fd ps (spOf G F)) (hr:RoomG (k+1) X.A) (hb:Binds X.K fd ps ds) (hd:Vals dvs ds)
 (hx:PassesAt (L2.CX X.prog X.w) X σ (E σ)) (I:Inv X pins σ H s) (r:Vals vs us)
 (h:∀x dx,H x=none→H dx=none→dx≠x→spOf G F (.ref x::(vs++dvs)) (upd (upd H dx (.own x)) x (.ins C dx [])) (fun v H2=>v= .non∧Q (.ref x) H2) (E σ)):
 wpAny (model X.prog X.w) X.A (call (.ref C) us) (EP X pins σ Q) X.xe s:=by
 have hq:=h (s.heap.objs.size+1) s.heap.objs.size (I.hok.fresh (Nat.le_succ _)) (I.hok.fresh (Nat.le_refl _)) (Nat.ne_of_lt (Nat.lt_succ_self _))
 have I2:=Inv.made (C:=C) I
 have r2:Vals (V.ref (s.heap.objs.size+1)::(vs++dvs)) (Value.ref (s.heap.objs.size+1)::(us++ds)):= .cons rfl (r.append hd)
 have hl:(Value.ref (s.heap.objs.size+1)::us++ds).length=ps.length:=by
  have e:=r2.length
  rw[hF.len _ _ _ _ hq] at e
  exact e.symm
 refine wpAny_call (make_map (f:=f) I.kIn M.makes M.init (beq_iff_eq.mp M.fn) (codeAny_mono (hF.go _ X.stack _ _ ⟨Value.ref (s.heap.objs.size+1)::us,[]⟩ (Value.ref (s.heap.objs.size+1)::(us++ds)) _ _ (E σ) (hr.make C us [])
  (I2.env0.make C us []) (hb _ (Value.ref (s.heap.objs.size+1)::us) I2.kIn hl) r2 hq) fun r s' hq'=> ?_))
 cases r with
 |error e=>exact hx pins _ _ e s' I2 hq'
 |ok fl=>
  cases fl with
  |ret u=>
   obtain⟨v,H',I3,rv,ev,q3⟩:=I2.after hq'
   subst ev
   exact⟨rv,⟨V.ref (s.heap.objs.size+1),H',I3,rfl,q3⟩⟩
  |next=>exact False.elim hq'
  |brk=>exact False.elim hq'
  |cont=>exact False.elim hq'
theorem q_make (M:Mak X.prog X.w G X.base k c C f fd ps F) (b:Bnd G fd ps dds) (hr:RoomG (k+1) X.A) (hK:X.K=G.K) (hmg:X.mg=G.mg) (hg:Gl X c) (tk:Takes X Wx) (ha:PA X (e::es) (tA G ma Wx))
 (hdb:(c==("__debug__" :Str))=false:=by decide) (he:starEach (e::es) X.env=(false,eval e X.env)::starEach es X.env:=by rfl) (hpl:(backTo pos (starEach es X.env)).any (·.1)=false:=by rfl):
 PE X (.Call (.Name c p) (e::es) [] pos) (tE G (eN (mkIns c (callK F dds)) ma) Wx):=by
 obtain⟨dvs,ds,b1,b2,b3⟩:=b
 refine⟨fun pins s σ H Q I h=> ?_⟩
 have h2:=imp_make (C:=C) (dvs:=dvs) M.m b3 σ H Q h
 refine wpAny_Call_Name_kw (ld_glob I hg (by rw[hmg];exact M.m) ?_ hdb)
 refine PySem.W.callWith_K (h₀ :=X.base) I.ok.mod.kin (by rw[hK];exact M.mkr.kp) (thn (ha.run pos pins s σ H _ I h2) fun us s1 ⟨vs,H1,I1,r,q⟩=>⟨I1.kIn,?_⟩) he hpl
 exact run_makeG (E:=WE Wx) (by rw[hK];exact M.mkr) (by rw[hK,hmg];exact M.ok) hr (by rw[hK];exact b2) b1 (passAt tk σ) I1 r q
theorem fld_nil:FldOk G [] x:=fun _ h=>nomatch h
theorem fld_cons (h:G.mg c=some (.ref C)) (hc:Cls G.K C) (hn:NoAttr G.K C x) (r:FldOk G cs x):FldOk G (c::cs) x:=fun c' hc'=>by
 rcases List.mem_cons.mp hc' with rfl|hc'
 ·exact⟨C,h,hc,hn⟩
 ·exact r c' hc'
end
def lv:Nat→Nat
 |0=>1
 |k+1=>lv k+2
end L3
namespace L3
open PySem PySem.Spec PyProof.Rows L2
section
variable {G:GC} {X:Cx} {Wx:WX} {pos:Pos}
def gSeq (is:List Nat):GD:=fun d env S=>match d with
 | .tup l=>gNames is l env S
 | .lst l=>gNames is l env S
 | _=> .bad
theorem gNames_len:∀ {is:List Nat} {l:List D} {env env':EnvD} {S S':Store},gNames is l env S= .nx env' S'→l.length=is.length
 | [],[],_,_,_,_,_=>rfl
 | [],_::_,_,_,_,_,e=>nomatch e
 | _::_,[],_,_,_,_,e=>nomatch e
 |i::is,d::l,env,env',S,S',e=>by
  have:=gNames_len (is:=is) (l:=l) (env:=env.set i (some d)) e
  simp[this]
theorem q_gseq {es:List Expr} {k:Nat} {is:List Nat} (hK:X.K=G.K) (hc:X.calm=true) (h:PGs X es (tGs G is)) (hn:(assignEach es X.env).length=is.length:=by rfl) (hst:(assignEach es X.env).findIdx? (·.1)=none:=by rfl):
 PG X (.Tuple es k pos) (tG G (gSeq is)):=by
 refine⟨fun pins s σ H v u Q I r q=> ?_⟩
 obtain⟨w,env,d,rfl,sr,er,rp,p⟩:=q
 cases d with
 |tup l=>exact(q_gtup hK hc h hn hst).run pins s σ w.H v u Q I r ⟨w,env, .tup l,rfl,sr,er,rp,p⟩
 |lst l=>
  simp only[Rep] at rp
  obtain⟨a,vs,rfl,h1,nm,rl⟩:=rp
  simp only[gSeq] at p
  rcases gNames_nx (is:=is) (ds:=l) (env:=env) (S:=w.S) with⟨env',e⟩|e
  ·rw[e] at p
   exact(pg_lst hc h hn hst).run pins s σ w.H (.ref a) u Q I r ⟨a,vs,rfl, .inl (.inl h1),by rw[rl.length];exact gNames_len e,w,env,l,env',rfl,sr,er,rl,e,fun σ' er'=>p σ' w (.refl _) rfl sr er'⟩
  ·rw[e] at p;exact p.elim
 | _=>exact p.elim
end
end L3
namespace L3
open PySem PySem.Spec PyProof.Rows L2
def keyD:Key→D
 | .inl i=> .int i
 | .inr s=> .str s
theorem keyD_rep {G:GC} {w:Wd} :∀k:Key,Rep G w (keyD k) (kV k)
 | .inl i=>by simp only[keyD,Rep];rfl
 | .inr s=>by simp only[keyD,Rep];rfl
theorem grow_ext {G:GC} {w:Wd} {H':Hp} (sr:SRep G w) (k:∀b o,w.H b=some o→H' b=some o):
 WExt w { w with H:=H' } ∧SRep G { w with H:=H' } ∧∀p,w.H p=none→¬Mut { w with H:=H' } p:=by
 have x:WExt w { w with H:=H' } :=⟨fun _ _ h=>h,fun a u h nm _=>⟨k a u h,nm⟩,fun _ h=> .inl h,fun _ h=>h⟩
 refine⟨x,⟨sr.len,sr.inj,fun n ob a h1 h2=> ?_,fun a ha=> ?_⟩,fun p hp m=>m.elim (fun m=> ?_) fun m=> ?_⟩
 ·have h:=sr.obj n ob a h1 h2
  refine h.keep x noT fun lv=> ?_
  obtain⟨u,e⟩:=h.there lv
  exact(k a u e).trans e.symm
 ·obtain⟨⟨u,e⟩,nm⟩:=sr.tm a ha
  exact⟨⟨u,k a u e⟩,nm⟩
 ·obtain⟨u,e⟩:=MutS.there sr (show MutS w p from m)
  rw[hp] at e;cases e
 ·obtain⟨⟨u,e⟩,_⟩:=sr.tm p m
  rw[hp] at e;cases e
def pairs:List (Key × D)→List D
 | [] => []
 |p::r=> .tup [keyD p.1,p.2] ::pairs r
def litemsD:F1:=fun x S=>match dkAt x S with
 |some kvs=> .ok (.lst (pairs kvs)) S
 |none=> .bad
theorem pairs_rep {G:GC} {w:Wd} :∀ {kvs:List (Key × D)} {vs:List (Key × V)} {ts:List Addr},RepKV G w kvs vs→(∀ t ∈ ts,¬Mut w t)→Paired (fun(t:Addr) (q:Key × V)=>w.H t=some (.tup [kV q.1,q.2])) ts vs→RepL G w (pairs kvs) (ts.map V.ref)
 | [],vs,ts,h,_,p=>by
   have e:vs= [] :=h
   subst e
   cases p
   simp[pairs,RepL]
 |q::kvs,vs,ts,h,nm,p=>by
  obtain⟨v,y,e,h1,h2⟩:=h
  subst e
  cases p with
  |cons r t=>
   rename_i a as
   show RepL G w (.tup [keyD q.1,q.2] ::pairs kvs) (V.ref a::as.map V.ref)
   simp only[RepL]
   refine⟨_,_,rfl,?_,pairs_rep h2 (fun t ht=>nm t (List.mem_cons_of_mem _ ht)) t⟩
   simp only[Rep]
   refine⟨a,_,rfl, .inl ⟨r,nm a List.mem_cons_self⟩,?_⟩
   simp only[RepL]
   exact⟨_,_,rfl,keyD_rep _,_,_,rfl,h1,rfl⟩
section
variable {G:GC} {X:Cx} {Wx:WX} {e:Expr} {m:ED} {p apos cpos pos:Pos}
theorem q_items (hc:X.calm=true) (he:PE X e (tE G m Wx)) (hg:Gl X "list") (hm:X.mg "list" =none) (hbase:attributeBase e "items" X.env (eval e X.env)=eval e X.env:=by rfl) (hline:(apos.endLine==cpos.line)=true:=by rfl)
 (hs:starEach [.Call (.Attribute e "items" apos) [] [] cpos] X.env=(false,eval (.Call (.Attribute e "items" apos) [] [] cpos) X.env)::starEach [] X.env:=by rfl):
 PE X (.Call (.Name "list" p) [.Call (.Attribute e "items" apos) [] [] cpos] [] pos) (tE G (e1 litemsD m) Wx):=
 peI (LiI.pe_listItems hc he hg hm PyProof.Rows.boot_list hbase hline hs) fun σ H Q q=>by
 obtain⟨w,env,rfl,sr,er,p⟩:=q
 refine⟨w,env,rfl,sr,er,(Post.bind p).mono (fun v H1 ⟨w1,d,eH,x,s1,r1,p1⟩=> ?_) fun _ _ _ h=>h⟩
 subst eH
 simp only[litemsD] at p1
 split at p1
 ·rename_i kvs hk
  obtain⟨a,vs,rfl,h1,h2⟩:=dkAt_rep s1 r1 hk
  refine⟨a,vs,rfl,h1,fun H' p' ts k hp hts hpt hpH pr=> ?_⟩
  obtain⟨x1,s2,nm⟩:=grow_ext s1 k
  refine p1 (.ref p') { w1 with H:=H' } x1 rfl s2 ?_
  simp only[Rep]
  exact⟨p',_,rfl,hpH,nm p' hp,pairs_rep (RepKV.mono x1 _ _ h2) (fun t ht=>nm t (hts t ht)) pr⟩
 ·exact p1.elim
end
end L3
namespace L3
open PySem PySem.Spec PyProof.Rows L2
theorem gn_seq {is:List Nat} :GOk (gSeq is):=fun d env S=>by
 cases d with
 |tup l=>
  rcases gNames_nx (is:=is) (ds:=l) (env:=env) (S:=S) with⟨env',e⟩|e
  ·exact .inl ⟨env',S,e⟩
  ·exact .inr e
 |lst l=>
  rcases gNames_nx (is:=is) (ds:=l) (env:=env) (S:=S) with⟨env',e⟩|e
  ·exact .inl ⟨env',S,e⟩
  ·exact .inr e
 | _=>exact .inr rfl
section
variable {G:GC} {X:Cx} {Wx:WX} {pos:Pos}
def tGsW (G:GC) (is vs:List Nat):TGs:=fun us σ H Q=>∃w env ds env',w.H=H∧SRep G w∧ERep G w env σ ∧RepL G w ds us∧gNames is ds env w.S= .nx env' w.S∧∀ σ',ERep G w env' σ'→L2.wipe σ' vs=L2.wipe σ vs→Q σ' H
theorem q_gsnW {vs:List Nat} :PGs X [] (tGsW G [] vs):=pgsI pgs_nil fun v σ H Q q=>by
 obtain⟨w,env,ds,env',rfl,sr,er,rl,e,k⟩:=q
 cases ds with
 |nil=>
  simp only[RepL] at rl
  cases e
  exact⟨rl,k σ er rfl⟩
 |cons _ _=>cases e
theorem q_gscW {e:Expr} {es:List Expr} {i:Nat} {is vs:List Nat} (h1:PG X e (L2.gName i)) (h2:PGs X es (tGsW G is vs)) (hv:i ∈ vs:=by decide)
 (hs:(assignEach (e::es) X.env).map (·.2)=assign e X.env::(assignEach es X.env).map (·.2):=by rfl):PGs X (e::es) (tGsW G (i::is) vs):=pgsI (pgs_cons h1 h2 hs) fun v σ H Q q=>by
 obtain⟨w,env,ds,env',rfl,sr,er,rl,e,k⟩:=q
 cases ds with
 |nil=>cases e
 |cons d ds=>
  simp only[RepL] at rl
  obtain⟨v,r,rfl,r1,r2⟩:=rl
  exact⟨v,r,rfl,w,_,ds,env',rfl,sr,er.set i r1,r2,e,fun σ' er' hw=>k σ' er' (hw.trans (wipe_set hv))⟩
theorem q_gtupW {es:List Expr} {k:Nat} {is vs:List Nat} (hK:X.K=G.K) (hc:X.calm=true) (h:PGs X es (tGsW G is vs)) (hn:(assignEach es X.env).length=is.length:=by rfl) (hst:(assignEach es X.env).findIdx? (·.1)=none:=by rfl):
 PG X (.Tuple es k pos) (tGW G (gTup is) vs):=pgI (pg_tup hc h hn hst) fun v σ H Q q=>by
 obtain⟨w,env,d,rfl,sr,er,rp,p⟩:=q
 cases d with
 |tup l=>
  simp only[Rep] at rp
  obtain⟨a,us,rfl,h1,rl⟩:=rp
  simp only[gTup] at p
  rcases gNames_nx (is:=is) (ds:=l) (env:=env) (S:=w.S) with⟨env',e⟩|e
  ·rw[e] at p
   refine⟨a,us,rfl,by rw[hK];exact SqT_of h1,by rw[rl.length];exact gNames_len e,w,env,l,env',rfl,sr,er,rl,e,fun σ' er' hw=>p σ' w (.refl _) rfl sr er' hw⟩
  ·rw[e] at p;exact p.elim
 |wtp l=>
  simp only[Rep] at rp
  obtain⟨a,rfl,h1⟩:=rp
  have rl:RepL G w (l.map .int) (l.map V.int):=RepL_ints.mpr rfl
  simp only[gTup] at p
  rcases gNames_nx (is:=is) (ds:=l.map .int) (env:=env) (S:=w.S) with⟨env',e⟩|e
  ·rw[e] at p
   refine⟨a,_,rfl,by rw[hK];exact .inr h1,by rw[rl.length];exact gNames_len e,w,env,_,env',rfl,sr,er,rl,e,fun σ' er' hw=>p σ' w (.refl _) rfl sr er' hw⟩
  ·rw[e] at p;exact p.elim
 | _=>exact p.elim
end
end L3
namespace L3
open PySem PySem.Spec PyProof.Rows L2
def frzD:F1:=fun x S=>match x with
 | .obj n=>match S[n]? with
   |some (.lst l)=> .ok (.lst l) (S.set n .dead)
   |some (.dK kvs)=> .ok (.dic (kvs.map (·.1)) (kvs.map (·.2))) (S.set n .dead)
   | _=> .bad
 |x=> .ok x S
theorem bury {G:GC} {w:Wd} {n:Nat} {a:Addr} {ob:O} (sr:SRep G w) (hn:w.S[n]? =some ob) (lv:ob.live) (hm:w.mu[n]? =some a):
 WExt w { w with S:=w.S.set n .dead } ∧SRep G { w with S:=w.S.set n .dead } ∧¬Mut { w with S:=w.S.set n .dead } a:=by
 have hl:=(List.getElem?_eq_some_iff.mp hn).1
 have back:∀(m:Nat) (o:O),(w.S.set n .dead)[m]? =some o→o.live→m≠n∧w.S[m]? =some o:=fun m o h lo=>by
  by_cases e:n=m
  ·subst e;rw[List.getElem?_set_self hl] at h;cases h;exact lo.elim
  ·rw[List.getElem?_set_ne e] at h;exact⟨fun z=>e z.symm,h⟩
 have mb:∀b,MutS { w with S:=w.S.set n .dead } b→MutS w b:=fun b ⟨m,o,h1,l1,h2⟩=>⟨m,o,(back m o h1 l1).2,l1,h2⟩
 have x:WExt w { w with S:=w.S.set n .dead } :=⟨fun _ _ h=>h,fun b u h nm _=>⟨h,fun m=>nm (mb b m)⟩,fun _ h=> .inl h,fun _ h=>h⟩
 refine⟨x,⟨by simp[sr.len],fun i j b o1 o2 h1 h2 l1 l2 m1 m2=>sr.inj i j b o1 o2 (back i o1 h1 l1).2 (back j o2 h2 l2).2 l1 l2 m1 m2,fun m o b h1 h2=> ?_,fun b hb=>⟨(sr.tm b hb).1,fun m=>(sr.tm b hb).2 (mb b m)⟩⟩,fun m=> ?_⟩
 ·by_cases e:n=m
  ·subst e;rw[List.getElem?_set_self hl] at h1;cases h1;trivial
  ·rw[List.getElem?_set_ne e] at h1
   exact(sr.obj m o b h1 h2).keep x noT fun _=>rfl
 ·rcases m with⟨m,o,h1,l1,h2⟩|m
  ·obtain⟨ne,q⟩:=back m o h1 l1
   exact ne (sr.inj m n a o ob q hn l1 lv h2 hm)
  ·exact(sr.tm a m).2 ⟨n,ob,hn,lv,hm⟩
theorem frz_rep {G:GC} {w:Wd} {x y:D} {v:V} {S':Store} (sr:SRep G w) (r:Rep G w x v) (e:frzD x w.S= .ok y S'):∃w',WExt w w'∧w'.S=S'∧w'.H=w.H∧SRep G w'∧Rep G w' y v:=by
 unfold frzD at e
 split at e
 ·rename_i n
  simp only[Rep] at r
  obtain⟨a,hm,rfl⟩:=r
  split at e
  ·rename_i l hn
   cases e
   obtain⟨vs,h1,h2⟩:=sr.obj n _ a hn hm
   obtain⟨x,s,nm⟩:=bury sr hn trivial hm
   refine⟨_,x,rfl,rfl,s,?_⟩
   simp only[Rep]
   exact⟨a,vs,rfl,h1,nm,RepL.mono x _ _ h2⟩
  ·rename_i kvs hn
   cases e
   obtain⟨vs,h1,h2⟩:=sr.obj n _ a hn hm
   obtain⟨x,s,nm⟩:=bury sr hn trivial hm
   obtain⟨us,eu,ru⟩:=h2.parts
   refine⟨_,x,rfl,rfl,s,?_⟩
   simp only[Rep]
   exact⟨a,us,rfl,by rw[← eu];exact h1,nm,by simp,RepL.mono x _ _ ru⟩
  ·cases e
 ·cases e
  exact⟨w, .refl w,rfl,rfl,sr,r⟩
section
variable {G:GC} {X:Cx} {Wx:WX}
theorem q_frz {e:Expr} {m:ED} (h:PE X e (tE G m Wx)):PE X e (tE G (e1 frzD m) Wx):=peI h fun σ H Q q=>by
 obtain⟨w,env,rfl,sr,er,p⟩:=q
 refine⟨w,env,rfl,sr,er,(Post.bind (Ra:=Rep G) p).mono (fun v H1 ⟨w1,d,eH,x,s1,r1,p1⟩=> ?_) fun _ _ _ h=>h⟩
 subst eH
 replace p1:Post G w1 (frzD d w1.S) (Rep G) Q (fun C dx H'=>Wx C dx σ H'):=p1
 cases hf:frzD d w1.S with
 |ok y S'=>
  obtain⟨w2,x2,e2,eh,s2,r2⟩:=frz_rep s1 r1 hf
  rw[hf] at p1
  have:=p1 v w2 x2 e2 s2 r2
  rw[eh] at this
  exact this
 |exc _ _=>simp only[frzD] at hf;split at hf<;>(try split at hf)<;>cases hf
 |bad=>rw[hf] at p1;exact p1.elim
end
end L3
namespace L3
open PySem PySem.Spec PyProof.Rows L2
structure Oxc (K:PySem.W.Frag) (C:Addr) (B newId initId:String) (bmB:List Value):Prop where
 F:ExcBaseFacts B newId initId bmB
 SF:StoreFacts B bmB "object.__setattr__" "object"
 ini:PySem.W.excInitIn K C bmB newId=true
 ovr:PySem.W.excOver K C bmB=true
 sa:PySem.W.findIn K (.ref C) "__setattr__" =some (some (.builtin "object.__setattr__"))
 exC:PySem.W.subIn K (.ref C) (.type "BaseException")=some true
 tyC:PySem.W.typeIn K (.ref C)=some (.type "type")
 kC:PySem.W.keepIn K (.ref C)=true
 hd:PySem.W.hasDictIn K C=true
section
variable {X:Cx} {pins:List (Addr × Obj)} {σ :L2.St} {H:Hp} {s:Shared} {a C:Addr} {f:Str} {y:V} {u:Value} {Q:Unit→Shared→Prop} {E:Value→Shared→Prop} {A:Around} {B newId initId:String} {bmB:List Value}
theorem store1 (T:Oxc X.K C B newId initId bmB) (I:Inv X pins σ H s) (e:H a=some (exo a C none)) (no:PySem.W.findIn X.K (.ref C) f=some none) (ry:RelV y u)
 (h:∀dx s',H dx=none→dx≠a→Inv X pins σ (upd (upd H dx (exd dx [(f,y)])) a (exo a C (some dx))) s'→Q () s'):wpAny (model X.prog X.w) A (setAttr (.ref a) f u) Q E s:=by
 obtain⟨t1,ho⟩:=exo_at I.hok e
 have tk:PySem.W.takerIn X.K C f=some none:=by unfold PySem.W.takerIn;rw[no];rfl
 obtain⟨cd,hcd,hdd⟩:=PySem.W.any_some T.hd
 obtain⟨hp,g,d,t,os⟩:=s
 refine PySem.W.set_plain I.kIn (od:=none) ⟨ho,rfl,rfl,trivial⟩ T.sa ?_
 refine PySem.W.osa_openX (od:=none) T.SF I.kIn ⟨ho,rfl,rfl,trivial⟩ T.ovr tk fun b=> ?_
 have lx:a<hp.objs.size:=Heap.lt_size ho
 refine wpAny_bind (wpAny_pure (wpAny_bind (PySem.W.instanceDict_exc (c2:= .none) ho (PySem.W.looks_clsIn I.kIn hcd) hdd ?_)))
 obtain⟨dx,edx⟩:∃dx,hp.objs.size=dx:=⟨_,rfl⟩
 show wpAny _ _ (Builtin.ObjectAttr.storeInDict hp.objs.size (.str f _) f u) _ _ _
 have nsz:a≠hp.objs.size:=Nat.ne_of_lt lx
 have emp:((hp.push (PySem.W.dictOf [] 0)).update a fun o=> { o with dict:=some hp.objs.size }).Ns hp.objs.size fun _=>none:=
  ⟨_,#[],_,(Heap.get?_update_ne _ _ _ _ nsz.symm).trans (Heap.get?_push_at rfl rfl),rfl,fun e he=>absurd he (by simp),fun _=>rfl⟩
 refine PySem.HandSPX.store_in_new emp fun h2 tk2 ns2 sb2=> ?_
 have hn:H hp.objs.size=none:=I.hok.fresh (Nat.le_refl _)
 have gx:h2.get? a=some ({ cls:= .ref C,dict:=some hp.objs.size,data:= .fields #[.ref t1, .none, .none, .none, .bool false, .none] } :Obj):=
  (sb2.2 a nsz).trans (Heap.get?_update_self _ (Heap.get?_push_of_some _ ho) rfl)
 have keep:∀b o,b≠a→hp.get? b=some o→h2.get? b=some o:=fun b o hb q=>
  (sb2.2 b (Nat.ne_of_lt (Heap.lt_size q))).trans ((Heap.get?_update_ne _ _ _ _ hb).trans (Heap.get?_push_of_some _ q))
 have na:∀ {b:Addr},H b=none→b≠a:=fun {b} n z=>by rw[z,e] at n;cases n
 have nd:∀ {b:Addr} {o:Obj},hp.get? b=some o→b≠hp.objs.size:=fun {b o} q=>Nat.ne_of_lt (Heap.lt_size q)
 have un:Un X.fs [] H (upd (upd H hp.objs.size (exd hp.objs.size [(f,y)])) a (exo a C (some hp.objs.size))) hp h2:= {
  keep:=fun b o q n _ _=>keep b o (na n) q
  slot:=fun b o q n _ _=>⟨_,keep b o (na n) q⟩
  free:=fun b o q n _=>(upd_ne (na n)).trans ((upd_ne (nd q)).trans n)
  there:=fun b o q _=>if hb:b=a then⟨_,hb▸gx⟩ else⟨o,keep b o hb q⟩
  tups:=fun b xs q=>(upd_ne (at_ne e q exo_tup)).trans ((upd_ne (ne_of_none q hn)).trans q)
  frzs:=fun b o v q=>(upd_ne (at_ne e q exo_frz)).trans ((upd_ne (ne_of_none q hn)).trans q)
  tbls:=fun b ps q=>⟨#[],by rw[upd_ne (at_ne e q exo_tbl),upd_ne (ne_of_none q hn),q];simp⟩ }
 refine h _ _ hn (fun z=>nsz z.symm) (I.un (t':=tk2) un fun b o q=> ?_)
 by_cases hb:b=a
 ·subst hb
  rw[upd_same] at q;cases q
  exact exo_ok gx
 ·rw[upd_ne hb] at q
  by_cases hd:b=hp.objs.size
  ·subst hd
   rw[upd_same] at q;cases q
   exact exd_ok ns2 (relO_put (fs:= []) ry fun _=>trivial)
  ·rw[upd_ne hd] at q
   refine(I.hok b o q).stay (fun c v hc z=>keep c v (hc.elim (fun k=>by rw[k];exact hb) fun k=>at_ne e k exo_own) z) (fun c hc=>(upd_ne (at_ne e hc exo_own)).trans ((upd_ne (ne_of_none hc hn)).trans hc)) fun c xs hc=>(upd_ne (at_ne e hc exo_tup)).trans ((upd_ne (ne_of_none hc hn)).trans hc)
end
def tSto (K:PySem.W.Frag) (C:Addr) (f:Str) (to te:TE):TS:=fun D σ H=>te σ H fun y H1=>to σ H1 fun x H2=>∃a:Addr,x= .ref a∧H2 a=some (exo a C none)∧∀dx,H2 dx=none→dx≠a→D.nx σ (upd (upd H2 dx (exd dx [(f,y)])) a (exo a C (some dx)))
theorem ps_sto {X:Cx} {o e:Expr} {to te:TE} {f:Str} {p' pos:Pos} {C:Addr} {B newId initId:String} {bmB:List Value} (T:Oxc X.K C B newId initId bmB) (no:PySem.W.findIn X.K (.ref C) f=some none) (ho:PE X o to) (he:PE X e te)
 (hs:swapsWith e (some (.Attribute o f p')) pos.line X.env=pure false:=by rfl):PS X (.Assign [.Attribute o f p'] e pos) (tSto X.K C f to te):=
 ⟨fun pins s σ H D I h=>plainObj_wpAny_Assign_Attribute (thn (he.run pins s σ H _ I h) fun v s1 ⟨y,H1,I1,r1,q1⟩=>thn (ho.run pins s1 σ H1 _ I1 q1) fun u s2 ⟨x,H2,I2,r2,a,ex,ea,q⟩=>by
   subst ex
   obtain rfl:u=Value.ref a:=r2
   exact store1 T I2 ea no r1 fun dx s' n ne J=>⟨σ,_,J,q dx n ne⟩) hs⟩
def spI (C:Addr) (f:Str):Sp:=fun vs H Q _=>∃(a:Addr) (y:V),vs= [.ref a,y] ∧H a=some (exo a C none)∧∀dx,H dx=none→dx≠a→Q .non (upd (upd H dx (exd dx [(f,y)])) a (exo a C (some dx)))
theorem pmk_one {X:Cx} {x:Str} {e:Expr} {te:TE} {p pos:Pos} {C fI:Addr} {k:Nat} {fd:FuncData} {ps:List Str} {f:Str} {B newId initId:String} {bmB:List Value} (T:Oxc X.K C B newId initId bmB) (iC:PySem.W.findIn X.K (.ref C) "__init__" =some (some (.ref fI))) (tI:PySem.W.typeIn X.K (.ref fI)=some (.type "function"))
 (F1:FnG X.prog X.w X.K X.mg X.base k fI fd ps (spI C f)) (hr:RoomG (k+1) X.A) (hb:Binds X.K fd ps []) (hg:Gl X x) (hm:X.mg x=some (.ref C)) (he:PE X e te)
 (hdb:(x==("__debug__" :Str))=false:=by decide) (hs:starEach [e] X.env=(false,eval e X.env)::starEach [] X.env:=by rfl):
 PMk X (.Call (.Name x p) [e] [] pos) (fun σ H Q=>te σ H fun y H1=>∀d,H1 d=none→Q (.ref C) (some d) (upd H1 d (.xd [(f,y)]))):=by
 intro pins s σ H Q I h
 refine wpAny_Call_Name_kw (ld_glob I hg hm ?_ hdb)
 refine PySem.W.callWith_K (h₀ :=X.base) I.ok.mod.kin T.kC ?_ hs (by rfl)
 rw[hs]
 show wpAny _ _ (spliced ((false,eval e X.env)::backTo pos (starEach [] X.env))) _ _ s
 refine Calls.spliced_cons (thn (he.run pins s σ H _ I h) fun u s1 ⟨y,H1,I1,ry,q1⟩=> ?_)
 refine Calls.spliced_nil ⟨I1.kIn,?_⟩
 show wpAny _ _ (call (.ref C) [u]) _ _ _
 obtain⟨nm,N,qn,bs,bm,hdct,sn,sub,ab,col,dd,k0,k1,k2,k3,k5,hC,hT⟩:=PySem.W.excInit_of I1.kIn T.ini
 obtain⟨hp,g,dr,tk,os⟩:=s1
 have sz:hp.objs.size≤hp.objs.size+1:=Nat.le_succ _
 have n1:H1 (hp.objs.size+1)=none:=I1.hok.fresh sz
 have kk:∀b o,hp.get? b=some o→((hp.push (PySem.W.kdv_tup [u])).push (PySem.HandSPX.excO C hp.objs.size)).get? b=some o:=fun b o q=>Heap.get?_push_of_some _ (Heap.get?_push_of_some _ q)
 have gx:((hp.push (PySem.W.kdv_tup [u])).push (PySem.HandSPX.excO C hp.objs.size)).get? (hp.objs.size+1)=some (PySem.HandSPX.excO C hp.objs.size):=by heap_get
 have I2:Inv X pins σ (upd H1 (hp.objs.size+1) (exo (hp.objs.size+1) C none)) ⟨(hp.push (PySem.W.kdv_tup [u])).push (PySem.HandSPX.excO C hp.objs.size),g,dr,tk,os⟩:=I1.laid (t':=tk) (a:=hp.objs.size+1) (o:=exo (hp.objs.size+1) C none) (h':=(hp.push (PySem.W.kdv_tup [u])).push (PySem.HandSPX.excO C hp.objs.size)) kk sz (exo_ok gx)
 have want:spI C f [V.ref (hp.objs.size+1),y] (upd H1 (hp.objs.size+1) (exo (hp.objs.size+1) C none)) (fun v H2=>v= .non∧∃d,H2=upd (upd (upd H1 (hp.objs.size+1) (exo (hp.objs.size+1) C none)) d (exd d [(f,y)])) (hp.objs.size+1) (exo (hp.objs.size+1) C (some d))∧H1 d=none∧d≠hp.objs.size+1) (fun _ _ _=>False):=
  ⟨_,y,rfl,upd_same,fun dx nx ne=>⟨rfl,dx,rfl,by rw[upd_ne ne] at nx;exact nx,ne⟩⟩
 have rel:Vals [V.ref (hp.objs.size+1),y] [Value.ref (hp.objs.size+1),u] := .cons rfl (.cons ry .nil)
 have hl: [Value.ref (hp.objs.size+1),u].length=ps.length:=by
  rw[← rel.length];exact F1.len _ _ _ _ want
 have bd:=hb ⟨(hp.push (PySem.W.kdv_tup [u])).push (PySem.HandSPX.excO C hp.objs.size),g,dr,tk,os⟩ [Value.ref (hp.objs.size+1),u] I2.kIn hl
 rw[List.append_nil] at bd
 have rm:RoomG k (X.A.under (.builtin "type.__call__" ⟨.ref C:: [u],[]⟩)):=⟨hr.rm.make C [u] [],hr.gd⟩
 refine wpAny_call (PySem.HandSPX.call_own T.F hT hC (PySem.W.looks_findIn I1.kIn iC) (fun self=>PySem.W.bind_fn I1.kIn self tI) (by show 1≤sizeLine;rw[sizeLine_eq];omega)
  (codeAny_mono (F1.go _ X.stack _ _ ⟨[Value.ref (hp.objs.size+1),u],[]⟩ [Value.ref (hp.objs.size+1),u] _ _ (fun _ _ _=>False) rm (I2.env0.make C [u] []) bd rel want) fun r z hz=> ?_))
 match r,z,hz with
 | .error er,z,hz=>
   obtain⟨_,_,_,_,_,_,_,_,_,_,_,_,w⟩:=hz
   exact w.elim
 | .ok (.ret r'),⟨h2,g2,d2,t2,os2⟩,⟨v,H2,eo,bare,un,hok,rv,ev,d,eH,nd,ne⟩=>
   subst ev
   refine⟨rv,?_⟩
   have ed:H2 d=some (exd d [(f,y)]):=by rw[eH,upd_ne ne,upd_same]
   have ea:H2 (hp.objs.size+1)=some (exo (hp.objs.size+1) C (some d)):=by rw[eH,upd_same]
   refine mk_end (Q:=Q) (raises_own T.exC T.tyC) I1 sz kk un hok eo bare ea ed nd ?_
   have el:upd (L2.del H2 (hp.objs.size+1)) d (.xd [(f,y)])=upd H1 d (.xd [(f,y)]):=by
    funext b
    by_cases b1:b=d
    ·subst b1;rw[upd_same,upd_same]
    ·rw[upd_ne b1,upd_ne b1]
     by_cases b2:b=hp.objs.size+1
     ·subst b2;rw[L2.del_same,n1]
     ·rw[L2.del_ne b2,eH,upd_ne b2,upd_ne b1,upd_ne b2]
   rw[el]
   exact q1 d nd
 | .ok .next,_,hz=>exact False.elim hz
 | .ok .brk,_,hz=>exact False.elim hz
 | .ok .cont,_,hz=>exact False.elim hz
end L3
namespace L3
open PySem PySem.Spec PyProof.Rows L2
open PySem.HandSPX (HeldZ FlyingZ TracedZ)
abbrev Cx.suiteT (X:Cx) (a:Addr):Cx:= { X with A:=X.A.mark (some (.ref a)),calm:=false,xe:=fun _ _=>False }
theorem suite_ok {X:Cx} (ok:X.Ok) (a:Addr):(Cx.suiteT X a).Ok:=
 ⟨ok.mod,ok.kind,ok.glob,ok.blt,ok.above,ok.inj,ok.has,ok.cab,(fun z=>absurd (show false=true from z) Bool.false_ne_true),ok.frames,ok.stk,ok.exf,ok.bs,ok.bsz,ok.noex,ok.exfs,ok.funs,ok.frf⟩
section
variable {X:Cx} {pins:List (Addr × Obj)} {σ :L2.St} {H:Hp} {s:Shared} {a:Addr}
theorem toSuite (I:Inv X pins σ H s) (a:Addr):Inv (Cx.suiteT X a) pins σ H s:=⟨suite_ok I.ok a,I.os,I.bare,I.base,I.loc,I.cell,I.free,I.freeC,I.pin,I.hok,I.len⟩
theorem ofSuite (I:Inv (Cx.suiteT X a) pins σ H s) (ok:X.Ok):Inv X pins σ H s:=⟨ok,I.os,I.bare,I.base,I.loc,I.cell,I.free,I.freeC,I.pin,I.hok,I.len⟩
theorem track {cls:Value} {dx:Option Addr} {oe:Obj} {vs:Array Value} (I:Inv X pins σ H s) (ha:s.heap.get? a=some oe) (z:Zc cls dx oe) (hd:oe.data= .fields vs) (na:H a=none) (n0:X.s_0.heap.get? a=none) (np:∀p ∈ X.pn++pins,p.1≠a):
 Inv X pins σ (upd H a (xoH a cls dx)) s:=by
 have nL:X.env.locals≠a:=fun q=>by
  obtain⟨m,⟨o,es,ep,g,d,_⟩,_⟩:=I.loc
  rw[q,ha] at g;cases g
  rw[hd] at d;cases d
 have nC:∀x c,X.env.cells.lookup x=some c→c≠a:=fun x c e q=>by
  obtain⟨v,o,g,d⟩:=I.cell x c e
  rw[q,ha] at g;cases g
  rw[hd] at d;cases d
 have n1:∀ {b o},X.s_0.heap.get? b=some o→b≠a:=fun {b o} g q=>by rw[q,n0] at g;cases g
 have n2:∀ {b o},H b=some o→b≠a:=fun {b o} g q=>by rw[q,na] at g;cases g
 refine⟨I.ok,I.os,I.bare,⟨I.base.keep,I.base.slot,fun b o g n x=>(upd_ne (n1 g)).trans (I.base.free b o g n x),I.base.there,fun b xs e=> ?_,fun b o u e=> ?_,fun b ps e=> ?_⟩,I.loc,I.cell,(upd_ne nL).trans I.free,fun x c e=>(upd_ne (nC x c e)).trans (I.freeC x c e),fun p hp=> ?_,fun b u e=> ?_,I.len⟩
 ·have q:=I.base.tups b xs e
  exact(upd_ne (n2 q)).trans q
 ·have q:=I.base.frzs b o u e
  exact(upd_ne (n2 q)).trans q
 ·obtain⟨more,q⟩:=I.base.tbls b ps e
  exact⟨more,(upd_ne (n2 q)).trans q⟩
 ·obtain⟨q1,q2,q3,q4,q5⟩:=I.pin p hp
  exact⟨q1,(upd_ne (np p hp)).trans q2,q3,q4,q5⟩
 ·by_cases hb:b=a
  ·subst hb
   rw[upd_same] at e;cases e
   exact⟨⟨oe,vs,ha,z,hd⟩,⟨oe,ha⟩,fun _ _ ⟨o,v,q1,q2,q3⟩ k=>⟨o,v,k o q1,q2,q3⟩⟩
  ·rw[upd_ne hb] at e
   exact(I.hok b u e).stay (fun _ _ _ q=>q) (fun c q=>(upd_ne (n2 q)).trans q) fun c xs q=>(upd_ne (n2 q)).trans q
end
def Asks (X:Cx) (t:Expr) (ans:Value→Option Bool):Prop:=∀(a:Addr) (cls:Value) (b:Bool) (pins:List (Addr × Obj)) (σ :L2.St) (H:Hp) (s:Shared) (Q:Bool→Shared→Prop) (E:Value→Shared→Prop),
 Inv (Cx.suiteT X a) pins σ H s→PySem.W.Looks (model X.prog X.w) s.heap (typeOf (.ref a)) cls→ans cls=some b→
 (∀ h,(∀ c o,s.heap.get? c=some o→h.get? c=some o)→Q b { s with heap:=h })→
 wpAny (model X.prog X.w) (X.A.mark (some (.ref a))) (eval t X.env) (fun c s1=>wpAny (model X.prog X.w) (X.A.mark (some (.ref a))) (excMatches (.ref a) c) Q E s1) E s
section
variable {X:Cx}
theorem ev_name {a:Addr} {pins:List (Addr × Obj)} {σ :L2.St} {H:Hp} {s:Shared} {x:Str} {c:Value} {p:Pos} {Q E:Value→Shared→Prop} (hc:Names X x c) (I:Inv (Cx.suiteT X a) pins σ H s) (q:Q c s):wpAny (model X.prog X.w) (X.A.mark (some (.ref a))) (eval (.Name x p) X.env) Q E s:=by
 obtain⟨hg,hd,hm|⟨hm,hv,hn⟩⟩:=hc
 ·exact ld_glob (X:=Cx.suiteT X a) I hg hm q hd
 ·exact ld_blt (X:=Cx.suiteT X a) I hg hm hv q hn hd
theorem asks_three {x1 x2 x3:Str} {c1 c2 c3:Value} {p1 p2 p3 p:Pos} {kk:Nat} (n1:Names X x1 c1) (n2:Names X x2 c2) (n3:Names X x3 c3):Asks X (.Tuple [.Name x1 p1, .Name x2 p2, .Name x3 p3] kk p) (fun cls=>PySem.W.exmAny X.K cls [c1,c2,c3]):=by
 intro a cls b pins σ H s Q E I LT ans k
 refine wpAny_Tuple_spliced ?_
 refine Calls.spliced_cons (ev_name n1 I ?_)
 refine Calls.spliced_cons (ev_name n2 I ?_)
 refine Calls.spliced_cons (ev_name n3 I ?_)
 refine Calls.spliced_nil ⟨by show 3≤sizeLine;decide,?_⟩
 have kp:∀c o,s.heap.get? c=some o→(s.heap.push ({ cls:= .type "tuple",data:= .seq [c1,c2,c3].toArray } :Obj)).get? c=some o:=fun c o e=>Heap.get?_push_of_some _ e
 exact(PySem.W.exm_tup3 (M:=model X.prog X.w) (h:=s.heap.push ({ cls:= .type "tuple",data:= .seq [c1,c2,c3].toArray } :Obj)) (I.kIn.keeps kp) (LT.keeps kp) (Heap.get?_push_size _ rfl) ans).here (k _ kp)
end
end L3
namespace L3
open PySem PySem.Spec PyProof.Rows L2
open PySem.HandSPX (HeldZ FlyingZ TracedZ)
def Ex.d (e:Ex):D:= .xcp e.cls (e.fs.map (·.1)) (e.fs.map (·.2))
structure HdD where
 ys:List Str
 ns:List Str
 nm:Option Nat
 su:SD
def SR.past (r:SR) (nm:Option Nat):SR:=match r,nm with
 | .nx env S,none=> .nx env S
 | .nx env S,some i=> .nx (env.set i none) S
 | .ret d S,_=> .ret d S
 | .brk env S,none=> .brk env S
 | .brk env S,some i=> .brk (env.set i none) S
 | .ct env S,none=> .ct env S
 | .ct env S,some i=> .ct (env.set i none) S
 | _,_=> .bad
def nameD (nm:Option Nat) (e:Ex) (env:EnvD):EnvD:=match nm with
 |none=>env
 |some i=>env.set i (some e.d)
def hdsD:List HdD→Ex→EnvD→Store→SR
 | [],e,env,S=> .exc e env S
 |h::r,e,env,S=>if e.cls ∈ h.ys then(h.su (nameD h.nm e env) S).past h.nm else if e.cls ∈ h.ns then hdsD r e env S else .bad
def sTry (body:SD) (hs:List HdD):SD:=fun env S=>match body env S with
 | .exc e env1 S1=>hdsD hs e env1 S1
 |r=>r
inductive Hds (G:GC) (X:Cx):List ExceptHandler→List HdD→Prop
 |nil:Hds G X [] []
 |bare {t:Expr} {b:Stmt} {suite:List Stmt} {pos:Pos} {hs:List ExceptHandler} {l:List HdD} {ys ns:List Str} {su:SD} {ans:Value→Option Bool} (ask:Asks X t ans)
   (hy:∀c ∈ ys,∀C,G.mg c=some (.ref C)→ans (.ref C)=some true) (hn:∀c ∈ ns,∀C,G.mg c=some (.ref C)→ans (.ref C)=some false)
   (hsu:∀a,PSs (Cx.suiteT X a) (b::suite) (tS G su WF)) (r:Hds G X hs l):Hds G X (.ExceptHandler (some t) none (b::suite) pos::hs) (⟨ys,ns,none,su⟩::l)
 |named {t:Expr} {n:Str} {i:Nat} {b:Stmt} {suite:List Stmt} {pos:Pos} {hs:List ExceptHandler} {l:List HdD} {ys ns:List Str} {su:SD} {ans:Value→Option Bool} (ask:Asks X t ans) (hi:X.N[i]? =some n) (hl:X.env.kindOf n=some .local)
   (hy:∀c ∈ ys,∀C,G.mg c=some (.ref C)→ans (.ref C)=some true) (hn:∀c ∈ ns,∀C,G.mg c=some (.ref C)→ans (.ref C)=some false)
   (hsu:∀a,PSs (Cx.suiteT X a) (b::suite) (tS G su WF)) (r:Hds G X hs l):Hds G X (.ExceptHandler (some t) (some n) (b::suite) pos::hs) (⟨ys,ns,some i,su⟩::l)
def wHds (G:GC) (Wx:WX) (D:Ends) (l:List HdD):WX:=fun C dx σ H=>∃w env e,w.H=H∧SRep G w∧ERep G w env σ ∧XRep G w e C dx∧PostS G w (hdsD l e env w.S) D Wx
theorem xcp_rep {G:GC} {w:Wd} {e:Ex} {Ca a:Addr} {dx:Option Addr} (m:G.mg e.cls=some (.ref Ca)) (x:XRep G w e (.ref Ca) dx) (sr:SRep G w) (na:w.H a=none):
 WExt w (w.put a (xoH a (.ref Ca) dx))∧SRep G (w.put a (xoH a (.ref Ca) dx))∧Rep G (w.put a (xoH a (.ref Ca) dx)) e.d (.ref a):=by
 obtain⟨x1,s1,nm⟩:=new_ext (o:=xoH a (.ref Ca) dx) sr na
 refine⟨x1,s1,?_⟩
 unfold Ex.d
 simp only[Rep]
 obtain⟨_,hf⟩:=x
 have cut:∀ {fs:List (Str × D)} {kvs:List (Str × V)},RepKV G w fs kvs→∃vs,(fs.map (·.1)).zip vs=kvs∧RepL G w (fs.map (·.2)) vs:=by
  intro fs
  induction fs with
  |nil=>intro kvs h;cases kvs with
   |nil=>exact⟨[],rfl,by simp[RepL]⟩
   |cons _ _=>simp[RepKV] at h
  |cons p fs ih=>
   intro kvs h
   obtain⟨v,y,rfl,h1,h2⟩:=h
   obtain⟨vs,e1,e2⟩:=ih h2
   exact⟨v::vs,by simp[e1],by simp only[List.map_cons,RepL];exact⟨v,vs,rfl,h1,e2⟩⟩
 rcases hf with⟨hf,hd0⟩|⟨d,kvs,e1,e2,nd,rk⟩
 ·exact⟨a,Ca,dx,[],rfl,m,⟨upd_same,nm⟩,by simp, .inl ⟨by rw[hf];rfl,hd0⟩,by rw[hf];simp[RepL]⟩
 ·obtain⟨vs,q1,q2⟩:=cut rk
  have ne:d≠a:=fun q=>by rw[q,na] at e2;cases e2
  exact⟨a,Ca,dx,vs,rfl,m,⟨upd_same,nm⟩,by simp, .inr ⟨d,e1,by rw[q1];exact(upd_ne ne).trans e2,(x1.keepM noT e2 nd).2⟩,RepL.mono x1 _ _ q2⟩
def pastS (nm:Option Nat) (τ :L2.St):L2.St:=match nm with
 |none=> τ
 |some i=> τ.set i none
section
variable {G:GC} {X:Cx} {Wx:WX} {pos:Pos}
theorem suite_reads {w:Wd} {env:EnvD} {σ :L2.St} {D:Ends} {l:SR} {nm:Option Nat} (h:PostS G w (l.past nm) D Wx):
 PostS G w l { nx:=fun τ H=>D.nx (pastS nm τ) H,rt:=D.rt,bk:=fun τ H=>D.bk (pastS nm τ) H,ct:=fun τ H=>D.ct (pastS nm τ) H } WF:=by
 cases l with
 |nx env' S'=>cases nm with
  |none=>exact fun τ w' x e s er=>h τ w' x e s er
  |some i=>exact fun τ w' x e s er=>h (τ.set i none) w' x e s (er.unset i)
 |ret d S'=>cases nm<;>exact fun v w' x e s r=>h v w' x e s r
 |brk env' S'=>cases nm with
  |none=>exact fun τ w' x e s er=>h τ w' x e s er
  |some i=>exact fun τ w' x e s er=>h (τ.set i none) w' x e s (er.unset i)
 |ct env' S'=>cases nm with
  |none=>exact fun τ w' x e s er=>h τ w' x e s er
  |some i=>exact fun τ w' x e s er=>h (τ.set i none) w' x e s (er.unset i)
 |exc _ _ _=>cases nm<;>exact h.elim
 |bad=>cases nm<;>exact h.elim
theorem ps_hds {body:List Stmt} {h0:ExceptHandler} {hs:List ExceptHandler} {l:List HdD} {tb:WX→TS} (st:X.stack=X.env::X.outer) (fr:X.env.frame=some X.env.locals) (hN:X.N.Nodup) (hex:X.ex= []) (tk:Takes X Wx)
 (hb:∀(W:WX) (pn:List (Addr × Obj)) (xe:Value→Shared→Prop),Takes (X.tr pn xe) W→PassesOwn (model X.prog X.w) X.A X.env xe→PSs (X.tr pn xe) body (tb W)) (hh:Hds G X (h0::hs) l):
 PS X (.Try body (h0::hs) [] [] pos) (fun D σ H=>tb (wHds G Wx D l) D σ H):=by
 refine⟨fun pins s σ H D I h=> ?_⟩
 have ok:=I.ok
 have frA:X.A.frames=some (X.env::X.outer):=by rw[ok.frames,st]
 refine wpAny_Try_except ?_
 refine wpAny_mono ((hb (wHds G Wx D l) (X.pn++pins) (fun e z=>wpAny (model X.prog X.w) X.A (noteFrame e X.env) (fun _ z2=>wpAny (model X.prog X.w) X.A (setFlight e none) (fun _ z3=>
  wpAny (model X.prog X.w) X.A (handleBy e X.env (h0::hs)) (SP X pins D) X.xe z3) X.xe z2) X.xe z) (fun u z xx=> ?_) PassesOwn.looking).run [] s σ H D (I.toTry _) h) (fun f z hz=> ?_) fun _ _ y=>y
 ·obtain⟨a,B,sI,_,σ1,H1,cls,dx,rfl,J0,nb,up,sky,na,os,ag,w,env,e,rfl,sr,er,xr,p⟩:=xx
  have J:Inv X pins σ1 w.H sI:=J0.ofTry ok
  have sky':Sky B (X.env::X.outer) a (Zc cls dx) X.env.locals z.heap:=by rw[← st];exact sky
  show wpAny (model X.prog X.w) X.A (noteFrame (.ref a) X.env) _ _ _
  refine Sky.land Zc.steady frA fr sky' fun h3 fl3 up3=> ?_
  obtain⟨⟨Ca,mC,rfl⟩,_⟩:=id xr
  have nfr:a ∉ frs (X.env::X.outer):=fun hm=>by
   obtain⟨oe,vs,g,_,d⟩:=fl3.there
   obtain⟨_,o,g',nf⟩:=fl3.2.2.1.mem hm
   rw[g] at g';cases g'
   exact nf _ d
  have nI:sI.heap.get? a=none:=by
   cases q:sI.heap.get? a with
   |none=>rfl
   |some o=>
    have y:=nb a o q (by rw[st];exact nfr)
    rw[fl3.2.1] at y;cases y
  have n0:X.s_0.heap.get? a=none:=by
   cases q:X.s_0.heap.get? a with
   |none=>rfl
   |some o=>
    obtain⟨o',y⟩:=J.base.there a o q (by rw[hex];simp)
    rw[nI] at y;cases y
  have np:∀q ∈ X.pn++pins,q.1≠a:=fun q hq e=>by
   have y:=(J.pin q hq).1
   rw[e,nI] at y;cases y
  have go:∀(hs':List ExceptHandler) (l':List HdD),Hds G X hs' l'→∀(h4:Heap),FlyingZ B (X.env::X.outer) a (Zc (.ref Ca) dx) h4→z.heap.UpToSlots h4→PostS G w (hdsD l' e env w.S) D Wx→
   wpAny (model X.prog X.w) X.A (handleBy (.ref a) X.env hs') (SP X pins D) X.xe { z with heap:=h4 } :=by
   intro hs' l' hd
   have step:∀ {t:Expr} {ans:Value→Option Bool} {b:Bool} {h4:Heap} {Q:Bool→Shared→Prop} {E:Value→Shared→Prop},Asks X t ans→ans (.ref Ca)=some b→FlyingZ B (X.env::X.outer) a (Zc (.ref Ca) dx) h4→z.heap.UpToSlots h4→
    (∀ h5,FlyingZ B (X.env::X.outer) a (Zc (.ref Ca) dx) h5→z.heap.UpToSlots h5→Q b { z with heap:=h5 })→
    wpAny (model X.prog X.w) (X.A.mark (some (.ref a))) (eval t X.env) (fun c s1=>wpAny (model X.prog X.w) (X.A.mark (some (.ref a))) (excMatches (.ref a) c) Q E s1) E { z with heap:=h4 } :=by
    intro t ans b h4 Q E ask an fl4 up4 k
    have J4:Inv X pins σ1 w.H { z with heap:=h4 } :=J.landed nb fl4.1 (up.trans up4) os ag
    obtain⟨oe,vs,g,zz,d⟩:=fl4.there
    have LT:PySem.W.Looks (model X.prog X.w) h4 (typeOf (.ref a)) (.ref Ca):=fun A Q E s kk q=>wpAny_typeOf_ref (kk _ _ g) (by rw[zz.1];exact q)
    refine ask a (.ref Ca) b pins σ1 w.H { z with heap:=h4 } Q E (toSuite J4 a) LT an fun h5 kp=>k h5 ?_ (up4.trans (Heap.UpToSlots.of_keeps kp))
    obtain⟨k1,k2,k3,o1,v1,tb,o2,v2,g1,z1,d1,i1,ntb,ne,g2,d2,i2⟩:=fl4
    exact⟨fun b o q=>kp b o (k1 b o q),k2,k3.of_keeps fun b o q _=>⟨o,kp b o q,rfl⟩,o1,v1,tb,o2,v2,kp _ _ g1,z1,d1,i1,ntb,ne,kp _ _ g2,d2,i2⟩
   have enter:∀ {b:Stmt} {suite:List Stmt} {su:SD} {nm:Option Nat} {env':EnvD} {τ :L2.St} {h5:Heap} {s5:Shared} {Q:Flow→Shared→Prop} {E:Value→Shared→Prop},(∀ a,PSs (Cx.suiteT X a) (b::suite) (tS G su WF))→
    Inv (Cx.suiteT X a) pins τ (upd w.H a (xoH a (.ref Ca) dx)) s5→ERep G (w.put a (xoH a (.ref Ca) dx)) env' τ →PostS G w ((su env' w.S).past nm) D Wx→
    (∀ f s6,SP (Cx.suiteT X a) pins { nx:=fun τ H=>D.nx (pastS nm τ) H,rt:=D.rt,bk:=fun τ H=>D.bk (pastS nm τ) H,ct:=fun τ H=>D.ct (pastS nm τ) H } f s6→Q f s6)→
    wpAny (model X.prog X.w) (X.A.mark (some (.ref a))) (execs (b::suite) X.env) Q E s5:=by
    intro b suite su nm env' τ h5 s5 Q E hsu I5 er5 p5 k
    obtain⟨x1,s1,_⟩:=xcp_rep mC xr sr na
    have q:=(hsu a).run pins s5 τ _ _ I5 ⟨w.put a (xoH a (.ref Ca) dx),env',rfl,s1,er5,suite_reads (σ := τ) (env:=env') (PostS.shift x1 p5)⟩
    exact wpAny_mono q (fun f s6 y=>k f s6 y) fun _ _ y=>False.elim y
   induction hd with
   |nil=>
    intro h4 fl4 up4 p4
    refine wpAny_handleBy_nil ?_
    obtain⟨k1,k2,k3,o1,v1,tb,o2,v2,g1,z1,d1,i1,ntb,ne,g2,d2,i2⟩:=id fl4
    unfold PySem.passOn
    refine wpAny_bind (wpAny_field g1 d1 i1 ?_)
    rw[if_neg (show ¬((Value.ref tb==Value.none)=true) from by simp),fr]
    have fin:wpAny (model X.prog X.w) X.A (setFlight (.ref a) (some X.env.locals)) (fun _ z5=>wpAny (model X.prog X.w) X.A (throw (.ref a):Sem Flow) (SP X pins D) X.xe z5) X.xe { z with heap:=h4 } :=by
     refine PySem.HandSPX.setFlight_upZ fl4 fun h5 hh5 up5=>wpAny_throw (tk _ _ ?_)
     exact⟨a,B,sI,pins,σ1,w.H, .ref Ca,dx,rfl,J,nb,(up.trans up4).trans up5, .inr (.inr (by rw[st];exact hh5)),na,os,ag,p4 _ _ σ1 w (.refl w) rfl sr er xr⟩
    first
     |exact wpAny_bind (wpAny_pure (wpAny_bind fin))
     |exact wpAny_bind fin
   | @bare t b suite pos hs l ys ns su ans ask hy hn hsu r ih=>
     intro h4 fl4 up4 p4
     have p4:PostS G w (if e.cls ∈ ys then(su env w.S).past none else if e.cls ∈ ns then hdsD l e env w.S else .bad) D Wx:=p4
     refine wpAny_handleBy_cons (codeAny_handlers_test ?_) (by intro q;cases q)
     by_cases m:e.cls ∈ ys
     ·rw[if_pos m] at p4
      refine step ask (hy _ m Ca mC) fl4 up4 fun h5 fl5 up5=> ?_
      refine codeAny_handlers_suite ?_
      refine PySem.HandSPX.lands_againZ fl5 fun h6 fl6 up6=> ?_
      have J6:Inv X pins σ1 w.H { z with heap:=h6 } :=J.landed nb fl6.1 (up.trans (up5.trans up6)) os ag
      obtain⟨oe,vs,g,zz,d⟩:=fl6.there
      obtain⟨x1,_,_⟩:=xcp_rep mC xr sr na
      refine enter (nm:=none) (h5:=h6) hsu (toSuite (track J6 g zz d na n0 np) a) (er.mono x1) p4 fun f s6 y=> ?_
      cases f with
      |next=>obtain⟨σ6,H6,S6,q6⟩:=y;exact⟨σ6,H6,ofSuite S6 ok,q6⟩
      |brk=>obtain⟨σ6,H6,S6,q6⟩:=y;exact⟨σ6,H6,ofSuite S6 ok,q6⟩
      |cont=>obtain⟨σ6,H6,S6,q6⟩:=y;exact⟨σ6,H6,ofSuite S6 ok,q6⟩
      |ret u=>obtain⟨v6,σ6,H6,S6,r6,q6⟩:=y;exact⟨v6,σ6,H6,ofSuite S6 ok,r6,q6⟩
     ·rw[if_neg m] at p4
      by_cases m2:e.cls ∈ ns
      ·rw[if_pos m2] at p4
       refine step ask (hn _ m2 Ca mC) fl4 up4 fun h5 fl5 up5=> ?_
       exact ih h5 fl5 up5 p4
      ·rw[if_neg m2] at p4;exact p4.elim
   | @named t n i b suite pos hs l ys ns su ans ask hi hl hy hn hsu r ih=>
     intro h4 fl4 up4 p4
     have p4:PostS G w (if e.cls ∈ ys then(su (env.set i (some e.d)) w.S).past (some i) else if e.cls ∈ ns then hdsD l e env w.S else .bad) D Wx:=p4
     refine wpAny_handleBy_cons (codeAny_handlers_test ?_) (by intro q;cases q)
     by_cases m:e.cls ∈ ys
     ·rw[if_pos m] at p4
      refine step ask (hy _ m Ca mC) fl4 up4 fun h5 fl5 up5=> ?_
      refine codeAny_handlers_suite_as ?_
      refine PySem.HandSPX.lands_againZ fl5 fun h6 fl6 up6=> ?_
      have J6:Inv X pins σ1 w.H { z with heap:=h6 } :=J.landed nb fl6.1 (up.trans (up5.trans up6)) os ag
      obtain⟨oe,vs,g,zz,d⟩:=fl6.there
      obtain⟨x1,_,rx⟩:=xcp_rep mC xr sr na
      refine store_ok (X:=Cx.suiteT X a) (v:= .ref a) (toSuite (track J6 g zz d na n0 np) a) hN hi (.inl hl) rfl (fun s7 I7=> ?_) (.inr hl)
      have out:∀ {σ6:L2.St} {H6:Hp} {s6:Shared} {Q:Shared→Prop},Inv (Cx.suiteT X a) pins σ6 H6 s6→(∀ s7,Inv X pins (σ6.set i none) H6 s7→Q s7)→
       wpAny (model X.prog X.w) X.A (do bindName X.env n .none;unbindBehindTheSuite X.env n pos) (fun _ s7=>Q s7) X.xe s6:=fun S6 k=>gone_ok (ofSuite S6 ok) hN hi hl k
      refine enter (nm:=some i) (h5:=h6) hsu I7 ((er.mono x1).set i rx) p4 fun f s6 y=> ?_
      cases f with
      |next=>obtain⟨σ6,H6,S6,q6⟩:=y;exact out S6 fun s7 J7=>⟨_,_,J7,q6⟩
      |brk=>obtain⟨σ6,H6,S6,q6⟩:=y;exact out S6 fun s7 J7=>⟨_,_,J7,q6⟩
      |cont=>obtain⟨σ6,H6,S6,q6⟩:=y;exact out S6 fun s7 J7=>⟨_,_,J7,q6⟩
      |ret u=>obtain⟨v6,σ6,H6,S6,r6,q6⟩:=y;exact out S6 fun s7 J7=>⟨_,_,_,J7,r6,q6⟩
     ·rw[if_neg m] at p4
      by_cases m2:e.cls ∈ ns
      ·rw[if_pos m2] at p4
       refine step ask (hn _ m2 Ca mC) fl4 up4 fun h5 fl5 up5=> ?_
       exact ih h5 fl5 up5 p4
      ·rw[if_neg m2] at p4;exact p4.elim
  exact go (h0::hs) l hh h3 fl3 up3 p
 ·cases f with
  |next=>obtain⟨σ6,H6,S6,q6⟩:=hz;exact wpAny_execs_nil ⟨σ6,H6,S6.ofTry ok,q6⟩
  |brk=>obtain⟨σ6,H6,S6,q6⟩:=hz;exact⟨σ6,H6,S6.ofTry ok,q6⟩
  |cont=>obtain⟨σ6,H6,S6,q6⟩:=hz;exact⟨σ6,H6,S6.ofTry ok,q6⟩
  |ret u=>obtain⟨v6,σ6,H6,S6,r6,q6⟩:=hz;exact⟨v6,σ6,H6,S6.ofTry ok,r6,q6⟩
theorem q_try {body:List Stmt} {h0:ExceptHandler} {hs:List ExceptHandler} {l:List HdD} {mb:SD} (st:X.stack=X.env::X.outer) (fr:X.env.frame=some X.env.locals) (hN:X.N.Nodup) (hex:X.ex= []) (tk:Takes X Wx)
 (hb:∀(W:WX) (pn:List (Addr × Obj)) (xe:Value→Shared→Prop),Takes (X.tr pn xe) W→PassesOwn (model X.prog X.w) X.A X.env xe→PSs (X.tr pn xe) body (tS G mb W)) (hh:Hds G X (h0::hs) l):
 PS X (.Try body (h0::hs) [] [] pos) (tS G (sTry mb l) Wx):=psI (ps_hds st fr hN hex tk hb hh) fun D σ H q=>by
 obtain⟨w,env,rfl,sr,er,p⟩:=q
 refine⟨w,env,rfl,sr,er,?_⟩
 unfold sTry at p
 cases hm:mb env w.S with
 |exc e env1 S1=>
  rw[hm] at p
  intro C dx τ w' x es s' er' xr
  subst es
  exact⟨w',env1,e,rfl,s',er',xr,PostS.shift x p⟩
 |nx _ _=>rw[hm] at p;exact p
 |ret _ _=>rw[hm] at p;exact p
 |brk _ _=>rw[hm] at p;exact p
 |ct _ _=>rw[hm] at p;exact p
 |bad=>rw[hm] at p;exact p
end
end L3
namespace L3
open PySem PySem.Spec PyProof.Rows L2
def sRaise0 (c:Str):SD:=fun env S=> .exc ⟨c,[]⟩ env S
def sRaise1 (c f:Str) (a:ED):SD:=fun env S=>(a env S).toS env fun d S1=> .exc ⟨c,[(f,d)]⟩ env S1
structure Xc1 (P:Program) (w:World) (G:GC) (base:Heap) (k:Nat) (c f:Str) (C:Addr):Prop where
 m:G.mg c=some (.ref C)
 ox:∃B n i bm,Oxc G.K C B n i bm
 no:PySem.W.findIn G.K (.ref C) f=some none
 ini:∃fI fd ps,PySem.W.findIn G.K (.ref C) "__init__" =some (some (.ref fI))∧PySem.W.typeIn G.K (.ref fI)=some (.type "function")∧FnG P w G.K G.mg base k fI fd ps (spI C f)∧Binds G.K fd ps []
section
variable {G:GC} {X:Cx} {Wx:WX} {pos p:Pos}
theorem q_raise1 {k:Nat} {c f:Str} {C:Addr} {e:Expr} {me:ED} {pr:Pos} (T:Xc1 X.prog X.w G X.base k c f C) (hr:RoomG (k+1) X.A) (hK:X.K=G.K) (hmg:X.mg=G.mg) (hc:X.calm=true) (tk:Takes X Wx) (hg:Gl X c) (he:PE X e (tE G me Wx))
 (hdb:(c==("__debug__" :Str))=false:=by decide) (hs:starEach [e] X.env=(false,eval e X.env)::starEach [] X.env:=by rfl):PS X (.Raise (some (.Call (.Name c p) [e] [] pos)) none pr) (tS G (sRaise1 c f me) Wx):=by
 obtain⟨B,n,i,bm,ox⟩:=T.ox
 obtain⟨fI,fd,ps,i1,i2,i3,i4⟩:=T.ini
 rw[← hK] at ox i1 i2 i4
 rw[← hK,←hmg] at i3
 refine psI (ps_raise hc tk (pmk_one ox i1 i2 i3 hr i4 hg (by rw[hmg];exact T.m) he hdb hs)) fun D σ H q=> ?_
 obtain⟨w,env,rfl,sr,er,pp⟩:=q
 refine⟨w,env,rfl,sr,er,(PostS.ofR (Ra:=Rep G) er pp).mono (fun y H1 m=> ?_) fun _ _ _ h=>h⟩
 obtain⟨w1,d1,rfl,x1,s1,rp1,p1⟩:=m
 intro d nd
 obtain⟨x2,s2,nm⟩:=new_ext (o:=HO.xd [(f,y)]) s1 nd
 exact p1 (.ref C) (some d) σ _ x2 rfl s2 ((er.mono x1).mono x2) ⟨⟨C,T.m,rfl⟩, .inr ⟨d,[(f,y)],rfl,upd_same,nm,⟨y,[],rfl,Rep.mono x2 _ _ rp1,rfl⟩⟩⟩
end
structure XcI (K:PySem.W.Frag) (C:Addr):Prop where
 hga:PySem.W.findIn K (.ref C) "__getattribute__" =some (some (.builtin "BaseException.__getattribute__"))
 hgt:PySem.W.findIn K (.ref C) "__getattr__" =some none
 hsb:PySem.W.subIn K (.ref C) (.type "BaseException")=some true
 hd:PySem.W.hasDictIn K C=true
 ha:PySem.W.findIn K (.ref C) "__class__" =some (some (.builtin "object.__class__"))
 hn:PySem.W.specialIn K (.builtin "object.__class__") "__get__" =some (some (.builtin "getset_descriptor.__get__"))
 ht:PySem.W.takesIn K (.builtin "object.__class__")=some true
 hm:PySem.W.mroIn K C (.type "object")=some true
theorem XcI.kit {K:PySem.W.Frag} {C x:Addr} {ox:Obj} {od:Option Obj} (T:XcI K C):PySem.W.KitX K (.ref x) (.ref C) (fun h=>PySem.W.InstAt h x ox C od):=
 PySem.W.kitx_exc (by obtain⟨cd,h,_⟩:=PySem.W.any_some T.hd;rw[h];rfl) T.hga T.hgt T.hsb T.ha T.hn T.ht T.hm
def isxD (ys ns:List Str):F1:=fun x S=>match x with
 | .xcp c _ _=>if c ∈ ys then .ok (.bl true) S else if c ∈ ns then .ok (.bl false) S else .bad
 | _=> .bad
def ClsE (X:Cx) (t:Expr) (ans:Value→Option Bool):Prop:=∀(a C:Addr) (ox:Obj) (od:Option Obj) (b:Bool) (pins:List (Addr × Obj)) (σ :L2.St) (H:Hp) (s:Shared) (Q:Value→Shared→Prop) (E:Value→Shared→Prop),
 Inv X pins σ H s→PySem.W.InstAt s.heap a ox C od→XcI X.K C→ans (.ref C)=some b→(∀ h tk,(∀ c o,s.heap.get? c=some o→h.get? c=some o)→Q (.bool b) { s with heap:=h,toks:=tk })→
 wpAny (model X.prog X.w) X.A (eval t X.env) (fun c s1=>wpAny (model X.prog X.w) X.A (call (.builtin "isinstance") [.ref a,c]) Q E s1) E s
section
variable {X:Cx}
theorem at_name {pins:List (Addr × Obj)} {σ :L2.St} {H:Hp} {s:Shared} {x:Str} {c:Value} {p:Pos} {Q E:Value→Shared→Prop} (hc:Names X x c) (I:Inv X pins σ H s) (q:Q c s):wpAny (model X.prog X.w) X.A (eval (.Name x p) X.env) Q E s:=by
 obtain⟨hg,hd,hm|⟨hm,hv,hn⟩⟩:=hc
 ·exact ld_glob I hg hm q hd
 ·exact ld_blt I hg hm hv q hn hd
theorem cls_name {x:Str} {c:Value} {p:Pos} (hc:Names X x c):ClsE X (.Name x p) (fun cls=>PySem.W.kitOne X.K cls c):=by
 intro a C ox od b pins σ H s Q E I J T ans k
 exact at_name hc I (PySem.W.kia_one T.kit I.kIn J ans (fun z=>nomatch z) fun tk=>k s.heap tk fun _ _ e=>e)
theorem inst_keeps {h h':Heap} {a C:Addr} {ox:Obj} {od:Option Obj} (J:PySem.W.InstAt h a ox C od) (k:∀c o,h.get? c=some o→h'.get? c=some o):PySem.W.InstAt h' a ox C od:=by
 obtain⟨j1,j2,j3,j4⟩:=J
 refine⟨k _ _ j1,j2,j3,?_⟩
 revert j4
 cases ox.dict<;>cases od
 ·exact fun y=>y
 ·exact fun y=>y
 ·exact fun y=>y
 ·exact fun y=>k _ _ y
theorem cls_two {x1 x2:Str} {c1 c2:Value} {p1 p2 p:Pos} {kk:Nat} (n1:Names X x1 c1) (n2:Names X x2 c2):ClsE X (.Tuple [.Name x1 p1, .Name x2 p2] kk p) (fun cls=>PySem.W.kitAny X.K cls [c1,c2]):=by
 intro a C ox od b pins σ H s Q E I J T ans k
 refine wpAny_Tuple_spliced ?_
 refine Calls.spliced_cons (at_name n1 I (Calls.spliced_cons (at_name n2 I (Calls.spliced_nil ⟨by show 2≤sizeLine;decide,?_⟩))))
 have kp:∀c o,s.heap.get? c=some o→(s.heap.push ({ cls:= .type "tuple",data:= .seq [c1,c2].toArray } :Obj)).get? c=some o:=fun c o e=>Heap.get?_push_of_some _ e
 exact PySem.W.kia_tup (s:= { s with heap:=s.heap.push ({ cls:= .type "tuple",data:= .seq [c1,c2].toArray } :Obj) }) T.kit (I.kIn.keeps kp) (inst_keeps J kp) (Heap.get?_push_size _ rfl) ans (fun z=>nomatch z) fun tk=>k _ tk kp
theorem xcp_inst {G:GC} {pins:List (Addr × Obj)} {σ :L2.St} {s:Shared} {w:Wd} {c:Str} {ks:List Str} {l:List D} {v:V} (I:Inv X pins σ w.H s) (r:Rep G w (.xcp c ks l) v):
 ∃a C ox od,v= .ref a∧G.mg c=some (.ref C)∧PySem.W.InstAt s.heap a ox C od∧(∀ f d,(ks.zip l).lookup f=some d→∃oD u x,od=some oD∧PySem.W.lookIn f oD=some (some u)∧RelV x u∧Rep G w d x):=by
 simp only[Rep] at r
 obtain⟨a,C,dx,vs,rfl,m,⟨ha,_⟩,hl,hf,rl⟩:=r
 have xo:ObjOk X.prog X.w w.H s.heap a (xoH a (.ref C) dx):=I.hok a _ ha
 obtain⟨⟨oe,fv,g,z,d⟩,_,_⟩:=xo
 have nc:PySem.W.notCls oe=true:=by unfold PySem.W.notCls;rw[d] <;>rfl
 rcases hf with⟨rfl,rfl⟩|⟨dd,rfl,hd,_⟩
 ·exact⟨a,C,oe,none,rfl,m,⟨g,z.1,nc,by rw[z.2];trivial⟩,fun f d h=>by simp at h⟩
 ·have xd:ObjOk X.prog X.w w.H s.heap dd (.xd (ks.zip vs)):=I.hok dd _ hd
  obtain⟨mA,hns,hr⟩:=xd
  obtain⟨od,ho,hlk⟩:=lookIn_ns hns
  refine⟨a,C,oe,some od,rfl,m,⟨g,z.1,nc,by rw[z.2];exact ho⟩,fun f d h=> ?_⟩
  have key:∀(ks:List Str) (l:List D) (vs:List V),ks.length=l.length→RepL G w l vs→(ks.zip l).lookup f=some d→∃x,(ks.zip vs).lookup f=some x∧Rep G w d x:=by
   intro ks
   induction ks with
   |nil=>intro l vs _ _ h;simp at h
   |cons k ks ih=>
    intro l vs hl r h
    cases l with
    |nil=>simp at hl
    |cons d0 l=>
     simp only[RepL] at r
     obtain⟨v0,r0,rfl,h1,h2⟩:=r
     simp only[List.zip_cons_cons,List.lookup_cons] at h ⊢
     cases e:f==k with
     |true=>rw[e] at h;cases h;exact⟨v0,rfl,h1⟩
     |false=>rw[e] at h;exact ih l r0 (by simpa using hl) h2 h
  obtain⟨x,e1,e2⟩:=key ks l vs hl rl h
  obtain⟨u,hu,ru⟩:=RelO.some_of (v:=x) (o:=mA f) (by rw[← e1];exact hr f)
  exact⟨od,u,x,rfl,by rw[hlk,hu],ru,e2⟩
end
section
variable {G:GC} {X:Cx} {Wx:WX} {pos p:Pos}
theorem q_isx {e t:Expr} {me:ED} {ys ns:List Str} {ans:Value→Option Bool} (hK:X.K=G.K) (hg:Gl X "isinstance") (hm:X.mg "isinstance" =none) (he:PE X e (tE G me Wx)) (ct:ClsE X t ans)
 (hy:∀c ∈ ys,∀C,G.mg c=some (.ref C)→XcI G.K C∧ans (.ref C)=some true) (hn:∀c ∈ ns,∀C,G.mg c=some (.ref C)→XcI G.K C∧ans (.ref C)=some false)
 (hs:starEach [e,t] X.env=(false,eval e X.env)::starEach [t] X.env:=by rfl) (hs2:starEach [t] X.env=(false,eval t X.env)::starEach [] X.env:=by rfl) (hpl:(backTo pos (starEach [t] X.env)).any (·.1)=false:=by rfl):
 PE X (.Call (.Name "isinstance" p) [e,t] [] pos) (tE G (e1 (isxD ys ns) me) Wx):=by
 refine⟨fun pins s σ H Q I q=> ?_⟩
 obtain⟨w,env,rfl,sr,er,pp⟩:=q
 refine wpAny_Call_Name_kw (ld_blt I hg hm PyProof.Rows.Boot.«isinstance» ?_ (by decide) (by decide))
 refine PyProof.Rows.callWith_builtin1 ?_ hs hpl
 rw[hs]
 show wpAny _ _ (spliced ((false,eval e X.env)::backTo pos (starEach [t] X.env))) _ _ s
 refine Calls.spliced_cons (thn (he.run pins s σ w.H _ I ⟨w,env,rfl,sr,er,Post.bind pp⟩) fun u s1 ⟨x,H1,I1,rx,q1⟩=> ?_)
 obtain⟨w1,d1,rfl,x1,s1',rp1,p1⟩:=q1
 unfold isxD at p1
 split at p1
 ·rename_i c ks l
  obtain⟨a,C,ox,od,rfl,m,J,_⟩:=xcp_inst I1 rp1
  cases rx
  rw[hs2]
  show wpAny _ _ (spliced ((false,eval t X.env)::backTo pos (starEach [] X.env))) _ _ s1
  have fin:∀b,XcI G.K C∧ans (.ref C)=some b→Post G w1 (.ok (.bl b) w1.S) (Rep G) Q (fun C dx H'=>Wx C dx σ H')→wpAny (model X.prog X.w) X.A (spliced ((false,eval t X.env)::backTo pos (starEach [] X.env))) (fun vs s2=>wpAny (model X.prog X.w) X.A (call (.builtin "isinstance") (.ref a::vs)) (EP X pins σ Q) X.xe s2) X.xe s1:=fun b hb pb=>
   Calls.spliced_cons (wpAny_mono (ct a C ox od b pins σ w1.H s1 (EP X pins σ Q) X.xe I1 J (by rw[hK];exact hb.1) hb.2 fun h tk kp=>⟨.bl b,w1.H,I1.kept (t':=tk) kp,rfl,Post.ret s1' (by simp[Rep]) pb⟩) (fun c s2 y=>Calls.spliced_nil y) fun _ _ y=>y)
  split at p1
  ·rename_i hy'
   exact fin true (hy c hy' C m) p1
  ·split at p1
   ·rename_i hn'
    exact fin false (hn c hn' C m) p1
   ·exact p1.elim
 ·exact p1.elim
def xfD (cs:List Str) (f:Str):F1:=fun x S=>match x with
 | .xcp c ks l=>if c ∈ cs then(match(ks.zip l).lookup f with
   |some d=> .ok d S
   |none=> .bad) else .bad
 | _=> .bad
theorem q_xf {e:Expr} {me:ED} {cs:List Str} {f:Str} (hK:X.K=G.K) (he:PE X e (tE G me Wx)) (hc:∀c ∈ cs,∀C,G.mg c=some (.ref C)→XcI G.K C∧PySem.W.findIn G.K (.ref C) f=some none)
 (hb:attributeBase e f X.env (eval e X.env)=eval e X.env:=by rfl):PE X (.Attribute e f pos) (tE G (e1 (xfD cs f) me) Wx):=by
 refine⟨fun pins s σ H Q I q=> ?_⟩
 obtain⟨w,env,rfl,sr,er,pp⟩:=q
 refine attr_of hb (thn (he.run pins s σ w.H _ I ⟨w,env,rfl,sr,er,Post.bind pp⟩) fun u s1 ⟨x,H1,I1,rx,q1⟩=> ?_)
 obtain⟨w1,d1,rfl,x1,s1',rp1,p1⟩:=q1
 unfold xfD at p1
 split at p1
 ·rename_i c ks l
  obtain⟨a,C,ox,od,rfl,m,J,fl⟩:=xcp_inst I1 rp1
  cases rx
  split at p1
  ·rename_i hc'
   obtain⟨T,no⟩:=hc c hc' C m
   rw[← hK] at T no
   cases hl:(ks.zip l).lookup f with
   |none=>rw[hl] at p1;exact p1.elim
   |some d=>
    rw[hl] at p1
    obtain⟨oD,u,y,rfl,l1,ry,r2⟩:=fl f d hl
    exact PySem.HandSPX.exc_get I1.kIn J T.hga T.hgt T.hsb (PySem.W.findObj_own T.hd no rfl l1) (handed_of ry) ⟨y,w1.H,I1.tok _,ry,Post.ret s1' r2 p1⟩
  ·exact p1.elim
 ·exact p1.elim
end
end L3
namespace L3
open PySem PySem.Spec PyProof.Rows L2
structure XcD (K:PySem.W.Frag) (D:Addr):Prop where
 sb:PySem.W.subIn K (.ref D) (.type "BaseException")=some true
 hd:PySem.W.hasDictIn K D=true
 ty:PySem.W.typeIn K (.ref D)=some (.type "type")
section
variable {K:PySem.W.Frag} {D C:Addr} {b b1 b2 b3:Bool} {t c c1 c2 c3:Value}
theorem exm_own (T:XcD K D) (h:PySem.W.subIn K t (.ref D)=some b):PySem.W.exmOne K t (.ref D)=some b:=by
 obtain⟨cd,hc,_⟩:=PySem.W.any_some T.hd
 unfold PySem.W.exmOne PySem.W.kitCls
 simp only[T.sb,hc,T.ty]
 simpa using h
theorem exm_three (h1:PySem.W.exmOne K t c1=some b1) (h2:PySem.W.exmOne K t c2=some b2) (h3:PySem.W.exmOne K t c3=some b3):PySem.W.exmAny K t [c1,c2,c3] =some (b1 || (b2 || b3)):=by
 simp[PySem.W.exmAny,h1,h2,h3]
theorem kit_own (T:XcD K D) (self:PySem.W.subIn K (.ref C) (.ref C)=some true) (h:PySem.W.subIn K (.ref C) (.ref D)=some b):PySem.W.kitOne K (.ref C) (.ref D)=some b:=by
 unfold PySem.W.kitOne
 by_cases e:C=D
 ·subst e
  rw[self] at h;cases h
  simp
 ·rw[if_neg (by simp[e])]
  obtain⟨cd,hc,_⟩:=PySem.W.any_some T.hd
  unfold PySem.W.kitCls
  simp only[hc,T.ty]
  simpa using h
theorem kit_two (h1:PySem.W.kitOne K t c1=some b1) (h2:PySem.W.kitOne K t c2=some b2):PySem.W.kitAny K t [c1,c2] =some (b1 || b2):=by
 unfold PySem.W.kitAny PySem.W.kitAny PySem.W.kitAny
 rw[h1,h2]
 cases b1<;>cases b2<;>rfl
end
section
variable {G:GC} {P:Addr→Prop} {c:Str} {cs:List Str} {C:Addr}
theorem ym_nil:∀c ∈ ([] :List Str),∀C,G.mg c=some (.ref C)→P C:=fun _ h=>nomatch h
theorem ym_cons (m:G.mg c=some (.ref C)) (p:P C) (r:∀c ∈ cs,∀C,G.mg c=some (.ref C)→P C):∀c' ∈ c::cs,∀C,G.mg c'=some (.ref C)→P C:=fun c' h C' m'=>by
 rcases List.mem_cons.mp h with rfl|h
 ·rw[m] at m';cases m';exact p
 ·exact r c' h C' m'
end
theorem init_ok {P:Program} {w:World} {K:PySem.W.Frag} {mg:Str→Option Value} {base:Heap} {x qual f:Str} {params:Arguments} {body:List Stmt} {scope:Scope} {dvs:List V} {kws:List (Str × V)} {fI C:Addr} {fd:FuncData} {N ps:List Str}
 (F:FunD K x qual params body scope dvs kws fI fd) (Sc:FnScope N ps scope) (hp:ps.length=2)
 (run:∀(cdv:Value) (A:Around) (outer:List Env) (s:Shared) (H:Hp) (E:XK),PSs (cxOf (L2.CX P w) P w K mg base N qual scope fI cdv A outer s H E) body (tSto K C f (tVar 0) (tVar 1))):FnG P w K mg base 1 fI fd ps (spI C f):=
 FnG.of_def F Sc (fun vs H Q E h=>by obtain⟨a,y,rfl,_⟩:=h;exact hp.symm) fun cdv A outer s H vs Q E _ h=>⟨_,run cdv A outer s H E,by
  obtain⟨a,y,rfl,h1,h2⟩:=h
  exact⟨y,rfl, .ref a,rfl,a,rfl,h1,h2⟩⟩
end L3
namespace L3
open PySem PySem.Spec PyProof.Rows L2
open PySem.W (SortsAt AllAlike Sortable dataKind dataKind_some dataKind_inv)
section
variable {prog:Program} {w:World} {A:Around} {E:Value→Shared→Prop} {s:Shared}
theorem call_tup_lt {Q:Value→Shared→Prop} {l b:Addr} {xs ys:Array Value} {e r:Nat→Bool} (hl:s.heap.IsTuple l xs) (hb:s.heap.IsTuple b ys)
 (he:∀j (h1:j<xs.size) (h2:j<ys.size),SeqAt.EqAt A.in1 s xs[j] ys[j] (e j)) (hr:∀j (h1:j<xs.size) (h2:j<ys.size),e j=false→SeqAt.RcLt A.in1 s xs[j] ys[j] (r j))
 (h:Q (.bool (SeqAt.firstLt e r (decide (xs.size<ys.size)) (List.range (min xs.size ys.size)))) s):wpAny (model prog w) A (call (.builtin "tuple.__lt__") [.ref l, .ref b]) Q E s:=by
 obtain⟨⟨c1,d1,a1,s1⟩,g1,t1,n1,k1⟩:=id hl
 obtain⟨⟨c2,d2,a2,s2⟩,g2,t2,n2,k2⟩:=id hb
 dsimp only at t1 k1 t2 k2
 subst t1 k1 t2 k2
 exact call_meets F.slot_tuple_lt ⟨_,g1,rfl⟩ F.entry_tuple_lt (F.args_tuple_lt_2 _ _) (SeqAt.tuple_ltAt l b xs ys n1 n2 d1 d2 s1 s2 e r) ⟨g1,g2,he,hr,h⟩
theorem oneLt_tup {xs ys:List PyData} {a b:Value} {as bs:List Addr} {Q:Bool→Shared→Prop} (ra:Reads s.heap a (.tuple xs) as) (rb:Reads s.heap b (.tuple ys) bs) (hal:PySem.W.alikeAll xs ys=true)
 (hu:A.units+min (PyData.tuple xs).depth (PyData.tuple ys).depth<cLine) (hq:Q (PySem.W.dataLt (.tuple xs) (.tuple ys)) s):wpAny (model prog w) A (oneLt' true a b) Q E s:=by
 cases ra with
 | @tuple l o vs n _ _ g1 t1 k1 r1=>
   cases rb with
   | @tuple l' o' vs' n' _ _ g2 t2 k2 r2=>
     have z1:vs.size=xs.length:=by simpa using SeqAt.ReadsAll.length _ _ _ r1
     have z2:vs'.size=ys.length:=by simpa using SeqAt.ReadsAll.length _ _ _ r2
     rw[PySem.W.dataLt_tuple,←PySem.W.firstLt_toks xs ys hal,←z1,←z2] at hq
     rw[oneLt'_eq]
     simp only[if_true]
     refine wpAny_bind (wpAny_cRoomFor (SeqAt.room_here hu) ?_)
     refine wpAny_bind (wpAny_callSpecialIfBound?_slot (T:= "tuple") ⟨_,g1,t1⟩ F.slot_tuple_lt (call_tup_lt (e:=SeqAt.pairEq xs ys) (r:=fun j=>PySem.W.dataLt (xs.getD j .none) (ys.getD j .none)) ⟨_,g1,t1,_,k1⟩ ⟨_,g2,t2,_,k2⟩ (fun j j1 j2=> ?_) (fun j j1 j2 hj=> ?_) ?_))
     ·have q:=PySem.W.eqAt_alikeAll xs ys A.in1 s vs.toList vs'.toList _ _ r1 r2 hal (SeqAt.room_in hu) j (by simpa using j1) (by simpa using j2)
      simpa using q
     ·have q:=PySem.W.rcLt_alikeAll xs ys A.in1 s vs.toList vs'.toList _ _ r1 r2 hal (SeqAt.room_in hu) j (by simpa using j1) (by simpa using j2) hj
      simpa using q
     ·exact wpAny_truthy_bool hq
theorem kind_empty {M:Model} {v0:Value} {vs:List Value} {ds:List PyData} {as:List Addr} {Q:SortKind→Shared→Prop} (r0:Reads s.heap v0 (.tuple []) as) (e:PySem.W.EachIs (fun v d=>∃as,Reads s.heap v d as) vs ds) (ht:∀d ∈ ds,∃xs,d= .tuple xs) (h2:1≤vs.length)
 (h:Q oneType' s):wpAny M A (keyKind' (v0::vs).toArray) Q E s:=by
 have first:∀ {v:Value} {xs:List PyData} {as:List Addr} {Q':Option Value→Shared→Prop},Reads s.heap v (.tuple xs) as→(∀ o,(xs= [] →o=none)→Q' o s)→wpAny M A (firstOfTuple' v) Q' E s:=fun {v xs as Q'} r q=>by
  cases r with
  | @tuple a o its n _ _ g t k r=>
    rw[PySem.W.kas_first_eq]
    have lk:PySem.W.Looks M s.heap (typeOf (.ref a)) (.type "tuple"):=t▸(PySem.W.Looks.ld g).andThen .now
    refine wpAny_bind (lk.here ?_)
    rw[if_neg (by decide)]
    refine wpAny_bind (PyProof.Rows.listItems_at g k (wpAny_pure (q _ fun z=> ?_)))
    subst z
    have:=SeqAt.ReadsAll.length _ _ _ r
    simp only[List.length_nil,Array.length_toList] at this
    simp[this]
 have rest:∀ {vs:List Value} {ds:List PyData} {Q':List (Option Value)→Shared→Prop},PySem.W.EachIs (fun v d=>∃as,Reads s.heap v d as) vs ds→(∀ d ∈ ds,∃xs,d= .tuple xs)→(∀ os:List (Option Value),Q' os s)→wpAny M A (vs.mapM firstOfTuple') Q' E s:=by
  intro vs ds Q' e
  induction e generalizing Q' with
  |nil=>intro _ q;rw[List.mapM_nil];exact wpAny_pure (q [])
  | @cons v d vs ds r t ih=>
    intro ht q
    obtain⟨as,r⟩:=r
    obtain⟨xs,rfl⟩:=ht d (List.mem_cons_self ..)
    rw[List.mapM_cons]
    exact wpAny_bind (first r fun o _=>wpAny_bind (ih (fun d hd=>ht d (List.mem_cons_of_mem _ hd)) fun os=>wpAny_pure (q (o::os))))
 have types:∀v ∈ v0::vs,PySem.W.Looks M s.heap (typeOf v) (.type "tuple"):=fun v hv=>by
  have one:∀ {v:Value} {xs:List PyData} {as:List Addr},Reads s.heap v (.tuple xs) as→PySem.W.Looks M s.heap (typeOf v) (.type "tuple"):=fun r=>PySem.W.looks_reads r
  rcases List.mem_cons.mp hv with rfl|hv
  ·exact one r0
  ·obtain⟨d,hd,as,r⟩:=e.left v hv
   obtain⟨xs,rfl⟩:=ht d hd
   exact one r
 rw[keyKind'_eq,List.mapM_toArray,map_eq_pure_bind]
 refine wpAny_bind (wpAny_bind ?_)
 rw[List.mapM_cons]
 refine wpAny_bind (first r0 fun o ho=> ?_)
 obtain rfl:=ho rfl
 refine wpAny_bind (rest e ht fun os=>wpAny_pure (wpAny_pure ?_))
 rw[if_neg (by simp),if_neg (by simp)]
 rw[oneTypeOnly'_eq,List.mapM_toArray,map_eq_pure_bind]
 refine wpAny_bind (wpAny_bind (wpAny_bind (PySem.W.kas_mapM (r:=Value.type "tuple") _ (fun v hv Q' q=>(types v hv).here q) (wpAny_pure ?_))))
 have al:((List.map (fun _=>Value.type "tuple") (v0::vs)).toArray.all fun x=>x==Value.type "tuple")=true:=by
  simp only[List.all_toArray,List.all_map,List.all_eq_true]
  intro _ _
  exact beq_self_eq_true _
 have a0:(List.map (fun _=>Value.type "tuple") (v0::vs)).toArray[0]? =some (Value.type "tuple"):=by simp
 rw[a0]
 simp only[al,if_true]
 exact wpAny_pure (wpAny_pure h)
theorem sorts_empty {vs:List Value} {ds:List PyData} (e:PySem.W.EachIs (fun v d=>∃as,Reads s.heap v d as) vs ds) (hal:AllAlike ds) (h0:ds.head? =some (.tuple [])) (ht:∀d ∈ ds,∃xs,d= .tuple xs) (hu:∀d,d ∈ ds→A.units+d.depth<cLine):SortsAt prog w A s (dataKind s.heap ds) vs:=by
 refine⟨fun v hv=> ?_,oneType',?_,fun h2 E Q hq=> ?_⟩
 ·obtain⟨d,hd,as,r⟩:=e.left v hv
  exact⟨_,dataKind_some hal hd r⟩
 ·intro E x y a b Q ha hb hq
  obtain⟨d,as,hd,ra,rfl⟩:=dataKind_inv ha
  obtain⟨d',as',hd',rb,rfl⟩:=dataKind_inv hb
  obtain⟨xs,rfl⟩:=ht d hd
  obtain⟨ys,rfl⟩:=ht d' hd'
  rw[keyLt'_oneType]
  exact oneLt_tup ra rb (by simpa[PySem.W.alike] using hal _ hd _ hd') (Nat.lt_of_le_of_lt (Nat.add_le_add_left (Nat.min_le_left _ _) _) (hu _ hd)) hq
 ·cases e with
  |nil=>exact absurd h2 (by simp)
  | @cons v d vs ds r t=>
    obtain⟨as,r⟩:=r
    simp only[List.head?_cons,Option.some.injEq] at h0
    subst h0
    exact kind_empty r t (fun d hd=>ht d (List.mem_cons_of_mem _ hd)) (by simpa using h2) hq
end
end L3
namespace L3
open PySem PySem.Spec PyProof.Rows L2
open PySem.W (SortsAt AllAlike Sortable dataKind EachIs)
def encD (d:D):PyData:=(toPy d).getD .none
def srtLe (a b:D):Bool:= !PySem.W.dataLt (encD b) (encD a)
def isTupP:PyData→Bool
 | .tuple _=>true
 | _=>false
def isTup1:PyData→Bool
 | .tuple (_::_)=>true
 | _=>false
def isOther:PyData→Bool
 | .tuple _=>false
 | .none=>false
 | _=>true
def isTup0:Option PyData→Bool
 |some (.tuple [])=>true
 | _=>false
def sortOk (l:List D):Bool:=decide (l.length≤sizeLine)&&(l.all fun d=>(toPy d).isSome&&decide ((encD d).depth≤40))&&(l.all fun a=>l.all fun b=>PySem.W.alike (encD a) (encD b))&&
 ((l.all fun d=>isTup1 (encD d)) || (l.all fun d=>isOther (encD d)) || (isTup0 (l.head?.map encD)&&l.all fun d=>isTupP (encD d)))
def sortL (l:List D):List D:=l.mergeSort srtLe
def sortedD:FN:=fun xs S=>match xs with
 | [x] =>match asL x S with
   |some l=>if sortOk l=true then .ok (.lst (sortL l)) S else .bad
   |none=> .bad
 | _=> .bad
theorem c_sorted:CalmN sortedD:=fun xs S=>by unfold sortedD;repeat' split
                                             all_goals trivial
section
variable {G:GC} {X:Cx} {w:Wd}
theorem each_rep {pins:List (Addr × Obj)} {σ :L2.St} {s:Shared} (hK:X.K=G.K) (I:Inv X pins σ w.H s):∀ {l:List D} {vs:List V} {us:List Value},RepL G w l vs→Vals vs us→(∀ d ∈ l,(toPy d).isSome=true)→
 EachIs (fun u d=>∃x,RelV x u∧Rep G w d x) us l∧EachIs (fun u d=>∃as,Reads s.heap u (encD d) as) us l
 | [],vs,us,r,v,_=>by
   simp only[RepL] at r
   subst r
   cases v
   exact⟨.nil, .nil⟩
 |d::l,vs,us,r,v,h=>by
  simp only[RepL] at r
  obtain⟨x,r',rfl,r1,r2⟩:=r
  cases v with
  |cons rx rv=>
   obtain⟨e1,e2⟩:=each_rep hK I r2 rv fun d hd=>h d (List.mem_cons_of_mem _ hd)
   obtain⟨y,hy⟩:=Option.isSome_iff_exists.mp (h d (List.mem_cons_self ..))
   obtain⟨p1,_⟩:=dp_of d x y r1 hy
   rw[← hK] at p1
   obtain⟨as,q⟩:=Dp.reads I y x _ p1 rx
   exact⟨.cons ⟨x,rx,r1⟩ e1, .cons ⟨as,by unfold encD;rw[hy];exact q⟩ e2⟩
theorem rep_each:∀ {l:List D} {us:List Value},EachIs (fun u d=>∃x,RelV x u∧Rep G w d x) us l→∃vs,Vals vs us∧RepL G w l vs
 | _,_, .nil=>⟨[], .nil,by simp[RepL]⟩
 | _,_, .cons ⟨x,rx,r1⟩ t=>by
   obtain⟨vs,v,r⟩:=rep_each t
   exact⟨x::vs, .cons rx v,by simp only[RepL];exact⟨x,vs,rfl,r1,r⟩⟩
theorem sort_kind {prog:Program} {ww:World} {A:Around} {s:Shared} {us:List Value} {l:List D} (h:sortOk l=true) (e:EachIs (fun u d=>∃as,Reads s.heap u (encD d) as) us l) (hu:A.units+42<cLine):SortsAt prog ww A s (dataKind s.heap (l.map encD)) us:=by
 simp only[sortOk,Bool.and_eq_true,List.all_eq_true,decide_eq_true_eq,Bool.or_eq_true] at h
 obtain⟨⟨⟨_,h1⟩,h2⟩,h3⟩:=h
 have al:AllAlike (l.map encD):=fun x hx y hy=>by
  obtain⟨a,ha,rfl⟩:=List.mem_map.mp hx
  obtain⟨b,hb,rfl⟩:=List.mem_map.mp hy
  exact h2 a ha b hb
 have dep:∀d ∈ l.map encD,A.units+d.depth<cLine:=fun x hx=>by
  obtain⟨a,ha,rfl⟩:=List.mem_map.mp hx
  have:=(h1 a ha).2
  omega
 have e':=PySem.W.each_map (R:=fun u d=>∃as,Reads s.heap u d as) encD e
 rcases h3 with(h3|h3)|⟨h3,h4⟩
 ·refine SortsAt.data e' al (.inl fun x hx=> ?_) dep
  obtain⟨a,ha,rfl⟩:=List.mem_map.mp hx
  have:=h3 a ha
  revert this
  cases encD a with
  |tuple xs=>cases xs with
   |nil=>intro h;simp[isTup1] at h
   |cons x r=>exact fun _=>⟨x,r,rfl⟩
  | _=>intro h;simp[isTup1] at h
 ·refine SortsAt.data e' al (.inr fun x hx=> ?_) dep
  obtain⟨a,ha,rfl⟩:=List.mem_map.mp hx
  have:=h3 a ha
  revert this
  cases encD a with
  |tuple xs=>intro h;simp[isOther] at h
  |none=>intro h;simp[isOther] at h
  | _=>exact fun _=>⟨by simp,by simp⟩
 ·refine sorts_empty e' al ?_ (fun x hx=> ?_) dep
  ·rw[List.head?_map]
   revert h3
   cases l.head?.map encD with
   |none=>intro h;simp[isTup0] at h
   |some x=>cases x with
    |tuple xs=>cases xs with
     |nil=>exact fun _=>rfl
     |cons _ _=>intro h;simp[isTup0] at h
    | _=>intro h;simp[isTup0] at h
  ·obtain⟨a,ha,rfl⟩:=List.mem_map.mp hx
   have:=h4 a ha
   revert this
   cases encD a with
   |tuple xs=>exact fun _=>⟨xs,rfl⟩
   | _=>intro h;simp[isTupP] at h
theorem o_sorted (hK:X.K=G.K) (hu:X.A.units+65<cLine):CallR X (.builtin "sorted") (rN G sortedD):=by
 intro pins s σ H xs us Q I r q
 obtain⟨w,ds,rfl,sr,rl,p⟩:=q
 unfold sortedD at p
 split at p
 ·rename_i x
  split at p
  ·rename_i l hl
   split at p
   ·rename_i ok
    simp only[RepL] at rl
    obtain⟨v,r',rfl,r1,rfl⟩:=rl
    obtain⟨a,vs,rfl,h1,r2⟩:=asL_rep sr r1 hl
    cases r with
    |cons rx rr=>
     cases rr
     cases rx
     obtain⟨its,rv,pl,_⟩:=I.list (SqL.of h1)
     have ok':=ok
     simp only[sortOk,Bool.and_eq_true,List.all_eq_true,decide_eq_true_eq] at ok'
     obtain⟨e1,e2⟩:=each_rep hK I r2 rv fun d hd=>(ok'.1.1.2 d hd).1
     have hz:its.length≤sizeLine:=by rw[e1.length];exact ok'.1.1.1
     have e3:EachIs (fun u d=>∃as,Reads (PySem.W.sortingHeap (PySem.W.copyHeap s.heap its) (s.heap.objs.size+1) its) u (encD d) as) its l:=e2.mono fun _ _ ⟨as,r⟩=>⟨as,PyProof.Rows.Reads.keeps (fun _ _=>PySem.W.sorting_copy_old) r⟩
     have al:AllAlike (l.map encD):=fun x hx y hy=>by
      obtain⟨a,ha,rfl⟩:=List.mem_map.mp hx
      obtain⟨b,hb,rfl⟩:=List.mem_map.mp hy
      exact ok'.1.2 a ha b hb
     refine PySem.W.sorted_vals pl.isList (sort_kind (s:= { s with heap:=PySem.W.sortingHeap (PySem.W.copyHeap s.heap its) (s.heap.objs.size+1) its }) ok e3 (by show X.A.units+2+42<cLine;omega)) hz ?_
     have out:=PySem.W.sortVals_data (R:=fun u d=>∃x,RelV x u∧Rep G w d x) false e1 e3 al
     have le:PySem.W.dataLe false encD=srtLe:=by
      funext a b
      rw[PySem.W.dataLe_eq]
      rfl
     rw[le] at out
     obtain⟨vs',v1,v2⟩:=rep_each out
     obtain⟨ep,g⟩:=sortedAll_at s.heap its (PySem.W.sortVals (dataKind (PySem.W.sortingHeap (PySem.W.copyHeap s.heap its) (s.heap.objs.size+1) its) (l.map encD)) false its its).toArray
     have nl:vs'.length≤sizeLine:=by
      rw[v2.length]
      have:(l.mergeSort srtLe).length=l.length:=List.length_mergeSort _
      rw[this]
      exact ok'.1.1.1
     refine⟨.ref (s.heap.objs.size+1),upd w.H (s.heap.objs.size+1) (.lst vs'),I.laid (t':=s.toks) (fun b o e=>sortedAll_old e) (Nat.le_succ _) ⟨nl,_,ep,v1,g⟩,rfl,?_⟩
     exact new_lst (S:=w.S) sr v2 p _ (I.hok.fresh (Nat.le_succ _))
   ·exact p.elim
  ·exact p.elim
 ·exact p.elim
end
end L3
namespace L3
open PySem PySem.Spec PyProof.Rows L2
def gat3 {α :Type} (src:List (Nat × Nat)) (us ms ws:List α):List α :=src.filterMap fun p=>(match p.1 with
 |0=>us
 |1=>ms
 | _=>ws)[p.2]?
theorem vals_at:∀ {vs:List V} {us:List Value},Vals vs us→∀i:Nat,(∃ v u,vs[i]? =some v∧us[i]? =some u∧RelV v u)∨(vs[i]? =none∧us[i]? =none)
 | _,_, .nil,i=> .inr ⟨rfl,rfl⟩
 | _,_, .cons h t,0=> .inl ⟨_,_,rfl,rfl,h⟩
 | _,_, .cons h t,i+1=>by simpa using vals_at t i
theorem reps_at {G:GC} {w:Wd} :∀ {ds:List D} {vs:List V},RepL G w ds vs→∀i:Nat,(∃ d v,ds[i]? =some d∧vs[i]? =some v∧Rep G w d v)∨(ds[i]? =none∧vs[i]? =none)
 | [],vs,h,i=>by simp only[RepL] at h;subst h;exact .inr ⟨rfl,rfl⟩
 |d::ds,vs,h,i=>by
  simp only[RepL] at h
  obtain⟨v,r,rfl,h1,h2⟩:=h
  cases i with
  |zero=>exact .inl ⟨_,_,rfl,rfl,h1⟩
  |succ i=>simpa using reps_at h2 i
theorem gat3_vals {vs mz zs:List V} {us mv ws:List Value} (h:Vals vs us) (g:Vals mz mv) (k:Vals zs ws):∀src:List (Nat × Nat),Vals (gat3 src vs mz zs) (gat3 src us mv ws)
 | [] => .nil
 |p::r=>by
  have ih:=gat3_vals h g k r
  have:(∃ v u,(match p.1 with|0=>vs|1=>mz|_=>zs)[p.2]? =some v∧(match p.1 with|0=>us|1=>mv|_=>ws)[p.2]? =some u∧RelV v u)∨((match p.1 with|0=>vs|1=>mz|_=>zs)[p.2]? =none∧(match p.1 with|0=>us|1=>mv|_=>ws)[p.2]? =none):=by
   split
   ·exact vals_at h _
   ·exact vals_at g _
   ·exact vals_at k _
  unfold gat3 at ih ⊢
  rcases this with⟨v,u,e1,e2,rv⟩|⟨e1,e2⟩
  ·rw[List.filterMap_cons,List.filterMap_cons,e1,e2];exact .cons rv ih
  ·rw[List.filterMap_cons,List.filterMap_cons,e1,e2];exact ih
theorem gat3_reps {G:GC} {w:Wd} {ds md es:List D} {vs mz zs:List V} (h:RepL G w ds vs) (g:RepL G w md mz) (k:RepL G w es zs):∀src:List (Nat × Nat),RepL G w (gat3 src ds md es) (gat3 src vs mz zs)
 | [] =>by simp[gat3,RepL]
 |p::r=>by
  have ih:=gat3_reps h g k r
  have:(∃ v u,(match p.1 with|0=>ds|1=>md|_=>es)[p.2]? =some v∧(match p.1 with|0=>vs|1=>mz|_=>zs)[p.2]? =some u∧Rep G w v u)∨((match p.1 with|0=>ds|1=>md|_=>es)[p.2]? =none∧(match p.1 with|0=>vs|1=>mz|_=>zs)[p.2]? =none):=by
   split
   ·exact reps_at h _
   ·exact reps_at g _
   ·exact reps_at k _
  unfold gat3 at ih ⊢
  rcases this with⟨v,u,e1,e2,rv⟩|⟨e1,e2⟩
  ·rw[List.filterMap_cons,List.filterMap_cons,e1,e2];simp only[RepL];exact⟨_,_,rfl,rv,ih⟩
  ·rw[List.filterMap_cons,List.filterMap_cons,e1,e2];exact ih
theorem kbd3_of {G:GC} {x qual:Str} {params:Arguments} {body:List Stmt} {scope:Scope} {kws:List (Str × V)} {f:Addr} {fd:FuncData} {ps:List Str} (F:FunD G.K x qual params body scope [] kws f fd) (n:Nat) (ks:List Str) (ms:List (Str × V)) (dds:List D) (src:List (Nat × Nat)) (hk:kws≠ []) (hms:∀q ∈ ms,q ∈ kws)
 (hd:∀w,RepL G w dds (ms.map (·.2)))
 (h:∀(D:Addr) (doc pm:Value) (an:Option Addr) (cdv ct:Value) (us mv ws:List Value),us.length=n→mv.length=ms.length→ws.length=ks.length→
   KwChain D ((ms.map (·.1)).zip mv) (bindArgs (PySem.W.fnOf x qual params body scope .none (.ref D) doc pm an cdv ct) ⟨us,ks.zip ws⟩) (ps.zip (gat3 src us mv ws))):Kbd G fd ps n ks (fun ds es=>gat3 src ds dds es):=by
 obtain⟨mv,hb⟩:=F.kbinds0 n ks ms (fun us mv ws=>gat3 src us mv ws) hk hms (fun a b c=>gat3_vals a b c src) h
 exact⟨_,_,hb,fun w ds es vs zs _ _ r1 r2=>gat3_reps r1 (hd w) r2 src⟩
end L3
namespace L3
open PySem PySem.Spec PyProof.Rows L2
def gMixL:List GD→List D→EnvD→Store→SR
 | [],[],env,S=> .nx env S
 |g::gs,d::ds,env,S=>match g d env S with
  | .nx env1 S1=>gMixL gs ds env1 S1
  | _=> .bad
 | _,_,_,_=> .bad
def gMix (gs:List GD):GD:=fun d env S=>match d with
 | .tup l=>gMixL gs l env S
 | _=> .bad
section
variable {X:Cx} {G:GC} {pos:Pos}
def tMix (G:GC) (gs:List GD):TGs:=fun vs σ H Q=>∃w env ds,w.H=H∧SRep G w∧ERep G w env σ ∧RepL G w ds vs∧
 match gMixL gs ds env w.S with
 | .nx env' S'=>∀ σ' w',WExt w w'→w'.S=S'→SRep G w'→ERep G w' env' σ'→Q σ' w'.H
 | _=>False
theorem q_mnil:PGs X [] (tMix G []):=pgsI pgs_nil fun v σ H Q q=>by
 obtain⟨w,env,ds,rfl,sr,er,rl,k⟩:=q
 cases ds with
 |nil=>
  simp only[RepL] at rl
  exact⟨rl,k σ w (.refl w) rfl sr er⟩
 |cons _ _=>exact k.elim
theorem q_mcons {e:Expr} {es:List Expr} {g:GD} {gs:List GD} (h1:PG X e (tG G g)) (h2:PGs X es (tMix G gs))
 (hs:(assignEach (e::es) X.env).map (·.2)=assign e X.env::(assignEach es X.env).map (·.2):=by rfl):PGs X (e::es) (tMix G (g::gs)):=pgsI (pgs_cons h1 h2 hs) fun v σ H Q q=>by
 obtain⟨w,env,ds,rfl,sr,er,rl,k⟩:=q
 cases ds with
 |nil=>exact k.elim
 |cons d ds=>
  simp only[RepL] at rl
  obtain⟨v,r,rfl,r1,r2⟩:=rl
  refine⟨v,r,rfl,w,env,d,rfl,sr,er,r1,?_⟩
  unfold gMixL at k
  cases hg:g d env w.S with
  |nx env1 S1=>
   rw[hg] at k
   simp only at k ⊢
   intro σ1 w1 x1 e1 s1 er1
   subst e1
   refine⟨w1,env1,ds,rfl,s1,er1,RepL.mono x1 _ _ r2,?_⟩
   cases hm:gMixL gs ds env1 w1.S with
   |nx env2 S2=>
    rw[hm] at k
    exact fun σ2 w2 x2 e2 s2 er2=>k σ2 w2 (x1.trans x2) e2 s2 er2
   | _=>rw[hm] at k;exact k.elim
  | _=>rw[hg] at k;exact k.elim
theorem gMixL_len:∀ {gs:List GD} {l:List D} {env env':EnvD} {S S':Store},gMixL gs l env S= .nx env' S'→l.length=gs.length
 | [],[],_,_,_,_,_=>rfl
 | [],_::_,_,_,_,_,e=>nomatch e
 | _::_,[],_,_,_,_,e=>nomatch e
 |g::gs,d::l,env,env',S,S',e=>by
  unfold gMixL at e
  split at e
  ·simp[gMixL_len e]
  ·cases e
theorem q_gmix {es:List Expr} {k:Nat} {gs:List GD} (hK:X.K=G.K) (hc:X.calm=true) (h:PGs X es (tMix G gs)) (hn:(assignEach es X.env).length=gs.length:=by rfl) (hst:(assignEach es X.env).findIdx? (·.1)=none:=by rfl):
 PG X (.Tuple es k pos) (tG G (gMix gs)):=pgI (pg_tup hc h hn hst) fun v σ H Q q=>by
 obtain⟨w,env,d,rfl,sr,er,rp,p⟩:=q
 cases d with
 |tup l=>
  simp only[Rep] at rp
  obtain⟨a,us,rfl,h1,rl⟩:=rp
  simp only[gMix] at p
  cases hm:gMixL gs l env w.S with
  |nx env' S'=>
   rw[hm] at p
   refine⟨a,us,rfl,by rw[hK];exact SqT_of h1,by rw[rl.length];exact gMixL_len hm,w,env,l,rfl,sr,er,rl,?_⟩
   rw[hm];exact p
  | _=>rw[hm] at p;exact p.elim
 | _=>exact p.elim
end
end L3
namespace L3
open PySem PySem.Spec PyProof.Rows L2
def eDctT0:ED:=fun _ S=> .ok (.obj S.length) (S++ [.dT []])
section
variable {X:Cx} {G:GC} {Wx:WX} {pos:Pos}
theorem q_dctT0:PE X (.Dict [] [] pos) (tE G eDctT0 Wx):=peI pe_dnewT fun σ H Q q=>by
 obtain⟨w,env,rfl,sr,er,p⟩:=q
 intro a ha
 obtain⟨x,s⟩:=new_obj (ob:= .dT []) (o:= .dT []) sr ha fun w' x e=>⟨[],e,rfl⟩
 exact p (.ref a) _ x rfl s (by simp only[Rep];exact⟨a,by rw[← sr.len];simp,rfl⟩)
theorem mergeK_snoc (kvs:List (Key × V)) (p:Key × V):mergeK [] (kvs++ [p])=putK (mergeK [] kvs) p.1 p.2:=by
 unfold mergeK;rw[List.foldl_append];rfl
theorem wipe_self {σ :L2.St} (vs:List Nat):L2.wipe (L2.wipe σ vs) vs=L2.wipe σ vs:=wipe_sub fun _ h=>h
theorem copy_tDc {K:PySem.W.Frag} {σ :L2.St} {H:Hp} {d:Addr} {od:Obj} {kvs:List (Key × V)} {s a b:Nat} {vs:List Nat} {Q:VK} (hs: σ[s]? =some (some (.ref d))) (hd:H d=some (.frz od (.dK kvs))) (hz:kvs.length≤sizeLine)
 (ha:a ∈ vs) (hb:b ∈ vs) (hab:a≠b) (la:a< σ.length) (lb:b< σ.length)
 (q:∀D H',H D=none→H' D=some (.dK (mergeK [] kvs))→(∀ c u,H c=some u→H' c=some u)→Q (.ref D) H'):
 tDc (iItems (tVar s)) (L2.gTup K 2 (gCons (L2.gName a) (gCons (L2.gName b) gNil))) tYes (tVar a) (tVar b) vs σ H Q:=by
 refine⟨_,hs,d,od,kvs,rfl,hd,fun D hD=> ?_⟩
 have nd:d≠D:=fun z=>by rw[z,hD] at hd;cases hd
 refine⟨fun i m H'=>m=kvs.length-i∧i≤kvs.length∧H' D=some (.dK (mergeK [] (kvs.take i)))∧(∀ c u,H c=some u→H' c=some u),⟨_,rfl,Nat.zero_le _,upd_same,fun c u e=>(upd_ne (fun z=>by rw[z,hD] at e;cases e)).trans e⟩,?_⟩
 rintro i m H1 ⟨rfl,hi,eD,gr⟩
 have ed:=gr d _ hd
 by_cases hlt:i<kvs.length
 ·refine .inr ⟨⟨ed,hlt⟩,fun H'=>H' D=some (.dK (mergeK [] (kvs.take (i+1))))∧(∀ c u,H c=some u→H' c=some u),fun H' h=>⟨kvs.length-(i+1),by omega,rfl,hlt,h⟩,?_⟩
  rintro x H2 ⟨T,k,v,e1,rfl,hT,rfl⟩
  have nT:D≠T:=fun z=>by rw[← z,eD] at hT;cases hT
  refine⟨T,[kV k,v],rfl, .inl (.inl upd_same),rfl,kV k,[v],rfl,v,[],rfl,rfl,?_⟩
  have lw:(L2.wipe σ vs).length= σ.length:=wipe_length σ vs
  refine⟨?_,kV k,?_,v,?_,mergeK [] (kvs.take i),k,rfl,(upd_ne nT).trans eD,?_,?_,?_⟩
  ·rw[wipe_set hb,wipe_set ha,wipe_self]
  ·rw[List.getElem?_set_ne (Ne.symm hab),List.getElem?_set_self (by rw[lw];exact la)]
  ·rw[List.getElem?_set_self (by rw[List.length_set,lw];exact lb)]
  ·have:=length_mergeK (kvs.take i) []
   simp only[List.length_nil,List.length_take] at this
   omega
  ·rw[upd_same]
   have e2:kvs.take (i+1)=kvs.take i++ [(k,v)] :=by
    rw[List.take_succ_eq_append_getElem hlt]
    have:kvs[i] =(k,v):=by rw[List.getElem?_eq_getElem hlt] at e1;simpa using e1
    rw[this]
   rw[e2,mergeK_snoc]
  ·intro c u e
   have nc:c≠D:=fun z=>by rw[z,hD] at e;cases e
   have nt:c≠T:=fun z=>by rw[z] at e;rw[gr T u e] at hT;cases hT
   exact(upd_ne nc).trans ((upd_ne nt).trans (gr c u e))
 ·have ei:i=kvs.length:=by omega
  subst ei
  rw[List.take_length] at eD
  exact .inl ⟨⟨ed,Nat.le_refl _⟩,q D H1 hD eD gr⟩
def sCopy (i s a b:Nat):SD:=fun env S=>match env[s]? with
 |some (some (.dic ks l))=>if ks.length=l.length∧ks.length≤sizeLine∧a<env.length∧b<env.length then .nx (env.set i (some (.obj S.length))) (S++ [.dK (mergeD [] (ks.zip l))]) else .bad
 | _=> .bad
theorem imp_copy {K:PySem.W.Frag} {i s a b:Nat} {vs:List Nat} (ha:a ∈ vs) (hb:b ∈ vs) (hab:a≠b) {D:Ends} {σ :L2.St} {H:Hp} (q:tS G (sCopy i s a b) Wx D σ H):
 tLock (tAsg (tDc (iItems (tVar s)) (L2.gTup K 2 (gCons (L2.gName a) (gCons (L2.gName b) gNil))) tYes (tVar a) (tVar b) vs) (L2.gName i)) D σ H:=by
 obtain⟨w,env,rfl,sr,er,p⟩:=q
 unfold sCopy at p
 split at p
 ·rename_i ks l hs
  split at p
  ·rename_i ok
   obtain⟨ok1,ok2,ok3,ok4⟩:=ok
   obtain⟨v,e1,r1⟩:=er.at' s _ hs
   simp only[Rep] at r1
   obtain⟨d,us,rfl,h1,nm,hl,h2⟩:=r1
   refine⟨d, .dK (ks.zip us),h1,trivial,fun od=> ?_⟩
   have lz:(ks.zip us).length≤sizeLine:=by rw[List.length_zip];omega
   refine copy_tDc (K:=K) e1 upd_same lz ha hb hab (by rw[← er.len];exact ok3) (by rw[← er.len];exact ok4) fun A H' hA eA gr=> ?_
   refine⟨gr d _ upd_same,?_⟩
   have nd:A≠d:=fun z=>by rw[z,upd_same] at hA;cases hA
   have wA:w.H A=none:=by rw[upd_ne nd] at hA;exact hA
   have k:∀c u,w.H c=some u→(fun c=>if c=A then none else upd H' d (.dK (ks.zip us)) c) c=some u:=fun c u e=>by
    have nc:c≠A:=fun z=>by rw[z,wA] at e;cases e
    show(if c=A then none else upd H' d (.dK (ks.zip us)) c)=some u
    rw[if_neg nc]
    by_cases hc:c=d
    ·subst hc;rw[upd_same];rw[h1] at e;exact e
    ·rw[upd_ne hc];exact gr c u ((upd_ne hc).trans e)
   obtain⟨x1,s1,_⟩:=grow_ext sr k
   obtain⟨x2,s2⟩:=new_obj (w:= { w with H:=fun c=>if c=A then none else upd H' d (.dK (ks.zip us)) c }) (p:=A) (ob:= .dK (mergeD [] (ks.zip l))) (o:= .dK (mergeK [] (ks.zip us))) s1 (if_pos rfl) fun w' xe e=>⟨_,e,RepKV.mono (x1.trans xe) _ _ (RepKV.merge (zip_kv hl h2) rfl)⟩
   have eH:upd (fun c=>if c=A then none else upd H' d (.dK (ks.zip us)) c) A (.dK (mergeK [] (ks.zip us)))=upd H' d (.dK (ks.zip us)):=by
    funext c
    by_cases hc:c=A
    ·subst hc;rw[upd_same,upd_ne nd,eA]
    ·rw[upd_ne hc,if_neg hc]
   have fin:=p (σ.set i (some (.ref A))) _ (x1.trans x2) rfl s2 ((er.mono (x1.trans x2)).set i (by simp only[Rep];exact⟨A,by show(w.mu++ [A])[w.S.length]? =some A;rw[← sr.len];simp,rfl⟩))
   rw[← eH]
   exact fin
  ·exact p.elim
 ·exact p.elim
theorem q_setCopy {i s a b:Nat} {y:Str} {py:Pos} {e kx vx:Expr} {elts:List Expr} {kk:Nat} {tpos apos cpos:Pos} {scope:Scope} {own:List (Str × Nat)} {spos:Pos} (hc:X.calm=true) (hN:X.N.Nodup) (hy:X.N[i]? =some y) (hyl:X.env.scope.names.lookup y=some .local)
 (hsw:swapsWith (.DictComp kx vx [⟨.Tuple elts kk tpos, .Call (.Attribute e "items" apos) [] [] cpos,[],0⟩] scope pos) (some (.Name y py)) spos.line X.env=pure true) (hx:PE X e (tVar s)) (ok:BlkOk X.N X.env.scope scope own)
 (hg:∀(s:Shared) (H:Hp) (C:Addr) (cl:List (Str × Addr)) (fp:List Addr),PG (X.blk s H scope (compEnvC scope cl C X.env) fp) (.Tuple elts kk tpos) (L2.gTup X.K 2 (gCons (L2.gName a) (gCons (L2.gName b) gNil))))
 (hk:∀(s:Shared) (H:Hp) (C:Addr) (cl:List (Str × Addr)) (fp:List Addr),PE (X.blk s H scope (compEnvC scope cl C X.env) fp) kx (tVar a))
 (he:∀(s:Shared) (H:Hp) (C:Addr) (cl:List (Str × Addr)) (fp:List Addr),PE (X.blk s H scope (compEnvC scope cl C X.env) fp) vx (tVar b))
 (ha:a ∈ own.map (·.2)) (hb:b ∈ own.map (·.2)) (hab:a≠b) (hbase:attributeBase e "items" X.env (eval e X.env)=eval e X.env:=by rfl) (hline:(apos.endLine==cpos.line)=true:=by rfl)
 (hs:∀x,foldedSetIterable (.Call (.Attribute e "items" apos) [] [] cpos) X.env x=pure x:=by intro _;rfl):
 PS X (.Assign [.Name y py] (.DictComp kx vx [⟨.Tuple elts kk tpos, .Call (.Attribute e "items" apos) [] [] cpos,[],0⟩] scope pos) spos) (tS G (sCopy i s a b) Wx):=
 psI (ps_lock (ps_setDc hc hN hy hyl hsw (pi_items hx hbase hline) ok hg (fun _ _ _ _ _=>pts_nil) hk he hs)) fun D σ H q=>imp_copy ha hb hab q
end
end L3
namespace L3
open PySem PySem.Spec PyProof.Rows L2
def pairK:D→Option (Key × D)
 | .tup [k,v] =>(keyOf k).map fun k=>(k,v)
 | _=>none
def pairKs:List D→Option (List (Key × D))
 | [] =>some []
 |d::l=>match pairK d,pairKs l with
  |some p,some r=>some (p::r)
  | _,_=>none
def dictPO:FN:=fun xs S=>match xs with
 | [x] =>match asL x S with
   |some l=>match pairKs l with
    |some kvs=> .ok (.obj S.length) (S++ [.dK (mergeD [] kvs)])
    |none=> .bad
   |none=> .bad
 | _=> .bad
theorem c_dictPO:CalmN dictPO:=fun xs S=>by unfold dictPO;repeat' split
                                            all_goals trivial
section
variable {G:GC} {X:Cx} {w:Wd}
theorem pairK_rep {d:D} {v:V} {p:Key × D} (r:Rep G w d v) (e:pairK d=some p):∃a y,v= .ref a∧SqT G.K w.H a [kV p.1,y] ∧Rep G w p.2 y:=by
 unfold pairK at e
 split at e
 ·rename_i k z
  cases hk:keyOf k with
  |none=>rw[hk] at e;cases e
  |some kk=>
   rw[hk] at e
   cases e
   simp only[Rep] at r
   obtain⟨a,vs,rfl,h1,rl⟩:=r
   simp only[RepL] at rl
   obtain⟨x,_,rfl,rx,y,_,rfl,ry,rfl⟩:=rl
   have ek:=keyOf_rep rx hk
   subst ek
   exact⟨a,y,rfl,SqT_of h1,ry⟩
 ·cases e
theorem pairKs_rep:∀ {l:List D} {vs:List V} {kvs:List (Key × D)},RepL G w l vs→pairKs l=some kvs→∃(ps:List Addr) (kus:List (Key × V)),vs=ps.map V.ref∧Paired (fun p kv=>SqT G.K w.H p [kV kv.1,kv.2]) ps kus∧RepKV G w kvs kus
 | [],vs,kvs,r,e=>by
   simp only[RepL] at r
   subst r
   cases e
   exact⟨[],[],rfl, .nil,rfl⟩
 |d::l,vs,kvs,r,e=>by
  simp only[RepL] at r
  obtain⟨v,r',rfl,r1,r2⟩:=r
  simp only[pairKs] at e
  split at e
  ·rename_i p q e1 e2
   cases e
   obtain⟨a,y,rfl,h1,h2⟩:=pairK_rep r1 e1
   obtain⟨ps,kus,rfl,h3,h4⟩:=pairKs_rep r2 e2
   exact⟨a::ps,(p.1,y)::kus,rfl, .cons h1 h3,y,kus,rfl,h2,h4⟩
  ·cases e
theorem o_dictPO (hc:X.calm=true) (hK:X.K=G.K):CallR X (.type "dict") (rN G dictPO):=caI2 (call_dictP hc) fun xs H Q q=>by
 obtain⟨w,ds,rfl,sr,rl,p⟩:=q
 unfold dictPO at p
 split at p
 ·rename_i x
  split at p
  ·rename_i l hl
   split at p
   ·rename_i kvs hk
    simp only[RepL] at rl
    obtain⟨v,r',rfl,rx,rfl⟩:=rl
    obtain⟨a,vs,rfl,h1,h2⟩:=asL_rep sr rx hl
    obtain⟨ps,kus,rfl,h3,h4⟩:=pairKs_rep h2 hk
    refine⟨a,ps,kus,rfl,SqL.of h1,by rw[hK];exact h3,fun p' hp=> ?_⟩
    obtain⟨x1,s1⟩:=new_obj (o:= .dK (mergeK [] kus)) (ob:= .dK (mergeD [] kvs)) sr hp fun w' xe e=>⟨_,e,RepKV.mono xe _ _ (RepKV.merge h4 rfl)⟩
    refine p (.ref p') _ x1 rfl s1 ?_
    show ∃a,(w.mu++ [p'])[w.S.length]? =some a∧_
    exact⟨p',by rw[← sr.len];simp,rfl⟩
   ·exact p.elim
  ·exact p.elim
 ·exact p.elim
def isNonD:F2:=fun x y S=>match y with
 | .non=>match x with
   | .non=> .ok (.bl true) S
   | .glb _=> .bad
   | _=> .ok (.bl false) S
 | _=> .bad
theorem c_isNon:Calm2 isNonD:=fun x y S=>by unfold isNonD;repeat' split
                                            all_goals trivial
def isN:D→Bool
 | .non=>true
 | _=>false
theorem non_of {d:D} {v:V} (r:Rep G w d v) (hg:∀x,d≠ .glb x):decide (v= .non)=isN d:=by
 cases d with
 |non=>simp only[Rep] at r;subst r;rfl
 |glb x=>exact absurd rfl (hg x)
 |bl _=>simp only[Rep] at r;subst r;rfl
 |int _=>simp only[Rep] at r;subst r;rfl
 |str _=>simp only[Rep] at r;subst r;rfl
 |tup _=>simp only[Rep] at r;obtain⟨a,_,rfl,_⟩:=r;rfl
 |lst _=>simp only[Rep] at r;obtain⟨a,_,rfl,_⟩:=r;rfl
 |dic _ _=>simp only[Rep] at r;obtain⟨a,_,rfl,_⟩:=r;rfl
 |obj _=>simp only[Rep] at r;obtain⟨a,_,rfl⟩:=r;rfl
 |ty _=>simp only[Rep] at r;subst r;rfl
 |wtp _=>simp only[Rep] at r;obtain⟨a,rfl,_⟩:=r;rfl
 |scr _=>simp only[Rep] at r;obtain⟨a,rfl,_⟩:=r;rfl
 |kd _ _=>simp only[Rep] at r;obtain⟨a,_,_,_,_,rfl,_⟩:=r;rfl
 |xcp _ _ _=>simp only[Rep] at r;obtain⟨a,_,_,_,rfl,_⟩:=r;rfl
 |lam _ _=>simp only[Rep] at r;rw[r.1];rfl
theorem op2I' {op:CmpOp} {r r':V→V→Hp→VK→Prop} (h:OpR X (compareOp op) r) (i:∀x y H Q,r' x y H Q→r x y H Q):OpR X (compareOp op) r':=fun pins s σ H x y v u Q I rx ry q=>h pins s σ H x y v u Q I rx ry (i _ _ _ _ q)
theorem o_isNon:OpR X (compareOp .Is) (r2 G isNonD):=op2I' op_isN fun x y H Q q=>by
 obtain⟨w,d1,d2,rfl,sr,r1,r2,p⟩:=q
 unfold isNonD at p
 split at p
 ·simp only[Rep] at r2
  refine⟨r2,?_⟩
  split at p
  ·rw[non_of r1 (by simp)];exact Post.ret (Ra:=Rep G) sr (by simp[Rep,isN]) p
  ·exact p.elim
  ·rename_i h1 h2
   have hf:isN d1=false:=by
    cases d1 with
    |non=>exact absurd rfl h1
    | _=>rfl
   rw[non_of r1 h2,hf];exact Post.ret (Ra:=Rep G) sr (by simp[Rep]) p
 ·exact p.elim
end
end L3
namespace L3
open PySem PySem.Spec PyProof.Rows L2
def ne0D:F2:=fun x y S=>match y with
 | .lst [] =>match asL x S with
   |some l=> .ok (.bl (!l.isEmpty)) S
   |none=> .bad
 | _=> .bad
theorem c_ne0:Calm2 ne0D:=fun x y S=>by unfold ne0D;repeat' split
                                        all_goals trivial
section
variable {G:GC} {X:Cx} {w:Wd}
theorem o_ne0 (hu:X.A.units+64<cLine):OpR X (compareOp .NotEq) (r2 G ne0D):=by
 intro pins s σ H x y v u Q I rx ry q
 obtain⟨w,d1,d2,rfl,sr,r1,r2,p⟩:=q
 unfold ne0D at p
 split at p
 ·split at p
  ·rename_i l hl
   obtain⟨a,vs,rfl,h1,l1⟩:=asL_rep sr r1 hl
   simp only[Rep,RepL] at r2
   obtain⟨b,us,rfl,h2,_,rfl⟩:=r2
   cases rx
   cases ry
   obtain⟨its,rv,tp,_⟩:=I.list (SqL.of h1)
   obtain⟨its2,rv2,tp2,_⟩:=I.list (SqL.of h2)
   cases rv2
   have h3:=rv.length
   have h4:=l1.length
   cases l with
   |nil=>
    have e:its= [] :=List.length_eq_zero_iff.mp (by rw[← h3,h4];rfl)
    subst e
    refine SeqAt.RcNeAt.lists (e:=fun _=>true) tp.isList tp2.isList rfl (by omega) (fun j h1 h2=>absurd h2 (by simp)) X.prog X.w X.xe (EP X pins σ Q) ?_
    exact⟨.bl _,w.H,I,rfl,Post.ret (Ra:=Rep G) sr (by simp[Rep]) p⟩
   |cons d l=>
    refine SeqAt.RcNeAt.lists_lengths tp.isList tp2.isList (by
     have:its.length=l.length+1:=by rw[← h3,h4];rfl
     simp[this]) (by omega) X.prog X.w X.xe (EP X pins σ Q) ?_
    exact⟨.bl _,w.H,I,rfl,Post.ret (Ra:=Rep G) sr (by simp[Rep]) p⟩
  ·exact p.elim
 ·exact p.elim
end
end L3
namespace L3
open PySem PySem.Spec PyProof.Rows L2
open PySem.W (SortsAt AllAlike Sortable dataKind EachIs)
def keysD (kvs:List (Key × D)):List D:=kvs.map fun x=>keyD x.1
def sortedAD:FN:=fun xs S=>match xs with
 | [x] =>match dkAt x S with
   |some kvs=>if sortOk (keysD kvs)=true then .ok (.lst (sortL (keysD kvs))) S else .bad
   |none=>sortedD [x] S
 | _=> .bad
theorem c_sortedA:CalmN sortedAD:=fun xs S=>by
 unfold sortedAD
 split
 ·split
  ·split<;>trivial
  ·exact c_sorted _ S
 ·trivial
section
variable {G:GC} {X:Cx} {w:Wd}
theorem keys_rep:∀(kvs:List (Key × D)) (vs:List (Key × V)),RepKV G w kvs vs→RepL G w (keysD kvs) (vs.map fun p=>kV p.1)
 | [],vs,h=>by
   have e:vs= [] :=h
   subst e
   simp[keysD,RepL]
 |q::kvs,vs,h=>by
  obtain⟨v,y,e,h1,h2⟩:=h
  subst e
  simp only[keysD,List.map_cons,RepL]
  exact⟨_,_,rfl,keyD_rep _,keys_rep kvs y h2⟩
theorem o_sortedA (hcalm:X.calm=true) (hK:X.K=G.K) (hu:X.A.units+65<cLine):CallR X (.builtin "sorted") (rN G sortedAD):=by
 intro pins s σ H xs us Q I r q
 have q0:=q
 obtain⟨w,ds,rfl,sr,rl,p⟩:=q
 unfold sortedAD at p
 split at p
 case h_2=>exact p.elim
 rename_i x
 cases hk:dkAt x w.S with
 |none=>
  rw[hk] at p
  exact o_sorted hK hu pins s σ w.H xs us Q I r ⟨w,[x],rfl,sr,rl,p⟩
 |some kvs=>
  rw[hk] at p
  simp only at p
  split at p
  case isFalse=>exact p.elim
  rename_i ok
  simp only[RepL] at rl
  obtain⟨v,r',rfl,r1,rfl⟩:=rl
  obtain⟨a,vs,rfl,ha,h2⟩:=dkAt_rep sr r1 hk
  cases r with
  |cons rx rr=>
  cases rr
  cases rx
  obtain⟨z,lo,xs,rel,dd⟩:=dk_rd I.hok (.inl ha)
  obtain⟨ep,hat⟩:=dd.dictAt
  have lk:vs.length=xs.length:=rel.length
  have ek:(vs.map fun kv=>kV kv.1)=xs.map fun p=>kV p.1:=by
   have e:=congrArg (List.map kV) rel.keys
   rw[List.map_map,List.map_map] at e
   exact e
  refine PySem.Calls.call_function_entry kind_sorted plain_sorted entry_sorted (args_sorted1 _) ?_
  unfold Builtin.«sorted»
  refine wpAny_bind (m:=checkCount "sorted" 1 1 _) (wpAny_pure ?_)
  refine wpAny_bind (PySem.W.kdu_collect (A:=X.A.in1) (PySem.W.kdl_dict (knd:=mixKind X.prog X.w) (kvs:=xs) (ep:=ep) lo) (I.ok.hd hcalm) hat (by rw[← lk];exact z) fun h' tk acc hk' hacc=> ?_)
  have hv:Vals (vs.map fun kv=>kV kv.1) acc.toList:=by
   rw[ek]
   exact keys_at (by rw[Array.length_toList];exact hacc.1) fun j v e=>hacc.2 j v (by rw[← Array.getElem?_toList];exact e)
  have J:Inv X pins σ w.H { s with heap:=h',toks:=tk } :=I.kept hk'
  have rp:=keys_rep kvs vs h2
  have ok':=ok
  simp only[sortOk,Bool.and_eq_true,List.all_eq_true,decide_eq_true_eq] at ok'
  obtain⟨e1,e2⟩:=each_rep hK J rp hv fun d hd=>(ok'.1.1.2 d hd).1
  have hzl:acc.toList.length≤sizeLine:=by rw[e1.length];exact ok'.1.1.1
  refine wpAny_bind (wpAny_newList ?_ hzl)
  have hob:(h'.push { cls:= .type "list",data:= .seq acc.toList.toArray }).get? h'.objs.size=some (seqObj "list" acc.toList.toArray 0):=Heap.get?_push_size _ rfl
  have ne0:∀b o,h'.get? b=some o→b≠h'.objs.size:=fun b o e=>Nat.ne_of_lt (Heap.lt_size e)
  have e3:EachIs (fun u d=>∃as',Reads (PySem.W.sortingHeap (h'.push { cls:= .type "list",data:= .seq acc.toList.toArray }) h'.objs.size acc.toList) u (encD d) as') acc.toList (keysD kvs):=
   e2.mono fun _ _ ⟨as',r⟩=>⟨as',PyProof.Rows.Reads.keeps (fun b o e=>PySem.W.sortingHeap_old (ne0 b o e) (Heap.get?_push_of_some _ e)) r⟩
  have al:AllAlike ((keysD kvs).map encD):=fun x hx y hy=>by
   obtain⟨a,ha,rfl⟩:=List.mem_map.mp hx
   obtain⟨b,hb,rfl⟩:=List.mem_map.mp hy
   exact ok'.1.2 a ha b hb
  refine wpAny_bind (wpAny_holding (wpAny_call_entry_kw (kw:= []) (A:=X.A.in1) PySem.F.slot_list_sort ⟨_,hob,rfl⟩ PySem.F.entry_list_sort ?_ (args_list_sort _)))
  refine PySem.W.list_sort_vals (s:= { s with heap:=h'.push { cls:= .type "list",data:= .seq acc.toList.toArray },toks:=tk }) hob (sort_kind (s:= { s with heap:=PySem.W.sortingHeap (h'.push { cls:= .type "list",data:= .seq acc.toList.toArray }) h'.objs.size acc.toList,toks:=tk }) ok e3 (by show X.A.units+2+42<cLine;omega)) hzl ?_
  have out:=PySem.W.sortVals_data (R:=fun u d=>∃x,RelV x u∧Rep G w d x) false e1 e3 al
  have le:PySem.W.dataLe false encD=srtLe:=by
   funext a b
   rw[PySem.W.dataLe_eq]
   rfl
  rw[le] at out
  obtain⟨vs',v1,v2⟩:=rep_each out
  obtain⟨ep',g⟩:=sortedHeap_at (out:=(PySem.W.sortVals (dataKind (PySem.W.sortingHeap (h'.push { cls:= .type "list",data:= .seq acc.toList.toArray }) h'.objs.size acc.toList) ((keysD kvs).map encD)) false acc.toList acc.toList).toArray) hob
  have nl:vs'.length≤sizeLine:=by
   rw[v2.length]
   have:((keysD kvs).mergeSort srtLe).length=(keysD kvs).length:=List.length_mergeSort _
   rw[this]
   exact ok'.1.1.1
  refine⟨_,rfl,wpAny_pure ⟨_,rfl,?_⟩⟩
  refine⟨.ref h'.objs.size,upd w.H h'.objs.size (.lst vs'),J.laid (t':=tk) (fun b o e=> ?_) (Nat.le_refl _) ⟨nl,_,ep',v1,g⟩,rfl,?_⟩
  ·rw[sortedHeap_old (ne0 b o e) (by rw[size_push'];exact Nat.lt_succ_of_lt (Heap.lt_size e))]
   exact Heap.get?_push_of_some _ e
  ·exact new_lst (S:=w.S) sr v2 p _ (J.hok.fresh (Nat.le_refl _))
end
end L3
namespace L3
open PySem PySem.Spec PyProof.Rows L2
section
variable {P:Program} {w:World} {A:Around} {E:Value→Shared→Prop} {s:Shared}
theorem nodup_le {α :Type} :∀ {l m:List α},l.Nodup→(∀ x ∈ l,x ∈ m)→l.length≤m.length
 | [],m,_,_=>Nat.zero_le _
 |x::l,m,h,s=>by
  rw[List.nodup_cons] at h
  obtain⟨a,b,rfl⟩:=List.append_of_mem (s x List.mem_cons_self)
  have:=nodup_le (l:=l) (m:=a++b) h.2 fun y hy=>by
   have:=s y (List.mem_cons_of_mem _ hy)
   rw[List.mem_append,List.mem_cons] at this
   rw[List.mem_append]
   rcases this with h'|rfl|h'
   ·exact .inl h'
   ·exact absurd hy h.1
   ·exact .inr h'
  simp at this ⊢;omega
end
end L3
namespace L3
open PySem PySem.Spec PyProof.Rows L2
def tIf (c a b:TD):TD:=fun env S=>(c env S).bind fun k S1=>match k with
 |true=>a env S1
 |false=>b env S1
end L3
namespace L3.BS
open PySem PySem.Spec PyProof.Rows L2
def Mk (m:Nat):Prop:=m=7∨m=31∨m=127∨m=511∨m=2047
def geo:Nat→Nat
 |0=>0
 |b+1=>5*geo b+1
theorem geo_pow:∀b,4*geo b+1=5 ^ b
 |0=>rfl
 |b+1=>by
  have h:=geo_pow b
  rw[Nat.pow_succ,←h]
  show 4*(5*geo b+1)+1=_
  omega
theorem geo_eq (b:Nat):geo b=(5 ^ b-1) / 4:=by
 have h:=geo_pow b
 omega
theorem lcg_geo (m:Nat):∀b,lcgN m b=geo b % (m+1)
 |0=>(Nat.zero_mod _).symm
 |b+1=>by
  have h:=lcg_geo m b
  have e:lcgN m (b+1)=(lcgN m b*5+1) % (m+1):=rfl
  rw[e,h,Nat.add_mod,Nat.mul_mod,Nat.mod_mod,←Nat.mul_mod,←Nat.add_mod]
  show(geo b*5+1) % (m+1)=(5*geo b+1) % (m+1)
  rw[Nat.mul_comm]
def bitsS (g:Nat→Nat):Nat→Nat→Nat
 |lo,0=>1 <<< g lo
 |lo,k+1=>bitsS g lo k ||| bitsS g (lo+2 ^ k) k
theorem bitsS_some (g:Nat→Nat) {j:Nat} :∀(k lo:Nat),(bitsS g lo k).testBit j=true→∃b,lo≤b∧b<lo+2 ^ k∧g b=j
 |0,lo,h=>by
  have h':(1 <<< g lo).testBit j=true:=h
  rw[Nat.testBit_shiftLeft,Bool.and_eq_true,decide_eq_true_eq] at h'
  have h2:(1:Nat).testBit (j-g lo)=true:=h'.2
  have h1:j ≥ g lo:=h'.1
  have h3:j-g lo=0:=by
   rw[Nat.testBit_one_eq_true_iff_self_eq_zero] at h2
   exact h2
  exact⟨lo,Nat.le_refl _,by show lo<lo+1;omega,by omega⟩
 |k+1,lo,h=>by
  have h':(bitsS g lo k ||| bitsS g (lo+2 ^ k) k).testBit j=true:=h
  rw[Nat.testBit_or,Bool.or_eq_true] at h'
  have hp:2 ^ (k+1)=2 ^ k+2 ^ k:=by rw[Nat.pow_succ];omega
  rcases h' with z|z
  ·obtain⟨b,b1,b2,b3⟩:=bitsS_some g k lo z
   exact⟨b,b1,by omega,b3⟩
  ·obtain⟨b,b1,b2,b3⟩:=bitsS_some g k (lo+2 ^ k) z
   exact⟨b,by omega,by omega,b3⟩
def rnd (m b:Nat):Nat:=(5 ^ b-1) / 4 % (m+1)
theorem lcg_rnd (m b:Nat):lcgN m b=rnd m b:=by rw[lcg_geo,geo_eq];rfl
def wholeAt (m k:Nat):Bool:=bitsS (rnd m) 0 k==2 ^ (m+1)-1&&rnd m (m+1)==0&&m+1==2 ^ k
theorem w7:wholeAt 7 3=true:=by decide +kernel
theorem w31:wholeAt 31 5=true:=by decide +kernel
theorem w127:wholeAt 127 7=true:=by decide +kernel
theorem w511:wholeAt 511 9=true:=by decide +kernel
theorem w2047:wholeAt 2047 11=true:=by decide +kernel
theorem whole_of {m:Nat} (h:Mk m):∃k,wholeAt m k=true:=by
 rcases h with rfl|rfl|rfl|rfl|rfl
 ·exact⟨_,w7⟩
 ·exact⟨_,w31⟩
 ·exact⟨_,w127⟩
 ·exact⟨_,w511⟩
 ·exact⟨_,w2047⟩
theorem Mk.odd {m:Nat} (h:Mk m):m % 2=1:=by
 rcases h with rfl|rfl|rfl|rfl|rfl<;>rfl
theorem Mk.le {m:Nat} (h:Mk m):m≤2047:=by
 unfold Mk at h
 omega
theorem round_all {m:Nat} (h:Mk m):(∀ j,j≤m→∃b,b≤m∧lcgN m b=j)∧lcgN m (m+1)=0:=by
 obtain⟨k,hw⟩:=whole_of h
 unfold wholeAt at hw
 rw[Bool.and_eq_true,Bool.and_eq_true,beq_iff_eq,beq_iff_eq,beq_iff_eq] at hw
 obtain⟨⟨h1,h2⟩,h3⟩:=hw
 refine⟨fun j hj=> ?_,by rw[lcg_rnd];exact h2⟩
 have hb:(bitsS (rnd m) 0 k).testBit j=true:=by
  rw[h1,Nat.testBit_two_pow_sub_one]
  exact decide_eq_true (by omega)
 obtain⟨b,_,b2,b3⟩:=bitsS_some _ k 0 hb
 exact⟨b,by omega,by rw[lcg_rnd];exact b3⟩
theorem round_back {m:Nat} (h:Mk m):∀n,lcgN m (n+(m+1))=lcgN m n
 |0=>by rw[Nat.zero_add];exact(round_all h).2
 |n+1=>by
  have ih:=round_back h n
  have e:n+1+(m+1)=n+(m+1)+1:=by omega
  rw[e]
  have e1:∀z,lcgN m (z+1)=(lcgN m z*5+1) % (m+1):=fun _=>rfl
  rw[e1,e1,ih]
theorem meets {m:Nat} (hm:Mk m) (h:Int) {j:Nat} (hj:j≤m):∃n,n≤m+12∧runI m (SetTable.bits h) n=j:=by
 obtain⟨all,_⟩:=round_all hm
 obtain⟨a,a1,a2⟩:=all _ (runI_le m (SetTable.bits h) 12)
 obtain⟨b,b1,b2⟩:=all j hj
 have step:∀k,runI m (SetTable.bits h) (12+k)=lcgN m (a+k):=fun k=>by
  rw[runI_tail (bits_lt h),←a2,lcgN_add]
 by_cases c:a≤b
 ·refine⟨12+(b-a),by omega,?_⟩
  rw[step]
  have e:a+(b-a)=b:=by omega
  rw[e,b2]
 ·refine⟨12+(b+(m+1)-a),by omega,?_⟩
  rw[step]
  have e:a+(b+(m+1)-a)=b+(m+1):=by omega
  rw[e,round_back hm,b2]
theorem meets_way {m:Nat} (hm:Mk m) (h:Int) {j:Nat} (hj:j≤m):∃k,k<10*SetTable.turns m∧way m h k=j:=by
 obtain⟨n,n1,n2⟩:=meets hm h hj
 obtain⟨k,k1,k2⟩:=run_nth m (SetTable.bits h) n
 refine⟨k,?_,by unfold way;rw[k2];exact n2⟩
 have:SetTable.turns m ≥ m+13:=by unfold SetTable.turns;omega
 omega
theorem way_in {m:Nat} (h:Int) (k:Nat):way m h k≤m:=by
 have b:=nth_in (m:=m) k (runAt m (SetTable.bits h % (m+1)) (SetTable.bits h)) (by
  have hi:SetTable.bits h % (m+1)<m+1:=Nat.mod_lt _ (Nat.succ_pos m)
  have r:=runEnd_bd (m:=m) (i:=SetTable.bits h % (m+1)) (by omega)
  unfold runAt
  dsimp only
  omega)
 unfold way
 omega
structure Tab (t:SetTable) (hs:List Int):Prop where
 ris:Ris t.place.toList
 dm:t.dummies= #[]
 sz:t.place.size=hs.length
 mok:Mk t.mask
 bd:∀x ∈ t.place.toList,x≤t.mask
 reach:∀(i:Nat) (h:Int) (j:Nat),hs[i]? =some h→t.place.toList[i]? =some j→∃k,way t.mask h k=j∧∀k',k'<k→way t.mask h k' ∈ t.place.toList
section
variable {t:SetTable} {hs:List Int}
theorem Tab.len (T:Tab t hs):t.place.toList.length=hs.length:=T.sz
theorem Tab.first (T:Tab t hs) (hl:hs.length≤t.mask) (h:Int):∃K,K<10*SetTable.turns t.mask∧way t.mask h K ∉ t.place.toList∧∀k,k<K→way t.mask h k ∈ t.place.toList:=by
 obtain⟨j,j1,j2⟩:=st_missing t.place.toList (t.mask+1) (by rw[T.len];omega)
 obtain⟨k0,c1,c2⟩:=meets_way T.mok h (show j≤t.mask by omega)
 obtain⟨K,d1,d2,d3⟩:=st_least (p:=fun k=>¬way t.mask h k ∈ t.place.toList) k0 (by rw[c2];exact j2)
 exact⟨K,by omega,d2,fun k hk=>Classical.not_not.mp (d3 k hk)⟩
theorem Tab.before (T:Tab t hs) {h:Int} {K i j:Nat} (hK:way t.mask h K ∉ t.place.toList) (hi:hs[i]? =some h) (hj:t.place.toList[i]? =some j):∃k,k<K∧way t.mask h k=j:=by
 obtain⟨k,e1,e2⟩:=T.reach i h j hi hj
 have hm:j ∈ t.place.toList:=List.mem_of_getElem? hj
 have ne:k≠K:=fun z=>hK (by rw[← z,e1];exact hm)
 have nl: ¬K<k:=fun z=>hK (e2 K z)
 exact⟨k,by omega,e1⟩
theorem Tab.put (T:Tab t hs) {h:Int} {K:Nat} (hK:way t.mask h K ∉ t.place.toList) (hb:∀k,k<K→way t.mask h k ∈ t.place.toList):
 ∃p,(t.put (way t.mask h K)).2=p∧SetTable.below t.place (way t.mask h K)=p∧p≤hs.length∧Tab (t.put (way t.mask h K)).1 (hs.take p++h::hs.drop p)∧(t.put (way t.mask h K)).1.fill=hs.length+1:=by
 generalize hj:way t.mask h K=j at hK ⊢
 have cut:=(below_cut T.ris j).1
 generalize hp:SetTable.below t.place j=p at cut
 have cut':p≤t.place.toList.length:=cut
 have cuth:p≤hs.length:=by rw[T.len] at cut';exact cut'
 have ePl:(t.put j).1.place.toList=t.place.toList.take p++j::t.place.toList.drop p:=by rw[put_place,hp]
 have eSz:(t.put j).1.place.size=hs.length+1:=by
  have q:=congrArg List.length ePl
  rw[len_ins _ cut',T.len] at q
  exact q
 have keepIn:∀x,x ∈ t.place.toList→x ∈ (t.put j).1.place.toList:=fun x hx=>by rw[ePl];exact mem_ins.mpr (.inr hx)
 have free:t.place[p]? ≠some j:=fun z=>hK (by
  rw[← Array.getElem?_toList] at z
  exact List.mem_of_getElem? z)
 refine⟨p,hp,rfl,cuth,?_,by show(t.put j).1.place.size+(t.put j).1.dummies.size=_;rw[eSz,put_dm T.dm];rfl⟩
 refine { ris:= ?_,dm:=put_dm T.dm j,sz:=by rw[eSz,len_ins _ cuth],mok:=T.mok,bd:=fun x hx=> ?_,reach:=fun i h' j' q1 q2=> ?_ }
 ·have r:=ris_insert T.ris (j:=j) (by rw[hp];exact free)
  exact r
 ·rw[ePl,mem_ins] at hx
  rcases hx with rfl|hx
  ·show _≤t.mask
   rw[← hj];exact way_in h K
  ·exact T.bd x hx
 ·rw[ePl,tins_get _ cut'] at q2
  rw[tins_get _ cuth] at q1
  have old:∀i0,hs[i0]? =some h'→t.place.toList[i0]? =some j'→∃k,way t.mask h' k=j'∧∀k',k'<k→way t.mask h' k' ∈ (t.put j).1.place.toList:=fun i0 z1 z2=>by
   obtain⟨k,y1,y2⟩:=T.reach i0 h' j' z1 z2
   exact⟨k,y1,fun k' hk=>keepIn _ (y2 k' hk)⟩
  by_cases c1:i<p
  ·rw[if_pos c1] at q1 q2
   exact old i q1 q2
  ·by_cases c2:i=p
   ·rw[if_neg c1,if_pos c2] at q1 q2
    cases q1
    cases q2
    exact⟨K,hj,fun k' hk=>keepIn _ (hb k' hk)⟩
   ·rw[if_neg c1,if_neg c2] at q1 q2
    exact old (i-1) q1 q2
theorem Tab.putAll (T:Tab t hs) {h:Int} {K:Nat} (hK:way t.mask h K ∉ t.place.toList) (hb:∀k,k<K→way t.mask h k ∈ t.place.toList) {j p:Nat} (hj:way t.mask h K=j) (hp:SetTable.below t.place j=p):
 (t.put j).2=p∧p≤hs.length∧Tab (t.put j).1 (hs.take p++h::hs.drop p)∧(t.put j).1.mask=t.mask∧(t.put j).1.led=t.led∧(t.put j).1.fill=hs.length+1:=by
 obtain⟨p',q1,q2,q3,q4,q5⟩:=T.put hK hb
 rw[hj] at q1 q2 q4 q5
 obtain rfl:p'=p:=q2.symm.trans hp
 exact⟨q1,q3,q4,rfl,rfl,q5⟩
end
theorem free_at {m:Nat} (hm:Mk m) (own:Array (Option Nat)) (h:Int) {j:Nat} (hj:j≤m) (hf:oAt own j=none):
 ∃K,SetTable.layClean.free m own (SetTable.turns m) (SetTable.bits h % (m+1)) (SetTable.bits h)=some (way m h K)∧oAt own (way m h K)=none∧∀k,k<K→∃x,oAt own (way m h k)=some x:=by
 obtain⟨n,n1,n2⟩:=meets hm h hj
 generalize hN:off m (SetTable.bits h % (m+1)) (SetTable.bits h) n=N
 have eN:way m h N=j:=by
  unfold way
  rw[← hN,nth_off,itL_run]
  exact n2
 obtain⟨K,k1,k2,k3⟩:=st_least (p:=fun k=>oAt own (way m h k)=none) N (by rw[eN];exact hf)
 have occ:∀k,k<K→∃x,oAt own (way m h k)=some x:=fun k hk=>by
  cases e:oAt own (way m h k) with
  |some x=>exact⟨x,rfl⟩
  |none=>exact(k3 k hk e).elim
 have tb:SetTable.turns m ≥ m+13:=by unfold SetTable.turns;omega
 refine⟨K,free_spec m own _ n _ _ K (by omega) (by rw[hN];exact k1) (fun k hk=> ?_) (by rw[show oAt own _=none from k2];rfl),k2,occ⟩
 obtain⟨x,hx⟩:=occ k hk
 rw[show oAt own (nth m (runAt m (SetTable.bits h % (m+1)) (SetTable.bits h)) k).j=some x from hx]
 rfl
theorem own_more {m:Nat} (hm:Mk m) {done:List Int} {own:Array (Option Nat)} (W:Own m done own) (hl:done.length≤m) (h:Int):
 ∃j,SetTable.layClean.free m own (SetTable.turns m) (SetTable.bits h % (m+1)) (SetTable.bits h)=some j∧Own m (done++ [h]) (own.setIfInBounds j (some done.length)):=by
 obtain⟨ps,ps1,ps2⟩:=W.ps
 obtain⟨j0,j1,j2⟩:=st_missing ps (m+1) (by omega)
 have e0:oAt own j0=none:=Classical.byContradiction fun z=>j2 (ps2 j0 (by omega) z)
 obtain⟨K,f1,f2,f3⟩:=free_at hm own h (show j0≤m by omega) e0
 generalize hj:way m h K=j at f1 f2
 have hjm:j≤m:=hj▸way_in h K
 have at_j:oAt (own.setIfInBounds j (some done.length)) j=some done.length:=oAt_set_self _ (by rw[W.sz];omega)
 have at_o:∀i,i≠j→oAt (own.setIfInBounds j (some done.length)) i=oAt own i:=fun i hi=>oAt_set_ne _ hi
 have full:∀i,oAt own i≠none→oAt (own.setIfInBounds j (some done.length)) i≠none:=fun i hi=>by
  by_cases c:i=j
  ·subst c;exact absurd f2 hi
  ·rw[at_o i c];exact hi
 refine⟨j,f1,{ sz:=by simpa using W.sz,at_:=fun i k hi e=> ?_,all:=fun k hk=> ?_,ps:=⟨j::ps,by simp[ps1],fun i hi e=> ?_⟩ }⟩
 ·by_cases c:i=j
  ·subst c
   rw[at_j] at e
   cases e
   exact⟨h,K,by simp,hj,fun k' hk'=>full _ (by obtain⟨x,hx⟩:=f3 k' hk';rw[hx];simp)⟩
  ·rw[at_o i c] at e
   obtain⟨h',K',q1,q2,q3⟩:=W.at_ i k hi e
   have lt:=(List.getElem?_eq_some_iff.mp q1).1
   exact⟨h',K',by rw[List.getElem?_append_left lt];exact q1,q2,fun k' hk'=>full _ (q3 k' hk')⟩
 ·rw[List.length_append] at hk
  by_cases c:k=done.length
  ·exact⟨j,hjm,by rw[at_j,c]⟩
  ·obtain⟨i,i1,i2⟩:=W.all k (by simp at hk;omega)
   refine⟨i,i1,?_⟩
   rw[at_o i (fun z=>by rw[z,f2] at i2;cases i2)]
   exact i2
 ·by_cases c:i=j
  ·rw[c];exact List.mem_cons_self
  ·rw[at_o i c] at e
   exact List.mem_cons_of_mem _ (ps2 i hi e)
theorem own_fold {m:Nat} (hm:Mk m):∀(more done:List Int) (own:Array (Option Nat)),Own m done own→done.length+more.length≤m→∃own',more.foldl (stepF m) (some (own,done.length))=some (own',done.length+more.length)∧Own m (done++more) own'
 | [],done,own,W,_=>⟨own,rfl,by rw[List.append_nil];exact W⟩
 |h::more,done,own,W,hl=>by
  have hl':done.length+(more.length+1)≤m:=hl
  obtain⟨j,e,W1⟩:=own_more hm W (by omega) h
  have e1:(done++ [h]).length=done.length+1:=by simp
  obtain⟨own',f,W2⟩:=own_fold hm more (done++ [h]) _ W1 (by omega)
  refine⟨own',?_,by simpa using W2⟩
  rw[List.foldl_cons,stepF_some e,←e1,f,e1]
  simp
  omega
theorem relay (t:SetTable) {hs:Array Int} {wanted M:Nat} (hw:SetTable.sizeAbove wanted-1=M) (hM:Mk M) (hn:hs.size≤M):
 ∃t' order,t.relaid hs wanted=some (t',order)∧order.toList.Perm (List.range hs.size)∧Tab t' (order.toList.map fun i=>hs.getD i 0)∧t'.mask=M∧t'.led=t.led:=by
 obtain⟨own,f,W⟩:=own_fold hM hs.toList [] _ (Own.init M) (by simpa using hn)
 have ec:SetTable.layClean M hs=some own:=by
  rw[layClean_eq]
  have f':hs.toList.foldl (stepF M) (some (Array.replicate (M+1) none,0))=some (own,0+hs.toList.length):=f
  rw[f']
  rfl
 have W':Own M hs.toList own:=W
 have hr:=relaid_eq t hs wanted
 rw[hw,ec] at hr
 obtain⟨r1,r2⟩:=ris_live (fun j=>own.getD j none) (List.range (M+1)) (List.pairwise_lt_range)
 have r1':Ris ((liveOf M own).map (·.1)):=r1
 have uniq:((liveOf M own).map (·.1)).Nodup:=r1'.imp Nat.ne_of_lt
 have hl:(liveOf M own).length=hs.size:=by
  obtain⟨ps,p1,p2⟩:=W'.ps
  have up:=nat_nodup_len _ ps uniq fun x hx=>by
   obtain⟨⟨y,k⟩,hq,rfl⟩:=List.mem_map.mp hx
   obtain⟨b1,b2⟩:=(mem_live W'.sz).mp hq
   exact p2 y b1 (by rw[b2];simp)
  have dn:=nat_nodup_len (List.range hs.size) ((liveOf M own).map (·.2)) List.nodup_range fun k hk=>by
   obtain⟨i,b1,b2⟩:=W'.all k (by simpa using hk)
   exact List.mem_map.mpr ⟨_,(mem_live W'.sz).mpr ⟨b1,b2⟩,rfl⟩
  simp only[List.length_map,List.length_range] at up dn
  have p1':ps.length=hs.size:=p1
  omega
 refine⟨_,_,hr,?_,?_,rfl,rfl⟩
 ·refine perm_range hs.size _ (by simpa using hl) fun k hk=> ?_
  obtain⟨i,b1,b2⟩:=W'.all k (by simpa using hk)
  exact List.mem_map.mpr ⟨_,(mem_live W'.sz).mpr ⟨b1,b2⟩,rfl⟩
 ·refine { ris:=r1',dm:=rfl,sz:=by simp[tabOf],mok:=hM,bd:=fun x hx=>by have:=List.mem_range.mp (r2 x hx);show x≤M;omega,reach:=fun i h j q1 q2=> ?_ }
  have q1':(((liveOf M own).map (·.2)).map fun i=>hs.getD i 0)[i]? =some h:=q1
  have q2':((liveOf M own).map (·.1))[i]? =some j:=q2
  rw[List.getElem?_map,Option.map_eq_some_iff] at q2'
  obtain⟨⟨y,k⟩,z1,rfl⟩:=q2'
  rw[List.getElem?_map,List.getElem?_map,z1] at q1'
  have q1'':hs.getD k 0=h:=Option.some.inj q1'
  obtain⟨b1,b2⟩:=(mem_live W'.sz).mp (List.mem_of_getElem? z1)
  obtain⟨h0,K,a1,a2,a3⟩:=W'.at_ y k b1 b2
  have e0:hs.getD k 0=h0:=by
   rw[Array.getD_eq_getD_getElem?,←Array.getElem?_toList,a1]
   rfl
  obtain rfl:h0=h:=e0.symm.trans q1''
  refine⟨K,a2,fun k' hk'=> ?_⟩
  cases z:oAt own (way M h0 k') with
  |none=>exact(a3 k' hk' z).elim
  |some k2=>exact List.mem_map.mpr ⟨(way M h0 k',k2),(mem_live W'.sz).mpr ⟨way_in h0 k',z⟩,rfl⟩
theorem grow5:SetTable.sizeAbove (SetTable.grown 5)=32:=by decide +kernel
theorem grow19:SetTable.sizeAbove (SetTable.grown 19)=128:=by decide +kernel
theorem grow77:SetTable.sizeAbove (SetTable.grown 77)=512:=by decide +kernel
theorem grow307:SetTable.sizeAbove (SetTable.grown 307)=2048:=by decide +kernel
theorem grows {m n:Nat} (hm:Mk m) (h:n*5<m*3) (h2:(n+1)*5 ≥ m*3) (hn:n<1200):∃M,SetTable.sizeAbove (SetTable.grown (n+1))=M+1∧Mk M∧(n+1)*5<M*3:=by
 rcases hm with rfl|rfl|rfl|rfl|rfl
 ·obtain rfl:n=4:=by omega
  exact⟨31,grow5, .inr (.inl rfl),by omega⟩
 ·obtain rfl:n=18:=by omega
  exact⟨127,grow19, .inr (.inr (.inl rfl)),by omega⟩
 ·obtain rfl:n=76:=by omega
  exact⟨511,grow77, .inr (.inr (.inr (.inl rfl))),by omega⟩
 ·obtain rfl:n=306:=by omega
  exact⟨2047,grow307, .inr (.inr (.inr (.inr rfl))),by omega⟩
 ·omega
end L3.BS
namespace L3
open PySem PySem.Spec PyProof.Rows L2
section
variable {P:Program} {w:World} {K:Type} [DecidableEq K]
structure SetQ (knd:HeapKind P w K):Prop where
 cls:∀ {A:Around} {E:Value→Shared→Prop} {s:Shared} {k:K} {a:Addr} {Q:Bool→Shared→Prop},knd.is s.heap k a→Q false s→wpAny (model P w) A (ofAClassStatement 8 (.ref a)) Q E s
 byv:∀ {A:Around} {E:Value→Shared→Prop} {s:Shared} {k:K} {a:Addr} {Q:Bool→Shared→Prop},knd.is s.heap k a→(∀ b,Q b s)→wpAny (model P w) A (hashByValue 8 (.ref a)) Q E s
 stay:∀ {h h':Heap} {k:K} {a d:Addr} {o:Obj} {es:Array (Int × Value)} {ep:Nat} {t:SetTable},knd.is h k a→h.get? d=some o→o.data= .set es ep t→Heap.SameBut d h h'→knd.is h' k a
 mono:∀ {h h':Heap} {k:K} {a:Addr},knd.is h k a→(∀ b o,h.get? b=some o→h'.get? b=some o)→knd.is h' k a
variable {knd:HeapKind P w K} {A:Around} {E:Value→Shared→Prop} {s:Shared}
theorem seenH (q:SetQ knd) {k:K} {b:Addr} {Q:Bool→Shared→Prop} (hk:knd.is s.heap k b) {ys:List Value} (hy:∀y ∈ ys,∃k' c,y=Value.ref c∧knd.is s.heap k' c) (h:Q false s):
 wpAny (model P w) A (searchCouldBeSeen (.ref b) ys) Q E s:=by
 unfold searchCouldBeSeen
 refine wpAny_bind ?_
 refine wpAny_forIn_list _ (fun rest r s'=>r.1=none∧s'=s∧∀y ∈ rest,∃k' c,y=Value.ref c∧knd.is s.heap k' c) _ ?_ ?_ _ _ ⟨rfl,rfl,hy⟩
 ·rintro v rest r s' ⟨hr,rfl,hall⟩
  obtain⟨k',c,rfl,hc⟩:=hall v List.mem_cons_self
  have back:∀y ∈ rest,∃k' c,y=Value.ref c∧knd.is s'.heap k' c:=fun u hu=>hall u (List.mem_cons_of_mem _ hu)
  dsimp only
  by_cases hv:(b==c || (carriedByValue (.ref b)&&carriedByValue (.ref c)))=true
  ·refine wp_if_pos hv ?_
   exact wpAny_pure ⟨rfl,rfl,back⟩
  ·refine wp_if_neg hv ?_
   refine wpAny_bind (knd.quiet hk ?_)
   simp only[Bool.not_true,Bool.false_eq_true,if_false]
   refine wpAny_bind (knd.quiet hc ?_)
   simp only[Bool.not_true,Bool.false_eq_true,if_false]
   refine wpAny_bind (q.cls hk ?_)
   simp only[Bool.false_eq_true,if_false]
   refine wpAny_bind (q.cls hc ?_)
   simp only[Bool.false_eq_true,if_false]
   exact wpAny_pure ⟨rfl,rfl,back⟩
 ·rintro⟨r1,r2⟩ s' ⟨hr,rfl,_⟩
  simp only at hr
  subst hr
  exact wpAny_pure h
def rowsH (knd:HeapKind P w K) (L:List (Addr × K)):List (Int × Value):=L.map fun p=>(knd.hash p.2,Value.ref p.1)
structure SetH (knd:HeapKind P w K) (h:Heap) (a:Addr) (L:List (Addr × K)) (es:Array (Int × Value)) (ep:Nat) (t:SetTable):Prop where
 ob:∃o,h.get? a=some o∧o.ExactSet∧o.data= .set es ep t
 rows:es.toList=rowsH knd L
 tab:BS.Tab t (L.map fun p=>knd.hash p.2)
 nd:(L.map (·.2)).Nodup
 mem:∀p ∈ L,knd.is h p.2 p.1
 led:w.params.followText "set-order" =true∨t.led=true
 room:L.length*5<t.mask*3
 few:L.length<1200
variable {a:Addr} {L:List (Addr × K)} {es:Array (Int × Value)} {ep:Nat} {t:SetTable}
theorem rowsH_len (hr:es.toList=rowsH knd L):es.size=L.length:=by
 have h:=congrArg List.length hr
 rw[rowsH,Array.length_toList,List.length_map] at h
 exact h
theorem rowsH_at (hr:es.toList=rowsH knd L) {i:Nat} {p:Addr × K} (h:L[i]? =some p):es[i]? =some (knd.hash p.2,Value.ref p.1):=by
 rw[← Array.getElem?_toList,hr,rowsH,List.getElem?_map,h] <;>rfl
theorem fits_of (h1:t.place.size=es.size) (h2:t.dummies= #[]) (h3:es.size≤t.mask):t.fits es.size=true:=by
 unfold SetTable.fits SetTable.fill
 rw[h2,Bool.and_eq_true,beq_iff_eq,decide_eq_true_eq]
 show t.place.size=es.size∧t.place.size+0≤t.mask
 omega
theorem SetH.size (R:SetH knd s.heap a L es ep t):es.size=L.length:=rowsH_len R.rows
theorem SetH.fits (R:SetH knd s.heap a L es ep t):t.fits es.size=true:=by
 have h1:=R.tab.sz
 rw[List.length_map] at h1
 have h2:=R.size
 have h3:=R.room
 exact fits_of (by omega) R.tab.dm (by omega)
theorem SetH.gw (R:SetH knd s.heap a L es ep t): ¬t.gaveWay=true:=by
 unfold SetTable.gaveWay
 rw[R.tab.mok.odd]
 decide
theorem no_dummy (m:Nat):∀(n:Nat) (p:SetTable.Probe),p.dummy=none→(nth m p n).dummy=none
 |0,_,h=>h
 |n+1,p,h=>no_dummy m n (adv m p) (by unfold adv;split<;>exact h)
theorem searchH (q:SetQ knd) (R:SetH knd s.heap a L es ep t) {x:Addr} {k:K} (hx:knd.is s.heap k x) (hu:knd.room A) {N:Nat} (hNf:N<10*SetTable.turns t.mask)
 (hN:way t.mask (knd.hash k) N ∉ t.place.toList) (hNb:∀c,c<N→way t.mask (knd.hash k) c ∈ t.place.toList) {Q:SetFound→Shared→Prop}
 (hin:k ∈ L.map (·.2)→Q (.there none) s) (hout:k ∉ L.map (·.2)→Q (.free (way t.mask (knd.hash k) N) false) s):
 ∀(f c:Nat) (stand:Option SetTable.Probe),stand.getD (t.probeStart (knd.hash k))=nth t.mask (runAt t.mask (SetTable.bits (knd.hash k) % (t.mask+1)) (SetTable.bits (knd.hash k))) c→c≤N→N-c<f→
  (∀ (i:Nat) p,L[i]? =some p→p.2=k→∃c',c≤c'∧c'<N∧t.place.toList[i]? =some (way t.mask (knd.hash k) c'))→
  wpAny (model P w) A (setSearchFrom a (.ref x) (knd.hash k) true f stand) Q E s
 |0,c,stand,_,_,hf,_=>absurd hf (Nat.not_lt_zero _)
 |f+1,c,stand,hst,hc,hf,hre=>by
  obtain⟨o,ho,hex,hd⟩:=R.ob
  rw[setSearchFrom_succ]
  refine wpAny_bind (wpAny_setState_of ho hd R.fits ?_)
  dsimp only
  refine wp_if_neg R.gw ?_
  try refine wpAny_bind (wpAny_pure ?_)
  generalize hB:runAt t.mask (SetTable.bits (knd.hash k) % (t.mask+1)) (SetTable.bits (knd.hash k))=B at hst
  have eW:∀c,way t.mask (knd.hash k) c=(nth t.mask B c).j:=fun c=>by rw[← hB]
  have hnd:(nth t.mask B c).dummy=none:=no_dummy _ _ _ (by rw[← hB];rfl)
  have sh:∀z,nth t.mask (nth t.mask B c) z=nth t.mask B (c+z):=fun z=>(nth_add t.mask c _ z).symm
  have e1:∀z,(nth t.mask (nth t.mask B c) z).j=way t.mask (knd.hash k) (c+z):=fun z=>by rw[sh,eW]
  have spec:=go_spec t R.tab.ris R.tab.dm (fun i=>(es[i]?.map (·.1)).getD 0) (knd.hash k) (10*SetTable.turns t.mask) (N-c) _ hnd (by omega)
   (fun z hz=>by rw[e1];exact hNb (c+z) (by omega)) (by rw[e1,show c+(N-c)=N by omega];exact hN)
  have hashAt:∀(i:Nat) p,L[i]? =some p→(fun i=>(es[i]?.map (·.1)).getD 0) i=knd.hash p.2:=fun i p hp=>by
   show(es[i]?.map (·.1)).getD 0=_
   rw[rowsH_at R.rows hp] <;>rfl
  rcases spec with⟨z,i,hz,hi,hh,hno,hpr⟩|⟨hno,hpr⟩
  ·have hpr':t.probe (fun i=>(es[i]?.map (·.1)).getD 0) (knd.hash k) (stand.getD (t.probeStart (knd.hash k)))=some (.candidate (way t.mask (knd.hash k) (c+z)) i (nth t.mask B (c+(z+1)))):=by
    rw[hst,←e1,←sh]
    exact hpr
   rw[hpr']
   dsimp only
   rw[e1] at hi
   have hil:i<L.length:=by
    have h1:i<t.place.toList.length:=(List.getElem?_eq_some_iff.mp hi).1
    have h2:=R.tab.sz
    rw[List.length_map] at h2
    rw[Array.length_toList] at h1
    omega
   have hp:L[i]? =some L[i] :=List.getElem?_eq_getElem hil
   generalize hpe:L[i] =p at hp
   have hmem:p ∈ L:=List.mem_of_getElem? hp
   have hpt:=R.mem p hmem
   have rest:wpAny (model P w) A (searchRest a (.ref x) (knd.hash k) true f es t (way t.mask (knd.hash k) (c+z)) i (nth t.mask B (c+(z+1)))) Q E s:=by
    unfold searchRest
    rw[rowsH_at R.rows hp]
    dsimp only
    refine wpAny_bind (wpAny_holding (knd.eqBool hu hpt hx ?_))
    refine wpAny_bind (wpAny_setState_of ho hd R.fits ?_)
    dsimp only
    by_cases hkk:p.2=k
    ·refine wp_if_pos (by simp[hkk]) ?_
     exact wpAny_pure (hin (List.mem_map.mpr ⟨p,hmem,hkk⟩))
    ·refine wp_if_neg (by simp[hkk]) ?_
     try refine wpAny_bind (wpAny_pure ?_)
     rw[sameMem]
     dsimp only
     have hsl:t.slot (way t.mask (knd.hash k) (c+z))= .live i:=slot_live R.tab.ris hi
     simp only[if_true,hsl,rowsH_at R.rows hp]
     refine wpAny_bind (wpAny_isSame_ref_self (wpAny_bind (wpAny_pure ?_)))
     simp only[if_true]
     refine wp_if_neg (by simp[hkk]) ?_
     refine searchH q R hx hu hNf hN hNb hin hout f (c+(z+1)) _ (by rw[hB];rfl) (by omega) (by omega) fun i0 p0 h0 hk0=> ?_
     obtain⟨c',a1,a2,a3⟩:=hre i0 p0 h0 hk0
     refine⟨c',?_,a2,a3⟩
     rcases Nat.lt_or_ge c' (c+z) with y|y
     ·exfalso
      refine hno (c'-c) i0 (by omega) (by rw[e1,show c+(c'-c)=c' by omega];exact a3) ?_
      exact(hashAt i0 p0 h0).trans (congrArg knd.hash hk0)
     ·rcases Nat.lt_or_ge (c+z) c' with u|u
      ·omega
      ·exfalso
       have ec:c'=c+z:=Nat.le_antisymm u y
       rw[ec] at a3
       have s0:=slot_live R.tab.ris a3
       rw[hsl] at s0
       injection s0 with s0
       rw[← s0,hp] at h0
       exact hkk ((congrArg Prod.snd (Option.some.inj h0)).trans hk0)
   by_cases hl:t.led=true
   ·refine wp_if_neg (by simp[hl]) ?_
    try refine wpAny_bind (wpAny_pure ?_)
    exact rest
   ·refine wp_if_pos (by simp[hl]) ?_
    refine wpAny_bind (seenH q hx (fun y hy=> ?_) ?_)
    ·obtain⟨e,he,ee⟩:=List.mem_map.mp hy
     have he1:e ∈ es∧e.1=knd.hash k:=by simpa using he
     have he2:e ∈ es.toList:=by simpa using he1.1
     rw[R.rows] at he2
     obtain⟨p2,hp2,e2⟩:=List.mem_map.mp he2
     exact⟨p2.2,p2.1,by rw[← ee,←e2],R.mem p2 hp2⟩
    ·refine wp_if_neg (by decide) ?_
     try refine wpAny_bind (wpAny_pure ?_)
     exact rest
  ·have hpr':t.probe (fun i=>(es[i]?.map (·.1)).getD 0) (knd.hash k) (stand.getD (t.probeStart (knd.hash k)))=some (.empty (way t.mask (knd.hash k) N) none):=by
    have e2:way t.mask (knd.hash k) N=(nth t.mask (nth t.mask B c) (N-c)).j:=by rw[e1,show c+(N-c)=N by omega]
    rw[hst,e2]
    exact hpr
   rw[hpr']
   dsimp only
   refine wpAny_pure (hout fun hm=> ?_)
   obtain⟨p0,h0,hk0⟩:=List.mem_map.mp hm
   obtain⟨i0,hi0,e0⟩:=List.getElem_of_mem h0
   have h00:L[i0]? =some p0:=by rw[List.getElem?_eq_getElem hi0,e0]
   obtain⟨c',a1,a2,a3⟩:=hre i0 p0 h00 hk0
   refine hno (c'-c) i0 (by omega) (by rw[e1,show c+(c'-c)=c' by omega];exact a3) ?_
   exact(hashAt i0 p0 h00).trans (congrArg knd.hash hk0)
theorem search_all (q:SetQ knd) (R:SetH knd s.heap a L es ep t) {x:Addr} {k:K} (hx:knd.is s.heap k x) (hu:knd.room A) {Q:SetFound→Shared→Prop}
 (hin:k ∈ L.map (·.2)→Q (.there none) s)
 (hout:∀N,k ∉ L.map (·.2)→way t.mask (knd.hash k) N ∉ t.place.toList→(∀ c,c<N→way t.mask (knd.hash k) c ∈ t.place.toList)→Q (.free (way t.mask (knd.hash k) N) false) s):
 wpAny (model P w) A (setSearch a (.ref x) (knd.hash k) true) Q E s:=by
 have hroom:=R.room
 obtain⟨N,hNf,hN,hNb⟩:=R.tab.first (by rw[List.length_map];omega) (knd.hash k)
 have hbig:N<100000:=by
  have:10*SetTable.turns t.mask<100000:=by
   have:=R.tab.mok.le
   unfold SetTable.turns
   omega
  omega
 unfold setSearch
 refine searchH q R hx hu hNf hN hNb hin (fun hn=>hout N hn hN hNb) 100000 0 none rfl (Nat.zero_le _) (by omega) fun i p hp hk=> ?_
 have hi:(L.map fun p=>knd.hash p.2)[i]? =some (knd.hash k):=by rw[List.getElem?_map,hp,←hk] <;>rfl
 have hil:i<t.place.toList.length:=by
  have h1:i<L.length:=(List.getElem?_eq_some_iff.mp hp).1
  have h2:=R.tab.sz
  rw[List.length_map] at h2
  rw[Array.length_toList]
  omega
 have hj:=List.getElem?_eq_getElem hil
 obtain⟨c,hc,e⟩:=R.tab.before hN hi hj
 exact⟨c,Nat.zero_le _,hc,by rw[hj,e]⟩
theorem rowsH_order (order:Array Nat) (hr:es.toList=rowsH knd L) (hp:order.toList.Perm (List.range L.length)):
 ∃L2,(order.filterMap (es[·]?)).toList=rowsH knd L2∧L2.Perm L∧(L2.map fun p=>knd.hash p.2)=order.toList.map fun i=>(es.map (·.1)).getD i 0:=by
 have hsz:=rowsH_len hr
 have ent:∀i (h:i<L.length),es[i]? =some (knd.hash (L[i]).2,Value.ref (L[i]).1):=fun i h=>rowsH_at hr (List.getElem?_eq_getElem h)
 have key:∀l:List Nat,(∀ i ∈ l,i<L.length)→(l.filterMap fun i=>es[i]?)=rowsH knd (l.filterMap fun i=>L[i]?)∧((l.filterMap fun i=>L[i]?).map fun p=>knd.hash p.2)=l.map fun i=>(es.map (·.1)).getD i 0:=by
  intro l
  induction l with
  |nil=>intro _;exact⟨rfl,rfl⟩
  |cons i l ih=>
   intro hl
   have hi:=hl i List.mem_cons_self
   obtain⟨e1,e3⟩:=ih fun j hj=>hl j (List.mem_cons_of_mem _ hj)
   rw[List.filterMap_cons_some (ent i hi),List.filterMap_cons_some (List.getElem?_eq_getElem hi),e1]
   refine⟨rfl,?_⟩
   rw[List.map_cons,List.map_cons,e3]
   have e5:(es.map (·.1))[i]? =some (knd.hash (L[i]).2):=by rw[Array.getElem?_map,ent i hi] <;>rfl
   have e4:(es.map (·.1)).getD i 0=knd.hash (L[i]).2:=by simp[Array.getD_eq_getD_getElem?,e5]
   rw[e4]
 obtain⟨e1,e3⟩:=key order.toList fun i hi=>List.mem_range.mp (hp.mem_iff.mp hi)
 refine⟨_,by first|(rw[Array.toList_filterMap];exact e1)|simpa using e1,?_,e3⟩
 have h1:=hp.filterMap fun i=>L[i]?
 have h2:∀n,n≤L.length→(List.range n).filterMap (fun i=>L[i]?)=L.take n:=by
  intro n
  induction n with
  |zero=>intro _;rfl
  |succ n ih=>
   intro hn
   have hlt:n<L.length:=hn
   rw[List.range_succ,List.filterMap_append,ih (Nat.le_of_lt hlt),List.take_succ,List.getElem?_eq_getElem hlt]
   rw[List.filterMap_cons_some (List.getElem?_eq_getElem hlt)] <;>rfl
 rw[h2 L.length (Nat.le_refl _),List.take_length] at h1
 exact h1
theorem relayH (q:SetQ knd) {o:Obj} (ho:s.heap.get? a=some o) (hex:o.ExactSet) (hd:o.data= .set es ep t) (hrows:es.toList=rowsH knd L) (hsz:t.place.size=es.size) (hdm:t.dummies= #[]) (hfl:es.size≤t.mask)
 (nd:(L.map (·.2)).Nodup) (mem:∀p ∈ L,knd.is s.heap p.2 p.1) (ld:w.params.followText "set-order" =true∨t.led=true) (few:L.length<1200) {wanted M:Nat}
 (hw:SetTable.sizeAbove wanted-1=M) (hM:BS.Mk M) (hw2:SetTable.sizeAbove wanted≤2048) (hn:L.length*5<M*3) {Q:Unit→Shared→Prop}
 (hQ:∀h' L' es' ep' t',Heap.SameBut a s.heap h'→SetH knd h' a L' es' ep' t'→L'.Perm L→Q () { s with heap:=h' }):wpAny (model P w) A (setRelay a wanted) Q E s:=by
 have hsl:=rowsH_len hrows
 have hfits:=fits_of hsz hdm hfl
 obtain⟨t',order,e,hp,T,em,el⟩:=BS.relay t (hs:=es.map (·.1)) (wanted:=wanted) hw hM (by rw[Array.size_map,hsl];omega)
 rw[Array.size_map,hsl] at hp
 obtain⟨L2,r1,r2,r3⟩:=rowsH_order order hrows hp
 rw[← r3] at T
 have hs2:(order.filterMap (es[·]?)).size=es.size:=by rw[rowsH_len r1,r2.length_eq,hsl]
 rw[setRelay_eq]
 refine wpAny_bind (wpAny_setState_of ho hd hfits ?_)
 dsimp only
 refine wp_if_neg (by rw[sizeLine_eq];omega) ?_
 try refine wpAny_bind (wpAny_pure ?_)
 rw[e]
 dsimp only
 refine wpAny_bind ?_
 refine wp_if_neg (by rw[hs2];simp) ?_
 try refine wpAny_bind (wpAny_pure ?_)
 refine wpAny_pure ?_
 dsimp only
 refine wpAny_storeSet_of ho hd ?_ (by rw[hs2,hsl,sizeLine_eq];omega)
 have sb:Heap.SameBut a s.heap (s.heap.update a (Obj.putSet (order.filterMap (es[·]?)) t')):=Heap.SameBut.update ..
 refine hQ _ L2 (order.filterMap (es[·]?)) (ep+1) t' sb ?_ r2
 refine⟨⟨_,store_at ho hd,⟨hex.1,hex.2.1,hex.2.2⟩,rfl⟩,r1,T,(r2.map (·.2)).nodup_iff.mpr nd,fun p hpm=>q.stay (mem p (r2.mem_iff.mp hpm)) ho hd sb,by rw[el];exact ld,?_,by rw[r2.length_eq];exact few⟩
 rw[r2.length_eq,em]
 exact hn
theorem addH (q:SetQ knd) (R:SetH knd s.heap a L es ep t) {x:Addr} {k:K} (hx:knd.is s.heap k x) (hu:knd.room A) (hfew:L.length+1<1200) {Q:Bool→Shared→Prop}
 (hQ:∀b h' L' es' ep' t',Heap.SameBut a s.heap h'→SetH knd h' a L' es' ep' t'→(k ∈ L.map (·.2)→L'=L)→(k ∉ L.map (·.2)→L'.Perm ((x,k)::L))→Q b { s with heap:=h' }):
 wpAny (model P w) A (setAddHashed a (.ref x) (knd.hash k)) Q E s:=by
 obtain⟨o,ho,hex,hd⟩:=R.ob
 have hsl:=R.size
 have hroom:=R.room
 unfold setAddHashed
 refine wpAny_holding ?_
 rw[show (100000:Nat)=99999+1 from rfl,setAddHashedIn_succ]
 refine wpAny_bind (wpAny_setState_of ho hd R.fits ?_)
 dsimp only
 refine wp_if_neg (by simp[byScan,Value.scannable]) ?_
 try refine wpAny_bind (wpAny_pure ?_)
 refine wpAny_bind (search_all q R hx hu (fun hm=> ?_) fun N hm hN hb=> ?_)
 ·dsimp only
  exact wpAny_pure (hQ false s.heap L es ep t (Heap.SameBut.refl a s.heap) R (fun _=>rfl) fun z=>absurd hm z)
 ·dsimp only
  refine wpAny_bind (wpAny_setState_of ho hd R.fits ?_)
  dsimp only
  obtain⟨q1,q2,q3,q4,q5,q9⟩:=R.tab.putAll hN hb rfl rfl
  generalize hpt:t.put (way t.mask (knd.hash k) N)=pt at q1 q3 q4 q5 q9 ⊢
  obtain⟨t0,p⟩:=pt
  dsimp only at q1 q3 q4 q5 q9 ⊢
  subst q1
  have tail:∀t1:SetTable,t1=t0∨t1= { t0 with plain:=false } →wpAny (model P w) A (do
   storeSet a (SetTable.insertAt es (SetTable.below t.place (way t.mask (knd.hash k) N)) (knd.hash k,Value.ref x)) t1
   if !false&&t1.tooFull then setRelay a (SetTable.grown (es.size+1))
   return true) Q E s:=by
   intro t1 ht1
   have q3':BS.Tab t1 ((L.map fun p=>knd.hash p.2).take (SetTable.below t.place (way t.mask (knd.hash k) N))++knd.hash k::(L.map fun p=>knd.hash p.2).drop (SetTable.below t.place (way t.mask (knd.hash k) N))):=by
    rcases ht1 with rfl|rfl
    ·exact q3
    ·exact⟨q3.ris,q3.dm,q3.sz,q3.mok,q3.bd,q3.reach⟩
   have q4':t1.mask=t.mask:=by rcases ht1 with rfl|rfl<;>exact q4
   have q5':t1.led=t.led:=by rcases ht1 with rfl|rfl<;>exact q5
   have q9':t1.tooFull=t0.tooFull:=by rcases ht1 with rfl|rfl<;>rfl
   have em:t1.mask=t0.mask:=by rcases ht1 with rfl|rfl<;>rfl
   have hin:(SetTable.insertAt es (SetTable.below t.place (way t.mask (knd.hash k) N)) (knd.hash k,Value.ref x)).toList=rowsH knd (L.take (SetTable.below t.place (way t.mask (knd.hash k) N))++(x,k)::L.drop (SetTable.below t.place (way t.mask (knd.hash k) N))):=by
    rw[SetTable.toList_insertAt,R.rows]
    unfold rowsH
    rw[List.map_append,List.map_cons,List.map_take,List.map_drop]
   generalize hpp:SetTable.below t.place (way t.mask (knd.hash k) N)=p at q3' hin ⊢
   have pm:=put_perm L p (x,k)
   have hlen:(L.take p++(x,k)::L.drop p).length=L.length+1:=pm.length_eq
   have hhs:(L.take p++(x,k)::L.drop p).map (fun p=>knd.hash p.2)=(L.map fun p=>knd.hash p.2).take p++knd.hash k::(L.map fun p=>knd.hash p.2).drop p:=by
    rw[List.map_append,List.map_cons,List.map_take,List.map_drop]
   rw[← hhs] at q3'
   have nd1:((L.take p++(x,k)::L.drop p).map (·.2)).Nodup:=by
    refine(pm.map (·.2)).nodup_iff.mpr ?_
    rw[List.map_cons]
    exact List.nodup_cons.mpr ⟨hm,R.nd⟩
   have hes:(SetTable.insertAt es p (knd.hash k,Value.ref x)).size=L.length+1:=by rw[rowsH_len hin,hlen]
   generalize SetTable.insertAt es p (knd.hash k,Value.ref x)=es1 at hin hes ⊢
   generalize L.take p++(x,k)::L.drop p=L1 at pm hlen q3' nd1 hin
   refine wpAny_bind (wpAny_storeSet_of ho hd ?_ (by rw[hes,sizeLine_eq];omega))
   have sb:Heap.SameBut a s.heap (s.heap.update a (Obj.putSet es1 t1)):=Heap.SameBut.update ..
   have ho1:=store_at (es':=es1) (t':=t1) ho hd
   generalize s.heap.update a (Obj.putSet es1 t1)=h1 at sb ho1 ⊢
   have mem1:∀p ∈ L1,knd.is h1 p.2 p.1:=fun p hp=>by
    rcases List.mem_cons.mp (pm.mem_iff.mp hp) with e|hp
    ·rw[e];exact q.stay hx ho hd sb
    ·exact q.stay (R.mem p hp) ho hd sb
   have ld1:w.params.followText "set-order" =true∨t1.led=true:=by rw[q5'];exact R.led
   by_cases hf:t1.tooFull=true
   ·first
     |(refine wpAny_bind ?_;refine wp_if_pos (by simp[hf]) ?_)
     |(refine wp_if_pos (by simp[hf]) ?_;refine wpAny_bind ?_)
    have hfull:(L.length+1)*5 ≥ t1.mask*3:=by
     have h:=hf
     rw[q9'] at h
     unfold SetTable.tooFull at h
     rw[decide_eq_true_eq,q9,List.length_map,←em] at h
     exact h
    rw[hsl]
    have hsz1:t1.place.size=es1.size:=by
     have h:=q3'.sz
     rw[List.length_map,hlen] at h
     rw[h,hes]
    have eN1:t.mask=t1.mask:=q4'.symm
    obtain⟨M,g1,g2,g3⟩:=BS.grows (n:=L.length) R.tab.mok hroom (by rw[eN1];exact hfull) (by omega)
    have go:∀M,SetTable.sizeAbove (SetTable.grown (L.length+1))-1=M→BS.Mk M→SetTable.sizeAbove (SetTable.grown (L.length+1))≤2048→(L.length+1)*5<M*3→
     wpAny (model P w) A (setRelay a (SetTable.grown (L.length+1))) (fun _ s'=>wpAny (model P w) A (pure true) Q E s') E { s with heap:=h1 } :=fun M h1' h2' h3' h4'=>by
     refine relayH (s:= { s with heap:=h1 }) q ho1 ⟨hex.1,hex.2.1,hex.2.2⟩ rfl hin hsz1 q3'.dm (by rw[hes,q4'];omega) nd1 mem1 ld1 (by rw[hlen];exact hfew) h1' h2' h3' (by rw[hlen];exact h4') ?_
     intro h2 L2 es2 ep2 t2 sb2 R2 pm2
     exact wpAny_pure (hQ true h2 L2 es2 ep2 t2 (sb.trans sb2) R2 (fun z=>absurd z hm) fun _=>pm2.trans pm)
    exact go M (by rw[g1];rfl) g2 (by rw[g1];have:=g2.le;omega) g3
   ·first
     |refine wp_if_neg (by simp[hf]) ?_
     |(refine wpAny_bind ?_;refine wp_if_neg (by simp[hf]) ?_;refine wpAny_pure ?_)
    refine wpAny_pure (hQ true h1 L1 es1 (ep+1) t1 sb ⟨⟨_,ho1,⟨hex.1,hex.2.1,hex.2.2⟩,rfl⟩,hin,q3',nd1,mem1,ld1,?_,by rw[hlen];exact hfew⟩ (fun z=>absurd z hm) fun _=>pm)
    have h:=hf
    rw[q9'] at h
    unfold SetTable.tooFull at h
    rw[decide_eq_true_eq,q9,List.length_map,←em] at h
    rw[hlen]
    omega
  by_cases hp1:t0.plain=true
  ·first
    |(refine wpAny_bind ?_;refine wp_if_pos hp1 ?_;refine q.byv hx fun b=> ?_)
    |refine wp_if_pos hp1 (wpAny_bind (q.byv hx fun b=> ?_))
   cases b with
   |true=>exact tail t0 (.inl rfl)
   |false=>exact tail _ (.inr rfl)
  ·first
    |(refine wpAny_bind ?_;refine wp_if_neg hp1 ?_;refine wpAny_pure ?_)
    |refine wp_if_neg hp1 (wpAny_bind (wpAny_pure ?_))
   exact tail t0 (.inl rfl)
theorem setH_fresh {h:Heap} {a:Addr} (ho:h.get? a=some { cls:= .type "set",dict:=none,data:= .set #[] 0 (.fresh 0 0 (!w.params.followText "set-order")) }):SetH knd h a [] #[] 0 (.fresh 0 0 (!w.params.followText "set-order")) where
 ob:=⟨_,ho,⟨rfl,rfl,rfl⟩,rfl⟩
 rows:=rfl
 tab:=⟨List.Pairwise.nil,rfl,rfl, .inl rfl,fun x hx=>(by cases hx),fun i h j hi=>(by simp at hi)⟩
 nd:=List.nodup_nil
 mem:=fun p hp=>(by cases hp)
 led:=by
  show _∨(!w.params.followText "set-order")=true
  cases w.params.followText "set-order"
  ·exact .inr rfl
  ·exact .inl rfl
 room:=by
  show 0*5<7*3
  decide
 few:=by
  show 0<1200
  decide
theorem addH_call (q:SetQ knd) (R:SetH knd s.heap a L es ep t) {x:Addr} {k:K} (hx:knd.is s.heap k x) (hu:knd.room A.in1) (hfew:L.length+1<1200) {Q:Value→Shared→Prop}
 (hQ:∀h' tk L' es' ep' t',s.toks≤tk→Heap.SameBut a s.heap h'→SetH knd h' a L' es' ep' t'→(k ∈ L.map (·.2)→L'=L)→(k ∉ L.map (·.2)→L'.Perm ((x,k)::L))→Q .none { s with heap:=h',toks:=tk }):
 wpAny (model P w) A (call (.builtin "set.add") [.ref a, .ref x]) Q E s:=by
 have hT:s.TypeIs (.ref a) "set" :=by
  obtain⟨o,ho,hex,hd⟩:=R.ob
  exact⟨o,ho,hex.1⟩
 refine wpAny_call_entry F.slot_set_add hT F.entry_set_add ?_ (F.args_set_add_2 _ _)
 unfold Builtin.«set.add» Builtin.Frozenset.oneOther
 simp only[List.isEmpty_nil,bind_assoc]
 unfold Builtin.Frozenset.addrOf setAdd
 refine wpAny_bind (wpAny_pure ?_)
 try dsimp only
 refine wpAny_bind (wpAny_pure ?_)
 try dsimp only
 refine wpAny_bind ?_
 refine wpAny_holding ?_
 refine wpAny_bind (knd.pyHash hu hx ?_)
 have hx':knd.is ({ s with toks:=s.toks+knd.draws k } :Shared).heap k x:=hx
 refine addH (s:= { s with toks:=s.toks+knd.draws k }) q R hx' hu hfew fun b h' L' es' ep' t' sb r c1 c2=> ?_
 show wpAny _ _ (ret Value.none) _ _ _
 exact wpAny_pure ⟨_,rfl,hQ h' _ L' es' ep' t' (Nat.le_add_right _ _) sb r c1 c2⟩
end
end L3
namespace L3
open PySem PySem.Spec PyProof.Rows L2
section
variable {P:Program} {w:World}
def ClsAt (P:Program) (w:World) (n:Nat) (s:Shared) (v:Value):Prop:=∀(A:Around) (E:Value→Shared→Prop) (Q:Bool→Shared→Prop),Q false s→wpAny (model P w) A (ofAClassStatement n v) Q E s
def ByvAt (P:Program) (w:World) (n:Nat) (s:Shared) (v:Value):Prop:=∀(A:Around) (E:Value→Shared→Prop) (Q:Bool→Shared→Prop),(∀ b,Q b s)→wpAny (model P w) A (hashByValue n v) Q E s
theorem cls_tup {n:Nat} {s:Shared} {a:Addr} {o:Obj} {vs:Array Value} {m:Nat} (ho:s.heap.get? a=some o) (hc:o.cls= .type "tuple") (hd:o.data= .seq vs m) (hq:∀v ∈ vs.toList,ClsAt P w n s v):ClsAt P w (n+1) s (.ref a):=fun A E Q h=>by
 unfold ofAClassStatement
 refine wpAny_bind (wpAny_typeOf ⟨o,ho,hc⟩ ?_)
 dsimp only
 have e:(("tuple" :String)== "tuple")=true:=by decide
 simp only[e,if_true,Bool.not_true,Bool.false_eq_true,if_false]
 try refine wpAny_bind (wpAny_pure ?_)
 try simp only[Bool.not_true,Bool.false_eq_true,if_false]
 show wpAny _ _ (seqItems? (.ref a) >>= _) _ _ s
 refine wpAny_bind (wpAny_seqItems ho hd ?_)
 dsimp only
 refine wpAny_bind ?_
 show wpAny _ _ (forIn vs _ _) _ _ s
 rw[← Array.forIn_toList]
 refine wpAny_forIn_list _ (fun rest r s'=>r.1=none∧s'=s∧∀v ∈ rest,ClsAt P w n s v) _ ?_ ?_ _ _ ⟨rfl,rfl,hq⟩
 ·rintro v rest r s' ⟨hr,rfl,hall⟩
  refine wpAny_bind (hall v List.mem_cons_self _ _ _ ?_)
  simp only[Bool.false_eq_true,if_false]
  exact wpAny_pure ⟨rfl,rfl,fun u hu=>hall u (List.mem_cons_of_mem _ hu)⟩
 ·rintro⟨r1,r2⟩ s' ⟨hr,rfl,_⟩
  simp only at hr
  subst hr
  exact wpAny_pure h
theorem byv_tup {n:Nat} {s:Shared} {a:Addr} {o:Obj} {vs:Array Value} {m:Nat} (ho:s.heap.get? a=some o) (hc:o.cls= .type "tuple") (hd:o.data= .seq vs m) (hq:∀v ∈ vs.toList,ByvAt P w n s v):ByvAt P w (n+1) s (.ref a):=fun A E Q h=>by
 unfold hashByValue
 refine wpAny_bind (wpAny_specialOf (⟨o,ho,hc⟩:s.TypeIs (.ref a) "tuple") F.slot_tuple_hash.lookup ?_)
 show wpAny _ _ (seqItems? (.ref a) >>= _) _ _ s
 refine wpAny_bind (wpAny_seqItems ho hd ?_)
 refine wpAny_bind ?_
 show wpAny _ _ (forIn vs _ _) _ _ s
 rw[← Array.forIn_toList]
 refine wpAny_forIn_list _ (fun rest r s'=>r.1=none∧s'=s∧∀v ∈ rest,ByvAt P w n s v) _ ?_ ?_ _ _ ⟨rfl,rfl,hq⟩
 ·rintro v rest r s' ⟨hr,rfl,hall⟩
  refine wpAny_bind (hall v List.mem_cons_self _ _ _ fun b=> ?_)
  cases b with
  |true=>
   simp only[Bool.not_true,Bool.false_eq_true,if_false]
   exact wpAny_pure ⟨rfl,rfl,fun u hu=>hall u (List.mem_cons_of_mem _ hu)⟩
  |false=>
   simp only[Bool.not_false,if_true]
   exact wpAny_pure (wpAny_pure (h false))
 ·rintro⟨r1,r2⟩ s' ⟨hr,rfl,_⟩
  simp only at hr
  subst hr
  exact wpAny_pure (h true)
mutual
theorem cls_key:∀(k:NestedKey) (v:Value) (n:Nat) (s:Shared),NestedIs s.heap k v→k.depth≤n→ClsAt P w n s v
 | .none,_,n,s,x,_=>by cases x;exact fun A E Q h=>by unfold ofAClassStatement;exact wpAny_pure h
 | .num i,_,n,s,x,_=>by cases x<;>exact fun A E Q h=>by unfold ofAClassStatement;exact wpAny_pure h
 | .text y,_,n,s,x,_=>by cases x;exact fun A E Q h=>by unfold ofAClassStatement;exact wpAny_pure h
 | .tup ks,_,n,s,x,hn=>by
   cases x with
   |tup hg hc hd hk=>
    simp only[NestedKey.depth] at hn
    cases n with
    |zero=>omega
    |succ n=>exact cls_tup hg hc hd (cls_keys ks _ n s hk (by omega))
theorem cls_keys:∀(ks:List NestedKey) (vs:List Value) (n:Nat) (s:Shared),NestedAll s.heap ks vs→NestedKey.depthAll ks≤n→∀v ∈ vs,ClsAt P w n s v
 | [],_,n,s,x,_,v,hv=>by cases x;cases hv
 |k::ks,_,n,s,x,hn,v,hv=>by
  cases x with
  |cons x1 x2=>
   simp only[NestedKey.depthAll] at hn
   rcases List.mem_cons.mp hv with e|hv
   ·rw[e];exact cls_key k _ n s x1 (by omega)
   ·exact cls_keys ks _ n s x2 (by omega) v hv
end
mutual
theorem byv_key:∀(k:NestedKey) (v:Value) (n:Nat) (s:Shared),NestedIs s.heap k v→k.depth≤n→ByvAt P w n s v
 | .none,_,n,s,x,_=>by cases x;exact fun A E Q h=>by unfold hashByValue;exact wpAny_pure (h _)
 | .num i,_,n,s,x,_=>by cases x<;>exact fun A E Q h=>by unfold hashByValue;exact wpAny_pure (h _)
 | .text y,_,n,s,x,_=>by cases x;exact fun A E Q h=>by unfold hashByValue;exact wpAny_pure (h _)
 | .tup ks,_,n,s,x,hn=>by
   cases x with
   |tup hg hc hd hk=>
    simp only[NestedKey.depth] at hn
    cases n with
    |zero=>omega
    |succ n=>exact byv_tup hg hc hd (byv_keys ks _ n s hk (by omega))
theorem byv_keys:∀(ks:List NestedKey) (vs:List Value) (n:Nat) (s:Shared),NestedAll s.heap ks vs→NestedKey.depthAll ks≤n→∀v ∈ vs,ByvAt P w n s v
 | [],_,n,s,x,_,v,hv=>by cases x;cases hv
 |k::ks,_,n,s,x,hn,v,hv=>by
  cases x with
  |cons x1 x2=>
   simp only[NestedKey.depthAll] at hn
   rcases List.mem_cons.mp hv with e|hv
   ·rw[e];exact byv_key k _ n s x1 (by omega)
   ·exact byv_keys ks _ n s x2 (by omega) v hv
end
theorem setQ_nested:SetQ (nestedKind P w) where
 cls:=fun h q=>cls_key _ _ 8 _ h.1 h.2 _ _ _ q
 byv:=fun h q=>byv_key _ _ 8 _ h.1 h.2 _ _ _ q
 stay:=fun {h h' k a d o es ep t} x ho hd hs=>⟨NestedIs.at (fun b ob vs n hb hc=>by
  refine(hs.2 b fun e=> ?_).trans hb
  subst e
  rw[ho] at hb
  cases hb
  rw[hd] at hc
  cases hc) k _ x.1,x.2⟩
 mono:=fun {h h' k a} x m=>⟨NestedIs.at (fun b ob vs n hb _=>m b ob hb) k _ x.1,x.2⟩
end
end L3
namespace L3
open PySem PySem.Spec PyProof.Rows L2
def kyE (e:Int × Value):L2.Key:=match e.2 with
 | .int k _=> .inl k
 | .str x _=> .inr x
 | _=> .inl 0
def GdE (w:World) (e:Int × Value):Prop:=RelV (kV (kyE e)) e.2∧e.1=keyH w (kyE e)
theorem kyE_of {k:L2.Key} {v:Value} (r:RelV (kV k) v) (i:Int):kyE (i,v)=k:=by
 cases k with
 |inl j=>obtain⟨t,e⟩:=(show ∃t,v=Value.int j t from r);subst e;rfl
 |inr x=>obtain⟨t,e⟩:=(show ∃t,v=Value.str x t from r);subst e;rfl
theorem gdE_of {w:World} {k:L2.Key} {v:Value} (r:RelV (kV k) v):GdE w (keyH w k,v):=by
 unfold GdE
 rw[kyE_of r]
 exact⟨r,rfl⟩
section
variable {P:Program} {w:World} {A:Around} {E:Value→Shared→Prop} {s:Shared} {a:Addr} {S:List L2.Key}
theorem gdE_elems {l:List (Int × Value)} (g:∀e ∈ l,GdE w e):ElemsOf (mixKind P w) l:=fun e he=>by
 obtain⟨h1,h2⟩:=g e he
 exact⟨⟨kyE e,kV_is (P:=P) (w:=w) h1,h2⟩,key_scan h1⟩
theorem gdE_is {e:Int × Value} (g:GdE w e) (k:L2.Key):(mixKind P w).is k e.2=true↔kyE e=k:=
 ⟨fun h=>(mixKind P w).inj _ _ _ (kV_is (P:=P) (w:=w) g.1) h,fun h=>h▸kV_is (P:=P) (w:=w) g.1⟩
def SetM (w:World) (h:Heap) (a:Addr) (S:List L2.Key):Prop:=
 ∃o es ep t,h.get? a=some o∧o.ExactSet∧o.data= .set es ep t∧(∀ e ∈ es.toList,GdE w e)∧(es.toList.map kyE).Nodup∧(∀ k,k ∈ S↔k ∈ es.toList.map kyE)∧t.fits es.size=true∧Ris t.place.toList∧(w.params.followText "set-order" =true∨t.led=true)
theorem SetM.at {h h':Heap} (R:SetM w h a S) (k:∀o,h.get? a=some o→h'.get? a=some o):SetM w h' a S:=by
 obtain⟨o,es,ep,t,ho,r⟩:=R
 exact⟨o,es,ep,t,k o ho,r⟩
theorem few_of {es:Array (Int × Value)} (nd:(es.toList.map kyE).Nodup) (m:∀k,k ∈ S↔k ∈ es.toList.map kyE):es.size≤S.length:=by
 have:=nodup_le nd fun k hk=>(m k).mpr hk
 simpa using this
theorem setM_tail {g:Bool→Sem Unit} (hg:∀(b:Bool) (s₁ :Shared) (Q':Unit→Shared→Prop),Q' () s₁ →wpAny (model P w) A (g b) Q' E s₁)
 {o:Obj} {es:Array (Int × Value)} {ep:Nat} {t:SetTable} (ho:s.heap.get? a=some o) (hex:o.ExactSet) (hd:o.data= .set es ep t)
 {es1:Array (Int × Value)} {t2:SetTable} (g1:∀e ∈ es1.toList,GdE w e) (nd1:(es1.toList.map kyE).Nodup) (m1:∀k,k ∈ S↔k ∈ es1.toList.map kyE)
 (hb1:es1.size<scanBound) (hf2:t2.fits es1.size=true) (hr:Ris t2.place.toList) (hl:w.params.followText "set-order" =true∨t2.led=true) {wasDummy:Bool} {R:Option Bool→Shared→Prop}
 (hR:∀h',Heap.SameBut a s.heap h'→SetM w h' a S→R (some true) { s with heap:=h' }):
 wpAny (model P w) A (do
  storeSet a es1 t2
  if(!wasDummy&&t2.tooFull)=true then do
     g (relayAll t2 es1 (SetTable.grown es1.size)).2.2
     storeSet a (relayAll t2 es1 (SetTable.grown es1.size)).1 (relayAll t2 es1 (SetTable.grown es1.size)).2.1
     pure (some true)
   else pure (some true)) R E s:=by
 refine wpAny_bind (wpAny_storeSet_of ho hd ?_ (fits_of_scanBound hb1))
 have ho1:=store_at (es':=es1) (t':=t2) ho hd
 have sb1:=Heap.SameBut.update s.heap a (Obj.putSet es1 t2)
 split
 ·have pm:=relayAll_perm t2 es1 (SetTable.grown es1.size)
  have hf3:=relayAll_fits t2 es1 (SetTable.grown es1.size)
  have hr3:=relayAll_ris t2 es1 (SetTable.grown es1.size)
  have hl3:=relayAll_led t2 es1 (SetTable.grown es1.size)
  generalize relayAll t2 es1 (SetTable.grown es1.size)=Z at pm hf3 hr3 hl3 ⊢
  obtain⟨es2,t3,gave⟩:=Z
  dsimp only at pm hf3 hr3 hl3 ⊢
  have hsz:es2.size=es1.size:=by rw[← Array.length_toList,pm.length_eq,Array.length_toList]
  refine wpAny_bind (hg _ _ _ ?_)
  refine wpAny_bind (wpAny_storeSet_of ho1 rfl ?_ (fits_of_scanBound (by rw[hsz];exact hb1)))
  have ho2:=store_at (es':=es2) (t':=t3) ho1 rfl
  refine wpAny_pure (hR _ (sb1.trans (Heap.SameBut.update _ a _)) ?_)
  exact⟨_,es2,_,t3,ho2,hex,rfl,fun e he=>g1 e (pm.mem_iff.mp he),(pm.map kyE).nodup_iff.mpr nd1,fun k=>(m1 k).trans (pm.map kyE).mem_iff.symm,hf3,hr3,hl.imp id fun z=>by rw[hl3];exact z⟩
 ·exact wpAny_pure (hR _ sb1 ⟨_,es1,_,t2,ho1,hex,rfl,g1,nd1,m1,hf2,hr,hl⟩)
theorem addM {k:L2.Key} {v:Value} {Q:Bool→Shared→Prop} (rv:RelV (kV k) v) (R:SetM w s.heap a S) (room:S.length+1<scanBound)
 (hQ:∀b h',Heap.SameBut a s.heap h'→SetM w h' a (S++ [k])→Q b { s with heap:=h' }):
 wpAny (model P w) A (setAddHashed a v ((mixKind P w).hash k)) Q E s:=by
 obtain⟨o,es,ep,t,ho,hex,hd,g,nd,hm,hf,hr,hl⟩:=R
 have hkey:(mixKind P w).is k v=true:=kV_is (P:=P) (w:=w) rv
 have hsc:v.scannable=true:=key_scan rv
 have hel:ElemsOf (mixKind P w) es.toList:=gdE_elems g
 have hfew:=few_of nd hm
 have hb:es.size<scanBound:=by omega
 unfold setAddHashed setAddHashedIn
 refine wpAny_holding (wpAny_bind (wpAny_setState_of ho hd hf ?_))
 dsimp only
 rw[byScan_of hsc hb hel]
 simp only[↓reduceIte]
 unfold setAddByScan
 refine wpAny_bind ?_
 refine wpAny_bind (wpAny_rule ?_)
 refine wpAny_bind (wpAny_setScan_of hkey ho hd hf hel ?_)
 cases hfi:List.findIdx? (fun e=>(mixKind P w).is k e.2) es.toList with
 |some j=>
  dsimp only
  obtain⟨hj,pj,_⟩:=List.findIdx?_eq_some_iff_getElem.mp hfi
  have hSk:k ∈ S:=(hm k).2 (List.mem_map.mpr ⟨es.toList[j],List.getElem_mem hj,(gdE_is (P:=P) (g _ (List.getElem_mem hj)) k).mp pj⟩)
  refine wpAny_pure (wpAny_pure ?_)
  refine hQ false s.heap (Heap.SameBut.refl a s.heap) ⟨o,es,ep,t,ho,hex,hd,g,nd,fun i=> ?_,hf,hr,hl⟩
  rw[← hm i,List.mem_append,List.mem_singleton]
  exact⟨fun z=>z.elim id (fun e=>e▸hSk), .inl⟩
 |none=>
  dsimp only
  have hnk:k ∉ es.toList.map kyE:=fun z=>by
   obtain⟨e,he,q⟩:=List.mem_map.mp z
   have c:=List.findIdx?_eq_none_iff.mp hfi e he
   rw[(gdE_is (P:=P) (g e he) k).mpr q] at c
   cases c
  have hgw:∀(b:Bool) {s₁ :Shared} {Q':Unit→Shared→Prop},Q' () s₁ →wpAny (model P w) A (match b with|true=>rule "set.scan.the-table-gave-way" |false=>pure ()) Q' E s₁ :=
   fun b s₁ Q' q=>by cases b<;>first|exact wpAny_pure q|exact wpAny_rule q
  have pm:=layNew_perm t es ((mixKind P w).hash k) v
  have hf1:=layNew_fits t es ((mixKind P w).hash k) v
  have hr1:=layNew_ris t es ((mixKind P w).hash k) v hr
  have hl1:=layNew_led t es ((mixKind P w).hash k) v
  generalize layNew t es ((mixKind P w).hash k) v=Z at pm hf1 hr1 hl1 ⊢
  obtain⟨es1,t1,wasDummy,gave⟩:=Z
  dsimp only at pm hf1 hr1 hl1 ⊢
  rw[Array.toList_push] at pm
  have pc:es1.toList.Perm (((mixKind P w).hash k,v)::es.toList):=pm.trans (List.perm_append_singleton _ _)
  have pk:(es1.toList.map kyE).Perm (k::es.toList.map kyE):=by
   have:=pc.map kyE
   rw[List.map_cons,kyE_of rv] at this
   exact this
  have g1:∀e ∈ es1.toList,GdE w e:=fun e he=>by
   rcases List.mem_cons.mp (pc.mem_iff.mp he) with z|z
   ·rw[z];exact gdE_of rv
   ·exact g e z
  have nd1:(es1.toList.map kyE).Nodup:=pk.nodup_iff.mpr (List.nodup_cons.mpr ⟨hnk,nd⟩)
  have m1:∀i,i ∈ S++ [k] ↔i ∈ es1.toList.map kyE:=fun i=>by
   rw[List.mem_append,List.mem_singleton,hm i,pk.mem_iff,List.mem_cons]
   exact Or.comm
  have hb1:es1.size<scanBound:=by
   have:=few_of nd1 m1
   rw[List.length_append,List.length_singleton] at this
   omega
  have hled:w.params.followText "set-order" =true∨t1.led=true:=hl.imp id fun z=>by rw[hl1];exact z
  refine wpAny_bind (hgw _ ?_)
  split
  ·refine wpAny_bind ?_
   rw[hashByValue_scannable 8 hsc]
   refine wpAny_pure ?_
   refine setM_tail (S:=S++ [k]) ?_ ho hex hd g1 nd1 m1 hb1 ?_ ?_ ?_ ?_
   ·intro b s₁ Q' q;cases b<;>first|exact wpAny_pure q|exact wpAny_rule q
   ·first|(split<;>first|exact hf1|exact SetTable.fits_plain_off hf1)|exact hf1
   ·first|(split<;>exact hr1)|exact hr1
   ·first|(split<;>exact hled)|exact hled
   ·intro h' sb r;dsimp only;exact wpAny_pure (hQ true h' sb r)
  ·refine wpAny_bind (wpAny_pure ?_)
   simp only[↓reduceIte]
   refine setM_tail (S:=S++ [k]) ?_ ho hex hd g1 nd1 m1 hb1 hf1 hr1 hled ?_
   ·intro b s₁ Q' q;cases b<;>first|exact wpAny_pure q|exact wpAny_rule q
   ·intro h' sb r;dsimp only;exact wpAny_pure (hQ true h' sb r)
theorem addM_call {k:L2.Key} {v:Value} {Q:Value→Shared→Prop} (rv:RelV (kV k) v) (R:SetM w s.heap a S) (room:S.length+1<scanBound)
 (hQ:∀h' tk,s.toks≤tk→Heap.SameBut a s.heap h'→SetM w h' a (S++ [k])→Q .none { s with heap:=h',toks:=tk }):
 wpAny (model P w) A (call (.builtin "set.add") [.ref a,v]) Q E s:=by
 have hT:s.TypeIs (.ref a) "set" :=by
  obtain⟨o,es,ep,t,ho,hex,r⟩:=R
  exact⟨o,ho,hex.1⟩
 refine wpAny_call_entry F.slot_set_add hT F.entry_set_add ?_ (F.args_set_add_2 _ _)
 unfold Builtin.«set.add» Builtin.Frozenset.oneOther
 simp only[List.isEmpty_nil,bind_assoc]
 unfold Builtin.Frozenset.addrOf setAdd
 refine wpAny_bind (wpAny_pure ?_)
 try dsimp only
 refine wpAny_bind (wpAny_pure ?_)
 try dsimp only
 refine wpAny_bind ?_
 refine wpAny_holding ?_
 refine wpAny_bind ((mixKind P w).pyHash (kV_is (P:=P) (w:=w) rv) ?_)
 refine addM (s:= { s with toks:=s.toks+1 }) rv R room fun b h' sb r=> ?_
 show wpAny _ _ (ret Value.none) _ _ _
 exact wpAny_pure ⟨_,rfl,hQ h' _ (Nat.le_add_right _ _) sb r⟩
theorem setM_fresh {h:Heap} {a:Addr} (ho:h.get? a=some { cls:= .type "set",dict:=none,data:= .set #[] 0 (.fresh 0 0 (!w.params.followText "set-order")) }):SetM w h a [] :=
 ⟨_,#[],0,_,ho,⟨rfl,rfl,rfl⟩,rfl,(fun e he=>by simp at he),(by simp),(fun k=>by simp),(by rfl),List.Pairwise.nil,by
   show _∨(!w.params.followText "set-order")=true
   cases w.params.followText "set-order"
   ·exact .inr rfl
   ·exact .inl rfl⟩
end
end L3
namespace L3
open PySem PySem.Spec PyProof.Rows L2
abbrev Elt:=L2.Key ⊕ (Addr × NestedKey)
def valU:Elt→V
 | .inl k=>kV k
 | .inr p=> .ref p.1
def SetHL (P:Program) (w:World) (h:Heap) (a:Addr) (kps:List (Addr × NestedKey)):Prop:=
 ∃L es ep t,(∃ o,h.get? a=some o∧o.ExactSet∧o.data= .set es ep t)∧es.toList=rowsH (nestedKind P w) L∧BS.Tab t (L.map fun p=>(nestedKind P w).hash p.2)∧(L.map (·.2)).Nodup∧
  (w.params.followText "set-order" =true∨t.led=true)∧L.length*5<t.mask*3∧L.length<1200∧(∀ p ∈ L,p ∈ kps)∧∀p ∈ kps,p.2 ∈ L.map (·.2)
def ObP (P:Program) (w:World) (a:Addr) (S:List Elt) (h:Heap):Prop:=
 (∃ o,h.get? a=some o)∧(∀ ks:List L2.Key,S=ks.map Sum.inl→SetM w h a ks)∧∀kps:List (Addr × NestedKey),S=kps.map Sum.inr→SetHL P w h a kps
def ObU (P:Program) (w:World) (a:Addr) (S:List Elt):HO:= .ext (ObP P w a S)
def KAt (K:PySem.W.Frag) (H:Hp) (p:Addr × NestedKey):Prop:=Dp K H (.ref p.1) p.2.data∧p.2.depth≤8
def AddU (K:PySem.W.Frag) (H:Hp) (S:List Elt):Elt→Prop
 | .inl k=>(∃ ks:List L2.Key,S=ks.map Sum.inl)∧S.length+1<4096
 | .inr p=>(∃ kps:List (Addr × NestedKey),S=kps.map Sum.inr∧∀q ∈ kps,KAt K H q)∧KAt K H p∧S.length+1<1200
mutual
theorem nested_of {h:Heap} :∀(k:NestedKey) (u:Value) (as:List Addr),Reads h u k.data as→NestedIs h k u
 | .none,_,_,r=>by cases r;exact .none
 | .num i,_,_,r=>by cases r;exact .int i _
 | .text x,_,_,r=>by cases r;exact .text x _
 | .tup ks,_,_,r=>by
   cases r with
   |tuple ho hc hd ra=>exact .tup ho hc hd (nested_all ks _ _ ra)
theorem nested_all {h:Heap} :∀(ks:List NestedKey) (us:List Value) (as:List Addr),ReadsAll h us (NestedKey.datas ks) as→NestedAll h ks us
 | [],_,_,r=>by cases r;exact .nil
 |k::ks,_,_,r=>by
  cases r with
  |cons r1 r2=>exact .cons (nested_of k _ _ r1) (nested_all ks _ _ r2)
end
section
variable {X:Cx} {pins:List (Addr × Obj)} {σ :L2.St} {H:Hp} {s:Shared} {a:Addr} {S:List Elt}
theorem KAt.is (I:Inv X pins σ H s) {p:Addr × NestedKey} (h:KAt X.K H p):(nestedKind X.prog X.w).is s.heap p.2 p.1:=by
 obtain⟨as,r⟩:=Dp.reads I p.2.data (.ref p.1) (.ref p.1) h.1 rfl
 exact⟨nested_of _ _ _ r,h.2⟩
theorem obP_at {P:Program} {w:World} {h h':Heap} (R:ObP P w a S h) (k:∀o,h.get? a=some o→h'.get? a=some o):ObP P w a S h':=by
 obtain⟨⟨o,ho⟩,h1,h2⟩:=R
 refine⟨⟨o,k o ho⟩,fun ks e=>(h1 ks e).at k,fun kps e=> ?_⟩
 obtain⟨L,es,ep,t,⟨o',ho',r⟩,q⟩:=h2 kps e
 exact⟨L,es,ep,t,⟨o',k o' ho',r⟩,q⟩
theorem obU_new {P:Program} {w:World} {H:Hp} {h:Heap} (R:ObP P w a S h):ObjOk P w H h a (ObU P w a S):=⟨R,R.1,fun _ _ p k=>obP_at p k⟩
theorem obP_fresh {P:Program} {w:World} {h:Heap} {a:Addr} (ho:h.get? a=some { cls:= .type "set",dict:=none,data:= .set #[] 0 (.fresh 0 0 (!w.params.followText "set-order")) }):ObP P w a [] h:=by
 refine⟨⟨_,ho⟩,fun ks e=> ?_,fun kps e=> ?_⟩
 ·have:ks= [] :=by simpa using e.symm
  subst this
  exact setM_fresh ho
 ·have:kps= [] :=by simpa using e.symm
  subst this
  have R:SetH (nestedKind P w) h a [] #[] 0 (.fresh 0 0 (!w.params.followText "set-order")):=setH_fresh ho
  exact⟨[],_,_,_,R.ob,R.rows,R.tab,R.nd,R.led,R.room,R.few,by simp,by simp⟩
theorem addU {u:Value} {k:Elt} {Q:Value→Shared→Prop} {E:Value→Shared→Prop} (hu:X.A.units+20<cLine) (I:Inv X pins σ H s) (hD:H a=some (ObU X.prog X.w a S)) (ry:RelV (valU k) u) (ok:AddU X.K H S k)
 (h:∀s',Inv X pins σ (upd H a (ObU X.prog X.w a (S++ [k]))) s'→Q .none s'):wpAny (model X.prog X.w) X.A (call (.builtin "set.add") [.ref a,u]) Q E s:=by
 have R:ObP X.prog X.w a S s.heap:=(I.hok a _ hD).1
 cases k with
 |inl k=>
  obtain⟨⟨ks,rfl⟩,hz⟩:=ok
  refine addM_call (P:=X.prog) (w:=X.w) (k:=k) ry (R.2.1 ks rfl) (by rw[List.length_map] at hz;exact hz) fun h' tk ht sb r=>h _ ?_
  obtain⟨o,es,ep,t,ho,r'⟩:=id r
  refine I.write (e:=a) (by rw[hD];trivial) (.inl rfl) (fun b q hb z=>(sb.2 b hb).trans z) ⟨o,ho⟩ (obU_new ⟨⟨o,ho⟩,fun ks' e=> ?_,fun kps e=> ?_⟩)
  ·have:ks'=ks++ [k] :=by
    have e':(ks++ [k]).map (Sum.inl:L2.Key→Elt)=ks'.map Sum.inl:=by simpa using e
    exact((List.map_inj_right fun a b h=>Sum.inl.inj h).mp e').symm
   subst this
   exact r
  ·exfalso
   have:Sum.inl k ∈ kps.map (Sum.inr:_→Elt):=by rw[← e];simp
   simp at this
 |inr p=>
  obtain⟨⟨kps,rfl,hk⟩,hp,hz⟩:=ok
  obtain⟨L,es,ep,t,ob,hr,tab,nd,led,room,few,sub,all⟩:=R.2.2 kps rfl
  have RH:SetH (nestedKind X.prog X.w) s.heap a L es ep t:=⟨ob,hr,tab,nd,fun q hq=>KAt.is I (hk q (sub q hq)),led,room,few⟩
  have hx:=KAt.is I hp
  obtain rfl:u=Value.ref p.1:=ry
  rw[List.length_map] at hz
  have hL:L.length≤kps.length:=by
   have h1:=nodup_le (m:=kps.map (·.2)) nd fun x hx=>by
    obtain⟨q,hq,rfl⟩:=List.mem_map.mp hx
    exact List.mem_map.mpr ⟨q,sub q hq,rfl⟩
   simpa using h1
  refine addH_call setQ_nested RH hx (show X.A.in1.units+8<cLine by show X.A.units+1+8<cLine;omega) (by omega) fun h' tk L' es' ep' t' ht sb R' c1 c2=>h _ ?_
  obtain⟨o,ho,r'⟩:=R'.ob
  refine I.write (e:=a) (by rw[hD];trivial) (.inl rfl) (fun b q hb z=>(sb.2 b hb).trans z) ⟨o,ho⟩ (obU_new ⟨⟨o,ho⟩,fun ks' e=> ?_,fun kps' e=> ?_⟩)
  ·exfalso
   have:Sum.inr p ∈ ks'.map (Sum.inl:_→Elt):=by rw[← e];simp
   simp at this
  ·have:kps'=kps++ [p] :=by
    have e':(kps++ [p]).map (Sum.inr:_→Elt)=kps'.map Sum.inr:=by simpa using e
    exact((List.map_inj_right fun a b h=>Sum.inr.inj h).mp e').symm
   subst this
   refine⟨L',es',ep',t',R'.ob,R'.rows,R'.tab,R'.nd,R'.led,R'.room,R'.few,?_,?_⟩
   ·intro q hq
    by_cases hm:p.2 ∈ L.map (·.2)
    ·rw[c1 hm] at hq
     exact List.mem_append_left _ (sub q hq)
    ·rcases List.mem_cons.mp ((c2 hm).mem_iff.mp hq) with z|z
     ·rw[z];simp
     ·exact List.mem_append_left _ (sub q z)
   ·intro q hq
    by_cases hm:p.2 ∈ L.map (·.2)
    ·rw[c1 hm]
     rcases List.mem_append.mp hq with z|z
     ·exact all q z
     ·rw[List.mem_singleton.mp z];exact hm
    ·rw[((c2 hm).map (·.2)).mem_iff,List.map_cons]
     rcases List.mem_append.mp hq with z|z
     ·exact List.mem_cons_of_mem _ (all q z)
     ·rw[List.mem_singleton.mp z];exact List.mem_cons_self
end
section
variable {X:Cx}
def tSc (P:Program) (w:World) (K:PySem.W.Frag) (wi:TI) (g:TG) (tt:TT) (te:TE) (vs:List Nat):TE:=fun σ H Q=>wi σ H fun J H1=>∀D,H1 D=none→∃W:Nat→Nat→Hp→Prop,(∃ m,W 0 m (upd H1 D (ObU P w D [])))∧∀i m H,W i m H→
 (J.stop i H∧Q (.ref D) H)∨(J.go i H∧∃Nx:Hp→Prop,(∀ H',Nx H'→∃m',m'<m∧W (i+1) m' H')∧∀x H',J.yld i H x H'→g x (wipe σ vs) H' fun σ2 H2=>wipe σ2 vs=wipe σ vs∧tt σ2 H2 fun b H3=>
   if b=true then te σ2 H3 fun y H4=>∃S k,y=valU k∧H4 D=some (ObU P w D S)∧AddU K H4 S k∧Nx (upd H4 D (ObU P w D (S++ [k]))) else Nx H3)
theorem pe_sc {elt tg iter:Expr} {ifs:List Expr} {scope:Scope} {own:List (Str × Nat)} {pos:Pos} {wi:TI} {g:TG} {tt:TT} {te:TE} (hc:X.calm=true) (hu:X.A.units+20<cLine) (hN:X.N.Nodup) (hi:PI X tg iter wi) (ok:BlkOk X.N X.env.scope scope own)
 (hg:∀(s:Shared) (H:Hp) (C:Addr) (cl:List (Str × Addr)) (fp:List Addr),PG (X.blk s H scope (compEnvC scope cl C X.env) fp) tg g) (ht:∀(s:Shared) (H:Hp) (C:Addr) (cl:List (Str × Addr)) (fp:List Addr),PTs (X.blk s H scope (compEnvC scope cl C X.env) fp) ifs tt)
 (he:∀(s:Shared) (H:Hp) (C:Addr) (cl:List (Str × Addr)) (fp:List Addr),PE (X.blk s H scope (compEnvC scope cl C X.env) fp) elt te) (hs:∀x,foldedSetIterable iter X.env x=pure x:=by intro _;rfl):
 PE X (.SetComp elt [⟨tg,iter,ifs,0⟩] scope pos) (tSc X.prog X.w X.K wi g tt te (own.map (·.2))):=by
 refine⟨fun pins s σ H Q I h=> ?_⟩
 have hfree:∀y ∈ scope.names,y.2= .free→∃c,X.env.cells.lookup y.1=some c:=fun y hy e=>by
  rcases ok.free y hy e with k|k
  ·exact I.ok.has _ (.inl k)
  ·exact I.ok.has _ (.inr k)
 rw[arm_eval_SetComp]
 refine wpAny_comprehension_free (use:=none) rfl hs (closure_ok hfree) ok.kind (fun y hy e=>by rw[ok.uniq y hy,e])
  (thn (hi.run pins s σ H _ I h) fun xv s1 hx=>thn hx fun itv s2 h2=> ?_)
 obtain⟨it,fp,tn,J,H2,e,I2,T,st2,f2,q⟩:=h2
 subst e
 refine wpAny_newSet_raw fun led hled=> ?_
 subst hled
 refine newEnv_comp ?_
 generalize hD:s2.heap.objs.size=D
 have hDn:H2 D=none:=I2.hok.fresh (Nat.le_of_eq hD)
 obtain⟨W,⟨m0,w0⟩,turn⟩:=q D hDn
 generalize hob:({ cls:= .type "set",dict:=none,data:= .set #[] 0 (.fresh 0 0 (!X.w.params.followText "set-order")) } :Obj)=ob
 generalize hs3:({ s2 with heap:=s2.heap.push ob } :Shared)=s3
 have h3:s3.heap=s2.heap.push ob:=by rw[← hs3]
 have I3:Inv X pins σ (upd H2 D (ObU X.prog X.w D [])) s3:=by
  rw[← hs3]
  refine I2.laid (t':=s2.toks) (fun b o e=>Heap.get?_push_of_some _ e) (Nat.le_of_eq hD) (obU_new (obP_fresh ?_))
  rw[← hD,←hob]
  exact Heap.get?_push_size _ rfl
 have sz:∀b ∈ fp,b<s2.heap.objs.size:=fun b hb=>by
  obtain⟨o,e,_⟩:=T.obj _ _ st2 b hb
  exact Heap.lt_size e
 have f3:∀b ∈ fp,FpOk X pins (upd H2 D (ObU X.prog X.w D [])) b∧b<s3.heap.objs.size:=fun b hb=>by
  have hlt:=sz b hb
  refine⟨⟨?_,(f2 b hb).2⟩,by rw[h3,Heap.size_push];exact Nat.lt_succ_of_lt hlt⟩
  rw[upd_ne (by rw[← hD];exact Nat.ne_of_lt hlt)]
  exact(f2 b hb).1
 have st3:tn 0 s3.heap:=T.keep _ _ _ st2 fun b _ o e=>by rw[h3];exact Heap.get?_push_of_some _ e
 have I4:=block_start I3 ok hN f3
 have pg:=hg s3 (upd H2 D (ObU X.prog X.w D [])) s3.heap.objs.size (cellsFrom (s3.heap.objs.size+1) scope.names (cloFrom X.env.cells scope.names [])) fp
 have pt:=ht s3 (upd H2 D (ObU X.prog X.w D [])) s3.heap.objs.size (cellsFrom (s3.heap.objs.size+1) scope.names (cloFrom X.env.cells scope.names [])) fp
 have pe:=he s3 (upd H2 D (ObU X.prog X.w D [])) s3.heap.objs.size (cellsFrom (s3.heap.objs.size+1) scope.names (cloFrom X.env.cells scope.names [])) fp
 show codeAny _ _ (.compStart (.SetComp elt [⟨tg,iter,ifs,0⟩] scope pos) 0 (.ref it) (.ref D) (compEnvC scope (cellsFrom (s3.heap.objs.size+1) scope.names (cloFrom X.env.cells scope.names [])) s3.heap.objs.size X.env)) (compPost (model X.prog X.w) X.A X.xe none _ (.ref D) s3.heap.objs.size) _
 have nfp:∀b ∈ fp,(upd H2 D (ObU X.prog X.w D [])) b=none:=fun b hb=>(f3 b hb).1.1
 generalize hce:compEnvC scope (cellsFrom (s3.heap.objs.size+1) scope.names (cloFrom X.env.cells scope.names [])) s3.heap.objs.size X.env=ce at I4 pg pt pe ⊢
 have cL:ce.locals=s3.heap.objs.size:=by subst hce;rfl
 generalize hH3:upd H2 D (ObU X.prog X.w D [])=H3 at I3 I4 pg pt pe w0 nfp f3
 generalize hs4:({ s3 with heap:=pushCells (s3.heap.push { cls:= .type "dict",data:= .dict #[] }) scope.names } :Shared)=s4 at I4 ⊢
 have st4:tn 0 s4.heap:=T.keep _ _ _ st3 fun b _ o e=>by rw[← hs4];exact pushCells_keeps _ _ _ _ (Heap.get?_push_of_some _ e)
 have stat:∀ {σ':L2.St} {H':Hp} {s':Shared},Inv (X.blk s3 H3 scope ce fp) [] σ' H' s'→(∀ b ∈ fp,H' b=none)→∀b ∈ fp,FpOk (X.blk s3 H3 scope ce fp) [] H' b:=fun {σ' H' s'} I' hn b hb=>
  ⟨hn b hb,(I'.ok.exf b hb).1,I'.ok.exfs b hb, .inl hb,fun x c e=>(I'.ok.exf b hb).2 x c e,fun p hp=>absurd (show p ∈ ([] :List (Addr × Obj))++ [] from hp) (by simp)⟩
 have loop:codeAny (model X.prog X.w) X.A (.compLoop (.SetComp elt [⟨tg,iter,ifs,0⟩] scope pos) 0 (.ref it) (.ref D) ce) (compPost (model X.prog X.w) X.A X.xe none (EP X pins σ Q) (.ref D) s3.heap.objs.size) s4:=by
  refine compLoop_set_any (fun n s'=>∃i H',Inv (X.blk s3 H3 scope ce fp) [] (wipe σ (own.map (·.2))) H' s'∧tn i s'.heap∧(∀ b ∈ fp,H' b=none)∧W i n H') ?_ m0 ⟨0,H3,I4,st4,nfp,w0⟩
  rintro n s5 ⟨i,H5,I5,st5,n5,w5⟩
  rcases turn i n H5 w5 with⟨stop,qq⟩|⟨go,Nx,hNx,step⟩
  ·have td:=T.done (X.blk s3 H3 scope ce fp) rfl rfl rfl hc i [] s5 _ H5 (fun _ _=>False) I5 (stat I5 n5) st5 stop
   refine thnF td fun r s6 ⟨hr,I6⟩=> ?_
   subst hr
   have I7:Inv X pins σ H5 s6:=I3.call' (ch:=fp) I6.os I6.base I6.hok I6.bare fun b hb=>⟨(f3 b hb).1.2.2.2.1,(f3 b hb).1.2.1,(f3 b hb).1.2.2.2.2.1,(f3 b hb).1.2.2.2.2.2⟩
   have nC:H5 s3.heap.objs.size=none:=by
    have z:H5 ce.locals=none:=I6.free
    rw[cL] at z
    exact z
   obtain⟨m,hn,_⟩:=I6.loc
   have hn:s6.heap.Ns ce.locals m:=hn
   rw[cL] at hn
   obtain⟨f0,f1,f2,f3,f4,f5⟩:=I3.fpOk (Nat.le_refl _) nC
   exact⟨m,hn,fun h'' sb=>⟨.ref D,H5,I7.turned (t':=s6.toks) (fun b o hb e=>(sb.2 b hb).trans e) f0 f1 f3 f4 f5,rfl,qq⟩⟩
  ·have ti:=T.item (X.blk s3 H3 scope ce fp) rfl rfl rfl hc i [] s5 _ H5 (fun _ _=>False) I5 (stat I5 n5) st5 go
   refine thnF ti fun r s6 ⟨u,hr,h6⟩=> ?_
   subst hr
   refine thnF h6 fun _ s7 ⟨x,H7,I7,r7,y7,st7,n7⟩=> ?_
   have I7':=I7.pinned (stat I7 n7) (T.obj _ _ st7)
   refine thnF (pg.run _ s7 _ H7 x u _ I7' r7 (step x H7 y7)) fun _ s8 ⟨σ8,H8,I8,hw8,q8⟩=> ?_
   refine thnF (pt.run _ s8 σ8 H8 _ I8 q8) fun b s9 ⟨H9,I9,q9⟩=> ?_
   have fin:∀ {s':Shared} {H':Hp},Inv (X.blk s3 H3 scope ce fp) ([] ++pinsAt fp s7.heap) σ8 H' s'→Nx H'→∃m,m<n∧∃i H',Inv (X.blk s3 H3 scope ce fp) [] (wipe σ (own.map (·.2))) H' s'∧tn i s'.heap∧(∀ b ∈ fp,H' b=none)∧W i m H':=fun {s' H'} I' nx=>by
    obtain⟨m',hm,w'⟩:=hNx H' nx
    have pin':∀b ∈ fp,∀o,s7.heap.get? b=some o→s'.heap.get? b=some o∧H' b=none:=fun b hb o e=>
     let z:=I'.pin (b,o) (List.mem_append_right _ (List.mem_append_right _ (mem_pinsAt hb e)))
     ⟨z.1,z.2.1⟩
    have hl:(wipe σ (own.map (·.2))).length= σ8.length:=by rw[← hw8,wipe_length]
    refine⟨m',hm,i+1,H',(I'.unpinned (pins:= [])).weak hl (fun j v e=> ?_),T.keep _ _ _ st7 fun b hb o e=>(pin' b hb o e).1,fun b hb=> ?_,w'⟩
    ·rw[← hw8] at e
     exact(wipe_some e).1
    ·obtain⟨o,e,_⟩:=T.obj _ _ st7 b hb
     exact(pin' b hb o e).2
   cases b with
   |false=>
    simp only[Bool.false_eq_true,if_false] at q9 ⊢
    exact fin I9 q9
   |true=>
    simp only[if_true] at q9 ⊢
    refine thnF (pe.run _ s9 σ8 H9 _ I9 q9) fun z s10 ⟨y,H10,I10,r10,S,k,ek,hD10,ad,nx⟩=> ?_
    subst ek
    exact addU (X:=X.blk s3 H3 scope ce fp) hu I10 hD10 r10 ad fun s11 I11=>fin I11 nx
 exact codeAny_compStart_set loop (T.self X.A 0 _ _ _ st4 loop)
end
end L3
namespace L3
open PySem PySem.Spec PyProof.Rows L2
open PySem.W (SortsAt AllAlike Sortable dataKind dataKind_inv EachIs alike keyToks dataLt)
def apart (d d':PyData):Prop:=∃a b r r',d= .tuple (.str a::r)∧d'= .tuple (.str b::r')∧a≠b
def AllApart (ds:List PyData):Prop:=∀d ∈ ds,∀d' ∈ ds,alike d d'=true∨apart d d'
def HasFirst (ds:List PyData):Prop:=∀d ∈ ds,∃a r,d= .tuple (.str a::r)
section
variable {prog:Program} {w:World} {A:Around} {E:Value→Shared→Prop} {s:Shared}
theorem reads_apart {h:Heap} {v:Value} {d d':PyData} {as bs:List Addr} (ha:apart d d') (r:Reads h v d as) (r':Reads h v d' bs):False:=by
 obtain⟨a,b,t,t',rfl,rfl,hn⟩:=ha
 cases r with
 | @tuple l o vs n _ _ g1 t1 k1 r1=>
   cases r' with
   | @tuple _ o' vs' n' _ _ g2 t2 k2 r2=>
     rw[g1] at g2
     cases g2
     rw[k1] at k2
     cases k2
     generalize vs.toList=us at r1 r2
     cases r1 with
     |cons p1 _=>
      cases r2 with
      |cons p2 _=>
       cases p1
       cases p2
       exact hn rfl
theorem apart_some {h:Heap} {ds:List PyData} (hal:AllApart ds) {v:Value} {d:PyData} {as:List Addr} (hd:d ∈ ds) (r:Reads h v d as):(dataKind h ds).keyOf v=some (keyToks d):=by
 have q:∃d,d ∈ ds∧∃as,Reads h v d as:=⟨d,hd,as,r⟩
 have e:(dataKind h ds).keyOf v=some (keyToks q.choose):=by
  show(open Classical in if q:∃d,d ∈ ds∧∃as,Reads h v d as then some (keyToks q.choose) else none)=_
  rw[dif_pos q]
 obtain⟨h1,as',h2⟩:=q.choose_spec
 rw[e]
 rcases hal _ h1 _ hd with ha|ha
 ·rw[PySem.W.alike_unique _ _ _ _ _ ha h2 r]
 ·exact(reads_apart ha h2 r).elim
theorem sorts_apart {vs:List Value} {ds:List PyData} (e:EachIs (fun v d=>∃as,Reads s.heap v d as) vs ds) (hal:AllApart ds) (hf:HasFirst ds) (hu:∀d,d ∈ ds→A.units+d.depth<cLine):SortsAt prog w A s (dataKind s.heap ds) vs:=by
 have room:∀ {d d':PyData},d ∈ ds→A.units+min d.depth d'.depth<cLine:=fun {d d'} hd=>Nat.lt_of_le_of_lt (Nat.add_le_add_left (Nat.min_le_left _ _) _) (hu d hd)
 refine⟨fun v hv=> ?_,?_⟩
 ·obtain⟨d,hd,as,r⟩:=e.left v hv
  exact⟨_,apart_some hal hd r⟩
 ·refine⟨tuples' true,?_,fun h2 E Q hq=> ?_⟩
  ·intro E x y a b Q ha hb hq
   obtain⟨d,as,hd,ra,rfl⟩:=dataKind_inv ha
   obtain⟨d',as',hd',rb,rfl⟩:=dataKind_inv hb
   have hdd:=hal d hd d' hd'
   have hroom:=room (d':=d') hd
   obtain⟨x1,r1,rfl⟩:=hf d hd
   obtain⟨x2,r2,rfl⟩:=hf d' hd'
   have hq':Q (dataLt (.tuple (.str x1::r1)) (.tuple (.str x2::r2))) s:=hq
   rw[PySem.W.dataLt_tuple] at hq'
   cases ra with
   | @tuple l o xs n _ _ h1 h2 h3 h4=>
     cases rb with
     | @tuple l' o' xs' n' _ _ k1 k2 k3 k4=>
       have n1:xs.size=(PyData.str x1::r1).length:=by simpa using SeqAt.ReadsAll.length _ _ _ h4
       have n2:xs'.size=(PyData.str x2::r2).length:=by simpa using SeqAt.ReadsAll.length _ _ _ k4
       refine PySem.W.kat_lt h1 h3 k1 k3 ?_
       rcases hdd with hdd|⟨a,b,t,t',e1,e2,hn⟩
       ·refine PySem.W.katLex_alike (.str x1::r1) (.str x2::r2) 0 _ _ _ _ h4 k4 (by simpa[alike] using hdd) (by have q:=SeqAt.room_in hroom;omega) (fun hb _ x r t ex=> ?_) (by rw[n1,n2]) hq'
        obtain⟨rfl,rfl⟩:=List.cons.inj ex
        simp
       ·cases e1
        cases e2
        have al:alike (.str x1) (.str x2)=true:=rfl
        have ne:PyData.eqv (.str x1) (.str x2)=false:=by simp[PyData.eqv,hn]
        rw[PySem.W.dataLt_all_no al ne] at hq'
        have hr:A.units+min (PyData.str x1).depth (PyData.str x2).depth<cLine:=by
         have:=hu _ hd
         simp only[PyData.depth] at this ⊢
         omega
        generalize xs.toList=us at h4
        generalize xs'.toList=us' at k4
        cases h4 with
        |cons p1 p2=>
         cases k4 with
         |cons q1 q2=>
          rw[List.zip_cons_cons]
          refine PySem.W.kat_cons (PySem.W.eqAt_alike _ _ A s _ _ _ _ p1 q1 al hr prog w _ _ ?_)
          rw[ne]
          exact PySem.W.kat_no (PySem.W.oneLt_alike (fun _ t=>by simp) p1 q1 al (by simp) hr hq')
  ·obtain⟨fs,t1,t2,t3⟩:=PySem.W.each_katTups e fun d hd=>by obtain⟨a,r,q⟩:=hf d hd;exact⟨_,r,q⟩
   refine PySem.W.kat_kind (T:=Value.type "str") t1 (by omega) (fun f hf'=> ?_) (beq_self_eq_true _) hq
   obtain⟨x,r,as,m1,m2⟩:=t3 f hf'
   obtain⟨a,r',q⟩:=hf _ m1
   cases q
   exact PySem.W.looks_reads m2
end
theorem sortVals_apart {β :Type} {h':Heap} {R:Value→ β →Prop} {enc: β →PyData} {vs:List Value} {bs:List β} (rev:Bool) (e:EachIs R vs bs) (er:EachIs (fun v b=>∃as,Reads h' v (enc b) as) vs bs) (hal:AllApart (bs.map enc)):
 EachIs R (PySem.W.sortVals (dataKind h' (bs.map enc)) rev vs vs) (bs.mergeSort (PySem.W.dataLe rev enc)):=
 PySem.W.sortVals_each (κ :=dataKind h' (bs.map enc)) (fun b=>keyToks (enc b)) e (PySem.W.each_of_map enc ((PySem.W.each_mem (PySem.W.each_map (R:=fun v d=>∃as,Reads h' v d as) enc er)).mono fun _ _ ⟨⟨_,r⟩,hd⟩=>apart_some hal hd r))
end L3
namespace L3
open PySem PySem.Spec PyProof.Rows L2
open PySem.W (SortsAt AllAlike EachIs dataKind)
mutual
def nkD:D→Option NestedKey
 | .non=>some .none
 | .int i=>some (.num i)
 | .str s=>some (.text s)
 | .tup l=>(nkDL l).map .tup
 | _=>none
def nkDL:List D→Option (List NestedKey)
 | [] =>some []
 |d::l=>match nkD d,nkDL l with
  |some k,some ks=>some (k::ks)
  | _,_=>none
end
mutual
theorem nk_kD:∀(d:D) (k:NestedKey),nkD d=some k→d=kD k
 | .non,_,h=>by simp only[nkD,Option.some.injEq] at h;subst h;simp only[kD]
 | .int _,_,h=>by simp only[nkD,Option.some.injEq] at h;subst h;simp only[kD]
 | .str _,_,h=>by simp only[nkD,Option.some.injEq] at h;subst h;simp only[kD]
 | .tup l,_,h=>by
   simp only[nkD,Option.map_eq_some_iff] at h
   obtain⟨ks,h1,rfl⟩:=h
   simp only[kD]
   rw[nkL_kD l ks h1]
 | .bl _,_,h=>by simp[nkD] at h
 | .lst _,_,h=>by simp[nkD] at h
 | .dic _ _,_,h=>by simp[nkD] at h
 | .obj _,_,h=>by simp[nkD] at h
 | .glb _,_,h=>by simp[nkD] at h
 | .ty _,_,h=>by simp[nkD] at h
 | .scr _,_,h=>by simp[nkD] at h
 | .kd _ _,_,h=>by simp[nkD] at h
 | .xcp _ _ _,_,h=>by simp[nkD] at h
 | .lam _ _,_,h=>by simp[nkD] at h
 | .wtp _,_,h=>by simp[nkD] at h
theorem nkL_kD:∀(l:List D) (ks:List NestedKey),nkDL l=some ks→l=kDL ks
 | [],_,h=>by simp only[nkDL,Option.some.injEq] at h;subst h;simp only[kDL]
 |d::l,_,h=>by
  simp only[nkDL] at h
  split at h
  ·rename_i k ks h1 h2
   cases h
   simp only[kDL]
   rw[nk_kD d k h1,nkL_kD l ks h2]
   all_goals rfl
  ·cases h
end
mutual
theorem kD_py:∀(k:NestedKey) (y:PyData),toPy (kD k)=some y→y=k.data
 | .none,y,h=>by simp only[kD,toPy,Option.some.injEq] at h;subst h;simp only[NestedKey.data]
 | .num i,y,h=>by simp only[kD,toPy,Option.some.injEq] at h;subst h;simp only[NestedKey.data]
 | .text x,y,h=>by
   simp only[kD,toPy] at h
   split at h
   ·cases h;simp only[NestedKey.data]
   ·cases h
 | .tup ks,y,h=>by
   simp only[kD,toPy,Option.map_eq_some_iff] at h
   obtain⟨ys,h1,rfl⟩:=h
   simp only[NestedKey.data]
   rw[kDL_py ks ys h1]
theorem kDL_py:∀(ks:List NestedKey) (ys:List PyData),toPyL (kDL ks)=some ys→ys=NestedKey.datas ks
 | [],_,h=>by simp only[kDL,toPyL,Option.some.injEq] at h;subst h;simp only[NestedKey.datas]
 |k::ks,_,h=>by
  simp only[kDL,toPyL] at h
  split at h
  ·rename_i x xs h1 h2
   cases h
   simp only[NestedKey.datas]
   rw[kD_py k x h1,kDL_py ks xs h2]
  ·cases h
end
def ddK:List NestedKey→List NestedKey
 | [] => []
 |k::l=>if k ∈ l then ddK l else k::ddK l
theorem ddK_mem:∀ {l:List NestedKey} {x:NestedKey},x ∈ ddK l↔x ∈ l
 | [],x=>by simp[ddK]
 |k::l,x=>by
  unfold ddK
  split
  ·rename_i h
   rw[ddK_mem (l:=l),List.mem_cons]
   exact⟨.inr,fun h'=>h'.elim (fun e=>e▸h) id⟩
  ·rw[List.mem_cons,List.mem_cons,ddK_mem (l:=l)]
theorem ddK_nodup:∀l:List NestedKey,(ddK l).Nodup
 | [] =>by simp[ddK]
 |k::l=>by
  unfold ddK
  split
  ·exact ddK_nodup l
  ·rename_i h
   exact List.nodup_cons.mpr ⟨fun h'=>h (ddK_mem.mp h'),ddK_nodup l⟩
def keyN:L2.Key→NestedKey
 | .inl i=> .num i
 | .inr x=> .text x
def keyU:Elt→NestedKey
 | .inl k=>keyN k
 | .inr p=>p.2
def isTN:NestedKey→Bool
 | .num _=>true
 | .text _=>true
 | _=>false
def isTp:NestedKey→Bool
 | .tup _=>true
 | _=>false
def okSt (l:List D):Bool:=decide (l.length≤sizeLine)&&(l.all fun d=>(toPy d).isSome&&decide ((encD d).depth≤40))&&(l.all fun a=>l.all fun b=>PySem.W.alike (encD a) (encD b))&&((l.all fun d=>isTup1 (encD d)) || (l.all fun d=>isOther (encD d)))
def noTie (ks:List NestedKey):Bool:=ks.all fun a=>ks.all fun b=>decide (a=b) || !(srtLe (kD a) (kD b)&&srtLe (kD b) (kD a))
def fstT:PyData→Option Str
 | .tuple (.str x::_)=>some x
 | _=>none
def okFs (l:List D):Bool:=decide (l.length≤sizeLine)&&(l.all fun d=>(toPy d).isSome&&decide ((encD d).depth≤40))&&(l.all fun d=>(fstT (encD d)).isSome)&&(l.all fun a=>l.all fun b=>PySem.W.alike (encD a) (encD b) || decide (fstT (encD a)≠fstT (encD b)))
def okSd (l:List D):Bool:=okSt l || okFs l || (decide (l.length≤1)&&sortOk l)
theorem okSd_of {l:List D} (h:okSt l=true):okSd l=true:=by simp[okSd,h]
theorem okSd_fs {l:List D} (h:okFs l=true):okSd l=true:=by simp[okSd,h]
theorem okSd_py {l:List D} (h:okSd l=true) {d:D} (hd:d ∈ l):(toPy d).isSome=true:=by
 simp only[okSd,Bool.or_eq_true,Bool.and_eq_true] at h
 rcases h with(h|h)|h
 ·simp only[okSt,Bool.and_eq_true,List.all_eq_true] at h
  exact(h.1.1.2 d hd).1
 ·simp only[okFs,Bool.and_eq_true,List.all_eq_true] at h
  exact(h.1.1.2 d hd).1
 ·simp only[sortOk,Bool.and_eq_true,List.all_eq_true] at h
  exact(h.2.1.1.2 d hd).1
def okSet (ks:List NestedKey):Bool:=((ks.all isTN&&decide (ks.length≤4000)) || (ks.all isTp&&(ks.all fun k=>decide (k.depth≤8))&&decide (ks.length<1200)))&&okSd ((ddK ks).map kD)&&noTie (ddK ks)
def sortSetD:F1:=fun x S=>match x with
 | .lst l=>match nkDL l with
   |some ks=>if okSet ks=true then .ok (.lst (sortL ((ddK ks).map kD))) S else .bad
   |none=> .bad
 | _=> .bad
theorem okS_perm {l m:List D} (p:m.Perm l) (h:okSt l=true):sortOk m=true:=by
 simp only[okSt,sortOk,Bool.and_eq_true,List.all_eq_true,decide_eq_true_eq,Bool.or_eq_true] at h ⊢
 obtain⟨⟨⟨h1,h2⟩,h3⟩,h4⟩:=h
 refine⟨⟨⟨by rw[p.length_eq];exact h1,fun d hd=>h2 d (p.mem_iff.mp hd)⟩,fun a ha b hb=>h3 a (p.mem_iff.mp ha) b (p.mem_iff.mp hb)⟩, .inl ?_⟩
 exact h4.imp (fun h d hd=>h d (p.mem_iff.mp hd)) (fun h d hd=>h d (p.mem_iff.mp hd))
theorem okFs_perm {l m:List D} (p:m.Perm l) (h:okFs l=true):okFs m=true:=by
 simp only[okFs,Bool.and_eq_true,List.all_eq_true,decide_eq_true_eq] at h ⊢
 obtain⟨⟨⟨h1,h2⟩,h3⟩,h4⟩:=h
 exact⟨⟨⟨by rw[p.length_eq];exact h1,fun d hd=>h2 d (p.mem_iff.mp hd)⟩,fun d hd=>h3 d (p.mem_iff.mp hd)⟩,fun a ha b hb=>h4 a (p.mem_iff.mp ha) b (p.mem_iff.mp hb)⟩
structure SrtOk (l:List D):Prop where
 len:l.length≤sizeLine
 py:∀d ∈ l,(toPy d).isSome=true
 kind:∀ {prog:Program} {ww:World} {A:Around} {s:Shared} {us:List Value},EachIs (fun u d=>∃as,Reads s.heap u (encD d) as) us l→A.units+42<cLine→SortsAt prog ww A s (dataKind s.heap (l.map encD)) us
 vals:∀ {h':Heap} {R:Value→D→Prop} {vs:List Value},EachIs R vs l→EachIs (fun v b=>∃as,Reads h' v (encD b) as) vs l→EachIs R (PySem.W.sortVals (dataKind h' (l.map encD)) false vs vs) (l.mergeSort (PySem.W.dataLe false encD))
theorem srt_old {l:List D} (h:sortOk l=true):SrtOk l:=by
 have h':=h
 simp only[sortOk,Bool.and_eq_true,List.all_eq_true,decide_eq_true_eq] at h'
 have al:AllAlike (l.map encD):=fun x hx y hy=>by
  obtain⟨a,ha,rfl⟩:=List.mem_map.mp hx
  obtain⟨b,hb,rfl⟩:=List.mem_map.mp hy
  exact h'.1.2 a ha b hb
 exact⟨h'.1.1.1,fun d hd=>(h'.1.1.2 d hd).1,fun e hu=>sort_kind h e hu,fun e er=>PySem.W.sortVals_data false e er al⟩
theorem fstT_some {d:PyData} {x:Str} (h:fstT d=some x):∃r,d= .tuple (.str x::r):=by
 unfold fstT at h
 split at h
 ·cases h;exact⟨_,rfl⟩
 ·cases h
theorem srt_fs {l:List D} (h:okFs l=true):SrtOk l:=by
 simp only[okFs,Bool.and_eq_true,List.all_eq_true,decide_eq_true_eq,Bool.or_eq_true] at h
 obtain⟨⟨⟨h1,h2⟩,h3⟩,h4⟩:=h
 have hf:HasFirst (l.map encD):=fun d hd=>by
  obtain⟨a,ha,rfl⟩:=List.mem_map.mp hd
  obtain⟨x,hx⟩:=Option.isSome_iff_exists.mp (h3 a ha)
  obtain⟨r,e⟩:=fstT_some hx
  exact⟨x,r,e⟩
 have al:AllApart (l.map encD):=fun x hx y hy=>by
  obtain⟨a,ha,rfl⟩:=List.mem_map.mp hx
  obtain⟨b,hb,rfl⟩:=List.mem_map.mp hy
  rcases h4 a ha b hb with q|q
  ·exact .inl q
  ·obtain⟨x,r,e⟩:=hf _ hx
   obtain⟨y,t,e'⟩:=hf _ hy
   refine .inr ⟨x,y,r,t,e,e',?_⟩
   rintro rfl
   rw[e,e'] at q
   exact q rfl
 exact⟨h1,fun d hd=>(h2 d hd).1,fun e hu=>sorts_apart (PySem.W.each_map (R:=fun u d=>∃as,Reads _ u d as) encD e) al hf (fun x hx=>by
  obtain⟨a,ha,rfl⟩:=List.mem_map.mp hx
  have:=(h2 a ha).2
  omega),fun e er=>sortVals_apart false e er al⟩
theorem srt_of {l m:List D} (p:m.Perm l) (h:okSd l=true):SrtOk m:=by
 simp only[okSd,Bool.or_eq_true,Bool.and_eq_true,decide_eq_true_eq] at h
 rcases h with(h|h)|⟨h1,h2⟩
 ·exact srt_old (okS_perm p h)
 ·exact srt_fs (okFs_perm p h)
 ·have e:m=l:=by
   cases l with
   |nil=>exact p.eq_nil
   |cons a l=>
    cases l with
    |nil=>exact List.perm_singleton.mp p
    |cons b l=>simp at h1
  rw[e]
  exact srt_old h2
theorem sTr (a b c:D) (h1:srtLe a b=true) (h2:srtLe b c=true):srtLe a c=true:=by
 unfold srtLe PySem.W.dataLt at*
 simp only[Bool.not_eq_true'] at*
 cases h:PyProof.Rows.lexLt itemOrd (PySem.W.keyToks (encD c)) (PySem.W.keyToks (encD a)) with
 |false=>rfl
 |true=>
  rcases(PyProof.Rows.listOrd itemOrd).negTrans _ (PySem.W.keyToks (encD b)) _ h with h|h
  ·exact absurd (h2.symm.trans h) (by simp)
  ·exact absurd (h1.symm.trans h) (by simp)
theorem sTo (a b:D):(srtLe a b || srtLe b a)=true:=by
 unfold srtLe PySem.W.dataLt
 cases h1:PyProof.Rows.lexLt itemOrd (PySem.W.keyToks (encD b)) (PySem.W.keyToks (encD a)) with
 |false=>rfl
 |true=>
  cases h2:PyProof.Rows.lexLt itemOrd (PySem.W.keyToks (encD a)) (PySem.W.keyToks (encD b)) with
  |false=>rfl
  |true=>
   have:=(PyProof.Rows.listOrd itemOrd).trans _ _ _ h1 h2
   rw[(PyProof.Rows.listOrd itemOrd).irrefl] at this
   cases this
theorem sortK_perm {ks:List NestedKey} (h:noTie ks=true) {m:List D} (p:m.Perm (ks.map kD)):m.mergeSort srtLe=sortL (ks.map kD):=by
 unfold sortL
 have q:(m.mergeSort srtLe).Perm ((ks.map kD).mergeSort srtLe):=(List.mergeSort_perm _ _).trans (p.trans (List.mergeSort_perm _ _).symm)
 refine List.Perm.eq_of_pairwise (le:=fun a b=>srtLe a b=true) ?_ (List.pairwise_mergeSort sTr sTo _) (List.pairwise_mergeSort sTr sTo _) q
 intro a b ha hb h1 h2
 obtain⟨x,hx,rfl⟩:=List.mem_map.mp (p.mem_iff.mp ((List.mergeSort_perm _ _).mem_iff.mp ha))
 obtain⟨y,hy,rfl⟩:=List.mem_map.mp ((List.mergeSort_perm _ _).mem_iff.mp hb)
 simp only[noTie,List.all_eq_true,Bool.or_eq_true,decide_eq_true_eq,Bool.not_eq_true',Bool.and_eq_false_iff] at h
 rcases h x hx y hy with e|e|e
 ·rw[e]
 ·rw[h1] at e;cases e
 ·rw[h2] at e;cases e
theorem each_perm {α β :Type} {R: α → β →Prop} {vs us:List α} (p:vs.Perm us):∀ {bs:List β},EachIs R us bs→∃bs',bs'.Perm bs∧EachIs R vs bs':=by
 induction p with
 |nil=>intro bs e;cases e;exact⟨[], .refl _, .nil⟩
 |cons x _ ih=>
  intro bs e
  cases e with
  |cons r e=>
   obtain⟨bs',p',e'⟩:=ih e
   exact⟨_,p'.cons _, .cons r e'⟩
 |swap x y l=>
  intro bs e
  cases e with
  |cons r1 e=>cases e with
   |cons r2 e=>exact⟨_,List.Perm.swap _ _ _, .cons r2 (.cons r1 e)⟩
 |trans _ _ ih1 ih2=>
  intro bs e
  obtain⟨b1,p1,e1⟩:=ih2 e
  obtain⟨b2,p2,e2⟩:=ih1 e1
  exact⟨b2,p2.trans p1,e2⟩
def EltRep (G:GC) (w:Wd) (d:D) (e:Elt):Prop:=nkD d=some (keyU e)∧Rep G w d (valU e)
end L3
namespace L3
open PySem
theorem nrfl {α :Sort u} {a b: α} (h:a=b):a=b:=h
inductive All2 {α β :Type} (P: α → β →Prop):List α →List β →Prop where
 |nil:All2 P [] []
 |cons {x y xs ys} :P x y→All2 P xs ys→All2 P (x::xs) (y::ys)
theorem All2.imp {α β :Type} {P R: α → β →Prop} {xs ys} (h:All2 P xs ys) (m:∀x ∈ xs,∀y,P x y→R x y):All2 R xs ys:=by
 induction h with
 |nil=>exact .nil
 |cons p _ ih=>exact .cons (m _ (List.mem_cons_self ..) _ p) (ih fun x hx=>m x (List.mem_cons_of_mem _ hx))
theorem All2.app {α β :Type} {P: α → β →Prop} {xs xs' ys ys'} (h:All2 P xs ys) (g:All2 P xs' ys'):All2 P (xs++xs') (ys++ys'):=by
 induction h with
 |nil=>exact g
 |cons p _ ih=>exact .cons p ih
theorem All2.len {α β :Type} {P: α → β →Prop} {xs ys} (h:All2 P xs ys):ys.length=xs.length:=by induction h<;>simp_all
inductive R.sat {α :Type} :R α →(α →Store→Prop)→Prop where
 |mk {a: α} {S:Store} {Q: α →Store→Prop} (h:Q a S):R.sat (.ok a S) Q
section
variable {α β :Type} {S:Store} {env:EnvD} {d:D}
@[simp] theorem sat_ok {a: α} {Q: α →Store→Prop} :(R.ok a S).sat Q=Q a S:=propext ⟨fun h=>by cases h;assumption, .mk⟩
@[simp] theorem sat_bad {Q: α →Store→Prop} :(R.bad:R α).sat Q=False:=propext ⟨fun h=>(by cases h),False.elim⟩
@[simp] theorem sat_exc {e:Ex} {Q: α →Store→Prop} :(R.exc e S:R α).sat Q=False:=propext ⟨fun h=>(by cases h),False.elim⟩
theorem sat_bind {r:R α} {f: α →Store→R β} {Q: β →Store→Prop} :(r.bind f).sat Q=r.sat fun a S=>(f a S).sat Q:=by cases r<;>simp[R.bind]
theorem sat_mono {r:R α} {Q Q': α →Store→Prop} (h:r.sat Q) (m:∀a S,Q a S→Q' a S):r.sat Q':=by cases h with|mk h=>exact .mk (m _ _ h)
theorem sat_ex {r:R α} {Q: α →Store→Prop} :r.sat Q↔∃a S,r= .ok a S∧Q a S:=
 ⟨fun h=>by cases h with|mk h=>exact⟨_,_,rfl,h⟩,fun⟨_,_,e,h⟩=>by rw[e];exact .mk h⟩
theorem sat_if_bad {c:Prop} [Decidable c] {a:R α} {Q: α →Store→Prop} :(if c then a else .bad).sat Q=(c∧a.sat Q):=by by_cases h:c<;>simp[h]
def blD (x:D) (S:Store):R Bool:=match x with
 | .bl k=> .ok k S
 | _=> .bad
@[simp] theorem blD_bl {k:Bool} :blD (.bl k) S= .ok k S:=nrfl rfl
theorem of_sat {r:R α} {x: α} (h:r.sat fun d S'=>d=x∧S'=S):r= .ok x S:=by
 obtain⟨a,S',e,rfl,rfl⟩:=sat_ex.mp h
 exact e
variable {Q:D→Store→Prop} {QB:Bool→Store→Prop} {QL:List D→Store→Prop}
@[simp] theorem sat_eVar {i:Nat} :(eVar i env S).sat Q=match env[i]? with
   |some (some d)=>Q d S
   | _=>False:=by unfold eVar;cases env[i]? with
  |none=>simp
  |some o=>cases o<;>simp
@[simp] theorem sat_eK:(eK d env S).sat Q=Q d S:=sat_ok
@[simp] theorem sat_e1 {f:L3.F1} {a:ED} :(e1 f a env S).sat Q=(a env S).sat fun x S1=>(f x S1).sat Q:=sat_bind
@[simp] theorem sat_e2 {f:L3.F2} {a b:ED} :(e2 f a b env S).sat Q=(a env S).sat fun x S1=>(b env S1).sat fun y S2=>(f x y S2).sat Q:=by unfold e2;rw[sat_bind];simp only[sat_bind]
@[simp] theorem sat_aNil:(aNil env S).sat QL=QL [] S:=sat_ok
@[simp] theorem sat_aCons {a:ED} {r:AD} :(aCons a r env S).sat QL=(a env S).sat fun x S1=>(r env S1).sat fun xs S2=>QL (x::xs) S2:=by unfold aCons;rw[sat_bind];simp only[sat_bind,sat_ok]
@[simp] theorem sat_eN {f:FN} {a:AD} :(eN f a env S).sat Q=(a env S).sat fun xs S1=>(f xs S1).sat Q:=sat_bind
@[simp] theorem sat_eIf {c:TD} {a b:ED} :(eIf c a b env S).sat Q=(c env S).sat fun k S1=>if k=true then(a env S1).sat Q else(b env S1).sat Q:=by
  unfold eIf;rw[sat_bind];congr;funext k S1;cases k<;>simp
@[simp] theorem sat_tOfE {a:ED} :(tOfE a env S).sat QB=(a env S).sat fun x S1=>(blD x S1).sat QB:=by
  unfold tOfE;rw[sat_bind];congr
@[simp] theorem sat_tTruth {a:ED} :(tTruth a env S).sat QB=(a env S).sat fun x S1=>(truthD x S1).sat QB:=sat_bind
@[simp] theorem truthD_bl {k:Bool} :truthD (.bl k) S= .ok k S:=nrfl rfl
@[simp] theorem truthD_non:truthD .non S= .ok false S:=nrfl rfl
@[simp] theorem truthD_int {i:Int} :truthD (.int i) S= .ok (i != 0) S:=nrfl rfl
@[simp] theorem truthD_tup {l:List D} :truthD (.tup l) S= .ok (!l.isEmpty) S:=nrfl rfl
@[simp] theorem truthD_lst {l:List D} :truthD (.lst l) S= .ok (!l.isEmpty) S:=nrfl rfl
@[simp] theorem sat_tNot {a:TD} :(tNot a env S).sat QB=(a env S).sat fun k S1=>QB (!k) S1:=by unfold tNot;rw[sat_bind];simp only[sat_ok]
@[simp] theorem sat_tAnd {a b:TD} :(tAnd a b env S).sat QB=(a env S).sat fun k S1=>if k=true then(b env S1).sat QB else QB false S1:=by
  unfold tAnd;rw[sat_bind];congr;funext k S1;cases k<;>simp
@[simp] theorem sat_tOr {a b:TD} :(tOr a b env S).sat QB=(a env S).sat fun k S1=>if k=true then QB true S1 else(b env S1).sat QB:=by
  unfold tOr;rw[sat_bind];congr;funext k S1;cases k<;>simp
@[simp] theorem sat_eNot {a:ED} :(eNot a env S).sat Q=(a env S).sat fun x S1=>(blD x S1).sat fun k S2=>Q (.bl (!k)) S2:=by
  unfold eNot;rw[sat_bind,sat_tOfE];simp only[sat_ok]
@[simp] theorem sat_eAnd {a b:ED} :(eAnd a b env S).sat Q=(a env S).sat fun x S1=>(blD x S1).sat fun k S2=>if k=true then(b env S2).sat Q else Q (.bl false) S2:=by
  unfold eAnd;rw[sat_bind,sat_tOfE];congr;funext x S1;congr;funext k S2;cases k<;>simp
@[simp] theorem sat_eOr {a b:ED} :(eOr a b env S).sat Q=(a env S).sat fun x S1=>(blD x S1).sat fun k S2=>if k=true then Q (.bl true) S2 else(b env S2).sat Q:=by
  unfold eOr;rw[sat_bind,sat_tOfE];congr;funext x S1;congr;funext k S2;cases k<;>simp
@[simp] theorem sat_eChain {f g:L3.F2} {a b c:ED} :(eChain f g a b c env S).sat Q=(a env S).sat fun x S1=>(b env S1).sat fun y S2=>(f x y S2).sat fun r S3=>(blD r S3).sat fun k S4=>if k=true then(c env S4).sat fun z S5=>(g y z S5).sat Q else Q (.bl false) S4:=by
  unfold eChain;rw[sat_bind];simp only[sat_bind];congr;funext x S1;congr;funext y S2;congr;funext r S3
  cases r with
  |bl k=>cases k<;>simp[sat_bind]
  | _=>simp[blD]
@[simp] theorem sat_eBM {T:String} {f:D→FN} {o:ED} {a:AD} :(eBM T f o a env S).sat Q=(o env S).sat fun x S1=>(mtD x S1=some T∧(a env S1).sat fun xs S2=>(f x xs S2).sat Q):=by
  unfold eBM;rw[sat_bind];congr;funext x S1;rw[sat_if_bad,sat_bind]
@[simp] theorem sat_eKw {f:List D→FN} {a b:AD} :(eKw f a b env S).sat Q=(a env S).sat fun xs S1=>(b env S1).sat fun zs S2=>(f xs zs S2).sat Q:=by unfold eKw;rw[sat_bind];simp only[sat_bind]
@[simp] theorem sat_eFnL {i:Nat} {x:Str} {F:FN} {a:AD} :(eFnL i x F a env S).sat Q=match env[i]? with
   |some (some (.glb y))=>y=x∧(a env S).sat fun xs S1=>(F xs S1).sat Q
   | _=>False:=by
  unfold eFnL
  cases env[i]? with
  |none=>simp
  |some o=>
   cases o with
   |none=>simp
   |some d=>
    cases d with
    |glb y=>simp only [];rw[sat_if_bad,sat_bind]
    | _=>simp
@[simp] theorem callK_eq {F:FN} {dds xs:List D} :callK F dds xs S=F (xs++dds) S:=nrfl rfl
@[simp] theorem sat_iSeq {a:ED} :(iSeq a env S).sat QL=(a env S).sat fun x S1=>(itemsD x S1).sat QL:=sat_bind
@[simp] theorem sat_iArgs {f:List D→Store→R (List D)} {a:AD} :(iArgs f a env S).sat QL=(a env S).sat fun xs S1=>(f xs S1).sat QL:=sat_bind
@[simp] theorem itemsD_lst {l:List D} :itemsD (.lst l) S= .ok l S:=nrfl rfl
@[simp] theorem itemsD_tup {l:List D} :itemsD (.tup l) S= .ok l S:=nrfl rfl
@[simp] theorem sat_range1 {j:Int} :(range1 [.int j] S).sat QL=(okRng j=true∧QL (rangeD 0 j) S):=by unfold range1;simp only [];rw[sat_if_bad,sat_ok]
@[simp] theorem sat_range2 {i j:Int} :(range2 [.int i, .int j] S).sat QL=((okRng i&&okRng j)=true∧QL (rangeD i j) S):=by unfold range2;simp only [];rw[sat_if_bad,sat_ok]
@[simp] theorem sat_mkTup {xs:List D} :(mkTup xs S).sat Q=(xs.length≤sizeLine∧Q (.tup xs) S):=by unfold mkTup;rw[sat_if_bad,sat_ok]
@[simp] theorem sat_mkLst {xs:List D} :(mkLst xs S).sat Q=(xs.length≤sizeLine∧Q (.lst xs) S):=by unfold mkLst;rw[sat_if_bad,sat_ok]
@[simp] theorem sat_mkObj {xs:List D} :(mkObj xs S).sat Q=(xs.length≤sizeLine∧Q (.obj S.length) (S++ [.lst xs])):=by unfold mkObj;rw[sat_if_bad,sat_ok]
def lcSat (g:GD) (tt:TD) (te:ED) (env:EnvD):List D→Store→(List D→Store→Prop)→Prop
 | [],S,Q=>Q [] S
 |x::xs,S,Q=>match g x env S with
  | .nx env1 S1=>(tt env1 S1).sat fun k S2=>if k=true then(te env1 S2).sat fun y S3=>lcSat g tt te env xs S3 fun ys S4=>Q (y::ys) S4 else lcSat g tt te env xs S2 Q
  | _=>False
theorem sat_nox {r:R α} {Q: α →Store→Prop} :r.nox.sat Q=r.sat Q:=by cases r<;>simp[R.nox]
theorem sat_lcL {g:GD} {tt:TD} {te:ED} {env:EnvD} :∀ {xs:List D} {S:Store} {Q:List D→Store→Prop},(lcL g tt te env xs S).sat Q=lcSat g tt te env xs S Q
 | [],_,_=>sat_ok
 |x::xs,S,Q=>by
  unfold lcL lcSat
  cases g x env S with
  |nx env1 S1=>
   simp only
   rw[sat_bind,sat_nox]
   congr;funext k S2
   cases k with
   |true=>simp only[if_true];rw[sat_bind,sat_nox];congr;funext y S3;rw[sat_bind,sat_lcL];simp only[sat_ok]
   |false=>simp only[Bool.false_eq_true,if_false];exact sat_lcL
  | _=>simp
theorem sat_eLc {mi:ID} {vs:List Nat} {g:GD} {tt:TD} {te:ED} :(eLc mi vs g tt te env S).sat Q=(mi env S).sat fun xs S1=>(xs.length≤sizeLine∧lcSat g tt te (wipeD env vs) xs S1 fun ys S2=>Q (.lst ys) S2):=by
 unfold eLc;rw[sat_bind];congr;funext xs S1;rw[sat_if_bad,sat_bind,sat_lcL];simp only[sat_ok]
theorem lc_rule {i:Nat} {te:ED} {env:EnvD} (I:Store→Prop) (P:D→D→Prop):∀ {xs:List D} {S:Store} {Q:List D→Store→Prop},
 I S→(∀ x ∈ xs,∀S,I S→(te (env.set i (some x)) S).sat fun y S'=>P x y∧I S')→(∀ ys S',I S'→All2 P xs ys→Q ys S')→lcSat (gName i) tYesD te env xs S Q
 | [],S,Q,hI,ht,hQ=>hQ [] S hI .nil
 |x::xs,S,Q,hI,ht,hQ=>by
  unfold lcSat
  simp only[gName,tYesD,sat_ok,if_true]
  refine sat_mono (ht x (List.mem_cons_self ..) S hI) fun y S3 h=> ?_
  exact lc_rule I P h.2 (fun x hx=>ht x (List.mem_cons_of_mem _ hx)) fun ys S' h1 h2=>hQ _ _ h1 (.cons h.1 h2)
theorem lc_map {i:Nat} {te:ED} {env:EnvD} (f:D→D) {xs:List D} {S:Store} {Q:List D→Store→Prop}
 (ht:∀x ∈ xs,(te (env.set i (some x)) S).sat fun y S'=>y=f x∧S'=S) (hQ:Q (xs.map f) S):lcSat (gName i) tYesD te env xs S Q:=by
 induction xs generalizing Q with
 |nil=>exact hQ
 |cons x xs ih=>
  unfold lcSat
  simp only[gName,tYesD,sat_ok,if_true]
  refine sat_mono (ht x (List.mem_cons_self ..)) fun y S' h=> ?_
  obtain⟨rfl,rfl⟩:=h
  exact ih (fun x hx=>ht x (List.mem_cons_of_mem _ hx)) hQ
end
inductive SR.sat:SR→(EnvD→Store→Prop)→(D→Store→Prop)→(EnvD→Store→Prop)→(EnvD→Store→Prop)→Prop where
 |nx {e S} {N:EnvD→Store→Prop} {T:D→Store→Prop} {B C:EnvD→Store→Prop} (h:N e S):SR.sat (.nx e S) N T B C
 |ret {d S} {N:EnvD→Store→Prop} {T:D→Store→Prop} {B C:EnvD→Store→Prop} (h:T d S):SR.sat (.ret d S) N T B C
 |brk {e S} {N:EnvD→Store→Prop} {T:D→Store→Prop} {B C:EnvD→Store→Prop} (h:B e S):SR.sat (.brk e S) N T B C
 |ct {e S} {N:EnvD→Store→Prop} {T:D→Store→Prop} {B C:EnvD→Store→Prop} (h:C e S):SR.sat (.ct e S) N T B C
section
variable {S:Store} {env:EnvD} {d:D} {N B C:EnvD→Store→Prop} {T:D→Store→Prop} {Q:D→Store→Prop}
@[simp] theorem ssat_nx:(SR.nx env S).sat N T B C=N env S:=propext ⟨fun h=>by cases h;assumption, .nx⟩
@[simp] theorem ssat_ret:(SR.ret d S).sat N T B C=T d S:=propext ⟨fun h=>by cases h;assumption, .ret⟩
@[simp] theorem ssat_brk:(SR.brk env S).sat N T B C=B env S:=propext ⟨fun h=>by cases h;assumption, .brk⟩
@[simp] theorem ssat_ct:(SR.ct env S).sat N T B C=C env S:=propext ⟨fun h=>by cases h;assumption, .ct⟩
@[simp] theorem ssat_bad:SR.bad.sat N T B C=False:=propext ⟨fun h=>(by cases h),False.elim⟩
@[simp] theorem ssat_exc {e:Ex} :(SR.exc e env S).sat N T B C=False:=propext ⟨fun h=>(by cases h),False.elim⟩
theorem ssat_toS {α :Type} {r:R α} {k: α →Store→SR} :(r.toS env k).sat N T B C=r.sat fun a S=>(k a S).sat N T B C:=by cases r<;>simp[R.toS]
theorem ssat_mono {r:SR} {N' B' C':EnvD→Store→Prop} {T':D→Store→Prop} (h:r.sat N T B C) (hN:∀e S,N e S→N' e S) (hT:∀d S,T d S→T' d S) (hB:∀e S,B e S→B' e S) (hC:∀e S,C e S→C' e S):r.sat N' T' B' C':=by
 cases h with
 |nx h=>exact .nx (hN _ _ h)
 |ret h=>exact .ret (hT _ _ h)
 |brk h=>exact .brk (hB _ _ h)
 |ct h=>exact .ct (hC _ _ h)
@[simp] theorem ssat_skip:(sSkip env S).sat N T B C=N env S:=ssat_nx
@[simp] theorem ssat_seq {a b:SD} :(sSeq a b env S).sat N T B C=(a env S).sat (fun e S=>(b e S).sat N T B C) T B C:=by
  unfold sSeq;cases a env S<;>simp
@[simp] theorem ssat_if {c:TD} {a b:SD} :(sIf c a b env S).sat N T B C=(c env S).sat fun k S1=>if k=true then(a env S1).sat N T B C else(b env S1).sat N T B C:=by
  unfold sIf;rw[ssat_toS];congr;funext k S1;cases k<;>simp
@[simp] theorem ssat_sRet {a:ED} :(sRet a env S).sat N T B C=(a env S).sat T:=by unfold sRet;rw[ssat_toS];simp only[ssat_ret]
@[simp] theorem ssat_sExpr {a:ED} :(sExpr a env S).sat N T B C=(a env S).sat fun _ S1=>N env S1:=by unfold sExpr;rw[ssat_toS];simp only[ssat_nx]
@[simp] theorem ssat_sBrk:(sBrk env S).sat N T B C=B env S:=ssat_brk
@[simp] theorem ssat_sCt:(sCt env S).sat N T B C=C env S:=ssat_ct
@[simp] theorem ssat_asg {a:ED} {g:GD} :(sAsg a g env S).sat N T B C=(a env S).sat fun d S1=>(g d env S1).sat N T B C:=by unfold sAsg;rw[ssat_toS]
@[simp] theorem gName_eq {i:Nat} :gName i d env S= .nx (env.set i (some d)) S:=nrfl rfl
@[simp] theorem gTup_wtp {is:List Nat} {l:List Int} :gTup is (.wtp l) env S=gNames is (l.map D.int) env S:=nrfl rfl
@[simp] theorem gTup_tup {is:List Nat} {l:List D} :gTup is (.tup l) env S=gNames is l env S:=nrfl rfl
@[simp] theorem gNames_nil:gNames [] [] env S= .nx env S:=nrfl rfl
@[simp] theorem gNames_cons {i:Nat} {is:List Nat} {ds:List D} :gNames (i::is) (d::ds) env S=gNames is ds (env.set i (some d)) S:=nrfl rfl
@[simp] theorem ssat_par {is:List Nat} {a:AD} :(sPar is a env S).sat N T B C=(a env S).sat fun xs S1=>(gNames is xs env S1).sat N T B C:=by unfold sPar;rw[ssat_toS]
theorem ssat_for {mi:ID} {g:GD} {body:SD} :(sFor mi g body env S).sat N T B C=(mi env S).sat fun xs S1=>(forL g body xs env S1).sat N T B C:=by unfold sFor;rw[ssat_toS]
@[simp] theorem forL_nil {g:GD} {body:SD} :(forL g body [] env S).sat N T B C=N env S:=ssat_nx
theorem forL_cons {g:GD} {body:SD} {x:D} {xs:List D} :(forL g body (x::xs) env S).sat N T B C=(g x env S).sat (fun e S=>(body e S).sat (fun e S=>(forL g body xs e S).sat N T B C) T N (fun e S=>(forL g body xs e S).sat N T B C)) (fun _ _=>False) (fun _ _=>False) fun _ _=>False:=by
 show SR.sat (match g x env S with
  | .nx env1 S1=>match body env1 S1 with
    | .nx env2 S2=>forL g body xs env2 S2
    | .ct env2 S2=>forL g body xs env2 S2
    | .brk env2 S2=> .nx env2 S2
    | .ret d S2=> .ret d S2
    | .exc e env2 S2=> .exc e env2 S2
    | .bad=> .bad
  | _=> .bad) N T B C=_
 cases g x env S with
 |nx env1 S1=>simp only[ssat_nx];cases body env1 S1<;>simp
 | _=>simp
theorem for_rule {g:GD} {body:SD} (I:Nat→EnvD→Store→Prop) {xs:List D} (h0:I 0 env S)
 (hs:∀j (hj:j<xs.length) e S,I j e S→(g xs[j] e S).sat (fun e S=>(body e S).sat (I (j+1)) T N (I (j+1))) (fun _ _=>False) (fun _ _=>False) fun _ _=>False)
 (hN:∀e S,I xs.length e S→N e S):(forL g body xs env S).sat N T B C:=by
 induction xs generalizing I env S with
 |nil=>exact .nx (hN _ _ h0)
 |cons x xs ih=>
  rw[forL_cons]
  refine ssat_mono (hs 0 (by simp) env S h0) (fun e1 S1 h=> ?_) (fun _ _ h=>h) (fun _ _ h=>h) (fun _ _ h=>h)
  have go:∀e S,I 1 e S→(forL g body xs e S).sat N T B C:=fun e S h=>
   ih (fun j=>I (j+1)) h (fun j hj e S h=>by
    have:=hs (j+1) (by simp;omega) e S h
    simpa using this) (fun e S h=>hN e S (by simpa using h))
  exact ssat_mono h go (fun _ _ h=>h) (fun _ _ h=>h) go
theorem while_rule {c:TD} {body:SD} (I:Nat→EnvD→Store→Prop) {m k:Nat} (hk:m<k) (h0:I m env S)
 (hs:∀m e S,I m e S→(c e S).sat fun b S1=>if b=true then(body e S1).sat (fun e S=>∃m'<m,I m' e S) T N (fun e S=>∃m'<m,I m' e S) else N e S1):(sWhile c body k env S).sat N T B C:=by
 induction m using Nat.strongRecOn generalizing k env S with
 | _ m ih=>
   cases k with
   |zero=>omega
   |succ k=>
    unfold sWhile
    rw[ssat_toS]
    refine sat_mono (hs m env S h0) fun b S1 h=> ?_
    cases b with
    |false=>simpa using h
    |true=>
     simp only[if_true] at h ⊢
     have go:∀e S,(∃ m'<m,I m' e S)→(sWhile c body k e S).sat N T B C:=fun e S ⟨m',hm,h⟩=>ih m' hm (by omega) h
     revert h
     cases body env S1 with
     |nx e2 S2=>intro h;rw[ssat_nx] at h;exact go e2 S2 h
     |ct e2 S2=>intro h;rw[ssat_ct] at h;exact go e2 S2 h
     |brk e2 S2=>intro h;rw[ssat_brk] at h;exact .nx h
     |ret d S2=>intro h;rw[ssat_ret] at h;exact .ret h
     | _=>intro h;cases h
theorem sat_run {np n:Nat} {body:SD} {xs:List D} :(run np n body xs S).sat Q=(xs.length=np∧(body (xs.map some++List.replicate (n-xs.length) none) S).sat (fun _ S=>Q .non S) Q (fun _ _=>False) fun _ _=>False):=by
 unfold run;rw[sat_if_bad];congr
 cases body (xs.map some++List.replicate (n-xs.length) none) S<;>simp[SR.fin]
end
section
variable {S:Store} {Q:D→Store→Prop}
@[simp] theorem add_int {i j:Int} :addD (.int i) (.int j) S= .ok (.int (i+j)) S:=nrfl rfl
@[simp] theorem sub_int {i j:Int} :subD (.int i) (.int j) S= .ok (.int (i-j)) S:=nrfl rfl
@[simp] theorem neg_int {i:Int} :negD (.int i) S= .ok (.int (-i)) S:=nrfl rfl
@[simp] theorem lt_int {i j:Int} :ltD (.int i) (.int j) S= .ok (.bl (decide (i<j))) S:=nrfl rfl
@[simp] theorem le_int {i j:Int} :leD (.int i) (.int j) S= .ok (.bl (decide (i≤j))) S:=nrfl rfl
@[simp] theorem gt_int {i j:Int} :gtD (.int i) (.int j) S= .ok (.bl (decide (j<i))) S:=nrfl rfl
@[simp] theorem ge_int {i j:Int} :geD (.int i) (.int j) S= .ok (.bl (decide (j≤i))) S:=nrfl rfl
theorem mul_int {i j:Int} :(mulD (.int i) (.int j) S).sat Q=(mulOk i j=true∧Q (.int (i*j)) S):=by unfold mulD;simp only [];rw[sat_if_bad,sat_ok]
theorem fdiv_int {i j:Int} :(fdivD (.int i) (.int j) S).sat Q=((0<j∧j.natAbs.log2<9000)∧Q (.int (i / j)) S):=by unfold fdivD;simp only [];rw[sat_if_bad,sat_ok]
theorem mod_int {i j:Int} :(modD (.int i) (.int j) S).sat Q=(0<j∧Q (.int (i % j)) S):=by unfold modD;simp only [];rw[sat_if_bad,sat_ok]
theorem ibeq (i j:Int):(i==j)=decide (i=j):=by rw[Bool.eq_iff_iff];simp
theorem eq_int {i j:Int} :eqD (.int i) (.int j) S= .ok (.bl (decide (i=j))) S:=by
 show(if min 0 0≤64 then R.ok (D.bl (i==j)) S else .bad)=_
 simp[ibeq]
theorem ne_int {i j:Int} :neD (.int i) (.int j) S= .ok (.bl (decide (i≠j))) S:=by
 show(if min 0 0≤64 then R.ok (D.bl (!(i==j))) S else .bad)=_
 simp[ibeq]
@[simp] theorem len_tup {l:List D} :lenD [.tup l] S= .ok (.int l.length) S:=nrfl rfl
@[simp] theorem len_lst {l:List D} :lenD [.lst l] S= .ok (.int l.length) S:=nrfl rfl
@[simp] theorem len_scr {l:List Int} :lenD [.scr l] S= .ok (.int l.length) S:=nrfl rfl
theorem len_obj {n:Nat} {l:List D} (h:S[n]? =some (.lst l)):lenD [.obj n] S= .ok (.int l.length) S:=by simp[lenD,asL,h]
@[simp] theorem tuple_lst {l:List D} :tupleD [.lst l] S= .ok (.tup l) S:=nrfl rfl
@[simp] theorem tuple_tup {l:List D} :tupleD [.tup l] S= .ok (.tup l) S:=nrfl rfl
theorem mtD_obj {n:Nat} {l:List D} (h:S[n]? =some (.lst l)):mtD (.obj n) S=some "list" :=by simp[mtD,h]
@[simp] theorem rangeD_len {lo hi:Int} :(rangeD lo hi).length=(hi-lo).toNat:=by simp[rangeD]
@[simp] theorem rangeD_get {lo hi:Int} {j:Nat} (h:j<(rangeD lo hi).length):(rangeD lo hi)[j] = .int (lo+j):=by simp[rangeD]
theorem append_obj {n:Nat} {l:List D} {y:D} (h:S[n]? =some (.lst l)):(appendD (.obj n) [y] S).sat Q=(l.length<sizeLine∧Q .non (S.set n (.lst (l++ [y])))):=by
 unfold appendD;simp only[lstAt,h];rw[sat_if_bad,sat_ok]
end
end L3
namespace L3
open PySem PySem.Spec PyProof.Rows L2
open PySem.W (SortsAt AllAlike EachIs dataKind)
theorem keyN_inj {a b:L2.Key} (h:keyN a=keyN b):a=b:=by
 cases a<;>cases b<;>simp_all [keyN]
def Side (S:List Elt):Prop:=(∃ ks:List L2.Key,S=ks.map Sum.inl)∨∃kps:List (Addr × NestedKey),S=kps.map Sum.inr
theorem each_mapR {α β γ :Type} {R: α → γ →Prop} (f: β → γ):∀ {l:List β} {g: β → α},(∀ b ∈ l,R (g b) (f b))→EachIs R (l.map g) (l.map f)
 | [],_,_=> .nil
 |b::l,g,h=> .cons (h b List.mem_cons_self) (each_mapR f fun b hb=>h b (List.mem_cons_of_mem _ hb))
theorem set_out {P:Program} {w:World} {h:Heap} {a:Addr} {S:List Elt} (R:ObP P w a S h) (side:Side S) (hz:S.length≤4000):
 ∃o es ep t,h.get? a=some o∧o.cls= .type "set" ∧o.data= .set es ep t∧t.fits es.size=true∧es.size<scanBound∧Ris t.place.toList∧(w.params.followText "set-order" =true∨t.led=true)∧
  ∃L:List Elt,EachIs (fun v e=>RelV (valU e) v) (es.toList.map (·.2)) L∧(L.map keyU).Nodup∧(∀ e ∈ L,e ∈ S)∧∀e ∈ S,keyU e ∈ L.map keyU:=by
 rcases side with⟨ks,rfl⟩|⟨kps,rfl⟩
 ·obtain⟨o,es,ep,t,ho,hex,hd,g,nd,hm,hf,hr,hl⟩:=R.2.1 ks rfl
  have hfew:=few_of nd hm
  rw[List.length_map] at hz
  refine⟨o,es,ep,t,ho,hex.1,hd,hf,by show es.size<4096;omega,hr,hl,es.toList.map fun e=> .inl (kyE e),each_mapR _ fun e he=>(g e he).1,?_,?_,?_⟩
  ·rw[List.map_map]
   have:(keyU ∘ fun e:Int × Value=>(.inl (kyE e):Elt))=keyN ∘ kyE:=rfl
   rw[this,←List.map_map]
   exact List.Pairwise.map _ (fun _ _ hne e=>hne (keyN_inj e)) nd
  ·intro e he
   obtain⟨x,hx,rfl⟩:=List.mem_map.mp he
   exact List.mem_map.mpr ⟨kyE x,(hm _).mpr (List.mem_map.mpr ⟨x,hx,rfl⟩),rfl⟩
  ·intro e he
   obtain⟨k,hk,rfl⟩:=List.mem_map.mp he
   obtain⟨x,hx,e⟩:=List.mem_map.mp ((hm k).mp hk)
   exact List.mem_map.mpr ⟨.inl (kyE x),List.mem_map.mpr ⟨x,hx,rfl⟩,by rw[e]⟩
 ·obtain⟨L,es,ep,t,⟨o,ho,hex,hd⟩,hr,tab,nd,led,room,few,sub,all⟩:=R.2.2 kps rfl
  have hs:=rowsH_len hr
  have h1:=tab.sz
  rw[List.length_map] at h1
  refine⟨o,es,ep,t,ho,hex.1,hd,fits_of (by omega) tab.dm (by omega),by show es.size<4096;omega,tab.ris,led,L.map Sum.inr,?_,?_,?_,?_⟩
  ·rw[hr,rowsH,List.map_map]
   exact each_mapR _ fun p _=>rfl
  ·rw[List.map_map];exact nd
  ·intro e he
   obtain⟨p,hp,rfl⟩:=List.mem_map.mp he
   exact List.mem_map.mpr ⟨p,sub p hp,rfl⟩
  ·intro e he
   obtain⟨p,hp,rfl⟩:=List.mem_map.mp he
   rw[List.map_map]
   exact all p hp
section
variable {G:GC} {X:Cx} {w:Wd} {pins:List (Addr × Obj)} {σ :L2.St} {s:Shared} {a:Addr} {S:List Elt} {acc:List D} {ks:List NestedKey}
theorem elts_keys:∀ {acc:List D} {S:List Elt} {ks:List NestedKey},All2 (EltRep G w) acc S→nkDL acc=some ks→ks=S.map keyU
 | _,_,_, .nil,h=>by simp only[nkDL,Option.some.injEq] at h;subst h;rfl
 | _,_,_, .cons p r,h=>by
   simp only[nkDL] at h
   split at h
   ·rename_i k ks h1 h2
    cases h
    rw[elts_keys r h2,List.map_cons]
    rw[p.1] at h1
    cases h1
    rfl
   ·cases h
theorem elts_mem:∀ {acc:List D} {S:List Elt},All2 (EltRep G w) acc S→∀e ∈ S,∃d ∈ acc,EltRep G w d e
 | _,_, .nil,e,h=>by cases h
 | _,_, .cons p r,e,h=>by
   rcases List.mem_cons.mp h with rfl|h
   ·exact⟨_,List.mem_cons_self,p⟩
   ·obtain⟨d,hd,q⟩:=elts_mem r e h
    exact⟨d,List.mem_cons_of_mem _ hd,q⟩
theorem okSet_small (h:okSet ks=true):ks.length≤4000:=by
 simp only[okSet,Bool.and_eq_true,Bool.or_eq_true,decide_eq_true_eq] at h
 rcases h.1.1 with h|h<;>omega
theorem sorted_setU {Q:VK} {Ex:Value→Option Addr→Hp→Prop} (hK:X.K=G.K) (hc:X.calm=true) (hu:X.A.units+65<cLine) (I:Inv X pins σ w.H s) (sr:SRep G w) (hD:w.H a=some (ObU X.prog X.w a S))
 (rep:All2 (EltRep G w) acc S) (hks:nkDL acc=some ks) (ok:okSet ks=true) (side:Side S) (p:Post G w (.ok (.lst (sortL ((ddK ks).map kD))) w.S) (Rep G) Q Ex):
 wpAny (model X.prog X.w) X.A (call (.builtin "sorted") [.ref a]) (EP X pins σ Q) X.xe s:=by
 have R:ObP X.prog X.w a S s.heap:=(I.hok a _ hD).1
 have ek:=elts_keys rep hks
 have hz:S.length≤4000:=by have:=okSet_small ok;rw[ek,List.length_map] at this;exact this
 obtain⟨o,es,ep,t,ho,hcl,hd,hf,hsz,hr,hl,L,eL,nd,sub,all⟩:=set_out R side hz
 have ok2:=ok
 simp only[okSet,Bool.and_eq_true] at ok2
 obtain⟨⟨_,okd⟩,tie⟩:=ok2
 refine Calls.call_function_entry kind_sorted plain_sorted entry_sorted (args_sorted1 _) ?_
 unfold Builtin.«sorted»
 refine wpAny_bind (m:=checkCount "sorted" 1 1 _) (wpAny_pure ?_)
 refine wpAny_bind (collect_set (A:=X.A.in1) (I.ok.hd hc) ⟨o,ho,hcl,hd⟩ hf hsz hr hl fun s1 vs k1 hz1 g1 o1 pm=> ?_)
 obtain⟨L',pL,eL'⟩:=each_perm pm eL
 have pk:(L'.map keyU).Perm (ddK ks):=by
  refine(List.perm_ext_iff_of_nodup ((pL.map keyU).nodup_iff.mpr nd) (ddK_nodup ks)).mpr fun k=> ?_
  rw[ddK_mem,(pL.map keyU).mem_iff,ek]
  constructor
  ·intro h
   obtain⟨e,he,rfl⟩:=List.mem_map.mp h
   exact List.mem_map.mpr ⟨e,sub e he,rfl⟩
  ·intro h
   obtain⟨e,he,rfl⟩:=List.mem_map.mp h
   exact all e he
 have pd:(L'.map fun e=>kD (keyU e)).Perm ((ddK ks).map kD):=by
  have:=pk.map kD
  rw[List.map_map] at this
  exact this
 have so:SrtOk (L'.map fun e=>kD (keyU e)):=srt_of pd okd
 have one:∀e ∈ L',Rep G w (kD (keyU e)) (valU e):=fun e he=>by
  obtain⟨d,_,q1,q2⟩:=elts_mem rep e (sub e (pL.mem_iff.mp he))
  rw[← nk_kD d _ q1]
  exact q2
 have e1:EachIs (fun u d=>∃x,RelV x u∧Rep G w d x) vs (L'.map fun e=>kD (keyU e)):=by
  have:∀ {us:List Value} {l:List Elt},EachIs (fun v e=>RelV (valU e) v) us l→(∀ e ∈ l,Rep G w (kD (keyU e)) (valU e))→EachIs (fun u d=>∃x,RelV x u∧Rep G w d x) us (l.map fun e=>kD (keyU e)):=by
   intro us l h
   induction h with
   |nil=>intro _;exact .nil
   |cons r _ ih=>intro q;exact .cons ⟨_,r,q _ List.mem_cons_self⟩ (ih fun e he=>q e (List.mem_cons_of_mem _ he))
  exact this eL' one
 obtain⟨vs0,rv0,rl0⟩:=rep_each e1
 obtain⟨e1',e2⟩:=each_rep hK I rl0 rv0 so.py
 have hvl:vs.length≤sizeLine:=by rw[e1.length];exact so.len
 refine wpAny_bind (wpAny_newList ?_ hvl)
 have hoL:(s1.heap.push (seqObj "list" vs.toArray 0)).get? s1.heap.objs.size=some (seqObj "list" vs.toArray 0):=Heap.get?_push_size _ rfl
 have old:∀b u,s.heap.get? b=some u→(PySem.W.sortingHeap (s1.heap.push (seqObj "list" vs.toArray 0)) s1.heap.objs.size vs).get? b=some u:=fun b u q=>by
  have h1:=k1 b u q
  exact PySem.W.sortingHeap_old (Nat.ne_of_lt (Heap.lt_size h1)) (Heap.get?_push_of_some _ h1)
 have e3:EachIs (fun u d=>∃as,Reads (PySem.W.sortingHeap (s1.heap.push (seqObj "list" vs.toArray 0)) s1.heap.objs.size vs) u (encD d) as) vs (L'.map fun e=>kD (keyU e)):=e2.mono fun _ _ ⟨as,r⟩=>⟨as,PyProof.Rows.Reads.keeps old r⟩
 refine wpAny_bind (wpAny_holding (wpAny_call_entry slot_list_sort ⟨_,hoL,rfl⟩ entry_list_sort (PySem.W.list_sort_vals (s:= { s1 with heap:=s1.heap.push (seqObj "list" vs.toArray 0) }) hoL (so.kind (s:= { s1 with heap:=PySem.W.sortingHeap (s1.heap.push (seqObj "list" vs.toArray 0)) s1.heap.objs.size vs }) e3 (by show X.A.units+2+42<cLine;omega)) hvl ⟨_,rfl,?_⟩) (args_list_sort _)))
 have out:=so.vals (R:=fun u d=>∃x,RelV x u∧Rep G w d x) e1 e3
 have le:PySem.W.dataLe false encD=srtLe:=by
  funext a b
  rw[PySem.W.dataLe_eq]
  rfl
 rw[le,sortK_perm tie pd] at out
 generalize PySem.W.sortVals (dataKind (PySem.W.sortingHeap (s1.heap.push (seqObj "list" vs.toArray 0)) s1.heap.objs.size vs) ((L'.map fun e=>kD (keyU e)).map encD)) false vs vs=outv at out ⊢
 obtain⟨c,hcc⟩:=sortedHeap_at (vs:=vs) (out:=outv.toArray) hoL
 obtain⟨vs',v1,v2⟩:=rep_each out
 have hlen:vs'.length≤sizeLine:=by
  rw[v2.length]
  have:(sortL ((ddK ks).map kD)).length=((ddK ks).map kD).length:=List.length_mergeSort _
  rw[this,←pd.length_eq]
  exact so.len
 have k2:∀b u,s.heap.get? b=some u→(sortedHeap (s1.heap.push (seqObj "list" vs.toArray 0)) s1.heap.objs.size vs outv.toArray).get? b=some u:=fun b u e=>by
  have q:=k1 b u e
  have hlt:=Heap.lt_size q
  rw[sortedHeap_old (Nat.ne_of_lt hlt) (by rw[size_push'];exact Nat.lt_succ_of_lt hlt)]
  exact Heap.get?_push_of_some _ q
 have hn:w.H s1.heap.objs.size=none:=I.hok.fresh hz1
 have J:Inv X pins σ (upd w.H s1.heap.objs.size (.lst vs')) { s with heap:=sortedHeap (s1.heap.push (seqObj "list" vs.toArray 0)) s1.heap.objs.size vs outv.toArray,gens:=s1.gens,drawn:=s1.drawn,toks:=s1.toks } :=
  I.call (ch:= []) (Un.laid k2 hz1 hn) (I.hok.laid k2 hz1 ⟨hlen,outv,c,v1,by simpa using hcc⟩) (by rw[g1];exact I.bare) (fun _ z=>nomatch z)
 refine wpAny_pure ⟨_,rfl,?_⟩
 have e:({ s1 with heap:=sortedHeap (s1.heap.push (seqObj "list" vs.toArray 0)) s1.heap.objs.size vs outv.toArray } :Shared)= { s with heap:=sortedHeap (s1.heap.push (seqObj "list" vs.toArray 0)) s1.heap.objs.size vs outv.toArray,gens:=s1.gens,drawn:=s1.drawn,toks:=s1.toks } :=by
  cases s1
  cases s
  cases o1
  rfl
 show EP X pins σ Q _ ({ s1 with heap:=sortedHeap (s1.heap.push (seqObj "list" vs.toArray 0)) s1.heap.objs.size vs outv.toArray } :Shared)
 rw[e]
 exact⟨.ref s1.heap.objs.size,_,J,rfl,new_lst (S:=w.S) sr v2 p _ hn⟩
end
end L3
namespace L3
open PySem PySem.Spec PyProof.Rows L2
section
variable {G:GC} {X:Cx} {Wx:WX} {w:Wd} {ks:List NestedKey}
theorem nkDL_mem:∀ {l:List D} {ks:List NestedKey},nkDL l=some ks→(ks.length=l.length∧∀d ∈ l,∃k ∈ ks,nkD d=some k)
 | [],_,h=>by simp only[nkDL,Option.some.injEq] at h;subst h;exact⟨rfl,by simp⟩
 |d::l,_,h=>by
  simp only[nkDL] at h
  split at h
  ·rename_i k ks h1 h2
   cases h
   obtain⟨q1,q2⟩:=nkDL_mem h2
   refine⟨by simp[q1],fun x hx=> ?_⟩
   rcases List.mem_cons.mp hx with rfl|hx
   ·exact⟨k,List.mem_cons_self,h1⟩
   ·obtain⟨k',hk',e⟩:=q2 x hx
    exact⟨k',List.mem_cons_of_mem _ hk',e⟩
  ·cases h
theorem okSet_py (ok:okSet ks=true) {k:NestedKey} (hk:k ∈ ks):toPy (kD k)=some k.data:=by
 simp only[okSet,Bool.and_eq_true] at ok
 obtain⟨⟨_,okd⟩,_⟩:=ok
 have:=okSd_py okd (List.mem_map.mpr ⟨k,ddK_mem.mpr hk,rfl⟩)
 obtain⟨y,hy⟩:=Option.isSome_iff_exists.mp this
 rw[hy,kD_py k y hy]
theorem kat_of (ok:okSet ks=true) (tp:ks.all isTp=true) (dp:∀k ∈ ks,k.depth≤8) {k:NestedKey} (hk:k ∈ ks) {d:D} {a:Addr} (e:nkD d=some k) (r:Rep G w d (.ref a)):KAt G.K w.H (a,k):=by
 have h1:=okSet_py ok hk
 rw[← nk_kD d k e] at h1
 exact⟨(dp_of d (.ref a) _ r h1).1,dp k hk⟩
theorem add_ok (hK:X.K=G.K) (ok:okSet ks=true) {acc:List D} {S:List Elt} (rep:All2 (EltRep G w) acc S) (sub:∀d ∈ acc,∃k ∈ ks,nkD d=some k) (hl:acc.length+1≤ks.length)
 (sd:(ks.all isTN=true→∃l:List L2.Key,S=l.map Sum.inl)∧(ks.all isTp=true→∃l:List (Addr × NestedKey),S=l.map Sum.inr)) {d:D} {v:V} {k:NestedKey} (hk:k ∈ ks) (e:nkD d=some k) (r:Rep G w d v):
 ∃x:Elt,v=valU x∧AddU X.K w.H S x∧EltRep G w d x∧((ks.all isTN=true→∃l:List L2.Key,S++ [x] =l.map Sum.inl)∧(ks.all isTp=true→∃l:List (Addr × NestedKey),S++ [x] =l.map Sum.inr)):=by
 have hlS:S.length=acc.length:=rep.len
 have ok2:=ok
 simp only[okSet,Bool.and_eq_true,Bool.or_eq_true,decide_eq_true_eq] at ok2
 have hdk:=nk_kD d k e
 have r':=r
 rw[hdk] at r'
 rcases ok2.1.1 with⟨tn,hz⟩|⟨⟨tp,dp⟩,hz⟩
 ·obtain⟨l,rfl⟩:=sd.1 tn
  have h1:=List.all_eq_true.mp tn k hk
  have nt: ¬ks.all isTp=true:=fun h=>by
   have:=List.all_eq_true.mp h k hk
   cases k<;>simp[isTN,isTp] at h1 this
  cases k with
  |num i=>
   simp only[kD,Rep] at r'
   subst r'
   exact⟨.inl (.inl i),rfl,⟨⟨l,rfl⟩,by omega⟩,⟨e,r⟩,fun _=>⟨l++ [.inl i],by simp⟩,fun h=>absurd h nt⟩
  |text x=>
   simp only[kD,Rep] at r'
   subst r'
   exact⟨.inl (.inr x),rfl,⟨⟨l,rfl⟩,by omega⟩,⟨e,r⟩,fun _=>⟨l++ [.inr x],by simp⟩,fun h=>absurd h nt⟩
  |none=>simp[isTN] at h1
  |tup _=>simp[isTN] at h1
 ·obtain⟨l,rfl⟩:=sd.2 tp
  have h1:=List.all_eq_true.mp tp k hk
  have dp':∀k ∈ ks,k.depth≤8:=fun k hk=>by simpa using List.all_eq_true.mp dp k hk
  have nt: ¬ks.all isTN=true:=fun h=>by
   have:=List.all_eq_true.mp h k hk
   cases k<;>simp[isTN,isTp] at h1 this
  cases k with
  |tup kk=>
   simp only[kD,Rep] at r'
   obtain⟨a,vs,rfl,_⟩:=r'
   refine⟨.inr (a, .tup kk),rfl,⟨⟨l,rfl,fun q hq=> ?_⟩,?_,by omega⟩,⟨e,r⟩,fun h=>absurd h nt,fun _=>⟨l++ [(a, .tup kk)],by simp⟩⟩
   ·obtain⟨d',hd',q1,q2⟩:=elts_mem rep (.inr q) (List.mem_map.mpr ⟨q,hq,rfl⟩)
    obtain⟨k',hk',e'⟩:=sub d' hd'
    rw[q1] at e'
    cases e'
    rw[hK]
    exact kat_of ok tp dp' hk' q1 q2
   ·rw[hK]
    exact kat_of ok tp dp' hk e r
  |none=>simp[isTp] at h1
  |num _=>simp[isTp] at h1
  |text _=>simp[isTp] at h1
def SetGot2 (G:GC) (X:Cx) (w1:Wd) (F:List D) (SF:Store) (x:V) (H:Hp):Prop:=
 ∃(w:Wd) (a:Addr) (S:List Elt),x= .ref a∧w.H=H∧WExt w1 w∧w.S=SF∧SRep G w∧w.H a=some (ObU X.prog X.w a S)∧All2 (EltRep G w) F S∧Side S
theorem sc_mid (hK:X.K=G.K) {vs:List Nat} {g:GD} {tt:TD} {te:ED} {σ :L2.St} {w1:Wd} {env:EnvD} {xs F:List D} {SF:Store} {J:It} (s1:SRep G w1) (er:ERep G w1 env σ) (io:ItOk G w1 J xs) (hF:lcL g tt te (wipeD env vs) xs w1.S= .ok F SF) (hks:nkDL F=some ks) (ok:okSet ks=true):
 ∀L,w1.H L=none→∃W:Nat→Nat→Hp→Prop,(∃ m,W 0 m (upd w1.H L (ObU X.prog X.w L [])))∧∀i m H,W i m H→(J.stop i H∧SetGot2 G X w1 F SF (.ref L) H)∨(J.go i H∧∃Nx:Hp→Prop,(∀ H',Nx H'→∃m',m'<m∧W (i+1) m' H')∧
  ∀x H',J.yld i H x H'→(tGW G g vs) x (wipe σ vs) H' fun σ2 H2=>wipe σ2 vs=wipe σ vs∧(tT G tt WF) σ2 H2 fun b H3=>
   if b=true then(tE G te WF) σ2 H3 fun y H4=>∃S k,y=valU k∧H4 L=some (ObU X.prog X.w L S)∧AddU X.K H4 S k∧Nx (upd H4 L (ObU X.prog X.w L (S++ [k]))) else Nx H3):=by
 obtain⟨hlF,hmF⟩:=nkDL_mem hks
 intro L hL
 have hfr:∀a ∈ [L],w1.H a=none:=fun a h=>by have:a=L:=by simpa using h
                                            rw[this];exact hL
 have er1:=er.wipe vs
 have h0:WX' [L] w1 ⟨w1.mu,w1.S,upd w1.H L (ObU X.prog X.w L []),L::w1.tmp⟩:=
  ⟨fun _ _ h=>h,fun a o h nm ha=>⟨(upd_ne (by simpa using ha)).trans h,nm⟩,fun a h=>by
    rcases List.mem_cons.mp h with e|h
    ·exact .inr (by simp[e])
    ·exact .inl h,fun a h=>List.mem_cons_of_mem _ h⟩
 have nL: ¬MutS w1 L:=fun m=>by obtain⟨u,e⟩:=MutS.there s1 m;rw[hL] at e;cases e
 have sW:SRep G ⟨w1.mu,w1.S,upd w1.H L (ObU X.prog X.w L []),L::w1.tmp⟩:=by
  refine⟨s1.len,s1.inj,fun n ob a h1 h2=> ?_,fun a ha=> ?_⟩
  ·have h:=s1.obj n ob a h1 h2
   refine h.keep h0 (fr_tok hfr) fun lv=> ?_
   obtain⟨u,e⟩:=h.there lv
   exact upd_ne (ne_of_none e hL)
  ·rcases List.mem_cons.mp ha with e|ha
   ·subst e;exact⟨⟨⟨_,by first|assumption|(intro _ h;cases h)⟩,upd_same⟩,nL⟩
   ·obtain⟨⟨u,e⟩,nm⟩:=s1.tm a ha
    exact⟨⟨u,(upd_ne (ne_of_none e hL)).trans e⟩,nm⟩
 refine⟨fun i m H=>∃w3 acc S,w3.H=H∧SRep G w3∧WX' [L] w1 w3∧L ∈ w3.tmp∧w3.H L=some (ObU X.prog X.w L S)∧All2 (EltRep G w3) acc S∧i+m=xs.length∧
  ((ks.all isTN=true→∃l:List L2.Key,S=l.map Sum.inl)∧(ks.all isTp=true→∃l:List (Addr × NestedKey),S=l.map Sum.inr))∧∃ys,lcL g tt te (wipeD env vs) (xs.drop i) w3.S= .ok ys SF∧acc++ys=F,
  ⟨xs.length,_,[],[],rfl,sW,h0,by simp,upd_same, .nil,by omega,⟨fun _=>⟨[],rfl⟩,fun _=>⟨[],rfl⟩⟩,F,by simpa using hF,rfl⟩,fun i m H hW=> ?_⟩
 obtain⟨w3,acc,S,rfl,s3,x3,tm3,hL3,ra3,em,sd,ys,eq,eF⟩:=hW
 by_cases hi:i<xs.length
 ·have e:xs[i]? =some xs[i] :=List.getElem?_eq_getElem hi
  obtain⟨go,yl⟩:=io.go [L] w3 (fr_tok hfr) x3 s3 i xs[i] e
  refine .inr ⟨go,fun H'=>∃w5 acc S,w5.H=H'∧SRep G w5∧WX' [L] w1 w5∧L ∈ w5.tmp∧w5.H L=some (ObU X.prog X.w L S)∧All2 (EltRep G w5) acc S∧(i+1)+(m-1)=xs.length∧
   ((ks.all isTN=true→∃l:List L2.Key,S=l.map Sum.inl)∧(ks.all isTp=true→∃l:List (Addr × NestedKey),S=l.map Sum.inr))∧∃ys,lcL g tt te (wipeD env vs) (xs.drop (i+1)) w5.S= .ok ys SF∧acc++ys=F,fun H' hN=>⟨m-1,by omega,hN⟩,fun x H' hy=> ?_⟩
  obtain⟨w4,rfl,x4,eS4,s4,rp4⟩:=yl x H' hy
  have x14:WX' [L] w1 w4:=WX'.trans x3 (WX'.wide x4)
  refine⟨w4,wipeD env vs,xs[i],rfl,s4,er1.monoT x14 (fr_tok hfr),rp4,?_⟩
  rw[List.drop_eq_getElem_cons hi,lcL] at eq
  rw[eS4]
  cases hg:g xs[i] (wipeD env vs) w3.S with
  |nx env5 S5=>
   rw[hg] at eq
   simp only at eq
   intro σ5 w5 x5 e5 s5 er5 hw
   subst e5
   refine⟨hw.trans (wipe_sub fun _ h=>h),w5,env5,rfl,s5,er5,?_⟩
   cases ht:tt env5 w5.S with
   |ok k S6=>
    rw[ht] at eq
    simp only[R.nox,R.bind] at eq
    intro b w6 x6 e6 s6 hb
    subst hb e6
    have x46:WExt w4 w6:=WX'.trans x5 x6
    have x16:WX' [L] w1 w6:=WX'.trans x14 (WX'.wide x46)
    have hL6:w6.H L=some (ObU X.prog X.w L S):=(x46.keep L _ ((x4.keep L _ hL3 ((s3.tm L tm3).2) (by simp)).1) ((s4.tm L (x4.tmp' L tm3)).2) (by simp)).1
    have tm6:L ∈ w6.tmp:=x46.tmp' L (x4.tmp' L tm3)
    have ra6:All2 (EltRep G w6) acc S:=ra3.imp fun _ _ _ h=>⟨h.1,Rep.mono (WX'.trans x4 x46) _ _ h.2⟩
    cases k with
    |false=>exact iteF ⟨w6,acc,S,rfl,s6,x16,tm6,hL6,ra6,by omega,sd,ys,eq,eF⟩
    |true=>
     refine iteT ⟨w6,env5,rfl,s6,er5.mono x6,?_⟩
     simp only at eq
     cases hte:te env5 w6.S with
     |ok y S7=>
      rw[hte] at eq
      simp only[R.nox] at eq
      intro v w7 x7 e7 s7 r7
      subst e7
      have hL7:w7.H L=some (ObU X.prog X.w L S):=(x7.keep L _ hL6 ((s6.tm L tm6).2) (by simp)).1
      have tm7:L ∈ w7.tmp:=x7.tmp' L tm6
      have ra7:All2 (EltRep G w7) acc S:=ra6.imp fun _ _ _ h=>⟨h.1,Rep.mono x7 _ _ h.2⟩
      obtain⟨ys',eq',rfl⟩:∃ys',lcL g tt te (wipeD env vs) (xs.drop (i+1)) w7.S= .ok ys' SF∧ys=y::ys':=by
       revert eq
       cases lcL g tt te (wipeD env vs) (List.drop (i+1) xs) w7.S with
       |ok a b=>intro eq;simp only[R.bind,R.ok.injEq] at eq;exact⟨a,by rw[eq.2],eq.1.symm⟩
       |exc _ _=>intro eq;cases eq
       |bad=>intro eq;cases eq
      have subF:∀d ∈ acc,∃k ∈ ks,nkD d=some k:=fun d hd=>hmF d (by rw[← eF];exact List.mem_append_left _ hd)
      obtain⟨k,hk,ek⟩:=hmF y (by rw[← eF];simp)
      have hlen:acc.length+1≤ks.length:=by rw[hlF,←eF];simp
      obtain⟨el,ev,ad,rep7,sd'⟩:=add_ok hK ok ra7 subF hlen sd hk ek r7
      obtain⟨xP,tP,sP⟩:=put_dk (o:=ObU X.prog X.w L (S++ [el])) s7 tm7
      refine⟨S,el,ev,hL7,ad,?_⟩
      refine⟨_,acc++ [y],S++ [el],rfl,sP,WX'.trans (WX'.trans x16 (WX'.wide x7)) xP,tm7,upd_same,?_,by omega,sd',ys',eq',by rw[← eF];simp⟩
      exact(ra7.imp fun _ _ _ h=>⟨h.1,Rep.monoT xP tP _ _ h.2⟩).app (.cons ⟨rep7.1,Rep.monoT xP tP _ _ rep7.2⟩ .nil)
     |exc ee S7=>rw[hte] at eq;cases eq
     |bad=>rw[hte] at eq;cases eq
   |exc ee S6=>rw[ht] at eq;cases eq
   |bad=>rw[ht] at eq;cases eq
  |ret _ _=>rw[hg] at eq;cases eq
  |brk _ _=>rw[hg] at eq;cases eq
  |ct _ _=>rw[hg] at eq;cases eq
  |exc _ _ _=>rw[hg] at eq;cases eq
  |bad=>rw[hg] at eq;cases eq
 ·have ei:i=xs.length:=by omega
  subst ei
  refine .inl ⟨io.stop [L] w3 (fr_tok hfr) x3 s3,?_⟩
  rw[List.drop_length] at eq
  simp only[lcL,R.ok.injEq] at eq
  obtain⟨rfl,rfl⟩:=eq
  rw[List.append_nil] at eF
  subst eF
  have we:WExt w1 { w3 with tmp:=w1.tmp } :=⟨x3.mu,fun a o h nm _=>x3.keep a o h nm (by
   intro ha
   have:a=L:=by simpa using ha
   rw[this,hL] at h;cases h),fun a h=> .inl h,fun a h=>h⟩
  have tinc:∀a,a ∈ w1.tmp→a ∈ w3.tmp:=x3.tmp'
  have se:SRep G { w3 with tmp:=w1.tmp } :=s3.untmp tinc
  have side:Side S:=by
   have ok2:=ok
   simp only[okSet,Bool.and_eq_true,Bool.or_eq_true] at ok2
   rcases ok2.1.1 with h|h
   ·exact .inl (sd.1 h.1)
   ·exact .inr (sd.2 h.1.1)
  exact⟨{ w3 with tmp:=w1.tmp },L,S,rfl,rfl,we,rfl,se,hL3,ra3.imp fun _ _ _ h=>⟨h.1,Rep.untmp tinc _ _ h.2⟩,side⟩
end
end L3
namespace L3
open PySem PySem.Spec PyProof.Rows L2
open PySem.W (EachIs)
section
variable {G:GC} {X:Cx} {Wx:WX} {e:Expr} {m:ED} {p p2 pos pos2:Pos}
def sortSetO:F1:=fun x S=>match asL x S with
 |some l=>sortSetD (.lst l) S
 |none=> .bad
end
end L3
namespace L3
open PySem PySem.Spec PyProof.Rows L2
def FzL (o:HO):Prop:=∀od u,o= .frz od u→∃l,u= .lst l
section
variable {G:GC} {w w':Wd}
mutual
theorem Rep.lift (k:∀b o,w.H b=some o→¬Mut w b→FzL o→w'.H b=some o∧¬Mut w' b) (mu:∀(n:Nat) (a:Addr),w.mu[n]? =some a→w'.mu[n]? =some a):∀(d:D) (v:V),Rep G w d v→Rep G w' d v
 | .non,v,h=>by simpa only[Rep] using h
 | .bl b,v,h=>by simpa only[Rep] using h
 | .int i,v,h=>by simpa only[Rep] using h
 | .str s,v,h=>by simpa only[Rep] using h
 | .tup l,v,h=>by
   simp only[Rep] at h ⊢
   obtain⟨a,vs,e,h1,h2⟩:=h
   exact⟨a,vs,e,h1.imp (fun z=>k _ _ z.1 z.2 (fun _ _ h=>by cases h)) id,RepL.lift k mu l vs h2⟩
 | .lst l,v,h=>by
   simp only[Rep] at h ⊢
   obtain⟨a,vs,e,h1,nm,h2⟩:=h
   obtain⟨q1,q2⟩:=k _ _ h1 nm (fun _ _ h=>by cases h)
   exact⟨a,vs,e,q1,q2,RepL.lift k mu l vs h2⟩
 | .dic ks l,v,h=>by
   simp only[Rep] at h ⊢
   obtain⟨a,vs,e,h1,nm,hl,h2⟩:=h
   obtain⟨q1,q2⟩:=k _ _ h1 nm (fun _ _ h=>by cases h)
   exact⟨a,vs,e,q1,q2,hl,RepL.lift k mu l vs h2⟩
 | .obj n,v,h=>by
   simp only[Rep] at h ⊢
   obtain⟨a,h1,e⟩:=h
   exact⟨a,mu n a h1,e⟩
 | .glb y,v,h=>by simpa only[Rep] using h
 | .wtp _,v,h=>by simpa only[Rep] using h
 | .ty n,v,h=>by simpa only[Rep] using h
 | .scr ns,v,h=>by
   simp only[Rep] at h ⊢
   obtain⟨a,e,h1⟩:=h
   refine⟨a,e,h1.imp (fun z=> ?_) id⟩
   obtain⟨z1|⟨o,z1⟩,nm⟩:=z
   ·obtain⟨q1,q2⟩:=k _ _ z1 nm (fun _ _ h=>by cases h)
    exact⟨.inl q1,q2⟩
   ·obtain⟨q1,q2⟩:=k _ _ z1 nm (fun _ _ h=>by cases h;exact⟨_,rfl⟩)
    exact⟨.inr ⟨o,q1⟩,q2⟩
 | .kd ks l,v,h=>by
   simp only[Rep] at h ⊢
   obtain⟨a,es,n,vs,us,e,h1,h2,h3,h4,ke,h5⟩:=h
   exact⟨a,es,n,vs,us,e,h1,h2,h3,h4,ke,RepL.lift k mu l vs h5⟩
 | .lam t l,v,h=>by
   simp only[Rep] at h ⊢
   exact⟨h.1,k _ _ h.2.1.1 h.2.1.2 (fun _ _ h=>by unfold LamX.CodeO at h;cases h),RepL.lift k mu l t.vs h.2.2⟩
 | .xcp c ks l,v,h=>by
   simp only[Rep] at h ⊢
   obtain⟨a,C,dx,vs,e,h1,⟨h2,nm⟩,h3,h4,h5⟩:=h
   exact⟨a,C,dx,vs,e,h1,k _ _ h2 nm (fun _ _ h=>by unfold xoH at h;cases h),h3,h4.imp id fun⟨d,e1,e2,nd⟩=>let⟨q1,q2⟩:=k _ _ e2 nd (fun _ _ h=>by cases h);⟨d,e1,q1,q2⟩,RepL.lift k mu l vs h5⟩
theorem RepL.lift (k:∀b o,w.H b=some o→¬Mut w b→FzL o→w'.H b=some o∧¬Mut w' b) (mu:∀(n:Nat) (a:Addr),w.mu[n]? =some a→w'.mu[n]? =some a):∀(d:List D) (v:List V),RepL G w d v→RepL G w' d v
 | [],v,h=>by simpa only[RepL] using h
 |d::ds,v,h=>by
  simp only[RepL] at h ⊢
  obtain⟨y,r,e,h1,h2⟩:=h
  exact⟨y,r,e,Rep.lift k mu d y h1,RepL.lift k mu ds r h2⟩
end
theorem RepKV.of {κ :Type} (k:∀d v,Rep G w d v→Rep G w' d v):∀(d:List (κ × D)) (v:List (κ × V)),RepKV G w d v→RepKV G w' d v
 | [],v,h=>h
 |d::ds,v,h=>by
  obtain⟨y,r,e,h1,h2⟩:=h
  exact⟨y,r,e,k _ _ h1,RepKV.of k ds r h2⟩
end
def DRep (G:GC) (w:Wd) (u:HO):O→Prop
 | .dK kvs=>∃vs,u= .dK vs∧RepKV G w kvs vs
 | .dT kvs=>∃vs,u= .dT vs∧RepKV G w kvs vs
 | _=>False
section
variable {G:GC} {w:Wd} {n:Nat} {a:Addr} {ob:O} {u:HO} {od:Obj}
theorem DRep.of {w':Wd} (k:∀d v,Rep G w d v→Rep G w' d v) (h:DRep G w u ob):DRep G w' u ob:=by
 cases ob with
 |dK kvs=>obtain⟨vs,e,r⟩:=h;exact⟨vs,e,RepKV.of k _ _ r⟩
 |dT kvs=>obtain⟨vs,e,r⟩:=h;exact⟨vs,e,RepKV.of k _ _ r⟩
 | _=>exact h.elim
theorem DRep.live (h:DRep G w u ob):ob.live:=by cases ob<;>first|exact h.elim|trivial
theorem DRep.mut (h:DRep G w u ob):L2.Mut (some u):=by
 cases ob with
 |dK kvs=>obtain⟨vs,rfl,r⟩:=h;trivial
 |dT kvs=>obtain⟨vs,rfl,r⟩:=h;trivial
 | _=>exact h.elim
theorem DRep.nolst (h:DRep G w u ob):∀l,u≠ .lst l:=by
 cases ob with
 |dK kvs=>obtain⟨vs,rfl,r⟩:=h;intro l e;cases e
 |dT kvs=>obtain⟨vs,rfl,r⟩:=h;intro l e;cases e
 | _=>exact h.elim
theorem DRep.orep {w':Wd} (h:DRep G w' u ob) (e:w'.H a=some u):ORep G w' a ob:=by
 cases ob with
 |dK kvs=>obtain⟨vs,rfl,r⟩:=h;exact⟨vs,e,r⟩
 |dT kvs=>obtain⟨vs,rfl,r⟩:=h;exact⟨vs,e,r⟩
 | _=>exact h.elim
theorem drep_at (sr:SRep G w) (hn:w.S[n]? =some ob) (hm:w.mu[n]? =some a) (hk:∃x,(ob= .dK x)∨∃y,ob= .dT y):∃u,w.H a=some u∧DRep G w u ob:=by
 have h:=sr.obj n ob a hn hm
 obtain⟨x,rfl|⟨y,rfl⟩⟩:=hk
 ·obtain⟨vs,h1,h2⟩:=h;exact⟨_,h1,vs,rfl,h2⟩
 ·obtain⟨vs,h1,h2⟩:=h;exact⟨_,h1,vs,rfl,h2⟩
def lkW (w:Wd) (n:Nat) (a:Addr) (od:Obj) (u:HO):Wd:=⟨w.mu,w.S.set n .dead,upd w.H a (.frz od u),w.tmp⟩
def unW (w:Wd) (n:Nat) (a:Addr) (ob:O) (u:HO):Wd:=⟨w.mu,w.S.set n ob,upd w.H a u,w.tmp⟩
structure LkAt (w:Wd) (n:Nat) (a:Addr) (od:Obj) (u:HO):Prop where
 mu:w.mu[n]? =some a
 at':w.H a=some (.frz od u)
 nm: ¬Mut w a
theorem LkAt.mono {w':Wd} (h:LkAt w n a od u) (x:WExt w w'):LkAt w' n a od u:=⟨x.mu n a h.mu,(x.keepM noT h.at' h.nm).1,(x.keepM noT h.at' h.nm).2⟩
theorem lock_ok (sr:SRep G w) (hn:w.S[n]? =some ob) (lv:ob.live) (hm:w.mu[n]? =some a):WExt w (lkW w n a od u)∧SRep G (lkW w n a od u)∧LkAt (lkW w n a od u) n a od u:=by
 obtain⟨x,s⟩:=set_obj (o:= .frz od u) (ob':= .dead) sr hn lv hm fun _ _ _=>trivial
 have hl:=(List.getElem?_eq_some_iff.mp hn).1
 refine⟨x,s,hm,upd_same,fun m=> ?_⟩
 rcases m with⟨m,o,h1,l1,h2⟩|m
 ·have h1:(w.S.set n .dead)[m]? =some o:=h1
  have h2:w.mu[m]? =some a:=h2
  by_cases e:n=m
  ·subst e
   rw[List.getElem?_set_self hl] at h1
   cases h1
   exact l1
  ·rw[List.getElem?_set_ne e] at h1
   exact e (sr.inj n m a ob o hn h1 lv l1 hm h2)
 ·exact(sr.tm a m).2 ⟨n,ob,hn,lv,hm⟩
theorem unlock_ok {w3:Wd} (sr:SRep G w) (hn:w.S[n]? =some ob) (hm:w.mu[n]? =some a) (hd:DRep G w u ob) (x3:WExt (lkW w n a od u) w3) (s3:SRep G w3) (h3:w3.S[n]? =some .dead):
 WExt w (unW w3 n a ob u)∧SRep G (unW w3 n a ob u)∧∀d v,Rep G w3 d v→Rep G (unW w3 n a ob u) d v:=by
 obtain⟨x0,s0,lk0⟩:=lock_ok (od:=od) (u:=u) sr hn hd.live hm
 have lk3:=lk0.mono x3
 have hl:=(List.getElem?_eq_some_iff.mp h3).1
 have back:∀(m:Nat) (o':O),(w3.S.set n ob)[m]? =some o'→(m=n∧o'=ob)∨(m≠n∧w3.S[m]? =some o'):=fun m o' h=>by
  by_cases e:n=m
  ·subst e;rw[List.getElem?_set_self hl] at h;exact .inl ⟨rfl,(Option.some.inj h).symm⟩
  ·rw[List.getElem?_set_ne e] at h;exact .inr ⟨fun z=>e z.symm,h⟩
 have nA:∀m o b,m≠n→w3.S[m]? =some o→o.live→w3.mu[m]? =some b→b≠a:=fun m o b _ h1 l h2 e=>lk3.nm (.inl (by subst e;exact⟨m,o,h1,l,h2⟩))
 have mb:∀b,b≠a→MutS (unW w3 n a ob u) b→MutS w3 b:=fun b hb ⟨m,o',h1,l1,h2⟩=>by
  rcases back m o' h1 with⟨e,_⟩|⟨_,q⟩
  ·subst e
   have h2:w3.mu[m]? =some b:=h2
   rw[lk3.mu] at h2
   exact absurd (Option.some.inj h2).symm hb
  ·exact⟨m,o',q,l1,h2⟩
 have lift:∀d v,Rep G w3 d v→Rep G (unW w3 n a ob u) d v:=fun d v h=>Rep.lift (w:=w3) (w':=unW w3 n a ob u) (fun b o hb nm fz=>by
  have hba:b≠a:=fun e=>by
   subst e
   rw[lk3.at'] at hb
   obtain⟨l,e⟩:=fz _ _ (Option.some.inj hb).symm
   exact hd.nolst l e
  exact⟨(upd_ne hba).trans hb,fun m=>nm (m.imp (mb b hba) id)⟩) (fun _ _ h=>h) d v h
 have hd4:DRep G (unW w3 n a ob u) u ob:=hd.of fun d v h=>lift d v (Rep.mono x3 d v (Rep.mono x0 d v h))
 have nAw:∀b,¬MutS w b→b≠a:=fun b nm e=>nm (by subst e;exact⟨n,ob,hn,hd.live,hm⟩)
 refine⟨⟨fun m b h=>x3.mu m b (x0.mu m b h),fun b o h nm _=> ?_,fun b h=> ?_,fun b h=>x3.tmp' b (x0.tmp' b h)⟩,⟨?_,fun i j b o1 o2 h1 h2 l1 l2 m1 m2=> ?_,fun m o' b h1 h2=> ?_,fun b hb=> ?_⟩,lift⟩
 ·obtain⟨q1,q2⟩:=x0.keep b o h nm (by simp)
  obtain⟨q3,q4⟩:=x3.keep b o q1 q2 (by simp)
  exact⟨(upd_ne (nAw b nm)).trans q3,fun m=>q4 (mb b (nAw b nm) m)⟩
 ·exact((x3.tmp b h).elim (fun h=>x0.tmp b h) .inr)
 ·show w3.mu.length=(w3.S.set n ob).length
  rw[List.length_set];exact s3.len
 ·replace m1:w3.mu[i]? =some b:=m1
  replace m2:w3.mu[j]? =some b:=m2
  rcases back i o1 h1 with⟨e1,_⟩|⟨n1,q1⟩<;>rcases back j o2 h2 with⟨e2,_⟩|⟨n2,q2⟩
  ·rw[e1,e2]
  ·subst e1
   rw[lk3.mu] at m1
   exact absurd (Option.some.inj m1).symm (nA j o2 b n2 q2 l2 m2)
  ·subst e2
   rw[lk3.mu] at m2
   exact absurd (Option.some.inj m2).symm (nA i o1 b n1 q1 l1 m1)
  ·exact s3.inj i j b o1 o2 q1 q2 l1 l2 m1 m2
 ·replace h2:w3.mu[m]? =some b:=h2
  rcases back m o' h1 with⟨e1,e2⟩|⟨n1,q1⟩
  ·subst e1 e2
   rw[lk3.mu] at h2
   cases h2
   exact hd4.orep upd_same
  ·have h:=s3.obj m o' b q1 h2
   have hH:o'.live→(unW w3 n a ob u).H b=w3.H b:=fun l=>upd_ne (nA m o' b n1 q1 l h2)
   cases o' with
   |lst l=>obtain⟨vs,e,r⟩:=h;exact⟨vs,(hH trivial).trans e,by
     have:∀ds vs,RepL G w3 ds vs→RepL G (unW w3 n a ob u) ds vs:=fun ds=>by
      induction ds with
      |nil=>intro vs h;simpa only[RepL] using h
      |cons d ds ih=>
       intro vs h
       simp only[RepL] at h ⊢
       obtain⟨y,r,e,h1,h2⟩:=h
       exact⟨y,r,e,lift _ _ h1,ih _ h2⟩
     exact this _ _ r⟩
   |dK l=>obtain⟨vs,e,r⟩:=h;exact⟨vs,(hH trivial).trans e,RepKV.of lift _ _ r⟩
   |dT l=>obtain⟨vs,e,r⟩:=h;exact⟨vs,(hH trivial).trans e,RepKV.of lift _ _ r⟩
   |dN l=>obtain⟨vs,e,r⟩:=h;exact⟨vs,(hH trivial).trans e,by
     have:∀ds vs,RepN G w3 ds vs→RepN G (unW w3 n a ob u) ds vs:=fun ds=>by
      induction ds with
      |nil=>intro vs h;exact h
      |cons d ds ih=>
       intro vs h
       obtain⟨b,v,y,e,h1,h2,h3,h4⟩:=h
       exact⟨b,v,y,e,lift _ _ h1,h2,lift _ _ h3,ih _ h4⟩
     exact this _ _ r⟩
   |ins c fs=>obtain⟨C,dx,vs,e,r,q⟩:=h;exact⟨C,dx,vs,(hH trivial).trans e,RepKV.of lift _ _ r,q⟩
   |ptp l=>
    obtain⟨o,vs,⟨e,nm⟩,e2,r⟩:=h
    have hba:b≠a:=fun z=>by
     subst z
     rw[lk3.at'] at e
     injection e with e
     injection e with _ e
     have:=hd.mut
     rw[e] at this
     exact this
    refine⟨o,vs,⟨(upd_ne hba).trans e,fun m=>nm (m.imp (mb b hba) id)⟩,e2,?_⟩
    have:∀ds vs,RepL G w3 ds vs→RepL G (unW w3 n a ob u) ds vs:=fun ds=>by
     induction ds with
     |nil=>intro vs h;simpa only[RepL] using h
     |cons d ds ih=>
      intro vs h
      simp only[RepL] at h ⊢
      obtain⟨y,r,e,h1,h2⟩:=h
      exact⟨y,r,e,lift _ _ h1,ih _ h2⟩
    exact this _ _ r
   |dead=>trivial
   |tab x q=>
    obtain⟨h0,ps,h1,h2,h3⟩:=h
    refine⟨h0,ps,(hH trivial).trans h1,h2,fun pos cv hc=> ?_⟩
    obtain⟨c,e1,e2,e3⟩:=h3 pos cv hc
    have hca:c≠a:=fun z=>by
     subst z
     rw[lk3.at'] at e2
     cases e2
    exact⟨c,e1,(upd_ne hca).trans e2,fun m=>e3 (m.imp (mb c hca) id)⟩
 ·obtain⟨⟨u',e⟩,nm⟩:=s3.tm b hb
  have hba:b≠a:=fun z=>lk3.nm (.inr (by subst z;exact hb))
  exact⟨⟨u',(upd_ne hba).trans e⟩,fun m=>nm (mb b hba m)⟩
end
end L3
namespace L3
open PySem PySem.Spec PyProof.Rows L2
def ItiT (d:Addr) (o:Obj) (kvs:List (List Key × V)):It:=
 ⟨fun i H=>H d=some (.frz o (.dT kvs))∧i<kvs.length,fun i H x H'=>∃T k v q,kvs[i]? =some (k,v)∧x= .ref T∧H T=none∧H q=some (.tup (k.map kV))∧H'=upd H T (.tup [.ref q,v]),fun i H=>H d=some (.frz o (.dT kvs))∧kvs.length≤i⟩
def ItvT (d:Addr) (o:Obj) (kvs:List (List Key × V)):It:=
 ⟨fun i H=>H d=some (.frz o (.dT kvs))∧i<kvs.length,fun i H x H'=>H'=H∧∃k,kvs[i]? =some (k,x),fun i H=>H d=some (.frz o (.dT kvs))∧kvs.length≤i⟩
section
variable {X:Cx} {pins:List (Addr × Obj)} {σ :L2.St} {H:Hp} {s:Shared} {d:Addr} {o:Obj}
theorem frzT_all {kvs:List (List Key × V)} (I:Inv X pins σ H s) (h:H d=some (.frz o (.dT kvs))):
 (d==sysModules)=false∧s.heap.get? d=some o∧o.ExactDict∧∃(es:Array DictEntry) (ep:Nat),o.data= .dict es ep∧es.size=kvs.length∧
   ∀(i:Nat) (k:List Key) (v:V),kvs[i]? =some (k,v)→∃(en:DictEntry) (q:Addr),es[i]? =some en∧en.key= .ref q∧H q=some (.tup (k.map kV))∧RelV v en.val:=by
 obtain⟨hd,z,hs,xs,pr,o',es,ep,ho,hx,hdt,he,_⟩:=I.hok d _ h
 rw[hd] at ho
 cases ho
 refine⟨hs,hd,hx,es,ep,hdt,?_,fun i k v e=> ?_⟩
 ·have l1:es.size=xs.length:=size_of_entries he
  have l2:kvs.length=xs.length:=Paired.length pr
  omega
 ·obtain⟨b,hb,e1,e2,e3⟩:=L2.paired_get pr e
  have q:=entry_at he i
  rw[hb] at q
  exact⟨_,b.2.1,q,rfl,e2,e3⟩
end
section
variable {P:Program} {w:World} {K:PySem.W.Frag} {d:Addr} {o:Obj} {es:Array DictEntry} {ep:Nat}
theorem turn_itemsT {kvs:List (List Key × V)} {elts:List Expr} {kk:Nat} {tpos:Pos} (it:Addr) (hod:o.data= .dict es ep):
 Turn P w K (.Tuple elts kk tpos) (ItiT d o kvs) [it] it (fun i h=>∃ok ov,IsItemIter h it d i kvs.length ep ok ov) where
 mem:=by simp
 obj:=fun i h st b hb=>by
  have e:b=it:=by simpa using hb
  subst e
  obtain⟨ok,ov,e⟩:=st
  exact⟨_,e,fun v z=>nomatch z⟩
 keep:=fun i h h' st k=>let⟨ok,ov,e⟩:=st;⟨ok,ov,k it (by simp) _ e⟩
 item:=by
  intro X hP hw hK hc i pins s σ H E I hf st hg
  subst hP hw hK
  obtain⟨hd,hi⟩:=hg
  obtain⟨hs,hgd,hx,es',ep',hdt,hsz,ent⟩:=frzT_all I hd
  obtain⟨rfl,rfl⟩:=dict_ep hod hdt
  obtain⟨⟨k,v⟩,hkv⟩:∃p,kvs[i]? =some p:=⟨kvs[i],List.getElem?_eq_getElem hi⟩
  obtain⟨en,q,e1,e2,e3,e4⟩:=ent i k v hkv
  obtain⟨ok,ov,he⟩:=st
  rw[← hsz] at he
  have hlt:it<s.heap.objs.size:=Heap.lt_size he
  have hie:i<es'.size:=by omega
  have een:es'[i] =en:=by
   rw[Array.getElem?_eq_getElem hie] at e1
   exact Option.some.inj e1
  refine DT.nextI (es:=es') he ⟨o,hgd,hx,hdt⟩ hie fun h' ho hT hz hk=> ?_
  rw[een,e2] at ho hT
  refine⟨_,rfl,wpAny_letOwnedTupleGo_items (s:= { s with heap:=h' }) ho fun h'' he' sb=> ?_⟩
  have hT2:h''.get? s.heap.objs.size=some { cls:= .type "tuple",data:= .seq #[.ref q,en.val] } :=(sb.2 _ (Nat.ne_of_gt hlt)).trans hT
  have new:ObjOk X.prog X.w (upd H s.heap.objs.size (.tup [.ref q,v])) h'' s.heap.objs.size (.tup [.ref q,v]):=
   ⟨by show 2≤sizeLine;decide,[.ref q,en.val], .cons rfl (.cons e4 .nil),⟨_,hT2,rfl,_,rfl⟩⟩
  have I1:Inv X pins σ (upd H s.heap.objs.size (.tup [.ref q,v])) { s with heap:=h'' } :=
   I.turnedNew (t':=s.toks) (ch:= [it]) (fun b ob hb e=>(sb.2 b (by simpa using hb)).trans (hk b ob (by simpa using hb) e)) hf (Nat.le_refl _) new
  refine⟨.ref s.heap.objs.size,_,I1,rfl,⟨_,k,v,q,hkv,rfl,I.hok.fresh (Nat.le_refl _),e3,rfl⟩,⟨.ref q,en.val,?_⟩,fun b hb=> ?_⟩
  ·rw[← hsz];exact he'
  ·have e:b=it:=by simpa using hb
   rw[e,upd_ne (Nat.ne_of_lt hlt)]
   exact(hf it (by simp)).1
 done:=by
  intro X hP hw hK hc i pins s σ H E I hf st hg
  subst hP hw hK
  obtain⟨hd,hi⟩:=hg
  obtain⟨f0,f1,f2,f3,f4,f5⟩:=hf it (by simp)
  obtain⟨hs,hgd,hx,es',ep',hdt,hsz,ent⟩:=frzT_all I hd
  obtain⟨rfl,rfl⟩:=dict_ep hod hdt
  obtain⟨ok,ov,he⟩:=st
  rw[← hsz] at he
  exact DT.endI (es:=es') (I.ok.hd hc) he ⟨o,hgd,hx,hdt⟩ (by omega) fun h' eb=>⟨rfl,I.turned (t':=s.toks) (fun b ob hb e=>eb b ob hb e) f0 f1 f3 f4 f5⟩
 self:=fun A i s Q E st h=>let⟨_,_,e⟩:=st;PySem.W.kcp_self e h
theorem turn_valsT {kvs:List (List Key × V)} {tg:Expr} (it:Addr) (hod:o.data= .dict es ep):Turn P w K tg (ItvT d o kvs) [it] it (fun i h=>h.IsValIter it d i kvs.length ep) where
 mem:=by simp
 obj:=fun i h st b hb=>by
  have e:b=it:=by simpa using hb
  subst e
  obtain⟨oi,e,c,dd⟩:=st
  exact⟨oi,e,fun v z=>by rw[dd] at z;cases z⟩
 keep:=fun i h h' st k=>st.at fun oi e=>k it (by simp) oi e
 item:=by
  intro X hP hw hK hc i pins s σ H E I hf st hg
  subst hP hw hK
  obtain⟨hd,hi⟩:=hg
  obtain⟨f0,f1,f2,f3,f4,f5⟩:=hf it (by simp)
  obtain⟨hs,hgd,hx,es',ep',hdt,hsz,ent⟩:=frzT_all I hd
  obtain⟨rfl,rfl⟩:=dict_ep hod hdt
  obtain⟨⟨k,v⟩,hkv⟩:∃p,kvs[i]? =some p:=⟨kvs[i],List.getElem?_eq_getElem hi⟩
  obtain⟨en,q,e1,e2,e3,e4⟩:=ent i k v hkv
  rw[← hsz] at st
  have hie:i<es'.size:=by omega
  have een:es'[i] =en:=by
   rw[Array.getElem?_eq_getElem hie] at e1
   exact Option.some.inj e1
  refine PySem.wpAny_pyNext_values_item_raw st ⟨o,hgd,hx,hdt⟩ hie fun h' st' sb=> ?_
  have I1:Inv X pins σ H { s with heap:=h' } :=I.turned (t':=s.toks) (fun b ob hb e=>(sb.2 b hb).trans e) f0 f1 f3 f4 f5
  obtain⟨oi,e,c,dd⟩:=id st'
  rw[een]
  refine⟨en.val,rfl,go_of (s:= { s with heap:=h' }) e c dd (by decide) ⟨v,H,I1,e4,⟨rfl,k,hkv⟩,?_,fun b hb=>(hf b hb).1⟩⟩
  show h'.IsValIter it d (i+1) kvs.length _
  rw[← hsz]
  exact st'
 done:=by
  intro X hP hw hK hc i pins s σ H E I hf st hg
  subst hP hw hK
  obtain⟨hd,hi⟩:=hg
  obtain⟨f0,f1,f2,f3,f4,f5⟩:=hf it (by simp)
  obtain⟨hs,hgd,hx,es',ep',hdt,hsz,ent⟩:=frzT_all I hd
  obtain⟨rfl,rfl⟩:=dict_ep hod hdt
  rw[← hsz] at st
  exact PySem.wpAny_pyNext_values_end_raw (I.ok.hd hc) st ⟨o,hgd,hx,hdt⟩ (by omega) fun h' eb=>⟨rfl,I.turned (t':=s.toks) (fun b ob hb e=>eb b ob hb e) f0 f1 f3 f4 f5⟩
 self:=fun A i s Q E st h=>wpAny_pyIter_valiter st h
end
def prsT (kvs:List (List Key × D)):List D:=kvs.map fun p=> .tup [.tup (p.1.map keyD),p.2]
theorem kv_at {κ :Type} {G:GC} {w:Wd} :∀ {kvs:List (κ × D)} {vs:List (κ × V)},RepKV G w kvs vs→∀(i:Nat) (k: κ) (v:V),vs[i]? =some (k,v)→∃d,kvs[i]? =some (k,d)∧Rep G w d v
 | [],vs,h,i,k,v,e=>by
   have h:vs= [] :=h
   subst h
   simp at e
 |p::kvs,vs,h,i,k,v,e=>by
  obtain⟨y,r,rfl,h1,h2⟩:=h
  cases i with
  |zero=>cases e;exact⟨p.2,rfl,h1⟩
  |succ i=>exact kv_at h2 i k v (by simpa using e)
theorem rep_keyD {G:GC} {w:Wd} (k:Key):Rep G w (keyD k) (kV k):=by
 cases k<;>simp[keyD,kV,Rep]
theorem repL_keys {G:GC} {w:Wd} :∀k:List Key,RepL G w (k.map keyD) (k.map kV)
 | [] =>by simp[RepL]
 |k::ks=>by
  simp only[List.map_cons,RepL]
  exact⟨_,_,rfl,rep_keyD k,repL_keys ks⟩
section
variable {G:GC} {w:Wd} {n:Nat} {a:Addr} {od:Obj}
theorem tup_nm (sr:SRep G w) {q:Addr} {vs:List V} (h:w.H q=some (.tup vs)): ¬Mut w q:=by
 rintro(⟨m,o,h1,l,h2⟩|m)
 ·have:=sr.obj m o q h1 h2
  cases o with
  |lst _=>obtain⟨_,e,_⟩:=this;rw[h] at e;cases e
  |dK _=>obtain⟨_,e,_⟩:=this;rw[h] at e;cases e
  |dT _=>obtain⟨_,e,_⟩:=this;rw[h] at e;cases e
  |dN _=>obtain⟨_,e,_⟩:=this;rw[h] at e;unfold ObN at e;cases e
  |ins _ _=>obtain⟨_,_,_,e,_⟩:=this;rw[h] at e;cases e
  |ptp _=>exact l
  |dead=>exact l
  |tab _ _=>obtain⟨_,_,e,_⟩:=this;rw[h] at e;cases e
 ·obtain⟨⟨u,e⟩,_⟩:=sr.tm q m
  rw[h] at e
  exact u.2 vs (Option.some.inj e).symm
theorem it_itemsT {kvs:List (List Key × D)} {vs:List (List Key × V)} (lk:LkAt w n a od (.dT vs)) (r:RepKV G w kvs vs):ItOk G w (ItiT a od vs) (prsT kvs):=by
 have hl:kvs.length=vs.length:=r.len.symm
 refine⟨fun T w' hT x s i d e=> ?_,fun T w' hT x s=>⟨(x.keepM hT lk.at' lk.nm).1,by simp[prsT,hl]⟩⟩
 have hi:i<kvs.length:=by
  have:=(List.getElem?_eq_some_iff.mp e).1
  simpa[prsT] using this
 refine⟨⟨(x.keepM hT lk.at' lk.nm).1,by omega⟩,fun y H'' hy=> ?_⟩
 obtain⟨T',k,v,q,e1,rfl,e2,e3,rfl⟩:=hy
 obtain⟨d',e4,r4⟩:=kv_at r i k v e1
 have ed:d= .tup [.tup (k.map keyD),d'] :=by
  simp only[prsT,List.getElem?_map,e4,Option.map_some,Option.some.injEq] at e
  exact e.symm
 subst ed
 obtain⟨x2,s2,nm2⟩:=new_ext (o:= .tup [.ref q,v]) s e2
 refine⟨_,rfl,x2,rfl,s2,?_⟩
 have hqT:q≠T':=ne_of_none e3 e2
 have hq2:(w'.put T' (.tup [.ref q,v])).H q=some (.tup (k.map kV)):=(upd_ne hqT).trans e3
 simp only[Rep]
 refine⟨T',_,rfl, .inl ⟨upd_same,nm2⟩,?_⟩
 simp only[RepL]
 refine⟨.ref q,_,rfl,?_,v,[],rfl,Rep.mono x2 _ _ (Rep.monoT x hT _ _ r4),rfl⟩
 simp only[Rep]
 exact⟨q,_,rfl, .inl ⟨hq2,tup_nm s2 hq2⟩,repL_keys k⟩
theorem pairs_get:∀ {kvs:List (Key × D)} {i:Nat} {d:D},(pairs kvs)[i]? =some d→∃k x,kvs[i]? =some (k,x)∧d= .tup [keyD k,x]
 | [],i,d,e=>by simp[pairs] at e
 |p::kvs,0,d,e=>by simp only[pairs,List.getElem?_cons_zero,Option.some.injEq] at e;exact⟨p.1,p.2,rfl,e.symm⟩
 |p::kvs,i+1,d,e=>by
  simp only[pairs,List.getElem?_cons_succ] at e ⊢
  exact pairs_get e
theorem pairs_length:∀kvs:List (Key × D),(pairs kvs).length=kvs.length
 | [] =>rfl
 |p::kvs=>by simp[pairs,pairs_length kvs]
theorem it_itemsK {kvs:List (Key × D)} {vs:List (Key × V)} (lk:LkAt w n a od (.dK vs)) (r:RepKV G w kvs vs):ItOk G w (Iti a od vs) (pairs kvs):=by
 have hl:kvs.length=vs.length:=r.len.symm
 refine⟨fun T w' hT x s i d e=> ?_,fun T w' hT x s=>⟨(x.keepM hT lk.at' lk.nm).1,by rw[pairs_length,hl];exact Nat.le_refl _⟩⟩
 obtain⟨k,d',e4,rfl⟩:=pairs_get e
 have hi:=(List.getElem?_eq_some_iff.mp e4).1
 refine⟨⟨(x.keepM hT lk.at' lk.nm).1,by omega⟩,fun y H'' hy=> ?_⟩
 obtain⟨T',k',v,e1,rfl,e2,rfl⟩:=hy
 obtain⟨d2,e5,r4⟩:=kv_at r i k' v e1
 rw[e4] at e5
 cases e5
 obtain⟨x2,s2,nm2⟩:=new_ext (o:= .tup [kV k,v]) s e2
 refine⟨_,rfl,x2,rfl,s2,?_⟩
 simp only[Rep]
 refine⟨T',_,rfl, .inl ⟨upd_same,nm2⟩,?_⟩
 simp only[RepL]
 exact⟨kV k,_,rfl,rep_keyD k,v,[],rfl,Rep.mono x2 _ _ (Rep.monoT x hT _ _ r4),rfl⟩
theorem it_valsK {kvs:List (Key × D)} {vs:List (Key × V)} (lk:LkAt w n a od (.dK vs)) (r:RepKV G w kvs vs):ItOk G w (Itd a od vs) (kvs.map (·.2)):=by
 have hl:kvs.length=vs.length:=r.len.symm
 refine⟨fun T w' hT x s i d e=> ?_,fun T w' hT x s=>⟨(x.keepM hT lk.at' lk.nm).1,by simp[hl]⟩⟩
 rw[List.getElem?_map] at e
 obtain⟨⟨k,d'⟩,e4,rfl⟩:=Option.map_eq_some_iff.mp e
 have hi:=(List.getElem?_eq_some_iff.mp e4).1
 refine⟨⟨(x.keepM hT lk.at' lk.nm).1,by omega⟩,fun y H'' hy=> ?_⟩
 obtain⟨rfl,k',e1⟩:=hy
 obtain⟨d2,e5,r4⟩:=kv_at r i k' y e1
 rw[e4] at e5
 cases e5
 exact⟨w',rfl, .refl w',rfl,s,Rep.monoT x hT _ _ r4⟩
theorem it_valsT {kvs:List (List Key × D)} {vs:List (List Key × V)} (lk:LkAt w n a od (.dT vs)) (r:RepKV G w kvs vs):ItOk G w (ItvT a od vs) (kvs.map (·.2)):=by
 have hl:kvs.length=vs.length:=r.len.symm
 refine⟨fun T w' hT x s i d e=> ?_,fun T w' hT x s=>⟨(x.keepM hT lk.at' lk.nm).1,by simp[hl]⟩⟩
 rw[List.getElem?_map] at e
 obtain⟨⟨k,d'⟩,e4,rfl⟩:=Option.map_eq_some_iff.mp e
 have hi:=(List.getElem?_eq_some_iff.mp e4).1
 refine⟨⟨(x.keepM hT lk.at' lk.nm).1,by omega⟩,fun y H'' hy=> ?_⟩
 obtain⟨rfl,k',e1⟩:=hy
 obtain⟨d2,e5,r4⟩:=kv_at r i k' y e1
 rw[e4] at e5
 cases e5
 exact⟨w',rfl, .refl w',rfl,s,Rep.monoT x hT _ _ r4⟩
end
def itsO:O→Option (List D)
 | .dT kvs=>some (prsT kvs)
 | .dK kvs=>some (pairs kvs)
 | _=>none
def valsO:O→Option (List D)
 | .dK kvs=>some (kvs.map (·.2))
 | .dT kvs=>some (kvs.map (·.2))
 | _=>none
def iLk (o:ED) (n:Nat) (ps:List D):ID:=fun env S=>(o env S).bind fun d S1=>match d with
 | .obj k=>if k=n then .ok ps S1 else .bad
 | _=> .bad
def tIK (G:GC) (C:Wd→Prop) (m:ID) (Wx:WX):TI:=fun σ H Rr=>∃w env,w.H=H∧SRep G w∧ERep G w env σ ∧C w∧Post G w (m env w.S) (fun w' xs (J:It)=>ItOk G w' J xs) Rr (fun C dx H'=>Wx C dx σ H')
def LkC (G:GC) (n:Nat) (a:Addr) (od:Obj) (u:HO) (ob:O) (w:Wd):Prop:=LkAt w n a od u∧DRep G w u ob
section
variable {G:GC} {X:Cx} {Wx:WX} {n:Nat} {a:Addr} {od:Obj} {u:HO} {ob:O} {e:Expr} {apos cpos:Pos}
theorem q_itemsLk {elts:List Expr} {kk:Nat} {tpos:Pos} {o:ED} {ps:List D} (hps:itsO ob=some ps) (he:PE X e (tE G o Wx)) (hbase:attributeBase e "items" X.env (eval e X.env)=eval e X.env:=by rfl) (hline:(apos.endLine==cpos.line)=true:=by rfl):
 PI X (.Tuple elts kk tpos) (.Call (.Attribute e "items" apos) [] [] cpos) (tIK G (LkC G n a od u ob) (iLk o n ps) Wx):=by
 refine⟨fun pins s σ H R I h=> ?_⟩
 obtain⟨w,env,rfl,sr,er,⟨lk,dr⟩,p⟩:=h
 refine wpAny_Call_method (T:= "dict") (id:= "dict.items") hbase rfl hline F.plainAttrs_dict F.slot_dict_items F.type_dict_items (thn (he.run pins s σ w.H _ I ⟨w,env,rfl,sr,er,Post.bind p⟩) fun v s1 ⟨x,H1,I1,rx,w1,d,eH,x1,sr1,r1,p1⟩=> ?_)
 subst eH
 cases d with
 |obj k=>
  simp only at p1
  split at p1
  case isFalse=>exact p1.elim
  rename_i hkn
  subst hkn
  simp only[Rep] at r1
  obtain⟨a',hm,rfl⟩:=r1
  have lk1:=lk.mono x1
  rw[lk1.mu] at hm
  cases hm
  have dr1:=dr.of fun d v h=>Rep.mono x1 d v h
  obtain rfl:v=Value.ref a:=rx
  cases ob with
  |dT kvs=>
   obtain⟨vs,rfl,rk⟩:=dr1
   simp only[itsO,Option.some.injEq] at hps
   subst hps
   obtain⟨hs,hgd,hx,es,ep,hdt,hsz,ent⟩:=frzT_all I1 lk1.at'
   have q:=p1 (ItiT a od vs) w1 (.refl _) rfl sr1 (it_itemsT lk1 rk)
   have raw:DT.Raw s1.heap a es ep:=⟨od,hgd,hx,hdt⟩
   refine⟨raw.typeIs,fun a' e'=>by cases e';exact⟨od,hgd,by first|exact hx.2.1|exact hx.1|exact hx.2⟩,?_⟩
   have I2:Inv X pins σ w1.H { s1 with heap:=s1.heap.push { cls:= .type "dict_items",data:= .fields #[.ref a] } } :=I1.kept (t':=s1.toks) fun b ob q=>Heap.get?_push_of_some _ q
   have fin:wpAny (model X.prog X.w) X.A (pyIter (.ref s1.heap.objs.size)) (PIE X pins σ (.Tuple elts kk tpos) R) X.xe { s1 with heap:=s1.heap.push { cls:= .type "dict_items",data:= .fields #[.ref a] } } :=by
    refine DT.iterI (es:=es) (ep:=ep) (d:=a) ⟨_,Heap.get?_push_size _ rfl,rfl,rfl⟩ (raw.push _) (pi_one (tk:=s1.toks) I2 _ (turn_itemsT _ hdt) ⟨.none, .none,?_⟩ q)
    rw[← hsz]
    exact Heap.get?_push_size _ rfl
   show wpAny _ _ (callWith cpos (.builtin "dict.items") [.ref a] [] []) _ X.xe s1
   exact method_meetsIn F.slot_dict_items F.entry_dict_items rfl (PySem.evalArgs_none ⟨rfl,raw.typeIs,F.args_dict_items_1 _,_,DT.meetsItems (es:=es) (ep:=ep) hs,⟨raw,fin⟩⟩)
  |dK kvs=>
   obtain⟨vs,rfl,rk⟩:=dr1
   simp only[itsO,Option.some.injEq] at hps
   subst hps
   obtain⟨hs,hgd,hx,es,ep,vs',hdt,hsz,kv,hm⟩:=I1.frzK lk1.at'
   have q:=p1 (Iti a od vs) w1 (.refl _) rfl sr1 (it_itemsK lk1 rk)
   have hl:vs.length=vs'.length:=Paired.length kv
   refine⟨hm.dictOf.typeIs,hm.dictOf.mapOf.noDict,?_⟩
   have I2:Inv X pins σ w1.H { s1 with heap:=s1.heap.push { cls:= .type "dict_items",data:= .fields #[.ref a] } } :=I1.kept (t':=s1.toks) fun b ob q=>Heap.get?_push_of_some _ q
   have fin:wpAny (model X.prog X.w) X.A (pyIter (.ref s1.heap.objs.size)) (PIE X pins σ (.Tuple elts kk tpos) R) X.xe { s1 with heap:=s1.heap.push { cls:= .type "dict_items",data:= .fields #[.ref a] } } :=by
    refine wpAny_pyIter_items (d:=a) (knd:=mixKind X.prog X.w) ⟨_,Heap.get?_push_size _ rfl,rfl,rfl⟩ (hm.push _) (pi_one (tk:=s1.toks) I2 _ (turn_items _ hdt) ⟨.none, .none,?_⟩ q)
    rw[hl]
    exact Heap.get?_push_size _ rfl
   show wpAny _ _ (callWith cpos (.builtin "dict.items") [.ref a] [] []) _ X.xe s1
   exact method_meetsIn F.slot_dict_items F.entry_dict_items rfl (PySem.evalArgs_none ⟨rfl,hm.dictOf.typeIs,F.args_dict_items_1 _,_,meets_dict_items (mixKind X.prog X.w) a hs,⟨vs',hm.dictOf⟩,fin⟩)
  | _=>exact dr1.elim
 | _=>exact p1.elim
theorem q_valsLk {tg:Expr} {o:ED} {ps:List D} (hps:valsO ob=some ps) (he:PE X e (tE G o Wx)) (hbase:attributeBase e "values" X.env (eval e X.env)=eval e X.env:=by rfl) (hline:(apos.endLine==cpos.line)=true:=by rfl):
 PI X tg (.Call (.Attribute e "values" apos) [] [] cpos) (tIK G (LkC G n a od u ob) (iLk o n ps) Wx):=by
 refine⟨fun pins s σ H R I h=> ?_⟩
 obtain⟨w,env,rfl,sr,er,⟨lk,dr⟩,p⟩:=h
 refine wpAny_Call_method (T:= "dict") (id:= "dict.values") hbase rfl hline F.plainAttrs_dict F.slot_dict_values F.type_dict_values (thn (he.run pins s σ w.H _ I ⟨w,env,rfl,sr,er,Post.bind p⟩) fun v s1 ⟨x,H1,I1,rx,w1,d,eH,x1,sr1,r1,p1⟩=> ?_)
 subst eH
 cases d with
 |obj k=>
  simp only at p1
  split at p1
  case isFalse=>exact p1.elim
  rename_i hkn
  subst hkn
  simp only[Rep] at r1
  obtain⟨a',hm,rfl⟩:=r1
  have lk1:=lk.mono x1
  rw[lk1.mu] at hm
  cases hm
  have dr1:=dr.of fun d v h=>Rep.mono x1 d v h
  obtain rfl:v=Value.ref a:=rx
  cases ob with
  |dK kvs=>
   obtain⟨vs,rfl,rk⟩:=dr1
   simp only[valsO,Option.some.injEq] at hps
   subst hps
   obtain⟨hs,hgd,hx,es,ep,vs',hdt,hsz,kv,hm⟩:=I1.frzK lk1.at'
   have q:=p1 (Itd a od vs) w1 (.refl _) rfl sr1 (it_valsK lk1 rk)
   have hl:vs.length=vs'.length:=Paired.length kv
   refine⟨hm.dictOf.typeIs,hm.dictOf.mapOf.noDict,?_⟩
   have I2:Inv X pins σ w1.H { s1 with heap:=s1.heap.push { cls:= .type "dict_values",data:= .fields #[.ref a] } } :=I1.kept (t':=s1.toks) fun b ob q=>Heap.get?_push_of_some _ q
   have fin:wpAny (model X.prog X.w) X.A (pyIter (.ref s1.heap.objs.size)) (PIE X pins σ tg R) X.xe { s1 with heap:=s1.heap.push { cls:= .type "dict_values",data:= .fields #[.ref a] } } :=by
    refine wpAny_pyIter_values (d:=a) (knd:=mixKind X.prog X.w) ⟨_,Heap.get?_push_size _ rfl,rfl,rfl⟩ (hm.push _) (pi_one (tk:=s1.toks) I2 _ (turn_vals _ hdt) ⟨_,Heap.get?_push_size _ rfl,rfl,?_⟩ q)
    rw[hl] <;>rfl
   show wpAny _ _ (callWith cpos (.builtin "dict.values") [.ref a] [] []) _ X.xe s1
   exact method_meetsIn F.slot_dict_values F.entry_dict_values rfl (PySem.evalArgs_none ⟨rfl,hm.dictOf.typeIs,F.args_dict_values_1 _,_,meets_dict_values (mixKind X.prog X.w) a hs,⟨vs',hm.dictOf⟩,fin⟩)
  |dT kvs=>
   obtain⟨vs,rfl,rk⟩:=dr1
   simp only[valsO,Option.some.injEq] at hps
   subst hps
   obtain⟨hs,hgd,hx,es,ep,hdt,hsz,ent⟩:=frzT_all I1 lk1.at'
   have q:=p1 (ItvT a od vs) w1 (.refl _) rfl sr1 (it_valsT lk1 rk)
   have raw:s1.heap.DictRaw a es ep:=⟨od,hgd,hx,hdt⟩
   refine⟨raw.typeIs,fun a' e'=>by cases e';exact⟨od,hgd,by first|exact hx.2.1|exact hx.1|exact hx.2⟩,?_⟩
   have I2:Inv X pins σ w1.H { s1 with heap:=s1.heap.push { cls:= .type "dict_values",data:= .fields #[.ref a] } } :=I1.kept (t':=s1.toks) fun b ob q=>Heap.get?_push_of_some _ q
   have fin:wpAny (model X.prog X.w) X.A (pyIter (.ref s1.heap.objs.size)) (PIE X pins σ tg R) X.xe { s1 with heap:=s1.heap.push { cls:= .type "dict_values",data:= .fields #[.ref a] } } :=by
    refine PySem.wpAny_pyIter_values_raw (es:=es) (ep:=ep) (d:=a) ⟨_,Heap.get?_push_size _ rfl,rfl,rfl⟩ (raw.at fun _ e=>Heap.get?_push_of_some _ e) (pi_one (tk:=s1.toks) I2 _ (turn_valsT _ hdt) ⟨_,Heap.get?_push_size _ rfl,rfl,?_⟩ q)
    rw[← hsz] <;>rfl
   show wpAny _ _ (callWith cpos (.builtin "dict.values") [.ref a] [] []) _ X.xe s1
   exact method_meetsIn F.slot_dict_values F.entry_dict_values rfl (PySem.evalArgs_none ⟨rfl,raw.typeIs,F.args_dict_values_1 _,_,PySem.meets_dict_values_raw a hs,⟨⟨es,ep,raw⟩,fin⟩⟩)
  | _=>exact dr1.elim
 | _=>exact p1.elim
end
end L3
namespace L3
open PySem PySem.Spec PyProof.Rows L2
def lkAt (sel:O→Option (List D)) (o:ED) (env:EnvD) (S:Store):Option (Nat × O × List D):=match o env S with
 | .ok (.obj n) _=>match S[n]? with
   |some ob=>match sel ob with
    |some ps=>some (n,ob,ps)
    |none=>none
   |none=>none
 | _=>none
def unS (n:Nat) (ob:O) (r:R D):R D:=match r with
 | .ok d S2=>match S2[n]? with
   |some .dead=> .ok d (S2.set n ob)
   | _=> .bad
 | _=> .bad
def eLkI (sel:O→Option (List D)) (o:ED) (m:ID→ED):ED:=fun env S=>match lkAt sel o env S with
 |some (n,ob,ps)=>unS n ob (m (iLk o n ps) env (S.set n .dead))
 |none=> .bad
def tILk (G:GC) (sel:O→Option (List D)) (o:ED) (Wx:WX):TI:=fun σ H R=>∃n a od u ob ps,sel ob=some ps∧tIK G (LkC G n a od u ob) (iLk o n ps) Wx σ H R
def SelOk (sel:O→Option (List D)):Prop:=∀ob ps,sel ob=some ps→∃x,(ob= .dK x)∨∃y,ob= .dT y
theorem sel_its:SelOk itsO:=fun ob ps h=>by
 cases ob with
 |dK x=>exact⟨x, .inl rfl⟩
 |dT y=>exact⟨[], .inr ⟨y,rfl⟩⟩
 | _=>cases h
theorem sel_vals:SelOk valsO:=fun ob ps h=>by
 cases ob with
 |dK x=>exact⟨x, .inl rfl⟩
 |dT y=>exact⟨[], .inr ⟨y,rfl⟩⟩
 | _=>cases h
section
variable {G:GC} {X:Cx} {Wx:WX} {e:Expr} {apos cpos:Pos} {o:ED} {sel:O→Option (List D)} {w:Wd} {env:EnvD} {n:Nat} {ob:O} {ps:List D}
theorem q_itemsL {elts:List Expr} {kk:Nat} {tpos:Pos} (he:PE X e (tE G o Wx)) (hbase:attributeBase e "items" X.env (eval e X.env)=eval e X.env:=by rfl) (hline:(apos.endLine==cpos.line)=true:=by rfl):
 PI X (.Tuple elts kk tpos) (.Call (.Attribute e "items" apos) [] [] cpos) (tILk G itsO o Wx):=
 ⟨fun pins s σ H R I ⟨n,a,od,u,ob,ps,hps,h⟩=>(q_itemsLk hps he hbase hline).run pins s σ H R I h⟩
theorem q_valsL {tg:Expr} (he:PE X e (tE G o Wx)) (hbase:attributeBase e "values" X.env (eval e X.env)=eval e X.env:=by rfl) (hline:(apos.endLine==cpos.line)=true:=by rfl):
 PI X tg (.Call (.Attribute e "values" apos) [] [] cpos) (tILk G valsO o Wx):=
 ⟨fun pins s σ H R I ⟨n,a,od,u,ob,ps,hps,h⟩=>(q_valsLk hps he hbase hline).run pins s σ H R I h⟩
theorem lkAt_some (h:lkAt sel o env w.S=some (n,ob,ps)):w.S[n]? =some ob∧sel ob=some ps:=by
 unfold lkAt at h
 split at h
 ·split at h
  ·split at h
   ·rename_i h1 _ _ h2
    cases h
    rename_i h1 _ h2
    exact⟨h1,h2⟩
   ·cases h
  ·cases h
 ·cases h
theorem lk_start (hs:SelOk sel) (sr:SRep G w) (h:lkAt sel o env w.S=some (n,ob,ps)):w.S[n]? =some ob∧sel ob=some ps∧∃a u,w.mu[n]? =some a∧w.H a=some u∧DRep G w u ob:=by
 obtain⟨h1,h2⟩:=lkAt_some h
 have hl:=(List.getElem?_eq_some_iff.mp h1).1
 rw[← sr.len] at hl
 have hm:w.mu[n]? =some w.mu[n] :=List.getElem?_eq_getElem hl
 obtain⟨u,h3,h4⟩:=drep_at sr h1 hm (hs ob ps h2)
 exact⟨h1,h2,_,u,hm,h3,h4⟩
theorem unS_ok {r:R D} {d:D} {S4:Store} (h:unS n ob r= .ok d S4):∃S2,r= .ok d S2∧S2[n]? =some .dead∧S4=S2.set n ob:=by
 unfold unS at h
 split at h
 ·split at h
  ·rename_i h1
   cases h
   exact⟨_,rfl,h1,rfl⟩
  ·cases h
 ·cases h
theorem post_unS {r:R D} {Q:VK} {E:Value→Option Addr→Hp→Prop} (h:Post G w (unS n ob r) (Rep G) Q E):∃d S2,r= .ok d S2∧S2[n]? =some .dead∧Post G w (.ok d (S2.set n ob)) (Rep G) Q E:=by
 cases hr:unS n ob r with
 |ok d S4=>
  obtain⟨S2,h1,h2,rfl⟩:=unS_ok hr
  rw[hr] at h
  exact⟨d,S2,h1,h2,h⟩
 |exc e S=>
  exfalso
  unfold unS at hr
  split at hr
  ·split at hr<;>cases hr
  ·cases hr
 |bad=>rw[hr] at h;exact h.elim
theorem eLc_ok {mi:ID} {vs:List Nat} {g:GD} {tt:TD} {te:ED} {S:Store} {d:D} {S2:Store} (h:eLc mi vs g tt te env S= .ok d S2):∃xs S1 F,mi env S= .ok xs S1∧xs.length≤sizeLine∧lcL g tt te (wipeD env vs) xs S1= .ok F S2∧d= .lst F:=by
 unfold eLc at h
 cases hm:mi env S with
 |ok xs S1=>
  rw[hm] at h
  simp only[R.bind] at h
  split at h
  case isFalse=>cases h
  rename_i hz
  cases hl:lcL g tt te (wipeD env vs) xs S1 with
  |ok F SF=>
   rw[hl] at h
   simp only[R.ok.injEq] at h
   obtain⟨rfl,rfl⟩:=h
   exact⟨xs,S1,F,rfl,hz,hl,rfl⟩
  |exc _ _=>rw[hl] at h;cases h
  |bad=>rw[hl] at h;cases h
 |exc _ _=>rw[hm] at h;cases h
 |bad=>rw[hm] at h;cases h
theorem sortSet_ok {x:D} {S:Store} {d:D} {S2:Store} (h:sortSetD x S= .ok d S2):∃F ks,x= .lst F∧nkDL F=some ks∧okSet ks=true∧d= .lst (sortL ((ddK ks).map kD))∧S2=S:=by
 unfold sortSetD at h
 split at h
 case h_2=>cases h
 split at h
 case h_2=>cases h
 rename_i ks hks
 split at h
 case isFalse=>cases h
 rename_i ok
 cases h
 exact⟨_,ks,rfl,hks,ok,rfl,rfl⟩
theorem q_sortScL {elt tg iter:Expr} {ifs:List Expr} {scope:Scope} {own:List (Str × Nat)} {g:GD} {mt:TD} {me:ED} {p pos pos2:Pos} (hsel:SelOk sel) (hK:X.K=G.K) (hu:X.A.units+65<cLine) (hgl:Gl X "sorted") (hm:X.mg "sorted" =none) (hc:X.calm=true) (hN:X.N.Nodup) (hi:PI X tg iter (tILk G sel o Wx)) (ok:BlkOk X.N X.env.scope scope own)
 (hg:∀(s:Shared) (H:Hp) (C:Addr) (cl:List (Str × Addr)) (fp:List Addr),PG (X.blk s H scope (compEnvC scope cl C X.env) fp) tg (tGW G g (own.map (·.2))))
 (ht:∀(s:Shared) (H:Hp) (C:Addr) (cl:List (Str × Addr)) (fp:List Addr),PTs (X.blk s H scope (compEnvC scope cl C X.env) fp) ifs (tT G mt WF))
 (he:∀(s:Shared) (H:Hp) (C:Addr) (cl:List (Str × Addr)) (fp:List Addr),PE (X.blk s H scope (compEnvC scope cl C X.env) fp) elt (tE G me WF)) (hs:∀x,foldedSetIterable iter X.env x=pure x:=by intro _;rfl)
 (hst:starEach [.SetComp elt [⟨tg,iter,ifs,0⟩] scope pos2] X.env=(false,eval (.SetComp elt [⟨tg,iter,ifs,0⟩] scope pos2) X.env)::starEach [] X.env:=by rfl):
 PE X (.Call (.Name "sorted" p) [.SetComp elt [⟨tg,iter,ifs,0⟩] scope pos2] [] pos) (tE G (eLkI sel o fun mi=>e1 sortSetD (eLc mi (own.map (·.2)) g mt me)) Wx):=by
 refine⟨fun pins s σ H Q I h=> ?_⟩
 obtain⟨w,env,rfl,sr,er,pp⟩:=h
 unfold eLkI at pp
 split at pp
 case h_2=>exact pp.elim
 rename_i n ob ps hlk
 obtain⟨hn,hps,a,u,hmu,hau,dr⟩:=lk_start hsel sr hlk
 obtain⟨d,S2,hr,hdead,pp⟩:=post_unS pp
 simp only[e1] at hr
 cases hr0:eLc (iLk o n ps) (own.map (·.2)) g mt me env (w.S.set n .dead) with
 |exc _ _=>rw[hr0] at hr;cases hr
 |bad=>rw[hr0] at hr;cases hr
 |ok x0 SF=>
  rw[hr0] at hr
  obtain⟨F,ks,rfl,hks,okk,rfl,rfl⟩:=sortSet_ok hr
  obtain⟨xs,S1,F',hmi,hz,hF,eF⟩:=eLc_ok hr0
  cases eF
  refine wpAny_Call_Name_kw (ld_blt I hgl hm (show bootBuiltins "sorted" =some (.builtin "sorted") from by kernel_rfl) ?_)
  refine PyProof.Rows.callWith_builtin1 ?_ hst rfl
  rw[hst]
  show wpAny _ _ (spliced ((false,eval (.SetComp elt [⟨tg,iter,ifs,0⟩] scope pos2) X.env)::backTo pos (starEach [] X.env))) _ _ s
  refine Calls.spliced_cons (thn ((pe_lock (pe_sc hc (by omega) hN hi ok hg ht he hs)).run pins s σ w.H (SetGot2 G X w F (S2.set n ob)) I ⟨a,u,hau,dr.mut,fun od=> ?_⟩) fun v s1 ⟨x,H1,I1,rx,q1⟩=> ?_)
  ·obtain⟨x0,s0,lk0⟩:=lock_ok (od:=od) (u:=u) sr hn dr.live hmu
   refine⟨n,a,od,u,ob,ps,hps,lkW w n a od u,env,rfl,s0,er.mono x0,⟨lk0,dr.of fun d v h=>Rep.mono x0 d v h⟩,?_⟩
   show Post G (lkW w n a od u) (iLk o n ps env (w.S.set n .dead)) _ _ _
   rw[hmi]
   intro J w1 x1 e1 s1 io
   subst e1
   intro L hL
   obtain⟨W,w0,step⟩:=sc_mid (X:=X) hK s1 ((er.mono x0).mono x1) io hF hks okk L hL
   refine⟨W,w0,fun i m H h=> ?_⟩
   rcases step i m H h with⟨h1,w3,a3,S,eLa,rfl,x3,eS,s3,hob,rep,side⟩|h
   ·refine .inl ⟨h1,(lk0.mono (WX'.trans x1 x3)).at',?_⟩
    obtain⟨x4,s4,lift⟩:=unlock_ok sr hn hmu dr (WX'.trans x1 x3) s3 (by rw[eS];exact hdead)
    obtain rfl:L=a3:=V.ref.inj eLa
    refine⟨unW w3 n a ob u,L,S,rfl,rfl,x4,by show w3.S.set n ob=_;rw[eS],s4,?_,rep.imp fun _ _ _ h=>⟨h.1,lift _ _ h.2⟩,side⟩
    have hLa:L≠a:=fun e=>by
     have:=(lk0.mono (WX'.trans x1 x3)).at'
     rw[← e,hob] at this
     unfold ObU at this
     cases this
    exact(upd_ne hLa).trans hob
   ·exact .inr h
  ·obtain⟨w4,a4,S,rfl,eH,x4,eS,s4,hob,rep,side⟩:=q1
   subst eH
   obtain rfl:v=Value.ref a4:=rx
   refine Calls.spliced_nil ?_
   rw[← eS] at pp
   exact sorted_setU hK hc hu I1 s4 hob rep hks okk side (Post.shift x4 pp)
def unSS (n:Nat) (ob:O) (r:SR):SR:=match r with
 | .nx e S2=>match S2[n]? with
   |some .dead=> .nx e (S2.set n ob)
   | _=> .bad
 | .ret d S2=>match S2[n]? with
   |some .dead=> .ret d (S2.set n ob)
   | _=> .bad
 | _=> .bad
def sForL (sel:O→Option (List D)) (o:ED) (g:GD) (body:SD):SD:=fun env S=>match lkAt sel o env S with
 |some (n,ob,ps)=>unSS n ob (sFor (iLk o n ps) g body env (S.set n .dead))
 |none=> .bad
theorem q_forLk {tg iter:Expr} {body:List Stmt} {pos:Pos} {g:GD} {mb:SD} (hsel:SelOk sel) (hp:PassesOwn (model X.prog X.w) X.A X.env X.xe) (hc:X.calm=true) (hi:PI X tg iter (tILk G sel o Wx)) (hg:PG X tg (tG G g)) (hb:PSs X body (tS G mb Wx))
 (hs:∀x,foldedSetIterable iter X.env x=pure x:=by intro _;rfl):PS X (.For tg iter body [] pos) (tS G (sForL sel o g mb) Wx):=psI (ps_lock (ps_for hp hc hi hg hb hs)) fun D σ H q=>by
 obtain⟨w,env,rfl,sr,er,p⟩:=q
 unfold sForL at p
 split at p
 case h_2=>exact p.elim
 rename_i n ob ps hlk
 obtain⟨hn,hps,a,u,hmu,hau,dr⟩:=lk_start hsel sr hlk
 refine⟨a,u,hau,dr.mut,fun od=> ?_⟩
 obtain⟨x0,s0,lk0⟩:=lock_ok (od:=od) (u:=u) sr hn dr.live hmu
 refine⟨n,a,od,u,ob,ps,hps,lkW w n a od u,env,rfl,s0,er.mono x0,⟨lk0,dr.of fun d v h=>Rep.mono x0 d v h⟩,?_⟩
 show Post G (lkW w n a od u) (iLk o n ps env (w.S.set n .dead)) _ _ _
 unfold sFor at p
 cases hmi:iLk o n ps env (w.S.set n .dead) with
 |exc _ _=>rw[hmi] at p;exact p.elim
 |bad=>rw[hmi] at p;exact p.elim
 |ok xs S1=>
  rw[hmi] at p
  simp only[R.toS] at p
  intro J w1 x1 e1 s1 io
  subst e1
  have ends:∀r,forL g mb xs env w1.S=r→PostS G w (unSS n ob r) D Wx:=fun r h=>h▸p
  refine⟨fun i m σ' H=>∃w2 env2,w2.H=H∧SRep G w2∧ERep G w2 env2 σ'∧WExt w1 w2∧i+m=xs.length∧forL g mb xs env w1.S=forL g mb (xs.drop i) env2 w2.S,⟨xs.length,w1,env,rfl,s1,(er.mono x0).mono x1, .refl _,by omega,by simp⟩,fun i m σ' H hW=> ?_⟩
  obtain⟨w2,env2,rfl,s2,er2,x2,em,eq⟩:=hW
  by_cases hi:i<xs.length
  ·have e:xs[i]? =some xs[i] :=List.getElem?_eq_getElem hi
   rw[List.drop_eq_getElem_cons hi,forL] at eq
   obtain⟨go,yl⟩:=io.go [] w2 (fun a h=>by simp at h) x2 s2 i xs[i] e
   refine .inr ⟨go,fun σ' H'=>∃w2 env2,w2.H=H'∧SRep G w2∧ERep G w2 env2 σ'∧WExt w1 w2∧(i+1)+(m-1)=xs.length∧forL g mb xs env w1.S=forL g mb (xs.drop (i+1)) env2 w2.S,fun σ' H' hN=>⟨m-1,by omega,hN⟩,fun x H' hy=> ?_⟩
   obtain⟨w3,rfl,x3,eS,s3,rp3⟩:=yl x H' hy
   refine⟨w3,env2,xs[i],rfl,s3,er2.mono x3,rp3,?_⟩
   rw[eS]
   cases hg2:g xs[i] env2 w2.S with
   |nx env4 S4=>
    rw[hg2] at eq
    simp only at eq
    intro σ4 w4 x4 e4 s4 er4
    subst e4
    refine⟨w4,env4,rfl,s4,er4,?_⟩
    have x24:WExt w1 w4:=WX'.trans (WX'.trans x2 x3) x4
    cases hb4:mb env4 w4.S with
    |nx env5 S5=>
     simp only[hb4] at eq
     intro σ5 w5 x5 e5 s5 er5
     subst e5
     exact⟨w5,env5,rfl,s5,er5,WX'.trans x24 x5,by omega,eq⟩
    |ct env5 S5=>
     simp only[hb4] at eq
     intro σ5 w5 x5 e5 s5 er5
     subst e5
     exact⟨w5,env5,rfl,s5,er5,WX'.trans x24 x5,by omega,eq⟩
    |brk env5 S5=>
     simp only[hb4] at eq
     have q:=ends _ eq
     unfold unSS at q
     simp only at q
     split at q
     case h_2=>exact q.elim
     rename_i hd
     intro σ5 w5 x5 e5 s5 er5
     subst e5
     have x05:=WX'.trans x1 (WX'.trans x24 x5)
     obtain⟨y4,t4,lift⟩:=unlock_ok sr hn hmu dr x05 s5 hd
     exact⟨(lk0.mono x05).at',q σ5 (unW w5 n a ob u) y4 rfl t4 ⟨er5.len,fun i d e=>let⟨v,h1,h2⟩:=er5.at' i d e;⟨v,h1,lift _ _ h2⟩⟩⟩
    |ret d S5=>
     simp only[hb4] at eq
     have q:=ends _ eq
     unfold unSS at q
     simp only at q
     split at q
     case h_2=>exact q.elim
     rename_i hd
     intro v w5 x5 e5 s5 rp5
     subst e5
     have x05:=WX'.trans x1 (WX'.trans x24 x5)
     obtain⟨y4,t4,lift⟩:=unlock_ok sr hn hmu dr x05 s5 hd
     exact⟨(lk0.mono x05).at',q v (unW w5 n a ob u) y4 rfl t4 (lift _ _ rp5)⟩
    |exc e env5 S5=>simp only[hb4] at eq;exact(ends _ eq).elim
    |bad=>simp only[hb4] at eq;exact(ends _ eq).elim
   |ret _ _=>rw[hg2] at eq;exact(ends _ eq).elim
   |brk _ _=>rw[hg2] at eq;exact(ends _ eq).elim
   |ct _ _=>rw[hg2] at eq;exact(ends _ eq).elim
   |exc _ _ _=>rw[hg2] at eq;exact(ends _ eq).elim
   |bad=>rw[hg2] at eq;exact(ends _ eq).elim
  ·have ei:i=xs.length:=by omega
   subst ei
   refine .inl ⟨io.stop [] w2 (fun a h=>by simp at h) x2 s2,?_⟩
   rw[List.drop_length,forL] at eq
   have q:=ends _ eq
   unfold unSS at q
   simp only at q
   split at q
   case h_2=>exact q.elim
   rename_i hd
   have x05:=WX'.trans x1 x2
   obtain⟨y4,t4,lift⟩:=unlock_ok sr hn hmu dr x05 s2 hd
   exact⟨(lk0.mono x05).at',q σ' (unW w2 n a ob u) y4 rfl t4 ⟨er2.len,fun i d e=>let⟨v,h1,h2⟩:=er2.at' i d e;⟨v,h1,lift _ _ h2⟩⟩⟩
end
end L3
namespace L3
open PySem PySem.Spec PyProof.Rows L2
section
variable {G:GC} {X:Cx} {Wx:WX} {w:Wd}
def eBackL (a:ED):ED:=fun env S=>(a env S).bind fun x S1=>match asL x S1 with
 |some l=> .ok (.lst l.reverse) S1
 |none=> .bad
end
@[simp] theorem sat_eBackL {a:ED} {env:EnvD} {S:Store} {Q:D→Store→Prop} :(eBackL a env S).sat Q=(a env S).sat fun x S1=>∃l,asL x S1=some l∧Q (.lst l.reverse) S1:=by
  unfold eBackL;rw[sat_bind];congr;funext x S1
  cases asL x S1<;>simp
end L3
namespace L3
open PySem L2
def slO (x:D) (lo hi:Option Int) (S:Store):R D:=match asL x S with
 |some l=> .ok (.obj S.length) (S++ [.lst (cutL l lo hi)])
 |none=> .bad
def eSlO (a:ED) (l h:PD):ED:=fun env S=>(a env S).bind fun x S1=>(l env S1).bind fun lo S2=>(h env S2).bind fun hi S3=>slO x lo hi S3
section
variable {env:EnvD} {S:Store} {Q:D→Store→Prop}
@[simp] theorem sat_eSlO {a:ED} {l h:PD} :(eSlO a l h env S).sat Q=(a env S).sat fun x S1=>(l env S1).sat fun lo S2=>(h env S2).sat fun hi S3=>(slO x lo hi S3).sat Q:=by
  unfold eSlO;rw[sat_bind];congr;funext x S1;rw[sat_bind];congr;funext lo S2;rw[sat_bind]
end
end L3
namespace L3
open PySem PySem.Spec PyProof.Rows L2
mutual
theorem kD_toPy:∀k:NestedKey,nkOk k=true→toPy (kD k)=some k.data
 | .none,_=>by simp only[kD,toPy,NestedKey.data]
 | .num i,_=>by simp only[kD,toPy,NestedKey.data]
 | .text x,h=>by
   simp only[nkOk] at h
   simp only[kD,toPy,NestedKey.data,h,if_true]
 | .tup ks,h=>by
   simp only[nkOk] at h
   simp only[kD,toPy,NestedKey.data,kDL_toPy ks h]
   rfl
theorem kDL_toPy:∀ks:List NestedKey,nkOkL ks=true→toPyL (kDL ks)=some (NestedKey.datas ks)
 | [],_=>by simp only[kDL,toPyL,NestedKey.datas]
 |k::ks,h=>by
  simp only[nkOkL,Bool.and_eq_true] at h
  simp only[kDL,toPyL,NestedKey.datas,kD_toPy k h.1,kDL_toPy ks h.2]
end
def nkOf (y:D):Option NestedKey:=match nkD y with
 |some (.tup ks)=>if(NestedKey.tup ks).depth≤8∧nkOk (.tup ks)=true then some (.tup ks) else none
 | _=>none
theorem nkOf_kD {y:D} {k:NestedKey} (h:nkOf y=some k):y=kD k∧(k.depth≤8∧nkOk k=true)∧∃ks,k= .tup ks:=by
 unfold nkOf at h
 split at h
 ·rename_i ks hk
  split at h
  ·rename_i hc
   cases h
   exact⟨nk_kD y _ hk,hc,ks,rfl⟩
  ·cases h
 ·cases h
def dnOf (x:D) (S:Store):Option (List (NestedKey × D)):=match x with
 | .obj n=>match S[n]? with
   |some (.dN l)=>some l
   | _=>none
 | _=>none
def setND (o i v:D) (S:Store):Option Store:=match o with
 | .obj n=>match S[n]?,nkOf i with
   |some (.dN l),some k=>if l.length<sizeLine then some (S.set n (.dN (putD l k v))) else none
   | _,_=>none
 | _=>none
def gSubN (mo mi:ED):GD:=fun v env S=>match mo env S with
 | .ok o S1=>match mi env S1 with
   | .ok i S2=>match setND o i v S2 with
     |some S3=> .nx env S3
     |none=> .bad
   | _=> .bad
 | _=> .bad
def eDctN0:ED:=fun _ S=> .ok (.obj S.length) (S++ [.dN []])
section
variable {X:Cx} {G:GC} {Wx:WX} {w:Wd} {pos:Pos}
theorem katN_of {k:NestedKey} {b:Addr} (r:Rep G w (kD k) (.ref b)) (h:k.depth≤8∧nkOk k=true):KatN G.K w.H (k,b):=⟨(dp_of _ _ _ r (kD_toPy k h.2)).1,h.1⟩
theorem repN_kat:∀ {l:List (NestedKey × D)} {rows:List NRow},RepN G w l rows→∀r ∈ rows,KatN G.K w.H (r.1,r.2.1)
 | [],_,h,r,hr=>by
   have h:_= [] :=h
   rw[h] at hr;cases hr
 |p::l,_,h,r,hr=>by
  obtain⟨b,v,y,rfl,h1,h2,h3,h4⟩:=h
  rcases List.mem_cons.mp hr with rfl|hr
  ·exact katN_of h1 h2
  ·exact repN_kat h4 r hr
theorem repN_len:∀ {l:List (NestedKey × D)} {rows:List NRow},RepN G w l rows→rows.length=l.length
 | [],_,h=>by
   have h:_= [] :=h
   rw[h];rfl
 |p::l,_,h=>by
  obtain⟨b,v,y,rfl,h1,h2,h3,h4⟩:=h
  simp[repN_len h4]
theorem repN_at (k:NestedKey):∀ {l:List (NestedKey × D)} {rows:List NRow},RepN G w l rows→(match dGet l k,atR rows k with
 |none,none=>True
 |some d,some p=>Rep G w d p.2
 | _,_=>False)
 | [],_,h=>by
   have h:_= [] :=h
   rw[h];simp[dGet,atR]
 |p::l,_,h=>by
  obtain⟨b,v,y,rfl,h1,h2,h3,h4⟩:=h
  have ih:=repN_at k h4
  simp only[dGet,atR,List.find?_cons] at ih ⊢
  by_cases e:p.1=k
  ·simpa[e] using h3
  ·simpa[e] using ih
theorem repN_some {l:List (NestedKey × D)} {rows:List NRow} (h:RepN G w l rows) (k:NestedKey):(dGet l k).isSome=(atR rows k).isSome:=by
 have:=repN_at k h
 cases h1:dGet l k<;>cases h2:atR rows k<;>rw[h1,h2] at this<;>first|rfl|exact this.elim
theorem any_dGet (k:NestedKey):∀l:List (NestedKey × D),(l.any fun kv=>decide (kv.1=k))=(dGet l k).isSome
 | [] =>rfl
 |p::l=>by
  have ih:=any_dGet k l
  simp only[List.any_cons,dGet,List.find?_cons] at ih ⊢
  by_cases e:p.1=k
  ·simp[e]
  ·simp only[e,decide_false,Bool.false_or]
   exact ih
theorem repN_map {d:D} {v:V} (k:NestedKey) (rv:Rep G w d v):∀ {l:List (NestedKey × D)} {rows:List NRow},RepN G w l rows→RepN G w (l.map fun kv=>if kv.1=k then(kv.1,d) else kv) (rows.map fun x=>if x.1=k then(x.1,x.2.1,v) else x)
 | [],_,h=>by
   have h:_= [] :=h
   rw[h];rfl
 |p::l,_,h=>by
  obtain⟨b,u,y,rfl,h1,h2,h3,h4⟩:=h
  simp only[List.map_cons]
  by_cases e:p.1=k
  ·simp only[e,if_true]
   rw[← e]
   exact⟨b,v,_,rfl,h1,h2,rv,repN_map _ rv h4⟩
  ·simp only[e,if_false]
   exact⟨b,u,_,rfl,h1,h2,h3,repN_map k rv h4⟩
theorem repN_app {r:NestedKey × D} {b:Addr} {v:V} (h1:Rep G w (kD r.1) (.ref b)) (h2:r.1.depth≤8∧nkOk r.1=true) (h3:Rep G w r.2 v):∀ {l:List (NestedKey × D)} {rows:List NRow},RepN G w l rows→RepN G w (l++ [r]) (rows++ [(r.1,b,v)])
 | [],_,h=>by
   have h:_= [] :=h
   rw[h];exact⟨b,v,[],rfl,h1,h2,h3,rfl⟩
 |p::l,_,h=>by
  obtain⟨c,u,y,rfl,q1,q2,q3,q4⟩:=h
  exact⟨c,u,_,rfl,q1,q2,q3,repN_app h1 h2 h3 q4⟩
theorem repN_put {k:NestedKey} {b:Addr} {d:D} {v:V} {l:List (NestedKey × D)} {rows:List NRow} (h:RepN G w l rows) (h1:Rep G w (kD k) (.ref b)) (h2:k.depth≤8∧nkOk k=true) (h3:Rep G w d v):RepN G w (putD l k d) (putR rows k b v):=by
 unfold putD putR
 rw[any_dGet,repN_some h k]
 split
 ·exact repN_map k h3 h
 ·exact repN_app (r:=(k,d)) h1 h2 h3 h
theorem RepN.mono {w':Wd} (x:WExt w w') (l:List (NestedKey × D)) (rows:List NRow) (h:RepN G w l rows):RepN G w' l rows:=RepN.monoT x noT l rows h
theorem nk_ref {y:D} {v:V} {k:NestedKey} (r:Rep G w y v) (h:nkOf y=some k):∃b,v= .ref b∧Rep G w (kD k) (.ref b)∧(k.depth≤8∧nkOk k=true):=by
 obtain⟨rfl,h2,ks,rfl⟩:=nkOf_kD h
 have r':=r
 simp only[kD,Rep] at r
 obtain⟨a,vs,rfl,_⟩:=r
 exact⟨a,rfl,r',h2⟩
theorem dn_ref {x:D} {v:V} {l:List (NestedKey × D)} (sr:SRep G w) (r:Rep G w x v) (h:dnOf x w.S=some l):∃(n:Nat) (a:Addr) (rows:List NRow),x= .obj n∧w.S[n]? =some (.dN l)∧w.mu[n]? =some a∧v= .ref a∧w.H a=some (ObN G.w a rows)∧RepN G w l rows:=by
 unfold dnOf at h
 split at h
 ·rename_i n
  split at h
  ·rename_i l' hn
   cases h
   simp only[Rep] at r
   obtain⟨a,hm,rfl⟩:=r
   obtain⟨rows,h1,h2⟩:=sr.obj n _ a hn hm
   exact⟨n,a,rows,rfl,hn,hm,rfl,h1,h2⟩
  ·cases h
 ·cases h
def tSetN (G:GC):TSet:=fun o i v H k=>∃w d1 d2 d3 S',w.H=H∧SRep G w∧Rep G w d1 o∧Rep G w d2 i∧Rep G w d3 v∧setND d1 d2 d3 w.S=some S'∧∀w',WExt w w'→w'.S=S'→SRep G w'→k w'.H
theorem o_setN (hK:X.K=G.K) (hw:X.w=G.w) (hu:X.A.units+65<cLine):PSet X (tSetN G):=by
 intro pins s σ H o i v ov iv u Q I ro ri ru q
 obtain⟨w,d1,d2,d3,S',rfl,sr,r1,r2,r3,e,k⟩:=q
 unfold setND at e
 split at e
 ·rename_i n
  split at e
  ·rename_i l kk hn hk
   split at e
   ·rename_i hz
    cases e
    obtain⟨b,rfl,rb,ok⟩:=nk_ref r2 hk
    simp only[Rep] at r1
    obtain⟨a,hm,rfl⟩:=r1
    obtain⟨rows,h1,h2⟩:=sr.obj n _ a hn hm
    cases(show ov=Value.ref a from ro)
    cases(show iv=Value.ref b from ri)
    obtain⟨x,s'⟩:=set_obj (ob':= .dN (putD l kk d3)) (o:=ObN G.w a (putR rows kk b v)) sr hn trivial hm fun w' x e=>⟨_,e,RepN.mono x _ _ (repN_put h2 rb ok r3)⟩
    have q:=k _ x rfl s'
    rw[← hw] at h1 q
    exact n_setItem (by omega) I h1 (fun r hr=>by rw[hK];exact repN_kat h2 r hr) (by rw[hK];exact katN_of rb ok) (by rw[repN_len h2];exact hz) ru fun s' I'=>⟨_,I',q⟩
   ·cases e
  ·cases e
 ·cases e
theorem q_gsubN {o i:Expr} {mo mi:ED} (hK:X.K=G.K) (hw:X.w=G.w) (hu:X.A.units+65<cLine) (ho:PE X o (tE G mo Wx)) (hi:PE X i (tE G mi Wx))
 (ha:∀v,assign (.Subscript o i pos) X.env v=(do
   let ov ←holding [v] (eval o X.env)
   let iv ←holding [v,ov] (eval i X.env)
   standAt pos
   holding [v,ov,iv] (setItem ov iv v)
   release [v,ov,iv] []):=by intro _;rfl):PG X (.Subscript o i pos) (tG G (gSubN mo mi)):=pgI (pg_sub ho hi (o_setN hK hw hu) ha) fun v σ H Q q=>by
 obtain⟨w,env,d,rfl,sr,er,rp,p⟩:=q
 unfold gSubN at p
 cases h1:mo env w.S with
 |ok o S1=>
  rw[h1] at p
  refine⟨w,env,rfl,sr,er,?_⟩
  rw[h1]
  intro vo w1 x1 e1 s1 ro
  subst e1
  simp only at p
  cases h2:mi env w1.S with
  |ok i S2=>
   rw[h2] at p
   refine⟨w1,env,rfl,s1,er.mono x1,?_⟩
   rw[h2]
   intro vi w2 x2 e2 s2 ri
   subst e2
   simp only at p
   cases h3:setND o i d w2.S with
   |some S3=>
    rw[h3] at p
    refine⟨w2,o,i,d,S3,rfl,s2,Rep.mono x2 _ _ ro,ri,Rep.mono (WX'.trans x1 x2) _ _ rp,h3,fun w3 x3 e3 s3=> ?_⟩
    exact p σ w3 (WX'.trans (WX'.trans x1 x2) x3) e3 s3 (((er.mono x1).mono x2).mono x3)
   |none=>rw[h3] at p;exact p.elim
  |exc _ _=>rw[h2] at p;exact p.elim
  |bad=>rw[h2] at p;exact p.elim
 |exc _ _=>rw[h1] at p;exact p.elim
 |bad=>rw[h1] at p;exact p.elim
theorem gn_subN {mo mi:ED} :GOk (gSubN mo mi):=fun d env S=>by
 unfold gSubN
 cases mo env S with
 |ok o S1=>
  simp only
  cases mi env S1 with
  |ok i S2=>
   simp only
   cases setND o i d S2 with
   |some S3=>exact .inl ⟨_,_,rfl⟩
   |none=>exact .inr rfl
  |exc _ _=>exact .inr rfl
  |bad=>exact .inr rfl
 |exc _ _=>exact .inr rfl
 |bad=>exact .inr rfl
theorem q_dctN0 (hw:X.w=G.w):PE X (.Dict [] [] pos) (tE G eDctN0 Wx):=peI pe_dnewN fun σ H Q q=>by
 obtain⟨w,env,rfl,sr,er,p⟩:=q
 intro a ha
 rw[hw]
 obtain⟨x,s⟩:=new_obj (ob:= .dN []) (o:=ObN G.w a []) sr ha fun w' x e=>⟨[],e,rfl⟩
 exact p (.ref a) _ x rfl s (by simp only[Rep];exact⟨a,by rw[← sr.len];simp,rfl⟩)
end
end L3
namespace L3
open PySem PySem.Spec PyProof.Rows L2
open PySem.W (SortsAt AllAlike EachIs dataKind)
theorem each_of {α β :Type} {R: α → β →Prop} :∀(us:List α) (ls:List β),us.length=ls.length→(∀ (j:Nat) u d,us[j]? =some u→ls[j]? =some d→R u d)→EachIs R us ls
 | [],[],_,_=> .nil
 |u::us,d::ls,h,f=> .cons (f 0 u d rfl rfl) (each_of us ls (by simpa using h) fun j u d h1 h2=>f (j+1) u d (by simpa using h1) (by simpa using h2))
 | [],_::_,h,_=>by simp at h
 | _::_,[],h,_=>by simp at h
section
variable {prog:Program} {ww:World} {d:Addr}
theorem kdl_rawN {xs:List NVal} {es:Array DictEntry} {ep:Nat} (lo:(d==sysModules)=false) (hx:∀i (hi:i<es.size),∃y,xs[i]? =some y∧es[i].key= .ref y.2.1∧es[i].val=y.2.2):
 PySem.W.KdlSrc prog ww "dict" d d es.size (fun i v=>∃y,xs[i]? =some y∧v= .ref y.2.1) (fun h=>h.DictRaw d es ep) where
 type:=fun _ hm=>hm.typeIs
 there:=fun _ hm=>(let⟨_,ho,_⟩:=hm;⟨Heap.lt_size ho,Heap.lt_size ho⟩)
 keep:=fun _ _ hm hk=>hm.at fun o e=>hk d (.inl rfl) o e
 notList:=by decide
 notTuple:=by decide
 hint:=fun _ _ _ _ hm hq=>PySem.W.kdl_hint_dict hm.typeIs hq
 iter:=fun _ s hh hm=>⟨_,_,(fun _ _ hq=>wpAny_pyIter_dict_raw lo hm hq),Walks.keysH hh _ d (Nat.ne_of_lt (let⟨_,ho,_⟩:=hm;Heap.lt_size ho)) es ep hx,
  ⟨⟨_,Heap.get?_push_size _ rfl,rfl,rfl⟩,hm.at fun _ e=>Heap.get?_push_of_some _ e⟩⟩
end
section
variable {X:Cx} {G:GC} {w:Wd}
theorem repN_key:∀ {l:List (NestedKey × D)} {rows:List NRow} {xs:List NVal},RepN G w l rows→PrN rows xs→∀(j:Nat) (y:NVal) (d:D),xs[j]? =some y→(l.map fun p=>kD p.1)[j]? =some d→Rep G w d (.ref y.2.1)
 | [],_,_,h,r,j,y,d,h1,h2=>by simp at h2
 |p::l,_,_,h,r,j,y,d,h1,h2=>by
  obtain⟨b,v,q,rfl,k1,k2,k3,k4⟩:=h
  cases r with
  |cons rr rt=>
   cases j with
   |zero=>
    simp only[List.getElem?_cons_zero,Option.some.injEq,List.map_cons] at h1 h2
    rw[← h1,←h2,←rr.2.1]
    exact k1
   |succ j=>
    simp only[List.getElem?_cons_succ,List.map_cons] at h1 h2
    exact repN_key k4 rt j y d h1 h2
end
end L3
namespace L3
open PySem PySem.Spec PyProof.Rows L2 LamX
def LamMade (H:Hp) (P:Addr) (q:Str) (ps:Array Value) (c':Addr) (H1:Hp):Prop:=
 (H1=H∧H c'=some (CodeO c' q)∧∃pos:Pos,codeAmong pos ps.toList=some (.ref c'))∨∃more:Array Value,H c'=none∧H1=upd (upd H P (.tbl (ps++more))) c' (CodeO c' q)∧TriplesOk (ps++more).toList∧
   ∀(pos:Pos) (cv:Value),codeAmong pos (ps++more).toList=some cv→codeAmong pos ps.toList=some cv∨cv= .ref c'
section
variable {X:Cx} {pins:List (Addr × Obj)} {σ :L2.St} {H:Hp} {s:Shared}
theorem lam_made {c P:Addr} {params:Arguments} {body:Expr} {scope:Scope} {pos:Pos} {E Q:Value→Shared→Prop} {ps:Array Value} (I:Inv X pins σ H s) (B:TabB X.base X.mg c P) (here:X.env.code= .ref c)
 (tab:H P=some (.tbl ps)) (three:TriplesOk ps.toList) (old:∀(pos:Pos) (cv:Value),codeAmong pos ps.toList=some cv→∃c,cv= .ref c∧H c=some (CodeO c (X.env.qual++ "<lambda>")))
 (noDef:defaultsOf params X.env=([],[])) (cells:∀y ∈ scope.names,y.2= .free→∃c,X.env.cells.lookup y.1=some c)
 (then_:∀(f c':Addr) (pm ctv:Value) (H1:Hp) (s':Shared),Inv X pins σ H1 s'→LamMade H P (X.env.qual++ "<lambda>") ps c' H1→
   s'.heap.get? f=some (PySem.W.kla_obj "<lambda>" (X.env.qual++ "<lambda>") params body scope (cloFrom X.env.cells scope.names []) pm c' ctv)→H1 f=none→f ∉ frs X.stack→Q (.ref f) s'):
 wpAny (model X.prog X.w) X.A (eval (.Lambda params body scope pos) X.env) Q E s:=by
 have tabH:s.heap.get? P=some { cls:= .none,data:= .fields ps } :=I.hok P _ tab
 have noFrame:∀f,s.heap.objs.size≤f→f ∉ frs X.stack:=fun f big z=>by
  rcases List.mem_cons.mp (I.stkSub f z) with rfl|z
  ·exact absurd I.lt (Nat.not_lt.mpr big)
  ·exact I.nofs big z
 have nsG:=I.mod.glob.keeps I.bk
 have codeH:=B.code.keeps I.bk
 have bltH:=B.bm.keeps I.bk
 apply PySem.W.kla_eval noDef
 rcases hc:codeAmong pos ps.toList with _|cv
 ·apply PySem.W.kla_makeFunction (mg:=X.mg) (c:=c) (P:=P) (ps:=ps) (closure_ok cells) I.ok.glob nsG here codeH tabH three hc B.gP bltH
  intro c' ctv h2 tk keep ge lt rec tab2
  obtain⟨c2,oc,vs,t,same,at2,fields,nm⟩:=rec
  obtain rfl:c'=c2:=by injection same
  have fresh:H c'=none:=I.hok.fresh ge
  have up:s.heap.objs.size≤h2.objs.size:=Nat.le_of_lt (Nat.lt_of_le_of_lt ge lt)
  have J:=inv_table (t':=tk) (more:= #[rawInt pos.line,rawInt pos.col, .ref c']) (q:=X.env.qual++ "<lambda>") (h':=h2.push (PySem.W.kla_obj "<lambda>" (X.env.qual++ "<lambda>") params body scope (cloFrom X.env.cells scope.names []) ((X.mg "__name__").getD .none) c' ctv))
   I tab (fun b o ne e=>Heap.get?_push_of_some _ (keep b o ne e)) (Heap.get?_push_of_some _ tab2) ge ⟨oc,vs,t,Heap.get?_push_of_some _ at2,fields,nm⟩
  have list:(ps++ #[rawInt pos.line,rawInt pos.col, .ref c']).toList=ps.toList++ [rawInt pos.line,rawInt pos.col, .ref c'] :=Array.toList_append
  refine then_ h2.objs.size c' _ ctv _ _ J (.inr ⟨#[rawInt pos.line,rawInt pos.col, .ref c'],fresh,rfl,by rw[list];exact PySem.TriplesOk_snoc _ _ _ _ three,fun p' cv q=> ?_⟩) (Heap.get?_push_size _ rfl) ?_ (noFrame _ up)
  ·rw[list] at q
   exact among_app _ three q
  ·rw[upd_ne (Nat.ne_of_gt lt),upd_ne (fun z=>absurd (Heap.lt_size tabH) (by rw[← z];exact Nat.not_lt.mpr up))]
   exact I.hok.fresh up
 ·obtain⟨c',rfl,hco⟩:=old pos cv hc
  apply PySem.W.kla_makeFunctionHit (mg:=X.mg) (c:=c) (P:=P) (ps:=ps) (closure_ok cells) I.ok.glob nsG here codeH tabH three hc bltH
  intro ctv h2 tk keep up
  have J:Inv X pins σ H { s with heap:=h2.push (PySem.W.kla_obj "<lambda>" (X.env.qual++ "<lambda>") params body scope (cloFrom X.env.cells scope.names []) ((X.mg "__name__").getD .none) c' ctv),toks:=tk } :=I.kept fun b o e=>Heap.get?_push_of_some _ (keep b o e)
  exact then_ h2.objs.size c' _ ctv H _ J (.inl ⟨rfl,hco,pos,hc⟩) (Heap.get?_push_size _ rfl) (I.hok.fresh up) (noFrame _ up)
end
end L3
namespace L3
open PySem PySem.Spec PyProof.Rows L2 LamX
section
variable {G:GC} {w:Wd} {y q:Str} {P:Addr} {ps:Array Value} {c:Addr} {H1:Hp}
theorem lam_world (sr:SRep G w) (h0:w.S[0]? =some (.tab y q)) (hm:w.mu[0]? =some P) (ti:TabIs G y P) (tab:w.H P=some (.tbl ps)) (old:∀(pos:Pos) (cv:Value),codeAmong pos ps.toList=some cv→∃c,cv= .ref c∧CodeAt w q c) (made:LamMade w.H P q ps c H1):
 WExt w { w with H:=H1 } ∧SRep G { w with H:=H1 } ∧CodeAt { w with H:=H1 } q c:=by
 have mP:MutS w P:=⟨0,_,h0,trivial,hm⟩
 rcases made with⟨rfl,e,pos,hc⟩|⟨more,fresh,rfl,three,among⟩
 ·obtain⟨c1,e1,h1⟩:=old pos _ hc
  injection e1 with e1
  subst e1
  exact⟨WExt.refl w,sr,h1⟩
 ·have nc:∀a u,w.H a=some u→a≠c:=fun a u h z=>by rw[z,fresh] at h;cases h
  have ncM: ¬Mut w c:=fun m=>by
   rcases m with m|m
   ·obtain⟨u,e⟩:=MutS.there sr m
    rw[fresh] at e;cases e
   ·obtain⟨⟨u,e⟩,_⟩:=sr.tm c m
    rw[fresh] at e;cases e
  have at_:∀a,a≠c→a≠P→upd (upd w.H P (.tbl (ps++more))) c (CodeO c q) a=w.H a:=fun a h1 h2=>by rw[upd_ne h1,upd_ne h2]
  have x:WExt w { w with H:=upd (upd w.H P (.tbl (ps++more))) c (CodeO c q) } :=
   ⟨fun _ _ h=>h,fun a u h nm _=>⟨(at_ a (nc a u h) fun z=>nm (by rw[z];exact mP)).trans h,nm⟩,fun _ h=> .inl h,fun _ h=>h⟩
  have cc:CodeAt { w with H:=upd (upd w.H P (.tbl (ps++more))) c (CodeO c q) } q c:=⟨upd_same,ncM⟩
  refine⟨x,⟨sr.len,sr.inj,fun n o a h1 h2=> ?_,fun a ha=> ?_⟩,cc⟩
  ·have h:=sr.obj n o a h1 h2
   by_cases hP:a=P∧o.live
   ·obtain⟨rfl,lv⟩:=hP
    obtain rfl:n=0:=sr.inj n 0 a o (.tab y q) h1 h0 lv trivial h2 hm
    rw[h0] at h1
    cases h1
    refine⟨ti,ps++more,(upd_ne (nc _ _ tab)).trans upd_same,three,fun pos cv hcv=> ?_⟩
    rcases among pos cv hcv with z|rfl
    ·obtain⟨c1,e1,e2⟩:=old pos cv z
     exact⟨c1,e1,x.keepM noT e2.1 e2.2⟩
    ·exact⟨c,rfl,cc⟩
   ·refine h.keep x noT fun lv=> ?_
    obtain⟨u,e⟩:=h.there lv
    exact at_ a (nc a u e) fun z=>hP ⟨z,lv⟩
  ·obtain⟨⟨u,e⟩,nm⟩:=sr.tm a ha
   exact⟨⟨u,(at_ a (nc a _ e) fun z=>nm (by rw[z];exact mP)).trans e⟩,nm⟩
end
def BltIn (base:Heap) (mg:Str→Option Value):Prop:=∃(bm:Addr) (o:Obj),mg "__builtins__" =some (.ref bm)∧bm≠builtinsNs∧bm≠mainGlobals∧base.get? bm=some o∧o.cls= .type "module" ∧o.dict=some builtinsNs∧o.data= .plain
end L3
namespace L3
open PySem PySem.Spec PyProof.Rows L2 LamX
def lw:Nat→Nat
 |0=>1
 |k+1=>lw k+3
theorem lw1:∀k,1≤lw k
 |0=>Nat.le_refl _
 |k+1=>Nat.le_trans (lw1 k) (Nat.le_add_right _ _)
def CodeOf (K:PySem.W.Frag) (f:Addr) (cdv:Value):Prop:=∃(oc:Value) (od:Option Addr) (osl:Array (Option Value)) (fd:FuncData),K.lookup f=some ⟨oc,od, .func fd,osl⟩∧fd.code=cdv
section
variable {P:Program} {w:World} {G:GC} {base:Heap} {x qual:Str} {params:Arguments} {body:List Stmt} {scope:Scope} {dvs:List V} {kws:List (Str × V)} {f:Addr} {fd:FuncData} {k n:Nat} {N ps:List Str} {m:SD}
theorem fn_okC (F:FunD G.K x qual params body scope dvs kws f fd) (Sc:FnScope N ps scope)
 (hb:∀(cdv:Value) (A:Around) (outer:List Env) (s:Shared) (H:Hp) (E:XK),CodeOf G.K f cdv→RoomG k (A.deeper (envOfC qual scope s.heap.objs.size f cdv))→
   PSs (cxOf (L2.CX P w) P w G.K G.mg base N qual scope f cdv A outer s H E) body (tS G m (WE0 E))):
 FnG P w G.K G.mg base (k+1) f fd ps (spOf G (run ps.length N.length m)):=by
 obtain⟨oc,od,dV,kV,doc,pm,an,cdv,ct,osl,rfl,place,code,_,_⟩:=F.ex
 have mine:CodeOf G.K f cdv:=⟨oc,od,osl,_,place,rfl⟩
 refine⟨fun vs H Q E h=>len_spOf run_ar h,fun A outer s H args us vs Q E room e0 bound rel want=> ?_⟩
 have size:=len_spOf run_ar want
 have inK:G.K.In s.heap:=e0.mod.kin.keeps fun b o h=>(e0.bs b o h).1
 refine codeAny_call_function room.rm.depth (inK _ _ place) rfl Sc.co Sc.gen rfl (PySem.W.codeRec_of inK code) (bound _ _ _ _ ?_)
 refine wpAny_newFunctionEnv_cells Sc.kind (fun y hy=> ?_) fun env made s2 entered=> ?_
 ·obtain⟨z,v⟩:=y
  refine(Sc.par z (List.of_mem_zip hy).1).imp id fun c=>⟨c,PySem.W.cellsFrom_some _ _ _ (.inl c)⟩
 subst made
 have nl:s.heap.NoLimit:=e0.mod.nolimit.keeps fun b o h=>(e0.bs b o h).1
 refine⟨nl.keeps entered.toInCall.keep,codeAny_func ?_⟩
 have runs:=hb cdv A outer s H E mine (room.deeper _)
 have I0:Inv (cxOf (L2.CX P w) P w G.K G.mg base N qual scope f cdv A outer s H E) [] (start N vs) H s2:=inv_start Sc room.rm.hd e0 size rel entered
 have holds:tS G m (WE0 E) { nx:=fun _ H'=>Q .non H',rt:=Q } (start N vs) H:=by
  obtain⟨wd,ds,rfl,sr,rp,p⟩:=want
  by_cases hl:ds.length=ps.length
  ·unfold run at p
   rw[if_pos hl] at p
   refine⟨wd,_,rfl,sr,ERep.start rp,?_⟩
   cases hm:m (ds.map some++List.replicate (N.length-ds.length) none) wd.S with
   |nx env S=>rw[hm] at p;exact fun σ' w' x hs s er=>p .non w' x hs s (by simp[Rep])
   |ret d S=>rw[hm] at p;exact p
   |brk _ _=>rw[hm] at p;exact p.elim
   |ct _ _=>rw[hm] at p;exact p.elim
   |exc e env S=>rw[hm] at p;exact fun C dx σ' w' x hs s er xr=>p C dx w' x hs s xr
   |bad=>rw[hm] at p;exact p.elim
  ·rw[run_ar ds wd.S hl] at p;exact p.elim
 refine wpAny_mono (runs.run [] s2 (start N vs) H _ I0 holds) (fun fl s' done=> ?_) fun _ _ z=>z
 have told:∀ {σ':L2.St} {H':Hp} {v:V} {u:Value},Inv (cxOf (L2.CX P w) P w G.K G.mg base N qual scope f cdv A outer s H E) [] σ' H' s'→RelV v u→Q v H'→CE outer P w H s Q u s':=fun {_ H' v _} J q q'=>⟨v,H',J.os,J.bare,J.base,J.hok,q,q'⟩
 match fl,done with
 | .ret u,⟨v,σ',H',J,q,q'⟩=>exact told J q q'
 | .next,⟨σ',H',J,q'⟩=>exact told (v:=V.non) (u:=Value.none) J rfl q'
 | .brk,⟨_,_,_,z⟩=>exact False.elim z
 | .cont,⟨_,_,_,z⟩=>exact False.elim z
end
def spLawT (K:PySem.W.Frag) (T:Addr):Sp:=fun vs H Q _=>∃(a:Addr) (ns:List Int),vs= [.ref a] ∧ns.length≤63∧a≠T∧H T=some (.tbl #[])∧SqL K H a (ns.map V.int)∧∀H',Q (.bl true) H'
theorem law_okT {P:Program} {w:World} {G:GC} {base:Heap} {k:Nat} {f T:Addr} {fd:FuncData} {x y q:Str} {F:FN} (ti:TabIs G y T) (hF:FnG P w G.K G.mg base k f fd [x] (spOf G F)) (true_:∀ns:List Int,ns.length≤63→∃S,F [.scr ns] [.tab y q] = .ok (.bl true) S):
 FnG P w G.K G.mg base k f fd [x] (spLawT G.K T):=by
 refine hF.imp fun vs H Q E h=> ?_
 obtain⟨a,ns,rfl,hl,ne,hT,hS,hQ⟩:=h
 obtain⟨S,e⟩:=true_ ns hl
 have nm:∀b:Addr,b≠T→¬Mut ⟨[T],[.tab y q],H,[]⟩ b:=fun b hb m=>by
  rcases m with⟨n,o,h1,_,h2⟩|m
  ·cases n with
   |zero=>
    have:T=b:=by simpa using h2
    exact hb this.symm
   |succ n=>simp at h1
  ·exact absurd m List.not_mem_nil
 refine⟨⟨[T],[.tab y q],H,[]⟩,[.scr ns],rfl,⟨rfl,fun n m b o o' h1 h2 _ _ _ _=> ?_,fun n o b h1 h2=> ?_,fun b h=>absurd h List.not_mem_nil⟩,?_,?_⟩
 ·have:=(List.getElem?_eq_some_iff.mp h1).1
  have:=(List.getElem?_eq_some_iff.mp h2).1
  simp only[List.length_cons,List.length_nil] at*
  omega
 ·have hz:n=0:=by
   have:=(List.getElem?_eq_some_iff.mp h1).1
   simp only[List.length_cons,List.length_nil] at this
   omega
  subst hz
  obtain rfl:O.tab y q=o:=by simpa using h1
  obtain rfl:T=b:=by simpa using h2
  exact⟨ti,#[],hT,trivial,fun pos cv z=>by simp[codeAmong] at z⟩
 ·simp only[RepL,Rep]
  refine⟨.ref a,[],rfl,⟨a,rfl,?_⟩,rfl⟩
  rcases hS with h|h
  ·exact .inl ⟨h,nm a ne⟩
  ·exact .inr h
 ·rw[e]
  intro v w' x hs s r
  simp only[Rep] at r
  subst r
  exact hQ _
section
variable {P:Program} {w:World} {K:PySem.W.Frag} {mg mb:Str→Option Value} {k:Nat} {fa sc c T:Addr} {fd:FuncData} {x:Str} {sp:Sp} {st:Shared} {its:List Value} {ns:List Int}
theorem top_tab (inK:K.In st.heap) (main:st.heap.Ns mainGlobals mg) (bns:st.heap.Ns builtinsNs mb) (boot:∀y:Str,y≠ "__name__" →mb y=bootBuiltins y) (nl:st.heap.NoLimit) (ng:st.gens= #[])
 (at_:st.heap.get? sc=some { cls:= .type "list",data:= .seq its.toArray }) (hi:IntsAre its ns) (size:ns.length≤63) (room:Room k callerA) (mods:∃mm,st.heap.Ns sysModules mm)
 (empty:st.heap.get? T=some { cls:= .none,data:= .fields #[] }) (apart:K.lookup T=none) (head:PySem.W.CodeHd st.heap c T)
 (bmain:∃(bm:Addr) (ob:Obj),mg "__builtins__" =some (.ref bm)∧bm≠builtinsNs∧st.heap.get? bm=some ob∧ob.cls= .type "module" ∧ob.dict=some builtinsNs∧ob.data= .plain)
 (F:∀base:Heap,K.In base→base.Ns mainGlobals mg→(∃ o,base.get? sysModules=some o)→BltIn base mg→FnG P w K mg base k fa fd [x] (spLawT K T)) (bind:∀(s:Shared) (u:Value),BindsTo s fd ⟨[u],[]⟩ [(x,u)]):
 codeAny (model P w) callerA (.call (.ref fa) ⟨[.ref sc],[]⟩) (fun r s'=>r= .ok (.ret (.bool true))∧OldK st.heap s'.heap∧s'.os=st.os∧AllBare s'.gens) st:=by
 have rel:=vals_ints hi
 have ne:sc≠T:=fun z=>by
  rw[z,empty] at at_
  cases at_
 have from_:∀H:Hp,H T=some (.tbl #[])→(∀ b,b≠T→b≠sc→H b=none)→(H sc=none∨(K.lookup sc=none∧∃o xs,H sc=some (.frz o (.lst xs))))→SqL K H sc (ns.map V.int)→HOk P w H st.heap→
  codeAny (model P w) callerA (.call (.ref fa) ⟨[.ref sc],[]⟩) (fun r s'=>r= .ok (.ret (.bool true))∧OldK st.heap s'.heap∧s'.os=st.os∧AllBare s'.gens) st:=by
  intro H hT others script sql held
  have hide:∀ {b:Addr} {o:Obj},st.heap.get? b=some o→b≠T→(b=sc→H sc=none)→(hidT st.heap H).get? b=some o:=fun {b o} e n1 n2=>by
   refine hidT_get e ?_
   by_cases hb:b=sc
   ·rw[hb];exact n2 hb
   ·exact others b n1 hb
  have space:∀ {b:Addr} {o:Obj},st.heap.get? b=some o→(∀ vs n,o.data≠ .seq vs n)→o.data≠ .fields #[] →(hidT st.heap H).get? b=some o:=fun {b o} e d1 d2=>by
   refine hide e (fun z=> ?_) fun z=> ?_
   ·rw[z,empty] at e;cases e;exact absurd rfl d2
   ·rw[z,at_] at e;cases e;exact absurd rfl (d1 _ _)
  have dicts:∀ {b:Addr} {m:Str→Option Value},st.heap.Ns b m→(hidT st.heap H).Ns b m:=fun {b m} ⟨o,es,ep,e,d,q⟩=>
   ⟨o,es,ep,space e (fun vs n z=>by rw[d] at z;cases z) (fun z=>by rw[d] at z;cases z),d,q⟩
  have inB:K.In (hidT st.heap H):=fun b o e=>hide (inK b o e) (fun z=>by rw[z,apart] at e;cases e) fun z=>by
   rcases script with h|⟨h,_⟩
   ·exact h
   ·rw[z,h] at e;cases e
  obtain⟨mc,nl1,nl2⟩:=nl
  have world:Mod K mg (hidT st.heap H):=⟨inB,dicts main,⟨mb,dicts bns,boot⟩,⟨mc,dicts nl1,nl2⟩⟩
  have blt:BltIn (hidT st.heap H) mg:=by
   obtain⟨bm,ob,b1,b2,b3,b4,b5,b6⟩:=bmain
   refine⟨bm,ob,b1,b2,fun z=> ?_,space b3 (fun vs n z=>by rw[b6] at z;cases z) (fun z=>by rw[b6] at z;cases z),b4,b5,b6⟩
   obtain⟨o,es,ep,e,d,_⟩:=main
   rw[z,e] at b3
   cases b3
   rw[d] at b6
   cases b6
  have there:∃o,(hidT st.heap H).get? sysModules=some o:=by
   obtain⟨mm,z⟩:=mods
   obtain⟨o,_,_,e,_⟩:=dicts z
   exact⟨o,e⟩
  have entry:Env0 P w K mg (hidT st.heap H) callerA [] st H:=
   { frames:=rfl,mod:=world,bs:=fun b o e=>of_hidT e,bsz:=Nat.le_of_eq (hidT_size _ _),funs:=trivial,frf:=fun b z=>(by cases z),hok:=held,bare:= .of_eq ng }
  refine codeAny_mono ((F _ inB (dicts main) there blt).go callerA [] st H ⟨[.ref sc],[]⟩ [.ref sc] [.ref sc] (fun v _=>v= .bl true) (fun _ _ _=>False) (roomG_caller room) entry (bind st (.ref sc)) (.cons rfl .nil) ⟨sc,ns,rfl,size,ne,hT,sql,fun _=>rfl⟩) fun r s' z=> ?_
  match r,z with
  | .error e,z=>exact(cx_none z).elim
  | .ok (.ret u),⟨v,H',e1,e2,e3,e4,e5,e6⟩=>
    have e6:v= .bl true:=e6
    subst e6
    obtain rfl:u=Value.bool true:=e5
    obtain⟨more,grown⟩:=e3.tbls T #[] hT
    have later:s'.heap.get? T=some { cls:= .none,data:= .fields (#[] ++more) } :=e4 T _ grown
    have same:∀b o,b≠T→st.heap.get? b=some o→s'.heap.get? b=some o:=fun b o nT e=>by
     by_cases hb:b=sc
     ·rcases script with h|⟨_,o',xs,h⟩
      ·exact e3.keep b o e (by rw[hb];exact h) (by simp[frs]) (by simp)
      ·have z1:=(held sc _ h).1
       have z2:=(e4 sc _ (e3.frzs sc o' _ h)).1
       rw[hb] at e ⊢
       rw[e] at z1
       cases z1
       exact z2
     ·exact e3.keep b o e (others b nT hb) (by simp[frs]) (by simp)
    refine⟨rfl,⟨fun b o e=> ?_,fun b o e=> ?_⟩,e1,e2⟩
    ·by_cases hb:b=T
     ·rw[hb] at e ⊢
      rw[empty] at e
      cases e
      exact .inr (.inl ⟨(head.tab empty).isCodeTable,rfl,#[],more,rfl,later⟩)
     ·exact .inl (same b o hb e)
    ·by_cases hb:b=T
     ·rw[hb];exact⟨_,later⟩
     ·exact⟨o,same b o hb e⟩
 by_cases hk:∃o,K.lookup sc=some o
 ·obtain⟨o,hk⟩:=hk
  obtain rfl:o=_:=Option.some.inj ((inK sc o hk).symm.trans at_)
  refine from_ (upd (fun _=>none) T (.tbl #[])) upd_same (fun b h1 _=>upd_ne h1) (.inl (upd_ne ne)) (.inr ⟨_,its.toArray,_,hk,rfl,rfl,rfl,?_,by simpa using rel⟩) fun b u z=> ?_
  ·rw[List.size_toArray,hi.length];exact Nat.le_trans size (by decide)
  ·by_cases hb:b=T
   ·subst hb;rw[upd_same] at z;cases z;exact empty
   ·rw[upd_ne hb] at z;cases z
 ·have none_:K.lookup sc=none:=by
   cases q:K.lookup sc with
   |none=>rfl
   |some o=>exact absurd ⟨o,q⟩ hk
  have here:(upd (upd (fun _=>none) T (.tbl #[])) sc (.frz { cls:= .type "list",data:= .seq its.toArray } (.lst (ns.map V.int)))) sc=some (.frz { cls:= .type "list",data:= .seq its.toArray } (.lst (ns.map V.int))):=upd_same
  refine from_ (upd (upd (fun _=>none) T (.tbl #[])) sc (.frz { cls:= .type "list",data:= .seq its.toArray } (.lst (ns.map V.int)))) ((upd_ne (Ne.symm ne)).trans upd_same) (fun b h1 h2=>(upd_ne h2).trans (upd_ne h1)) (.inr ⟨none_,_,_,here⟩) (.inl (.inr ⟨_,here⟩)) fun b u z=> ?_
  by_cases hb:b=sc
  ·subst hb
   rw[here] at z
   cases z
   exact⟨at_,by rw[List.length_map];exact Nat.le_trans size (by decide),its,_,rel,at_⟩
  ·rw[upd_ne hb] at z
   by_cases hb:b=T
   ·subst hb;rw[upd_same] at z;cases z;exact empty
   ·rw[upd_ne hb] at z;cases z
end
section
theorem walkT {l:PySem.W.OpenLaw} {q:Program} {loose:List Str} {XP:(Str→Option Value)→Heap→Prop} {YP:World→Heap→Prop} {d:DefRec} {K:Params→PySem.W.Frag} {k:Nat} {x:Str} (y:Str) (hn:l.most=some 63) (hi:importsNone q=true) (hdf:d.params.defaults= []) (hr:Room k callerA)
 (hrec:((recsOf q).any fun e=>e.name==y)=true) (hY:∀(w:World) (h:Heap),YP w h→(K w.params).In h)
 (F:∀(w:World) (mg:Str→Option Value) (fa:Addr) (h:Heap),(K w.params).In h→h.Ns mainGlobals mg→mg d.name=some (.ref fa)→
   ∃(fd:FuncData) (T:Addr),(∀ (s:Shared) (u:Value),BindsTo s fd ⟨[u],[]⟩ [(x,u)])∧TabIs ⟨K w.params,w,mg⟩ y T∧(K w.params).lookup T=none∧
    ∀base:Heap,(K w.params).In base→base.Ns mainGlobals mg→(∃ o,base.get? sysModules=some o)→BltIn base mg→FnG l.prog w (K w.params) mg base k fa fd [x] (spLawT (K w.params) T)):
 PySem.W.WalkO q loose XP YP l.row.toRowW d [] (fun f vs=>PySem.call f vs):=by
 refine Att.attach_call hn hdf fun w s₀ s₁ mg mb fa o pm cd doc a vs ns G Y ho hd hcd hmg hobj hints hlen hg=> ?_
 have KX:=hY w _ Y
 obtain⟨fd,T,hb,⟨fy,c,fdy,oc,od,osl,t1,t2,t3,t4⟩,apart,hF⟩:=F w mg fa _ KX G.T.g hmg
 have head:=PySem.W.codeHd_of_K KX t4
 obtain⟨r,inR,same⟩:=List.any_eq_true.mp hrec
 obtain rfl:r.name=y:=beq_iff_eq.mp same
 obtain⟨a',o',fd',c',P',h1,h2,h3,h4,_,⟨⟨oc2,vc,e1,_,e3,e4⟩,empty⟩⟩:=G.T.tab r inR
 have t1':mg r.name=some (.ref fy):=t1
 rw[t1'] at h1
 cases h1
 rw[KX _ _ t2] at h2
 cases h2
 cases h3
 rw[t3] at h4
 cases h4
 obtain⟨o3,v3,_,_,_,_,_,_,_,k1,_,k2,k3,_⟩:=id head
 rw[k1] at e1
 cases e1
 rw[k2] at e3
 cases e3
 rw[k3] at e4
 cases e4
 exact top_tab KX G.T.g G.T.b G.T.builtins G.T.nolimit hg hobj hints hlen hr (let⟨mm,z,_⟩:=(G.T.seer hi).mods;⟨mm,z⟩) empty apart head G.T.bmain hF hb
end
end L3
namespace L3
open PySem PySem.Spec PyProof.Rows L2
def codP (o:Obj):Option Addr:=match o.data with
 | .fields vs=>match(vs[11]? :Option Value) with
   |some (.ref T)=>some T
   | _=>none
 | _=>none
def codHdO (o:Obj) (c T:Addr):Bool:=PySem.W.codeHdIn [(c,o)] c T
theorem codeHdIn_of {K:PySem.W.Frag} {c T:Addr} {o:Obj} (h:K.lookup c=some o) (e:codHdO o c T=true):PySem.W.codeHdIn K c T=true:=by
 unfold codHdO PySem.W.codeHdIn at e
 unfold PySem.W.codeHdIn
 rw[h]
 have:List.lookup c [(c,o)] =some o:=by simp[List.lookup]
 rw[this] at e
 exact e
end L3
namespace L3
open PySem PySem.Spec PyProof.Rows L2 LamX
structure LamP (scope:Scope) (x:Str):Prop where
 kind:scope.kind= .function
 co:scope.isCoroutine=false
 gen:scope.isGenerator=false
 names:scope.names= [(x, .local)]
theorem key_call {prog:Program} {ww:World} {A:Around} {s:Shared} {f c' a:Addr} {q x:Str} {params:Arguments} {scope:Scope} {pm ctv:Value} {p1 p2 pos:Pos} {kd:Nat} {its:Array Value} {z:Str} {t:PySem.Tok} {cl:List (Str × Addr)}
 (room:A.depth<recursionLimit) (ho:s.heap.get? f=some (PySem.W.kla_obj "<lambda>" q params (.Subscript (.Name x p1) (.Constant (.int 0) kd p2) pos) scope cl pm c' ctv)) (code:s.heap.CodeRec (.ref c') q)
 (L:LamP scope x) (hd:(x==("__debug__" :Str))=false)
 (binds:bindArgs (PySem.W.kla_fn "<lambda>" q params (.Subscript (.Name x p1) (.Constant (.int 0) kd p2) pos) scope cl pm (.ref c') ctv) ⟨[.ref a],[]⟩=pure [(x, .ref a)])
 (tup:IsTup s.heap a its) (h0:its[0]? =some (.str z t)) (nl:s.heap.NoLimit):
 wpAny (model prog ww) A (call (.ref f) [.ref a]) (PySem.W.KeyPure (.str z) s) (fun _ _=>False) s:=by
 refine wpAny_call ?_
 refine PySem.W.kla_callFunE room ho rfl L.co L.gen rfl code ?_
 rw[binds]
 have lk:scope.names.lookup x=some .local:=by rw[L.names];simp[List.lookup]
 refine wpAny_pure (wpAny_newFunctionEnv (fun y hy=> ?_) (fun y hy=> ?_) (fun h1 ns same=>⟨nl.fresh _ same,?_⟩) L.kind)
 ·have hy:y ∈ scope.names:=hy
  rw[L.names] at hy
  rw[List.mem_singleton.mp hy]
  exact fun e=>nomatch e
 ·rw[List.mem_singleton.mp hy]
  exact lk
 have stay:∀b o,s.heap.get? b=some o→h1.get? b=some o:=fun b o e=>same.extBut b o (Nat.ne_of_lt (Heap.lt_size e)) (Heap.get?_push_of_some _ e)
 apply PySem.W.kla_codeExpr
 refine Subscript_ (wpAny_Name (wpAny_loadName_local (v:=Value.ref a) (m:=fun y=> [(x,Value.ref a)].reverse.lookup y) L.kind lk ns (by simp[List.lookup]) (wpAny_Constant_int ?_)) hd)
 have tup1:=tup.keeps stay
 have hsz:0<its.size:=by
  rcases Nat.lt_or_ge 0 its.size with h|h
  ·exact h
  ·rw[Array.getElem?_eq_none h] at h0;cases h0
 exact subscriptTail_builtinR (x:= .str z t) (IsTup.typeIs tup1) slot_tuple_getitem.lookup (getItem_tuple (j:=0) tup1 (by decide) (by decide) (PySem.StrLaws.seqIndex_nonneg (by decide) (by exact_mod_cast hsz)) h0 ⟨rfl,h1,_,rfl,stay,Reads.str _ _⟩)
end L3
namespace L3
open PySem PySem.Spec PyProof.Rows L2 LamX
open PySem.W (SortsAt AllAlike EachIs Sortable KeepsBut KeyedOut dataLe)
def firstS:D→Option Str
 | .tup (.str z::_)=>some z
 | _=>none
def keyS (d:D):PyData:= .str ((firstS d).getD "")
def sortKL (l:List D):List D:=l.mergeSort (dataLe false keyS)
def sortKD (x:D) (S:Store):R D:=match dnOf x S with
 |some l=>if l.length≤sizeLine∧(l.all fun p=>(firstS (kD p.1)).isSome)=true then .ok (.lst (sortKL (l.map fun p=>kD p.1))) S else .bad
 |none=> .bad
def eSortKey (y q:Str) (me:ED):ED:=fun env S=>(me env S).bind fun x S1=>match S1[(0:Nat)]? with
 |some (.tab y' q')=>if y'=y∧q'=q then sortKD x S1 else .bad
 | _=> .bad
section
variable {G:GC} {X:Cx} {Wx:WX}
theorem first_rep {w:Wd} {pins:List (Addr × Obj)} {s:Shared} {σ :L2.St} {d:D} {v:V} {u:Value} {z:Str} (hK:X.K=G.K) (I:Inv X pins σ w.H s) (hd:firstS d=some z) (rv:RelV v u) (r:Rep G w d v):∃a its t,u= .ref a∧IsTup s.heap a its∧its[0]? =some (.str z t):=by
 unfold firstS at hd
 split at hd
 ·rename_i z' r'
  cases hd
  simp only[Rep] at r
  obtain⟨a,vs,rfl,h1,h2⟩:=r
  cases rv
  simp only[RepL] at h2
  obtain⟨v0,vr,rfl,e1,_⟩:=h2
  simp only[Rep] at e1
  subst e1
  have sq:=SqT_of h1
  rw[← hK] at sq
  obtain⟨its,rel,tup,_⟩:=I.tuple sq
  cases rel with
  | @cons _ u0 _ us r0 rr=>
    obtain⟨t,rfl⟩:=(show ∃t,u0=Value.str z t from r0)
    exact⟨a,_,t,rfl,tup,by simp⟩
 ·cases hd
theorem q_sortkey {x y:Str} {k:Nat} {e:Expr} {me:ED} {params:Arguments} {scope:Scope} {p pa pb pc lpos pos kp:Pos} {kd:Nat} {fy:Addr} {fdy:FuncData} {oc:Value} {od:Option Addr} {osl:Array (Option Value)}
 (hK:X.K=G.K) (hw:X.w=G.w) (hc:X.calm=true) (room:RoomG k X.A) (he:PE X e (tE G me Wx)) (hg:Gl X "sorted") (hm:X.mg "sorted" =none)
 (my:G.mg y=some (.ref fy)) (ly:G.K.lookup fy=some ⟨oc,od, .func fdy,osl⟩) (cyf:fdy.code=X.env.code) (blt:BltIn X.base X.mg) (L:LamP scope x) (hdef:defaultsOf params X.env=([],[]))
 (hbind:∀(q:Str) (cl:List (Str × Addr)) (pm cv ctv v:Value),bindArgs (PySem.W.kla_fn "<lambda>" q params (.Subscript (.Name x pa) (.Constant (.int 0) kd pb) pc) scope cl pm cv ctv) ⟨[v],[]⟩=pure [(x,v)])
 (hd:(x==("__debug__" :Str))=false)
 (hs1:starEach [e] X.env=(false,eval e X.env)::starEach [] X.env:=by rfl) (hst:backTo pos (starEach [e] X.env)=(false,eval e X.env)::backTo pos (starEach [] X.env):=by rfl) (hpl:(backTo pos (starEach [e] X.env)).any (·.1)=false:=by rfl)
 (hall:(backToKw pos (keywordEach [⟨some "key", .Lambda params (.Subscript (.Name x pa) (.Constant (.int 0) kd pb) pc) scope lpos,kp⟩] X.env)).all (·.1.isSome)=true:=by rfl) (hnone:(backToKw pos (keywordEach [⟨some "key", .Lambda params (.Subscript (.Name x pa) (.Constant (.int 0) kd pb) pc) scope lpos,kp⟩] X.env)).any (·.1.isNone)=false:=by rfl)
 (hks:(backToKw pos (keywordEach [⟨some "key", .Lambda params (.Subscript (.Name x pa) (.Constant (.int 0) kd pb) pc) scope lpos,kp⟩] X.env)).filterMap (·.1)= [Str.ofString "key"] :=by rfl):
 PE X (.Call (.Name "sorted" p) [e] [⟨some "key", .Lambda params (.Subscript (.Name x pa) (.Constant (.int 0) kd pb) pc) scope lpos,kp⟩] pos) (tE G (eSortKey y (X.env.qual++ "<lambda>") me) Wx):=by
 refine⟨fun pins s σ H Q I h=> ?_⟩
 obtain⟨w,env,rfl,sr,er,pp⟩:=h
 refine wpAny_Call_Name_kw (ld_blt I hg hm PyProof.Rows.Boot.«sorted» ?_)
 refine PyProof.Rows.callWith_kw ?_ hst hpl hall hnone
 rw[hks,hst]
 refine Calls.spliced_cons (thn (he.run pins s σ w.H _ I ⟨w,env,rfl,sr,er,Post.bind pp⟩) fun u s1 ⟨v,H1,I1,rx,q1⟩=> ?_)
 refine Calls.spliced_nil ?_
 obtain⟨w1,d1,rfl,x1,sr1,r1,p1⟩:=q1
 replace p1:Post G w1 (match w1.S[(0:Nat)]? with
  |some (.tab y' q')=>if y'=y∧q'=X.env.qual++ "<lambda>" then sortKD d1 w1.S else .bad
  | _=> .bad) (Rep G) Q (fun C dx H'=>Wx C dx σ H'):=p1
 split at p1
 case h_2=>exact p1.elim
 rename_i y' q' h0
 split at p1
 case isFalse=>exact p1.elim
 rename_i hyq
 obtain⟨rfl,rfl⟩:=hyq
 unfold sortKD at p1
 split at p1
 case h_2=>exact p1.elim
 rename_i l hl
 split at p1
 case isFalse=>exact p1.elim
 rename_i oks
 have hl0:=(List.getElem?_eq_some_iff.mp h0).1
 rw[← sr1.len] at hl0
 have hmu:w1.mu[0]? =some w1.mu[0] :=List.getElem?_eq_getElem hl0
 generalize w1.mu[0] =P at hmu
 have orep:=sr1.obj 0 _ P h0 hmu
 obtain⟨ti,ps,tab,three,old⟩:=orep
 have ti':=ti
 obtain⟨f',c',fd',oc',od',osl',t1,t2,t3,t4⟩:=ti'
 rw[my] at t1
 cases t1
 rw[ly] at t2
 cases t2
 have here:X.env.code= .ref c':=by rw[← cyf];exact t3
 have noB:∀b o,X.base.get? b=some o→b≠P:=fun b o e z=>by
  obtain⟨e1,e2⟩:=I1.ok.bs b o e
  have:=I1.base.free b o e1 e2 (I1.ok.noex b o e)
  rw[z,tab] at this
  cases this
 have TB:TabB X.base X.mg c' P:=by
  refine⟨PySem.W.codeHd_of_K I1.ok.mod.kin (by rw[hK];exact t4),?_,?_⟩
  ·obtain⟨bm,o,b1,b2,b3,b4,b5,b6,b7⟩:=blt
   exact⟨bm,o,b1,b2,b3,noB bm o b4,b4,b5,b6,b7⟩
  ·obtain⟨o,es,ep,e,_⟩:=I1.ok.mod.glob
   exact noB _ o e
 show wpAny _ _ (evalAll ((do let v ←eval (.Lambda params (.Subscript (.Name x pa) (.Constant (.int 0) kd pb) pc) scope lpos) X.env;standAt pos;pure v):: [])) _ _ s1
 refine wpAny_evalAll_cons (wpAny_bind (lam_made I1 TB here tab three (fun pos cv hc=>let⟨c,e1,e2⟩:=old pos cv hc;⟨c,e1,e2.1⟩) hdef (fun y hy e=>by
  rw[L.names] at hy
  rw[List.mem_singleton.mp hy] at e
  cases e) ?_))
 intro f c pm ctv H1 s' I1' made hf un nf
 refine wpAny_bind (wpAny_standAt (wpAny_pure (wpAny_evalAll_nil ?_)))
 obtain⟨x2,sr2,code⟩:=lam_world sr1 h0 hmu ti tab old made
 have r2:=Rep.mono x2 d1 v r1
 have p2:=Post.shift x2 p1
 obtain⟨n,a,rows,rfl,hn,hm',rfl,h1,h2⟩:=dn_ref sr2 r2 hl
 cases rx
 rw[← hw] at h1
 have I2:Inv X pins σ ({ w1 with H:=H1 } :Wd).H s':=I1'
 obtain⟨lo,zs,xs,rel,o,es,ep,ho,hx,hd2,hen,_,_⟩:=dictN I2 h1 (fun r hr=>by rw[hK];exact repN_kat h2 r hr)
 have raw:s'.heap.DictRaw a es ep:=⟨o,ho,hx,hd2⟩
 have hsz:es.size=xs.length:=size_of_entries hen
 have hes:∀i (hi:i<es.size),∃y,xs[i]? =some y∧es[i].key= .ref y.2.1∧es[i].val=y.2.2:=fun i hi=>by
  have q:=entry_at hen i
  rw[Array.getElem?_eq_getElem hi] at q
  cases hy:xs[i]? with
  |none=>rw[hy] at q;cases q
  |some y=>
   rw[hy] at q
   have q:es[i] =entryOfKey (nestedKind X.prog X.w) y:=Option.some.inj q
   exact⟨y,rfl,by rw[q];rfl,by rw[q];rfl⟩
 have hlen0:es.size=l.length:=by rw[hsz,←prN_len rel,repN_len h2]
 have hll:=oks.1
 have hfs:=List.all_eq_true.mp oks.2
 show wpAny _ _ (call (.builtin "sorted") [.ref a] [(Str.ofString "key", .ref f)]) _ _ s'
 refine PyProof.Rows.call_function_entry_kw kind_sorted plain_sorted entry_sorted (PyProof.Rows.ksk_s1 _ _) ?_
 unfold Builtin.«sorted»
 refine wpAny_bind (m:=checkCount "sorted" 1 1 _) (wpAny_pure ?_)
 refine wpAny_bind (PySem.W.kdu_collect (A:=X.A.in1) (kdl_rawN lo hes) (I2.ok.hd hc) raw (by omega) fun h' tk acc hk hacc=> ?_)
 have I3:Inv X pins σ ({ w1 with H:=H1 } :Wd).H { s' with heap:=h',toks:=tk } :=I2.kept hk
 generalize hvs:acc.toList=vs
 have hvl0:vs.length=l.length:=by rw[← hvs,Array.length_toList,hacc.1,hlen0]
 have e1:EachIs (fun u d=>∃x,RelV x u∧Rep G { w1 with H:=H1 } d x) vs (l.map fun p=>kD p.1):=by
  refine each_of vs _ (by rw[hvl0,List.length_map]) fun j u d q1 q2=> ?_
  obtain⟨y,hy,rfl⟩:=hacc.2 j u (by rw[← Array.getElem?_toList,hvs];exact q1)
  exact⟨.ref y.2.1,rfl,repN_key h2 rel j y d hy q2⟩
 have hvl:vs.length≤sizeLine:=by omega
 refine wpAny_bind (wpAny_newList ?_ hvl)
 have hoL:(h'.push (seqObj "list" vs.toArray 0)).get? h'.objs.size=some (seqObj "list" vs.toArray 0):=Heap.get?_push_size _ rfl
 refine wpAny_bind (wpAny_holding (wpAny_call_entry_kw slot_list_sort ⟨_,hoL,rfl⟩ entry_list_sort ?_ (PyProof.Rows.ksk_l1 _ _)))
 rw[show Builtin.«list.sort» ⟨[.ref h'.objs.size],[(Str.ofString "key", .ref f)]⟩=PyProof.Rows.ksk_tree h'.objs.size (.ref f) false from PyProof.Rows.ksk_t1 _ _]
 have up:∀ {g:Heap},KeepsBut h'.objs.size (h'.push (seqObj "list" vs.toArray 0)) g→∀b o,h'.get? b=some o→g.get? b=some o:=fun {g} kp b o q=>
  kp b o (Nat.ne_of_lt (Heap.lt_size q)) (Heap.get?_push_of_some _ q)
 refine PySem.W.keyH_tree (kz:=(l.map fun p=>kD p.1).map keyS) (s:= { s' with heap:=h'.push (seqObj "list" vs.toArray 0),toks:=tk }) hoL (by rw[List.length_map,List.length_map];omega) hvl (AllAlike.of fun _ _=>by simp[PySem.W.alike,keyS]) (Sortable.others fun _=>⟨by simp[keyS],by simp[keyS]⟩) (fun d hd'=> ?_) ?_ ?_
 ·obtain⟨b,_,rfl⟩:=List.mem_map.mp hd'
  have:=room.rm.un
  show X.A.units+1+1+(keyS b).depth<cLine
  simp only[keyS,PyData.depth]
  omega
 ·intro i vv kk hv hkz hh tk' kp
  have hkz':=hkz
  rw[List.getElem?_map] at hkz'
  cases hq:(l.map fun p=>kD p.1)[i]? with
  |none=>rw[hq] at hkz';cases hkz'
  |some d=>
   rw[hq] at hkz'
   simp only[Option.map_some,Option.some.injEq] at hkz'
   obtain⟨pr,hpr,rfl⟩:=List.mem_map.mp (List.mem_of_getElem? hq)
   have hs:=hfs pr hpr
   obtain⟨z,hz⟩:=Option.isSome_iff_exists.mp hs
   obtain⟨xv,rv,rd⟩:=e1.zip (vv,kD pr.1) (List.mem_of_getElem? (i:=i) (by rw[List.getElem?_zip_eq_some];exact⟨hv,hq⟩))
   obtain⟨at',its,tt,rfl,tup,i0⟩:=first_rep hK I3 hz rv rd
   have ekk:kk= .str z:=by rw[← hkz'];simp[keyS,hz]
   subst ekk
   obtain⟨⟨oc',vs',tt',c1,c2,c3⟩,_,_⟩:=I2.hok c _ code.1
   have crec:s'.heap.CodeRec (.ref c) (X.env.qual++ "<lambda>"):=⟨c,oc',vs',tt',rfl,c1,c2,c3⟩
   exact key_call (s:= { s' with heap:=hh,toks:=tk' }) room.rm.depth (up kp _ _ (hk _ _ hf)) ((crec.keeps hk).keeps (up kp)) L hd (hbind _ _ _ _ _ _) (tup.keeps (up kp)) i0 (I3.nolimit.keeps (up kp))
 ·intro hh tk' out cc kp hD ko
  have oe:=PySem.W.keyedOut_each keyS ko e1
  obtain⟨vs',v1,v2⟩:=rep_each oe
  have hlen:vs'.length≤sizeLine:=by
   rw[v2.length]
   rw[List.length_mergeSort,List.length_map]
   exact hll
  refine⟨_,rfl,wpAny_pure ⟨_,rfl, .ref h'.objs.size,upd ({ w1 with H:=H1 } :Wd).H h'.objs.size (.lst vs'),I3.laid (t':=tk') (up kp) (Nat.le_refl _) (show ObjOk X.prog X.w _ _ _ (.lst vs') from⟨hlen,out,cc,v1,hD⟩),rfl,new_lst (S:=w1.S) sr2 v2 p2 _ (I3.hok.fresh (Nat.le_refl _))⟩⟩
end
end L3
namespace K05
open PySem L2 L3
noncomputable section
def fuel:Nat:=100000
def c_GIVERS:D:=(.tup [(.str "let"),(.str "each")])
def c_NAME:D:=(.str "name")
def kbd_asked_at_0_place_program_g:List D→List D→List D:=gath .non [(true,1),(true,0)]
def kbd_free_in_0_program_g:List D→List D→List D:=gath .non [(true,0)]
def kbd_is_number_1_high_s:List (Nat × Nat):= [(0,0),(1,0),(2,0)]
def kbd_is_number_1_high_g:List D→List D→List D:=fun ds es=>gat3 kbd_is_number_1_high_s ds [(.int 0)] es
def m_is_whole (F:Nat→FN):SD:=
    sRet (eAnd (eN isiD (aCons (eVar 0) (aCons (eK (.ty "int")) (aNil)))) (eNot (eN isiD (aCons (eVar 0) (aCons (eK (.ty "bool")) (aNil))))))
def m_is_number (F:Nat→FN):SD:=
    sRet (eAnd (eN (callK (F 0) []) (aCons (eVar 0) (aNil))) (eChain leD leD (eVar 1) (eVar 0) (eVar 2)))
def m_at (F:Nat→FN):SD:=
    sSeq (sIf (tNot (tTruth (eN isiD (aCons (eVar 1) (aCons (eK (.ty "tuple")) (aNil)))))) (sRaise1 "NoPlace" "place" (eVar 1)) (sSkip))
    (sSeq (sAsg (eVar 0) (gName 2))
    (sSeq (sFor (iSeq (eVar 1)) (gName 3) (sSeq (sIf (tNot (tTruth (eKw (kwK (F 1) 1 1 kbd_is_number_1_high_g) (aCons (eVar 3) (aNil)) (aCons (e2 subD (eN lenD (aCons (e2 ixD (eVar 2) (eK (.int 2))) (aNil))) (eK (.int 1))) (aNil))))) (sRaise1 "NoPlace" "place" (eVar 1)) (sSkip))
    (sAsg (e2 ixD (e2 ixD (eVar 2) (eK (.int 2))) (eVar 3)) (gName 2))))
    (sRet (eVar 2))))
def m_is_within (F:Nat→FN):SD:=
    sRet (e2 eqD (eSl (eVar 0) (pNo) (pYes (eN lenD (aCons (eVar 1) (aNil))))) (eVar 1))
def m_Scopes___init__ (F:Nat→FN):SD:=
    sSeq (sFldD ["Scopes"] "names" (eVar 0) (eDctT0))
    (sSeq (sFldD ["Scopes"] "givers" (eVar 0) (eDctT0))
    (sSeq (sAsg (eN mkObj (aCons (eN mkTup (aCons (eN mkTup (aNil)) (aCons (eVar 1) (aCons (eDic0) (aNil))))) (aNil))) (gName 2))
    (sWhile (tOfE (e2 gtD (eN lenD (aCons (eVar 2) (aNil))) (eK (.int 0)))) (sSeq (sAsg (eBM "list" popD (eVar 2) aNil) (gSeq [3,4,5]))
    (sSeq (sAsg (eVar 4) (gTup [6,7,8]))
    (sSeq (sIf (tOfE (e2 eqD (eVar 6) (eK c_NAME))) (sSeq (sAsg (eVar 7) (gSub (e1 (fldD ["Scopes"] "names") (eVar 0)) (eVar 3)))
    (sAsg (eBM "dict" dgetD (eVar 5) (aCons (eVar 7) (aNil))) (gSub (e1 (fldD ["Scopes"] "givers") (eVar 0)) (eVar 3)))) (sSkip))
    (sFor (iArgs enumA (aCons (eVar 8) (aNil))) (gTup [9,10]) (sSeq (sCopy 11 5 13 12)
    (sSeq (sIf (tAnd (tOfE (e2 inD (eVar 6) (eK c_GIVERS))) (tOfE (e2 eqD (eVar 9) (eK (.int 1))))) (sAsg (eVar 3) (gSub (eVar 11) (eVar 7))) (sSkip))
    (sExpr (eBM "list" appendD (eVar 2) (aCons (eN mkTup (aCons (e2 addD (eVar 3) (eN mkTup (aCons (eVar 9) (aNil)))) (aCons (eVar 10) (aCons (e1 frzD (eVar 11)) (aNil))))) (aNil)))))))))) fuel)))
def m_Scopes_asked (F:Nat→FN):SD:=
    sRet (eN tupleD (aCons (eLkI itsO (e1 (fldD ["Scopes"] "givers") (eVar 0)) fun mi=>e1 sortSetD (eLc (mi) [3,2] (gTup [3,2]) (tAnd (tTruth (eN (callK (F 3) []) (aCons (eVar 3) (aCons (eVar 1) (aNil))))) (tOr (tOfE (e2 isNonD (eVar 2) (eK .non))) (tNot (tTruth (eN (callK (F 3) []) (aCons (eVar 2) (aCons (eVar 1) (aNil)))))))) (eN mkTup (aCons (e2 ixD (e1 (fldD ["Scopes"] "names") (eVar 0)) (eVar 3)) (aCons (eVar 2) (aNil)))))) (aNil)))
def m_free_in (F:Nat→FN):SD:=
    sSeq (sAsg (eN (mkIns "Scopes" (callK (F 4) [])) (aCons (eVar 0) (aNil))) (gName 1))
    (sRet (eN tupleD (aCons (eLkI itsO (e1 (fldD ["Scopes"] "givers") (eVar 1)) fun mi=>e1 sortSetD (eLc (mi) [3,2] (gTup [3,2]) (tOfE (e2 isNonD (eVar 2) (eK .non))) (e2 ixD (e1 (fldD ["Scopes"] "names") (eVar 1)) (eVar 3)))) (aNil))))
def m_asked_at (F:Nat→FN):SD:=
    sSeq (sExpr (eN (callK (F 2) []) (aCons (eVar 0) (aCons (eVar 1) (aNil)))))
    (sSeq (sAsg (eN (mkIns "Scopes" (callK (F 4) [])) (aCons (eVar 0) (aNil))) (gName 2))
    (sRet (eMeth "Scopes" "asked" (callK (F 5) []) (eVar 2) (aCons (eVar 1) (aNil)))))
def m_law_hand (F:Nat→FN):SD:=
    sSeq (sAsg (e2 addD (e2 mulD (eK (.int 3)) (eVar 1)) (eN lenD (aCons (eVar 0) (aNil)))) (gName 2))
    (sSeq (sIf (tOfE (e2 ltD (eVar 1) (eN lenD (aCons (eVar 0) (aNil))))) (sAsg (e2 ixD (eVar 0) (eVar 1)) (gName 2)) (sSkip))
    (sSeq (sAsg (e2 mulD (e2 modD (eN absD (aCons (eVar 2) (aNil))) (e2 powD (e2 powD (eK (.int 10)) (eK (.int 60))) (eK (.int 5)))) (eN intD (aCons (e2 geD (eN absD (aCons (eVar 2) (aNil))) (e2 powD (eK (.int 10)) (eK (.int 18)))) (aNil)))) (gName 3))
    (sRet (eN mkObj (aCons (eVar 3) (aCons (e2 modD (e2 mulD (e2 addD (e2 addD (e2 modD (eVar 2) (eK (.int 2305843009213693951))) (e2 mulD (e2 mulD (eK (.int 7919)) (eVar 1)) (eVar 1))) (eK (.int 11))) (eK (.int 48271))) (eK (.int 2305843009213693951))) (aNil)))))))
def m_law_take (F:Nat→FN):SD:=
    sSeq (sIf (tOfE (e2 gtD (e2 ixD (eVar 0) (eK (.int 0))) (eK (.int 0)))) (sSeq (sAsg (e2 modD (e2 ixD (eVar 0) (eK (.int 0))) (eVar 1)) (gName 2))
    (sSeq (sAsg (e2 fdivD (e2 ixD (eVar 0) (eK (.int 0))) (eVar 1)) (gSub (eVar 0) (eK (.int 0))))
    (sRet (eVar 2)))) (sSkip))
    (sSeq (sAsg (e2 modD (e2 addD (e2 mulD (e2 ixD (eVar 0) (eK (.int 1))) (eK (.int 1181783497276652981))) (eK (.int 12345678910987))) (eK (.int 2305843009213693951))) (gSub (eVar 0) (eK (.int 1))))
    (sRet (e2 modD (e2 fdivD (e2 modD (e2 mulD (e2 fdivD (e2 ixD (eVar 0) (eK (.int 1))) (eK (.int 65537))) (e2 addD (e2 modD (e2 ixD (eVar 0) (eK (.int 1))) (eK (.int 65537))) (eK (.int 3)))) (eK (.int 2305843009213693921))) (eK (.int 97))) (eVar 1))))
def m_law_pick (F:Nat→FN):SD:=
    sRet (e2 ixD (eVar 1) (eN (callK (F 9) []) (aCons (eVar 0) (aCons (eN lenD (aCons (eVar 1) (aNil))) (aNil)))))
def m_law_called (F:Nat→FN):SD:=
    sSeq (sAsg (eK (.str "abcdefghijklmnopqrstuvwxyz")) (gName 2))
    (sSeq (sAsg (eBM "str" splitD (eK (.str "plus times most row say less below if let each num name any rest called count")) (aCons (eK (.str " ")) (aNil))) (gName 3))
    (sSeq (sAsg (eN mkTup (aCons (eN (callK (F 9) []) (aCons (eVar 0) (aCons (eK (.int 676)) (aNil)))) (aCons (eN (callK (F 10) []) (aCons (eVar 0) (aCons (eN mkLst (aCons (eK (.int 1)) (aCons (eK (.int 3)) (aCons (eK (.int 7)) (aCons (eK (.int 25)) (aCons (eK (.int 27)) (aCons (eK (.int 51)) (aCons (eK (.int 105)) (aNil))))))))) (aNil)))) (aNil)))) (gTup [4,5]))
    (sSeq (sIf (tAnd (tOfE (e2 ltD (eVar 1) (eK (.int 27)))) (tOfE (e2 eqD (eN (callK (F 9) []) (aCons (eVar 0) (aCons (eK (.int 6)) (aNil)))) (eK (.int 0))))) (sRet (eLc (iArgs range1 (aCons (eVar 1) (aNil))) [6] (gName 6) (tYesD) (e2 ixD (eVar 2) (e2 modD (e2 addD (eVar 4) (eVar 6)) (eK (.int 26)))))) (sSkip))
    (sSeq (sAsg (eBM "str" joinD (eK (.str "")) (aCons (eLc (iArgs range1 (aCons (eN (callK (F 10) []) (aCons (eVar 0) (aCons (eN mkLst (aCons (eK (.int 0)) (aCons (eK (.int 0)) (aCons (eK (.int 1)) (aCons (eK (.int 2)) (aCons (eK (.int 6)) (aNil))))))) (aNil)))) (aNil))) [6] (gName 6) (tYesD) (eN (callK (F 10) []) (aCons (eVar 0) (aCons (eVar 2) (aNil))))) (aNil))) (gName 7))
    (sSeq (sPar [8,9] (aCons (eN (callK (F 9) []) (aCons (eVar 0) (aCons (e2 addD (eN lenD (aCons (eVar 7) (aNil))) (eK (.int 1))) (aNil)))) (aCons (eN mkObj (aNil)) (aNil))))
    (sSeq (sFor (iArgs range1 (aCons (eVar 1) (aNil))) (gName 6) (sSeq (sAsg (e2 modD (e2 addD (eVar 4) (e2 mulD (eVar 5) (eVar 6))) (eK (.int 676))) (gName 10))
    (sSeq (sAsg (e2 addD (e2 ixD (eVar 2) (e2 fdivD (eVar 10) (eK (.int 26)))) (e2 ixD (eVar 2) (e2 modD (eVar 10) (eK (.int 26))))) (gName 11))
    (sSeq (sAsg (e2 addD (e2 addD (eSl (eVar 7) (pNo) (pYes (eVar 8))) (eVar 11)) (eSl (eVar 7) (pYes (eVar 8)) (pNo))) (gName 12))
    (sExpr (eBM "list" appendD (eVar 9) (aCons (e2 addD (eVar 12) (e2 mulD (eK (.str "x")) (eN intD (aCons (e2 inD (eVar 12) (eVar 3)) (aNil))))) (aNil))))))))
    (sRet (eVar 9))))))))
def m_law_digit (F:Nat→FN):SD:=
    sRet (eN (callK (F 10) []) (aCons (eVar 0) (aCons (eN mkLst (aCons (eK (.int 0)) (aCons (eK (.int 1)) (aCons (eK (.int 2)) (aCons (eK (.int 3)) (aCons (eN (callK (F 9) []) (aCons (eVar 0) (aCons (eK (.int 6)) (aNil)))) (aCons (eK (.int 9972)) (aCons (eN (callK (F 9) []) (aCons (eVar 0) (aCons (eK (.int 9973)) (aNil)))) (aNil))))))))) (aNil))))
def m_law_grown (F:Nat→FN):SD:=
    sSeq (sAsg (e2 subD (e2 ixD (eVar 1) (eK (.str "left"))) (eK (.int 1))) (gSub (eVar 1) (eK (.str "left"))))
    (sSeq (sIf (tOr (tOfE (e2 eqD (eVar 3) (eK (.int 0)))) (tOfE (e2 ltD (e2 ixD (eVar 1) (eK (.str "left"))) (eK (.int 4))))) (sSeq (sIf (tOfE (e2 ltD (eN (callK (F 9) []) (aCons (eVar 0) (aCons (eK (.int 5)) (aNil)))) (eK (.int 3)))) (sRet (eN mkTup (aCons (eK (.str "name")) (aCons (eN (callK (F 10) []) (aCons (eVar 0) (aCons (e2 addD (e2 addD (eSl (eVar 2) (pYes (e1 negD (eK (.int 2)))) (pNo)) (eSl (eVar 2) (pYes (e1 negD (eK (.int 2)))) (pNo))) (e2 ixD (eVar 1) (eK (.str "pool")))) (aNil)))) (aCons (eN mkTup (aNil)) (aNil)))))) (sSkip))
    (sRet (eN mkTup (aCons (eK (.str "num")) (aCons (eN (callK (F 12) []) (aCons (eVar 0) (aNil))) (aCons (eN mkTup (aNil)) (aNil))))))) (sSkip))
    (sSeq (sPar [4,5] (aCons (eN (callK (F 9) []) (aCons (eVar 0) (aCons (eK (.int 13)) (aNil)))) (aCons (eN (callK (F 10) []) (aCons (eVar 0) (aCons (eN mkLst (aCons (eK (.int 2)) (aCons (eK (.int 2)) (aCons (eK (.int 3)) (aCons (eK (.int 1)) (aCons (eK (.int 4)) (aNil))))))) (aNil)))) (aNil))))
    (sSeq (sIf (tOfE (e2 ltD (eVar 4) (eK (.int 4)))) (sSeq (sAsg (e2 ixD (eN mkLst (aCons (eK (.str "plus")) (aCons (eK (.str "times")) (aCons (eK (.str "most")) (aCons (eK (.str "plus")) (aNil)))))) (eVar 4)) (gName 6))
    (sRet (eN mkTup (aCons (eVar 6) (aCons (eK (.str "")) (aCons (eN tupleD (aCons (eLc (iArgs range1 (aCons (eVar 5) (aNil))) [7] (gName 7) (tYesD) (eN (callK (F 13) []) (aCons (eVar 0) (aCons (eVar 1) (aCons (eVar 2) (aCons (e2 subD (eVar 3) (eK (.int 1))) (aNil))))))) (aNil))) (aNil))))))) (sSkip))
    (sSeq (sIf (tOfE (e2 ltD (eVar 4) (eK (.int 7)))) (sSeq (sAsg (eN (callK (F 10) []) (aCons (eVar 0) (aCons (eN mkLst (aCons (eVar 5) (aCons (eK (.int 0)) (aCons (eK (.int 3)) (aCons (eK (.int 4)) (aCons (eK (.int 5)) (aNil))))))) (aNil)))) (gName 5))
    (sRet (eN mkTup (aCons (eK (.str "row")) (aCons (eK (.str "")) (aCons (eN tupleD (aCons (eLc (iArgs range1 (aCons (eVar 5) (aNil))) [7] (gName 7) (tYesD) (eN (callK (F 13) []) (aCons (eVar 0) (aCons (eVar 1) (aCons (eVar 2) (aCons (e2 subD (eVar 3) (eK (.int 1))) (aNil))))))) (aNil))) (aNil))))))) (sSkip))
    (sSeq (sIf (tOfE (e2 ltD (eVar 4) (eK (.int 10)))) (sSeq (sAsg (e2 ixD (eN mkLst (aCons (eK (.str "let")) (aCons (eK (.str "each")) (aCons (eK (.str "let")) (aNil))))) (e2 subD (eVar 4) (eK (.int 7)))) (gName 6))
    (sSeq (sPar [8,9] (aCons (eN (callK (F 10) []) (aCons (eVar 0) (aCons (e2 ixD (eVar 1) (eK (.str "pool"))) (aNil)))) (aCons (eN (callK (F 13) []) (aCons (eVar 0) (aCons (eVar 1) (aCons (eVar 2) (aCons (e2 subD (eVar 3) (eK (.int 1))) (aNil)))))) (aNil))))
    (sRet (eN mkTup (aCons (eVar 6) (aCons (eVar 8) (aCons (eN mkTup (aCons (eVar 9) (aCons (eN (callK (F 13) []) (aCons (eVar 0) (aCons (eVar 1) (aCons (e2 addD (eVar 2) (eN mkLst (aCons (eVar 8) (aNil)))) (aCons (e2 subD (eVar 3) (eK (.int 1))) (aNil)))))) (aNil)))) (aNil)))))))) (sSkip))
    (sSeq (sAsg (e2 ixD (eN mkLst (aCons (eK (.str "say")) (aCons (eN (callK (F 10) []) (aCons (eVar 0) (aCons (eN mkLst (aCons (eK (.str "less")) (aCons (eK (.str "below")) (aNil)))) (aNil)))) (aCons (eK (.str "if")) (aNil))))) (e2 subD (eVar 4) (eK (.int 10)))) (gName 6))
    (sRet (eN mkTup (aCons (eVar 6) (aCons (eK (.str "")) (aCons (eN tupleD (aCons (eLc (iArgs range1 (aCons (e2 subD (eVar 4) (eK (.int 9))) (aNil))) [7] (gName 7) (tYesD) (eN (callK (F 13) []) (aCons (eVar 0) (aCons (eVar 1) (aCons (eVar 2) (aCons (e2 subD (eVar 3) (eK (.int 1))) (aNil))))))) (aNil))) (aNil))))))))))))
def m_law_code (F:Nat→FN):SD:=
    sSeq (sAsg (eN (callK (F 11) []) (aCons (eVar 0) (aCons (e2 addD (eK (.int 1)) (eN (callK (F 9) []) (aCons (eVar 0) (aCons (eK (.int 5)) (aNil))))) (aNil)))) (gName 2))
    (sRet (eN (callK (F 13) []) (aCons (eVar 0) (aCons (eDct [(eK (.str "left"),eVar 1),(eK (.str "pool"),eVar 2)]) (aCons (eN mkLst (aNil)) (aCons (e2 addD (eK (.int 3)) (eN (callK (F 9) []) (aCons (eVar 0) (aCons (eK (.int 5)) (aNil))))) (aNil)))))))
def m_law_spots (F:Nat→FN):SD:=
    sSeq (sAsg (eN mkObj (aCons (eN mkTup (aNil)) (aNil))) (gName 1))
    (sSeq (sFor (iArgs enumA (aCons (e2 ixD (eVar 0) (eK (.int 2))) (aNil))) (gTup [2,3]) (sExpr (eBM "list" extendD (eVar 1) (aCons (eLc (iSeq (eN (callK (F 15) []) (aCons (eVar 3) (aNil)))) [4] (gName 4) (tYesD) (e2 addD (eN mkTup (aCons (eVar 2) (aNil))) (eVar 4))) (aNil)))))
    (sRet (e1 frzD (eVar 1))))
def m_law_givers (F:Nat→FN):SD:=
    sSeq (sPar [1,2] (aCons (eDctT0) (aCons (eN mkObj (aCons (eN mkTup (aCons (eN mkTup (aNil)) (aCons (eVar 0) (aCons (eDic0) (aNil))))) (aNil))) (aNil))))
    (sSeq (sWhile (tOfE (e2 ne0D (eVar 2) (eN mkLst (aNil)))) (sSeq (sAsg (eBM "list" popD (eVar 2) aNil) (gSeq [3,4,5]))
    (sSeq (sAsg (eVar 4) (gTup [6,7,8]))
    (sSeq (sIf (tOfE (e2 eqD (eVar 6) (eK (.str "name")))) (sAsg (eN mkTup (aCons (eVar 7) (aCons (eBM "dict" dgetD (eVar 5) (aCons (eVar 7) (aNil))) (aNil)))) (gSub (eVar 1) (eVar 3))) (sSkip))
    (sFor (iArgs enumA (aCons (eVar 8) (aNil))) (gTup [9,10]) (sSeq (sAsg (eN dictPO (aCons (e1 litemsD (eVar 5)) (aNil))) (gName 11))
    (sSeq (sIf (tAnd (tOfE (e2 inD (eVar 6) (eN mkTup (aCons (eK (.str "let")) (aCons (eK (.str "each")) (aNil)))))) (tOfE (e2 eqD (eVar 9) (eK (.int 1))))) (sAsg (eVar 3) (gSub (eVar 11) (eVar 7))) (sSkip))
    (sExpr (eBM "list" appendD (eVar 2) (aCons (eN mkTup (aCons (e2 addD (eVar 3) (eN mkTup (aCons (eVar 9) (aNil)))) (aCons (eVar 10) (aCons (e1 frzD (eVar 11)) (aNil))))) (aNil)))))))))) fuel)
    (sRet (eVar 1)))
def m_law_asked (F:Nat→FN):SD:=
    sSeq (sAsg (eDctN0) (gName 2))
    (sSeq (sForL itsO (eVar 0) (gMix [gName 3,gTup [4,5]]) (sIf (tAnd (tOfE (e2 eqD (eSl (eVar 3) (pNo) (pYes (eN lenD (aCons (eVar 1) (aNil))))) (eVar 1))) (tOr (tOfE (e2 isNonD (eVar 5) (eK .non))) (tOfE (e2 neD (eSl (eVar 5) (pNo) (pYes (eN lenD (aCons (eVar 1) (aNil))))) (eVar 1))))) (sAsg (eK (.bl true)) (gSubN (eVar 2) (eN mkTup (aCons (eVar 4) (aCons (eVar 5) (aNil)))))) (sSkip)))
    (sRet (eN tupleD (aCons (eSortKey "_law_asked" ((("_law_asked" :Str)++ ".<locals>.")++ "<lambda>") (eVar 2)) (aNil)))))
def m_law_right (F:Nat→FN):SD:=
    sSeq (sPar [1,2] (aCons (eN (callK (F 16) []) (aCons (eVar 0) (aNil))) (aCons (eN (callK (F 15) []) (aCons (eVar 0) (aNil))) (aNil))))
    (sSeq (sAsg (eDct0) (gName 3))
    (sSeq (sForL valsO (eVar 1) (gTup [4,5]) (sIf (tOfE (e2 isNonD (eVar 5) (eK .non))) (sAsg (eK (.bl true)) (gSub (eVar 3) (eVar 4))) (sSkip)))
    (sSeq (sAsg (eN reprD (aCons (eN tupleD (aCons (eN sortedAD (aCons (eVar 3) (aNil))) (aNil))) (aNil))) (gName 6))
    (sSeq (sIf (tOfE (e2 neD (eN mkLst (aCons (eN reprD (aCons (eN (callK (F 6) []) (aCons (eVar 0) (aNil))) (aNil))) (aCons (eN reprD (aCons (eKw (kwK (F 6) 0 1 kbd_free_in_0_program_g) aNil (aCons (eVar 0) (aNil))) (aNil))) (aNil)))) (eN mkLst (aCons (eVar 6) (aCons (eVar 6) (aNil)))))) (sRet (eK (.bl false))) (sSkip))
    (sSeq (sFor (iSeq (eVar 2)) (gName 7) (sSeq (sAsg (eN reprD (aCons (eN (callK (F 17) []) (aCons (eVar 1) (aCons (eVar 7) (aNil)))) (aNil))) (gName 6))
    (sIf (tOfE (e2 neD (eN mkLst (aCons (eN reprD (aCons (eN (callK (F 7) []) (aCons (eVar 0) (aCons (eVar 7) (aNil)))) (aNil))) (aCons (eN reprD (aCons (eKw (kwK (F 7) 0 2 kbd_asked_at_0_place_program_g) aNil (aCons (eVar 7) (aCons (eVar 0) (aNil)))) (aNil))) (aNil)))) (eN mkLst (aCons (eVar 6) (aCons (eVar 6) (aNil)))))) (sRet (eK (.bl false))) (sSkip))))
    (sRet (eK (.bl true))))))))
def m_law_refused (F:Nat→FN):SD:=
    sSeq (sAsg (eK .non) (gName 2))
    (sSeq (sTry (sExpr (eN (callK (F 7) []) (aCons (eVar 0) (aCons (eVar 1) (aNil))))) [⟨["NoPlace"],[],(some 3),sAsg (eVar 3) (gName 2)⟩])
    (sSeq (sIf (tOr (tNot (tTruth (e1 (isxD ["NoPlace"] []) (eVar 2)))) (tTruth (e1 (isxD [] ["NoPlace"]) (eVar 2)))) (sRet (eK (.bl false))) (sSkip))
    (sRet (e2 eqD (eN reprD (aCons (e1 (xfD ["NoPlace"] "place") (eVar 2)) (aNil))) (eN reprD (aCons (eVar 1) (aNil)))))))
def m_law (F:Nat→FN):SD:=
    sSeq (sAsg (eN mkObj (aNil)) (gName 1))
    (sSeq (sFor (iArgs range1 (aCons (eN maxD (aCons (eK (.int 1)) (aCons (eN minD (aCons (eK (.int 5)) (aCons (eN lenD (aCons (eVar 0) (aNil))) (aNil)))) (aNil)))) (aNil))) (gName 2) (sSeq (sAsg (eN (callK (F 8) []) (aCons (eVar 0) (aCons (eVar 2) (aNil)))) (gName 3))
    (sSeq (sAsg (eN (callK (F 14) []) (aCons (eVar 3) (aCons (e2 addD (eK (.int 6)) (eN (callK (F 9) []) (aCons (eVar 3) (aCons (eK (.int 22)) (aNil))))) (aNil)))) (gName 4))
    (sSeq (sAsg (eN reprD (aCons (eVar 4) (aNil))) (gName 5))
    (sSeq (sIf (tOr (tNot (tTruth (eN (callK (F 18) []) (aCons (eVar 4) (aNil))))) (tNot (tTruth (eN allD (aCons (eLc (iSeq (eSl (eVar 1) (pYes (e1 negD (eK (.int 1)))) (pNo))) [6] (gName 6) (tYesD) (eN (callK (F 18) []) (aCons (eVar 6) (aNil)))) (aNil)))))) (sRet (eK (.bl false))) (sSkip))
    (sSeq (sFor (iArgs range1 (aCons (eK (.int 5)) (aNil))) (gName 7) (sSeq (sAsg (eN (callK (F 10) []) (aCons (eVar 3) (aCons (eN (callK (F 15) []) (aCons (eVar 4) (aNil))) (aNil)))) (gName 8))
    (sSeq (sAsg (eN mkLst (aCons (e2 addD (eVar 8) (eN mkTup (aCons (eK (.int 6)) (aNil)))) (aCons (e2 addD (eVar 8) (eN mkTup (aCons (e1 negD (eK (.int 1))) (aNil)))) (aCons (e2 addD (eVar 8) (eN mkTup (aCons (eK (.bl true)) (aNil)))) (aCons (eN listD (aCons (eVar 8) (aNil))) (aCons (eK .non) (aCons (eK (.int 0)) (aCons (eK (.str "")) (aCons (eDic0) (aCons (eN mkTup (aCons (eK .non) (aNil))) (aCons (eN mkLst (aCons (eK (.int 0)) (aNil))) (aNil)))))))))))) (gName 9))
    (sSeq (sAsg (eN (callK (F 10) []) (aCons (eVar 3) (aCons (eVar 9) (aNil)))) (gName 10))
    (sIf (tNot (tTruth (eN (callK (F 19) []) (aCons (eVar 4) (aCons (eVar 10) (aNil)))))) (sRet (eK (.bl false))) (sSkip))))))
    (sSeq (sIf (tOfE (e2 neD (eN reprD (aCons (eVar 4) (aNil))) (eVar 5))) (sRet (eK (.bl false))) (sSkip))
    (sExpr (eBM "list" appendD (eVar 1) (aCons (eVar 4) (aNil)))))))))))
    (sRet (eK (.bl true))))
def tab (F:Nat→FN):List FN:= [run 1 1 (m_is_whole F),
 run 3 3 (m_is_number F),
 run 2 4 (m_at F),
 run 2 2 (m_is_within F),
 run 2 14 (m_Scopes___init__ F),
 run 2 4 (m_Scopes_asked F),
 run 1 4 (m_free_in F),
 run 2 3 (m_asked_at F),
 run 2 4 (m_law_hand F),
 run 2 3 (m_law_take F),
 run 2 2 (m_law_pick F),
 run 2 13 (m_law_called F),
 run 1 1 (m_law_digit F),
 run 4 10 (m_law_grown F),
 run 2 3 (m_law_code F),
 run 1 5 (m_law_spots F),
 run 1 12 (m_law_givers F),
 run 2 6 (m_law_asked F),
 run 1 8 (m_law_right F),
 run 2 4 (m_law_refused F),
 run 1 11 (m_law F)]
def Fs:Nat→Nat→FN
 |0,_=>fun _ _=> .bad
 |k+1,i=>(tab (Fs k)).getD i fun _ _=> .bad
theorem Fs_is_whole (k:Nat):Fs (k+1) 0=run 1 1 (m_is_whole (Fs k)):=rfl
theorem Fs_is_number (k:Nat):Fs (k+1) 1=run 3 3 (m_is_number (Fs k)):=rfl
theorem Fs_at (k:Nat):Fs (k+1) 2=run 2 4 (m_at (Fs k)):=rfl
theorem Fs_is_within (k:Nat):Fs (k+1) 3=run 2 2 (m_is_within (Fs k)):=rfl
theorem Fs_Scopes___init__ (k:Nat):Fs (k+1) 4=run 2 14 (m_Scopes___init__ (Fs k)):=rfl
theorem Fs_Scopes_asked (k:Nat):Fs (k+1) 5=run 2 4 (m_Scopes_asked (Fs k)):=rfl
theorem Fs_free_in (k:Nat):Fs (k+1) 6=run 1 4 (m_free_in (Fs k)):=rfl
theorem Fs_asked_at (k:Nat):Fs (k+1) 7=run 2 3 (m_asked_at (Fs k)):=rfl
theorem Fs_law_hand (k:Nat):Fs (k+1) 8=run 2 4 (m_law_hand (Fs k)):=rfl
theorem Fs_law_take (k:Nat):Fs (k+1) 9=run 2 3 (m_law_take (Fs k)):=rfl
theorem Fs_law_pick (k:Nat):Fs (k+1) 10=run 2 2 (m_law_pick (Fs k)):=rfl
theorem Fs_law_called (k:Nat):Fs (k+1) 11=run 2 13 (m_law_called (Fs k)):=rfl
theorem Fs_law_digit (k:Nat):Fs (k+1) 12=run 1 1 (m_law_digit (Fs k)):=rfl
theorem Fs_law_grown (k:Nat):Fs (k+1) 13=run 4 10 (m_law_grown (Fs k)):=rfl
theorem Fs_law_code (k:Nat):Fs (k+1) 14=run 2 3 (m_law_code (Fs k)):=rfl
theorem Fs_law_spots (k:Nat):Fs (k+1) 15=run 1 5 (m_law_spots (Fs k)):=rfl
theorem Fs_law_givers (k:Nat):Fs (k+1) 16=run 1 12 (m_law_givers (Fs k)):=rfl
theorem Fs_law_asked (k:Nat):Fs (k+1) 17=run 2 6 (m_law_asked (Fs k)):=rfl
theorem Fs_law_right (k:Nat):Fs (k+1) 18=run 1 8 (m_law_right (Fs k)):=rfl
theorem Fs_law_refused (k:Nat):Fs (k+1) 19=run 2 4 (m_law_refused (Fs k)):=rfl
theorem Fs_law (k:Nat):Fs (k+1) 20=run 1 11 (m_law (Fs k)):=rfl
end
end K05
namespace K05
open PySem PySem.Spec PyProof.Rows L2 L3
def topS (i:Nat):Stmt:=PySem.Challenge.pw_holepatterns_k05_names_free_and_asked.main.body.getD i (.Pass ⟨0,0,0,0⟩)
abbrev s_is_whole:Stmt:=topS 9
abbrev N_is_whole:List Str:= ["thing"]
theorem sc_is_whole:FnScope N_is_whole ["thing"] (defScope s_is_whole):=⟨rfl,rfl,rfl,by decide +kernel,rfl,by decide +kernel,by decide +kernel⟩
abbrev s_is_number:Stmt:=topS 10
abbrev N_is_number:List Str:= ["thing","low","high"]
theorem sc_is_number:FnScope N_is_number ["thing","low","high"] (defScope s_is_number):=⟨rfl,rfl,rfl,by decide +kernel,rfl,by decide +kernel,by decide +kernel⟩
abbrev s_at:Stmt:=topS 12
abbrev N_at:List Str:= ["program","place","thing","number"]
theorem sc_at:FnScope N_at ["program","place"] (defScope s_at):=⟨rfl,rfl,rfl,by decide +kernel,rfl,by decide +kernel,by decide +kernel⟩
abbrev s_is_within:Stmt:=topS 13
abbrev N_is_within:List Str:= ["place","outer"]
theorem sc_is_within:FnScope N_is_within ["place","outer"] (defScope s_is_within):=⟨rfl,rfl,rfl,by decide +kernel,rfl,by decide +kernel,by decide +kernel⟩
abbrev s_Scopes___init__:Stmt:=inClass (topS 17) 0
abbrev N_Scopes___init__:List Str:= ["self","program","waiting","place","thing","known","word","mark","parts","number","part","inner","giver","name"]
theorem sc_Scopes___init__:FnScope N_Scopes___init__ ["self","program"] (defScope s_Scopes___init__):=⟨rfl,rfl,rfl,by decide +kernel,rfl,by decide +kernel,by decide +kernel⟩
abbrev s_Scopes_asked:Stmt:=inClass (topS 17) 1
abbrev N_Scopes_asked:List Str:= ["self","outer","giver","place"]
theorem sc_Scopes_asked:FnScope N_Scopes_asked ["self","outer"] (defScope s_Scopes_asked):=⟨rfl,rfl,rfl,by decide +kernel,rfl,by decide +kernel,by decide +kernel⟩
abbrev s_free_in:Stmt:=topS 18
abbrev N_free_in:List Str:= ["program","scopes","giver","place"]
theorem sc_free_in:FnScope N_free_in ["program"] (defScope s_free_in):=⟨rfl,rfl,rfl,by decide +kernel,rfl,by decide +kernel,by decide +kernel⟩
abbrev s_asked_at:Stmt:=topS 19
abbrev N_asked_at:List Str:= ["program","place","scopes"]
theorem sc_asked_at:FnScope N_asked_at ["program","place"] (defScope s_asked_at):=⟨rfl,rfl,rfl,by decide +kernel,rfl,by decide +kernel,by decide +kernel⟩
abbrev s_law_hand:Stmt:=topS 21
abbrev N_law_hand:List Str:= ["_law_script","_law_k","_law_cell","_law_great"]
theorem sc_law_hand:FnScope N_law_hand ["_law_script","_law_k"] (defScope s_law_hand):=⟨rfl,rfl,rfl,by decide +kernel,rfl,by decide +kernel,by decide +kernel⟩
abbrev s_law_take:Stmt:=topS 22
abbrev N_law_take:List Str:= ["_law_hand_here","_law_many","_law_digit_here"]
theorem sc_law_take:FnScope N_law_take ["_law_hand_here","_law_many"] (defScope s_law_take):=⟨rfl,rfl,rfl,by decide +kernel,rfl,by decide +kernel,by decide +kernel⟩
abbrev s_law_pick:Stmt:=topS 23
abbrev N_law_pick:List Str:= ["_law_hand_here","_law_some"]
theorem sc_law_pick:FnScope N_law_pick ["_law_hand_here","_law_some"] (defScope s_law_pick):=⟨rfl,rfl,rfl,by decide +kernel,rfl,by decide +kernel,by decide +kernel⟩
abbrev s_law_called:Stmt:=topS 24
abbrev N_law_called:List Str:= ["_law_hand_here","_law_many","_law_letters","_law_shut","_law_first","_law_by","_law_k","_law_stem","_law_spot","_law_found","_law_n","_law_pair","_law_word"]
theorem sc_law_called:FnScope N_law_called ["_law_hand_here","_law_many"] (defScope s_law_called):=⟨rfl,rfl,rfl,by decide +kernel,rfl,by decide +kernel,by decide +kernel⟩
abbrev s_law_digit:Stmt:=topS 25
abbrev N_law_digit:List Str:= ["_law_hand_here"]
theorem sc_law_digit:FnScope N_law_digit ["_law_hand_here"] (defScope s_law_digit):=⟨rfl,rfl,rfl,by decide +kernel,rfl,by decide +kernel,by decide +kernel⟩
abbrev s_law_grown:Stmt:=topS 26
abbrev N_law_grown:List Str:= ["_law_hand_here","_law_pot","_law_scope","_law_level","_law_lot","_law_many","_law_word","_law_k","_law_given","_law_first"]
theorem sc_law_grown:FnScope N_law_grown ["_law_hand_here","_law_pot","_law_scope","_law_level"] (defScope s_law_grown):=⟨rfl,rfl,rfl,by decide +kernel,rfl,by decide +kernel,by decide +kernel⟩
abbrev s_law_code:Stmt:=topS 27
abbrev N_law_code:List Str:= ["_law_hand_here","_law_size","_law_pool"]
theorem sc_law_code:FnScope N_law_code ["_law_hand_here","_law_size"] (defScope s_law_code):=⟨rfl,rfl,rfl,by decide +kernel,rfl,by decide +kernel,by decide +kernel⟩
abbrev s_law_spots:Stmt:=topS 28
abbrev N_law_spots:List Str:= ["_law_code_here","_law_found","_law_k","_law_part","_law_spot"]
theorem sc_law_spots:FnScope N_law_spots ["_law_code_here"] (defScope s_law_spots):=⟨rfl,rfl,rfl,by decide +kernel,rfl,by decide +kernel,by decide +kernel⟩
abbrev s_law_givers:Stmt:=topS 29
abbrev N_law_givers:List Str:= ["_law_code_here","_law_found","_law_waiting","_law_spot","_law_made","_law_known","_law_word","_law_mark","_law_parts","_law_k","_law_part","_law_inner"]
theorem sc_law_givers:FnScope N_law_givers ["_law_code_here"] (defScope s_law_givers):=⟨rfl,rfl,rfl,by decide +kernel,rfl,by decide +kernel,by decide +kernel⟩
abbrev s_law_asked:Stmt:=topS 30
abbrev N_law_asked:List Str:= ["_law_own","_law_spot","_law_found","_law_there","_law_mark","_law_giver"]
theorem sc_law_asked:FnScope N_law_asked ["_law_own","_law_spot"] (defScope s_law_asked):=⟨rfl,rfl,rfl,by decide +kernel,rfl,by decide +kernel,by decide +kernel⟩
abbrev s_law_right:Stmt:=topS 31
abbrev N_law_right:List Str:= ["_law_made","_law_own","_law_spots_here","_law_free","_law_mark","_law_giver","_law_due","_law_spot"]
theorem sc_law_right:FnScope N_law_right ["_law_made"] (defScope s_law_right):=⟨rfl,rfl,rfl,by decide +kernel,rfl,by decide +kernel,by decide +kernel⟩
abbrev s_law_refused:Stmt:=topS 32
abbrev N_law_refused:List Str:= ["_law_made","_law_odd","_law_caught","e"]
theorem sc_law_refused:FnScope N_law_refused ["_law_made","_law_odd"] (defScope s_law_refused):=⟨rfl,rfl,rfl,by decide +kernel,rfl,by decide +kernel,by decide +kernel⟩
abbrev s_law:Stmt:=topS 33
abbrev N_law:List Str:= ["_law_script","_law_ahead","_law_k","_law_hand_here","_law_made","_law_kept","_law_one","_law_turn","_law_spot","_law_odds","_law_odd"]
theorem sc_law:FnScope N_law ["_law_script"] (defScope s_law):=⟨rfl,rfl,rfl,by decide +kernel,rfl,by decide +kernel,by decide +kernel⟩
abbrev s_NoPlace___init__:Stmt:=inClass (topS 4) 0
abbrev N_NoPlace___init__:List Str:= ["self","place"]
theorem sc_NoPlace___init__:FnScope N_NoPlace___init__ ["self","place"] (defScope s_NoPlace___init__):=⟨rfl,rfl,rfl,by decide +kernel,rfl,by decide +kernel,by decide +kernel⟩
structure Txt (K:PySem.W.Frag) (w:World) (mg:Str→Option Value) (fa:Nat→Addr) (fd:Nat→FuncData):Prop where
 z_abs:mg "abs" =none
 z_all:mg "all" =none
 z_bool:mg "bool" =none
 z_dict:mg "dict" =none
 z_enumerate:mg "enumerate" =none
 z_int:mg "int" =none
 z_isinstance:mg "isinstance" =none
 z_len:mg "len" =none
 z_list:mg "list" =none
 z_max:mg "max" =none
 z_min:mg "min" =none
 z_range:mg "range" =none
 z_repr:mg "repr" =none
 z_sorted:mg "sorted" =none
 z_tuple:mg "tuple" =none
 c_GIVERS:GRep ⟨K,w,mg⟩ "GIVERS" c_GIVERS
 c_NAME:GRep ⟨K,w,mg⟩ "NAME" c_NAME
 g_is_whole:mg "is_whole" =some (.ref (fa 0))
 F_is_whole:FunD K "is_whole" "is_whole" (defArgs s_is_whole) (defBody s_is_whole) (defScope s_is_whole) [] [] (fa 0) (fd 0)
 g_is_number:mg "is_number" =some (.ref (fa 1))
 F_is_number:FunD K "is_number" "is_number" (defArgs s_is_number) (defBody s_is_number) (defScope s_is_number) [] [("low", .int 0),("high", .int 9972)] (fa 1) (fd 1)
 g_at:mg "at" =some (.ref (fa 2))
 F_at:FunD K "at" "at" (defArgs s_at) (defBody s_at) (defScope s_at) [] [] (fa 2) (fd 2)
 g_is_within:mg "is_within" =some (.ref (fa 3))
 F_is_within:FunD K "is_within" "is_within" (defArgs s_is_within) (defBody s_is_within) (defScope s_is_within) [] [] (fa 3) (fd 3)
 F_Scopes___init__:FunD K "__init__" "Scopes.__init__" (defArgs s_Scopes___init__) (defBody s_Scopes___init__) (defScope s_Scopes___init__) [] [] (fa 4) (fd 4)
 F_Scopes_asked:FunD K "asked" "Scopes.asked" (defArgs s_Scopes_asked) (defBody s_Scopes_asked) (defScope s_Scopes_asked) [] [] (fa 5) (fd 5)
 g_free_in:mg "free_in" =some (.ref (fa 6))
 F_free_in:FunD K "free_in" "free_in" (defArgs s_free_in) (defBody s_free_in) (defScope s_free_in) [] [] (fa 6) (fd 6)
 g_asked_at:mg "asked_at" =some (.ref (fa 7))
 F_asked_at:FunD K "asked_at" "asked_at" (defArgs s_asked_at) (defBody s_asked_at) (defScope s_asked_at) [] [] (fa 7) (fd 7)
 g_law_hand:mg "_law_hand" =some (.ref (fa 8))
 F_law_hand:FunD K "_law_hand" "_law_hand" (defArgs s_law_hand) (defBody s_law_hand) (defScope s_law_hand) [] [] (fa 8) (fd 8)
 g_law_take:mg "_law_take" =some (.ref (fa 9))
 F_law_take:FunD K "_law_take" "_law_take" (defArgs s_law_take) (defBody s_law_take) (defScope s_law_take) [] [] (fa 9) (fd 9)
 g_law_pick:mg "_law_pick" =some (.ref (fa 10))
 F_law_pick:FunD K "_law_pick" "_law_pick" (defArgs s_law_pick) (defBody s_law_pick) (defScope s_law_pick) [] [] (fa 10) (fd 10)
 g_law_called:mg "_law_called" =some (.ref (fa 11))
 F_law_called:FunD K "_law_called" "_law_called" (defArgs s_law_called) (defBody s_law_called) (defScope s_law_called) [] [] (fa 11) (fd 11)
 g_law_digit:mg "_law_digit" =some (.ref (fa 12))
 F_law_digit:FunD K "_law_digit" "_law_digit" (defArgs s_law_digit) (defBody s_law_digit) (defScope s_law_digit) [] [] (fa 12) (fd 12)
 g_law_grown:mg "_law_grown" =some (.ref (fa 13))
 F_law_grown:FunD K "_law_grown" "_law_grown" (defArgs s_law_grown) (defBody s_law_grown) (defScope s_law_grown) [] [] (fa 13) (fd 13)
 g_law_code:mg "_law_code" =some (.ref (fa 14))
 F_law_code:FunD K "_law_code" "_law_code" (defArgs s_law_code) (defBody s_law_code) (defScope s_law_code) [] [] (fa 14) (fd 14)
 g_law_spots:mg "_law_spots" =some (.ref (fa 15))
 F_law_spots:FunD K "_law_spots" "_law_spots" (defArgs s_law_spots) (defBody s_law_spots) (defScope s_law_spots) [] [] (fa 15) (fd 15)
 g_law_givers:mg "_law_givers" =some (.ref (fa 16))
 F_law_givers:FunD K "_law_givers" "_law_givers" (defArgs s_law_givers) (defBody s_law_givers) (defScope s_law_givers) [] [] (fa 16) (fd 16)
 g_law_asked:mg "_law_asked" =some (.ref (fa 17))
 F_law_asked:FunD K "_law_asked" "_law_asked" (defArgs s_law_asked) (defBody s_law_asked) (defScope s_law_asked) [] [] (fa 17) (fd 17)
 g_law_right:mg "_law_right" =some (.ref (fa 18))
 F_law_right:FunD K "_law_right" "_law_right" (defArgs s_law_right) (defBody s_law_right) (defScope s_law_right) [] [] (fa 18) (fd 18)
 g_law_refused:mg "_law_refused" =some (.ref (fa 19))
 F_law_refused:FunD K "_law_refused" "_law_refused" (defArgs s_law_refused) (defBody s_law_refused) (defScope s_law_refused) [] [] (fa 19) (fd 19)
 g_law:mg "law" =some (.ref (fa 20))
 F_law:FunD K "law" "law" (defArgs s_law) (defBody s_law) (defScope s_law) [] [] (fa 20) (fd 20)
 ca_Scopes:mg "Scopes" =some (.ref (fa 21))
 mk_Scopes___init__:Mk K (fa 21) (fa 4)
 mt_Scopes_asked:∃C,mg "Scopes" =some (.ref C)∧Cls K C∧Meth K C "asked" (fa 5)
 ca_Halted:mg "Halted" =some (.ref (fa 24))
 ca_Missing:mg "Missing" =some (.ref (fa 23))
 ca_NoName:mg "NoName" =some (.ref (fa 26))
 ca_NoNumber:mg "NoNumber" =some (.ref (fa 27))
 ca_NoPlace:mg "NoPlace" =some (.ref (fa 25))
 ca_Refused:mg "Refused" =some (.ref (fa 22))
 xd_Halted:XcD K (fa 24)
 xd_Missing:XcD K (fa 23)
 xd_NoName:XcD K (fa 26)
 xd_NoNumber:XcD K (fa 27)
 xd_NoPlace:XcD K (fa 25)
 xd_Refused:XcD K (fa 22)
 xi_NoPlace:XcI K (fa 25)
 xs_NoPlace__Halted:PySem.W.subIn K (.ref (fa 25)) (.ref (fa 24))=some false
 xs_NoPlace__Missing:PySem.W.subIn K (.ref (fa 25)) (.ref (fa 23))=some true
 xs_NoPlace__NoName:PySem.W.subIn K (.ref (fa 25)) (.ref (fa 26))=some false
 xs_NoPlace__NoNumber:PySem.W.subIn K (.ref (fa 25)) (.ref (fa 27))=some false
 xs_NoPlace__NoPlace:PySem.W.subIn K (.ref (fa 25)) (.ref (fa 25))=some true
 xs_NoPlace__Refused:PySem.W.subIn K (.ref (fa 25)) (.ref (fa 22))=some false
 xn_NoPlace:PySem.W.findIn K (.ref (fa 25)) "place" =some none
 xo_NoPlace:∃B n i bm,Oxc K (fa 25) B n i bm
 xc_NoPlace:PySem.W.findIn K (.ref (fa 25)) "__init__" =some (some (.ref (fa 31)))
 xt_NoPlace:PySem.W.typeIn K (.ref (fa 31))=some (.type "function")
 F_NoPlace___init__:FunD K "__init__" "NoPlace.__init__" (defArgs s_NoPlace___init__) (defBody s_NoPlace___init__) (defScope s_NoPlace___init__) [] [] (fa 31) (fd 31)
 fo_givers:FldOk ⟨K,w,mg⟩ ["Scopes"] "givers"
 fo_names:FldOk ⟨K,w,mg⟩ ["Scopes"] "names"
section
variable {P:Program} {K:PySem.W.Frag} {w:World} {mg:Str→Option Value} {base:Heap} {fa:Nat→Addr} {fd:Nat→FuncData}
theorem Txt.bnd_is_whole (T:Txt K w mg fa fd):Bnd ⟨K,w,mg⟩ (fd 0) ["thing"] [] :=bnd0 (T.F_is_whole.bindsN fun _ _ _ _ _ _ us hl=>match us,hl with| [_],_=>rfl)
theorem Txt.bnd_at (T:Txt K w mg fa fd):Bnd ⟨K,w,mg⟩ (fd 2) ["program","place"] [] :=bnd0 (T.F_at.bindsN fun _ _ _ _ _ _ us hl=>match us,hl with| [_,_],_=>rfl)
theorem Txt.bnd_is_within (T:Txt K w mg fa fd):Bnd ⟨K,w,mg⟩ (fd 3) ["place","outer"] [] :=bnd0 (T.F_is_within.bindsN fun _ _ _ _ _ _ us hl=>match us,hl with| [_,_],_=>rfl)
theorem Txt.bnd_Scopes___init__ (T:Txt K w mg fa fd):Bnd ⟨K,w,mg⟩ (fd 4) ["self","program"] [] :=bnd0 (T.F_Scopes___init__.bindsN fun _ _ _ _ _ _ us hl=>match us,hl with| [_,_],_=>rfl)
theorem Txt.bnd_Scopes_asked (T:Txt K w mg fa fd):Bnd ⟨K,w,mg⟩ (fd 5) ["self","outer"] [] :=bnd0 (T.F_Scopes_asked.bindsN fun _ _ _ _ _ _ us hl=>match us,hl with| [_,_],_=>rfl)
theorem Txt.bnd_free_in (T:Txt K w mg fa fd):Bnd ⟨K,w,mg⟩ (fd 6) ["program"] [] :=bnd0 (T.F_free_in.bindsN fun _ _ _ _ _ _ us hl=>match us,hl with| [_],_=>rfl)
theorem Txt.bnd_asked_at (T:Txt K w mg fa fd):Bnd ⟨K,w,mg⟩ (fd 7) ["program","place"] [] :=bnd0 (T.F_asked_at.bindsN fun _ _ _ _ _ _ us hl=>match us,hl with| [_,_],_=>rfl)
theorem Txt.bnd_law_hand (T:Txt K w mg fa fd):Bnd ⟨K,w,mg⟩ (fd 8) ["_law_script","_law_k"] [] :=bnd0 (T.F_law_hand.bindsN fun _ _ _ _ _ _ us hl=>match us,hl with| [_,_],_=>rfl)
theorem Txt.bnd_law_take (T:Txt K w mg fa fd):Bnd ⟨K,w,mg⟩ (fd 9) ["_law_hand_here","_law_many"] [] :=bnd0 (T.F_law_take.bindsN fun _ _ _ _ _ _ us hl=>match us,hl with| [_,_],_=>rfl)
theorem Txt.bnd_law_pick (T:Txt K w mg fa fd):Bnd ⟨K,w,mg⟩ (fd 10) ["_law_hand_here","_law_some"] [] :=bnd0 (T.F_law_pick.bindsN fun _ _ _ _ _ _ us hl=>match us,hl with| [_,_],_=>rfl)
theorem Txt.bnd_law_called (T:Txt K w mg fa fd):Bnd ⟨K,w,mg⟩ (fd 11) ["_law_hand_here","_law_many"] [] :=bnd0 (T.F_law_called.bindsN fun _ _ _ _ _ _ us hl=>match us,hl with| [_,_],_=>rfl)
theorem Txt.bnd_law_digit (T:Txt K w mg fa fd):Bnd ⟨K,w,mg⟩ (fd 12) ["_law_hand_here"] [] :=bnd0 (T.F_law_digit.bindsN fun _ _ _ _ _ _ us hl=>match us,hl with| [_],_=>rfl)
theorem Txt.bnd_law_grown (T:Txt K w mg fa fd):Bnd ⟨K,w,mg⟩ (fd 13) ["_law_hand_here","_law_pot","_law_scope","_law_level"] [] :=bnd0 (T.F_law_grown.bindsN fun _ _ _ _ _ _ us hl=>match us,hl with| [_,_,_,_],_=>rfl)
theorem Txt.bnd_law_code (T:Txt K w mg fa fd):Bnd ⟨K,w,mg⟩ (fd 14) ["_law_hand_here","_law_size"] [] :=bnd0 (T.F_law_code.bindsN fun _ _ _ _ _ _ us hl=>match us,hl with| [_,_],_=>rfl)
theorem Txt.bnd_law_spots (T:Txt K w mg fa fd):Bnd ⟨K,w,mg⟩ (fd 15) ["_law_code_here"] [] :=bnd0 (T.F_law_spots.bindsN fun _ _ _ _ _ _ us hl=>match us,hl with| [_],_=>rfl)
theorem Txt.bnd_law_givers (T:Txt K w mg fa fd):Bnd ⟨K,w,mg⟩ (fd 16) ["_law_code_here"] [] :=bnd0 (T.F_law_givers.bindsN fun _ _ _ _ _ _ us hl=>match us,hl with| [_],_=>rfl)
theorem Txt.bnd_law_asked (T:Txt K w mg fa fd):Bnd ⟨K,w,mg⟩ (fd 17) ["_law_own","_law_spot"] [] :=bnd0 (T.F_law_asked.bindsN fun _ _ _ _ _ _ us hl=>match us,hl with| [_,_],_=>rfl)
theorem Txt.bnd_law_right (T:Txt K w mg fa fd):Bnd ⟨K,w,mg⟩ (fd 18) ["_law_made"] [] :=bnd0 (T.F_law_right.bindsN fun _ _ _ _ _ _ us hl=>match us,hl with| [_],_=>rfl)
theorem Txt.bnd_law_refused (T:Txt K w mg fa fd):Bnd ⟨K,w,mg⟩ (fd 19) ["_law_made","_law_odd"] [] :=bnd0 (T.F_law_refused.bindsN fun _ _ _ _ _ _ us hl=>match us,hl with| [_,_],_=>rfl)
theorem Txt.kbd_asked_at_0_place_program (T:Txt K w mg fa fd):Kbd ⟨K,w,mg⟩ (fd 7) ["program","place"] 0 ["place","program"] kbd_asked_at_0_place_program_g:=by
 obtain⟨oc,od,dV,kV,doc,pm,an,cdv,ct,osl,e,_,_,hD,_⟩:=T.F_asked_at.ex
 obtain rfl:dV= .none:=hD.elim (fun h=>h.2) fun h=>absurd rfl h.1
 refine kbd_of _ fun s us ws h1 h2=> ?_
 rw[e]
 match us,h1,ws,h2 with
 | [],_,[_,_],_=>exact .of_eq rfl
theorem Txt.kbd_free_in_0_program (T:Txt K w mg fa fd):Kbd ⟨K,w,mg⟩ (fd 6) ["program"] 0 ["program"] kbd_free_in_0_program_g:=by
 obtain⟨oc,od,dV,kV,doc,pm,an,cdv,ct,osl,e,_,_,hD,_⟩:=T.F_free_in.ex
 obtain rfl:dV= .none:=hD.elim (fun h=>h.2) fun h=>absurd rfl h.1
 refine kbd_of _ fun s us ws h1 h2=> ?_
 rw[e]
 match us,h1,ws,h2 with
 | [],_,[_],_=>exact .of_eq rfl
theorem Txt.kbd_is_number_1_high (T:Txt K w mg fa fd):Kbd ⟨K,w,mg⟩ (fd 1) ["thing","low","high"] 1 ["high"] kbd_is_number_1_high_g:=
 kbd3_of (G:=⟨K,w,mg⟩) T.F_is_number 1 ["high"] [("low", .int 0)] [(.int 0)] kbd_is_number_1_high_s (by simp) (by simp) (fun w=>by simp[RepL,Rep]) fun D doc pm an cdv ct us mv ws h1 h2 h3=>match us,h1,mv,h2,ws,h3 with
  | [_],_,[_],_,[_],_=>⟨_,_,_,_,_,_,rfl,rfl,rfl⟩
theorem Txt.bnd_NoPlace___init__ (T:Txt K w mg fa fd):Binds K (fd 31) ["self","place"] [] :=T.F_NoPlace___init__.bindsN fun _ _ _ _ _ _ us hl=>match us,hl with| [_,_],_=>rfl
theorem Txt.x1_NoPlace (T:Txt K w mg fa fd) (P:Program) (base:Heap):Xc1 P w ⟨K,w,mg⟩ base 1 "NoPlace" "place" (fa 25):=
 ⟨T.ca_NoPlace,T.xo_NoPlace,T.xn_NoPlace,_,_,_,T.xc_NoPlace,T.xt_NoPlace,by
   obtain⟨B,n,i,bm,ox⟩:=T.xo_NoPlace
   exact init_ok (mg:=mg) T.F_NoPlace___init__ sc_NoPlace___init__ rfl fun _ _ _ _ _ _=>pss_one (ps_sto ox T.xn_NoPlace (pv 0) (pv 1)),T.bnd_NoPlace___init__⟩
end
theorem b_is_whole {P:Program} {K:PySem.W.Frag} {w:World} {mg:Str→Option Value} {base:Heap} {fa:Nat→Addr} {fd:Nat→FuncData} {F:Nat→FN} {k:Nat} (h1:1≤k) (hM:∃o,base.get? sysModules=some o) (T:Txt K w mg fa fd) (cdv:Value) (A:Around) (outer:List Env) (s:Shared) (H:Hp) (E:XK)
 (hrM:RoomG (k+1) (A.deeper (envOfC "is_whole" (defScope s_is_whole) s.heap.objs.size (fa 0) cdv))):
 PSs (cxOf (L2.CX P w) P w K mg base N_is_whole "is_whole" (defScope s_is_whole) (fa 0) cdv A outer s H E) (defBody s_is_whole) (tS ⟨K,w,mg⟩ (m_is_whole F) (WE0 E)):=
 have hr:=hrM.mono (Nat.le_succ _)
 have hr2:RoomG 2 _:=hrM.mono (Nat.succ_le_succ h1)
 q_sone (q_ret (q_eand (q_callB (o_isi (by rfl)) c_isi (by rfl) T.z_isinstance b_isinstance (q_cons (q_var (pv 0)) (q_cons (q_ty T.z_int b_int (by rfl)) (q_nil)))) (q_eone (q_enot (q_callB (o_isi (by rfl)) c_isi (by rfl) T.z_isinstance b_isinstance (q_cons (q_var (pv 0)) (q_cons (q_ty T.z_bool b_bool (by rfl)) (q_nil))))))))
theorem b_is_number {P:Program} {K:PySem.W.Frag} {w:World} {mg:Str→Option Value} {base:Heap} {fa:Nat→Addr} {fd:Nat→FuncData} {F:Nat→FN} {k:Nat} (h1:1≤k) (hM:∃o,base.get? sysModules=some o) (T:Txt K w mg fa fd) (C_is_whole:Cal P w ⟨K,w,mg⟩ base k "is_whole" (fa 0) (fd 0) ["thing"] (F 0)) (cdv:Value) (A:Around) (outer:List Env) (s:Shared) (H:Hp) (E:XK)
 (hrM:RoomG (k+1) (A.deeper (envOfC "is_number" (defScope s_is_number) s.heap.objs.size (fa 1) cdv))):
 PSs (cxOf (L2.CX P w) P w K mg base N_is_number "is_number" (defScope s_is_number) (fa 1) cdv A outer s H E) (defBody s_is_number) (tS ⟨K,w,mg⟩ (m_is_number F) (WE0 E)):=
 have hr:=hrM.mono (Nat.le_succ _)
 have hr2:RoomG 2 _:=hrM.mono (Nat.succ_le_succ h1)
 q_sone (q_ret (q_eand (q_fn C_is_whole T.bnd_is_whole hr (by rfl) (by rfl) (by rfl) tk_body (q_cons (q_var (pv 0)) (q_nil))) (q_eone (q_chain o_le c_le o_le c_le (q_var (pv 1)) (q_var (pv 0)) (q_var (pv 2))))))
theorem b_at {P:Program} {K:PySem.W.Frag} {w:World} {mg:Str→Option Value} {base:Heap} {fa:Nat→Addr} {fd:Nat→FuncData} {F:Nat→FN} {k:Nat} (h1:1≤k) (hM:∃o,base.get? sysModules=some o) (T:Txt K w mg fa fd) (C_is_number:Cal P w ⟨K,w,mg⟩ base k "is_number" (fa 1) (fd 1) ["thing","low","high"] (F 1)) (cdv:Value) (A:Around) (outer:List Env) (s:Shared) (H:Hp) (E:XK)
 (hrM:RoomG (k+1) (A.deeper (envOfC "at" (defScope s_at) s.heap.objs.size (fa 2) cdv))):
 PSs (cxOf (L2.CX P w) P w K mg base N_at "at" (defScope s_at) (fa 2) cdv A outer s H E) (defBody s_at) (tS ⟨K,w,mg⟩ (m_at F) (WE0 E)):=
 have hr:=hrM.mono (Nat.le_succ _)
 have hr2:RoomG 2 _:=hrM.mono (Nat.succ_le_succ h1)
 q_scons (q_if (q_tnot (q_truth (by rfl) (q_callB (o_isi (by rfl)) c_isi (by rfl) T.z_isinstance b_isinstance (q_cons (q_var (pv 1)) (q_cons (q_ty T.z_tuple b_tuple (by rfl)) (q_nil)))))) (q_sone (q_raise1 (k:=1) (T.x1_NoPlace P base) hr2 (by rfl) (by rfl) (by rfl) tk_body (by rfl) (q_var (pv 1)))) (q_snil))
  (q_scons (q_set (i:=2) sc_at.nd (by rfl) (.inl (by rfl)) (q_var (pv 0)))
  (q_scons (q_for po_body (by rfl) (q_iter (by rfl) (q_var (pv 1))) (q_gname (pg_name (i:=3) sc_at.nd (by rfl) (.inl (by rfl)))) (q_scons (q_if (q_tnot (q_truth (by rfl) (q_fnK C_is_number T.kbd_is_number_1_high hr (by rfl) (by rfl) (by rfl) tk_body (q_cons (q_var (pv 3)) (q_nil)) (q_kcons (q_op o_sub c_sub (q_callB (o_len (by rfl)) c_len (by rfl) T.z_len b_len (q_cons (q_ix (o_ix (by rfl) (by rfl) (u1 hr)) c_ix (q_var (pv 2)) (q_int) (fun _ _=>rfl)) (q_nil))) (q_int)) (q_knil))))) (q_sone (q_raise1 (k:=1) (T.x1_NoPlace P base) hr2 (by rfl) (by rfl) (by rfl) tk_body (by rfl) (q_var (pv 1)))) (q_snil))
  (q_sone (q_set (i:=2) sc_at.nd (by rfl) (.inl (by rfl)) (q_ix (o_ix (by rfl) (by rfl) (u1 hr)) c_ix (q_ix (o_ix (by rfl) (by rfl) (u1 hr)) c_ix (q_var (pv 2)) (q_int) (fun _ _=>rfl)) (q_var (pv 3)) (fun _ _=>rfl))))))
  (q_sone (q_ret (q_var (pv 2))))))
theorem b_is_within {P:Program} {K:PySem.W.Frag} {w:World} {mg:Str→Option Value} {base:Heap} {fa:Nat→Addr} {fd:Nat→FuncData} {F:Nat→FN} {k:Nat} (h1:1≤k) (hM:∃o,base.get? sysModules=some o) (T:Txt K w mg fa fd) (cdv:Value) (A:Around) (outer:List Env) (s:Shared) (H:Hp) (E:XK)
 (hrM:RoomG (k+1) (A.deeper (envOfC "is_within" (defScope s_is_within) s.heap.objs.size (fa 3) cdv))):
 PSs (cxOf (L2.CX P w) P w K mg base N_is_within "is_within" (defScope s_is_within) (fa 3) cdv A outer s H E) (defBody s_is_within) (tS ⟨K,w,mg⟩ (m_is_within F) (WE0 E)):=
 have hr:=hrM.mono (Nat.le_succ _)
 have hr2:RoomG 2 _:=hrM.mono (Nat.succ_le_succ h1)
 q_sone (q_ret (q_cmp (o_eq (by rfl) hr.units) c_eq (q_slice (by rfl) (q_var (pv 0)) (q_pno) (q_pyes (q_callB (o_len (by rfl)) c_len (by rfl) T.z_len b_len (q_cons (q_var (pv 1)) (q_nil))))) (q_var (pv 1)) (nomark _)))
theorem b_Scopes___init__ {P:Program} {K:PySem.W.Frag} {w:World} {mg:Str→Option Value} {base:Heap} {fa:Nat→Addr} {fd:Nat→FuncData} {F:Nat→FN} {k:Nat} (h1:1≤k) (hM:∃o,base.get? sysModules=some o) (T:Txt K w mg fa fd) (cdv:Value) (A:Around) (outer:List Env) (s:Shared) (H:Hp) (E:XK)
 (hrM:RoomG (k+1) (A.deeper (envOfC "Scopes.__init__" (defScope s_Scopes___init__) s.heap.objs.size (fa 4) cdv))):
 PSs (cxOf (L2.CX P w) P w K mg base N_Scopes___init__ "Scopes.__init__" (defScope s_Scopes___init__) (fa 4) cdv A outer s H E) (defBody s_Scopes___init__) (tS ⟨K,w,mg⟩ (m_Scopes___init__ F) (WE0 E)):=
 have hr:=hrM.mono (Nat.le_succ _)
 have hr2:RoomG 2 _:=hrM.mono (Nat.succ_le_succ h1)
 q_scons (q_sfld (by rfl) T.fo_names (q_var (pv 0)) (q_dctT0))
  (q_scons (q_sfld (by rfl) T.fo_givers (q_var (pv 0)) (q_dctT0))
  (q_scons (q_set (i:=2) sc_Scopes___init__.nd (by rfl) (.inl (by rfl)) (q_obj (q_cons (q_tup (q_cons (q_tup (q_nil)) (q_cons (q_var (pv 1)) (q_cons (q_dic0) (q_nil))))) (q_nil))))
  (q_sone (q_while fuel po_body (q_tcmp o_gt c_gt (q_callB (o_len (by rfl)) c_len (by rfl) T.z_len b_len (q_cons (q_var (pv 2)) (q_nil))) (q_int) (nomark _)) (q_scons (q_asg (q_bm0 (by rfl) PySem.F.plainAttrs_list PySem.F.slot_list_pop PySem.F.type_list_pop o_pop c_pop (q_var (pv 2))) (q_gseq (by rfl) (by rfl) (q_gscons (pg_name (i:=3) sc_Scopes___init__.nd (by rfl) (.inl (by rfl))) (q_gscons (pg_name (i:=4) sc_Scopes___init__.nd (by rfl) (.inl (by rfl))) (q_gscons (pg_name (i:=5) sc_Scopes___init__.nd (by rfl) (.inl (by rfl))) (q_gsnil))))) (gn:=gn_seq))
  (q_scons (q_asg (q_var (pv 4)) (q_gtup (by rfl) (by rfl) (q_gscons (pg_name (i:=6) sc_Scopes___init__.nd (by rfl) (.inl (by rfl))) (q_gscons (pg_name (i:=7) sc_Scopes___init__.nd (by rfl) (.inl (by rfl))) (q_gscons (pg_name (i:=8) sc_Scopes___init__.nd (by rfl) (.inl (by rfl))) (q_gsnil))))) (gn:=gn_tup))
  (q_scons (q_if (q_tcmp (o_eq (by rfl) hr.units) c_eq (q_var (pv 6)) (q_cst T.c_NAME (by rfl) (by rfl)) (nomark _)) (q_scons (q_asg (q_var (pv 7)) (q_gsub (Wx:=WE0 E) (u1 hr) (q_fld (by rfl) T.fo_names (q_var (pv 0))) (q_var (pv 3))) (gn:=gn_sub))
  (q_sone (q_asg (q_bm (by rfl) PySem.F.plainAttrs_dict PySem.F.slot_dict_get PySem.F.type_dict_get (o_dget (u1 hr)) c_dget (q_var (pv 5)) (q_cons (q_var (pv 7)) (q_nil))) (q_gsub (Wx:=WE0 E) (u1 hr) (q_fld (by rfl) T.fo_givers (q_var (pv 0))) (q_var (pv 3))) (gn:=gn_sub)))) (q_snil))
  (q_sone (q_for po_body (by rfl) (q_enum (by rfl) (by rfl) T.z_enumerate (q_cons (q_var (pv 8)) (q_nil))) (q_gtup (by rfl) (by rfl) (q_gscons (pg_name (i:=9) sc_Scopes___init__.nd (by rfl) (.inl (by rfl))) (q_gscons (pg_name (i:=10) sc_Scopes___init__.nd (by rfl) (.inl (by rfl))) (q_gsnil)))) (q_scons (q_setCopy (i:=11) (s:=5) (a:=13) (b:=12) (own:= [("name",13),("giver",12)]) (by rfl) sc_Scopes___init__.nd (by rfl) (by rfl) (sw_trueD (by rfl) (by rfl) (by rfl) (by decide +kernel)) (pv 5) (blkOk_by (own:= [("name",13),("giver",12)]) (N:=N_Scopes___init__) (sc:=defScope s_Scopes___init__) (by decide +kernel)) (fun _ _ _ _ _=>pg_tup (by rfl) (pgs_cons (pg_name (i:=13) sc_Scopes___init__.nd (by rfl) (.inl (by rfl))) (pgs_cons (pg_name (i:=12) sc_Scopes___init__.nd (by rfl) (.inl (by rfl))) pgs_nil))) (fun _ _ _ _ _=>pv 13) (fun _ _ _ _ _=>pv 12) (by decide) (by decide) (by decide))
  (q_scons (q_if (q_tb (w_and (q_tcmp (o_in (by rfl) (by rfl) (u65 hr)) c_in (q_var (pv 6)) (q_cst T.c_GIVERS (by rfl) (by rfl)) (by rfl)) (w_and1 (q_tcmp (o_eq (by rfl) hr.units) c_eq (q_var (pv 9)) (q_int) (nomark _))))) (q_sone (q_asg (q_var (pv 3)) (q_gsub (Wx:=WE0 E) (u1 hr) (q_var (pv 11)) (q_var (pv 7))) (gn:=gn_sub))) (q_snil))
  (q_sone (q_expr (q_bm (by rfl) PySem.F.plainAttrs_list PySem.F.slot_list_append PySem.F.type_list_append o_append c_append (q_var (pv 2)) (q_cons (q_tup (q_cons (q_op (o_add (by rfl)) c_add (q_var (pv 3)) (q_tup (q_cons (q_var (pv 9)) (q_nil)))) (q_cons (q_var (pv 10)) (q_cons (q_frz (q_var (pv 11))) (q_nil))))) (q_nil))))))))))))))))
theorem b_Scopes_asked {P:Program} {K:PySem.W.Frag} {w:World} {mg:Str→Option Value} {base:Heap} {fa:Nat→Addr} {fd:Nat→FuncData} {F:Nat→FN} {k:Nat} (h1:1≤k) (hM:∃o,base.get? sysModules=some o) (T:Txt K w mg fa fd) (C_is_within:Cal P w ⟨K,w,mg⟩ base k "is_within" (fa 3) (fd 3) ["place","outer"] (F 3)) (cdv:Value) (A:Around) (outer:List Env) (s:Shared) (H:Hp) (E:XK)
 (hrM:RoomG (k+1) (A.deeper (envOfC "Scopes.asked" (defScope s_Scopes_asked) s.heap.objs.size (fa 5) cdv))):
 PSs (cxOf (L2.CX P w) P w K mg base N_Scopes_asked "Scopes.asked" (defScope s_Scopes_asked) (fa 5) cdv A outer s H E) (defBody s_Scopes_asked) (tS ⟨K,w,mg⟩ (m_Scopes_asked F) (WE0 E)):=
 have hr:=hrM.mono (Nat.le_succ _)
 have hr2:RoomG 2 _:=hrM.mono (Nat.succ_le_succ h1)
 q_sone (q_ret (q_callTy (o_tuple (by rfl)) c_tuple (by rfl) T.z_tuple b_tuple (q_cons (q_sortScL (own:= [("place",3),("giver",2)]) sel_its (by rfl) (u65 hr) (by rfl) T.z_sorted (by rfl) sc_Scopes_asked.nd (q_itemsL (q_fld (by rfl) T.fo_givers (q_var (pv 0)))) (blkOk_by (own:= [("place",3),("giver",2)]) (N:=N_Scopes_asked) (sc:=defScope s_Scopes_asked) (by decide +kernel)) (fun _ _ _ _ _=>q_gtupW (by rfl) (by rfl) (q_gscW (pg_name (i:=3) sc_Scopes_asked.nd (by rfl) (.inl (by rfl))) (q_gscW (pg_name (i:=2) sc_Scopes_asked.nd (by rfl) (.inl (by rfl))) (q_gsnW)))) (fun _ _ _ _ _=>q_tone (q_tb (w_and (q_truth (by rfl) (q_fn C_is_within T.bnd_is_within hr (by rfl) (by rfl) (by rfl) tk_blk (q_cons (q_var (pv 3)) (q_cons (q_var (pv 1)) (q_nil))))) (w_and1 (q_tb (w_or (q_tcmp o_isNon c_isNon (q_var (pv 2)) (q_non) (nomark _)) (w_or1 (q_tnot (q_truth (by rfl) (q_fn C_is_within T.bnd_is_within hr (by rfl) (by rfl) (by rfl) tk_blk (q_cons (q_var (pv 2)) (q_cons (q_var (pv 1)) (q_nil))))))))))))) (fun _ _ _ _ _=>q_tup (q_cons (q_ix (o_ix (by rfl) (by rfl) (u1 hr)) c_ix (q_fld (by rfl) T.fo_names (q_var (pv 0))) (q_var (pv 3)) (fun _ _=>rfl)) (q_cons (q_var (pv 2)) (q_nil))))) (q_nil))))
theorem b_free_in {P:Program} {K:PySem.W.Frag} {w:World} {mg:Str→Option Value} {base:Heap} {fa:Nat→Addr} {fd:Nat→FuncData} {F:Nat→FN} {k:Nat} (h1:1≤k) (hM:∃o,base.get? sysModules=some o) (T:Txt K w mg fa fd) (C_Scopes___init__:Mak P w ⟨K,w,mg⟩ base k "Scopes" (fa 21) (fa 4) (fd 4) ["self","program"] (F 4)) (cdv:Value) (A:Around) (outer:List Env) (s:Shared) (H:Hp) (E:XK)
 (hrM:RoomG (k+1) (A.deeper (envOfC "free_in" (defScope s_free_in) s.heap.objs.size (fa 6) cdv))):
 PSs (cxOf (L2.CX P w) P w K mg base N_free_in "free_in" (defScope s_free_in) (fa 6) cdv A outer s H E) (defBody s_free_in) (tS ⟨K,w,mg⟩ (m_free_in F) (WE0 E)):=
 have hr:=hrM.mono (Nat.le_succ _)
 have hr2:RoomG 2 _:=hrM.mono (Nat.succ_le_succ h1)
 q_scons (q_set (i:=1) sc_free_in.nd (by rfl) (.inr (by rfl)) (q_make C_Scopes___init__ T.bnd_Scopes___init__ hrM (by rfl) (by rfl) (by rfl) tk_body (q_cons (q_var (pv 0)) (q_nil))))
  (q_sone (q_ret (q_callTy (o_tuple (by rfl)) c_tuple (by rfl) T.z_tuple b_tuple (q_cons (q_sortScL (own:= [("place",3),("giver",2)]) sel_its (by rfl) (u65 hr) (by rfl) T.z_sorted (by rfl) sc_free_in.nd (q_itemsL (q_fld (by rfl) T.fo_givers (q_var (pv 1)))) (blkOk_by (own:= [("place",3),("giver",2)]) (N:=N_free_in) (sc:=defScope s_free_in) (by decide +kernel)) (fun _ _ _ _ _=>q_gtupW (by rfl) (by rfl) (q_gscW (pg_name (i:=3) sc_free_in.nd (by rfl) (.inl (by rfl))) (q_gscW (pg_name (i:=2) sc_free_in.nd (by rfl) (.inl (by rfl))) (q_gsnW)))) (fun _ _ _ _ _=>q_tone (q_tcmp o_isNon c_isNon (q_var (pv 2)) (q_non) (nomark _))) (fun _ _ _ _ _=>q_ix (o_ix (by rfl) (by rfl) (u1 hr)) c_ix (q_fld (by rfl) T.fo_names (q_var (pv 1))) (q_var (pv 3)) (fun _ _=>rfl))) (q_nil)))))
theorem b_asked_at {P:Program} {K:PySem.W.Frag} {w:World} {mg:Str→Option Value} {base:Heap} {fa:Nat→Addr} {fd:Nat→FuncData} {F:Nat→FN} {k:Nat} (h1:1≤k) (hM:∃o,base.get? sysModules=some o) (T:Txt K w mg fa fd) (C_Scopes___init__:Mak P w ⟨K,w,mg⟩ base k "Scopes" (fa 21) (fa 4) (fd 4) ["self","program"] (F 4)) (C_Scopes_asked:Mtd P w ⟨K,w,mg⟩ base k "Scopes" "asked" (fa 5) (fd 5) ["self","outer"] (F 5)) (C_at:Cal P w ⟨K,w,mg⟩ base k "at" (fa 2) (fd 2) ["program","place"] (F 2)) (cdv:Value) (A:Around) (outer:List Env) (s:Shared) (H:Hp) (E:XK)
 (hrM:RoomG (k+1) (A.deeper (envOfC "asked_at" (defScope s_asked_at) s.heap.objs.size (fa 7) cdv))):
 PSs (cxOf (L2.CX P w) P w K mg base N_asked_at "asked_at" (defScope s_asked_at) (fa 7) cdv A outer s H E) (defBody s_asked_at) (tS ⟨K,w,mg⟩ (m_asked_at F) (WE0 E)):=
 have hr:=hrM.mono (Nat.le_succ _)
 have hr2:RoomG 2 _:=hrM.mono (Nat.succ_le_succ h1)
 q_scons (q_expr (q_fn C_at T.bnd_at hr (by rfl) (by rfl) (by rfl) tk_body (q_cons (q_var (pv 0)) (q_cons (q_var (pv 1)) (q_nil)))))
  (q_scons (q_set (i:=2) sc_asked_at.nd (by rfl) (.inl (by rfl)) (q_make C_Scopes___init__ T.bnd_Scopes___init__ hrM (by rfl) (by rfl) (by rfl) tk_body (q_cons (q_var (pv 0)) (q_nil))))
  (q_sone (q_ret (q_meth C_Scopes_asked T.bnd_Scopes_asked hr (by rfl) (by rfl) tk_body (q_var (pv 2)) (q_cons (q_var (pv 1)) (q_nil))))))
theorem b_law_hand {P:Program} {K:PySem.W.Frag} {w:World} {mg:Str→Option Value} {base:Heap} {fa:Nat→Addr} {fd:Nat→FuncData} {F:Nat→FN} {k:Nat} (h1:1≤k) (hM:∃o,base.get? sysModules=some o) (T:Txt K w mg fa fd) (cdv:Value) (A:Around) (outer:List Env) (s:Shared) (H:Hp) (E:XK)
 (hrM:RoomG (k+1) (A.deeper (envOfC "_law_hand" (defScope s_law_hand) s.heap.objs.size (fa 8) cdv))):
 PSs (cxOf (L2.CX P w) P w K mg base N_law_hand "_law_hand" (defScope s_law_hand) (fa 8) cdv A outer s H E) (defBody s_law_hand) (tS ⟨K,w,mg⟩ (m_law_hand F) (WE0 E)):=
 have hr:=hrM.mono (Nat.le_succ _)
 have hr2:RoomG 2 _:=hrM.mono (Nat.succ_le_succ h1)
 q_scons (q_set (i:=2) sc_law_hand.nd (by rfl) (.inl (by rfl)) (q_op (o_add (by rfl)) c_add (q_op o_mul c_mul (q_int) (q_var (pv 1))) (q_callB (o_len (by rfl)) c_len (by rfl) T.z_len b_len (q_cons (q_var (pv 0)) (q_nil)))))
  (q_scons (q_if (q_tcmp o_lt c_lt (q_var (pv 1)) (q_callB (o_len (by rfl)) c_len (by rfl) T.z_len b_len (q_cons (q_var (pv 0)) (q_nil))) (nomark _)) (q_sone (q_set (i:=2) sc_law_hand.nd (by rfl) (.inl (by rfl)) (q_ix (o_ix (by rfl) (by rfl) (u1 hr)) c_ix (q_var (pv 0)) (q_var (pv 1)) (fun _ _=>rfl)))) (q_snil))
  (q_scons (q_set (i:=3) sc_law_hand.nd (by rfl) (.inl (by rfl)) (q_op o_mul c_mul (q_op o_mod c_mod (q_callB o_abs c_abs (by rfl) T.z_abs b_abs (q_cons (q_var (pv 2)) (q_nil))) (q_op o_pow c_pow (q_op o_pow c_pow (q_int) (q_int)) (q_int))) (q_callTy o_int c_int (by rfl) T.z_int b_int (q_cons (q_cmp o_ge c_ge (q_callB o_abs c_abs (by rfl) T.z_abs b_abs (q_cons (q_var (pv 2)) (q_nil))) (q_op o_pow c_pow (q_int) (q_int)) (nomark _)) (q_nil)))))
  (q_sone (q_ret (q_obj (q_cons (q_var (pv 3)) (q_cons (q_op o_mod c_mod (q_op o_mul c_mul (q_op (o_add (by rfl)) c_add (q_op (o_add (by rfl)) c_add (q_op o_mod c_mod (q_var (pv 2)) (q_int)) (q_op o_mul c_mul (q_op o_mul c_mul (q_int) (q_var (pv 1))) (q_var (pv 1)))) (q_int)) (q_int)) (q_int)) (q_nil))))))))
theorem b_law_take {P:Program} {K:PySem.W.Frag} {w:World} {mg:Str→Option Value} {base:Heap} {fa:Nat→Addr} {fd:Nat→FuncData} {F:Nat→FN} {k:Nat} (h1:1≤k) (hM:∃o,base.get? sysModules=some o) (T:Txt K w mg fa fd) (cdv:Value) (A:Around) (outer:List Env) (s:Shared) (H:Hp) (E:XK)
 (hrM:RoomG (k+1) (A.deeper (envOfC "_law_take" (defScope s_law_take) s.heap.objs.size (fa 9) cdv))):
 PSs (cxOf (L2.CX P w) P w K mg base N_law_take "_law_take" (defScope s_law_take) (fa 9) cdv A outer s H E) (defBody s_law_take) (tS ⟨K,w,mg⟩ (m_law_take F) (WE0 E)):=
 have hr:=hrM.mono (Nat.le_succ _)
 have hr2:RoomG 2 _:=hrM.mono (Nat.succ_le_succ h1)
 q_scons (q_if (q_tcmp o_gt c_gt (q_ix (o_ix (by rfl) (by rfl) (u1 hr)) c_ix (q_var (pv 0)) (q_int) (fun _ _=>rfl)) (q_int) (nomark _)) (q_scons (q_set (i:=2) sc_law_take.nd (by rfl) (.inl (by rfl)) (q_op o_mod c_mod (q_ix (o_ix (by rfl) (by rfl) (u1 hr)) c_ix (q_var (pv 0)) (q_int) (fun _ _=>rfl)) (q_var (pv 1))))
  (q_scons (q_asg (q_op o_fdiv c_fdiv (q_ix (o_ix (by rfl) (by rfl) (u1 hr)) c_ix (q_var (pv 0)) (q_int) (fun _ _=>rfl)) (q_var (pv 1))) (q_gsub (Wx:=WE0 E) (u1 hr) (q_var (pv 0)) (q_int)) (gn:=gn_sub))
  (q_sone (q_ret (q_var (pv 2)))))) (q_snil))
  (q_scons (q_asg (q_op o_mod c_mod (q_op (o_add (by rfl)) c_add (q_op o_mul c_mul (q_ix (o_ix (by rfl) (by rfl) (u1 hr)) c_ix (q_var (pv 0)) (q_int) (fun _ _=>rfl)) (q_int)) (q_int)) (q_int)) (q_gsub (Wx:=WE0 E) (u1 hr) (q_var (pv 0)) (q_int)) (gn:=gn_sub))
  (q_sone (q_ret (q_op o_mod c_mod (q_op o_fdiv c_fdiv (q_op o_mod c_mod (q_op o_mul c_mul (q_op o_fdiv c_fdiv (q_ix (o_ix (by rfl) (by rfl) (u1 hr)) c_ix (q_var (pv 0)) (q_int) (fun _ _=>rfl)) (q_int)) (q_op (o_add (by rfl)) c_add (q_op o_mod c_mod (q_ix (o_ix (by rfl) (by rfl) (u1 hr)) c_ix (q_var (pv 0)) (q_int) (fun _ _=>rfl)) (q_int)) (q_int))) (q_int)) (q_int)) (q_var (pv 1))))))
theorem b_law_pick {P:Program} {K:PySem.W.Frag} {w:World} {mg:Str→Option Value} {base:Heap} {fa:Nat→Addr} {fd:Nat→FuncData} {F:Nat→FN} {k:Nat} (h1:1≤k) (hM:∃o,base.get? sysModules=some o) (T:Txt K w mg fa fd) (C_law_take:Cal P w ⟨K,w,mg⟩ base k "_law_take" (fa 9) (fd 9) ["_law_hand_here","_law_many"] (F 9)) (cdv:Value) (A:Around) (outer:List Env) (s:Shared) (H:Hp) (E:XK)
 (hrM:RoomG (k+1) (A.deeper (envOfC "_law_pick" (defScope s_law_pick) s.heap.objs.size (fa 10) cdv))):
 PSs (cxOf (L2.CX P w) P w K mg base N_law_pick "_law_pick" (defScope s_law_pick) (fa 10) cdv A outer s H E) (defBody s_law_pick) (tS ⟨K,w,mg⟩ (m_law_pick F) (WE0 E)):=
 have hr:=hrM.mono (Nat.le_succ _)
 have hr2:RoomG 2 _:=hrM.mono (Nat.succ_le_succ h1)
 q_sone (q_ret (q_ix (o_ix (by rfl) (by rfl) (u1 hr)) c_ix (q_var (pv 1)) (q_fn C_law_take T.bnd_law_take hr (by rfl) (by rfl) (by rfl) tk_body (q_cons (q_var (pv 0)) (q_cons (q_callB (o_len (by rfl)) c_len (by rfl) T.z_len b_len (q_cons (q_var (pv 1)) (q_nil))) (q_nil)))) (fun _ _=>rfl)))
theorem b_law_called {P:Program} {K:PySem.W.Frag} {w:World} {mg:Str→Option Value} {base:Heap} {fa:Nat→Addr} {fd:Nat→FuncData} {F:Nat→FN} {k:Nat} (h1:1≤k) (hM:∃o,base.get? sysModules=some o) (T:Txt K w mg fa fd) (C_law_pick:Cal P w ⟨K,w,mg⟩ base k "_law_pick" (fa 10) (fd 10) ["_law_hand_here","_law_some"] (F 10)) (C_law_take:Cal P w ⟨K,w,mg⟩ base k "_law_take" (fa 9) (fd 9) ["_law_hand_here","_law_many"] (F 9)) (cdv:Value) (A:Around) (outer:List Env) (s:Shared) (H:Hp) (E:XK)
 (hrM:RoomG (k+1) (A.deeper (envOfC "_law_called" (defScope s_law_called) s.heap.objs.size (fa 11) cdv))):
 PSs (cxOf (L2.CX P w) P w K mg base N_law_called "_law_called" (defScope s_law_called) (fa 11) cdv A outer s H E) (defBody s_law_called) (tS ⟨K,w,mg⟩ (m_law_called F) (WE0 E)):=
 have hr:=hrM.mono (Nat.le_succ _)
 have hr2:RoomG 2 _:=hrM.mono (Nat.succ_le_succ h1)
 q_scons (q_set (i:=2) sc_law_called.nd (by rfl) (.inr (by rfl)) (q_str))
  (q_scons (q_set (i:=3) sc_law_called.nd (by rfl) (.inl (by rfl)) (q_bm (by rfl) PySem.F.plainAttrs_str PySem.F.slot_str_split PySem.F.type_str_split o_split c_split (q_str) (q_cons (q_str) (q_nil))))
  (q_scons (q_asg (q_tup (q_cons (q_fn C_law_take T.bnd_law_take hr (by rfl) (by rfl) (by rfl) tk_body (q_cons (q_var (pv 0)) (q_cons (q_int) (q_nil)))) (q_cons (q_fn C_law_pick T.bnd_law_pick hr (by rfl) (by rfl) (by rfl) tk_body (q_cons (q_var (pv 0)) (q_cons (q_lst (q_cons (q_int) (q_cons (q_int) (q_cons (q_int) (q_cons (q_int) (q_cons (q_int) (q_cons (q_int) (q_cons (q_int) (q_nil))))))))) (q_nil)))) (q_nil)))) (q_gtup (by rfl) (by rfl) (q_gscons (pg_name (i:=4) sc_law_called.nd (by rfl) (.inr (by rfl))) (q_gscons (pg_name (i:=5) sc_law_called.nd (by rfl) (.inl (by rfl))) (q_gsnil)))) (gn:=gn_tup))
  (q_scons (q_if (q_tb (w_and (q_tcmp o_lt c_lt (q_var (pv 1)) (q_int) (nomark _)) (w_and1 (q_tcmp (o_eq (by rfl) hr.units) c_eq (q_fn C_law_take T.bnd_law_take hr (by rfl) (by rfl) (by rfl) tk_body (q_cons (q_var (pv 0)) (q_cons (q_int) (q_nil)))) (q_int) (nomark _))))) (q_sone (q_ret (q_lc (own:= [("_law_k",6)]) (by rfl) sc_law_called.nd (q_range1 (by rfl) T.z_range (q_cons (q_var (pv 1)) (q_nil))) (blkOk_by (own:= [("_law_k",6)]) (N:=N_law_called) (sc:=defScope s_law_called) (by decide +kernel)) (fun _ _ _ _ _=>q_gnameW (pg_name (i:=6) sc_law_called.nd (by rfl) (.inl (by rfl))) (by decide)) (fun _ _ _ _ _=>q_tnil) (fun _ _ _ _ _=>q_ix (o_ix (by rfl) (by rfl) (u1 hr)) c_ix (q_var (pv 2)) (q_op o_mod c_mod (q_op (o_add (by rfl)) c_add (q_var (pv 4)) (q_var (pv 6))) (q_int)) (fun _ _=>rfl))))) (q_snil))
  (q_scons (q_set (i:=7) sc_law_called.nd (by rfl) (.inl (by rfl)) (q_bm (by rfl) PySem.F.plainAttrs_str PySem.F.slot_str_join PySem.F.type_str_join (o_join (by rfl)) c_join (q_str) (q_cons (q_lc (own:= [("_law_k",6)]) (by rfl) sc_law_called.nd (q_range1 (by rfl) T.z_range (q_cons (q_fn C_law_pick T.bnd_law_pick hr (by rfl) (by rfl) (by rfl) tk_body (q_cons (q_var (pv 0)) (q_cons (q_lst (q_cons (q_int) (q_cons (q_int) (q_cons (q_int) (q_cons (q_int) (q_cons (q_int) (q_nil))))))) (q_nil)))) (q_nil))) (blkOk_by (own:= [("_law_k",6)]) (N:=N_law_called) (sc:=defScope s_law_called) (by decide +kernel)) (fun _ _ _ _ _=>q_gnameW (pg_name (i:=6) sc_law_called.nd (by rfl) (.inl (by rfl))) (by decide)) (fun _ _ _ _ _=>q_tnil) (fun _ _ _ _ _=>q_fn C_law_pick T.bnd_law_pick hr (by rfl) (by rfl) (by rfl) tk_blk (q_cons (q_var (pv 0)) (q_cons (q_var (pv 2)) (q_nil))))) (q_nil))))
  (q_scons (q_par (i:=8) (j:=9) (by rfl) sc_law_called.nd (by rfl) (by rfl) (by decide) (by rfl) (by rfl) (q_cons (q_fn C_law_take T.bnd_law_take hr (by rfl) (by rfl) (by rfl) tk_body (q_cons (q_var (pv 0)) (q_cons (q_op (o_add (by rfl)) c_add (q_callB (o_len (by rfl)) c_len (by rfl) T.z_len b_len (q_cons (q_var (pv 7)) (q_nil))) (q_int)) (q_nil)))) (q_cons (q_obj (q_nil)) (q_nil))) (by rfl))
  (q_scons (q_for po_body (by rfl) (q_range1 (by rfl) T.z_range (q_cons (q_var (pv 1)) (q_nil))) (q_gname (pg_name (i:=6) sc_law_called.nd (by rfl) (.inl (by rfl)))) (q_scons (q_set (i:=10) sc_law_called.nd (by rfl) (.inl (by rfl)) (q_op o_mod c_mod (q_op (o_add (by rfl)) c_add (q_var (pv 4)) (q_op o_mul c_mul (q_var (pv 5)) (q_var (pv 6)))) (q_int)))
  (q_scons (q_set (i:=11) sc_law_called.nd (by rfl) (.inl (by rfl)) (q_op (o_add (by rfl)) c_add (q_ix (o_ix (by rfl) (by rfl) (u1 hr)) c_ix (q_var (pv 2)) (q_op o_fdiv c_fdiv (q_var (pv 10)) (q_int)) (fun _ _=>rfl)) (q_ix (o_ix (by rfl) (by rfl) (u1 hr)) c_ix (q_var (pv 2)) (q_op o_mod c_mod (q_var (pv 10)) (q_int)) (fun _ _=>rfl))))
  (q_scons (q_set (i:=12) sc_law_called.nd (by rfl) (.inl (by rfl)) (q_op (o_add (by rfl)) c_add (q_op (o_add (by rfl)) c_add (q_slice (by rfl) (q_var (pv 7)) (q_pno) (q_pyes (q_var (pv 8)))) (q_var (pv 11))) (q_slice (by rfl) (q_var (pv 7)) (q_pyes (q_var (pv 8))) (q_pno))))
  (q_sone (q_expr (q_bm (by rfl) PySem.F.plainAttrs_list PySem.F.slot_list_append PySem.F.type_list_append o_append c_append (q_var (pv 9)) (q_cons (q_op (o_add (by rfl)) c_add (q_var (pv 12)) (q_op o_mul c_mul (q_str) (q_callTy o_int c_int (by rfl) T.z_int b_int (q_cons (q_cmp (o_in (by rfl) (by rfl) (u65 hr)) c_in (q_var (pv 12)) (q_var (pv 3)) (by rfl)) (q_nil))))) (q_nil)))))))))
  (q_sone (q_ret (q_var (pv 9))))))))))
theorem b_law_digit {P:Program} {K:PySem.W.Frag} {w:World} {mg:Str→Option Value} {base:Heap} {fa:Nat→Addr} {fd:Nat→FuncData} {F:Nat→FN} {k:Nat} (h1:1≤k) (hM:∃o,base.get? sysModules=some o) (T:Txt K w mg fa fd) (C_law_pick:Cal P w ⟨K,w,mg⟩ base k "_law_pick" (fa 10) (fd 10) ["_law_hand_here","_law_some"] (F 10)) (C_law_take:Cal P w ⟨K,w,mg⟩ base k "_law_take" (fa 9) (fd 9) ["_law_hand_here","_law_many"] (F 9)) (cdv:Value) (A:Around) (outer:List Env) (s:Shared) (H:Hp) (E:XK)
 (hrM:RoomG (k+1) (A.deeper (envOfC "_law_digit" (defScope s_law_digit) s.heap.objs.size (fa 12) cdv))):
 PSs (cxOf (L2.CX P w) P w K mg base N_law_digit "_law_digit" (defScope s_law_digit) (fa 12) cdv A outer s H E) (defBody s_law_digit) (tS ⟨K,w,mg⟩ (m_law_digit F) (WE0 E)):=
 have hr:=hrM.mono (Nat.le_succ _)
 have hr2:RoomG 2 _:=hrM.mono (Nat.succ_le_succ h1)
 q_sone (q_ret (q_fn C_law_pick T.bnd_law_pick hr (by rfl) (by rfl) (by rfl) tk_body (q_cons (q_var (pv 0)) (q_cons (q_lst (q_cons (q_int) (q_cons (q_int) (q_cons (q_int) (q_cons (q_int) (q_cons (q_fn C_law_take T.bnd_law_take hr (by rfl) (by rfl) (by rfl) tk_body (q_cons (q_var (pv 0)) (q_cons (q_int) (q_nil)))) (q_cons (q_int) (q_cons (q_fn C_law_take T.bnd_law_take hr (by rfl) (by rfl) (by rfl) tk_body (q_cons (q_var (pv 0)) (q_cons (q_int) (q_nil)))) (q_nil))))))))) (q_nil)))))
theorem b_law_grown {P:Program} {K:PySem.W.Frag} {w:World} {mg:Str→Option Value} {base:Heap} {fa:Nat→Addr} {fd:Nat→FuncData} {F:Nat→FN} {k:Nat} (h1:1≤k) (hM:∃o,base.get? sysModules=some o) (T:Txt K w mg fa fd) (C_law_digit:Cal P w ⟨K,w,mg⟩ base k "_law_digit" (fa 12) (fd 12) ["_law_hand_here"] (F 12)) (C_law_grown:Cal P w ⟨K,w,mg⟩ base k "_law_grown" (fa 13) (fd 13) ["_law_hand_here","_law_pot","_law_scope","_law_level"] (F 13)) (C_law_pick:Cal P w ⟨K,w,mg⟩ base k "_law_pick" (fa 10) (fd 10) ["_law_hand_here","_law_some"] (F 10)) (C_law_take:Cal P w ⟨K,w,mg⟩ base k "_law_take" (fa 9) (fd 9) ["_law_hand_here","_law_many"] (F 9)) (cdv:Value) (A:Around) (outer:List Env) (s:Shared) (H:Hp) (E:XK)
 (hrM:RoomG (k+1) (A.deeper (envOfC "_law_grown" (defScope s_law_grown) s.heap.objs.size (fa 13) cdv))):
 PSs (cxOf (L2.CX P w) P w K mg base N_law_grown "_law_grown" (defScope s_law_grown) (fa 13) cdv A outer s H E) (defBody s_law_grown) (tS ⟨K,w,mg⟩ (m_law_grown F) (WE0 E)):=
 have hr:=hrM.mono (Nat.le_succ _)
 have hr2:RoomG 2 _:=hrM.mono (Nat.succ_le_succ h1)
 q_scons (q_asg (q_op o_sub c_sub (q_ix (o_ix (by rfl) (by rfl) (u1 hr)) c_ix (q_var (pv 1)) (q_str) (fun _ _=>rfl)) (q_int)) (q_gsub (Wx:=WE0 E) (u1 hr) (q_var (pv 1)) (q_str)) (gn:=gn_sub))
  (q_scons (q_if (q_tb (w_or (q_tcmp (o_eq (by rfl) hr.units) c_eq (q_var (pv 3)) (q_int) (nomark _)) (w_or1 (q_tcmp o_lt c_lt (q_ix (o_ix (by rfl) (by rfl) (u1 hr)) c_ix (q_var (pv 1)) (q_str) (fun _ _=>rfl)) (q_int) (nomark _))))) (q_scons (q_if (q_tcmp o_lt c_lt (q_fn C_law_take T.bnd_law_take hr (by rfl) (by rfl) (by rfl) tk_body (q_cons (q_var (pv 0)) (q_cons (q_int) (q_nil)))) (q_int) (nomark _)) (q_sone (q_ret (q_tup (q_cons (q_str) (q_cons (q_fn C_law_pick T.bnd_law_pick hr (by rfl) (by rfl) (by rfl) tk_body (q_cons (q_var (pv 0)) (q_cons (q_op (o_add (by rfl)) c_add (q_op (o_add (by rfl)) c_add (q_slice (by rfl) (q_var (pv 2)) (q_pyes (q_un o_neg c_neg (q_int))) (q_pno)) (q_slice (by rfl) (q_var (pv 2)) (q_pyes (q_un o_neg c_neg (q_int))) (q_pno))) (q_ix (o_ix (by rfl) (by rfl) (u1 hr)) c_ix (q_var (pv 1)) (q_str) (fun _ _=>rfl))) (q_nil)))) (q_cons (q_tup (q_nil)) (q_nil))))))) (q_snil))
  (q_sone (q_ret (q_tup (q_cons (q_str) (q_cons (q_fn C_law_digit T.bnd_law_digit hr (by rfl) (by rfl) (by rfl) tk_body (q_cons (q_var (pv 0)) (q_nil))) (q_cons (q_tup (q_nil)) (q_nil)))))))) (q_snil))
  (q_scons (q_par (i:=4) (j:=5) (by rfl) sc_law_grown.nd (by rfl) (by rfl) (by decide) (by rfl) (by rfl) (q_cons (q_fn C_law_take T.bnd_law_take hr (by rfl) (by rfl) (by rfl) tk_body (q_cons (q_var (pv 0)) (q_cons (q_int) (q_nil)))) (q_cons (q_fn C_law_pick T.bnd_law_pick hr (by rfl) (by rfl) (by rfl) tk_body (q_cons (q_var (pv 0)) (q_cons (q_lst (q_cons (q_int) (q_cons (q_int) (q_cons (q_int) (q_cons (q_int) (q_cons (q_int) (q_nil))))))) (q_nil)))) (q_nil))) (by rfl))
  (q_scons (q_if (q_tcmp o_lt c_lt (q_var (pv 4)) (q_int) (nomark _)) (q_scons (q_set (i:=6) sc_law_grown.nd (by rfl) (.inl (by rfl)) (q_ix (o_ix (by rfl) (by rfl) (u1 hr)) c_ix (q_lst (q_cons (q_str) (q_cons (q_str) (q_cons (q_str) (q_cons (q_str) (q_nil)))))) (q_var (pv 4)) (fun _ _=>rfl)))
  (q_sone (q_ret (q_tup (q_cons (q_var (pv 6)) (q_cons (q_str) (q_cons (q_callTy (o_tuple (by rfl)) c_tuple (by rfl) T.z_tuple b_tuple (q_cons (q_lc (own:= [("_law_k",7)]) (by rfl) sc_law_grown.nd (q_range1 (by rfl) T.z_range (q_cons (q_var (pv 5)) (q_nil))) (blkOk_by (own:= [("_law_k",7)]) (N:=N_law_grown) (sc:=defScope s_law_grown) (by decide +kernel)) (fun _ _ _ _ _=>q_gnameW (pg_name (i:=7) sc_law_grown.nd (by rfl) (.inl (by rfl))) (by decide)) (fun _ _ _ _ _=>q_tnil) (fun _ _ _ _ _=>q_fn C_law_grown T.bnd_law_grown hr (by rfl) (by rfl) (by rfl) tk_blk (q_cons (q_var (pv 0)) (q_cons (q_var (pv 1)) (q_cons (q_var (pv 2)) (q_cons (q_op o_sub c_sub (q_var (pv 3)) (q_int)) (q_nil))))))) (q_nil))) (q_nil)))))))) (q_snil))
  (q_scons (q_if (q_tcmp o_lt c_lt (q_var (pv 4)) (q_int) (nomark _)) (q_scons (q_set (i:=5) sc_law_grown.nd (by rfl) (.inl (by rfl)) (q_fn C_law_pick T.bnd_law_pick hr (by rfl) (by rfl) (by rfl) tk_body (q_cons (q_var (pv 0)) (q_cons (q_lst (q_cons (q_var (pv 5)) (q_cons (q_int) (q_cons (q_int) (q_cons (q_int) (q_cons (q_int) (q_nil))))))) (q_nil)))))
  (q_sone (q_ret (q_tup (q_cons (q_str) (q_cons (q_str) (q_cons (q_callTy (o_tuple (by rfl)) c_tuple (by rfl) T.z_tuple b_tuple (q_cons (q_lc (own:= [("_law_k",7)]) (by rfl) sc_law_grown.nd (q_range1 (by rfl) T.z_range (q_cons (q_var (pv 5)) (q_nil))) (blkOk_by (own:= [("_law_k",7)]) (N:=N_law_grown) (sc:=defScope s_law_grown) (by decide +kernel)) (fun _ _ _ _ _=>q_gnameW (pg_name (i:=7) sc_law_grown.nd (by rfl) (.inl (by rfl))) (by decide)) (fun _ _ _ _ _=>q_tnil) (fun _ _ _ _ _=>q_fn C_law_grown T.bnd_law_grown hr (by rfl) (by rfl) (by rfl) tk_blk (q_cons (q_var (pv 0)) (q_cons (q_var (pv 1)) (q_cons (q_var (pv 2)) (q_cons (q_op o_sub c_sub (q_var (pv 3)) (q_int)) (q_nil))))))) (q_nil))) (q_nil)))))))) (q_snil))
  (q_scons (q_if (q_tcmp o_lt c_lt (q_var (pv 4)) (q_int) (nomark _)) (q_scons (q_set (i:=6) sc_law_grown.nd (by rfl) (.inl (by rfl)) (q_ix (o_ix (by rfl) (by rfl) (u1 hr)) c_ix (q_lst (q_cons (q_str) (q_cons (q_str) (q_cons (q_str) (q_nil))))) (q_op o_sub c_sub (q_var (pv 4)) (q_int)) (fun _ _=>rfl)))
  (q_scons (q_par (i:=8) (j:=9) (by rfl) sc_law_grown.nd (by rfl) (by rfl) (by decide) (by rfl) (by rfl) (q_cons (q_fn C_law_pick T.bnd_law_pick hr (by rfl) (by rfl) (by rfl) tk_body (q_cons (q_var (pv 0)) (q_cons (q_ix (o_ix (by rfl) (by rfl) (u1 hr)) c_ix (q_var (pv 1)) (q_str) (fun _ _=>rfl)) (q_nil)))) (q_cons (q_fn C_law_grown T.bnd_law_grown hr (by rfl) (by rfl) (by rfl) tk_body (q_cons (q_var (pv 0)) (q_cons (q_var (pv 1)) (q_cons (q_var (pv 2)) (q_cons (q_op o_sub c_sub (q_var (pv 3)) (q_int)) (q_nil)))))) (q_nil))) (by rfl))
  (q_sone (q_ret (q_tup (q_cons (q_var (pv 6)) (q_cons (q_var (pv 8)) (q_cons (q_tup (q_cons (q_var (pv 9)) (q_cons (q_fn C_law_grown T.bnd_law_grown hr (by rfl) (by rfl) (by rfl) tk_body (q_cons (q_var (pv 0)) (q_cons (q_var (pv 1)) (q_cons (q_op (o_add (by rfl)) c_add (q_var (pv 2)) (q_lst (q_cons (q_var (pv 8)) (q_nil)))) (q_cons (q_op o_sub c_sub (q_var (pv 3)) (q_int)) (q_nil)))))) (q_nil)))) (q_nil))))))))) (q_snil))
  (q_scons (q_set (i:=6) sc_law_grown.nd (by rfl) (.inl (by rfl)) (q_ix (o_ix (by rfl) (by rfl) (u1 hr)) c_ix (q_lst (q_cons (q_str) (q_cons (q_fn C_law_pick T.bnd_law_pick hr (by rfl) (by rfl) (by rfl) tk_body (q_cons (q_var (pv 0)) (q_cons (q_lst (q_cons (q_str) (q_cons (q_str) (q_nil)))) (q_nil)))) (q_cons (q_str) (q_nil))))) (q_op o_sub c_sub (q_var (pv 4)) (q_int)) (fun _ _=>rfl)))
  (q_sone (q_ret (q_tup (q_cons (q_var (pv 6)) (q_cons (q_str) (q_cons (q_callTy (o_tuple (by rfl)) c_tuple (by rfl) T.z_tuple b_tuple (q_cons (q_lc (own:= [("_law_k",7)]) (by rfl) sc_law_grown.nd (q_range1 (by rfl) T.z_range (q_cons (q_op o_sub c_sub (q_var (pv 4)) (q_int)) (q_nil))) (blkOk_by (own:= [("_law_k",7)]) (N:=N_law_grown) (sc:=defScope s_law_grown) (by decide +kernel)) (fun _ _ _ _ _=>q_gnameW (pg_name (i:=7) sc_law_grown.nd (by rfl) (.inl (by rfl))) (by decide)) (fun _ _ _ _ _=>q_tnil) (fun _ _ _ _ _=>q_fn C_law_grown T.bnd_law_grown hr (by rfl) (by rfl) (by rfl) tk_blk (q_cons (q_var (pv 0)) (q_cons (q_var (pv 1)) (q_cons (q_var (pv 2)) (q_cons (q_op o_sub c_sub (q_var (pv 3)) (q_int)) (q_nil))))))) (q_nil))) (q_nil)))))))))))))
theorem b_law_code {P:Program} {K:PySem.W.Frag} {w:World} {mg:Str→Option Value} {base:Heap} {fa:Nat→Addr} {fd:Nat→FuncData} {F:Nat→FN} {k:Nat} (h1:1≤k) (hM:∃o,base.get? sysModules=some o) (T:Txt K w mg fa fd) (C_law_called:Cal P w ⟨K,w,mg⟩ base k "_law_called" (fa 11) (fd 11) ["_law_hand_here","_law_many"] (F 11)) (C_law_grown:Cal P w ⟨K,w,mg⟩ base k "_law_grown" (fa 13) (fd 13) ["_law_hand_here","_law_pot","_law_scope","_law_level"] (F 13)) (C_law_take:Cal P w ⟨K,w,mg⟩ base k "_law_take" (fa 9) (fd 9) ["_law_hand_here","_law_many"] (F 9)) (cdv:Value) (A:Around) (outer:List Env) (s:Shared) (H:Hp) (E:XK)
 (hrM:RoomG (k+1) (A.deeper (envOfC "_law_code" (defScope s_law_code) s.heap.objs.size (fa 14) cdv))):
 PSs (cxOf (L2.CX P w) P w K mg base N_law_code "_law_code" (defScope s_law_code) (fa 14) cdv A outer s H E) (defBody s_law_code) (tS ⟨K,w,mg⟩ (m_law_code F) (WE0 E)):=
 have hr:=hrM.mono (Nat.le_succ _)
 have hr2:RoomG 2 _:=hrM.mono (Nat.succ_le_succ h1)
 q_scons (q_set (i:=2) sc_law_code.nd (by rfl) (.inl (by rfl)) (q_fn C_law_called T.bnd_law_called hr (by rfl) (by rfl) (by rfl) tk_body (q_cons (q_var (pv 0)) (q_cons (q_op (o_add (by rfl)) c_add (q_int) (q_fn C_law_take T.bnd_law_take hr (by rfl) (by rfl) (by rfl) tk_body (q_cons (q_var (pv 0)) (q_cons (q_int) (q_nil))))) (q_nil)))))
  (q_sone (q_ret (q_fn C_law_grown T.bnd_law_grown hr (by rfl) (by rfl) (by rfl) tk_body (q_cons (q_var (pv 0)) (q_cons (q_dct (q_pcons (q_str) (q_var (pv 1)) (q_pcons (q_str) (q_var (pv 2)) (q_pnil))) rfl rfl (by simp) (by decide)) (q_cons (q_lst (q_nil)) (q_cons (q_op (o_add (by rfl)) c_add (q_int) (q_fn C_law_take T.bnd_law_take hr (by rfl) (by rfl) (by rfl) tk_body (q_cons (q_var (pv 0)) (q_cons (q_int) (q_nil))))) (q_nil))))))))
theorem b_law_spots {P:Program} {K:PySem.W.Frag} {w:World} {mg:Str→Option Value} {base:Heap} {fa:Nat→Addr} {fd:Nat→FuncData} {F:Nat→FN} {k:Nat} (h1:1≤k) (hM:∃o,base.get? sysModules=some o) (T:Txt K w mg fa fd) (C_law_spots:Cal P w ⟨K,w,mg⟩ base k "_law_spots" (fa 15) (fd 15) ["_law_code_here"] (F 15)) (cdv:Value) (A:Around) (outer:List Env) (s:Shared) (H:Hp) (E:XK)
 (hrM:RoomG (k+1) (A.deeper (envOfC "_law_spots" (defScope s_law_spots) s.heap.objs.size (fa 15) cdv))):
 PSs (cxOf (L2.CX P w) P w K mg base N_law_spots "_law_spots" (defScope s_law_spots) (fa 15) cdv A outer s H E) (defBody s_law_spots) (tS ⟨K,w,mg⟩ (m_law_spots F) (WE0 E)):=
 have hr:=hrM.mono (Nat.le_succ _)
 have hr2:RoomG 2 _:=hrM.mono (Nat.succ_le_succ h1)
 q_scons (q_set (i:=1) sc_law_spots.nd (by rfl) (.inl (by rfl)) (q_obj (q_cons (q_tup (q_nil)) (q_nil))))
  (q_scons (q_for po_body (by rfl) (q_enum (by rfl) (by rfl) T.z_enumerate (q_cons (q_ix (o_ix (by rfl) (by rfl) (u1 hr)) c_ix (q_var (pv 0)) (q_int) (fun _ _=>rfl)) (q_nil))) (q_gtup (by rfl) (by rfl) (q_gscons (pg_name (i:=2) sc_law_spots.nd (by rfl) (.inr (by rfl))) (q_gscons (pg_name (i:=3) sc_law_spots.nd (by rfl) (.inl (by rfl))) (q_gsnil)))) (q_sone (q_expr (q_bm (by rfl) PySem.F.plainAttrs_list PySem.F.slot_list_extend PySem.F.type_list_extend o_extend c_extend (q_var (pv 1)) (q_cons (q_lc (own:= [("_law_spot",4)]) (by rfl) sc_law_spots.nd (q_iter (by rfl) (q_fn C_law_spots T.bnd_law_spots hr (by rfl) (by rfl) (by rfl) tk_body (q_cons (q_var (pv 3)) (q_nil)))) (blkOk_by (own:= [("_law_spot",4)]) (N:=N_law_spots) (sc:=defScope s_law_spots) (by decide +kernel)) (fun _ _ _ _ _=>q_gnameW (pg_name (i:=4) sc_law_spots.nd (by rfl) (.inl (by rfl))) (by decide)) (fun _ _ _ _ _=>q_tnil) (fun _ _ _ _ _=>q_op (o_add (by rfl)) c_add (q_tup (q_cons (q_var (pv 2)) (q_nil))) (q_var (pv 4)))) (q_nil))))))
  (q_sone (q_ret (q_frz (q_var (pv 1))))))
theorem b_law_givers {P:Program} {K:PySem.W.Frag} {w:World} {mg:Str→Option Value} {base:Heap} {fa:Nat→Addr} {fd:Nat→FuncData} {F:Nat→FN} {k:Nat} (h1:1≤k) (hM:∃o,base.get? sysModules=some o) (T:Txt K w mg fa fd) (cdv:Value) (A:Around) (outer:List Env) (s:Shared) (H:Hp) (E:XK)
 (hrM:RoomG (k+1) (A.deeper (envOfC "_law_givers" (defScope s_law_givers) s.heap.objs.size (fa 16) cdv))):
 PSs (cxOf (L2.CX P w) P w K mg base N_law_givers "_law_givers" (defScope s_law_givers) (fa 16) cdv A outer s H E) (defBody s_law_givers) (tS ⟨K,w,mg⟩ (m_law_givers F) (WE0 E)):=
 have hr:=hrM.mono (Nat.le_succ _)
 have hr2:RoomG 2 _:=hrM.mono (Nat.succ_le_succ h1)
 q_scons (q_par (i:=1) (j:=2) (by rfl) sc_law_givers.nd (by rfl) (by rfl) (by decide) (by rfl) (by rfl) (q_cons (q_dctT0) (q_cons (q_obj (q_cons (q_tup (q_cons (q_tup (q_nil)) (q_cons (q_var (pv 0)) (q_cons (q_dic0) (q_nil))))) (q_nil))) (q_nil))) (by rfl))
  (q_scons (q_while fuel po_body (q_tcmp (o_ne0 hr.units) c_ne0 (q_var (pv 2)) (q_lst (q_nil)) (nomark _)) (q_scons (q_asg (q_bm0 (by rfl) PySem.F.plainAttrs_list PySem.F.slot_list_pop PySem.F.type_list_pop o_pop c_pop (q_var (pv 2))) (q_gseq (by rfl) (by rfl) (q_gscons (pg_name (i:=3) sc_law_givers.nd (by rfl) (.inl (by rfl))) (q_gscons (pg_name (i:=4) sc_law_givers.nd (by rfl) (.inl (by rfl))) (q_gscons (pg_name (i:=5) sc_law_givers.nd (by rfl) (.inl (by rfl))) (q_gsnil))))) (gn:=gn_seq))
  (q_scons (q_asg (q_var (pv 4)) (q_gtup (by rfl) (by rfl) (q_gscons (pg_name (i:=6) sc_law_givers.nd (by rfl) (.inl (by rfl))) (q_gscons (pg_name (i:=7) sc_law_givers.nd (by rfl) (.inl (by rfl))) (q_gscons (pg_name (i:=8) sc_law_givers.nd (by rfl) (.inl (by rfl))) (q_gsnil))))) (gn:=gn_tup))
  (q_scons (q_if (q_tcmp (o_eq (by rfl) hr.units) c_eq (q_var (pv 6)) (q_str) (nomark _)) (q_sone (q_asg (q_tup (q_cons (q_var (pv 7)) (q_cons (q_bm (by rfl) PySem.F.plainAttrs_dict PySem.F.slot_dict_get PySem.F.type_dict_get (o_dget (u1 hr)) c_dget (q_var (pv 5)) (q_cons (q_var (pv 7)) (q_nil))) (q_nil)))) (q_gsub (Wx:=WE0 E) (u1 hr) (q_var (pv 1)) (q_var (pv 3))) (gn:=gn_sub))) (q_snil))
  (q_sone (q_for po_body (by rfl) (q_enum (by rfl) (by rfl) T.z_enumerate (q_cons (q_var (pv 8)) (q_nil))) (q_gtup (by rfl) (by rfl) (q_gscons (pg_name (i:=9) sc_law_givers.nd (by rfl) (.inl (by rfl))) (q_gscons (pg_name (i:=10) sc_law_givers.nd (by rfl) (.inl (by rfl))) (q_gsnil)))) (q_scons (q_set (i:=11) sc_law_givers.nd (by rfl) (.inl (by rfl)) (q_callTy (o_dictPO (by rfl) (by rfl)) c_dictPO (by rfl) T.z_dict b_dict (q_cons (q_items (by rfl) (q_var (pv 5)) (by rfl) T.z_list) (q_nil))))
  (q_scons (q_if (q_tb (w_and (q_tcmp (o_in (by rfl) (by rfl) (u65 hr)) c_in (q_var (pv 6)) (q_tup (q_cons (q_str) (q_cons (q_str) (q_nil)))) (by rfl)) (w_and1 (q_tcmp (o_eq (by rfl) hr.units) c_eq (q_var (pv 9)) (q_int) (nomark _))))) (q_sone (q_asg (q_var (pv 3)) (q_gsub (Wx:=WE0 E) (u1 hr) (q_var (pv 11)) (q_var (pv 7))) (gn:=gn_sub))) (q_snil))
  (q_sone (q_expr (q_bm (by rfl) PySem.F.plainAttrs_list PySem.F.slot_list_append PySem.F.type_list_append o_append c_append (q_var (pv 2)) (q_cons (q_tup (q_cons (q_op (o_add (by rfl)) c_add (q_var (pv 3)) (q_tup (q_cons (q_var (pv 9)) (q_nil)))) (q_cons (q_var (pv 10)) (q_cons (q_frz (q_var (pv 11))) (q_nil))))) (q_nil)))))))))))))
  (q_sone (q_ret (q_var (pv 1)))))
theorem b_law_asked {P:Program} {K:PySem.W.Frag} {w:World} {mg:Str→Option Value} {base:Heap} {fa:Nat→Addr} {fd:Nat→FuncData} {F:Nat→FN} {k:Nat} (h1:1≤k) (hM:∃o,base.get? sysModules=some o) (hB:BltIn base mg) (T:Txt K w mg fa fd) (cdv:Value) (A:Around) (outer:List Env) (s:Shared) (H:Hp) (E:XK) (hcy:CodeOf K (fa 17) cdv)
 (hrM:RoomG (k+2) (A.deeper (envOfC "_law_asked" (defScope s_law_asked) s.heap.objs.size (fa 17) cdv))):
 PSs (cxOf (L2.CX P w) P w K mg base N_law_asked "_law_asked" (defScope s_law_asked) (fa 17) cdv A outer s H E) (defBody s_law_asked) (tS ⟨K,w,mg⟩ (m_law_asked F) (WE0 E)):=
 have hr:=hrM.mono (Nat.le_add_right _ _)
 have hr2:RoomG 2 _:=hrM.mono (Nat.le_add_left 2 _)
 match hcy with
 |⟨_,_,_,_,ly,cy⟩=>
 q_scons (q_set (i:=2) sc_law_asked.nd (by rfl) (.inl (by rfl)) (q_dctN0 (by rfl)))
  (q_scons (q_forLk sel_its po_body (by rfl) (q_itemsL (q_var (pv 0))) (q_gmix (by rfl) (by rfl) (q_mcons (q_gname (pg_name (i:=3) sc_law_asked.nd (by rfl) (.inl (by rfl)))) (q_mcons (q_gtup (by rfl) (by rfl) (q_gscons (pg_name (i:=4) sc_law_asked.nd (by rfl) (.inl (by rfl))) (q_gscons (pg_name (i:=5) sc_law_asked.nd (by rfl) (.inl (by rfl))) (q_gsnil)))) (q_mnil)))) (q_sone (q_if (q_tb (w_and (q_tcmp (o_eq (by rfl) hr.units) c_eq (q_slice (by rfl) (q_var (pv 3)) (q_pno) (q_pyes (q_callB (o_len (by rfl)) c_len (by rfl) T.z_len b_len (q_cons (q_var (pv 1)) (q_nil))))) (q_var (pv 1)) (nomark _)) (w_and1 (q_tb (w_or (q_tcmp o_isNon c_isNon (q_var (pv 5)) (q_non) (nomark _)) (w_or1 (q_tcmp (o_ne (by rfl) hr.units) c_ne (q_slice (by rfl) (q_var (pv 5)) (q_pno) (q_pyes (q_callB (o_len (by rfl)) c_len (by rfl) T.z_len b_len (q_cons (q_var (pv 1)) (q_nil))))) (q_var (pv 1)) (nomark _)))))))) (q_sone (q_asg (q_bl) (q_gsubN (Wx:=WE0 E) (by rfl) (by rfl) (u65 hr) (q_var (pv 2)) (q_tup (q_cons (q_var (pv 4)) (q_cons (q_var (pv 5)) (q_nil))))) (gn:=gn_subN))) (q_snil))))
  (q_sone (q_ret (q_callTy (o_tuple (by rfl)) c_tuple (by rfl) T.z_tuple b_tuple (q_cons (q_sortkey (by rfl) (by rfl) (by rfl) hrM (q_var (pv 2)) (by rfl) T.z_sorted T.g_law_asked ly cy hB ⟨rfl,rfl,rfl,rfl⟩ rfl (fun _ _ _ _ _ _=>rfl) (by decide)) (q_nil))))))
theorem b_law_right {P:Program} {K:PySem.W.Frag} {w:World} {mg:Str→Option Value} {base:Heap} {fa:Nat→Addr} {fd:Nat→FuncData} {F:Nat→FN} {k:Nat} (h1:1≤k) (hM:∃o,base.get? sysModules=some o) (T:Txt K w mg fa fd) (C_law_asked:Cal P w ⟨K,w,mg⟩ base k "_law_asked" (fa 17) (fd 17) ["_law_own","_law_spot"] (F 17)) (C_law_givers:Cal P w ⟨K,w,mg⟩ base k "_law_givers" (fa 16) (fd 16) ["_law_code_here"] (F 16)) (C_law_spots:Cal P w ⟨K,w,mg⟩ base k "_law_spots" (fa 15) (fd 15) ["_law_code_here"] (F 15)) (C_asked_at:Cal P w ⟨K,w,mg⟩ base k "asked_at" (fa 7) (fd 7) ["program","place"] (F 7)) (C_free_in:Cal P w ⟨K,w,mg⟩ base k "free_in" (fa 6) (fd 6) ["program"] (F 6)) (cdv:Value) (A:Around) (outer:List Env) (s:Shared) (H:Hp) (E:XK)
 (hrM:RoomG (k+1) (A.deeper (envOfC "_law_right" (defScope s_law_right) s.heap.objs.size (fa 18) cdv))):
 PSs (cxOf (L2.CX P w) P w K mg base N_law_right "_law_right" (defScope s_law_right) (fa 18) cdv A outer s H E) (defBody s_law_right) (tS ⟨K,w,mg⟩ (m_law_right F) (WE0 E)):=
 have hr:=hrM.mono (Nat.le_succ _)
 have hr2:RoomG 2 _:=hrM.mono (Nat.succ_le_succ h1)
 q_scons (q_par (i:=1) (j:=2) (by rfl) sc_law_right.nd (by rfl) (by rfl) (by decide) (by rfl) (by rfl) (q_cons (q_fn C_law_givers T.bnd_law_givers hr (by rfl) (by rfl) (by rfl) tk_body (q_cons (q_var (pv 0)) (q_nil))) (q_cons (q_fn C_law_spots T.bnd_law_spots hr (by rfl) (by rfl) (by rfl) tk_body (q_cons (q_var (pv 0)) (q_nil))) (q_nil))) (by rfl))
  (q_scons (q_set (i:=3) sc_law_right.nd (by rfl) (.inl (by rfl)) (q_dct0))
  (q_scons (q_forLk sel_vals po_body (by rfl) (q_valsL (q_var (pv 1))) (q_gtup (by rfl) (by rfl) (q_gscons (pg_name (i:=4) sc_law_right.nd (by rfl) (.inl (by rfl))) (q_gscons (pg_name (i:=5) sc_law_right.nd (by rfl) (.inl (by rfl))) (q_gsnil)))) (q_sone (q_if (q_tcmp o_isNon c_isNon (q_var (pv 5)) (q_non) (nomark _)) (q_sone (q_asg (q_bl) (q_gsub (Wx:=WE0 E) (u1 hr) (q_var (pv 3)) (q_var (pv 4))) (gn:=gn_sub))) (q_snil))))
  (q_scons (q_set (i:=6) sc_law_right.nd (by rfl) (.inl (by rfl)) (q_callB (o_repr (by rfl) hM hr.gd (u150 hr)) c_repr (by rfl) T.z_repr b_repr (q_cons (q_callTy (o_tuple (by rfl)) c_tuple (by rfl) T.z_tuple b_tuple (q_cons (q_callB (o_sortedA (by rfl) (by rfl) (u65 hr)) c_sortedA (by rfl) T.z_sorted b_sorted (q_cons (q_var (pv 3)) (q_nil))) (q_nil))) (q_nil))))
  (q_scons (q_if (q_tcmp (o_ne (by rfl) hr.units) c_ne (q_lst (q_cons (q_callB (o_repr (by rfl) hM hr.gd (u150 hr)) c_repr (by rfl) T.z_repr b_repr (q_cons (q_fn C_free_in T.bnd_free_in hr (by rfl) (by rfl) (by rfl) tk_body (q_cons (q_var (pv 0)) (q_nil))) (q_nil))) (q_cons (q_callB (o_repr (by rfl) hM hr.gd (u150 hr)) c_repr (by rfl) T.z_repr b_repr (q_cons (q_fnK0 C_free_in T.kbd_free_in_0_program hr (by rfl) (by rfl) (by rfl) tk_body (q_kcons (q_var (pv 0)) (q_knil))) (q_nil))) (q_nil)))) (q_lst (q_cons (q_var (pv 6)) (q_cons (q_var (pv 6)) (q_nil)))) (nomark _)) (q_sone (q_ret (q_bl))) (q_snil))
  (q_scons (q_for po_body (by rfl) (q_iter (by rfl) (q_var (pv 2))) (q_gname (pg_name (i:=7) sc_law_right.nd (by rfl) (.inl (by rfl)))) (q_scons (q_set (i:=6) sc_law_right.nd (by rfl) (.inl (by rfl)) (q_callB (o_repr (by rfl) hM hr.gd (u150 hr)) c_repr (by rfl) T.z_repr b_repr (q_cons (q_fn C_law_asked T.bnd_law_asked hr (by rfl) (by rfl) (by rfl) tk_body (q_cons (q_var (pv 1)) (q_cons (q_var (pv 7)) (q_nil)))) (q_nil))))
  (q_sone (q_if (q_tcmp (o_ne (by rfl) hr.units) c_ne (q_lst (q_cons (q_callB (o_repr (by rfl) hM hr.gd (u150 hr)) c_repr (by rfl) T.z_repr b_repr (q_cons (q_fn C_asked_at T.bnd_asked_at hr (by rfl) (by rfl) (by rfl) tk_body (q_cons (q_var (pv 0)) (q_cons (q_var (pv 7)) (q_nil)))) (q_nil))) (q_cons (q_callB (o_repr (by rfl) hM hr.gd (u150 hr)) c_repr (by rfl) T.z_repr b_repr (q_cons (q_fnK0 C_asked_at T.kbd_asked_at_0_place_program hr (by rfl) (by rfl) (by rfl) tk_body (q_kcons (q_var (pv 7)) (q_kcons (q_var (pv 0)) (q_knil)))) (q_nil))) (q_nil)))) (q_lst (q_cons (q_var (pv 6)) (q_cons (q_var (pv 6)) (q_nil)))) (nomark _)) (q_sone (q_ret (q_bl))) (q_snil)))))
  (q_sone (q_ret (q_bl))))))))
theorem b_law_refused {P:Program} {K:PySem.W.Frag} {w:World} {mg:Str→Option Value} {base:Heap} {fa:Nat→Addr} {fd:Nat→FuncData} {F:Nat→FN} {k:Nat} (h1:1≤k) (hM:∃o,base.get? sysModules=some o) (T:Txt K w mg fa fd) (C_asked_at:Cal P w ⟨K,w,mg⟩ base k "asked_at" (fa 7) (fd 7) ["program","place"] (F 7)) (cdv:Value) (A:Around) (outer:List Env) (s:Shared) (H:Hp) (E:XK)
 (hrM:RoomG (k+1) (A.deeper (envOfC "_law_refused" (defScope s_law_refused) s.heap.objs.size (fa 19) cdv))):
 PSs (cxOf (L2.CX P w) P w K mg base N_law_refused "_law_refused" (defScope s_law_refused) (fa 19) cdv A outer s H E) (defBody s_law_refused) (tS ⟨K,w,mg⟩ (m_law_refused F) (WE0 E)):=
 have hr:=hrM.mono (Nat.le_succ _)
 have hr2:RoomG 2 _:=hrM.mono (Nat.succ_le_succ h1)
 q_scons (q_set (i:=2) sc_law_refused.nd (by rfl) (.inl (by rfl)) (q_non))
  (q_scons (q_try rfl rfl sc_law_refused.nd rfl tk_body (fun Wt _ _ tkt pot=>q_sone (q_expr (q_fn C_asked_at T.bnd_asked_at hr (by rfl) (by rfl) (by rfl) tkt (q_cons (q_var (pv 0)) (q_cons (q_var (pv 1)) (q_nil)))))) (Hds.named (i:=3) (asks_three ⟨by rfl,by decide, .inl T.ca_Missing⟩ ⟨by rfl,by decide, .inl T.ca_Refused⟩ ⟨by rfl,by decide, .inl T.ca_Halted⟩) (by rfl) (by rfl) (ym_cons T.ca_NoPlace (exm_three (exm_own T.xd_Missing T.xs_NoPlace__Missing) (exm_own T.xd_Refused T.xs_NoPlace__Refused) (exm_own T.xd_Halted T.xs_NoPlace__Halted)) (ym_nil)) (ym_nil) (fun _=>q_sone (q_set (i:=2) sc_law_refused.nd (by rfl) (.inl (by rfl)) (q_var (pv 3)))) (Hds.nil)))
  (q_scons (q_if (q_tb (w_or (q_tnot (q_truth (by rfl) (q_isx (by rfl) (by rfl) T.z_isinstance (q_var (pv 2)) (cls_name ⟨by rfl,by decide, .inl T.ca_NoPlace⟩) (ym_cons T.ca_NoPlace ⟨T.xi_NoPlace,(kit_own T.xd_NoPlace T.xs_NoPlace__NoPlace T.xs_NoPlace__NoPlace)⟩ (ym_nil)) (ym_nil)))) (w_or1 (q_truth (by rfl) (q_isx (by rfl) (by rfl) T.z_isinstance (q_var (pv 2)) (cls_two ⟨by rfl,by decide, .inl T.ca_NoName⟩ ⟨by rfl,by decide, .inl T.ca_NoNumber⟩) (ym_nil) (ym_cons T.ca_NoPlace ⟨T.xi_NoPlace,(kit_two (kit_own T.xd_NoName T.xs_NoPlace__NoPlace T.xs_NoPlace__NoName) (kit_own T.xd_NoNumber T.xs_NoPlace__NoPlace T.xs_NoPlace__NoNumber))⟩ (ym_nil))))))) (q_sone (q_ret (q_bl))) (q_snil))
  (q_sone (q_ret (q_cmp (o_eq (by rfl) hr.units) c_eq (q_callB (o_repr (by rfl) hM hr.gd (u150 hr)) c_repr (by rfl) T.z_repr b_repr (q_cons (q_xf (by rfl) (q_var (pv 2)) (ym_cons T.ca_NoPlace ⟨T.xi_NoPlace,T.xn_NoPlace⟩ (ym_nil))) (q_nil))) (q_callB (o_repr (by rfl) hM hr.gd (u150 hr)) c_repr (by rfl) T.z_repr b_repr (q_cons (q_var (pv 1)) (q_nil))) (nomark _))))))
theorem b_law {P:Program} {K:PySem.W.Frag} {w:World} {mg:Str→Option Value} {base:Heap} {fa:Nat→Addr} {fd:Nat→FuncData} {F:Nat→FN} {k:Nat} (h1:1≤k) (hM:∃o,base.get? sysModules=some o) (T:Txt K w mg fa fd) (C_law_code:Cal P w ⟨K,w,mg⟩ base k "_law_code" (fa 14) (fd 14) ["_law_hand_here","_law_size"] (F 14)) (C_law_hand:Cal P w ⟨K,w,mg⟩ base k "_law_hand" (fa 8) (fd 8) ["_law_script","_law_k"] (F 8)) (C_law_pick:Cal P w ⟨K,w,mg⟩ base k "_law_pick" (fa 10) (fd 10) ["_law_hand_here","_law_some"] (F 10)) (C_law_refused:Cal P w ⟨K,w,mg⟩ base k "_law_refused" (fa 19) (fd 19) ["_law_made","_law_odd"] (F 19)) (C_law_right:Cal P w ⟨K,w,mg⟩ base k "_law_right" (fa 18) (fd 18) ["_law_made"] (F 18)) (C_law_spots:Cal P w ⟨K,w,mg⟩ base k "_law_spots" (fa 15) (fd 15) ["_law_code_here"] (F 15)) (C_law_take:Cal P w ⟨K,w,mg⟩ base k "_law_take" (fa 9) (fd 9) ["_law_hand_here","_law_many"] (F 9)) (cdv:Value) (A:Around) (outer:List Env) (s:Shared) (H:Hp) (E:XK)
 (hrM:RoomG (k+1) (A.deeper (envOfC "law" (defScope s_law) s.heap.objs.size (fa 20) cdv))):
 PSs (cxOf (L2.CX P w) P w K mg base N_law "law" (defScope s_law) (fa 20) cdv A outer s H E) (defBody s_law) (tS ⟨K,w,mg⟩ (m_law F) (WE0 E)):=
 have hr:=hrM.mono (Nat.le_succ _)
 have hr2:RoomG 2 _:=hrM.mono (Nat.succ_le_succ h1)
 q_scons (q_set (i:=1) sc_law.nd (by rfl) (.inl (by rfl)) (q_obj (q_nil)))
  (q_scons (q_for po_body (by rfl) (q_range1 (by rfl) T.z_range (q_cons (q_callB (o_max (by rfl)) c_max (by rfl) T.z_max b_max (q_cons (q_int) (q_cons (q_callB (o_min (by rfl)) c_min (by rfl) T.z_min b_min (q_cons (q_int) (q_cons (q_callB (o_len (by rfl)) c_len (by rfl) T.z_len b_len (q_cons (q_var (pv 0)) (q_nil))) (q_nil)))) (q_nil)))) (q_nil))) (q_gname (pg_name (i:=2) sc_law.nd (by rfl) (.inl (by rfl)))) (q_scons (q_set (i:=3) sc_law.nd (by rfl) (.inl (by rfl)) (q_fn C_law_hand T.bnd_law_hand hr (by rfl) (by rfl) (by rfl) tk_body (q_cons (q_var (pv 0)) (q_cons (q_var (pv 2)) (q_nil)))))
  (q_scons (q_set (i:=4) sc_law.nd (by rfl) (.inl (by rfl)) (q_fn C_law_code T.bnd_law_code hr (by rfl) (by rfl) (by rfl) tk_body (q_cons (q_var (pv 3)) (q_cons (q_op (o_add (by rfl)) c_add (q_int) (q_fn C_law_take T.bnd_law_take hr (by rfl) (by rfl) (by rfl) tk_body (q_cons (q_var (pv 3)) (q_cons (q_int) (q_nil))))) (q_nil)))))
  (q_scons (q_set (i:=5) sc_law.nd (by rfl) (.inl (by rfl)) (q_callB (o_repr (by rfl) hM hr.gd (u150 hr)) c_repr (by rfl) T.z_repr b_repr (q_cons (q_var (pv 4)) (q_nil))))
  (q_scons (q_if (q_tb (w_or (q_tnot (q_truth (by rfl) (q_fn C_law_right T.bnd_law_right hr (by rfl) (by rfl) (by rfl) tk_body (q_cons (q_var (pv 4)) (q_nil))))) (w_or1 (q_tnot (q_truth (by rfl) (q_callB (o_all (by rfl)) c_all (by rfl) T.z_all b_all (q_cons (q_lc (own:= [("_law_one",6)]) (by rfl) sc_law.nd (q_iter (by rfl) (q_slice (by rfl) (q_var (pv 1)) (q_pyes (q_un o_neg c_neg (q_int))) (q_pno))) (blkOk_by (own:= [("_law_one",6)]) (N:=N_law) (sc:=defScope s_law) (by decide +kernel)) (fun _ _ _ _ _=>q_gnameW (pg_name (i:=6) sc_law.nd (by rfl) (.inl (by rfl))) (by decide)) (fun _ _ _ _ _=>q_tnil) (fun _ _ _ _ _=>q_fn C_law_right T.bnd_law_right hr (by rfl) (by rfl) (by rfl) tk_blk (q_cons (q_var (pv 6)) (q_nil)))) (q_nil)))))))) (q_sone (q_ret (q_bl))) (q_snil))
  (q_scons (q_for po_body (by rfl) (q_range1 (by rfl) T.z_range (q_cons (q_int) (q_nil))) (q_gname (pg_name (i:=7) sc_law.nd (by rfl) (.inl (by rfl)))) (q_scons (q_set (i:=8) sc_law.nd (by rfl) (.inl (by rfl)) (q_fn C_law_pick T.bnd_law_pick hr (by rfl) (by rfl) (by rfl) tk_body (q_cons (q_var (pv 3)) (q_cons (q_fn C_law_spots T.bnd_law_spots hr (by rfl) (by rfl) (by rfl) tk_body (q_cons (q_var (pv 4)) (q_nil))) (q_nil)))))
  (q_scons (q_set (i:=9) sc_law.nd (by rfl) (.inl (by rfl)) (q_lst (q_cons (q_op (o_add (by rfl)) c_add (q_var (pv 8)) (q_tup (q_cons (q_int) (q_nil)))) (q_cons (q_op (o_add (by rfl)) c_add (q_var (pv 8)) (q_tup (q_cons (q_un o_neg c_neg (q_int)) (q_nil)))) (q_cons (q_op (o_add (by rfl)) c_add (q_var (pv 8)) (q_tup (q_cons (q_bl) (q_nil)))) (q_cons (q_callTy (o_list (by rfl)) c_list (by rfl) T.z_list b_list (q_cons (q_var (pv 8)) (q_nil))) (q_cons (q_non) (q_cons (q_int) (q_cons (q_str) (q_cons (q_dic0) (q_cons (q_tup (q_cons (q_non) (q_nil))) (q_cons (q_lst (q_cons (q_int) (q_nil))) (q_nil)))))))))))))
  (q_scons (q_set (i:=10) sc_law.nd (by rfl) (.inl (by rfl)) (q_fn C_law_pick T.bnd_law_pick hr (by rfl) (by rfl) (by rfl) tk_body (q_cons (q_var (pv 3)) (q_cons (q_var (pv 9)) (q_nil)))))
  (q_sone (q_if (q_tnot (q_truth (by rfl) (q_fn C_law_refused T.bnd_law_refused hr (by rfl) (by rfl) (by rfl) tk_body (q_cons (q_var (pv 4)) (q_cons (q_var (pv 10)) (q_nil)))))) (q_sone (q_ret (q_bl))) (q_snil)))))))
  (q_scons (q_if (q_tcmp (o_ne (by rfl) hr.units) c_ne (q_callB (o_repr (by rfl) hM hr.gd (u150 hr)) c_repr (by rfl) T.z_repr b_repr (q_cons (q_var (pv 4)) (q_nil))) (q_var (pv 5)) (nomark _)) (q_sone (q_ret (q_bl))) (q_snil))
  (q_sone (q_expr (q_bm (by rfl) PySem.F.plainAttrs_list PySem.F.slot_list_append PySem.F.type_list_append o_append c_append (q_var (pv 1)) (q_cons (q_var (pv 4)) (q_nil))))))))))))
  (q_sone (q_ret (q_bl))))
structure Alls (P:Program) (K:PySem.W.Frag) (w:World) (mg:Str→Option Value) (base:Heap) (fa:Nat→Addr) (fd:Nat→FuncData) (k:Nat) (F:Nat→FN):Prop where
 c_is_whole:Cal P w ⟨K,w,mg⟩ base k "is_whole" (fa 0) (fd 0) ["thing"] (F 0)
 c_is_number:Cal P w ⟨K,w,mg⟩ base k "is_number" (fa 1) (fd 1) ["thing","low","high"] (F 1)
 c_at:Cal P w ⟨K,w,mg⟩ base k "at" (fa 2) (fd 2) ["program","place"] (F 2)
 c_is_within:Cal P w ⟨K,w,mg⟩ base k "is_within" (fa 3) (fd 3) ["place","outer"] (F 3)
 c_Scopes___init__:Mak P w ⟨K,w,mg⟩ base k "Scopes" (fa 21) (fa 4) (fd 4) ["self","program"] (F 4)
 c_Scopes_asked:Mtd P w ⟨K,w,mg⟩ base k "Scopes" "asked" (fa 5) (fd 5) ["self","outer"] (F 5)
 c_free_in:Cal P w ⟨K,w,mg⟩ base k "free_in" (fa 6) (fd 6) ["program"] (F 6)
 c_asked_at:Cal P w ⟨K,w,mg⟩ base k "asked_at" (fa 7) (fd 7) ["program","place"] (F 7)
 c_law_hand:Cal P w ⟨K,w,mg⟩ base k "_law_hand" (fa 8) (fd 8) ["_law_script","_law_k"] (F 8)
 c_law_take:Cal P w ⟨K,w,mg⟩ base k "_law_take" (fa 9) (fd 9) ["_law_hand_here","_law_many"] (F 9)
 c_law_pick:Cal P w ⟨K,w,mg⟩ base k "_law_pick" (fa 10) (fd 10) ["_law_hand_here","_law_some"] (F 10)
 c_law_called:Cal P w ⟨K,w,mg⟩ base k "_law_called" (fa 11) (fd 11) ["_law_hand_here","_law_many"] (F 11)
 c_law_digit:Cal P w ⟨K,w,mg⟩ base k "_law_digit" (fa 12) (fd 12) ["_law_hand_here"] (F 12)
 c_law_grown:Cal P w ⟨K,w,mg⟩ base k "_law_grown" (fa 13) (fd 13) ["_law_hand_here","_law_pot","_law_scope","_law_level"] (F 13)
 c_law_code:Cal P w ⟨K,w,mg⟩ base k "_law_code" (fa 14) (fd 14) ["_law_hand_here","_law_size"] (F 14)
 c_law_spots:Cal P w ⟨K,w,mg⟩ base k "_law_spots" (fa 15) (fd 15) ["_law_code_here"] (F 15)
 c_law_givers:Cal P w ⟨K,w,mg⟩ base k "_law_givers" (fa 16) (fd 16) ["_law_code_here"] (F 16)
 c_law_asked:Cal P w ⟨K,w,mg⟩ base k "_law_asked" (fa 17) (fd 17) ["_law_own","_law_spot"] (F 17)
 c_law_right:Cal P w ⟨K,w,mg⟩ base k "_law_right" (fa 18) (fd 18) ["_law_made"] (F 18)
 c_law_refused:Cal P w ⟨K,w,mg⟩ base k "_law_refused" (fa 19) (fd 19) ["_law_made","_law_odd"] (F 19)
 c_law:Cal P w ⟨K,w,mg⟩ base k "law" (fa 20) (fd 20) ["_law_script"] (F 20)
theorem all {P:Program} {K:PySem.W.Frag} {w:World} {mg:Str→Option Value} {base:Heap} {fa:Nat→Addr} {fd:Nat→FuncData} (hM:∃o,base.get? sysModules=some o) (hB:BltIn base mg) (T:Txt K w mg fa fd):∀k,Alls P K w mg base fa fd (lw k) (Fs k)
 |0=>⟨⟨fn_none,T.g_is_whole,T.F_is_whole.kp⟩,⟨fn_none,T.g_is_number,T.F_is_number.kp⟩,⟨fn_none,T.g_at,T.F_at.kp⟩,⟨fn_none,T.g_is_within,T.F_is_within.kp⟩,⟨fn_none,T.ca_Scopes,T.mk_Scopes___init__⟩,⟨fn_none,T.mt_Scopes_asked⟩,⟨fn_none,T.g_free_in,T.F_free_in.kp⟩,⟨fn_none,T.g_asked_at,T.F_asked_at.kp⟩,⟨fn_none,T.g_law_hand,T.F_law_hand.kp⟩,⟨fn_none,T.g_law_take,T.F_law_take.kp⟩,⟨fn_none,T.g_law_pick,T.F_law_pick.kp⟩,⟨fn_none,T.g_law_called,T.F_law_called.kp⟩,⟨fn_none,T.g_law_digit,T.F_law_digit.kp⟩,⟨fn_none,T.g_law_grown,T.F_law_grown.kp⟩,⟨fn_none,T.g_law_code,T.F_law_code.kp⟩,⟨fn_none,T.g_law_spots,T.F_law_spots.kp⟩,⟨fn_none,T.g_law_givers,T.F_law_givers.kp⟩,⟨fn_none,T.g_law_asked,T.F_law_asked.kp⟩,⟨fn_none,T.g_law_right,T.F_law_right.kp⟩,⟨fn_none,T.g_law_refused,T.F_law_refused.kp⟩,⟨fn_none,T.g_law,T.F_law.kp⟩⟩
 |k+1=>by
  have ih:=all (P:=P) (base:=base) hM hB T k
  exact⟨⟨fn_ok (G:=⟨K,w,mg⟩) T.F_is_whole sc_is_whole (fun cdv A outer s H E hr=>b_is_whole (lw1 k) hM T cdv A outer s H E (hr.mono (Nat.le_succ _))),T.g_is_whole,T.F_is_whole.kp⟩,
   ⟨fn_ok (G:=⟨K,w,mg⟩) T.F_is_number sc_is_number (fun cdv A outer s H E hr=>b_is_number (lw1 k) hM T ih.c_is_whole cdv A outer s H E (hr.mono (Nat.le_succ _))),T.g_is_number,T.F_is_number.kp⟩,
   ⟨fn_ok (G:=⟨K,w,mg⟩) T.F_at sc_at (fun cdv A outer s H E hr=>b_at (lw1 k) hM T ih.c_is_number cdv A outer s H E (hr.mono (Nat.le_succ _))),T.g_at,T.F_at.kp⟩,
   ⟨fn_ok (G:=⟨K,w,mg⟩) T.F_is_within sc_is_within (fun cdv A outer s H E hr=>b_is_within (lw1 k) hM T cdv A outer s H E (hr.mono (Nat.le_succ _))),T.g_is_within,T.F_is_within.kp⟩,
   ⟨fn_ok (G:=⟨K,w,mg⟩) T.F_Scopes___init__ sc_Scopes___init__ (fun cdv A outer s H E hr=>b_Scopes___init__ (lw1 k) hM T cdv A outer s H E (hr.mono (Nat.le_succ _))),T.ca_Scopes,T.mk_Scopes___init__⟩,
   ⟨fn_ok (G:=⟨K,w,mg⟩) T.F_Scopes_asked sc_Scopes_asked (fun cdv A outer s H E hr=>b_Scopes_asked (lw1 k) hM T ih.c_is_within cdv A outer s H E (hr.mono (Nat.le_succ _))),T.mt_Scopes_asked⟩,
   ⟨fn_ok (G:=⟨K,w,mg⟩) T.F_free_in sc_free_in (fun cdv A outer s H E hr=>b_free_in (lw1 k) hM T ih.c_Scopes___init__ cdv A outer s H E (hr.mono (Nat.le_succ _))),T.g_free_in,T.F_free_in.kp⟩,
   ⟨fn_ok (G:=⟨K,w,mg⟩) T.F_asked_at sc_asked_at (fun cdv A outer s H E hr=>b_asked_at (lw1 k) hM T ih.c_Scopes___init__ ih.c_Scopes_asked ih.c_at cdv A outer s H E (hr.mono (Nat.le_succ _))),T.g_asked_at,T.F_asked_at.kp⟩,
   ⟨fn_ok (G:=⟨K,w,mg⟩) T.F_law_hand sc_law_hand (fun cdv A outer s H E hr=>b_law_hand (lw1 k) hM T cdv A outer s H E (hr.mono (Nat.le_succ _))),T.g_law_hand,T.F_law_hand.kp⟩,
   ⟨fn_ok (G:=⟨K,w,mg⟩) T.F_law_take sc_law_take (fun cdv A outer s H E hr=>b_law_take (lw1 k) hM T cdv A outer s H E (hr.mono (Nat.le_succ _))),T.g_law_take,T.F_law_take.kp⟩,
   ⟨fn_ok (G:=⟨K,w,mg⟩) T.F_law_pick sc_law_pick (fun cdv A outer s H E hr=>b_law_pick (lw1 k) hM T ih.c_law_take cdv A outer s H E (hr.mono (Nat.le_succ _))),T.g_law_pick,T.F_law_pick.kp⟩,
   ⟨fn_ok (G:=⟨K,w,mg⟩) T.F_law_called sc_law_called (fun cdv A outer s H E hr=>b_law_called (lw1 k) hM T ih.c_law_pick ih.c_law_take cdv A outer s H E (hr.mono (Nat.le_succ _))),T.g_law_called,T.F_law_called.kp⟩,
   ⟨fn_ok (G:=⟨K,w,mg⟩) T.F_law_digit sc_law_digit (fun cdv A outer s H E hr=>b_law_digit (lw1 k) hM T ih.c_law_pick ih.c_law_take cdv A outer s H E (hr.mono (Nat.le_succ _))),T.g_law_digit,T.F_law_digit.kp⟩,
   ⟨fn_ok (G:=⟨K,w,mg⟩) T.F_law_grown sc_law_grown (fun cdv A outer s H E hr=>b_law_grown (lw1 k) hM T ih.c_law_digit ih.c_law_grown ih.c_law_pick ih.c_law_take cdv A outer s H E (hr.mono (Nat.le_succ _))),T.g_law_grown,T.F_law_grown.kp⟩,
   ⟨fn_ok (G:=⟨K,w,mg⟩) T.F_law_code sc_law_code (fun cdv A outer s H E hr=>b_law_code (lw1 k) hM T ih.c_law_called ih.c_law_grown ih.c_law_take cdv A outer s H E (hr.mono (Nat.le_succ _))),T.g_law_code,T.F_law_code.kp⟩,
   ⟨fn_ok (G:=⟨K,w,mg⟩) T.F_law_spots sc_law_spots (fun cdv A outer s H E hr=>b_law_spots (lw1 k) hM T ih.c_law_spots cdv A outer s H E (hr.mono (Nat.le_succ _))),T.g_law_spots,T.F_law_spots.kp⟩,
   ⟨fn_ok (G:=⟨K,w,mg⟩) T.F_law_givers sc_law_givers (fun cdv A outer s H E hr=>b_law_givers (lw1 k) hM T cdv A outer s H E (hr.mono (Nat.le_succ _))),T.g_law_givers,T.F_law_givers.kp⟩,
   ⟨fn_okC (G:=⟨K,w,mg⟩) T.F_law_asked sc_law_asked (fun cdv A outer s H E hcy hr=>b_law_asked (lw1 k) hM hB T cdv A outer s H E hcy hr),T.g_law_asked,T.F_law_asked.kp⟩,
   ⟨fn_ok (G:=⟨K,w,mg⟩) T.F_law_right sc_law_right (fun cdv A outer s H E hr=>b_law_right (lw1 k) hM T ih.c_law_asked ih.c_law_givers ih.c_law_spots ih.c_asked_at ih.c_free_in cdv A outer s H E (hr.mono (Nat.le_succ _))),T.g_law_right,T.F_law_right.kp⟩,
   ⟨fn_ok (G:=⟨K,w,mg⟩) T.F_law_refused sc_law_refused (fun cdv A outer s H E hr=>b_law_refused (lw1 k) hM T ih.c_asked_at cdv A outer s H E (hr.mono (Nat.le_succ _))),T.g_law_refused,T.F_law_refused.kp⟩,
   ⟨fn_ok (G:=⟨K,w,mg⟩) T.F_law sc_law (fun cdv A outer s H E hr=>b_law (lw1 k) hM T ih.c_law_code ih.c_law_hand ih.c_law_pick ih.c_law_refused ih.c_law_right ih.c_law_spots ih.c_law_take cdv A outer s H E (hr.mono (Nat.le_succ _))),T.g_law,T.F_law.kp⟩⟩
end K05
namespace K05
open PySem PySem.Spec PyProof.Rows L2 L3
def fdOf (d0:FuncData) (d1:FuncData) (d2:FuncData) (d3:FuncData) (d4:FuncData) (d5:FuncData) (d6:FuncData) (d7:FuncData) (d8:FuncData) (d9:FuncData) (d10:FuncData) (d11:FuncData) (d12:FuncData) (d13:FuncData) (d14:FuncData) (d15:FuncData) (d16:FuncData) (d17:FuncData) (d18:FuncData) (d19:FuncData) (d20:FuncData) (d21:FuncData) (d22:FuncData) (d23:FuncData) (d24:FuncData) (d25:FuncData) (d26:FuncData) (d27:FuncData) (d28:FuncData) (d29:FuncData) (d30:FuncData) (d31:FuncData) (d32:FuncData) (d33:FuncData):Nat→FuncData
 |0=>d0
 |1=>d1
 |2=>d2
 |3=>d3
 |4=>d4
 |5=>d5
 |6=>d6
 |7=>d7
 |8=>d8
 |9=>d9
 |10=>d10
 |11=>d11
 |12=>d12
 |13=>d13
 |14=>d14
 |15=>d15
 |16=>d16
 |17=>d17
 |18=>d18
 |19=>d19
 |20=>d20
 |21=>d21
 |22=>d22
 |23=>d23
 |24=>d24
 |25=>d25
 |26=>d26
 |27=>d27
 |28=>d28
 |29=>d29
 |30=>d30
 |31=>d31
 |32=>d32
 |33=>d33
 | _=>d0
theorem all_mk {l:PySem.W.OpenLaw} {w:World} {K:PySem.W.Frag} {h:Heap} {mg:Str→Option Value} {fa:Addr} (X:K.In h) (G:h.Ns mainGlobals mg) (hfa:mg "law" =some (.ref fa)) (TT:∀ns:List Int,ns.length≤63→∃S,Fs 70 20 [.scr ns] [.tab "_law_asked" ((("_law_asked" :Str)++ ".<locals>.")++ "<lambda>")] = .ok (.bl true) S)
 {C1 X2 X3 X4 X5 X6 X7 f8 f18 kd27 f30 f40 f50 f60 f70 f80 f90 f100 f110 f120 f130 f140 f150 f160 f170 f180 Cq190 Tq192 f193 f203 f213 f223 a233:Addr}
 {od9 an10 od19 an20 od31 an32 od41 an42 od51 an52 od61 an62 od71 an72 od81 an82 od91 an92 od101 an102 od111 an112 od121 an122 od131 an132 od141 an142 od151 an152 od161 an162 od171 an172 od181 an182 od194 an195 od204 an205 od214 an215 od224 an225 dd236:Option Addr}
 {sl11 sl21 sl33 sl43 sl53 sl63 sl73 sl83 sl93 sl103 sl113 sl123 sl133 sl143 sl153 sl163 sl173 sl183 sl196 sl206 sl216 sl226 sl238:Array (Option Value)}
 {oc12 dc13 pm14 cd15 ct16 kV17 oc22 dc23 pm24 cd25 ct26 oc34 dc35 pm36 cd37 ct38 kV39 oc44 dc45 pm46 cd47 ct48 kV49 oc54 dc55 pm56 cd57 ct58 kV59 oc64 dc65 pm66 cd67 ct68 kV69 oc74 dc75 pm76 cd77 ct78 kV79 oc84 dc85 pm86 cd87 ct88 kV89 oc94 dc95 pm96 cd97 ct98 kV99 oc104 dc105 pm106 cd107 ct108 kV109 oc114 dc115 pm116 cd117 ct118 kV119 oc124 dc125 pm126 cd127 ct128 kV129 oc134 dc135 pm136 cd137 ct138 kV139 oc144 dc145 pm146 cd147 ct148 kV149 oc154 dc155 pm156 cd157 ct158 kV159 oc164 dc165 pm166 cd167 ct168 kV169 oc174 dc175 pm176 cd177 ct178 kV179 oc184 dc185 pm186 cd187 ct188 kV189 oc197 dc198 pm199 cd200 ct201 kV202 oc207 dc208 pm209 cd210 ct211 kV212 oc217 dc218 pm219 cd220 ct221 kV222 oc227 dc228 pm229 cd230 ct231 kV232:Value}
 {t28 t29 t234 t235 t239:PySem.Tok}
 {oY191:Obj}
 {n237:Nat}
 (a_Scopes:PySem.W.nsIn K mainGlobals "Scopes" =some (some (.ref C1)))
 (pg_Scopes:PySem.W.plainGet K C1 Str.empty=true)
 (hd_Scopes:PySem.W.hasDictIn K C1=true)
 (po_Scopes:PySem.W.plainOver K C1=true)
 (sa_Scopes:PySem.W.findIn K (.ref C1) "__setattr__" =some (some (.builtin "object.__setattr__")))
 (mk_Scopes:PySem.W.makesIn K C1=true)
 (kc_Scopes:PySem.W.keepIn K (.ref C1)=true)
 (a_Halted:PySem.W.nsIn K mainGlobals "Halted" =some (some (.ref X2)))
 (sb_Halted:PySem.W.subIn K (.ref X2) (.type "BaseException")=some true)
 (hd_Halted:PySem.W.hasDictIn K X2=true)
 (ty_Halted:PySem.W.typeIn K (.ref X2)=some (.type "type"))
 (a_Missing:PySem.W.nsIn K mainGlobals "Missing" =some (some (.ref X3)))
 (sb_Missing:PySem.W.subIn K (.ref X3) (.type "BaseException")=some true)
 (hd_Missing:PySem.W.hasDictIn K X3=true)
 (ty_Missing:PySem.W.typeIn K (.ref X3)=some (.type "type"))
 (a_NoName:PySem.W.nsIn K mainGlobals "NoName" =some (some (.ref X4)))
 (sb_NoName:PySem.W.subIn K (.ref X4) (.type "BaseException")=some true)
 (hd_NoName:PySem.W.hasDictIn K X4=true)
 (ty_NoName:PySem.W.typeIn K (.ref X4)=some (.type "type"))
 (a_NoNumber:PySem.W.nsIn K mainGlobals "NoNumber" =some (some (.ref X5)))
 (sb_NoNumber:PySem.W.subIn K (.ref X5) (.type "BaseException")=some true)
 (hd_NoNumber:PySem.W.hasDictIn K X5=true)
 (ty_NoNumber:PySem.W.typeIn K (.ref X5)=some (.type "type"))
 (a_NoPlace:PySem.W.nsIn K mainGlobals "NoPlace" =some (some (.ref X6)))
 (sb_NoPlace:PySem.W.subIn K (.ref X6) (.type "BaseException")=some true)
 (hd_NoPlace:PySem.W.hasDictIn K X6=true)
 (ty_NoPlace:PySem.W.typeIn K (.ref X6)=some (.type "type"))
 (kp_NoPlace:PySem.W.keepIn K (.ref X6)=true)
 (in_NoPlace:PySem.W.excInitIn K X6 [.type "LookupError", .type "Exception", .type "BaseException", .type "object"] "LookupError.__new__" =true)
 (ov_NoPlace:PySem.W.excOver K X6 [.type "LookupError", .type "Exception", .type "BaseException", .type "object"] =true)
 (sa_NoPlace:PySem.W.findIn K (.ref X6) "__setattr__" =some (some (.builtin "object.__setattr__")))
 (ga_NoPlace:PySem.W.findIn K (.ref X6) "__getattribute__" =some (some (.builtin "BaseException.__getattribute__")))
 (gg_NoPlace:PySem.W.findIn K (.ref X6) "__getattr__" =some none)
 (cl_NoPlace:PySem.W.findIn K (.ref X6) "__class__" =some (some (.builtin "object.__class__")))
 (mr_NoPlace:PySem.W.mroIn K X6 (.type "object")=some true)
 (xn_NoPlace:PySem.W.findIn K (.ref X6) "place" =some none)
 (a_Refused:PySem.W.nsIn K mainGlobals "Refused" =some (some (.ref X7)))
 (sb_Refused:PySem.W.subIn K (.ref X7) (.type "BaseException")=some true)
 (hd_Refused:PySem.W.hasDictIn K X7=true)
 (ty_Refused:PySem.W.typeIn K (.ref X7)=some (.type "type"))
 (sp_class:PySem.W.specialIn K (.builtin "object.__class__") "__get__" =some (some (.builtin "getset_descriptor.__get__")))
 (tk_class:PySem.W.takesIn K (.builtin "object.__class__")=some true)
 (xs_NoPlace__Halted:PySem.W.subIn K (.ref X6) (.ref X2)=some false)
 (xs_NoPlace__Missing:PySem.W.subIn K (.ref X6) (.ref X3)=some true)
 (xs_NoPlace__NoName:PySem.W.subIn K (.ref X6) (.ref X4)=some false)
 (xs_NoPlace__NoNumber:PySem.W.subIn K (.ref X6) (.ref X5)=some false)
 (xs_NoPlace__NoPlace:PySem.W.subIn K (.ref X6) (.ref X6)=some true)
 (xs_NoPlace__Refused:PySem.W.subIn K (.ref X6) (.ref X7)=some false)
 (n_Scopes_givers:PySem.W.findIn K (.ref C1) "givers" =some none)
 (n_Scopes_names:PySem.W.findIn K (.ref C1) "names" =some none)
 (a_is_whole:PySem.W.nsIn K mainGlobals "is_whole" =some (some (.ref f8)))
 (l_is_whole:K.lookup f8=some ⟨oc12,od9, .func (PySem.W.fnOf "is_whole" "is_whole" (defArgs s_is_whole) (defBody s_is_whole) (defScope s_is_whole) .none kV17 dc13 pm14 an10 cd15 ct16),sl11⟩)
 (c_is_whole:PySem.W.codeIn K cd15 "is_whole" =true)
 (k_is_whole:PySem.W.keepIn K (.ref f8)=true)
 (a_is_number:PySem.W.nsIn K mainGlobals "is_number" =some (some (.ref f18)))
 (l_is_number:K.lookup f18=some ⟨oc22,od19, .func (PySem.W.fnOf "is_number" "is_number" (defArgs s_is_number) (defBody s_is_number) (defScope s_is_number) .none (.ref kd27) dc23 pm24 an20 cd25 ct26),sl21⟩)
 (c_is_number:PySem.W.codeIn K cd25 "is_number" =true)
 (k_is_number:PySem.W.keepIn K (.ref f18)=true)
 (w_is_number_high:PySem.W.nsIn K kd27 "high" =some (some (.int 9972 t28)))
 (w_is_number_low:PySem.W.nsIn K kd27 "low" =some (some (.int 0 t29)))
 (a_at:PySem.W.nsIn K mainGlobals "at" =some (some (.ref f30)))
 (l_at:K.lookup f30=some ⟨oc34,od31, .func (PySem.W.fnOf "at" "at" (defArgs s_at) (defBody s_at) (defScope s_at) .none kV39 dc35 pm36 an32 cd37 ct38),sl33⟩)
 (c_at:PySem.W.codeIn K cd37 "at" =true)
 (k_at:PySem.W.keepIn K (.ref f30)=true)
 (a_is_within:PySem.W.nsIn K mainGlobals "is_within" =some (some (.ref f40)))
 (l_is_within:K.lookup f40=some ⟨oc44,od41, .func (PySem.W.fnOf "is_within" "is_within" (defArgs s_is_within) (defBody s_is_within) (defScope s_is_within) .none kV49 dc45 pm46 an42 cd47 ct48),sl43⟩)
 (c_is_within:PySem.W.codeIn K cd47 "is_within" =true)
 (k_is_within:PySem.W.keepIn K (.ref f40)=true)
 (a_Scopes___init__:PySem.W.findIn K (.ref C1) "__init__" =some (some (.ref f50)))
 (i_Scopes___init__:PySem.W.isFn K (.ref f50)=true)
 (l_Scopes___init__:K.lookup f50=some ⟨oc54,od51, .func (PySem.W.fnOf "__init__" "Scopes.__init__" (defArgs s_Scopes___init__) (defBody s_Scopes___init__) (defScope s_Scopes___init__) .none kV59 dc55 pm56 an52 cd57 ct58),sl53⟩)
 (c_Scopes___init__:PySem.W.codeIn K cd57 "Scopes.__init__" =true)
 (k_Scopes___init__:PySem.W.keepIn K (.ref f50)=true)
 (a_Scopes_asked:PySem.W.findIn K (.ref C1) "asked" =some (some (.ref f60)))
 (i_Scopes_asked:PySem.W.isFn K (.ref f60)=true)
 (l_Scopes_asked:K.lookup f60=some ⟨oc64,od61, .func (PySem.W.fnOf "asked" "Scopes.asked" (defArgs s_Scopes_asked) (defBody s_Scopes_asked) (defScope s_Scopes_asked) .none kV69 dc65 pm66 an62 cd67 ct68),sl63⟩)
 (c_Scopes_asked:PySem.W.codeIn K cd67 "Scopes.asked" =true)
 (k_Scopes_asked:PySem.W.keepIn K (.ref f60)=true)
 (a_free_in:PySem.W.nsIn K mainGlobals "free_in" =some (some (.ref f70)))
 (l_free_in:K.lookup f70=some ⟨oc74,od71, .func (PySem.W.fnOf "free_in" "free_in" (defArgs s_free_in) (defBody s_free_in) (defScope s_free_in) .none kV79 dc75 pm76 an72 cd77 ct78),sl73⟩)
 (c_free_in:PySem.W.codeIn K cd77 "free_in" =true)
 (k_free_in:PySem.W.keepIn K (.ref f70)=true)
 (a_asked_at:PySem.W.nsIn K mainGlobals "asked_at" =some (some (.ref f80)))
 (l_asked_at:K.lookup f80=some ⟨oc84,od81, .func (PySem.W.fnOf "asked_at" "asked_at" (defArgs s_asked_at) (defBody s_asked_at) (defScope s_asked_at) .none kV89 dc85 pm86 an82 cd87 ct88),sl83⟩)
 (c_asked_at:PySem.W.codeIn K cd87 "asked_at" =true)
 (k_asked_at:PySem.W.keepIn K (.ref f80)=true)
 (a_law_hand:PySem.W.nsIn K mainGlobals "_law_hand" =some (some (.ref f90)))
 (l_law_hand:K.lookup f90=some ⟨oc94,od91, .func (PySem.W.fnOf "_law_hand" "_law_hand" (defArgs s_law_hand) (defBody s_law_hand) (defScope s_law_hand) .none kV99 dc95 pm96 an92 cd97 ct98),sl93⟩)
 (c_law_hand:PySem.W.codeIn K cd97 "_law_hand" =true)
 (k_law_hand:PySem.W.keepIn K (.ref f90)=true)
 (a_law_take:PySem.W.nsIn K mainGlobals "_law_take" =some (some (.ref f100)))
 (l_law_take:K.lookup f100=some ⟨oc104,od101, .func (PySem.W.fnOf "_law_take" "_law_take" (defArgs s_law_take) (defBody s_law_take) (defScope s_law_take) .none kV109 dc105 pm106 an102 cd107 ct108),sl103⟩)
 (c_law_take:PySem.W.codeIn K cd107 "_law_take" =true)
 (k_law_take:PySem.W.keepIn K (.ref f100)=true)
 (a_law_pick:PySem.W.nsIn K mainGlobals "_law_pick" =some (some (.ref f110)))
 (l_law_pick:K.lookup f110=some ⟨oc114,od111, .func (PySem.W.fnOf "_law_pick" "_law_pick" (defArgs s_law_pick) (defBody s_law_pick) (defScope s_law_pick) .none kV119 dc115 pm116 an112 cd117 ct118),sl113⟩)
 (c_law_pick:PySem.W.codeIn K cd117 "_law_pick" =true)
 (k_law_pick:PySem.W.keepIn K (.ref f110)=true)
 (a_law_called:PySem.W.nsIn K mainGlobals "_law_called" =some (some (.ref f120)))
 (l_law_called:K.lookup f120=some ⟨oc124,od121, .func (PySem.W.fnOf "_law_called" "_law_called" (defArgs s_law_called) (defBody s_law_called) (defScope s_law_called) .none kV129 dc125 pm126 an122 cd127 ct128),sl123⟩)
 (c_law_called:PySem.W.codeIn K cd127 "_law_called" =true)
 (k_law_called:PySem.W.keepIn K (.ref f120)=true)
 (a_law_digit:PySem.W.nsIn K mainGlobals "_law_digit" =some (some (.ref f130)))
 (l_law_digit:K.lookup f130=some ⟨oc134,od131, .func (PySem.W.fnOf "_law_digit" "_law_digit" (defArgs s_law_digit) (defBody s_law_digit) (defScope s_law_digit) .none kV139 dc135 pm136 an132 cd137 ct138),sl133⟩)
 (c_law_digit:PySem.W.codeIn K cd137 "_law_digit" =true)
 (k_law_digit:PySem.W.keepIn K (.ref f130)=true)
 (a_law_grown:PySem.W.nsIn K mainGlobals "_law_grown" =some (some (.ref f140)))
 (l_law_grown:K.lookup f140=some ⟨oc144,od141, .func (PySem.W.fnOf "_law_grown" "_law_grown" (defArgs s_law_grown) (defBody s_law_grown) (defScope s_law_grown) .none kV149 dc145 pm146 an142 cd147 ct148),sl143⟩)
 (c_law_grown:PySem.W.codeIn K cd147 "_law_grown" =true)
 (k_law_grown:PySem.W.keepIn K (.ref f140)=true)
 (a_law_code:PySem.W.nsIn K mainGlobals "_law_code" =some (some (.ref f150)))
 (l_law_code:K.lookup f150=some ⟨oc154,od151, .func (PySem.W.fnOf "_law_code" "_law_code" (defArgs s_law_code) (defBody s_law_code) (defScope s_law_code) .none kV159 dc155 pm156 an152 cd157 ct158),sl153⟩)
 (c_law_code:PySem.W.codeIn K cd157 "_law_code" =true)
 (k_law_code:PySem.W.keepIn K (.ref f150)=true)
 (a_law_spots:PySem.W.nsIn K mainGlobals "_law_spots" =some (some (.ref f160)))
 (l_law_spots:K.lookup f160=some ⟨oc164,od161, .func (PySem.W.fnOf "_law_spots" "_law_spots" (defArgs s_law_spots) (defBody s_law_spots) (defScope s_law_spots) .none kV169 dc165 pm166 an162 cd167 ct168),sl163⟩)
 (c_law_spots:PySem.W.codeIn K cd167 "_law_spots" =true)
 (k_law_spots:PySem.W.keepIn K (.ref f160)=true)
 (a_law_givers:PySem.W.nsIn K mainGlobals "_law_givers" =some (some (.ref f170)))
 (l_law_givers:K.lookup f170=some ⟨oc174,od171, .func (PySem.W.fnOf "_law_givers" "_law_givers" (defArgs s_law_givers) (defBody s_law_givers) (defScope s_law_givers) .none kV179 dc175 pm176 an172 cd177 ct178),sl173⟩)
 (c_law_givers:PySem.W.codeIn K cd177 "_law_givers" =true)
 (k_law_givers:PySem.W.keepIn K (.ref f170)=true)
 (a_law_asked:PySem.W.nsIn K mainGlobals "_law_asked" =some (some (.ref f180)))
 (l_law_asked:K.lookup f180=some ⟨oc184,od181, .func (PySem.W.fnOf "_law_asked" "_law_asked" (defArgs s_law_asked) (defBody s_law_asked) (defScope s_law_asked) .none kV189 dc185 pm186 an182 cd187 ct188),sl183⟩)
 (c_law_asked:PySem.W.codeIn K cd187 "_law_asked" =true)
 (k_law_asked:PySem.W.keepIn K (.ref f180)=true)
 (lamC:cd187= .ref Cq190)
 (lamO:K.lookup Cq190=some oY191)
 (lamT:codP oY191=some Tq192)
 (lamH:codHdO oY191 Cq190 Tq192=true)
 (lamN:K.lookup Tq192=none)
 (a_law_right:PySem.W.nsIn K mainGlobals "_law_right" =some (some (.ref f193)))
 (l_law_right:K.lookup f193=some ⟨oc197,od194, .func (PySem.W.fnOf "_law_right" "_law_right" (defArgs s_law_right) (defBody s_law_right) (defScope s_law_right) .none kV202 dc198 pm199 an195 cd200 ct201),sl196⟩)
 (c_law_right:PySem.W.codeIn K cd200 "_law_right" =true)
 (k_law_right:PySem.W.keepIn K (.ref f193)=true)
 (a_law_refused:PySem.W.nsIn K mainGlobals "_law_refused" =some (some (.ref f203)))
 (l_law_refused:K.lookup f203=some ⟨oc207,od204, .func (PySem.W.fnOf "_law_refused" "_law_refused" (defArgs s_law_refused) (defBody s_law_refused) (defScope s_law_refused) .none kV212 dc208 pm209 an205 cd210 ct211),sl206⟩)
 (c_law_refused:PySem.W.codeIn K cd210 "_law_refused" =true)
 (k_law_refused:PySem.W.keepIn K (.ref f203)=true)
 (a_law:PySem.W.nsIn K mainGlobals "law" =some (some (.ref f213)))
 (l_law:K.lookup f213=some ⟨oc217,od214, .func (PySem.W.fnOf "law" "law" (defArgs s_law) (defBody s_law) (defScope s_law) .none kV222 dc218 pm219 an215 cd220 ct221),sl216⟩)
 (c_law:PySem.W.codeIn K cd220 "law" =true)
 (k_law:PySem.W.keepIn K (.ref f213)=true)
 (xc_NoPlace:PySem.W.findIn K (.ref X6) "__init__" =some (some (.ref f223)))
 (xt_NoPlace:PySem.W.typeIn K (.ref f223)=some (.type "function"))
 (l_NoPlace___init__:K.lookup f223=some ⟨oc227,od224, .func (PySem.W.fnOf "__init__" "NoPlace.__init__" (defArgs s_NoPlace___init__) (defBody s_NoPlace___init__) (defScope s_NoPlace___init__) .none kV232 dc228 pm229 an225 cd230 ct231),sl226⟩)
 (c_NoPlace___init__:PySem.W.codeIn K cd230 "NoPlace.__init__" =true)
 (k_NoPlace___init__:PySem.W.keepIn K (.ref f223)=true)
 (z_abs:PySem.W.nsIn K mainGlobals "abs" =some none)
 (z_all:PySem.W.nsIn K mainGlobals "all" =some none)
 (z_bool:PySem.W.nsIn K mainGlobals "bool" =some none)
 (z_dict:PySem.W.nsIn K mainGlobals "dict" =some none)
 (z_enumerate:PySem.W.nsIn K mainGlobals "enumerate" =some none)
 (z_int:PySem.W.nsIn K mainGlobals "int" =some none)
 (z_isinstance:PySem.W.nsIn K mainGlobals "isinstance" =some none)
 (z_len:PySem.W.nsIn K mainGlobals "len" =some none)
 (z_list:PySem.W.nsIn K mainGlobals "list" =some none)
 (z_max:PySem.W.nsIn K mainGlobals "max" =some none)
 (z_min:PySem.W.nsIn K mainGlobals "min" =some none)
 (z_range:PySem.W.nsIn K mainGlobals "range" =some none)
 (z_repr:PySem.W.nsIn K mainGlobals "repr" =some none)
 (z_sorted:PySem.W.nsIn K mainGlobals "sorted" =some none)
 (z_tuple:PySem.W.nsIn K mainGlobals "tuple" =some none)
 (x_GIVERS:PySem.W.nsIn K mainGlobals "GIVERS" =some (some (.ref a233)))
 (l_GIVERS:K.lookup a233=some ⟨.type "tuple",dd236, .seq (List.toArray [(.str "let" t234),(.str "each" t235)]) n237,sl238⟩)
 (x_NAME:PySem.W.nsIn K mainGlobals "NAME" =some (some (.str "name" t239)))
 : ∃(fd:FuncData) (TT:Addr),(∀ (s:Shared) (v:Value),BindsTo s fd ⟨[v],[]⟩ [("_law_script",v)])∧TabIs ⟨K,w,mg⟩ "_law_asked" TT∧K.lookup TT=none∧∀base:Heap,K.In base→base.Ns mainGlobals mg→(∃ o,base.get? sysModules=some o)→BltIn base mg→FnG l.prog w K mg base (lw 70) fa fd ["_law_script"] (spLawT K TT):=by
 have e:=hfa.symm.trans (PySem.W.mg_of X G a_law)
 cases e
 have F_is_whole:=funD_mk (K:=K) (kws:= []) l_is_whole c_is_whole k_is_whole kw_none
 have F_is_number:=funD_mk (K:=K) (kws:= [("low", .int 0),("high", .int 9972)]) l_is_number c_is_number k_is_number (kw_some (kw_cons w_is_number_low ⟨_,rfl⟩ (kw_cons w_is_number_high ⟨_,rfl⟩ kw_nil)))
 have F_at:=funD_mk (K:=K) (kws:= []) l_at c_at k_at kw_none
 have F_is_within:=funD_mk (K:=K) (kws:= []) l_is_within c_is_within k_is_within kw_none
 have F_Scopes___init__:=funD_mk (K:=K) (kws:= []) l_Scopes___init__ c_Scopes___init__ k_Scopes___init__ kw_none
 have F_Scopes_asked:=funD_mk (K:=K) (kws:= []) l_Scopes_asked c_Scopes_asked k_Scopes_asked kw_none
 have F_free_in:=funD_mk (K:=K) (kws:= []) l_free_in c_free_in k_free_in kw_none
 have F_asked_at:=funD_mk (K:=K) (kws:= []) l_asked_at c_asked_at k_asked_at kw_none
 have F_law_hand:=funD_mk (K:=K) (kws:= []) l_law_hand c_law_hand k_law_hand kw_none
 have F_law_take:=funD_mk (K:=K) (kws:= []) l_law_take c_law_take k_law_take kw_none
 have F_law_pick:=funD_mk (K:=K) (kws:= []) l_law_pick c_law_pick k_law_pick kw_none
 have F_law_called:=funD_mk (K:=K) (kws:= []) l_law_called c_law_called k_law_called kw_none
 have F_law_digit:=funD_mk (K:=K) (kws:= []) l_law_digit c_law_digit k_law_digit kw_none
 have F_law_grown:=funD_mk (K:=K) (kws:= []) l_law_grown c_law_grown k_law_grown kw_none
 have F_law_code:=funD_mk (K:=K) (kws:= []) l_law_code c_law_code k_law_code kw_none
 have F_law_spots:=funD_mk (K:=K) (kws:= []) l_law_spots c_law_spots k_law_spots kw_none
 have F_law_givers:=funD_mk (K:=K) (kws:= []) l_law_givers c_law_givers k_law_givers kw_none
 have F_law_asked:=funD_mk (K:=K) (kws:= []) l_law_asked c_law_asked k_law_asked kw_none
 have F_law_right:=funD_mk (K:=K) (kws:= []) l_law_right c_law_right k_law_right kw_none
 have F_law_refused:=funD_mk (K:=K) (kws:= []) l_law_refused c_law_refused k_law_refused kw_none
 have F_law:=funD_mk (K:=K) (kws:= []) l_law c_law k_law kw_none
 have F_NoPlace___init__:=funD_mk (K:=K) (kws:= []) l_NoPlace___init__ c_NoPlace___init__ k_NoPlace___init__ kw_none
 have T:Txt K w mg (fun i=>([f8,f18,f30,f40,f50,f60,f70,f80,f90,f100,f110,f120,f130,f140,f150,f160,f170,f180,f193,f203,fa,C1,X7,X3,X2,X6,X4,X5,0,0,0,f223,0,0] :List Addr).getD i 0) (fdOf _ _ _ _ _ _ _ _ _ _ _ _ _ _ _ _ _ _ _ _ _ default default default default default default default default default default _ default default):= {
  z_abs:=PySem.W.mg_none_of X G z_abs,
  z_all:=PySem.W.mg_none_of X G z_all,
  z_bool:=PySem.W.mg_none_of X G z_bool,
  z_dict:=PySem.W.mg_none_of X G z_dict,
  z_enumerate:=PySem.W.mg_none_of X G z_enumerate,
  z_int:=PySem.W.mg_none_of X G z_int,
  z_isinstance:=PySem.W.mg_none_of X G z_isinstance,
  z_len:=PySem.W.mg_none_of X G z_len,
  z_list:=PySem.W.mg_none_of X G z_list,
  z_max:=PySem.W.mg_none_of X G z_max,
  z_min:=PySem.W.mg_none_of X G z_min,
  z_range:=PySem.W.mg_none_of X G z_range,
  z_repr:=PySem.W.mg_none_of X G z_repr,
  z_sorted:=PySem.W.mg_none_of X G z_sorted,
  z_tuple:=PySem.W.mg_none_of X G z_tuple,
  c_GIVERS:=grep_of (PySem.W.mg_of X G x_GIVERS) (kv_tup l_GIVERS (kvs_cons kv_str (kvs_cons kv_str kvs_nil))),
  c_NAME:=grep_of (PySem.W.mg_of X G x_NAME) kv_str,
  g_is_whole:=PySem.W.mg_of X G a_is_whole,
  F_is_whole:=F_is_whole,
  g_is_number:=PySem.W.mg_of X G a_is_number,
  F_is_number:=F_is_number,
  g_at:=PySem.W.mg_of X G a_at,
  F_at:=F_at,
  g_is_within:=PySem.W.mg_of X G a_is_within,
  F_is_within:=F_is_within,
  mk_Scopes___init__:=⟨mk_Scopes,a_Scopes___init__,i_Scopes___init__,kc_Scopes⟩,
  F_Scopes___init__:=F_Scopes___init__,
  mt_Scopes_asked:=⟨_,PySem.W.mg_of X G a_Scopes,⟨pg_Scopes,hd_Scopes,po_Scopes,sa_Scopes⟩,⟨a_Scopes_asked,i_Scopes_asked,k_Scopes_asked⟩⟩,
  F_Scopes_asked:=F_Scopes_asked,
  g_free_in:=PySem.W.mg_of X G a_free_in,
  F_free_in:=F_free_in,
  g_asked_at:=PySem.W.mg_of X G a_asked_at,
  F_asked_at:=F_asked_at,
  g_law_hand:=PySem.W.mg_of X G a_law_hand,
  F_law_hand:=F_law_hand,
  g_law_take:=PySem.W.mg_of X G a_law_take,
  F_law_take:=F_law_take,
  g_law_pick:=PySem.W.mg_of X G a_law_pick,
  F_law_pick:=F_law_pick,
  g_law_called:=PySem.W.mg_of X G a_law_called,
  F_law_called:=F_law_called,
  g_law_digit:=PySem.W.mg_of X G a_law_digit,
  F_law_digit:=F_law_digit,
  g_law_grown:=PySem.W.mg_of X G a_law_grown,
  F_law_grown:=F_law_grown,
  g_law_code:=PySem.W.mg_of X G a_law_code,
  F_law_code:=F_law_code,
  g_law_spots:=PySem.W.mg_of X G a_law_spots,
  F_law_spots:=F_law_spots,
  g_law_givers:=PySem.W.mg_of X G a_law_givers,
  F_law_givers:=F_law_givers,
  g_law_asked:=PySem.W.mg_of X G a_law_asked,
  F_law_asked:=F_law_asked,
  g_law_right:=PySem.W.mg_of X G a_law_right,
  F_law_right:=F_law_right,
  g_law_refused:=PySem.W.mg_of X G a_law_refused,
  F_law_refused:=F_law_refused,
  g_law:=PySem.W.mg_of X G a_law,
  F_law:=F_law,
  ca_Scopes:=PySem.W.mg_of X G a_Scopes,
  ca_Halted:=PySem.W.mg_of X G a_Halted,
  xd_Halted:=⟨sb_Halted,hd_Halted,ty_Halted⟩,
  ca_Missing:=PySem.W.mg_of X G a_Missing,
  xd_Missing:=⟨sb_Missing,hd_Missing,ty_Missing⟩,
  ca_NoName:=PySem.W.mg_of X G a_NoName,
  xd_NoName:=⟨sb_NoName,hd_NoName,ty_NoName⟩,
  ca_NoNumber:=PySem.W.mg_of X G a_NoNumber,
  xd_NoNumber:=⟨sb_NoNumber,hd_NoNumber,ty_NoNumber⟩,
  ca_NoPlace:=PySem.W.mg_of X G a_NoPlace,
  xd_NoPlace:=⟨sb_NoPlace,hd_NoPlace,ty_NoPlace⟩,
  xi_NoPlace:=⟨ga_NoPlace,gg_NoPlace,sb_NoPlace,hd_NoPlace,cl_NoPlace,sp_class,tk_class,mr_NoPlace⟩,
  xn_NoPlace:=xn_NoPlace,
  xo_NoPlace:=⟨_,_,_,_,PySem.F.excBase_LookupError,PySem.F.store_LookupError,in_NoPlace,ov_NoPlace,sa_NoPlace,sb_NoPlace,ty_NoPlace,kp_NoPlace,hd_NoPlace⟩,
  xc_NoPlace:=xc_NoPlace,
  xt_NoPlace:=xt_NoPlace,
  F_NoPlace___init__:=F_NoPlace___init__,
  ca_Refused:=PySem.W.mg_of X G a_Refused,
  xd_Refused:=⟨sb_Refused,hd_Refused,ty_Refused⟩,
  xs_NoPlace__Halted:=xs_NoPlace__Halted,
  xs_NoPlace__Missing:=xs_NoPlace__Missing,
  xs_NoPlace__NoName:=xs_NoPlace__NoName,
  xs_NoPlace__NoNumber:=xs_NoPlace__NoNumber,
  xs_NoPlace__NoPlace:=xs_NoPlace__NoPlace,
  xs_NoPlace__Refused:=xs_NoPlace__Refused,
  fo_givers:=(fld_cons (PySem.W.mg_of X G a_Scopes) ⟨pg_Scopes,hd_Scopes,po_Scopes,sa_Scopes⟩ n_Scopes_givers fld_nil),
  fo_names:=(fld_cons (PySem.W.mg_of X G a_Scopes) ⟨pg_Scopes,hd_Scopes,po_Scopes,sa_Scopes⟩ n_Scopes_names fld_nil) }
 have ti:TabIs ⟨K,w,mg⟩ "_law_asked" Tq192:=⟨_,_,_,_,_,_,PySem.W.mg_of X G a_law_asked,l_law_asked,lamC,codeHdIn_of lamO lamH⟩
 exact⟨_,_,fun s v=> .of_eq rfl,ti,lamN,fun base _ _ hM hB=>law_okT (G:=⟨K,w,mg⟩) ti (all (P:=l.prog) (base:=base) hM hB T 70).c_law.1 TT⟩
end K05
namespace L3
open PySem L2
def Hand (n:Nat) (S:Store):Prop:=∃g s:Int,S[n]? =some (.lst [.int g, .int s])
structure FrH (n:Nat) (S S':Store):Prop where
 le:S.length≤S'.length
 fr:∀m o,m≠n→S[m]? =some o→S'[m]? =some o
 hd:Hand n S'
theorem FrH.trans {n:Nat} {S S' S'':Store} (h:FrH n S S') (g:FrH n S' S''):FrH n S S'':=⟨Nat.le_trans h.le g.le,fun m o hm e=>g.fr m o hm (h.fr m o hm e),g.hd⟩
theorem Hand.lt {n:Nat} {S:Store} (h:Hand n S):n<S.length:=by
 obtain⟨g,s,e⟩:=h
 exact(List.getElem?_eq_some_iff.mp e).1
theorem FrH.set {n:Nat} {S:Store} (h:Hand n S) (g s:Int):FrH n S (S.set n (.lst [.int g, .int s])):=by
 refine⟨by simp,fun m o hm e=> ?_,⟨g,s,by simp[List.getElem?_set_self h.lt]⟩⟩
 rw[List.getElem?_set_ne (Ne.symm hm)];exact e
theorem FrH.app {n:Nat} {S:Store} (h:Hand n S) (o:O):FrH n S (S++ [o]):=by
 have e:∀(m:Nat) (o':O),S[m]? =some o'→(S++ [o])[m]? =some o':=fun m o' e=>by
  rw[List.getElem?_append_left (List.getElem?_eq_some_iff.mp e).1];exact e
 obtain⟨g,s,q⟩:=h
 exact⟨by simp,fun m o' _ q=>e m o' q,⟨g,s,e _ _ q⟩⟩
theorem FrH.put {n p:Nat} {S S':Store} (h:FrH n S S') (hn:Hand n S) (hp:S.length≤p) (o:O):FrH n S (S'.set p o):=by
 have l:=hn.lt
 refine⟨by simp[h.le],fun m o' hm e=> ?_,?_⟩
 ·have:m<S.length:=(List.getElem?_eq_some_iff.mp e).1
  rw[List.getElem?_set_ne (by omega)];exact h.fr m o' hm e
 ·obtain⟨g,s,e⟩:=h.hd
  exact⟨g,s,by rw[List.getElem?_set_ne (by omega)];exact e⟩
theorem lg_lt {j:Int} {m:Nat} (h:j.natAbs<2 ^ 64):j.natAbs.log2<9000:=by
 by_cases h0:j.natAbs=0
 ·rw[h0];decide
 ·exact Nat.lt_trans ((Nat.log2_lt h0).mpr h) (by decide)
def mTake:SD:=
    sSeq (sIf (tOfE (e2 gtD (e2 ixD (eVar 0) (eK (.int 0))) (eK (.int 0)))) (sSeq (sAsg (e2 modD (e2 ixD (eVar 0) (eK (.int 0))) (eVar 1)) (gName 2))
    (sSeq (sAsg (e2 fdivD (e2 ixD (eVar 0) (eK (.int 0))) (eVar 1)) (gSub (eVar 0) (eK (.int 0))))
    (sRet (eVar 2)))) (sSkip))
    (sSeq (sAsg (e2 modD (e2 addD (e2 mulD (e2 ixD (eVar 0) (eK (.int 1))) (eK (.int 1181783497276652981))) (eK (.int 12345678910987))) (eK (.int 2305843009213693951))) (gSub (eVar 0) (eK (.int 1))))
    (sRet (e2 modD (e2 fdivD (e2 modD (e2 mulD (e2 fdivD (e2 ixD (eVar 0) (eK (.int 1))) (eK (.int 65537))) (e2 addD (e2 modD (e2 ixD (eVar 0) (eK (.int 1))) (eK (.int 65537))) (eK (.int 3)))) (eK (.int 2305843009213693921))) (eK (.int 97))) (eVar 1))))
section
variable {n:Nat} {S:Store} {Q:D→Store→Prop}
theorem ix0 {g s:Int} (h:S[n]? =some (.lst [.int g, .int s])):ixD (.obj n) (.int 0) S= .ok (.int g) S:=by simp[ixD,h,atI,ixN]
theorem ix1 {g s:Int} (h:S[n]? =some (.lst [.int g, .int s])):ixD (.obj n) (.int 1) S= .ok (.int s) S:=by simp[ixD,h,atI,ixN]
theorem set0 {g s x:Int} (h:S[n]? =some (.lst [.int g, .int s])):setD (.obj n) (.int 0) (.int x) S=some (S.set n (.lst [.int x, .int s])):=by simp[setD,h,ixN]
theorem set1 {g s x:Int} (h:S[n]? =some (.lst [.int g, .int s])):setD (.obj n) (.int 1) (.int x) S=some (S.set n (.lst [.int g, .int x])):=by simp[setD,h,ixN]
theorem mulOk_r {i j:Int} (h: -(2 ^ 64)<j∧j<2 ^ 64):mulOk i j=true:=by simp only[mulOk,decide_eq_true_eq];exact .inl (.inr h)
theorem mulOk_l {i j:Int} (h: -(2 ^ 64)<i∧i<2 ^ 64):mulOk i j=true:=by simp only[mulOk,decide_eq_true_eq];exact .inl (.inl h)
theorem take_ok (h:Hand n S) {many:Int} (hm:0<many) (hb:many<2 ^ 64):(run 2 3 mTake [.obj n, .int many] S).sat fun d S'=>(∃ i,d= .int i∧0≤i∧i<many)∧FrH n S S':=by
 obtain⟨g,s,e⟩:=h
 have h:Hand n S:=⟨g,s,e⟩
 have hlog:many.natAbs.log2<9000:=lg_lt (m:=0) (by omega)
 rw[sat_run]
 refine⟨rfl,?_⟩
 unfold mTake
 have l2:∀j:Nat,j<2 ^ 64→0<j→j.log2<9000:=fun j hj h0=>Nat.lt_trans ((Nat.log2_lt (by omega)).mpr hj) (by decide)
 by_cases hg:0<g
 ·simp[ix0 e,hg,mod_int,fdiv_int,hm,hlog,gSub,eVar,eK,set0 e]
  exact⟨⟨Int.emod_nonneg _ (by omega),Int.emod_lt_of_pos _ hm⟩, .set h _ _⟩
 ·have e2:(S.set n (.lst [.int g, .int ((s*1181783497276652981+12345678910987) % 2305843009213693951)]))[n]? =some (.lst [.int g, .int ((s*1181783497276652981+12345678910987) % 2305843009213693951)]):=by
   simp[List.getElem?_set_self h.lt]
  simp[ix0 e,ix1 e,ix1 e2,hg,mod_int,fdiv_int,mul_int,hm,hlog,gSub,eVar,eK,set1 e,mulOk_r]
  refine⟨l2 _ (by decide) (by decide),mulOk_r (by omega),l2 _ (by decide) (by decide),⟨Int.emod_nonneg _ (by omega),Int.emod_lt_of_pos _ hm⟩, .set h _ _⟩
def IsTake (tk:FN):Prop:=∀(n:Nat) (S:Store) (many:Int),Hand n S→0<many→many<2 ^ 64→(tk [.obj n, .int many] S).sat fun d S'=>(∃ i,d= .int i∧0≤i∧i<many)∧FrH n S S'
theorem isTake:IsTake (run 2 3 mTake):=fun n S many h h1 h2=>take_ok h h1 h2
def mPick (tk:FN):SD:=sRet (e2 ixD (eVar 1) (eN (callK tk []) (aCons (eVar 0) (aCons (eN lenD (aCons (eVar 1) (aNil))) (aNil)))))
theorem atI_mem {α :Type} {l:List α} {i:Int} (h0:0≤i) (h:i<l.length):∃x ∈ l,atI l i=some x:=by
 refine⟨l[i.toNat]'(by omega),List.getElem_mem _,?_⟩
 simp only[atI,ixN]
 simp[h0,h,show i.toNat<l.length by omega]
def mHand:SD:=
    sSeq (sAsg (e2 addD (e2 mulD (eK (.int 3)) (eVar 1)) (eN lenD (aCons (eVar 0) (aNil)))) (gName 2))
    (sSeq (sIf (tOfE (e2 ltD (eVar 1) (eN lenD (aCons (eVar 0) (aNil))))) (sAsg (e2 ixD (eVar 0) (eVar 1)) (gName 2)) (sSkip))
    (sSeq (sAsg (e2 mulD (e2 modD (eN absD (aCons (eVar 2) (aNil))) (e2 powD (e2 powD (eK (.int 10)) (eK (.int 60))) (eK (.int 5)))) (eN intD (aCons (e2 geD (eN absD (aCons (eVar 2) (aNil))) (e2 powD (eK (.int 10)) (eK (.int 18)))) (aNil)))) (gName 3))
    (sRet (eN mkObj (aCons (eVar 3) (aCons (e2 modD (e2 mulD (e2 addD (e2 addD (e2 modD (eVar 2) (eK (.int 2305843009213693951))) (e2 mulD (e2 mulD (eK (.int 7919)) (eVar 1)) (eVar 1))) (eK (.int 11))) (eK (.int 48271))) (eK (.int 2305843009213693951))) (aNil)))))))
def IsHand (hd:FN):Prop:=∀(S:Store) (ns:List Int) (k:Int),0≤k→k<2 ^ 32→(hd [.scr ns, .int k] S).sat fun d S'=>d= .obj S.length∧∃g s:Int,S'=S++ [.lst [.int g, .int s]]
def T60:Int:=10 ^ 60
def T300:Int:=10 ^ 300
theorem T300_pos:0<T300:=by decide +kernel
theorem pw1:powD (.int 10) (.int 60) S= .ok (.int T60) S:=by kernel_rfl
theorem pw2:powD (.int T60) (.int 5) S= .ok (.int T300) S:=by kernel_rfl
theorem pw3:powD (.int 10) (.int 18) S= .ok (.int 1000000000000000000) S:=by kernel_rfl
theorem isHand:IsHand (run 2 4 mHand):=fun S ns k h0 hk=>by
 rw[sat_run]
 refine⟨rfl,?_⟩
 have key:∀c:Int,((sSeq (sAsg (e2 mulD (e2 modD (eN absD (aCons (eVar 2) (aNil))) (e2 powD (e2 powD (eK (.int 10)) (eK (.int 60))) (eK (.int 5)))) (eN intD (aCons (e2 geD (eN absD (aCons (eVar 2) (aNil))) (e2 powD (eK (.int 10)) (eK (.int 18)))) (aNil)))) (gName 3))
  (sRet (eN mkObj (aCons (eVar 3) (aCons (e2 modD (e2 mulD (e2 addD (e2 addD (e2 modD (eVar 2) (eK (.int 2305843009213693951))) (e2 mulD (e2 mulD (eK (.int 7919)) (eVar 1)) (eVar 1))) (eK (.int 11))) (eK (.int 48271))) (eK (.int 2305843009213693951))) (aNil)))))) [some (.scr ns),some (.int k),some (.int c),none] S).sat
    (fun _ S1=>D.non= .obj S.length∧∃g s:Int,S1=S++ [.lst [.int g, .int s]]) (fun d S'=>d= .obj S.length∧∃g s:Int,S'=S++ [.lst [.int g, .int s]]) (fun _ _=>False) fun _ _=>False:=fun c=>by
  simp[pw1,pw2,pw3,absD,intD,mod_int,mul_int,T300_pos]
  refine⟨mulOk_r (by split<;>omega),mulOk_l (by omega),mulOk_r (by omega),mulOk_r (by omega),by decide⟩
 unfold mHand
 simp only[ssat_seq,ssat_asg,sat_e2,sat_eK,sat_eVar,ssat_if,sat_eN,sat_aCons,sat_aNil]
 simp[mul_int,mulOk_l]
 by_cases hc:k<ns.length
 ·obtain⟨x,hx,e⟩:=atI_mem (l:=ns) h0 hc
  simp[hc,ixD,e]
  have:=key x
  simpa[mul_int,mulOk_l] using this
 ·simp[hc]
  have:=key (3*k+ns.length)
  simpa[mul_int,mulOk_l] using this
end
end L3
namespace L3
open PySem L2
section
variable {S:Store} {env:EnvD} {Q:D→Store→Prop}
@[simp] theorem isi_tup {l:List D} :isiD [.tup l, .ty "tuple"] S= .ok (.bl true) S:=by kernel_rfl
@[simp] theorem isi_str {s:Str} :isiD [.str s, .ty "str"] S= .ok (.bl true) S:=by kernel_rfl
@[simp] theorem isi_bl {b:Bool} :isiD [.bl b, .ty "bool"] S= .ok (.bl true) S:=by kernel_rfl
@[simp] theorem isi_lst_tup {l:List D} :isiD [.lst l, .ty "tuple"] S= .ok (.bl false) S:=by kernel_rfl
@[simp] theorem isi_dic_tup {k} {l:List D} :isiD [.dic k l, .ty "tuple"] S= .ok (.bl false) S:=by kernel_rfl
@[simp] theorem isi_str_tup {l:Str} :isiD [.str l, .ty "tuple"] S= .ok (.bl false) S:=by kernel_rfl
@[simp] theorem isi_int_tup {l:Int} :isiD [.int l, .ty "tuple"] S= .ok (.bl false) S:=by kernel_rfl
@[simp] theorem isi_bl_tup {l:Bool} :isiD [.bl l, .ty "tuple"] S= .ok (.bl false) S:=by kernel_rfl
@[simp] theorem isi_non_tup:isiD [.non, .ty "tuple"] S= .ok (.bl false) S:=by kernel_rfl
@[simp] theorem isi_lst_str {l:List D} :isiD [.lst l, .ty "str"] S= .ok (.bl false) S:=by kernel_rfl
@[simp] theorem isi_tup_str {l:List D} :isiD [.tup l, .ty "str"] S= .ok (.bl false) S:=by kernel_rfl
@[simp] theorem isi_dic_str {k} {l:List D} :isiD [.dic k l, .ty "str"] S= .ok (.bl false) S:=by kernel_rfl
@[simp] theorem isi_int_str {l:Int} :isiD [.int l, .ty "str"] S= .ok (.bl false) S:=by kernel_rfl
@[simp] theorem isi_bl_str {l:Bool} :isiD [.bl l, .ty "str"] S= .ok (.bl false) S:=by kernel_rfl
@[simp] theorem isi_non_str:isiD [.non, .ty "str"] S= .ok (.bl false) S:=by kernel_rfl
@[simp] theorem isi_int {l:Int} :isiD [.int l, .ty "int"] S= .ok (.bl true) S:=by kernel_rfl
@[simp] theorem isi_bl_int {l:Bool} :isiD [.bl l, .ty "int"] S= .ok (.bl true) S:=by kernel_rfl
@[simp] theorem isi_int_bl {l:Int} :isiD [.int l, .ty "bool"] S= .ok (.bl false) S:=by kernel_rfl
@[simp] theorem isi_tup_int {l:List D} :isiD [.tup l, .ty "int"] S= .ok (.bl false) S:=by kernel_rfl
@[simp] theorem isi_lst_int {l:List D} :isiD [.lst l, .ty "int"] S= .ok (.bl false) S:=by kernel_rfl
@[simp] theorem isi_dic_int {k} {l:List D} :isiD [.dic k l, .ty "int"] S= .ok (.bl false) S:=by kernel_rfl
@[simp] theorem isi_str_int {l:Str} :isiD [.str l, .ty "int"] S= .ok (.bl false) S:=by kernel_rfl
@[simp] theorem isi_non_int:isiD [.non, .ty "int"] S= .ok (.bl false) S:=by kernel_rfl
@[simp] theorem eq_strs {a b:Str} :eqD (.str a) (.str b) S= .ok (.bl (a==b)) S:=nrfl rfl
@[simp] theorem ne_strs {a b:Str} :neD (.str a) (.str b) S= .ok (.bl (!(a==b))) S:=nrfl rfl
@[simp] theorem eq_tup0 {l:List D} :eqD (.tup l) (.tup []) S= .ok (.bl l.isEmpty) S:=nrfl rfl
@[simp] theorem ne_tup0 {l:List D} :neD (.tup l) (.tup []) S= .ok (.bl (!l.isEmpty)) S:=nrfl rfl
theorem all_lst:∀bs:List Bool,allBls (bs.map D.bl)=some bs
 | [] =>rfl
 |b::bs=>by simp[allBls,all_lst bs]
theorem all_bl (bs:List Bool):allD [.lst (bs.map D.bl)] S= .ok (.bl (bs.all id)) S:=by simp[allD,asL,all_lst]
theorem small {n:Nat} (h:n≤1000):n≤sizeLine:=Nat.le_trans h (by decide)
theorem add_lst {a b:List D} (h:a.length+b.length≤sizeLine):addD (.lst a) (.lst b) S= .ok (.lst (a++b)) S:=by simp[addD,asL,h]
theorem add_tup {a b:List D} (h:a.length+b.length≤sizeLine):addD (.tup a) (.tup b) S= .ok (.tup (a++b)) S:=by simp[addD,h]
theorem add_str {a b:Str} (h:a.length+b.length≤sizeLine):addD (.str a) (.str b) S= .ok (.str (a++b)) S:=by simp[addD,h]
theorem mem_range {lo hi:Int} {x:D} (h:x ∈ rangeD lo hi):∃i:Int,x= .int i∧lo≤i∧i<hi:=by
 simp only[rangeD,List.mem_map,List.mem_range] at h
 obtain⟨a,ha,rfl⟩:=h
 exact⟨_,rfl,by omega,by omega⟩
variable {N B C:EnvD→Store→Prop} {T:D→Store→Prop}
theorem for_each {g:GD} {body:SD} (I:EnvD→Store→Prop) {xs:List D} (h0:I env S)
 (hs:∀x ∈ xs,∀e S,I e S→(g x e S).sat (fun e S=>(body e S).sat I T N I) (fun _ _=>False) (fun _ _=>False) fun _ _=>False)
 (hN:∀e S,I e S→N e S):(forL g body xs env S).sat N T B C:=
 for_rule (fun _=>I) h0 (fun j hj e S h=>hs _ (List.getElem_mem hj) e S h) hN
theorem for_n {i:Nat} {body:SD} (I:EnvD→Store→Prop) {xs:List D} (h0:I env S)
 (hs:∀x ∈ xs,∀e S,I e S→(body (e.set i (some x)) S).sat I T N I) (hN:∀e S,I e S→N e S):(forL (gName i) body xs env S).sat N T B C:=
 for_each I h0 (fun x hx e S h=>by rw[gName_eq,ssat_nx];exact hs x hx e S h) hN
theorem seq_rule {a b:SD} (M:EnvD→Store→Prop) (h:(a env S).sat M T B C) (k:∀e S,M e S→(b e S).sat N T B C):(sSeq a b env S).sat N T B C:=by
 rw[ssat_seq];exact ssat_mono h k (fun _ _ h=>h) (fun _ _ h=>h) fun _ _ h=>h
@[simp] theorem sat_pNo {QO:Option Int→Store→Prop} :(pNo env S).sat QO=QO none S:=sat_ok
@[simp] theorem sat_pYes {a:ED} {QO:Option Int→Store→Prop} :(pYes a env S).sat QO=(a env S).sat fun x S1=>∃i,x= .int i∧QO (some i) S1:=by
  unfold pYes;rw[sat_bind];congr;funext x S1
  cases x<;>simp
@[simp] theorem sat_eSl {a:ED} {l h:PD} :(eSl a l h env S).sat Q=(a env S).sat fun x S1=>(l env S1).sat fun lo S2=>(h env S2).sat fun hi S3=>(slD x lo hi S3).sat Q:=by
  unfold eSl;simp only[sat_bind]
@[simp] theorem sl_tup {l:List D} {lo hi:Option Int} :slD (.tup l) lo hi S= .ok (.tup (cutL l lo hi)) S:=nrfl rfl
@[simp] theorem sl_lst {l:List D} {lo hi:Option Int} :slD (.lst l) lo hi S= .ok (.lst (cutL l lo hi)) S:=nrfl rfl
@[simp] theorem sat_eBackT {a:ED} :(eBackT a env S).sat Q=(a env S).sat fun x S1=>∃l,x= .tup l∧Q (.tup l.reverse) S1:=by
  unfold eBackT;rw[sat_bind];congr;funext x S1
  cases x<;>simp
@[simp] theorem sat_eDic0:(eDic0 env S).sat Q=Q (.dic [] []) S:=sat_ok
@[simp] theorem sat_eDct0:(eDct0 env S).sat Q=Q (.obj S.length) (S++ [.dK []]):=sat_ok
end
end L3
namespace L3
open PySem L2
section
variable {S:Store} {env:EnvD} {Q:D→Store→Prop} {QL:List D→Store→Prop} {N B C:EnvD→Store→Prop} {T:D→Store→Prop}
theorem insAt_obj {n:Nat} {c:Str} {fs:List (Str × D)} (h:S[n]? =some (.ins c fs)):insAt (.obj n) S=some (n,c,fs):=by simp only[insAt,h]
theorem fld_eq {n:Nat} {c f:Str} {fs:List (Str × D)} {cs:List Str} {d:D} (h:S[n]? =some (.ins c fs)) (hc:c ∈ cs) (hf:fs.lookup f=some d):fldD cs f (.obj n) S= .ok d S:=by
 simp only[fldD,insAt_obj h,hc,hf,if_true]
theorem sat_eMeth {c m:Str} {F:FN} {mo:ED} {ma:AD} :(eMeth c m F mo ma env S).sat Q=(mo env S).sat fun x S1=>∃n fs,insAt x S1=some (n,c,fs)∧fs.lookup m=none∧(ma env S1).sat fun xs S2=>(F (x::xs) S2).sat Q:=by
 unfold eMeth;rw[sat_bind];congr;funext x S1
 cases h:insAt x S1 with
 |none=>simp
 |some v=>
  obtain⟨n,c',fs⟩:=v
  simp only []
  rw[sat_if_bad,sat_bind]
  apply propext
  constructor
  ·rintro⟨⟨e,h1⟩,h2⟩;subst e;exact⟨_,_,rfl,h1,h2⟩
  ·rintro⟨n',fs',e,h1,h2⟩;cases e;exact⟨⟨rfl,h1⟩,h2⟩
theorem sat_mkIns {c:Str} {F:FN} {xs:List D} :(mkIns c F xs S).sat Q=(F (.obj S.length::xs) (S++ [.ins c []])).sat fun d S1=>d= .non∧Q (.obj S.length) S1:=by
 unfold mkIns
 cases F (.obj S.length::xs) (S++ [.ins c []]) with
 |ok d S1=>cases d<;>simp
 | _=>simp
theorem ssat_fldD {cs:List Str} {f:Str} {mo mv:ED} :(sFldD cs f mo mv env S).sat N T B C=(mv env S).sat fun y S1=>(mo env S1).sat fun x S2=>∃n c fs,insAt x S2=some (n,c,fs)∧(c ∈ cs∧fs.length<1000)∧N env (S2.set n (.ins c (putFD f y fs))):=by
 unfold sFldD;rw[ssat_toS];congr;funext y S1;rw[ssat_toS];congr;funext x S2
 cases h:insAt x S2 with
 |none=>simp
 |some v=>
  obtain⟨n,c,fs⟩:=v
  simp only []
  apply propext
  constructor
  ·intro h1
   by_cases hc:c ∈ cs∧fs.length<1000
   ·rw[if_pos hc,ssat_nx] at h1;exact⟨_,_,_,rfl,hc,h1⟩
   ·rw[if_neg hc,ssat_bad] at h1;exact h1.elim
  ·rintro⟨n',c',fs',e,hc,h1⟩
   cases e
   rw[if_pos hc,ssat_nx];exact h1
@[simp] theorem gSeq_lst {is:List Nat} {l:List D} :gSeq is (.lst l) env S=gNames is l env S:=nrfl rfl
@[simp] theorem gSeq_tup {is:List Nat} {l:List D} :gSeq is (.tup l) env S=gNames is l env S:=nrfl rfl
theorem ssat_gSub {mo mi:ED} {v:D} :(gSub mo mi v env S).sat N T B C=(mo env S).sat fun o S1=>(mi env S1).sat fun i S2=>∃S3,setD o i v S2=some S3∧N env S3:=by
 unfold gSub
 cases mo env S with
 |ok o S1=>
  simp only[sat_ok]
  cases mi env S1 with
  |ok i S2=>
   simp only[sat_ok]
   cases setD o i v S2 with
   |some S3=>simp
   |none=>simp
  | _=>simp
 | _=>simp
theorem setD_dK {n:Nat} {kvs:List (Key × D)} {i v:D} {k:Key} (h:S[n]? =some (.dK kvs)) (hk:keyOf i=some k) (hz:kvs.length<sizeLine):setD (.obj n) i v S=some (S.set n (.dK (putD kvs k v))):=by
 simp only[setD,h,hk,hz,if_true]
theorem get_map_ne {κ :Type} [DecidableEq κ] {k k': κ} {v:D} (hk:k≠k'):∀ {kvs:List (κ × D)},dGet (kvs.map fun kv=>if kv.1=k then(kv.1,v) else kv) k'=dGet kvs k'
 | [] =>rfl
 |p::r=>by
  have ih:=get_map_ne (v:=v) hk (kvs:=r)
  unfold dGet at ih ⊢
  simp only[List.map_cons,List.find?_cons]
  by_cases hp:p.1=k
  ·have: ¬p.1=k':=fun z=>hk (hp.symm.trans z)
   simp only[if_pos hp,this,decide_false]
   exact ih
  ·simp only[if_neg hp]
   by_cases h2:p.1=k'
   ·simp[h2]
   ·simp only[h2,decide_false]
    exact ih
theorem get_map_eq {κ :Type} [DecidableEq κ] {k: κ} {v:D} :∀ {kvs:List (κ × D)},(kvs.any fun kv=>decide (kv.1=k))=true→dGet (kvs.map fun kv=>if kv.1=k then(kv.1,v) else kv) k=some v
 | [],h=>by simp at h
 |p::r,h=>by
  unfold dGet
  simp only[List.map_cons,List.find?_cons]
  by_cases hp:p.1=k
  ·simp[hp]
  ·have ih:=get_map_eq (v:=v) (kvs:=r) (by simpa[hp] using h)
   unfold dGet at ih
   rw[if_neg hp]
   simp only[hp,decide_false]
   exact ih
theorem get_put {κ :Type} [DecidableEq κ] {kvs:List (κ × D)} {k k': κ} {v:D} :dGet (putD kvs k v) k'=if k=k' then some v else dGet kvs k':=by
 unfold putD
 by_cases ha:(kvs.any fun kv=>decide (kv.1=k))=true
 ·rw[if_pos ha]
  by_cases hk:k=k'
  ·subst hk;rw[if_pos rfl,get_map_eq ha]
  ·rw[if_neg hk,get_map_ne hk]
 ·rw[if_neg ha]
  simp only[dGet,List.find?_append]
  by_cases hk:k=k'
  ·subst hk
   have:(kvs.find? fun kv=>decide (kv.1=k))=none:=by
    rw[List.find?_eq_none]
    intro x hx
    simp only[List.any_eq_true,not_exists,not_and] at ha
    exact ha x hx
   simp[this]
  ·simp only[if_neg hk]
   cases hf:kvs.find? fun kv=>decide (kv.1=k') with
   |some v=>simp
   |none=>simp[hk]
end
end L3
namespace L3
open PySem L2
def WORDS:List Str:= ["plus","times","most","row","say","less","below","if","let","each","num","name","any","rest","called","count"]
def isLet (c:Nat):Bool:=decide (97≤c)&&decide (c≤122)
structure NameOk (s:Str):Prop where
 lo:1≤s.length
 hi:s.length≤8
 lt:s.cps.toList.all isLet=true
 nw:s ∉ WORDS
inductive Tm where
 |num (i:Int)|nam (s:Str)|nd (w m:Str) (ps:List Tm)
mutual
def Tm.d:Tm→D
 | .num i=> .tup [.str "num", .int i, .tup []]
 | .nam s=> .tup [.str "name", .str s, .tup []]
 | .nd w m ps=> .tup [.str w, .str m, .tup (Tm.ds ps)]
def Tm.ds:List Tm→List D
 | [] => []
 |t::ts=>t.d::Tm.ds ts
end
mutual
def Tm.size:Tm→Nat
 | .num _=>1
 | .nam _=>1
 | .nd _ _ ps=>1+Tm.sizes ps
def Tm.sizes:List Tm→Nat
 | [] =>0
 |t::ts=>t.size+Tm.sizes ts
end
mutual
def Tm.dep:Tm→Nat
 | .num _=>1
 | .nam _=>1
 | .nd _ _ ps=>1+Tm.deps ps
def Tm.deps:List Tm→Nat
 | [] =>0
 |t::ts=>max t.dep (Tm.deps ts)
end
theorem Tm.ds_map:∀ts:List Tm,Tm.ds ts=ts.map Tm.d
 | [] =>rfl
 |t::ts=>by simp[Tm.ds,Tm.ds_map ts]
theorem Tm.ds_len (ts:List Tm):(Tm.ds ts).length=ts.length:=by simp[Tm.ds_map]
theorem Tm.sizes_app:∀a b:List Tm,Tm.sizes (a++b)=Tm.sizes a+Tm.sizes b
 | [],b=>by simp[Tm.sizes]
 |t::a,b=>by simp[Tm.sizes,Tm.sizes_app a b];omega
theorem Tm.deps_le {B:Nat} :∀ {ts:List Tm},Tm.deps ts≤B↔∀t ∈ ts,t.dep≤B
 | [] =>by simp[Tm.deps]
 |t::ts=>by simp[Tm.deps,Tm.deps_le (ts:=ts),Nat.max_le]
theorem Tm.size_pos:∀t:Tm,1≤t.size
 | .num _=>by simp[Tm.size]
 | .nam _=>by simp[Tm.size]
 | .nd _ _ ps=>by simp[Tm.size]
theorem Tm.dep_pos:∀t:Tm,1≤t.dep
 | .num _=>by simp[Tm.dep]
 | .nam _=>by simp[Tm.dep]
 | .nd _ _ ps=>by simp[Tm.dep]
def shape (w:Str):Option (Nat × Nat × Bool):=
 if w= "plus" ∨w= "times" ∨w= "most" then some (1,6,false)
 else if w= "row" then some (0,6,false)
 else if w= "say" then some (1,1,false)
 else if w= "less" ∨w= "below" then some (2,2,false)
 else if w= "if" then some (3,3,false)
 else if w= "let" ∨w= "each" then some (2,2,true)
 else none
inductive Good:Tm→Prop where
 |num {i:Int} :0≤i→i≤9972→Good (.num i)
 |nam {s:Str} :NameOk s→Good (.nam s)
 |nd {w m:Str} {ps:List Tm} {f mo:Nat} {g:Bool} :shape w=some (f,mo,g)→f≤ps.length→ps.length≤mo→(g=true→NameOk m)→(g=false→m= "")→(∀ p ∈ ps,Good p)→Good (.nd w m ps)
inductive Src (n:Nat) (S:Store):D→List D→Prop where
 |lst (l:List D):Src n S (.lst l) l
 |tup (l:List D):Src n S (.tup l) l
 |str (z:Str):z.length≤1000→Src n S (.str z) (z.cps.toList.map sgn)
 |obj {q:Nat} {l:List D} :q≠n→S[q]? =some (.lst l)→Src n S (.obj q) l
theorem Src.fr {n:Nat} {S S':Store} {x:D} {l:List D} (h:Src n S x l) (f:FrH n S S'):Src n S' x l:=by
 cases h with
 |lst=>exact .lst _
 |tup=>exact .tup _
 |str _ hz=>exact .str _ hz
 |obj hq e=>exact .obj hq (f.fr _ _ hq e)
theorem Src.len {n:Nat} {S:Store} {x:D} {l:List D} (h:Src n S x l):lenD [x] S= .ok (.int l.length) S:=by
 cases h with
 |lst=>rfl
 |tup=>rfl
 |str z hz=>
  unfold lenD
  simp only
  rw[if_pos (small hz)]
  simp[Str.length]
 |obj _ e=>exact len_obj e
theorem atI_map {α β :Type} (f: α → β) (l:List α) (i:Int):atI (l.map f) i=(atI l i).map f:=by
 unfold atI
 rw[List.length_map]
 cases ixN l.length i with
 |none=>rfl
 |some j=>simp
theorem Src.ix {n:Nat} {S:Store} {x:D} {l:List D} (h:Src n S x l) {i:Int} (h0:0≤i) (h1:i<l.length):∃d ∈ l,ixD x (.int i) S= .ok d S:=by
 obtain⟨d,hd,e⟩:=atI_mem h0 h1
 refine⟨d,hd,?_⟩
 cases h with
 |lst=>simp[ixD,e]
 |tup=>simp[ixD,e]
 |str z hz=>
  rw[atI_map] at e
  cases q:atI z.cps.toList i with
  |none=>rw[q] at e;cases e
  |some c=>
   rw[q] at e
   cases e
   simp only[ixD]
   rw[if_pos (small hz),q]
 |obj _ e2=>simp[ixD,e2,e]
def IsPick2 (pk:FN):Prop:=∀(n:Nat) (S:Store) (x:D) (l:List D),Hand n S→Src n S x l→l≠ [] →l.length<2 ^ 32→(pk [.obj n,x] S).sat fun d S'=>d ∈ l∧FrH n S S'
theorem isPick2 {tk:FN} (ht:IsTake tk):IsPick2 (run 2 2 (mPick tk)):=fun n S x l h hs h1 h2=>by
 have hl:0<l.length:=(match l,h1 with|_::_,_=>by simp)
 rw[sat_run]
 refine⟨rfl,?_⟩
 unfold mPick
 simp only[ssat_sRet,sat_e2,sat_eVar,sat_eN,sat_aCons,sat_aNil,callK_eq,List.append_nil,List.map_cons,List.map_nil,List.length_cons,List.length_nil,List.replicate,List.getElem?_cons_succ,List.getElem?_cons_zero,List.cons_append,List.nil_append,hs.len,sat_ok]
 refine sat_mono (ht n S l.length h (by omega) (by omega)) fun d S' q=> ?_
 obtain⟨⟨i,rfl,h0,h3⟩,fr⟩:=q
 obtain⟨d,hd,e⟩:=(hs.fr fr).ix h0 h3
 rw[e,sat_ok]
 exact⟨hd,fr⟩
theorem lc_acc {i:Nat} {te:ED} {env:EnvD} (I:List D→Store→Prop):∀ {xs:List D} {acc:List D} {S:Store} {Q:List D→Store→Prop},
 I acc S→(∀ x ∈ xs,∀acc S,I acc S→(te (env.set i (some x)) S).sat fun y S'=>I (acc++ [y]) S')→(∀ ys S',ys.length=xs.length→I (acc++ys) S'→Q ys S')→lcSat (gName i) tYesD te env xs S Q
 | [],acc,S,Q,hI,ht,hQ=>hQ [] S rfl (by simpa using hI)
 |x::xs,acc,S,Q,hI,ht,hQ=>by
  unfold lcSat
  simp only[gName,tYesD,sat_ok,if_true]
  refine sat_mono (ht x (List.mem_cons_self ..) acc S hI) fun y S3 h=> ?_
  refine lc_acc I (acc:=acc++ [y]) h (fun x hx=>ht x (List.mem_cons_of_mem _ hx)) fun ys S' h1 h2=>hQ _ _ (by simp[h1]) (by simpa using h2)
def LET:Str:= "abcdefghijklmnopqrstuvwxyz"
theorem let_ix {i:Int} (h0:0≤i) (h1:i<26) (S:Store):∃c,isLet c=true∧ixD (.str LET) (.int i) S= .ok (.str ⟨#[c]⟩) S:=by
 obtain⟨d,hd,e⟩:=(Src.str (n:=0) (S:=S) LET (by decide +kernel)).ix h0 (by rw[show (LET.cps.toList.map sgn).length=26 by decide +kernel];omega)
 simp only[List.mem_map] at hd
 obtain⟨c,hc,rfl⟩:=hd
 have:LET.cps.toList.all isLet=true:=by decide +kernel
 exact⟨c,List.all_eq_true.mp this c hc,e⟩
theorem let_src {n:Nat} {S:Store} :Src n S (.str LET) (LET.cps.toList.map sgn):= .str _ (by decide +kernel)
theorem let_mem {d:D} (h:d ∈ LET.cps.toList.map sgn):∃c,isLet c=true∧d= .str ⟨#[c]⟩:=by
 simp only[List.mem_map] at h
 obtain⟨c,hc,rfl⟩:=h
 have:LET.cps.toList.all isLet=true:=by decide +kernel
 exact⟨c,List.all_eq_true.mp this c hc,rfl⟩
theorem name_one {c:Nat} (h:isLet c=true):NameOk ⟨#[c]⟩:=by
 refine⟨by simp[Str.length],by simp[Str.length],by simp[h],fun hw=> ?_⟩
 have:∀s ∈ WORDS,s.length≠1:=by decide +kernel
 exact this _ hw rfl
theorem nameWithX {s:Str} (h:s ∈ WORDS):NameOk (s++ "x"):=by
 have a:WORDS.all (fun s=>decide (1≤(s++ "x").length)&&decide ((s++ "x").length≤8)&&(s++ "x").cps.toList.all isLet&&decide ((s++ "x") ∉ WORDS))=true:=by decide +kernel
 have:=List.all_eq_true.mp a s h
 simp only[Bool.and_eq_true,decide_eq_true_eq] at this
 exact⟨this.1.1.1,this.1.1.2,this.1.2,this.2⟩
end L3
namespace L3
open PySem L2
theorem sz0:((0:Nat)≤sizeLine)=True:=eq_true (by decide)
theorem sz1:((1:Nat)≤sizeLine)=True:=eq_true (by decide)
theorem sz2:((2:Nat)≤sizeLine)=True:=eq_true (by decide)
theorem sz3:((3:Nat)≤sizeLine)=True:=eq_true (by decide)
theorem sz4:((4:Nat)≤sizeLine)=True:=eq_true (by decide)
theorem sz5:((5:Nat)≤sizeLine)=True:=eq_true (by decide)
theorem sz6:((6:Nat)≤sizeLine)=True:=eq_true (by decide)
theorem sz7:((7:Nat)≤sizeLine)=True:=eq_true (by decide)
theorem sz8:((8:Nat)≤sizeLine)=True:=eq_true (by decide)
theorem sz10:((10:Nat)≤sizeLine)=True:=eq_true (by decide)
theorem sz17:((17:Nat)≤sizeLine)=True:=eq_true (by decide)
local macro_rules| `(tactic| open_k)=> `(tactic| simp only[ssat_seq,ssat_asg,ssat_sRet,ssat_sExpr,ssat_if,ssat_skip,ssat_par,ssat_nx,ssat_ret,ssat_for,sat_e2,sat_e1,sat_eN,sat_aCons,sat_aNil,sat_eVar,sat_eK,sat_tOfE,sat_tTruth,sat_tNot,sat_tAnd,sat_tOr,sat_eIf,sat_eBM,sat_iSeq,sat_iArgs,sat_eAnd,sat_eOr,sat_eNot,sat_eChain,sat_eSl,sat_pNo,sat_pYes,sat_eLc,sat_eKw,sat_mkTup,sat_mkLst,sat_mkObj,sat_ok,callK_eq,List.append_nil,List.map_cons,List.map_nil,List.length_cons,List.length_nil,List.replicate,List.getElem?_cons_succ,List.getElem?_cons_zero,List.cons_append,List.nil_append,List.set_cons_succ,List.set_cons_zero,gName_eq,gTup_tup,gNames_cons,gNames_nil,Nat.zero_add,Nat.reduceAdd,Nat.reduceSub,sz0,sz1,sz2,sz3,sz4,sz5,sz6,sz7,sz8,sz10,sz17,true_and,add_int,sub_int,neg_int,lt_int,le_int,gt_int,ge_int,eq_int,ne_int,blD_bl,truthD_bl,itemsD_lst,itemsD_tup,wipeD,eq_strs,ne_strs,sl_tup,sl_lst,if_true,if_false,Bool.false_eq_true,sat_range1,sat_range2,tuple_lst,tuple_tup,len_tup,len_lst,len_scr])
def mCalled (tk pk:FN):SD:=
    sSeq (sAsg (eK (.str "abcdefghijklmnopqrstuvwxyz")) (gName 2))
    (sSeq (sAsg (eBM "str" splitD (eK (.str "plus times most row say less below if let each num name any rest called count")) (aCons (eK (.str " ")) (aNil))) (gName 3))
    (sSeq (sAsg (eN mkTup (aCons (eN (callK tk []) (aCons (eVar 0) (aCons (eK (.int 676)) (aNil)))) (aCons (eN (callK pk []) (aCons (eVar 0) (aCons (eN mkLst (aCons (eK (.int 1)) (aCons (eK (.int 3)) (aCons (eK (.int 7)) (aCons (eK (.int 25)) (aCons (eK (.int 27)) (aCons (eK (.int 51)) (aCons (eK (.int 105)) (aNil))))))))) (aNil)))) (aNil)))) (gTup [4,5]))
    (sSeq (sIf (tAnd (tOfE (e2 ltD (eVar 1) (eK (.int 27)))) (tOfE (e2 eqD (eN (callK tk []) (aCons (eVar 0) (aCons (eK (.int 6)) (aNil)))) (eK (.int 0))))) (sRet (eLc (iArgs range1 (aCons (eVar 1) (aNil))) [6] (gName 6) (tYesD) (e2 ixD (eVar 2) (e2 modD (e2 addD (eVar 4) (eVar 6)) (eK (.int 26)))))) (sSkip))
    (sSeq (sAsg (eBM "str" joinD (eK (.str "")) (aCons (eLc (iArgs range1 (aCons (eN (callK pk []) (aCons (eVar 0) (aCons (eN mkLst (aCons (eK (.int 0)) (aCons (eK (.int 0)) (aCons (eK (.int 1)) (aCons (eK (.int 2)) (aCons (eK (.int 6)) (aNil))))))) (aNil)))) (aNil))) [6] (gName 6) (tYesD) (eN (callK pk []) (aCons (eVar 0) (aCons (eVar 2) (aNil))))) (aNil))) (gName 7))
    (sSeq (sPar [8,9] (aCons (eN (callK tk []) (aCons (eVar 0) (aCons (e2 addD (eN lenD (aCons (eVar 7) (aNil))) (eK (.int 1))) (aNil)))) (aCons (eN mkObj (aNil)) (aNil))))
    (sSeq (sFor (iArgs range1 (aCons (eVar 1) (aNil))) (gName 6) (sSeq (sAsg (e2 modD (e2 addD (eVar 4) (e2 mulD (eVar 5) (eVar 6))) (eK (.int 676))) (gName 10))
    (sSeq (sAsg (e2 addD (e2 ixD (eVar 2) (e2 fdivD (eVar 10) (eK (.int 26)))) (e2 ixD (eVar 2) (e2 modD (eVar 10) (eK (.int 26))))) (gName 11))
    (sSeq (sAsg (e2 addD (e2 addD (eSl (eVar 7) (pNo) (pYes (eVar 8))) (eVar 11)) (eSl (eVar 7) (pYes (eVar 8)) (pNo))) (gName 12))
    (sExpr (eBM "list" appendD (eVar 9) (aCons (e2 addD (eVar 12) (e2 mulD (eK (.str "x")) (eN intD (aCons (e2 inD (eVar 12) (eVar 3)) (aNil))))) (aNil))))))))
    (sRet (eVar 9))))))))
def mDigit (tk pk:FN):SD:=
    sRet (eN (callK pk []) (aCons (eVar 0) (aCons (eN mkLst (aCons (eK (.int 0)) (aCons (eK (.int 1)) (aCons (eK (.int 2)) (aCons (eK (.int 3)) (aCons (eN (callK tk []) (aCons (eVar 0) (aCons (eK (.int 6)) (aNil)))) (aCons (eK (.int 9972)) (aCons (eN (callK tk []) (aCons (eVar 0) (aCons (eK (.int 9973)) (aNil)))) (aNil))))))))) (aNil))))
theorem split_words {S:Store} :splitD (.str "plus times most row say less below if let each num name any rest called count") [.str " "] S= .ok (.lst (WORDS.map .str)) S:=by kernel_rfl
theorem mt_str {z:Str} {S:Store} :mtD (.str z) S=some "str" :=rfl
def PoolV (S S':Store) (d:D) (l:List Str):Prop:=d= .lst (l.map .str)∨∃q,S.length≤q∧d= .obj q∧S'[q]? =some (.lst (l.map .str))
theorem in_words {s:Str} {S:Store} (h:s.cps.toList.all isLet=true):inD (.str s) (.lst (WORDS.map .str)) S= .ok (.bl (decide (s ∈ WORDS))) S:=by
 have ok:PyData.strOk s=true:=by
  unfold PyData.strOk
  rw[← Array.all_toList,List.all_eq_true]
  intro c hc
  have:=List.all_eq_true.mp h c hc
  simp only[isLet,Bool.and_eq_true,decide_eq_true_eq] at this
  simp only[decide_eq_true_eq];omega
 have ws:toPyL (WORDS.map .str)=some (WORDS.map .str):=by kernel_rfl
 have e:memD (.str s) (.lst (WORDS.map .str)) S=some (decide (s ∈ WORDS)):=by
  simp only[memD,memData,toPy,ok,if_true,ws,Option.map_some]
  rw[if_pos (show(PyData.str s).depth≤64 by simp[PyData.depth])]
  congr 1
  rw[Bool.eq_iff_iff]
  simp only[List.any_map,List.any_eq_true,Function.comp,decide_eq_true_eq,PyData.eqv]
  constructor
  ·rintro⟨x,hx,e⟩
   have:x=s:=by simpa using e
   exact this▸hx
  ·intro hx
   exact⟨s,hx,by simp⟩
 unfold inD
 rw[e]
theorem join_letters:∀(cs:List Nat),Txt.join "" (cs.map fun c=>(⟨#[c]⟩:Str))=⟨cs.toArray⟩:=by
 intro cs
 rw[TL.join_eq]
 have:TL.tl (Str.join "" (cs.map fun c=>(⟨#[c]⟩:Str)))=cs:=by
  rw[TL.tl_join]
  have e0:TL.tl "" = [] :=by decide +kernel
  rw[e0]
  induction cs with
  |nil=>rfl
  |cons c cs ih=>
   cases cs with
   |nil=>rfl
   |cons b cs=>
    simp only[List.map_cons,TL.joinL,List.nil_append] at ih ⊢
    rw[ih]
    rfl
 have e:∀z:Str,z=⟨(TL.tl z).toArray⟩:=fun z=>by
  cases z with
  |mk a=>simp[TL.tl]
 rw[e (Str.join _ _),this]
section
variable {S:Store} {env:EnvD} {N B C:EnvD→Store→Prop} {T:D→Store→Prop} {a b c d e r:SD}
theorem seq2 (M:EnvD→Store→Prop) (h:(sSeq a b env S).sat M T B C) (k:∀e S,M e S→(r e S).sat N T B C):(sSeq a (sSeq b r) env S).sat N T B C:=by
 rw[ssat_seq] at h ⊢
 exact ssat_mono h (fun _ _ h=>seq_rule M h k) (fun _ _ h=>h) (fun _ _ h=>h) fun _ _ h=>h
theorem seq3 (M:EnvD→Store→Prop) (h:(sSeq a (sSeq b c) env S).sat M T B C) (k:∀e S,M e S→(r e S).sat N T B C):(sSeq a (sSeq b (sSeq c r)) env S).sat N T B C:=by
 rw[ssat_seq] at h ⊢
 exact ssat_mono h (fun _ _ h=>seq2 M h k) (fun _ _ h=>h) (fun _ _ h=>h) fun _ _ h=>h
theorem seq4 (M:EnvD→Store→Prop) (h:(sSeq a (sSeq b (sSeq c d)) env S).sat M T B C) (k:∀e S,M e S→(r e S).sat N T B C):(sSeq a (sSeq b (sSeq c (sSeq d r))) env S).sat N T B C:=by
 rw[ssat_seq] at h ⊢
 exact ssat_mono h (fun _ _ h=>seq3 M h k) (fun _ _ h=>h) (fun _ _ h=>h) fun _ _ h=>h
end
theorem FrH.mk2 {n:Nat} {S S':Store} (h:FrH n S S') (o:O):FrH n S (S'++ [o]):=h.trans (.app h.hd o)
theorem len_s {z:Str} {S:Store} (h:z.length≤1000):lenD [.str z] S= .ok (.int z.length) S:=by
 unfold lenD;simp only;rw[if_pos (small h)]
theorem sl_str {z:Str} {lo hi:Option Int} {S:Store} (h:z.length≤1000):slD (.str z) lo hi S= .ok (.str (cutS z lo hi)) S:=by
 unfold slD;simp only;rw[if_pos (small h)]
theorem md {i:Int} :0≤i % 26∧i % 26<26:=⟨Int.emod_nonneg _ (by decide),Int.emod_lt_of_pos _ (by decide)⟩
theorem mulx {b:Bool} {S:Store} :mulD (.str "x") (.int (if b=true then 1 else 0)) S= .ok (.str (if b=true then "x" else "")) S:=by cases b<;>kernel_rfl
theorem strs_map:∀l:List Str,allStrs (l.map .str)=some l
 | [] =>rfl
 |s::l=>by simp[allStrs,strs_map l]
theorem word_ok {st:List Nat} {a b:Nat} {sp:Nat} (hs:st.all isLet=true) (ha:isLet a=true) (hb:isLet b=true) (hl:st.length≤6) (hsp:sp≤st.length) (z:Str) (hz:z=⟨(st.take sp++ [a,b] ++st.drop sp).toArray⟩):
 z.cps.toList.all isLet=true∧z.length≤8∧NameOk (z++(if decide (z ∈ WORDS)=true then("x" :Str) else("" :Str))):=by
 have e1:z.cps.toList=st.take sp++ [a,b] ++st.drop sp:=by rw[hz]
 have l1:z.length=st.length+2:=by
  rw[TL.len_tl]
  show z.cps.toList.length=_
  rw[e1];simp;omega
 have al:z.cps.toList.all isLet=true:=by
  rw[e1]
  simp only[List.all_append,List.all_cons,List.all_nil,ha,hb,Bool.and_true,Bool.and_eq_true]
  rw[List.all_eq_true] at hs ⊢
  refine⟨fun x hx=>hs x (List.mem_of_mem_take hx),?_⟩
  rw[List.all_eq_true]
  exact fun x hx=>hs x (List.mem_of_mem_drop hx)
 refine⟨al,by omega,?_⟩
 by_cases hw:z ∈ WORDS
 ·simp only[hw,decide_true,if_true]
  exact nameWithX hw
 ·simp only[hw,decide_false,Bool.false_eq_true,if_false]
  have:z++("" :Str)=z:=by
   apply TL.ext_tl
   show(z.cps++("" :Str).cps).toList=z.cps.toList
   rw[Array.toList_append,show("" :Str).cps.toList= [] by decide +kernel,List.append_nil]
  rw[this]
  exact⟨by omega,by omega,al,hw⟩
theorem called_ok {tk pk:FN} (ht:IsTake tk) (hp:IsPick2 pk) {n:Nat} {S:Store} (hS:Hand n S) {many:Nat} (hm:many≤1000):(run 2 13 (mCalled tk pk) [.obj n, .int many] S).sat fun d S'=>FrH n S S'∧∃l:List Str,l.length=many∧(∀ s ∈ l,NameOk s)∧PoolV S S' d l:=by
 rw[sat_run]
 refine⟨rfl,?_⟩
 unfold mCalled
 have okm:okRng (many:Int)=true:=by simp[okRng];omega
 refine seq4 (fun e S1=>∃f b:Int,e= [some (.obj n),some (.int many),some (.str LET),some (.lst (WORDS.map .str)),some (.int f),some (.int b),none,none,none,none,none,none,none] ∧0≤f∧0≤b∧FrH n S S1) ?_ ?_
 ·open_k
  simp only[mt_str,split_words,sat_ok,true_and]
  refine sat_mono (ht n S 676 hS (by decide) (by decide)) fun d1 S1 ⟨⟨f,e1,f0,f1⟩,fr1⟩=> ?_
  subst e1
  refine sat_mono (hp n S1 _ _ fr1.hd (.lst _) (by simp) (by simp)) fun d2 S2 ⟨hb,fr2⟩=> ?_
  obtain⟨b,rfl,b0⟩:∃b:Int,d2= .int b∧0≤b:=by
   simp at hb
   rcases hb with rfl|rfl|rfl|rfl|rfl|rfl|rfl<;>exact⟨_,rfl,by decide⟩
  have fin:∀S3,FrH n S S3→∃f_1 b_1:Int,[some (D.obj n),some (D.int ↑many),some (D.str "abcdefghijklmnopqrstuvwxyz"),some (D.lst (List.map D.str WORDS)),some (D.int f),some (D.int b),none,none,none,none,none,none,none] = [some (.obj n),some (.int many),some (.str LET),some (.lst (WORDS.map .str)),some (.int f_1),some (.int b_1),none,none,none,none,none,none,none] ∧0≤f_1∧0≤b_1∧FrH n S S3:=fun S3 fr=>⟨f,b,rfl,f0,b0,fr⟩
  by_cases h27:(many:Int)<27
  ·simp only[h27,decide_true,if_true]
   refine sat_mono (ht n S2 6 fr2.hd (by decide) (by decide)) fun d3 S3 ⟨⟨z,e3,_,_⟩,fr3⟩=> ?_
   subst e3
   open_k
   by_cases hz:z=0
   ·simp only[hz,decide_true,if_true]
    refine⟨okm,by rw[rangeD_len];exact small (by omega),?_⟩
    refine lc_rule (fun S'=>S'=S3) (fun _ y=>∃s,y= .str s∧NameOk s) rfl (fun x hx S4 e4=> ?_) fun ys S5 e5 hy=> ?_
    ·subst e4
     obtain⟨i,rfl,i0,i1⟩:=mem_range hx
     open_k
     simp only[mod_int]
     refine⟨by decide,?_⟩
     obtain⟨c,hc,e⟩:=let_ix (md (i:=f+i)).1 (md (i:=f+i)).2 S4
     rw[show ("abcdefghijklmnopqrstuvwxyz" :Str)=LET from rfl,e,sat_ok]
     exact⟨⟨_,rfl,name_one hc⟩,rfl⟩
    ·subst e5
     obtain⟨l,rfl,hl⟩:∃l:List Str,ys=l.map .str∧∀s ∈ l,NameOk s:=by
      clear okm hm h27 fin
      generalize rangeD 0 (many:Int)=xs at hy
      induction hy with
      |nil=>exact⟨[],rfl,by simp⟩
      |cons p _ ih=>
       obtain⟨s,rfl,hs⟩:=p
       obtain⟨l,rfl,hl⟩:=ih
       exact⟨s::l,rfl,by simpa using⟨hs,hl⟩⟩
     have:=hy.len
     simp at this
     exact⟨(fr1.trans fr2).trans fr3,l,this,hl, .inl rfl⟩
   ·simp only[hz,decide_false,Bool.false_eq_true,if_false]
    exact fin S3 ((fr1.trans fr2).trans fr3)
  ·simp only[h27,decide_false,Bool.false_eq_true,if_false]
   exact fin S2 (fr1.trans fr2)
 ·rintro e S1 ⟨f,b,rfl,f0,b0,fr⟩
  have hlt:=hS.lt
  refine seq2 (fun e S2=>∃(st:List Nat) (sp q:Nat),e= [some (.obj n),some (.int many),some (.str LET),some (.lst (WORDS.map .str)),some (.int f),some (.int b),none,some (.str ⟨st.toArray⟩),some (.int sp),some (.obj q),none,none,none] ∧
   st.all isLet=true∧st.length≤6∧sp≤st.length∧FrH n S S2∧S.length≤q∧S2[q]? =some (.lst [])) ?_ ?_
  ·open_k
   simp only[mt_str,true_and]
   refine sat_mono (hp n S1 _ _ fr.hd (.lst _) (by simp) (by simp)) fun d2 S2 ⟨hb,fr2⟩=> ?_
   obtain⟨L,rfl,hL⟩:∃L:Nat,d2= .int L∧L≤6:=by
    simp at hb
    rcases hb with rfl|rfl|rfl|rfl
    ·exact⟨0,rfl,by decide⟩
    ·exact⟨1,rfl,by decide⟩
    ·exact⟨2,rfl,by decide⟩
    ·exact⟨6,rfl,by decide⟩
   open_k
   refine⟨by simp[okRng];omega,by rw[rangeD_len];exact small (by omega),?_⟩
   refine lc_rule (FrH n S) (fun _ y=>∃c,y= .str ⟨#[c]⟩∧isLet c=true) (fr.trans fr2) (fun x hx S4 h4=> ?_) fun ys S5 h5 hy=> ?_
   ·open_k
    refine sat_mono (hp n S4 _ _ h4.hd let_src (by decide +kernel) (by decide +kernel)) fun d S5 ⟨hd,fr5⟩=> ?_
    obtain⟨c,hc,rfl⟩:=let_mem hd
    exact⟨⟨c,rfl,hc⟩,h4.trans fr5⟩
   ·obtain⟨st,rfl,hst⟩:∃st:List Nat,ys=(st.map fun c=>(⟨#[c]⟩:Str)).map .str∧st.all isLet=true:=by
     clear hb
     generalize rangeD 0 (L:Int)=xs at hy
     induction hy with
     |nil=>exact⟨[],rfl,rfl⟩
     |cons p _ ih=>
      obtain⟨c,rfl,hc⟩:=p
      obtain⟨st,rfl,hst⟩:=ih
      exact⟨c::st,rfl,by simp only[List.all_cons,hc,hst,Bool.and_self]⟩
    have hl:=hy.len
    simp at hl
    have ej:joinD (.str "") [.lst ((st.map fun c=>(⟨#[c]⟩:Str)).map .str)] S5= .ok (.str ⟨st.toArray⟩) S5:=by
     simp only[joinD,asS,asL,Option.bind_some,strs_map]
     have:(((st.map fun c=>(⟨#[c]⟩:Str)).map (·.length)).sum+(st.map fun c=>(⟨#[c]⟩:Str)).length*Str.length "")≤16777216:=by
      have e0:Str.length "" =0:=by decide +kernel
      have e1:(st.map fun c=>(⟨#[c]⟩:Str)).map (·.length)=st.map fun _=>1:=by simp[Str.length]
      have es:∀l:List Nat,(l.map fun _=>1).sum=l.length:=fun l=>by
       induction l with
       |nil=>rfl
       |cons a l ih=>simp[ih];omega
      rw[e0,e1,es]
      simp;omega
     rw[if_pos this,join_letters]
    rw[ej]
    have hlen:(⟨st.toArray⟩:Str).length=st.length:=by simp[Str.length]
    simp only[sat_ok,len_s (show(⟨st.toArray⟩:Str).length≤1000 by rw[hlen];omega),hlen,add_int]
    refine sat_mono (ht n S5 _ h5.hd (by omega) (by omega)) fun d S6 ⟨⟨z,e6,z0,z1⟩,fr6⟩=> ?_
    subst e6
    have fr7:=h5.trans fr6
    exact⟨st,z.toNat,S6.length,by rw[Int.toNat_of_nonneg z0],hst,by omega,by omega,fr7.mk2 _,fr7.le,by simp⟩
  ·rintro e S2 ⟨st,sp,q,rfl,hst,hl6,hsp,fr2,hq,e2⟩
   have hqn:q≠n:=by omega
   have hlen:(⟨st.toArray⟩:Str).length=st.length:=by simp[Str.length]
   refine seq_rule (fun e S3=>(∃ a6 a10 a11 a12:Option D,e= [some (.obj n),some (.int many),some (.str LET),some (.lst (WORDS.map .str)),some (.int f),some (.int b),a6,some (.str ⟨st.toArray⟩),some (.int sp),some (.obj q),a10,a11,a12])∧
    FrH n S S3∧∃l:List Str,l.length=many∧(∀ s ∈ l,NameOk s)∧S3[q]? =some (.lst (l.map .str))) ?_ ?_
   ·open_k
    refine⟨okm,?_⟩
    refine for_rule (fun j e S3=>(∃ a6 a10 a11 a12:Option D,e= [some (.obj n),some (.int many),some (.str LET),some (.lst (WORDS.map .str)),some (.int f),some (.int b),a6,some (.str ⟨st.toArray⟩),some (.int sp),some (.obj q),a10,a11,a12])∧
     FrH n S S3∧∃l:List Str,l.length=j∧(∀ s ∈ l,NameOk s)∧S3[q]? =some (.lst (l.map .str))) ⟨⟨_,_,_,_,rfl⟩,fr2,[],rfl,by simp,e2⟩ ?_ ?_
    ·rintro j hj e S3 ⟨⟨a6,a10,a11,a12,rfl⟩,fr3,l,hl,hn,e3⟩
     rw[rangeD_get hj]
     have hj':j<many:=by simpa using hj
     open_k
     rw[mul_int]
     refine⟨mulOk_r (by omega),?_⟩
     open_k
     rw[mod_int]
     refine⟨by decide,?_⟩
     have m676:∀i:Int,0≤i % 676∧i % 676<676:=fun i=>⟨Int.emod_nonneg _ (by decide),Int.emod_lt_of_pos _ (by decide)⟩
     obtain⟨v,hv⟩:∃v:Int,(f+b*(0+(j:Int))) % 676=v:=⟨_,rfl⟩
     have hv2:=m676 (f+b*(0+(j:Int)))
     rw[hv] at hv2 ⊢
     rw[fdiv_int]
     refine⟨by decide,?_⟩
     obtain⟨c1,hc1,ec1⟩:=let_ix (i:=v / 26) (by omega) (by omega) S3
     rw[ec1,sat_ok,mod_int]
     refine⟨by decide,?_⟩
     obtain⟨c2,hc2,ec2⟩:=let_ix (md (i:=v)).1 (md (i:=v)).2 S3
     rw[ec2,sat_ok]
     have one:∀c:Nat,(⟨#[c]⟩:Str).length=1:=fun c=>rfl
     rw[add_str (by rw[one,one];exact small (by decide)),sat_ok]
     have hz1000:(⟨st.toArray⟩:Str).length≤1000:=by rw[hlen];omega
     have elo:cutS ⟨st.toArray⟩ none (some (sp:Int))=⟨(st.take sp).toArray⟩:=by
      unfold cutS
      rw[hlen,HT.sIx_none,HT.sIx_nat]
      simp[Nat.min_eq_left hsp]
     have ehi:cutS ⟨st.toArray⟩ (some (sp:Int)) none=⟨(st.drop sp).toArray⟩:=by
      unfold cutS
      rw[hlen,HT.sIx_none,HT.sIx_nat]
      simp[Nat.min_eq_left hsp]
      rw[List.take_of_length_le (by simp)]
     refine⟨_,rfl,?_⟩
     rw[sl_str hz1000,elo,sat_ok]
     have lt:(⟨(st.take sp).toArray⟩:Str).length≤6:=by simp[Str.length];omega
     have ld:(⟨(st.drop sp).toArray⟩:Str).length≤6:=by simp[Str.length];omega
     have two:((⟨#[c1]⟩:Str)++(⟨#[c2]⟩:Str)).length=2:=rfl
     have app:∀a b:Str,(a++b).length=a.length+b.length:=fun a b=>by
      show(a.cps++b.cps).size=_
      rw[Array.size_append];rfl
     rw[add_str (small (by rw[two];omega)),sat_ok]
     refine⟨_,rfl,?_⟩
     rw[sl_str hz1000,ehi,sat_ok,add_str (small (by rw[app,two];omega)),sat_ok]
     obtain⟨z,hz⟩:∃z:Str,z=(⟨(st.take sp).toArray⟩:Str)++((⟨#[c1]⟩:Str)++(⟨#[c2]⟩:Str))++(⟨(st.drop sp).toArray⟩:Str):=⟨_,rfl⟩
     have hz2:z=⟨(st.take sp++ [c1,c2] ++st.drop sp).toArray⟩:=by
      rw[hz]
      apply TL.ext_tl
      show((((st.take sp).toArray++(#[c1] ++ #[c2]))++(st.drop sp).toArray)).toList=_
      simp
     rw[← hz]
     obtain⟨al,l8,ok⟩:=word_ok hst hc1 hc2 hl6 hsp z hz2
     refine⟨mtD_obj e3,?_⟩
     rw[in_words al,sat_ok]
     simp only[intD,sat_ok]
     rw[mulx,sat_ok]
     have lx:∀b:Bool,(if b=true then("x" :Str) else "").length≤1:=fun b=>by cases b<;>decide +kernel
     rw[add_str (small (by have:=lx (decide (z ∈ WORDS));omega)),sat_ok,append_obj e3]
     refine⟨Nat.lt_of_lt_of_le (m:=1000) (by simp;omega) (by decide),⟨_,_,_,_,rfl⟩,fr3.put hS hq _,l++ [z++(if decide (z ∈ WORDS)=true then("x" :Str) else("" :Str))],by simp[hl],?_,?_⟩
     ·intro s hs
      rcases List.mem_append.mp hs with h|h
      ·exact hn s h
      ·simp only[List.mem_singleton] at h;rw[h];exact ok
     ·rw[List.getElem?_set_self (List.getElem?_eq_some_iff.mp e3).1]
      simp
    ·rintro e S3 ⟨⟨a6,a10,a11,a12,rfl⟩,fr3,l,hl,hn,e3⟩
     simp at hl
     exact⟨⟨_,_,_,_,rfl⟩,fr3,l,hl,hn,e3⟩
   ·rintro e S3 ⟨⟨a6,a10,a11,a12,rfl⟩,fr3,l,hl,hn,e3⟩
    open_k
    exact⟨fr3,l,hl,hn, .inr ⟨q,hq,rfl,e3⟩⟩
def IsDigit (dg:FN):Prop:=∀(n:Nat) (S:Store),Hand n S→(dg [.obj n] S).sat fun d S'=>(∃ i:Int,d= .int i∧0≤i∧i≤9972)∧FrH n S S'
theorem isDigit {tk pk:FN} (ht:IsTake tk) (hp:IsPick2 pk):IsDigit (run 1 1 (mDigit tk pk)):=fun n S hS=>by
 rw[sat_run]
 refine⟨rfl,?_⟩
 unfold mDigit
 open_k
 refine sat_mono (ht n S 6 hS (by decide) (by decide)) fun d1 S1 ⟨⟨a,e1,a0,a1⟩,fr1⟩=> ?_
 subst e1
 refine sat_mono (ht n S1 9973 fr1.hd (by decide) (by decide)) fun d2 S2 ⟨⟨b,e2,b0,b1⟩,fr2⟩=> ?_
 subst e2
 refine sat_mono (hp n S2 _ _ fr2.hd (.lst _) (by simp) (by simp)) fun d3 S3 ⟨h,fr3⟩=>⟨?_,(fr1.trans fr2).trans fr3⟩
 simp at h
 rcases h with rfl|rfl|rfl|rfl|rfl|rfl|rfl<;>exact⟨_,rfl,by omega,by omega⟩
end L3
namespace L3
open PySem L2
def mGrown (tk pk dg gr:FN):SD:=
    sSeq (sAsg (e2 subD (e2 ixD (eVar 1) (eK (.str "left"))) (eK (.int 1))) (gSub (eVar 1) (eK (.str "left"))))
    (sSeq (sIf (tOr (tOfE (e2 eqD (eVar 3) (eK (.int 0)))) (tOfE (e2 ltD (e2 ixD (eVar 1) (eK (.str "left"))) (eK (.int 4))))) (sSeq (sIf (tOfE (e2 ltD (eN (callK tk []) (aCons (eVar 0) (aCons (eK (.int 5)) (aNil)))) (eK (.int 3)))) (sRet (eN mkTup (aCons (eK (.str "name")) (aCons (eN (callK pk []) (aCons (eVar 0) (aCons (e2 addD (e2 addD (eSl (eVar 2) (pYes (e1 negD (eK (.int 2)))) (pNo)) (eSl (eVar 2) (pYes (e1 negD (eK (.int 2)))) (pNo))) (e2 ixD (eVar 1) (eK (.str "pool")))) (aNil)))) (aCons (eN mkTup (aNil)) (aNil)))))) (sSkip))
    (sRet (eN mkTup (aCons (eK (.str "num")) (aCons (eN (callK dg []) (aCons (eVar 0) (aNil))) (aCons (eN mkTup (aNil)) (aNil))))))) (sSkip))
    (sSeq (sPar [4,5] (aCons (eN (callK tk []) (aCons (eVar 0) (aCons (eK (.int 13)) (aNil)))) (aCons (eN (callK pk []) (aCons (eVar 0) (aCons (eN mkLst (aCons (eK (.int 2)) (aCons (eK (.int 2)) (aCons (eK (.int 3)) (aCons (eK (.int 1)) (aCons (eK (.int 4)) (aNil))))))) (aNil)))) (aNil))))
    (sSeq (sIf (tOfE (e2 ltD (eVar 4) (eK (.int 4)))) (sSeq (sAsg (e2 ixD (eN mkLst (aCons (eK (.str "plus")) (aCons (eK (.str "times")) (aCons (eK (.str "most")) (aCons (eK (.str "plus")) (aNil)))))) (eVar 4)) (gName 6))
    (sRet (eN mkTup (aCons (eVar 6) (aCons (eK (.str "")) (aCons (eN tupleD (aCons (eLc (iArgs range1 (aCons (eVar 5) (aNil))) [7] (gName 7) (tYesD) (eN (callK gr []) (aCons (eVar 0) (aCons (eVar 1) (aCons (eVar 2) (aCons (e2 subD (eVar 3) (eK (.int 1))) (aNil))))))) (aNil))) (aNil))))))) (sSkip))
    (sSeq (sIf (tOfE (e2 ltD (eVar 4) (eK (.int 7)))) (sSeq (sAsg (eN (callK pk []) (aCons (eVar 0) (aCons (eN mkLst (aCons (eVar 5) (aCons (eK (.int 0)) (aCons (eK (.int 3)) (aCons (eK (.int 4)) (aCons (eK (.int 5)) (aNil))))))) (aNil)))) (gName 5))
    (sRet (eN mkTup (aCons (eK (.str "row")) (aCons (eK (.str "")) (aCons (eN tupleD (aCons (eLc (iArgs range1 (aCons (eVar 5) (aNil))) [7] (gName 7) (tYesD) (eN (callK gr []) (aCons (eVar 0) (aCons (eVar 1) (aCons (eVar 2) (aCons (e2 subD (eVar 3) (eK (.int 1))) (aNil))))))) (aNil))) (aNil))))))) (sSkip))
    (sSeq (sIf (tOfE (e2 ltD (eVar 4) (eK (.int 10)))) (sSeq (sAsg (e2 ixD (eN mkLst (aCons (eK (.str "let")) (aCons (eK (.str "each")) (aCons (eK (.str "let")) (aNil))))) (e2 subD (eVar 4) (eK (.int 7)))) (gName 6))
    (sSeq (sPar [8,9] (aCons (eN (callK pk []) (aCons (eVar 0) (aCons (e2 ixD (eVar 1) (eK (.str "pool"))) (aNil)))) (aCons (eN (callK gr []) (aCons (eVar 0) (aCons (eVar 1) (aCons (eVar 2) (aCons (e2 subD (eVar 3) (eK (.int 1))) (aNil)))))) (aNil))))
    (sRet (eN mkTup (aCons (eVar 6) (aCons (eVar 8) (aCons (eN mkTup (aCons (eVar 9) (aCons (eN (callK gr []) (aCons (eVar 0) (aCons (eVar 1) (aCons (e2 addD (eVar 2) (eN mkLst (aCons (eVar 8) (aNil)))) (aCons (e2 subD (eVar 3) (eK (.int 1))) (aNil)))))) (aNil)))) (aNil)))))))) (sSkip))
    (sSeq (sAsg (e2 ixD (eN mkLst (aCons (eK (.str "say")) (aCons (eN (callK pk []) (aCons (eVar 0) (aCons (eN mkLst (aCons (eK (.str "less")) (aCons (eK (.str "below")) (aNil)))) (aNil)))) (aCons (eK (.str "if")) (aNil))))) (e2 subD (eVar 4) (eK (.int 10)))) (gName 6))
    (sRet (eN mkTup (aCons (eVar 6) (aCons (eK (.str "")) (aCons (eN tupleD (aCons (eLc (iArgs range1 (aCons (e2 subD (eVar 4) (eK (.int 9))) (aNil))) [7] (gName 7) (tYesD) (eN (callK gr []) (aCons (eVar 0) (aCons (eVar 1) (aCons (eVar 2) (aCons (e2 subD (eVar 3) (eK (.int 1))) (aNil))))))) (aNil))) (aNil))))))))))))
def Pot (p:Nat) (left:Int) (pv:D) (S:Store):Prop:=S[p]? =some (.dK [(.inr "left", .int left),(.inr "pool",pv)])
section
variable {n p:Nat} {S S' S'':Store} {left x:Int} {pv:D}
theorem pot_left (h:Pot p left pv S):ixD (.obj p) (.str "left") S= .ok (.int left) S:=by
 simp only[ixD,show S[p]? =_ from h]
 kernel_rfl
theorem pot_pool (h:Pot p left pv S):ixD (.obj p) (.str "pool") S= .ok pv S:=by
 simp only[ixD,show S[p]? =_ from h]
 kernel_rfl
theorem pot_set (h:Pot p left pv S):setD (.obj p) (.str "left") (.int x) S=some (S.set p (.dK [(.inr "left", .int x),(.inr "pool",pv)])):=by
 simp only[setD,show S[p]? =_ from h]
 kernel_rfl
structure FrX (n p:Nat) (S S':Store):Prop where
 le:S.length≤S'.length
 fr:∀m o,m≠n→m≠p→S[m]? =some o→S'[m]? =some o
 hd:Hand n S'
theorem FrX.of (h:FrH n S S'):FrX n p S S':=⟨h.le,fun m o hm _ e=>h.fr m o hm e,h.hd⟩
theorem FrX.trans (h:FrX n p S S') (g:FrX n p S' S''):FrX n p S S'':=⟨Nat.le_trans h.le g.le,fun m o h1 h2 e=>g.fr m o h1 h2 (h.fr m o h1 h2 e),g.hd⟩
theorem Pot.fr (h:Pot p left pv S) (hp:p≠n) (f:FrH n S S'):Pot p left pv S':=f.fr _ _ hp h
theorem FrX.set (h:Hand n S) (hp:n≠p) (o:O):FrX n p S (S.set p o):=by
 refine⟨by simp,fun m o' _ hm e=>by rw[List.getElem?_set_ne (Ne.symm hm)];exact e,?_⟩
 obtain⟨g,s,e⟩:=h
 exact⟨g,s,by rw[List.getElem?_set_ne (Ne.symm hp)];exact e⟩
inductive Pool (n p:Nat) (S:Store):D→List Str→Prop where
 |lst (l:List Str):Pool n p S (.lst (l.map .str)) l
 |obj {q:Nat} {l:List Str} :q≠n→q≠p→S[q]? =some (.lst (l.map .str))→Pool n p S (.obj q) l
theorem Pool.fr {l:List Str} (h:Pool n p S pv l) (f:FrX n p S S'):Pool n p S' pv l:=by
 cases h with
 |lst=>exact .lst _
 |obj h1 h2 e=>exact .obj h1 h2 (f.fr _ _ h1 h2 e)
theorem Pool.src {l:List Str} (h:Pool n p S pv l):Src n S pv (l.map .str):=by
 cases h with
 |lst=>exact .lst _
 |obj h1 h2 e=>exact .obj h1 e
theorem Pool.add {l:List Str} (h:Pool n p S pv l) {a:List D} (hz:a.length+l.length≤sizeLine):addD (.lst a) pv S= .ok (.lst (a++l.map .str)) S:=by
 cases h with
 |lst=>exact add_lst (by simpa using hz)
 |obj h1 h2 e=>simp[addD,asL,e,hz]
theorem gsub_eq {mo mi:ED} {o i v:D} {env:EnvD} (ho:mo env S= .ok o S) (hi:mi env S= .ok i S) (h:setD o i v S=some S'):gSub mo mi v env S= .nx env S':=by simp[gSub,ho,hi,h]
end
theorem cutL_mem {α :Type} {l:List α} {lo hi:Option Int} {x: α} (h:x ∈ cutL l lo hi):x ∈ l:=List.mem_of_mem_drop (List.mem_of_mem_take h)
theorem cutL_len {α :Type} {l:List α} {lo hi:Option Int} :(cutL l lo hi).length≤l.length:=by
 unfold cutL
 rw[List.length_take,List.length_drop];omega
def GrownOk (gr:FN) (level:Nat):Prop:=∀(n p:Nat) (S:Store) (left:Int) (pv:D) (pool scope:List Str),Hand n S→n≠p→Pot p left pv S→Pool n p S pv pool→pool≠ [] →pool.length≤500→(∀ s ∈ pool,NameOk s)→
 (∀ s ∈ scope,NameOk s)→scope.length+level≤200→(gr [.obj n, .obj p, .lst (scope.map .str), .int level] S).sat fun d S'=>∃t:Tm,d=t.d∧Good t∧t.dep≤level+1∧FrX n p S S'∧Pot p (left-t.size) pv S'∧
   (left≤4→t.size=1)∧(5≤left→3-4*(level:Int)≤left-t.size)
theorem kids {gr:FN} {L:Nat} (hg:GrownOk gr L) {n p:Nat} {S:Store} {left:Int} {pv:D} {pool scope:List Str} (hS:Hand n S) (hnp:n≠p) (hpot:Pot p left pv S) (hpool:Pool n p S pv pool) (h0:pool≠ []) (h1:pool.length≤500) (hn:∀s ∈ pool,NameOk s)
 (hs:∀s ∈ scope,NameOk s) (hl:scope.length+L≤200) (hleft:4≤left) {m:Nat} (hm:m≤5) {env:EnvD} {i:Nat} (hi:4≤i) (e0:env[0]? =some (some (.obj n))) (e1:env[1]? =some (some (.obj p))) (e2':env[2]? =some (some (.lst (scope.map .str)))) (e3:env[3]? =some (some (.int ((L+1:Nat):Int))))
 {Q:List D→Store→Prop} (hQ:∀ts S',ts.length=m→(∀ t ∈ ts,Good t)→Tm.deps ts≤L+1→FrX n p S S'→Pot p (left-Tm.sizes ts) pv S'→3-4*((L+1:Nat):Int)≤left-Tm.sizes ts→Q (Tm.ds ts) S'):
 lcSat (gName i) tYesD (eN (callK gr []) (aCons (eVar 0) (aCons (eVar 1) (aCons (eVar 2) (aCons (e2 subD (eVar 3) (eK (.int 1))) (aNil)))))) env (rangeD 0 m) S Q:=by
 refine lc_acc (acc:= []) (fun acc S'=>∃ts,acc=Tm.ds ts∧(∀ t ∈ ts,Good t)∧Tm.deps ts≤L+1∧FrX n p S S'∧Pot p (left-Tm.sizes ts) pv S'∧(ts= [] ∨3-4*(L:Int)-((ts.length:Int)-1)≤left-Tm.sizes ts)) ?_ ?_ ?_
 ·exact⟨[],rfl,by simp,by simp[Tm.deps],⟨Nat.le_refl _,fun _ _ _ _ e=>e,hS⟩,by simpa[Tm.sizes] using hpot, .inl rfl⟩
 ·rintro x hx acc S1 ⟨ts,rfl,hgood,hdep,fr,pot,hb⟩
  have g:∀j:Nat,j<4→(env.set i (some x))[j]? =env[j]? :=fun j hj=>by rw[List.getElem?_set_ne (by omega)]
  simp only[sat_eN,sat_aCons,sat_aNil,sat_eVar,g 0 (by decide),g 1 (by decide),g 2 (by decide),e0,e1,e2',sat_e2,g 3 (by decide),e3,sat_eK,sub_int,sat_ok,callK_eq,List.append_nil]
  rw[show (((L+1:Nat):Int)-1)=(L:Int) by omega]
  refine sat_mono (hg n p S1 _ pv pool scope fr.hd hnp pot (hpool.fr fr) h0 h1 hn hs hl) fun d S2 q=> ?_
  obtain⟨t,rfl,g1,g2,fr2,pot2,b1,b2⟩:=q
  have es:Tm.sizes (ts++ [t])=Tm.sizes ts+t.size:=by rw[Tm.sizes_app];simp[Tm.sizes]
  refine⟨ts++ [t],by simp[Tm.ds_map],?_,?_,fr.trans fr2,?_, .inr ?_⟩
  ·intro t' ht
   rcases List.mem_append.mp ht with h|h
   ·exact hgood t' h
   ·simp only[List.mem_singleton] at h;rw[h];exact g1
  ·rw[Tm.deps_le] at hdep ⊢
   intro t' ht
   rcases List.mem_append.mp ht with h|h
   ·exact hdep t' h
   ·simp only[List.mem_singleton] at h;rw[h];exact g2
  ·rw[es]
   have:left-((Tm.sizes ts+t.size:Nat):Int)=left-Tm.sizes ts-t.size:=by omega
   rw[this];exact pot2
  ·rw[es]
   have e:left-((Tm.sizes ts+t.size:Nat):Int)=left-Tm.sizes ts-t.size:=by omega
   rw[e]
   simp only[List.length_append,List.length_cons,List.length_nil]
   have b1:=b1
   have b2:=b2
   by_cases h5:5≤left-(Tm.sizes ts:Int)
   ·have:=b2 h5;omega
   ·have:=b1 (by omega)
    rcases hb with rfl|hb
    ·simp[Tm.sizes] at h5 ⊢;omega
    ·omega
 ·rintro ys S1 hlen ⟨ts,e,hgood,hdep,fr,pot,hb⟩
  simp only[List.nil_append] at e
  subst e
  have hl2:ts.length=m:=by rw[Tm.ds_len] at hlen;simpa using hlen
  refine hQ ts S1 hl2 hgood hdep fr pot ?_
  rcases hb with rfl|hb
  ·simp[Tm.sizes];omega
  ·omega
end L3
namespace L3
open PySem L2
local macro_rules| `(tactic| open_k)=> `(tactic| simp only[ssat_seq,ssat_asg,ssat_sRet,ssat_sExpr,ssat_if,ssat_skip,ssat_par,ssat_nx,ssat_ret,ssat_for,sat_e2,sat_e1,sat_eN,sat_aCons,sat_aNil,sat_eVar,sat_eK,sat_tOfE,sat_tTruth,sat_tNot,sat_tAnd,sat_tOr,sat_eIf,sat_eBM,sat_iSeq,sat_iArgs,sat_eAnd,sat_eOr,sat_eNot,sat_eChain,sat_eSl,sat_pNo,sat_pYes,sat_eLc,sat_eKw,sat_mkTup,sat_mkLst,sat_mkObj,sat_ok,callK_eq,List.append_nil,List.map_cons,List.map_nil,List.length_cons,List.length_nil,List.replicate,List.getElem?_cons_succ,List.getElem?_cons_zero,List.cons_append,List.nil_append,List.set_cons_succ,List.set_cons_zero,gName_eq,gTup_tup,gNames_cons,gNames_nil,Nat.zero_add,Nat.reduceAdd,Nat.reduceSub,sz0,sz1,sz2,sz3,sz4,sz5,sz6,sz7,sz8,sz10,sz17,true_and,add_int,sub_int,neg_int,lt_int,le_int,gt_int,ge_int,eq_int,ne_int,blD_bl,truthD_bl,itemsD_lst,itemsD_tup,wipeD,eq_strs,ne_strs,sl_tup,sl_lst,if_true,if_false,Bool.false_eq_true,sat_range1,sat_range2,tuple_lst,tuple_tup,len_tup,len_lst,len_scr,D.int.injEq,exists_eq_left',mt_str])
theorem grown_ok {tk pk dg gr:FN} (ht:IsTake tk) (hp:IsPick2 pk) (hd:IsDigit dg) {L:Nat} (ih:L≠0→GrownOk gr (L-1)):GrownOk (run 4 10 (mGrown tk pk dg gr)) L:=by
 intro n p S left pv pool scope hS hnp hpot hpool h0 h1 hn hs hl
 rw[sat_run]
 refine⟨rfl,?_⟩
 unfold mGrown
 have pl:p<S.length:=(List.getElem?_eq_some_iff.mp hpot).1
 refine seq_rule (fun e S1=>e= [some (D.obj n),some (D.obj p),some (D.lst (List.map D.str scope)),some (D.int (L:Int)),none,none,none,none,none,none] ∧FrX n p S S1∧Pot p (left-1) pv S1) ?_ ?_
 ·open_k
  rw[pot_left hpot]
  open_k
  rw[gsub_eq (o:= .obj p) (i:= .str "left") (by simp[eVar]) (by simp[eK]) (pot_set hpot)]
  open_k
  exact⟨FrX.set hS hnp _,by show(S.set p _)[p]? =_;rw[List.getElem?_set_self pl]⟩
 rintro e S1 ⟨rfl,fr1,pot1⟩
 have pool1:=hpool.fr fr1
 refine seq_rule (fun e S2=>e= [some (D.obj n),some (D.obj p),some (D.lst (List.map D.str scope)),some (D.int (L:Int)),none,none,none,none,none,none] ∧S2=S1∧L≠0∧4≤left-1) ?_ ?_
 ·have leaf:(sSeq (sIf (tOfE (e2 ltD (eN (callK tk []) (aCons (eVar 0) (aCons (eK (.int 5)) (aNil)))) (eK (.int 3)))) (sRet (eN mkTup (aCons (eK (.str "name")) (aCons (eN (callK pk []) (aCons (eVar 0) (aCons (e2 addD (e2 addD (eSl (eVar 2) (pYes (e1 negD (eK (.int 2)))) (pNo)) (eSl (eVar 2) (pYes (e1 negD (eK (.int 2)))) (pNo))) (e2 ixD (eVar 1) (eK (.str "pool")))) (aNil)))) (aCons (eN mkTup (aNil)) (aNil)))))) (sSkip))
  (sRet (eN mkTup (aCons (eK (.str "num")) (aCons (eN (callK dg []) (aCons (eVar 0) (aNil))) (aCons (eN mkTup (aNil)) (aNil)))))) [some (D.obj n),some (D.obj p),some (D.lst (List.map D.str scope)),some (D.int (L:Int)),none,none,none,none,none,none] S1).sat (fun _ _=>False) (fun d S'=>∃t:Tm,d=t.d∧Good t∧t.size=1∧t.dep=1∧FrH n S1 S') (fun _ _=>False) (fun _ _=>False):=by
    open_k
    refine sat_mono (ht n S1 5 fr1.hd (by decide) (by decide)) fun d1 S2 ⟨⟨f,e1,f0,f1⟩,fr2⟩=> ?_
    subst e1
    open_k
    by_cases h3:f<3
    ·simp only[h3,decide_true,if_true]
     have ec:cutL (scope.map D.str) (some (-2)) none=(cutL scope (some (-2)) none).map D.str:=by unfold cutL;simp
     have lc:(cutL scope (some (-2)) none).length≤200:=Nat.le_trans cutL_len (by omega)
     rw[ec,add_lst (small (by simp;omega)),sat_ok,pot_pool (pot1.fr (Ne.symm hnp) fr2),sat_ok]
     rw[← List.map_append,(pool1.fr (.of fr2)).add (small (by simp;omega)),sat_ok,←List.map_append]
     refine sat_mono (hp n S2 _ _ fr2.hd (.lst _) (by simp[h0]) (by simp;omega)) fun d2 S3 ⟨hb,fr3⟩=> ?_
     simp only[List.mem_map] at hb
     obtain⟨z,hz,rfl⟩:=hb
     have hz:NameOk z:=by
      rcases List.mem_append.mp hz with h|h
      ·rcases List.mem_append.mp h with h|h<;>exact hs z (cutL_mem h)
      ·exact hn z h
     exact⟨.nam z,rfl, .nam hz,rfl,rfl,fr2.trans fr3⟩
    ·simp only[h3,decide_false,Bool.false_eq_true,if_false]
     refine sat_mono (hd n S2 fr2.hd) fun d2 S3 ⟨⟨i,e2,i0,i1⟩,fr3⟩=> ?_
     subst e2
     exact⟨.num i,rfl, .num i0 i1,rfl,rfl,fr2.trans fr3⟩
  have fin:∀d S',(∃ t:Tm,d=t.d∧Good t∧t.size=1∧t.dep=1∧FrH n S1 S')→∃t:Tm,d=t.d∧Good t∧t.dep≤L+1∧FrX n p S S'∧Pot p (left-t.size) pv S'∧(left≤4→t.size=1)∧(5≤left→3-4*(L:Int)≤left-t.size):=by
   rintro d S' ⟨t,e,g,s1,d1,fr⟩
   refine⟨t,e,g,by omega,fr1.trans (.of fr),?_,fun _=>s1,fun _=>by rw[s1];omega⟩
   rw[s1];exact pot1.fr (Ne.symm hnp) fr
  rw[ssat_if,sat_tOr]
  simp only[sat_tOfE,sat_e2,sat_eVar,sat_eK,List.getElem?_cons_succ,List.getElem?_cons_zero,eq_int,sat_ok,blD_bl]
  by_cases hL:(L:Int)=0
  ·rw[if_pos (decide_eq_true hL)]
   exact ssat_mono leaf (fun _ _ h=>h.elim) fin (fun _ _ h=>h.elim) (fun _ _ h=>h.elim)
  ·simp only[hL,decide_false,Bool.false_eq_true,if_false,pot_left pot1,sat_ok,lt_int,blD_bl]
   by_cases h4:left-1<4
   ·rw[if_pos (decide_eq_true h4)]
    exact ssat_mono leaf (fun _ _ h=>h.elim) fin (fun _ _ h=>h.elim) (fun _ _ h=>h.elim)
   ·simp only[h4,decide_false,Bool.false_eq_true,if_false,ssat_skip]
    exact⟨trivial,trivial,by omega,by omega⟩
 rintro e S2 ⟨rfl,rfl,hL,h4⟩
 obtain⟨L,rfl⟩:∃L',L=L'+1:=⟨L-1,by omega⟩
 have ih:=ih (by omega)
 rw[Nat.add_sub_cancel] at ih
 refine seq_rule (fun e S3=>∃(lot:Int) (m:Nat),e= [some (D.obj n),some (D.obj p),some (D.lst (List.map D.str scope)),some (D.int ((L+1:Nat):Int)),some (.int lot),some (.int (m:Int)),none,none,none,none] ∧0≤lot∧lot<13∧1≤m∧m≤4∧FrX n p S S3∧Pot p (left-1) pv S3) ?_ ?_
 ·open_k
  refine sat_mono (ht n S2 13 fr1.hd (by decide) (by decide)) fun d1 S3 ⟨⟨f,e1,f0,f1⟩,fr2⟩=> ?_
  subst e1
  refine sat_mono (hp n S3 _ _ fr2.hd (.lst _) (by simp) (by simp)) fun d2 S4 ⟨hb,fr3⟩=> ?_
  have:∃m:Nat,d2= .int m∧1≤m∧m≤4:=by
   simp at hb
   rcases hb with rfl|rfl|rfl|rfl
   ·exact⟨2,rfl,by decide,by decide⟩
   ·exact⟨3,rfl,by decide,by decide⟩
   ·exact⟨1,rfl,by decide,by decide⟩
   ·exact⟨4,rfl,by decide,by decide⟩
  obtain⟨m,rfl,m1,m4⟩:=this
  exact⟨f,m,rfl,f0,f1,m1,m4,fr1.trans (.of (fr2.trans fr3)),pot1.fr (Ne.symm hnp) (fr2.trans fr3)⟩
 rintro e S3 ⟨lot,m,rfl,l0,l1,m1,m4,fr3,pot3⟩
 have pool3:=hpool.fr fr3
 have made:∀(w:Str) (ts:List Tm) (S':Store) (f mo:Nat),shape w=some (f,mo,false)→f≤ts.length→ts.length≤mo→(∀ t ∈ ts,Good t)→Tm.deps ts≤L+1→FrX n p S3 S'→Pot p (left-1-Tm.sizes ts) pv S'→3-4*((L+1:Nat):Int)≤left-1-Tm.sizes ts→
  ∃t:Tm,D.tup [.str w, .str "", .tup (Tm.ds ts)] =t.d∧Good t∧t.dep≤L+1+1∧FrX n p S S'∧Pot p (left-t.size) pv S'∧(left≤4→t.size=1)∧(5≤left→3-4*((L+1:Nat):Int)≤left-t.size):=by
  intro w ts S' f mo hw hf hmo hg hdp fr pot b
  have e:left-((Tm.nd w "" ts).size:Int)=left-1-Tm.sizes ts:=by simp only[Tm.size];omega
  refine⟨.nd w "" ts,rfl, .nd hw hf hmo (fun h=>by cases h) (fun _=>rfl) hg,by simp only[Tm.dep];omega,fr3.trans fr,by rw[e];exact pot,fun h=>by omega,fun _=>by rw[e];exact b⟩
 have pickW:∀(l:List Str) (i:Int) (S:Store),0≤i→i<l.length→∃w ∈ l,ixD (.lst (l.map .str)) (.int i) S= .ok (.str w) S:=by
  intro l i S h0 h1
  obtain⟨d,hd,e⟩:=(Src.lst (n:=n) (S:=S) (l.map .str)).ix h0 (by simpa using h1)
  simp only[List.mem_map] at hd
  obtain⟨w,hw,rfl⟩:=hd
  exact⟨w,hw,e⟩
 rw[ssat_seq,ssat_if]
 simp only[sat_tOfE,sat_e2,sat_eVar,sat_eK,List.getElem?_cons_succ,List.getElem?_cons_zero,lt_int,sat_ok,blD_bl]
 by_cases c4:lot<4
 ·rw[if_pos (decide_eq_true c4)]
  obtain⟨w,hw,e⟩:=pickW ["plus","times","most","plus"] lot S3 l0 (by simpa using c4)
  have hsh:shape w=some (1,6,false):=by
   simp at hw;rcases hw with rfl|rfl|rfl|rfl<;>decide +kernel
  simp only[List.map_cons,List.map_nil] at e
  open_k
  rw[e,sat_ok]
  refine⟨by simp[okRng];omega,by rw[rangeD_len];exact small (by omega),?_⟩
  refine kids ih fr3.hd hnp pot3 pool3 h0 h1 hn hs (by omega) (by omega) (by omega) (by decide) rfl rfl rfl rfl fun ts S' hlen hg hdp fr pot b=> ?_
  exact made w ts S' _ _ hsh (by omega) (by omega) hg hdp fr pot b
 rw[if_neg (by simpa using c4),ssat_skip,ssat_seq,ssat_if]
 simp only[sat_tOfE,sat_e2,sat_eVar,sat_eK,List.getElem?_cons_succ,List.getElem?_cons_zero,lt_int,sat_ok,blD_bl]
 by_cases c7:lot<7
 ·rw[if_pos (decide_eq_true c7)]
  open_k
  refine sat_mono (hp n S3 _ _ fr3.hd (.lst _) (by simp) (by simp)) fun d2 S4 ⟨hb,fr4⟩=> ?_
  have:∃m:Nat,d2= .int m∧m≤5:=by
   simp at hb
   rcases hb with rfl|rfl|rfl|rfl|rfl
   ·exact⟨m,rfl,by omega⟩
   ·exact⟨0,rfl,by decide⟩
   ·exact⟨3,rfl,by decide⟩
   ·exact⟨4,rfl,by decide⟩
   ·exact⟨5,rfl,by decide⟩
  obtain⟨m,rfl,m5⟩:=this
  open_k
  have fr5:=fr3.trans (.of fr4)
  refine⟨by simp[okRng];omega,by rw[rangeD_len];exact small (by omega),?_⟩
  refine kids ih fr4.hd hnp (pot3.fr (Ne.symm hnp) fr4) (hpool.fr fr5) h0 h1 hn hs (by omega) (by omega) (by omega) (by decide) rfl rfl rfl rfl fun ts S' hlen hg hdp fr pot b=> ?_
  exact made "row" ts S' 0 6 (by decide +kernel) (by omega) (by omega) hg hdp ((FrX.of fr4).trans fr) pot b
 rw[if_neg (by simpa using c7),ssat_skip,ssat_seq,ssat_if]
 simp only[sat_tOfE,sat_e2,sat_eVar,sat_eK,List.getElem?_cons_succ,List.getElem?_cons_zero,lt_int,sat_ok,blD_bl]
 by_cases c10:lot<10
 ·rw[if_pos (decide_eq_true c10)]
  obtain⟨w,hw,e⟩:=pickW ["let","each","let"] (lot-7) S3 (by omega) (by simp;omega)
  have hsh:shape w=some (2,2,true):=by
   simp at hw;rcases hw with rfl|rfl|rfl<;>decide +kernel
  simp only[List.map_cons,List.map_nil] at e
  open_k
  rw[e,sat_ok]
  rw[pot_pool pot3,sat_ok]
  refine sat_mono (hp n S3 _ _ fr3.hd pool3.src (by simp[h0]) (by simp;omega)) fun d2 S4 ⟨hb,fr4⟩=> ?_
  simp only[List.mem_map] at hb
  obtain⟨z,hz,rfl⟩:=hb
  have fr5:=fr3.trans (.of fr4)
  have el:(((L+1:Nat):Int)-1)=(L:Int):=by omega
  rw[el]
  refine sat_mono (ih n p S4 _ pv pool scope fr4.hd hnp (pot3.fr (Ne.symm hnp) fr4) (hpool.fr fr5) h0 h1 hn hs (by omega)) fun d3 S5 q=> ?_
  obtain⟨t1,rfl,g1,dp1,fr6,pot6,b1,b2⟩:=q
  rw[show ([D.str z] :List D)= [z].map D.str from rfl,add_lst (small (by simp;omega)),sat_ok,←List.map_append]
  refine sat_mono (ih n p S5 _ pv pool (scope++ [z]) fr6.hd hnp pot6 (hpool.fr (fr5.trans fr6)) h0 h1 hn (by
   intro s h
   rcases List.mem_append.mp h with h|h
   ·exact hs s h
   ·simp only[List.mem_singleton] at h;rw[h];exact hn z hz) (by simp;omega)) fun d4 S6 q=> ?_
  obtain⟨t2,rfl,g2,dp2,fr7,pot7,b3,b4⟩:=q
  have es:left-((Tm.nd w z [t1,t2]).size:Int)=left-1-t1.size-t2.size:=by simp only[Tm.size,Tm.sizes];omega
  refine⟨.nd w z [t1,t2],rfl, .nd hsh (by simp) (by simp) (fun _=>hn z hz) (fun h=>by cases h) (by simp[g1,g2]),by simp only[Tm.dep,Tm.deps];omega,(fr5.trans fr6).trans fr7,by rw[es];exact pot7,fun h=>by omega,fun _=> ?_⟩
  rw[es]
  by_cases h5:5≤left-1
  ·have:=b2 h5
   by_cases h6:5≤left-1-(t1.size:Int)
   ·have:=b4 h6;omega
   ·have:=b3 (by omega);omega
  ·have:=b1 (by omega)
   have:=b3 (by omega)
   omega
 rw[if_neg (by simpa using c10),ssat_skip]
 open_k
 refine sat_mono (hp n S3 _ _ fr3.hd (.lst _) (by simp) (by simp)) fun d2 S4 ⟨hb,fr4⟩=> ?_
 have fr5:=fr3.trans (.of fr4)
 have:∃w0:Str,d2= .str w0∧(w0= "less" ∨w0= "below"):=by
  simp at hb
  rcases hb with rfl|rfl
  ·exact⟨_,rfl, .inl rfl⟩
  ·exact⟨_,rfl, .inr rfl⟩
 obtain⟨w0,rfl,hw0⟩:=this
 obtain⟨w,k,ek,e,hsh⟩:∃(w:Str) (k:Nat),lot-9=k∧ixD (.lst [.str "say", .str w0, .str "if"]) (.int (lot-10)) S4= .ok (.str w) S4∧shape w=some (k,k,false)∧k≤3:=by
  have:lot=10∨lot=11∨lot=12:=by omega
  rcases this with rfl|rfl|rfl
  ·exact⟨"say",1,rfl,rfl,by decide +kernel,by decide⟩
  ·refine⟨w0,2,rfl,rfl,?_,by decide⟩
   rcases hw0 with rfl|rfl<;>decide +kernel
  ·exact⟨"if",3,rfl,rfl,by decide +kernel,by decide⟩
 rw[e,sat_ok]
 rw[ek]
 refine⟨by simp[okRng];omega,by rw[rangeD_len];exact small (by omega),?_⟩
 refine kids ih fr4.hd hnp (pot3.fr (Ne.symm hnp) fr4) (hpool.fr fr5) h0 h1 hn hs (by omega) (by omega) (by omega) (by decide) rfl rfl rfl rfl fun ts S' hlen hg hdp fr pot b=> ?_
 exact made w ts S' k k hsh.1 (by omega) (by omega) hg hdp ((FrX.of fr4).trans fr) pot b
end L3
namespace L3
open PySem L2
local macro_rules| `(tactic| open_k)=> `(tactic| simp only[ssat_seq,ssat_asg,ssat_sRet,ssat_sExpr,ssat_if,ssat_skip,ssat_par,ssat_nx,ssat_ret,ssat_for,sat_e2,sat_e1,sat_eN,sat_aCons,sat_aNil,sat_eVar,sat_eK,sat_tOfE,sat_tTruth,sat_tNot,sat_tAnd,sat_tOr,sat_eIf,sat_eBM,sat_iSeq,sat_iArgs,sat_eAnd,sat_eOr,sat_eNot,sat_eChain,sat_eSl,sat_pNo,sat_pYes,sat_eLc,sat_eKw,sat_mkTup,sat_mkLst,sat_mkObj,sat_ok,callK_eq,List.append_nil,List.map_cons,List.map_nil,List.length_cons,List.length_nil,List.replicate,List.getElem?_cons_succ,List.getElem?_cons_zero,List.cons_append,List.nil_append,List.set_cons_succ,List.set_cons_zero,gName_eq,gTup_tup,gNames_cons,gNames_nil,Nat.zero_add,Nat.reduceAdd,Nat.reduceSub,sz0,sz1,sz2,sz3,sz4,sz5,sz6,sz7,sz8,sz10,sz17,true_and,add_int,sub_int,neg_int,lt_int,le_int,gt_int,ge_int,eq_int,ne_int,blD_bl,truthD_bl,itemsD_lst,itemsD_tup,wipeD,eq_strs,ne_strs,sl_tup,sl_lst,if_true,if_false,Bool.false_eq_true,sat_range1,sat_range2,tuple_lst,tuple_tup,len_tup,len_lst,len_scr,D.int.injEq,exists_eq_left',mt_str])
def mCode (tk cl gr:FN):SD:=
    sSeq (sAsg (eN (callK cl []) (aCons (eVar 0) (aCons (e2 addD (eK (.int 1)) (eN (callK tk []) (aCons (eVar 0) (aCons (eK (.int 5)) (aNil))))) (aNil)))) (gName 2))
    (sRet (eN (callK gr []) (aCons (eVar 0) (aCons (eDct [(eK (.str "left"),eVar 1),(eK (.str "pool"),eVar 2)]) (aCons (eN mkLst (aNil)) (aCons (e2 addD (eK (.int 3)) (eN (callK tk []) (aCons (eVar 0) (aCons (eK (.int 5)) (aNil))))) (aNil)))))))
def IsCalled (cl:FN):Prop:=∀(n:Nat) (S:Store) (many:Nat),Hand n S→many≤1000→(cl [.obj n, .int many] S).sat fun d S'=>FrH n S S'∧∃l:List Str,l.length=many∧(∀ s ∈ l,NameOk s)∧PoolV S S' d l
theorem isCalled {tk pk:FN} (ht:IsTake tk) (hp:IsPick2 pk):IsCalled (run 2 13 (mCalled tk pk)):=fun n S many h hm=>called_ok ht hp h hm
theorem code_any {tk cl gr:FN} (ht:IsTake tk) (hc:IsCalled cl) (hg:∀L,L≤7→GrownOk gr L) {n:Nat} {S:Store} (hS:Hand n S) {left:Nat} :(run 2 3 (mCode tk cl gr) [.obj n, .int left] S).sat fun d S'=>∃t:Tm,d=t.d∧Good t∧t.dep≤8∧t.size≤left+25∧FrH n S S':=by
 rw[sat_run]
 refine⟨rfl,?_⟩
 unfold mCode
 refine seq_rule (fun e S1=>∃(pv:D) (l:List Str),e= [some (.obj n),some (.int left),some pv] ∧FrH n S S1∧1≤l.length∧l.length≤5∧(∀ s ∈ l,NameOk s)∧PoolV S S1 pv l) ?_ ?_
 ·open_k
  refine sat_mono (ht n S 5 hS (by decide) (by decide)) fun d1 S1 ⟨⟨f,e1,f0,f1⟩,fr1⟩=> ?_
  subst e1
  open_k
  have e:(1+f)=((1+f.toNat:Nat):Int):=by omega
  rw[e]
  refine sat_mono (hc n S1 _ fr1.hd (by omega)) fun d2 S2 ⟨fr2,l,hl,hn,pv⟩=> ?_
  refine⟨d2,l,rfl,fr1.trans fr2,by omega,by omega,hn,?_⟩
  rcases pv with h|⟨q,h1,h2,h3⟩
  ·exact .inl h
  ·exact .inr ⟨q,Nat.le_trans fr1.le h1,h2,h3⟩
 rintro e S1 ⟨pv,l,rfl,fr1,l1,l5,hn,hpv⟩
 open_k
 have ed:(eDct [(eK (D.str "left"),eVar 1),(eK (D.str "pool"),eVar 2)] [some (D.obj n),some (D.int left),some pv] S1)= .ok (.obj S1.length) (S1++ [.dK [(.inr "left", .int left),(.inr "pool",pv)]]):=by
  simp[eDct,pairsD,R.nox,R.bind,eK,eVar]
  kernel_rfl
 rw[ed,sat_ok]
 have fr2:=fr1.mk2 (.dK [(.inr "left", .int left),(.inr "pool",pv)])
 have pot2:Pot S1.length left pv (S1++ [.dK [(.inr "left", .int left),(.inr "pool",pv)]]):=by simp[Pot]
 have nl:n<S1.length:=fr1.hd.lt
 have pool2:Pool n S1.length (S1++ [.dK [(.inr "left", .int left),(.inr "pool",pv)]]) pv l:=by
  rcases hpv with h|⟨q,h1,rfl,h3⟩
  ·rw[h];exact .lst l
  ·have hq:=(List.getElem?_eq_some_iff.mp h3).1
   have:=hS.lt
   exact .obj (by omega) (by omega) (by rw[List.getElem?_append_left hq];exact h3)
 refine sat_mono (ht n _ 5 fr2.hd (by decide) (by decide)) fun d2 S2 ⟨⟨f,e2,f0,f1⟩,fr3⟩=> ?_
 subst e2
 open_k
 have e:(3+f)=((3+f.toNat:Nat):Int):=by omega
 rw[e]
 have l0:l≠ [] :=by intro h;rw[h] at l1;simp at l1
 refine sat_mono (hg (3+f.toNat) (by omega) n S1.length S2 left pv l [] fr3.hd (by omega) (pot2.fr (by omega) fr3) (pool2.fr (.of fr3)) l0 (by omega) hn (by simp) (by simp;omega)) fun d3 S3 q=> ?_
 obtain⟨t,rfl,g1,dp,fr4,pot4,b1,b2⟩:=q
 have hsz:t.size≤left+25:=by
  by_cases h:(5:Int)≤left
  ·have:=b2 h;omega
  ·have:=b1 (by omega);omega
 refine⟨t,rfl,g1,by omega,hsz,?_⟩
 have fx:FrH n S S2:=fr2.trans fr3
 exact⟨Nat.le_trans fx.le fr4.le,fun m o hm e=>fr4.fr m o hm (by have:=(List.getElem?_eq_some_iff.mp e).1;have:=fr1.le;omega) (fx.fr m o hm e),fr4.hd⟩
end L3
namespace L3
open PySem L2
def asc (s:Str):Bool:=decide (s.length≤20)&&s.cps.toList.all fun c=>decide (c<128)
inductive U (B:Nat):D→Prop where
 |non:U B .non
 |bl (b:Bool):U B (.bl b)
 |int {i:Int} : -10000≤i→i≤10000→U B (.int i)
 |str {s:Str} :asc s=true→U B (.str s)
 |tup {l:List D} :l.length≤B→(∀ x ∈ l,U B x)→U B (.tup l)
 |lst {l:List D} :l.length≤B→(∀ x ∈ l,U B x)→U B (.lst l)
 |dic:U B (.dic [] [])
def isNm:D→Bool
 | .str s=>decide (1≤s.length)&&decide (s.length≤8)&& !decide (s ∈ WORDS)&&s.cps.toList.all isLet
 | _=>false
def isNum:D→Bool
 | .int i=>decide (0≤i)&&decide (i≤9972)
 | _=>false
def isEmp:D→Bool
 | .str s=>decide (s= "")
 | _=>false
def fits (w:Str) (m:D) (n:Nat):Bool:=match shape w with
 |some (f,mo,g)=>decide (f≤n)&&decide (n≤mo)&&(if g=true then isNm m else isEmp m)
 |none=>false
def ok:Nat→D→Bool
 |0,_=>false
 |k+1, .tup [.str w,m, .tup ps] =>
  if w= "num" then isNum m&&ps.isEmpty
  else if w= "name" then isNm m&&ps.isEmpty
  else fits w m ps.length&&ps.all (ok k)
 | _+1,_=>false
theorem asc_ok {s:Str} (h:asc s=true):PyData.strOk s=true:=by
 simp only[asc,Bool.and_eq_true,decide_eq_true_eq] at h
 unfold PyData.strOk
 rw[← Array.all_toList,List.all_eq_true]
 intro c hc
 have:=List.all_eq_true.mp h.2 c hc
 simp only[decide_eq_true_eq] at this ⊢;omega
theorem asc_len {s:Str} (h:asc s=true):s.length≤20:=by
 simp only[asc,Bool.and_eq_true,decide_eq_true_eq] at h;exact h.1
theorem name_asc {s:Str} (h:NameOk s):asc s=true:=by
 simp only[asc,Bool.and_eq_true,decide_eq_true_eq]
 refine⟨by have:=h.hi;omega,?_⟩
 rw[List.all_eq_true]
 intro c hc
 have:=List.all_eq_true.mp h.lt c hc
 simp only[isLet,Bool.and_eq_true,decide_eq_true_eq] at this ⊢;omega
theorem words_asc {s:Str} (h:s ∈ WORDS):asc s=true:=by
 have a:WORDS.all asc=true:=by decide +kernel
 exact List.all_eq_true.mp a s h
theorem shape_word {w:Str} {f mo:Nat} {g:Bool} (h:shape w=some (f,mo,g)):w ∈ WORDS∧w≠ "num" ∧w≠ "name" :=by
 unfold shape at h
 split at h
 ·rename_i q;rcases q with rfl|rfl|rfl<;>decide +kernel
 split at h
 ·rename_i q;subst q;decide +kernel
 split at h
 ·rename_i q;subst q;decide +kernel
 split at h
 ·rename_i q;rcases q with rfl|rfl<;>decide +kernel
 split at h
 ·rename_i q;subst q;decide +kernel
 split at h
 ·rename_i q;rcases q with rfl|rfl<;>decide +kernel
 cases h
theorem shape_most {w:Str} {f mo:Nat} {g:Bool} (h:shape w=some (f,mo,g)):mo≤6:=by
 unfold shape at h
 repeat' split at h
 all_goals first|(cases h;done)|(cases h;decide)
theorem Good.u:∀t:Tm,Good t→U 6 t.d
 | _, .num h0 h1=>by
   simp only[Tm.d]
   refine .tup (by simp) fun x hx=> ?_
   simp only[List.mem_cons,List.not_mem_nil,or_false] at hx
   rcases hx with rfl|rfl|rfl
   ·exact .str (by decide +kernel)
   ·exact .int (by omega) (by omega)
   ·exact .tup (by simp) (by simp)
 | _, .nam h=>by
   simp only[Tm.d]
   refine .tup (by simp) fun x hx=> ?_
   simp only[List.mem_cons,List.not_mem_nil,or_false] at hx
   rcases hx with rfl|rfl|rfl
   ·exact .str (by decide +kernel)
   ·exact .str (name_asc h)
   ·exact .tup (by simp) (by simp)
 | _, .nd (w:=w) (m:=m) (ps:=ps) hw hf hm hg hn hp=>by
   simp only[Tm.d]
   refine .tup (by simp) fun x hx=> ?_
   simp only[List.mem_cons,List.not_mem_nil,or_false] at hx
   rcases hx with rfl|rfl|rfl
   ·exact .str (words_asc (shape_word hw).1)
   ·rename_i g
    cases g with
    |true=>exact .str (name_asc (hg rfl))
    |false=>rw[hn rfl];exact .str (by decide +kernel)
   ·refine .tup (by rw[Tm.ds_len];exact Nat.le_trans hm (shape_most hw)) fun x hx=> ?_
    rw[Tm.ds_map,List.mem_map] at hx
    obtain⟨t,ht,rfl⟩:=hx
    exact Good.u t (hp t ht)
end L3
namespace L3
open PySem L2
mutual
def wt:D→Nat
 | .tup l=>100+wts l
 | .lst l=>100+wts l
 | .non=>100| .bl _=>100| .int _=>100| .str _=>100| .dic _ _=>100| .obj _=>100| .glb _=>100| .wtp _=>100| .ty _=>100| .scr _=>100| .kd _ _=>100| .xcp _ _ _=>100| .lam _ _=>100
def wts:List D→Nat
 | [] =>0
 |x::xs=>wt x+wts xs
end
mutual
def dp:D→Nat
 | .tup l=>1+dps l
 | .lst l=>1+dps l
 | .dic _ _=>1
 | .non=>0| .bl _=>0| .int _=>0| .str _=>0| .obj _=>0| .glb _=>0| .wtp _=>0| .ty _=>0| .scr _=>0| .kd _ _=>0| .xcp _ _ _=>0| .lam _ _=>0
def dps:List D→Nat
 | [] =>0
 |x::xs=>max (dp x) (dps xs)
end
theorem int_signs (i:Int):∀c ∈ (toString i).toList,45≤c.toNat:=by
 have nat:∀(n:Nat),∀c ∈ (Nat.repr n).toList,45≤c.toNat:=by
  intro n c hc
  rw[Nat.toList_repr] at hc
  have h:=Nat.isDigit_of_mem_toDigits (by decide) (by decide) hc
  simp only[Char.isDigit,Bool.and_eq_true,decide_eq_true_eq] at h
  have e:c.val.toNat=c.toNat:=rfl
  have h2:48≤c.val.toNat:=by simpa using UInt32.le_iff_toNat_le.mp h.1
  omega
 intro c hc
 rw[Int.toString_eq_repr,Int.repr_eq_if] at hc
 split at hc
 ·exact nat _ c hc
 ·rw[String.toList_append,List.mem_append] at hc
  rcases hc with hc|hc
  ·have:c='-':=by simpa using hc
   subst this;decide
  ·exact nat _ c hc
theorem tl_of (s:String):(Str.ofString s).cps.toList=s.toList.map Char.toNat:=by rw[Str.ofString_eq_toList]
theorem int_not (i:Int):(((toString i:String):Str)== "''")=false:=by
 rw[beq_eq_false_iff_ne]
 intro h
 have e:(Str.ofString (toString i)).cps.toList= [39,39] :=by rw[h];decide +kernel
 rw[tl_of] at e
 have:39 ∈ (toString i).toList.map Char.toNat:=by rw[e];simp
 rw[List.mem_map] at this
 obtain⟨c,hc,h39⟩:=this
 have:=int_signs i c hc
 omega
theorem first_not {a b:Str} {s:Str} (ha:a.cps.toList.head? ≠some 39) (h0:a.cps.toList≠ []) (h:s=a++b):(s== "''")=false:=by
 rw[beq_eq_false_iff_ne]
 rintro rfl
 have e:("''" :Str).cps.toList= [39,39] :=by decide +kernel
 rw[h] at e
 have e:a.cps.toList++b.cps.toList= [39,39] :=by rw[← e];show _=(a.cps++b.cps).toList;simp
 cases q:a.cps.toList with
 |nil=>exact h0 q
 |cons c cs=>
  rw[q] at e ha
  simp only[List.cons_append,List.cons.injEq] at e
  exact ha (by simp[e.1])
theorem reprChar_pos (q c:Nat):1≤(Builtin.Str.reprChar q c).length:=by
 unfold Builtin.Str.reprChar
 simp only []
 repeat' split
 all_goals simp
theorem fold_ge (q:Nat):∀(l:List Nat) (acc:Array Nat),acc.size+l.length≤(l.foldl (fun out c=>out++(Builtin.Str.reprChar q c).toArray) acc).size
 | [],acc=>Nat.le_refl _
 |c::r,acc=>by
  have ih:=fold_ge q r (acc++(Builtin.Str.reprChar q c).toArray)
  have:=reprChar_pos q c
  simp only[List.foldl_cons,List.length_cons]
  simp only[Array.size_append,List.size_toArray] at ih
  omega
theorem reprText_ge (x:Str):x.length+2≤(reprText x).length:=by
 unfold reprText
 show _≤((x.cps.foldl (fun out c=>out++(Builtin.Str.reprChar (reprQuote x) c).toArray) #[reprQuote x]).push (reprQuote x)).size
 rw[Array.size_push,←Array.foldl_toList]
 have:=fold_ge (reprQuote x) x.cps.toList #[reprQuote x]
 have e1:(#[reprQuote x] :Array Nat).size=1:=rfl
 have e2:x.cps.toList.length=x.length:=by simp[Str.length]
 omega
theorem reprChar_lo:∀c<128,(Builtin.Str.reprChar 39 c).length≤4∧(Builtin.Str.reprChar 34 c).length≤4:=by decide +kernel
theorem fold_le (q:Nat) (hq:∀c<128,(Builtin.Str.reprChar q c).length≤4):∀(l:List Nat) (acc:Array Nat),(∀ c ∈ l,c<128)→(l.foldl (fun out c=>out++(Builtin.Str.reprChar q c).toArray) acc).size≤acc.size+4*l.length
 | [],acc,_=>Nat.le_refl _
 |c::r,acc,h=>by
  have ih:=fold_le q hq r (acc++(Builtin.Str.reprChar q c).toArray) fun d hd=>h d (List.mem_cons_of_mem _ hd)
  have:=hq c (h c List.mem_cons_self)
  simp only[List.foldl_cons,List.length_cons]
  simp only[Array.size_append,List.size_toArray] at ih
  omega
theorem reprText_le (x:Str) (h:∀c ∈ x.cps.toList,c<128):(reprText x).length≤4*x.length+2:=by
 unfold reprText
 show((x.cps.foldl (fun out c=>out++(Builtin.Str.reprChar (reprQuote x) c).toArray) #[reprQuote x]).push (reprQuote x)).size≤_
 rw[Array.size_push,←Array.foldl_toList]
 have hq:∀c<128,(Builtin.Str.reprChar (reprQuote x) c).length≤4:=fun c hc=>by
  unfold reprQuote
  split
  ·exact(reprChar_lo c hc).2
  ·exact(reprChar_lo c hc).1
 have:=fold_le (reprQuote x) hq x.cps.toList #[reprQuote x] h
 have e1:(#[reprQuote x] :Array Nat).size=1:=rfl
 have e2:x.cps.toList.length=x.length:=by simp[Str.length]
 omega
theorem str_emp (x:Str):(reprText x== "''")=decide (x= ""):=by
 rw[Bool.eq_iff_iff,beq_iff_eq,decide_eq_true_eq]
 constructor
 ·intro h
  have:=reprText_ge x
  rw[h] at this
  have e:("''" :Str).length=2:=by decide +kernel
  have l0:x.length=0:=by omega
  apply TL.ext_tl
  show x.cps.toList=("" :Str).cps.toList
  have:x.cps.toList= [] :=by
   have:x.cps.toList.length=0:=by simpa[Str.length] using l0
   exact List.length_eq_zero_iff.mp this
  rw[this];decide +kernel
 ·rintro rfl;decide +kernel
theorem join_le (ts:List Str):(Str.join ", " ts).length≤piled ts:=by
 by_cases h:ts= []
 ·subst h;decide +kernel
 ·have:=join_length_add ts h;omega
mutual
theorem shown_ok {B:Nat} :∀ {x:D},U B x→∃a,toPyR x=some a∧a.showable=true∧a.shown.length+2≤wt x∧a.depth≤dp x∧(a.shown== "''")=isEmp x
 | .non,_=>⟨.none,rfl,by simp[PyData.showable],by rw[PyData.shown_none];simp only[wt];decide +kernel,by simp[PyData.depth,dp],by rw[PyData.shown_none];simp only[isEmp];decide +kernel⟩
 | .bl b,_=>⟨.bool b,rfl,by simp[PyData.showable],by rw[PyData.shown_bool];simp only[wt];cases b<;>decide +kernel,by simp[PyData.depth,dp],by rw[PyData.shown_bool];simp only[isEmp];cases b<;>decide +kernel⟩
 | .int i,h=>by
   cases h with
   |int h0 h1=>
    have hn:i.natAbs<10 ^ 5:=by omega
    refine⟨.int i,rfl,?_,?_,by simp[PyData.depth,dp],?_⟩
    ·simp only[PyData.showable,decide_eq_true_eq]
     by_cases z:i.natAbs=0
     ·rw[z];decide
     ·exact Nat.lt_trans ((Nat.log2_lt z).mpr (Nat.lt_trans hn (by decide:(10:Nat) ^ 5<2 ^ 20))) (by decide)
    ·rw[PyData.shown_int]
     have:=int_text_length_le10 (k:=5) (by decide) hn
     have e:(Str.ofString (toString i)).length=(toString i).length:=by
      rw[Str.ofString_eq_toList]
      simp only[Str.length,List.size_toArray,List.length_map]
      first|exact String.length_toList|rfl|simp[String.length]
     simp only[wt]
     omega
    ·rw[PyData.shown_int,int_not];rfl
 | .str s,h=>by
   cases h with
   |str hs=>
    refine⟨.str s,rfl,by simp[PyData.showable],?_,by simp[PyData.depth,dp],?_⟩
    ·rw[PyData.shown_str]
     have l9:=asc_len hs
     have:=reprText_le s (fun c hc=>by
      simp only[asc,Bool.and_eq_true,decide_eq_true_eq] at hs
      have:=List.all_eq_true.mp hs.2 c hc
      simpa using this)
     simp only[wt]
     omega
    ·rw[PyData.shown_str,str_emp];rfl
 | .tup l,h=>by
   have h:∀x ∈ l,U B x:=by cases h with|tup _ h=>exact h
   obtain⟨as,e1,e2,e3,e4⟩:=showns_ok h
   refine⟨.tuple as,by simp only[toPyR,e1];rfl,by simpa[PyData.showable] using e2,?_,by simp only[PyData.depth,dp];omega,?_⟩
   ·rw[PyData.shown_tuple,strLen_append,strLen_append]
    have:=join_le (PyData.shownAll as)
    have a1:(("(" :String):Str).length=1:=rfl
    have a2:(((if as.length==1 then ",)" else ")" :String):Str)).length≤2:=by split<;>decide
    simp only[wt];omega
   ·rw[PyData.shown_tuple,Str.append_assoc]
    rw[first_not (a:= "(") (by decide +kernel) (by decide +kernel) rfl];rfl
 | .lst l,h=>by
   have h:∀x ∈ l,U B x:=by cases h with|lst _ h=>exact h
   obtain⟨as,e1,e2,e3,e4⟩:=showns_ok h
   refine⟨.list as,by simp only[toPyR,e1];rfl,by simpa[PyData.showable] using e2,?_,by simp only[PyData.depth,dp];omega,?_⟩
   ·rw[PyData.shown_list,strLen_append,strLen_append]
    have:=join_le (PyData.shownAll as)
    have a1:(("[" :String):Str).length=1:=rfl
    have a2:(("]" :String):Str).length=1:=rfl
    simp only[wt];omega
   ·rw[PyData.shown_list,Str.append_assoc]
    rw[first_not (a:= "[") (by decide +kernel) (by decide +kernel) rfl];rfl
 | .dic ks l,h=>by
   cases h with
   |dic=>
    refine⟨.dict [],rfl,by simp[PyData.showable,PyData.showableKv],?_,by simp[PyData.depth,PyData.depthKv,dp],?_⟩
    ·rw[PyData.shown_dict,PyData.shownKv_nil];simp only[wt];decide +kernel
    ·rw[PyData.shown_dict,PyData.shownKv_nil];simp only[isEmp];decide +kernel
 | .obj _,h=>nomatch h
 | .glb _,h=>nomatch h
 | .wtp _,h=>nomatch h
 | .ty _,h=>nomatch h
 | .scr _,h=>nomatch h
 | .kd _ _,h=>nomatch h
 | .xcp _ _ _,h=>nomatch h
 | .lam _ _,h=>nomatch h
theorem showns_ok {B:Nat} :∀ {l:List D},(∀ x ∈ l,U B x)→∃as,toPyRL l=some as∧PyData.showableAll as=true∧piled (PyData.shownAll as)≤wts l∧PyData.depthAll as≤dps l
 | [],_=>⟨[],rfl,by simp[PyData.showableAll],by simp[PyData.shownAll,piled,wts],by simp[PyData.depthAll,dps]⟩
 |x::l,h=>by
  obtain⟨a,e1,e2,e3,e4,_⟩:=shown_ok (h x (List.mem_cons_self ..))
  obtain⟨as,f1,f2,f3,f4⟩:=showns_ok fun y hy=>h y (List.mem_cons_of_mem _ hy)
  refine⟨a::as,by simp only[toPyRL,e1,f1],by simp[PyData.showableAll,e2,f2],?_,by simp only[PyData.depthAll,dps];omega⟩
  simp only[PyData.shownAll,piled_cons,wts];omega
end
section
variable {env:EnvD} {S S1:Store} {N B C:EnvD→Store→Prop} {T:D→Store→Prop} {c:TD} {a:ED} {r s t:SD}
theorem step_no (hc:c env S= .ok false S1) (h:(r env S1).sat N T B C):(sSeq (sIf c s sSkip) r env S).sat N T B C:=by
 rw[ssat_seq,ssat_if,hc,sat_ok,if_neg Bool.false_ne_true,ssat_skip];exact h
theorem step_asg {d:D} {g:GD} {env':EnvD} {S2:Store} (ha:a env S= .ok d S1) (hg:g d env S1= .nx env' S2) (h:(r env' S2).sat N T B C):(sSeq (sAsg a g) r env S).sat N T B C:=by
 rw[ssat_seq,ssat_asg,ha,sat_ok,hg,ssat_nx];exact h
end
end L3
inductive L3.R.esat {α :Type} (E:L3.Ex→L3.Store→Prop):L3.R α →(α →L3.Store→Prop)→Prop where
 |mk {a: α} {S:L3.Store} {Q: α →L3.Store→Prop} (h:Q a S):L3.R.esat E (.ok a S) Q
 |ex {e:L3.Ex} {S:L3.Store} {Q: α →L3.Store→Prop} (h:E e S):L3.R.esat E (.exc e S) Q
inductive L3.SR.esat (F:L3.Ex→L3.EnvD→L3.Store→Prop):L3.SR→(L3.EnvD→L3.Store→Prop)→(L3.D→L3.Store→Prop)→(L3.EnvD→L3.Store→Prop)→(L3.EnvD→L3.Store→Prop)→Prop where
 |nx {e S} {N:L3.EnvD→L3.Store→Prop} {T:L3.D→L3.Store→Prop} {B C:L3.EnvD→L3.Store→Prop} (h:N e S):L3.SR.esat F (.nx e S) N T B C
 |ret {d S} {N:L3.EnvD→L3.Store→Prop} {T:L3.D→L3.Store→Prop} {B C:L3.EnvD→L3.Store→Prop} (h:T d S):L3.SR.esat F (.ret d S) N T B C
 |brk {e S} {N:L3.EnvD→L3.Store→Prop} {T:L3.D→L3.Store→Prop} {B C:L3.EnvD→L3.Store→Prop} (h:B e S):L3.SR.esat F (.brk e S) N T B C
 |ct {e S} {N:L3.EnvD→L3.Store→Prop} {T:L3.D→L3.Store→Prop} {B C:L3.EnvD→L3.Store→Prop} (h:C e S):L3.SR.esat F (.ct e S) N T B C
 |exc {x e S} {N:L3.EnvD→L3.Store→Prop} {T:L3.D→L3.Store→Prop} {B C:L3.EnvD→L3.Store→Prop} (h:F x e S):L3.SR.esat F (.exc x e S) N T B C
namespace L3.X
open PySem L2 L3
section
variable {α β :Type} {S:Store} {env:EnvD} {d:D} {E:Ex→Store→Prop}
@[simp] theorem sat_ok {a: α} {Q: α →Store→Prop} :(R.ok a S).esat E Q=Q a S:=propext ⟨fun h=>by cases h;assumption, .mk⟩
@[simp] theorem sat_bad {Q: α →Store→Prop} :(R.bad:R α).esat E Q=False:=propext ⟨fun h=>(by cases h),False.elim⟩
@[simp] theorem sat_exc {e:Ex} {Q: α →Store→Prop} :(R.exc e S:R α).esat E Q=E e S:=propext ⟨fun h=>(by cases h;assumption), .ex⟩
theorem sat_bind {r:R α} {f: α →Store→R β} {Q: β →Store→Prop} :(r.bind f).esat E Q=r.esat E fun a S=>(f a S).esat E Q:=by cases r<;>simp[R.bind]
variable {Q:D→Store→Prop} {QB:Bool→Store→Prop} {QL:List D→Store→Prop}
@[simp] theorem sat_blD {x:D} :(blD x S).esat E QB=∃k,x= .bl k∧QB k S:=by
  unfold blD;cases x<;>simp
theorem sat_if_bad {c:Prop} [Decidable c] {a:R α} {Q: α →Store→Prop} :(if c then a else .bad).esat E Q=(c∧a.esat E Q):=by by_cases h:c<;>simp[h]
@[simp] theorem sat_eVar {i:Nat} :(eVar i env S).esat E Q=match env[i]? with
   |some (some d)=>Q d S
   | _=>False:=by unfold eVar;cases env[i]? with
  |none=>simp
  |some o=>cases o<;>simp
@[simp] theorem sat_eK:(eK d env S).esat E Q=Q d S:=sat_ok
@[simp] theorem sat_e1 {f:L3.F1} {a:ED} :(e1 f a env S).esat E Q=(a env S).esat E fun x S1=>(f x S1).esat E Q:=sat_bind
@[simp] theorem sat_e2 {f:L3.F2} {a b:ED} :(e2 f a b env S).esat E Q=(a env S).esat E fun x S1=>(b env S1).esat E fun y S2=>(f x y S2).esat E Q:=by unfold e2;rw[sat_bind];simp only[sat_bind]
@[simp] theorem sat_aNil:(aNil env S).esat E QL=QL [] S:=sat_ok
@[simp] theorem sat_aCons {a:ED} {r:AD} :(aCons a r env S).esat E QL=(a env S).esat E fun x S1=>(r env S1).esat E fun xs S2=>QL (x::xs) S2:=by unfold aCons;rw[sat_bind];simp only[sat_bind,sat_ok]
@[simp] theorem sat_eN {f:FN} {a:AD} :(eN f a env S).esat E Q=(a env S).esat E fun xs S1=>(f xs S1).esat E Q:=sat_bind
@[simp] theorem sat_eIf {c:TD} {a b:ED} :(eIf c a b env S).esat E Q=(c env S).esat E fun k S1=>if k=true then(a env S1).esat E Q else(b env S1).esat E Q:=by
  unfold eIf;rw[sat_bind];congr;funext k S1;cases k<;>simp
@[simp] theorem sat_tOfE {a:ED} :(tOfE a env S).esat E QB=(a env S).esat E fun x S1=>(blD x S1).esat E QB:=by
  unfold tOfE;rw[sat_bind];congr
@[simp] theorem sat_tTruth {a:ED} :(tTruth a env S).esat E QB=(a env S).esat E fun x S1=>(truthD x S1).esat E QB:=sat_bind
@[simp] theorem sat_tNot {a:TD} :(tNot a env S).esat E QB=(a env S).esat E fun k S1=>QB (!k) S1:=by unfold tNot;rw[sat_bind];simp only[sat_ok]
@[simp] theorem sat_tAnd {a b:TD} :(tAnd a b env S).esat E QB=(a env S).esat E fun k S1=>if k=true then(b env S1).esat E QB else QB false S1:=by
  unfold tAnd;rw[sat_bind];congr;funext k S1;cases k<;>simp
@[simp] theorem sat_tOr {a b:TD} :(tOr a b env S).esat E QB=(a env S).esat E fun k S1=>if k=true then QB true S1 else(b env S1).esat E QB:=by
  unfold tOr;rw[sat_bind];congr;funext k S1;cases k<;>simp
@[simp] theorem sat_eNot {a:ED} :(eNot a env S).esat E Q=(a env S).esat E fun x S1=>(blD x S1).esat E fun k S2=>Q (.bl (!k)) S2:=by
  unfold eNot;rw[sat_bind,sat_tOfE];simp only[sat_ok]
@[simp] theorem sat_eAnd {a b:ED} :(eAnd a b env S).esat E Q=(a env S).esat E fun x S1=>(blD x S1).esat E fun k S2=>if k=true then(b env S2).esat E Q else Q (.bl false) S2:=by
  unfold eAnd;rw[sat_bind,sat_tOfE];congr;funext x S1;congr;funext k S2;cases k<;>simp
@[simp] theorem sat_eOr {a b:ED} :(eOr a b env S).esat E Q=(a env S).esat E fun x S1=>(blD x S1).esat E fun k S2=>if k=true then Q (.bl true) S2 else(b env S2).esat E Q:=by
  unfold eOr;rw[sat_bind,sat_tOfE];congr;funext x S1;congr;funext k S2;cases k<;>simp
@[simp] theorem sat_eChain {f g:L3.F2} {a b c:ED} :(eChain f g a b c env S).esat E Q=(a env S).esat E fun x S1=>(b env S1).esat E fun y S2=>(f x y S2).esat E fun r S3=>(blD r S3).esat E fun k S4=>if k=true then(c env S4).esat E fun z S5=>(g y z S5).esat E Q else Q (.bl false) S4:=by
  unfold eChain;rw[sat_bind];simp only[sat_bind];congr;funext x S1;congr;funext y S2;congr;funext r S3
  cases r with
  |bl k=>cases k<;>simp[sat_bind]
  | _=>simp[blD]
@[simp] theorem sat_eBM {T:String} {f:D→FN} {o:ED} {a:AD} :(eBM T f o a env S).esat E Q=(o env S).esat E fun x S1=>(mtD x S1=some T∧(a env S1).esat E fun xs S2=>(f x xs S2).esat E Q):=by
  unfold eBM;rw[sat_bind];congr;funext x S1;rw[sat_if_bad,sat_bind]
@[simp] theorem sat_eKw {f:List D→FN} {a b:AD} :(eKw f a b env S).esat E Q=(a env S).esat E fun xs S1=>(b env S1).esat E fun zs S2=>(f xs zs S2).esat E Q:=by unfold eKw;rw[sat_bind];simp only[sat_bind]
@[simp] theorem sat_eFnL {i:Nat} {x:Str} {F:FN} {a:AD} :(eFnL i x F a env S).esat E Q=match env[i]? with
   |some (some (.glb y))=>y=x∧(a env S).esat E fun xs S1=>(F xs S1).esat E Q
   | _=>False:=by
  unfold eFnL
  cases env[i]? with
  |none=>simp
  |some o=>
   cases o with
   |none=>simp
   |some d=>
    cases d with
    |glb y=>simp only [];rw[sat_if_bad,sat_bind]
    | _=>simp
@[simp] theorem sat_iSeq {a:ED} :(iSeq a env S).esat E QL=(a env S).esat E fun x S1=>(itemsD x S1).esat E QL:=sat_bind
@[simp] theorem sat_iArgs {f:List D→Store→R (List D)} {a:AD} :(iArgs f a env S).esat E QL=(a env S).esat E fun xs S1=>(f xs S1).esat E QL:=sat_bind
@[simp] theorem sat_range1 {j:Int} :(range1 [.int j] S).esat E QL=(okRng j=true∧QL (rangeD 0 j) S):=by unfold range1;simp only [];rw[sat_if_bad,sat_ok]
@[simp] theorem sat_range2 {i j:Int} :(range2 [.int i, .int j] S).esat E QL=((okRng i&&okRng j)=true∧QL (rangeD i j) S):=by unfold range2;simp only [];rw[sat_if_bad,sat_ok]
@[simp] theorem sat_mkTup {xs:List D} :(mkTup xs S).esat E Q=(xs.length≤sizeLine∧Q (.tup xs) S):=by unfold mkTup;rw[sat_if_bad,sat_ok]
@[simp] theorem sat_mkLst {xs:List D} :(mkLst xs S).esat E Q=(xs.length≤sizeLine∧Q (.lst xs) S):=by unfold mkLst;rw[sat_if_bad,sat_ok]
@[simp] theorem sat_mkObj {xs:List D} :(mkObj xs S).esat E Q=(xs.length≤sizeLine∧Q (.obj S.length) (S++ [.lst xs])):=by unfold mkObj;rw[sat_if_bad,sat_ok]
@[simp] theorem sat_pNo {QO:Option Int→Store→Prop} :(pNo env S).esat E QO=QO none S:=sat_ok
@[simp] theorem sat_pYes {a:ED} {QO:Option Int→Store→Prop} :(pYes a env S).esat E QO=(a env S).esat E fun x S1=>∃i,x= .int i∧QO (some i) S1:=by
  unfold pYes;rw[sat_bind];congr;funext x S1
  cases x<;>simp
@[simp] theorem sat_eSl {a:ED} {l h:PD} :(eSl a l h env S).esat E Q=(a env S).esat E fun x S1=>(l env S1).esat E fun lo S2=>(h env S2).esat E fun hi S3=>(slD x lo hi S3).esat E Q:=by
  unfold eSl;simp only[sat_bind]
@[simp] theorem sat_eBackT {a:ED} :(eBackT a env S).esat E Q=(a env S).esat E fun x S1=>∃l,x= .tup l∧Q (.tup l.reverse) S1:=by
  unfold eBackT;rw[sat_bind];congr;funext x S1
  cases x<;>simp
@[simp] theorem sat_eDic0:(eDic0 env S).esat E Q=Q (.dic [] []) S:=sat_ok
@[simp] theorem sat_eDct0:(eDct0 env S).esat E Q=Q (.obj S.length) (S++ [.dK []]):=sat_ok
end
section
variable {S S1:Store} {env:EnvD} {d:D} {N B C:EnvD→Store→Prop} {T:D→Store→Prop} {Q:D→Store→Prop} {F:Ex→EnvD→Store→Prop} {E:Ex→Store→Prop}
@[simp] theorem ssat_nx:(SR.nx env S).esat F N T B C=N env S:=propext ⟨fun h=>by cases h;assumption, .nx⟩
@[simp] theorem ssat_ret:(SR.ret d S).esat F N T B C=T d S:=propext ⟨fun h=>by cases h;assumption, .ret⟩
@[simp] theorem ssat_brk:(SR.brk env S).esat F N T B C=B env S:=propext ⟨fun h=>by cases h;assumption, .brk⟩
@[simp] theorem ssat_ct:(SR.ct env S).esat F N T B C=C env S:=propext ⟨fun h=>by cases h;assumption, .ct⟩
@[simp] theorem ssat_bad:SR.bad.esat F N T B C=False:=propext ⟨fun h=>(by cases h),False.elim⟩
@[simp] theorem ssat_exc {e:Ex} :(SR.exc e env S).esat F N T B C=F e env S:=propext ⟨fun h=>(by cases h;assumption), .exc⟩
theorem ssat_toS {α :Type} {r:R α} {k: α →Store→SR} :(r.toS env k).esat F N T B C=r.esat (fun e S=>F e env S) fun a S=>(k a S).esat F N T B C:=by cases r<;>simp[R.toS]
theorem ssat_mono {r:SR} {F':Ex→EnvD→Store→Prop} {N' B' C':EnvD→Store→Prop} {T':D→Store→Prop} (h:r.esat F N T B C) (hF:∀x e S,F x e S→F' x e S) (hN:∀e S,N e S→N' e S) (hT:∀d S,T d S→T' d S) (hB:∀e S,B e S→B' e S) (hC:∀e S,C e S→C' e S):r.esat F' N' T' B' C':=by
 cases h with
 |nx h=>exact .nx (hN _ _ h)
 |ret h=>exact .ret (hT _ _ h)
 |brk h=>exact .brk (hB _ _ h)
 |ct h=>exact .ct (hC _ _ h)
 |exc h=>exact .exc (hF _ _ _ h)
theorem of_ssat {r:SR} (h:r.sat N T B C):r.esat F N T B C:=by
 cases h with
 |nx h=>exact .nx h
 |ret h=>exact .ret h
 |brk h=>exact .brk h
 |ct h=>exact .ct h
@[simp] theorem ssat_skip:(sSkip env S).esat F N T B C=N env S:=ssat_nx
@[simp] theorem ssat_seq {a b:SD} :(sSeq a b env S).esat F N T B C=(a env S).esat F (fun e S=>(b e S).esat F N T B C) T B C:=by
  unfold sSeq;cases a env S<;>simp
@[simp] theorem ssat_if {c:TD} {a b:SD} :(sIf c a b env S).esat F N T B C=(c env S).esat (fun e S=>F e env S) fun k S1=>if k=true then(a env S1).esat F N T B C else(b env S1).esat F N T B C:=by
  unfold sIf;rw[ssat_toS];congr;funext k S1;cases k<;>simp
@[simp] theorem ssat_sRet {a:ED} :(sRet a env S).esat F N T B C=(a env S).esat (fun e S=>F e env S) T:=by unfold sRet;rw[ssat_toS];simp only[ssat_ret]
@[simp] theorem ssat_sExpr {a:ED} :(sExpr a env S).esat F N T B C=(a env S).esat (fun e S=>F e env S) fun _ S1=>N env S1:=by unfold sExpr;rw[ssat_toS];simp only[ssat_nx]
@[simp] theorem ssat_sBrk:(sBrk env S).esat F N T B C=B env S:=ssat_brk
@[simp] theorem ssat_sCt:(sCt env S).esat F N T B C=C env S:=ssat_ct
@[simp] theorem ssat_asg {a:ED} {g:GD} :(sAsg a g env S).esat F N T B C=(a env S).esat (fun e S=>F e env S) fun d S1=>(g d env S1).esat F N T B C:=by unfold sAsg;rw[ssat_toS]
@[simp] theorem ssat_par {is:List Nat} {a:AD} :(sPar is a env S).esat F N T B C=(a env S).esat (fun e S=>F e env S) fun xs S1=>(gNames is xs env S1).esat F N T B C:=by unfold sPar;rw[ssat_toS]
@[simp] theorem ssat_raise0 {c:Str} :(sRaise0 c env S).esat F N T B C=F ⟨c,[]⟩ env S:=ssat_exc
@[simp] theorem ssat_raise1 {c f:Str} {a:ED} :(sRaise1 c f a env S).esat F N T B C=(a env S).esat (fun e S=>F e env S) fun d S1=>F ⟨c,[(f,d)]⟩ env S1:=by unfold sRaise1;rw[ssat_toS];simp only[ssat_exc]
theorem ssat_for {mi:ID} {g:GD} {body:SD} :(sFor mi g body env S).esat F N T B C=(mi env S).esat (fun e S=>F e env S) fun xs S1=>(forL g body xs env S1).esat F N T B C:=by unfold sFor;rw[ssat_toS]
@[simp] theorem forL_nil {g:GD} {body:SD} :(forL g body [] env S).esat F N T B C=N env S:=ssat_nx
theorem forL_cons {g:GD} {body:SD} {x:D} {xs:List D} :(forL g body (x::xs) env S).esat F N T B C=(g x env S).sat (fun e S=>(body e S).esat F (fun e S=>(forL g body xs e S).esat F N T B C) T N (fun e S=>(forL g body xs e S).esat F N T B C)) (fun _ _=>False) (fun _ _=>False) fun _ _=>False:=by
 show SR.esat F (match g x env S with
  | .nx env1 S1=>match body env1 S1 with
    | .nx env2 S2=>forL g body xs env2 S2
    | .ct env2 S2=>forL g body xs env2 S2
    | .brk env2 S2=> .nx env2 S2
    | .ret d S2=> .ret d S2
    | .exc e env2 S2=> .exc e env2 S2
    | .bad=> .bad
  | _=> .bad) N T B C=_
 cases g x env S with
 |nx env1 S1=>simp only[L3.ssat_nx];cases body env1 S1<;>simp
 | _=>simp
theorem for_rule {g:GD} {body:SD} (I:Nat→EnvD→Store→Prop) {xs:List D} (h0:I 0 env S)
 (hs:∀j (hj:j<xs.length) e S,I j e S→(g xs[j] e S).sat (fun e S=>(body e S).esat F (I (j+1)) T N (I (j+1))) (fun _ _=>False) (fun _ _=>False) fun _ _=>False)
 (hN:∀e S,I xs.length e S→N e S):(forL g body xs env S).esat F N T B C:=by
 induction xs generalizing I env S with
 |nil=>exact .nx (hN _ _ h0)
 |cons x xs ih=>
  rw[forL_cons]
  refine L3.ssat_mono (hs 0 (by simp) env S h0) (fun e1 S1 h=> ?_) (fun _ _ h=>h) (fun _ _ h=>h) (fun _ _ h=>h)
  have go:∀e S,I 1 e S→(forL g body xs e S).esat F N T B C:=fun e S h=>
   ih (fun j=>I (j+1)) h (fun j hj e S h=>by
    have:=hs (j+1) (by simp;omega) e S h
    simpa using this) (fun e S h=>hN e S (by simpa using h))
  exact ssat_mono h (fun _ _ _ h=>h) go (fun _ _ h=>h) (fun _ _ h=>h) go
theorem sat_run {np n:Nat} {body:SD} {xs:List D} :(run np n body xs S).esat E Q=(xs.length=np∧(body (xs.map some++List.replicate (n-xs.length) none) S).esat (fun e _ S=>E e S) (fun _ S=>Q .non S) Q (fun _ _=>False) fun _ _=>False):=by
 unfold run;rw[sat_if_bad];congr
 cases body (xs.map some++List.replicate (n-xs.length) none) S<;>simp[SR.fin]
theorem step_no {c:TD} {r s:SD} (hc:c env S= .ok false S1) (h:(r env S1).esat F N T B C):(sSeq (sIf c s sSkip) r env S).esat F N T B C:=by
 rw[ssat_seq,ssat_if,hc,sat_ok,if_neg Bool.false_ne_true,ssat_skip];exact h
theorem step_asg {a:ED} {r:SD} {d:D} {g:GD} {env':EnvD} {S2:Store} (ha:a env S= .ok d S1) (hg:g d env S1= .nx env' S2) (h:(r env' S2).esat F N T B C):(sSeq (sAsg a g) r env S).esat F N T B C:=by
 rw[ssat_seq,ssat_asg,ha,sat_ok,hg,ssat_nx];exact h
end
end L3.X
namespace L3
open PySem L2
structure Grow (S S':Store):Prop where
 le:S.length≤S'.length
 fr:∀(i:Nat) (o:O),S[i]? =some o→S'[i]? =some o
theorem Grow.trans {S S' S'':Store} (a:Grow S S') (b:Grow S' S''):Grow S S'':=⟨Nat.le_trans a.le b.le,fun i o h=>b.fr i o (a.fr i o h)⟩
theorem Grow.app (S:Store) (o:O):Grow S (S++ [o]):=⟨by simp,fun m o' e=>by rw[List.getElem?_append_left (List.getElem?_eq_some_iff.mp e).1];exact e⟩
theorem Grow.put {S S':Store} (h:Grow S S') {p:Nat} (hp:S.length≤p) (o:O):Grow S (S'.set p o):=by
 refine⟨by simpa using h.le,fun m o' e=> ?_⟩
 have:=(List.getElem?_eq_some_iff.mp e).1
 rw[List.getElem?_set_ne (by omega)];exact h.fr m o' e
theorem set_last {S:Store} {a b:O} :(S++ [a]).set S.length b=S++ [b] :=by
 rw[List.set_append_right _ _ (Nat.le_refl _)];simp
def Tm.parts:Tm→List Tm
 | .num _=> []
 | .nam _=> []
 | .nd _ _ ps=>ps
def Tm.w:Tm→D
 | .num _=> .str "num"
 | .nam _=> .str "name"
 | .nd w _ _=> .str w
def Tm.m:Tm→D
 | .num i=> .int i
 | .nam s=> .str s
 | .nd _ m _=> .str m
theorem Tm.d_eq (t:Tm):t.d= .tup [t.w,t.m, .tup (Tm.ds t.parts)] :=by cases t<;>rfl
theorem Tm.sizes_mem {u:Tm} :∀ {ts:List Tm},u ∈ ts→u.size≤Tm.sizes ts
 |t::ts,h=>by
  simp only[Tm.sizes]
  rcases List.mem_cons.mp h with rfl|h
  ·omega
  ·have:=Tm.sizes_mem h;omega
theorem Tm.size_eq (t:Tm):t.size=1+Tm.sizes t.parts:=by cases t<;>simp[Tm.size,Tm.parts,Tm.sizes]
theorem Tm.dep_eq (t:Tm):t.dep=1+Tm.deps t.parts:=by cases t<;>simp[Tm.dep,Tm.parts,Tm.deps]
def Tm.at:Tm→List Nat→Option Tm
 |t,[] =>some t
 |t,i::q=>(t.parts[i]?).bind fun u=>u.at q
theorem Tm.at_app:∀(q r:List Nat) (t:Tm),t.at (q++r)=(t.at q).bind fun u=>u.at r
 | [],r,t=>rfl
 |i::q,r,t=>by
  simp only[List.cons_append,Tm.at]
  cases t.parts[i]? with
  |none=>rfl
  |some u=>exact Tm.at_app q r u
def pl (q:List Nat):D:= .tup (q.map fun i:Nat=> .int (i:Int))
mutual
/-- all places -/
def Tm.spots:Tm→List (List Nat)
 | .num _=> [[]]
 | .nam _=> [[]]
 | .nd _ _ ps=> [] ::Tm.spotsL 0 ps
def Tm.spotsL:Nat→List Tm→List (List Nat)
 | _,[] => []
 |k,t::ts=>t.spots.map (k:: ·)++Tm.spotsL (k+1) ts
end
theorem Tm.spots_eq (t:Tm):t.spots= [] ::Tm.spotsL 0 t.parts:=by cases t<;>simp[Tm.spots,Tm.parts,Tm.spotsL]
theorem Tm.spotsL_mem {q:List Nat} :∀ {ts:List Tm} {k:Nat},q ∈ Tm.spotsL k ts↔∃i r u,q=(k+i)::r∧ts[i]? =some u∧r ∈ u.spots
 | [],k=>by simp[Tm.spotsL]
 |t::ts,k=>by
  simp only[Tm.spotsL,List.mem_append,List.mem_map]
  rw[Tm.spotsL_mem (ts:=ts) (k:=k+1)]
  constructor
  ·rintro(⟨r,hr,rfl⟩|⟨i,r,u,rfl,h1,h2⟩)
   ·exact⟨0,r,t,rfl,rfl,hr⟩
   ·exact⟨i+1,r,u,by rw[show k+(i+1)=k+1+i by omega],by simpa using h1,h2⟩
  ·rintro⟨i,r,u,rfl,h1,h2⟩
   cases i with
   |zero=>simp only[List.getElem?_cons_zero,Option.some.injEq] at h1;subst h1;exact .inl ⟨r,h2,rfl⟩
   |succ i=>exact .inr ⟨i,r,u,by rw[show k+(i+1)=k+1+i by omega],by simpa using h1,h2⟩
theorem Tm.spots_at:∀ {q:List Nat} {t:Tm},q ∈ t.spots↔∃u,t.at q=some u
 | [],t=>by rw[Tm.spots_eq];simp[Tm.at]
 |i::q,t=>by
  rw[Tm.spots_eq,List.mem_cons]
  have e:(i::q= [])=False:=by simp
  rw[e,false_or,Tm.spotsL_mem]
  simp only[Tm.at]
  constructor
  ·rintro⟨j,r,u,e,h1,h2⟩
   simp only[Nat.zero_add,List.cons.injEq] at e
   obtain⟨rfl,rfl⟩:=e
   obtain⟨v,hv⟩:=Tm.spots_at.mp h2
   exact⟨v,by rw[h1];exact hv⟩
  ·rintro⟨v,hv⟩
   cases h1:t.parts[i]? with
   |none=>rw[h1] at hv;cases hv
   |some u=>
    rw[h1] at hv
    exact⟨i,q,u,by simp,h1,Tm.spots_at.mpr ⟨v,hv⟩⟩
mutual
theorem Tm.spots_len:∀t:Tm,t.spots.length=t.size
 | .num _=>rfl
 | .nam _=>rfl
 | .nd _ _ ps=>by simp only[Tm.spots,List.length_cons,Tm.size];rw[Tm.spotsL_len ps 0];omega
theorem Tm.spotsL_len:∀(ts:List Tm) (k:Nat),(Tm.spotsL k ts).length=Tm.sizes ts
 | [],k=>rfl
 |t::ts,k=>by simp only[Tm.spotsL,List.length_append,List.length_map,Tm.sizes];rw[Tm.spots_len t,Tm.spotsL_len ts (k+1)]
end
theorem Tm.at_dep:∀ {q:List Nat} {t u:Tm},t.at q=some u→q.length+u.dep≤t.dep
 | [],t,u,h=>by simp only[Tm.at,Option.some.injEq] at h;subst h;simp
 |i::q,t,u,h=>by
  simp only[Tm.at] at h
  cases h1:t.parts[i]? with
  |none=>rw[h1] at h;cases h
  |some v=>
   rw[h1] at h
   have:=Tm.at_dep (q:=q) h
   have:=(Tm.deps_le (B:=Tm.deps t.parts)).mp (Nat.le_refl _) v (List.mem_of_getElem? h1)
   rw[Tm.dep_eq t]
   simp only[List.length_cons];omega
theorem Tm.ds_get {ts:List Tm} {i:Nat} :(Tm.ds ts)[i]? =(ts[i]?).map Tm.d:=by rw[Tm.ds_map,List.getElem?_map]
end L3
namespace L3
open PySem L2
variable {S:Store}
inductive Pln:D→Prop where
 |non:Pln .non
 |bl (b:Bool):Pln (.bl b)
 |int (i:Int):Pln (.int i)
 |str (s:Str):Pln (.str s)
 |tup (l:List D):Pln (.tup l)
 |lst (l:List D):Pln (.lst l)
 |dic:Pln (.dic [] [])
def isI:D→Bool
 | .int _=>true
 | _=>false
def numOk (y:D) (h:Int):Bool:=match y with
 | .int i=>decide (0≤i)&&decide (i≤h)
 | _=>false
def mIsWhole:SD:=sRet (eAnd (eN isiD (aCons (eVar 0) (aCons (eK (.ty "int")) (aNil)))) (eNot (eN isiD (aCons (eVar 0) (aCons (eK (.ty "bool")) (aNil))))))
def mIsNumber (isw:FN):SD:=sRet (eAnd (eN (callK isw []) (aCons (eVar 0) (aNil))) (eChain leD leD (eVar 1) (eVar 0) (eVar 2)))
def IsWholeF (f:FN):Prop:=∀(y:D) (S:Store),Pln y→f [y] S= .ok (.bl (isI y)) S
theorem isWholeF:IsWholeF (run 1 1 mIsWhole):=fun y S h=>by
 apply of_sat
 rw[sat_run]
 refine⟨rfl,?_⟩
 unfold mIsWhole
 cases h<;>simp[isI]
def IsNumberF (f:FN):Prop:=∀(y:D) (h:Int) (S:Store),Pln y→f [y, .int 0, .int h] S= .ok (.bl (numOk y h)) S
theorem isNumberF {isw:FN} (hw:IsWholeF isw):IsNumberF (run 3 3 (mIsNumber isw)):=fun y h S p=>by
 apply of_sat
 rw[sat_run]
 refine⟨rfl,?_⟩
 unfold mIsNumber
 simp only[ssat_sRet,sat_eAnd,sat_eN,sat_aCons,sat_aNil,sat_eVar,List.map_cons,List.map_nil,List.cons_append,List.nil_append,List.length_cons,List.length_nil,List.replicate,Nat.zero_add,Nat.reduceAdd,Nat.reduceSub,List.getElem?_cons_succ,List.getElem?_cons_zero,callK_eq,List.append_nil]
 rw[hw y S p,sat_ok,blD_bl,sat_ok]
 cases p<;>simp[isI,numOk]
 split<;>simp_all
 intro _
 omega
def mAt (isn:FN):SD:=
    sSeq (sIf (tNot (tTruth (eN isiD (aCons (eVar 1) (aCons (eK (.ty "tuple")) (aNil)))))) (sRaise1 "NoPlace" "place" (eVar 1)) (sSkip))
    (sSeq (sAsg (eVar 0) (gName 2))
    (sSeq (sFor (iSeq (eVar 1)) (gName 3) (sSeq (sIf (tNot (tTruth (eKw (kwK isn 1 1 (fun ds es=>gat3 [(0,0),(1,0),(2,0)] ds [.int 0] es)) (aCons (eVar 3) (aNil)) (aCons (e2 subD (eN lenD (aCons (e2 ixD (eVar 2) (eK (.int 2))) (aNil))) (eK (.int 1))) (aNil))))) (sRaise1 "NoPlace" "place" (eVar 1)) (sSkip))
    (sAsg (e2 ixD (e2 ixD (eVar 2) (eK (.int 2))) (eVar 3)) (gName 2))))
    (sRet (eVar 2))))
theorem ix_parts (t:Tm):ixD t.d (.int 2) S= .ok (.tup (Tm.ds t.parts)) S:=by rw[Tm.d_eq];rfl
theorem ix_nat {l:List D} {i:Nat} {d:D} (h:l[i]? =some d):ixD (.tup l) (.int (i:Int)) S= .ok d S:=by
 have hl:=(List.getElem?_eq_some_iff.mp h).1
 simp only[ixD,atI,ixN]
 have e1:(if(i:Int)<0 then(i:Int)+l.length else i)=i:=by rw[if_neg (by omega)]
 simp[hl,(List.getElem?_eq_some_iff.mp h).2]
inductive NoPl (t:Tm):D→Prop where
 |not {x:D} :Pln x→(∀ l,x≠ .tup l)→NoPl t x
 |deep {q:List Nat} {u:Tm} {y:D} {r:List D} :t.at q=some u→Pln y→numOk y ((u.parts.length:Int)-1)=false→NoPl t (.tup ((q.map fun i:Nat=>D.int (i:Int))++y::r))
def noP (x:D):Ex:=⟨"NoPlace",[("place",x)]⟩
def mAtB (isn:FN):SD:=sSeq (sIf (tNot (tTruth (eKw (kwK isn 1 1 (fun ds es=>gat3 [(0,0),(1,0),(2,0)] ds [.int 0] es)) (aCons (eVar 3) (aNil)) (aCons (e2 subD (eN lenD (aCons (e2 ixD (eVar 2) (eK (.int 2))) (aNil))) (eK (.int 1))) (aNil))))) (sRaise1 "NoPlace" "place" (eVar 1)) (sSkip))
    (sAsg (e2 ixD (e2 ixD (eVar 2) (eK (.int 2))) (eVar 3)) (gName 2))
theorem at_look {isn:FN} (hn:IsNumberF isn) {a b:Option D} {v:Tm} {z:D} (hz:Pln z):
 (tNot (tTruth (eKw (kwK isn 1 1 (fun ds es=>gat3 [(0,0),(1,0),(2,0)] ds [.int 0] es)) (aCons (eVar 3) (aNil)) (aCons (e2 subD (eN lenD (aCons (e2 ixD (eVar 2) (eK (.int 2))) (aNil))) (eK (.int 1))) (aNil))))) [a,b,some v.d,some z] S= .ok (!numOk z ((v.parts.length:Int)-1)) S:=by
 apply of_sat
 simp only[sat_tNot,sat_tTruth,sat_eKw,sat_aCons,sat_aNil,sat_eVar,sat_e2,sat_eN,sat_eK,List.getElem?_cons_succ,List.getElem?_cons_zero]
 rw[ix_parts,sat_ok,len_tup,sat_ok,sub_int,sat_ok,Tm.ds_len]
 have e:kwK isn 1 1 (fun ds es=>gat3 [(0,0),(1,0),(2,0)] ds [.int 0] es) [z] [.int ((v.parts.length:Int)-1)] S=isn [z, .int 0, .int ((v.parts.length:Int)-1)] S:=rfl
 rw[e,hn z _ S hz,sat_ok,truthD_bl,sat_ok]
 exact⟨rfl,rfl⟩
theorem at_step {isn:FN} (hn:IsNumberF isn) {a b:Option D} {v v':Tm} {i:Nat} (h:v.parts[i]? =some v'):
 (mAtB isn [a,b,some v.d,some (.int (i:Int))] S).sat (fun e S'=>e= [a,b,some v'.d,some (.int (i:Int))] ∧S'=S) (fun _ _=>False) (fun _ _=>False) fun _ _=>False:=by
 have hl:=(List.getElem?_eq_some_iff.mp h).1
 unfold mAtB
 refine step_no (S1:=S) ?_ ?_
 ·rw[at_look hn (.int _)]
  have:numOk (.int (i:Int)) ((v.parts.length:Int)-1)=true:=by simp only[numOk,Bool.and_eq_true,decide_eq_true_eq];omega
  rw[this];rfl
 simp only[ssat_asg,sat_e2,sat_eVar,sat_eK,List.getElem?_cons_succ,List.getElem?_cons_zero]
 rw[ix_parts,sat_ok,ix_nat (d:=v'.d) (by rw[Tm.ds_get,h];rfl),sat_ok,gName_eq,ssat_nx]
 exact⟨rfl,rfl⟩
theorem at_stop {isn:FN} (hn:IsNumberF isn) {a:Option D} {x z:D} {v:Tm} (hz:Pln z) (h:numOk z ((v.parts.length:Int)-1)=false):
 mAtB isn [a,some x,some v.d,some z] S= .exc (noP x) [a,some x,some v.d,some z] S:=by
 unfold mAtB sSeq sIf
 rw[at_look hn hz,h]
 rfl
theorem Tm.at_take {t u:Tm} {q:List Nat} (h:t.at q=some u) {j:Nat} (hj:j<q.length) {v:Tm} (hv:t.at (q.take j)=some v):∃v',v.parts[q[j]]? =some v'∧t.at (q.take (j+1))=some v':=by
 have e1:q=q.take (j+1)++q.drop (j+1):=(List.take_append_drop _ _).symm
 rw[e1,Tm.at_app] at h
 cases h2:t.at (q.take (j+1)) with
 |none=>rw[h2] at h;cases h
 |some v'=>
  refine⟨v',?_,rfl⟩
  rw[List.take_succ_eq_append_getElem hj,Tm.at_app,hv] at h2
  simp only[Option.bind_some,Tm.at] at h2
  cases h3:v.parts[q[j]]? with
  |none=>rw[h3] at h2;cases h2
  |some w=>rw[h3] at h2;simpa using h2
def IsAt (f:FN):Prop:=(∀ {t u:Tm} {q:List Nat} (S:Store),t.at q=some u→f [t.d,pl q] S= .ok u.d S)∧∀ {t:Tm} {x:D} (S:Store),NoPl t x→f [t.d,x] S= .exc (noP x) S
theorem isi_tupF {x:D} (h:Pln x) (n:∀l,x≠ .tup l):isiD [x, .ty "tuple"] S= .ok (.bl false) S:=by
 cases h with
 |tup l=>exact absurd rfl (n l)
 | _=>kernel_rfl
theorem exc_of {α :Type} {r:R α} {x:Ex} (h:r.esat (fun e S'=>e=x∧S'=S) fun _ _=>False):r= .exc x S:=by
 cases h with
 |mk h=>exact h.elim
 |ex h=>obtain⟨rfl,rfl⟩:=h;rfl
theorem itsAt {isn:FN} (hn:IsNumberF isn):IsAt (run 2 4 (mAt isn)):=by
 refine⟨fun {t u q} S h=> ?_,fun {t x} S h=> ?_⟩
 ·apply of_sat
  rw[sat_run]
  refine⟨rfl,?_⟩
  unfold mAt
  refine step_no (S1:=S) (of_sat (by simp[pl])) ?_
  refine step_asg (S1:=S) (S2:=S) (d:=t.d) (of_sat (by simp)) rfl ?_
  refine seq_rule (fun e S'=>e= [some t.d,some (pl q),some u.d,e.getD 3 none] ∧S'=S) ?_ ?_
  ·simp only[ssat_for,sat_iSeq,sat_eVar,List.map_cons,List.map_nil,List.cons_append,List.nil_append,List.length_cons,List.length_nil,List.replicate,Nat.zero_add,Nat.reduceAdd,Nat.reduceSub,List.set_cons_succ,List.set_cons_zero,List.getElem?_cons_succ,List.getElem?_cons_zero,pl,itemsD_tup,sat_ok]
   refine for_rule (fun j e S'=>(∃ a v,t.at (q.take j)=some v∧e= [some t.d,some (pl q),some v.d,a])∧S'=S) ⟨⟨_,t,by simp[Tm.at],rfl⟩,rfl⟩ ?_ ?_
   ·rintro j hj e S' ⟨⟨a,v,hv,rfl⟩,rfl⟩
    simp only[List.length_map] at hj
    obtain⟨v',h1,h2⟩:=Tm.at_take h hj hv
    simp only[gName_eq,ssat_nx,List.set_cons_succ,List.set_cons_zero,List.getElem_map]
    exact ssat_mono (at_step hn h1) (fun e S' ⟨h3,h4⟩=>⟨⟨_,v',h2,h3⟩,h4⟩) (fun _ _ h=>h.elim) (fun _ _ h=>h.elim) fun _ _ h=>h.elim
   ·rintro e S' ⟨⟨a,v,hv,rfl⟩,rfl⟩
    simp only[List.length_map,List.take_length,h,Option.some.injEq] at hv
    subst hv
    exact⟨rfl,rfl⟩
  ·rintro e S' ⟨h,rfl⟩
   rw[h]
   simp
 ·apply exc_of
  rw[X.sat_run]
  refine⟨rfl,?_⟩
  unfold mAt
  cases h with
  |not hp hne=>
   simp only[X.ssat_seq,X.ssat_if,X.sat_tNot,X.sat_tTruth,X.sat_eN,X.sat_aCons,X.sat_aNil,X.sat_eVar,X.sat_eK,List.map_cons,List.map_nil,List.cons_append,List.nil_append,List.length_cons,List.length_nil,List.replicate,Nat.zero_add,Nat.reduceAdd,Nat.reduceSub,List.getElem?_cons_succ,List.getElem?_cons_zero]
   rw[isi_tupF hp hne]
   simp[noP]
  | @deep q u y r hq hp hno=>
    refine X.step_no (S1:=S) (of_sat (by simp)) ?_
    refine X.step_asg (S1:=S) (S2:=S) (d:=t.d) (of_sat (by simp)) rfl ?_
    rw[X.ssat_seq]
    simp only[X.ssat_for,X.sat_iSeq,X.sat_eVar,List.map_cons,List.map_nil,List.cons_append,List.nil_append,List.length_cons,List.length_nil,List.replicate,Nat.zero_add,Nat.reduceAdd,Nat.reduceSub,List.set_cons_succ,List.set_cons_zero,List.getElem?_cons_succ,List.getElem?_cons_zero,itemsD_tup,X.sat_ok]
    generalize hx:(D.tup ((q.map fun i:Nat=>D.int (i:Int))++y::r))=x
    refine X.for_rule (fun j e S'=>(j≤q.length∧∃a v,t.at (q.take j)=some v∧e= [some t.d,some x,some v.d,a])∧S'=S) ⟨⟨by simp,_,t,by simp[Tm.at],rfl⟩,rfl⟩ ?_ ?_
    ·rintro j hj e S' ⟨⟨hle,a,v,hv,rfl⟩,rfl⟩
     simp only[gName_eq,ssat_nx,List.set_cons_succ,List.set_cons_zero]
     by_cases hlt:j<q.length
     ·obtain⟨v',h1,h2⟩:=Tm.at_take hq hlt hv
      have e1:((q.map fun i:Nat=>D.int (i:Int))++y::r)[j] = .int (q[j] :Int):=by rw[List.getElem_append_left (by simpa using hlt),List.getElem_map]
      rw[e1]
      exact X.of_ssat (ssat_mono (at_step hn h1) (fun e S' ⟨h3,h4⟩=>⟨⟨hlt,_,v',h2,h3⟩,h4⟩) (fun _ _ h=>h.elim) (fun _ _ h=>h.elim) fun _ _ h=>h.elim)
     ·have hjq:j=q.length:=by omega
      subst hjq
      rw[List.take_length,hq] at hv
      simp only[Option.some.injEq] at hv
      subst hv
      have e1:((q.map fun i:Nat=>D.int (i:Int))++y::r)[q.length] =y:=by rw[List.getElem_append_right (by simp)];simp
      rw[e1]
      have:=at_stop (S:=S') (a:=some t.d) (x:=x) hn hp hno
      unfold mAtB at this
      rw[this,X.ssat_exc]
      exact⟨rfl,rfl⟩
    ·rintro e S' ⟨⟨hle,_⟩,_⟩
     simp only[List.length_append,List.length_map,List.length_cons,List.length_nil] at hle
     omega
end L3
namespace L3
open PySem L2
variable {S:Store}
theorem Tm.len_sizes:∀ts:List Tm,ts.length≤Tm.sizes ts
 | [] =>by simp[Tm.sizes]
 |t::ts=>by
  have:=Tm.len_sizes ts
  have:=Tm.size_pos t
  simp only[Tm.sizes,List.length_cons];omega
theorem Tm.parts_size {t u:Tm} {i:Nat} (h:t.parts[i]? =some u):u.size<t.size:=by
 have:=Tm.sizes_mem (List.mem_of_getElem? h)
 rw[Tm.size_eq t];omega
theorem Tm.parts_len (t:Tm):t.parts.length<t.size:=by
 have:=Tm.len_sizes t.parts
 rw[Tm.size_eq t];omega
theorem Tm.at_cons {t u:Tm} {i:Nat} {q:List Nat} (h:t.at (i::q)=some u):∃v,t.parts[i]? =some v∧v.at q=some u:=by
 simp only[Tm.at] at h
 cases h1:t.parts[i]? with
 |none=>rw[h1] at h;cases h
 |some v=>rw[h1] at h;exact⟨v,rfl,h⟩
theorem mkTup1 {d:D} :mkTup [d] S= .ok (.tup [d]) S:=by
 apply of_sat;rw[sat_mkTup];exact⟨small (by simp),rfl,rfl⟩
theorem mkTup3 {a b c:D} :mkTup [a,b,c] S= .ok (.tup [a,b,c]) S:=by
 apply of_sat;rw[sat_mkTup];exact⟨small (by simp),rfl,rfl⟩
end L3
namespace L3
open PySem L2
variable {S:Store}
theorem Tm.spotsL_app:∀(a b:List Tm) (k:Nat),Tm.spotsL k (a++b)=Tm.spotsL k a++Tm.spotsL (k+a.length) b
 | [],b,k=>rfl
 |t::a,b,k=>by
  simp only[List.cons_append,Tm.spotsL,List.length_cons]
  rw[Tm.spotsL_app a b (k+1),List.append_assoc,show k+1+a.length=k+(a.length+1) by omega]
theorem Tm.spot_short {t:Tm} {q:List Nat} (h:q ∈ t.spots):q.length<t.dep:=by
 obtain⟨u,hu⟩:=Tm.spots_at.mp h
 have:=Tm.at_dep hu
 have:=Tm.dep_pos u
 omega
theorem enumL_at {l:List D} {k j:Nat} (h:j<(enumL k l).length):∃x,l[j]? =some x∧(enumL k l)[j] = .tup [.int ((k+j:Nat):Int),x] :=enumL_get k l j _ (List.getElem?_eq_getElem h)
theorem enumA_tup {l:List D} :enumA [.tup l] S= .ok (enumL 0 l) S:=rfl
theorem extend_obj {n:Nat} {l m:List D} {Q:D→Store→Prop} (e:S[n]? =some (.lst l)) (hz:l.length+m.length≤sizeLine) (q:Q .non (S.set n (.lst (l++m)))):(extendD (.obj n) [.lst m] S).sat Q:=by
 unfold extendD
 simp only[lstAt,e,hz,if_true,sat_ok]
 exact q
def under (i:Nat):D→D
 | .tup l=> .tup (.int (i:Int)::l)
 |d=>d
def mSpots (f:FN):SD:=
    sSeq (sAsg (eN mkObj (aCons (eN mkTup (aNil)) (aNil))) (gName 1))
    (sSeq (sFor (iArgs enumA (aCons (e2 ixD (eVar 0) (eK (.int 2))) (aNil))) (gTup [2,3]) (sExpr (eBM "list" extendD (eVar 1) (aCons (eLc (iSeq (eN (callK f []) (aCons (eVar 3) (aNil)))) [4] (gName 4) (tYesD) (e2 addD (eN mkTup (aCons (eVar 2) (aNil))) (eVar 4))) (aNil)))))
    (sRet (e1 frzD (eVar 1))))
def IsSpots (f:FN) (n:Nat):Prop:=∀ {t:Tm} (S:Store),t.dep≤n→t.size≤900→(f [t.d] S).sat fun d S'=>d= .lst (t.spots.map pl)∧Grow S S'
theorem isSpots {f:FN} {n:Nat} (hf:IsSpots f n) (hn:n≤1000):IsSpots (run 1 5 (mSpots f)) (n+1):=fun {t} S hd hs=>by
 rw[sat_run]
 refine⟨rfl,?_⟩
 unfold mSpots
 have hp:=Tm.parts_len t
 refine step_asg (S1:=S++ [.lst [.tup []]]) (S2:=S++ [.lst [.tup []]]) (d:= .obj S.length) (by
  obtain⟨a,S',e,h1,h2⟩:=sat_ex.mp (show(eN mkObj (aCons (eN mkTup aNil) aNil) (List.map some [t.d] ++List.replicate (5- [t.d].length) none) S).sat fun d S'=>d= .obj S.length∧S'=S++ [.lst [.tup []]] by simp[sz0,sz1])
  rw[e,h1,h2]) rfl ?_
 refine seq_rule (fun e S'=>(∃ a b c,e= [some t.d,some (.obj S.length),a,b,c])∧S'[S.length]? =some (.lst (t.spots.map pl))∧Grow S S') ?_ ?_
 ·simp only[ssat_for,sat_iArgs,sat_aCons,sat_aNil,sat_e2,sat_eVar,sat_eK,List.map_cons,List.map_nil,List.cons_append,List.nil_append,List.length_cons,List.length_nil,List.replicate,Nat.zero_add,Nat.reduceAdd,Nat.reduceSub,List.set_cons_succ,List.set_cons_zero,List.getElem?_cons_succ,List.getElem?_cons_zero]
  rw[ix_parts,sat_ok,enumA_tup,sat_ok]
  refine for_rule (fun j e S'=>(∃ a b c,e= [some t.d,some (.obj S.length),a,b,c])∧S'[S.length]? =some (.lst ((([] :List Nat)::Tm.spotsL 0 (t.parts.take j)).map pl))∧Grow S S') ⟨⟨_,_,_,rfl⟩,by simp[Tm.spotsL,pl],Grow.app ..⟩ ?_ ?_
  ·rintro j hj e S' ⟨⟨a,b,c,rfl⟩,hS,gr⟩
   obtain⟨x,h1,h2⟩:=enumL_at hj
   rw[h2,Nat.zero_add]
   rw[Tm.ds_get] at h1
   cases h3:t.parts[j]? with
   |none=>rw[h3] at h1;cases h1
   |some u=>
    rw[h3] at h1
    simp only[Option.map_some,Option.some.injEq] at h1
    subst h1
    have hj':=(List.getElem?_eq_some_iff.mp h3).1
    have hu:=Tm.parts_size h3
    have hud:u.dep≤n:=by
     have:=(Tm.deps_le (B:=Tm.deps t.parts)).mp (Nat.le_refl _) u (List.mem_of_getElem? h3)
     rw[Tm.dep_eq t] at hd;omega
    simp only[gTup_tup,gNames_cons,gNames_nil,ssat_nx,List.set_cons_succ,List.set_cons_zero,ssat_sExpr,sat_eBM,sat_aCons,sat_aNil,sat_eVar,List.getElem?_cons_succ,List.getElem?_cons_zero]
    refine⟨by simp[mtD,hS],?_⟩
    rw[sat_eLc]
    simp only[sat_iSeq,sat_eN,sat_aCons,sat_aNil,sat_eVar,List.getElem?_cons_succ,List.getElem?_cons_zero,callK_eq,List.append_nil]
    refine sat_mono (hf (t:=u) S' hud (by omega)) fun d S2 ⟨e,g2⟩=> ?_
    subst e
    rw[itemsD_lst,sat_ok]
    have hul:u.spots.length=u.size:=Tm.spots_len u
    refine⟨small (by rw[List.length_map];omega),?_⟩
    have hS2:=g2.fr _ _ hS
    have em:(u.spots.map pl).map (under j)=(u.spots.map (j:: ·)).map pl:=by
     rw[List.map_map,List.map_map];rfl
    refine lc_map (under j) ?_ ?_
    ·rintro x hx
     obtain⟨q,hq,rfl⟩:=List.mem_map.mp hx
     have hql:=Tm.spot_short hq
     simp only[wipeD,List.set_cons_succ,List.set_cons_zero,sat_e2,sat_eN,sat_aCons,sat_aNil,sat_eVar,List.getElem?_cons_succ,List.getElem?_cons_zero,mkTup1,sat_ok]
     unfold pl
     rw[add_tup (small (by simp;omega)),sat_ok]
     exact⟨rfl,rfl⟩
    ·rw[em]
     have e1:t.parts.take (j+1)=t.parts.take j++ [u] :=by
      rw[List.take_succ_eq_append_getElem hj']
      have:t.parts[j] =u:=by rw[List.getElem?_eq_getElem hj'] at h3;simpa using h3
      rw[this]
     have e2:Tm.spotsL 0 (t.parts.take (j+1))=Tm.spotsL 0 (t.parts.take j)++u.spots.map (j:: ·):=by
      rw[e1,Tm.spotsL_app]
      simp[Tm.spotsL,Nat.min_eq_left (Nat.le_of_lt hj')]
     have e3:(Tm.spotsL 0 (t.parts.take j)).length+u.size≤900:=by
      have h5:(Tm.spotsL 0 (t.parts.take (j+1))).length≤Tm.sizes t.parts:=by
       rw[Tm.spotsL_len]
       have:=Tm.sizes_app (t.parts.take (j+1)) (t.parts.drop (j+1))
       rw[List.take_append_drop] at this
       omega
      rw[e2,List.length_append,List.length_map,hul] at h5
      rw[Tm.size_eq t] at hs
      omega
     refine extend_obj hS2 (small (by simp;omega)) ?_
     refine⟨⟨_,_,_,rfl⟩,?_,(gr.trans g2).put (Nat.le_refl _) _⟩
     rw[List.getElem?_set_self (by have:=(List.getElem?_eq_some_iff.mp hS2).1;omega),e2]
     simp
  ·rintro e S' ⟨⟨a,b,c,rfl⟩,hS,gr⟩
   rw[enumL_len,Tm.ds_len,List.take_length,←Tm.spots_eq] at hS
   exact⟨⟨_,_,_,rfl⟩,hS,gr⟩
 ·rintro e S' ⟨⟨a,b,c,rfl⟩,hS,gr⟩
  simp only[ssat_sRet,sat_e1,sat_eVar,List.getElem?_cons_succ,List.getElem?_cons_zero]
  unfold frzD
  simp only[hS,sat_ok]
  exact⟨trivial,gr.put (Nat.le_refl _) _⟩
theorem isSpots0 (f:FN):IsSpots f 0:=fun {t} S h=>by have:=Tm.dep_pos t;omega
end L3
namespace L3
open PySem L2
variable {S:Store}
abbrev Stk:=List (List Nat × Tm)
def pkids (q:List Nat):Nat→List Tm→Stk
 | _,[] => []
 |k,t::ts=>(q++ [k],t)::pkids q (k+1) ts
def due (W:Stk):List (List Nat):=W.flatMap fun p=>p.2.spots.map (p.1++ ·)
def load (W:Stk):Nat:=(W.map fun p=>p.2.size).sum
theorem due_pkids (q:List Nat):∀(ts:List Tm) (k:Nat),due (pkids q k ts)=(Tm.spotsL k ts).map (q++ ·)
 | [],_=>rfl
 |t::ts,k=>by
  have:=due_pkids q ts (k+1)
  unfold due at this ⊢
  simp only[pkids,List.flatMap_cons,Tm.spotsL,List.map_append,List.map_map,this]
  congr 1
  apply List.map_congr_left
  intro r _
  simp
theorem load_pkids (q:List Nat):∀(ts:List Tm) (k:Nat),load (pkids q k ts)=Tm.sizes ts
 | [],_=>rfl
 |t::ts,k=>by
  have:=load_pkids q ts (k+1)
  unfold load at this ⊢
  simp only[pkids,List.map_cons,List.sum_cons,Tm.sizes,this]
theorem load_app (a b:Stk):load (a++b)=load a+load b:=by simp[load]
theorem due_app (a b:Stk):due (a++b)=due a++due b:=by simp[due]
theorem len_load (W:Stk):W.length≤load W:=by
 induction W with
 |nil=>simp
 |cons p W ih=>
  have:=Tm.size_pos p.2
  unfold load at ih ⊢
  simp only[List.length_cons,List.map_cons,List.sum_cons];omega
theorem pop_obj {n:Nat} {l:List D} {y:D} (h:S[n]? =some (.lst (l++ [y]))):popD (.obj n) [] S= .ok y (S.set n (.lst l)):=by
 unfold popD
 simp only[lstAt,h]
 simp
end L3
namespace L3
open PySem L2
variable {S:Store}
def Sh (W Dp:Nat) (x:D):Prop:=∃a,toPyR x=some a∧a.showable=true∧a.shown.length≤W∧a.depth≤Dp
theorem Sh.mono {W W' Dp Dp':Nat} {x:D} (h:Sh W Dp x) (h1:W≤W') (h2:Dp≤Dp'):Sh W' Dp' x:=by
 obtain⟨a,e1,e2,e3,e4⟩:=h
 exact⟨a,e1,e2,by omega,by omega⟩
theorem U.sh {B:Nat} {x:D} (h:U B x):Sh (wt x) (dp x) x:=by
 obtain⟨a,e1,e2,e3,e4,_⟩:=shown_ok h
 exact⟨a,e1,e2,by omega,e4⟩
theorem sh_int {i:Int} (h:i.natAbs<10 ^ 41):Sh 100 0 (.int i):=by
 refine⟨.int i,rfl,?_,?_,by simp[PyData.depth]⟩
 ·simp only[PyData.showable,decide_eq_true_eq]
  by_cases z:i.natAbs=0
  ·rw[z];decide
  ·exact Nat.lt_trans ((Nat.log2_lt z).mpr (Nat.lt_trans h (by decide:(10:Nat) ^ 41<2 ^ 140))) (by decide)
 ·rw[PyData.shown_int]
  have:=int_text_length_le10 (k:=41) (by decide) h
  have e:(Str.ofString (toString i)).length=(toString i).length:=by
   rw[Str.ofString_eq_toList]
   simp only[Str.length,List.size_toArray,List.length_map]
   first|exact String.length_toList|rfl|simp[String.length]
  omega
theorem shs {W Dp:Nat} :∀ {l:List D},(∀ x ∈ l,Sh W Dp x)→∃as,toPyRL l=some as∧PyData.showableAll as=true∧piled (PyData.shownAll as)≤l.length*(W+2)∧PyData.depthAll as≤Dp
 | [],_=>⟨[],rfl,by simp[PyData.showableAll],by simp[PyData.shownAll,piled],by simp[PyData.depthAll]⟩
 |x::l,h=>by
  obtain⟨a,e1,e2,e3,e4⟩:=h x (List.mem_cons_self ..)
  obtain⟨as,f1,f2,f3,f4⟩:=shs fun y hy=>h y (List.mem_cons_of_mem _ hy)
  refine⟨a::as,by simp only[toPyRL,e1,f1],by simp[PyData.showableAll,e2,f2],?_,by simp only[PyData.depthAll];omega⟩
  simp only[PyData.shownAll,piled_cons,List.length_cons,Nat.add_mul];omega
theorem sh_tup {W Dp:Nat} {l:List D} (h:∀x ∈ l,Sh W Dp x):Sh (l.length*(W+2)+10) (Dp+1) (.tup l):=by
 obtain⟨as,e1,e2,e3,e4⟩:=shs h
 refine⟨.tuple as,by simp only[toPyR,e1];rfl,by simpa[PyData.showable] using e2,?_,by simp only[PyData.depth];omega⟩
 rw[PyData.shown_tuple,strLen_append,strLen_append]
 have:=join_le (PyData.shownAll as)
 have a1:(("(" :String):Str).length=1:=rfl
 have a2:(((if as.length==1 then ",)" else ")" :String):Str)).length≤2:=by split<;>decide
 omega
theorem sh_lst {W Dp:Nat} {l:List D} (h:∀x ∈ l,Sh W Dp x):Sh (l.length*(W+2)+10) (Dp+1) (.lst l):=by
 obtain⟨as,e1,e2,e3,e4⟩:=shs h
 refine⟨.list as,by simp only[toPyR,e1];rfl,by simpa[PyData.showable] using e2,?_,by simp only[PyData.depth];omega⟩
 rw[PyData.shown_list,strLen_append,strLen_append]
 have:=join_le (PyData.shownAll as)
 have a1:(("[" :String):Str).length=1:=rfl
 have a2:(("]" :String):Str).length=1:=rfl
 omega
theorem repr_sh {W Dp:Nat} {x:D} (h:Sh W Dp x) (hw:W≤1000000) (hd:Dp≤100):∃z:Str,∀S,reprD [x] S= .ok (.str z) S:=by
 obtain⟨a,e1,e2,e3,e4⟩:=h
 refine⟨a.shown,fun S=> ?_⟩
 have hde:deref x S=x:=by
  cases x with
  |obj n=>cases e1
  | _=>rfl
 have hok:showOk a=true:=by
  simp only[showOk,e2,Bool.true_and,Bool.and_eq_true,decide_eq_true_eq]
  exact⟨Nat.le_trans (by omega) (by decide:1000000≤sizeLine),by omega⟩
 unfold reprD
 simp only[hde,e1]
 rw[if_pos hok]
theorem U.show {B:Nat} {x:D} (h:U B x) (hw:wt x≤1000000) (hd:dp x≤100):∃z:Str,∀S,reprD [x] S= .ok (.str z) S:=repr_sh h.sh hw hd
theorem U.parts {B:Nat} {t:Tm} (h:U B t.d):t.parts.length≤B∧∀u ∈ t.parts,U B u.d:=by
 rw[Tm.d_eq] at h
 cases h with
 |tup _ h=>
  have:=h (.tup (Tm.ds t.parts)) (by simp)
  cases this with
  |tup h1 h2=>
   rw[Tm.ds_len] at h1
   exact⟨h1,fun u hu=>h2 _ (by rw[Tm.ds_map];exact List.mem_map_of_mem hu)⟩
theorem U.at {B:Nat} :∀ {q:List Nat} {t u:Tm},U B t.d→t.at q=some u→U B u.d
 | [],t,u,h,e=>by simp only[Tm.at,Option.some.injEq] at e;subst e;exact h
 |i::q,t,u,h,e=>by
  obtain⟨v,h1,h2⟩:=Tm.at_cons e
  exact U.at (h.parts.2 v (List.mem_of_getElem? h1)) h2
theorem sh_pl {t u:Tm} {q:List Nat} {B:Nat} (h:U B t.d) (hB:B≤1000) (e:t.at q=some u):∀i ∈ q,i<B:=by
 induction q generalizing t with
 |nil=>simp
 |cons j q ih=>
  obtain⟨v,h1,h2⟩:=Tm.at_cons e
  intro i hi
  rcases List.mem_cons.mp hi with rfl|hi
  ·exact Nat.lt_of_lt_of_le (List.getElem?_eq_some_iff.mp h1).1 h.parts.1
  ·exact ih (h.parts.2 v (List.mem_of_getElem? h1)) h2 i hi
end L3
namespace L3
open PySem L2
mutual
theorem Tm.spots_nodup:∀t:Tm,t.spots.Nodup
 | .num _=>by simp[Tm.spots]
 | .nam _=>by simp[Tm.spots]
 | .nd _ _ ps=>by
   simp only[Tm.spots,List.nodup_cons]
   refine⟨fun h=> ?_,Tm.spotsL_nodup 0 ps⟩
   obtain⟨i,r,u,e,_⟩:=Tm.spotsL_mem.mp h
   cases e
theorem Tm.spotsL_nodup:∀(k:Nat) (ts:List Tm),(Tm.spotsL k ts).Nodup
 | _,[] =>by simp[Tm.spotsL]
 |k,t::ts=>by
  simp only[Tm.spotsL]
  rw[List.nodup_append]
  refine⟨?_,Tm.spotsL_nodup (k+1) ts,?_⟩
  ·exact List.Pairwise.map _ (fun a b h e=>h (List.cons.inj e).2) (Tm.spots_nodup t)
  ·intro a ha b hb e
   obtain⟨r,_,rfl⟩:=List.mem_map.mp ha
   obtain⟨i,r',u,e2,_⟩:=Tm.spotsL_mem.mp hb
   rw[← e] at e2
   have:=(List.cons.inj e2).1
   omega
end
abbrev Kn:=List (Key × D)
def Tm.gives:Tm→Option Str
 | .nd w m _=>if w= "let" ∨w= "each" then some m else none
 | _=>none
def Tm.name:Tm→Option Str
 | .nam s=>some s
 | _=>none
def knx (u:Tm) (p:List Nat) (kn:Kn) (k:Nat):Kn:=match u.gives with
 |some m=>if k=1 then putD kn (.inr m) (pl p) else kn
 |none=>kn
def gv:Kn→Tm→List Nat→List Nat→Option (Str × D)
 |kn,t,p,[] =>t.name.map fun s=>(s,(dGet kn (.inr s)).getD .non)
 |kn,t,p,i::r=>(t.parts[i]?).bind fun u=>gv (knx t p kn i) u (p++ [i]) r
abbrev Stk3:=List (List Nat × Tm × Kn)
def two3 (x:List Nat × Tm × Kn):List Nat × Tm:=(x.1,x.2.1)
def kids3 (q:List Nat) (u:Tm) (kn:Kn):Nat→List Tm→Stk3
 | _,[] => []
 |k,t::ts=>(q++ [k],t,knx u q kn k)::kids3 q u kn (k+1) ts
theorem kids3_two (q:List Nat) (u:Tm) (kn:Kn):∀(ts:List Tm) (k:Nat),(kids3 q u kn k ts).map two3=pkids q k ts
 | [],_=>rfl
 |t::ts,k=>by simp only[kids3,List.map_cons,pkids,kids3_two q u kn ts (k+1)];rfl
theorem kids3_app (q:List Nat) (u:Tm) (kn:Kn):∀(a b:List Tm) (k:Nat),kids3 q u kn k (a++b)=kids3 q u kn k a++kids3 q u kn (k+a.length) b
 | [],b,k=>rfl
 |t::a,b,k=>by
  simp only[List.cons_append,kids3,List.length_cons]
  rw[kids3_app q u kn a b (k+1),show k+1+a.length=k+(a.length+1) by omega]
theorem kids3_mem {q:List Nat} {u:Tm} {kn:Kn} {x:List Nat × Tm × Kn} :∀ {ts:List Tm} {k:Nat},x ∈ kids3 q u kn k ts→∃i t,ts[i]? =some t∧x=(q++ [k+i],t,knx u q kn (k+i))
 | [],_,h=>by simp[kids3] at h
 |t::ts,k,h=>by
  simp only[kids3,List.mem_cons] at h
  rcases h with rfl|h
  ·exact⟨0,t,rfl,rfl⟩
  ·obtain⟨i,t',h1,h2⟩:=kids3_mem h
   exact⟨i+1,t',by simpa using h1,by rw[h2,show k+(i+1)=k+1+i by omega]⟩
def key (q:List Nat):List Key:=q.map fun i:Nat=> .inl (i:Int)
theorem key_inj {q r:List Nat} (h:key q=key r):q=r:=
 List.map_inj_right (f:=fun i:Nat=>(Sum.inl (i:Int):Key)) (fun a b e=>by have:=Sum.inl.inj e;omega) |>.mp h
theorem plc_ints:∀q:List Nat,plc (q.map fun i:Nat=>D.int (i:Int))=true
 | [] =>rfl
 |i::q=>by have:=plc_ints q;simp only[plc] at this;simp[plc,isIt,this]
theorem tk_pl (q:List Nat):tkOf (pl q)=some (key q):=by
 unfold pl
 simp only[tkOf,plc_ints,if_true,Option.some.injEq]
 induction q with
 |nil=>rfl
 |cons i q ih=>simp only[List.map_cons,key] at ih ⊢;rw[List.filterMap_cons,ih];rfl
theorem putD_keys {κ :Type} [DecidableEq κ] {kvs:List (κ × D)} {k: κ} {v:D} (h:(kvs.map (·.1)).Nodup):((putD kvs k v).map (·.1)).Nodup:=by
 unfold putD
 split
 ·rename_i ha
  have e:(kvs.map fun kv=>if kv.1=k then(kv.1,v) else kv).map (·.1)=kvs.map (·.1):=by
   rw[List.map_map]
   apply List.map_congr_left
   intro x _
   simp only[Function.comp]
   split<;>rfl
  rw[e];exact h
 ·rename_i ha
  rw[List.map_append,List.map_singleton,List.nodup_append]
  refine⟨h,by simp,?_⟩
  intro a ha' b hb e
  simp only[List.mem_singleton] at hb
  apply ha
  rw[List.any_eq_true]
  obtain⟨x,hx,ex⟩:=List.mem_map.mp ha'
  exact⟨x,hx,by simp[ex,e,hb]⟩
theorem merge_self:∀(kvs acc:List (Key × D)),((acc++kvs).map (·.1)).Nodup→mergeD acc kvs=acc++kvs
 | [],acc,_=>by simp[mergeD]
 |p::kvs,acc,h=>by
  have e:putD acc p.1 p.2=acc++ [p] :=by
   unfold putD
   rw[if_neg]
   intro ha
   rw[List.any_eq_true] at ha
   obtain⟨x,hx,ex⟩:=ha
   rw[List.map_append,List.nodup_append] at h
   exact h.2.2 x.1 (List.mem_map_of_mem hx) p.1 (by simp) (by simpa using ex)
  show mergeD (putD acc p.1 p.2) kvs=_
  rw[e,merge_self kvs (acc++ [p]) (by simpa using h)]
  simp
theorem copy_self {kvs:List (Key × D)} (h:(kvs.map (·.1)).Nodup):mergeD [] kvs=kvs:=by simpa using merge_self kvs [] (by simpa using h)
theorem putD_len {κ :Type} [DecidableEq κ] (kvs:List (κ × D)) (k: κ) (v:D):(putD kvs k v).length≤kvs.length+1:=by
 unfold putD;split<;>simp
theorem putD_mem {κ :Type} [DecidableEq κ] {kvs:List (κ × D)} {k: κ} {v:D} {p: κ × D} (h:p ∈ putD kvs k v):p.2=v∨p ∈ kvs:=by
 unfold putD at h
 split at h
 ·obtain⟨x,hx,rfl⟩:=List.mem_map.mp h
  split
  ·exact .inl rfl
  ·exact .inr hx
 ·rcases List.mem_append.mp h with h|h
  ·exact .inr h
  ·simp only[List.mem_singleton] at h;subst h;exact .inl rfl
theorem dGet_mem {κ :Type} [DecidableEq κ] {kvs:List (κ × D)} {k: κ} {d:D} (h:dGet kvs k=some d):∃p ∈ kvs,p.2=d:=by
 unfold dGet at h
 cases hf:kvs.find? fun kv=>decide (kv.1=k) with
 |none=>rw[hf] at h;cases h
 |some p=>rw[hf] at h;cases h;exact⟨p,List.mem_of_find?_eq_some hf,rfl⟩
structure KnOk (t:Tm) (p:List Nat) (kn:Kn):Prop where
 nd:(kn.map (·.1)).Nodup
 vl:∀x ∈ kn,∃q ∈ t.spots,x.2=pl q
 ln:kn.length≤p.length
theorem KnOk.next {t u:Tm} {p:List Nat} {kn:Kn} (h:KnOk t p kn) (hp:p ∈ t.spots) (k:Nat):KnOk t (p++ [k]) (knx u p kn k):=by
 unfold knx
 split
 ·split
  ·refine⟨putD_keys h.nd,fun x hx=> ?_,by have:=putD_len kn (.inr ‹Str›) (pl p);have:=h.ln;simp;omega⟩
   rcases putD_mem hx with e|hx
   ·exact⟨p,hp,e⟩
   ·exact h.vl x hx
  ·exact⟨h.nd,h.vl,by have:=h.ln;simp;omega⟩
 ·exact⟨h.nd,h.vl,by have:=h.ln;simp;omega⟩
structure GI (t:Tm) (val:Str→D→D) (F:List (List Key × D)) (W:Stk3):Prop where
 a:∀x ∈ W,(∀ r,gv [] t [] (x.1++r)=gv x.2.2 x.2.1 x.1 r)∧KnOk t x.1 x.2.2∧t.at x.1=some x.2.1
 b0:∀q ∈ due (W.map two3),dGet F (key q)=none
 b1:∀q,q ∉ due (W.map two3)→dGet F (key q)=(gv [] t [] q).map fun p=>val p.1 p.2
 c:(due (W.map two3)).Nodup
 n:F.length+load (W.map two3)≤t.size
 k:(F.map (·.1)).Nodup∧∀e ∈ F,∃q,e.1=key q
def note (val:Str→D→D) (F:List (List Key × D)) (p:List Nat) (u:Tm) (kn:Kn):List (List Key × D):=match u.name with
 |some s=>putD F (key p) (val s ((dGet kn (.inr s)).getD .non))
 |none=>F
theorem GI.start (t:Tm) (val:Str→D→D):GI t val [] [([],t,[])] :=by
 have e:due (([([],t,[])] :Stk3).map two3)=t.spots:=by simp[due,two3]
 refine⟨?_,?_,?_,?_,?_,by simp⟩
 ·intro x hx
  simp only[List.mem_singleton] at hx
  subst hx
  exact⟨fun r=>rfl,⟨by simp,by simp,by simp⟩,rfl⟩
 ·intro q _;rfl
 ·intro q hq
  rw[e] at hq
  have:∀(q:List Nat) (t:Tm) (kn:Kn) (p:List Nat),q ∉ t.spots→gv kn t p q=none:=by
   intro q
   induction q with
   |nil=>intro t kn p h;exact absurd (by rw[Tm.spots_eq];simp) h
   |cons i q ih=>
    intro t kn p h
    simp only[gv]
    cases hu:t.parts[i]? with
    |none=>rfl
    |some u=>
     refine ih u _ _ fun hq=>h ?_
     obtain⟨v,hv⟩:=Tm.spots_at.mp hq
     exact Tm.spots_at.mpr ⟨v,by simp only[Tm.at,hu];exact hv⟩
  rw[this q t [] [] hq];rfl
 ·rw[e];exact Tm.spots_nodup t
 ·simp[load,two3]
theorem GI.step {t u:Tm} {val:Str→D→D} {F:List (List Key × D)} {W:Stk3} {p:List Nat} {kn:Kn} (I:GI t val F (W++ [(p,u,kn)])):GI t val (note val F p u kn) (W++kids3 p u kn 0 u.parts):=by
 obtain⟨g1,k1,a1⟩:=I.a (p,u,kn) (by simp)
 have hp:p ∈ t.spots:=Tm.spots_at.mpr ⟨u,a1⟩
 have e1:due ((W++ [(p,u,kn)]).map two3)=due (W.map two3)++p::(Tm.spotsL 0 u.parts).map (p++ ·):=by
  rw[List.map_append,due_app]
  congr 1
  simp[due,two3,Tm.spots_eq u]
 have e2:due ((W++kids3 p u kn 0 u.parts).map two3)=due (W.map two3)++(Tm.spotsL 0 u.parts).map (p++ ·):=by
  rw[List.map_append,due_app,kids3_two,due_pkids]
 have pm:(due ((W++ [(p,u,kn)]).map two3)).Perm (p::due ((W++kids3 p u kn 0 u.parts).map two3)):=by
  rw[e1,e2];exact List.perm_middle
 have nd:=(pm.nodup_iff.mp I.c)
 rw[List.nodup_cons] at nd
 have other:∀q,q≠p→dGet (note val F p u kn) (key q)=dGet F (key q):=fun q hq=>by
  unfold note
  split
  ·rw[get_put,if_neg fun e=>hq (key_inj e).symm]
  ·rfl
 have kk:((note val F p u kn).map (·.1)).Nodup∧∀e ∈ note val F p u kn,∃q,e.1=key q:=by
  unfold note
  split
  ·refine⟨putD_keys I.k.1,fun e he=> ?_⟩
   have hm:e.1=key p∨∃e' ∈ F,e'.1=e.1:=by
    unfold putD at he
    split at he
    ·obtain⟨e',h1,rfl⟩:=List.mem_map.mp he
     split
     ·exact .inr ⟨e',h1,rfl⟩
     ·exact .inr ⟨e',h1,rfl⟩
    ·rcases List.mem_append.mp he with he|he
     ·exact .inr ⟨e,he,rfl⟩
     ·rw[List.mem_singleton.mp he];exact .inl rfl
   rcases hm with h|⟨e',h1,h2⟩
   ·exact⟨p,h⟩
   ·rw[← h2];exact I.k.2 e' h1
  ·exact I.k
 refine⟨?_,?_,?_,nd.2,?_,kk⟩
 ·intro x hx
  rcases List.mem_append.mp hx with hx|hx
  ·exact I.a x (List.mem_append_left _ hx)
  ·obtain⟨i,v,h1,rfl⟩:=kids3_mem hx
   rw[Nat.zero_add]
   refine⟨fun r=> ?_,k1.next hp i,?_⟩
   ·have:=g1 (i::r)
    rw[List.append_assoc,List.singleton_append,this]
    simp only[gv,h1,Option.bind_some]
   ·rw[Tm.at_app,a1]
    simp only[Option.bind_some,Tm.at,h1]
 ·intro q hq
  have hne:q≠p:=fun e=>nd.1 (e▸hq)
  rw[other q hne]
  exact I.b0 q (pm.mem_iff.mpr (List.mem_cons_of_mem _ hq))
 ·intro q hq
  by_cases hqp:q=p
  ·subst hqp
   have h0:=I.b0 q (pm.mem_iff.mpr (List.mem_cons_self ..))
   have h1:=g1 []
   simp only[List.append_nil] at h1
   rw[h1]
   unfold note
   simp only[gv]
   cases hn:u.name with
   |none=>exact h0
   |some s=>simp only[Option.map_some];rw[get_put,if_pos rfl]
  ·rw[other q hqp]
   refine I.b1 q fun h=> ?_
   rcases List.mem_cons.mp (pm.mem_iff.mp h) with h|h
   ·exact hqp h
   ·exact hq h
 ·have:=I.n
  rw[List.map_append,load_app,kids3_two,load_pkids]
  rw[List.map_append,load_app] at this
  have e:load (([(p,u,kn)] :Stk3).map two3)=u.size:=by simp[load,two3]
  have:=Tm.size_eq u
  have hl:(note val F p u kn).length≤F.length+1:=by
   unfold note
   split
   ·exact putD_len _ _ _
   ·omega
  omega
theorem GI.fin {t:Tm} {val:Str→D→D} {F:List (List Key × D)} (I:GI t val F []) (q:List Nat):dGet F (key q)=(gv [] t [] q).map fun p=>val p.1 p.2:=I.b1 q (by simp[due])
end L3
namespace L3
open PySem L2
def knD (kn:Kn):D:= .dic (kn.map (·.1)) (kn.map (·.2))
def stk3 (x:List Nat × Tm × Kn):D:= .tup [pl x.1,x.2.1.d,knD x.2.2]
theorem zip_self (kn:Kn):(kn.map (·.1)).zip (kn.map (·.2))=kn:=by
 induction kn with
 |nil=>rfl
 |cons p kn ih=>simp only[List.map_cons,List.zip_cons_cons,ih]
structure FrW (n:Nat) (S S':Store):Prop where
 le:S.length≤S'.length
 fr:∀m o,m≠n→S[m]? =some o→S'[m]? =some o
theorem FrW.refl (n:Nat) (S:Store):FrW n S S:=⟨Nat.le_refl _,fun _ _ _ h=>h⟩
theorem FrW.trans {n:Nat} {S S' S'':Store} (a:FrW n S S') (b:FrW n S' S''):FrW n S S'':=⟨Nat.le_trans a.le b.le,fun m o h e=>b.fr m o h (a.fr m o h e)⟩
theorem FrW.set {n:Nat} {S S':Store} (a:FrW n S S') (o:O):FrW n S (S'.set n o):=⟨by simpa using a.le,fun m o' h e=>by rw[List.getElem?_set_ne (Ne.symm h)];exact a.fr m o' h e⟩
theorem FrW.of {n:Nat} {S S':Store} (g:Grow S S'):FrW n S S':=⟨g.le,fun m o _ e=>g.fr m o e⟩
theorem FrW.grow {n:Nat} {S0 S S':Store} (a:FrW n S S') (g:Grow S0 S) (hn:S0.length≤n):Grow S0 S':=⟨Nat.le_trans g.le a.le,fun m o e=>by
 have:=(List.getElem?_eq_some_iff.mp e).1
 exact a.fr m o (by omega) (g.fr m o e)⟩
def EqOut (e e':EnvD):Prop:=e'.length=e.length∧∀i,i≠9→i≠10→i≠11→e'[i]? =e[i]?
def CpOk (cp:SD) (n:Nat):Prop:=∀(e:EnvD) (S:Store) (kn:Kn),e.length=n→e[5]? =some (some (knD kn))→(kn.map (·.1)).Nodup→kn.length≤1000→cp e S= .nx (e.set 11 (some (.obj S.length))) (S++ [.dK kn])
def TsOk (ts:ED):Prop:=∀(e:EnvD) (S:Store) (u:Tm),Good u→e[6]? =some (some u.w)→ts e S= .ok (.bl u.gives.isSome) S
def mGB (cp:SD) (ts:ED):SD:=sSeq cp
    (sSeq (sIf (tAnd (tOfE ts) (tOfE (e2 eqD (eVar 9) (eK (.int 1))))) (sAsg (eVar 3) (gSub (eVar 11) (eVar 7))) (sSkip))
    (sExpr (eBM "list" appendD (eVar 2) (aCons (eN mkTup (aCons (e2 addD (eVar 3) (eN mkTup (aCons (eVar 9) (aNil)))) (aCons (eVar 10) (aCons (e1 frzD (eVar 11)) (aNil))))) (aNil)))))
theorem gives_m {u:Tm} {m:Str} (h:u.gives=some m):u.m= .str m:=by
 cases u with
 |nd w m' ps=>
  simp only[Tm.gives] at h
  split at h
  ·cases h;rfl
  ·cases h
 | _=>cases h
theorem gb_ok {cp:SD} {ts:ED} {n wn:Nat} (hc:CpOk cp n) (ht:TsOk ts) (hn:12≤n) {e:EnvD} {S:Store} {p:List Nat} {u v:Tm} {kn:Kn} {k:Nat} {L:List D} (gu:Good u) (hl:e.length=n) (e2':e[2]? =some (some (.obj wn))) (e3:e[3]? =some (some (pl p)))
 (e5:e[5]? =some (some (knD kn))) (e6:e[6]? =some (some u.w)) (e7:e[7]? =some (some u.m)) (e9:e[9]? =some (some (.int (k:Int)))) (e10:e[10]? =some (some v.d)) (hS:S[wn]? =some (.lst L)) (hL:L.length<1000) (hp:p.length≤500) (nd:(kn.map (·.1)).Nodup) (hk:kn.length≤500):
 (mGB cp ts e S).sat (fun e' S'=>e'=e.set 11 (some (.obj S.length))∧S'[wn]? =some (.lst (L++ [stk3 (p++ [k],v,knx u p kn k)]))∧FrW wn S S') (fun _ _=>False) (fun _ _=>False) fun _ _=>False:=by
 have hw:=(List.getElem?_eq_some_iff.mp hS).1
 unfold mGB
 rw[ssat_seq,hc e S kn hl e5 nd (by omega),ssat_nx]
 have f:∀i,i≠11→(e.set 11 (some (.obj S.length)))[i]? =e[i]? :=fun i hi=>by rw[List.getElem?_set_ne (Ne.symm hi)]
 have f11:(e.set 11 (some (D.obj S.length)))[11]? =some (some (.obj S.length)):=by rw[List.getElem?_set_self (by omega)]
 have g1:Grow S (S++ [.dK kn]):=Grow.app ..
 refine seq_rule (fun e' S'=>e'=e.set 11 (some (.obj S.length))∧S'=S++ [.dK (knx u p kn k)]) ?_ ?_
 ·have et:(tAnd (tOfE ts) (tOfE (e2 eqD (eVar 9) (eK (.int 1))))) (e.set 11 (some (.obj S.length))) (S++ [.dK kn])= .ok (u.gives.isSome&&decide (k=1)) (S++ [.dK kn]):=by
   apply of_sat
   rw[sat_tAnd,sat_tOfE,ht _ _ u gu (by rw[f 6 (by decide)];exact e6),sat_ok,blD_bl,sat_ok]
   cases u.gives.isSome with
   |false=>simp
   |true=>
    simp only[if_true,sat_tOfE,sat_e2,sat_eVar,sat_eK,f 9 (by decide),e9,eq_int,sat_ok,blD_bl,Bool.true_and]
    refine⟨?_,trivial⟩
    rw[Bool.eq_iff_iff];simp;omega
  rw[ssat_if,et,sat_ok]
  cases hg:u.gives with
  |none=>
   simp only[Option.isSome_none,Bool.false_and,Bool.false_eq_true,if_false,ssat_skip]
   refine⟨trivial,?_⟩
   unfold knx;rw[hg]
  |some m=>
   simp only[Option.isSome_some,Bool.true_and]
   have em:=gives_m hg
   by_cases h1:k=1
   ·rw[if_pos (decide_eq_true h1),ssat_asg]
    simp only[sat_eVar,f 3 (by decide),e3]
    rw[ssat_gSub]
    simp only[sat_eVar,f 7 (by decide),e7,f11,em]
    have hd:(S++ [O.dK kn])[S.length]? =some (.dK kn):=by simp
    refine⟨_,setD_dK hd rfl (Nat.lt_of_le_of_lt hk (by decide)),trivial,?_⟩
    rw[set_last]
    unfold knx;rw[hg]
    simp only[if_pos h1]
   ·rw[if_neg (by simp[h1]),ssat_skip]
    refine⟨rfl,?_⟩
    unfold knx;rw[hg]
    simp only[if_neg h1]
 rintro e' S' ⟨rfl,rfl⟩
 have hS1:(S++ [O.dK (knx u p kn k)])[wn]? =some (.lst L):=by rw[List.getElem?_append_left hw];exact hS
 have hd1:(S++ [O.dK (knx u p kn k)])[S.length]? =some (.dK (knx u p kn k)):=by simp
 simp only[ssat_sExpr,sat_eBM,sat_eN,sat_aCons,sat_aNil,sat_e2,sat_e1,sat_eVar,f 2 (by decide),f 3 (by decide),f 9 (by decide),f 10 (by decide),e2',e3,e9,e10,f11]
 refine⟨by simp[mtD,hS1],?_⟩
 rw[mkTup1,sat_ok]
 have ea:addD (pl p) (.tup [.int (k:Int)]) (S++ [O.dK (knx u p kn k)])= .ok (pl (p++ [k])) (S++ [O.dK (knx u p kn k)]):=by
  unfold pl;rw[add_tup (small (by simp;omega))];simp
 rw[ea,sat_ok]
 have ef:frzD (.obj S.length) (S++ [O.dK (knx u p kn k)])= .ok (knD (knx u p kn k)) (S++ [.dead]):=by
  unfold frzD;simp only[hd1,set_last];rfl
 rw[ef,sat_ok,mkTup3,sat_ok]
 have hS2:(S++ [O.dead])[wn]? =some (.lst L):=by rw[List.getElem?_append_left hw];exact hS
 rw[append_obj hS2]
 refine⟨Nat.lt_of_lt_of_le hL (small (Nat.le_refl _)),trivial,?_,(FrW.of (Grow.app ..)).set _⟩
 rw[List.getElem?_set_self (by simp;omega)];rfl
theorem parts_loop {cp:SD} {ts:ED} {n wn:Nat} (hc:CpOk cp n) (ht:TsOk ts) (hn:12≤n) {e:EnvD} {S:Store} {p:List Nat} {u:Tm} {kn:Kn} {L:List D} {N B C:EnvD→Store→Prop} {T:D→Store→Prop} (gu:Good u) (hl:e.length=n) (e2':e[2]? =some (some (.obj wn))) (e3:e[3]? =some (some (pl p)))
 (e5:e[5]? =some (some (knD kn))) (e6:e[6]? =some (some u.w)) (e7:e[7]? =some (some u.m)) (hS:S[wn]? =some (.lst L)) (hL:L.length+u.parts.length≤1000) (hp:p.length≤500) (nd:(kn.map (·.1)).Nodup) (hk:kn.length≤500)
 (hN:∀e' S',EqOut e e'→S'[wn]? =some (.lst (L++(kids3 p u kn 0 u.parts).map stk3))→FrW wn S S'→N e' S'):
 (forL (gTup [9,10]) (mGB cp ts) (enumL 0 (Tm.ds u.parts)) e S).sat N T B C:=by
 refine for_rule (fun j e' S'=>EqOut e e'∧S'[wn]? =some (.lst (L++(kids3 p u kn 0 (u.parts.take j)).map stk3))∧FrW wn S S') ⟨⟨rfl,fun _ _ _ _=>rfl⟩,by simpa[kids3] using hS,FrW.refl _ _⟩ ?_ ?_
 ·rintro j hj e' S' ⟨⟨q1,q2⟩,hS',fr⟩
  obtain⟨x,h1,h2⟩:=enumL_at hj
  rw[h2,Nat.zero_add]
  rw[Tm.ds_get] at h1
  cases h3:u.parts[j]? with
  |none=>rw[h3] at h1;cases h1
  |some v=>
   rw[h3] at h1
   simp only[Option.map_some,Option.some.injEq] at h1
   subst h1
   have hj':=(List.getElem?_eq_some_iff.mp h3).1
   simp only[gTup_tup,gNames_cons,gNames_nil,ssat_nx]
   have g:∀i,i≠9→i≠10→i≠11→((e'.set 9 (some (.int (j:Int)))).set 10 (some v.d))[i]? =e[i]? :=fun i a b c=>by
    rw[List.getElem?_set_ne (Ne.symm b),List.getElem?_set_ne (Ne.symm a)];exact q2 i a b c
   have kl:(kids3 p u kn 0 (u.parts.take j)).length=j:=by
    have:∀(ts:List Tm) (k:Nat),(kids3 p u kn k ts).length=ts.length:=by
     intro ts
     induction ts with
     |nil=>intro k;rfl
     |cons t ts ih=>intro k;simp only[kids3,List.length_cons,ih]
    rw[this,List.length_take];omega
   refine ssat_mono (gb_ok (p:=p) (u:=u) (v:=v) (kn:=kn) (k:=j) hc ht hn gu (by simp[q1,hl]) (by rw[g 2 (by decide) (by decide) (by decide)];exact e2') (by rw[g 3 (by decide) (by decide) (by decide)];exact e3) (by rw[g 5 (by decide) (by decide) (by decide)];exact e5) (by rw[g 6 (by decide) (by decide) (by decide)];exact e6) (by rw[g 7 (by decide) (by decide) (by decide)];exact e7)
    (by rw[List.getElem?_set_ne (by decide),List.getElem?_set_self (by omega)]) (by rw[List.getElem?_set_self (by simp;omega)]) hS' (by simp[kl];omega) hp nd hk) (fun e1 S1 ⟨h4,h5,h6⟩=> ?_) (fun _ _ h=>h.elim) (fun _ _ h=>h.elim) fun _ _ h=>h.elim
   subst h4
   refine⟨⟨by simp[q1],fun i a b c=> ?_⟩,?_,fr.trans h6⟩
   ·rw[List.getElem?_set_ne (Ne.symm c)];exact g i a b c
   ·rw[h5]
    have e1:u.parts.take (j+1)=u.parts.take j++ [v] :=by
     rw[List.take_succ_eq_append_getElem hj']
     have:u.parts[j] =v:=by rw[List.getElem?_eq_getElem hj'] at h3;simpa using h3
     rw[this]
    rw[e1,kids3_app]
    simp only[List.length_take,Nat.min_eq_left (Nat.le_of_lt hj'),Nat.zero_add,kids3,List.map_append,List.map_cons,List.map_nil,List.append_assoc]
 ·rintro e' S' ⟨q,hS',fr⟩
  rw[enumL_len,Tm.ds_len,List.take_length] at hS'
  exact hN e' S' q hS' fr
end L3
namespace L3
open PySem L2
theorem Good.parts {t:Tm} (h:Good t):∀u ∈ t.parts,Good u:=by
 cases h with
 |num _ _=>intro u hu;simp[Tm.parts] at hu
 |nam _=>intro u hu;simp[Tm.parts] at hu
 |nd _ _ _ _ _ hp=>exact hp
theorem Good.at:∀ {q:List Nat} {t u:Tm},Good t→t.at q=some u→Good u
 | [],t,u,h,e=>by simp only[Tm.at,Option.some.injEq] at e;subst e;exact h
 |i::q,t,u,h,e=>by
  obtain⟨v,h1,h2⟩:=Tm.at_cons e
  exact Good.at (h.parts v (List.mem_of_getElem? h1)) h2
structure E0 (n:Nat) (x0 x1:Option D) (wn:Nat) (e:EnvD):Prop where
 l:e.length=n
 h0:e[0]? =some x0
 h1:e[1]? =some x1
 h2:e[2]? =some (some (.obj wn))
def mGW (nt cp:SD) (ts:ED):SD:=sSeq (sAsg (eBM "list" popD (eVar 2) aNil) (gSeq [3,4,5]))
    (sSeq (sAsg (eVar 4) (gTup [6,7,8]))
    (sSeq nt
    (sFor (iArgs enumA (aCons (eVar 8) (aNil))) (gTup [9,10]) (mGB cp ts))))
theorem sizes_dep (t:Tm):t.dep≤t.size:=by
 induction t using Tm.rec (motive_2:=fun ts=>Tm.deps ts≤Tm.sizes ts) with
 |num i=>simp[Tm.dep,Tm.size]
 |nam i=>simp[Tm.dep,Tm.size]
 |nd w m ps ih=>simp only[Tm.dep,Tm.size];omega
 |nil=>simp[Tm.deps,Tm.sizes]
 |cons t ts h1 h2=>simp only[Tm.deps,Tm.sizes];omega
theorem gw_ok {φ :Type} {t:Tm} {n wn fuel:Nat} {x0 x1:Option D} {J: φ →Store→Prop} {GG: φ →Stk3→Prop} {cnd:TD} {nt cp:SD} {ts:ED} (gt:Good t) (hs:t.size≤400) (hf:1000≤fuel) (hn:12≤n)
 (hc:CpOk cp n) (ht:TsOk ts) (hJ:∀F S S',FrW wn S S'→J F S→J F S')
 (hG:∀F W,GG F W→(∀ x ∈ W,KnOk t x.1 x.2.2∧t.at x.1=some x.2.1)∧load (W.map two3)≤t.size)
 (hcnd:∀e S l,E0 n x0 x1 wn e→S[wn]? =some (.lst l)→cnd e S= .ok (!l.isEmpty) S)
 (hnt:∀e S F W p u kn L,E0 n x0 x1 wn e→e[3]? =some (some (pl p))→e[5]? =some (some (knD kn))→e[6]? =some (some u.w)→e[7]? =some (some u.m)→Good u→J F S→GG F (W++ [(p,u,kn)])→S[wn]? =some (.lst L)→F=F→
   (nt e S).sat (fun e' S'=>e'=e∧S'[wn]? =some (.lst L)∧∃F',J F' S'∧GG F' (W++kids3 p u kn 0 u.parts)) (fun _ _=>False) (fun _ _=>False) fun _ _=>False)
 {e:EnvD} {S:Store} (he:E0 n x0 x1 wn e) {F: φ} (hJ0:J F S) (hG0:GG F [([],t,[])]) (hS:S[wn]? =some (.lst [stk3 ([],t,[])])) {N B C:EnvD→Store→Prop} {T:D→Store→Prop}
 (hN:∀e' S' F',E0 n x0 x1 wn e'→J F' S'→GG F' [] →N e' S'):
 (sWhile cnd (mGW nt cp ts) fuel e S).sat N T B C:=by
 refine while_rule (fun m e S'=>E0 n x0 x1 wn e∧∃F W,m=load (W.map two3)∧J F S'∧GG F W∧S'[wn]? =some (.lst (W.map stk3))) (m:=t.size) (by omega) ⟨he,F,[([],t,[])],by simp[load,two3],hJ0,hG0,hS⟩ ?_
 rintro m e S' ⟨he,F,W,rfl,hJ1,hG1,hw⟩
 rw[hcnd e S' _ he hw,sat_ok]
 rcases List.eq_nil_or_concat W with rfl|⟨W',⟨p,u,kn⟩,rfl⟩
 ·simp only[List.map_nil,List.isEmpty_nil,Bool.not_true,Bool.false_eq_true,if_false]
  exact hN e S' F he hJ1 hG1
 ·rw[List.concat_eq_append] at*
  obtain⟨hx,hld⟩:=hG F _ hG1
  obtain⟨kok,hat⟩:=hx (p,u,kn) (by simp)
  have gu:=gt.at hat
  have hdep:p.length+u.dep≤t.dep:=Tm.at_dep hat
  have hu1:load (([(p,u,kn)] :Stk3).map two3)=u.size:=by simp[load,two3]
  have hpl:=Tm.parts_len u
  have:=sizes_dep t
  have:=Tm.dep_pos u
  rw[List.map_append,load_app,hu1] at hld
  have hsz:u.size≤t.size:=by omega
  have hkl:kn.length≤p.length:=kok.ln
  have lw:=len_load (W'.map two3)
  rw[List.length_map] at lw
  rw[if_pos (by simp)]
  unfold mGW
  have w0:S'[wn]? =some (.lst (W'.map stk3++ [stk3 (p,u,kn)])):=by rw[hw];simp
  have sl:=(List.getElem?_eq_some_iff.mp hw).1
  have l:=he.l
  refine step_asg (S1:=S'.set wn (.lst (W'.map stk3))) (d:=stk3 (p,u,kn)) (env':=((e.set 3 (some (pl p))).set 4 (some u.d)).set 5 (some (knD kn))) ?_ rfl ?_
  ·obtain⟨a,S1,e1,h1,h2⟩:=sat_ex.mp (show(eBM "list" popD (eVar 2) aNil e S').sat fun d S1=>d=stk3 (p,u,kn)∧S1=S'.set wn (.lst (W'.map stk3)) by
    simp only[sat_eBM,sat_aNil,sat_eVar,he.h2]
    refine⟨by simp[mtD,w0],?_⟩
    rw[pop_obj w0,sat_ok]
    exact⟨rfl,rfl⟩)
   rw[e1,h1,h2]
  have fr1:FrW wn S' (S'.set wn (.lst (W'.map stk3))):=(FrW.refl _ _).set _
  have hJ2:=hJ F _ _ fr1 hJ1
  have w1:(S'.set wn (.lst (W'.map stk3)))[wn]? =some (.lst (W'.map stk3)):=List.getElem?_set_self sl
  generalize S'.set wn (.lst (W'.map stk3))=S1 at hJ2 w1
  refine step_asg (S1:=S1) (S2:=S1) (d:=u.d) (env':=((((((e.set 3 (some (pl p))).set 4 (some u.d)).set 5 (some (knD kn))).set 6 (some u.w)).set 7 (some u.m)).set 8 (some (.tup (Tm.ds u.parts))))) ?_ ?_ ?_
  ·have:(((e.set 3 (some (pl p))).set 4 (some u.d)).set 5 (some (knD kn)))[4]? =some (some u.d):=by rw[List.getElem?_set_ne (by decide),List.getElem?_set_self (by simp;omega)]
   apply of_sat
   simp only[sat_eVar,this]
   first|exact⟨rfl,trivial⟩|exact⟨trivial,rfl⟩|exact⟨trivial,trivial⟩
  ·rw[Tm.d_eq u];rfl
  have f:∀i,i<3→(((((((e.set 3 (some (pl p))).set 4 (some u.d)).set 5 (some (knD kn))).set 6 (some u.w)).set 7 (some u.m)).set 8 (some (.tup (Tm.ds u.parts))))[i]? =e[i]?):=fun i hi=>by
   rw[List.getElem?_set_ne (by omega),List.getElem?_set_ne (by omega),List.getElem?_set_ne (by omega),List.getElem?_set_ne (by omega),List.getElem?_set_ne (by omega),List.getElem?_set_ne (by omega)]
  have f3:((((((e.set 3 (some (pl p))).set 4 (some u.d)).set 5 (some (knD kn))).set 6 (some u.w)).set 7 (some u.m)).set 8 (some (.tup (Tm.ds u.parts))))[3]? =some (some (pl p)):=by
   rw[List.getElem?_set_ne (by decide),List.getElem?_set_ne (by decide),List.getElem?_set_ne (by decide),List.getElem?_set_ne (by decide),List.getElem?_set_ne (by decide),List.getElem?_set_self (by omega)]
  have f5:((((((e.set 3 (some (pl p))).set 4 (some u.d)).set 5 (some (knD kn))).set 6 (some u.w)).set 7 (some u.m)).set 8 (some (.tup (Tm.ds u.parts))))[5]? =some (some (knD kn)):=by
   rw[List.getElem?_set_ne (by decide),List.getElem?_set_ne (by decide),List.getElem?_set_ne (by decide),List.getElem?_set_self (by simp;omega)]
  have f6:((((((e.set 3 (some (pl p))).set 4 (some u.d)).set 5 (some (knD kn))).set 6 (some u.w)).set 7 (some u.m)).set 8 (some (.tup (Tm.ds u.parts))))[6]? =some (some u.w):=by
   rw[List.getElem?_set_ne (by decide),List.getElem?_set_ne (by decide),List.getElem?_set_self (by simp;omega)]
  have f7:((((((e.set 3 (some (pl p))).set 4 (some u.d)).set 5 (some (knD kn))).set 6 (some u.w)).set 7 (some u.m)).set 8 (some (.tup (Tm.ds u.parts))))[7]? =some (some u.m):=by
   rw[List.getElem?_set_ne (by decide),List.getElem?_set_self (by simp;omega)]
  have f8:((((((e.set 3 (some (pl p))).set 4 (some u.d)).set 5 (some (knD kn))).set 6 (some u.w)).set 7 (some u.m)).set 8 (some (.tup (Tm.ds u.parts))))[8]? =some (some (.tup (Tm.ds u.parts))):=by
   rw[List.getElem?_set_self (by simp;omega)]
  have fl:((((((e.set 3 (some (pl p))).set 4 (some u.d)).set 5 (some (knD kn))).set 6 (some u.w)).set 7 (some u.m)).set 8 (some (.tup (Tm.ds u.parts)))).length=n:=by simp[l]
  generalize (((((e.set 3 (some (pl p))).set 4 (some u.d)).set 5 (some (knD kn))).set 6 (some u.w)).set 7 (some u.m)).set 8 (some (.tup (Tm.ds u.parts)))=e1 at f f3 f5 f6 f7 f8 fl
  have he1:E0 n x0 x1 wn e1:=⟨fl,by rw[f 0 (by decide)];exact he.h0,by rw[f 1 (by decide)];exact he.h1,by rw[f 2 (by decide)];exact he.h2⟩
  refine seq_rule _ (ssat_mono (hnt e1 S1 F W' p u kn _ he1 f3 f5 f6 f7 gu hJ2 hG1 w1 rfl) (fun _ _ h=>h) (fun _ _ h=>h.elim) (fun _ _ h=>h.elim) fun _ _ h=>h.elim) ?_
  rintro e2 S2 ⟨rfl,w2,F',hJ3,hG3⟩
  simp only[ssat_for,sat_iArgs,sat_aCons,sat_aNil,sat_eVar,f8]
  rw[enumA_tup,sat_ok]
  refine parts_loop hc ht hn gu fl he1.h2 f3 f5 f6 f7 w2 (by simp;omega) (by omega) kok.nd (by omega) fun e' S'' q hS'' fr=>⟨load ((W'++kids3 p u kn 0 u.parts).map two3),?_,?_,F',W'++kids3 p u kn 0 u.parts,rfl,hJ F' _ _ fr hJ3,hG3,?_⟩
  ·rw[List.map_append,load_app,kids3_two,load_pkids,List.map_append,load_app,hu1]
   have:=Tm.size_eq u
   omega
  ·exact⟨by rw[q.1,fl],by rw[q.2 0 (by decide) (by decide) (by decide)];exact he1.h0,by rw[q.2 1 (by decide) (by decide) (by decide)];exact he1.h1,by rw[q.2 2 (by decide) (by decide) (by decide)];exact he1.h2⟩
  ·rw[hS''];simp
end L3
namespace L3
open PySem L2
variable {S:Store}
theorem in_gvs {s:Str} (h:asc s=true):inD (.str s) (.tup [.str "let", .str "each"]) S= .ok (.bl (decide (s= "let" ∨s= "each"))) S:=by
 have ws:toPyL [D.str "let",D.str "each"] =some [.str "let", .str "each"] :=by kernel_rfl
 have e:memD (.str s) (.tup [.str "let", .str "each"]) S=some (decide (s= "let" ∨s= "each")):=by
  show memData (toPy (.str s)) (toPy (.tup [.str "let", .str "each"]))=_
  simp only[memData,toPy,asc_ok h,if_true,ws,Option.map_some]
  rw[if_pos (show(PyData.str s).depth≤64 by simp[PyData.depth])]
  congr 1
  rw[Bool.eq_iff_iff]
  simp only[List.any_cons,List.any_nil,Bool.or_false,Bool.or_eq_true,decide_eq_true_eq,PyData.eqv]
  constructor
  ·rintro(e|e)
   ·exact .inl (by simpa using(beq_iff_eq.mp e).symm)
   ·exact .inr (by simpa using(beq_iff_eq.mp e).symm)
  ·rintro(e|e)<;>subst e
   ·exact .inl (by simp)
   ·exact .inr (by simp)
 unfold inD
 rw[e]
theorem w_str {u:Tm} (h:Good u):∃w:Str,u.w= .str w∧asc w=true∧(w== "name")=u.name.isSome∧decide (w= "let" ∨w= "each")=u.gives.isSome:=by
 cases h with
 |num _ _=>exact⟨"num",rfl,by decide +kernel,by show(("num" :Str)== "name")=false;decide +kernel,by show decide (("num" :Str)= "let" ∨("num" :Str)= "each")=false;decide +kernel⟩
 |nam _=>exact⟨"name",rfl,by decide +kernel,by show(("name" :Str)== "name")=true;decide +kernel,by show decide (("name" :Str)= "let" ∨("name" :Str)= "each")=false;decide +kernel⟩
 | @nd w m ps f mo g hw _ _ _ _ _=>
   refine⟨w,rfl,words_asc (shape_word hw).1,?_,?_⟩
   ·show(w== "name")=false
    rw[beq_eq_false_iff_ne]
    rintro rfl
    have:shape "name" =none:=by decide +kernel
    rw[this] at hw;cases hw
   ·show _=(if w= "let" ∨w= "each" then some m else none).isSome
    split<;>simp_all
theorem ts_two:TsOk (e2 inD (eVar 6) (eK (.tup [.str "let", .str "each"]))):=fun e S u gu h=>by
 obtain⟨w,hw,ha,_,hg⟩:=w_str gu
 apply of_sat
 simp only[sat_e2,sat_eVar,sat_eK,h,hw]
 rw[in_gvs ha,sat_ok,hg]
 exact⟨rfl,rfl⟩
theorem ts_two':TsOk (e2 inD (eVar 6) (eN mkTup (aCons (eK (.str "let")) (aCons (eK (.str "each")) (aNil))))):=fun e S u gu h=>by
 obtain⟨w,hw,ha,_,hg⟩:=w_str gu
 have m2:mkTup [.str "let", .str "each"] S= .ok (.tup [.str "let", .str "each"]) S:=of_sat (by rw[sat_mkTup];exact⟨small (by simp),rfl,rfl⟩)
 apply of_sat
 simp only[sat_e2,sat_eVar,sat_eK,sat_eN,sat_aCons,sat_aNil,h,hw,m2,sat_ok]
 rw[in_gvs ha,sat_ok,hg]
 exact⟨rfl,rfl⟩
theorem cp_comp {n:Nat} (hn:14≤n):CpOk (sCopy 11 5 13 12) n:=fun e S kn hl h5 nd hk=>by
 unfold sCopy
 rw[h5]
 simp only[knD]
 rw[if_pos ⟨by simp,by have:=small hk;simpa using this,by omega,by omega⟩,zip_self,copy_self nd]
theorem get_kn {kn:Kn} {s:Str} :dgetD (knD kn) [.str s] S= .ok ((dGet kn (.inr s)).getD .non) S:=by
 unfold dgetD
 have:dkAt (knD kn) S=some kn:=by
  unfold knD
  simp only[dkAt]
  rw[if_pos (by simp),zip_self]
 rw[this]
 rfl
theorem nam_of {u:Tm} {s:Str} (h:u.name=some s):u= .nam s:=by
 cases u with
 |nam x=>simp only[Tm.name,Option.some.injEq] at h;rw[h]
 | _=>cases h
theorem setD_dT {n:Nat} {F:List (List Key × D)} {p:List Nat} {v:D} (h:S[n]? =some (.dT F)) (hz:F.length<1000):setD (.obj n) (pl p) v S=some (S.set n (.dT (putD F (key p) v))):=by
 simp only[setD,h,tk_pl]
 rw[if_pos (Nat.lt_of_lt_of_le hz (small (Nat.le_refl _)))]
def mNote:SD:=sIf (tOfE (e2 eqD (eVar 6) (eK (.str "name")))) (sSeq (sAsg (eVar 7) (gSub (e1 (fldD ["Scopes"] "names") (eVar 0)) (eVar 3)))
    (sAsg (eBM "dict" dgetD (eVar 5) (aCons (eVar 7) (aNil))) (gSub (e1 (fldD ["Scopes"] "givers") (eVar 0)) (eVar 3)))) (sSkip)
def mInit (fuel:Nat):SD:=
    sSeq (sFldD ["Scopes"] "names" (eVar 0) (eDctT0))
    (sSeq (sFldD ["Scopes"] "givers" (eVar 0) (eDctT0))
    (sSeq (sAsg (eN mkObj (aCons (eN mkTup (aCons (eN mkTup (aNil)) (aCons (eVar 1) (aCons (eDic0) (aNil))))) (aNil))) (gName 2))
    (sWhile (tOfE (e2 gtD (eN lenD (aCons (eVar 2) (aNil))) (eK (.int 0)))) (mGW mNote (sCopy 11 5 13 12) (e2 inD (eVar 6) (eK (.tup [.str "let", .str "each"])))) fuel)))
def scF (n1 n2:Nat):List (Str × D):= [("names", .obj n1),("givers", .obj n2)]
structure ScJ (S0:Store) (a n1 n2:Nat) (F:List (List Key × D) × List (List Key × D)) (S:Store):Prop where
 i:S[a]? =some (.ins "Scopes" (scF n1 n2))
 f1:S[n1]? =some (.dT F.1)
 f2:S[n2]? =some (.dT F.2)
 le:S0.length≤S.length
 fr:∀m o,m≠a→S0[m]? =some o→S[m]? =some o
theorem note_ok {t:Tm} {S0:Store} {a n1 n2 wn:Nat} {x1:Option D} (hs:t.size≤400) (d1:n1≠a) (d2:n2≠a) (d3:n1≠n2) (d4:wn≠n1) (d5:wn≠n2) (h1:S0.length≤n1) (h2:S0.length≤n2)
 {e:EnvD} {S:Store} {F:List (List Key × D) × List (List Key × D)} {W:Stk3} {p:List Nat} {u:Tm} {kn:Kn} {L:List D} (he:E0 14 (some (.obj a)) x1 wn e) (e3:e[3]? =some (some (pl p))) (e5:e[5]? =some (some (knD kn))) (e6:e[6]? =some (some u.w)) (e7:e[7]? =some (some u.m)) (gu:Good u)
 (J:ScJ S0 a n1 n2 F S) (G:GI t (fun s _=> .str s) F.1 (W++ [(p,u,kn)])∧GI t (fun _ g=>g) F.2 (W++ [(p,u,kn)])) (hw:S[wn]? =some (.lst L)):
 (mNote e S).sat (fun e' S'=>e'=e∧S'[wn]? =some (.lst L)∧∃F',ScJ S0 a n1 n2 F' S'∧(GI t (fun s _=> .str s) F'.1 (W++kids3 p u kn 0 u.parts)∧GI t (fun _ g=>g) F'.2 (W++kids3 p u kn 0 u.parts))) (fun _ _=>False) (fun _ _=>False) fun _ _=>False:=by
 obtain⟨w,hw',ha,hnm,_⟩:=w_str gu
 unfold mNote
 rw[ssat_if]
 simp only[sat_tOfE,sat_e2,sat_eVar,sat_eK,e6,hw',eq_strs,sat_ok,blD_bl,hnm]
 cases hn:u.name with
 |none=>
  simp only[Option.isSome_none,Bool.false_eq_true,if_false,ssat_skip]
  have g1:=G.1.step
  have g2:=G.2.step
  unfold note at g1 g2
  rw[hn] at g1 g2
  exact⟨trivial,hw,F,J,g1,g2⟩
 |some s=>
  have hu:=nam_of hn
  have g1:=G.1.step
  have g2:=G.2.step
  unfold note at g1 g2
  rw[hn] at g1 g2
  have em:u.m= .str s:=by rw[hu];rfl
  have l1:=G.1.n
  have l2:=G.2.n
  have a0:=(List.getElem?_eq_some_iff.mp J.i).1
  have b1:=(List.getElem?_eq_some_iff.mp J.f1).1
  have b2:=(List.getElem?_eq_some_iff.mp J.f2).1
  have lk1:(scF n1 n2).lookup ("names" :Str)=some (D.obj n1):=by simp[scF,List.lookup]
  have lk2:(scF n1 n2).lookup ("givers" :Str)=some (D.obj n2):=by
   have:(("givers" :Str)== "names")=false:=by decide +kernel
   simp[scF,List.lookup,this]
  simp only[Option.isSome_some,if_true,ssat_seq,ssat_asg,sat_eVar,e7]
  rw[ssat_gSub]
  simp only[sat_e1,sat_eVar,he.h0,e3]
  rw[fld_eq J.i (by simp) lk1,sat_ok]
  refine⟨_,setD_dT J.f1 (by omega),?_⟩
  generalize hS1:S.set n1 (.dT (putD F.1 (key p) u.m))=S1
  have i1:S1[a]? =some (.ins "Scopes" (scF n1 n2)):=by rw[← hS1,List.getElem?_set_ne d1];exact J.i
  have j1:S1[n1]? =some (.dT (putD F.1 (key p) u.m)):=by rw[← hS1,List.getElem?_set_self b1]
  have j2:S1[n2]? =some (.dT F.2):=by rw[← hS1,List.getElem?_set_ne d3];exact J.f2
  have le1:S1.length=S.length:=by rw[← hS1];simp
  simp only[sat_eBM,sat_aCons,sat_aNil,sat_eVar,e5,e7,em]
  refine⟨rfl,?_⟩
  rw[get_kn,sat_ok,ssat_gSub]
  simp only[sat_e1,sat_eVar,he.h0,e3]
  rw[fld_eq i1 (by simp) lk2,sat_ok]
  refine⟨_,setD_dT j2 (by omega),trivial,?_,(putD F.1 (key p) (.str s),putD F.2 (key p) ((dGet kn (.inr s)).getD .non)),⟨?_,?_,?_,?_,?_⟩,g1,g2⟩
  ·rw[List.getElem?_set_ne (Ne.symm d5),←hS1,List.getElem?_set_ne (Ne.symm d4)];exact hw
  ·rw[List.getElem?_set_ne d2];exact i1
  ·rw[List.getElem?_set_ne (Ne.symm d3),j1,em]
  ·rw[List.getElem?_set_self (by omega)]
  ·have:=J.le;simp;omega
  ·intro m o hm h
   have hl:=(List.getElem?_eq_some_iff.mp h).1
   rw[List.getElem?_set_ne (by omega),←hS1,List.getElem?_set_ne (by omega)]
   exact J.fr m o hm h
end L3
namespace L3
open PySem L2
variable {S:Store}
theorem scInit_ok {fuel:Nat} (hf:1000≤fuel) {t:Tm} (gt:Good t) (hs:t.size≤400) (S0:Store):
 (run 2 14 (mInit fuel) [.obj S0.length,t.d] (S0++ [.ins "Scopes" []])).sat fun d S'=>d= .non∧∃F,ScJ S0 S0.length (S0.length+1) (S0.length+2) F S'∧(∀ q,dGet F.1 (key q)=(gv [] t [] q).map fun p=> .str p.1)∧(∀ q,dGet F.2 (key q)=(gv [] t [] q).map fun p=>p.2)∧F.1.length≤t.size∧F.2.length≤t.size∧((F.2.map (·.1)).Nodup∧∀e ∈ F.2,∃q,e.1=key q):=by
 rw[sat_run]
 refine⟨rfl,?_⟩
 unfold mInit
 have dT:∀(e:EnvD) (S:Store),eDctT0 e S= .ok (.obj S.length) (S++ [.dT []]):=fun e S=>rfl
 rw[ssat_seq,ssat_fldD,dT,sat_ok]
 simp only[List.map_cons,List.map_nil,List.cons_append,List.nil_append,List.length_cons,List.length_nil,List.replicate,Nat.zero_add,Nat.reduceAdd,Nat.reduceSub,sat_eVar,List.getElem?_cons_zero]
 have i1:(S0++ [O.ins "Scopes" []] ++ [O.dT []])[S0.length]? =some (.ins "Scopes" []):=by simp
 refine⟨_,_,_,insAt_obj i1,⟨by simp,by simp⟩,?_⟩
 have s1:(S0++ [O.ins "Scopes" []] ++ [O.dT []]).set S0.length (.ins "Scopes" (putFD "names" (.obj (S0++ [O.ins "Scopes" []]).length) []))=S0++ [.ins "Scopes" [("names", .obj (S0.length+1))], .dT []] :=by
  simp[putFD]
 rw[s1,ssat_seq,ssat_fldD,dT,sat_ok]
 simp only[sat_eVar,List.getElem?_cons_zero]
 have i2:(S0++ [O.ins "Scopes" [("names",D.obj (S0.length+1))],O.dT []] ++ [O.dT []])[S0.length]? =some (.ins "Scopes" [("names", .obj (S0.length+1))]):=by simp
 refine⟨_,_,_,insAt_obj i2,⟨by simp,by simp⟩,?_⟩
 have ne:(("names" :Str)= "givers")=False:=by
  have:(("names" :Str)== "givers")=false:=by decide +kernel
  simpa using this
 have s2:(S0++ [O.ins "Scopes" [("names",D.obj (S0.length+1))],O.dT []] ++ [O.dT []]).set S0.length (.ins "Scopes" (putFD "givers" (.obj (S0++ [O.ins "Scopes" [("names",D.obj (S0.length+1))],O.dT []]).length) [("names",D.obj (S0.length+1))]))=S0++ [.ins "Scopes" (scF (S0.length+1) (S0.length+2)), .dT [], .dT []] :=by
  simp[putFD,scF,ne]
 rw[s2]
 have o:∀(x:Option D) (r:List (Option D)),eN mkObj (aCons (eN mkTup (aCons (eN mkTup aNil) (aCons (eVar 1) (aCons eDic0 aNil)))) aNil) (x::some t.d::r) (S0++ [O.ins "Scopes" (scF (S0.length+1) (S0.length+2)), .dT [], .dT []])= .ok (.obj (S0.length+3)) (S0++ [O.ins "Scopes" (scF (S0.length+1) (S0.length+2)), .dT [], .dT [], .lst [stk3 ([],t,[])]]):=fun x r=>by
  obtain⟨a,S',e,h1,h2⟩:=sat_ex.mp (show(eN mkObj (aCons (eN mkTup (aCons (eN mkTup aNil) (aCons (eVar 1) (aCons eDic0 aNil)))) aNil) (x::some t.d::r) (S0++ [O.ins "Scopes" (scF (S0.length+1) (S0.length+2)), .dT [], .dT []])).sat fun d S'=>d= .obj (S0.length+3)∧S'=S0++ [O.ins "Scopes" (scF (S0.length+1) (S0.length+2)), .dT [], .dT [], .lst [stk3 ([],t,[])]] by
   simp[sz0,sz1,sz3,stk3,knD,pl])
  rw[e,h1,h2]
 refine step_asg (env':= [some (.obj S0.length),some t.d,some (.obj (S0.length+3)),none,none,none,none,none,none,none,none,none,none,none]) (o _ _) rfl ?_
 refine gw_ok (φ :=List (List Key × D) × List (List Key × D)) (n:=14) (wn:=S0.length+3) (x0:=some (.obj S0.length)) (x1:=some t.d) (J:=ScJ S0 S0.length (S0.length+1) (S0.length+2)) (GG:=fun F W=>GI t (fun s _=> .str s) F.1 W∧GI t (fun _ g=>g) F.2 W) gt hs hf (by decide) (cp_comp (by decide)) ts_two ?_ ?_ ?_ ?_ ⟨rfl,rfl,rfl,rfl⟩ (F:=([],[])) ?_ ⟨GI.start t _,GI.start t _⟩ (by simp) ?_
 ·intro F S S' fr J
  exact⟨fr.fr _ _ (by omega) J.i,fr.fr _ _ (by omega) J.f1,fr.fr _ _ (by omega) J.f2,Nat.le_trans J.le fr.le,fun m o hm h=>fr.fr m o (by have:=(List.getElem?_eq_some_iff.mp h).1;omega) (J.fr m o hm h)⟩
 ·rintro F W ⟨G1,G2⟩
  exact⟨fun x hx=>⟨(G1.a x hx).2.1,(G1.a x hx).2.2⟩,by have:=G1.n;omega⟩
 ·intro e S l he hw
  apply of_sat
  simp only[sat_tOfE,sat_e2,sat_eN,sat_aCons,sat_aNil,sat_eVar,sat_eK,he.h2]
  rw[len_obj hw,sat_ok,gt_int,sat_ok,blD_bl,sat_ok]
  refine⟨?_,rfl⟩
  cases l<;>simp
 ·intro e S F W p u kn L he e3 e5 e6 e7 gu J G hw _
  exact note_ok hs (by omega) (by omega) (by omega) (by omega) (by omega) (by omega) (by omega) he e3 e5 e6 e7 gu J G hw
 ·exact⟨by simp,by simp,by simp,by simp,fun m o hm h=>by rw[List.getElem?_append_left (List.getElem?_eq_some_iff.mp h).1];exact h⟩
 ·rintro e' S' F' _ J ⟨G1,G2⟩
  have n1:=G1.n
  have n2:=G2.n
  refine⟨by first|exact rfl|exact trivial,F',J,fun q=>G1.fin q,fun q=>G2.fin q,by omega,by omega,G2.k⟩
end L3
namespace L3
open PySem L2
variable {S:Store} {n:Nat}
def nis (q:List Nat):List D:=q.map fun i:Nat=> .int (i:Int)
def odds (q:List Nat):List D:=
 [.tup (nis q++ [.int 6]), .tup (nis q++ [.int (-1)]), .tup (nis q++ [.bl true]), .tup (nis q++ [.str "0"]), .tup (nis q++ [.int (10 ^ 40)]), .lst (nis q), .tup (nis q++ [.tup []])]
def bent (q:List Nat):D:=match q.getLast? with
 |some i=> .tup (nis q.dropLast++ [.int ((i:Int)+6)])
 |none=> .tup [.int 6]
def odds2 (q:List Nat):List D:= [bent q, .non, .int 0, .str "", .str "0", .dic [] [], .bl true, .lst [.int 0], .tup [.non]]
theorem odd_no {t u:Tm} {q:List Nat} {B:Nat} (h:U 6 t.d) (e:t.at q=some u):∀d ∈ odds q++odds2 q,NoPl t d:=by
 have hu:=(h.at e).parts.1
 have h0:=h.parts.1
 have deep:∀y,Pln y→numOk y ((u.parts.length:Int)-1)=false→NoPl t (.tup (nis q++ [y])):=fun y p n=> .deep e p n
 have top:∀y,Pln y→numOk y ((t.parts.length:Int)-1)=false→NoPl t (.tup [y]):=fun y p n=> .deep (q:= []) (u:=t) rfl p n
 intro d hd
 simp only[odds,odds2,List.mem_append,List.mem_cons,List.not_mem_nil,or_false] at hd
 rcases hd with(rfl|rfl|rfl|rfl|rfl|rfl|rfl)|(rfl|rfl|rfl|rfl|rfl|rfl|rfl|rfl|rfl)
 ·exact deep _ (.int _) (by simp only[numOk,Bool.and_eq_false_iff,decide_eq_false_iff_not];omega)
 ·exact deep _ (.int _) (by simp[numOk])
 ·exact deep _ (.bl _) rfl
 ·exact deep _ (.str _) rfl
 ·exact deep _ (.int _) (by
   have: ¬((10:Int) ^ 40≤(u.parts.length:Int)-1):=by
    have:(10:Int) ^ 40=10000000000000000000000000000000000000000:=by decide
    omega
   simp only[numOk,Bool.and_eq_false_iff,decide_eq_false_iff_not];exact .inr this)
 ·exact .not (.lst _) (by simp)
 ·exact deep _ (.tup _) rfl
 ·unfold bent
  rcases List.eq_nil_or_concat q with rfl|⟨r,i,rfl⟩
  ·exact top _ (.int _) (by simp only[numOk,Bool.and_eq_false_iff,decide_eq_false_iff_not];omega)
  ·rw[List.concat_eq_append] at e ⊢
   rw[Tm.at_app] at e
   cases hr:t.at r with
   |none=>rw[hr] at e;cases e
   |some v=>
    have hv:=(h.at hr).parts.1
    simp only[List.getLast?_append,List.getLast?_singleton,Option.some_or,List.dropLast_concat]
    exact .deep hr (.int _) (by simp only[numOk,Bool.and_eq_false_iff,decide_eq_false_iff_not];omega)
 ·exact .not .non (by simp)
 ·exact .not (.int _) (by simp)
 ·exact .not (.str _) (by simp)
 ·exact .not (.str _) (by simp)
 ·exact .not .dic (by simp)
 ·exact .not (.bl _) (by simp)
 ·exact .not (.lst _) (by simp)
 ·exact top _ .non rfl
theorem odd_sh {t u:Tm} {q:List Nat} (h:U 6 t.d) (e:t.at q=some u) (hq:q.length≤20):∀d ∈ odds q++odds2 q,Sh 10000 2 d:=by
 have hi:=sh_pl h (by decide) e
 have si:∀i:Int,i.natAbs<10 ^ 41→Sh 200 1 (.int i):=fun i h=>(sh_int h).mono (by decide) (by decide)
 have is:∀x ∈ nis q,Sh 200 1 x:=fun x hx=>by
  obtain⟨i,h1,rfl⟩:=List.mem_map.mp hx
  exact si _ (Nat.lt_of_lt_of_le (by have:=hi i h1;omega) (by decide:1000≤10 ^ 41))
 have us:∀ {x:D},U 6 x→wt x≤200→dp x≤1→Sh 200 1 x:=fun h a b=>h.sh.mono a b
 have mk:∀ {l:List D},l.length≤21→(∀ x ∈ l,Sh 200 1 x)→Sh 10000 2 (.tup l):=fun hl h=>(sh_tup h).mono (by
  have:=Nat.mul_le_mul_right (200+2) hl
  omega) (by decide)
 have one:∀ {l:List D} {y:D},l.length≤20→(∀ x ∈ l,Sh 200 1 x)→Sh 200 1 y→Sh 10000 2 (.tup (l++ [y])):=fun hl h hy=>mk (by simpa using hl) fun x hx=>by
  rcases List.mem_append.mp hx with hx|hx
  ·exact h x hx
  ·simp only[List.mem_cons,List.not_mem_nil,or_false] at hx;subst hx;exact hy
 have il:(nis q).length≤20:=by simpa[nis] using hq
 intro d hd
 simp only[odds,odds2,List.mem_append,List.mem_cons,List.not_mem_nil,or_false] at hd
 rcases hd with(rfl|rfl|rfl|rfl|rfl|rfl|rfl)|(rfl|rfl|rfl|rfl|rfl|rfl|rfl|rfl|rfl)
 ·exact one il is (si _ (by decide))
 ·exact one il is (si _ (by decide))
 ·exact one il is (us (.bl _) (by decide) (by decide))
 ·exact one il is (us (.str (by decide +kernel)) (by decide) (by decide))
 ·exact one il is (si _ (by decide))
 ·exact(sh_lst is).mono (by
   have:=Nat.mul_le_mul_right (200+2) il
   omega) (by decide)
 ·exact one il is (us (.tup (by simp) (by simp)) (by decide) (by decide))
 ·unfold bent
  rcases List.eq_nil_or_concat q with rfl|⟨r,i,rfl⟩
  ·exact one (l:= []) (by simp) (by simp) (si _ (by decide))
  ·rw[List.concat_eq_append] at*
   simp only[List.getLast?_append,List.getLast?_singleton,Option.some_or,List.dropLast_concat]
   refine one (by simp[nis] at il ⊢;omega) (fun x hx=>is x ?_) (si _ ?_)
   ·simp only[nis,List.map_append,List.mem_append] at hx ⊢;exact .inl hx
   ·have:=hi i (by simp)
    exact Nat.lt_of_lt_of_le (by omega) (by decide:1000≤10 ^ 41)
 ·exact(U.non (B:=6)).sh.mono (by decide) (by decide)
 ·exact(si _ (by decide)).mono (by decide) (by decide)
 ·exact(U.str (B:=6) (s:= "") (by decide +kernel)).sh.mono (by decide) (by decide)
 ·exact(U.str (B:=6) (s:= "0") (by decide +kernel)).sh.mono (by decide) (by decide)
 ·exact(U.dic (B:=6)).sh.mono (by decide) (by decide)
 ·exact(U.bl (B:=6) true).sh.mono (by decide) (by decide)
 ·exact(sh_lst (W:=200) (Dp:=1) (l:= [.int 0]) (by simp;exact si _ (by decide))).mono (by decide) (by decide)
 ·exact mk (by simp) (by simp;exact us .non (by decide) (by decide))
theorem add_one {q:List Nat} {y:D} (h:q.length≤100):addD (pl q) (.tup [y]) S= .ok (.tup (nis q++ [y])) S:=by
 unfold pl;exact add_tup (small (by simp;omega))
theorem list_pl {q:List Nat} :listD [pl q] S= .ok (.lst (nis q)) S:=rfl
theorem tm_wt:∀t:Tm,wt t.d≤400*t.size
 | .num _=>by simp[Tm.d,wt,wts,Tm.size]
 | .nam _=>by simp[Tm.d,wt,wts,Tm.size]
 | .nd w m ps=>by
   have:∀ts:List Tm,(∀ t ∈ ts,wt t.d≤400*t.size)→wts (Tm.ds ts)≤400*Tm.sizes ts:=by
    intro ts
    induction ts with
    |nil=>intro _;simp[Tm.ds,wts]
    |cons t ts ih=>
     intro h
     have h1:=h t (List.mem_cons_self ..)
     have h2:=ih fun t ht=>h t (List.mem_cons_of_mem _ ht)
     simp only[Tm.ds,wts,Tm.sizes];omega
   have:=this ps fun t _=>tm_wt t
   simp only[Tm.d,wt,wts,Tm.size];omega
theorem tm_dp:∀t:Tm,dp t.d≤2*t.dep
 | .num _=>by simp[Tm.d,dp,dps,Tm.dep]
 | .nam _=>by simp[Tm.d,dp,dps,Tm.dep]
 | .nd w m ps=>by
   have:∀ts:List Tm,(∀ t ∈ ts,dp t.d≤2*t.dep)→dps (Tm.ds ts)≤2*Tm.deps ts:=by
    intro ts
    induction ts with
    |nil=>intro _;simp[Tm.ds,dps]
    |cons t ts ih=>
     intro h
     have h1:=h t (List.mem_cons_self ..)
     have h2:=ih fun t ht=>h t (List.mem_cons_of_mem _ ht)
     simp only[Tm.ds,dps,Tm.deps];omega
   have:=this ps fun t _=>tm_dp t
   simp only[Tm.d,dp,dps,Tm.dep];omega
structure Pg (t:Tm):Prop where
 u:U 6 t.d
 s:t.size≤60
 d:t.dep≤8
theorem Pg.show {t:Tm} (h:Pg t):∃z:Str,∀S,reprD [t.d] S= .ok (.str z) S:=by
 have:=tm_wt t
 have:=tm_dp t
 have:=h.s
 have:=h.d
 exact h.u.show (by omega) (by omega)
theorem Pg.at {t u:Tm} {q:List Nat} (h:Pg t) (e:t.at q=some u):Pg u∧q.length<9:=by
 have h1:=Tm.at_dep e
 have h2:=Tm.dep_pos u
 have hd:=h.d
 refine⟨⟨h.u.at e,?_,by omega⟩,by omega⟩
 have hs:=h.s
 have:∀ {q:List Nat} {t u:Tm},t.at q=some u→u.size≤t.size:=by
  intro q
  induction q with
  |nil=>intro t u e;simp only[Tm.at,Option.some.injEq] at e;subst e;exact Nat.le_refl _
  |cons i q ih=>
   intro t u e
   obtain⟨v,a,b⟩:=Tm.at_cons e
   have:=Tm.parts_size a
   have:=ih b
   omega
 have:=this e
 omega
theorem ne_no {a b:ED} {env:EnvD} {z:Str} {S S1 S2:Store} (h1:a env S= .ok (.str z) S1) (h2:b env S1= .ok (.str z) S2):tOfE (e2 neD a b) env S= .ok false S2:=by
 obtain⟨x,S',e,h3,h4⟩:=sat_ex.mp (show(tOfE (e2 neD a b) env S).sat fun d S'=>d=false∧S'=S2 by simp[h1,h2])
 rw[e,h3,h4]
theorem is_ok {α :Type} {r:R α} {a: α} {S1:Store} (h:r.sat fun d S'=>d=a∧S'=S1):r= .ok a S1:=by
 obtain⟨x,S',e,rfl,rfl⟩:=sat_ex.mp h
 exact e
theorem gv_val {t:Tm} :∀ {r p:List Nat} {u:Tm} {kn:Kn} {s:Str} {g:D},KnOk t p kn→t.at p=some u→gv kn u p r=some (s,g)→g= .non∨∃q ∈ t.spots,g=pl q
 | [],p,u,kn,s,g,hk,hp,h=>by
   simp only[gv] at h
   cases hn:u.name with
   |none=>rw[hn] at h;cases h
   |some x=>
    rw[hn] at h
    simp only[Option.map_some,Option.some.injEq,Prod.mk.injEq] at h
    cases hd:dGet kn (.inr x) with
    |none=>rw[hd] at h;exact .inl h.2.symm
    |some d=>
     rw[hd] at h
     obtain⟨y,hy,ey⟩:=dGet_mem hd
     obtain⟨q,hq,eq⟩:=hk.vl y hy
     exact .inr ⟨q,hq,by rw[← h.2,←eq,ey];rfl⟩
 |i::r,p,u,kn,s,g,hk,hp,h=>by
  simp only[gv] at h
  cases hv:u.parts[i]? with
  |none=>rw[hv] at h;cases h
  |some v=>
   rw[hv] at h
   refine gv_val (hk.next (Tm.spots_at.mpr ⟨u,hp⟩) i) ?_ h
   rw[Tm.at_app,hp]
   simp only[Option.bind_some,Tm.at,hv]
end L3
namespace K05
open PySem L2 L3
variable {S:Store} {n:Nat}
theorem tk (k:Nat):IsTake (Fs (k+1) 9):=by rw[Fs_law_take];exact isTake
theorem pk (k:Nat):IsPick2 (Fs (k+2) 10):=by rw[show k+2=k+1+1 from rfl,Fs_law_pick];exact isPick2 (tk k)
theorem cl (k:Nat):IsCalled (Fs (k+3) 11):=by rw[show k+3=k+2+1 from rfl,Fs_law_called];exact isCalled (tk (k+1)) (pk k)
theorem dg (k:Nat):IsDigit (Fs (k+3) 12):=by rw[show k+3=k+2+1 from rfl,Fs_law_digit];exact isDigit (tk (k+1)) (pk k)
theorem gr:∀L k,GrownOk (Fs (k+4+L) 13) L
 |0,k=>by rw[show k+4+0=k+3+1 from rfl,Fs_law_grown];exact grown_ok (tk (k+2)) (pk (k+1)) (dg k) fun h=>absurd rfl h
 |L+1,k=>by
  rw[show k+4+(L+1)=k+4+L+1 from rfl,Fs_law_grown]
  have h1:=tk (k+3+L)
  have h2:=pk (k+2+L)
  have h3:=dg (k+1+L)
  rw[show k+3+L+1=k+4+L by omega] at h1
  rw[show k+2+L+2=k+4+L by omega] at h2
  rw[show k+1+L+3=k+4+L by omega] at h3
  exact grown_ok h1 h2 h3 fun _=>gr L k
theorem code (k:Nat) (hS:Hand n S) {left:Nat} :(Fs (k+13) 14 [.obj n, .int left] S).sat fun d S'=>∃t:Tm,d=t.d∧Good t∧t.dep≤8∧t.size≤left+25∧FrH n S S':=by
 rw[show k+13=k+12+1 from rfl,Fs_law_code]
 refine code_any (tk (k+11)) (cl (k+9)) (fun L hL=> ?_) hS
 have:=gr L (k+8-L)
 rw[show k+8-L+4+L=k+12 by omega] at this
 exact this
theorem isn (k:Nat):IsNumberF (Fs (k+2) 1):=by
 rw[show k+2=k+1+1 from rfl,Fs_is_number]
 exact isNumberF (by rw[Fs_is_whole];exact isWholeF)
theorem at_ (k:Nat):IsAt (Fs (k+3) 2):=by rw[show k+3=k+2+1 from rfl,Fs_at];exact itsAt (isn k)
theorem spots:∀n k:Nat,n≤1000→IsSpots (Fs (k+n) 15) n
 |0,k,_=>isSpots0 _
 |n+1,k,h=>by rw[show k+(n+1)=k+n+1 from rfl,Fs_law_spots];exact isSpots (spots n k (by omega)) (by omega)
end K05
namespace K05
open PySem L2 L3
variable {S:Store} {n:Nat}
theorem key_keyD (k:Key):keyOf (keyD k)=some k:=by cases k<;>rfl
theorem pairs_kn:∀kn:Kn,pairKs (L3.pairs kn)=some kn
 | [] =>rfl
 |p::kn=>by
  simp only[L3.pairs,pairKs,pairK,key_keyD,Option.map_some,pairs_kn kn]
theorem cp_list {n:Nat} (hn:12≤n):CpOk (sAsg (eN dictPO (aCons (e1 litemsD (eVar 5)) (aNil))) (gName 11)) n:=fun e S kn hl h5 nd hk=>by
 have dk:dkAt (knD kn) S=some kn:=by
  unfold knD
  simp only[dkAt]
  rw[if_pos (by simp),L3.zip_self]
 have e1:(eN dictPO (aCons (e1 litemsD (eVar 5)) (aNil))) e S= .ok (.obj S.length) (S++ [.dK kn]):=by
  obtain⟨a,S',e',h1,h2⟩:=sat_ex.mp (show((eN dictPO (aCons (e1 litemsD (eVar 5)) (aNil))) e S).sat fun d S'=>d= .obj S.length∧S'=S++ [.dK kn] by
   simp only[sat_eN,sat_aCons,sat_aNil,sat_e1,sat_eVar,h5]
   unfold litemsD
   simp only[dk,sat_ok]
   unfold dictPO
   simp only[asL,pairs_kn,sat_ok,copy_self nd,and_self])
  rw[e',h1,h2]
 unfold sAsg
 rw[e1]
 rfl
theorem givers {t:Tm} (gt:Good t) (hs:t.size≤400) (S0:Store):(Fs 68 16 [t.d] S0).sat fun d S'=>d= .obj S0.length∧(∃ F,S'[S0.length]? =some (.dT F)∧(∀ q,dGet F (key q)=(gv [] t [] q).map fun p=> .tup [.str p.1,p.2])∧F.length≤t.size∧(F.map (·.1)).Nodup∧∀e ∈ F,∃q,e.1=key q)∧Grow S0 S':=by
 rw[show (68:Nat)=67+1 from rfl,Fs_law_givers,sat_run]
 refine⟨rfl,?_⟩
 unfold m_law_givers
 refine seq_rule (fun e S=>e= [some t.d,some (.obj S0.length),some (.obj (S0.length+1)),none,none,none,none,none,none,none,none,none] ∧S=S0++ [.dT [], .lst [stk3 ([],t,[])]]) ?_ ?_
 ·have dT:∀(e:EnvD) (S:Store),eDctT0 e S= .ok (.obj S.length) (S++ [.dT []]):=fun e S=>rfl
  simp only[ssat_par,sat_aCons,sat_aNil,dT,sat_ok,sat_eN,sat_eVar,sat_eDic0,List.map_cons,List.map_nil,List.cons_append,List.nil_append,List.length_cons,List.length_nil,List.replicate,Nat.zero_add,Nat.reduceAdd,Nat.reduceSub,List.getElem?_cons_succ,List.getElem?_cons_zero,sat_mkTup,sat_mkObj,sz0,sz1,sz3,true_and,gNames_cons,gNames_nil,ssat_nx,List.set_cons_succ,List.set_cons_zero]
  refine⟨by simp,by simp[stk3,knD,pl]⟩
 rintro e S ⟨rfl,rfl⟩
 refine seq_rule (fun e S=>e[1]? =some (some (.obj S0.length))∧(∃ F,S[S0.length]? =some (.dT F)∧(∀ q,dGet F (key q)=(gv [] t [] q).map fun p=> .tup [.str p.1,p.2])∧F.length≤t.size∧(F.map (·.1)).Nodup∧∀e ∈ F,∃q,e.1=key q)∧Grow S0 S) ?_ ?_
 ·refine gw_ok (φ :=List (List Key × D)) (n:=12) (wn:=S0.length+1) (x0:=some t.d) (x1:=some (.obj S0.length)) (J:=fun F S=>S[S0.length]? =some (.dT F)∧Grow S0 S) (GG:=fun F W=>GI t (fun s g=> .tup [.str s,g]) F W) gt hs (by decide) (by decide) (cp_list (by decide)) ts_two' ?_ ?_ ?_ ?_ ⟨rfl,rfl,rfl,rfl⟩ (F:= []) ?_ (GI.start t _) (by simp) ?_
  ·rintro F S S' fr ⟨J1,J2⟩
   exact⟨fr.fr _ _ (by omega) J1,fr.grow J2 (by omega)⟩
  ·intro F W G
   exact⟨fun x hx=>⟨(G.a x hx).2.1,(G.a x hx).2.2⟩,by have:=G.n;omega⟩
  ·intro e S l he hw
   have m0:mkLst [] S= .ok (.lst []) S:=is_ok (by rw[sat_mkLst];exact⟨small (by simp),rfl,rfl⟩)
   apply of_sat
   simp only[sat_tOfE,sat_e2,sat_eN,sat_aNil,sat_eVar,he.h2,m0,sat_ok]
   have:ne0D (.obj (S0.length+1)) (.lst []) S= .ok (.bl (!l.isEmpty)) S:=by
    unfold ne0D;simp only[asL,hw]
   rw[this,sat_ok,blD_bl,sat_ok]
   exact⟨rfl,rfl⟩
  ·rintro e S F W p u kn L he e3 e5 e6 e7 gu ⟨J1,J2⟩ G hw _
   obtain⟨w,hw',ha,hnm,_⟩:=w_str gu
   rw[ssat_if]
   simp only[sat_tOfE,sat_e2,sat_eVar,sat_eK,e6,hw',eq_strs,sat_ok,blD_bl,hnm]
   have g1:=G.step
   unfold note at g1
   cases hn:u.name with
   |none=>
    rw[hn] at g1
    simp only[Option.isSome_none,Bool.false_eq_true,if_false,ssat_skip]
    exact⟨trivial,hw,F,⟨J1,J2⟩,g1⟩
   |some s=>
    rw[hn] at g1
    have hu:=nam_of hn
    have em:u.m= .str s:=by rw[hu];rfl
    have l1:=G.n
    have b1:=(List.getElem?_eq_some_iff.mp J1).1
    have m2:∀x y S,mkTup [x,y] S= .ok (.tup [x,y]) S:=fun x y S=>is_ok (by rw[sat_mkTup];exact⟨small (by simp),rfl,rfl⟩)
    simp only[Option.isSome_some,if_true,ssat_asg,sat_eN,sat_aCons,sat_aNil,sat_eBM,sat_eVar,e7,e5,em]
    refine⟨rfl,?_⟩
    rw[get_kn,sat_ok,m2,sat_ok,ssat_gSub]
    simp only[sat_eVar,he.h1,e3]
    refine⟨_,setD_dT J1 (by omega),trivial,?_,_,⟨List.getElem?_set_self b1,J2.put (Nat.le_refl _) _⟩,g1⟩
    rw[List.getElem?_set_ne (by omega)];exact hw
  ·exact⟨by simp,⟨by simp,fun i o h=>by rw[List.getElem?_append_left (List.getElem?_eq_some_iff.mp h).1];exact h⟩⟩
  ·rintro e' S' F' he ⟨J1,J2⟩ G
   exact⟨he.h1,⟨F',J1,G.fin,by have:=G.n;simpa[L3.load] using this,G.k⟩,J2⟩
 ·rintro e S ⟨h1,h2,h3⟩
  simp only[ssat_sRet,sat_eVar,h1]
  first|exact⟨rfl,h2,h3⟩|exact⟨trivial,h2,h3⟩
end K05
namespace L3
open PySem L2
def HW:List Str:= ["any","called","count","rest"]
def Tm.word:Tm→Str
 | .num _=> "num"
 | .nam _=> "name"
 | .nd w _ _=>w
def isRest (t:Tm):Bool:=decide (t.word= "rest")
def rests (ps:List Tm):Nat:=(ps.filter isRest).length
def plains (ps:List Tm):Nat:=(ps.filter fun t=> !isRest t).length
def pshape (w:Str):Option (Nat × Nat × Nat × Bool):=
 if w= "plus" ∨w= "times" ∨w= "most" then some (0,4,1,false)
 else if w= "row" then some (0,6,2,false)
 else if w= "say" then some (1,1,0,false)
 else if w= "less" ∨w= "below" then some (2,2,0,false)
 else if w= "if" then some (3,3,0,false)
 else if w= "let" ∨w= "each" then some (2,2,0,true)
 else none
inductive PG:Tm→Prop where
 |num {i:Int} :0≤i→i≤9972→PG (.num i)
 |nam {s:Str} :NameOk s→PG (.nam s)
 |hole {w h:Str} :w ∈ HW→NameOk h→PG (.nd w h [])
 |nd {w m:Str} {ps:List Tm} {f mo r:Nat} {g:Bool} :pshape w=some (f,mo,r,g)→f≤plains ps→plains ps≤mo→rests ps≤r→(g=true→NameOk m)→(g=false→m= "")→(∀ p ∈ ps,PG p)→PG (.nd w m ps)
def GIV:List Str:= ["let","each"]
end L3
namespace L3
open PySem L2
abbrev WEnv:=Str→Option Int
abbrev Ev:=Tm→WEnv→Option (Int × List Int)
def evs (f:Ev):List Tm→WEnv→Option (List Int × List Int)
 | [],_=>some ([],[])
 |t::ts,e=>match f t e with
  |some (v,o)=>match evs f ts e with
   |some (vs,o')=>some (v::vs,o++o')
   |none=>none
  |none=>none
def upE (e:WEnv) (x:Str) (v:Int):WEnv:=fun y=>if x=y then some v else e y
def rnds (f:Ev) (t:Tm) (e:WEnv) (x:Str):List Int→Int→Option (Int × List Int)
 | [],last=>some (last,[])
 |i::is,_=>match f t (upE e x i) with
  |some (v,o)=>match rnds f t e x is v with
   |some (v',o')=>some (v',o++o')
   |none=>none
  |none=>none
def turns (n:Int):List Int:=(List.range n.toNat).map fun i:Nat=>(i:Int)
def ev:Nat→Ev
 |0,_,_=>none
 |k+1, .num i,_=>if 0≤i∧i<9973 then some (i,[]) else none
 |k+1, .nam x,e=>(e x).map fun v=>(v,[])
 |k+1, .nd w m ps,e=>
  if 100<ps.length then none
  else if w= "plus" then(evs (ev k) ps e).map fun r=>(r.1.sum % 9973,r.2)
  else if w= "times" then(evs (ev k) ps e).map fun r=>(r.1.foldl (fun a b=>a*b % 9973) 1,r.2)
  else if w= "most" then match evs (ev k) ps e with
   |some (vs,o)=>(maxI vs).map fun v=>(v,o)
   |none=>none
  else if w= "less" then match evs (ev k) ps e with
   |some ([a,b],o)=>some ((a-b) % 9973,o)
   | _=>none
  else if w= "below" then match evs (ev k) ps e with
   |some ([a,b],o)=>some (if a<b then 1 else 0,o)
   | _=>none
  else if w= "row" then(evs (ev k) ps e).map fun r=>(r.1.getLastD 0,r.2)
  else match ps with
   | [a] =>if w= "say" then(ev k a e).map fun r=>(r.1,r.2++ [r.1]) else none
   | [a,b] =>match ev k a e with
     |some (v,o)=>
      if w= "let" then(ev k b (upE e m v)).map fun r=>(r.1,o++r.2)
      else if w= "each" then(rnds (ev k) b e m (turns (v % 4)) 0).map fun r=>(r.1,o++r.2)
      else none
     |none=>none
   | [a,b,c] =>if w= "if" then match ev k a e with
       |some (v,o)=>(ev k (if v≠0 then b else c) e).map fun r=>(r.1,o++r.2)
       |none=>none
     else none
   | _=>none
theorem keys_inj {x y:Str} :((.inr x:Key)= .inr y)↔x=y:=by simp
end L3
namespace L3
open PySem L2
abbrev XR:=Option (List Int × Except Str Int)
abbrev XEv:=Tm→WEnv→XR
def xevs (f:XEv):List Tm→WEnv→Option (List Int × Except Str (List Int))
 | [],_=>some ([], .ok [])
 |t::ts,e=>match f t e with
  |some (o, .ok v)=>match xevs f ts e with
   |some (o', .ok vs)=>some (o++o', .ok (v::vs))
   |some (o', .error x)=>some (o++o', .error x)
   |none=>none
  |some (o, .error x)=>some (o, .error x)
  |none=>none
def xbind (r:XR) (g:Int→XR):XR:=match r with
 |some (o, .ok v)=>match g v with
  |some (o',r')=>some (o++o',r')
  |none=>none
 |r=>r
def xmany (r:Option (List Int × Except Str (List Int))) (g:List Int→Option Int):XR:=match r with
 |some (o, .ok vs)=>(g vs).map fun v=>(o, .ok v)
 |some (o, .error x)=>some (o, .error x)
 |none=>none
def xrnds (f:XEv) (t:Tm) (e:WEnv) (x:Str):List Int→Int→XR
 | [],last=>some ([], .ok last)
 |i::is,_=>xbind (f t (upE e x i)) fun v=>xrnds f t e x is v
def xsaid (v:Int):XR:=some ([v], .ok v)
def xword (w:Str) (vs:List Int):Option Int:=
 if w= "plus" then some (vs.sum % 9973)
 else if w= "times" then some (vs.foldl (fun a b=>a*b % 9973) 1)
 else if w= "most" then maxI vs
 else if w= "row" then some (vs.getLastD 0)
 else match vs with
  | [a,b] =>if w= "less" then some ((a-b) % 9973) else if w= "below" then some (if a<b then 1 else 0) else none
  | _=>none
def xv:Nat→XEv
 |0,_,_=>none
 |k+1, .num i,_=>if 0≤i∧i<9973 then some ([], .ok i) else none
 |k+1, .nam x,e=>some ([],match e x with
  |some v=> .ok v
  |none=> .error x)
 |k+1, .nd w m ps,e=>
  if 100<ps.length then none
  else if w= "say" then match ps with
   | [a] =>xbind (xv k a e) xsaid
   | _=>none
  else if w= "let" then match ps with
   | [a,b] =>xbind (xv k a e) fun v=>xv k b (upE e m v)
   | _=>none
  else if w= "each" then match ps with
   | [a,b] =>xbind (xv k a e) fun v=>xrnds (xv k) b e m (turns (v % 4)) 0
   | _=>none
  else if w= "if" then match ps with
   | [a,b,c] =>xbind (xv k a e) fun v=>xv k (if v≠0 then b else c) e
   | _=>none
  else if w= "plus" ∨w= "times" ∨w= "most" ∨w= "less" ∨w= "below" ∨w= "row" then xmany (xevs (xv k) ps e) (xword w)
  else none
end L3
namespace L3
open PySem L2 PyProof.Rows
def okS (s:Str):Prop:=∀c ∈ s.cps.toList,c<1114112
theorem okS_of (s:String):okS (Str.ofString s):=by
 intro c hc
 rw[signs_ofString] at hc
 obtain⟨d,_,rfl⟩:=List.mem_map.mp hc
 have h:=d.valid
 have e:d.toNat=d.val.toNat:=rfl
 rw[e]
 unfold UInt32.isValidChar Nat.isValidChar at h
 omega
theorem okS_app {a b:Str} (ha:okS a) (hb:okS b):okS (a++b):=fun c hc=>(mem_cps_append.mp hc).elim (ha c) (hb c)
theorem okS_join {sep:Str} (hs:okS sep) {ts:List Str} (h:∀t ∈ ts,okS t):okS (Str.join sep ts):=fun c hc=>by
 rcases(mem_join sep c ts).mp hc with⟨t,ht,h1⟩|⟨_,h1⟩
 ·exact h t ht c h1
 ·exact hs c h1
theorem okS_iff {s:Str} :okS s↔PyData.strOk s=true:=by
 unfold PyData.strOk okS
 rw[← Array.all_toList,List.all_eq_true]
 simp only[decide_eq_true_eq]
theorem reprChar_ok {q c:Nat} (hc:c<1114112):∀d ∈ Builtin.Str.reprChar q c,d<1114112:=by
 have hex:∀w:Nat,∀d ∈ (List.replicate (w-((Nat.toDigits 16 c).map Char.toNat).length) 48++(Nat.toDigits 16 c).map Char.toNat),d<1114112:=by
  intro w d hd
  rcases List.mem_append.mp hd with h|h
  ·rw[(List.mem_replicate.mp h).2];decide
  ·obtain⟨x,_,rfl⟩:=List.mem_map.mp h
   have h:=x.valid
   have e:x.toNat=x.val.toNat:=rfl
   rw[e]
   unfold UInt32.isValidChar Nat.isValidChar at h
   omega
 intro d hd
 unfold Builtin.Str.reprChar at hd
 simp only [] at hd
 repeat' split at hd
 all_goals first
  |(simp only[List.mem_cons,List.not_mem_nil,or_false] at hd;omega)
  |(rcases List.mem_append.mp hd with h|h
    ·simp only[List.mem_cons,List.not_mem_nil,or_false] at h;omega
    ·exact hex _ d h)
theorem fold_ok (q:Nat):∀(l:List Nat) (acc:Array Nat),(∀ c ∈ l,c<1114112)→(∀ d ∈ acc.toList,d<1114112)→∀d ∈ (l.foldl (fun out c=>out++(Builtin.Str.reprChar q c).toArray) acc).toList,d<1114112
 | [],acc,_,h=>h
 |c::r,acc,hl,h=>by
  rw[List.foldl_cons]
  refine fold_ok q r _ (fun x hx=>hl x (List.mem_cons_of_mem _ hx)) fun d hd=> ?_
  rw[Array.toList_append,List.mem_append] at hd
  rcases hd with hd|hd
  ·exact h d hd
  ·exact reprChar_ok (hl c (List.mem_cons_self ..)) d (by simpa using hd)
theorem reprText_ok {x:Str} (h:okS x):okS (reprText x):=by
 unfold reprText
 intro c hc
 have e:((x.cps.foldl (fun out c=>out++(Builtin.Str.reprChar (reprQuote x) c).toArray) #[reprQuote x]).push (reprQuote x)).toList=(x.cps.toList.foldl (fun out c=>out++(Builtin.Str.reprChar (reprQuote x) c).toArray) #[reprQuote x]).toList++ [reprQuote x] :=by
  rw[Array.toList_push,←Array.foldl_toList]
 have hc':c ∈ ((x.cps.foldl (fun out c=>out++(Builtin.Str.reprChar (reprQuote x) c).toArray) #[reprQuote x]).push (reprQuote x)).toList:=hc
 rw[e] at hc'
 have hq:reprQuote x<1114112:=by unfold reprQuote;split<;>decide
 rcases List.mem_append.mp hc' with h1|h1
 ·exact fold_ok _ _ _ h (fun d hd=>by simp at hd;omega) c h1
 ·rw[List.mem_singleton.mp h1];exact hq
mutual
theorem shown_okS {B:Nat} :∀ {x:D},U B x→∃a,toPyR x=some a∧okS a.shown
 | .non,_=>⟨.none,rfl,by rw[PyData.shown_none];exact okS_of _⟩
 | .bl b,_=>⟨.bool b,rfl,by rw[PyData.shown_bool];cases b<;>exact okS_of _⟩
 | .int i,h=>⟨.int i,rfl,by rw[PyData.shown_int];exact okS_of _⟩
 | .str s,h=>by
   cases h with
   |str hs=>exact⟨.str s,rfl,by rw[PyData.shown_str];exact reprText_ok (okS_iff.mpr (asc_ok hs))⟩
 | .tup l,h=>by
   have h:∀x ∈ l,U B x:=by cases h with|tup _ h=>exact h
   obtain⟨as,e1,e2⟩:=showns_okS h
   refine⟨.tuple as,by simp only[toPyR,e1];rfl,?_⟩
   rw[PyData.shown_tuple]
   refine okS_app (okS_app (okS_of _) (okS_join (okS_of _) e2)) ?_
   split<;>exact okS_of _
 | .lst l,h=>by
   have h:∀x ∈ l,U B x:=by cases h with|lst _ h=>exact h
   obtain⟨as,e1,e2⟩:=showns_okS h
   refine⟨.list as,by simp only[toPyR,e1];rfl,?_⟩
   rw[PyData.shown_list]
   exact okS_app (okS_app (okS_of _) (okS_join (okS_of _) e2)) (okS_of _)
 | .dic ks l,h=>by
   cases h with
   |dic=>
    refine⟨.dict [],rfl,?_⟩
    rw[PyData.shown_dict,PyData.shownKv_nil]
    exact okS_app (okS_app (okS_of _) (okS_join (okS_of _) (by simp))) (okS_of _)
 | .obj _,h=>nomatch h
 | .glb _,h=>nomatch h
 | .wtp _,h=>nomatch h
 | .ty _,h=>nomatch h
 | .scr _,h=>nomatch h
 | .kd _ _,h=>nomatch h
 | .xcp _ _ _,h=>nomatch h
 | .lam _ _,h=>nomatch h
theorem showns_okS {B:Nat} :∀ {l:List D},(∀ x ∈ l,U B x)→∃as,toPyRL l=some as∧∀t ∈ PyData.shownAll as,okS t
 | [],_=>⟨[],rfl,by simp[PyData.shownAll]⟩
 |x::l,h=>by
  obtain⟨a,e1,e2⟩:=shown_okS (h x (List.mem_cons_self ..))
  obtain⟨as,f1,f2⟩:=showns_okS fun y hy=>h y (List.mem_cons_of_mem _ hy)
  refine⟨a::as,by simp only[toPyRL,e1,f1],?_⟩
  intro t ht
  rw[PyData.shownAll_cons,List.mem_cons] at ht
  rcases ht with rfl|ht
  ·exact e2
  ·exact f2 t ht
end
theorem toPyL_strs:∀l:List Str,(∀ s ∈ l,PyData.strOk s=true)→toPyL (l.map .str)=some (l.map .str)
 | [],_=>rfl
 |s::l,h=>by
  simp only[List.map_cons,toPyL,toPy,h s (List.mem_cons_self ..),if_true,toPyL_strs l fun t ht=>h t (List.mem_cons_of_mem _ ht)]
theorem depthAll_strs:∀l:List Str,PyData.depthAll (l.map .str)=0
 | [] =>by simp[PyData.depthAll]
 |s::l=>by simp[PyData.depthAll,PyData.depth,depthAll_strs l]
theorem eqv_refl:∀l:List Str,PyData.eqvAll (l.map .str) (l.map .str)=true
 | [] =>by simp[PyData.eqvAll]
 |s::l=>by simp[PyData.eqvAll,PyData.eqv,eqv_refl l]
theorem ne_lst_self {l:List Str} {S:Store} (h:∀s ∈ l,PyData.strOk s=true):neD (.lst (l.map .str)) (.lst (l.map .str)) S= .ok (.bl false) S:=by
 have h1:toPy (deref (.lst (l.map .str)) S)=some (.list (l.map .str)):=by simp only[deref,toPy,toPyL_strs l h];rfl
 have h2:PyData.depth (.list (l.map .str))≤64:=by simp[PyData.depth,depthAll_strs]
 unfold neD
 simp only[h1]
 rw[if_pos (by omega)]
 simp[PyData.eqv,eqv_refl]
end L3
namespace L3
open PySem L2
def isHeap (w:Str):Bool:=decide (w= "plus" ∨w= "times" ∨w= "most")
end L3
namespace L3
open PySem L2
section
variable {S:Store}
inductive V:D→Prop where
 |non:V .non
 |bl (b:Bool):V (.bl b)
 |int (i:Int):V (.int i)
 |str {s:Str} :PyData.strOk s=true→s.length≤90000→V (.str s)
 |tup {l:List D} :l.length≤1000→(∀ x ∈ l,V x)→V (.tup l)
 |lst {l:List D} :l.length≤1000→(∀ x ∈ l,V x)→V (.lst l)
 |dic:V (.dic [] [])
end
end L3
namespace L3
open PySem L2
@[simp] theorem sat_tIf {S:Store} {env:EnvD} {QB:Bool→Store→Prop} {c a b:TD} :(tIf c a b env S).sat QB=(c env S).sat fun k S1=>if k=true then(a env S1).sat QB else(b env S1).sat QB:=by
  unfold tIf;rw[sat_bind];congr;funext k S1;cases k<;>simp
def PS:List (Str × Nat × Nat):= [("plus",0,6),("times",0,6),("most",0,6),("row",0,8),("say",1,1),("less",2,2),("below",2,2),("if",3,3),("let",2,2),("each",2,2)]
end L3
namespace L3
open PySem L2
section
variable {S:Store}
def hkv (acc:List (Str × Str)):List (Key × D):=acc.map fun x=>(.inr x.1, .str x.2)
end
end L3
namespace L3
open PySem L2
def lowS (s:Str):Bool:=s.cps.toList.all fun c=>decide (c<128)
inductive W (L B:Nat):D→Prop where
 |non:W L B .non
 |bl (b:Bool):W L B (.bl b)
 |int {i:Int} : -(1+(L:Int))≤i→i≤9973+(L:Int)→W L B (.int i)
 |str {s:Str} :s.length≤9+L→lowS s=true→W L B (.str s)
 |tup {l:List D} :l.length≤B→(∀ x ∈ l,W L B x)→W L B (.tup l)
 |lst {l:List D} :l.length≤B→(∀ x ∈ l,W L B x)→W L B (.lst l)
 |dic:W L B (.dic [] [])
end L3
namespace L3
open PySem L2
inductive C where
 |tok (s:List Nat)|nd (cs:List C)
end L3
namespace L3
open PySem L2
def T (l:List Nat):Str:=⟨l.toArray⟩
def dg (i:Int):List Nat:=(toString i).toList.map Char.toNat
theorem shape_giv {w:Str} {f mo:Nat} {g:Bool} (h:shape w=some (f,mo,g)):(w ∈ GIV↔g=true)∧(g=true→f=2∧mo=2):=by
 have all:WORDS.all (fun w=>match shape w with
  |some (f,mo,g)=>(decide (w ∈ GIV)==g)&&(!g || (decide (f=2)&&decide (mo=2)))
  |none=>true)=true:=by decide +kernel
 have:=List.all_eq_true.mp all w (shape_word h).1
 rw[h] at this
 simp only[Bool.and_eq_true,beq_iff_eq,Bool.or_eq_true,Bool.not_eq_true',decide_eq_true_eq] at this
 obtain⟨h1,h2⟩:=this
 refine⟨by rw[← h1];simp,fun hg=> ?_⟩
 rcases h2 with h2|h2
 ·rw[hg] at h2;cases h2
 ·exact h2
theorem Good.nd_word {w m:Str} {ps:List Tm} (h:Good (.nd w m ps)):w ∈ WORDS∧w≠ "num" ∧w≠ "name" ∧ps.length≤6∧(∀ p ∈ ps,Good p)∧(w ∈ GIV→NameOk m)∧(w ∉ GIV→m= "")∧¬(ps= [] ∧m≠ ""):=by
 cases h with
 | @nd w m ps f mo g hw hf hm hg hn hp=>
   have hs:=shape_word hw
   have hmo:=shape_most hw
   obtain⟨hgv,hg2⟩:=shape_giv hw
   refine⟨hs.1,hs.2.1,hs.2.2,by omega,hp,fun h=>hg (hgv.mp h),fun h=>hn ?_,?_⟩
   ·cases g with
    |false=>rfl
    |true=>exact absurd (hgv.mpr rfl) h
   ·rintro⟨rfl,hm0⟩
    cases g with
    |false=>exact hm0 (hn rfl)
    |true=>
     have:=(hg2 rfl).1
     simp at hf
     omega
end L3
namespace L3
open PySem L2
theorem sortOk_strs {l:List Str} (h:∀s ∈ l,PyData.strOk s=true) (hl:l.length≤1000):sortOk (l.map .str)=true:=by
 have tp:∀s ∈ l,toPy (.str s)=some (.str s):=fun s hs=>by simp[toPy,h s hs]
 have ec:∀s ∈ l,encD (.str s)= .str s:=fun s hs=>by simp[encD,tp s hs]
 simp only[sortOk,Bool.and_eq_true,List.all_eq_true,decide_eq_true_eq,Bool.or_eq_true]
 refine⟨⟨⟨small (by simpa using hl),fun d hd=> ?_⟩,fun d hd e he=> ?_⟩, .inl (.inr fun d hd=> ?_)⟩
 ·obtain⟨s,hs,rfl⟩:=List.mem_map.mp hd
  rw[tp s hs,ec s hs];exact⟨rfl,by simp[PyData.depth]⟩
 ·obtain⟨s,hs,rfl⟩:=List.mem_map.mp hd
  obtain⟨s',hs',rfl⟩:=List.mem_map.mp he
  rw[ec s hs,ec s' hs'];simp[PySem.W.alike]
 ·obtain⟨s,hs,rfl⟩:=List.mem_map.mp hd
  rw[ec s hs];rfl
end L3
namespace L3
open PySem L2
def NM7:List Str:= ["x","y","ab","zzzzzzzz","q","abc","w"]
end L3
namespace L3
open PySem L2
mutual
/-- the NAMEs asked and not given within -/
def freeL:Tm→List Str
 | .num _=> []
 | .nam s=> [s]
 | .nd w m ps=>freeI w m 0 ps
def freeI (w m:Str):Nat→List Tm→List Str
 | _,[] => []
 |j,p::ps=>(freeL p).filter (fun s=> !(decide (w ∈ GIV)&&(decide (j=1)&&decide (s=m))))++freeI w m (j+1) ps
end
end L3
namespace L3
open PySem L2
def upd (c:Str→Str) (m z:Str):Str→Str:=fun s=>if s=m then z else c s
inductive Tn:(Str→Str)→Tm→Tm→Prop where
 |num {c:Str→Str} (i:Int):Tn c (.num i) (.num i)
 |nam {c:Str→Str} (s:Str):Tn c (.nam s) (.nam (c s))
 |giv {c:Str→Str} {w m z:Str} {a b a' b':Tm} :w ∈ GIV→Tn c a a'→z ∈ NM7→z ∉ ((freeL b).filter fun s=> !decide (s=m)).map c→Tn (upd c m z) b b'→Tn c (.nd w m [a,b]) (.nd w z [a',b'])
 |nd {c:Str→Str} {w m:Str} {ps us qs:List Tm} :w ∉ GIV→ps.length=us.length→(∀ i (h:i<ps.length) (h':i<us.length),Tn c ps[i] us[i])→qs.Perm us→(isHeap w=false→qs=us)→Tn c (.nd w m ps) (.nd w m qs)
end L3
namespace L3
open PySem L2 PyProof.Rows
def kd:PyData→Nat
 | .none=>0
 | .int _=>1
 | .str _=>2
 | .tuple _=>3
 | .list _=>4
 | _=>5
end L3
namespace L3
open PySem L2
theorem at_parts {t u:Tm} {i:Nat} {q:List Nat} (h:t.at (i::q)=some u):∃w m ps p,t= .nd w m ps∧ps[i]? =some p∧p.at q=some u:=by
 cases t with
 |num _=>simp[Tm.at,Tm.parts] at h
 |nam _=>simp[Tm.at,Tm.parts] at h
 |nd w m ps=>
  simp only[Tm.at,Tm.parts] at h
  cases e:ps[i]? with
  |none=>rw[e] at h;cases h
  |some p=>rw[e] at h;exact⟨w,m,ps,p,rfl,e,h⟩
theorem at_good:∀ {q:List Nat} {t u:Tm},t.at q=some u→Good t→Good u
 | [],t,u,h,g=>by simp only[Tm.at,Option.some.injEq] at h;exact h▸g
 |i::q,t,u,h,g=>by
  obtain⟨w,m,ps,p,rfl,h1,h2⟩:=at_parts h
  exact at_good h2 (g.nd_word.2.2.2.2.1 p (List.mem_of_getElem? h1))
end L3
namespace L3
open PySem L2
abbrev Nx:=Str→List Nat ⊕ Str
def stepF (t:Tm) (p:List Nat) (i:Nat) (f:Nx):Nx:=match t with
 | .nd w m _=>if w ∈ GIV∧i=1 then fun s=>if s=m then .inl p else f s else f
 | _=>f
def outW:Tm→List Nat→List Nat→Nx→Nx
 | _,_,[],f=>f
 |t,p,i::q,f=>match t.parts[i]? with
  |some u=>outW u (p++ [i]) q (stepF t p i f)
  |none=>stepF t p i f
theorem at_lt6:∀ {q:List Nat} {t u:Tm},Good t→t.at q=some u→∀i ∈ q,i<6
 | [],_,_,_,_,i,h=>by cases h
 |j::q,t,u,g,h,i,hi=>by
  obtain⟨w,m,ps,p,rfl,h1,h2⟩:=at_parts h
  have hg:=g.nd_word
  rcases List.mem_cons.mp hi with rfl|hi
  ·have:=(List.getElem?_eq_some_iff.mp h1).1
   have:=hg.2.2.2.1
   omega
  ·exact at_lt6 (hg.2.2.2.2.1 p (List.mem_of_getElem? h1)) h2 i hi
end L3
namespace L3
open PySem L2
def lk:List (Str × Str)→Str→Str→Prop
 | [],x,y=>x=y
 |(p,q)::l,x,y=>(x=p∧y=q)∨(x≠p∧y≠q∧lk l x y)
end L3
namespace L3
open PySem L2
mutual
theorem free_nm {s:Str} :∀ {t:Tm},Good t→s ∈ freeL t→NameOk s
 | .num i,_,h=>by simp[freeL] at h
 | .nam x,g,h=>by
   simp only[freeL,List.mem_singleton] at h
   cases g with|nam hx=>exact h▸hx
 | .nd w m ps,g,h=>by
   cases g with
   |nd _ _ _ _ _ hp=>exact freeI_nm 0 hp (by simpa only[freeL] using h)
theorem freeI_nm {s w m:Str} :∀(j:Nat) {ps:List Tm},(∀ p ∈ ps,Good p)→s ∈ freeI w m j ps→NameOk s
 |j,[],_,h=>by simp[freeI] at h
 |j,p::ps,g,h=>by
  simp only[freeI,List.mem_append] at h
  rcases h with h|h
  ·exact free_nm (g p List.mem_cons_self) (List.mem_filter.mp h).1
  ·exact freeI_nm (j+1) (fun q hq=>g q (List.mem_cons_of_mem _ hq)) h
end
end L3
namespace L3
open PySem L2
def Mk (t:Tm) (f:Nx):Prop:=(∀ s g,f s= .inl g→∃w ps,t.at g=some (.nd w s ps))∧∀s z,f s= .inr z→z=s
def NotIn (q p:List Nat):Prop:=∀r,p=q++r→r= []
end L3
namespace L3
open PySem L2
variable {S:Store}
def ddS:List Str→List Str
 | [] => []
 |k::l=>if k ∈ l then ddS l else k::ddS l
theorem ddK_txt:∀l:List Str,ddK (l.map .text)=(ddS l).map .text
 | [] =>rfl
 |k::l=>by
  simp only[List.map_cons,ddK,ddS]
  have e:(NestedKey.text k ∈ l.map NestedKey.text)↔k ∈ l:=by simp
  by_cases h:k ∈ l
  ·rw[if_pos (e.mpr h),if_pos h,ddK_txt l]
  ·rw[if_neg (fun c=>h (e.mp c)),if_neg h,ddK_txt l];rfl
theorem ddS_mem:∀ {l:List Str} {x:Str},x ∈ ddS l↔x ∈ l
 | [],x=>by simp[ddS]
 |k::l,x=>by
  unfold ddS
  split
  ·rename_i h
   rw[ddS_mem (l:=l),List.mem_cons]
   exact⟨.inr,fun h'=>h'.elim (fun e=>e▸h) id⟩
  ·rw[List.mem_cons,List.mem_cons,ddS_mem (l:=l)]
theorem ddS_nodup:∀l:List Str,(ddS l).Nodup
 | [] =>by simp[ddS]
 |k::l=>by
  unfold ddS
  split
  ·exact ddS_nodup l
  ·rename_i h
   exact List.nodup_cons.mpr ⟨fun h'=>h (ddS_mem.mp h'),ddS_nodup l⟩
theorem ddS_self:∀ {l:List Str},l.Nodup→ddS l=l
 | [],_=>rfl
 |k::l,h=>by
  have:=List.nodup_cons.mp h
  unfold ddS
  rw[if_neg this.1,ddS_self this.2]
theorem ddS_len:∀l:List Str,(ddS l).length≤l.length
 | [] =>Nat.le_refl _
 |k::l=>by
  have:=ddS_len l
  unfold ddS
  split
  ·simp only[List.length_cons];omega
  ·simp only[List.length_cons];omega
def ltS (a b:Str):Prop:=a.cps.toList<b.cps.toList
instance (a b:Str):Decidable (ltS a b):=inferInstanceAs (Decidable (a.cps.toList<b.cps.toList))
def leS (a b:Str):Bool:= !decide (b.cps.toList<a.cps.toList)
theorem leS_tr (a b c:Str) (h1:leS a b=true) (h2:leS b c=true):leS a c=true:=by
 simp only[leS,Bool.not_eq_true',decide_eq_false_iff_not,List.not_lt] at*
 exact List.le_trans h1 h2
theorem leS_to (a b:Str):(leS a b || leS b a)=true:=by
 simp only[leS,Bool.or_eq_true,Bool.not_eq_true',decide_eq_false_iff_not,List.not_lt]
 exact List.le_total _ _
theorem leS_anti {a b:Str} (h1:leS a b=true) (h2:leS b a=true):a=b:=by
 simp only[leS,Bool.not_eq_true',decide_eq_false_iff_not,List.not_lt] at*
 exact PySem.W.str_of_cps (List.le_antisymm h1 h2)
theorem leS_ltS {a b:Str} (h:leS a b=true) (n:a≠b):ltS a b:=by
 by_cases c:ltS a b
 ·exact c
 ·exact absurd (leS_anti h (by simpa[leS,ltS] using c)) n
theorem srt_str {a b:Str} (ha:PyData.strOk a=true) (hb:PyData.strOk b=true):srtLe (.str a) (.str b)=leS a b:=by
 unfold srtLe
 rw[show encD (.str a)= .str a by simp[encD,toPy,ha],show encD (.str b)= .str b by simp[encD,toPy,hb]]
 rw[show PySem.W.dataLt (.str b) (.str a)=decide (b.cps.toList<a.cps.toList) from PySem.W.dataLt_str _ _]
 rfl
def ssT (l:List Str):List Str:=(ddS l).mergeSort leS
theorem ssT_mem {l:List Str} {x:Str} :x ∈ ssT l↔x ∈ l:=by unfold ssT;rw[List.mem_mergeSort];exact ddS_mem
theorem ssT_len (l:List Str):(ssT l).length≤l.length:=by unfold ssT;rw[List.length_mergeSort];exact ddS_len l
theorem ssT_asc (l:List Str):(ssT l).Pairwise ltS:=by
 have h1:(ssT l).Pairwise fun a b=>leS a b=true:=List.pairwise_mergeSort leS_tr leS_to _
 have h2:(ssT l).Nodup:=((List.mergeSort_perm (ddS l) leS).nodup_iff).mpr (ddS_nodup l)
 exact(h1.and h2).imp fun⟨a,b⟩=>leS_ltS a b
theorem sortSet_txt {x:D} {l:List Str} (hx:asL x S=some (l.map .str)) (h:∀s ∈ l,PyData.strOk s=true) (hl:l.length≤1000):sortSetO x S= .ok (.lst ((ssT l).map .str)) S:=by
 have nk:∀l:List Str,nkDL (l.map .str)=some (l.map .text):=fun l=>by
  induction l with
  |nil=>rfl
  |cons a l ih=>simp only[List.map_cons,nkDL,nkD,ih]
 have hd:∀s ∈ ddS l,PyData.strOk s=true:=fun s hs=>h s (ddS_mem.mp hs)
 have em:(ddK (l.map .text)).map kD=(ddS l).map .str:=by
  rw[ddK_txt,List.map_map];exact List.map_congr_left fun s _=>by simp[kD]
 have tp:∀s ∈ ddS l,toPy (.str s)=some (.str s):=fun s hs=>by simp[toPy,hd s hs]
 have ec:∀s ∈ ddS l,encD (.str s)= .str s:=fun s hs=>by simp[encD,tp s hs]
 have ok1:okSt ((ddK (l.map .text)).map kD)=true:=by
  rw[em]
  simp only[okSt,Bool.and_eq_true,List.all_eq_true,decide_eq_true_eq,Bool.or_eq_true]
  refine⟨⟨⟨small (by have:=ddS_len l;rw[List.length_map];omega),fun d hd=> ?_⟩,fun d hd e he=> ?_⟩, .inr fun d hd=> ?_⟩
  ·obtain⟨s,hs,rfl⟩:=List.mem_map.mp hd
   rw[tp s hs,ec s hs];exact⟨rfl,by simp[PyData.depth]⟩
  ·obtain⟨s,hs,rfl⟩:=List.mem_map.mp hd
   obtain⟨s',hs',rfl⟩:=List.mem_map.mp he
   rw[ec s hs,ec s' hs'];simp[PySem.W.alike]
  ·obtain⟨s,hs,rfl⟩:=List.mem_map.mp hd
   rw[ec s hs];rfl
 have ok2:noTie (ddK (l.map .text))=true:=by
  rw[ddK_txt]
  simp only[noTie,List.all_eq_true,Bool.or_eq_true,decide_eq_true_eq,Bool.not_eq_true']
  intro a ha b hb
  obtain⟨s,hs,rfl⟩:=List.mem_map.mp ha
  obtain⟨t,ht,rfl⟩:=List.mem_map.mp hb
  simp only[kD]
  rw[srt_str (hd s hs) (hd t ht),srt_str (hd t ht) (hd s hs)]
  by_cases c:(leS s t&&leS t s)=true
  ·simp only[Bool.and_eq_true] at c
   exact .inl (by rw[leS_anti c.1 c.2])
  ·exact .inr (by simpa using c)
 have ok:okSet (l.map .text)=true:=by
  simp only[okSet,Bool.and_eq_true,Bool.or_eq_true]
  refine⟨⟨.inl ⟨?_,by simp;omega⟩,okSd_of ok1⟩,ok2⟩
  simp[isTN]
 unfold sortSetO sortSetD
 simp only[hx,nk,ok,if_true]
 rw[em]
 congr 2
 unfold sortL ssT
 exact(List.map_mergeSort fun a ha b hb=>(srt_str (hd a ha) (hd b hb)).symm).symm
end L3
namespace L3
open PySem L2
variable {S:Store}
theorem asc_ext:∀ {l l':List Str},l.Pairwise ltS→l'.Pairwise ltS→(∀ x,x ∈ l↔x ∈ l')→l=l'
 | [],[],_,_,_=>rfl
 | [],b::l',_,_,h=>absurd ((h b).mpr List.mem_cons_self) (by simp)
 |a::l,[],_,_,h=>absurd ((h a).mp List.mem_cons_self) (by simp)
 |a::l,b::l',h1,h2,h=>by
  obtain⟨p1,p2⟩:=List.pairwise_cons.mp h1
  obtain⟨q1,q2⟩:=List.pairwise_cons.mp h2
  have irr:∀x:Str,¬ltS x x:=fun x c=>absurd c (List.lt_irrefl _)
  have asy:∀x y:Str,ltS x y→ltS y x→False:=fun x y c d=>irr x (List.lt_trans c d)
  have hab:a=b:=by
   rcases List.mem_cons.mp ((h a).mp List.mem_cons_self) with e|e
   ·exact e
   ·rcases List.mem_cons.mp ((h b).mpr List.mem_cons_self) with e'|e'
    ·exact e'.symm
    ·exact(asy _ _ (p1 b e') (q1 a e)).elim
  subst hab
  rw[asc_ext p2 q2 fun x=> ?_]
  constructor
  ·intro hx
   rcases List.mem_cons.mp ((h x).mp (List.mem_cons_of_mem _ hx)) with e|e
   ·subst e;exact absurd (p1 _ hx) (irr _)
   ·exact e
  ·intro hx
   rcases List.mem_cons.mp ((h x).mpr (List.mem_cons_of_mem _ hx)) with e|e
   ·subst e;exact absurd (q1 _ hx) (irr _)
   ·exact e
theorem ssT_ext {l l':List Str} (h:∀x,x ∈ l↔x ∈ l'):ssT l=ssT l':=asc_ext (ssT_asc l) (ssT_asc l') fun x=>by rw[ssT_mem,ssT_mem];exact h x
theorem freeI_iff (w m:Str) (s:Str):∀(j:Nat) (ps:List Tm),s ∈ freeI w m j ps↔∃i u,ps[i]? =some u∧s ∈ freeL u∧¬(w ∈ GIV∧j+i=1∧s=m)
 |j,[] =>by simp[freeI]
 |j,p::ps=>by
  simp only[freeI,List.mem_append,List.mem_filter,freeI_iff w m s (j+1) ps]
  constructor
  ·rintro(⟨h1,h2⟩|⟨i,u,h1,h2,h3⟩)
   ·refine⟨0,p,rfl,h1,?_⟩
    rintro⟨c1,c2,c3⟩
    simp[c1,c3,show j=1 by omega] at h2
   ·exact⟨i+1,u,h1,h2,fun⟨c1,c2,c3⟩=>h3 ⟨c1,by omega,c3⟩⟩
  ·rintro⟨i,u,h1,h2,h3⟩
   cases i with
   |zero=>
    simp only[List.getElem?_cons_zero,Option.some.injEq] at h1
    subst h1
    refine .inl ⟨h2,?_⟩
    by_cases c1:w ∈ GIV<;>by_cases c2:j=1<;>by_cases c3:s=m<;>simp[c1,c2,c3]
    exact h3 ⟨c1,by omega,c3⟩
   |succ i=>exact .inr ⟨i,u,by simpa using h1,h2,fun⟨c1,c2,c3⟩=>h3 ⟨c1,by omega,c3⟩⟩
def NN (kn:Kn):Prop:=∀k v,dGet kn k=some v→v≠ .non
theorem gives_giv {w m:Str} {ps:List Tm} :(Tm.nd w m ps).gives=if w ∈ GIV then some m else none:=by
 simp only[Tm.gives,GIV,List.mem_cons,List.not_mem_nil,or_false]
theorem knx_get {w m:Str} {ps:List Tm} {p:List Nat} {kn:Kn} {i:Nat} {s:Str} :dGet (knx (.nd w m ps) p kn i) (.inr s)=if w ∈ GIV∧i=1∧s=m then some (pl p) else dGet kn (.inr s):=by
 unfold knx
 rw[gives_giv]
 by_cases c1:w ∈ GIV
 ·rw[if_pos c1]
  simp only
  by_cases c2:i=1
  ·rw[if_pos c2,get_put]
   by_cases c3:s=m
   ·rw[if_pos (by rw[c3]),if_pos ⟨c1,c2,c3⟩]
   ·rw[if_neg (fun e=>c3 (keys_inj.mp e).symm),if_neg (fun e=>c3 e.2.2)]
  ·rw[if_neg c2,if_neg (fun e=>c2 e.2.1)]
 ·rw[if_neg c1,if_neg (fun e=>c1 e.1)]
theorem knx_nn {t:Tm} {p:List Nat} {kn:Kn} {i:Nat} (h:NN kn):NN (knx t p kn i):=fun k v e=>by
 unfold knx at e
 split at e
 ·split at e
  ·rw[get_put] at e
   split at e
   ·cases e;simp[pl]
   ·exact h k v e
  ·exact h k v e
 ·exact h k v e
mutual
theorem gv_free (s:Str):∀(t:Tm) (kn:Kn) (p:List Nat),NN kn→((∃ r,gv kn t p r=some (s, .non))↔s ∈ freeL t∧dGet kn (.inr s)=none)
 | .num i,kn,p,h=>by
   constructor
   ·rintro⟨r,hr⟩
    cases r with
    |nil=>simp[gv,Tm.name] at hr
    |cons j r=>simp[gv,Tm.parts] at hr
   ·rintro⟨h1,_⟩;simp[freeL] at h1
 | .nam x,kn,p,h=>by
   simp only[freeL,List.mem_singleton]
   constructor
   ·rintro⟨r,hr⟩
    cases r with
    |nil=>
     simp only[gv,Tm.name,Option.map_some,Option.some.injEq,Prod.mk.injEq] at hr
     obtain⟨rfl,h2⟩:=hr
     refine⟨rfl,?_⟩
     cases hq:dGet kn (.inr x) with
     |none=>rfl
     |some v=>rw[hq] at h2;exact absurd h2 (h _ _ hq)
    |cons j r=>simp[gv,Tm.parts] at hr
   ·rintro⟨rfl,h2⟩
    exact⟨[],by simp[gv,Tm.name,h2]⟩
 | .nd w m ps,kn,p,h=>by
   have hl:=gv_freeL s (.nd w m ps) kn p h 0 ps
   simp only[freeL]
   rw[freeI_iff]
   constructor
   ·rintro⟨r,hr⟩
    cases r with
    |nil=>simp[gv,Tm.name] at hr
    |cons i r=>
     simp only[gv,Tm.parts] at hr
     cases hu:ps[i]? with
     |none=>rw[hu] at hr;cases hr
     |some u=>
      rw[hu] at hr
      obtain⟨q1,q2⟩:=(hl i u hu).mp ⟨r,by rw[Nat.zero_add];exact hr⟩
      rw[knx_get] at q2
      split at q2
      ·cases q2
      ·rename_i c
       exact⟨⟨i,u,hu,q1,fun d=>c ⟨d.1,d.2.1,d.2.2⟩⟩,q2⟩
   ·rintro⟨⟨i,u,hu,q1,c⟩,q2⟩
    obtain⟨r,hr⟩:=(hl i u hu).mpr ⟨q1,by rw[knx_get,if_neg fun d=>c ⟨d.1,d.2.1,d.2.2⟩];exact q2⟩
    rw[Nat.zero_add] at hr
    exact⟨i::r,by simp only[gv,Tm.parts,hu,Option.bind_some];exact hr⟩
theorem gv_freeL (s:Str) (t:Tm) (kn:Kn) (p:List Nat) (h:NN kn):∀(j:Nat) (ps:List Tm) (i:Nat) (u:Tm),ps[i]? =some u→((∃ r,gv (knx t p kn (j+i)) u (p++ [j+i]) r=some (s, .non))↔s ∈ freeL u∧dGet (knx t p kn (j+i)) (.inr s)=none)
 |j,[],i,u,hu=>by simp at hu
 |j,q::ps,0,u,hu=>by
  simp only[List.getElem?_cons_zero,Option.some.injEq] at hu
  subst hu
  exact gv_free s q _ _ (knx_nn h)
 |j,q::ps,i+1,u,hu=>by
  have:=gv_freeL s t kn p h (j+1) ps i u (by simpa using hu)
  rw[show j+1+i=j+(i+1) by omega] at this
  exact this
end
theorem gv_free0 (s:Str) (t:Tm):(∃ r,gv [] t [] r=some (s, .non))↔s ∈ freeL t:=by
 rw[gv_free s t [] [] fun k v e=>by cases e]
 simp[dGet]
end L3
namespace L3
open PySem L2
variable {t u v:Tm} {p q:List Nat} {s:Str}
theorem stepF_nd (w m:Str) (ps:List Tm) (p:List Nat) (i:Nat) (f:Nx):stepF (.nd w m ps) p i f=if w ∈ GIV∧i=1 then(fun s=>if s=m then .inl p else f s) else f:=rfl
def KF (kn:Kn) (f:Nx):Prop:=∀s,dGet kn (.inr s)=match f s with
 | .inl g=>some (pl g)
 | .inr _=>none
theorem KF.nil:KF [] .inr:=fun s=>rfl
theorem KF.step {kn:Kn} {f:Nx} (h:KF kn f) (t:Tm) (pre:List Nat) (i:Nat):KF (knx t pre kn i) (stepF t pre i f):=fun s=>by
 cases t with
 |num _=>exact h s
 |nam _=>exact h s
 |nd w m ps=>
  rw[knx_get,stepF_nd]
  by_cases c1:w ∈ GIV∧i=1
  ·rw[if_pos c1]
   by_cases c2:s=m
   ·rw[if_pos ⟨c1.1,c1.2,c2⟩]
    show _=match(if s=m then Sum.inl pre else f s) with
     | .inl g=>some (pl g)
     | .inr _=>none
    rw[if_pos c2]
   ·rw[if_neg (fun e=>c2 e.2.2)]
    show _=match(if s=m then Sum.inl pre else f s) with
     | .inl g=>some (pl g)
     | .inr _=>none
    rw[if_neg c2];exact h s
  ·rw[if_neg (fun e=>c1 ⟨e.1,e.2.1⟩),if_neg c1];exact h s
theorem gv_path:∀(p:List Nat) (t u:Tm) (kn:Kn) (f:Nx) (pre:List Nat),KF kn f→t.at p=some u→∃kn',KF kn' (outW t pre p f)∧∀r,gv kn t pre (p++r)=gv kn' u (pre++p) r
 | [],t,u,kn,f,pre,h,e=>by
   simp only[Tm.at,Option.some.injEq] at e
   subst e
   exact⟨kn,h,fun r=>by simp⟩
 |i::p,t,u,kn,f,pre,h,e=>by
  simp only[Tm.at] at e
  cases hu:t.parts[i]? with
  |none=>rw[hu] at e;cases e
  |some a=>
   rw[hu] at e
   obtain⟨kn',h1,h2⟩:=gv_path p a u _ _ (pre++ [i]) (h.step t pre i) e
   refine⟨kn',by simp only[outW,hu];exact h1,fun r=> ?_⟩
   simp only[List.cons_append,gv,hu,Option.bind_some]
   rw[h2 r,List.append_assoc]
   rfl
theorem gv_to (s:Str) (d:D):∀(r:List Nat) (t:Tm) (kn:Kn) (P:List Nat),gv kn t P r=some (s,d)→(s ∈ freeL t∧d=(dGet kn (.inr s)).getD .non)∨∃r',d=pl (P++r')
 | [],t,kn,P,h=>by
   simp only[gv] at h
   cases t with
   |num _=>simp[Tm.name] at h
   |nd _ _ _=>simp[Tm.name] at h
   |nam x=>
    simp only[Tm.name,Option.map_some,Option.some.injEq,Prod.mk.injEq] at h
    obtain⟨rfl,rfl⟩:=h
    exact .inl ⟨by simp[freeL],rfl⟩
 |i::r,t,kn,P,h=>by
  simp only[gv] at h
  cases hu:t.parts[i]? with
  |none=>rw[hu] at h;cases h
  |some u=>
   rw[hu] at h
   rcases gv_to s d r u _ _ h with⟨h1,h2⟩|⟨r',h1⟩
   ·cases t with
    |num _=>simp[Tm.parts] at hu
    |nam _=>simp[Tm.parts] at hu
    |nd w m ps=>
     rw[knx_get] at h2
     by_cases c:w ∈ GIV∧i=1∧s=m
     ·rw[if_pos c] at h2
      exact .inr ⟨[],by rw[h2];simp⟩
     ·rw[if_neg c] at h2
      refine .inl ⟨?_,h2⟩
      simp only[freeL]
      rw[freeI_iff]
      exact⟨i,u,hu,h1,fun e=>c ⟨e.1,by omega,e.2.2⟩⟩
   ·exact .inr ⟨i::r',by rw[h1,List.append_assoc];rfl⟩
mutual
theorem gv_of (s:Str):∀(t:Tm) (kn:Kn) (P:List Nat),s ∈ freeL t→∃r,gv kn t P r=some (s,(dGet kn (.inr s)).getD .non)
 | .num i,kn,P,h=>by simp[freeL] at h
 | .nam x,kn,P,h=>by
   simp only[freeL,List.mem_singleton] at h
   subst h
   exact⟨[],rfl⟩
 | .nd w m ps,kn,P,h=>by
   simp only[freeL] at h
   rw[freeI_iff] at h
   obtain⟨i,u,hu,h1,c⟩:=h
   obtain⟨r,hr⟩:=gv_ofL s (.nd w m ps) kn P 0 ps i u hu h1
   rw[Nat.zero_add] at hr
   rw[knx_get,if_neg fun e=>c ⟨e.1,by omega,e.2.2⟩] at hr
   exact⟨i::r,by simp only[gv,Tm.parts,hu,Option.bind_some];exact hr⟩
theorem gv_ofL (s:Str) (t:Tm) (kn:Kn) (P:List Nat):∀(j:Nat) (ps:List Tm) (i:Nat) (u:Tm),ps[i]? =some u→s ∈ freeL u→∃r,gv (knx t P kn (j+i)) u (P++ [j+i]) r=some (s,(dGet (knx t P kn (j+i)) (.inr s)).getD .non)
 |j,[],i,u,hu,_=>by simp at hu
 |j,q::ps,0,u,hu,h=>by
  simp only[List.getElem?_cons_zero,Option.some.injEq] at hu
  subst hu
  exact gv_of s q _ _ h
 |j,q::ps,i+1,u,hu,h=>by
  have:=gv_ofL s t kn P (j+1) ps i u (by simpa using hu) h
  rw[show j+1+i=j+(i+1) by omega] at this
  exact this
end
theorem outW_short:∀(p:List Nat) (t:Tm) (pre:List Nat) (f:Nx),(∀ s g,f s= .inl g→g.length<pre.length+p.length)→∀s g,outW t pre p f s= .inl g→g.length<pre.length+p.length
 | [],t,pre,f,h,s,g,e=>h s g e
 |i::p,t,pre,f,h,s,g,e=>by
  have st:∀s g,stepF t pre i f s= .inl g→g.length<pre.length+(i::p).length:=fun s g e=>by
   cases t with
   |num _=>exact h s g e
   |nam _=>exact h s g e
   |nd w m ps=>
    rw[stepF_nd] at e
    by_cases c1:w ∈ GIV∧i=1
    ·rw[if_pos c1] at e
     have e:(if s=m then Sum.inl pre else f s)=Sum.inl g:=e
     split at e
     ·cases e;simp
     ·exact h s g e
    ·rw[if_neg c1] at e
     exact h s g e
  simp only[outW] at e
  cases hu:t.parts[i]? with
  |some u=>
   rw[hu] at e
   have:=outW_short p u (pre++ [i]) _ (fun s g e=>by
    have:=st s g e
    simp only[List.length_append,List.length_cons,List.length_nil] at this ⊢;omega) s g e
   simp only[List.length_append,List.length_cons,List.length_nil] at this ⊢;omega
  |none=>rw[hu] at e;exact st s g e
def gvD (t:Tm) (p:List Nat) (s:Str):D:=match outW t [] p .inr s with
 | .inl g=>pl g
 | .inr _=> .non
theorem asked_iff (h:t.at p=some u) (s:Str) (d:D):((∃ r,gv [] t [] (p++r)=some (s,d))∧(d= .non∨∃g,d=pl g∧∀r,g≠p++r))↔s ∈ freeL u∧d=gvD t p s:=by
 obtain⟨kn',h1,h2⟩:=gv_path p t u [] .inr [] KF.nil h
 have hd:(dGet kn' (.inr s)).getD .non=gvD t p s:=by
  rw[h1 s]
  unfold gvD
  cases outW t [] p .inr s<;>rfl
 have pl_inj:∀a b:List Nat,pl a=pl b→a=b:=fun a b e=>by
  have:=congrArg tkOf e
  rw[tk_pl,tk_pl] at this
  exact key_inj (Option.some.inj this)
 constructor
 ·rintro⟨⟨r,hr⟩,hc⟩
  rw[h2 r] at hr
  rcases gv_to s d r u kn' _ hr with⟨a,b⟩|⟨r',b⟩
  ·exact⟨a,by rw[b,hd]⟩
  ·exfalso
   rcases hc with rfl|⟨g,hg,hn⟩
   ·simp[pl] at b
   ·rw[b] at hg
    exact hn r' (by rw[← pl_inj _ _ hg];simp)
 ·rintro⟨a,rfl⟩
  obtain⟨r,hr⟩:=gv_of s u kn' ([] ++p) a
  rw[← h2 r,hd] at hr
  refine⟨⟨r,hr⟩,?_⟩
  unfold gvD
  cases e:outW t [] p .inr s with
  |inr z=>exact .inl rfl
  |inl g=>
   refine .inr ⟨g,rfl,fun r' e'=> ?_⟩
   have:=outW_short p t [] .inr (fun s g e=>by cases e) s g e
   rw[e'] at this
   simp only[List.length_append,List.length_nil] at this
   omega
end L3
namespace L3
open PySem L2
variable {S:Store}
def gD:Option (List Nat)→D
 |none=> .non
 |some g=>pl g
abbrev PrG:=Str × Option (List Nat)
def prD (a:PrG):D:= .tup [.str a.1,gD a.2]
def gK:Option (List Nat)→NestedKey
 |none=> .none
 |some g=> .tup (g.map fun i:Nat=> .num (i:Int))
def prK (a:PrG):NestedKey:= .tup [.text a.1,gK a.2]
def gPy:Option (List Nat)→PyData
 |none=> .none
 |some g=> .tuple (g.map fun i:Nat=> .int (i:Int))
theorem kDL_nums (g:List Nat):kDL (g.map fun i:Nat=>NestedKey.num (i:Int))=g.map fun i:Nat=>D.int (i:Int):=by
 induction g with
 |nil=>rfl
 |cons a g ih=>simp only[List.map_cons,kDL,kD,ih]
theorem kD_g (g:Option (List Nat)):kD (gK g)=gD g:=by
 cases g with
 |none=>simp only[gK,kD,gD]
 |some g=>simp only[gK,kD,kDL_nums,gD,pl]
theorem kD_pr (a:PrG):kD (prK a)=prD a:=by simp only[prK,kD,kDL,kD_g,prD]
theorem nkDL_nums (g:List Nat):nkDL (g.map fun i:Nat=>D.int (i:Int))=some (g.map fun i:Nat=>NestedKey.num (i:Int)):=by
 induction g with
 |nil=>rfl
 |cons a g ih=>simp only[List.map_cons,nkDL,nkD,ih]
theorem nk_g (g:Option (List Nat)):nkD (gD g)=some (gK g):=by
 cases g with
 |none=>rfl
 |some g=>simp only[gD,pl,nkD,nkDL_nums,Option.map_some,gK]
theorem nk_pr (a:PrG):nkD (prD a)=some (prK a):=by simp only[prD,nkD,nkDL,nk_g,Option.map_some,prK]
theorem nkL_pr (l:List PrG):nkDL (l.map prD)=some (l.map prK):=by
 induction l with
 |nil=>rfl
 |cons a l ih=>simp only[List.map_cons,nkDL,nk_pr,ih]
theorem toPyL_nums (g:List Nat):toPyL (g.map fun i:Nat=>D.int (i:Int))=some (g.map fun i:Nat=>PyData.int (i:Int)):=by
 induction g with
 |nil=>rfl
 |cons a g ih=>simp only[List.map_cons,toPyL,toPy,ih]
theorem py_g (g:Option (List Nat)):toPy (gD g)=some (gPy g):=by
 cases g with
 |none=>rfl
 |some g=>simp only[gD,pl,toPy,toPyL_nums,Option.map_some,gPy]
theorem py_pr {a:PrG} (h:PyData.strOk a.1=true):toPy (prD a)=some (.tuple [.str a.1,gPy a.2]):=by
 simp only[prD,toPy,toPyL,h,if_true,py_g,Option.map_some]
theorem depth_nums (g:List Nat):PyData.depthAll (g.map fun i:Nat=>PyData.int (i:Int))=0:=by
 induction g with
 |nil=>simp[PyData.depthAll]
 |cons a g ih=>simp[PyData.depthAll,PyData.depth,ih]
theorem alike_nums:∀(g:List Nat),PySem.W.alikeAll (g.map fun i:Nat=>PyData.int (i:Int)) (g.map fun i:Nat=>PyData.int (i:Int))=true
 | [] =>rfl
 |a::g=>by simp only[List.map_cons,PySem.W.alikeAll,PySem.W.alike,alike_nums g,Bool.and_self]
theorem alike_pr (a:PrG):PySem.W.alike (.tuple [.str a.1,gPy a.2]) (.tuple [.str a.1,gPy a.2])=true:=by
 have:PySem.W.alike (gPy a.2) (gPy a.2)=true:=by
  cases a.2 with
  |none=>rfl
  |some g=>simp only[gPy,PySem.W.alike,alike_nums]
 simp only[PySem.W.alike,PySem.W.alikeAll,this,Bool.and_self]
theorem ddK_len:∀l:List NestedKey,(ddK l).length≤l.length
 | [] =>Nat.le_refl _
 |k::l=>by
  have:=ddK_len l
  unfold ddK
  split
  ·simp only[List.length_cons];omega
  ·simp only[List.length_cons];omega
theorem lt_firsts {a b:Str} (h:a≠b) (r r':List PyData):PySem.W.dataLt (.tuple (.str a::r)) (.tuple (.str b::r'))=PySem.W.dataLt (.str a) (.str b):=by
 rw[PySem.W.dataLt_tuple,PySem.W.dataLt_all_no (x:= .str a) (y:= .str b) rfl (by simp[PyData.eqv,h])]
end L3
namespace L3
open PySem L2
variable {S:Store}
def leP (a b:PrG):Bool:=leS a.1 b.1
theorem cut_pr:∀(l:List NestedKey) (P:PrG→Prop),(∀ k ∈ l,∃a,P a∧k=prK a)→∃L:List PrG,l=L.map prK∧∀a ∈ L,P a
 | [],P,_=>⟨[],rfl,by simp⟩
 |k::l,P,h=>by
  obtain⟨a,pa,rfl⟩:=h k List.mem_cons_self
  obtain⟨L,h1,h2⟩:=cut_pr l P fun k hk=>h k (List.mem_cons_of_mem _ hk)
  exact⟨a::L,by simp[h1],fun b hb=>(List.mem_cons.mp hb).elim (fun e=>e▸pa) (h2 b)⟩
theorem canon {L:List PrG} {g:Str→D} (hg:∀a ∈ L,prD a=g a.1) (nd:(L.map (·.1)).Nodup):(L.mergeSort leP).map prD=(ssT (L.map (·.1))).map g:=by
 have e1:(L.mergeSort leP).map prD=((L.mergeSort leP).map (·.1)).map g:=by
  rw[List.map_map]
  exact List.map_congr_left fun a ha=>hg a (List.mem_mergeSort.mp ha)
 have e2:(L.mergeSort leP).map (·.1)=(L.map (·.1)).mergeSort leS:=List.map_mergeSort (f:=fun a:PrG=>a.1) fun a _ b _=>rfl
 rw[e1,e2]
 unfold ssT
 rw[ddS_self nd]
theorem srt_pr {a b:PrG} (ha:PyData.strOk a.1=true) (hb:PyData.strOk b.1=true) (c:a.1≠b.1):srtLe (prD a) (prD b)=leS a.1 b.1:=by
 have enc:∀a:PrG,PyData.strOk a.1=true→encD (prD a)= .tuple [.str a.1,gPy a.2] :=fun a ha=>by unfold encD;rw[py_pr ha];rfl
 rw[← srt_str ha hb]
 unfold srtLe
 rw[enc a ha,enc b hb,lt_firsts (fun e=>c e.symm)]
 rw[show encD (.str a.1)= .str a.1 by simp[encD,toPy,ha],show encD (.str b.1)= .str b.1 by simp[encD,toPy,hb]]
theorem srt_refl (a:D):srtLe a a=true:=by
 unfold srtLe PySem.W.dataLt
 rw[PyProof.Rows.lex_irrefl];rfl
theorem sort_prs2 {l:List PrG} {g:Str→D} (hn:∀a ∈ l,PyData.strOk a.1=true) (hl:l.length<64) (hg:∀a ∈ l,prD a=g a.1) (hu:∀a ∈ l,∀b ∈ l,a.1=b.1→a=b):sortSetD (.lst (l.map prD)) S= .ok (.lst ((ssT (l.map (·.1))).map g)) S:=by
 have mm:∀k ∈ ddK (l.map prK),∃a ∈ l,k=prK a:=fun k hk=>by
  obtain⟨a,ha,e⟩:=List.mem_map.mp (ddK_mem.mp hk)
  exact⟨a,ha,e.symm⟩
 have enc:∀a ∈ l,encD (prD a)= .tuple [.str a.1,gPy a.2] :=fun a ha=>by unfold encD;rw[py_pr (hn a ha)];rfl
 have md:∀d ∈ (ddK (l.map prK)).map kD,∃a ∈ l,d=prD a:=fun d hd=>by
  obtain⟨k,hk,rfl⟩:=List.mem_map.mp hd
  obtain⟨a,ha,rfl⟩:=mm k hk
  exact⟨a,ha,kD_pr a⟩
 have dl:=ddK_len (l.map prK)
 rw[List.length_map] at dl
 have fs:okFs ((ddK (l.map prK)).map kD)=true:=by
  simp only[okFs,Bool.and_eq_true,List.all_eq_true,decide_eq_true_eq,Bool.or_eq_true]
  refine⟨⟨⟨small (by rw[List.length_map];omega),fun d hd=> ?_⟩,fun d hd=> ?_⟩,fun d hd d' hd'=> ?_⟩
  ·obtain⟨a,ha,rfl⟩:=md d hd
   refine⟨by rw[py_pr (hn a ha)];rfl,?_⟩
   rw[enc a ha]
   cases a.2 with
   |none=>simp[gPy,PyData.depth,PyData.depthAll]
   |some g=>simp[gPy,PyData.depth,PyData.depthAll,depth_nums]
  ·obtain⟨a,ha,rfl⟩:=md d hd
   rw[enc a ha];rfl
  ·obtain⟨a,ha,rfl⟩:=md d hd
   obtain⟨b,hb,rfl⟩:=md d' hd'
   rw[enc a ha,enc b hb]
   by_cases c:a.1=b.1
   ·have:=hu a ha b hb c
    subst this
    exact .inl (alike_pr a)
   ·right
    simp only[fstT]
    exact fun e=>c (Option.some.inj e)
 have tie:noTie (ddK (l.map prK))=true:=by
  simp only[noTie,List.all_eq_true,Bool.or_eq_true,decide_eq_true_eq,Bool.not_eq_true']
  intro k hk k' hk'
  obtain⟨a,ha,rfl⟩:=mm k hk
  obtain⟨b,hb,rfl⟩:=mm k' hk'
  by_cases c:a.1=b.1
  ·exact .inl (by rw[hu a ha b hb c])
  ·right
   rw[kD_pr,kD_pr]
   have e1:srtLe (prD a) (prD b)=leS a.1 b.1:=by
    rw[← srt_str (hn a ha) (hn b hb)]
    unfold srtLe
    rw[enc a ha,enc b hb,lt_firsts (fun e=>c e.symm)]
    rw[show encD (.str a.1)= .str a.1 by simp[encD,toPy,hn a ha],show encD (.str b.1)= .str b.1 by simp[encD,toPy,hn b hb]]
   have e2:srtLe (prD b) (prD a)=leS b.1 a.1:=by
    rw[← srt_str (hn b hb) (hn a ha)]
    unfold srtLe
    rw[enc a ha,enc b hb,lt_firsts c]
    rw[show encD (.str a.1)= .str a.1 by simp[encD,toPy,hn a ha],show encD (.str b.1)= .str b.1 by simp[encD,toPy,hn b hb]]
   rw[e1,e2]
   by_cases d:(leS a.1 b.1&&leS b.1 a.1)=true
   ·simp only[Bool.and_eq_true] at d
    exact absurd (leS_anti d.1 d.2) c
   ·simpa using d
 have depth_nk:∀g:List Nat,NestedKey.depthAll (g.map fun i:Nat=>NestedKey.num (i:Int))=0:=fun g=>by
  induction g with
  |nil=>simp[NestedKey.depthAll]
  |cons a g ih=>simp[NestedKey.depthAll,NestedKey.depth,ih]
 have ok:okSet (l.map prK)=true:=by
  simp only[okSet,Bool.and_eq_true,Bool.or_eq_true,List.all_eq_true,decide_eq_true_eq]
  refine⟨⟨.inr ⟨⟨fun k hk=> ?_,fun k hk=> ?_⟩,by rw[List.length_map];omega⟩,okSd_fs fs⟩,tie⟩
  ·obtain⟨a,ha,rfl⟩:=List.mem_map.mp hk;rfl
  ·obtain⟨a,ha,rfl⟩:=List.mem_map.mp hk
   unfold prK
   cases a.2 with
   |none=>simp[gK,NestedKey.depth,NestedKey.depthAll]
   |some g=>simp[gK,NestedKey.depth,NestedKey.depthAll,depth_nk]
 have res:sortL ((ddK (l.map prK)).map kD)=(ssT (l.map (·.1))).map g:=by
  obtain⟨L,e1,e2⟩:=cut_pr (ddK (l.map prK)) (fun a=>a ∈ l) fun k hk=>by
   obtain⟨a,ha,e⟩:=mm k hk
   exact⟨a,ha,e⟩
  have nd0:=ddK_nodup (l.map prK)
  have nd:(L.map (·.1)).Nodup:=by
   rw[e1] at nd0
   refine List.pairwise_map.mpr ((List.pairwise_map.mp nd0).imp_of_mem fun {a b} ha hb ne e=>ne ?_)
   rw[hu a (e2 a ha) b (e2 b hb) e]
  have e3:(ddK (l.map prK)).map kD=L.map prD:=by
   rw[e1,List.map_map]
   exact List.map_congr_left fun a _=>kD_pr a
  rw[e3]
  have e4:sortL (L.map prD)=(L.mergeSort leP).map prD:=by
   unfold sortL
   refine(List.map_mergeSort (f:=prD) fun a ha b hb=> ?_).symm
   by_cases c:a.1=b.1
   ·have:=hu a (e2 a ha) b (e2 b hb) c
    subst this
    rw[srt_refl]
    have:=leS_to a.1 a.1
    unfold leP
    simpa using this
   ·exact(srt_pr (hn a (e2 a ha)) (hn b (e2 b hb)) c).symm
  rw[e4,canon (fun a ha=>hg a (e2 a ha)) nd]
  congr 1
  refine ssT_ext fun x=> ?_
  simp only[List.mem_map]
  constructor
  ·rintro⟨a,ha,rfl⟩;exact⟨a,e2 a ha,rfl⟩
  ·rintro⟨a,ha,rfl⟩
   have:prK a ∈ ddK (l.map prK):=ddK_mem.mpr (List.mem_map_of_mem ha)
   rw[e1] at this
   obtain⟨b,hb,e⟩:=List.mem_map.mp this
   refine⟨b,hb,?_⟩
   have:=congrArg kD e
   rw[kD_pr,kD_pr] at this
   simp only[prD,D.tup.injEq,List.cons.injEq,D.str.injEq] at this
   exact this.1
 unfold sortSetD
 simp only[nkL_pr,ok,if_true,res]
theorem sortKL_prs {L:List PrG} {g:Str→D} (hg:∀a ∈ L,prD a=g a.1) (nd:(L.map (·.1)).Nodup):sortKL (L.map prD)=(ssT (L.map (·.1))).map g:=by
 rw[← canon hg nd]
 unfold sortKL
 refine(List.map_mergeSort (f:=prD) fun a ha b hb=> ?_).symm
 rw[PySem.W.dataLe_eq]
 show leP a b=(!PySem.W.dataLt (keyS (prD b)) (keyS (prD a)))
 have:∀a:PrG,keyS (prD a)= .str a.1:=fun a=>by simp[keyS,firstS,prD]
 rw[this,this,PySem.W.dataLt_str]
 rfl
end L3
namespace K05
open PySem L2 L3
variable {S S' S1:Store} {n m k:Nat} {t u:Tm} {p q:List Nat}
theorem eqPl (a b:List Nat) (S:Store):eqD (pl a) (pl b) S= .ok (.bl (decide (a=b))) S:=by
 have h1:∀a:List Nat,toPy (deref (pl a) S)=some (.tuple (a.map fun i:Nat=> .int (i:Int))):=fun a=>by simp only[pl,deref,toPy,toPyL_nums,Option.map_some]
 rw[eqD_py (h1 a) (h1 b) (by simp[PyData.depth,depth_nums])]
 have:∀a b:List Nat,PyData.eqvAll (a.map fun i:Nat=>PyData.int (i:Int)) (b.map fun i:Nat=>PyData.int (i:Int))=decide (a=b):=by
  intro a
  induction a with
  |nil=>intro b;cases b<;>simp[PyData.eqvAll]
  |cons x a ih=>
   intro b
   cases b with
   |nil=>simp[PyData.eqvAll]
   |cons y b=>
    simp only[List.map_cons,PyData.eqvAll,PyData.eqv,ih b]
    by_cases h1:x=y<;>by_cases h2:a=b<;>simp[h1,h2] <;>omega
 simp only[PyData.eqv,this]
def wi (a b:List Nat):Bool:=decide (a.take b.length=b)
theorem wi_iff {a b:List Nat} :wi a b=true↔∃r,a=b++r:=by
 unfold wi
 rw[decide_eq_true_eq]
 constructor
 ·intro h;exact⟨a.drop b.length,by rw[← List.take_append_drop b.length a,h];simp[h]⟩
 ·rintro⟨r,rfl⟩;simp
theorem cut_any (l:List D) (i:Nat):cutL l none (some (i:Int))=l.take i:=by
 unfold cutL
 rw[HT.sIx_none,HT.sIx_nat]
 simp only[List.drop_zero,Nat.sub_zero]
 rw[Nat.min_comm]
 exact List.take_eq_take_min.symm▸by simp[List.take_eq_take_min,Nat.min_comm]
theorem within_ok (k:Nat) (a b:List Nat) (S:Store):Fs (k+1) 3 [pl a,pl b] S= .ok (.bl (wi a b)) S:=by
 apply of_sat
 rw[Fs_is_within,sat_run]
 refine⟨rfl,?_⟩
 unfold m_is_within
 have hl:lenD [pl b] S= .ok (.int (b.length:Nat)) S:=by
  apply of_sat
  unfold pl
  rw[len_tup,sat_ok,List.length_map]
  exact⟨rfl,rfl⟩
 simp only[ssat_sRet,sat_e2,sat_eSl,sat_pNo,sat_pYes,sat_eN,sat_aCons,sat_aNil,sat_eVar,List.map_cons,List.map_nil,List.cons_append,List.nil_append,List.getElem?_cons_succ,List.getElem?_cons_zero,hl,sat_ok]
 refine⟨b.length,rfl,?_⟩
 have e:slD (pl a) none (some ((b.length:Nat):Int)) S= .ok (pl (a.take b.length)) S:=by
  unfold pl
  rw[L3.sl_tup,cut_any,←List.map_take]
 rw[e,sat_ok,eqPl,sat_ok]
 exact⟨rfl,rfl⟩
structure En where
 q:List Nat
 s:Str
 g:Option (List Nat)
def En.e (x:En):List Key × D:=(key x.q,gD x.g)
def En.pr (x:En):PrG:=(x.s,x.g)
def En.c (p:List Nat) (x:En):Bool:=wi x.q p&&(match x.g with
 |none=>true
 |some g=> !wi g p)
theorem ens:∀(l:List (List Key × D)) (P:En→Prop),(∀ e ∈ l,∃x:En,e=x.e∧P x)→∃es:List En,l=es.map En.e∧∀x ∈ es,P x
 | [],P,_=>⟨[],rfl,by simp⟩
 |e::l,P,h=>by
  obtain⟨x,hx,px⟩:=h e List.mem_cons_self
  obtain⟨es,h1,h2⟩:=ens l P fun e he=>h e (List.mem_cons_of_mem _ he)
  exact⟨x::es,by simp[hx,h1],fun y hy=>(List.mem_cons.mp hy).elim (fun c=>c▸px) (h2 y)⟩
theorem asked_loop {a n1:Nat} {F:List (List Key × D)} {fs:List (Str × D)} (h1:S[a]? =some (.ins "Scopes" fs)) (h2:fs.lookup ("names" :Str)=some (.obj n1)) (h3:S[n1]? =some (.dT F)):∀(es:List En),(∀ x ∈ es,dGet F (key x.q)=some (.str x.s))→∀ {Q:List D→Store→Prop},Q (((es.filter (En.c p)).map En.pr).map prD) S→
 lcSat (L3.gTup [3,2]) (tAnd (tTruth (eN (callK (Fs (k+1) 3) []) (aCons (eVar 3) (aCons (eVar 1) (aNil))))) (tOr (tOfE (e2 isNonD (eVar 2) (eK .non))) (tNot (tTruth (eN (callK (Fs (k+1) 3) []) (aCons (eVar 2) (aCons (eVar 1) (aNil)))))))) (eN mkTup (aCons (e2 ixD (e1 (fldD ["Scopes"] "names") (eVar 0)) (eVar 3)) (aCons (eVar 2) (aNil)))) [some (.obj a),some (pl p),none,none] (prsT (es.map En.e)) S Q
 | [],_,Q,hQ=>hQ
 |x::es,hl,Q,hQ=>by
  have ih:=fun {Q:List D→Store→Prop} =>asked_loop h1 h2 h3 es (fun y hy=>hl y (List.mem_cons_of_mem _ hy)) (Q:=Q)
  have e2':=hl x List.mem_cons_self
  have ek:D.tup ((key x.q).map keyD)=pl x.q:=by
   simp only[key,pl,List.map_map]
   congr 1
  simp only[prsT,List.map_cons,En.e]
  rw[ek]
  unfold lcSat
  simp only[gTup_tup,gNames_cons,gNames_nil,List.set_cons_succ,List.set_cons_zero,sat_tAnd,sat_tOr,sat_tNot,sat_tTruth,sat_tOfE,sat_e2,sat_e1,sat_eN,sat_aCons,sat_aNil,sat_eVar,sat_eK,List.getElem?_cons_succ,List.getElem?_cons_zero,callK_eq,List.append_nil]
  rw[within_ok,sat_ok,truthD_bl,sat_ok]
  have yes:∀ {Q:List D→Store→Prop},x.c p=true→Q (((((x::es).filter (En.c p)).map En.pr).map prD)) S→(fldD ["Scopes"] "names" (.obj a) S).sat fun y S4=>(ixD y (pl x.q) S4).sat fun z S5=>(mkTup [z,gD x.g] S5).sat fun y S3=>lcSat (L3.gTup [3,2]) (tAnd (tTruth (eN (callK (Fs (k+1) 3) []) (aCons (eVar 3) (aCons (eVar 1) (aNil))))) (tOr (tOfE (e2 isNonD (eVar 2) (eK .non))) (tNot (tTruth (eN (callK (Fs (k+1) 3) []) (aCons (eVar 2) (aCons (eVar 1) (aNil)))))))) (eN mkTup (aCons (e2 ixD (e1 (fldD ["Scopes"] "names") (eVar 0)) (eVar 3)) (aCons (eVar 2) (aNil)))) [some (.obj a),some (pl p),none,none] (prsT (es.map En.e)) S3 fun ys S4=>Q (y::ys) S4:=by
   intro Q hc hQ
   rw[fld_eq h1 (by simp) h2,sat_ok]
   have eg:ixD (.obj n1) (pl x.q) S= .ok (.str x.s) S:=by simp only[ixD,h3,tk_pl,e2']
   rw[eg,sat_ok,sat_mkTup]
   refine⟨of_eq_true sz2,ih ?_⟩
   rw[List.filter_cons_of_pos hc] at hQ
   exact hQ
  have no:∀ {Q:List D→Store→Prop},x.c p=false→Q (((((x::es).filter (En.c p)).map En.pr).map prD)) S→Q ((((es.filter (En.c p)).map En.pr).map prD)) S:=by
   intro Q hc hQ
   rw[List.filter_cons_of_neg (by simp[hc])] at hQ
   exact hQ
  cases hw:wi x.q p with
  |false=>
   rw[if_neg (by simp)]
   simp only[sat_ok,Bool.false_eq_true,if_false]
   exact ih (no (by simp[En.c,hw]) hQ)
  |true=>
   rw[if_pos rfl]
   cases hg:x.g with
   |none=>
    rw[show isNonD (gD none) .non S= .ok (.bl true) S from rfl,sat_ok,blD_bl,sat_ok,if_pos rfl]
    simp only[if_true]
    have:=yes (by simp[En.c,hw,hg]) hQ
    rw[hg] at this
    exact this
   |some g=>
    rw[show isNonD (gD (some g)) .non S= .ok (.bl false) S from rfl,sat_ok,blD_bl,sat_ok,if_neg (by simp)]
    rw[show gD (some g)=pl g from rfl,within_ok,sat_ok,truthD_bl,sat_ok]
    cases hw2:wi g p with
    |false=>
     simp only[Bool.not_false,if_true]
     have:=yes (by simp[En.c,hw,hg,hw2]) hQ
     rw[hg] at this
     exact this
    |true=>
     simp only[Bool.not_true,Bool.false_eq_true,if_false]
     exact ih (no (by simp[En.c,hw,hg,hw2]) hQ)
end K05
namespace K05
open PySem L2 L3
variable {S S' S1:Store} {n m k:Nat} {t u:Tm} {p q:List Nat}
structure Ext (S S':Store):Prop where
 le:S.length≤S'.length
 fr:∀(i:Nat) (ob:O),S[i]? =some ob→S'[i]? =some ob
def KT (kn:Kn):Prop:=∀k v,dGet kn k=some v→∃q,v=pl q
theorem knx_kt {t:Tm} {p:List Nat} {kn:Kn} {i:Nat} (h:KT kn):KT (knx t p kn i):=fun k v e=>by
 unfold knx at e
 split at e
 ·split at e
  ·rw[get_put] at e
   split at e
   ·cases e;exact⟨_,rfl⟩
   ·exact h k v e
  ·exact h k v e
 ·exact h k v e
theorem gv_val:∀(r:List Nat) (t:Tm) (kn:Kn) (p:List Nat) (s:Str) (d:D),KT kn→gv kn t p r=some (s,d)→∃g,d=gD g
 | [],t,kn,p,s,d,h,e=>by
   simp only[gv] at e
   cases hn:t.name with
   |none=>rw[hn] at e;cases e
   |some x=>
    rw[hn] at e
    simp only[Option.map_some,Option.some.injEq,Prod.mk.injEq] at e
    rw[← e.2]
    cases hq:dGet kn (.inr x) with
    |none=>exact⟨none,rfl⟩
    |some v=>
     obtain⟨q,hv⟩:=h _ _ hq
     exact⟨some q,by rw[hv];rfl⟩
 |i::r,t,kn,p,s,d,h,e=>by
  simp only[gv] at e
  cases hu:t.parts[i]? with
  |none=>rw[hu] at e;cases e
  |some u=>rw[hu] at e;exact gv_val r u _ _ s d (knx_kt h) e
theorem dGet_cons {κ :Type} [DecidableEq κ] {p: κ × D} {l:List (κ × D)} {k: κ} :dGet (p::l) k=if p.1=k then some p.2 else dGet l k:=by
 unfold dGet
 rw[List.find?_cons]
 by_cases h:p.1=k<;>simp[h]
theorem dGet_of {κ :Type} [DecidableEq κ] :∀ {l:List (κ × D)} {e: κ × D},(l.map (·.1)).Nodup→e ∈ l→dGet l e.1=some e.2
 |p::l,e,hn,he=>by
  obtain⟨n1,n2⟩:=List.nodup_cons.mp (by simpa using hn:(p.1::l.map (·.1)).Nodup)
  rw[dGet_cons]
  rcases List.mem_cons.mp he with rfl|he
  ·rw[if_pos rfl]
  ·have:p.1≠e.1:=fun c=>n1 (c▸List.mem_map_of_mem he)
   rw[if_neg this]
   exact dGet_of n2 he
theorem dGet_in {κ :Type} [DecidableEq κ] :∀ {l:List (κ × D)} {k: κ} {d:D},dGet l k=some d→(k,d) ∈ l
 |p::l,k,d,h=>by
  rw[dGet_cons] at h
  split at h
  ·rename_i c
   obtain⟨a,b⟩:=p
   simp only at c h
   rw[← c,←Option.some.inj h]
   exact List.mem_cons_self
  ·exact List.mem_cons_of_mem _ (dGet_in h)
theorem gD_inj {a b:Option (List Nat)} (h:gD a=gD b):a=b:=by
 have pl_inj:∀a b:List Nat,pl a=pl b→a=b:=fun a b e=>by
  have:=congrArg tkOf e
  rw[tk_pl,tk_pl] at this
  exact key_inj (Option.some.inj this)
 cases a with
 |none=>cases b with
  |none=>rfl
  |some b=>simp[gD,pl] at h
 |some a=>cases b with
  |none=>simp[gD,pl] at h
  |some b=>rw[pl_inj a b h]
def prU (t:Tm) (p:List Nat) (s:Str):D:= .tup [.str s,gvD t p s]
theorem asked_at (k:Nat) (g:Good t) (hs:t.size≤60) (h:t.at p=some u):(Fs (k+4) 7 [t.d,pl p] S).sat fun d S'=>d= .tup ((ssT (freeL u)).map (prU t p))∧Ext S S':=by
 rw[show k+4=k+3+1 from rfl,Fs_asked_at,sat_run]
 refine⟨rfl,?_⟩
 unfold m_asked_at
 have hi:Fs (k+3) 4=run 2 14 (mInit fuel):=by rw[show k+3=k+2+1 from rfl,Fs_Scopes___init__];rfl
 simp only[ssat_seq,ssat_sExpr,ssat_asg,sat_eN,sat_aCons,sat_aNil,sat_eVar,List.map_cons,List.map_nil,List.cons_append,List.nil_append,List.length_cons,List.length_nil,List.replicate,Nat.zero_add,Nat.reduceAdd,Nat.reduceSub,List.getElem?_cons_succ,List.getElem?_cons_zero,callK_eq,List.append_nil]
 rw[(at_ k).1 S h,sat_ok,sat_mkIns]
 simp only[List.cons_append,List.nil_append,hi]
 refine sat_mono (scInit_ok (by decide) g (by omega) S) fun d S' ⟨ee,F,J,f1,f2,l1,l2,nd,ks⟩=>⟨ee,?_⟩
 simp only[gName_eq,ssat_nx,List.set_cons_succ,List.set_cons_zero,ssat_sRet]
 have nol:(scF (S.length+1) (S.length+2)).lookup ("asked" :Str)=none:=by
  have e1:(("asked" :Str)== "names")=false:=by decide +kernel
  have e2:(("asked" :Str)== "givers")=false:=by decide +kernel
  simp[scF,List.lookup,e1,e2]
 rw[sat_eMeth]
 simp only[sat_aCons,sat_aNil,sat_eVar,List.getElem?_cons_succ,List.getElem?_cons_zero]
 refine⟨_,_,insAt_obj J.i,nol,?_⟩
 rw[show k+3=k+2+1 from rfl] at*
 simp only[callK_eq,List.append_nil]
 rw[Fs_Scopes_asked,sat_run]
 refine⟨rfl,?_⟩
 unfold m_Scopes_asked
 simp only[ssat_sRet,sat_eN,sat_aCons,sat_aNil,List.map_cons,List.map_nil,List.cons_append,List.nil_append,List.length_cons,List.length_nil,List.replicate,Nat.zero_add,Nat.reduceAdd,Nat.reduceSub]
 have lk1:(scF (S.length+1) (S.length+2)).lookup ("names" :Str)=some (D.obj (S.length+1)):=by simp[scF,List.lookup]
 have lk2:(scF (S.length+1) (S.length+2)).lookup ("givers" :Str)=some (D.obj (S.length+2)):=by
  have:(("givers" :Str)== "names")=false:=by decide +kernel
  simp[scF,List.lookup,this]
 have hent:∀e ∈ F.2,∃x:En,e=x.e∧dGet F.1 (key x.q)=some (.str x.s)∧gv [] t [] x.q=some (x.s,gD x.g):=fun e he=>by
  obtain⟨q,hq⟩:=ks e he
  have h2:=f2 q
  rw[← hq,dGet_of nd he] at h2
  cases hg:gv [] t [] q with
  |none=>rw[hg] at h2;cases h2
  |some y=>
   obtain⟨s,d⟩:=y
   rw[hg] at h2
   simp only[Option.map_some,Option.some.injEq] at h2
   have h1:=f1 q
   rw[hg] at h1
   obtain⟨gg,hgg⟩:=gv_val q t [] [] s d (fun k v e=>by cases e) hg
   exact⟨⟨q,s,gg⟩,by rw[show e=(e.1,e.2) from rfl,hq,h2,hgg];rfl,h1,by rw[hg,hgg]⟩
 obtain⟨es,hes,hP⟩:=ens F.2 _ hent
 have el:es.length≤60:=by
  have:=congrArg List.length hes
  rw[List.length_map] at this;omega
 have tk:∀x ∈ es,x.c p=true→x.s ∈ freeL u∧gD x.g=gvD t p x.s:=fun x hx hc=>by
  obtain⟨_,hg⟩:=hP x hx
  unfold En.c at hc
  simp only[Bool.and_eq_true] at hc
  obtain⟨r,hr⟩:=wi_iff.mp hc.1
  refine(asked_iff h x.s (gD x.g)).mp ⟨⟨r,by rw[← hr];exact hg⟩,?_⟩
  cases hgx:x.g with
  |none=>exact .inl rfl
  |some gg=>
   rw[hgx] at hc
   refine .inr ⟨gg,rfl,fun r' e'=> ?_⟩
   have:=wi_iff.mpr ⟨r',e'⟩
   simp[this] at hc
 have back:∀s ∈ freeL u,∃x ∈ es,x.c p=true∧x.s=s:=fun s hs'=>by
  obtain⟨⟨r,hr⟩,hc⟩:=(asked_iff h s (gvD t p s)).mpr ⟨hs',rfl⟩
  have h2:=f2 (p++r)
  rw[hr] at h2
  simp only[Option.map_some] at h2
  have mem:=dGet_in h2
  rw[hes] at mem
  obtain⟨x,hx,hxe⟩:=List.mem_map.mp mem
  unfold En.e at hxe
  simp only[Prod.mk.injEq] at hxe
  have hq:=key_inj hxe.1
  obtain⟨_,hg⟩:=hP x hx
  rw[hq,hr] at hg
  simp only[Option.some.injEq,Prod.mk.injEq] at hg
  refine⟨x,hx,?_,hg.1.symm⟩
  unfold En.c
  rw[hq,wi_iff.mpr ⟨r,rfl⟩]
  cases hgx:x.g with
  |none=>rfl
  |some gg=>
   rw[hgx] at hxe
   simp only[Bool.true_and]
   rcases hc with hc|⟨g2,hg2,hn⟩
   ·rw[← hxe.2] at hc;simp[gD,pl] at hc
   ·have:gg=g2:=by
     have:=gD_inj (a:=some gg) (b:=some g2) (by rw[hxe.2,hg2];rfl)
     exact Option.some.inj this
    subst this
    cases hw:wi gg p with
    |false=>rfl
    |true=>
     obtain⟨r',e'⟩:=wi_iff.mp hw
     exact absurd e' (hn r')
 have gi:=J.f2
 have lt:=(List.getElem?_eq_some_iff.mp gi).1
 have ew:lkAt itsO (e1 (fldD ["Scopes"] "givers") (eVar 0)) [some (D.obj S.length),some (pl p),none,none] S'=some (S.length+2, .dT F.2,prsT F.2):=by
  unfold lkAt
  have:e1 (fldD ["Scopes"] "givers") (eVar 0) [some (D.obj S.length),some (pl p),none,none] S'= .ok (.obj (S.length+2)) S':=by
   simp only[e1,eVar,List.getElem?_cons_succ,List.getElem?_cons_zero,R.bind]
   exact fld_eq J.i (by simp) lk2
  rw[this]
  simp only[gi,itsO]
 unfold eLkI
 rw[ew]
 simp only
 have S2:∀i o,i≠S.length+2→S'[i]? =some o→(S'.set (S.length+2) .dead)[i]? =some o:=fun i o hi ho=>by rw[List.getElem?_set_ne (Ne.symm hi)];exact ho
 have prs:∀a ∈ (es.filter (En.c p)).map En.pr,∃x ∈ es,x.c p=true∧a=x.pr:=fun a ha=>by
  obtain⟨x,hx,rfl⟩:=List.mem_map.mp ha
  exact⟨x,(List.mem_filter.mp hx).1,(List.mem_filter.mp hx).2,rfl⟩
 have gu:=at_good h g
 have hPS:=sort_prs2 (S:=S'.set (S.length+2) .dead) (l:=(es.filter (En.c p)).map En.pr) (g:=prU t p) (fun a ha=>by
  obtain⟨x,hx,hc,rfl⟩:=prs a ha
  exact asc_ok (name_asc (free_nm gu (tk x hx hc).1))) (by
  rw[List.length_map]
  have:=List.length_filter_le (En.c p) es;omega) (fun a ha=>by
  obtain⟨x,hx,hc,rfl⟩:=prs a ha
  unfold L3.prD prU En.pr;rw[← (tk x hx hc).2]) (fun a ha b hb e=>by
  obtain⟨x,hx,hc,rfl⟩:=prs a ha
  obtain⟨y,hy,hd,rfl⟩:=prs b hb
  have e:x.s=y.s:=e
  have h1:=(tk x hx hc).2
  have h2:=(tk y hy hd).2
  rw[e,←h2] at h1
  unfold En.pr
  rw[e,gD_inj h1])
 have hnm:ssT (((es.filter (En.c p)).map En.pr).map (·.1))=ssT (freeL u):=ssT_ext fun s=>by
  simp only[List.mem_map]
  constructor
  ·rintro⟨a,⟨x,hx,rfl⟩,rfl⟩
   exact(tk x (List.mem_filter.mp hx).1 (List.mem_filter.mp hx).2).1
  ·intro hs'
   obtain⟨x,hx,hc,rfl⟩:=back s hs'
   exact⟨x.pr,⟨x,List.mem_filter.mpr ⟨hx,hc⟩,rfl⟩,rfl⟩
 rw[hnm] at hPS
 obtain⟨L,hLe⟩:∃L,L=(ssT (freeL u)).map (prU t p):=⟨_,rfl⟩
 have hL:sortSetD (.lst (((es.filter (En.c p)).map En.pr).map prD)) (S'.set (S.length+2) .dead)= .ok (.lst L) (S'.set (S.length+2) .dead):=by rw[hPS,hLe]
 have body:(e1 sortSetD (eLc (iLk (e1 (fldD ["Scopes"] "givers") (eVar 0)) (S.length+2) (prsT F.2)) [3,2] (L3.gTup [3,2]) (tAnd (tTruth (eN (callK (Fs (k+2) 3) []) (aCons (eVar 3) (aCons (eVar 1) (aNil))))) (tOr (tOfE (e2 isNonD (eVar 2) (eK .non))) (tNot (tTruth (eN (callK (Fs (k+2) 3) []) (aCons (eVar 2) (aCons (eVar 1) (aNil)))))))) (eN mkTup (aCons (e2 ixD (e1 (fldD ["Scopes"] "names") (eVar 0)) (eVar 3)) (aCons (eVar 2) (aNil))))) [some (D.obj S.length),some (pl p),none,none] (S'.set (S.length+2) .dead)).sat fun d S2=>d= .lst L∧S2=S'.set (S.length+2) .dead:=by
  rw[sat_e1,sat_eLc]
  have im:iLk (e1 (fldD ["Scopes"] "givers") (eVar 0)) (S.length+2) (prsT F.2) [some (D.obj S.length),some (pl p),none,none] (S'.set (S.length+2) .dead)= .ok (prsT F.2) (S'.set (S.length+2) .dead):=by
   unfold iLk
   have:e1 (fldD ["Scopes"] "givers") (eVar 0) [some (D.obj S.length),some (pl p),none,none] (S'.set (S.length+2) .dead)= .ok (.obj (S.length+2)) (S'.set (S.length+2) .dead):=by
    simp only[e1,eVar,List.getElem?_cons_succ,List.getElem?_cons_zero,R.bind]
    exact fld_eq (S2 _ _ (by omega) J.i) (by simp) lk2
   rw[this]
   simp only[R.bind,if_true]
  rw[im,sat_ok]
  refine⟨by simp only[prsT,List.length_map];exact small (by omega),?_⟩
  rw[hes]
  refine asked_loop (k:=k+1) (S2 _ _ (by omega) J.i) lk1 (S2 _ _ (by omega) J.f1) es (fun x hx=>(hP x hx).1) ?_
  rw[hL,sat_ok]
  exact⟨rfl,rfl⟩
 obtain⟨d,S3,e,h1,h2⟩:=sat_ex.mp body
 subst h1 h2
 rw[e]
 unfold unS
 have hdd:(S'.set (S.length+2) O.dead)[S.length+2]? =some .dead:=by rw[List.getElem?_set_self lt]
 simp only[hdd]
 rw[List.set_set,sat_ok]
 have self:S'.set (S.length+2) (.dT F.2)=S':=by
  apply List.ext_getElem?
  intro i
  by_cases c:S.length+2=i
  ·subst c;rw[List.getElem?_set_self lt,gi]
  ·rw[List.getElem?_set_ne c]
 rw[self,tuple_lst,sat_ok]
 exact⟨by rw[hLe],J.le,fun i o e=>J.fr i o (by have:=(List.getElem?_eq_some_iff.mp e).1;omega) e⟩
end K05
namespace K05
open PySem L2 L3
variable {S S' S1:Store} {n q k:Nat} {t u:Tm}
theorem gv_val2:∀(r:List Nat) (t:Tm) (kn:Kn) (p:List Nat) (s:Str) (d:D),KT kn→gv kn t p r=some (s,d)→d= .non∨∃q,d=pl q
 | [],t,kn,p,s,d,h,e=>by
   simp only[gv] at e
   cases hn:t.name with
   |none=>rw[hn] at e;cases e
   |some x=>
    rw[hn] at e
    simp only[Option.map_some,Option.some.injEq,Prod.mk.injEq] at e
    rw[← e.2]
    cases hq:dGet kn (.inr x) with
    |none=>exact .inl rfl
    |some v=>exact .inr (h _ _ hq)
 |i::r,t,kn,p,s,d,h,e=>by
  simp only[gv] at e
  cases hu:t.parts[i]? with
  |none=>rw[hu] at e;cases e
  |some u=>rw[hu] at e;exact gv_val2 r u _ _ s d (knx_kt h) e
mutual
theorem free_name (s:Str):∀(t:Tm),Good t→s ∈ freeL t→NameOk s
 | .num i,_,h=>by simp[freeL] at h
 | .nam x,g,h=>by
   simp only[freeL,List.mem_singleton] at h
   cases g with|nam hx=>exact h▸hx
 | .nd w m ps,g,h=>by
   cases g with
   |nd _ _ _ _ _ hp=>exact freeI_name s w m 0 ps hp (by simpa only[freeL] using h)
theorem freeI_name (s:Str) (w m:Str):∀(j:Nat) (ps:List Tm),(∀ p ∈ ps,Good p)→s ∈ freeI w m j ps→NameOk s
 |j,[],_,h=>by simp[freeI] at h
 |j,p::ps,g,h=>by
  simp only[freeI,List.mem_append] at h
  rcases h with h|h
  ·exact free_name s p (g p List.mem_cons_self) (List.mem_filter.mp h).1
  ·exact freeI_name s w m (j+1) ps (fun q hq=>g q (List.mem_cons_of_mem _ hq)) h
end
def nmOf (F:List (List Key × D)) (k:List Key):Str:=match dGet F k with
 |some (.str s)=>s
 | _=> ""
def outL (F:List (List Key × D)) (l:List (List Key × D)):List Str:=l.filterMap fun e=>match e.2 with
 | .non=>some (nmOf F e.1)
 | _=>none
theorem free_loop {a n1:Nat} {F:List (List Key × D)} {x0:Option D} {fs:List (Str × D)} (h1:S[a]? =some (.ins "Scopes" fs)) (h2:fs.lookup ("names" :Str)=some (.obj n1)) (h3:S[n1]? =some (.dT F)):∀(l:List (List Key × D)),(∀ e ∈ l,(∃ q s,e.1=key q∧dGet F (key q)=some (.str s))∧(e.2= .non∨∃q,e.2=pl q))→∀ {Q:List D→Store→Prop},Q ((outL F l).map .str) S→
 lcSat (L3.gTup [3,2]) (tOfE (e2 isNonD (eVar 2) (eK .non))) (e2 ixD (e1 (fldD ["Scopes"] "names") (eVar 1)) (eVar 3)) [x0,some (.obj a),none,none] (prsT l) S Q
 | [],_,Q,hQ=>hQ
 |e::l,hl,Q,hQ=>by
  obtain⟨⟨q,s,e1,e2⟩,e3⟩:=hl e List.mem_cons_self
  obtain⟨k,v⟩:=e
  simp only at e1 e3
  subst e1
  simp only[prsT,List.map_cons]
  unfold lcSat
  simp only[gTup_tup,gNames_cons,gNames_nil,List.set_cons_succ,List.set_cons_zero,sat_tOfE,sat_e2,sat_e1,sat_eVar,sat_eK,List.getElem?_cons_succ,List.getElem?_cons_zero]
  rcases e3 with rfl|⟨q',rfl⟩
  ·simp only[isNonD,sat_ok,blD_bl,if_true]
   rw[fld_eq h1 (by simp) h2,sat_ok]
   have ek:D.tup ((key q).map keyD)=pl q:=by
    simp only[key,pl,List.map_map]
    congr 1
   rw[ek]
   have eg:ixD (.obj n1) (pl q) S= .ok (.str s) S:=by simp only[ixD,h3,tk_pl,e2]
   rw[eg,sat_ok]
   refine free_loop h1 h2 h3 l (fun e he=>hl e (List.mem_cons_of_mem _ he)) ?_
   have:outL F ((key q,D.non)::l)=s::outL F l:=by simp only[outL,List.filterMap_cons,nmOf,e2]
   rw[this] at hQ
   exact hQ
  ·have:isNonD (pl q') .non S= .ok (.bl false) S:=rfl
   rw[this,sat_ok,blD_bl,sat_ok]
   simp only[Bool.false_eq_true,if_false]
   refine free_loop h1 h2 h3 l (fun e he=>hl e (List.mem_cons_of_mem _ he)) ?_
   have:outL F ((key q,pl q')::l)=outL F l:=by simp only[outL,List.filterMap_cons,pl]
   rw[this] at hQ
   exact hQ
theorem outL_mem {F:List (List Key × D)} :∀ {l:List (List Key × D)} {s:Str},s ∈ outL F l↔∃e ∈ l,e.2= .non∧nmOf F e.1=s:=by
 intro l s
 simp only[outL,List.mem_filterMap]
 constructor
 ·rintro⟨e,he,h⟩
  refine⟨e,he,?_⟩
  split at h
  ·rename_i hh
   cases h
   exact⟨hh,rfl⟩
  ·cases h
 ·rintro⟨e,he,h1,h2⟩
  exact⟨e,he,by rw[h1,h2]⟩
theorem free_ok (hk:1≤k) (g:Good t) (hs:t.size≤400):(Fs (k+2) 6 [t.d] S).sat fun d S'=>d= .tup ((ssT (freeL t)).map .str)∧Ext S S':=by
 rw[show k+2=k+1+1 from rfl,Fs_free_in,sat_run]
 refine⟨rfl,?_⟩
 unfold m_free_in
 have hi:Fs (k+1) 4=run 2 14 (mInit fuel):=by rw[Fs_Scopes___init__];rfl
 simp only[ssat_seq,ssat_asg,sat_eN,sat_aCons,sat_aNil,sat_eVar,List.map_cons,List.map_nil,List.cons_append,List.nil_append,List.length_cons,List.length_nil,List.replicate,Nat.zero_add,Nat.reduceAdd,Nat.reduceSub,List.getElem?_cons_succ,List.getElem?_cons_zero]
 rw[sat_mkIns]
 simp only[callK_eq,List.append_nil,List.cons_append,List.nil_append,hi]
 refine sat_mono (scInit_ok (by decide) g hs S) fun d S' ⟨ee,F,J,f1,f2,l1,l2,nd,ks⟩=>⟨ee,?_⟩
 simp only[gName_eq,ssat_nx,List.set_cons_succ,List.set_cons_zero,ssat_sRet,sat_eN,sat_aCons,sat_aNil]
 have lk1:(scF (S.length+1) (S.length+2)).lookup ("names" :Str)=some (D.obj (S.length+1)):=by simp[scF,List.lookup]
 have lk2:(scF (S.length+1) (S.length+2)).lookup ("givers" :Str)=some (D.obj (S.length+2)):=by
  have:(("givers" :Str)== "names")=false:=by decide +kernel
  simp[scF,List.lookup,this]
 have hent:∀e ∈ F.2,(∃ q s,e.1=key q∧dGet F.1 (key q)=some (.str s)∧gv [] t [] q=some (s,e.2))∧(e.2= .non∨∃q,e.2=pl q):=fun e he=>by
  obtain⟨q,hq⟩:=ks e he
  have h2:=f2 q
  rw[← hq,dGet_of nd he] at h2
  cases hg:gv [] t [] q with
  |none=>rw[hg] at h2;cases h2
  |some p=>
   obtain⟨s,d⟩:=p
   rw[hg] at h2
   simp only[Option.map_some,Option.some.injEq] at h2
   have h1:=f1 q
   rw[hg] at h1
   refine⟨⟨q,s,hq,h1,by rw[h2];exact hg⟩,?_⟩
   rw[h2]
   exact gv_val2 q t [] [] s d (fun k v e=>by cases e) hg
 have mem:∀s,s ∈ outL F.1 F.2↔s ∈ freeL t:=fun s=>by
  rw[outL_mem,←gv_free0]
  constructor
  ·rintro⟨e,he,h1,h2⟩
   obtain⟨⟨q,s',a1,a2,a3⟩,_⟩:=hent e he
   refine⟨q,?_⟩
   unfold nmOf at h2
   rw[a1,a2] at h2
   rw[a3,h1]
   simp only at h2
   rw[h2]
  ·rintro⟨q,hq⟩
   have h2:=f2 q
   rw[hq] at h2
   simp only[Option.map_some] at h2
   have h1:=f1 q
   rw[hq] at h1
   simp only[Option.map_some] at h1
   have:∃e ∈ F.2,e.1=key q∧e.2= .non:=by
    clear l1 l2 nd ks hent f2 f1 J
    generalize F.2=l at h2
    induction l with
    |nil=>cases h2
    |cons p l ih=>
     rw[dGet_cons] at h2
     split at h2
     ·rename_i c
      exact⟨_,List.mem_cons_self,c,Option.some.inj h2⟩
     ·obtain⟨e,he,c⟩:=ih h2
      exact⟨e,List.mem_cons_of_mem _ he,c⟩
   obtain⟨e,he,c1,c2⟩:=this
   refine⟨e,he,c2,?_⟩
   unfold nmOf
   rw[c1,h1]
 have gi:=J.f2
 have lt:=(List.getElem?_eq_some_iff.mp gi).1
 have kk:∀(x:Option D) (i:Nat),([some t.d,some (D.obj S.length),none,none] :EnvD)[1]? =some (some (.obj S.length)):=fun _ _=>rfl
 have ew:lkAt itsO (e1 (fldD ["Scopes"] "givers") (eVar 1)) [some t.d,some (D.obj S.length),none,none] S'=some (S.length+2, .dT F.2,prsT F.2):=by
  unfold lkAt
  have:e1 (fldD ["Scopes"] "givers") (eVar 1) [some t.d,some (D.obj S.length),none,none] S'= .ok (.obj (S.length+2)) S':=by
   simp only[e1,eVar,List.getElem?_cons_succ,List.getElem?_cons_zero,R.bind]
   exact fld_eq J.i (by simp) lk2
  rw[this]
  simp only[gi,itsO]
 unfold eLkI
 rw[ew]
 simp only
 have S2:∀i o,i≠S.length+2→S'[i]? =some o→(S'.set (S.length+2) .dead)[i]? =some o:=fun i o hi ho=>by rw[List.getElem?_set_ne (Ne.symm hi)];exact ho
 have body:(e1 sortSetD (eLc (iLk (e1 (fldD ["Scopes"] "givers") (eVar 1)) (S.length+2) (prsT F.2)) [3,2] (L3.gTup [3,2]) (tOfE (e2 isNonD (eVar 2) (eK .non))) (e2 ixD (e1 (fldD ["Scopes"] "names") (eVar 1)) (eVar 3))) [some t.d,some (D.obj S.length),none,none] (S'.set (S.length+2) .dead)).sat fun d S2=>d= .lst ((ssT (freeL t)).map .str)∧S2=S'.set (S.length+2) .dead:=by
  rw[sat_e1,sat_eLc]
  have im:iLk (e1 (fldD ["Scopes"] "givers") (eVar 1)) (S.length+2) (prsT F.2) [some t.d,some (D.obj S.length),none,none] (S'.set (S.length+2) .dead)= .ok (prsT F.2) (S'.set (S.length+2) .dead):=by
   unfold iLk
   have:e1 (fldD ["Scopes"] "givers") (eVar 1) [some t.d,some (D.obj S.length),none,none] (S'.set (S.length+2) .dead)= .ok (.obj (S.length+2)) (S'.set (S.length+2) .dead):=by
    simp only[e1,eVar,List.getElem?_cons_succ,List.getElem?_cons_zero,R.bind]
    exact fld_eq (S2 _ _ (by omega) J.i) (by simp) lk2
   rw[this]
   simp only[R.bind,if_true]
  rw[im,sat_ok]
  refine⟨by simp only[prsT,List.length_map];exact small (by omega),?_⟩
  refine free_loop (S2 _ _ (by omega) J.i) lk1 (S2 _ _ (by omega) J.f1) F.2 (fun e he=>⟨(by obtain⟨⟨q,s,a,b,_⟩,_⟩:=hent e he;exact⟨q,s,a,b⟩),(hent e he).2⟩) ?_
  have so:∀s ∈ outL F.1 F.2,PyData.strOk s=true:=fun s hs=>asc_ok (name_asc (free_name s t g ((mem s).mp hs)))
  have ll:(outL F.1 F.2).length≤1000:=by
   have:=List.length_filterMap_le (fun e:List Key × D=>match e.2 with
    | .non=>some (nmOf F.1 e.1)
    | _=>none) F.2
   unfold outL;omega
  have:=sortSet_txt (S:=S'.set (S.length+2) .dead) (x:= .lst ((outL F.1 F.2).map .str)) (l:=outL F.1 F.2) rfl so ll
  have e:sortSetO (.lst ((outL F.1 F.2).map .str)) (S'.set (S.length+2) .dead)=sortSetD (.lst ((outL F.1 F.2).map .str)) (S'.set (S.length+2) .dead):=rfl
  rw[← e,this,sat_ok,ssT_ext mem]
  exact⟨rfl,rfl⟩
 obtain⟨d,S3,e,h1,h2⟩:=sat_ex.mp body
 subst h1 h2
 rw[e]
 unfold unS
 have hdd:(S'.set (S.length+2) O.dead)[S.length+2]? =some .dead:=by rw[List.getElem?_set_self lt]
 simp only[hdd]
 rw[List.set_set,sat_ok]
 have self:S'.set (S.length+2) (.dT F.2)=S':=by
  apply List.ext_getElem?
  intro i
  by_cases c:S.length+2=i
  ·subst c;rw[List.getElem?_set_self lt,gi]
  ·rw[List.getElem?_set_ne c]
 rw[self]
 rw[tuple_lst,sat_ok]
 exact⟨rfl,J.le,fun i o e=>J.fr i o (by have:=(List.getElem?_eq_some_iff.mp e).1;omega) e⟩
end K05
namespace K05
open PySem L2 L3
variable {S S' S1:Store} {n m k:Nat} {t u:Tm} {p q:List Nat}
theorem ssat_forLk {sel:O→Option (List D)} {o:ED} {g:GD} {body:SD} {env:EnvD} {N B C:EnvD→Store→Prop} {T:D→Store→Prop} {n:Nat} {ob:O} {ps:List D} (h1:∀S,o env S= .ok (.obj n) S) (h2:S[n]? =some ob) (h3:sel ob=some ps)
 (h:(forL g body ps env (S.set n .dead)).sat (fun e S2=>S2[n]? =some .dead∧N e (S2.set n ob)) (fun d S2=>S2[n]? =some .dead∧T d (S2.set n ob)) (fun _ _=>False) fun _ _=>False):(sForL sel o g body env S).sat N T B C:=by
 unfold sForL
 have e:lkAt sel o env S=some (n,ob,ps):=by simp only[lkAt,h1,h2,h3]
 rw[e]
 simp only
 have ef:sFor (iLk o n ps) g body env (S.set n .dead)=forL g body ps env (S.set n .dead):=by
  unfold sFor iLk
  rw[h1]
  simp only[R.bind,if_true]
  rfl
 rw[ef]
 revert h
 generalize forL g body ps env (S.set n .dead)=r
 intro h
 cases h with
 |nx h=>
  obtain⟨h1,h2⟩:=h
  unfold unSS
  simp only[h1,ssat_nx]
  exact h2
 |ret h=>
  obtain⟨h1,h2⟩:=h
  unfold unSS
  simp only[h1,ssat_ret]
  exact h2
 |brk h=>exact h.elim
 |ct h=>exact h.elim
def eO (x:En):List Key × D:=(key x.q, .tup [.str x.s,gD x.g])
structure Own (t:Tm) (es:List En):Prop where
 len:es.length≤t.size
 gv:∀x ∈ es,gv [] t [] x.q=some (x.s,gD x.g)
 all:∀q s d,L3.gv [] t [] q=some (s,d)→∃x ∈ es,x.q=q
theorem own_of {F:List (List Key × D)} (h1:∀q,dGet F (key q)=(gv [] t [] q).map fun p=> .tup [.str p.1,p.2]) (h2:F.length≤t.size) (nd:(F.map (·.1)).Nodup) (ks:∀e ∈ F,∃q,e.1=key q):∃es,F=es.map eO∧Own t es:=by
 have hent:∀e ∈ F,∃x:En,e=eO x∧gv [] t [] x.q=some (x.s,gD x.g):=fun e he=>by
  obtain⟨q,hq⟩:=ks e he
  have h3:=h1 q
  rw[← hq,dGet_of nd he] at h3
  cases hg:gv [] t [] q with
  |none=>rw[hg] at h3;cases h3
  |some y=>
   obtain⟨s,d⟩:=y
   rw[hg] at h3
   simp only[Option.map_some,Option.some.injEq] at h3
   obtain⟨gg,hgg⟩:=gv_val q t [] [] s d (fun k v e=>by cases e) hg
   refine⟨⟨q,s,gg⟩,?_,by rw[hg,hgg]⟩
   unfold eO
   rw[show e=(e.1,e.2) from rfl,hq,h3,hgg]
 have cut:∀(l:List (List Key × D)),(∀ e ∈ l,∃x:En,e=eO x∧gv [] t [] x.q=some (x.s,gD x.g))→∃es:List En,l=es.map eO∧∀x ∈ es,gv [] t [] x.q=some (x.s,gD x.g):=by
  intro l
  induction l with
  |nil=>exact fun _=>⟨[],rfl,by simp⟩
  |cons e l ih=>
   intro h
   obtain⟨x,hx,px⟩:=h e List.mem_cons_self
   obtain⟨es,h1,h2⟩:=ih fun e he=>h e (List.mem_cons_of_mem _ he)
   exact⟨x::es,by simp[hx,h1],fun y hy=>(List.mem_cons.mp hy).elim (fun c=>c▸px) (h2 y)⟩
 obtain⟨es,e1,e2⟩:=cut F hent
 refine⟨es,e1,by rw[e1,List.length_map] at h2;exact h2,e2,fun q s d hq=> ?_⟩
 have h3:=h1 q
 rw[hq] at h3
 simp only[Option.map_some] at h3
 have mem:=dGet_in h3
 rw[e1] at mem
 obtain⟨x,hx,hxe⟩:=List.mem_map.mp mem
 unfold eO at hxe
 simp only[Prod.mk.injEq] at hxe
 exact⟨x,hx,key_inj hxe.1⟩
section
variable {es:List En}
theorem Own.tk (O:Own t es) (h:t.at p=some u) {x:En} (hx:x ∈ es) (hc:x.c p=true):x.s ∈ freeL u∧gD x.g=gvD t p x.s:=by
 have hg:=O.gv x hx
 unfold En.c at hc
 simp only[Bool.and_eq_true] at hc
 obtain⟨r,hr⟩:=wi_iff.mp hc.1
 refine(asked_iff h x.s (gD x.g)).mp ⟨⟨r,by rw[← hr];exact hg⟩,?_⟩
 cases hgx:x.g with
 |none=>exact .inl rfl
 |some gg=>
  rw[hgx] at hc
  refine .inr ⟨gg,rfl,fun r' e'=> ?_⟩
  have:=wi_iff.mpr ⟨r',e'⟩
  simp[this] at hc
theorem Own.back (O:Own t es) (h:t.at p=some u) {s:Str} (hs:s ∈ freeL u):∃x ∈ es,x.c p=true∧x.s=s:=by
 obtain⟨⟨r,hr⟩,hc⟩:=(asked_iff h s (gvD t p s)).mpr ⟨hs,rfl⟩
 obtain⟨x,hx,hq⟩:=O.all _ _ _ hr
 have hg:=O.gv x hx
 rw[hq,hr] at hg
 simp only[Option.some.injEq,Prod.mk.injEq] at hg
 refine⟨x,hx,?_,hg.1.symm⟩
 unfold En.c
 rw[hq,wi_iff.mpr ⟨r,rfl⟩]
 cases hgx:x.g with
 |none=>rfl
 |some gg=>
  simp only[Bool.true_and]
  rw[hgx] at hg
  rcases hc with hc|⟨g2,hg2,hn⟩
  ·rw[hg.2] at hc;simp[gD,pl] at hc
  ·have:gg=g2:=by
    have:=gD_inj (a:=some gg) (b:=some g2) (by rw[← hg.2,hg2];rfl)
    exact Option.some.inj this
   subst this
   cases hw:wi gg p with
   |false=>rfl
   |true=>
    obtain⟨r',e'⟩:=wi_iff.mp hw
    exact absurd e' (hn r')
theorem put_pr {L:List PrG} {a:PrG} :putD (L.map fun a=>(prK a,D.bl true)) (prK a) (.bl true)=(if a ∈ L then L else L++ [a]).map fun a=>(prK a,D.bl true):=by
 have inj:∀ {a b:PrG},prK a=prK b→a=b:=fun {a b} e=>by
  have:=congrArg kD e
  rw[kD_pr,kD_pr] at this
  obtain⟨a1,a2⟩:=a
  obtain⟨b1,b2⟩:=b
  simp only[L3.prD,D.tup.injEq,List.cons.injEq,D.str.injEq,and_true] at this
  rw[this.1,gD_inj this.2]
 unfold putD
 by_cases h:a ∈ L
 ·rw[if_pos,if_pos h]
  ·rw[List.map_map]
   apply List.map_congr_left
   intro b _
   simp only[Function.comp]
   split<;>rfl
  ·simp only[List.any_map,List.any_eq_true,Function.comp,decide_eq_true_eq]
   exact⟨a,h,rfl⟩
 ·rw[if_neg,if_neg h]
  ·simp
  ·simp only[List.any_map,List.any_eq_true,Function.comp,decide_eq_true_eq,not_exists,not_and]
   intro b hb e
   exact h (inj e▸hb)
theorem nk_of_pr {a:PrG} (h:PyData.strOk a.1=true):nkOf (prD a)=some (prK a):=by
 unfold nkOf
 rw[nk_pr]
 have hnum:∀g:List Nat,nkOkL (g.map fun i:Nat=>NestedKey.num (i:Int))=true:=fun g=>by
  induction g with
  |nil=>rfl
  |cons a g ih=>simp only[List.map_cons,nkOkL,nkOk,ih];rfl
 have depth_nk:∀g:List Nat,NestedKey.depthAll (g.map fun i:Nat=>NestedKey.num (i:Int))=0:=fun g=>by
  induction g with
  |nil=>simp[NestedKey.depthAll]
  |cons a g ih=>simp[NestedKey.depthAll,NestedKey.depth,ih]
 simp only[prK]
 rw[if_pos]
 cases a.2 with
 |none=>exact⟨by simp[gK,NestedKey.depth,NestedKey.depthAll],by simp[nkOk,nkOkL,gK,h]⟩
 |some g=>exact⟨by simp[gK,NestedKey.depth,NestedKey.depthAll,depth_nk],by simp[nkOk,nkOkL,gK,h,hnum]⟩
def found (p:List Nat) (l:List En) (L:List PrG):Prop:=L.Nodup∧L.length≤l.length∧∀a,a ∈ L↔∃x ∈ l,x.c p=true∧x.pr=a
theorem cutPl (a b:List Nat) (S:Store):slD (pl a) none (some ((b.length:Nat):Int)) S= .ok (pl (a.take b.length)) S:=by
 unfold pl
 rw[L3.sl_tup,cut_any,←List.map_take]
theorem lenPl (b:List Nat) (S:Store):lenD [pl b] S= .ok (.int (b.length:Nat)) S:=by
 apply of_sat
 unfold pl
 rw[len_tup,sat_ok,List.length_map]
 exact⟨rfl,rfl⟩
theorem nePl (a b:List Nat) (S:Store):neD (pl a) (pl b) S= .ok (.bl (!decide (a=b))) S:=by
 have h1:∀a:List Nat,toPy (deref (pl a) S)=some (.tuple (a.map fun i:Nat=> .int (i:Int))):=fun a=>by simp only[pl,deref,toPy,toPyL_nums,Option.map_some]
 rw[neD_py (h1 a) (h1 b) (by simp[PyData.depth,depth_nums])]
 have:∀a b:List Nat,PyData.eqvAll (a.map fun i:Nat=>PyData.int (i:Int)) (b.map fun i:Nat=>PyData.int (i:Int))=decide (a=b):=by
  intro a
  induction a with
  |nil=>intro b;cases b<;>simp[PyData.eqvAll]
  |cons x a ih=>
   intro b
   cases b with
   |nil=>simp[PyData.eqvAll]
   |cons y b=>
    simp only[List.map_cons,PyData.eqvAll,PyData.eqv,ih b]
    by_cases h1:x=y<;>by_cases h2:a=b<;>simp[h1,h2] <;>omega
 simp only[PyData.eqv,this]
noncomputable def askB:SD:=(sIf (tAnd (tOfE (e2 eqD (eSl (eVar 3) (pNo) (pYes (eN lenD (aCons (eVar 1) (aNil))))) (eVar 1))) (tOr (tOfE (e2 isNonD (eVar 5) (eK .non))) (tOfE (e2 neD (eSl (eVar 5) (pNo) (pYes (eN lenD (aCons (eVar 1) (aNil))))) (eVar 1))))) (sAsg (eK (.bl true)) (gSubN (eVar 2) (eN mkTup (aCons (eVar 4) (aCons (eVar 5) (aNil)))))) (sSkip))
theorem ask_loop {N M:Nat} (hne:N≠M) (hok:∀x ∈ es,PyData.strOk x.s=true) (hle:es.length≤400):∀(l done:List En) {a3 a4 a5:Option D} {S:Store} {L:List PrG},done++l=es→S[N]? =some .dead→S[M]? =some (.dN (L.map fun a=>(prK a,D.bl true)))→found p done L→
 ∀ {Nn B C:EnvD→Store→Prop} {T:D→Store→Prop},(∀ (L:List PrG) (b3 b4 b5:Option D) (S':Store),found p es L→S'[M]? =some (.dN (L.map fun a=>(prK a,D.bl true)))→(∀ i,i≠M→S'[i]? =S[i]?)→Nn [some (.obj N),some (pl p),some (.obj M),b3,b4,b5] S')→
 (forL (gMix [gName 3,gTup [4,5]]) askB (prsT (l.map eO)) [some (.obj N),some (pl p),some (.obj M),a3,a4,a5] S).sat Nn T B C
 | [],done,a3,a4,a5,S,L,hd,hN,hM,hf,Nn,B,C,T,hQ=>by
   rw[List.append_nil] at hd
   subst hd
   simp only[List.map_nil,prsT]
   unfold forL
   rw[ssat_nx]
   exact hQ L _ _ _ S hf hM fun i _=>rfl
 |x::l,done,a3,a4,a5,S,L,hd,hN,hM,hf,Nn,B,C,T,hQ=>by
  have ek:D.tup ((key x.q).map keyD)=pl x.q:=by
   simp only[key,pl,List.map_map]
   congr 1
  have hxe:x ∈ es:=by rw[← hd];simp
  have next:∀(S2:Store) (L2:List PrG),S2[N]? =some .dead→S2[M]? =some (.dN (L2.map fun a=>(prK a,D.bl true)))→found p (done++ [x]) L2→(∀ i,i≠M→S2[i]? =S[i]?)→
   (forL (gMix [gName 3,gTup [4,5]]) askB (prsT (l.map eO)) [some (.obj N),some (pl p),some (.obj M),some (pl x.q),some (.str x.s),some (gD x.g)] S2).sat Nn T B C:=fun S2 L2 h1 h2 h3 h4=>
   ask_loop hne hok hle l (done++ [x]) (by rw[List.append_assoc];exact hd) h1 h2 h3 fun L3' b3 b4 b5 S' g1 g2 g3=>hQ L3' b3 b4 b5 S' g1 g2 fun i hi=>by rw[g3 i hi,h4 i hi]
  show(forL (gMix [gName 3,gTup [4,5]]) askB (.tup [.tup ((key x.q).map keyD), .tup [.str x.s,gD x.g]] ::prsT (l.map eO)) [some (.obj N),some (pl p),some (.obj M),a3,a4,a5] S).sat Nn T B C
  rw[ek]
  unfold forL
  have hg:(L3.gMix [L3.gName 3,L3.gTup [4,5]]) (.tup [pl x.q, .tup [.str x.s,gD x.g]]) [some (.obj N),some (pl p),some (.obj M),a3,a4,a5] S= .nx [some (.obj N),some (pl p),some (.obj M),some (pl x.q),some (.str x.s),some (gD x.g)] S:=rfl
  rw[hg]
  simp only []
  have nof:∀(b:Bool),x.c p=b→b=false→found p (done++ [x]) L:=fun b h1 h2=>by
   subst h2
   refine⟨hf.1,by have:=hf.2.1;simp;omega,fun a=> ?_⟩
   rw[hf.2.2 a]
   constructor
   ·rintro⟨y,hy,h⟩;exact⟨y,by simp[hy],h⟩
   ·rintro⟨y,hy,h,e⟩
    rcases List.mem_append.mp hy with hy|hy
    ·exact⟨y,hy,h,e⟩
    ·rw[List.mem_singleton.mp hy,h1] at h;cases h
  have hb:(askB [some (.obj N),some (pl p),some (.obj M),some (pl x.q),some (.str x.s),some (gD x.g)] S).sat (fun e S2=>e= [some (.obj N),some (pl p),some (.obj M),some (pl x.q),some (.str x.s),some (gD x.g)] ∧∃L2,S2[N]? =some .dead∧S2[M]? =some (.dN (L2.map fun a=>(prK a,D.bl true)))∧found p (done++ [x]) L2∧(∀ i,i≠M→S2[i]? =S[i]?)) (fun _ _=>False) (fun _ _=>False) (fun _ _=>False):=by
   unfold askB
   rw[ssat_if]
   simp only[sat_tAnd,sat_tOr,sat_tOfE,sat_e2,sat_eSl,sat_pNo,sat_pYes,sat_eN,sat_aCons,sat_aNil,sat_eVar,sat_eK,List.getElem?_cons_succ,List.getElem?_cons_zero,lenPl,sat_ok]
   refine⟨p.length,rfl,?_⟩
   rw[cutPl,sat_ok,eqPl,sat_ok,blD_bl,sat_ok]
   have wx:decide (x.q.take p.length=p)=wi x.q p:=rfl
   rw[wx]
   have no:x.c p=false→((sSkip:SD) [some (.obj N),some (pl p),some (.obj M),some (pl x.q),some (.str x.s),some (gD x.g)] S).sat (fun e S2=>e= [some (.obj N),some (pl p),some (.obj M),some (pl x.q),some (.str x.s),some (gD x.g)] ∧∃L2,S2[N]? =some .dead∧S2[M]? =some (.dN (L2.map fun a=>(prK a,D.bl true)))∧found p (done++ [x]) L2∧(∀ i,i≠M→S2[i]? =S[i]?)) (fun _ _=>False) (fun _ _=>False) (fun _ _=>False):=fun h=>by
    rw[ssat_skip]
    exact⟨rfl,L,hN,hM,nof _ h rfl,fun i _=>rfl⟩
   have yes:x.c p=true→((sAsg (eK (.bl true)) (gSubN (eVar 2) (eN mkTup (aCons (eVar 4) (aCons (eVar 5) (aNil)))))) [some (.obj N),some (pl p),some (.obj M),some (pl x.q),some (.str x.s),some (gD x.g)] S).sat (fun e S2=>e= [some (.obj N),some (pl p),some (.obj M),some (pl x.q),some (.str x.s),some (gD x.g)] ∧∃L2,S2[N]? =some .dead∧S2[M]? =some (.dN (L2.map fun a=>(prK a,D.bl true)))∧found p (done++ [x]) L2∧(∀ i,i≠M→S2[i]? =S[i]?)) (fun _ _=>False) (fun _ _=>False) (fun _ _=>False):=fun h=>by
    have hMl:=(List.getElem?_eq_some_iff.mp hM).1
    have m2:∀x y S,mkTup [x,y] S= .ok (.tup [x,y]) S:=fun x y S=>is_ok (by rw[sat_mkTup];exact⟨small (by simp),rfl,rfl⟩)
    have hset:setND (.obj M) (.tup [.str x.s,gD x.g]) (.bl true) S=some (S.set M (.dN ((if x.pr ∈ L then L else L++ [x.pr]).map fun a=>(prK a,D.bl true)))):=by
     have e1:nkOf (.tup [.str x.s,gD x.g])=some (prK x.pr):=nk_of_pr (a:=x.pr) (hok x hxe)
     unfold setND
     simp only[hM,e1]
     rw[if_pos,put_pr]
     have:=hf.2.1
     have hl2:done.length≤es.length:=by rw[← hd];simp
     rw[List.length_map]
     exact Nat.lt_of_lt_of_le (by omega:L.length<1000) (by decide)
    have hs:(sAsg (eK (.bl true)) (gSubN (eVar 2) (eN mkTup (aCons (eVar 4) (aCons (eVar 5) (aNil)))))) [some (.obj N),some (pl p),some (.obj M),some (pl x.q),some (.str x.s),some (gD x.g)] S= .nx [some (.obj N),some (pl p),some (.obj M),some (pl x.q),some (.str x.s),some (gD x.g)] (S.set M (.dN ((if x.pr ∈ L then L else L++ [x.pr]).map fun a=>(prK a,D.bl true)))):=by
     have i1:(eN mkTup (aCons (eVar 4) (aCons (eVar 5) (aNil)))) [some (.obj N),some (pl p),some (.obj M),some (pl x.q),some (.str x.s),some (gD x.g)] S= .ok (.tup [.str x.s,gD x.g]) S:=by
      show(mkTup [.str x.s,gD x.g] S)=_
      rw[m2]
     unfold sAsg gSubN
     simp only[eK,R.toS,eVar,List.getElem?_cons_succ,List.getElem?_cons_zero]
     rw[i1]
     simp only[hset]
    rw[hs,ssat_nx]
    refine⟨rfl,_,by rw[List.getElem?_set_ne (Ne.symm hne)];exact hN,List.getElem?_set_self hMl,?_,fun i hi=>by rw[List.getElem?_set_ne (Ne.symm hi)]⟩
    by_cases hm:x.pr ∈ L
    ·rw[if_pos hm]
     refine⟨hf.1,by have:=hf.2.1;simp;omega,fun a=> ?_⟩
     rw[hf.2.2 a]
     constructor
     ·rintro⟨y,hy,h⟩;exact⟨y,by simp[hy],h⟩
     ·rintro⟨y,hy,h,e⟩
      rcases List.mem_append.mp hy with hy|hy
      ·exact⟨y,hy,h,e⟩
      ·rw[List.mem_singleton.mp hy] at e
       exact(hf.2.2 a).mp (e▸hm)
    ·rw[if_neg hm]
     refine⟨List.nodup_append.mpr ⟨hf.1,by simp,fun a ha b hb e=>hm (by rw[List.mem_singleton.mp hb] at e;exact e▸ha)⟩,by have:=hf.2.1;simp;omega,fun a=> ?_⟩
     rw[List.mem_append,hf.2.2 a,List.mem_singleton]
     constructor
     ·rintro(⟨y,hy,h⟩|rfl)
      ·exact⟨y,by simp[hy],h⟩
      ·exact⟨x,by simp,h,rfl⟩
     ·rintro⟨y,hy,h,e⟩
      rcases List.mem_append.mp hy with hy|hy
      ·exact .inl ⟨y,hy,h,e⟩
      ·rw[List.mem_singleton.mp hy] at e;exact .inr e.symm
   cases hw:wi x.q p with
   |false=>
    rw[if_neg Bool.false_ne_true,if_neg Bool.false_ne_true]
    exact no (by simp[En.c,hw])
   |true=>
    rw[if_pos rfl]
    cases hgx:x.g with
    |none=>
     rw[hgx] at yes
     rw[show isNonD (gD none) .non S= .ok (.bl true) S from rfl,sat_ok,blD_bl,sat_ok]
     simp only[if_true]
     exact yes (by simp[En.c,hw,hgx])
    |some gg=>
     rw[hgx] at yes no
     rw[show isNonD (gD (some gg)) .non S= .ok (.bl false) S from rfl,sat_ok,blD_bl,sat_ok,if_neg Bool.false_ne_true]
     refine⟨p.length,rfl,?_⟩
     rw[show gD (some gg)=pl gg from rfl] at*
     rw[cutPl,sat_ok,nePl,sat_ok,blD_bl,sat_ok]
     have wg:decide (gg.take p.length=p)=wi gg p:=rfl
     rw[wg]
     cases hw2:wi gg p with
     |false=>
      rw[show (!false)=true from rfl,if_pos rfl]
      exact yes (by simp[En.c,hw,hgx,hw2])
     |true=>
      rw[show (!true)=false from rfl,if_neg Bool.false_ne_true]
      exact no (by simp[En.c,hw,hgx,hw2])
  revert hb
  generalize askB [some (D.obj N),some (pl p),some (D.obj M),some (pl x.q),some (D.str x.s),some (gD x.g)] S=r
  intro hb
  cases hb with
  |nx h=>
   obtain⟨rfl,L2,h1,h2,h3,h4⟩:=h
   exact next _ L2 h1 h2 h3 h4
  |ret h=>exact h.elim
  |brk h=>exact h.elim
  |ct h=>exact h.elim
end
end K05
namespace L3.Od
open PySem L2 L3
abbrev inz (q:List Nat):List D:=q.map fun i:Nat=>D.int (i:Int)
theorem wts_ints:∀q:List Nat,wts (inz q)=100*q.length
 | [] =>rfl
 |i::q=>by
  have:=wts_ints q
  simp only[inz,List.map_cons,wts,wt,List.length_cons] at this ⊢
  omega
theorem dps_all {l:List D} (h:∀x ∈ l,dp x=0):dps l=0:=by
 induction l with
 |nil=>rfl
 |cons x l ih=>simp only[dps,h x List.mem_cons_self,ih fun y hy=>h y (List.mem_cons_of_mem _ hy)];rfl
theorem d_ints {q:List Nat} :∀x ∈ inz q,dp x=0:=fun x hx=>by
 obtain⟨i,hi,rfl⟩:=List.mem_map.mp hx
 rfl
end L3.Od
namespace K05
open PySem L2 L3
variable {S S' S1:Store} {n m k:Nat} {t u:Tm} {p q:List Nat} {es:List En}
def TAB:O:= .tab "_law_asked" ((("_law_asked":Str)++ ".<locals>.")++ "<lambda>")
structure Pg (t:Tm):Prop where
 g:Good t
 z:t.size≤60
 d:t.dep≤8
theorem gv_nam:∀(r:List Nat) (t:Tm) (kn:Kn) (p:List Nat) (s:Str) (d:D),gv kn t p r=some (s,d)→∃u,t.at r=some u∧u.name=some s
 | [],t,kn,p,s,d,e=>by
   simp only[gv] at e
   cases hn:t.name with
   |none=>rw[hn] at e;cases e
   |some x=>
    rw[hn] at e
    simp only[Option.map_some,Option.some.injEq,Prod.mk.injEq] at e
    exact⟨t,rfl,by rw[hn,e.1]⟩
 |i::r,t,kn,p,s,d,e=>by
  simp only[gv] at e
  cases hu:t.parts[i]? with
  |none=>rw[hu] at e;cases e
  |some u=>
   rw[hu] at e
   obtain⟨v,h1,h2⟩:=gv_nam r u _ _ s d e
   exact⟨v,by simp only[Tm.at,hu,Option.bind_some];exact h1,h2⟩
theorem Own.nm (O:Own t es) (g:Good t) {x:En} (hx:x ∈ es):NameOk x.s:=by
 obtain⟨u,h1,h2⟩:=gv_nam _ _ _ _ _ _ (O.gv x hx)
 have:=at_good h1 g
 rw[nam_of h2] at this
 cases this with|nam h=>exact h
theorem asked (k:Nat) (P:Pg t) (h:t.at p=some u) (O:Own t es) {N:Nat} (hN:S[N]? =some (.dT (es.map eO))) (h0:S[(0:Nat)]? =some TAB):
 (Fs (k+1) 17 [.obj N,pl p] S).sat fun d S'=>d= .tup ((ssT (freeL u)).map (prU t p))∧Ext S S'∧(ssT (freeL u)).length≤60:=by
 rw[Fs_law_asked,sat_run]
 refine⟨rfl,?_⟩
 unfold m_law_asked
 simp only[List.map_cons,List.map_nil,List.cons_append,List.nil_append,List.length_cons,List.length_nil,List.replicate,Nat.zero_add,Nat.reduceAdd,Nat.reduceSub]
 have hNl:=(List.getElem?_eq_some_iff.mp hN).1
 have h0l:=(List.getElem?_eq_some_iff.mp h0).1
 have hN0:N≠0:=fun e=>by rw[e,h0] at hN;cases hN
 have hok:∀x ∈ es,PyData.strOk x.s=true:=fun x hx=>asc_ok (name_asc (O.nm P.g hx))
 have hle:=O.len
 have hz:=P.z
 refine step_asg (S1:=S++ [.dN []]) (S2:=S++ [.dN []]) (d:= .obj S.length) rfl rfl ?_
 simp only[List.set_cons_succ,List.set_cons_zero]
 refine seq_rule (fun e S2=>∃L b3 b4 b5,e= [some (.obj N),some (pl p),some (.obj S.length),b3,b4,b5] ∧found p es L∧S2[S.length]? =some (.dN (L.map fun a=>(prK a,D.bl true)))∧(∀ i,i<S.length→S2[i]? =S[i]?)) ?_ ?_
 ·refine ssat_forLk (n:=N) (ob:= .dT (es.map eO)) (ps:=prsT (es.map eO)) (fun S=>rfl) (by rw[List.getElem?_append_left hNl];exact hN) rfl ?_
  refine ask_loop (M:=S.length) (by omega) hok (by omega) es [] (L:= []) rfl (by rw[List.getElem?_set_self (by simp;omega)]) (by rw[List.getElem?_set_ne (by omega)];simp) ⟨by simp,by simp,by simp⟩ ?_
  intro L b3 b4 b5 S' hf hM hS
  have hMl:=(List.getElem?_eq_some_iff.mp hM).1
  have hd:S'[N]? =some .dead:=by
   rw[hS N (by omega),List.getElem?_set_self (by simp;omega)]
  refine⟨hd,L,b3,b4,b5,rfl,hf,by rw[List.getElem?_set_ne (by omega)];exact hM,fun i hi=> ?_⟩
  by_cases hiN:N=i
  ·subst hiN
   rw[List.getElem?_set_self (by omega),hN]
  ·rw[List.getElem?_set_ne hiN,hS i (by omega),List.getElem?_set_ne hiN,List.getElem?_append_left hi]
 rintro e S2 ⟨L,b3,b4,b5,rfl,hf,hM,hS⟩
 have hMl:=(List.getElem?_eq_some_iff.mp hM).1
 have h02:S2[(0:Nat)]? =some TAB:=by rw[hS 0 h0l];exact h0
 have fr:∀a ∈ L,∃x ∈ es,x.c p=true∧x.pr=a:=fun a ha=>(hf.2.2 a).mp ha
 have hg:∀a ∈ L,L3.prD a=prU t p a.1:=fun a ha=>by
  obtain⟨x,hx,hc,rfl⟩:=fr a ha
  unfold L3.prD prU En.pr
  rw[← (O.tk h hx hc).2]
 have nd:(L.map (·.1)).Nodup:=by
  refine List.pairwise_map.mpr (hf.1.imp_of_mem fun {a b} ha hb ne e=>ne ?_)
  have h1:=hg a ha
  have h2:=hg b hb
  rw[e,←h2] at h1
  have:=congrArg nkD h1
  obtain⟨a1,a2⟩:=a
  obtain⟨b1,b2⟩:=b
  simp only[L3.prD,D.tup.injEq,List.cons.injEq,D.str.injEq,and_true] at h1
  rw[h1.1,gD_inj h1.2]
 have hnm:ssT (L.map (·.1))=ssT (freeL u):=ssT_ext fun s=>by
  simp only[List.mem_map]
  constructor
  ·rintro⟨a,ha,rfl⟩
   obtain⟨x,hx,hc,rfl⟩:=fr a ha
   exact(O.tk h hx hc).1
  ·intro hs
   obtain⟨x,hx,hc,rfl⟩:=O.back h hs
   exact⟨x.pr,(hf.2.2 _).mpr ⟨x,hx,hc,rfl⟩,rfl⟩
 have hL60:L.length≤60:=by have:=hf.2.1;omega
 have key:eSortKey "_law_asked" ((("_law_asked" :Str)++ ".<locals>.")++ "<lambda>") (eVar 2) [some (.obj N),some (pl p),some (.obj S.length),b3,b4,b5] S2= .ok (.lst ((ssT (freeL u)).map (prU t p))) S2:=by
  have e1:(eVar 2) [some (.obj N),some (pl p),some (.obj S.length),b3,b4,b5] S2= .ok (.obj S.length) S2:=rfl
  unfold eSortKey
  rw[e1]
  simp only[R.bind,h02,TAB,and_self,if_true]
  unfold sortKD
  have e2:dnOf (.obj S.length) S2=some (L.map fun a=>(prK a,D.bl true)):=by simp only[dnOf,hM]
  simp only[e2]
  rw[if_pos]
  ·have e3:(L.map fun a=>(prK a,D.bl true)).map (fun p=>kD p.1)=L.map L3.prD:=by
    rw[List.map_map]
    exact List.map_congr_left fun a _=>kD_pr a
   rw[e3,sortKL_prs hg nd,hnm]
  ·refine⟨by rw[List.length_map];exact small (by omega),?_⟩
   rw[List.all_eq_true]
   intro x hx
   obtain⟨a,_,rfl⟩:=List.mem_map.mp hx
   simp only[kD_pr,L3.prD,firstS]
   rfl
 rw[ssat_sRet,sat_eN,sat_aCons,key,sat_ok,sat_aNil,tuple_lst,sat_ok]
 refine⟨rfl,⟨by omega,fun i o hi=> ?_⟩,?_⟩
 ·have:=(List.getElem?_eq_some_iff.mp hi).1
  rw[hS i this];exact hi
 ·rw[← hnm]
  have:=ssT_len (L.map (·.1))
  rw[List.length_map] at this
  omega
end K05
namespace K05
open PySem L2 L3
variable {S S' S1:Store} {n m k:Nat} {t u:Tm} {p q:List Nat} {es:List En}
theorem Ext.trans {S S' S'':Store} (a:Ext S S') (b:Ext S' S''):Ext S S'':=⟨Nat.le_trans a.le b.le,fun i o h=>b.fr i o (a.fr i o h)⟩
theorem Ext.grow (a:Grow S S'):Ext S S':=⟨a.le,a.fr⟩
theorem Ext.refl (S:Store):Ext S S:=⟨Nat.le_refl _,fun _ _ h=>h⟩
theorem shows {B:Nat} {x:D} (h:U B x) (hw:wt x≤1000000) (hd:dp x≤100):∃z:Str,(∀ S,reprD [x] S= .ok (.str z) S)∧PyData.strOk z=true:=by
 obtain⟨a,e1,e2,e3,e4,e5⟩:=shown_ok h
 obtain⟨a',f1,f2⟩:=shown_okS h
 rw[e1] at f1
 cases f1
 refine⟨a.shown,fun S=> ?_,okS_iff.mp f2⟩
 have hde:deref x S=x:=by cases h<;>rfl
 have hok:showOk a=true:=by
  simp only[showOk,e2,Bool.true_and,Bool.and_eq_true,decide_eq_true_eq]
  exact⟨Nat.le_trans (by omega) (by decide:1000000≤sizeLine),by omega⟩
 unfold reprD
 simp only[hde,e1]
 rw[if_pos hok]
theorem wts_le {c:Nat} :∀ {l:List D},(∀ x ∈ l,wt x≤c)→wts l≤c*l.length
 | [],_=>by simp[wts]
 |x::l,h=>by
  have h1:=h x List.mem_cons_self
  have h2:=wts_le fun y hy=>h y (List.mem_cons_of_mem x hy)
  simp only[wts,List.length_cons,Nat.mul_succ]
  omega
theorem dps_le {c:Nat} :∀ {l:List D},(∀ x ∈ l,dp x≤c)→dps l≤c
 | [],_=>by simp[dps]
 |x::l,h=>by
  have h1:=h x List.mem_cons_self
  have h2:=dps_le fun y hy=>h y (List.mem_cons_of_mem x hy)
  simp only[dps]
  omega
theorem shows_tup {l:List D} (hu:∀x ∈ l,U 60 x) (hl:l.length≤60) (hw:∀x ∈ l,wt x≤4000) (hd:∀x ∈ l,dp x≤10):∃z:Str,(∀ S,reprD [.tup l] S= .ok (.str z) S)∧PyData.strOk z=true:=by
 refine shows (.tup hl hu) ?_ ?_
 ·have:=wts_le hw
  have:4000*l.length≤4000*60:=Nat.mul_le_mul_left _ hl
  simp only[wt];omega
 ·have:=dps_le hd
  simp only[dp];omega
theorem name_show (g:Good t) (hl:(ssT (freeL t)).length≤60):∃z:Str,(∀ S,reprD [.tup ((ssT (freeL t)).map .str)] S= .ok (.str z) S)∧PyData.strOk z=true:=by
 refine shows_tup (fun x hx=> ?_) (by rw[List.length_map];exact hl) (fun x hx=> ?_) (fun x hx=> ?_)
 ·obtain⟨s,hs,rfl⟩:=List.mem_map.mp hx
  exact .str (name_asc (free_name s t g (ssT_mem.mp hs)))
 ·obtain⟨s,hs,rfl⟩:=List.mem_map.mp hx
  simp[wt]
 ·obtain⟨s,hs,rfl⟩:=List.mem_map.mp hx
  simp[dp]
theorem gv_u (P:Pg t) {s:Str} {q:List Nat} {d:D} (h:gv [] t [] q=some (s,d)):U 60 d∧wt d≤1000∧dp d≤1:=by
 rcases L3.gv_val (t:=t) (p:= []) (u:=t) ⟨by simp,by simp,by simp⟩ rfl h with rfl|⟨q',hq',rfl⟩
 ·exact⟨.non,by simp[wt],by simp[dp]⟩
 ·obtain⟨v,hv⟩:=Tm.spots_at.mp hq'
  have h6:=at_lt6 P.g hv
  have hd:=Tm.at_dep hv
  have:=P.d
  refine⟨.tup (by simp;omega) fun x hx=> ?_,?_,?_⟩
  ·obtain⟨i,hi,rfl⟩:=List.mem_map.mp hx
   have:=h6 i hi
   exact .int (by omega) (by omega)
  ·show 100+wts (Od.inz q')≤1000
   rw[Od.wts_ints];omega
  ·show 1+dps (Od.inz q')≤1
   rw[Od.dps_all Od.d_ints];omega
theorem pairs_show (P:Pg t) (O:Own t es) (h:t.at p=some u) (hl:(ssT (freeL u)).length≤60):∃z:Str,(∀ S,reprD [.tup ((ssT (freeL u)).map (prU t p))] S= .ok (.str z) S)∧PyData.strOk z=true:=by
 have one:∀s ∈ ssT (freeL u),U 60 (prU t p s)∧wt (prU t p s)≤4000∧dp (prU t p s)≤10:=fun s hs=>by
  obtain⟨x,hx,hc,rfl⟩:=O.back h (ssT_mem.mp hs)
  have e:=(O.tk h hx hc).2
  unfold prU
  rw[← e]
  obtain⟨g1,g2,g3⟩:=gv_u P (O.gv x hx)
  refine⟨.tup (by simp) fun y hy=> ?_,?_,?_⟩
  ·simp only[List.mem_cons,List.not_mem_nil,or_false] at hy
   rcases hy with rfl|rfl
   ·exact .str (name_asc (O.nm P.g hx))
   ·exact g1
  ·simp only[wt,wts];omega
  ·simp only[dp,dps];omega
 refine shows_tup (fun x hx=> ?_) (by rw[List.length_map];exact hl) (fun x hx=> ?_) (fun x hx=> ?_)
 ·obtain⟨s,hs,rfl⟩:=List.mem_map.mp hx
  exact(one s hs).1
 ·obtain⟨s,hs,rfl⟩:=List.mem_map.mp hx
  exact(one s hs).2.1
 ·obtain⟨s,hs,rfl⟩:=List.mem_map.mp hx
  exact(one s hs).2.2
theorem ne_two {z:Str} (h:PyData.strOk z=true) (S:Store):neD (.lst [.str z, .str z]) (.lst [.str z, .str z]) S= .ok (.bl false) S:=by
 have:=ne_lst_self (l:= [z,z]) (S:=S) (fun s hs=>by simp at hs;rw[hs];exact h)
 simpa using this
theorem put_key {L:List Str} {s:Str} :putD (L.map fun s=>((.inr s:Key),D.bl true)) (.inr s) (.bl true)=(if s ∈ L then L else L++ [s]).map fun s=>((.inr s:Key),D.bl true):=by
 unfold putD
 by_cases h:s ∈ L
 ·rw[if_pos,if_pos h]
  ·rw[List.map_map]
   apply List.map_congr_left
   intro b _
   simp only[Function.comp]
   split<;>rfl
  ·simp only[List.any_map,List.any_eq_true,Function.comp,decide_eq_true_eq]
   exact⟨s,h,rfl⟩
 ·rw[if_neg,if_neg h]
  ·simp
  ·simp only[List.any_map,List.any_eq_true,Function.comp,decide_eq_true_eq,not_exists,not_and]
   intro b hb e
   cases e
   exact h hb
def frees (l:List En) (L:List Str):Prop:=L.Nodup∧L.length≤l.length∧∀s,s ∈ L↔∃x ∈ l,x.g=none∧x.s=s
noncomputable def freeB:SD:=(sIf (tOfE (e2 isNonD (eVar 5) (eK .non))) (sAsg (eK (.bl true)) (gSub (eVar 3) (eVar 4))) (sSkip))
theorem free_loop2 {N M:Nat} {x0 x2 a6 a7:Option D} (hne:N≠M) (hle:es.length≤400):∀(l done:List En) {a4 a5:Option D} {S:Store} {L:List Str},done++l=es→S[N]? =some .dead→S[M]? =some (.dK (L.map fun s=>((.inr s:Key),D.bl true)))→frees done L→
 ∀ {Nn B C:EnvD→Store→Prop} {T:D→Store→Prop},(∀ (L:List Str) (b4 b5:Option D) (S':Store),frees es L→S'[M]? =some (.dK (L.map fun s=>((.inr s:Key),D.bl true)))→(∀ i,i≠M→S'[i]? =S[i]?)→Nn [x0,some (.obj N),x2,some (.obj M),b4,b5,a6,a7] S')→
 (forL (L3.gTup [4,5]) freeB ((l.map eO).map (·.2)) [x0,some (.obj N),x2,some (.obj M),a4,a5,a6,a7] S).sat Nn T B C
 | [],done,a4,a5,S,L,hd,hN,hM,hf,Nn,B,C,T,hQ=>by
   rw[List.append_nil] at hd
   subst hd
   simp only[List.map_nil]
   unfold forL
   rw[ssat_nx]
   exact hQ L _ _ S hf hM fun i _=>rfl
 |x::l,done,a4,a5,S,L,hd,hN,hM,hf,Nn,B,C,T,hQ=>by
  have hMl:=(List.getElem?_eq_some_iff.mp hM).1
  show(forL (L3.gTup [4,5]) freeB (.tup [.str x.s,gD x.g] ::(l.map eO).map (·.2)) [x0,some (.obj N),x2,some (.obj M),a4,a5,a6,a7] S).sat Nn T B C
  unfold forL
  have hg:(L3.gTup [4,5]) (.tup [.str x.s,gD x.g]) [x0,some (.obj N),x2,some (.obj M),a4,a5,a6,a7] S= .nx [x0,some (.obj N),x2,some (.obj M),some (.str x.s),some (gD x.g),a6,a7] S:=rfl
  rw[hg]
  simp only []
  have next:∀(S2:Store) (L2:List Str),S2[N]? =some .dead→S2[M]? =some (.dK (L2.map fun s=>((.inr s:Key),D.bl true)))→frees (done++ [x]) L2→(∀ i,i≠M→S2[i]? =S[i]?)→
   (forL (L3.gTup [4,5]) freeB ((l.map eO).map (·.2)) [x0,some (.obj N),x2,some (.obj M),some (.str x.s),some (gD x.g),a6,a7] S2).sat Nn T B C:=fun S2 L2 h1 h2 h3 h4=>
   free_loop2 hne hle l (done++ [x]) (by rw[List.append_assoc];exact hd) h1 h2 h3 fun L3' b4 b5 S' g1 g2 g3=>hQ L3' b4 b5 S' g1 g2 fun i hi=>by rw[g3 i hi,h4 i hi]
  cases hgx:x.g with
  |some gg=>
   have e:freeB [x0,some (.obj N),x2,some (.obj M),some (.str x.s),some (gD (some gg)),a6,a7] S= .nx [x0,some (.obj N),x2,some (.obj M),some (.str x.s),some (gD (some gg)),a6,a7] S:=rfl
   rw[e]
   simp only []
   have:=next S L hN hM ⟨hf.1,by have:=hf.2.1;simp;omega,fun s=>by
    rw[hf.2.2 s]
    constructor
    ·rintro⟨y,hy,h⟩;exact⟨y,by simp[hy],h⟩
    ·rintro⟨y,hy,h,e⟩
     rcases List.mem_append.mp hy with hy|hy
     ·exact⟨y,hy,h,e⟩
     ·rw[List.mem_singleton.mp hy,hgx] at h;cases h⟩ fun i _=>rfl
   rw[hgx] at this
   exact this
  |none=>
   have hset:setD (.obj M) (.str x.s) (.bl true) S=some (S.set M (.dK ((if x.s ∈ L then L else L++ [x.s]).map fun s=>((.inr s:Key),D.bl true)))):=by
    have ek:keyOf (.str x.s)=some (.inr x.s):=rfl
    unfold setD
    simp only[hM,ek]
    rw[if_pos,put_key]
    have:=hf.2.1
    have hl2:done.length≤es.length:=by rw[← hd];simp
    rw[List.length_map]
    exact Nat.lt_of_lt_of_le (by omega:L.length<1000) (by decide)
   have e:freeB [x0,some (.obj N),x2,some (.obj M),some (.str x.s),some (gD none),a6,a7] S= .nx [x0,some (.obj N),x2,some (.obj M),some (.str x.s),some (gD none),a6,a7] (S.set M (.dK ((if x.s ∈ L then L else L++ [x.s]).map fun s=>((.inr s:Key),D.bl true)))):=by
    show(L3.gSub (eVar 3) (eVar 4) (.bl true) [x0,some (.obj N),x2,some (.obj M),some (.str x.s),some (gD none),a6,a7] S)=_
    unfold L3.gSub
    simp only[eVar,List.getElem?_cons_succ,List.getElem?_cons_zero,hset]
   rw[e]
   simp only []
   have:=next (S.set M (.dK ((if x.s ∈ L then L else L++ [x.s]).map fun s=>((.inr s:Key),D.bl true)))) _ (by rw[List.getElem?_set_ne (Ne.symm hne)];exact hN) (List.getElem?_set_self hMl) (by
    by_cases hm:x.s ∈ L
    ·rw[if_pos hm]
     refine⟨hf.1,by have:=hf.2.1;simp;omega,fun s=> ?_⟩
     rw[hf.2.2 s]
     constructor
     ·rintro⟨y,hy,h⟩;exact⟨y,by simp[hy],h⟩
     ·rintro⟨y,hy,h,e⟩
      rcases List.mem_append.mp hy with hy|hy
      ·exact⟨y,hy,h,e⟩
      ·rw[List.mem_singleton.mp hy] at e
       exact(hf.2.2 s).mp (e▸hm)
    ·rw[if_neg hm]
     refine⟨List.nodup_append.mpr ⟨hf.1,by simp,fun a ha b hb e=>hm (by rw[List.mem_singleton.mp hb] at e;exact e▸ha)⟩,by have:=hf.2.1;simp;omega,fun s=> ?_⟩
     rw[List.mem_append,hf.2.2 s,List.mem_singleton]
     constructor
     ·rintro(⟨y,hy,h⟩|rfl)
      ·exact⟨y,by simp[hy],h⟩
      ·exact⟨x,by simp,hgx,rfl⟩
     ·rintro⟨y,hy,h,e⟩
      rcases List.mem_append.mp hy with hy|hy
      ·exact .inl ⟨y,hy,h,e⟩
      ·rw[List.mem_singleton.mp hy] at e;exact .inr e.symm) fun i hi=>by rw[List.getElem?_set_ne (Ne.symm hi)]
   rw[hgx] at this
   exact this
theorem sorted_free {M:Nat} {L:List Str} (hM:S[M]? =some (.dK (L.map fun s=>((.inr s:Key),D.bl true)))) (nd:L.Nodup) (hl:L.length≤400) (hs:∀s ∈ L,PyData.strOk s=true):sortedAD [.obj M] S= .ok (.lst ((ssT L).map .str)) S:=by
 unfold sortedAD
 have e1:dkAt (.obj M) S=some (L.map fun s=>((.inr s:Key),D.bl true)):=by simp only[dkAt,hM]
 simp only[e1]
 have e2:keysD (L.map fun s=>((.inr s:Key),D.bl true))=L.map .str:=by
  unfold keysD
  rw[List.map_map]
  rfl
 rw[e2,if_pos (sortOk_strs hs (by omega))]
 congr 2
 unfold sortL ssT
 rw[ddS_self nd]
 exact(List.map_mergeSort (f:=D.str) fun a ha b hb=>(srt_str (hs a ha) (hs b hb)).symm).symm
end K05
namespace K05
open PySem L2 L3
variable {S S' S1:Store} {n m k:Nat} {t u:Tm} {p q:List Nat} {es:List En}
theorem frees_iff (O:Own t es) {L:List Str} (h:frees es L) (s:Str):s ∈ L↔s ∈ freeL t:=by
 rw[h.2.2 s,←gv_free0]
 constructor
 ·rintro⟨x,hx,hg,rfl⟩
  have:=O.gv x hx
  rw[hg] at this
  exact⟨x.q,this⟩
 ·rintro⟨r,hr⟩
  obtain⟨x,hx,hq⟩:=O.all _ _ _ hr
  have h2:=O.gv x hx
  rw[hq,hr] at h2
  simp only[Option.some.injEq,Prod.mk.injEq] at h2
  refine⟨x,hx,?_,h2.1.symm⟩
  cases hg:x.g with
  |none=>rfl
  |some g=>rw[hg] at h2;simp[gD,pl] at h2
theorem mk2 (a b:D) (S:Store):mkLst [a,b] S= .ok (.lst [a,b]) S:=by
 apply of_sat;rw[sat_mkLst];exact⟨small (by simp),rfl,rfl⟩
theorem right_ok (P:Pg t) (h0:S[(0:Nat)]? =some TAB):(Fs 69 18 [t.d] S).sat fun d S'=>d= .bl true∧Ext S S':=by
 have hz:=P.z
 have hd:=P.d
 have hlt0:=(List.getElem?_eq_some_iff.mp h0).1
 rw[show (69:Nat)=68+1 from rfl,Fs_law_right,sat_run]
 refine⟨rfl,?_⟩
 unfold m_law_right
 simp only[List.map_cons,List.map_nil,List.cons_append,List.nil_append,List.length_cons,List.length_nil,List.replicate,Nat.zero_add,Nat.reduceAdd,Nat.reduceSub]
 refine seq_rule (fun e S1=>∃es,Own t es∧e= [some t.d,some (.obj S.length),some (.lst (t.spots.map pl)),none,none,none,none,none] ∧S1[S.length]? =some (.dT (es.map eO))∧Ext S S1) ?_ ?_
 ·simp only[ssat_par,sat_aCons,sat_aNil,sat_eN,sat_eVar,List.getElem?_cons_succ,List.getElem?_cons_zero,callK_eq,List.append_nil]
  refine sat_mono (givers P.g (by omega) S) fun d S1 ⟨e,⟨F,h1,h2,h3,h4,h5⟩,g1⟩=> ?_
  subst e
  obtain⟨es,rfl,O⟩:=own_of h2 h3 h4 h5
  refine sat_mono (spots 9 59 (by decide) (t:=t) S1 (by omega) (by omega)) fun d S2 ⟨e,g2⟩=> ?_
  subst e
  simp only[gNames_cons,gNames_nil,ssat_nx,List.set_cons_succ,List.set_cons_zero]
  exact⟨es,O,trivial,g2.fr _ _ h1,Ext.grow (g1.trans g2)⟩
 rintro e S1 ⟨es,O,rfl,hN,x1⟩
 have hes:=O.len
 have hN1:=(List.getElem?_eq_some_iff.mp hN).1
 refine step_asg (S1:=S1++ [.dK []]) (S2:=S1++ [.dK []]) (d:= .obj S1.length) rfl rfl ?_
 simp only[List.set_cons_succ,List.set_cons_zero]
 refine seq_rule (fun e S2=>∃L b4 b5,frees es L∧e= [some t.d,some (.obj S.length),some (.lst (t.spots.map pl)),some (.obj S1.length),b4,b5,none,none] ∧S2[S1.length]? =some (.dK (L.map fun s=>((.inr s:Key),D.bl true)))∧(∀ i,i<S1.length→S2[i]? =S1[i]?)) ?_ ?_
 ·refine ssat_forLk (n:=S.length) (ob:= .dT (es.map eO)) (ps:=(es.map eO).map (·.2)) (fun S=>rfl) (by rw[List.getElem?_append_left hN1];exact hN) rfl ?_
  refine free_loop2 (es:=es) (M:=S1.length) (by omega) (by omega) es [] (L:= []) rfl (by rw[List.getElem?_set_self (by simp;omega)]) (by rw[List.getElem?_set_ne (by omega)];simp) ⟨by simp,by simp,by simp⟩ ?_
  intro L b4 b5 S' hf hM hS
  have hMl:=(List.getElem?_eq_some_iff.mp hM).1
  have hdd:S'[S.length]? =some .dead:=by
   rw[hS S.length (by omega),List.getElem?_set_self (by simp;omega)]
  refine⟨hdd,L,b4,b5,hf,rfl,by rw[List.getElem?_set_ne (by omega)];exact hM,fun i hi=> ?_⟩
  by_cases hiN:S.length=i
  ·subst hiN
   rw[List.getElem?_set_self (by omega),hN]
  ·rw[List.getElem?_set_ne hiN,hS i (by omega),List.getElem?_set_ne hiN,List.getElem?_append_left hi]
 rintro e S2 ⟨L,b4,b5,hf,rfl,hM,hS2⟩
 have hMl:=(List.getElem?_eq_some_iff.mp hM).1
 have x2:Ext S1 S2:=⟨by omega,fun i o hi=>by rw[hS2 i (List.getElem?_eq_some_iff.mp hi).1];exact hi⟩
 have hL:ssT L=ssT (freeL t):=ssT_ext (frees_iff O hf)
 have hL60:(ssT (freeL t)).length≤60:=by
  rw[← hL]
  have:=ssT_len L
  have:=hf.2.1
  omega
 obtain⟨z,hz1,hz2⟩:=name_show P.g hL60
 refine step_asg (S1:=S2) (S2:=S2) (d:= .str z) (of_sat (by
  simp only[sat_eN,sat_aCons,sat_aNil,sat_eVar,List.getElem?_cons_succ,List.getElem?_cons_zero]
  rw[sorted_free hM hf.1 (by have:=hf.2.1;omega) (fun s hs=>asc_ok (name_asc (free_name s t P.g ((frees_iff O hf s).mp hs)))),sat_ok,tuple_lst,sat_ok,hL,hz1,sat_ok]
  exact⟨rfl,rfl⟩)) rfl ?_
 simp only[List.set_cons_succ,List.set_cons_zero]
 have kf:∀S,kwK (Fs 68 6) 0 1 kbd_free_in_0_program_g [] [t.d] S=Fs 68 6 [t.d] S:=fun S=>by
  have:∀(f:FN),kwK f 0 1 kbd_free_in_0_program_g [] [t.d] S=f [t.d] S:=fun f=>rfl
  exact this _
 have ka:∀(p:List Nat) S,kwK (Fs 68 7) 0 2 kbd_asked_at_0_place_program_g [] [pl p,t.d] S=Fs 68 7 [t.d,pl p] S:=fun p S=>by
  have:∀(f:FN),kwK f 0 2 kbd_asked_at_0_place_program_g [] [pl p,t.d] S=f [t.d,pl p] S:=fun f=>rfl
  exact this _
 rw[ssat_seq,ssat_if]
 simp only[sat_tOfE,sat_e2,sat_eN,sat_eKw,sat_aCons,sat_aNil,sat_eVar,List.getElem?_cons_succ,List.getElem?_cons_zero,callK_eq,List.append_nil]
 refine sat_mono (free_ok (k:=66) (by decide) P.g (by omega)) ?_
 rintro d S3 ⟨rfl,x3⟩
 rw[hz1,sat_ok,kf]
 refine sat_mono (free_ok (k:=66) (by decide) P.g (by omega)) ?_
 rintro d S4 ⟨rfl,x4⟩
 rw[hz1,sat_ok,mk2,sat_ok,mk2,sat_ok,ne_two hz2,sat_ok,blD_bl,sat_ok,if_neg Bool.false_ne_true,ssat_skip]
 have x14:=(x2.trans x3).trans x4
 refine seq_rule (fun e S5=>Ext S1 S5) ?_ ?_
 ·rw[ssat_for,sat_iSeq]
  simp only[sat_eVar,List.getElem?_cons_succ,List.getElem?_cons_zero,itemsD_lst,sat_ok]
  refine for_n (fun e S5=>(∃ c6 c7,e= [some t.d,some (.obj S.length),some (.lst (t.spots.map pl)),some (.obj S1.length),b4,b5,c6,c7])∧Ext S1 S5) ⟨⟨_,_,rfl⟩,x14⟩ ?_ (fun e S h=>h.2)
  rintro x hx e S5 ⟨⟨c6,c7,rfl⟩,x5⟩
  obtain⟨p,hp,rfl⟩:=List.mem_map.mp hx
  obtain⟨u,hu⟩:=Tm.spots_at.mp hp
  simp only[List.set_cons_succ,List.set_cons_zero]
  have h05:S5[(0:Nat)]? =some TAB:=x5.fr 0 _ (x1.fr 0 _ h0)
  refine seq_rule (fun e S6=>∃z,(∀ S,reprD [.tup ((ssT (freeL u)).map (prU t p))] S= .ok (.str z) S)∧PyData.strOk z=true∧e= [some t.d,some (.obj S.length),some (.lst (t.spots.map pl)),some (.obj S1.length),b4,b5,some (.str z),some (pl p)] ∧Ext S1 S6) ?_ ?_
  ·rw[ssat_asg]
   simp only[sat_eN,sat_aCons,sat_aNil,sat_eVar,List.getElem?_cons_succ,List.getElem?_cons_zero,callK_eq,List.append_nil]
   refine sat_mono (asked 67 P hu O (x5.fr _ _ hN) h05) ?_
   rintro d S6 ⟨rfl,x6,l60⟩
   obtain⟨z,z1,z2⟩:=pairs_show P O hu l60
   rw[z1,sat_ok]
   simp only[gName_eq,ssat_nx,List.set_cons_succ,List.set_cons_zero]
   exact⟨z,z1,z2,rfl,x5.trans x6⟩
  rintro e S6 ⟨z,z1,z2,rfl,x6⟩
  rw[ssat_if]
  simp only[sat_tOfE,sat_e2,sat_eN,sat_eKw,sat_aCons,sat_aNil,sat_eVar,List.getElem?_cons_succ,List.getElem?_cons_zero,callK_eq,List.append_nil]
  refine sat_mono (asked_at (S:=S6) 64 P.g P.z hu) ?_
  rintro d S7 ⟨rfl,x7⟩
  rw[z1,sat_ok,ka]
  refine sat_mono (asked_at (S:=S7) 64 P.g P.z hu) ?_
  rintro d S8 ⟨rfl,x8⟩
  rw[z1,sat_ok,mk2,sat_ok,mk2,sat_ok,ne_two z2,sat_ok,blD_bl,sat_ok,if_neg Bool.false_ne_true,ssat_skip]
  exact⟨⟨_,_,rfl⟩,(x6.trans x7).trans x8⟩
 intro e S5 x5
 rw[ssat_sRet,sat_eK]
 exact⟨rfl,x1.trans x5⟩
theorem refused_ok {x:D} (h:NoPl t x) (hs:∃z:Str,∀S,reprD [x] S= .ok (.str z) S):Fs 69 19 [t.d,x] S= .ok (.bl true) S:=by
 obtain⟨z,hz⟩:=hs
 have e0:Fs 68 7 [t.d,x] S= .exc (noP x) S:=by
  rw[show (68:Nat)=67+1 from rfl,Fs_asked_at]
  have a:Fs 67 2 [t.d,x] S= .exc (noP x) S:=(at_ 64).2 S h
  unfold L3.run m_asked_at sSeq sExpr
  have:(eN (callK (Fs 67 2) []) (aCons (eVar 0) (aCons (eVar 1) (aNil)))) [some t.d,some x,none] S= .exc (noP x) S:=by
   show(callK (Fs 67 2) [] [t.d,x] S)=_
   rw[callK_eq]
   exact a
  simp only[List.map_cons,List.map_nil,List.cons_append,List.nil_append,List.length_cons,List.length_nil,List.replicate,Nat.zero_add,Nat.reduceAdd,Nat.reduceSub,if_true]
  rw[this]
  rfl
 apply of_sat
 rw[show (69:Nat)=68+1 from rfl,Fs_law_refused,sat_run]
 refine⟨rfl,?_⟩
 unfold m_law_refused
 simp only[List.map_cons,List.map_nil,List.cons_append,List.nil_append,List.length_cons,List.length_nil,List.replicate,Nat.zero_add,Nat.reduceAdd,Nat.reduceSub]
 refine step_asg (S1:=S) (S2:=S) (d:= .non) rfl rfl ?_
 simp only[List.set_cons_succ,List.set_cons_zero]
 have tr:sTry (sExpr (eN (callK (Fs 68 7) []) (aCons (eVar 0) (aCons (eVar 1) (aNil))))) [⟨["NoPlace"],[],(some 3),sAsg (eVar 3) (gName 2)⟩] [some t.d,some x,some .non,none] S= .nx [some t.d,some x,some (noP x).d,none] S:=by
  have:(eN (callK (Fs 68 7) []) (aCons (eVar 0) (aCons (eVar 1) (aNil)))) [some t.d,some x,some .non,none] S= .exc (noP x) S:=by
   show(callK (Fs 68 7) [] [t.d,x] S)=_
   rw[callK_eq]
   exact e0
  unfold sTry sExpr
  rw[this]
  simp only[R.toS,hdsD,noP,List.mem_singleton,if_true]
  rfl
 rw[ssat_seq,tr,ssat_nx]
 have b1:isxD ["NoPlace"] [] (noP x).d S= .ok (.bl true) S:=by
  show(if("NoPlace" :Str) ∈ (["NoPlace"] :List Str) then L3.R.ok (D.bl true) S else if("NoPlace" :Str) ∈ ([] :List Str) then L3.R.ok (D.bl false) S else L3.R.bad)=_
  rw[if_pos (by simp)]
 have b2:isxD [] ["NoPlace"] (noP x).d S= .ok (.bl false) S:=by
  show(if("NoPlace" :Str) ∈ ([] :List Str) then L3.R.ok (D.bl true) S else if("NoPlace" :Str) ∈ (["NoPlace"] :List Str) then L3.R.ok (D.bl false) S else L3.R.bad)=_
  rw[if_neg (by simp),if_pos (by simp)]
 have b3:xfD ["NoPlace"] "place" (noP x).d S= .ok x S:=by
  show(if("NoPlace" :Str) ∈ (["NoPlace"] :List Str) then _ else R.bad)=_
  rw[if_pos (by simp)]
  rfl
 rw[ssat_seq,ssat_if]
 simp only[sat_tOr,sat_tNot,sat_tTruth,sat_e1,sat_eVar,List.getElem?_cons_succ,List.getElem?_cons_zero]
 rw[b1,sat_ok,truthD_bl,sat_ok,show(!true)=false from rfl,if_neg Bool.false_ne_true,b2,sat_ok,truthD_bl,sat_ok,if_neg Bool.false_ne_true,ssat_skip]
 rw[ssat_sRet]
 simp only[sat_e2,sat_eN,sat_aCons,sat_aNil,sat_e1,sat_eVar,List.getElem?_cons_succ,List.getElem?_cons_zero]
 rw[b3,sat_ok,hz,sat_ok,hz,sat_ok,eq_strs,sat_ok]
 exact⟨by simp,rfl⟩
end K05
namespace K05
open PySem L2 L3
variable {S S' S1:Store} {n m k:Nat} {t u:Tm} {p q:List Nat}
def odds4 (q:List Nat):List D:=
 [.tup (nis q++ [.int 6]), .tup (nis q++ [.int (-1)]), .tup (nis q++ [.bl true]), .lst (nis q), .non, .int 0, .str "", .dic [] [], .tup [.non], .lst [.int 0]]
theorem odds4_sub {q:List Nat} :∀d ∈ odds4 q,d ∈ odds q++odds2 q:=by
 intro d hd
 simp only[odds4,List.mem_cons,List.not_mem_nil,or_false] at hd
 simp only[odds,odds2,List.mem_append,List.mem_cons,List.not_mem_nil,or_false]
 rcases hd with h|h|h|h|h|h|h|h|h|h<;>subst h<;>simp
theorem mkLst10 {S:Store} {a b c d e f g h i j:D} :mkLst [a,b,c,d,e,f,g,h,i,j] S= .ok (.lst [a,b,c,d,e,f,g,h,i,j]) S:=by
 apply of_sat;rw[sat_mkLst];exact⟨small (by simp),rfl,rfl⟩
structure Jv (A:Nat) (S:Store):Prop where
 a0:A≠0
 tab:S[(0:Nat)]? =some TAB
 ah:∃ts:List Tm,S[A]? =some (.lst (ts.map Tm.d))∧ts.length≤10∧∀t ∈ ts,Pg t
theorem ext_frh (hS:Hand n S) (x:Ext S S'):FrH n S S':=⟨x.le,fun i o _ h=>x.fr i o h,let⟨g,s,e⟩:=hS;⟨g,s,x.fr _ _ e⟩⟩
theorem lc_right {env:EnvD} (h6:∀x,(env.set 6 (some x))[6]? =some (some x)):∀ {l:List D} {S:Store} {Q:List D→Store→Prop},(∀ x ∈ l,∃t,x=t.d∧Pg t)→S[(0:Nat)]? =some TAB→(∀ S',Ext S S'→Q ((l.map fun _=>true).map .bl) S')→
 lcSat (gName 6) tYesD (eN (callK (Fs 69 18) []) (aCons (eVar 6) (aNil))) env l S Q
 | [],S,Q,h,h0,q=>q S (Ext.refl S)
 |x::l,S,Q,h,h0,q=>by
  obtain⟨t,rfl,P⟩:=h x List.mem_cons_self
  unfold lcSat
  simp only[L3.gName,tYesD,sat_ok,if_true]
  rw[sat_eN]
  simp only[sat_aCons,sat_aNil,sat_eVar,h6,callK_eq,List.append_nil]
  refine sat_mono (right_ok P h0) ?_
  rintro d S1 ⟨rfl,x1⟩
  exact lc_right h6 (Q:=fun ys S4=>Q (D.bl true::ys) S4) (fun y hy=>h y (List.mem_cons_of_mem _ hy)) (x1.fr 0 _ h0) fun S' x'=>q S' (x1.trans x')
theorem law_true (ns:List Int) (hns:ns.length≤63):∃S,Fs 70 20 [.scr ns] [.tab "_law_asked" ((("_law_asked":Str)++ ".<locals>.")++ "<lambda>")] = .ok (.bl true) S:=by
 have key:(Fs 70 20 [.scr ns] [TAB]).sat fun d _=>d= .bl true:=by
  rw[show (70:Nat)=69+1 from rfl,Fs_law,sat_run]
  refine⟨rfl,?_⟩
  unfold m_law
  simp only[List.map_cons,List.map_nil,List.cons_append,List.nil_append,List.length_cons,List.length_nil,List.replicate,Nat.zero_add,Nat.reduceAdd,Nat.reduceSub]
  have o1:(eN mkObj aNil) [some (D.scr ns),none,none,none,none,none,none,none,none,none,none] [TAB] = .ok (.obj 1) [TAB, .lst []] :=by
   have:mkObj [] [TAB] = .ok (.obj 1) [TAB, .lst []] :=by
    unfold mkObj
    rw[if_pos (small (by simp))]
    rfl
   exact this
  refine step_asg o1 rfl ?_
  simp only[List.set_cons_succ,List.set_cons_zero]
  refine seq_rule (fun e S=>True) ?_ fun e S _=>by simp
  obtain⟨m,hm,em⟩:∃m:Nat,m≤5∧∀S,(eN maxD (aCons (eK (.int 1)) (aCons (eN minD (aCons (eK (.int 5)) (aCons (eN lenD (aCons (eVar 0) (aNil))) (aNil)))) (aNil))) [some (.scr ns),some (.obj 1),none,none,none,none,none,none,none,none,none] S)= .ok (.int m) S:=by
   refine⟨max 1 (min 5 ns.length),by omega,fun S=> ?_⟩
   apply of_sat
   simp[minD,maxD]
   repeat' split
   all_goals omega
  simp only[ssat_for,sat_iArgs,sat_aCons,sat_aNil,em,sat_ok,sat_range1]
  refine⟨by simp[okRng];omega,?_⟩
  have hA:(1:Nat)≠0:=by decide
  refine for_rule (fun j e S=>(∃ a2 a3 a4 a5 a6 a7 a8 a9 a10:Option D,e= [some (.scr ns),some (.obj 1),a2,a3,a4,a5,a6,a7,a8,a9,a10])∧S[(0:Nat)]? =some TAB∧∃ts:List Tm,S[(1:Nat)]? =some (.lst (ts.map Tm.d))∧ts.length≤j∧∀t ∈ ts,Pg t) ⟨⟨_,_,_,_,_,_,_,_,_,rfl⟩,rfl,[],rfl,by simp,by simp⟩ ?_ (fun _ _ _=>trivial)
  rintro j hj e S ⟨⟨a2,a3,a4,a5,a6,a7,a8,a9,a10,rfl⟩,h0,ts,hts,htl,hpg⟩
  have hj5:j<5:=by rw[rangeD_len] at hj;omega
  obtain⟨i,hi',i0,i1⟩:=mem_range (List.getElem_mem hj)
  rw[hi']
  have jv:Jv 1 S:=⟨hA,h0,ts,hts,by omega,hpg⟩
  simp only[gName_eq,ssat_nx,List.set_cons_succ,List.set_cons_zero]
  refine seq_rule (fun e S1=>∃n,e= [some (.scr ns),some (.obj 1),some (.int i),some (.obj n),a4,a5,a6,a7,a8,a9,a10] ∧Hand n S1∧n≠0∧n≠1∧S1[(0:Nat)]? =some TAB∧S1[(1:Nat)]? =some (.lst (ts.map Tm.d))) ?_ ?_
  ·simp only[ssat_asg,sat_eN,sat_aCons,sat_aNil,sat_eVar,List.getElem?_cons_succ,List.getElem?_cons_zero,callK_eq,List.append_nil]
   have hd:IsHand (Fs 69 8):=by rw[show (69:Nat)=68+1 from rfl,Fs_law_hand];exact isHand
   refine sat_mono (hd S ns i i0 (by omega)) fun d S' ⟨e,g,s,eS⟩=> ?_
   subst e eS
   have l0:=(List.getElem?_eq_some_iff.mp h0).1
   have l1:=(List.getElem?_eq_some_iff.mp hts).1
   simp only[gName_eq,ssat_nx,List.set_cons_succ,List.set_cons_zero]
   exact⟨_,rfl,⟨g,s,by simp⟩,by omega,by omega,by rw[List.getElem?_append_left l0];exact h0,by rw[List.getElem?_append_left l1];exact hts⟩
  rintro e S1 ⟨n,rfl,hS1,n0,n1,h01,ht1⟩
  refine seq_rule (fun e S2=>∃t:Tm,Pg t∧e= [some (.scr ns),some (.obj 1),some (.int i),some (.obj n),some t.d,a5,a6,a7,a8,a9,a10] ∧FrH n S1 S2) ?_ ?_
  ·simp only[ssat_asg,sat_eN,sat_aCons,sat_aNil,sat_eVar,sat_eK,sat_e2,List.getElem?_cons_succ,List.getElem?_cons_zero,callK_eq,List.append_nil]
   refine sat_mono (tk 68 n S1 22 hS1 (by decide) (by decide)) fun d S2 ⟨⟨f,e,f0,f1⟩,fr⟩=> ?_
   subst e
   rw[add_int,sat_ok]
   have:=code 56 (left:=(6+f).toNat) fr.hd
   rw[show (((6+f).toNat:Nat):Int)=6+f by omega] at this
   refine sat_mono this fun d S3 ⟨t,e,g,dp,sz,fr2⟩=> ?_
   subst e
   simp only[gName_eq,ssat_nx,List.set_cons_succ,List.set_cons_zero]
   exact⟨t,⟨g,by omega,dp⟩,rfl,fr.trans fr2⟩
  rintro e S2 ⟨t,P,rfl,fr2⟩
  have hS2:=fr2.hd
  have h02:=fr2.fr 0 _ (Ne.symm n0) h01
  have ht2:=fr2.fr 1 _ (Ne.symm n1) ht1
  have PL:L3.Pg t:=⟨Good.u t P.g,P.z,P.d⟩
  obtain⟨z,hz⟩:=PL.show
  have hz2:=P.z
  have hd2:=P.d
  refine step_asg (S1:=S2) (S2:=S2) (d:= .str z) (of_sat (by simp only[sat_eN,sat_aCons,sat_aNil,sat_eVar,List.getElem?_cons_succ,List.getElem?_cons_zero,hz,sat_ok,and_self])) rfl ?_
  simp only[List.set_cons_succ,List.set_cons_zero]
  rw[ssat_seq,ssat_if]
  simp only[sat_tOr,sat_tNot,sat_tTruth,sat_eN,sat_aCons,sat_aNil,sat_eVar,List.getElem?_cons_succ,List.getElem?_cons_zero,callK_eq,List.append_nil]
  refine sat_mono (right_ok P h02) ?_
  rintro d S3 ⟨rfl,x3⟩
  have h03:=x3.fr 0 _ h02
  have ht3:=x3.fr 1 _ ht2
  rw[truthD_bl,sat_ok,show(!true)=false from rfl,if_neg Bool.false_ne_true,sat_eLc,sat_iSeq]
  simp only[sat_eSl,sat_pNo,sat_pYes,sat_e1,sat_eVar,sat_eK,List.getElem?_cons_succ,List.getElem?_cons_zero,neg_int]
  refine⟨-1,rfl,?_⟩
  have hsl:slD (.obj 1) (some (-1)) none S3= .ok (.lst (cutL (ts.map Tm.d) (some (-1)) none)) S3:=by
   unfold slD
   simp only[asL,ht3]
  rw[hsl,sat_ok,itemsD_lst,sat_ok]
  have hcl:(cutL (ts.map Tm.d) (some (-1)) none).length≤10:=Nat.le_trans cutL_len (by rw[List.length_map];omega)
  refine⟨small (by omega),?_⟩
  refine lc_right (fun x=>rfl) (fun x hx=> ?_) h03 fun S4 x4=> ?_
  ·obtain⟨t',ht',rfl⟩:=List.mem_map.mp (cutL_mem hx)
   exact⟨t',rfl,hpg t' ht'⟩
  have ball:∀(l:List D),(l.map fun _=>true).all id=true:=fun l=>by simp
  rw[all_bl,ball,sat_ok,truthD_bl,sat_ok,show(!true)=false from rfl,if_neg Bool.false_ne_true,ssat_skip]
  have x24:=x3.trans x4
  have fr4:FrH n S1 S4:=fr2.trans (ext_frh hS2 x24)
  refine seq_rule (fun e S5=>(∃ a7 a8 a9 a10,e= [some (.scr ns),some (.obj 1),some (.int i),some (.obj n),some t.d,some (.str z),a6,a7,a8,a9,a10])∧FrH n S1 S5) ?_ ?_
  ·simp only[ssat_for,sat_iArgs,sat_aCons,sat_aNil,sat_eK,sat_range1]
   refine⟨by decide,?_⟩
   refine for_each (fun e S5=>(∃ a7 a8 a9 a10,e= [some (.scr ns),some (.obj 1),some (.int i),some (.obj n),some t.d,some (.str z),a6,a7,a8,a9,a10])∧FrH n S1 S5) ⟨⟨_,_,_,_,rfl⟩,fr4⟩ ?_ fun e S' h=>h
   rintro y hy e S5 ⟨⟨b7,b8,b9,b10,rfl⟩,fr5⟩
   simp only[gName_eq,ssat_nx,List.set_cons_succ,List.set_cons_zero]
   refine seq_rule (fun e S6=>(∃ q v,t.at q=some v∧e= [some (.scr ns),some (.obj 1),some (.int i),some (.obj n),some t.d,some (.str z),a6,some y,some (pl q),b9,b10])∧FrH n S1 S6) ?_ ?_
   ·simp only[ssat_asg,sat_eN,sat_aCons,sat_aNil,sat_eVar,List.getElem?_cons_succ,List.getElem?_cons_zero,callK_eq,List.append_nil]
    refine sat_mono (spots 9 60 (by decide) (t:=t) S5 (by omega) (by omega)) fun d S6 ⟨e,g6⟩=> ?_
    subst e
    have fr6:=fr5.trans (ext_frh fr5.hd (Ext.grow g6))
    refine sat_mono (pk 67 n S6 _ _ fr6.hd (.lst _) (by rw[Tm.spots_eq];simp) (by rw[List.length_map,Tm.spots_len];omega)) fun d S7 ⟨h1,h2⟩=> ?_
    obtain⟨q,hq,rfl⟩:=List.mem_map.mp h1
    obtain⟨v,hv⟩:=Tm.spots_at.mp hq
    simp only[gName_eq,ssat_nx,List.set_cons_succ,List.set_cons_zero]
    exact⟨⟨q,v,hv,rfl⟩,fr6.trans h2⟩
   rintro e S6 ⟨⟨q,v,hv,rfl⟩,fr6⟩
   obtain⟨pv,hq⟩:=PL.at hv
   refine step_asg (S1:=S6) (S2:=S6) (d:= .lst (odds4 q)) (is_ok ?_) rfl ?_
   ·have l1:mkLst [.int 0] S6= .ok (.lst [.int 0]) S6:=is_ok (by rw[sat_mkLst];exact⟨small (by simp),rfl,rfl⟩)
    simp only[sat_eN,sat_aCons,sat_aNil,sat_e2,sat_e1,sat_eVar,sat_eK,sat_eDic0,List.getElem?_cons_succ,List.getElem?_cons_zero,mkTup1,sat_ok,neg_int,list_pl,add_one (S:=S6) (q:=q) (by omega),l1,mkLst10,odds4,true_and]
   simp only[List.set_cons_succ,List.set_cons_zero]
   refine seq_rule (fun e S7=>(∃ d,d ∈ odds4 q∧e= [some (.scr ns),some (.obj 1),some (.int i),some (.obj n),some t.d,some (.str z),a6,some y,some (pl q),some (.lst (odds4 q)),some d])∧FrH n S1 S7) ?_ ?_
   ·simp only[ssat_asg,sat_eN,sat_aCons,sat_aNil,sat_eVar,List.getElem?_cons_succ,List.getElem?_cons_zero,callK_eq,List.append_nil]
    refine sat_mono (pk 67 n S6 _ _ fr6.hd (.lst _) (by simp[odds4]) (by simp[odds4])) fun d S7 ⟨h1,h2⟩=> ?_
    simp only[gName_eq,ssat_nx,List.set_cons_succ,List.set_cons_zero]
    exact⟨⟨d,h1,rfl⟩,fr6.trans h2⟩
   rintro e S7 ⟨⟨d,hd,rfl⟩,fr7⟩
   have no:=odd_no (B:=6) PL.u hv d (odds4_sub d hd)
   have sh:=repr_sh (odd_sh PL.u hv (by omega) d (odds4_sub d hd)) (by decide) (by decide)
   rw[ssat_if]
   simp only[sat_tNot,sat_tTruth,sat_eN,sat_aCons,sat_aNil,sat_eVar,List.getElem?_cons_succ,List.getElem?_cons_zero,callK_eq,List.append_nil]
   rw[refused_ok no sh,sat_ok,truthD_bl,sat_ok,show(!true)=false from rfl,if_neg Bool.false_ne_true,ssat_skip]
   exact⟨⟨_,_,_,_,rfl⟩,fr7⟩
  rintro e S5 ⟨⟨b7,b8,b9,b10,rfl⟩,fr5⟩
  refine step_no (S1:=S5) (ne_no (z:=z) (S1:=S5) (is_ok (by simp only[sat_eN,sat_aCons,sat_aNil,sat_eVar,List.getElem?_cons_succ,List.getElem?_cons_zero,hz,sat_ok,and_self])) (is_ok (by simp only[sat_eVar,List.getElem?_cons_succ,List.getElem?_cons_zero,and_self]))) ?_
  have h05:=fr5.fr 0 _ (Ne.symm n0) h01
  have ht5:=fr5.fr 1 _ (Ne.symm n1) ht1
  have l5:=(List.getElem?_eq_some_iff.mp ht5).1
  rw[ssat_sExpr,sat_eBM,sat_eVar]
  simp only[List.getElem?_cons_succ,List.getElem?_cons_zero]
  refine⟨mtD_obj ht5,?_⟩
  simp only[sat_aCons,sat_aNil,sat_eVar,List.getElem?_cons_succ,List.getElem?_cons_zero]
  rw[append_obj ht5]
  refine⟨by rw[List.length_map];exact Nat.lt_of_lt_of_le (by omega:ts.length<1000) (by decide),⟨_,_,_,_,_,_,_,_,_,rfl⟩,by rw[List.getElem?_set_ne (by decide)];exact h05,ts++ [t],by rw[List.getElem?_set_self l5];simp,by simp;omega,fun t' ht'=> ?_⟩
  rcases List.mem_append.mp ht' with h|h
  ·exact hpg t' h
  ·rw[List.mem_singleton.mp h];exact P
 obtain⟨d,S,e,rfl⟩:=sat_ex.mp key
 exact⟨S,e⟩
end K05
open PySem PySem.W PyProof.Rows in
set_option maxRecDepth 100000 in
theorem PySem.Challenge.cw_holepatterns_k05_names_free_and_asked_holds : PySem.Challenge.rw_holepatterns_k05_names_free_and_asked.Holds := by
 w_on;o_law;k_head;(case hw=>w_witness2)
 k_fill
 refine L3.walkT (l:=PySem.Challenge.rw_holepatterns_k05_names_free_and_asked) (k:=(L3.lw 70)) (x:= "_law_script") "_law_asked" rfl (by decide +kernel) rfl ⟨rfl,by decide,by decide⟩ (by decide +kernel) (fun w h Y=>by first|exact PySem.W.kIn_of Y|exact PySem.W.km_in_of Y) ?F
 case F=>
  intro w mg fa h KX G hmg
  refine' K05.all_mk KX G hmg K05.law_true ?a_Scopes ?pg_Scopes ?hd_Scopes ?po_Scopes ?sa_Scopes ?mk_Scopes ?kc_Scopes ?a_Halted ?sb_Halted ?hd_Halted ?ty_Halted ?a_Missing ?sb_Missing ?hd_Missing ?ty_Missing ?a_NoName ?sb_NoName ?hd_NoName ?ty_NoName ?a_NoNumber ?sb_NoNumber ?hd_NoNumber ?ty_NoNumber ?a_NoPlace ?sb_NoPlace ?hd_NoPlace ?ty_NoPlace ?kp_NoPlace ?in_NoPlace ?ov_NoPlace ?sa_NoPlace ?ga_NoPlace ?gg_NoPlace ?cl_NoPlace ?mr_NoPlace ?xn_NoPlace ?a_Refused ?sb_Refused ?hd_Refused ?ty_Refused ?sp_class ?tk_class ?xs_NoPlace__Halted ?xs_NoPlace__Missing ?xs_NoPlace__NoName ?xs_NoPlace__NoNumber ?xs_NoPlace__NoPlace ?xs_NoPlace__Refused ?n_Scopes_givers ?n_Scopes_names ?a_is_whole ?l_is_whole ?c_is_whole ?k_is_whole ?a_is_number ?l_is_number ?c_is_number ?k_is_number ?w_is_number_high ?w_is_number_low ?a_at ?l_at ?c_at ?k_at ?a_is_within ?l_is_within ?c_is_within ?k_is_within ?a_Scopes___init__ ?i_Scopes___init__ ?l_Scopes___init__ ?c_Scopes___init__ ?k_Scopes___init__ ?a_Scopes_asked ?i_Scopes_asked ?l_Scopes_asked ?c_Scopes_asked ?k_Scopes_asked ?a_free_in ?l_free_in ?c_free_in ?k_free_in ?a_asked_at ?l_asked_at ?c_asked_at ?k_asked_at ?a_law_hand ?l_law_hand ?c_law_hand ?k_law_hand ?a_law_take ?l_law_take ?c_law_take ?k_law_take ?a_law_pick ?l_law_pick ?c_law_pick ?k_law_pick ?a_law_called ?l_law_called ?c_law_called ?k_law_called ?a_law_digit ?l_law_digit ?c_law_digit ?k_law_digit ?a_law_grown ?l_law_grown ?c_law_grown ?k_law_grown ?a_law_code ?l_law_code ?c_law_code ?k_law_code ?a_law_spots ?l_law_spots ?c_law_spots ?k_law_spots ?a_law_givers ?l_law_givers ?c_law_givers ?k_law_givers ?a_law_asked ?l_law_asked ?c_law_asked ?k_law_asked ?lamC ?lamO ?lamT ?lamH ?lamN ?a_law_right ?l_law_right ?c_law_right ?k_law_right ?a_law_refused ?l_law_refused ?c_law_refused ?k_law_refused ?a_law ?l_law ?c_law ?k_law ?xc_NoPlace ?xt_NoPlace ?l_NoPlace___init__ ?c_NoPlace___init__ ?k_NoPlace___init__ ?z_abs ?z_all ?z_bool ?z_dict ?z_enumerate ?z_int ?z_isinstance ?z_len ?z_list ?z_max ?z_min ?z_range ?z_repr ?z_sorted ?z_tuple ?x_GIVERS ?l_GIVERS ?x_NAME
  (case a_Scopes=>k_is)
  (case pg_Scopes=>k_is)
  (case hd_Scopes=>k_is)
  (case po_Scopes=>k_is)
  (case sa_Scopes=>k_is)
  (case mk_Scopes=>k_is)
  (case kc_Scopes=>k_is)
  (case a_Halted=>k_is)
  (case sb_Halted=>k_is)
  (case hd_Halted=>k_is)
  (case ty_Halted=>k_is)
  (case a_Missing=>k_is)
  (case sb_Missing=>k_is)
  (case hd_Missing=>k_is)
  (case ty_Missing=>k_is)
  (case a_NoName=>k_is)
  (case sb_NoName=>k_is)
  (case hd_NoName=>k_is)
  (case ty_NoName=>k_is)
  (case a_NoNumber=>k_is)
  (case sb_NoNumber=>k_is)
  (case hd_NoNumber=>k_is)
  (case ty_NoNumber=>k_is)
  (case a_NoPlace=>k_is)
  (case sb_NoPlace=>k_is)
  (case hd_NoPlace=>k_is)
  (case ty_NoPlace=>k_is)
  (case kp_NoPlace=>k_is)
  (case in_NoPlace=>kx_is)
  (case ov_NoPlace=>kx_is)
  (case sa_NoPlace=>k_is)
  (case ga_NoPlace=>k_is)
  (case gg_NoPlace=>k_is)
  (case cl_NoPlace=>k_is)
  (case mr_NoPlace=>k_is)
  (case xn_NoPlace=>k_is)
  (case a_Refused=>k_is)
  (case sb_Refused=>k_is)
  (case hd_Refused=>k_is)
  (case ty_Refused=>k_is)
  (case sp_class=>k_is)
  (case tk_class=>k_is)
  (case xs_NoPlace__Halted=>k_is)
  (case xs_NoPlace__Missing=>k_is)
  (case xs_NoPlace__NoName=>k_is)
  (case xs_NoPlace__NoNumber=>k_is)
  (case xs_NoPlace__NoPlace=>k_is)
  (case xs_NoPlace__Refused=>k_is)
  (case n_Scopes_givers=>k_is)
  (case n_Scopes_names=>k_is)
  (case a_is_whole=>k_is)
  (case l_is_whole=>k_is)
  (case c_is_whole=>k_is)
  (case k_is_whole=>k_is)
  (case a_is_number=>k_is)
  (case l_is_number=>k_is)
  (case c_is_number=>k_is)
  (case k_is_number=>k_is)
  (case w_is_number_high=>k_is)
  (case w_is_number_low=>k_is)
  (case a_at=>k_is)
  (case l_at=>k_is)
  (case c_at=>k_is)
  (case k_at=>k_is)
  (case a_is_within=>k_is)
  (case l_is_within=>k_is)
  (case c_is_within=>k_is)
  (case k_is_within=>k_is)
  (case a_Scopes___init__=>k_is)
  (case i_Scopes___init__=>k_is)
  (case l_Scopes___init__=>k_is)
  (case c_Scopes___init__=>k_is)
  (case k_Scopes___init__=>k_is)
  (case a_Scopes_asked=>k_is)
  (case i_Scopes_asked=>k_is)
  (case l_Scopes_asked=>k_is)
  (case c_Scopes_asked=>k_is)
  (case k_Scopes_asked=>k_is)
  (case a_free_in=>k_is)
  (case l_free_in=>k_is)
  (case c_free_in=>k_is)
  (case k_free_in=>k_is)
  (case a_asked_at=>k_is)
  (case l_asked_at=>k_is)
  (case c_asked_at=>k_is)
  (case k_asked_at=>k_is)
  (case a_law_hand=>k_is)
  (case l_law_hand=>k_is)
  (case c_law_hand=>k_is)
  (case k_law_hand=>k_is)
  (case a_law_take=>k_is)
  (case l_law_take=>k_is)
  (case c_law_take=>k_is)
  (case k_law_take=>k_is)
  (case a_law_pick=>k_is)
  (case l_law_pick=>k_is)
  (case c_law_pick=>k_is)
  (case k_law_pick=>k_is)
  (case a_law_called=>k_is)
  (case l_law_called=>k_is)
  (case c_law_called=>k_is)
  (case k_law_called=>k_is)
  (case a_law_digit=>k_is)
  (case l_law_digit=>k_is)
  (case c_law_digit=>k_is)
  (case k_law_digit=>k_is)
  (case a_law_grown=>k_is)
  (case l_law_grown=>k_is)
  (case c_law_grown=>k_is)
  (case k_law_grown=>k_is)
  (case a_law_code=>k_is)
  (case l_law_code=>k_is)
  (case c_law_code=>k_is)
  (case k_law_code=>k_is)
  (case a_law_spots=>k_is)
  (case l_law_spots=>k_is)
  (case c_law_spots=>k_is)
  (case k_law_spots=>k_is)
  (case a_law_givers=>k_is)
  (case l_law_givers=>k_is)
  (case c_law_givers=>k_is)
  (case k_law_givers=>k_is)
  (case a_law_asked=>k_is)
  (case l_law_asked=>k_is)
  (case c_law_asked=>k_is)
  (case k_law_asked=>k_is)
  (case lamC=>rfl)
  (case lamO=>k_is)
  (case lamT=>rfl)
  (case lamH=>kernel_rfl)
  (case lamN=>kernel_rfl)
  (case a_law_right=>k_is)
  (case l_law_right=>k_is)
  (case c_law_right=>k_is)
  (case k_law_right=>k_is)
  (case a_law_refused=>k_is)
  (case l_law_refused=>k_is)
  (case c_law_refused=>k_is)
  (case k_law_refused=>k_is)
  (case a_law=>k_is)
  (case l_law=>k_is)
  (case c_law=>k_is)
  (case k_law=>k_is)
  (case xc_NoPlace=>k_is)
  (case xt_NoPlace=>k_is)
  (case l_NoPlace___init__=>k_is)
  (case c_NoPlace___init__=>k_is)
  (case k_NoPlace___init__=>k_is)
  (case z_abs=>k_is)
  (case z_all=>k_is)
  (case z_bool=>k_is)
  (case z_dict=>k_is)
  (case z_enumerate=>k_is)
  (case z_int=>k_is)
  (case z_isinstance=>k_is)
  (case z_len=>k_is)
  (case z_list=>k_is)
  (case z_max=>k_is)
  (case z_min=>k_is)
  (case z_range=>k_is)
  (case z_repr=>k_is)
  (case z_sorted=>k_is)
  (case z_tuple=>k_is)
  (case x_GIVERS=>k_is)
  (case l_GIVERS=>k_is)
  (case x_NAME=>k_is)
