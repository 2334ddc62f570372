import PyProof.Rows.All
import Wide.All
import OpenK.AllK
import Wide.FinOn
import HandS.Base
import HandS.Call
import HandS.List
import HandS.Comp
import HandS.Dict
import HandS.Iter
import HandS.Text
import HandS.Exc
import HandS.Ends
import HandS.Words
import HandS.WordsExc
import HandS.ExcOwn
import HandS.CallSlots
import HandS.CallLocal
import HandS.Defaults
import HandS.IsInst
import HandS.TupAny
import HandS.DictComp
import HandS.Style
import HandS.Wide
import HandS.TryOnly
import HandS.More
import HandS.Deep
import PyProof.StrOps2
import HandS.Small
import HandS.RaiseMore
import PyProof.ReprRoads
import PyProof.CallFns
import PyProof.DictUpdate
import KE.GoesEnum
import KE.KUnpackStar
import HandS.ListItems
import HandS.Zip
import HandS.RevTup
import KE.KDictZip
import KE.KExcInit
import HandS.ExcInit
import KE.KTryMore
import HandS.ExcField
import KE.KExcIs
import KE.SortData
import HandS.SortRule
import HandS.MakeKwOnly
import HandS.Conv
import KE.DataFind
import PySem.Challenge.RW_holepatterns_k04_givers
set_option Elab.async false
set_option linter.all false
set_option maxRecDepth 100000
/-! L3A: plain values, a store of mutable objects, results, and what each construct denotes. -/
namespace L3
open PySem

inductive D where
  | non | bl (b : Bool) | int (i : Int) | str (s : Str) | tup (l : List D) | lst (l : List D)
  | dic (ks : List L2.Key) (l : List D) | obj (n : Nat) | glb (x : Str) | ty (n : String) | scr (l : List Int) | kd (ks : List Str) (l : List D)
  /-- an exception that was caught: its class, its fields -/
  | xcp (c : Str) (ks : List Str) (l : List D)
deriving Inhabited

inductive O where
  | lst (l : List D) | dK (l : List (L2.Key × D)) | dT (l : List (List L2.Key × D)) | ins (c : Str) (fs : List (Str × D)) | dead

abbrev Store := List O
structure Ex where
  cls : Str
  fs : List (Str × D)

inductive R (α : Type) where
  | ok (a : α) (S : Store) | exc (e : Ex) (S : Store) | bad
@[reducible] def R.bind {α β : Type} (r : R α) (f : α → Store → R β) : R β :=
  match r with
  | .ok a S => f a S
  | .exc e S => .exc e S
  | .bad => .bad

abbrev EnvD := List (Option D)
abbrev ED := EnvD → Store → R D
abbrev TD := EnvD → Store → R Bool
abbrev AD := EnvD → Store → R (List D)
inductive SR where
  | nx (env : EnvD) (S : Store) | ret (d : D) (S : Store) | brk (env : EnvD) (S : Store) | ct (env : EnvD) (S : Store) | exc (e : Ex) (env : EnvD) (S : Store) | bad
abbrev SD := EnvD → Store → SR
def R.toS {α : Type} (env : EnvD) (r : R α) (k : α → Store → SR) : SR :=
  match r with
  | .ok a S => k a S
  | .exc e S => .exc e env S
  | .bad => .bad

/-! ### expressions -/
def eVar (i : Nat) : ED := fun env S => match env[i]? with
  | some (some d) => .ok d S
  | _ => .bad
def eK (d : D) : ED := fun _ S => .ok d S
abbrev F1 := D → Store → R D
abbrev F2 := D → D → Store → R D
abbrev FN := List D → Store → R D
def e1 (f : F1) (a : ED) : ED := fun env S => (a env S).bind fun x S1 => f x S1
def e2 (f : F2) (a b : ED) : ED := fun env S => (a env S).bind fun x S1 => (b env S1).bind fun y S2 => f x y S2
def aNil : AD := fun _ S => .ok [] S
def aCons (a : ED) (r : AD) : AD := fun env S => (a env S).bind fun x S1 => (r env S1).bind fun xs S2 => .ok (x :: xs) S2
def eN (f : FN) (a : AD) : ED := fun env S => (a env S).bind fun xs S1 => f xs S1
/-- o.m(..): the receiver, the arguments -/
def eM (f : D → FN) (o : ED) (a : AD) : ED := fun env S => (o env S).bind fun x S1 => (a env S1).bind fun xs S2 => f x xs S2
def eIf (c : TD) (a b : ED) : ED := fun env S => (c env S).bind fun k S1 => match k with
  | true => a env S1
  | false => b env S1
/-! ### tests -/
def tOfE (a : ED) : TD := fun env S => (a env S).bind fun x S1 => match x with
  | .bl k => .ok k S1
  | _ => .bad
def truthD (x : D) (S : Store) : R Bool := match x with
  | .bl k => .ok k S
  | .non => .ok false S
  | .int i => .ok (i != 0) S
  | .str s => if s.length ≤ sizeLine then .ok (s.length != 0) S else .bad
  | .tup l => .ok (!l.isEmpty) S
  | .lst l => .ok (!l.isEmpty) S
  | .obj n => match S[n]? with
    | some (.lst l) => .ok (!l.isEmpty) S
    | _ => .bad
  | _ => .bad
def tTruth (a : ED) : TD := fun env S => (a env S).bind fun x S1 => truthD x S1
def tNot (a : TD) : TD := fun env S => (a env S).bind fun k S1 => .ok (!k) S1
def tAnd (a b : TD) : TD := fun env S => (a env S).bind fun k S1 => match k with
  | true => b env S1
  | false => .ok false S1
def tOr (a b : TD) : TD := fun env S => (a env S).bind fun k S1 => match k with
  | true => .ok true S1
  | false => b env S1
/-- and, or, not as values of truths -/
def eNot (a : ED) : ED := fun env S => (tOfE a env S).bind fun k S1 => .ok (.bl (!k)) S1
def eAnd (a b : ED) : ED := fun env S => (tOfE a env S).bind fun k S1 => match k with
  | true => b env S1
  | false => .ok (.bl false) S1
def eOr (a b : ED) : ED := fun env S => (tOfE a env S).bind fun k S1 => match k with
  | true => .ok (.bl true) S1
  | false => b env S1
/-- a < b < c -/
def eChain (f g : F2) (a b c : ED) : ED := fun env S => (a env S).bind fun x S1 => (b env S1).bind fun y S2 => (f x y S2).bind fun k S3 => match k with
  | .bl true => (c env S3).bind fun z S4 => g y z S4
  | .bl false => .ok (.bl false) S3
  | _ => .bad

/-! ### displays -/
def mkTup : FN := fun xs S => if xs.length ≤ sizeLine then .ok (.tup xs) S else .bad
def mkLst : FN := fun xs S => if xs.length ≤ sizeLine then .ok (.lst xs) S else .bad
/-- a list that will be changed -/
def mkObj : FN := fun xs S => if xs.length ≤ sizeLine then .ok (.obj S.length) (S ++ [.lst xs]) else .bad

/-! ### statements -/
def sSkip : SD := fun env S => .nx env S
def sSeq (a b : SD) : SD := fun env S => match a env S with
  | .nx env1 S1 => b env1 S1
  | r => r
def sIf (c : TD) (a b : SD) : SD := fun env S => (c env S).toS env fun k S1 => match k with
  | true => a env S1
  | false => b env S1
def sRet (a : ED) : SD := fun env S => (a env S).toS env fun d S1 => .ret d S1
def sExpr (a : ED) : SD := fun env S => (a env S).toS env fun _ S1 => .nx env S1
def sBrk : SD := fun env S => .brk env S
def sCt : SD := fun env S => .ct env S
/-- a target -/
abbrev GD := D → EnvD → Store → SR
def gName (i : Nat) : GD := fun d env S => .nx (env.set i (some d)) S
def sAsg (a : ED) (g : GD) : SD := fun env S => (a env S).toS env fun d S1 => g d env S1
/-- several names -/
def gNames : List Nat → List D → EnvD → Store → SR
  | [], [], env, S => .nx env S
  | i :: is, d :: ds, env, S => gNames is ds (env.set i (some d)) S
  | _, _, _, _ => .bad
def gTup (is : List Nat) : GD := fun d env S => match d with
  | .tup l => gNames is l env S
  | _ => .bad
/-- a for over written items -/
def forL (g : GD) (body : SD) : List D → EnvD → Store → SR
  | [], env, S => .nx env S
  | x :: xs, env, S => match g x env S with
    | .nx env1 S1 => match body env1 S1 with
      | .nx env2 S2 => forL g body xs env2 S2
      | .ct env2 S2 => forL g body xs env2 S2
      | .brk env2 S2 => .nx env2 S2
      | .ret d S2 => .ret d S2
      | .exc e env2 S2 => .exc e env2 S2
      | .bad => .bad
    | _ => .bad
def sWhile (c : TD) (body : SD) : Nat → SD
  | 0, _, _ => .bad
  | n + 1, env, S => (c env S).toS env fun k S1 => match k with
    | false => .nx env S1
    | true => match body env S1 with
      | .nx env2 S2 => sWhile c body n env2 S2
      | .ct env2 S2 => sWhile c body n env2 S2
      | .brk env2 S2 => .nx env2 S2
      | .ret d S2 => .ret d S2
      | .exc e env2 S2 => .exc e env2 S2
      | .bad => .bad
def SR.fin : SR → R D
  | .nx _ S1 => .ok .non S1
  | .ret d S1 => .ok d S1
  | .exc e _ S1 => .exc e S1
  | _ => .bad
/-- a def's body at its arguments: np parameters, n slots -/
def run (np n : Nat) (body : SD) : FN := fun xs S => if xs.length = np then (body (xs.map some ++ List.replicate (n - xs.length) none) S).fin else .bad
end L3
set_option Elab.async false
set_option linter.all false
set_option maxRecDepth 100000
/-! L3B: how plain values, the store and results stand for the model's; the rules. -/
namespace L3
open PySem PySem.Spec PyProof.Rows L2

structure GC where
  K : PySem.W.Frag
  w : World
  mg : Str → Option Value
structure Wd where
  mu : List Addr
  S : Store
  H : Hp
  /-- lists and dicts that are being made around here: nothing refers to them -/
  tmp : List Addr

def O.live : O → Prop
  | .dead => False
  | _ => True
def MutS (w : Wd) (a : Addr) : Prop := ∃ (n : Nat) (o : O), w.S[n]? = some o ∧ o.live ∧ w.mu[n]? = some a
def Mut (w : Wd) (a : Addr) : Prop := MutS w a ∨ a ∈ w.tmp
/-- read, never written -/
def Fz (w : Wd) (a : Addr) (u : HO) : Prop := Rd w.H a u ∧ ¬ Mut w a
def KT (K : PySem.W.Frag) (a : Addr) (xs : List V) : Prop :=
  ∃ (o : Obj) (its : Array Value) (n : Nat), K.lookup a = some o ∧ o.cls = .type "tuple" ∧ o.data = .seq its n ∧ its.size ≤ sizeLine ∧ Vals xs its.toList
def KL (K : PySem.W.Frag) (a : Addr) (xs : List V) : Prop :=
  ∃ (o : Obj) (its : Array Value) (n : Nat), K.lookup a = some o ∧ o.cls = .type "list" ∧ o.dict = none ∧ o.data = .seq its n ∧ its.size ≤ sizeLine ∧ Vals xs its.toList

/-- at a: an exception object of the class cls, its dict at dx -/
def xoH (a : Addr) (cls : Value) (dx : Option Addr) : HO := .ext fun h => ∃ (oe : Obj) (vs : Array Value), h.get? a = some oe ∧ Zc cls dx oe ∧ oe.data = .fields vs
def isIt : D → Bool
  | .int _ => true
  | _ => false
/-- whole numbers alone -/
def plc (l : List D) : Bool := l.all isIt
/-- a tuple's place: laid by the run, or written ahead (never one of whole numbers alone: those may be keys of a dict) -/
def TupAt (G : GC) (w : Wd) (a : Addr) (vs : List V) (l : List D) : Prop := (w.H a = some (.tup vs) ∧ ¬ Mut w a) ∨ (KT G.K a vs ∧ plc l = false)
mutual
def Rep (G : GC) (w : Wd) : D → V → Prop
  | .non, v => v = .non
  | .bl b, v => v = .bl b
  | .int i, v => v = .int i
  | .str s, v => v = .str s
  | .tup l, v => ∃ a vs, v = .ref a ∧ TupAt G w a vs l ∧ RepL G w l vs
  | .lst l, v => ∃ a vs, v = .ref a ∧ w.H a = some (.lst vs) ∧ ¬ Mut w a ∧ RepL G w l vs
  | .dic ks l, v => ∃ a vs, v = .ref a ∧ w.H a = some (.dK (ks.zip vs)) ∧ ¬ Mut w a ∧ ks.length = l.length ∧ RepL G w l vs
  | .obj n, v => ∃ a, w.mu[n]? = some a ∧ v = .ref a
  | .glb x, v => ∃ u, G.mg x = some u ∧ RelV v u
  | .ty n, v => v = .ty n
  | .scr ns, v => ∃ a, v = .ref a ∧ (Fz w a (.lst (ns.map V.int)) ∨ KL G.K a (ns.map V.int))
  | .kd ks l, v => ∃ a es n vs us, v = .ref a ∧ KDict G.K G.w a es n ∧ (∀ z, PySem.W.nsIn G.K a z = some ((ks.zip us).lookup z)) ∧ ks.length = l.length ∧ Vals vs us ∧ RepL G w l vs
  | .xcp c ks l, v => ∃ a C dx vs, v = .ref a ∧ G.mg c = some (.ref C) ∧ (w.H a = some (xoH a (.ref C) dx) ∧ ¬ Mut w a) ∧ ks.length = l.length ∧ ((ks = [] ∧ dx = none) ∨ ∃ d, dx = some d ∧ w.H d = some (.xd (ks.zip vs)) ∧ ¬ Mut w d) ∧ RepL G w l vs
def RepL (G : GC) (w : Wd) : List D → List V → Prop
  | [], vs => vs = []
  | d :: ds, vs => ∃ v r, vs = v :: r ∧ Rep G w d v ∧ RepL G w ds r
end

def RepKV {κ : Type} (G : GC) (w : Wd) : List (κ × D) → List (κ × V) → Prop
  | [], x => x = []
  | p :: r, x => ∃ v y, x = (p.1, v) :: y ∧ Rep G w p.2 v ∧ RepKV G w r y
def ORep (G : GC) (w : Wd) (a : Addr) : O → Prop
  | .lst ds => ∃ vs, w.H a = some (.lst vs) ∧ RepL G w ds vs
  | .dK kvs => ∃ vs, w.H a = some (.dK vs) ∧ RepKV G w kvs vs
  | .dT kvs => ∃ vs, w.H a = some (.dT vs) ∧ RepKV G w kvs vs
  | .ins c fs => ∃ C dx vs, w.H a = some (.ins C dx vs) ∧ RepKV G w fs vs ∧ G.mg c = some (.ref C)
  | .dead => True
structure SRep (G : GC) (w : Wd) : Prop where
  len : w.mu.length = w.S.length
  inj : ∀ (n m : Nat) (a : Addr) (o o' : O), w.S[n]? = some o → w.S[m]? = some o' → o.live → o'.live → w.mu[n]? = some a → w.mu[m]? = some a → n = m
  obj : ∀ (n : Nat) (o : O) (a : Addr), w.S[n]? = some o → w.mu[n]? = some a → ORep G w a o
  tm : ∀ a ∈ w.tmp, (∃ u, w.H a = some u) ∧ ¬ MutS w a
structure ERep (G : GC) (w : Wd) (env : EnvD) (σ : L2.St) : Prop where
  len : env.length = σ.length
  at' : ∀ (i : Nat) (d : D), env[i]? = some (some d) → ∃ v : V, σ[i]? = some (some v) ∧ Rep G w d v
/-- from w to w': all is kept but what the store holds, and what stands at T -/
structure WX' (T : List Addr) (w w' : Wd) : Prop where
  mu : ∀ (n : Nat) (a : Addr), w.mu[n]? = some a → w'.mu[n]? = some a
  keep : ∀ (a : Addr) (o : HO), w.H a = some o → ¬ MutS w a → a ∉ T → w'.H a = some o ∧ ¬ MutS w' a
  tmp : ∀ a ∈ w'.tmp, a ∈ w.tmp ∨ a ∈ T
  tmp' : ∀ a ∈ w.tmp, a ∈ w'.tmp
abbrev WExt (w w' : Wd) : Prop := WX' [] w w'
theorem WExt.refl (w : Wd) : WExt w w := ⟨fun _ _ h => h, fun _ _ h h' _ => ⟨h, h'⟩, fun _ h => .inl h, fun _ h => h⟩
theorem WX'.trans {T : List Addr} {a b c : Wd} (x : WX' T a b) (y : WX' T b c) : WX' T a c :=
  ⟨fun n d h => y.mu n d (x.mu n d h), fun d o h h' t => let ⟨h1, h2⟩ := x.keep d o h h' t; y.keep d o h1 h2 t, fun d h => (y.tmp d h).elim (x.tmp d) .inr, fun d h => y.tmp' d (x.tmp' d h)⟩
theorem WX'.wide {T : List Addr} {a b : Wd} (x : WExt a b) : WX' T a b := ⟨x.mu, fun d o h h' _ => x.keep d o h h' (by simp), fun d h => (x.tmp d h).imp id fun z => by simp at z, x.tmp'⟩
/-- what may change is in the making, or not there yet -/
def Tok (T : List Addr) (w : Wd) : Prop := ∀ a ∈ T, a ∈ w.tmp ∨ w.H a = none
theorem WX'.keepM {T : List Addr} {w w' : Wd} (x : WX' T w w') (hT : Tok T w) {a : Addr} {o : HO} (h : w.H a = some o) (nm : ¬ Mut w a) : w'.H a = some o ∧ ¬ Mut w' a := by
  have nT : a ∉ T := fun z => (hT a z).elim (fun z => nm (.inr z)) fun z => by rw [h] at z; cases z
  obtain ⟨h1, h2⟩ := x.keep a o h (fun z => nm (.inl z)) nT
  exact ⟨h1, fun z => z.elim h2 fun z => (x.tmp a z).elim (fun z => nm (.inr z)) nT⟩
section
variable {T : List Addr} {G : GC} {w w' : Wd}
theorem Fz.monoT {a : Addr} {u : HO} (x : WX' T w w') (hT : Tok T w) (h : Fz w a u) : Fz w' a u := by
  obtain ⟨h | ⟨o, h⟩, nm⟩ := h
  · obtain ⟨h1, h2⟩ := x.keepM hT h nm; exact ⟨.inl h1, h2⟩
  · obtain ⟨h1, h2⟩ := x.keepM hT h nm; exact ⟨.inr ⟨o, h1⟩, h2⟩
mutual
theorem Rep.monoT (x : WX' T w w') (hT : Tok T w) : ∀ (d : D) (v : V), Rep G w d v → Rep G w' d v
  | .non, v, h => by simpa only [Rep] using h
  | .bl b, v, h => by simpa only [Rep] using h
  | .int i, v, h => by simpa only [Rep] using h
  | .str s, v, h => by simpa only [Rep] using h
  | .tup l, v, h => by
    simp only [Rep] at h ⊢
    obtain ⟨a, vs, e, h1, h2⟩ := h
    exact ⟨a, vs, e, h1.imp (fun z => x.keepM hT z.1 z.2) id, RepL.monoT x hT l vs h2⟩
  | .lst l, v, h => by
    simp only [Rep] at h ⊢
    obtain ⟨a, vs, e, h1, nm, h2⟩ := h
    obtain ⟨q1, q2⟩ := x.keepM hT h1 nm
    exact ⟨a, vs, e, q1, q2, RepL.monoT x hT l vs h2⟩
  | .dic ks l, v, h => by
    simp only [Rep] at h ⊢
    obtain ⟨a, vs, e, h1, nm, hl, h2⟩ := h
    obtain ⟨q1, q2⟩ := x.keepM hT h1 nm
    exact ⟨a, vs, e, q1, q2, hl, RepL.monoT x hT l vs h2⟩
  | .obj n, v, h => by
    simp only [Rep] at h ⊢
    obtain ⟨a, h1, e⟩ := h
    exact ⟨a, x.mu n a h1, e⟩
  | .glb y, v, h => by simpa only [Rep] using h
  | .ty n, v, h => by simpa only [Rep] using h
  | .scr ns, v, h => by
    simp only [Rep] at h ⊢
    obtain ⟨a, e, h1⟩ := h
    exact ⟨a, e, h1.imp (Fz.monoT x hT) id⟩
  | .kd ks l, v, h => by
    simp only [Rep] at h ⊢
    obtain ⟨a, es, n, vs, us, e, h1, h2, h3, h4, h5⟩ := h
    exact ⟨a, es, n, vs, us, e, h1, h2, h3, h4, RepL.monoT x hT l vs h5⟩
  | .xcp c ks l, v, h => by
    simp only [Rep] at h ⊢
    obtain ⟨a, C, dx, vs, e, h1, ⟨h2, nm⟩, h3, h4, h5⟩ := h
    exact ⟨a, C, dx, vs, e, h1, x.keepM hT h2 nm, h3, h4.imp id fun ⟨d, e1, e2, nd⟩ => let ⟨q1, q2⟩ := x.keepM hT e2 nd; ⟨d, e1, q1, q2⟩, RepL.monoT x hT l vs h5⟩
theorem RepL.monoT (x : WX' T w w') (hT : Tok T w) : ∀ (d : List D) (v : List V), RepL G w d v → RepL G w' d v
  | [], v, h => by simpa only [RepL] using h
  | d :: ds, v, h => by
    simp only [RepL] at h ⊢
    obtain ⟨y, r, e, h1, h2⟩ := h
    exact ⟨y, r, e, Rep.monoT x hT d y h1, RepL.monoT x hT ds r h2⟩
end
end
theorem noT {w : Wd} : Tok [] w := fun _ h => by simp at h
theorem Rep.mono {G : GC} {w w' : Wd} (x : WExt w w') (d : D) (v : V) (h : Rep G w d v) : Rep G w' d v := Rep.monoT x noT d v h
theorem RepL.mono {G : GC} {w w' : Wd} (x : WExt w w') (d : List D) (v : List V) (h : RepL G w d v) : RepL G w' d v := RepL.monoT x noT d v h
theorem RepKV.monoT {κ : Type} {T : List Addr} {G : GC} {w w' : Wd} (x : WX' T w w') (hT : Tok T w) : ∀ (d : List (κ × D)) (v : List (κ × V)), RepKV G w d v → RepKV G w' d v
  | [], v, h => h
  | d :: ds, v, h => by
    obtain ⟨y, r, e, h1, h2⟩ := h
    exact ⟨y, r, e, Rep.monoT x hT _ y h1, RepKV.monoT x hT ds r h2⟩
theorem RepKV.mono {κ : Type} {G : GC} {w w' : Wd} (x : WExt w w') (d : List (κ × D)) (v : List (κ × V)) (h : RepKV G w d v) : RepKV G w' d v := RepKV.monoT x noT d v h
theorem ERep.monoT {T : List Addr} {G : GC} {w w' : Wd} {env : EnvD} {σ : L2.St} (x : WX' T w w') (hT : Tok T w) (h : ERep G w env σ) : ERep G w' env σ :=
  ⟨h.len, fun i d e => let ⟨v, h1, h2⟩ := h.at' i d e; ⟨v, h1, Rep.monoT x hT d v h2⟩⟩
theorem ERep.mono {G : GC} {w w' : Wd} {env : EnvD} {σ : L2.St} (x : WExt w w') (h : ERep G w env σ) : ERep G w' env σ := ERep.monoT x noT h
theorem ERep.set {G : GC} {w : Wd} {env : EnvD} {σ : L2.St} {d : D} {v : V} (i : Nat) (h : ERep G w env σ) (r : Rep G w d v) : ERep G w (env.set i (some d)) (σ.set i (some v)) := by
  refine ⟨by simp [h.len], fun j d' e => ?_⟩
  by_cases hj : i = j
  · subst hj
    by_cases hi : i < env.length
    · rw [List.getElem?_set_self hi] at e
      cases e
      exact ⟨v, List.getElem?_set_self (by rw [← h.len]; exact hi), r⟩
    · rw [List.getElem?_eq_none (by simpa using hi)] at e
      cases e
  · rw [List.getElem?_set_ne hj] at e ⊢
    exact h.at' j d' e

/-- an exception in the air -/
def XRep (G : GC) (w : Wd) (e : Ex) (C : Value) (dx : Option Addr) : Prop :=
  (∃ Ca, G.mg e.cls = some (.ref Ca) ∧ C = .ref Ca) ∧ ((e.fs = [] ∧ dx = none) ∨ ∃ d kvs, dx = some d ∧ w.H d = some (.xd kvs) ∧ ¬ Mut w d ∧ RepKV G w e.fs kvs)

def Post {α β : Type} (G : GC) (w : Wd) (r : R α) (Ra : Wd → α → β → Prop) (Q : β → Hp → Prop) (E : Value → Option Addr → Hp → Prop) : Prop :=
  match r with
  | .ok d S' => ∀ v w', WExt w w' → w'.S = S' → SRep G w' → Ra w' d v → Q v w'.H
  | .exc e S' => ∀ C dx w', WExt w w' → w'.S = S' → SRep G w' → XRep G w' e C dx → E C dx w'.H
  | .bad => False
section
variable {α β γ δ : Type} {G : GC} {w w' : Wd} {r : R α} {Ra : Wd → α → β → Prop} {Rb : Wd → γ → δ → Prop} {Q Q' : β → Hp → Prop} {E E' : Value → Option Addr → Hp → Prop}
theorem Post.shift (x : WExt w w') (h : Post G w r Ra Q E) : Post G w' r Ra Q E := by
  cases r with
  | ok d S' => exact fun v w2 e hs sr rp => h v w2 (WX'.trans x e) hs sr rp
  | exc e S' => exact fun C dx w2 e hs sr rp => h C dx w2 (WX'.trans x e) hs sr rp
  | bad => exact h
theorem Post.mono (h : Post G w r Ra Q E) (hq : ∀ v H, Q v H → Q' v H) (he : ∀ C d H, E C d H → E' C d H) : Post G w r Ra Q' E' := by
  cases r with
  | ok d S' => exact fun v w2 e hs sr rp => hq _ _ (h v w2 e hs sr rp)
  | exc e S' => exact fun C dx w2 e hs sr rp => he _ _ _ (h C dx w2 e hs sr rp)
  | bad => exact h
/-- what a bind asks of its first part -/
def Mid {β : Type} (G : GC) (w : Wd) (Ra : Wd → α → β → Prop) (P : Wd → α → Prop) (x : β) (H1 : Hp) : Prop :=
  ∃ w1 d, w1.H = H1 ∧ WExt w w1 ∧ SRep G w1 ∧ Ra w1 d x ∧ P w1 d
theorem Post.bind {f : α → Store → R γ} {Q : δ → Hp → Prop} (h : Post G w (r.bind f) Rb Q E) :
    Post G w r Ra (Mid G w Ra fun w1 d => Post G w1 (f d w1.S) Rb Q E) E := by
  cases r with
  | ok d S' =>
    intro v w1 e hs sr rp
    refine ⟨w1, d, rfl, e, sr, rp, ?_⟩
    subst hs
    exact Post.shift e h
  | exc e S' => exact h
  | bad => exact h
theorem Post.ret {a : α} {b : β} (sr : SRep G w) (ra : Ra w a b) (h : Post G w (.ok a w.S) Ra Q E) : Q b w.H := h b w (.refl w) rfl sr ra
end

def tE (G : GC) (m : ED) (Wx : WX) : TE := fun σ H Q => ∃ w env, w.H = H ∧ SRep G w ∧ ERep G w env σ ∧ Post G w (m env w.S) (Rep G) Q (fun C dx H' => Wx C dx σ H')
def tT (G : GC) (m : TD) (Wx : WX) : TT := fun σ H Q => ∃ w env, w.H = H ∧ SRep G w ∧ ERep G w env σ ∧ Post G w (m env w.S) (fun _ a b => a = b) Q (fun C dx H' => Wx C dx σ H')
def tA (G : GC) (m : AD) (Wx : WX) : TA := fun σ H Q => ∃ w env, w.H = H ∧ SRep G w ∧ ERep G w env σ ∧ Post G w (m env w.S) (RepL G) Q (fun C dx H' => Wx C dx σ H')
def PostS (G : GC) (w : Wd) (r : SR) (D : Ends) (Wx : WX) : Prop :=
  match r with
  | .nx env' S' => ∀ σ' w', WExt w w' → w'.S = S' → SRep G w' → ERep G w' env' σ' → D.nx σ' w'.H
  | .ret d S' => ∀ v w', WExt w w' → w'.S = S' → SRep G w' → Rep G w' d v → D.rt v w'.H
  | .brk env' S' => ∀ σ' w', WExt w w' → w'.S = S' → SRep G w' → ERep G w' env' σ' → D.bk σ' w'.H
  | .ct env' S' => ∀ σ' w', WExt w w' → w'.S = S' → SRep G w' → ERep G w' env' σ' → D.ct σ' w'.H
  | .exc e env' S' => ∀ C dx σ' w', WExt w w' → w'.S = S' → SRep G w' → ERep G w' env' σ' → XRep G w' e C dx → Wx C dx σ' w'.H
  | .bad => False
def tS (G : GC) (m : SD) (Wx : WX) : TS := fun D σ H => ∃ w env, w.H = H ∧ SRep G w ∧ ERep G w env σ ∧ PostS G w (m env w.S) D Wx
theorem PostS.shift {G : GC} {w w' : Wd} {r : SR} {D : Ends} {Wx : WX} (x : WExt w w') (h : PostS G w r D Wx) : PostS G w' r D Wx := by
  cases r with
  | nx env S' => exact fun v w2 e hs sr rp => h v w2 (WX'.trans x e) hs sr rp
  | ret d S' => exact fun v w2 e hs sr rp => h v w2 (WX'.trans x e) hs sr rp
  | brk env S' => exact fun v w2 e hs sr rp => h v w2 (WX'.trans x e) hs sr rp
  | ct env S' => exact fun v w2 e hs sr rp => h v w2 (WX'.trans x e) hs sr rp
  | exc e env S' => exact fun C dx σ w2 e hs sr er rp => h C dx σ w2 (WX'.trans x e) hs sr er rp
  | bad => exact h
/-- an expression's result taken on by a statement -/
theorem PostS.ofR {α β : Type} {G : GC} {w : Wd} {r : R α} {Ra : Wd → α → β → Prop} {k : α → Store → SR} {D : Ends} {Wx : WX} {env : EnvD} {σ : L2.St} (er : ERep G w env σ) (h : PostS G w (r.toS env k) D Wx) :
    Post G w r Ra (Mid G w Ra fun w1 d => PostS G w1 (k d w1.S) D Wx) (fun C dx H' => Wx C dx σ H') := by
  cases r with
  | ok d S' =>
    intro v w1 e hs sr rp
    refine ⟨w1, d, rfl, e, sr, rp, ?_⟩
    subst hs
    exact PostS.shift e h
  | exc e S' => exact fun C dx w2 x hs sr rp => h C dx σ w2 x hs sr (er.mono x) rp
  | bad => exact h

/-! ### weaker readings -/
theorem peI {X : Cx} {e : Expr} {t t' : TE} (h : PE X e t) (i : ∀ σ H Q, t' σ H Q → t σ H Q) : PE X e t' := ⟨fun pins s σ H Q I q => h.run pins s σ H Q I (i _ _ _ q)⟩
theorem ptI {X : Cx} {e : Expr} {t t' : TT} (h : PT X e t) (i : ∀ σ H Q, t' σ H Q → t σ H Q) : PT X e t' := ⟨fun pins s σ H Q I q => h.run pins s σ H Q I (i _ _ _ q)⟩
theorem pwI {X : Cx} {e : Expr} {t t' : TT} (h : PW X e t) (i : ∀ σ H Q, t' σ H Q → t σ H Q) : PW X e t' := ⟨fun wh pins s σ H Q I q => h.run wh pins s σ H Q I (i _ _ _ q)⟩
theorem paI {X : Cx} {e : List Expr} {t t' : TA} (h : PA X e t) (i : ∀ σ H Q, t' σ H Q → t σ H Q) : PA X e t' := ⟨fun po pins s σ H Q I q => h.run po pins s σ H Q I (i _ _ _ q)⟩
theorem psI {X : Cx} {e : Stmt} {t t' : TS} (h : PS X e t) (i : ∀ D σ H, t' D σ H → t D σ H) : PS X e t' := ⟨fun pins s σ H D I q => h.run pins s σ H D I (i _ _ _ q)⟩
theorem pssI {X : Cx} {e : List Stmt} {t t' : TS} (h : PSs X e t) (i : ∀ D σ H, t' D σ H → t D σ H) : PSs X e t' := ⟨fun pins s σ H D I q => h.run pins s σ H D I (i _ _ _ q)⟩

abbrev WF : WX := fun _ _ _ _ => False

section
variable {G : GC} {X : Cx} {Wx : WX} {pos : Pos}
/-! ### expressions -/
theorem q_var {e : Expr} {i : Nat} (h : PE X e (tVar i)) : PE X e (tE G (eVar i) Wx) := peI h fun σ H Q q => by
  obtain ⟨w, env, rfl, sr, er, p⟩ := q
  unfold eVar at p
  cases hi : env[i]? with
  | none => rw [hi] at p; exact p.elim
  | some o =>
    cases o with
    | none => rw [hi] at p; exact p.elim
    | some d =>
      rw [hi] at p
      obtain ⟨v, e, r⟩ := er.at' i d hi
      exact ⟨v, e, Post.ret sr r p⟩
theorem q_const {e : Expr} {v : V} {d : D} (h : PE X e (tC v)) (r : ∀ w, Rep G w d v) : PE X e (tE G (eK d) Wx) := peI h fun σ H Q q => by
  obtain ⟨w, env, rfl, sr, er, p⟩ := q
  exact Post.ret sr (r w) p
theorem q_int {i j} : PE X (.Constant (.int i) j pos) (tE G (eK (.int i)) Wx) := q_const pe_int fun _ => by simp [Rep]
theorem q_bl {b j} : PE X (.Constant (.bool b) j pos) (tE G (eK (.bl b)) Wx) := q_const pe_bl fun _ => by simp [Rep]
theorem q_non {j} : PE X (.Constant .none j pos) (tE G (eK .non) Wx) := q_const pe_non fun _ => by simp [Rep]
theorem q_str {x j} : PE X (.Constant (.str x) j pos) (tE G (eK (.str x)) Wx) := q_const pe_str fun _ => by simp [Rep]

/-- an operation by values -/
def r2 (G : GC) (f : F2) : R2 := fun x y H Q => ∃ w d1 d2, w.H = H ∧ SRep G w ∧ Rep G w d1 x ∧ Rep G w d2 y ∧ Post G w (f d1 d2 w.S) (Rep G) Q (fun _ _ _ => False)
def r1 (G : GC) (f : F1) : V → Hp → VK → Prop := fun x H Q => ∃ w d1, w.H = H ∧ SRep G w ∧ Rep G w d1 x ∧ Post G w (f d1 w.S) (Rep G) Q (fun _ _ _ => False)
def rN (G : GC) (f : FN) : List V → Hp → VK → Prop := fun xs H Q => ∃ w ds, w.H = H ∧ SRep G w ∧ RepL G w ds xs ∧ Post G w (f ds w.S) (Rep G) Q (fun _ _ _ => False)
def rM (G : GC) (f : D → FN) : V → List V → Hp → VK → Prop := fun x xs H Q => ∃ w d ds, w.H = H ∧ SRep G w ∧ Rep G w d x ∧ RepL G w ds xs ∧ Post G w (f d ds w.S) (Rep G) Q (fun _ _ _ => False)
/-- no own exception comes of it -/
def R.calm {α : Type} : R α → Prop
  | .exc _ _ => False
  | _ => True
def Calm2 (f : F2) : Prop := ∀ x y S, (f x y S).calm
def Calm1 (f : F1) : Prop := ∀ x S, (f x S).calm
def CalmN (f : FN) : Prop := ∀ xs S, (f xs S).calm
def CalmM (f : D → FN) : Prop := ∀ x xs S, (f x xs S).calm
theorem Post.calm {α β : Type} {w : Wd} {r : R α} {Ra : Wd → α → β → Prop} {Q : β → Hp → Prop} {E E' : Value → Option Addr → Hp → Prop} (c : r.calm) (h : Post G w r Ra Q E) : Post G w r Ra Q E' := by
  cases r with
  | ok _ _ => exact h
  | exc _ _ => exact c.elim
  | bad => exact h

theorem imp_e2 {f : F2} {a b : ED} (c : Calm2 f) : ∀ σ H Q, tE G (e2 f a b) Wx σ H Q → tOp (r2 G f) (tE G a Wx) (tE G b Wx) σ H Q := by
  intro σ H Q q
  obtain ⟨w, env, rfl, sr, er, p⟩ := q
  refine ⟨w, env, rfl, sr, er, (Post.bind p).mono (fun x H1 m => ?_) fun _ _ _ h => h⟩
  obtain ⟨w1, d1, rfl, x1, s1, rp1, p1⟩ := m
  refine ⟨w1, env, rfl, s1, er.mono x1, (Post.bind p1).mono (fun y H2 m => ?_) fun _ _ _ h => h⟩
  obtain ⟨w2, d2, rfl, x2, s2, rp2, p2⟩ := m
  exact ⟨w2, d1, d2, rfl, s2, Rep.mono x2 _ _ rp1, rp2, p2.calm (c _ _ _)⟩
theorem q_op {op : Operator} {f : F2} {a b : Expr} {ma mb : ED} (ho : OpR X (binaryOp op) (r2 G f)) (c : Calm2 f) (ha : PE X a (tE G ma Wx)) (hb : PE X b (tE G mb Wx)) : PE X (.BinOp a op b pos) (tE G (e2 f ma mb) Wx) :=
  peI (pe_op ho ha hb) (imp_e2 c)
theorem q_cmp {op : CmpOp} {f : F2} {a b : Expr} {ma mb : ED} (ho : OpR X (compareOp op) (r2 G f)) (c : Calm2 f) (ha : PE X a (tE G ma Wx)) (hb : PE X b (tE G mb Wx)) (hm : behindInMarks op b = false) : PE X (.Compare a [op] [b] pos) (tE G (e2 f ma mb) Wx) :=
  peI (pe_cmpR ho ha hb hm) (imp_e2 c)
theorem q_ix {f : F2} {a b : Expr} {ma mb : ED} (ho : IxR X (r2 G f)) (c : Calm2 f) (ha : PE X a (tE G ma Wx)) (hb : PE X b (tE G mb Wx)) (hs : PlainIx b) : PE X (.Subscript a b pos) (tE G (e2 f ma mb) Wx) :=
  peI (pe_ix ho ha hb hs) (imp_e2 c)
theorem q_un {op : UnaryOp} {f : F1} {a : Expr} {ma : ED} (ho : UnR X (unaryOp op) (r1 G f)) (c : Calm1 f) (ha : PE X a (tE G ma Wx)) : PE X (.UnaryOp op a pos) (tE G (e1 f ma) Wx) :=
  peI (pe_un ho ha) fun σ H Q q => by
    obtain ⟨w, env, rfl, sr, er, p⟩ := q
    refine ⟨w, env, rfl, sr, er, (Post.bind p).mono (fun x H1 m => ?_) fun _ _ _ h => h⟩
    obtain ⟨w1, d1, rfl, x1, s1, rp1, p1⟩ := m
    exact ⟨w1, d1, rfl, s1, rp1, p1.calm (c _ _)⟩
/-! ### argument lists, displays, built-ins -/
theorem q_nil : PA X [] (tA G aNil Wx) := paI pa_nil fun σ H Q q => by
  obtain ⟨w, env, rfl, sr, er, p⟩ := q
  exact Post.ret (Ra := RepL G) sr (by simp [RepL]) p
theorem q_cons {e : Expr} {es : List Expr} {m : ED} {ms : AD} (ha : PE X e (tE G m Wx)) (hr : PA X es (tA G ms Wx)) (hs : starEach (e :: es) X.env = (false, eval e X.env) :: starEach es X.env := by rfl) : PA X (e :: es) (tA G (aCons m ms) Wx) :=
  paI (pa_cons ha hr hs) fun σ H Q q => by
    obtain ⟨w, env, rfl, sr, er, p⟩ := q
    refine ⟨w, env, rfl, sr, er, (Post.bind p).mono (fun x H1 m => ?_) fun _ _ _ h => h⟩
    obtain ⟨w1, d1, rfl, x1, s1, rp1, p1⟩ := m
    refine ⟨w1, env, rfl, s1, er.mono x1, (Post.bind p1).mono (fun y H2 m => ?_) fun _ _ _ h => h⟩
    obtain ⟨w2, d2, rfl, x2, s2, rp2, p2⟩ := m
    exact Post.ret (Ra := RepL G) (a := d1 :: d2) s2 (by simp only [RepL]; exact ⟨x, y, rfl, Rep.mono x2 _ _ rp1, rp2⟩) p2
theorem imp_eN {f : FN} {a : AD} (c : CalmN f) : ∀ σ H Q, tE G (eN f a) Wx σ H Q → tCB (rN G f) (tA G a Wx) σ H Q := by
  intro σ H Q q
  obtain ⟨w, env, rfl, sr, er, p⟩ := q
  refine ⟨w, env, rfl, sr, er, (Post.bind p).mono (fun x H1 m => ?_) fun _ _ _ h => h⟩
  obtain ⟨w1, d1, rfl, x1, s1, rp1, p1⟩ := m
  exact ⟨w1, d1, rfl, s1, rp1, p1.calm (c _ _)⟩
theorem q_callB {id : String} {x : Str} {p : Pos} {f : FN} {e : Expr} {es : List Expr} {m : AD} (hc : CallR X (.builtin id) (rN G f)) (c : CalmN f) (hg : Gl X x) (hm : X.mg x = none) (hv : bootBuiltins x = some (.builtin id)) (ha : PA X (e :: es) (tA G m Wx)) (hn : x ≠ "__name__" := by decide) (hdb : (x == ("__debug__" : Str)) = false := by decide)
    (he : starEach (e :: es) X.env = (false, eval e X.env) :: starEach es X.env := by rfl) (hpl : (backTo pos (starEach es X.env)).any (·.1) = false := by rfl) : PE X (.Call (.Name x p) (e :: es) [] pos) (tE G (eN f m) Wx) :=
  peI (pe_callB hc hg hm hv ha hn hdb he hpl) (imp_eN c)
theorem q_callTy {T : String} {x : Str} {p : Pos} {f : FN} {e : Expr} {es : List Expr} {m : AD} (hc : CallR X (.type T) (rN G f)) (c : CalmN f) (hg : Gl X x) (hm : X.mg x = none) (hv : bootBuiltins x = some (.type T)) (ha : PA X (e :: es) (tA G m Wx)) (hn : x ≠ "__name__" := by decide) (hdb : (x == ("__debug__" : Str)) = false := by decide)
    (he : starEach (e :: es) X.env = (false, eval e X.env) :: starEach es X.env := by rfl) (hpl : (backTo pos (starEach es X.env)).any (·.1) = false := by rfl) : PE X (.Call (.Name x p) (e :: es) [] pos) (tE G (eN f m) Wx) :=
  peI (pe_callTy hc hg hm hv ha hn hdb he hpl) (imp_eN c)
end
end L3
set_option Elab.async false
set_option linter.all false
set_option maxRecDepth 100000
/-! L3C: worlds that change; statements, loops, comprehensions. -/
namespace L3
open PySem PySem.Spec PyProof.Rows L2

section
variable {G : GC} {w : Wd} {p : Addr} {o : HO}
theorem RepL.length : ∀ {ds : List D} {vs : List V}, RepL G w ds vs → vs.length = ds.length
  | [], vs, h => by simp only [RepL] at h; subst h; rfl
  | d :: ds, vs, h => by
    simp only [RepL] at h
    obtain ⟨v, r, rfl, _, h2⟩ := h
    simp [RepL.length h2]
theorem RepL.get : ∀ {ds : List D} {vs : List V} {i : Nat} {d : D}, RepL G w ds vs → ds[i]? = some d → ∃ v, vs[i]? = some v ∧ Rep G w d v
  | [], _, _, _, _, e => by simp at e
  | d :: ds, vs, 0, d', h, e => by
    simp only [RepL] at h
    obtain ⟨v, r, rfl, h1, h2⟩ := h
    simp at e; subst e
    exact ⟨v, rfl, h1⟩
  | d :: ds, vs, i + 1, d', h, e => by
    simp only [RepL] at h
    obtain ⟨v, r, rfl, h1, h2⟩ := h
    obtain ⟨u, q1, q2⟩ := RepL.get (i := i) (d := d') h2 (by simpa using e)
    exact ⟨u, by simpa using q1, q2⟩
theorem RepL.append : ∀ {ds ds' : List D} {vs vs' : List V}, RepL G w ds vs → RepL G w ds' vs' → RepL G w (ds ++ ds') (vs ++ vs')
  | [], _, _, _, h, h' => by simp only [RepL] at h; subst h; exact h'
  | d :: ds, ds', vs, vs', h, h' => by
    simp only [RepL] at h
    obtain ⟨v, r, rfl, h1, h2⟩ := h
    show RepL G w (d :: (ds ++ ds')) (v :: (r ++ vs'))
    simp only [RepL]
    exact ⟨v, r ++ vs', rfl, h1, RepL.append h2 h'⟩
theorem RepL.one {d : D} {v : V} (h : Rep G w d v) : RepL G w [d] [v] := by
  simp only [RepL]; exact ⟨v, [], rfl, h, rfl⟩
theorem RepL.take : ∀ {ds : List D} {vs : List V} (n : Nat), RepL G w ds vs → RepL G w (ds.take n) (vs.take n)
  | _, _, 0, _ => by simp [RepL]
  | [], vs, n + 1, h => by simp only [RepL] at h; subst h; simp [RepL]
  | d :: ds, vs, n + 1, h => by
    simp only [RepL] at h
    obtain ⟨v, r, rfl, h1, h2⟩ := h
    simp only [List.take_succ_cons, RepL]
    exact ⟨v, _, rfl, h1, RepL.take n h2⟩
theorem RepL.drop : ∀ {ds : List D} {vs : List V} (n : Nat), RepL G w ds vs → RepL G w (ds.drop n) (vs.drop n)
  | _, _, 0, h => h
  | [], vs, n + 1, h => by simp only [RepL] at h; subst h; simp [RepL]
  | d :: ds, vs, n + 1, h => by
    simp only [RepL] at h
    obtain ⟨v, r, rfl, h1, h2⟩ := h
    simp only [List.drop_succ_cons]
    exact RepL.drop n h2
theorem RepL.set : ∀ {ds : List D} {vs : List V} (n : Nat) {d : D} {v : V}, RepL G w ds vs → Rep G w d v → RepL G w (ds.set n d) (vs.set n v)
  | [], vs, n, d, v, h, h' => by simp only [RepL] at h; subst h; simp [RepL]
  | d :: ds, vs, 0, d', v', h, h' => by
    simp only [RepL] at h
    obtain ⟨v, r, rfl, h1, h2⟩ := h
    simp only [List.set_cons_zero, RepL]
    exact ⟨_, _, rfl, h', h2⟩
  | d :: ds, vs, n + 1, d', v', h, h' => by
    simp only [RepL] at h
    obtain ⟨v, r, rfl, h1, h2⟩ := h
    simp only [List.set_cons_succ, RepL]
    exact ⟨_, _, rfl, h1, RepL.set n h2 h'⟩

theorem ORep.there {a : Addr} {ob : O} (h : ORep G w a ob) (lv : ob.live) : ∃ u, w.H a = some u := by
  cases ob with
  | lst l => obtain ⟨vs, e, _⟩ := h; exact ⟨_, e⟩
  | dK l => obtain ⟨vs, e, _⟩ := h; exact ⟨_, e⟩
  | dT l => obtain ⟨vs, e, _⟩ := h; exact ⟨_, e⟩
  | ins c l => obtain ⟨_, _, _, e, _⟩ := h; exact ⟨_, e⟩
  | dead => exact lv.elim
theorem MutS.there {a : Addr} (sr : SRep G w) (m : MutS w a) : ∃ u, w.H a = some u := by
  obtain ⟨n, ob, h1, lv, h2⟩ := m
  exact (sr.obj n ob a h1 h2).there lv
theorem ORep.keep {T : List Addr} {w' : Wd} {a : Addr} {ob : O} (x : WX' T w w') (hT : Tok T w) (h : ORep G w a ob) (e : ob.live → w'.H a = w.H a) : ORep G w' a ob := by
  cases ob with
  | lst l => obtain ⟨vs, h1, h2⟩ := h; exact ⟨vs, (e trivial).trans h1, RepL.monoT x hT _ _ h2⟩
  | dK l => obtain ⟨vs, h1, h2⟩ := h; exact ⟨vs, (e trivial).trans h1, RepKV.monoT x hT _ _ h2⟩
  | dT l => obtain ⟨vs, h1, h2⟩ := h; exact ⟨vs, (e trivial).trans h1, RepKV.monoT x hT _ _ h2⟩
  | ins c l => obtain ⟨C, dx, vs, h1, h2, h3⟩ := h; exact ⟨C, dx, vs, (e trivial).trans h1, RepKV.monoT x hT _ _ h2, h3⟩
  | dead => trivial

abbrev Wd.put (w : Wd) (p : Addr) (o : HO) : Wd := { w with H := upd w.H p o }
/-- a new object that the store does not hold -/
theorem new_ext (sr : SRep G w) (hp : w.H p = none) : WExt w (w.put p o) ∧ SRep G (w.put p o) ∧ ¬ Mut (w.put p o) p := by
  have x : WExt w (w.put p o) := ⟨fun _ _ h => h, fun a u h nm _ => ⟨(upd_ne (ne_of_none h hp)).trans h, nm⟩, fun _ h => .inl h, fun _ h => h⟩
  refine ⟨x, ⟨sr.len, sr.inj, fun n ob a h1 h2 => ?_, fun a ha => ?_⟩, fun m => m.elim (fun m => ?_) fun m => ?_⟩
  · have h := sr.obj n ob a h1 h2
    refine h.keep x noT fun lv => ?_
    obtain ⟨u, e⟩ := h.there lv
    exact upd_ne (ne_of_none e hp)
  · obtain ⟨⟨u, e⟩, nm⟩ := sr.tm a ha
    exact ⟨⟨u, (upd_ne (ne_of_none e hp)).trans e⟩, nm⟩
  · obtain ⟨u, e⟩ := MutS.there sr (show MutS w p from m)
    rw [hp] at e; cases e
  · obtain ⟨⟨u, e⟩, _⟩ := sr.tm p m
    rw [hp] at e; cases e
/-- a new object that the store holds -/
theorem new_obj {ob : O} (sr : SRep G w) (hp : w.H p = none) (hor : ∀ w', WExt w w' → w'.H p = some o → ORep G w' p ob) :
    WExt w ⟨w.mu ++ [p], w.S ++ [ob], upd w.H p o, w.tmp⟩ ∧ SRep G ⟨w.mu ++ [p], w.S ++ [ob], upd w.H p o, w.tmp⟩ := by
  have nmS : ∀ a u, w.H a = some u → ¬ MutS w a → ¬ MutS ⟨w.mu ++ [p], w.S ++ [ob], upd w.H p o, w.tmp⟩ a := fun a u h nm m => by
    obtain ⟨n, o', h1, lv, h2⟩ := m
    by_cases hn : n < w.S.length
    · refine nm ⟨n, o', ?_, lv, ?_⟩
      · simpa [List.getElem?_append_left hn] using h1
      · have : n < w.mu.length := by rw [sr.len]; exact hn
        simpa [List.getElem?_append_left this] using h2
    · have e : n = w.S.length := by
        have := (List.getElem?_eq_some_iff.mp h1).1
        simp at this; omega
      subst e
      have : (w.mu ++ [p])[w.mu.length]? = some p := by simp
      rw [← sr.len] at h2
      have e2 : p = a := Option.some.inj (this.symm.trans h2)
      rw [e2, h] at hp; cases hp
  have x : WExt w ⟨w.mu ++ [p], w.S ++ [ob], upd w.H p o, w.tmp⟩ :=
    ⟨fun n a h => by
        have hl := (List.getElem?_eq_some_iff.mp h).1
        show (w.mu ++ [p])[n]? = some a
        rw [List.getElem?_append_left hl]; exact h,
      fun a u h nm _ => ⟨(upd_ne (ne_of_none h hp)).trans h, nmS a u h nm⟩, fun _ h => .inl h, fun _ h => h⟩
  have split : ∀ (n : Nat) (o' : O), (w.S ++ [ob])[n]? = some o' → w.S[n]? = some o' ∨ (n = w.S.length ∧ o' = ob) := fun n o' h => by
    by_cases hn : n < w.S.length
    · rw [List.getElem?_append_left hn] at h; exact .inl h
    · have e : n = w.S.length := by
        have := (List.getElem?_eq_some_iff.mp h).1
        simp at this; omega
      subst e; simp at h; exact .inr ⟨rfl, h.symm⟩
  have mul : ∀ (n : Nat) (a : Addr), n < w.S.length → (w.mu ++ [p])[n]? = some a → w.mu[n]? = some a := fun n a hn h => by
    have : n < w.mu.length := by rw [sr.len]; exact hn
    rw [List.getElem?_append_left this] at h; exact h
  have mur : ∀ (a : Addr), (w.mu ++ [p])[w.S.length]? = some a → a = p := fun a h => by
    rw [← sr.len] at h; simp at h; exact h.symm
  have old : ∀ (n : Nat) (o' : O) (a : Addr), w.S[n]? = some o' → o'.live → (w.mu ++ [p])[n]? = some a → a ≠ p := fun n o' a h lv hm e => by
    have hn := (List.getElem?_eq_some_iff.mp h).1
    obtain ⟨u, q⟩ := (sr.obj n o' a h (mul n a hn hm)).there lv
    rw [e, hp] at q; cases q
  refine ⟨x, ⟨by simp [sr.len], fun n m a o1 o2 h1 h2 l1 l2 m1 m2 => ?_, fun n o' a h1 h2 => ?_, fun a ha => ?_⟩⟩
  · rcases split n o1 h1 with q1 | ⟨e1, q1⟩ <;> rcases split m o2 h2 with q2 | ⟨e2, q2⟩
    · exact sr.inj n m a o1 o2 q1 q2 l1 l2 (mul n a (List.getElem?_eq_some_iff.mp q1).1 m1) (mul m a (List.getElem?_eq_some_iff.mp q2).1 m2)
    · subst e2; exact absurd (mur a m2) (old n o1 a q1 l1 m1)
    · subst e1; exact absurd (mur a m1) (old m o2 a q2 l2 m2)
    · rw [e1, e2]
  · rcases split n o' h1 with q1 | ⟨e1, q1⟩
    · have hn := (List.getElem?_eq_some_iff.mp q1).1
      have h := sr.obj n o' a q1 (mul n a hn h2)
      refine h.keep x noT fun lv => ?_
      obtain ⟨u, e⟩ := h.there lv
      exact upd_ne (ne_of_none e hp)
    · subst e1 q1
      have e : a = p := mur a h2
      subst e
      exact hor _ x upd_same
  · obtain ⟨⟨u, e⟩, nm⟩ := sr.tm a ha
    exact ⟨⟨u, (upd_ne (ne_of_none e hp)).trans e⟩, nmS a u e nm⟩
/-- an object of the store changes -/
theorem set_obj {n : Nat} {a : Addr} {ob ob' : O} (sr : SRep G w) (hn : w.S[n]? = some ob) (lv : ob.live) (ha : w.mu[n]? = some a) (hor : ∀ w', WExt w w' → w'.H a = some o → ORep G w' a ob') :
    WExt w ⟨w.mu, w.S.set n ob', upd w.H a o, w.tmp⟩ ∧ SRep G ⟨w.mu, w.S.set n ob', upd w.H a o, w.tmp⟩ := by
  have hl := (List.getElem?_eq_some_iff.mp hn).1
  have back : ∀ (m : Nat) (o' : O), (w.S.set n ob')[m]? = some o' → (m = n ∧ o' = ob') ∨ (m ≠ n ∧ w.S[m]? = some o') := fun m o' h => by
    by_cases e : n = m
    · subst e; rw [List.getElem?_set_self hl] at h; exact .inl ⟨rfl, (Option.some.inj h).symm⟩
    · rw [List.getElem?_set_ne e] at h; exact .inr ⟨fun z => e z.symm, h⟩
  have mb : ∀ b, MutS ⟨w.mu, w.S.set n ob', upd w.H a o, w.tmp⟩ b → MutS w b := fun b ⟨m, o', h1, l1, h2⟩ => by
    rcases back m o' h1 with ⟨e, _⟩ | ⟨_, q⟩
    · subst e; exact ⟨m, ob, hn, lv, h2⟩
    · exact ⟨m, o', q, l1, h2⟩
  have nA : ∀ b, ¬ MutS w b → b ≠ a := fun b nm e => nm (by subst e; exact ⟨n, ob, hn, lv, ha⟩)
  have x : WExt w ⟨w.mu, w.S.set n ob', upd w.H a o, w.tmp⟩ := ⟨fun _ _ h => h, fun b u h nm _ => ⟨(upd_ne (nA b nm)).trans h, fun m => nm (mb b m)⟩, fun _ h => .inl h, fun _ h => h⟩
  have lvOf : ∀ (m : Nat) (o' : O), (w.S.set n ob')[m]? = some o' → o'.live → ∃ o2, w.S[m]? = some o2 ∧ o2.live := fun m o' h l => by
    rcases back m o' h with ⟨e, _⟩ | ⟨_, q⟩
    · subst e; exact ⟨ob, hn, lv⟩
    · exact ⟨o', q, l⟩
  refine ⟨x, ⟨by simp [sr.len], fun i j b o1 o2 h1 h2 l1 l2 m1 m2 => ?_, fun m o' b h1 h2 => ?_, fun b hb => ?_⟩⟩
  · obtain ⟨p1, q1, r1⟩ := lvOf i o1 h1 l1
    obtain ⟨p2, q2, r2⟩ := lvOf j o2 h2 l2
    exact sr.inj i j b p1 p2 q1 q2 r1 r2 m1 m2
  · rcases back m o' h1 with ⟨e, e2⟩ | ⟨ne, q⟩
    · subst e e2
      have e3 : b = a := Option.some.inj (h2.symm.trans ha)
      subst e3
      exact hor _ x upd_same
    · have h := sr.obj m o' b q h2
      refine h.keep x noT fun l => upd_ne fun e => ne ?_
      subst e
      exact sr.inj m n _ o' ob q hn l lv h2 ha
  · obtain ⟨⟨u, e⟩, nm⟩ := sr.tm b hb
    exact ⟨⟨u, (upd_ne (nA b nm)).trans e⟩, fun m => nm (mb b m)⟩
end
end L3
set_option Elab.async false
set_option linter.all false
set_option maxRecDepth 100000
/-! L3D: statements, loops. -/
namespace L3
open PySem PySem.Spec PyProof.Rows L2

section
variable {G : GC} {X : Cx} {Wx : WX} {pos : Pos}
/-! ### tests -/
theorem q_val {e : Expr} {m : ED} (h : PE X e (tE G m Wx)) (he : ∀ whole, isTrue e X.env whole = (do let v ← whole; standAt e.pos; holding [v] (truthy v)) := by intro _; rfl) : PT X e (tT G (tOfE m) Wx) := ptI (pt_val h he) fun σ H Q q => by
  obtain ⟨w, env, rfl, sr, er, p⟩ := q
  refine ⟨w, env, rfl, sr, er, (Post.bind p).mono (fun x H1 m => ?_) fun _ _ _ h => h⟩
  obtain ⟨w1, d1, rfl, x1, s1, rp1, p1⟩ := m
  cases d1 with
  | bl k =>
    simp only [Rep] at rp1; subst rp1
    exact ⟨k, rfl, Post.ret (Ra := fun _ (a b : Bool) => a = b) s1 rfl p1⟩
  | _ => exact p1.elim
theorem q_tnot {c : Expr} {m : TD} (h : PT X c (tT G m Wx)) : PT X (.UnaryOp .Not c pos) (tT G (tNot m) Wx) := ptI (pt_not h) fun σ H Q q => by
  obtain ⟨w, env, rfl, sr, er, p⟩ := q
  refine ⟨w, env, rfl, sr, er, (Post.bind (Ra := fun _ (a b : Bool) => a = b) p).mono (fun x H1 m => ?_) fun _ _ _ h => h⟩
  obtain ⟨w1, d1, rfl, x1, s1, rp1, p1⟩ := m
  subst rp1
  exact Post.ret (Ra := fun _ (a b : Bool) => a = b) s1 rfl p1
theorem imp_and {a b : TD} : ∀ σ H Q, tT G (tAnd a b) Wx σ H Q → L2.tAnd (tT G a Wx) (tT G b Wx) σ H Q := by
  intro σ H Q q
  obtain ⟨w, env, rfl, sr, er, p⟩ := q
  refine ⟨w, env, rfl, sr, er, (Post.bind (Ra := fun _ (a b : Bool) => a = b) p).mono (fun x H1 m => ?_) fun _ _ _ h => h⟩
  obtain ⟨w1, d1, rfl, x1, s1, rp1, p1⟩ := m
  subst rp1
  cases d1 with
  | true => exact iteT ⟨w1, env, rfl, s1, er.mono x1, p1⟩
  | false => exact iteF (Post.ret (Ra := fun _ (a b : Bool) => a = b) s1 rfl p1)
theorem imp_or {a b : TD} : ∀ σ H Q, tT G (tOr a b) Wx σ H Q → L2.tOr (tT G a Wx) (tT G b Wx) σ H Q := by
  intro σ H Q q
  obtain ⟨w, env, rfl, sr, er, p⟩ := q
  refine ⟨w, env, rfl, sr, er, (Post.bind (Ra := fun _ (a b : Bool) => a = b) p).mono (fun x H1 m => ?_) fun _ _ _ h => h⟩
  obtain ⟨w1, d1, rfl, x1, s1, rp1, p1⟩ := m
  subst rp1
  cases d1 with
  | true => exact iteT (Post.ret (Ra := fun _ (a b : Bool) => a = b) s1 rfl p1)
  | false => exact iteF ⟨w1, env, rfl, s1, er.mono x1, p1⟩

/-! ### small statements -/
theorem q_pass : PS X (.Pass pos) (tS G sSkip Wx) := psI ps_pass fun D σ H q => by
  obtain ⟨w, env, rfl, sr, er, p⟩ := q
  exact p σ w (.refl w) rfl sr er
theorem q_break : PS X (.Break pos) (tS G sBrk Wx) := psI ps_break fun D σ H q => by
  obtain ⟨w, env, rfl, sr, er, p⟩ := q
  exact p σ w (.refl w) rfl sr er
theorem q_cont : PS X (.Continue pos) (tS G sCt Wx) := psI ps_continue fun D σ H q => by
  obtain ⟨w, env, rfl, sr, er, p⟩ := q
  exact p σ w (.refl w) rfl sr er
theorem q_expr {e : Expr} {m : ED} (h : PE X e (tE G m Wx)) (hs : swapsWith e none pos.line X.env = pure false := by rfl) : PS X (.Expr e pos) (tS G (sExpr m) Wx) := psI (ps_expr h hs) fun D σ H q => by
  obtain ⟨w, env, rfl, sr, er, p⟩ := q
  refine ⟨w, env, rfl, sr, er, (PostS.ofR (Ra := Rep G) er p).mono (fun x H1 m => ?_) fun _ _ _ h => h⟩
  obtain ⟨w1, d1, rfl, x1, s1, rp1, p1⟩ := m
  exact p1 σ w1 (.refl w1) rfl s1 (er.mono x1)
theorem q_ret {e : Expr} {m : ED} (h : PE X e (tE G m Wx)) : PS X (.Return (some e) pos) (tS G (sRet m) Wx) := psI (ps_ret h) fun D σ H q => by
  obtain ⟨w, env, rfl, sr, er, p⟩ := q
  refine ⟨w, env, rfl, sr, er, (PostS.ofR (Ra := Rep G) er p).mono (fun x H1 m => ?_) fun _ _ _ h => h⟩
  obtain ⟨w1, d1, rfl, x1, s1, rp1, p1⟩ := m
  exact p1 x w1 (.refl w1) rfl s1 rp1
theorem q_retN : PS X (.Return none pos) (tS G (sRet (eK .non)) Wx) := psI ps_retN fun D σ H q => by
  obtain ⟨w, env, rfl, sr, er, p⟩ := q
  exact p _ w (.refl w) rfl sr (by simp [Rep])
theorem q_if {c : Expr} {a b : List Stmt} {mc : TD} {ma mb : SD} (hc : PT X c (tT G mc Wx)) (ha : PSs X a (tS G ma Wx)) (hb : PSs X b (tS G mb Wx)) : PS X (.If c a b pos) (tS G (sIf mc ma mb) Wx) := psI (ps_if hc ha hb) fun D σ H q => by
  obtain ⟨w, env, rfl, sr, er, p⟩ := q
  refine ⟨w, env, rfl, sr, er, (PostS.ofR (Ra := fun _ (a b : Bool) => a = b) er p).mono (fun x H1 m => ?_) fun _ _ _ h => h⟩
  obtain ⟨w1, d1, rfl, x1, s1, rp1, p1⟩ := m
  subst rp1
  cases d1 with
  | true => exact iteT ⟨w1, env, rfl, s1, er.mono x1, p1⟩
  | false => exact iteF ⟨w1, env, rfl, s1, er.mono x1, p1⟩
theorem q_snil : PSs X [] (tS G sSkip Wx) := pssI pss_nil fun D σ H q => by
  obtain ⟨w, env, rfl, sr, er, p⟩ := q
  exact p σ w (.refl w) rfl sr er
theorem q_scons {st : Stmt} {rest : List Stmt} {a b : SD} (h1 : PS X st (tS G a Wx)) (h2 : PSs X rest (tS G b Wx)) : PSs X (st :: rest) (tS G (sSeq a b) Wx) := pssI (pss_cons h1 h2) fun D σ H q => by
  obtain ⟨w, env, rfl, sr, er, p⟩ := q
  refine ⟨w, env, rfl, sr, er, ?_⟩
  unfold sSeq at p
  cases h : a env w.S with
  | nx env1 S1 =>
    rw [h] at p
    intro σ' w' e hs s' er'
    subst hs
    exact ⟨w', env1, rfl, s', er', PostS.shift e p⟩
  | ret d S1 => rw [h] at p; exact p
  | brk env1 S1 => rw [h] at p; exact p
  | ct env1 S1 => rw [h] at p; exact p
  | exc e env1 S1 => rw [h] at p; exact p
  | bad => rw [h] at p; exact p.elim
theorem q_sone {st : Stmt} {a : SD} (h1 : PS X st (tS G a Wx)) : PSs X [st] (tS G a Wx) := pss_one h1

/-! ### targets -/
def tG (G : GC) (g : GD) : TG := fun v σ H Q => ∃ w env d, w.H = H ∧ SRep G w ∧ ERep G w env σ ∧ Rep G w d v ∧
  match g d env w.S with
  | .nx env' S' => ∀ σ' w', WExt w w' → w'.S = S' → SRep G w' → ERep G w' env' σ' → Q σ' w'.H
  | _ => False
theorem pgI {e : Expr} {t t' : TG} (h : PG X e t) (i : ∀ v σ H Q, t' v σ H Q → t v σ H Q) : PG X e t' := ⟨fun pins s σ H v u Q I r q => h.run pins s σ H v u Q I r (i _ _ _ _ q)⟩
theorem q_gname {e : Expr} {i : Nat} (h : PG X e (L2.gName i)) : PG X e (tG G (gName i)) := pgI h fun v σ H Q q => by
  obtain ⟨w, env, d, rfl, sr, er, rp, p⟩ := q
  exact p _ w (.refl w) rfl sr (er.set i rp)
/-- a target stores, or the way is not told -/
def GOk (g : GD) : Prop := ∀ d env S, (∃ env' S', g d env S = .nx env' S') ∨ g d env S = .bad
theorem q_asg {tg e : Expr} {m : ED} {g : GD} (he : PE X e (tE G m Wx)) (hg : PG X tg (tG G g)) (hs : swapsWithSole [tg] e pos.line X.env = pure false := by rfl) (hw : swappedStores [tg] e X.env = pure none := by rfl)
    (h1 : (assignEach [tg] X.env).map (·.2) = [assign tg X.env] := by rfl) (gn : GOk g) : PS X (.Assign [tg] e pos) (tS G (sAsg m g) Wx) := psI (ps_asg he hg hs hw h1) fun D σ H q => by
  obtain ⟨w, env, rfl, sr, er, p⟩ := q
  refine ⟨w, env, rfl, sr, er, (PostS.ofR (Ra := Rep G) er p).mono (fun x H1 m => ?_) fun _ _ _ h => h⟩
  obtain ⟨w1, d1, rfl, x1, s1, rp1, p1⟩ := m
  refine ⟨w1, env, d1, rfl, s1, er.mono x1, rp1, ?_⟩
  rcases gn d1 env w1.S with ⟨env', S', h⟩ | h
  · rw [h] at p1 ⊢; exact p1
  · rw [h] at p1; exact p1.elim
theorem q_set {i : Nat} {x : Str} {e : Expr} {m : ED} {pos' : Pos} (hN : X.N.Nodup) (hi : X.N[i]? = some x) (hx : Loc X.env.scope x) (he : PE X e (tE G m Wx)) (hs : swapsWith e (some (.Name x pos')) pos.line X.env = pure false := by rfl) (hf : X.fn x = true ∨ X.env.scope.names.lookup x = some .local := by first | exact .inl rfl | exact .inr rfl | assumption) :
    PS X (.Assign [.Name x pos'] e pos) (tS G (sAsg m (gName i)) Wx) := psI (ps_set hN hi hx he hs hf) fun D σ H q => by
  obtain ⟨w, env, rfl, sr, er, p⟩ := q
  refine ⟨w, env, rfl, sr, er, (PostS.ofR (Ra := Rep G) er p).mono (fun x H1 m => ?_) fun _ _ _ h => h⟩
  obtain ⟨w1, d1, rfl, x1, s1, rp1, p1⟩ := m
  exact p1 _ w1 (.refl w1) rfl s1 ((er.mono x1).set i rp1)

/-! ### what a loop walks -/
structure ItOk (G : GC) (w : Wd) (J : It) (xs : List D) : Prop where
  go : ∀ (T : List Addr) w', Tok T w → WX' T w w' → SRep G w' → ∀ (i : Nat) (d : D), xs[i]? = some d → J.go i w'.H ∧ ∀ x H'', J.yld i w'.H x H'' → ∃ w'', w''.H = H'' ∧ WExt w' w'' ∧ w''.S = w'.S ∧ SRep G w'' ∧ Rep G w'' d x
  stop : ∀ (T : List Addr) w', Tok T w → WX' T w w' → SRep G w' → J.stop xs.length w'.H
/-- an iterable: what it gives -/
abbrev ID := EnvD → Store → R (List D)
def tI (G : GC) (m : ID) (Wx : WX) : TI := fun σ H Rr => ∃ w env, w.H = H ∧ SRep G w ∧ ERep G w env σ ∧ Post G w (m env w.S) (fun w' xs (J : It) => ItOk G w' J xs) Rr (fun C dx H' => Wx C dx σ H')
end
end L3
set_option Elab.async false
set_option linter.all false
set_option maxRecDepth 100000
/-! L3E: what is walked; for, while, comprehensions. -/
namespace L3
open PySem PySem.Spec PyProof.Rows L2

/-- one sign -/
def sgn (c : Nat) : D := .str ⟨#[c]⟩
def itemsD (x : D) (S : Store) : R (List D) := match x with
  | .tup l => .ok l S
  | .lst l => .ok l S
  | .str s => .ok (s.cps.toList.map sgn) S
  | .scr ns => .ok (ns.map .int) S
  | _ => .bad
def iSeq (a : ED) : ID := fun env S => (a env S).bind fun x S1 => itemsD x S1
def rangeD (lo hi : Int) : List D := (List.range (hi - lo).toNat).map fun i => .int (lo + (i : Nat))
def okRng (i : Int) : Bool := decide (-(2 ^ 62) ≤ i ∧ i < 2 ^ 62)
def range1 : List D → Store → R (List D) := fun xs S => match xs with
  | [.int j] => if okRng j then .ok (rangeD 0 j) S else .bad
  | _ => .bad
def range2 : List D → Store → R (List D) := fun xs S => match xs with
  | [.int i, .int j] => if okRng i && okRng j then .ok (rangeD i j) S else .bad
  | _ => .bad
def iArgs (f : List D → Store → R (List D)) (a : AD) : ID := fun env S => (a env S).bind fun xs S1 => f xs S1

theorem piI {X : Cx} {tg e : Expr} {t t' : TI} (h : PI X tg e t) (i : ∀ σ H R, t' σ H R → t σ H R) : PI X tg e t' := ⟨fun pins s σ H R I q => h.run pins s σ H R I (i _ _ _ q)⟩

section
variable {G : GC} {X : Cx} {Wx : WX} {pos : Pos}
theorem RepL_ints {w : Wd} : ∀ {ns : List Int} {vs : List V}, RepL G w (ns.map .int) vs ↔ vs = ns.map V.int
  | [], vs => by simp [RepL]
  | n :: ns, vs => by
    simp only [List.map_cons, RepL, Rep]
    constructor
    · rintro ⟨v, r, rfl, rfl, h⟩; rw [RepL_ints.mp h]
    · rintro rfl; exact ⟨_, _, rfl, rfl, RepL_ints.mpr rfl⟩
theorem fr_tok {T : List Addr} {w : Wd} (h : ∀ a ∈ T, w.H a = none) : Tok T w := fun a ha => .inr (h a ha)
theorem it_list {w : Wd} {a : Addr} {vs : List V} {l : List D} (h : (w.H a = some (.lst vs) ∧ ¬ Mut w a) ∨ Fz w a (.lst vs) ∨ KL G.K a vs) (r : RepL G w l vs) : ItOk G w (Itl G.K a) l := by
  have sq : ∀ (T : List Addr) w', Tok T w → WX' T w w' → SqL G.K w'.H a vs := fun T w' hT x => by
    rcases h with ⟨h, nm⟩ | h | h
    · exact .inl (.inl (x.keepM hT h nm).1)
    · exact .inl (Fz.monoT x hT h).1
    · exact .inr h
  have inj : ∀ (T : List Addr) w', Tok T w → WX' T w w' → ∀ (i : Nat) (d : D), l[i]? = some d → ∃ v, vs[i]? = some v ∧ Rep G w' d v := fun T w' hT x i d e => by
    obtain ⟨v, q1, q2⟩ := r.get e
    exact ⟨v, q1, Rep.monoT x hT _ _ q2⟩
  refine ⟨fun T w' hT x s i d e => ?_, fun T w' hT x s => ⟨vs, sq T w' hT x, by rw [r.length]; exact Nat.le_refl _⟩⟩
  obtain ⟨v, q1, q2⟩ := inj T w' hT x i d e
  refine ⟨⟨vs, v, sq T w' hT x, q1⟩, fun y H'' hy => ?_⟩
  obtain ⟨rfl, hy⟩ := hy
  have e2 := hy vs (sq T w' hT x)
  rw [q1] at e2; cases e2
  exact ⟨w', rfl, .refl w', rfl, s, q2⟩
theorem it_tup {w : Wd} {a : Addr} {vs : List V} {l : List D} (h : TupAt G w a vs l) (r : RepL G w l vs) : ItOk G w (Itt G.K a) l := by
  have sq : ∀ (T : List Addr) w', Tok T w → WX' T w w' → SqT G.K w'.H a vs := fun T w' hT x => by
    rcases h with ⟨h, nm⟩ | h
    · exact .inl (.inl (x.keepM hT h nm).1)
    · exact .inr h.1
  refine ⟨fun T w' hT x s i d e => ?_, fun T w' hT x s => ⟨vs, sq T w' hT x, by rw [r.length]; exact Nat.le_refl _⟩⟩
  obtain ⟨v, q1, q2⟩ := r.get e
  refine ⟨⟨vs, v, sq T w' hT x, q1⟩, fun y H'' hy => ?_⟩
  obtain ⟨rfl, hy⟩ := hy
  have e2 := hy vs (sq T w' hT x)
  rw [q1] at e2; cases e2
  exact ⟨w', rfl, .refl w', rfl, s, Rep.monoT x hT _ _ q2⟩
theorem it_rng {w : Wd} {lo : Int} {n : Nat} : ItOk G w (Itr lo n) ((List.range n).map fun i => .int (lo + (i : Nat))) := by
  refine ⟨fun T w' hT x s i d e => ?_, fun T w' hT x s => by simp [Itr]⟩
  rw [List.getElem?_map] at e
  by_cases hi : i < n
  · rw [List.getElem?_range hi] at e
    cases e
    refine ⟨hi, fun y H'' hy => ?_⟩
    obtain ⟨rfl, rfl⟩ := hy
    exact ⟨w', rfl, .refl w', rfl, s, by simp [Rep]⟩
  · rw [List.getElem?_eq_none (by simpa using hi)] at e; cases e
theorem it_str {w : Wd} {z : Str} : ItOk G w (Its z) (z.cps.toList.map sgn) := by
  refine ⟨fun T w' hT x s i d e => ?_, fun T w' hT x s => by simp [Its]⟩
  rw [List.getElem?_map] at e
  cases q : z.cps.toList[i]? with
  | none => rw [q] at e; cases e
  | some c =>
    rw [q] at e
    cases e
    have hi : i < z.cps.size := by simpa using (List.getElem?_eq_some_iff.mp q).1
    refine ⟨hi, fun y H'' hy => ?_⟩
    obtain ⟨rfl, c', h1, rfl⟩ := hy
    have : c' = c := by
      have h2 : z.cps.toList[i]? = some c' := by simpa using h1
      rw [h2] at q; exact Option.some.inj q
    subst this
    exact ⟨w', rfl, .refl w', rfl, s, by simp [Rep, sgn]⟩
/-- a list, a tuple, a text -/
theorem q_iter {tg e : Expr} {m : ED} (hK : X.K = G.K) (h : PE X e (tE G m Wx)) : PI X tg e (tI G (iSeq m) Wx) := by
  refine ⟨fun pins s σ H R I q => ?_⟩
  obtain ⟨w, env, rfl, sr, er, p⟩ := q
  refine thn (h.run pins s σ w.H _ I ⟨w, env, rfl, sr, er, Post.bind p⟩) fun v s1 ⟨x, H1, I1, r1, q1⟩ => ?_
  obtain ⟨w1, d1, rfl, x1, sr1, rp1, p1⟩ := q1
  have lst : ∀ {a : Addr} {vs : List V}, SqL X.K w1.H a vs → R (Itl G.K a) w1.H → wpAny (model X.prog X.w) X.A (pyIter (.ref a)) (PIE X pins σ tg R) X.xe s1 := fun {a vs} hq q => by
    obtain ⟨its, rv, p, hz⟩ := I1.list hq
    refine wpAny_pyIter_list p.isList ?_
    refine ⟨s1.heap.objs.size, [s1.heap.objs.size], _, _, w1.H, rfl, I1.kept (t' := s1.toks) fun b o e => Heap.get?_push_of_some _ e, turn_list a _, ⟨_, Heap.get?_push_size _ rfl, rfl, rfl⟩, fun b hb => ?_, by rw [hK]; exact q⟩
    have e : b = s1.heap.objs.size := by simpa using hb
    subst e
    exact I1.fpOk (Nat.le_refl _) (I1.hok.fresh (Nat.le_refl _))
  cases d1 with
  | tup l =>
    simp only [Rep] at rp1
    obtain ⟨a, vs, rfl, hq, rl⟩ := rp1
    cases r1
    have q := p1 (Itt G.K a) w1 (.refl _) rfl sr1 (it_tup hq rl)
    have hq' : SqT X.K w1.H a vs := by rw [hK]; exact hq.imp (fun z => .inl z.1) (fun z => z.1)
    obtain ⟨its, rv, p, hz⟩ := I1.tuple hq'
    refine wpAny_pyIter_tuple (show s1.heap.IsTuple a its.toArray from p) ?_
    refine ⟨s1.heap.objs.size, [s1.heap.objs.size], _, _, w1.H, rfl, I1.kept (t' := s1.toks) fun b o e => Heap.get?_push_of_some _ e, turn_tuple a _, ⟨_, Heap.get?_push_size _ rfl, rfl, rfl⟩, fun b hb => ?_, by rw [hK]; exact q⟩
    have e : b = s1.heap.objs.size := by simpa using hb
    subst e
    exact I1.fpOk (Nat.le_refl _) (I1.hok.fresh (Nat.le_refl _))
  | lst l =>
    simp only [Rep] at rp1
    obtain ⟨a, vs, rfl, hq, nm, rl⟩ := rp1
    cases r1
    exact lst (vs := vs) (.inl (.inl hq)) (p1 (Itl G.K a) w1 (.refl _) rfl sr1 (it_list (.inl ⟨hq, nm⟩) rl))
  | scr ns =>
    simp only [Rep] at rp1
    obtain ⟨a, rfl, hq⟩ := rp1
    cases r1
    exact lst (vs := ns.map V.int) (by rw [hK]; exact hq.imp (fun z => z.1) id) (p1 (Itl G.K a) w1 (.refl _) rfl sr1 (it_list (.inr hq) (RepL_ints.mpr rfl)))
  | str z =>
    simp only [Rep] at rp1
    subst rp1
    obtain ⟨t, rfl⟩ := r1
    have q := p1 (Its z) w1 (.refl _) rfl sr1 it_str
    cases ha : z.cps.all (· < 128)
    · exact wpAny_pyIter_wide ha (pi_one (tk := s1.toks) I1 _ (turn_str _ z t "str_iterator" (.inr rfl)) ⟨_, Heap.get?_push_size _ rfl, rfl, rfl⟩ q)
    · exact wpAny_pyIter_ascii ha (pi_one (tk := s1.toks) I1 _ (turn_str _ z t "str_ascii_iterator" (.inl rfl)) ⟨_, Heap.get?_push_size _ rfl, rfl, rfl⟩ q)
  | _ => exact p1.elim
theorem q_range1 {tg a : Expr} {m : AD} {p : Pos} (hg : Gl X "range") (hm : X.mg "range" = none) (ha : PA X [a] (tA G m Wx)) (hs : starEach [a] X.env = [(false, eval a X.env)] := by rfl) : PI X tg (.Call (.Name "range" p) [a] [] pos) (tI G (iArgs range1 m) Wx) := piI (pi_range1 hg hm ha hs) fun σ H R q => by
  obtain ⟨w, env, rfl, sr, er, p⟩ := q
  refine ⟨w, env, rfl, sr, er, (Post.bind p).mono (fun x H1 m => ?_) fun _ _ _ h => h⟩
  obtain ⟨w1, d1, rfl, x1, s1, rp1, p1⟩ := m
  unfold range1 at p1
  split at p1
  · rename_i j
    split at p1
    · rename_i hj
      have hj : -(2 ^ 62) ≤ j ∧ j < 2 ^ 62 := by simpa [okRng] using hj
      simp only [RepL, Rep] at rp1
      obtain ⟨v, r, rfl, rfl, rfl⟩ := rp1
      refine ⟨j, rfl, hj.1, hj.2, ?_⟩
      have q := p1 (Itr 0 j.toNat) w1 (.refl _) rfl s1 (by have := it_rng (G := G) (w := w1) (lo := 0) (n := j.toNat); simpa [rangeD] using this)
      exact q
    · exact p1.elim
  · exact p1.elim
theorem q_range2 {tg a b : Expr} {m : AD} {p : Pos} (hg : Gl X "range") (hm : X.mg "range" = none) (ha : PA X [a, b] (tA G m Wx)) (hs : starEach [a, b] X.env = [(false, eval a X.env), (false, eval b X.env)] := by rfl) (hs2 : starEach [b] X.env = [(false, eval b X.env)] := by rfl) :
    PI X tg (.Call (.Name "range" p) [a, b] [] pos) (tI G (iArgs range2 m) Wx) := piI (pi_range2 hg hm ha hs hs2) fun σ H R q => by
  obtain ⟨w, env, rfl, sr, er, p⟩ := q
  refine ⟨w, env, rfl, sr, er, (Post.bind p).mono (fun x H1 m => ?_) fun _ _ _ h => h⟩
  obtain ⟨w1, d1, rfl, x1, s1, rp1, p1⟩ := m
  unfold range2 at p1
  split at p1
  · rename_i i j
    split at p1
    · rename_i hj
      have hj : (-(2 ^ 62) ≤ i ∧ i < 2 ^ 62) ∧ (-(2 ^ 62) ≤ j ∧ j < 2 ^ 62) := by simpa [okRng] using hj
      simp only [RepL, Rep] at rp1
      obtain ⟨v, r, rfl, rfl, v', r', rfl, rfl, rfl⟩ := rp1
      refine ⟨i, j, rfl, ⟨hj.1.1, hj.1.2, hj.2.1, hj.2.2⟩, ?_⟩
      exact p1 (Itr i (j - i).toNat) w1 (.refl _) rfl s1 it_rng
    · exact p1.elim
  · exact p1.elim

/-! ### for -/
def sFor (mi : ID) (g : GD) (body : SD) : SD := fun env S => (mi env S).toS env fun xs S1 => forL g body xs env S1
theorem q_for {tg iter : Expr} {body : List Stmt} {mi : ID} {g : GD} {mb : SD} (hp : PassesOwn (model X.prog X.w) X.A X.env X.xe) (hc : X.calm = true) (hi : PI X tg iter (tI G mi Wx)) (hg : PG X tg (tG G g)) (hb : PSs X body (tS G mb Wx))
    (hs : ∀ x, foldedSetIterable iter X.env x = pure x := by intro _; rfl) : PS X (.For tg iter body [] pos) (tS G (sFor mi g mb) Wx) := psI (ps_for hp hc hi hg hb hs) fun D σ H q => by
  obtain ⟨w, env, rfl, sr, er, p⟩ := q
  refine ⟨w, env, rfl, sr, er, (PostS.ofR (Ra := fun w' xs (J : It) => ItOk G w' J xs) er p).mono (fun J H1 m => ?_) fun _ _ _ h => h⟩
  obtain ⟨w1, xs, rfl, x1, s1, io, p1⟩ := m
  refine ⟨fun i m σ H => ∃ w env, w.H = H ∧ SRep G w ∧ ERep G w env σ ∧ WExt w1 w ∧ i + m = xs.length ∧ PostS G w (forL g mb (xs.drop i) env w.S) D Wx, ⟨xs.length, w1, env, rfl, s1, er.mono x1, .refl _, by omega, by simpa using p1⟩, fun i m σ H hW => ?_⟩
  obtain ⟨w2, env2, rfl, s2, er2, x2, em, p2⟩ := hW
  by_cases hi : i < xs.length
  · have e : xs[i]? = some xs[i] := List.getElem?_eq_getElem hi
    rw [List.drop_eq_getElem_cons hi] at p2
    obtain ⟨go, yl⟩ := io.go [] w2 (fun a h => by simp at h) x2 s2 i xs[i] e
    refine .inr ⟨go, fun σ' H' => ∃ w env, w.H = H' ∧ SRep G w ∧ ERep G w env σ' ∧ WExt w1 w ∧ (i + 1) + (m - 1) = xs.length ∧ PostS G w (forL g mb (xs.drop (i + 1)) env w.S) D Wx, fun σ' H' hN => ⟨m - 1, by omega, hN⟩, fun x H' hy => ?_⟩
    obtain ⟨w3, rfl, x3, eS, s3, rp3⟩ := yl x H' hy
    refine ⟨w3, env2, xs[i], rfl, s3, er2.mono x3, rp3, ?_⟩
    rw [forL] at p2
    rw [eS]
    cases hg2 : g xs[i] env2 w2.S with
    | nx env4 S4 =>
      rw [hg2] at p2
      intro σ4 w4 x4 e4 s4 er4
      subst e4
      refine ⟨w4, env4, rfl, s4, er4, ?_⟩
      have x24 : WExt w1 w4 := WX'.trans (WX'.trans x2 x3) x4
      have p3 := PostS.shift (WX'.trans x3 x4) p2
      cases hb4 : mb env4 w4.S with
      | nx env5 S5 =>
        simp only [hb4] at p3
        intro σ5 w5 x5 e5 s5 er5
        subst e5
        exact ⟨w5, env5, rfl, s5, er5, WX'.trans x24 x5, by omega, PostS.shift x5 p3⟩
      | ct env5 S5 =>
        simp only [hb4] at p3
        intro σ5 w5 x5 e5 s5 er5
        subst e5
        exact ⟨w5, env5, rfl, s5, er5, WX'.trans x24 x5, by omega, PostS.shift x5 p3⟩
      | brk env5 S5 => simp only [hb4] at p3; exact p3
      | ret d S5 => simp only [hb4] at p3; exact p3
      | exc e env5 S5 => simp only [hb4] at p3; exact p3
      | bad => simp only [hb4] at p3; exact p3.elim
    | ret _ _ => rw [hg2] at p2; exact p2.elim
    | brk _ _ => rw [hg2] at p2; exact p2.elim
    | ct _ _ => rw [hg2] at p2; exact p2.elim
    | exc _ _ _ => rw [hg2] at p2; exact p2.elim
    | bad => rw [hg2] at p2; exact p2.elim
  · have ei : i = xs.length := by omega
    subst ei
    refine .inl ⟨io.stop [] w2 (fun a h => by simp at h) x2 s2, ?_⟩
    rw [List.drop_length] at p2
    exact p2 σ w2 (.refl _) rfl s2 er2

/-! ### while -/
theorem q_while {c : Expr} {body : List Stmt} {mc : TD} {mb : SD} (n : Nat) (hp : PassesOwn (model X.prog X.w) X.A X.env X.xe) (hc : PT X c (tT G mc Wx)) (hb : PSs X body (tS G mb Wx)) : PS X (.While c body [] pos) (tS G (sWhile mc mb n) Wx) := psI (ps_while hp hc hb) fun D σ H q => by
  refine ⟨fun m σ H => tS G (sWhile mc mb m) Wx D σ H, ⟨n, q⟩, fun m σ H hW => ?_⟩
  obtain ⟨w, env, rfl, sr, er, p⟩ := hW
  cases m with
  | zero => exact p.elim
  | succ m =>
    refine ⟨w, env, rfl, sr, er, (PostS.ofR (Ra := fun _ (a b : Bool) => a = b) er p).mono (fun x H1 m => ?_) fun _ _ _ h => h⟩
    obtain ⟨w1, d1, rfl, x1, s1, rp1, p1⟩ := m
    subst rp1
    cases d1 with
    | false => exact iteF (p1 σ w1 (.refl _) rfl s1 (er.mono x1))
    | true =>
      refine iteT ⟨fun σ' H' => tS G (sWhile mc mb m) Wx D σ' H', fun σ' H' h => ⟨m, by omega, h⟩, w1, env, rfl, s1, er.mono x1, ?_⟩
      cases hb4 : mb env w1.S with
      | nx env5 S5 =>
        simp only [hb4] at p1
        intro σ5 w5 x5 e5 s5 er5
        subst e5
        exact ⟨w5, env5, rfl, s5, er5, PostS.shift x5 p1⟩
      | ct env5 S5 =>
        simp only [hb4] at p1
        intro σ5 w5 x5 e5 s5 er5
        subst e5
        exact ⟨w5, env5, rfl, s5, er5, PostS.shift x5 p1⟩
      | brk env5 S5 => simp only [hb4] at p1; exact p1
      | ret d S5 => simp only [hb4] at p1; exact p1
      | exc e env5 S5 => simp only [hb4] at p1; exact p1
      | bad => simp only [hb4] at p1; exact p1.elim
end
end L3
set_option Elab.async false
set_option linter.all false
set_option maxRecDepth 100000
/-! L3F: list comprehensions. -/
namespace L3
open PySem PySem.Spec PyProof.Rows L2

def R.nox {α : Type} (r : R α) : R α := match r with
  | .ok a S => .ok a S
  | _ => .bad
def wipeD (env : EnvD) : List Nat → EnvD
  | [] => env
  | v :: vs => (wipeD env vs).set v none
def tYesD : TD := fun _ S => .ok true S
def lcL (g : GD) (tt : TD) (te : ED) (env : EnvD) : List D → Store → R (List D)
  | [], S => .ok [] S
  | x :: xs, S => match g x env S with
    | .nx env1 S1 => (tt env1 S1).nox.bind fun k S2 => match k with
      | true => (te env1 S2).nox.bind fun y S3 => (lcL g tt te env xs S3).bind fun ys S4 => .ok (y :: ys) S4
      | false => lcL g tt te env xs S2
    | _ => .bad
def eLc (mi : ID) (vs : List Nat) (g : GD) (tt : TD) (te : ED) : ED := fun env S => (mi env S).bind fun xs S1 =>
  if xs.length ≤ sizeLine then (lcL g tt te (wipeD env vs) xs S1).bind fun ys S2 => .ok (.lst ys) S2 else .bad

theorem R.bind_assoc {α β γ : Type} (r : R α) (f : α → Store → R β) (g : β → Store → R γ) : (r.bind f).bind g = r.bind fun a S => (f a S).bind g := by
  cases r <;> rfl
theorem R.bind_ok {α : Type} (r : R α) : (r.bind fun a S => .ok a S) = r := by cases r <;> rfl

section
variable {G : GC} {X : Cx} {Wx : WX} {pos : Pos}
theorem ERep.unset {w : Wd} {env : EnvD} {σ : L2.St} (i : Nat) (h : ERep G w env σ) : ERep G w (env.set i none) (σ.set i none) := by
  refine ⟨by simp [h.len], fun j d' e => ?_⟩
  by_cases hj : i = j
  · subst hj
    by_cases hi : i < env.length
    · rw [List.getElem?_set_self hi] at e; cases e
    · rw [List.getElem?_eq_none (by simpa using hi)] at e; cases e
  · rw [List.getElem?_set_ne hj] at e ⊢
    exact h.at' j d' e
theorem ERep.wipe {w : Wd} {env : EnvD} {σ : L2.St} (h : ERep G w env σ) : ∀ vs : List Nat, ERep G w (wipeD env vs) (L2.wipe σ vs)
  | [] => h
  | v :: vs => (ERep.wipe h vs).unset v
theorem wipe_set {σ : L2.St} {i : Nat} {x : Option V} : ∀ {vs : List Nat}, i ∈ vs → L2.wipe (σ.set i x) vs = L2.wipe σ vs
  | [], h => by simp at h
  | v :: vs, h => by
    show (L2.wipe (σ.set i x) vs).set v none = (L2.wipe σ vs).set v none
    by_cases hi : i ∈ vs
    · rw [wipe_set hi]
    · have hv : i = v := by simpa [hi] using h
      subst hv
      have : ∀ {us : List Nat} {τ : L2.St}, i ∉ us → L2.wipe (τ.set i x) us = (L2.wipe τ us).set i x := by
        intro us
        induction us with
        | nil => intro τ _; rfl
        | cons u us ih =>
          intro τ hu
          have h1 : i ≠ u := fun e => hu (by simp [e])
          have h2 : i ∉ us := fun e => hu (by simp [e])
          show (L2.wipe (τ.set i x) us).set u none = ((L2.wipe τ us).set u none).set i x
          rw [ih h2, List.set_comm _ _ h1]
      rw [this hi, List.set_set]

theorem wipe_sub {σ : L2.St} {vs : List Nat} : ∀ {us : List Nat}, (∀ i ∈ us, i ∈ vs) → L2.wipe (L2.wipe σ us) vs = L2.wipe σ vs
  | [], _ => rfl
  | u :: us, h => by
    show L2.wipe ((L2.wipe σ us).set u none) vs = _
    rw [wipe_set (h u (by simp)), wipe_sub fun i hi => h i (by simp [hi])]
mutual
theorem Rep.untmp {w : Wd} {t : List Addr} (ht : ∀ a ∈ t, a ∈ w.tmp) : ∀ (d : D) (v : V), Rep G w d v → Rep G { w with tmp := t } d v
  | .non, v, h => by simpa only [Rep] using h
  | .bl b, v, h => by simpa only [Rep] using h
  | .int i, v, h => by simpa only [Rep] using h
  | .str s, v, h => by simpa only [Rep] using h
  | .tup l, v, h => by
    simp only [Rep] at h ⊢
    obtain ⟨a, vs, e, h1, h2⟩ := h
    exact ⟨a, vs, e, h1.imp (fun z => ⟨z.1, fun m => z.2 (m.imp id (ht a))⟩) id, RepL.untmp ht l vs h2⟩
  | .lst l, v, h => by
    simp only [Rep] at h ⊢
    obtain ⟨a, vs, e, h1, nm, h2⟩ := h
    exact ⟨a, vs, e, h1, fun m => nm (m.imp id (ht a)), RepL.untmp ht l vs h2⟩
  | .dic ks l, v, h => by
    simp only [Rep] at h ⊢
    obtain ⟨a, vs, e, h1, nm, hl, h2⟩ := h
    exact ⟨a, vs, e, h1, fun m => nm (m.imp id (ht a)), hl, RepL.untmp ht l vs h2⟩
  | .obj n, v, h => by simpa only [Rep] using h
  | .glb y, v, h => by simpa only [Rep] using h
  | .ty n, v, h => by simpa only [Rep] using h
  | .scr ns, v, h => by
    simp only [Rep] at h ⊢
    obtain ⟨a, e, h1⟩ := h
    exact ⟨a, e, h1.imp (fun z => ⟨z.1, fun m => z.2 (m.imp id (ht a))⟩) id⟩
  | .kd ks l, v, h => by
    simp only [Rep] at h ⊢
    obtain ⟨a, es, n, vs, us, e, h1, h2, h3, h4, h5⟩ := h
    exact ⟨a, es, n, vs, us, e, h1, h2, h3, h4, RepL.untmp ht l vs h5⟩
  | .xcp c ks l, v, h => by
    simp only [Rep] at h ⊢
    obtain ⟨a, C, dx, vs, e, h1, ⟨h2, nm⟩, h3, h4, h5⟩ := h
    exact ⟨a, C, dx, vs, e, h1, ⟨h2, fun m => nm (m.imp id (ht a))⟩, h3, h4.imp id fun ⟨d, e1, e2, nd⟩ => ⟨d, e1, e2, fun m => nd (m.imp id (ht d))⟩, RepL.untmp ht l vs h5⟩
theorem RepL.untmp {w : Wd} {t : List Addr} (ht : ∀ a ∈ t, a ∈ w.tmp) : ∀ (d : List D) (v : List V), RepL G w d v → RepL G { w with tmp := t } d v
  | [], v, h => by simpa only [RepL] using h
  | d :: ds, v, h => by
    simp only [RepL] at h ⊢
    obtain ⟨y, r, e, h1, h2⟩ := h
    exact ⟨y, r, e, Rep.untmp ht d y h1, RepL.untmp ht ds r h2⟩
end
theorem RepKV.untmp {κ : Type} {w : Wd} {t : List Addr} (ht : ∀ a ∈ t, a ∈ w.tmp) : ∀ (d : List (κ × D)) (v : List (κ × V)), RepKV G w d v → RepKV G { w with tmp := t } d v
  | [], v, h => h
  | d :: ds, v, h => by
    obtain ⟨y, r, e, h1, h2⟩ := h
    exact ⟨y, r, e, Rep.untmp ht _ y h1, RepKV.untmp ht ds r h2⟩
theorem ORep.untmp {w : Wd} {t : List Addr} (ht : ∀ a ∈ t, a ∈ w.tmp) {a : Addr} : ∀ {ob : O}, ORep G w a ob → ORep G { w with tmp := t } a ob
  | .lst _, ⟨vs, h1, h2⟩ => ⟨vs, h1, RepL.untmp ht _ _ h2⟩
  | .dK _, ⟨vs, h1, h2⟩ => ⟨vs, h1, RepKV.untmp ht _ _ h2⟩
  | .dT _, ⟨vs, h1, h2⟩ => ⟨vs, h1, RepKV.untmp ht _ _ h2⟩
  | .ins _ _, ⟨C, dx, vs, h1, h2, h3⟩ => ⟨C, dx, vs, h1, RepKV.untmp ht _ _ h2, h3⟩
  | .dead, _ => trivial
theorem SRep.untmp {w : Wd} {t : List Addr} (ht : ∀ a ∈ t, a ∈ w.tmp) (s : SRep G w) : SRep G { w with tmp := t } :=
  ⟨s.len, s.inj, fun n ob a h1 h2 => ORep.untmp ht (s.obj n ob a h1 h2), fun a ha => s.tm a (ht a ha)⟩

/-- a target of a comprehension, that stores at vs alone -/
def tGW (G : GC) (g : GD) (vs : List Nat) : TG := fun v σ H Q => ∃ w env d, w.H = H ∧ SRep G w ∧ ERep G w env σ ∧ Rep G w d v ∧
  match g d env w.S with
  | .nx env' S' => ∀ σ' w', WExt w w' → w'.S = S' → SRep G w' → ERep G w' env' σ' → L2.wipe σ' vs = L2.wipe σ vs → Q σ' w'.H
  | _ => False
theorem q_gnameW {e : Expr} {i : Nat} {vs : List Nat} (h : PG X e (L2.gName i)) (hv : i ∈ vs) : PG X e (tGW G (gName i) vs) := pgI h fun v σ H Q q => by
  obtain ⟨w, env, d, rfl, sr, er, rp, p⟩ := q
  exact p _ w (.refl w) rfl sr (er.set i rp) (wipe_set hv)
theorem q_gof {e : Expr} {g : GD} {vs : List Nat} (h : PG X e (tGW G g vs)) : PG X e (tG G g) := pgI h fun v σ H Q q => by
  obtain ⟨w, env, d, rfl, sr, er, rp, p⟩ := q
  refine ⟨w, env, d, rfl, sr, er, rp, ?_⟩
  cases h : g d env w.S with
  | nx env' S' => rw [h] at p; exact fun σ' w' x e s er _ => p σ' w' x e s er
  | ret _ _ => rw [h] at p; exact p.elim
  | brk _ _ => rw [h] at p; exact p.elim
  | ct _ _ => rw [h] at p; exact p.elim
  | exc _ _ _ => rw [h] at p; exact p.elim
  | bad => rw [h] at p; exact p.elim

def tTs (G : GC) (m : TD) : TT := tT G m WF
theorem imp_lc {mi : ID} {vs : List Nat} {g : GD} {tt : TD} {te : ED} : ∀ σ H Q, tE G (eLc mi vs g tt te) Wx σ H Q → tLc (tI G mi Wx) (tGW G g vs) (tT G tt WF) (tE G te WF) vs σ H Q := by
  intro σ H Q q
  obtain ⟨w, env, rfl, sr, er, p⟩ := q
  refine ⟨w, env, rfl, sr, er, (Post.bind (Ra := fun w' xs (J : It) => ItOk G w' J xs) p).mono (fun J H1 m => ?_) fun _ _ _ h => h⟩
  obtain ⟨w1, xs, rfl, x1, s1, io, p1⟩ := m
  intro L hL
  have hfr : ∀ a ∈ [L], w1.H a = none := fun a h => by have : a = L := by simpa using h
                                                       rw [this]; exact hL
  by_cases hz : xs.length ≤ sizeLine
  · rw [if_pos hz] at p1
    have er1 := (er.mono x1).wipe vs
    have h0 : WX' [L] w1 ⟨w1.mu, w1.S, upd w1.H L (.lst []), L :: w1.tmp⟩ :=
      ⟨fun _ _ h => h, fun a o h nm ha => ⟨(upd_ne (by simpa using ha)).trans h, nm⟩, fun a h => by
        rcases List.mem_cons.mp h with e | h
        · exact .inr (by simp [e])
        · exact .inl h, fun a h => List.mem_cons_of_mem _ h⟩
    have nL : ¬ MutS w1 L := fun m => by obtain ⟨u, e⟩ := MutS.there s1 m; rw [hL] at e; cases e
    have sW : SRep G ⟨w1.mu, w1.S, upd w1.H L (.lst []), L :: w1.tmp⟩ := by
      refine ⟨s1.len, s1.inj, fun n ob a h1 h2 => ?_, fun a ha => ?_⟩
      · have h := s1.obj n ob a h1 h2
        refine h.keep h0 (fr_tok hfr) fun lv => ?_
        obtain ⟨u, e⟩ := h.there lv
        exact upd_ne (ne_of_none e hL)
      · rcases List.mem_cons.mp ha with e | ha
        · subst e; exact ⟨⟨_, upd_same⟩, nL⟩
        · obtain ⟨⟨u, e⟩, nm⟩ := s1.tm a ha
          exact ⟨⟨u, (upd_ne (ne_of_none e hL)).trans e⟩, nm⟩
    refine ⟨fun i m H => ∃ w3 acc us, w3.H = H ∧ SRep G w3 ∧ WX' [L] w1 w3 ∧ L ∈ w3.tmp ∧ w3.H L = some (.lst us) ∧ RepL G w3 acc us ∧ acc.length ≤ i ∧ i + m = xs.length ∧
        (lcL g tt te (wipeD env vs) xs w1.S) = (lcL g tt te (wipeD env vs) (xs.drop i) w3.S).bind fun ys S2 => .ok (acc ++ ys) S2,
      ⟨xs.length, _, [], [], rfl, sW, h0, by simp, upd_same, by simp [RepL], Nat.le_refl _, by omega, ?_⟩, fun i m H hW => ?_⟩
    · simp only [List.drop_zero, List.nil_append, R.bind_ok]
    obtain ⟨w3, acc, us, rfl, s3, x3, tm3, hL3, ra3, hlen, em, eq⟩ := hW
    rw [eq] at p1
    by_cases hi : i < xs.length
    · have e : xs[i]? = some xs[i] := List.getElem?_eq_getElem hi
      obtain ⟨go, yl⟩ := io.go [L] w3 (fr_tok hfr) x3 s3 i xs[i] e
      refine .inr ⟨go, fun H' => ∃ w5 acc us, w5.H = H' ∧ SRep G w5 ∧ WX' [L] w1 w5 ∧ L ∈ w5.tmp ∧ w5.H L = some (.lst us) ∧ RepL G w5 acc us ∧ acc.length ≤ i + 1 ∧ (i + 1) + (m - 1) = xs.length ∧
        (lcL g tt te (wipeD env vs) xs w1.S) = (lcL g tt te (wipeD env vs) (xs.drop (i + 1)) w5.S).bind fun ys S2 => .ok (acc ++ ys) S2, fun H' hN => ⟨m - 1, by omega, hN⟩, fun x H' hy => ?_⟩
      obtain ⟨w4, rfl, x4, eS4, s4, rp4⟩ := yl x H' hy
      have x14 : WX' [L] w1 w4 := WX'.trans x3 (WX'.wide x4)
      refine ⟨w4, wipeD env vs, xs[i], rfl, s4, er1.monoT x14 (fr_tok hfr), rp4, ?_⟩
      rw [List.drop_eq_getElem_cons hi, lcL] at eq p1
      rw [eS4]
      cases hg : g xs[i] (wipeD env vs) w3.S with
      | nx env5 S5 =>
        rw [hg] at eq p1
        simp only at eq p1
        intro σ5 w5 x5 e5 s5 er5 hw
        subst e5
        refine ⟨hw.trans (wipe_sub fun _ h => h), w5, env5, rfl, s5, er5, ?_⟩
        cases ht : tt env5 w5.S with
        | ok k S6 =>
          rw [ht] at eq p1
          simp only [R.nox, R.bind] at eq p1
          intro b w6 x6 e6 s6 hb
          subst hb e6
          have x46 : WExt w4 w6 := WX'.trans x5 x6
          have x16 : WX' [L] w1 w6 := WX'.trans x14 (WX'.wide x46)
          have hL6 : w6.H L = some (.lst us) := (x46.keep L _ ((x4.keep L _ hL3 ((s3.tm L tm3).2) (by simp)).1) ((s4.tm L (x4.tmp' L tm3)).2) (by simp)).1
          have tm6 : L ∈ w6.tmp := x46.tmp' L (x4.tmp' L tm3)
          have ra6 : RepL G w6 acc us := RepL.mono (WX'.trans x4 x46) _ _ ra3
          cases k with
          | false =>
            refine iteF ⟨w6, acc, us, rfl, s6, x16, tm6, hL6, ra6, by omega, by omega, ?_⟩
            simpa using eq
          | true =>
            refine iteT ⟨w6, env5, rfl, s6, er5.mono x6, ?_⟩
            simp only at eq p1
            cases hte : te env5 w6.S with
            | ok y S7 =>
              rw [hte] at eq p1
              simp only [R.nox, R.bind] at eq p1
              intro v w7 x7 e7 s7 r7
              subst e7
              have hL7 : w7.H L = some (.lst us) := (x7.keep L _ hL6 ((s6.tm L tm6).2) (by simp)).1
              have tm7 : L ∈ w7.tmp := x7.tmp' L tm6
              have nm7 : ¬ MutS w7 L := (s7.tm L tm7).2
              have lu : us.length = acc.length := ra3.length
              refine ⟨us, hL7, by omega, ?_⟩
              have x8 : WX' [L] w7 (w7.put L (.lst (us ++ [v]))) := ⟨fun _ _ h => h, fun a o h nm ha => ⟨(upd_ne (by simpa using ha)).trans h, nm⟩, fun a h => .inl h, fun a h => h⟩
              have t8 : Tok [L] w7 := fun a h => .inl (by have : a = L := by simpa using h
                                                          rw [this]; exact tm7)
              have s8 : SRep G (w7.put L (.lst (us ++ [v]))) := by
                refine ⟨s7.len, s7.inj, fun n ob a h1 h2 => ?_, fun a ha => ?_⟩
                · have h := s7.obj n ob a h1 h2
                  exact h.keep x8 t8 fun lv => upd_ne fun e => nm7 (by subst e; exact ⟨n, ob, h1, lv, h2⟩)
                · obtain ⟨⟨u, e⟩, nm⟩ := s7.tm a ha
                  by_cases ea : a = L
                  · subst ea; exact ⟨⟨_, upd_same⟩, nm⟩
                  · exact ⟨⟨u, (upd_ne ea).trans e⟩, nm⟩
              refine ⟨_, acc ++ [y], us ++ [v], rfl, s8, WX'.trans (WX'.trans x16 (WX'.wide x7)) x8, tm7, upd_same, ?_, by simp; omega, by omega, ?_⟩
              · exact (RepL.monoT x8 t8 _ _ (RepL.mono x7 _ _ ra6)).append (RepL.one (Rep.monoT x8 t8 _ _ r7))
              · rw [eq]
                show _ = (lcL g tt te (wipeD env vs) (List.drop (i + 1) xs) w7.S).bind _
                cases lcL g tt te (wipeD env vs) (List.drop (i + 1) xs) w7.S <;> simp [R.bind]
            | exc ee S7 => rw [hte] at p1; exact p1.elim
            | bad => rw [hte] at p1; exact p1.elim
        | exc ee S6 => rw [ht] at p1; exact p1.elim
        | bad => rw [ht] at p1; exact p1.elim
      | ret _ _ => rw [hg] at p1; exact p1.elim
      | brk _ _ => rw [hg] at p1; exact p1.elim
      | ct _ _ => rw [hg] at p1; exact p1.elim
      | exc _ _ _ => rw [hg] at p1; exact p1.elim
      | bad => rw [hg] at p1; exact p1.elim
    · have ei : i = xs.length := by omega
      subst ei
      refine .inl ⟨io.stop [L] w3 (fr_tok hfr) x3 s3, ?_⟩
      rw [List.drop_length] at p1
      have we : WExt w1 { w3 with tmp := w1.tmp } := ⟨x3.mu, fun a o h nm _ => x3.keep a o h nm (by
        intro ha
        have : a = L := by simpa using ha
        rw [this, hL] at h; cases h), fun a h => .inl h, fun a h => h⟩
      have tinc : ∀ a, a ∈ w1.tmp → a ∈ w3.tmp := x3.tmp'
      have se : SRep G { w3 with tmp := w1.tmp } := s3.untmp tinc
      have nmL : ¬ Mut { w3 with tmp := w1.tmp } L := fun m => m.elim (s3.tm L tm3).2 fun z => by
        obtain ⟨⟨u, e⟩, _⟩ := s1.tm L z
        rw [hL] at e; cases e
      have hr : Rep G { w3 with tmp := w1.tmp } (.lst (acc ++ [])) (.ref L) := by
        simp only [Rep, List.append_nil]
        exact ⟨L, us, rfl, hL3, nmL, RepL.untmp tinc _ _ ra3⟩
      exact p1 (.ref L) { w3 with tmp := w1.tmp } we rfl se hr
  · rw [if_neg hz] at p1; exact p1.elim
/-- [elt for target in iter if ..] -/
theorem q_lc {elt tg iter : Expr} {ifs : List Expr} {scope : Scope} {own : List (Str × Nat)} {mi : ID} {g : GD} {mt : TD} {me : ED} (hc : X.calm = true) (hN : X.N.Nodup) (hi : PI X tg iter (tI G mi Wx)) (ok : BlkOk X.N X.env.scope scope own)
    (hg : ∀ (s : Shared) (H : Hp) (C : Addr) (cl : List (Str × Addr)) (fp : List Addr), PG (X.blk s H scope (compEnvC scope cl C X.env) fp) tg (tGW G g (own.map (·.2))))
    (ht : ∀ (s : Shared) (H : Hp) (C : Addr) (cl : List (Str × Addr)) (fp : List Addr), PTs (X.blk s H scope (compEnvC scope cl C X.env) fp) ifs (tT G mt WF))
    (he : ∀ (s : Shared) (H : Hp) (C : Addr) (cl : List (Str × Addr)) (fp : List Addr), PE (X.blk s H scope (compEnvC scope cl C X.env) fp) elt (tE G me WF)) (hs : ∀ x, foldedSetIterable iter X.env x = pure x := by intro _; rfl) :
    PE X (.ListComp elt [⟨tg, iter, ifs, 0⟩] scope pos) (tE G (eLc mi (own.map (·.2)) g mt me) Wx) := peI (pe_lc hc hN hi ok hg ht he hs) imp_lc
theorem q_setLc {i : Nat} {y : Str} {py : Pos} {elt tg iter : Expr} {ifs : List Expr} {scope : Scope} {own : List (Str × Nat)} {spos : Pos} {mi : ID} {g : GD} {mt : TD} {me : ED} (hc : X.calm = true) (hN : X.N.Nodup) (hy : X.N[i]? = some y) (hyl : X.env.scope.names.lookup y = some .local)
    (hsw : swapsWith (.ListComp elt [⟨tg, iter, ifs, 0⟩] scope pos) (some (.Name y py)) spos.line X.env = pure true) (hi : PI X tg iter (tI G mi Wx)) (ok : BlkOk X.N X.env.scope scope own)
    (hg : ∀ (s : Shared) (H : Hp) (C : Addr) (cl : List (Str × Addr)) (fp : List Addr), PG (X.blk s H scope (compEnvC scope cl C X.env) fp) tg (tGW G g (own.map (·.2))))
    (ht : ∀ (s : Shared) (H : Hp) (C : Addr) (cl : List (Str × Addr)) (fp : List Addr), PTs (X.blk s H scope (compEnvC scope cl C X.env) fp) ifs (tT G mt WF))
    (he : ∀ (s : Shared) (H : Hp) (C : Addr) (cl : List (Str × Addr)) (fp : List Addr), PE (X.blk s H scope (compEnvC scope cl C X.env) fp) elt (tE G me WF)) (hs : ∀ x, foldedSetIterable iter X.env x = pure x := by intro _; rfl) :
    PS X (.Assign [.Name y py] (.ListComp elt [⟨tg, iter, ifs, 0⟩] scope pos) spos) (tS G (sAsg (eLc mi (own.map (·.2)) g mt me) (gName i)) Wx) := psI (ps_setLc hc hN hy hyl hsw hi ok hg ht he hs) fun D σ H q => by
  obtain ⟨w, env, rfl, sr, er, p⟩ := q
  refine imp_lc (Wx := Wx) σ w.H _ ⟨w, env, rfl, sr, er, (PostS.ofR (Ra := Rep G) er p).mono (fun x H1 m => ?_) fun _ _ _ h => h⟩
  obtain ⟨w1, d1, rfl, x1, s1, rp1, p1⟩ := m
  exact p1 _ w1 (.refl w1) rfl s1 ((er.mono x1).set i rp1)
theorem q_tnil : PTs X [] (tT G tYesD WF) := ⟨fun pins s σ H Q I q => by
  obtain ⟨w, env, rfl, sr, er, p⟩ := q
  exact pts_nil.run pins s σ w.H Q I (Post.ret (Ra := fun _ (a b : Bool) => a = b) sr rfl p)⟩
theorem q_tone {c : Expr} {m : TD} (h : PT X c (tT G m WF)) : PTs X [c] (tT G m WF) := pts_one h
end
end L3
set_option Elab.async false
set_option linter.all false
set_option maxRecDepth 100000
/-! L3G: calls of own defs; a def by its body. -/
namespace L3
open PySem PySem.Spec PyProof.Rows L2

/-! ### calls where nothing is being shown (repr asks that) -/
structure RoomG (k : Nat) (A : Around) : Prop where
  rm : Room k A
  gd : A.guards = some []
theorem RoomG.deeper {k : Nat} {A : Around} (r : RoomG (k + 1) A) (env : Env) : RoomG k (A.deeper env) := ⟨r.rm.deeper env, r.gd⟩
theorem RoomG.units {k : Nat} {A : Around} (r : RoomG k A) : A.units + 64 < cLine := r.rm.units
theorem RoomG.mono {j k : Nat} {A : Around} (r : RoomG k A) (h : j ≤ k) : RoomG j A := ⟨r.rm.mono h, r.gd⟩
structure FnG (P : Program) (w : World) (K : PySem.W.Frag) (mg : Str → Option Value) (base : Heap) (k : Nat) (f : Addr) (fd : FuncData) (ps : List Str) (sp : Sp) : Prop where
  len : ∀ vs H Q E, sp vs H Q E → vs.length = ps.length
  go : ∀ (A : Around) (outer : List Env) (s : Shared) (H : Hp) (args : Args) (us : List Value) (vs : List V) (Q : VK) (E : XK),
    RoomG k A → Env0 P w K mg base A outer s H → BindsTo s fd args (ps.zip us) → Vals vs us → sp vs H Q E → codeAny (model P w) A (.call (.ref f) args) (CR (L2.CX P w) outer P w H s Q E) s
theorem FnG.imp {P : Program} {w : World} {K : PySem.W.Frag} {mg : Str → Option Value} {base : Heap} {k : Nat} {f : Addr} {fd : FuncData} {ps : List Str} {sp sp' : Sp} (F : FnG P w K mg base k f fd ps sp) (i : ∀ vs H Q E, sp' vs H Q E → sp vs H Q E) :
    FnG P w K mg base k f fd ps sp' :=
  ⟨fun _ _ _ _ h => F.len _ _ _ _ (i _ _ _ _ h), fun A outer s H args us vs Q E r e b v h => F.go A outer s H args us vs Q E r e b v (i _ _ _ _ h)⟩
/-- what a def's own body does, in every entry -/
theorem FnG.of_def {P : Program} {w : World} {K : PySem.W.Frag} {mg : Str → Option Value} {base : Heap} {x qual : Str} {params : Arguments} {body : List Stmt} {scope : Scope} {dvs : List V} {kws : List (Str × V)} {f : Addr} {fd : FuncData} {N ps : List Str} {k : Nat} {sp : Sp}
    (F : FunD K x qual params body scope dvs kws f fd) (Sc : FnScope N ps scope) (len : ∀ vs H Q E, sp vs H Q E → vs.length = ps.length)
    (inner : ∀ (cdv : Value) (A : Around) (outer : List Env) (s : Shared) (H : Hp) (vs : List V) (Q : VK) (E : XK), RoomG k (A.deeper (envOfC qual scope s.heap.objs.size f cdv)) → sp vs H Q E →
      ∃ t : TS, PSs (cxOf (L2.CX P w) P w K mg base N qual scope f cdv A outer s H E) body t ∧ t { nx := fun _ H' => Q .non H', rt := Q } (start N vs) H) : FnG P w K mg base (k + 1) f fd ps sp := by
  obtain ⟨_, _, _, _, _, _, _, cdv, _, _, rfl, place, code, _, _⟩ := F.ex
  refine ⟨len, fun A outer s H args us vs Q E room e0 bound rel want => ?_⟩
  have size := len _ _ _ _ want
  have inK : K.In s.heap := e0.mod.kin.keeps fun b o h => (e0.bs b o h).1
  refine codeAny_call_function room.rm.depth (inK _ _ place) rfl Sc.co Sc.gen rfl (PySem.W.codeRec_of inK code) (bound _ _ _ _ ?_)
  refine wpAny_newFunctionEnv_cells Sc.kind (fun y hy => ?_) fun env made s2 entered => ?_
  · obtain ⟨n, v⟩ := y
    refine (Sc.par n (List.of_mem_zip hy).1).imp id fun c => ⟨c, PySem.W.cellsFrom_some _ _ _ (.inl c)⟩
  subst made
  have nl : s.heap.NoLimit := e0.mod.nolimit.keeps fun b o h => (e0.bs b o h).1
  refine ⟨nl.keeps entered.toInCall.keep, codeAny_func ?_⟩
  obtain ⟨t, runs, holds⟩ := inner cdv A outer s H vs Q E (room.deeper _) want
  have I0 : Inv (cxOf (L2.CX P w) P w K mg base N qual scope f cdv A outer s H E) [] (start N vs) H s2 := inv_start Sc room.rm.hd e0 size rel entered
  refine wpAny_mono (runs.run [] s2 (start N vs) H _ I0 holds) (fun fl s' done => ?_) fun _ _ z => z
  have told : ∀ {σ' : L2.St} {H' : Hp} {v : V} {u : Value}, Inv (cxOf (L2.CX P w) P w K mg base N qual scope f cdv A outer s H E) [] σ' H' s' → RelV v u → Q v H' → CE outer P w H s Q u s' := fun {_ H' v _} J q q' => ⟨v, H', J.os, J.bare, J.base, J.hok, q, q'⟩
  match fl, done with
  | .ret u, ⟨v, σ', H', J, q, q'⟩ => exact told J q q'
  | .next, ⟨σ', H', J, q'⟩ => exact told (v := V.non) (u := Value.none) J rfl q'
  | .brk, ⟨_, _, _, z⟩ => exact False.elim z
  | .cont, ⟨_, _, _, z⟩ => exact False.elim z
section
variable {X : Cx} {k : Nat} {f : Addr} {fd : FuncData} {ps : List Str} {sp : Sp} {dvs : List V} {ds : List Value} {E : L2.St → XK}
/-- a call of it, its arguments known -/
theorem FnG.called {pins : List (Addr × Obj)} {σ : L2.St} {H : Hp} {s : Shared} {Q : VK} {args : Args} {zs : List Value} {ys : List V} (F : FnG X.prog X.w X.K X.mg X.base k f fd ps sp) (room : RoomG k X.A) (hx : PassesAt (L2.CX X.prog X.w) X σ (E σ)) (I : Inv X pins σ H s)
    (bound : BindsTo s fd args (ps.zip zs)) (rel : Vals ys zs) (want : sp ys H Q (E σ)) : codeAny (model X.prog X.w) X.A (.call (.ref f) args) (fun r s' => match r with
      | .ok (.ret u) => EP X pins σ Q u s'
      | .error e => X.xe e s'
      | _ => False) s := by
  refine codeAny_mono (F.go X.A X.stack s H args zs ys Q (E σ) room I.env0 bound rel want) fun r s' q => ?_
  match r, q with
  | .error e, q => exact hx pins H s e s' I q
  | .ok (.ret u), q => exact I.after q
theorem FnG.byPlace {pins : List (Addr × Obj)} {σ : L2.St} {H : Hp} {s : Shared} {Q : VK} {us : List Value} {vs : List V} (F : FnG X.prog X.w X.K X.mg X.base k f fd ps sp) (room : RoomG k X.A) (bs : Binds X.K fd ps ds) (dv : Vals dvs ds) (hx : PassesAt (L2.CX X.prog X.w) X σ (E σ))
    (I : Inv X pins σ H s) (rel : Vals vs us) (want : sp (vs ++ dvs) H Q (E σ)) : wpAny (model X.prog X.w) X.A (call (.ref f) us) (EP X pins σ Q) X.xe s := by
  have all := rel.append dv
  refine wpAny_call (codeAny_mono (F.called room hx I (bs s us I.kIn (by rw [← all.length]; exact F.len _ _ _ _ want)) all want) fun r s' q => ?_)
  match r, q with
  | .error _, q => exact q
  | .ok (.ret _), q => exact q
end
/-- a def's promise -/
def spOf (G : GC) (F : FN) : Sp := fun vs H Q E => ∃ w ds, w.H = H ∧ SRep G w ∧ RepL G w ds vs ∧ Post G w (F ds w.S) (Rep G) Q E
abbrev WE0 (E : XK) : WX := fun C d _ H => E C d H
/-- the arguments, then defaults -/
def callK (F : FN) (dds : List D) : FN := fun xs S => F (xs ++ dds) S

section
variable {G : GC} {X : Cx} {Wx : WX} {pos p : Pos} {k : Nat} {f : Addr} {fd : FuncData} {ps : List Str} {F : FN} {x : Str} {e : Expr} {es : List Expr} {dvs : List V} {ds : List Value} {dds : List D} {m : AD}
theorem imp_call (hdd : ∀ w, RepL G w dds dvs) : ∀ σ H Q, tE G (eN (callK F dds) m) Wx σ H Q → tCallSD (spOf G F) dvs (WE Wx) (tA G m Wx) σ H Q := by
  intro σ H Q q
  obtain ⟨w, env, rfl, sr, er, p⟩ := q
  refine ⟨w, env, rfl, sr, er, (Post.bind p).mono (fun x H1 m => ?_) fun _ _ _ h => h⟩
  obtain ⟨w1, d1, rfl, x1, s1, rp1, p1⟩ := m
  exact ⟨w1, d1 ++ dds, rfl, s1, rp1.append (hdd w1), p1⟩
theorem q_call (hF : FnG X.prog X.w X.K X.mg X.base k f fd ps (spOf G F)) (hr : RoomG k X.A) (hg : Gl X x) (hm : X.mg x = some (.ref f)) (hk : PySem.W.keepIn X.K (.ref f) = true) (hb : Binds X.K fd ps ds) (hd : Vals dvs ds) (hdd : ∀ w, RepL G w dds dvs) (tk : Takes X Wx)
    (ha : PA X (e :: es) (tA G m Wx)) (hdb : (x == ("__debug__" : Str)) = false := by decide) (he : starEach (e :: es) X.env = (false, eval e X.env) :: starEach es X.env := by rfl) (hpl : (backTo pos (starEach es X.env)).any (·.1) = false := by rfl) :
    PE X (.Call (.Name x p) (e :: es) [] pos) (tE G (eN (callK F dds) m) Wx) :=
  peI (t := tCallSD (spOf G F) dvs (WE Wx) (tA G m Wx)) ⟨fun pins s σ H Q I h => wpAny_Call_Name_kw (ld_glob I hg hm (PySem.W.callWith_K (h₀ := X.base) I.ok.mod.kin hk
    (thn (ha.run pos pins s σ H _ I h) fun us s1 ⟨vs, H1, I1, r, q⟩ => ⟨I1.kIn, FnG.byPlace (E := WE Wx) hF hr hb hd (passAt tk σ) I1 r q⟩) he hpl) hdb)⟩ (imp_call hdd)
theorem RepL.nil {w : Wd} : RepL G w [] [] := by simp [RepL]
/-- f() -/
theorem q_call0 (hF : FnG X.prog X.w X.K X.mg X.base k f fd ps (spOf G F)) (hr : RoomG k X.A) (hg : Gl X x) (hm : X.mg x = some (.ref f)) (hk : PySem.W.keepIn X.K (.ref f) = true) (hb : Binds X.K fd ps ds) (hd : Vals dvs ds) (hdd : ∀ w, RepL G w dds dvs) (tk : Takes X Wx)
    (hdb : (x == ("__debug__" : Str)) = false := by decide) : PE X (.Call (.Name x p) [] [] pos) (tE G (eN (callK F dds) aNil) Wx) := by
  refine ⟨fun pins s σ H Q I h => ?_⟩
  obtain ⟨w, env, rfl, sr, er, pp⟩ := h
  refine wpAny_Call_Name_kw (ld_glob I hg hm ?_ hdb)
  exact PySem.W.callWith_K0 I.kIn hk (FnG.byPlace (E := WE Wx) (us := []) (vs := []) hF hr hb hd (passAt tk σ) I .nil ⟨w, dds, rfl, sr, by simpa using hdd w, pp⟩)
end

section
variable {P : Program} {w : World} {G : GC} {base : Heap} {x qual : Str} {params : Arguments} {body : List Stmt} {scope : Scope} {dvs : List V} {kws : List (Str × V)} {f : Addr} {fd : FuncData} {k n : Nat} {N ps : List Str} {m : SD}
theorem len_spOf {vs : List V} {H : Hp} {Q : VK} {E : XK} {F : FN} {n : Nat} (ar : ∀ ds S, ds.length ≠ n → F ds S = .bad) (h : spOf G F vs H Q E) : vs.length = n := by
  obtain ⟨w, ds, rfl, sr, rp, p⟩ := h
  rw [rp.length]
  by_cases e : ds.length = n
  · exact e
  · rw [ar ds w.S e] at p; exact p.elim
theorem run_ar : ∀ (ds : List D) (S : Store), ds.length ≠ n → run n k m ds S = .bad := fun ds S h => by unfold run; rw [if_neg h]
theorem ERep.start {wd : Wd} {ds : List D} {vs : List V} (h : RepL G wd ds vs) : ERep G wd (ds.map some ++ List.replicate (n - ds.length) none) (vs.map some ++ List.replicate (n - vs.length) none) := by
  have hl := h.length
  refine ⟨by simp [hl], fun i d e => ?_⟩
  by_cases hi : i < ds.length
  · rw [List.getElem?_append_left (by simpa using hi), List.getElem?_map] at e
    cases q : ds[i]? with
    | none => rw [q] at e; cases e
    | some d' =>
      rw [q] at e
      cases e
      obtain ⟨v, h1, h2⟩ := h.get q
      refine ⟨v, ?_, h2⟩
      rw [List.getElem?_append_left (by simp [hl]; exact hi), List.getElem?_map, h1]
      rfl
  · rw [List.getElem?_append_right (by simpa using hi)] at e
    have := (List.getElem?_eq_some_iff.mp e).2
    simp at this
/-- THE RULE for a def: its body's reading in every entry -/
theorem fn_ok (F : FunD G.K x qual params body scope dvs kws f fd) (S : FnScope N ps scope)
    (hb : ∀ (cdv : Value) (A : Around) (outer : List Env) (s : Shared) (H : Hp) (E : XK), RoomG k (A.deeper (envOfC qual scope s.heap.objs.size f cdv)) →
      PSs (cxOf (L2.CX P w) P w G.K G.mg base N qual scope f cdv A outer s H E) body (tS G m (WE0 E))) :
    FnG P w G.K G.mg base (k + 1) f fd ps (spOf G (run ps.length N.length m)) := by
  refine FnG.of_def F S (fun vs H Q E h => len_spOf run_ar h) fun cdv A outer s H vs Q E hr h => ⟨_, hb cdv A outer s H E hr, ?_⟩
  obtain ⟨wd, ds, rfl, sr, rp, p⟩ := h
  by_cases hl : ds.length = ps.length
  · unfold run at p
    rw [if_pos hl] at p
    refine ⟨wd, _, rfl, sr, ERep.start rp, ?_⟩
    cases hm : m (ds.map some ++ List.replicate (N.length - ds.length) none) wd.S with
    | nx env S => rw [hm] at p; exact fun σ' w' x hs s er => p .non w' x hs s (by simp [Rep])
    | ret d S => rw [hm] at p; exact p
    | brk _ _ => rw [hm] at p; exact p.elim
    | ct _ _ => rw [hm] at p; exact p.elim
    | exc e env S => rw [hm] at p; exact fun C dx σ' w' x hs s er xr => p C dx w' x hs s xr
    | bad => rw [hm] at p; exact p.elim
  · rw [run_ar ds wd.S hl] at p; exact p.elim
theorem fn_none {nn : Nat} : FnG P w G.K G.mg base nn f fd ps (spOf G fun _ _ => .bad) :=
  ⟨fun vs H Q E ⟨w, ds, _, _, _, p⟩ => p.elim, fun A outer s H args us vs Q E _ _ _ _ ⟨w, ds, _, _, _, p⟩ => p.elim⟩
/-- in a def's own body -/
theorem tk_body {K : PySem.W.Frag} {mg : Str → Option Value} {qual : Str} {scope : Scope} {cdv : Value} {A : Around} {outer : List Env} {s : Shared} {H : Hp} {E : XK} : Takes (cxOf (L2.CX P w) P w K mg base N qual scope f cdv A outer s H E) (WE0 E) := takes_of rfl rfl rfl rfl
theorem po_body {K : PySem.W.Frag} {mg : Str → Option Value} {qual : Str} {scope : Scope} {cdv : Value} {A : Around} {outer : List Env} {s : Shared} {H : Hp} {E : XK} : PassesOwn (model P w) (cxOf (L2.CX P w) P w K mg base N qual scope f cdv A outer s H E).A (cxOf (L2.CX P w) P w K mg base N qual scope f cdv A outer s H E).env (cxOf (L2.CX P w) P w K mg base N qual scope f cdv A outer s H E).xe := passes_of (X := cxOf (L2.CX P w) P w K mg base N qual scope f cdv A outer s H E) rfl
/-- in a comprehension's block nothing is let out -/
theorem tk_blk {X : Cx} {s : Shared} {H : Hp} {sc : Scope} {ce : Env} {fp : List Addr} : Takes (X.blk s H sc ce fp) WF := fun u s' h => by
  obtain ⟨_, _, _, _, _, _, _, _, _, _, _, _, _, _, _, _, z⟩ := h
  exact z.elim
end
end L3
set_option Elab.async false
set_option linter.all false
set_option maxRecDepth 100000
/-! L3H: operations by values. -/
namespace L3
open PySem PySem.Spec PyProof.Rows L2

theorem opI2 {X : Cx} {f : Value → Value → Sem Value} {r r' : R2} (h : OpR X f r) (i : ∀ x y H Q, r' x y H Q → r x y H Q) : OpR X f r' := fun pins s σ H x y v u Q I rx ry q => h pins s σ H x y v u Q I rx ry (i _ _ _ _ q)
theorem unI2 {X : Cx} {f : Value → Sem Value} {r r' : V → Hp → VK → Prop} (h : UnR X f r) (i : ∀ x H Q, r' x H Q → r x H Q) : UnR X f r' := fun pins s σ H x v Q I rx q => h pins s σ H x v Q I rx (i _ _ _ q)
theorem ixI2 {X : Cx} {r r' : R2} (h : IxR X r) (i : ∀ x y H Q, r' x y H Q → r x y H Q) : IxR X r' := fun a b pins s σ H x y v u Q I rx ry q => h a b pins s σ H x y v u Q I rx ry (i _ _ _ _ q)
theorem caI2 {X : Cx} {f : Value} {r r' : List V → Hp → VK → Prop} (h : CallR X f r) (i : ∀ xs H Q, r' xs H Q → r xs H Q) : CallR X f r' := fun pins s σ H xs us Q I rs q => h pins s σ H xs us Q I rs (i _ _ _ q)
theorem mtI2 {X : Cx} {id : String} {r r' : V → List V → Hp → VK → Prop} (h : MtR X id r) (i : ∀ x xs H Q, r' x xs H Q → r x xs H Q) : MtR X id r' := fun pins s σ H x xs v us Q I rx rs q => h pins s σ H x xs v us Q I rx rs (i _ _ _ _ q)

section
variable {G : GC} {w : Wd}
/-- a list, however it is kept -/
def asL (x : D) (S : Store) : Option (List D) := match x with
  | .lst l => some l
  | .obj n => match S[n]? with
    | some (.lst l) => some l
    | _ => none
  | _ => none
theorem asL_rep {x : D} {v : V} {l : List D} (sr : SRep G w) (h : Rep G w x v) (e : asL x w.S = some l) : ∃ a vs, v = .ref a ∧ w.H a = some (.lst vs) ∧ RepL G w l vs := by
  cases x with
  | lst l' =>
    cases e
    simp only [Rep] at h
    obtain ⟨a, vs, rfl, h1, _, h2⟩ := h
    exact ⟨a, vs, rfl, h1, h2⟩
  | obj n =>
    simp only [Rep] at h
    obtain ⟨a, h1, rfl⟩ := h
    unfold asL at e
    dsimp only at e
    cases hn : w.S[n]? with
    | none => rw [hn] at e; cases e
    | some o =>
      rw [hn] at e
      cases o with
      | lst l' =>
        cases e
        obtain ⟨vs, q1, q2⟩ := sr.obj n _ a hn h1
        exact ⟨a, vs, rfl, q1, q2⟩
      | _ => cases e
  | _ => cases e
/-- a new list, a new tuple -/
theorem new_lst {l : List D} {vs : List V} {S : Store} {Q : VK} {E : Value → Option Addr → Hp → Prop} (sr : SRep G w) (rl : RepL G w l vs) (p : Post G w (.ok (.lst l) w.S) (Rep G) Q E) (a : Addr) (ha : w.H a = none) : Q (.ref a) (upd w.H a (.lst vs)) := by
  obtain ⟨x, s, nm⟩ := new_ext (o := .lst vs) sr ha
  exact p (.ref a) _ x rfl s (by simp only [Rep]; exact ⟨a, vs, rfl, upd_same, nm, RepL.mono x _ _ rl⟩)
theorem new_tup {l : List D} {vs : List V} {Q : VK} {E : Value → Option Addr → Hp → Prop} (sr : SRep G w) (rl : RepL G w l vs) (p : Post G w (.ok (.tup l) w.S) (Rep G) Q E) (a : Addr) (ha : w.H a = none) : Q (.ref a) (upd w.H a (.tup vs)) := by
  obtain ⟨x, s, nm⟩ := new_ext (o := .tup vs) sr ha
  exact p (.ref a) _ x rfl s (by simp only [Rep]; exact ⟨a, vs, rfl, .inl ⟨upd_same, nm⟩, RepL.mono x _ _ rl⟩)
theorem new_lobj {l : List D} {vs : List V} {Q : VK} {E : Value → Option Addr → Hp → Prop} (sr : SRep G w) (rl : RepL G w l vs) (p : Post G w (.ok (.obj w.S.length) (w.S ++ [.lst l])) (Rep G) Q E) (a : Addr) (ha : w.H a = none) : Q (.ref a) (upd w.H a (.lst vs)) := by
  obtain ⟨x, s⟩ := new_obj (ob := .lst l) (o := .lst vs) sr ha fun w' x e => ⟨vs, e, RepL.mono x _ _ rl⟩
  exact p (.ref a) _ x rfl s (by simp only [Rep]; exact ⟨a, by rw [← sr.len]; simp, rfl⟩)
theorem SqT_of {a : Addr} {vs : List V} {l : List D} (h : TupAt G w a vs l) : SqT G.K w.H a vs := h.imp (fun z => .inl z.1) fun z => z.1
end

/-! ### a text times an int -/
def repS (z : Str) (k : Int) : Str := ⟨(List.replicate k.toNat z.cps.toList).flatten.toArray⟩
theorem fold_app : ∀ (l : List (Array Nat)) (a : Array Nat), (l.foldl (· ++ ·) a).toList = a.toList ++ (l.map Array.toList).flatten
  | [], a => by simp
  | x :: l, a => by simp [fold_app l]
theorem repS_fold (z : Str) (k : Int) : (⟨(List.replicate k.toNat z.cps).foldl (· ++ ·) #[]⟩ : Str) = repS z k := by
  unfold repS
  congr 1
  apply Array.ext'
  rw [fold_app]; simp
theorem repS_one (z : Str) : repS z 1 = z := by
  unfold repS; simp
theorem repS_nil {z : Str} (k : Int) (h : z.length = 0) : repS z k = z := by
  have e : z.cps = #[] := Array.eq_empty_of_size_eq_zero h
  obtain ⟨c⟩ := z
  simp only at e; subst e
  unfold repS; simp
theorem repS_lt {z : Str} {k : Int} (h : k < 1) : repS z k = Str.empty := by
  unfold repS
  rw [show k.toNat = 0 by omega]; rfl
theorem repS_len (z : Str) (k : Int) : (repS z k).length = k.toNat * z.length := by
  show (repS z k).cps.size = k.toNat * z.cps.size
  unfold repS; simp
theorem op_repS {X : Cx} : OpR X (binaryOp .Mult) (fun x y H Q => ∃ z k, x = .str z ∧ y = .int k ∧ -(2 ^ 63) ≤ k ∧ k < 2 ^ 63 ∧ z.length * k.toNat ≤ sizeLine ∧ Q (.str (repS z k)) H) := by
  intro pins s σ H x y v u Q I rx ry h
  obtain ⟨z, k, rfl, rfl, h1, h2, h3, q⟩ := h
  obtain ⟨t, rfl⟩ := rx
  obtain ⟨t', rfl⟩ := ry
  refine P.mul_str (by simp; omega) (fun h _ => ?_) (fun _ _ => ?_) ?_
  · intro c
    have : (z.length : Int) * k ≤ 2 ^ 24 := by
      have h4 : ((z.length * k.toNat : Nat) : Int) ≤ ((2 ^ 24 : Nat) : Int) := Int.ofNat_le.mpr h3
      rw [Int.natCast_mul, Int.toNat_of_nonneg (by omega)] at h4
      exact h4
    have c2 := (Int.ediv_lt_iff_lt_mul (by omega : 0 < k)).mp c
    omega
  · exact decide_eq_false (Nat.not_lt.mpr h3)
  · split
    · rename_i hk
      rw [repS_lt hk] at q
      exact ⟨by decide, .str Str.empty, H, I.tok _, ⟨_, rfl⟩, q⟩
    · split
      · rename_i hk
        have e : repS z k = z := by
          rw [Bool.or_eq_true] at hk
          rcases hk with hk | hk
          · have := beq_iff_eq.mp hk; subst this; exact repS_one z
          · exact repS_nil k (beq_iff_eq.mp hk)
        rw [e] at q
        exact ⟨.str z, H, I, ⟨_, rfl⟩, q⟩
      · rw [repS_fold]
        refine ⟨?_, .str (repS z k), H, I.tok _, ⟨_, rfl⟩, q⟩
        rw [repS_len]; rw [Nat.mul_comm]; exact h3
/-! ### arithmetic -/
def mulOk (i j : Int) : Bool := decide (((-(2 ^ 64) < i ∧ i < 2 ^ 64) ∨ (-(2 ^ 64) < j ∧ j < 2 ^ 64)) ∨ i.natAbs.log2 + j.natAbs.log2 < 1000000)
def addD : F2 := fun x y S => match x, y with
  | .int i, .int j => .ok (.int (i + j)) S
  | .str a, .str b => if a.length + b.length ≤ sizeLine then .ok (.str (a ++ b)) S else .bad
  | .tup a, .tup b => if a.length + b.length ≤ sizeLine then .ok (.tup (a ++ b)) S else .bad
  | x, y => match asL x S, asL y S with
    | some a, some b => if a.length + b.length ≤ sizeLine then .ok (.lst (a ++ b)) S else .bad
    | _, _ => .bad
def subD : F2 := fun x y S => match x, y with
  | .int i, .int j => .ok (.int (i - j)) S
  | _, _ => .bad
def mulD : F2 := fun x y S => match x, y with
  | .int i, .int j => if mulOk i j then .ok (.int (i * j)) S else .bad
  | .str z, .int k => if -(2 ^ 63) ≤ k ∧ k < 2 ^ 63 ∧ z.length * k.toNat ≤ sizeLine then .ok (.str (repS z k)) S else .bad
  | x, .int k => match asL x S with
    | some a => if -(2 ^ 63) ≤ k ∧ k < 2 ^ 63 ∧ a.length * k.toNat ≤ sizeLine then .ok (.lst (List.replicate k.toNat a).flatten) S else .bad
    | _ => .bad
  | _, _ => .bad
def fdivD : F2 := fun x y S => match x, y with
  | .int i, .int j => if 0 < j ∧ j.natAbs.log2 < 9000 then .ok (.int (i / j)) S else .bad
  | _, _ => .bad
def modD : F2 := fun x y S => match x, y with
  | .int i, .int j => if 0 < j then .ok (.int (i % j)) S else .bad
  | _, _ => .bad
def powD : F2 := fun x y S => match x, y with
  | .int i, .int j => if 0 ≤ j ∧ (Builtin.Int.intBits i : Int) * j ≤ 2 ^ 27 then .ok (.int (i ^ j.toNat)) S else .bad
  | _, _ => .bad
def negD : F1 := fun x S => match x with
  | .int i => .ok (.int (-i)) S
  | _ => .bad
section
variable {G : GC} {X : Cx}
theorem c_add : Calm2 addD := fun x y S => by unfold addD; repeat' split
                                              all_goals trivial
theorem c_sub : Calm2 subD := fun x y S => by unfold subD; repeat' split
                                              all_goals trivial
theorem c_mul : Calm2 mulD := fun x y S => by unfold mulD; repeat' split
                                              all_goals trivial
theorem c_fdiv : Calm2 fdivD := fun x y S => by unfold fdivD; repeat' split
                                                all_goals trivial
theorem c_mod : Calm2 modD := fun x y S => by unfold modD; repeat' split
                                              all_goals trivial
theorem c_pow : Calm2 powD := fun x y S => by unfold powD; repeat' split
                                              all_goals trivial
theorem c_neg : Calm1 negD := fun x S => by unfold negD; repeat' split
                                            all_goals trivial
theorem o_add (hK : X.K = G.K) : OpR X (binaryOp .Add) (r2 G addD) := by
  refine opI2 (op_add.or (op_add_str.or (op_catA.or op_cat))) fun x y H Q q => ?_
  obtain ⟨w, d1, d2, rfl, sr, r1, r2, p⟩ := q
  unfold addD at p
  split at p
  · simp only [Rep] at r1 r2
    exact .inl ⟨_, _, r1, r2, Post.ret (Ra := Rep G) sr (by simp [Rep]) p⟩
  · split at p
    · rename_i hz
      simp only [Rep] at r1 r2
      exact .inr (.inl ⟨_, _, r1, r2, hz, Post.ret (Ra := Rep G) sr (by simp [Rep]) p⟩)
    · exact p.elim
  · split at p
    · rename_i hz
      have r1' := r1
      have r2' := r2
      simp only [Rep] at r1 r2
      obtain ⟨a, vs, rfl, h1, l1⟩ := r1
      obtain ⟨b, us, rfl, h2, l2⟩ := r2
      have e1 := l1.length
      have e2 := l2.length
      refine .inr (.inr (.inl ⟨a, b, vs, us, rfl, rfl, by rw [hK]; exact SqT_of h1, by rw [hK]; exact SqT_of h2, by omega, fun e => ?_, fun _ e => ?_, fun _ _ p' hp' => ?_⟩))
      · have e' := List.eq_nil_of_length_eq_zero (by rw [← e1, e]; rfl)
        rw [e', List.nil_append] at p
        exact Post.ret (Ra := Rep G) sr r2' p
      · have e' := List.eq_nil_of_length_eq_zero (by rw [← e2, e]; rfl)
        rw [e', List.append_nil] at p
        exact Post.ret (Ra := Rep G) sr r1' p
      · exact new_tup sr (l1.append l2) p p' hp'
    · exact p.elim
  · split at p
    · rename_i l1 l2 h1 h2
      split at p
      · rename_i hz
        obtain ⟨a, vs, rfl, e1, q1⟩ := asL_rep sr r1 h1
        obtain ⟨b, us, rfl, e2, q2⟩ := asL_rep sr r2 h2
        refine .inr (.inr (.inr ⟨a, b, vs, us, rfl, rfl, e1, e2, by rw [q1.length, q2.length]; exact hz, fun p' hp' => new_lst (S := w.S) sr (q1.append q2) p p' hp'⟩))
      · exact p.elim
    · exact p.elim
theorem o_sub : OpR X (binaryOp .Sub) (r2 G subD) := by
  refine opI2 op_sub fun x y H Q q => ?_
  obtain ⟨w, d1, d2, rfl, sr, r1, r2, p⟩ := q
  unfold subD at p
  split at p
  · simp only [Rep] at r1 r2
    exact ⟨_, _, r1, r2, Post.ret (Ra := Rep G) sr (by simp [Rep]) p⟩
  · exact p.elim
theorem RepL.rep {w : Wd} {ds : List D} {vs : List V} (h : RepL G w ds vs) : ∀ k : Nat, RepL G w (List.replicate k ds).flatten (List.replicate k vs).flatten
  | 0 => by simp [RepL]
  | k + 1 => by
    simp only [List.replicate_succ, List.flatten_cons]
    exact h.append (RepL.rep h k)
theorem o_mul : OpR X (binaryOp .Mult) (r2 G mulD) := by
  refine opI2 ((op_mul.or op_mulW).or (op_rep.or op_repS)) fun x y H Q q => ?_
  obtain ⟨w, d1, d2, rfl, sr, r1, r2, p⟩ := q
  unfold mulD at p
  split at p
  · simp only [Rep] at r1 r2
    split at p
    · rename_i hz
      rcases of_decide_eq_true hz with hz | hz
      · exact .inl (.inl ⟨_, _, r1, r2, (by unfold CMul; exact hz), Post.ret (Ra := Rep G) sr (by simp [Rep]) p⟩)
      · exact .inl (.inr ⟨_, _, r1, r2, hz, Post.ret (Ra := Rep G) sr (by simp [Rep]) p⟩)
    · exact p.elim
  · simp only [Rep] at r1 r2
    split at p
    · rename_i hz
      exact .inr (.inr ⟨_, _, r1, r2, hz.1, hz.2.1, hz.2.2, Post.ret (Ra := Rep G) sr (by simp [Rep]) p⟩)
    · exact p.elim
  · split at p
    · rename_i l hl
      split at p
      · rename_i hz
        obtain ⟨a, vs, rfl, e1, q1⟩ := asL_rep sr r1 hl
        simp only [Rep] at r2
        refine .inr (.inl ⟨a, _, vs, rfl, r2, e1, hz.1, hz.2.1, by rw [q1.length]; exact hz.2.2, fun p' hp' => new_lst (S := w.S) sr (q1.rep _) p p' hp'⟩)
      · exact p.elim
    · exact p.elim
  · exact p.elim
theorem o_fdiv : OpR X (binaryOp .FloorDiv) (r2 G fdivD) := by
  refine opI2 op_fdivW fun x y H Q q => ?_
  obtain ⟨w, d1, d2, rfl, sr, r1, r2, p⟩ := q
  unfold fdivD at p
  split at p
  · simp only [Rep] at r1 r2
    split at p
    · rename_i hz
      exact ⟨_, _, r1, r2, hz, Post.ret (Ra := Rep G) sr (by simp [Rep]) p⟩
    · exact p.elim
  · exact p.elim
theorem o_mod : OpR X (binaryOp .Mod) (r2 G modD) := by
  refine opI2 op_mod fun x y H Q q => ?_
  obtain ⟨w, d1, d2, rfl, sr, r1, r2, p⟩ := q
  unfold modD at p
  split at p
  · simp only [Rep] at r1 r2
    split at p
    · rename_i hz
      exact ⟨_, _, r1, r2, hz, Post.ret (Ra := Rep G) sr (by simp [Rep]) p⟩
    · exact p.elim
  · exact p.elim
theorem o_pow : OpR X (binaryOp .Pow) (r2 G powD) := by
  refine opI2 (opI (C := fun i j => 0 ≤ j ∧ (Builtin.Int.intBits i : Int) * j ≤ 2 ^ 27) (g := fun i j => i ^ j.toNat) fun _ _ _ _ _ _ _ hc q => pow_int hc.1 hc.2 q) fun x y H Q q => ?_
  obtain ⟨w, d1, d2, rfl, sr, r1, r2, p⟩ := q
  unfold powD at p
  split at p
  · simp only [Rep] at r1 r2
    split at p
    · rename_i hz
      exact ⟨_, _, r1, r2, hz, Post.ret (Ra := Rep G) sr (by simp [Rep]) p⟩
    · exact p.elim
  · exact p.elim
theorem o_neg : UnR X (unaryOp .USub) (r1 G negD) := by
  refine unI2 un_neg fun x H Q q => ?_
  obtain ⟨w, d1, rfl, sr, r1, p⟩ := q
  unfold negD at p
  split at p
  · simp only [Rep] at r1
    exact ⟨_, r1, Post.ret (Ra := Rep G) sr (by simp [Rep]) p⟩
  · exact p.elim
end

/-! ### comparisons of numbers -/
def ltD : F2 := fun x y S => match x, y with
  | .int i, .int j => .ok (.bl (decide (i < j))) S
  | .str a, .str b => .ok (.bl (decide (a.cps.toList < b.cps.toList))) S
  | _, _ => .bad
def leD : F2 := fun x y S => match x, y with
  | .int i, .int j => .ok (.bl (decide (i ≤ j))) S
  | .str a, .str b => .ok (.bl (!decide (b.cps.toList < a.cps.toList))) S
  | _, _ => .bad
def gtD : F2 := fun x y S => match x, y with
  | .int i, .int j => .ok (.bl (decide (j < i))) S
  | .str a, .str b => .ok (.bl (decide (b.cps.toList < a.cps.toList))) S
  | _, _ => .bad
def geD : F2 := fun x y S => match x, y with
  | .int i, .int j => .ok (.bl (decide (j ≤ i))) S
  | .str a, .str b => .ok (.bl (!decide (a.cps.toList < b.cps.toList))) S
  | _, _ => .bad
section
variable {G : GC} {X : Cx}
theorem c_lt : Calm2 ltD := fun x y S => by unfold ltD; repeat' split
                                            all_goals trivial
theorem c_le : Calm2 leD := fun x y S => by unfold leD; repeat' split
                                            all_goals trivial
theorem c_gt : Calm2 gtD := fun x y S => by unfold gtD; repeat' split
                                            all_goals trivial
theorem c_ge : Calm2 geD := fun x y S => by unfold geD; repeat' split
                                            all_goals trivial
theorem o_lt : OpR X (compareOp .Lt) (r2 G ltD) := by
  refine opI2 (op_lt.or L2.op_lt_str) fun x y H Q q => ?_
  obtain ⟨w, d1, d2, rfl, sr, r1, r2, p⟩ := q
  unfold ltD at p
  split at p
  · simp only [Rep] at r1 r2
    exact .inl ⟨_, _, r1, r2, Post.ret (Ra := Rep G) sr (by simp [Rep]) p⟩
  · simp only [Rep] at r1 r2
    exact .inr ⟨_, _, r1, r2, Post.ret (Ra := Rep G) sr (by simp [Rep]) p⟩
  · exact p.elim
theorem o_le : OpR X (compareOp .LtE) (r2 G leD) := by
  refine opI2 (op_le.or L2.op_le_str) fun x y H Q q => ?_
  obtain ⟨w, d1, d2, rfl, sr, r1, r2, p⟩ := q
  unfold leD at p
  split at p
  · simp only [Rep] at r1 r2
    exact .inl ⟨_, _, r1, r2, Post.ret (Ra := Rep G) sr (by simp [Rep]) p⟩
  · simp only [Rep] at r1 r2
    exact .inr ⟨_, _, r1, r2, Post.ret (Ra := Rep G) sr (by simp [Rep]) p⟩
  · exact p.elim
theorem o_gt : OpR X (compareOp .Gt) (r2 G gtD) := by
  refine opI2 (op_gt.or L2.op_gt_str) fun x y H Q q => ?_
  obtain ⟨w, d1, d2, rfl, sr, r1, r2, p⟩ := q
  unfold gtD at p
  split at p
  · simp only [Rep] at r1 r2
    exact .inl ⟨_, _, r1, r2, Post.ret (Ra := Rep G) sr (by simp [Rep]) p⟩
  · simp only [Rep] at r1 r2
    exact .inr ⟨_, _, r1, r2, Post.ret (Ra := Rep G) sr (by simp [Rep]) p⟩
  · exact p.elim
theorem o_ge : OpR X (compareOp .GtE) (r2 G geD) := by
  refine opI2 (op_ge.or L2.op_ge_str) fun x y H Q q => ?_
  obtain ⟨w, d1, d2, rfl, sr, r1, r2, p⟩ := q
  unfold geD at p
  split at p
  · simp only [Rep] at r1 r2
    exact .inl ⟨_, _, r1, r2, Post.ret (Ra := Rep G) sr (by simp [Rep]) p⟩
  · simp only [Rep] at r1 r2
    exact .inr ⟨_, _, r1, r2, Post.ret (Ra := Rep G) sr (by simp [Rep]) p⟩
  · exact p.elim
end

/-! ### data: ==, in -/
mutual
def toPy : D → Option PyData
  | .non => some .none
  | .bl b => some (.bool b)
  | .int i => some (.int i)
  | .str s => if PyData.strOk s = true then some (.str s) else none
  | .tup l => (toPyL l).map .tuple
  | .lst l => (toPyL l).map .list
  | .dic _ _ => none
  | .obj _ => none
  | .glb _ => none
  | .ty _ => none
  | .scr ns => some (.list (ns.map .int))
  | .kd _ _ => none
  | .xcp _ _ _ => none
def toPyL : List D → Option (List PyData)
  | [] => some []
  | d :: ds => match toPy d, toPyL ds with
    | some x, some xs => some (x :: xs)
    | _, _ => none
end
/-- an object of the store as it stands -/
def deref (x : D) (S : Store) : D := match x with
  | .obj n => match S[n]? with
    | some (.lst l) => .lst l
    | _ => x
  | _ => x
def eqD : F2 := fun x y S => match x, y with
  | .str a, .str b => .ok (.bl (a == b)) S
  | .tup l, .tup [] => .ok (.bl l.isEmpty) S
  | x, y => match toPy (deref x S), toPy (deref y S) with
    | some a, some b => if min a.depth b.depth ≤ 64 then .ok (.bl (PyData.eqv a b)) S else .bad
    | _, _ => .bad
def neD : F2 := fun x y S => match x, y with
  | .str a, .str b => .ok (.bl (!(a == b))) S
  | .tup l, .tup [] => .ok (.bl (!l.isEmpty)) S
  | x, y => match toPy (deref x S), toPy (deref y S) with
    | some a, some b => if min a.depth b.depth ≤ 64 then .ok (.bl (!PyData.eqv a b)) S else .bad
    | _, _ => .bad
/-- by what both are -/
theorem eqD_py {x y : D} {S : Store} {a b : PyData} (h1 : toPy (deref x S) = some a) (h2 : toPy (deref y S) = some b) (h : min a.depth b.depth ≤ 64) : eqD x y S = .ok (.bl (PyData.eqv a b)) S := by
  unfold eqD
  split
  · simp only [deref, toPy] at h1 h2
    split at h1 <;> cases h1
    split at h2 <;> cases h2
    simp [PyData.eqv]
  · rename_i l
    simp only [deref, toPy, Option.map_eq_some_iff] at h1 h2
    obtain ⟨xs, e1, rfl⟩ := h1
    obtain ⟨ys, e2, rfl⟩ := h2
    cases e2
    cases l with
    | nil => cases e1; simp [PyData.eqv, PyData.eqvAll]
    | cons d ds =>
      simp only [toPyL] at e1
      split at e1 <;> cases e1
      simp [PyData.eqv, PyData.eqvAll]
  · rw [h1, h2]; simp only; rw [if_pos h]
theorem neD_py {x y : D} {S : Store} {a b : PyData} (h1 : toPy (deref x S) = some a) (h2 : toPy (deref y S) = some b) (h : min a.depth b.depth ≤ 64) : neD x y S = .ok (.bl (!PyData.eqv a b)) S := by
  unfold neD
  split
  · simp only [deref, toPy] at h1 h2
    split at h1 <;> cases h1
    split at h2 <;> cases h2
    simp [PyData.eqv]
  · rename_i l
    simp only [deref, toPy, Option.map_eq_some_iff] at h1 h2
    obtain ⟨xs, e1, rfl⟩ := h1
    obtain ⟨ys, e2, rfl⟩ := h2
    cases e2
    cases l with
    | nil => cases e1; simp [PyData.eqv, PyData.eqvAll]
    | cons d ds =>
      simp only [toPyL] at e1
      split at e1 <;> cases e1
      simp [PyData.eqv, PyData.eqvAll]
  · rw [h1, h2]; simp only; rw [if_pos h]
section
variable {G : GC} {X : Cx} {w : Wd}
theorem c_eq : Calm2 eqD := fun x y S => by unfold eqD; repeat' split
                                            all_goals trivial
theorem c_ne : Calm2 neD := fun x y S => by unfold neD; repeat' split
                                            all_goals trivial
theorem dpI : ∀ (ns : List Int), DpAll G.K w.H (ns.map V.int) (ns.map PyData.int)
  | [] => .nil
  | n :: ns => .cons (.int n) (dpI ns)
mutual
theorem dp_of : ∀ (d : D) (v : V) (x : PyData), Rep G w d v → toPy d = some x → Dp G.K w.H v x ∧ x.canLay0 = true
  | .non, v, x, r, e => by simp only [Rep] at r; cases e; subst r; exact ⟨.non, rfl⟩
  | .bl b, v, x, r, e => by simp only [Rep] at r; cases e; subst r; exact ⟨.bl b, rfl⟩
  | .int i, v, x, r, e => by simp only [Rep] at r; cases e; subst r; exact ⟨.int i, rfl⟩
  | .str s, v, x, r, e => by
    simp only [Rep] at r
    simp only [toPy] at e
    split at e
    · rename_i h
      cases e; subst r; exact ⟨.str s, h⟩
    · cases e
  | .tup l, v, x, r, e => by
    simp only [Rep] at r
    obtain ⟨a, vs, rfl, h1, h2⟩ := r
    simp only [toPy, Option.map_eq_some_iff] at e
    obtain ⟨xs, e1, rfl⟩ := e
    obtain ⟨q1, q2⟩ := dpL_of l vs xs h2 e1
    exact ⟨.tup (SqT_of h1) q1, by simpa [PyData.canLay0] using q2⟩
  | .lst l, v, x, r, e => by
    simp only [Rep] at r
    obtain ⟨a, vs, rfl, h1, _, h2⟩ := r
    simp only [toPy, Option.map_eq_some_iff] at e
    obtain ⟨xs, e1, rfl⟩ := e
    obtain ⟨q1, q2⟩ := dpL_of l vs xs h2 e1
    exact ⟨.lst (SqL.of h1) q1, by simpa [PyData.canLay0] using q2⟩
  | .dic _ _, _, _, _, e => by simp [toPy] at e
  | .obj _, _, _, _, e => by simp [toPy] at e
  | .glb _, _, _, _, e => by simp [toPy] at e
  | .ty _, _, _, _, e => by simp [toPy] at e
  | .kd _ _, _, _, _, e => by simp [toPy] at e
  | .xcp _ _ _, _, _, _, e => by simp [toPy] at e
  | .scr ns, v, x, r, e => by
    simp only [Rep] at r
    obtain ⟨a, rfl, h1⟩ := r
    simp only [toPy, Option.some.injEq] at e
    subst e
    refine ⟨.lst (h1.imp (fun z => z.1) id) (dpI ns), ?_⟩
    simp only [PyData.canLay0]
    exact PyProof.Rows.canLayAll_ints ns
theorem dpL_of : ∀ (ds : List D) (vs : List V) (xs : List PyData), RepL G w ds vs → toPyL ds = some xs → DpAll G.K w.H vs xs ∧ PyData.canLayAll0 xs = true
  | [], vs, xs, r, e => by simp only [RepL] at r; simp only [toPyL, Option.some.injEq] at e; subst r e; exact ⟨.nil, rfl⟩
  | d :: ds, vs, xs, r, e => by
    simp only [RepL] at r
    obtain ⟨v, r', rfl, h1, h2⟩ := r
    simp only [toPyL] at e
    split at e
    · rename_i x xs' e1 e2
      cases e
      obtain ⟨q1, q2⟩ := dp_of d v x h1 e1
      obtain ⟨q3, q4⟩ := dpL_of ds r' xs' h2 e2
      exact ⟨.cons q1 q3, by simp [PyData.canLayAll0, q2, q4]⟩
    · cases e
end
theorem deref_rep {x : D} {v : V} (sr : SRep G w) (r : Rep G w x v) {y : PyData} (e : toPy (deref x w.S) = some y) : Dp G.K w.H v y ∧ y.canLay0 = true := by
  cases x with
  | obj n =>
    unfold deref at e
    cases hn : w.S[n]? with
    | none => simp [hn, toPy] at e
    | some o =>
      cases o with
      | lst l =>
        simp only [hn] at e
        obtain ⟨a, vs, rfl, h1, h2⟩ := asL_rep (l := l) sr r (by simp [asL, hn])
        simp only [toPy, Option.map_eq_some_iff] at e
        obtain ⟨xs, e1, rfl⟩ := e
        obtain ⟨q1, q2⟩ := dpL_of l vs xs h2 e1
        exact ⟨.lst (SqL.of h1) q1, by simpa [PyData.canLay0] using q2⟩
      | _ => simp [hn, toPy] at e
  | _ => exact dp_of _ v y r e
end
end L3
set_option Elab.async false
set_option linter.all false
set_option maxRecDepth 100000
/-! L3I: ==, in, is, subscripts, isinstance, built-ins. -/
namespace L3
open PySem PySem.Spec PyProof.Rows L2

section
variable {G : GC} {X : Cx}
theorem o_eq (hK : X.K = G.K) (hu : X.A.units + 64 < cLine) : OpR X (compareOp .Eq) (r2 G eqD) := by
  intro pins s σ H x y v u Q I rx ry q
  obtain ⟨w, d1, d2, rfl, sr, r1, r2, p⟩ := q
  unfold eqD at p
  split at p
  · simp only [Rep] at r1 r2
    subst r1 r2
    exact L2.op_eq pins s σ w.H _ _ v u Q I rx ry ⟨rfl, by rw [L2.dec_str]; exact Post.ret (Ra := Rep G) sr (by simp [Rep]) p⟩
  · rename_i l
    simp only [Rep, RepL] at r1 r2
    obtain ⟨a, vs, rfl, h1, l1⟩ := r1
    obtain ⟨b, us, rfl, h2, rfl⟩ := r2
    cases rx
    cases ry
    obtain ⟨its, rv, tp, _⟩ := I.tuple (xs := vs) (by rw [hK]; exact SqT_of h1)
    obtain ⟨its2, rv2, tp2, _⟩ := I.tuple (xs := []) (by rw [hK]; exact SqT_of h2)
    cases rv2
    have hl := rv.length
    have hl2 := l1.length
    refine SeqAt.RcAt.tuples (e := fun _ => true) tp tp2 (by omega) (fun j h1 h2 => absurd h2 (by simp)) X.prog X.w X.xe (EP X pins σ Q) ?_
    refine ⟨.bl _, w.H, I, rfl, ?_⟩
    have e : ((List.range (min its.toArray.size ([] : List Value).toArray.size)).all (fun _ => true) && its.toArray.size == ([] : List Value).toArray.size) = l.isEmpty := by
      simp only [List.size_toArray, List.length_nil, Nat.min_zero, List.range_zero, List.all_nil, Bool.true_and]
      rw [← hl, hl2]
      cases l <;> rfl
    rw [e]
    exact Post.ret (Ra := Rep G) sr (by simp [Rep]) p
  · split at p
    · rename_i a b h1 h2
      split at p
      · rename_i hm
        obtain ⟨p1, c1⟩ := deref_rep sr r1 h1
        obtain ⟨p2, c2⟩ := deref_rep sr r2 h2
        rw [← hK] at p1 p2
        obtain ⟨as, q1⟩ := Dp.reads I a x v p1 rx
        obtain ⟨bs, q2⟩ := Dp.reads I b y u p2 ry
        exact SeqAt.compareEq_reads q1 q2 c1 c2 (by omega) ⟨.bl _, w.H, I, rfl, Post.ret (Ra := Rep G) sr (by simp [Rep]) p⟩
      · exact p.elim
    · exact p.elim
theorem o_ne (hK : X.K = G.K) (hu : X.A.units + 64 < cLine) : OpR X (compareOp .NotEq) (r2 G neD) := by
  intro pins s σ H x y v u Q I rx ry q
  obtain ⟨w, d1, d2, rfl, sr, r1, r2, p⟩ := q
  unfold neD at p
  split at p
  · simp only [Rep] at r1 r2
    subst r1 r2
    exact L2.op_ne pins s σ w.H _ _ v u Q I rx ry ⟨rfl, by rw [L2.dec_str]; exact Post.ret (Ra := Rep G) sr (by simp [Rep]) p⟩
  · rename_i l
    simp only [Rep, RepL] at r1 r2
    obtain ⟨a, vs, rfl, h1, l1⟩ := r1
    obtain ⟨b, us, rfl, h2, rfl⟩ := r2
    cases rx
    cases ry
    obtain ⟨its, rv, tp, _⟩ := I.tuple (xs := vs) (by rw [hK]; exact SqT_of h1)
    obtain ⟨its2, rv2, tp2, _⟩ := I.tuple (xs := []) (by rw [hK]; exact SqT_of h2)
    cases rv2
    have hl := rv.length
    have hl2 := l1.length
    refine SeqAt.RcNeAt.tuples (e := fun _ => true) tp tp2 (by omega) (fun j h1 h2 => absurd h2 (by simp)) X.prog X.w X.xe (EP X pins σ Q) ?_
    refine ⟨.bl _, w.H, I, rfl, ?_⟩
    have e : ((List.range (min its.toArray.size ([] : List Value).toArray.size)).all (fun _ => true) && its.toArray.size == ([] : List Value).toArray.size) = l.isEmpty := by
      simp only [List.size_toArray, List.length_nil, Nat.min_zero, List.range_zero, List.all_nil, Bool.true_and]
      rw [← hl, hl2]
      cases l <;> rfl
    rw [e]
    exact Post.ret (Ra := Rep G) sr (by simp [Rep]) p
  · split at p
    · rename_i a b h1 h2
      split at p
      · rename_i hm
        obtain ⟨p1, c1⟩ := deref_rep sr r1 h1
        obtain ⟨p2, c2⟩ := deref_rep sr r2 h2
        rw [← hK] at p1 p2
        obtain ⟨as, q1⟩ := Dp.reads I a x v p1 rx
        obtain ⟨bs, q2⟩ := Dp.reads I b y u p2 ry
        exact SeqAt.compareNe_reads q1 q2 c1 c2 (by omega) ⟨.bl _, w.H, I, rfl, Post.ret (Ra := Rep G) sr (by simp [Rep]) p⟩
      · exact p.elim
    · exact p.elim
/-! is -/
def isD : F2 := fun x y S => match y with
  | .non => match x with
    | .non => .ok (.bl true) S
    | _ => .ok (.bl false) S
  | .bl b => match x with
    | .bl a => .ok (.bl (decide (a = b))) S
    | _ => .bad
  | _ => .bad
def isNotD : F2 := fun x y S => match y with
  | .non => match x with
    | .non => .ok (.bl false) S
    | _ => .ok (.bl true) S
  | .bl b => match x with
    | .bl a => .ok (.bl (!decide (a = b))) S
    | _ => .bad
  | _ => .bad
theorem c_is : Calm2 isD := fun x y S => by unfold isD; repeat' split
                                            all_goals trivial
theorem c_isNot : Calm2 isNotD := fun x y S => by unfold isNotD; repeat' split
                                                  all_goals trivial
/-- only None stands for None -/
theorem Rep.non_iff {w : Wd} {d : D} {v : V} (r : Rep G w d v) (hg : ∀ x u, G.mg x = some u → u ≠ Value.none) : v = .non ↔ d = .non := by
  constructor
  · intro e
    subst e
    cases d with
    | non => rfl
    | glb x =>
      simp only [Rep] at r
      obtain ⟨u, h1, h2⟩ := r
      exact absurd h2 (hg x u h1)
    | bl _ => simp [Rep] at r
    | int _ => simp [Rep] at r
    | str _ => simp [Rep] at r
    | tup _ => simp [Rep] at r
    | lst _ => simp [Rep] at r
    | dic _ _ => simp [Rep] at r
    | obj _ => simp [Rep] at r
    | ty _ => simp [Rep] at r
    | scr _ => simp [Rep] at r
    | kd _ _ => simp [Rep] at r
    | xcp _ _ _ => simp [Rep] at r
  · rintro rfl; simpa [Rep] using r

/-! in -/
/-- a written dict's item -/
def kdAt : List Str → List D → Str → Option D
  | k :: ks, d :: ds, z => if z = k then some d else kdAt ks ds z
  | _, _, _ => none
/-- the entry of a dict of keys -/
def keyOf : D → Option Key
  | .int i => some (.inl i)
  | .str s => some (.inr s)
  | _ => none
/-- a tuple of whole numbers as a key -/
def tkOf : D → Option (List Key)
  | .tup l => if plc l = true then some (l.filterMap keyOf) else none
  | _ => none
def dGet {κ : Type} [DecidableEq κ] (kvs : List (κ × D)) (k : κ) : Option D := (kvs.find? fun kv => decide (kv.1 = k)).map (·.2)
def memData (x : Option PyData) (y : Option PyData) : Option Bool := match x, y with
  | some a, some (.list xs) => if a.depth ≤ 64 then some (xs.any fun z => PyData.eqv z a) else none
  | some a, some (.tuple xs) => if a.depth ≤ 64 then some (xs.any fun z => PyData.eqv z a) else none
  | _, _ => none
def memKey (x : D) (kvs : List (Key × D)) : Option Bool := match keyOf x with
  | some k => some (dGet kvs k).isSome
  | none => none
def memT (x : D) (kvs : List (List Key × D)) : Option Bool := match tkOf x with
  | some k => some (dGet kvs k).isSome
  | none => none
def memStr (x : D) (z : Str) : Option Bool := match x with
  | .str c => if c.cps.size = 1 then some (decide (c.cps.getD 0 0 ∈ z.cps.toList)) else none
  | _ => none
def memKd (x : D) (ks : List Str) (l : List D) : Option Bool := match x with
  | .str z => some (kdAt ks l z).isSome
  | _ => none
def memD (x y : D) (S : Store) : Option Bool := match y with
  | .str z => memStr x z
  | .kd ks l => memKd x ks l
  | .dic ks l => memKey x (ks.zip l)
  | .tup l => memData (toPy x) (toPy (.tup l))
  | .lst l => memData (toPy x) (toPy (.lst l))
  | .obj n => match S[n]? with
    | some (.lst l) => memData (toPy x) (toPy (.lst l))
    | some (.dK kvs) => memKey x kvs
    | some (.dT kvs) => memT x kvs
    | _ => none
  | _ => none
def inD : F2 := fun x y S => match memD x y S with
  | some b => .ok (.bl b) S
  | none => .bad
def notInD : F2 := fun x y S => match memD x y S with
  | some b => .ok (.bl (!b)) S
  | none => .bad
theorem c_in : Calm2 inD := fun x y S => by unfold inD; split <;> trivial
theorem c_notIn : Calm2 notInD := fun x y S => by unfold notInD; split <;> trivial
theorem str1 {c : Str} (h : c.cps.size = 1) : c = ⟨#[c.cps.getD 0 0]⟩ := by
  obtain ⟨⟨l⟩⟩ := c
  match l, h with
  | [a], _ => rfl
theorem kdAt_look {w : Wd} : ∀ {ks : List Str} {l : List D} {vs : List V} {us : List Value} (z : Str), ks.length = l.length → Vals vs us → RepL G w l vs →
    (match kdAt ks l z with
      | some d => ∃ v u, (ks.zip us).lookup z = some u ∧ RelV v u ∧ Rep G w d v
      | none => (ks.zip us).lookup z = none)
  | [], [], vs, us, z, _, r, h => by simp [kdAt]
  | k :: ks, d :: ds, vs, us, z, hl, r, h => by
    simp only [RepL] at h
    obtain ⟨v, r', rfl, h1, h2⟩ := h
    cases r with
    | cons ru rr =>
      rename_i u us'
      unfold kdAt
      by_cases e : z = k
      · subst e
        rw [if_pos rfl]
        exact ⟨v, u, by simp [List.lookup], ru, h1⟩
      · rw [if_neg e]
        have := kdAt_look z (by simpa using hl) rr h2
        have e2 : ((k :: ks).zip (u :: us')).lookup z = (ks.zip us').lookup z := by
          simp only [List.zip_cons_cons, List.lookup]
          have : (z == k) = false := by simpa using e
          rw [this]
        rw [e2]
        exact this
theorem dGet_rep {κ : Type} [DecidableEq κ] {w : Wd} : ∀ {kvs : List (κ × D)} {vs : List (κ × V)} (k : κ), RepKV G w kvs vs →
    (match dGet kvs k with
      | some d => ∃ v, valV vs k = some v ∧ Rep G w d v
      | none => valV vs k = none)
  | [], vs, k, h => by
    have : vs = [] := h
    subst this; rfl
  | p :: r, vs, k, h => by
    obtain ⟨v, y, rfl, h1, h2⟩ := h
    have ih := dGet_rep k h2
    by_cases e : p.1 = k
    · have e1 : dGet (p :: r) k = some p.2 := by simp [dGet, List.find?_cons, e]
      rw [e1, L2.valV_pos (p := (p.1, v)) e]
      exact ⟨v, rfl, h1⟩
    · have e1 : dGet (p :: r) k = dGet r k := by simp [dGet, List.find?_cons, e]
      rw [e1, L2.valV_neg (p := (p.1, v)) e]
      exact ih
theorem zip_kv {κ : Type} {w : Wd} : ∀ {ks : List κ} {l : List D} {vs : List V}, ks.length = l.length → RepL G w l vs → RepKV G w (ks.zip l) (ks.zip vs)
  | [], [], vs, _, h => by simp only [RepL] at h; subst h; rfl
  | k :: ks, d :: ds, vs, hl, h => by
    simp only [RepL] at h
    obtain ⟨v, r, rfl, h1, h2⟩ := h
    exact ⟨v, _, rfl, h1, zip_kv (by simpa using hl) h2⟩
theorem keyOf_rep {w : Wd} {d : D} {v : V} {k : Key} (r : Rep G w d v) (e : keyOf d = some k) : v = kV k := by
  cases d with
  | int i => cases e; simp only [Rep] at r; exact r
  | str s => cases e; simp only [Rep] at r; exact r
  | _ => cases e
theorem plc_vals {w : Wd} : ∀ {l : List D} {vs : List V}, plc l = true → RepL G w l vs → vs = (l.filterMap keyOf).map kV
  | [], vs, _, h => by simp only [RepL] at h; subst h; rfl
  | d :: l, vs, hp, h => by
    simp only [RepL] at h
    obtain ⟨v, r, rfl, h1, h2⟩ := h
    simp only [plc, List.all_cons, Bool.and_eq_true] at hp
    have ih := plc_vals (l := l) (by simpa [plc] using hp.2) h2
    cases d with
    | int i =>
      simp only [Rep] at h1
      subst h1
      rw [ih]; rfl
    | _ => exact absurd hp.1 (by simp [isIt])
theorem tk_rep {w : Wd} {d : D} {v : V} {k : List Key} (r : Rep G w d v) (e : tkOf d = some k) : ∃ b, v = .ref b ∧ w.H b = some (.tup (k.map kV)) ∧ ¬ Mut w b := by
  cases d with
  | tup l =>
    simp only [tkOf] at e
    split at e
    · rename_i hp
      cases e
      simp only [Rep] at r
      obtain ⟨a, vs, rfl, h | h, rl⟩ := r
      · rw [plc_vals hp rl] at h
        exact ⟨a, rfl, h.1, h.2⟩
      · rw [hp] at h; cases h.2
    · cases e
  | _ => cases e
/-- what a membership's answer rests on -/
theorem mem_ok (hK : X.K = G.K) (hw : X.w = G.w) (hu : X.A.units + 65 < cLine) {neg : Bool} {op : CmpOp} (ho : op = if neg then .NotIn else .In) {pins : List (Addr × Obj)} {s : Shared} {σ : L2.St} {w : Wd} {x y : V} {v u : Value} {Q : VK} {d1 d2 : D} {b : Bool}
    (I : Inv X pins σ w.H s) (rx : RelV x v) (ry : RelV y u) (sr : SRep G w) (r1 : Rep G w d1 x) (r2 : Rep G w d2 y) (e : memD d1 d2 w.S = some b) (q : Q (.bl (if neg then !b else b)) w.H) :
    wpAny (model X.prog X.w) X.A (compareOp op v u) (EP X pins σ Q) X.xe s := by
  have data : ∀ {a : PyData} {xs : List PyData} {isL : Bool}, toPy d1 = some a → toPy (deref d2 w.S) = some (if isL then .list xs else .tuple xs) → a.depth ≤ 64 → b = (xs.any fun z => PyData.eqv z a) →
      wpAny (model X.prog X.w) X.A (compareOp op v u) (EP X pins σ Q) X.xe s := fun {a xs isL} h1 h2 hd hb => by
    obtain ⟨p1, c1⟩ := dp_of d1 x a r1 h1
    obtain ⟨p2, c2⟩ := deref_rep sr r2 h2
    rw [← hK] at p1 p2
    obtain ⟨as, q1⟩ := Dp.reads I a x v p1 rx
    obtain ⟨bs, q2⟩ := Dp.reads I _ y u p2 ry
    have room : X.A.units + 1 + min (PyData.depthAll xs) a.depth < cLine := by omega
    subst hb
    cases isL <;> cases neg <;> simp only [if_true, Bool.false_eq_true, if_false, PyData.canLay0] at q2 c2 ho q <;> subst ho
    · exact SeqAt.in_tuple_reads q2 q1 c2 c1 room ⟨.bl _, w.H, I, rfl, q⟩
    · exact SeqAt.notIn_tuple_reads q2 q1 c2 c1 room ⟨.bl _, w.H, I, rfl, q⟩
    · exact SeqAt.in_list_reads q2 q1 c2 c1 room ⟨.bl _, w.H, I, rfl, q⟩
    · exact SeqAt.notIn_list_reads q2 q1 c2 c1 room ⟨.bl _, w.H, I, rfl, q⟩
  have dK : ∀ {a : Addr} {kvs : List (Key × D)} {vs : List (Key × V)} {k : Key}, y = .ref a → w.H a = some (.dK vs) → RepKV G w kvs vs → keyOf d1 = some k → b = (dGet kvs k).isSome → wpAny (model X.prog X.w) X.A (compareOp op v u) (EP X pins σ Q) X.xe s := fun {a kvs vs k} ey h1 h2 hk hb => by
    subst ey
    cases ry
    have ex := keyOf_rep r1 hk
    subst ex
    have g : DGet w.H a (kV k) (valV vs k) := DGet.k h1
    have eb : (valV vs k).isSome = b := by
      have := dGet_rep k h2
      rw [hb]
      cases hg : dGet kvs k with
      | none => rw [hg] at this; simp only at this; rw [this]; rfl
      | some d => rw [hg] at this; simp only at this; obtain ⟨z, e1, _⟩ := this; rw [e1]; rfl
    cases neg <;> simp only [if_true, Bool.false_eq_true, if_false] at ho q <;> subst ho
    · exact L2.d_in (by omega) I g rx fun s' I' => ⟨.bl _, w.H, I', rfl, by rw [eb]; exact q⟩
    · exact L2.d_notIn (by omega) I g rx fun s' I' => ⟨.bl _, w.H, I', rfl, by rw [eb]; exact q⟩
  have data' : ∀ {l : List D} {isL : Bool}, (if isL then (toPy (.lst l)) else toPy (.tup l)) = toPy (deref d2 w.S) → memData (toPy d1) (if isL then (toPy (.lst l)) else toPy (.tup l)) = some b → wpAny (model X.prog X.w) X.A (compareOp op v u) (EP X pins σ Q) X.xe s := fun {l isL} h e => by
    rw [h] at e
    unfold memData at e
    split at e
    · rename_i a xs h1 h2
      split at e
      · cases e; exact data (isL := true) h1 h2 (by assumption) rfl
      · cases e
    · rename_i a xs h1 h2
      split at e
      · cases e; exact data (isL := false) h1 h2 (by assumption) rfl
      · cases e
    · cases e
  cases d2 with
  | str z =>
    simp only [memD, memStr] at e
    split at e
    · split at e
      · rename_i c hc
        simp only [Rep] at r1 r2
        subst r1 r2
        cases e
        cases neg <;> simp only [if_true, Bool.false_eq_true, if_false] at ho q <;> subst ho
        · exact L2.op_in_sign pins s σ w.H _ _ v u Q I rx ry ⟨_, z, by rw [← str1 hc], rfl, q⟩
        · exact L2.op_notIn_sign pins s σ w.H _ _ v u Q I rx ry ⟨_, z, by rw [← str1 hc], rfl, q⟩
      · cases e
    · cases e
  | kd ks l =>
    simp only [memD, memKd] at e
    split at e
    · rename_i z
      simp only [Rep] at r1 r2
      subst r1
      obtain ⟨a, es, n, vs, us, rfl, kd, hn, hl, rv, rl⟩ := r2
      cases e
      have look := kdAt_look z hl rv rl
      have hb : ((ks.zip us).lookup z).isSome = (kdAt ks l z).isSome := by
        cases hk : kdAt ks l z with
        | none => rw [hk] at look; simp only at look; rw [look]; rfl
        | some d => rw [hk] at look; simp only at look; obtain ⟨_, u', e1, _⟩ := look; rw [e1]; rfl
      rw [← hb] at q
      have kd' : KDict X.K X.w a es n := by rw [hK, hw]; exact kd
      cases neg <;> simp only [if_true, Bool.false_eq_true, if_false] at ho q <;> subst ho
      · exact L2.op_in_kd kd' pins s σ w.H _ _ v u Q I rx ry ⟨z, _, rfl, rfl, by rw [hK]; exact hn z, q⟩
      · exact L2.op_notIn_kd kd' pins s σ w.H _ _ v u Q I rx ry ⟨z, _, rfl, rfl, by rw [hK]; exact hn z, q⟩
    · cases e
  | dic ks l =>
    simp only [memD, memKey] at e
    split at e
    · rename_i k hk
      simp only [Rep] at r2
      obtain ⟨a, vs, rfl, h1, nm, hl, h2⟩ := r2
      cases e
      exact dK rfl h1 (zip_kv hl h2) hk rfl
    · cases e
  | tup l => exact data' (l := l) (isL := false) rfl e
  | lst l => exact data' (l := l) (isL := true) rfl e
  | obj n =>
    simp only [memD] at e
    split at e
    · rename_i l hn
      exact data' (l := l) (isL := true) (by simp [deref, hn]) e
    · rename_i kvs hn
      unfold memKey at e
      split at e
      · rename_i k hk
        cases e
        simp only [Rep] at r2
        obtain ⟨a, hm, rfl⟩ := r2
        obtain ⟨vs, h1, h2⟩ := sr.obj n _ a hn hm
        exact dK rfl h1 h2 hk rfl
      · cases e
    · rename_i kvs hn
      unfold memT at e
      split at e
      · rename_i k hk
        cases e
        simp only [Rep] at r2
        obtain ⟨a, hm, rfl⟩ := r2
        obtain ⟨vs, h1, h2⟩ := sr.obj n _ a hn hm
        cases ry
        obtain ⟨bb, rfl, eb, _⟩ := tk_rep r1 hk
        have g : DGet w.H a (.ref bb) (valV vs k) := DGet.t h1 eb
        have eb' : (valV vs k).isSome = (dGet kvs k).isSome := by
          have := dGet_rep k h2
          cases hg : dGet kvs k with
          | none => rw [hg] at this; simp only at this; rw [this]; rfl
          | some d => rw [hg] at this; simp only at this; obtain ⟨z, e1, _⟩ := this; rw [e1]; rfl
        cases neg <;> simp only [if_true, Bool.false_eq_true, if_false] at ho q <;> subst ho
        · exact L2.d_in (by omega) I g rx fun s' I' => ⟨.bl _, w.H, I', rfl, by rw [eb']; exact q⟩
        · exact L2.d_notIn (by omega) I g rx fun s' I' => ⟨.bl _, w.H, I', rfl, by rw [eb']; exact q⟩
      · cases e
    · cases e
  | _ => simp [memD] at e
theorem o_in (hK : X.K = G.K) (hw : X.w = G.w) (hu : X.A.units + 65 < cLine) : OpR X (compareOp .In) (r2 G inD) := by
  intro pins s σ H x y v u Q I rx ry q
  obtain ⟨w, d1, d2, rfl, sr, r1, r2, p⟩ := q
  unfold inD at p
  split at p
  · rename_i b e
    exact mem_ok (neg := false) hK hw hu rfl I rx ry sr r1 r2 e (Post.ret (Ra := Rep G) sr (by simp [Rep]) p)
  · exact p.elim
theorem o_notIn (hK : X.K = G.K) (hw : X.w = G.w) (hu : X.A.units + 65 < cLine) : OpR X (compareOp .NotIn) (r2 G notInD) := by
  intro pins s σ H x y v u Q I rx ry q
  obtain ⟨w, d1, d2, rfl, sr, r1, r2, p⟩ := q
  unfold notInD at p
  split at p
  · rename_i b e
    exact mem_ok (neg := true) hK hw hu rfl I rx ry sr r1 r2 e (Post.ret (Ra := Rep G) sr (by simp [Rep]) p)
  · exact p.elim
end
end L3
set_option Elab.async false
set_option linter.all false
set_option maxRecDepth 100000
/-! L3J: subscripts, isinstance, built-ins, stores. -/
namespace L3
open PySem PySem.Spec PyProof.Rows L2

/-! ### subscripts -/
def ixD : F2 := fun x y S => match x with
  | .tup l => match y with
    | .int i => match atI l i with
      | some d => .ok d S
      | none => .bad
    | _ => .bad
  | .str z => match y with
    | .int i => if z.length ≤ sizeLine then match atI z.cps.toList i with
        | some c => .ok (sgn c) S
        | none => .bad
      else .bad
    | _ => .bad
  | .scr ns => match y with
    | .int i => match atI ns i with
      | some n => .ok (.int n) S
      | none => .bad
    | _ => .bad
  | .kd ks l => match y with
    | .str z => match kdAt ks l z with
      | some d => .ok d S
      | none => .bad
    | _ => .bad
  | .dic ks l => match keyOf y with
    | some k => match dGet (ks.zip l) k with
      | some d => .ok d S
      | none => .bad
    | none => .bad
  | .lst l => match y with
    | .int i => match atI l i with
      | some d => .ok d S
      | none => .bad
    | _ => .bad
  | .obj n => match S[n]? with
    | some (.lst l) => match y with
      | .int i => match atI l i with
        | some d => .ok d S
        | none => .bad
      | _ => .bad
    | some (.dK kvs) => match keyOf y with
      | some k => match dGet kvs k with
        | some d => .ok d S
        | none => .bad
      | none => .bad
    | some (.dT kvs) => match tkOf y with
      | some k => match dGet kvs k with
        | some d => .ok d S
        | none => .bad
      | none => .bad
    | _ => .bad
  | _ => .bad
section
variable {G : GC} {X : Cx} {w : Wd}
theorem c_ix : Calm2 ixD := fun x y S => by unfold ixD; repeat' split
                                            all_goals trivial
theorem RepL.at {l : List D} {vs : List V} {i : Int} {d : D} (r : RepL G w l vs) (e : atI l i = some d) : ∃ v, atI vs i = some v ∧ Rep G w d v := by
  unfold atI at e ⊢
  rw [r.length]
  cases h : ixN l.length i with
  | none => rw [h] at e; cases e
  | some j =>
    rw [h] at e
    exact r.get e
/-- a list's, a tuple's, a text's, a dict's -/
theorem ix_dk (hu : X.A.units + 1 < cLine) : IxR X (fun x y H Q => ∃ a v, x = .ref a ∧ DGet H a y (some v) ∧ Q v H) := by
  intro value slice pins s σ H x y v u Q I rx ry h hs
  obtain ⟨a, z, rfl, g, q⟩ := h
  cases rx
  exact tail_any (dict_typeIs I g) PySem.F.slot_dict_getitem.lookup (d_getItem hu I g ry fun w' s' I' r' => ⟨z, H, I', r', q⟩) hs
theorem o_ix (hK : X.K = G.K) (hw : X.w = G.w) (hu : X.A.units + 1 < cLine) : IxR X (r2 G ixD) := by
  refine ixI2 ((ix_seq (X := X)).or (ix_kdict.or (ix_dk hu))) fun x y H Q q => ?_
  obtain ⟨w, d1, d2, rfl, sr, r1, r2, p⟩ := q
  have dk : ∀ {a : Addr} {kvs : List (Key × D)} {vs : List (Key × V)} {k : Key} {d : D}, x = .ref a → w.H a = some (.dK vs) → RepKV G w kvs vs → keyOf d2 = some k → dGet kvs k = some d → Post G w (.ok d w.S) (Rep G) Q (fun _ _ _ => False) →
      ∃ a v, x = V.ref a ∧ DGet w.H a y (some v) ∧ Q v w.H := fun {a kvs vs k d} ex h1 h2 hk hd p => by
    have ey := keyOf_rep r2 hk
    have := dGet_rep k h2
    rw [hd] at this
    obtain ⟨v, e1, e2⟩ := this
    exact ⟨a, v, ex, by rw [ey, ← e1]; exact DGet.k h1, Post.ret sr e2 p⟩
  have lst : ∀ {l : List D} {i : Int} {d : D}, asL d1 w.S = some l → atI l i = some d → d2 = .int i → Post G w (.ok d w.S) (Rep G) Q (fun _ _ _ => False) → rIx X.K x y w.H Q := fun {l i d} h1 h2 h3 p' => by
    subst h3
    simp only [Rep] at r2
    obtain ⟨a, vs, rfl, e1, rl⟩ := asL_rep sr r1 h1
    obtain ⟨v, e2, rv⟩ := rl.at h2
    exact .inl ⟨a, vs, i, v, rfl, r2, SqL.of e1, e2, Post.ret sr rv p'⟩
  cases d1 with
  | tup l =>
    simp only [ixD] at p
    split at p
    · rename_i i
      split at p
      · rename_i d hd
        simp only [Rep] at r1 r2
        obtain ⟨a, vs, rfl, h1, rl⟩ := r1
        obtain ⟨v, e2, rv⟩ := rl.at hd
        exact .inl (.inr (.inl ⟨a, vs, i, v, rfl, r2, by rw [hK]; exact SqT_of h1, e2, Post.ret sr rv p⟩))
      · exact p.elim
    · exact p.elim
  | str z =>
    simp only [ixD] at p
    split at p
    · rename_i i
      split at p
      · rename_i hz
        split at p
        · rename_i c hc
          simp only [Rep] at r1 r2
          exact .inl (.inr (.inr ⟨z, i, c, r1, r2, hz, hc, Post.ret (Ra := Rep G) sr (by simp [Rep, sgn]) p⟩))
        · exact p.elim
      · exact p.elim
    · exact p.elim
  | scr ns =>
    simp only [ixD] at p
    split at p
    · rename_i i
      split at p
      · rename_i n hn
        simp only [Rep] at r1 r2
        obtain ⟨a, rfl, h1⟩ := r1
        refine .inl (.inl ⟨a, ns.map V.int, i, .int n, rfl, r2, by rw [hK]; exact h1.imp (fun z => z.1) id, ?_, Post.ret (Ra := Rep G) sr (by simp [Rep]) p⟩)
        unfold atI at hn ⊢
        rw [List.length_map]
        cases h : ixN ns.length i with
        | none => rw [h] at hn; cases hn
        | some j => rw [h] at hn; simp only [Option.bind] at hn ⊢; rw [List.getElem?_map, hn]; rfl
      · exact p.elim
    · exact p.elim
  | kd ks l =>
    simp only [ixD] at p
    split at p
    · rename_i z
      split at p
      · rename_i d hd
        simp only [Rep] at r1 r2
        obtain ⟨a, es, n, vs, us, rfl, kd, hn, hl, rv, rl⟩ := r1
        have look := kdAt_look z hl rv rl
        rw [hd] at look
        obtain ⟨v, u, e1, e2, e3⟩ := look
        refine .inr (.inl ⟨a, z, v, rfl, r2, ⟨es, n, u, by rw [hK]; exact kd.at_, by rw [hw]; exact kd.lit, by rw [hK, hn z, e1], e2⟩, Post.ret sr e3 p⟩)
      · exact p.elim
    · exact p.elim
  | dic ks l =>
    simp only [ixD] at p
    split at p
    · rename_i k hk
      split at p
      · rename_i d hd
        simp only [Rep] at r1
        obtain ⟨a, vs, rfl, h1, nm, hl, h2⟩ := r1
        exact .inr (.inr (dk rfl h1 (zip_kv hl h2) hk hd p))
      · exact p.elim
    · exact p.elim
  | lst l =>
    simp only [ixD] at p
    split at p
    · split at p
      · rename_i d hd
        exact .inl (lst rfl hd rfl p)
      · exact p.elim
    · exact p.elim
  | obj n =>
    simp only [ixD] at p
    split at p
    · rename_i l hn
      split at p
      · split at p
        · rename_i d hd
          exact .inl (lst (by simp [asL, hn]) hd rfl p)
        · exact p.elim
      · exact p.elim
    · rename_i kvs hn
      split at p
      · rename_i k hk
        split at p
        · rename_i d hd
          simp only [Rep] at r1
          obtain ⟨a, hm, rfl⟩ := r1
          obtain ⟨vs, h1, h2⟩ := sr.obj n _ a hn hm
          exact .inr (.inr (dk rfl h1 h2 hk hd p))
        · exact p.elim
      · exact p.elim
    · rename_i kvs hn
      split at p
      · rename_i k hk
        split at p
        · rename_i d hd
          simp only [Rep] at r1
          obtain ⟨a, hm, rfl⟩ := r1
          obtain ⟨vs, h1, h2⟩ := sr.obj n _ a hn hm
          obtain ⟨bb, rfl, eb, _⟩ := tk_rep r2 hk
          have := dGet_rep k h2
          rw [hd] at this
          obtain ⟨v, e1, e2⟩ := this
          exact .inr (.inr ⟨a, v, rfl, by rw [← e1]; exact DGet.t h1 eb, Post.ret sr e2 p⟩)
        · exact p.elim
      · exact p.elim
    · exact p.elim
  | _ => exact p.elim

/-! ### isinstance -/
def tyD (x : D) (S : Store) : Option String := match x with
  | .non => some "NoneType"
  | .bl _ => some "bool"
  | .int _ => some "int"
  | .str _ => some "str"
  | .tup _ => some "tuple"
  | .lst _ => some "list"
  | .dic _ _ => some "dict"
  | .kd _ _ => some "dict"
  | .obj n => match S[n]? with
    | some (.lst _) => some "list"
    | some (.dK _) => some "dict"
    | some (.dT _) => some "dict"
    | _ => none
  | _ => none
def isiD : FN := fun xs S => match xs with
  | [x, .ty T] => match tyD x S with
    | some t => match kitB t T with
      | some b => .ok (.bl b) S
      | none => .bad
    | none => .bad
  | _ => .bad
theorem c_isi : CalmN isiD := fun xs S => by unfold isiD; repeat' split
                                             all_goals trivial
theorem tyx {x : D} {v : V} {t : String} (sr : SRep G w) (r : Rep G w x v) (e : tyD x w.S = some t) : TyX G.K w.H v (.type t) := by
  cases x with
  | non => simp only [Rep] at r; cases e; subst r; exact .base .non
  | bl b => simp only [Rep] at r; cases e; subst r; exact .base (.bl b)
  | int i => simp only [Rep] at r; cases e; subst r; exact .base (.int i)
  | str s => simp only [Rep] at r; cases e; subst r; exact .base (.str s)
  | tup l =>
    simp only [Rep] at r
    cases e
    obtain ⟨a, vs, rfl, h1, _⟩ := r
    rcases h1 with ⟨h, _⟩ | ⟨⟨o, its, n, h, hc, _⟩, _⟩
    · exact .base (.tup h)
    · exact .kTuple h hc
  | lst l =>
    simp only [Rep] at r
    cases e
    obtain ⟨a, vs, rfl, h1, _⟩ := r
    exact .base (.lst h1)
  | dic ks l =>
    simp only [Rep] at r
    cases e
    obtain ⟨a, vs, rfl, h1, _⟩ := r
    exact .base (.dK h1)
  | kd ks l =>
    simp only [Rep] at r
    cases e
    obtain ⟨a, es, n, vs, us, rfl, kd, _⟩ := r
    exact .kDict kd.at_ rfl
  | obj n =>
    simp only [Rep] at r
    obtain ⟨a, hm, rfl⟩ := r
    simp only [tyD] at e
    split at e
    · rename_i l hn
      cases e
      obtain ⟨vs, h1, _⟩ := sr.obj n _ a hn hm
      exact .base (.lst h1)
    · rename_i l hn
      cases e
      obtain ⟨vs, h1, _⟩ := sr.obj n _ a hn hm
      exact .base (.dK h1)
    · rename_i l hn
      cases e
      obtain ⟨vs, h1, _⟩ := sr.obj n _ a hn hm
      exact .base (.dT h1)
    · cases e
  | _ => cases e
theorem o_isi (hK : X.K = G.K) : CallR X (.builtin "isinstance") (rN G isiD) := by
  refine caI2 call_isi fun xs H Q q => ?_
  obtain ⟨w, ds, rfl, sr, rl, p⟩ := q
  unfold isiD at p
  split at p
  · rename_i x T
    split at p
    · rename_i t ht
      split at p
      · rename_i b hb
        simp only [RepL, Rep] at rl
        obtain ⟨v, r', rfl, r1, v2, r'', rfl, rfl, rfl⟩ := rl
        exact ⟨v, .ty T, .type t, .type T, b, rfl, .ty T, by rw [hK]; exact tyx sr r1 ht, kit_ty hb, Post.ret (Ra := Rep G) sr (by simp [Rep]) p⟩
      · exact p.elim
    · exact p.elim
  · exact p.elim

/-! ### len -/
def lenD : FN := fun xs S => match xs with
  | [.tup l] => .ok (.int l.length) S
  | [.str s] => if s.length ≤ sizeLine then .ok (.int s.length) S else .bad
  | [.scr ns] => .ok (.int ns.length) S
  | [x] => match asL x S with
    | some l => .ok (.int l.length) S
    | none => .bad
  | _ => .bad
theorem c_len : CalmN lenD := fun xs S => by unfold lenD; repeat' split
                                             all_goals trivial
theorem o_len (hK : X.K = G.K) : CallR X (.builtin "len") (rN G lenD) := by
  refine caI2 call_len fun xs H Q q => ?_
  obtain ⟨w, ds, rfl, sr, rl, p⟩ := q
  unfold lenD at p
  split at p
  · rename_i l
    simp only [RepL, Rep] at rl
    obtain ⟨v, r', rfl, ⟨a, vs, rfl, h1, r1⟩, rfl⟩ := rl
    exact ⟨.ref a, l.length, rfl, .inr ⟨vs, by rw [hK]; exact SqT_of h1, r1.length.symm⟩, Post.ret (Ra := Rep G) sr (by simp [Rep]) p⟩
  · split at p
    · rename_i s hs
      simp only [RepL, Rep] at rl
      obtain ⟨v, r', rfl, rfl, rfl⟩ := rl
      exact ⟨.str s, s.length, rfl, ⟨hs, rfl⟩, Post.ret (Ra := Rep G) sr (by simp [Rep]) p⟩
    · exact p.elim
  · rename_i ns
    simp only [RepL, Rep] at rl
    obtain ⟨v, r', rfl, ⟨a, rfl, h1⟩, rfl⟩ := rl
    exact ⟨.ref a, ns.length, rfl, .inl ⟨ns.map V.int, by rw [hK]; exact h1.imp (fun z => z.1) id, by simp⟩, Post.ret (Ra := Rep G) sr (by simp [Rep]) p⟩
  · split at p
    · rename_i l hl
      simp only [RepL] at rl
      obtain ⟨v, r', rfl, r1, rfl⟩ := rl
      obtain ⟨a, vs, rfl, h1, r2⟩ := asL_rep sr r1 hl
      exact ⟨.ref a, l.length, rfl, .inl ⟨vs, SqL.of h1, r2.length.symm⟩, Post.ret (Ra := Rep G) sr (by simp [Rep]) p⟩
    · exact p.elim
  · exact p.elim

/-! ### all, any, sum, min, max, abs, int, tuple, list -/
def allBls : List D → Option (List Bool)
  | [] => some []
  | .bl b :: r => (allBls r).map (b :: ·)
  | _ => none
def allInts : List D → Option (List Int)
  | [] => some []
  | .int b :: r => (allInts r).map (b :: ·)
  | _ => none
theorem allBls_rep : ∀ {l : List D} {vs : List V} {bs : List Bool}, RepL G w l vs → allBls l = some bs → vs = bs.map V.bl
  | [], vs, bs, r, e => by simp only [RepL] at r; cases e; exact r
  | d :: ds, vs, bs, r, e => by
    simp only [RepL] at r
    obtain ⟨v, r', rfl, h1, h2⟩ := r
    cases d with
    | bl b =>
      simp only [allBls, Option.map_eq_some_iff] at e
      obtain ⟨bs', e1, rfl⟩ := e
      simp only [Rep] at h1
      rw [h1, allBls_rep h2 e1]
      rfl
    | _ => simp [allBls] at e
theorem allInts_rep : ∀ {l : List D} {vs : List V} {bs : List Int}, RepL G w l vs → allInts l = some bs → vs = bs.map V.int
  | [], vs, bs, r, e => by simp only [RepL] at r; cases e; exact r
  | d :: ds, vs, bs, r, e => by
    simp only [RepL] at r
    obtain ⟨v, r', rfl, h1, h2⟩ := r
    cases d with
    | int b =>
      simp only [allInts, Option.map_eq_some_iff] at e
      obtain ⟨bs', e1, rfl⟩ := e
      simp only [Rep] at h1
      rw [h1, allInts_rep h2 e1]
      rfl
    | _ => simp [allInts] at e
def allD : FN := fun xs S => match xs with
  | [x] => match (asL x S).bind allBls with
    | some bs => .ok (.bl (bs.all id)) S
    | none => .bad
  | _ => .bad
def anyD : FN := fun xs S => match xs with
  | [x] => match (asL x S).bind allBls with
    | some bs => .ok (.bl (bs.any id)) S
    | none => .bad
  | _ => .bad
def sumD : FN := fun xs S => match xs with
  | [x] => match (asL x S).bind allInts with
    | some bs => .ok (.int bs.sum) S
    | none => .bad
  | _ => .bad
theorem c_all : CalmN allD := fun xs S => by unfold allD; repeat' split
                                             all_goals trivial
theorem c_any : CalmN anyD := fun xs S => by unfold anyD; repeat' split
                                             all_goals trivial
theorem c_sum : CalmN sumD := fun xs S => by unfold sumD; repeat' split
                                             all_goals trivial
theorem asL_allBls {x : D} {v : V} {bs : List Bool} (sr : SRep G w) (r : Rep G w x v) (e : (asL x w.S).bind allBls = some bs) : ∃ a, v = .ref a ∧ w.H a = some (.lst (bs.map V.bl)) := by
  cases h : asL x w.S with
  | none => rw [h] at e; cases e
  | some l =>
    rw [h] at e
    obtain ⟨a, vs, rfl, h1, h2⟩ := asL_rep sr r h
    exact ⟨a, rfl, by rw [h1, allBls_rep h2 e]⟩
theorem asL_allInts {x : D} {v : V} {bs : List Int} (sr : SRep G w) (r : Rep G w x v) (e : (asL x w.S).bind allInts = some bs) : ∃ a, v = .ref a ∧ w.H a = some (.lst (bs.map V.int)) := by
  cases h : asL x w.S with
  | none => rw [h] at e; cases e
  | some l =>
    rw [h] at e
    obtain ⟨a, vs, rfl, h1, h2⟩ := asL_rep sr r h
    exact ⟨a, rfl, by rw [h1, allInts_rep h2 e]⟩
theorem o_all (hc : X.calm = true) : CallR X (.builtin "all") (rN G allD) := by
  refine caI2 (cr_all hc) fun xs H Q q => ?_
  obtain ⟨w, ds, rfl, sr, rl, p⟩ := q
  unfold allD at p
  split at p
  · split at p
    · rename_i bs hb
      simp only [RepL] at rl
      obtain ⟨v, r', rfl, r1, rfl⟩ := rl
      obtain ⟨a, rfl, h⟩ := asL_allBls sr r1 hb
      exact ⟨a, bs, rfl, SqL.of h, Post.ret (Ra := Rep G) sr (by simp [Rep]) p⟩
    · exact p.elim
  · exact p.elim
theorem o_any (hc : X.calm = true) : CallR X (.builtin "any") (rN G anyD) := by
  refine caI2 (cr_any hc) fun xs H Q q => ?_
  obtain ⟨w, ds, rfl, sr, rl, p⟩ := q
  unfold anyD at p
  split at p
  · split at p
    · rename_i bs hb
      simp only [RepL] at rl
      obtain ⟨v, r', rfl, r1, rfl⟩ := rl
      obtain ⟨a, rfl, h⟩ := asL_allBls sr r1 hb
      exact ⟨a, bs, rfl, SqL.of h, Post.ret (Ra := Rep G) sr (by simp [Rep]) p⟩
    · exact p.elim
  · exact p.elim
theorem o_sum (hc : X.calm = true) : CallR X (.builtin "sum") (rN G sumD) := by
  refine caI2 (cr_sum hc) fun xs H Q q => ?_
  obtain ⟨w, ds, rfl, sr, rl, p⟩ := q
  unfold sumD at p
  split at p
  · split at p
    · rename_i bs hb
      simp only [RepL] at rl
      obtain ⟨v, r', rfl, r1, rfl⟩ := rl
      obtain ⟨a, rfl, h⟩ := asL_allInts sr r1 hb
      exact ⟨a, bs, rfl, SqL.of h, Post.ret (Ra := Rep G) sr (by simp [Rep]) p⟩
    · exact p.elim
  · exact p.elim
def maxI : List Int → Option Int
  | [] => none
  | n :: ns => some (ns.foldl (fun m x => if x > m then x else m) n)
def minI : List Int → Option Int
  | [] => none
  | n :: ns => some (ns.foldl (fun m x => if x < m then x else m) n)
theorem fold_max : ∀ (ns : List Int) (n : Int), (ns.foldl (fun m x => if x > m then x else m) n = n ∨ ns.foldl (fun m x => if x > m then x else m) n ∈ ns) ∧ n ≤ ns.foldl (fun m x => if x > m then x else m) n ∧ ∀ y ∈ ns, y ≤ ns.foldl (fun m x => if x > m then x else m) n
  | [], n => ⟨.inl rfl, Int.le_refl _, fun y h => by simp at h⟩
  | a :: ns, n => by
    obtain ⟨m, hm⟩ : ∃ m, m = if a > n then a else n := ⟨_, rfl⟩
    have hm' : (n ≤ m ∧ a ≤ m) ∧ (m = a ∨ m = n) := by rw [hm]; split <;> omega
    simp only [List.foldl_cons]
    rw [← hm]
    obtain ⟨h1, h2, h3⟩ := fold_max ns m
    refine ⟨?_, by omega, fun y hy => ?_⟩
    · rcases h1 with h1 | h1
      · rw [h1]
        rcases hm'.2 with e | e
        · exact .inr (by simp [e])
        · exact .inl e
      · exact .inr (by simp [h1])
    · rcases List.mem_cons.mp hy with e | hy
      · subst e; omega
      · exact h3 y hy
theorem fold_min : ∀ (ns : List Int) (n : Int), (ns.foldl (fun m x => if x < m then x else m) n = n ∨ ns.foldl (fun m x => if x < m then x else m) n ∈ ns) ∧ ns.foldl (fun m x => if x < m then x else m) n ≤ n ∧ ∀ y ∈ ns, ns.foldl (fun m x => if x < m then x else m) n ≤ y
  | [], n => ⟨.inl rfl, Int.le_refl _, fun y h => by simp at h⟩
  | a :: ns, n => by
    obtain ⟨m, hm⟩ : ∃ m, m = if a < n then a else n := ⟨_, rfl⟩
    have hm' : (m ≤ n ∧ m ≤ a) ∧ (m = a ∨ m = n) := by rw [hm]; split <;> omega
    simp only [List.foldl_cons]
    rw [← hm]
    obtain ⟨h1, h2, h3⟩ := fold_min ns m
    refine ⟨?_, by omega, fun y hy => ?_⟩
    · rcases h1 with h1 | h1
      · rw [h1]
        rcases hm'.2 with e | e
        · exact .inr (by simp [e])
        · exact .inl e
      · exact .inr (by simp [h1])
    · rcases List.mem_cons.mp hy with e | hy
      · subst e; omega
      · exact h3 y hy
theorem maxI_eq {ns : List Int} {m k : Int} (h : maxI ns = some k) (h1 : m ∈ ns) (h2 : ∀ y ∈ ns, y ≤ m) : m = k := by
  cases ns with
  | nil => cases h
  | cons n ns =>
    cases h
    obtain ⟨a1, a2, a3⟩ := fold_max ns n
    have le1 : ns.foldl (fun m x => if x > m then x else m) n ≤ m := by
      rcases a1 with e | e
      · rw [e]; exact h2 n (by simp)
      · exact h2 _ (by simp [e])
    have le2 : m ≤ ns.foldl (fun m x => if x > m then x else m) n := by
      rcases List.mem_cons.mp h1 with e | e
      · rw [e]; exact a2
      · exact a3 m e
    omega
theorem minI_eq {ns : List Int} {m k : Int} (h : minI ns = some k) (h1 : m ∈ ns) (h2 : ∀ y ∈ ns, m ≤ y) : m = k := by
  cases ns with
  | nil => cases h
  | cons n ns =>
    cases h
    obtain ⟨a1, a2, a3⟩ := fold_min ns n
    have le1 : m ≤ ns.foldl (fun m x => if x < m then x else m) n := by
      rcases a1 with e | e
      · rw [e]; exact h2 n (by simp)
      · exact h2 _ (by simp [e])
    have le2 : ns.foldl (fun m x => if x < m then x else m) n ≤ m := by
      rcases List.mem_cons.mp h1 with e | e
      · rw [e]; exact a2
      · exact a3 m e
    omega
def maxD : FN := fun xs S => match xs with
  | [.int i, .int j] => .ok (.int (if j > i then j else i)) S
  | [x] => match ((asL x S).bind allInts).bind maxI with
    | some m => .ok (.int m) S
    | none => .bad
  | _ => .bad
def minD : FN := fun xs S => match xs with
  | [.int i, .int j] => .ok (.int (if j < i then j else i)) S
  | [x] => match ((asL x S).bind allInts).bind minI with
    | some m => .ok (.int m) S
    | none => .bad
  | _ => .bad
theorem c_max : CalmN maxD := fun xs S => by unfold maxD; repeat' split
                                             all_goals trivial
theorem c_min : CalmN minD := fun xs S => by unfold minD; repeat' split
                                             all_goals trivial
theorem o_max (hc : X.calm = true) : CallR X (.builtin "max") (rN G maxD) := by
  refine caI2 ((call_max2 hc).or (cr_max hc)) fun xs H Q q => ?_
  obtain ⟨w, ds, rfl, sr, rl, p⟩ := q
  unfold maxD at p
  split at p
  · simp only [RepL, Rep] at rl
    obtain ⟨v, r', rfl, rfl, v2, r'', rfl, rfl, rfl⟩ := rl
    exact .inl ⟨_, _, rfl, Post.ret (Ra := Rep G) sr (by simp [Rep]) p⟩
  · split at p
    · rename_i m hm
      simp only [RepL] at rl
      obtain ⟨v, r', rfl, r1, rfl⟩ := rl
      cases h : (asL _ w.S).bind allInts with
      | none => rw [h] at hm; cases hm
      | some ns =>
        rw [h] at hm
        obtain ⟨a, rfl, ha⟩ := asL_allInts sr r1 h
        refine .inr ⟨a, ns, rfl, SqL.of ha, ?_, fun k hk hle => ?_⟩
        · cases ns with
          | nil => cases hm
          | cons _ _ => simp
        · rw [maxI_eq hm hk hle]
          exact Post.ret (Ra := Rep G) sr (by simp [Rep]) p
    · exact p.elim
  · exact p.elim
theorem o_min (hc : X.calm = true) : CallR X (.builtin "min") (rN G minD) := by
  refine caI2 ((call_min2 hc).or (cr_min hc)) fun xs H Q q => ?_
  obtain ⟨w, ds, rfl, sr, rl, p⟩ := q
  unfold minD at p
  split at p
  · simp only [RepL, Rep] at rl
    obtain ⟨v, r', rfl, rfl, v2, r'', rfl, rfl, rfl⟩ := rl
    exact .inl ⟨_, _, rfl, Post.ret (Ra := Rep G) sr (by simp [Rep]) p⟩
  · split at p
    · rename_i m hm
      simp only [RepL] at rl
      obtain ⟨v, r', rfl, r1, rfl⟩ := rl
      cases h : (asL _ w.S).bind allInts with
      | none => rw [h] at hm; cases hm
      | some ns =>
        rw [h] at hm
        obtain ⟨a, rfl, ha⟩ := asL_allInts sr r1 h
        refine .inr ⟨a, ns, rfl, SqL.of ha, ?_, fun k hk hle => ?_⟩
        · cases ns with
          | nil => cases hm
          | cons _ _ => simp
        · rw [minI_eq hm hk hle]
          exact Post.ret (Ra := Rep G) sr (by simp [Rep]) p
    · exact p.elim
  · exact p.elim
def absD : FN := fun xs S => match xs with
  | [.int i] => .ok (.int (if i < 0 then -i else i)) S
  | _ => .bad
def intD : FN := fun xs S => match xs with
  | [.int i] => .ok (.int i) S
  | [.bl k] => .ok (.int (if k then 1 else 0)) S
  | _ => .bad
theorem c_abs : CalmN absD := fun xs S => by unfold absD; repeat' split
                                             all_goals trivial
theorem c_int : CalmN intD := fun xs S => by unfold intD; repeat' split
                                             all_goals trivial
theorem o_abs : CallR X (.builtin "abs") (rN G absD) := by
  refine caI2 call_abs fun xs H Q q => ?_
  obtain ⟨w, ds, rfl, sr, rl, p⟩ := q
  unfold absD at p
  split at p
  · simp only [RepL, Rep] at rl
    obtain ⟨v, r', rfl, rfl, rfl⟩ := rl
    exact ⟨_, rfl, Post.ret (Ra := Rep G) sr (by simp [Rep]) p⟩
  · exact p.elim
theorem o_int : CallR X (.type "int") (rN G intD) := by
  refine caI2 call_int1 fun xs H Q q => ?_
  obtain ⟨w, ds, rfl, sr, rl, p⟩ := q
  unfold intD at p
  split at p
  · simp only [RepL, Rep] at rl
    obtain ⟨v, r', rfl, rfl, rfl⟩ := rl
    exact .inl ⟨_, rfl, Post.ret (Ra := Rep G) sr (by simp [Rep]) p⟩
  · simp only [RepL, Rep] at rl
    obtain ⟨v, r', rfl, rfl, rfl⟩ := rl
    exact .inr ⟨_, rfl, Post.ret (Ra := Rep G) sr (by simp [Rep]) p⟩
  · exact p.elim
def tupleD : FN := fun xs S => match xs with
  | [.tup l] => .ok (.tup l) S
  | [x] => match asL x S with
    | some l => .ok (.tup l) S
    | none => .bad
  | _ => .bad
def listD : FN := fun xs S => match xs with
  | [.tup l] => .ok (.lst l) S
  | [.scr ns] => .ok (.lst (ns.map .int)) S
  | [x] => match asL x S with
    | some l => .ok (.lst l) S
    | none => .bad
  | _ => .bad
theorem c_tuple : CalmN tupleD := fun xs S => by unfold tupleD; repeat' split
                                                 all_goals trivial
theorem c_list : CalmN listD := fun xs S => by unfold listD; repeat' split
                                               all_goals trivial
theorem o_tuple (hK : X.K = G.K) : CallR X (.type "tuple") (rN G tupleD) := by
  refine caI2 call_tuple_of fun xs H Q q => ?_
  obtain ⟨w, ds, rfl, sr, rl, p⟩ := q
  unfold tupleD at p
  split at p
  · simp only [RepL] at rl
    obtain ⟨v, r', rfl, r1, rfl⟩ := rl
    have r1' := r1
    simp only [Rep] at r1
    obtain ⟨a, vs, rfl, h1, r2⟩ := r1
    exact ⟨a, vs, rfl, .inr ⟨by rw [hK]; exact SqT_of h1, Post.ret (Ra := Rep G) sr r1' p⟩⟩
  · split at p
    · rename_i l hl
      simp only [RepL] at rl
      obtain ⟨v, r', rfl, r1, rfl⟩ := rl
      obtain ⟨a, vs, rfl, h1, r2⟩ := asL_rep sr r1 hl
      exact ⟨a, vs, rfl, .inl ⟨SqL.of h1, fun p' hp' => new_tup sr r2 p p' hp'⟩⟩
    · exact p.elim
  · exact p.elim
theorem o_list (hK : X.K = G.K) : CallR X (.type "list") (rN G listD) := by
  refine caI2 call_list_of fun xs H Q q => ?_
  obtain ⟨w, ds, rfl, sr, rl, p⟩ := q
  unfold listD at p
  split at p
  · simp only [RepL, Rep] at rl
    obtain ⟨v, r', rfl, ⟨a, vs, rfl, h1, r2⟩, rfl⟩ := rl
    exact ⟨a, vs, rfl, .inr (by rw [hK]; exact SqT_of h1), fun p' hp' => new_lst (S := w.S) sr r2 p p' hp'⟩
  · simp only [RepL, Rep] at rl
    obtain ⟨v, r', rfl, ⟨a, rfl, h1⟩, rfl⟩ := rl
    exact ⟨a, _, rfl, .inl (by rw [hK]; exact h1.imp (fun z => z.1) id), fun p' hp' => new_lst (S := w.S) sr (RepL_ints.mpr rfl) p p' hp'⟩
  · split at p
    · rename_i l hl
      simp only [RepL] at rl
      obtain ⟨v, r', rfl, r1, rfl⟩ := rl
      obtain ⟨a, vs, rfl, h1, r2⟩ := asL_rep sr r1 hl
      exact ⟨a, vs, rfl, .inl (SqL.of h1), fun p' hp' => new_lst (S := w.S) sr r2 p p' hp'⟩
    · exact p.elim
  · exact p.elim
end
end L3
set_option Elab.async false
set_option linter.all false
set_option maxRecDepth 100000
/-! L3K: displays, and | or | not as values, chains, methods, stores, targets. -/
namespace L3
open PySem PySem.Spec PyProof.Rows L2

section
variable {G : GC} {X : Cx} {Wx : WX} {pos : Pos} {w : Wd}
theorem c_mkTup : CalmN mkTup := fun xs S => by unfold mkTup; split <;> trivial
theorem c_mkLst : CalmN mkLst := fun xs S => by unfold mkLst; split <;> trivial
theorem q_tup {es : List Expr} {x1} {m : AD} (h : PA X es (tA G m Wx)) : PE X (.Tuple es x1 pos) (tE G (eN mkTup m) Wx) := peI (pe_tup h) fun σ H Q q => by
  obtain ⟨w, env, rfl, sr, er, p⟩ := q
  refine ⟨w, env, rfl, sr, er, (Post.bind (Ra := RepL G) p).mono (fun x H1 m => ?_) fun _ _ _ h => h⟩
  obtain ⟨w1, d1, rfl, x1, s1, rp1, p1⟩ := m
  unfold mkTup at p1
  split at p1
  · exact ⟨by rw [rp1.length]; assumption, fun p' hp' => new_tup s1 rp1 p1 p' hp'⟩
  · exact p1.elim
theorem q_lst {es : List Expr} {m : AD} (h : PA X es (tA G m Wx)) : PE X (.List es pos) (tE G (eN mkLst m) Wx) := peI (pe_lst h) fun σ H Q q => by
  obtain ⟨w, env, rfl, sr, er, p⟩ := q
  refine ⟨w, env, rfl, sr, er, (Post.bind (Ra := RepL G) p).mono (fun x H1 m => ?_) fun _ _ _ h => h⟩
  obtain ⟨w1, d1, rfl, x1, s1, rp1, p1⟩ := m
  unfold mkLst at p1
  split at p1
  · exact ⟨by rw [rp1.length]; assumption, fun p' hp' => new_lst (S := w1.S) s1 rp1 p1 p' hp'⟩
  · exact p1.elim
theorem q_obj {es : List Expr} {m : AD} (h : PA X es (tA G m Wx)) : PE X (.List es pos) (tE G (eN mkObj m) Wx) := peI (pe_lst h) fun σ H Q q => by
  obtain ⟨w, env, rfl, sr, er, p⟩ := q
  refine ⟨w, env, rfl, sr, er, (Post.bind (Ra := RepL G) p).mono (fun x H1 m => ?_) fun _ _ _ h => h⟩
  obtain ⟨w1, d1, rfl, x1, s1, rp1, p1⟩ := m
  unfold mkObj at p1
  split at p1
  · exact ⟨by rw [rp1.length]; assumption, fun p' hp' => new_lobj s1 rp1 p1 p' hp'⟩
  · exact p1.elim
theorem q_ifExp {c a b : Expr} {mc : TD} {ma mb : ED} (hc : PT X c (tT G mc Wx)) (ha : PE X a (tE G ma Wx)) (hb : PE X b (tE G mb Wx)) : PE X (.IfExp c a b pos) (tE G (eIf mc ma mb) Wx) := peI (pe_ifExp hc ha hb) fun σ H Q q => by
  obtain ⟨w, env, rfl, sr, er, p⟩ := q
  refine ⟨w, env, rfl, sr, er, (Post.bind (Ra := fun _ (a b : Bool) => a = b) p).mono (fun x H1 m => ?_) fun _ _ _ h => h⟩
  obtain ⟨w1, d1, rfl, x1, s1, rp1, p1⟩ := m
  subst rp1
  cases d1 with
  | true => exact iteT ⟨w1, env, rfl, s1, er.mono x1, p1⟩
  | false => exact iteF ⟨w1, env, rfl, s1, er.mono x1, p1⟩
/-- the same truth by its value -/
theorem tOfE_post {a : ED} {β : Type} {env : EnvD} {f : Bool → Store → R D} {Q : VK} {E : Value → Option Addr → Hp → Prop} (p : Post G w ((tOfE a env w.S).bind f) (Rep G) Q E) :
    Post G w (a env w.S) (Rep G) (Mid G w (Rep G) fun w1 d => ∃ k, d = .bl k ∧ Post G w1 (f k w1.S) (Rep G) Q E) E := by
  unfold tOfE at p
  rw [R.bind_assoc] at p
  refine (Post.bind (Ra := Rep G) p).mono (fun x H1 m => ?_) fun _ _ _ h => h
  obtain ⟨w1, d1, rfl, x1, s1, rp1, p1⟩ := m
  refine ⟨w1, d1, rfl, x1, s1, rp1, ?_⟩
  cases d1 with
  | bl k => exact ⟨k, rfl, p1⟩
  | _ => exact p1.elim
theorem q_eone {op} {a : Expr} {m : ED} (h : PE X a (tE G m Wx)) : PE X (.BoolOp op [a] pos) (tE G m Wx) := pe_one h
theorem q_eand {a b : Expr} {rest : List Expr} {ma mb : ED} (ha : PE X a (tE G ma Wx)) (hb : PE X (.BoolOp .And (b :: rest) pos) (tE G mb Wx)) : PE X (.BoolOp .And (a :: b :: rest) pos) (tE G (eAnd ma mb) Wx) := peI (pe_and ha hb) fun σ H Q q => by
  obtain ⟨w, env, rfl, sr, er, p⟩ := q
  refine ⟨w, env, rfl, sr, er, (tOfE_post (β := D) p).mono (fun x H1 m => ?_) fun _ _ _ h => h⟩
  obtain ⟨w1, d1, rfl, x1, s1, rp1, k, rfl, p1⟩ := m
  simp only [Rep] at rp1
  refine ⟨k, rp1, ?_⟩
  cases k with
  | true => exact iteT ⟨w1, env, rfl, s1, er.mono x1, p1⟩
  | false => exact iteF (Post.ret (Ra := Rep G) s1 (by simp [Rep]) p1)
theorem q_eor {a b : Expr} {rest : List Expr} {ma mb : ED} (ha : PE X a (tE G ma Wx)) (hb : PE X (.BoolOp .Or (b :: rest) pos) (tE G mb Wx)) : PE X (.BoolOp .Or (a :: b :: rest) pos) (tE G (eOr ma mb) Wx) := peI (pe_or ha hb) fun σ H Q q => by
  obtain ⟨w, env, rfl, sr, er, p⟩ := q
  refine ⟨w, env, rfl, sr, er, (tOfE_post (β := D) p).mono (fun x H1 m => ?_) fun _ _ _ h => h⟩
  obtain ⟨w1, d1, rfl, x1, s1, rp1, k, rfl, p1⟩ := m
  simp only [Rep] at rp1
  refine ⟨k, rp1, ?_⟩
  cases k with
  | true => exact iteT (Post.ret (Ra := Rep G) s1 (by simp [Rep]) p1)
  | false => exact iteF ⟨w1, env, rfl, s1, er.mono x1, p1⟩
theorem q_enot {a : Expr} {ma : ED} (ha : PE X a (tE G ma Wx)) : PE X (.UnaryOp .Not a pos) (tE G (eNot ma) Wx) := peI (pe_not ha) fun σ H Q q => by
  obtain ⟨w, env, rfl, sr, er, p⟩ := q
  refine ⟨w, env, rfl, sr, er, (tOfE_post (β := D) p).mono (fun x H1 m => ?_) fun _ _ _ h => h⟩
  obtain ⟨w1, d1, rfl, x1, s1, rp1, k, rfl, p1⟩ := m
  simp only [Rep] at rp1
  exact ⟨k, rp1, Post.ret (Ra := Rep G) s1 (by simp [Rep]) p1⟩
theorem imp_chain {f g : F2} {a b c : ED} (cf : Calm2 f) (cg : Calm2 g) : ∀ σ H Q, tE G (eChain f g a b c) Wx σ H Q → tChain (r2 G f) (r2 G g) (tE G a Wx) (tE G b Wx) (tE G c Wx) σ H Q := by
  intro σ H Q q
  obtain ⟨w, env, rfl, sr, er, p⟩ := q
  refine ⟨w, env, rfl, sr, er, (Post.bind (Ra := Rep G) p).mono (fun x H1 m => ?_) fun _ _ _ h => h⟩
  obtain ⟨w1, d1, rfl, x1, s1, rp1, p1⟩ := m
  refine ⟨w1, env, rfl, s1, er.mono x1, (Post.bind (Ra := Rep G) p1).mono (fun y H2 m => ?_) fun _ _ _ h => h⟩
  obtain ⟨w2, d2, rfl, x2, s2, rp2, p2⟩ := m
  refine ⟨w2, d1, d2, rfl, s2, Rep.mono x2 _ _ rp1, rp2, ((Post.bind (Ra := Rep G) p2).mono (fun z H3 m => ?_) fun _ _ _ h => h).calm (cf _ _ _)⟩
  obtain ⟨w3, d3, rfl, x3, s3, rp3, p3⟩ := m
  cases d3 with
  | bl k =>
    simp only [Rep] at rp3
    refine ⟨k, rp3, ?_⟩
    cases k with
    | false => exact iteF (Post.ret (Ra := Rep G) s3 (by simp [Rep]) p3)
    | true =>
      refine iteT ⟨w3, env, rfl, s3, ((er.mono x1).mono x2).mono x3, (Post.bind (Ra := Rep G) p3).mono (fun z H4 m => ?_) fun _ _ _ h => h⟩
      obtain ⟨w4, d4, rfl, x4, s4, rp4, p4⟩ := m
      exact ⟨w4, d2, d4, rfl, s4, Rep.mono (WX'.trans x3 x4) _ _ rp2, rp4, p4.calm (cg _ _ _)⟩
  | _ => exact p3.elim
theorem q_chain {op op' : CmpOp} {f g : F2} {a b c : Expr} {ma mb mc : ED} (ho : OpR X (compareOp op) (r2 G f)) (cf : Calm2 f) (ho' : OpR X (compareOp op') (r2 G g)) (cg : Calm2 g) (ha : PE X a (tE G ma Wx)) (hb : PE X b (tE G mb Wx)) (hc : PE X c (tE G mc Wx))
    (hm : lastMarks [op, op'] [b, c] = false := by with_unfolding_all rfl) : PE X (.Compare a [op, op'] [b, c] pos) (tE G (eChain f g ma mb mc) Wx) := peI (pe_chain ho ho' ha hb hc hm) (imp_chain cf cg)
theorem q_tchain {op op' : CmpOp} {f g : F2} {a b c : Expr} {ma mb mc : ED} (ho : OpR X (compareOp op) (r2 G f)) (cf : Calm2 f) (ho' : OpR X (compareOp op') (r2 G g)) (cg : Calm2 g) (ha : PE X a (tE G ma Wx)) (hb : PE X b (tE G mb Wx)) (hc : PE X c (tE G mc Wx))
    (hm : lastMarks [op, op'] [b, c] = false := by with_unfolding_all rfl) : PT X (.Compare a [op, op'] [b, c] pos) (tT G (tOfE (eChain f g ma mb mc)) Wx) := ptI (pt_chain ho ho' ha hb hc hm) fun σ H Q q => by
  obtain ⟨w, env, rfl, sr, er, p⟩ := q
  refine imp_chain cf cg σ w.H _ ⟨w, env, rfl, sr, er, (Post.bind (Ra := Rep G) p).mono (fun x H1 m => ?_) fun _ _ _ h => h⟩
  obtain ⟨w1, d1, rfl, x1, s1, rp1, p1⟩ := m
  cases d1 with
  | bl k =>
    simp only [Rep] at rp1
    exact ⟨k, rp1, Post.ret (Ra := fun _ (a b : Bool) => a = b) s1 rfl p1⟩
  | _ => exact p1.elim
/-- a comparison as a test -/
theorem q_tcmp {op : CmpOp} {f : F2} {a b : Expr} {ma mb : ED} (ho : OpR X (compareOp op) (r2 G f)) (c : Calm2 f) (ha : PE X a (tE G ma Wx)) (hb : PE X b (tE G mb Wx)) (hm : behindInMarks op b = false) : PT X (.Compare a [op] [b] pos) (tT G (tOfE (e2 f ma mb)) Wx) :=
  ptI (pt_cmpR ho ha hb hm) fun σ H Q q => by
    obtain ⟨w, env, rfl, sr, er, p⟩ := q
    refine imp_e2 c σ w.H _ ⟨w, env, rfl, sr, er, (Post.bind (Ra := Rep G) p).mono (fun x H1 m => ?_) fun _ _ _ h => h⟩
    obtain ⟨w1, d1, rfl, x1, s1, rp1, p1⟩ := m
    cases d1 with
    | bl k =>
      simp only [Rep] at rp1
      exact ⟨k, rp1, Post.ret (Ra := fun _ (a b : Bool) => a = b) s1 rfl p1⟩
    | _ => exact p1.elim
theorem q_truth {e : Expr} {m : ED} (hK : X.K = G.K) (h : PE X e (tE G m Wx)) (he : ∀ whole, isTrue e X.env whole = (do let v ← whole; standAt e.pos; holding [v] (truthy v)) := by intro _; rfl) : PT X e (tT G (tTruth m) Wx) := ptI (pt_truth h he) fun σ H Q q => by
  obtain ⟨w, env, rfl, sr, er, p⟩ := q
  refine ⟨w, env, rfl, sr, er, (Post.bind (Ra := Rep G) p).mono (fun x H1 m => ?_) fun _ _ _ h => h⟩
  obtain ⟨w1, d1, rfl, x1, s1, rp1, p1⟩ := m
  have fin : ∀ {k : Bool}, Post G w1 (.ok k w1.S) (fun _ (a b : Bool) => a = b) Q (fun C dx H' => Wx C dx σ H') → Q k w1.H := fun {k} p => Post.ret (Ra := fun _ (a b : Bool) => a = b) s1 rfl p
  have emp : ∀ {l : List D} {vs : List V}, RepL G w1 l vs → (!l.isEmpty) = !vs.isEmpty := fun {l vs} r => by
    have := r.length
    cases l <;> cases vs <;> simp_all
  cases d1 with
  | non => simp only [Rep] at rp1; subst rp1; exact ⟨false, rfl, fin p1⟩
  | bl b => simp only [Rep] at rp1; subst rp1; exact ⟨b, rfl, fin p1⟩
  | int i => simp only [Rep] at rp1; subst rp1; exact ⟨_, rfl, fin p1⟩
  | str s =>
    simp only [Rep] at rp1; subst rp1
    simp only [truthD] at p1
    split at p1
    · rename_i hz
      refine ⟨s.length != 0, ⟨hz, ?_⟩, fin p1⟩
      cases s.length <;> rfl
    · exact p1.elim
  | tup l =>
    simp only [Rep] at rp1
    obtain ⟨a, vs, rfl, h1, r1⟩ := rp1
    exact ⟨_, .inr (.inl ⟨vs, by rw [hK]; exact SqT_of h1, emp r1⟩), fin p1⟩
  | lst l =>
    simp only [Rep] at rp1
    obtain ⟨a, vs, rfl, h1, _, r1⟩ := rp1
    exact ⟨_, .inl ⟨vs, SqL.of h1, emp r1⟩, fin p1⟩
  | obj n =>
    simp only [truthD] at p1
    split at p1
    · rename_i l hn
      obtain ⟨a, vs, rfl, h1, r1⟩ := asL_rep (l := l) s1 rp1 (by simp [asL, hn])
      exact ⟨_, .inl ⟨vs, SqL.of h1, emp r1⟩, fin p1⟩
    · exact p1.elim
  | _ => exact p1.elim

/-! ### methods of built-in types -/
/-- a receiver's type -/
def mtD (x : D) (S : Store) : Option String := match x with
  | .str _ => some "str"
  | .lst _ => some "list"
  | .dic _ _ => some "dict"
  | .obj n => match S[n]? with
    | some (.lst _) => some "list"
    | some (.dK _) => some "dict"
    | some (.dT _) => some "dict"
    | _ => none
  | _ => none
def eBM (T : String) (f : D → FN) (o : ED) (a : AD) : ED := fun env S => (o env S).bind fun x S1 => if mtD x S1 = some T then (a env S1).bind fun xs S2 => f x xs S2 else .bad
theorem tyv {x : D} {v : V} {T : String} (sr : SRep G w) (r : Rep G w x v) (e : mtD x w.S = some T) : tyV G.K T v w.H := by
  cases x with
  | str s => simp only [Rep] at r; cases e; subst r; exact rfl
  | lst l =>
    simp only [Rep] at r
    cases e
    obtain ⟨a, vs, rfl, h1, _⟩ := r
    exact .inl ⟨rfl, vs, SqL.of h1⟩
  | dic ks l =>
    simp only [Rep] at r
    cases e
    obtain ⟨a, vs, rfl, h1, _⟩ := r
    exact .inr (.inr (.inl ⟨rfl, .inl ⟨_, h1⟩⟩))
  | obj n =>
    simp only [Rep] at r
    obtain ⟨a, hm, rfl⟩ := r
    simp only [mtD] at e
    split at e
    · rename_i l hn
      cases e
      obtain ⟨vs, h1, _⟩ := sr.obj n _ a hn hm
      exact .inl ⟨rfl, vs, SqL.of h1⟩
    · rename_i l hn
      cases e
      obtain ⟨vs, h1, _⟩ := sr.obj n _ a hn hm
      exact .inr (.inr (.inl ⟨rfl, .inl ⟨_, h1⟩⟩))
    · rename_i l hn
      cases e
      obtain ⟨vs, h1, _⟩ := sr.obj n _ a hn hm
      exact .inr (.inr (.inl ⟨rfl, .inr ⟨_, h1⟩⟩))
    · cases e
  | _ => cases e
theorem q_bm {o e : Expr} {es : List Expr} {name : Str} {apos cpos : Pos} {T id : String} {f : D → FN} {mo : ED} {ma : AD} (hK : X.K = G.K) (pa : PlainAttrs T) (slot : Slot T name id) (hty : typeOf (.builtin id) = pure (.type "method_descriptor")) (hm : MtR X id (rM G f)) (c : CalmM f) (ho : PE X o (tE G mo Wx)) (ha : PA X (e :: es) (tA G ma Wx))
    (hbase : attributeBase o name X.env (eval o X.env) = eval o X.env := by rfl)
    (hfew : ((backTo cpos (starEach (e :: es) X.env)).all (fun x => !x.1) && (backToKw cpos (keywordEach [] X.env)).all (fun x => x.1.isSome)
      && decide ((e :: es).length + ([] : List Keyword).length + (if ([] : List Keyword).isEmpty then 0 else 1) < 30)) = true := by rfl)
    (hline : (apos.endLine == cpos.line) = true := by rfl) (hs : starEach (e :: es) X.env = (false, eval e X.env) :: starEach es X.env := by rfl) (hplain : (backTo cpos (starEach es X.env)).any (·.1) = false := by rfl) :
    PE X (.Call (.Attribute o name apos) (e :: es) [] cpos) (tE G (eBM T f mo ma) Wx) := peI (pe_bm pa slot hty hm ho ha hbase hfew hline hs hplain) fun σ H Q q => by
  obtain ⟨w, env, rfl, sr, er, p⟩ := q
  refine ⟨w, env, rfl, sr, er, (Post.bind (Ra := Rep G) p).mono (fun x H1 m => ?_) fun _ _ _ h => h⟩
  obtain ⟨w1, d1, rfl, x1, s1, rp1, p1⟩ := m
  split at p1
  · rename_i ht
    refine ⟨by rw [hK]; exact tyv s1 rp1 ht, w1, env, rfl, s1, er.mono x1, (Post.bind (Ra := RepL G) p1).mono (fun x H1 m => ?_) fun _ _ _ h => h⟩
    obtain ⟨w2, d2, rfl, x2, s2, rp2, p2⟩ := m
    exact ⟨w2, d1, d2, rfl, s2, Rep.mono x2 _ _ rp1, rp2, p2.calm (c _ _ _)⟩
  · exact p1.elim
theorem q_bm0 {o : Expr} {name : Str} {apos cpos : Pos} {T id : String} {f : D → FN} {mo : ED} (hK : X.K = G.K) (pa : PlainAttrs T) (slot : Slot T name id) (hty : typeOf (.builtin id) = pure (.type "method_descriptor")) (hm : MtR X id (rM G f)) (c : CalmM f) (ho : PE X o (tE G mo Wx))
    (hbase : attributeBase o name X.env (eval o X.env) = eval o X.env := by rfl) (hline : (apos.endLine == cpos.line) = true := by rfl) : PE X (.Call (.Attribute o name apos) [] [] cpos) (tE G (eBM T f mo aNil) Wx) := peI (pe_bm0 pa slot hty hm ho hbase hline) fun σ H Q q => by
  obtain ⟨w, env, rfl, sr, er, p⟩ := q
  refine ⟨w, env, rfl, sr, er, (Post.bind (Ra := Rep G) p).mono (fun x H1 m => ?_) fun _ _ _ h => h⟩
  obtain ⟨w1, d1, rfl, x1, s1, rp1, p1⟩ := m
  split at p1
  · rename_i ht
    exact ⟨by rw [hK]; exact tyv s1 rp1 ht, w1, d1, [], rfl, s1, rp1, by simp [RepL], p1.calm (c _ _ _)⟩
  · exact p1.elim
/-- what stands in the store at n -/
def lstAt (x : D) (S : Store) : Option (Nat × List D) := match x with
  | .obj n => match S[n]? with
    | some (.lst l) => some (n, l)
    | _ => none
  | _ => none
theorem lstAt_rep {x : D} {v : V} {n : Nat} {l : List D} (sr : SRep G w) (r : Rep G w x v) (e : lstAt x w.S = some (n, l)) : ∃ a vs, v = .ref a ∧ w.S[n]? = some (.lst l) ∧ w.mu[n]? = some a ∧ w.H a = some (.lst vs) ∧ RepL G w l vs := by
  cases x with
  | obj m =>
    simp only [Rep] at r
    obtain ⟨a, hm, rfl⟩ := r
    simp only [lstAt] at e
    split at e
    · rename_i l' hn
      cases e
      obtain ⟨vs, h1, h2⟩ := sr.obj _ _ a hn hm
      exact ⟨a, vs, rfl, hn, hm, h1, h2⟩
    · cases e
  | _ => cases e
/-- a list of the store changes -/
theorem set_lst {n : Nat} {a : Addr} {l l' : List D} {vs' : List V} {d : D} {y : V} {Q : VK} {E : Value → Option Addr → Hp → Prop} (sr : SRep G w) (hn : w.S[n]? = some (.lst l)) (ha : w.mu[n]? = some a) (rl : RepL G w l' vs') (rd : Rep G w d y)
    (p : Post G w (.ok d (w.S.set n (.lst l'))) (Rep G) Q E) : Q y (upd w.H a (.lst vs')) := by
  obtain ⟨x, s⟩ := set_obj (ob' := .lst l') (o := .lst vs') sr hn trivial ha fun w' x e => ⟨vs', e, RepL.mono x _ _ rl⟩
  exact p y _ x rfl s (Rep.mono x _ _ rd)
def appendD : D → FN := fun x xs S => match lstAt x S, xs with
  | some (n, l), [y] => if l.length < sizeLine then .ok .non (S.set n (.lst (l ++ [y]))) else .bad
  | _, _ => .bad
theorem c_append : CalmM appendD := fun x xs S => by unfold appendD; repeat' split
                                                     all_goals trivial
theorem o_append : MtR X "list.append" (rM G appendD) := mtI2 mt_append fun x xs H Q q => by
  obtain ⟨w, d, ds, rfl, sr, r1, rl, p⟩ := q
  unfold appendD at p
  split at p
  · rename_i n l y he
    split at p
    · rename_i hz
      obtain ⟨a, vs, rfl, hn, hm, h1, h2⟩ := lstAt_rep sr r1 he
      simp only [RepL] at rl
      obtain ⟨v, r', rfl, ry, rfl⟩ := rl
      exact ⟨a, vs, v, rfl, rfl, h1, by rw [h2.length]; exact hz, set_lst sr hn hm (h2.append (RepL.one ry)) (by simp [Rep]) p⟩
    · exact p.elim
  · exact p.elim

/-! ### o[i] = v -/
def putD {κ : Type} [DecidableEq κ] (kvs : List (κ × D)) (k : κ) (v : D) : List (κ × D) :=
  if (kvs.any fun kv => decide (kv.1 = k)) = true then kvs.map (fun kv => if kv.1 = k then (kv.1, v) else kv) else kvs ++ [(k, v)]
theorem any_put {κ : Type} [DecidableEq κ] (k : κ) : ∀ {kvs : List (κ × D)} {vs : List (κ × V)}, RepKV G w kvs vs → (kvs.any fun kv => decide (kv.1 = k)) = (vs.any fun kv => decide (kv.1 = k))
  | [], vs, h => by
    have : vs = [] := h
    subst this; rfl
  | p :: r, vs, h => by
    obtain ⟨v, y, rfl, h1, h2⟩ := h
    simp only [List.any_cons, any_put k h2]
theorem map_put {κ : Type} [DecidableEq κ] {d : D} {v : V} (k : κ) (rv : Rep G w d v) : ∀ {kvs : List (κ × D)} {vs : List (κ × V)}, RepKV G w kvs vs →
    RepKV G w (kvs.map (fun kv => if kv.1 = k then (kv.1, d) else kv)) (vs.map (fun kv => if kv.1 = k then (kv.1, v) else kv))
  | [], vs, h => by
    have : vs = [] := h
    subst this; rfl
  | p :: r, vs, h => by
    obtain ⟨u, y, rfl, h1, h2⟩ := h
    simp only [List.map_cons]
    by_cases e : p.1 = k
    · rw [if_pos e, if_pos e]; exact ⟨v, _, rfl, rv, map_put k rv h2⟩
    · rw [if_neg e, if_neg e]; exact ⟨u, _, rfl, h1, map_put k rv h2⟩
theorem RepKV.append {κ : Type} : ∀ {a b : List (κ × D)} {x y : List (κ × V)}, RepKV G w a x → RepKV G w b y → RepKV G w (a ++ b) (x ++ y)
  | [], _, x, _, h, h' => by
    have : x = [] := h
    subst this; exact h'
  | p :: r, b, x, y, h, h' => by
    obtain ⟨u, z, rfl, h1, h2⟩ := h
    exact ⟨u, z ++ y, rfl, h1, RepKV.append h2 h'⟩
theorem RepKV.put {κ : Type} [DecidableEq κ] {kvs : List (κ × D)} {vs : List (κ × V)} {d : D} {v : V} (k : κ) (h : RepKV G w kvs vs) (rv : Rep G w d v) : RepKV G w (putD kvs k d) (putK vs k v) := by
  unfold putD putK
  rw [any_put k h]
  split
  · exact map_put k rv h
  · exact h.append ⟨v, [], rfl, rv, rfl⟩
def setD (o i v : D) (S : Store) : Option Store := match o with
  | .obj n => match S[n]? with
    | some (.lst l) => match i with
      | .int k => match ixN l.length k with
        | some j => some (S.set n (.lst (l.set j v)))
        | none => none
      | _ => none
    | some (.dK kvs) => match keyOf i with
      | some k => if kvs.length < sizeLine then some (S.set n (.dK (putD kvs k v))) else none
      | none => none
    | some (.dT kvs) => match tkOf i with
      | some k => if kvs.length < sizeLine then some (S.set n (.dT (putD kvs k v))) else none
      | none => none
    | _ => none
  | _ => none
def gSub (mo mi : ED) : GD := fun v env S => match mo env S with
  | .ok o S1 => match mi env S1 with
    | .ok i S2 => match setD o i v S2 with
      | some S3 => .nx env S3
      | none => .bad
    | _ => .bad
  | _ => .bad
/-- by values -/
def tSetD (G : GC) : TSet := fun o i v H k => ∃ w d1 d2 d3 S', w.H = H ∧ SRep G w ∧ Rep G w d1 o ∧ Rep G w d2 i ∧ Rep G w d3 v ∧ setD d1 d2 d3 w.S = some S' ∧ ∀ w', WExt w w' → w'.S = S' → SRep G w' → k w'.H
theorem RepKV.len {κ : Type} : ∀ {kvs : List (κ × D)} {vs : List (κ × V)}, RepKV G w kvs vs → vs.length = kvs.length
  | [], vs, h => by
    have : vs = [] := h
    subst this; rfl
  | p :: r, vs, h => by
    obtain ⟨u, y, rfl, h1, h2⟩ := h
    simp [RepKV.len h2]
theorem o_set (hu : X.A.units + 1 < cLine) : PSet X (tSetD G) := by
  intro pins s σ H o i v ov iv u Q I ro ri ru q
  obtain ⟨w, d1, d2, d3, S', rfl, sr, r1, r2, r3, e, k⟩ := q
  unfold setD at e
  split at e
  · rename_i n
    split at e
    · rename_i l hn
      split at e
      · rename_i j
        split at e
        · rename_i jj hj
          cases e
          simp only [Rep] at r1 r2
          obtain ⟨a, hm, rfl⟩ := r1
          obtain ⟨vs, h1, h2⟩ := sr.obj n _ a hn hm
          refine set_list pins s σ w.H (.ref a) i v ov iv u Q I ro ri ru ⟨a, vs, j, jj, rfl, r2, h1, by rw [h2.length]; exact hj, ?_⟩
          obtain ⟨x, s'⟩ := set_obj (ob' := .lst (l.set jj d3)) (o := .lst (vs.set jj v)) sr hn trivial hm fun w' x e => ⟨_, e, RepL.mono x _ _ (h2.set jj r3)⟩
          exact k _ x rfl s'
        · cases e
      · cases e
    · rename_i kvs hn
      split at e
      · rename_i kk hk
        split at e
        · rename_i hz
          cases e
          have ek := keyOf_rep r2 hk
          subst ek
          simp only [Rep] at r1
          obtain ⟨a, hm, rfl⟩ := r1
          obtain ⟨vs, h1, h2⟩ := sr.obj n _ a hn hm
          refine set_dict hu pins s σ w.H (.ref a) (kV kk) v ov iv u Q I ro ri ru ⟨a, _, rfl, DPut.k h1 (by rw [h2.len]; exact hz), ?_⟩
          obtain ⟨x, s'⟩ := set_obj (ob' := .dK (putD kvs kk d3)) (o := .dK (putK vs kk v)) sr hn trivial hm fun w' x e => ⟨_, e, RepKV.mono x _ _ (h2.put kk r3)⟩
          exact k _ x rfl s'
        · cases e
      · cases e
    · rename_i kvs hn
      split at e
      · rename_i kk hk
        split at e
        · rename_i hz
          cases e
          obtain ⟨bb, rfl, eb, _⟩ := tk_rep r2 hk
          simp only [Rep] at r1
          obtain ⟨a, hm, rfl⟩ := r1
          obtain ⟨vs, h1, h2⟩ := sr.obj n _ a hn hm
          refine set_dict hu pins s σ w.H (.ref a) (.ref bb) v ov iv u Q I ro ri ru ⟨a, _, rfl, DPut.t h1 eb (by rw [h2.len]; exact hz), ?_⟩
          obtain ⟨x, s'⟩ := set_obj (ob' := .dT (putD kvs kk d3)) (o := .dT (putK vs kk v)) sr hn trivial hm fun w' x e => ⟨_, e, RepKV.mono x _ _ (h2.put kk r3)⟩
          exact k _ x rfl s'
        · cases e
      · cases e
    · cases e
  · cases e
theorem q_gsub {o i : Expr} {mo mi : ED} (hu : X.A.units + 1 < cLine) (ho : PE X o (tE G mo Wx)) (hi : PE X i (tE G mi Wx))
    (ha : ∀ v, assign (.Subscript o i pos) X.env v = (do
      let ov ← holding [v] (eval o X.env)
      let iv ← holding [v, ov] (eval i X.env)
      standAt pos
      holding [v, ov, iv] (setItem ov iv v)
      release [v, ov, iv] []) := by intro _; rfl) : PG X (.Subscript o i pos) (tG G (gSub mo mi)) := pgI (pg_sub ho hi (o_set hu) ha) fun v σ H Q q => by
  obtain ⟨w, env, d, rfl, sr, er, rp, p⟩ := q
  unfold gSub at p
  cases h1 : mo env w.S with
  | ok o S1 =>
    rw [h1] at p
    refine ⟨w, env, rfl, sr, er, ?_⟩
    rw [h1]
    intro vo w1 x1 e1 s1 ro
    subst e1
    simp only at p
    cases h2 : mi env w1.S with
    | ok i S2 =>
      rw [h2] at p
      refine ⟨w1, env, rfl, s1, er.mono x1, ?_⟩
      rw [h2]
      intro vi w2 x2 e2 s2 ri
      subst e2
      simp only at p
      cases h3 : setD o i d w2.S with
      | some S3 =>
        rw [h3] at p
        refine ⟨w2, o, i, d, S3, rfl, s2, Rep.mono x2 _ _ ro, ri, Rep.mono (WX'.trans x1 x2) _ _ rp, h3, fun w3 x3 e3 s3 => ?_⟩
        exact p σ w3 (WX'.trans (WX'.trans x1 x2) x3) e3 s3 (((er.mono x1).mono x2).mono x3)
      | none => rw [h3] at p; exact p.elim
    | exc _ _ => rw [h2] at p; exact p.elim
    | bad => rw [h2] at p; exact p.elim
  | exc _ _ => rw [h1] at p; exact p.elim
  | bad => rw [h1] at p; exact p.elim
theorem gn_sub {mo mi : ED} : GOk (gSub mo mi) := fun d env S => by
  unfold gSub
  cases mo env S with
  | ok o S1 =>
    simp only
    cases mi env S1 with
    | ok i S2 =>
      simp only
      cases setD o i d S2 with
      | some S3 => exact .inl ⟨_, _, rfl⟩
      | none => exact .inr rfl
    | exc _ _ => exact .inr rfl
    | bad => exact .inr rfl
  | exc _ _ => exact .inr rfl
  | bad => exact .inr rfl

/-! ### a, b = .. -/
theorem gNames_nx : ∀ {is : List Nat} {ds : List D} {env : EnvD} {S : Store}, (∃ env', gNames is ds env S = .nx env' S) ∨ gNames is ds env S = .bad
  | [], [], _, _ => .inl ⟨_, rfl⟩
  | [], _ :: _, _, _ => .inr rfl
  | _ :: _, [], _, _ => .inr rfl
  | i :: is, d :: ds, env, S => gNames_nx (is := is) (ds := ds) (env := env.set i (some d)) (S := S)
def tGs (G : GC) (is : List Nat) : TGs := fun vs σ H Q => ∃ w env ds env', w.H = H ∧ SRep G w ∧ ERep G w env σ ∧ RepL G w ds vs ∧ gNames is ds env w.S = .nx env' w.S ∧ ∀ σ', ERep G w env' σ' → Q σ' H
theorem pgsI {e : List Expr} {t t' : TGs} (h : PGs X e t) (i : ∀ v σ H Q, t' v σ H Q → t v σ H Q) : PGs X e t' := ⟨fun pins s σ H v u Q I r q => h.run pins s σ H v u Q I r (i _ _ _ _ q)⟩
theorem q_gsnil : PGs X [] (tGs G []) := pgsI pgs_nil fun v σ H Q q => by
  obtain ⟨w, env, ds, env', rfl, sr, er, rl, e, k⟩ := q
  cases ds with
  | nil =>
    simp only [RepL] at rl
    cases e
    exact ⟨rl, k σ er⟩
  | cons _ _ => cases e
theorem q_gscons {e : Expr} {es : List Expr} {i : Nat} {is : List Nat} (h1 : PG X e (L2.gName i)) (h2 : PGs X es (tGs G is))
    (hs : (assignEach (e :: es) X.env).map (·.2) = assign e X.env :: (assignEach es X.env).map (·.2) := by rfl) : PGs X (e :: es) (tGs G (i :: is)) := pgsI (pgs_cons h1 h2 hs) fun v σ H Q q => by
  obtain ⟨w, env, ds, env', rfl, sr, er, rl, e, k⟩ := q
  cases ds with
  | nil => cases e
  | cons d ds =>
    simp only [RepL] at rl
    obtain ⟨v, r, rfl, r1, r2⟩ := rl
    exact ⟨v, r, rfl, w, _, ds, env', rfl, sr, er.set i r1, r2, e, k⟩
theorem q_gtup {es : List Expr} {k : Nat} {is : List Nat} (hK : X.K = G.K) (hc : X.calm = true) (h : PGs X es (tGs G is)) (hn : (assignEach es X.env).length = is.length := by rfl) (hst : (assignEach es X.env).findIdx? (·.1) = none := by rfl) :
    PG X (.Tuple es k pos) (tG G (gTup is)) := pgI (pg_tup hc h hn hst) fun v σ H Q q => by
  obtain ⟨w, env, d, rfl, sr, er, rp, p⟩ := q
  cases d with
  | tup l =>
    simp only [Rep] at rp
    obtain ⟨a, vs, rfl, h1, rl⟩ := rp
    simp only [gTup] at p
    have ln : ∀ {is : List Nat} {l : List D} {env env' : EnvD} {S S' : Store}, gNames is l env S = .nx env' S' → l.length = is.length := by
      intro is
      induction is with
      | nil => intro l env env' S S' e; cases l with
        | nil => rfl
        | cons _ _ => cases e
      | cons i is ih => intro l env env' S S' e; cases l with
        | nil => cases e
        | cons d l => simp only [List.length_cons]; rw [ih e]
    rcases gNames_nx (is := is) (ds := l) (env := env) (S := w.S) with ⟨env', e⟩ | e
    · rw [e] at p
      refine ⟨a, vs, rfl, by rw [hK]; exact SqT_of h1, by rw [rl.length]; exact ln e, w, env, l, env', rfl, sr, er, rl, e, fun σ' er' => p σ' w (.refl _) rfl sr er'⟩
    · rw [e] at p; exact p.elim
  | _ => exact p.elim
theorem gn_name {i : Nat} : GOk (gName i) := fun d env S => .inl ⟨_, _, rfl⟩
theorem gn_tup {is : List Nat} : GOk (gTup is) := fun d env S => by
  cases d with
  | tup l =>
    rcases gNames_nx (is := is) (ds := l) (env := env) (S := S) with ⟨env', e⟩ | e
    · exact .inl ⟨env', S, e⟩
    · exact .inr e
  | _ => exact .inr rfl
/-- a, b = x, y: local names -/
def sPar (is : List Nat) (a : AD) : SD := fun env S => (a env S).toS env fun xs S1 => gNames is xs env S1
theorem q_par {i j : Nat} {x y : Str} {a b : Expr} {m : AD} {px py pt : Pos} {kt k2 pt2} (hc : X.calm = true) (hN : X.N.Nodup) (hi : X.N[i]? = some x) (hj : X.N[j]? = some y) (hij : i ≠ j)
    (hx : X.env.scope.names.lookup x = some .local) (hy : X.env.scope.names.lookup y = some .local) (ha : PA X [a, b] (tA G m Wx))
    (hw : swappedStores [.Tuple [.Name x px, .Name y py] kt pt] (.Tuple [a, b] k2 pt2) X.env = pure (some [x, y]))
    (hs : swapsWithSole [.Tuple [.Name x px, .Name y py] kt pt] (.Tuple [a, b] k2 pt2) pos.line X.env = pure false := by rfl) :
    PS X (.Assign [.Tuple [.Name x px, .Name y py] kt pt] (.Tuple [a, b] k2 pt2) pos) (tS G (sPar [i, j] m) Wx) := psI (ps_par hc hN hi hj hij hx hy ha hw hs) fun D σ H q => by
  obtain ⟨w, env, rfl, sr, er, p⟩ := q
  refine ⟨w, env, rfl, sr, er, (PostS.ofR (Ra := RepL G) er p).mono (fun x H1 m => ?_) fun _ _ _ h => h⟩
  obtain ⟨w1, ds, rfl, x1, s1, rl, p1⟩ := m
  match ds, rl with
  | [d1, d2], rl =>
    simp only [RepL] at rl
    obtain ⟨v1, r1, rfl, q1, v2, r2, rfl, q2, rfl⟩ := rl
    exact ⟨v1, v2, rfl, p1 _ w1 (.refl _) rfl s1 (((er.mono x1).set i q1).set j q2)⟩
  | [], _ => exact p1.elim
  | [_], _ => exact p1.elim
  | _ :: _ :: _ :: _, _ => exact p1.elim
theorem q_par3 {i j l : Nat} {x y z : Str} {a b c : Expr} {m : AD} {px py pz pt : Pos} {kt k2 pt2} (hc : X.calm = true) (hN : X.N.Nodup) (hi : X.N[i]? = some x) (hj : X.N[j]? = some y) (hl : X.N[l]? = some z) (hij : i ≠ j) (hil : i ≠ l) (hjl : j ≠ l)
    (hx : X.env.scope.names.lookup x = some .local) (hy : X.env.scope.names.lookup y = some .local) (hz : X.env.scope.names.lookup z = some .local) (ha : PA X [a, b, c] (tA G m Wx))
    (hw : swappedStores [.Tuple [.Name x px, .Name y py, .Name z pz] kt pt] (.Tuple [a, b, c] k2 pt2) X.env = pure (some [x, y, z]))
    (hs : swapsWithSole [.Tuple [.Name x px, .Name y py, .Name z pz] kt pt] (.Tuple [a, b, c] k2 pt2) pos.line X.env = pure false := by rfl) :
    PS X (.Assign [.Tuple [.Name x px, .Name y py, .Name z pz] kt pt] (.Tuple [a, b, c] k2 pt2) pos) (tS G (sPar [i, j, l] m) Wx) := psI (ps_par3 hc hN hi hj hl hij hil hjl hx hy hz ha hw hs) fun D σ H q => by
  obtain ⟨w, env, rfl, sr, er, p⟩ := q
  refine ⟨w, env, rfl, sr, er, (PostS.ofR (Ra := RepL G) er p).mono (fun x H1 m => ?_) fun _ _ _ h => h⟩
  obtain ⟨w1, ds, rfl, x1, s1, rl, p1⟩ := m
  match ds, rl with
  | [d1, d2, d3], rl =>
    simp only [RepL] at rl
    obtain ⟨v1, r1, rfl, q1, v2, r2, rfl, q2, v3, r3, rfl, q3, rfl⟩ := rl
    exact ⟨v1, v2, v3, rfl, p1 _ w1 (.refl _) rfl s1 ((((er.mono x1).set i q1).set j q2).set l q3)⟩
  | [], _ => exact p1.elim
  | [_], _ => exact p1.elim
  | [_, _], _ => exact p1.elim
  | _ :: _ :: _ :: _ :: _, _ => exact p1.elim
end
end L3
namespace L3
open PySem PySem.Spec PyProof.Rows L2
/-! ### callees, constants, names of built-ins -/
structure Cal (P : Program) (w : World) (G : GC) (base : Heap) (k : Nat) (x : Str) (f : Addr) (fd : FuncData) (ps : List Str) (F : FN) : Prop where
  ok : FnG P w G.K G.mg base k f fd ps (spOf G F)
  m : G.mg x = some (.ref f)
  kp : PySem.W.keepIn G.K (.ref f) = true
/-- how the last parameters are filled by defaults -/
def Bnd (G : GC) (fd : FuncData) (ps : List Str) (dds : List D) : Prop := ∃ dvs ds, Vals dvs ds ∧ Binds G.K fd ps ds ∧ ∀ w, RepL G w dds dvs
theorem bnd0 {G : GC} {fd : FuncData} {ps : List Str} (h : Binds G.K fd ps []) : Bnd G fd ps [] := ⟨[], [], .nil, h, fun w => by simp [RepL]⟩
/-- keywords: ds the positional values, es the keywords' values -/
def Kbd (G : GC) (fd : FuncData) (ps : List Str) (n : Nat) (ks : List Str) (gD : List D → List D → List D) : Prop :=
  ∃ g gV, KBn G.K fd ps n ks g gV ∧ ∀ w ds es vs zs, ds.length = n → es.length = ks.length → RepL G w ds vs → RepL G w es zs → RepL G w (gD ds es) (gV vs zs)
def GRep (G : GC) (x : Str) (d : D) : Prop := ∃ u v, G.mg x = some u ∧ RelV v u ∧ ∀ w, Rep G w d v
def kwK (F : FN) (n m : Nat) (gD : List D → List D → List D) : List D → FN := fun xs zs S => if xs.length = n ∧ zs.length = m then F (gD xs zs) S else .bad
/-- f(.., k = v): positional values, then the keywords' -/
def eKw (f : List D → FN) (a b : AD) : ED := fun env S => (a env S).bind fun xs S1 => (b env S1).bind fun zs S2 => f xs zs S2
theorem u65 {k : Nat} {A : Around} (h : RoomG k A) : A.units + 65 < cLine := by have := h.rm.un; omega
theorem u150 {k : Nat} {A : Around} (h : RoomG k A) : A.units + 150 < cLine := by have := h.rm.un; omega
theorem u1 {k : Nat} {A : Around} (h : RoomG k A) : A.units + 1 < cLine := by have := h.rm.un; omega
section
variable {X : Cx} {G : GC} {Wx : WX} {pos p : Pos} {k : Nat} {f : Addr} {fd : FuncData} {ps : List Str} {F : FN} {x : Str} {e : Expr} {es : List Expr} {dds : List D} {m : AD} {P : Program} {w : World} {base : Heap}
/-- a call by place -/
theorem q_fn (c : Cal X.prog X.w G X.base k x f fd ps F) (b : Bnd G fd ps dds) (hr : RoomG k X.A) (hK : X.K = G.K) (hm : X.mg = G.mg) (hg : Gl X x) (tk : Takes X Wx)
    (ha : PA X (e :: es) (tA G m Wx)) (hdb : (x == ("__debug__" : Str)) = false := by decide) (he : starEach (e :: es) X.env = (false, eval e X.env) :: starEach es X.env := by rfl) (hpl : (backTo pos (starEach es X.env)).any (·.1) = false := by rfl) :
    PE X (.Call (.Name x p) (e :: es) [] pos) (tE G (eN (callK F dds) m) Wx) := by
  obtain ⟨dvs, ds, h1, h2, h3⟩ := b
  exact q_call (by rw [hK, hm]; exact c.ok) hr hg (by rw [hm]; exact c.m) (by rw [hK]; exact c.kp) (by rw [hK]; exact h2) h1 h3 tk ha hdb he hpl
theorem q_fn0 (c : Cal X.prog X.w G X.base k x f fd ps F) (b : Bnd G fd ps dds) (hr : RoomG k X.A) (hK : X.K = G.K) (hm : X.mg = G.mg) (hg : Gl X x) (tk : Takes X Wx)
    (hdb : (x == ("__debug__" : Str)) = false := by decide) : PE X (.Call (.Name x p) [] [] pos) (tE G (eN (callK F dds) aNil) Wx) := by
  obtain ⟨dvs, ds, h1, h2, h3⟩ := b
  exact q_call0 (by rw [hK, hm]; exact c.ok) hr hg (by rw [hm]; exact c.m) (by rw [hK]; exact c.kp) (by rw [hK]; exact h2) h1 h3 tk hdb
/-- a call of a name that holds the def x -/
def eFnL (i : Nat) (x : Str) (F : FN) (a : AD) : ED := fun env S => match env[i]? with
  | some (some (.glb y)) => if y = x then (a env S).bind fun xs S1 => F xs S1 else .bad
  | _ => .bad
theorem q_fnL {i : Nat} {y : Str} (c : Cal X.prog X.w G X.base k x f fd ps F) (b : Bnd G fd ps []) (hr : RoomG k X.A) (hK : X.K = G.K) (hm : X.mg = G.mg) (hN : X.N[i]? = some y) (hv : Vis X.env.scope y) (tk : Takes X Wx)
    (ha : PA X (e :: es) (tA G m Wx)) (hdb : (y == ("__debug__" : Str)) = false := by decide) (hcd : (y == ("__classdict__" : Str)) = false := by decide)
    (he : starEach (e :: es) X.env = (false, eval e X.env) :: starEach es X.env := by rfl) (hpl : (backTo pos (starEach es X.env)).any (·.1) = false := by rfl) : PE X (.Call (.Name y p) (e :: es) [] pos) (tE G (eFnL i x F m) Wx) := by
  obtain ⟨dvs, ds, h1, h2, h3⟩ := b
  have e0 : dvs = [] := by
    have := h3 ⟨[], [], fun _ => none, []⟩
    simpa [RepL] using this
  subst e0
  refine ⟨fun pins s σ H Q I q => ?_⟩
  obtain ⟨wd, env, rfl, sr, er, pp⟩ := q
  unfold eFnL at pp
  split at pp
  · rename_i z hz
    split at pp
    · rename_i ez
      subst ez
      obtain ⟨v, hs, rv⟩ := er.at' i _ hz
      simp only [Rep] at rv
      obtain ⟨u, hu, ru⟩ := rv
      rw [c.m] at hu
      cases hu
      have hv' : v = .ref f := by
        cases v <;> first | (obtain ⟨_, q⟩ := ru; cases q) | (cases ru; rfl) | cases ru
      subst hv'
      refine wpAny_Call_Name_kw (thn ((pe_var (pos := p) hN hv hdb hcd).run pins s σ wd.H (fun v H1 => v = .ref f ∧ H1 = wd.H) I ⟨.ref f, hs, rfl, rfl⟩) fun u s1 ⟨v, H1, I1, r1, q1⟩ => ?_)
      obtain ⟨rfl, rfl⟩ := q1
      cases r1
      have kp : PySem.W.keepIn X.K (.ref f) = true := by rw [hK]; exact c.kp
      refine PySem.W.callWith_K (h₀ := X.base) I.ok.mod.kin kp (thn (ha.run pos pins s1 σ _ _ I1 ⟨wd, env, rfl, sr, er, Post.bind pp⟩) fun us s2 ⟨vs, H2, I2, r, q⟩ => ⟨I2.kIn, ?_⟩) he hpl
      obtain ⟨w1, d1, rfl, x1, s1', rp1, p1⟩ := q
      exact FnG.byPlace (E := WE Wx) (sp := spOf G F) (dvs := []) (by rw [hK, hm]; exact c.ok) hr (by rw [hK]; exact h2) h1 (passAt tk σ) I2 r ⟨w1, d1, rfl, s1', by simpa using rp1, p1⟩
    · exact pp.elim
  · exact pp.elim
/-- keywords' values -/
structure QK (X : Cx) (G : GC) (Wx : WX) (kws : List Keyword) (m : AD) : Prop where
  pk : PK X kws (tA G m Wx)
theorem q_knil : QK X G Wx [] aNil := ⟨⟨fun po pins s σ H Q I q => by
  obtain ⟨w, env, rfl, sr, er, p⟩ := q
  exact pk_nil.run po pins s σ w.H Q I (Post.ret (Ra := RepL G) sr (by simp [RepL]) p)⟩⟩
theorem q_kcons {kws : List Keyword} {nm : Option Str} {kpos : Pos} {a : ED} {b : AD} (ha : PE X e (tE G a Wx)) (hr : QK X G Wx kws b) : QK X G Wx (⟨nm, e, kpos⟩ :: kws) (aCons a b) := ⟨⟨fun po pins s σ H Q I q => by
  refine (pk_cons (nm := nm) (kpos := kpos) ha hr.pk).run po pins s σ H Q I ?_
  obtain ⟨w, env, rfl, sr, er, p⟩ := q
  refine ⟨w, env, rfl, sr, er, (Post.bind (Ra := Rep G) p).mono (fun x H1 m => ?_) fun _ _ _ h => h⟩
  obtain ⟨w1, d1, rfl, x1, s1, rp1, p1⟩ := m
  refine ⟨w1, env, rfl, s1, er.mono x1, (Post.bind (Ra := RepL G) p1).mono (fun y H2 m => ?_) fun _ _ _ h => h⟩
  obtain ⟨w2, d2, rfl, x2, s2, rp2, p2⟩ := m
  exact Post.ret (Ra := RepL G) (a := d1 :: d2) s2 (by simp only [RepL]; exact ⟨x, y, rfl, Rep.mono x2 _ _ rp1, rp2⟩) p2⟩⟩
/-- a call with keywords -/
theorem q_fnK {kws : List Keyword} {n : Nat} {ks : List Str} {gD : List D → List D → List D} {b : AD} (c : Cal X.prog X.w G X.base k x f fd ps F) (hb : Kbd G fd ps n ks gD) (hr : RoomG k X.A) (hK : X.K = G.K) (hm : X.mg = G.mg) (hg : Gl X x) (tk : Takes X Wx)
    (ha : PA X (e :: es) (tA G m Wx)) (hkw : QK X G Wx kws b) (hall : (backToKw pos (keywordEach kws X.env)).all (·.1.isSome) = true := by rfl) (hks : (backToKw pos (keywordEach kws X.env)).filterMap (·.1) = ks := by rfl)
    (hdb : (x == ("__debug__" : Str)) = false := by decide) (he : starEach (e :: es) X.env = (false, eval e X.env) :: starEach es X.env := by rfl)
    (hpl : ((backTo pos (starEach (e :: es) X.env)).any (·.1) || (backToKw pos (keywordEach kws X.env)).any (·.1.isNone)) = false := by rfl) :
    PE X (.Call (.Name x p) (e :: es) kws pos) (tE G (eKw (kwK F n ks.length gD) m b) Wx) := by
  obtain ⟨g, gV, hn, hrep⟩ := hb
  have ok := c.ok
  rw [← hK, ← hm] at ok
  have kp : PySem.W.keepIn X.K (.ref f) = true := by rw [hK]; exact c.kp
  rw [← hK] at hn
  refine ⟨fun pins s σ H Q I q => ?_⟩
  obtain ⟨wd, env, rfl, sr, er, pp⟩ := q
  refine wpAny_Call_Name_kw (ld_glob I hg (by rw [hm]; exact c.m) ?_ hdb)
  refine PySem.W.callWith_KW (h₀ := X.base) I.ok.mod.kin kp hall (thn (ha.run pos pins s σ wd.H _ I ⟨wd, env, rfl, sr, er, Post.bind (Ra := RepL G) pp⟩) fun us s1 ⟨vs, H1, I1, r, q⟩ => ?_) hpl he
  obtain ⟨w1, d1, rfl, x1, s1', rp1, p1⟩ := q
  refine thn (hkw.pk.run pos pins s1 σ w1.H _ I1 ⟨w1, env, rfl, s1', er.mono x1, Post.bind (Ra := RepL G) p1⟩) fun ws s2 ⟨zs, H2, I2, rz, q2⟩ => ⟨I2.kIn, ?_⟩
  obtain ⟨w2, d2, rfl, x2, s2', rp2, p2⟩ := q2
  rw [hks]
  unfold kwK at p2
  split at p2
  · rename_i hl
    have r2 := hn.rel r rz
    refine wpAny_call (codeAny_mono (FnG.called (E := WE Wx) ok hr (passAt tk σ) I2 (hn.to s2 us ws I2.kIn ?_ ?_) (hn.rel r rz) ⟨w2, gD d1 d2, rfl, s2', hrep w2 d1 d2 vs zs hl.1 hl.2 (RepL.mono x2 _ _ rp1) rp2, p2⟩) fun r s' hq => ?_)
    · rw [← r.length, rp1.length]; exact hl.1
    · rw [← rz.length, rp2.length]; exact hl.2
    · match r, hq with
      | .error e, hq => exact hq
      | .ok (.ret u), hq => exact hq
  · exact p2.elim
/-- the same with keywords alone -/
theorem q_cst {d : D} (h : GRep G x d) (hm : X.mg = G.mg) (hg : Gl X x) (hd : (x == ("__debug__" : Str)) = false := by decide) : PE X (.Name x pos) (tE G (eK d) Wx) := by
  obtain ⟨u, v, h1, h2, h3⟩ := h
  exact q_const (pe_glob hg (by rw [hm]; exact h1) h2 hd) h3
theorem q_fnv {u : Value} (h : G.mg x = some u) (r : ∃ v, RelV v u) (hm : X.mg = G.mg) (hg : Gl X x) (hd : (x == ("__debug__" : Str)) = false := by decide) : PE X (.Name x pos) (tE G (eK (.glb x)) Wx) := by
  obtain ⟨v, r⟩ := r
  exact q_const (pe_glob hg (by rw [hm]; exact h) r hd) fun w => by simp only [Rep]; exact ⟨u, h, r⟩
theorem q_ty {T : String} (hm : X.mg x = none) (hv : bootBuiltins x = some (.type T)) (hg : Gl X x) (hn : x ≠ "__name__" := by decide) (hd : (x == ("__debug__" : Str)) = false := by decide) : PE X (.Name x pos) (tE G (eK (.ty T)) Wx) :=
  q_const (pe_bltn (v := .ty T) hg hm hv rfl hn hd) fun w => by simp [Rep]
theorem q_tb {e : Expr} {m : TD} (h : PW X e (tT G m Wx)) : PT X e (tT G m Wx) := h.pt
theorem w_and1 {a : Expr} {ma : TD} (h : PT X a (tT G ma Wx)) : PW X (.BoolOp .And [a] pos) (tT G ma Wx) := pw_and1 h
theorem w_or1 {a : Expr} {ma : TD} (h : PT X a (tT G ma Wx)) : PW X (.BoolOp .Or [a] pos) (tT G ma Wx) := pw_or1 h
theorem w_and {a b : Expr} {rest : List Expr} {ma mb : TD} (ha : PT X a (tT G ma Wx)) (hb : PW X (.BoolOp .And (b :: rest) pos) (tT G mb Wx)) : PW X (.BoolOp .And (a :: b :: rest) pos) (tT G (tAnd ma mb) Wx) := pwI (pw_and ha hb) imp_and
theorem w_or {a b : Expr} {rest : List Expr} {ma mb : TD} (ha : PT X a (tT G ma Wx)) (hb : PW X (.BoolOp .Or (b :: rest) pos) (tT G mb Wx)) : PW X (.BoolOp .Or (a :: b :: rest) pos) (tT G (tOr ma mb) Wx) := pwI (pw_or ha hb) imp_or
end
theorem b_len : bootBuiltins "len" = some (.builtin "len") := by decide +kernel
theorem b_isinstance : bootBuiltins "isinstance" = some (.builtin "isinstance") := by decide +kernel
theorem b_all : bootBuiltins "all" = some (.builtin "all") := by decide +kernel
theorem b_any : bootBuiltins "any" = some (.builtin "any") := by decide +kernel
theorem b_sum : bootBuiltins "sum" = some (.builtin "sum") := by decide +kernel
theorem b_max : bootBuiltins "max" = some (.builtin "max") := by decide +kernel
theorem b_min : bootBuiltins "min" = some (.builtin "min") := by decide +kernel
theorem b_abs : bootBuiltins "abs" = some (.builtin "abs") := by decide +kernel
theorem b_int : bootBuiltins "int" = some (.type "int") := by decide +kernel
theorem b_bool : bootBuiltins "bool" = some (.type "bool") := by decide +kernel
theorem b_str : bootBuiltins "str" = some (.type "str") := by decide +kernel
theorem b_tuple : bootBuiltins "tuple" = some (.type "tuple") := by decide +kernel
theorem b_list : bootBuiltins "list" = some (.type "list") := by decide +kernel
theorem b_dict : bootBuiltins "dict" = some (.type "dict") := by decide +kernel
end L3
set_option Elab.async false
set_option linter.all false
set_option maxRecDepth 100000
/-! L3L: dict displays, methods of texts and dicts. -/
namespace L3
open PySem PySem.Spec PyProof.Rows L2

section
variable {G : GC} {X : Cx} {Wx : WX} {pos : Pos} {w : Wd}
/-- what was in the making at p is done: it becomes whatever stands there now -/
theorem tmp_off {w0 w2 : Wd} {p : Addr} {H' : Hp} (s0 : SRep G w0) (hp : w0.H p = none) (x : WX' [p] w0 w2) (s2 : SRep G w2) (tm : p ∈ w2.tmp) (hH : ∀ b, b ≠ p → H' b = w2.H b) :
    WExt w0 ⟨w2.mu, w2.S, H', w0.tmp⟩ ∧ SRep G ⟨w2.mu, w2.S, H', w0.tmp⟩ ∧ (∀ d v, Rep G w2 d v → Rep G ⟨w2.mu, w2.S, H', w0.tmp⟩ d v) ∧ (∀ d v, RepL G w2 d v → RepL G ⟨w2.mu, w2.S, H', w0.tmp⟩ d v) ∧ ¬ Mut ⟨w2.mu, w2.S, H', w0.tmp⟩ p := by
  have np : p ∉ w0.tmp := fun z => by obtain ⟨⟨u, e⟩, _⟩ := s0.tm p z; rw [hp] at e; cases e
  have nm : ¬ MutS w2 p := (s2.tm p tm).2
  have x1 : WX' [p] w2 ⟨w2.mu, w2.S, H', w2.tmp⟩ := ⟨fun _ _ h => h, fun a o h nm ha => ⟨(hH a (by simpa using ha)).trans h, nm⟩, fun a h => .inl h, fun a h => h⟩
  have tk : Tok [p] w2 := fun a h => .inl (by have : a = p := by simpa using h
                                              rw [this]; exact tm)
  have inc : ∀ a, a ∈ w0.tmp → a ∈ w2.tmp := x.tmp'
  have s1 : SRep G ⟨w2.mu, w2.S, H', w0.tmp⟩ := by
    refine ⟨s2.len, s2.inj, fun n ob a h1 h2 => ?_, fun a ha => ?_⟩
    · have h := s2.obj n ob a h1 h2
      exact ORep.untmp (t := w0.tmp) (w := ⟨w2.mu, w2.S, H', w2.tmp⟩) inc (h.keep x1 tk fun lv => hH a fun e => nm (by subst e; exact ⟨n, ob, h1, lv, h2⟩))
    · obtain ⟨⟨u, e⟩, q⟩ := s2.tm a (inc a ha)
      exact ⟨⟨u, (hH a fun z => np (z ▸ ha)).trans e⟩, q⟩
  refine ⟨⟨x.mu, fun a o h nmS _ => ?_, fun a h => .inl h, fun a h => h⟩, s1, fun d v h => Rep.untmp (t := w0.tmp) (w := ⟨w2.mu, w2.S, H', w2.tmp⟩) inc d v (Rep.monoT x1 tk d v h), fun d v h => RepL.untmp (t := w0.tmp) (w := ⟨w2.mu, w2.S, H', w2.tmp⟩) inc d v (RepL.monoT x1 tk d v h), fun m => m.elim nm np⟩
  have ha : a ≠ p := fun e => by rw [e, hp] at h; cases h
  obtain ⟨h1, h2⟩ := x.keep a o h nmS (by simpa using ha)
  exact ⟨(hH a ha).trans h1, h2⟩
/-- something comes to be made at p -/
theorem tmp_on {p : Addr} {o : HO} (s0 : SRep G w) (hp : w.H p = none) : WX' [p] w ⟨w.mu, w.S, upd w.H p o, p :: w.tmp⟩ ∧ SRep G ⟨w.mu, w.S, upd w.H p o, p :: w.tmp⟩ ∧ (∀ d v, Rep G w d v → Rep G ⟨w.mu, w.S, upd w.H p o, p :: w.tmp⟩ d v) := by
  have h0 : WX' [p] w ⟨w.mu, w.S, upd w.H p o, p :: w.tmp⟩ :=
    ⟨fun _ _ h => h, fun a o h nm ha => ⟨(upd_ne (by simpa using ha)).trans h, nm⟩, fun a h => by
      rcases List.mem_cons.mp h with e | h
      · exact .inr (by simp [e])
      · exact .inl h, fun a h => List.mem_cons_of_mem _ h⟩
  have tk : Tok [p] w := fun a h => .inr (by have : a = p := by simpa using h
                                             rw [this]; exact hp)
  have nL : ¬ MutS w p := fun m => by obtain ⟨u, e⟩ := MutS.there s0 m; rw [hp] at e; cases e
  refine ⟨h0, ⟨s0.len, s0.inj, fun n ob a h1 h2 => ?_, fun a ha => ?_⟩, fun d v h => Rep.monoT h0 tk d v h⟩
  · have h := s0.obj n ob a h1 h2
    refine h.keep h0 tk fun lv => ?_
    obtain ⟨u, e⟩ := h.there lv
    exact upd_ne (ne_of_none e hp)
  · rcases List.mem_cons.mp ha with e | ha
    · subst e; exact ⟨⟨_, upd_same⟩, nL⟩
    · obtain ⟨⟨u, e⟩, nm⟩ := s0.tm a ha
      exact ⟨⟨u, (upd_ne (ne_of_none e hp)).trans e⟩, nm⟩

/-! ### {k: v, ..} -/
def mergeD (kvs more : List (Key × D)) : List (Key × D) := more.foldl (fun acc kv => putD acc kv.1 kv.2) kvs
def pairsD : List (ED × ED) → EnvD → Store → R (List (D × D))
  | [], _, S => .ok [] S
  | (k, v) :: r, env, S => (k env S).bind fun x S1 => (v env S1).bind fun y S2 => (pairsD r env S2).bind fun ps S3 => .ok ((x, y) :: ps) S3
def keyed : List (D × D) → Option (List (Key × D))
  | [] => some []
  | p :: r => match keyOf p.1, keyed r with
    | some k, some ks => some ((k, p.2) :: ks)
    | _, _ => none
/-- a dict that stays -/
def eDic (ps : List (ED × ED)) : ED := fun env S => (pairsD ps env S).nox.bind fun xs S1 => match keyed xs with
  | some kvs => if kvs.length ≤ 15 then .ok (.dic ((mergeD [] kvs).map (·.1)) ((mergeD [] kvs).map (·.2))) S1 else .bad
  | none => .bad
/-- a dict that will be changed -/
def eDct (ps : List (ED × ED)) : ED := fun env S => (pairsD ps env S).nox.bind fun xs S1 => match keyed xs with
  | some kvs => if kvs.length ≤ 15 then .ok (.obj S1.length) (S1 ++ [.dK (mergeD [] kvs)]) else .bad
  | none => .bad
theorem RepKV.merge : ∀ {more : List (Key × D)} {mv : List (Key × V)} {kvs : List (Key × D)} {vs : List (Key × V)}, RepKV G w more mv → RepKV G w kvs vs → RepKV G w (mergeD kvs more) (mergeK vs mv)
  | [], mv, kvs, vs, h, h' => by
    have : mv = [] := h
    subst this; exact h'
  | p :: r, mv, kvs, vs, h, h' => by
    obtain ⟨u, z, rfl, h1, h2⟩ := h
    show RepKV G w (mergeD (putD kvs p.1 p.2) r) (mergeK (putK vs p.1 u) z)
    exact RepKV.merge h2 (h'.put p.1 h1)
theorem RepKV.parts {κ : Type} : ∀ {kvs : List (κ × D)} {vs : List (κ × V)}, RepKV G w kvs vs → ∃ us, vs = (kvs.map (·.1)).zip us ∧ RepL G w (kvs.map (·.2)) us
  | [], vs, h => by
    have : vs = [] := h
    subst this; exact ⟨[], rfl, by simp [RepL]⟩
  | p :: r, vs, h => by
    obtain ⟨u, z, rfl, h1, h2⟩ := h
    obtain ⟨us, rfl, h3⟩ := RepKV.parts h2
    exact ⟨u :: us, rfl, by simp only [List.map_cons, RepL]; exact ⟨u, us, rfl, h1, h3⟩⟩
/-- pairs of values -/
def RepP (G : GC) (w : Wd) : List (D × D) → List (V × V) → Prop
  | [], x => x = []
  | p :: r, x => ∃ a b y, x = (a, b) :: y ∧ Rep G w p.1 a ∧ Rep G w p.2 b ∧ RepP G w r y
theorem RepP.mono {w' : Wd} (x : WExt w w') : ∀ {d : List (D × D)} {v : List (V × V)}, RepP G w d v → RepP G w' d v
  | [], v, h => h
  | p :: r, v, h => by
    obtain ⟨a, b, y, rfl, h1, h2, h3⟩ := h
    exact ⟨a, b, y, rfl, Rep.mono x _ _ h1, Rep.mono x _ _ h2, RepP.mono x h3⟩
theorem RepP.keyed : ∀ {ps : List (D × D)} {vs : List (V × V)} {kvs : List (Key × D)}, RepP G w ps vs → keyed ps = some kvs → ∃ ks, vs = ks.map (fun kv => (kV kv.1, kv.2)) ∧ RepKV G w kvs ks
  | [], vs, kvs, h, e => by
    have : vs = [] := h
    cases e
    subst this; exact ⟨[], rfl, rfl⟩
  | p :: r, vs, kvs, h, e => by
    obtain ⟨a, b, y, rfl, h1, h2, h3⟩ := h
    simp only [L3.keyed] at e
    split at e
    · rename_i k ks hk hks
      cases e
      obtain ⟨us, rfl, q⟩ := RepP.keyed h3 hks
      exact ⟨(k, b) :: us, by simp [keyOf_rep h1 hk], ⟨b, us, rfl, h2, q⟩⟩
    · cases e
/-- the pairs of a display -/
structure QP (X : Cx) (G : GC) (Wx : WX) (pos : Pos) (ks : List (Option Expr)) (vs : List Expr) (ps : List (ED × ED)) : Prop where
  ex : ∃ trs, PPs X pos ks vs trs ∧ ∀ σ H Q, (∃ w env, w.H = H ∧ SRep G w ∧ ERep G w env σ ∧ Post G w (pairsD ps env w.S) (RepP G) Q (fun C dx H' => Wx C dx σ H')) → tPairs trs σ H Q
theorem q_pnil : QP X G Wx pos [] [] [] := ⟨[], pps_nil, fun σ H Q ⟨w, env, eH, sr, er, p⟩ => by
  subst eH
  exact Post.ret (Ra := RepP G) (a := []) (b := []) sr (show ([] : List (V × V)) = [] from rfl) p⟩
theorem q_pcons {k v : Expr} {ks : List (Option Expr)} {vs : List Expr} {mk mv : ED} {ps : List (ED × ED)} (hk : PE X k (tE G mk Wx)) (hv : PE X v (tE G mv Wx)) (hr : QP X G Wx pos ks vs ps) : QP X G Wx pos (some k :: ks) (v :: vs) ((mk, mv) :: ps) := by
  obtain ⟨trs, h1, h2⟩ := hr.ex
  refine ⟨_, pps_cons hk hv h1, fun σ H Q ⟨w, env, eH, sr, er, p⟩ => ?_⟩
  subst eH
  refine ⟨w, env, rfl, sr, er, (Post.bind (Ra := Rep G) p).mono (fun x H1 m => ?_) fun _ _ _ h => h⟩
  obtain ⟨w1, d1, rfl, x1, s1, r1, p1⟩ := m
  refine ⟨w1, env, rfl, s1, er.mono x1, (Post.bind (Ra := Rep G) p1).mono (fun y H2 m => ?_) fun _ _ _ h => h⟩
  obtain ⟨w2, d2, rfl, x2, s2, r2, p2⟩ := m
  refine h2 σ w2.H _ ⟨w2, env, rfl, s2, (er.mono x1).mono x2, (Post.bind (Ra := RepP G) p2).mono (fun zs H3 m => ?_) fun _ _ _ h => h⟩
  obtain ⟨w3, d3, rfl, x3, s3, r3, p3⟩ := m
  exact Post.ret (Ra := RepP G) (a := (d1, d2) :: d3) s3 ⟨x, y, zs, rfl, Rep.mono (WX'.trans x2 x3) _ _ r1, Rep.mono x3 _ _ r2, r3⟩ p3
theorem disp_mid {ps : List (ED × ED)} {trs : List (TE × TE)} {f : List (D × D) → Store → R D} (ht : ∀ σ H Q, (∃ w env, w.H = H ∧ SRep G w ∧ ERep G w env σ ∧ Post G w (pairsD ps env w.S) (RepP G) Q (fun C dx H' => Wx C dx σ H')) → tPairs trs σ H Q)
    {σ : L2.St} {Q : VK} {env : EnvD} (sr : SRep G w) (er : ERep G w env σ) (p : Post G w ((pairsD ps env w.S).nox.bind f) (Rep G) Q (fun C dx H' => Wx C dx σ H'))
    (fin : ∀ (a : Addr) (w2 : Wd) (xs : List (D × D)) (vs : List (V × V)), w.H a = none → WX' [a] w w2 → SRep G w2 → a ∈ w2.tmp → w2.H a = some (.dK []) → RepP G w2 xs vs → Post G w (f xs w2.S) (Rep G) Q (fun C dx H' => Wx C dx σ H') →
      ∃ kvs : List (Key × V), vs = kvs.map (fun kv => (kV kv.1, kv.2)) ∧ kvs.length ≤ 15 ∧ Q (.ref a) (upd w2.H a (.dK (mergeK [] kvs)))) : tDisp trs σ w.H Q := by
  intro a ha
  obtain ⟨x0, s0, r0⟩ := tmp_on (o := .dK []) sr ha
  refine ht σ _ _ ⟨⟨w.mu, w.S, upd w.H a (.dK []), a :: w.tmp⟩, env, rfl, s0, ⟨er.len, fun i d e => let ⟨v, h1, h2⟩ := er.at' i d e; ⟨v, h1, r0 d v h2⟩⟩, ?_⟩
  show Post G _ (pairsD ps env w.S) (RepP G) _ _
  cases h : pairsD ps env w.S with
  | ok xs S' =>
    rw [h] at p
    intro vs w2 x2 e2 s2 r2
    subst e2
    have tm : a ∈ w2.tmp := x2.tmp' a (by simp)
    have hp : w2.H a = some (.dK []) := (x2.keep a _ upd_same (s0.tm a (by simp)).2 (by simp)).1
    exact ⟨hp, fin a w2 xs vs ha (WX'.trans x0 (WX'.wide x2)) s2 tm hp r2 p⟩
  | exc e S' => rw [h] at p; exact p.elim
  | bad => rw [h] at p; exact p.elim
theorem q_dic {ks : List (Option Expr)} {vs : List Expr} {ps : List (ED × ED)} (h : QP X G Wx pos ks vs ps) (hall : ks.all (·.isSome) = true) (hl : ks.length = vs.length) (h0 : ks ≠ []) (h15 : ks.length ≤ 15) : PE X (.Dict ks vs pos) (tE G (eDic ps) Wx) := by
  obtain ⟨trs, h1, h2⟩ := h.ex
  refine peI (pe_disp h1 hall hl h0 h15) fun σ H Q q => ?_
  obtain ⟨w, env, rfl, sr, er, p⟩ := q
  refine disp_mid h2 sr er p fun a w2 xs us ha x s2 tm hp r2 p => ?_
  split at p
  · rename_i kvs hk
    split at p
    · rename_i hz
      obtain ⟨ks', rfl, rk⟩ := r2.keyed hk
      have len : ∀ {kvs : List (Key × D)} {ks : List (Key × V)} {w : Wd}, RepKV G w kvs ks → ks.length = kvs.length := by
        intro kvs
        induction kvs with
        | nil => intro ks w h; have : ks = [] := h; subst this; rfl
        | cons p r ih => intro ks w h; obtain ⟨u, z, rfl, _, h2⟩ := h; simp [ih h2]
      refine ⟨ks', rfl, by rw [len rk]; exact hz, ?_⟩
      obtain ⟨us, e1, r3⟩ := (RepKV.merge rk (kvs := []) (vs := []) rfl).parts
      obtain ⟨x1, s1, f1, f2, nm⟩ := tmp_off (H' := upd w2.H a (.dK (mergeK [] ks'))) sr ha x s2 tm fun b hb => upd_ne hb
      refine p (.ref a) _ x1 rfl s1 ?_
      simp only [Rep]
      exact ⟨a, us, rfl, by rw [← e1]; exact upd_same, nm, by simp, f2 _ _ r3⟩
    · exact p.elim
  · exact p.elim
theorem q_dct {ks : List (Option Expr)} {vs : List Expr} {ps : List (ED × ED)} (h : QP X G Wx pos ks vs ps) (hall : ks.all (·.isSome) = true) (hl : ks.length = vs.length) (h0 : ks ≠ []) (h15 : ks.length ≤ 15) : PE X (.Dict ks vs pos) (tE G (eDct ps) Wx) := by
  obtain ⟨trs, h1, h2⟩ := h.ex
  refine peI (pe_disp h1 hall hl h0 h15) fun σ H Q q => ?_
  obtain ⟨w, env, rfl, sr, er, p⟩ := q
  refine disp_mid h2 sr er p fun a w2 xs us ha x s2 tm hp r2 p => ?_
  split at p
  · rename_i kvs hk
    split at p
    · rename_i hz
      obtain ⟨ks', rfl, rk⟩ := r2.keyed hk
      have len : ∀ {kvs : List (Key × D)} {ks : List (Key × V)} {w : Wd}, RepKV G w kvs ks → ks.length = kvs.length := by
        intro kvs
        induction kvs with
        | nil => intro ks w h; have : ks = [] := h; subst this; rfl
        | cons p r ih => intro ks w h; obtain ⟨u, z, rfl, _, h2⟩ := h; simp [ih h2]
      refine ⟨ks', rfl, by rw [len rk]; exact hz, ?_⟩
      have rm := RepKV.merge rk (kvs := []) (vs := []) rfl
      obtain ⟨x1, s1, f1, f2, nm⟩ := tmp_off (H' := fun b => if b = a then none else w2.H b) sr ha x s2 tm fun b hb => if_neg hb
      obtain ⟨us, e1, r3⟩ := rm.parts
      have back : ∀ {kvs : List (Key × D)} {us : List V} {w' : Wd}, RepL G w' (kvs.map (·.2)) us → RepKV G w' kvs ((kvs.map (·.1)).zip us) := by
        intro kvs
        induction kvs with
        | nil => intro us w' _; rfl
        | cons p r ih => intro us w' h; simp only [List.map_cons, RepL] at h; obtain ⟨v, r', rfl, h1, h2⟩ := h; exact ⟨v, _, rfl, h1, ih h2⟩
      have r4 := back (f2 _ _ r3)
      rw [← e1] at r4
      obtain ⟨x2, s2'⟩ := new_obj (w := ⟨w2.mu, w2.S, fun b => if b = a then none else w2.H b, w.tmp⟩) (p := a) (ob := .dK (mergeD [] kvs)) (o := .dK (mergeK [] ks')) s1 (if_pos rfl) fun w' x' e => ⟨_, e, RepKV.mono x' _ _ r4⟩
      have eH : upd (fun b => if b = a then none else w2.H b) a (.dK (mergeK [] ks')) = upd w2.H a (.dK (mergeK [] ks')) := by
        funext b
        unfold upd
        by_cases hb : b = a
        · rw [if_pos hb, if_pos hb]
        · rw [if_neg hb, if_neg hb]; exact if_neg hb
      have q := p (.ref a) _ (WX'.trans x1 x2) rfl s2' (by simp only [Rep]; exact ⟨a, by rw [← s1.len]; simp, rfl⟩)
      rw [← eH]
      exact q
    · exact p.elim
  · exact p.elim

/-! ### {} -/
def eDic0 : ED := fun _ S => .ok (.dic [] []) S
def eDct0 : ED := fun _ S => .ok (.obj S.length) (S ++ [.dK []])
theorem q_dic0 : PE X (.Dict [] [] pos) (tE G eDic0 Wx) := peI pe_dnewK fun σ H Q q => by
  obtain ⟨w, env, rfl, sr, er, p⟩ := q
  intro a ha
  obtain ⟨x, s, nm⟩ := new_ext (o := .dK []) sr ha
  exact p (.ref a) _ x rfl s (by simp only [Rep, RepL]; exact ⟨a, [], rfl, upd_same, nm, rfl, rfl⟩)
theorem q_dct0 : PE X (.Dict [] [] pos) (tE G eDct0 Wx) := peI pe_dnewK fun σ H Q q => by
  obtain ⟨w, env, rfl, sr, er, p⟩ := q
  intro a ha
  obtain ⟨x, s⟩ := new_obj (ob := .dK []) (o := .dK []) sr ha fun w' x e => ⟨[], e, rfl⟩
  exact p (.ref a) _ x rfl s (by simp only [Rep]; exact ⟨a, by rw [← sr.len]; simp, rfl⟩)

/-! ### methods of texts -/
def splitD : D → FN := fun x xs S => match x, xs with
  | .str a, [.str b] => if (b.length == 0) = false ∧ a.length + 2 ≤ sizeLine then .ok (.lst ((Txt.split a b).map .str)) S else .bad
  | _, _ => .bad
theorem c_split : CalmM splitD := fun x xs S => by unfold splitD; repeat' split
                                                   all_goals trivial
theorem RepL_strs {w : Wd} : ∀ {ns : List Str} {vs : List V}, RepL G w (ns.map .str) vs ↔ vs = ns.map V.str
  | [], vs => by simp [RepL]
  | n :: ns, vs => by
    simp only [List.map_cons, RepL, Rep]
    constructor
    · rintro ⟨v, r, rfl, rfl, h⟩; rw [RepL_strs.mp h]
    · rintro rfl; exact ⟨_, _, rfl, rfl, RepL_strs.mpr rfl⟩
theorem o_split : MtR X "str.split" (rM G splitD) := mtI2 mt_split fun x xs H Q q => by
  obtain ⟨w, d, ds, rfl, sr, r1, rl, p⟩ := q
  unfold splitD at p
  split at p
  · rename_i a b
    split at p
    · rename_i hz
      simp only [Rep] at r1
      simp only [RepL, Rep] at rl
      obtain ⟨v, r', rfl, rfl, rfl⟩ := rl
      exact ⟨a, b, r1, rfl, hz.1, hz.2, fun p' hp' => new_lst (S := w.S) sr (RepL_strs.mpr rfl) p p' hp'⟩
    · exact p.elim
  · exact p.elim
end
end L3
set_option Elab.async false
set_option linter.all false
set_option maxRecDepth 100000
/-! L3M: constants of the written part; the end of a law. -/
namespace L3
open PySem PySem.Spec PyProof.Rows L2

section
variable {G : GC} {x : Str} {a : Addr}
/-- a written value stands for a plain one -/
def KVal (G : GC) (d : D) (u : Value) : Prop := ∃ v, RelV v u ∧ ∀ w, Rep G w d v
def KVals (G : GC) : List D → List Value → Prop
  | [], us => us = []
  | d :: ds, us => ∃ u r, us = u :: r ∧ KVal G d u ∧ KVals G ds r
theorem grep_of {d : D} {u : Value} (h : G.mg x = some u) (k : KVal G d u) : GRep G x d := by
  obtain ⟨v, r, f⟩ := k
  exact ⟨u, v, h, r, f⟩
theorem kv_int {i : Int} {t : PySem.Tok} : KVal G (.int i) (.int i t) := ⟨.int i, ⟨t, rfl⟩, fun w => by simp [Rep]⟩
theorem kv_str {i : Str} {t : PySem.Tok} : KVal G (.str i) (.str i t) := ⟨.str i, ⟨t, rfl⟩, fun w => by simp [Rep]⟩
theorem kv_bl {b : Bool} : KVal G (.bl b) (.bool b) := ⟨.bl b, rfl, fun w => by simp [Rep]⟩
theorem kv_non : KVal G .non .none := ⟨.non, rfl, fun w => by simp [Rep]⟩
theorem kv_fn {u : Value} (h : G.mg x = some (.ref a)) : KVal G (.glb x) (.ref a) := ⟨.ref a, rfl, fun w => by simp only [Rep]; exact ⟨_, h, rfl⟩⟩
theorem kvs_nil : KVals G [] [] := rfl
theorem kvs_cons {d : D} {ds : List D} {u : Value} {us : List Value} (h : KVal G d u) (r : KVals G ds us) : KVals G (d :: ds) (u :: us) := ⟨u, us, rfl, h, r⟩
theorem KVals.vals : ∀ {ds : List D} {us : List Value}, KVals G ds us → ∃ vs, Vals vs us ∧ ∀ w, RepL G w ds vs
  | [], us, h => by
    have : us = [] := h
    subst this; exact ⟨[], .nil, fun w => by simp [RepL]⟩
  | d :: ds, us, h => by
    obtain ⟨u, r, rfl, ⟨v, h1, h2⟩, h3⟩ := h
    obtain ⟨vs, q1, q2⟩ := KVals.vals h3
    exact ⟨v :: vs, .cons h1 q1, fun w => by simp only [RepL]; exact ⟨v, vs, rfl, h2 w, q2 w⟩⟩
theorem KVals.len : ∀ {ds : List D} {us : List Value}, KVals G ds us → us.length = ds.length
  | [], us, h => by
    have : us = [] := h
    subst this; rfl
  | d :: ds, us, h => by
    obtain ⟨u, r, rfl, _, h3⟩ := h
    simp [KVals.len h3]
theorem kv_tup {ds : List D} {us : List Value} {dd : Option Addr} {n : Nat} {sl : Array (Option Value)} (l : G.K.lookup a = some ⟨.type "tuple", dd, .seq us.toArray n, sl⟩) (h : KVals G ds us) (hz : ds.length ≤ 1000 := by decide) (hp : plc ds = false := by rfl) : KVal G (.tup ds) (.ref a) := by
  obtain ⟨vs, h1, h2⟩ := h.vals
  refine ⟨.ref a, rfl, fun w => ?_⟩
  simp only [Rep]
  exact ⟨a, vs, rfl, .inr ⟨⟨_, us.toArray, n, l, rfl, rfl, by simp only [List.size_toArray]; rw [h.len, sizeLine_eq]; omega, by simpa using h1⟩, hp⟩, h2 w⟩
/-- the entries of a written dict with text keys -/
def KEnt (G : GC) : List DictEntry → List Str → List Value → Prop
  | [], ks, us => ks = [] ∧ us = []
  | e :: es, ks, us => ∃ k kr u ur t, ks = k :: kr ∧ us = u :: ur ∧ e.key = .str k t ∧ e.val = u ∧ e.hash = PyData.keyHash G.w.params k ∧ KEnt G es kr ur
theorem ke_nil : KEnt G [] [] [] := ⟨rfl, rfl⟩
theorem ke_cons {es : List DictEntry} {k : Str} {ks : List Str} {u : Value} {us : List Value} {t : PySem.Tok} {h : Int} (hh : h = PyData.keyHash G.w.params k) (r : KEnt G es ks us) : KEnt G (⟨h, .str k t, u⟩ :: es) (k :: ks) (u :: us) :=
  ⟨k, ks, u, us, t, rfl, rfl, rfl, rfl, hh, r⟩
theorem KEnt.lit : ∀ {es : List DictEntry} {ks : List Str} {us : List Value}, KEnt G es ks us → PySem.W.KeysLit G.w.params es
  | [], _, _, _ => trivial
  | e :: es, _, _, ⟨k, kr, u, ur, t, _, _, h1, _, h2, h3⟩ => ⟨⟨k, t, h1, h2⟩, KEnt.lit h3⟩
theorem KEnt.look (z : Str) : ∀ {es : List DictEntry} {ks : List Str} {us : List Value}, KEnt G es ks us →
    (match es.find? (·.key.isStr z) with
      | some e => (ks.zip us).lookup z = some e.val
      | none => (ks.zip us).lookup z = none ∧ es.any (·.refKey) = false)
  | [], _, _, ⟨rfl, rfl⟩ => ⟨rfl, rfl⟩
  | e :: es, _, _, ⟨k, kr, u, ur, t, rfl, rfl, h1, h2, h3, h4⟩ => by
    have ih := KEnt.look z h4
    have ek : e.key.isStr z = (z == k) := by
      rw [h1]
      show (Value.str k t).isStr z = _
      rw [PySem.W.isStr_of]
      by_cases hz : z = k
      · subst hz; simp [Value.isStrOf]
      · have : (z == k) = false := by simpa using hz
        rw [this]
        simp [Value.isStrOf]
        exact fun e => hz e.symm
    have rk : e.refKey = false := by simp [DictEntry.refKey, h1]
    simp only [List.find?_cons, ek, List.zip_cons_cons, List.lookup]
    cases hz : (z == k) with
    | true => simp only; rw [h2]
    | false =>
      simp only
      cases hf : es.find? (·.key.isStr z) with
      | some e' => rw [hf] at ih; exact ih
      | none => rw [hf] at ih; exact ⟨ih.1, by simp [List.any_cons, rk, ih.2]⟩
theorem kv_kd {ks : List Str} {ds : List D} {es : List DictEntry} {us : List Value} {n : Nat} (l : G.K.lookup a = some ⟨.type "dict", none, .dict es.toArray n, #[]⟩) (low : (a == sysModules) = false) (he : KEnt G es ks us) (h : KVals G ds us) (hl : ks.length = ds.length := by rfl) : KVal G (.kd ks ds) (.ref a) := by
  obtain ⟨vs, h1, h2⟩ := h.vals
  refine ⟨.ref a, rfl, fun w => ?_⟩
  simp only [Rep]
  refine ⟨a, es.toArray, n, vs, us, rfl, ⟨l, by simpa using he.lit, low⟩, fun z => ?_, hl, h1, h2 w⟩
  unfold PySem.W.nsIn
  rw [l]
  have := he.look z
  simp only
  cases hf : es.find? (·.key.isStr z) with
  | some e => rw [hf] at this; simp only at this ⊢; rw [this]
  | none => rw [hf] at this; simp only at this ⊢; rw [this.1, this.2]; rfl

/-! ### the law's own call -/
/-- what a law's def is asked -/
def spLaw (K : PySem.W.Frag) : Sp := fun vs H Q _ => ∃ (a : Addr) (ns : List Int), vs = [.ref a] ∧ ns.length ≤ 63 ∧ Only H ∧ SqL K H a (ns.map V.int) ∧ ∀ H', Q (.bl true) H'
theorem law_ok {P : Program} {w : World} {base : Heap} {k : Nat} {f : Addr} {fd : FuncData} {x : Str} {F : FN} (hF : FnG P w G.K G.mg base k f fd [x] (spOf G F)) (true_ : ∀ ns : List Int, ns.length ≤ 63 → ∃ S, F [.scr ns] [] = .ok (.bl true) S) :
    FnG P w G.K G.mg base k f fd [x] (spLaw G.K) := by
  refine hF.imp fun vs H Q E h => ?_
  obtain ⟨a, ns, rfl, hl, ho, hS, hQ⟩ := h
  obtain ⟨S, e⟩ := true_ ns hl
  refine ⟨⟨[], [], H, []⟩, [.scr ns], rfl, ⟨rfl, fun n m a o o' h => by simp at h, fun n o a h => by simp at h, fun a h => by simp at h⟩, ?_, ?_⟩
  · simp only [RepL, Rep]
    refine ⟨.ref a, [], rfl, ⟨a, rfl, ?_⟩, rfl⟩
    rcases hS with h | h
    · exact .inl ⟨h, fun m => m.elim (fun ⟨n, o, h, _⟩ => by simp at h) fun h => by simp at h⟩
    · exact .inr h
  · rw [e]
    intro v w' x hs s r
    simp only [Rep] at r
    subst r
    exact hQ _
theorem cx_none {P : Program} {w : World} {H : Hp} {s : Shared} {e : Value} {s' : Shared} (h : L2.CX P w [] H s (fun _ _ _ => False) e s') : False := by
  obtain ⟨_, _, _, _, _, _, _, _, _, _, _, _, z⟩ := h
  exact z
/-- a def of the top -/
theorem funD_mk {K : PySem.W.Frag} {x qual : Str} {params : Arguments} {body : List Stmt} {scope : Scope} {kws : List (Str × V)} {f : Addr} {oc : Value} {od an : Option Addr} {osl : Array (Option Value)} {kV doc pm cdv ct : Value}
    (l : K.lookup f = some ⟨oc, od, .func (PySem.W.fnOf x qual params body scope .none kV doc pm an cdv ct), osl⟩) (c : PySem.W.codeIn K cdv qual = true) (k : PySem.W.keepIn K (.ref f) = true) (kw : KwdV K kV kws) :
    FunD K x qual params body scope [] kws f (PySem.W.fnOf x qual params body scope .none kV doc pm an cdv ct) :=
  ⟨⟨oc, od, .none, kV, doc, pm, an, cdv, ct, osl, rfl, l, c, .inl ⟨rfl, rfl⟩, kw⟩, k⟩
theorem kw_none {K : PySem.W.Frag} {kV : Value} : KwdV K kV [] := .inl rfl
def KwL (K : PySem.W.Frag) (a : Addr) (l : List (Str × V)) : Prop := ∀ q ∈ l, ∃ u, PySem.W.nsIn K a q.1 = some (some u) ∧ RelV q.2 u
theorem kw_nil {K : PySem.W.Frag} : KwL K a [] := fun q h => by simp at h
theorem kw_cons {K : PySem.W.Frag} {l : List (Str × V)} {y : Str} {v : V} {u : Value} (e : PySem.W.nsIn K a y = some (some u)) (r : RelV v u) (t : KwL K a l) : KwL K a ((y, v) :: l) := fun q h => by
  rcases List.mem_cons.mp h with rfl | h
  · exact ⟨u, e, r⟩
  · exact t q h
theorem kw_some {K : PySem.W.Frag} {l : List (Str × V)} (h : KwL K a l) : KwdV K (.ref a) l := .inr ⟨a, rfl, h⟩
theorem roomG_caller {k : Nat} (h : Room k callerA) : RoomG k callerA := ⟨h, rfl⟩
/-- the law's def at the heap behind the top, what is tracked told -/
theorem top_core {P : Program} {w : World} {K : PySem.W.Frag} {mg mb : Str → Option Value} {k : Nat} {fa sc : Addr} {fd : FuncData} {x : Str} {sp : Sp} {st : Shared} {its : List Value} {ns : List Int} {H : Hp}
    (inK : K.In st.heap) (main : st.heap.Ns mainGlobals mg) (bns : st.heap.Ns builtinsNs mb) (boot : ∀ y : Str, y ≠ "__name__" → mb y = bootBuiltins y) (nl : st.heap.NoLimit) (ng : st.gens = #[])
    (at_ : st.heap.get? sc = some { cls := .type "list", data := .seq its.toArray }) (room : Room k callerA)
    (mods : ∃ mm, st.heap.Ns sysModules mm) (F : ∀ base : Heap, K.In base → base.Ns mainGlobals mg → (∃ o, base.get? sysModules = some o) → FnG P w K mg base k fa fd [x] sp) (bind : ∀ (s : Shared) (u : Value), BindsTo s fd ⟨[u], []⟩ [(x, u)])
    (only : Only H) (held : HOk P w H st.heap) (alone : ∀ b, H b ≠ none → b = sc) (apart : H sc ≠ none → K.lookup sc = none)
    (want : sp [.ref sc] H (fun v _ => v = .bl true) fun _ _ _ => False) :
    codeAny (model P w) callerA (.call (.ref fa) ⟨[.ref sc], []⟩) (fun r s' => r = .ok (.ret (.bool true)) ∧ OldK st.heap s'.heap ∧ s'.os = st.os ∧ AllBare s'.gens) st := by
  -- nothing but the script is hidden from the base
  have shown : ∀ {b : Addr} {o : Obj}, st.heap.get? b = some o → (b = sc → H sc = none) → (hidT st.heap H).get? b = some o := fun {b o} e n => by
    refine hidT_get e ?_
    by_cases hb : b = sc
    · rw [hb]; exact n hb
    · exact Classical.byContradiction fun z => hb (alone b z)
  have dicts : ∀ {b : Addr} {m : Str → Option Value}, st.heap.Ns b m → (hidT st.heap H).Ns b m := fun {b m} z => by
    obtain ⟨o, es, ep, e, d, q⟩ := z
    refine ⟨o, es, ep, shown e fun hb => ?_, d, q⟩
    rw [hb, at_] at e
    cases e
    cases (show Data.seq its.toArray _ = Data.dict es ep from d)
  have inB : K.In (hidT st.heap H) := fun b o e => shown (inK b o e) fun hb => Classical.byContradiction fun z => by
    rw [hb, apart z] at e; cases e
  obtain ⟨mc, nl1, nl2⟩ := nl
  have world : Mod K mg (hidT st.heap H) := ⟨inB, dicts main, ⟨mb, dicts bns, boot⟩, ⟨mc, dicts nl1, nl2⟩⟩
  have entry : Env0 P w K mg (hidT st.heap H) callerA [] st H :=
    { frames := rfl, mod := world, bs := fun b o e => of_hidT e, bsz := Nat.le_of_eq (hidT_size _ _), funs := trivial, frf := fun b z => (by cases z), hok := held, bare := .of_eq ng }
  have there : ∃ o, (hidT st.heap H).get? sysModules = some o := by
    obtain ⟨mm, z⟩ := mods
    obtain ⟨o, _, _, e, _⟩ := dicts z
    exact ⟨o, e⟩
  have run := (F _ inB (dicts main) there).go callerA [] st H ⟨[.ref sc], []⟩ [.ref sc] [.ref sc] _ _ (roomG_caller room) entry (bind st (.ref sc)) (.cons rfl .nil) want
  refine codeAny_mono run fun r s' z => ?_
  match r, z with
  | .error e, z => exact (cx_none z).elim
  | .ok (.ret u), ⟨v, H', e1, e2, e3, e4, e5, e6⟩ =>
    have e6 : v = .bl true := e6
    subst e6
    obtain rfl : u = Value.bool true := e5
    refine ⟨rfl, OldK.of_keep fun b o e => ?_, e1, e2⟩
    rcases only b with z | ⟨ob, xs, z⟩
    · exact e3.keep b o e z (fun q => by cases q) (fun q => by cases q)
    · have old := (held b _ z).1
      have new := (e4 b _ (e3.frzs b ob _ z)).1
      rw [e] at old
      cases old
      exact new
/-- .. the script tracked where the written part has it not -/
theorem top_call {P : Program} {w : World} {K : PySem.W.Frag} {mg mb : Str → Option Value} {k : Nat} {fa sc : Addr} {fd : FuncData} {x : Str} {sp : Sp} {st : Shared} {its : List Value} {ns : List Int}
    (inK : K.In st.heap) (main : st.heap.Ns mainGlobals mg) (bns : st.heap.Ns builtinsNs mb) (boot : ∀ y : Str, y ≠ "__name__" → mb y = bootBuiltins y) (nl : st.heap.NoLimit) (ng : st.gens = #[])
    (at_ : st.heap.get? sc = some { cls := .type "list", data := .seq its.toArray }) (hi : IntsAre its ns) (size : ns.length ≤ sizeLine) (room : Room k callerA)
    (mods : ∃ mm, st.heap.Ns sysModules mm) (F : ∀ base : Heap, K.In base → base.Ns mainGlobals mg → (∃ o, base.get? sysModules = some o) → FnG P w K mg base k fa fd [x] sp) (bind : ∀ (s : Shared) (u : Value), BindsTo s fd ⟨[u], []⟩ [(x, u)])
    (want : ∀ H : Hp, Only H → SqL K H sc (ns.map V.int) → sp [.ref sc] H (fun v _ => v = .bl true) fun _ _ _ => False) :
    codeAny (model P w) callerA (.call (.ref fa) ⟨[.ref sc], []⟩) (fun r s' => r = .ok (.ret (.bool true)) ∧ OldK st.heap s'.heap ∧ s'.os = st.os ∧ AllBare s'.gens) st := by
  have rel := vals_ints hi
  by_cases hk : ∃ o, K.lookup sc = some o
  · obtain ⟨o, hk⟩ := hk
    obtain rfl : o = _ := Option.some.inj ((inK sc o hk).symm.trans at_)
    have none_ : ∀ b : Addr, (fun _ => none : Hp) b = none := fun _ => rfl
    refine top_core (H := fun _ => none) (ns := ns) inK main bns boot nl ng at_ room mods F bind (fun b => .inl rfl) (fun b u z => ?_) (fun b z => absurd rfl z) (fun z => absurd rfl z) (want _ (fun b => .inl rfl) (.inr ⟨_, its.toArray, _, hk, rfl, rfl, rfl, ?_, by simpa using rel⟩))
    · cases (show (none : Option HO) = some u from z)
    · rw [List.size_toArray, hi.length]; exact size
  · let o0 : Obj := { cls := .type "list", data := .seq its.toArray }
    let H0 : Hp := upd (fun _ => none) sc (.frz o0 (.lst (ns.map V.int)))
    have here : H0 sc = some (.frz o0 (.lst (ns.map V.int))) := upd_same
    have there : ∀ b, b ≠ sc → H0 b = none := fun b hb => upd_ne hb
    have only : Only H0 := fun b => by
      by_cases hb : b = sc
      · rw [hb]; exact .inr ⟨o0, _, here⟩
      · exact .inl (there b hb)
    refine top_core (H := H0) (ns := ns) inK main bns boot nl ng at_ room mods F bind only (fun b u z => ?_) (fun b z => Classical.byContradiction fun hb => z (there b hb)) (fun _ => ?_) (want H0 only (.inl (.inr ⟨o0, here⟩)))
    · by_cases hb : b = sc
      · subst hb
        rw [here] at z
        cases z
        exact ⟨at_, by rw [List.length_map]; exact size, its, _, rel, at_⟩
      · rw [there b hb] at z; cases z
    · cases q : K.lookup sc with
      | none => rfl
      | some o => exact absurd ⟨o, q⟩ hk
theorem walk {l : PySem.W.OpenLaw} {q : Program} {loose : List Str} {XP : (Str → Option Value) → Heap → Prop} {YP : World → Heap → Prop} {d : DefRec} {K : Params → PySem.W.Frag} {k : Nat} {x : Str} (hn : l.most = some 63) (hi : importsNone q = true) (hdf : d.params.defaults = []) (hr : Room k callerA)
    (hY : ∀ (w : World) (h : Heap), YP w h → (K w.params).In h)
    (F : ∀ (w : World) (mg : Str → Option Value) (fa : Addr) (h : Heap), (K w.params).In h → h.Ns mainGlobals mg → mg d.name = some (.ref fa) →
      ∃ fd : FuncData, (∀ (s : Shared) (u : Value), BindsTo s fd ⟨[u], []⟩ [(x, u)]) ∧ ∀ base : Heap, (K w.params).In base → base.Ns mainGlobals mg → (∃ o, base.get? sysModules = some o) → FnG l.prog w (K w.params) mg base k fa fd [x] (spLaw (K w.params))) :
    PySem.W.WalkO q loose XP YP l.row.toRowW d [] (fun f vs => PySem.call f vs) := by
  refine Att.attach_call hn hdf fun w s₀ s₁ mg mb fa o pm cd doc a vs ns G Y ho hd hcd hmg hobj hints hlen hg => ?_
  obtain ⟨fd, hb, hF⟩ := F w mg fa _ (hY w _ Y) G.T.g hmg
  exact top_call (hY w _ Y) G.T.g G.T.b G.T.builtins G.T.nolimit hg hobj hints (Nat.le_trans hlen (by decide)) hr (let ⟨mm, z, _⟩ := (G.T.seer hi).mods; ⟨mm, z⟩) hF hb fun H hO hS => ⟨a, ns, rfl, hlen, hO, hS, fun _ => rfl⟩
end
end L3
set_option Elab.async false
set_option linter.all false
set_option maxRecDepth 100000
/-! L3Q: slices, repr, str, methods of dicts and lists, keywords alone. -/
namespace L3
open PySem PySem.Spec PyProof.Rows L2

/-! ### x[lo:hi] -/
abbrev PD := EnvD → Store → R (Option Int)
def pNo : PD := fun _ S => .ok none S
def pYes (a : ED) : PD := fun env S => (a env S).bind fun x S1 => match x with
  | .int i => .ok (some i) S1
  | _ => .bad
def tO (G : GC) (m : PD) (Wx : WX) : TO := fun σ H Q => ∃ w env, w.H = H ∧ SRep G w ∧ ERep G w env σ ∧ Post G w (m env w.S) (fun _ a b => a = b) Q (fun C dx H' => Wx C dx σ H')
def cutL {α : Type} (xs : List α) (lo hi : Option Int) : List α := (xs.drop (HT.sIx xs.length 0 lo)).take (HT.sIx xs.length xs.length hi - HT.sIx xs.length 0 lo)
def slD (x : D) (lo hi : Option Int) (S : Store) : R D := match x with
  | .tup l => .ok (.tup (cutL l lo hi)) S
  | .str z => if z.length ≤ sizeLine then .ok (.str (cutS z lo hi)) S else .bad
  | x => match asL x S with
    | some l => .ok (.lst (cutL l lo hi)) S
    | none => .bad
def eSl (a : ED) (l h : PD) : ED := fun env S => (a env S).bind fun x S1 => (l env S1).bind fun lo S2 => (h env S2).bind fun hi S3 => slD x lo hi S3
theorem cutL_whole {α : Type} {xs : List α} {lo hi : Option Int} (h : HT.sIx xs.length 0 lo = 0 ∧ HT.sIx xs.length xs.length hi = xs.length) : cutL xs lo hi = xs := by
  unfold cutL
  rw [h.1, h.2]
  simp
section
variable {G : GC} {X : Cx} {Wx : WX} {pos p2 : Pos} {w : Wd}
theorem RepL.cut {l : List D} {vs : List V} (h : RepL G w l vs) (lo hi : Option Int) : RepL G w (cutL l lo hi) (cutV vs lo hi) := by
  unfold cutL cutV
  rw [h.length]
  exact (h.drop _).take _
theorem q_pno : PO X none (tO G pNo Wx) := ⟨fun pins s σ H Q I q => by
  obtain ⟨w, env, rfl, sr, er, p⟩ := q
  exact po_none.run pins s σ w.H Q I (Post.ret (Ra := fun _ (a b : Option Int) => a = b) sr rfl p)⟩
theorem q_pyes {e : Expr} {m : ED} (h : PE X e (tE G m Wx)) : PO X (some e) (tO G (pYes m) Wx) := ⟨fun pins s σ H Q I q => by
  refine (po_some h).run pins s σ H Q I ?_
  obtain ⟨w, env, rfl, sr, er, p⟩ := q
  refine ⟨w, env, rfl, sr, er, (Post.bind (Ra := Rep G) p).mono (fun x H1 m => ?_) fun _ _ _ h => h⟩
  obtain ⟨w1, d1, rfl, x1, s1, rp1, p1⟩ := m
  cases d1 with
  | int i =>
    simp only [Rep] at rp1
    exact ⟨i, rp1, Post.ret (Ra := fun _ (a b : Option Int) => a = b) s1 rfl p1⟩
  | _ => exact p1.elim⟩
theorem q_slice {e : Expr} {lo hi : Option Expr} {m : ED} {ml mh : PD} (hK : X.K = G.K) (he : PE X e (tE G m Wx)) (hl : PO X lo (tO G ml Wx)) (hh : PO X hi (tO G mh Wx)) : PE X (.Subscript e (.Slice lo hi none p2) pos) (tE G (eSl m ml mh) Wx) :=
  peI (pe_slice (sl_tupA.or (sl_str.or sl_list)) he hl hh) fun σ H Q q => by
    obtain ⟨w, env, rfl, sr, er, p⟩ := q
    refine ⟨w, env, rfl, sr, er, (Post.bind (Ra := Rep G) p).mono (fun x H1 m => ?_) fun _ _ _ h => h⟩
    obtain ⟨w1, d1, rfl, x1, s1, rp1, p1⟩ := m
    refine ⟨w1, env, rfl, s1, er.mono x1, (Post.bind (Ra := fun _ (a b : Option Int) => a = b) p1).mono (fun lo H2 m => ?_) fun _ _ _ h => h⟩
    obtain ⟨w2, d2, rfl, x2, s2, rfl, p2⟩ := m
    refine ⟨w2, env, rfl, s2, (er.mono x1).mono x2, (Post.bind (Ra := fun _ (a b : Option Int) => a = b) p2).mono (fun hi H3 m => ?_) fun _ _ _ h => h⟩
    obtain ⟨w3, d3, rfl, x3, s3, rfl, p3⟩ := m
    have r1 := Rep.mono (WX'.trans x2 x3) _ _ rp1
    unfold slD at p3
    split at p3
    · have r1' := r1
      simp only [Rep] at r1
      obtain ⟨a, vs, rfl, h1, h2⟩ := r1
      have hl := h2.length
      refine .inl ⟨a, vs, rfl, by rw [hK]; exact SqT_of h1, fun hw => ?_, fun _ p' hp' => new_tup s3 (h2.cut d2 d3) p3 p' hp'⟩
      rw [cutL_whole (by rw [← hl]; exact hw)] at p3
      exact Post.ret (Ra := Rep G) s3 r1' p3
    · split at p3
      · rename_i hz
        simp only [Rep] at r1
        exact .inr (.inl ⟨_, r1, hz, Post.ret (Ra := Rep G) s3 (by simp [Rep]) p3⟩)
      · exact p3.elim
    · split at p3
      · rename_i l hl
        obtain ⟨a, vs, rfl, h1, h2⟩ := asL_rep s3 r1 hl
        exact .inr (.inr ⟨a, vs, rfl, SqL.of h1, fun p' hp' => new_lst (S := w3.S) s3 (h2.cut d2 d3) p3 p' hp'⟩)
      · exact p3.elim

/-! ### str, join, texts in order -/
def strD : FN := fun xs S => match xs with
  | [.int i] => if i.natAbs.log2 < 1920 then .ok (.str (toString i)) S else .bad
  | [.str z] => .ok (.str z) S
  | _ => .bad
theorem c_str : CalmN strD := fun xs S => by unfold strD; repeat' split
                                             all_goals trivial
theorem o_str : CallR X (.type "str") (rN G strD) := by
  refine caI2 (call_str_int.or SkE.call_str_str) fun xs H Q q => ?_
  obtain ⟨w, ds, rfl, sr, rl, p⟩ := q
  unfold strD at p
  split at p
  · split at p
    · rename_i hz
      simp only [RepL, Rep] at rl
      obtain ⟨v, r', rfl, rfl, rfl⟩ := rl
      exact .inl ⟨_, rfl, hz, Post.ret (Ra := Rep G) sr (by simp [Rep]) p⟩
    · exact p.elim
  · simp only [RepL, Rep] at rl
    obtain ⟨v, r', rfl, rfl, rfl⟩ := rl
    exact .inr ⟨_, rfl, Post.ret (Ra := Rep G) sr (by simp [Rep]) p⟩
  · exact p.elim
def allStrs : List D → Option (List Str)
  | [] => some []
  | .str b :: r => (allStrs r).map (b :: ·)
  | _ => none
theorem allStrs_rep : ∀ {l : List D} {vs : List V} {bs : List Str}, RepL G w l vs → allStrs l = some bs → vs = bs.map V.str
  | [], vs, bs, r, e => by simp only [RepL] at r; cases e; exact r
  | d :: ds, vs, bs, r, e => by
    simp only [RepL] at r
    obtain ⟨v, r', rfl, h1, h2⟩ := r
    cases d with
    | str b =>
      simp only [allStrs, Option.map_eq_some_iff] at e
      obtain ⟨bs', e1, rfl⟩ := e
      simp only [Rep] at h1
      rw [h1, allStrs_rep h2 e1]
      rfl
    | _ => simp [allStrs] at e
/-- the items of a list or a tuple -/
def asS (x : D) (S : Store) : Option (List D) := match x with
  | .tup l => some l
  | x => asL x S
def joinD : D → FN := fun x xs S => match x, xs with
  | .str a, [y] => match (asS y S).bind allStrs with
    | some ys => if (ys.map (·.length)).sum + ys.length * a.length ≤ 16777216 then .ok (.str (Txt.join a ys)) S else .bad
    | none => .bad
  | _, _ => .bad
theorem c_join : CalmM joinD := fun x xs S => by unfold joinD; repeat' split
                                                 all_goals trivial
theorem asS_rep {x : D} {v : V} {l : List D} (sr : SRep G w) (r : Rep G w x v) (e : asS x w.S = some l) : ∃ a vs, v = .ref a ∧ (SqL G.K w.H a vs ∨ SqT G.K w.H a vs) ∧ RepL G w l vs := by
  unfold asS at e
  split at e
  · cases e
    simp only [Rep] at r
    obtain ⟨a, vs, rfl, h1, h2⟩ := r
    exact ⟨a, vs, rfl, .inr (SqT_of h1), h2⟩
  · obtain ⟨a, vs, rfl, h1, h2⟩ := asL_rep sr r e
    exact ⟨a, vs, rfl, .inl (SqL.of h1), h2⟩
theorem o_join (hK : X.K = G.K) : MtR X "str.join" (rM G joinD) := mtI2 mt_join fun x xs H Q q => by
  obtain ⟨w, d, ds, rfl, sr, r1, rl, p⟩ := q
  unfold joinD at p
  split at p
  · rename_i a y
    split at p
    · rename_i ys hy
      split at p
      · rename_i hz
        simp only [Rep] at r1
        simp only [RepL] at rl
        obtain ⟨v, r', rfl, ry, rfl⟩ := rl
        cases hl : asS y w.S with
        | none => rw [hl] at hy; cases hy
        | some l =>
          rw [hl] at hy
          obtain ⟨b, vs, rfl, h1, h2⟩ := asS_rep sr ry hl
          rw [allStrs_rep h2 hy] at h1
          exact ⟨a, b, ys, r1, rfl, by rw [hK]; exact h1, hz, Post.ret (Ra := Rep G) sr (by simp [Rep]) p⟩
      · exact p.elim
    · exact p.elim
  · exact p.elim

/-! ### repr -/
mutual
def toPyR : D → Option PyData
  | .non => some .none
  | .bl b => some (.bool b)
  | .int i => some (.int i)
  | .str s => some (.str s)
  | .tup l => (toPyRL l).map .tuple
  | .lst l => (toPyRL l).map .list
  | .dic ks l => match ks, l with
    | [], [] => some (.dict [])
    | _, _ => none
  | .obj _ => none
  | .glb _ => none
  | .ty _ => none
  | .scr _ => none
  | .kd _ _ => none
  | .xcp _ _ _ => none
def toPyRL : List D → Option (List PyData)
  | [] => some []
  | d :: ds => match toPyR d, toPyRL ds with
    | some x, some xs => some (x :: xs)
    | _, _ => none
end
mutual
theorem reads_of {pins : List (Addr × Obj)} {s : Shared} {σ : L2.St} (hK : X.K = G.K) (hS : w.H sysModules = none) (I : Inv X pins σ w.H s) : ∀ (d : D) (v : V) (u : Value) (x : PyData), Rep G w d v → toPyR d = some x → RelV v u → ∃ as, Reads s.heap u x as ∧ sysModules ∉ as
  | .non, v, u, x, r, e, rv => by simp only [Rep] at r; subst r; cases e; cases rv; exact ⟨[], .none, by simp⟩
  | .bl b, v, u, x, r, e, rv => by simp only [Rep] at r; subst r; cases e; cases rv; exact ⟨[], .bool b, by simp⟩
  | .int i, v, u, x, r, e, rv => by simp only [Rep] at r; subst r; cases e; obtain ⟨t, rfl⟩ := rv; exact ⟨[], .int i t, by simp⟩
  | .str z, v, u, x, r, e, rv => by simp only [Rep] at r; subst r; cases e; obtain ⟨t, rfl⟩ := rv; exact ⟨[], .str z t, by simp⟩
  | .tup l, v, u, x, r, e, rv => by
    simp only [Rep] at r
    obtain ⟨a, vs, rfl, h1, h2⟩ := r
    simp only [toPyR, Option.map_eq_some_iff] at e
    obtain ⟨xs, e1, rfl⟩ := e
    cases rv
    obtain ⟨its, rv, ⟨o, ho, hc, n, hd⟩, _⟩ := I.tuple (xs := vs) (by rw [hK]; exact SqT_of h1)
    obtain ⟨as, h3, h4⟩ := readsL_of hK hS I l vs its xs h2 e1 rv
    exact ⟨as, .tuple ho hc hd h3, h4⟩
  | .lst l, v, u, x, r, e, rv => by
    simp only [Rep] at r
    obtain ⟨a, vs, rfl, h1, _, h2⟩ := r
    simp only [toPyR, Option.map_eq_some_iff] at e
    obtain ⟨xs, e1, rfl⟩ := e
    cases rv
    obtain ⟨its, rv, ⟨o, n, ho, hc, _, hd⟩, _⟩ := I.list (xs := vs) (SqL.of h1)
    obtain ⟨as, h3, h4⟩ := readsL_of hK hS I l vs its xs h2 e1 rv
    exact ⟨_, .list ho hc hd h3, fun h => (List.mem_cons.mp h).elim (fun e => by rw [← e, hS] at h1; cases h1) h4⟩
  | .dic [] [], v, u, x, r, e, rv => by
    simp only [Rep] at r
    obtain ⟨a, vs, rfl, h1, _, _, h2⟩ := r
    cases e
    cases rv
    obtain ⟨_, hs, kvs, k1, o, es, ep, g, ex, dt, _, pr, _⟩ := dk_of I.hok h1
    have k0 : kvs = [] := by
      have := k1.length
      simp at this
      exact List.eq_nil_of_length_eq_zero this.symm
    subst k0
    have e0 : es.toList = [] := by
      generalize es.toList = z at pr
      cases pr; rfl
    refine ⟨_, .dict (kvs := []) (as := []) (bs := []) g ex.1 dt (by rw [e0]; exact .nil) (by rw [e0]; exact .nil), fun h => ?_⟩
    simp at h
    rw [← h] at hs
    simp at hs
  | .dic (_ :: _) _, v, u, x, r, e, rv => by simp [toPyR] at e
  | .dic [] (_ :: _), v, u, x, r, e, rv => by simp [toPyR] at e
  | .obj _, _, _, _, _, e, _ => by simp [toPyR] at e
  | .glb _, _, _, _, _, e, _ => by simp [toPyR] at e
  | .ty _, _, _, _, _, e, _ => by simp [toPyR] at e
  | .scr _, _, _, _, _, e, _ => by simp [toPyR] at e
  | .kd _ _, _, _, _, _, e, _ => by simp [toPyR] at e
theorem readsL_of {pins : List (Addr × Obj)} {s : Shared} {σ : L2.St} (hK : X.K = G.K) (hS : w.H sysModules = none) (I : Inv X pins σ w.H s) : ∀ (d : List D) (v : List V) (u : List Value) (x : List PyData), RepL G w d v → toPyRL d = some x → Vals v u → ∃ as, ReadsAll s.heap u x as ∧ sysModules ∉ as
  | [], v, u, x, r, e, rv => by simp only [RepL] at r; subst r; cases e; cases rv; exact ⟨[], .nil, by simp⟩
  | d :: ds, v, u, x, r, e, rv => by
    simp only [RepL] at r
    obtain ⟨v1, r', rfl, h1, h2⟩ := r
    simp only [toPyRL] at e
    split at e
    · rename_i y ys e1 e2
      cases e
      cases rv with
      | cons ra rb =>
        obtain ⟨as, q1, q2⟩ := reads_of hK hS I d v1 _ y h1 e1 ra
        obtain ⟨bs, q3, q4⟩ := readsL_of hK hS I ds r' _ ys h2 e2 rb
        exact ⟨_, .cons q1 q3, fun z => (List.mem_append.mp z).elim q2 q4⟩
    · cases e
end
/-- what can be shown -/
def showOk (x : PyData) : Bool := x.showable && decide (x.shown.length ≤ sizeLine) && decide (x.depth ≤ 100)
def reprD : FN := fun xs S => match xs with
  | [x] => match toPyR (deref x S) with
    | some a => if showOk a then .ok (.str a.shown) S else .bad
    | none => .bad
  | _ => .bad
theorem c_repr : CalmN reprD := fun xs S => by unfold reprD; repeat' split
                                               all_goals trivial
theorem derefR_rep {pins : List (Addr × Obj)} {s : Shared} {σ : L2.St} (hK : X.K = G.K) (hS : w.H sysModules = none) (I : Inv X pins σ w.H s) {x : D} {v : V} {u : Value} (sr : SRep G w) (r : Rep G w x v) (rv : RelV v u) {y : PyData} (e : toPyR (deref x w.S) = some y) : ∃ as, Reads s.heap u y as ∧ sysModules ∉ as := by
  cases x with
  | obj n =>
    unfold deref at e
    cases hn : w.S[n]? with
    | none => simp [hn, toPyR] at e
    | some o =>
      cases o with
      | lst l =>
        simp only [hn] at e
        obtain ⟨a, vs, rfl, h1, h2⟩ := asL_rep (l := l) sr r (by simp [asL, hn])
        simp only [toPyR, Option.map_eq_some_iff] at e
        obtain ⟨xs, e1, rfl⟩ := e
        cases rv
        obtain ⟨its, rv, ⟨o, n, ho, hc, _, hd⟩, _⟩ := I.list (xs := vs) (SqL.of h1)
        obtain ⟨as, h3, h4⟩ := readsL_of hK hS I l vs its xs h2 e1 rv
        exact ⟨_, .list ho hc hd h3, fun h => (List.mem_cons.mp h).elim (fun e => by rw [← e, hS] at h1; cases h1) h4⟩
      | _ => simp [hn, toPyR] at e
  | _ => exact reads_of hK hS I _ v u y r e rv
theorem o_repr (hK : X.K = G.K) (hM : ∃ o, X.base.get? sysModules = some o) (hg : X.A.guards = some []) (hu : X.A.units + 150 < cLine) : CallR X (.builtin "repr") (rN G reprD) := by
  intro pins s σ H xs us Q I rs q
  obtain ⟨w, ds, rfl, sr, rl, p⟩ := q
  unfold reprD at p
  split at p
  · rename_i x
    split at p
    · rename_i a ha
      split at p
      · rename_i ok
        simp only [showOk, Bool.and_eq_true, decide_eq_true_eq] at ok
        obtain ⟨⟨ok1, ok2⟩, ok3⟩ := ok
        simp only [RepL] at rl
        obtain ⟨v, r', rfl, r1, rfl⟩ := rl
        cases rs with
        | cons rv rt =>
          cases rt
          obtain ⟨o, hM⟩ := hM
          obtain ⟨as, rd, no⟩ := derefR_rep hK (I.bs _ _ hM).2 I sr r1 rv ha
          have fin : ∀ (z : Str) (h' : Heap) (tk : PySem.Tok) (tk' : Nat), z = a.shown → (∀ b o, s.heap.get? b = some o → h'.get? b = some o) → EP X pins σ Q (.str z tk) { s with heap := h', toks := tk' } := fun z h' tk tk' ez k => by
            subst ez
            exact ⟨.str _, w.H, I.kept (t' := tk') k, ⟨tk, rfl⟩, Post.ret (Ra := Rep G) sr (by simp [Rep]) p⟩
          have same : ∀ b o, s.heap.get? b = some o → s.heap.get? b = some o := fun _ _ h => h
          cases rd with
          | none => exact PySem.P.repr_of_none (fin _ s.heap _ _ rfl same)
          | bool b => exact PySem.P.repr_of_bool (fin _ s.heap _ _ (by simp [PyData.shown]) same)
          | int i t => exact PySem.P.repr_of_int (by simpa [PyData.showable] using ok1) (fin _ s.heap _ _ rfl same)
          | str z t => exact PySem.P.repr_of_str (fin _ s.heap _ _ rfl same) (by simpa [PyData.shown] using ok2)
          | list h1 h2 h3 h4 =>
            exact repr_of_reads' (.list h1 h2 h3 h4) ok1 (fun _ => no) hg (by omega) same (fun h' t tk k => fin _ h' t tk rfl k) ok2
          | tuple h1 h2 h3 h4 =>
            exact repr_of_reads' (.tuple h1 h2 h3 h4) ok1 (fun _ => no) hg (by omega) same (fun h' t tk k => fin _ h' t tk rfl k) ok2
          | dict h1 h2 h3 h4 h5 =>
            exact repr_of_reads' (.dict h1 h2 h3 h4 h5) ok1 (fun _ => no) hg (by omega) same (fun h' t tk k => fin _ h' t tk rfl k) ok2
      · exact p.elim
    · exact p.elim
  · exact p.elim
end
end L3
namespace L3
open PySem PySem.Spec PyProof.Rows L2
section
variable {G : GC} {X : Cx} {Wx : WX} {pos p2 : Pos} {w : Wd}
/-! ### dicts: get, update -/
/-- a dict's entries -/
def dkAt (x : D) (S : Store) : Option (List (Key × D)) := match x with
  | .dic ks l => if ks.length = l.length then some (ks.zip l) else none
  | .obj n => match S[n]? with
    | some (.dK kvs) => some kvs
    | _ => none
  | _ => none
theorem dkAt_rep {x : D} {v : V} {kvs : List (Key × D)} (sr : SRep G w) (r : Rep G w x v) (e : dkAt x w.S = some kvs) : ∃ a vs, v = .ref a ∧ w.H a = some (.dK vs) ∧ RepKV G w kvs vs := by
  cases x with
  | dic ks l =>
    simp only [dkAt] at e
    split at e
    · rename_i hl
      cases e
      simp only [Rep] at r
      obtain ⟨a, vs, rfl, h1, _, _, h2⟩ := r
      exact ⟨a, _, rfl, h1, zip_kv hl h2⟩
    · cases e
  | obj n =>
    simp only [dkAt] at e
    split at e
    · rename_i l hn
      cases e
      simp only [Rep] at r
      obtain ⟨a, hm, rfl⟩ := r
      obtain ⟨vs, h1, h2⟩ := sr.obj n _ a hn hm
      exact ⟨a, vs, rfl, h1, h2⟩
    · cases e
  | _ => cases e
def dgetD : D → FN := fun x xs S => match dkAt x S, xs with
  | some kvs, [y] => match keyOf y with
    | some k => .ok ((dGet kvs k).getD .non) S
    | none => .bad
  | some kvs, [y, z] => match keyOf y with
    | some k => .ok ((dGet kvs k).getD z) S
    | none => .bad
  | _, _ => .bad
theorem c_dget : CalmM dgetD := fun x xs S => by unfold dgetD; repeat' split
                                                 all_goals trivial
theorem o_dget (hu : X.A.units + 1 < cLine) : MtR X "dict.get" (rM G dgetD) := by
  intro pins s σ H x xs v us Q I rx rs q
  obtain ⟨w, d, ds, rfl, sr, r1, rl, p⟩ := q
  unfold dgetD at p
  split at p
  · rename_i kvs y he
    split at p
    · rename_i k hk
      obtain ⟨a, vs, rfl, h1, h2⟩ := dkAt_rep sr r1 he
      simp only [RepL] at rl
      obtain ⟨vy, r', rfl, ry, rfl⟩ := rl
      have ek := keyOf_rep ry hk
      subst ek
      cases rx
      cases rs with
      | cons q1 q2 =>
        cases q2
        refine d_get1 hu I (DGet.k h1) q1 fun w' s' I' rw' => ⟨_, w.H, I', rw', ?_⟩
        have := dGet_rep k h2
        cases hg : dGet kvs k with
        | none => rw [hg] at this p; simp only at this; rw [this]; exact Post.ret (Ra := Rep G) sr (by simp [Rep]) p
        | some d => rw [hg] at this p; simp only at this; obtain ⟨z, e1, rz⟩ := this; rw [e1]; exact Post.ret (Ra := Rep G) sr rz p
    · exact p.elim
  · rename_i kvs y z he
    split at p
    · rename_i k hk
      obtain ⟨a, vs, rfl, h1, h2⟩ := dkAt_rep sr r1 he
      simp only [RepL] at rl
      obtain ⟨vy, r', rfl, ry, vz, r'', rfl, rz, rfl⟩ := rl
      have ek := keyOf_rep ry hk
      subst ek
      cases rx
      cases rs with
      | cons q1 q2 =>
        cases q2 with
        | cons q2 q3 =>
          cases q3
          refine d_get2 hu I (DGet.k h1) q1 q2 fun w' s' I' rw' => ⟨_, w.H, I', rw', ?_⟩
          have := dGet_rep k h2
          cases hg : dGet kvs k with
          | none => rw [hg] at this p; simp only at this; rw [this]; exact Post.ret (Ra := Rep G) sr rz p
          | some d => rw [hg] at this p; simp only at this; obtain ⟨y, e1, ry⟩ := this; rw [e1]; exact Post.ret (Ra := Rep G) sr ry p
    · exact p.elim
  · exact p.elim
def isAt (n : Nat) : D → Bool
  | .obj m => decide (m = n)
  | _ => false
def dupdD : D → FN := fun x xs S => match x, xs with
  | .obj n, [y] => match S[n]? with
    | some (.dK kvs) => match dkAt y S with
      | some more => if kvs.length + more.length ≤ sizeLine ∧ isAt n y = false then .ok .non (S.set n (.dK (mergeD kvs more))) else .bad
      | none => .bad
    | _ => .bad
  | _, _ => .bad
theorem c_dupd : CalmM dupdD := fun x xs S => by unfold dupdD; repeat' split
                                                 all_goals trivial
theorem merge_vals : ∀ {mv : List (Key × V)} {more : List (Key × Value)} {kvs : List (Key × V)} {vs : List (Key × Value)}, KV mv more → KV kvs vs → KV (mergeK kvs mv) (merged vs more)
  | _, _, kvs, vs, .nil, h => h
  | _, _, kvs, vs, .cons r t, h => by
    obtain ⟨e, r⟩ := r
    show KV (mergeK (putK kvs _ _) _) (merged (stored vs _ _) _)
    rw [← e]
    exact merge_vals t (h.put _ r)
theorem len_merge : ∀ {mv kvs : List (Key × V)}, (mergeK kvs mv).length ≤ kvs.length + mv.length
  | [], kvs => Nat.le_refl _
  | p :: r, kvs => by
    show (mergeK (putK kvs p.1 p.2) r).length ≤ _
    have h1 := len_merge (mv := r) (kvs := putK kvs p.1 p.2)
    have h2 := length_putK kvs p.1 p.2
    simp only [List.length_cons]
    omega
theorem o_dupd : MtR X "dict.update" (rM G dupdD) := by
  intro pins s σ H x xs v us Q I rx rs q
  obtain ⟨w, d, ds, rfl, sr, r1, rl, p⟩ := q
  unfold dupdD at p
  split at p
  · rename_i n y
    split at p
    · rename_i kvs hn
      split at p
      · rename_i more hy
        split at p
        · rename_i hz
          simp only [Rep] at r1
          obtain ⟨a, hm, rfl⟩ := r1
          obtain ⟨vs, h1, h2⟩ := sr.obj n _ a hn hm
          simp only [RepL] at rl
          obtain ⟨vy, r', rfl, ry, rfl⟩ := rl
          obtain ⟨b, ws, rfl, h3, h4⟩ := dkAt_rep sr ry hy
          have hab : a ≠ b := by
            intro e
            subst e
            cases y with
            | obj m =>
              simp only [Rep] at ry
              obtain ⟨a', hm', e'⟩ := ry
              cases e'
              cases hS : w.S[m]? with
              | none => simp [dkAt, hS] at hy
              | some o =>
                have z := hz.2
                simp only [isAt, decide_eq_false_iff_not] at z
                refine z (sr.inj m n a o _ hS hn ?_ trivial hm' hm)
                cases o with
                | dK _ => trivial
                | _ => simp [dkAt, hS] at hy
            | dic ks l =>
              simp only [Rep] at ry
              obtain ⟨a', _, e', _, nm, _⟩ := ry
              cases e'
              exact nm (.inl ⟨n, _, hn, trivial, hm⟩)
            | _ => simp [dkAt] at hy
          obtain ⟨za, la, va, ka, da⟩ := dk_of I.hok h1
          obtain ⟨zb, lb, vb, kb, db⟩ := dk_of I.hok h3
          cases rx
          cases rs with
          | cons q1 q2 =>
            cases q2
            cases q1
            have hz1 : va.length + vb.length ≤ sizeLine := by rw [← ka.length, ← kb.length, h2.len, h4.len]; exact hz.1
            refine call_meetsIn PySem.F.slot_dict_update da.typeIs PySem.F.entry_dict_update (PySem.F.args_dict_update_2 _ _) (meets_dict_update (mixKind X.prog X.w) a b hab lb)
              ⟨va, vb, da, db, hz1, fun h' d1 d2 sb => ?_⟩
            have hl : (mergeK vs ws).length ≤ sizeLine := by
              have := len_merge (mv := ws) (kvs := vs)
              rw [h2.len, h4.len] at this
              omega
            have he : ∃ q, h'.get? a = some q := let ⟨q, _, _, hq, _⟩ := d1; ⟨q, hq⟩
            have I2 : Inv X pins σ (upd w.H a (.dK (mergeK vs ws))) { s with heap := h' } := d_write I (by rw [h1]; exact True.intro) sb he (dk_new hl la (merge_vals kb ka) d1)
            refine ⟨.non, _, I2, rfl, ?_⟩
            obtain ⟨x', s'⟩ := set_obj (ob' := .dK (mergeD kvs more)) (o := .dK (mergeK vs ws)) sr hn trivial hm fun w' x e => ⟨_, e, RepKV.mono x _ _ (RepKV.merge h4 h2)⟩
            exact p .non _ x' rfl s' (by simp [Rep])
        · exact p.elim
      · exact p.elim
    · exact p.elim
  · exact p.elim
end
end L3
set_option Elab.async false
set_option linter.all false
set_option maxRecDepth 100000
/-! L3R: tuples turned about, keywords in any order. -/
namespace L3
open PySem PySem.Spec PyProof.Rows L2
section
variable {prog : Program} {w : World} {A : Around} {E : Value → Shared → Prop} {s : Shared}
/-- a slice from the end to the front, applied to n places -/
theorem applied_back {sl : Addr} {t : PySem.Tok} {n : Nat} {Q : Int × Int × Nat → Shared → Prop} (at_ : s.heap.IsSliceOf sl .none .none (.int (-1) t)) (h : Q ((n : Int) - 1, -1, n) s) :
    wpAny (model prog w) A (Builtin.Slice.sliceApplied (.ref sl) (pure (n : Int))) Q E s := by
  obtain ⟨ob, e1, _, e2⟩ := id at_
  unfold Builtin.Slice.sliceApplied Builtin.Slice.sliceFields
  refine wpAny_bind (wpAny_bind (wpAny_field e1 e2 (x := .none) rfl (wpAny_bind (wpAny_field e1 e2 (x := .none) rfl (wpAny_bind (wpAny_field e1 e2 (x := .int (-1) t) rfl (wpAny_pure ?_)))))))
  refine wpAny_bind (slicePart_int ?_)
  show wpAny _ _ (if ((-1 : Int) == 0) = true then _ else _) _ _ s
  rw [if_neg (by decide)]
  refine wpAny_bind (slicePart_none (wpAny_bind (slicePart_none (wpAny_bind (wpAny_pure ?_)))))
  have e3 : Builtin.Slice.sliceAdjust none none (-1) (n : Int) = ((n : Int) - 1, -1) := rfl
  have e4 : Builtin.Slice.slicePlaces ((n : Int) - 1) (-1) (-1) = n := by
    unfold Builtin.Slice.slicePlaces
    rw [if_neg (by decide)]
    by_cases h0 : n = 0
    · subst h0; decide
    · rw [if_pos (by omega)]
      have : ((n : Int) - 1 - -1 - 1) / -(-1) + 1 = n := by
        rw [show -(-1 : Int) = 1 by decide, Int.ediv_one]; omega
      rw [this]; rfl
  show wpAny _ _ (match Builtin.Slice.sliceAdjust none none (-1) (n : Int) with | (lo, hi) => pure (lo, (-1 : Int), Builtin.Slice.slicePlaces lo hi (-1))) _ _ s
  rw [e3]
  show wpAny _ _ (pure ((n : Int) - 1, (-1 : Int), Builtin.Slice.slicePlaces ((n : Int) - 1) (-1) (-1))) _ _ s
  rw [e4]
  exact wpAny_pure h
theorem picked_back (xs : Array Value) : ((List.range xs.size).filterMap fun (k : Nat) => xs[((xs.size : Int) - 1 + (k : Int) * -1).toNat]?).toArray = xs.toList.reverse.toArray := by
  have e : ((List.range xs.size).filterMap fun (k : Nat) => xs[((xs.size : Int) - 1 + (k : Int) * -1).toNat]?) = xs.toList.reverse := by
    have fm : (List.range xs.size).filterMap (fun (k : Nat) => xs[((xs.size : Int) - 1 + (k : Int) * -1).toNat]?) = (List.range xs.size).filterMap (fun k => xs.toList.reverse[k]?) := by
      have gen : ∀ l : List Nat, (∀ k ∈ l, k < xs.size) → l.filterMap (fun (k : Nat) => xs[((xs.size : Int) - 1 + (k : Int) * -1).toNat]?) = l.filterMap (fun k => xs.toList.reverse[k]?) := fun l => by
        induction l with
        | nil => intro _; rfl
        | cons k l ih =>
          intro hl
          have hk : k < xs.size := hl k (by simp)
          have e : xs[((xs.size : Int) - 1 + (k : Int) * -1).toNat]? = xs.toList.reverse[k]? := by
            rw [List.getElem?_reverse (by simpa using hk)]
            have : ((xs.size : Int) - 1 + (k : Int) * -1).toNat = xs.toList.length - 1 - k := by simp; omega
            rw [this]; simp
          rw [List.filterMap_cons, List.filterMap_cons, e, ih fun k hk => hl k (List.mem_cons_of_mem _ hk)]
      exact gen _ fun k hk => List.mem_range.mp hk
    rw [fm]
    have all : ∀ l : List Value, (List.range l.length).filterMap (fun k => l[k]?) = l := fun l => by
      induction l with
      | nil => rfl
      | cons a l ih =>
        rw [List.length_cons, List.range_succ_eq_map, List.filterMap_cons]
        simp only [List.getElem?_cons_zero, List.filterMap_map]
        congr 1
    have := all xs.toList.reverse
    rw [List.length_reverse, Array.length_toList] at this
    rw [this]
  rw [e]
theorem tuple_back {t sl : Addr} {items : Array Value} {tk : PySem.Tok} {Q : Value → Shared → Prop} (at_ : IsTup s.heap t items) (ofS : s.heap.IsSliceOf sl .none .none (.int (-1) tk)) (small : items.size ≤ sizeLine)
    (h : Q (.ref s.heap.objs.size) { s with heap := s.heap.push { cls := .type "tuple", data := .seq items.toList.reverse.toArray } }) : wpAny (model prog w) A (getItem (.ref t) (.ref sl)) Q E s := by
  have fits : sizeOk (.seq items.toList.reverse.toArray) := by
    show items.toList.reverse.toArray.size ≤ sizeLine
    rw [List.size_toArray, List.length_reverse, Array.length_toList]; exact small
  have kind : s.TypeIs (.ref sl) "slice" := let ⟨ob, e1, e2, _⟩ := id ofS; ⟨ob, e1, e2⟩
  unfold getItem
  try with_reducible refine wpAny_holding ?_
  first | refine wpAny_bind (wpAny_pure ?_) | skip
  refine wpAny_bind (wpAny_sequenceKey at_.typeIs (by decide) (wpAny_bind (wpAny_callSpecial?_slot (name := Str.ofString "__getitem__") at_.typeIs PyProof.Rows.slot_tuple_getitem
    (wpAny_call_entry PyProof.Rows.slot_tuple_getitem at_.typeIs entry_tuple_getitem ?_ (args_tuple_getitem _ _)))))
  show wpAny _ _ (Builtin.Tuple.tupleItemsOf (.ref t) >>= _) _ _ s
  refine wpAny_bind (tupleItemsOf_ at_ (wpAny_bind (wpAny_typeOf kind ?_)))
  rw [if_pos (by decide)]
  refine wpAny_bind (applied_back (n := items.size) ofS ?_)
  have no : ¬ ((((items.size : Int) - 1) == 0 && (-1 : Int) == 1 && items.size == items.size) = true) := by simp
  show wpAny _ _ (if (((items.size : Int) - 1) == 0 && (-1 : Int) == 1 && items.size == items.size) = true then _ else _) _ _ s
  rw [if_neg no, picked_back]
  first
    | exact wpAny_bind (m := Builtin.Tuple.tupleExact _) (wpAny_newObj_type (wpAny_pure ⟨_, rfl, wpAny_pure h⟩) fits)
    | exact wpAny_bind (m := Builtin.Tuple.tupleExact _) (wpAny_newObj_type (wpAny_bind (wpAny_pure (wpAny_pure ⟨_, rfl, wpAny_pure h⟩))) fits)
    | exact wpAny_bind (wpAny_bind (m := Builtin.Tuple.tupleExact _) (wpAny_newObj_type (wpAny_pure (wpAny_pure ⟨_, rfl, wpAny_pure h⟩)) fits))
    | exact wpAny_bind (wpAny_bind (m := Builtin.Tuple.tupleExact _) (wpAny_newObj_type (wpAny_pure ⟨_, rfl, wpAny_pure h⟩) fits))
end
section
variable {G : GC} {X : Cx} {Wx : WX} {w : Wd}
/-- x[::-1] of a tuple -/
def eBackT (a : ED) : ED := fun env S => (a env S).bind fun x S1 => match x with
  | .tup l => .ok (.tup l.reverse) S1
  | _ => .bad
theorem RepL.rev {l : List D} : ∀ {vs : List V}, RepL G w l vs → RepL G w l.reverse vs.reverse := by
  induction l with
  | nil => intro vs h; simp only [RepL] at h; subst h; simp [RepL]
  | cons d ds ih =>
    intro vs h
    simp only [RepL] at h
    obtain ⟨v, r, rfl, h1, h2⟩ := h
    rw [List.reverse_cons, List.reverse_cons]
    exact (ih h2).append (RepL.one h1)
theorem q_backT {e : Expr} {m : ED} {k : Nat} {p1 p2 p3 pos : Pos} (hK : X.K = G.K) (he : PE X e (tE G m Wx)) : PE X (.Subscript e (.Slice none none (some (.UnaryOp .USub (.Constant (.int 1) k p1) p2)) p3) pos) (tE G (eBackT m) Wx) := by
  refine ⟨fun pins s σ H Q I h => ?_⟩
  obtain ⟨w, env, rfl, sr, er, p⟩ := h
  refine Subscript_ (thn (he.run pins s σ w.H _ I ⟨w, env, rfl, sr, er, Post.bind (Ra := Rep G) p⟩) fun v s1 ⟨x, H1, I1, r1, q1⟩ => ?_)
  obtain ⟨w1, d1, rfl, x1, sr1, rp1, pq⟩ := q1
  cases d1 with
  | tup l =>
    simp only [Rep] at rp1
    obtain ⟨a, vs, rfl, h1, h2⟩ := rp1
    cases r1
    have step : PO X (some (.UnaryOp .USub (.Constant (.int 1) k p1) p2)) (tPart (tUn (rU fun i => .int (-i)) (tC (.int 1)))) := po_some (pe_un un_neg pe_int)
    refine wpAny_Slice (thn (po_none.run pins s1 σ w1.H (fun o H2 => o = none ∧ H2 = w1.H) I1 ⟨rfl, rfl⟩) fun va s2 ⟨oa, H2, I2, pa, ea, ha⟩ => ?_)
    subst ea ha
    refine thn (po_none.run pins s2 σ w1.H (fun o H3 => o = none ∧ H3 = w1.H) I2 ⟨rfl, rfl⟩) fun vb s3 ⟨ob, H3, I3, pb, eb, hb⟩ => ?_
    subst eb hb
    refine thn (step.run pins s3 σ w1.H (fun o H4 => o = some (-1) ∧ H4 = w1.H) I3 ⟨1, rfl, -1, rfl, rfl, rfl⟩) fun vc s4 ⟨oc, H4, I4, pc, ec, hc⟩ => ?_
    subst ec hc
    cases pa
    cases pb
    cases pc with
    | int i t =>
      have I5 : Inv X pins σ w1.H { s4 with heap := s4.heap.push { cls := .type "slice", data := .fields #[.none, .none, .int (-1) t] } } := I4.kept (t' := s4.toks) fun b ob q => Heap.get?_push_of_some _ q
      obtain ⟨its, rv, tp, hz⟩ := I5.tuple (xs := vs) (by rw [hK]; exact SqT_of h1)
      have hl := rv.length
      show wpAny (model X.prog X.w) X.A (subscriptTail e (.Slice none none (some (.UnaryOp .USub (.Constant (.int 1) k p1) p2)) p3) (.ref a) (.ref s4.heap.objs.size)) (EP X pins σ Q) X.xe { s4 with heap := s4.heap.push { cls := .type "slice", data := .fields #[.none, .none, .int (-1) t] } }
      refine tail_any (ops := [.ref a, .ref s4.heap.objs.size]) tp.typeIs PyProof.Rows.slot_tuple_getitem.lookup ?_ (by with_unfolding_all rfl)
      refine tuple_back tp (Heap.IsSliceOf.new _ .none .none (.int (-1) t)) (by rw [List.size_toArray]; omega) ?_
      have hfr := I5.hok.fresh (Nat.le_refl _)
      refine ⟨.ref _, _, I5.laid (t' := s4.toks) (o := .tup vs.reverse) (fun b ob q => Heap.get?_push_of_some _ q) (Nat.le_refl _) ?_, rfl, new_tup sr1 h2.rev pq _ hfr⟩
      exact ⟨by rw [List.length_reverse]; exact hz, its.reverse, rv.reverse, ⟨_, Heap.get?_push_size _ rfl, rfl, _, rfl⟩⟩
  | _ => exact pq.elim
end
end L3
namespace L3
open PySem PySem.Spec PyProof.Rows L2
/-! ### keywords in any order -/
theorem vals_getD : ∀ {vs : List V} {us : List Value}, Vals vs us → ∀ i : Nat, RelV (vs.getD i .non) (us.getD i .none)
  | [], us, h, i => by cases h; exact rfl
  | v :: vs, us, h, 0 => by
    cases h with
    | cons r _ => exact r
  | v :: vs, us, h, i + 1 => by
    cases h with
    | cons _ t => exact vals_getD t i
theorem repl_getD {G : GC} {w : Wd} : ∀ {ds : List D} {vs : List V}, RepL G w ds vs → ∀ i : Nat, Rep G w (ds.getD i .non) (vs.getD i .non)
  | [], vs, h, i => by simp only [RepL] at h; subst h; simp [Rep]
  | d :: ds, vs, h, 0 => by
    simp only [RepL] at h
    obtain ⟨v, r, rfl, h1, _⟩ := h
    exact h1
  | d :: ds, vs, h, i + 1 => by
    simp only [RepL] at h
    obtain ⟨v, r, rfl, _, h2⟩ := h
    exact repl_getD h2 i
/-- from where each parameter comes: the positional values (false) or the keywords' (true) -/
def gath {α : Type} (z : α) (src : List (Bool × Nat)) (us ws : List α) : List α := src.map fun p => if p.1 then ws.getD p.2 z else us.getD p.2 z
theorem gath_vals {vs zs : List V} {us ws : List Value} (h : Vals vs us) (g : Vals zs ws) : ∀ src : List (Bool × Nat), Vals (gath .non src vs zs) (gath .none src us ws)
  | [] => .nil
  | p :: r => by
    refine .cons ?_ (gath_vals h g r)
    show RelV (if p.1 then zs.getD p.2 .non else vs.getD p.2 .non) (if p.1 then ws.getD p.2 .none else us.getD p.2 .none)
    split
    · exact vals_getD g _
    · exact vals_getD h _
theorem gath_reps {G : GC} {w : Wd} {ds es : List D} {vs zs : List V} (h : RepL G w ds vs) (g : RepL G w es zs) : ∀ src : List (Bool × Nat), RepL G w (gath .non src ds es) (gath .non src vs zs)
  | [] => by simp [gath, RepL]
  | p :: r => by
    show RepL G w ((if p.1 then es.getD p.2 .non else ds.getD p.2 .non) :: gath .non r ds es) ((if p.1 then zs.getD p.2 .non else vs.getD p.2 .non) :: gath .non r vs zs)
    simp only [RepL]
    refine ⟨_, _, rfl, ?_, gath_reps h g r⟩
    split
    · exact repl_getD g _
    · exact repl_getD h _
section
variable {X : Cx} {G : GC} {Wx : WX} {pos p : Pos} {k : Nat} {f : Addr} {fd : FuncData} {ps : List Str} {F : FN} {x : Str}
theorem kbd_of {n : Nat} {ks : List Str} (src : List (Bool × Nat)) (h : ∀ (s : Shared) (us ws : List Value), us.length = n → ws.length = ks.length → BindsTo s fd ⟨us, ks.zip ws⟩ (ps.zip (gath .none src us ws))) : Kbd G fd ps n ks (gath .non src) :=
  ⟨gath .none src, gath .non src, ⟨fun s us ws _ h1 h2 => h s us ws h1 h2, fun r1 r2 => gath_vals r1 r2 src⟩, fun w ds es vs zs _ _ r1 r2 => gath_reps r1 r2 src⟩
/-- f(k = v, ..) -/
theorem q_fnK0 {kws : List Keyword} {ks : List Str} {gD : List D → List D → List D} {b : AD} (c : Cal X.prog X.w G X.base k x f fd ps F) (hb : Kbd G fd ps 0 ks gD) (hr : RoomG k X.A) (hK : X.K = G.K) (hm : X.mg = G.mg) (hg : Gl X x) (tk : Takes X Wx)
    (hkw : QK X G Wx kws b) (hall : (backToKw pos (keywordEach kws X.env)).all (·.1.isSome) = true := by rfl) (hks : (backToKw pos (keywordEach kws X.env)).filterMap (·.1) = ks := by rfl)
    (hdb : (x == ("__debug__" : Str)) = false := by decide) (hpl : ((backTo pos (starEach [] X.env)).any (·.1) || (backToKw pos (keywordEach kws X.env)).any (·.1.isNone)) = false := by rfl) :
    PE X (.Call (.Name x p) [] kws pos) (tE G (eKw (kwK F 0 ks.length gD) aNil b) Wx) := by
  obtain ⟨g, gV, hn, hrep⟩ := hb
  have ok := c.ok
  rw [← hK, ← hm] at ok
  have kp : PySem.W.keepIn X.K (.ref f) = true := by rw [hK]; exact c.kp
  rw [← hK] at hn
  refine ⟨fun pins s σ H Q I q => ?_⟩
  obtain ⟨wd, env, rfl, sr, er, pp⟩ := q
  refine wpAny_Call_Name_kw (ld_glob I hg (by rw [hm]; exact c.m) ?_ hdb)
  refine PySem.W.callWith_KW0 (h₀ := X.base) I.ok.mod.kin kp hall ?_ hpl
  refine thn (hkw.pk.run pos pins s σ wd.H _ I ⟨wd, env, rfl, sr, er, Post.bind (Ra := RepL G) pp⟩) fun ws s2 ⟨zs, H2, I2, rz, q2⟩ => ⟨I2.kIn, ?_⟩
  obtain ⟨w2, d2, rfl, x2, s2', rp2, p2⟩ := q2
  rw [hks]
  unfold kwK at p2
  split at p2
  · rename_i hl
    refine wpAny_call (codeAny_mono (FnG.called (E := WE Wx) ok hr (passAt tk σ) I2 (hn.to s2 [] ws I2.kIn rfl ?_) (hn.rel .nil rz) ⟨w2, gD [] d2, rfl, s2', hrep w2 [] d2 [] zs hl.1 hl.2 (by simp [RepL]) rp2, p2⟩) fun r s' hq => ?_)
    · rw [← rz.length, rp2.length]; exact hl.2
    · match r, hq with
      | .error e, hq => exact hq
      | .ok (.ret u), hq => exact hq
  · exact p2.elim
end
theorem b_repr : bootBuiltins "repr" = some (.builtin "repr") := by decide +kernel
theorem b_sorted : bootBuiltins "sorted" = some (.builtin "sorted") := by decide +kernel
end L3
set_option Elab.async false
set_option linter.all false
set_option maxRecDepth 100000
/-! L4A: enumerate. -/
namespace L3
open PySem PySem.Spec PyProof.Rows L2
set_option maxHeartbeats 1000000 in
theorem meets_enum1 {v : Value} {o : Obj} {H : Heap → Prop} (B : Begins v o H) :
    Meets (Builtin.«enumerate.__new__» ⟨[.type "enumerate", v], []⟩) (fun _ R s => H s.heap ∧
      R (.ok (.ret (.ref (s.heap.push o).objs.size))) { s with heap := (s.heap.push o).push { cls := .type "enumerate", data := .fields #[.none, .bool false, .ref s.heap.objs.size, rawInt 0, .none, .none] } }) :=
  .of_wp fun prog w A R s h => by
    obtain ⟨hp, g, d, tk, os⟩ := s; obtain ⟨h1, h⟩ := h
    have hsub := sub_enumerate
    have q1 : ∀ {A' : Around} {E : Value → Shared → Prop} {Q : Value → Shared → Prop}, Q (.ref hp.objs.size) ⟨hp.push o, g, d, tk, os⟩ → wpAny (model prog w) A' (pyIter v) Q E ⟨hp, g, d, tk, os⟩ :=
      fun q => B.iter prog w _ _ ⟨hp, g, d, tk, os⟩ _ h1 q
    wp_walk using q1
    refine wpAny_stack_any fun st => wpAny_pure ?_
    split
    · rename_i c _ _ _ _ _
      cases (c == Value.type "enumerate")
      · wp_walk using q1
        exact ⟨_, rfl, h⟩
      · wp_walk using q1
        exact ⟨_, rfl, h⟩
    · wp_walk using q1
      exact ⟨_, rfl, h⟩
section
variable {prog : Program} {w : World} {A : Around} {E : Value → Shared → Prop} {s : Shared}
theorem enum1 {v : Value} {o : Obj} {H : Heap → Prop} {Q : Value → Shared → Prop} (B : Begins v o H) (h1 : H s.heap)
    (h : ∀ h', IsEnum h' (s.heap.objs.size + 1) s.heap.objs.size 0 .none → h'.get? s.heap.objs.size = some o → h'.objs.size = s.heap.objs.size + 2 →
      (∀ b o, s.heap.get? b = some o → h'.get? b = some o) → Q (.ref (s.heap.objs.size + 1)) { s with heap := h' }) :
    wpAny (model prog w) A (call (.type "enumerate") [v]) Q E s := by
  refine callType_new F.called_enumerate (by decide) (F.typeCall_enumerate_1 _) (F.newCall_enumerate_1 _) (fun obj => F.args_object_init_2 obj _) F.entry_enumerate_new
    (meets_enum1 B) ⟨h1, ?_⟩
  have hz : (s.heap.push o).objs.size = s.heap.objs.size + 1 := Heap.size_push ..
  show _ ∧ _
  rw [hz]
  have he : IsEnum ((s.heap.push o).push { cls := .type "enumerate", data := .fields #[.none, .bool false, .ref s.heap.objs.size, rawInt 0, .none, .none] }) (s.heap.objs.size + 1) s.heap.objs.size 0 .none := by
    have := Heap.get?_push_size (s.heap.push o) (o := { cls := .type "enumerate", data := .fields #[.none, .bool false, .ref s.heap.objs.size, rawInt 0, .none, .none] }) rfl
    rw [hz] at this; exact this
  refine ⟨⟨_, he, rfl⟩, h _ he (Heap.get?_push_of_some _ (Heap.get?_push_size _ B.free)) (by rw [Heap.size_push, hz]) fun b o x => Heap.get?_push_of_some _ (Heap.get?_push_of_some _ x)⟩
end
/-! tuples -/
def Itet (K : PySem.W.Frag) (a : Addr) : It :=
  ⟨fun i H => ∃ (xs : List V) (x : V), SqT K H a xs ∧ xs[i]? = some x, fun i H v H' => ∃ T x, v = .ref T ∧ H T = none ∧ H' = upd H T (.tup [.int (i : Nat), x]) ∧ ∀ xs, SqT K H a xs → xs[i]? = some x, fun i H => ∃ xs : List V, SqT K H a xs ∧ xs.length = i⟩
theorem turn_enumT {P : Program} {w : World} {K : PySem.W.Frag} {elts : List Expr} {kk : Nat} {tpos : Pos} (a e it : Addr) :
    Turn P w K (.Tuple elts kk tpos) (Itet K a) [e, it] e (fun i h => (∃ old, IsEnum h e it ((i : Nat) : Int) old) ∧ h.IsTupleIter it a i ∧ e ≠ it ∧ a ≠ it ∧ a ≠ e) where
  mem := by simp
  obj := fun i h st b hb => by
    obtain ⟨⟨old, he⟩, ⟨o, ho, hc, hd⟩, _⟩ := st
    have e' : b = e ∨ b = it := by simpa using hb
    rcases e' with z | z
    · rw [z]; exact ⟨_, he, fun v q => nomatch q⟩
    · rw [z]; exact ⟨o, ho, fun v q => by rw [hd] at q; cases q⟩
  keep := fun i h h' st k => let ⟨⟨old, he⟩, ⟨o, ho, r⟩, hne⟩ := st; ⟨⟨old, k e (by simp) _ he⟩, ⟨o, k it (by simp) o ho, r⟩, hne⟩
  item := by
    intro X hP hw hK hc i pins s σ H E I hf st hg
    subst hP hw hK
    obtain ⟨⟨old, he⟩, hit, hne, hait, hae⟩ := st
    obtain ⟨xs, x, hq, hx⟩ := hg
    obtain ⟨its, rv, p, hz⟩ := I.tuple hq
    obtain ⟨u, hu, ru⟩ := rv.get hx
    have hel : e < s.heap.objs.size := Heap.lt_size he
    have hil : it < s.heap.objs.size := by obtain ⟨_, q, _⟩ := hit; exact Heap.lt_size q
    have hlt : i < its.toArray.size := by
      have := (List.getElem?_eq_some_iff.mp hu).1
      simpa using this
    have hdn : X.A.in1.handled = none := I.ok.hd hc
    refine wpAny_pyNext_enum_itemD (Draws.tuple hdn it a hait its.toArray) he ⟨hit, (show s.heap.IsTuple a its.toArray from p)⟩ hlt hne (by simp [Ne.symm hae, hne]) fun y h' tk hy ho hit' hT hsz hk => ?_
    have hyu : y = u := by
      have : its.toArray[i]? = some u := by simpa using hu
      rw [this] at hy; exact (Option.some.inj hy).symm
    subst hyu
    refine ⟨_, rfl, wpAny_letOwnedTupleGo_enum (s := { s with heap := h', toks := tk + 1 }) ho fun h'' he' sb => ?_⟩
    have hT2 : h''.get? s.heap.objs.size = some { cls := .type "tuple", data := .seq #[.int i tk, y] } := (sb.2 _ (Nat.ne_of_gt hel)).trans hT
    have new : ObjOk X.prog X.w (upd H s.heap.objs.size (.tup [.int (i : Nat), x])) h'' s.heap.objs.size (.tup [.int (i : Nat), x]) :=
      ⟨by show 2 ≤ sizeLine; decide, [.int i tk, y], .cons ⟨_, rfl⟩ (.cons ru .nil), ⟨_, hT2, rfl, _, rfl⟩⟩
    have I1 : Inv X pins σ (upd H s.heap.objs.size (.tup [.int (i : Nat), x])) { s with heap := h'', toks := tk + 1 } :=
      I.turnedNew (ch := [e, it]) (fun b ob hb q => (sb.2 b (fun z => hb (by simp [z]))).trans (hk b ob (fun z => hb (by simp [z])) (fun z => hb (by simp [z])) q)) hf (Nat.le_refl _) new
    refine ⟨.ref s.heap.objs.size, _, I1, rfl, ⟨_, x, rfl, I.hok.fresh (Nat.le_refl _), rfl, fun ys hy => ?_⟩, ⟨⟨y, ?_⟩, ?_, hne, hait, hae⟩, fun b hb => ?_⟩
    · rw [I.tuple_inj hy hq]; exact hx
    · have e1 : ((i + 1 : Nat) : Int) = (i : Int) + 1 := by omega
      rw [e1]; exact he'
    · obtain ⟨o, ho, r⟩ := hit'.1
      exact ⟨o, (sb.2 it (Ne.symm hne)).trans ho, r⟩
    · have hb' : b < s.heap.objs.size := by
        have e' : b = e ∨ b = it := by simpa using hb
        rcases e' with z | z
        · rw [z]; exact hel
        · rw [z]; exact hil
      rw [upd_ne (Nat.ne_of_lt hb')]
      exact (hf b hb).1
  done := by
    intro X hP hw hK hc i pins s σ H E I hf st hg
    subst hP hw hK
    obtain ⟨⟨old, he⟩, hit, hne, hait, hae⟩ := st
    obtain ⟨xs, hq, hx⟩ := hg
    obtain ⟨its, rv, p, hz⟩ := I.tuple hq
    obtain ⟨f0, f1, f2, f3, f4, f5⟩ := hf it (by simp)
    have hl := rv.length
    have hsz : i = its.toArray.size := by simp; omega
    subst hsz
    exact wpAny_pyNext_enum_endD (Draws.tuple (show X.A.in1.handled = none from I.ok.hd hc) it a hait its.toArray) he ⟨hit, (show s.heap.IsTuple a its.toArray from p)⟩ fun h' eb => ⟨rfl, I.turned (t' := s.toks) (fun b o hb q => eb b o hb q) f0 f1 f3 f4 f5⟩
  self := fun A i s Q E st h => let ⟨⟨_, he⟩, _⟩ := st; wpAny_pyIter_enum he h
def enumL : Nat → List D → List D
  | _, [] => []
  | i, x :: xs => .tup [.int (i : Int), x] :: enumL (i + 1) xs
def enumD (x : D) (S : Store) : R (List D) := match x with
  | .tup l => .ok (enumL 0 l) S
  | .lst l => .ok (enumL 0 l) S
  | .scr ns => .ok (enumL 0 (ns.map .int)) S
  | _ => .bad
theorem enumL_get : ∀ (k : Nat) (l : List D) (i : Nat) (d : D), (enumL k l)[i]? = some d → ∃ x, l[i]? = some x ∧ d = .tup [.int ((k + i : Nat) : Int), x]
  | _, [], i, d, h => by simp [enumL] at h
  | k, x :: xs, 0, d, h => by
    simp only [enumL, List.getElem?_cons_zero, Option.some.injEq] at h
    exact ⟨x, rfl, h.symm⟩
  | k, x :: xs, i + 1, d, h => by
    simp only [enumL, List.getElem?_cons_succ] at h ⊢
    obtain ⟨y, h1, h2⟩ := enumL_get (k + 1) xs i d h
    exact ⟨y, h1, by rw [h2, show k + 1 + i = k + (i + 1) by omega]⟩
theorem enumL_len : ∀ (k : Nat) (l : List D), (enumL k l).length = l.length
  | _, [] => rfl
  | k, x :: xs => by simp [enumL, enumL_len (k + 1) xs]
section
variable {G : GC} {X : Cx} {Wx : WX} {pos : Pos}
theorem new_pair {w : Wd} {T : Addr} {i : Int} {d : D} {v : V} (sr : SRep G w) (hT : w.H T = none) (r : Rep G w d v) :
    ∃ w'', w''.H = upd w.H T (.tup [.int i, v]) ∧ WExt w w'' ∧ w''.S = w.S ∧ SRep G w'' ∧ Rep G w'' (.tup [.int i, d]) (.ref T) := by
  obtain ⟨x, s, nm⟩ := new_ext (o := .tup [.int i, v]) sr hT
  refine ⟨w.put T (.tup [.int i, v]), rfl, x, rfl, s, ?_⟩
  simp only [Rep]
  refine ⟨T, [.int i, v], rfl, .inl ⟨?_, nm⟩, ?_⟩
  · exact upd_same
  · simp only [RepL, Rep]
    exact ⟨_, _, rfl, rfl, v, [], rfl, Rep.mono x _ _ r, rfl⟩
theorem it_enumT {w : Wd} {a : Addr} {vs : List V} {l : List D} (h : TupAt G w a vs l) (r : RepL G w l vs) : ItOk G w (Itet G.K a) (enumL 0 l) := by
  have sq : ∀ (T : List Addr) w', Tok T w → WX' T w w' → SqT G.K w'.H a vs := fun T w' hT x => by
    rcases h with ⟨h, nm⟩ | h
    · exact .inl (.inl (x.keepM hT h nm).1)
    · exact .inr h.1
  refine ⟨fun T w' hT x s i d e => ?_, fun T w' hT x s => ⟨vs, sq T w' hT x, by rw [enumL_len, r.length]⟩⟩
  obtain ⟨y, e1, rfl⟩ := enumL_get 0 l i d e
  obtain ⟨v, q1, q2⟩ := r.get e1
  refine ⟨⟨vs, v, sq T w' hT x, q1⟩, fun y H'' hy => ?_⟩
  obtain ⟨Tn, z, rfl, hTn, rfl, hy⟩ := hy
  have e2 := hy vs (sq T w' hT x)
  rw [q1] at e2; cases e2
  have := new_pair (i := ((0 + i : Nat) : Int)) s hTn (Rep.monoT x hT _ _ q2)
  rw [show 0 + i = i by omega] at this ⊢
  exact this
theorem it_enum {w : Wd} {a : Addr} {vs : List V} {l : List D} (h : (w.H a = some (.lst vs) ∧ ¬ Mut w a) ∨ Fz w a (.lst vs) ∨ KL G.K a vs) (r : RepL G w l vs) : ItOk G w (Ite G.K a) (enumL 0 l) := by
  have sq : ∀ (T : List Addr) w', Tok T w → WX' T w w' → SqL G.K w'.H a vs := fun T w' hT x => by
    rcases h with ⟨h, nm⟩ | h | h
    · exact .inl (.inl (x.keepM hT h nm).1)
    · exact .inl (Fz.monoT x hT h).1
    · exact .inr h
  refine ⟨fun T w' hT x s i d e => ?_, fun T w' hT x s => ⟨vs, sq T w' hT x, by rw [enumL_len, r.length]; exact Nat.le_refl _⟩⟩
  obtain ⟨y, e1, rfl⟩ := enumL_get 0 l i d e
  obtain ⟨v, q1, q2⟩ := r.get e1
  refine ⟨⟨vs, v, sq T w' hT x, q1⟩, fun y H'' hy => ?_⟩
  obtain ⟨Tn, z, rfl, hTn, rfl, hy⟩ := hy
  have e2 := hy vs (sq T w' hT x)
  rw [q1] at e2; cases e2
  have := new_pair (i := ((0 + i : Nat) : Int)) s hTn (Rep.monoT x hT _ _ q2)
  rw [show 0 + i = i by omega] at this ⊢
  exact this
def enumA : List D → Store → R (List D) := fun xs S => match xs with
  | [x] => enumD x S
  | _ => .bad
/-- for i, x in enumerate(..) -/
theorem q_enum {elts : List Expr} {kk : Nat} {tpos p : Pos} {e : Expr} {m : AD} (hK : X.K = G.K) (hg : Gl X "enumerate") (hm : X.mg "enumerate" = none) (ha : PA X [e] (tA G m Wx)) (hs : starEach [e] X.env = [(false, eval e X.env)] := by rfl) :
    PI X (.Tuple elts kk tpos) (.Call (.Name "enumerate" p) [e] [] pos) (tI G (iArgs enumA m) Wx) := by
  refine ⟨fun pins s σ H R I q => ?_⟩
  obtain ⟨w, env, rfl, sr, er, p⟩ := q
  refine Call_ (ld_blt I hg hm boot_enumerate (PyProof.Rows.callWith_type1 (thn (ha.run pos pins s σ w.H _ I ⟨w, env, rfl, sr, er, Post.bind p⟩) fun us s1 ⟨vs, H1, I1, r1, q1⟩ => ?_) hs rfl))
  obtain ⟨w1, ds, rfl, x1, sr1, rp1, p1⟩ := q1
  unfold enumA at p1
  split at p1
  · rename_i d1
    simp only [RepL] at rp1
    obtain ⟨v, r', rfl, rp1, rfl⟩ := rp1
    cases r1 with
    | cons r rr =>
      cases rr
      have lst : ∀ {a : Addr} {vs : List V}, SqL X.K w1.H a vs → R (Ite G.K a) w1.H → wpAny (model X.prog X.w) X.A (call (.type "enumerate") [.ref a]) (fun v s' => wpAny (model X.prog X.w) X.A (pyIter v) (PIE X pins σ (.Tuple elts kk tpos) R) X.xe s') X.xe s1 := fun {a vs} hq q => by
        obtain ⟨its, rv, p', hz⟩ := I1.list hq
        refine call_enumerate_list p'.isList fun h' he hit hsz hk => wpAny_pyIter_enum he ?_
        have I2 : Inv X pins σ w1.H { s1 with heap := h' } := I1.kept (t' := s1.toks) hk
        refine ⟨s1.heap.objs.size + 1, [s1.heap.objs.size + 1, s1.heap.objs.size], _, _, w1.H, rfl, I2, turn_enum a (s1.heap.objs.size + 1) s1.heap.objs.size, ⟨⟨.none, he⟩, hit, Nat.succ_ne_self _⟩, fun b hb => ?_, by rw [hK]; exact q⟩
        have e' : b = s1.heap.objs.size + 1 ∨ b = s1.heap.objs.size := by simpa using hb
        have hle : s1.heap.objs.size ≤ b := by
          rcases e' with z | z
          · rw [z]; exact Nat.le_add_right _ _
          · rw [z]; exact Nat.le_refl _
        exact I1.fpOk hle (I1.hok.fresh hle)
      unfold enumD at p1
      split at p1
      · rename_i l
        simp only [Rep] at rp1
        obtain ⟨a, vs, rfl, hq, rl⟩ := rp1
        cases r
        have q := p1 (Itet G.K a) w1 (.refl _) rfl sr1 (it_enumT hq rl)
        have hq' : SqT X.K w1.H a vs := by rw [hK]; exact hq.imp (fun z => .inl z.1) (fun z => z.1)
        obtain ⟨its, rv, p, hz⟩ := I1.tuple hq'
        have hT : s1.heap.IsTuple a its.toArray := p
        have hal : a < s1.heap.objs.size := by obtain ⟨_, q, _⟩ := hT; exact Heap.lt_size q
        refine enum1 (begins_tuple a its.toArray) hT fun h' he hit hsz hk => wpAny_pyIter_enum he ?_
        have I2 : Inv X pins σ w1.H { s1 with heap := h' } := I1.kept (t' := s1.toks) hk
        refine ⟨s1.heap.objs.size + 1, [s1.heap.objs.size + 1, s1.heap.objs.size], _, _, w1.H, rfl, I2, turn_enumT a (s1.heap.objs.size + 1) s1.heap.objs.size, ⟨⟨.none, he⟩, ⟨_, hit, rfl, rfl⟩, Nat.succ_ne_self _, Nat.ne_of_lt hal, Nat.ne_of_lt (Nat.lt_succ_of_lt hal)⟩, fun b hb => ?_, by rw [hK]; exact q⟩
        have e' : b = s1.heap.objs.size + 1 ∨ b = s1.heap.objs.size := by simpa using hb
        have hle : s1.heap.objs.size ≤ b := by
          rcases e' with z | z
          · rw [z]; exact Nat.le_add_right _ _
          · rw [z]; exact Nat.le_refl _
        exact I1.fpOk hle (I1.hok.fresh hle)
      · rename_i l
        simp only [Rep] at rp1
        obtain ⟨a, vs, rfl, hq, nm, rl⟩ := rp1
        cases r
        exact lst (vs := vs) (.inl (.inl hq)) (p1 (Ite G.K a) w1 (.refl _) rfl sr1 (it_enum (.inl ⟨hq, nm⟩) rl))
      · rename_i ns
        simp only [Rep] at rp1
        obtain ⟨a, rfl, hq⟩ := rp1
        cases r
        exact lst (vs := ns.map V.int) (by rw [hK]; exact hq.imp (fun z => z.1) id) (p1 (Ite G.K a) w1 (.refl _) rfl sr1 (it_enum (.inr hq) (RepL_ints.mpr rfl)))
      · exact p1.elim
  · exact p1.elim
end
end L3
set_option Elab.async false
set_option linter.all false
set_option maxRecDepth 100000
/-! L4B: [.. for .. in .. for .. in ..]. -/
namespace L3
open PySem PySem.Spec PyProof.Rows L2
def lcL2 (g : GD) (tt : TD) (mi1 : ID) (vs1 : List Nat) (g1 : GD) (tt1 : TD) (te : ED) (env : EnvD) : List D → Store → R (List D)
  | [], S => .ok [] S
  | x :: xs, S => match g x env S with
    | .nx env1 S1 => (tt env1 S1).nox.bind fun k S2 => match k with
      | true => (mi1 env1 S2).nox.bind fun ys S3 => (lcL g1 tt1 te (wipeD env1 vs1) ys S3).bind fun zs S4 => (lcL2 g tt mi1 vs1 g1 tt1 te env xs S4).bind fun us S5 => .ok (zs ++ us) S5
      | false => lcL2 g tt mi1 vs1 g1 tt1 te env xs S2
    | _ => .bad
def eLc2 (mi : ID) (vs : List Nat) (g : GD) (tt : TD) (mi1 : ID) (vs1 : List Nat) (g1 : GD) (tt1 : TD) (te : ED) : ED := fun env S => (mi env S).bind fun xs S1 =>
  (lcL2 g tt mi1 vs1 g1 tt1 te (wipeD env vs) xs S1).nox.bind fun ys S2 => if ys.length ≤ sizeLine then .ok (.lst ys) S2 else .bad
theorem bind_eq {α β : Type} {r : R α} {f : α → Store → R β} {b : β} {S : Store} (h : r.bind f = .ok b S) : ∃ a S1, r = .ok a S1 ∧ f a S1 = .ok b S := by
  cases r with
  | ok a S1 => exact ⟨a, S1, rfl, h⟩
  | exc e S1 => cases h
  | bad => cases h
theorem nox_eq {α : Type} {r : R α} {b : α} {S : Store} (h : r.nox = .ok b S) : r = .ok b S := by
  cases r with
  | ok a S1 => exact h
  | exc e S1 => cases h
  | bad => cases h
section
variable {G : GC} {X : Cx} {Wx : WX} {pos : Pos}
/-- the list in the making, one more at its end -/
theorem put_end {w : Wd} {L : Addr} {us : List V} {v : V} (s7 : SRep G w) (tm7 : L ∈ w.tmp) : WX' [L] w (w.put L (.lst (us ++ [v]))) ∧ Tok [L] w ∧ SRep G (w.put L (.lst (us ++ [v]))) := by
  have nm7 : ¬ MutS w L := (s7.tm L tm7).2
  have x8 : WX' [L] w (w.put L (.lst (us ++ [v]))) := ⟨fun _ _ h => h, fun a o h nm ha => ⟨(upd_ne (by simpa using ha)).trans h, nm⟩, fun a h => .inl h, fun a h => h⟩
  have t8 : Tok [L] w := fun a h => .inl (by have : a = L := by simpa using h
                                             rw [this]; exact tm7)
  refine ⟨x8, t8, s7.len, s7.inj, fun n ob a h1 h2 => ?_, fun a ha => ?_⟩
  · have h := s7.obj n ob a h1 h2
    exact h.keep x8 t8 fun lv => upd_ne fun e => nm7 (by subst e; exact ⟨n, ob, h1, lv, h2⟩)
  · obtain ⟨⟨u, e⟩, nm⟩ := s7.tm a ha
    by_cases ea : a = L
    · subst ea; exact ⟨⟨_, upd_same⟩, nm⟩
    · exact ⟨⟨u, (upd_ne ea).trans e⟩, nm⟩
theorem imp_lc2 {mi mi1 : ID} {vs vs1 : List Nat} {g g1 : GD} {tt tt1 : TD} {te : ED} : ∀ σ H Q, tE G (eLc2 mi vs g tt mi1 vs1 g1 tt1 te) Wx σ H Q → tLc2 (tI G mi Wx) (tGW G g vs) (tT G tt WF) (tI G mi1 WF) (tGW G g1 vs1) (tT G tt1 WF) (tE G te WF) vs vs1 σ H Q := by
  intro σ H Q q
  obtain ⟨w, env, rfl, sr, er, p⟩ := q
  refine ⟨w, env, rfl, sr, er, (Post.bind (Ra := fun w' xs (J : It) => ItOk G w' J xs) p).mono (fun J H1 m => ?_) fun _ _ _ h => h⟩
  obtain ⟨w1, xs, rfl, x1, s1, io, p1⟩ := m
  intro L hL
  have hfr : ∀ a ∈ [L], w1.H a = none := fun a h => by have : a = L := by simpa using h
                                                       rw [this]; exact hL
  obtain ⟨F, SF, hF, hz⟩ : ∃ F SF, lcL2 g tt mi1 vs1 g1 tt1 te (wipeD env vs) xs w1.S = .ok F SF ∧ F.length ≤ sizeLine := by
    cases h : lcL2 g tt mi1 vs1 g1 tt1 te (wipeD env vs) xs w1.S with
    | ok F SF =>
      rw [h] at p1
      by_cases hz : F.length ≤ sizeLine
      · exact ⟨F, SF, rfl, hz⟩
      · simp only [R.nox, R.bind, if_neg hz] at p1; exact p1.elim
    | exc e S => rw [h] at p1; exact p1.elim
    | bad => rw [h] at p1; exact p1.elim
  rw [hF] at p1
  simp only [R.nox, R.bind, if_pos hz] at p1
  have er1 := (er.mono x1).wipe vs
  have h0 : WX' [L] w1 ⟨w1.mu, w1.S, upd w1.H L (.lst []), L :: w1.tmp⟩ :=
    ⟨fun _ _ h => h, fun a o h nm ha => ⟨(upd_ne (by simpa using ha)).trans h, nm⟩, fun a h => by
      rcases List.mem_cons.mp h with e | h
      · exact .inr (by simp [e])
      · exact .inl h, fun a h => List.mem_cons_of_mem _ h⟩
  have nL : ¬ MutS w1 L := fun m => by obtain ⟨u, e⟩ := MutS.there s1 m; rw [hL] at e; cases e
  have sW : SRep G ⟨w1.mu, w1.S, upd w1.H L (.lst []), L :: w1.tmp⟩ := by
    refine ⟨s1.len, s1.inj, fun n ob a h1 h2 => ?_, fun a ha => ?_⟩
    · have h := s1.obj n ob a h1 h2
      refine h.keep h0 (fr_tok hfr) fun lv => ?_
      obtain ⟨u, e⟩ := h.there lv
      exact upd_ne (ne_of_none e hL)
    · rcases List.mem_cons.mp ha with e | ha
      · subst e; exact ⟨⟨_, upd_same⟩, nL⟩
      · obtain ⟨⟨u, e⟩, nm⟩ := s1.tm a ha
        exact ⟨⟨u, (upd_ne (ne_of_none e hL)).trans e⟩, nm⟩
  refine ⟨fun i m H => ∃ w3 acc us, w3.H = H ∧ SRep G w3 ∧ WX' [L] w1 w3 ∧ L ∈ w3.tmp ∧ w3.H L = some (.lst us) ∧ RepL G w3 acc us ∧ i + m = xs.length ∧
      ((lcL2 g tt mi1 vs1 g1 tt1 te (wipeD env vs) (xs.drop i) w3.S).bind fun ys S2 => .ok (acc ++ ys) S2) = .ok F SF,
    ⟨xs.length, _, [], [], rfl, sW, h0, by simp, upd_same, by simp [RepL], by omega, ?_⟩, fun i m H hW => ?_⟩
  · simp only [List.drop_zero, List.nil_append, R.bind_ok]; exact hF
  obtain ⟨w3, acc, us, rfl, s3, x3, tm3, hL3, ra3, em, eq⟩ := hW
  by_cases hi : i < xs.length
  · have e : xs[i]? = some xs[i] := List.getElem?_eq_getElem hi
    obtain ⟨go, yl⟩ := io.go [L] w3 (fr_tok hfr) x3 s3 i xs[i] e
    refine .inr ⟨go, fun H' => ∃ w5 acc us, w5.H = H' ∧ SRep G w5 ∧ WX' [L] w1 w5 ∧ L ∈ w5.tmp ∧ w5.H L = some (.lst us) ∧ RepL G w5 acc us ∧ (i + 1) + (m - 1) = xs.length ∧
      ((lcL2 g tt mi1 vs1 g1 tt1 te (wipeD env vs) (xs.drop (i + 1)) w5.S).bind fun ys S2 => .ok (acc ++ ys) S2) = .ok F SF, fun H' hN => ⟨m - 1, by omega, hN⟩, fun x H' hy => ?_⟩
    obtain ⟨w4, rfl, x4, eS4, s4, rp4⟩ := yl x H' hy
    have x14 : WX' [L] w1 w4 := WX'.trans x3 (WX'.wide x4)
    refine ⟨w4, wipeD env vs, xs[i], rfl, s4, er1.monoT x14 (fr_tok hfr), rp4, ?_⟩
    rw [List.drop_eq_getElem_cons hi, lcL2] at eq
    rw [eS4]
    cases hg : g xs[i] (wipeD env vs) w3.S with
    | nx env5 S5 =>
      rw [hg] at eq
      simp only at eq
      intro σ5 w5 x5 e5 s5 er5 hw
      subst e5
      refine ⟨hw.trans (wipe_sub fun _ h => h), w5, env5, rfl, s5, er5, ?_⟩
      cases ht : tt env5 w5.S with
      | ok k S6 =>
        rw [ht] at eq
        simp only [R.nox, R.bind] at eq
        intro b w6 x6 e6 s6 hb
        subst hb e6
        have x46 : WExt w4 w6 := WX'.trans x5 x6
        have x16 : WX' [L] w1 w6 := WX'.trans x14 (WX'.wide x46)
        have hL6 : w6.H L = some (.lst us) := (x46.keep L _ ((x4.keep L _ hL3 ((s3.tm L tm3).2) (by simp)).1) ((s4.tm L (x4.tmp' L tm3)).2) (by simp)).1
        have tm6 : L ∈ w6.tmp := x46.tmp' L (x4.tmp' L tm3)
        have ra6 : RepL G w6 acc us := RepL.mono (WX'.trans x4 x46) _ _ ra3
        cases k with
        | false =>
          refine iteF ⟨w6, acc, us, rfl, s6, x16, tm6, hL6, ra6, by omega, ?_⟩
          simpa [R.bind] using eq
        | true =>
          refine iteT ⟨w6, env5, rfl, s6, er5.mono x6, ?_⟩
          simp only at eq
          cases hm1 : mi1 env5 w6.S with
          | ok ys S7 =>
            rw [hm1] at eq
            simp only [R.nox, R.bind] at eq
            intro J1 w7 x7 e7 s7 io1
            subst e7
            have er7 : ERep G w7 env5 σ5 := (er5.mono x6).mono x7
            have x17 : WX' [L] w1 w7 := WX'.trans x16 (WX'.wide x7)
            have hL7 : w7.H L = some (.lst us) := (x7.keep L _ hL6 ((s6.tm L tm6).2) (by simp)).1
            have tm7 : L ∈ w7.tmp := x7.tmp' L tm6
            have ra7 : RepL G w7 acc us := RepL.mono x7 _ _ ra6
            have t7 : Tok [L] w7 := fun a h => .inl (by have : a = L := by simpa using h
                                                        rw [this]; exact tm7)
            have er8 := er7.wipe vs1
            refine ⟨fun j k H => ∃ w8 acc us, w8.H = H ∧ SRep G w8 ∧ WX' [L] w7 w8 ∧ L ∈ w8.tmp ∧ w8.H L = some (.lst us) ∧ RepL G w8 acc us ∧ j + k = ys.length ∧
                ((lcL g1 tt1 te (wipeD env5 vs1) (ys.drop j) w8.S).bind fun zs S4 => (lcL2 g tt mi1 vs1 g1 tt1 te (wipeD env vs) (xs.drop (i + 1)) S4).bind fun us S5 => .ok (acc ++ (zs ++ us)) S5) = .ok F SF,
              ⟨ys.length, w7, acc, us, rfl, s7, ⟨fun _ _ h => h, fun a o h nm _ => ⟨h, nm⟩, fun a h => .inl h, fun a h => h⟩, tm7, hL7, ra7, by omega, ?_⟩, fun j k H hW1 => ?_⟩
            · rw [List.drop_zero]
              rw [← eq]
              simp only [R.bind_assoc]
            obtain ⟨w8, acc8, us8, rfl, s8, x8, tm8, hL8, ra8, ek, eq8⟩ := hW1
            by_cases hj : j < ys.length
            · have e1 : ys[j]? = some ys[j] := List.getElem?_eq_getElem hj
              obtain ⟨go1, yl1⟩ := io1.go [L] w8 t7 x8 s8 j ys[j] e1
              refine .inr ⟨go1, fun H' => ∃ w9 acc us, w9.H = H' ∧ SRep G w9 ∧ WX' [L] w7 w9 ∧ L ∈ w9.tmp ∧ w9.H L = some (.lst us) ∧ RepL G w9 acc us ∧ (j + 1) + (k - 1) = ys.length ∧
                ((lcL g1 tt1 te (wipeD env5 vs1) (ys.drop (j + 1)) w9.S).bind fun zs S4 => (lcL2 g tt mi1 vs1 g1 tt1 te (wipeD env vs) (xs.drop (i + 1)) S4).bind fun us S5 => .ok (acc ++ (zs ++ us)) S5) = .ok F SF, fun H' hN => ⟨k - 1, by omega, hN⟩, fun x H' hy => ?_⟩
              obtain ⟨w9, rfl, x9, eS9, s9, rp9⟩ := yl1 x H' hy
              have x79 : WX' [L] w7 w9 := WX'.trans x8 (WX'.wide x9)
              refine ⟨w9, wipeD env5 vs1, ys[j], rfl, s9, er8.monoT x79 t7, rp9, ?_⟩
              rw [List.drop_eq_getElem_cons hj, lcL] at eq8
              rw [eS9]
              cases hg1 : g1 ys[j] (wipeD env5 vs1) w8.S with
              | nx env10 S10 =>
                rw [hg1] at eq8
                simp only at eq8
                intro σ10 w10 x10 e10 s10 er10 hw10
                subst e10
                refine ⟨hw10.trans (wipe_sub fun _ h => h), w10, env10, rfl, s10, er10, ?_⟩
                cases ht1 : tt1 env10 w10.S with
                | ok k1 S11 =>
                  rw [ht1] at eq8
                  simp only [R.nox, R.bind] at eq8
                  intro b w11 x11 e11 s11 hb
                  subst hb e11
                  have x911 : WExt w9 w11 := WX'.trans x10 x11
                  have x711 : WX' [L] w7 w11 := WX'.trans x79 (WX'.wide x911)
                  have hL11 : w11.H L = some (.lst us8) := (x911.keep L _ ((x9.keep L _ hL8 ((s8.tm L tm8).2) (by simp)).1) ((s9.tm L (x9.tmp' L tm8)).2) (by simp)).1
                  have tm11 : L ∈ w11.tmp := x911.tmp' L (x9.tmp' L tm8)
                  have ra11 : RepL G w11 acc8 us8 := RepL.mono (WX'.trans x9 x911) _ _ ra8
                  cases k1 with
                  | false =>
                    refine iteF ⟨w11, acc8, us8, rfl, s11, x711, tm11, hL11, ra11, by omega, ?_⟩
                    simpa [R.bind] using eq8
                  | true =>
                    refine iteT ⟨w11, env10, rfl, s11, er10.mono x11, ?_⟩
                    simp only at eq8
                    cases hte : te env10 w11.S with
                    | ok y S12 =>
                      rw [hte] at eq8
                      simp only [R.nox, R.bind] at eq8
                      intro v w12 x12 e12 s12 r12
                      subst e12
                      have hL12 : w12.H L = some (.lst us8) := (x12.keep L _ hL11 ((s11.tm L tm11).2) (by simp)).1
                      have tm12 : L ∈ w12.tmp := x12.tmp' L tm11
                      have lu : us8.length = acc8.length := ra11.length
                      have eq9 : ((lcL g1 tt1 te (wipeD env5 vs1) (ys.drop (j + 1)) w12.S).bind fun zs S4 => (lcL2 g tt mi1 vs1 g1 tt1 te (wipeD env vs) (xs.drop (i + 1)) S4).bind fun us S5 => .ok (acc8 ++ [y] ++ (zs ++ us)) S5) = .ok F SF := by
                        rw [← eq8]
                        show _ = ((lcL g1 tt1 te (wipeD env5 vs1) (List.drop (j + 1) ys) w12.S).bind _).bind _
                        cases lcL g1 tt1 te (wipeD env5 vs1) (List.drop (j + 1) ys) w12.S <;> simp [R.bind]
                      have hlt : acc8.length < sizeLine := by
                        obtain ⟨zs, S4, h1, h2⟩ := bind_eq eq9
                        obtain ⟨us', S5, h3, h4⟩ := bind_eq h2
                        have hFe : acc8 ++ [y] ++ (zs ++ us') = F := by cases h4; rfl
                        have hl := congrArg List.length hFe
                        simp only [List.length_append, List.length_cons, List.length_nil] at hl
                        omega
                      obtain ⟨xP, tP, sP⟩ := put_end (us := us8) (v := v) s12 tm12
                      refine ⟨us8, hL12, by omega, ?_⟩
                      refine ⟨_, acc8 ++ [y], us8 ++ [v], rfl, sP, WX'.trans (WX'.trans x711 (WX'.wide x12)) xP, tm12, upd_same, ?_, by omega, eq9⟩
                      exact (RepL.monoT xP tP _ _ (RepL.mono x12 _ _ ra11)).append (RepL.one (Rep.monoT xP tP _ _ r12))
                    | exc ee S12 => rw [hte] at eq8; cases eq8
                    | bad => rw [hte] at eq8; cases eq8
                | exc ee S11 => rw [ht1] at eq8; cases eq8
                | bad => rw [ht1] at eq8; cases eq8
              | ret _ _ => rw [hg1] at eq8; cases eq8
              | brk _ _ => rw [hg1] at eq8; cases eq8
              | ct _ _ => rw [hg1] at eq8; cases eq8
              | exc _ _ _ => rw [hg1] at eq8; cases eq8
              | bad => rw [hg1] at eq8; cases eq8
            · have ej : j = ys.length := by omega
              subst ej
              refine .inl ⟨io1.stop [L] w8 t7 x8 s8, ?_⟩
              rw [List.drop_length] at eq8
              refine ⟨w8, acc8, us8, rfl, s8, WX'.trans x17 x8, tm8, hL8, ra8, by omega, ?_⟩
              simpa [lcL, R.bind] using eq8
          | exc ee S7 => rw [hm1] at eq; cases eq
          | bad => rw [hm1] at eq; cases eq
      | exc ee S6 => rw [ht] at eq; cases eq
      | bad => rw [ht] at eq; cases eq
    | ret _ _ => rw [hg] at eq; cases eq
    | brk _ _ => rw [hg] at eq; cases eq
    | ct _ _ => rw [hg] at eq; cases eq
    | exc _ _ _ => rw [hg] at eq; cases eq
    | bad => rw [hg] at eq; cases eq
  · have ei : i = xs.length := by omega
    subst ei
    refine .inl ⟨io.stop [L] w3 (fr_tok hfr) x3 s3, ?_⟩
    rw [List.drop_length] at eq
    simp only [lcL2, R.bind, List.append_nil, R.ok.injEq] at eq
    obtain ⟨rfl, rfl⟩ := eq
    have we : WExt w1 { w3 with tmp := w1.tmp } := ⟨x3.mu, fun a o h nm _ => x3.keep a o h nm (by
      intro ha
      have : a = L := by simpa using ha
      rw [this, hL] at h; cases h), fun a h => .inl h, fun a h => h⟩
    have tinc : ∀ a, a ∈ w1.tmp → a ∈ w3.tmp := x3.tmp'
    have se : SRep G { w3 with tmp := w1.tmp } := s3.untmp tinc
    have nmL : ¬ Mut { w3 with tmp := w1.tmp } L := fun m => m.elim (s3.tm L tm3).2 fun z => by
      obtain ⟨⟨u, e⟩, _⟩ := s1.tm L z
      rw [hL] at e; cases e
    have hr : Rep G { w3 with tmp := w1.tmp } (.lst acc) (.ref L) := by
      simp only [Rep]
      exact ⟨L, us, rfl, hL3, nmL, RepL.untmp tinc _ _ ra3⟩
    exact p1 (.ref L) { w3 with tmp := w1.tmp } we rfl se hr
/-- [elt for .. in .. if .. for .. in .. if ..] -/
theorem q_lc2 {elt tg iter tg1 iter1 : Expr} {ifs ifs1 : List Expr} {scope : Scope} {own : List (Str × Nat)} {mi mi1 : ID} {vs1 : List Nat} {g g1 : GD} {mt mt1 : TD} {me : ED} (hc : X.calm = true) (hN : X.N.Nodup) (hi : PI X tg iter (tI G mi Wx)) (ok : BlkOk X.N X.env.scope scope own) (hv : ∀ i ∈ vs1, i ∈ own.map (·.2))
    (hg : ∀ (s : Shared) (H : Hp) (C : Addr) (cl : List (Str × Addr)) (fp : List Addr), PG (X.blk s H scope (compEnvC scope cl C X.env) fp) tg (tGW G g (own.map (·.2))))
    (ht : ∀ (s : Shared) (H : Hp) (C : Addr) (cl : List (Str × Addr)) (fp : List Addr), PTs (X.blk s H scope (compEnvC scope cl C X.env) fp) ifs (tT G mt WF))
    (hi1 : ∀ (s : Shared) (H : Hp) (C : Addr) (cl : List (Str × Addr)) (fp : List Addr), PI (X.blk s H scope (compEnvC scope cl C X.env) fp) tg1 iter1 (tI G mi1 WF))
    (hg1 : ∀ (s : Shared) (H : Hp) (C : Addr) (cl : List (Str × Addr)) (fp : List Addr), PG (X.blk s H scope (compEnvC scope cl C X.env) fp) tg1 (tGW G g1 vs1))
    (ht1 : ∀ (s : Shared) (H : Hp) (C : Addr) (cl : List (Str × Addr)) (fp : List Addr), PTs (X.blk s H scope (compEnvC scope cl C X.env) fp) ifs1 (tT G mt1 WF))
    (he : ∀ (s : Shared) (H : Hp) (C : Addr) (cl : List (Str × Addr)) (fp : List Addr), PE (X.blk s H scope (compEnvC scope cl C X.env) fp) elt (tE G me WF)) (hs : ∀ x, foldedSetIterable iter X.env x = pure x := by intro _; rfl) (hs1 : ∀ env x, foldedSetIterable iter1 env x = pure x := by intro _ _; rfl) :
    PE X (.ListComp elt [⟨tg, iter, ifs, 0⟩, ⟨tg1, iter1, ifs1, 0⟩] scope pos) (tE G (eLc2 mi (own.map (·.2)) g mt mi1 vs1 g1 mt1 me) Wx) := peI (pe_lc2 hc hN hi ok hv hg ht hi1 hg1 ht1 he hs hs1) imp_lc2
theorem q_setLc2 {i : Nat} {y : Str} {py : Pos} {elt tg iter tg1 iter1 : Expr} {ifs ifs1 : List Expr} {scope : Scope} {own : List (Str × Nat)} {spos : Pos} {mi mi1 : ID} {vs1 : List Nat} {g g1 : GD} {mt mt1 : TD} {me : ED} (hc : X.calm = true) (hN : X.N.Nodup) (hy : X.N[i]? = some y) (hyl : X.env.scope.names.lookup y = some .local)
    (hsw : swapsWith (.ListComp elt [⟨tg, iter, ifs, 0⟩, ⟨tg1, iter1, ifs1, 0⟩] scope pos) (some (.Name y py)) spos.line X.env = pure true) (hi : PI X tg iter (tI G mi Wx)) (ok : BlkOk X.N X.env.scope scope own) (hv : ∀ i ∈ vs1, i ∈ own.map (·.2))
    (hg : ∀ (s : Shared) (H : Hp) (C : Addr) (cl : List (Str × Addr)) (fp : List Addr), PG (X.blk s H scope (compEnvC scope cl C X.env) fp) tg (tGW G g (own.map (·.2))))
    (ht : ∀ (s : Shared) (H : Hp) (C : Addr) (cl : List (Str × Addr)) (fp : List Addr), PTs (X.blk s H scope (compEnvC scope cl C X.env) fp) ifs (tT G mt WF))
    (hi1 : ∀ (s : Shared) (H : Hp) (C : Addr) (cl : List (Str × Addr)) (fp : List Addr), PI (X.blk s H scope (compEnvC scope cl C X.env) fp) tg1 iter1 (tI G mi1 WF))
    (hg1 : ∀ (s : Shared) (H : Hp) (C : Addr) (cl : List (Str × Addr)) (fp : List Addr), PG (X.blk s H scope (compEnvC scope cl C X.env) fp) tg1 (tGW G g1 vs1))
    (ht1 : ∀ (s : Shared) (H : Hp) (C : Addr) (cl : List (Str × Addr)) (fp : List Addr), PTs (X.blk s H scope (compEnvC scope cl C X.env) fp) ifs1 (tT G mt1 WF))
    (he : ∀ (s : Shared) (H : Hp) (C : Addr) (cl : List (Str × Addr)) (fp : List Addr), PE (X.blk s H scope (compEnvC scope cl C X.env) fp) elt (tE G me WF)) (hs : ∀ x, foldedSetIterable iter X.env x = pure x := by intro _; rfl) (hs1 : ∀ env x, foldedSetIterable iter1 env x = pure x := by intro _ _; rfl) :
    PS X (.Assign [.Name y py] (.ListComp elt [⟨tg, iter, ifs, 0⟩, ⟨tg1, iter1, ifs1, 0⟩] scope pos) spos) (tS G (sAsg (eLc2 mi (own.map (·.2)) g mt mi1 vs1 g1 mt1 me) (gName i)) Wx) := psI (ps_setLc2 hc hN hy hyl hsw hi ok hv hg ht hi1 hg1 ht1 he hs hs1) fun D σ H q => by
  obtain ⟨w, env, rfl, sr, er, p⟩ := q
  refine imp_lc2 (Wx := Wx) σ w.H _ ⟨w, env, rfl, sr, er, (PostS.ofR (Ra := Rep G) er p).mono (fun x H1 m => ?_) fun _ _ _ h => h⟩
  obtain ⟨w1, d1, rfl, x1, s1, rp1, p1⟩ := m
  exact p1 _ w1 (.refl w1) rfl s1 ((er.mono x1).set i rp1)
end
end L3
set_option Elab.async false
set_option linter.all false
set_option maxRecDepth 100000
/-! L4C: lists that change, dicts made of others. -/
namespace L3
open PySem PySem.Spec PyProof.Rows L2
section
variable {G : GC} {X : Cx} {w : Wd}
theorem RepL.dropLast : ∀ {l : List D} {vs : List V}, RepL G w l vs → RepL G w l.dropLast vs.dropLast
  | [], vs, h => by
    have : vs = [] := h
    subst this; exact h
  | [d], vs, h => by
    obtain ⟨v, r, rfl, _, h2⟩ := h
    have : r = [] := h2
    subst this; simp [RepL]
  | d :: e :: l, vs, h => by
    obtain ⟨v, r, rfl, h1, h2⟩ := h
    obtain ⟨v', r', rfl, h3, h4⟩ := id h2
    have := RepL.dropLast h2
    exact ⟨v, _, rfl, h1, this⟩
theorem RepL.eraseIdx : ∀ {l : List D} {vs : List V} (k : Nat), RepL G w l vs → RepL G w (l.eraseIdx k) (vs.eraseIdx k)
  | [], vs, k, h => by
    have : vs = [] := h
    subst this; simpa using h
  | d :: l, vs, 0, h => by
    obtain ⟨v, r, rfl, h1, h2⟩ := h
    exact h2
  | d :: l, vs, k + 1, h => by
    obtain ⟨v, r, rfl, h1, h2⟩ := h
    exact ⟨v, _, rfl, h1, RepL.eraseIdx k h2⟩
def extendD : D → FN := fun x xs S => match lstAt x S, xs with
  | some (n, l), [.lst m] => if l.length + m.length ≤ sizeLine then .ok .non (S.set n (.lst (l ++ m))) else .bad
  | _, _ => .bad
theorem c_extend : CalmM extendD := fun x xs S => by unfold extendD; repeat' split
                                                     all_goals trivial
theorem o_extend : MtR X "list.extend" (rM G extendD) := mtI2 mt_extend fun x xs H Q q => by
  obtain ⟨w, d, ds, rfl, sr, r1, rl, p⟩ := q
  unfold extendD at p
  split at p
  · rename_i n l m he
    split at p
    · rename_i hz
      obtain ⟨a, vs, rfl, hn, hm, h1, h2⟩ := lstAt_rep sr r1 he
      simp only [RepL, Rep] at rl
      obtain ⟨v, r', rfl, ⟨b, ws, rfl, hb, nm, h3⟩, rfl⟩ := rl
      exact ⟨a, b, vs, ws, rfl, rfl, h1, hb, by rw [h2.length, h3.length]; exact hz, set_lst sr hn hm (h2.append h3) (by simp [Rep]) p⟩
    · exact p.elim
  · exact p.elim
def popD : D → FN := fun x xs S => match lstAt x S, xs with
  | some (n, l), [] => match l[l.length - 1]? with
    | some d => .ok d (S.set n (.lst l.dropLast))
    | none => .bad
  | some (n, l), [.int i] => match ixN l.length i with
    | some k => match l[k]? with
      | some d => if -(2 ^ 63) ≤ i ∧ i < 2 ^ 63 then .ok d (S.set n (.lst (l.eraseIdx k))) else .bad
      | none => .bad
    | none => .bad
  | _, _ => .bad
theorem c_pop : CalmM popD := fun x xs S => by unfold popD; repeat' split
                                               all_goals trivial
theorem o_pop : MtR X "list.pop" (rM G popD) := mtI2 (MtR.or mt_pop mt_popAt) fun x xs H Q q => by
  obtain ⟨w, d, ds, rfl, sr, r1, rl, p⟩ := q
  unfold popD at p
  split at p
  · rename_i n l he
    split at p
    · rename_i d hd
      obtain ⟨a, vs, rfl, hn, hm, h1, h2⟩ := lstAt_rep sr r1 he
      have : xs = [] := rl
      subst this
      obtain ⟨v, hv, rv⟩ := h2.get hd
      exact .inl ⟨a, vs, v, rfl, rfl, h1, by rw [h2.length]; exact hv, set_lst sr hn hm h2.dropLast rv p⟩
    · exact p.elim
  · rename_i n l i he
    split at p
    · rename_i k hk
      split at p
      · rename_i d hd
        split at p
        · rename_i hz
          obtain ⟨a, vs, rfl, hn, hm, h1, h2⟩ := lstAt_rep sr r1 he
          simp only [RepL, Rep] at rl
          obtain ⟨v, r', rfl, rfl, rfl⟩ := rl
          obtain ⟨v, hv, rv⟩ := h2.get hd
          refine .inr ⟨a, vs, i, k, v, rfl, rfl, h1, hz.1, hz.2, ?_, hv, set_lst sr hn hm (h2.eraseIdx k) rv p⟩
          rw [h2.length]
          exact (ixN_seq hk).1
        · exact p.elim
      · exact p.elim
    · exact p.elim
  · exact p.elim
def insertD : D → FN := fun x xs S => match lstAt x S, xs with
  | some (n, l), [.int i, y] => if l.length < sizeLine ∧ 0 ≤ i ∧ i < 2 ^ 63 then .ok .non (S.set n (.lst (l.take i.toNat ++ [y] ++ l.drop i.toNat))) else .bad
  | _, _ => .bad
theorem c_insert : CalmM insertD := fun x xs S => by unfold insertD; repeat' split
                                                     all_goals trivial
theorem o_insert : MtR X "list.insert" (rM G insertD) := mtI2 mt_insert fun x xs H Q q => by
  obtain ⟨w, d, ds, rfl, sr, r1, rl, p⟩ := q
  unfold insertD at p
  split at p
  · rename_i n l i y he
    split at p
    · rename_i hz
      obtain ⟨a, vs, rfl, hn, hm, h1, h2⟩ := lstAt_rep sr r1 he
      simp only [RepL, Rep] at rl
      obtain ⟨v, r', rfl, rfl, v', r'', rfl, ry, rfl⟩ := rl
      exact ⟨a, vs, i, v', rfl, rfl, h1, by rw [h2.length]; exact hz.1, hz.2.1, hz.2.2, set_lst sr hn hm (((h2.take _).append (RepL.one ry)).append (h2.drop _)) (by simp [Rep]) p⟩
    · exact p.elim
  · exact p.elim
end
end L3
set_option Elab.async false
set_option linter.all false
set_option maxRecDepth 100000
/-! L4D: {k: v for ..}. -/
namespace L3
open PySem PySem.Spec PyProof.Rows L2
def dcL (g : GD) (tt : TD) (tk tv : ED) (env : EnvD) : List D → List (Key × D) → Store → R (List (Key × D))
  | [], acc, S => .ok acc S
  | x :: xs, acc, S => match g x env S with
    | .nx env1 S1 => (tt env1 S1).nox.bind fun k S2 => match k with
      | true => (tk env1 S2).nox.bind fun y S3 => (tv env1 S3).nox.bind fun z S4 => match keyOf y with
        | some k => dcL g tt tk tv env xs (putD acc k z) S4
        | none => .bad
      | false => dcL g tt tk tv env xs acc S2
    | _ => .bad
def eDc (mi : ID) (vs : List Nat) (g : GD) (tt : TD) (tk tv : ED) : ED := fun env S => (mi env S).bind fun xs S1 =>
  if xs.length ≤ sizeLine then (dcL g tt tk tv (wipeD env vs) xs [] S1).nox.bind fun kvs S2 => .ok (.dic (kvs.map (·.1)) (kvs.map (·.2))) S2 else .bad
section
variable {G : GC} {X : Cx} {Wx : WX} {pos : Pos}
theorem put_len {κ : Type} [DecidableEq κ] (kvs : List (κ × D)) (k : κ) (v : D) : (putD kvs k v).length ≤ kvs.length + 1 := by
  unfold putD; split <;> simp
theorem put_dk {w : Wd} {L : Addr} {o : HO} (s7 : SRep G w) (tm7 : L ∈ w.tmp) : WX' [L] w (w.put L o) ∧ Tok [L] w ∧ SRep G (w.put L o) := by
  have nm7 : ¬ MutS w L := (s7.tm L tm7).2
  have x8 : WX' [L] w (w.put L o) := ⟨fun _ _ h => h, fun a o h nm ha => ⟨(upd_ne (by simpa using ha)).trans h, nm⟩, fun a h => .inl h, fun a h => h⟩
  have t8 : Tok [L] w := fun a h => .inl (by have : a = L := by simpa using h
                                             rw [this]; exact tm7)
  refine ⟨x8, t8, s7.len, s7.inj, fun n ob a h1 h2 => ?_, fun a ha => ?_⟩
  · have h := s7.obj n ob a h1 h2
    exact h.keep x8 t8 fun lv => upd_ne fun e => nm7 (by subst e; exact ⟨n, ob, h1, lv, h2⟩)
  · obtain ⟨⟨u, e⟩, nm⟩ := s7.tm a ha
    by_cases ea : a = L
    · subst ea; exact ⟨⟨_, upd_same⟩, nm⟩
    · exact ⟨⟨u, (upd_ne ea).trans e⟩, nm⟩
theorem imp_dc {mi : ID} {vs : List Nat} {g : GD} {tt : TD} {tk tv : ED} : ∀ σ H Q, tE G (eDc mi vs g tt tk tv) Wx σ H Q → tDc (tI G mi Wx) (tGW G g vs) (tT G tt WF) (tE G tk WF) (tE G tv WF) vs σ H Q := by
  intro σ H Q q
  obtain ⟨w, env, rfl, sr, er, p⟩ := q
  refine ⟨w, env, rfl, sr, er, (Post.bind (Ra := fun w' xs (J : It) => ItOk G w' J xs) p).mono (fun J H1 m => ?_) fun _ _ _ h => h⟩
  obtain ⟨w1, xs, rfl, x1, s1, io, p1⟩ := m
  intro L hL
  have hfr : ∀ a ∈ [L], w1.H a = none := fun a h => by have : a = L := by simpa using h
                                                       rw [this]; exact hL
  by_cases hz : xs.length ≤ sizeLine
  · rw [if_pos hz] at p1
    obtain ⟨F, SF, hF⟩ : ∃ F SF, dcL g tt tk tv (wipeD env vs) xs [] w1.S = .ok F SF := by
      cases h : dcL g tt tk tv (wipeD env vs) xs [] w1.S with
      | ok F SF => exact ⟨F, SF, rfl⟩
      | exc e S => rw [h] at p1; exact p1.elim
      | bad => rw [h] at p1; exact p1.elim
    rw [hF] at p1
    simp only [R.nox, R.bind] at p1
    have er1 := (er.mono x1).wipe vs
    have h0 : WX' [L] w1 ⟨w1.mu, w1.S, upd w1.H L (.dK []), L :: w1.tmp⟩ :=
      ⟨fun _ _ h => h, fun a o h nm ha => ⟨(upd_ne (by simpa using ha)).trans h, nm⟩, fun a h => by
        rcases List.mem_cons.mp h with e | h
        · exact .inr (by simp [e])
        · exact .inl h, fun a h => List.mem_cons_of_mem _ h⟩
    have nL : ¬ MutS w1 L := fun m => by obtain ⟨u, e⟩ := MutS.there s1 m; rw [hL] at e; cases e
    have sW : SRep G ⟨w1.mu, w1.S, upd w1.H L (.dK []), L :: w1.tmp⟩ := by
      refine ⟨s1.len, s1.inj, fun n ob a h1 h2 => ?_, fun a ha => ?_⟩
      · have h := s1.obj n ob a h1 h2
        refine h.keep h0 (fr_tok hfr) fun lv => ?_
        obtain ⟨u, e⟩ := h.there lv
        exact upd_ne (ne_of_none e hL)
      · rcases List.mem_cons.mp ha with e | ha
        · subst e; exact ⟨⟨_, upd_same⟩, nL⟩
        · obtain ⟨⟨u, e⟩, nm⟩ := s1.tm a ha
          exact ⟨⟨u, (upd_ne (ne_of_none e hL)).trans e⟩, nm⟩
    refine ⟨fun i m H => ∃ w3 acc us, w3.H = H ∧ SRep G w3 ∧ WX' [L] w1 w3 ∧ L ∈ w3.tmp ∧ w3.H L = some (.dK us) ∧ RepKV G w3 acc us ∧ acc.length ≤ i ∧ i + m = xs.length ∧
        dcL g tt tk tv (wipeD env vs) (xs.drop i) acc w3.S = .ok F SF,
      ⟨xs.length, _, [], [], rfl, sW, h0, by simp, upd_same, rfl, Nat.le_refl _, by omega, by simpa using hF⟩, fun i m H hW => ?_⟩
    obtain ⟨w3, acc, us, rfl, s3, x3, tm3, hL3, ra3, hlen, em, eq⟩ := hW
    by_cases hi : i < xs.length
    · have e : xs[i]? = some xs[i] := List.getElem?_eq_getElem hi
      obtain ⟨go, yl⟩ := io.go [L] w3 (fr_tok hfr) x3 s3 i xs[i] e
      refine .inr ⟨go, fun H' => ∃ w5 acc us, w5.H = H' ∧ SRep G w5 ∧ WX' [L] w1 w5 ∧ L ∈ w5.tmp ∧ w5.H L = some (.dK us) ∧ RepKV G w5 acc us ∧ acc.length ≤ i + 1 ∧ (i + 1) + (m - 1) = xs.length ∧
        dcL g tt tk tv (wipeD env vs) (xs.drop (i + 1)) acc w5.S = .ok F SF, fun H' hN => ⟨m - 1, by omega, hN⟩, fun x H' hy => ?_⟩
      obtain ⟨w4, rfl, x4, eS4, s4, rp4⟩ := yl x H' hy
      have x14 : WX' [L] w1 w4 := WX'.trans x3 (WX'.wide x4)
      refine ⟨w4, wipeD env vs, xs[i], rfl, s4, er1.monoT x14 (fr_tok hfr), rp4, ?_⟩
      rw [List.drop_eq_getElem_cons hi, dcL] at eq
      rw [eS4]
      cases hg : g xs[i] (wipeD env vs) w3.S with
      | nx env5 S5 =>
        rw [hg] at eq
        simp only at eq
        intro σ5 w5 x5 e5 s5 er5 hw
        subst e5
        refine ⟨hw.trans (wipe_sub fun _ h => h), w5, env5, rfl, s5, er5, ?_⟩
        cases ht : tt env5 w5.S with
        | ok k S6 =>
          rw [ht] at eq
          simp only [R.nox, R.bind] at eq
          intro b w6 x6 e6 s6 hb
          subst hb e6
          have x46 : WExt w4 w6 := WX'.trans x5 x6
          have x16 : WX' [L] w1 w6 := WX'.trans x14 (WX'.wide x46)
          have hL6 : w6.H L = some (.dK us) := (x46.keep L _ ((x4.keep L _ hL3 ((s3.tm L tm3).2) (by simp)).1) ((s4.tm L (x4.tmp' L tm3)).2) (by simp)).1
          have tm6 : L ∈ w6.tmp := x46.tmp' L (x4.tmp' L tm3)
          have ra6 : RepKV G w6 acc us := RepKV.mono (WX'.trans x4 x46) _ _ ra3
          cases k with
          | false => exact iteF ⟨w6, acc, us, rfl, s6, x16, tm6, hL6, ra6, by omega, by omega, eq⟩
          | true =>
            refine iteT ⟨w6, env5, rfl, s6, er5.mono x6, ?_⟩
            simp only at eq
            cases htk : tk env5 w6.S with
            | ok y S7 =>
              rw [htk] at eq
              simp only [R.nox, R.bind] at eq
              intro vy w7 x7 e7 s7 r7
              subst e7
              refine ⟨w7, env5, rfl, s7, (er5.mono x6).mono x7, ?_⟩
              cases htv : tv env5 w7.S with
              | ok z S8 =>
                rw [htv] at eq
                simp only [R.nox, R.bind] at eq
                intro vz w8 x8 e8 s8 r8
                subst e8
                have x68 : WExt w6 w8 := WX'.trans x7 x8
                have hL8 : w8.H L = some (.dK us) := (x68.keep L _ hL6 ((s6.tm L tm6).2) (by simp)).1
                have tm8 : L ∈ w8.tmp := x68.tmp' L tm6
                cases hk : keyOf y with
                | none => rw [hk] at eq; cases eq
                | some k =>
                  rw [hk] at eq
                  simp only at eq
                  have ek : vy = kV k := keyOf_rep r7 hk
                  subst ek
                  have lu : us.length = acc.length := ra6.len
                  have ra8 : RepKV G w8 acc us := RepKV.mono x68 _ _ ra6
                  obtain ⟨xP, tP, sP⟩ := put_dk (o := .dK (putK us k vz)) s8 tm8
                  refine ⟨us, k, rfl, hL8, by omega, ?_⟩
                  refine ⟨_, putD acc k z, putK us k vz, rfl, sP, WX'.trans (WX'.trans x16 (WX'.wide x68)) xP, tm8, upd_same, ?_, Nat.le_trans (put_len _ _ _) (by omega), by omega, eq⟩
                  exact RepKV.monoT xP tP _ _ (ra8.put k r8)
              | exc ee S8 => rw [htv] at eq; cases eq
              | bad => rw [htv] at eq; cases eq
            | exc ee S7 => rw [htk] at eq; cases eq
            | bad => rw [htk] at eq; cases eq
        | exc ee S6 => rw [ht] at eq; cases eq
        | bad => rw [ht] at eq; cases eq
      | ret _ _ => rw [hg] at eq; cases eq
      | brk _ _ => rw [hg] at eq; cases eq
      | ct _ _ => rw [hg] at eq; cases eq
      | exc _ _ _ => rw [hg] at eq; cases eq
      | bad => rw [hg] at eq; cases eq
    · have ei : i = xs.length := by omega
      subst ei
      refine .inl ⟨io.stop [L] w3 (fr_tok hfr) x3 s3, ?_⟩
      rw [List.drop_length] at eq
      simp only [dcL, R.ok.injEq] at eq
      obtain ⟨rfl, rfl⟩ := eq
      have we : WExt w1 { w3 with tmp := w1.tmp } := ⟨x3.mu, fun a o h nm _ => x3.keep a o h nm (by
        intro ha
        have : a = L := by simpa using ha
        rw [this, hL] at h; cases h), fun a h => .inl h, fun a h => h⟩
      have tinc : ∀ a, a ∈ w1.tmp → a ∈ w3.tmp := x3.tmp'
      have se : SRep G { w3 with tmp := w1.tmp } := s3.untmp tinc
      have nmL : ¬ Mut { w3 with tmp := w1.tmp } L := fun m => m.elim (s3.tm L tm3).2 fun z => by
        obtain ⟨⟨u, e⟩, _⟩ := s1.tm L z
        rw [hL] at e; cases e
      obtain ⟨us', eu, ru⟩ := ra3.parts
      have hr : Rep G { w3 with tmp := w1.tmp } (.dic (acc.map (·.1)) (acc.map (·.2))) (.ref L) := by
        simp only [Rep]
        exact ⟨L, us', rfl, by rw [← eu]; exact hL3, nmL, by simp, RepL.untmp tinc _ _ ru⟩
      exact p1 (.ref L) { w3 with tmp := w1.tmp } we rfl se hr
  · rw [if_neg hz] at p1; exact p1.elim
/-- {k: v for .. in .. if ..} -/
theorem q_dc {kx vx tg iter : Expr} {ifs : List Expr} {scope : Scope} {own : List (Str × Nat)} {mi : ID} {g : GD} {mt : TD} {mk mv : ED} (hc : X.calm = true) (hN : X.N.Nodup) (hi : PI X tg iter (tI G mi Wx)) (ok : BlkOk X.N X.env.scope scope own)
    (hg : ∀ (s : Shared) (H : Hp) (C : Addr) (cl : List (Str × Addr)) (fp : List Addr), PG (X.blk s H scope (compEnvC scope cl C X.env) fp) tg (tGW G g (own.map (·.2))))
    (ht : ∀ (s : Shared) (H : Hp) (C : Addr) (cl : List (Str × Addr)) (fp : List Addr), PTs (X.blk s H scope (compEnvC scope cl C X.env) fp) ifs (tT G mt WF))
    (hk : ∀ (s : Shared) (H : Hp) (C : Addr) (cl : List (Str × Addr)) (fp : List Addr), PE (X.blk s H scope (compEnvC scope cl C X.env) fp) kx (tE G mk WF))
    (he : ∀ (s : Shared) (H : Hp) (C : Addr) (cl : List (Str × Addr)) (fp : List Addr), PE (X.blk s H scope (compEnvC scope cl C X.env) fp) vx (tE G mv WF)) (hs : ∀ x, foldedSetIterable iter X.env x = pure x := by intro _; rfl) :
    PE X (.DictComp kx vx [⟨tg, iter, ifs, 0⟩] scope pos) (tE G (eDc mi (own.map (·.2)) g mt mk mv) Wx) := peI (pe_dc hc hN hi ok hg ht hk he hs) imp_dc
theorem sw_trueD {kx vx : Expr} {gs : List Comprehension} {scope : Scope} {pos py : Pos} {y : Str} {l : Nat} {env : Env} (hk : env.scope.kind = .function) (hy : env.scope.names.lookup y = some .local) (hl : (py.line == pos.line) = true)
    (ha : (scope.names.any fun (n, k) => n == y && (k == .local || k == .cell)) = false) : swapsWith (.DictComp kx vx gs scope pos) (some (.Name y py)) l env = pure true := by
  have ky : env.kindOf y = some .local := hy
  have hb : env.blockKind = .function := by unfold Env.blockKind; rw [hk]; rfl
  unfold swapsWith
  simp only [hb, ky, ha, Expr.pos, hl]
  rfl
theorem ps_setDc {i : Nat} {y : Str} {py : Pos} {kx vx tg iter : Expr} {ifs : List Expr} {scope : Scope} {own : List (Str × Nat)} {pos spos : Pos} {wi : TI} {g : TG} {tt : TT} {tk tv : TE} (hc : X.calm = true) (hN : X.N.Nodup) (hy : X.N[i]? = some y) (hyl : X.env.scope.names.lookup y = some .local)
    (hsw : swapsWith (.DictComp kx vx [⟨tg, iter, ifs, 0⟩] scope pos) (some (.Name y py)) spos.line X.env = pure true) (hi : PI X tg iter wi) (ok : BlkOk X.N X.env.scope scope own)
    (hg : ∀ (s : Shared) (H : Hp) (C : Addr) (cl : List (Str × Addr)) (fp : List Addr), PG (X.blk s H scope (compEnvC scope cl C X.env) fp) tg g) (ht : ∀ (s : Shared) (H : Hp) (C : Addr) (cl : List (Str × Addr)) (fp : List Addr), PTs (X.blk s H scope (compEnvC scope cl C X.env) fp) ifs tt)
    (hk : ∀ (s : Shared) (H : Hp) (C : Addr) (cl : List (Str × Addr)) (fp : List Addr), PE (X.blk s H scope (compEnvC scope cl C X.env) fp) kx tk)
    (he : ∀ (s : Shared) (H : Hp) (C : Addr) (cl : List (Str × Addr)) (fp : List Addr), PE (X.blk s H scope (compEnvC scope cl C X.env) fp) vx tv) (hs : ∀ x, foldedSetIterable iter X.env x = pure x := by intro _; rfl) :
    PS X (.Assign [.Name y py] (.DictComp kx vx [⟨tg, iter, ifs, 0⟩] scope pos) spos) (tAsg (tDc wi g tt tk tv (own.map (·.2))) (L2.gName i)) := by
  refine ⟨fun pins s σ H D I h => ?_⟩
  rw [exec_Assign_Name_used _ _ _ _ hsw]
  refine wpAny_bind (wpAny_standAt (wpAny_bind ?_))
  show wpAny _ X.A (do let _ ← comprehension (.DictComp kx vx [⟨tg, iter, ifs, 0⟩] scope pos) scope X.env (firstIterPos [⟨tg, iter, ifs, 0⟩] pos) newDict false (eval iter X.env) (some (assign (.Name y py) X.env))) _ _ s
  have h : tDc wi g tt tk tv (own.map (·.2)) σ H (fun x H1 => L2.gName i x σ H1 D.nx) := h
  refine wpAny_bind (thn (dc_core (use := some (assign (.Name y py) X.env)) (Qf := fun _ s' => SP X pins D .next s') hc hN I hi ok hg ht hk he hs h fun L C s' m H' I' q hn f => ?_) fun _ s' hq => wpAny_pure (wpAny_pure hq))
  show wpAny _ _ (assign (.Name y py) X.env (.ref L)) _ _ _
  refine wpAny_assign_Name (store_ok2 (v := V.ref L) I' hN hy (.inl hyl) rfl (fun s2 I2 ⟨a, sb, ha⟩ => ?_) (.inr hyl))
  obtain ⟨f0, f1, f2, f3, f4, f5⟩ := f
  have haC : C ≠ a := by
    rcases ha with z | z
    · rw [z]; exact f1
    · exact fun e => f4 y a z e.symm
  refine ⟨m, hn.sameBut sb haC, fun h3 sb3 => ?_⟩
  exact ⟨_, H', I2.turned (t' := s2.toks) (fun b o hb e => (sb3.2 b hb).trans e) f0 f1 f3 f4 f5, q⟩
theorem q_setDc {i : Nat} {y : Str} {py : Pos} {kx vx tg iter : Expr} {ifs : List Expr} {scope : Scope} {own : List (Str × Nat)} {spos : Pos} {mi : ID} {g : GD} {mt : TD} {mk mv : ED} (hc : X.calm = true) (hN : X.N.Nodup) (hy : X.N[i]? = some y) (hyl : X.env.scope.names.lookup y = some .local)
    (hsw : swapsWith (.DictComp kx vx [⟨tg, iter, ifs, 0⟩] scope pos) (some (.Name y py)) spos.line X.env = pure true) (hi : PI X tg iter (tI G mi Wx)) (ok : BlkOk X.N X.env.scope scope own)
    (hg : ∀ (s : Shared) (H : Hp) (C : Addr) (cl : List (Str × Addr)) (fp : List Addr), PG (X.blk s H scope (compEnvC scope cl C X.env) fp) tg (tGW G g (own.map (·.2))))
    (ht : ∀ (s : Shared) (H : Hp) (C : Addr) (cl : List (Str × Addr)) (fp : List Addr), PTs (X.blk s H scope (compEnvC scope cl C X.env) fp) ifs (tT G mt WF))
    (hk : ∀ (s : Shared) (H : Hp) (C : Addr) (cl : List (Str × Addr)) (fp : List Addr), PE (X.blk s H scope (compEnvC scope cl C X.env) fp) kx (tE G mk WF))
    (he : ∀ (s : Shared) (H : Hp) (C : Addr) (cl : List (Str × Addr)) (fp : List Addr), PE (X.blk s H scope (compEnvC scope cl C X.env) fp) vx (tE G mv WF)) (hs : ∀ x, foldedSetIterable iter X.env x = pure x := by intro _; rfl) :
    PS X (.Assign [.Name y py] (.DictComp kx vx [⟨tg, iter, ifs, 0⟩] scope pos) spos) (tS G (sAsg (eDc mi (own.map (·.2)) g mt mk mv) (gName i)) Wx) := psI (ps_setDc hc hN hy hyl hsw hi ok hg ht hk he hs) fun D σ H q => by
  obtain ⟨w, env, rfl, sr, er, p⟩ := q
  refine imp_dc (Wx := Wx) σ w.H _ ⟨w, env, rfl, sr, er, (PostS.ofR (Ra := Rep G) er p).mono (fun x H1 m => ?_) fun _ _ _ h => h⟩
  obtain ⟨w1, d1, rfl, x1, s1, rp1, p1⟩ := m
  exact p1 _ w1 (.refl w1) rfl s1 ((er.mono x1).set i rp1)
end
end L3
set_option Elab.async false
set_option linter.all false
set_option maxRecDepth 100000
/-! L4E: instances: made, their attributes, their methods. -/
namespace L3
open PySem PySem.Spec PyProof.Rows L2
def putFD (f : Str) (v : D) : List (Str × D) → List (Str × D)
  | [] => [(f, v)]
  | (g, x) :: r => if g = f then (g, v) :: r else (g, x) :: putFD f v r
section
variable {G : GC} {w : Wd}
theorem RepKV.putF {d : D} {v : V} {f : Str} (rv : Rep G w d v) : ∀ {fs : List (Str × D)} {vs : List (Str × V)}, RepKV G w fs vs → RepKV G w (putFD f d fs) (L2.putF f v vs)
  | [], vs, h => by
    have : vs = [] := h
    subst this
    exact ⟨v, [], rfl, rv, rfl⟩
  | p :: r, vs, h => by
    obtain ⟨u, y, rfl, h1, h2⟩ := h
    obtain ⟨g, x⟩ := p
    show RepKV G w (if g = f then (g, d) :: r else (g, x) :: putFD f d r) (if g = f then (g, v) :: y else (g, u) :: L2.putF f v y)
    by_cases e : g = f
    · rw [if_pos e, if_pos e]; exact ⟨v, y, rfl, rv, h2⟩
    · rw [if_neg e, if_neg e]; exact ⟨u, _, rfl, h1, RepKV.putF rv h2⟩
theorem RepKV.lookup : ∀ {fs : List (Str × D)} {vs : List (Str × V)} {f : Str}, RepKV G w fs vs → (match fs.lookup f with
    | some d => ∃ v, vs.lookup f = some v ∧ Rep G w d v
    | none => vs.lookup f = none)
  | [], vs, f, h => by
    have : vs = [] := h
    subst this; simp
  | p :: r, vs, f, h => by
    obtain ⟨u, y, rfl, h1, h2⟩ := h
    have ih := RepKV.lookup (f := f) h2
    by_cases e : f = p.1
    · have e' : (f == p.1) = true := beq_iff_eq.mpr e
      simp only [List.lookup, e']
      exact ⟨u, rfl, h1⟩
    · have e' : (f == p.1) = false := beq_eq_false_iff_ne.mpr e
      simp only [List.lookup, e']
      exact ih
end
def insAt (x : D) (S : Store) : Option (Nat × Str × List (Str × D)) := match x with
  | .obj n => match S[n]? with
    | some (.ins c fs) => some (n, c, fs)
    | _ => none
  | _ => none
theorem insAt_rep {G : GC} {w : Wd} {x : D} {v : V} {n : Nat} {c : Str} {fs : List (Str × D)} (sr : SRep G w) (r : Rep G w x v) (e : insAt x w.S = some (n, c, fs)) :
    ∃ a C dx vs, x = .obj n ∧ v = .ref a ∧ w.S[n]? = some (.ins c fs) ∧ w.mu[n]? = some a ∧ w.H a = some (.ins C dx vs) ∧ RepKV G w fs vs ∧ G.mg c = some (.ref C) := by
  cases x with
  | obj m =>
    simp only [Rep] at r
    obtain ⟨a, hm, rfl⟩ := r
    simp only [insAt] at e
    split at e
    · rename_i c' fs' hn
      cases e
      obtain ⟨C, dx, vs, h1, h2, h3⟩ := sr.obj _ _ a hn hm
      exact ⟨a, C, dx, vs, rfl, rfl, hn, hm, h1, h2, h3⟩
    · cases e
  | _ => cases e
/-- o.f -/
def fldD (cs : List Str) (f : Str) : F1 := fun x S => match insAt x S with
  | some (_, c, fs) => if c ∈ cs then match fs.lookup f with
    | some d => .ok d S
    | none => .bad
    else .bad
  | none => .bad
def FldOk (G : GC) (cs : List Str) (f : Str) : Prop := ∀ c ∈ cs, ∃ C, G.mg c = some (.ref C) ∧ Cls G.K C ∧ NoAttr G.K C f
/-- o.f = v -/
def sFldD (cs : List Str) (f : Str) (mo mv : ED) : SD := fun env S => (mv env S).toS env fun y S1 => (mo env S1).toS env fun x S2 => match insAt x S2 with
  | some (n, c, fs) => if c ∈ cs ∧ fs.length < 1000 then .nx env (S2.set n (.ins c (putFD f y fs))) else .bad
  | none => .bad
/-- o.m(..) of an instance of c -/
def eMeth (c m : Str) (F : FN) (mo : ED) (ma : AD) : ED := fun env S => (mo env S).bind fun x S1 => match insAt x S1 with
  | some (_, c', fs) => if c' = c ∧ fs.lookup m = none then (ma env S1).bind fun xs S2 => F (x :: xs) S2 else .bad
  | none => .bad
/-- C(..) -/
def mkIns (c : Str) (F : FN) : FN := fun xs S => match F (.obj S.length :: xs) (S ++ [.ins c []]) with
  | .ok d S1 => match d with
    | .non => .ok (.obj S.length) S1
    | _ => .bad
  | .exc e S1 => .exc e S1
  | .bad => .bad
section
variable {G : GC} {X : Cx} {Wx : WX} {pos p apos : Pos} {k : Nat} {f C : Addr} {fd : FuncData} {ps : List Str} {F : FN} {x c m : Str} {o e value : Expr} {es : List Expr} {dds : List D} {mo mv : ED} {ma : AD} {cs : List Str}
theorem q_fld (hK : X.K = G.K) (hf : FldOk G cs x) (ho : PE X o (tE G mo Wx)) (hb : attributeBase o x X.env (eval o X.env) = eval o X.env := by rfl) : PE X (.Attribute o x pos) (tE G (e1 (fldD cs x) mo) Wx) := peI (pe_fld ho hb) fun σ H Q q => by
  obtain ⟨w, env, rfl, sr, er, p⟩ := q
  refine ⟨w, env, rfl, sr, er, (Post.bind p).mono (fun v H1 m => ?_) fun _ _ _ h => h⟩
  obtain ⟨w1, d1, rfl, x1, s1, rp1, p1⟩ := m
  unfold fldD at p1
  split at p1
  · rename_i n c fs he
    split at p1
    · rename_i hc
      split at p1
      · rename_i d hd
        obtain ⟨a, C, dx, vs, rfl, rfl, hn, hm, h1, h2, h3⟩ := insAt_rep s1 rp1 he
        obtain ⟨C', g1, g2, g3⟩ := hf c hc
        have : C' = C := by rw [h3] at g1; cases g1; rfl
        subst this
        have l := RepKV.lookup (f := x) h2
        rw [hd] at l
        obtain ⟨v, l1, l2⟩ := l
        exact ⟨a, C', dx, vs, v, rfl, h1, by rw [hK]; exact g2, by rw [hK]; exact g3, l1, p1 v w1 (.refl _) rfl s1 l2⟩
      · exact p1.elim
    · exact p1.elim
  · exact p1.elim
theorem q_sfld {pos' : Pos} (hK : X.K = G.K) (hf : FldOk G cs x) (ho : PE X o (tE G mo Wx)) (hv : PE X value (tE G mv Wx)) (hs : swapsWith value (some (.Attribute o x pos')) pos.line X.env = pure false := by rfl) : PS X (.Assign [.Attribute o x pos'] value pos) (tS G (sFldD cs x mo mv) Wx) := psI (ps_fld ho hv hs) fun D σ H q => by
  obtain ⟨w, env, rfl, sr, er, p⟩ := q
  refine ⟨w, env, rfl, sr, er, (PostS.ofR (Ra := Rep G) er p).mono (fun y H1 m => ?_) fun _ _ _ h => h⟩
  obtain ⟨w1, d1, rfl, x1, s1, rp1, p1⟩ := m
  refine ⟨w1, env, rfl, s1, er.mono x1, (PostS.ofR (Ra := Rep G) (er.mono x1) p1).mono (fun v H1 m => ?_) fun _ _ _ h => h⟩
  obtain ⟨w2, d2, rfl, x2, s2, rp2, p2⟩ := m
  split at p2
  · rename_i n c fs he
    split at p2
    · rename_i hz
      obtain ⟨a, C, dx, vs, rfl, rfl, hn, hm, h1, h2, h3⟩ := insAt_rep s2 rp2 he
      obtain ⟨C', g1, g2, g3⟩ := hf c hz.1
      have : C' = C := by rw [h3] at g1; cases g1; rfl
      subst this
      refine ⟨a, C', dx, vs, rfl, h1, by rw [hK]; exact g2, by rw [hK]; exact g3, by rw [h2.len]; exact hz.2, ?_⟩
      obtain ⟨xw, sw⟩ := set_obj (ob' := .ins c (putFD x d1 fs)) (o := .ins C' dx (L2.putF x y vs)) s2 hn trivial hm fun w' xe e => ⟨C', dx, _, e, RepKV.putF (Rep.mono xe _ _ (Rep.mono x2 _ _ rp1)) (RepKV.mono xe _ _ h2), h3⟩
      exact p2 σ _ xw rfl sw ((er.mono x1).mono (WX'.trans x2 xw))
    · exact p2.elim
  · exact p2.elim
/-- a method of the class c -/
structure Mtd (P : Program) (w : World) (G : GC) (base : Heap) (k : Nat) (c m : Str) (f : Addr) (fd : FuncData) (ps : List Str) (F : FN) : Prop where
  ok : FnG P w G.K G.mg base k f fd ps (spOf G F)
  cl : ∃ C, G.mg c = some (.ref C) ∧ Cls G.K C ∧ Meth G.K C m f
theorem q_meth {pl : Sem Bool} (M : Mtd X.prog X.w G X.base k c m f fd ps F) (b : Bnd G fd ps dds) (hr : RoomG k X.A) (hK : X.K = G.K) (hmg : X.mg = G.mg) (tk : Takes X Wx) (ho : PE X o (tE G mo Wx)) (ha : PA X (e :: es) (tA G ma Wx))
    (hst : starEach (e :: es) X.env = (false, eval e X.env) :: starEach es X.env := by rfl) (hpl : (backTo pos (starEach es X.env)).any (·.1) = false := by rfl)
    (ht : eval (.Call (.Attribute o m apos) (e :: es) [] pos) X.env = (do
      let ov ← eval o X.env
      standAt apos.atName
      let (f, first) ← holding [ov] (getMethod ov m pl)
      callWith pos f first (backTo pos (starEach (e :: es) X.env)) (backToKw pos (keywordEach [] X.env))) := by rfl) :
    PE X (.Call (.Attribute o m apos) (e :: es) [] pos) (tE G (eMeth c m (callK F dds) mo ma) Wx) := by
  obtain ⟨dvs, ds, b1, b2, b3⟩ := b
  obtain ⟨C, g1, g2, g3⟩ := M.cl
  refine ⟨fun pins s σ H Q I h => ?_⟩
  obtain ⟨w, env, rfl, sr, er, p⟩ := h
  refine PySem.W.methodCall_KW (pl := pl) (thn (ho.run pins s σ w.H _ I ⟨w, env, rfl, sr, er, Post.bind p⟩) fun u s1 ⟨x, H1, I1, rx, q⟩ => ?_) ht
  obtain ⟨w1, d1, rfl, x1, sr1, rp1, p1⟩ := q
  split at p1
  · rename_i n c' fs he
    split at p1
    · rename_i hz
      obtain ⟨rfl, hl⟩ := hz
      obtain ⟨a, C', dx, vs, rfl, rfl, hn, hm, h1, h2, h3⟩ := insAt_rep sr1 rp1 he
      have : C' = C := by rw [h3] at g1; cases g1; rfl
      subst this
      obtain rfl : u = Value.ref a := rx
      have l := RepKV.lookup (f := m) h2
      rw [hl] at l
      refine getmeth_ok I1 h1 (by rw [hK]; exact g2) (by rw [hK]; exact g3) l ?_
      refine PySem.W.callWith_K (first := [.ref a]) (h₀ := X.base) I.ok.mod.kin (by rw [hK]; exact g3.kp) (thn (ha.run pos pins s1 σ w1.H _ I1 ⟨w1, env, rfl, sr1, er.mono x1, Post.bind p1⟩) fun us s2 ⟨vs2, H2, I2, r, q2⟩ => ⟨I2.kIn, ?_⟩) hst hpl
      obtain ⟨w2, d2, rfl, x2, sr2, rp2, p2⟩ := q2
      refine FnG.byPlace (E := WE Wx) (us := .ref a :: us) (vs := .ref a :: vs2) (by rw [hK, hmg]; exact M.ok) hr (by rw [hK]; exact b2) b1 (passAt tk σ) I2 (.cons rfl r) ?_
      refine ⟨w2, (.obj n :: d2) ++ dds, rfl, sr2, ?_, p2⟩
      have : RepL G w2 (.obj n :: d2) (.ref a :: vs2) := ⟨.ref a, vs2, rfl, ⟨a, x2.mu _ _ hm, rfl⟩, rp2⟩
      exact this.append (b3 w2)
    · exact p1.elim
  · exact p1.elim
theorem q_meth0 {pl : Sem Bool} (M : Mtd X.prog X.w G X.base k c m f fd ps F) (b : Bnd G fd ps dds) (hr : RoomG k X.A) (hK : X.K = G.K) (hmg : X.mg = G.mg) (tk : Takes X Wx) (ho : PE X o (tE G mo Wx))
    (ht : eval (.Call (.Attribute o m apos) [] [] pos) X.env = (do
      let ov ← eval o X.env
      standAt apos.atName
      let (f, first) ← holding [ov] (getMethod ov m pl)
      callWith pos f first (backTo pos (starEach [] X.env)) (backToKw pos (keywordEach [] X.env))) := by rfl) :
    PE X (.Call (.Attribute o m apos) [] [] pos) (tE G (eMeth c m (callK F dds) mo aNil) Wx) := by
  obtain ⟨dvs, ds, b1, b2, b3⟩ := b
  obtain ⟨C, g1, g2, g3⟩ := M.cl
  refine ⟨fun pins s σ H Q I h => ?_⟩
  obtain ⟨w, env, rfl, sr, er, p⟩ := h
  refine PySem.W.methodCall_KW (pl := pl) (thn (ho.run pins s σ w.H _ I ⟨w, env, rfl, sr, er, Post.bind p⟩) fun u s1 ⟨x, H1, I1, rx, q⟩ => ?_) ht
  obtain ⟨w1, d1, rfl, x1, sr1, rp1, p1⟩ := q
  split at p1
  · rename_i n c' fs he
    split at p1
    · rename_i hz
      obtain ⟨rfl, hl⟩ := hz
      obtain ⟨a, C', dx, vs, rfl, rfl, hn, hm, h1, h2, h3⟩ := insAt_rep sr1 rp1 he
      have : C' = C := by rw [h3] at g1; cases g1; rfl
      subst this
      obtain rfl : u = Value.ref a := rx
      have l := RepKV.lookup (f := m) h2
      rw [hl] at l
      refine getmeth_ok I1 h1 (by rw [hK]; exact g2) (by rw [hK]; exact g3) l ?_
      refine PySem.W.callWith_K0 (first := [.ref a]) I1.kIn (by rw [hK]; exact g3.kp) ?_
      refine FnG.byPlace (E := WE Wx) (us := [.ref a]) (vs := [.ref a]) (by rw [hK, hmg]; exact M.ok) hr (by rw [hK]; exact b2) b1 (passAt tk σ) I1 (.cons rfl .nil) ?_
      have p1' : Post G w1 (F ([.obj n] ++ dds) w1.S) (Rep G) Q (fun C dx H' => Wx C dx σ H') := p1
      have : RepL G w1 [.obj n] [.ref a] := ⟨.ref a, [], rfl, ⟨a, hm, rfl⟩, rfl⟩
      exact ⟨w1, [.obj n] ++ dds, rfl, sr1, this.append (b3 w1), p1'⟩
    · exact p1.elim
  · exact p1.elim
/-- a class that can be made -/
structure Mak (P : Program) (w : World) (G : GC) (base : Heap) (k : Nat) (c : Str) (C f : Addr) (fd : FuncData) (ps : List Str) (F : FN) : Prop where
  ok : FnG P w G.K G.mg base k f fd ps (spOf G F)
  m : G.mg c = some (.ref C)
  mkr : Mk G.K C f
theorem new_ins {w : Wd} (sr : SRep G w) (hC : G.mg c = some (.ref C)) {x dx : Addr} (hx : w.H x = none) (hdx : w.H dx = none) (hne : dx ≠ x) :
    ∃ w1, w1.H = upd (upd w.H dx (.own x)) x (.ins C dx []) ∧ w1.S = w.S ++ [.ins c []] ∧ WExt w w1 ∧ SRep G w1 ∧ w1.mu[w.S.length]? = some x := by
  obtain ⟨x1, s1, _⟩ := new_ext (o := .own x) sr hdx
  have hx1 : (w.put dx (.own x)).H x = none := (upd_ne (Ne.symm hne)).trans hx
  obtain ⟨x2, s2⟩ := new_obj (o := .ins C dx []) (ob := .ins c []) s1 hx1 fun w' _ e => ⟨C, dx, [], e, rfl, hC⟩
  refine ⟨_, rfl, rfl, WX'.trans x1 x2, s2, ?_⟩
  show (w.mu ++ [x])[w.S.length]? = some x
  rw [← sr.len]; simp
theorem imp_make {dvs : List V} (hC : G.mg c = some (.ref C)) (hdd : ∀ w, RepL G w dds dvs) : ∀ σ H Q, tE G (eN (mkIns c (callK F dds)) ma) Wx σ H Q → tA G ma Wx σ H fun vs H1 => ∀ x dx, H1 x = none → H1 dx = none → dx ≠ x →
    spOf G F (.ref x :: (vs ++ dvs)) (upd (upd H1 dx (.own x)) x (.ins C dx [])) (fun v H2 => v = .non ∧ Q (.ref x) H2) (WE Wx σ) := by
  intro σ H Q q
  obtain ⟨w, env, rfl, sr, er, p⟩ := q
  refine ⟨w, env, rfl, sr, er, (Post.bind p).mono (fun vs H1 m => ?_) fun _ _ _ h => h⟩
  obtain ⟨w1, d1, rfl, x1, s1, rp1, p1⟩ := m
  intro x dx hx hdx hne
  obtain ⟨w2, e2, eS, x2, s2, hm⟩ := new_ins s1 hC hx hdx hne
  refine ⟨w2, .obj w1.S.length :: (d1 ++ dds), e2, s2, ⟨.ref x, _, rfl, ⟨x, hm, rfl⟩, (RepL.mono x2 _ _ rp1).append (hdd w2)⟩, ?_⟩
  unfold mkIns callK at p1
  rw [← eS] at p1
  rw [List.cons_append] at p1
  cases hF : F (.obj w1.S.length :: (d1 ++ dds)) w2.S with
  | ok d S1 =>
    rw [hF] at p1
    simp only at p1
    cases d with
    | non =>
      intro v w3 x3 e3 s3 r3
      subst e3
      refine ⟨by simpa [Rep] using r3, p1 (.ref x) w3 (WX'.trans x2 x3) rfl s3 ⟨x, x3.mu _ _ hm, rfl⟩⟩
    | _ => exact p1.elim
  | exc e S1 =>
    rw [hF] at p1
    intro Ce dxe w3 x3 e3 s3 xr
    exact p1 Ce dxe w3 (WX'.trans x2 x3) e3 s3 xr
  | bad => rw [hF] at p1; exact p1.elim
theorem RoomG.make {A : Around} (r : RoomG (k + 1) A) (C : Addr) (us : List Value) (kw : List (Str × Value)) : RoomG k (A.under (.builtin "type.__call__" ⟨.ref C :: us, kw⟩)) :=
  ⟨r.rm.make C us kw, by
    have e : (Code.builtin "type.__call__" ⟨.ref C :: us, kw⟩).guards = [] := by
      unfold Code.guards
      rw [if_neg]
      show ¬ (guardIds.contains "type.__call__" = true)
      decide
    simp only [Around.under, e, pushGuards]
    exact r.gd⟩
theorem run_makeG {pins : List (Addr × Obj)} {σ : L2.St} {H : Hp} {s : Shared} {Q : VK} {us : List Value} {vs dvs : List V} {ds : List Value} {E : L2.St → XK} (M : Mk X.K C f) (hF : FnG X.prog X.w X.K X.mg X.base k f fd ps (spOf G F)) (hr : RoomG (k + 1) X.A) (hb : Binds X.K fd ps ds) (hd : Vals dvs ds)
    (hx : PassesAt (L2.CX X.prog X.w) X σ (E σ)) (I : Inv X pins σ H s) (r : Vals vs us)
    (h : ∀ x dx, H x = none → H dx = none → dx ≠ x → spOf G F (.ref x :: (vs ++ dvs)) (upd (upd H dx (.own x)) x (.ins C dx [])) (fun v H2 => v = .non ∧ Q (.ref x) H2) (E σ)) :
    wpAny (model X.prog X.w) X.A (call (.ref C) us) (EP X pins σ Q) X.xe s := by
  have hq := h (s.heap.objs.size + 1) s.heap.objs.size (I.hok.fresh (Nat.le_succ _)) (I.hok.fresh (Nat.le_refl _)) (Nat.ne_of_lt (Nat.lt_succ_self _))
  have I2 := Inv.made (C := C) I
  have r2 : Vals (V.ref (s.heap.objs.size + 1) :: (vs ++ dvs)) (Value.ref (s.heap.objs.size + 1) :: (us ++ ds)) := .cons rfl (r.append hd)
  have hl : (Value.ref (s.heap.objs.size + 1) :: us ++ ds).length = ps.length := by
    have e := r2.length
    rw [hF.len _ _ _ _ hq] at e
    exact e.symm
  refine wpAny_call (make_map (f := f) I.kIn M.makes M.init (beq_iff_eq.mp M.fn) (codeAny_mono (hF.go _ X.stack _ _ ⟨Value.ref (s.heap.objs.size + 1) :: us, []⟩ (Value.ref (s.heap.objs.size + 1) :: (us ++ ds)) _ _ (E σ) (hr.make C us [])
    (I2.env0.make C us []) (hb _ (Value.ref (s.heap.objs.size + 1) :: us) I2.kIn hl) r2 hq) fun r s' hq' => ?_))
  cases r with
  | error e => exact hx pins _ _ e s' I2 hq'
  | ok fl =>
    cases fl with
    | ret u =>
      obtain ⟨v, H', I3, rv, ev, q3⟩ := I2.after hq'
      subst ev
      exact ⟨rv, ⟨V.ref (s.heap.objs.size + 1), H', I3, rfl, q3⟩⟩
    | next => exact False.elim hq'
    | brk => exact False.elim hq'
    | cont => exact False.elim hq'
/-- C(e, ..) -/
theorem q_make (M : Mak X.prog X.w G X.base k c C f fd ps F) (b : Bnd G fd ps dds) (hr : RoomG (k + 1) X.A) (hK : X.K = G.K) (hmg : X.mg = G.mg) (hg : Gl X c) (tk : Takes X Wx) (ha : PA X (e :: es) (tA G ma Wx))
    (hdb : (c == ("__debug__" : Str)) = false := by decide) (he : starEach (e :: es) X.env = (false, eval e X.env) :: starEach es X.env := by rfl) (hpl : (backTo pos (starEach es X.env)).any (·.1) = false := by rfl) :
    PE X (.Call (.Name c p) (e :: es) [] pos) (tE G (eN (mkIns c (callK F dds)) ma) Wx) := by
  obtain ⟨dvs, ds, b1, b2, b3⟩ := b
  refine ⟨fun pins s σ H Q I h => ?_⟩
  have h2 := imp_make (C := C) (dvs := dvs) M.m b3 σ H Q h
  refine wpAny_Call_Name_kw (ld_glob I hg (by rw [hmg]; exact M.m) ?_ hdb)
  refine PySem.W.callWith_K (h₀ := X.base) I.ok.mod.kin (by rw [hK]; exact M.mkr.kp) (thn (ha.run pos pins s σ H _ I h2) fun us s1 ⟨vs, H1, I1, r, q⟩ => ⟨I1.kIn, ?_⟩) he hpl
  exact run_makeG (E := WE Wx) (by rw [hK]; exact M.mkr) (by rw [hK, hmg]; exact M.ok) hr (by rw [hK]; exact b2) b1 (passAt tk σ) I1 r q
/-- C() -/
theorem q_make0 (M : Mak X.prog X.w G X.base k c C f fd ps F) (b : Bnd G fd ps dds) (hr : RoomG (k + 1) X.A) (hK : X.K = G.K) (hmg : X.mg = G.mg) (hg : Gl X c) (tk : Takes X Wx) (hdb : (c == ("__debug__" : Str)) = false := by decide) :
    PE X (.Call (.Name c p) [] [] pos) (tE G (eN (mkIns c (callK F dds)) aNil) Wx) := by
  obtain ⟨dvs, ds, b1, b2, b3⟩ := b
  refine ⟨fun pins s σ H Q I h => ?_⟩
  have h2 := imp_make (C := C) (dvs := dvs) M.m b3 σ H Q h
  refine wpAny_Call_Name_kw (ld_glob I hg (by rw [hmg]; exact M.m) ?_ hdb)
  obtain ⟨w1, env, e1, sr, er, p1⟩ := h2
  subst e1
  have q := p1 [] w1 (.refl _) rfl sr rfl
  exact PySem.W.callWith_K0 I.kIn (by rw [hK]; exact M.mkr.kp) (run_makeG (E := WE Wx) (us := []) (vs := []) (by rw [hK]; exact M.mkr) (by rw [hK, hmg]; exact M.ok) hr (by rw [hK]; exact b2) b1 (passAt tk σ) I .nil q)
theorem fld_nil : FldOk G [] x := fun _ h => nomatch h
theorem fld_cons (h : G.mg c = some (.ref C)) (hc : Cls G.K C) (hn : NoAttr G.K C x) (r : FldOk G cs x) : FldOk G (c :: cs) x := fun c' hc' => by
  rcases List.mem_cons.mp hc' with rfl | hc'
  · exact ⟨C, h, hc, hn⟩
  · exact r c' hc'
end
/-- rooms: a call takes one, an instance two -/
def lv : Nat → Nat
  | 0 => 1
  | k + 1 => lv k + 2
theorem lv1 : ∀ k, 1 ≤ lv k
  | 0 => Nat.le_refl _
  | k + 1 => Nat.le_trans (lv1 k) (Nat.le_add_right _ _)
end L3
set_option Elab.async false
set_option linter.all false
set_option maxRecDepth 100000
/-! L4F: one of several readings; dicts copied; a list in names, the rest of it in one. -/
namespace L3
open PySem PySem.Spec PyProof.Rows L2
section
variable {G : GC} {X : Cx} {Wx : WX} {pos : Pos}
/-- the first reading that says something -/
def eAlt (a b : ED) : ED := fun env S => match a env S with
  | .bad => b env S
  | r => r
theorem q_alt {e : Expr} {a b : ED} (ha : PE X e (tE G a Wx)) (hb : PE X e (tE G b Wx)) : PE X e (tE G (eAlt a b) Wx) := by
  refine ⟨fun pins s σ H Q I q => ?_⟩
  obtain ⟨w, env, rfl, sr, er, p⟩ := q
  unfold eAlt at p
  cases h : a env w.S with
  | bad => rw [h] at p; exact hb.run pins s σ w.H Q I ⟨w, env, rfl, sr, er, p⟩
  | ok d S => rw [h] at p; exact ha.run pins s σ w.H Q I ⟨w, env, rfl, sr, er, by rw [h]; exact p⟩
  | exc x S => rw [h] at p; exact ha.run pins s σ w.H Q I ⟨w, env, rfl, sr, er, by rw [h]; exact p⟩
/-- an expression that no run reaches -/
def eBad : ED := fun _ _ => .bad
def sBad : SD := fun _ _ => .bad
theorem q_bad {e : Expr} : PE X e (tE G eBad Wx) := ⟨fun pins s σ H Q I q => by
  obtain ⟨w, env, rfl, sr, er, p⟩ := q
  exact p.elim⟩
theorem q_sbad {st : Stmt} : PS X st (tS G sBad Wx) := psI ps_never fun D σ H q => by
  obtain ⟨w, env, rfl, sr, er, p⟩ := q
  exact p.elim
/-! dict(d) -/
def dictV : FN := fun xs S => match xs with
  | [x] => match dkAt x S with
    | some kvs => .ok (.dic (kvs.map (·.1)) (kvs.map (·.2))) S
    | none => .bad
  | _ => .bad
def dictO : FN := fun xs S => match xs with
  | [x] => match dkAt x S with
    | some kvs => .ok (.obj S.length) (S ++ [.dK kvs])
    | none => .bad
  | _ => .bad
theorem c_dictV : CalmN dictV := fun xs S => by unfold dictV; repeat' split
                                                all_goals trivial
theorem o_dictV : CallR X (.type "dict") (rN G dictV) := caI2 call_dictD fun xs H Q q => by
  obtain ⟨w, ds, rfl, sr, rl, p⟩ := q
  unfold dictV at p
  split at p
  · rename_i x
    split at p
    · rename_i kvs hk
      simp only [RepL] at rl
      obtain ⟨v, r', rfl, rx, rfl⟩ := rl
      obtain ⟨a, vs, rfl, h1, h2⟩ := dkAt_rep sr rx hk
      refine ⟨a, vs, rfl, .inl h1, fun p' hp => ?_⟩
      obtain ⟨x1, s1, nm⟩ := new_ext (o := .dK vs) sr hp
      obtain ⟨us, eu, ru⟩ := h2.parts
      refine p (.ref p') (w.put p' (.dK vs)) x1 rfl s1 ?_
      simp only [Rep]
      exact ⟨p', us, rfl, by rw [← eu]; exact upd_same, nm, by simp, RepL.mono x1 _ _ ru⟩
    · exact p.elim
  · exact p.elim
theorem c_dictO : CalmN dictO := fun xs S => by unfold dictO; repeat' split
                                                all_goals trivial
theorem o_dictO : CallR X (.type "dict") (rN G dictO) := caI2 call_dictD fun xs H Q q => by
  obtain ⟨w, ds, rfl, sr, rl, p⟩ := q
  unfold dictO at p
  split at p
  · rename_i x
    split at p
    · rename_i kvs hk
      simp only [RepL] at rl
      obtain ⟨v, r', rfl, rx, rfl⟩ := rl
      obtain ⟨a, vs, rfl, h1, h2⟩ := dkAt_rep sr rx hk
      refine ⟨a, vs, rfl, .inl h1, fun p' hp => ?_⟩
      obtain ⟨x1, s1⟩ := new_obj (o := .dK vs) (ob := .dK kvs) sr hp fun w' xe e => ⟨vs, e, RepKV.mono xe _ _ h2⟩
      refine p (.ref p') _ x1 rfl s1 ?_
      show ∃ a, (w.mu ++ [p'])[w.S.length]? = some a ∧ _
      exact ⟨p', by rw [← sr.len]; simp, rfl⟩
    · exact p.elim
  · exact p.elim
/-! a, b = a list or a tuple -/
def gSeq (is : List Nat) : GD := fun d env S => match d with
  | .tup l => gNames is l env S
  | .lst l => gNames is l env S
  | _ => .bad
theorem gNames_len : ∀ {is : List Nat} {l : List D} {env env' : EnvD} {S S' : Store}, gNames is l env S = .nx env' S' → l.length = is.length
  | [], [], _, _, _, _, _ => rfl
  | [], _ :: _, _, _, _, _, e => nomatch e
  | _ :: _, [], _, _, _, _, e => nomatch e
  | i :: is, d :: l, env, env', S, S', e => by
    have := gNames_len (is := is) (l := l) (env := env.set i (some d)) e
    simp [this]
theorem q_gseq {es : List Expr} {k : Nat} {is : List Nat} (hK : X.K = G.K) (hc : X.calm = true) (h : PGs X es (tGs G is)) (hn : (assignEach es X.env).length = is.length := by rfl) (hst : (assignEach es X.env).findIdx? (·.1) = none := by rfl) :
    PG X (.Tuple es k pos) (tG G (gSeq is)) := by
  refine ⟨fun pins s σ H v u Q I r q => ?_⟩
  obtain ⟨w, env, d, rfl, sr, er, rp, p⟩ := q
  cases d with
  | tup l => exact (q_gtup hK hc h hn hst).run pins s σ w.H v u Q I r ⟨w, env, .tup l, rfl, sr, er, rp, p⟩
  | lst l =>
    simp only [Rep] at rp
    obtain ⟨a, vs, rfl, h1, nm, rl⟩ := rp
    simp only [gSeq] at p
    rcases gNames_nx (is := is) (ds := l) (env := env) (S := w.S) with ⟨env', e⟩ | e
    · rw [e] at p
      exact (pg_lst hc h hn hst).run pins s σ w.H (.ref a) u Q I r ⟨a, vs, rfl, .inl (.inl h1), by rw [rl.length]; exact gNames_len e, w, env, l, env', rfl, sr, er, rl, e, fun σ' er' => p σ' w (.refl _) rfl sr er'⟩
    · rw [e] at p; exact p.elim
  | _ => exact p.elim
/-! a, *b, c = .. -/
theorem starL {prog : Program} {w : World} {A : Around} {E : Value → Shared → Prop} {s : Shared} {l : Addr} {items : Array Value} {n i : Nat} {Q : List Value → Shared → Prop} (hl : s.heap.IsList l items) (hh : A.handled = none) (hi : i < n) (hn : n ≤ items.size + 1) (hz : items.size ≤ 16384)
    (h : ∀ (h' : Heap) (tk : Nat), (∀ b o, s.heap.get? b = some o → h'.get? b = some o) → Q (items.toList.take i ++ [.ref h'.objs.size] ++ (items.toList.drop i).drop (items.size + 1 - n)) { s with heap := h'.push { cls := .type "list", data := .seq ((items.toList.drop i).take (items.size + 1 - n)).toArray }, toks := tk }) :
    wpAny (model prog w) A (unpackItems (.ref l) n (some i)) Q E s := by
  have hlt : l ≠ s.heap.objs.size := by obtain ⟨o, ho, _⟩ := hl; exact Nat.ne_of_lt (Heap.lt_size ho)
  have hll : l < s.heap.objs.size := by obtain ⟨o, ho, _⟩ := hl; exact Heap.lt_size ho
  unfold unpackItems
  refine wpAny_bind ?_
  unfold notIterableAtAll
  refine wpAny_bind (wpAny_specialOf hl.typeIs slot_list_iter.lookup ?_)
  refine wpAny_pure ?_
  simp only [Bool.false_eq_true, if_false]
  refine wpAny_bind (wpAny_holding (wpAny_pyIter_list hl ?_))
  refine wpAny_bind (wpAny_holding (PySem.W.kun_draw hlt i 0 _ _ ⟨_, Heap.get?_push_size _ rfl, rfl, rfl⟩ (hl.push _) (by omega) fun h₁ hit₁ hs₁ => ?_))
  have hl₁ : h₁.IsList l items := (hl.push _).extBut hs₁.extBut hlt
  rw [Nat.zero_add] at hit₁
  have hit₁' := hit₁
  obtain ⟨oi, hoi, _⟩ := hit₁'
  have hl₁' := hl₁
  obtain ⟨ol, hol, _⟩ := hl₁'
  rw [List.drop_zero]
  have hfl : (items.toList.take i).length = i := by rw [List.length_take, Array.length_toList]; omega
  rw [if_neg (show ¬ ((items.toList.take i).length < i) by rw [hfl]; omega)]
  refine wpAny_bind (wpAny_holding (PySem.W.kun_collect (s := { s with heap := h₁ }) (T := "list_iterator") (.inr (.inr (.inl rfl))) (Walks.list (A := A.in1) hh s.heap.objs.size l hlt items) (fun j u st => st.1.typeIs) (k := i) (by omega) ⟨hit₁, hl₁⟩ (Heap.lt_size hoi) (Heap.lt_size hol) (fun h₂ tk hk => ?_) (by rw [sizeLine_eq]; omega)))
  have hrl : (items.toList.drop i).length = items.size - i := by rw [List.length_drop, Array.length_toList]
  have hmid : (items.toList.drop i).length - (n - 1 - i) = items.size + 1 - n := by rw [hrl]; omega
  show wpAny _ _ (if (items.toList.drop i).length < n - 1 - i then _ else _) _ _ _
  rw [if_neg (by rw [hrl]; omega)]
  show wpAny _ _ (newList ((items.toList.drop i).take ((items.toList.drop i).length - (n - 1 - i))) >>= fun d => pure (items.toList.take i ++ [d] ++ (items.toList.drop i).drop ((items.toList.drop i).length - (n - 1 - i)))) _ _ _
  rw [hmid]
  have he : ∀ b o, s.heap.get? b = some o → h₂.get? b = some o := fun b o e => hk b o (Nat.ne_of_lt (Heap.lt_size e)) (hs₁.extBut b o (Nat.ne_of_lt (Heap.lt_size e)) (Heap.get?_push_of_some _ e))
  exact wpAny_bind (wpAny_newList (wpAny_pure (h h₂ tk he)) (by rw [List.length_take, hrl, sizeLine_eq]; omega))
theorem starT {prog : Program} {w : World} {A : Around} {E : Value → Shared → Prop} {s : Shared} {l : Addr} {items : Array Value} {n i : Nat} {Q : List Value → Shared → Prop} (hl : IsTup s.heap l items) (hh : A.handled = none) (hi : i < n) (hn : n ≤ items.size + 1) (hz : items.size ≤ 16384)
    (h : ∀ (h' : Heap) (tk : Nat), (∀ b o, s.heap.get? b = some o → h'.get? b = some o) → Q (items.toList.take i ++ [.ref h'.objs.size] ++ (items.toList.drop i).drop (items.size + 1 - n)) { s with heap := h'.push { cls := .type "list", data := .seq ((items.toList.drop i).take (items.size + 1 - n)).toArray }, toks := tk }) :
    wpAny (model prog w) A (unpackItems (.ref l) n (some i)) Q E s := by
  have hlt : l ≠ s.heap.objs.size := by obtain ⟨o, ho, _⟩ := hl; exact Nat.ne_of_lt (Heap.lt_size ho)
  have hll : l < s.heap.objs.size := by obtain ⟨o, ho, _⟩ := hl; exact Heap.lt_size ho
  unfold unpackItems
  refine wpAny_bind ?_
  unfold notIterableAtAll
  refine wpAny_bind (wpAny_specialOf hl.typeIs slot_tuple_iter.lookup ?_)
  refine wpAny_pure ?_
  simp only [Bool.false_eq_true, if_false]
  refine wpAny_bind (wpAny_holding (iter_tuple hl ?_))
  refine wpAny_bind (wpAny_holding (draw_tuple hlt i 0 _ _ ⟨_, Heap.get?_push_size _ rfl, rfl, rfl⟩ (hl.push _) (by omega) fun h₁ hit₁ hs₁ => ?_))
  have hl₁ : IsTup h₁ l items := (hl.push _).extBut hs₁.extBut hlt
  rw [Nat.zero_add] at hit₁
  have hit₁' := hit₁
  obtain ⟨oi, hoi, _⟩ := hit₁'
  have hl₁' := hl₁
  obtain ⟨ol, hol, _⟩ := hl₁'
  rw [List.drop_zero]
  have hfl : (items.toList.take i).length = i := by rw [List.length_take, Array.length_toList]; omega
  rw [if_neg (show ¬ ((items.toList.take i).length < i) by rw [hfl]; omega)]
  refine wpAny_bind (wpAny_holding (PySem.W.kun_collect (s := { s with heap := h₁ }) (T := "tuple_iterator") (.inr (.inr (.inr rfl))) (Walks.tuple (A := A.in1) hh s.heap.objs.size l hlt items) (fun j u st => st.1.typeIs) (k := i) (by omega) ⟨hit₁, hl₁⟩ (Heap.lt_size hoi) (Heap.lt_size hol) (fun h₂ tk hk => ?_) (by rw [sizeLine_eq]; omega)))
  have hrl : (items.toList.drop i).length = items.size - i := by rw [List.length_drop, Array.length_toList]
  have hmid : (items.toList.drop i).length - (n - 1 - i) = items.size + 1 - n := by rw [hrl]; omega
  show wpAny _ _ (if (items.toList.drop i).length < n - 1 - i then _ else _) _ _ _
  rw [if_neg (by rw [hrl]; omega)]
  show wpAny _ _ (newList ((items.toList.drop i).take ((items.toList.drop i).length - (n - 1 - i))) >>= fun d => pure (items.toList.take i ++ [d] ++ (items.toList.drop i).drop ((items.toList.drop i).length - (n - 1 - i)))) _ _ _
  rw [hmid]
  have he : ∀ b o, s.heap.get? b = some o → h₂.get? b = some o := fun b o e => hk b o (Nat.ne_of_lt (Heap.lt_size e)) (hs₁.extBut b o (Nat.ne_of_lt (Heap.lt_size e)) (Heap.get?_push_of_some _ e))
  exact wpAny_bind (wpAny_newList (wpAny_pure (h h₂ tk he)) (by rw [List.length_take, hrl, sizeLine_eq]; omega))
/-- a list or a tuple in the names is, the rest of it, a new list, in the i-th -/
def gStar (i : Nat) (is : List Nat) : GD := fun d env S => match d with
  | .tup l => if i < is.length ∧ is.length ≤ l.length + 1 ∧ l.length ≤ 16384 then gNames is (l.take i ++ [.lst ((l.drop i).take (l.length + 1 - is.length))] ++ (l.drop i).drop (l.length + 1 - is.length)) env S else .bad
  | .lst l => if i < is.length ∧ is.length ≤ l.length + 1 ∧ l.length ≤ 16384 then gNames is (l.take i ++ [.lst ((l.drop i).take (l.length + 1 - is.length))] ++ (l.drop i).drop (l.length + 1 - is.length)) env S else .bad
  | _ => .bad
theorem q_gsstar {e : Expr} {es : List Expr} {p : Pos} {i : Nat} {is : List Nat} (h1 : PG X e (L2.gName i)) (h2 : PGs X es (tGs G is))
    (hs : (assignEach (.Starred e p :: es) X.env).map (·.2) = assign e X.env :: (assignEach es X.env).map (·.2) := by rfl) : PGs X (.Starred e p :: es) (tGs G (i :: is)) := by
  refine ⟨fun pins s σ H vs us Q I r q => ?_⟩
  obtain ⟨w, env, ds, env', rfl, sr, er, rl, e', k⟩ := q
  cases ds with
  | nil => cases e'
  | cons d ds =>
    simp only [RepL] at rl
    obtain ⟨v, r', rfl, r1, r2⟩ := rl
    cases r with
    | cons rv rr =>
      rw [hs]
      refine assignInOrder_cons (thn (h1.run pins s σ w.H v _ (fun σ' H' => σ' = σ.set i (some v) ∧ H' = w.H) I rv ⟨rfl, rfl⟩) fun _ s1 ⟨σ1, H1, I1, e1, e2⟩ => ?_)
      subst e1 e2
      exact h2.run pins s1 _ w.H r' _ Q I1 rr ⟨w, _, ds, env', rfl, sr, er.set i r1, r2, e', k⟩
theorem vals_parts {xs : List V} {us : List Value} (h : Vals xs us) (n : Nat) : Vals (xs.take n) (us.take n) ∧ Vals (xs.drop n) (us.drop n) := by
  induction h generalizing n with
  | nil => simp only [List.take_nil, List.drop_nil]; exact ⟨.nil, .nil⟩
  | cons r t ih =>
    cases n with
    | zero => exact ⟨.nil, .cons r t⟩
    | succ n => exact ⟨.cons r (ih n).1, (ih n).2⟩
theorem q_gstar {es : List Expr} {k i : Nat} {is : List Nat} (hK : X.K = G.K) (hc : X.calm = true) (h : PGs X es (tGs G is)) (hn : (assignEach es X.env).length = is.length := by rfl) (hst : (assignEach es X.env).findIdx? (·.1) = some i := by rfl) :
    PG X (.Tuple es k pos) (tG G (gStar i is)) := by
  refine ⟨fun pins s σ H v u Q I r q => ?_⟩
  obtain ⟨w, env, d, rfl, sr, er, rp, p⟩ := q
  have fin : ∀ {its : List Value} {vs : List V} {l : List D} {s1 : Shared}, RepL G w l vs → Vals vs its → is.length ≤ l.length + 1 →
      (match gNames is (l.take i ++ [.lst ((l.drop i).take (l.length + 1 - is.length))] ++ (l.drop i).drop (l.length + 1 - is.length)) env w.S with
        | .nx env' S' => ∀ σ' w', WExt w w' → w'.S = S' → SRep G w' → ERep G w' env' σ' → Q σ' w'.H
        | _ => False) → ∀ (h' : Heap) (tk : Nat), (∀ b o, s.heap.get? b = some o → h'.get? b = some o) → l.length ≤ 16384 →
      wpAny (model X.prog X.w) X.A (assignInOrder ((assignEach es X.env).map (·.2)) (its.take i ++ [.ref h'.objs.size] ++ (its.drop i).drop (its.length + 1 - is.length))) (fun _ s' => ∃ σ' H', Inv X pins σ' H' s' ∧ Q σ' H') X.xe
        { s with heap := h'.push { cls := .type "list", data := .seq ((its.drop i).take (its.length + 1 - is.length)).toArray }, toks := tk } := by
    intro its vs l s1 rl rv hle p h' tk hk hz
    rcases gNames_nx (is := is) (ds := l.take i ++ [.lst ((l.drop i).take (l.length + 1 - is.length))] ++ (l.drop i).drop (l.length + 1 - is.length)) (env := env) (S := w.S) with ⟨env', e⟩ | e
    · rw [e] at p
      have lv := rl.length
      have lu := rv.length
      have Ik : Inv X pins σ w.H { s with heap := h', toks := tk } := I.kept (t' := tk) hk
      have hfr : w.H h'.objs.size = none := Ik.hok.fresh (Nat.le_refl _)
      have I2 := Ik.laid (a := h'.objs.size) (o := .lst ((vs.drop i).take (l.length + 1 - is.length))) (h' := h'.push { cls := .type "list", data := .seq ((its.drop i).take (its.length + 1 - is.length)).toArray }) (t' := tk) (fun b u e => Heap.get?_push_of_some _ e) (Nat.le_refl _)
        (show ObjOk X.prog X.w _ _ _ (.lst ((vs.drop i).take (l.length + 1 - is.length))) from ⟨by rw [List.length_take, List.length_drop, sizeLine_eq]; omega, (its.drop i).take (its.length + 1 - is.length), 0, by rw [show its.length = l.length by omega]; exact (vals_parts (vals_parts rv i).2 _).1, Heap.get?_push_size _ rfl⟩)
      obtain ⟨x1, s1, nm⟩ := new_ext (o := .lst ((vs.drop i).take (l.length + 1 - is.length))) sr hfr
      have rl1 := RepL.mono x1 _ _ rl
      have rmid : Rep G (w.put h'.objs.size (.lst ((vs.drop i).take (l.length + 1 - is.length)))) (.lst ((l.drop i).take (l.length + 1 - is.length))) (.ref h'.objs.size) := by
        simp only [Rep]
        exact ⟨_, _, rfl, upd_same, nm, (rl1.drop i).take _⟩
      refine h.run pins _ σ _ (vs.take i ++ [.ref h'.objs.size] ++ (vs.drop i).drop (l.length + 1 - is.length)) _ Q I2 ?_ ⟨w.put h'.objs.size (.lst ((vs.drop i).take (l.length + 1 - is.length))), env, _, env', rfl, s1, er.mono x1, ((rl1.take i).append (RepL.one rmid)).append ((rl1.drop i).drop _), e, fun σ' er' => p σ' _ x1 rfl s1 er'⟩
      rw [show its.length = l.length by omega]
      have one : Vals [V.ref h'.objs.size] [Value.ref h'.objs.size] := .cons rfl .nil
      exact ((vals_parts rv i).1.append one).append (vals_parts (vals_parts rv i).2 _).2
    · rw [e] at p; exact p.elim
  cases d with
  | tup l =>
    simp only [Rep] at rp
    obtain ⟨a, vs, rfl, h1, rl⟩ := rp
    cases r
    simp only [gStar] at p
    by_cases hz : i < is.length ∧ is.length ≤ l.length + 1 ∧ l.length ≤ 16384
    · rw [if_pos hz] at p
      have hq : SqT X.K w.H a vs := by rw [hK]; exact SqT_of h1
      obtain ⟨its, rv, ht, hz2⟩ := I.tuple hq
      have lv := rl.length
      have lu := rv.length
      rw [PyProof.Rows.assign_Tuple]
      refine wpAny_bind (wpAny_standAt ?_)
      unfold unpack
      rw [hn, hst]
      refine wpAny_bind (wpAny_holding (starT (items := its.toArray) ht (I.ok.hd hc) hz.1 (by simp; omega) (by simp; omega) fun h' tk hk => ?_))
      have := fin (s1 := s) rl rv hz.2.1 p h' tk hk hz.2.2
      simpa using this
    · rw [if_neg hz] at p; exact p.elim
  | lst l =>
    simp only [Rep] at rp
    obtain ⟨a, vs, rfl, h1, nm, rl⟩ := rp
    cases r
    simp only [gStar] at p
    by_cases hz : i < is.length ∧ is.length ≤ l.length + 1 ∧ l.length ≤ 16384
    · rw [if_pos hz] at p
      obtain ⟨its, rv, ht, hz2⟩ := I.list (.inl (.inl h1))
      have lv := rl.length
      have lu := rv.length
      rw [PyProof.Rows.assign_Tuple]
      refine wpAny_bind (wpAny_standAt ?_)
      unfold unpack
      rw [hn, hst]
      refine wpAny_bind (wpAny_holding (starL (items := its.toArray) ht.isList (I.ok.hd hc) hz.1 (by simp; omega) (by simp; omega) fun h' tk hk => ?_))
      have := fin (s1 := s) rl rv hz.2.1 p h' tk hk hz.2.2
      simpa using this
    · rw [if_neg hz] at p; exact p.elim
  | _ => exact p.elim
end
end L3
set_option Elab.async false
set_option linter.all false
set_option maxRecDepth 100000
/-! L4G: many new objects at once; list(d.items()), tuple(zip(..)). -/
namespace L3
open PySem PySem.Spec PyProof.Rows L2
def keyD : Key → D
  | .inl i => .int i
  | .inr s => .str s
theorem keyD_rep {G : GC} {w : Wd} : ∀ k : Key, Rep G w (keyD k) (kV k)
  | .inl i => by simp only [keyD, Rep]; rfl
  | .inr s => by simp only [keyD, Rep]; rfl
/-- objects that are new -/
theorem grow_ext {G : GC} {w : Wd} {H' : Hp} (sr : SRep G w) (k : ∀ b o, w.H b = some o → H' b = some o) :
    WExt w { w with H := H' } ∧ SRep G { w with H := H' } ∧ ∀ p, w.H p = none → ¬ Mut { w with H := H' } p := by
  have x : WExt w { w with H := H' } := ⟨fun _ _ h => h, fun a u h nm _ => ⟨k a u h, nm⟩, fun _ h => .inl h, fun _ h => h⟩
  refine ⟨x, ⟨sr.len, sr.inj, fun n ob a h1 h2 => ?_, fun a ha => ?_⟩, fun p hp m => m.elim (fun m => ?_) fun m => ?_⟩
  · have h := sr.obj n ob a h1 h2
    refine h.keep x noT fun lv => ?_
    obtain ⟨u, e⟩ := h.there lv
    exact (k a u e).trans e.symm
  · obtain ⟨⟨u, e⟩, nm⟩ := sr.tm a ha
    exact ⟨⟨u, k a u e⟩, nm⟩
  · obtain ⟨u, e⟩ := MutS.there sr (show MutS w p from m)
    rw [hp] at e; cases e
  · obtain ⟨⟨u, e⟩, _⟩ := sr.tm p m
    rw [hp] at e; cases e
def pairs : List (Key × D) → List D
  | [] => []
  | p :: r => .tup [keyD p.1, p.2] :: pairs r
/-- list(d.items()) -/
def litemsD : F1 := fun x S => match dkAt x S with
  | some kvs => .ok (.lst (pairs kvs)) S
  | none => .bad
def litemsO : F1 := fun x S => match dkAt x S with
  | some kvs => .ok (.obj S.length) (S ++ [.lst (pairs kvs)])
  | none => .bad
theorem pairs_rep {G : GC} {w : Wd} : ∀ {kvs : List (Key × D)} {vs : List (Key × V)} {ts : List Addr}, RepKV G w kvs vs → (∀ t ∈ ts, ¬ Mut w t) → Paired (fun (t : Addr) (q : Key × V) => w.H t = some (.tup [kV q.1, q.2])) ts vs → RepL G w (pairs kvs) (ts.map V.ref)
  | [], vs, ts, h, _, p => by
    have e : vs = [] := h
    subst e
    cases p
    simp [pairs, RepL]
  | q :: kvs, vs, ts, h, nm, p => by
    obtain ⟨v, y, e, h1, h2⟩ := h
    subst e
    cases p with
    | cons r t =>
      rename_i a as
      show RepL G w (.tup [keyD q.1, q.2] :: pairs kvs) (V.ref a :: as.map V.ref)
      simp only [RepL]
      refine ⟨_, _, rfl, ?_, pairs_rep h2 (fun t ht => nm t (List.mem_cons_of_mem _ ht)) t⟩
      simp only [Rep]
      refine ⟨a, _, rfl, .inl ⟨r, nm a List.mem_cons_self⟩, ?_⟩
      simp only [RepL]
      exact ⟨_, _, rfl, keyD_rep _, _, _, rfl, h1, rfl⟩
theorem _root_.LiI.paired_with {α β : Type} {F F' : α → β → Prop} : ∀ {as : List α} {bs : List β}, Paired F as bs → (∀ a ∈ as, ∀ b, F a b → F' a b) → Paired F' as bs
  | _, _, .nil, _ => .nil
  | _, _, .cons h t, k => .cons (k _ List.mem_cons_self _ h) (LiI.paired_with t fun a ha b q => k a (List.mem_cons_of_mem _ ha) b q)
section
variable {G : GC} {X : Cx} {Wx : WX} {e : Expr} {m : ED} {p apos cpos pos : Pos}
theorem q_items (hc : X.calm = true) (he : PE X e (tE G m Wx)) (hg : Gl X "list") (hm : X.mg "list" = none) (hbase : attributeBase e "items" X.env (eval e X.env) = eval e X.env := by rfl) (hline : (apos.endLine == cpos.line) = true := by rfl)
    (hs : starEach [.Call (.Attribute e "items" apos) [] [] cpos] X.env = (false, eval (.Call (.Attribute e "items" apos) [] [] cpos) X.env) :: starEach [] X.env := by rfl) :
    PE X (.Call (.Name "list" p) [.Call (.Attribute e "items" apos) [] [] cpos] [] pos) (tE G (e1 litemsD m) Wx) :=
  peI (LiI.pe_listItems hc he hg hm PyProof.Rows.boot_list hbase hline hs) fun σ H Q q => by
  obtain ⟨w, env, rfl, sr, er, p⟩ := q
  refine ⟨w, env, rfl, sr, er, (Post.bind p).mono (fun v H1 ⟨w1, d, eH, x, s1, r1, p1⟩ => ?_) fun _ _ _ h => h⟩
  subst eH
  simp only [litemsD] at p1
  split at p1
  · rename_i kvs hk
    obtain ⟨a, vs, rfl, h1, h2⟩ := dkAt_rep s1 r1 hk
    refine ⟨a, vs, rfl, h1, fun H' p' ts k hp hts hpt hpH pr => ?_⟩
    obtain ⟨x1, s2, nm⟩ := grow_ext s1 k
    refine p1 (.ref p') { w1 with H := H' } x1 rfl s2 ?_
    simp only [Rep]
    exact ⟨p', _, rfl, hpH, nm p' hp, pairs_rep (RepKV.mono x1 _ _ h2) (fun t ht => nm t (hts t ht)) pr⟩
  · exact p1.elim
theorem new_objL {G : GC} {w : Wd} {H' : Hp} {p : Addr} {o : HO} {ob : O} (sr : SRep G w) (k : ∀ b o, w.H b = some o → H' b = some o) (hp : w.H p = none) (hpH : H' p = some o)
    (hor : ∀ w0 : Wd, WExt w w0 → (∀ b, b ≠ p → w0.H b = H' b) → (∀ q, w.H q = none → ¬ Mut w0 q) → ∀ w', WExt w0 w' → w'.H p = some o → ORep G w' p ob) :
    WExt w ⟨w.mu ++ [p], w.S ++ [ob], H', w.tmp⟩ ∧ SRep G ⟨w.mu ++ [p], w.S ++ [ob], H', w.tmp⟩ := by
  have e : ∃ H0 : Hp, (∀ b o, w.H b = some o → H0 b = some o) ∧ H0 p = none ∧ (∀ b, b ≠ p → H0 b = H' b) ∧ upd H0 p o = H' := by
    refine ⟨fun b => if b = p then none else H' b, fun b o h => ?_, by simp, fun b hb => by simp [hb], ?_⟩
    · have : b ≠ p := fun z => by rw [z, hp] at h; cases h
      simp [this, k b o h]
    · funext b
      by_cases hb : b = p
      · subst hb; rw [upd_same, hpH]
      · rw [upd_ne hb]; simp [hb]
  obtain ⟨H0, k0, hp0, kb, e⟩ := e
  subst e
  obtain ⟨x0, s0, nm0⟩ := grow_ext sr k0
  obtain ⟨x1, s1⟩ := new_obj (w := { w with H := H0 }) (p := p) (o := o) (ob := ob) s0 hp0 (hor _ x0 kb nm0)
  exact ⟨WX'.trans x0 x1, s1⟩
theorem q_itemsO (hc : X.calm = true) (he : PE X e (tE G m Wx)) (hg : Gl X "list") (hm : X.mg "list" = none) (hbase : attributeBase e "items" X.env (eval e X.env) = eval e X.env := by rfl) (hline : (apos.endLine == cpos.line) = true := by rfl)
    (hs : starEach [.Call (.Attribute e "items" apos) [] [] cpos] X.env = (false, eval (.Call (.Attribute e "items" apos) [] [] cpos) X.env) :: starEach [] X.env := by rfl) :
    PE X (.Call (.Name "list" p) [.Call (.Attribute e "items" apos) [] [] cpos] [] pos) (tE G (e1 litemsO m) Wx) :=
  peI (LiI.pe_listItems hc he hg hm PyProof.Rows.boot_list hbase hline hs) fun σ H Q q => by
  obtain ⟨w, env, rfl, sr, er, p⟩ := q
  refine ⟨w, env, rfl, sr, er, (Post.bind p).mono (fun v H1 ⟨w1, d, eH, x, s1, r1, p1⟩ => ?_) fun _ _ _ h => h⟩
  subst eH
  simp only [litemsO] at p1
  split at p1
  · rename_i kvs hk
    obtain ⟨a, vs, rfl, h1, h2⟩ := dkAt_rep s1 r1 hk
    refine ⟨a, vs, rfl, h1, fun H' p' ts k hp hts hpt hpH pr => ?_⟩
    obtain ⟨x1, s2⟩ := new_objL (ob := .lst (pairs kvs)) s1 k hp hpH fun w0 x0 kb nm w' xw ew => ⟨_, ew, RepL.mono xw _ _ (pairs_rep (RepKV.mono x0 _ _ h2) (fun t ht => nm t (hts t ht)) (LiI.paired_with pr fun t ht q h => (kb t fun z => hpt (z ▸ ht)).trans h))⟩
    refine p1 (.ref p') _ x1 rfl s2 ?_
    show ∃ a, (w1.mu ++ [p'])[w1.S.length]? = some a ∧ _
    exact ⟨p', by rw [← s1.len]; simp, rfl⟩
  · exact p1.elim
end
end L3
set_option Elab.async false
set_option linter.all false
set_option maxRecDepth 100000
/-! L4H: tuple(zip(a, b)) of two lists. -/
namespace TZ
open PySem PySem.Spec PyProof.Rows
theorem nolen_zip : typeLookup (.type "zip") "__len__" = pure none := by rw [typeLookup_type, builtinLookup_eq_fast]; kernel_rfl
theorem nohint_zip : typeLookup (.type "zip") "__length_hint__" = pure none := by rw [typeLookup_type, builtinLookup_eq_fast]; kernel_rfl
/-- the zip z of the lists l1 and l2 ahead of its item i, the list S in the making -/
def ZSt (z TI TO i1 i2 l1 l2 S : Addr) (xs ys : Array Value) (i : Nat) (h : Heap) : Prop :=
  IsPair h TI (.ref i1) (.ref i2) ∧ h.IsListIter i1 l1 i ∧ h.IsListIter i2 l2 i ∧ h.IsList l1 xs ∧ h.IsList l2 ys ∧
    ((IsZip h z TI TO .none ∧ ∃ a b, IsPair h TO a b) ∨ ∃ T f oT, IsZipHeld h z TI TO T f ∧ h.get? T = some oT ∧ T ≠ z ∧ T ≠ i1 ∧ T ≠ i2 ∧ T ≠ S)
section
variable {prog : Program} {w : World} {A : Around} {E : Value → Shared → Prop} {s : Shared} {z TI TO i1 i2 l1 l2 S : Addr} {xs ys : Array Value} {i : Nat}
theorem ZSt.keep {h h' : Heap} (st : ZSt z TI TO i1 i2 l1 l2 S xs ys i h) (dz : z ≠ S) (dTI : TI ≠ S) (dTO : TO ≠ S) (d1 : i1 ≠ S) (d2 : i2 ≠ S) (e1 : l1 ≠ S) (e2 : l2 ≠ S)
    (hk : ∀ b o, b ≠ S → h.get? b = some o → h'.get? b = some o) : ZSt z TI TO i1 i2 l1 l2 S xs ys i h' := by
  obtain ⟨hTI, h1, h2, hl1, hl2, hz⟩ := st
  refine ⟨hk _ _ dTI hTI, h1.at fun o e => hk _ o d1 e, h2.at fun o e => hk _ o d2 e, hl1.at fun o e => hk _ o e1 e, hl2.at fun o e => hk _ o e2 e, ?_⟩
  rcases hz with ⟨hz, a, b, hTO⟩ | ⟨T, f, oT, hz, hT, r1, r2, r3, r4⟩
  · exact .inl ⟨hk _ _ dz hz, a, b, hk _ _ dTO hTO⟩
  · exact .inr ⟨T, f, oT, hk _ _ dz hz, hk _ _ r4 hT, r1, r2, r3, r4⟩
theorem ZSt.typeIs (st : ZSt z TI TO i1 i2 l1 l2 S xs ys i s.heap) : s.TypeIs (.ref z) "zip" := by
  obtain ⟨_, _, _, _, _, ⟨hz, _⟩ | ⟨T, f, oT, hz, _⟩⟩ := st
  · exact ⟨_, hz, rfl⟩
  · exact ⟨_, hz, rfl⟩
theorem nxtZ {x y : Value} {Q : Option Value → Shared → Prop} (D : ZipApart z TI TO i1 i2 l1 l2) (st : ZSt z TI TO i1 i2 l1 l2 S xs ys i s.heap) (hS : S < s.heap.objs.size) (ex : xs[i]? = some x) (ey : ys[i]? = some y)
    (hQ : ∀ h', ZSt z TI TO i1 i2 l1 l2 S xs ys (i + 1) h' → IsPair h' s.heap.objs.size x y → (∀ b o, b ≠ z → b ≠ TO → b ≠ i1 → b ≠ i2 → s.heap.get? b = some o → h'.get? b = some o) → Q (some (.ref s.heap.objs.size)) { s with heap := h' }) :
    wpAny (model prog w) A (pyNext (.ref z)) Q E s := by
  obtain ⟨hTI, h1, h2, hl1, hl2, hz⟩ := st
  have lt : ∀ {c o}, s.heap.get? c = some o → s.heap.objs.size ≠ c := fun e => Nat.ne_of_gt (Heap.lt_size e)
  have n1 : s.heap.objs.size ≠ i1 := let ⟨_, e, _⟩ := h1; lt e
  have n2 : s.heap.objs.size ≠ i2 := let ⟨_, e, _⟩ := h2; lt e
  rcases hz with ⟨hz, a, b, hTO⟩ | ⟨T, f, oT, hz, hT, r1, r2, r3, r4⟩
  · refine wpAny_pyNext_zip_item D hz hTI hTO h1 h2 hl1 hl2 ex ey fun h' a1 a2 a3 a4 a5 a6 hk => ?_
    exact hQ h' ⟨hk _ _ D.TIz D.TITO D.TIi1 D.TIi2 hTI, a3, a4, hl1.at fun o e => hk _ o D.l1z D.l1TO D.l1i1 D.l1i2 e, hl2.at fun o e => hk _ o D.l2z D.l2TO D.l2i1 D.l2i2 e,
      .inr ⟨s.heap.objs.size, false, _, a1, a5, lt hz, n1, n2, Nat.ne_of_gt hS⟩⟩ a5 fun c o c1 c2 c3 c4 e => hk c o c1 c2 c3 c4 e
  · refine wpAny_pyNext_zip_item_held D hz hT hTI h1 h2 hl1 hl2 ex ey fun h' a1 a3 a4 a5 a6 hk => ?_
    exact hQ h' ⟨hk _ _ D.TIz D.TIi1 D.TIi2 hTI, a3, a4, hl1.at fun o e => hk _ o D.l1z D.l1i1 D.l1i2 e, hl2.at fun o e => hk _ o D.l2z D.l2i1 D.l2i2 e,
      .inr ⟨T, true, oT, a1, hk _ _ r1 r2 r3 hT, r1, r2, r3, r4⟩⟩ a5 fun c o c1 c2 c3 c4 e => hk c o c1 c3 c4 e
theorem finZ {Q : Option Value → Shared → Prop} (hA : A.handled = none) (D : ZipApart z TI TO i1 i2 l1 l2) (st : ZSt z TI TO i1 i2 l1 l2 S xs ys i s.heap) (hend : xs[i]? = none ∨ ys[i]? = none)
    (hQ : ∀ h', (∀ b o, b ≠ z → b ≠ TO → b ≠ i1 → b ≠ i2 → s.heap.get? b = some o → h'.get? b = some o) → Q none { s with heap := h' }) : wpAny (model prog w) A (pyNext (.ref z)) Q E s := by
  obtain ⟨hTI, h1, h2, hl1, hl2, hz⟩ := st
  rcases hz with ⟨hz, a, b, hTO⟩ | ⟨T, f, oT, hz, hT, r1, r2, r3, r4⟩
  · exact wpAny_pyNext_zip_end hA D hz hTI hTO h1 h2 hl1 hl2 hend fun h' hk => hQ h' fun c o c1 c2 c3 c4 e => hk c o c1 c2 c3 c4 e
  · exact wpAny_pyNext_zip_end_held hA D hz hT hTI h1 h2 hl1 hl2 hend fun h' hk => hQ h' fun c o c1 c2 c3 c4 e => hk c o c1 c3 c4 e
theorem iterZ {Q : Value → Shared → Prop} (st : ZSt z TI TO i1 i2 l1 l2 S xs ys 0 s.heap) (hf : IsZip s.heap z TI TO .none) (h : Q (.ref z) s) : wpAny (model prog w) A (pyIter (.ref z)) Q E s := wpAny_pyIter_zip hf h
end
/-- the pairs that were made -/
structure Pairs (xs ys : Array Value) (lo : Addr) (h : Heap) (as : List Addr) : Prop where
  rise : as.Pairwise (· < ·)
  above : ∀ a ∈ as, lo < a
  pairs : ∀ (j : Nat) (a : Addr), as[j]? = some a → ∃ x y, xs[j]? = some x ∧ ys[j]? = some y ∧ IsPair h a x y
section
variable {prog : Program} {w : World} {A : Around} {s : Shared} {R : Result → Shared → Prop} {xs ys : Array Value} {z TI TO i1 i2 l1 l2 S : Addr}
theorem loopZ (hh : A.handled = none) (D : ZipApart z TI TO i1 i2 l1 l2) (dz : z < S) (dTI : TI < S) (dTO : TO < S) (d1 : i1 < S) (d2 : i2 < S) (e1 : l1 < S) (e2 : l2 < S) (hn : xs.size ≤ sizeLine) (hxy : xs.size = ys.size) (res : Value) {h₁ : Heap}
    (hR : ∀ h' tk acc c as, (∀ b o, b ≠ S → b ≠ z → b ≠ TO → b ≠ i1 → b ≠ i2 → h₁.get? b = some o → h'.get? b = some o) → h'.get? S = some { cls := .type "list", dict := none, data := .seq acc c, slots := #[] } → as.length = xs.size → Pairs xs ys S h' as →
      acc.toList = as.map Value.ref → R (.ok (.ret res)) { s with heap := h', toks := tk }) :
    ∀ (k i : Nat) (h : Heap) (tk c : Nat) (acc : Array Value) (as : List Addr), xs.size - i = k → i ≤ xs.size → ZSt z TI TO i1 i2 l1 l2 S xs ys i h → (∀ b o, b ≠ S → b ≠ z → b ≠ TO → b ≠ i1 → b ≠ i2 → h₁.get? b = some o → h.get? b = some o) →
      h.get? S = some { cls := .type "list", dict := none, data := .seq acc c, slots := #[] } → acc.toList = as.map Value.ref → as.length = i → Pairs xs ys S h as →
      codeAny (model prog w) A (.builtin "list.extend.loop" ⟨[.ref S, .ref z, res], []⟩) R { s with heap := h, toks := tk } := by
  intro k
  induction k with
  | zero =>
    intro i h tk c acc as hk hi hst hkeep hS hacc hal hG
    refine codeAny_builtin PySem.F.entry_extend_loop ?_
    rw [Around.under_plainId PySem.F.plain_extend_loop _]
    show wpAny _ A.in1 (pyNext (.ref z) >>= _) _ _ _
    refine wpAny_bind (finZ (s := { s with heap := h, toks := tk }) (A := A.in1) hh D hst (.inl (Array.getElem?_eq_none (by omega))) fun h' he => ?_)
    have up : ∀ b o, S ≤ b → h.get? b = some o → h'.get? b = some o := fun b o q e => he b o (Nat.ne_of_gt (Nat.lt_of_lt_of_le dz q)) (Nat.ne_of_gt (Nat.lt_of_lt_of_le dTO q)) (Nat.ne_of_gt (Nat.lt_of_lt_of_le d1 q)) (Nat.ne_of_gt (Nat.lt_of_lt_of_le d2 q)) e
    refine wpAny_pure (hR h' tk acc c as (fun b o h1 h2 h3 h4 h5 e => he b o h2 h3 h4 h5 (hkeep b o h1 h2 h3 h4 h5 e)) (up S _ (Nat.le_refl _) hS) (by omega) ⟨hG.rise, hG.above, fun j a hj => ?_⟩ hacc)
    obtain ⟨x, y, q1, q2, q3⟩ := hG.pairs j a hj
    exact ⟨x, y, q1, q2, up a _ (Nat.le_of_lt (hG.above a (List.mem_of_getElem? hj))) q3⟩
  | succ k ih =>
    intro i h tk c acc as hk hi hst hkeep hS hacc hal hG
    have hlt : i < xs.size := by omega
    have hlt2 : i < ys.size := by omega
    have hsz : acc.size = i := by rw [← Array.length_toList, hacc, List.length_map, hal]
    refine codeAny_builtin PySem.F.entry_extend_loop ?_
    rw [Around.under_plainId PySem.F.plain_extend_loop _]
    show wpAny _ A.in1 (pyNext (.ref z) >>= _) _ _ _
    refine wpAny_bind (nxtZ (s := { s with heap := h, toks := tk }) D hst (Heap.lt_size hS) (Array.getElem?_eq_getElem hlt) (Array.getElem?_eq_getElem hlt2) fun h' hst' ht hkp => ?_)
    dsimp only at ht hkp ⊢
    have hSl : S < h.objs.size := Heap.lt_size hS
    have upS : ∀ b o, S ≤ b → h.get? b = some o → h'.get? b = some o := fun b o q e => hkp b o (Nat.ne_of_gt (Nat.lt_of_lt_of_le dz q)) (Nat.ne_of_gt (Nat.lt_of_lt_of_le dTO q)) (Nat.ne_of_gt (Nat.lt_of_lt_of_le d1 q)) (Nat.ne_of_gt (Nat.lt_of_lt_of_le d2 q)) e
    have hS' := upS S _ (Nat.le_refl _) hS
    have up : ∀ b o, b ≠ S → h'.get? b = some o → (h'.update S (Obj.mapSeq (·.push (Value.ref h.objs.size)))).get? b = some o := fun b o hb e => (Heap.get?_update_other _ _ (Ne.symm hb)).trans e
    show wpAny _ A.in1 (updateSeq S (·.push (Value.ref h.objs.size)) >>= _) _ _ _
    refine wpAny_bind ?_
    refine wpAny_updateSeq hS' rfl (wpAny_pure ⟨plainId_quiet PySem.F.plain_extend_loop _, ih (i + 1) _ tk _ (acc.push (Value.ref h.objs.size)) (as ++ [h.objs.size]) (by omega) hlt
      (hst'.keep (Nat.ne_of_lt dz) (Nat.ne_of_lt dTI) (Nat.ne_of_lt dTO) (Nat.ne_of_lt d1) (Nat.ne_of_lt d2) (Nat.ne_of_lt e1) (Nat.ne_of_lt e2) up)
      (fun b o h1 h2 h3 h4 h5 e => up b o h1 (hkp b o h2 h3 h4 h5 (hkeep b o h1 h2 h3 h4 h5 e))) (Heap.get?_update_self _ hS' rfl) (by rw [Array.toList_push, hacc, List.map_append]; rfl) (by rw [List.length_append, hal]; rfl) ⟨?_, ?_, ?_⟩⟩) (by rw [hsz]; omega) (by show (acc.push (Value.ref h.objs.size)).size ≤ sizeLine + 1; rw [Array.size_push, hsz]; omega)
    · refine List.pairwise_append.mpr ⟨hG.rise, List.pairwise_singleton _ _, fun a ha b hb => ?_⟩
      rw [List.mem_singleton.mp hb]
      obtain ⟨j, hj⟩ := List.mem_iff_getElem?.mp ha
      obtain ⟨_, _, _, _, q⟩ := hG.pairs j a hj
      exact Heap.lt_size q
    · intro a ha
      rcases List.mem_append.mp ha with ha | ha
      · exact hG.above a ha
      · rw [List.mem_singleton.mp ha]; exact hSl
    · intro j b hj
      rcases Nat.lt_trichotomy j as.length with h1 | h1 | h1
      · rw [List.getElem?_append_left h1] at hj
        obtain ⟨x, y, q1, q2, q3⟩ := hG.pairs j b hj
        have hb := hG.above b (List.mem_of_getElem? hj)
        exact ⟨x, y, q1, q2, up b _ (Nat.ne_of_gt hb) (upS b _ (Nat.le_of_lt hb) q3)⟩
      · subst h1
        have hb : h.objs.size = b := by simpa using hj
        subst hb
        subst hal
        exact ⟨_, _, Array.getElem?_eq_getElem hlt, Array.getElem?_eq_getElem hlt2, up _ _ (Nat.ne_of_gt hSl) ht⟩
      · have hnone : (as ++ [h.objs.size])[j]? = none := List.getElem?_eq_none (by rw [List.length_append, List.length_singleton]; omega)
        rw [hnone] at hj; cases hj
end
section
variable {prog : Program} {w : World} {A : Around} {E : Value → Shared → Prop} {s : Shared} {xs ys : Array Value} {z TI TO i1 i2 l1 l2 : Addr}
theorem collectZ {Q : List Value → Shared → Prop} (hh : A.handled = none) (D : ZipApart z TI TO i1 i2 l1 l2) (dz : z < s.heap.objs.size) (dTI : TI < s.heap.objs.size) (dTO : TO < s.heap.objs.size) (d1 : i1 < s.heap.objs.size) (d2 : i2 < s.heap.objs.size) (e1 : l1 < s.heap.objs.size) (e2 : l2 < s.heap.objs.size)
    (hn : xs.size ≤ sizeLine) (hxy : xs.size = ys.size) (hz : IsZip s.heap z TI TO .none) (hTI : IsPair s.heap TI (.ref i1) (.ref i2)) (hTO : ∃ a b, IsPair s.heap TO a b) (h1 : s.heap.IsListIter i1 l1 0) (h2 : s.heap.IsListIter i2 l2 0) (hl1 : s.heap.IsList l1 xs) (hl2 : s.heap.IsList l2 ys)
    (hQ : ∀ h' tk as, (∀ b o, b ≠ z → b ≠ TO → b ≠ i1 → b ≠ i2 → s.heap.get? b = some o → h'.get? b = some o) → s.heap.objs.size < h'.objs.size → as.length = xs.size → Pairs xs ys s.heap.objs.size h' as → Q (as.map Value.ref) { s with heap := h', toks := tk }) :
    wpAny (model prog w) A (collect (.ref z)) Q E s := by
  have hSI : s.heap.objs.size ≠ z := Nat.ne_of_gt dz
  unfold collect
  refine wpAny_bind (wpAny_runValue (codeAny_builtin F.entry_proto_collect ?_))
  rw [Around.under_plainId F.plain_proto_collect _]
  show wpAny _ A.in1 (newList [] >>= fun l => again (.builtin "list.__iadd__" ⟨[l, .ref z], []⟩)) _ _ s
  refine wpAny_bind (wpAny_newObj_type ?_)
  refine wpAny_pure ⟨plainId_quiet F.plain_list_iadd _, codeAny_builtin F.entry_list_iadd ?_⟩
  rw [Around.under_plainId F.plain_list_iadd _]
  have pu : ∀ b o, s.heap.get? b = some o → (s.heap.push { cls := .type "list", data := .seq ([] : List Value).toArray }).get? b = some o := fun b o e => Heap.get?_push_of_some _ e
  have hz1 := pu _ _ hz
  have st1 : ZSt z TI TO i1 i2 l1 l2 s.heap.objs.size xs ys 0 (s.heap.push { cls := .type "list", data := .seq ([] : List Value).toArray }) :=
    ⟨pu _ _ hTI, h1.at fun o e => pu _ _ e, h2.at fun o e => pu _ _ e, hl1.at fun o e => pu _ _ e, hl2.at fun o e => pu _ _ e, .inl ⟨hz1, let ⟨a, b, q⟩ := hTO; ⟨a, b, pu _ _ q⟩⟩⟩
  have hT : ({ s with heap := s.heap.push { cls := .type "list", data := .seq ([] : List Value).toArray } } : Shared).TypeIs (.ref z) "zip" := ⟨_, hz1, rfl⟩
  show wpAny _ A.in1 (Builtin.List.listExtendWith (.ref s.heap.objs.size) (.ref z) (.ref s.heap.objs.size)) _ _ _
  unfold Builtin.List.listExtendWith
  refine wpAny_bind (wpAny_typeOf hT ?_)
  have hs1 : Builtin.List.listSameRef (.ref s.heap.objs.size) (.ref z) = false := by simp [Builtin.List.listSameRef, hSI]
  have hs2 : (Value.type "zip" == Value.type "list") = false := by decide
  have hs3 : (Value.type "zip" == Value.type "tuple") = false := by decide
  simp only [hs1, hs2, hs3, Bool.or_false, Bool.false_eq_true, if_false]
  refine wpAny_bind (wpAny_pyIter_zip hz1 ?_)
  refine wpAny_bind (wpAny_holding ?_)
  unfold Builtin.List.listLengthHint
  refine wpAny_bind (wpAny_specialOf hT nolen_zip ?_)
  show wpAny _ A.in1 (specialOf (Value.ref z) (Str.ofString "__length_hint__") >>= _) _ _ _
  refine wpAny_bind (wpAny_specialOf hT nohint_zip ?_)
  refine wpAny_pure ?_
  show wpAny _ A.in1 (rule "list.extend.makes-room" >>= fun _ => Builtin.List.listTouch (.ref s.heap.objs.size) >>= fun _ =>
    again (.builtin "list.extend.loop" ⟨[.ref s.heap.objs.size, .ref z, .ref s.heap.objs.size], []⟩)) _ _ _
  refine wpAny_bind (wpAny_rule ?_)
  have hS₁ : (s.heap.push { cls := .type "list", data := .seq ([] : List Value).toArray }).get? s.heap.objs.size = some { cls := .type "list", data := .seq ([] : List Value).toArray } := Heap.get?_push_size _ rfl
  refine wpAny_bind ?_
  show wpAny _ A.in1 (updateSeq s.heap.objs.size (·.push .none) >>= fun _ => updateSeq s.heap.objs.size (·.pop)) _ _ _
  refine wpAny_bind (wpAny_updateSeq hS₁ rfl ?_)
  have hS₂ := Heap.get?_update_self (Obj.mapSeq (·.push Value.none)) hS₁ rfl
  refine wpAny_updateSeq hS₂ rfl ?_
  have hS₃ := Heap.get?_update_self (Obj.mapSeq (·.pop)) hS₂ rfl
  have oth : ∀ b o, b ≠ s.heap.objs.size → (s.heap.push { cls := .type "list", data := .seq ([] : List Value).toArray }).get? b = some o →
      (((s.heap.push { cls := .type "list", data := .seq ([] : List Value).toArray }).update s.heap.objs.size (Obj.mapSeq (·.push Value.none))).update s.heap.objs.size (Obj.mapSeq (·.pop))).get? b = some o :=
    fun b o hb e => (Heap.get?_update_other _ _ (Ne.symm hb)).trans ((Heap.get?_update_other _ _ (Ne.symm hb)).trans e)
  refine wpAny_pure ⟨plainId_quiet F.plain_extend_loop _, loopZ (h₁ := s.heap) hh D dz dTI dTO d1 d2 e1 e2 hn hxy _ (fun h' tk acc c as hk hS hl hG hacc => ?_) xs.size 0 _ s.toks _ _ [] (Nat.sub_zero _) (Nat.zero_le _)
    (st1.keep (Nat.ne_of_lt dz) (Nat.ne_of_lt dTI) (Nat.ne_of_lt dTO) (Nat.ne_of_lt d1) (Nat.ne_of_lt d2) (Nat.ne_of_lt e1) (Nat.ne_of_lt e2) oth) (fun b o hb _ _ _ _ e => oth b o hb (pu b o e)) hS₃ rfl rfl ⟨List.Pairwise.nil, (fun _ ha => nomatch ha), (fun j a hj => by simp at hj)⟩⟩
  show wpAny _ A (load s.heap.objs.size >>= _) _ _ _
  refine wpAny_bind (wpAny_load hS ?_)
  refine wpAny_pure ?_
  show Q acc.toList _
  rw [hacc]
  exact hQ h' tk as (fun b o h1 h2 h3 h4 e => hk b o (Nat.ne_of_lt (Heap.lt_size e)) h1 h2 h3 h4 e) (Heap.lt_size hS) hl hG
theorem code_tupZ {Q₁ : Value → Shared → Prop} (hh : A.handled = none) (D : ZipApart z TI TO i1 i2 l1 l2) (dz : z < s.heap.objs.size) (dTI : TI < s.heap.objs.size) (dTO : TO < s.heap.objs.size) (d1 : i1 < s.heap.objs.size) (d2 : i2 < s.heap.objs.size) (e1 : l1 < s.heap.objs.size) (e2 : l2 < s.heap.objs.size)
    (hn : xs.size ≤ sizeLine) (hxy : xs.size = ys.size) (hz : IsZip s.heap z TI TO .none) (hTI : IsPair s.heap TI (.ref i1) (.ref i2)) (hTO : ∃ a b, IsPair s.heap TO a b) (h1 : s.heap.IsListIter i1 l1 0) (h2 : s.heap.IsListIter i2 l2 0) (hl1 : s.heap.IsList l1 xs) (hl2 : s.heap.IsList l2 ys)
    (h : ∀ h' tk as, (∀ b o, b ≠ z → b ≠ TO → b ≠ i1 → b ≠ i2 → s.heap.get? b = some o → h'.get? b = some o) → s.heap.objs.size < h'.objs.size → as.length = xs.size → Pairs xs ys s.heap.objs.size h' as →
      Q₁ (.ref h'.objs.size) { s with heap := h'.push { cls := .type "tuple", data := .seq (as.map Value.ref).toArray }, toks := tk }) :
    codeAny (model prog w) A (.call (.builtin "tuple.__new__") ⟨[.type "tuple", .ref z], []⟩) (wants Q₁ E) s := by
  refine codeAny_of_tree ?_
  show wpAny _ A.in1 (do checkBuiltinCall "tuple.__new__" ⟨[.type "tuple", .ref z], []⟩; again (.builtin "tuple.__new__" ⟨[.type "tuple", .ref z], []⟩)) _ _ s
  refine wpAny_bind (wpAny_of_eq (F.newCall_tuple_1 _) (wpAny_pure ⟨plainId_quiet F.plain_tuple_new _, codeAny_builtin F.entry_tuple_new ?_⟩))
  rw [Around.under_plainId F.plain_tuple_new _]
  have hsub := sub_tuple_self
  have hinit := init_tuple_lookup
  have hmh := madeHere_tuple
  have hTI' : s.TypeIs (.ref z) "zip" := ⟨_, hz, rfl⟩
  have hh1 : A.in1.handled = none := hh
  wp_walk using wpAny_typeOf hTI', collectZ (A := A.in1) hh1 D dz dTI dTO d1 d2 e1 e2 hn hxy hz hTI hTO h1 h2 hl1 hl2
  intro h' tk as hk hlt hl hG
  show wpAny _ _ (Builtin.Tuple.tupleExact (as.map Value.ref).toArray >>= fun v => ret v) _ _ _
  unfold Builtin.Tuple.tupleExact
  refine wpAny_bind (wpAny_newObj_type ?_ (by show (as.map Value.ref).toArray.size ≤ sizeLine; simp only [List.size_toArray, List.length_map, hl]; exact hn))
  exact wpAny_pure (h h' tk as hk hlt hl hG)
theorem call_tupZ {Q : Value → Shared → Prop} (hh : A.handled = none) (D : ZipApart z TI TO i1 i2 l1 l2) (dz : z < s.heap.objs.size) (dTI : TI < s.heap.objs.size) (dTO : TO < s.heap.objs.size) (d1 : i1 < s.heap.objs.size) (d2 : i2 < s.heap.objs.size) (e1 : l1 < s.heap.objs.size) (e2 : l2 < s.heap.objs.size)
    (hn : xs.size ≤ sizeLine) (hxy : xs.size = ys.size) (hz : IsZip s.heap z TI TO .none) (hTI : IsPair s.heap TI (.ref i1) (.ref i2)) (hTO : ∃ a b, IsPair s.heap TO a b) (h1 : s.heap.IsListIter i1 l1 0) (h2 : s.heap.IsListIter i2 l2 0) (hl1 : s.heap.IsList l1 xs) (hl2 : s.heap.IsList l2 ys)
    (hQ : ∀ h' tk as, (∀ b o, b ≠ z → b ≠ TO → b ≠ i1 → b ≠ i2 → s.heap.get? b = some o → h'.get? b = some o) → s.heap.objs.size < h'.objs.size → as.length = xs.size → Pairs xs ys s.heap.objs.size h' as →
      Q (.ref h'.objs.size) { s with heap := h'.push { cls := .type "tuple", data := .seq (as.map Value.ref).toArray }, toks := tk }) :
    wpAny (model prog w) A (call (.type "tuple") [.ref z]) Q E s := by
  refine callType_codes (Q₁ := fun obj s₁ => s₁.TypeIs obj "tuple" ∧ Q obj s₁) F.called_tuple (F.typeCall_tuple_1 _) F.entry_object_init
    (code_tupZ (A := A.in1) hh D dz dTI dTO d1 d2 e1 e2 hn hxy hz hTI hTO h1 h2 hl1 hl2 fun h' tk as hk hlt hl hG => ⟨⟨_, Heap.get?_push_size _ rfl, rfl⟩, hQ h' tk as hk hlt hl hG⟩) fun obj s₁ h₁ => ?_
  exact ⟨h₁.1, F.args_object_init_2 obj _, object_init_meets F.called_tuple.init.lookup F.called_tuple.made (by decide) prog w A.in1 _ s₁ ⟨h₁.1, rfl, h₁.2⟩⟩
end
end TZ
namespace L3
open PySem PySem.Spec PyProof.Rows L2
/-- many tracked at once -/
def putH : Hp → List Addr → List HO → Hp
  | H, a :: as, o :: os => putH (upd H a o) as os
  | H, _, _ => H
theorem putH_off {b : Addr} : ∀ (as : List Addr) (os : List HO) (H : Hp), b ∉ as → putH H as os b = H b
  | [], _, _, _ => rfl
  | _ :: _, [], _, _ => rfl
  | a :: as, o :: os, H, h => by
    show putH (upd H a o) as os b = H b
    rw [putH_off as os _ (fun z => h (List.mem_cons_of_mem _ z)), upd_ne (fun z => h (by rw [z]; exact List.mem_cons_self))]
theorem putH_at : ∀ (as : List Addr) (os : List HO) (H : Hp), as.length = os.length → as.Nodup → Paired (fun (t : Addr) (o : HO) => putH H as os t = some o) as os
  | [], [], _, _, _ => .nil
  | [], _ :: _, _, h, _ => by cases h
  | _ :: _, [], _, h, _ => by cases h
  | a :: as, o :: os, H, h, hn => by
    have hn' := List.nodup_cons.mp hn
    refine .cons ?_ (putH_at as os (upd H a o) (Nat.succ.inj h) hn'.2)
    show putH (upd H a o) as os a = some o
    rw [putH_off as os _ hn'.1, upd_same]
theorem laidMany {X : Cx} {pins : List (Addr × Obj)} {σ : L2.St} {H : Hp} {s : Shared} {h' : Heap} {tk : Nat} {as : List Addr} {os : List HO} (I : Inv X pins σ H s)
    (hk : ∀ b o, s.heap.get? b = some o → h'.get? b = some o) (hl : as.length = os.length) (nd : as.Nodup) (lo : ∀ a ∈ as, s.heap.objs.size ≤ a) (hG : ∀ (j : Nat) (a : Addr) (o : HO), as[j]? = some a → os[j]? = some o → ∀ H', ObjOk X.prog X.w H' h' a o) :
    ∃ H' : Hp, (∀ b o, H b = some o → H' b = some o) ∧ (∀ t ∈ as, H t = none) ∧ Paired (fun (t : Addr) (o : HO) => H' t = some o) as os ∧ Inv X pins σ H' { s with heap := h', toks := tk } := by
  have new : ∀ t ∈ as, H t = none := fun t ht => I.hok.fresh (lo t ht)
  have atP := putH_at as os H hl nd
  have off : ∀ b, b ∉ as → putH H as os b = H b := fun b h1 => putH_off as os H h1
  have low : ∀ b o, s.heap.get? b = some o → b ∉ as := fun b o e z => absurd (Heap.lt_size e) (Nat.not_lt.mpr (lo b z))
  have kp : ∀ b u, H b = some u → putH H as os b = some u := fun b u e => by
    rw [off b (fun z => by rw [new b z] at e; cases e)]; exact e
  refine ⟨putH H as os, kp, new, atP, ?_⟩
  refine I.call' (ch := []) rfl ⟨fun b o q _ _ _ => hk b o q, fun b o q _ _ _ => ⟨o.slots, hk b o q⟩, fun b o q n _ => ?_, fun b o q _ => ⟨o, hk b o q⟩, fun b xs q => kp b _ q, fun b o u q => kp b _ q, fun b ps q => ⟨#[], by rw [kp b _ q]; simp⟩⟩ (fun b u q => ?_) I.bare fun b z => by simp at z
  · rw [off b (low b o q)]
    exact n
  · by_cases hb : b ∈ as
    · obtain ⟨j, oj, e1, e2, e3⟩ := LiI.paired_ix atP hb
      rw [e3] at q
      cases q
      exact hG j b _ e1 e2 _
    · rw [off b hb] at q
      exact (I.hok b u q).stay (fun d v _ y => hk d v y) (fun d y => kp d _ y) fun d xs y => kp d _ y
/-- tuple(zip(a, b)) -/
def rZipT (K : PySem.W.Frag) : List V → Hp → VK → Prop := fun vs H Q => ∃ a b xs ys, vs = [.ref a, .ref b] ∧ SqL K H a xs ∧ SqL K H b ys ∧ xs.length = ys.length ∧
  ∀ (H' : Hp) (p : Addr) (ts : List Addr), (∀ b o, H b = some o → H' b = some o) → H p = none → (∀ t ∈ ts, H t = none) → H' p = some (.tup (ts.map V.ref)) → Paired (fun (t : Addr) (q : V × V) => H' t = some (.tup [q.1, q.2])) ts (xs.zip ys) → Q (.ref p) H'
def tZipT (K : PySem.W.Frag) (ta : TA) : TE := fun σ H Q => ta σ H fun vs H1 => rZipT K vs H1 Q
theorem paired_split {α β γ : Type} {F : α → β → Prop} {f : γ → β} : ∀ {as : List α} {cs : List γ}, Paired F as (cs.map f) → Paired (fun a c => F a (f c)) as cs
  | _, [], h => by cases h; exact .nil
  | _, _ :: _, h => by
    cases h with
    | cons q t => exact .cons q (paired_split t)
section
variable {X : Cx} {e e2 : Expr} {ta : TA} {p p2 pos pos2 : Pos}
theorem pe_tupZip (hc : X.calm = true) (hg : Gl X "tuple") (hm : X.mg "tuple" = none) (hg2 : Gl X "zip") (hm2 : X.mg "zip" = none) (ha : PA X [e, e2] ta)
    (hs : starEach [e, e2] X.env = (false, eval e X.env) :: starEach [e2] X.env := by rfl) (hpl : (backTo pos2 (starEach [e2] X.env)).any (·.1) = false := by rfl)
    (hs2 : starEach [.Call (.Name "zip" p2) [e, e2] [] pos2] X.env = (false, eval (.Call (.Name "zip" p2) [e, e2] [] pos2) X.env) :: starEach [] X.env := by rfl) :
    PE X (.Call (.Name "tuple" p) [.Call (.Name "zip" p2) [e, e2] [] pos2] [] pos) (tZipT X.K ta) := by
  refine ⟨fun pins s σ H Q I h => ?_⟩
  refine Call_ (ld_blt I hg hm boot_tuple (PyProof.Rows.callWith_type1 (args_cons (Call_ (ld_blt I hg2 hm2 PyProof.Rows.boot_zip (PyProof.Rows.callWith_type1 (thn (ha.run pos2 pins s σ H _ I h) fun us s1 ⟨vs, H1, I1, r1, q1⟩ => ?_) hs hpl))) hs2) hs2 rfl))
  obtain ⟨a, b, xs, ys, ex, hqx, hqy, hl, q⟩ := q1
  subst ex
  cases r1 with
  | cons r rr =>
    cases rr with
    | cons r' rr =>
      cases rr
      cases r
      cases r'
      obtain ⟨its, rv, p1, hz1⟩ := I1.list hqx
      obtain ⟨its2, rv2, p2', hz2⟩ := I1.list hqy
      have l1 := rv.length
      have l2 := rv2.length
      refine call_zip_2 p1.isList p2'.isList fun h' hz hTI hTO h1 h2 hsz hk => args_nil ?_
      have la : a < s1.heap.objs.size := p1.lt
      have lb : b < s1.heap.objs.size := p2'.lt
      have up0 : s1.heap.objs.size ≤ h'.objs.size := by omega
      refine TZ.call_tupZ (s := { s1 with heap := h' }) (xs := its.toArray) (ys := its2.toArray) (I1.ok.hd hc) (PySem.W.ktu_apart s1.heap.objs.size a b la lb) (by show _ < h'.objs.size; omega) (by show _ < h'.objs.size; omega) (by show _ < h'.objs.size; omega) (by show _ < h'.objs.size; omega) (by show _ < h'.objs.size; omega) (Nat.lt_of_lt_of_le la up0) (Nat.lt_of_lt_of_le lb up0)
        (by simp only [List.size_toArray]; omega) (by simp only [List.size_toArray]; omega) hz hTI ⟨_, _, hTO⟩ h1 h2 (p1.isList.at fun o e => hk _ o e) (p2'.isList.at fun o e => hk _ o e) fun h'' tk as hk2 hlt hla hG => ?_
      dsimp only at hk2 hlt hG ⊢
      have kk : ∀ c o, s1.heap.get? c = some o → (h''.push { cls := .type "tuple", data := .seq (as.map Value.ref).toArray }).get? c = some o := fun c o e => by
        have lc : ∀ k, c ≠ s1.heap.objs.size + k := fun k => Nat.ne_of_lt (Nat.lt_of_lt_of_le (Heap.lt_size e) (Nat.le_add_right _ k))
        exact Heap.get?_push_of_some _ (hk2 c o (lc 4) (lc 3) (lc 0) (lc 1) (hk c o e))
      have nd : as.Nodup := List.Pairwise.imp (fun {a b} (h : a < b) => Nat.ne_of_lt h) hG.rise
      have hla' : as.length = xs.length := by rw [hla, List.size_toArray, l1]
      have there : ∀ a ∈ as, a < h''.objs.size := fun c hc => by
        obtain ⟨j, hj⟩ := List.mem_iff_getElem?.mp hc
        obtain ⟨_, _, _, _, q⟩ := hG.pairs j c hj
        exact Heap.lt_size q
      have ndp : (h''.objs.size :: as).Nodup := List.nodup_cons.mpr ⟨fun z => Nat.lt_irrefl _ (there _ z), nd⟩
      obtain ⟨H', k1, k2, k3, J⟩ := laidMany (tk := tk) (as := h''.objs.size :: as) (os := .tup (as.map V.ref) :: (xs.zip ys).map fun q => .tup [q.1, q.2]) I1 kk (by simp [hla', ← hl]) ndp (fun c hc => by
          rcases List.mem_cons.mp hc with z | z
          · rw [z]; omega
          · exact Nat.le_trans up0 (Nat.le_of_lt (hG.above c z))) (fun j c o e1 e2 H2 => by
          cases j with
          | zero =>
            simp only [List.getElem?_cons_zero, Option.some.injEq] at e1 e2
            subst e1 e2
            exact ⟨by rw [List.length_map, hla']; exact hz1, as.map Value.ref, LiI.vals_refs as, IsTup.new _ _⟩
          | succ j =>
            simp only [List.getElem?_cons_succ] at e1 e2
            obtain ⟨x, y, g1, g2, g3⟩ := hG.pairs j c e1
            rw [List.getElem?_map] at e2
            obtain ⟨⟨x', y'⟩, f1, f2⟩ := Option.map_eq_some_iff.mp e2
            subst f2
            obtain ⟨fx, fy⟩ := List.getElem?_zip_eq_some.mp f1
            obtain ⟨ux, hux, rx⟩ := rv.get fx
            obtain ⟨uy, huy, ry⟩ := rv2.get fy
            have e1' : ux = x := by
              have : its.toArray[j]? = some ux := by simpa using hux
              rw [this] at g1; exact Option.some.inj g1
            have e2' : uy = y := by
              have : its2.toArray[j]? = some uy := by simpa using huy
              rw [this] at g2; exact Option.some.inj g2
            subst e1' e2'
            exact ⟨by show 2 ≤ sizeLine; decide, [ux, uy], .cons rx (.cons ry .nil), ⟨_, Heap.get?_push_of_some _ g3, rfl, _, rfl⟩⟩)
      cases k3 with
      | cons g1 g2 =>
        exact ⟨.ref h''.objs.size, H', J, rfl, q H' _ as k1 (k2 _ List.mem_cons_self) (fun t ht => k2 t (List.mem_cons_of_mem _ ht)) g1 (paired_split (F := fun (t : Addr) (o : HO) => H' t = some o) (f := fun q : V × V => HO.tup [q.1, q.2]) g2)⟩
end
end L3
namespace L3
open PySem PySem.Spec PyProof.Rows L2
section
variable {G : GC} {X : Cx} {Wx : WX} {p p2 pos pos2 : Pos} {e e2 : Expr}
/-- a list, whichever -/
def lsAt (x : D) (S : Store) : Option (List D) := match x with
  | .lst l => some l
  | .obj n => match S[n]? with
    | some (.lst l) => some l
    | _ => none
  | _ => none
theorem lsAt_rep {w : Wd} {x : D} {v : V} {l : List D} (sr : SRep G w) (r : Rep G w x v) (e : lsAt x w.S = some l) : ∃ a vs, v = .ref a ∧ w.H a = some (.lst vs) ∧ RepL G w l vs := by
  unfold lsAt at e
  split at e
  · cases e
    simp only [Rep] at r
    obtain ⟨a, vs, e1, h1, nm, h2⟩ := r
    exact ⟨a, vs, e1, h1, h2⟩
  · rename_i n
    split at e
    · rename_i l' hn
      cases e
      simp only [Rep] at r
      obtain ⟨a, hm, rfl⟩ := r
      obtain ⟨vs, h1, h2⟩ := sr.obj n _ a hn hm
      exact ⟨a, vs, rfl, h1, h2⟩
    · cases e
  · cases e
def pairL : List D → List D → List D
  | a :: as, b :: bs => .tup [a, b] :: pairL as bs
  | _, _ => []
def zipT : FN := fun xs S => match xs with
  | [x, y] => match lsAt x S, lsAt y S with
    | some l, some l' => if l.length = l'.length then .ok (.tup (pairL l l')) S else .bad
    | _, _ => .bad
  | _ => .bad
theorem pairL_rep {w w' : Wd} : ∀ {as bs : List D} {vs us : List V} {ts : List Addr}, WExt w w' → RepL G w as vs → RepL G w bs us → (∀ t ∈ ts, ¬ Mut w' t) → Paired (fun (t : Addr) (q : V × V) => w'.H t = some (.tup [q.1, q.2])) ts (vs.zip us) → RepL G w' (pairL as bs) (ts.map V.ref)
  | [], bs, vs, us, ts, x, h, _, _, p => by
    simp only [RepL] at h
    subst h
    cases p
    simp [pairL, RepL]
  | a :: as, [], vs, us, ts, x, _, h, _, p => by
    simp only [RepL] at h
    subst h
    rw [List.zip_nil_right] at p
    cases p
    simp [pairL, RepL]
  | a :: as, b :: bs, vs, us, ts, x, h, h', nm, p => by
    simp only [RepL] at h h'
    obtain ⟨v, r, e, h1, h2⟩ := h
    obtain ⟨u, r', e', h1', h2'⟩ := h'
    subst e e'
    cases p with
    | cons q t =>
      rename_i c cs
      show RepL G w' (.tup [a, b] :: pairL as bs) (V.ref c :: cs.map V.ref)
      simp only [RepL]
      refine ⟨_, _, rfl, ?_, pairL_rep x h2 h2' (fun t ht => nm t (List.mem_cons_of_mem _ ht)) t⟩
      simp only [Rep]
      refine ⟨c, _, rfl, .inl ⟨q, nm c List.mem_cons_self⟩, ?_⟩
      simp only [RepL]
      exact ⟨_, _, rfl, Rep.mono x _ _ h1, _, _, rfl, Rep.mono x _ _ h1', rfl⟩
theorem q_zipT {m : AD} (hK : X.K = G.K) (hc : X.calm = true) (hg : Gl X "tuple") (hm : X.mg "tuple" = none) (hg2 : Gl X "zip") (hm2 : X.mg "zip" = none) (ha : PA X [e, e2] (tA G m Wx))
    (hs : starEach [e, e2] X.env = (false, eval e X.env) :: starEach [e2] X.env := by rfl) (hpl : (backTo pos2 (starEach [e2] X.env)).any (·.1) = false := by rfl)
    (hs2 : starEach [.Call (.Name "zip" p2) [e, e2] [] pos2] X.env = (false, eval (.Call (.Name "zip" p2) [e, e2] [] pos2) X.env) :: starEach [] X.env := by rfl) :
    PE X (.Call (.Name "tuple" p) [.Call (.Name "zip" p2) [e, e2] [] pos2] [] pos) (tE G (eN zipT m) Wx) :=
  peI (pe_tupZip hc hg hm hg2 hm2 ha hs hpl hs2) fun σ H Q q => by
  obtain ⟨w, env, rfl, sr, er, p⟩ := q
  refine ⟨w, env, rfl, sr, er, (Post.bind p).mono (fun v H1 ⟨w1, d, eH, x, s1, r1, p1⟩ => ?_) fun _ _ _ h => h⟩
  subst eH
  simp only [zipT] at p1
  split at p1
  · rename_i x y
    split at p1
    · rename_i l l' hx hy
      by_cases hl : l.length = l'.length
      · rw [if_pos hl] at p1
        simp only [RepL] at r1
        obtain ⟨v1, r', rfl, rx, v2, r2, rfl, ry, rfl⟩ := r1
        obtain ⟨a, vs, rfl, h1, h2⟩ := lsAt_rep s1 rx hx
        obtain ⟨b, us, rfl, h3, h4⟩ := lsAt_rep s1 ry hy
        refine ⟨a, b, vs, us, rfl, SqL.of h1, SqL.of h3, by rw [h2.length, h4.length, hl], fun H' p' ts k hp hts hpH pr => ?_⟩
        obtain ⟨x1, s2, nm⟩ := grow_ext s1 k
        refine p1 (.ref p') { w1 with H := H' } x1 rfl s2 ?_
        simp only [Rep]
        exact ⟨p', _, rfl, .inl ⟨hpH, nm p' hp⟩, pairL_rep x1 h2 h4 (fun t ht => nm t (hts t ht)) pr⟩
      · rw [if_neg hl] at p1; exact p1.elim
    · exact p1.elim
  · exact p1.elim
end
end L3
set_option Elab.async false
set_option linter.all false
set_option maxRecDepth 100000
/-! L4I: targets, more. -/
namespace L3
open PySem PySem.Spec PyProof.Rows L2
theorem gn_seq {is : List Nat} : GOk (gSeq is) := fun d env S => by
  cases d with
  | tup l =>
    rcases gNames_nx (is := is) (ds := l) (env := env) (S := S) with ⟨env', e⟩ | e
    · exact .inl ⟨env', S, e⟩
    · exact .inr e
  | lst l =>
    rcases gNames_nx (is := is) (ds := l) (env := env) (S := S) with ⟨env', e⟩ | e
    · exact .inl ⟨env', S, e⟩
    · exact .inr e
  | _ => exact .inr rfl
theorem gn_star {i : Nat} {is : List Nat} : GOk (gStar i is) := fun d env S => by
  have k : ∀ l : List D, (∃ env' S', (if i < is.length ∧ is.length ≤ l.length + 1 ∧ l.length ≤ 16384 then gNames is (l.take i ++ [.lst ((l.drop i).take (l.length + 1 - is.length))] ++ (l.drop i).drop (l.length + 1 - is.length)) env S else .bad) = .nx env' S') ∨
      (if i < is.length ∧ is.length ≤ l.length + 1 ∧ l.length ≤ 16384 then gNames is (l.take i ++ [.lst ((l.drop i).take (l.length + 1 - is.length))] ++ (l.drop i).drop (l.length + 1 - is.length)) env S else .bad) = .bad := fun l => by
    by_cases h : i < is.length ∧ is.length ≤ l.length + 1 ∧ l.length ≤ 16384
    · rw [if_pos h]
      rcases gNames_nx (is := is) (ds := l.take i ++ [.lst ((l.drop i).take (l.length + 1 - is.length))] ++ (l.drop i).drop (l.length + 1 - is.length)) (env := env) (S := S) with ⟨env', e⟩ | e
      · exact .inl ⟨env', S, e⟩
      · exact .inr e
    · rw [if_neg h]; exact .inr rfl
  cases d with
  | tup l => exact k l
  | lst l => exact k l
  | _ => exact .inr rfl
section
variable {G : GC} {X : Cx} {Wx : WX} {pos : Pos}
/-- names in a comprehension -/
def tGsW (G : GC) (is vs : List Nat) : TGs := fun us σ H Q => ∃ w env ds env', w.H = H ∧ SRep G w ∧ ERep G w env σ ∧ RepL G w ds us ∧ gNames is ds env w.S = .nx env' w.S ∧ ∀ σ', ERep G w env' σ' → L2.wipe σ' vs = L2.wipe σ vs → Q σ' H
theorem q_gsnW {vs : List Nat} : PGs X [] (tGsW G [] vs) := pgsI pgs_nil fun v σ H Q q => by
  obtain ⟨w, env, ds, env', rfl, sr, er, rl, e, k⟩ := q
  cases ds with
  | nil =>
    simp only [RepL] at rl
    cases e
    exact ⟨rl, k σ er rfl⟩
  | cons _ _ => cases e
theorem q_gscW {e : Expr} {es : List Expr} {i : Nat} {is vs : List Nat} (h1 : PG X e (L2.gName i)) (h2 : PGs X es (tGsW G is vs)) (hv : i ∈ vs := by decide)
    (hs : (assignEach (e :: es) X.env).map (·.2) = assign e X.env :: (assignEach es X.env).map (·.2) := by rfl) : PGs X (e :: es) (tGsW G (i :: is) vs) := pgsI (pgs_cons h1 h2 hs) fun v σ H Q q => by
  obtain ⟨w, env, ds, env', rfl, sr, er, rl, e, k⟩ := q
  cases ds with
  | nil => cases e
  | cons d ds =>
    simp only [RepL] at rl
    obtain ⟨v, r, rfl, r1, r2⟩ := rl
    exact ⟨v, r, rfl, w, _, ds, env', rfl, sr, er.set i r1, r2, e, fun σ' er' hw => k σ' er' (hw.trans (wipe_set hv))⟩
theorem q_gtupW {es : List Expr} {k : Nat} {is vs : List Nat} (hK : X.K = G.K) (hc : X.calm = true) (h : PGs X es (tGsW G is vs)) (hn : (assignEach es X.env).length = is.length := by rfl) (hst : (assignEach es X.env).findIdx? (·.1) = none := by rfl) :
    PG X (.Tuple es k pos) (tGW G (gTup is) vs) := pgI (pg_tup hc h hn hst) fun v σ H Q q => by
  obtain ⟨w, env, d, rfl, sr, er, rp, p⟩ := q
  cases d with
  | tup l =>
    simp only [Rep] at rp
    obtain ⟨a, us, rfl, h1, rl⟩ := rp
    simp only [gTup] at p
    rcases gNames_nx (is := is) (ds := l) (env := env) (S := w.S) with ⟨env', e⟩ | e
    · rw [e] at p
      refine ⟨a, us, rfl, by rw [hK]; exact SqT_of h1, by rw [rl.length]; exact gNames_len e, w, env, l, env', rfl, sr, er, rl, e, fun σ' er' hw => p σ' w (.refl _) rfl sr er' hw⟩
    · rw [e] at p; exact p.elim
  | _ => exact p.elim
end
end L3
set_option Elab.async false
set_option linter.all false
set_option maxRecDepth 100000
/-! L4J: a list or dict that changes no more is taken out of the store. -/
namespace L3
open PySem PySem.Spec PyProof.Rows L2
def frzD : F1 := fun x S => match x with
  | .obj n => match S[n]? with
    | some (.lst l) => .ok (.lst l) (S.set n .dead)
    | some (.dK kvs) => .ok (.dic (kvs.map (·.1)) (kvs.map (·.2))) (S.set n .dead)
    | _ => .bad
  | x => .ok x S
theorem bury {G : GC} {w : Wd} {n : Nat} {a : Addr} {ob : O} (sr : SRep G w) (hn : w.S[n]? = some ob) (lv : ob.live) (hm : w.mu[n]? = some a) :
    WExt w { w with S := w.S.set n .dead } ∧ SRep G { w with S := w.S.set n .dead } ∧ ¬ Mut { w with S := w.S.set n .dead } a := by
  have hl := (List.getElem?_eq_some_iff.mp hn).1
  have back : ∀ (m : Nat) (o : O), (w.S.set n .dead)[m]? = some o → o.live → m ≠ n ∧ w.S[m]? = some o := fun m o h lo => by
    by_cases e : n = m
    · subst e; rw [List.getElem?_set_self hl] at h; cases h; exact lo.elim
    · rw [List.getElem?_set_ne e] at h; exact ⟨fun z => e z.symm, h⟩
  have mb : ∀ b, MutS { w with S := w.S.set n .dead } b → MutS w b := fun b ⟨m, o, h1, l1, h2⟩ => ⟨m, o, (back m o h1 l1).2, l1, h2⟩
  have x : WExt w { w with S := w.S.set n .dead } := ⟨fun _ _ h => h, fun b u h nm _ => ⟨h, fun m => nm (mb b m)⟩, fun _ h => .inl h, fun _ h => h⟩
  refine ⟨x, ⟨by simp [sr.len], fun i j b o1 o2 h1 h2 l1 l2 m1 m2 => sr.inj i j b o1 o2 (back i o1 h1 l1).2 (back j o2 h2 l2).2 l1 l2 m1 m2, fun m o b h1 h2 => ?_, fun b hb => ⟨(sr.tm b hb).1, fun m => (sr.tm b hb).2 (mb b m)⟩⟩, fun m => ?_⟩
  · by_cases e : n = m
    · subst e; rw [List.getElem?_set_self hl] at h1; cases h1; trivial
    · rw [List.getElem?_set_ne e] at h1
      exact (sr.obj m o b h1 h2).keep x noT fun _ => rfl
  · rcases m with ⟨m, o, h1, l1, h2⟩ | m
    · obtain ⟨ne, q⟩ := back m o h1 l1
      exact ne (sr.inj m n a o ob q hn l1 lv h2 hm)
    · exact (sr.tm a m).2 ⟨n, ob, hn, lv, hm⟩
theorem frz_rep {G : GC} {w : Wd} {x y : D} {v : V} {S' : Store} (sr : SRep G w) (r : Rep G w x v) (e : frzD x w.S = .ok y S') : ∃ w', WExt w w' ∧ w'.S = S' ∧ w'.H = w.H ∧ SRep G w' ∧ Rep G w' y v := by
  unfold frzD at e
  split at e
  · rename_i n
    simp only [Rep] at r
    obtain ⟨a, hm, rfl⟩ := r
    split at e
    · rename_i l hn
      cases e
      obtain ⟨vs, h1, h2⟩ := sr.obj n _ a hn hm
      obtain ⟨x, s, nm⟩ := bury sr hn trivial hm
      refine ⟨_, x, rfl, rfl, s, ?_⟩
      simp only [Rep]
      exact ⟨a, vs, rfl, h1, nm, RepL.mono x _ _ h2⟩
    · rename_i kvs hn
      cases e
      obtain ⟨vs, h1, h2⟩ := sr.obj n _ a hn hm
      obtain ⟨x, s, nm⟩ := bury sr hn trivial hm
      obtain ⟨us, eu, ru⟩ := h2.parts
      refine ⟨_, x, rfl, rfl, s, ?_⟩
      simp only [Rep]
      exact ⟨a, us, rfl, by rw [← eu]; exact h1, nm, by simp, RepL.mono x _ _ ru⟩
    · cases e
  · cases e
    exact ⟨w, .refl w, rfl, rfl, sr, r⟩
section
variable {G : GC} {X : Cx} {Wx : WX}
theorem q_frz {e : Expr} {m : ED} (h : PE X e (tE G m Wx)) : PE X e (tE G (e1 frzD m) Wx) := peI h fun σ H Q q => by
  obtain ⟨w, env, rfl, sr, er, p⟩ := q
  refine ⟨w, env, rfl, sr, er, (Post.bind (Ra := Rep G) p).mono (fun v H1 ⟨w1, d, eH, x, s1, r1, p1⟩ => ?_) fun _ _ _ h => h⟩
  subst eH
  replace p1 : Post G w1 (frzD d w1.S) (Rep G) Q (fun C dx H' => Wx C dx σ H') := p1
  cases hf : frzD d w1.S with
  | ok y S' =>
    obtain ⟨w2, x2, e2, eh, s2, r2⟩ := frz_rep s1 r1 hf
    rw [hf] at p1
    have := p1 v w2 x2 e2 s2 r2
    rw [eh] at this
    exact this
  | exc _ _ => simp only [frzD] at hf; split at hf <;> (try split at hf) <;> cases hf
  | bad => rw [hf] at p1; exact p1.elim
/-- ahead of a statement -/
def sFrz (i : Nat) (m : SD) : SD := fun env S => match env[i]? with
  | some (some x) => match frzD x S with
    | .ok y S' => m (env.set i (some y)) S'
    | _ => .bad
  | _ => .bad
theorem q_sfrz {st : Stmt} {i : Nat} {m : SD} (h : PS X st (tS G m Wx)) : PS X st (tS G (sFrz i m) Wx) := psI h fun D σ H q => by
  obtain ⟨w, env, rfl, sr, er, p⟩ := q
  unfold sFrz at p
  split at p
  · rename_i x hx
    split at p
    · rename_i y S' hf
      obtain ⟨v, hv, rv⟩ := er.at' i x hx
      obtain ⟨w2, x2, e2, eh, s2, r2⟩ := frz_rep sr rv hf
      subst e2
      have er2 : ERep G w2 (env.set i (some y)) σ := by
        have := (er.mono x2).set i r2
        have es : σ.set i (some v) = σ := by
          apply List.ext_getElem?
          intro j
          by_cases hj : i = j
          · subst hj
            rw [List.getElem?_set_self (List.getElem?_eq_some_iff.mp hv).1, hv]
          · rw [List.getElem?_set_ne hj]
        rw [es] at this; exact this
      exact ⟨w2, _, eh, s2, er2, PostS.shift (r := m (env.set i (some y)) w2.S) x2 p⟩
    · exact p.elim
  · exact p.elim
end
end L3
set_option Elab.async false
set_option linter.all false
set_option maxRecDepth 100000
set_option maxHeartbeats 4000000
/-! L6A: an exception that leaves a list comprehension. -/
namespace L3
open PySem PySem.Spec PyProof.Rows L2

/-- what a comprehension's block comes to: as compPost, the block's own frame known where it raises -/
def cEnds (M : Model) (A : Around) (E : Value → Shared → Prop) (use : Option (Value → Sem Unit)) (Q : Value → Shared → Prop) (acc : Value) (ce : Env) (r : Result) (z : Shared) : Prop :=
  match r with
  | .ok f => compPost M A E use Q acc ce.locals (.ok f) z
  | .error x => ∃ mm, z.heap.Ns ce.locals mm ∧ ∀ hh, Heap.SameBut ce.locals z.heap hh → wpAny M A (passOn "comprehension.variables-let-go" x ce : Sem Value) (fun _ _ => False) E { z with heap := hh }

theorem comp_walk {M : Model} {A : Around} {E : Value → Shared → Prop} {z : Shared} {env : Env} {e : Expr} {sc : Scope} {pos : Pos} {mk first : Sem Value} {g : Comprehension} {gs : List Comprehension} {cl : List (Str × Addr)} {use : Option (Value → Sem Unit)} {Q : Value → Shared → Prop}
    (eg : clausesOf e = g :: gs) (ef : ∀ x, foldedSetIterable g.iter env x = pure x) (ec : closureFor sc env = pure cl) (ek : sc.kind = .function) (en : ∀ y ∈ sc.names, y.2 = .local → sc.names.lookup y.1 = some .local)
    (go : wpAny M A first (fun x z1 => wpAny M A (pyIter x) (fun it z2 => wpAny M A mk (fun acc z3 => wpAny M A (newFunctionEnv sc env.globals cl [] env.qual none .none (some env)) (fun ce z4 =>
      codeAny M A (.compStart e 0 it acc { ce with scope := relabel sc env }) (cEnds M A E use Q acc { ce with scope := relabel sc env }) z4) E z3) E z2) E z1) E z) :
    wpAny M A (comprehension e sc env pos mk false first use) Q E z := by
  unfold comprehension
  rw [ec, eg]
  refine wpAny_bind (wpAny_mono go (fun x z1 g1 => ?_) fun _ _ q => q)
  refine wpAny_bind (wpAny_standAt (wpAny_bind (wpAny_of_eq (ef x) ?_)))
  refine wpAny_bind (wpAny_holding (wpAny_mono g1 (fun it z2 g2 => ?_) fun _ _ q => q))
  refine wpAny_standIf (wpAny_bind (wpAny_mono g2 (fun acc z3 g3 => ?_) fun _ _ q => q))
  refine wpAny_bind (wpAny_pure (wpAny_bind (wpAny_mono g3 (fun ce z4 g4 => ?_) fun _ _ q => q)))
  dsimp only
  have loc : ∀ l : List (Str × NameKind), (∀ y ∈ l, y ∈ sc.names) → ∀ y ∈ l, y.2 = .local → Env.kindOf { ce with scope := relabel sc env } y.1 = some .local := fun l hl y hy q => lookup_relabel_local (en y (hl y hy) q)
  have sub : ∀ y ∈ (sc.names.filter fun y => (y.2 == .local || y.2 == .cell) && y.1 != (".0" : Str)).reverse, y ∈ sc.names := fun y hy => (List.mem_filter.mp (List.mem_reverse.mp hy)).1
  have sub2 : ∀ y ∈ (sc.names.filter fun y => (y.2 == .local || y.2 == .cell) && y.1 != (".0" : Str)).reverse.drop 1 ++ (sc.names.filter fun y => (y.2 == .local || y.2 == .cell) && y.1 != (".0" : Str)).reverse.take 1, y ∈ sc.names := fun y hy =>
    (List.mem_append.mp hy).elim (fun k => sub y (List.mem_of_mem_drop k)) fun k => sub y (List.mem_of_mem_take k)
  refine wpAny_holding (wpAny_bind (wpAny_attempt (wpAny_holding (wpAny_run (codeAny_mono g4 fun r z5 q5 => ?_)))))
  match r, use, q5 with
  | .ok f, none, ⟨mm, n1, k1⟩ => exact wpAny_bind (wpAny_holding (wpAny_comp_letGo (cenv := { ce with scope := relabel sc env }) ek _ z5 mm (loc _ sub) n1 fun hh _ _ sb => wpAny_pure (k1 hh sb)))
  | .ok f, some u, q5 =>
    refine wpAny_bind (wpAny_rule (wpAny_bind (wpAny_holding (wpAny_mono q5 (fun _ z6 q6 => ?_) fun _ _ q => q))))
    obtain ⟨mm, n1, k1⟩ := q6
    exact wpAny_bind (wpAny_comp_letGo (cenv := { ce with scope := relabel sc env }) ek _ z6 mm (loc _ sub2) n1 fun hh _ _ sb => wpAny_pure (k1 hh sb))
  | .error x, use, ⟨mm, n1, k1⟩ => exact wpAny_bind (wpAny_holding (wpAny_comp_letGo (cenv := { ce with scope := relabel sc env }) ek _ z5 mm (loc _ sub) n1 fun hh _ _ sb => wpAny_mono (k1 hh sb) (fun _ _ f => f.elim) fun _ _ q => q))

/-! the frame that notes -/
section
open PySem.HandSPX
variable {M : Model} {A : Around} {E : Value → Shared → Prop} {z : Shared} {env : Env} {out : List Env} {F x : Addr} {ZZ : Obj → Prop} {B : Heap}
/-- the exception has flown, or was held by whomever: this frame notes it -/
theorem note_any {fl : Value} {Q : Unit → Shared → Prop} (st : Steady ZZ) (fr : A.frames = some (env :: out)) (ef : env.frame = some F) (k : B.StaysIn z.heap) (n : B.get? x = none) (ff : z.heap.FunFrames B (env :: out)) (tr : TracedZ z.heap B x ZZ fl)
    (hq : ∀ hh, HeldZ B (env :: out) x ZZ F hh → z.heap.UpToSlots hh → Q () { z with heap := hh }) : wpAny M A (noteFrame (.ref x) env) Q E z := by
  obtain ⟨o1, v1, tb, o2, v2, g1, z1, d1, i1, nb, ne, g2, d2, i2⟩ := tr
  by_cases same : (fl == rawInt F) = true
  · refine againZ ef ⟨o1, v1, tb, o2, v2, g1, z1, d1, i1, nb, ne, g2, d2, by rw [i2, beq_iff_eq.mp same]⟩ ?_
    have := hq z.heap ⟨k, n, ff, ⟨o1, v1, tb, o2, v2, g1, z1, d1, i1, nb, ne, g2, d2, by rw [i2, beq_iff_eq.mp same]⟩⟩ fun b o e _ => ⟨o.slots, e⟩
    exact this
  · unfold noteFrame
    simp only [ef]
    refine wpAny_bind (wpAny_field g1 d1 i1 ?_)
    rw [if_pos (by simp : (Value.ref tb != Value.none) = true)]
    refine wpAny_bind (wpAny_field g2 d2 i2 ?_)
    rw [if_neg same]
    have sz := (Array.getElem?_eq_some_iff.mp i2).1
    refine wpAny_bind (wpAny_setField g2 d2 sz ?_)
    have oth : ∀ b, b ≠ tb → (z.heap.update tb (Obj.mapFields (·.setIfInBounds 3 Value.none))).get? b = z.heap.get? b := fun b hb => Heap.get?_update_other _ _ fun q => hb q.symm
    have nrec : ∀ b o, z.heap.get? b = some o → (∀ w, o.data ≠ .fields w) → b ≠ tb := fun b o e nf q => by subst q; rw [g2] at e; cases e; exact nf _ d2
    have inB : ∀ b o, B.get? b = some o → b ≠ tb := fun b o e q => by subst q; rw [nb] at e; cases e
    refine wpAny_entryZ st fr (ff.of_keeps fun b o e nf => ⟨o, (oth b (nrec b o e nf)).trans e, rfl⟩) ef ((oth x ne.symm).trans g1) (fun b o e => (oth b (inB b o e)).trans (k b o e)) n d1 (Array.getElem?_eq_some_iff.mp i1).1 z1 fun hh nt => ?_
    obtain ⟨a1, a2, a3, a4⟩ := nt
    exact hq hh ⟨a1, n, a2, a3⟩ fun b o e nf => a4 b o ((oth b (nrec b o e nf)).trans e) nf
/-- in the air in any way -/
theorem note_sky {G : Addr} {Q : Unit → Shared → Prop} (st : Steady ZZ) (fr : A.frames = some (env :: out)) (ef : env.frame = some F) (sky : Sky B (env :: out) x ZZ G z.heap)
    (hq : ∀ hh, HeldZ B (env :: out) x ZZ F hh → z.heap.UpToSlots hh → Q () { z with heap := hh }) : wpAny M A (noteFrame (.ref x) env) Q E z := by
  rcases sky with ⟨k, n, ff, oe, vs, g, zz, d, i⟩ | ⟨k, n, ff, t⟩ | ⟨k, n, ff, t⟩
  · exact look_newZ st fr ff ef g k n d i zz hq
  · exact note_any st fr ef k n ff t hq
  · exact note_any st fr ef k n ff t hq
end
end L3
set_option Elab.async false
set_option linter.all false
set_option maxRecDepth 100000
set_option maxHeartbeats 4000000
/-! L6B: list comprehensions whose step may raise. -/
namespace L3
open PySem PySem.Spec PyProof.Rows L2
open PySem.HandSPX (HeldZ FlyingZ TracedZ)

theorem note_env {x : Value} {e1 e2 : Env} (h : e1.frame = e2.frame) : noteFrame x e1 = noteFrame x e2 := by
  unfold noteFrame PySem.frameOf
  rw [h]
theorem frames_far {B B' h h' : Heap} {C : Addr} (hh : ∀ b, b ≠ C → h'.get? b = h.get? b) (hB : ∀ b, b ≠ C → B'.get? b = B.get? b) : ∀ {l : List Env}, (∀ b ∈ frs l, b ≠ C) → h.FunFrames B l → h'.FunFrames B' l
  | [], _, _ => trivial
  | e :: l, nc, ⟨k, ⟨F, o, ef, n, g, d⟩, r⟩ => by
    have m : F ∈ frs (e :: l) := List.mem_filterMap.mpr ⟨e, List.mem_cons_self, ef⟩
    have nF := nc F m
    refine ⟨k, ⟨F, o, ef, (hB F nF).trans n, (hh F nF).trans g, d⟩, frames_far hh hB (fun b hb => nc b ?_) r⟩
    obtain ⟨q, q1, q2⟩ := List.mem_filterMap.mp hb
    exact List.mem_filterMap.mpr ⟨q, List.mem_cons_of_mem _ q1, q2⟩

section
variable {X : Cx} {Wx We : WX}
/-- an exception that leaves the block leaves the comprehension -/
theorem blk_raise {pins : List (Addr × Obj)} {s3 s4 : Shared} {σ σ4 : L2.St} {H3 : Hp} {fp : List Addr} {ce : Env} {sc : Scope} {xe : Value → Shared → Prop} {use : Option (Value → Sem Unit)} {Qf : Value → Shared → Prop} {acc : Value}
    (st : X.stack = X.env :: X.outer) (fr : X.env.frame = some X.env.locals) (tk : Takes X Wx) (hW : ∀ cls d τ τ' H, We cls d τ' H → Wx cls d τ H)
    (I3 : Inv X pins σ H3 s3) (hfp : ∀ b ∈ fp, FpOk X pins H3 b) (cf : ce.frame = X.env.frame) (cL : ce.locals = s3.heap.objs.size) (I4 : Inv ((X.blk s3 H3 sc ce fp).wish xe) [] σ4 H3 s4) :
    ∀ u z, XE ((X.blk s3 H3 sc ce fp).wish xe) We u z → wpAny (model X.prog X.w) X.A (noteFrame u ce) (fun _ z' => cEnds (model X.prog X.w) X.A X.xe use Qf acc ce (.error u) z') (fun _ _ => False) z := by
  rintro u z ⟨a, B, sI, pI, σI, HI, cls, dx, rfl, II, nb, up, sky, na, os, ag, w⟩
  have frs3 : ∀ b ∈ frs X.stack, b < s3.heap.objs.size := fun b hb => by
    obtain ⟨_, o, g, _⟩ := I3.stack.mem hb
    exact Heap.lt_size g
  have nC : ∀ b ∈ frs X.stack, b ≠ ce.locals := fun b hb q => by have := frs3 b hb; rw [q, cL] at this; exact Nat.lt_irrefl _ this
  have sky' : Sky B (X.env :: X.outer) a (Zc cls dx) ce.locals z.heap := by rw [← st]; exact sky
  have frA : X.A.frames = some (X.env :: X.outer) := by rw [I3.ok.frames, st]
  rw [note_env cf]
  refine note_sky Zc.steady frA fr sky' fun h1 held up1 => ?_
  obtain ⟨mm, nsI, _⟩ := id II.loc
  have nsI : sI.heap.Ns ce.locals mm := nsI
  have toB : ∀ o, sI.heap.get? ce.locals = some o → B.get? ce.locals = some o := fun o e => nb _ o e fun q => nC _ q rfl
  have ns1 : h1.Ns ce.locals mm := nsI.at fun o e => held.1 _ o (toB o e)
  refine ⟨mm, ns1, fun h2 sb => ?_⟩
  have far : ∀ b, b ≠ ce.locals → h2.get? b = h1.get? b := fun b q => sb.2 b q
  obtain ⟨B', b1, b2⟩ := restrict B fun b => decide (b ≠ ce.locals)
  have bB : ∀ b, b ≠ ce.locals → B'.get? b = B.get? b := fun b q => b1 b (decide_eq_true q)
  have bC : B'.get? ce.locals = none := b2 _ (by simp)
  have inB : ∀ b o, B'.get? b = some o → b ≠ ce.locals ∧ B.get? b = some o := fun b o e => by
    have q : b ≠ ce.locals := fun q => by rw [q, bC] at e; cases e
    exact ⟨q, by rw [← bB b q]; exact e⟩
  obtain ⟨k1, k2, k3, oe, vs, tb, ot, ts, ga, za, da, ia, ntb, ne, gt, dt, it⟩ := id held
  have rec_ne : ∀ b o v, h1.get? b = some o → o.data = .fields v → b ≠ ce.locals := fun b o v g d q => by
    obtain ⟨oc, es, ep, gc, dc, _⟩ := ns1
    rw [q, gc] at g; cases g
    rw [dc] at d; cases d
  have aC := rec_ne a oe vs ga da
  have tC := rec_ne tb ot ts gt dt
  have frX : ∀ b ∈ frs (X.env :: X.outer), b ≠ ce.locals := fun b hb => nC b (by rw [st]; exact hb)
  have held2 : HeldZ B' (X.env :: X.outer) a (Zc cls dx) X.env.locals h2 :=
    ⟨fun b o e => by obtain ⟨q, e'⟩ := inB b o e; rw [far b q]; exact k1 b o e', by rw [bB a aC]; exact k2, frames_far far bB frX k3,
      oe, vs, tb, ot, ts, (far a aC).trans ga, za, da, ia, by rw [bB tb tC]; exact ntb, ne, (far tb tC).trans gt, dt, it⟩
  obtain ⟨G, g1, g2⟩ := restrict sI.heap fun b => decide (b ≠ ce.locals)
  have gG : ∀ b, b ≠ ce.locals → G.get? b = sI.heap.get? b := fun b q => g1 b (decide_eq_true q)
  have inG : ∀ b o, G.get? b = some o → b ≠ ce.locals ∧ sI.heap.get? b = some o := fun b o e => by
    have q : b ≠ ce.locals := fun q => by rw [q, g2 _ (by simp)] at e; cases e
    exact ⟨q, by rw [← gG b q]; exact e⟩
  have I5 : Inv X pins σ HI sI := I3.call' (ch := fp) II.os II.base II.hok II.bare fun b hb => ⟨(hfp b hb).2.2.2.1, (hfp b hb).2.1, (hfp b hb).2.2.2.2.1, (hfp b hb).2.2.2.2.2⟩
  have fC : FpOk X pins HI ce.locals := by rw [cL]; exact I3.fpOk (Nat.le_refl _) (by have q : HI ce.locals = none := II.free; rw [cL] at q; exact q)
  have I6 : Inv X pins σ HI { sI with heap := G } := I5.turned (t' := sI.toks) (it := ce.locals) (fun b o q e => by rw [gG b q]; exact e) fC.1 fC.2.1 fC.2.2.2.1 fC.2.2.2.2.1 fC.2.2.2.2.2
  unfold PySem.passOn
  refine wpAny_bind (wpAny_field ((far a aC).trans ga) da ia ?_)
  rw [if_neg (show ¬ ((Value.ref tb == Value.none) = true) from by simp), cf, fr]
  have fin : wpAny (model X.prog X.w) X.A (setFlight (.ref a) (some X.env.locals)) (fun _ z4 => wpAny (model X.prog X.w) X.A (throw (.ref a) : Sem Value) (fun _ _ => False) X.xe z4) X.xe { z with heap := h2 } := by
    refine PySem.HandSPX.setFlight_onZ held2 fun h3 held3 up3 => wpAny_throw (tk _ _ ?_)
    refine ⟨a, B', { sI with heap := G }, pins, σ, HI, cls, dx, rfl, I6, fun b o e hb => ?_, fun b o e nf => ?_, .inr (.inr (by rw [st]; exact held3)), na, os, ag, hW cls dx σ σI HI w⟩
    · obtain ⟨q, e'⟩ := inG b o e
      rw [bB b q]
      exact nb b o e' hb
    · obtain ⟨q, e'⟩ := inG b o e
      obtain ⟨sl1, e1⟩ := up b o e' nf
      obtain ⟨sl2, e2⟩ := up1 b _ e1 nf
      have e3 : h2.get? b = some { o with slots := sl2 } := (far b q).trans e2
      obtain ⟨sl3, e4⟩ := up3 b _ e3 nf
      exact ⟨sl3, e4⟩
  first
    | exact wpAny_bind (wpAny_pure (wpAny_bind fin))
    | exact wpAny_bind fin
end
end L3
set_option Elab.async false
set_option linter.all false
set_option maxRecDepth 100000
set_option maxHeartbeats 4000000
/-! L6C: the rule of a list comprehension whose step may raise. -/
namespace L3
open PySem PySem.Spec PyProof.Rows L2

section
variable {X : Cx} {Wx We : WX}
theorem lcx_core {pins : List (Addr × Obj)} {s : Shared} {σ : L2.St} {H : Hp} {Q : VK} {elt tg iter : Expr} {ifs : List Expr} {scope : Scope} {own : List (Str × Nat)} {pos pos' : Pos} {wi : TI} {g : TG} {tt : TT} {te : TE} {use : Option (Value → Sem Unit)} {Qf : Value → Shared → Prop}
    (st : X.stack = X.env :: X.outer) (fr : X.env.frame = some X.env.locals) (tk : Takes X Wx) (hW : ∀ cls d τ τ' H, We cls d τ' H → Wx cls d τ H)
    (hc : X.calm = true) (hN : X.N.Nodup) (I : Inv X pins σ H s) (hi : PI X tg iter wi) (ok : BlkOk X.N X.env.scope scope own)
    (hg : ∀ (s : Shared) (H : Hp) (C : Addr) (cl : List (Str × Addr)) (fp : List Addr) (xe : Value → Shared → Prop), PG ((X.blk s H scope (compEnvC scope cl C X.env) fp).wish xe) tg g)
    (ht : ∀ (s : Shared) (H : Hp) (C : Addr) (cl : List (Str × Addr)) (fp : List Addr) (xe : Value → Shared → Prop), PTs ((X.blk s H scope (compEnvC scope cl C X.env) fp).wish xe) ifs tt)
    (he : ∀ (s : Shared) (H : Hp) (C : Addr) (cl : List (Str × Addr)) (fp : List Addr) (xe : Value → Shared → Prop), Takes ((X.blk s H scope (compEnvC scope cl C X.env) fp).wish xe) We → PE ((X.blk s H scope (compEnvC scope cl C X.env) fp).wish xe) elt te)
    (hs : ∀ x, foldedSetIterable iter X.env x = pure x) (h : tLc wi g tt te (own.map (·.2)) σ H Q)
    (hR : ∀ D C s' m H', Inv X pins σ H' s' → Q (.ref D) H' → s'.heap.Ns C m → FpOk X pins H' C → compPost (model X.prog X.w) X.A X.xe use Qf (.ref D) C (.ok .next) s') :
    wpAny (model X.prog X.w) X.A (comprehension (.ListComp elt [⟨tg, iter, ifs, 0⟩] scope pos) scope X.env pos' (newList []) false (eval iter X.env) use) Qf X.xe s := by
  have capt : ∀ y ∈ scope.names, y.2 = .free → ∃ c, X.env.cells.lookup y.1 = some c := fun y hy e => (ok.free y hy e).elim (fun k => I.ok.has _ (.inl k)) fun k => I.ok.has _ (.inr k)
  refine comp_walk (use := use) rfl hs (closure_ok capt) ok.kind (fun y hy e => by rw [ok.uniq y hy, e]) (thn (hi.run pins s σ H _ I h) fun xv s1 hx => thn hx fun itv s2 h2 => ?_)
  obtain ⟨it, fp, tn, J, H2, rfl, I2, T, t2, f2, q⟩ := h2
  refine wpAny_newObj_type (newEnv_comp ?_) (by show 0 ≤ sizeLine; decide)
  obtain ⟨D, hD⟩ : ∃ D, s2.heap.objs.size = D := ⟨_, rfl⟩
  rw [hD]
  obtain ⟨W, ⟨m0, w0⟩, turn⟩ := q D (I2.hok.fresh (Nat.le_of_eq hD))
  obtain ⟨s3, e3⟩ : ∃ s3 : Shared, ({ s2 with heap := s2.heap.push { cls := .type "list", data := .seq ([] : List Value).toArray } } : Shared) = s3 := ⟨_, rfl⟩
  obtain ⟨H3, eH3⟩ : ∃ H3 : Hp, upd H2 D (.lst []) = H3 := ⟨_, rfl⟩
  have hp3 : s3.heap = s2.heap.push { cls := .type "list", data := .seq ([] : List Value).toArray } := by rw [← e3]
  have k3 : ∀ b o, s2.heap.get? b = some o → s3.heap.get? b = some o := fun b o e => by rw [hp3]; exact Heap.get?_push_of_some _ e
  have I3 : Inv X pins σ H3 s3 := by
    rw [← e3, ← eH3]
    refine I2.laid (t' := s2.toks) (fun b o e => Heap.get?_push_of_some _ e) (Nat.le_of_eq hD) ⟨Nat.zero_le _, [], 0, .nil, ?_⟩
    rw [← hD]
    exact Heap.get?_push_size _ rfl
  have f3 : ∀ b ∈ fp, FpOk X pins H3 b ∧ b < s3.heap.objs.size := fun b hb => by
    obtain ⟨o, e, _⟩ := T.obj _ _ t2 b hb
    have l := Heap.lt_size e
    refine ⟨⟨?_, (f2 b hb).2⟩, Heap.lt_size (k3 b o e)⟩
    rw [← eH3, upd_ne (by rw [← hD]; exact Nat.ne_of_lt l)]
    exact (f2 b hb).1
  have t3 : tn 0 s3.heap := T.keep _ _ _ t2 fun b _ o e => k3 b o e
  have I4 := block_start I3 ok hN f3
  have pg := hg s3 H3 s3.heap.objs.size (cellsFrom (s3.heap.objs.size + 1) scope.names (cloFrom X.env.cells scope.names [])) fp
  have pt := ht s3 H3 s3.heap.objs.size (cellsFrom (s3.heap.objs.size + 1) scope.names (cloFrom X.env.cells scope.names [])) fp
  have pe := he s3 H3 s3.heap.objs.size (cellsFrom (s3.heap.objs.size + 1) scope.names (cloFrom X.env.cells scope.names [])) fp
  rw [e3]
  show codeAny _ _ (.compStart (.ListComp elt [⟨tg, iter, ifs, 0⟩] scope pos) 0 (.ref it) (.ref D) (compEnvC scope (cellsFrom (s3.heap.objs.size + 1) scope.names (cloFrom X.env.cells scope.names [])) s3.heap.objs.size X.env))
    (cEnds (model X.prog X.w) X.A X.xe use Qf (.ref D) (compEnvC scope (cellsFrom (s3.heap.objs.size + 1) scope.names (cloFrom X.env.cells scope.names [])) s3.heap.objs.size X.env)) { s3 with heap := pushCells (s3.heap.push { cls := .type "dict", data := .dict #[] }) scope.names }
  rw [eH3] at w0
  have cf : (compEnvC scope (cellsFrom (s3.heap.objs.size + 1) scope.names (cloFrom X.env.cells scope.names [])) s3.heap.objs.size X.env).frame = X.env.frame := rfl
  have cL : (compEnvC scope (cellsFrom (s3.heap.objs.size + 1) scope.names (cloFrom X.env.cells scope.names [])) s3.heap.objs.size X.env).locals = s3.heap.objs.size := rfl
  generalize compEnvC scope (cellsFrom (s3.heap.objs.size + 1) scope.names (cloFrom X.env.cells scope.names [])) s3.heap.objs.size X.env = ce at I4 pg pt pe cf cL ⊢
  have t4 : tn 0 (pushCells (s3.heap.push { cls := .type "dict", data := .dict #[] }) scope.names) := T.keep _ _ _ t3 fun b _ o e => pushCells_keeps _ _ _ _ (Heap.get?_push_of_some _ e)
  obtain ⟨xe, exe⟩ : ∃ xe : Value → Shared → Prop, (notedBy (model X.prog X.w) X.A ce fun e z => cEnds (model X.prog X.w) X.A X.xe use Qf (.ref D) ce (.error e) z) = xe := ⟨_, rfl⟩
  have I4 := I4.wish xe
  have tkb : Takes ((X.blk s3 H3 scope ce fp).wish xe) We := fun u z xx => by
    show xe u z
    rw [← exe]
    exact wpAny_mono (blk_raise (xe := xe) (use := use) (Qf := Qf) (acc := .ref D) st fr tk hW I3 (fun b hb => (f3 b hb).1) cf cL I4 u z xx) (fun _ _ y => y) fun _ _ y => y.elim
  have pg := pg xe
  have pt := pt xe
  have pe := pe xe tkb
  have nfp : ∀ b ∈ fp, H3 b = none := fun b hb => (f3 b hb).1.1
  have stat : ∀ {σ' : L2.St} {H' : Hp} {z : Shared}, Inv ((X.blk s3 H3 scope ce fp).wish xe) [] σ' H' z → (∀ b ∈ fp, H' b = none) → ∀ b ∈ fp, FpOk ((X.blk s3 H3 scope ce fp).wish xe) [] H' b := fun {σ' H' z} Iz hn b hb =>
    ⟨hn b hb, (Iz.ok.exf b hb).1, Iz.ok.exfs b hb, .inl hb, fun x c e => (Iz.ok.exf b hb).2 x c e, fun p hp => absurd (show p ∈ ([] : List (Addr × Obj)) ++ [] from hp) (by simp)⟩
  have loop : codeAny (model X.prog X.w) X.A (.compLoop (.ListComp elt [⟨tg, iter, ifs, 0⟩] scope pos) 0 (.ref it) (.ref D) ce) (cEnds (model X.prog X.w) X.A X.xe use Qf (.ref D) ce) { s3 with heap := pushCells (s3.heap.push { cls := .type "dict", data := .dict #[] }) scope.names } := by
    refine compLoop_any (fun n z => ∃ i Hz, Inv ((X.blk s3 H3 scope ce fp).wish xe) [] (L2.wipe σ (own.map (·.2))) Hz z ∧ tn i z.heap ∧ (∀ b ∈ fp, Hz b = none) ∧ W i n Hz) ?_ m0 ⟨0, H3, I4, t4, nfp, w0⟩
    rw [exe]
    rintro n s5 ⟨i, H5, I5, t5, n5, w5⟩
    rcases turn i n H5 w5 with ⟨stop, qq⟩ | ⟨more, Nx, hNx, step⟩
    · refine thn (T.done ((X.blk s3 H3 scope ce fp).wish xe) rfl rfl rfl hc i [] s5 _ H5 xe I5 (stat I5 n5) t5 stop) fun r s6 ⟨er, I6⟩ => ?_
      subst er
      have I7 : Inv X pins σ H5 s6 := I3.call' (ch := fp) I6.os I6.base I6.hok I6.bare fun b hb => ⟨(f3 b hb).1.2.2.2.1, (f3 b hb).1.2.1, (f3 b hb).1.2.2.2.2.1, (f3 b hb).1.2.2.2.2.2⟩
      obtain ⟨m, hn, _⟩ := id I6.loc
      have hn : s6.heap.Ns ce.locals m := hn
      have nC : H5 ce.locals = none := I6.free
      exact hR D ce.locals s6 m H5 I7 qq hn (by rw [cL] at nC ⊢; exact I3.fpOk (Nat.le_refl _) nC)
    · refine thn (T.item ((X.blk s3 H3 scope ce fp).wish xe) rfl rfl rfl hc i [] s5 _ H5 xe I5 (stat I5 n5) t5 more) fun r s6 ⟨u, er, h6⟩ => ?_
      subst er
      refine thn h6 fun _ s7 ⟨x, H7, I7, r7, y7, t7, n7⟩ => ?_
      have I7p := I7.pinned (stat I7 n7) (T.obj _ _ t7)
      refine thn (pg.run _ s7 _ H7 x u _ I7p r7 (step x H7 y7)) fun _ s8 ⟨σ8, H8, I8, ew8, q8⟩ => ?_
      refine thn (pt.run _ s8 σ8 H8 _ I8 q8) fun b s9 ⟨H9, I9, q9⟩ => ?_
      have fin : ∀ {z : Shared} {Hz : Hp}, Inv ((X.blk s3 H3 scope ce fp).wish xe) ([] ++ pinsAt fp s7.heap) σ8 Hz z → Nx Hz → ∃ m, m < n ∧ ∃ i Hz, Inv ((X.blk s3 H3 scope ce fp).wish xe) [] (L2.wipe σ (own.map (·.2))) Hz z ∧ tn i z.heap ∧ (∀ b ∈ fp, Hz b = none) ∧ W i m Hz := fun {z Hz} Iz nx => by
        obtain ⟨m', lt, w'⟩ := hNx Hz nx
        have pin : ∀ b ∈ fp, ∀ o, s7.heap.get? b = some o → z.heap.get? b = some o ∧ Hz b = none := fun b hb o e =>
          let y := Iz.pin (b, o) (List.mem_append_right _ (List.mem_append_right _ (mem_pinsAt hb e)))
          ⟨y.1, y.2.1⟩
        refine ⟨m', lt, i + 1, Hz, (Iz.unpinned (pins := [])).weak (by rw [← ew8, wipe_length]) (fun j v e => (wipe_some (by rw [ew8]; exact e)).1), T.keep _ _ _ t7 fun b hb o e => (pin b hb o e).1, fun b hb => ?_, w'⟩
        obtain ⟨o, e, _⟩ := T.obj _ _ t7 b hb
        exact (pin b hb o e).2
      cases b with
      | false =>
        simp only [Bool.false_eq_true, if_false] at q9 ⊢
        exact fin I9 q9
      | true =>
        simp only [if_true] at q9 ⊢
        refine thn (pe.run _ s9 σ8 H9 _ I9 q9) fun y s10 ⟨yv, H10, I10, r10, a, eD, zD, nx⟩ => ?_
        exact app_ok (X := (X.blk s3 H3 scope ce fp).wish xe) I10 eD zD r10 fun s11 I11 => fin I11 nx
  exact codeAny_compStart_list loop (T.self X.A 0 _ _ _ t4 loop)
/-- as a value -/
theorem pe_lcx {elt tg iter : Expr} {ifs : List Expr} {scope : Scope} {own : List (Str × Nat)} {pos : Pos} {wi : TI} {g : TG} {tt : TT} {te : TE}
    (st : X.stack = X.env :: X.outer) (fr : X.env.frame = some X.env.locals) (tk : Takes X Wx) (hW : ∀ cls d τ τ' H, We cls d τ' H → Wx cls d τ H)
    (hc : X.calm = true) (hN : X.N.Nodup) (hi : PI X tg iter wi) (ok : BlkOk X.N X.env.scope scope own)
    (hg : ∀ (s : Shared) (H : Hp) (C : Addr) (cl : List (Str × Addr)) (fp : List Addr) (xe : Value → Shared → Prop), PG ((X.blk s H scope (compEnvC scope cl C X.env) fp).wish xe) tg g)
    (ht : ∀ (s : Shared) (H : Hp) (C : Addr) (cl : List (Str × Addr)) (fp : List Addr) (xe : Value → Shared → Prop), PTs ((X.blk s H scope (compEnvC scope cl C X.env) fp).wish xe) ifs tt)
    (he : ∀ (s : Shared) (H : Hp) (C : Addr) (cl : List (Str × Addr)) (fp : List Addr) (xe : Value → Shared → Prop), Takes ((X.blk s H scope (compEnvC scope cl C X.env) fp).wish xe) We → PE ((X.blk s H scope (compEnvC scope cl C X.env) fp).wish xe) elt te)
    (hs : ∀ x, foldedSetIterable iter X.env x = pure x := by intro _; rfl) : PE X (.ListComp elt [⟨tg, iter, ifs, 0⟩] scope pos) (tLc wi g tt te (own.map (·.2))) := by
  refine ⟨fun pins s σ H Q I h => ?_⟩
  rw [eval_ListComp]
  refine lcx_core st fr tk hW hc hN I hi ok hg ht he hs h fun D C z m Hz Iz q n f => ⟨m, n, fun hh sb => ?_⟩
  exact ⟨.ref D, Hz, Iz.turned (t' := z.toks) (fun b o hb e => (sb.2 b hb).trans e) f.1 f.2.1 f.2.2.2.1 f.2.2.2.2.1 f.2.2.2.2.2, rfl, q⟩
/-- name = [..] -/
theorem ps_setLcx {i : Nat} {y : Str} {py : Pos} {elt tg iter : Expr} {ifs : List Expr} {scope : Scope} {own : List (Str × Nat)} {pos spos : Pos} {wi : TI} {g : TG} {tt : TT} {te : TE}
    (st : X.stack = X.env :: X.outer) (fr : X.env.frame = some X.env.locals) (tk : Takes X Wx) (hW : ∀ cls d τ τ' H, We cls d τ' H → Wx cls d τ H)
    (hc : X.calm = true) (hN : X.N.Nodup) (hy : X.N[i]? = some y) (hyl : X.env.scope.names.lookup y = some .local)
    (hsw : swapsWith (.ListComp elt [⟨tg, iter, ifs, 0⟩] scope pos) (some (.Name y py)) spos.line X.env = pure true) (hi : PI X tg iter wi) (ok : BlkOk X.N X.env.scope scope own)
    (hg : ∀ (s : Shared) (H : Hp) (C : Addr) (cl : List (Str × Addr)) (fp : List Addr) (xe : Value → Shared → Prop), PG ((X.blk s H scope (compEnvC scope cl C X.env) fp).wish xe) tg g)
    (ht : ∀ (s : Shared) (H : Hp) (C : Addr) (cl : List (Str × Addr)) (fp : List Addr) (xe : Value → Shared → Prop), PTs ((X.blk s H scope (compEnvC scope cl C X.env) fp).wish xe) ifs tt)
    (he : ∀ (s : Shared) (H : Hp) (C : Addr) (cl : List (Str × Addr)) (fp : List Addr) (xe : Value → Shared → Prop), Takes ((X.blk s H scope (compEnvC scope cl C X.env) fp).wish xe) We → PE ((X.blk s H scope (compEnvC scope cl C X.env) fp).wish xe) elt te)
    (hs : ∀ x, foldedSetIterable iter X.env x = pure x := by intro _; rfl) : PS X (.Assign [.Name y py] (.ListComp elt [⟨tg, iter, ifs, 0⟩] scope pos) spos) (tAsg (tLc wi g tt te (own.map (·.2))) (L2.gName i)) := by
  refine ⟨fun pins s σ H D I h => ?_⟩
  rw [exec_Assign_Name_used _ _ _ _ hsw]
  refine wpAny_bind (wpAny_standAt (wpAny_bind ?_))
  show wpAny _ X.A (do let _ ← comprehension (.ListComp elt [⟨tg, iter, ifs, 0⟩] scope pos) scope X.env (firstIterPos [⟨tg, iter, ifs, 0⟩] pos) (newList []) false (eval iter X.env) (some (assign (.Name y py) X.env))) _ _ s
  have h : tLc wi g tt te (own.map (·.2)) σ H (fun x H1 => L2.gName i x σ H1 D.nx) := h
  refine wpAny_bind (thn (lcx_core (Qf := fun _ z => SP X pins D .next z) st fr tk hW hc hN I hi ok hg ht he hs h fun L C z m Hz Iz q n f => ?_) fun _ z q => wpAny_pure (wpAny_pure q))
  show wpAny _ _ (assign (.Name y py) X.env (.ref L)) _ _ _
  refine wpAny_assign_Name (store_ok2 (v := V.ref L) Iz hN hy (.inl hyl) rfl (fun z2 I2 ⟨a, sb, ha⟩ => ?_) (.inr hyl))
  have ne : C ≠ a := ha.elim (fun e => by rw [e]; exact f.2.1) fun k e => f.2.2.2.2.1 y a k e.symm
  exact ⟨m, n.sameBut sb ne, fun h3 sb3 => ⟨_, Hz, I2.turned (t' := z2.toks) (fun b o hb e => (sb3.2 b hb).trans e) f.1 f.2.1 f.2.2.2.1 f.2.2.2.2.1 f.2.2.2.2.2, q⟩⟩
end
end L3
set_option Elab.async false
set_option linter.all false
set_option maxRecDepth 100000
set_option maxHeartbeats 4000000
/-! L6D: list comprehensions whose step may raise, as denotations. -/
namespace L3
open PySem PySem.Spec PyProof.Rows L2
def lcLx (g : GD) (tt : TD) (te : ED) (env : EnvD) : List D → Store → R (List D)
  | [], S => .ok [] S
  | x :: xs, S => match g x env S with
    | .nx env1 S1 => (tt env1 S1).nox.bind fun k S2 => match k with
      | true => (te env1 S2).bind fun y S3 => (lcLx g tt te env xs S3).bind fun ys S4 => .ok (y :: ys) S4
      | false => lcLx g tt te env xs S2
    | _ => .bad
def eLcx (mi : ID) (vs : List Nat) (g : GD) (tt : TD) (te : ED) : ED := fun env S => (mi env S).bind fun xs S1 =>
  if xs.length ≤ sizeLine then (lcLx g tt te (wipeD env vs) xs S1).bind fun ys S2 => .ok (.lst ys) S2 else .bad
section
variable {G : GC} {X : Cx} {Wx : WX} {pos : Pos}
theorem imp_lcx {E : XK} {mi : ID} {vs : List Nat} {g : GD} {tt : TD} {te : ED} : ∀ σ H Q, tE G (eLcx mi vs g tt te) (WE0 E) σ H Q → tLc (tI G mi (WE0 E)) (tGW G g vs) (tT G tt WF) (tE G te (WE0 E)) vs σ H Q := by
  intro σ H Q q
  obtain ⟨w, env, rfl, sr, er, p⟩ := q
  refine ⟨w, env, rfl, sr, er, (Post.bind (Ra := fun w' xs (J : It) => ItOk G w' J xs) p).mono (fun J H1 m => ?_) fun _ _ _ h => h⟩
  obtain ⟨w1, xs, rfl, x1, s1, io, p1⟩ := m
  intro L hL
  have hfr : ∀ a ∈ [L], w1.H a = none := fun a h => by have : a = L := by simpa using h
                                                       rw [this]; exact hL
  by_cases hz : xs.length ≤ sizeLine
  · rw [if_pos hz] at p1
    have er1 := (er.mono x1).wipe vs
    have h0 : WX' [L] w1 ⟨w1.mu, w1.S, upd w1.H L (.lst []), L :: w1.tmp⟩ :=
      ⟨fun _ _ h => h, fun a o h nm ha => ⟨(upd_ne (by simpa using ha)).trans h, nm⟩, fun a h => by
        rcases List.mem_cons.mp h with e | h
        · exact .inr (by simp [e])
        · exact .inl h, fun a h => List.mem_cons_of_mem _ h⟩
    have nL : ¬ MutS w1 L := fun m => by obtain ⟨u, e⟩ := MutS.there s1 m; rw [hL] at e; cases e
    have sW : SRep G ⟨w1.mu, w1.S, upd w1.H L (.lst []), L :: w1.tmp⟩ := by
      refine ⟨s1.len, s1.inj, fun n ob a h1 h2 => ?_, fun a ha => ?_⟩
      · have h := s1.obj n ob a h1 h2
        refine h.keep h0 (fr_tok hfr) fun lv => ?_
        obtain ⟨u, e⟩ := h.there lv
        exact upd_ne (ne_of_none e hL)
      · rcases List.mem_cons.mp ha with e | ha
        · subst e; exact ⟨⟨_, upd_same⟩, nL⟩
        · obtain ⟨⟨u, e⟩, nm⟩ := s1.tm a ha
          exact ⟨⟨u, (upd_ne (ne_of_none e hL)).trans e⟩, nm⟩
    refine ⟨fun i m H => ∃ w3 acc us, w3.H = H ∧ SRep G w3 ∧ WX' [L] w1 w3 ∧ L ∈ w3.tmp ∧ w3.H L = some (.lst us) ∧ RepL G w3 acc us ∧ acc.length ≤ i ∧ i + m = xs.length ∧
        (lcLx g tt te (wipeD env vs) xs w1.S) = (lcLx g tt te (wipeD env vs) (xs.drop i) w3.S).bind fun ys S2 => .ok (acc ++ ys) S2,
      ⟨xs.length, _, [], [], rfl, sW, h0, by simp, upd_same, by simp [RepL], Nat.le_refl _, by omega, ?_⟩, fun i m H hW => ?_⟩
    · simp only [List.drop_zero, List.nil_append, R.bind_ok]
    obtain ⟨w3, acc, us, rfl, s3, x3, tm3, hL3, ra3, hlen, em, eq⟩ := hW
    rw [eq] at p1
    by_cases hi : i < xs.length
    · have e : xs[i]? = some xs[i] := List.getElem?_eq_getElem hi
      obtain ⟨go, yl⟩ := io.go [L] w3 (fr_tok hfr) x3 s3 i xs[i] e
      refine .inr ⟨go, fun H' => ∃ w5 acc us, w5.H = H' ∧ SRep G w5 ∧ WX' [L] w1 w5 ∧ L ∈ w5.tmp ∧ w5.H L = some (.lst us) ∧ RepL G w5 acc us ∧ acc.length ≤ i + 1 ∧ (i + 1) + (m - 1) = xs.length ∧
        (lcLx g tt te (wipeD env vs) xs w1.S) = (lcLx g tt te (wipeD env vs) (xs.drop (i + 1)) w5.S).bind fun ys S2 => .ok (acc ++ ys) S2, fun H' hN => ⟨m - 1, by omega, hN⟩, fun x H' hy => ?_⟩
      obtain ⟨w4, rfl, x4, eS4, s4, rp4⟩ := yl x H' hy
      have x14 : WX' [L] w1 w4 := WX'.trans x3 (WX'.wide x4)
      refine ⟨w4, wipeD env vs, xs[i], rfl, s4, er1.monoT x14 (fr_tok hfr), rp4, ?_⟩
      rw [List.drop_eq_getElem_cons hi, lcLx] at eq p1
      rw [eS4]
      cases hg : g xs[i] (wipeD env vs) w3.S with
      | nx env5 S5 =>
        rw [hg] at eq p1
        simp only at eq p1
        intro σ5 w5 x5 e5 s5 er5 hw
        subst e5
        refine ⟨hw.trans (wipe_sub fun _ h => h), w5, env5, rfl, s5, er5, ?_⟩
        cases ht : tt env5 w5.S with
        | ok k S6 =>
          rw [ht] at eq p1
          simp only [R.nox, R.bind] at eq p1
          intro b w6 x6 e6 s6 hb
          subst hb e6
          have x46 : WExt w4 w6 := WX'.trans x5 x6
          have x16 : WX' [L] w1 w6 := WX'.trans x14 (WX'.wide x46)
          have hL6 : w6.H L = some (.lst us) := (x46.keep L _ ((x4.keep L _ hL3 ((s3.tm L tm3).2) (by simp)).1) ((s4.tm L (x4.tmp' L tm3)).2) (by simp)).1
          have tm6 : L ∈ w6.tmp := x46.tmp' L (x4.tmp' L tm3)
          have ra6 : RepL G w6 acc us := RepL.mono (WX'.trans x4 x46) _ _ ra3
          cases k with
          | false =>
            refine iteF ⟨w6, acc, us, rfl, s6, x16, tm6, hL6, ra6, by omega, by omega, ?_⟩
            simpa using eq
          | true =>
            refine iteT ⟨w6, env5, rfl, s6, er5.mono x6, ?_⟩
            simp only at eq p1
            cases hte : te env5 w6.S with
            | ok y S7 =>
              rw [hte] at eq p1
              simp only [R.bind] at eq p1
              intro v w7 x7 e7 s7 r7
              subst e7
              have hL7 : w7.H L = some (.lst us) := (x7.keep L _ hL6 ((s6.tm L tm6).2) (by simp)).1
              have tm7 : L ∈ w7.tmp := x7.tmp' L tm6
              have nm7 : ¬ MutS w7 L := (s7.tm L tm7).2
              have lu : us.length = acc.length := ra3.length
              refine ⟨us, hL7, by omega, ?_⟩
              have x8 : WX' [L] w7 (w7.put L (.lst (us ++ [v]))) := ⟨fun _ _ h => h, fun a o h nm ha => ⟨(upd_ne (by simpa using ha)).trans h, nm⟩, fun a h => .inl h, fun a h => h⟩
              have t8 : Tok [L] w7 := fun a h => .inl (by have : a = L := by simpa using h
                                                          rw [this]; exact tm7)
              have s8 : SRep G (w7.put L (.lst (us ++ [v]))) := by
                refine ⟨s7.len, s7.inj, fun n ob a h1 h2 => ?_, fun a ha => ?_⟩
                · have h := s7.obj n ob a h1 h2
                  exact h.keep x8 t8 fun lv => upd_ne fun e => nm7 (by subst e; exact ⟨n, ob, h1, lv, h2⟩)
                · obtain ⟨⟨u, e⟩, nm⟩ := s7.tm a ha
                  by_cases ea : a = L
                  · subst ea; exact ⟨⟨_, upd_same⟩, nm⟩
                  · exact ⟨⟨u, (upd_ne ea).trans e⟩, nm⟩
              refine ⟨_, acc ++ [y], us ++ [v], rfl, s8, WX'.trans (WX'.trans x16 (WX'.wide x7)) x8, tm7, upd_same, ?_, by simp; omega, by omega, ?_⟩
              · exact (RepL.monoT x8 t8 _ _ (RepL.mono x7 _ _ ra6)).append (RepL.one (Rep.monoT x8 t8 _ _ r7))
              · rw [eq]
                show _ = (lcLx g tt te (wipeD env vs) (List.drop (i + 1) xs) w7.S).bind _
                cases lcLx g tt te (wipeD env vs) (List.drop (i + 1) xs) w7.S <;> simp [R.bind]
            | exc ee S7 =>
              rw [hte] at p1
              simp only [R.bind] at p1
              intro C dx w7 x7 e7 s7 xr
              subst e7
              have x17 : WX' [L] w1 w7 := WX'.trans x16 (WX'.wide x7)
              have tinc : ∀ a, a ∈ w1.tmp → a ∈ w7.tmp := x17.tmp'
              have we : WExt w1 { w7 with tmp := w1.tmp } := ⟨x17.mu, fun a o h nm _ => x17.keep a o h nm (by
                intro ha
                have : a = L := by simpa using ha
                rw [this, hL] at h; cases h), fun a h => .inl h, fun a h => h⟩
              refine p1 C dx { w7 with tmp := w1.tmp } we rfl (s7.untmp tinc) ?_
              obtain ⟨h1, h2⟩ := xr
              refine ⟨h1, h2.imp id fun ⟨d, kvs, e1, e2, nm, rk⟩ => ⟨d, kvs, e1, e2, fun m => nm (m.imp id (tinc d)), RepKV.untmp tinc _ _ rk⟩⟩
            | bad => rw [hte] at p1; exact p1.elim
        | exc ee S6 => rw [ht] at p1; exact p1.elim
        | bad => rw [ht] at p1; exact p1.elim
      | ret _ _ => rw [hg] at p1; exact p1.elim
      | brk _ _ => rw [hg] at p1; exact p1.elim
      | ct _ _ => rw [hg] at p1; exact p1.elim
      | exc _ _ _ => rw [hg] at p1; exact p1.elim
      | bad => rw [hg] at p1; exact p1.elim
    · have ei : i = xs.length := by omega
      subst ei
      refine .inl ⟨io.stop [L] w3 (fr_tok hfr) x3 s3, ?_⟩
      rw [List.drop_length] at p1
      have we : WExt w1 { w3 with tmp := w1.tmp } := ⟨x3.mu, fun a o h nm _ => x3.keep a o h nm (by
        intro ha
        have : a = L := by simpa using ha
        rw [this, hL] at h; cases h), fun a h => .inl h, fun a h => h⟩
      have tinc : ∀ a, a ∈ w1.tmp → a ∈ w3.tmp := x3.tmp'
      have se : SRep G { w3 with tmp := w1.tmp } := s3.untmp tinc
      have nmL : ¬ Mut { w3 with tmp := w1.tmp } L := fun m => m.elim (s3.tm L tm3).2 fun z => by
        obtain ⟨⟨u, e⟩, _⟩ := s1.tm L z
        rw [hL] at e; cases e
      have hr : Rep G { w3 with tmp := w1.tmp } (.lst (acc ++ [])) (.ref L) := by
        simp only [Rep, List.append_nil]
        exact ⟨L, us, rfl, hL3, nmL, RepL.untmp tinc _ _ ra3⟩
      exact p1 (.ref L) { w3 with tmp := w1.tmp } we rfl se hr
  · rw [if_neg hz] at p1; exact p1.elim
/-- [elt for target in iter if ..], elt may raise -/
theorem q_lcx {E : XK} {elt tg iter : Expr} {ifs : List Expr} {scope : Scope} {own : List (Str × Nat)} {mi : ID} {g : GD} {mt : TD} {me : ED} (st : X.stack = X.env :: X.outer) (fr : X.env.frame = some X.env.locals) (tk : Takes X (WE0 E)) (hc : X.calm = true) (hN : X.N.Nodup) (hi : PI X tg iter (tI G mi (WE0 E))) (ok : BlkOk X.N X.env.scope scope own)
    (hg : ∀ (s : Shared) (H : Hp) (C : Addr) (cl : List (Str × Addr)) (fp : List Addr) (xe : Value → Shared → Prop), PG ((X.blk s H scope (compEnvC scope cl C X.env) fp).wish xe) tg (tGW G g (own.map (·.2))))
    (ht : ∀ (s : Shared) (H : Hp) (C : Addr) (cl : List (Str × Addr)) (fp : List Addr) (xe : Value → Shared → Prop), PTs ((X.blk s H scope (compEnvC scope cl C X.env) fp).wish xe) ifs (tT G mt WF))
    (he : ∀ (s : Shared) (H : Hp) (C : Addr) (cl : List (Str × Addr)) (fp : List Addr) (xe : Value → Shared → Prop), Takes ((X.blk s H scope (compEnvC scope cl C X.env) fp).wish xe) (WE0 E) → PE ((X.blk s H scope (compEnvC scope cl C X.env) fp).wish xe) elt (tE G me (WE0 E))) (hs : ∀ x, foldedSetIterable iter X.env x = pure x := by intro _; rfl) :
    PE X (.ListComp elt [⟨tg, iter, ifs, 0⟩] scope pos) (tE G (eLcx mi (own.map (·.2)) g mt me) (WE0 E)) := peI (pe_lcx (We := WE0 E) st fr tk (fun _ _ _ _ _ h => h) hc hN hi ok hg ht he hs) imp_lcx
theorem q_setLcx {E : XK} {i : Nat} {y : Str} {py : Pos} {elt tg iter : Expr} {ifs : List Expr} {scope : Scope} {own : List (Str × Nat)} {spos : Pos} {mi : ID} {g : GD} {mt : TD} {me : ED} (st : X.stack = X.env :: X.outer) (fr : X.env.frame = some X.env.locals) (tk : Takes X (WE0 E)) (hc : X.calm = true) (hN : X.N.Nodup) (hy : X.N[i]? = some y) (hyl : X.env.scope.names.lookup y = some .local)
    (hsw : swapsWith (.ListComp elt [⟨tg, iter, ifs, 0⟩] scope pos) (some (.Name y py)) spos.line X.env = pure true) (hi : PI X tg iter (tI G mi (WE0 E))) (ok : BlkOk X.N X.env.scope scope own)
    (hg : ∀ (s : Shared) (H : Hp) (C : Addr) (cl : List (Str × Addr)) (fp : List Addr) (xe : Value → Shared → Prop), PG ((X.blk s H scope (compEnvC scope cl C X.env) fp).wish xe) tg (tGW G g (own.map (·.2))))
    (ht : ∀ (s : Shared) (H : Hp) (C : Addr) (cl : List (Str × Addr)) (fp : List Addr) (xe : Value → Shared → Prop), PTs ((X.blk s H scope (compEnvC scope cl C X.env) fp).wish xe) ifs (tT G mt WF))
    (he : ∀ (s : Shared) (H : Hp) (C : Addr) (cl : List (Str × Addr)) (fp : List Addr) (xe : Value → Shared → Prop), Takes ((X.blk s H scope (compEnvC scope cl C X.env) fp).wish xe) (WE0 E) → PE ((X.blk s H scope (compEnvC scope cl C X.env) fp).wish xe) elt (tE G me (WE0 E))) (hs : ∀ x, foldedSetIterable iter X.env x = pure x := by intro _; rfl) :
    PS X (.Assign [.Name y py] (.ListComp elt [⟨tg, iter, ifs, 0⟩] scope pos) spos) (tS G (sAsg (eLcx mi (own.map (·.2)) g mt me) (gName i)) (WE0 E)) := psI (ps_setLcx (We := WE0 E) st fr tk (fun _ _ _ _ _ h => h) hc hN hy hyl hsw hi ok hg ht he hs) fun D σ H q => by
  obtain ⟨w, env, rfl, sr, er, p⟩ := q
  refine imp_lcx σ w.H _ ⟨w, env, rfl, sr, er, (PostS.ofR (Ra := Rep G) er p).mono (fun x H1 m => ?_) fun _ _ _ h => h⟩
  obtain ⟨w1, d1, rfl, x1, s1, rp1, p1⟩ := m
  exact p1 _ w1 (.refl w1) rfl s1 ((er.mono x1).set i rp1)
end
end L3
set_option Elab.async false
set_option linter.all false
set_option maxRecDepth 100000
set_option maxHeartbeats 4000000
/-! L6E: own exceptions over any built-in base, one field stored by their __init__: made, raised. -/
namespace L3
open PySem PySem.Spec PyProof.Rows L2

/-- what the written part says of an own exception class -/
structure Oxc (K : PySem.W.Frag) (C : Addr) (B newId initId : String) (bmB : List Value) : Prop where
  F : ExcBaseFacts B newId initId bmB
  SF : StoreFacts B bmB "object.__setattr__" "object"
  ini : PySem.W.excInitIn K C bmB newId = true
  ovr : PySem.W.excOver K C bmB = true
  sa : PySem.W.findIn K (.ref C) "__setattr__" = some (some (.builtin "object.__setattr__"))
  exC : PySem.W.subIn K (.ref C) (.type "BaseException") = some true
  tyC : PySem.W.typeIn K (.ref C) = some (.type "type")
  kC : PySem.W.keepIn K (.ref C) = true
  hd : PySem.W.hasDictIn K C = true

section
variable {X : Cx} {pins : List (Addr × Obj)} {σ : L2.St} {H : Hp} {s : Shared} {a C : Addr} {f : Str} {y : V} {u : Value} {Q : Unit → Shared → Prop} {E : Value → Shared → Prop} {A : Around} {B newId initId : String} {bmB : List Value}
/-- self.f = y, on a new exception -/
theorem store1 (T : Oxc X.K C B newId initId bmB) (I : Inv X pins σ H s) (e : H a = some (exo a C none)) (no : PySem.W.findIn X.K (.ref C) f = some none) (ry : RelV y u)
    (h : ∀ dx s', H dx = none → dx ≠ a → Inv X pins σ (upd (upd H dx (exd dx [(f, y)])) a (exo a C (some dx))) s' → Q () s') : wpAny (model X.prog X.w) A (setAttr (.ref a) f u) Q E s := by
  obtain ⟨t1, ho⟩ := exo_at I.hok e
  have tk : PySem.W.takerIn X.K C f = some none := by unfold PySem.W.takerIn; rw [no]; rfl
  obtain ⟨cd, hcd, hdd⟩ := PySem.W.any_some T.hd
  obtain ⟨hp, g, d, t, os⟩ := s
  refine PySem.W.set_plain I.kIn (od := none) ⟨ho, rfl, rfl, trivial⟩ T.sa ?_
  refine PySem.W.osa_openX (od := none) T.SF I.kIn ⟨ho, rfl, rfl, trivial⟩ T.ovr tk fun b => ?_
  have lx : a < hp.objs.size := Heap.lt_size ho
  refine wpAny_bind (wpAny_pure (wpAny_bind (PySem.W.instanceDict_exc (c2 := .none) ho (PySem.W.looks_clsIn I.kIn hcd) hdd ?_)))
  obtain ⟨dx, edx⟩ : ∃ dx, hp.objs.size = dx := ⟨_, rfl⟩
  show wpAny _ _ (Builtin.ObjectAttr.storeInDict hp.objs.size (.str f _) f u) _ _ _
  have nsz : a ≠ hp.objs.size := Nat.ne_of_lt lx
  have emp : ((hp.push (PySem.W.dictOf [] 0)).update a fun o => { o with dict := some hp.objs.size }).Ns hp.objs.size fun _ => none :=
    ⟨_, #[], _, (Heap.get?_update_ne _ _ _ _ nsz.symm).trans (Heap.get?_push_at rfl rfl), rfl, fun e he => absurd he (by simp), fun _ => rfl⟩
  refine PySem.HandSPX.store_in_new emp fun h2 tk2 ns2 sb2 => ?_
  have hn : H hp.objs.size = none := I.hok.fresh (Nat.le_refl _)
  have gx : h2.get? a = some ({ cls := .ref C, dict := some hp.objs.size, data := .fields #[.ref t1, .none, .none, .none, .bool false, .none] } : Obj) :=
    (sb2.2 a nsz).trans (Heap.get?_update_self _ (Heap.get?_push_of_some _ ho) rfl)
  have keep : ∀ b o, b ≠ a → hp.get? b = some o → h2.get? b = some o := fun b o hb q =>
    (sb2.2 b (Nat.ne_of_lt (Heap.lt_size q))).trans ((Heap.get?_update_ne _ _ _ _ hb).trans (Heap.get?_push_of_some _ q))
  have na : ∀ {b : Addr}, H b = none → b ≠ a := fun {b} n z => by rw [z, e] at n; cases n
  have nd : ∀ {b : Addr} {o : Obj}, hp.get? b = some o → b ≠ hp.objs.size := fun {b o} q => Nat.ne_of_lt (Heap.lt_size q)
  have un : Un X.fs [] H (upd (upd H hp.objs.size (exd hp.objs.size [(f, y)])) a (exo a C (some hp.objs.size))) hp h2 := {
    keep := fun b o q n _ _ => keep b o (na n) q
    slot := fun b o q n _ _ => ⟨_, keep b o (na n) q⟩
    free := fun b o q n _ => (upd_ne (na n)).trans ((upd_ne (nd q)).trans n)
    there := fun b o q _ => if hb : b = a then ⟨_, hb ▸ gx⟩ else ⟨o, keep b o hb q⟩
    tups := fun b xs q => (upd_ne (at_ne e q exo_tup)).trans ((upd_ne (ne_of_none q hn)).trans q)
    frzs := fun b o v q => (upd_ne (at_ne e q exo_frz)).trans ((upd_ne (ne_of_none q hn)).trans q)
    tbls := fun b ps q => ⟨#[], by rw [upd_ne (at_ne e q exo_tbl), upd_ne (ne_of_none q hn), q]; simp⟩ }
  refine h _ _ hn (fun z => nsz z.symm) (I.un (t' := tk2) un fun b o q => ?_)
  by_cases hb : b = a
  · subst hb
    rw [upd_same] at q; cases q
    exact exo_ok gx
  · rw [upd_ne hb] at q
    by_cases hd : b = hp.objs.size
    · subst hd
      rw [upd_same] at q; cases q
      exact exd_ok ns2 (relO_put (fs := []) ry fun _ => trivial)
    · rw [upd_ne hd] at q
      refine (I.hok b o q).stay (fun c v hc z => keep c v (hc.elim (fun k => by rw [k]; exact hb) fun k => at_ne e k exo_own) z) (fun c hc => (upd_ne (at_ne e hc exo_own)).trans ((upd_ne (ne_of_none hc hn)).trans hc)) fun c xs hc => (upd_ne (at_ne e hc exo_tup)).trans ((upd_ne (ne_of_none hc hn)).trans hc)
end
/-- self.f = e -/
def tSto (K : PySem.W.Frag) (C : Addr) (f : Str) (to te : TE) : TS := fun D σ H => te σ H fun y H1 => to σ H1 fun x H2 => ∃ a : Addr, x = .ref a ∧ H2 a = some (exo a C none) ∧ ∀ dx, H2 dx = none → dx ≠ a → D.nx σ (upd (upd H2 dx (exd dx [(f, y)])) a (exo a C (some dx)))
theorem ps_sto {X : Cx} {o e : Expr} {to te : TE} {f : Str} {p' pos : Pos} {C : Addr} {B newId initId : String} {bmB : List Value} (T : Oxc X.K C B newId initId bmB) (no : PySem.W.findIn X.K (.ref C) f = some none) (ho : PE X o to) (he : PE X e te)
    (hs : swapsWith e (some (.Attribute o f p')) pos.line X.env = pure false := by rfl) : PS X (.Assign [.Attribute o f p'] e pos) (tSto X.K C f to te) :=
  ⟨fun pins s σ H D I h => plainObj_wpAny_Assign_Attribute (thn (he.run pins s σ H _ I h) fun v s1 ⟨y, H1, I1, r1, q1⟩ => thn (ho.run pins s1 σ H1 _ I1 q1) fun u s2 ⟨x, H2, I2, r2, a, ex, ea, q⟩ => by
    subst ex
    obtain rfl : u = Value.ref a := r2
    exact store1 T I2 ea no r1 fun dx s' n ne J => ⟨σ, _, J, q dx n ne⟩) hs⟩
/-- __init__(self, f): self.f = f -/
def spI (C : Addr) (f : Str) : Sp := fun vs H Q _ => ∃ (a : Addr) (y : V), vs = [.ref a, y] ∧ H a = some (exo a C none) ∧ ∀ dx, H dx = none → dx ≠ a → Q .non (upd (upd H dx (exd dx [(f, y)])) a (exo a C (some dx)))
/-- C(e), raised -/
theorem pmk_one {X : Cx} {x : Str} {e : Expr} {te : TE} {p pos : Pos} {C fI : Addr} {k : Nat} {fd : FuncData} {ps : List Str} {f : Str} {B newId initId : String} {bmB : List Value} (T : Oxc X.K C B newId initId bmB) (iC : PySem.W.findIn X.K (.ref C) "__init__" = some (some (.ref fI))) (tI : PySem.W.typeIn X.K (.ref fI) = some (.type "function"))
    (F1 : FnG X.prog X.w X.K X.mg X.base k fI fd ps (spI C f)) (hr : RoomG (k + 1) X.A) (hb : Binds X.K fd ps []) (hg : Gl X x) (hm : X.mg x = some (.ref C)) (he : PE X e te)
    (hdb : (x == ("__debug__" : Str)) = false := by decide) (hs : starEach [e] X.env = (false, eval e X.env) :: starEach [] X.env := by rfl) :
    PMk X (.Call (.Name x p) [e] [] pos) (fun σ H Q => te σ H fun y H1 => ∀ d, H1 d = none → Q (.ref C) (some d) (upd H1 d (.xd [(f, y)]))) := by
  intro pins s σ H Q I h
  refine wpAny_Call_Name_kw (ld_glob I hg hm ?_ hdb)
  refine PySem.W.callWith_K (h₀ := X.base) I.ok.mod.kin T.kC ?_ hs (by rfl)
  rw [hs]
  show wpAny _ _ (spliced ((false, eval e X.env) :: backTo pos (starEach [] X.env))) _ _ s
  refine Calls.spliced_cons (thn (he.run pins s σ H _ I h) fun u s1 ⟨y, H1, I1, ry, q1⟩ => ?_)
  refine Calls.spliced_nil ⟨I1.kIn, ?_⟩
  show wpAny _ _ (call (.ref C) [u]) _ _ _
  obtain ⟨nm, N, qn, bs, bm, hdct, sn, sub, ab, col, dd, k0, k1, k2, k3, k5, hC, hT⟩ := PySem.W.excInit_of I1.kIn T.ini
  obtain ⟨hp, g, dr, tk, os⟩ := s1
  have sz : hp.objs.size ≤ hp.objs.size + 1 := Nat.le_succ _
  have n1 : H1 (hp.objs.size + 1) = none := I1.hok.fresh sz
  have kk : ∀ b o, hp.get? b = some o → ((hp.push (PySem.W.kdv_tup [u])).push (PySem.HandSPX.excO C hp.objs.size)).get? b = some o := fun b o q => Heap.get?_push_of_some _ (Heap.get?_push_of_some _ q)
  have gx : ((hp.push (PySem.W.kdv_tup [u])).push (PySem.HandSPX.excO C hp.objs.size)).get? (hp.objs.size + 1) = some (PySem.HandSPX.excO C hp.objs.size) := by heap_get
  have I2 : Inv X pins σ (upd H1 (hp.objs.size + 1) (exo (hp.objs.size + 1) C none)) ⟨(hp.push (PySem.W.kdv_tup [u])).push (PySem.HandSPX.excO C hp.objs.size), g, dr, tk, os⟩ := I1.laid (t' := tk) (a := hp.objs.size + 1) (o := exo (hp.objs.size + 1) C none) (h' := (hp.push (PySem.W.kdv_tup [u])).push (PySem.HandSPX.excO C hp.objs.size)) kk sz (exo_ok gx)
  have want : spI C f [V.ref (hp.objs.size + 1), y] (upd H1 (hp.objs.size + 1) (exo (hp.objs.size + 1) C none)) (fun v H2 => v = .non ∧ ∃ d, H2 = upd (upd (upd H1 (hp.objs.size + 1) (exo (hp.objs.size + 1) C none)) d (exd d [(f, y)])) (hp.objs.size + 1) (exo (hp.objs.size + 1) C (some d)) ∧ H1 d = none ∧ d ≠ hp.objs.size + 1) (fun _ _ _ => False) :=
    ⟨_, y, rfl, upd_same, fun dx nx ne => ⟨rfl, dx, rfl, by rw [upd_ne ne] at nx; exact nx, ne⟩⟩
  have rel : Vals [V.ref (hp.objs.size + 1), y] [Value.ref (hp.objs.size + 1), u] := .cons rfl (.cons ry .nil)
  have hl : [Value.ref (hp.objs.size + 1), u].length = ps.length := by
    rw [← rel.length]; exact F1.len _ _ _ _ want
  have bd := hb ⟨(hp.push (PySem.W.kdv_tup [u])).push (PySem.HandSPX.excO C hp.objs.size), g, dr, tk, os⟩ [Value.ref (hp.objs.size + 1), u] I2.kIn hl
  rw [List.append_nil] at bd
  have rm : RoomG k (X.A.under (.builtin "type.__call__" ⟨.ref C :: [u], []⟩)) := ⟨hr.rm.make C [u] [], hr.gd⟩
  refine wpAny_call (PySem.HandSPX.call_own T.F hT hC (PySem.W.looks_findIn I1.kIn iC) (fun self => PySem.W.bind_fn I1.kIn self tI) (by show 1 ≤ sizeLine; rw [sizeLine_eq]; omega)
    (codeAny_mono (F1.go _ X.stack _ _ ⟨[Value.ref (hp.objs.size + 1), u], []⟩ [Value.ref (hp.objs.size + 1), u] _ _ (fun _ _ _ => False) rm (I2.env0.make C [u] []) bd rel want) fun r z hz => ?_))
  match r, z, hz with
  | .error er, z, hz =>
    obtain ⟨_, _, _, _, _, _, _, _, _, _, _, _, w⟩ := hz
    exact w.elim
  | .ok (.ret r'), ⟨h2, g2, d2, t2, os2⟩, ⟨v, H2, eo, bare, un, hok, rv, ev, d, eH, nd, ne⟩ =>
    subst ev
    refine ⟨rv, ?_⟩
    have ed : H2 d = some (exd d [(f, y)]) := by rw [eH, upd_ne ne, upd_same]
    have ea : H2 (hp.objs.size + 1) = some (exo (hp.objs.size + 1) C (some d)) := by rw [eH, upd_same]
    refine mk_end (Q := Q) (raises_own T.exC T.tyC) I1 sz kk un hok eo bare ea ed nd ?_
    have el : upd (L2.del H2 (hp.objs.size + 1)) d (.xd [(f, y)]) = upd H1 d (.xd [(f, y)]) := by
      funext b
      by_cases b1 : b = d
      · subst b1; rw [upd_same, upd_same]
      · rw [upd_ne b1, upd_ne b1]
        by_cases b2 : b = hp.objs.size + 1
        · subst b2; rw [L2.del_same, n1]
        · rw [L2.del_ne b2, eH, upd_ne b2, upd_ne b1, upd_ne b2]
    rw [el]
    exact q1 d nd
  | .ok .next, _, hz => exact False.elim hz
  | .ok .brk, _, hz => exact False.elim hz
  | .ok .cont, _, hz => exact False.elim hz
end L3
set_option Elab.async false
set_option linter.all false
set_option maxRecDepth 100000
set_option maxHeartbeats 4000000
/-! L6F: try .. except; the exception that was caught is kept as a value. -/
namespace L3
open PySem PySem.Spec PyProof.Rows L2
open PySem.HandSPX (HeldZ FlyingZ TracedZ)

/-- the context of an except suite; the exception's object is tracked -/
abbrev Cx.suiteT (X : Cx) (a : Addr) : Cx := { X with A := X.A.mark (some (.ref a)), calm := false, xe := fun _ _ => False }
theorem suite_ok {X : Cx} (ok : X.Ok) (a : Addr) : (Cx.suiteT X a).Ok :=
  ⟨ok.mod, ok.kind, ok.glob, ok.blt, ok.above, ok.inj, ok.has, ok.cab, (fun z => absurd (show false = true from z) Bool.false_ne_true), ok.frames, ok.stk, ok.exf, ok.bs, ok.bsz, ok.noex, ok.exfs, ok.funs, ok.frf⟩
section
variable {X : Cx} {pins : List (Addr × Obj)} {σ : L2.St} {H : Hp} {s : Shared} {a : Addr}
theorem toSuite (I : Inv X pins σ H s) (a : Addr) : Inv (Cx.suiteT X a) pins σ H s := ⟨suite_ok I.ok a, I.os, I.bare, I.base, I.loc, I.cell, I.free, I.freeC, I.pin, I.hok, I.len⟩
theorem ofSuite (I : Inv (Cx.suiteT X a) pins σ H s) (ok : X.Ok) : Inv X pins σ H s := ⟨ok, I.os, I.bare, I.base, I.loc, I.cell, I.free, I.freeC, I.pin, I.hok, I.len⟩
/-- an object that came by itself is tracked from here on -/
theorem track {cls : Value} {dx : Option Addr} {oe : Obj} {vs : Array Value} (I : Inv X pins σ H s) (ha : s.heap.get? a = some oe) (z : Zc cls dx oe) (hd : oe.data = .fields vs) (na : H a = none) (n0 : X.s_0.heap.get? a = none) (np : ∀ p ∈ X.pn ++ pins, p.1 ≠ a) :
    Inv X pins σ (upd H a (xoH a cls dx)) s := by
  have nL : X.env.locals ≠ a := fun q => by
    obtain ⟨m, ⟨o, es, ep, g, d, _⟩, _⟩ := I.loc
    rw [q, ha] at g; cases g
    rw [hd] at d; cases d
  have nC : ∀ x c, X.env.cells.lookup x = some c → c ≠ a := fun x c e q => by
    obtain ⟨v, o, g, d⟩ := I.cell x c e
    rw [q, ha] at g; cases g
    rw [hd] at d; cases d
  have n1 : ∀ {b o}, X.s_0.heap.get? b = some o → b ≠ a := fun {b o} g q => by rw [q, n0] at g; cases g
  have n2 : ∀ {b o}, H b = some o → b ≠ a := fun {b o} g q => by rw [q, na] at g; cases g
  refine ⟨I.ok, I.os, I.bare, ⟨I.base.keep, I.base.slot, fun b o g n x => (upd_ne (n1 g)).trans (I.base.free b o g n x), I.base.there, fun b xs e => ?_, fun b o u e => ?_, fun b ps e => ?_⟩, I.loc, I.cell, (upd_ne nL).trans I.free, fun x c e => (upd_ne (nC x c e)).trans (I.freeC x c e), fun p hp => ?_, fun b u e => ?_, I.len⟩
  · have q := I.base.tups b xs e
    exact (upd_ne (n2 q)).trans q
  · have q := I.base.frzs b o u e
    exact (upd_ne (n2 q)).trans q
  · obtain ⟨more, q⟩ := I.base.tbls b ps e
    exact ⟨more, (upd_ne (n2 q)).trans q⟩
  · obtain ⟨q1, q2, q3, q4, q5⟩ := I.pin p hp
    exact ⟨q1, (upd_ne (np p hp)).trans q2, q3, q4, q5⟩
  · by_cases hb : b = a
    · subst hb
      rw [upd_same] at e; cases e
      exact ⟨⟨oe, vs, ha, z, hd⟩, ⟨oe, ha⟩, fun _ _ ⟨o, v, q1, q2, q3⟩ k => ⟨o, v, k o q1, q2, q3⟩⟩
    · rw [upd_ne hb] at e
      exact (I.hok b u e).stay (fun _ _ _ q => q) (fun c q => (upd_ne (n2 q)).trans q) fun c xs q => (upd_ne (n2 q)).trans q
end

/-! what a clause asks -/
/-- t, in a clause, asks whether the exception's class is one of cs -/
def Asks (X : Cx) (t : Expr) (ans : Value → Option Bool) : Prop := ∀ (a : Addr) (cls : Value) (b : Bool) (pins : List (Addr × Obj)) (σ : L2.St) (H : Hp) (s : Shared) (Q : Bool → Shared → Prop) (E : Value → Shared → Prop),
  Inv (Cx.suiteT X a) pins σ H s → PySem.W.Looks (model X.prog X.w) s.heap (typeOf (.ref a)) cls → ans cls = some b →
  (∀ h, (∀ c o, s.heap.get? c = some o → h.get? c = some o) → Q b { s with heap := h }) →
  wpAny (model X.prog X.w) (X.A.mark (some (.ref a))) (eval t X.env) (fun c s1 => wpAny (model X.prog X.w) (X.A.mark (some (.ref a))) (excMatches (.ref a) c) Q E s1) E s
section
variable {X : Cx}
theorem asks_name {x : Str} {c : Value} {p : Pos} (hc : Names X x c) : Asks X (.Name x p) (fun cls => PySem.W.exmOne X.K cls c) := by
  intro a cls b pins σ H s Q E I LT ans k
  have LM := PySem.W.exm_one (M := model X.prog X.w) I.kIn LT ans
  obtain ⟨hg, hd, hm | ⟨hm, hv, hn⟩⟩ := hc
  · exact ld_glob (X := Cx.suiteT X a) I hg hm (LM.here (k s.heap fun _ _ e => e)) hd
  · exact ld_blt (X := Cx.suiteT X a) I hg hm hv (LM.here (k s.heap fun _ _ e => e)) hn hd
theorem ev_name {a : Addr} {pins : List (Addr × Obj)} {σ : L2.St} {H : Hp} {s : Shared} {x : Str} {c : Value} {p : Pos} {Q E : Value → Shared → Prop} (hc : Names X x c) (I : Inv (Cx.suiteT X a) pins σ H s) (q : Q c s) : wpAny (model X.prog X.w) (X.A.mark (some (.ref a))) (eval (.Name x p) X.env) Q E s := by
  obtain ⟨hg, hd, hm | ⟨hm, hv, hn⟩⟩ := hc
  · exact ld_glob (X := Cx.suiteT X a) I hg hm q hd
  · exact ld_blt (X := Cx.suiteT X a) I hg hm hv q hn hd
theorem asks_three {x1 x2 x3 : Str} {c1 c2 c3 : Value} {p1 p2 p3 p : Pos} {kk : Nat} (n1 : Names X x1 c1) (n2 : Names X x2 c2) (n3 : Names X x3 c3) : Asks X (.Tuple [.Name x1 p1, .Name x2 p2, .Name x3 p3] kk p) (fun cls => PySem.W.exmAny X.K cls [c1, c2, c3]) := by
  intro a cls b pins σ H s Q E I LT ans k
  refine wpAny_Tuple_spliced ?_
  refine Calls.spliced_cons (ev_name n1 I ?_)
  refine Calls.spliced_cons (ev_name n2 I ?_)
  refine Calls.spliced_cons (ev_name n3 I ?_)
  refine Calls.spliced_nil ⟨by show 3 ≤ sizeLine; decide, ?_⟩
  have kp : ∀ c o, s.heap.get? c = some o → (s.heap.push ({ cls := .type "tuple", data := .seq [c1, c2, c3].toArray } : Obj)).get? c = some o := fun c o e => Heap.get?_push_of_some _ e
  exact (PySem.W.exm_tup3 (M := model X.prog X.w) (h := s.heap.push ({ cls := .type "tuple", data := .seq [c1, c2, c3].toArray } : Obj)) (I.kIn.keeps kp) (LT.keeps kp) (Heap.get?_push_size _ rfl) ans).here (k _ kp)
theorem asks_two {x1 x2 : Str} {c1 c2 : Value} {p1 p2 p : Pos} {kk : Nat} (n1 : Names X x1 c1) (n2 : Names X x2 c2) : Asks X (.Tuple [.Name x1 p1, .Name x2 p2] kk p) (fun cls => PySem.W.exmAny X.K cls [c1, c2]) := by
  intro a cls b pins σ H s Q E I LT ans k
  refine wpAny_Tuple_spliced ?_
  refine Calls.spliced_cons (ev_name n1 I ?_)
  refine Calls.spliced_cons (ev_name n2 I ?_)
  refine Calls.spliced_nil ⟨by show 2 ≤ sizeLine; decide, ?_⟩
  have kp : ∀ c o, s.heap.get? c = some o → (s.heap.push ({ cls := .type "tuple", data := .seq [c1, c2].toArray } : Obj)).get? c = some o := fun c o e => Heap.get?_push_of_some _ e
  exact (PySem.W.exm_tup2 (M := model X.prog X.w) (h := s.heap.push ({ cls := .type "tuple", data := .seq [c1, c2].toArray } : Obj)) (I.kIn.keeps kp) (LT.keeps kp) (Heap.get?_push_size _ rfl) ans).here (k _ kp)
end
end L3
set_option Elab.async false
set_option linter.all false
set_option maxRecDepth 100000
set_option maxHeartbeats 4000000
/-! L6G: try .. except, as denotations. -/
namespace L3
open PySem PySem.Spec PyProof.Rows L2
open PySem.HandSPX (HeldZ FlyingZ TracedZ)

/-- a caught exception as a value -/
def Ex.d (e : Ex) : D := .xcp e.cls (e.fs.map (·.1)) (e.fs.map (·.2))
/-- a clause: the classes that it takes, those that it doesn't, its name's slot, its suite -/
structure HdD where
  ys : List Str
  ns : List Str
  nm : Option Nat
  su : SD
/-- behind a suite the clause's name is gone; a suite lets nothing out -/
def SR.past (r : SR) (nm : Option Nat) : SR := match r, nm with
  | .nx env S, none => .nx env S
  | .nx env S, some i => .nx (env.set i none) S
  | .ret d S, _ => .ret d S
  | .brk env S, none => .brk env S
  | .brk env S, some i => .brk (env.set i none) S
  | .ct env S, none => .ct env S
  | .ct env S, some i => .ct (env.set i none) S
  | _, _ => .bad
def nameD (nm : Option Nat) (e : Ex) (env : EnvD) : EnvD := match nm with
  | none => env
  | some i => env.set i (some e.d)
def hdsD : List HdD → Ex → EnvD → Store → SR
  | [], e, env, S => .exc e env S
  | h :: r, e, env, S => if e.cls ∈ h.ys then (h.su (nameD h.nm e env) S).past h.nm else if e.cls ∈ h.ns then hdsD r e env S else .bad
def sTry (body : SD) (hs : List HdD) : SD := fun env S => match body env S with
  | .exc e env1 S1 => hdsD hs e env1 S1
  | r => r

/-- the clauses as they are written -/
inductive Hds (G : GC) (X : Cx) : List ExceptHandler → List HdD → Prop
  | nil : Hds G X [] []
  | bare {t : Expr} {b : Stmt} {suite : List Stmt} {pos : Pos} {hs : List ExceptHandler} {l : List HdD} {ys ns : List Str} {su : SD} {ans : Value → Option Bool} (ask : Asks X t ans)
      (hy : ∀ c ∈ ys, ∀ C, G.mg c = some (.ref C) → ans (.ref C) = some true) (hn : ∀ c ∈ ns, ∀ C, G.mg c = some (.ref C) → ans (.ref C) = some false)
      (hsu : ∀ a, PSs (Cx.suiteT X a) (b :: suite) (tS G su WF)) (r : Hds G X hs l) : Hds G X (.ExceptHandler (some t) none (b :: suite) pos :: hs) (⟨ys, ns, none, su⟩ :: l)
  | named {t : Expr} {n : Str} {i : Nat} {b : Stmt} {suite : List Stmt} {pos : Pos} {hs : List ExceptHandler} {l : List HdD} {ys ns : List Str} {su : SD} {ans : Value → Option Bool} (ask : Asks X t ans) (hi : X.N[i]? = some n) (hl : X.env.kindOf n = some .local)
      (hy : ∀ c ∈ ys, ∀ C, G.mg c = some (.ref C) → ans (.ref C) = some true) (hn : ∀ c ∈ ns, ∀ C, G.mg c = some (.ref C) → ans (.ref C) = some false)
      (hsu : ∀ a, PSs (Cx.suiteT X a) (b :: suite) (tS G su WF)) (r : Hds G X hs l) : Hds G X (.ExceptHandler (some t) (some n) (b :: suite) pos :: hs) (⟨ys, ns, some i, su⟩ :: l)

/-- what the clauses wish of an exception -/
def wHds (G : GC) (Wx : WX) (D : Ends) (l : List HdD) : WX := fun C dx σ H => ∃ w env e, w.H = H ∧ SRep G w ∧ ERep G w env σ ∧ XRep G w e C dx ∧ PostS G w (hdsD l e env w.S) D Wx

theorem xcp_rep {G : GC} {w : Wd} {e : Ex} {Ca a : Addr} {dx : Option Addr} (m : G.mg e.cls = some (.ref Ca)) (x : XRep G w e (.ref Ca) dx) (sr : SRep G w) (na : w.H a = none) :
    WExt w (w.put a (xoH a (.ref Ca) dx)) ∧ SRep G (w.put a (xoH a (.ref Ca) dx)) ∧ Rep G (w.put a (xoH a (.ref Ca) dx)) e.d (.ref a) := by
  obtain ⟨x1, s1, nm⟩ := new_ext (o := xoH a (.ref Ca) dx) sr na
  refine ⟨x1, s1, ?_⟩
  unfold Ex.d
  simp only [Rep]
  obtain ⟨_, hf⟩ := x
  have cut : ∀ {fs : List (Str × D)} {kvs : List (Str × V)}, RepKV G w fs kvs → ∃ vs, (fs.map (·.1)).zip vs = kvs ∧ RepL G w (fs.map (·.2)) vs := by
    intro fs
    induction fs with
    | nil => intro kvs h; cases kvs with
      | nil => exact ⟨[], rfl, by simp [RepL]⟩
      | cons _ _ => simp [RepKV] at h
    | cons p fs ih =>
      intro kvs h
      obtain ⟨v, y, rfl, h1, h2⟩ := h
      obtain ⟨vs, e1, e2⟩ := ih h2
      exact ⟨v :: vs, by simp [e1], by simp only [List.map_cons, RepL]; exact ⟨v, vs, rfl, h1, e2⟩⟩
  rcases hf with ⟨hf, hd0⟩ | ⟨d, kvs, e1, e2, nd, rk⟩
  · exact ⟨a, Ca, dx, [], rfl, m, ⟨upd_same, nm⟩, by simp, .inl ⟨by rw [hf]; rfl, hd0⟩, by rw [hf]; simp [RepL]⟩
  · obtain ⟨vs, q1, q2⟩ := cut rk
    have ne : d ≠ a := fun q => by rw [q, na] at e2; cases e2
    exact ⟨a, Ca, dx, vs, rfl, m, ⟨upd_same, nm⟩, by simp, .inr ⟨d, e1, by rw [q1]; exact (upd_ne ne).trans e2, (x1.keepM noT e2 nd).2⟩, RepL.mono x1 _ _ q2⟩

def pastS (nm : Option Nat) (τ : L2.St) : L2.St := match nm with
  | none => τ
  | some i => τ.set i none
section
variable {G : GC} {X : Cx} {Wx : WX} {pos : Pos}
theorem suite_reads {w : Wd} {env : EnvD} {σ : L2.St} {D : Ends} {l : SR} {nm : Option Nat} (h : PostS G w (l.past nm) D Wx) :
    PostS G w l { nx := fun τ H => D.nx (pastS nm τ) H, rt := D.rt, bk := fun τ H => D.bk (pastS nm τ) H, ct := fun τ H => D.ct (pastS nm τ) H } WF := by
  cases l with
  | nx env' S' => cases nm with
    | none => exact fun τ w' x e s er => h τ w' x e s er
    | some i => exact fun τ w' x e s er => h (τ.set i none) w' x e s (er.unset i)
  | ret d S' => cases nm <;> exact fun v w' x e s r => h v w' x e s r
  | brk env' S' => cases nm with
    | none => exact fun τ w' x e s er => h τ w' x e s er
    | some i => exact fun τ w' x e s er => h (τ.set i none) w' x e s (er.unset i)
  | ct env' S' => cases nm with
    | none => exact fun τ w' x e s er => h τ w' x e s er
    | some i => exact fun τ w' x e s er => h (τ.set i none) w' x e s (er.unset i)
  | exc _ _ _ => cases nm <;> exact h.elim
  | bad => cases nm <;> exact h.elim

theorem ps_hds {body : List Stmt} {h0 : ExceptHandler} {hs : List ExceptHandler} {l : List HdD} {tb : WX → TS} (st : X.stack = X.env :: X.outer) (fr : X.env.frame = some X.env.locals) (hN : X.N.Nodup) (hex : X.ex = []) (tk : Takes X Wx)
    (hb : ∀ (W : WX) (pn : List (Addr × Obj)) (xe : Value → Shared → Prop), Takes (X.tr pn xe) W → PassesOwn (model X.prog X.w) X.A X.env xe → PSs (X.tr pn xe) body (tb W)) (hh : Hds G X (h0 :: hs) l) :
    PS X (.Try body (h0 :: hs) [] [] pos) (fun D σ H => tb (wHds G Wx D l) D σ H) := by
  refine ⟨fun pins s σ H D I h => ?_⟩
  have ok := I.ok
  have frA : X.A.frames = some (X.env :: X.outer) := by rw [ok.frames, st]
  refine wpAny_Try_except ?_
  refine wpAny_mono ((hb (wHds G Wx D l) (X.pn ++ pins) (fun e z => wpAny (model X.prog X.w) X.A (noteFrame e X.env) (fun _ z2 => wpAny (model X.prog X.w) X.A (setFlight e none) (fun _ z3 =>
    wpAny (model X.prog X.w) X.A (handleBy e X.env (h0 :: hs)) (SP X pins D) X.xe z3) X.xe z2) X.xe z) (fun u z xx => ?_) PassesOwn.looking).run [] s σ H D (I.toTry _) h) (fun f z hz => ?_) fun _ _ y => y
  · obtain ⟨a, B, sI, _, σ1, H1, cls, dx, rfl, J0, nb, up, sky, na, os, ag, w, env, e, rfl, sr, er, xr, p⟩ := xx
    have J : Inv X pins σ1 w.H sI := J0.ofTry ok
    have sky' : Sky B (X.env :: X.outer) a (Zc cls dx) X.env.locals z.heap := by rw [← st]; exact sky
    show wpAny (model X.prog X.w) X.A (noteFrame (.ref a) X.env) _ _ _
    refine Sky.land Zc.steady frA fr sky' fun h3 fl3 up3 => ?_
    obtain ⟨⟨Ca, mC, rfl⟩, _⟩ := id xr
    -- a is new
    have nfr : a ∉ frs (X.env :: X.outer) := fun hm => by
      obtain ⟨oe, vs, g, _, d⟩ := fl3.there
      obtain ⟨_, o, g', nf⟩ := fl3.2.2.1.mem hm
      rw [g] at g'; cases g'
      exact nf _ d
    have nI : sI.heap.get? a = none := by
      cases q : sI.heap.get? a with
      | none => rfl
      | some o =>
        have y := nb a o q (by rw [st]; exact nfr)
        rw [fl3.2.1] at y; cases y
    have n0 : X.s_0.heap.get? a = none := by
      cases q : X.s_0.heap.get? a with
      | none => rfl
      | some o =>
        obtain ⟨o', y⟩ := J.base.there a o q (by rw [hex]; simp)
        rw [nI] at y; cases y
    have np : ∀ q ∈ X.pn ++ pins, q.1 ≠ a := fun q hq e => by
      have y := (J.pin q hq).1
      rw [e, nI] at y; cases y
    -- the clauses, one by one, over a growing heap
    have go : ∀ (hs' : List ExceptHandler) (l' : List HdD), Hds G X hs' l' → ∀ (h4 : Heap), FlyingZ B (X.env :: X.outer) a (Zc (.ref Ca) dx) h4 → z.heap.UpToSlots h4 → PostS G w (hdsD l' e env w.S) D Wx →
        wpAny (model X.prog X.w) X.A (handleBy (.ref a) X.env hs') (SP X pins D) X.xe { z with heap := h4 } := by
      intro hs' l' hd
      have step : ∀ {t : Expr} {ans : Value → Option Bool} {b : Bool} {h4 : Heap} {Q : Bool → Shared → Prop} {E : Value → Shared → Prop}, Asks X t ans → ans (.ref Ca) = some b → FlyingZ B (X.env :: X.outer) a (Zc (.ref Ca) dx) h4 → z.heap.UpToSlots h4 →
          (∀ h5, FlyingZ B (X.env :: X.outer) a (Zc (.ref Ca) dx) h5 → z.heap.UpToSlots h5 → Q b { z with heap := h5 }) →
          wpAny (model X.prog X.w) (X.A.mark (some (.ref a))) (eval t X.env) (fun c s1 => wpAny (model X.prog X.w) (X.A.mark (some (.ref a))) (excMatches (.ref a) c) Q E s1) E { z with heap := h4 } := by
        intro t ans b h4 Q E ask an fl4 up4 k
        have J4 : Inv X pins σ1 w.H { z with heap := h4 } := J.landed nb fl4.1 (up.trans up4) os ag
        obtain ⟨oe, vs, g, zz, d⟩ := fl4.there
        have LT : PySem.W.Looks (model X.prog X.w) h4 (typeOf (.ref a)) (.ref Ca) := fun A Q E s kk q => wpAny_typeOf_ref (kk _ _ g) (by rw [zz.1]; exact q)
        refine ask a (.ref Ca) b pins σ1 w.H { z with heap := h4 } Q E (toSuite J4 a) LT an fun h5 kp => k h5 ?_ (up4.trans (Heap.UpToSlots.of_keeps kp))
        obtain ⟨k1, k2, k3, o1, v1, tb, o2, v2, g1, z1, d1, i1, ntb, ne, g2, d2, i2⟩ := fl4
        exact ⟨fun b o q => kp b o (k1 b o q), k2, k3.of_keeps fun b o q _ => ⟨o, kp b o q, rfl⟩, o1, v1, tb, o2, v2, kp _ _ g1, z1, d1, i1, ntb, ne, kp _ _ g2, d2, i2⟩
      -- into a suite
      have enter : ∀ {b : Stmt} {suite : List Stmt} {su : SD} {nm : Option Nat} {env' : EnvD} {τ : L2.St} {h5 : Heap} {s5 : Shared} {Q : Flow → Shared → Prop} {E : Value → Shared → Prop}, (∀ a, PSs (Cx.suiteT X a) (b :: suite) (tS G su WF)) →
          Inv (Cx.suiteT X a) pins τ (upd w.H a (xoH a (.ref Ca) dx)) s5 → ERep G (w.put a (xoH a (.ref Ca) dx)) env' τ → PostS G w ((su env' w.S).past nm) D Wx →
          (∀ f s6, SP (Cx.suiteT X a) pins { nx := fun τ H => D.nx (pastS nm τ) H, rt := D.rt, bk := fun τ H => D.bk (pastS nm τ) H, ct := fun τ H => D.ct (pastS nm τ) H } f s6 → Q f s6) →
          wpAny (model X.prog X.w) (X.A.mark (some (.ref a))) (execs (b :: suite) X.env) Q E s5 := by
        intro b suite su nm env' τ h5 s5 Q E hsu I5 er5 p5 k
        obtain ⟨x1, s1, _⟩ := xcp_rep mC xr sr na
        have q := (hsu a).run pins s5 τ _ _ I5 ⟨w.put a (xoH a (.ref Ca) dx), env', rfl, s1, er5, suite_reads (σ := τ) (env := env') (PostS.shift x1 p5)⟩
        exact wpAny_mono q (fun f s6 y => k f s6 y) fun _ _ y => False.elim y
      induction hd with
      | nil =>
        intro h4 fl4 up4 p4
        refine wpAny_handleBy_nil ?_
        obtain ⟨k1, k2, k3, o1, v1, tb, o2, v2, g1, z1, d1, i1, ntb, ne, g2, d2, i2⟩ := id fl4
        unfold PySem.passOn
        refine wpAny_bind (wpAny_field g1 d1 i1 ?_)
        rw [if_neg (show ¬ ((Value.ref tb == Value.none) = true) from by simp), fr]
        have fin : wpAny (model X.prog X.w) X.A (setFlight (.ref a) (some X.env.locals)) (fun _ z5 => wpAny (model X.prog X.w) X.A (throw (.ref a) : Sem Flow) (SP X pins D) X.xe z5) X.xe { z with heap := h4 } := by
          refine PySem.HandSPX.setFlight_upZ fl4 fun h5 hh5 up5 => wpAny_throw (tk _ _ ?_)
          exact ⟨a, B, sI, pins, σ1, w.H, .ref Ca, dx, rfl, J, nb, (up.trans up4).trans up5, .inr (.inr (by rw [st]; exact hh5)), na, os, ag, p4 _ _ σ1 w (.refl w) rfl sr er xr⟩
        first
          | exact wpAny_bind (wpAny_pure (wpAny_bind fin))
          | exact wpAny_bind fin
      | @bare t b suite pos hs l ys ns su ans ask hy hn hsu r ih =>
        intro h4 fl4 up4 p4
        have p4 : PostS G w (if e.cls ∈ ys then (su env w.S).past none else if e.cls ∈ ns then hdsD l e env w.S else .bad) D Wx := p4
        refine wpAny_handleBy_cons (codeAny_handlers_test ?_) (by intro q; cases q)
        by_cases m : e.cls ∈ ys
        · rw [if_pos m] at p4
          refine step ask (hy _ m Ca mC) fl4 up4 fun h5 fl5 up5 => ?_
          refine codeAny_handlers_suite ?_
          refine PySem.HandSPX.lands_againZ fl5 fun h6 fl6 up6 => ?_
          have J6 : Inv X pins σ1 w.H { z with heap := h6 } := J.landed nb fl6.1 (up.trans (up5.trans up6)) os ag
          obtain ⟨oe, vs, g, zz, d⟩ := fl6.there
          obtain ⟨x1, _, _⟩ := xcp_rep mC xr sr na
          refine enter (nm := none) (h5 := h6) hsu (toSuite (track J6 g zz d na n0 np) a) (er.mono x1) p4 fun f s6 y => ?_
          cases f with
          | next => obtain ⟨σ6, H6, S6, q6⟩ := y; exact ⟨σ6, H6, ofSuite S6 ok, q6⟩
          | brk => obtain ⟨σ6, H6, S6, q6⟩ := y; exact ⟨σ6, H6, ofSuite S6 ok, q6⟩
          | cont => obtain ⟨σ6, H6, S6, q6⟩ := y; exact ⟨σ6, H6, ofSuite S6 ok, q6⟩
          | ret u => obtain ⟨v6, σ6, H6, S6, r6, q6⟩ := y; exact ⟨v6, σ6, H6, ofSuite S6 ok, r6, q6⟩
        · rw [if_neg m] at p4
          by_cases m2 : e.cls ∈ ns
          · rw [if_pos m2] at p4
            refine step ask (hn _ m2 Ca mC) fl4 up4 fun h5 fl5 up5 => ?_
            exact ih h5 fl5 up5 p4
          · rw [if_neg m2] at p4; exact p4.elim
      | @named t n i b suite pos hs l ys ns su ans ask hi hl hy hn hsu r ih =>
        intro h4 fl4 up4 p4
        have p4 : PostS G w (if e.cls ∈ ys then (su (env.set i (some e.d)) w.S).past (some i) else if e.cls ∈ ns then hdsD l e env w.S else .bad) D Wx := p4
        refine wpAny_handleBy_cons (codeAny_handlers_test ?_) (by intro q; cases q)
        by_cases m : e.cls ∈ ys
        · rw [if_pos m] at p4
          refine step ask (hy _ m Ca mC) fl4 up4 fun h5 fl5 up5 => ?_
          refine codeAny_handlers_suite_as ?_
          refine PySem.HandSPX.lands_againZ fl5 fun h6 fl6 up6 => ?_
          have J6 : Inv X pins σ1 w.H { z with heap := h6 } := J.landed nb fl6.1 (up.trans (up5.trans up6)) os ag
          obtain ⟨oe, vs, g, zz, d⟩ := fl6.there
          obtain ⟨x1, _, rx⟩ := xcp_rep mC xr sr na
          refine store_ok (X := Cx.suiteT X a) (v := .ref a) (toSuite (track J6 g zz d na n0 np) a) hN hi (.inl hl) rfl (fun s7 I7 => ?_) (.inr hl)
          have out : ∀ {σ6 : L2.St} {H6 : Hp} {s6 : Shared} {Q : Shared → Prop}, Inv (Cx.suiteT X a) pins σ6 H6 s6 → (∀ s7, Inv X pins (σ6.set i none) H6 s7 → Q s7) →
              wpAny (model X.prog X.w) X.A (do bindName X.env n .none; unbindBehindTheSuite X.env n pos) (fun _ s7 => Q s7) X.xe s6 := fun S6 k => gone_ok (ofSuite S6 ok) hN hi hl k
          refine enter (nm := some i) (h5 := h6) hsu I7 ((er.mono x1).set i rx) p4 fun f s6 y => ?_
          cases f with
          | next => obtain ⟨σ6, H6, S6, q6⟩ := y; exact out S6 fun s7 J7 => ⟨_, _, J7, q6⟩
          | brk => obtain ⟨σ6, H6, S6, q6⟩ := y; exact out S6 fun s7 J7 => ⟨_, _, J7, q6⟩
          | cont => obtain ⟨σ6, H6, S6, q6⟩ := y; exact out S6 fun s7 J7 => ⟨_, _, J7, q6⟩
          | ret u => obtain ⟨v6, σ6, H6, S6, r6, q6⟩ := y; exact out S6 fun s7 J7 => ⟨_, _, _, J7, r6, q6⟩
        · rw [if_neg m] at p4
          by_cases m2 : e.cls ∈ ns
          · rw [if_pos m2] at p4
            refine step ask (hn _ m2 Ca mC) fl4 up4 fun h5 fl5 up5 => ?_
            exact ih h5 fl5 up5 p4
          · rw [if_neg m2] at p4; exact p4.elim
    exact go (h0 :: hs) l hh h3 fl3 up3 p
  · cases f with
    | next => obtain ⟨σ6, H6, S6, q6⟩ := hz; exact wpAny_execs_nil ⟨σ6, H6, S6.ofTry ok, q6⟩
    | brk => obtain ⟨σ6, H6, S6, q6⟩ := hz; exact ⟨σ6, H6, S6.ofTry ok, q6⟩
    | cont => obtain ⟨σ6, H6, S6, q6⟩ := hz; exact ⟨σ6, H6, S6.ofTry ok, q6⟩
    | ret u => obtain ⟨v6, σ6, H6, S6, r6, q6⟩ := hz; exact ⟨v6, σ6, H6, S6.ofTry ok, r6, q6⟩
theorem q_try {body : List Stmt} {h0 : ExceptHandler} {hs : List ExceptHandler} {l : List HdD} {mb : SD} (st : X.stack = X.env :: X.outer) (fr : X.env.frame = some X.env.locals) (hN : X.N.Nodup) (hex : X.ex = []) (tk : Takes X Wx)
    (hb : ∀ (W : WX) (pn : List (Addr × Obj)) (xe : Value → Shared → Prop), Takes (X.tr pn xe) W → PassesOwn (model X.prog X.w) X.A X.env xe → PSs (X.tr pn xe) body (tS G mb W)) (hh : Hds G X (h0 :: hs) l) :
    PS X (.Try body (h0 :: hs) [] [] pos) (tS G (sTry mb l) Wx) := psI (ps_hds st fr hN hex tk hb hh) fun D σ H q => by
  obtain ⟨w, env, rfl, sr, er, p⟩ := q
  refine ⟨w, env, rfl, sr, er, ?_⟩
  unfold sTry at p
  cases hm : mb env w.S with
  | exc e env1 S1 =>
    rw [hm] at p
    intro C dx τ w' x es s' er' xr
    subst es
    exact ⟨w', env1, e, rfl, s', er', xr, PostS.shift x p⟩
  | nx _ _ => rw [hm] at p; exact p
  | ret _ _ => rw [hm] at p; exact p
  | brk _ _ => rw [hm] at p; exact p
  | ct _ _ => rw [hm] at p; exact p
  | bad => rw [hm] at p; exact p
end
end L3
set_option Elab.async false
set_option linter.all false
set_option maxRecDepth 100000
set_option maxHeartbeats 4000000
/-! L6H: raise; isinstance and attributes of a caught exception. -/
namespace L3
open PySem PySem.Spec PyProof.Rows L2

def sRaise0 (c : Str) : SD := fun env S => .exc ⟨c, []⟩ env S
def sRaise1 (c f : Str) (a : ED) : SD := fun env S => (a env S).toS env fun d S1 => .exc ⟨c, [(f, d)]⟩ env S1

/-- an own exception class with an __init__ that stores its one argument -/
structure Xc1 (P : Program) (w : World) (G : GC) (base : Heap) (k : Nat) (c f : Str) (C : Addr) : Prop where
  m : G.mg c = some (.ref C)
  ox : ∃ B n i bm, Oxc G.K C B n i bm
  no : PySem.W.findIn G.K (.ref C) f = some none
  ini : ∃ fI fd ps, PySem.W.findIn G.K (.ref C) "__init__" = some (some (.ref fI)) ∧ PySem.W.typeIn G.K (.ref fI) = some (.type "function") ∧ FnG P w G.K G.mg base k fI fd ps (spI C f) ∧ Binds G.K fd ps []
/-- one without an __init__ -/
structure Xc0 (G : GC) (c : Str) (C : Addr) : Prop where
  m : G.mg c = some (.ref C)
  ex : ∃ B n i bm, ExcBaseFacts B n i bm ∧ PySem.W.excIn G.K C bm n = true
  kp : PySem.W.keepIn G.K (.ref C) = true
  sb : PySem.W.subIn G.K (.ref C) (.type "BaseException") = some true
  ty : PySem.W.typeIn G.K (.ref C) = some (.type "type")

section
variable {G : GC} {X : Cx} {Wx : WX} {pos p : Pos}
theorem q_raise1 {k : Nat} {c f : Str} {C : Addr} {e : Expr} {me : ED} {pr : Pos} (T : Xc1 X.prog X.w G X.base k c f C) (hr : RoomG (k + 1) X.A) (hK : X.K = G.K) (hmg : X.mg = G.mg) (hc : X.calm = true) (tk : Takes X Wx) (hg : Gl X c) (he : PE X e (tE G me Wx))
    (hdb : (c == ("__debug__" : Str)) = false := by decide) (hs : starEach [e] X.env = (false, eval e X.env) :: starEach [] X.env := by rfl) : PS X (.Raise (some (.Call (.Name c p) [e] [] pos)) none pr) (tS G (sRaise1 c f me) Wx) := by
  obtain ⟨B, n, i, bm, ox⟩ := T.ox
  obtain ⟨fI, fd, ps, i1, i2, i3, i4⟩ := T.ini
  rw [← hK] at ox i1 i2 i4
  rw [← hK, ← hmg] at i3
  refine psI (ps_raise hc tk (pmk_one ox i1 i2 i3 hr i4 hg (by rw [hmg]; exact T.m) he hdb hs)) fun D σ H q => ?_
  obtain ⟨w, env, rfl, sr, er, pp⟩ := q
  refine ⟨w, env, rfl, sr, er, (PostS.ofR (Ra := Rep G) er pp).mono (fun y H1 m => ?_) fun _ _ _ h => h⟩
  obtain ⟨w1, d1, rfl, x1, s1, rp1, p1⟩ := m
  intro d nd
  obtain ⟨x2, s2, nm⟩ := new_ext (o := HO.xd [(f, y)]) s1 nd
  exact p1 (.ref C) (some d) σ _ x2 rfl s2 ((er.mono x1).mono x2) ⟨⟨C, T.m, rfl⟩, .inr ⟨d, [(f, y)], rfl, upd_same, nm, ⟨y, [], rfl, Rep.mono x2 _ _ rp1, rfl⟩⟩⟩
theorem q_raise0 {c m : Str} {C : Addr} {j : Nat} {p2 pr : Pos} (T : Xc0 G c C) (hK : X.K = G.K) (hmg : X.mg = G.mg) (hc : X.calm = true) (tk : Takes X Wx) (hg : Gl X c)
    (hdb : (c == ("__debug__" : Str)) = false := by decide) : PS X (.Raise (some (.Call (.Name c p) [.Constant (.str m) j p2] [] pos)) none pr) (tS G (sRaise0 c) Wx) := by
  obtain ⟨B, n, i, bm, F, ex⟩ := T.ex
  refine psI (ps_raise hc tk (pmk_own F (by rw [hK]; exact ex) (by rw [hmg]; exact T.m) (by rw [hK]; exact T.kp) (raises_own (by rw [hK]; exact T.sb) (by rw [hK]; exact T.ty)) hg hdb)) fun D σ H q => ?_
  obtain ⟨w, env, rfl, sr, er, pp⟩ := q
  exact pp (.ref C) none σ w (.refl w) rfl sr er ⟨⟨C, T.m, rfl⟩, .inl ⟨rfl, rfl⟩⟩
end

/-! isinstance -/
structure XcI (K : PySem.W.Frag) (C : Addr) : Prop where
  hga : PySem.W.findIn K (.ref C) "__getattribute__" = some (some (.builtin "BaseException.__getattribute__"))
  hgt : PySem.W.findIn K (.ref C) "__getattr__" = some none
  hsb : PySem.W.subIn K (.ref C) (.type "BaseException") = some true
  hd : PySem.W.hasDictIn K C = true
  ha : PySem.W.findIn K (.ref C) "__class__" = some (some (.builtin "object.__class__"))
  hn : PySem.W.specialIn K (.builtin "object.__class__") "__get__" = some (some (.builtin "getset_descriptor.__get__"))
  ht : PySem.W.takesIn K (.builtin "object.__class__") = some true
  hm : PySem.W.mroIn K C (.type "object") = some true
theorem XcI.kit {K : PySem.W.Frag} {C x : Addr} {ox : Obj} {od : Option Obj} (T : XcI K C) : PySem.W.KitX K (.ref x) (.ref C) (fun h => PySem.W.InstAt h x ox C od) :=
  PySem.W.kitx_exc (by obtain ⟨cd, h, _⟩ := PySem.W.any_some T.hd; rw [h]; rfl) T.hga T.hgt T.hsb T.ha T.hn T.ht T.hm
def isxD (ys ns : List Str) : F1 := fun x S => match x with
  | .xcp c _ _ => if c ∈ ys then .ok (.bl true) S else if c ∈ ns then .ok (.bl false) S else .bad
  | _ => .bad
def ClsE (X : Cx) (t : Expr) (ans : Value → Option Bool) : Prop := ∀ (a C : Addr) (ox : Obj) (od : Option Obj) (b : Bool) (pins : List (Addr × Obj)) (σ : L2.St) (H : Hp) (s : Shared) (Q : Value → Shared → Prop) (E : Value → Shared → Prop),
  Inv X pins σ H s → PySem.W.InstAt s.heap a ox C od → XcI X.K C → ans (.ref C) = some b → (∀ h tk, (∀ c o, s.heap.get? c = some o → h.get? c = some o) → Q (.bool b) { s with heap := h, toks := tk }) →
  wpAny (model X.prog X.w) X.A (eval t X.env) (fun c s1 => wpAny (model X.prog X.w) X.A (call (.builtin "isinstance") [.ref a, c]) Q E s1) E s
section
variable {X : Cx}
theorem at_name {pins : List (Addr × Obj)} {σ : L2.St} {H : Hp} {s : Shared} {x : Str} {c : Value} {p : Pos} {Q E : Value → Shared → Prop} (hc : Names X x c) (I : Inv X pins σ H s) (q : Q c s) : wpAny (model X.prog X.w) X.A (eval (.Name x p) X.env) Q E s := by
  obtain ⟨hg, hd, hm | ⟨hm, hv, hn⟩⟩ := hc
  · exact ld_glob I hg hm q hd
  · exact ld_blt I hg hm hv q hn hd
theorem cls_name {x : Str} {c : Value} {p : Pos} (hc : Names X x c) : ClsE X (.Name x p) (fun cls => PySem.W.kitOne X.K cls c) := by
  intro a C ox od b pins σ H s Q E I J T ans k
  exact at_name hc I (PySem.W.kia_one T.kit I.kIn J ans (fun z => nomatch z) fun tk => k s.heap tk fun _ _ e => e)
theorem inst_keeps {h h' : Heap} {a C : Addr} {ox : Obj} {od : Option Obj} (J : PySem.W.InstAt h a ox C od) (k : ∀ c o, h.get? c = some o → h'.get? c = some o) : PySem.W.InstAt h' a ox C od := by
  obtain ⟨j1, j2, j3, j4⟩ := J
  refine ⟨k _ _ j1, j2, j3, ?_⟩
  revert j4
  cases ox.dict <;> cases od
  · exact fun y => y
  · exact fun y => y
  · exact fun y => y
  · exact fun y => k _ _ y
theorem cls_two {x1 x2 : Str} {c1 c2 : Value} {p1 p2 p : Pos} {kk : Nat} (n1 : Names X x1 c1) (n2 : Names X x2 c2) : ClsE X (.Tuple [.Name x1 p1, .Name x2 p2] kk p) (fun cls => PySem.W.kitAny X.K cls [c1, c2]) := by
  intro a C ox od b pins σ H s Q E I J T ans k
  refine wpAny_Tuple_spliced ?_
  refine Calls.spliced_cons (at_name n1 I (Calls.spliced_cons (at_name n2 I (Calls.spliced_nil ⟨by show 2 ≤ sizeLine; decide, ?_⟩))))
  have kp : ∀ c o, s.heap.get? c = some o → (s.heap.push ({ cls := .type "tuple", data := .seq [c1, c2].toArray } : Obj)).get? c = some o := fun c o e => Heap.get?_push_of_some _ e
  exact PySem.W.kia_tup (s := { s with heap := s.heap.push ({ cls := .type "tuple", data := .seq [c1, c2].toArray } : Obj) }) T.kit (I.kIn.keeps kp) (inst_keeps J kp) (Heap.get?_push_size _ rfl) ans (fun z => nomatch z) fun tk => k _ tk kp
theorem cls_three {x1 x2 x3 : Str} {c1 c2 c3 : Value} {p1 p2 p3 p : Pos} {kk : Nat} (n1 : Names X x1 c1) (n2 : Names X x2 c2) (n3 : Names X x3 c3) : ClsE X (.Tuple [.Name x1 p1, .Name x2 p2, .Name x3 p3] kk p) (fun cls => PySem.W.kitAny X.K cls [c1, c2, c3]) := by
  intro a C ox od b pins σ H s Q E I J T ans k
  refine wpAny_Tuple_spliced ?_
  refine Calls.spliced_cons (at_name n1 I (Calls.spliced_cons (at_name n2 I (Calls.spliced_cons (at_name n3 I (Calls.spliced_nil ⟨by show 3 ≤ sizeLine; decide, ?_⟩))))))
  have kp : ∀ c o, s.heap.get? c = some o → (s.heap.push ({ cls := .type "tuple", data := .seq [c1, c2, c3].toArray } : Obj)).get? c = some o := fun c o e => Heap.get?_push_of_some _ e
  exact PySem.W.kia_tup (s := { s with heap := s.heap.push ({ cls := .type "tuple", data := .seq [c1, c2, c3].toArray } : Obj) }) T.kit (I.kIn.keeps kp) (inst_keeps J kp) (Heap.get?_push_size _ rfl) ans (fun z => nomatch z) fun tk => k _ tk kp
/-- a caught exception's object as it stands -/
theorem xcp_inst {G : GC} {pins : List (Addr × Obj)} {σ : L2.St} {s : Shared} {w : Wd} {c : Str} {ks : List Str} {l : List D} {v : V} (I : Inv X pins σ w.H s) (r : Rep G w (.xcp c ks l) v) :
    ∃ a C ox od, v = .ref a ∧ G.mg c = some (.ref C) ∧ PySem.W.InstAt s.heap a ox C od ∧ (∀ f d, (ks.zip l).lookup f = some d → ∃ oD u x, od = some oD ∧ PySem.W.lookIn f oD = some (some u) ∧ RelV x u ∧ Rep G w d x) := by
  simp only [Rep] at r
  obtain ⟨a, C, dx, vs, rfl, m, ⟨ha, _⟩, hl, hf, rl⟩ := r
  have xo : ObjOk X.prog X.w w.H s.heap a (xoH a (.ref C) dx) := I.hok a _ ha
  obtain ⟨⟨oe, fv, g, z, d⟩, _, _⟩ := xo
  have nc : PySem.W.notCls oe = true := by unfold PySem.W.notCls; rw [d] <;> rfl
  rcases hf with ⟨rfl, rfl⟩ | ⟨dd, rfl, hd, _⟩
  · exact ⟨a, C, oe, none, rfl, m, ⟨g, z.1, nc, by rw [z.2]; trivial⟩, fun f d h => by simp at h⟩
  · have xd : ObjOk X.prog X.w w.H s.heap dd (.xd (ks.zip vs)) := I.hok dd _ hd
    obtain ⟨mA, hns, hr⟩ := xd
    obtain ⟨od, ho, hlk⟩ := lookIn_ns hns
    refine ⟨a, C, oe, some od, rfl, m, ⟨g, z.1, nc, by rw [z.2]; exact ho⟩, fun f d h => ?_⟩
    have key : ∀ (ks : List Str) (l : List D) (vs : List V), ks.length = l.length → RepL G w l vs → (ks.zip l).lookup f = some d → ∃ x, (ks.zip vs).lookup f = some x ∧ Rep G w d x := by
      intro ks
      induction ks with
      | nil => intro l vs _ _ h; simp at h
      | cons k ks ih =>
        intro l vs hl r h
        cases l with
        | nil => simp at hl
        | cons d0 l =>
          simp only [RepL] at r
          obtain ⟨v0, r0, rfl, h1, h2⟩ := r
          simp only [List.zip_cons_cons, List.lookup_cons] at h ⊢
          cases e : f == k with
          | true => rw [e] at h; cases h; exact ⟨v0, rfl, h1⟩
          | false => rw [e] at h; exact ih l r0 (by simpa using hl) h2 h
    obtain ⟨x, e1, e2⟩ := key ks l vs hl rl h
    obtain ⟨u, hu, ru⟩ := RelO.some_of (v := x) (o := mA f) (by rw [← e1]; exact hr f)
    exact ⟨od, u, x, rfl, by rw [hlk, hu], ru, e2⟩
end
section
variable {G : GC} {X : Cx} {Wx : WX} {pos p : Pos}
theorem q_isx {e t : Expr} {me : ED} {ys ns : List Str} {ans : Value → Option Bool} (hK : X.K = G.K) (hg : Gl X "isinstance") (hm : X.mg "isinstance" = none) (he : PE X e (tE G me Wx)) (ct : ClsE X t ans)
    (hy : ∀ c ∈ ys, ∀ C, G.mg c = some (.ref C) → XcI G.K C ∧ ans (.ref C) = some true) (hn : ∀ c ∈ ns, ∀ C, G.mg c = some (.ref C) → XcI G.K C ∧ ans (.ref C) = some false)
    (hs : starEach [e, t] X.env = (false, eval e X.env) :: starEach [t] X.env := by rfl) (hs2 : starEach [t] X.env = (false, eval t X.env) :: starEach [] X.env := by rfl) (hpl : (backTo pos (starEach [t] X.env)).any (·.1) = false := by rfl) :
    PE X (.Call (.Name "isinstance" p) [e, t] [] pos) (tE G (e1 (isxD ys ns) me) Wx) := by
  refine ⟨fun pins s σ H Q I q => ?_⟩
  obtain ⟨w, env, rfl, sr, er, pp⟩ := q
  refine wpAny_Call_Name_kw (ld_blt I hg hm PyProof.Rows.Boot.«isinstance» ?_ (by decide) (by decide))
  refine PyProof.Rows.callWith_builtin1 ?_ hs hpl
  rw [hs]
  show wpAny _ _ (spliced ((false, eval e X.env) :: backTo pos (starEach [t] X.env))) _ _ s
  refine Calls.spliced_cons (thn (he.run pins s σ w.H _ I ⟨w, env, rfl, sr, er, Post.bind pp⟩) fun u s1 ⟨x, H1, I1, rx, q1⟩ => ?_)
  obtain ⟨w1, d1, rfl, x1, s1', rp1, p1⟩ := q1
  unfold isxD at p1
  split at p1
  · rename_i c ks l
    obtain ⟨a, C, ox, od, rfl, m, J, _⟩ := xcp_inst I1 rp1
    cases rx
    rw [hs2]
    show wpAny _ _ (spliced ((false, eval t X.env) :: backTo pos (starEach [] X.env))) _ _ s1
    have fin : ∀ b, XcI G.K C ∧ ans (.ref C) = some b → Post G w1 (.ok (.bl b) w1.S) (Rep G) Q (fun C dx H' => Wx C dx σ H') → wpAny (model X.prog X.w) X.A (spliced ((false, eval t X.env) :: backTo pos (starEach [] X.env))) (fun vs s2 => wpAny (model X.prog X.w) X.A (call (.builtin "isinstance") (.ref a :: vs)) (EP X pins σ Q) X.xe s2) X.xe s1 := fun b hb pb =>
      Calls.spliced_cons (wpAny_mono (ct a C ox od b pins σ w1.H s1 (EP X pins σ Q) X.xe I1 J (by rw [hK]; exact hb.1) hb.2 fun h tk kp => ⟨.bl b, w1.H, I1.kept (t' := tk) kp, rfl, Post.ret s1' (by simp [Rep]) pb⟩) (fun c s2 y => Calls.spliced_nil y) fun _ _ y => y)
    split at p1
    · rename_i hy'
      exact fin true (hy c hy' C m) p1
    · split at p1
      · rename_i hn'
        exact fin false (hn c hn' C m) p1
      · exact p1.elim
  · exact p1.elim
/-- e.f of a caught exception -/
def xfD (cs : List Str) (f : Str) : F1 := fun x S => match x with
  | .xcp c ks l => if c ∈ cs then (match (ks.zip l).lookup f with
    | some d => .ok d S
    | none => .bad) else .bad
  | _ => .bad
theorem q_xf {e : Expr} {me : ED} {cs : List Str} {f : Str} (hK : X.K = G.K) (he : PE X e (tE G me Wx)) (hc : ∀ c ∈ cs, ∀ C, G.mg c = some (.ref C) → XcI G.K C ∧ PySem.W.findIn G.K (.ref C) f = some none)
    (hb : attributeBase e f X.env (eval e X.env) = eval e X.env := by rfl) : PE X (.Attribute e f pos) (tE G (e1 (xfD cs f) me) Wx) := by
  refine ⟨fun pins s σ H Q I q => ?_⟩
  obtain ⟨w, env, rfl, sr, er, pp⟩ := q
  refine attr_of hb (thn (he.run pins s σ w.H _ I ⟨w, env, rfl, sr, er, Post.bind pp⟩) fun u s1 ⟨x, H1, I1, rx, q1⟩ => ?_)
  obtain ⟨w1, d1, rfl, x1, s1', rp1, p1⟩ := q1
  unfold xfD at p1
  split at p1
  · rename_i c ks l
    obtain ⟨a, C, ox, od, rfl, m, J, fl⟩ := xcp_inst I1 rp1
    cases rx
    split at p1
    · rename_i hc'
      obtain ⟨T, no⟩ := hc c hc' C m
      rw [← hK] at T no
      cases hl : (ks.zip l).lookup f with
      | none => rw [hl] at p1; exact p1.elim
      | some d =>
        rw [hl] at p1
        obtain ⟨oD, u, y, rfl, l1, ry, r2⟩ := fl f d hl
        exact PySem.HandSPX.exc_get I1.kIn J T.hga T.hgt T.hsb (PySem.W.findObj_own T.hd no rfl l1) (handed_of ry) ⟨y, w1.H, I1.tok _, ry, Post.ret s1' r2 p1⟩
    · exact p1.elim
  · exact p1.elim
end
end L3
set_option Elab.async false
set_option linter.all false
set_option maxRecDepth 100000
set_option maxHeartbeats 4000000
/-! L6I: what the written part tells of exception classes. -/
namespace L3
open PySem PySem.Spec PyProof.Rows L2
/-- a class that clauses and isinstance name -/
structure XcD (K : PySem.W.Frag) (D : Addr) : Prop where
  sb : PySem.W.subIn K (.ref D) (.type "BaseException") = some true
  hd : PySem.W.hasDictIn K D = true
  ty : PySem.W.typeIn K (.ref D) = some (.type "type")
section
variable {K : PySem.W.Frag} {D C : Addr} {b b1 b2 b3 : Bool} {t c c1 c2 c3 : Value}
theorem exm_own (T : XcD K D) (h : PySem.W.subIn K t (.ref D) = some b) : PySem.W.exmOne K t (.ref D) = some b := by
  obtain ⟨cd, hc, _⟩ := PySem.W.any_some T.hd
  unfold PySem.W.exmOne PySem.W.kitCls
  simp only [T.sb, hc, T.ty]
  simpa using h
theorem exm_two (h1 : PySem.W.exmOne K t c1 = some b1) (h2 : PySem.W.exmOne K t c2 = some b2) : PySem.W.exmAny K t [c1, c2] = some (b1 || b2) := by
  simp [PySem.W.exmAny, h1, h2]
theorem exm_three (h1 : PySem.W.exmOne K t c1 = some b1) (h2 : PySem.W.exmOne K t c2 = some b2) (h3 : PySem.W.exmOne K t c3 = some b3) : PySem.W.exmAny K t [c1, c2, c3] = some (b1 || (b2 || b3)) := by
  simp [PySem.W.exmAny, h1, h2, h3]
theorem kit_own (T : XcD K D) (self : PySem.W.subIn K (.ref C) (.ref C) = some true) (h : PySem.W.subIn K (.ref C) (.ref D) = some b) : PySem.W.kitOne K (.ref C) (.ref D) = some b := by
  unfold PySem.W.kitOne
  by_cases e : C = D
  · subst e
    rw [self] at h; cases h
    simp
  · rw [if_neg (by simp [e])]
    obtain ⟨cd, hc, _⟩ := PySem.W.any_some T.hd
    unfold PySem.W.kitCls
    simp only [hc, T.ty]
    simpa using h
theorem kit_blt {T : String} (m : PySem.W.kitMeta T = true) (h : PySem.W.subIn K (.ref C) (.type T) = some b) : PySem.W.kitOne K (.ref C) (.type T) = some b := by
  unfold PySem.W.kitOne
  rw [if_neg (by simp)]
  unfold PySem.W.kitCls
  simp only [m, if_true]
  exact h
theorem kit_two (h1 : PySem.W.kitOne K t c1 = some b1) (h2 : PySem.W.kitOne K t c2 = some b2) : PySem.W.kitAny K t [c1, c2] = some (b1 || b2) := by
  unfold PySem.W.kitAny PySem.W.kitAny PySem.W.kitAny
  rw [h1, h2]
  cases b1 <;> cases b2 <;> rfl
theorem kit_three (h1 : PySem.W.kitOne K t c1 = some b1) (h2 : PySem.W.kitOne K t c2 = some b2) (h3 : PySem.W.kitOne K t c3 = some b3) : PySem.W.kitAny K t [c1, c2, c3] = some (b1 || (b2 || b3)) := by
  unfold PySem.W.kitAny PySem.W.kitAny PySem.W.kitAny PySem.W.kitAny
  rw [h1, h2, h3]
  cases b1 <;> cases b2 <;> cases b3 <;> rfl
end
section
variable {G : GC} {P : Addr → Prop} {c : Str} {cs : List Str} {C : Addr}
theorem ym_nil : ∀ c ∈ ([] : List Str), ∀ C, G.mg c = some (.ref C) → P C := fun _ h => nomatch h
theorem ym_cons (m : G.mg c = some (.ref C)) (p : P C) (r : ∀ c ∈ cs, ∀ C, G.mg c = some (.ref C) → P C) : ∀ c' ∈ c :: cs, ∀ C, G.mg c' = some (.ref C) → P C := fun c' h C' m' => by
  rcases List.mem_cons.mp h with rfl | h
  · rw [m] at m'; cases m'; exact p
  · exact r c' h C' m'
end
theorem takesF {X : Cx} : Takes X WF := fun _ _ x => by
  obtain ⟨_, _, _, _, _, _, _, _, _, _, _, _, _, _, _, _, z⟩ := x
  exact z.elim
/-- an __init__ that stores its one argument -/
theorem init_ok {P : Program} {w : World} {K : PySem.W.Frag} {mg : Str → Option Value} {base : Heap} {x qual f : Str} {params : Arguments} {body : List Stmt} {scope : Scope} {dvs : List V} {kws : List (Str × V)} {fI C : Addr} {fd : FuncData} {N ps : List Str}
    (F : FunD K x qual params body scope dvs kws fI fd) (Sc : FnScope N ps scope) (hp : ps.length = 2)
    (run : ∀ (cdv : Value) (A : Around) (outer : List Env) (s : Shared) (H : Hp) (E : XK), PSs (cxOf (L2.CX P w) P w K mg base N qual scope fI cdv A outer s H E) body (tSto K C f (tVar 0) (tVar 1))) : FnG P w K mg base 1 fI fd ps (spI C f) :=
  FnG.of_def F Sc (fun vs H Q E h => by obtain ⟨a, y, rfl, _⟩ := h; exact hp.symm) fun cdv A outer s H vs Q E _ h => ⟨_, run cdv A outer s H E, by
    obtain ⟨a, y, rfl, h1, h2⟩ := h
    exact ⟨y, rfl, .ref a, rfl, a, rfl, h1, h2⟩⟩
end L3
set_option Elab.async false
set_option linter.all false
set_option maxRecDepth 100000
set_option maxHeartbeats 4000000
/-! L7A: sorted of alike data, empty tuples among them where the first one is empty. -/
namespace L3
open PySem PySem.Spec PyProof.Rows L2
open PySem.W (SortsAt AllAlike Sortable dataKind dataKind_some dataKind_inv)
section
variable {prog : Program} {w : World} {A : Around} {E : Value → Shared → Prop} {s : Shared}
theorem call_tup_lt {Q : Value → Shared → Prop} {l b : Addr} {xs ys : Array Value} {e r : Nat → Bool} (hl : s.heap.IsTuple l xs) (hb : s.heap.IsTuple b ys)
    (he : ∀ j (h1 : j < xs.size) (h2 : j < ys.size), SeqAt.EqAt A.in1 s xs[j] ys[j] (e j)) (hr : ∀ j (h1 : j < xs.size) (h2 : j < ys.size), e j = false → SeqAt.RcLt A.in1 s xs[j] ys[j] (r j))
    (h : Q (.bool (SeqAt.firstLt e r (decide (xs.size < ys.size)) (List.range (min xs.size ys.size)))) s) : wpAny (model prog w) A (call (.builtin "tuple.__lt__") [.ref l, .ref b]) Q E s := by
  obtain ⟨⟨c1, d1, a1, s1⟩, g1, t1, n1, k1⟩ := id hl
  obtain ⟨⟨c2, d2, a2, s2⟩, g2, t2, n2, k2⟩ := id hb
  dsimp only at t1 k1 t2 k2
  subst t1 k1 t2 k2
  exact call_meets F.slot_tuple_lt ⟨_, g1, rfl⟩ F.entry_tuple_lt (F.args_tuple_lt_2 _ _) (SeqAt.tuple_ltAt l b xs ys n1 n2 d1 d2 s1 s2 e r) ⟨g1, g2, he, hr, h⟩
theorem oneLt_tup {xs ys : List PyData} {a b : Value} {as bs : List Addr} {Q : Bool → Shared → Prop} (ra : Reads s.heap a (.tuple xs) as) (rb : Reads s.heap b (.tuple ys) bs) (hal : PySem.W.alikeAll xs ys = true)
    (hu : A.units + min (PyData.tuple xs).depth (PyData.tuple ys).depth < cLine) (hq : Q (PySem.W.dataLt (.tuple xs) (.tuple ys)) s) : wpAny (model prog w) A (oneLt' true a b) Q E s := by
  cases ra with
  | @tuple l o vs n _ _ g1 t1 k1 r1 =>
    cases rb with
    | @tuple l' o' vs' n' _ _ g2 t2 k2 r2 =>
      have z1 : vs.size = xs.length := by simpa using SeqAt.ReadsAll.length _ _ _ r1
      have z2 : vs'.size = ys.length := by simpa using SeqAt.ReadsAll.length _ _ _ r2
      rw [PySem.W.dataLt_tuple, ← PySem.W.firstLt_toks xs ys hal, ← z1, ← z2] at hq
      rw [oneLt'_eq]
      simp only [if_true]
      refine wpAny_bind (wpAny_cRoomFor (SeqAt.room_here hu) ?_)
      refine wpAny_bind (wpAny_callSpecialIfBound?_slot (T := "tuple") ⟨_, g1, t1⟩ F.slot_tuple_lt (call_tup_lt (e := SeqAt.pairEq xs ys) (r := fun j => PySem.W.dataLt (xs.getD j .none) (ys.getD j .none)) ⟨_, g1, t1, _, k1⟩ ⟨_, g2, t2, _, k2⟩ (fun j j1 j2 => ?_) (fun j j1 j2 hj => ?_) ?_))
      · have q := PySem.W.eqAt_alikeAll xs ys A.in1 s vs.toList vs'.toList _ _ r1 r2 hal (SeqAt.room_in hu) j (by simpa using j1) (by simpa using j2)
        simpa using q
      · have q := PySem.W.rcLt_alikeAll xs ys A.in1 s vs.toList vs'.toList _ _ r1 r2 hal (SeqAt.room_in hu) j (by simpa using j1) (by simpa using j2) hj
        simpa using q
      · exact wpAny_truthy_bool hq
/-- all are tuples, the first one empty: compared as one type -/
theorem kind_empty {M : Model} {v0 : Value} {vs : List Value} {ds : List PyData} {as : List Addr} {Q : SortKind → Shared → Prop} (r0 : Reads s.heap v0 (.tuple []) as) (e : PySem.W.EachIs (fun v d => ∃ as, Reads s.heap v d as) vs ds) (ht : ∀ d ∈ ds, ∃ xs, d = .tuple xs) (h2 : 1 ≤ vs.length)
    (h : Q oneType' s) : wpAny M A (keyKind' (v0 :: vs).toArray) Q E s := by
  have first : ∀ {v : Value} {xs : List PyData} {as : List Addr} {Q' : Option Value → Shared → Prop}, Reads s.heap v (.tuple xs) as → (∀ o, (xs = [] → o = none) → Q' o s) → wpAny M A (firstOfTuple' v) Q' E s := fun {v xs as Q'} r q => by
    cases r with
    | @tuple a o its n _ _ g t k r =>
      rw [PySem.W.kas_first_eq]
      have lk : PySem.W.Looks M s.heap (typeOf (.ref a)) (.type "tuple") := t ▸ (PySem.W.Looks.ld g).andThen .now
      refine wpAny_bind (lk.here ?_)
      rw [if_neg (by decide)]
      refine wpAny_bind (PyProof.Rows.listItems_at g k (wpAny_pure (q _ fun z => ?_)))
      subst z
      have := SeqAt.ReadsAll.length _ _ _ r
      simp only [List.length_nil, Array.length_toList] at this
      simp [this]
  have rest : ∀ {vs : List Value} {ds : List PyData} {Q' : List (Option Value) → Shared → Prop}, PySem.W.EachIs (fun v d => ∃ as, Reads s.heap v d as) vs ds → (∀ d ∈ ds, ∃ xs, d = .tuple xs) → (∀ os : List (Option Value), Q' os s) → wpAny M A (vs.mapM firstOfTuple') Q' E s := by
    intro vs ds Q' e
    induction e generalizing Q' with
    | nil => intro _ q; rw [List.mapM_nil]; exact wpAny_pure (q [])
    | @cons v d vs ds r t ih =>
      intro ht q
      obtain ⟨as, r⟩ := r
      obtain ⟨xs, rfl⟩ := ht d (List.mem_cons_self ..)
      rw [List.mapM_cons]
      exact wpAny_bind (first r fun o _ => wpAny_bind (ih (fun d hd => ht d (List.mem_cons_of_mem _ hd)) fun os => wpAny_pure (q (o :: os))))
  have types : ∀ v ∈ v0 :: vs, PySem.W.Looks M s.heap (typeOf v) (.type "tuple") := fun v hv => by
    have one : ∀ {v : Value} {xs : List PyData} {as : List Addr}, Reads s.heap v (.tuple xs) as → PySem.W.Looks M s.heap (typeOf v) (.type "tuple") := fun r => PySem.W.looks_reads r
    rcases List.mem_cons.mp hv with rfl | hv
    · exact one r0
    · obtain ⟨d, hd, as, r⟩ := e.left v hv
      obtain ⟨xs, rfl⟩ := ht d hd
      exact one r
  rw [keyKind'_eq, List.mapM_toArray, map_eq_pure_bind]
  refine wpAny_bind (wpAny_bind ?_)
  rw [List.mapM_cons]
  refine wpAny_bind (first r0 fun o ho => ?_)
  obtain rfl := ho rfl
  refine wpAny_bind (rest e ht fun os => wpAny_pure (wpAny_pure ?_))
  rw [if_neg (by simp), if_neg (by simp)]
  rw [oneTypeOnly'_eq, List.mapM_toArray, map_eq_pure_bind]
  refine wpAny_bind (wpAny_bind (wpAny_bind (PySem.W.kas_mapM (r := Value.type "tuple") _ (fun v hv Q' q => (types v hv).here q) (wpAny_pure ?_))))
  have al : ((List.map (fun _ => Value.type "tuple") (v0 :: vs)).toArray.all fun x => x == Value.type "tuple") = true := by
    simp only [List.all_toArray, List.all_map, List.all_eq_true]
    intro _ _
    exact beq_self_eq_true _
  have a0 : (List.map (fun _ => Value.type "tuple") (v0 :: vs)).toArray[0]? = some (Value.type "tuple") := by simp
  rw [a0]
  simp only [al, if_true]
  exact wpAny_pure (wpAny_pure h)
/-- as SortsAt.data, where the first one is the empty tuple and all are tuples -/
theorem sorts_empty {vs : List Value} {ds : List PyData} (e : PySem.W.EachIs (fun v d => ∃ as, Reads s.heap v d as) vs ds) (hal : AllAlike ds) (h0 : ds.head? = some (.tuple [])) (ht : ∀ d ∈ ds, ∃ xs, d = .tuple xs) (hu : ∀ d, d ∈ ds → A.units + d.depth < cLine) : SortsAt prog w A s (dataKind s.heap ds) vs := by
  refine ⟨fun v hv => ?_, oneType', ?_, fun h2 E Q hq => ?_⟩
  · obtain ⟨d, hd, as, r⟩ := e.left v hv
    exact ⟨_, dataKind_some hal hd r⟩
  · intro E x y a b Q ha hb hq
    obtain ⟨d, as, hd, ra, rfl⟩ := dataKind_inv ha
    obtain ⟨d', as', hd', rb, rfl⟩ := dataKind_inv hb
    obtain ⟨xs, rfl⟩ := ht d hd
    obtain ⟨ys, rfl⟩ := ht d' hd'
    rw [keyLt'_oneType]
    exact oneLt_tup ra rb (by simpa [PySem.W.alike] using hal _ hd _ hd') (Nat.lt_of_le_of_lt (Nat.add_le_add_left (Nat.min_le_left _ _) _) (hu _ hd)) hq
  · cases e with
    | nil => exact absurd h2 (by simp)
    | @cons v d vs ds r t =>
      obtain ⟨as, r⟩ := r
      simp only [List.head?_cons, Option.some.injEq] at h0
      subst h0
      exact kind_empty r t (fun d hd => ht d (List.mem_cons_of_mem _ hd)) (by simpa using h2) hq
end
end L3
set_option Elab.async false
set_option linter.all false
set_option maxRecDepth 100000
set_option maxHeartbeats 4000000
/-! L7B: sorted(list). -/
namespace L3
open PySem PySem.Spec PyProof.Rows L2
open PySem.W (SortsAt AllAlike Sortable dataKind EachIs)
def encD (d : D) : PyData := (toPy d).getD .none
def srtLe (a b : D) : Bool := !PySem.W.dataLt (encD b) (encD a)
def isTupP : PyData → Bool
  | .tuple _ => true
  | _ => false
def isTup1 : PyData → Bool
  | .tuple (_ :: _) => true
  | _ => false
def isOther : PyData → Bool
  | .tuple _ => false
  | .none => false
  | _ => true
def isTup0 : Option PyData → Bool
  | some (.tuple []) => true
  | _ => false
def sortOk (l : List D) : Bool := decide (l.length ≤ sizeLine) && (l.all fun d => (toPy d).isSome && decide ((encD d).depth ≤ 40)) && (l.all fun a => l.all fun b => PySem.W.alike (encD a) (encD b)) &&
  ((l.all fun d => isTup1 (encD d)) || (l.all fun d => isOther (encD d)) || (isTup0 (l.head?.map encD) && l.all fun d => isTupP (encD d)))
def sortL (l : List D) : List D := l.mergeSort srtLe
/-- what sorted walks -/
def srtAt (x : D) (S : Store) : Option (List D) := match x with
  | .tup _ => none
  | x => asL x S
def sortedD : FN := fun xs S => match xs with
  | [x] => match asL x S with
    | some l => if sortOk l = true then .ok (.lst (sortL l)) S else .bad
    | none => .bad
  | _ => .bad
theorem c_sorted : CalmN sortedD := fun xs S => by unfold sortedD; repeat' split
                                                   all_goals trivial
section
variable {G : GC} {X : Cx} {w : Wd}
theorem each_rep {pins : List (Addr × Obj)} {σ : L2.St} {s : Shared} (hK : X.K = G.K) (I : Inv X pins σ w.H s) : ∀ {l : List D} {vs : List V} {us : List Value}, RepL G w l vs → Vals vs us → (∀ d ∈ l, (toPy d).isSome = true) →
    EachIs (fun u d => ∃ x, RelV x u ∧ Rep G w d x) us l ∧ EachIs (fun u d => ∃ as, Reads s.heap u (encD d) as) us l
  | [], vs, us, r, v, _ => by
    simp only [RepL] at r
    subst r
    cases v
    exact ⟨.nil, .nil⟩
  | d :: l, vs, us, r, v, h => by
    simp only [RepL] at r
    obtain ⟨x, r', rfl, r1, r2⟩ := r
    cases v with
    | cons rx rv =>
      obtain ⟨e1, e2⟩ := each_rep hK I r2 rv fun d hd => h d (List.mem_cons_of_mem _ hd)
      obtain ⟨y, hy⟩ := Option.isSome_iff_exists.mp (h d (List.mem_cons_self ..))
      obtain ⟨p1, _⟩ := dp_of d x y r1 hy
      rw [← hK] at p1
      obtain ⟨as, q⟩ := Dp.reads I y x _ p1 rx
      exact ⟨.cons ⟨x, rx, r1⟩ e1, .cons ⟨as, by unfold encD; rw [hy]; exact q⟩ e2⟩
theorem rep_each : ∀ {l : List D} {us : List Value}, EachIs (fun u d => ∃ x, RelV x u ∧ Rep G w d x) us l → ∃ vs, Vals vs us ∧ RepL G w l vs
  | _, _, .nil => ⟨[], .nil, by simp [RepL]⟩
  | _, _, .cons ⟨x, rx, r1⟩ t => by
    obtain ⟨vs, v, r⟩ := rep_each t
    exact ⟨x :: vs, .cons rx v, by simp only [RepL]; exact ⟨x, vs, rfl, r1, r⟩⟩
theorem sort_kind {prog : Program} {ww : World} {A : Around} {s : Shared} {us : List Value} {l : List D} (h : sortOk l = true) (e : EachIs (fun u d => ∃ as, Reads s.heap u (encD d) as) us l) (hu : A.units + 42 < cLine) : SortsAt prog ww A s (dataKind s.heap (l.map encD)) us := by
  simp only [sortOk, Bool.and_eq_true, List.all_eq_true, decide_eq_true_eq, Bool.or_eq_true] at h
  obtain ⟨⟨⟨_, h1⟩, h2⟩, h3⟩ := h
  have al : AllAlike (l.map encD) := fun x hx y hy => by
    obtain ⟨a, ha, rfl⟩ := List.mem_map.mp hx
    obtain ⟨b, hb, rfl⟩ := List.mem_map.mp hy
    exact h2 a ha b hb
  have dep : ∀ d ∈ l.map encD, A.units + d.depth < cLine := fun x hx => by
    obtain ⟨a, ha, rfl⟩ := List.mem_map.mp hx
    have := (h1 a ha).2
    omega
  have e' := PySem.W.each_map (R := fun u d => ∃ as, Reads s.heap u d as) encD e
  rcases h3 with (h3 | h3) | ⟨h3, h4⟩
  · refine SortsAt.data e' al (.inl fun x hx => ?_) dep
    obtain ⟨a, ha, rfl⟩ := List.mem_map.mp hx
    have := h3 a ha
    revert this
    cases encD a with
    | tuple xs => cases xs with
      | nil => intro h; simp [isTup1] at h
      | cons x r => exact fun _ => ⟨x, r, rfl⟩
    | _ => intro h; simp [isTup1] at h
  · refine SortsAt.data e' al (.inr fun x hx => ?_) dep
    obtain ⟨a, ha, rfl⟩ := List.mem_map.mp hx
    have := h3 a ha
    revert this
    cases encD a with
    | tuple xs => intro h; simp [isOther] at h
    | none => intro h; simp [isOther] at h
    | _ => exact fun _ => ⟨by simp, by simp⟩
  · refine sorts_empty e' al ?_ (fun x hx => ?_) dep
    · rw [List.head?_map]
      revert h3
      cases l.head?.map encD with
      | none => intro h; simp [isTup0] at h
      | some x => cases x with
        | tuple xs => cases xs with
          | nil => exact fun _ => rfl
          | cons _ _ => intro h; simp [isTup0] at h
        | _ => intro h; simp [isTup0] at h
    · obtain ⟨a, ha, rfl⟩ := List.mem_map.mp hx
      have := h4 a ha
      revert this
      cases encD a with
      | tuple xs => exact fun _ => ⟨xs, rfl⟩
      | _ => intro h; simp [isTupP] at h
theorem o_sorted (hK : X.K = G.K) (hu : X.A.units + 65 < cLine) : CallR X (.builtin "sorted") (rN G sortedD) := by
  intro pins s σ H xs us Q I r q
  obtain ⟨w, ds, rfl, sr, rl, p⟩ := q
  unfold sortedD at p
  split at p
  · rename_i x
    split at p
    · rename_i l hl
      split at p
      · rename_i ok
        simp only [RepL] at rl
        obtain ⟨v, r', rfl, r1, rfl⟩ := rl
        obtain ⟨a, vs, rfl, h1, r2⟩ := asL_rep sr r1 hl
        cases r with
        | cons rx rr =>
          cases rr
          cases rx
          obtain ⟨its, rv, pl, _⟩ := I.list (SqL.of h1)
          have ok' := ok
          simp only [sortOk, Bool.and_eq_true, List.all_eq_true, decide_eq_true_eq] at ok'
          obtain ⟨e1, e2⟩ := each_rep hK I r2 rv fun d hd => (ok'.1.1.2 d hd).1
          have hz : its.length ≤ sizeLine := by rw [e1.length]; exact ok'.1.1.1
          have e3 : EachIs (fun u d => ∃ as, Reads (PySem.W.sortingHeap (PySem.W.copyHeap s.heap its) (s.heap.objs.size + 1) its) u (encD d) as) its l := e2.mono fun _ _ ⟨as, r⟩ => ⟨as, PyProof.Rows.Reads.keeps (fun _ _ => PySem.W.sorting_copy_old) r⟩
          have al : AllAlike (l.map encD) := fun x hx y hy => by
            obtain ⟨a, ha, rfl⟩ := List.mem_map.mp hx
            obtain ⟨b, hb, rfl⟩ := List.mem_map.mp hy
            exact ok'.1.2 a ha b hb
          refine PySem.W.sorted_vals pl.isList (sort_kind (s := { s with heap := PySem.W.sortingHeap (PySem.W.copyHeap s.heap its) (s.heap.objs.size + 1) its }) ok e3 (by show X.A.units + 2 + 42 < cLine; omega)) hz ?_
          have out := PySem.W.sortVals_data (R := fun u d => ∃ x, RelV x u ∧ Rep G w d x) false e1 e3 al
          have le : PySem.W.dataLe false encD = srtLe := by
            funext a b
            rw [PySem.W.dataLe_eq]
            rfl
          rw [le] at out
          obtain ⟨vs', v1, v2⟩ := rep_each out
          obtain ⟨ep, g⟩ := sortedAll_at s.heap its (PySem.W.sortVals (dataKind (PySem.W.sortingHeap (PySem.W.copyHeap s.heap its) (s.heap.objs.size + 1) its) (l.map encD)) false its its).toArray
          have nl : vs'.length ≤ sizeLine := by
            rw [v2.length]
            have : (l.mergeSort srtLe).length = l.length := List.length_mergeSort _
            rw [this]
            exact ok'.1.1.1
          refine ⟨.ref (s.heap.objs.size + 1), upd w.H (s.heap.objs.size + 1) (.lst vs'), I.laid (t' := s.toks) (fun b o e => sortedAll_old e) (Nat.le_succ _) ⟨nl, _, ep, v1, g⟩, rfl, ?_⟩
          exact new_lst (S := w.S) sr v2 p _ (I.hok.fresh (Nat.le_succ _))
      · exact p.elim
    · exact p.elim
  · exact p.elim
end
end L3
set_option Elab.async false
set_option linter.all false
set_option maxRecDepth 100000
/-! L8B: keywords that leave a default. -/
namespace L3
open PySem PySem.Spec PyProof.Rows L2
/-- from where each parameter comes: the positional values (0), the defaults (1), the keywords' (2) -/
def gat3 {α : Type} (src : List (Nat × Nat)) (us ms ws : List α) : List α := src.filterMap fun p => (match p.1 with
  | 0 => us
  | 1 => ms
  | _ => ws)[p.2]?
theorem vals_at : ∀ {vs : List V} {us : List Value}, Vals vs us → ∀ i : Nat, (∃ v u, vs[i]? = some v ∧ us[i]? = some u ∧ RelV v u) ∨ (vs[i]? = none ∧ us[i]? = none)
  | _, _, .nil, i => .inr ⟨rfl, rfl⟩
  | _, _, .cons h t, 0 => .inl ⟨_, _, rfl, rfl, h⟩
  | _, _, .cons h t, i + 1 => by simpa using vals_at t i
theorem reps_at {G : GC} {w : Wd} : ∀ {ds : List D} {vs : List V}, RepL G w ds vs → ∀ i : Nat, (∃ d v, ds[i]? = some d ∧ vs[i]? = some v ∧ Rep G w d v) ∨ (ds[i]? = none ∧ vs[i]? = none)
  | [], vs, h, i => by simp only [RepL] at h; subst h; exact .inr ⟨rfl, rfl⟩
  | d :: ds, vs, h, i => by
    simp only [RepL] at h
    obtain ⟨v, r, rfl, h1, h2⟩ := h
    cases i with
    | zero => exact .inl ⟨_, _, rfl, rfl, h1⟩
    | succ i => simpa using reps_at h2 i
theorem gat3_vals {vs mz zs : List V} {us mv ws : List Value} (h : Vals vs us) (g : Vals mz mv) (k : Vals zs ws) : ∀ src : List (Nat × Nat), Vals (gat3 src vs mz zs) (gat3 src us mv ws)
  | [] => .nil
  | p :: r => by
    have ih := gat3_vals h g k r
    have : (∃ v u, (match p.1 with | 0 => vs | 1 => mz | _ => zs)[p.2]? = some v ∧ (match p.1 with | 0 => us | 1 => mv | _ => ws)[p.2]? = some u ∧ RelV v u) ∨ ((match p.1 with | 0 => vs | 1 => mz | _ => zs)[p.2]? = none ∧ (match p.1 with | 0 => us | 1 => mv | _ => ws)[p.2]? = none) := by
      split
      · exact vals_at h _
      · exact vals_at g _
      · exact vals_at k _
    unfold gat3 at ih ⊢
    rcases this with ⟨v, u, e1, e2, rv⟩ | ⟨e1, e2⟩
    · rw [List.filterMap_cons, List.filterMap_cons, e1, e2]; exact .cons rv ih
    · rw [List.filterMap_cons, List.filterMap_cons, e1, e2]; exact ih
theorem gat3_reps {G : GC} {w : Wd} {ds md es : List D} {vs mz zs : List V} (h : RepL G w ds vs) (g : RepL G w md mz) (k : RepL G w es zs) : ∀ src : List (Nat × Nat), RepL G w (gat3 src ds md es) (gat3 src vs mz zs)
  | [] => by simp [gat3, RepL]
  | p :: r => by
    have ih := gat3_reps h g k r
    have : (∃ v u, (match p.1 with | 0 => ds | 1 => md | _ => es)[p.2]? = some v ∧ (match p.1 with | 0 => vs | 1 => mz | _ => zs)[p.2]? = some u ∧ Rep G w v u) ∨ ((match p.1 with | 0 => ds | 1 => md | _ => es)[p.2]? = none ∧ (match p.1 with | 0 => vs | 1 => mz | _ => zs)[p.2]? = none) := by
      split
      · exact reps_at h _
      · exact reps_at g _
      · exact reps_at k _
    unfold gat3 at ih ⊢
    rcases this with ⟨v, u, e1, e2, rv⟩ | ⟨e1, e2⟩
    · rw [List.filterMap_cons, List.filterMap_cons, e1, e2]; simp only [RepL]; exact ⟨_, _, rfl, rv, ih⟩
    · rw [List.filterMap_cons, List.filterMap_cons, e1, e2]; exact ih
theorem kbd3_of {G : GC} {x qual : Str} {params : Arguments} {body : List Stmt} {scope : Scope} {kws : List (Str × V)} {f : Addr} {fd : FuncData} {ps : List Str} (F : FunD G.K x qual params body scope [] kws f fd) (n : Nat) (ks : List Str) (ms : List (Str × V)) (dds : List D) (src : List (Nat × Nat)) (hk : kws ≠ []) (hms : ∀ q ∈ ms, q ∈ kws)
    (hd : ∀ w, RepL G w dds (ms.map (·.2)))
    (h : ∀ (D : Addr) (doc pm : Value) (an : Option Addr) (cdv ct : Value) (us mv ws : List Value), us.length = n → mv.length = ms.length → ws.length = ks.length →
      KwChain D ((ms.map (·.1)).zip mv) (bindArgs (PySem.W.fnOf x qual params body scope .none (.ref D) doc pm an cdv ct) ⟨us, ks.zip ws⟩) (ps.zip (gat3 src us mv ws))) : Kbd G fd ps n ks (fun ds es => gat3 src ds dds es) := by
  obtain ⟨mv, hb⟩ := F.kbinds0 n ks ms (fun us mv ws => gat3 src us mv ws) hk hms (fun a b c => gat3_vals a b c src) h
  exact ⟨_, _, hb, fun w ds es vs zs _ _ r1 r2 => gat3_reps r1 (hd w) r2 src⟩
end L3
set_option Elab.async false
set_option linter.all false
set_option maxRecDepth 100000
/-! L8C: several targets of any kind. -/
namespace L3
open PySem PySem.Spec PyProof.Rows L2
def gMixL : List GD → List D → EnvD → Store → SR
  | [], [], env, S => .nx env S
  | g :: gs, d :: ds, env, S => match g d env S with
    | .nx env1 S1 => gMixL gs ds env1 S1
    | _ => .bad
  | _, _, _, _ => .bad
def gMix (gs : List GD) : GD := fun d env S => match d with
  | .tup l => gMixL gs l env S
  | _ => .bad
section
variable {X : Cx} {G : GC} {pos : Pos}
def tMix (G : GC) (gs : List GD) : TGs := fun vs σ H Q => ∃ w env ds, w.H = H ∧ SRep G w ∧ ERep G w env σ ∧ RepL G w ds vs ∧
  match gMixL gs ds env w.S with
  | .nx env' S' => ∀ σ' w', WExt w w' → w'.S = S' → SRep G w' → ERep G w' env' σ' → Q σ' w'.H
  | _ => False
theorem q_mnil : PGs X [] (tMix G []) := pgsI pgs_nil fun v σ H Q q => by
  obtain ⟨w, env, ds, rfl, sr, er, rl, k⟩ := q
  cases ds with
  | nil =>
    simp only [RepL] at rl
    exact ⟨rl, k σ w (.refl w) rfl sr er⟩
  | cons _ _ => exact k.elim
theorem q_mcons {e : Expr} {es : List Expr} {g : GD} {gs : List GD} (h1 : PG X e (tG G g)) (h2 : PGs X es (tMix G gs))
    (hs : (assignEach (e :: es) X.env).map (·.2) = assign e X.env :: (assignEach es X.env).map (·.2) := by rfl) : PGs X (e :: es) (tMix G (g :: gs)) := pgsI (pgs_cons h1 h2 hs) fun v σ H Q q => by
  obtain ⟨w, env, ds, rfl, sr, er, rl, k⟩ := q
  cases ds with
  | nil => exact k.elim
  | cons d ds =>
    simp only [RepL] at rl
    obtain ⟨v, r, rfl, r1, r2⟩ := rl
    refine ⟨v, r, rfl, w, env, d, rfl, sr, er, r1, ?_⟩
    unfold gMixL at k
    cases hg : g d env w.S with
    | nx env1 S1 =>
      rw [hg] at k
      simp only at k ⊢
      intro σ1 w1 x1 e1 s1 er1
      subst e1
      refine ⟨w1, env1, ds, rfl, s1, er1, RepL.mono x1 _ _ r2, ?_⟩
      cases hm : gMixL gs ds env1 w1.S with
      | nx env2 S2 =>
        rw [hm] at k
        exact fun σ2 w2 x2 e2 s2 er2 => k σ2 w2 (x1.trans x2) e2 s2 er2
      | _ => rw [hm] at k; exact k.elim
    | _ => rw [hg] at k; exact k.elim
theorem gMixL_len : ∀ {gs : List GD} {l : List D} {env env' : EnvD} {S S' : Store}, gMixL gs l env S = .nx env' S' → l.length = gs.length
  | [], [], _, _, _, _, _ => rfl
  | [], _ :: _, _, _, _, _, e => nomatch e
  | _ :: _, [], _, _, _, _, e => nomatch e
  | g :: gs, d :: l, env, env', S, S', e => by
    unfold gMixL at e
    split at e
    · simp [gMixL_len e]
    · cases e
theorem q_gmix {es : List Expr} {k : Nat} {gs : List GD} (hK : X.K = G.K) (hc : X.calm = true) (h : PGs X es (tMix G gs)) (hn : (assignEach es X.env).length = gs.length := by rfl) (hst : (assignEach es X.env).findIdx? (·.1) = none := by rfl) :
    PG X (.Tuple es k pos) (tG G (gMix gs)) := pgI (pg_tup hc h hn hst) fun v σ H Q q => by
  obtain ⟨w, env, d, rfl, sr, er, rp, p⟩ := q
  cases d with
  | tup l =>
    simp only [Rep] at rp
    obtain ⟨a, us, rfl, h1, rl⟩ := rp
    simp only [gMix] at p
    cases hm : gMixL gs l env w.S with
    | nx env' S' =>
      rw [hm] at p
      refine ⟨a, us, rfl, by rw [hK]; exact SqT_of h1, by rw [rl.length]; exact gMixL_len hm, w, env, l, rfl, sr, er, rl, ?_⟩
      rw [hm]; exact p
    | _ => rw [hm] at p; exact p.elim
  | _ => exact p.elim
theorem gn_mix {gs : List GD} (h : ∀ g ∈ gs, GOk g) : GOk (gMix gs) := fun d env S => by
  cases d with
  | tup l =>
    simp only [gMix]
    induction gs generalizing l env S with
    | nil => cases l with
      | nil => exact .inl ⟨_, _, rfl⟩
      | cons _ _ => exact .inr rfl
    | cons g gs ih => cases l with
      | nil => exact .inr rfl
      | cons d l =>
        unfold gMixL
        rcases h g (List.mem_cons_self ..) d env S with ⟨env', S', e⟩ | e
        · rw [e]; exact ih (fun g hg => h g (List.mem_cons_of_mem _ hg)) env' S' l
        · rw [e]; exact .inr rfl
  | _ => exact .inr rfl
end
end L3
set_option Elab.async false
set_option linter.all false
set_option maxRecDepth 100000
/-! L8D: list(range(..)). -/
namespace L3
open PySem PySem.Spec PyProof.Rows L2
def lrgD : F1 := fun x S => match x with
  | .int j => if okRng j = true ∧ j.toNat ≤ 16777216 then .ok (.lst (rangeD 0 j)) S else .bad
  | _ => .bad
section
variable {X : Cx} {G : GC} {Wx : WX} {pos : Pos}
theorem rg_reps {w : Wd} (j : Int) : RepL G w (rangeD 0 j) (rgV 0 j) := by
  have : ∀ l : List Nat, RepL G w (l.map fun i => D.int (0 + (i : Nat))) (l.map fun i => V.int (0 + (i : Nat))) := by
    intro l
    induction l with
    | nil => simp [RepL]
    | cons i l ih => simp only [List.map_cons, RepL]; exact ⟨_, _, rfl, rfl, ih⟩
  exact this _
theorem q_lrange {a : Expr} {m : ED} {p p2 pos2 : Pos} (hc : X.calm = true) (hg : Gl X "list") (hm : X.mg "list" = none) (hg2 : Gl X "range") (hm2 : X.mg "range" = none) (ha : PE X a (tE G m Wx))
    (na2 : starEach [a] X.env = (false, eval a X.env) :: starEach [] X.env := by rfl)
    (na : starEach [.Call (.Name "range" p2) [a] [] pos2] X.env = (false, eval (.Call (.Name "range" p2) [a] [] pos2) X.env) :: starEach [] X.env := by rfl) :
    PE X (.Call (.Name "list" p) [.Call (.Name "range" p2) [a] [] pos2] [] pos) (tE G (e1 lrgD m) Wx) :=
  peI (pe_listRg hc hg hm (prg_1 hg2 hm2 ha na2) na) fun σ H Q q => by
  obtain ⟨w, env, rfl, sr, er, pp⟩ := q
  refine ⟨w, env, rfl, sr, er, (Post.bind (Ra := Rep G) pp).mono (fun v H1 ⟨w1, d, eH, x, s1, r1, p1⟩ => ?_) fun _ _ _ h => h⟩
  subst eH
  replace p1 : Post G w1 (lrgD d w1.S) (Rep G) Q (fun C dx H' => Wx C dx σ H') := p1
  unfold lrgD at p1
  split at p1
  · rename_i j
    split at p1
    · rename_i ok
      simp only [Rep] at r1
      subst r1
      have h := ok.1
      simp only [okRng, decide_eq_true_eq] at h
      refine ⟨j, rfl, ⟨by decide, by decide, h.1, h.2, by have := ok.2; rw [Int.sub_zero]; omega⟩, fun q hq => ?_⟩
      exact new_lst (S := w1.S) s1 (rg_reps j) p1 _ hq
    · exact p1.elim
  · exact p1.elim
end
end L3
set_option Elab.async false
set_option linter.all false
set_option maxRecDepth 100000
/-! L8F: y = {a: b for a, b in x.items()}, a copy of a dict that stays; {} for keys that are tuples. -/
namespace L3
open PySem PySem.Spec PyProof.Rows L2
def eDctT0 : ED := fun _ S => .ok (.obj S.length) (S ++ [.dT []])
def dcpO : F1 := fun x S => match x with
  | .dic ks l => if ks.length = l.length ∧ ks.length ≤ sizeLine then .ok (.obj S.length) (S ++ [.dK (mergeD [] (ks.zip l))]) else .bad
  | _ => .bad
section
variable {X : Cx} {G : GC} {Wx : WX} {pos : Pos}
theorem q_dctT0 : PE X (.Dict [] [] pos) (tE G eDctT0 Wx) := peI pe_dnewT fun σ H Q q => by
  obtain ⟨w, env, rfl, sr, er, p⟩ := q
  intro a ha
  obtain ⟨x, s⟩ := new_obj (ob := .dT []) (o := .dT []) sr ha fun w' x e => ⟨[], e, rfl⟩
  exact p (.ref a) _ x rfl s (by simp only [Rep]; exact ⟨a, by rw [← sr.len]; simp, rfl⟩)
theorem mergeK_snoc (kvs : List (Key × V)) (p : Key × V) : mergeK [] (kvs ++ [p]) = putK (mergeK [] kvs) p.1 p.2 := by
  unfold mergeK; rw [List.foldl_append]; rfl
theorem wipe_self {σ : L2.St} (vs : List Nat) : L2.wipe (L2.wipe σ vs) vs = L2.wipe σ vs := wipe_sub fun _ h => h
theorem copy_tDc {K : PySem.W.Frag} {σ : L2.St} {H : Hp} {d : Addr} {od : Obj} {kvs : List (Key × V)} {s a b : Nat} {vs : List Nat} {Q : VK} (hs : σ[s]? = some (some (.ref d))) (hd : H d = some (.frz od (.dK kvs))) (hz : kvs.length ≤ sizeLine)
    (ha : a ∈ vs) (hb : b ∈ vs) (hab : a ≠ b) (la : a < σ.length) (lb : b < σ.length)
    (q : ∀ D H', H D = none → H' D = some (.dK (mergeK [] kvs)) → (∀ c u, H c = some u → H' c = some u) → Q (.ref D) H') :
    tDc (iItems (tVar s)) (L2.gTup K 2 (gCons (L2.gName a) (gCons (L2.gName b) gNil))) tYes (tVar a) (tVar b) vs σ H Q := by
  refine ⟨_, hs, d, od, kvs, rfl, hd, fun D hD => ?_⟩
  have nd : d ≠ D := fun z => by rw [z, hD] at hd; cases hd
  refine ⟨fun i m H' => m = kvs.length - i ∧ i ≤ kvs.length ∧ H' D = some (.dK (mergeK [] (kvs.take i))) ∧ (∀ c u, H c = some u → H' c = some u), ⟨_, rfl, Nat.zero_le _, upd_same, fun c u e => (upd_ne (fun z => by rw [z, hD] at e; cases e)).trans e⟩, ?_⟩
  rintro i m H1 ⟨rfl, hi, eD, gr⟩
  have ed := gr d _ hd
  by_cases hlt : i < kvs.length
  · refine .inr ⟨⟨ed, hlt⟩, fun H' => H' D = some (.dK (mergeK [] (kvs.take (i + 1)))) ∧ (∀ c u, H c = some u → H' c = some u), fun H' h => ⟨kvs.length - (i + 1), by omega, rfl, hlt, h⟩, ?_⟩
    rintro x H2 ⟨T, k, v, e1, rfl, hT, rfl⟩
    have nT : D ≠ T := fun z => by rw [← z, eD] at hT; cases hT
    refine ⟨T, [kV k, v], rfl, .inl (.inl upd_same), rfl, kV k, [v], rfl, v, [], rfl, rfl, ?_⟩
    have lw : (L2.wipe σ vs).length = σ.length := wipe_length σ vs
    refine ⟨?_, kV k, ?_, v, ?_, mergeK [] (kvs.take i), k, rfl, (upd_ne nT).trans eD, ?_, ?_, ?_⟩
    · rw [wipe_set hb, wipe_set ha, wipe_self]
    · rw [List.getElem?_set_ne (Ne.symm hab), List.getElem?_set_self (by rw [lw]; exact la)]
    · rw [List.getElem?_set_self (by rw [List.length_set, lw]; exact lb)]
    · have := length_mergeK (kvs.take i) []
      simp only [List.length_nil, List.length_take] at this
      omega
    · rw [upd_same]
      have e2 : kvs.take (i + 1) = kvs.take i ++ [(k, v)] := by
        rw [List.take_succ_eq_append_getElem hlt]
        have : kvs[i] = (k, v) := by rw [List.getElem?_eq_getElem hlt] at e1; simpa using e1
        rw [this]
      rw [e2, mergeK_snoc]
    · intro c u e
      have nc : c ≠ D := fun z => by rw [z, hD] at e; cases e
      have nt : c ≠ T := fun z => by rw [z] at e; rw [gr T u e] at hT; cases hT
      exact (upd_ne nc).trans ((upd_ne nt).trans (gr c u e))
  · have ei : i = kvs.length := by omega
    subst ei
    rw [List.take_length] at eD
    exact .inl ⟨⟨ed, Nat.le_refl _⟩, q D H1 hD eD gr⟩
/-- y (i) = {na (a): nb (b) for .. in x (s).items()} -/
def sCopy (i s a b : Nat) : SD := fun env S => match env[s]? with
  | some (some (.dic ks l)) => if ks.length = l.length ∧ ks.length ≤ sizeLine ∧ a < env.length ∧ b < env.length then .nx (env.set i (some (.obj S.length))) (S ++ [.dK (mergeD [] (ks.zip l))]) else .bad
  | _ => .bad
theorem imp_copy {K : PySem.W.Frag} {i s a b : Nat} {vs : List Nat} (ha : a ∈ vs) (hb : b ∈ vs) (hab : a ≠ b) {D : Ends} {σ : L2.St} {H : Hp} (q : tS G (sCopy i s a b) Wx D σ H) :
    tLock (tAsg (tDc (iItems (tVar s)) (L2.gTup K 2 (gCons (L2.gName a) (gCons (L2.gName b) gNil))) tYes (tVar a) (tVar b) vs) (L2.gName i)) D σ H := by
  obtain ⟨w, env, rfl, sr, er, p⟩ := q
  unfold sCopy at p
  split at p
  · rename_i ks l hs
    split at p
    · rename_i ok
      obtain ⟨ok1, ok2, ok3, ok4⟩ := ok
      obtain ⟨v, e1, r1⟩ := er.at' s _ hs
      simp only [Rep] at r1
      obtain ⟨d, us, rfl, h1, nm, hl, h2⟩ := r1
      refine ⟨d, .dK (ks.zip us), h1, trivial, fun od => ?_⟩
      have lz : (ks.zip us).length ≤ sizeLine := by rw [List.length_zip]; omega
      refine copy_tDc (K := K) e1 upd_same lz ha hb hab (by rw [← er.len]; exact ok3) (by rw [← er.len]; exact ok4) fun A H' hA eA gr => ?_
      refine ⟨gr d _ upd_same, ?_⟩
      have nd : A ≠ d := fun z => by rw [z, upd_same] at hA; cases hA
      have wA : w.H A = none := by rw [upd_ne nd] at hA; exact hA
      have k : ∀ c u, w.H c = some u → (fun c => if c = A then none else upd H' d (.dK (ks.zip us)) c) c = some u := fun c u e => by
        have nc : c ≠ A := fun z => by rw [z, wA] at e; cases e
        show (if c = A then none else upd H' d (.dK (ks.zip us)) c) = some u
        rw [if_neg nc]
        by_cases hc : c = d
        · subst hc; rw [upd_same]; rw [h1] at e; exact e
        · rw [upd_ne hc]; exact gr c u ((upd_ne hc).trans e)
      obtain ⟨x1, s1, _⟩ := grow_ext sr k
      obtain ⟨x2, s2⟩ := new_obj (w := { w with H := fun c => if c = A then none else upd H' d (.dK (ks.zip us)) c }) (p := A) (ob := .dK (mergeD [] (ks.zip l))) (o := .dK (mergeK [] (ks.zip us))) s1 (if_pos rfl) fun w' xe e => ⟨_, e, RepKV.mono (x1.trans xe) _ _ (RepKV.merge (zip_kv hl h2) rfl)⟩
      have eH : upd (fun c => if c = A then none else upd H' d (.dK (ks.zip us)) c) A (.dK (mergeK [] (ks.zip us))) = upd H' d (.dK (ks.zip us)) := by
        funext c
        by_cases hc : c = A
        · subst hc; rw [upd_same, upd_ne nd, eA]
        · rw [upd_ne hc, if_neg hc]
      have fin := p (σ.set i (some (.ref A))) _ (x1.trans x2) rfl s2 ((er.mono (x1.trans x2)).set i (by simp only [Rep]; exact ⟨A, by show (w.mu ++ [A])[w.S.length]? = some A; rw [← sr.len]; simp, rfl⟩))
      rw [← eH]
      exact fin
    · exact p.elim
  · exact p.elim
theorem q_setCopy {i s a b : Nat} {y : Str} {py : Pos} {e kx vx : Expr} {elts : List Expr} {kk : Nat} {tpos apos cpos : Pos} {scope : Scope} {own : List (Str × Nat)} {spos : Pos} (hc : X.calm = true) (hN : X.N.Nodup) (hy : X.N[i]? = some y) (hyl : X.env.scope.names.lookup y = some .local)
    (hsw : swapsWith (.DictComp kx vx [⟨.Tuple elts kk tpos, .Call (.Attribute e "items" apos) [] [] cpos, [], 0⟩] scope pos) (some (.Name y py)) spos.line X.env = pure true) (hx : PE X e (tVar s)) (ok : BlkOk X.N X.env.scope scope own)
    (hg : ∀ (s : Shared) (H : Hp) (C : Addr) (cl : List (Str × Addr)) (fp : List Addr), PG (X.blk s H scope (compEnvC scope cl C X.env) fp) (.Tuple elts kk tpos) (L2.gTup X.K 2 (gCons (L2.gName a) (gCons (L2.gName b) gNil))))
    (hk : ∀ (s : Shared) (H : Hp) (C : Addr) (cl : List (Str × Addr)) (fp : List Addr), PE (X.blk s H scope (compEnvC scope cl C X.env) fp) kx (tVar a))
    (he : ∀ (s : Shared) (H : Hp) (C : Addr) (cl : List (Str × Addr)) (fp : List Addr), PE (X.blk s H scope (compEnvC scope cl C X.env) fp) vx (tVar b))
    (ha : a ∈ own.map (·.2)) (hb : b ∈ own.map (·.2)) (hab : a ≠ b) (hbase : attributeBase e "items" X.env (eval e X.env) = eval e X.env := by rfl) (hline : (apos.endLine == cpos.line) = true := by rfl)
    (hs : ∀ x, foldedSetIterable (.Call (.Attribute e "items" apos) [] [] cpos) X.env x = pure x := by intro _; rfl) :
    PS X (.Assign [.Name y py] (.DictComp kx vx [⟨.Tuple elts kk tpos, .Call (.Attribute e "items" apos) [] [] cpos, [], 0⟩] scope pos) spos) (tS G (sCopy i s a b) Wx) :=
  psI (ps_lock (ps_setDc hc hN hy hyl hsw (pi_items hx hbase hline) ok hg (fun _ _ _ _ _ => pts_nil) hk he hs)) fun D σ H q => imp_copy ha hb hab q
end
end L3
set_option Elab.async false
set_option linter.all false
set_option maxRecDepth 100000
/-! L8G: list.count. -/
namespace L3
open PySem PySem.Spec PyProof.Rows L2
def countD : D → FN := fun x xs S => match asL x S, xs with
  | some l, [y] => match toPyL l, toPy y with
    | some as, some b => if (PyData.plainAll as && b.plain && decide (b.depth ≤ 64)) = true then .ok (.int ((as.countP fun z => PyData.eqv z b : Nat) : Int)) S else .bad
    | _, _ => .bad
  | _, _ => .bad
theorem c_count : CalmM countD := fun x xs S => by unfold countD; repeat' split
                                                   all_goals trivial
section
variable {G : GC} {X : Cx} {w : Wd}
theorem reads_all {pins : List (Addr × Obj)} {σ : L2.St} {s : Shared} (hK : X.K = G.K) (I : Inv X pins σ w.H s) : ∀ {l : List D} {vs : List V} {us : List Value} {as : List PyData}, RepL G w l vs → Vals vs us → toPyL l = some as → ∃ bs, ReadsAll s.heap us as bs
  | [], vs, us, as, r, v, e => by
    simp only [RepL] at r
    subst r
    cases v
    cases e
    exact ⟨[], .nil⟩
  | d :: l, vs, us, as, r, v, e => by
    simp only [RepL] at r
    obtain ⟨x, r', rfl, r1, r2⟩ := r
    cases v with
    | cons rx rv =>
      simp only [toPyL] at e
      split at e
      · rename_i y ys e1 e2
        cases e
        obtain ⟨bs, q⟩ := reads_all hK I r2 rv e2
        obtain ⟨p1, _⟩ := dp_of d x y r1 e1
        rw [← hK] at p1
        obtain ⟨cs, q1⟩ := Dp.reads I y x _ p1 rx
        exact ⟨_, .cons q1 q⟩
      · cases e
theorem o_count (hK : X.K = G.K) (hu : X.A.units + 66 < cLine) : MtR X "list.count" (rM G countD) := by
  intro pins s σ H x xs v us Q I rx rs q
  obtain ⟨w, d, ds, rfl, sr, r1, rl, p⟩ := q
  unfold countD at p
  split at p
  · rename_i l y hl
    split at p
    · rename_i as b ha hb
      split at p
      · rename_i ok
        simp only [Bool.and_eq_true, decide_eq_true_eq] at ok
        obtain ⟨a, vs, rfl, h1, h2⟩ := asL_rep sr r1 hl
        simp only [RepL] at rl
        obtain ⟨vy, r', rfl, ry, rfl⟩ := rl
        cases rx
        cases rs with
        | cons q1 q2 =>
          cases q2
          obtain ⟨its, rv, pl, _⟩ := I.list (SqL.of h1)
          obtain ⟨bs, ra⟩ := reads_all hK I h2 rv ha
          obtain ⟨p1, _⟩ := dp_of y vy b ry hb
          rw [← hK] at p1
          obtain ⟨cs, rb⟩ := Dp.reads I b vy _ p1 q1
          have hm : min (PyData.depthAll as) b.depth ≤ b.depth := Nat.min_le_right _ _
          refine PySem.SeqAt.count_list_data pl.isList (by simpa using ra) rb ok.1.1 ok.1.2 (by omega) ?_
          exact ⟨.int _, w.H, I.tok _, ⟨_, rfl⟩, Post.ret (Ra := Rep G) sr (by simp [Rep]) p⟩
      · exact p.elim
    · exact p.elim
  · exact p.elim
end
end L3
set_option Elab.async false
set_option linter.all false
set_option maxRecDepth 100000
/-! L8H: dict(list of pairs). -/
namespace L3
open PySem PySem.Spec PyProof.Rows L2
theorem u66 {k : Nat} {A : Around} (h : RoomG k A) : A.units + 66 < cLine := by have := h.rm.un; omega
def pairK : D → Option (Key × D)
  | .tup [k, v] => (keyOf k).map fun k => (k, v)
  | _ => none
def pairKs : List D → Option (List (Key × D))
  | [] => some []
  | d :: l => match pairK d, pairKs l with
    | some p, some r => some (p :: r)
    | _, _ => none
def dictPO : FN := fun xs S => match xs with
  | [x] => match asL x S with
    | some l => match pairKs l with
      | some kvs => .ok (.obj S.length) (S ++ [.dK (mergeD [] kvs)])
      | none => .bad
    | none => .bad
  | _ => .bad
def dictPV : FN := fun xs S => match xs with
  | [x] => match asL x S with
    | some l => match pairKs l with
      | some kvs => .ok (.dic ((mergeD [] kvs).map (·.1)) ((mergeD [] kvs).map (·.2))) S
      | none => .bad
    | none => .bad
  | _ => .bad
theorem c_dictPO : CalmN dictPO := fun xs S => by unfold dictPO; repeat' split
                                                  all_goals trivial
theorem c_dictPV : CalmN dictPV := fun xs S => by unfold dictPV; repeat' split
                                                  all_goals trivial
section
variable {G : GC} {X : Cx} {w : Wd}
theorem pairK_rep {d : D} {v : V} {p : Key × D} (r : Rep G w d v) (e : pairK d = some p) : ∃ a y, v = .ref a ∧ SqT G.K w.H a [kV p.1, y] ∧ Rep G w p.2 y := by
  unfold pairK at e
  split at e
  · rename_i k z
    cases hk : keyOf k with
    | none => rw [hk] at e; cases e
    | some kk =>
      rw [hk] at e
      cases e
      simp only [Rep] at r
      obtain ⟨a, vs, rfl, h1, rl⟩ := r
      simp only [RepL] at rl
      obtain ⟨x, _, rfl, rx, y, _, rfl, ry, rfl⟩ := rl
      have ek := keyOf_rep rx hk
      subst ek
      exact ⟨a, y, rfl, SqT_of h1, ry⟩
  · cases e
theorem pairKs_rep : ∀ {l : List D} {vs : List V} {kvs : List (Key × D)}, RepL G w l vs → pairKs l = some kvs → ∃ (ps : List Addr) (kus : List (Key × V)), vs = ps.map V.ref ∧ Paired (fun p kv => SqT G.K w.H p [kV kv.1, kv.2]) ps kus ∧ RepKV G w kvs kus
  | [], vs, kvs, r, e => by
    simp only [RepL] at r
    subst r
    cases e
    exact ⟨[], [], rfl, .nil, rfl⟩
  | d :: l, vs, kvs, r, e => by
    simp only [RepL] at r
    obtain ⟨v, r', rfl, r1, r2⟩ := r
    simp only [pairKs] at e
    split at e
    · rename_i p q e1 e2
      cases e
      obtain ⟨a, y, rfl, h1, h2⟩ := pairK_rep r1 e1
      obtain ⟨ps, kus, rfl, h3, h4⟩ := pairKs_rep r2 e2
      exact ⟨a :: ps, (p.1, y) :: kus, rfl, .cons h1 h3, y, kus, rfl, h2, h4⟩
    · cases e
theorem o_dictPO (hc : X.calm = true) (hK : X.K = G.K) : CallR X (.type "dict") (rN G dictPO) := caI2 (call_dictP hc) fun xs H Q q => by
  obtain ⟨w, ds, rfl, sr, rl, p⟩ := q
  unfold dictPO at p
  split at p
  · rename_i x
    split at p
    · rename_i l hl
      split at p
      · rename_i kvs hk
        simp only [RepL] at rl
        obtain ⟨v, r', rfl, rx, rfl⟩ := rl
        obtain ⟨a, vs, rfl, h1, h2⟩ := asL_rep sr rx hl
        obtain ⟨ps, kus, rfl, h3, h4⟩ := pairKs_rep h2 hk
        refine ⟨a, ps, kus, rfl, SqL.of h1, by rw [hK]; exact h3, fun p' hp => ?_⟩
        obtain ⟨x1, s1⟩ := new_obj (o := .dK (mergeK [] kus)) (ob := .dK (mergeD [] kvs)) sr hp fun w' xe e => ⟨_, e, RepKV.mono xe _ _ (RepKV.merge h4 rfl)⟩
        refine p (.ref p') _ x1 rfl s1 ?_
        show ∃ a, (w.mu ++ [p'])[w.S.length]? = some a ∧ _
        exact ⟨p', by rw [← sr.len]; simp, rfl⟩
      · exact p.elim
    · exact p.elim
  · exact p.elim
theorem o_dictPV (hc : X.calm = true) (hK : X.K = G.K) : CallR X (.type "dict") (rN G dictPV) := caI2 (call_dictP hc) fun xs H Q q => by
  obtain ⟨w, ds, rfl, sr, rl, p⟩ := q
  unfold dictPV at p
  split at p
  · rename_i x
    split at p
    · rename_i l hl
      split at p
      · rename_i kvs hk
        simp only [RepL] at rl
        obtain ⟨v, r', rfl, rx, rfl⟩ := rl
        obtain ⟨a, vs, rfl, h1, h2⟩ := asL_rep sr rx hl
        obtain ⟨ps, kus, rfl, h3, h4⟩ := pairKs_rep h2 hk
        refine ⟨a, ps, kus, rfl, SqL.of h1, by rw [hK]; exact h3, fun p' hp => ?_⟩
        obtain ⟨x1, s1, nm⟩ := new_ext (o := .dK (mergeK [] kus)) sr hp
        obtain ⟨us, eu, ru⟩ := (RepKV.merge (kvs := []) (vs := []) h4 rfl).parts
        refine p (.ref p') (w.put p' (.dK (mergeK [] kus))) x1 rfl s1 ?_
        simp only [Rep]
        exact ⟨p', us, rfl, by rw [← eu]; exact upd_same, nm, by simp, RepL.mono x1 _ _ ru⟩
      · exact p.elim
    · exact p.elim
  · exact p.elim
/-! x is None -/
def isNonD : F2 := fun x y S => match y with
  | .non => match x with
    | .non => .ok (.bl true) S
    | .glb _ => .bad
    | _ => .ok (.bl false) S
  | _ => .bad
def notNonD : F2 := fun x y S => match y with
  | .non => match x with
    | .non => .ok (.bl false) S
    | .glb _ => .bad
    | _ => .ok (.bl true) S
  | _ => .bad
theorem c_isNon : Calm2 isNonD := fun x y S => by unfold isNonD; repeat' split
                                                  all_goals trivial
theorem c_notNon : Calm2 notNonD := fun x y S => by unfold notNonD; repeat' split
                                                    all_goals trivial
def isN : D → Bool
  | .non => true
  | _ => false
theorem non_of {d : D} {v : V} (r : Rep G w d v) (hg : ∀ x, d ≠ .glb x) : decide (v = .non) = isN d := by
  cases d with
  | non => simp only [Rep] at r; subst r; rfl
  | glb x => exact absurd rfl (hg x)
  | bl _ => simp only [Rep] at r; subst r; rfl
  | int _ => simp only [Rep] at r; subst r; rfl
  | str _ => simp only [Rep] at r; subst r; rfl
  | tup _ => simp only [Rep] at r; obtain ⟨a, _, rfl, _⟩ := r; rfl
  | lst _ => simp only [Rep] at r; obtain ⟨a, _, rfl, _⟩ := r; rfl
  | dic _ _ => simp only [Rep] at r; obtain ⟨a, _, rfl, _⟩ := r; rfl
  | obj _ => simp only [Rep] at r; obtain ⟨a, _, rfl⟩ := r; rfl
  | ty _ => simp only [Rep] at r; subst r; rfl
  | scr _ => simp only [Rep] at r; obtain ⟨a, rfl, _⟩ := r; rfl
  | kd _ _ => simp only [Rep] at r; obtain ⟨a, _, _, _, _, rfl, _⟩ := r; rfl
  | xcp _ _ _ => simp only [Rep] at r; obtain ⟨a, _, _, _, rfl, _⟩ := r; rfl
theorem op2I' {op : CmpOp} {r r' : V → V → Hp → VK → Prop} (h : OpR X (compareOp op) r) (i : ∀ x y H Q, r' x y H Q → r x y H Q) : OpR X (compareOp op) r' := fun pins s σ H x y v u Q I rx ry q => h pins s σ H x y v u Q I rx ry (i _ _ _ _ q)
theorem o_isNon : OpR X (compareOp .Is) (r2 G isNonD) := op2I' op_isN fun x y H Q q => by
  obtain ⟨w, d1, d2, rfl, sr, r1, r2, p⟩ := q
  unfold isNonD at p
  split at p
  · simp only [Rep] at r2
    refine ⟨r2, ?_⟩
    split at p
    · rw [non_of r1 (by simp)]; exact Post.ret (Ra := Rep G) sr (by simp [Rep, isN]) p
    · exact p.elim
    · rename_i h1 h2
      have hf : isN d1 = false := by
        cases d1 with
        | non => exact absurd rfl h1
        | _ => rfl
      rw [non_of r1 h2, hf]; exact Post.ret (Ra := Rep G) sr (by simp [Rep]) p
  · exact p.elim
theorem o_notNon : OpR X (compareOp .IsNot) (r2 G notNonD) := op2I' op_notN fun x y H Q q => by
  obtain ⟨w, d1, d2, rfl, sr, r1, r2, p⟩ := q
  unfold notNonD at p
  split at p
  · simp only [Rep] at r2
    refine ⟨r2, ?_⟩
    split at p
    · rw [non_of r1 (by simp)]; exact Post.ret (Ra := Rep G) sr (by simp [Rep, isN]) p
    · exact p.elim
    · rename_i h1 h2
      have hf : isN d1 = false := by
        cases d1 with
        | non => exact absurd rfl h1
        | _ => rfl
      rw [non_of r1 h2, hf]; exact Post.ret (Ra := Rep G) sr (by simp [Rep]) p
  · exact p.elim
end
end L3
set_option Elab.async false
set_option linter.all false
set_option maxRecDepth 100000
/-! L8I: a list != []. -/
namespace L3
open PySem PySem.Spec PyProof.Rows L2
def ne0D : F2 := fun x y S => match y with
  | .lst [] => match asL x S with
    | some l => .ok (.bl (!l.isEmpty)) S
    | none => .bad
  | _ => .bad
theorem c_ne0 : Calm2 ne0D := fun x y S => by unfold ne0D; repeat' split
                                              all_goals trivial
section
variable {G : GC} {X : Cx} {w : Wd}
theorem o_ne0 (hu : X.A.units + 64 < cLine) : OpR X (compareOp .NotEq) (r2 G ne0D) := by
  intro pins s σ H x y v u Q I rx ry q
  obtain ⟨w, d1, d2, rfl, sr, r1, r2, p⟩ := q
  unfold ne0D at p
  split at p
  · split at p
    · rename_i l hl
      obtain ⟨a, vs, rfl, h1, l1⟩ := asL_rep sr r1 hl
      simp only [Rep, RepL] at r2
      obtain ⟨b, us, rfl, h2, _, rfl⟩ := r2
      cases rx
      cases ry
      obtain ⟨its, rv, tp, _⟩ := I.list (SqL.of h1)
      obtain ⟨its2, rv2, tp2, _⟩ := I.list (SqL.of h2)
      cases rv2
      have h3 := rv.length
      have h4 := l1.length
      cases l with
      | nil =>
        have e : its = [] := List.length_eq_zero_iff.mp (by rw [← h3, h4]; rfl)
        subst e
        refine SeqAt.RcNeAt.lists (e := fun _ => true) tp.isList tp2.isList rfl (by omega) (fun j h1 h2 => absurd h2 (by simp)) X.prog X.w X.xe (EP X pins σ Q) ?_
        exact ⟨.bl _, w.H, I, rfl, Post.ret (Ra := Rep G) sr (by simp [Rep]) p⟩
      | cons d l =>
        refine SeqAt.RcNeAt.lists_lengths tp.isList tp2.isList (by
          have : its.length = l.length + 1 := by rw [← h3, h4]; rfl
          simp [this]) (by omega) X.prog X.w X.xe (EP X pins σ Q) ?_
        exact ⟨.bl _, w.H, I, rfl, Post.ret (Ra := Rep G) sr (by simp [Rep]) p⟩
    · exact p.elim
  · exact p.elim
end
end L3
set_option Elab.async false
set_option linter.all false
set_option maxRecDepth 100000
set_option maxHeartbeats 4000000
namespace K04
open PySem L2 L3
def fuel : Nat := 100000
def c_GIVERS : D := (.tup [(.str "let"), (.str "each")])
def c_NAME : D := (.str "name")
def kbd_giver_at_0_place_program_g : List D → List D → List D := gath .non [(true, 1), (true, 0)]
def kbd_is_number_1_high_s : List (Nat × Nat) := [(0, 0), (1, 0), (2, 0)]
def kbd_is_number_1_high_g : List D → List D → List D := fun ds es => gat3 kbd_is_number_1_high_s ds [(.int 0)] es
def m_wall (F : Nat → FN) : SD :=
    sBad
def m_is_whole (F : Nat → FN) : SD :=
    sRet (eAnd (eN isiD (aCons (eVar 0) (aCons (eK (.ty "int")) (aNil)))) (eNot (eN isiD (aCons (eVar 0) (aCons (eK (.ty "bool")) (aNil))))))
def m_is_number (F : Nat → FN) : SD :=
    sRet (eAnd (eN (callK (F 1) []) (aCons (eVar 0) (aNil))) (eChain leD leD (eVar 1) (eVar 0) (eVar 2)))
def m_at (F : Nat → FN) : SD :=
    sSeq (sIf (tNot (tTruth (eN isiD (aCons (eVar 1) (aCons (eK (.ty "tuple")) (aNil)))))) (sRaise1 "NoPlace" "place" (eVar 1)) (sSkip))
    (sSeq (sAsg (eVar 0) (gName 2))
    (sSeq (sFor (iSeq (eVar 1)) (gName 3) (sSeq (sIf (tNot (tTruth (eKw (kwK (F 2) 1 1 kbd_is_number_1_high_g) (aCons (eVar 3) (aNil)) (aCons (e2 subD (eN lenD (aCons (e2 ixD (eVar 2) (eK (.int 2))) (aNil))) (eK (.int 1))) (aNil))))) (sRaise1 "NoPlace" "place" (eVar 1)) (sSkip))
    (sAsg (e2 ixD (e2 ixD (eVar 2) (eK (.int 2))) (eVar 3)) (gName 2))))
    (sRet (eVar 2))))
def m_Scopes___init__ (F : Nat → FN) : SD :=
    sSeq (sFldD ["Scopes"] "names" (eVar 0) (eDctT0))
    (sSeq (sFldD ["Scopes"] "givers" (eVar 0) (eDctT0))
    (sSeq (sAsg (eN mkObj (aCons (eN mkTup (aCons (eN mkTup (aNil)) (aCons (eVar 1) (aCons (eDic0) (aNil))))) (aNil))) (gName 2))
    (sWhile (tOfE (e2 gtD (eN lenD (aCons (eVar 2) (aNil))) (eK (.int 0)))) (sSeq (sAsg (eBM "list" popD (eVar 2) aNil) (gSeq [3, 4, 5]))
    (sSeq (sAsg (eVar 4) (gTup [6, 7, 8]))
    (sSeq (sIf (tOfE (e2 eqD (eVar 6) (eK c_NAME))) (sSeq (sAsg (eVar 7) (gSub (e1 (fldD ["Scopes"] "names") (eVar 0)) (eVar 3)))
    (sAsg (eBM "dict" dgetD (eVar 5) (aCons (eVar 7) (aNil))) (gSub (e1 (fldD ["Scopes"] "givers") (eVar 0)) (eVar 3)))) (sSkip))
    (sFor (iArgs enumA (aCons (eVar 8) (aNil))) (gTup [9, 10]) (sSeq (sCopy 11 5 13 12)
    (sSeq (sIf (tAnd (tOfE (e2 inD (eVar 6) (eK c_GIVERS))) (tOfE (e2 eqD (eVar 9) (eK (.int 1))))) (sAsg (eVar 3) (gSub (eVar 11) (eVar 7))) (sSkip))
    (sExpr (eBM "list" appendD (eVar 2) (aCons (eN mkTup (aCons (e2 addD (eVar 3) (eN mkTup (aCons (eVar 9) (aNil)))) (aCons (eVar 10) (aCons (e1 frzD (eVar 11)) (aNil))))) (aNil)))))))))) fuel)))
def m_Scopes_asked (F : Nat → FN) : SD :=
    sExpr (eN (callK (F 0) []) (aCons (eK (.int 0)) (aNil)))
def m_giver_at (F : Nat → FN) : SD :=
    sSeq (sIf (tOfE (e2 neD (e2 ixD (eN (callK (F 3) []) (aCons (eVar 0) (aCons (eVar 1) (aNil)))) (eK (.int 0))) (eK c_NAME))) (sRaise1 "NoName" "name" (eVar 1)) (sSkip))
    (sSeq (sAsg (eN (mkIns "Scopes" (callK (F 4) [])) (aCons (eVar 0) (aNil))) (gName 2))
    (sRet (e2 ixD (e1 (fldD ["Scopes"] "givers") (eVar 2)) (eVar 1))))
def m_law_hand (F : Nat → FN) : SD :=
    sSeq (sAsg (e2 addD (e2 mulD (eK (.int 3)) (eVar 1)) (eN lenD (aCons (eVar 0) (aNil)))) (gName 2))
    (sSeq (sIf (tOfE (e2 ltD (eVar 1) (eN lenD (aCons (eVar 0) (aNil))))) (sAsg (e2 ixD (eVar 0) (eVar 1)) (gName 2)) (sSkip))
    (sSeq (sAsg (e2 mulD (e2 modD (eN absD (aCons (eVar 2) (aNil))) (e2 powD (e2 powD (eK (.int 10)) (eK (.int 60))) (eK (.int 5)))) (eN intD (aCons (e2 geD (eN absD (aCons (eVar 2) (aNil))) (e2 powD (eK (.int 10)) (eK (.int 18)))) (aNil)))) (gName 3))
    (sRet (eN mkObj (aCons (eVar 3) (aCons (e2 modD (e2 mulD (e2 addD (e2 addD (e2 modD (eVar 2) (eK (.int 2305843009213693951))) (e2 mulD (e2 mulD (eK (.int 7919)) (eVar 1)) (eVar 1))) (eK (.int 11))) (eK (.int 48271))) (eK (.int 2305843009213693951))) (aNil)))))))
def m_law_take (F : Nat → FN) : SD :=
    sSeq (sIf (tOfE (e2 gtD (e2 ixD (eVar 0) (eK (.int 0))) (eK (.int 0)))) (sSeq (sAsg (e2 modD (e2 ixD (eVar 0) (eK (.int 0))) (eVar 1)) (gName 2))
    (sSeq (sAsg (e2 fdivD (e2 ixD (eVar 0) (eK (.int 0))) (eVar 1)) (gSub (eVar 0) (eK (.int 0))))
    (sRet (eVar 2)))) (sSkip))
    (sSeq (sAsg (e2 modD (e2 addD (e2 mulD (e2 ixD (eVar 0) (eK (.int 1))) (eK (.int 1181783497276652981))) (eK (.int 12345678910987))) (eK (.int 2305843009213693951))) (gSub (eVar 0) (eK (.int 1))))
    (sRet (e2 modD (e2 fdivD (e2 modD (e2 mulD (e2 fdivD (e2 ixD (eVar 0) (eK (.int 1))) (eK (.int 65537))) (e2 addD (e2 modD (e2 ixD (eVar 0) (eK (.int 1))) (eK (.int 65537))) (eK (.int 3)))) (eK (.int 2305843009213693921))) (eK (.int 97))) (eVar 1))))
def m_law_pick (F : Nat → FN) : SD :=
    sRet (e2 ixD (eVar 1) (eN (callK (F 8) []) (aCons (eVar 0) (aCons (eN lenD (aCons (eVar 1) (aNil))) (aNil)))))
def m_law_called (F : Nat → FN) : SD :=
    sSeq (sAsg (eK (.str "abcdefghijklmnopqrstuvwxyz")) (gName 2))
    (sSeq (sAsg (eBM "str" splitD (eK (.str "plus times most row say less below if let each num name any rest called count")) (aCons (eK (.str " ")) (aNil))) (gName 3))
    (sSeq (sAsg (eN mkTup (aCons (eN (callK (F 8) []) (aCons (eVar 0) (aCons (eK (.int 676)) (aNil)))) (aCons (eN (callK (F 9) []) (aCons (eVar 0) (aCons (eN mkLst (aCons (eK (.int 1)) (aCons (eK (.int 3)) (aCons (eK (.int 7)) (aCons (eK (.int 25)) (aCons (eK (.int 27)) (aCons (eK (.int 51)) (aCons (eK (.int 105)) (aNil))))))))) (aNil)))) (aNil)))) (gTup [4, 5]))
    (sSeq (sIf (tAnd (tOfE (e2 ltD (eVar 1) (eK (.int 27)))) (tOfE (e2 eqD (eN (callK (F 8) []) (aCons (eVar 0) (aCons (eK (.int 6)) (aNil)))) (eK (.int 0))))) (sRet (eLc (iArgs range1 (aCons (eVar 1) (aNil))) [6] (gName 6) (tYesD) (e2 ixD (eVar 2) (e2 modD (e2 addD (eVar 4) (eVar 6)) (eK (.int 26)))))) (sSkip))
    (sSeq (sAsg (eBM "str" joinD (eK (.str "")) (aCons (eLc (iArgs range1 (aCons (eN (callK (F 9) []) (aCons (eVar 0) (aCons (eN mkLst (aCons (eK (.int 0)) (aCons (eK (.int 0)) (aCons (eK (.int 1)) (aCons (eK (.int 2)) (aCons (eK (.int 6)) (aNil))))))) (aNil)))) (aNil))) [6] (gName 6) (tYesD) (eN (callK (F 9) []) (aCons (eVar 0) (aCons (eVar 2) (aNil))))) (aNil))) (gName 7))
    (sSeq (sPar [8, 9] (aCons (eN (callK (F 8) []) (aCons (eVar 0) (aCons (e2 addD (eN lenD (aCons (eVar 7) (aNil))) (eK (.int 1))) (aNil)))) (aCons (eN mkObj (aNil)) (aNil))))
    (sSeq (sFor (iArgs range1 (aCons (eVar 1) (aNil))) (gName 6) (sSeq (sAsg (e2 modD (e2 addD (eVar 4) (e2 mulD (eVar 5) (eVar 6))) (eK (.int 676))) (gName 10))
    (sSeq (sAsg (e2 addD (e2 ixD (eVar 2) (e2 fdivD (eVar 10) (eK (.int 26)))) (e2 ixD (eVar 2) (e2 modD (eVar 10) (eK (.int 26))))) (gName 11))
    (sSeq (sAsg (e2 addD (e2 addD (eSl (eVar 7) (pNo) (pYes (eVar 8))) (eVar 11)) (eSl (eVar 7) (pYes (eVar 8)) (pNo))) (gName 12))
    (sExpr (eBM "list" appendD (eVar 9) (aCons (e2 addD (eVar 12) (e2 mulD (eK (.str "x")) (eN intD (aCons (e2 inD (eVar 12) (eVar 3)) (aNil))))) (aNil))))))))
    (sRet (eVar 9))))))))
def m_law_digit (F : Nat → FN) : SD :=
    sRet (eN (callK (F 9) []) (aCons (eVar 0) (aCons (eN mkLst (aCons (eK (.int 0)) (aCons (eK (.int 1)) (aCons (eK (.int 2)) (aCons (eK (.int 3)) (aCons (eN (callK (F 8) []) (aCons (eVar 0) (aCons (eK (.int 6)) (aNil)))) (aCons (eK (.int 9972)) (aCons (eN (callK (F 8) []) (aCons (eVar 0) (aCons (eK (.int 9973)) (aNil)))) (aNil))))))))) (aNil))))
def m_law_grown (F : Nat → FN) : SD :=
    sSeq (sAsg (e2 subD (e2 ixD (eVar 1) (eK (.str "left"))) (eK (.int 1))) (gSub (eVar 1) (eK (.str "left"))))
    (sSeq (sIf (tOr (tOfE (e2 eqD (eVar 3) (eK (.int 0)))) (tOfE (e2 ltD (e2 ixD (eVar 1) (eK (.str "left"))) (eK (.int 4))))) (sSeq (sIf (tOfE (e2 ltD (eN (callK (F 8) []) (aCons (eVar 0) (aCons (eK (.int 5)) (aNil)))) (eK (.int 3)))) (sRet (eN mkTup (aCons (eK (.str "name")) (aCons (eN (callK (F 9) []) (aCons (eVar 0) (aCons (e2 addD (e2 addD (eSl (eVar 2) (pYes (e1 negD (eK (.int 2)))) (pNo)) (eSl (eVar 2) (pYes (e1 negD (eK (.int 2)))) (pNo))) (e2 ixD (eVar 1) (eK (.str "pool")))) (aNil)))) (aCons (eN mkTup (aNil)) (aNil)))))) (sSkip))
    (sRet (eN mkTup (aCons (eK (.str "num")) (aCons (eN (callK (F 11) []) (aCons (eVar 0) (aNil))) (aCons (eN mkTup (aNil)) (aNil))))))) (sSkip))
    (sSeq (sPar [4, 5] (aCons (eN (callK (F 8) []) (aCons (eVar 0) (aCons (eK (.int 13)) (aNil)))) (aCons (eN (callK (F 9) []) (aCons (eVar 0) (aCons (eN mkLst (aCons (eK (.int 2)) (aCons (eK (.int 2)) (aCons (eK (.int 3)) (aCons (eK (.int 1)) (aCons (eK (.int 4)) (aNil))))))) (aNil)))) (aNil))))
    (sSeq (sIf (tOfE (e2 ltD (eVar 4) (eK (.int 4)))) (sSeq (sAsg (e2 ixD (eN mkLst (aCons (eK (.str "plus")) (aCons (eK (.str "times")) (aCons (eK (.str "most")) (aCons (eK (.str "plus")) (aNil)))))) (eVar 4)) (gName 6))
    (sRet (eN mkTup (aCons (eVar 6) (aCons (eK (.str "")) (aCons (eN tupleD (aCons (eLc (iArgs range1 (aCons (eVar 5) (aNil))) [7] (gName 7) (tYesD) (eN (callK (F 12) []) (aCons (eVar 0) (aCons (eVar 1) (aCons (eVar 2) (aCons (e2 subD (eVar 3) (eK (.int 1))) (aNil))))))) (aNil))) (aNil))))))) (sSkip))
    (sSeq (sIf (tOfE (e2 ltD (eVar 4) (eK (.int 7)))) (sSeq (sAsg (eN (callK (F 9) []) (aCons (eVar 0) (aCons (eN mkLst (aCons (eVar 5) (aCons (eK (.int 0)) (aCons (eK (.int 3)) (aCons (eK (.int 4)) (aCons (eK (.int 5)) (aNil))))))) (aNil)))) (gName 5))
    (sRet (eN mkTup (aCons (eK (.str "row")) (aCons (eK (.str "")) (aCons (eN tupleD (aCons (eLc (iArgs range1 (aCons (eVar 5) (aNil))) [7] (gName 7) (tYesD) (eN (callK (F 12) []) (aCons (eVar 0) (aCons (eVar 1) (aCons (eVar 2) (aCons (e2 subD (eVar 3) (eK (.int 1))) (aNil))))))) (aNil))) (aNil))))))) (sSkip))
    (sSeq (sIf (tOfE (e2 ltD (eVar 4) (eK (.int 10)))) (sSeq (sAsg (e2 ixD (eN mkLst (aCons (eK (.str "let")) (aCons (eK (.str "each")) (aCons (eK (.str "let")) (aNil))))) (e2 subD (eVar 4) (eK (.int 7)))) (gName 6))
    (sSeq (sPar [8, 9] (aCons (eN (callK (F 9) []) (aCons (eVar 0) (aCons (e2 ixD (eVar 1) (eK (.str "pool"))) (aNil)))) (aCons (eN (callK (F 12) []) (aCons (eVar 0) (aCons (eVar 1) (aCons (eVar 2) (aCons (e2 subD (eVar 3) (eK (.int 1))) (aNil)))))) (aNil))))
    (sRet (eN mkTup (aCons (eVar 6) (aCons (eVar 8) (aCons (eN mkTup (aCons (eVar 9) (aCons (eN (callK (F 12) []) (aCons (eVar 0) (aCons (eVar 1) (aCons (e2 addD (eVar 2) (eN mkLst (aCons (eVar 8) (aNil)))) (aCons (e2 subD (eVar 3) (eK (.int 1))) (aNil)))))) (aNil)))) (aNil)))))))) (sSkip))
    (sSeq (sAsg (e2 ixD (eN mkLst (aCons (eK (.str "say")) (aCons (eN (callK (F 9) []) (aCons (eVar 0) (aCons (eN mkLst (aCons (eK (.str "less")) (aCons (eK (.str "below")) (aNil)))) (aNil)))) (aCons (eK (.str "if")) (aNil))))) (e2 subD (eVar 4) (eK (.int 10)))) (gName 6))
    (sRet (eN mkTup (aCons (eVar 6) (aCons (eK (.str "")) (aCons (eN tupleD (aCons (eLc (iArgs range1 (aCons (e2 subD (eVar 4) (eK (.int 9))) (aNil))) [7] (gName 7) (tYesD) (eN (callK (F 12) []) (aCons (eVar 0) (aCons (eVar 1) (aCons (eVar 2) (aCons (e2 subD (eVar 3) (eK (.int 1))) (aNil))))))) (aNil))) (aNil))))))))))))
def m_law_code (F : Nat → FN) : SD :=
    sSeq (sAsg (eN (callK (F 10) []) (aCons (eVar 0) (aCons (e2 addD (eK (.int 1)) (eN (callK (F 8) []) (aCons (eVar 0) (aCons (eK (.int 5)) (aNil))))) (aNil)))) (gName 2))
    (sRet (eN (callK (F 12) []) (aCons (eVar 0) (aCons (eDct [(eK (.str "left"), eVar 1), (eK (.str "pool"), eVar 2)]) (aCons (eN mkLst (aNil)) (aCons (e2 addD (eK (.int 3)) (eN (callK (F 8) []) (aCons (eVar 0) (aCons (eK (.int 5)) (aNil))))) (aNil)))))))
def m_law_spots (F : Nat → FN) : SD :=
    sSeq (sAsg (eN mkObj (aCons (eN mkTup (aNil)) (aNil))) (gName 1))
    (sSeq (sFor (iArgs enumA (aCons (e2 ixD (eVar 0) (eK (.int 2))) (aNil))) (gTup [2, 3]) (sExpr (eBM "list" extendD (eVar 1) (aCons (eLc (iSeq (eN (callK (F 14) []) (aCons (eVar 3) (aNil)))) [4] (gName 4) (tYesD) (e2 addD (eN mkTup (aCons (eVar 2) (aNil))) (eVar 4))) (aNil)))))
    (sRet (e1 frzD (eVar 1))))
def m_law_givers (F : Nat → FN) : SD :=
    sSeq (sPar [1, 2] (aCons (eDctT0) (aCons (eN mkObj (aCons (eN mkTup (aCons (eN mkTup (aNil)) (aCons (eVar 0) (aCons (eDic0) (aNil))))) (aNil))) (aNil))))
    (sSeq (sWhile (tOfE (e2 ne0D (eVar 2) (eN mkLst (aNil)))) (sSeq (sAsg (eBM "list" popD (eVar 2) aNil) (gSeq [3, 4, 5]))
    (sSeq (sAsg (eVar 4) (gTup [6, 7, 8]))
    (sSeq (sIf (tOfE (e2 eqD (eVar 6) (eK (.str "name")))) (sAsg (eN mkTup (aCons (eVar 7) (aCons (eBM "dict" dgetD (eVar 5) (aCons (eVar 7) (aNil))) (aNil)))) (gSub (eVar 1) (eVar 3))) (sSkip))
    (sFor (iArgs enumA (aCons (eVar 8) (aNil))) (gTup [9, 10]) (sSeq (sAsg (eN dictPO (aCons (e1 litemsD (eVar 5)) (aNil))) (gName 11))
    (sSeq (sIf (tAnd (tOfE (e2 inD (eVar 6) (eN mkTup (aCons (eK (.str "let")) (aCons (eK (.str "each")) (aNil)))))) (tOfE (e2 eqD (eVar 9) (eK (.int 1))))) (sAsg (eVar 3) (gSub (eVar 11) (eVar 7))) (sSkip))
    (sExpr (eBM "list" appendD (eVar 2) (aCons (eN mkTup (aCons (e2 addD (eVar 3) (eN mkTup (aCons (eVar 9) (aNil)))) (aCons (eVar 10) (aCons (e1 frzD (eVar 11)) (aNil))))) (aNil)))))))))) fuel)
    (sRet (eVar 1)))
def m_law_told (F : Nat → FN) : SD :=
    sSeq (sAsg (eN mkTup (aCons (eK .non) (aCons (eK .non) (aNil)))) (gTup [2, 3]))
    (sSeq (sTry (sAsg (eN (callK (F 6) []) (aCons (eVar 0) (aCons (eVar 1) (aNil)))) (gName 2)) [⟨["NoPlace", "NoName"], [], (some 4), sAsg (eVar 4) (gName 3)⟩])
    (sSeq (sIf (tOfE (e2 isNonD (eVar 3) (eK .non))) (sRet (eVar 2)) (sSkip))
    (sSeq (sAsg (eN mkLst (aCons (e1 (isxD ["NoPlace"] ["NoName"]) (eVar 3)) (aCons (e1 (isxD ["NoName"] ["NoPlace"]) (eVar 3)) (aCons (e1 (isxD [] ["NoPlace", "NoName"]) (eVar 3)) (aNil))))) (gName 5))
    (sSeq (sIf (tOr (tOfE (e2 neD (eBM "list" countD (eVar 5) (aCons (eK (.bl true)) (aNil))) (eK (.int 1)))) (tOr (tTruth (e2 ixD (eVar 5) (eK (.int 2)))) (tNot (tTruth (e1 (isxD ["NoPlace", "NoName"] []) (eVar 3)))))) (sRet (eK (.str "other"))) (sSkip))
    (sSeq (sIf (tTruth (e2 ixD (eVar 5) (eK (.int 0)))) (sRet (eN mkLst (aCons (eK (.str "no place")) (aCons (e2 eqD (eN reprD (aCons (e1 (xfD ["NoPlace"] "place") (eVar 3)) (aNil))) (eN reprD (aCons (eVar 1) (aNil)))) (aNil))))) (sSkip))
    (sRet (eN mkLst (aCons (eK (.str "no name")) (aCons (e2 eqD (eN reprD (aCons (e1 (xfD ["NoName"] "name") (eVar 3)) (aNil))) (eN reprD (aCons (eVar 1) (aNil)))) (aNil))))))))))
def m_law (F : Nat → FN) : SD :=
    sSeq (sFor (iArgs range1 (aCons (eN maxD (aCons (eK (.int 1)) (aCons (eN minD (aCons (eK (.int 5)) (aCons (eN lenD (aCons (eVar 0) (aNil))) (aNil)))) (aNil)))) (aNil))) (gName 1) (sSeq (sAsg (eN (callK (F 7) []) (aCons (eVar 0) (aCons (eVar 1) (aNil)))) (gName 2))
    (sSeq (sAsg (eN (callK (F 13) []) (aCons (eVar 2) (aCons (e2 addD (eK (.int 6)) (eN (callK (F 8) []) (aCons (eVar 2) (aCons (eK (.int 22)) (aNil))))) (aNil)))) (gName 3))
    (sSeq (sPar [4, 5, 6] (aCons (eN reprD (aCons (eVar 3) (aNil))) (aCons (eN (callK (F 15) []) (aCons (eVar 3) (aNil))) (aCons (eN (callK (F 14) []) (aCons (eVar 3) (aNil))) (aNil)))))
    (sSeq (sFor (iSeq (eVar 6)) (gName 7) (sSeq (sAsg (eIf (tOfE (e2 inD (eVar 7) (eVar 5))) (e2 ixD (e2 ixD (eVar 5) (eVar 7)) (eK (.int 1))) (eN mkLst (aCons (eK (.str "no name")) (aCons (eK (.bl true)) (aNil))))) (gName 8))
    (sSeq (sIf (tOfE (e2 neD (eN reprD (aCons (eN (callK (F 16) []) (aCons (eVar 3) (aCons (eVar 7) (aNil)))) (aNil))) (eN reprD (aCons (eVar 8) (aNil))))) (sRet (eK (.bl false))) (sSkip))
    (sIf (tAnd (tOfE (e2 inD (eVar 7) (eVar 5))) (tOfE (e2 neD (eN reprD (aCons (eKw (kwK (F 6) 0 2 kbd_giver_at_0_place_program_g) aNil (aCons (eVar 7) (aCons (eVar 3) (aNil)))) (aNil))) (eN reprD (aCons (eVar 8) (aNil)))))) (sRet (eK (.bl false))) (sSkip)))))
    (sSeq (sFor (iArgs range1 (aCons (eK (.int 8)) (aNil))) (gName 9) (sSeq (sAsg (eN (callK (F 9) []) (aCons (eVar 2) (aCons (eVar 6) (aNil)))) (gName 7))
    (sSeq (sAsg (eN mkLst (aCons (e2 addD (eVar 7) (eN mkTup (aCons (eK (.int 6)) (aNil)))) (aCons (e2 addD (eVar 7) (eN mkTup (aCons (e1 negD (eK (.int 1))) (aNil)))) (aCons (e2 addD (eVar 7) (eN mkTup (aCons (eK (.bl true)) (aNil)))) (aCons (eN listD (aCons (eVar 7) (aNil))) (aCons (eK .non) (aCons (eK (.int 0)) (aCons (eK (.str "")) (aCons (eDic0) (aCons (eN mkTup (aCons (eK .non) (aNil))) (aCons (eN mkLst (aCons (eK (.int 0)) (aNil))) (aNil)))))))))))) (gName 10))
    (sSeq (sAsg (eN (callK (F 9) []) (aCons (eVar 2) (aCons (eVar 10) (aNil)))) (gName 11))
    (sIf (tOfE (e2 neD (eN (callK (F 16) []) (aCons (eVar 3) (aCons (eVar 11) (aNil)))) (eN mkLst (aCons (eK (.str "no place")) (aCons (eK (.bl true)) (aNil)))))) (sRet (eK (.bl false))) (sSkip))))))
    (sIf (tOfE (e2 neD (eN reprD (aCons (eVar 3) (aNil))) (eVar 4))) (sRet (eK (.bl false))) (sSkip))))))))
    (sRet (eK (.bl true)))
def tab (F : Nat → FN) : List FN := [run 1 1 (m_wall F),
  run 1 1 (m_is_whole F),
  run 3 3 (m_is_number F),
  run 2 4 (m_at F),
  run 2 14 (m_Scopes___init__ F),
  run 2 2 (m_Scopes_asked F),
  run 2 3 (m_giver_at F),
  run 2 4 (m_law_hand F),
  run 2 3 (m_law_take F),
  run 2 2 (m_law_pick F),
  run 2 13 (m_law_called F),
  run 1 1 (m_law_digit F),
  run 4 10 (m_law_grown F),
  run 2 3 (m_law_code F),
  run 1 5 (m_law_spots F),
  run 1 12 (m_law_givers F),
  run 2 6 (m_law_told F),
  run 1 12 (m_law F)]
def Fs : Nat → Nat → FN
  | 0, _ => fun _ _ => .bad
  | k + 1, i => (tab (Fs k)).getD i fun _ _ => .bad
theorem Fs_wall (k : Nat) : Fs (k + 1) 0 = run 1 1 (m_wall (Fs k)) := rfl
theorem Fs_is_whole (k : Nat) : Fs (k + 1) 1 = run 1 1 (m_is_whole (Fs k)) := rfl
theorem Fs_is_number (k : Nat) : Fs (k + 1) 2 = run 3 3 (m_is_number (Fs k)) := rfl
theorem Fs_at (k : Nat) : Fs (k + 1) 3 = run 2 4 (m_at (Fs k)) := rfl
theorem Fs_Scopes___init__ (k : Nat) : Fs (k + 1) 4 = run 2 14 (m_Scopes___init__ (Fs k)) := rfl
theorem Fs_Scopes_asked (k : Nat) : Fs (k + 1) 5 = run 2 2 (m_Scopes_asked (Fs k)) := rfl
theorem Fs_giver_at (k : Nat) : Fs (k + 1) 6 = run 2 3 (m_giver_at (Fs k)) := rfl
theorem Fs_law_hand (k : Nat) : Fs (k + 1) 7 = run 2 4 (m_law_hand (Fs k)) := rfl
theorem Fs_law_take (k : Nat) : Fs (k + 1) 8 = run 2 3 (m_law_take (Fs k)) := rfl
theorem Fs_law_pick (k : Nat) : Fs (k + 1) 9 = run 2 2 (m_law_pick (Fs k)) := rfl
theorem Fs_law_called (k : Nat) : Fs (k + 1) 10 = run 2 13 (m_law_called (Fs k)) := rfl
theorem Fs_law_digit (k : Nat) : Fs (k + 1) 11 = run 1 1 (m_law_digit (Fs k)) := rfl
theorem Fs_law_grown (k : Nat) : Fs (k + 1) 12 = run 4 10 (m_law_grown (Fs k)) := rfl
theorem Fs_law_code (k : Nat) : Fs (k + 1) 13 = run 2 3 (m_law_code (Fs k)) := rfl
theorem Fs_law_spots (k : Nat) : Fs (k + 1) 14 = run 1 5 (m_law_spots (Fs k)) := rfl
theorem Fs_law_givers (k : Nat) : Fs (k + 1) 15 = run 1 12 (m_law_givers (Fs k)) := rfl
theorem Fs_law_told (k : Nat) : Fs (k + 1) 16 = run 2 6 (m_law_told (Fs k)) := rfl
theorem Fs_law (k : Nat) : Fs (k + 1) 17 = run 1 12 (m_law (Fs k)) := rfl
end K04
set_option Elab.async false
set_option linter.all false
set_option maxRecDepth 100000
set_option maxHeartbeats 4000000
namespace K04
open PySem PySem.Spec PyProof.Rows L2 L3
def topS (i : Nat) : Stmt := PySem.Challenge.pw_holepatterns_k04_givers.main.body.getD i (.Pass ⟨0, 0, 0, 0⟩)
abbrev s_wall : Stmt := topS 0
abbrev N_wall : List Str := ["k"]
theorem sc_wall : FnScope N_wall ["k"] (defScope s_wall) := ⟨rfl, rfl, rfl, by decide +kernel, rfl, by decide +kernel, by decide +kernel⟩
abbrev s_is_whole : Stmt := topS 10
abbrev N_is_whole : List Str := ["thing"]
theorem sc_is_whole : FnScope N_is_whole ["thing"] (defScope s_is_whole) := ⟨rfl, rfl, rfl, by decide +kernel, rfl, by decide +kernel, by decide +kernel⟩
abbrev s_is_number : Stmt := topS 11
abbrev N_is_number : List Str := ["thing", "low", "high"]
theorem sc_is_number : FnScope N_is_number ["thing", "low", "high"] (defScope s_is_number) := ⟨rfl, rfl, rfl, by decide +kernel, rfl, by decide +kernel, by decide +kernel⟩
abbrev s_at : Stmt := topS 13
abbrev N_at : List Str := ["program", "place", "thing", "number"]
theorem sc_at : FnScope N_at ["program", "place"] (defScope s_at) := ⟨rfl, rfl, rfl, by decide +kernel, rfl, by decide +kernel, by decide +kernel⟩
abbrev s_Scopes___init__ : Stmt := inClass (topS 17) 0
abbrev N_Scopes___init__ : List Str := ["self", "program", "waiting", "place", "thing", "known", "word", "mark", "parts", "number", "part", "inner", "giver", "name"]
theorem sc_Scopes___init__ : FnScope N_Scopes___init__ ["self", "program"] (defScope s_Scopes___init__) := ⟨rfl, rfl, rfl, by decide +kernel, rfl, by decide +kernel, by decide +kernel⟩
abbrev s_Scopes_asked : Stmt := inClass (topS 17) 1
abbrev N_Scopes_asked : List Str := ["self", "outer"]
theorem sc_Scopes_asked : FnScope N_Scopes_asked ["self", "outer"] (defScope s_Scopes_asked) := ⟨rfl, rfl, rfl, by decide +kernel, rfl, by decide +kernel, by decide +kernel⟩
abbrev s_giver_at : Stmt := topS 18
abbrev N_giver_at : List Str := ["program", "place", "scopes"]
theorem sc_giver_at : FnScope N_giver_at ["program", "place"] (defScope s_giver_at) := ⟨rfl, rfl, rfl, by decide +kernel, rfl, by decide +kernel, by decide +kernel⟩
abbrev s_law_hand : Stmt := topS 20
abbrev N_law_hand : List Str := ["_law_script", "_law_k", "_law_cell", "_law_great"]
theorem sc_law_hand : FnScope N_law_hand ["_law_script", "_law_k"] (defScope s_law_hand) := ⟨rfl, rfl, rfl, by decide +kernel, rfl, by decide +kernel, by decide +kernel⟩
abbrev s_law_take : Stmt := topS 21
abbrev N_law_take : List Str := ["_law_hand_here", "_law_many", "_law_digit_here"]
theorem sc_law_take : FnScope N_law_take ["_law_hand_here", "_law_many"] (defScope s_law_take) := ⟨rfl, rfl, rfl, by decide +kernel, rfl, by decide +kernel, by decide +kernel⟩
abbrev s_law_pick : Stmt := topS 22
abbrev N_law_pick : List Str := ["_law_hand_here", "_law_some"]
theorem sc_law_pick : FnScope N_law_pick ["_law_hand_here", "_law_some"] (defScope s_law_pick) := ⟨rfl, rfl, rfl, by decide +kernel, rfl, by decide +kernel, by decide +kernel⟩
abbrev s_law_called : Stmt := topS 23
abbrev N_law_called : List Str := ["_law_hand_here", "_law_many", "_law_letters", "_law_shut", "_law_first", "_law_by", "_law_k", "_law_stem", "_law_spot", "_law_found", "_law_n", "_law_pair", "_law_word"]
theorem sc_law_called : FnScope N_law_called ["_law_hand_here", "_law_many"] (defScope s_law_called) := ⟨rfl, rfl, rfl, by decide +kernel, rfl, by decide +kernel, by decide +kernel⟩
abbrev s_law_digit : Stmt := topS 24
abbrev N_law_digit : List Str := ["_law_hand_here"]
theorem sc_law_digit : FnScope N_law_digit ["_law_hand_here"] (defScope s_law_digit) := ⟨rfl, rfl, rfl, by decide +kernel, rfl, by decide +kernel, by decide +kernel⟩
abbrev s_law_grown : Stmt := topS 25
abbrev N_law_grown : List Str := ["_law_hand_here", "_law_pot", "_law_scope", "_law_level", "_law_lot", "_law_many", "_law_word", "_law_k", "_law_given", "_law_first"]
theorem sc_law_grown : FnScope N_law_grown ["_law_hand_here", "_law_pot", "_law_scope", "_law_level"] (defScope s_law_grown) := ⟨rfl, rfl, rfl, by decide +kernel, rfl, by decide +kernel, by decide +kernel⟩
abbrev s_law_code : Stmt := topS 26
abbrev N_law_code : List Str := ["_law_hand_here", "_law_size", "_law_pool"]
theorem sc_law_code : FnScope N_law_code ["_law_hand_here", "_law_size"] (defScope s_law_code) := ⟨rfl, rfl, rfl, by decide +kernel, rfl, by decide +kernel, by decide +kernel⟩
abbrev s_law_spots : Stmt := topS 27
abbrev N_law_spots : List Str := ["_law_code_here", "_law_found", "_law_k", "_law_part", "_law_spot"]
theorem sc_law_spots : FnScope N_law_spots ["_law_code_here"] (defScope s_law_spots) := ⟨rfl, rfl, rfl, by decide +kernel, rfl, by decide +kernel, by decide +kernel⟩
abbrev s_law_givers : Stmt := topS 28
abbrev N_law_givers : List Str := ["_law_code_here", "_law_found", "_law_waiting", "_law_spot", "_law_made", "_law_known", "_law_word", "_law_mark", "_law_parts", "_law_k", "_law_part", "_law_inner"]
theorem sc_law_givers : FnScope N_law_givers ["_law_code_here"] (defScope s_law_givers) := ⟨rfl, rfl, rfl, by decide +kernel, rfl, by decide +kernel, by decide +kernel⟩
abbrev s_law_told : Stmt := topS 29
abbrev N_law_told : List Str := ["_law_made", "_law_spot", "_law_found", "_law_caught", "e", "_law_marks"]
theorem sc_law_told : FnScope N_law_told ["_law_made", "_law_spot"] (defScope s_law_told) := ⟨rfl, rfl, rfl, by decide +kernel, rfl, by decide +kernel, by decide +kernel⟩
abbrev s_law : Stmt := topS 30
abbrev N_law : List Str := ["_law_script", "_law_k", "_law_hand_here", "_law_made", "_law_kept", "_law_own", "_law_spots_here", "_law_spot", "_law_due", "_law_turn", "_law_odds", "_law_odd"]
theorem sc_law : FnScope N_law ["_law_script"] (defScope s_law) := ⟨rfl, rfl, rfl, by decide +kernel, rfl, by decide +kernel, by decide +kernel⟩
abbrev s_NoName___init__ : Stmt := inClass (topS 6) 0
abbrev N_NoName___init__ : List Str := ["self", "name"]
theorem sc_NoName___init__ : FnScope N_NoName___init__ ["self", "name"] (defScope s_NoName___init__) := ⟨rfl, rfl, rfl, by decide +kernel, rfl, by decide +kernel, by decide +kernel⟩
abbrev s_NoPlace___init__ : Stmt := inClass (topS 5) 0
abbrev N_NoPlace___init__ : List Str := ["self", "place"]
theorem sc_NoPlace___init__ : FnScope N_NoPlace___init__ ["self", "place"] (defScope s_NoPlace___init__) := ⟨rfl, rfl, rfl, by decide +kernel, rfl, by decide +kernel, by decide +kernel⟩
structure Txt (K : PySem.W.Frag) (w : World) (mg : Str → Option Value) (fa : Nat → Addr) (fd : Nat → FuncData) : Prop where
  z_LookupError : mg "LookupError" = none
  z_abs : mg "abs" = none
  z_bool : mg "bool" = none
  z_dict : mg "dict" = none
  z_enumerate : mg "enumerate" = none
  z_int : mg "int" = none
  z_isinstance : mg "isinstance" = none
  z_len : mg "len" = none
  z_list : mg "list" = none
  z_max : mg "max" = none
  z_min : mg "min" = none
  z_range : mg "range" = none
  z_repr : mg "repr" = none
  z_tuple : mg "tuple" = none
  c_GIVERS : GRep ⟨K, w, mg⟩ "GIVERS" c_GIVERS
  c_NAME : GRep ⟨K, w, mg⟩ "NAME" c_NAME
  g_wall : mg "_wall" = some (.ref (fa 0))
  F_wall : FunD K "_wall" "_wall" (defArgs s_wall) (defBody s_wall) (defScope s_wall) [] [] (fa 0) (fd 0)
  g_is_whole : mg "is_whole" = some (.ref (fa 1))
  F_is_whole : FunD K "is_whole" "is_whole" (defArgs s_is_whole) (defBody s_is_whole) (defScope s_is_whole) [] [] (fa 1) (fd 1)
  g_is_number : mg "is_number" = some (.ref (fa 2))
  F_is_number : FunD K "is_number" "is_number" (defArgs s_is_number) (defBody s_is_number) (defScope s_is_number) [] [("low", .int 0), ("high", .int 9972)] (fa 2) (fd 2)
  g_at : mg "at" = some (.ref (fa 3))
  F_at : FunD K "at" "at" (defArgs s_at) (defBody s_at) (defScope s_at) [] [] (fa 3) (fd 3)
  F_Scopes___init__ : FunD K "__init__" "Scopes.__init__" (defArgs s_Scopes___init__) (defBody s_Scopes___init__) (defScope s_Scopes___init__) [] [] (fa 4) (fd 4)
  F_Scopes_asked : FunD K "asked" "Scopes.asked" (defArgs s_Scopes_asked) (defBody s_Scopes_asked) (defScope s_Scopes_asked) [] [] (fa 5) (fd 5)
  g_giver_at : mg "giver_at" = some (.ref (fa 6))
  F_giver_at : FunD K "giver_at" "giver_at" (defArgs s_giver_at) (defBody s_giver_at) (defScope s_giver_at) [] [] (fa 6) (fd 6)
  g_law_hand : mg "_law_hand" = some (.ref (fa 7))
  F_law_hand : FunD K "_law_hand" "_law_hand" (defArgs s_law_hand) (defBody s_law_hand) (defScope s_law_hand) [] [] (fa 7) (fd 7)
  g_law_take : mg "_law_take" = some (.ref (fa 8))
  F_law_take : FunD K "_law_take" "_law_take" (defArgs s_law_take) (defBody s_law_take) (defScope s_law_take) [] [] (fa 8) (fd 8)
  g_law_pick : mg "_law_pick" = some (.ref (fa 9))
  F_law_pick : FunD K "_law_pick" "_law_pick" (defArgs s_law_pick) (defBody s_law_pick) (defScope s_law_pick) [] [] (fa 9) (fd 9)
  g_law_called : mg "_law_called" = some (.ref (fa 10))
  F_law_called : FunD K "_law_called" "_law_called" (defArgs s_law_called) (defBody s_law_called) (defScope s_law_called) [] [] (fa 10) (fd 10)
  g_law_digit : mg "_law_digit" = some (.ref (fa 11))
  F_law_digit : FunD K "_law_digit" "_law_digit" (defArgs s_law_digit) (defBody s_law_digit) (defScope s_law_digit) [] [] (fa 11) (fd 11)
  g_law_grown : mg "_law_grown" = some (.ref (fa 12))
  F_law_grown : FunD K "_law_grown" "_law_grown" (defArgs s_law_grown) (defBody s_law_grown) (defScope s_law_grown) [] [] (fa 12) (fd 12)
  g_law_code : mg "_law_code" = some (.ref (fa 13))
  F_law_code : FunD K "_law_code" "_law_code" (defArgs s_law_code) (defBody s_law_code) (defScope s_law_code) [] [] (fa 13) (fd 13)
  g_law_spots : mg "_law_spots" = some (.ref (fa 14))
  F_law_spots : FunD K "_law_spots" "_law_spots" (defArgs s_law_spots) (defBody s_law_spots) (defScope s_law_spots) [] [] (fa 14) (fd 14)
  g_law_givers : mg "_law_givers" = some (.ref (fa 15))
  F_law_givers : FunD K "_law_givers" "_law_givers" (defArgs s_law_givers) (defBody s_law_givers) (defScope s_law_givers) [] [] (fa 15) (fd 15)
  g_law_told : mg "_law_told" = some (.ref (fa 16))
  F_law_told : FunD K "_law_told" "_law_told" (defArgs s_law_told) (defBody s_law_told) (defScope s_law_told) [] [] (fa 16) (fd 16)
  g_law : mg "law" = some (.ref (fa 17))
  F_law : FunD K "law" "law" (defArgs s_law) (defBody s_law) (defScope s_law) [] [] (fa 17) (fd 17)
  ca_Scopes : mg "Scopes" = some (.ref (fa 18))
  mk_Scopes___init__ : Mk K (fa 18) (fa 4)
  mt_Scopes_asked : ∃ C, mg "Scopes" = some (.ref C) ∧ Cls K C ∧ Meth K C "asked" (fa 5)
  ca_Halted : mg "Halted" = some (.ref (fa 21))
  ca_Missing : mg "Missing" = some (.ref (fa 20))
  ca_NoName : mg "NoName" = some (.ref (fa 23))
  ca_NoNumber : mg "NoNumber" = some (.ref (fa 24))
  ca_NoPlace : mg "NoPlace" = some (.ref (fa 22))
  ca_Refused : mg "Refused" = some (.ref (fa 19))
  xd_Halted : XcD K (fa 21)
  xd_Missing : XcD K (fa 20)
  xd_NoName : XcD K (fa 23)
  xd_NoNumber : XcD K (fa 24)
  xd_NoPlace : XcD K (fa 22)
  xd_Refused : XcD K (fa 19)
  xi_NoName : XcI K (fa 23)
  xi_NoPlace : XcI K (fa 22)
  xs_NoName__Halted : PySem.W.subIn K (.ref (fa 23)) (.ref (fa 21)) = some false
  xs_NoName__LookupError : PySem.W.subIn K (.ref (fa 23)) (.type "LookupError") = some true
  xs_NoName__Missing : PySem.W.subIn K (.ref (fa 23)) (.ref (fa 20)) = some true
  xs_NoName__NoName : PySem.W.subIn K (.ref (fa 23)) (.ref (fa 23)) = some true
  xs_NoName__NoNumber : PySem.W.subIn K (.ref (fa 23)) (.ref (fa 24)) = some false
  xs_NoName__NoPlace : PySem.W.subIn K (.ref (fa 23)) (.ref (fa 22)) = some false
  xs_NoName__Refused : PySem.W.subIn K (.ref (fa 23)) (.ref (fa 19)) = some false
  xs_NoPlace__Halted : PySem.W.subIn K (.ref (fa 22)) (.ref (fa 21)) = some false
  xs_NoPlace__LookupError : PySem.W.subIn K (.ref (fa 22)) (.type "LookupError") = some true
  xs_NoPlace__Missing : PySem.W.subIn K (.ref (fa 22)) (.ref (fa 20)) = some true
  xs_NoPlace__NoName : PySem.W.subIn K (.ref (fa 22)) (.ref (fa 23)) = some false
  xs_NoPlace__NoNumber : PySem.W.subIn K (.ref (fa 22)) (.ref (fa 24)) = some false
  xs_NoPlace__NoPlace : PySem.W.subIn K (.ref (fa 22)) (.ref (fa 22)) = some true
  xs_NoPlace__Refused : PySem.W.subIn K (.ref (fa 22)) (.ref (fa 19)) = some false
  xn_NoName : PySem.W.findIn K (.ref (fa 23)) "name" = some none
  xn_NoPlace : PySem.W.findIn K (.ref (fa 22)) "place" = some none
  xo_NoName : ∃ B n i bm, Oxc K (fa 23) B n i bm
  xc_NoName : PySem.W.findIn K (.ref (fa 23)) "__init__" = some (some (.ref (fa 29)))
  xt_NoName : PySem.W.typeIn K (.ref (fa 29)) = some (.type "function")
  F_NoName___init__ : FunD K "__init__" "NoName.__init__" (defArgs s_NoName___init__) (defBody s_NoName___init__) (defScope s_NoName___init__) [] [] (fa 29) (fd 29)
  xo_NoPlace : ∃ B n i bm, Oxc K (fa 22) B n i bm
  xc_NoPlace : PySem.W.findIn K (.ref (fa 22)) "__init__" = some (some (.ref (fa 28)))
  xt_NoPlace : PySem.W.typeIn K (.ref (fa 28)) = some (.type "function")
  F_NoPlace___init__ : FunD K "__init__" "NoPlace.__init__" (defArgs s_NoPlace___init__) (defBody s_NoPlace___init__) (defScope s_NoPlace___init__) [] [] (fa 28) (fd 28)
  fo_givers : FldOk ⟨K, w, mg⟩ ["Scopes"] "givers"
  fo_names : FldOk ⟨K, w, mg⟩ ["Scopes"] "names"
section
variable {P : Program} {K : PySem.W.Frag} {w : World} {mg : Str → Option Value} {base : Heap} {fa : Nat → Addr} {fd : Nat → FuncData}
theorem Txt.bnd_wall (T : Txt K w mg fa fd) : Bnd ⟨K, w, mg⟩ (fd 0) ["k"] [] := bnd0 (T.F_wall.bindsN fun _ _ _ _ _ _ us hl => match us, hl with | [_], _ => rfl)
theorem Txt.bnd_is_whole (T : Txt K w mg fa fd) : Bnd ⟨K, w, mg⟩ (fd 1) ["thing"] [] := bnd0 (T.F_is_whole.bindsN fun _ _ _ _ _ _ us hl => match us, hl with | [_], _ => rfl)
theorem Txt.bnd_at (T : Txt K w mg fa fd) : Bnd ⟨K, w, mg⟩ (fd 3) ["program", "place"] [] := bnd0 (T.F_at.bindsN fun _ _ _ _ _ _ us hl => match us, hl with | [_, _], _ => rfl)
theorem Txt.bnd_Scopes___init__ (T : Txt K w mg fa fd) : Bnd ⟨K, w, mg⟩ (fd 4) ["self", "program"] [] := bnd0 (T.F_Scopes___init__.bindsN fun _ _ _ _ _ _ us hl => match us, hl with | [_, _], _ => rfl)
theorem Txt.bnd_Scopes_asked (T : Txt K w mg fa fd) : Bnd ⟨K, w, mg⟩ (fd 5) ["self", "outer"] [] := bnd0 (T.F_Scopes_asked.bindsN fun _ _ _ _ _ _ us hl => match us, hl with | [_, _], _ => rfl)
theorem Txt.bnd_giver_at (T : Txt K w mg fa fd) : Bnd ⟨K, w, mg⟩ (fd 6) ["program", "place"] [] := bnd0 (T.F_giver_at.bindsN fun _ _ _ _ _ _ us hl => match us, hl with | [_, _], _ => rfl)
theorem Txt.bnd_law_hand (T : Txt K w mg fa fd) : Bnd ⟨K, w, mg⟩ (fd 7) ["_law_script", "_law_k"] [] := bnd0 (T.F_law_hand.bindsN fun _ _ _ _ _ _ us hl => match us, hl with | [_, _], _ => rfl)
theorem Txt.bnd_law_take (T : Txt K w mg fa fd) : Bnd ⟨K, w, mg⟩ (fd 8) ["_law_hand_here", "_law_many"] [] := bnd0 (T.F_law_take.bindsN fun _ _ _ _ _ _ us hl => match us, hl with | [_, _], _ => rfl)
theorem Txt.bnd_law_pick (T : Txt K w mg fa fd) : Bnd ⟨K, w, mg⟩ (fd 9) ["_law_hand_here", "_law_some"] [] := bnd0 (T.F_law_pick.bindsN fun _ _ _ _ _ _ us hl => match us, hl with | [_, _], _ => rfl)
theorem Txt.bnd_law_called (T : Txt K w mg fa fd) : Bnd ⟨K, w, mg⟩ (fd 10) ["_law_hand_here", "_law_many"] [] := bnd0 (T.F_law_called.bindsN fun _ _ _ _ _ _ us hl => match us, hl with | [_, _], _ => rfl)
theorem Txt.bnd_law_digit (T : Txt K w mg fa fd) : Bnd ⟨K, w, mg⟩ (fd 11) ["_law_hand_here"] [] := bnd0 (T.F_law_digit.bindsN fun _ _ _ _ _ _ us hl => match us, hl with | [_], _ => rfl)
theorem Txt.bnd_law_grown (T : Txt K w mg fa fd) : Bnd ⟨K, w, mg⟩ (fd 12) ["_law_hand_here", "_law_pot", "_law_scope", "_law_level"] [] := bnd0 (T.F_law_grown.bindsN fun _ _ _ _ _ _ us hl => match us, hl with | [_, _, _, _], _ => rfl)
theorem Txt.bnd_law_code (T : Txt K w mg fa fd) : Bnd ⟨K, w, mg⟩ (fd 13) ["_law_hand_here", "_law_size"] [] := bnd0 (T.F_law_code.bindsN fun _ _ _ _ _ _ us hl => match us, hl with | [_, _], _ => rfl)
theorem Txt.bnd_law_spots (T : Txt K w mg fa fd) : Bnd ⟨K, w, mg⟩ (fd 14) ["_law_code_here"] [] := bnd0 (T.F_law_spots.bindsN fun _ _ _ _ _ _ us hl => match us, hl with | [_], _ => rfl)
theorem Txt.bnd_law_givers (T : Txt K w mg fa fd) : Bnd ⟨K, w, mg⟩ (fd 15) ["_law_code_here"] [] := bnd0 (T.F_law_givers.bindsN fun _ _ _ _ _ _ us hl => match us, hl with | [_], _ => rfl)
theorem Txt.bnd_law_told (T : Txt K w mg fa fd) : Bnd ⟨K, w, mg⟩ (fd 16) ["_law_made", "_law_spot"] [] := bnd0 (T.F_law_told.bindsN fun _ _ _ _ _ _ us hl => match us, hl with | [_, _], _ => rfl)
theorem Txt.bnd_law (T : Txt K w mg fa fd) : Bnd ⟨K, w, mg⟩ (fd 17) ["_law_script"] [] := bnd0 (T.F_law.bindsN fun _ _ _ _ _ _ us hl => match us, hl with | [_], _ => rfl)
theorem Txt.kbd_giver_at_0_place_program (T : Txt K w mg fa fd) : Kbd ⟨K, w, mg⟩ (fd 6) ["program", "place"] 0 ["place", "program"] kbd_giver_at_0_place_program_g := by
  obtain ⟨oc, od, dV, kV, doc, pm, an, cdv, ct, osl, e, _, _, hD, _⟩ := T.F_giver_at.ex
  obtain rfl : dV = .none := hD.elim (fun h => h.2) fun h => absurd rfl h.1
  refine kbd_of _ fun s us ws h1 h2 => ?_
  rw [e]
  match us, h1, ws, h2 with
  | [], _, [_, _], _ => exact .of_eq rfl
theorem Txt.kbd_is_number_1_high (T : Txt K w mg fa fd) : Kbd ⟨K, w, mg⟩ (fd 2) ["thing", "low", "high"] 1 ["high"] kbd_is_number_1_high_g :=
  kbd3_of (G := ⟨K, w, mg⟩) T.F_is_number 1 ["high"] [("low", .int 0)] [(.int 0)] kbd_is_number_1_high_s (by simp) (by simp) (fun w => by simp [RepL, Rep]) fun D doc pm an cdv ct us mv ws h1 h2 h3 => match us, h1, mv, h2, ws, h3 with
    | [_], _, [_], _, [_], _ => ⟨_, _, _, _, _, _, rfl, rfl, rfl⟩
theorem Txt.bnd_NoName___init__ (T : Txt K w mg fa fd) : Binds K (fd 29) ["self", "name"] [] := T.F_NoName___init__.bindsN fun _ _ _ _ _ _ us hl => match us, hl with | [_, _], _ => rfl
theorem Txt.x1_NoName (T : Txt K w mg fa fd) (P : Program) (base : Heap) : Xc1 P w ⟨K, w, mg⟩ base 1 "NoName" "name" (fa 23) :=
  ⟨T.ca_NoName, T.xo_NoName, T.xn_NoName, _, _, _, T.xc_NoName, T.xt_NoName, by
    obtain ⟨B, n, i, bm, ox⟩ := T.xo_NoName
    exact init_ok (mg := mg) T.F_NoName___init__ sc_NoName___init__ rfl fun _ _ _ _ _ _ => pss_one (ps_sto ox T.xn_NoName (pv 0) (pv 1)), T.bnd_NoName___init__⟩
theorem Txt.bnd_NoPlace___init__ (T : Txt K w mg fa fd) : Binds K (fd 28) ["self", "place"] [] := T.F_NoPlace___init__.bindsN fun _ _ _ _ _ _ us hl => match us, hl with | [_, _], _ => rfl
theorem Txt.x1_NoPlace (T : Txt K w mg fa fd) (P : Program) (base : Heap) : Xc1 P w ⟨K, w, mg⟩ base 1 "NoPlace" "place" (fa 22) :=
  ⟨T.ca_NoPlace, T.xo_NoPlace, T.xn_NoPlace, _, _, _, T.xc_NoPlace, T.xt_NoPlace, by
    obtain ⟨B, n, i, bm, ox⟩ := T.xo_NoPlace
    exact init_ok (mg := mg) T.F_NoPlace___init__ sc_NoPlace___init__ rfl fun _ _ _ _ _ _ => pss_one (ps_sto ox T.xn_NoPlace (pv 0) (pv 1)), T.bnd_NoPlace___init__⟩
end
theorem b_wall {P : Program} {K : PySem.W.Frag} {w : World} {mg : Str → Option Value} {base : Heap} {fa : Nat → Addr} {fd : Nat → FuncData} {F : Nat → FN} {k : Nat} (h1 : 1 ≤ k) (hM : ∃ o, base.get? sysModules = some o) (T : Txt K w mg fa fd) (cdv : Value) (A : Around) (outer : List Env) (s : Shared) (H : Hp) (E : XK)
    (hrM : RoomG (k + 1) (A.deeper (envOfC "_wall" (defScope s_wall) s.heap.objs.size (fa 0) cdv))) :
    PSs (cxOf (L2.CX P w) P w K mg base N_wall "_wall" (defScope s_wall) (fa 0) cdv A outer s H E) (defBody s_wall) (tS ⟨K, w, mg⟩ (m_wall F) (WE0 E)) :=
  have hr := hrM.mono (Nat.le_succ _)
  have hr2 : RoomG 2 _ := hrM.mono (Nat.succ_le_succ h1)
  q_sone (q_sbad)
theorem b_is_whole {P : Program} {K : PySem.W.Frag} {w : World} {mg : Str → Option Value} {base : Heap} {fa : Nat → Addr} {fd : Nat → FuncData} {F : Nat → FN} {k : Nat} (h1 : 1 ≤ k) (hM : ∃ o, base.get? sysModules = some o) (T : Txt K w mg fa fd) (cdv : Value) (A : Around) (outer : List Env) (s : Shared) (H : Hp) (E : XK)
    (hrM : RoomG (k + 1) (A.deeper (envOfC "is_whole" (defScope s_is_whole) s.heap.objs.size (fa 1) cdv))) :
    PSs (cxOf (L2.CX P w) P w K mg base N_is_whole "is_whole" (defScope s_is_whole) (fa 1) cdv A outer s H E) (defBody s_is_whole) (tS ⟨K, w, mg⟩ (m_is_whole F) (WE0 E)) :=
  have hr := hrM.mono (Nat.le_succ _)
  have hr2 : RoomG 2 _ := hrM.mono (Nat.succ_le_succ h1)
  q_sone (q_ret (q_eand (q_callB (o_isi (by rfl)) c_isi (by rfl) T.z_isinstance b_isinstance (q_cons (q_var (pv 0)) (q_cons (q_ty T.z_int b_int (by rfl)) (q_nil)))) (q_eone (q_enot (q_callB (o_isi (by rfl)) c_isi (by rfl) T.z_isinstance b_isinstance (q_cons (q_var (pv 0)) (q_cons (q_ty T.z_bool b_bool (by rfl)) (q_nil))))))))
theorem b_is_number {P : Program} {K : PySem.W.Frag} {w : World} {mg : Str → Option Value} {base : Heap} {fa : Nat → Addr} {fd : Nat → FuncData} {F : Nat → FN} {k : Nat} (h1 : 1 ≤ k) (hM : ∃ o, base.get? sysModules = some o) (T : Txt K w mg fa fd) (C_is_whole : Cal P w ⟨K, w, mg⟩ base k "is_whole" (fa 1) (fd 1) ["thing"] (F 1)) (cdv : Value) (A : Around) (outer : List Env) (s : Shared) (H : Hp) (E : XK)
    (hrM : RoomG (k + 1) (A.deeper (envOfC "is_number" (defScope s_is_number) s.heap.objs.size (fa 2) cdv))) :
    PSs (cxOf (L2.CX P w) P w K mg base N_is_number "is_number" (defScope s_is_number) (fa 2) cdv A outer s H E) (defBody s_is_number) (tS ⟨K, w, mg⟩ (m_is_number F) (WE0 E)) :=
  have hr := hrM.mono (Nat.le_succ _)
  have hr2 : RoomG 2 _ := hrM.mono (Nat.succ_le_succ h1)
  q_sone (q_ret (q_eand (q_fn C_is_whole T.bnd_is_whole hr (by rfl) (by rfl) (by rfl) tk_body (q_cons (q_var (pv 0)) (q_nil))) (q_eone (q_chain o_le c_le o_le c_le (q_var (pv 1)) (q_var (pv 0)) (q_var (pv 2))))))
theorem b_at {P : Program} {K : PySem.W.Frag} {w : World} {mg : Str → Option Value} {base : Heap} {fa : Nat → Addr} {fd : Nat → FuncData} {F : Nat → FN} {k : Nat} (h1 : 1 ≤ k) (hM : ∃ o, base.get? sysModules = some o) (T : Txt K w mg fa fd) (C_is_number : Cal P w ⟨K, w, mg⟩ base k "is_number" (fa 2) (fd 2) ["thing", "low", "high"] (F 2)) (cdv : Value) (A : Around) (outer : List Env) (s : Shared) (H : Hp) (E : XK)
    (hrM : RoomG (k + 1) (A.deeper (envOfC "at" (defScope s_at) s.heap.objs.size (fa 3) cdv))) :
    PSs (cxOf (L2.CX P w) P w K mg base N_at "at" (defScope s_at) (fa 3) cdv A outer s H E) (defBody s_at) (tS ⟨K, w, mg⟩ (m_at F) (WE0 E)) :=
  have hr := hrM.mono (Nat.le_succ _)
  have hr2 : RoomG 2 _ := hrM.mono (Nat.succ_le_succ h1)
  q_scons (q_if (q_tnot (q_truth (by rfl) (q_callB (o_isi (by rfl)) c_isi (by rfl) T.z_isinstance b_isinstance (q_cons (q_var (pv 1)) (q_cons (q_ty T.z_tuple b_tuple (by rfl)) (q_nil)))))) (q_sone (q_raise1 (k := 1) (T.x1_NoPlace P base) hr2 (by rfl) (by rfl) (by rfl) tk_body (by rfl) (q_var (pv 1)))) (q_snil))
    (q_scons (q_set (i := 2) sc_at.nd (by rfl) (.inl (by rfl)) (q_var (pv 0)))
    (q_scons (q_for po_body (by rfl) (q_iter (by rfl) (q_var (pv 1))) (q_gname (pg_name (i := 3) sc_at.nd (by rfl) (.inl (by rfl)))) (q_scons (q_if (q_tnot (q_truth (by rfl) (q_fnK C_is_number T.kbd_is_number_1_high hr (by rfl) (by rfl) (by rfl) tk_body (q_cons (q_var (pv 3)) (q_nil)) (q_kcons (q_op o_sub c_sub (q_callB (o_len (by rfl)) c_len (by rfl) T.z_len b_len (q_cons (q_ix (o_ix (by rfl) (by rfl) (u1 hr)) c_ix (q_var (pv 2)) (q_int) (fun _ _ => rfl)) (q_nil))) (q_int)) (q_knil))))) (q_sone (q_raise1 (k := 1) (T.x1_NoPlace P base) hr2 (by rfl) (by rfl) (by rfl) tk_body (by rfl) (q_var (pv 1)))) (q_snil))
    (q_sone (q_set (i := 2) sc_at.nd (by rfl) (.inl (by rfl)) (q_ix (o_ix (by rfl) (by rfl) (u1 hr)) c_ix (q_ix (o_ix (by rfl) (by rfl) (u1 hr)) c_ix (q_var (pv 2)) (q_int) (fun _ _ => rfl)) (q_var (pv 3)) (fun _ _ => rfl))))))
    (q_sone (q_ret (q_var (pv 2))))))
theorem b_Scopes___init__ {P : Program} {K : PySem.W.Frag} {w : World} {mg : Str → Option Value} {base : Heap} {fa : Nat → Addr} {fd : Nat → FuncData} {F : Nat → FN} {k : Nat} (h1 : 1 ≤ k) (hM : ∃ o, base.get? sysModules = some o) (T : Txt K w mg fa fd) (cdv : Value) (A : Around) (outer : List Env) (s : Shared) (H : Hp) (E : XK)
    (hrM : RoomG (k + 1) (A.deeper (envOfC "Scopes.__init__" (defScope s_Scopes___init__) s.heap.objs.size (fa 4) cdv))) :
    PSs (cxOf (L2.CX P w) P w K mg base N_Scopes___init__ "Scopes.__init__" (defScope s_Scopes___init__) (fa 4) cdv A outer s H E) (defBody s_Scopes___init__) (tS ⟨K, w, mg⟩ (m_Scopes___init__ F) (WE0 E)) :=
  have hr := hrM.mono (Nat.le_succ _)
  have hr2 : RoomG 2 _ := hrM.mono (Nat.succ_le_succ h1)
  q_scons (q_sfld (by rfl) T.fo_names (q_var (pv 0)) (q_dctT0))
    (q_scons (q_sfld (by rfl) T.fo_givers (q_var (pv 0)) (q_dctT0))
    (q_scons (q_set (i := 2) sc_Scopes___init__.nd (by rfl) (.inl (by rfl)) (q_obj (q_cons (q_tup (q_cons (q_tup (q_nil)) (q_cons (q_var (pv 1)) (q_cons (q_dic0) (q_nil))))) (q_nil))))
    (q_sone (q_while fuel po_body (q_tcmp o_gt c_gt (q_callB (o_len (by rfl)) c_len (by rfl) T.z_len b_len (q_cons (q_var (pv 2)) (q_nil))) (q_int) (nomark _)) (q_scons (q_asg (q_bm0 (by rfl) PySem.F.plainAttrs_list PySem.F.slot_list_pop PySem.F.type_list_pop o_pop c_pop (q_var (pv 2))) (q_gseq (by rfl) (by rfl) (q_gscons (pg_name (i := 3) sc_Scopes___init__.nd (by rfl) (.inl (by rfl))) (q_gscons (pg_name (i := 4) sc_Scopes___init__.nd (by rfl) (.inl (by rfl))) (q_gscons (pg_name (i := 5) sc_Scopes___init__.nd (by rfl) (.inl (by rfl))) (q_gsnil))))) (gn := gn_seq))
    (q_scons (q_asg (q_var (pv 4)) (q_gtup (by rfl) (by rfl) (q_gscons (pg_name (i := 6) sc_Scopes___init__.nd (by rfl) (.inl (by rfl))) (q_gscons (pg_name (i := 7) sc_Scopes___init__.nd (by rfl) (.inl (by rfl))) (q_gscons (pg_name (i := 8) sc_Scopes___init__.nd (by rfl) (.inl (by rfl))) (q_gsnil))))) (gn := gn_tup))
    (q_scons (q_if (q_tcmp (o_eq (by rfl) hr.units) c_eq (q_var (pv 6)) (q_cst T.c_NAME (by rfl) (by rfl)) (nomark _)) (q_scons (q_asg (q_var (pv 7)) (q_gsub (Wx := WE0 E) (u1 hr) (q_fld (by rfl) T.fo_names (q_var (pv 0))) (q_var (pv 3))) (gn := gn_sub))
    (q_sone (q_asg (q_bm (by rfl) PySem.F.plainAttrs_dict PySem.F.slot_dict_get PySem.F.type_dict_get (o_dget (u1 hr)) c_dget (q_var (pv 5)) (q_cons (q_var (pv 7)) (q_nil))) (q_gsub (Wx := WE0 E) (u1 hr) (q_fld (by rfl) T.fo_givers (q_var (pv 0))) (q_var (pv 3))) (gn := gn_sub)))) (q_snil))
    (q_sone (q_for po_body (by rfl) (q_enum (by rfl) (by rfl) T.z_enumerate (q_cons (q_var (pv 8)) (q_nil))) (q_gtup (by rfl) (by rfl) (q_gscons (pg_name (i := 9) sc_Scopes___init__.nd (by rfl) (.inl (by rfl))) (q_gscons (pg_name (i := 10) sc_Scopes___init__.nd (by rfl) (.inl (by rfl))) (q_gsnil)))) (q_scons (q_setCopy (i := 11) (s := 5) (a := 13) (b := 12) (own := [("name", 13), ("giver", 12)]) (by rfl) sc_Scopes___init__.nd (by rfl) (by rfl) (sw_trueD (by rfl) (by rfl) (by rfl) (by decide +kernel)) (pv 5) (blkOk_by (own := [("name", 13), ("giver", 12)]) (N := N_Scopes___init__) (sc := defScope s_Scopes___init__) (by decide +kernel)) (fun _ _ _ _ _ => pg_tup (by rfl) (pgs_cons (pg_name (i := 13) sc_Scopes___init__.nd (by rfl) (.inl (by rfl))) (pgs_cons (pg_name (i := 12) sc_Scopes___init__.nd (by rfl) (.inl (by rfl))) pgs_nil))) (fun _ _ _ _ _ => pv 13) (fun _ _ _ _ _ => pv 12) (by decide) (by decide) (by decide))
    (q_scons (q_if (q_tb (w_and (q_tcmp (o_in (by rfl) (by rfl) (u65 hr)) c_in (q_var (pv 6)) (q_cst T.c_GIVERS (by rfl) (by rfl)) (by rfl)) (w_and1 (q_tcmp (o_eq (by rfl) hr.units) c_eq (q_var (pv 9)) (q_int) (nomark _))))) (q_sone (q_asg (q_var (pv 3)) (q_gsub (Wx := WE0 E) (u1 hr) (q_var (pv 11)) (q_var (pv 7))) (gn := gn_sub))) (q_snil))
    (q_sone (q_expr (q_bm (by rfl) PySem.F.plainAttrs_list PySem.F.slot_list_append PySem.F.type_list_append o_append c_append (q_var (pv 2)) (q_cons (q_tup (q_cons (q_op (o_add (by rfl)) c_add (q_var (pv 3)) (q_tup (q_cons (q_var (pv 9)) (q_nil)))) (q_cons (q_var (pv 10)) (q_cons (q_frz (q_var (pv 11))) (q_nil))))) (q_nil))))))))))))))))
theorem b_Scopes_asked {P : Program} {K : PySem.W.Frag} {w : World} {mg : Str → Option Value} {base : Heap} {fa : Nat → Addr} {fd : Nat → FuncData} {F : Nat → FN} {k : Nat} (h1 : 1 ≤ k) (hM : ∃ o, base.get? sysModules = some o) (T : Txt K w mg fa fd) (C_wall : Cal P w ⟨K, w, mg⟩ base k "_wall" (fa 0) (fd 0) ["k"] (F 0)) (cdv : Value) (A : Around) (outer : List Env) (s : Shared) (H : Hp) (E : XK)
    (hrM : RoomG (k + 1) (A.deeper (envOfC "Scopes.asked" (defScope s_Scopes_asked) s.heap.objs.size (fa 5) cdv))) :
    PSs (cxOf (L2.CX P w) P w K mg base N_Scopes_asked "Scopes.asked" (defScope s_Scopes_asked) (fa 5) cdv A outer s H E) (defBody s_Scopes_asked) (tS ⟨K, w, mg⟩ (m_Scopes_asked F) (WE0 E)) :=
  have hr := hrM.mono (Nat.le_succ _)
  have hr2 : RoomG 2 _ := hrM.mono (Nat.succ_le_succ h1)
  q_sone (q_expr (q_fn C_wall T.bnd_wall hr (by rfl) (by rfl) (by rfl) tk_body (q_cons (q_int) (q_nil))))
theorem b_giver_at {P : Program} {K : PySem.W.Frag} {w : World} {mg : Str → Option Value} {base : Heap} {fa : Nat → Addr} {fd : Nat → FuncData} {F : Nat → FN} {k : Nat} (h1 : 1 ≤ k) (hM : ∃ o, base.get? sysModules = some o) (T : Txt K w mg fa fd) (C_Scopes___init__ : Mak P w ⟨K, w, mg⟩ base k "Scopes" (fa 18) (fa 4) (fd 4) ["self", "program"] (F 4)) (C_at : Cal P w ⟨K, w, mg⟩ base k "at" (fa 3) (fd 3) ["program", "place"] (F 3)) (cdv : Value) (A : Around) (outer : List Env) (s : Shared) (H : Hp) (E : XK)
    (hrM : RoomG (k + 1) (A.deeper (envOfC "giver_at" (defScope s_giver_at) s.heap.objs.size (fa 6) cdv))) :
    PSs (cxOf (L2.CX P w) P w K mg base N_giver_at "giver_at" (defScope s_giver_at) (fa 6) cdv A outer s H E) (defBody s_giver_at) (tS ⟨K, w, mg⟩ (m_giver_at F) (WE0 E)) :=
  have hr := hrM.mono (Nat.le_succ _)
  have hr2 : RoomG 2 _ := hrM.mono (Nat.succ_le_succ h1)
  q_scons (q_if (q_tcmp (o_ne (by rfl) hr.units) c_ne (q_ix (o_ix (by rfl) (by rfl) (u1 hr)) c_ix (q_fn C_at T.bnd_at hr (by rfl) (by rfl) (by rfl) tk_body (q_cons (q_var (pv 0)) (q_cons (q_var (pv 1)) (q_nil)))) (q_int) (fun _ _ => rfl)) (q_cst T.c_NAME (by rfl) (by rfl)) (nomark _)) (q_sone (q_raise1 (k := 1) (T.x1_NoName P base) hr2 (by rfl) (by rfl) (by rfl) tk_body (by rfl) (q_var (pv 1)))) (q_snil))
    (q_scons (q_set (i := 2) sc_giver_at.nd (by rfl) (.inl (by rfl)) (q_make C_Scopes___init__ T.bnd_Scopes___init__ hrM (by rfl) (by rfl) (by rfl) tk_body (q_cons (q_var (pv 0)) (q_nil))))
    (q_sone (q_ret (q_ix (o_ix (by rfl) (by rfl) (u1 hr)) c_ix (q_fld (by rfl) T.fo_givers (q_var (pv 2))) (q_var (pv 1)) (fun _ _ => rfl)))))
theorem b_law_hand {P : Program} {K : PySem.W.Frag} {w : World} {mg : Str → Option Value} {base : Heap} {fa : Nat → Addr} {fd : Nat → FuncData} {F : Nat → FN} {k : Nat} (h1 : 1 ≤ k) (hM : ∃ o, base.get? sysModules = some o) (T : Txt K w mg fa fd) (cdv : Value) (A : Around) (outer : List Env) (s : Shared) (H : Hp) (E : XK)
    (hrM : RoomG (k + 1) (A.deeper (envOfC "_law_hand" (defScope s_law_hand) s.heap.objs.size (fa 7) cdv))) :
    PSs (cxOf (L2.CX P w) P w K mg base N_law_hand "_law_hand" (defScope s_law_hand) (fa 7) cdv A outer s H E) (defBody s_law_hand) (tS ⟨K, w, mg⟩ (m_law_hand F) (WE0 E)) :=
  have hr := hrM.mono (Nat.le_succ _)
  have hr2 : RoomG 2 _ := hrM.mono (Nat.succ_le_succ h1)
  q_scons (q_set (i := 2) sc_law_hand.nd (by rfl) (.inl (by rfl)) (q_op (o_add (by rfl)) c_add (q_op o_mul c_mul (q_int) (q_var (pv 1))) (q_callB (o_len (by rfl)) c_len (by rfl) T.z_len b_len (q_cons (q_var (pv 0)) (q_nil)))))
    (q_scons (q_if (q_tcmp o_lt c_lt (q_var (pv 1)) (q_callB (o_len (by rfl)) c_len (by rfl) T.z_len b_len (q_cons (q_var (pv 0)) (q_nil))) (nomark _)) (q_sone (q_set (i := 2) sc_law_hand.nd (by rfl) (.inl (by rfl)) (q_ix (o_ix (by rfl) (by rfl) (u1 hr)) c_ix (q_var (pv 0)) (q_var (pv 1)) (fun _ _ => rfl)))) (q_snil))
    (q_scons (q_set (i := 3) sc_law_hand.nd (by rfl) (.inl (by rfl)) (q_op o_mul c_mul (q_op o_mod c_mod (q_callB o_abs c_abs (by rfl) T.z_abs b_abs (q_cons (q_var (pv 2)) (q_nil))) (q_op o_pow c_pow (q_op o_pow c_pow (q_int) (q_int)) (q_int))) (q_callTy o_int c_int (by rfl) T.z_int b_int (q_cons (q_cmp o_ge c_ge (q_callB o_abs c_abs (by rfl) T.z_abs b_abs (q_cons (q_var (pv 2)) (q_nil))) (q_op o_pow c_pow (q_int) (q_int)) (nomark _)) (q_nil)))))
    (q_sone (q_ret (q_obj (q_cons (q_var (pv 3)) (q_cons (q_op o_mod c_mod (q_op o_mul c_mul (q_op (o_add (by rfl)) c_add (q_op (o_add (by rfl)) c_add (q_op o_mod c_mod (q_var (pv 2)) (q_int)) (q_op o_mul c_mul (q_op o_mul c_mul (q_int) (q_var (pv 1))) (q_var (pv 1)))) (q_int)) (q_int)) (q_int)) (q_nil))))))))
theorem b_law_take {P : Program} {K : PySem.W.Frag} {w : World} {mg : Str → Option Value} {base : Heap} {fa : Nat → Addr} {fd : Nat → FuncData} {F : Nat → FN} {k : Nat} (h1 : 1 ≤ k) (hM : ∃ o, base.get? sysModules = some o) (T : Txt K w mg fa fd) (cdv : Value) (A : Around) (outer : List Env) (s : Shared) (H : Hp) (E : XK)
    (hrM : RoomG (k + 1) (A.deeper (envOfC "_law_take" (defScope s_law_take) s.heap.objs.size (fa 8) cdv))) :
    PSs (cxOf (L2.CX P w) P w K mg base N_law_take "_law_take" (defScope s_law_take) (fa 8) cdv A outer s H E) (defBody s_law_take) (tS ⟨K, w, mg⟩ (m_law_take F) (WE0 E)) :=
  have hr := hrM.mono (Nat.le_succ _)
  have hr2 : RoomG 2 _ := hrM.mono (Nat.succ_le_succ h1)
  q_scons (q_if (q_tcmp o_gt c_gt (q_ix (o_ix (by rfl) (by rfl) (u1 hr)) c_ix (q_var (pv 0)) (q_int) (fun _ _ => rfl)) (q_int) (nomark _)) (q_scons (q_set (i := 2) sc_law_take.nd (by rfl) (.inl (by rfl)) (q_op o_mod c_mod (q_ix (o_ix (by rfl) (by rfl) (u1 hr)) c_ix (q_var (pv 0)) (q_int) (fun _ _ => rfl)) (q_var (pv 1))))
    (q_scons (q_asg (q_op o_fdiv c_fdiv (q_ix (o_ix (by rfl) (by rfl) (u1 hr)) c_ix (q_var (pv 0)) (q_int) (fun _ _ => rfl)) (q_var (pv 1))) (q_gsub (Wx := WE0 E) (u1 hr) (q_var (pv 0)) (q_int)) (gn := gn_sub))
    (q_sone (q_ret (q_var (pv 2)))))) (q_snil))
    (q_scons (q_asg (q_op o_mod c_mod (q_op (o_add (by rfl)) c_add (q_op o_mul c_mul (q_ix (o_ix (by rfl) (by rfl) (u1 hr)) c_ix (q_var (pv 0)) (q_int) (fun _ _ => rfl)) (q_int)) (q_int)) (q_int)) (q_gsub (Wx := WE0 E) (u1 hr) (q_var (pv 0)) (q_int)) (gn := gn_sub))
    (q_sone (q_ret (q_op o_mod c_mod (q_op o_fdiv c_fdiv (q_op o_mod c_mod (q_op o_mul c_mul (q_op o_fdiv c_fdiv (q_ix (o_ix (by rfl) (by rfl) (u1 hr)) c_ix (q_var (pv 0)) (q_int) (fun _ _ => rfl)) (q_int)) (q_op (o_add (by rfl)) c_add (q_op o_mod c_mod (q_ix (o_ix (by rfl) (by rfl) (u1 hr)) c_ix (q_var (pv 0)) (q_int) (fun _ _ => rfl)) (q_int)) (q_int))) (q_int)) (q_int)) (q_var (pv 1))))))
theorem b_law_pick {P : Program} {K : PySem.W.Frag} {w : World} {mg : Str → Option Value} {base : Heap} {fa : Nat → Addr} {fd : Nat → FuncData} {F : Nat → FN} {k : Nat} (h1 : 1 ≤ k) (hM : ∃ o, base.get? sysModules = some o) (T : Txt K w mg fa fd) (C_law_take : Cal P w ⟨K, w, mg⟩ base k "_law_take" (fa 8) (fd 8) ["_law_hand_here", "_law_many"] (F 8)) (cdv : Value) (A : Around) (outer : List Env) (s : Shared) (H : Hp) (E : XK)
    (hrM : RoomG (k + 1) (A.deeper (envOfC "_law_pick" (defScope s_law_pick) s.heap.objs.size (fa 9) cdv))) :
    PSs (cxOf (L2.CX P w) P w K mg base N_law_pick "_law_pick" (defScope s_law_pick) (fa 9) cdv A outer s H E) (defBody s_law_pick) (tS ⟨K, w, mg⟩ (m_law_pick F) (WE0 E)) :=
  have hr := hrM.mono (Nat.le_succ _)
  have hr2 : RoomG 2 _ := hrM.mono (Nat.succ_le_succ h1)
  q_sone (q_ret (q_ix (o_ix (by rfl) (by rfl) (u1 hr)) c_ix (q_var (pv 1)) (q_fn C_law_take T.bnd_law_take hr (by rfl) (by rfl) (by rfl) tk_body (q_cons (q_var (pv 0)) (q_cons (q_callB (o_len (by rfl)) c_len (by rfl) T.z_len b_len (q_cons (q_var (pv 1)) (q_nil))) (q_nil)))) (fun _ _ => rfl)))
theorem b_law_called {P : Program} {K : PySem.W.Frag} {w : World} {mg : Str → Option Value} {base : Heap} {fa : Nat → Addr} {fd : Nat → FuncData} {F : Nat → FN} {k : Nat} (h1 : 1 ≤ k) (hM : ∃ o, base.get? sysModules = some o) (T : Txt K w mg fa fd) (C_law_pick : Cal P w ⟨K, w, mg⟩ base k "_law_pick" (fa 9) (fd 9) ["_law_hand_here", "_law_some"] (F 9)) (C_law_take : Cal P w ⟨K, w, mg⟩ base k "_law_take" (fa 8) (fd 8) ["_law_hand_here", "_law_many"] (F 8)) (cdv : Value) (A : Around) (outer : List Env) (s : Shared) (H : Hp) (E : XK)
    (hrM : RoomG (k + 1) (A.deeper (envOfC "_law_called" (defScope s_law_called) s.heap.objs.size (fa 10) cdv))) :
    PSs (cxOf (L2.CX P w) P w K mg base N_law_called "_law_called" (defScope s_law_called) (fa 10) cdv A outer s H E) (defBody s_law_called) (tS ⟨K, w, mg⟩ (m_law_called F) (WE0 E)) :=
  have hr := hrM.mono (Nat.le_succ _)
  have hr2 : RoomG 2 _ := hrM.mono (Nat.succ_le_succ h1)
  q_scons (q_set (i := 2) sc_law_called.nd (by rfl) (.inr (by rfl)) (q_str))
    (q_scons (q_set (i := 3) sc_law_called.nd (by rfl) (.inl (by rfl)) (q_bm (by rfl) PySem.F.plainAttrs_str PySem.F.slot_str_split PySem.F.type_str_split o_split c_split (q_str) (q_cons (q_str) (q_nil))))
    (q_scons (q_asg (q_tup (q_cons (q_fn C_law_take T.bnd_law_take hr (by rfl) (by rfl) (by rfl) tk_body (q_cons (q_var (pv 0)) (q_cons (q_int) (q_nil)))) (q_cons (q_fn C_law_pick T.bnd_law_pick hr (by rfl) (by rfl) (by rfl) tk_body (q_cons (q_var (pv 0)) (q_cons (q_lst (q_cons (q_int) (q_cons (q_int) (q_cons (q_int) (q_cons (q_int) (q_cons (q_int) (q_cons (q_int) (q_cons (q_int) (q_nil))))))))) (q_nil)))) (q_nil)))) (q_gtup (by rfl) (by rfl) (q_gscons (pg_name (i := 4) sc_law_called.nd (by rfl) (.inr (by rfl))) (q_gscons (pg_name (i := 5) sc_law_called.nd (by rfl) (.inl (by rfl))) (q_gsnil)))) (gn := gn_tup))
    (q_scons (q_if (q_tb (w_and (q_tcmp o_lt c_lt (q_var (pv 1)) (q_int) (nomark _)) (w_and1 (q_tcmp (o_eq (by rfl) hr.units) c_eq (q_fn C_law_take T.bnd_law_take hr (by rfl) (by rfl) (by rfl) tk_body (q_cons (q_var (pv 0)) (q_cons (q_int) (q_nil)))) (q_int) (nomark _))))) (q_sone (q_ret (q_lc (own := [("_law_k", 6)]) (by rfl) sc_law_called.nd (q_range1 (by rfl) T.z_range (q_cons (q_var (pv 1)) (q_nil))) (blkOk_by (own := [("_law_k", 6)]) (N := N_law_called) (sc := defScope s_law_called) (by decide +kernel)) (fun _ _ _ _ _ => q_gnameW (pg_name (i := 6) sc_law_called.nd (by rfl) (.inl (by rfl))) (by decide)) (fun _ _ _ _ _ => q_tnil) (fun _ _ _ _ _ => q_ix (o_ix (by rfl) (by rfl) (u1 hr)) c_ix (q_var (pv 2)) (q_op o_mod c_mod (q_op (o_add (by rfl)) c_add (q_var (pv 4)) (q_var (pv 6))) (q_int)) (fun _ _ => rfl))))) (q_snil))
    (q_scons (q_set (i := 7) sc_law_called.nd (by rfl) (.inl (by rfl)) (q_bm (by rfl) PySem.F.plainAttrs_str PySem.F.slot_str_join PySem.F.type_str_join (o_join (by rfl)) c_join (q_str) (q_cons (q_lc (own := [("_law_k", 6)]) (by rfl) sc_law_called.nd (q_range1 (by rfl) T.z_range (q_cons (q_fn C_law_pick T.bnd_law_pick hr (by rfl) (by rfl) (by rfl) tk_body (q_cons (q_var (pv 0)) (q_cons (q_lst (q_cons (q_int) (q_cons (q_int) (q_cons (q_int) (q_cons (q_int) (q_cons (q_int) (q_nil))))))) (q_nil)))) (q_nil))) (blkOk_by (own := [("_law_k", 6)]) (N := N_law_called) (sc := defScope s_law_called) (by decide +kernel)) (fun _ _ _ _ _ => q_gnameW (pg_name (i := 6) sc_law_called.nd (by rfl) (.inl (by rfl))) (by decide)) (fun _ _ _ _ _ => q_tnil) (fun _ _ _ _ _ => q_fn C_law_pick T.bnd_law_pick hr (by rfl) (by rfl) (by rfl) tk_blk (q_cons (q_var (pv 0)) (q_cons (q_var (pv 2)) (q_nil))))) (q_nil))))
    (q_scons (q_par (i := 8) (j := 9) (by rfl) sc_law_called.nd (by rfl) (by rfl) (by decide) (by rfl) (by rfl) (q_cons (q_fn C_law_take T.bnd_law_take hr (by rfl) (by rfl) (by rfl) tk_body (q_cons (q_var (pv 0)) (q_cons (q_op (o_add (by rfl)) c_add (q_callB (o_len (by rfl)) c_len (by rfl) T.z_len b_len (q_cons (q_var (pv 7)) (q_nil))) (q_int)) (q_nil)))) (q_cons (q_obj (q_nil)) (q_nil))) (by rfl))
    (q_scons (q_for po_body (by rfl) (q_range1 (by rfl) T.z_range (q_cons (q_var (pv 1)) (q_nil))) (q_gname (pg_name (i := 6) sc_law_called.nd (by rfl) (.inl (by rfl)))) (q_scons (q_set (i := 10) sc_law_called.nd (by rfl) (.inl (by rfl)) (q_op o_mod c_mod (q_op (o_add (by rfl)) c_add (q_var (pv 4)) (q_op o_mul c_mul (q_var (pv 5)) (q_var (pv 6)))) (q_int)))
    (q_scons (q_set (i := 11) sc_law_called.nd (by rfl) (.inl (by rfl)) (q_op (o_add (by rfl)) c_add (q_ix (o_ix (by rfl) (by rfl) (u1 hr)) c_ix (q_var (pv 2)) (q_op o_fdiv c_fdiv (q_var (pv 10)) (q_int)) (fun _ _ => rfl)) (q_ix (o_ix (by rfl) (by rfl) (u1 hr)) c_ix (q_var (pv 2)) (q_op o_mod c_mod (q_var (pv 10)) (q_int)) (fun _ _ => rfl))))
    (q_scons (q_set (i := 12) sc_law_called.nd (by rfl) (.inl (by rfl)) (q_op (o_add (by rfl)) c_add (q_op (o_add (by rfl)) c_add (q_slice (by rfl) (q_var (pv 7)) (q_pno) (q_pyes (q_var (pv 8)))) (q_var (pv 11))) (q_slice (by rfl) (q_var (pv 7)) (q_pyes (q_var (pv 8))) (q_pno))))
    (q_sone (q_expr (q_bm (by rfl) PySem.F.plainAttrs_list PySem.F.slot_list_append PySem.F.type_list_append o_append c_append (q_var (pv 9)) (q_cons (q_op (o_add (by rfl)) c_add (q_var (pv 12)) (q_op o_mul c_mul (q_str) (q_callTy o_int c_int (by rfl) T.z_int b_int (q_cons (q_cmp (o_in (by rfl) (by rfl) (u65 hr)) c_in (q_var (pv 12)) (q_var (pv 3)) (by rfl)) (q_nil))))) (q_nil)))))))))
    (q_sone (q_ret (q_var (pv 9))))))))))
theorem b_law_digit {P : Program} {K : PySem.W.Frag} {w : World} {mg : Str → Option Value} {base : Heap} {fa : Nat → Addr} {fd : Nat → FuncData} {F : Nat → FN} {k : Nat} (h1 : 1 ≤ k) (hM : ∃ o, base.get? sysModules = some o) (T : Txt K w mg fa fd) (C_law_pick : Cal P w ⟨K, w, mg⟩ base k "_law_pick" (fa 9) (fd 9) ["_law_hand_here", "_law_some"] (F 9)) (C_law_take : Cal P w ⟨K, w, mg⟩ base k "_law_take" (fa 8) (fd 8) ["_law_hand_here", "_law_many"] (F 8)) (cdv : Value) (A : Around) (outer : List Env) (s : Shared) (H : Hp) (E : XK)
    (hrM : RoomG (k + 1) (A.deeper (envOfC "_law_digit" (defScope s_law_digit) s.heap.objs.size (fa 11) cdv))) :
    PSs (cxOf (L2.CX P w) P w K mg base N_law_digit "_law_digit" (defScope s_law_digit) (fa 11) cdv A outer s H E) (defBody s_law_digit) (tS ⟨K, w, mg⟩ (m_law_digit F) (WE0 E)) :=
  have hr := hrM.mono (Nat.le_succ _)
  have hr2 : RoomG 2 _ := hrM.mono (Nat.succ_le_succ h1)
  q_sone (q_ret (q_fn C_law_pick T.bnd_law_pick hr (by rfl) (by rfl) (by rfl) tk_body (q_cons (q_var (pv 0)) (q_cons (q_lst (q_cons (q_int) (q_cons (q_int) (q_cons (q_int) (q_cons (q_int) (q_cons (q_fn C_law_take T.bnd_law_take hr (by rfl) (by rfl) (by rfl) tk_body (q_cons (q_var (pv 0)) (q_cons (q_int) (q_nil)))) (q_cons (q_int) (q_cons (q_fn C_law_take T.bnd_law_take hr (by rfl) (by rfl) (by rfl) tk_body (q_cons (q_var (pv 0)) (q_cons (q_int) (q_nil)))) (q_nil))))))))) (q_nil)))))
theorem b_law_grown {P : Program} {K : PySem.W.Frag} {w : World} {mg : Str → Option Value} {base : Heap} {fa : Nat → Addr} {fd : Nat → FuncData} {F : Nat → FN} {k : Nat} (h1 : 1 ≤ k) (hM : ∃ o, base.get? sysModules = some o) (T : Txt K w mg fa fd) (C_law_digit : Cal P w ⟨K, w, mg⟩ base k "_law_digit" (fa 11) (fd 11) ["_law_hand_here"] (F 11)) (C_law_grown : Cal P w ⟨K, w, mg⟩ base k "_law_grown" (fa 12) (fd 12) ["_law_hand_here", "_law_pot", "_law_scope", "_law_level"] (F 12)) (C_law_pick : Cal P w ⟨K, w, mg⟩ base k "_law_pick" (fa 9) (fd 9) ["_law_hand_here", "_law_some"] (F 9)) (C_law_take : Cal P w ⟨K, w, mg⟩ base k "_law_take" (fa 8) (fd 8) ["_law_hand_here", "_law_many"] (F 8)) (cdv : Value) (A : Around) (outer : List Env) (s : Shared) (H : Hp) (E : XK)
    (hrM : RoomG (k + 1) (A.deeper (envOfC "_law_grown" (defScope s_law_grown) s.heap.objs.size (fa 12) cdv))) :
    PSs (cxOf (L2.CX P w) P w K mg base N_law_grown "_law_grown" (defScope s_law_grown) (fa 12) cdv A outer s H E) (defBody s_law_grown) (tS ⟨K, w, mg⟩ (m_law_grown F) (WE0 E)) :=
  have hr := hrM.mono (Nat.le_succ _)
  have hr2 : RoomG 2 _ := hrM.mono (Nat.succ_le_succ h1)
  q_scons (q_asg (q_op o_sub c_sub (q_ix (o_ix (by rfl) (by rfl) (u1 hr)) c_ix (q_var (pv 1)) (q_str) (fun _ _ => rfl)) (q_int)) (q_gsub (Wx := WE0 E) (u1 hr) (q_var (pv 1)) (q_str)) (gn := gn_sub))
    (q_scons (q_if (q_tb (w_or (q_tcmp (o_eq (by rfl) hr.units) c_eq (q_var (pv 3)) (q_int) (nomark _)) (w_or1 (q_tcmp o_lt c_lt (q_ix (o_ix (by rfl) (by rfl) (u1 hr)) c_ix (q_var (pv 1)) (q_str) (fun _ _ => rfl)) (q_int) (nomark _))))) (q_scons (q_if (q_tcmp o_lt c_lt (q_fn C_law_take T.bnd_law_take hr (by rfl) (by rfl) (by rfl) tk_body (q_cons (q_var (pv 0)) (q_cons (q_int) (q_nil)))) (q_int) (nomark _)) (q_sone (q_ret (q_tup (q_cons (q_str) (q_cons (q_fn C_law_pick T.bnd_law_pick hr (by rfl) (by rfl) (by rfl) tk_body (q_cons (q_var (pv 0)) (q_cons (q_op (o_add (by rfl)) c_add (q_op (o_add (by rfl)) c_add (q_slice (by rfl) (q_var (pv 2)) (q_pyes (q_un o_neg c_neg (q_int))) (q_pno)) (q_slice (by rfl) (q_var (pv 2)) (q_pyes (q_un o_neg c_neg (q_int))) (q_pno))) (q_ix (o_ix (by rfl) (by rfl) (u1 hr)) c_ix (q_var (pv 1)) (q_str) (fun _ _ => rfl))) (q_nil)))) (q_cons (q_tup (q_nil)) (q_nil))))))) (q_snil))
    (q_sone (q_ret (q_tup (q_cons (q_str) (q_cons (q_fn C_law_digit T.bnd_law_digit hr (by rfl) (by rfl) (by rfl) tk_body (q_cons (q_var (pv 0)) (q_nil))) (q_cons (q_tup (q_nil)) (q_nil)))))))) (q_snil))
    (q_scons (q_par (i := 4) (j := 5) (by rfl) sc_law_grown.nd (by rfl) (by rfl) (by decide) (by rfl) (by rfl) (q_cons (q_fn C_law_take T.bnd_law_take hr (by rfl) (by rfl) (by rfl) tk_body (q_cons (q_var (pv 0)) (q_cons (q_int) (q_nil)))) (q_cons (q_fn C_law_pick T.bnd_law_pick hr (by rfl) (by rfl) (by rfl) tk_body (q_cons (q_var (pv 0)) (q_cons (q_lst (q_cons (q_int) (q_cons (q_int) (q_cons (q_int) (q_cons (q_int) (q_cons (q_int) (q_nil))))))) (q_nil)))) (q_nil))) (by rfl))
    (q_scons (q_if (q_tcmp o_lt c_lt (q_var (pv 4)) (q_int) (nomark _)) (q_scons (q_set (i := 6) sc_law_grown.nd (by rfl) (.inl (by rfl)) (q_ix (o_ix (by rfl) (by rfl) (u1 hr)) c_ix (q_lst (q_cons (q_str) (q_cons (q_str) (q_cons (q_str) (q_cons (q_str) (q_nil)))))) (q_var (pv 4)) (fun _ _ => rfl)))
    (q_sone (q_ret (q_tup (q_cons (q_var (pv 6)) (q_cons (q_str) (q_cons (q_callTy (o_tuple (by rfl)) c_tuple (by rfl) T.z_tuple b_tuple (q_cons (q_lc (own := [("_law_k", 7)]) (by rfl) sc_law_grown.nd (q_range1 (by rfl) T.z_range (q_cons (q_var (pv 5)) (q_nil))) (blkOk_by (own := [("_law_k", 7)]) (N := N_law_grown) (sc := defScope s_law_grown) (by decide +kernel)) (fun _ _ _ _ _ => q_gnameW (pg_name (i := 7) sc_law_grown.nd (by rfl) (.inl (by rfl))) (by decide)) (fun _ _ _ _ _ => q_tnil) (fun _ _ _ _ _ => q_fn C_law_grown T.bnd_law_grown hr (by rfl) (by rfl) (by rfl) tk_blk (q_cons (q_var (pv 0)) (q_cons (q_var (pv 1)) (q_cons (q_var (pv 2)) (q_cons (q_op o_sub c_sub (q_var (pv 3)) (q_int)) (q_nil))))))) (q_nil))) (q_nil)))))))) (q_snil))
    (q_scons (q_if (q_tcmp o_lt c_lt (q_var (pv 4)) (q_int) (nomark _)) (q_scons (q_set (i := 5) sc_law_grown.nd (by rfl) (.inl (by rfl)) (q_fn C_law_pick T.bnd_law_pick hr (by rfl) (by rfl) (by rfl) tk_body (q_cons (q_var (pv 0)) (q_cons (q_lst (q_cons (q_var (pv 5)) (q_cons (q_int) (q_cons (q_int) (q_cons (q_int) (q_cons (q_int) (q_nil))))))) (q_nil)))))
    (q_sone (q_ret (q_tup (q_cons (q_str) (q_cons (q_str) (q_cons (q_callTy (o_tuple (by rfl)) c_tuple (by rfl) T.z_tuple b_tuple (q_cons (q_lc (own := [("_law_k", 7)]) (by rfl) sc_law_grown.nd (q_range1 (by rfl) T.z_range (q_cons (q_var (pv 5)) (q_nil))) (blkOk_by (own := [("_law_k", 7)]) (N := N_law_grown) (sc := defScope s_law_grown) (by decide +kernel)) (fun _ _ _ _ _ => q_gnameW (pg_name (i := 7) sc_law_grown.nd (by rfl) (.inl (by rfl))) (by decide)) (fun _ _ _ _ _ => q_tnil) (fun _ _ _ _ _ => q_fn C_law_grown T.bnd_law_grown hr (by rfl) (by rfl) (by rfl) tk_blk (q_cons (q_var (pv 0)) (q_cons (q_var (pv 1)) (q_cons (q_var (pv 2)) (q_cons (q_op o_sub c_sub (q_var (pv 3)) (q_int)) (q_nil))))))) (q_nil))) (q_nil)))))))) (q_snil))
    (q_scons (q_if (q_tcmp o_lt c_lt (q_var (pv 4)) (q_int) (nomark _)) (q_scons (q_set (i := 6) sc_law_grown.nd (by rfl) (.inl (by rfl)) (q_ix (o_ix (by rfl) (by rfl) (u1 hr)) c_ix (q_lst (q_cons (q_str) (q_cons (q_str) (q_cons (q_str) (q_nil))))) (q_op o_sub c_sub (q_var (pv 4)) (q_int)) (fun _ _ => rfl)))
    (q_scons (q_par (i := 8) (j := 9) (by rfl) sc_law_grown.nd (by rfl) (by rfl) (by decide) (by rfl) (by rfl) (q_cons (q_fn C_law_pick T.bnd_law_pick hr (by rfl) (by rfl) (by rfl) tk_body (q_cons (q_var (pv 0)) (q_cons (q_ix (o_ix (by rfl) (by rfl) (u1 hr)) c_ix (q_var (pv 1)) (q_str) (fun _ _ => rfl)) (q_nil)))) (q_cons (q_fn C_law_grown T.bnd_law_grown hr (by rfl) (by rfl) (by rfl) tk_body (q_cons (q_var (pv 0)) (q_cons (q_var (pv 1)) (q_cons (q_var (pv 2)) (q_cons (q_op o_sub c_sub (q_var (pv 3)) (q_int)) (q_nil)))))) (q_nil))) (by rfl))
    (q_sone (q_ret (q_tup (q_cons (q_var (pv 6)) (q_cons (q_var (pv 8)) (q_cons (q_tup (q_cons (q_var (pv 9)) (q_cons (q_fn C_law_grown T.bnd_law_grown hr (by rfl) (by rfl) (by rfl) tk_body (q_cons (q_var (pv 0)) (q_cons (q_var (pv 1)) (q_cons (q_op (o_add (by rfl)) c_add (q_var (pv 2)) (q_lst (q_cons (q_var (pv 8)) (q_nil)))) (q_cons (q_op o_sub c_sub (q_var (pv 3)) (q_int)) (q_nil)))))) (q_nil)))) (q_nil))))))))) (q_snil))
    (q_scons (q_set (i := 6) sc_law_grown.nd (by rfl) (.inl (by rfl)) (q_ix (o_ix (by rfl) (by rfl) (u1 hr)) c_ix (q_lst (q_cons (q_str) (q_cons (q_fn C_law_pick T.bnd_law_pick hr (by rfl) (by rfl) (by rfl) tk_body (q_cons (q_var (pv 0)) (q_cons (q_lst (q_cons (q_str) (q_cons (q_str) (q_nil)))) (q_nil)))) (q_cons (q_str) (q_nil))))) (q_op o_sub c_sub (q_var (pv 4)) (q_int)) (fun _ _ => rfl)))
    (q_sone (q_ret (q_tup (q_cons (q_var (pv 6)) (q_cons (q_str) (q_cons (q_callTy (o_tuple (by rfl)) c_tuple (by rfl) T.z_tuple b_tuple (q_cons (q_lc (own := [("_law_k", 7)]) (by rfl) sc_law_grown.nd (q_range1 (by rfl) T.z_range (q_cons (q_op o_sub c_sub (q_var (pv 4)) (q_int)) (q_nil))) (blkOk_by (own := [("_law_k", 7)]) (N := N_law_grown) (sc := defScope s_law_grown) (by decide +kernel)) (fun _ _ _ _ _ => q_gnameW (pg_name (i := 7) sc_law_grown.nd (by rfl) (.inl (by rfl))) (by decide)) (fun _ _ _ _ _ => q_tnil) (fun _ _ _ _ _ => q_fn C_law_grown T.bnd_law_grown hr (by rfl) (by rfl) (by rfl) tk_blk (q_cons (q_var (pv 0)) (q_cons (q_var (pv 1)) (q_cons (q_var (pv 2)) (q_cons (q_op o_sub c_sub (q_var (pv 3)) (q_int)) (q_nil))))))) (q_nil))) (q_nil)))))))))))))
theorem b_law_code {P : Program} {K : PySem.W.Frag} {w : World} {mg : Str → Option Value} {base : Heap} {fa : Nat → Addr} {fd : Nat → FuncData} {F : Nat → FN} {k : Nat} (h1 : 1 ≤ k) (hM : ∃ o, base.get? sysModules = some o) (T : Txt K w mg fa fd) (C_law_called : Cal P w ⟨K, w, mg⟩ base k "_law_called" (fa 10) (fd 10) ["_law_hand_here", "_law_many"] (F 10)) (C_law_grown : Cal P w ⟨K, w, mg⟩ base k "_law_grown" (fa 12) (fd 12) ["_law_hand_here", "_law_pot", "_law_scope", "_law_level"] (F 12)) (C_law_take : Cal P w ⟨K, w, mg⟩ base k "_law_take" (fa 8) (fd 8) ["_law_hand_here", "_law_many"] (F 8)) (cdv : Value) (A : Around) (outer : List Env) (s : Shared) (H : Hp) (E : XK)
    (hrM : RoomG (k + 1) (A.deeper (envOfC "_law_code" (defScope s_law_code) s.heap.objs.size (fa 13) cdv))) :
    PSs (cxOf (L2.CX P w) P w K mg base N_law_code "_law_code" (defScope s_law_code) (fa 13) cdv A outer s H E) (defBody s_law_code) (tS ⟨K, w, mg⟩ (m_law_code F) (WE0 E)) :=
  have hr := hrM.mono (Nat.le_succ _)
  have hr2 : RoomG 2 _ := hrM.mono (Nat.succ_le_succ h1)
  q_scons (q_set (i := 2) sc_law_code.nd (by rfl) (.inl (by rfl)) (q_fn C_law_called T.bnd_law_called hr (by rfl) (by rfl) (by rfl) tk_body (q_cons (q_var (pv 0)) (q_cons (q_op (o_add (by rfl)) c_add (q_int) (q_fn C_law_take T.bnd_law_take hr (by rfl) (by rfl) (by rfl) tk_body (q_cons (q_var (pv 0)) (q_cons (q_int) (q_nil))))) (q_nil)))))
    (q_sone (q_ret (q_fn C_law_grown T.bnd_law_grown hr (by rfl) (by rfl) (by rfl) tk_body (q_cons (q_var (pv 0)) (q_cons (q_dct (q_pcons (q_str) (q_var (pv 1)) (q_pcons (q_str) (q_var (pv 2)) (q_pnil))) rfl rfl (by simp) (by decide)) (q_cons (q_lst (q_nil)) (q_cons (q_op (o_add (by rfl)) c_add (q_int) (q_fn C_law_take T.bnd_law_take hr (by rfl) (by rfl) (by rfl) tk_body (q_cons (q_var (pv 0)) (q_cons (q_int) (q_nil))))) (q_nil))))))))
theorem b_law_spots {P : Program} {K : PySem.W.Frag} {w : World} {mg : Str → Option Value} {base : Heap} {fa : Nat → Addr} {fd : Nat → FuncData} {F : Nat → FN} {k : Nat} (h1 : 1 ≤ k) (hM : ∃ o, base.get? sysModules = some o) (T : Txt K w mg fa fd) (C_law_spots : Cal P w ⟨K, w, mg⟩ base k "_law_spots" (fa 14) (fd 14) ["_law_code_here"] (F 14)) (cdv : Value) (A : Around) (outer : List Env) (s : Shared) (H : Hp) (E : XK)
    (hrM : RoomG (k + 1) (A.deeper (envOfC "_law_spots" (defScope s_law_spots) s.heap.objs.size (fa 14) cdv))) :
    PSs (cxOf (L2.CX P w) P w K mg base N_law_spots "_law_spots" (defScope s_law_spots) (fa 14) cdv A outer s H E) (defBody s_law_spots) (tS ⟨K, w, mg⟩ (m_law_spots F) (WE0 E)) :=
  have hr := hrM.mono (Nat.le_succ _)
  have hr2 : RoomG 2 _ := hrM.mono (Nat.succ_le_succ h1)
  q_scons (q_set (i := 1) sc_law_spots.nd (by rfl) (.inl (by rfl)) (q_obj (q_cons (q_tup (q_nil)) (q_nil))))
    (q_scons (q_for po_body (by rfl) (q_enum (by rfl) (by rfl) T.z_enumerate (q_cons (q_ix (o_ix (by rfl) (by rfl) (u1 hr)) c_ix (q_var (pv 0)) (q_int) (fun _ _ => rfl)) (q_nil))) (q_gtup (by rfl) (by rfl) (q_gscons (pg_name (i := 2) sc_law_spots.nd (by rfl) (.inr (by rfl))) (q_gscons (pg_name (i := 3) sc_law_spots.nd (by rfl) (.inl (by rfl))) (q_gsnil)))) (q_sone (q_expr (q_bm (by rfl) PySem.F.plainAttrs_list PySem.F.slot_list_extend PySem.F.type_list_extend o_extend c_extend (q_var (pv 1)) (q_cons (q_lc (own := [("_law_spot", 4)]) (by rfl) sc_law_spots.nd (q_iter (by rfl) (q_fn C_law_spots T.bnd_law_spots hr (by rfl) (by rfl) (by rfl) tk_body (q_cons (q_var (pv 3)) (q_nil)))) (blkOk_by (own := [("_law_spot", 4)]) (N := N_law_spots) (sc := defScope s_law_spots) (by decide +kernel)) (fun _ _ _ _ _ => q_gnameW (pg_name (i := 4) sc_law_spots.nd (by rfl) (.inl (by rfl))) (by decide)) (fun _ _ _ _ _ => q_tnil) (fun _ _ _ _ _ => q_op (o_add (by rfl)) c_add (q_tup (q_cons (q_var (pv 2)) (q_nil))) (q_var (pv 4)))) (q_nil))))))
    (q_sone (q_ret (q_frz (q_var (pv 1))))))
theorem b_law_givers {P : Program} {K : PySem.W.Frag} {w : World} {mg : Str → Option Value} {base : Heap} {fa : Nat → Addr} {fd : Nat → FuncData} {F : Nat → FN} {k : Nat} (h1 : 1 ≤ k) (hM : ∃ o, base.get? sysModules = some o) (T : Txt K w mg fa fd) (cdv : Value) (A : Around) (outer : List Env) (s : Shared) (H : Hp) (E : XK)
    (hrM : RoomG (k + 1) (A.deeper (envOfC "_law_givers" (defScope s_law_givers) s.heap.objs.size (fa 15) cdv))) :
    PSs (cxOf (L2.CX P w) P w K mg base N_law_givers "_law_givers" (defScope s_law_givers) (fa 15) cdv A outer s H E) (defBody s_law_givers) (tS ⟨K, w, mg⟩ (m_law_givers F) (WE0 E)) :=
  have hr := hrM.mono (Nat.le_succ _)
  have hr2 : RoomG 2 _ := hrM.mono (Nat.succ_le_succ h1)
  q_scons (q_par (i := 1) (j := 2) (by rfl) sc_law_givers.nd (by rfl) (by rfl) (by decide) (by rfl) (by rfl) (q_cons (q_dctT0) (q_cons (q_obj (q_cons (q_tup (q_cons (q_tup (q_nil)) (q_cons (q_var (pv 0)) (q_cons (q_dic0) (q_nil))))) (q_nil))) (q_nil))) (by rfl))
    (q_scons (q_while fuel po_body (q_tcmp (o_ne0 hr.units) c_ne0 (q_var (pv 2)) (q_lst (q_nil)) (nomark _)) (q_scons (q_asg (q_bm0 (by rfl) PySem.F.plainAttrs_list PySem.F.slot_list_pop PySem.F.type_list_pop o_pop c_pop (q_var (pv 2))) (q_gseq (by rfl) (by rfl) (q_gscons (pg_name (i := 3) sc_law_givers.nd (by rfl) (.inl (by rfl))) (q_gscons (pg_name (i := 4) sc_law_givers.nd (by rfl) (.inl (by rfl))) (q_gscons (pg_name (i := 5) sc_law_givers.nd (by rfl) (.inl (by rfl))) (q_gsnil))))) (gn := gn_seq))
    (q_scons (q_asg (q_var (pv 4)) (q_gtup (by rfl) (by rfl) (q_gscons (pg_name (i := 6) sc_law_givers.nd (by rfl) (.inl (by rfl))) (q_gscons (pg_name (i := 7) sc_law_givers.nd (by rfl) (.inl (by rfl))) (q_gscons (pg_name (i := 8) sc_law_givers.nd (by rfl) (.inl (by rfl))) (q_gsnil))))) (gn := gn_tup))
    (q_scons (q_if (q_tcmp (o_eq (by rfl) hr.units) c_eq (q_var (pv 6)) (q_str) (nomark _)) (q_sone (q_asg (q_tup (q_cons (q_var (pv 7)) (q_cons (q_bm (by rfl) PySem.F.plainAttrs_dict PySem.F.slot_dict_get PySem.F.type_dict_get (o_dget (u1 hr)) c_dget (q_var (pv 5)) (q_cons (q_var (pv 7)) (q_nil))) (q_nil)))) (q_gsub (Wx := WE0 E) (u1 hr) (q_var (pv 1)) (q_var (pv 3))) (gn := gn_sub))) (q_snil))
    (q_sone (q_for po_body (by rfl) (q_enum (by rfl) (by rfl) T.z_enumerate (q_cons (q_var (pv 8)) (q_nil))) (q_gtup (by rfl) (by rfl) (q_gscons (pg_name (i := 9) sc_law_givers.nd (by rfl) (.inl (by rfl))) (q_gscons (pg_name (i := 10) sc_law_givers.nd (by rfl) (.inl (by rfl))) (q_gsnil)))) (q_scons (q_set (i := 11) sc_law_givers.nd (by rfl) (.inl (by rfl)) (q_callTy (o_dictPO (by rfl) (by rfl)) c_dictPO (by rfl) T.z_dict b_dict (q_cons (q_items (by rfl) (q_var (pv 5)) (by rfl) T.z_list) (q_nil))))
    (q_scons (q_if (q_tb (w_and (q_tcmp (o_in (by rfl) (by rfl) (u65 hr)) c_in (q_var (pv 6)) (q_tup (q_cons (q_str) (q_cons (q_str) (q_nil)))) (by rfl)) (w_and1 (q_tcmp (o_eq (by rfl) hr.units) c_eq (q_var (pv 9)) (q_int) (nomark _))))) (q_sone (q_asg (q_var (pv 3)) (q_gsub (Wx := WE0 E) (u1 hr) (q_var (pv 11)) (q_var (pv 7))) (gn := gn_sub))) (q_snil))
    (q_sone (q_expr (q_bm (by rfl) PySem.F.plainAttrs_list PySem.F.slot_list_append PySem.F.type_list_append o_append c_append (q_var (pv 2)) (q_cons (q_tup (q_cons (q_op (o_add (by rfl)) c_add (q_var (pv 3)) (q_tup (q_cons (q_var (pv 9)) (q_nil)))) (q_cons (q_var (pv 10)) (q_cons (q_frz (q_var (pv 11))) (q_nil))))) (q_nil)))))))))))))
    (q_sone (q_ret (q_var (pv 1)))))
theorem b_law_told {P : Program} {K : PySem.W.Frag} {w : World} {mg : Str → Option Value} {base : Heap} {fa : Nat → Addr} {fd : Nat → FuncData} {F : Nat → FN} {k : Nat} (h1 : 1 ≤ k) (hM : ∃ o, base.get? sysModules = some o) (T : Txt K w mg fa fd) (C_giver_at : Cal P w ⟨K, w, mg⟩ base k "giver_at" (fa 6) (fd 6) ["program", "place"] (F 6)) (cdv : Value) (A : Around) (outer : List Env) (s : Shared) (H : Hp) (E : XK)
    (hrM : RoomG (k + 1) (A.deeper (envOfC "_law_told" (defScope s_law_told) s.heap.objs.size (fa 16) cdv))) :
    PSs (cxOf (L2.CX P w) P w K mg base N_law_told "_law_told" (defScope s_law_told) (fa 16) cdv A outer s H E) (defBody s_law_told) (tS ⟨K, w, mg⟩ (m_law_told F) (WE0 E)) :=
  have hr := hrM.mono (Nat.le_succ _)
  have hr2 : RoomG 2 _ := hrM.mono (Nat.succ_le_succ h1)
  q_scons (q_asg (q_tup (q_cons (q_non) (q_cons (q_non) (q_nil)))) (q_gtup (by rfl) (by rfl) (q_gscons (pg_name (i := 2) sc_law_told.nd (by rfl) (.inl (by rfl))) (q_gscons (pg_name (i := 3) sc_law_told.nd (by rfl) (.inl (by rfl))) (q_gsnil)))) (gn := gn_tup))
    (q_scons (q_try rfl rfl sc_law_told.nd rfl tk_body (fun Wt _ _ tkt pot => q_sone (q_set (i := 2) sc_law_told.nd (by rfl) (.inl (by rfl)) (q_fn C_giver_at T.bnd_giver_at hr (by rfl) (by rfl) (by rfl) tkt (q_cons (q_var (pv 0)) (q_cons (q_var (pv 1)) (q_nil)))))) (Hds.named (i := 4) (asks_three ⟨by rfl, by decide, .inl T.ca_Missing⟩ ⟨by rfl, by decide, .inl T.ca_Refused⟩ ⟨by rfl, by decide, .inl T.ca_Halted⟩) (by rfl) (by rfl) (ym_cons T.ca_NoPlace (exm_three (exm_own T.xd_Missing T.xs_NoPlace__Missing) (exm_own T.xd_Refused T.xs_NoPlace__Refused) (exm_own T.xd_Halted T.xs_NoPlace__Halted)) (ym_cons T.ca_NoName (exm_three (exm_own T.xd_Missing T.xs_NoName__Missing) (exm_own T.xd_Refused T.xs_NoName__Refused) (exm_own T.xd_Halted T.xs_NoName__Halted)) (ym_nil))) (ym_nil) (fun _ => q_sone (q_set (i := 3) sc_law_told.nd (by rfl) (.inl (by rfl)) (q_var (pv 4)))) (Hds.nil)))
    (q_scons (q_if (q_tcmp o_isNon c_isNon (q_var (pv 3)) (q_non) (nomark _)) (q_sone (q_ret (q_var (pv 2)))) (q_snil))
    (q_scons (q_set (i := 5) sc_law_told.nd (by rfl) (.inl (by rfl)) (q_lst (q_cons (q_isx (by rfl) (by rfl) T.z_isinstance (q_var (pv 3)) (cls_name ⟨by rfl, by decide, .inl T.ca_NoPlace⟩) (ym_cons T.ca_NoPlace ⟨T.xi_NoPlace, (kit_own T.xd_NoPlace T.xs_NoPlace__NoPlace T.xs_NoPlace__NoPlace)⟩ (ym_nil)) (ym_cons T.ca_NoName ⟨T.xi_NoName, (kit_own T.xd_NoPlace T.xs_NoName__NoName T.xs_NoName__NoPlace)⟩ (ym_nil))) (q_cons (q_isx (by rfl) (by rfl) T.z_isinstance (q_var (pv 3)) (cls_name ⟨by rfl, by decide, .inl T.ca_NoName⟩) (ym_cons T.ca_NoName ⟨T.xi_NoName, (kit_own T.xd_NoName T.xs_NoName__NoName T.xs_NoName__NoName)⟩ (ym_nil)) (ym_cons T.ca_NoPlace ⟨T.xi_NoPlace, (kit_own T.xd_NoName T.xs_NoPlace__NoPlace T.xs_NoPlace__NoName)⟩ (ym_nil))) (q_cons (q_isx (by rfl) (by rfl) T.z_isinstance (q_var (pv 3)) (cls_three ⟨by rfl, by decide, .inl T.ca_NoNumber⟩ ⟨by rfl, by decide, .inl T.ca_Refused⟩ ⟨by rfl, by decide, .inl T.ca_Halted⟩) (ym_nil) (ym_cons T.ca_NoPlace ⟨T.xi_NoPlace, (kit_three (kit_own T.xd_NoNumber T.xs_NoPlace__NoPlace T.xs_NoPlace__NoNumber) (kit_own T.xd_Refused T.xs_NoPlace__NoPlace T.xs_NoPlace__Refused) (kit_own T.xd_Halted T.xs_NoPlace__NoPlace T.xs_NoPlace__Halted))⟩ (ym_cons T.ca_NoName ⟨T.xi_NoName, (kit_three (kit_own T.xd_NoNumber T.xs_NoName__NoName T.xs_NoName__NoNumber) (kit_own T.xd_Refused T.xs_NoName__NoName T.xs_NoName__Refused) (kit_own T.xd_Halted T.xs_NoName__NoName T.xs_NoName__Halted))⟩ (ym_nil)))) (q_nil))))))
    (q_scons (q_if (q_tb (w_or (q_tcmp (o_ne (by rfl) hr.units) c_ne (q_bm (by rfl) PySem.F.plainAttrs_list PySem.F.slot_list_count PySem.F.type_list_count (o_count (by rfl) (u66 hr)) c_count (q_var (pv 5)) (q_cons (q_bl) (q_nil))) (q_int) (nomark _)) (w_or (q_truth (by rfl) (q_ix (o_ix (by rfl) (by rfl) (u1 hr)) c_ix (q_var (pv 5)) (q_int) (fun _ _ => rfl))) (w_or1 (q_tnot (q_truth (by rfl) (q_isx (by rfl) (by rfl) T.z_isinstance (q_var (pv 3)) (cls_name ⟨by rfl, by decide, .inr ⟨T.z_LookupError, PyProof.Rows.Boot.«LookupError», by decide⟩⟩) (ym_cons T.ca_NoPlace ⟨T.xi_NoPlace, (kit_blt (by decide +kernel) T.xs_NoPlace__LookupError)⟩ (ym_cons T.ca_NoName ⟨T.xi_NoName, (kit_blt (by decide +kernel) T.xs_NoName__LookupError)⟩ (ym_nil))) (ym_nil)))))))) (q_sone (q_ret (q_str))) (q_snil))
    (q_scons (q_if (q_truth (by rfl) (q_ix (o_ix (by rfl) (by rfl) (u1 hr)) c_ix (q_var (pv 5)) (q_int) (fun _ _ => rfl))) (q_sone (q_ret (q_lst (q_cons (q_str) (q_cons (q_cmp (o_eq (by rfl) hr.units) c_eq (q_callB (o_repr (by rfl) hM hr.gd (u150 hr)) c_repr (by rfl) T.z_repr b_repr (q_cons (q_xf (by rfl) (q_var (pv 3)) (ym_cons T.ca_NoPlace ⟨T.xi_NoPlace, T.xn_NoPlace⟩ (ym_nil))) (q_nil))) (q_callB (o_repr (by rfl) hM hr.gd (u150 hr)) c_repr (by rfl) T.z_repr b_repr (q_cons (q_var (pv 1)) (q_nil))) (nomark _)) (q_nil)))))) (q_snil))
    (q_sone (q_ret (q_lst (q_cons (q_str) (q_cons (q_cmp (o_eq (by rfl) hr.units) c_eq (q_callB (o_repr (by rfl) hM hr.gd (u150 hr)) c_repr (by rfl) T.z_repr b_repr (q_cons (q_xf (by rfl) (q_var (pv 3)) (ym_cons T.ca_NoName ⟨T.xi_NoName, T.xn_NoName⟩ (ym_nil))) (q_nil))) (q_callB (o_repr (by rfl) hM hr.gd (u150 hr)) c_repr (by rfl) T.z_repr b_repr (q_cons (q_var (pv 1)) (q_nil))) (nomark _)) (q_nil)))))))))))
theorem b_law {P : Program} {K : PySem.W.Frag} {w : World} {mg : Str → Option Value} {base : Heap} {fa : Nat → Addr} {fd : Nat → FuncData} {F : Nat → FN} {k : Nat} (h1 : 1 ≤ k) (hM : ∃ o, base.get? sysModules = some o) (T : Txt K w mg fa fd) (C_law_code : Cal P w ⟨K, w, mg⟩ base k "_law_code" (fa 13) (fd 13) ["_law_hand_here", "_law_size"] (F 13)) (C_law_givers : Cal P w ⟨K, w, mg⟩ base k "_law_givers" (fa 15) (fd 15) ["_law_code_here"] (F 15)) (C_law_hand : Cal P w ⟨K, w, mg⟩ base k "_law_hand" (fa 7) (fd 7) ["_law_script", "_law_k"] (F 7)) (C_law_pick : Cal P w ⟨K, w, mg⟩ base k "_law_pick" (fa 9) (fd 9) ["_law_hand_here", "_law_some"] (F 9)) (C_law_spots : Cal P w ⟨K, w, mg⟩ base k "_law_spots" (fa 14) (fd 14) ["_law_code_here"] (F 14)) (C_law_take : Cal P w ⟨K, w, mg⟩ base k "_law_take" (fa 8) (fd 8) ["_law_hand_here", "_law_many"] (F 8)) (C_law_told : Cal P w ⟨K, w, mg⟩ base k "_law_told" (fa 16) (fd 16) ["_law_made", "_law_spot"] (F 16)) (C_giver_at : Cal P w ⟨K, w, mg⟩ base k "giver_at" (fa 6) (fd 6) ["program", "place"] (F 6)) (cdv : Value) (A : Around) (outer : List Env) (s : Shared) (H : Hp) (E : XK)
    (hrM : RoomG (k + 1) (A.deeper (envOfC "law" (defScope s_law) s.heap.objs.size (fa 17) cdv))) :
    PSs (cxOf (L2.CX P w) P w K mg base N_law "law" (defScope s_law) (fa 17) cdv A outer s H E) (defBody s_law) (tS ⟨K, w, mg⟩ (m_law F) (WE0 E)) :=
  have hr := hrM.mono (Nat.le_succ _)
  have hr2 : RoomG 2 _ := hrM.mono (Nat.succ_le_succ h1)
  q_scons (q_for po_body (by rfl) (q_range1 (by rfl) T.z_range (q_cons (q_callB (o_max (by rfl)) c_max (by rfl) T.z_max b_max (q_cons (q_int) (q_cons (q_callB (o_min (by rfl)) c_min (by rfl) T.z_min b_min (q_cons (q_int) (q_cons (q_callB (o_len (by rfl)) c_len (by rfl) T.z_len b_len (q_cons (q_var (pv 0)) (q_nil))) (q_nil)))) (q_nil)))) (q_nil))) (q_gname (pg_name (i := 1) sc_law.nd (by rfl) (.inl (by rfl)))) (q_scons (q_set (i := 2) sc_law.nd (by rfl) (.inl (by rfl)) (q_fn C_law_hand T.bnd_law_hand hr (by rfl) (by rfl) (by rfl) tk_body (q_cons (q_var (pv 0)) (q_cons (q_var (pv 1)) (q_nil)))))
    (q_scons (q_set (i := 3) sc_law.nd (by rfl) (.inl (by rfl)) (q_fn C_law_code T.bnd_law_code hr (by rfl) (by rfl) (by rfl) tk_body (q_cons (q_var (pv 2)) (q_cons (q_op (o_add (by rfl)) c_add (q_int) (q_fn C_law_take T.bnd_law_take hr (by rfl) (by rfl) (by rfl) tk_body (q_cons (q_var (pv 2)) (q_cons (q_int) (q_nil))))) (q_nil)))))
    (q_scons (q_par3 (i := 4) (j := 5) (l := 6) (by rfl) sc_law.nd (by rfl) (by rfl) (by rfl) (by decide) (by decide) (by decide) (by rfl) (by rfl) (by rfl) (q_cons (q_callB (o_repr (by rfl) hM hr.gd (u150 hr)) c_repr (by rfl) T.z_repr b_repr (q_cons (q_var (pv 3)) (q_nil))) (q_cons (q_fn C_law_givers T.bnd_law_givers hr (by rfl) (by rfl) (by rfl) tk_body (q_cons (q_var (pv 3)) (q_nil))) (q_cons (q_fn C_law_spots T.bnd_law_spots hr (by rfl) (by rfl) (by rfl) tk_body (q_cons (q_var (pv 3)) (q_nil))) (q_nil)))) (by rfl))
    (q_scons (q_for po_body (by rfl) (q_iter (by rfl) (q_var (pv 6))) (q_gname (pg_name (i := 7) sc_law.nd (by rfl) (.inl (by rfl)))) (q_scons (q_set (i := 8) sc_law.nd (by rfl) (.inl (by rfl)) (q_ifExp (q_tcmp (o_in (by rfl) (by rfl) (u65 hr)) c_in (q_var (pv 7)) (q_var (pv 5)) (by rfl)) (q_ix (o_ix (by rfl) (by rfl) (u1 hr)) c_ix (q_ix (o_ix (by rfl) (by rfl) (u1 hr)) c_ix (q_var (pv 5)) (q_var (pv 7)) (fun _ _ => rfl)) (q_int) (fun _ _ => rfl)) (q_lst (q_cons (q_str) (q_cons (q_bl) (q_nil))))))
    (q_scons (q_if (q_tcmp (o_ne (by rfl) hr.units) c_ne (q_callB (o_repr (by rfl) hM hr.gd (u150 hr)) c_repr (by rfl) T.z_repr b_repr (q_cons (q_fn C_law_told T.bnd_law_told hr (by rfl) (by rfl) (by rfl) tk_body (q_cons (q_var (pv 3)) (q_cons (q_var (pv 7)) (q_nil)))) (q_nil))) (q_callB (o_repr (by rfl) hM hr.gd (u150 hr)) c_repr (by rfl) T.z_repr b_repr (q_cons (q_var (pv 8)) (q_nil))) (nomark _)) (q_sone (q_ret (q_bl))) (q_snil))
    (q_sone (q_if (q_tb (w_and (q_tcmp (o_in (by rfl) (by rfl) (u65 hr)) c_in (q_var (pv 7)) (q_var (pv 5)) (by rfl)) (w_and1 (q_tcmp (o_ne (by rfl) hr.units) c_ne (q_callB (o_repr (by rfl) hM hr.gd (u150 hr)) c_repr (by rfl) T.z_repr b_repr (q_cons (q_fnK0 C_giver_at T.kbd_giver_at_0_place_program hr (by rfl) (by rfl) (by rfl) tk_body (q_kcons (q_var (pv 7)) (q_kcons (q_var (pv 3)) (q_knil)))) (q_nil))) (q_callB (o_repr (by rfl) hM hr.gd (u150 hr)) c_repr (by rfl) T.z_repr b_repr (q_cons (q_var (pv 8)) (q_nil))) (nomark _))))) (q_sone (q_ret (q_bl))) (q_snil))))))
    (q_scons (q_for po_body (by rfl) (q_range1 (by rfl) T.z_range (q_cons (q_int) (q_nil))) (q_gname (pg_name (i := 9) sc_law.nd (by rfl) (.inl (by rfl)))) (q_scons (q_set (i := 7) sc_law.nd (by rfl) (.inl (by rfl)) (q_fn C_law_pick T.bnd_law_pick hr (by rfl) (by rfl) (by rfl) tk_body (q_cons (q_var (pv 2)) (q_cons (q_var (pv 6)) (q_nil)))))
    (q_scons (q_set (i := 10) sc_law.nd (by rfl) (.inl (by rfl)) (q_lst (q_cons (q_op (o_add (by rfl)) c_add (q_var (pv 7)) (q_tup (q_cons (q_int) (q_nil)))) (q_cons (q_op (o_add (by rfl)) c_add (q_var (pv 7)) (q_tup (q_cons (q_un o_neg c_neg (q_int)) (q_nil)))) (q_cons (q_op (o_add (by rfl)) c_add (q_var (pv 7)) (q_tup (q_cons (q_bl) (q_nil)))) (q_cons (q_callTy (o_list (by rfl)) c_list (by rfl) T.z_list b_list (q_cons (q_var (pv 7)) (q_nil))) (q_cons (q_non) (q_cons (q_int) (q_cons (q_str) (q_cons (q_dic0) (q_cons (q_tup (q_cons (q_non) (q_nil))) (q_cons (q_lst (q_cons (q_int) (q_nil))) (q_nil)))))))))))))
    (q_scons (q_set (i := 11) sc_law.nd (by rfl) (.inl (by rfl)) (q_fn C_law_pick T.bnd_law_pick hr (by rfl) (by rfl) (by rfl) tk_body (q_cons (q_var (pv 2)) (q_cons (q_var (pv 10)) (q_nil)))))
    (q_sone (q_if (q_tcmp (o_ne (by rfl) hr.units) c_ne (q_fn C_law_told T.bnd_law_told hr (by rfl) (by rfl) (by rfl) tk_body (q_cons (q_var (pv 3)) (q_cons (q_var (pv 11)) (q_nil)))) (q_lst (q_cons (q_str) (q_cons (q_bl) (q_nil)))) (nomark _)) (q_sone (q_ret (q_bl))) (q_snil)))))))
    (q_sone (q_if (q_tcmp (o_ne (by rfl) hr.units) c_ne (q_callB (o_repr (by rfl) hM hr.gd (u150 hr)) c_repr (by rfl) T.z_repr b_repr (q_cons (q_var (pv 3)) (q_nil))) (q_var (pv 4)) (nomark _)) (q_sone (q_ret (q_bl))) (q_snil)))))))))
    (q_sone (q_ret (q_bl)))
structure Alls (P : Program) (K : PySem.W.Frag) (w : World) (mg : Str → Option Value) (base : Heap) (fa : Nat → Addr) (fd : Nat → FuncData) (k : Nat) (F : Nat → FN) : Prop where
  c_wall : Cal P w ⟨K, w, mg⟩ base k "_wall" (fa 0) (fd 0) ["k"] (F 0)
  c_is_whole : Cal P w ⟨K, w, mg⟩ base k "is_whole" (fa 1) (fd 1) ["thing"] (F 1)
  c_is_number : Cal P w ⟨K, w, mg⟩ base k "is_number" (fa 2) (fd 2) ["thing", "low", "high"] (F 2)
  c_at : Cal P w ⟨K, w, mg⟩ base k "at" (fa 3) (fd 3) ["program", "place"] (F 3)
  c_Scopes___init__ : Mak P w ⟨K, w, mg⟩ base k "Scopes" (fa 18) (fa 4) (fd 4) ["self", "program"] (F 4)
  c_Scopes_asked : Mtd P w ⟨K, w, mg⟩ base k "Scopes" "asked" (fa 5) (fd 5) ["self", "outer"] (F 5)
  c_giver_at : Cal P w ⟨K, w, mg⟩ base k "giver_at" (fa 6) (fd 6) ["program", "place"] (F 6)
  c_law_hand : Cal P w ⟨K, w, mg⟩ base k "_law_hand" (fa 7) (fd 7) ["_law_script", "_law_k"] (F 7)
  c_law_take : Cal P w ⟨K, w, mg⟩ base k "_law_take" (fa 8) (fd 8) ["_law_hand_here", "_law_many"] (F 8)
  c_law_pick : Cal P w ⟨K, w, mg⟩ base k "_law_pick" (fa 9) (fd 9) ["_law_hand_here", "_law_some"] (F 9)
  c_law_called : Cal P w ⟨K, w, mg⟩ base k "_law_called" (fa 10) (fd 10) ["_law_hand_here", "_law_many"] (F 10)
  c_law_digit : Cal P w ⟨K, w, mg⟩ base k "_law_digit" (fa 11) (fd 11) ["_law_hand_here"] (F 11)
  c_law_grown : Cal P w ⟨K, w, mg⟩ base k "_law_grown" (fa 12) (fd 12) ["_law_hand_here", "_law_pot", "_law_scope", "_law_level"] (F 12)
  c_law_code : Cal P w ⟨K, w, mg⟩ base k "_law_code" (fa 13) (fd 13) ["_law_hand_here", "_law_size"] (F 13)
  c_law_spots : Cal P w ⟨K, w, mg⟩ base k "_law_spots" (fa 14) (fd 14) ["_law_code_here"] (F 14)
  c_law_givers : Cal P w ⟨K, w, mg⟩ base k "_law_givers" (fa 15) (fd 15) ["_law_code_here"] (F 15)
  c_law_told : Cal P w ⟨K, w, mg⟩ base k "_law_told" (fa 16) (fd 16) ["_law_made", "_law_spot"] (F 16)
  c_law : Cal P w ⟨K, w, mg⟩ base k "law" (fa 17) (fd 17) ["_law_script"] (F 17)
theorem all {P : Program} {K : PySem.W.Frag} {w : World} {mg : Str → Option Value} {base : Heap} {fa : Nat → Addr} {fd : Nat → FuncData} (hM : ∃ o, base.get? sysModules = some o) (T : Txt K w mg fa fd) : ∀ k, Alls P K w mg base fa fd (lv k) (Fs k)
  | 0 => ⟨⟨fn_none, T.g_wall, T.F_wall.kp⟩, ⟨fn_none, T.g_is_whole, T.F_is_whole.kp⟩, ⟨fn_none, T.g_is_number, T.F_is_number.kp⟩, ⟨fn_none, T.g_at, T.F_at.kp⟩, ⟨fn_none, T.ca_Scopes, T.mk_Scopes___init__⟩, ⟨fn_none, T.mt_Scopes_asked⟩, ⟨fn_none, T.g_giver_at, T.F_giver_at.kp⟩, ⟨fn_none, T.g_law_hand, T.F_law_hand.kp⟩, ⟨fn_none, T.g_law_take, T.F_law_take.kp⟩, ⟨fn_none, T.g_law_pick, T.F_law_pick.kp⟩, ⟨fn_none, T.g_law_called, T.F_law_called.kp⟩, ⟨fn_none, T.g_law_digit, T.F_law_digit.kp⟩, ⟨fn_none, T.g_law_grown, T.F_law_grown.kp⟩, ⟨fn_none, T.g_law_code, T.F_law_code.kp⟩, ⟨fn_none, T.g_law_spots, T.F_law_spots.kp⟩, ⟨fn_none, T.g_law_givers, T.F_law_givers.kp⟩, ⟨fn_none, T.g_law_told, T.F_law_told.kp⟩, ⟨fn_none, T.g_law, T.F_law.kp⟩⟩
  | k + 1 => by
    have ih := all (P := P) (base := base) hM T k
    exact ⟨⟨fn_ok (G := ⟨K, w, mg⟩) T.F_wall sc_wall (b_wall (lv1 k) hM T), T.g_wall, T.F_wall.kp⟩,
      ⟨fn_ok (G := ⟨K, w, mg⟩) T.F_is_whole sc_is_whole (b_is_whole (lv1 k) hM T), T.g_is_whole, T.F_is_whole.kp⟩,
      ⟨fn_ok (G := ⟨K, w, mg⟩) T.F_is_number sc_is_number (b_is_number (lv1 k) hM T ih.c_is_whole), T.g_is_number, T.F_is_number.kp⟩,
      ⟨fn_ok (G := ⟨K, w, mg⟩) T.F_at sc_at (b_at (lv1 k) hM T ih.c_is_number), T.g_at, T.F_at.kp⟩,
      ⟨fn_ok (G := ⟨K, w, mg⟩) T.F_Scopes___init__ sc_Scopes___init__ (b_Scopes___init__ (lv1 k) hM T), T.ca_Scopes, T.mk_Scopes___init__⟩,
      ⟨fn_ok (G := ⟨K, w, mg⟩) T.F_Scopes_asked sc_Scopes_asked (b_Scopes_asked (lv1 k) hM T ih.c_wall), T.mt_Scopes_asked⟩,
      ⟨fn_ok (G := ⟨K, w, mg⟩) T.F_giver_at sc_giver_at (b_giver_at (lv1 k) hM T ih.c_Scopes___init__ ih.c_at), T.g_giver_at, T.F_giver_at.kp⟩,
      ⟨fn_ok (G := ⟨K, w, mg⟩) T.F_law_hand sc_law_hand (b_law_hand (lv1 k) hM T), T.g_law_hand, T.F_law_hand.kp⟩,
      ⟨fn_ok (G := ⟨K, w, mg⟩) T.F_law_take sc_law_take (b_law_take (lv1 k) hM T), T.g_law_take, T.F_law_take.kp⟩,
      ⟨fn_ok (G := ⟨K, w, mg⟩) T.F_law_pick sc_law_pick (b_law_pick (lv1 k) hM T ih.c_law_take), T.g_law_pick, T.F_law_pick.kp⟩,
      ⟨fn_ok (G := ⟨K, w, mg⟩) T.F_law_called sc_law_called (b_law_called (lv1 k) hM T ih.c_law_pick ih.c_law_take), T.g_law_called, T.F_law_called.kp⟩,
      ⟨fn_ok (G := ⟨K, w, mg⟩) T.F_law_digit sc_law_digit (b_law_digit (lv1 k) hM T ih.c_law_pick ih.c_law_take), T.g_law_digit, T.F_law_digit.kp⟩,
      ⟨fn_ok (G := ⟨K, w, mg⟩) T.F_law_grown sc_law_grown (b_law_grown (lv1 k) hM T ih.c_law_digit ih.c_law_grown ih.c_law_pick ih.c_law_take), T.g_law_grown, T.F_law_grown.kp⟩,
      ⟨fn_ok (G := ⟨K, w, mg⟩) T.F_law_code sc_law_code (b_law_code (lv1 k) hM T ih.c_law_called ih.c_law_grown ih.c_law_take), T.g_law_code, T.F_law_code.kp⟩,
      ⟨fn_ok (G := ⟨K, w, mg⟩) T.F_law_spots sc_law_spots (b_law_spots (lv1 k) hM T ih.c_law_spots), T.g_law_spots, T.F_law_spots.kp⟩,
      ⟨fn_ok (G := ⟨K, w, mg⟩) T.F_law_givers sc_law_givers (b_law_givers (lv1 k) hM T), T.g_law_givers, T.F_law_givers.kp⟩,
      ⟨fn_ok (G := ⟨K, w, mg⟩) T.F_law_told sc_law_told (b_law_told (lv1 k) hM T ih.c_giver_at), T.g_law_told, T.F_law_told.kp⟩,
      ⟨fn_ok (G := ⟨K, w, mg⟩) T.F_law sc_law (b_law (lv1 k) hM T ih.c_law_code ih.c_law_givers ih.c_law_hand ih.c_law_pick ih.c_law_spots ih.c_law_take ih.c_law_told ih.c_giver_at), T.g_law, T.F_law.kp⟩⟩
end K04
set_option Elab.async false
set_option linter.all false
set_option maxRecDepth 100000
set_option maxHeartbeats 4000000
namespace K04
open PySem PySem.Spec PyProof.Rows L2 L3
def fdOf (d0 : FuncData) (d1 : FuncData) (d2 : FuncData) (d3 : FuncData) (d4 : FuncData) (d5 : FuncData) (d6 : FuncData) (d7 : FuncData) (d8 : FuncData) (d9 : FuncData) (d10 : FuncData) (d11 : FuncData) (d12 : FuncData) (d13 : FuncData) (d14 : FuncData) (d15 : FuncData) (d16 : FuncData) (d17 : FuncData) (d18 : FuncData) (d19 : FuncData) (d20 : FuncData) (d21 : FuncData) (d22 : FuncData) (d23 : FuncData) (d24 : FuncData) (d25 : FuncData) (d26 : FuncData) (d27 : FuncData) (d28 : FuncData) (d29 : FuncData) (d30 : FuncData) : Nat → FuncData
  | 0 => d0
  | 1 => d1
  | 2 => d2
  | 3 => d3
  | 4 => d4
  | 5 => d5
  | 6 => d6
  | 7 => d7
  | 8 => d8
  | 9 => d9
  | 10 => d10
  | 11 => d11
  | 12 => d12
  | 13 => d13
  | 14 => d14
  | 15 => d15
  | 16 => d16
  | 17 => d17
  | 18 => d18
  | 19 => d19
  | 20 => d20
  | 21 => d21
  | 22 => d22
  | 23 => d23
  | 24 => d24
  | 25 => d25
  | 26 => d26
  | 27 => d27
  | 28 => d28
  | 29 => d29
  | 30 => d30
  | _ => d0
theorem all_mk {l : PySem.W.OpenLaw} {w : World} {K : PySem.W.Frag} {h : Heap} {mg : Str → Option Value} {fa : Addr} (X : K.In h) (G : h.Ns mainGlobals mg) (hfa : mg "law" = some (.ref fa)) (TT : ∀ ns : List Int, ns.length ≤ 63 → ∃ S, Fs 100 17 [.scr ns] [] = .ok (.bl true) S)
    {C1 X2 X3 X4 X5 X6 X7 f8 f18 f28 kd37 f40 f50 f60 f70 f80 f90 f100 f110 f120 f130 f140 f150 f160 f170 f180 f190 f200 a210 : Addr}
    {od9 an10 od19 an20 od29 an30 od41 an42 od51 an52 od61 an62 od71 an72 od81 an82 od91 an92 od101 an102 od111 an112 od121 an122 od131 an132 od141 an142 od151 an152 od161 an162 od171 an172 od181 an182 od191 an192 od201 an202 dd213 : Option Addr}
    {sl11 sl21 sl31 sl43 sl53 sl63 sl73 sl83 sl93 sl103 sl113 sl123 sl133 sl143 sl153 sl163 sl173 sl183 sl193 sl203 sl215 : Array (Option Value)}
    {oc12 dc13 pm14 cd15 ct16 kV17 oc22 dc23 pm24 cd25 ct26 kV27 oc32 dc33 pm34 cd35 ct36 oc44 dc45 pm46 cd47 ct48 kV49 oc54 dc55 pm56 cd57 ct58 kV59 oc64 dc65 pm66 cd67 ct68 kV69 oc74 dc75 pm76 cd77 ct78 kV79 oc84 dc85 pm86 cd87 ct88 kV89 oc94 dc95 pm96 cd97 ct98 kV99 oc104 dc105 pm106 cd107 ct108 kV109 oc114 dc115 pm116 cd117 ct118 kV119 oc124 dc125 pm126 cd127 ct128 kV129 oc134 dc135 pm136 cd137 ct138 kV139 oc144 dc145 pm146 cd147 ct148 kV149 oc154 dc155 pm156 cd157 ct158 kV159 oc164 dc165 pm166 cd167 ct168 kV169 oc174 dc175 pm176 cd177 ct178 kV179 oc184 dc185 pm186 cd187 ct188 kV189 oc194 dc195 pm196 cd197 ct198 kV199 oc204 dc205 pm206 cd207 ct208 kV209 : Value}
    {t38 t39 t211 t212 t216 : PySem.Tok}
    {n214 : Nat}
    (a_Scopes : PySem.W.nsIn K mainGlobals "Scopes" = some (some (.ref C1)))
    (pg_Scopes : PySem.W.plainGet K C1 Str.empty = true)
    (hd_Scopes : PySem.W.hasDictIn K C1 = true)
    (po_Scopes : PySem.W.plainOver K C1 = true)
    (sa_Scopes : PySem.W.findIn K (.ref C1) "__setattr__" = some (some (.builtin "object.__setattr__")))
    (mk_Scopes : PySem.W.makesIn K C1 = true)
    (kc_Scopes : PySem.W.keepIn K (.ref C1) = true)
    (a_Halted : PySem.W.nsIn K mainGlobals "Halted" = some (some (.ref X2)))
    (sb_Halted : PySem.W.subIn K (.ref X2) (.type "BaseException") = some true)
    (hd_Halted : PySem.W.hasDictIn K X2 = true)
    (ty_Halted : PySem.W.typeIn K (.ref X2) = some (.type "type"))
    (a_Missing : PySem.W.nsIn K mainGlobals "Missing" = some (some (.ref X3)))
    (sb_Missing : PySem.W.subIn K (.ref X3) (.type "BaseException") = some true)
    (hd_Missing : PySem.W.hasDictIn K X3 = true)
    (ty_Missing : PySem.W.typeIn K (.ref X3) = some (.type "type"))
    (a_NoName : PySem.W.nsIn K mainGlobals "NoName" = some (some (.ref X4)))
    (sb_NoName : PySem.W.subIn K (.ref X4) (.type "BaseException") = some true)
    (hd_NoName : PySem.W.hasDictIn K X4 = true)
    (ty_NoName : PySem.W.typeIn K (.ref X4) = some (.type "type"))
    (kp_NoName : PySem.W.keepIn K (.ref X4) = true)
    (in_NoName : PySem.W.excInitIn K X4 [.type "LookupError", .type "Exception", .type "BaseException", .type "object"] "LookupError.__new__" = true)
    (ov_NoName : PySem.W.excOver K X4 [.type "LookupError", .type "Exception", .type "BaseException", .type "object"] = true)
    (sa_NoName : PySem.W.findIn K (.ref X4) "__setattr__" = some (some (.builtin "object.__setattr__")))
    (ga_NoName : PySem.W.findIn K (.ref X4) "__getattribute__" = some (some (.builtin "BaseException.__getattribute__")))
    (gg_NoName : PySem.W.findIn K (.ref X4) "__getattr__" = some none)
    (cl_NoName : PySem.W.findIn K (.ref X4) "__class__" = some (some (.builtin "object.__class__")))
    (mr_NoName : PySem.W.mroIn K X4 (.type "object") = some true)
    (xn_NoName : PySem.W.findIn K (.ref X4) "name" = some none)
    (a_NoNumber : PySem.W.nsIn K mainGlobals "NoNumber" = some (some (.ref X5)))
    (sb_NoNumber : PySem.W.subIn K (.ref X5) (.type "BaseException") = some true)
    (hd_NoNumber : PySem.W.hasDictIn K X5 = true)
    (ty_NoNumber : PySem.W.typeIn K (.ref X5) = some (.type "type"))
    (a_NoPlace : PySem.W.nsIn K mainGlobals "NoPlace" = some (some (.ref X6)))
    (sb_NoPlace : PySem.W.subIn K (.ref X6) (.type "BaseException") = some true)
    (hd_NoPlace : PySem.W.hasDictIn K X6 = true)
    (ty_NoPlace : PySem.W.typeIn K (.ref X6) = some (.type "type"))
    (kp_NoPlace : PySem.W.keepIn K (.ref X6) = true)
    (in_NoPlace : PySem.W.excInitIn K X6 [.type "LookupError", .type "Exception", .type "BaseException", .type "object"] "LookupError.__new__" = true)
    (ov_NoPlace : PySem.W.excOver K X6 [.type "LookupError", .type "Exception", .type "BaseException", .type "object"] = true)
    (sa_NoPlace : PySem.W.findIn K (.ref X6) "__setattr__" = some (some (.builtin "object.__setattr__")))
    (ga_NoPlace : PySem.W.findIn K (.ref X6) "__getattribute__" = some (some (.builtin "BaseException.__getattribute__")))
    (gg_NoPlace : PySem.W.findIn K (.ref X6) "__getattr__" = some none)
    (cl_NoPlace : PySem.W.findIn K (.ref X6) "__class__" = some (some (.builtin "object.__class__")))
    (mr_NoPlace : PySem.W.mroIn K X6 (.type "object") = some true)
    (xn_NoPlace : PySem.W.findIn K (.ref X6) "place" = some none)
    (a_Refused : PySem.W.nsIn K mainGlobals "Refused" = some (some (.ref X7)))
    (sb_Refused : PySem.W.subIn K (.ref X7) (.type "BaseException") = some true)
    (hd_Refused : PySem.W.hasDictIn K X7 = true)
    (ty_Refused : PySem.W.typeIn K (.ref X7) = some (.type "type"))
    (sp_class : PySem.W.specialIn K (.builtin "object.__class__") "__get__" = some (some (.builtin "getset_descriptor.__get__")))
    (tk_class : PySem.W.takesIn K (.builtin "object.__class__") = some true)
    (xs_NoName__Halted : PySem.W.subIn K (.ref X4) (.ref X2) = some false)
    (xs_NoName__LookupError : PySem.W.subIn K (.ref X4) (.type "LookupError") = some true)
    (xs_NoName__Missing : PySem.W.subIn K (.ref X4) (.ref X3) = some true)
    (xs_NoName__NoName : PySem.W.subIn K (.ref X4) (.ref X4) = some true)
    (xs_NoName__NoNumber : PySem.W.subIn K (.ref X4) (.ref X5) = some false)
    (xs_NoName__NoPlace : PySem.W.subIn K (.ref X4) (.ref X6) = some false)
    (xs_NoName__Refused : PySem.W.subIn K (.ref X4) (.ref X7) = some false)
    (xs_NoPlace__Halted : PySem.W.subIn K (.ref X6) (.ref X2) = some false)
    (xs_NoPlace__LookupError : PySem.W.subIn K (.ref X6) (.type "LookupError") = some true)
    (xs_NoPlace__Missing : PySem.W.subIn K (.ref X6) (.ref X3) = some true)
    (xs_NoPlace__NoName : PySem.W.subIn K (.ref X6) (.ref X4) = some false)
    (xs_NoPlace__NoNumber : PySem.W.subIn K (.ref X6) (.ref X5) = some false)
    (xs_NoPlace__NoPlace : PySem.W.subIn K (.ref X6) (.ref X6) = some true)
    (xs_NoPlace__Refused : PySem.W.subIn K (.ref X6) (.ref X7) = some false)
    (n_Scopes_givers : PySem.W.findIn K (.ref C1) "givers" = some none)
    (n_Scopes_names : PySem.W.findIn K (.ref C1) "names" = some none)
    (a_wall : PySem.W.nsIn K mainGlobals "_wall" = some (some (.ref f8)))
    (l_wall : K.lookup f8 = some ⟨oc12, od9, .func (PySem.W.fnOf "_wall" "_wall" (defArgs s_wall) (defBody s_wall) (defScope s_wall) .none kV17 dc13 pm14 an10 cd15 ct16), sl11⟩)
    (c_wall : PySem.W.codeIn K cd15 "_wall" = true)
    (k_wall : PySem.W.keepIn K (.ref f8) = true)
    (a_is_whole : PySem.W.nsIn K mainGlobals "is_whole" = some (some (.ref f18)))
    (l_is_whole : K.lookup f18 = some ⟨oc22, od19, .func (PySem.W.fnOf "is_whole" "is_whole" (defArgs s_is_whole) (defBody s_is_whole) (defScope s_is_whole) .none kV27 dc23 pm24 an20 cd25 ct26), sl21⟩)
    (c_is_whole : PySem.W.codeIn K cd25 "is_whole" = true)
    (k_is_whole : PySem.W.keepIn K (.ref f18) = true)
    (a_is_number : PySem.W.nsIn K mainGlobals "is_number" = some (some (.ref f28)))
    (l_is_number : K.lookup f28 = some ⟨oc32, od29, .func (PySem.W.fnOf "is_number" "is_number" (defArgs s_is_number) (defBody s_is_number) (defScope s_is_number) .none (.ref kd37) dc33 pm34 an30 cd35 ct36), sl31⟩)
    (c_is_number : PySem.W.codeIn K cd35 "is_number" = true)
    (k_is_number : PySem.W.keepIn K (.ref f28) = true)
    (w_is_number_high : PySem.W.nsIn K kd37 "high" = some (some (.int 9972 t38)))
    (w_is_number_low : PySem.W.nsIn K kd37 "low" = some (some (.int 0 t39)))
    (a_at : PySem.W.nsIn K mainGlobals "at" = some (some (.ref f40)))
    (l_at : K.lookup f40 = some ⟨oc44, od41, .func (PySem.W.fnOf "at" "at" (defArgs s_at) (defBody s_at) (defScope s_at) .none kV49 dc45 pm46 an42 cd47 ct48), sl43⟩)
    (c_at : PySem.W.codeIn K cd47 "at" = true)
    (k_at : PySem.W.keepIn K (.ref f40) = true)
    (a_Scopes___init__ : PySem.W.findIn K (.ref C1) "__init__" = some (some (.ref f50)))
    (i_Scopes___init__ : PySem.W.isFn K (.ref f50) = true)
    (l_Scopes___init__ : K.lookup f50 = some ⟨oc54, od51, .func (PySem.W.fnOf "__init__" "Scopes.__init__" (defArgs s_Scopes___init__) (defBody s_Scopes___init__) (defScope s_Scopes___init__) .none kV59 dc55 pm56 an52 cd57 ct58), sl53⟩)
    (c_Scopes___init__ : PySem.W.codeIn K cd57 "Scopes.__init__" = true)
    (k_Scopes___init__ : PySem.W.keepIn K (.ref f50) = true)
    (a_Scopes_asked : PySem.W.findIn K (.ref C1) "asked" = some (some (.ref f60)))
    (i_Scopes_asked : PySem.W.isFn K (.ref f60) = true)
    (l_Scopes_asked : K.lookup f60 = some ⟨oc64, od61, .func (PySem.W.fnOf "asked" "Scopes.asked" (defArgs s_Scopes_asked) (defBody s_Scopes_asked) (defScope s_Scopes_asked) .none kV69 dc65 pm66 an62 cd67 ct68), sl63⟩)
    (c_Scopes_asked : PySem.W.codeIn K cd67 "Scopes.asked" = true)
    (k_Scopes_asked : PySem.W.keepIn K (.ref f60) = true)
    (a_giver_at : PySem.W.nsIn K mainGlobals "giver_at" = some (some (.ref f70)))
    (l_giver_at : K.lookup f70 = some ⟨oc74, od71, .func (PySem.W.fnOf "giver_at" "giver_at" (defArgs s_giver_at) (defBody s_giver_at) (defScope s_giver_at) .none kV79 dc75 pm76 an72 cd77 ct78), sl73⟩)
    (c_giver_at : PySem.W.codeIn K cd77 "giver_at" = true)
    (k_giver_at : PySem.W.keepIn K (.ref f70) = true)
    (a_law_hand : PySem.W.nsIn K mainGlobals "_law_hand" = some (some (.ref f80)))
    (l_law_hand : K.lookup f80 = some ⟨oc84, od81, .func (PySem.W.fnOf "_law_hand" "_law_hand" (defArgs s_law_hand) (defBody s_law_hand) (defScope s_law_hand) .none kV89 dc85 pm86 an82 cd87 ct88), sl83⟩)
    (c_law_hand : PySem.W.codeIn K cd87 "_law_hand" = true)
    (k_law_hand : PySem.W.keepIn K (.ref f80) = true)
    (a_law_take : PySem.W.nsIn K mainGlobals "_law_take" = some (some (.ref f90)))
    (l_law_take : K.lookup f90 = some ⟨oc94, od91, .func (PySem.W.fnOf "_law_take" "_law_take" (defArgs s_law_take) (defBody s_law_take) (defScope s_law_take) .none kV99 dc95 pm96 an92 cd97 ct98), sl93⟩)
    (c_law_take : PySem.W.codeIn K cd97 "_law_take" = true)
    (k_law_take : PySem.W.keepIn K (.ref f90) = true)
    (a_law_pick : PySem.W.nsIn K mainGlobals "_law_pick" = some (some (.ref f100)))
    (l_law_pick : K.lookup f100 = some ⟨oc104, od101, .func (PySem.W.fnOf "_law_pick" "_law_pick" (defArgs s_law_pick) (defBody s_law_pick) (defScope s_law_pick) .none kV109 dc105 pm106 an102 cd107 ct108), sl103⟩)
    (c_law_pick : PySem.W.codeIn K cd107 "_law_pick" = true)
    (k_law_pick : PySem.W.keepIn K (.ref f100) = true)
    (a_law_called : PySem.W.nsIn K mainGlobals "_law_called" = some (some (.ref f110)))
    (l_law_called : K.lookup f110 = some ⟨oc114, od111, .func (PySem.W.fnOf "_law_called" "_law_called" (defArgs s_law_called) (defBody s_law_called) (defScope s_law_called) .none kV119 dc115 pm116 an112 cd117 ct118), sl113⟩)
    (c_law_called : PySem.W.codeIn K cd117 "_law_called" = true)
    (k_law_called : PySem.W.keepIn K (.ref f110) = true)
    (a_law_digit : PySem.W.nsIn K mainGlobals "_law_digit" = some (some (.ref f120)))
    (l_law_digit : K.lookup f120 = some ⟨oc124, od121, .func (PySem.W.fnOf "_law_digit" "_law_digit" (defArgs s_law_digit) (defBody s_law_digit) (defScope s_law_digit) .none kV129 dc125 pm126 an122 cd127 ct128), sl123⟩)
    (c_law_digit : PySem.W.codeIn K cd127 "_law_digit" = true)
    (k_law_digit : PySem.W.keepIn K (.ref f120) = true)
    (a_law_grown : PySem.W.nsIn K mainGlobals "_law_grown" = some (some (.ref f130)))
    (l_law_grown : K.lookup f130 = some ⟨oc134, od131, .func (PySem.W.fnOf "_law_grown" "_law_grown" (defArgs s_law_grown) (defBody s_law_grown) (defScope s_law_grown) .none kV139 dc135 pm136 an132 cd137 ct138), sl133⟩)
    (c_law_grown : PySem.W.codeIn K cd137 "_law_grown" = true)
    (k_law_grown : PySem.W.keepIn K (.ref f130) = true)
    (a_law_code : PySem.W.nsIn K mainGlobals "_law_code" = some (some (.ref f140)))
    (l_law_code : K.lookup f140 = some ⟨oc144, od141, .func (PySem.W.fnOf "_law_code" "_law_code" (defArgs s_law_code) (defBody s_law_code) (defScope s_law_code) .none kV149 dc145 pm146 an142 cd147 ct148), sl143⟩)
    (c_law_code : PySem.W.codeIn K cd147 "_law_code" = true)
    (k_law_code : PySem.W.keepIn K (.ref f140) = true)
    (a_law_spots : PySem.W.nsIn K mainGlobals "_law_spots" = some (some (.ref f150)))
    (l_law_spots : K.lookup f150 = some ⟨oc154, od151, .func (PySem.W.fnOf "_law_spots" "_law_spots" (defArgs s_law_spots) (defBody s_law_spots) (defScope s_law_spots) .none kV159 dc155 pm156 an152 cd157 ct158), sl153⟩)
    (c_law_spots : PySem.W.codeIn K cd157 "_law_spots" = true)
    (k_law_spots : PySem.W.keepIn K (.ref f150) = true)
    (a_law_givers : PySem.W.nsIn K mainGlobals "_law_givers" = some (some (.ref f160)))
    (l_law_givers : K.lookup f160 = some ⟨oc164, od161, .func (PySem.W.fnOf "_law_givers" "_law_givers" (defArgs s_law_givers) (defBody s_law_givers) (defScope s_law_givers) .none kV169 dc165 pm166 an162 cd167 ct168), sl163⟩)
    (c_law_givers : PySem.W.codeIn K cd167 "_law_givers" = true)
    (k_law_givers : PySem.W.keepIn K (.ref f160) = true)
    (a_law_told : PySem.W.nsIn K mainGlobals "_law_told" = some (some (.ref f170)))
    (l_law_told : K.lookup f170 = some ⟨oc174, od171, .func (PySem.W.fnOf "_law_told" "_law_told" (defArgs s_law_told) (defBody s_law_told) (defScope s_law_told) .none kV179 dc175 pm176 an172 cd177 ct178), sl173⟩)
    (c_law_told : PySem.W.codeIn K cd177 "_law_told" = true)
    (k_law_told : PySem.W.keepIn K (.ref f170) = true)
    (a_law : PySem.W.nsIn K mainGlobals "law" = some (some (.ref f180)))
    (l_law : K.lookup f180 = some ⟨oc184, od181, .func (PySem.W.fnOf "law" "law" (defArgs s_law) (defBody s_law) (defScope s_law) .none kV189 dc185 pm186 an182 cd187 ct188), sl183⟩)
    (c_law : PySem.W.codeIn K cd187 "law" = true)
    (k_law : PySem.W.keepIn K (.ref f180) = true)
    (xc_NoName : PySem.W.findIn K (.ref X4) "__init__" = some (some (.ref f190)))
    (xt_NoName : PySem.W.typeIn K (.ref f190) = some (.type "function"))
    (l_NoName___init__ : K.lookup f190 = some ⟨oc194, od191, .func (PySem.W.fnOf "__init__" "NoName.__init__" (defArgs s_NoName___init__) (defBody s_NoName___init__) (defScope s_NoName___init__) .none kV199 dc195 pm196 an192 cd197 ct198), sl193⟩)
    (c_NoName___init__ : PySem.W.codeIn K cd197 "NoName.__init__" = true)
    (k_NoName___init__ : PySem.W.keepIn K (.ref f190) = true)
    (xc_NoPlace : PySem.W.findIn K (.ref X6) "__init__" = some (some (.ref f200)))
    (xt_NoPlace : PySem.W.typeIn K (.ref f200) = some (.type "function"))
    (l_NoPlace___init__ : K.lookup f200 = some ⟨oc204, od201, .func (PySem.W.fnOf "__init__" "NoPlace.__init__" (defArgs s_NoPlace___init__) (defBody s_NoPlace___init__) (defScope s_NoPlace___init__) .none kV209 dc205 pm206 an202 cd207 ct208), sl203⟩)
    (c_NoPlace___init__ : PySem.W.codeIn K cd207 "NoPlace.__init__" = true)
    (k_NoPlace___init__ : PySem.W.keepIn K (.ref f200) = true)
    (z_LookupError : PySem.W.nsIn K mainGlobals "LookupError" = some none)
    (z_abs : PySem.W.nsIn K mainGlobals "abs" = some none)
    (z_bool : PySem.W.nsIn K mainGlobals "bool" = some none)
    (z_dict : PySem.W.nsIn K mainGlobals "dict" = some none)
    (z_enumerate : PySem.W.nsIn K mainGlobals "enumerate" = some none)
    (z_int : PySem.W.nsIn K mainGlobals "int" = some none)
    (z_isinstance : PySem.W.nsIn K mainGlobals "isinstance" = some none)
    (z_len : PySem.W.nsIn K mainGlobals "len" = some none)
    (z_list : PySem.W.nsIn K mainGlobals "list" = some none)
    (z_max : PySem.W.nsIn K mainGlobals "max" = some none)
    (z_min : PySem.W.nsIn K mainGlobals "min" = some none)
    (z_range : PySem.W.nsIn K mainGlobals "range" = some none)
    (z_repr : PySem.W.nsIn K mainGlobals "repr" = some none)
    (z_tuple : PySem.W.nsIn K mainGlobals "tuple" = some none)
    (x_GIVERS : PySem.W.nsIn K mainGlobals "GIVERS" = some (some (.ref a210)))
    (l_GIVERS : K.lookup a210 = some ⟨.type "tuple", dd213, .seq (List.toArray [(.str "let" t211), (.str "each" t212)]) n214, sl215⟩)
    (x_NAME : PySem.W.nsIn K mainGlobals "NAME" = some (some (.str "name" t216)))
    : ∃ fd : FuncData, (∀ (s : Shared) (v : Value), BindsTo s fd ⟨[v], []⟩ [("_law_script", v)]) ∧ ∀ base : Heap, K.In base → base.Ns mainGlobals mg → (∃ o, base.get? sysModules = some o) → FnG l.prog w K mg base (lv 100) fa fd ["_law_script"] (spLaw K) := by
  have e := hfa.symm.trans (PySem.W.mg_of X G a_law)
  cases e
  have F_wall := funD_mk (K := K) (kws := []) l_wall c_wall k_wall kw_none
  have F_is_whole := funD_mk (K := K) (kws := []) l_is_whole c_is_whole k_is_whole kw_none
  have F_is_number := funD_mk (K := K) (kws := [("low", .int 0), ("high", .int 9972)]) l_is_number c_is_number k_is_number (kw_some (kw_cons w_is_number_low ⟨_, rfl⟩ (kw_cons w_is_number_high ⟨_, rfl⟩ kw_nil)))
  have F_at := funD_mk (K := K) (kws := []) l_at c_at k_at kw_none
  have F_Scopes___init__ := funD_mk (K := K) (kws := []) l_Scopes___init__ c_Scopes___init__ k_Scopes___init__ kw_none
  have F_Scopes_asked := funD_mk (K := K) (kws := []) l_Scopes_asked c_Scopes_asked k_Scopes_asked kw_none
  have F_giver_at := funD_mk (K := K) (kws := []) l_giver_at c_giver_at k_giver_at kw_none
  have F_law_hand := funD_mk (K := K) (kws := []) l_law_hand c_law_hand k_law_hand kw_none
  have F_law_take := funD_mk (K := K) (kws := []) l_law_take c_law_take k_law_take kw_none
  have F_law_pick := funD_mk (K := K) (kws := []) l_law_pick c_law_pick k_law_pick kw_none
  have F_law_called := funD_mk (K := K) (kws := []) l_law_called c_law_called k_law_called kw_none
  have F_law_digit := funD_mk (K := K) (kws := []) l_law_digit c_law_digit k_law_digit kw_none
  have F_law_grown := funD_mk (K := K) (kws := []) l_law_grown c_law_grown k_law_grown kw_none
  have F_law_code := funD_mk (K := K) (kws := []) l_law_code c_law_code k_law_code kw_none
  have F_law_spots := funD_mk (K := K) (kws := []) l_law_spots c_law_spots k_law_spots kw_none
  have F_law_givers := funD_mk (K := K) (kws := []) l_law_givers c_law_givers k_law_givers kw_none
  have F_law_told := funD_mk (K := K) (kws := []) l_law_told c_law_told k_law_told kw_none
  have F_law := funD_mk (K := K) (kws := []) l_law c_law k_law kw_none
  have F_NoName___init__ := funD_mk (K := K) (kws := []) l_NoName___init__ c_NoName___init__ k_NoName___init__ kw_none
  have F_NoPlace___init__ := funD_mk (K := K) (kws := []) l_NoPlace___init__ c_NoPlace___init__ k_NoPlace___init__ kw_none
  have T : Txt K w mg (fun i => ([f8, f18, f28, f40, f50, f60, f70, f80, f90, f100, f110, f120, f130, f140, f150, f160, f170, fa, C1, X7, X3, X2, X6, X4, X5, 0, 0, 0, f200, f190, 0] : List Addr).getD i 0) (fdOf _ _ _ _ _ _ _ _ _ _ _ _ _ _ _ _ _ _ default default default default default default default default default default _ _ default) := {
    z_LookupError := PySem.W.mg_none_of X G z_LookupError,
    z_abs := PySem.W.mg_none_of X G z_abs,
    z_bool := PySem.W.mg_none_of X G z_bool,
    z_dict := PySem.W.mg_none_of X G z_dict,
    z_enumerate := PySem.W.mg_none_of X G z_enumerate,
    z_int := PySem.W.mg_none_of X G z_int,
    z_isinstance := PySem.W.mg_none_of X G z_isinstance,
    z_len := PySem.W.mg_none_of X G z_len,
    z_list := PySem.W.mg_none_of X G z_list,
    z_max := PySem.W.mg_none_of X G z_max,
    z_min := PySem.W.mg_none_of X G z_min,
    z_range := PySem.W.mg_none_of X G z_range,
    z_repr := PySem.W.mg_none_of X G z_repr,
    z_tuple := PySem.W.mg_none_of X G z_tuple,
    c_GIVERS := grep_of (PySem.W.mg_of X G x_GIVERS) (kv_tup l_GIVERS (kvs_cons kv_str (kvs_cons kv_str kvs_nil))),
    c_NAME := grep_of (PySem.W.mg_of X G x_NAME) kv_str,
    g_wall := PySem.W.mg_of X G a_wall,
    F_wall := F_wall,
    g_is_whole := PySem.W.mg_of X G a_is_whole,
    F_is_whole := F_is_whole,
    g_is_number := PySem.W.mg_of X G a_is_number,
    F_is_number := F_is_number,
    g_at := PySem.W.mg_of X G a_at,
    F_at := F_at,
    mk_Scopes___init__ := ⟨mk_Scopes, a_Scopes___init__, i_Scopes___init__, kc_Scopes⟩,
    F_Scopes___init__ := F_Scopes___init__,
    mt_Scopes_asked := ⟨_, PySem.W.mg_of X G a_Scopes, ⟨pg_Scopes, hd_Scopes, po_Scopes, sa_Scopes⟩, ⟨a_Scopes_asked, i_Scopes_asked, k_Scopes_asked⟩⟩,
    F_Scopes_asked := F_Scopes_asked,
    g_giver_at := PySem.W.mg_of X G a_giver_at,
    F_giver_at := F_giver_at,
    g_law_hand := PySem.W.mg_of X G a_law_hand,
    F_law_hand := F_law_hand,
    g_law_take := PySem.W.mg_of X G a_law_take,
    F_law_take := F_law_take,
    g_law_pick := PySem.W.mg_of X G a_law_pick,
    F_law_pick := F_law_pick,
    g_law_called := PySem.W.mg_of X G a_law_called,
    F_law_called := F_law_called,
    g_law_digit := PySem.W.mg_of X G a_law_digit,
    F_law_digit := F_law_digit,
    g_law_grown := PySem.W.mg_of X G a_law_grown,
    F_law_grown := F_law_grown,
    g_law_code := PySem.W.mg_of X G a_law_code,
    F_law_code := F_law_code,
    g_law_spots := PySem.W.mg_of X G a_law_spots,
    F_law_spots := F_law_spots,
    g_law_givers := PySem.W.mg_of X G a_law_givers,
    F_law_givers := F_law_givers,
    g_law_told := PySem.W.mg_of X G a_law_told,
    F_law_told := F_law_told,
    g_law := PySem.W.mg_of X G a_law,
    F_law := F_law,
    ca_Scopes := PySem.W.mg_of X G a_Scopes,
    ca_Halted := PySem.W.mg_of X G a_Halted,
    xd_Halted := ⟨sb_Halted, hd_Halted, ty_Halted⟩,
    ca_Missing := PySem.W.mg_of X G a_Missing,
    xd_Missing := ⟨sb_Missing, hd_Missing, ty_Missing⟩,
    ca_NoName := PySem.W.mg_of X G a_NoName,
    xd_NoName := ⟨sb_NoName, hd_NoName, ty_NoName⟩,
    xi_NoName := ⟨ga_NoName, gg_NoName, sb_NoName, hd_NoName, cl_NoName, sp_class, tk_class, mr_NoName⟩,
    xn_NoName := xn_NoName,
    xo_NoName := ⟨_, _, _, _, PySem.F.excBase_LookupError, PySem.F.store_LookupError, in_NoName, ov_NoName, sa_NoName, sb_NoName, ty_NoName, kp_NoName, hd_NoName⟩,
    xc_NoName := xc_NoName,
    xt_NoName := xt_NoName,
    F_NoName___init__ := F_NoName___init__,
    ca_NoNumber := PySem.W.mg_of X G a_NoNumber,
    xd_NoNumber := ⟨sb_NoNumber, hd_NoNumber, ty_NoNumber⟩,
    ca_NoPlace := PySem.W.mg_of X G a_NoPlace,
    xd_NoPlace := ⟨sb_NoPlace, hd_NoPlace, ty_NoPlace⟩,
    xi_NoPlace := ⟨ga_NoPlace, gg_NoPlace, sb_NoPlace, hd_NoPlace, cl_NoPlace, sp_class, tk_class, mr_NoPlace⟩,
    xn_NoPlace := xn_NoPlace,
    xo_NoPlace := ⟨_, _, _, _, PySem.F.excBase_LookupError, PySem.F.store_LookupError, in_NoPlace, ov_NoPlace, sa_NoPlace, sb_NoPlace, ty_NoPlace, kp_NoPlace, hd_NoPlace⟩,
    xc_NoPlace := xc_NoPlace,
    xt_NoPlace := xt_NoPlace,
    F_NoPlace___init__ := F_NoPlace___init__,
    ca_Refused := PySem.W.mg_of X G a_Refused,
    xd_Refused := ⟨sb_Refused, hd_Refused, ty_Refused⟩,
    xs_NoName__Halted := xs_NoName__Halted,
    xs_NoName__LookupError := xs_NoName__LookupError,
    xs_NoName__Missing := xs_NoName__Missing,
    xs_NoName__NoName := xs_NoName__NoName,
    xs_NoName__NoNumber := xs_NoName__NoNumber,
    xs_NoName__NoPlace := xs_NoName__NoPlace,
    xs_NoName__Refused := xs_NoName__Refused,
    xs_NoPlace__Halted := xs_NoPlace__Halted,
    xs_NoPlace__LookupError := xs_NoPlace__LookupError,
    xs_NoPlace__Missing := xs_NoPlace__Missing,
    xs_NoPlace__NoName := xs_NoPlace__NoName,
    xs_NoPlace__NoNumber := xs_NoPlace__NoNumber,
    xs_NoPlace__NoPlace := xs_NoPlace__NoPlace,
    xs_NoPlace__Refused := xs_NoPlace__Refused,
    fo_givers := (fld_cons (PySem.W.mg_of X G a_Scopes) ⟨pg_Scopes, hd_Scopes, po_Scopes, sa_Scopes⟩ n_Scopes_givers fld_nil),
    fo_names := (fld_cons (PySem.W.mg_of X G a_Scopes) ⟨pg_Scopes, hd_Scopes, po_Scopes, sa_Scopes⟩ n_Scopes_names fld_nil) }
  exact ⟨_, fun s v => .of_eq rfl, fun base _ _ hM => law_ok (G := ⟨K, w, mg⟩) (all (P := l.prog) (base := base) hM T 100).c_law.1 TT⟩
end K04
set_option Elab.async false
set_option linter.all false
set_option maxRecDepth 100000
/-! L3N: what an answer satisfies (the plain laws are shown by these). -/
namespace L3
open PySem
/-- an equation that simp does not take as one by definition (the kernel would run the terms) -/
theorem nrfl {α : Sort u} {a b : α} (h : a = b) : a = b := h

/-- two lists, item by item -/
inductive All2 {α β : Type} (P : α → β → Prop) : List α → List β → Prop where
  | nil : All2 P [] []
  | cons {x y xs ys} : P x y → All2 P xs ys → All2 P (x :: xs) (y :: ys)
theorem All2.imp {α β : Type} {P R : α → β → Prop} {xs ys} (h : All2 P xs ys) (m : ∀ x ∈ xs, ∀ y, P x y → R x y) : All2 R xs ys := by
  induction h with
  | nil => exact .nil
  | cons p _ ih => exact .cons (m _ (List.mem_cons_self ..) _ p) (ih fun x hx => m x (List.mem_cons_of_mem _ hx))
theorem All2.map_r {α β γ : Type} {P : α → γ → Prop} {f : β → γ} {xs : List α} {ys : List β} (h : All2 (fun x y => P x (f y)) xs ys) : All2 P xs (ys.map f) := by
  induction h with
  | nil => exact .nil
  | cons p _ ih => exact .cons p ih
theorem All2.app {α β : Type} {P : α → β → Prop} {xs xs' ys ys'} (h : All2 P xs ys) (g : All2 P xs' ys') : All2 P (xs ++ xs') (ys ++ ys') := by
  induction h with
  | nil => exact g
  | cons p _ ih => exact .cons p ih
theorem All2.len {α β : Type} {P : α → β → Prop} {xs ys} (h : All2 P xs ys) : ys.length = xs.length := by induction h <;> simp_all
theorem All2.all {α β : Type} {P : α → β → Prop} {R : β → Prop} {xs ys} (h : All2 P xs ys) (m : ∀ x ∈ xs, ∀ y, P x y → R y) : ∀ y ∈ ys, R y := by
  induction h with
  | nil => intro y h; cases h
  | cons p _ ih =>
    intro y h
    rcases List.mem_cons.mp h with rfl | h
    · exact m _ (List.mem_cons_self ..) _ p
    · exact ih (fun x hx => m x (List.mem_cons_of_mem _ hx)) y h
/-- an inductive predicate: nothing unfolds it (a term to be run is not run by a look at its goal) -/
inductive R.sat {α : Type} : R α → (α → Store → Prop) → Prop where
  | mk {a : α} {S : Store} {Q : α → Store → Prop} (h : Q a S) : R.sat (.ok a S) Q
section
variable {α β : Type} {S : Store} {env : EnvD} {d : D}
@[simp] theorem sat_ok {a : α} {Q : α → Store → Prop} : (R.ok a S).sat Q = Q a S := propext ⟨fun h => by cases h; assumption, .mk⟩
@[simp] theorem sat_bad {Q : α → Store → Prop} : (R.bad : R α).sat Q = False := propext ⟨fun h => (by cases h), False.elim⟩
@[simp] theorem sat_exc {e : Ex} {Q : α → Store → Prop} : (R.exc e S : R α).sat Q = False := propext ⟨fun h => (by cases h), False.elim⟩
theorem sat_bind {r : R α} {f : α → Store → R β} {Q : β → Store → Prop} : (r.bind f).sat Q = r.sat fun a S => (f a S).sat Q := by cases r <;> simp [R.bind]
theorem sat_mono {r : R α} {Q Q' : α → Store → Prop} (h : r.sat Q) (m : ∀ a S, Q a S → Q' a S) : r.sat Q' := by cases h with | mk h => exact .mk (m _ _ h)
theorem sat_ex {r : R α} {Q : α → Store → Prop} : r.sat Q ↔ ∃ a S, r = .ok a S ∧ Q a S :=
  ⟨fun h => by cases h with | mk h => exact ⟨_, _, rfl, h⟩, fun ⟨_, _, e, h⟩ => by rw [e]; exact .mk h⟩
theorem sat_if {c : Prop} [Decidable c] {a b : R α} {Q : α → Store → Prop} : (if c then a else b).sat Q = if c then a.sat Q else b.sat Q := by split <;> rfl
theorem sat_if_bad {c : Prop} [Decidable c] {a : R α} {Q : α → Store → Prop} : (if c then a else .bad).sat Q = (c ∧ a.sat Q) := by by_cases h : c <;> simp [h]
def blD (x : D) (S : Store) : R Bool := match x with
  | .bl k => .ok k S
  | _ => .bad
@[simp] theorem blD_bl {k : Bool} : blD (.bl k) S = .ok k S := nrfl rfl
theorem of_sat {r : R α} {x : α} (h : r.sat fun d S' => d = x ∧ S' = S) : r = .ok x S := by
  obtain ⟨a, S', e, rfl, rfl⟩ := sat_ex.mp h
  exact e
theorem to_sat {r : R α} {x : α} {Q : α → Store → Prop} (h : r = .ok x S) (q : Q x S) : r.sat Q := by rw [h]; exact .mk q
/-! expressions -/
variable {Q : D → Store → Prop} {QB : Bool → Store → Prop} {QL : List D → Store → Prop}
@[simp] theorem sat_eVar {i : Nat} : (eVar i env S).sat Q = match env[i]? with
    | some (some d) => Q d S
    | _ => False := by unfold eVar; cases env[i]? with
  | none => simp
  | some o => cases o <;> simp
@[simp] theorem sat_eK : (eK d env S).sat Q = Q d S := sat_ok
@[simp] theorem sat_e1 {f : L3.F1} {a : ED} : (e1 f a env S).sat Q = (a env S).sat fun x S1 => (f x S1).sat Q := sat_bind
@[simp] theorem sat_e2 {f : L3.F2} {a b : ED} : (e2 f a b env S).sat Q = (a env S).sat fun x S1 => (b env S1).sat fun y S2 => (f x y S2).sat Q := by unfold e2; rw [sat_bind]; simp only [sat_bind]
@[simp] theorem sat_aNil : (aNil env S).sat QL = QL [] S := sat_ok
@[simp] theorem sat_aCons {a : ED} {r : AD} : (aCons a r env S).sat QL = (a env S).sat fun x S1 => (r env S1).sat fun xs S2 => QL (x :: xs) S2 := by unfold aCons; rw [sat_bind]; simp only [sat_bind, sat_ok]
@[simp] theorem sat_eN {f : FN} {a : AD} : (eN f a env S).sat Q = (a env S).sat fun xs S1 => (f xs S1).sat Q := sat_bind
@[simp] theorem sat_eIf {c : TD} {a b : ED} : (eIf c a b env S).sat Q = (c env S).sat fun k S1 => if k = true then (a env S1).sat Q else (b env S1).sat Q := by
  unfold eIf; rw [sat_bind]; congr; funext k S1; cases k <;> simp
@[simp] theorem sat_tOfE {a : ED} : (tOfE a env S).sat QB = (a env S).sat fun x S1 => (blD x S1).sat QB := by
  unfold tOfE; rw [sat_bind]; congr
@[simp] theorem sat_tTruth {a : ED} : (tTruth a env S).sat QB = (a env S).sat fun x S1 => (truthD x S1).sat QB := sat_bind
@[simp] theorem truthD_bl {k : Bool} : truthD (.bl k) S = .ok k S := nrfl rfl
@[simp] theorem truthD_non : truthD .non S = .ok false S := nrfl rfl
@[simp] theorem truthD_int {i : Int} : truthD (.int i) S = .ok (i != 0) S := nrfl rfl
@[simp] theorem truthD_tup {l : List D} : truthD (.tup l) S = .ok (!l.isEmpty) S := nrfl rfl
@[simp] theorem truthD_lst {l : List D} : truthD (.lst l) S = .ok (!l.isEmpty) S := nrfl rfl
@[simp] theorem sat_tNot {a : TD} : (tNot a env S).sat QB = (a env S).sat fun k S1 => QB (!k) S1 := by unfold tNot; rw [sat_bind]; simp only [sat_ok]
@[simp] theorem sat_tAnd {a b : TD} : (tAnd a b env S).sat QB = (a env S).sat fun k S1 => if k = true then (b env S1).sat QB else QB false S1 := by
  unfold tAnd; rw [sat_bind]; congr; funext k S1; cases k <;> simp
@[simp] theorem sat_tOr {a b : TD} : (tOr a b env S).sat QB = (a env S).sat fun k S1 => if k = true then QB true S1 else (b env S1).sat QB := by
  unfold tOr; rw [sat_bind]; congr; funext k S1; cases k <;> simp
@[simp] theorem sat_eNot {a : ED} : (eNot a env S).sat Q = (a env S).sat fun x S1 => (blD x S1).sat fun k S2 => Q (.bl (!k)) S2 := by
  unfold eNot; rw [sat_bind, sat_tOfE]; simp only [sat_ok]
@[simp] theorem sat_eAnd {a b : ED} : (eAnd a b env S).sat Q = (a env S).sat fun x S1 => (blD x S1).sat fun k S2 => if k = true then (b env S2).sat Q else Q (.bl false) S2 := by
  unfold eAnd; rw [sat_bind, sat_tOfE]; congr; funext x S1; congr; funext k S2; cases k <;> simp
@[simp] theorem sat_eOr {a b : ED} : (eOr a b env S).sat Q = (a env S).sat fun x S1 => (blD x S1).sat fun k S2 => if k = true then Q (.bl true) S2 else (b env S2).sat Q := by
  unfold eOr; rw [sat_bind, sat_tOfE]; congr; funext x S1; congr; funext k S2; cases k <;> simp
@[simp] theorem sat_eChain {f g : L3.F2} {a b c : ED} : (eChain f g a b c env S).sat Q = (a env S).sat fun x S1 => (b env S1).sat fun y S2 => (f x y S2).sat fun r S3 => (blD r S3).sat fun k S4 => if k = true then (c env S4).sat fun z S5 => (g y z S5).sat Q else Q (.bl false) S4 := by
  unfold eChain; rw [sat_bind]; simp only [sat_bind]; congr; funext x S1; congr; funext y S2; congr; funext r S3
  cases r with
  | bl k => cases k <;> simp [sat_bind]
  | _ => simp [blD]
@[simp] theorem sat_eBM {T : String} {f : D → FN} {o : ED} {a : AD} : (eBM T f o a env S).sat Q = (o env S).sat fun x S1 => (mtD x S1 = some T ∧ (a env S1).sat fun xs S2 => (f x xs S2).sat Q) := by
  unfold eBM; rw [sat_bind]; congr; funext x S1; rw [sat_if_bad, sat_bind]
@[simp] theorem sat_eKw {f : List D → FN} {a b : AD} : (eKw f a b env S).sat Q = (a env S).sat fun xs S1 => (b env S1).sat fun zs S2 => (f xs zs S2).sat Q := by unfold eKw; rw [sat_bind]; simp only [sat_bind]
@[simp] theorem sat_eFnL {i : Nat} {x : Str} {F : FN} {a : AD} : (eFnL i x F a env S).sat Q = match env[i]? with
    | some (some (.glb y)) => y = x ∧ (a env S).sat fun xs S1 => (F xs S1).sat Q
    | _ => False := by
  unfold eFnL
  cases env[i]? with
  | none => simp
  | some o =>
    cases o with
    | none => simp
    | some d =>
      cases d with
      | glb y => simp only []; rw [sat_if_bad, sat_bind]
      | _ => simp
@[simp] theorem callK_eq {F : FN} {dds xs : List D} : callK F dds xs S = F (xs ++ dds) S := nrfl rfl
@[simp] theorem sat_iSeq {a : ED} : (iSeq a env S).sat QL = (a env S).sat fun x S1 => (itemsD x S1).sat QL := sat_bind
@[simp] theorem sat_iArgs {f : List D → Store → R (List D)} {a : AD} : (iArgs f a env S).sat QL = (a env S).sat fun xs S1 => (f xs S1).sat QL := sat_bind
@[simp] theorem itemsD_lst {l : List D} : itemsD (.lst l) S = .ok l S := nrfl rfl
@[simp] theorem itemsD_tup {l : List D} : itemsD (.tup l) S = .ok l S := nrfl rfl
@[simp] theorem sat_range1 {j : Int} : (range1 [.int j] S).sat QL = (okRng j = true ∧ QL (rangeD 0 j) S) := by unfold range1; simp only []; rw [sat_if_bad, sat_ok]
@[simp] theorem sat_range2 {i j : Int} : (range2 [.int i, .int j] S).sat QL = ((okRng i && okRng j) = true ∧ QL (rangeD i j) S) := by unfold range2; simp only []; rw [sat_if_bad, sat_ok]
@[simp] theorem sat_mkTup {xs : List D} : (mkTup xs S).sat Q = (xs.length ≤ sizeLine ∧ Q (.tup xs) S) := by unfold mkTup; rw [sat_if_bad, sat_ok]
@[simp] theorem sat_mkLst {xs : List D} : (mkLst xs S).sat Q = (xs.length ≤ sizeLine ∧ Q (.lst xs) S) := by unfold mkLst; rw [sat_if_bad, sat_ok]
@[simp] theorem sat_mkObj {xs : List D} : (mkObj xs S).sat Q = (xs.length ≤ sizeLine ∧ Q (.obj S.length) (S ++ [.lst xs])) := by unfold mkObj; rw [sat_if_bad, sat_ok]
/-! a list comprehension -/
/-- what one turn gives: kept or not, under the turn's own wish -/
def lcSat (g : GD) (tt : TD) (te : ED) (env : EnvD) : List D → Store → (List D → Store → Prop) → Prop
  | [], S, Q => Q [] S
  | x :: xs, S, Q => match g x env S with
    | .nx env1 S1 => (tt env1 S1).sat fun k S2 => if k = true then (te env1 S2).sat fun y S3 => lcSat g tt te env xs S3 fun ys S4 => Q (y :: ys) S4 else lcSat g tt te env xs S2 Q
    | _ => False
theorem sat_nox {r : R α} {Q : α → Store → Prop} : r.nox.sat Q = r.sat Q := by cases r <;> simp [R.nox]
theorem sat_lcL {g : GD} {tt : TD} {te : ED} {env : EnvD} : ∀ {xs : List D} {S : Store} {Q : List D → Store → Prop}, (lcL g tt te env xs S).sat Q = lcSat g tt te env xs S Q
  | [], _, _ => sat_ok
  | x :: xs, S, Q => by
    unfold lcL lcSat
    cases g x env S with
    | nx env1 S1 =>
      simp only
      rw [sat_bind, sat_nox]
      congr; funext k S2
      cases k with
      | true => simp only [if_true]; rw [sat_bind, sat_nox]; congr; funext y S3; rw [sat_bind, sat_lcL]; simp only [sat_ok]
      | false => simp only [Bool.false_eq_true, if_false]; exact sat_lcL
    | _ => simp
theorem sat_eLc {mi : ID} {vs : List Nat} {g : GD} {tt : TD} {te : ED} : (eLc mi vs g tt te env S).sat Q = (mi env S).sat fun xs S1 => (xs.length ≤ sizeLine ∧ lcSat g tt te (wipeD env vs) xs S1 fun ys S2 => Q (.lst ys) S2) := by
  unfold eLc; rw [sat_bind]; congr; funext xs S1; rw [sat_if_bad, sat_bind, sat_lcL]; simp only [sat_ok]
theorem lcSat_mono {g : GD} {tt : TD} {te : ED} {env : EnvD} : ∀ {xs : List D} {S : Store} {Q Q' : List D → Store → Prop}, lcSat g tt te env xs S Q → (∀ a S, Q a S → Q' a S) → lcSat g tt te env xs S Q'
  | [], _, _, _, h, m => m _ _ h
  | x :: xs, S, Q, Q', h, m => by
    unfold lcSat at h ⊢
    revert h
    cases g x env S with
    | nx env1 S1 =>
      simp only
      refine fun h => sat_mono h fun k S2 h => ?_
      cases k with
      | true => simp only [if_true] at h ⊢; exact sat_mono h fun y S3 h => lcSat_mono h fun ys S4 h => m _ _ h
      | false => simp only [Bool.false_eq_true, if_false] at h ⊢; exact lcSat_mono h m
    | _ => exact fun h => h
/-- with a rule for the turns: from x and the store, an answer y and a store, by I (what holds of the store between turns) and P x y -/
theorem lc_rule {i : Nat} {te : ED} {env : EnvD} (I : Store → Prop) (P : D → D → Prop) : ∀ {xs : List D} {S : Store} {Q : List D → Store → Prop},
    I S → (∀ x ∈ xs, ∀ S, I S → (te (env.set i (some x)) S).sat fun y S' => P x y ∧ I S') → (∀ ys S', I S' → All2 P xs ys → Q ys S') → lcSat (gName i) tYesD te env xs S Q
  | [], S, Q, hI, ht, hQ => hQ [] S hI .nil
  | x :: xs, S, Q, hI, ht, hQ => by
    unfold lcSat
    simp only [gName, tYesD, sat_ok, if_true]
    refine sat_mono (ht x (List.mem_cons_self ..) S hI) fun y S3 h => ?_
    exact lc_rule I P h.2 (fun x hx => ht x (List.mem_cons_of_mem _ hx)) fun ys S' h1 h2 => hQ _ _ h1 (.cons h.1 h2)
/-- where the turns leave the store alone and the answer is a function of the item -/
theorem lc_map {i : Nat} {te : ED} {env : EnvD} (f : D → D) {xs : List D} {S : Store} {Q : List D → Store → Prop}
    (ht : ∀ x ∈ xs, (te (env.set i (some x)) S).sat fun y S' => y = f x ∧ S' = S) (hQ : Q (xs.map f) S) : lcSat (gName i) tYesD te env xs S Q := by
  induction xs generalizing Q with
  | nil => exact hQ
  | cons x xs ih =>
    unfold lcSat
    simp only [gName, tYesD, sat_ok, if_true]
    refine sat_mono (ht x (List.mem_cons_self ..)) fun y S' h => ?_
    obtain ⟨rfl, rfl⟩ := h
    exact ih (fun x hx => ht x (List.mem_cons_of_mem _ hx)) hQ
/-- the same, item by item -/
theorem lc_two {i : Nat} {te : ED} {env : EnvD} {xs ys : List D} {S : Store} {Q : List D → Store → Prop}
    (ht : All2 (fun x y => (te (env.set i (some x)) S).sat fun z S' => z = y ∧ S' = S) xs ys) (hQ : Q ys S) : lcSat (gName i) tYesD te env xs S Q := by
  induction ht generalizing Q with
  | nil => exact hQ
  | @cons x y xs ys p _ ih =>
    unfold lcSat
    simp only [gName, tYesD, sat_ok, if_true]
    refine sat_mono p fun z S' h => ?_
    obtain ⟨rfl, rfl⟩ := h
    exact ih hQ
/-! statements -/
end
inductive SR.sat : SR → (EnvD → Store → Prop) → (D → Store → Prop) → (EnvD → Store → Prop) → (EnvD → Store → Prop) → Prop where
  | nx {e S} {N : EnvD → Store → Prop} {T : D → Store → Prop} {B C : EnvD → Store → Prop} (h : N e S) : SR.sat (.nx e S) N T B C
  | ret {d S} {N : EnvD → Store → Prop} {T : D → Store → Prop} {B C : EnvD → Store → Prop} (h : T d S) : SR.sat (.ret d S) N T B C
  | brk {e S} {N : EnvD → Store → Prop} {T : D → Store → Prop} {B C : EnvD → Store → Prop} (h : B e S) : SR.sat (.brk e S) N T B C
  | ct {e S} {N : EnvD → Store → Prop} {T : D → Store → Prop} {B C : EnvD → Store → Prop} (h : C e S) : SR.sat (.ct e S) N T B C
section
variable {S : Store} {env : EnvD} {d : D} {N B C : EnvD → Store → Prop} {T : D → Store → Prop} {Q : D → Store → Prop}
@[simp] theorem ssat_nx : (SR.nx env S).sat N T B C = N env S := propext ⟨fun h => by cases h; assumption, .nx⟩
@[simp] theorem ssat_ret : (SR.ret d S).sat N T B C = T d S := propext ⟨fun h => by cases h; assumption, .ret⟩
@[simp] theorem ssat_brk : (SR.brk env S).sat N T B C = B env S := propext ⟨fun h => by cases h; assumption, .brk⟩
@[simp] theorem ssat_ct : (SR.ct env S).sat N T B C = C env S := propext ⟨fun h => by cases h; assumption, .ct⟩
@[simp] theorem ssat_bad : SR.bad.sat N T B C = False := propext ⟨fun h => (by cases h), False.elim⟩
@[simp] theorem ssat_exc {e : Ex} : (SR.exc e env S).sat N T B C = False := propext ⟨fun h => (by cases h), False.elim⟩
theorem ssat_toS {α : Type} {r : R α} {k : α → Store → SR} : (r.toS env k).sat N T B C = r.sat fun a S => (k a S).sat N T B C := by cases r <;> simp [R.toS]
theorem ssat_mono {r : SR} {N' B' C' : EnvD → Store → Prop} {T' : D → Store → Prop} (h : r.sat N T B C) (hN : ∀ e S, N e S → N' e S) (hT : ∀ d S, T d S → T' d S) (hB : ∀ e S, B e S → B' e S) (hC : ∀ e S, C e S → C' e S) : r.sat N' T' B' C' := by
  cases h with
  | nx h => exact .nx (hN _ _ h)
  | ret h => exact .ret (hT _ _ h)
  | brk h => exact .brk (hB _ _ h)
  | ct h => exact .ct (hC _ _ h)
@[simp] theorem ssat_skip : (sSkip env S).sat N T B C = N env S := ssat_nx
@[simp] theorem ssat_seq {a b : SD} : (sSeq a b env S).sat N T B C = (a env S).sat (fun e S => (b e S).sat N T B C) T B C := by
  unfold sSeq; cases a env S <;> simp
@[simp] theorem ssat_if {c : TD} {a b : SD} : (sIf c a b env S).sat N T B C = (c env S).sat fun k S1 => if k = true then (a env S1).sat N T B C else (b env S1).sat N T B C := by
  unfold sIf; rw [ssat_toS]; congr; funext k S1; cases k <;> simp
@[simp] theorem ssat_sRet {a : ED} : (sRet a env S).sat N T B C = (a env S).sat T := by unfold sRet; rw [ssat_toS]; simp only [ssat_ret]
@[simp] theorem ssat_sExpr {a : ED} : (sExpr a env S).sat N T B C = (a env S).sat fun _ S1 => N env S1 := by unfold sExpr; rw [ssat_toS]; simp only [ssat_nx]
@[simp] theorem ssat_sBrk : (sBrk env S).sat N T B C = B env S := ssat_brk
@[simp] theorem ssat_sCt : (sCt env S).sat N T B C = C env S := ssat_ct
@[simp] theorem ssat_asg {a : ED} {g : GD} : (sAsg a g env S).sat N T B C = (a env S).sat fun d S1 => (g d env S1).sat N T B C := by unfold sAsg; rw [ssat_toS]
@[simp] theorem gName_eq {i : Nat} : gName i d env S = .nx (env.set i (some d)) S := nrfl rfl
@[simp] theorem gTup_tup {is : List Nat} {l : List D} : gTup is (.tup l) env S = gNames is l env S := nrfl rfl
@[simp] theorem gNames_nil : gNames [] [] env S = .nx env S := nrfl rfl
@[simp] theorem gNames_cons {i : Nat} {is : List Nat} {ds : List D} : gNames (i :: is) (d :: ds) env S = gNames is ds (env.set i (some d)) S := nrfl rfl
@[simp] theorem ssat_par {is : List Nat} {a : AD} : (sPar is a env S).sat N T B C = (a env S).sat fun xs S1 => (gNames is xs env S1).sat N T B C := by unfold sPar; rw [ssat_toS]
theorem ssat_for {mi : ID} {g : GD} {body : SD} : (sFor mi g body env S).sat N T B C = (mi env S).sat fun xs S1 => (forL g body xs env S1).sat N T B C := by unfold sFor; rw [ssat_toS]
@[simp] theorem forL_nil {g : GD} {body : SD} : (forL g body [] env S).sat N T B C = N env S := ssat_nx
theorem forL_cons {g : GD} {body : SD} {x : D} {xs : List D} : (forL g body (x :: xs) env S).sat N T B C = (g x env S).sat (fun e S => (body e S).sat (fun e S => (forL g body xs e S).sat N T B C) T N (fun e S => (forL g body xs e S).sat N T B C)) (fun _ _ => False) (fun _ _ => False) fun _ _ => False := by
  show SR.sat (match g x env S with
    | .nx env1 S1 => match body env1 S1 with
      | .nx env2 S2 => forL g body xs env2 S2
      | .ct env2 S2 => forL g body xs env2 S2
      | .brk env2 S2 => .nx env2 S2
      | .ret d S2 => .ret d S2
      | .exc e env2 S2 => .exc e env2 S2
      | .bad => .bad
    | _ => .bad) N T B C = _
  cases g x env S with
  | nx env1 S1 => simp only [ssat_nx]; cases body env1 S1 <;> simp
  | _ => simp
/-- a for with an invariant over the number of items done -/
theorem for_rule {g : GD} {body : SD} (I : Nat → EnvD → Store → Prop) {xs : List D} (h0 : I 0 env S)
    (hs : ∀ j (hj : j < xs.length) e S, I j e S → (g xs[j] e S).sat (fun e S => (body e S).sat (I (j + 1)) T N (I (j + 1))) (fun _ _ => False) (fun _ _ => False) fun _ _ => False)
    (hN : ∀ e S, I xs.length e S → N e S) : (forL g body xs env S).sat N T B C := by
  induction xs generalizing I env S with
  | nil => exact .nx (hN _ _ h0)
  | cons x xs ih =>
    rw [forL_cons]
    refine ssat_mono (hs 0 (by simp) env S h0) (fun e1 S1 h => ?_) (fun _ _ h => h) (fun _ _ h => h) (fun _ _ h => h)
    have go : ∀ e S, I 1 e S → (forL g body xs e S).sat N T B C := fun e S h =>
      ih (fun j => I (j + 1)) h (fun j hj e S h => by
        have := hs (j + 1) (by simp; omega) e S h
        simpa using this) (fun e S h => hN e S (by simpa using h))
    exact ssat_mono h go (fun _ _ h => h) (fun _ _ h => h) go
theorem while_rule {c : TD} {body : SD} (I : Nat → EnvD → Store → Prop) {m k : Nat} (hk : m < k) (h0 : I m env S)
    (hs : ∀ m e S, I m e S → (c e S).sat fun b S1 => if b = true then (body e S1).sat (fun e S => ∃ m' < m, I m' e S) T N (fun e S => ∃ m' < m, I m' e S) else N e S1) : (sWhile c body k env S).sat N T B C := by
  induction m using Nat.strongRecOn generalizing k env S with
  | _ m ih =>
    cases k with
    | zero => omega
    | succ k =>
      unfold sWhile
      rw [ssat_toS]
      refine sat_mono (hs m env S h0) fun b S1 h => ?_
      cases b with
      | false => simpa using h
      | true =>
        simp only [if_true] at h ⊢
        have go : ∀ e S, (∃ m' < m, I m' e S) → (sWhile c body k e S).sat N T B C := fun e S ⟨m', hm, h⟩ => ih m' hm (by omega) h
        revert h
        cases body env S1 with
        | nx e2 S2 => intro h; rw [ssat_nx] at h; exact go e2 S2 h
        | ct e2 S2 => intro h; rw [ssat_ct] at h; exact go e2 S2 h
        | brk e2 S2 => intro h; rw [ssat_brk] at h; exact .nx h
        | ret d S2 => intro h; rw [ssat_ret] at h; exact .ret h
        | _ => intro h; cases h
theorem sat_run {np n : Nat} {body : SD} {xs : List D} : (run np n body xs S).sat Q = (xs.length = np ∧ (body (xs.map some ++ List.replicate (n - xs.length) none) S).sat (fun _ S => Q .non S) Q (fun _ _ => False) fun _ _ => False) := by
  unfold run; rw [sat_if_bad]; congr
  cases body (xs.map some ++ List.replicate (n - xs.length) none) S <;> simp [SR.fin]
end
/-! operations -/
section
variable {S : Store} {Q : D → Store → Prop}
@[simp] theorem add_int {i j : Int} : addD (.int i) (.int j) S = .ok (.int (i + j)) S := nrfl rfl
@[simp] theorem sub_int {i j : Int} : subD (.int i) (.int j) S = .ok (.int (i - j)) S := nrfl rfl
@[simp] theorem neg_int {i : Int} : negD (.int i) S = .ok (.int (-i)) S := nrfl rfl
@[simp] theorem lt_int {i j : Int} : ltD (.int i) (.int j) S = .ok (.bl (decide (i < j))) S := nrfl rfl
@[simp] theorem le_int {i j : Int} : leD (.int i) (.int j) S = .ok (.bl (decide (i ≤ j))) S := nrfl rfl
@[simp] theorem gt_int {i j : Int} : gtD (.int i) (.int j) S = .ok (.bl (decide (j < i))) S := nrfl rfl
@[simp] theorem ge_int {i j : Int} : geD (.int i) (.int j) S = .ok (.bl (decide (j ≤ i))) S := nrfl rfl
theorem mul_int {i j : Int} : (mulD (.int i) (.int j) S).sat Q = (mulOk i j = true ∧ Q (.int (i * j)) S) := by unfold mulD; simp only []; rw [sat_if_bad, sat_ok]
theorem fdiv_int {i j : Int} : (fdivD (.int i) (.int j) S).sat Q = ((0 < j ∧ j.natAbs.log2 < 9000) ∧ Q (.int (i / j)) S) := by unfold fdivD; simp only []; rw [sat_if_bad, sat_ok]
theorem mod_int {i j : Int} : (modD (.int i) (.int j) S).sat Q = (0 < j ∧ Q (.int (i % j)) S) := by unfold modD; simp only []; rw [sat_if_bad, sat_ok]
theorem ibeq (i j : Int) : (i == j) = decide (i = j) := by rw [Bool.eq_iff_iff]; simp
theorem eq_int {i j : Int} : eqD (.int i) (.int j) S = .ok (.bl (decide (i = j))) S := by
  show (if min 0 0 ≤ 64 then R.ok (D.bl (i == j)) S else .bad) = _
  simp [ibeq]
theorem ne_int {i j : Int} : neD (.int i) (.int j) S = .ok (.bl (decide (i ≠ j))) S := by
  show (if min 0 0 ≤ 64 then R.ok (D.bl (!(i == j))) S else .bad) = _
  simp [ibeq]
@[simp] theorem len_tup {l : List D} : lenD [.tup l] S = .ok (.int l.length) S := nrfl rfl
@[simp] theorem len_lst {l : List D} : lenD [.lst l] S = .ok (.int l.length) S := nrfl rfl
@[simp] theorem len_scr {l : List Int} : lenD [.scr l] S = .ok (.int l.length) S := nrfl rfl
theorem len_obj {n : Nat} {l : List D} (h : S[n]? = some (.lst l)) : lenD [.obj n] S = .ok (.int l.length) S := by simp [lenD, asL, h]
@[simp] theorem tuple_lst {l : List D} : tupleD [.lst l] S = .ok (.tup l) S := nrfl rfl
@[simp] theorem tuple_tup {l : List D} : tupleD [.tup l] S = .ok (.tup l) S := nrfl rfl
theorem mtD_obj {n : Nat} {l : List D} (h : S[n]? = some (.lst l)) : mtD (.obj n) S = some "list" := by simp [mtD, h]
@[simp] theorem rangeD_len {lo hi : Int} : (rangeD lo hi).length = (hi - lo).toNat := by simp [rangeD]
@[simp] theorem rangeD_get {lo hi : Int} {j : Nat} (h : j < (rangeD lo hi).length) : (rangeD lo hi)[j] = .int (lo + j) := by simp [rangeD]
theorem append_obj {n : Nat} {l : List D} {y : D} (h : S[n]? = some (.lst l)) : (appendD (.obj n) [y] S).sat Q = (l.length < sizeLine ∧ Q .non (S.set n (.lst (l ++ [y])))) := by
  unfold appendD; simp only [lstAt, h]; rw [sat_if_bad, sat_ok]
theorem tuple_obj {n : Nat} {l : List D} (h : S[n]? = some (.lst l)) : tupleD [.obj n] S = .ok (.tup l) S := by simp [tupleD, asL, h]
end
end L3
set_option Elab.async false
set_option linter.all false
set_option maxRecDepth 100000
/-! L3P: the laws' hand. -/
namespace L3
open PySem L2
def Hand (n : Nat) (S : Store) : Prop := ∃ g s : Int, S[n]? = some (.lst [.int g, .int s])
/-- only the hand has changed; new objects may have come -/
structure FrH (n : Nat) (S S' : Store) : Prop where
  le : S.length ≤ S'.length
  fr : ∀ m o, m ≠ n → S[m]? = some o → S'[m]? = some o
  hd : Hand n S'
theorem FrH.refl {n : Nat} {S : Store} (h : Hand n S) : FrH n S S := ⟨Nat.le_refl _, fun _ _ _ h => h, h⟩
theorem FrH.trans {n : Nat} {S S' S'' : Store} (h : FrH n S S') (g : FrH n S' S'') : FrH n S S'' := ⟨Nat.le_trans h.le g.le, fun m o hm e => g.fr m o hm (h.fr m o hm e), g.hd⟩
theorem Hand.lt {n : Nat} {S : Store} (h : Hand n S) : n < S.length := by
  obtain ⟨g, s, e⟩ := h
  exact (List.getElem?_eq_some_iff.mp e).1
theorem FrH.set {n : Nat} {S : Store} (h : Hand n S) (g s : Int) : FrH n S (S.set n (.lst [.int g, .int s])) := by
  refine ⟨by simp, fun m o hm e => ?_, ⟨g, s, by simp [List.getElem?_set_self h.lt]⟩⟩
  rw [List.getElem?_set_ne (Ne.symm hm)]; exact e
theorem FrH.app {n : Nat} {S : Store} (h : Hand n S) (o : O) : FrH n S (S ++ [o]) := by
  have e : ∀ (m : Nat) (o' : O), S[m]? = some o' → (S ++ [o])[m]? = some o' := fun m o' e => by
    rw [List.getElem?_append_left (List.getElem?_eq_some_iff.mp e).1]; exact e
  obtain ⟨g, s, q⟩ := h
  exact ⟨by simp, fun m o' _ q => e m o' q, ⟨g, s, e _ _ q⟩⟩
theorem FrH.put {n p : Nat} {S S' : Store} (h : FrH n S S') (hn : Hand n S) (hp : S.length ≤ p) (o : O) : FrH n S (S'.set p o) := by
  have l := hn.lt
  refine ⟨by simp [h.le], fun m o' hm e => ?_, ?_⟩
  · have : m < S.length := (List.getElem?_eq_some_iff.mp e).1
    rw [List.getElem?_set_ne (by omega)]; exact h.fr m o' hm e
  · obtain ⟨g, s, e⟩ := h.hd
    exact ⟨g, s, by rw [List.getElem?_set_ne (by omega)]; exact e⟩
theorem lg_lt {j : Int} {m : Nat} (h : j.natAbs < 2 ^ 64) : j.natAbs.log2 < 9000 := by
  by_cases h0 : j.natAbs = 0
  · rw [h0]; decide
  · exact Nat.lt_trans ((Nat.log2_lt h0).mpr h) (by decide)

/-! digits -/
def mTake : SD :=
    sSeq (sIf (tOfE (e2 gtD (e2 ixD (eVar 0) (eK (.int 0))) (eK (.int 0)))) (sSeq (sAsg (e2 modD (e2 ixD (eVar 0) (eK (.int 0))) (eVar 1)) (gName 2))
    (sSeq (sAsg (e2 fdivD (e2 ixD (eVar 0) (eK (.int 0))) (eVar 1)) (gSub (eVar 0) (eK (.int 0))))
    (sRet (eVar 2)))) (sSkip))
    (sSeq (sAsg (e2 modD (e2 addD (e2 mulD (e2 ixD (eVar 0) (eK (.int 1))) (eK (.int 1181783497276652981))) (eK (.int 12345678910987))) (eK (.int 2305843009213693951))) (gSub (eVar 0) (eK (.int 1))))
    (sRet (e2 modD (e2 fdivD (e2 modD (e2 mulD (e2 fdivD (e2 ixD (eVar 0) (eK (.int 1))) (eK (.int 65537))) (e2 addD (e2 modD (e2 ixD (eVar 0) (eK (.int 1))) (eK (.int 65537))) (eK (.int 3)))) (eK (.int 2305843009213693921))) (eK (.int 97))) (eVar 1))))
section
variable {n : Nat} {S : Store} {Q : D → Store → Prop}
theorem ix0 {g s : Int} (h : S[n]? = some (.lst [.int g, .int s])) : ixD (.obj n) (.int 0) S = .ok (.int g) S := by simp [ixD, h, atI, ixN]
theorem ix1 {g s : Int} (h : S[n]? = some (.lst [.int g, .int s])) : ixD (.obj n) (.int 1) S = .ok (.int s) S := by simp [ixD, h, atI, ixN]
theorem set0 {g s x : Int} (h : S[n]? = some (.lst [.int g, .int s])) : setD (.obj n) (.int 0) (.int x) S = some (S.set n (.lst [.int x, .int s])) := by simp [setD, h, ixN]
theorem set1 {g s x : Int} (h : S[n]? = some (.lst [.int g, .int s])) : setD (.obj n) (.int 1) (.int x) S = some (S.set n (.lst [.int g, .int x])) := by simp [setD, h, ixN]
theorem mulOk_r {i j : Int} (h : -(2 ^ 64) < j ∧ j < 2 ^ 64) : mulOk i j = true := by simp only [mulOk, decide_eq_true_eq]; exact .inl (.inr h)
theorem mulOk_l {i j : Int} (h : -(2 ^ 64) < i ∧ i < 2 ^ 64) : mulOk i j = true := by simp only [mulOk, decide_eq_true_eq]; exact .inl (.inl h)
theorem take_ok (h : Hand n S) {many : Int} (hm : 0 < many) (hb : many < 2 ^ 64) : (run 2 3 mTake [.obj n, .int many] S).sat fun d S' => (∃ i, d = .int i ∧ 0 ≤ i ∧ i < many) ∧ FrH n S S' := by
  obtain ⟨g, s, e⟩ := h
  have h : Hand n S := ⟨g, s, e⟩
  have hlog : many.natAbs.log2 < 9000 := lg_lt (m := 0) (by omega)
  rw [sat_run]
  refine ⟨rfl, ?_⟩
  unfold mTake
  have l2 : ∀ j : Nat, j < 2 ^ 64 → 0 < j → j.log2 < 9000 := fun j hj h0 => Nat.lt_trans ((Nat.log2_lt (by omega)).mpr hj) (by decide)
  by_cases hg : 0 < g
  · simp [ix0 e, hg, mod_int, fdiv_int, hm, hlog, gSub, eVar, eK, set0 e]
    exact ⟨⟨Int.emod_nonneg _ (by omega), Int.emod_lt_of_pos _ hm⟩, .set h _ _⟩
  · have e2 : (S.set n (.lst [.int g, .int ((s * 1181783497276652981 + 12345678910987) % 2305843009213693951)]))[n]? = some (.lst [.int g, .int ((s * 1181783497276652981 + 12345678910987) % 2305843009213693951)]) := by
      simp [List.getElem?_set_self h.lt]
    simp [ix0 e, ix1 e, ix1 e2, hg, mod_int, fdiv_int, mul_int, hm, hlog, gSub, eVar, eK, set1 e, mulOk_r]
    refine ⟨l2 _ (by decide) (by decide), mulOk_r (by omega), l2 _ (by decide) (by decide), ⟨Int.emod_nonneg _ (by omega), Int.emod_lt_of_pos _ hm⟩, .set h _ _⟩
/-- the take of a law -/
def IsTake (tk : FN) : Prop := ∀ (n : Nat) (S : Store) (many : Int), Hand n S → 0 < many → many < 2 ^ 64 → (tk [.obj n, .int many] S).sat fun d S' => (∃ i, d = .int i ∧ 0 ≤ i ∧ i < many) ∧ FrH n S S'
theorem isTake : IsTake (run 2 3 mTake) := fun n S many h h1 h2 => take_ok h h1 h2
def mPick (tk : FN) : SD := sRet (e2 ixD (eVar 1) (eN (callK tk []) (aCons (eVar 0) (aCons (eN lenD (aCons (eVar 1) (aNil))) (aNil)))))
def IsPick (pk : FN) : Prop := ∀ (n : Nat) (S : Store) (l : List D), Hand n S → l ≠ [] → l.length < 2 ^ 32 → ((pk [.obj n, .lst l] S).sat fun d S' => d ∈ l ∧ FrH n S S') ∧ (pk [.obj n, .tup l] S).sat fun d S' => d ∈ l ∧ FrH n S S'
theorem atI_mem {α : Type} {l : List α} {i : Int} (h0 : 0 ≤ i) (h : i < l.length) : ∃ x ∈ l, atI l i = some x := by
  refine ⟨l[i.toNat]'(by omega), List.getElem_mem _, ?_⟩
  simp only [atI, ixN]
  simp [h0, h, show i.toNat < l.length by omega]
theorem isPick {tk : FN} (ht : IsTake tk) : IsPick (run 2 2 (mPick tk)) := fun n S l h h1 h2 => by
  have hl : 0 < l.length := (match l, h1 with | _ :: _, _ => by simp)
  constructor
  all_goals
    rw [sat_run]
    refine ⟨rfl, ?_⟩
    unfold mPick
    simp
    refine sat_mono (ht n S l.length h (by omega) (by omega)) fun d S' q => ?_
    obtain ⟨⟨i, rfl, h0, h3⟩, fr⟩ := q
    obtain ⟨x, hx, e⟩ := atI_mem h0 h3
    simp [ixD, e, hx, fr]
/-! the hand -/
def mHand : SD :=
    sSeq (sAsg (e2 addD (e2 mulD (eK (.int 3)) (eVar 1)) (eN lenD (aCons (eVar 0) (aNil)))) (gName 2))
    (sSeq (sIf (tOfE (e2 ltD (eVar 1) (eN lenD (aCons (eVar 0) (aNil))))) (sAsg (e2 ixD (eVar 0) (eVar 1)) (gName 2)) (sSkip))
    (sSeq (sAsg (e2 mulD (e2 modD (eN absD (aCons (eVar 2) (aNil))) (e2 powD (e2 powD (eK (.int 10)) (eK (.int 60))) (eK (.int 5)))) (eN intD (aCons (e2 geD (eN absD (aCons (eVar 2) (aNil))) (e2 powD (eK (.int 10)) (eK (.int 18)))) (aNil)))) (gName 3))
    (sRet (eN mkObj (aCons (eVar 3) (aCons (e2 modD (e2 mulD (e2 addD (e2 addD (e2 modD (eVar 2) (eK (.int 2305843009213693951))) (e2 mulD (e2 mulD (eK (.int 7919)) (eVar 1)) (eVar 1))) (eK (.int 11))) (eK (.int 48271))) (eK (.int 2305843009213693951))) (aNil)))))))
def IsHand (hd : FN) : Prop := ∀ (S : Store) (ns : List Int) (k : Int), 0 ≤ k → k < 2 ^ 32 → (hd [.scr ns, .int k] S).sat fun d S' => d = .obj S.length ∧ ∃ g s : Int, S' = S ++ [.lst [.int g, .int s]]
def T60 : Int := 10 ^ 60
def T300 : Int := 10 ^ 300
theorem T300_pos : 0 < T300 := by decide +kernel
theorem pw1 : powD (.int 10) (.int 60) S = .ok (.int T60) S := by kernel_rfl
theorem pw2 : powD (.int T60) (.int 5) S = .ok (.int T300) S := by kernel_rfl
theorem pw3 : powD (.int 10) (.int 18) S = .ok (.int 1000000000000000000) S := by kernel_rfl
theorem isHand : IsHand (run 2 4 mHand) := fun S ns k h0 hk => by
  rw [sat_run]
  refine ⟨rfl, ?_⟩
  have key : ∀ c : Int, ((sSeq (sAsg (e2 mulD (e2 modD (eN absD (aCons (eVar 2) (aNil))) (e2 powD (e2 powD (eK (.int 10)) (eK (.int 60))) (eK (.int 5)))) (eN intD (aCons (e2 geD (eN absD (aCons (eVar 2) (aNil))) (e2 powD (eK (.int 10)) (eK (.int 18)))) (aNil)))) (gName 3))
    (sRet (eN mkObj (aCons (eVar 3) (aCons (e2 modD (e2 mulD (e2 addD (e2 addD (e2 modD (eVar 2) (eK (.int 2305843009213693951))) (e2 mulD (e2 mulD (eK (.int 7919)) (eVar 1)) (eVar 1))) (eK (.int 11))) (eK (.int 48271))) (eK (.int 2305843009213693951))) (aNil)))))) [some (.scr ns), some (.int k), some (.int c), none] S).sat
      (fun _ S1 => D.non = .obj S.length ∧ ∃ g s : Int, S1 = S ++ [.lst [.int g, .int s]]) (fun d S' => d = .obj S.length ∧ ∃ g s : Int, S' = S ++ [.lst [.int g, .int s]]) (fun _ _ => False) fun _ _ => False := fun c => by
    simp [pw1, pw2, pw3, absD, intD, mod_int, mul_int, T300_pos]
    refine ⟨mulOk_r (by split <;> omega), mulOk_l (by omega), mulOk_r (by omega), mulOk_r (by omega), by decide⟩
  unfold mHand
  simp only [ssat_seq, ssat_asg, sat_e2, sat_eK, sat_eVar, ssat_if, sat_eN, sat_aCons, sat_aNil]
  simp [mul_int, mulOk_l]
  by_cases hc : k < ns.length
  · obtain ⟨x, hx, e⟩ := atI_mem (l := ns) h0 hc
    simp [hc, ixD, e]
    have := key x
    simpa [mul_int, mulOk_l] using this
  · simp [hc]
    have := key (3 * k + ns.length)
    simpa [mul_int, mulOk_l] using this
end
end L3
set_option Elab.async false
set_option linter.all false
set_option maxRecDepth 100000
set_option maxHeartbeats 4000000
/-! L3S: steps of plain laws, common to all. -/
namespace L3
open PySem L2
section
variable {S : Store} {env : EnvD} {Q : D → Store → Prop}
@[simp] theorem isi_tup {l : List D} : isiD [.tup l, .ty "tuple"] S = .ok (.bl true) S := by kernel_rfl
@[simp] theorem isi_str {s : Str} : isiD [.str s, .ty "str"] S = .ok (.bl true) S := by kernel_rfl
@[simp] theorem isi_bl {b : Bool} : isiD [.bl b, .ty "bool"] S = .ok (.bl true) S := by kernel_rfl
@[simp] theorem isi_lst_tup {l : List D} : isiD [.lst l, .ty "tuple"] S = .ok (.bl false) S := by kernel_rfl
@[simp] theorem isi_dic_tup {k} {l : List D} : isiD [.dic k l, .ty "tuple"] S = .ok (.bl false) S := by kernel_rfl
@[simp] theorem isi_str_tup {l : Str} : isiD [.str l, .ty "tuple"] S = .ok (.bl false) S := by kernel_rfl
@[simp] theorem isi_int_tup {l : Int} : isiD [.int l, .ty "tuple"] S = .ok (.bl false) S := by kernel_rfl
@[simp] theorem isi_bl_tup {l : Bool} : isiD [.bl l, .ty "tuple"] S = .ok (.bl false) S := by kernel_rfl
@[simp] theorem isi_non_tup : isiD [.non, .ty "tuple"] S = .ok (.bl false) S := by kernel_rfl
@[simp] theorem isi_lst_str {l : List D} : isiD [.lst l, .ty "str"] S = .ok (.bl false) S := by kernel_rfl
@[simp] theorem isi_tup_str {l : List D} : isiD [.tup l, .ty "str"] S = .ok (.bl false) S := by kernel_rfl
@[simp] theorem isi_dic_str {k} {l : List D} : isiD [.dic k l, .ty "str"] S = .ok (.bl false) S := by kernel_rfl
@[simp] theorem isi_int_str {l : Int} : isiD [.int l, .ty "str"] S = .ok (.bl false) S := by kernel_rfl
@[simp] theorem isi_bl_str {l : Bool} : isiD [.bl l, .ty "str"] S = .ok (.bl false) S := by kernel_rfl
@[simp] theorem isi_non_str : isiD [.non, .ty "str"] S = .ok (.bl false) S := by kernel_rfl
@[simp] theorem isi_int {l : Int} : isiD [.int l, .ty "int"] S = .ok (.bl true) S := by kernel_rfl
@[simp] theorem isi_bl_int {l : Bool} : isiD [.bl l, .ty "int"] S = .ok (.bl true) S := by kernel_rfl
@[simp] theorem isi_int_bl {l : Int} : isiD [.int l, .ty "bool"] S = .ok (.bl false) S := by kernel_rfl
@[simp] theorem isi_tup_int {l : List D} : isiD [.tup l, .ty "int"] S = .ok (.bl false) S := by kernel_rfl
@[simp] theorem isi_lst_int {l : List D} : isiD [.lst l, .ty "int"] S = .ok (.bl false) S := by kernel_rfl
@[simp] theorem isi_dic_int {k} {l : List D} : isiD [.dic k l, .ty "int"] S = .ok (.bl false) S := by kernel_rfl
@[simp] theorem isi_str_int {l : Str} : isiD [.str l, .ty "int"] S = .ok (.bl false) S := by kernel_rfl
@[simp] theorem isi_non_int : isiD [.non, .ty "int"] S = .ok (.bl false) S := by kernel_rfl
theorem eq_bl {a b : Bool} : eqD (.bl a) (.bl b) S = .ok (.bl (a == b)) S := by cases a <;> cases b <;> kernel_rfl
@[simp] theorem eq_strs {a b : Str} : eqD (.str a) (.str b) S = .ok (.bl (a == b)) S := nrfl rfl
@[simp] theorem ne_strs {a b : Str} : neD (.str a) (.str b) S = .ok (.bl (!(a == b))) S := nrfl rfl
@[simp] theorem eq_tup0 {l : List D} : eqD (.tup l) (.tup []) S = .ok (.bl l.isEmpty) S := nrfl rfl
@[simp] theorem ne_tup0 {l : List D} : neD (.tup l) (.tup []) S = .ok (.bl (!l.isEmpty)) S := nrfl rfl
theorem all_lst : ∀ bs : List Bool, allBls (bs.map D.bl) = some bs
  | [] => rfl
  | b :: bs => by simp [allBls, all_lst bs]
theorem all_bl (bs : List Bool) : allD [.lst (bs.map D.bl)] S = .ok (.bl (bs.all id)) S := by simp [allD, asL, all_lst]
theorem sum_lst : ∀ bs : List Int, allInts (bs.map D.int) = some bs
  | [] => rfl
  | b :: bs => by simp [allInts, sum_lst bs]
theorem sum_int (bs : List Int) : sumD [.lst (bs.map D.int)] S = .ok (.int bs.sum) S := by simp [sumD, asL, sum_lst]
theorem small {n : Nat} (h : n ≤ 1000) : n ≤ sizeLine := Nat.le_trans h (by decide)
theorem add_lst {a b : List D} (h : a.length + b.length ≤ sizeLine) : addD (.lst a) (.lst b) S = .ok (.lst (a ++ b)) S := by simp [addD, asL, h]
theorem add_tup {a b : List D} (h : a.length + b.length ≤ sizeLine) : addD (.tup a) (.tup b) S = .ok (.tup (a ++ b)) S := by simp [addD, h]
theorem add_str {a b : Str} (h : a.length + b.length ≤ sizeLine) : addD (.str a) (.str b) S = .ok (.str (a ++ b)) S := by simp [addD, h]
theorem mem_range {lo hi : Int} {x : D} (h : x ∈ rangeD lo hi) : ∃ i : Int, x = .int i ∧ lo ≤ i ∧ i < hi := by
  simp only [rangeD, List.mem_map, List.mem_range] at h
  obtain ⟨a, ha, rfl⟩ := h
  exact ⟨_, rfl, by omega, by omega⟩
variable {N B C : EnvD → Store → Prop} {T : D → Store → Prop}
theorem for_each {g : GD} {body : SD} (I : EnvD → Store → Prop) {xs : List D} (h0 : I env S)
    (hs : ∀ x ∈ xs, ∀ e S, I e S → (g x e S).sat (fun e S => (body e S).sat I T N I) (fun _ _ => False) (fun _ _ => False) fun _ _ => False)
    (hN : ∀ e S, I e S → N e S) : (forL g body xs env S).sat N T B C :=
  for_rule (fun _ => I) h0 (fun j hj e S h => hs _ (List.getElem_mem hj) e S h) hN
theorem for_n {i : Nat} {body : SD} (I : EnvD → Store → Prop) {xs : List D} (h0 : I env S)
    (hs : ∀ x ∈ xs, ∀ e S, I e S → (body (e.set i (some x)) S).sat I T N I) (hN : ∀ e S, I e S → N e S) : (forL (gName i) body xs env S).sat N T B C :=
  for_each I h0 (fun x hx e S h => by rw [gName_eq, ssat_nx]; exact hs x hx e S h) hN
theorem seq_rule {a b : SD} (M : EnvD → Store → Prop) (h : (a env S).sat M T B C) (k : ∀ e S, M e S → (b e S).sat N T B C) : (sSeq a b env S).sat N T B C := by
  rw [ssat_seq]; exact ssat_mono h k (fun _ _ h => h) (fun _ _ h => h) fun _ _ h => h
/-! slices -/
@[simp] theorem sat_pNo {QO : Option Int → Store → Prop} : (pNo env S).sat QO = QO none S := sat_ok
@[simp] theorem sat_pYes {a : ED} {QO : Option Int → Store → Prop} : (pYes a env S).sat QO = (a env S).sat fun x S1 => ∃ i, x = .int i ∧ QO (some i) S1 := by
  unfold pYes; rw [sat_bind]; congr; funext x S1
  cases x <;> simp
@[simp] theorem sat_eSl {a : ED} {l h : PD} : (eSl a l h env S).sat Q = (a env S).sat fun x S1 => (l env S1).sat fun lo S2 => (h env S2).sat fun hi S3 => (slD x lo hi S3).sat Q := by
  unfold eSl; simp only [sat_bind]
@[simp] theorem sl_tup {l : List D} {lo hi : Option Int} : slD (.tup l) lo hi S = .ok (.tup (cutL l lo hi)) S := nrfl rfl
@[simp] theorem sl_lst {l : List D} {lo hi : Option Int} : slD (.lst l) lo hi S = .ok (.lst (cutL l lo hi)) S := nrfl rfl
@[simp] theorem sat_eBackT {a : ED} : (eBackT a env S).sat Q = (a env S).sat fun x S1 => ∃ l, x = .tup l ∧ Q (.tup l.reverse) S1 := by
  unfold eBackT; rw [sat_bind]; congr; funext x S1
  cases x <;> simp
@[simp] theorem sat_eDic0 : (eDic0 env S).sat Q = Q (.dic [] []) S := sat_ok
@[simp] theorem sat_eDct0 : (eDct0 env S).sat Q = Q (.obj S.length) (S ++ [.dK []]) := sat_ok
end
end L3
set_option Elab.async false
set_option linter.all false
set_option maxRecDepth 100000
/-! L4S: what the constructs of L4 satisfy. -/
namespace L3
open PySem L2
section
variable {S : Store} {env : EnvD} {Q : D → Store → Prop} {QL : List D → Store → Prop} {N B C : EnvD → Store → Prop} {T : D → Store → Prop}
/-! alternatives -/
theorem alt_l {a b : ED} (h : (a env S).sat Q) : (eAlt a b env S).sat Q := by
  obtain ⟨d, S', e, h⟩ := sat_ex.mp h
  have : eAlt a b env S = .ok d S' := by unfold eAlt; rw [e]
  exact to_sat (S := S') this h
theorem alt_r {a b : ED} (h : a env S = .bad) (h2 : (b env S).sat Q) : (eAlt a b env S).sat Q := by
  have : eAlt a b env S = b env S := by unfold eAlt; rw [h]
  rw [this]; exact h2
theorem fnL_no {i : Nat} {x y : Str} {F : FN} {a : AD} (h : env[i]? = some (some (.glb y))) (hn : y ≠ x) : eFnL i x F a env S = .bad := by
  unfold eFnL; rw [h]; simp only []; rw [if_neg hn]
theorem fnL_yes {i : Nat} {x : Str} {F : FN} {a : AD} (h : env[i]? = some (some (.glb x))) (h2 : (a env S).sat fun xs S1 => (F xs S1).sat Q) : (eFnL i x F a env S).sat Q := by
  rw [sat_eFnL, h]; exact ⟨rfl, h2⟩
/-! instances -/
theorem insAt_obj {n : Nat} {c : Str} {fs : List (Str × D)} (h : S[n]? = some (.ins c fs)) : insAt (.obj n) S = some (n, c, fs) := by simp only [insAt, h]
theorem fld_eq {n : Nat} {c f : Str} {fs : List (Str × D)} {cs : List Str} {d : D} (h : S[n]? = some (.ins c fs)) (hc : c ∈ cs) (hf : fs.lookup f = some d) : fldD cs f (.obj n) S = .ok d S := by
  simp only [fldD, insAt_obj h, hc, hf, if_true]
theorem sat_eMeth {c m : Str} {F : FN} {mo : ED} {ma : AD} : (eMeth c m F mo ma env S).sat Q = (mo env S).sat fun x S1 => ∃ n fs, insAt x S1 = some (n, c, fs) ∧ fs.lookup m = none ∧ (ma env S1).sat fun xs S2 => (F (x :: xs) S2).sat Q := by
  unfold eMeth; rw [sat_bind]; congr; funext x S1
  cases h : insAt x S1 with
  | none => simp
  | some v =>
    obtain ⟨n, c', fs⟩ := v
    simp only []
    rw [sat_if_bad, sat_bind]
    apply propext
    constructor
    · rintro ⟨⟨e, h1⟩, h2⟩; subst e; exact ⟨_, _, rfl, h1, h2⟩
    · rintro ⟨n', fs', e, h1, h2⟩; cases e; exact ⟨⟨rfl, h1⟩, h2⟩
theorem sat_mkIns {c : Str} {F : FN} {xs : List D} : (mkIns c F xs S).sat Q = (F (.obj S.length :: xs) (S ++ [.ins c []])).sat fun d S1 => d = .non ∧ Q (.obj S.length) S1 := by
  unfold mkIns
  cases F (.obj S.length :: xs) (S ++ [.ins c []]) with
  | ok d S1 => cases d <;> simp
  | _ => simp
theorem ssat_fldD {cs : List Str} {f : Str} {mo mv : ED} : (sFldD cs f mo mv env S).sat N T B C = (mv env S).sat fun y S1 => (mo env S1).sat fun x S2 => ∃ n c fs, insAt x S2 = some (n, c, fs) ∧ (c ∈ cs ∧ fs.length < 1000) ∧ N env (S2.set n (.ins c (putFD f y fs))) := by
  unfold sFldD; rw [ssat_toS]; congr; funext y S1; rw [ssat_toS]; congr; funext x S2
  cases h : insAt x S2 with
  | none => simp
  | some v =>
    obtain ⟨n, c, fs⟩ := v
    simp only []
    apply propext
    constructor
    · intro h1
      by_cases hc : c ∈ cs ∧ fs.length < 1000
      · rw [if_pos hc, ssat_nx] at h1; exact ⟨_, _, _, rfl, hc, h1⟩
      · rw [if_neg hc, ssat_bad] at h1; exact h1.elim
    · rintro ⟨n', c', fs', e, hc, h1⟩
      cases e
      rw [if_pos hc, ssat_nx]; exact h1
/-! targets -/
@[simp] theorem gSeq_lst {is : List Nat} {l : List D} : gSeq is (.lst l) env S = gNames is l env S := nrfl rfl
@[simp] theorem gSeq_tup {is : List Nat} {l : List D} : gSeq is (.tup l) env S = gNames is l env S := nrfl rfl
theorem gStar_lst {i : Nat} {is : List Nat} {l : List D} (h : i < is.length ∧ is.length ≤ l.length + 1 ∧ l.length ≤ 16384) : gStar i is (.lst l) env S = gNames is (l.take i ++ [.lst ((l.drop i).take (l.length + 1 - is.length))] ++ (l.drop i).drop (l.length + 1 - is.length)) env S := by
  simp only [gStar]; rw [if_pos h]
/-! o[i] = v -/
theorem ssat_gSub {mo mi : ED} {v : D} : (gSub mo mi v env S).sat N T B C = (mo env S).sat fun o S1 => (mi env S1).sat fun i S2 => ∃ S3, setD o i v S2 = some S3 ∧ N env S3 := by
  unfold gSub
  cases mo env S with
  | ok o S1 =>
    simp only [sat_ok]
    cases mi env S1 with
    | ok i S2 =>
      simp only [sat_ok]
      cases setD o i v S2 with
      | some S3 => simp
      | none => simp
    | _ => simp
  | _ => simp
theorem setD_dK {n : Nat} {kvs : List (Key × D)} {i v : D} {k : Key} (h : S[n]? = some (.dK kvs)) (hk : keyOf i = some k) (hz : kvs.length < sizeLine) : setD (.obj n) i v S = some (S.set n (.dK (putD kvs k v))) := by
  simp only [setD, h, hk, hz, if_true]
/-! dicts -/
def dcSat (g : GD) (tt : TD) (tk tv : ED) (env : EnvD) : List D → List (Key × D) → Store → (List (Key × D) → Store → Prop) → Prop
  | [], acc, S, Q => Q acc S
  | x :: xs, acc, S, Q => match g x env S with
    | .nx env1 S1 => (tt env1 S1).sat fun k S2 => if k = true then (tk env1 S2).sat fun y S3 => (tv env1 S3).sat fun z S4 => ∃ key, keyOf y = some key ∧ dcSat g tt tk tv env xs (putD acc key z) S4 Q else dcSat g tt tk tv env xs acc S2 Q
    | _ => False
theorem sat_dcL {g : GD} {tt : TD} {tk tv : ED} {env : EnvD} : ∀ {xs : List D} {acc : List (Key × D)} {S : Store} {Q : List (Key × D) → Store → Prop}, (dcL g tt tk tv env xs acc S).sat Q = dcSat g tt tk tv env xs acc S Q
  | [], _, _, _ => sat_ok
  | x :: xs, acc, S, Q => by
    unfold dcL dcSat
    cases g x env S with
    | nx env1 S1 =>
      simp only
      rw [sat_bind, sat_nox]
      congr; funext k S2
      cases k with
      | true =>
        simp only [if_true]; rw [sat_bind, sat_nox]; congr; funext y S3; rw [sat_bind, sat_nox]; congr; funext z S4
        cases keyOf y with
        | none => simp
        | some key => simp only [sat_dcL]; simp
      | false => simp only [Bool.false_eq_true, if_false]; exact sat_dcL
    | _ => simp
theorem sat_eDc {mi : ID} {vs : List Nat} {g : GD} {tt : TD} {tk tv : ED} : (eDc mi vs g tt tk tv env S).sat Q = (mi env S).sat fun xs S1 => (xs.length ≤ sizeLine ∧ dcSat g tt tk tv (wipeD env vs) xs [] S1 fun kvs S2 => Q (.dic (kvs.map (·.1)) (kvs.map (·.2))) S2) := by
  unfold eDc; rw [sat_bind]; congr; funext xs S1; rw [sat_if_bad, sat_bind, sat_nox, sat_dcL]; simp only [sat_ok]
theorem dictO_eq {x : D} {kvs : List (Key × D)} (h : dkAt x S = some kvs) : dictO [x] S = .ok (.obj S.length) (S ++ [.dK kvs]) := by simp only [dictO, h]
theorem dictV_eq {x : D} {kvs : List (Key × D)} (h : dkAt x S = some kvs) : dictV [x] S = .ok (.dic (kvs.map (·.1)) (kvs.map (·.2))) S := by simp only [dictV, h]
theorem in_dk {x y : D} {kvs : List (Key × D)} {k : Key} (h : dkAt y S = some kvs) (hk : keyOf x = some k) : inD x y S = .ok (.bl (dGet kvs k).isSome) S := by
  unfold dkAt at h
  unfold inD
  cases y with
  | dic ks l =>
    simp only at h
    split at h
    · cases h; simp only [memD, memKey, hk]
    · cases h
  | obj n =>
    simp only at h
    split at h
    · rename_i kv hn; cases h; simp only [memD, hn, memKey, hk]
    · cases h
  | _ => cases h
theorem notIn_dk {x y : D} {kvs : List (Key × D)} {k : Key} (h : dkAt y S = some kvs) (hk : keyOf x = some k) : notInD x y S = .ok (.bl (!(dGet kvs k).isSome)) S := by
  have := in_dk (S := S) h hk
  unfold notInD inD at *
  split at this <;> simp_all
theorem ix_dict {x y : D} {kvs : List (Key × D)} {k : Key} {d : D} (h : dkAt x S = some kvs) (hk : keyOf y = some k) (hd : dGet kvs k = some d) : ixD x y S = .ok d S := by
  unfold dkAt at h
  cases x with
  | dic ks l =>
    simp only at h
    split at h
    · cases h; simp only [ixD, hk, hd]
    · cases h
  | obj n =>
    simp only at h
    split at h
    · rename_i kv hn; cases h; simp only [ixD, hn, hk, hd]
    · cases h
  | _ => cases h
theorem get_map_ne {κ : Type} [DecidableEq κ] {k k' : κ} {v : D} (hk : k ≠ k') : ∀ {kvs : List (κ × D)}, dGet (kvs.map fun kv => if kv.1 = k then (kv.1, v) else kv) k' = dGet kvs k'
  | [] => rfl
  | p :: r => by
    have ih := get_map_ne (v := v) hk (kvs := r)
    unfold dGet at ih ⊢
    simp only [List.map_cons, List.find?_cons]
    by_cases hp : p.1 = k
    · have : ¬ p.1 = k' := fun z => hk (hp.symm.trans z)
      simp only [if_pos hp, this, decide_false]
      exact ih
    · simp only [if_neg hp]
      by_cases h2 : p.1 = k'
      · simp [h2]
      · simp only [h2, decide_false]
        exact ih
theorem get_map_eq {κ : Type} [DecidableEq κ] {k : κ} {v : D} : ∀ {kvs : List (κ × D)}, (kvs.any fun kv => decide (kv.1 = k)) = true → dGet (kvs.map fun kv => if kv.1 = k then (kv.1, v) else kv) k = some v
  | [], h => by simp at h
  | p :: r, h => by
    unfold dGet
    simp only [List.map_cons, List.find?_cons]
    by_cases hp : p.1 = k
    · simp [hp]
    · have ih := get_map_eq (v := v) (kvs := r) (by simpa [hp] using h)
      unfold dGet at ih
      rw [if_neg hp]
      simp only [hp, decide_false]
      exact ih
theorem get_put {κ : Type} [DecidableEq κ] {kvs : List (κ × D)} {k k' : κ} {v : D} : dGet (putD kvs k v) k' = if k = k' then some v else dGet kvs k' := by
  unfold putD
  by_cases ha : (kvs.any fun kv => decide (kv.1 = k)) = true
  · rw [if_pos ha]
    by_cases hk : k = k'
    · subst hk; rw [if_pos rfl, get_map_eq ha]
    · rw [if_neg hk, get_map_ne hk]
  · rw [if_neg ha]
    simp only [dGet, List.find?_append]
    by_cases hk : k = k'
    · subst hk
      have : (kvs.find? fun kv => decide (kv.1 = k)) = none := by
        rw [List.find?_eq_none]
        intro x hx
        simp only [List.any_eq_true, not_exists, not_and] at ha
        exact ha x hx
      simp [this]
    · simp only [if_neg hk]
      cases hf : kvs.find? fun kv => decide (kv.1 = k') with
      | some v => simp
      | none => simp [hk]
end
end L3
set_option Elab.async false
set_option linter.all false
set_option maxRecDepth 100000
set_option maxHeartbeats 4000000
/-! L3T: names, programs as trees, draws. -/
namespace L3
open PySem L2
def WORDS : List Str := ["plus", "times", "most", "row", "say", "less", "below", "if", "let", "each", "num", "name", "any", "rest", "called", "count"]
/-- a sign that is a small letter -/
def isLet (c : Nat) : Bool := decide (97 ≤ c) && decide (c ≤ 122)
structure NameOk (s : Str) : Prop where
  lo : 1 ≤ s.length
  hi : s.length ≤ 8
  lt : s.cps.toList.all isLet = true
  nw : s ∉ WORDS
/-- programs -/
inductive Tm where
  | num (i : Int) | nam (s : Str) | nd (w m : Str) (ps : List Tm)
mutual
def Tm.d : Tm → D
  | .num i => .tup [.str "num", .int i, .tup []]
  | .nam s => .tup [.str "name", .str s, .tup []]
  | .nd w m ps => .tup [.str w, .str m, .tup (Tm.ds ps)]
def Tm.ds : List Tm → List D
  | [] => []
  | t :: ts => t.d :: Tm.ds ts
end
mutual
def Tm.size : Tm → Nat
  | .num _ => 1
  | .nam _ => 1
  | .nd _ _ ps => 1 + Tm.sizes ps
def Tm.sizes : List Tm → Nat
  | [] => 0
  | t :: ts => t.size + Tm.sizes ts
end
mutual
def Tm.dep : Tm → Nat
  | .num _ => 1
  | .nam _ => 1
  | .nd _ _ ps => 1 + Tm.deps ps
def Tm.deps : List Tm → Nat
  | [] => 0
  | t :: ts => max t.dep (Tm.deps ts)
end
theorem Tm.ds_map : ∀ ts : List Tm, Tm.ds ts = ts.map Tm.d
  | [] => rfl
  | t :: ts => by simp [Tm.ds, Tm.ds_map ts]
theorem Tm.ds_len (ts : List Tm) : (Tm.ds ts).length = ts.length := by simp [Tm.ds_map]
theorem Tm.sizes_app : ∀ a b : List Tm, Tm.sizes (a ++ b) = Tm.sizes a + Tm.sizes b
  | [], b => by simp [Tm.sizes]
  | t :: a, b => by simp [Tm.sizes, Tm.sizes_app a b]; omega
theorem Tm.deps_le {B : Nat} : ∀ {ts : List Tm}, Tm.deps ts ≤ B ↔ ∀ t ∈ ts, t.dep ≤ B
  | [] => by simp [Tm.deps]
  | t :: ts => by simp [Tm.deps, Tm.deps_le (ts := ts), Nat.max_le]
theorem Tm.size_pos : ∀ t : Tm, 1 ≤ t.size
  | .num _ => by simp [Tm.size]
  | .nam _ => by simp [Tm.size]
  | .nd _ _ ps => by simp [Tm.size]
theorem Tm.dep_pos : ∀ t : Tm, 1 ≤ t.dep
  | .num _ => by simp [Tm.dep]
  | .nam _ => by simp [Tm.dep]
  | .nd _ _ ps => by simp [Tm.dep]
/-- a word's fewest and most parts, whether it gives a name -/
def shape (w : Str) : Option (Nat × Nat × Bool) :=
  if w = "plus" ∨ w = "times" ∨ w = "most" then some (1, 6, false)
  else if w = "row" then some (0, 6, false)
  else if w = "say" then some (1, 1, false)
  else if w = "less" ∨ w = "below" then some (2, 2, false)
  else if w = "if" then some (3, 3, false)
  else if w = "let" ∨ w = "each" then some (2, 2, true)
  else none
inductive Good : Tm → Prop where
  | num {i : Int} : 0 ≤ i → i ≤ 9972 → Good (.num i)
  | nam {s : Str} : NameOk s → Good (.nam s)
  | nd {w m : Str} {ps : List Tm} {f mo : Nat} {g : Bool} : shape w = some (f, mo, g) → f ≤ ps.length → ps.length ≤ mo → (g = true → NameOk m) → (g = false → m = "") → (∀ p ∈ ps, Good p) → Good (.nd w m ps)
/-! ### the hand's frame, another object apart -/
/-- where a draw is made from -/
inductive Src (n : Nat) (S : Store) : D → List D → Prop where
  | lst (l : List D) : Src n S (.lst l) l
  | tup (l : List D) : Src n S (.tup l) l
  | str (z : Str) : z.length ≤ 1000 → Src n S (.str z) (z.cps.toList.map sgn)
  | obj {q : Nat} {l : List D} : q ≠ n → S[q]? = some (.lst l) → Src n S (.obj q) l
theorem Src.fr {n : Nat} {S S' : Store} {x : D} {l : List D} (h : Src n S x l) (f : FrH n S S') : Src n S' x l := by
  cases h with
  | lst => exact .lst _
  | tup => exact .tup _
  | str _ hz => exact .str _ hz
  | obj hq e => exact .obj hq (f.fr _ _ hq e)
theorem Src.len {n : Nat} {S : Store} {x : D} {l : List D} (h : Src n S x l) : lenD [x] S = .ok (.int l.length) S := by
  cases h with
  | lst => rfl
  | tup => rfl
  | str z hz =>
    unfold lenD
    simp only
    rw [if_pos (small hz)]
    simp [Str.length]
  | obj _ e => exact len_obj e
theorem atI_map {α β : Type} (f : α → β) (l : List α) (i : Int) : atI (l.map f) i = (atI l i).map f := by
  unfold atI
  rw [List.length_map]
  cases ixN l.length i with
  | none => rfl
  | some j => simp
theorem Src.ix {n : Nat} {S : Store} {x : D} {l : List D} (h : Src n S x l) {i : Int} (h0 : 0 ≤ i) (h1 : i < l.length) : ∃ d ∈ l, ixD x (.int i) S = .ok d S := by
  obtain ⟨d, hd, e⟩ := atI_mem h0 h1
  refine ⟨d, hd, ?_⟩
  cases h with
  | lst => simp [ixD, e]
  | tup => simp [ixD, e]
  | str z hz =>
    rw [atI_map] at e
    cases q : atI z.cps.toList i with
    | none => rw [q] at e; cases e
    | some c =>
      rw [q] at e
      cases e
      simp only [ixD]
      rw [if_pos (small hz), q]
  | obj _ e2 => simp [ixD, e2, e]
def IsPick2 (pk : FN) : Prop := ∀ (n : Nat) (S : Store) (x : D) (l : List D), Hand n S → Src n S x l → l ≠ [] → l.length < 2 ^ 32 → (pk [.obj n, x] S).sat fun d S' => d ∈ l ∧ FrH n S S'
theorem isPick2 {tk : FN} (ht : IsTake tk) : IsPick2 (run 2 2 (mPick tk)) := fun n S x l h hs h1 h2 => by
  have hl : 0 < l.length := (match l, h1 with | _ :: _, _ => by simp)
  rw [sat_run]
  refine ⟨rfl, ?_⟩
  unfold mPick
  simp only [ssat_sRet, sat_e2, sat_eVar, sat_eN, sat_aCons, sat_aNil, callK_eq, List.append_nil, List.map_cons, List.map_nil, List.length_cons, List.length_nil, List.replicate, List.getElem?_cons_succ, List.getElem?_cons_zero, List.cons_append, List.nil_append, hs.len, sat_ok]
  refine sat_mono (ht n S l.length h (by omega) (by omega)) fun d S' q => ?_
  obtain ⟨⟨i, rfl, h0, h3⟩, fr⟩ := q
  obtain ⟨d, hd, e⟩ := (hs.fr fr).ix h0 h3
  rw [e, sat_ok]
  exact ⟨hd, fr⟩
/-- a comprehension's turns, what they have made so far told -/
theorem lc_acc {i : Nat} {te : ED} {env : EnvD} (I : List D → Store → Prop) : ∀ {xs : List D} {acc : List D} {S : Store} {Q : List D → Store → Prop},
    I acc S → (∀ x ∈ xs, ∀ acc S, I acc S → (te (env.set i (some x)) S).sat fun y S' => I (acc ++ [y]) S') → (∀ ys S', ys.length = xs.length → I (acc ++ ys) S' → Q ys S') → lcSat (gName i) tYesD te env xs S Q
  | [], acc, S, Q, hI, ht, hQ => hQ [] S rfl (by simpa using hI)
  | x :: xs, acc, S, Q, hI, ht, hQ => by
    unfold lcSat
    simp only [gName, tYesD, sat_ok, if_true]
    refine sat_mono (ht x (List.mem_cons_self ..) acc S hI) fun y S3 h => ?_
    refine lc_acc I (acc := acc ++ [y]) h (fun x hx => ht x (List.mem_cons_of_mem _ hx)) fun ys S' h1 h2 => hQ _ _ (by simp [h1]) (by simpa using h2)
/-! ### letters -/
def LET : Str := "abcdefghijklmnopqrstuvwxyz"
theorem let_ix {i : Int} (h0 : 0 ≤ i) (h1 : i < 26) (S : Store) : ∃ c, isLet c = true ∧ ixD (.str LET) (.int i) S = .ok (.str ⟨#[c]⟩) S := by
  obtain ⟨d, hd, e⟩ := (Src.str (n := 0) (S := S) LET (by decide +kernel)).ix h0 (by rw [show (LET.cps.toList.map sgn).length = 26 by decide +kernel]; omega)
  simp only [List.mem_map] at hd
  obtain ⟨c, hc, rfl⟩ := hd
  have : LET.cps.toList.all isLet = true := by decide +kernel
  exact ⟨c, List.all_eq_true.mp this c hc, e⟩
theorem let_src {n : Nat} {S : Store} : Src n S (.str LET) (LET.cps.toList.map sgn) := .str _ (by decide +kernel)
theorem let_mem {d : D} (h : d ∈ LET.cps.toList.map sgn) : ∃ c, isLet c = true ∧ d = .str ⟨#[c]⟩ := by
  simp only [List.mem_map] at h
  obtain ⟨c, hc, rfl⟩ := h
  have : LET.cps.toList.all isLet = true := by decide +kernel
  exact ⟨c, List.all_eq_true.mp this c hc, rfl⟩
/-- a text of letters of such a length that no word has -/
theorem name_one {c : Nat} (h : isLet c = true) : NameOk ⟨#[c]⟩ := by
  refine ⟨by simp [Str.length], by simp [Str.length], by simp [h], fun hw => ?_⟩
  have : ∀ s ∈ WORDS, s.length ≠ 1 := by decide +kernel
  exact this _ hw rfl
theorem nameWithX {s : Str} (h : s ∈ WORDS) : NameOk (s ++ "x") := by
  have a : WORDS.all (fun s => decide (1 ≤ (s ++ "x").length) && decide ((s ++ "x").length ≤ 8) && (s ++ "x").cps.toList.all isLet && decide ((s ++ "x") ∉ WORDS)) = true := by decide +kernel
  have := List.all_eq_true.mp a s h
  simp only [Bool.and_eq_true, decide_eq_true_eq] at this
  exact ⟨this.1.1.1, this.1.1.2, this.1.2, this.2⟩
end L3
set_option Elab.async false
set_option linter.all false
set_option maxRecDepth 100000
set_option maxHeartbeats 4000000
/-! L3U: drawn names, drawn numbers. -/
namespace L3
open PySem L2
theorem sz0 : ((0 : Nat) ≤ sizeLine) = True := eq_true (by decide)
theorem sz1 : ((1 : Nat) ≤ sizeLine) = True := eq_true (by decide)
theorem sz2 : ((2 : Nat) ≤ sizeLine) = True := eq_true (by decide)
theorem sz3 : ((3 : Nat) ≤ sizeLine) = True := eq_true (by decide)
theorem sz4 : ((4 : Nat) ≤ sizeLine) = True := eq_true (by decide)
theorem sz5 : ((5 : Nat) ≤ sizeLine) = True := eq_true (by decide)
theorem sz6 : ((6 : Nat) ≤ sizeLine) = True := eq_true (by decide)
theorem sz7 : ((7 : Nat) ≤ sizeLine) = True := eq_true (by decide)
theorem sz8 : ((8 : Nat) ≤ sizeLine) = True := eq_true (by decide)
theorem sz10 : ((10 : Nat) ≤ sizeLine) = True := eq_true (by decide)
theorem sz17 : ((17 : Nat) ≤ sizeLine) = True := eq_true (by decide)
-- a step of a plain law: what the terms at hand come to
local macro_rules | `(tactic| open_k) => `(tactic| simp only [ssat_seq, ssat_asg, ssat_sRet, ssat_sExpr, ssat_if, ssat_skip, ssat_par, ssat_nx, ssat_ret, ssat_for, sat_e2, sat_e1, sat_eN, sat_aCons, sat_aNil, sat_eVar, sat_eK, sat_tOfE, sat_tTruth, sat_tNot, sat_tAnd, sat_tOr, sat_eIf, sat_eBM, sat_iSeq, sat_iArgs, sat_eAnd, sat_eOr, sat_eNot, sat_eChain, sat_eSl, sat_pNo, sat_pYes, sat_eLc, sat_eKw, sat_mkTup, sat_mkLst, sat_mkObj, sat_ok, callK_eq, List.append_nil, List.map_cons, List.map_nil, List.length_cons, List.length_nil, List.replicate, List.getElem?_cons_succ, List.getElem?_cons_zero, List.cons_append, List.nil_append, List.set_cons_succ, List.set_cons_zero, gName_eq, gTup_tup, gNames_cons, gNames_nil, Nat.zero_add, Nat.reduceAdd, Nat.reduceSub, sz0, sz1, sz2, sz3, sz4, sz5, sz6, sz7, sz8, sz10, sz17, true_and, add_int, sub_int, neg_int, lt_int, le_int, gt_int, ge_int, eq_int, ne_int, blD_bl, truthD_bl, itemsD_lst, itemsD_tup, wipeD, eq_strs, ne_strs, sl_tup, sl_lst, if_true, if_false, Bool.false_eq_true, sat_range1, sat_range2, tuple_lst, tuple_tup, len_tup, len_lst, len_scr])
def mCalled (tk pk : FN) : SD :=
    sSeq (sAsg (eK (.str "abcdefghijklmnopqrstuvwxyz")) (gName 2))
    (sSeq (sAsg (eBM "str" splitD (eK (.str "plus times most row say less below if let each num name any rest called count")) (aCons (eK (.str " ")) (aNil))) (gName 3))
    (sSeq (sAsg (eN mkTup (aCons (eN (callK tk []) (aCons (eVar 0) (aCons (eK (.int 676)) (aNil)))) (aCons (eN (callK pk []) (aCons (eVar 0) (aCons (eN mkLst (aCons (eK (.int 1)) (aCons (eK (.int 3)) (aCons (eK (.int 7)) (aCons (eK (.int 25)) (aCons (eK (.int 27)) (aCons (eK (.int 51)) (aCons (eK (.int 105)) (aNil))))))))) (aNil)))) (aNil)))) (gTup [4, 5]))
    (sSeq (sIf (tAnd (tOfE (e2 ltD (eVar 1) (eK (.int 27)))) (tOfE (e2 eqD (eN (callK tk []) (aCons (eVar 0) (aCons (eK (.int 6)) (aNil)))) (eK (.int 0))))) (sRet (eLc (iArgs range1 (aCons (eVar 1) (aNil))) [6] (gName 6) (tYesD) (e2 ixD (eVar 2) (e2 modD (e2 addD (eVar 4) (eVar 6)) (eK (.int 26)))))) (sSkip))
    (sSeq (sAsg (eBM "str" joinD (eK (.str "")) (aCons (eLc (iArgs range1 (aCons (eN (callK pk []) (aCons (eVar 0) (aCons (eN mkLst (aCons (eK (.int 0)) (aCons (eK (.int 0)) (aCons (eK (.int 1)) (aCons (eK (.int 2)) (aCons (eK (.int 6)) (aNil))))))) (aNil)))) (aNil))) [6] (gName 6) (tYesD) (eN (callK pk []) (aCons (eVar 0) (aCons (eVar 2) (aNil))))) (aNil))) (gName 7))
    (sSeq (sPar [8, 9] (aCons (eN (callK tk []) (aCons (eVar 0) (aCons (e2 addD (eN lenD (aCons (eVar 7) (aNil))) (eK (.int 1))) (aNil)))) (aCons (eN mkObj (aNil)) (aNil))))
    (sSeq (sFor (iArgs range1 (aCons (eVar 1) (aNil))) (gName 6) (sSeq (sAsg (e2 modD (e2 addD (eVar 4) (e2 mulD (eVar 5) (eVar 6))) (eK (.int 676))) (gName 10))
    (sSeq (sAsg (e2 addD (e2 ixD (eVar 2) (e2 fdivD (eVar 10) (eK (.int 26)))) (e2 ixD (eVar 2) (e2 modD (eVar 10) (eK (.int 26))))) (gName 11))
    (sSeq (sAsg (e2 addD (e2 addD (eSl (eVar 7) (pNo) (pYes (eVar 8))) (eVar 11)) (eSl (eVar 7) (pYes (eVar 8)) (pNo))) (gName 12))
    (sExpr (eBM "list" appendD (eVar 9) (aCons (e2 addD (eVar 12) (e2 mulD (eK (.str "x")) (eN intD (aCons (e2 inD (eVar 12) (eVar 3)) (aNil))))) (aNil))))))))
    (sRet (eVar 9))))))))
def mDigit (tk pk : FN) : SD :=
    sRet (eN (callK pk []) (aCons (eVar 0) (aCons (eN mkLst (aCons (eK (.int 0)) (aCons (eK (.int 1)) (aCons (eK (.int 2)) (aCons (eK (.int 3)) (aCons (eN (callK tk []) (aCons (eVar 0) (aCons (eK (.int 6)) (aNil)))) (aCons (eK (.int 9972)) (aCons (eN (callK tk []) (aCons (eVar 0) (aCons (eK (.int 9973)) (aNil)))) (aNil))))))))) (aNil))))
theorem split_words {S : Store} : splitD (.str "plus times most row say less below if let each num name any rest called count") [.str " "] S = .ok (.lst (WORDS.map .str)) S := by kernel_rfl
theorem mt_str {z : Str} {S : Store} : mtD (.str z) S = some "str" := rfl
/-- names, as a list that stays or one that was made since -/
def PoolV (S S' : Store) (d : D) (l : List Str) : Prop := d = .lst (l.map .str) ∨ ∃ q, S.length ≤ q ∧ d = .obj q ∧ S'[q]? = some (.lst (l.map .str))
theorem in_words {s : Str} {S : Store} (h : s.cps.toList.all isLet = true) : inD (.str s) (.lst (WORDS.map .str)) S = .ok (.bl (decide (s ∈ WORDS))) S := by
  have ok : PyData.strOk s = true := by
    unfold PyData.strOk
    rw [← Array.all_toList, List.all_eq_true]
    intro c hc
    have := List.all_eq_true.mp h c hc
    simp only [isLet, Bool.and_eq_true, decide_eq_true_eq] at this
    simp only [decide_eq_true_eq]; omega
  have ws : toPyL (WORDS.map .str) = some (WORDS.map .str) := by kernel_rfl
  have e : memD (.str s) (.lst (WORDS.map .str)) S = some (decide (s ∈ WORDS)) := by
    simp only [memD, memData, toPy, ok, if_true, ws, Option.map_some]
    rw [if_pos (show (PyData.str s).depth ≤ 64 by simp [PyData.depth])]
    congr 1
    rw [Bool.eq_iff_iff]
    simp only [List.any_map, List.any_eq_true, Function.comp, decide_eq_true_eq, PyData.eqv]
    constructor
    · rintro ⟨x, hx, e⟩
      have : x = s := by simpa using e
      exact this ▸ hx
    · intro hx
      exact ⟨s, hx, by simp⟩
  unfold inD
  rw [e]
theorem join_letters : ∀ (cs : List Nat), Txt.join "" (cs.map fun c => (⟨#[c]⟩ : Str)) = ⟨cs.toArray⟩ := by
  intro cs
  rw [TL.join_eq]
  have : TL.tl (Str.join "" (cs.map fun c => (⟨#[c]⟩ : Str))) = cs := by
    rw [TL.tl_join]
    have e0 : TL.tl "" = [] := by decide +kernel
    rw [e0]
    induction cs with
    | nil => rfl
    | cons c cs ih =>
      cases cs with
      | nil => rfl
      | cons b cs =>
        simp only [List.map_cons, TL.joinL, List.nil_append] at ih ⊢
        rw [ih]
        rfl
  have e : ∀ z : Str, z = ⟨(TL.tl z).toArray⟩ := fun z => by
    cases z with
    | mk a => simp [TL.tl]
  rw [e (Str.join _ _), this]
section
variable {S : Store} {env : EnvD} {N B C : EnvD → Store → Prop} {T : D → Store → Prop} {a b c d e r : SD}
theorem seq2 (M : EnvD → Store → Prop) (h : (sSeq a b env S).sat M T B C) (k : ∀ e S, M e S → (r e S).sat N T B C) : (sSeq a (sSeq b r) env S).sat N T B C := by
  rw [ssat_seq] at h ⊢
  exact ssat_mono h (fun _ _ h => seq_rule M h k) (fun _ _ h => h) (fun _ _ h => h) fun _ _ h => h
theorem seq3 (M : EnvD → Store → Prop) (h : (sSeq a (sSeq b c) env S).sat M T B C) (k : ∀ e S, M e S → (r e S).sat N T B C) : (sSeq a (sSeq b (sSeq c r)) env S).sat N T B C := by
  rw [ssat_seq] at h ⊢
  exact ssat_mono h (fun _ _ h => seq2 M h k) (fun _ _ h => h) (fun _ _ h => h) fun _ _ h => h
theorem seq4 (M : EnvD → Store → Prop) (h : (sSeq a (sSeq b (sSeq c d)) env S).sat M T B C) (k : ∀ e S, M e S → (r e S).sat N T B C) : (sSeq a (sSeq b (sSeq c (sSeq d r))) env S).sat N T B C := by
  rw [ssat_seq] at h ⊢
  exact ssat_mono h (fun _ _ h => seq3 M h k) (fun _ _ h => h) (fun _ _ h => h) fun _ _ h => h
theorem seq5 (M : EnvD → Store → Prop) (h : (sSeq a (sSeq b (sSeq c (sSeq d e))) env S).sat M T B C) (k : ∀ e S, M e S → (r e S).sat N T B C) : (sSeq a (sSeq b (sSeq c (sSeq d (sSeq e r)))) env S).sat N T B C := by
  rw [ssat_seq] at h ⊢
  exact ssat_mono h (fun _ _ h => seq4 M h k) (fun _ _ h => h) (fun _ _ h => h) fun _ _ h => h
end
theorem FrH.mk2 {n : Nat} {S S' : Store} (h : FrH n S S') (o : O) : FrH n S (S' ++ [o]) := h.trans (.app h.hd o)
theorem len_s {z : Str} {S : Store} (h : z.length ≤ 1000) : lenD [.str z] S = .ok (.int z.length) S := by
  unfold lenD; simp only; rw [if_pos (small h)]
theorem sl_str {z : Str} {lo hi : Option Int} {S : Store} (h : z.length ≤ 1000) : slD (.str z) lo hi S = .ok (.str (cutS z lo hi)) S := by
  unfold slD; simp only; rw [if_pos (small h)]
theorem md {i : Int} : 0 ≤ i % 26 ∧ i % 26 < 26 := ⟨Int.emod_nonneg _ (by decide), Int.emod_lt_of_pos _ (by decide)⟩
theorem mulx {b : Bool} {S : Store} : mulD (.str "x") (.int (if b = true then 1 else 0)) S = .ok (.str (if b = true then "x" else "")) S := by cases b <;> kernel_rfl
theorem strs_map : ∀ l : List Str, allStrs (l.map .str) = some l
  | [] => rfl
  | s :: l => by simp [allStrs, strs_map l]
/-- a stem, two letters put into it -/
theorem word_ok {st : List Nat} {a b : Nat} {sp : Nat} (hs : st.all isLet = true) (ha : isLet a = true) (hb : isLet b = true) (hl : st.length ≤ 6) (hsp : sp ≤ st.length) (z : Str) (hz : z = ⟨(st.take sp ++ [a, b] ++ st.drop sp).toArray⟩) :
    z.cps.toList.all isLet = true ∧ z.length ≤ 8 ∧ NameOk (z ++ (if decide (z ∈ WORDS) = true then ("x" : Str) else ("" : Str))) := by
  have e1 : z.cps.toList = st.take sp ++ [a, b] ++ st.drop sp := by rw [hz]
  have l1 : z.length = st.length + 2 := by
    rw [TL.len_tl]
    show z.cps.toList.length = _
    rw [e1]; simp; omega
  have al : z.cps.toList.all isLet = true := by
    rw [e1]
    simp only [List.all_append, List.all_cons, List.all_nil, ha, hb, Bool.and_true, Bool.and_eq_true]
    rw [List.all_eq_true] at hs ⊢
    refine ⟨fun x hx => hs x (List.mem_of_mem_take hx), ?_⟩
    rw [List.all_eq_true]
    exact fun x hx => hs x (List.mem_of_mem_drop hx)
  refine ⟨al, by omega, ?_⟩
  by_cases hw : z ∈ WORDS
  · simp only [hw, decide_true, if_true]
    exact nameWithX hw
  · simp only [hw, decide_false, Bool.false_eq_true, if_false]
    have : z ++ ("" : Str) = z := by
      apply TL.ext_tl
      show (z.cps ++ ("" : Str).cps).toList = z.cps.toList
      rw [Array.toList_append, show ("" : Str).cps.toList = [] by decide +kernel, List.append_nil]
    rw [this]
    exact ⟨by omega, by omega, al, hw⟩
theorem called_ok {tk pk : FN} (ht : IsTake tk) (hp : IsPick2 pk) {n : Nat} {S : Store} (hS : Hand n S) {many : Nat} (hm : many ≤ 1000) : (run 2 13 (mCalled tk pk) [.obj n, .int many] S).sat fun d S' => FrH n S S' ∧ ∃ l : List Str, l.length = many ∧ (∀ s ∈ l, NameOk s) ∧ PoolV S S' d l := by
  rw [sat_run]
  refine ⟨rfl, ?_⟩
  unfold mCalled
  have okm : okRng (many : Int) = true := by simp [okRng]; omega
  refine seq4 (fun e S1 => ∃ f b : Int, e = [some (.obj n), some (.int many), some (.str LET), some (.lst (WORDS.map .str)), some (.int f), some (.int b), none, none, none, none, none, none, none] ∧ 0 ≤ f ∧ 0 ≤ b ∧ FrH n S S1) ?_ ?_
  · open_k
    simp only [mt_str, split_words, sat_ok, true_and]
    refine sat_mono (ht n S 676 hS (by decide) (by decide)) fun d1 S1 ⟨⟨f, e1, f0, f1⟩, fr1⟩ => ?_
    subst e1
    refine sat_mono (hp n S1 _ _ fr1.hd (.lst _) (by simp) (by simp)) fun d2 S2 ⟨hb, fr2⟩ => ?_
    obtain ⟨b, rfl, b0⟩ : ∃ b : Int, d2 = .int b ∧ 0 ≤ b := by
      simp at hb
      rcases hb with rfl | rfl | rfl | rfl | rfl | rfl | rfl <;> exact ⟨_, rfl, by decide⟩
    have fin : ∀ S3, FrH n S S3 → ∃ f_1 b_1 : Int, [some (D.obj n), some (D.int ↑many), some (D.str "abcdefghijklmnopqrstuvwxyz"), some (D.lst (List.map D.str WORDS)), some (D.int f), some (D.int b), none, none, none, none, none, none, none] = [some (.obj n), some (.int many), some (.str LET), some (.lst (WORDS.map .str)), some (.int f_1), some (.int b_1), none, none, none, none, none, none, none] ∧ 0 ≤ f_1 ∧ 0 ≤ b_1 ∧ FrH n S S3 := fun S3 fr => ⟨f, b, rfl, f0, b0, fr⟩
    by_cases h27 : (many : Int) < 27
    · simp only [h27, decide_true, if_true]
      refine sat_mono (ht n S2 6 fr2.hd (by decide) (by decide)) fun d3 S3 ⟨⟨z, e3, _, _⟩, fr3⟩ => ?_
      subst e3
      open_k
      by_cases hz : z = 0
      · simp only [hz, decide_true, if_true]
        refine ⟨okm, by rw [rangeD_len]; exact small (by omega), ?_⟩
        refine lc_rule (fun S' => S' = S3) (fun _ y => ∃ s, y = .str s ∧ NameOk s) rfl (fun x hx S4 e4 => ?_) fun ys S5 e5 hy => ?_
        · subst e4
          obtain ⟨i, rfl, i0, i1⟩ := mem_range hx
          open_k
          simp only [mod_int]
          refine ⟨by decide, ?_⟩
          obtain ⟨c, hc, e⟩ := let_ix (md (i := f + i)).1 (md (i := f + i)).2 S4
          rw [show ("abcdefghijklmnopqrstuvwxyz" : Str) = LET from rfl, e, sat_ok]
          exact ⟨⟨_, rfl, name_one hc⟩, rfl⟩
        · subst e5
          obtain ⟨l, rfl, hl⟩ : ∃ l : List Str, ys = l.map .str ∧ ∀ s ∈ l, NameOk s := by
            clear okm hm h27 fin
            generalize rangeD 0 (many : Int) = xs at hy
            induction hy with
            | nil => exact ⟨[], rfl, by simp⟩
            | cons p _ ih =>
              obtain ⟨s, rfl, hs⟩ := p
              obtain ⟨l, rfl, hl⟩ := ih
              exact ⟨s :: l, rfl, by simpa using ⟨hs, hl⟩⟩
          have := hy.len
          simp at this
          exact ⟨(fr1.trans fr2).trans fr3, l, this, hl, .inl rfl⟩
      · simp only [hz, decide_false, Bool.false_eq_true, if_false]
        exact fin S3 ((fr1.trans fr2).trans fr3)
    · simp only [h27, decide_false, Bool.false_eq_true, if_false]
      exact fin S2 (fr1.trans fr2)
  · rintro e S1 ⟨f, b, rfl, f0, b0, fr⟩
    have hlt := hS.lt
    refine seq2 (fun e S2 => ∃ (st : List Nat) (sp q : Nat), e = [some (.obj n), some (.int many), some (.str LET), some (.lst (WORDS.map .str)), some (.int f), some (.int b), none, some (.str ⟨st.toArray⟩), some (.int sp), some (.obj q), none, none, none] ∧
      st.all isLet = true ∧ st.length ≤ 6 ∧ sp ≤ st.length ∧ FrH n S S2 ∧ S.length ≤ q ∧ S2[q]? = some (.lst [])) ?_ ?_
    · open_k
      simp only [mt_str, true_and]
      refine sat_mono (hp n S1 _ _ fr.hd (.lst _) (by simp) (by simp)) fun d2 S2 ⟨hb, fr2⟩ => ?_
      obtain ⟨L, rfl, hL⟩ : ∃ L : Nat, d2 = .int L ∧ L ≤ 6 := by
        simp at hb
        rcases hb with rfl | rfl | rfl | rfl
        · exact ⟨0, rfl, by decide⟩
        · exact ⟨1, rfl, by decide⟩
        · exact ⟨2, rfl, by decide⟩
        · exact ⟨6, rfl, by decide⟩
      open_k
      refine ⟨by simp [okRng]; omega, by rw [rangeD_len]; exact small (by omega), ?_⟩
      refine lc_rule (FrH n S) (fun _ y => ∃ c, y = .str ⟨#[c]⟩ ∧ isLet c = true) (fr.trans fr2) (fun x hx S4 h4 => ?_) fun ys S5 h5 hy => ?_
      · open_k
        refine sat_mono (hp n S4 _ _ h4.hd let_src (by decide +kernel) (by decide +kernel)) fun d S5 ⟨hd, fr5⟩ => ?_
        obtain ⟨c, hc, rfl⟩ := let_mem hd
        exact ⟨⟨c, rfl, hc⟩, h4.trans fr5⟩
      · obtain ⟨st, rfl, hst⟩ : ∃ st : List Nat, ys = (st.map fun c => (⟨#[c]⟩ : Str)).map .str ∧ st.all isLet = true := by
          clear hb
          generalize rangeD 0 (L : Int) = xs at hy
          induction hy with
          | nil => exact ⟨[], rfl, rfl⟩
          | cons p _ ih =>
            obtain ⟨c, rfl, hc⟩ := p
            obtain ⟨st, rfl, hst⟩ := ih
            exact ⟨c :: st, rfl, by simp only [List.all_cons, hc, hst, Bool.and_self]⟩
        have hl := hy.len
        simp at hl
        have ej : joinD (.str "") [.lst ((st.map fun c => (⟨#[c]⟩ : Str)).map .str)] S5 = .ok (.str ⟨st.toArray⟩) S5 := by
          simp only [joinD, asS, asL, Option.bind_some, strs_map]
          have : (((st.map fun c => (⟨#[c]⟩ : Str)).map (·.length)).sum + (st.map fun c => (⟨#[c]⟩ : Str)).length * Str.length "") ≤ 16777216 := by
            have e0 : Str.length "" = 0 := by decide +kernel
            have e1 : (st.map fun c => (⟨#[c]⟩ : Str)).map (·.length) = st.map fun _ => 1 := by simp [Str.length]
            have es : ∀ l : List Nat, (l.map fun _ => 1).sum = l.length := fun l => by
              induction l with
              | nil => rfl
              | cons a l ih => simp [ih]; omega
            rw [e0, e1, es]
            simp; omega
          rw [if_pos this, join_letters]
        rw [ej]
        have hlen : (⟨st.toArray⟩ : Str).length = st.length := by simp [Str.length]
        simp only [sat_ok, len_s (show (⟨st.toArray⟩ : Str).length ≤ 1000 by rw [hlen]; omega), hlen, add_int]
        refine sat_mono (ht n S5 _ h5.hd (by omega) (by omega)) fun d S6 ⟨⟨z, e6, z0, z1⟩, fr6⟩ => ?_
        subst e6
        have fr7 := h5.trans fr6
        exact ⟨st, z.toNat, S6.length, by rw [Int.toNat_of_nonneg z0], hst, by omega, by omega, fr7.mk2 _, fr7.le, by simp⟩
    · rintro e S2 ⟨st, sp, q, rfl, hst, hl6, hsp, fr2, hq, e2⟩
      have hqn : q ≠ n := by omega
      have hlen : (⟨st.toArray⟩ : Str).length = st.length := by simp [Str.length]
      refine seq_rule (fun e S3 => (∃ a6 a10 a11 a12 : Option D, e = [some (.obj n), some (.int many), some (.str LET), some (.lst (WORDS.map .str)), some (.int f), some (.int b), a6, some (.str ⟨st.toArray⟩), some (.int sp), some (.obj q), a10, a11, a12]) ∧
        FrH n S S3 ∧ ∃ l : List Str, l.length = many ∧ (∀ s ∈ l, NameOk s) ∧ S3[q]? = some (.lst (l.map .str))) ?_ ?_
      · open_k
        refine ⟨okm, ?_⟩
        refine for_rule (fun j e S3 => (∃ a6 a10 a11 a12 : Option D, e = [some (.obj n), some (.int many), some (.str LET), some (.lst (WORDS.map .str)), some (.int f), some (.int b), a6, some (.str ⟨st.toArray⟩), some (.int sp), some (.obj q), a10, a11, a12]) ∧
          FrH n S S3 ∧ ∃ l : List Str, l.length = j ∧ (∀ s ∈ l, NameOk s) ∧ S3[q]? = some (.lst (l.map .str))) ⟨⟨_, _, _, _, rfl⟩, fr2, [], rfl, by simp, e2⟩ ?_ ?_
        · rintro j hj e S3 ⟨⟨a6, a10, a11, a12, rfl⟩, fr3, l, hl, hn, e3⟩
          rw [rangeD_get hj]
          have hj' : j < many := by simpa using hj
          open_k
          rw [mul_int]
          refine ⟨mulOk_r (by omega), ?_⟩
          open_k
          rw [mod_int]
          refine ⟨by decide, ?_⟩
          have m676 : ∀ i : Int, 0 ≤ i % 676 ∧ i % 676 < 676 := fun i => ⟨Int.emod_nonneg _ (by decide), Int.emod_lt_of_pos _ (by decide)⟩
          obtain ⟨v, hv⟩ : ∃ v : Int, (f + b * (0 + (j : Int))) % 676 = v := ⟨_, rfl⟩
          have hv2 := m676 (f + b * (0 + (j : Int)))
          rw [hv] at hv2 ⊢
          rw [fdiv_int]
          refine ⟨by decide, ?_⟩
          obtain ⟨c1, hc1, ec1⟩ := let_ix (i := v / 26) (by omega) (by omega) S3
          rw [ec1, sat_ok, mod_int]
          refine ⟨by decide, ?_⟩
          obtain ⟨c2, hc2, ec2⟩ := let_ix (md (i := v)).1 (md (i := v)).2 S3
          rw [ec2, sat_ok]
          have one : ∀ c : Nat, (⟨#[c]⟩ : Str).length = 1 := fun c => rfl
          rw [add_str (by rw [one, one]; exact small (by decide)), sat_ok]
          have hz1000 : (⟨st.toArray⟩ : Str).length ≤ 1000 := by rw [hlen]; omega
          have elo : cutS ⟨st.toArray⟩ none (some (sp : Int)) = ⟨(st.take sp).toArray⟩ := by
            unfold cutS
            rw [hlen, HT.sIx_none, HT.sIx_nat]
            simp [Nat.min_eq_left hsp]
          have ehi : cutS ⟨st.toArray⟩ (some (sp : Int)) none = ⟨(st.drop sp).toArray⟩ := by
            unfold cutS
            rw [hlen, HT.sIx_none, HT.sIx_nat]
            simp [Nat.min_eq_left hsp]
            rw [List.take_of_length_le (by simp)]
          refine ⟨_, rfl, ?_⟩
          rw [sl_str hz1000, elo, sat_ok]
          have lt : (⟨(st.take sp).toArray⟩ : Str).length ≤ 6 := by simp [Str.length]; omega
          have ld : (⟨(st.drop sp).toArray⟩ : Str).length ≤ 6 := by simp [Str.length]; omega
          have two : ((⟨#[c1]⟩ : Str) ++ (⟨#[c2]⟩ : Str)).length = 2 := rfl
          have app : ∀ a b : Str, (a ++ b).length = a.length + b.length := fun a b => by
            show (a.cps ++ b.cps).size = _
            rw [Array.size_append]; rfl
          rw [add_str (small (by rw [two]; omega)), sat_ok]
          refine ⟨_, rfl, ?_⟩
          rw [sl_str hz1000, ehi, sat_ok, add_str (small (by rw [app, two]; omega)), sat_ok]
          obtain ⟨z, hz⟩ : ∃ z : Str, z = (⟨(st.take sp).toArray⟩ : Str) ++ ((⟨#[c1]⟩ : Str) ++ (⟨#[c2]⟩ : Str)) ++ (⟨(st.drop sp).toArray⟩ : Str) := ⟨_, rfl⟩
          have hz2 : z = ⟨(st.take sp ++ [c1, c2] ++ st.drop sp).toArray⟩ := by
            rw [hz]
            apply TL.ext_tl
            show ((((st.take sp).toArray ++ (#[c1] ++ #[c2])) ++ (st.drop sp).toArray)).toList = _
            simp
          rw [← hz]
          obtain ⟨al, l8, ok⟩ := word_ok hst hc1 hc2 hl6 hsp z hz2
          refine ⟨mtD_obj e3, ?_⟩
          rw [in_words al, sat_ok]
          simp only [intD, sat_ok]
          rw [mulx, sat_ok]
          have lx : ∀ b : Bool, (if b = true then ("x" : Str) else "").length ≤ 1 := fun b => by cases b <;> decide +kernel
          rw [add_str (small (by have := lx (decide (z ∈ WORDS)); omega)), sat_ok, append_obj e3]
          refine ⟨Nat.lt_of_lt_of_le (m := 1000) (by simp; omega) (by decide), ⟨_, _, _, _, rfl⟩, fr3.put hS hq _, l ++ [z ++ (if decide (z ∈ WORDS) = true then ("x" : Str) else ("" : Str))], by simp [hl], ?_, ?_⟩
          · intro s hs
            rcases List.mem_append.mp hs with h | h
            · exact hn s h
            · simp only [List.mem_singleton] at h; rw [h]; exact ok
          · rw [List.getElem?_set_self (List.getElem?_eq_some_iff.mp e3).1]
            simp
        · rintro e S3 ⟨⟨a6, a10, a11, a12, rfl⟩, fr3, l, hl, hn, e3⟩
          simp at hl
          exact ⟨⟨_, _, _, _, rfl⟩, fr3, l, hl, hn, e3⟩
      · rintro e S3 ⟨⟨a6, a10, a11, a12, rfl⟩, fr3, l, hl, hn, e3⟩
        open_k
        exact ⟨fr3, l, hl, hn, .inr ⟨q, hq, rfl, e3⟩⟩
/-! ### drawn numbers -/
def IsDigit (dg : FN) : Prop := ∀ (n : Nat) (S : Store), Hand n S → (dg [.obj n] S).sat fun d S' => (∃ i : Int, d = .int i ∧ 0 ≤ i ∧ i ≤ 9972) ∧ FrH n S S'
theorem isDigit {tk pk : FN} (ht : IsTake tk) (hp : IsPick2 pk) : IsDigit (run 1 1 (mDigit tk pk)) := fun n S hS => by
  rw [sat_run]
  refine ⟨rfl, ?_⟩
  unfold mDigit
  open_k
  refine sat_mono (ht n S 6 hS (by decide) (by decide)) fun d1 S1 ⟨⟨a, e1, a0, a1⟩, fr1⟩ => ?_
  subst e1
  refine sat_mono (ht n S1 9973 fr1.hd (by decide) (by decide)) fun d2 S2 ⟨⟨b, e2, b0, b1⟩, fr2⟩ => ?_
  subst e2
  refine sat_mono (hp n S2 _ _ fr2.hd (.lst _) (by simp) (by simp)) fun d3 S3 ⟨h, fr3⟩ => ⟨?_, (fr1.trans fr2).trans fr3⟩
  simp at h
  rcases h with rfl | rfl | rfl | rfl | rfl | rfl | rfl <;> exact ⟨_, rfl, by omega, by omega⟩
end L3
set_option Elab.async false
set_option linter.all false
set_option maxRecDepth 100000
set_option maxHeartbeats 4000000
/-! L3V: drawn programs. -/
namespace L3
open PySem L2
local macro_rules | `(tactic| open_k) => `(tactic| simp only [ssat_seq, ssat_asg, ssat_sRet, ssat_sExpr, ssat_if, ssat_skip, ssat_par, ssat_nx, ssat_ret, ssat_for, sat_e2, sat_e1, sat_eN, sat_aCons, sat_aNil, sat_eVar, sat_eK, sat_tOfE, sat_tTruth, sat_tNot, sat_tAnd, sat_tOr, sat_eIf, sat_eBM, sat_iSeq, sat_iArgs, sat_eAnd, sat_eOr, sat_eNot, sat_eChain, sat_eSl, sat_pNo, sat_pYes, sat_eLc, sat_eKw, sat_mkTup, sat_mkLst, sat_mkObj, sat_ok, callK_eq, List.append_nil, List.map_cons, List.map_nil, List.length_cons, List.length_nil, List.replicate, List.getElem?_cons_succ, List.getElem?_cons_zero, List.cons_append, List.nil_append, List.set_cons_succ, List.set_cons_zero, gName_eq, gTup_tup, gNames_cons, gNames_nil, Nat.zero_add, Nat.reduceAdd, Nat.reduceSub, sz0, sz1, sz2, sz3, sz4, sz5, sz6, sz7, sz8, sz10, sz17, true_and, add_int, sub_int, neg_int, lt_int, le_int, gt_int, ge_int, eq_int, ne_int, blD_bl, truthD_bl, itemsD_lst, itemsD_tup, wipeD, eq_strs, ne_strs, sl_tup, sl_lst, if_true, if_false, Bool.false_eq_true, sat_range1, sat_range2, tuple_lst, tuple_tup, len_tup, len_lst, len_scr, D.int.injEq, exists_eq_left', mt_str])
def mGrown (tk pk dg gr : FN) : SD :=
    sSeq (sAsg (e2 subD (e2 ixD (eVar 1) (eK (.str "left"))) (eK (.int 1))) (gSub (eVar 1) (eK (.str "left"))))
    (sSeq (sIf (tOr (tOfE (e2 eqD (eVar 3) (eK (.int 0)))) (tOfE (e2 ltD (e2 ixD (eVar 1) (eK (.str "left"))) (eK (.int 4))))) (sSeq (sIf (tOfE (e2 ltD (eN (callK tk []) (aCons (eVar 0) (aCons (eK (.int 5)) (aNil)))) (eK (.int 3)))) (sRet (eN mkTup (aCons (eK (.str "name")) (aCons (eN (callK pk []) (aCons (eVar 0) (aCons (e2 addD (e2 addD (eSl (eVar 2) (pYes (e1 negD (eK (.int 2)))) (pNo)) (eSl (eVar 2) (pYes (e1 negD (eK (.int 2)))) (pNo))) (e2 ixD (eVar 1) (eK (.str "pool")))) (aNil)))) (aCons (eN mkTup (aNil)) (aNil)))))) (sSkip))
    (sRet (eN mkTup (aCons (eK (.str "num")) (aCons (eN (callK dg []) (aCons (eVar 0) (aNil))) (aCons (eN mkTup (aNil)) (aNil))))))) (sSkip))
    (sSeq (sPar [4, 5] (aCons (eN (callK tk []) (aCons (eVar 0) (aCons (eK (.int 13)) (aNil)))) (aCons (eN (callK pk []) (aCons (eVar 0) (aCons (eN mkLst (aCons (eK (.int 2)) (aCons (eK (.int 2)) (aCons (eK (.int 3)) (aCons (eK (.int 1)) (aCons (eK (.int 4)) (aNil))))))) (aNil)))) (aNil))))
    (sSeq (sIf (tOfE (e2 ltD (eVar 4) (eK (.int 4)))) (sSeq (sAsg (e2 ixD (eN mkLst (aCons (eK (.str "plus")) (aCons (eK (.str "times")) (aCons (eK (.str "most")) (aCons (eK (.str "plus")) (aNil)))))) (eVar 4)) (gName 6))
    (sRet (eN mkTup (aCons (eVar 6) (aCons (eK (.str "")) (aCons (eN tupleD (aCons (eLc (iArgs range1 (aCons (eVar 5) (aNil))) [7] (gName 7) (tYesD) (eN (callK gr []) (aCons (eVar 0) (aCons (eVar 1) (aCons (eVar 2) (aCons (e2 subD (eVar 3) (eK (.int 1))) (aNil))))))) (aNil))) (aNil))))))) (sSkip))
    (sSeq (sIf (tOfE (e2 ltD (eVar 4) (eK (.int 7)))) (sSeq (sAsg (eN (callK pk []) (aCons (eVar 0) (aCons (eN mkLst (aCons (eVar 5) (aCons (eK (.int 0)) (aCons (eK (.int 3)) (aCons (eK (.int 4)) (aCons (eK (.int 5)) (aNil))))))) (aNil)))) (gName 5))
    (sRet (eN mkTup (aCons (eK (.str "row")) (aCons (eK (.str "")) (aCons (eN tupleD (aCons (eLc (iArgs range1 (aCons (eVar 5) (aNil))) [7] (gName 7) (tYesD) (eN (callK gr []) (aCons (eVar 0) (aCons (eVar 1) (aCons (eVar 2) (aCons (e2 subD (eVar 3) (eK (.int 1))) (aNil))))))) (aNil))) (aNil))))))) (sSkip))
    (sSeq (sIf (tOfE (e2 ltD (eVar 4) (eK (.int 10)))) (sSeq (sAsg (e2 ixD (eN mkLst (aCons (eK (.str "let")) (aCons (eK (.str "each")) (aCons (eK (.str "let")) (aNil))))) (e2 subD (eVar 4) (eK (.int 7)))) (gName 6))
    (sSeq (sPar [8, 9] (aCons (eN (callK pk []) (aCons (eVar 0) (aCons (e2 ixD (eVar 1) (eK (.str "pool"))) (aNil)))) (aCons (eN (callK gr []) (aCons (eVar 0) (aCons (eVar 1) (aCons (eVar 2) (aCons (e2 subD (eVar 3) (eK (.int 1))) (aNil)))))) (aNil))))
    (sRet (eN mkTup (aCons (eVar 6) (aCons (eVar 8) (aCons (eN mkTup (aCons (eVar 9) (aCons (eN (callK gr []) (aCons (eVar 0) (aCons (eVar 1) (aCons (e2 addD (eVar 2) (eN mkLst (aCons (eVar 8) (aNil)))) (aCons (e2 subD (eVar 3) (eK (.int 1))) (aNil)))))) (aNil)))) (aNil)))))))) (sSkip))
    (sSeq (sAsg (e2 ixD (eN mkLst (aCons (eK (.str "say")) (aCons (eN (callK pk []) (aCons (eVar 0) (aCons (eN mkLst (aCons (eK (.str "less")) (aCons (eK (.str "below")) (aNil)))) (aNil)))) (aCons (eK (.str "if")) (aNil))))) (e2 subD (eVar 4) (eK (.int 10)))) (gName 6))
    (sRet (eN mkTup (aCons (eVar 6) (aCons (eK (.str "")) (aCons (eN tupleD (aCons (eLc (iArgs range1 (aCons (e2 subD (eVar 4) (eK (.int 9))) (aNil))) [7] (gName 7) (tYesD) (eN (callK gr []) (aCons (eVar 0) (aCons (eVar 1) (aCons (eVar 2) (aCons (e2 subD (eVar 3) (eK (.int 1))) (aNil))))))) (aNil))) (aNil))))))))))))
/-- what is still to come, the names to choose from -/
def Pot (p : Nat) (left : Int) (pv : D) (S : Store) : Prop := S[p]? = some (.dK [(.inr "left", .int left), (.inr "pool", pv)])
section
variable {n p : Nat} {S S' S'' : Store} {left x : Int} {pv : D}
theorem pot_left (h : Pot p left pv S) : ixD (.obj p) (.str "left") S = .ok (.int left) S := by
  simp only [ixD, show S[p]? = _ from h]
  kernel_rfl
theorem pot_pool (h : Pot p left pv S) : ixD (.obj p) (.str "pool") S = .ok pv S := by
  simp only [ixD, show S[p]? = _ from h]
  kernel_rfl
theorem pot_set (h : Pot p left pv S) : setD (.obj p) (.str "left") (.int x) S = some (S.set p (.dK [(.inr "left", .int x), (.inr "pool", pv)])) := by
  simp only [setD, show S[p]? = _ from h]
  kernel_rfl
/-- the hand and the pot alone have changed -/
structure FrX (n p : Nat) (S S' : Store) : Prop where
  le : S.length ≤ S'.length
  fr : ∀ m o, m ≠ n → m ≠ p → S[m]? = some o → S'[m]? = some o
  hd : Hand n S'
theorem FrX.of (h : FrH n S S') : FrX n p S S' := ⟨h.le, fun m o hm _ e => h.fr m o hm e, h.hd⟩
theorem FrX.trans (h : FrX n p S S') (g : FrX n p S' S'') : FrX n p S S'' := ⟨Nat.le_trans h.le g.le, fun m o h1 h2 e => g.fr m o h1 h2 (h.fr m o h1 h2 e), g.hd⟩
theorem FrX.toH (h : FrX n p S S') (o : O) (e : S[p]? = some o) (e' : S'[p]? = some o) : FrH n S S' := ⟨h.le, fun m o' hm e1 => by
  by_cases hp : m = p
  · subst hp; rw [e] at e1; cases e1; exact e'
  · exact h.fr m o' hm hp e1, h.hd⟩
theorem Pot.fr (h : Pot p left pv S) (hp : p ≠ n) (f : FrH n S S') : Pot p left pv S' := f.fr _ _ hp h
theorem FrX.set (h : Hand n S) (hp : n ≠ p) (o : O) : FrX n p S (S.set p o) := by
  refine ⟨by simp, fun m o' _ hm e => by rw [List.getElem?_set_ne (Ne.symm hm)]; exact e, ?_⟩
  obtain ⟨g, s, e⟩ := h
  exact ⟨g, s, by rw [List.getElem?_set_ne (Ne.symm hp)]; exact e⟩
/-- the names to choose from -/
inductive Pool (n p : Nat) (S : Store) : D → List Str → Prop where
  | lst (l : List Str) : Pool n p S (.lst (l.map .str)) l
  | obj {q : Nat} {l : List Str} : q ≠ n → q ≠ p → S[q]? = some (.lst (l.map .str)) → Pool n p S (.obj q) l
theorem Pool.fr {l : List Str} (h : Pool n p S pv l) (f : FrX n p S S') : Pool n p S' pv l := by
  cases h with
  | lst => exact .lst _
  | obj h1 h2 e => exact .obj h1 h2 (f.fr _ _ h1 h2 e)
theorem Pool.src {l : List Str} (h : Pool n p S pv l) : Src n S pv (l.map .str) := by
  cases h with
  | lst => exact .lst _
  | obj h1 h2 e => exact .obj h1 e
theorem Pool.add {l : List Str} (h : Pool n p S pv l) {a : List D} (hz : a.length + l.length ≤ sizeLine) : addD (.lst a) pv S = .ok (.lst (a ++ l.map .str)) S := by
  cases h with
  | lst => exact add_lst (by simpa using hz)
  | obj h1 h2 e => simp [addD, asL, e, hz]
theorem gsub_eq {mo mi : ED} {o i v : D} {env : EnvD} (ho : mo env S = .ok o S) (hi : mi env S = .ok i S) (h : setD o i v S = some S') : gSub mo mi v env S = .nx env S' := by simp [gSub, ho, hi, h]
end
theorem cutL_mem {α : Type} {l : List α} {lo hi : Option Int} {x : α} (h : x ∈ cutL l lo hi) : x ∈ l := List.mem_of_mem_drop (List.mem_of_mem_take h)
theorem cutL_len {α : Type} {l : List α} {lo hi : Option Int} : (cutL l lo hi).length ≤ l.length := by
  unfold cutL
  rw [List.length_take, List.length_drop]; omega
def GrownOk (gr : FN) (level : Nat) : Prop := ∀ (n p : Nat) (S : Store) (left : Int) (pv : D) (pool scope : List Str), Hand n S → n ≠ p → Pot p left pv S → Pool n p S pv pool → pool ≠ [] → pool.length ≤ 500 → (∀ s ∈ pool, NameOk s) →
  (∀ s ∈ scope, NameOk s) → scope.length + level ≤ 200 → (gr [.obj n, .obj p, .lst (scope.map .str), .int level] S).sat fun d S' => ∃ t : Tm, d = t.d ∧ Good t ∧ t.dep ≤ level + 1 ∧ FrX n p S S' ∧ Pot p (left - t.size) pv S' ∧
    (left ≤ 4 → t.size = 1) ∧ (5 ≤ left → 3 - 4 * (level : Int) ≤ left - t.size)
theorem kids {gr : FN} {L : Nat} (hg : GrownOk gr L) {n p : Nat} {S : Store} {left : Int} {pv : D} {pool scope : List Str} (hS : Hand n S) (hnp : n ≠ p) (hpot : Pot p left pv S) (hpool : Pool n p S pv pool) (h0 : pool ≠ []) (h1 : pool.length ≤ 500) (hn : ∀ s ∈ pool, NameOk s)
    (hs : ∀ s ∈ scope, NameOk s) (hl : scope.length + L ≤ 200) (hleft : 4 ≤ left) {m : Nat} (hm : m ≤ 5) {env : EnvD} {i : Nat} (hi : 4 ≤ i) (e0 : env[0]? = some (some (.obj n))) (e1 : env[1]? = some (some (.obj p))) (e2' : env[2]? = some (some (.lst (scope.map .str)))) (e3 : env[3]? = some (some (.int ((L + 1 : Nat) : Int))))
    {Q : List D → Store → Prop} (hQ : ∀ ts S', ts.length = m → (∀ t ∈ ts, Good t) → Tm.deps ts ≤ L + 1 → FrX n p S S' → Pot p (left - Tm.sizes ts) pv S' → 3 - 4 * ((L + 1 : Nat) : Int) ≤ left - Tm.sizes ts → Q (Tm.ds ts) S') :
    lcSat (gName i) tYesD (eN (callK gr []) (aCons (eVar 0) (aCons (eVar 1) (aCons (eVar 2) (aCons (e2 subD (eVar 3) (eK (.int 1))) (aNil)))))) env (rangeD 0 m) S Q := by
  refine lc_acc (acc := []) (fun acc S' => ∃ ts, acc = Tm.ds ts ∧ (∀ t ∈ ts, Good t) ∧ Tm.deps ts ≤ L + 1 ∧ FrX n p S S' ∧ Pot p (left - Tm.sizes ts) pv S' ∧ (ts = [] ∨ 3 - 4 * (L : Int) - ((ts.length : Int) - 1) ≤ left - Tm.sizes ts)) ?_ ?_ ?_
  · exact ⟨[], rfl, by simp, by simp [Tm.deps], ⟨Nat.le_refl _, fun _ _ _ _ e => e, hS⟩, by simpa [Tm.sizes] using hpot, .inl rfl⟩
  · rintro x hx acc S1 ⟨ts, rfl, hgood, hdep, fr, pot, hb⟩
    have g : ∀ j : Nat, j < 4 → (env.set i (some x))[j]? = env[j]? := fun j hj => by rw [List.getElem?_set_ne (by omega)]
    simp only [sat_eN, sat_aCons, sat_aNil, sat_eVar, g 0 (by decide), g 1 (by decide), g 2 (by decide), e0, e1, e2', sat_e2, g 3 (by decide), e3, sat_eK, sub_int, sat_ok, callK_eq, List.append_nil]
    rw [show (((L + 1 : Nat) : Int) - 1) = (L : Int) by omega]
    refine sat_mono (hg n p S1 _ pv pool scope fr.hd hnp pot (hpool.fr fr) h0 h1 hn hs hl) fun d S2 q => ?_
    obtain ⟨t, rfl, g1, g2, fr2, pot2, b1, b2⟩ := q
    have es : Tm.sizes (ts ++ [t]) = Tm.sizes ts + t.size := by rw [Tm.sizes_app]; simp [Tm.sizes]
    refine ⟨ts ++ [t], by simp [Tm.ds_map], ?_, ?_, fr.trans fr2, ?_, .inr ?_⟩
    · intro t' ht
      rcases List.mem_append.mp ht with h | h
      · exact hgood t' h
      · simp only [List.mem_singleton] at h; rw [h]; exact g1
    · rw [Tm.deps_le] at hdep ⊢
      intro t' ht
      rcases List.mem_append.mp ht with h | h
      · exact hdep t' h
      · simp only [List.mem_singleton] at h; rw [h]; exact g2
    · rw [es]
      have : left - ((Tm.sizes ts + t.size : Nat) : Int) = left - Tm.sizes ts - t.size := by omega
      rw [this]; exact pot2
    · rw [es]
      have e : left - ((Tm.sizes ts + t.size : Nat) : Int) = left - Tm.sizes ts - t.size := by omega
      rw [e]
      simp only [List.length_append, List.length_cons, List.length_nil]
      have b1 := b1
      have b2 := b2
      by_cases h5 : 5 ≤ left - (Tm.sizes ts : Int)
      · have := b2 h5; omega
      · have := b1 (by omega)
        rcases hb with rfl | hb
        · simp [Tm.sizes] at h5 ⊢; omega
        · omega
  · rintro ys S1 hlen ⟨ts, e, hgood, hdep, fr, pot, hb⟩
    simp only [List.nil_append] at e
    subst e
    have hl2 : ts.length = m := by rw [Tm.ds_len] at hlen; simpa using hlen
    refine hQ ts S1 hl2 hgood hdep fr pot ?_
    rcases hb with rfl | hb
    · simp [Tm.sizes]; omega
    · omega
end L3
set_option Elab.async false
set_option linter.all false
set_option maxRecDepth 100000
set_option maxHeartbeats 4000000
/-! L3W: drawn programs, the law. -/
namespace L3
open PySem L2
local macro_rules | `(tactic| open_k) => `(tactic| simp only [ssat_seq, ssat_asg, ssat_sRet, ssat_sExpr, ssat_if, ssat_skip, ssat_par, ssat_nx, ssat_ret, ssat_for, sat_e2, sat_e1, sat_eN, sat_aCons, sat_aNil, sat_eVar, sat_eK, sat_tOfE, sat_tTruth, sat_tNot, sat_tAnd, sat_tOr, sat_eIf, sat_eBM, sat_iSeq, sat_iArgs, sat_eAnd, sat_eOr, sat_eNot, sat_eChain, sat_eSl, sat_pNo, sat_pYes, sat_eLc, sat_eKw, sat_mkTup, sat_mkLst, sat_mkObj, sat_ok, callK_eq, List.append_nil, List.map_cons, List.map_nil, List.length_cons, List.length_nil, List.replicate, List.getElem?_cons_succ, List.getElem?_cons_zero, List.cons_append, List.nil_append, List.set_cons_succ, List.set_cons_zero, gName_eq, gTup_tup, gNames_cons, gNames_nil, Nat.zero_add, Nat.reduceAdd, Nat.reduceSub, sz0, sz1, sz2, sz3, sz4, sz5, sz6, sz7, sz8, sz10, sz17, true_and, add_int, sub_int, neg_int, lt_int, le_int, gt_int, ge_int, eq_int, ne_int, blD_bl, truthD_bl, itemsD_lst, itemsD_tup, wipeD, eq_strs, ne_strs, sl_tup, sl_lst, if_true, if_false, Bool.false_eq_true, sat_range1, sat_range2, tuple_lst, tuple_tup, len_tup, len_lst, len_scr, D.int.injEq, exists_eq_left', mt_str])
theorem grown_ok {tk pk dg gr : FN} (ht : IsTake tk) (hp : IsPick2 pk) (hd : IsDigit dg) {L : Nat} (ih : L ≠ 0 → GrownOk gr (L - 1)) : GrownOk (run 4 10 (mGrown tk pk dg gr)) L := by
  intro n p S left pv pool scope hS hnp hpot hpool h0 h1 hn hs hl
  rw [sat_run]
  refine ⟨rfl, ?_⟩
  unfold mGrown
  have pl : p < S.length := (List.getElem?_eq_some_iff.mp hpot).1
  refine seq_rule (fun e S1 => e = [some (D.obj n), some (D.obj p), some (D.lst (List.map D.str scope)), some (D.int (L : Int)), none, none, none, none, none, none] ∧ FrX n p S S1 ∧ Pot p (left - 1) pv S1) ?_ ?_
  · open_k
    rw [pot_left hpot]
    open_k
    rw [gsub_eq (o := .obj p) (i := .str "left") (by simp [eVar]) (by simp [eK]) (pot_set hpot)]
    open_k
    exact ⟨FrX.set hS hnp _, by show (S.set p _)[p]? = _; rw [List.getElem?_set_self pl]⟩
  rintro e S1 ⟨rfl, fr1, pot1⟩
  have pool1 := hpool.fr fr1
  refine seq_rule (fun e S2 => e = [some (D.obj n), some (D.obj p), some (D.lst (List.map D.str scope)), some (D.int (L : Int)), none, none, none, none, none, none] ∧ S2 = S1 ∧ L ≠ 0 ∧ 4 ≤ left - 1) ?_ ?_
  · have leaf : (sSeq (sIf (tOfE (e2 ltD (eN (callK tk []) (aCons (eVar 0) (aCons (eK (.int 5)) (aNil)))) (eK (.int 3)))) (sRet (eN mkTup (aCons (eK (.str "name")) (aCons (eN (callK pk []) (aCons (eVar 0) (aCons (e2 addD (e2 addD (eSl (eVar 2) (pYes (e1 negD (eK (.int 2)))) (pNo)) (eSl (eVar 2) (pYes (e1 negD (eK (.int 2)))) (pNo))) (e2 ixD (eVar 1) (eK (.str "pool")))) (aNil)))) (aCons (eN mkTup (aNil)) (aNil)))))) (sSkip))
    (sRet (eN mkTup (aCons (eK (.str "num")) (aCons (eN (callK dg []) (aCons (eVar 0) (aNil))) (aCons (eN mkTup (aNil)) (aNil)))))) [some (D.obj n), some (D.obj p), some (D.lst (List.map D.str scope)), some (D.int (L : Int)), none, none, none, none, none, none] S1).sat (fun _ _ => False) (fun d S' => ∃ t : Tm, d = t.d ∧ Good t ∧ t.size = 1 ∧ t.dep = 1 ∧ FrH n S1 S') (fun _ _ => False) (fun _ _ => False) := by
      open_k
      refine sat_mono (ht n S1 5 fr1.hd (by decide) (by decide)) fun d1 S2 ⟨⟨f, e1, f0, f1⟩, fr2⟩ => ?_
      subst e1
      open_k
      by_cases h3 : f < 3
      · simp only [h3, decide_true, if_true]
        have ec : cutL (scope.map D.str) (some (-2)) none = (cutL scope (some (-2)) none).map D.str := by unfold cutL; simp
        have lc : (cutL scope (some (-2)) none).length ≤ 200 := Nat.le_trans cutL_len (by omega)
        rw [ec, add_lst (small (by simp; omega)), sat_ok, pot_pool (pot1.fr (Ne.symm hnp) fr2), sat_ok]
        rw [← List.map_append, (pool1.fr (.of fr2)).add (small (by simp; omega)), sat_ok, ← List.map_append]
        refine sat_mono (hp n S2 _ _ fr2.hd (.lst _) (by simp [h0]) (by simp; omega)) fun d2 S3 ⟨hb, fr3⟩ => ?_
        simp only [List.mem_map] at hb
        obtain ⟨z, hz, rfl⟩ := hb
        have hz : NameOk z := by
          rcases List.mem_append.mp hz with h | h
          · rcases List.mem_append.mp h with h | h <;> exact hs z (cutL_mem h)
          · exact hn z h
        exact ⟨.nam z, rfl, .nam hz, rfl, rfl, fr2.trans fr3⟩
      · simp only [h3, decide_false, Bool.false_eq_true, if_false]
        refine sat_mono (hd n S2 fr2.hd) fun d2 S3 ⟨⟨i, e2, i0, i1⟩, fr3⟩ => ?_
        subst e2
        exact ⟨.num i, rfl, .num i0 i1, rfl, rfl, fr2.trans fr3⟩
    have fin : ∀ d S', (∃ t : Tm, d = t.d ∧ Good t ∧ t.size = 1 ∧ t.dep = 1 ∧ FrH n S1 S') → ∃ t : Tm, d = t.d ∧ Good t ∧ t.dep ≤ L + 1 ∧ FrX n p S S' ∧ Pot p (left - t.size) pv S' ∧ (left ≤ 4 → t.size = 1) ∧ (5 ≤ left → 3 - 4 * (L : Int) ≤ left - t.size) := by
      rintro d S' ⟨t, e, g, s1, d1, fr⟩
      refine ⟨t, e, g, by omega, fr1.trans (.of fr), ?_, fun _ => s1, fun _ => by rw [s1]; omega⟩
      rw [s1]; exact pot1.fr (Ne.symm hnp) fr
    rw [ssat_if, sat_tOr]
    simp only [sat_tOfE, sat_e2, sat_eVar, sat_eK, List.getElem?_cons_succ, List.getElem?_cons_zero, eq_int, sat_ok, blD_bl]
    by_cases hL : (L : Int) = 0
    · rw [if_pos (decide_eq_true hL)]
      exact ssat_mono leaf (fun _ _ h => h.elim) fin (fun _ _ h => h.elim) (fun _ _ h => h.elim)
    · simp only [hL, decide_false, Bool.false_eq_true, if_false, pot_left pot1, sat_ok, lt_int, blD_bl]
      by_cases h4 : left - 1 < 4
      · rw [if_pos (decide_eq_true h4)]
        exact ssat_mono leaf (fun _ _ h => h.elim) fin (fun _ _ h => h.elim) (fun _ _ h => h.elim)
      · simp only [h4, decide_false, Bool.false_eq_true, if_false, ssat_skip]
        exact ⟨trivial, trivial, by omega, by omega⟩
  rintro e S2 ⟨rfl, rfl, hL, h4⟩
  obtain ⟨L, rfl⟩ : ∃ L', L = L' + 1 := ⟨L - 1, by omega⟩
  have ih := ih (by omega)
  rw [Nat.add_sub_cancel] at ih
  refine seq_rule (fun e S3 => ∃ (lot : Int) (m : Nat), e = [some (D.obj n), some (D.obj p), some (D.lst (List.map D.str scope)), some (D.int ((L + 1 : Nat) : Int)), some (.int lot), some (.int (m : Int)), none, none, none, none] ∧ 0 ≤ lot ∧ lot < 13 ∧ 1 ≤ m ∧ m ≤ 4 ∧ FrX n p S S3 ∧ Pot p (left - 1) pv S3) ?_ ?_
  · open_k
    refine sat_mono (ht n S2 13 fr1.hd (by decide) (by decide)) fun d1 S3 ⟨⟨f, e1, f0, f1⟩, fr2⟩ => ?_
    subst e1
    refine sat_mono (hp n S3 _ _ fr2.hd (.lst _) (by simp) (by simp)) fun d2 S4 ⟨hb, fr3⟩ => ?_
    have : ∃ m : Nat, d2 = .int m ∧ 1 ≤ m ∧ m ≤ 4 := by
      simp at hb
      rcases hb with rfl | rfl | rfl | rfl
      · exact ⟨2, rfl, by decide, by decide⟩
      · exact ⟨3, rfl, by decide, by decide⟩
      · exact ⟨1, rfl, by decide, by decide⟩
      · exact ⟨4, rfl, by decide, by decide⟩
    obtain ⟨m, rfl, m1, m4⟩ := this
    exact ⟨f, m, rfl, f0, f1, m1, m4, fr1.trans (.of (fr2.trans fr3)), pot1.fr (Ne.symm hnp) (fr2.trans fr3)⟩
  rintro e S3 ⟨lot, m, rfl, l0, l1, m1, m4, fr3, pot3⟩
  have pool3 := hpool.fr fr3
  have made : ∀ (w : Str) (ts : List Tm) (S' : Store) (f mo : Nat), shape w = some (f, mo, false) → f ≤ ts.length → ts.length ≤ mo → (∀ t ∈ ts, Good t) → Tm.deps ts ≤ L + 1 → FrX n p S3 S' → Pot p (left - 1 - Tm.sizes ts) pv S' → 3 - 4 * ((L + 1 : Nat) : Int) ≤ left - 1 - Tm.sizes ts →
      ∃ t : Tm, D.tup [.str w, .str "", .tup (Tm.ds ts)] = t.d ∧ Good t ∧ t.dep ≤ L + 1 + 1 ∧ FrX n p S S' ∧ Pot p (left - t.size) pv S' ∧ (left ≤ 4 → t.size = 1) ∧ (5 ≤ left → 3 - 4 * ((L + 1 : Nat) : Int) ≤ left - t.size) := by
    intro w ts S' f mo hw hf hmo hg hdp fr pot b
    have e : left - ((Tm.nd w "" ts).size : Int) = left - 1 - Tm.sizes ts := by simp only [Tm.size]; omega
    refine ⟨.nd w "" ts, rfl, .nd hw hf hmo (fun h => by cases h) (fun _ => rfl) hg, by simp only [Tm.dep]; omega, fr3.trans fr, by rw [e]; exact pot, fun h => by omega, fun _ => by rw [e]; exact b⟩
  have pickW : ∀ (l : List Str) (i : Int) (S : Store), 0 ≤ i → i < l.length → ∃ w ∈ l, ixD (.lst (l.map .str)) (.int i) S = .ok (.str w) S := by
    intro l i S h0 h1
    obtain ⟨d, hd, e⟩ := (Src.lst (n := n) (S := S) (l.map .str)).ix h0 (by simpa using h1)
    simp only [List.mem_map] at hd
    obtain ⟨w, hw, rfl⟩ := hd
    exact ⟨w, hw, e⟩
  rw [ssat_seq, ssat_if]
  simp only [sat_tOfE, sat_e2, sat_eVar, sat_eK, List.getElem?_cons_succ, List.getElem?_cons_zero, lt_int, sat_ok, blD_bl]
  by_cases c4 : lot < 4
  · rw [if_pos (decide_eq_true c4)]
    obtain ⟨w, hw, e⟩ := pickW ["plus", "times", "most", "plus"] lot S3 l0 (by simpa using c4)
    have hsh : shape w = some (1, 6, false) := by
      simp at hw; rcases hw with rfl | rfl | rfl | rfl <;> decide +kernel
    simp only [List.map_cons, List.map_nil] at e
    open_k
    rw [e, sat_ok]
    refine ⟨by simp [okRng]; omega, by rw [rangeD_len]; exact small (by omega), ?_⟩
    refine kids ih fr3.hd hnp pot3 pool3 h0 h1 hn hs (by omega) (by omega) (by omega) (by decide) rfl rfl rfl rfl fun ts S' hlen hg hdp fr pot b => ?_
    exact made w ts S' _ _ hsh (by omega) (by omega) hg hdp fr pot b
  rw [if_neg (by simpa using c4), ssat_skip, ssat_seq, ssat_if]
  simp only [sat_tOfE, sat_e2, sat_eVar, sat_eK, List.getElem?_cons_succ, List.getElem?_cons_zero, lt_int, sat_ok, blD_bl]
  by_cases c7 : lot < 7
  · rw [if_pos (decide_eq_true c7)]
    open_k
    refine sat_mono (hp n S3 _ _ fr3.hd (.lst _) (by simp) (by simp)) fun d2 S4 ⟨hb, fr4⟩ => ?_
    have : ∃ m : Nat, d2 = .int m ∧ m ≤ 5 := by
      simp at hb
      rcases hb with rfl | rfl | rfl | rfl | rfl
      · exact ⟨m, rfl, by omega⟩
      · exact ⟨0, rfl, by decide⟩
      · exact ⟨3, rfl, by decide⟩
      · exact ⟨4, rfl, by decide⟩
      · exact ⟨5, rfl, by decide⟩
    obtain ⟨m, rfl, m5⟩ := this
    open_k
    have fr5 := fr3.trans (.of fr4)
    refine ⟨by simp [okRng]; omega, by rw [rangeD_len]; exact small (by omega), ?_⟩
    refine kids ih fr4.hd hnp (pot3.fr (Ne.symm hnp) fr4) (hpool.fr fr5) h0 h1 hn hs (by omega) (by omega) (by omega) (by decide) rfl rfl rfl rfl fun ts S' hlen hg hdp fr pot b => ?_
    exact made "row" ts S' 0 6 (by decide +kernel) (by omega) (by omega) hg hdp ((FrX.of fr4).trans fr) pot b
  rw [if_neg (by simpa using c7), ssat_skip, ssat_seq, ssat_if]
  simp only [sat_tOfE, sat_e2, sat_eVar, sat_eK, List.getElem?_cons_succ, List.getElem?_cons_zero, lt_int, sat_ok, blD_bl]
  by_cases c10 : lot < 10
  · rw [if_pos (decide_eq_true c10)]
    obtain ⟨w, hw, e⟩ := pickW ["let", "each", "let"] (lot - 7) S3 (by omega) (by simp; omega)
    have hsh : shape w = some (2, 2, true) := by
      simp at hw; rcases hw with rfl | rfl | rfl <;> decide +kernel
    simp only [List.map_cons, List.map_nil] at e
    open_k
    rw [e, sat_ok]
    rw [pot_pool pot3, sat_ok]
    refine sat_mono (hp n S3 _ _ fr3.hd pool3.src (by simp [h0]) (by simp; omega)) fun d2 S4 ⟨hb, fr4⟩ => ?_
    simp only [List.mem_map] at hb
    obtain ⟨z, hz, rfl⟩ := hb
    have fr5 := fr3.trans (.of fr4)
    have el : (((L + 1 : Nat) : Int) - 1) = (L : Int) := by omega
    rw [el]
    refine sat_mono (ih n p S4 _ pv pool scope fr4.hd hnp (pot3.fr (Ne.symm hnp) fr4) (hpool.fr fr5) h0 h1 hn hs (by omega)) fun d3 S5 q => ?_
    obtain ⟨t1, rfl, g1, dp1, fr6, pot6, b1, b2⟩ := q
    rw [show ([D.str z] : List D) = [z].map D.str from rfl, add_lst (small (by simp; omega)), sat_ok, ← List.map_append]
    refine sat_mono (ih n p S5 _ pv pool (scope ++ [z]) fr6.hd hnp pot6 (hpool.fr (fr5.trans fr6)) h0 h1 hn (by
      intro s h
      rcases List.mem_append.mp h with h | h
      · exact hs s h
      · simp only [List.mem_singleton] at h; rw [h]; exact hn z hz) (by simp; omega)) fun d4 S6 q => ?_
    obtain ⟨t2, rfl, g2, dp2, fr7, pot7, b3, b4⟩ := q
    have es : left - ((Tm.nd w z [t1, t2]).size : Int) = left - 1 - t1.size - t2.size := by simp only [Tm.size, Tm.sizes]; omega
    refine ⟨.nd w z [t1, t2], rfl, .nd hsh (by simp) (by simp) (fun _ => hn z hz) (fun h => by cases h) (by simp [g1, g2]), by simp only [Tm.dep, Tm.deps]; omega, (fr5.trans fr6).trans fr7, by rw [es]; exact pot7, fun h => by omega, fun _ => ?_⟩
    rw [es]
    by_cases h5 : 5 ≤ left - 1
    · have := b2 h5
      by_cases h6 : 5 ≤ left - 1 - (t1.size : Int)
      · have := b4 h6; omega
      · have := b3 (by omega); omega
    · have := b1 (by omega)
      have := b3 (by omega)
      omega
  rw [if_neg (by simpa using c10), ssat_skip]
  open_k
  refine sat_mono (hp n S3 _ _ fr3.hd (.lst _) (by simp) (by simp)) fun d2 S4 ⟨hb, fr4⟩ => ?_
  have fr5 := fr3.trans (.of fr4)
  have : ∃ w0 : Str, d2 = .str w0 ∧ (w0 = "less" ∨ w0 = "below") := by
    simp at hb
    rcases hb with rfl | rfl
    · exact ⟨_, rfl, .inl rfl⟩
    · exact ⟨_, rfl, .inr rfl⟩
  obtain ⟨w0, rfl, hw0⟩ := this
  obtain ⟨w, k, ek, e, hsh⟩ : ∃ (w : Str) (k : Nat), lot - 9 = k ∧ ixD (.lst [.str "say", .str w0, .str "if"]) (.int (lot - 10)) S4 = .ok (.str w) S4 ∧ shape w = some (k, k, false) ∧ k ≤ 3 := by
    have : lot = 10 ∨ lot = 11 ∨ lot = 12 := by omega
    rcases this with rfl | rfl | rfl
    · exact ⟨"say", 1, rfl, rfl, by decide +kernel, by decide⟩
    · refine ⟨w0, 2, rfl, rfl, ?_, by decide⟩
      rcases hw0 with rfl | rfl <;> decide +kernel
    · exact ⟨"if", 3, rfl, rfl, by decide +kernel, by decide⟩
  rw [e, sat_ok]
  rw [ek]
  refine ⟨by simp [okRng]; omega, by rw [rangeD_len]; exact small (by omega), ?_⟩
  refine kids ih fr4.hd hnp (pot3.fr (Ne.symm hnp) fr4) (hpool.fr fr5) h0 h1 hn hs (by omega) (by omega) (by omega) (by decide) rfl rfl rfl rfl fun ts S' hlen hg hdp fr pot b => ?_
  exact made w ts S' k k hsh.1 (by omega) (by omega) hg hdp ((FrX.of fr4).trans fr) pot b
theorem grown_all {tk pk dg : FN} {gr : Nat → FN} (ht : IsTake tk) (hp : IsPick2 pk) (hd : IsDigit dg) (hg : ∀ f, gr (f + 1) = run 4 10 (mGrown tk pk dg (gr f))) : ∀ L f, L < f → GrownOk (gr f) L
  | L, 0, h => absurd h (by omega)
  | 0, f + 1, _ => by rw [hg]; exact grown_ok ht hp hd fun h => absurd rfl h
  | L + 1, f + 1, h => by rw [hg]; exact grown_ok ht hp hd fun _ => grown_all ht hp hd hg L f (by omega)
end L3
set_option Elab.async false
set_option linter.all false
set_option maxRecDepth 100000
set_option maxHeartbeats 4000000
/-! L3X: a drawn program, handed out. -/
namespace L3
open PySem L2
local macro_rules | `(tactic| open_k) => `(tactic| simp only [ssat_seq, ssat_asg, ssat_sRet, ssat_sExpr, ssat_if, ssat_skip, ssat_par, ssat_nx, ssat_ret, ssat_for, sat_e2, sat_e1, sat_eN, sat_aCons, sat_aNil, sat_eVar, sat_eK, sat_tOfE, sat_tTruth, sat_tNot, sat_tAnd, sat_tOr, sat_eIf, sat_eBM, sat_iSeq, sat_iArgs, sat_eAnd, sat_eOr, sat_eNot, sat_eChain, sat_eSl, sat_pNo, sat_pYes, sat_eLc, sat_eKw, sat_mkTup, sat_mkLst, sat_mkObj, sat_ok, callK_eq, List.append_nil, List.map_cons, List.map_nil, List.length_cons, List.length_nil, List.replicate, List.getElem?_cons_succ, List.getElem?_cons_zero, List.cons_append, List.nil_append, List.set_cons_succ, List.set_cons_zero, gName_eq, gTup_tup, gNames_cons, gNames_nil, Nat.zero_add, Nat.reduceAdd, Nat.reduceSub, sz0, sz1, sz2, sz3, sz4, sz5, sz6, sz7, sz8, sz10, sz17, true_and, add_int, sub_int, neg_int, lt_int, le_int, gt_int, ge_int, eq_int, ne_int, blD_bl, truthD_bl, itemsD_lst, itemsD_tup, wipeD, eq_strs, ne_strs, sl_tup, sl_lst, if_true, if_false, Bool.false_eq_true, sat_range1, sat_range2, tuple_lst, tuple_tup, len_tup, len_lst, len_scr, D.int.injEq, exists_eq_left', mt_str])
def mCode (tk cl gr : FN) : SD :=
    sSeq (sAsg (eN (callK cl []) (aCons (eVar 0) (aCons (e2 addD (eK (.int 1)) (eN (callK tk []) (aCons (eVar 0) (aCons (eK (.int 5)) (aNil))))) (aNil)))) (gName 2))
    (sRet (eN (callK gr []) (aCons (eVar 0) (aCons (eDct [(eK (.str "left"), eVar 1), (eK (.str "pool"), eVar 2)]) (aCons (eN mkLst (aNil)) (aCons (e2 addD (eK (.int 3)) (eN (callK tk []) (aCons (eVar 0) (aCons (eK (.int 5)) (aNil))))) (aNil)))))))
def IsCalled (cl : FN) : Prop := ∀ (n : Nat) (S : Store) (many : Nat), Hand n S → many ≤ 1000 → (cl [.obj n, .int many] S).sat fun d S' => FrH n S S' ∧ ∃ l : List Str, l.length = many ∧ (∀ s ∈ l, NameOk s) ∧ PoolV S S' d l
theorem isCalled {tk pk : FN} (ht : IsTake tk) (hp : IsPick2 pk) : IsCalled (run 2 13 (mCalled tk pk)) := fun n S many h hm => called_ok ht hp h hm
theorem code_any {tk cl gr : FN} (ht : IsTake tk) (hc : IsCalled cl) (hg : ∀ L, L ≤ 7 → GrownOk gr L) {n : Nat} {S : Store} (hS : Hand n S) {left : Nat} : (run 2 3 (mCode tk cl gr) [.obj n, .int left] S).sat fun d S' => ∃ t : Tm, d = t.d ∧ Good t ∧ t.dep ≤ 8 ∧ t.size ≤ left + 25 ∧ FrH n S S' := by
  rw [sat_run]
  refine ⟨rfl, ?_⟩
  unfold mCode
  refine seq_rule (fun e S1 => ∃ (pv : D) (l : List Str), e = [some (.obj n), some (.int left), some pv] ∧ FrH n S S1 ∧ 1 ≤ l.length ∧ l.length ≤ 5 ∧ (∀ s ∈ l, NameOk s) ∧ PoolV S S1 pv l) ?_ ?_
  · open_k
    refine sat_mono (ht n S 5 hS (by decide) (by decide)) fun d1 S1 ⟨⟨f, e1, f0, f1⟩, fr1⟩ => ?_
    subst e1
    open_k
    have e : (1 + f) = ((1 + f.toNat : Nat) : Int) := by omega
    rw [e]
    refine sat_mono (hc n S1 _ fr1.hd (by omega)) fun d2 S2 ⟨fr2, l, hl, hn, pv⟩ => ?_
    refine ⟨d2, l, rfl, fr1.trans fr2, by omega, by omega, hn, ?_⟩
    rcases pv with h | ⟨q, h1, h2, h3⟩
    · exact .inl h
    · exact .inr ⟨q, Nat.le_trans fr1.le h1, h2, h3⟩
  rintro e S1 ⟨pv, l, rfl, fr1, l1, l5, hn, hpv⟩
  open_k
  have ed : (eDct [(eK (D.str "left"), eVar 1), (eK (D.str "pool"), eVar 2)] [some (D.obj n), some (D.int left), some pv] S1) = .ok (.obj S1.length) (S1 ++ [.dK [(.inr "left", .int left), (.inr "pool", pv)]]) := by
    simp [eDct, pairsD, R.nox, R.bind, eK, eVar]
    kernel_rfl
  rw [ed, sat_ok]
  have fr2 := fr1.mk2 (.dK [(.inr "left", .int left), (.inr "pool", pv)])
  have pot2 : Pot S1.length left pv (S1 ++ [.dK [(.inr "left", .int left), (.inr "pool", pv)]]) := by simp [Pot]
  have nl : n < S1.length := fr1.hd.lt
  have pool2 : Pool n S1.length (S1 ++ [.dK [(.inr "left", .int left), (.inr "pool", pv)]]) pv l := by
    rcases hpv with h | ⟨q, h1, rfl, h3⟩
    · rw [h]; exact .lst l
    · have hq := (List.getElem?_eq_some_iff.mp h3).1
      have := hS.lt
      exact .obj (by omega) (by omega) (by rw [List.getElem?_append_left hq]; exact h3)
  refine sat_mono (ht n _ 5 fr2.hd (by decide) (by decide)) fun d2 S2 ⟨⟨f, e2, f0, f1⟩, fr3⟩ => ?_
  subst e2
  open_k
  have e : (3 + f) = ((3 + f.toNat : Nat) : Int) := by omega
  rw [e]
  have l0 : l ≠ [] := by intro h; rw [h] at l1; simp at l1
  refine sat_mono (hg (3 + f.toNat) (by omega) n S1.length S2 left pv l [] fr3.hd (by omega) (pot2.fr (by omega) fr3) (pool2.fr (.of fr3)) l0 (by omega) hn (by simp) (by simp; omega)) fun d3 S3 q => ?_
  obtain ⟨t, rfl, g1, dp, fr4, pot4, b1, b2⟩ := q
  have hsz : t.size ≤ left + 25 := by
    by_cases h : (5 : Int) ≤ left
    · have := b2 h; omega
    · have := b1 (by omega); omega
  refine ⟨t, rfl, g1, by omega, hsz, ?_⟩
  have fx : FrH n S S2 := fr2.trans fr3
  exact ⟨Nat.le_trans fx.le fr4.le, fun m o hm e => fr4.fr m o hm (by have := (List.getElem?_eq_some_iff.mp e).1; have := fr1.le; omega) (fx.fr m o hm e), fr4.hd⟩
theorem code_ok {tk cl gr : FN} (ht : IsTake tk) (hc : IsCalled cl) (hg : ∀ L, L ≤ 7 → GrownOk gr L) {n : Nat} {S : Store} (hS : Hand n S) {left : Nat} (h5 : 5 ≤ left) : (run 2 3 (mCode tk cl gr) [.obj n, .int left] S).sat fun d S' => ∃ t : Tm, d = t.d ∧ Good t ∧ t.dep ≤ 8 ∧ t.size ≤ left + 25 ∧ FrH n S S' := code_any ht hc hg hS
end L3
set_option Elab.async false
set_option linter.all false
set_option maxRecDepth 100000
set_option maxHeartbeats 4000000
/-! L3Y: any thing, what a program is. -/
namespace L3
open PySem L2
local macro_rules | `(tactic| open_k) => `(tactic| simp only [ssat_seq, ssat_asg, ssat_sRet, ssat_sExpr, ssat_if, ssat_skip, ssat_par, ssat_nx, ssat_ret, ssat_for, sat_e2, sat_e1, sat_eN, sat_aCons, sat_aNil, sat_eVar, sat_eK, sat_tOfE, sat_tTruth, sat_tNot, sat_tAnd, sat_tOr, sat_eIf, sat_eBM, sat_iSeq, sat_iArgs, sat_eAnd, sat_eOr, sat_eNot, sat_eChain, sat_eSl, sat_pNo, sat_pYes, sat_eLc, sat_eKw, sat_mkTup, sat_mkLst, sat_mkObj, sat_ok, callK_eq, List.append_nil, List.map_cons, List.map_nil, List.length_cons, List.length_nil, List.replicate, List.getElem?_cons_succ, List.getElem?_cons_zero, List.cons_append, List.nil_append, List.set_cons_succ, List.set_cons_zero, gName_eq, gTup_tup, gNames_cons, gNames_nil, Nat.zero_add, Nat.reduceAdd, Nat.reduceSub, sz0, sz1, sz2, sz3, sz4, sz5, sz6, sz7, sz8, sz10, sz17, true_and, add_int, sub_int, neg_int, lt_int, le_int, gt_int, ge_int, eq_int, ne_int, blD_bl, truthD_bl, itemsD_lst, itemsD_tup, wipeD, eq_strs, ne_strs, sl_tup, sl_lst, if_true, if_false, Bool.false_eq_true, sat_range1, sat_range2, tuple_lst, tuple_tup, len_tup, len_lst, len_scr, D.int.injEq, exists_eq_left', mt_str])
/-- signs that stand for themselves -/
def asc (s : Str) : Bool := decide (s.length ≤ 9) && s.cps.toList.all fun c => decide (c < 128)
/-- things as the laws hand them out -/
inductive U (B : Nat) : D → Prop where
  | non : U B .non
  | bl (b : Bool) : U B (.bl b)
  | int {i : Int} : -10000 ≤ i → i ≤ 10000 → U B (.int i)
  | str {s : Str} : asc s = true → U B (.str s)
  | tup {l : List D} : l.length ≤ B → (∀ x ∈ l, U B x) → U B (.tup l)
  | lst {l : List D} : l.length ≤ B → (∀ x ∈ l, U B x) → U B (.lst l)
  | dic : U B (.dic [] [])
def isNm : D → Bool
  | .str s => decide (1 ≤ s.length) && decide (s.length ≤ 8) && !decide (s ∈ WORDS) && s.cps.toList.all isLet
  | _ => false
def isNum : D → Bool
  | .int i => decide (0 ≤ i) && decide (i ≤ 9972)
  | _ => false
def isEmp : D → Bool
  | .str s => decide (s = "")
  | _ => false
def fits (w : Str) (m : D) (n : Nat) : Bool := match shape w with
  | some (f, mo, g) => decide (f ≤ n) && decide (n ≤ mo) && (if g = true then isNm m else isEmp m)
  | none => false
/-- a program, so many things deep at most -/
def ok : Nat → D → Bool
  | 0, _ => false
  | k + 1, .tup [.str w, m, .tup ps] =>
    if w = "num" then isNum m && ps.isEmpty
    else if w = "name" then isNm m && ps.isEmpty
    else fits w m ps.length && ps.all (ok k)
  | _ + 1, _ => false
/-- its things -/
def szz : Nat → D → Int
  | 0, _ => 0
  | k + 1, .tup [.str _, _, .tup ps] => 1 + (ps.map (szz k)).sum
  | _ + 1, _ => 0
theorem asc_ok {s : Str} (h : asc s = true) : PyData.strOk s = true := by
  simp only [asc, Bool.and_eq_true, decide_eq_true_eq] at h
  unfold PyData.strOk
  rw [← Array.all_toList, List.all_eq_true]
  intro c hc
  have := List.all_eq_true.mp h.2 c hc
  simp only [decide_eq_true_eq] at this ⊢; omega
theorem asc_len {s : Str} (h : asc s = true) : s.length ≤ 9 := by
  simp only [asc, Bool.and_eq_true, decide_eq_true_eq] at h; exact h.1
theorem name_asc {s : Str} (h : NameOk s) : asc s = true := by
  simp only [asc, Bool.and_eq_true, decide_eq_true_eq]
  refine ⟨by have := h.hi; omega, ?_⟩
  rw [List.all_eq_true]
  intro c hc
  have := List.all_eq_true.mp h.lt c hc
  simp only [isLet, Bool.and_eq_true, decide_eq_true_eq] at this ⊢; omega
theorem words_asc {s : Str} (h : s ∈ WORDS) : asc s = true := by
  have a : WORDS.all asc = true := by decide +kernel
  exact List.all_eq_true.mp a s h
theorem shape_word {w : Str} {f mo : Nat} {g : Bool} (h : shape w = some (f, mo, g)) : w ∈ WORDS ∧ w ≠ "num" ∧ w ≠ "name" := by
  unfold shape at h
  split at h
  · rename_i q; rcases q with rfl | rfl | rfl <;> decide +kernel
  split at h
  · rename_i q; subst q; decide +kernel
  split at h
  · rename_i q; subst q; decide +kernel
  split at h
  · rename_i q; rcases q with rfl | rfl <;> decide +kernel
  split at h
  · rename_i q; subst q; decide +kernel
  split at h
  · rename_i q; rcases q with rfl | rfl <;> decide +kernel
  cases h
theorem shape_most {w : Str} {f mo : Nat} {g : Bool} (h : shape w = some (f, mo, g)) : mo ≤ 6 := by
  unfold shape at h
  repeat' split at h
  all_goals first | (cases h; done) | (cases h; decide)
theorem Good.u : ∀ t : Tm, Good t → U 6 t.d
  | _, .num h0 h1 => by
    simp only [Tm.d]
    refine .tup (by simp) fun x hx => ?_
    simp only [List.mem_cons, List.not_mem_nil, or_false] at hx
    rcases hx with rfl | rfl | rfl
    · exact .str (by decide +kernel)
    · exact .int (by omega) (by omega)
    · exact .tup (by simp) (by simp)
  | _, .nam h => by
    simp only [Tm.d]
    refine .tup (by simp) fun x hx => ?_
    simp only [List.mem_cons, List.not_mem_nil, or_false] at hx
    rcases hx with rfl | rfl | rfl
    · exact .str (by decide +kernel)
    · exact .str (name_asc h)
    · exact .tup (by simp) (by simp)
  | _, .nd (w := w) (m := m) (ps := ps) hw hf hm hg hn hp => by
    simp only [Tm.d]
    refine .tup (by simp) fun x hx => ?_
    simp only [List.mem_cons, List.not_mem_nil, or_false] at hx
    rcases hx with rfl | rfl | rfl
    · exact .str (words_asc (shape_word hw).1)
    · rename_i g
      cases g with
      | true => exact .str (name_asc (hg rfl))
      | false => rw [hn rfl]; exact .str (by decide +kernel)
    · refine .tup (by rw [Tm.ds_len]; exact Nat.le_trans hm (shape_most hw)) fun x hx => ?_
      rw [Tm.ds_map, List.mem_map] at hx
      obtain ⟨t, ht, rfl⟩ := hx
      exact Good.u t (hp t ht)
theorem nm_name {s : Str} (h : NameOk s) : isNm (.str s) = true := by
  simp [isNm, h.lo, h.hi, h.lt, h.nw]
theorem Good.ok : ∀ (k : Nat) (t : Tm), Good t → t.dep ≤ k → ok k t.d = true
  | 0, t, _, h => absurd t.dep_pos (by omega)
  | k + 1, _, .num h0 h1, _ => by simp [Tm.d, L3.ok, isNum, h0, h1]
  | k + 1, _, .nam h, _ => by
    simp only [Tm.d, L3.ok]
    rw [if_neg (by decide +kernel), if_pos trivial, nm_name h]
    rfl
  | k + 1, _, .nd (w := w) (m := m) (ps := ps) (f := f) (mo := mo) (g := g) hw hf hm hg hn hp, hd => by
    simp only [Tm.dep] at hd
    have hd : Tm.deps ps ≤ k := by omega
    rw [Tm.deps_le] at hd
    have hm' : (if g = true then isNm (.str m) else isEmp (.str m)) = true := by
      cases g with
      | true => exact nm_name (hg rfl)
      | false => rw [hn rfl]; rfl
    simp only [Tm.d, L3.ok, if_neg (shape_word hw).2.1, if_neg (shape_word hw).2.2, fits, hw, Tm.ds_len, hm', hf, hm, decide_true, Bool.and_true, Bool.true_and, List.all_eq_true]
    intro x hx
    rw [Tm.ds_map, List.mem_map] at hx
    obtain ⟨t, ht, rfl⟩ := hx
    exact Good.ok k t (hp t ht) (hd t ht)
theorem szz_tm : ∀ (k : Nat) (t : Tm), t.dep ≤ k → szz k t.d = t.size
  | 0, t, h => absurd t.dep_pos (by omega)
  | k + 1, .num _, _ => by simp [Tm.d, szz, Tm.size]
  | k + 1, .nam _, _ => by simp [Tm.d, szz, Tm.size]
  | k + 1, .nd w m ps, h => by
    simp only [Tm.dep] at h
    have hd : Tm.deps ps ≤ k := by omega
    rw [Tm.deps_le] at hd
    have : ∀ ts : List Tm, (∀ t ∈ ts, t.dep ≤ k) → ((ts.map Tm.d).map (szz k)).sum = (Tm.sizes ts : Int) := by
      intro ts
      induction ts with
      | nil => intro _; rfl
      | cons t ts ih =>
        intro h
        simp only [List.map_cons, List.sum_cons, Tm.sizes]
        rw [szz_tm k t (h t (List.mem_cons_self ..)), ih fun t ht => h t (List.mem_cons_of_mem _ ht)]
        omega
    simp only [Tm.d, szz, Tm.ds_map, Tm.size]
    rw [this ps hd]; omega
theorem U.mono {B B' : Nat} (hB : B ≤ B') : ∀ {x : D}, U B x → U B' x
  | _, .non => .non
  | _, .bl b => .bl b
  | _, .int h0 h1 => .int h0 h1
  | _, .str h => .str h
  | _, .tup h hl => .tup (Nat.le_trans h hB) fun x hx => U.mono hB (hl x hx)
  | _, .lst h hl => .lst (Nat.le_trans h hB) fun x hx => U.mono hB (hl x hx)
  | _, .dic => .dic
/-! signs -/
theorem let_list : LET.cps.toList = List.range' 97 26 := by decide +kernel
theorem mem_let (c : Nat) : decide (c ∈ LET.cps.toList) = isLet c := by
  rw [let_list]
  simp only [List.mem_range'_1, isLet]
  rw [Bool.eq_iff_iff]
  simp only [decide_eq_true_eq, Bool.and_eq_true]
  omega
theorem in_let {c : Nat} {S : Store} : inD (sgn c) (.str LET) S = .ok (.bl (isLet c)) S := by
  rw [← mem_let]
  rfl
theorem ge_a {c : Nat} {S : Store} : leD (.str "a") (sgn c) S = .ok (.bl (decide (97 ≤ c))) S := by
  have e : ("a" : Str).cps.toList = [97] := by decide +kernel
  show leD (.str "a") (.str ⟨#[c]⟩) S = _
  simp only [leD, e]
  congr 3
  rw [Bool.eq_iff_iff]
  simp only [Bool.not_eq_true', decide_eq_false_iff_not, decide_eq_true_eq, List.cons_lt_cons_iff, List.not_lt_nil, and_false, or_false, Nat.not_lt]
theorem le_z {c : Nat} {S : Store} : leD (sgn c) (.str "z") S = .ok (.bl (decide (c ≤ 122))) S := by
  have e : ("z" : Str).cps.toList = [122] := by decide +kernel
  show leD (.str ⟨#[c]⟩) (.str "z") S = _
  simp only [leD, e]
  congr 3
  rw [Bool.eq_iff_iff]
  simp only [Bool.not_eq_true', decide_eq_false_iff_not, decide_eq_true_eq, List.cons_lt_cons_iff, List.not_lt_nil, and_false, or_false, Nat.not_lt]
theorem items_str {s : Str} {S : Store} (h : s.length ≤ 1000) : itemsD (.str s) S = .ok (s.cps.toList.map sgn) S := by
  unfold itemsD; simp only
end L3
set_option Elab.async false
set_option linter.all false
set_option maxRecDepth 100000
set_option maxHeartbeats 4000000
/-! L3Z: what any thing is shown as. -/
namespace L3
open PySem L2
mutual
def wt : D → Nat
  | .tup l => 100 + wts l
  | .lst l => 100 + wts l
  | .non => 100 | .bl _ => 100 | .int _ => 100 | .str _ => 100 | .dic _ _ => 100 | .obj _ => 100 | .glb _ => 100 | .ty _ => 100 | .scr _ => 100 | .kd _ _ => 100 | .xcp _ _ _ => 100
def wts : List D → Nat
  | [] => 0
  | x :: xs => wt x + wts xs
end
mutual
def dp : D → Nat
  | .tup l => 1 + dps l
  | .lst l => 1 + dps l
  | .dic _ _ => 1
  | .non => 0 | .bl _ => 0 | .int _ => 0 | .str _ => 0 | .obj _ => 0 | .glb _ => 0 | .ty _ => 0 | .scr _ => 0 | .kd _ _ => 0 | .xcp _ _ _ => 0
def dps : List D → Nat
  | [] => 0
  | x :: xs => max (dp x) (dps xs)
end
theorem int_signs (i : Int) : ∀ c ∈ (toString i).toList, 45 ≤ c.toNat := by
  have nat : ∀ (n : Nat), ∀ c ∈ (Nat.repr n).toList, 45 ≤ c.toNat := by
    intro n c hc
    rw [Nat.toList_repr] at hc
    have h := Nat.isDigit_of_mem_toDigits (by decide) (by decide) hc
    simp only [Char.isDigit, Bool.and_eq_true, decide_eq_true_eq] at h
    have e : c.val.toNat = c.toNat := rfl
    have h2 : 48 ≤ c.val.toNat := by simpa using UInt32.le_iff_toNat_le.mp h.1
    omega
  intro c hc
  rw [Int.toString_eq_repr, Int.repr_eq_if] at hc
  split at hc
  · exact nat _ c hc
  · rw [String.toList_append, List.mem_append] at hc
    rcases hc with hc | hc
    · have : c = '-' := by simpa using hc
      subst this; decide
    · exact nat _ c hc
theorem tl_of (s : String) : (Str.ofString s).cps.toList = s.toList.map Char.toNat := by rw [Str.ofString_eq_toList]
theorem int_not (i : Int) : (((toString i : String) : Str) == "''") = false := by
  rw [beq_eq_false_iff_ne]
  intro h
  have e : (Str.ofString (toString i)).cps.toList = [39, 39] := by rw [h]; decide +kernel
  rw [tl_of] at e
  have : 39 ∈ (toString i).toList.map Char.toNat := by rw [e]; simp
  rw [List.mem_map] at this
  obtain ⟨c, hc, h39⟩ := this
  have := int_signs i c hc
  omega
theorem first_not {a b : Str} {s : Str} (ha : a.cps.toList.head? ≠ some 39) (h0 : a.cps.toList ≠ []) (h : s = a ++ b) : (s == "''") = false := by
  rw [beq_eq_false_iff_ne]
  rintro rfl
  have e : ("''" : Str).cps.toList = [39, 39] := by decide +kernel
  rw [h] at e
  have e : a.cps.toList ++ b.cps.toList = [39, 39] := by rw [← e]; show _ = (a.cps ++ b.cps).toList; simp
  cases q : a.cps.toList with
  | nil => exact h0 q
  | cons c cs =>
    rw [q] at e ha
    simp only [List.cons_append, List.cons.injEq] at e
    exact ha (by simp [e.1])
theorem reprChar_pos (q c : Nat) : 1 ≤ (Builtin.Str.reprChar q c).length := by
  unfold Builtin.Str.reprChar
  simp only []
  repeat' split
  all_goals simp
theorem fold_ge (q : Nat) : ∀ (l : List Nat) (acc : Array Nat), acc.size + l.length ≤ (l.foldl (fun out c => out ++ (Builtin.Str.reprChar q c).toArray) acc).size
  | [], acc => Nat.le_refl _
  | c :: r, acc => by
    have ih := fold_ge q r (acc ++ (Builtin.Str.reprChar q c).toArray)
    have := reprChar_pos q c
    simp only [List.foldl_cons, List.length_cons]
    simp only [Array.size_append, List.size_toArray] at ih
    omega
theorem reprText_ge (x : Str) : x.length + 2 ≤ (reprText x).length := by
  unfold reprText
  show _ ≤ ((x.cps.foldl (fun out c => out ++ (Builtin.Str.reprChar (reprQuote x) c).toArray) #[reprQuote x]).push (reprQuote x)).size
  rw [Array.size_push, ← Array.foldl_toList]
  have := fold_ge (reprQuote x) x.cps.toList #[reprQuote x]
  have e1 : (#[reprQuote x] : Array Nat).size = 1 := rfl
  have e2 : x.cps.toList.length = x.length := by simp [Str.length]
  omega
theorem str_emp (x : Str) : (reprText x == "''") = decide (x = "") := by
  rw [Bool.eq_iff_iff, beq_iff_eq, decide_eq_true_eq]
  constructor
  · intro h
    have := reprText_ge x
    rw [h] at this
    have e : ("''" : Str).length = 2 := by decide +kernel
    have l0 : x.length = 0 := by omega
    apply TL.ext_tl
    show x.cps.toList = ("" : Str).cps.toList
    have : x.cps.toList = [] := by
      have : x.cps.toList.length = 0 := by simpa [Str.length] using l0
      exact List.length_eq_zero_iff.mp this
    rw [this]; decide +kernel
  · rintro rfl; decide +kernel
theorem join_le (ts : List Str) : (Str.join ", " ts).length ≤ piled ts := by
  by_cases h : ts = []
  · subst h; decide +kernel
  · have := join_length_add ts h; omega
mutual
theorem shown_ok {B : Nat} : ∀ {x : D}, U B x → ∃ a, toPyR x = some a ∧ a.showable = true ∧ a.shown.length + 2 ≤ wt x ∧ a.depth ≤ dp x ∧ (a.shown == "''") = isEmp x
  | .non, _ => ⟨.none, rfl, by simp [PyData.showable], by rw [PyData.shown_none]; simp only [wt]; decide +kernel, by simp [PyData.depth, dp], by rw [PyData.shown_none]; simp only [isEmp]; decide +kernel⟩
  | .bl b, _ => ⟨.bool b, rfl, by simp [PyData.showable], by rw [PyData.shown_bool]; simp only [wt]; cases b <;> decide +kernel, by simp [PyData.depth, dp], by rw [PyData.shown_bool]; simp only [isEmp]; cases b <;> decide +kernel⟩
  | .int i, h => by
    cases h with
    | int h0 h1 =>
      have hn : i.natAbs < 10 ^ 5 := by omega
      refine ⟨.int i, rfl, ?_, ?_, by simp [PyData.depth, dp], ?_⟩
      · simp only [PyData.showable, decide_eq_true_eq]
        by_cases z : i.natAbs = 0
        · rw [z]; decide
        · exact Nat.lt_trans ((Nat.log2_lt z).mpr (Nat.lt_trans hn (by decide : (10 : Nat) ^ 5 < 2 ^ 20))) (by decide)
      · rw [PyData.shown_int]
        have := int_text_length_le10 (k := 5) (by decide) hn
        have e : (Str.ofString (toString i)).length = (toString i).length := by
          rw [Str.ofString_eq_toList]
          simp only [Str.length, List.size_toArray, List.length_map]
          first | exact String.length_toList | rfl | simp [String.length]
        simp only [wt]
        omega
      · rw [PyData.shown_int, int_not]; rfl
  | .str s, h => by
    cases h with
    | str hs =>
      refine ⟨.str s, rfl, by simp [PyData.showable], ?_, by simp [PyData.depth, dp], ?_⟩
      · rw [PyData.shown_str]
        have l9 := asc_len hs
        have := StrLaws.reprText_len s (by
          intro c hc
          simp only [asc, Bool.and_eq_true, decide_eq_true_eq] at hs
          have := List.all_eq_true.mp hs.2 c hc
          simp only [decide_eq_true_eq] at this
          exact Nat.lt_trans this (by decide))
        simp only [wt]
        omega
      · rw [PyData.shown_str, str_emp]; rfl
  | .tup l, h => by
    have h : ∀ x ∈ l, U B x := by cases h with | tup _ h => exact h
    obtain ⟨as, e1, e2, e3, e4⟩ := showns_ok h
    refine ⟨.tuple as, by simp only [toPyR, e1]; rfl, by simpa [PyData.showable] using e2, ?_, by simp only [PyData.depth, dp]; omega, ?_⟩
    · rw [PyData.shown_tuple, strLen_append, strLen_append]
      have := join_le (PyData.shownAll as)
      have a1 : (("(" : String) : Str).length = 1 := rfl
      have a2 : (((if as.length == 1 then ",)" else ")" : String) : Str)).length ≤ 2 := by split <;> decide
      simp only [wt]; omega
    · rw [PyData.shown_tuple, Str.append_assoc]
      rw [first_not (a := "(") (by decide +kernel) (by decide +kernel) rfl]; rfl
  | .lst l, h => by
    have h : ∀ x ∈ l, U B x := by cases h with | lst _ h => exact h
    obtain ⟨as, e1, e2, e3, e4⟩ := showns_ok h
    refine ⟨.list as, by simp only [toPyR, e1]; rfl, by simpa [PyData.showable] using e2, ?_, by simp only [PyData.depth, dp]; omega, ?_⟩
    · rw [PyData.shown_list, strLen_append, strLen_append]
      have := join_le (PyData.shownAll as)
      have a1 : (("[" : String) : Str).length = 1 := rfl
      have a2 : (("]" : String) : Str).length = 1 := rfl
      simp only [wt]; omega
    · rw [PyData.shown_list, Str.append_assoc]
      rw [first_not (a := "[") (by decide +kernel) (by decide +kernel) rfl]; rfl
  | .dic ks l, h => by
    cases h with
    | dic =>
      refine ⟨.dict [], rfl, by simp [PyData.showable, PyData.showableKv], ?_, by simp [PyData.depth, PyData.depthKv, dp], ?_⟩
      · rw [PyData.shown_dict, PyData.shownKv_nil]; simp only [wt]; decide +kernel
      · rw [PyData.shown_dict, PyData.shownKv_nil]; simp only [isEmp]; decide +kernel
  | .obj _, h => nomatch h
  | .glb _, h => nomatch h
  | .ty _, h => nomatch h
  | .scr _, h => nomatch h
  | .kd _ _, h => nomatch h
  | .xcp _ _ _, h => nomatch h
theorem showns_ok {B : Nat} : ∀ {l : List D}, (∀ x ∈ l, U B x) → ∃ as, toPyRL l = some as ∧ PyData.showableAll as = true ∧ piled (PyData.shownAll as) ≤ wts l ∧ PyData.depthAll as ≤ dps l
  | [], _ => ⟨[], rfl, by simp [PyData.showableAll], by simp [PyData.shownAll, piled, wts], by simp [PyData.depthAll, dps]⟩
  | x :: l, h => by
    obtain ⟨a, e1, e2, e3, e4, _⟩ := shown_ok (h x (List.mem_cons_self ..))
    obtain ⟨as, f1, f2, f3, f4⟩ := showns_ok fun y hy => h y (List.mem_cons_of_mem _ hy)
    refine ⟨a :: as, by simp only [toPyRL, e1, f1], by simp [PyData.showableAll, e2, f2], ?_, by simp only [PyData.depthAll, dps]; omega⟩
    simp only [PyData.shownAll, piled_cons, wts]; omega
end
theorem repr_ok {B : Nat} {x : D} (h : U B x) (hw : wt x ≤ 1000000) (hd : dp x ≤ 100) : ∃ z : Str, (∀ S, reprD [x] S = .ok (.str z) S) ∧ (z == "''") = isEmp x := by
  obtain ⟨a, e1, e2, e3, e4, e5⟩ := shown_ok h
  refine ⟨a.shown, fun S => ?_, e5⟩
  have hde : deref x S = x := by cases h <;> rfl
  have hok : showOk a = true := by
    simp only [showOk, e2, Bool.true_and, Bool.and_eq_true, decide_eq_true_eq]
    exact ⟨Nat.le_trans (by omega) (by decide : 1000000 ≤ sizeLine), by omega⟩
  unfold reprD
  simp only [hde, e1]
  rw [if_pos hok]
theorem wt_mem : ∀ {l : List D} {x : D}, x ∈ l → wt x ≤ wts l
  | y :: l, x, h => by
    simp only [wts]
    rcases List.mem_cons.mp h with rfl | h
    · omega
    · have := wt_mem h; omega
theorem dp_mem : ∀ {l : List D} {x : D}, x ∈ l → dp x ≤ dps l
  | y :: l, x, h => by
    simp only [dps]
    rcases List.mem_cons.mp h with rfl | h
    · omega
    · have := dp_mem h; omega
theorem wts_app : ∀ a b : List D, wts (a ++ b) = wts a + wts b
  | [], b => by simp [wts]
  | x :: a, b => by simp only [List.cons_append, wts, wts_app a b]; omega
theorem dps_app : ∀ a b : List D, dps (a ++ b) = max (dps a) (dps b)
  | [], b => by simp [dps]
  | x :: a, b => by simp only [List.cons_append, dps, dps_app a b]; omega
theorem wt_pos (x : D) : 100 ≤ wt x := by cases x <;> simp [wt]
theorem len_wts : ∀ l : List D, 100 * l.length ≤ wts l
  | [] => by simp
  | x :: l => by
    have := wt_pos x
    have := len_wts l
    simp only [wts, List.length_cons]; omega
/-! steps one by one, what follows left alone -/
section
variable {env : EnvD} {S S1 : Store} {N B C : EnvD → Store → Prop} {T : D → Store → Prop} {c : TD} {a : ED} {r s t : SD}
theorem step_ret (hc : c env S = .ok true S1) (h : (a env S1).sat T) : (sSeq (sIf c (sRet a) t) r env S).sat N T B C := by
  rw [ssat_seq, ssat_if, hc, sat_ok, if_pos rfl, ssat_sRet]; exact h
theorem step_no (hc : c env S = .ok false S1) (h : (r env S1).sat N T B C) : (sSeq (sIf c s sSkip) r env S).sat N T B C := by
  rw [ssat_seq, ssat_if, hc, sat_ok, if_neg Bool.false_ne_true, ssat_skip]; exact h
theorem step_yes (hc : c env S = .ok true S1) (h : (sSeq s r env S1).sat N T B C) : (sSeq (sIf c s t) r env S).sat N T B C := by
  rw [ssat_seq, ssat_if, hc, sat_ok, if_pos rfl, ← ssat_seq]; exact h
theorem step_asg {d : D} {g : GD} {env' : EnvD} {S2 : Store} (ha : a env S = .ok d S1) (hg : g d env S1 = .nx env' S2) (h : (r env' S2).sat N T B C) : (sSeq (sAsg a g) r env S).sat N T B C := by
  rw [ssat_seq, ssat_asg, ha, sat_ok, hg, ssat_nx]; exact h
theorem step_expr {d : D} (ha : a env S = .ok d S1) (h : (r env S1).sat N T B C) : (sSeq (sExpr a) r env S).sat N T B C := by
  rw [ssat_seq, ssat_sExpr, ha, sat_ok]; exact h
end
end L3
set_option Elab.async false
set_option linter.all false
set_option maxRecDepth 100000
/-! L8A: what an answer, or an exception, satisfies. -/
inductive L3.R.esat {α : Type} (E : L3.Ex → L3.Store → Prop) : L3.R α → (α → L3.Store → Prop) → Prop where
  | mk {a : α} {S : L3.Store} {Q : α → L3.Store → Prop} (h : Q a S) : L3.R.esat E (.ok a S) Q
  | ex {e : L3.Ex} {S : L3.Store} {Q : α → L3.Store → Prop} (h : E e S) : L3.R.esat E (.exc e S) Q
inductive L3.SR.esat (F : L3.Ex → L3.EnvD → L3.Store → Prop) : L3.SR → (L3.EnvD → L3.Store → Prop) → (L3.D → L3.Store → Prop) → (L3.EnvD → L3.Store → Prop) → (L3.EnvD → L3.Store → Prop) → Prop where
  | nx {e S} {N : L3.EnvD → L3.Store → Prop} {T : L3.D → L3.Store → Prop} {B C : L3.EnvD → L3.Store → Prop} (h : N e S) : L3.SR.esat F (.nx e S) N T B C
  | ret {d S} {N : L3.EnvD → L3.Store → Prop} {T : L3.D → L3.Store → Prop} {B C : L3.EnvD → L3.Store → Prop} (h : T d S) : L3.SR.esat F (.ret d S) N T B C
  | brk {e S} {N : L3.EnvD → L3.Store → Prop} {T : L3.D → L3.Store → Prop} {B C : L3.EnvD → L3.Store → Prop} (h : B e S) : L3.SR.esat F (.brk e S) N T B C
  | ct {e S} {N : L3.EnvD → L3.Store → Prop} {T : L3.D → L3.Store → Prop} {B C : L3.EnvD → L3.Store → Prop} (h : C e S) : L3.SR.esat F (.ct e S) N T B C
  | exc {x e S} {N : L3.EnvD → L3.Store → Prop} {T : L3.D → L3.Store → Prop} {B C : L3.EnvD → L3.Store → Prop} (h : F x e S) : L3.SR.esat F (.exc x e S) N T B C
namespace L3.X
open PySem L2 L3
section
variable {α β : Type} {S : Store} {env : EnvD} {d : D} {E : Ex → Store → Prop}
@[simp] theorem sat_ok {a : α} {Q : α → Store → Prop} : (R.ok a S).esat E Q = Q a S := propext ⟨fun h => by cases h; assumption, .mk⟩
@[simp] theorem sat_bad {Q : α → Store → Prop} : (R.bad : R α).esat E Q = False := propext ⟨fun h => (by cases h), False.elim⟩
@[simp] theorem sat_exc {e : Ex} {Q : α → Store → Prop} : (R.exc e S : R α).esat E Q = E e S := propext ⟨fun h => (by cases h; assumption), .ex⟩
theorem sat_bind {r : R α} {f : α → Store → R β} {Q : β → Store → Prop} : (r.bind f).esat E Q = r.esat E fun a S => (f a S).esat E Q := by cases r <;> simp [R.bind]
theorem sat_mono {r : R α} {Q Q' : α → Store → Prop} (h : r.esat E Q) (m : ∀ a S, Q a S → Q' a S) : r.esat E Q' := by
  cases h with
  | mk h => exact .mk (m _ _ h)
  | ex h => exact .ex h
theorem sat_monoE {E' : Ex → Store → Prop} {r : R α} {Q Q' : α → Store → Prop} (h : r.esat E Q) (m : ∀ a S, Q a S → Q' a S) (me : ∀ e S, E e S → E' e S) : r.esat E' Q' := by
  cases h with
  | mk h => exact .mk (m _ _ h)
  | ex h => exact .ex (me _ _ h)
theorem of_sat {r : R α} {Q : α → Store → Prop} (h : r.sat Q) : r.esat E Q := by cases h with | mk h => exact .mk h
theorem to_sat {r : R α} {Q : α → Store → Prop} (h : r.esat (fun _ _ => False) Q) : r.sat Q := by
  cases h with
  | mk h => exact .mk h
  | ex h => exact h.elim
theorem sat_nox {r : R α} {Q : α → Store → Prop} : r.nox.esat E Q = r.sat Q := by cases r <;> simp [R.nox]
variable {Q : D → Store → Prop} {QB : Bool → Store → Prop} {QL : List D → Store → Prop}
@[simp] theorem sat_blD {x : D} : (blD x S).esat E QB = ∃ k, x = .bl k ∧ QB k S := by
  unfold blD; cases x <;> simp

theorem sat_if {c : Prop} [Decidable c] {a b : R α} {Q : α → Store → Prop} : (if c then a else b).esat E Q = if c then a.esat E Q else b.esat E Q := by split <;> rfl
theorem sat_if_bad {c : Prop} [Decidable c] {a : R α} {Q : α → Store → Prop} : (if c then a else .bad).esat E Q = (c ∧ a.esat E Q) := by by_cases h : c <;> simp [h]
@[simp] theorem sat_eVar {i : Nat} : (eVar i env S).esat E Q = match env[i]? with
    | some (some d) => Q d S
    | _ => False := by unfold eVar; cases env[i]? with
  | none => simp
  | some o => cases o <;> simp
@[simp] theorem sat_eK : (eK d env S).esat E Q = Q d S := sat_ok
@[simp] theorem sat_e1 {f : L3.F1} {a : ED} : (e1 f a env S).esat E Q = (a env S).esat E fun x S1 => (f x S1).esat E Q := sat_bind
@[simp] theorem sat_e2 {f : L3.F2} {a b : ED} : (e2 f a b env S).esat E Q = (a env S).esat E fun x S1 => (b env S1).esat E fun y S2 => (f x y S2).esat E Q := by unfold e2; rw [sat_bind]; simp only [sat_bind]
@[simp] theorem sat_aNil : (aNil env S).esat E QL = QL [] S := sat_ok
@[simp] theorem sat_aCons {a : ED} {r : AD} : (aCons a r env S).esat E QL = (a env S).esat E fun x S1 => (r env S1).esat E fun xs S2 => QL (x :: xs) S2 := by unfold aCons; rw [sat_bind]; simp only [sat_bind, sat_ok]
@[simp] theorem sat_eN {f : FN} {a : AD} : (eN f a env S).esat E Q = (a env S).esat E fun xs S1 => (f xs S1).esat E Q := sat_bind
@[simp] theorem sat_eIf {c : TD} {a b : ED} : (eIf c a b env S).esat E Q = (c env S).esat E fun k S1 => if k = true then (a env S1).esat E Q else (b env S1).esat E Q := by
  unfold eIf; rw [sat_bind]; congr; funext k S1; cases k <;> simp
@[simp] theorem sat_tOfE {a : ED} : (tOfE a env S).esat E QB = (a env S).esat E fun x S1 => (blD x S1).esat E QB := by
  unfold tOfE; rw [sat_bind]; congr
@[simp] theorem sat_tTruth {a : ED} : (tTruth a env S).esat E QB = (a env S).esat E fun x S1 => (truthD x S1).esat E QB := sat_bind
@[simp] theorem sat_tNot {a : TD} : (tNot a env S).esat E QB = (a env S).esat E fun k S1 => QB (!k) S1 := by unfold tNot; rw [sat_bind]; simp only [sat_ok]
@[simp] theorem sat_tAnd {a b : TD} : (tAnd a b env S).esat E QB = (a env S).esat E fun k S1 => if k = true then (b env S1).esat E QB else QB false S1 := by
  unfold tAnd; rw [sat_bind]; congr; funext k S1; cases k <;> simp
@[simp] theorem sat_tOr {a b : TD} : (tOr a b env S).esat E QB = (a env S).esat E fun k S1 => if k = true then QB true S1 else (b env S1).esat E QB := by
  unfold tOr; rw [sat_bind]; congr; funext k S1; cases k <;> simp
@[simp] theorem sat_eNot {a : ED} : (eNot a env S).esat E Q = (a env S).esat E fun x S1 => (blD x S1).esat E fun k S2 => Q (.bl (!k)) S2 := by
  unfold eNot; rw [sat_bind, sat_tOfE]; simp only [sat_ok]
@[simp] theorem sat_eAnd {a b : ED} : (eAnd a b env S).esat E Q = (a env S).esat E fun x S1 => (blD x S1).esat E fun k S2 => if k = true then (b env S2).esat E Q else Q (.bl false) S2 := by
  unfold eAnd; rw [sat_bind, sat_tOfE]; congr; funext x S1; congr; funext k S2; cases k <;> simp
@[simp] theorem sat_eOr {a b : ED} : (eOr a b env S).esat E Q = (a env S).esat E fun x S1 => (blD x S1).esat E fun k S2 => if k = true then Q (.bl true) S2 else (b env S2).esat E Q := by
  unfold eOr; rw [sat_bind, sat_tOfE]; congr; funext x S1; congr; funext k S2; cases k <;> simp
@[simp] theorem sat_eChain {f g : L3.F2} {a b c : ED} : (eChain f g a b c env S).esat E Q = (a env S).esat E fun x S1 => (b env S1).esat E fun y S2 => (f x y S2).esat E fun r S3 => (blD r S3).esat E fun k S4 => if k = true then (c env S4).esat E fun z S5 => (g y z S5).esat E Q else Q (.bl false) S4 := by
  unfold eChain; rw [sat_bind]; simp only [sat_bind]; congr; funext x S1; congr; funext y S2; congr; funext r S3
  cases r with
  | bl k => cases k <;> simp [sat_bind]
  | _ => simp [blD]
@[simp] theorem sat_eBM {T : String} {f : D → FN} {o : ED} {a : AD} : (eBM T f o a env S).esat E Q = (o env S).esat E fun x S1 => (mtD x S1 = some T ∧ (a env S1).esat E fun xs S2 => (f x xs S2).esat E Q) := by
  unfold eBM; rw [sat_bind]; congr; funext x S1; rw [sat_if_bad, sat_bind]
@[simp] theorem sat_eKw {f : List D → FN} {a b : AD} : (eKw f a b env S).esat E Q = (a env S).esat E fun xs S1 => (b env S1).esat E fun zs S2 => (f xs zs S2).esat E Q := by unfold eKw; rw [sat_bind]; simp only [sat_bind]
@[simp] theorem sat_eFnL {i : Nat} {x : Str} {F : FN} {a : AD} : (eFnL i x F a env S).esat E Q = match env[i]? with
    | some (some (.glb y)) => y = x ∧ (a env S).esat E fun xs S1 => (F xs S1).esat E Q
    | _ => False := by
  unfold eFnL
  cases env[i]? with
  | none => simp
  | some o =>
    cases o with
    | none => simp
    | some d =>
      cases d with
      | glb y => simp only []; rw [sat_if_bad, sat_bind]
      | _ => simp
@[simp] theorem sat_iSeq {a : ED} : (iSeq a env S).esat E QL = (a env S).esat E fun x S1 => (itemsD x S1).esat E QL := sat_bind
@[simp] theorem sat_iArgs {f : List D → Store → R (List D)} {a : AD} : (iArgs f a env S).esat E QL = (a env S).esat E fun xs S1 => (f xs S1).esat E QL := sat_bind
@[simp] theorem sat_range1 {j : Int} : (range1 [.int j] S).esat E QL = (okRng j = true ∧ QL (rangeD 0 j) S) := by unfold range1; simp only []; rw [sat_if_bad, sat_ok]
@[simp] theorem sat_range2 {i j : Int} : (range2 [.int i, .int j] S).esat E QL = ((okRng i && okRng j) = true ∧ QL (rangeD i j) S) := by unfold range2; simp only []; rw [sat_if_bad, sat_ok]
@[simp] theorem sat_mkTup {xs : List D} : (mkTup xs S).esat E Q = (xs.length ≤ sizeLine ∧ Q (.tup xs) S) := by unfold mkTup; rw [sat_if_bad, sat_ok]
@[simp] theorem sat_mkLst {xs : List D} : (mkLst xs S).esat E Q = (xs.length ≤ sizeLine ∧ Q (.lst xs) S) := by unfold mkLst; rw [sat_if_bad, sat_ok]
@[simp] theorem sat_mkObj {xs : List D} : (mkObj xs S).esat E Q = (xs.length ≤ sizeLine ∧ Q (.obj S.length) (S ++ [.lst xs])) := by unfold mkObj; rw [sat_if_bad, sat_ok]
theorem mul_int {i j : Int} : (mulD (.int i) (.int j) S).esat E Q = (mulOk i j = true ∧ Q (.int (i * j)) S) := by unfold mulD; simp only []; rw [sat_if_bad, sat_ok]
theorem fdiv_int {i j : Int} : (fdivD (.int i) (.int j) S).esat E Q = ((0 < j ∧ j.natAbs.log2 < 9000) ∧ Q (.int (i / j)) S) := by unfold fdivD; simp only []; rw [sat_if_bad, sat_ok]
theorem mod_int {i j : Int} : (modD (.int i) (.int j) S).esat E Q = (0 < j ∧ Q (.int (i % j)) S) := by unfold modD; simp only []; rw [sat_if_bad, sat_ok]
theorem append_obj {n : Nat} {l : List D} {y : D} (h : S[n]? = some (.lst l)) : (appendD (.obj n) [y] S).esat E Q = (l.length < sizeLine ∧ Q .non (S.set n (.lst (l ++ [y])))) := by
  unfold appendD; simp only [lstAt, h]; rw [sat_if_bad, sat_ok]
@[simp] theorem sat_pNo {QO : Option Int → Store → Prop} : (pNo env S).esat E QO = QO none S := sat_ok
@[simp] theorem sat_pYes {a : ED} {QO : Option Int → Store → Prop} : (pYes a env S).esat E QO = (a env S).esat E fun x S1 => ∃ i, x = .int i ∧ QO (some i) S1 := by
  unfold pYes; rw [sat_bind]; congr; funext x S1
  cases x <;> simp
@[simp] theorem sat_eSl {a : ED} {l h : PD} : (eSl a l h env S).esat E Q = (a env S).esat E fun x S1 => (l env S1).esat E fun lo S2 => (h env S2).esat E fun hi S3 => (slD x lo hi S3).esat E Q := by
  unfold eSl; simp only [sat_bind]
@[simp] theorem sat_eBackT {a : ED} : (eBackT a env S).esat E Q = (a env S).esat E fun x S1 => ∃ l, x = .tup l ∧ Q (.tup l.reverse) S1 := by
  unfold eBackT; rw [sat_bind]; congr; funext x S1
  cases x <;> simp
@[simp] theorem sat_eDic0 : (eDic0 env S).esat E Q = Q (.dic [] []) S := sat_ok
@[simp] theorem sat_eDct0 : (eDct0 env S).esat E Q = Q (.obj S.length) (S ++ [.dK []]) := sat_ok
theorem alt_r {a b : ED} (h : a env S = .bad) (h2 : (b env S).esat E Q) : (eAlt a b env S).esat E Q := by
  have : eAlt a b env S = b env S := by unfold eAlt; rw [h]
  rw [this]; exact h2
theorem fnL_yes {i : Nat} {x : Str} {F : FN} {a : AD} (h : env[i]? = some (some (.glb x))) (h2 : (a env S).esat E fun xs S1 => (F xs S1).esat E Q) : (eFnL i x F a env S).esat E Q := by
  rw [sat_eFnL, h]; exact ⟨rfl, h2⟩
theorem sat_eMeth {c m : Str} {F : FN} {mo : ED} {ma : AD} : (eMeth c m F mo ma env S).esat E Q = (mo env S).esat E fun x S1 => ∃ n fs, insAt x S1 = some (n, c, fs) ∧ fs.lookup m = none ∧ (ma env S1).esat E fun xs S2 => (F (x :: xs) S2).esat E Q := by
  unfold eMeth; rw [sat_bind]; congr; funext x S1
  cases h : insAt x S1 with
  | none => simp
  | some v =>
    obtain ⟨n, c', fs⟩ := v
    simp only []
    rw [sat_if_bad, sat_bind]
    apply propext
    constructor
    · rintro ⟨⟨e, h1⟩, h2⟩; subst e; exact ⟨_, _, rfl, h1, h2⟩
    · rintro ⟨n', fs', e, h1, h2⟩; cases e; exact ⟨⟨rfl, h1⟩, h2⟩
theorem sat_mkIns {c : Str} {F : FN} {xs : List D} : (mkIns c F xs S).esat E Q = (F (.obj S.length :: xs) (S ++ [.ins c []])).esat E fun d S1 => d = .non ∧ Q (.obj S.length) S1 := by
  unfold mkIns
  cases F (.obj S.length :: xs) (S ++ [.ins c []]) with
  | ok d S1 => cases d <;> simp
  | _ => simp
theorem alt_l {a b : ED} (h : (a env S).esat E Q) : (eAlt a b env S).esat E Q := by
  unfold eAlt
  revert h
  cases a env S with
  | bad => intro h; cases h
  | _ => exact fun h => h
theorem fnL_no {i : Nat} {x y : Str} {F : FN} {a : AD} (h : env[i]? = some (some (.glb y))) (hn : y ≠ x) : eFnL i x F a env S = .bad := L3.fnL_no h hn
/-! comprehensions -/
theorem sat_lcL {g : GD} {tt : TD} {te : ED} {env : EnvD} : ∀ {xs : List D} {S : Store} {Q : List D → Store → Prop}, (lcL g tt te env xs S).esat E Q = lcSat g tt te env xs S Q
  | [], _, _ => sat_ok
  | x :: xs, S, Q => by
    unfold lcL lcSat
    cases g x env S with
    | nx env1 S1 =>
      simp only
      rw [sat_bind, sat_nox]
      congr; funext k S2
      cases k with
      | true => simp only [if_true]; rw [sat_bind, sat_nox]; congr; funext y S3; rw [sat_bind, sat_lcL]; simp only [sat_ok]
      | false => simp only [Bool.false_eq_true, if_false]; exact sat_lcL
    | _ => simp
theorem sat_eLc {mi : ID} {vs : List Nat} {g : GD} {tt : TD} {te : ED} : (eLc mi vs g tt te env S).esat E Q = (mi env S).esat E fun xs S1 => (xs.length ≤ sizeLine ∧ lcSat g tt te (wipeD env vs) xs S1 fun ys S2 => Q (.lst ys) S2) := by
  unfold eLc; rw [sat_bind]; congr; funext xs S1; rw [sat_if_bad, sat_bind, sat_lcL]; simp only [sat_ok]
theorem sat_eDc {mi : ID} {vs : List Nat} {g : GD} {tt : TD} {tk tv : ED} : (eDc mi vs g tt tk tv env S).esat E Q = (mi env S).esat E fun xs S1 => (xs.length ≤ sizeLine ∧ dcSat g tt tk tv (wipeD env vs) xs [] S1 fun kvs S2 => Q (.dic (kvs.map (·.1)) (kvs.map (·.2))) S2) := by
  unfold eDc; rw [sat_bind]; congr; funext xs S1; rw [sat_if_bad, sat_bind, sat_nox, sat_dcL]; simp only [sat_ok, L3.sat_ok]
/-- with a rule for the turns, of which each may end the whole -/
theorem lcx_rule {i : Nat} {te : ED} {env : EnvD} (I : List D → Store → Prop) : ∀ {xs : List D} {S : Store} {Q : List D → Store → Prop} (done : List D),
    I done S → (∀ x ∈ xs, ∀ done S, I done S → (te (env.set i (some x)) S).esat E fun y S' => I (done ++ [y]) S') → (∀ ys S', I (done ++ ys) S' → Q ys S') → (lcLx (gName i) tYesD te env xs S).esat E Q
  | [], S, Q, done, hI, ht, hQ => .mk (hQ [] S (by simpa using hI))
  | x :: xs, S, Q, done, hI, ht, hQ => by
    unfold lcLx
    simp only [gName, tYesD, R.nox]
    show ((te (env.set i (some x)) S).bind _).esat E Q
    rw [sat_bind]
    refine sat_mono (ht x (List.mem_cons_self ..) done S hI) fun y S3 h => ?_
    rw [sat_bind]
    exact lcx_rule I (done ++ [y]) h (fun x hx => ht x (List.mem_cons_of_mem _ hx)) fun ys S' h1 => by rw [sat_ok]; exact hQ _ _ (by simpa using h1)
theorem sat_eLcx {mi : ID} {vs : List Nat} {g : GD} {tt : TD} {te : ED} : (eLcx mi vs g tt te env S).esat E Q = (mi env S).esat E fun xs S1 => (xs.length ≤ sizeLine ∧ (lcLx g tt te (wipeD env vs) xs S1).esat E fun ys S2 => Q (.lst ys) S2) := by
  unfold eLcx; rw [sat_bind]; congr; funext xs S1; rw [sat_if_bad, sat_bind]; simp only [sat_ok]
end
/-! statements -/
section
variable {S S1 : Store} {env : EnvD} {d : D} {N B C : EnvD → Store → Prop} {T : D → Store → Prop} {Q : D → Store → Prop} {F : Ex → EnvD → Store → Prop} {E : Ex → Store → Prop}
@[simp] theorem ssat_nx : (SR.nx env S).esat F N T B C = N env S := propext ⟨fun h => by cases h; assumption, .nx⟩
@[simp] theorem ssat_ret : (SR.ret d S).esat F N T B C = T d S := propext ⟨fun h => by cases h; assumption, .ret⟩
@[simp] theorem ssat_brk : (SR.brk env S).esat F N T B C = B env S := propext ⟨fun h => by cases h; assumption, .brk⟩
@[simp] theorem ssat_ct : (SR.ct env S).esat F N T B C = C env S := propext ⟨fun h => by cases h; assumption, .ct⟩
@[simp] theorem ssat_bad : SR.bad.esat F N T B C = False := propext ⟨fun h => (by cases h), False.elim⟩
@[simp] theorem ssat_exc {e : Ex} : (SR.exc e env S).esat F N T B C = F e env S := propext ⟨fun h => (by cases h; assumption), .exc⟩
theorem ssat_toS {α : Type} {r : R α} {k : α → Store → SR} : (r.toS env k).esat F N T B C = r.esat (fun e S => F e env S) fun a S => (k a S).esat F N T B C := by cases r <;> simp [R.toS]
theorem ssat_mono {r : SR} {F' : Ex → EnvD → Store → Prop} {N' B' C' : EnvD → Store → Prop} {T' : D → Store → Prop} (h : r.esat F N T B C) (hF : ∀ x e S, F x e S → F' x e S) (hN : ∀ e S, N e S → N' e S) (hT : ∀ d S, T d S → T' d S) (hB : ∀ e S, B e S → B' e S) (hC : ∀ e S, C e S → C' e S) : r.esat F' N' T' B' C' := by
  cases h with
  | nx h => exact .nx (hN _ _ h)
  | ret h => exact .ret (hT _ _ h)
  | brk h => exact .brk (hB _ _ h)
  | ct h => exact .ct (hC _ _ h)
  | exc h => exact .exc (hF _ _ _ h)
theorem of_ssat {r : SR} (h : r.sat N T B C) : r.esat F N T B C := by
  cases h with
  | nx h => exact .nx h
  | ret h => exact .ret h
  | brk h => exact .brk h
  | ct h => exact .ct h
theorem to_ssat {r : SR} (h : r.esat (fun _ _ _ => False) N T B C) : r.sat N T B C := by
  cases h with
  | nx h => exact .nx h
  | ret h => exact .ret h
  | brk h => exact .brk h
  | ct h => exact .ct h
  | exc h => exact h.elim
@[simp] theorem ssat_skip : (sSkip env S).esat F N T B C = N env S := ssat_nx
@[simp] theorem ssat_seq {a b : SD} : (sSeq a b env S).esat F N T B C = (a env S).esat F (fun e S => (b e S).esat F N T B C) T B C := by
  unfold sSeq; cases a env S <;> simp
@[simp] theorem ssat_if {c : TD} {a b : SD} : (sIf c a b env S).esat F N T B C = (c env S).esat (fun e S => F e env S) fun k S1 => if k = true then (a env S1).esat F N T B C else (b env S1).esat F N T B C := by
  unfold sIf; rw [ssat_toS]; congr; funext k S1; cases k <;> simp
@[simp] theorem ssat_sRet {a : ED} : (sRet a env S).esat F N T B C = (a env S).esat (fun e S => F e env S) T := by unfold sRet; rw [ssat_toS]; simp only [ssat_ret]
@[simp] theorem ssat_sExpr {a : ED} : (sExpr a env S).esat F N T B C = (a env S).esat (fun e S => F e env S) fun _ S1 => N env S1 := by unfold sExpr; rw [ssat_toS]; simp only [ssat_nx]
@[simp] theorem ssat_sBrk : (sBrk env S).esat F N T B C = B env S := ssat_brk
@[simp] theorem ssat_sCt : (sCt env S).esat F N T B C = C env S := ssat_ct
@[simp] theorem ssat_asg {a : ED} {g : GD} : (sAsg a g env S).esat F N T B C = (a env S).esat (fun e S => F e env S) fun d S1 => (g d env S1).esat F N T B C := by unfold sAsg; rw [ssat_toS]
@[simp] theorem ssat_par {is : List Nat} {a : AD} : (sPar is a env S).esat F N T B C = (a env S).esat (fun e S => F e env S) fun xs S1 => (gNames is xs env S1).esat F N T B C := by unfold sPar; rw [ssat_toS]
@[simp] theorem ssat_raise0 {c : Str} : (sRaise0 c env S).esat F N T B C = F ⟨c, []⟩ env S := ssat_exc
@[simp] theorem ssat_raise1 {c f : Str} {a : ED} : (sRaise1 c f a env S).esat F N T B C = (a env S).esat (fun e S => F e env S) fun d S1 => F ⟨c, [(f, d)]⟩ env S1 := by unfold sRaise1; rw [ssat_toS]; simp only [ssat_exc]
theorem ssat_for {mi : ID} {g : GD} {body : SD} : (sFor mi g body env S).esat F N T B C = (mi env S).esat (fun e S => F e env S) fun xs S1 => (forL g body xs env S1).esat F N T B C := by unfold sFor; rw [ssat_toS]
@[simp] theorem forL_nil {g : GD} {body : SD} : (forL g body [] env S).esat F N T B C = N env S := ssat_nx
theorem forL_cons {g : GD} {body : SD} {x : D} {xs : List D} : (forL g body (x :: xs) env S).esat F N T B C = (g x env S).sat (fun e S => (body e S).esat F (fun e S => (forL g body xs e S).esat F N T B C) T N (fun e S => (forL g body xs e S).esat F N T B C)) (fun _ _ => False) (fun _ _ => False) fun _ _ => False := by
  show SR.esat F (match g x env S with
    | .nx env1 S1 => match body env1 S1 with
      | .nx env2 S2 => forL g body xs env2 S2
      | .ct env2 S2 => forL g body xs env2 S2
      | .brk env2 S2 => .nx env2 S2
      | .ret d S2 => .ret d S2
      | .exc e env2 S2 => .exc e env2 S2
      | .bad => .bad
    | _ => .bad) N T B C = _
  cases g x env S with
  | nx env1 S1 => simp only [L3.ssat_nx]; cases body env1 S1 <;> simp
  | _ => simp
theorem for_rule {g : GD} {body : SD} (I : Nat → EnvD → Store → Prop) {xs : List D} (h0 : I 0 env S)
    (hs : ∀ j (hj : j < xs.length) e S, I j e S → (g xs[j] e S).sat (fun e S => (body e S).esat F (I (j + 1)) T N (I (j + 1))) (fun _ _ => False) (fun _ _ => False) fun _ _ => False)
    (hN : ∀ e S, I xs.length e S → N e S) : (forL g body xs env S).esat F N T B C := by
  induction xs generalizing I env S with
  | nil => exact .nx (hN _ _ h0)
  | cons x xs ih =>
    rw [forL_cons]
    refine L3.ssat_mono (hs 0 (by simp) env S h0) (fun e1 S1 h => ?_) (fun _ _ h => h) (fun _ _ h => h) (fun _ _ h => h)
    have go : ∀ e S, I 1 e S → (forL g body xs e S).esat F N T B C := fun e S h =>
      ih (fun j => I (j + 1)) h (fun j hj e S h => by
        have := hs (j + 1) (by simp; omega) e S h
        simpa using this) (fun e S h => hN e S (by simpa using h))
    exact ssat_mono h (fun _ _ _ h => h) go (fun _ _ h => h) (fun _ _ h => h) go
theorem for_each {g : GD} {body : SD} (I : EnvD → Store → Prop) {xs : List D} (h0 : I env S)
    (hs : ∀ x ∈ xs, ∀ e S, I e S → (g x e S).sat (fun e S => (body e S).esat F I T N I) (fun _ _ => False) (fun _ _ => False) fun _ _ => False)
    (hN : ∀ e S, I e S → N e S) : (forL g body xs env S).esat F N T B C :=
  for_rule (fun _ => I) h0 (fun j hj e S h => hs _ (List.getElem_mem hj) e S h) hN
theorem for_n {i : Nat} {body : SD} (I : EnvD → Store → Prop) {xs : List D} (h0 : I env S)
    (hs : ∀ x ∈ xs, ∀ e S, I e S → (body (e.set i (some x)) S).esat F I T N I) (hN : ∀ e S, I e S → N e S) : (forL (gName i) body xs env S).esat F N T B C :=
  for_each I h0 (fun x hx e S h => by rw [gName_eq, L3.ssat_nx]; exact hs x hx e S h) hN
theorem seq_rule {a b : SD} (M : EnvD → Store → Prop) (h : (a env S).esat F M T B C) (k : ∀ e S, M e S → (b e S).esat F N T B C) : (sSeq a b env S).esat F N T B C := by
  rw [ssat_seq]; exact ssat_mono h (fun _ _ _ h => h) k (fun _ _ h => h) (fun _ _ h => h) fun _ _ h => h
theorem sat_run {np n : Nat} {body : SD} {xs : List D} : (run np n body xs S).esat E Q = (xs.length = np ∧ (body (xs.map some ++ List.replicate (n - xs.length) none) S).esat (fun e _ S => E e S) (fun _ S => Q .non S) Q (fun _ _ => False) fun _ _ => False) := by
  unfold run; rw [sat_if_bad]; congr
  cases body (xs.map some ++ List.replicate (n - xs.length) none) S <;> simp [SR.fin]
/-- a try that no exception leaves -/
theorem try_rule {b : SD} {hs : List HdD} (h : (b env S).esat (fun x e S => (hdsD hs x e S).sat N T B C) N T B C) : (sTry b hs env S).sat N T B C := by
  unfold sTry
  revert h
  cases b env S with
  | exc x e S1 => intro h; rw [ssat_exc] at h; exact h
  | nx e S1 => intro h; rw [ssat_nx] at h; exact .nx h
  | ret d S1 => intro h; rw [ssat_ret] at h; exact .ret h
  | brk e S1 => intro h; rw [ssat_brk] at h; exact .brk h
  | ct e S1 => intro h; rw [ssat_ct] at h; exact .ct h
  | bad => intro h; cases h
theorem step_ret {c : TD} {a : ED} {r t : SD} (hc : c env S = .ok true S1) (h : (a env S1).esat (fun e S => F e env S) T) : (sSeq (sIf c (sRet a) t) r env S).esat F N T B C := by
  rw [ssat_seq, ssat_if, hc, sat_ok, if_pos rfl, ssat_sRet]; exact h
theorem step_no {c : TD} {r s : SD} (hc : c env S = .ok false S1) (h : (r env S1).esat F N T B C) : (sSeq (sIf c s sSkip) r env S).esat F N T B C := by
  rw [ssat_seq, ssat_if, hc, sat_ok, if_neg Bool.false_ne_true, ssat_skip]; exact h
theorem step_yes {c : TD} {r s t : SD} (hc : c env S = .ok true S1) (h : (sSeq s r env S1).esat F N T B C) : (sSeq (sIf c s t) r env S).esat F N T B C := by
  rw [ssat_seq, ssat_if, hc, sat_ok, if_pos rfl, ← ssat_seq]; exact h
theorem step_asg {a : ED} {r : SD} {d : D} {g : GD} {env' : EnvD} {S2 : Store} (ha : a env S = .ok d S1) (hg : g d env S1 = .nx env' S2) (h : (r env' S2).esat F N T B C) : (sSeq (sAsg a g) r env S).esat F N T B C := by
  rw [ssat_seq, ssat_asg, ha, sat_ok, hg, ssat_nx]; exact h
theorem step_expr {a : ED} {r : SD} {d : D} (ha : a env S = .ok d S1) (h : (r env S1).esat F N T B C) : (sSeq (sExpr a) r env S).esat F N T B C := by
  rw [ssat_seq, ssat_sExpr, ha, sat_ok]; exact h
end
end L3.X
set_option Elab.async false
set_option linter.all false
set_option maxRecDepth 100000
set_option maxHeartbeats 4000000
/-! L9A: places in programs (no program in sight). -/
namespace L3
open PySem L2
/-- objects may have come, none has changed -/
structure Grow (S S' : Store) : Prop where
  le : S.length ≤ S'.length
  fr : ∀ (i : Nat) (o : O), S[i]? = some o → S'[i]? = some o
theorem Grow.refl (S : Store) : Grow S S := ⟨Nat.le_refl _, fun _ _ h => h⟩
theorem Grow.trans {S S' S'' : Store} (a : Grow S S') (b : Grow S' S'') : Grow S S'' := ⟨Nat.le_trans a.le b.le, fun i o h => b.fr i o (a.fr i o h)⟩
theorem Grow.app (S : Store) (o : O) : Grow S (S ++ [o]) := ⟨by simp, fun m o' e => by rw [List.getElem?_append_left (List.getElem?_eq_some_iff.mp e).1]; exact e⟩
theorem Grow.put {S S' : Store} (h : Grow S S') {p : Nat} (hp : S.length ≤ p) (o : O) : Grow S (S'.set p o) := by
  refine ⟨by simpa using h.le, fun m o' e => ?_⟩
  have := (List.getElem?_eq_some_iff.mp e).1
  rw [List.getElem?_set_ne (by omega)]; exact h.fr m o' e
theorem Grow.hand {S S' : Store} {n : Nat} (x : Grow S S') (h : Hand n S) : FrH n S S' := ⟨x.le, fun i o _ h => x.fr i o h, let ⟨g, s, e⟩ := h; ⟨g, s, x.fr _ _ e⟩⟩
theorem set_last {S : Store} {a b : O} : (S ++ [a]).set S.length b = S ++ [b] := by
  rw [List.set_append_right _ _ (Nat.le_refl _)]; simp
theorem cutL_lo {l : List D} {i : Nat} (h : i ≤ l.length) : cutL l none (some (i : Int)) = l.take i := by
  unfold cutL
  rw [HT.sIx_none, HT.sIx_nat]
  simp [Nat.min_eq_left h]
theorem cutL_hi {l : List D} {i : Nat} (h : i ≤ l.length) : cutL l (some (i : Int)) none = l.drop i := by
  unfold cutL
  rw [HT.sIx_none, HT.sIx_nat, Nat.min_eq_left h, List.take_of_length_le (by simp)]
/-! ### places -/
def Tm.parts : Tm → List Tm
  | .num _ => []
  | .nam _ => []
  | .nd _ _ ps => ps
def Tm.w : Tm → D
  | .num _ => .str "num"
  | .nam _ => .str "name"
  | .nd w _ _ => .str w
def Tm.m : Tm → D
  | .num i => .int i
  | .nam s => .str s
  | .nd _ m _ => .str m
theorem Tm.d_eq (t : Tm) : t.d = .tup [t.w, t.m, .tup (Tm.ds t.parts)] := by cases t <;> rfl
theorem Tm.sizes_mem {u : Tm} : ∀ {ts : List Tm}, u ∈ ts → u.size ≤ Tm.sizes ts
  | t :: ts, h => by
    simp only [Tm.sizes]
    rcases List.mem_cons.mp h with rfl | h
    · omega
    · have := Tm.sizes_mem h; omega
theorem Tm.size_eq (t : Tm) : t.size = 1 + Tm.sizes t.parts := by cases t <;> simp [Tm.size, Tm.parts, Tm.sizes]
theorem Tm.dep_eq (t : Tm) : t.dep = 1 + Tm.deps t.parts := by cases t <;> simp [Tm.dep, Tm.parts, Tm.deps]
/-- what stands at a place -/
def Tm.at : Tm → List Nat → Option Tm
  | t, [] => some t
  | t, i :: q => (t.parts[i]?).bind fun u => u.at q
theorem Tm.at_app : ∀ (q r : List Nat) (t : Tm), t.at (q ++ r) = (t.at q).bind fun u => u.at r
  | [], r, t => rfl
  | i :: q, r, t => by
    simp only [List.cons_append, Tm.at]
    cases t.parts[i]? with
    | none => rfl
    | some u => exact Tm.at_app q r u
def pl (q : List Nat) : D := .tup (q.map fun i : Nat => .int (i : Int))
theorem pl_inj {q r : List Nat} (h : pl q = pl r) : q = r := by
  simp only [pl, D.tup.injEq] at h
  exact List.map_inj_right (f := fun i : Nat => D.int (i : Int)) (fun a b e => by have := D.int.inj e; omega) |>.mp h
mutual
/-- all places -/
def Tm.spots : Tm → List (List Nat)
  | .num _ => [[]]
  | .nam _ => [[]]
  | .nd _ _ ps => [] :: Tm.spotsL 0 ps
def Tm.spotsL : Nat → List Tm → List (List Nat)
  | _, [] => []
  | k, t :: ts => t.spots.map (k :: ·) ++ Tm.spotsL (k + 1) ts
end
theorem Tm.spots_eq (t : Tm) : t.spots = [] :: Tm.spotsL 0 t.parts := by cases t <;> simp [Tm.spots, Tm.parts, Tm.spotsL]
theorem Tm.spotsL_mem {q : List Nat} : ∀ {ts : List Tm} {k : Nat}, q ∈ Tm.spotsL k ts ↔ ∃ i r u, q = (k + i) :: r ∧ ts[i]? = some u ∧ r ∈ u.spots
  | [], k => by simp [Tm.spotsL]
  | t :: ts, k => by
    simp only [Tm.spotsL, List.mem_append, List.mem_map]
    rw [Tm.spotsL_mem (ts := ts) (k := k + 1)]
    constructor
    · rintro (⟨r, hr, rfl⟩ | ⟨i, r, u, rfl, h1, h2⟩)
      · exact ⟨0, r, t, rfl, rfl, hr⟩
      · exact ⟨i + 1, r, u, by rw [show k + (i + 1) = k + 1 + i by omega], by simpa using h1, h2⟩
    · rintro ⟨i, r, u, rfl, h1, h2⟩
      cases i with
      | zero => simp only [List.getElem?_cons_zero, Option.some.injEq] at h1; subst h1; exact .inl ⟨r, h2, rfl⟩
      | succ i => exact .inr ⟨i, r, u, by rw [show k + (i + 1) = k + 1 + i by omega], by simpa using h1, h2⟩
theorem Tm.spots_at : ∀ {q : List Nat} {t : Tm}, q ∈ t.spots ↔ ∃ u, t.at q = some u
  | [], t => by rw [Tm.spots_eq]; simp [Tm.at]
  | i :: q, t => by
    rw [Tm.spots_eq, List.mem_cons]
    have e : (i :: q = []) = False := by simp
    rw [e, false_or, Tm.spotsL_mem]
    simp only [Tm.at]
    constructor
    · rintro ⟨j, r, u, e, h1, h2⟩
      simp only [Nat.zero_add, List.cons.injEq] at e
      obtain ⟨rfl, rfl⟩ := e
      obtain ⟨v, hv⟩ := Tm.spots_at.mp h2
      exact ⟨v, by rw [h1]; exact hv⟩
    · rintro ⟨v, hv⟩
      cases h1 : t.parts[i]? with
      | none => rw [h1] at hv; cases hv
      | some u =>
        rw [h1] at hv
        exact ⟨i, q, u, by simp, h1, Tm.spots_at.mpr ⟨v, hv⟩⟩
mutual
theorem Tm.spots_len : ∀ t : Tm, t.spots.length = t.size
  | .num _ => rfl
  | .nam _ => rfl
  | .nd _ _ ps => by simp only [Tm.spots, List.length_cons, Tm.size]; rw [Tm.spotsL_len ps 0]; omega
theorem Tm.spotsL_len : ∀ (ts : List Tm) (k : Nat), (Tm.spotsL k ts).length = Tm.sizes ts
  | [], k => rfl
  | t :: ts, k => by simp only [Tm.spotsL, List.length_append, List.length_map, Tm.sizes]; rw [Tm.spots_len t, Tm.spotsL_len ts (k + 1)]
end
theorem Tm.at_dep : ∀ {q : List Nat} {t u : Tm}, t.at q = some u → q.length + u.dep ≤ t.dep
  | [], t, u, h => by simp only [Tm.at, Option.some.injEq] at h; subst h; simp
  | i :: q, t, u, h => by
    simp only [Tm.at] at h
    cases h1 : t.parts[i]? with
    | none => rw [h1] at h; cases h
    | some v =>
      rw [h1] at h
      have := Tm.at_dep (q := q) h
      have := (Tm.deps_le (B := Tm.deps t.parts)).mp (Nat.le_refl _) v (List.mem_of_getElem? h1)
      rw [Tm.dep_eq t]
      simp only [List.length_cons]; omega
/-- a program with another thing at a place -/
def Tm.ex (x : D) : List Nat → Tm → D
  | [], _ => x
  | i :: q, t => .tup [t.w, t.m, .tup ((Tm.ds t.parts).take i ++ ((t.parts[i]?).map (Tm.ex x q)).toList ++ (Tm.ds t.parts).drop (i + 1))]
theorem Tm.ds_get {ts : List Tm} {i : Nat} : (Tm.ds ts)[i]? = (ts[i]?).map Tm.d := by rw [Tm.ds_map, List.getElem?_map]
theorem Tm.ex_self : ∀ {q : List Nat} {t u : Tm}, t.at q = some u → Tm.ex u.d q t = t.d
  | [], t, u, h => by simp only [Tm.at, Option.some.injEq] at h; subst h; rfl
  | i :: q, t, u, h => by
    simp only [Tm.at] at h
    cases h1 : t.parts[i]? with
    | none => rw [h1] at h; cases h
    | some v =>
      rw [h1] at h
      have e := Tm.ex_self (q := q) (t := v) (u := u) h
      unfold Tm.ex
      rw [h1]
      simp only [Option.map_some, Option.toList_some]
      rw [e, Tm.d_eq t]
      have hl : i < (Tm.ds t.parts).length := by rw [Tm.ds_len]; exact (List.getElem?_eq_some_iff.mp h1).1
      have hd : (Tm.ds t.parts)[i] = v.d := by
        have := Tm.ds_get (ts := t.parts) (i := i)
        rw [List.getElem?_eq_getElem hl, h1] at this
        simpa using this
      congr 4
      rw [← hd, List.append_assoc, List.singleton_append, ← List.drop_eq_getElem_cons hl, List.take_append_drop]
end L3
set_option Elab.async false
set_option linter.all false
set_option maxRecDepth 100000
set_option maxHeartbeats 4000000
/-! L9B: what walks down a program. -/
namespace L3
open PySem L2
local macro_rules | `(tactic| open_k) => `(tactic| simp only [ssat_seq, ssat_asg, ssat_sRet, ssat_sExpr, ssat_if, ssat_skip, ssat_par, ssat_nx, ssat_ret, ssat_for, sat_e2, sat_e1, sat_eN, sat_aCons, sat_aNil, sat_eVar, sat_eK, sat_tOfE, sat_tTruth, sat_tNot, sat_tAnd, sat_tOr, sat_eIf, sat_eBM, sat_iSeq, sat_iArgs, sat_eAnd, sat_eOr, sat_eNot, sat_eChain, sat_eSl, sat_pNo, sat_pYes, sat_eLc, sat_eKw, sat_mkTup, sat_mkLst, sat_mkObj, sat_ok, callK_eq, List.append_nil, List.map_cons, List.map_nil, List.length_cons, List.length_nil, List.replicate, List.getElem?_cons_succ, List.getElem?_cons_zero, List.cons_append, List.nil_append, List.set_cons_succ, List.set_cons_zero, gName_eq, gTup_tup, gNames_cons, gNames_nil, Nat.zero_add, Nat.reduceAdd, Nat.reduceSub, sz0, sz1, sz2, sz3, sz4, sz5, sz6, sz7, sz8, sz10, sz17, true_and, add_int, sub_int, neg_int, lt_int, le_int, gt_int, ge_int, eq_int, ne_int, blD_bl, truthD_bl, itemsD_lst, itemsD_tup, wipeD, eq_strs, ne_strs, sl_tup, sl_lst, if_true, if_false, Bool.false_eq_true, sat_range1, sat_range2, tuple_lst, tuple_tup, len_tup, len_lst, len_scr, D.int.injEq, exists_eq_left', mt_str])
variable {S : Store}
/-- things to be looked at -/
inductive Pln : D → Prop where
  | non : Pln .non
  | bl (b : Bool) : Pln (.bl b)
  | int (i : Int) : Pln (.int i)
  | str (s : Str) : Pln (.str s)
  | tup (l : List D) : Pln (.tup l)
  | lst (l : List D) : Pln (.lst l)
  | dic : Pln (.dic [] [])
def isI : D → Bool
  | .int _ => true
  | _ => false
def numOk (y : D) (h : Int) : Bool := match y with
  | .int i => decide (0 ≤ i) && decide (i ≤ h)
  | _ => false
def mIsWhole : SD := sRet (eAnd (eN isiD (aCons (eVar 0) (aCons (eK (.ty "int")) (aNil)))) (eNot (eN isiD (aCons (eVar 0) (aCons (eK (.ty "bool")) (aNil))))))
def mIsNumber (isw : FN) : SD := sRet (eAnd (eN (callK isw []) (aCons (eVar 0) (aNil))) (eChain leD leD (eVar 1) (eVar 0) (eVar 2)))
def IsWholeF (f : FN) : Prop := ∀ (y : D) (S : Store), Pln y → f [y] S = .ok (.bl (isI y)) S
theorem isWholeF : IsWholeF (run 1 1 mIsWhole) := fun y S h => by
  apply of_sat
  rw [sat_run]
  refine ⟨rfl, ?_⟩
  unfold mIsWhole
  cases h <;> simp [isI]
def IsNumberF (f : FN) : Prop := ∀ (y : D) (h : Int) (S : Store), Pln y → f [y, .int 0, .int h] S = .ok (.bl (numOk y h)) S
theorem isNumberF {isw : FN} (hw : IsWholeF isw) : IsNumberF (run 3 3 (mIsNumber isw)) := fun y h S p => by
  apply of_sat
  rw [sat_run]
  refine ⟨rfl, ?_⟩
  unfold mIsNumber
  simp only [ssat_sRet, sat_eAnd, sat_eN, sat_aCons, sat_aNil, sat_eVar, List.map_cons, List.map_nil, List.cons_append, List.nil_append, List.length_cons, List.length_nil, List.replicate, Nat.zero_add, Nat.reduceAdd, Nat.reduceSub, List.getElem?_cons_succ, List.getElem?_cons_zero, callK_eq, List.append_nil]
  rw [hw y S p, sat_ok, blD_bl, sat_ok]
  cases p <;> simp [isI, numOk]
  split <;> simp_all
  intro _
  omega
/-! at -/
def mAt (isn : FN) : SD :=
    sSeq (sIf (tNot (tTruth (eN isiD (aCons (eVar 1) (aCons (eK (.ty "tuple")) (aNil)))))) (sRaise1 "NoPlace" "place" (eVar 1)) (sSkip))
    (sSeq (sAsg (eVar 0) (gName 2))
    (sSeq (sFor (iSeq (eVar 1)) (gName 3) (sSeq (sIf (tNot (tTruth (eKw (kwK isn 1 1 (fun ds es => gat3 [(0, 0), (1, 0), (2, 0)] ds [.int 0] es)) (aCons (eVar 3) (aNil)) (aCons (e2 subD (eN lenD (aCons (e2 ixD (eVar 2) (eK (.int 2))) (aNil))) (eK (.int 1))) (aNil))))) (sRaise1 "NoPlace" "place" (eVar 1)) (sSkip))
    (sAsg (e2 ixD (e2 ixD (eVar 2) (eK (.int 2))) (eVar 3)) (gName 2))))
    (sRet (eVar 2))))
theorem ix_parts (t : Tm) : ixD t.d (.int 2) S = .ok (.tup (Tm.ds t.parts)) S := by rw [Tm.d_eq]; rfl
theorem ix_nat {l : List D} {i : Nat} {d : D} (h : l[i]? = some d) : ixD (.tup l) (.int (i : Int)) S = .ok d S := by
  have hl := (List.getElem?_eq_some_iff.mp h).1
  simp only [ixD, atI, ixN]
  have e1 : (if (i : Int) < 0 then (i : Int) + l.length else i) = i := by rw [if_neg (by omega)]
  simp [hl, (List.getElem?_eq_some_iff.mp h).2]
/-- a place where nothing stands: none, or down to a thing and then a number that it hasn't -/
inductive NoPl (t : Tm) : D → Prop where
  | not {x : D} : Pln x → (∀ l, x ≠ .tup l) → NoPl t x
  | deep {q : List Nat} {u : Tm} {y : D} : t.at q = some u → Pln y → numOk y ((u.parts.length : Int) - 1) = false → NoPl t (.tup ((q.map fun i : Nat => D.int (i : Int)) ++ [y]))
def noP (x : D) : Ex := ⟨"NoPlace", [("place", x)]⟩
def mAtB (isn : FN) : SD := sSeq (sIf (tNot (tTruth (eKw (kwK isn 1 1 (fun ds es => gat3 [(0, 0), (1, 0), (2, 0)] ds [.int 0] es)) (aCons (eVar 3) (aNil)) (aCons (e2 subD (eN lenD (aCons (e2 ixD (eVar 2) (eK (.int 2))) (aNil))) (eK (.int 1))) (aNil))))) (sRaise1 "NoPlace" "place" (eVar 1)) (sSkip))
    (sAsg (e2 ixD (e2 ixD (eVar 2) (eK (.int 2))) (eVar 3)) (gName 2))
theorem at_look {isn : FN} (hn : IsNumberF isn) {a b : Option D} {v : Tm} {z : D} (hz : Pln z) :
    (tNot (tTruth (eKw (kwK isn 1 1 (fun ds es => gat3 [(0, 0), (1, 0), (2, 0)] ds [.int 0] es)) (aCons (eVar 3) (aNil)) (aCons (e2 subD (eN lenD (aCons (e2 ixD (eVar 2) (eK (.int 2))) (aNil))) (eK (.int 1))) (aNil))))) [a, b, some v.d, some z] S = .ok (!numOk z ((v.parts.length : Int) - 1)) S := by
  apply of_sat
  simp only [sat_tNot, sat_tTruth, sat_eKw, sat_aCons, sat_aNil, sat_eVar, sat_e2, sat_eN, sat_eK, List.getElem?_cons_succ, List.getElem?_cons_zero]
  rw [ix_parts, sat_ok, len_tup, sat_ok, sub_int, sat_ok, Tm.ds_len]
  have e : kwK isn 1 1 (fun ds es => gat3 [(0, 0), (1, 0), (2, 0)] ds [.int 0] es) [z] [.int ((v.parts.length : Int) - 1)] S = isn [z, .int 0, .int ((v.parts.length : Int) - 1)] S := rfl
  rw [e, hn z _ S hz, sat_ok, truthD_bl, sat_ok]
  exact ⟨rfl, rfl⟩
theorem at_step {isn : FN} (hn : IsNumberF isn) {a b : Option D} {v v' : Tm} {i : Nat} (h : v.parts[i]? = some v') :
    (mAtB isn [a, b, some v.d, some (.int (i : Int))] S).sat (fun e S' => e = [a, b, some v'.d, some (.int (i : Int))] ∧ S' = S) (fun _ _ => False) (fun _ _ => False) fun _ _ => False := by
  have hl := (List.getElem?_eq_some_iff.mp h).1
  unfold mAtB
  refine step_no (S1 := S) ?_ ?_
  · rw [at_look hn (.int _)]
    have : numOk (.int (i : Int)) ((v.parts.length : Int) - 1) = true := by simp only [numOk, Bool.and_eq_true, decide_eq_true_eq]; omega
    rw [this]; rfl
  simp only [ssat_asg, sat_e2, sat_eVar, sat_eK, List.getElem?_cons_succ, List.getElem?_cons_zero]
  rw [ix_parts, sat_ok, ix_nat (d := v'.d) (by rw [Tm.ds_get, h]; rfl), sat_ok, gName_eq, ssat_nx]
  exact ⟨rfl, rfl⟩
theorem at_stop {isn : FN} (hn : IsNumberF isn) {a : Option D} {x z : D} {v : Tm} (hz : Pln z) (h : numOk z ((v.parts.length : Int) - 1) = false) :
    mAtB isn [a, some x, some v.d, some z] S = .exc (noP x) [a, some x, some v.d, some z] S := by
  unfold mAtB sSeq sIf
  rw [at_look hn hz, h]
  rfl
theorem Tm.at_take {t u : Tm} {q : List Nat} (h : t.at q = some u) {j : Nat} (hj : j < q.length) {v : Tm} (hv : t.at (q.take j) = some v) : ∃ v', v.parts[q[j]]? = some v' ∧ t.at (q.take (j + 1)) = some v' := by
  have e1 : q = q.take (j + 1) ++ q.drop (j + 1) := (List.take_append_drop _ _).symm
  rw [e1, Tm.at_app] at h
  cases h2 : t.at (q.take (j + 1)) with
  | none => rw [h2] at h; cases h
  | some v' =>
    refine ⟨v', ?_, rfl⟩
    rw [List.take_succ_eq_append_getElem hj, Tm.at_app, hv] at h2
    simp only [Option.bind_some, Tm.at] at h2
    cases h3 : v.parts[q[j]]? with
    | none => rw [h3] at h2; cases h2
    | some w => rw [h3] at h2; simpa using h2
def IsAt (f : FN) : Prop := (∀ {t u : Tm} {q : List Nat} (S : Store), t.at q = some u → f [t.d, pl q] S = .ok u.d S) ∧ ∀ {t : Tm} {x : D} (S : Store), NoPl t x → f [t.d, x] S = .exc (noP x) S
theorem isi_tupF {x : D} (h : Pln x) (n : ∀ l, x ≠ .tup l) : isiD [x, .ty "tuple"] S = .ok (.bl false) S := by
  cases h with
  | tup l => exact absurd rfl (n l)
  | _ => kernel_rfl
theorem exc_of {α : Type} {r : R α} {x : Ex} (h : r.esat (fun e S' => e = x ∧ S' = S) fun _ _ => False) : r = .exc x S := by
  cases h with
  | mk h => exact h.elim
  | ex h => obtain ⟨rfl, rfl⟩ := h; rfl
theorem itsAt {isn : FN} (hn : IsNumberF isn) : IsAt (run 2 4 (mAt isn)) := by
  refine ⟨fun {t u q} S h => ?_, fun {t x} S h => ?_⟩
  · apply of_sat
    rw [sat_run]
    refine ⟨rfl, ?_⟩
    unfold mAt
    refine step_no (S1 := S) (of_sat (by simp [pl])) ?_
    refine step_asg (S1 := S) (S2 := S) (d := t.d) (of_sat (by simp)) rfl ?_
    refine seq_rule (fun e S' => e = [some t.d, some (pl q), some u.d, e.getD 3 none] ∧ S' = S) ?_ ?_
    · simp only [ssat_for, sat_iSeq, sat_eVar, List.map_cons, List.map_nil, List.cons_append, List.nil_append, List.length_cons, List.length_nil, List.replicate, Nat.zero_add, Nat.reduceAdd, Nat.reduceSub, List.set_cons_succ, List.set_cons_zero, List.getElem?_cons_succ, List.getElem?_cons_zero, pl, itemsD_tup, sat_ok]
      refine for_rule (fun j e S' => (∃ a v, t.at (q.take j) = some v ∧ e = [some t.d, some (pl q), some v.d, a]) ∧ S' = S) ⟨⟨_, t, by simp [Tm.at], rfl⟩, rfl⟩ ?_ ?_
      · rintro j hj e S' ⟨⟨a, v, hv, rfl⟩, rfl⟩
        simp only [List.length_map] at hj
        obtain ⟨v', h1, h2⟩ := Tm.at_take h hj hv
        simp only [gName_eq, ssat_nx, List.set_cons_succ, List.set_cons_zero, List.getElem_map]
        exact ssat_mono (at_step hn h1) (fun e S' ⟨h3, h4⟩ => ⟨⟨_, v', h2, h3⟩, h4⟩) (fun _ _ h => h.elim) (fun _ _ h => h.elim) fun _ _ h => h.elim
      · rintro e S' ⟨⟨a, v, hv, rfl⟩, rfl⟩
        simp only [List.length_map, List.take_length, h, Option.some.injEq] at hv
        subst hv
        exact ⟨rfl, rfl⟩
    · rintro e S' ⟨h, rfl⟩
      rw [h]
      simp
  · apply exc_of
    rw [X.sat_run]
    refine ⟨rfl, ?_⟩
    unfold mAt
    cases h with
    | not hp hne =>
      simp only [X.ssat_seq, X.ssat_if, X.sat_tNot, X.sat_tTruth, X.sat_eN, X.sat_aCons, X.sat_aNil, X.sat_eVar, X.sat_eK, List.map_cons, List.map_nil, List.cons_append, List.nil_append, List.length_cons, List.length_nil, List.replicate, Nat.zero_add, Nat.reduceAdd, Nat.reduceSub, List.getElem?_cons_succ, List.getElem?_cons_zero]
      rw [isi_tupF hp hne]
      simp [noP]
    | @deep q u y hq hp hno =>
      refine X.step_no (S1 := S) (of_sat (by simp)) ?_
      refine X.step_asg (S1 := S) (S2 := S) (d := t.d) (of_sat (by simp)) rfl ?_
      rw [X.ssat_seq]
      simp only [X.ssat_for, X.sat_iSeq, X.sat_eVar, List.map_cons, List.map_nil, List.cons_append, List.nil_append, List.length_cons, List.length_nil, List.replicate, Nat.zero_add, Nat.reduceAdd, Nat.reduceSub, List.set_cons_succ, List.set_cons_zero, List.getElem?_cons_succ, List.getElem?_cons_zero, itemsD_tup, X.sat_ok]
      generalize hx : (D.tup ((q.map fun i : Nat => D.int (i : Int)) ++ [y])) = x
      refine X.for_rule (fun j e S' => (j ≤ q.length ∧ ∃ a v, t.at (q.take j) = some v ∧ e = [some t.d, some x, some v.d, a]) ∧ S' = S) ⟨⟨by simp, _, t, by simp [Tm.at], rfl⟩, rfl⟩ ?_ ?_
      · rintro j hj e S' ⟨⟨hle, a, v, hv, rfl⟩, rfl⟩
        simp only [gName_eq, ssat_nx, List.set_cons_succ, List.set_cons_zero]
        by_cases hlt : j < q.length
        · obtain ⟨v', h1, h2⟩ := Tm.at_take hq hlt hv
          have e1 : ((q.map fun i : Nat => D.int (i : Int)) ++ [y])[j] = .int (q[j] : Int) := by rw [List.getElem_append_left (by simpa using hlt), List.getElem_map]
          rw [e1]
          exact X.of_ssat (ssat_mono (at_step hn h1) (fun e S' ⟨h3, h4⟩ => ⟨⟨hlt, _, v', h2, h3⟩, h4⟩) (fun _ _ h => h.elim) (fun _ _ h => h.elim) fun _ _ h => h.elim)
        · have hjq : j = q.length := by omega
          subst hjq
          rw [List.take_length, hq] at hv
          simp only [Option.some.injEq] at hv
          subst hv
          have e1 : ((q.map fun i : Nat => D.int (i : Int)) ++ [y])[q.length] = y := by rw [List.getElem_append_right (by simp)]; simp
          rw [e1]
          have := at_stop (S := S') (a := some t.d) (x := x) hn hp hno
          unfold mAtB at this
          rw [this, X.ssat_exc]
          exact ⟨rfl, rfl⟩
      · rintro e S' ⟨⟨hle, _⟩, _⟩
        simp only [List.length_append, List.length_map, List.length_cons, List.length_nil] at hle
        omega
end L3
set_option Elab.async false
set_option linter.all false
set_option maxRecDepth 100000
set_option maxHeartbeats 4000000
/-! L9C: another thing at a place. -/
namespace L3
open PySem L2
variable {S : Store}
theorem Tm.len_sizes : ∀ ts : List Tm, ts.length ≤ Tm.sizes ts
  | [] => by simp [Tm.sizes]
  | t :: ts => by
    have := Tm.len_sizes ts
    have := Tm.size_pos t
    simp only [Tm.sizes, List.length_cons]; omega
theorem Tm.parts_size {t u : Tm} {i : Nat} (h : t.parts[i]? = some u) : u.size < t.size := by
  have := Tm.sizes_mem (List.mem_of_getElem? h)
  rw [Tm.size_eq t]; omega
theorem Tm.parts_len (t : Tm) : t.parts.length < t.size := by
  have := Tm.len_sizes t.parts
  rw [Tm.size_eq t]; omega
theorem Tm.at_cons {t u : Tm} {i : Nat} {q : List Nat} (h : t.at (i :: q) = some u) : ∃ v, t.parts[i]? = some v ∧ v.at q = some u := by
  simp only [Tm.at] at h
  cases h1 : t.parts[i]? with
  | none => rw [h1] at h; cases h
  | some v => rw [h1] at h; exact ⟨v, rfl, h⟩
def mExchanged (f : FN) : SD :=
    sSeq (sIf (tOfE (e2 eqD (eVar 1) (eN mkTup (aNil)))) (sRet (eVar 2)) (sSkip))
    (sSeq (sAsg (eVar 1) (gStar 1 [3, 4]))
    (sSeq (sAsg (eVar 0) (gTup [5, 6, 7]))
    (sSeq (sAsg (eN (callK f []) (aCons (e2 ixD (eVar 7) (eVar 3)) (aCons (eN tupleD (aCons (eVar 4) (aNil))) (aCons (eVar 2) (aNil))))) (gName 8))
    (sRet (eN mkTup (aCons (eVar 5) (aCons (eVar 6) (aCons (e2 addD (e2 addD (eSl (eVar 7) (pNo) (pYes (eVar 3))) (eN mkTup (aCons (eVar 8) (aNil)))) (eSl (eVar 7) (pYes (e2 addD (eVar 3) (eK (.int 1)))) (pNo))) (aNil)))))))))
def mPut (f : FN) : SD :=
    sSeq (sIf (tOfE (e2 eqD (eVar 1) (eN mkTup (aNil)))) (sRet (eVar 2)) (sSkip))
    (sSeq (sAsg (eVar 0) (gTup [3, 4, 5]))
    (sSeq (sAsg (e2 ixD (eVar 1) (eK (.int 0))) (gName 6))
    (sRet (eN mkTup (aCons (eVar 3) (aCons (eVar 4) (aCons (e2 addD (e2 addD (eSl (eVar 5) (pNo) (pYes (eVar 6))) (eN mkTup (aCons (eN (callK f []) (aCons (e2 ixD (eVar 5) (eVar 6)) (aCons (eSl (eVar 1) (pYes (eK (.int 1))) (pNo)) (aCons (eVar 2) (aNil))))) (aNil)))) (eSl (eVar 5) (pYes (e2 addD (eVar 6) (eK (.int 1)))) (pNo))) (aNil))))))))
def IsEx (f : FN) (n : Nat) : Prop := ∀ {t u : Tm} {q : List Nat} (x : D) (S : Store), q.length < n → t.size ≤ 900 → t.at q = some u → f [t.d, pl q, x] S = .ok (Tm.ex x q t) S
theorem isEx0 (f : FN) : IsEx f 0 := fun x S h => by omega
theorem mkTup1 {d : D} : mkTup [d] S = .ok (.tup [d]) S := by
  apply of_sat; rw [sat_mkTup]; exact ⟨small (by simp), rfl, rfl⟩
theorem mkTup3 {a b c : D} : mkTup [a, b, c] S = .ok (.tup [a, b, c]) S := by
  apply of_sat; rw [sat_mkTup]; exact ⟨small (by simp), rfl, rfl⟩
theorem ex_cons {x : D} {i : Nat} {q : List Nat} {t v : Tm} (h : t.parts[i]? = some v) : Tm.ex x (i :: q) t = .tup [t.w, t.m, .tup ((Tm.ds t.parts).take i ++ [Tm.ex x q v] ++ (Tm.ds t.parts).drop (i + 1))] := by
  rw [Tm.ex, h]; rfl
theorem isEx {f : FN} {n : Nat} (hf : IsEx f n) (hn : n ≤ 1000) : IsEx (run 3 9 (mExchanged f)) (n + 1) := fun {t u q} x S hq hs h => by
  apply of_sat
  rw [sat_run]
  refine ⟨rfl, ?_⟩
  unfold mExchanged
  cases q with
  | nil => refine step_ret (S1 := S) (of_sat (by simp [pl, sz0])) ?_; simp [Tm.ex]
  | cons i q =>
    obtain ⟨v, h1, h2⟩ := Tm.at_cons h
    have hi := (List.getElem?_eq_some_iff.mp h1).1
    have hp := Tm.parts_len t
    simp only [List.length_cons] at hq
    refine step_no (S1 := S) (of_sat (by simp [pl, sz0])) ?_
    refine step_asg (S1 := S) (S2 := S) (d := pl (i :: q)) (of_sat (by simp)) (env' := [some t.d, some (pl (i :: q)), some x, some (.int (i : Int)), some (.lst (q.map fun i : Nat => D.int (i : Int))), none, none, none, none]) ?_ ?_
    · unfold pl gStar
      simp only [List.map_cons, List.length_cons, List.length_map, List.length_nil]
      rw [if_pos (by omega)]
      simp [List.take_of_length_le, List.drop_of_length_le]
    refine step_asg (S1 := S) (S2 := S) (d := t.d) (of_sat (by simp)) (env' := [some t.d, some (pl (i :: q)), some x, some (.int (i : Int)), some (.lst (q.map fun i : Nat => D.int (i : Int))), some t.w, some t.m, some (.tup (Tm.ds t.parts)), none]) ?_ ?_
    · rw [Tm.d_eq]; rfl
    refine step_asg (S1 := S) (S2 := S) (d := Tm.ex x q v) (of_sat ?_) rfl ?_
    · simp only [sat_eN, sat_aCons, sat_aNil, sat_e2, sat_eVar, List.getElem?_cons_succ, List.getElem?_cons_zero, callK_eq, List.append_nil, tuple_lst, sat_ok]
      rw [ix_nat (d := v.d) (by rw [Tm.ds_get, h1]; rfl), sat_ok]
      have := hf (t := v) (u := u) (q := q) x S (by omega) (by have := Tm.parts_size h1; omega) h2
      unfold pl at this
      rw [this, sat_ok]
      exact ⟨rfl, rfl⟩
    · simp only [ssat_sRet, sat_eN, sat_aCons, sat_aNil, sat_e2, sat_eVar, sat_eK, sat_eSl, sat_pNo, sat_pYes, List.set_cons_succ, List.set_cons_zero, List.getElem?_cons_succ, List.getElem?_cons_zero, D.int.injEq, exists_eq_left', sl_tup, sat_ok, mkTup1, add_int]
      have hl : i + 1 ≤ (Tm.ds t.parts).length := by rw [Tm.ds_len]; omega
      have e1 : ((i : Int) + 1) = ((i + 1 : Nat) : Int) := by omega
      rw [e1, cutL_lo (by omega), cutL_hi hl]
      rw [add_tup (small (by simp [Tm.ds_len]; omega)), sat_ok, add_tup (small (by simp [Tm.ds_len]; omega)), sat_ok, mkTup3, sat_ok, ex_cons h1]
      exact ⟨rfl, rfl⟩
theorem isPut {f : FN} {n : Nat} (hf : IsEx f n) (hn : n ≤ 1000) : IsEx (run 3 7 (mPut f)) (n + 1) := fun {t u q} x S hq hs h => by
  apply of_sat
  rw [sat_run]
  refine ⟨rfl, ?_⟩
  unfold mPut
  cases q with
  | nil => refine step_ret (S1 := S) (of_sat (by simp [pl, sz0])) ?_; simp [Tm.ex]
  | cons i q =>
    obtain ⟨v, h1, h2⟩ := Tm.at_cons h
    have hi := (List.getElem?_eq_some_iff.mp h1).1
    have hp := Tm.parts_len t
    simp only [List.length_cons] at hq
    refine step_no (S1 := S) (of_sat (by simp [pl, sz0])) ?_
    refine step_asg (S1 := S) (S2 := S) (d := t.d) (of_sat (by simp)) (env' := [some t.d, some (pl (i :: q)), some x, some t.w, some t.m, some (.tup (Tm.ds t.parts)), none]) ?_ ?_
    · rw [Tm.d_eq]; rfl
    refine step_asg (S1 := S) (S2 := S) (d := .int (i : Int)) (of_sat (by simp only [sat_e2, sat_eVar, sat_eK, List.getElem?_cons_succ, List.getElem?_cons_zero]; exact to_sat (ix_nat (i := 0) (by simp)) ⟨rfl, rfl⟩)) rfl ?_
    simp only [ssat_sRet, sat_eN, sat_aCons, sat_aNil, sat_e2, sat_eVar, sat_eK, sat_eSl, sat_pNo, sat_pYes, List.set_cons_succ, List.set_cons_zero, List.getElem?_cons_succ, List.getElem?_cons_zero, D.int.injEq, exists_eq_left', sl_tup, sat_ok, mkTup1, add_int, callK_eq, List.append_nil]
    have hl : i + 1 ≤ (Tm.ds t.parts).length := by rw [Tm.ds_len]; omega
    rw [ix_nat (d := v.d) (by rw [Tm.ds_get, h1]; rfl), sat_ok]
    have e0 : slD (pl (i :: q)) (some 1) none S = .ok (pl q) S := by
      unfold pl
      rw [sl_tup, show (1 : Int) = ((1 : Nat) : Int) by rfl, cutL_hi (by simp)]
      rfl
    rw [e0, sat_ok, hf (t := v) (u := u) (q := q) x S (by omega) (by have := Tm.parts_size h1; omega) h2, sat_ok]
    have e1 : ((i : Int) + 1) = ((i + 1 : Nat) : Int) := by omega
    rw [e1, cutL_lo (by omega), cutL_hi hl]
    rw [add_tup (small (by simp [Tm.ds_len]; omega)), sat_ok, add_tup (small (by simp [Tm.ds_len]; omega)), sat_ok, mkTup3, sat_ok, ex_cons h1]
    exact ⟨rfl, rfl⟩
/-- f takes the thing (i) and the place (j), and hands out what is put -/
def mPutAt (a x : FN) : SD :=
    sSeq (sExpr (eN (callK a []) (aCons (eVar 0) (aCons (eVar 1) (aNil)))))
    (sRet (eN (callK x []) (aCons (eVar 0) (aCons (eVar 1) (aCons (eVar 2) (aNil))))))
theorem putAt_ok {a x : FN} {n : Nat} (ha : IsAt a) (hx : IsEx x n) {t u : Tm} {q : List Nat} (y : D) (S : Store) (hq : q.length < n) (hs : t.size ≤ 900) (h : t.at q = some u) : run 3 3 (mPutAt a x) [t.d, pl q, y] S = .ok (Tm.ex y q t) S := by
  apply of_sat
  rw [sat_run]
  refine ⟨rfl, ?_⟩
  unfold mPutAt
  refine step_expr (S1 := S) (d := u.d) (of_sat (by simp [ha.1 S h])) ?_
  simp [hx y S hq hs h]
theorem putAt_no {a x : FN} (ha : IsAt a) {t : Tm} {z : D} (y : D) (S : Store) (h : NoPl t z) : run 3 3 (mPutAt a x) [t.d, z, y] S = .exc (noP z) S := by
  apply exc_of
  rw [X.sat_run]
  refine ⟨rfl, ?_⟩
  unfold mPutAt
  simp [ha.2 S h]
def mThere : SD :=
    sSeq (sFor (iSeq (eVar 1)) (gName 2) (sAsg (e2 ixD (e2 ixD (eVar 0) (eK (.int 2))) (eVar 2)) (gName 0)))
    (sRet (eVar 0))
theorem there_ok {t u : Tm} {q : List Nat} (S : Store) (h : t.at q = some u) : run 2 3 mThere [t.d, pl q] S = .ok u.d S := by
  apply of_sat
  rw [sat_run]
  refine ⟨rfl, ?_⟩
  unfold mThere
  refine seq_rule (fun e S' => (∃ a b, e = [some u.d, a, b]) ∧ S' = S) ?_ ?_
  · simp only [ssat_for, sat_iSeq, sat_eVar, List.map_cons, List.map_nil, List.cons_append, List.nil_append, List.length_cons, List.length_nil, List.replicate, Nat.zero_add, Nat.reduceAdd, Nat.reduceSub, List.set_cons_succ, List.set_cons_zero, List.getElem?_cons_succ, List.getElem?_cons_zero, pl, itemsD_tup, sat_ok]
    refine for_rule (fun j e S' => (∃ a b v, t.at (q.take j) = some v ∧ e = [some v.d, a, b]) ∧ S' = S) ⟨⟨_, _, t, by simp [Tm.at], rfl⟩, rfl⟩ ?_ ?_
    · rintro j hj e S' ⟨⟨a, b, v, hv, rfl⟩, rfl⟩
      simp only [List.length_map] at hj
      obtain ⟨v', h1, h2⟩ := Tm.at_take h hj hv
      simp only [gName_eq, ssat_nx, List.set_cons_succ, List.set_cons_zero, List.getElem_map, ssat_asg, sat_e2, sat_eVar, sat_eK, List.getElem?_cons_succ, List.getElem?_cons_zero]
      rw [ix_parts, sat_ok, ix_nat (d := v'.d) (by rw [Tm.ds_get, h1]; rfl), sat_ok]
      simp only [ssat_nx]
      exact ⟨⟨_, _, v', h2, rfl⟩, trivial⟩
    · rintro e S' ⟨⟨a, b, v, hv, rfl⟩, rfl⟩
      simp only [List.length_map, List.take_length, h, Option.some.injEq] at hv
      subst hv
      exact ⟨⟨_, _, rfl⟩, rfl⟩
  · rintro e S' ⟨⟨a, b, rfl⟩, rfl⟩
    simp
end L3
set_option Elab.async false
set_option linter.all false
set_option maxRecDepth 100000
set_option maxHeartbeats 4000000
/-! L9D: sorting places. -/
namespace L3
open PySem L2
open PySem.W (alike alikeAll keyToks keyToksAll)
open PyProof.Rows (itemOrd)
def eInts (q : List Nat) : List PyData := q.map fun i : Nat => .int (i : Int)
theorem toPyL_ints : ∀ q : List Nat, toPyL (q.map fun i : Nat => D.int (i : Int)) = some (eInts q)
  | [] => rfl
  | i :: q => by simp only [List.map_cons, toPyL, toPy, toPyL_ints q]; rfl
theorem toPy_pl (q : List Nat) : toPy (pl q) = some (.tuple (eInts q)) := by
  unfold pl; simp only [toPy, toPyL_ints]; rfl
theorem enc_pl (q : List Nat) : encD (pl q) = .tuple (eInts q) := by unfold encD; rw [toPy_pl]; rfl
theorem alike_ints : ∀ q r : List Nat, alikeAll (eInts q) (eInts r) = true
  | [], r => by unfold eInts; simp [alikeAll]
  | _ :: _, [] => by unfold eInts; simp [alikeAll]
  | i :: q, j :: r => by
    have := alike_ints q r
    unfold eInts at this ⊢
    simp [alikeAll, alike, this]
theorem depth_ints : ∀ q : List Nat, PyData.depthAll (eInts q) = 0
  | [] => by simp [eInts, PyData.depthAll]
  | i :: q => by
    have := depth_ints q
    unfold eInts at this ⊢
    simp [PyData.depthAll, PyData.depth, this]
theorem toks_ints : ∀ q r : List Nat, keyToksAll (eInts q) = keyToksAll (eInts r) → q = r
  | [], [], _ => rfl
  | [], _ :: _, h => by unfold eInts at h; simp [keyToksAll] at h
  | _ :: _, [], h => by unfold eInts at h; simp [keyToksAll] at h
  | i :: q, j :: r, h => by
    have ih := toks_ints q r
    unfold eInts at h ih
    simp only [List.map_cons, keyToksAll, keyToks, List.cons_append, List.nil_append, List.cons.injEq, true_and, Sum.inl.injEq] at h
    rw [ih h.2]
    congr 1
    have := h.1
    omega
theorem srt_trans (a b c : D) (h1 : srtLe a b = true) (h2 : srtLe b c = true) : srtLe a c = true := by
  unfold srtLe PySem.W.dataLt at *
  simp only [Bool.not_eq_true'] at *
  cases h : PyProof.Rows.lexLt itemOrd (keyToks (encD c)) (keyToks (encD a)) with
  | false => rfl
  | true =>
    rcases (PyProof.Rows.listOrd itemOrd).negTrans _ (keyToks (encD b)) _ h with h | h
    · exact absurd (h2.symm.trans h) (by simp)
    · exact absurd (h1.symm.trans h) (by simp)
theorem srt_total (a b : D) : (srtLe a b || srtLe b a) = true := by
  unfold srtLe PySem.W.dataLt
  cases h1 : PyProof.Rows.lexLt itemOrd (keyToks (encD b)) (keyToks (encD a)) with
  | false => rfl
  | true =>
    cases h2 : PyProof.Rows.lexLt itemOrd (keyToks (encD a)) (keyToks (encD b)) with
    | false => rfl
    | true =>
      have := (PyProof.Rows.listOrd itemOrd).trans _ _ _ h1 h2
      rw [(PyProof.Rows.listOrd itemOrd).irrefl] at this
      cases this
theorem srt_pl {q r : List Nat} (h1 : srtLe (pl q) (pl r) = true) (h2 : srtLe (pl r) (pl q) = true) : q = r := by
  unfold srtLe PySem.W.dataLt at *
  simp only [Bool.not_eq_true', enc_pl] at *
  have := (PyProof.Rows.listOrd itemOrd).total _ _ h2 h1
  simp only [keyToks] at this
  exact toks_ints _ _ this
/-- places, sorted: the same whatever order they come in -/
theorem sort_perm {l m : List (List Nat)} (h : l.Perm m) : sortL (l.map pl) = sortL (m.map pl) := by
  unfold sortL
  have p : ((l.map pl).mergeSort srtLe).Perm ((m.map pl).mergeSort srtLe) := (List.mergeSort_perm _ _).trans ((h.map pl).trans (List.mergeSort_perm _ _).symm)
  refine List.Perm.eq_of_pairwise (le := fun a b => srtLe a b = true) ?_ (List.pairwise_mergeSort srt_trans srt_total _) (List.pairwise_mergeSort srt_trans srt_total _) p
  intro a b ha hb h1 h2
  obtain ⟨q, _, rfl⟩ := List.mem_map.mp ((List.mergeSort_perm _ _).mem_iff.mp ha)
  obtain ⟨r, _, rfl⟩ := List.mem_map.mp ((List.mergeSort_perm _ _).mem_iff.mp hb)
  rw [srt_pl h1 h2]
theorem sort_ok {l : List (List Nat)} (h : l.head? = some []) (hz : l.length ≤ 1000) : sortOk (l.map pl) = true := by
  unfold sortOk
  simp only [Bool.and_eq_true, Bool.or_eq_true, List.all_eq_true, decide_eq_true_eq, List.length_map]
  refine ⟨⟨⟨small hz, ?_⟩, ?_⟩, .inr ⟨?_, ?_⟩⟩
  · rintro d hd
    obtain ⟨q, _, rfl⟩ := List.mem_map.mp hd
    rw [toPy_pl, enc_pl]
    simp [PyData.depth, depth_ints]
  · rintro a ha b hb
    obtain ⟨q, _, rfl⟩ := List.mem_map.mp ha
    obtain ⟨r, _, rfl⟩ := List.mem_map.mp hb
    rw [enc_pl, enc_pl]
    simp only [alike]
    exact alike_ints q r
  · rw [List.head?_map, h]
    show isTup0 (some (encD (pl []))) = true
    rw [enc_pl]; rfl
  · rintro d hd
    obtain ⟨q, _, rfl⟩ := List.mem_map.mp hd
    rw [enc_pl]; rfl
/-- places, sorted -/
def plS (l : List (List Nat)) : List D := sortL (l.map pl)
theorem plS_mem {l : List (List Nat)} {d : D} : d ∈ plS l ↔ ∃ q ∈ l, d = pl q := by
  unfold plS sortL
  rw [(List.mergeSort_perm _ _).mem_iff, List.mem_map]
  constructor
  · rintro ⟨q, h, rfl⟩; exact ⟨q, h, rfl⟩
  · rintro ⟨q, h, rfl⟩; exact ⟨q, h, rfl⟩
theorem plS_len (l : List (List Nat)) : (plS l).length = l.length := by
  unfold plS sortL
  rw [List.length_mergeSort, List.length_map]
theorem sorted_lst {l : List (List Nat)} (S : Store) (h : l.head? = some []) (hz : l.length ≤ 1000) : sortedD [.lst (l.map pl)] S = .ok (.lst (plS l)) S := by
  unfold sortedD
  simp only [asL]
  rw [if_pos (sort_ok h hz)]; rfl
theorem sorted_obj {l : List (List Nat)} {S : Store} {n : Nat} (e : S[n]? = some (.lst (l.map pl))) (h : l.head? = some []) (hz : l.length ≤ 1000) : sortedD [.obj n] S = .ok (.lst (plS l)) S := by
  unfold sortedD
  simp only [asL, e]
  rw [if_pos (sort_ok h hz)]; rfl
end L3
set_option Elab.async false
set_option linter.all false
set_option maxRecDepth 100000
set_option maxHeartbeats 4000000
/-! L9E: all places. -/
namespace L3
open PySem L2
variable {S : Store}
theorem Tm.spotsL_app : ∀ (a b : List Tm) (k : Nat), Tm.spotsL k (a ++ b) = Tm.spotsL k a ++ Tm.spotsL (k + a.length) b
  | [], b, k => rfl
  | t :: a, b, k => by
    simp only [List.cons_append, Tm.spotsL, List.length_cons]
    rw [Tm.spotsL_app a b (k + 1), List.append_assoc, show k + 1 + a.length = k + (a.length + 1) by omega]
theorem Tm.spot_short {t : Tm} {q : List Nat} (h : q ∈ t.spots) : q.length < t.dep := by
  obtain ⟨u, hu⟩ := Tm.spots_at.mp h
  have := Tm.at_dep hu
  have := Tm.dep_pos u
  omega
theorem enumL_at {l : List D} {k j : Nat} (h : j < (enumL k l).length) : ∃ x, l[j]? = some x ∧ (enumL k l)[j] = .tup [.int ((k + j : Nat) : Int), x] := enumL_get k l j _ (List.getElem?_eq_getElem h)
theorem enumA_tup {l : List D} : enumA [.tup l] S = .ok (enumL 0 l) S := rfl
theorem extend_obj {n : Nat} {l m : List D} {Q : D → Store → Prop} (e : S[n]? = some (.lst l)) (hz : l.length + m.length ≤ sizeLine) (q : Q .non (S.set n (.lst (l ++ m)))) : (extendD (.obj n) [.lst m] S).sat Q := by
  unfold extendD
  simp only [lstAt, e, hz, if_true, sat_ok]
  exact q
/-- a comprehension of which the target takes each item -/
theorem lc_gen {g : GD} {te : ED} {env : EnvD} (f : D → D) {xs : List D} {Q : List D → Store → Prop} (h : ∀ x ∈ xs, ∃ e, g x env S = .nx e S ∧ (te e S).sat fun y S' => y = f x ∧ S' = S) (q : Q (xs.map f) S) : lcSat g tYesD te env xs S Q := by
  induction xs generalizing Q with
  | nil => exact q
  | cons x xs ih =>
    obtain ⟨e, h1, h2⟩ := h x (List.mem_cons_self ..)
    unfold lcSat
    rw [h1]
    simp only [tYesD, sat_ok, if_true]
    refine sat_mono h2 fun y S' h' => ?_
    obtain ⟨rfl, rfl⟩ := h'
    exact ih (fun x hx => h x (List.mem_cons_of_mem _ hx)) q
/-- a place further down -/
def under (i : Nat) : D → D
  | .tup l => .tup (.int (i : Int) :: l)
  | d => d
def mSpots (f : FN) : SD :=
    sSeq (sAsg (eN mkObj (aCons (eN mkTup (aNil)) (aNil))) (gName 1))
    (sSeq (sFor (iArgs enumA (aCons (e2 ixD (eVar 0) (eK (.int 2))) (aNil))) (gTup [2, 3]) (sExpr (eBM "list" extendD (eVar 1) (aCons (eLc (iSeq (eN (callK f []) (aCons (eVar 3) (aNil)))) [4] (gName 4) (tYesD) (e2 addD (eN mkTup (aCons (eVar 2) (aNil))) (eVar 4))) (aNil)))))
    (sRet (e1 frzD (eVar 1))))
def IsSpots (f : FN) (n : Nat) : Prop := ∀ {t : Tm} (S : Store), t.dep ≤ n → t.size ≤ 900 → (f [t.d] S).sat fun d S' => d = .lst (t.spots.map pl) ∧ Grow S S'
theorem isSpots {f : FN} {n : Nat} (hf : IsSpots f n) (hn : n ≤ 1000) : IsSpots (run 1 5 (mSpots f)) (n + 1) := fun {t} S hd hs => by
  rw [sat_run]
  refine ⟨rfl, ?_⟩
  unfold mSpots
  have hp := Tm.parts_len t
  refine step_asg (S1 := S ++ [.lst [.tup []]]) (S2 := S ++ [.lst [.tup []]]) (d := .obj S.length) (by
    obtain ⟨a, S', e, h1, h2⟩ := sat_ex.mp (show (eN mkObj (aCons (eN mkTup aNil) aNil) (List.map some [t.d] ++ List.replicate (5 - [t.d].length) none) S).sat fun d S' => d = .obj S.length ∧ S' = S ++ [.lst [.tup []]] by simp [sz0, sz1])
    rw [e, h1, h2]) rfl ?_
  refine seq_rule (fun e S' => (∃ a b c, e = [some t.d, some (.obj S.length), a, b, c]) ∧ S'[S.length]? = some (.lst (t.spots.map pl)) ∧ Grow S S') ?_ ?_
  · simp only [ssat_for, sat_iArgs, sat_aCons, sat_aNil, sat_e2, sat_eVar, sat_eK, List.map_cons, List.map_nil, List.cons_append, List.nil_append, List.length_cons, List.length_nil, List.replicate, Nat.zero_add, Nat.reduceAdd, Nat.reduceSub, List.set_cons_succ, List.set_cons_zero, List.getElem?_cons_succ, List.getElem?_cons_zero]
    rw [ix_parts, sat_ok, enumA_tup, sat_ok]
    refine for_rule (fun j e S' => (∃ a b c, e = [some t.d, some (.obj S.length), a, b, c]) ∧ S'[S.length]? = some (.lst ((([] : List Nat) :: Tm.spotsL 0 (t.parts.take j)).map pl)) ∧ Grow S S') ⟨⟨_, _, _, rfl⟩, by simp [Tm.spotsL, pl], Grow.app ..⟩ ?_ ?_
    · rintro j hj e S' ⟨⟨a, b, c, rfl⟩, hS, gr⟩
      obtain ⟨x, h1, h2⟩ := enumL_at hj
      rw [h2, Nat.zero_add]
      rw [Tm.ds_get] at h1
      cases h3 : t.parts[j]? with
      | none => rw [h3] at h1; cases h1
      | some u =>
        rw [h3] at h1
        simp only [Option.map_some, Option.some.injEq] at h1
        subst h1
        have hj' := (List.getElem?_eq_some_iff.mp h3).1
        have hu := Tm.parts_size h3
        have hud : u.dep ≤ n := by
          have := (Tm.deps_le (B := Tm.deps t.parts)).mp (Nat.le_refl _) u (List.mem_of_getElem? h3)
          rw [Tm.dep_eq t] at hd; omega
        simp only [gTup_tup, gNames_cons, gNames_nil, ssat_nx, List.set_cons_succ, List.set_cons_zero, ssat_sExpr, sat_eBM, sat_aCons, sat_aNil, sat_eVar, List.getElem?_cons_succ, List.getElem?_cons_zero]
        refine ⟨by simp [mtD, hS], ?_⟩
        rw [sat_eLc]
        simp only [sat_iSeq, sat_eN, sat_aCons, sat_aNil, sat_eVar, List.getElem?_cons_succ, List.getElem?_cons_zero, callK_eq, List.append_nil]
        refine sat_mono (hf (t := u) S' hud (by omega)) fun d S2 ⟨e, g2⟩ => ?_
        subst e
        rw [itemsD_lst, sat_ok]
        have hul : u.spots.length = u.size := Tm.spots_len u
        refine ⟨small (by rw [List.length_map]; omega), ?_⟩
        have hS2 := g2.fr _ _ hS
        have em : (u.spots.map pl).map (under j) = (u.spots.map (j :: ·)).map pl := by
          rw [List.map_map, List.map_map]; rfl
        refine lc_map (under j) ?_ ?_
        · rintro x hx
          obtain ⟨q, hq, rfl⟩ := List.mem_map.mp hx
          have hql := Tm.spot_short hq
          simp only [wipeD, List.set_cons_succ, List.set_cons_zero, sat_e2, sat_eN, sat_aCons, sat_aNil, sat_eVar, List.getElem?_cons_succ, List.getElem?_cons_zero, mkTup1, sat_ok]
          unfold pl
          rw [add_tup (small (by simp; omega)), sat_ok]
          exact ⟨rfl, rfl⟩
        · rw [em]
          have e1 : t.parts.take (j + 1) = t.parts.take j ++ [u] := by
            rw [List.take_succ_eq_append_getElem hj']
            have : t.parts[j] = u := by rw [List.getElem?_eq_getElem hj'] at h3; simpa using h3
            rw [this]
          have e2 : Tm.spotsL 0 (t.parts.take (j + 1)) = Tm.spotsL 0 (t.parts.take j) ++ u.spots.map (j :: ·) := by
            rw [e1, Tm.spotsL_app]
            simp [Tm.spotsL, Nat.min_eq_left (Nat.le_of_lt hj')]
          have e3 : (Tm.spotsL 0 (t.parts.take j)).length + u.size ≤ 900 := by
            have h5 : (Tm.spotsL 0 (t.parts.take (j + 1))).length ≤ Tm.sizes t.parts := by
              rw [Tm.spotsL_len]
              have := Tm.sizes_app (t.parts.take (j + 1)) (t.parts.drop (j + 1))
              rw [List.take_append_drop] at this
              omega
            rw [e2, List.length_append, List.length_map, hul] at h5
            rw [Tm.size_eq t] at hs
            omega
          refine extend_obj hS2 (small (by simp; omega)) ?_
          refine ⟨⟨_, _, _, rfl⟩, ?_, (gr.trans g2).put (Nat.le_refl _) _⟩
          rw [List.getElem?_set_self (by have := (List.getElem?_eq_some_iff.mp hS2).1; omega), e2]
          simp
    · rintro e S' ⟨⟨a, b, c, rfl⟩, hS, gr⟩
      rw [enumL_len, Tm.ds_len, List.take_length, ← Tm.spots_eq] at hS
      exact ⟨⟨_, _, _, rfl⟩, hS, gr⟩
  · rintro e S' ⟨⟨a, b, c, rfl⟩, hS, gr⟩
    simp only [ssat_sRet, sat_e1, sat_eVar, List.getElem?_cons_succ, List.getElem?_cons_zero]
    unfold frzD
    simp only [hS, sat_ok]
    exact ⟨trivial, gr.put (Nat.le_refl _) _⟩
theorem isSpots0 (f : FN) : IsSpots f 0 := fun {t} S h => by have := Tm.dep_pos t; omega
end L3
set_option Elab.async false
set_option linter.all false
set_option maxRecDepth 100000
set_option maxHeartbeats 4000000
/-! L9F: places_of. -/
namespace L3
open PySem L2
variable {S : Store}
abbrev Stk := List (List Nat × Tm)
def stk (p : List Nat × Tm) : D := .tup [pl p.1, p.2.d]
def pkids (q : List Nat) : Nat → List Tm → Stk
  | _, [] => []
  | k, t :: ts => (q ++ [k], t) :: pkids q (k + 1) ts
/-- what is yet to be found -/
def due (W : Stk) : List (List Nat) := W.flatMap fun p => p.2.spots.map (p.1 ++ ·)
def load (W : Stk) : Nat := (W.map fun p => p.2.size).sum
theorem due_pkids (q : List Nat) : ∀ (ts : List Tm) (k : Nat), due (pkids q k ts) = (Tm.spotsL k ts).map (q ++ ·)
  | [], _ => rfl
  | t :: ts, k => by
    have := due_pkids q ts (k + 1)
    unfold due at this ⊢
    simp only [pkids, List.flatMap_cons, Tm.spotsL, List.map_append, List.map_map, this]
    congr 1
    apply List.map_congr_left
    intro r _
    simp
theorem load_pkids (q : List Nat) : ∀ (ts : List Tm) (k : Nat), load (pkids q k ts) = Tm.sizes ts
  | [], _ => rfl
  | t :: ts, k => by
    have := load_pkids q ts (k + 1)
    unfold load at this ⊢
    simp only [pkids, List.map_cons, List.sum_cons, Tm.sizes, this]
theorem load_app (a b : Stk) : load (a ++ b) = load a + load b := by simp [load]
theorem due_app (a b : Stk) : due (a ++ b) = due a ++ due b := by simp [due]
theorem due_len (W : Stk) : (due W).length = load W := by
  induction W with
  | nil => rfl
  | cons p W ih =>
    unfold due load at ih ⊢
    simp only [List.flatMap_cons, List.length_append, List.length_map, List.map_cons, List.sum_cons, ih, Tm.spots_len]
theorem len_load (W : Stk) : W.length ≤ load W := by
  induction W with
  | nil => simp
  | cons p W ih =>
    have := Tm.size_pos p.2
    unfold load at ih ⊢
    simp only [List.length_cons, List.map_cons, List.sum_cons]; omega
/-- one item as the comprehension makes it -/
def deeper (q : List Nat) : D → D
  | .tup [.int i, d] => .tup [.tup ((q.map fun i : Nat => D.int (i : Int)) ++ [.int i]), d]
  | d => d
theorem deeper_pkids (q : List Nat) : ∀ (ts : List Tm) (k : Nat), (enumL k (Tm.ds ts)).map (deeper q) = (pkids q k ts).map stk
  | [], _ => rfl
  | t :: ts, k => by
    simp only [Tm.ds, enumL, List.map_cons, pkids, deeper_pkids q ts (k + 1)]
    congr 1
    simp [deeper, stk, pl]
theorem append_to {n : Nat} {l : List D} {y : D} (h : S[n]? = some (.lst l)) (hz : l.length < 1000) : appendD (.obj n) [y] S = .ok .non (S.set n (.lst (l ++ [y]))) := by
  have e : (appendD (.obj n) [y] S).sat fun d S' => d = .non ∧ S' = S.set n (.lst (l ++ [y])) := by
    rw [append_obj h]; exact ⟨Nat.lt_of_lt_of_le hz (small (Nat.le_refl _)), rfl, rfl⟩
  obtain ⟨a, S', e, rfl, rfl⟩ := sat_ex.mp e
  exact e
theorem pop_obj {n : Nat} {l : List D} {y : D} (h : S[n]? = some (.lst (l ++ [y]))) : popD (.obj n) [] S = .ok y (S.set n (.lst l)) := by
  unfold popD
  simp only [lstAt, h]
  simp
def mPlacesB : SD := sSeq (sAsg (eBM "list" popD (eVar 2) aNil) (gSeq [3, 4]))
    (sSeq (sExpr (eBM "list" appendD (eVar 1) (aCons (eVar 3) (aNil))))
    (sExpr (eBM "list" extendD (eVar 2) (aCons (eLc (iArgs enumA (aCons (e2 ixD (eVar 4) (eK (.int 2))) (aNil))) [5, 6] (gTup [5, 6]) (tYesD) (eN mkTup (aCons (e2 addD (eVar 3) (eN mkTup (aCons (eVar 5) (aNil)))) (aCons (eVar 6) (aNil))))) (aNil)))))
def mPlaces (fuel : Nat) : SD :=
    sSeq (sAsg (eN mkObj (aNil)) (gName 1))
    (sSeq (sAsg (eN mkObj (aCons (eN mkTup (aCons (eN mkTup (aNil)) (aCons (eVar 0) (aNil)))) (aNil))) (gName 2))
    (sSeq (sWhile (tOfE (e2 gtD (eN lenD (aCons (eVar 2) (aNil))) (eK (.int 0)))) mPlacesB fuel)
    (sRet (eN tupleD (aCons (eN sortedD (aCons (eVar 1) (aNil))) (aNil))))))
/-- what holds between the rounds -/
structure PlI (t : Tm) (S0 : Store) (F : List (List Nat)) (W : Stk) (S : Store) : Prop where
  f : S[S0.length]? = some (.lst (F.map pl))
  w : S[S0.length + 1]? = some (.lst (W.map stk))
  g : Grow S0 S
  p : (F ++ due W).Perm t.spots
  h : F.head? = some [] ∨ (F = [] ∧ W = [([], t)])
  sh : ∀ p ∈ W, p.1.length + p.2.dep ≤ t.dep
theorem pl_step {t : Tm} {S0 S : Store} {F : List (List Nat)} {W : Stk} {q : List Nat} {u : Tm} {x a b c d : Option D} (hs : t.size ≤ 900) (I : PlI t S0 F (W ++ [(q, u)]) S) :
    (mPlacesB [x, some (.obj S0.length), some (.obj (S0.length + 1)), a, b, c, d] S).sat (fun e S' => (∃ a b c d, e = [x, some (.obj S0.length), some (.obj (S0.length + 1)), a, b, c, d]) ∧ PlI t S0 (F ++ [q]) (W ++ pkids q 0 u.parts) S') (fun _ _ => False) (fun _ _ => False) fun _ _ => False := by
  have hl := I.p.length_eq
  rw [List.length_append, due_len, load_app, Tm.spots_len] at hl
  have hqu : q.length + u.dep ≤ t.dep := I.sh (q, u) (by simp)
  have hq0 := Tm.dep_pos u
  have hdep : t.dep ≤ t.size := by
    have : ∀ t : Tm, t.dep ≤ t.size := by
      intro t
      induction t using Tm.rec (motive_2 := fun ts => Tm.deps ts ≤ Tm.sizes ts) with
      | num i => simp [Tm.dep, Tm.size]
      | nam i => simp [Tm.dep, Tm.size]
      | nd w m ps ih => simp only [Tm.dep, Tm.size]; omega
      | nil => simp [Tm.deps, Tm.sizes]
      | cons t ts h1 h2 => simp only [Tm.deps, Tm.sizes]; omega
    exact this t
  have hld : load [(q, u)] = u.size := by simp [load]
  have hpl := Tm.parts_len u
  have lw := len_load W
  unfold mPlacesB
  have w0 : S[S0.length + 1]? = some (.lst (W.map stk ++ [.tup [pl q, u.d]])) := by rw [I.w]; simp [stk]
  have s1 := (List.getElem?_eq_some_iff.mp I.w).1
  refine step_asg (S1 := S.set (S0.length + 1) (.lst (W.map stk))) (d := .tup [pl q, u.d]) (env' := [x, some (.obj S0.length), some (.obj (S0.length + 1)), some (pl q), some u.d, c, d]) ?_ rfl ?_
  · obtain ⟨a, S', e, h1, h2⟩ := sat_ex.mp (show (eBM "list" popD (eVar 2) aNil [x, some (.obj S0.length), some (.obj (S0.length + 1)), a, b, c, d] S).sat fun d S' => d = .tup [pl q, u.d] ∧ S' = S.set (S0.length + 1) (.lst (W.map stk)) by
      simp only [sat_eBM, sat_aNil, sat_eVar, List.getElem?_cons_succ, List.getElem?_cons_zero]
      refine ⟨by simp [mtD, w0], ?_⟩
      rw [pop_obj w0, sat_ok]
      exact ⟨rfl, rfl⟩)
    rw [e, h1, h2]
  have f1 : (S.set (S0.length + 1) (.lst (W.map stk)))[S0.length]? = some (.lst (F.map pl)) := by rw [List.getElem?_set_ne (by omega)]; exact I.f
  refine step_expr (S1 := (S.set (S0.length + 1) (.lst (W.map stk))).set S0.length (.lst (F.map pl ++ [pl q]))) (d := .non) ?_ ?_
  · obtain ⟨a, S', e, h1, h2⟩ := sat_ex.mp (show (eBM "list" appendD (eVar 1) (aCons (eVar 3) aNil) [x, some (.obj S0.length), some (.obj (S0.length + 1)), some (pl q), some u.d, c, d] (S.set (S0.length + 1) (.lst (W.map stk)))).sat fun d S' => d = .non ∧ S' = (S.set (S0.length + 1) (.lst (W.map stk))).set S0.length (.lst (F.map pl ++ [pl q])) by
      simp only [sat_eBM, sat_aCons, sat_aNil, sat_eVar, List.getElem?_cons_succ, List.getElem?_cons_zero]
      refine ⟨by simp [mtD, f1], ?_⟩
      rw [append_to f1 (by simp; omega), sat_ok]
      exact ⟨rfl, rfl⟩)
    rw [e, h1, h2]
  have w2 : ((S.set (S0.length + 1) (.lst (W.map stk))).set S0.length (.lst (F.map pl ++ [pl q])))[S0.length + 1]? = some (.lst (W.map stk)) := by
    rw [List.getElem?_set_ne (by omega), List.getElem?_set_self s1]
  have hg : Grow S0 ((S.set (S0.length + 1) (.lst (W.map stk))).set S0.length (.lst (F.map pl ++ [pl q]))) := (I.g.put (by omega) _).put (Nat.le_refl _) _
  have f2 : ((S.set (S0.length + 1) (.lst (W.map stk))).set S0.length (.lst (F.map pl ++ [pl q])))[S0.length]? = some (.lst ((F ++ [q]).map pl)) := by
    rw [List.getElem?_set_self (by simp; omega)]; simp
  generalize (S.set (S0.length + 1) (.lst (W.map stk))).set S0.length (.lst (F.map pl ++ [pl q])) = S2 at w2 hg f2
  have s2 := (List.getElem?_eq_some_iff.mp w2).1
  simp only [ssat_sExpr, sat_eBM, sat_aCons, sat_aNil, sat_eVar, List.getElem?_cons_succ, List.getElem?_cons_zero]
  refine ⟨by simp [mtD, w2], ?_⟩
  rw [sat_eLc]
  simp only [sat_iArgs, sat_aCons, sat_aNil, sat_e2, sat_eVar, sat_eK, List.getElem?_cons_succ, List.getElem?_cons_zero]
  rw [ix_parts, sat_ok, enumA_tup, sat_ok]
  refine ⟨small (by rw [enumL_len, Tm.ds_len]; omega), ?_⟩
  refine lc_gen (deeper q) ?_ ?_
  · rintro y hy
    obtain ⟨j, hj, rfl⟩ := List.getElem_of_mem hy
    obtain ⟨z, h1, h2⟩ := enumL_at hj
    rw [h2]
    refine ⟨[x, some (.obj S0.length), some (.obj (S0.length + 1)), some (pl q), some u.d, some (.int ((0 + j : Nat) : Int)), some z], rfl, ?_⟩
    simp only [sat_eN, sat_aCons, sat_aNil, sat_e2, sat_eVar, List.getElem?_cons_succ, List.getElem?_cons_zero, mkTup1, sat_ok]
    unfold pl
    rw [add_tup (small (by simp; omega)), sat_ok, sat_mkTup]
    exact ⟨small (by simp), rfl, rfl⟩
  · rw [deeper_pkids]
    have hk := load_pkids q u.parts 0
    have hkl := len_load (pkids q 0 u.parts)
    have := Tm.size_eq u
    refine extend_obj w2 (small (by simp; omega)) ⟨⟨_, _, _, _, rfl⟩, ?_⟩
    refine ⟨by rw [List.getElem?_set_ne (by omega)]; exact f2, by rw [List.getElem?_set_self s2]; simp, hg.put (by omega) _, ?_, ?_, ?_⟩
    · rw [due_app, due_pkids]
      have p := I.p
      rw [due_app] at p
      have e : due [(q, u)] = q :: (Tm.spotsL 0 u.parts).map (q ++ ·) := by
        simp [due, Tm.spots_eq u]
      rw [e] at p
      refine List.Perm.trans ?_ p
      rw [List.append_assoc, List.singleton_append]
      refine List.Perm.append_left F ?_
      exact List.perm_middle.symm
    · rcases I.h with h | ⟨h1, h2⟩
      · left
        cases F with
        | nil => cases h
        | cons f F => simpa using h
      · left
        have : W = [] ∧ (q, u) = ([], t) := by
          cases W with
          | nil => simpa using h2
          | cons a W => simp at h2
        rw [h1]
        have h3 := this.2
        simp only [Prod.mk.injEq] at h3
        simp [h3.1]
    · intro p hp
      rcases List.mem_append.mp hp with hp | hp
      · exact I.sh p (List.mem_append_left _ hp)
      · have : ∀ (ts : List Tm) (k : Nat), p ∈ pkids q k ts → p.1.length = q.length + 1 ∧ p.2 ∈ ts := by
          intro ts
          induction ts with
          | nil => intro k h; simp [pkids] at h
          | cons t ts ih =>
            intro k h
            simp only [pkids, List.mem_cons] at h
            rcases h with rfl | h
            · simp
            · obtain ⟨h1, h2⟩ := ih _ h; exact ⟨h1, List.mem_cons_of_mem _ h2⟩
        obtain ⟨h1, h2⟩ := this _ _ hp
        have := (Tm.deps_le (B := Tm.deps u.parts)).mp (Nat.le_refl _) p.2 h2
        rw [Tm.dep_eq u] at hqu
        omega
theorem places_ok {fuel : Nat} (hf : 1000 ≤ fuel) {t : Tm} (hs : t.size ≤ 900) (S : Store) : (run 1 7 (mPlaces fuel) [t.d] S).sat fun d S' => d = .tup (plS t.spots) ∧ Grow S S' := by
  rw [sat_run]
  refine ⟨rfl, ?_⟩
  unfold mPlaces
  have o1 : ∀ (S : Store) (e : EnvD), eN mkObj aNil e S = .ok (.obj S.length) (S ++ [.lst []]) := fun S e => by
    obtain ⟨a, S', e, h1, h2⟩ := sat_ex.mp (show (eN mkObj aNil e S).sat fun d S' => d = .obj S.length ∧ S' = S ++ [.lst []] by simp [sz0])
    rw [e, h1, h2]
  refine step_asg (o1 _ _) rfl ?_
  have o2 : eN mkObj (aCons (eN mkTup (aCons (eN mkTup aNil) (aCons (eVar 0) aNil))) aNil) [some t.d, some (.obj S.length), none, none, none, none, none] (S ++ [.lst []]) = .ok (.obj (S.length + 1)) (S ++ [.lst [], .lst [.tup [.tup [], t.d]]]) := by
    obtain ⟨a, S', e, h1, h2⟩ := sat_ex.mp (show (eN mkObj (aCons (eN mkTup (aCons (eN mkTup aNil) (aCons (eVar 0) aNil))) aNil) [some t.d, some (.obj S.length), none, none, none, none, none] (S ++ [.lst []])).sat fun d S' => d = .obj (S.length + 1) ∧ S' = S ++ [.lst [], .lst [.tup [.tup [], t.d]]] by simp [sz0, sz1, sz2])
    rw [e, h1, h2]
  refine step_asg (env' := [some t.d, some (.obj S.length), some (.obj (S.length + 1)), none, none, none, none]) o2 rfl ?_
  refine seq_rule (fun e S' => (∃ a b c d, e = [some t.d, some (.obj S.length), some (.obj (S.length + 1)), a, b, c, d]) ∧ ∃ F, PlI t S F [] S') ?_ ?_
  · refine while_rule (fun m e S' => (∃ a b c d, e = [some t.d, some (.obj S.length), some (.obj (S.length + 1)), a, b, c, d]) ∧ ∃ F W, m = load W ∧ PlI t S F W S') (m := t.size) (by omega) ⟨⟨_, _, _, _, rfl⟩, [], [([], t)], by simp [load], ⟨by simp, by simp [stk, pl], ⟨by simp, fun i o h => by rw [List.getElem?_append_left (List.getElem?_eq_some_iff.mp h).1]; exact h⟩, by simp [due], .inr ⟨rfl, rfl⟩, by simp⟩⟩ ?_
    rintro m e S' ⟨⟨a, b, c, d, rfl⟩, F, W, rfl, I⟩
    simp only [sat_tOfE, sat_e2, sat_eN, sat_aCons, sat_aNil, sat_eVar, sat_eK, List.getElem?_cons_succ, List.getElem?_cons_zero]
    rw [len_obj I.w, sat_ok, gt_int, sat_ok, blD_bl, sat_ok]
    rcases List.eq_nil_or_concat W with rfl | ⟨W', ⟨q, u⟩, rfl⟩
    · simp only [List.map_nil, List.length_nil]
      rw [if_neg (by decide)]
      exact ⟨⟨_, _, _, _, rfl⟩, F, I⟩
    · rw [List.concat_eq_append] at I ⊢
      rw [if_pos (by simp)]
      refine ssat_mono (pl_step hs I) (fun e S1 ⟨h1, h2⟩ => ⟨_, ?_, h1, _, _, rfl, h2⟩) (fun _ _ h => h.elim) (fun _ _ h => h.elim) fun _ _ h => h.elim
      rw [load_app, load_app, load_pkids]
      have := Tm.size_eq u
      simp only [load, List.map_cons, List.map_nil, List.sum_cons, List.sum_nil]
      omega
  · rintro e S' ⟨⟨a, b, c, d, rfl⟩, F, I⟩
    have p := I.p
    simp only [due, List.flatMap_nil, List.append_nil] at p
    have hh : F.head? = some [] := by
      rcases I.h with h | ⟨_, h⟩
      · exact h
      · cases h
    have hl := p.length_eq
    rw [Tm.spots_len] at hl
    simp only [ssat_sRet, sat_eN, sat_aCons, sat_aNil, sat_eVar, List.getElem?_cons_succ, List.getElem?_cons_zero]
    rw [sorted_obj I.f hh (by omega), sat_ok, tuple_lst, sat_ok]
    refine ⟨?_, I.g⟩
    unfold plS
    rw [sort_perm p]
end L3
set_option Elab.async false
set_option linter.all false
set_option maxRecDepth 100000
set_option maxHeartbeats 4000000
/-! L9G: what is shown. -/
namespace L3
open PySem L2
variable {S : Store}
/-- can be shown: so many signs, so deep -/
def Sh (W Dp : Nat) (x : D) : Prop := ∃ a, toPyR x = some a ∧ a.showable = true ∧ a.shown.length ≤ W ∧ a.depth ≤ Dp
theorem Sh.mono {W W' Dp Dp' : Nat} {x : D} (h : Sh W Dp x) (h1 : W ≤ W') (h2 : Dp ≤ Dp') : Sh W' Dp' x := by
  obtain ⟨a, e1, e2, e3, e4⟩ := h
  exact ⟨a, e1, e2, by omega, by omega⟩
theorem U.sh {B : Nat} {x : D} (h : U B x) : Sh (wt x) (dp x) x := by
  obtain ⟨a, e1, e2, e3, e4, _⟩ := shown_ok h
  exact ⟨a, e1, e2, by omega, e4⟩
theorem sh_int {i : Int} (h : i.natAbs < 10 ^ 41) : Sh 100 0 (.int i) := by
  refine ⟨.int i, rfl, ?_, ?_, by simp [PyData.depth]⟩
  · simp only [PyData.showable, decide_eq_true_eq]
    by_cases z : i.natAbs = 0
    · rw [z]; decide
    · exact Nat.lt_trans ((Nat.log2_lt z).mpr (Nat.lt_trans h (by decide : (10 : Nat) ^ 41 < 2 ^ 140))) (by decide)
  · rw [PyData.shown_int]
    have := int_text_length_le10 (k := 41) (by decide) h
    have e : (Str.ofString (toString i)).length = (toString i).length := by
      rw [Str.ofString_eq_toList]
      simp only [Str.length, List.size_toArray, List.length_map]
      first | exact String.length_toList | rfl | simp [String.length]
    omega
theorem shs {W Dp : Nat} : ∀ {l : List D}, (∀ x ∈ l, Sh W Dp x) → ∃ as, toPyRL l = some as ∧ PyData.showableAll as = true ∧ piled (PyData.shownAll as) ≤ l.length * (W + 2) ∧ PyData.depthAll as ≤ Dp
  | [], _ => ⟨[], rfl, by simp [PyData.showableAll], by simp [PyData.shownAll, piled], by simp [PyData.depthAll]⟩
  | x :: l, h => by
    obtain ⟨a, e1, e2, e3, e4⟩ := h x (List.mem_cons_self ..)
    obtain ⟨as, f1, f2, f3, f4⟩ := shs fun y hy => h y (List.mem_cons_of_mem _ hy)
    refine ⟨a :: as, by simp only [toPyRL, e1, f1], by simp [PyData.showableAll, e2, f2], ?_, by simp only [PyData.depthAll]; omega⟩
    simp only [PyData.shownAll, piled_cons, List.length_cons, Nat.add_mul]; omega
theorem sh_tup {W Dp : Nat} {l : List D} (h : ∀ x ∈ l, Sh W Dp x) : Sh (l.length * (W + 2) + 10) (Dp + 1) (.tup l) := by
  obtain ⟨as, e1, e2, e3, e4⟩ := shs h
  refine ⟨.tuple as, by simp only [toPyR, e1]; rfl, by simpa [PyData.showable] using e2, ?_, by simp only [PyData.depth]; omega⟩
  rw [PyData.shown_tuple, strLen_append, strLen_append]
  have := join_le (PyData.shownAll as)
  have a1 : (("(" : String) : Str).length = 1 := rfl
  have a2 : (((if as.length == 1 then ",)" else ")" : String) : Str)).length ≤ 2 := by split <;> decide
  omega
theorem sh_lst {W Dp : Nat} {l : List D} (h : ∀ x ∈ l, Sh W Dp x) : Sh (l.length * (W + 2) + 10) (Dp + 1) (.lst l) := by
  obtain ⟨as, e1, e2, e3, e4⟩ := shs h
  refine ⟨.list as, by simp only [toPyR, e1]; rfl, by simpa [PyData.showable] using e2, ?_, by simp only [PyData.depth]; omega⟩
  rw [PyData.shown_list, strLen_append, strLen_append]
  have := join_le (PyData.shownAll as)
  have a1 : (("[" : String) : Str).length = 1 := rfl
  have a2 : (("]" : String) : Str).length = 1 := rfl
  omega
theorem repr_sh {W Dp : Nat} {x : D} (h : Sh W Dp x) (hw : W ≤ 1000000) (hd : Dp ≤ 100) : ∃ z : Str, ∀ S, reprD [x] S = .ok (.str z) S := by
  obtain ⟨a, e1, e2, e3, e4⟩ := h
  refine ⟨a.shown, fun S => ?_⟩
  have hde : deref x S = x := by
    cases x with
    | obj n => cases e1
    | _ => rfl
  have hok : showOk a = true := by
    simp only [showOk, e2, Bool.true_and, Bool.and_eq_true, decide_eq_true_eq]
    exact ⟨Nat.le_trans (by omega) (by decide : 1000000 ≤ sizeLine), by omega⟩
  unfold reprD
  simp only [hde, e1]
  rw [if_pos hok]
theorem U.show {B : Nat} {x : D} (h : U B x) (hw : wt x ≤ 1000000) (hd : dp x ≤ 100) : ∃ z : Str, ∀ S, reprD [x] S = .ok (.str z) S := repr_sh h.sh hw hd
/-! places -/
theorem U.parts {B : Nat} {t : Tm} (h : U B t.d) : t.parts.length ≤ B ∧ ∀ u ∈ t.parts, U B u.d := by
  rw [Tm.d_eq] at h
  cases h with
  | tup _ h =>
    have := h (.tup (Tm.ds t.parts)) (by simp)
    cases this with
    | tup h1 h2 =>
      rw [Tm.ds_len] at h1
      exact ⟨h1, fun u hu => h2 _ (by rw [Tm.ds_map]; exact List.mem_map_of_mem hu)⟩
theorem U.at {B : Nat} : ∀ {q : List Nat} {t u : Tm}, U B t.d → t.at q = some u → U B u.d
  | [], t, u, h, e => by simp only [Tm.at, Option.some.injEq] at e; subst e; exact h
  | i :: q, t, u, h, e => by
    obtain ⟨v, h1, h2⟩ := Tm.at_cons e
    exact U.at (h.parts.2 v (List.mem_of_getElem? h1)) h2
theorem wt_ints : ∀ q : List Nat, wts (q.map fun i : Nat => D.int (i : Int)) = 100 * q.length
  | [] => rfl
  | i :: q => by simp only [List.map_cons, wts, wt, wt_ints q, List.length_cons]; omega
theorem dp_ints : ∀ q : List Nat, dps (q.map fun i : Nat => D.int (i : Int)) = 0
  | [] => rfl
  | i :: q => by simp only [List.map_cons, dps, dp, dp_ints q]; rfl
theorem sh_pl {t u : Tm} {q : List Nat} {B : Nat} (h : U B t.d) (hB : B ≤ 1000) (e : t.at q = some u) : ∀ i ∈ q, i < B := by
  induction q generalizing t with
  | nil => simp
  | cons j q ih =>
    obtain ⟨v, h1, h2⟩ := Tm.at_cons e
    intro i hi
    rcases List.mem_cons.mp hi with rfl | hi
    · exact Nat.lt_of_lt_of_le (List.getElem?_eq_some_iff.mp h1).1 h.parts.1
    · exact ih (h.parts.2 v (List.mem_of_getElem? h1)) h2 i hi
theorem sh_spots {t : Tm} {B : Nat} (h : U B t.d) (hB : B ≤ 1000) (hs : t.size ≤ 60) (hd : t.dep ≤ 9) : Sh 100000 2 (.tup (plS t.spots)) := by
  have hl : (plS t.spots).length ≤ 60 := by rw [plS_len, Tm.spots_len]; exact hs
  refine Sh.mono (sh_tup (W := 1000) (Dp := 1) fun x hx => ?_) (by
    have := Nat.mul_le_mul_right (1000 + 2) hl
    omega) (by omega)
  obtain ⟨q, hq, rfl⟩ := plS_mem.mp hx
  obtain ⟨u, hu⟩ := Tm.spots_at.mp hq
  have hql := Tm.spot_short hq
  refine Sh.mono (sh_tup (W := 100) (Dp := 0) fun x hx => ?_) (by
    rw [List.length_map]
    have : q.length ≤ 9 := by omega
    have := Nat.mul_le_mul_right (100 + 2) this
    omega) (by omega)
  obtain ⟨i, hi, rfl⟩ := List.mem_map.mp hx
  exact sh_int (Nat.lt_of_lt_of_le (by have := sh_pl h hB hu i hi; omega) (by decide : 1000 ≤ 10 ^ 41))
theorem wts_take_drop (l : List D) (i : Nat) : wts (l.take i) + wts (l.drop i) = wts l := by rw [← wts_app, List.take_append_drop]
theorem dps_take_drop (l : List D) (i : Nat) : max (dps (l.take i)) (dps (l.drop i)) = dps l := by rw [← dps_app, List.take_append_drop]
/-- what is put: alike things -/
theorem ex_u {B : Nat} {x : D} (hx : U B x) (h3 : 3 ≤ B) : ∀ {q : List Nat} {t u : Tm}, U B t.d → t.at q = some u → U B (Tm.ex x q t) ∧ wt (Tm.ex x q t) ≤ wt t.d + wt x ∧ dp (Tm.ex x q t) ≤ dp t.d + dp x
  | [], t, u, h, e => ⟨hx, by simp only [Tm.ex]; omega, by simp only [Tm.ex]; omega⟩
  | i :: q, t, u, h, e => by
    obtain ⟨v, h1, h2⟩ := Tm.at_cons e
    have hi := (List.getElem?_eq_some_iff.mp h1).1
    obtain ⟨i1, i2, i3⟩ := ex_u hx h3 (h.parts.2 v (List.mem_of_getElem? h1)) h2
    have ht := h
    rw [Tm.d_eq] at ht
    have hl : i < (Tm.ds t.parts).length := by rw [Tm.ds_len]; exact hi
    have ed : (Tm.ds t.parts).drop i = v.d :: (Tm.ds t.parts).drop (i + 1) := by
      rw [List.drop_eq_getElem_cons hl]
      congr 1
      have := Tm.ds_get (ts := t.parts) (i := i)
      rw [List.getElem?_eq_getElem hl, h1] at this
      simpa using this
    have w1 := wts_take_drop (Tm.ds t.parts) i
    have d1 := dps_take_drop (Tm.ds t.parts) i
    rw [ed] at w1 d1
    simp only [wts] at w1
    simp only [dps] at d1
    rw [ex_cons h1, Tm.d_eq t]
    cases ht with
    | tup _ hm =>
      have mw := hm t.w (by simp)
      have mm := hm t.m (by simp)
      have mp := hm (.tup (Tm.ds t.parts)) (by simp)
      cases mp with
      | tup p1 p2 =>
        refine ⟨.tup (by simpa using h3) fun y hy => ?_, ?_, ?_⟩
        · simp only [List.mem_cons, List.not_mem_nil, or_false] at hy
          rcases hy with rfl | rfl | rfl
          · exact mw
          · exact mm
          · refine .tup ?_ fun y hy => ?_
            · simp only [List.length_append, List.length_take, List.length_drop, List.length_cons, List.length_nil]; omega
            · simp only [List.mem_append, List.mem_cons, List.not_mem_nil, or_false] at hy
              rcases hy with (hy | rfl) | hy
              · exact p2 _ (List.mem_of_mem_take hy)
              · exact i1
              · exact p2 _ (List.mem_of_mem_drop hy)
        · simp only [wt, wts, wts_app]; omega
        · simp only [dp, dps, dps_app]; omega
end L3
set_option Elab.async false
set_option linter.all false
set_option maxRecDepth 100000
set_option maxHeartbeats 4000000
/-! L9H: what gives each name (no program in sight). -/
namespace L3
open PySem L2
mutual
theorem Tm.spots_nodup : ∀ t : Tm, t.spots.Nodup
  | .num _ => by simp [Tm.spots]
  | .nam _ => by simp [Tm.spots]
  | .nd _ _ ps => by
    simp only [Tm.spots, List.nodup_cons]
    refine ⟨fun h => ?_, Tm.spotsL_nodup 0 ps⟩
    obtain ⟨i, r, u, e, _⟩ := Tm.spotsL_mem.mp h
    cases e
theorem Tm.spotsL_nodup : ∀ (k : Nat) (ts : List Tm), (Tm.spotsL k ts).Nodup
  | _, [] => by simp [Tm.spotsL]
  | k, t :: ts => by
    simp only [Tm.spotsL]
    rw [List.nodup_append]
    refine ⟨?_, Tm.spotsL_nodup (k + 1) ts, ?_⟩
    · exact List.Pairwise.map _ (fun a b h e => h (List.cons.inj e).2) (Tm.spots_nodup t)
    · intro a ha b hb e
      obtain ⟨r, _, rfl⟩ := List.mem_map.mp ha
      obtain ⟨i, r', u, e2, _⟩ := Tm.spotsL_mem.mp hb
      rw [← e] at e2
      have := (List.cons.inj e2).1
      omega
end
abbrev Kn := List (Key × D)
def Tm.gives : Tm → Option Str
  | .nd w m _ => if w = "let" ∨ w = "each" then some m else none
  | _ => none
def Tm.name : Tm → Option Str
  | .nam s => some s
  | _ => none
/-- what names stand for within the part k -/
def knx (u : Tm) (p : List Nat) (kn : Kn) (k : Nat) : Kn := match u.gives with
  | some m => if k = 1 then putD kn (.inr m) (pl p) else kn
  | none => kn
/-- of a place the name and its giver's place -/
def gv : Kn → Tm → List Nat → List Nat → Option (Str × D)
  | kn, t, p, [] => t.name.map fun s => (s, (dGet kn (.inr s)).getD .non)
  | kn, t, p, i :: r => (t.parts[i]?).bind fun u => gv (knx t p kn i) u (p ++ [i]) r
abbrev Stk3 := List (List Nat × Tm × Kn)
def two3 (x : List Nat × Tm × Kn) : List Nat × Tm := (x.1, x.2.1)
def kids3 (q : List Nat) (u : Tm) (kn : Kn) : Nat → List Tm → Stk3
  | _, [] => []
  | k, t :: ts => (q ++ [k], t, knx u q kn k) :: kids3 q u kn (k + 1) ts
theorem kids3_two (q : List Nat) (u : Tm) (kn : Kn) : ∀ (ts : List Tm) (k : Nat), (kids3 q u kn k ts).map two3 = pkids q k ts
  | [], _ => rfl
  | t :: ts, k => by simp only [kids3, List.map_cons, pkids, kids3_two q u kn ts (k + 1)]; rfl
theorem kids3_app (q : List Nat) (u : Tm) (kn : Kn) : ∀ (a b : List Tm) (k : Nat), kids3 q u kn k (a ++ b) = kids3 q u kn k a ++ kids3 q u kn (k + a.length) b
  | [], b, k => rfl
  | t :: a, b, k => by
    simp only [List.cons_append, kids3, List.length_cons]
    rw [kids3_app q u kn a b (k + 1), show k + 1 + a.length = k + (a.length + 1) by omega]
theorem kids3_mem {q : List Nat} {u : Tm} {kn : Kn} {x : List Nat × Tm × Kn} : ∀ {ts : List Tm} {k : Nat}, x ∈ kids3 q u kn k ts → ∃ i t, ts[i]? = some t ∧ x = (q ++ [k + i], t, knx u q kn (k + i))
  | [], _, h => by simp [kids3] at h
  | t :: ts, k, h => by
    simp only [kids3, List.mem_cons] at h
    rcases h with rfl | h
    · exact ⟨0, t, rfl, rfl⟩
    · obtain ⟨i, t', h1, h2⟩ := kids3_mem h
      exact ⟨i + 1, t', by simpa using h1, by rw [h2, show k + (i + 1) = k + 1 + i by omega]⟩
def key (q : List Nat) : List Key := q.map fun i : Nat => .inl (i : Int)
theorem key_inj {q r : List Nat} (h : key q = key r) : q = r :=
  List.map_inj_right (f := fun i : Nat => (Sum.inl (i : Int) : Key)) (fun a b e => by have := Sum.inl.inj e; omega) |>.mp h
theorem plc_ints : ∀ q : List Nat, plc (q.map fun i : Nat => D.int (i : Int)) = true
  | [] => rfl
  | i :: q => by have := plc_ints q; simp only [plc] at this; simp [plc, isIt, this]
theorem tk_pl (q : List Nat) : tkOf (pl q) = some (key q) := by
  unfold pl
  simp only [tkOf, plc_ints, if_true, Option.some.injEq]
  induction q with
  | nil => rfl
  | cons i q ih => simp only [List.map_cons, key] at ih ⊢; rw [List.filterMap_cons, ih]; rfl
/-! dicts that are copied -/
theorem putD_keys {κ : Type} [DecidableEq κ] {kvs : List (κ × D)} {k : κ} {v : D} (h : (kvs.map (·.1)).Nodup) : ((putD kvs k v).map (·.1)).Nodup := by
  unfold putD
  split
  · rename_i ha
    have e : (kvs.map fun kv => if kv.1 = k then (kv.1, v) else kv).map (·.1) = kvs.map (·.1) := by
      rw [List.map_map]
      apply List.map_congr_left
      intro x _
      simp only [Function.comp]
      split <;> rfl
    rw [e]; exact h
  · rename_i ha
    rw [List.map_append, List.map_singleton, List.nodup_append]
    refine ⟨h, by simp, ?_⟩
    intro a ha' b hb e
    simp only [List.mem_singleton] at hb
    apply ha
    rw [List.any_eq_true]
    obtain ⟨x, hx, ex⟩ := List.mem_map.mp ha'
    exact ⟨x, hx, by simp [ex, e, hb]⟩
theorem merge_self : ∀ (kvs acc : List (Key × D)), ((acc ++ kvs).map (·.1)).Nodup → mergeD acc kvs = acc ++ kvs
  | [], acc, _ => by simp [mergeD]
  | p :: kvs, acc, h => by
    have e : putD acc p.1 p.2 = acc ++ [p] := by
      unfold putD
      rw [if_neg]
      intro ha
      rw [List.any_eq_true] at ha
      obtain ⟨x, hx, ex⟩ := ha
      rw [List.map_append, List.nodup_append] at h
      exact h.2.2 x.1 (List.mem_map_of_mem hx) p.1 (by simp) (by simpa using ex)
    show mergeD (putD acc p.1 p.2) kvs = _
    rw [e, merge_self kvs (acc ++ [p]) (by simpa using h)]
    simp
theorem copy_self {kvs : List (Key × D)} (h : (kvs.map (·.1)).Nodup) : mergeD [] kvs = kvs := by simpa using merge_self kvs [] (by simpa using h)
theorem putD_len {κ : Type} [DecidableEq κ] (kvs : List (κ × D)) (k : κ) (v : D) : (putD kvs k v).length ≤ kvs.length + 1 := by
  unfold putD; split <;> simp
theorem putD_mem {κ : Type} [DecidableEq κ] {kvs : List (κ × D)} {k : κ} {v : D} {p : κ × D} (h : p ∈ putD kvs k v) : p.2 = v ∨ p ∈ kvs := by
  unfold putD at h
  split at h
  · obtain ⟨x, hx, rfl⟩ := List.mem_map.mp h
    split
    · exact .inl rfl
    · exact .inr hx
  · rcases List.mem_append.mp h with h | h
    · exact .inr h
    · simp only [List.mem_singleton] at h; subst h; exact .inl rfl
theorem dGet_mem {κ : Type} [DecidableEq κ] {kvs : List (κ × D)} {k : κ} {d : D} (h : dGet kvs k = some d) : ∃ p ∈ kvs, p.2 = d := by
  unfold dGet at h
  cases hf : kvs.find? fun kv => decide (kv.1 = k) with
  | none => rw [hf] at h; cases h
  | some p => rw [hf] at h; cases h; exact ⟨p, List.mem_of_find?_eq_some hf, rfl⟩
/-- what names stand for on the way -/
structure KnOk (t : Tm) (p : List Nat) (kn : Kn) : Prop where
  nd : (kn.map (·.1)).Nodup
  vl : ∀ x ∈ kn, ∃ q ∈ t.spots, x.2 = pl q
  ln : kn.length ≤ p.length
theorem KnOk.next {t u : Tm} {p : List Nat} {kn : Kn} (h : KnOk t p kn) (hp : p ∈ t.spots) (k : Nat) : KnOk t (p ++ [k]) (knx u p kn k) := by
  unfold knx
  split
  · split
    · refine ⟨putD_keys h.nd, fun x hx => ?_, by have := putD_len kn (.inr ‹Str›) (pl p); have := h.ln; simp; omega⟩
      rcases putD_mem hx with e | hx
      · exact ⟨p, hp, e⟩
      · exact h.vl x hx
    · exact ⟨h.nd, h.vl, by have := h.ln; simp; omega⟩
  · exact ⟨h.nd, h.vl, by have := h.ln; simp; omega⟩
/-- between two rounds: F what is noted, W what waits -/
structure GI (t : Tm) (val : Str → D → D) (F : List (List Key × D)) (W : Stk3) : Prop where
  a : ∀ x ∈ W, (∀ r, gv [] t [] (x.1 ++ r) = gv x.2.2 x.2.1 x.1 r) ∧ KnOk t x.1 x.2.2 ∧ t.at x.1 = some x.2.1
  b0 : ∀ q ∈ due (W.map two3), dGet F (key q) = none
  b1 : ∀ q, q ∉ due (W.map two3) → dGet F (key q) = (gv [] t [] q).map fun p => val p.1 p.2
  c : (due (W.map two3)).Nodup
  n : F.length + load (W.map two3) ≤ t.size
def note (val : Str → D → D) (F : List (List Key × D)) (p : List Nat) (u : Tm) (kn : Kn) : List (List Key × D) := match u.name with
  | some s => putD F (key p) (val s ((dGet kn (.inr s)).getD .non))
  | none => F
theorem GI.start (t : Tm) (val : Str → D → D) : GI t val [] [([], t, [])] := by
  have e : due (([([], t, [])] : Stk3).map two3) = t.spots := by simp [due, two3]
  refine ⟨?_, ?_, ?_, ?_, ?_⟩
  · intro x hx
    simp only [List.mem_singleton] at hx
    subst hx
    exact ⟨fun r => rfl, ⟨by simp, by simp, by simp⟩, rfl⟩
  · intro q _; rfl
  · intro q hq
    rw [e] at hq
    have : ∀ (q : List Nat) (t : Tm) (kn : Kn) (p : List Nat), q ∉ t.spots → gv kn t p q = none := by
      intro q
      induction q with
      | nil => intro t kn p h; exact absurd (by rw [Tm.spots_eq]; simp) h
      | cons i q ih =>
        intro t kn p h
        simp only [gv]
        cases hu : t.parts[i]? with
        | none => rfl
        | some u =>
          refine ih u _ _ fun hq => h ?_
          obtain ⟨v, hv⟩ := Tm.spots_at.mp hq
          exact Tm.spots_at.mpr ⟨v, by simp only [Tm.at, hu]; exact hv⟩
    rw [this q t [] [] hq]; rfl
  · rw [e]; exact Tm.spots_nodup t
  · simp [load, two3]
theorem GI.step {t u : Tm} {val : Str → D → D} {F : List (List Key × D)} {W : Stk3} {p : List Nat} {kn : Kn} (I : GI t val F (W ++ [(p, u, kn)])) : GI t val (note val F p u kn) (W ++ kids3 p u kn 0 u.parts) := by
  obtain ⟨g1, k1, a1⟩ := I.a (p, u, kn) (by simp)
  have hp : p ∈ t.spots := Tm.spots_at.mpr ⟨u, a1⟩
  have e1 : due ((W ++ [(p, u, kn)]).map two3) = due (W.map two3) ++ p :: (Tm.spotsL 0 u.parts).map (p ++ ·) := by
    rw [List.map_append, due_app]
    congr 1
    simp [due, two3, Tm.spots_eq u]
  have e2 : due ((W ++ kids3 p u kn 0 u.parts).map two3) = due (W.map two3) ++ (Tm.spotsL 0 u.parts).map (p ++ ·) := by
    rw [List.map_append, due_app, kids3_two, due_pkids]
  have pm : (due ((W ++ [(p, u, kn)]).map two3)).Perm (p :: due ((W ++ kids3 p u kn 0 u.parts).map two3)) := by
    rw [e1, e2]; exact List.perm_middle
  have nd := (pm.nodup_iff.mp I.c)
  rw [List.nodup_cons] at nd
  have other : ∀ q, q ≠ p → dGet (note val F p u kn) (key q) = dGet F (key q) := fun q hq => by
    unfold note
    split
    · rw [get_put, if_neg fun e => hq (key_inj e).symm]
    · rfl
  refine ⟨?_, ?_, ?_, nd.2, ?_⟩
  · intro x hx
    rcases List.mem_append.mp hx with hx | hx
    · exact I.a x (List.mem_append_left _ hx)
    · obtain ⟨i, v, h1, rfl⟩ := kids3_mem hx
      rw [Nat.zero_add]
      refine ⟨fun r => ?_, k1.next hp i, ?_⟩
      · have := g1 (i :: r)
        rw [List.append_assoc, List.singleton_append, this]
        simp only [gv, h1, Option.bind_some]
      · rw [Tm.at_app, a1]
        simp only [Option.bind_some, Tm.at, h1]
  · intro q hq
    have hne : q ≠ p := fun e => nd.1 (e ▸ hq)
    rw [other q hne]
    exact I.b0 q (pm.mem_iff.mpr (List.mem_cons_of_mem _ hq))
  · intro q hq
    by_cases hqp : q = p
    · subst hqp
      have h0 := I.b0 q (pm.mem_iff.mpr (List.mem_cons_self ..))
      have h1 := g1 []
      simp only [List.append_nil] at h1
      rw [h1]
      unfold note
      simp only [gv]
      cases hn : u.name with
      | none => exact h0
      | some s => simp only [Option.map_some]; rw [get_put, if_pos rfl]
    · rw [other q hqp]
      refine I.b1 q fun h => ?_
      rcases List.mem_cons.mp (pm.mem_iff.mp h) with h | h
      · exact hqp h
      · exact hq h
  · have := I.n
    rw [List.map_append, load_app, kids3_two, load_pkids]
    rw [List.map_append, load_app] at this
    have e : load (([(p, u, kn)] : Stk3).map two3) = u.size := by simp [load, two3]
    have := Tm.size_eq u
    have hl : (note val F p u kn).length ≤ F.length + 1 := by
      unfold note
      split
      · exact putD_len _ _ _
      · omega
    omega
theorem GI.fin {t : Tm} {val : Str → D → D} {F : List (List Key × D)} (I : GI t val F []) (q : List Nat) : dGet F (key q) = (gv [] t [] q).map fun p => val p.1 p.2 := I.b1 q (by simp [due])
end L3
set_option Elab.async false
set_option linter.all false
set_option maxRecDepth 100000
set_option maxHeartbeats 4000000
/-! L9I: walks that note what gives each name. -/
namespace L3
open PySem L2
def knD (kn : Kn) : D := .dic (kn.map (·.1)) (kn.map (·.2))
def stk3 (x : List Nat × Tm × Kn) : D := .tup [pl x.1, x.2.1.d, knD x.2.2]
theorem zip_self (kn : Kn) : (kn.map (·.1)).zip (kn.map (·.2)) = kn := by
  induction kn with
  | nil => rfl
  | cons p kn ih => simp only [List.map_cons, List.zip_cons_cons, ih]
/-- only what stands at n has changed; objects may have come -/
structure FrW (n : Nat) (S S' : Store) : Prop where
  le : S.length ≤ S'.length
  fr : ∀ m o, m ≠ n → S[m]? = some o → S'[m]? = some o
theorem FrW.refl (n : Nat) (S : Store) : FrW n S S := ⟨Nat.le_refl _, fun _ _ _ h => h⟩
theorem FrW.trans {n : Nat} {S S' S'' : Store} (a : FrW n S S') (b : FrW n S' S'') : FrW n S S'' := ⟨Nat.le_trans a.le b.le, fun m o h e => b.fr m o h (a.fr m o h e)⟩
theorem FrW.set {n : Nat} {S S' : Store} (a : FrW n S S') (o : O) : FrW n S (S'.set n o) := ⟨by simpa using a.le, fun m o' h e => by rw [List.getElem?_set_ne (Ne.symm h)]; exact a.fr m o' h e⟩
theorem FrW.of {n : Nat} {S S' : Store} (g : Grow S S') : FrW n S S' := ⟨g.le, fun m o _ e => g.fr m o e⟩
theorem FrW.put {n : Nat} {S S' : Store} (a : FrW n S S') {p : Nat} (hp : S.length ≤ p) (o : O) : FrW n S (S'.set p o) := ⟨by simpa using a.le, fun m o' h e => by
  have := (List.getElem?_eq_some_iff.mp e).1
  rw [List.getElem?_set_ne (by omega)]; exact a.fr m o' h e⟩
theorem FrW.grow {n : Nat} {S0 S S' : Store} (a : FrW n S S') (g : Grow S0 S) (hn : S0.length ≤ n) : Grow S0 S' := ⟨Nat.le_trans g.le a.le, fun m o e => by
  have := (List.getElem?_eq_some_iff.mp e).1
  exact a.fr m o (by omega) (g.fr m o e)⟩
def EqOut (e e' : EnvD) : Prop := e'.length = e.length ∧ ∀ i, i ≠ 9 → i ≠ 10 → i ≠ 11 → e'[i]? = e[i]?
/-- the copy of what names stand for -/
def CpOk (cp : SD) (n : Nat) : Prop := ∀ (e : EnvD) (S : Store) (kn : Kn), e.length = n → e[5]? = some (some (knD kn)) → (kn.map (·.1)).Nodup → kn.length ≤ 1000 → cp e S = .nx (e.set 11 (some (.obj S.length))) (S ++ [.dK kn])
/-- whether a thing gives its mark -/
def TsOk (ts : ED) : Prop := ∀ (e : EnvD) (S : Store) (u : Tm), Good u → e[6]? = some (some u.w) → ts e S = .ok (.bl u.gives.isSome) S
def mGB (cp : SD) (ts : ED) : SD := sSeq cp
    (sSeq (sIf (tAnd (tOfE ts) (tOfE (e2 eqD (eVar 9) (eK (.int 1))))) (sAsg (eVar 3) (gSub (eVar 11) (eVar 7))) (sSkip))
    (sExpr (eBM "list" appendD (eVar 2) (aCons (eN mkTup (aCons (e2 addD (eVar 3) (eN mkTup (aCons (eVar 9) (aNil)))) (aCons (eVar 10) (aCons (e1 frzD (eVar 11)) (aNil))))) (aNil)))))
theorem gives_m {u : Tm} {m : Str} (h : u.gives = some m) : u.m = .str m := by
  cases u with
  | nd w m' ps =>
    simp only [Tm.gives] at h
    split at h
    · cases h; rfl
    · cases h
  | _ => cases h
theorem gb_ok {cp : SD} {ts : ED} {n wn : Nat} (hc : CpOk cp n) (ht : TsOk ts) (hn : 12 ≤ n) {e : EnvD} {S : Store} {p : List Nat} {u v : Tm} {kn : Kn} {k : Nat} {L : List D} (gu : Good u) (hl : e.length = n) (e2' : e[2]? = some (some (.obj wn))) (e3 : e[3]? = some (some (pl p)))
    (e5 : e[5]? = some (some (knD kn))) (e6 : e[6]? = some (some u.w)) (e7 : e[7]? = some (some u.m)) (e9 : e[9]? = some (some (.int (k : Int)))) (e10 : e[10]? = some (some v.d)) (hS : S[wn]? = some (.lst L)) (hL : L.length < 1000) (hp : p.length ≤ 500) (nd : (kn.map (·.1)).Nodup) (hk : kn.length ≤ 500) :
    (mGB cp ts e S).sat (fun e' S' => e' = e.set 11 (some (.obj S.length)) ∧ S'[wn]? = some (.lst (L ++ [stk3 (p ++ [k], v, knx u p kn k)])) ∧ FrW wn S S') (fun _ _ => False) (fun _ _ => False) fun _ _ => False := by
  have hw := (List.getElem?_eq_some_iff.mp hS).1
  unfold mGB
  rw [ssat_seq, hc e S kn hl e5 nd (by omega), ssat_nx]
  have f : ∀ i, i ≠ 11 → (e.set 11 (some (.obj S.length)))[i]? = e[i]? := fun i hi => by rw [List.getElem?_set_ne (Ne.symm hi)]
  have f11 : (e.set 11 (some (D.obj S.length)))[11]? = some (some (.obj S.length)) := by rw [List.getElem?_set_self (by omega)]
  have g1 : Grow S (S ++ [.dK kn]) := Grow.app ..
  -- what names stand for within
  refine seq_rule (fun e' S' => e' = e.set 11 (some (.obj S.length)) ∧ S' = S ++ [.dK (knx u p kn k)]) ?_ ?_
  · have et : (tAnd (tOfE ts) (tOfE (e2 eqD (eVar 9) (eK (.int 1))))) (e.set 11 (some (.obj S.length))) (S ++ [.dK kn]) = .ok (u.gives.isSome && decide (k = 1)) (S ++ [.dK kn]) := by
      apply of_sat
      rw [sat_tAnd, sat_tOfE, ht _ _ u gu (by rw [f 6 (by decide)]; exact e6), sat_ok, blD_bl, sat_ok]
      cases u.gives.isSome with
      | false => simp
      | true =>
        simp only [if_true, sat_tOfE, sat_e2, sat_eVar, sat_eK, f 9 (by decide), e9, eq_int, sat_ok, blD_bl, Bool.true_and]
        refine ⟨?_, trivial⟩
        rw [Bool.eq_iff_iff]; simp; omega
    rw [ssat_if, et, sat_ok]
    cases hg : u.gives with
    | none =>
      simp only [Option.isSome_none, Bool.false_and, Bool.false_eq_true, if_false, ssat_skip]
      refine ⟨trivial, ?_⟩
      unfold knx; rw [hg]
    | some m =>
      simp only [Option.isSome_some, Bool.true_and]
      have em := gives_m hg
      by_cases h1 : k = 1
      · rw [if_pos (decide_eq_true h1), ssat_asg]
        simp only [sat_eVar, f 3 (by decide), e3]
        rw [ssat_gSub]
        simp only [sat_eVar, f 7 (by decide), e7, f11, em]
        have hd : (S ++ [O.dK kn])[S.length]? = some (.dK kn) := by simp
        refine ⟨_, setD_dK hd rfl (Nat.lt_of_le_of_lt hk (by decide)), trivial, ?_⟩
        rw [set_last]
        unfold knx; rw [hg]
        simp only [if_pos h1]
      · rw [if_neg (by simp [h1]), ssat_skip]
        refine ⟨rfl, ?_⟩
        unfold knx; rw [hg]
        simp only [if_neg h1]
  rintro e' S' ⟨rfl, rfl⟩
  have hS1 : (S ++ [O.dK (knx u p kn k)])[wn]? = some (.lst L) := by rw [List.getElem?_append_left hw]; exact hS
  have hd1 : (S ++ [O.dK (knx u p kn k)])[S.length]? = some (.dK (knx u p kn k)) := by simp
  simp only [ssat_sExpr, sat_eBM, sat_eN, sat_aCons, sat_aNil, sat_e2, sat_e1, sat_eVar, f 2 (by decide), f 3 (by decide), f 9 (by decide), f 10 (by decide), e2', e3, e9, e10, f11]
  refine ⟨by simp [mtD, hS1], ?_⟩
  rw [mkTup1, sat_ok]
  have ea : addD (pl p) (.tup [.int (k : Int)]) (S ++ [O.dK (knx u p kn k)]) = .ok (pl (p ++ [k])) (S ++ [O.dK (knx u p kn k)]) := by
    unfold pl; rw [add_tup (small (by simp; omega))]; simp
  rw [ea, sat_ok]
  have ef : frzD (.obj S.length) (S ++ [O.dK (knx u p kn k)]) = .ok (knD (knx u p kn k)) (S ++ [.dead]) := by
    unfold frzD; simp only [hd1, set_last]; rfl
  rw [ef, sat_ok, mkTup3, sat_ok]
  have hS2 : (S ++ [O.dead])[wn]? = some (.lst L) := by rw [List.getElem?_append_left hw]; exact hS
  rw [append_obj hS2]
  refine ⟨Nat.lt_of_lt_of_le hL (small (Nat.le_refl _)), trivial, ?_, (FrW.of (Grow.app ..)).set _⟩
  rw [List.getElem?_set_self (by simp; omega)]; rfl
theorem parts_loop {cp : SD} {ts : ED} {n wn : Nat} (hc : CpOk cp n) (ht : TsOk ts) (hn : 12 ≤ n) {e : EnvD} {S : Store} {p : List Nat} {u : Tm} {kn : Kn} {L : List D} {N B C : EnvD → Store → Prop} {T : D → Store → Prop} (gu : Good u) (hl : e.length = n) (e2' : e[2]? = some (some (.obj wn))) (e3 : e[3]? = some (some (pl p)))
    (e5 : e[5]? = some (some (knD kn))) (e6 : e[6]? = some (some u.w)) (e7 : e[7]? = some (some u.m)) (hS : S[wn]? = some (.lst L)) (hL : L.length + u.parts.length ≤ 1000) (hp : p.length ≤ 500) (nd : (kn.map (·.1)).Nodup) (hk : kn.length ≤ 500)
    (hN : ∀ e' S', EqOut e e' → S'[wn]? = some (.lst (L ++ (kids3 p u kn 0 u.parts).map stk3)) → FrW wn S S' → N e' S') :
    (forL (gTup [9, 10]) (mGB cp ts) (enumL 0 (Tm.ds u.parts)) e S).sat N T B C := by
  refine for_rule (fun j e' S' => EqOut e e' ∧ S'[wn]? = some (.lst (L ++ (kids3 p u kn 0 (u.parts.take j)).map stk3)) ∧ FrW wn S S') ⟨⟨rfl, fun _ _ _ _ => rfl⟩, by simpa [kids3] using hS, FrW.refl _ _⟩ ?_ ?_
  · rintro j hj e' S' ⟨⟨q1, q2⟩, hS', fr⟩
    obtain ⟨x, h1, h2⟩ := enumL_at hj
    rw [h2, Nat.zero_add]
    rw [Tm.ds_get] at h1
    cases h3 : u.parts[j]? with
    | none => rw [h3] at h1; cases h1
    | some v =>
      rw [h3] at h1
      simp only [Option.map_some, Option.some.injEq] at h1
      subst h1
      have hj' := (List.getElem?_eq_some_iff.mp h3).1
      simp only [gTup_tup, gNames_cons, gNames_nil, ssat_nx]
      have g : ∀ i, i ≠ 9 → i ≠ 10 → i ≠ 11 → ((e'.set 9 (some (.int (j : Int)))).set 10 (some v.d))[i]? = e[i]? := fun i a b c => by
        rw [List.getElem?_set_ne (Ne.symm b), List.getElem?_set_ne (Ne.symm a)]; exact q2 i a b c
      have kl : (kids3 p u kn 0 (u.parts.take j)).length = j := by
        have : ∀ (ts : List Tm) (k : Nat), (kids3 p u kn k ts).length = ts.length := by
          intro ts
          induction ts with
          | nil => intro k; rfl
          | cons t ts ih => intro k; simp only [kids3, List.length_cons, ih]
        rw [this, List.length_take]; omega
      refine ssat_mono (gb_ok (p := p) (u := u) (v := v) (kn := kn) (k := j) hc ht hn gu (by simp [q1, hl]) (by rw [g 2 (by decide) (by decide) (by decide)]; exact e2') (by rw [g 3 (by decide) (by decide) (by decide)]; exact e3) (by rw [g 5 (by decide) (by decide) (by decide)]; exact e5) (by rw [g 6 (by decide) (by decide) (by decide)]; exact e6) (by rw [g 7 (by decide) (by decide) (by decide)]; exact e7)
        (by rw [List.getElem?_set_ne (by decide), List.getElem?_set_self (by omega)]) (by rw [List.getElem?_set_self (by simp; omega)]) hS' (by simp [kl]; omega) hp nd hk) (fun e1 S1 ⟨h4, h5, h6⟩ => ?_) (fun _ _ h => h.elim) (fun _ _ h => h.elim) fun _ _ h => h.elim
      subst h4
      refine ⟨⟨by simp [q1], fun i a b c => ?_⟩, ?_, fr.trans h6⟩
      · rw [List.getElem?_set_ne (Ne.symm c)]; exact g i a b c
      · rw [h5]
        have e1 : u.parts.take (j + 1) = u.parts.take j ++ [v] := by
          rw [List.take_succ_eq_append_getElem hj']
          have : u.parts[j] = v := by rw [List.getElem?_eq_getElem hj'] at h3; simpa using h3
          rw [this]
        rw [e1, kids3_app]
        simp only [List.length_take, Nat.min_eq_left (Nat.le_of_lt hj'), Nat.zero_add, kids3, List.map_append, List.map_cons, List.map_nil, List.append_assoc]
  · rintro e' S' ⟨q, hS', fr⟩
    rw [enumL_len, Tm.ds_len, List.take_length] at hS'
    exact hN e' S' q hS' fr
end L3
set_option Elab.async false
set_option linter.all false
set_option maxRecDepth 100000
set_option maxHeartbeats 4000000
/-! L9J: the walk down from what waits. -/
namespace L3
open PySem L2
theorem Good.parts {t : Tm} (h : Good t) : ∀ u ∈ t.parts, Good u := by
  cases h with
  | num _ _ => intro u hu; simp [Tm.parts] at hu
  | nam _ => intro u hu; simp [Tm.parts] at hu
  | nd _ _ _ _ _ hp => exact hp
theorem Good.at : ∀ {q : List Nat} {t u : Tm}, Good t → t.at q = some u → Good u
  | [], t, u, h, e => by simp only [Tm.at, Option.some.injEq] at e; subst e; exact h
  | i :: q, t, u, h, e => by
    obtain ⟨v, h1, h2⟩ := Tm.at_cons e
    exact Good.at (h.parts v (List.mem_of_getElem? h1)) h2
structure E0 (n : Nat) (x0 x1 : Option D) (wn : Nat) (e : EnvD) : Prop where
  l : e.length = n
  h0 : e[0]? = some x0
  h1 : e[1]? = some x1
  h2 : e[2]? = some (some (.obj wn))
def mGW (nt cp : SD) (ts : ED) : SD := sSeq (sAsg (eBM "list" popD (eVar 2) aNil) (gSeq [3, 4, 5]))
    (sSeq (sAsg (eVar 4) (gTup [6, 7, 8]))
    (sSeq nt
    (sFor (iArgs enumA (aCons (eVar 8) (aNil))) (gTup [9, 10]) (mGB cp ts))))
theorem sizes_dep (t : Tm) : t.dep ≤ t.size := by
  induction t using Tm.rec (motive_2 := fun ts => Tm.deps ts ≤ Tm.sizes ts) with
  | num i => simp [Tm.dep, Tm.size]
  | nam i => simp [Tm.dep, Tm.size]
  | nd w m ps ih => simp only [Tm.dep, Tm.size]; omega
  | nil => simp [Tm.deps, Tm.sizes]
  | cons t ts h1 h2 => simp only [Tm.deps, Tm.sizes]; omega
theorem gw_ok {φ : Type} {t : Tm} {n wn fuel : Nat} {x0 x1 : Option D} {J : φ → Store → Prop} {GG : φ → Stk3 → Prop} {cnd : TD} {nt cp : SD} {ts : ED} (gt : Good t) (hs : t.size ≤ 400) (hf : 1000 ≤ fuel) (hn : 12 ≤ n)
    (hc : CpOk cp n) (ht : TsOk ts) (hJ : ∀ F S S', FrW wn S S' → J F S → J F S')
    (hG : ∀ F W, GG F W → (∀ x ∈ W, KnOk t x.1 x.2.2 ∧ t.at x.1 = some x.2.1) ∧ load (W.map two3) ≤ t.size)
    (hcnd : ∀ e S l, E0 n x0 x1 wn e → S[wn]? = some (.lst l) → cnd e S = .ok (!l.isEmpty) S)
    (hnt : ∀ e S F W p u kn L, E0 n x0 x1 wn e → e[3]? = some (some (pl p)) → e[5]? = some (some (knD kn)) → e[6]? = some (some u.w) → e[7]? = some (some u.m) → Good u → J F S → GG F (W ++ [(p, u, kn)]) → S[wn]? = some (.lst L) → F = F →
      (nt e S).sat (fun e' S' => e' = e ∧ S'[wn]? = some (.lst L) ∧ ∃ F', J F' S' ∧ GG F' (W ++ kids3 p u kn 0 u.parts)) (fun _ _ => False) (fun _ _ => False) fun _ _ => False)
    {e : EnvD} {S : Store} (he : E0 n x0 x1 wn e) {F : φ} (hJ0 : J F S) (hG0 : GG F [([], t, [])]) (hS : S[wn]? = some (.lst [stk3 ([], t, [])])) {N B C : EnvD → Store → Prop} {T : D → Store → Prop}
    (hN : ∀ e' S' F', E0 n x0 x1 wn e' → J F' S' → GG F' [] → N e' S') :
    (sWhile cnd (mGW nt cp ts) fuel e S).sat N T B C := by
  refine while_rule (fun m e S' => E0 n x0 x1 wn e ∧ ∃ F W, m = load (W.map two3) ∧ J F S' ∧ GG F W ∧ S'[wn]? = some (.lst (W.map stk3))) (m := t.size) (by omega) ⟨he, F, [([], t, [])], by simp [load, two3], hJ0, hG0, hS⟩ ?_
  rintro m e S' ⟨he, F, W, rfl, hJ1, hG1, hw⟩
  rw [hcnd e S' _ he hw, sat_ok]
  rcases List.eq_nil_or_concat W with rfl | ⟨W', ⟨p, u, kn⟩, rfl⟩
  · simp only [List.map_nil, List.isEmpty_nil, Bool.not_true, Bool.false_eq_true, if_false]
    exact hN e S' F he hJ1 hG1
  · rw [List.concat_eq_append] at *
    obtain ⟨hx, hld⟩ := hG F _ hG1
    obtain ⟨kok, hat⟩ := hx (p, u, kn) (by simp)
    have gu := gt.at hat
    have hdep : p.length + u.dep ≤ t.dep := Tm.at_dep hat
    have hu1 : load (([(p, u, kn)] : Stk3).map two3) = u.size := by simp [load, two3]
    have hpl := Tm.parts_len u
    have := sizes_dep t
    have := Tm.dep_pos u
    rw [List.map_append, load_app, hu1] at hld
    have hsz : u.size ≤ t.size := by omega
    have hkl : kn.length ≤ p.length := kok.ln
    have lw := len_load (W'.map two3)
    rw [List.length_map] at lw
    rw [if_pos (by simp)]
    unfold mGW
    have w0 : S'[wn]? = some (.lst (W'.map stk3 ++ [stk3 (p, u, kn)])) := by rw [hw]; simp
    have sl := (List.getElem?_eq_some_iff.mp hw).1
    have l := he.l
    refine step_asg (S1 := S'.set wn (.lst (W'.map stk3))) (d := stk3 (p, u, kn)) (env' := ((e.set 3 (some (pl p))).set 4 (some u.d)).set 5 (some (knD kn))) ?_ rfl ?_
    · obtain ⟨a, S1, e1, h1, h2⟩ := sat_ex.mp (show (eBM "list" popD (eVar 2) aNil e S').sat fun d S1 => d = stk3 (p, u, kn) ∧ S1 = S'.set wn (.lst (W'.map stk3)) by
        simp only [sat_eBM, sat_aNil, sat_eVar, he.h2]
        refine ⟨by simp [mtD, w0], ?_⟩
        rw [pop_obj w0, sat_ok]
        exact ⟨rfl, rfl⟩)
      rw [e1, h1, h2]
    have fr1 : FrW wn S' (S'.set wn (.lst (W'.map stk3))) := (FrW.refl _ _).set _
    have hJ2 := hJ F _ _ fr1 hJ1
    have w1 : (S'.set wn (.lst (W'.map stk3)))[wn]? = some (.lst (W'.map stk3)) := List.getElem?_set_self sl
    generalize S'.set wn (.lst (W'.map stk3)) = S1 at hJ2 w1
    refine step_asg (S1 := S1) (S2 := S1) (d := u.d) (env' := ((((((e.set 3 (some (pl p))).set 4 (some u.d)).set 5 (some (knD kn))).set 6 (some u.w)).set 7 (some u.m)).set 8 (some (.tup (Tm.ds u.parts))))) ?_ ?_ ?_
    · have : (((e.set 3 (some (pl p))).set 4 (some u.d)).set 5 (some (knD kn)))[4]? = some (some u.d) := by rw [List.getElem?_set_ne (by decide), List.getElem?_set_self (by simp; omega)]
      apply of_sat
      simp only [sat_eVar, this]
      first | exact ⟨rfl, trivial⟩ | exact ⟨trivial, rfl⟩ | exact ⟨trivial, trivial⟩
    · rw [Tm.d_eq u]; rfl
    have f : ∀ i, i < 3 → (((((((e.set 3 (some (pl p))).set 4 (some u.d)).set 5 (some (knD kn))).set 6 (some u.w)).set 7 (some u.m)).set 8 (some (.tup (Tm.ds u.parts))))[i]? = e[i]?) := fun i hi => by
      rw [List.getElem?_set_ne (by omega), List.getElem?_set_ne (by omega), List.getElem?_set_ne (by omega), List.getElem?_set_ne (by omega), List.getElem?_set_ne (by omega), List.getElem?_set_ne (by omega)]
    have f3 : ((((((e.set 3 (some (pl p))).set 4 (some u.d)).set 5 (some (knD kn))).set 6 (some u.w)).set 7 (some u.m)).set 8 (some (.tup (Tm.ds u.parts))))[3]? = some (some (pl p)) := by
      rw [List.getElem?_set_ne (by decide), List.getElem?_set_ne (by decide), List.getElem?_set_ne (by decide), List.getElem?_set_ne (by decide), List.getElem?_set_ne (by decide), List.getElem?_set_self (by omega)]
    have f5 : ((((((e.set 3 (some (pl p))).set 4 (some u.d)).set 5 (some (knD kn))).set 6 (some u.w)).set 7 (some u.m)).set 8 (some (.tup (Tm.ds u.parts))))[5]? = some (some (knD kn)) := by
      rw [List.getElem?_set_ne (by decide), List.getElem?_set_ne (by decide), List.getElem?_set_ne (by decide), List.getElem?_set_self (by simp; omega)]
    have f6 : ((((((e.set 3 (some (pl p))).set 4 (some u.d)).set 5 (some (knD kn))).set 6 (some u.w)).set 7 (some u.m)).set 8 (some (.tup (Tm.ds u.parts))))[6]? = some (some u.w) := by
      rw [List.getElem?_set_ne (by decide), List.getElem?_set_ne (by decide), List.getElem?_set_self (by simp; omega)]
    have f7 : ((((((e.set 3 (some (pl p))).set 4 (some u.d)).set 5 (some (knD kn))).set 6 (some u.w)).set 7 (some u.m)).set 8 (some (.tup (Tm.ds u.parts))))[7]? = some (some u.m) := by
      rw [List.getElem?_set_ne (by decide), List.getElem?_set_self (by simp; omega)]
    have f8 : ((((((e.set 3 (some (pl p))).set 4 (some u.d)).set 5 (some (knD kn))).set 6 (some u.w)).set 7 (some u.m)).set 8 (some (.tup (Tm.ds u.parts))))[8]? = some (some (.tup (Tm.ds u.parts))) := by
      rw [List.getElem?_set_self (by simp; omega)]
    have fl : ((((((e.set 3 (some (pl p))).set 4 (some u.d)).set 5 (some (knD kn))).set 6 (some u.w)).set 7 (some u.m)).set 8 (some (.tup (Tm.ds u.parts)))).length = n := by simp [l]
    generalize (((((e.set 3 (some (pl p))).set 4 (some u.d)).set 5 (some (knD kn))).set 6 (some u.w)).set 7 (some u.m)).set 8 (some (.tup (Tm.ds u.parts))) = e1 at f f3 f5 f6 f7 f8 fl
    have he1 : E0 n x0 x1 wn e1 := ⟨fl, by rw [f 0 (by decide)]; exact he.h0, by rw [f 1 (by decide)]; exact he.h1, by rw [f 2 (by decide)]; exact he.h2⟩
    refine seq_rule _ (ssat_mono (hnt e1 S1 F W' p u kn _ he1 f3 f5 f6 f7 gu hJ2 hG1 w1 rfl) (fun _ _ h => h) (fun _ _ h => h.elim) (fun _ _ h => h.elim) fun _ _ h => h.elim) ?_
    rintro e2 S2 ⟨rfl, w2, F', hJ3, hG3⟩
    simp only [ssat_for, sat_iArgs, sat_aCons, sat_aNil, sat_eVar, f8]
    rw [enumA_tup, sat_ok]
    refine parts_loop hc ht hn gu fl he1.h2 f3 f5 f6 f7 w2 (by simp; omega) (by omega) kok.nd (by omega) fun e' S'' q hS'' fr => ⟨load ((W' ++ kids3 p u kn 0 u.parts).map two3), ?_, ?_, F', W' ++ kids3 p u kn 0 u.parts, rfl, hJ F' _ _ fr hJ3, hG3, ?_⟩
    · rw [List.map_append, load_app, kids3_two, load_pkids, List.map_append, load_app, hu1]
      have := Tm.size_eq u
      omega
    · exact ⟨by rw [q.1, fl], by rw [q.2 0 (by decide) (by decide) (by decide)]; exact he1.h0, by rw [q.2 1 (by decide) (by decide) (by decide)]; exact he1.h1, by rw [q.2 2 (by decide) (by decide) (by decide)]; exact he1.h2⟩
    · rw [hS'']; simp
end L3
set_option Elab.async false
set_option linter.all false
set_option maxRecDepth 100000
set_option maxHeartbeats 4000000
/-! L9K: Scopes and giver_at. -/
namespace L3
open PySem L2
variable {S : Store}
theorem in_gvs {s : Str} (h : asc s = true) : inD (.str s) (.tup [.str "let", .str "each"]) S = .ok (.bl (decide (s = "let" ∨ s = "each"))) S := by
  have ws : toPyL [D.str "let", D.str "each"] = some [.str "let", .str "each"] := by kernel_rfl
  have e : memD (.str s) (.tup [.str "let", .str "each"]) S = some (decide (s = "let" ∨ s = "each")) := by
    show memData (toPy (.str s)) (toPy (.tup [.str "let", .str "each"])) = _
    simp only [memData, toPy, asc_ok h, if_true, ws, Option.map_some]
    rw [if_pos (show (PyData.str s).depth ≤ 64 by simp [PyData.depth])]
    congr 1
    rw [Bool.eq_iff_iff]
    simp only [List.any_cons, List.any_nil, Bool.or_false, Bool.or_eq_true, decide_eq_true_eq, PyData.eqv]
    constructor
    · rintro (e | e)
      · exact .inl (by simpa using (beq_iff_eq.mp e).symm)
      · exact .inr (by simpa using (beq_iff_eq.mp e).symm)
    · rintro (e | e) <;> subst e
      · exact .inl (by simp)
      · exact .inr (by simp)
  unfold inD
  rw [e]
theorem w_str {u : Tm} (h : Good u) : ∃ w : Str, u.w = .str w ∧ asc w = true ∧ (w == "name") = u.name.isSome ∧ decide (w = "let" ∨ w = "each") = u.gives.isSome := by
  cases h with
  | num _ _ => exact ⟨"num", rfl, by decide +kernel, by show (("num" : Str) == "name") = false; decide +kernel, by show decide (("num" : Str) = "let" ∨ ("num" : Str) = "each") = false; decide +kernel⟩
  | nam _ => exact ⟨"name", rfl, by decide +kernel, by show (("name" : Str) == "name") = true; decide +kernel, by show decide (("name" : Str) = "let" ∨ ("name" : Str) = "each") = false; decide +kernel⟩
  | @nd w m ps f mo g hw _ _ _ _ _ =>
    refine ⟨w, rfl, words_asc (shape_word hw).1, ?_, ?_⟩
    · show (w == "name") = false
      rw [beq_eq_false_iff_ne]
      rintro rfl
      have : shape "name" = none := by decide +kernel
      rw [this] at hw; cases hw
    · show _ = (if w = "let" ∨ w = "each" then some m else none).isSome
      split <;> simp_all
theorem ts_two : TsOk (e2 inD (eVar 6) (eK (.tup [.str "let", .str "each"]))) := fun e S u gu h => by
  obtain ⟨w, hw, ha, _, hg⟩ := w_str gu
  apply of_sat
  simp only [sat_e2, sat_eVar, sat_eK, h, hw]
  rw [in_gvs ha, sat_ok, hg]
  exact ⟨rfl, rfl⟩
theorem ts_two' : TsOk (e2 inD (eVar 6) (eN mkTup (aCons (eK (.str "let")) (aCons (eK (.str "each")) (aNil))))) := fun e S u gu h => by
  obtain ⟨w, hw, ha, _, hg⟩ := w_str gu
  have m2 : mkTup [.str "let", .str "each"] S = .ok (.tup [.str "let", .str "each"]) S := of_sat (by rw [sat_mkTup]; exact ⟨small (by simp), rfl, rfl⟩)
  apply of_sat
  simp only [sat_e2, sat_eVar, sat_eK, sat_eN, sat_aCons, sat_aNil, h, hw, m2, sat_ok]
  rw [in_gvs ha, sat_ok, hg]
  exact ⟨rfl, rfl⟩
theorem cp_comp {n : Nat} (hn : 14 ≤ n) : CpOk (sCopy 11 5 13 12) n := fun e S kn hl h5 nd hk => by
  unfold sCopy
  rw [h5]
  simp only [knD]
  rw [if_pos ⟨by simp, by have := small hk; simpa using this, by omega, by omega⟩, zip_self, copy_self nd]
theorem get_kn {kn : Kn} {s : Str} : dgetD (knD kn) [.str s] S = .ok ((dGet kn (.inr s)).getD .non) S := by
  unfold dgetD
  have : dkAt (knD kn) S = some kn := by
    unfold knD
    simp only [dkAt]
    rw [if_pos (by simp), zip_self]
  rw [this]
  rfl
theorem nam_of {u : Tm} {s : Str} (h : u.name = some s) : u = .nam s := by
  cases u with
  | nam x => simp only [Tm.name, Option.some.injEq] at h; rw [h]
  | _ => cases h
theorem setD_dT {n : Nat} {F : List (List Key × D)} {p : List Nat} {v : D} (h : S[n]? = some (.dT F)) (hz : F.length < 1000) : setD (.obj n) (pl p) v S = some (S.set n (.dT (putD F (key p) v))) := by
  simp only [setD, h, tk_pl]
  rw [if_pos (Nat.lt_of_lt_of_le hz (small (Nat.le_refl _)))]
/-! Scopes -/
def mNote : SD := sIf (tOfE (e2 eqD (eVar 6) (eK (.str "name")))) (sSeq (sAsg (eVar 7) (gSub (e1 (fldD ["Scopes"] "names") (eVar 0)) (eVar 3)))
    (sAsg (eBM "dict" dgetD (eVar 5) (aCons (eVar 7) (aNil))) (gSub (e1 (fldD ["Scopes"] "givers") (eVar 0)) (eVar 3)))) (sSkip)
def mInit (fuel : Nat) : SD :=
    sSeq (sFldD ["Scopes"] "names" (eVar 0) (eDctT0))
    (sSeq (sFldD ["Scopes"] "givers" (eVar 0) (eDctT0))
    (sSeq (sAsg (eN mkObj (aCons (eN mkTup (aCons (eN mkTup (aNil)) (aCons (eVar 1) (aCons (eDic0) (aNil))))) (aNil))) (gName 2))
    (sWhile (tOfE (e2 gtD (eN lenD (aCons (eVar 2) (aNil))) (eK (.int 0)))) (mGW mNote (sCopy 11 5 13 12) (e2 inD (eVar 6) (eK (.tup [.str "let", .str "each"])))) fuel)))
def scF (n1 n2 : Nat) : List (Str × D) := [("names", .obj n1), ("givers", .obj n2)]
/-- an instance whose dicts are filled -/
structure ScJ (S0 : Store) (a n1 n2 : Nat) (F : List (List Key × D) × List (List Key × D)) (S : Store) : Prop where
  i : S[a]? = some (.ins "Scopes" (scF n1 n2))
  f1 : S[n1]? = some (.dT F.1)
  f2 : S[n2]? = some (.dT F.2)
  le : S0.length ≤ S.length
  fr : ∀ m o, m ≠ a → S0[m]? = some o → S[m]? = some o
theorem note_ok {t : Tm} {S0 : Store} {a n1 n2 wn : Nat} {x1 : Option D} (hs : t.size ≤ 400) (d1 : n1 ≠ a) (d2 : n2 ≠ a) (d3 : n1 ≠ n2) (d4 : wn ≠ n1) (d5 : wn ≠ n2) (h1 : S0.length ≤ n1) (h2 : S0.length ≤ n2)
    {e : EnvD} {S : Store} {F : List (List Key × D) × List (List Key × D)} {W : Stk3} {p : List Nat} {u : Tm} {kn : Kn} {L : List D} (he : E0 14 (some (.obj a)) x1 wn e) (e3 : e[3]? = some (some (pl p))) (e5 : e[5]? = some (some (knD kn))) (e6 : e[6]? = some (some u.w)) (e7 : e[7]? = some (some u.m)) (gu : Good u)
    (J : ScJ S0 a n1 n2 F S) (G : GI t (fun s _ => .str s) F.1 (W ++ [(p, u, kn)]) ∧ GI t (fun _ g => g) F.2 (W ++ [(p, u, kn)])) (hw : S[wn]? = some (.lst L)) :
    (mNote e S).sat (fun e' S' => e' = e ∧ S'[wn]? = some (.lst L) ∧ ∃ F', ScJ S0 a n1 n2 F' S' ∧ (GI t (fun s _ => .str s) F'.1 (W ++ kids3 p u kn 0 u.parts) ∧ GI t (fun _ g => g) F'.2 (W ++ kids3 p u kn 0 u.parts))) (fun _ _ => False) (fun _ _ => False) fun _ _ => False := by
  obtain ⟨w, hw', ha, hnm, _⟩ := w_str gu
  unfold mNote
  rw [ssat_if]
  simp only [sat_tOfE, sat_e2, sat_eVar, sat_eK, e6, hw', eq_strs, sat_ok, blD_bl, hnm]
  cases hn : u.name with
  | none =>
    simp only [Option.isSome_none, Bool.false_eq_true, if_false, ssat_skip]
    have g1 := G.1.step
    have g2 := G.2.step
    unfold note at g1 g2
    rw [hn] at g1 g2
    exact ⟨trivial, hw, F, J, g1, g2⟩
  | some s =>
    have hu := nam_of hn
    have g1 := G.1.step
    have g2 := G.2.step
    unfold note at g1 g2
    rw [hn] at g1 g2
    have em : u.m = .str s := by rw [hu]; rfl
    have l1 := G.1.n
    have l2 := G.2.n
    have a0 := (List.getElem?_eq_some_iff.mp J.i).1
    have b1 := (List.getElem?_eq_some_iff.mp J.f1).1
    have b2 := (List.getElem?_eq_some_iff.mp J.f2).1
    have lk1 : (scF n1 n2).lookup ("names" : Str) = some (D.obj n1) := by simp [scF, List.lookup]
    have lk2 : (scF n1 n2).lookup ("givers" : Str) = some (D.obj n2) := by
      have : (("givers" : Str) == "names") = false := by decide +kernel
      simp [scF, List.lookup, this]
    simp only [Option.isSome_some, if_true, ssat_seq, ssat_asg, sat_eVar, e7]
    rw [ssat_gSub]
    simp only [sat_e1, sat_eVar, he.h0, e3]
    rw [fld_eq J.i (by simp) lk1, sat_ok]
    refine ⟨_, setD_dT J.f1 (by omega), ?_⟩
    generalize hS1 : S.set n1 (.dT (putD F.1 (key p) u.m)) = S1
    have i1 : S1[a]? = some (.ins "Scopes" (scF n1 n2)) := by rw [← hS1, List.getElem?_set_ne d1]; exact J.i
    have j1 : S1[n1]? = some (.dT (putD F.1 (key p) u.m)) := by rw [← hS1, List.getElem?_set_self b1]
    have j2 : S1[n2]? = some (.dT F.2) := by rw [← hS1, List.getElem?_set_ne d3]; exact J.f2
    have le1 : S1.length = S.length := by rw [← hS1]; simp
    simp only [sat_eBM, sat_aCons, sat_aNil, sat_eVar, e5, e7, em]
    refine ⟨rfl, ?_⟩
    rw [get_kn, sat_ok, ssat_gSub]
    simp only [sat_e1, sat_eVar, he.h0, e3]
    rw [fld_eq i1 (by simp) lk2, sat_ok]
    refine ⟨_, setD_dT j2 (by omega), trivial, ?_, (putD F.1 (key p) (.str s), putD F.2 (key p) ((dGet kn (.inr s)).getD .non)), ⟨?_, ?_, ?_, ?_, ?_⟩, g1, g2⟩
    · rw [List.getElem?_set_ne (Ne.symm d5), ← hS1, List.getElem?_set_ne (Ne.symm d4)]; exact hw
    · rw [List.getElem?_set_ne d2]; exact i1
    · rw [List.getElem?_set_ne (Ne.symm d3), j1, em]
    · rw [List.getElem?_set_self (by omega)]
    · have := J.le; simp; omega
    · intro m o hm h
      have hl := (List.getElem?_eq_some_iff.mp h).1
      rw [List.getElem?_set_ne (by omega), ← hS1, List.getElem?_set_ne (by omega)]
      exact J.fr m o hm h
end L3
set_option Elab.async false
set_option linter.all false
set_option maxRecDepth 100000
set_option maxHeartbeats 4000000
/-! L9L: Scopes made; giver_at. -/
namespace L3
open PySem L2
variable {S : Store}
theorem scInit_ok {fuel : Nat} (hf : 1000 ≤ fuel) {t : Tm} (gt : Good t) (hs : t.size ≤ 400) (S0 : Store) :
    (run 2 14 (mInit fuel) [.obj S0.length, t.d] (S0 ++ [.ins "Scopes" []])).sat fun d S' => d = .non ∧ ∃ F, ScJ S0 S0.length (S0.length + 1) (S0.length + 2) F S' ∧ (∀ q, dGet F.1 (key q) = (gv [] t [] q).map fun p => .str p.1) ∧ (∀ q, dGet F.2 (key q) = (gv [] t [] q).map fun p => p.2) ∧ F.1.length ≤ t.size ∧ F.2.length ≤ t.size := by
  rw [sat_run]
  refine ⟨rfl, ?_⟩
  unfold mInit
  have dT : ∀ (e : EnvD) (S : Store), eDctT0 e S = .ok (.obj S.length) (S ++ [.dT []]) := fun e S => rfl
  rw [ssat_seq, ssat_fldD, dT, sat_ok]
  simp only [List.map_cons, List.map_nil, List.cons_append, List.nil_append, List.length_cons, List.length_nil, List.replicate, Nat.zero_add, Nat.reduceAdd, Nat.reduceSub, sat_eVar, List.getElem?_cons_zero]
  have i1 : (S0 ++ [O.ins "Scopes" []] ++ [O.dT []])[S0.length]? = some (.ins "Scopes" []) := by simp
  refine ⟨_, _, _, insAt_obj i1, ⟨by simp, by simp⟩, ?_⟩
  have s1 : (S0 ++ [O.ins "Scopes" []] ++ [O.dT []]).set S0.length (.ins "Scopes" (putFD "names" (.obj (S0 ++ [O.ins "Scopes" []]).length) [])) = S0 ++ [.ins "Scopes" [("names", .obj (S0.length + 1))], .dT []] := by
    simp [putFD]
  rw [s1, ssat_seq, ssat_fldD, dT, sat_ok]
  simp only [sat_eVar, List.getElem?_cons_zero]
  have i2 : (S0 ++ [O.ins "Scopes" [("names", D.obj (S0.length + 1))], O.dT []] ++ [O.dT []])[S0.length]? = some (.ins "Scopes" [("names", .obj (S0.length + 1))]) := by simp
  refine ⟨_, _, _, insAt_obj i2, ⟨by simp, by simp⟩, ?_⟩
  have ne : (("names" : Str) = "givers") = False := by
    have : (("names" : Str) == "givers") = false := by decide +kernel
    simpa using this
  have s2 : (S0 ++ [O.ins "Scopes" [("names", D.obj (S0.length + 1))], O.dT []] ++ [O.dT []]).set S0.length (.ins "Scopes" (putFD "givers" (.obj (S0 ++ [O.ins "Scopes" [("names", D.obj (S0.length + 1))], O.dT []]).length) [("names", D.obj (S0.length + 1))])) = S0 ++ [.ins "Scopes" (scF (S0.length + 1) (S0.length + 2)), .dT [], .dT []] := by
    simp [putFD, scF, ne]
  rw [s2]
  have o : ∀ (x : Option D) (r : List (Option D)), eN mkObj (aCons (eN mkTup (aCons (eN mkTup aNil) (aCons (eVar 1) (aCons eDic0 aNil)))) aNil) (x :: some t.d :: r) (S0 ++ [O.ins "Scopes" (scF (S0.length + 1) (S0.length + 2)), .dT [], .dT []]) = .ok (.obj (S0.length + 3)) (S0 ++ [O.ins "Scopes" (scF (S0.length + 1) (S0.length + 2)), .dT [], .dT [], .lst [stk3 ([], t, [])]]) := fun x r => by
    obtain ⟨a, S', e, h1, h2⟩ := sat_ex.mp (show (eN mkObj (aCons (eN mkTup (aCons (eN mkTup aNil) (aCons (eVar 1) (aCons eDic0 aNil)))) aNil) (x :: some t.d :: r) (S0 ++ [O.ins "Scopes" (scF (S0.length + 1) (S0.length + 2)), .dT [], .dT []])).sat fun d S' => d = .obj (S0.length + 3) ∧ S' = S0 ++ [O.ins "Scopes" (scF (S0.length + 1) (S0.length + 2)), .dT [], .dT [], .lst [stk3 ([], t, [])]] by
      simp [sz0, sz1, sz3, stk3, knD, pl])
    rw [e, h1, h2]
  refine step_asg (env' := [some (.obj S0.length), some t.d, some (.obj (S0.length + 3)), none, none, none, none, none, none, none, none, none, none, none]) (o _ _) rfl ?_
  refine gw_ok (φ := List (List Key × D) × List (List Key × D)) (n := 14) (wn := S0.length + 3) (x0 := some (.obj S0.length)) (x1 := some t.d) (J := ScJ S0 S0.length (S0.length + 1) (S0.length + 2)) (GG := fun F W => GI t (fun s _ => .str s) F.1 W ∧ GI t (fun _ g => g) F.2 W) gt hs hf (by decide) (cp_comp (by decide)) ts_two ?_ ?_ ?_ ?_ ⟨rfl, rfl, rfl, rfl⟩ (F := ([], [])) ?_ ⟨GI.start t _, GI.start t _⟩ (by simp) ?_
  · intro F S S' fr J
    exact ⟨fr.fr _ _ (by omega) J.i, fr.fr _ _ (by omega) J.f1, fr.fr _ _ (by omega) J.f2, Nat.le_trans J.le fr.le, fun m o hm h => fr.fr m o (by have := (List.getElem?_eq_some_iff.mp h).1; omega) (J.fr m o hm h)⟩
  · rintro F W ⟨G1, G2⟩
    exact ⟨fun x hx => ⟨(G1.a x hx).2.1, (G1.a x hx).2.2⟩, by have := G1.n; omega⟩
  · intro e S l he hw
    apply of_sat
    simp only [sat_tOfE, sat_e2, sat_eN, sat_aCons, sat_aNil, sat_eVar, sat_eK, he.h2]
    rw [len_obj hw, sat_ok, gt_int, sat_ok, blD_bl, sat_ok]
    refine ⟨?_, rfl⟩
    cases l <;> simp
  · intro e S F W p u kn L he e3 e5 e6 e7 gu J G hw _
    exact note_ok hs (by omega) (by omega) (by omega) (by omega) (by omega) (by omega) (by omega) he e3 e5 e6 e7 gu J G hw
  · exact ⟨by simp, by simp, by simp, by simp, fun m o hm h => by rw [List.getElem?_append_left (List.getElem?_eq_some_iff.mp h).1]; exact h⟩
  · rintro e' S' F' _ J ⟨G1, G2⟩
    have n1 := G1.n
    have n2 := G2.n
    refine ⟨by first | exact rfl | exact trivial, F', J, fun q => G1.fin q, fun q => G2.fin q, by omega, by omega⟩
def noN (x : D) : Ex := ⟨"NoName", [("name", x)]⟩
def mGiver (a i : FN) : SD :=
    sSeq (sIf (tOfE (e2 neD (e2 ixD (eN (callK a []) (aCons (eVar 0) (aCons (eVar 1) (aNil)))) (eK (.int 0))) (eK (.str "name")))) (sRaise1 "NoName" "name" (eVar 1)) (sSkip))
    (sSeq (sAsg (eN (mkIns "Scopes" (callK i [])) (aCons (eVar 0) (aNil))) (gName 2))
    (sRet (e2 ixD (e1 (fldD ["Scopes"] "givers") (eVar 2)) (eVar 1))))
theorem gv_at : ∀ {q : List Nat} {t u : Tm} {kn : Kn} {p : List Nat}, t.at q = some u → ∃ kn' : Kn, gv kn t p q = u.name.map fun s => (s, (dGet kn' (.inr s)).getD .non)
  | [], t, u, kn, p, h => by
    simp only [Tm.at, Option.some.injEq] at h
    subst h
    exact ⟨kn, rfl⟩
  | i :: q, t, u, kn, p, h => by
    obtain ⟨v, h1, h2⟩ := Tm.at_cons h
    simp only [gv, h1, Option.bind_some]
    exact gv_at h2
theorem ix_w (u : Tm) : ixD u.d (.int 0) S = .ok u.w S := by rw [Tm.d_eq]; rfl
structure IsGiver (f : FN) : Prop where
  no : ∀ {t : Tm} {x : D} (S : Store), NoPl t x → f [t.d, x] S = .exc (noP x) S
  nn : ∀ {t u : Tm} {q : List Nat} (S : Store), Good t → t.at q = some u → u.name = none → f [t.d, pl q] S = .exc (noN (pl q)) S
  ok : ∀ {t : Tm} {q : List Nat} {s : Str} {g : D} (S : Store), Good t → t.size ≤ 400 → gv [] t [] q = some (s, g) → (f [t.d, pl q] S).sat fun d S' => d = g ∧ Grow S S'
theorem isGiver {a i : FN} {fuel : Nat} (ha : IsAt a) (hf : 1000 ≤ fuel) (hi : i = run 2 14 (mInit fuel)) : IsGiver (run 2 3 (mGiver a i)) := by
  refine ⟨fun {t x} S h => ?_, fun {t u q} S gt h hn => ?_, fun {t q s g} S gt hs h => ?_⟩
  · apply exc_of
    rw [X.sat_run]
    refine ⟨rfl, ?_⟩
    unfold mGiver
    simp only [X.ssat_seq, X.ssat_if, X.sat_tOfE, X.sat_e2, X.sat_eN, X.sat_aCons, X.sat_aNil, X.sat_eVar, List.map_cons, List.map_nil, List.cons_append, List.nil_append, List.length_cons, List.length_nil, List.replicate, Nat.zero_add, Nat.reduceAdd, Nat.reduceSub, List.getElem?_cons_succ, List.getElem?_cons_zero, callK_eq, List.append_nil]
    rw [ha.2 S h, X.sat_exc]
    exact ⟨rfl, rfl⟩
  · obtain ⟨w, hw, _, hnm, _⟩ := w_str (gt.at h)
    apply exc_of
    rw [X.sat_run]
    refine ⟨rfl, ?_⟩
    unfold mGiver
    simp only [X.ssat_seq, X.ssat_if, X.sat_tOfE, X.sat_e2, X.sat_eN, X.sat_aCons, X.sat_aNil, X.sat_eVar, X.sat_eK, List.map_cons, List.map_nil, List.cons_append, List.nil_append, List.length_cons, List.length_nil, List.replicate, Nat.zero_add, Nat.reduceAdd, Nat.reduceSub, List.getElem?_cons_succ, List.getElem?_cons_zero, callK_eq, List.append_nil]
    rw [ha.1 S h, X.sat_ok, ix_w, X.sat_ok, hw, ne_strs, X.sat_ok, blD_bl, X.sat_ok, hnm, hn]
    simp only [Option.isSome_none, Bool.not_false, if_true, X.ssat_raise1, X.sat_eVar, List.getElem?_cons_succ, List.getElem?_cons_zero]
    first | exact ⟨rfl, rfl⟩ | exact ⟨rfl, trivial⟩ | exact ⟨trivial, trivial⟩
  · have hq : q ∈ t.spots := by
      refine Decidable.byContradiction fun hq => ?_
      have := (GI.start t fun _ g => g).b1 q (by simpa [due, two3] using hq)
      rw [h] at this
      cases this
    obtain ⟨u, hu⟩ := Tm.spots_at.mp hq
    obtain ⟨kn', e'⟩ := gv_at (kn := []) (p := []) hu
    have hnm : u.name = some s := by
      rw [h] at e'
      cases hn : u.name with
      | none => rw [hn] at e'; cases e'
      | some x => rw [hn] at e'; simp only [Option.map_some, Option.some.injEq, Prod.mk.injEq] at e'; rw [e'.1]
    obtain ⟨w, hw, _, hnm', _⟩ := w_str (gt.at hu)
    rw [sat_run]
    refine ⟨rfl, ?_⟩
    unfold mGiver
    refine step_no (S1 := S) (of_sat ?_) ?_
    · simp only [sat_tOfE, sat_e2, sat_eN, sat_aCons, sat_aNil, sat_eVar, sat_eK, List.map_cons, List.map_nil, List.cons_append, List.nil_append, List.length_cons, List.length_nil, List.replicate, Nat.zero_add, Nat.reduceAdd, Nat.reduceSub, List.getElem?_cons_succ, List.getElem?_cons_zero, callK_eq, List.append_nil]
      rw [ha.1 S hu, sat_ok, ix_w, sat_ok, hw, ne_strs, sat_ok, blD_bl, sat_ok, hnm', hnm]
      exact ⟨rfl, rfl⟩
    · simp only [ssat_seq, ssat_asg, sat_eN, sat_aCons, sat_aNil, sat_eVar, List.map_cons, List.map_nil, List.cons_append, List.nil_append, List.length_cons, List.length_nil, List.replicate, Nat.zero_add, Nat.reduceAdd, Nat.reduceSub, List.getElem?_cons_succ, List.getElem?_cons_zero]
      rw [sat_mkIns]
      simp only [callK_eq, List.append_nil, List.cons_append, List.nil_append, hi]
      refine sat_mono (scInit_ok hf gt hs S) fun d S' ⟨e1, F, J, f1, f2, l1, l2⟩ => ⟨e1, ?_⟩
      simp only [gName_eq, ssat_nx, List.set_cons_succ, List.set_cons_zero, ssat_sRet, sat_e2, sat_e1, sat_eVar, List.getElem?_cons_succ, List.getElem?_cons_zero]
      have lk2 : (scF (S.length + 1) (S.length + 2)).lookup ("givers" : Str) = some (D.obj (S.length + 2)) := by
        have : (("givers" : Str) == "names") = false := by decide +kernel
        simp [scF, List.lookup, this]
      rw [fld_eq J.i (by simp) lk2, sat_ok]
      have eg : ixD (.obj (S.length + 2)) (pl q) S' = .ok g S' := by
        have := f2 q
        rw [h] at this
        simp only [ixD, J.f2, tk_pl, this, Option.map_some]
      rw [eg, sat_ok]
      exact ⟨rfl, J.le, fun i o e => J.fr i o (by have := (List.getElem?_eq_some_iff.mp e).1; omega) e⟩
end L3
set_option Elab.async false
set_option linter.all false
set_option maxRecDepth 100000
set_option maxHeartbeats 4000000
/-! L9M: what is no place; what is shown. -/
namespace L3
open PySem L2
variable {S : Store} {n : Nat}
/-! what is no place -/
def nis (q : List Nat) : List D := q.map fun i : Nat => .int (i : Int)
def odds (q : List Nat) : List D :=
  [.tup (nis q ++ [.int 6]), .tup (nis q ++ [.int (-1)]), .tup (nis q ++ [.bl true]), .tup (nis q ++ [.str "0"]), .tup (nis q ++ [.int (10 ^ 40)]), .lst (nis q), .tup (nis q ++ [.tup []])]
def bent (q : List Nat) : D := match q.getLast? with
  | some i => .tup (nis q.dropLast ++ [.int ((i : Int) + 6)])
  | none => .tup [.int 6]
def odds2 (q : List Nat) : List D := [bent q, .non, .int 0, .str "", .str "0", .dic [] [], .bl true, .lst [.int 0], .tup [.non]]
theorem odd_no {t u : Tm} {q : List Nat} {B : Nat} (h : U 6 t.d) (e : t.at q = some u) : ∀ d ∈ odds q ++ odds2 q, NoPl t d := by
  have hu := (h.at e).parts.1
  have h0 := h.parts.1
  have deep : ∀ y, Pln y → numOk y ((u.parts.length : Int) - 1) = false → NoPl t (.tup (nis q ++ [y])) := fun y p n => .deep e p n
  have top : ∀ y, Pln y → numOk y ((t.parts.length : Int) - 1) = false → NoPl t (.tup [y]) := fun y p n => .deep (q := []) (u := t) rfl p n
  intro d hd
  simp only [odds, odds2, List.mem_append, List.mem_cons, List.not_mem_nil, or_false] at hd
  rcases hd with (rfl | rfl | rfl | rfl | rfl | rfl | rfl) | (rfl | rfl | rfl | rfl | rfl | rfl | rfl | rfl | rfl)
  · exact deep _ (.int _) (by simp only [numOk, Bool.and_eq_false_iff, decide_eq_false_iff_not]; omega)
  · exact deep _ (.int _) (by simp [numOk])
  · exact deep _ (.bl _) rfl
  · exact deep _ (.str _) rfl
  · exact deep _ (.int _) (by
      have : ¬ ((10 : Int) ^ 40 ≤ (u.parts.length : Int) - 1) := by
        have : (10 : Int) ^ 40 = 10000000000000000000000000000000000000000 := by decide
        omega
      simp only [numOk, Bool.and_eq_false_iff, decide_eq_false_iff_not]; exact .inr this)
  · exact .not (.lst _) (by simp)
  · exact deep _ (.tup _) rfl
  · unfold bent
    rcases List.eq_nil_or_concat q with rfl | ⟨r, i, rfl⟩
    · exact top _ (.int _) (by simp only [numOk, Bool.and_eq_false_iff, decide_eq_false_iff_not]; omega)
    · rw [List.concat_eq_append] at e ⊢
      rw [Tm.at_app] at e
      cases hr : t.at r with
      | none => rw [hr] at e; cases e
      | some v =>
        have hv := (h.at hr).parts.1
        simp only [List.getLast?_append, List.getLast?_singleton, Option.some_or, List.dropLast_concat]
        exact .deep hr (.int _) (by simp only [numOk, Bool.and_eq_false_iff, decide_eq_false_iff_not]; omega)
  · exact .not .non (by simp)
  · exact .not (.int _) (by simp)
  · exact .not (.str _) (by simp)
  · exact .not (.str _) (by simp)
  · exact .not .dic (by simp)
  · exact .not (.bl _) (by simp)
  · exact .not (.lst _) (by simp)
  · exact top _ .non rfl
theorem odd_sh {t u : Tm} {q : List Nat} (h : U 6 t.d) (e : t.at q = some u) (hq : q.length ≤ 20) : ∀ d ∈ odds q ++ odds2 q, Sh 10000 2 d := by
  have hi := sh_pl h (by decide) e
  have si : ∀ i : Int, i.natAbs < 10 ^ 41 → Sh 200 1 (.int i) := fun i h => (sh_int h).mono (by decide) (by decide)
  have is : ∀ x ∈ nis q, Sh 200 1 x := fun x hx => by
    obtain ⟨i, h1, rfl⟩ := List.mem_map.mp hx
    exact si _ (Nat.lt_of_lt_of_le (by have := hi i h1; omega) (by decide : 1000 ≤ 10 ^ 41))
  have us : ∀ {x : D}, U 6 x → wt x ≤ 200 → dp x ≤ 1 → Sh 200 1 x := fun h a b => h.sh.mono a b
  have mk : ∀ {l : List D}, l.length ≤ 21 → (∀ x ∈ l, Sh 200 1 x) → Sh 10000 2 (.tup l) := fun hl h => (sh_tup h).mono (by
    have := Nat.mul_le_mul_right (200 + 2) hl
    omega) (by decide)
  have one : ∀ {l : List D} {y : D}, l.length ≤ 20 → (∀ x ∈ l, Sh 200 1 x) → Sh 200 1 y → Sh 10000 2 (.tup (l ++ [y])) := fun hl h hy => mk (by simpa using hl) fun x hx => by
    rcases List.mem_append.mp hx with hx | hx
    · exact h x hx
    · simp only [List.mem_cons, List.not_mem_nil, or_false] at hx; subst hx; exact hy
  have il : (nis q).length ≤ 20 := by simpa [nis] using hq
  intro d hd
  simp only [odds, odds2, List.mem_append, List.mem_cons, List.not_mem_nil, or_false] at hd
  rcases hd with (rfl | rfl | rfl | rfl | rfl | rfl | rfl) | (rfl | rfl | rfl | rfl | rfl | rfl | rfl | rfl | rfl)
  · exact one il is (si _ (by decide))
  · exact one il is (si _ (by decide))
  · exact one il is (us (.bl _) (by decide) (by decide))
  · exact one il is (us (.str (by decide +kernel)) (by decide) (by decide))
  · exact one il is (si _ (by decide))
  · exact (sh_lst is).mono (by
      have := Nat.mul_le_mul_right (200 + 2) il
      omega) (by decide)
  · exact one il is (us (.tup (by simp) (by simp)) (by decide) (by decide))
  · unfold bent
    rcases List.eq_nil_or_concat q with rfl | ⟨r, i, rfl⟩
    · exact one (l := []) (by simp) (by simp) (si _ (by decide))
    · rw [List.concat_eq_append] at *
      simp only [List.getLast?_append, List.getLast?_singleton, Option.some_or, List.dropLast_concat]
      refine one (by simp [nis] at il ⊢; omega) (fun x hx => is x ?_) (si _ ?_)
      · simp only [nis, List.map_append, List.mem_append] at hx ⊢; exact .inl hx
      · have := hi i (by simp)
        exact Nat.lt_of_lt_of_le (by omega) (by decide : 1000 ≤ 10 ^ 41)
  · exact (U.non (B := 6)).sh.mono (by decide) (by decide)
  · exact (si _ (by decide)).mono (by decide) (by decide)
  · exact (U.str (B := 6) (s := "") (by decide +kernel)).sh.mono (by decide) (by decide)
  · exact (U.str (B := 6) (s := "0") (by decide +kernel)).sh.mono (by decide) (by decide)
  · exact (U.dic (B := 6)).sh.mono (by decide) (by decide)
  · exact (U.bl (B := 6) true).sh.mono (by decide) (by decide)
  · exact (sh_lst (W := 200) (Dp := 1) (l := [.int 0]) (by simp; exact si _ (by decide))).mono (by decide) (by decide)
  · exact mk (by simp) (by simp; exact us .non (by decide) (by decide))
theorem add_one {q : List Nat} {y : D} (h : q.length ≤ 100) : addD (pl q) (.tup [y]) S = .ok (.tup (nis q ++ [y])) S := by
  unfold pl; exact add_tup (small (by simp; omega))
theorem e_one {y : D} {env : EnvD} : eN mkTup (aCons (eK y) aNil) env S = .ok (.tup [y]) S := by
  apply of_sat; simp [sz1]
theorem pow40 : powD (.int 10) (.int 40) S = .ok (.int (10 ^ 40)) S := by
  unfold powD
  simp only []
  rw [if_pos (by decide +kernel)]
  rfl
theorem list_pl {q : List Nat} : listD [pl q] S = .ok (.lst (nis q)) S := rfl
theorem mkLst7 {a b c d e f g : D} : mkLst [a, b, c, d, e, f, g] S = .ok (.lst [a, b, c, d, e, f, g]) S := by
  apply of_sat; rw [sat_mkLst]; exact ⟨small (by simp), rfl, rfl⟩
theorem mkLst9 {a b c d e f g h i : D} : mkLst [a, b, c, d, e, f, g, h, i] S = .ok (.lst [a, b, c, d, e, f, g, h, i]) S := by
  apply of_sat; rw [sat_mkLst]; exact ⟨small (by simp), rfl, rfl⟩
theorem tm_wt : ∀ t : Tm, wt t.d ≤ 400 * t.size
  | .num _ => by simp [Tm.d, wt, wts, Tm.size]
  | .nam _ => by simp [Tm.d, wt, wts, Tm.size]
  | .nd w m ps => by
    have : ∀ ts : List Tm, (∀ t ∈ ts, wt t.d ≤ 400 * t.size) → wts (Tm.ds ts) ≤ 400 * Tm.sizes ts := by
      intro ts
      induction ts with
      | nil => intro _; simp [Tm.ds, wts]
      | cons t ts ih =>
        intro h
        have h1 := h t (List.mem_cons_self ..)
        have h2 := ih fun t ht => h t (List.mem_cons_of_mem _ ht)
        simp only [Tm.ds, wts, Tm.sizes]; omega
    have := this ps fun t _ => tm_wt t
    simp only [Tm.d, wt, wts, Tm.size]; omega
theorem tm_dp : ∀ t : Tm, dp t.d ≤ 2 * t.dep
  | .num _ => by simp [Tm.d, dp, dps, Tm.dep]
  | .nam _ => by simp [Tm.d, dp, dps, Tm.dep]
  | .nd w m ps => by
    have : ∀ ts : List Tm, (∀ t ∈ ts, dp t.d ≤ 2 * t.dep) → dps (Tm.ds ts) ≤ 2 * Tm.deps ts := by
      intro ts
      induction ts with
      | nil => intro _; simp [Tm.ds, dps]
      | cons t ts ih =>
        intro h
        have h1 := h t (List.mem_cons_self ..)
        have h2 := ih fun t ht => h t (List.mem_cons_of_mem _ ht)
        simp only [Tm.ds, dps, Tm.deps]; omega
    have := this ps fun t _ => tm_dp t
    simp only [Tm.d, dp, dps, Tm.dep]; omega
/-- a program as the law draws it -/
structure Pg (t : Tm) : Prop where
  u : U 6 t.d
  s : t.size ≤ 60
  d : t.dep ≤ 8
theorem Pg.show {t : Tm} (h : Pg t) : ∃ z : Str, ∀ S, reprD [t.d] S = .ok (.str z) S := by
  have := tm_wt t
  have := tm_dp t
  have := h.s
  have := h.d
  exact h.u.show (by omega) (by omega)
theorem Pg.ex {t u v : Tm} {q : List Nat} (h : Pg t) (g : Pg u) (e : t.at q = some v) : ∃ z : Str, ∀ S, reprD [Tm.ex u.d q t] S = .ok (.str z) S := by
  obtain ⟨h1, h2, h3⟩ := ex_u g.u (by decide) h.u e
  have := tm_wt t
  have := tm_dp t
  have := tm_wt u
  have := tm_dp u
  have := h.s
  have := h.d
  have := g.s
  have := g.d
  exact h1.show (by omega) (by omega)
theorem Pg.at {t u : Tm} {q : List Nat} (h : Pg t) (e : t.at q = some u) : Pg u ∧ q.length < 9 := by
  have h1 := Tm.at_dep e
  have h2 := Tm.dep_pos u
  have hd := h.d
  refine ⟨⟨h.u.at e, ?_, by omega⟩, by omega⟩
  have hs := h.s
  have : ∀ {q : List Nat} {t u : Tm}, t.at q = some u → u.size ≤ t.size := by
    intro q
    induction q with
    | nil => intro t u e; simp only [Tm.at, Option.some.injEq] at e; subst e; exact Nat.le_refl _
    | cons i q ih =>
      intro t u e
      obtain ⟨v, a, b⟩ := Tm.at_cons e
      have := Tm.parts_size a
      have := ih b
      omega
  have := this e
  omega
theorem Pg.spots {t : Tm} (h : Pg t) : ∃ z : Str, ∀ S, reprD [.tup (plS t.spots)] S = .ok (.str z) S :=
  repr_sh (sh_spots h.u (by decide) h.s (by have := h.d; omega)) (by decide) (by decide)
theorem Pg.two {t u : Tm} (h : Pg t) (g : Pg u) : ∃ z : Str, ∀ S, reprD [.tup [t.d, u.d]] S = .ok (.str z) S := by
  have := tm_wt t
  have := tm_dp t
  have := tm_wt u
  have := tm_dp u
  have := h.s
  have := h.d
  have := g.s
  have := g.d
  have hu : U 6 (.tup [t.d, u.d]) := .tup (by simp) (by simp; exact ⟨h.u, g.u⟩)
  exact hu.show (by simp only [wt, wts]; omega) (by simp only [dp, dps]; omega)

/-- what is shown is shown the same -/
theorem ne_no {a b : ED} {env : EnvD} {z : Str} {S S1 S2 : Store} (h1 : a env S = .ok (.str z) S1) (h2 : b env S1 = .ok (.str z) S2) : tOfE (e2 neD a b) env S = .ok false S2 := by
  obtain ⟨x, S', e, h3, h4⟩ := sat_ex.mp (show (tOfE (e2 neD a b) env S).sat fun d S' => d = false ∧ S' = S2 by simp [h1, h2])
  rw [e, h3, h4]
theorem or_no {a b : TD} {env : EnvD} {S S1 S2 : Store} (h1 : a env S = .ok false S1) (h2 : b env S1 = .ok false S2) : tOr a b env S = .ok false S2 := by
  obtain ⟨x, S', e, h3, h4⟩ := sat_ex.mp (show (tOr a b env S).sat fun d S' => d = false ∧ S' = S2 by simp [h1, h2])
  rw [e, h3, h4]
theorem sat_ok_of {α : Type} {r : R α} {a : α} {P : Store → Prop} (h : r.sat fun d S' => d = a ∧ P S') : ∃ S', r = .ok a S' ∧ P S' := by
  obtain ⟨x, S', e, rfl, h4⟩ := sat_ex.mp h
  exact ⟨S', e, h4⟩
theorem is_ok {α : Type} {r : R α} {a : α} {S1 : Store} (h : r.sat fun d S' => d = a ∧ S' = S1) : r = .ok a S1 := by
  obtain ⟨x, S', e, rfl, rfl⟩ := sat_ex.mp h
  exact e

theorem sh_plc {t u : Tm} {q : List Nat} {B : Nat} (h : U B t.d) (hB : B ≤ 1000) (e : t.at q = some u) (hq : q.length ≤ 20) : Sh 10000 1 (pl q) := by
  refine Sh.mono (sh_tup (W := 100) (Dp := 0) fun x hx => ?_) (by
    rw [List.length_map]
    have := Nat.mul_le_mul_right (100 + 2) hq
    omega) (by omega)
  obtain ⟨i, hi, rfl⟩ := List.mem_map.mp hx
  exact sh_int (Nat.lt_of_lt_of_le (by have := sh_pl h hB e i hi; omega) (by decide : 1000 ≤ 10 ^ 41))
theorem gv_val {t : Tm} : ∀ {r p : List Nat} {u : Tm} {kn : Kn} {s : Str} {g : D}, KnOk t p kn → t.at p = some u → gv kn u p r = some (s, g) → g = .non ∨ ∃ q ∈ t.spots, g = pl q
  | [], p, u, kn, s, g, hk, hp, h => by
    simp only [gv] at h
    cases hn : u.name with
    | none => rw [hn] at h; cases h
    | some x =>
      rw [hn] at h
      simp only [Option.map_some, Option.some.injEq, Prod.mk.injEq] at h
      cases hd : dGet kn (.inr x) with
      | none => rw [hd] at h; exact .inl h.2.symm
      | some d =>
        rw [hd] at h
        obtain ⟨y, hy, ey⟩ := dGet_mem hd
        obtain ⟨q, hq, eq⟩ := hk.vl y hy
        exact .inr ⟨q, hq, by rw [← h.2, ← eq, ey]; rfl⟩
  | i :: r, p, u, kn, s, g, hk, hp, h => by
    simp only [gv] at h
    cases hv : u.parts[i]? with
    | none => rw [hv] at h; cases h
    | some v =>
      rw [hv] at h
      refine gv_val (hk.next (Tm.spots_at.mpr ⟨u, hp⟩) i) ?_ h
      rw [Tm.at_app, hp]
      simp only [Option.bind_some, Tm.at, hv]
end L3
set_option Elab.async false
set_option linter.all false
set_option maxRecDepth 100000
set_option maxHeartbeats 4000000
namespace K04
open PySem L2 L3
variable {S : Store} {n : Nat}
theorem tk (k : Nat) : IsTake (Fs (k + 1) 8) := by rw [Fs_law_take]; exact isTake
theorem pk (k : Nat) : IsPick2 (Fs (k + 2) 9) := by rw [show k + 2 = k + 1 + 1 from rfl, Fs_law_pick]; exact isPick2 (tk k)
theorem cl (k : Nat) : IsCalled (Fs (k + 3) 10) := by rw [show k + 3 = k + 2 + 1 from rfl, Fs_law_called]; exact isCalled (tk (k + 1)) (pk k)
theorem dg (k : Nat) : IsDigit (Fs (k + 3) 11) := by rw [show k + 3 = k + 2 + 1 from rfl, Fs_law_digit]; exact isDigit (tk (k + 1)) (pk k)
theorem gr : ∀ L k, GrownOk (Fs (k + 4 + L) 12) L
  | 0, k => by rw [show k + 4 + 0 = k + 3 + 1 from rfl, Fs_law_grown]; exact grown_ok (tk (k + 2)) (pk (k + 1)) (dg k) fun h => absurd rfl h
  | L + 1, k => by
    rw [show k + 4 + (L + 1) = k + 4 + L + 1 from rfl, Fs_law_grown]
    have h1 := tk (k + 3 + L)
    have h2 := pk (k + 2 + L)
    have h3 := dg (k + 1 + L)
    rw [show k + 3 + L + 1 = k + 4 + L by omega] at h1
    rw [show k + 2 + L + 2 = k + 4 + L by omega] at h2
    rw [show k + 1 + L + 3 = k + 4 + L by omega] at h3
    exact grown_ok h1 h2 h3 fun _ => gr L k
theorem code (k : Nat) (hS : Hand n S) {left : Nat} : (Fs (k + 13) 13 [.obj n, .int left] S).sat fun d S' => ∃ t : Tm, d = t.d ∧ Good t ∧ t.dep ≤ 8 ∧ t.size ≤ left + 25 ∧ FrH n S S' := by
  rw [show k + 13 = k + 12 + 1 from rfl, Fs_law_code]
  refine code_any (tk (k + 11)) (cl (k + 9)) (fun L hL => ?_) hS
  have := gr L (k + 8 - L)
  rw [show k + 8 - L + 4 + L = k + 12 by omega] at this
  exact this
theorem isn (k : Nat) : IsNumberF (Fs (k + 2) 2) := by
  rw [show k + 2 = k + 1 + 1 from rfl, Fs_is_number]
  exact isNumberF (by rw [Fs_is_whole]; exact isWholeF)
theorem at_ (k : Nat) : IsAt (Fs (k + 3) 3) := by rw [show k + 3 = k + 2 + 1 from rfl, Fs_at]; exact itsAt (isn k)
theorem giver (k : Nat) : IsGiver (Fs (k + 4) 6) := by
  rw [show k + 4 = k + 3 + 1 from rfl, Fs_giver_at]
  exact isGiver (fuel := fuel) (at_ k) (by decide) (Fs_Scopes___init__ (k + 2))
theorem spots : ∀ n k : Nat, n ≤ 1000 → IsSpots (Fs (k + n) 14) n
  | 0, k, _ => isSpots0 _
  | n + 1, k, h => by rw [show k + (n + 1) = k + n + 1 from rfl, Fs_law_spots]; exact isSpots (spots n k (by omega)) (by omega)
end K04
set_option Elab.async false
set_option linter.all false
set_option maxRecDepth 100000
set_option maxHeartbeats 4000000
namespace K04
open PySem L2 L3
variable {S : Store} {n : Nat}
theorem key_keyD (k : Key) : keyOf (keyD k) = some k := by cases k <;> rfl
theorem pairs_kn : ∀ kn : Kn, pairKs (L3.pairs kn) = some kn
  | [] => rfl
  | p :: kn => by
    simp only [L3.pairs, pairKs, pairK, key_keyD, Option.map_some, pairs_kn kn]
theorem cp_list {n : Nat} (hn : 12 ≤ n) : CpOk (sAsg (eN dictPO (aCons (e1 litemsD (eVar 5)) (aNil))) (gName 11)) n := fun e S kn hl h5 nd hk => by
  have dk : dkAt (knD kn) S = some kn := by
    unfold knD
    simp only [dkAt]
    rw [if_pos (by simp), L3.zip_self]
  have e1 : (eN dictPO (aCons (e1 litemsD (eVar 5)) (aNil))) e S = .ok (.obj S.length) (S ++ [.dK kn]) := by
    obtain ⟨a, S', e', h1, h2⟩ := sat_ex.mp (show ((eN dictPO (aCons (e1 litemsD (eVar 5)) (aNil))) e S).sat fun d S' => d = .obj S.length ∧ S' = S ++ [.dK kn] by
      simp only [sat_eN, sat_aCons, sat_aNil, sat_e1, sat_eVar, h5]
      unfold litemsD
      simp only [dk, sat_ok]
      unfold dictPO
      simp only [asL, pairs_kn, sat_ok, copy_self nd, and_self])
    rw [e', h1, h2]
  unfold sAsg
  rw [e1]
  rfl
theorem givers {t : Tm} (gt : Good t) (hs : t.size ≤ 400) (S0 : Store) : (Fs 99 15 [t.d] S0).sat fun d S' => d = .obj S0.length ∧ (∃ F, S'[S0.length]? = some (.dT F) ∧ ∀ q, dGet F (key q) = (gv [] t [] q).map fun p => .tup [.str p.1, p.2]) ∧ Grow S0 S' := by
  rw [show (99 : Nat) = 98 + 1 from rfl, Fs_law_givers, sat_run]
  refine ⟨rfl, ?_⟩
  unfold m_law_givers
  refine seq_rule (fun e S => e = [some t.d, some (.obj S0.length), some (.obj (S0.length + 1)), none, none, none, none, none, none, none, none, none] ∧ S = S0 ++ [.dT [], .lst [stk3 ([], t, [])]]) ?_ ?_
  · have dT : ∀ (e : EnvD) (S : Store), eDctT0 e S = .ok (.obj S.length) (S ++ [.dT []]) := fun e S => rfl
    simp only [ssat_par, sat_aCons, sat_aNil, dT, sat_ok, sat_eN, sat_eVar, sat_eDic0, List.map_cons, List.map_nil, List.cons_append, List.nil_append, List.length_cons, List.length_nil, List.replicate, Nat.zero_add, Nat.reduceAdd, Nat.reduceSub, List.getElem?_cons_succ, List.getElem?_cons_zero, sat_mkTup, sat_mkObj, sz0, sz1, sz3, true_and, gNames_cons, gNames_nil, ssat_nx, List.set_cons_succ, List.set_cons_zero]
    refine ⟨by simp, by simp [stk3, knD, pl]⟩
  rintro e S ⟨rfl, rfl⟩
  refine seq_rule (fun e S => e[1]? = some (some (.obj S0.length)) ∧ (∃ F, S[S0.length]? = some (.dT F) ∧ ∀ q, dGet F (key q) = (gv [] t [] q).map fun p => .tup [.str p.1, p.2]) ∧ Grow S0 S) ?_ ?_
  · refine gw_ok (φ := List (List Key × D)) (n := 12) (wn := S0.length + 1) (x0 := some t.d) (x1 := some (.obj S0.length)) (J := fun F S => S[S0.length]? = some (.dT F) ∧ Grow S0 S) (GG := fun F W => GI t (fun s g => .tup [.str s, g]) F W) gt hs (by decide) (by decide) (cp_list (by decide)) ts_two' ?_ ?_ ?_ ?_ ⟨rfl, rfl, rfl, rfl⟩ (F := []) ?_ (GI.start t _) (by simp) ?_
    · rintro F S S' fr ⟨J1, J2⟩
      exact ⟨fr.fr _ _ (by omega) J1, fr.grow J2 (by omega)⟩
    · intro F W G
      exact ⟨fun x hx => ⟨(G.a x hx).2.1, (G.a x hx).2.2⟩, by have := G.n; omega⟩
    · intro e S l he hw
      have m0 : mkLst [] S = .ok (.lst []) S := is_ok (by rw [sat_mkLst]; exact ⟨small (by simp), rfl, rfl⟩)
      apply of_sat
      simp only [sat_tOfE, sat_e2, sat_eN, sat_aNil, sat_eVar, he.h2, m0, sat_ok]
      have : ne0D (.obj (S0.length + 1)) (.lst []) S = .ok (.bl (!l.isEmpty)) S := by
        unfold ne0D; simp only [asL, hw]
      rw [this, sat_ok, blD_bl, sat_ok]
      exact ⟨rfl, rfl⟩
    · rintro e S F W p u kn L he e3 e5 e6 e7 gu ⟨J1, J2⟩ G hw _
      obtain ⟨w, hw', ha, hnm, _⟩ := w_str gu
      rw [ssat_if]
      simp only [sat_tOfE, sat_e2, sat_eVar, sat_eK, e6, hw', eq_strs, sat_ok, blD_bl, hnm]
      have g1 := G.step
      unfold note at g1
      cases hn : u.name with
      | none =>
        rw [hn] at g1
        simp only [Option.isSome_none, Bool.false_eq_true, if_false, ssat_skip]
        exact ⟨trivial, hw, F, ⟨J1, J2⟩, g1⟩
      | some s =>
        rw [hn] at g1
        have hu := nam_of hn
        have em : u.m = .str s := by rw [hu]; rfl
        have l1 := G.n
        have b1 := (List.getElem?_eq_some_iff.mp J1).1
        have m2 : ∀ x y S, mkTup [x, y] S = .ok (.tup [x, y]) S := fun x y S => is_ok (by rw [sat_mkTup]; exact ⟨small (by simp), rfl, rfl⟩)
        simp only [Option.isSome_some, if_true, ssat_asg, sat_eN, sat_aCons, sat_aNil, sat_eBM, sat_eVar, e7, e5, em]
        refine ⟨rfl, ?_⟩
        rw [get_kn, sat_ok, m2, sat_ok, ssat_gSub]
        simp only [sat_eVar, he.h1, e3]
        refine ⟨_, setD_dT J1 (by omega), trivial, ?_, _, ⟨List.getElem?_set_self b1, J2.put (Nat.le_refl _) _⟩, g1⟩
        rw [List.getElem?_set_ne (by omega)]; exact hw
    · exact ⟨by simp, ⟨by simp, fun i o h => by rw [List.getElem?_append_left (List.getElem?_eq_some_iff.mp h).1]; exact h⟩⟩
    · rintro e' S' F' he ⟨J1, J2⟩ G
      exact ⟨he.h1, ⟨F', J1, G.fin⟩, J2⟩
  · rintro e S ⟨h1, h2, h3⟩
    simp only [ssat_sRet, sat_eVar, h1]
    first | exact ⟨rfl, h2, h3⟩ | exact ⟨trivial, h2, h3⟩
def noPlD : D := .lst [.str "no place", .bl true]
def noNmD : D := .lst [.str "no name", .bl true]
/-- behind the try, with an exception -/
theorem told_exc {x : D} {t : Tm} {e : Ex} {f : Str} (he : (e = noP x ∧ f = "no place") ∨ (e = noN x ∧ f = "no name")) (hz : ∃ z : Str, ∀ S, reprD [x] S = .ok (.str z) S) :
    (sSeq (sIf (tOfE (e2 isNonD (eVar 3) (eK .non))) (sRet (eVar 2)) (sSkip))
    (sSeq (sAsg (eN mkLst (aCons (e1 (isxD ["NoPlace"] ["NoName"]) (eVar 3)) (aCons (e1 (isxD ["NoName"] ["NoPlace"]) (eVar 3)) (aCons (e1 (isxD [] ["NoPlace", "NoName"]) (eVar 3)) (aNil))))) (gName 5))
    (sSeq (sIf (tOr (tOfE (e2 neD (eBM "list" countD (eVar 5) (aCons (eK (.bl true)) (aNil))) (eK (.int 1)))) (tOr (tTruth (e2 ixD (eVar 5) (eK (.int 2)))) (tNot (tTruth (e1 (isxD ["NoPlace", "NoName"] []) (eVar 3)))))) (sRet (eK (.str "other"))) (sSkip))
    (sSeq (sIf (tTruth (e2 ixD (eVar 5) (eK (.int 0)))) (sRet (eN mkLst (aCons (eK (.str "no place")) (aCons (e2 eqD (eN reprD (aCons (e1 (xfD ["NoPlace"] "place") (eVar 3)) (aNil))) (eN reprD (aCons (eVar 1) (aNil)))) (aNil))))) (sSkip))
    (sRet (eN mkLst (aCons (eK (.str "no name")) (aCons (e2 eqD (eN reprD (aCons (e1 (xfD ["NoName"] "name") (eVar 3)) (aNil))) (eN reprD (aCons (eVar 1) (aNil)))) (aNil))))))))
      [some t.d, some x, some .non, some e.d, none, none] S).sat (fun _ S' => D.non = .lst [.str f, .bl true] ∧ S' = S) (fun d S' => d = .lst [.str f, .bl true] ∧ S' = S) (fun _ _ => False) fun _ _ => False := by
  obtain ⟨z, hz⟩ := hz
  have n1 : ∀ (e : Ex) (S : Store), isNonD e.d .non S = .ok (.bl false) S := fun e S => rfl
  have yes : ∀ (c : Str) (fs : List (Str × D)) (ys ns : List Str), c ∈ ys → ∀ S, isxD ys ns (Ex.d ⟨c, fs⟩) S = .ok (.bl true) S := fun c fs ys ns h S => by
    show (if c ∈ ys then R.ok (D.bl true) S else _) = _
    rw [if_pos h]
  have no : ∀ (c : Str) (fs : List (Str × D)) (ys ns : List Str), c ∉ ys → c ∈ ns → ∀ S, isxD ys ns (Ex.d ⟨c, fs⟩) S = .ok (.bl false) S := fun c fs ys ns h h2 S => by
    show (if c ∈ ys then R.ok (D.bl true) S else if c ∈ ns then R.ok (D.bl false) S else R.bad) = _
    rw [if_neg h, if_pos h2]
  have ml3 : ∀ (a b c : D) (S : Store), mkLst [a, b, c] S = .ok (.lst [a, b, c]) S := fun a b c S => is_ok (by rw [sat_mkLst]; exact ⟨small (by simp), rfl, rfl⟩)
  have ml2 : ∀ (a b : D) (S : Store), mkLst [a, b] S = .ok (.lst [a, b]) S := fun a b S => is_ok (by rw [sat_mkLst]; exact ⟨small (by simp), rfl, rfl⟩)
  have d1 : ("NoPlace" : Str) ≠ "NoName" := by decide +kernel
  have ix0 : ∀ (a b c : D) (S : Store), ixD (.lst [a, b, c]) (.int 0) S = .ok a S := fun a b c S => by simp [ixD, atI, ixN]
  have ix2 : ∀ (a b c : D) (S : Store), ixD (.lst [a, b, c]) (.int 2) S = .ok c S := fun a b c S => by simp [ixD, atI, ixN]
  refine step_no (S1 := S) (of_sat (by simp only [sat_tOfE, sat_e2, sat_eVar, sat_eK, List.getElem?_cons_succ, List.getElem?_cons_zero, n1, sat_ok, blD_bl]; simp)) ?_
  rcases he with ⟨rfl, rfl⟩ | ⟨rfl, rfl⟩
  · have b1 := yes "NoPlace" [("place", x)] ["NoPlace"] ["NoName"] (by simp)
    have b2 := no "NoPlace" [("place", x)] ["NoName"] ["NoPlace"] (by simp [d1]) (by simp)
    have b3 := no "NoPlace" [("place", x)] [] ["NoPlace", "NoName"] (by simp) (by simp)
    have b4 := yes "NoPlace" [("place", x)] ["NoPlace", "NoName"] [] (by simp)
    have x3 : ∀ S, xfD ["NoPlace"] "place" (Ex.d ⟨"NoPlace", [("place", x)]⟩) S = .ok x S := fun S => by
      show (if ("NoPlace" : Str) ∈ (["NoPlace"] : List Str) then _ else R.bad) = _
      rw [if_pos (by simp)]
      rfl
    unfold noP
    refine step_asg (S1 := S) (S2 := S) (d := .lst [.bl true, .bl false, .bl false]) (is_ok (by simp only [sat_eN, sat_aCons, sat_aNil, sat_e1, sat_eVar, List.getElem?_cons_succ, List.getElem?_cons_zero, b1, b2, b3, sat_ok, ml3, and_self])) rfl ?_
    have c1 : countD (.lst [.bl true, .bl false, .bl false]) [.bl true] S = .ok (.int 1) S := by kernel_rfl
    refine step_no (S1 := S) (is_ok ?_) ?_
    · simp only [List.set_cons_succ, List.set_cons_zero, sat_tOr, sat_tNot, sat_tTruth, sat_tOfE, sat_e2, sat_e1, sat_eBM, sat_aCons, sat_aNil, sat_eVar, sat_eK, List.getElem?_cons_succ, List.getElem?_cons_zero]
      refine ⟨rfl, ?_⟩
      rw [c1, sat_ok, ne_int, sat_ok, blD_bl, sat_ok]
      simp only [ix2, b4, sat_ok, truthD_bl]
      simp
    · rw [ssat_seq, ssat_if]
      simp only [List.set_cons_succ, List.set_cons_zero, sat_tTruth, sat_e2, sat_eVar, sat_eK, List.getElem?_cons_succ, List.getElem?_cons_zero, ix0, sat_ok, truthD_bl, if_true, ssat_sRet, sat_eN, sat_aCons, sat_aNil, sat_e1, x3, hz, eq_strs, ml2]
      simp
  · have b1 := no "NoName" [("name", x)] ["NoPlace"] ["NoName"] (by simp [Ne.symm d1]) (by simp)
    have b2 := yes "NoName" [("name", x)] ["NoName"] ["NoPlace"] (by simp)
    have b3 := no "NoName" [("name", x)] [] ["NoPlace", "NoName"] (by simp) (by simp)
    have b4 := yes "NoName" [("name", x)] ["NoPlace", "NoName"] [] (by simp)
    have x3 : ∀ S, xfD ["NoName"] "name" (Ex.d ⟨"NoName", [("name", x)]⟩) S = .ok x S := fun S => by
      show (if ("NoName" : Str) ∈ (["NoName"] : List Str) then _ else R.bad) = _
      rw [if_pos (by simp)]
      rfl
    unfold noN
    refine step_asg (S1 := S) (S2 := S) (d := .lst [.bl false, .bl true, .bl false]) (is_ok (by simp only [sat_eN, sat_aCons, sat_aNil, sat_e1, sat_eVar, List.getElem?_cons_succ, List.getElem?_cons_zero, b1, b2, b3, sat_ok, ml3, and_self])) rfl ?_
    have c1 : countD (.lst [.bl false, .bl true, .bl false]) [.bl true] S = .ok (.int 1) S := by kernel_rfl
    refine step_no (S1 := S) (is_ok ?_) ?_
    · simp only [List.set_cons_succ, List.set_cons_zero, sat_tOr, sat_tNot, sat_tTruth, sat_tOfE, sat_e2, sat_e1, sat_eBM, sat_aCons, sat_aNil, sat_eVar, sat_eK, List.getElem?_cons_succ, List.getElem?_cons_zero]
      refine ⟨rfl, ?_⟩
      rw [c1, sat_ok, ne_int, sat_ok, blD_bl, sat_ok]
      simp only [ix2, b4, sat_ok, truthD_bl]
      simp
    · refine step_no (S1 := S) (is_ok (by simp only [List.set_cons_succ, List.set_cons_zero, sat_tTruth, sat_e2, sat_eVar, sat_eK, List.getElem?_cons_succ, List.getElem?_cons_zero, ix0, sat_ok, truthD_bl, and_self])) ?_
      simp only [List.set_cons_succ, List.set_cons_zero, ssat_sRet, sat_eN, sat_aCons, sat_aNil, sat_e2, sat_eVar, sat_eK, List.getElem?_cons_succ, List.getElem?_cons_zero, sat_ok, sat_e1, x3, hz, eq_strs, ml2]
      simp
end K04
set_option Elab.async false
set_option linter.all false
set_option maxRecDepth 100000
set_option maxHeartbeats 4000000
namespace K04
open PySem L2 L3
variable {S : Store} {n : Nat}
theorem told_ex (k : Nat) {t : Tm} {x : D} {e : Ex} {f : Str} (he : (e = noP x ∧ f = "no place") ∨ (e = noN x ∧ f = "no name")) (hz : ∃ z : Str, ∀ S, reprD [x] S = .ok (.str z) S) (h : Fs (k + 4) 6 [t.d, x] S = .exc e S) : Fs (k + 5) 16 [t.d, x] S = .ok (.lst [.str f, .bl true]) S := by
  apply of_sat
  rw [show k + 5 = k + 4 + 1 from rfl, Fs_law_told, sat_run]
  refine ⟨rfl, ?_⟩
  unfold m_law_told
  have m2 : ∀ (a b : D) (S : Store), mkTup [a, b] S = .ok (.tup [a, b]) S := fun a b S => is_ok (by rw [sat_mkTup]; exact ⟨small (by simp), rfl, rfl⟩)
  refine step_asg (S1 := S) (S2 := S) (d := .tup [.non, .non]) (env' := [some t.d, some x, some .non, some .non, none, none]) (is_ok (by simp only [sat_eN, sat_aCons, sat_aNil, sat_eK, m2, sat_ok, and_self])) rfl ?_
  refine seq_rule (fun e' S' => e' = [some t.d, some x, some .non, some e.d, none, none] ∧ S' = S) ?_ ?_
  · refine X.try_rule ?_
    simp only [X.ssat_asg, X.sat_eN, X.sat_aCons, X.sat_aNil, X.sat_eVar, List.getElem?_cons_succ, List.getElem?_cons_zero, callK_eq, List.append_nil]
    rw [h, X.sat_exc]
    unfold hdsD
    rw [if_pos (by rcases he with ⟨rfl, _⟩ | ⟨rfl, _⟩ <;> simp [noP, noN])]
    simp only [nameD, sAsg, eVar, R.toS, L3.gName, SR.past, List.set_cons_succ, List.set_cons_zero, List.getElem?_cons_succ, List.getElem?_cons_zero, ssat_nx]
    first | exact ⟨trivial, rfl⟩ | exact ⟨rfl, trivial⟩ | exact ⟨trivial, trivial⟩
  · rintro e' S' ⟨rfl, rfl⟩
    refine ssat_mono (told_exc he hz) (fun _ _ h => ?_) (fun _ _ h => h) (fun _ _ h => h) fun _ _ h => h
    exact h
theorem told_ok (k : Nat) {t : Tm} {q : List Nat} {s : Str} {g : D} (gt : Good t) (hs : t.size ≤ 400) (h : gv [] t [] q = some (s, g)) : (Fs (k + 5) 16 [t.d, pl q] S).sat fun d S' => d = g ∧ Grow S S' := by
  rw [show k + 5 = k + 4 + 1 from rfl, Fs_law_told, sat_run]
  refine ⟨rfl, ?_⟩
  unfold m_law_told
  have m2 : ∀ (a b : D) (S : Store), mkTup [a, b] S = .ok (.tup [a, b]) S := fun a b S => is_ok (by rw [sat_mkTup]; exact ⟨small (by simp), rfl, rfl⟩)
  refine step_asg (S1 := S) (S2 := S) (d := .tup [.non, .non]) (env' := [some t.d, some (pl q), some .non, some .non, none, none]) (is_ok (by simp only [sat_eN, sat_aCons, sat_aNil, sat_eK, m2, sat_ok, and_self])) rfl ?_
  refine seq_rule (fun e' S' => e' = [some t.d, some (pl q), some g, some .non, none, none] ∧ Grow S S') ?_ ?_
  · refine X.try_rule (X.of_ssat ?_)
    simp only [ssat_asg, sat_eN, sat_aCons, sat_aNil, sat_eVar, List.getElem?_cons_succ, List.getElem?_cons_zero, callK_eq, List.append_nil]
    refine sat_mono ((giver k).ok S gt hs h) fun d S' ⟨e, gr⟩ => ?_
    subst e
    simp only [gName_eq, ssat_nx, List.set_cons_succ, List.set_cons_zero]
    first | exact ⟨rfl, gr⟩ | exact ⟨trivial, gr⟩
  · rintro e' S' ⟨rfl, gr⟩
    refine step_ret (S1 := S') (is_ok (by simp only [sat_tOfE, sat_e2, sat_eVar, sat_eK, List.getElem?_cons_succ, List.getElem?_cons_zero]; simp [isNonD])) ?_
    simp only [sat_eVar, List.getElem?_cons_succ, List.getElem?_cons_zero]
    first | exact ⟨rfl, gr⟩ | exact ⟨trivial, gr⟩
structure Rd (n m : Nat) (t : Tm) (S : Store) : Prop where
  pg : Pg t
  gd : Good t
  h : Hand n S
  ne : n ≠ m
  f : ∃ F, S[m]? = some (.dT F) ∧ ∀ q, dGet F (key q) = (gv [] t [] q).map fun p => .tup [.str p.1, p.2]
theorem Rd.fr {m : Nat} {t : Tm} {S S' : Store} (h : Rd n m t S) (f : FrH n S S') : Rd n m t S' := ⟨h.pg, h.gd, f.hd, h.ne, let ⟨F, h1, h2⟩ := h.f; ⟨F, f.fr _ _ (Ne.symm h.ne) h1, h2⟩⟩
abbrev spL (t : Tm) : D := .lst (t.spots.map pl)
theorem g_show {t : Tm} {q : List Nat} {s : Str} {g : D} (h : Pg t) (e : gv [] t [] q = some (s, g)) : ∃ z : Str, ∀ S, reprD [g] S = .ok (.str z) S := by
  rcases gv_val (t := t) (p := []) (u := t) ⟨by simp, by simp, by simp⟩ rfl e with rfl | ⟨q', hq', rfl⟩
  · exact (U.non (B := 6)).show (by decide) (by decide)
  · obtain ⟨u, hu⟩ := Tm.spots_at.mp hq'
    exact repr_sh (sh_plc h.u (by decide) hu (by have := (h.at hu).2; omega)) (by decide) (by decide)
theorem nn_show : ∃ z : Str, ∀ S, reprD [noNmD] S = .ok (.str z) S := by
  have : U 6 noNmD := .lst (by simp) (by
    intro x hx
    simp only [List.mem_cons, List.not_mem_nil, or_false] at hx
    rcases hx with rfl | rfl
    · exact .str (by decide +kernel)
    · exact .bl _)
  exact this.show (by decide) (by decide)
theorem one_spot {ns : List Int} {i : Int} {t : Tm} {k : Option D} {m : Nat} {q : List Nat} {v : Tm} {S : Store} (R0 : Rd n m t S) (hv : t.at q = some v) {a8 a9 a10 a11 : Option D} :
    ((sSeq (sAsg (eIf (tOfE (e2 inD (eVar 7) (eVar 5))) (e2 ixD (e2 ixD (eVar 5) (eVar 7)) (eK (.int 1))) (eN mkLst (aCons (eK (.str "no name")) (aCons (eK (.bl true)) (aNil))))) (gName 8))
    (sSeq (sIf (tOfE (e2 neD (eN reprD (aCons (eN (callK (Fs 99 16) []) (aCons (eVar 3) (aCons (eVar 7) (aNil)))) (aNil))) (eN reprD (aCons (eVar 8) (aNil))))) (sRet (eK (.bl false))) (sSkip))
    (sIf (tAnd (tOfE (e2 inD (eVar 7) (eVar 5))) (tOfE (e2 neD (eN reprD (aCons (eKw (kwK (Fs 99 6) 0 2 kbd_giver_at_0_place_program_g) aNil (aCons (eVar 7) (aCons (eVar 3) (aNil)))) (aNil))) (eN reprD (aCons (eVar 8) (aNil)))))) (sRet (eK (.bl false))) (sSkip)))) [some (.scr ns), some (.int i), some (.obj n), some t.d, k, some (.obj m), some (spL t), some (pl q), a8, a9, a10, a11] S).sat
      (fun e S' => (∃ a7 a8 a9 a10 a11, e = [some (.scr ns), some (.int i), some (.obj n), some t.d, k, some (.obj m), some (spL t), a7, a8, a9, a10, a11]) ∧ FrH n S S') (fun d _ => d = .bl true) (fun _ _ => False) fun _ _ => False := by
  obtain ⟨pv, hq⟩ := R0.pg.at hv
  obtain ⟨F, f1, f2⟩ := R0.f
  have hsz := R0.pg.s
  have inq : ∀ S : Store, S[m]? = some (.dT F) → inD (pl q) (.obj m) S = .ok (.bl (gv [] t [] q).isSome) S := fun S h => by
    have : memD (pl q) (.obj m) S = some (gv [] t [] q).isSome := by
      simp only [memD, h, memT, tk_pl, f2 q, Option.isSome_map]
    unfold inD
    rw [this]
  cases hg : gv [] t [] q with
  | none =>
    obtain ⟨z, hz⟩ := nn_show
    have hn : v.name = none := by
      obtain ⟨kn', e'⟩ := gv_at (kn := []) (p := []) hv
      rw [hg] at e'
      cases h : v.name with
      | none => rfl
      | some s => rw [h] at e'; cases e'
    have hsp : ∃ z : Str, ∀ S, reprD [pl q] S = .ok (.str z) S := repr_sh (sh_plc R0.pg.u (by decide) hv (by omega)) (by decide) (by decide)
    have et := told_ex (S := S) 94 (.inr ⟨rfl, rfl⟩) hsp ((giver 94).nn S R0.gd hv hn)
    rw [hg] at inq
    have ml2 : ∀ (a b : D) (S : Store), mkLst [a, b] S = .ok (.lst [a, b]) S := fun a b S => is_ok (by rw [sat_mkLst]; exact ⟨small (by simp), rfl, rfl⟩)
    refine step_asg (S1 := S) (S2 := S) (d := noNmD) (is_ok ?_) rfl ?_
    · simp only [sat_eIf, sat_tOfE, sat_e2, sat_eVar, sat_eK, List.getElem?_cons_succ, List.getElem?_cons_zero, inq S f1, sat_ok, blD_bl, Option.isSome_none, Bool.false_eq_true, if_false, sat_eN, sat_aCons, sat_aNil, ml2]
      exact ⟨rfl, trivial⟩
    simp only [List.set_cons_succ, List.set_cons_zero]
    refine step_no (S1 := S) (ne_no (z := z) (S1 := S) (is_ok ?_) (is_ok ?_)) ?_
    · simp only [sat_eN, sat_aCons, sat_aNil, sat_eVar, List.getElem?_cons_succ, List.getElem?_cons_zero, callK_eq, List.append_nil]
      rw [et, sat_ok, show (D.lst [.str "no name", .bl true]) = noNmD from rfl, hz, sat_ok]
      exact ⟨rfl, rfl⟩
    · simp only [sat_eN, sat_aCons, sat_aNil, sat_eVar, List.getElem?_cons_succ, List.getElem?_cons_zero, hz, sat_ok, and_self]
    · simp only [ssat_if, sat_tAnd, sat_tOfE, sat_e2, sat_eVar, List.getElem?_cons_succ, List.getElem?_cons_zero, inq S f1, sat_ok, blD_bl, Option.isSome_none, Bool.false_eq_true, if_false, ssat_skip]
      exact ⟨⟨_, _, _, _, _, rfl⟩, FrH.refl R0.h⟩
  | some p =>
    obtain ⟨s, g⟩ := p
    obtain ⟨z, hz⟩ := g_show R0.pg hg
    have hq2 := f2 q
    rw [hg] at hq2 inq
    have i1 : ixD (.obj m) (pl q) S = .ok (.tup [.str s, g]) S := by
      simp only [ixD, f1, tk_pl, hq2, Option.map_some]
    have i2 : ixD (.tup [.str s, g]) (.int 1) S = .ok g S := by simp [ixD, atI, ixN]
    refine step_asg (S1 := S) (S2 := S) (d := g) (is_ok ?_) rfl ?_
    · simp only [sat_eIf, sat_tOfE, sat_e2, sat_eVar, sat_eK, List.getElem?_cons_succ, List.getElem?_cons_zero, inq S f1, sat_ok, blD_bl, Option.isSome_some, if_true, i1, i2]
      exact ⟨trivial, trivial⟩
    simp only [List.set_cons_succ, List.set_cons_zero]
    obtain ⟨S1, t1, g1⟩ := sat_ok_of (told_ok (S := S) 94 R0.gd (by omega) hg)
    have fm1 := g1.fr _ _ f1
    obtain ⟨S2, t2, g2⟩ := sat_ok_of ((giver 95).ok S1 R0.gd (by omega) hg)
    refine step_no (S1 := S1) (ne_no (z := z) (S1 := S1) (is_ok ?_) (is_ok ?_)) ?_
    · simp only [sat_eN, sat_aCons, sat_aNil, sat_eVar, List.getElem?_cons_succ, List.getElem?_cons_zero, callK_eq, List.append_nil]
      rw [t1, sat_ok, hz, sat_ok]
      exact ⟨rfl, rfl⟩
    · simp only [sat_eN, sat_aCons, sat_aNil, sat_eVar, List.getElem?_cons_succ, List.getElem?_cons_zero, hz, sat_ok, and_self]
    · have ek : kwK (Fs 99 6) 0 2 kbd_giver_at_0_place_program_g [] [pl q, t.d] S1 = Fs 99 6 [t.d, pl q] S1 := rfl
      have e3 : (tOfE (e2 neD (eN reprD (aCons (eKw (kwK (Fs 99 6) 0 2 kbd_giver_at_0_place_program_g) aNil (aCons (eVar 7) (aCons (eVar 3) (aNil)))) (aNil))) (eN reprD (aCons (eVar 8) (aNil))))) [some (.scr ns), some (.int i), some (.obj n), some t.d, k, some (.obj m), some (spL t), some (pl q), some g, a9, a10, a11] S1 = .ok false S2 := by
        refine ne_no (z := z) (S1 := S2) (is_ok ?_) (is_ok ?_)
        · simp only [sat_eN, sat_eKw, sat_aCons, sat_aNil, sat_eVar, List.getElem?_cons_succ, List.getElem?_cons_zero, ek]
          rw [t2, sat_ok, hz, sat_ok]
          exact ⟨rfl, rfl⟩
        · simp only [sat_eN, sat_aCons, sat_aNil, sat_eVar, List.getElem?_cons_succ, List.getElem?_cons_zero, hz, sat_ok, and_self]
      have eA : (tOfE (e2 inD (eVar 7) (eVar 5))) [some (.scr ns), some (.int i), some (.obj n), some t.d, k, some (.obj m), some (spL t), some (pl q), some g, a9, a10, a11] S1 = .ok true S1 := is_ok (by
        simp only [sat_tOfE, sat_e2, sat_eVar, List.getElem?_cons_succ, List.getElem?_cons_zero, inq S1 fm1, sat_ok, blD_bl, Option.isSome_some, and_self])
      rw [ssat_if, sat_tAnd, eA, sat_ok, if_pos rfl, e3, sat_ok, if_neg Bool.false_ne_true, ssat_skip]
      exact ⟨⟨_, _, _, _, _, rfl⟩, (g1.trans g2).hand R0.h⟩
end K04
set_option Elab.async false
set_option linter.all false
set_option maxRecDepth 100000
set_option maxHeartbeats 4000000
namespace K04
open PySem L2 L3
variable {n : Nat}
def odds4 (q : List Nat) : List D :=
  [.tup (nis q ++ [.int 6]), .tup (nis q ++ [.int (-1)]), .tup (nis q ++ [.bl true]), .lst (nis q), .non, .int 0, .str "", .dic [] [], .tup [.non], .lst [.int 0]]
theorem odds4_sub {q : List Nat} : ∀ d ∈ odds4 q, d ∈ odds q ++ odds2 q := by
  intro d hd
  simp only [odds4, List.mem_cons, List.not_mem_nil, or_false] at hd
  simp only [odds, odds2, List.mem_append, List.mem_cons, List.not_mem_nil, or_false]
  rcases hd with h | h | h | h | h | h | h | h | h | h <;> subst h <;> simp
theorem mkLst10 {S : Store} {a b c d e f g h i j : D} : mkLst [a, b, c, d, e, f, g, h, i, j] S = .ok (.lst [a, b, c, d, e, f, g, h, i, j]) S := by
  apply of_sat; rw [sat_mkLst]; exact ⟨small (by simp), rfl, rfl⟩
theorem one_turn {ns : List Int} {i : Int} {t : Tm} {k : Option D} {m : Nat} {S : Store} (R0 : Rd n m t S) {a7 a8 a9 a10 a11 : Option D} :
    ((sSeq (sAsg (eN (callK (Fs 99 9) []) (aCons (eVar 2) (aCons (eVar 6) (aNil)))) (gName 7))
    (sSeq (sAsg (eN mkLst (aCons (e2 addD (eVar 7) (eN mkTup (aCons (eK (.int 6)) (aNil)))) (aCons (e2 addD (eVar 7) (eN mkTup (aCons (e1 negD (eK (.int 1))) (aNil)))) (aCons (e2 addD (eVar 7) (eN mkTup (aCons (eK (.bl true)) (aNil)))) (aCons (eN listD (aCons (eVar 7) (aNil))) (aCons (eK .non) (aCons (eK (.int 0)) (aCons (eK (.str "")) (aCons (eDic0) (aCons (eN mkTup (aCons (eK .non) (aNil))) (aCons (eN mkLst (aCons (eK (.int 0)) (aNil))) (aNil)))))))))))) (gName 10))
    (sSeq (sAsg (eN (callK (Fs 99 9) []) (aCons (eVar 2) (aCons (eVar 10) (aNil)))) (gName 11))
    (sIf (tOfE (e2 neD (eN (callK (Fs 99 16) []) (aCons (eVar 3) (aCons (eVar 11) (aNil)))) (eN mkLst (aCons (eK (.str "no place")) (aCons (eK (.bl true)) (aNil)))))) (sRet (eK (.bl false))) (sSkip))))) [some (.scr ns), some (.int i), some (.obj n), some t.d, k, some (.obj m), some (spL t), a7, a8, a9, a10, a11] S).sat
      (fun e S' => (∃ a7 a8 a9 a10 a11, e = [some (.scr ns), some (.int i), some (.obj n), some t.d, k, some (.obj m), some (spL t), a7, a8, a9, a10, a11]) ∧ FrH n S S') (fun d _ => d = .bl true) (fun _ _ => False) fun _ _ => False := by
  have ts := R0.pg.s
  have hl : (t.spots.map pl).length ≤ 60 := by rw [List.length_map, Tm.spots_len]; exact ts
  have hne : t.spots.map pl ≠ [] := by rw [Tm.spots_eq]; simp
  refine seq_rule (fun e S1 => (∃ q v, t.at q = some v ∧ e = [some (.scr ns), some (.int i), some (.obj n), some t.d, k, some (.obj m), some (spL t), some (pl q), a8, a9, a10, a11]) ∧ FrH n S S1) ?_ ?_
  · simp only [ssat_asg, sat_eN, sat_aCons, sat_aNil, sat_eVar, List.getElem?_cons_succ, List.getElem?_cons_zero, callK_eq, List.append_nil]
    refine sat_mono (pk 97 n S _ _ R0.h (.lst _) hne (by omega)) fun d S1 ⟨h1, h2⟩ => ?_
    obtain ⟨q, hq, rfl⟩ := List.mem_map.mp h1
    obtain ⟨v, hv⟩ := Tm.spots_at.mp hq
    simp only [gName_eq, ssat_nx, List.set_cons_succ, List.set_cons_zero]
    exact ⟨⟨q, v, hv, rfl⟩, h2⟩
  rintro e S1 ⟨⟨q, v, hv, rfl⟩, fr⟩
  obtain ⟨pv, hq⟩ := R0.pg.at hv
  refine step_asg (S1 := S1) (S2 := S1) (d := .lst (odds4 q)) (is_ok ?_) rfl ?_
  · have l1 : mkLst [.int 0] S1 = .ok (.lst [.int 0]) S1 := is_ok (by rw [sat_mkLst]; exact ⟨small (by simp), rfl, rfl⟩)
    simp only [sat_eN, sat_aCons, sat_aNil, sat_e2, sat_e1, sat_eVar, sat_eK, sat_eDic0, List.getElem?_cons_succ, List.getElem?_cons_zero, mkTup1, sat_ok, neg_int, list_pl, add_one (S := S1) (q := q) (by omega), l1, mkLst10, odds4, true_and]
  simp only [List.set_cons_succ, List.set_cons_zero]
  refine seq_rule (fun e S2 => (∃ d, d ∈ odds4 q ∧ e = [some (.scr ns), some (.int i), some (.obj n), some t.d, k, some (.obj m), some (spL t), some (pl q), a8, a9, some (.lst (odds4 q)), some d]) ∧ FrH n S S2) ?_ ?_
  · simp only [ssat_asg, sat_eN, sat_aCons, sat_aNil, sat_eVar, List.getElem?_cons_succ, List.getElem?_cons_zero, callK_eq, List.append_nil]
    refine sat_mono (pk 97 n S1 _ _ fr.hd (.lst _) (by simp [odds4]) (by simp [odds4])) fun d S2 ⟨h1, h2⟩ => ?_
    simp only [gName_eq, ssat_nx, List.set_cons_succ, List.set_cons_zero]
    exact ⟨⟨d, h1, rfl⟩, fr.trans h2⟩
  rintro e S2 ⟨⟨d, hd, rfl⟩, fr2⟩
  have no := odd_no (B := 6) R0.pg.u hv d (odds4_sub d hd)
  have sh := repr_sh (odd_sh R0.pg.u hv (by omega) d (odds4_sub d hd)) (by decide) (by decide)
  have et := told_ex (S := S2) 94 (.inl ⟨rfl, rfl⟩) sh ((giver 94).no S2 no)
  have ml2 : ∀ (a b : D) (S : Store), mkLst [a, b] S = .ok (.lst [a, b]) S := fun a b S => is_ok (by rw [sat_mkLst]; exact ⟨small (by simp), rfl, rfl⟩)
  have en : neD (.lst [.str "no place", .bl true]) (.lst [.str "no place", .bl true]) S2 = .ok (.bl false) S2 := by kernel_rfl
  simp only [ssat_if, sat_tOfE, sat_e2, sat_eN, sat_aCons, sat_aNil, sat_eVar, sat_eK, List.getElem?_cons_succ, List.getElem?_cons_zero, callK_eq, List.append_nil]
  rw [et, sat_ok, ml2, sat_ok, en, sat_ok, blD_bl, sat_ok, if_neg Bool.false_ne_true, ssat_skip]
  exact ⟨⟨_, _, _, _, _, rfl⟩, fr2⟩
theorem round {ns : List Int} {i : Int} {t : Tm} {S : Store} (pg : Pg t) (gd : Good t) (hS : Hand n S) {a4 a5 a6 a7 a8 a9 a10 a11 : Option D} :
    ((sSeq (sPar [4, 5, 6] (aCons (eN reprD (aCons (eVar 3) (aNil))) (aCons (eN (callK (Fs 99 15) []) (aCons (eVar 3) (aNil))) (aCons (eN (callK (Fs 99 14) []) (aCons (eVar 3) (aNil))) (aNil)))))
    (sSeq (sFor (iSeq (eVar 6)) (gName 7) (sSeq (sAsg (eIf (tOfE (e2 inD (eVar 7) (eVar 5))) (e2 ixD (e2 ixD (eVar 5) (eVar 7)) (eK (.int 1))) (eN mkLst (aCons (eK (.str "no name")) (aCons (eK (.bl true)) (aNil))))) (gName 8))
    (sSeq (sIf (tOfE (e2 neD (eN reprD (aCons (eN (callK (Fs 99 16) []) (aCons (eVar 3) (aCons (eVar 7) (aNil)))) (aNil))) (eN reprD (aCons (eVar 8) (aNil))))) (sRet (eK (.bl false))) (sSkip))
    (sIf (tAnd (tOfE (e2 inD (eVar 7) (eVar 5))) (tOfE (e2 neD (eN reprD (aCons (eKw (kwK (Fs 99 6) 0 2 kbd_giver_at_0_place_program_g) aNil (aCons (eVar 7) (aCons (eVar 3) (aNil)))) (aNil))) (eN reprD (aCons (eVar 8) (aNil)))))) (sRet (eK (.bl false))) (sSkip)))))
    (sSeq (sFor (iArgs range1 (aCons (eK (.int 8)) (aNil))) (gName 9) (sSeq (sAsg (eN (callK (Fs 99 9) []) (aCons (eVar 2) (aCons (eVar 6) (aNil)))) (gName 7))
    (sSeq (sAsg (eN mkLst (aCons (e2 addD (eVar 7) (eN mkTup (aCons (eK (.int 6)) (aNil)))) (aCons (e2 addD (eVar 7) (eN mkTup (aCons (e1 negD (eK (.int 1))) (aNil)))) (aCons (e2 addD (eVar 7) (eN mkTup (aCons (eK (.bl true)) (aNil)))) (aCons (eN listD (aCons (eVar 7) (aNil))) (aCons (eK .non) (aCons (eK (.int 0)) (aCons (eK (.str "")) (aCons (eDic0) (aCons (eN mkTup (aCons (eK .non) (aNil))) (aCons (eN mkLst (aCons (eK (.int 0)) (aNil))) (aNil)))))))))))) (gName 10))
    (sSeq (sAsg (eN (callK (Fs 99 9) []) (aCons (eVar 2) (aCons (eVar 10) (aNil)))) (gName 11))
    (sIf (tOfE (e2 neD (eN (callK (Fs 99 16) []) (aCons (eVar 3) (aCons (eVar 11) (aNil)))) (eN mkLst (aCons (eK (.str "no place")) (aCons (eK (.bl true)) (aNil)))))) (sRet (eK (.bl false))) (sSkip))))))
    (sIf (tOfE (e2 neD (eN reprD (aCons (eVar 3) (aNil))) (eVar 4))) (sRet (eK (.bl false))) (sSkip))))) [some (.scr ns), some (.int i), some (.obj n), some t.d, a4, a5, a6, a7, a8, a9, a10, a11] S).sat
      (fun e _ => ∃ a1 a2 a3 a4 a5 a6 a7 a8 a9 a10 a11, e = [some (.scr ns), a1, a2, a3, a4, a5, a6, a7, a8, a9, a10, a11]) (fun d _ => d = .bl true) (fun _ _ => False) fun _ _ => False := by
  obtain ⟨z, hz⟩ := pg.show
  have ts := pg.s
  have td := pg.d
  refine seq_rule (fun e S' => ∃ m, (∃ a7 a8 a9 a10 a11, e = [some (.scr ns), some (.int i), some (.obj n), some t.d, some (.str z), some (.obj m), some (spL t), a7, a8, a9, a10, a11]) ∧ Rd n m t S') ?_ ?_
  · simp only [ssat_par, sat_aCons, sat_aNil, sat_eN, sat_eVar, List.getElem?_cons_succ, List.getElem?_cons_zero, hz, sat_ok, callK_eq, List.append_nil]
    refine sat_mono (givers gd (by omega) S) fun d S1 ⟨e, ⟨F, h1, h2⟩, g1⟩ => ?_
    subst e
    refine sat_mono (spots 9 90 (by decide) (t := t) S1 (by omega) (by omega)) fun d S2 ⟨e, g2⟩ => ?_
    subst e
    simp only [gNames_cons, gNames_nil, ssat_nx, List.set_cons_succ, List.set_cons_zero]
    have hlt := hS.lt
    exact ⟨S.length, ⟨_, _, _, _, _, rfl⟩, ⟨pg, gd, ((g1.trans g2).hand hS).hd, by omega, F, g2.fr _ _ h1, h2⟩⟩
  rintro e S1 ⟨m, ⟨b7, b8, b9, b10, b11, rfl⟩, R0⟩
  refine seq_rule (fun e S' => (∃ a7 a8 a9 a10 a11, e = [some (.scr ns), some (.int i), some (.obj n), some t.d, some (.str z), some (.obj m), some (spL t), a7, a8, a9, a10, a11]) ∧ Rd n m t S') ?_ ?_
  · simp only [ssat_for, sat_iSeq, sat_eVar, List.getElem?_cons_succ, List.getElem?_cons_zero, itemsD_lst, sat_ok]
    refine for_each (fun e S' => (∃ a7 a8 a9 a10 a11, e = [some (.scr ns), some (.int i), some (.obj n), some t.d, some (.str z), some (.obj m), some (spL t), a7, a8, a9, a10, a11]) ∧ Rd n m t S') ⟨⟨_, _, _, _, _, rfl⟩, R0⟩ ?_ fun e S' h => h
    rintro x hx e S4 ⟨⟨c7, c8, c9, c10, c11, rfl⟩, R4⟩
    obtain ⟨q, hq, rfl⟩ := List.mem_map.mp hx
    obtain ⟨v, hv⟩ := Tm.spots_at.mp hq
    simp only [gName_eq, ssat_nx, List.set_cons_succ, List.set_cons_zero]
    exact ssat_mono (one_spot R4 hv) (fun e S' ⟨h1, h2⟩ => ⟨h1, R4.fr h2⟩) (fun _ _ h => h) (fun _ _ h => h.elim) fun _ _ h => h.elim
  rintro e S4 ⟨⟨c7, c8, c9, c10, c11, rfl⟩, R4⟩
  refine seq_rule (fun e S' => (∃ a7 a8 a9 a10 a11, e = [some (.scr ns), some (.int i), some (.obj n), some t.d, some (.str z), some (.obj m), some (spL t), a7, a8, a9, a10, a11]) ∧ Rd n m t S') ?_ ?_
  · simp only [ssat_for, sat_iArgs, sat_aCons, sat_aNil, sat_eK, sat_range1]
    refine ⟨by decide, ?_⟩
    refine for_each (fun e S' => (∃ a7 a8 a9 a10 a11, e = [some (.scr ns), some (.int i), some (.obj n), some t.d, some (.str z), some (.obj m), some (spL t), a7, a8, a9, a10, a11]) ∧ Rd n m t S') ⟨⟨_, _, _, _, _, rfl⟩, R4⟩ ?_ fun e S' h => h
    rintro x hx e S5 ⟨⟨d7, d8, d9, d10, d11, rfl⟩, R5⟩
    simp only [gName_eq, ssat_nx, List.set_cons_succ, List.set_cons_zero]
    exact ssat_mono (one_turn R5) (fun e S' ⟨h1, h2⟩ => ⟨h1, R5.fr h2⟩) (fun _ _ h => h) (fun _ _ h => h.elim) fun _ _ h => h.elim
  rintro e S5 ⟨⟨d7, d8, d9, d10, d11, rfl⟩, R5⟩
  rw [ssat_if, ne_no (z := z) (S1 := S5) (S2 := S5) (is_ok ?_) (is_ok ?_), sat_ok, if_neg Bool.false_ne_true, ssat_skip]
  · exact ⟨_, _, _, _, _, _, _, _, _, _, _, rfl⟩
  · simp only [sat_eN, sat_aCons, sat_aNil, sat_eVar, List.getElem?_cons_succ, List.getElem?_cons_zero, hz, sat_ok, and_self]
  · simp only [sat_eVar, List.getElem?_cons_succ, List.getElem?_cons_zero, and_self]
theorem law_true (ns : List Int) (hns : ns.length ≤ 63) : ∃ S, Fs 100 17 [.scr ns] [] = .ok (.bl true) S := by
  have key : (Fs 100 17 [.scr ns] []).sat fun d _ => d = .bl true := by
    rw [show (100 : Nat) = 99 + 1 from rfl, Fs_law, sat_run]
    refine ⟨rfl, ?_⟩
    unfold m_law
    refine seq_rule (fun e S => True) ?_ fun e S _ => by simp
    obtain ⟨m, hm, em⟩ : ∃ m : Nat, m ≤ 5 ∧ ∀ S, (eN maxD (aCons (eK (.int 1)) (aCons (eN minD (aCons (eK (.int 5)) (aCons (eN lenD (aCons (eVar 0) (aNil))) (aNil)))) (aNil))) [some (.scr ns), none, none, none, none, none, none, none, none, none, none, none] S) = .ok (.int m) S := by
      refine ⟨max 1 (min 5 ns.length), by omega, fun S => ?_⟩
      apply of_sat
      simp [minD, maxD]
      repeat' split
      all_goals omega
    simp only [ssat_for, sat_iArgs, sat_aCons, sat_aNil, List.map_cons, List.map_nil, List.cons_append, List.nil_append, List.length_cons, List.length_nil, Nat.zero_add, Nat.reduceSub, List.replicate, em, sat_ok, sat_range1]
    refine ⟨by simp [okRng]; omega, ?_⟩
    refine for_each (fun e S => ∃ a1 a2 a3 a4 a5 a6 a7 a8 a9 a10 a11 : Option D, e = [some (.scr ns), a1, a2, a3, a4, a5, a6, a7, a8, a9, a10, a11]) ⟨_, _, _, _, _, _, _, _, _, _, _, rfl⟩ ?_ fun _ _ _ => trivial
    rintro x hx e S ⟨a1, a2, a3, a4, a5, a6, a7, a8, a9, a10, a11, rfl⟩
    obtain ⟨i, rfl, i0, i1⟩ := mem_range hx
    simp only [gName_eq, ssat_nx, List.set_cons_succ, List.set_cons_zero]
    refine seq_rule (fun e S => ∃ n, (∃ a3 a4 a5 a6 a7 a8 a9 a10 a11 : Option D, e = [some (.scr ns), some (.int i), some (.obj n), a3, a4, a5, a6, a7, a8, a9, a10, a11]) ∧ Hand n S) ?_ ?_
    · simp only [ssat_asg, sat_eN, sat_aCons, sat_aNil, sat_eVar, List.getElem?_cons_succ, List.getElem?_cons_zero, callK_eq, List.append_nil]
      have hd : IsHand (Fs 99 7) := by rw [show (99 : Nat) = 98 + 1 from rfl, Fs_law_hand]; exact isHand
      refine sat_mono (hd S ns i i0 (by omega)) fun d S' ⟨e, g, s, eS⟩ => ?_
      subst e eS
      simp only [gName_eq, ssat_nx, List.set_cons_succ, List.set_cons_zero]
      exact ⟨_, ⟨_, _, _, _, _, _, _, _, _, rfl⟩, g, s, by simp⟩
    rintro e S ⟨n, ⟨a3, a4, a5, a6, a7, a8, a9, a10, a11, rfl⟩, hS⟩
    refine seq_rule (fun e S => ∃ t : Tm, (∃ a4 a5 a6 a7 a8 a9 a10 a11 : Option D, e = [some (.scr ns), some (.int i), some (.obj n), some t.d, a4, a5, a6, a7, a8, a9, a10, a11]) ∧ Pg t ∧ Good t ∧ Hand n S) ?_ ?_
    · simp only [ssat_asg, sat_eN, sat_aCons, sat_aNil, sat_eVar, sat_eK, sat_e2, List.getElem?_cons_succ, List.getElem?_cons_zero, callK_eq, List.append_nil]
      refine sat_mono (tk 98 n S 22 hS (by decide) (by decide)) fun d S1 ⟨⟨f, e, f0, f1⟩, fr⟩ => ?_
      subst e
      rw [add_int, sat_ok]
      have := code 86 (left := (6 + f).toNat) fr.hd
      rw [show (((6 + f).toNat : Nat) : Int) = 6 + f by omega] at this
      refine sat_mono this fun d S2 ⟨t, e, g, dp, sz, fr2⟩ => ?_
      subst e
      simp only [gName_eq, ssat_nx, List.set_cons_succ, List.set_cons_zero]
      exact ⟨t, ⟨_, _, _, _, _, _, _, _, rfl⟩, ⟨Good.u t g, by omega, dp⟩, g, fr2.hd⟩
    rintro e S ⟨t, ⟨a4, a5, a6, a7, a8, a9, a10, a11, rfl⟩, pg, gd, hS⟩
    exact ssat_mono (round pg gd hS) (fun _ _ h => h) (fun _ _ h => h) (fun _ _ h => h.elim) fun e S' h => h.elim
  obtain ⟨d, S, e, rfl⟩ := sat_ex.mp key
  exact ⟨S, e⟩
end K04
set_option Elab.async false
set_option linter.all false
set_option maxRecDepth 100000
set_option maxHeartbeats 4000000
open PySem PySem.W PyProof.Rows in
set_option maxRecDepth 100000 in
set_option maxHeartbeats 0 in
theorem PySem.Challenge.cw_holepatterns_k04_givers_holds : PySem.Challenge.rw_holepatterns_k04_givers.Holds := by
  w_on; o_law; k_head; (case hw => w_witness2)
  k_fill
  refine L3.walk (l := PySem.Challenge.rw_holepatterns_k04_givers) (k := (L3.lv 100)) (x := "_law_script") rfl (by decide +kernel) rfl ⟨rfl, by decide, by decide⟩ (fun w h Y => PySem.W.kIn_of Y) ?F
  case F =>
    intro w mg fa h KX G hmg
    refine' K04.all_mk KX G hmg K04.law_true ?a_Scopes ?pg_Scopes ?hd_Scopes ?po_Scopes ?sa_Scopes ?mk_Scopes ?kc_Scopes ?a_Halted ?sb_Halted ?hd_Halted ?ty_Halted ?a_Missing ?sb_Missing ?hd_Missing ?ty_Missing ?a_NoName ?sb_NoName ?hd_NoName ?ty_NoName ?kp_NoName ?in_NoName ?ov_NoName ?sa_NoName ?ga_NoName ?gg_NoName ?cl_NoName ?mr_NoName ?xn_NoName ?a_NoNumber ?sb_NoNumber ?hd_NoNumber ?ty_NoNumber ?a_NoPlace ?sb_NoPlace ?hd_NoPlace ?ty_NoPlace ?kp_NoPlace ?in_NoPlace ?ov_NoPlace ?sa_NoPlace ?ga_NoPlace ?gg_NoPlace ?cl_NoPlace ?mr_NoPlace ?xn_NoPlace ?a_Refused ?sb_Refused ?hd_Refused ?ty_Refused ?sp_class ?tk_class ?xs_NoName__Halted ?xs_NoName__LookupError ?xs_NoName__Missing ?xs_NoName__NoName ?xs_NoName__NoNumber ?xs_NoName__NoPlace ?xs_NoName__Refused ?xs_NoPlace__Halted ?xs_NoPlace__LookupError ?xs_NoPlace__Missing ?xs_NoPlace__NoName ?xs_NoPlace__NoNumber ?xs_NoPlace__NoPlace ?xs_NoPlace__Refused ?n_Scopes_givers ?n_Scopes_names ?a_wall ?l_wall ?c_wall ?k_wall ?a_is_whole ?l_is_whole ?c_is_whole ?k_is_whole ?a_is_number ?l_is_number ?c_is_number ?k_is_number ?w_is_number_high ?w_is_number_low ?a_at ?l_at ?c_at ?k_at ?a_Scopes___init__ ?i_Scopes___init__ ?l_Scopes___init__ ?c_Scopes___init__ ?k_Scopes___init__ ?a_Scopes_asked ?i_Scopes_asked ?l_Scopes_asked ?c_Scopes_asked ?k_Scopes_asked ?a_giver_at ?l_giver_at ?c_giver_at ?k_giver_at ?a_law_hand ?l_law_hand ?c_law_hand ?k_law_hand ?a_law_take ?l_law_take ?c_law_take ?k_law_take ?a_law_pick ?l_law_pick ?c_law_pick ?k_law_pick ?a_law_called ?l_law_called ?c_law_called ?k_law_called ?a_law_digit ?l_law_digit ?c_law_digit ?k_law_digit ?a_law_grown ?l_law_grown ?c_law_grown ?k_law_grown ?a_law_code ?l_law_code ?c_law_code ?k_law_code ?a_law_spots ?l_law_spots ?c_law_spots ?k_law_spots ?a_law_givers ?l_law_givers ?c_law_givers ?k_law_givers ?a_law_told ?l_law_told ?c_law_told ?k_law_told ?a_law ?l_law ?c_law ?k_law ?xc_NoName ?xt_NoName ?l_NoName___init__ ?c_NoName___init__ ?k_NoName___init__ ?xc_NoPlace ?xt_NoPlace ?l_NoPlace___init__ ?c_NoPlace___init__ ?k_NoPlace___init__ ?z_LookupError ?z_abs ?z_bool ?z_dict ?z_enumerate ?z_int ?z_isinstance ?z_len ?z_list ?z_max ?z_min ?z_range ?z_repr ?z_tuple ?x_GIVERS ?l_GIVERS ?x_NAME
    (case a_Scopes => k_is)
    (case pg_Scopes => k_is)
    (case hd_Scopes => k_is)
    (case po_Scopes => k_is)
    (case sa_Scopes => k_is)
    (case mk_Scopes => k_is)
    (case kc_Scopes => k_is)
    (case a_Halted => k_is)
    (case sb_Halted => k_is)
    (case hd_Halted => k_is)
    (case ty_Halted => k_is)
    (case a_Missing => k_is)
    (case sb_Missing => k_is)
    (case hd_Missing => k_is)
    (case ty_Missing => k_is)
    (case a_NoName => k_is)
    (case sb_NoName => k_is)
    (case hd_NoName => k_is)
    (case ty_NoName => k_is)
    (case kp_NoName => k_is)
    (case in_NoName => kx_is)
    (case ov_NoName => kx_is)
    (case sa_NoName => k_is)
    (case ga_NoName => k_is)
    (case gg_NoName => k_is)
    (case cl_NoName => k_is)
    (case mr_NoName => k_is)
    (case xn_NoName => k_is)
    (case a_NoNumber => k_is)
    (case sb_NoNumber => k_is)
    (case hd_NoNumber => k_is)
    (case ty_NoNumber => k_is)
    (case a_NoPlace => k_is)
    (case sb_NoPlace => k_is)
    (case hd_NoPlace => k_is)
    (case ty_NoPlace => k_is)
    (case kp_NoPlace => k_is)
    (case in_NoPlace => kx_is)
    (case ov_NoPlace => kx_is)
    (case sa_NoPlace => k_is)
    (case ga_NoPlace => k_is)
    (case gg_NoPlace => k_is)
    (case cl_NoPlace => k_is)
    (case mr_NoPlace => k_is)
    (case xn_NoPlace => k_is)
    (case a_Refused => k_is)
    (case sb_Refused => k_is)
    (case hd_Refused => k_is)
    (case ty_Refused => k_is)
    (case sp_class => k_is)
    (case tk_class => k_is)
    (case xs_NoName__Halted => k_is)
    (case xs_NoName__LookupError => k_is)
    (case xs_NoName__Missing => k_is)
    (case xs_NoName__NoName => k_is)
    (case xs_NoName__NoNumber => k_is)
    (case xs_NoName__NoPlace => k_is)
    (case xs_NoName__Refused => k_is)
    (case xs_NoPlace__Halted => k_is)
    (case xs_NoPlace__LookupError => k_is)
    (case xs_NoPlace__Missing => k_is)
    (case xs_NoPlace__NoName => k_is)
    (case xs_NoPlace__NoNumber => k_is)
    (case xs_NoPlace__NoPlace => k_is)
    (case xs_NoPlace__Refused => k_is)
    (case n_Scopes_givers => k_is)
    (case n_Scopes_names => k_is)
    (case a_wall => k_is)
    (case l_wall => k_is)
    (case c_wall => k_is)
    (case k_wall => k_is)
    (case a_is_whole => k_is)
    (case l_is_whole => k_is)
    (case c_is_whole => k_is)
    (case k_is_whole => k_is)
    (case a_is_number => k_is)
    (case l_is_number => k_is)
    (case c_is_number => k_is)
    (case k_is_number => k_is)
    (case w_is_number_high => k_is)
    (case w_is_number_low => k_is)
    (case a_at => k_is)
    (case l_at => k_is)
    (case c_at => k_is)
    (case k_at => k_is)
    (case a_Scopes___init__ => k_is)
    (case i_Scopes___init__ => k_is)
    (case l_Scopes___init__ => k_is)
    (case c_Scopes___init__ => k_is)
    (case k_Scopes___init__ => k_is)
    (case a_Scopes_asked => k_is)
    (case i_Scopes_asked => k_is)
    (case l_Scopes_asked => k_is)
    (case c_Scopes_asked => k_is)
    (case k_Scopes_asked => k_is)
    (case a_giver_at => k_is)
    (case l_giver_at => k_is)
    (case c_giver_at => k_is)
    (case k_giver_at => k_is)
    (case a_law_hand => k_is)
    (case l_law_hand => k_is)
    (case c_law_hand => k_is)
    (case k_law_hand => k_is)
    (case a_law_take => k_is)
    (case l_law_take => k_is)
    (case c_law_take => k_is)
    (case k_law_take => k_is)
    (case a_law_pick => k_is)
    (case l_law_pick => k_is)
    (case c_law_pick => k_is)
    (case k_law_pick => k_is)
    (case a_law_called => k_is)
    (case l_law_called => k_is)
    (case c_law_called => k_is)
    (case k_law_called => k_is)
    (case a_law_digit => k_is)
    (case l_law_digit => k_is)
    (case c_law_digit => k_is)
    (case k_law_digit => k_is)
    (case a_law_grown => k_is)
    (case l_law_grown => k_is)
    (case c_law_grown => k_is)
    (case k_law_grown => k_is)
    (case a_law_code => k_is)
    (case l_law_code => k_is)
    (case c_law_code => k_is)
    (case k_law_code => k_is)
    (case a_law_spots => k_is)
    (case l_law_spots => k_is)
    (case c_law_spots => k_is)
    (case k_law_spots => k_is)
    (case a_law_givers => k_is)
    (case l_law_givers => k_is)
    (case c_law_givers => k_is)
    (case k_law_givers => k_is)
    (case a_law_told => k_is)
    (case l_law_told => k_is)
    (case c_law_told => k_is)
    (case k_law_told => k_is)
    (case a_law => k_is)
    (case l_law => k_is)
    (case c_law => k_is)
    (case k_law => k_is)
    (case xc_NoName => k_is)
    (case xt_NoName => k_is)
    (case l_NoName___init__ => k_is)
    (case c_NoName___init__ => k_is)
    (case k_NoName___init__ => k_is)
    (case xc_NoPlace => k_is)
    (case xt_NoPlace => k_is)
    (case l_NoPlace___init__ => k_is)
    (case c_NoPlace___init__ => k_is)
    (case k_NoPlace___init__ => k_is)
    (case z_LookupError => k_is)
    (case z_abs => k_is)
    (case z_bool => k_is)
    (case z_dict => k_is)
    (case z_enumerate => k_is)
    (case z_int => k_is)
    (case z_isinstance => k_is)
    (case z_len => k_is)
    (case z_list => k_is)
    (case z_max => k_is)
    (case z_min => k_is)
    (case z_range => k_is)
    (case z_repr => k_is)
    (case z_tuple => k_is)
    (case x_GIVERS => k_is)
    (case l_GIVERS => k_is)
    (case x_NAME => k_is)
