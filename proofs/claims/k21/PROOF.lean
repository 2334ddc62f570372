import PyProof.Rows.All
import Wide.All
import OpenK.AllK
import Wide.FinOn
import HandS.Base
import HandS.Call
import HandS.List
import HandS.Comp
import HandS.Dict
import HandS.Iter
import HandS.Text
import HandS.Exc
import HandS.Ends
import HandS.Words
import HandS.WordsExc
import HandS.ExcOwn
import HandS.CallSlots
import HandS.CallLocal
import HandS.Defaults
import HandS.IsInst
import HandS.TupAny
import HandS.DictComp
import HandS.Style
import HandS.Wide
import HandS.TryOnly
import HandS.More
import HandS.Deep
import PyProof.StrOps2
import HandS.Small
import HandS.RaiseMore
import PyProof.ReprRoads
import PyProof.CallFns
import PyProof.DictUpdate
import KE.GoesEnum
import KE.KUnpackStar
import HandS.ListItems
import HandS.Zip
import HandS.RevTup
import KE.KDictZip
import PySem.Challenge.RW_holepatterns_k21_words_at_their_bounds
set_option Elab.async false
set_option linter.all false
set_option maxRecDepth 100000
/-! L3A: plain values, a store of mutable objects, results, and what each construct denotes. -/
namespace L3
open PySem

inductive D where
  | non | bl (b : Bool) | int (i : Int) | str (s : Str) | tup (l : List D) | lst (l : List D)
  | dic (ks : List L2.Key) (l : List D) | obj (n : Nat) | glb (x : Str) | ty (n : String) | scr (l : List Int) | kd (ks : List Str) (l : List D)
deriving Inhabited

inductive O where
  | lst (l : List D) | dK (l : List (L2.Key × D)) | dT (l : List (List L2.Key × D)) | ins (c : Str) (fs : List (Str × D)) | dead

abbrev Store := List O
structure Ex where
  cls : Str
  fs : List (Str × D)

inductive R (α : Type) where
  | ok (a : α) (S : Store) | exc (e : Ex) (S : Store) | bad
@[reducible] def R.bind {α β : Type} (r : R α) (f : α → Store → R β) : R β :=
  match r with
  | .ok a S => f a S
  | .exc e S => .exc e S
  | .bad => .bad

abbrev EnvD := List (Option D)
abbrev ED := EnvD → Store → R D
abbrev TD := EnvD → Store → R Bool
abbrev AD := EnvD → Store → R (List D)
inductive SR where
  | nx (env : EnvD) (S : Store) | ret (d : D) (S : Store) | brk (env : EnvD) (S : Store) | ct (env : EnvD) (S : Store) | exc (e : Ex) (env : EnvD) (S : Store) | bad
abbrev SD := EnvD → Store → SR
def R.toS {α : Type} (env : EnvD) (r : R α) (k : α → Store → SR) : SR :=
  match r with
  | .ok a S => k a S
  | .exc e S => .exc e env S
  | .bad => .bad

/-! ### expressions -/
def eVar (i : Nat) : ED := fun env S => match env[i]? with
  | some (some d) => .ok d S
  | _ => .bad
def eK (d : D) : ED := fun _ S => .ok d S
abbrev F1 := D → Store → R D
abbrev F2 := D → D → Store → R D
abbrev FN := List D → Store → R D
def e1 (f : F1) (a : ED) : ED := fun env S => (a env S).bind fun x S1 => f x S1
def e2 (f : F2) (a b : ED) : ED := fun env S => (a env S).bind fun x S1 => (b env S1).bind fun y S2 => f x y S2
def aNil : AD := fun _ S => .ok [] S
def aCons (a : ED) (r : AD) : AD := fun env S => (a env S).bind fun x S1 => (r env S1).bind fun xs S2 => .ok (x :: xs) S2
def eN (f : FN) (a : AD) : ED := fun env S => (a env S).bind fun xs S1 => f xs S1
/-- o.m(..): the receiver, the arguments -/
def eM (f : D → FN) (o : ED) (a : AD) : ED := fun env S => (o env S).bind fun x S1 => (a env S1).bind fun xs S2 => f x xs S2
def eIf (c : TD) (a b : ED) : ED := fun env S => (c env S).bind fun k S1 => match k with
  | true => a env S1
  | false => b env S1
/-! ### tests -/
def tOfE (a : ED) : TD := fun env S => (a env S).bind fun x S1 => match x with
  | .bl k => .ok k S1
  | _ => .bad
def truthD (x : D) (S : Store) : R Bool := match x with
  | .bl k => .ok k S
  | .non => .ok false S
  | .int i => .ok (i != 0) S
  | .str s => if s.length ≤ sizeLine then .ok (s.length != 0) S else .bad
  | .tup l => .ok (!l.isEmpty) S
  | .lst l => .ok (!l.isEmpty) S
  | .obj n => match S[n]? with
    | some (.lst l) => .ok (!l.isEmpty) S
    | _ => .bad
  | _ => .bad
def tTruth (a : ED) : TD := fun env S => (a env S).bind fun x S1 => truthD x S1
def tNot (a : TD) : TD := fun env S => (a env S).bind fun k S1 => .ok (!k) S1
def tAnd (a b : TD) : TD := fun env S => (a env S).bind fun k S1 => match k with
  | true => b env S1
  | false => .ok false S1
def tOr (a b : TD) : TD := fun env S => (a env S).bind fun k S1 => match k with
  | true => .ok true S1
  | false => b env S1
/-- and, or, not as values of truths -/
def eNot (a : ED) : ED := fun env S => (tOfE a env S).bind fun k S1 => .ok (.bl (!k)) S1
def eAnd (a b : ED) : ED := fun env S => (tOfE a env S).bind fun k S1 => match k with
  | true => b env S1
  | false => .ok (.bl false) S1
def eOr (a b : ED) : ED := fun env S => (tOfE a env S).bind fun k S1 => match k with
  | true => .ok (.bl true) S1
  | false => b env S1
/-- a < b < c -/
def eChain (f g : F2) (a b c : ED) : ED := fun env S => (a env S).bind fun x S1 => (b env S1).bind fun y S2 => (f x y S2).bind fun k S3 => match k with
  | .bl true => (c env S3).bind fun z S4 => g y z S4
  | .bl false => .ok (.bl false) S3
  | _ => .bad

/-! ### displays -/
def mkTup : FN := fun xs S => if xs.length ≤ sizeLine then .ok (.tup xs) S else .bad
def mkLst : FN := fun xs S => if xs.length ≤ sizeLine then .ok (.lst xs) S else .bad
/-- a list that will be changed -/
def mkObj : FN := fun xs S => if xs.length ≤ sizeLine then .ok (.obj S.length) (S ++ [.lst xs]) else .bad

/-! ### statements -/
def sSkip : SD := fun env S => .nx env S
def sSeq (a b : SD) : SD := fun env S => match a env S with
  | .nx env1 S1 => b env1 S1
  | r => r
def sIf (c : TD) (a b : SD) : SD := fun env S => (c env S).toS env fun k S1 => match k with
  | true => a env S1
  | false => b env S1
def sRet (a : ED) : SD := fun env S => (a env S).toS env fun d S1 => .ret d S1
def sExpr (a : ED) : SD := fun env S => (a env S).toS env fun _ S1 => .nx env S1
def sBrk : SD := fun env S => .brk env S
def sCt : SD := fun env S => .ct env S
/-- a target -/
abbrev GD := D → EnvD → Store → SR
def gName (i : Nat) : GD := fun d env S => .nx (env.set i (some d)) S
def sAsg (a : ED) (g : GD) : SD := fun env S => (a env S).toS env fun d S1 => g d env S1
/-- several names -/
def gNames : List Nat → List D → EnvD → Store → SR
  | [], [], env, S => .nx env S
  | i :: is, d :: ds, env, S => gNames is ds (env.set i (some d)) S
  | _, _, _, _ => .bad
def gTup (is : List Nat) : GD := fun d env S => match d with
  | .tup l => gNames is l env S
  | _ => .bad
/-- a for over written items -/
def forL (g : GD) (body : SD) : List D → EnvD → Store → SR
  | [], env, S => .nx env S
  | x :: xs, env, S => match g x env S with
    | .nx env1 S1 => match body env1 S1 with
      | .nx env2 S2 => forL g body xs env2 S2
      | .ct env2 S2 => forL g body xs env2 S2
      | .brk env2 S2 => .nx env2 S2
      | .ret d S2 => .ret d S2
      | .exc e env2 S2 => .exc e env2 S2
      | .bad => .bad
    | _ => .bad
def sWhile (c : TD) (body : SD) : Nat → SD
  | 0, _, _ => .bad
  | n + 1, env, S => (c env S).toS env fun k S1 => match k with
    | false => .nx env S1
    | true => match body env S1 with
      | .nx env2 S2 => sWhile c body n env2 S2
      | .ct env2 S2 => sWhile c body n env2 S2
      | .brk env2 S2 => .nx env2 S2
      | .ret d S2 => .ret d S2
      | .exc e env2 S2 => .exc e env2 S2
      | .bad => .bad
def SR.fin : SR → R D
  | .nx _ S1 => .ok .non S1
  | .ret d S1 => .ok d S1
  | .exc e _ S1 => .exc e S1
  | _ => .bad
/-- a def's body at its arguments: np parameters, n slots -/
def run (np n : Nat) (body : SD) : FN := fun xs S => if xs.length = np then (body (xs.map some ++ List.replicate (n - xs.length) none) S).fin else .bad
end L3
set_option Elab.async false
set_option linter.all false
set_option maxRecDepth 100000
/-! L3B: how plain values, the store and results stand for the model's; the rules. -/
namespace L3
open PySem PySem.Spec PyProof.Rows L2

structure GC where
  K : PySem.W.Frag
  w : World
  mg : Str → Option Value
structure Wd where
  mu : List Addr
  S : Store
  H : Hp
  /-- lists and dicts that are being made around here: nothing refers to them -/
  tmp : List Addr

def O.live : O → Prop
  | .dead => False
  | _ => True
def MutS (w : Wd) (a : Addr) : Prop := ∃ (n : Nat) (o : O), w.S[n]? = some o ∧ o.live ∧ w.mu[n]? = some a
def Mut (w : Wd) (a : Addr) : Prop := MutS w a ∨ a ∈ w.tmp
/-- read, never written -/
def Fz (w : Wd) (a : Addr) (u : HO) : Prop := Rd w.H a u ∧ ¬ Mut w a
def KT (K : PySem.W.Frag) (a : Addr) (xs : List V) : Prop :=
  ∃ (o : Obj) (its : Array Value) (n : Nat), K.lookup a = some o ∧ o.cls = .type "tuple" ∧ o.data = .seq its n ∧ its.size ≤ sizeLine ∧ Vals xs its.toList
def KL (K : PySem.W.Frag) (a : Addr) (xs : List V) : Prop :=
  ∃ (o : Obj) (its : Array Value) (n : Nat), K.lookup a = some o ∧ o.cls = .type "list" ∧ o.dict = none ∧ o.data = .seq its n ∧ its.size ≤ sizeLine ∧ Vals xs its.toList

mutual
def Rep (G : GC) (w : Wd) : D → V → Prop
  | .non, v => v = .non
  | .bl b, v => v = .bl b
  | .int i, v => v = .int i
  | .str s, v => v = .str s
  | .tup l, v => ∃ a vs, v = .ref a ∧ (Fz w a (.tup vs) ∨ KT G.K a vs) ∧ RepL G w l vs
  | .lst l, v => ∃ a vs, v = .ref a ∧ w.H a = some (.lst vs) ∧ ¬ Mut w a ∧ RepL G w l vs
  | .dic ks l, v => ∃ a vs, v = .ref a ∧ w.H a = some (.dK (ks.zip vs)) ∧ ¬ Mut w a ∧ ks.length = l.length ∧ RepL G w l vs
  | .obj n, v => ∃ a, w.mu[n]? = some a ∧ v = .ref a
  | .glb x, v => ∃ u, G.mg x = some u ∧ RelV v u
  | .ty n, v => v = .ty n
  | .scr ns, v => ∃ a, v = .ref a ∧ (Fz w a (.lst (ns.map V.int)) ∨ KL G.K a (ns.map V.int))
  | .kd ks l, v => ∃ a es n vs us, v = .ref a ∧ KDict G.K G.w a es n ∧ (∀ z, PySem.W.nsIn G.K a z = some ((ks.zip us).lookup z)) ∧ ks.length = l.length ∧ Vals vs us ∧ RepL G w l vs
def RepL (G : GC) (w : Wd) : List D → List V → Prop
  | [], vs => vs = []
  | d :: ds, vs => ∃ v r, vs = v :: r ∧ Rep G w d v ∧ RepL G w ds r
end

def RepKV {κ : Type} (G : GC) (w : Wd) : List (κ × D) → List (κ × V) → Prop
  | [], x => x = []
  | p :: r, x => ∃ v y, x = (p.1, v) :: y ∧ Rep G w p.2 v ∧ RepKV G w r y
def ORep (G : GC) (w : Wd) (a : Addr) : O → Prop
  | .lst ds => ∃ vs, w.H a = some (.lst vs) ∧ RepL G w ds vs
  | .dK kvs => ∃ vs, w.H a = some (.dK vs) ∧ RepKV G w kvs vs
  | .dT kvs => ∃ vs, w.H a = some (.dT vs) ∧ RepKV G w kvs vs
  | .ins c fs => ∃ C dx vs, w.H a = some (.ins C dx vs) ∧ RepKV G w fs vs ∧ G.mg c = some (.ref C)
  | .dead => True
structure SRep (G : GC) (w : Wd) : Prop where
  len : w.mu.length = w.S.length
  inj : ∀ (n m : Nat) (a : Addr) (o o' : O), w.S[n]? = some o → w.S[m]? = some o' → o.live → o'.live → w.mu[n]? = some a → w.mu[m]? = some a → n = m
  obj : ∀ (n : Nat) (o : O) (a : Addr), w.S[n]? = some o → w.mu[n]? = some a → ORep G w a o
  tm : ∀ a ∈ w.tmp, (∃ u, w.H a = some u) ∧ ¬ MutS w a
structure ERep (G : GC) (w : Wd) (env : EnvD) (σ : L2.St) : Prop where
  len : env.length = σ.length
  at' : ∀ (i : Nat) (d : D), env[i]? = some (some d) → ∃ v : V, σ[i]? = some (some v) ∧ Rep G w d v
/-- from w to w': all is kept but what the store holds, and what stands at T -/
structure WX' (T : List Addr) (w w' : Wd) : Prop where
  mu : ∀ (n : Nat) (a : Addr), w.mu[n]? = some a → w'.mu[n]? = some a
  keep : ∀ (a : Addr) (o : HO), w.H a = some o → ¬ MutS w a → a ∉ T → w'.H a = some o ∧ ¬ MutS w' a
  tmp : ∀ a ∈ w'.tmp, a ∈ w.tmp ∨ a ∈ T
  tmp' : ∀ a ∈ w.tmp, a ∈ w'.tmp
abbrev WExt (w w' : Wd) : Prop := WX' [] w w'
theorem WExt.refl (w : Wd) : WExt w w := ⟨fun _ _ h => h, fun _ _ h h' _ => ⟨h, h'⟩, fun _ h => .inl h, fun _ h => h⟩
theorem WX'.trans {T : List Addr} {a b c : Wd} (x : WX' T a b) (y : WX' T b c) : WX' T a c :=
  ⟨fun n d h => y.mu n d (x.mu n d h), fun d o h h' t => let ⟨h1, h2⟩ := x.keep d o h h' t; y.keep d o h1 h2 t, fun d h => (y.tmp d h).elim (x.tmp d) .inr, fun d h => y.tmp' d (x.tmp' d h)⟩
theorem WX'.wide {T : List Addr} {a b : Wd} (x : WExt a b) : WX' T a b := ⟨x.mu, fun d o h h' _ => x.keep d o h h' (by simp), fun d h => (x.tmp d h).imp id fun z => by simp at z, x.tmp'⟩
/-- what may change is in the making, or not there yet -/
def Tok (T : List Addr) (w : Wd) : Prop := ∀ a ∈ T, a ∈ w.tmp ∨ w.H a = none
theorem WX'.keepM {T : List Addr} {w w' : Wd} (x : WX' T w w') (hT : Tok T w) {a : Addr} {o : HO} (h : w.H a = some o) (nm : ¬ Mut w a) : w'.H a = some o ∧ ¬ Mut w' a := by
  have nT : a ∉ T := fun z => (hT a z).elim (fun z => nm (.inr z)) fun z => by rw [h] at z; cases z
  obtain ⟨h1, h2⟩ := x.keep a o h (fun z => nm (.inl z)) nT
  exact ⟨h1, fun z => z.elim h2 fun z => (x.tmp a z).elim (fun z => nm (.inr z)) nT⟩
section
variable {T : List Addr} {G : GC} {w w' : Wd}
theorem Fz.monoT {a : Addr} {u : HO} (x : WX' T w w') (hT : Tok T w) (h : Fz w a u) : Fz w' a u := by
  obtain ⟨h | ⟨o, h⟩, nm⟩ := h
  · obtain ⟨h1, h2⟩ := x.keepM hT h nm; exact ⟨.inl h1, h2⟩
  · obtain ⟨h1, h2⟩ := x.keepM hT h nm; exact ⟨.inr ⟨o, h1⟩, h2⟩
mutual
theorem Rep.monoT (x : WX' T w w') (hT : Tok T w) : ∀ (d : D) (v : V), Rep G w d v → Rep G w' d v
  | .non, v, h => by simpa only [Rep] using h
  | .bl b, v, h => by simpa only [Rep] using h
  | .int i, v, h => by simpa only [Rep] using h
  | .str s, v, h => by simpa only [Rep] using h
  | .tup l, v, h => by
    simp only [Rep] at h ⊢
    obtain ⟨a, vs, e, h1, h2⟩ := h
    exact ⟨a, vs, e, h1.imp (Fz.monoT x hT) id, RepL.monoT x hT l vs h2⟩
  | .lst l, v, h => by
    simp only [Rep] at h ⊢
    obtain ⟨a, vs, e, h1, nm, h2⟩ := h
    obtain ⟨q1, q2⟩ := x.keepM hT h1 nm
    exact ⟨a, vs, e, q1, q2, RepL.monoT x hT l vs h2⟩
  | .dic ks l, v, h => by
    simp only [Rep] at h ⊢
    obtain ⟨a, vs, e, h1, nm, hl, h2⟩ := h
    obtain ⟨q1, q2⟩ := x.keepM hT h1 nm
    exact ⟨a, vs, e, q1, q2, hl, RepL.monoT x hT l vs h2⟩
  | .obj n, v, h => by
    simp only [Rep] at h ⊢
    obtain ⟨a, h1, e⟩ := h
    exact ⟨a, x.mu n a h1, e⟩
  | .glb y, v, h => by simpa only [Rep] using h
  | .ty n, v, h => by simpa only [Rep] using h
  | .scr ns, v, h => by
    simp only [Rep] at h ⊢
    obtain ⟨a, e, h1⟩ := h
    exact ⟨a, e, h1.imp (Fz.monoT x hT) id⟩
  | .kd ks l, v, h => by
    simp only [Rep] at h ⊢
    obtain ⟨a, es, n, vs, us, e, h1, h2, h3, h4, h5⟩ := h
    exact ⟨a, es, n, vs, us, e, h1, h2, h3, h4, RepL.monoT x hT l vs h5⟩
theorem RepL.monoT (x : WX' T w w') (hT : Tok T w) : ∀ (d : List D) (v : List V), RepL G w d v → RepL G w' d v
  | [], v, h => by simpa only [RepL] using h
  | d :: ds, v, h => by
    simp only [RepL] at h ⊢
    obtain ⟨y, r, e, h1, h2⟩ := h
    exact ⟨y, r, e, Rep.monoT x hT d y h1, RepL.monoT x hT ds r h2⟩
end
end
theorem noT {w : Wd} : Tok [] w := fun _ h => by simp at h
theorem Rep.mono {G : GC} {w w' : Wd} (x : WExt w w') (d : D) (v : V) (h : Rep G w d v) : Rep G w' d v := Rep.monoT x noT d v h
theorem RepL.mono {G : GC} {w w' : Wd} (x : WExt w w') (d : List D) (v : List V) (h : RepL G w d v) : RepL G w' d v := RepL.monoT x noT d v h
theorem RepKV.monoT {κ : Type} {T : List Addr} {G : GC} {w w' : Wd} (x : WX' T w w') (hT : Tok T w) : ∀ (d : List (κ × D)) (v : List (κ × V)), RepKV G w d v → RepKV G w' d v
  | [], v, h => h
  | d :: ds, v, h => by
    obtain ⟨y, r, e, h1, h2⟩ := h
    exact ⟨y, r, e, Rep.monoT x hT _ y h1, RepKV.monoT x hT ds r h2⟩
theorem RepKV.mono {κ : Type} {G : GC} {w w' : Wd} (x : WExt w w') (d : List (κ × D)) (v : List (κ × V)) (h : RepKV G w d v) : RepKV G w' d v := RepKV.monoT x noT d v h
theorem ERep.monoT {T : List Addr} {G : GC} {w w' : Wd} {env : EnvD} {σ : L2.St} (x : WX' T w w') (hT : Tok T w) (h : ERep G w env σ) : ERep G w' env σ :=
  ⟨h.len, fun i d e => let ⟨v, h1, h2⟩ := h.at' i d e; ⟨v, h1, Rep.monoT x hT d v h2⟩⟩
theorem ERep.mono {G : GC} {w w' : Wd} {env : EnvD} {σ : L2.St} (x : WExt w w') (h : ERep G w env σ) : ERep G w' env σ := ERep.monoT x noT h
theorem ERep.set {G : GC} {w : Wd} {env : EnvD} {σ : L2.St} {d : D} {v : V} (i : Nat) (h : ERep G w env σ) (r : Rep G w d v) : ERep G w (env.set i (some d)) (σ.set i (some v)) := by
  refine ⟨by simp [h.len], fun j d' e => ?_⟩
  by_cases hj : i = j
  · subst hj
    by_cases hi : i < env.length
    · rw [List.getElem?_set_self hi] at e
      cases e
      exact ⟨v, List.getElem?_set_self (by rw [← h.len]; exact hi), r⟩
    · rw [List.getElem?_eq_none (by simpa using hi)] at e
      cases e
  · rw [List.getElem?_set_ne hj] at e ⊢
    exact h.at' j d' e

/-- an exception in the air -/
def XRep (G : GC) (w : Wd) (e : Ex) (C : Value) (dx : Option Addr) : Prop :=
  (∃ Ca, G.mg e.cls = some (.ref Ca) ∧ C = .ref Ca) ∧ (e.fs = [] ∨ ∃ d kvs, dx = some d ∧ w.H d = some (.xd kvs) ∧ ¬ Mut w d ∧ RepKV G w e.fs kvs)

def Post {α β : Type} (G : GC) (w : Wd) (r : R α) (Ra : Wd → α → β → Prop) (Q : β → Hp → Prop) (E : Value → Option Addr → Hp → Prop) : Prop :=
  match r with
  | .ok d S' => ∀ v w', WExt w w' → w'.S = S' → SRep G w' → Ra w' d v → Q v w'.H
  | .exc e S' => ∀ C dx w', WExt w w' → w'.S = S' → SRep G w' → XRep G w' e C dx → E C dx w'.H
  | .bad => False
section
variable {α β γ δ : Type} {G : GC} {w w' : Wd} {r : R α} {Ra : Wd → α → β → Prop} {Rb : Wd → γ → δ → Prop} {Q Q' : β → Hp → Prop} {E E' : Value → Option Addr → Hp → Prop}
theorem Post.shift (x : WExt w w') (h : Post G w r Ra Q E) : Post G w' r Ra Q E := by
  cases r with
  | ok d S' => exact fun v w2 e hs sr rp => h v w2 (WX'.trans x e) hs sr rp
  | exc e S' => exact fun C dx w2 e hs sr rp => h C dx w2 (WX'.trans x e) hs sr rp
  | bad => exact h
theorem Post.mono (h : Post G w r Ra Q E) (hq : ∀ v H, Q v H → Q' v H) (he : ∀ C d H, E C d H → E' C d H) : Post G w r Ra Q' E' := by
  cases r with
  | ok d S' => exact fun v w2 e hs sr rp => hq _ _ (h v w2 e hs sr rp)
  | exc e S' => exact fun C dx w2 e hs sr rp => he _ _ _ (h C dx w2 e hs sr rp)
  | bad => exact h
/-- what a bind asks of its first part -/
def Mid {β : Type} (G : GC) (w : Wd) (Ra : Wd → α → β → Prop) (P : Wd → α → Prop) (x : β) (H1 : Hp) : Prop :=
  ∃ w1 d, w1.H = H1 ∧ WExt w w1 ∧ SRep G w1 ∧ Ra w1 d x ∧ P w1 d
theorem Post.bind {f : α → Store → R γ} {Q : δ → Hp → Prop} (h : Post G w (r.bind f) Rb Q E) :
    Post G w r Ra (Mid G w Ra fun w1 d => Post G w1 (f d w1.S) Rb Q E) E := by
  cases r with
  | ok d S' =>
    intro v w1 e hs sr rp
    refine ⟨w1, d, rfl, e, sr, rp, ?_⟩
    subst hs
    exact Post.shift e h
  | exc e S' => exact h
  | bad => exact h
theorem Post.ret {a : α} {b : β} (sr : SRep G w) (ra : Ra w a b) (h : Post G w (.ok a w.S) Ra Q E) : Q b w.H := h b w (.refl w) rfl sr ra
end

def tE (G : GC) (m : ED) (Wx : WX) : TE := fun σ H Q => ∃ w env, w.H = H ∧ SRep G w ∧ ERep G w env σ ∧ Post G w (m env w.S) (Rep G) Q (fun C dx H' => Wx C dx σ H')
def tT (G : GC) (m : TD) (Wx : WX) : TT := fun σ H Q => ∃ w env, w.H = H ∧ SRep G w ∧ ERep G w env σ ∧ Post G w (m env w.S) (fun _ a b => a = b) Q (fun C dx H' => Wx C dx σ H')
def tA (G : GC) (m : AD) (Wx : WX) : TA := fun σ H Q => ∃ w env, w.H = H ∧ SRep G w ∧ ERep G w env σ ∧ Post G w (m env w.S) (RepL G) Q (fun C dx H' => Wx C dx σ H')
def PostS (G : GC) (w : Wd) (r : SR) (D : Ends) (Wx : WX) : Prop :=
  match r with
  | .nx env' S' => ∀ σ' w', WExt w w' → w'.S = S' → SRep G w' → ERep G w' env' σ' → D.nx σ' w'.H
  | .ret d S' => ∀ v w', WExt w w' → w'.S = S' → SRep G w' → Rep G w' d v → D.rt v w'.H
  | .brk env' S' => ∀ σ' w', WExt w w' → w'.S = S' → SRep G w' → ERep G w' env' σ' → D.bk σ' w'.H
  | .ct env' S' => ∀ σ' w', WExt w w' → w'.S = S' → SRep G w' → ERep G w' env' σ' → D.ct σ' w'.H
  | .exc e env' S' => ∀ C dx σ' w', WExt w w' → w'.S = S' → SRep G w' → ERep G w' env' σ' → XRep G w' e C dx → Wx C dx σ' w'.H
  | .bad => False
def tS (G : GC) (m : SD) (Wx : WX) : TS := fun D σ H => ∃ w env, w.H = H ∧ SRep G w ∧ ERep G w env σ ∧ PostS G w (m env w.S) D Wx
theorem PostS.shift {G : GC} {w w' : Wd} {r : SR} {D : Ends} {Wx : WX} (x : WExt w w') (h : PostS G w r D Wx) : PostS G w' r D Wx := by
  cases r with
  | nx env S' => exact fun v w2 e hs sr rp => h v w2 (WX'.trans x e) hs sr rp
  | ret d S' => exact fun v w2 e hs sr rp => h v w2 (WX'.trans x e) hs sr rp
  | brk env S' => exact fun v w2 e hs sr rp => h v w2 (WX'.trans x e) hs sr rp
  | ct env S' => exact fun v w2 e hs sr rp => h v w2 (WX'.trans x e) hs sr rp
  | exc e env S' => exact fun C dx σ w2 e hs sr er rp => h C dx σ w2 (WX'.trans x e) hs sr er rp
  | bad => exact h
/-- an expression's result taken on by a statement -/
theorem PostS.ofR {α β : Type} {G : GC} {w : Wd} {r : R α} {Ra : Wd → α → β → Prop} {k : α → Store → SR} {D : Ends} {Wx : WX} {env : EnvD} {σ : L2.St} (er : ERep G w env σ) (h : PostS G w (r.toS env k) D Wx) :
    Post G w r Ra (Mid G w Ra fun w1 d => PostS G w1 (k d w1.S) D Wx) (fun C dx H' => Wx C dx σ H') := by
  cases r with
  | ok d S' =>
    intro v w1 e hs sr rp
    refine ⟨w1, d, rfl, e, sr, rp, ?_⟩
    subst hs
    exact PostS.shift e h
  | exc e S' => exact fun C dx w2 x hs sr rp => h C dx σ w2 x hs sr (er.mono x) rp
  | bad => exact h

/-! ### weaker readings -/
theorem peI {X : Cx} {e : Expr} {t t' : TE} (h : PE X e t) (i : ∀ σ H Q, t' σ H Q → t σ H Q) : PE X e t' := ⟨fun pins s σ H Q I q => h.run pins s σ H Q I (i _ _ _ q)⟩
theorem ptI {X : Cx} {e : Expr} {t t' : TT} (h : PT X e t) (i : ∀ σ H Q, t' σ H Q → t σ H Q) : PT X e t' := ⟨fun pins s σ H Q I q => h.run pins s σ H Q I (i _ _ _ q)⟩
theorem pwI {X : Cx} {e : Expr} {t t' : TT} (h : PW X e t) (i : ∀ σ H Q, t' σ H Q → t σ H Q) : PW X e t' := ⟨fun wh pins s σ H Q I q => h.run wh pins s σ H Q I (i _ _ _ q)⟩
theorem paI {X : Cx} {e : List Expr} {t t' : TA} (h : PA X e t) (i : ∀ σ H Q, t' σ H Q → t σ H Q) : PA X e t' := ⟨fun po pins s σ H Q I q => h.run po pins s σ H Q I (i _ _ _ q)⟩
theorem psI {X : Cx} {e : Stmt} {t t' : TS} (h : PS X e t) (i : ∀ D σ H, t' D σ H → t D σ H) : PS X e t' := ⟨fun pins s σ H D I q => h.run pins s σ H D I (i _ _ _ q)⟩
theorem pssI {X : Cx} {e : List Stmt} {t t' : TS} (h : PSs X e t) (i : ∀ D σ H, t' D σ H → t D σ H) : PSs X e t' := ⟨fun pins s σ H D I q => h.run pins s σ H D I (i _ _ _ q)⟩

abbrev WF : WX := fun _ _ _ _ => False

section
variable {G : GC} {X : Cx} {Wx : WX} {pos : Pos}
/-! ### expressions -/
theorem q_var {e : Expr} {i : Nat} (h : PE X e (tVar i)) : PE X e (tE G (eVar i) Wx) := peI h fun σ H Q q => by
  obtain ⟨w, env, rfl, sr, er, p⟩ := q
  unfold eVar at p
  cases hi : env[i]? with
  | none => rw [hi] at p; exact p.elim
  | some o =>
    cases o with
    | none => rw [hi] at p; exact p.elim
    | some d =>
      rw [hi] at p
      obtain ⟨v, e, r⟩ := er.at' i d hi
      exact ⟨v, e, Post.ret sr r p⟩
theorem q_const {e : Expr} {v : V} {d : D} (h : PE X e (tC v)) (r : ∀ w, Rep G w d v) : PE X e (tE G (eK d) Wx) := peI h fun σ H Q q => by
  obtain ⟨w, env, rfl, sr, er, p⟩ := q
  exact Post.ret sr (r w) p
theorem q_int {i j} : PE X (.Constant (.int i) j pos) (tE G (eK (.int i)) Wx) := q_const pe_int fun _ => by simp [Rep]
theorem q_bl {b j} : PE X (.Constant (.bool b) j pos) (tE G (eK (.bl b)) Wx) := q_const pe_bl fun _ => by simp [Rep]
theorem q_non {j} : PE X (.Constant .none j pos) (tE G (eK .non) Wx) := q_const pe_non fun _ => by simp [Rep]
theorem q_str {x j} : PE X (.Constant (.str x) j pos) (tE G (eK (.str x)) Wx) := q_const pe_str fun _ => by simp [Rep]

/-- an operation by values -/
def r2 (G : GC) (f : F2) : R2 := fun x y H Q => ∃ w d1 d2, w.H = H ∧ SRep G w ∧ Rep G w d1 x ∧ Rep G w d2 y ∧ Post G w (f d1 d2 w.S) (Rep G) Q (fun _ _ _ => False)
def r1 (G : GC) (f : F1) : V → Hp → VK → Prop := fun x H Q => ∃ w d1, w.H = H ∧ SRep G w ∧ Rep G w d1 x ∧ Post G w (f d1 w.S) (Rep G) Q (fun _ _ _ => False)
def rN (G : GC) (f : FN) : List V → Hp → VK → Prop := fun xs H Q => ∃ w ds, w.H = H ∧ SRep G w ∧ RepL G w ds xs ∧ Post G w (f ds w.S) (Rep G) Q (fun _ _ _ => False)
def rM (G : GC) (f : D → FN) : V → List V → Hp → VK → Prop := fun x xs H Q => ∃ w d ds, w.H = H ∧ SRep G w ∧ Rep G w d x ∧ RepL G w ds xs ∧ Post G w (f d ds w.S) (Rep G) Q (fun _ _ _ => False)
/-- no own exception comes of it -/
def R.calm {α : Type} : R α → Prop
  | .exc _ _ => False
  | _ => True
def Calm2 (f : F2) : Prop := ∀ x y S, (f x y S).calm
def Calm1 (f : F1) : Prop := ∀ x S, (f x S).calm
def CalmN (f : FN) : Prop := ∀ xs S, (f xs S).calm
def CalmM (f : D → FN) : Prop := ∀ x xs S, (f x xs S).calm
theorem Post.calm {α β : Type} {w : Wd} {r : R α} {Ra : Wd → α → β → Prop} {Q : β → Hp → Prop} {E E' : Value → Option Addr → Hp → Prop} (c : r.calm) (h : Post G w r Ra Q E) : Post G w r Ra Q E' := by
  cases r with
  | ok _ _ => exact h
  | exc _ _ => exact c.elim
  | bad => exact h

theorem imp_e2 {f : F2} {a b : ED} (c : Calm2 f) : ∀ σ H Q, tE G (e2 f a b) Wx σ H Q → tOp (r2 G f) (tE G a Wx) (tE G b Wx) σ H Q := by
  intro σ H Q q
  obtain ⟨w, env, rfl, sr, er, p⟩ := q
  refine ⟨w, env, rfl, sr, er, (Post.bind p).mono (fun x H1 m => ?_) fun _ _ _ h => h⟩
  obtain ⟨w1, d1, rfl, x1, s1, rp1, p1⟩ := m
  refine ⟨w1, env, rfl, s1, er.mono x1, (Post.bind p1).mono (fun y H2 m => ?_) fun _ _ _ h => h⟩
  obtain ⟨w2, d2, rfl, x2, s2, rp2, p2⟩ := m
  exact ⟨w2, d1, d2, rfl, s2, Rep.mono x2 _ _ rp1, rp2, p2.calm (c _ _ _)⟩
theorem q_op {op : Operator} {f : F2} {a b : Expr} {ma mb : ED} (ho : OpR X (binaryOp op) (r2 G f)) (c : Calm2 f) (ha : PE X a (tE G ma Wx)) (hb : PE X b (tE G mb Wx)) : PE X (.BinOp a op b pos) (tE G (e2 f ma mb) Wx) :=
  peI (pe_op ho ha hb) (imp_e2 c)
theorem q_cmp {op : CmpOp} {f : F2} {a b : Expr} {ma mb : ED} (ho : OpR X (compareOp op) (r2 G f)) (c : Calm2 f) (ha : PE X a (tE G ma Wx)) (hb : PE X b (tE G mb Wx)) (hm : behindInMarks op b = false) : PE X (.Compare a [op] [b] pos) (tE G (e2 f ma mb) Wx) :=
  peI (pe_cmpR ho ha hb hm) (imp_e2 c)
theorem q_ix {f : F2} {a b : Expr} {ma mb : ED} (ho : IxR X (r2 G f)) (c : Calm2 f) (ha : PE X a (tE G ma Wx)) (hb : PE X b (tE G mb Wx)) (hs : PlainIx b) : PE X (.Subscript a b pos) (tE G (e2 f ma mb) Wx) :=
  peI (pe_ix ho ha hb hs) (imp_e2 c)
theorem q_un {op : UnaryOp} {f : F1} {a : Expr} {ma : ED} (ho : UnR X (unaryOp op) (r1 G f)) (c : Calm1 f) (ha : PE X a (tE G ma Wx)) : PE X (.UnaryOp op a pos) (tE G (e1 f ma) Wx) :=
  peI (pe_un ho ha) fun σ H Q q => by
    obtain ⟨w, env, rfl, sr, er, p⟩ := q
    refine ⟨w, env, rfl, sr, er, (Post.bind p).mono (fun x H1 m => ?_) fun _ _ _ h => h⟩
    obtain ⟨w1, d1, rfl, x1, s1, rp1, p1⟩ := m
    exact ⟨w1, d1, rfl, s1, rp1, p1.calm (c _ _)⟩
/-! ### argument lists, displays, built-ins -/
theorem q_nil : PA X [] (tA G aNil Wx) := paI pa_nil fun σ H Q q => by
  obtain ⟨w, env, rfl, sr, er, p⟩ := q
  exact Post.ret (Ra := RepL G) sr (by simp [RepL]) p
theorem q_cons {e : Expr} {es : List Expr} {m : ED} {ms : AD} (ha : PE X e (tE G m Wx)) (hr : PA X es (tA G ms Wx)) (hs : starEach (e :: es) X.env = (false, eval e X.env) :: starEach es X.env := by rfl) : PA X (e :: es) (tA G (aCons m ms) Wx) :=
  paI (pa_cons ha hr hs) fun σ H Q q => by
    obtain ⟨w, env, rfl, sr, er, p⟩ := q
    refine ⟨w, env, rfl, sr, er, (Post.bind p).mono (fun x H1 m => ?_) fun _ _ _ h => h⟩
    obtain ⟨w1, d1, rfl, x1, s1, rp1, p1⟩ := m
    refine ⟨w1, env, rfl, s1, er.mono x1, (Post.bind p1).mono (fun y H2 m => ?_) fun _ _ _ h => h⟩
    obtain ⟨w2, d2, rfl, x2, s2, rp2, p2⟩ := m
    exact Post.ret (Ra := RepL G) (a := d1 :: d2) s2 (by simp only [RepL]; exact ⟨x, y, rfl, Rep.mono x2 _ _ rp1, rp2⟩) p2
theorem imp_eN {f : FN} {a : AD} (c : CalmN f) : ∀ σ H Q, tE G (eN f a) Wx σ H Q → tCB (rN G f) (tA G a Wx) σ H Q := by
  intro σ H Q q
  obtain ⟨w, env, rfl, sr, er, p⟩ := q
  refine ⟨w, env, rfl, sr, er, (Post.bind p).mono (fun x H1 m => ?_) fun _ _ _ h => h⟩
  obtain ⟨w1, d1, rfl, x1, s1, rp1, p1⟩ := m
  exact ⟨w1, d1, rfl, s1, rp1, p1.calm (c _ _)⟩
theorem q_callB {id : String} {x : Str} {p : Pos} {f : FN} {e : Expr} {es : List Expr} {m : AD} (hc : CallR X (.builtin id) (rN G f)) (c : CalmN f) (hg : Gl X x) (hm : X.mg x = none) (hv : bootBuiltins x = some (.builtin id)) (ha : PA X (e :: es) (tA G m Wx)) (hn : x ≠ "__name__" := by decide) (hdb : (x == ("__debug__" : Str)) = false := by decide)
    (he : starEach (e :: es) X.env = (false, eval e X.env) :: starEach es X.env := by rfl) (hpl : (backTo pos (starEach es X.env)).any (·.1) = false := by rfl) : PE X (.Call (.Name x p) (e :: es) [] pos) (tE G (eN f m) Wx) :=
  peI (pe_callB hc hg hm hv ha hn hdb he hpl) (imp_eN c)
theorem q_callTy {T : String} {x : Str} {p : Pos} {f : FN} {e : Expr} {es : List Expr} {m : AD} (hc : CallR X (.type T) (rN G f)) (c : CalmN f) (hg : Gl X x) (hm : X.mg x = none) (hv : bootBuiltins x = some (.type T)) (ha : PA X (e :: es) (tA G m Wx)) (hn : x ≠ "__name__" := by decide) (hdb : (x == ("__debug__" : Str)) = false := by decide)
    (he : starEach (e :: es) X.env = (false, eval e X.env) :: starEach es X.env := by rfl) (hpl : (backTo pos (starEach es X.env)).any (·.1) = false := by rfl) : PE X (.Call (.Name x p) (e :: es) [] pos) (tE G (eN f m) Wx) :=
  peI (pe_callTy hc hg hm hv ha hn hdb he hpl) (imp_eN c)
end
end L3
set_option Elab.async false
set_option linter.all false
set_option maxRecDepth 100000
/-! L3C: worlds that change; statements, loops, comprehensions. -/
namespace L3
open PySem PySem.Spec PyProof.Rows L2

section
variable {G : GC} {w : Wd} {p : Addr} {o : HO}
theorem RepL.length : ∀ {ds : List D} {vs : List V}, RepL G w ds vs → vs.length = ds.length
  | [], vs, h => by simp only [RepL] at h; subst h; rfl
  | d :: ds, vs, h => by
    simp only [RepL] at h
    obtain ⟨v, r, rfl, _, h2⟩ := h
    simp [RepL.length h2]
theorem RepL.get : ∀ {ds : List D} {vs : List V} {i : Nat} {d : D}, RepL G w ds vs → ds[i]? = some d → ∃ v, vs[i]? = some v ∧ Rep G w d v
  | [], _, _, _, _, e => by simp at e
  | d :: ds, vs, 0, d', h, e => by
    simp only [RepL] at h
    obtain ⟨v, r, rfl, h1, h2⟩ := h
    simp at e; subst e
    exact ⟨v, rfl, h1⟩
  | d :: ds, vs, i + 1, d', h, e => by
    simp only [RepL] at h
    obtain ⟨v, r, rfl, h1, h2⟩ := h
    obtain ⟨u, q1, q2⟩ := RepL.get (i := i) (d := d') h2 (by simpa using e)
    exact ⟨u, by simpa using q1, q2⟩
theorem RepL.append : ∀ {ds ds' : List D} {vs vs' : List V}, RepL G w ds vs → RepL G w ds' vs' → RepL G w (ds ++ ds') (vs ++ vs')
  | [], _, _, _, h, h' => by simp only [RepL] at h; subst h; exact h'
  | d :: ds, ds', vs, vs', h, h' => by
    simp only [RepL] at h
    obtain ⟨v, r, rfl, h1, h2⟩ := h
    show RepL G w (d :: (ds ++ ds')) (v :: (r ++ vs'))
    simp only [RepL]
    exact ⟨v, r ++ vs', rfl, h1, RepL.append h2 h'⟩
theorem RepL.one {d : D} {v : V} (h : Rep G w d v) : RepL G w [d] [v] := by
  simp only [RepL]; exact ⟨v, [], rfl, h, rfl⟩
theorem RepL.take : ∀ {ds : List D} {vs : List V} (n : Nat), RepL G w ds vs → RepL G w (ds.take n) (vs.take n)
  | _, _, 0, _ => by simp [RepL]
  | [], vs, n + 1, h => by simp only [RepL] at h; subst h; simp [RepL]
  | d :: ds, vs, n + 1, h => by
    simp only [RepL] at h
    obtain ⟨v, r, rfl, h1, h2⟩ := h
    simp only [List.take_succ_cons, RepL]
    exact ⟨v, _, rfl, h1, RepL.take n h2⟩
theorem RepL.drop : ∀ {ds : List D} {vs : List V} (n : Nat), RepL G w ds vs → RepL G w (ds.drop n) (vs.drop n)
  | _, _, 0, h => h
  | [], vs, n + 1, h => by simp only [RepL] at h; subst h; simp [RepL]
  | d :: ds, vs, n + 1, h => by
    simp only [RepL] at h
    obtain ⟨v, r, rfl, h1, h2⟩ := h
    simp only [List.drop_succ_cons]
    exact RepL.drop n h2
theorem RepL.set : ∀ {ds : List D} {vs : List V} (n : Nat) {d : D} {v : V}, RepL G w ds vs → Rep G w d v → RepL G w (ds.set n d) (vs.set n v)
  | [], vs, n, d, v, h, h' => by simp only [RepL] at h; subst h; simp [RepL]
  | d :: ds, vs, 0, d', v', h, h' => by
    simp only [RepL] at h
    obtain ⟨v, r, rfl, h1, h2⟩ := h
    simp only [List.set_cons_zero, RepL]
    exact ⟨_, _, rfl, h', h2⟩
  | d :: ds, vs, n + 1, d', v', h, h' => by
    simp only [RepL] at h
    obtain ⟨v, r, rfl, h1, h2⟩ := h
    simp only [List.set_cons_succ, RepL]
    exact ⟨_, _, rfl, h1, RepL.set n h2 h'⟩

theorem ORep.there {a : Addr} {ob : O} (h : ORep G w a ob) (lv : ob.live) : ∃ u, w.H a = some u := by
  cases ob with
  | lst l => obtain ⟨vs, e, _⟩ := h; exact ⟨_, e⟩
  | dK l => obtain ⟨vs, e, _⟩ := h; exact ⟨_, e⟩
  | dT l => obtain ⟨vs, e, _⟩ := h; exact ⟨_, e⟩
  | ins c l => obtain ⟨_, _, _, e, _⟩ := h; exact ⟨_, e⟩
  | dead => exact lv.elim
theorem MutS.there {a : Addr} (sr : SRep G w) (m : MutS w a) : ∃ u, w.H a = some u := by
  obtain ⟨n, ob, h1, lv, h2⟩ := m
  exact (sr.obj n ob a h1 h2).there lv
theorem ORep.keep {T : List Addr} {w' : Wd} {a : Addr} {ob : O} (x : WX' T w w') (hT : Tok T w) (h : ORep G w a ob) (e : ob.live → w'.H a = w.H a) : ORep G w' a ob := by
  cases ob with
  | lst l => obtain ⟨vs, h1, h2⟩ := h; exact ⟨vs, (e trivial).trans h1, RepL.monoT x hT _ _ h2⟩
  | dK l => obtain ⟨vs, h1, h2⟩ := h; exact ⟨vs, (e trivial).trans h1, RepKV.monoT x hT _ _ h2⟩
  | dT l => obtain ⟨vs, h1, h2⟩ := h; exact ⟨vs, (e trivial).trans h1, RepKV.monoT x hT _ _ h2⟩
  | ins c l => obtain ⟨C, dx, vs, h1, h2, h3⟩ := h; exact ⟨C, dx, vs, (e trivial).trans h1, RepKV.monoT x hT _ _ h2, h3⟩
  | dead => trivial

abbrev Wd.put (w : Wd) (p : Addr) (o : HO) : Wd := { w with H := upd w.H p o }
/-- a new object that the store does not hold -/
theorem new_ext (sr : SRep G w) (hp : w.H p = none) : WExt w (w.put p o) ∧ SRep G (w.put p o) ∧ ¬ Mut (w.put p o) p := by
  have x : WExt w (w.put p o) := ⟨fun _ _ h => h, fun a u h nm _ => ⟨(upd_ne (ne_of_none h hp)).trans h, nm⟩, fun _ h => .inl h, fun _ h => h⟩
  refine ⟨x, ⟨sr.len, sr.inj, fun n ob a h1 h2 => ?_, fun a ha => ?_⟩, fun m => m.elim (fun m => ?_) fun m => ?_⟩
  · have h := sr.obj n ob a h1 h2
    refine h.keep x noT fun lv => ?_
    obtain ⟨u, e⟩ := h.there lv
    exact upd_ne (ne_of_none e hp)
  · obtain ⟨⟨u, e⟩, nm⟩ := sr.tm a ha
    exact ⟨⟨u, (upd_ne (ne_of_none e hp)).trans e⟩, nm⟩
  · obtain ⟨u, e⟩ := MutS.there sr (show MutS w p from m)
    rw [hp] at e; cases e
  · obtain ⟨⟨u, e⟩, _⟩ := sr.tm p m
    rw [hp] at e; cases e
/-- a new object that the store holds -/
theorem new_obj {ob : O} (sr : SRep G w) (hp : w.H p = none) (hor : ∀ w', WExt w w' → w'.H p = some o → ORep G w' p ob) :
    WExt w ⟨w.mu ++ [p], w.S ++ [ob], upd w.H p o, w.tmp⟩ ∧ SRep G ⟨w.mu ++ [p], w.S ++ [ob], upd w.H p o, w.tmp⟩ := by
  have nmS : ∀ a u, w.H a = some u → ¬ MutS w a → ¬ MutS ⟨w.mu ++ [p], w.S ++ [ob], upd w.H p o, w.tmp⟩ a := fun a u h nm m => by
    obtain ⟨n, o', h1, lv, h2⟩ := m
    by_cases hn : n < w.S.length
    · refine nm ⟨n, o', ?_, lv, ?_⟩
      · simpa [List.getElem?_append_left hn] using h1
      · have : n < w.mu.length := by rw [sr.len]; exact hn
        simpa [List.getElem?_append_left this] using h2
    · have e : n = w.S.length := by
        have := (List.getElem?_eq_some_iff.mp h1).1
        simp at this; omega
      subst e
      have : (w.mu ++ [p])[w.mu.length]? = some p := by simp
      rw [← sr.len] at h2
      have e2 : p = a := Option.some.inj (this.symm.trans h2)
      rw [e2, h] at hp; cases hp
  have x : WExt w ⟨w.mu ++ [p], w.S ++ [ob], upd w.H p o, w.tmp⟩ :=
    ⟨fun n a h => by
        have hl := (List.getElem?_eq_some_iff.mp h).1
        show (w.mu ++ [p])[n]? = some a
        rw [List.getElem?_append_left hl]; exact h,
      fun a u h nm _ => ⟨(upd_ne (ne_of_none h hp)).trans h, nmS a u h nm⟩, fun _ h => .inl h, fun _ h => h⟩
  have split : ∀ (n : Nat) (o' : O), (w.S ++ [ob])[n]? = some o' → w.S[n]? = some o' ∨ (n = w.S.length ∧ o' = ob) := fun n o' h => by
    by_cases hn : n < w.S.length
    · rw [List.getElem?_append_left hn] at h; exact .inl h
    · have e : n = w.S.length := by
        have := (List.getElem?_eq_some_iff.mp h).1
        simp at this; omega
      subst e; simp at h; exact .inr ⟨rfl, h.symm⟩
  have mul : ∀ (n : Nat) (a : Addr), n < w.S.length → (w.mu ++ [p])[n]? = some a → w.mu[n]? = some a := fun n a hn h => by
    have : n < w.mu.length := by rw [sr.len]; exact hn
    rw [List.getElem?_append_left this] at h; exact h
  have mur : ∀ (a : Addr), (w.mu ++ [p])[w.S.length]? = some a → a = p := fun a h => by
    rw [← sr.len] at h; simp at h; exact h.symm
  have old : ∀ (n : Nat) (o' : O) (a : Addr), w.S[n]? = some o' → o'.live → (w.mu ++ [p])[n]? = some a → a ≠ p := fun n o' a h lv hm e => by
    have hn := (List.getElem?_eq_some_iff.mp h).1
    obtain ⟨u, q⟩ := (sr.obj n o' a h (mul n a hn hm)).there lv
    rw [e, hp] at q; cases q
  refine ⟨x, ⟨by simp [sr.len], fun n m a o1 o2 h1 h2 l1 l2 m1 m2 => ?_, fun n o' a h1 h2 => ?_, fun a ha => ?_⟩⟩
  · rcases split n o1 h1 with q1 | ⟨e1, q1⟩ <;> rcases split m o2 h2 with q2 | ⟨e2, q2⟩
    · exact sr.inj n m a o1 o2 q1 q2 l1 l2 (mul n a (List.getElem?_eq_some_iff.mp q1).1 m1) (mul m a (List.getElem?_eq_some_iff.mp q2).1 m2)
    · subst e2; exact absurd (mur a m2) (old n o1 a q1 l1 m1)
    · subst e1; exact absurd (mur a m1) (old m o2 a q2 l2 m2)
    · rw [e1, e2]
  · rcases split n o' h1 with q1 | ⟨e1, q1⟩
    · have hn := (List.getElem?_eq_some_iff.mp q1).1
      have h := sr.obj n o' a q1 (mul n a hn h2)
      refine h.keep x noT fun lv => ?_
      obtain ⟨u, e⟩ := h.there lv
      exact upd_ne (ne_of_none e hp)
    · subst e1 q1
      have e : a = p := mur a h2
      subst e
      exact hor _ x upd_same
  · obtain ⟨⟨u, e⟩, nm⟩ := sr.tm a ha
    exact ⟨⟨u, (upd_ne (ne_of_none e hp)).trans e⟩, nmS a u e nm⟩
/-- an object of the store changes -/
theorem set_obj {n : Nat} {a : Addr} {ob ob' : O} (sr : SRep G w) (hn : w.S[n]? = some ob) (lv : ob.live) (ha : w.mu[n]? = some a) (hor : ∀ w', WExt w w' → w'.H a = some o → ORep G w' a ob') :
    WExt w ⟨w.mu, w.S.set n ob', upd w.H a o, w.tmp⟩ ∧ SRep G ⟨w.mu, w.S.set n ob', upd w.H a o, w.tmp⟩ := by
  have hl := (List.getElem?_eq_some_iff.mp hn).1
  have back : ∀ (m : Nat) (o' : O), (w.S.set n ob')[m]? = some o' → (m = n ∧ o' = ob') ∨ (m ≠ n ∧ w.S[m]? = some o') := fun m o' h => by
    by_cases e : n = m
    · subst e; rw [List.getElem?_set_self hl] at h; exact .inl ⟨rfl, (Option.some.inj h).symm⟩
    · rw [List.getElem?_set_ne e] at h; exact .inr ⟨fun z => e z.symm, h⟩
  have mb : ∀ b, MutS ⟨w.mu, w.S.set n ob', upd w.H a o, w.tmp⟩ b → MutS w b := fun b ⟨m, o', h1, l1, h2⟩ => by
    rcases back m o' h1 with ⟨e, _⟩ | ⟨_, q⟩
    · subst e; exact ⟨m, ob, hn, lv, h2⟩
    · exact ⟨m, o', q, l1, h2⟩
  have nA : ∀ b, ¬ MutS w b → b ≠ a := fun b nm e => nm (by subst e; exact ⟨n, ob, hn, lv, ha⟩)
  have x : WExt w ⟨w.mu, w.S.set n ob', upd w.H a o, w.tmp⟩ := ⟨fun _ _ h => h, fun b u h nm _ => ⟨(upd_ne (nA b nm)).trans h, fun m => nm (mb b m)⟩, fun _ h => .inl h, fun _ h => h⟩
  have lvOf : ∀ (m : Nat) (o' : O), (w.S.set n ob')[m]? = some o' → o'.live → ∃ o2, w.S[m]? = some o2 ∧ o2.live := fun m o' h l => by
    rcases back m o' h with ⟨e, _⟩ | ⟨_, q⟩
    · subst e; exact ⟨ob, hn, lv⟩
    · exact ⟨o', q, l⟩
  refine ⟨x, ⟨by simp [sr.len], fun i j b o1 o2 h1 h2 l1 l2 m1 m2 => ?_, fun m o' b h1 h2 => ?_, fun b hb => ?_⟩⟩
  · obtain ⟨p1, q1, r1⟩ := lvOf i o1 h1 l1
    obtain ⟨p2, q2, r2⟩ := lvOf j o2 h2 l2
    exact sr.inj i j b p1 p2 q1 q2 r1 r2 m1 m2
  · rcases back m o' h1 with ⟨e, e2⟩ | ⟨ne, q⟩
    · subst e e2
      have e3 : b = a := Option.some.inj (h2.symm.trans ha)
      subst e3
      exact hor _ x upd_same
    · have h := sr.obj m o' b q h2
      refine h.keep x noT fun l => upd_ne fun e => ne ?_
      subst e
      exact sr.inj m n _ o' ob q hn l lv h2 ha
  · obtain ⟨⟨u, e⟩, nm⟩ := sr.tm b hb
    exact ⟨⟨u, (upd_ne (nA b nm)).trans e⟩, fun m => nm (mb b m)⟩
end
end L3
set_option Elab.async false
set_option linter.all false
set_option maxRecDepth 100000
/-! L3D: statements, loops. -/
namespace L3
open PySem PySem.Spec PyProof.Rows L2

section
variable {G : GC} {X : Cx} {Wx : WX} {pos : Pos}
/-! ### tests -/
theorem q_val {e : Expr} {m : ED} (h : PE X e (tE G m Wx)) (he : ∀ whole, isTrue e X.env whole = (do let v ← whole; standAt e.pos; holding [v] (truthy v)) := by intro _; rfl) : PT X e (tT G (tOfE m) Wx) := ptI (pt_val h he) fun σ H Q q => by
  obtain ⟨w, env, rfl, sr, er, p⟩ := q
  refine ⟨w, env, rfl, sr, er, (Post.bind p).mono (fun x H1 m => ?_) fun _ _ _ h => h⟩
  obtain ⟨w1, d1, rfl, x1, s1, rp1, p1⟩ := m
  cases d1 with
  | bl k =>
    simp only [Rep] at rp1; subst rp1
    exact ⟨k, rfl, Post.ret (Ra := fun _ (a b : Bool) => a = b) s1 rfl p1⟩
  | _ => exact p1.elim
theorem q_tnot {c : Expr} {m : TD} (h : PT X c (tT G m Wx)) : PT X (.UnaryOp .Not c pos) (tT G (tNot m) Wx) := ptI (pt_not h) fun σ H Q q => by
  obtain ⟨w, env, rfl, sr, er, p⟩ := q
  refine ⟨w, env, rfl, sr, er, (Post.bind (Ra := fun _ (a b : Bool) => a = b) p).mono (fun x H1 m => ?_) fun _ _ _ h => h⟩
  obtain ⟨w1, d1, rfl, x1, s1, rp1, p1⟩ := m
  subst rp1
  exact Post.ret (Ra := fun _ (a b : Bool) => a = b) s1 rfl p1
theorem imp_and {a b : TD} : ∀ σ H Q, tT G (tAnd a b) Wx σ H Q → L2.tAnd (tT G a Wx) (tT G b Wx) σ H Q := by
  intro σ H Q q
  obtain ⟨w, env, rfl, sr, er, p⟩ := q
  refine ⟨w, env, rfl, sr, er, (Post.bind (Ra := fun _ (a b : Bool) => a = b) p).mono (fun x H1 m => ?_) fun _ _ _ h => h⟩
  obtain ⟨w1, d1, rfl, x1, s1, rp1, p1⟩ := m
  subst rp1
  cases d1 with
  | true => exact iteT ⟨w1, env, rfl, s1, er.mono x1, p1⟩
  | false => exact iteF (Post.ret (Ra := fun _ (a b : Bool) => a = b) s1 rfl p1)
theorem imp_or {a b : TD} : ∀ σ H Q, tT G (tOr a b) Wx σ H Q → L2.tOr (tT G a Wx) (tT G b Wx) σ H Q := by
  intro σ H Q q
  obtain ⟨w, env, rfl, sr, er, p⟩ := q
  refine ⟨w, env, rfl, sr, er, (Post.bind (Ra := fun _ (a b : Bool) => a = b) p).mono (fun x H1 m => ?_) fun _ _ _ h => h⟩
  obtain ⟨w1, d1, rfl, x1, s1, rp1, p1⟩ := m
  subst rp1
  cases d1 with
  | true => exact iteT (Post.ret (Ra := fun _ (a b : Bool) => a = b) s1 rfl p1)
  | false => exact iteF ⟨w1, env, rfl, s1, er.mono x1, p1⟩

/-! ### small statements -/
theorem q_pass : PS X (.Pass pos) (tS G sSkip Wx) := psI ps_pass fun D σ H q => by
  obtain ⟨w, env, rfl, sr, er, p⟩ := q
  exact p σ w (.refl w) rfl sr er
theorem q_break : PS X (.Break pos) (tS G sBrk Wx) := psI ps_break fun D σ H q => by
  obtain ⟨w, env, rfl, sr, er, p⟩ := q
  exact p σ w (.refl w) rfl sr er
theorem q_cont : PS X (.Continue pos) (tS G sCt Wx) := psI ps_continue fun D σ H q => by
  obtain ⟨w, env, rfl, sr, er, p⟩ := q
  exact p σ w (.refl w) rfl sr er
theorem q_expr {e : Expr} {m : ED} (h : PE X e (tE G m Wx)) (hs : swapsWith e none pos.line X.env = pure false := by rfl) : PS X (.Expr e pos) (tS G (sExpr m) Wx) := psI (ps_expr h hs) fun D σ H q => by
  obtain ⟨w, env, rfl, sr, er, p⟩ := q
  refine ⟨w, env, rfl, sr, er, (PostS.ofR (Ra := Rep G) er p).mono (fun x H1 m => ?_) fun _ _ _ h => h⟩
  obtain ⟨w1, d1, rfl, x1, s1, rp1, p1⟩ := m
  exact p1 σ w1 (.refl w1) rfl s1 (er.mono x1)
theorem q_ret {e : Expr} {m : ED} (h : PE X e (tE G m Wx)) : PS X (.Return (some e) pos) (tS G (sRet m) Wx) := psI (ps_ret h) fun D σ H q => by
  obtain ⟨w, env, rfl, sr, er, p⟩ := q
  refine ⟨w, env, rfl, sr, er, (PostS.ofR (Ra := Rep G) er p).mono (fun x H1 m => ?_) fun _ _ _ h => h⟩
  obtain ⟨w1, d1, rfl, x1, s1, rp1, p1⟩ := m
  exact p1 x w1 (.refl w1) rfl s1 rp1
theorem q_retN : PS X (.Return none pos) (tS G (sRet (eK .non)) Wx) := psI ps_retN fun D σ H q => by
  obtain ⟨w, env, rfl, sr, er, p⟩ := q
  exact p _ w (.refl w) rfl sr (by simp [Rep])
theorem q_if {c : Expr} {a b : List Stmt} {mc : TD} {ma mb : SD} (hc : PT X c (tT G mc Wx)) (ha : PSs X a (tS G ma Wx)) (hb : PSs X b (tS G mb Wx)) : PS X (.If c a b pos) (tS G (sIf mc ma mb) Wx) := psI (ps_if hc ha hb) fun D σ H q => by
  obtain ⟨w, env, rfl, sr, er, p⟩ := q
  refine ⟨w, env, rfl, sr, er, (PostS.ofR (Ra := fun _ (a b : Bool) => a = b) er p).mono (fun x H1 m => ?_) fun _ _ _ h => h⟩
  obtain ⟨w1, d1, rfl, x1, s1, rp1, p1⟩ := m
  subst rp1
  cases d1 with
  | true => exact iteT ⟨w1, env, rfl, s1, er.mono x1, p1⟩
  | false => exact iteF ⟨w1, env, rfl, s1, er.mono x1, p1⟩
theorem q_snil : PSs X [] (tS G sSkip Wx) := pssI pss_nil fun D σ H q => by
  obtain ⟨w, env, rfl, sr, er, p⟩ := q
  exact p σ w (.refl w) rfl sr er
theorem q_scons {st : Stmt} {rest : List Stmt} {a b : SD} (h1 : PS X st (tS G a Wx)) (h2 : PSs X rest (tS G b Wx)) : PSs X (st :: rest) (tS G (sSeq a b) Wx) := pssI (pss_cons h1 h2) fun D σ H q => by
  obtain ⟨w, env, rfl, sr, er, p⟩ := q
  refine ⟨w, env, rfl, sr, er, ?_⟩
  unfold sSeq at p
  cases h : a env w.S with
  | nx env1 S1 =>
    rw [h] at p
    intro σ' w' e hs s' er'
    subst hs
    exact ⟨w', env1, rfl, s', er', PostS.shift e p⟩
  | ret d S1 => rw [h] at p; exact p
  | brk env1 S1 => rw [h] at p; exact p
  | ct env1 S1 => rw [h] at p; exact p
  | exc e env1 S1 => rw [h] at p; exact p
  | bad => rw [h] at p; exact p.elim
theorem q_sone {st : Stmt} {a : SD} (h1 : PS X st (tS G a Wx)) : PSs X [st] (tS G a Wx) := pss_one h1

/-! ### targets -/
def tG (G : GC) (g : GD) : TG := fun v σ H Q => ∃ w env d, w.H = H ∧ SRep G w ∧ ERep G w env σ ∧ Rep G w d v ∧
  match g d env w.S with
  | .nx env' S' => ∀ σ' w', WExt w w' → w'.S = S' → SRep G w' → ERep G w' env' σ' → Q σ' w'.H
  | _ => False
theorem pgI {e : Expr} {t t' : TG} (h : PG X e t) (i : ∀ v σ H Q, t' v σ H Q → t v σ H Q) : PG X e t' := ⟨fun pins s σ H v u Q I r q => h.run pins s σ H v u Q I r (i _ _ _ _ q)⟩
theorem q_gname {e : Expr} {i : Nat} (h : PG X e (L2.gName i)) : PG X e (tG G (gName i)) := pgI h fun v σ H Q q => by
  obtain ⟨w, env, d, rfl, sr, er, rp, p⟩ := q
  exact p _ w (.refl w) rfl sr (er.set i rp)
/-- a target stores, or the way is not told -/
def GOk (g : GD) : Prop := ∀ d env S, (∃ env' S', g d env S = .nx env' S') ∨ g d env S = .bad
theorem q_asg {tg e : Expr} {m : ED} {g : GD} (he : PE X e (tE G m Wx)) (hg : PG X tg (tG G g)) (hs : swapsWithSole [tg] e pos.line X.env = pure false := by rfl) (hw : swappedStores [tg] e X.env = pure none := by rfl)
    (h1 : (assignEach [tg] X.env).map (·.2) = [assign tg X.env] := by rfl) (gn : GOk g) : PS X (.Assign [tg] e pos) (tS G (sAsg m g) Wx) := psI (ps_asg he hg hs hw h1) fun D σ H q => by
  obtain ⟨w, env, rfl, sr, er, p⟩ := q
  refine ⟨w, env, rfl, sr, er, (PostS.ofR (Ra := Rep G) er p).mono (fun x H1 m => ?_) fun _ _ _ h => h⟩
  obtain ⟨w1, d1, rfl, x1, s1, rp1, p1⟩ := m
  refine ⟨w1, env, d1, rfl, s1, er.mono x1, rp1, ?_⟩
  rcases gn d1 env w1.S with ⟨env', S', h⟩ | h
  · rw [h] at p1 ⊢; exact p1
  · rw [h] at p1; exact p1.elim
theorem q_set {i : Nat} {x : Str} {e : Expr} {m : ED} {pos' : Pos} (hN : X.N.Nodup) (hi : X.N[i]? = some x) (hx : Loc X.env.scope x) (he : PE X e (tE G m Wx)) (hs : swapsWith e (some (.Name x pos')) pos.line X.env = pure false := by rfl) (hf : X.fn x = true ∨ X.env.scope.names.lookup x = some .local := by first | exact .inl rfl | exact .inr rfl | assumption) :
    PS X (.Assign [.Name x pos'] e pos) (tS G (sAsg m (gName i)) Wx) := psI (ps_set hN hi hx he hs hf) fun D σ H q => by
  obtain ⟨w, env, rfl, sr, er, p⟩ := q
  refine ⟨w, env, rfl, sr, er, (PostS.ofR (Ra := Rep G) er p).mono (fun x H1 m => ?_) fun _ _ _ h => h⟩
  obtain ⟨w1, d1, rfl, x1, s1, rp1, p1⟩ := m
  exact p1 _ w1 (.refl w1) rfl s1 ((er.mono x1).set i rp1)

/-! ### what a loop walks -/
structure ItOk (G : GC) (w : Wd) (J : It) (xs : List D) : Prop where
  go : ∀ (T : List Addr) w', Tok T w → WX' T w w' → SRep G w' → ∀ (i : Nat) (d : D), xs[i]? = some d → J.go i w'.H ∧ ∀ x H'', J.yld i w'.H x H'' → ∃ w'', w''.H = H'' ∧ WExt w' w'' ∧ w''.S = w'.S ∧ SRep G w'' ∧ Rep G w'' d x
  stop : ∀ (T : List Addr) w', Tok T w → WX' T w w' → SRep G w' → J.stop xs.length w'.H
/-- an iterable: what it gives -/
abbrev ID := EnvD → Store → R (List D)
def tI (G : GC) (m : ID) (Wx : WX) : TI := fun σ H Rr => ∃ w env, w.H = H ∧ SRep G w ∧ ERep G w env σ ∧ Post G w (m env w.S) (fun w' xs (J : It) => ItOk G w' J xs) Rr (fun C dx H' => Wx C dx σ H')
end
end L3
set_option Elab.async false
set_option linter.all false
set_option maxRecDepth 100000
/-! L3E: what is walked; for, while, comprehensions. -/
namespace L3
open PySem PySem.Spec PyProof.Rows L2

/-- one sign -/
def sgn (c : Nat) : D := .str ⟨#[c]⟩
def itemsD (x : D) (S : Store) : R (List D) := match x with
  | .tup l => .ok l S
  | .lst l => .ok l S
  | .str s => .ok (s.cps.toList.map sgn) S
  | .scr ns => .ok (ns.map .int) S
  | _ => .bad
def iSeq (a : ED) : ID := fun env S => (a env S).bind fun x S1 => itemsD x S1
def rangeD (lo hi : Int) : List D := (List.range (hi - lo).toNat).map fun i => .int (lo + (i : Nat))
def okRng (i : Int) : Bool := decide (-(2 ^ 62) ≤ i ∧ i < 2 ^ 62)
def range1 : List D → Store → R (List D) := fun xs S => match xs with
  | [.int j] => if okRng j then .ok (rangeD 0 j) S else .bad
  | _ => .bad
def range2 : List D → Store → R (List D) := fun xs S => match xs with
  | [.int i, .int j] => if okRng i && okRng j then .ok (rangeD i j) S else .bad
  | _ => .bad
def iArgs (f : List D → Store → R (List D)) (a : AD) : ID := fun env S => (a env S).bind fun xs S1 => f xs S1

theorem piI {X : Cx} {tg e : Expr} {t t' : TI} (h : PI X tg e t) (i : ∀ σ H R, t' σ H R → t σ H R) : PI X tg e t' := ⟨fun pins s σ H R I q => h.run pins s σ H R I (i _ _ _ q)⟩

section
variable {G : GC} {X : Cx} {Wx : WX} {pos : Pos}
theorem RepL_ints {w : Wd} : ∀ {ns : List Int} {vs : List V}, RepL G w (ns.map .int) vs ↔ vs = ns.map V.int
  | [], vs => by simp [RepL]
  | n :: ns, vs => by
    simp only [List.map_cons, RepL, Rep]
    constructor
    · rintro ⟨v, r, rfl, rfl, h⟩; rw [RepL_ints.mp h]
    · rintro rfl; exact ⟨_, _, rfl, rfl, RepL_ints.mpr rfl⟩
theorem fr_tok {T : List Addr} {w : Wd} (h : ∀ a ∈ T, w.H a = none) : Tok T w := fun a ha => .inr (h a ha)
theorem it_list {w : Wd} {a : Addr} {vs : List V} {l : List D} (h : (w.H a = some (.lst vs) ∧ ¬ Mut w a) ∨ Fz w a (.lst vs) ∨ KL G.K a vs) (r : RepL G w l vs) : ItOk G w (Itl G.K a) l := by
  have sq : ∀ (T : List Addr) w', Tok T w → WX' T w w' → SqL G.K w'.H a vs := fun T w' hT x => by
    rcases h with ⟨h, nm⟩ | h | h
    · exact .inl (.inl (x.keepM hT h nm).1)
    · exact .inl (Fz.monoT x hT h).1
    · exact .inr h
  have inj : ∀ (T : List Addr) w', Tok T w → WX' T w w' → ∀ (i : Nat) (d : D), l[i]? = some d → ∃ v, vs[i]? = some v ∧ Rep G w' d v := fun T w' hT x i d e => by
    obtain ⟨v, q1, q2⟩ := r.get e
    exact ⟨v, q1, Rep.monoT x hT _ _ q2⟩
  refine ⟨fun T w' hT x s i d e => ?_, fun T w' hT x s => ⟨vs, sq T w' hT x, by rw [r.length]; exact Nat.le_refl _⟩⟩
  obtain ⟨v, q1, q2⟩ := inj T w' hT x i d e
  refine ⟨⟨vs, v, sq T w' hT x, q1⟩, fun y H'' hy => ?_⟩
  obtain ⟨rfl, hy⟩ := hy
  have e2 := hy vs (sq T w' hT x)
  rw [q1] at e2; cases e2
  exact ⟨w', rfl, .refl w', rfl, s, q2⟩
theorem it_tup {w : Wd} {a : Addr} {vs : List V} {l : List D} (h : Fz w a (.tup vs) ∨ KT G.K a vs) (r : RepL G w l vs) : ItOk G w (Itt G.K a) l := by
  have sq : ∀ (T : List Addr) w', Tok T w → WX' T w w' → SqT G.K w'.H a vs := fun T w' hT x => by
    rcases h with h | h
    · exact .inl (Fz.monoT x hT h).1
    · exact .inr h
  refine ⟨fun T w' hT x s i d e => ?_, fun T w' hT x s => ⟨vs, sq T w' hT x, by rw [r.length]; exact Nat.le_refl _⟩⟩
  obtain ⟨v, q1, q2⟩ := r.get e
  refine ⟨⟨vs, v, sq T w' hT x, q1⟩, fun y H'' hy => ?_⟩
  obtain ⟨rfl, hy⟩ := hy
  have e2 := hy vs (sq T w' hT x)
  rw [q1] at e2; cases e2
  exact ⟨w', rfl, .refl w', rfl, s, Rep.monoT x hT _ _ q2⟩
theorem it_rng {w : Wd} {lo : Int} {n : Nat} : ItOk G w (Itr lo n) ((List.range n).map fun i => .int (lo + (i : Nat))) := by
  refine ⟨fun T w' hT x s i d e => ?_, fun T w' hT x s => by simp [Itr]⟩
  rw [List.getElem?_map] at e
  by_cases hi : i < n
  · rw [List.getElem?_range hi] at e
    cases e
    refine ⟨hi, fun y H'' hy => ?_⟩
    obtain ⟨rfl, rfl⟩ := hy
    exact ⟨w', rfl, .refl w', rfl, s, by simp [Rep]⟩
  · rw [List.getElem?_eq_none (by simpa using hi)] at e; cases e
theorem it_str {w : Wd} {z : Str} : ItOk G w (Its z) (z.cps.toList.map sgn) := by
  refine ⟨fun T w' hT x s i d e => ?_, fun T w' hT x s => by simp [Its]⟩
  rw [List.getElem?_map] at e
  cases q : z.cps.toList[i]? with
  | none => rw [q] at e; cases e
  | some c =>
    rw [q] at e
    cases e
    have hi : i < z.cps.size := by simpa using (List.getElem?_eq_some_iff.mp q).1
    refine ⟨hi, fun y H'' hy => ?_⟩
    obtain ⟨rfl, c', h1, rfl⟩ := hy
    have : c' = c := by
      have h2 : z.cps.toList[i]? = some c' := by simpa using h1
      rw [h2] at q; exact Option.some.inj q
    subst this
    exact ⟨w', rfl, .refl w', rfl, s, by simp [Rep, sgn]⟩
/-- a list, a tuple, a text -/
theorem q_iter {tg e : Expr} {m : ED} (hK : X.K = G.K) (h : PE X e (tE G m Wx)) : PI X tg e (tI G (iSeq m) Wx) := by
  refine ⟨fun pins s σ H R I q => ?_⟩
  obtain ⟨w, env, rfl, sr, er, p⟩ := q
  refine thn (h.run pins s σ w.H _ I ⟨w, env, rfl, sr, er, Post.bind p⟩) fun v s1 ⟨x, H1, I1, r1, q1⟩ => ?_
  obtain ⟨w1, d1, rfl, x1, sr1, rp1, p1⟩ := q1
  have lst : ∀ {a : Addr} {vs : List V}, SqL X.K w1.H a vs → R (Itl G.K a) w1.H → wpAny (model X.prog X.w) X.A (pyIter (.ref a)) (PIE X pins σ tg R) X.xe s1 := fun {a vs} hq q => by
    obtain ⟨its, rv, p, hz⟩ := I1.list hq
    refine wpAny_pyIter_list p.isList ?_
    refine ⟨s1.heap.objs.size, [s1.heap.objs.size], _, _, w1.H, rfl, I1.kept (t' := s1.toks) fun b o e => Heap.get?_push_of_some _ e, turn_list a _, ⟨_, Heap.get?_push_size _ rfl, rfl, rfl⟩, fun b hb => ?_, by rw [hK]; exact q⟩
    have e : b = s1.heap.objs.size := by simpa using hb
    subst e
    exact I1.fpOk (Nat.le_refl _) (I1.hok.fresh (Nat.le_refl _))
  cases d1 with
  | tup l =>
    simp only [Rep] at rp1
    obtain ⟨a, vs, rfl, hq, rl⟩ := rp1
    cases r1
    have q := p1 (Itt G.K a) w1 (.refl _) rfl sr1 (it_tup hq rl)
    have hq' : SqT X.K w1.H a vs := by rw [hK]; exact hq.imp (fun z => z.1) id
    obtain ⟨its, rv, p, hz⟩ := I1.tuple hq'
    refine wpAny_pyIter_tuple (show s1.heap.IsTuple a its.toArray from p) ?_
    refine ⟨s1.heap.objs.size, [s1.heap.objs.size], _, _, w1.H, rfl, I1.kept (t' := s1.toks) fun b o e => Heap.get?_push_of_some _ e, turn_tuple a _, ⟨_, Heap.get?_push_size _ rfl, rfl, rfl⟩, fun b hb => ?_, by rw [hK]; exact q⟩
    have e : b = s1.heap.objs.size := by simpa using hb
    subst e
    exact I1.fpOk (Nat.le_refl _) (I1.hok.fresh (Nat.le_refl _))
  | lst l =>
    simp only [Rep] at rp1
    obtain ⟨a, vs, rfl, hq, nm, rl⟩ := rp1
    cases r1
    exact lst (vs := vs) (.inl (.inl hq)) (p1 (Itl G.K a) w1 (.refl _) rfl sr1 (it_list (.inl ⟨hq, nm⟩) rl))
  | scr ns =>
    simp only [Rep] at rp1
    obtain ⟨a, rfl, hq⟩ := rp1
    cases r1
    exact lst (vs := ns.map V.int) (by rw [hK]; exact hq.imp (fun z => z.1) id) (p1 (Itl G.K a) w1 (.refl _) rfl sr1 (it_list (.inr hq) (RepL_ints.mpr rfl)))
  | str z =>
    simp only [Rep] at rp1
    subst rp1
    obtain ⟨t, rfl⟩ := r1
    have q := p1 (Its z) w1 (.refl _) rfl sr1 it_str
    cases ha : z.cps.all (· < 128)
    · exact wpAny_pyIter_wide ha (pi_one (tk := s1.toks) I1 _ (turn_str _ z t "str_iterator" (.inr rfl)) ⟨_, Heap.get?_push_size _ rfl, rfl, rfl⟩ q)
    · exact wpAny_pyIter_ascii ha (pi_one (tk := s1.toks) I1 _ (turn_str _ z t "str_ascii_iterator" (.inl rfl)) ⟨_, Heap.get?_push_size _ rfl, rfl, rfl⟩ q)
  | _ => exact p1.elim
theorem q_range1 {tg a : Expr} {m : AD} {p : Pos} (hg : Gl X "range") (hm : X.mg "range" = none) (ha : PA X [a] (tA G m Wx)) (hs : starEach [a] X.env = [(false, eval a X.env)] := by rfl) : PI X tg (.Call (.Name "range" p) [a] [] pos) (tI G (iArgs range1 m) Wx) := piI (pi_range1 hg hm ha hs) fun σ H R q => by
  obtain ⟨w, env, rfl, sr, er, p⟩ := q
  refine ⟨w, env, rfl, sr, er, (Post.bind p).mono (fun x H1 m => ?_) fun _ _ _ h => h⟩
  obtain ⟨w1, d1, rfl, x1, s1, rp1, p1⟩ := m
  unfold range1 at p1
  split at p1
  · rename_i j
    split at p1
    · rename_i hj
      have hj : -(2 ^ 62) ≤ j ∧ j < 2 ^ 62 := by simpa [okRng] using hj
      simp only [RepL, Rep] at rp1
      obtain ⟨v, r, rfl, rfl, rfl⟩ := rp1
      refine ⟨j, rfl, hj.1, hj.2, ?_⟩
      have q := p1 (Itr 0 j.toNat) w1 (.refl _) rfl s1 (by have := it_rng (G := G) (w := w1) (lo := 0) (n := j.toNat); simpa [rangeD] using this)
      exact q
    · exact p1.elim
  · exact p1.elim
theorem q_range2 {tg a b : Expr} {m : AD} {p : Pos} (hg : Gl X "range") (hm : X.mg "range" = none) (ha : PA X [a, b] (tA G m Wx)) (hs : starEach [a, b] X.env = [(false, eval a X.env), (false, eval b X.env)] := by rfl) (hs2 : starEach [b] X.env = [(false, eval b X.env)] := by rfl) :
    PI X tg (.Call (.Name "range" p) [a, b] [] pos) (tI G (iArgs range2 m) Wx) := piI (pi_range2 hg hm ha hs hs2) fun σ H R q => by
  obtain ⟨w, env, rfl, sr, er, p⟩ := q
  refine ⟨w, env, rfl, sr, er, (Post.bind p).mono (fun x H1 m => ?_) fun _ _ _ h => h⟩
  obtain ⟨w1, d1, rfl, x1, s1, rp1, p1⟩ := m
  unfold range2 at p1
  split at p1
  · rename_i i j
    split at p1
    · rename_i hj
      have hj : (-(2 ^ 62) ≤ i ∧ i < 2 ^ 62) ∧ (-(2 ^ 62) ≤ j ∧ j < 2 ^ 62) := by simpa [okRng] using hj
      simp only [RepL, Rep] at rp1
      obtain ⟨v, r, rfl, rfl, v', r', rfl, rfl, rfl⟩ := rp1
      refine ⟨i, j, rfl, ⟨hj.1.1, hj.1.2, hj.2.1, hj.2.2⟩, ?_⟩
      exact p1 (Itr i (j - i).toNat) w1 (.refl _) rfl s1 it_rng
    · exact p1.elim
  · exact p1.elim

/-! ### for -/
def sFor (mi : ID) (g : GD) (body : SD) : SD := fun env S => (mi env S).toS env fun xs S1 => forL g body xs env S1
theorem q_for {tg iter : Expr} {body : List Stmt} {mi : ID} {g : GD} {mb : SD} (hp : PassesOwn (model X.prog X.w) X.A X.env X.xe) (hc : X.calm = true) (hi : PI X tg iter (tI G mi Wx)) (hg : PG X tg (tG G g)) (hb : PSs X body (tS G mb Wx))
    (hs : ∀ x, foldedSetIterable iter X.env x = pure x := by intro _; rfl) : PS X (.For tg iter body [] pos) (tS G (sFor mi g mb) Wx) := psI (ps_for hp hc hi hg hb hs) fun D σ H q => by
  obtain ⟨w, env, rfl, sr, er, p⟩ := q
  refine ⟨w, env, rfl, sr, er, (PostS.ofR (Ra := fun w' xs (J : It) => ItOk G w' J xs) er p).mono (fun J H1 m => ?_) fun _ _ _ h => h⟩
  obtain ⟨w1, xs, rfl, x1, s1, io, p1⟩ := m
  refine ⟨fun i m σ H => ∃ w env, w.H = H ∧ SRep G w ∧ ERep G w env σ ∧ WExt w1 w ∧ i + m = xs.length ∧ PostS G w (forL g mb (xs.drop i) env w.S) D Wx, ⟨xs.length, w1, env, rfl, s1, er.mono x1, .refl _, by omega, by simpa using p1⟩, fun i m σ H hW => ?_⟩
  obtain ⟨w2, env2, rfl, s2, er2, x2, em, p2⟩ := hW
  by_cases hi : i < xs.length
  · have e : xs[i]? = some xs[i] := List.getElem?_eq_getElem hi
    rw [List.drop_eq_getElem_cons hi] at p2
    obtain ⟨go, yl⟩ := io.go [] w2 (fun a h => by simp at h) x2 s2 i xs[i] e
    refine .inr ⟨go, fun σ' H' => ∃ w env, w.H = H' ∧ SRep G w ∧ ERep G w env σ' ∧ WExt w1 w ∧ (i + 1) + (m - 1) = xs.length ∧ PostS G w (forL g mb (xs.drop (i + 1)) env w.S) D Wx, fun σ' H' hN => ⟨m - 1, by omega, hN⟩, fun x H' hy => ?_⟩
    obtain ⟨w3, rfl, x3, eS, s3, rp3⟩ := yl x H' hy
    refine ⟨w3, env2, xs[i], rfl, s3, er2.mono x3, rp3, ?_⟩
    rw [forL] at p2
    rw [eS]
    cases hg2 : g xs[i] env2 w2.S with
    | nx env4 S4 =>
      rw [hg2] at p2
      intro σ4 w4 x4 e4 s4 er4
      subst e4
      refine ⟨w4, env4, rfl, s4, er4, ?_⟩
      have x24 : WExt w1 w4 := WX'.trans (WX'.trans x2 x3) x4
      have p3 := PostS.shift (WX'.trans x3 x4) p2
      cases hb4 : mb env4 w4.S with
      | nx env5 S5 =>
        simp only [hb4] at p3
        intro σ5 w5 x5 e5 s5 er5
        subst e5
        exact ⟨w5, env5, rfl, s5, er5, WX'.trans x24 x5, by omega, PostS.shift x5 p3⟩
      | ct env5 S5 =>
        simp only [hb4] at p3
        intro σ5 w5 x5 e5 s5 er5
        subst e5
        exact ⟨w5, env5, rfl, s5, er5, WX'.trans x24 x5, by omega, PostS.shift x5 p3⟩
      | brk env5 S5 => simp only [hb4] at p3; exact p3
      | ret d S5 => simp only [hb4] at p3; exact p3
      | exc e env5 S5 => simp only [hb4] at p3; exact p3
      | bad => simp only [hb4] at p3; exact p3.elim
    | ret _ _ => rw [hg2] at p2; exact p2.elim
    | brk _ _ => rw [hg2] at p2; exact p2.elim
    | ct _ _ => rw [hg2] at p2; exact p2.elim
    | exc _ _ _ => rw [hg2] at p2; exact p2.elim
    | bad => rw [hg2] at p2; exact p2.elim
  · have ei : i = xs.length := by omega
    subst ei
    refine .inl ⟨io.stop [] w2 (fun a h => by simp at h) x2 s2, ?_⟩
    rw [List.drop_length] at p2
    exact p2 σ w2 (.refl _) rfl s2 er2

/-! ### while -/
theorem q_while {c : Expr} {body : List Stmt} {mc : TD} {mb : SD} (n : Nat) (hp : PassesOwn (model X.prog X.w) X.A X.env X.xe) (hc : PT X c (tT G mc Wx)) (hb : PSs X body (tS G mb Wx)) : PS X (.While c body [] pos) (tS G (sWhile mc mb n) Wx) := psI (ps_while hp hc hb) fun D σ H q => by
  refine ⟨fun m σ H => tS G (sWhile mc mb m) Wx D σ H, ⟨n, q⟩, fun m σ H hW => ?_⟩
  obtain ⟨w, env, rfl, sr, er, p⟩ := hW
  cases m with
  | zero => exact p.elim
  | succ m =>
    refine ⟨w, env, rfl, sr, er, (PostS.ofR (Ra := fun _ (a b : Bool) => a = b) er p).mono (fun x H1 m => ?_) fun _ _ _ h => h⟩
    obtain ⟨w1, d1, rfl, x1, s1, rp1, p1⟩ := m
    subst rp1
    cases d1 with
    | false => exact iteF (p1 σ w1 (.refl _) rfl s1 (er.mono x1))
    | true =>
      refine iteT ⟨fun σ' H' => tS G (sWhile mc mb m) Wx D σ' H', fun σ' H' h => ⟨m, by omega, h⟩, w1, env, rfl, s1, er.mono x1, ?_⟩
      cases hb4 : mb env w1.S with
      | nx env5 S5 =>
        simp only [hb4] at p1
        intro σ5 w5 x5 e5 s5 er5
        subst e5
        exact ⟨w5, env5, rfl, s5, er5, PostS.shift x5 p1⟩
      | ct env5 S5 =>
        simp only [hb4] at p1
        intro σ5 w5 x5 e5 s5 er5
        subst e5
        exact ⟨w5, env5, rfl, s5, er5, PostS.shift x5 p1⟩
      | brk env5 S5 => simp only [hb4] at p1; exact p1
      | ret d S5 => simp only [hb4] at p1; exact p1
      | exc e env5 S5 => simp only [hb4] at p1; exact p1
      | bad => simp only [hb4] at p1; exact p1.elim
end
end L3
set_option Elab.async false
set_option linter.all false
set_option maxRecDepth 100000
/-! L3F: list comprehensions. -/
namespace L3
open PySem PySem.Spec PyProof.Rows L2

def R.nox {α : Type} (r : R α) : R α := match r with
  | .ok a S => .ok a S
  | _ => .bad
def wipeD (env : EnvD) : List Nat → EnvD
  | [] => env
  | v :: vs => (wipeD env vs).set v none
def tYesD : TD := fun _ S => .ok true S
def lcL (g : GD) (tt : TD) (te : ED) (env : EnvD) : List D → Store → R (List D)
  | [], S => .ok [] S
  | x :: xs, S => match g x env S with
    | .nx env1 S1 => (tt env1 S1).nox.bind fun k S2 => match k with
      | true => (te env1 S2).nox.bind fun y S3 => (lcL g tt te env xs S3).bind fun ys S4 => .ok (y :: ys) S4
      | false => lcL g tt te env xs S2
    | _ => .bad
def eLc (mi : ID) (vs : List Nat) (g : GD) (tt : TD) (te : ED) : ED := fun env S => (mi env S).bind fun xs S1 =>
  if xs.length ≤ sizeLine then (lcL g tt te (wipeD env vs) xs S1).bind fun ys S2 => .ok (.lst ys) S2 else .bad

theorem R.bind_assoc {α β γ : Type} (r : R α) (f : α → Store → R β) (g : β → Store → R γ) : (r.bind f).bind g = r.bind fun a S => (f a S).bind g := by
  cases r <;> rfl
theorem R.bind_ok {α : Type} (r : R α) : (r.bind fun a S => .ok a S) = r := by cases r <;> rfl

section
variable {G : GC} {X : Cx} {Wx : WX} {pos : Pos}
theorem ERep.unset {w : Wd} {env : EnvD} {σ : L2.St} (i : Nat) (h : ERep G w env σ) : ERep G w (env.set i none) (σ.set i none) := by
  refine ⟨by simp [h.len], fun j d' e => ?_⟩
  by_cases hj : i = j
  · subst hj
    by_cases hi : i < env.length
    · rw [List.getElem?_set_self hi] at e; cases e
    · rw [List.getElem?_eq_none (by simpa using hi)] at e; cases e
  · rw [List.getElem?_set_ne hj] at e ⊢
    exact h.at' j d' e
theorem ERep.wipe {w : Wd} {env : EnvD} {σ : L2.St} (h : ERep G w env σ) : ∀ vs : List Nat, ERep G w (wipeD env vs) (L2.wipe σ vs)
  | [] => h
  | v :: vs => (ERep.wipe h vs).unset v
theorem wipe_set {σ : L2.St} {i : Nat} {x : Option V} : ∀ {vs : List Nat}, i ∈ vs → L2.wipe (σ.set i x) vs = L2.wipe σ vs
  | [], h => by simp at h
  | v :: vs, h => by
    show (L2.wipe (σ.set i x) vs).set v none = (L2.wipe σ vs).set v none
    by_cases hi : i ∈ vs
    · rw [wipe_set hi]
    · have hv : i = v := by simpa [hi] using h
      subst hv
      have : ∀ {us : List Nat} {τ : L2.St}, i ∉ us → L2.wipe (τ.set i x) us = (L2.wipe τ us).set i x := by
        intro us
        induction us with
        | nil => intro τ _; rfl
        | cons u us ih =>
          intro τ hu
          have h1 : i ≠ u := fun e => hu (by simp [e])
          have h2 : i ∉ us := fun e => hu (by simp [e])
          show (L2.wipe (τ.set i x) us).set u none = ((L2.wipe τ us).set u none).set i x
          rw [ih h2, List.set_comm _ _ h1]
      rw [this hi, List.set_set]

theorem wipe_sub {σ : L2.St} {vs : List Nat} : ∀ {us : List Nat}, (∀ i ∈ us, i ∈ vs) → L2.wipe (L2.wipe σ us) vs = L2.wipe σ vs
  | [], _ => rfl
  | u :: us, h => by
    show L2.wipe ((L2.wipe σ us).set u none) vs = _
    rw [wipe_set (h u (by simp)), wipe_sub fun i hi => h i (by simp [hi])]
mutual
theorem Rep.untmp {w : Wd} {t : List Addr} (ht : ∀ a ∈ t, a ∈ w.tmp) : ∀ (d : D) (v : V), Rep G w d v → Rep G { w with tmp := t } d v
  | .non, v, h => by simpa only [Rep] using h
  | .bl b, v, h => by simpa only [Rep] using h
  | .int i, v, h => by simpa only [Rep] using h
  | .str s, v, h => by simpa only [Rep] using h
  | .tup l, v, h => by
    simp only [Rep] at h ⊢
    obtain ⟨a, vs, e, h1, h2⟩ := h
    exact ⟨a, vs, e, h1.imp (fun z => ⟨z.1, fun m => z.2 (m.imp id (ht a))⟩) id, RepL.untmp ht l vs h2⟩
  | .lst l, v, h => by
    simp only [Rep] at h ⊢
    obtain ⟨a, vs, e, h1, nm, h2⟩ := h
    exact ⟨a, vs, e, h1, fun m => nm (m.imp id (ht a)), RepL.untmp ht l vs h2⟩
  | .dic ks l, v, h => by
    simp only [Rep] at h ⊢
    obtain ⟨a, vs, e, h1, nm, hl, h2⟩ := h
    exact ⟨a, vs, e, h1, fun m => nm (m.imp id (ht a)), hl, RepL.untmp ht l vs h2⟩
  | .obj n, v, h => by simpa only [Rep] using h
  | .glb y, v, h => by simpa only [Rep] using h
  | .ty n, v, h => by simpa only [Rep] using h
  | .scr ns, v, h => by
    simp only [Rep] at h ⊢
    obtain ⟨a, e, h1⟩ := h
    exact ⟨a, e, h1.imp (fun z => ⟨z.1, fun m => z.2 (m.imp id (ht a))⟩) id⟩
  | .kd ks l, v, h => by
    simp only [Rep] at h ⊢
    obtain ⟨a, es, n, vs, us, e, h1, h2, h3, h4, h5⟩ := h
    exact ⟨a, es, n, vs, us, e, h1, h2, h3, h4, RepL.untmp ht l vs h5⟩
theorem RepL.untmp {w : Wd} {t : List Addr} (ht : ∀ a ∈ t, a ∈ w.tmp) : ∀ (d : List D) (v : List V), RepL G w d v → RepL G { w with tmp := t } d v
  | [], v, h => by simpa only [RepL] using h
  | d :: ds, v, h => by
    simp only [RepL] at h ⊢
    obtain ⟨y, r, e, h1, h2⟩ := h
    exact ⟨y, r, e, Rep.untmp ht d y h1, RepL.untmp ht ds r h2⟩
end
theorem RepKV.untmp {κ : Type} {w : Wd} {t : List Addr} (ht : ∀ a ∈ t, a ∈ w.tmp) : ∀ (d : List (κ × D)) (v : List (κ × V)), RepKV G w d v → RepKV G { w with tmp := t } d v
  | [], v, h => h
  | d :: ds, v, h => by
    obtain ⟨y, r, e, h1, h2⟩ := h
    exact ⟨y, r, e, Rep.untmp ht _ y h1, RepKV.untmp ht ds r h2⟩
theorem ORep.untmp {w : Wd} {t : List Addr} (ht : ∀ a ∈ t, a ∈ w.tmp) {a : Addr} : ∀ {ob : O}, ORep G w a ob → ORep G { w with tmp := t } a ob
  | .lst _, ⟨vs, h1, h2⟩ => ⟨vs, h1, RepL.untmp ht _ _ h2⟩
  | .dK _, ⟨vs, h1, h2⟩ => ⟨vs, h1, RepKV.untmp ht _ _ h2⟩
  | .dT _, ⟨vs, h1, h2⟩ => ⟨vs, h1, RepKV.untmp ht _ _ h2⟩
  | .ins _ _, ⟨C, dx, vs, h1, h2, h3⟩ => ⟨C, dx, vs, h1, RepKV.untmp ht _ _ h2, h3⟩
  | .dead, _ => trivial
theorem SRep.untmp {w : Wd} {t : List Addr} (ht : ∀ a ∈ t, a ∈ w.tmp) (s : SRep G w) : SRep G { w with tmp := t } :=
  ⟨s.len, s.inj, fun n ob a h1 h2 => ORep.untmp ht (s.obj n ob a h1 h2), fun a ha => s.tm a (ht a ha)⟩

/-- a target of a comprehension, that stores at vs alone -/
def tGW (G : GC) (g : GD) (vs : List Nat) : TG := fun v σ H Q => ∃ w env d, w.H = H ∧ SRep G w ∧ ERep G w env σ ∧ Rep G w d v ∧
  match g d env w.S with
  | .nx env' S' => ∀ σ' w', WExt w w' → w'.S = S' → SRep G w' → ERep G w' env' σ' → L2.wipe σ' vs = L2.wipe σ vs → Q σ' w'.H
  | _ => False
theorem q_gnameW {e : Expr} {i : Nat} {vs : List Nat} (h : PG X e (L2.gName i)) (hv : i ∈ vs) : PG X e (tGW G (gName i) vs) := pgI h fun v σ H Q q => by
  obtain ⟨w, env, d, rfl, sr, er, rp, p⟩ := q
  exact p _ w (.refl w) rfl sr (er.set i rp) (wipe_set hv)
theorem q_gof {e : Expr} {g : GD} {vs : List Nat} (h : PG X e (tGW G g vs)) : PG X e (tG G g) := pgI h fun v σ H Q q => by
  obtain ⟨w, env, d, rfl, sr, er, rp, p⟩ := q
  refine ⟨w, env, d, rfl, sr, er, rp, ?_⟩
  cases h : g d env w.S with
  | nx env' S' => rw [h] at p; exact fun σ' w' x e s er _ => p σ' w' x e s er
  | ret _ _ => rw [h] at p; exact p.elim
  | brk _ _ => rw [h] at p; exact p.elim
  | ct _ _ => rw [h] at p; exact p.elim
  | exc _ _ _ => rw [h] at p; exact p.elim
  | bad => rw [h] at p; exact p.elim

def tTs (G : GC) (m : TD) : TT := tT G m WF
theorem imp_lc {mi : ID} {vs : List Nat} {g : GD} {tt : TD} {te : ED} : ∀ σ H Q, tE G (eLc mi vs g tt te) Wx σ H Q → tLc (tI G mi Wx) (tGW G g vs) (tT G tt WF) (tE G te WF) vs σ H Q := by
  intro σ H Q q
  obtain ⟨w, env, rfl, sr, er, p⟩ := q
  refine ⟨w, env, rfl, sr, er, (Post.bind (Ra := fun w' xs (J : It) => ItOk G w' J xs) p).mono (fun J H1 m => ?_) fun _ _ _ h => h⟩
  obtain ⟨w1, xs, rfl, x1, s1, io, p1⟩ := m
  intro L hL
  have hfr : ∀ a ∈ [L], w1.H a = none := fun a h => by have : a = L := by simpa using h
                                                       rw [this]; exact hL
  by_cases hz : xs.length ≤ sizeLine
  · rw [if_pos hz] at p1
    have er1 := (er.mono x1).wipe vs
    have h0 : WX' [L] w1 ⟨w1.mu, w1.S, upd w1.H L (.lst []), L :: w1.tmp⟩ :=
      ⟨fun _ _ h => h, fun a o h nm ha => ⟨(upd_ne (by simpa using ha)).trans h, nm⟩, fun a h => by
        rcases List.mem_cons.mp h with e | h
        · exact .inr (by simp [e])
        · exact .inl h, fun a h => List.mem_cons_of_mem _ h⟩
    have nL : ¬ MutS w1 L := fun m => by obtain ⟨u, e⟩ := MutS.there s1 m; rw [hL] at e; cases e
    have sW : SRep G ⟨w1.mu, w1.S, upd w1.H L (.lst []), L :: w1.tmp⟩ := by
      refine ⟨s1.len, s1.inj, fun n ob a h1 h2 => ?_, fun a ha => ?_⟩
      · have h := s1.obj n ob a h1 h2
        refine h.keep h0 (fr_tok hfr) fun lv => ?_
        obtain ⟨u, e⟩ := h.there lv
        exact upd_ne (ne_of_none e hL)
      · rcases List.mem_cons.mp ha with e | ha
        · subst e; exact ⟨⟨_, upd_same⟩, nL⟩
        · obtain ⟨⟨u, e⟩, nm⟩ := s1.tm a ha
          exact ⟨⟨u, (upd_ne (ne_of_none e hL)).trans e⟩, nm⟩
    refine ⟨fun i m H => ∃ w3 acc us, w3.H = H ∧ SRep G w3 ∧ WX' [L] w1 w3 ∧ L ∈ w3.tmp ∧ w3.H L = some (.lst us) ∧ RepL G w3 acc us ∧ acc.length ≤ i ∧ i + m = xs.length ∧
        (lcL g tt te (wipeD env vs) xs w1.S) = (lcL g tt te (wipeD env vs) (xs.drop i) w3.S).bind fun ys S2 => .ok (acc ++ ys) S2,
      ⟨xs.length, _, [], [], rfl, sW, h0, by simp, upd_same, by simp [RepL], Nat.le_refl _, by omega, ?_⟩, fun i m H hW => ?_⟩
    · simp only [List.drop_zero, List.nil_append, R.bind_ok]
    obtain ⟨w3, acc, us, rfl, s3, x3, tm3, hL3, ra3, hlen, em, eq⟩ := hW
    rw [eq] at p1
    by_cases hi : i < xs.length
    · have e : xs[i]? = some xs[i] := List.getElem?_eq_getElem hi
      obtain ⟨go, yl⟩ := io.go [L] w3 (fr_tok hfr) x3 s3 i xs[i] e
      refine .inr ⟨go, fun H' => ∃ w5 acc us, w5.H = H' ∧ SRep G w5 ∧ WX' [L] w1 w5 ∧ L ∈ w5.tmp ∧ w5.H L = some (.lst us) ∧ RepL G w5 acc us ∧ acc.length ≤ i + 1 ∧ (i + 1) + (m - 1) = xs.length ∧
        (lcL g tt te (wipeD env vs) xs w1.S) = (lcL g tt te (wipeD env vs) (xs.drop (i + 1)) w5.S).bind fun ys S2 => .ok (acc ++ ys) S2, fun H' hN => ⟨m - 1, by omega, hN⟩, fun x H' hy => ?_⟩
      obtain ⟨w4, rfl, x4, eS4, s4, rp4⟩ := yl x H' hy
      have x14 : WX' [L] w1 w4 := WX'.trans x3 (WX'.wide x4)
      refine ⟨w4, wipeD env vs, xs[i], rfl, s4, er1.monoT x14 (fr_tok hfr), rp4, ?_⟩
      rw [List.drop_eq_getElem_cons hi, lcL] at eq p1
      rw [eS4]
      cases hg : g xs[i] (wipeD env vs) w3.S with
      | nx env5 S5 =>
        rw [hg] at eq p1
        simp only at eq p1
        intro σ5 w5 x5 e5 s5 er5 hw
        subst e5
        refine ⟨hw.trans (wipe_sub fun _ h => h), w5, env5, rfl, s5, er5, ?_⟩
        cases ht : tt env5 w5.S with
        | ok k S6 =>
          rw [ht] at eq p1
          simp only [R.nox, R.bind] at eq p1
          intro b w6 x6 e6 s6 hb
          subst hb e6
          have x46 : WExt w4 w6 := WX'.trans x5 x6
          have x16 : WX' [L] w1 w6 := WX'.trans x14 (WX'.wide x46)
          have hL6 : w6.H L = some (.lst us) := (x46.keep L _ ((x4.keep L _ hL3 ((s3.tm L tm3).2) (by simp)).1) ((s4.tm L (x4.tmp' L tm3)).2) (by simp)).1
          have tm6 : L ∈ w6.tmp := x46.tmp' L (x4.tmp' L tm3)
          have ra6 : RepL G w6 acc us := RepL.mono (WX'.trans x4 x46) _ _ ra3
          cases k with
          | false =>
            refine iteF ⟨w6, acc, us, rfl, s6, x16, tm6, hL6, ra6, by omega, by omega, ?_⟩
            simpa using eq
          | true =>
            refine iteT ⟨w6, env5, rfl, s6, er5.mono x6, ?_⟩
            simp only at eq p1
            cases hte : te env5 w6.S with
            | ok y S7 =>
              rw [hte] at eq p1
              simp only [R.nox, R.bind] at eq p1
              intro v w7 x7 e7 s7 r7
              subst e7
              have hL7 : w7.H L = some (.lst us) := (x7.keep L _ hL6 ((s6.tm L tm6).2) (by simp)).1
              have tm7 : L ∈ w7.tmp := x7.tmp' L tm6
              have nm7 : ¬ MutS w7 L := (s7.tm L tm7).2
              have lu : us.length = acc.length := ra3.length
              refine ⟨us, hL7, by omega, ?_⟩
              have x8 : WX' [L] w7 (w7.put L (.lst (us ++ [v]))) := ⟨fun _ _ h => h, fun a o h nm ha => ⟨(upd_ne (by simpa using ha)).trans h, nm⟩, fun a h => .inl h, fun a h => h⟩
              have t8 : Tok [L] w7 := fun a h => .inl (by have : a = L := by simpa using h
                                                          rw [this]; exact tm7)
              have s8 : SRep G (w7.put L (.lst (us ++ [v]))) := by
                refine ⟨s7.len, s7.inj, fun n ob a h1 h2 => ?_, fun a ha => ?_⟩
                · have h := s7.obj n ob a h1 h2
                  exact h.keep x8 t8 fun lv => upd_ne fun e => nm7 (by subst e; exact ⟨n, ob, h1, lv, h2⟩)
                · obtain ⟨⟨u, e⟩, nm⟩ := s7.tm a ha
                  by_cases ea : a = L
                  · subst ea; exact ⟨⟨_, upd_same⟩, nm⟩
                  · exact ⟨⟨u, (upd_ne ea).trans e⟩, nm⟩
              refine ⟨_, acc ++ [y], us ++ [v], rfl, s8, WX'.trans (WX'.trans x16 (WX'.wide x7)) x8, tm7, upd_same, ?_, by simp; omega, by omega, ?_⟩
              · exact (RepL.monoT x8 t8 _ _ (RepL.mono x7 _ _ ra6)).append (RepL.one (Rep.monoT x8 t8 _ _ r7))
              · rw [eq]
                show _ = (lcL g tt te (wipeD env vs) (List.drop (i + 1) xs) w7.S).bind _
                cases lcL g tt te (wipeD env vs) (List.drop (i + 1) xs) w7.S <;> simp [R.bind]
            | exc ee S7 => rw [hte] at p1; exact p1.elim
            | bad => rw [hte] at p1; exact p1.elim
        | exc ee S6 => rw [ht] at p1; exact p1.elim
        | bad => rw [ht] at p1; exact p1.elim
      | ret _ _ => rw [hg] at p1; exact p1.elim
      | brk _ _ => rw [hg] at p1; exact p1.elim
      | ct _ _ => rw [hg] at p1; exact p1.elim
      | exc _ _ _ => rw [hg] at p1; exact p1.elim
      | bad => rw [hg] at p1; exact p1.elim
    · have ei : i = xs.length := by omega
      subst ei
      refine .inl ⟨io.stop [L] w3 (fr_tok hfr) x3 s3, ?_⟩
      rw [List.drop_length] at p1
      have we : WExt w1 { w3 with tmp := w1.tmp } := ⟨x3.mu, fun a o h nm _ => x3.keep a o h nm (by
        intro ha
        have : a = L := by simpa using ha
        rw [this, hL] at h; cases h), fun a h => .inl h, fun a h => h⟩
      have tinc : ∀ a, a ∈ w1.tmp → a ∈ w3.tmp := x3.tmp'
      have se : SRep G { w3 with tmp := w1.tmp } := s3.untmp tinc
      have nmL : ¬ Mut { w3 with tmp := w1.tmp } L := fun m => m.elim (s3.tm L tm3).2 fun z => by
        obtain ⟨⟨u, e⟩, _⟩ := s1.tm L z
        rw [hL] at e; cases e
      have hr : Rep G { w3 with tmp := w1.tmp } (.lst (acc ++ [])) (.ref L) := by
        simp only [Rep, List.append_nil]
        exact ⟨L, us, rfl, hL3, nmL, RepL.untmp tinc _ _ ra3⟩
      exact p1 (.ref L) { w3 with tmp := w1.tmp } we rfl se hr
  · rw [if_neg hz] at p1; exact p1.elim
/-- [elt for target in iter if ..] -/
theorem q_lc {elt tg iter : Expr} {ifs : List Expr} {scope : Scope} {own : List (Str × Nat)} {mi : ID} {g : GD} {mt : TD} {me : ED} (hc : X.calm = true) (hN : X.N.Nodup) (hi : PI X tg iter (tI G mi Wx)) (ok : BlkOk X.N X.env.scope scope own)
    (hg : ∀ (s : Shared) (H : Hp) (C : Addr) (cl : List (Str × Addr)) (fp : List Addr), PG (X.blk s H scope (compEnvC scope cl C X.env) fp) tg (tGW G g (own.map (·.2))))
    (ht : ∀ (s : Shared) (H : Hp) (C : Addr) (cl : List (Str × Addr)) (fp : List Addr), PTs (X.blk s H scope (compEnvC scope cl C X.env) fp) ifs (tT G mt WF))
    (he : ∀ (s : Shared) (H : Hp) (C : Addr) (cl : List (Str × Addr)) (fp : List Addr), PE (X.blk s H scope (compEnvC scope cl C X.env) fp) elt (tE G me WF)) (hs : ∀ x, foldedSetIterable iter X.env x = pure x := by intro _; rfl) :
    PE X (.ListComp elt [⟨tg, iter, ifs, 0⟩] scope pos) (tE G (eLc mi (own.map (·.2)) g mt me) Wx) := peI (pe_lc hc hN hi ok hg ht he hs) imp_lc
theorem q_setLc {i : Nat} {y : Str} {py : Pos} {elt tg iter : Expr} {ifs : List Expr} {scope : Scope} {own : List (Str × Nat)} {spos : Pos} {mi : ID} {g : GD} {mt : TD} {me : ED} (hc : X.calm = true) (hN : X.N.Nodup) (hy : X.N[i]? = some y) (hyl : X.env.scope.names.lookup y = some .local)
    (hsw : swapsWith (.ListComp elt [⟨tg, iter, ifs, 0⟩] scope pos) (some (.Name y py)) spos.line X.env = pure true) (hi : PI X tg iter (tI G mi Wx)) (ok : BlkOk X.N X.env.scope scope own)
    (hg : ∀ (s : Shared) (H : Hp) (C : Addr) (cl : List (Str × Addr)) (fp : List Addr), PG (X.blk s H scope (compEnvC scope cl C X.env) fp) tg (tGW G g (own.map (·.2))))
    (ht : ∀ (s : Shared) (H : Hp) (C : Addr) (cl : List (Str × Addr)) (fp : List Addr), PTs (X.blk s H scope (compEnvC scope cl C X.env) fp) ifs (tT G mt WF))
    (he : ∀ (s : Shared) (H : Hp) (C : Addr) (cl : List (Str × Addr)) (fp : List Addr), PE (X.blk s H scope (compEnvC scope cl C X.env) fp) elt (tE G me WF)) (hs : ∀ x, foldedSetIterable iter X.env x = pure x := by intro _; rfl) :
    PS X (.Assign [.Name y py] (.ListComp elt [⟨tg, iter, ifs, 0⟩] scope pos) spos) (tS G (sAsg (eLc mi (own.map (·.2)) g mt me) (gName i)) Wx) := psI (ps_setLc hc hN hy hyl hsw hi ok hg ht he hs) fun D σ H q => by
  obtain ⟨w, env, rfl, sr, er, p⟩ := q
  refine imp_lc (Wx := Wx) σ w.H _ ⟨w, env, rfl, sr, er, (PostS.ofR (Ra := Rep G) er p).mono (fun x H1 m => ?_) fun _ _ _ h => h⟩
  obtain ⟨w1, d1, rfl, x1, s1, rp1, p1⟩ := m
  exact p1 _ w1 (.refl w1) rfl s1 ((er.mono x1).set i rp1)
theorem q_tnil : PTs X [] (tT G tYesD WF) := ⟨fun pins s σ H Q I q => by
  obtain ⟨w, env, rfl, sr, er, p⟩ := q
  exact pts_nil.run pins s σ w.H Q I (Post.ret (Ra := fun _ (a b : Bool) => a = b) sr rfl p)⟩
theorem q_tone {c : Expr} {m : TD} (h : PT X c (tT G m WF)) : PTs X [c] (tT G m WF) := pts_one h
end
end L3
set_option Elab.async false
set_option linter.all false
set_option maxRecDepth 100000
/-! L3G: calls of own defs; a def by its body. -/
namespace L3
open PySem PySem.Spec PyProof.Rows L2

/-! ### calls where nothing is being shown (repr asks that) -/
structure RoomG (k : Nat) (A : Around) : Prop where
  rm : Room k A
  gd : A.guards = some []
theorem RoomG.deeper {k : Nat} {A : Around} (r : RoomG (k + 1) A) (env : Env) : RoomG k (A.deeper env) := ⟨r.rm.deeper env, r.gd⟩
theorem RoomG.units {k : Nat} {A : Around} (r : RoomG k A) : A.units + 64 < cLine := r.rm.units
theorem RoomG.mono {j k : Nat} {A : Around} (r : RoomG k A) (h : j ≤ k) : RoomG j A := ⟨r.rm.mono h, r.gd⟩
structure FnG (P : Program) (w : World) (K : PySem.W.Frag) (mg : Str → Option Value) (base : Heap) (k : Nat) (f : Addr) (fd : FuncData) (ps : List Str) (sp : Sp) : Prop where
  len : ∀ vs H Q E, sp vs H Q E → vs.length = ps.length
  go : ∀ (A : Around) (outer : List Env) (s : Shared) (H : Hp) (args : Args) (us : List Value) (vs : List V) (Q : VK) (E : XK),
    RoomG k A → Env0 P w K mg base A outer s H → BindsTo s fd args (ps.zip us) → Vals vs us → sp vs H Q E → codeAny (model P w) A (.call (.ref f) args) (CR (L2.CX P w) outer P w H s Q E) s
theorem FnG.imp {P : Program} {w : World} {K : PySem.W.Frag} {mg : Str → Option Value} {base : Heap} {k : Nat} {f : Addr} {fd : FuncData} {ps : List Str} {sp sp' : Sp} (F : FnG P w K mg base k f fd ps sp) (i : ∀ vs H Q E, sp' vs H Q E → sp vs H Q E) :
    FnG P w K mg base k f fd ps sp' :=
  ⟨fun _ _ _ _ h => F.len _ _ _ _ (i _ _ _ _ h), fun A outer s H args us vs Q E r e b v h => F.go A outer s H args us vs Q E r e b v (i _ _ _ _ h)⟩
/-- what a def's own body does, in every entry -/
theorem FnG.of_def {P : Program} {w : World} {K : PySem.W.Frag} {mg : Str → Option Value} {base : Heap} {x qual : Str} {params : Arguments} {body : List Stmt} {scope : Scope} {dvs : List V} {kws : List (Str × V)} {f : Addr} {fd : FuncData} {N ps : List Str} {k : Nat} {sp : Sp}
    (F : FunD K x qual params body scope dvs kws f fd) (Sc : FnScope N ps scope) (len : ∀ vs H Q E, sp vs H Q E → vs.length = ps.length)
    (inner : ∀ (cdv : Value) (A : Around) (outer : List Env) (s : Shared) (H : Hp) (vs : List V) (Q : VK) (E : XK), RoomG k (A.deeper (envOfC qual scope s.heap.objs.size f cdv)) → sp vs H Q E →
      ∃ t : TS, PSs (cxOf (L2.CX P w) P w K mg base N qual scope f cdv A outer s H E) body t ∧ t { nx := fun _ H' => Q .non H', rt := Q } (start N vs) H) : FnG P w K mg base (k + 1) f fd ps sp := by
  obtain ⟨_, _, _, _, _, _, _, cdv, _, _, rfl, place, code, _, _⟩ := F.ex
  refine ⟨len, fun A outer s H args us vs Q E room e0 bound rel want => ?_⟩
  have size := len _ _ _ _ want
  have inK : K.In s.heap := e0.mod.kin.keeps fun b o h => (e0.bs b o h).1
  refine codeAny_call_function room.rm.depth (inK _ _ place) rfl Sc.co Sc.gen rfl (PySem.W.codeRec_of inK code) (bound _ _ _ _ ?_)
  refine wpAny_newFunctionEnv_cells Sc.kind (fun y hy => ?_) fun env made s2 entered => ?_
  · obtain ⟨n, v⟩ := y
    refine (Sc.par n (List.of_mem_zip hy).1).imp id fun c => ⟨c, PySem.W.cellsFrom_some _ _ _ (.inl c)⟩
  subst made
  have nl : s.heap.NoLimit := e0.mod.nolimit.keeps fun b o h => (e0.bs b o h).1
  refine ⟨nl.keeps entered.toInCall.keep, codeAny_func ?_⟩
  obtain ⟨t, runs, holds⟩ := inner cdv A outer s H vs Q E (room.deeper _) want
  have I0 : Inv (cxOf (L2.CX P w) P w K mg base N qual scope f cdv A outer s H E) [] (start N vs) H s2 := inv_start Sc room.rm.hd e0 size rel entered
  refine wpAny_mono (runs.run [] s2 (start N vs) H _ I0 holds) (fun fl s' done => ?_) fun _ _ z => z
  have told : ∀ {σ' : L2.St} {H' : Hp} {v : V} {u : Value}, Inv (cxOf (L2.CX P w) P w K mg base N qual scope f cdv A outer s H E) [] σ' H' s' → RelV v u → Q v H' → CE outer P w H s Q u s' := fun {_ H' v _} J q q' => ⟨v, H', J.os, J.bare, J.base, J.hok, q, q'⟩
  match fl, done with
  | .ret u, ⟨v, σ', H', J, q, q'⟩ => exact told J q q'
  | .next, ⟨σ', H', J, q'⟩ => exact told (v := V.non) (u := Value.none) J rfl q'
  | .brk, ⟨_, _, _, z⟩ => exact False.elim z
  | .cont, ⟨_, _, _, z⟩ => exact False.elim z
section
variable {X : Cx} {k : Nat} {f : Addr} {fd : FuncData} {ps : List Str} {sp : Sp} {dvs : List V} {ds : List Value} {E : L2.St → XK}
/-- a call of it, its arguments known -/
theorem FnG.called {pins : List (Addr × Obj)} {σ : L2.St} {H : Hp} {s : Shared} {Q : VK} {args : Args} {zs : List Value} {ys : List V} (F : FnG X.prog X.w X.K X.mg X.base k f fd ps sp) (room : RoomG k X.A) (hx : PassesAt (L2.CX X.prog X.w) X σ (E σ)) (I : Inv X pins σ H s)
    (bound : BindsTo s fd args (ps.zip zs)) (rel : Vals ys zs) (want : sp ys H Q (E σ)) : codeAny (model X.prog X.w) X.A (.call (.ref f) args) (fun r s' => match r with
      | .ok (.ret u) => EP X pins σ Q u s'
      | .error e => X.xe e s'
      | _ => False) s := by
  refine codeAny_mono (F.go X.A X.stack s H args zs ys Q (E σ) room I.env0 bound rel want) fun r s' q => ?_
  match r, q with
  | .error e, q => exact hx pins H s e s' I q
  | .ok (.ret u), q => exact I.after q
theorem FnG.byPlace {pins : List (Addr × Obj)} {σ : L2.St} {H : Hp} {s : Shared} {Q : VK} {us : List Value} {vs : List V} (F : FnG X.prog X.w X.K X.mg X.base k f fd ps sp) (room : RoomG k X.A) (bs : Binds X.K fd ps ds) (dv : Vals dvs ds) (hx : PassesAt (L2.CX X.prog X.w) X σ (E σ))
    (I : Inv X pins σ H s) (rel : Vals vs us) (want : sp (vs ++ dvs) H Q (E σ)) : wpAny (model X.prog X.w) X.A (call (.ref f) us) (EP X pins σ Q) X.xe s := by
  have all := rel.append dv
  refine wpAny_call (codeAny_mono (F.called room hx I (bs s us I.kIn (by rw [← all.length]; exact F.len _ _ _ _ want)) all want) fun r s' q => ?_)
  match r, q with
  | .error _, q => exact q
  | .ok (.ret _), q => exact q
end
/-- a def's promise -/
def spOf (G : GC) (F : FN) : Sp := fun vs H Q E => ∃ w ds, w.H = H ∧ SRep G w ∧ RepL G w ds vs ∧ Post G w (F ds w.S) (Rep G) Q E
abbrev WE0 (E : XK) : WX := fun C d _ H => E C d H
/-- the arguments, then defaults -/
def callK (F : FN) (dds : List D) : FN := fun xs S => F (xs ++ dds) S

section
variable {G : GC} {X : Cx} {Wx : WX} {pos p : Pos} {k : Nat} {f : Addr} {fd : FuncData} {ps : List Str} {F : FN} {x : Str} {e : Expr} {es : List Expr} {dvs : List V} {ds : List Value} {dds : List D} {m : AD}
theorem imp_call (hdd : ∀ w, RepL G w dds dvs) : ∀ σ H Q, tE G (eN (callK F dds) m) Wx σ H Q → tCallSD (spOf G F) dvs (WE Wx) (tA G m Wx) σ H Q := by
  intro σ H Q q
  obtain ⟨w, env, rfl, sr, er, p⟩ := q
  refine ⟨w, env, rfl, sr, er, (Post.bind p).mono (fun x H1 m => ?_) fun _ _ _ h => h⟩
  obtain ⟨w1, d1, rfl, x1, s1, rp1, p1⟩ := m
  exact ⟨w1, d1 ++ dds, rfl, s1, rp1.append (hdd w1), p1⟩
theorem q_call (hF : FnG X.prog X.w X.K X.mg X.base k f fd ps (spOf G F)) (hr : RoomG k X.A) (hg : Gl X x) (hm : X.mg x = some (.ref f)) (hk : PySem.W.keepIn X.K (.ref f) = true) (hb : Binds X.K fd ps ds) (hd : Vals dvs ds) (hdd : ∀ w, RepL G w dds dvs) (tk : Takes X Wx)
    (ha : PA X (e :: es) (tA G m Wx)) (hdb : (x == ("__debug__" : Str)) = false := by decide) (he : starEach (e :: es) X.env = (false, eval e X.env) :: starEach es X.env := by rfl) (hpl : (backTo pos (starEach es X.env)).any (·.1) = false := by rfl) :
    PE X (.Call (.Name x p) (e :: es) [] pos) (tE G (eN (callK F dds) m) Wx) :=
  peI (t := tCallSD (spOf G F) dvs (WE Wx) (tA G m Wx)) ⟨fun pins s σ H Q I h => wpAny_Call_Name_kw (ld_glob I hg hm (PySem.W.callWith_K (h₀ := X.base) I.ok.mod.kin hk
    (thn (ha.run pos pins s σ H _ I h) fun us s1 ⟨vs, H1, I1, r, q⟩ => ⟨I1.kIn, FnG.byPlace (E := WE Wx) hF hr hb hd (passAt tk σ) I1 r q⟩) he hpl) hdb)⟩ (imp_call hdd)
theorem RepL.nil {w : Wd} : RepL G w [] [] := by simp [RepL]
/-- f() -/
theorem q_call0 (hF : FnG X.prog X.w X.K X.mg X.base k f fd ps (spOf G F)) (hr : RoomG k X.A) (hg : Gl X x) (hm : X.mg x = some (.ref f)) (hk : PySem.W.keepIn X.K (.ref f) = true) (hb : Binds X.K fd ps ds) (hd : Vals dvs ds) (hdd : ∀ w, RepL G w dds dvs) (tk : Takes X Wx)
    (hdb : (x == ("__debug__" : Str)) = false := by decide) : PE X (.Call (.Name x p) [] [] pos) (tE G (eN (callK F dds) aNil) Wx) := by
  refine ⟨fun pins s σ H Q I h => ?_⟩
  obtain ⟨w, env, rfl, sr, er, pp⟩ := h
  refine wpAny_Call_Name_kw (ld_glob I hg hm ?_ hdb)
  exact PySem.W.callWith_K0 I.kIn hk (FnG.byPlace (E := WE Wx) (us := []) (vs := []) hF hr hb hd (passAt tk σ) I .nil ⟨w, dds, rfl, sr, by simpa using hdd w, pp⟩)
end

section
variable {P : Program} {w : World} {G : GC} {base : Heap} {x qual : Str} {params : Arguments} {body : List Stmt} {scope : Scope} {dvs : List V} {kws : List (Str × V)} {f : Addr} {fd : FuncData} {k n : Nat} {N ps : List Str} {m : SD}
theorem len_spOf {vs : List V} {H : Hp} {Q : VK} {E : XK} {F : FN} {n : Nat} (ar : ∀ ds S, ds.length ≠ n → F ds S = .bad) (h : spOf G F vs H Q E) : vs.length = n := by
  obtain ⟨w, ds, rfl, sr, rp, p⟩ := h
  rw [rp.length]
  by_cases e : ds.length = n
  · exact e
  · rw [ar ds w.S e] at p; exact p.elim
theorem run_ar : ∀ (ds : List D) (S : Store), ds.length ≠ n → run n k m ds S = .bad := fun ds S h => by unfold run; rw [if_neg h]
theorem ERep.start {wd : Wd} {ds : List D} {vs : List V} (h : RepL G wd ds vs) : ERep G wd (ds.map some ++ List.replicate (n - ds.length) none) (vs.map some ++ List.replicate (n - vs.length) none) := by
  have hl := h.length
  refine ⟨by simp [hl], fun i d e => ?_⟩
  by_cases hi : i < ds.length
  · rw [List.getElem?_append_left (by simpa using hi), List.getElem?_map] at e
    cases q : ds[i]? with
    | none => rw [q] at e; cases e
    | some d' =>
      rw [q] at e
      cases e
      obtain ⟨v, h1, h2⟩ := h.get q
      refine ⟨v, ?_, h2⟩
      rw [List.getElem?_append_left (by simp [hl]; exact hi), List.getElem?_map, h1]
      rfl
  · rw [List.getElem?_append_right (by simpa using hi)] at e
    have := (List.getElem?_eq_some_iff.mp e).2
    simp at this
/-- THE RULE for a def: its body's reading in every entry -/
theorem fn_ok (F : FunD G.K x qual params body scope dvs kws f fd) (S : FnScope N ps scope)
    (hb : ∀ (cdv : Value) (A : Around) (outer : List Env) (s : Shared) (H : Hp) (E : XK), RoomG k (A.deeper (envOfC qual scope s.heap.objs.size f cdv)) →
      PSs (cxOf (L2.CX P w) P w G.K G.mg base N qual scope f cdv A outer s H E) body (tS G m (WE0 E))) :
    FnG P w G.K G.mg base (k + 1) f fd ps (spOf G (run ps.length N.length m)) := by
  refine FnG.of_def F S (fun vs H Q E h => len_spOf run_ar h) fun cdv A outer s H vs Q E hr h => ⟨_, hb cdv A outer s H E hr, ?_⟩
  obtain ⟨wd, ds, rfl, sr, rp, p⟩ := h
  by_cases hl : ds.length = ps.length
  · unfold run at p
    rw [if_pos hl] at p
    refine ⟨wd, _, rfl, sr, ERep.start rp, ?_⟩
    cases hm : m (ds.map some ++ List.replicate (N.length - ds.length) none) wd.S with
    | nx env S => rw [hm] at p; exact fun σ' w' x hs s er => p .non w' x hs s (by simp [Rep])
    | ret d S => rw [hm] at p; exact p
    | brk _ _ => rw [hm] at p; exact p.elim
    | ct _ _ => rw [hm] at p; exact p.elim
    | exc e env S => rw [hm] at p; exact fun C dx σ' w' x hs s er xr => p C dx w' x hs s xr
    | bad => rw [hm] at p; exact p.elim
  · rw [run_ar ds wd.S hl] at p; exact p.elim
theorem fn_none {nn : Nat} : FnG P w G.K G.mg base nn f fd ps (spOf G fun _ _ => .bad) :=
  ⟨fun vs H Q E ⟨w, ds, _, _, _, p⟩ => p.elim, fun A outer s H args us vs Q E _ _ _ _ ⟨w, ds, _, _, _, p⟩ => p.elim⟩
/-- in a def's own body -/
theorem tk_body {K : PySem.W.Frag} {mg : Str → Option Value} {qual : Str} {scope : Scope} {cdv : Value} {A : Around} {outer : List Env} {s : Shared} {H : Hp} {E : XK} : Takes (cxOf (L2.CX P w) P w K mg base N qual scope f cdv A outer s H E) (WE0 E) := takes_of rfl rfl rfl rfl
theorem po_body {K : PySem.W.Frag} {mg : Str → Option Value} {qual : Str} {scope : Scope} {cdv : Value} {A : Around} {outer : List Env} {s : Shared} {H : Hp} {E : XK} : PassesOwn (model P w) (cxOf (L2.CX P w) P w K mg base N qual scope f cdv A outer s H E).A (cxOf (L2.CX P w) P w K mg base N qual scope f cdv A outer s H E).env (cxOf (L2.CX P w) P w K mg base N qual scope f cdv A outer s H E).xe := passes_of (X := cxOf (L2.CX P w) P w K mg base N qual scope f cdv A outer s H E) rfl
/-- in a comprehension's block nothing is let out -/
theorem tk_blk {X : Cx} {s : Shared} {H : Hp} {sc : Scope} {ce : Env} {fp : List Addr} : Takes (X.blk s H sc ce fp) WF := fun u s' h => by
  obtain ⟨_, _, _, _, _, _, _, _, _, _, _, _, _, _, _, _, z⟩ := h
  exact z.elim
end
end L3
set_option Elab.async false
set_option linter.all false
set_option maxRecDepth 100000
/-! L3H: operations by values. -/
namespace L3
open PySem PySem.Spec PyProof.Rows L2

theorem opI2 {X : Cx} {f : Value → Value → Sem Value} {r r' : R2} (h : OpR X f r) (i : ∀ x y H Q, r' x y H Q → r x y H Q) : OpR X f r' := fun pins s σ H x y v u Q I rx ry q => h pins s σ H x y v u Q I rx ry (i _ _ _ _ q)
theorem unI2 {X : Cx} {f : Value → Sem Value} {r r' : V → Hp → VK → Prop} (h : UnR X f r) (i : ∀ x H Q, r' x H Q → r x H Q) : UnR X f r' := fun pins s σ H x v Q I rx q => h pins s σ H x v Q I rx (i _ _ _ q)
theorem ixI2 {X : Cx} {r r' : R2} (h : IxR X r) (i : ∀ x y H Q, r' x y H Q → r x y H Q) : IxR X r' := fun a b pins s σ H x y v u Q I rx ry q => h a b pins s σ H x y v u Q I rx ry (i _ _ _ _ q)
theorem caI2 {X : Cx} {f : Value} {r r' : List V → Hp → VK → Prop} (h : CallR X f r) (i : ∀ xs H Q, r' xs H Q → r xs H Q) : CallR X f r' := fun pins s σ H xs us Q I rs q => h pins s σ H xs us Q I rs (i _ _ _ q)
theorem mtI2 {X : Cx} {id : String} {r r' : V → List V → Hp → VK → Prop} (h : MtR X id r) (i : ∀ x xs H Q, r' x xs H Q → r x xs H Q) : MtR X id r' := fun pins s σ H x xs v us Q I rx rs q => h pins s σ H x xs v us Q I rx rs (i _ _ _ _ q)

section
variable {G : GC} {w : Wd}
/-- a list, however it is kept -/
def asL (x : D) (S : Store) : Option (List D) := match x with
  | .lst l => some l
  | .obj n => match S[n]? with
    | some (.lst l) => some l
    | _ => none
  | _ => none
theorem asL_rep {x : D} {v : V} {l : List D} (sr : SRep G w) (h : Rep G w x v) (e : asL x w.S = some l) : ∃ a vs, v = .ref a ∧ w.H a = some (.lst vs) ∧ RepL G w l vs := by
  cases x with
  | lst l' =>
    cases e
    simp only [Rep] at h
    obtain ⟨a, vs, rfl, h1, _, h2⟩ := h
    exact ⟨a, vs, rfl, h1, h2⟩
  | obj n =>
    simp only [Rep] at h
    obtain ⟨a, h1, rfl⟩ := h
    unfold asL at e
    dsimp only at e
    cases hn : w.S[n]? with
    | none => rw [hn] at e; cases e
    | some o =>
      rw [hn] at e
      cases o with
      | lst l' =>
        cases e
        obtain ⟨vs, q1, q2⟩ := sr.obj n _ a hn h1
        exact ⟨a, vs, rfl, q1, q2⟩
      | _ => cases e
  | _ => cases e
/-- a new list, a new tuple -/
theorem new_lst {l : List D} {vs : List V} {S : Store} {Q : VK} {E : Value → Option Addr → Hp → Prop} (sr : SRep G w) (rl : RepL G w l vs) (p : Post G w (.ok (.lst l) w.S) (Rep G) Q E) (a : Addr) (ha : w.H a = none) : Q (.ref a) (upd w.H a (.lst vs)) := by
  obtain ⟨x, s, nm⟩ := new_ext (o := .lst vs) sr ha
  exact p (.ref a) _ x rfl s (by simp only [Rep]; exact ⟨a, vs, rfl, upd_same, nm, RepL.mono x _ _ rl⟩)
theorem new_tup {l : List D} {vs : List V} {Q : VK} {E : Value → Option Addr → Hp → Prop} (sr : SRep G w) (rl : RepL G w l vs) (p : Post G w (.ok (.tup l) w.S) (Rep G) Q E) (a : Addr) (ha : w.H a = none) : Q (.ref a) (upd w.H a (.tup vs)) := by
  obtain ⟨x, s, nm⟩ := new_ext (o := .tup vs) sr ha
  exact p (.ref a) _ x rfl s (by simp only [Rep]; exact ⟨a, vs, rfl, .inl ⟨.inl upd_same, nm⟩, RepL.mono x _ _ rl⟩)
theorem new_lobj {l : List D} {vs : List V} {Q : VK} {E : Value → Option Addr → Hp → Prop} (sr : SRep G w) (rl : RepL G w l vs) (p : Post G w (.ok (.obj w.S.length) (w.S ++ [.lst l])) (Rep G) Q E) (a : Addr) (ha : w.H a = none) : Q (.ref a) (upd w.H a (.lst vs)) := by
  obtain ⟨x, s⟩ := new_obj (ob := .lst l) (o := .lst vs) sr ha fun w' x e => ⟨vs, e, RepL.mono x _ _ rl⟩
  exact p (.ref a) _ x rfl s (by simp only [Rep]; exact ⟨a, by rw [← sr.len]; simp, rfl⟩)
theorem SqT_of {a : Addr} {vs : List V} (h : Fz w a (.tup vs) ∨ KT G.K a vs) : SqT G.K w.H a vs := h.imp (fun z => z.1) id
end

/-! ### a text times an int -/
def repS (z : Str) (k : Int) : Str := ⟨(List.replicate k.toNat z.cps.toList).flatten.toArray⟩
theorem fold_app : ∀ (l : List (Array Nat)) (a : Array Nat), (l.foldl (· ++ ·) a).toList = a.toList ++ (l.map Array.toList).flatten
  | [], a => by simp
  | x :: l, a => by simp [fold_app l]
theorem repS_fold (z : Str) (k : Int) : (⟨(List.replicate k.toNat z.cps).foldl (· ++ ·) #[]⟩ : Str) = repS z k := by
  unfold repS
  congr 1
  apply Array.ext'
  rw [fold_app]; simp
theorem repS_one (z : Str) : repS z 1 = z := by
  unfold repS; simp
theorem repS_nil {z : Str} (k : Int) (h : z.length = 0) : repS z k = z := by
  have e : z.cps = #[] := Array.eq_empty_of_size_eq_zero h
  obtain ⟨c⟩ := z
  simp only at e; subst e
  unfold repS; simp
theorem repS_lt {z : Str} {k : Int} (h : k < 1) : repS z k = Str.empty := by
  unfold repS
  rw [show k.toNat = 0 by omega]; rfl
theorem repS_len (z : Str) (k : Int) : (repS z k).length = k.toNat * z.length := by
  show (repS z k).cps.size = k.toNat * z.cps.size
  unfold repS; simp
theorem op_repS {X : Cx} : OpR X (binaryOp .Mult) (fun x y H Q => ∃ z k, x = .str z ∧ y = .int k ∧ -(2 ^ 63) ≤ k ∧ k < 2 ^ 63 ∧ z.length * k.toNat ≤ sizeLine ∧ Q (.str (repS z k)) H) := by
  intro pins s σ H x y v u Q I rx ry h
  obtain ⟨z, k, rfl, rfl, h1, h2, h3, q⟩ := h
  obtain ⟨t, rfl⟩ := rx
  obtain ⟨t', rfl⟩ := ry
  refine P.mul_str (by simp; omega) (fun h _ => ?_) (fun _ _ => ?_) ?_
  · intro c
    have : (z.length : Int) * k ≤ 2 ^ 24 := by
      have h4 : ((z.length * k.toNat : Nat) : Int) ≤ ((2 ^ 24 : Nat) : Int) := Int.ofNat_le.mpr h3
      rw [Int.natCast_mul, Int.toNat_of_nonneg (by omega)] at h4
      exact h4
    have c2 := (Int.ediv_lt_iff_lt_mul (by omega : 0 < k)).mp c
    omega
  · exact decide_eq_false (Nat.not_lt.mpr h3)
  · split
    · rename_i hk
      rw [repS_lt hk] at q
      exact ⟨by decide, .str Str.empty, H, I.tok _, ⟨_, rfl⟩, q⟩
    · split
      · rename_i hk
        have e : repS z k = z := by
          rw [Bool.or_eq_true] at hk
          rcases hk with hk | hk
          · have := beq_iff_eq.mp hk; subst this; exact repS_one z
          · exact repS_nil k (beq_iff_eq.mp hk)
        rw [e] at q
        exact ⟨.str z, H, I, ⟨_, rfl⟩, q⟩
      · rw [repS_fold]
        refine ⟨?_, .str (repS z k), H, I.tok _, ⟨_, rfl⟩, q⟩
        rw [repS_len]; rw [Nat.mul_comm]; exact h3
/-! ### arithmetic -/
def mulOk (i j : Int) : Bool := decide (((-(2 ^ 64) < i ∧ i < 2 ^ 64) ∨ (-(2 ^ 64) < j ∧ j < 2 ^ 64)) ∨ i.natAbs.log2 + j.natAbs.log2 < 1000000)
def addD : F2 := fun x y S => match x, y with
  | .int i, .int j => .ok (.int (i + j)) S
  | .str a, .str b => if a.length + b.length ≤ sizeLine then .ok (.str (a ++ b)) S else .bad
  | .tup a, .tup b => if a.length + b.length ≤ sizeLine then .ok (.tup (a ++ b)) S else .bad
  | x, y => match asL x S, asL y S with
    | some a, some b => if a.length + b.length ≤ sizeLine then .ok (.lst (a ++ b)) S else .bad
    | _, _ => .bad
def subD : F2 := fun x y S => match x, y with
  | .int i, .int j => .ok (.int (i - j)) S
  | _, _ => .bad
def mulD : F2 := fun x y S => match x, y with
  | .int i, .int j => if mulOk i j then .ok (.int (i * j)) S else .bad
  | .str z, .int k => if -(2 ^ 63) ≤ k ∧ k < 2 ^ 63 ∧ z.length * k.toNat ≤ sizeLine then .ok (.str (repS z k)) S else .bad
  | x, .int k => match asL x S with
    | some a => if -(2 ^ 63) ≤ k ∧ k < 2 ^ 63 ∧ a.length * k.toNat ≤ sizeLine then .ok (.lst (List.replicate k.toNat a).flatten) S else .bad
    | _ => .bad
  | _, _ => .bad
def fdivD : F2 := fun x y S => match x, y with
  | .int i, .int j => if 0 < j ∧ j.natAbs.log2 < 9000 then .ok (.int (i / j)) S else .bad
  | _, _ => .bad
def modD : F2 := fun x y S => match x, y with
  | .int i, .int j => if 0 < j then .ok (.int (i % j)) S else .bad
  | _, _ => .bad
def powD : F2 := fun x y S => match x, y with
  | .int i, .int j => if 0 ≤ j ∧ (Builtin.Int.intBits i : Int) * j ≤ 2 ^ 27 then .ok (.int (i ^ j.toNat)) S else .bad
  | _, _ => .bad
def negD : F1 := fun x S => match x with
  | .int i => .ok (.int (-i)) S
  | _ => .bad
section
variable {G : GC} {X : Cx}
theorem c_add : Calm2 addD := fun x y S => by unfold addD; repeat' split
                                              all_goals trivial
theorem c_sub : Calm2 subD := fun x y S => by unfold subD; repeat' split
                                              all_goals trivial
theorem c_mul : Calm2 mulD := fun x y S => by unfold mulD; repeat' split
                                              all_goals trivial
theorem c_fdiv : Calm2 fdivD := fun x y S => by unfold fdivD; repeat' split
                                                all_goals trivial
theorem c_mod : Calm2 modD := fun x y S => by unfold modD; repeat' split
                                              all_goals trivial
theorem c_pow : Calm2 powD := fun x y S => by unfold powD; repeat' split
                                              all_goals trivial
theorem c_neg : Calm1 negD := fun x S => by unfold negD; repeat' split
                                            all_goals trivial
theorem o_add (hK : X.K = G.K) : OpR X (binaryOp .Add) (r2 G addD) := by
  refine opI2 (op_add.or (op_add_str.or (op_catA.or op_cat))) fun x y H Q q => ?_
  obtain ⟨w, d1, d2, rfl, sr, r1, r2, p⟩ := q
  unfold addD at p
  split at p
  · simp only [Rep] at r1 r2
    exact .inl ⟨_, _, r1, r2, Post.ret (Ra := Rep G) sr (by simp [Rep]) p⟩
  · split at p
    · rename_i hz
      simp only [Rep] at r1 r2
      exact .inr (.inl ⟨_, _, r1, r2, hz, Post.ret (Ra := Rep G) sr (by simp [Rep]) p⟩)
    · exact p.elim
  · split at p
    · rename_i hz
      have r1' := r1
      have r2' := r2
      simp only [Rep] at r1 r2
      obtain ⟨a, vs, rfl, h1, l1⟩ := r1
      obtain ⟨b, us, rfl, h2, l2⟩ := r2
      have e1 := l1.length
      have e2 := l2.length
      refine .inr (.inr (.inl ⟨a, b, vs, us, rfl, rfl, by rw [hK]; exact SqT_of h1, by rw [hK]; exact SqT_of h2, by omega, fun e => ?_, fun _ e => ?_, fun _ _ p' hp' => ?_⟩))
      · have e' := List.eq_nil_of_length_eq_zero (by rw [← e1, e]; rfl)
        rw [e', List.nil_append] at p
        exact Post.ret (Ra := Rep G) sr r2' p
      · have e' := List.eq_nil_of_length_eq_zero (by rw [← e2, e]; rfl)
        rw [e', List.append_nil] at p
        exact Post.ret (Ra := Rep G) sr r1' p
      · exact new_tup sr (l1.append l2) p p' hp'
    · exact p.elim
  · split at p
    · rename_i l1 l2 h1 h2
      split at p
      · rename_i hz
        obtain ⟨a, vs, rfl, e1, q1⟩ := asL_rep sr r1 h1
        obtain ⟨b, us, rfl, e2, q2⟩ := asL_rep sr r2 h2
        refine .inr (.inr (.inr ⟨a, b, vs, us, rfl, rfl, e1, e2, by rw [q1.length, q2.length]; exact hz, fun p' hp' => new_lst (S := w.S) sr (q1.append q2) p p' hp'⟩))
      · exact p.elim
    · exact p.elim
theorem o_sub : OpR X (binaryOp .Sub) (r2 G subD) := by
  refine opI2 op_sub fun x y H Q q => ?_
  obtain ⟨w, d1, d2, rfl, sr, r1, r2, p⟩ := q
  unfold subD at p
  split at p
  · simp only [Rep] at r1 r2
    exact ⟨_, _, r1, r2, Post.ret (Ra := Rep G) sr (by simp [Rep]) p⟩
  · exact p.elim
theorem RepL.rep {w : Wd} {ds : List D} {vs : List V} (h : RepL G w ds vs) : ∀ k : Nat, RepL G w (List.replicate k ds).flatten (List.replicate k vs).flatten
  | 0 => by simp [RepL]
  | k + 1 => by
    simp only [List.replicate_succ, List.flatten_cons]
    exact h.append (RepL.rep h k)
theorem o_mul : OpR X (binaryOp .Mult) (r2 G mulD) := by
  refine opI2 ((op_mul.or op_mulW).or (op_rep.or op_repS)) fun x y H Q q => ?_
  obtain ⟨w, d1, d2, rfl, sr, r1, r2, p⟩ := q
  unfold mulD at p
  split at p
  · simp only [Rep] at r1 r2
    split at p
    · rename_i hz
      rcases of_decide_eq_true hz with hz | hz
      · exact .inl (.inl ⟨_, _, r1, r2, (by unfold CMul; exact hz), Post.ret (Ra := Rep G) sr (by simp [Rep]) p⟩)
      · exact .inl (.inr ⟨_, _, r1, r2, hz, Post.ret (Ra := Rep G) sr (by simp [Rep]) p⟩)
    · exact p.elim
  · simp only [Rep] at r1 r2
    split at p
    · rename_i hz
      exact .inr (.inr ⟨_, _, r1, r2, hz.1, hz.2.1, hz.2.2, Post.ret (Ra := Rep G) sr (by simp [Rep]) p⟩)
    · exact p.elim
  · split at p
    · rename_i l hl
      split at p
      · rename_i hz
        obtain ⟨a, vs, rfl, e1, q1⟩ := asL_rep sr r1 hl
        simp only [Rep] at r2
        refine .inr (.inl ⟨a, _, vs, rfl, r2, e1, hz.1, hz.2.1, by rw [q1.length]; exact hz.2.2, fun p' hp' => new_lst (S := w.S) sr (q1.rep _) p p' hp'⟩)
      · exact p.elim
    · exact p.elim
  · exact p.elim
theorem o_fdiv : OpR X (binaryOp .FloorDiv) (r2 G fdivD) := by
  refine opI2 op_fdivW fun x y H Q q => ?_
  obtain ⟨w, d1, d2, rfl, sr, r1, r2, p⟩ := q
  unfold fdivD at p
  split at p
  · simp only [Rep] at r1 r2
    split at p
    · rename_i hz
      exact ⟨_, _, r1, r2, hz, Post.ret (Ra := Rep G) sr (by simp [Rep]) p⟩
    · exact p.elim
  · exact p.elim
theorem o_mod : OpR X (binaryOp .Mod) (r2 G modD) := by
  refine opI2 op_mod fun x y H Q q => ?_
  obtain ⟨w, d1, d2, rfl, sr, r1, r2, p⟩ := q
  unfold modD at p
  split at p
  · simp only [Rep] at r1 r2
    split at p
    · rename_i hz
      exact ⟨_, _, r1, r2, hz, Post.ret (Ra := Rep G) sr (by simp [Rep]) p⟩
    · exact p.elim
  · exact p.elim
theorem o_pow : OpR X (binaryOp .Pow) (r2 G powD) := by
  refine opI2 (opI (C := fun i j => 0 ≤ j ∧ (Builtin.Int.intBits i : Int) * j ≤ 2 ^ 27) (g := fun i j => i ^ j.toNat) fun _ _ _ _ _ _ _ hc q => pow_int hc.1 hc.2 q) fun x y H Q q => ?_
  obtain ⟨w, d1, d2, rfl, sr, r1, r2, p⟩ := q
  unfold powD at p
  split at p
  · simp only [Rep] at r1 r2
    split at p
    · rename_i hz
      exact ⟨_, _, r1, r2, hz, Post.ret (Ra := Rep G) sr (by simp [Rep]) p⟩
    · exact p.elim
  · exact p.elim
theorem o_neg : UnR X (unaryOp .USub) (r1 G negD) := by
  refine unI2 un_neg fun x H Q q => ?_
  obtain ⟨w, d1, rfl, sr, r1, p⟩ := q
  unfold negD at p
  split at p
  · simp only [Rep] at r1
    exact ⟨_, r1, Post.ret (Ra := Rep G) sr (by simp [Rep]) p⟩
  · exact p.elim
end

/-! ### comparisons of numbers -/
def ltD : F2 := fun x y S => match x, y with
  | .int i, .int j => .ok (.bl (decide (i < j))) S
  | .str a, .str b => .ok (.bl (decide (a.cps.toList < b.cps.toList))) S
  | _, _ => .bad
def leD : F2 := fun x y S => match x, y with
  | .int i, .int j => .ok (.bl (decide (i ≤ j))) S
  | .str a, .str b => .ok (.bl (!decide (b.cps.toList < a.cps.toList))) S
  | _, _ => .bad
def gtD : F2 := fun x y S => match x, y with
  | .int i, .int j => .ok (.bl (decide (j < i))) S
  | .str a, .str b => .ok (.bl (decide (b.cps.toList < a.cps.toList))) S
  | _, _ => .bad
def geD : F2 := fun x y S => match x, y with
  | .int i, .int j => .ok (.bl (decide (j ≤ i))) S
  | .str a, .str b => .ok (.bl (!decide (a.cps.toList < b.cps.toList))) S
  | _, _ => .bad
section
variable {G : GC} {X : Cx}
theorem c_lt : Calm2 ltD := fun x y S => by unfold ltD; repeat' split
                                            all_goals trivial
theorem c_le : Calm2 leD := fun x y S => by unfold leD; repeat' split
                                            all_goals trivial
theorem c_gt : Calm2 gtD := fun x y S => by unfold gtD; repeat' split
                                            all_goals trivial
theorem c_ge : Calm2 geD := fun x y S => by unfold geD; repeat' split
                                            all_goals trivial
theorem o_lt : OpR X (compareOp .Lt) (r2 G ltD) := by
  refine opI2 (op_lt.or L2.op_lt_str) fun x y H Q q => ?_
  obtain ⟨w, d1, d2, rfl, sr, r1, r2, p⟩ := q
  unfold ltD at p
  split at p
  · simp only [Rep] at r1 r2
    exact .inl ⟨_, _, r1, r2, Post.ret (Ra := Rep G) sr (by simp [Rep]) p⟩
  · simp only [Rep] at r1 r2
    exact .inr ⟨_, _, r1, r2, Post.ret (Ra := Rep G) sr (by simp [Rep]) p⟩
  · exact p.elim
theorem o_le : OpR X (compareOp .LtE) (r2 G leD) := by
  refine opI2 (op_le.or L2.op_le_str) fun x y H Q q => ?_
  obtain ⟨w, d1, d2, rfl, sr, r1, r2, p⟩ := q
  unfold leD at p
  split at p
  · simp only [Rep] at r1 r2
    exact .inl ⟨_, _, r1, r2, Post.ret (Ra := Rep G) sr (by simp [Rep]) p⟩
  · simp only [Rep] at r1 r2
    exact .inr ⟨_, _, r1, r2, Post.ret (Ra := Rep G) sr (by simp [Rep]) p⟩
  · exact p.elim
theorem o_gt : OpR X (compareOp .Gt) (r2 G gtD) := by
  refine opI2 (op_gt.or L2.op_gt_str) fun x y H Q q => ?_
  obtain ⟨w, d1, d2, rfl, sr, r1, r2, p⟩ := q
  unfold gtD at p
  split at p
  · simp only [Rep] at r1 r2
    exact .inl ⟨_, _, r1, r2, Post.ret (Ra := Rep G) sr (by simp [Rep]) p⟩
  · simp only [Rep] at r1 r2
    exact .inr ⟨_, _, r1, r2, Post.ret (Ra := Rep G) sr (by simp [Rep]) p⟩
  · exact p.elim
theorem o_ge : OpR X (compareOp .GtE) (r2 G geD) := by
  refine opI2 (op_ge.or L2.op_ge_str) fun x y H Q q => ?_
  obtain ⟨w, d1, d2, rfl, sr, r1, r2, p⟩ := q
  unfold geD at p
  split at p
  · simp only [Rep] at r1 r2
    exact .inl ⟨_, _, r1, r2, Post.ret (Ra := Rep G) sr (by simp [Rep]) p⟩
  · simp only [Rep] at r1 r2
    exact .inr ⟨_, _, r1, r2, Post.ret (Ra := Rep G) sr (by simp [Rep]) p⟩
  · exact p.elim
end

/-! ### data: ==, in -/
mutual
def toPy : D → Option PyData
  | .non => some .none
  | .bl b => some (.bool b)
  | .int i => some (.int i)
  | .str s => if PyData.strOk s = true then some (.str s) else none
  | .tup l => (toPyL l).map .tuple
  | .lst l => (toPyL l).map .list
  | .dic _ _ => none
  | .obj _ => none
  | .glb _ => none
  | .ty _ => none
  | .scr ns => some (.list (ns.map .int))
  | .kd _ _ => none
def toPyL : List D → Option (List PyData)
  | [] => some []
  | d :: ds => match toPy d, toPyL ds with
    | some x, some xs => some (x :: xs)
    | _, _ => none
end
/-- an object of the store as it stands -/
def deref (x : D) (S : Store) : D := match x with
  | .obj n => match S[n]? with
    | some (.lst l) => .lst l
    | _ => x
  | _ => x
def eqD : F2 := fun x y S => match x, y with
  | .str a, .str b => .ok (.bl (a == b)) S
  | .tup l, .tup [] => .ok (.bl l.isEmpty) S
  | x, y => match toPy (deref x S), toPy (deref y S) with
    | some a, some b => if min a.depth b.depth ≤ 64 then .ok (.bl (PyData.eqv a b)) S else .bad
    | _, _ => .bad
def neD : F2 := fun x y S => match x, y with
  | .str a, .str b => .ok (.bl (!(a == b))) S
  | .tup l, .tup [] => .ok (.bl (!l.isEmpty)) S
  | x, y => match toPy (deref x S), toPy (deref y S) with
    | some a, some b => if min a.depth b.depth ≤ 64 then .ok (.bl (!PyData.eqv a b)) S else .bad
    | _, _ => .bad
/-- by what both are -/
theorem eqD_py {x y : D} {S : Store} {a b : PyData} (h1 : toPy (deref x S) = some a) (h2 : toPy (deref y S) = some b) (h : min a.depth b.depth ≤ 64) : eqD x y S = .ok (.bl (PyData.eqv a b)) S := by
  unfold eqD
  split
  · simp only [deref, toPy] at h1 h2
    split at h1 <;> cases h1
    split at h2 <;> cases h2
    simp [PyData.eqv]
  · rename_i l
    simp only [deref, toPy, Option.map_eq_some_iff] at h1 h2
    obtain ⟨xs, e1, rfl⟩ := h1
    obtain ⟨ys, e2, rfl⟩ := h2
    cases e2
    cases l with
    | nil => cases e1; simp [PyData.eqv, PyData.eqvAll]
    | cons d ds =>
      simp only [toPyL] at e1
      split at e1 <;> cases e1
      simp [PyData.eqv, PyData.eqvAll]
  · rw [h1, h2]; simp only; rw [if_pos h]
theorem neD_py {x y : D} {S : Store} {a b : PyData} (h1 : toPy (deref x S) = some a) (h2 : toPy (deref y S) = some b) (h : min a.depth b.depth ≤ 64) : neD x y S = .ok (.bl (!PyData.eqv a b)) S := by
  unfold neD
  split
  · simp only [deref, toPy] at h1 h2
    split at h1 <;> cases h1
    split at h2 <;> cases h2
    simp [PyData.eqv]
  · rename_i l
    simp only [deref, toPy, Option.map_eq_some_iff] at h1 h2
    obtain ⟨xs, e1, rfl⟩ := h1
    obtain ⟨ys, e2, rfl⟩ := h2
    cases e2
    cases l with
    | nil => cases e1; simp [PyData.eqv, PyData.eqvAll]
    | cons d ds =>
      simp only [toPyL] at e1
      split at e1 <;> cases e1
      simp [PyData.eqv, PyData.eqvAll]
  · rw [h1, h2]; simp only; rw [if_pos h]
section
variable {G : GC} {X : Cx} {w : Wd}
theorem c_eq : Calm2 eqD := fun x y S => by unfold eqD; repeat' split
                                            all_goals trivial
theorem c_ne : Calm2 neD := fun x y S => by unfold neD; repeat' split
                                            all_goals trivial
theorem dpI : ∀ (ns : List Int), DpAll G.K w.H (ns.map V.int) (ns.map PyData.int)
  | [] => .nil
  | n :: ns => .cons (.int n) (dpI ns)
mutual
theorem dp_of : ∀ (d : D) (v : V) (x : PyData), Rep G w d v → toPy d = some x → Dp G.K w.H v x ∧ x.canLay0 = true
  | .non, v, x, r, e => by simp only [Rep] at r; cases e; subst r; exact ⟨.non, rfl⟩
  | .bl b, v, x, r, e => by simp only [Rep] at r; cases e; subst r; exact ⟨.bl b, rfl⟩
  | .int i, v, x, r, e => by simp only [Rep] at r; cases e; subst r; exact ⟨.int i, rfl⟩
  | .str s, v, x, r, e => by
    simp only [Rep] at r
    simp only [toPy] at e
    split at e
    · rename_i h
      cases e; subst r; exact ⟨.str s, h⟩
    · cases e
  | .tup l, v, x, r, e => by
    simp only [Rep] at r
    obtain ⟨a, vs, rfl, h1, h2⟩ := r
    simp only [toPy, Option.map_eq_some_iff] at e
    obtain ⟨xs, e1, rfl⟩ := e
    obtain ⟨q1, q2⟩ := dpL_of l vs xs h2 e1
    exact ⟨.tup (SqT_of h1) q1, by simpa [PyData.canLay0] using q2⟩
  | .lst l, v, x, r, e => by
    simp only [Rep] at r
    obtain ⟨a, vs, rfl, h1, _, h2⟩ := r
    simp only [toPy, Option.map_eq_some_iff] at e
    obtain ⟨xs, e1, rfl⟩ := e
    obtain ⟨q1, q2⟩ := dpL_of l vs xs h2 e1
    exact ⟨.lst (SqL.of h1) q1, by simpa [PyData.canLay0] using q2⟩
  | .dic _ _, _, _, _, e => by simp [toPy] at e
  | .obj _, _, _, _, e => by simp [toPy] at e
  | .glb _, _, _, _, e => by simp [toPy] at e
  | .ty _, _, _, _, e => by simp [toPy] at e
  | .kd _ _, _, _, _, e => by simp [toPy] at e
  | .scr ns, v, x, r, e => by
    simp only [Rep] at r
    obtain ⟨a, rfl, h1⟩ := r
    simp only [toPy, Option.some.injEq] at e
    subst e
    refine ⟨.lst (h1.imp (fun z => z.1) id) (dpI ns), ?_⟩
    simp only [PyData.canLay0]
    exact PyProof.Rows.canLayAll_ints ns
theorem dpL_of : ∀ (ds : List D) (vs : List V) (xs : List PyData), RepL G w ds vs → toPyL ds = some xs → DpAll G.K w.H vs xs ∧ PyData.canLayAll0 xs = true
  | [], vs, xs, r, e => by simp only [RepL] at r; simp only [toPyL, Option.some.injEq] at e; subst r e; exact ⟨.nil, rfl⟩
  | d :: ds, vs, xs, r, e => by
    simp only [RepL] at r
    obtain ⟨v, r', rfl, h1, h2⟩ := r
    simp only [toPyL] at e
    split at e
    · rename_i x xs' e1 e2
      cases e
      obtain ⟨q1, q2⟩ := dp_of d v x h1 e1
      obtain ⟨q3, q4⟩ := dpL_of ds r' xs' h2 e2
      exact ⟨.cons q1 q3, by simp [PyData.canLayAll0, q2, q4]⟩
    · cases e
end
theorem deref_rep {x : D} {v : V} (sr : SRep G w) (r : Rep G w x v) {y : PyData} (e : toPy (deref x w.S) = some y) : Dp G.K w.H v y ∧ y.canLay0 = true := by
  cases x with
  | obj n =>
    unfold deref at e
    cases hn : w.S[n]? with
    | none => simp [hn, toPy] at e
    | some o =>
      cases o with
      | lst l =>
        simp only [hn] at e
        obtain ⟨a, vs, rfl, h1, h2⟩ := asL_rep (l := l) sr r (by simp [asL, hn])
        simp only [toPy, Option.map_eq_some_iff] at e
        obtain ⟨xs, e1, rfl⟩ := e
        obtain ⟨q1, q2⟩ := dpL_of l vs xs h2 e1
        exact ⟨.lst (SqL.of h1) q1, by simpa [PyData.canLay0] using q2⟩
      | _ => simp [hn, toPy] at e
  | _ => exact dp_of _ v y r e
end
end L3
set_option Elab.async false
set_option linter.all false
set_option maxRecDepth 100000
/-! L3I: ==, in, is, subscripts, isinstance, built-ins. -/
namespace L3
open PySem PySem.Spec PyProof.Rows L2

section
variable {G : GC} {X : Cx}
theorem o_eq (hK : X.K = G.K) (hu : X.A.units + 64 < cLine) : OpR X (compareOp .Eq) (r2 G eqD) := by
  intro pins s σ H x y v u Q I rx ry q
  obtain ⟨w, d1, d2, rfl, sr, r1, r2, p⟩ := q
  unfold eqD at p
  split at p
  · simp only [Rep] at r1 r2
    subst r1 r2
    exact L2.op_eq pins s σ w.H _ _ v u Q I rx ry ⟨rfl, by rw [L2.dec_str]; exact Post.ret (Ra := Rep G) sr (by simp [Rep]) p⟩
  · rename_i l
    simp only [Rep, RepL] at r1 r2
    obtain ⟨a, vs, rfl, h1, l1⟩ := r1
    obtain ⟨b, us, rfl, h2, rfl⟩ := r2
    cases rx
    cases ry
    obtain ⟨its, rv, tp, _⟩ := I.tuple (xs := vs) (by rw [hK]; exact SqT_of h1)
    obtain ⟨its2, rv2, tp2, _⟩ := I.tuple (xs := []) (by rw [hK]; exact SqT_of h2)
    cases rv2
    have hl := rv.length
    have hl2 := l1.length
    refine SeqAt.RcAt.tuples (e := fun _ => true) tp tp2 (by omega) (fun j h1 h2 => absurd h2 (by simp)) X.prog X.w X.xe (EP X pins σ Q) ?_
    refine ⟨.bl _, w.H, I, rfl, ?_⟩
    have e : ((List.range (min its.toArray.size ([] : List Value).toArray.size)).all (fun _ => true) && its.toArray.size == ([] : List Value).toArray.size) = l.isEmpty := by
      simp only [List.size_toArray, List.length_nil, Nat.min_zero, List.range_zero, List.all_nil, Bool.true_and]
      rw [← hl, hl2]
      cases l <;> rfl
    rw [e]
    exact Post.ret (Ra := Rep G) sr (by simp [Rep]) p
  · split at p
    · rename_i a b h1 h2
      split at p
      · rename_i hm
        obtain ⟨p1, c1⟩ := deref_rep sr r1 h1
        obtain ⟨p2, c2⟩ := deref_rep sr r2 h2
        rw [← hK] at p1 p2
        obtain ⟨as, q1⟩ := Dp.reads I a x v p1 rx
        obtain ⟨bs, q2⟩ := Dp.reads I b y u p2 ry
        exact SeqAt.compareEq_reads q1 q2 c1 c2 (by omega) ⟨.bl _, w.H, I, rfl, Post.ret (Ra := Rep G) sr (by simp [Rep]) p⟩
      · exact p.elim
    · exact p.elim
theorem o_ne (hK : X.K = G.K) (hu : X.A.units + 64 < cLine) : OpR X (compareOp .NotEq) (r2 G neD) := by
  intro pins s σ H x y v u Q I rx ry q
  obtain ⟨w, d1, d2, rfl, sr, r1, r2, p⟩ := q
  unfold neD at p
  split at p
  · simp only [Rep] at r1 r2
    subst r1 r2
    exact L2.op_ne pins s σ w.H _ _ v u Q I rx ry ⟨rfl, by rw [L2.dec_str]; exact Post.ret (Ra := Rep G) sr (by simp [Rep]) p⟩
  · rename_i l
    simp only [Rep, RepL] at r1 r2
    obtain ⟨a, vs, rfl, h1, l1⟩ := r1
    obtain ⟨b, us, rfl, h2, rfl⟩ := r2
    cases rx
    cases ry
    obtain ⟨its, rv, tp, _⟩ := I.tuple (xs := vs) (by rw [hK]; exact SqT_of h1)
    obtain ⟨its2, rv2, tp2, _⟩ := I.tuple (xs := []) (by rw [hK]; exact SqT_of h2)
    cases rv2
    have hl := rv.length
    have hl2 := l1.length
    refine SeqAt.RcNeAt.tuples (e := fun _ => true) tp tp2 (by omega) (fun j h1 h2 => absurd h2 (by simp)) X.prog X.w X.xe (EP X pins σ Q) ?_
    refine ⟨.bl _, w.H, I, rfl, ?_⟩
    have e : ((List.range (min its.toArray.size ([] : List Value).toArray.size)).all (fun _ => true) && its.toArray.size == ([] : List Value).toArray.size) = l.isEmpty := by
      simp only [List.size_toArray, List.length_nil, Nat.min_zero, List.range_zero, List.all_nil, Bool.true_and]
      rw [← hl, hl2]
      cases l <;> rfl
    rw [e]
    exact Post.ret (Ra := Rep G) sr (by simp [Rep]) p
  · split at p
    · rename_i a b h1 h2
      split at p
      · rename_i hm
        obtain ⟨p1, c1⟩ := deref_rep sr r1 h1
        obtain ⟨p2, c2⟩ := deref_rep sr r2 h2
        rw [← hK] at p1 p2
        obtain ⟨as, q1⟩ := Dp.reads I a x v p1 rx
        obtain ⟨bs, q2⟩ := Dp.reads I b y u p2 ry
        exact SeqAt.compareNe_reads q1 q2 c1 c2 (by omega) ⟨.bl _, w.H, I, rfl, Post.ret (Ra := Rep G) sr (by simp [Rep]) p⟩
      · exact p.elim
    · exact p.elim
/-! is -/
def isD : F2 := fun x y S => match y with
  | .non => match x with
    | .non => .ok (.bl true) S
    | _ => .ok (.bl false) S
  | .bl b => match x with
    | .bl a => .ok (.bl (decide (a = b))) S
    | _ => .bad
  | _ => .bad
def isNotD : F2 := fun x y S => match y with
  | .non => match x with
    | .non => .ok (.bl false) S
    | _ => .ok (.bl true) S
  | .bl b => match x with
    | .bl a => .ok (.bl (!decide (a = b))) S
    | _ => .bad
  | _ => .bad
theorem c_is : Calm2 isD := fun x y S => by unfold isD; repeat' split
                                            all_goals trivial
theorem c_isNot : Calm2 isNotD := fun x y S => by unfold isNotD; repeat' split
                                                  all_goals trivial
/-- only None stands for None -/
theorem Rep.non_iff {w : Wd} {d : D} {v : V} (r : Rep G w d v) (hg : ∀ x u, G.mg x = some u → u ≠ Value.none) : v = .non ↔ d = .non := by
  constructor
  · intro e
    subst e
    cases d with
    | non => rfl
    | glb x =>
      simp only [Rep] at r
      obtain ⟨u, h1, h2⟩ := r
      exact absurd h2 (hg x u h1)
    | bl _ => simp [Rep] at r
    | int _ => simp [Rep] at r
    | str _ => simp [Rep] at r
    | tup _ => simp [Rep] at r
    | lst _ => simp [Rep] at r
    | dic _ _ => simp [Rep] at r
    | obj _ => simp [Rep] at r
    | ty _ => simp [Rep] at r
    | scr _ => simp [Rep] at r
    | kd _ _ => simp [Rep] at r
  · rintro rfl; simpa [Rep] using r

/-! in -/
/-- a written dict's item -/
def kdAt : List Str → List D → Str → Option D
  | k :: ks, d :: ds, z => if z = k then some d else kdAt ks ds z
  | _, _, _ => none
/-- the entry of a dict of keys -/
def keyOf : D → Option Key
  | .int i => some (.inl i)
  | .str s => some (.inr s)
  | _ => none
def dGet {κ : Type} [DecidableEq κ] (kvs : List (κ × D)) (k : κ) : Option D := (kvs.find? fun kv => decide (kv.1 = k)).map (·.2)
def memData (x : Option PyData) (y : Option PyData) : Option Bool := match x, y with
  | some a, some (.list xs) => if a.depth ≤ 64 then some (xs.any fun z => PyData.eqv z a) else none
  | some a, some (.tuple xs) => if a.depth ≤ 64 then some (xs.any fun z => PyData.eqv z a) else none
  | _, _ => none
def memKey (x : D) (kvs : List (Key × D)) : Option Bool := match keyOf x with
  | some k => some (dGet kvs k).isSome
  | none => none
def memStr (x : D) (z : Str) : Option Bool := match x with
  | .str c => if c.cps.size = 1 then some (decide (c.cps.getD 0 0 ∈ z.cps.toList)) else none
  | _ => none
def memKd (x : D) (ks : List Str) (l : List D) : Option Bool := match x with
  | .str z => some (kdAt ks l z).isSome
  | _ => none
def memD (x y : D) (S : Store) : Option Bool := match y with
  | .str z => memStr x z
  | .kd ks l => memKd x ks l
  | .dic ks l => memKey x (ks.zip l)
  | .tup l => memData (toPy x) (toPy (.tup l))
  | .lst l => memData (toPy x) (toPy (.lst l))
  | .obj n => match S[n]? with
    | some (.lst l) => memData (toPy x) (toPy (.lst l))
    | some (.dK kvs) => memKey x kvs
    | _ => none
  | _ => none
def inD : F2 := fun x y S => match memD x y S with
  | some b => .ok (.bl b) S
  | none => .bad
def notInD : F2 := fun x y S => match memD x y S with
  | some b => .ok (.bl (!b)) S
  | none => .bad
theorem c_in : Calm2 inD := fun x y S => by unfold inD; split <;> trivial
theorem c_notIn : Calm2 notInD := fun x y S => by unfold notInD; split <;> trivial
theorem str1 {c : Str} (h : c.cps.size = 1) : c = ⟨#[c.cps.getD 0 0]⟩ := by
  obtain ⟨⟨l⟩⟩ := c
  match l, h with
  | [a], _ => rfl
theorem kdAt_look {w : Wd} : ∀ {ks : List Str} {l : List D} {vs : List V} {us : List Value} (z : Str), ks.length = l.length → Vals vs us → RepL G w l vs →
    (match kdAt ks l z with
      | some d => ∃ v u, (ks.zip us).lookup z = some u ∧ RelV v u ∧ Rep G w d v
      | none => (ks.zip us).lookup z = none)
  | [], [], vs, us, z, _, r, h => by simp [kdAt]
  | k :: ks, d :: ds, vs, us, z, hl, r, h => by
    simp only [RepL] at h
    obtain ⟨v, r', rfl, h1, h2⟩ := h
    cases r with
    | cons ru rr =>
      rename_i u us'
      unfold kdAt
      by_cases e : z = k
      · subst e
        rw [if_pos rfl]
        exact ⟨v, u, by simp [List.lookup], ru, h1⟩
      · rw [if_neg e]
        have := kdAt_look z (by simpa using hl) rr h2
        have e2 : ((k :: ks).zip (u :: us')).lookup z = (ks.zip us').lookup z := by
          simp only [List.zip_cons_cons, List.lookup]
          have : (z == k) = false := by simpa using e
          rw [this]
        rw [e2]
        exact this
theorem dGet_rep {κ : Type} [DecidableEq κ] {w : Wd} : ∀ {kvs : List (κ × D)} {vs : List (κ × V)} (k : κ), RepKV G w kvs vs →
    (match dGet kvs k with
      | some d => ∃ v, valV vs k = some v ∧ Rep G w d v
      | none => valV vs k = none)
  | [], vs, k, h => by
    have : vs = [] := h
    subst this; rfl
  | p :: r, vs, k, h => by
    obtain ⟨v, y, rfl, h1, h2⟩ := h
    have ih := dGet_rep k h2
    by_cases e : p.1 = k
    · have e1 : dGet (p :: r) k = some p.2 := by simp [dGet, List.find?_cons, e]
      rw [e1, L2.valV_pos (p := (p.1, v)) e]
      exact ⟨v, rfl, h1⟩
    · have e1 : dGet (p :: r) k = dGet r k := by simp [dGet, List.find?_cons, e]
      rw [e1, L2.valV_neg (p := (p.1, v)) e]
      exact ih
theorem zip_kv {κ : Type} {w : Wd} : ∀ {ks : List κ} {l : List D} {vs : List V}, ks.length = l.length → RepL G w l vs → RepKV G w (ks.zip l) (ks.zip vs)
  | [], [], vs, _, h => by simp only [RepL] at h; subst h; rfl
  | k :: ks, d :: ds, vs, hl, h => by
    simp only [RepL] at h
    obtain ⟨v, r, rfl, h1, h2⟩ := h
    exact ⟨v, _, rfl, h1, zip_kv (by simpa using hl) h2⟩
theorem keyOf_rep {w : Wd} {d : D} {v : V} {k : Key} (r : Rep G w d v) (e : keyOf d = some k) : v = kV k := by
  cases d with
  | int i => cases e; simp only [Rep] at r; exact r
  | str s => cases e; simp only [Rep] at r; exact r
  | _ => cases e
/-- what a membership's answer rests on -/
theorem mem_ok (hK : X.K = G.K) (hw : X.w = G.w) (hu : X.A.units + 65 < cLine) {neg : Bool} {op : CmpOp} (ho : op = if neg then .NotIn else .In) {pins : List (Addr × Obj)} {s : Shared} {σ : L2.St} {w : Wd} {x y : V} {v u : Value} {Q : VK} {d1 d2 : D} {b : Bool}
    (I : Inv X pins σ w.H s) (rx : RelV x v) (ry : RelV y u) (sr : SRep G w) (r1 : Rep G w d1 x) (r2 : Rep G w d2 y) (e : memD d1 d2 w.S = some b) (q : Q (.bl (if neg then !b else b)) w.H) :
    wpAny (model X.prog X.w) X.A (compareOp op v u) (EP X pins σ Q) X.xe s := by
  have data : ∀ {a : PyData} {xs : List PyData} {isL : Bool}, toPy d1 = some a → toPy (deref d2 w.S) = some (if isL then .list xs else .tuple xs) → a.depth ≤ 64 → b = (xs.any fun z => PyData.eqv z a) →
      wpAny (model X.prog X.w) X.A (compareOp op v u) (EP X pins σ Q) X.xe s := fun {a xs isL} h1 h2 hd hb => by
    obtain ⟨p1, c1⟩ := dp_of d1 x a r1 h1
    obtain ⟨p2, c2⟩ := deref_rep sr r2 h2
    rw [← hK] at p1 p2
    obtain ⟨as, q1⟩ := Dp.reads I a x v p1 rx
    obtain ⟨bs, q2⟩ := Dp.reads I _ y u p2 ry
    have room : X.A.units + 1 + min (PyData.depthAll xs) a.depth < cLine := by omega
    subst hb
    cases isL <;> cases neg <;> simp only [if_true, Bool.false_eq_true, if_false, PyData.canLay0] at q2 c2 ho q <;> subst ho
    · exact SeqAt.in_tuple_reads q2 q1 c2 c1 room ⟨.bl _, w.H, I, rfl, q⟩
    · exact SeqAt.notIn_tuple_reads q2 q1 c2 c1 room ⟨.bl _, w.H, I, rfl, q⟩
    · exact SeqAt.in_list_reads q2 q1 c2 c1 room ⟨.bl _, w.H, I, rfl, q⟩
    · exact SeqAt.notIn_list_reads q2 q1 c2 c1 room ⟨.bl _, w.H, I, rfl, q⟩
  have dK : ∀ {a : Addr} {kvs : List (Key × D)} {vs : List (Key × V)} {k : Key}, y = .ref a → w.H a = some (.dK vs) → RepKV G w kvs vs → keyOf d1 = some k → b = (dGet kvs k).isSome → wpAny (model X.prog X.w) X.A (compareOp op v u) (EP X pins σ Q) X.xe s := fun {a kvs vs k} ey h1 h2 hk hb => by
    subst ey
    cases ry
    have ex := keyOf_rep r1 hk
    subst ex
    have g : DGet w.H a (kV k) (valV vs k) := DGet.k h1
    have eb : (valV vs k).isSome = b := by
      have := dGet_rep k h2
      rw [hb]
      cases hg : dGet kvs k with
      | none => rw [hg] at this; simp only at this; rw [this]; rfl
      | some d => rw [hg] at this; simp only at this; obtain ⟨z, e1, _⟩ := this; rw [e1]; rfl
    cases neg <;> simp only [if_true, Bool.false_eq_true, if_false] at ho q <;> subst ho
    · exact L2.d_in (by omega) I g rx fun s' I' => ⟨.bl _, w.H, I', rfl, by rw [eb]; exact q⟩
    · exact L2.d_notIn (by omega) I g rx fun s' I' => ⟨.bl _, w.H, I', rfl, by rw [eb]; exact q⟩
  have data' : ∀ {l : List D} {isL : Bool}, (if isL then (toPy (.lst l)) else toPy (.tup l)) = toPy (deref d2 w.S) → memData (toPy d1) (if isL then (toPy (.lst l)) else toPy (.tup l)) = some b → wpAny (model X.prog X.w) X.A (compareOp op v u) (EP X pins σ Q) X.xe s := fun {l isL} h e => by
    rw [h] at e
    unfold memData at e
    split at e
    · rename_i a xs h1 h2
      split at e
      · cases e; exact data (isL := true) h1 h2 (by assumption) rfl
      · cases e
    · rename_i a xs h1 h2
      split at e
      · cases e; exact data (isL := false) h1 h2 (by assumption) rfl
      · cases e
    · cases e
  cases d2 with
  | str z =>
    simp only [memD, memStr] at e
    split at e
    · split at e
      · rename_i c hc
        simp only [Rep] at r1 r2
        subst r1 r2
        cases e
        cases neg <;> simp only [if_true, Bool.false_eq_true, if_false] at ho q <;> subst ho
        · exact L2.op_in_sign pins s σ w.H _ _ v u Q I rx ry ⟨_, z, by rw [← str1 hc], rfl, q⟩
        · exact L2.op_notIn_sign pins s σ w.H _ _ v u Q I rx ry ⟨_, z, by rw [← str1 hc], rfl, q⟩
      · cases e
    · cases e
  | kd ks l =>
    simp only [memD, memKd] at e
    split at e
    · rename_i z
      simp only [Rep] at r1 r2
      subst r1
      obtain ⟨a, es, n, vs, us, rfl, kd, hn, hl, rv, rl⟩ := r2
      cases e
      have look := kdAt_look z hl rv rl
      have hb : ((ks.zip us).lookup z).isSome = (kdAt ks l z).isSome := by
        cases hk : kdAt ks l z with
        | none => rw [hk] at look; simp only at look; rw [look]; rfl
        | some d => rw [hk] at look; simp only at look; obtain ⟨_, u', e1, _⟩ := look; rw [e1]; rfl
      rw [← hb] at q
      have kd' : KDict X.K X.w a es n := by rw [hK, hw]; exact kd
      cases neg <;> simp only [if_true, Bool.false_eq_true, if_false] at ho q <;> subst ho
      · exact L2.op_in_kd kd' pins s σ w.H _ _ v u Q I rx ry ⟨z, _, rfl, rfl, by rw [hK]; exact hn z, q⟩
      · exact L2.op_notIn_kd kd' pins s σ w.H _ _ v u Q I rx ry ⟨z, _, rfl, rfl, by rw [hK]; exact hn z, q⟩
    · cases e
  | dic ks l =>
    simp only [memD, memKey] at e
    split at e
    · rename_i k hk
      simp only [Rep] at r2
      obtain ⟨a, vs, rfl, h1, nm, hl, h2⟩ := r2
      cases e
      exact dK rfl h1 (zip_kv hl h2) hk rfl
    · cases e
  | tup l => exact data' (l := l) (isL := false) rfl e
  | lst l => exact data' (l := l) (isL := true) rfl e
  | obj n =>
    simp only [memD] at e
    split at e
    · rename_i l hn
      exact data' (l := l) (isL := true) (by simp [deref, hn]) e
    · rename_i kvs hn
      unfold memKey at e
      split at e
      · rename_i k hk
        cases e
        simp only [Rep] at r2
        obtain ⟨a, hm, rfl⟩ := r2
        obtain ⟨vs, h1, h2⟩ := sr.obj n _ a hn hm
        exact dK rfl h1 h2 hk rfl
      · cases e
    · cases e
  | _ => simp [memD] at e
theorem o_in (hK : X.K = G.K) (hw : X.w = G.w) (hu : X.A.units + 65 < cLine) : OpR X (compareOp .In) (r2 G inD) := by
  intro pins s σ H x y v u Q I rx ry q
  obtain ⟨w, d1, d2, rfl, sr, r1, r2, p⟩ := q
  unfold inD at p
  split at p
  · rename_i b e
    exact mem_ok (neg := false) hK hw hu rfl I rx ry sr r1 r2 e (Post.ret (Ra := Rep G) sr (by simp [Rep]) p)
  · exact p.elim
theorem o_notIn (hK : X.K = G.K) (hw : X.w = G.w) (hu : X.A.units + 65 < cLine) : OpR X (compareOp .NotIn) (r2 G notInD) := by
  intro pins s σ H x y v u Q I rx ry q
  obtain ⟨w, d1, d2, rfl, sr, r1, r2, p⟩ := q
  unfold notInD at p
  split at p
  · rename_i b e
    exact mem_ok (neg := true) hK hw hu rfl I rx ry sr r1 r2 e (Post.ret (Ra := Rep G) sr (by simp [Rep]) p)
  · exact p.elim
end
end L3
set_option Elab.async false
set_option linter.all false
set_option maxRecDepth 100000
/-! L3J: subscripts, isinstance, built-ins, stores. -/
namespace L3
open PySem PySem.Spec PyProof.Rows L2

/-! ### subscripts -/
def ixD : F2 := fun x y S => match x with
  | .tup l => match y with
    | .int i => match atI l i with
      | some d => .ok d S
      | none => .bad
    | _ => .bad
  | .str z => match y with
    | .int i => if z.length ≤ sizeLine then match atI z.cps.toList i with
        | some c => .ok (sgn c) S
        | none => .bad
      else .bad
    | _ => .bad
  | .scr ns => match y with
    | .int i => match atI ns i with
      | some n => .ok (.int n) S
      | none => .bad
    | _ => .bad
  | .kd ks l => match y with
    | .str z => match kdAt ks l z with
      | some d => .ok d S
      | none => .bad
    | _ => .bad
  | .dic ks l => match keyOf y with
    | some k => match dGet (ks.zip l) k with
      | some d => .ok d S
      | none => .bad
    | none => .bad
  | .lst l => match y with
    | .int i => match atI l i with
      | some d => .ok d S
      | none => .bad
    | _ => .bad
  | .obj n => match S[n]? with
    | some (.lst l) => match y with
      | .int i => match atI l i with
        | some d => .ok d S
        | none => .bad
      | _ => .bad
    | some (.dK kvs) => match keyOf y with
      | some k => match dGet kvs k with
        | some d => .ok d S
        | none => .bad
      | none => .bad
    | _ => .bad
  | _ => .bad
section
variable {G : GC} {X : Cx} {w : Wd}
theorem c_ix : Calm2 ixD := fun x y S => by unfold ixD; repeat' split
                                            all_goals trivial
theorem RepL.at {l : List D} {vs : List V} {i : Int} {d : D} (r : RepL G w l vs) (e : atI l i = some d) : ∃ v, atI vs i = some v ∧ Rep G w d v := by
  unfold atI at e ⊢
  rw [r.length]
  cases h : ixN l.length i with
  | none => rw [h] at e; cases e
  | some j =>
    rw [h] at e
    exact r.get e
/-- a list's, a tuple's, a text's, a dict's -/
theorem ix_dk (hu : X.A.units + 1 < cLine) : IxR X (fun x y H Q => ∃ a v, x = .ref a ∧ DGet H a y (some v) ∧ Q v H) := by
  intro value slice pins s σ H x y v u Q I rx ry h hs
  obtain ⟨a, z, rfl, g, q⟩ := h
  cases rx
  exact tail_any (dict_typeIs I g) PySem.F.slot_dict_getitem.lookup (d_getItem hu I g ry fun w' s' I' r' => ⟨z, H, I', r', q⟩) hs
theorem o_ix (hK : X.K = G.K) (hw : X.w = G.w) (hu : X.A.units + 1 < cLine) : IxR X (r2 G ixD) := by
  refine ixI2 ((ix_seq (X := X)).or (ix_kdict.or (ix_dk hu))) fun x y H Q q => ?_
  obtain ⟨w, d1, d2, rfl, sr, r1, r2, p⟩ := q
  have dk : ∀ {a : Addr} {kvs : List (Key × D)} {vs : List (Key × V)} {k : Key} {d : D}, x = .ref a → w.H a = some (.dK vs) → RepKV G w kvs vs → keyOf d2 = some k → dGet kvs k = some d → Post G w (.ok d w.S) (Rep G) Q (fun _ _ _ => False) →
      ∃ a v, x = V.ref a ∧ DGet w.H a y (some v) ∧ Q v w.H := fun {a kvs vs k d} ex h1 h2 hk hd p => by
    have ey := keyOf_rep r2 hk
    have := dGet_rep k h2
    rw [hd] at this
    obtain ⟨v, e1, e2⟩ := this
    exact ⟨a, v, ex, by rw [ey, ← e1]; exact DGet.k h1, Post.ret sr e2 p⟩
  have lst : ∀ {l : List D} {i : Int} {d : D}, asL d1 w.S = some l → atI l i = some d → d2 = .int i → Post G w (.ok d w.S) (Rep G) Q (fun _ _ _ => False) → rIx X.K x y w.H Q := fun {l i d} h1 h2 h3 p' => by
    subst h3
    simp only [Rep] at r2
    obtain ⟨a, vs, rfl, e1, rl⟩ := asL_rep sr r1 h1
    obtain ⟨v, e2, rv⟩ := rl.at h2
    exact .inl ⟨a, vs, i, v, rfl, r2, SqL.of e1, e2, Post.ret sr rv p'⟩
  cases d1 with
  | tup l =>
    simp only [ixD] at p
    split at p
    · rename_i i
      split at p
      · rename_i d hd
        simp only [Rep] at r1 r2
        obtain ⟨a, vs, rfl, h1, rl⟩ := r1
        obtain ⟨v, e2, rv⟩ := rl.at hd
        exact .inl (.inr (.inl ⟨a, vs, i, v, rfl, r2, by rw [hK]; exact SqT_of h1, e2, Post.ret sr rv p⟩))
      · exact p.elim
    · exact p.elim
  | str z =>
    simp only [ixD] at p
    split at p
    · rename_i i
      split at p
      · rename_i hz
        split at p
        · rename_i c hc
          simp only [Rep] at r1 r2
          exact .inl (.inr (.inr ⟨z, i, c, r1, r2, hz, hc, Post.ret (Ra := Rep G) sr (by simp [Rep, sgn]) p⟩))
        · exact p.elim
      · exact p.elim
    · exact p.elim
  | scr ns =>
    simp only [ixD] at p
    split at p
    · rename_i i
      split at p
      · rename_i n hn
        simp only [Rep] at r1 r2
        obtain ⟨a, rfl, h1⟩ := r1
        refine .inl (.inl ⟨a, ns.map V.int, i, .int n, rfl, r2, by rw [hK]; exact h1.imp (fun z => z.1) id, ?_, Post.ret (Ra := Rep G) sr (by simp [Rep]) p⟩)
        unfold atI at hn ⊢
        rw [List.length_map]
        cases h : ixN ns.length i with
        | none => rw [h] at hn; cases hn
        | some j => rw [h] at hn; simp only [Option.bind] at hn ⊢; rw [List.getElem?_map, hn]; rfl
      · exact p.elim
    · exact p.elim
  | kd ks l =>
    simp only [ixD] at p
    split at p
    · rename_i z
      split at p
      · rename_i d hd
        simp only [Rep] at r1 r2
        obtain ⟨a, es, n, vs, us, rfl, kd, hn, hl, rv, rl⟩ := r1
        have look := kdAt_look z hl rv rl
        rw [hd] at look
        obtain ⟨v, u, e1, e2, e3⟩ := look
        refine .inr (.inl ⟨a, z, v, rfl, r2, ⟨es, n, u, by rw [hK]; exact kd.at_, by rw [hw]; exact kd.lit, by rw [hK, hn z, e1], e2⟩, Post.ret sr e3 p⟩)
      · exact p.elim
    · exact p.elim
  | dic ks l =>
    simp only [ixD] at p
    split at p
    · rename_i k hk
      split at p
      · rename_i d hd
        simp only [Rep] at r1
        obtain ⟨a, vs, rfl, h1, nm, hl, h2⟩ := r1
        exact .inr (.inr (dk rfl h1 (zip_kv hl h2) hk hd p))
      · exact p.elim
    · exact p.elim
  | lst l =>
    simp only [ixD] at p
    split at p
    · split at p
      · rename_i d hd
        exact .inl (lst rfl hd rfl p)
      · exact p.elim
    · exact p.elim
  | obj n =>
    simp only [ixD] at p
    split at p
    · rename_i l hn
      split at p
      · split at p
        · rename_i d hd
          exact .inl (lst (by simp [asL, hn]) hd rfl p)
        · exact p.elim
      · exact p.elim
    · rename_i kvs hn
      split at p
      · rename_i k hk
        split at p
        · rename_i d hd
          simp only [Rep] at r1
          obtain ⟨a, hm, rfl⟩ := r1
          obtain ⟨vs, h1, h2⟩ := sr.obj n _ a hn hm
          exact .inr (.inr (dk rfl h1 h2 hk hd p))
        · exact p.elim
      · exact p.elim
    · exact p.elim
  | _ => exact p.elim

/-! ### isinstance -/
def tyD (x : D) (S : Store) : Option String := match x with
  | .non => some "NoneType"
  | .bl _ => some "bool"
  | .int _ => some "int"
  | .str _ => some "str"
  | .tup _ => some "tuple"
  | .lst _ => some "list"
  | .dic _ _ => some "dict"
  | .kd _ _ => some "dict"
  | .obj n => match S[n]? with
    | some (.lst _) => some "list"
    | some (.dK _) => some "dict"
    | some (.dT _) => some "dict"
    | _ => none
  | _ => none
def isiD : FN := fun xs S => match xs with
  | [x, .ty T] => match tyD x S with
    | some t => match kitB t T with
      | some b => .ok (.bl b) S
      | none => .bad
    | none => .bad
  | _ => .bad
theorem c_isi : CalmN isiD := fun xs S => by unfold isiD; repeat' split
                                             all_goals trivial
theorem tyx {x : D} {v : V} {t : String} (sr : SRep G w) (r : Rep G w x v) (e : tyD x w.S = some t) : TyX G.K w.H v (.type t) := by
  cases x with
  | non => simp only [Rep] at r; cases e; subst r; exact .base .non
  | bl b => simp only [Rep] at r; cases e; subst r; exact .base (.bl b)
  | int i => simp only [Rep] at r; cases e; subst r; exact .base (.int i)
  | str s => simp only [Rep] at r; cases e; subst r; exact .base (.str s)
  | tup l =>
    simp only [Rep] at r
    cases e
    obtain ⟨a, vs, rfl, h1, _⟩ := r
    rcases h1 with ⟨h | ⟨o, h⟩, _⟩ | ⟨o, its, n, h, hc, _⟩
    · exact .base (.tup h)
    · exact .fTuple h
    · exact .kTuple h hc
  | lst l =>
    simp only [Rep] at r
    cases e
    obtain ⟨a, vs, rfl, h1, _⟩ := r
    exact .base (.lst h1)
  | dic ks l =>
    simp only [Rep] at r
    cases e
    obtain ⟨a, vs, rfl, h1, _⟩ := r
    exact .base (.dK h1)
  | kd ks l =>
    simp only [Rep] at r
    cases e
    obtain ⟨a, es, n, vs, us, rfl, kd, _⟩ := r
    exact .kDict kd.at_ rfl
  | obj n =>
    simp only [Rep] at r
    obtain ⟨a, hm, rfl⟩ := r
    simp only [tyD] at e
    split at e
    · rename_i l hn
      cases e
      obtain ⟨vs, h1, _⟩ := sr.obj n _ a hn hm
      exact .base (.lst h1)
    · rename_i l hn
      cases e
      obtain ⟨vs, h1, _⟩ := sr.obj n _ a hn hm
      exact .base (.dK h1)
    · rename_i l hn
      cases e
      obtain ⟨vs, h1, _⟩ := sr.obj n _ a hn hm
      exact .base (.dT h1)
    · cases e
  | _ => cases e
theorem o_isi (hK : X.K = G.K) : CallR X (.builtin "isinstance") (rN G isiD) := by
  refine caI2 call_isi fun xs H Q q => ?_
  obtain ⟨w, ds, rfl, sr, rl, p⟩ := q
  unfold isiD at p
  split at p
  · rename_i x T
    split at p
    · rename_i t ht
      split at p
      · rename_i b hb
        simp only [RepL, Rep] at rl
        obtain ⟨v, r', rfl, r1, v2, r'', rfl, rfl, rfl⟩ := rl
        exact ⟨v, .ty T, .type t, .type T, b, rfl, .ty T, by rw [hK]; exact tyx sr r1 ht, kit_ty hb, Post.ret (Ra := Rep G) sr (by simp [Rep]) p⟩
      · exact p.elim
    · exact p.elim
  · exact p.elim

/-! ### len -/
def lenD : FN := fun xs S => match xs with
  | [.tup l] => .ok (.int l.length) S
  | [.str s] => if s.length ≤ sizeLine then .ok (.int s.length) S else .bad
  | [.scr ns] => .ok (.int ns.length) S
  | [x] => match asL x S with
    | some l => .ok (.int l.length) S
    | none => .bad
  | _ => .bad
theorem c_len : CalmN lenD := fun xs S => by unfold lenD; repeat' split
                                             all_goals trivial
theorem o_len (hK : X.K = G.K) : CallR X (.builtin "len") (rN G lenD) := by
  refine caI2 call_len fun xs H Q q => ?_
  obtain ⟨w, ds, rfl, sr, rl, p⟩ := q
  unfold lenD at p
  split at p
  · rename_i l
    simp only [RepL, Rep] at rl
    obtain ⟨v, r', rfl, ⟨a, vs, rfl, h1, r1⟩, rfl⟩ := rl
    exact ⟨.ref a, l.length, rfl, .inr ⟨vs, by rw [hK]; exact SqT_of h1, r1.length.symm⟩, Post.ret (Ra := Rep G) sr (by simp [Rep]) p⟩
  · split at p
    · rename_i s hs
      simp only [RepL, Rep] at rl
      obtain ⟨v, r', rfl, rfl, rfl⟩ := rl
      exact ⟨.str s, s.length, rfl, ⟨hs, rfl⟩, Post.ret (Ra := Rep G) sr (by simp [Rep]) p⟩
    · exact p.elim
  · rename_i ns
    simp only [RepL, Rep] at rl
    obtain ⟨v, r', rfl, ⟨a, rfl, h1⟩, rfl⟩ := rl
    exact ⟨.ref a, ns.length, rfl, .inl ⟨ns.map V.int, by rw [hK]; exact h1.imp (fun z => z.1) id, by simp⟩, Post.ret (Ra := Rep G) sr (by simp [Rep]) p⟩
  · split at p
    · rename_i l hl
      simp only [RepL] at rl
      obtain ⟨v, r', rfl, r1, rfl⟩ := rl
      obtain ⟨a, vs, rfl, h1, r2⟩ := asL_rep sr r1 hl
      exact ⟨.ref a, l.length, rfl, .inl ⟨vs, SqL.of h1, r2.length.symm⟩, Post.ret (Ra := Rep G) sr (by simp [Rep]) p⟩
    · exact p.elim
  · exact p.elim

/-! ### all, any, sum, min, max, abs, int, tuple, list -/
def allBls : List D → Option (List Bool)
  | [] => some []
  | .bl b :: r => (allBls r).map (b :: ·)
  | _ => none
def allInts : List D → Option (List Int)
  | [] => some []
  | .int b :: r => (allInts r).map (b :: ·)
  | _ => none
theorem allBls_rep : ∀ {l : List D} {vs : List V} {bs : List Bool}, RepL G w l vs → allBls l = some bs → vs = bs.map V.bl
  | [], vs, bs, r, e => by simp only [RepL] at r; cases e; exact r
  | d :: ds, vs, bs, r, e => by
    simp only [RepL] at r
    obtain ⟨v, r', rfl, h1, h2⟩ := r
    cases d with
    | bl b =>
      simp only [allBls, Option.map_eq_some_iff] at e
      obtain ⟨bs', e1, rfl⟩ := e
      simp only [Rep] at h1
      rw [h1, allBls_rep h2 e1]
      rfl
    | _ => simp [allBls] at e
theorem allInts_rep : ∀ {l : List D} {vs : List V} {bs : List Int}, RepL G w l vs → allInts l = some bs → vs = bs.map V.int
  | [], vs, bs, r, e => by simp only [RepL] at r; cases e; exact r
  | d :: ds, vs, bs, r, e => by
    simp only [RepL] at r
    obtain ⟨v, r', rfl, h1, h2⟩ := r
    cases d with
    | int b =>
      simp only [allInts, Option.map_eq_some_iff] at e
      obtain ⟨bs', e1, rfl⟩ := e
      simp only [Rep] at h1
      rw [h1, allInts_rep h2 e1]
      rfl
    | _ => simp [allInts] at e
def allD : FN := fun xs S => match xs with
  | [x] => match (asL x S).bind allBls with
    | some bs => .ok (.bl (bs.all id)) S
    | none => .bad
  | _ => .bad
def anyD : FN := fun xs S => match xs with
  | [x] => match (asL x S).bind allBls with
    | some bs => .ok (.bl (bs.any id)) S
    | none => .bad
  | _ => .bad
def sumD : FN := fun xs S => match xs with
  | [x] => match (asL x S).bind allInts with
    | some bs => .ok (.int bs.sum) S
    | none => .bad
  | _ => .bad
theorem c_all : CalmN allD := fun xs S => by unfold allD; repeat' split
                                             all_goals trivial
theorem c_any : CalmN anyD := fun xs S => by unfold anyD; repeat' split
                                             all_goals trivial
theorem c_sum : CalmN sumD := fun xs S => by unfold sumD; repeat' split
                                             all_goals trivial
theorem asL_allBls {x : D} {v : V} {bs : List Bool} (sr : SRep G w) (r : Rep G w x v) (e : (asL x w.S).bind allBls = some bs) : ∃ a, v = .ref a ∧ w.H a = some (.lst (bs.map V.bl)) := by
  cases h : asL x w.S with
  | none => rw [h] at e; cases e
  | some l =>
    rw [h] at e
    obtain ⟨a, vs, rfl, h1, h2⟩ := asL_rep sr r h
    exact ⟨a, rfl, by rw [h1, allBls_rep h2 e]⟩
theorem asL_allInts {x : D} {v : V} {bs : List Int} (sr : SRep G w) (r : Rep G w x v) (e : (asL x w.S).bind allInts = some bs) : ∃ a, v = .ref a ∧ w.H a = some (.lst (bs.map V.int)) := by
  cases h : asL x w.S with
  | none => rw [h] at e; cases e
  | some l =>
    rw [h] at e
    obtain ⟨a, vs, rfl, h1, h2⟩ := asL_rep sr r h
    exact ⟨a, rfl, by rw [h1, allInts_rep h2 e]⟩
theorem o_all (hc : X.calm = true) : CallR X (.builtin "all") (rN G allD) := by
  refine caI2 (cr_all hc) fun xs H Q q => ?_
  obtain ⟨w, ds, rfl, sr, rl, p⟩ := q
  unfold allD at p
  split at p
  · split at p
    · rename_i bs hb
      simp only [RepL] at rl
      obtain ⟨v, r', rfl, r1, rfl⟩ := rl
      obtain ⟨a, rfl, h⟩ := asL_allBls sr r1 hb
      exact ⟨a, bs, rfl, SqL.of h, Post.ret (Ra := Rep G) sr (by simp [Rep]) p⟩
    · exact p.elim
  · exact p.elim
theorem o_any (hc : X.calm = true) : CallR X (.builtin "any") (rN G anyD) := by
  refine caI2 (cr_any hc) fun xs H Q q => ?_
  obtain ⟨w, ds, rfl, sr, rl, p⟩ := q
  unfold anyD at p
  split at p
  · split at p
    · rename_i bs hb
      simp only [RepL] at rl
      obtain ⟨v, r', rfl, r1, rfl⟩ := rl
      obtain ⟨a, rfl, h⟩ := asL_allBls sr r1 hb
      exact ⟨a, bs, rfl, SqL.of h, Post.ret (Ra := Rep G) sr (by simp [Rep]) p⟩
    · exact p.elim
  · exact p.elim
theorem o_sum (hc : X.calm = true) : CallR X (.builtin "sum") (rN G sumD) := by
  refine caI2 (cr_sum hc) fun xs H Q q => ?_
  obtain ⟨w, ds, rfl, sr, rl, p⟩ := q
  unfold sumD at p
  split at p
  · split at p
    · rename_i bs hb
      simp only [RepL] at rl
      obtain ⟨v, r', rfl, r1, rfl⟩ := rl
      obtain ⟨a, rfl, h⟩ := asL_allInts sr r1 hb
      exact ⟨a, bs, rfl, SqL.of h, Post.ret (Ra := Rep G) sr (by simp [Rep]) p⟩
    · exact p.elim
  · exact p.elim
def maxI : List Int → Option Int
  | [] => none
  | n :: ns => some (ns.foldl (fun m x => if x > m then x else m) n)
def minI : List Int → Option Int
  | [] => none
  | n :: ns => some (ns.foldl (fun m x => if x < m then x else m) n)
theorem fold_max : ∀ (ns : List Int) (n : Int), (ns.foldl (fun m x => if x > m then x else m) n = n ∨ ns.foldl (fun m x => if x > m then x else m) n ∈ ns) ∧ n ≤ ns.foldl (fun m x => if x > m then x else m) n ∧ ∀ y ∈ ns, y ≤ ns.foldl (fun m x => if x > m then x else m) n
  | [], n => ⟨.inl rfl, Int.le_refl _, fun y h => by simp at h⟩
  | a :: ns, n => by
    obtain ⟨m, hm⟩ : ∃ m, m = if a > n then a else n := ⟨_, rfl⟩
    have hm' : (n ≤ m ∧ a ≤ m) ∧ (m = a ∨ m = n) := by rw [hm]; split <;> omega
    simp only [List.foldl_cons]
    rw [← hm]
    obtain ⟨h1, h2, h3⟩ := fold_max ns m
    refine ⟨?_, by omega, fun y hy => ?_⟩
    · rcases h1 with h1 | h1
      · rw [h1]
        rcases hm'.2 with e | e
        · exact .inr (by simp [e])
        · exact .inl e
      · exact .inr (by simp [h1])
    · rcases List.mem_cons.mp hy with e | hy
      · subst e; omega
      · exact h3 y hy
theorem fold_min : ∀ (ns : List Int) (n : Int), (ns.foldl (fun m x => if x < m then x else m) n = n ∨ ns.foldl (fun m x => if x < m then x else m) n ∈ ns) ∧ ns.foldl (fun m x => if x < m then x else m) n ≤ n ∧ ∀ y ∈ ns, ns.foldl (fun m x => if x < m then x else m) n ≤ y
  | [], n => ⟨.inl rfl, Int.le_refl _, fun y h => by simp at h⟩
  | a :: ns, n => by
    obtain ⟨m, hm⟩ : ∃ m, m = if a < n then a else n := ⟨_, rfl⟩
    have hm' : (m ≤ n ∧ m ≤ a) ∧ (m = a ∨ m = n) := by rw [hm]; split <;> omega
    simp only [List.foldl_cons]
    rw [← hm]
    obtain ⟨h1, h2, h3⟩ := fold_min ns m
    refine ⟨?_, by omega, fun y hy => ?_⟩
    · rcases h1 with h1 | h1
      · rw [h1]
        rcases hm'.2 with e | e
        · exact .inr (by simp [e])
        · exact .inl e
      · exact .inr (by simp [h1])
    · rcases List.mem_cons.mp hy with e | hy
      · subst e; omega
      · exact h3 y hy
theorem maxI_eq {ns : List Int} {m k : Int} (h : maxI ns = some k) (h1 : m ∈ ns) (h2 : ∀ y ∈ ns, y ≤ m) : m = k := by
  cases ns with
  | nil => cases h
  | cons n ns =>
    cases h
    obtain ⟨a1, a2, a3⟩ := fold_max ns n
    have le1 : ns.foldl (fun m x => if x > m then x else m) n ≤ m := by
      rcases a1 with e | e
      · rw [e]; exact h2 n (by simp)
      · exact h2 _ (by simp [e])
    have le2 : m ≤ ns.foldl (fun m x => if x > m then x else m) n := by
      rcases List.mem_cons.mp h1 with e | e
      · rw [e]; exact a2
      · exact a3 m e
    omega
theorem minI_eq {ns : List Int} {m k : Int} (h : minI ns = some k) (h1 : m ∈ ns) (h2 : ∀ y ∈ ns, m ≤ y) : m = k := by
  cases ns with
  | nil => cases h
  | cons n ns =>
    cases h
    obtain ⟨a1, a2, a3⟩ := fold_min ns n
    have le1 : m ≤ ns.foldl (fun m x => if x < m then x else m) n := by
      rcases a1 with e | e
      · rw [e]; exact h2 n (by simp)
      · exact h2 _ (by simp [e])
    have le2 : ns.foldl (fun m x => if x < m then x else m) n ≤ m := by
      rcases List.mem_cons.mp h1 with e | e
      · rw [e]; exact a2
      · exact a3 m e
    omega
def maxD : FN := fun xs S => match xs with
  | [.int i, .int j] => .ok (.int (if j > i then j else i)) S
  | [x] => match ((asL x S).bind allInts).bind maxI with
    | some m => .ok (.int m) S
    | none => .bad
  | _ => .bad
def minD : FN := fun xs S => match xs with
  | [.int i, .int j] => .ok (.int (if j < i then j else i)) S
  | [x] => match ((asL x S).bind allInts).bind minI with
    | some m => .ok (.int m) S
    | none => .bad
  | _ => .bad
theorem c_max : CalmN maxD := fun xs S => by unfold maxD; repeat' split
                                             all_goals trivial
theorem c_min : CalmN minD := fun xs S => by unfold minD; repeat' split
                                             all_goals trivial
theorem o_max (hc : X.calm = true) : CallR X (.builtin "max") (rN G maxD) := by
  refine caI2 ((call_max2 hc).or (cr_max hc)) fun xs H Q q => ?_
  obtain ⟨w, ds, rfl, sr, rl, p⟩ := q
  unfold maxD at p
  split at p
  · simp only [RepL, Rep] at rl
    obtain ⟨v, r', rfl, rfl, v2, r'', rfl, rfl, rfl⟩ := rl
    exact .inl ⟨_, _, rfl, Post.ret (Ra := Rep G) sr (by simp [Rep]) p⟩
  · split at p
    · rename_i m hm
      simp only [RepL] at rl
      obtain ⟨v, r', rfl, r1, rfl⟩ := rl
      cases h : (asL _ w.S).bind allInts with
      | none => rw [h] at hm; cases hm
      | some ns =>
        rw [h] at hm
        obtain ⟨a, rfl, ha⟩ := asL_allInts sr r1 h
        refine .inr ⟨a, ns, rfl, SqL.of ha, ?_, fun k hk hle => ?_⟩
        · cases ns with
          | nil => cases hm
          | cons _ _ => simp
        · rw [maxI_eq hm hk hle]
          exact Post.ret (Ra := Rep G) sr (by simp [Rep]) p
    · exact p.elim
  · exact p.elim
theorem o_min (hc : X.calm = true) : CallR X (.builtin "min") (rN G minD) := by
  refine caI2 ((call_min2 hc).or (cr_min hc)) fun xs H Q q => ?_
  obtain ⟨w, ds, rfl, sr, rl, p⟩ := q
  unfold minD at p
  split at p
  · simp only [RepL, Rep] at rl
    obtain ⟨v, r', rfl, rfl, v2, r'', rfl, rfl, rfl⟩ := rl
    exact .inl ⟨_, _, rfl, Post.ret (Ra := Rep G) sr (by simp [Rep]) p⟩
  · split at p
    · rename_i m hm
      simp only [RepL] at rl
      obtain ⟨v, r', rfl, r1, rfl⟩ := rl
      cases h : (asL _ w.S).bind allInts with
      | none => rw [h] at hm; cases hm
      | some ns =>
        rw [h] at hm
        obtain ⟨a, rfl, ha⟩ := asL_allInts sr r1 h
        refine .inr ⟨a, ns, rfl, SqL.of ha, ?_, fun k hk hle => ?_⟩
        · cases ns with
          | nil => cases hm
          | cons _ _ => simp
        · rw [minI_eq hm hk hle]
          exact Post.ret (Ra := Rep G) sr (by simp [Rep]) p
    · exact p.elim
  · exact p.elim
def absD : FN := fun xs S => match xs with
  | [.int i] => .ok (.int (if i < 0 then -i else i)) S
  | _ => .bad
def intD : FN := fun xs S => match xs with
  | [.int i] => .ok (.int i) S
  | [.bl k] => .ok (.int (if k then 1 else 0)) S
  | _ => .bad
theorem c_abs : CalmN absD := fun xs S => by unfold absD; repeat' split
                                             all_goals trivial
theorem c_int : CalmN intD := fun xs S => by unfold intD; repeat' split
                                             all_goals trivial
theorem o_abs : CallR X (.builtin "abs") (rN G absD) := by
  refine caI2 call_abs fun xs H Q q => ?_
  obtain ⟨w, ds, rfl, sr, rl, p⟩ := q
  unfold absD at p
  split at p
  · simp only [RepL, Rep] at rl
    obtain ⟨v, r', rfl, rfl, rfl⟩ := rl
    exact ⟨_, rfl, Post.ret (Ra := Rep G) sr (by simp [Rep]) p⟩
  · exact p.elim
theorem o_int : CallR X (.type "int") (rN G intD) := by
  refine caI2 call_int1 fun xs H Q q => ?_
  obtain ⟨w, ds, rfl, sr, rl, p⟩ := q
  unfold intD at p
  split at p
  · simp only [RepL, Rep] at rl
    obtain ⟨v, r', rfl, rfl, rfl⟩ := rl
    exact .inl ⟨_, rfl, Post.ret (Ra := Rep G) sr (by simp [Rep]) p⟩
  · simp only [RepL, Rep] at rl
    obtain ⟨v, r', rfl, rfl, rfl⟩ := rl
    exact .inr ⟨_, rfl, Post.ret (Ra := Rep G) sr (by simp [Rep]) p⟩
  · exact p.elim
def tupleD : FN := fun xs S => match xs with
  | [.tup l] => .ok (.tup l) S
  | [x] => match asL x S with
    | some l => .ok (.tup l) S
    | none => .bad
  | _ => .bad
def listD : FN := fun xs S => match xs with
  | [.tup l] => .ok (.lst l) S
  | [.scr ns] => .ok (.lst (ns.map .int)) S
  | [x] => match asL x S with
    | some l => .ok (.lst l) S
    | none => .bad
  | _ => .bad
theorem c_tuple : CalmN tupleD := fun xs S => by unfold tupleD; repeat' split
                                                 all_goals trivial
theorem c_list : CalmN listD := fun xs S => by unfold listD; repeat' split
                                               all_goals trivial
theorem o_tuple (hK : X.K = G.K) : CallR X (.type "tuple") (rN G tupleD) := by
  refine caI2 call_tuple_of fun xs H Q q => ?_
  obtain ⟨w, ds, rfl, sr, rl, p⟩ := q
  unfold tupleD at p
  split at p
  · simp only [RepL] at rl
    obtain ⟨v, r', rfl, r1, rfl⟩ := rl
    have r1' := r1
    simp only [Rep] at r1
    obtain ⟨a, vs, rfl, h1, r2⟩ := r1
    exact ⟨a, vs, rfl, .inr ⟨by rw [hK]; exact SqT_of h1, Post.ret (Ra := Rep G) sr r1' p⟩⟩
  · split at p
    · rename_i l hl
      simp only [RepL] at rl
      obtain ⟨v, r', rfl, r1, rfl⟩ := rl
      obtain ⟨a, vs, rfl, h1, r2⟩ := asL_rep sr r1 hl
      exact ⟨a, vs, rfl, .inl ⟨SqL.of h1, fun p' hp' => new_tup sr r2 p p' hp'⟩⟩
    · exact p.elim
  · exact p.elim
theorem o_list (hK : X.K = G.K) : CallR X (.type "list") (rN G listD) := by
  refine caI2 call_list_of fun xs H Q q => ?_
  obtain ⟨w, ds, rfl, sr, rl, p⟩ := q
  unfold listD at p
  split at p
  · simp only [RepL, Rep] at rl
    obtain ⟨v, r', rfl, ⟨a, vs, rfl, h1, r2⟩, rfl⟩ := rl
    exact ⟨a, vs, rfl, .inr (by rw [hK]; exact SqT_of h1), fun p' hp' => new_lst (S := w.S) sr r2 p p' hp'⟩
  · simp only [RepL, Rep] at rl
    obtain ⟨v, r', rfl, ⟨a, rfl, h1⟩, rfl⟩ := rl
    exact ⟨a, _, rfl, .inl (by rw [hK]; exact h1.imp (fun z => z.1) id), fun p' hp' => new_lst (S := w.S) sr (RepL_ints.mpr rfl) p p' hp'⟩
  · split at p
    · rename_i l hl
      simp only [RepL] at rl
      obtain ⟨v, r', rfl, r1, rfl⟩ := rl
      obtain ⟨a, vs, rfl, h1, r2⟩ := asL_rep sr r1 hl
      exact ⟨a, vs, rfl, .inl (SqL.of h1), fun p' hp' => new_lst (S := w.S) sr r2 p p' hp'⟩
    · exact p.elim
  · exact p.elim
end
end L3
set_option Elab.async false
set_option linter.all false
set_option maxRecDepth 100000
/-! L3K: displays, and | or | not as values, chains, methods, stores, targets. -/
namespace L3
open PySem PySem.Spec PyProof.Rows L2

section
variable {G : GC} {X : Cx} {Wx : WX} {pos : Pos} {w : Wd}
theorem c_mkTup : CalmN mkTup := fun xs S => by unfold mkTup; split <;> trivial
theorem c_mkLst : CalmN mkLst := fun xs S => by unfold mkLst; split <;> trivial
theorem q_tup {es : List Expr} {x1} {m : AD} (h : PA X es (tA G m Wx)) : PE X (.Tuple es x1 pos) (tE G (eN mkTup m) Wx) := peI (pe_tup h) fun σ H Q q => by
  obtain ⟨w, env, rfl, sr, er, p⟩ := q
  refine ⟨w, env, rfl, sr, er, (Post.bind (Ra := RepL G) p).mono (fun x H1 m => ?_) fun _ _ _ h => h⟩
  obtain ⟨w1, d1, rfl, x1, s1, rp1, p1⟩ := m
  unfold mkTup at p1
  split at p1
  · exact ⟨by rw [rp1.length]; assumption, fun p' hp' => new_tup s1 rp1 p1 p' hp'⟩
  · exact p1.elim
theorem q_lst {es : List Expr} {m : AD} (h : PA X es (tA G m Wx)) : PE X (.List es pos) (tE G (eN mkLst m) Wx) := peI (pe_lst h) fun σ H Q q => by
  obtain ⟨w, env, rfl, sr, er, p⟩ := q
  refine ⟨w, env, rfl, sr, er, (Post.bind (Ra := RepL G) p).mono (fun x H1 m => ?_) fun _ _ _ h => h⟩
  obtain ⟨w1, d1, rfl, x1, s1, rp1, p1⟩ := m
  unfold mkLst at p1
  split at p1
  · exact ⟨by rw [rp1.length]; assumption, fun p' hp' => new_lst (S := w1.S) s1 rp1 p1 p' hp'⟩
  · exact p1.elim
theorem q_obj {es : List Expr} {m : AD} (h : PA X es (tA G m Wx)) : PE X (.List es pos) (tE G (eN mkObj m) Wx) := peI (pe_lst h) fun σ H Q q => by
  obtain ⟨w, env, rfl, sr, er, p⟩ := q
  refine ⟨w, env, rfl, sr, er, (Post.bind (Ra := RepL G) p).mono (fun x H1 m => ?_) fun _ _ _ h => h⟩
  obtain ⟨w1, d1, rfl, x1, s1, rp1, p1⟩ := m
  unfold mkObj at p1
  split at p1
  · exact ⟨by rw [rp1.length]; assumption, fun p' hp' => new_lobj s1 rp1 p1 p' hp'⟩
  · exact p1.elim
theorem q_ifExp {c a b : Expr} {mc : TD} {ma mb : ED} (hc : PT X c (tT G mc Wx)) (ha : PE X a (tE G ma Wx)) (hb : PE X b (tE G mb Wx)) : PE X (.IfExp c a b pos) (tE G (eIf mc ma mb) Wx) := peI (pe_ifExp hc ha hb) fun σ H Q q => by
  obtain ⟨w, env, rfl, sr, er, p⟩ := q
  refine ⟨w, env, rfl, sr, er, (Post.bind (Ra := fun _ (a b : Bool) => a = b) p).mono (fun x H1 m => ?_) fun _ _ _ h => h⟩
  obtain ⟨w1, d1, rfl, x1, s1, rp1, p1⟩ := m
  subst rp1
  cases d1 with
  | true => exact iteT ⟨w1, env, rfl, s1, er.mono x1, p1⟩
  | false => exact iteF ⟨w1, env, rfl, s1, er.mono x1, p1⟩
/-- the same truth by its value -/
theorem tOfE_post {a : ED} {β : Type} {env : EnvD} {f : Bool → Store → R D} {Q : VK} {E : Value → Option Addr → Hp → Prop} (p : Post G w ((tOfE a env w.S).bind f) (Rep G) Q E) :
    Post G w (a env w.S) (Rep G) (Mid G w (Rep G) fun w1 d => ∃ k, d = .bl k ∧ Post G w1 (f k w1.S) (Rep G) Q E) E := by
  unfold tOfE at p
  rw [R.bind_assoc] at p
  refine (Post.bind (Ra := Rep G) p).mono (fun x H1 m => ?_) fun _ _ _ h => h
  obtain ⟨w1, d1, rfl, x1, s1, rp1, p1⟩ := m
  refine ⟨w1, d1, rfl, x1, s1, rp1, ?_⟩
  cases d1 with
  | bl k => exact ⟨k, rfl, p1⟩
  | _ => exact p1.elim
theorem q_eone {op} {a : Expr} {m : ED} (h : PE X a (tE G m Wx)) : PE X (.BoolOp op [a] pos) (tE G m Wx) := pe_one h
theorem q_eand {a b : Expr} {rest : List Expr} {ma mb : ED} (ha : PE X a (tE G ma Wx)) (hb : PE X (.BoolOp .And (b :: rest) pos) (tE G mb Wx)) : PE X (.BoolOp .And (a :: b :: rest) pos) (tE G (eAnd ma mb) Wx) := peI (pe_and ha hb) fun σ H Q q => by
  obtain ⟨w, env, rfl, sr, er, p⟩ := q
  refine ⟨w, env, rfl, sr, er, (tOfE_post (β := D) p).mono (fun x H1 m => ?_) fun _ _ _ h => h⟩
  obtain ⟨w1, d1, rfl, x1, s1, rp1, k, rfl, p1⟩ := m
  simp only [Rep] at rp1
  refine ⟨k, rp1, ?_⟩
  cases k with
  | true => exact iteT ⟨w1, env, rfl, s1, er.mono x1, p1⟩
  | false => exact iteF (Post.ret (Ra := Rep G) s1 (by simp [Rep]) p1)
theorem q_eor {a b : Expr} {rest : List Expr} {ma mb : ED} (ha : PE X a (tE G ma Wx)) (hb : PE X (.BoolOp .Or (b :: rest) pos) (tE G mb Wx)) : PE X (.BoolOp .Or (a :: b :: rest) pos) (tE G (eOr ma mb) Wx) := peI (pe_or ha hb) fun σ H Q q => by
  obtain ⟨w, env, rfl, sr, er, p⟩ := q
  refine ⟨w, env, rfl, sr, er, (tOfE_post (β := D) p).mono (fun x H1 m => ?_) fun _ _ _ h => h⟩
  obtain ⟨w1, d1, rfl, x1, s1, rp1, k, rfl, p1⟩ := m
  simp only [Rep] at rp1
  refine ⟨k, rp1, ?_⟩
  cases k with
  | true => exact iteT (Post.ret (Ra := Rep G) s1 (by simp [Rep]) p1)
  | false => exact iteF ⟨w1, env, rfl, s1, er.mono x1, p1⟩
theorem q_enot {a : Expr} {ma : ED} (ha : PE X a (tE G ma Wx)) : PE X (.UnaryOp .Not a pos) (tE G (eNot ma) Wx) := peI (pe_not ha) fun σ H Q q => by
  obtain ⟨w, env, rfl, sr, er, p⟩ := q
  refine ⟨w, env, rfl, sr, er, (tOfE_post (β := D) p).mono (fun x H1 m => ?_) fun _ _ _ h => h⟩
  obtain ⟨w1, d1, rfl, x1, s1, rp1, k, rfl, p1⟩ := m
  simp only [Rep] at rp1
  exact ⟨k, rp1, Post.ret (Ra := Rep G) s1 (by simp [Rep]) p1⟩
theorem imp_chain {f g : F2} {a b c : ED} (cf : Calm2 f) (cg : Calm2 g) : ∀ σ H Q, tE G (eChain f g a b c) Wx σ H Q → tChain (r2 G f) (r2 G g) (tE G a Wx) (tE G b Wx) (tE G c Wx) σ H Q := by
  intro σ H Q q
  obtain ⟨w, env, rfl, sr, er, p⟩ := q
  refine ⟨w, env, rfl, sr, er, (Post.bind (Ra := Rep G) p).mono (fun x H1 m => ?_) fun _ _ _ h => h⟩
  obtain ⟨w1, d1, rfl, x1, s1, rp1, p1⟩ := m
  refine ⟨w1, env, rfl, s1, er.mono x1, (Post.bind (Ra := Rep G) p1).mono (fun y H2 m => ?_) fun _ _ _ h => h⟩
  obtain ⟨w2, d2, rfl, x2, s2, rp2, p2⟩ := m
  refine ⟨w2, d1, d2, rfl, s2, Rep.mono x2 _ _ rp1, rp2, ((Post.bind (Ra := Rep G) p2).mono (fun z H3 m => ?_) fun _ _ _ h => h).calm (cf _ _ _)⟩
  obtain ⟨w3, d3, rfl, x3, s3, rp3, p3⟩ := m
  cases d3 with
  | bl k =>
    simp only [Rep] at rp3
    refine ⟨k, rp3, ?_⟩
    cases k with
    | false => exact iteF (Post.ret (Ra := Rep G) s3 (by simp [Rep]) p3)
    | true =>
      refine iteT ⟨w3, env, rfl, s3, ((er.mono x1).mono x2).mono x3, (Post.bind (Ra := Rep G) p3).mono (fun z H4 m => ?_) fun _ _ _ h => h⟩
      obtain ⟨w4, d4, rfl, x4, s4, rp4, p4⟩ := m
      exact ⟨w4, d2, d4, rfl, s4, Rep.mono (WX'.trans x3 x4) _ _ rp2, rp4, p4.calm (cg _ _ _)⟩
  | _ => exact p3.elim
theorem q_chain {op op' : CmpOp} {f g : F2} {a b c : Expr} {ma mb mc : ED} (ho : OpR X (compareOp op) (r2 G f)) (cf : Calm2 f) (ho' : OpR X (compareOp op') (r2 G g)) (cg : Calm2 g) (ha : PE X a (tE G ma Wx)) (hb : PE X b (tE G mb Wx)) (hc : PE X c (tE G mc Wx))
    (hm : lastMarks [op, op'] [b, c] = false := by with_unfolding_all rfl) : PE X (.Compare a [op, op'] [b, c] pos) (tE G (eChain f g ma mb mc) Wx) := peI (pe_chain ho ho' ha hb hc hm) (imp_chain cf cg)
theorem q_tchain {op op' : CmpOp} {f g : F2} {a b c : Expr} {ma mb mc : ED} (ho : OpR X (compareOp op) (r2 G f)) (cf : Calm2 f) (ho' : OpR X (compareOp op') (r2 G g)) (cg : Calm2 g) (ha : PE X a (tE G ma Wx)) (hb : PE X b (tE G mb Wx)) (hc : PE X c (tE G mc Wx))
    (hm : lastMarks [op, op'] [b, c] = false := by with_unfolding_all rfl) : PT X (.Compare a [op, op'] [b, c] pos) (tT G (tOfE (eChain f g ma mb mc)) Wx) := ptI (pt_chain ho ho' ha hb hc hm) fun σ H Q q => by
  obtain ⟨w, env, rfl, sr, er, p⟩ := q
  refine imp_chain cf cg σ w.H _ ⟨w, env, rfl, sr, er, (Post.bind (Ra := Rep G) p).mono (fun x H1 m => ?_) fun _ _ _ h => h⟩
  obtain ⟨w1, d1, rfl, x1, s1, rp1, p1⟩ := m
  cases d1 with
  | bl k =>
    simp only [Rep] at rp1
    exact ⟨k, rp1, Post.ret (Ra := fun _ (a b : Bool) => a = b) s1 rfl p1⟩
  | _ => exact p1.elim
/-- a comparison as a test -/
theorem q_tcmp {op : CmpOp} {f : F2} {a b : Expr} {ma mb : ED} (ho : OpR X (compareOp op) (r2 G f)) (c : Calm2 f) (ha : PE X a (tE G ma Wx)) (hb : PE X b (tE G mb Wx)) (hm : behindInMarks op b = false) : PT X (.Compare a [op] [b] pos) (tT G (tOfE (e2 f ma mb)) Wx) :=
  ptI (pt_cmpR ho ha hb hm) fun σ H Q q => by
    obtain ⟨w, env, rfl, sr, er, p⟩ := q
    refine imp_e2 c σ w.H _ ⟨w, env, rfl, sr, er, (Post.bind (Ra := Rep G) p).mono (fun x H1 m => ?_) fun _ _ _ h => h⟩
    obtain ⟨w1, d1, rfl, x1, s1, rp1, p1⟩ := m
    cases d1 with
    | bl k =>
      simp only [Rep] at rp1
      exact ⟨k, rp1, Post.ret (Ra := fun _ (a b : Bool) => a = b) s1 rfl p1⟩
    | _ => exact p1.elim
theorem q_truth {e : Expr} {m : ED} (hK : X.K = G.K) (h : PE X e (tE G m Wx)) (he : ∀ whole, isTrue e X.env whole = (do let v ← whole; standAt e.pos; holding [v] (truthy v)) := by intro _; rfl) : PT X e (tT G (tTruth m) Wx) := ptI (pt_truth h he) fun σ H Q q => by
  obtain ⟨w, env, rfl, sr, er, p⟩ := q
  refine ⟨w, env, rfl, sr, er, (Post.bind (Ra := Rep G) p).mono (fun x H1 m => ?_) fun _ _ _ h => h⟩
  obtain ⟨w1, d1, rfl, x1, s1, rp1, p1⟩ := m
  have fin : ∀ {k : Bool}, Post G w1 (.ok k w1.S) (fun _ (a b : Bool) => a = b) Q (fun C dx H' => Wx C dx σ H') → Q k w1.H := fun {k} p => Post.ret (Ra := fun _ (a b : Bool) => a = b) s1 rfl p
  have emp : ∀ {l : List D} {vs : List V}, RepL G w1 l vs → (!l.isEmpty) = !vs.isEmpty := fun {l vs} r => by
    have := r.length
    cases l <;> cases vs <;> simp_all
  cases d1 with
  | non => simp only [Rep] at rp1; subst rp1; exact ⟨false, rfl, fin p1⟩
  | bl b => simp only [Rep] at rp1; subst rp1; exact ⟨b, rfl, fin p1⟩
  | int i => simp only [Rep] at rp1; subst rp1; exact ⟨_, rfl, fin p1⟩
  | str s =>
    simp only [Rep] at rp1; subst rp1
    simp only [truthD] at p1
    split at p1
    · rename_i hz
      refine ⟨s.length != 0, ⟨hz, ?_⟩, fin p1⟩
      cases s.length <;> rfl
    · exact p1.elim
  | tup l =>
    simp only [Rep] at rp1
    obtain ⟨a, vs, rfl, h1, r1⟩ := rp1
    exact ⟨_, .inr (.inl ⟨vs, by rw [hK]; exact SqT_of h1, emp r1⟩), fin p1⟩
  | lst l =>
    simp only [Rep] at rp1
    obtain ⟨a, vs, rfl, h1, _, r1⟩ := rp1
    exact ⟨_, .inl ⟨vs, SqL.of h1, emp r1⟩, fin p1⟩
  | obj n =>
    simp only [truthD] at p1
    split at p1
    · rename_i l hn
      obtain ⟨a, vs, rfl, h1, r1⟩ := asL_rep (l := l) s1 rp1 (by simp [asL, hn])
      exact ⟨_, .inl ⟨vs, SqL.of h1, emp r1⟩, fin p1⟩
    · exact p1.elim
  | _ => exact p1.elim

/-! ### methods of built-in types -/
/-- a receiver's type -/
def mtD (x : D) (S : Store) : Option String := match x with
  | .str _ => some "str"
  | .lst _ => some "list"
  | .dic _ _ => some "dict"
  | .obj n => match S[n]? with
    | some (.lst _) => some "list"
    | some (.dK _) => some "dict"
    | some (.dT _) => some "dict"
    | _ => none
  | _ => none
def eBM (T : String) (f : D → FN) (o : ED) (a : AD) : ED := fun env S => (o env S).bind fun x S1 => if mtD x S1 = some T then (a env S1).bind fun xs S2 => f x xs S2 else .bad
theorem tyv {x : D} {v : V} {T : String} (sr : SRep G w) (r : Rep G w x v) (e : mtD x w.S = some T) : tyV G.K T v w.H := by
  cases x with
  | str s => simp only [Rep] at r; cases e; subst r; exact rfl
  | lst l =>
    simp only [Rep] at r
    cases e
    obtain ⟨a, vs, rfl, h1, _⟩ := r
    exact .inl ⟨rfl, vs, SqL.of h1⟩
  | dic ks l =>
    simp only [Rep] at r
    cases e
    obtain ⟨a, vs, rfl, h1, _⟩ := r
    exact .inr (.inr (.inl ⟨rfl, .inl ⟨_, h1⟩⟩))
  | obj n =>
    simp only [Rep] at r
    obtain ⟨a, hm, rfl⟩ := r
    simp only [mtD] at e
    split at e
    · rename_i l hn
      cases e
      obtain ⟨vs, h1, _⟩ := sr.obj n _ a hn hm
      exact .inl ⟨rfl, vs, SqL.of h1⟩
    · rename_i l hn
      cases e
      obtain ⟨vs, h1, _⟩ := sr.obj n _ a hn hm
      exact .inr (.inr (.inl ⟨rfl, .inl ⟨_, h1⟩⟩))
    · rename_i l hn
      cases e
      obtain ⟨vs, h1, _⟩ := sr.obj n _ a hn hm
      exact .inr (.inr (.inl ⟨rfl, .inr ⟨_, h1⟩⟩))
    · cases e
  | _ => cases e
theorem q_bm {o e : Expr} {es : List Expr} {name : Str} {apos cpos : Pos} {T id : String} {f : D → FN} {mo : ED} {ma : AD} (hK : X.K = G.K) (pa : PlainAttrs T) (slot : Slot T name id) (hty : typeOf (.builtin id) = pure (.type "method_descriptor")) (hm : MtR X id (rM G f)) (c : CalmM f) (ho : PE X o (tE G mo Wx)) (ha : PA X (e :: es) (tA G ma Wx))
    (hbase : attributeBase o name X.env (eval o X.env) = eval o X.env := by rfl)
    (hfew : ((backTo cpos (starEach (e :: es) X.env)).all (fun x => !x.1) && (backToKw cpos (keywordEach [] X.env)).all (fun x => x.1.isSome)
      && decide ((e :: es).length + ([] : List Keyword).length + (if ([] : List Keyword).isEmpty then 0 else 1) < 30)) = true := by rfl)
    (hline : (apos.endLine == cpos.line) = true := by rfl) (hs : starEach (e :: es) X.env = (false, eval e X.env) :: starEach es X.env := by rfl) (hplain : (backTo cpos (starEach es X.env)).any (·.1) = false := by rfl) :
    PE X (.Call (.Attribute o name apos) (e :: es) [] cpos) (tE G (eBM T f mo ma) Wx) := peI (pe_bm pa slot hty hm ho ha hbase hfew hline hs hplain) fun σ H Q q => by
  obtain ⟨w, env, rfl, sr, er, p⟩ := q
  refine ⟨w, env, rfl, sr, er, (Post.bind (Ra := Rep G) p).mono (fun x H1 m => ?_) fun _ _ _ h => h⟩
  obtain ⟨w1, d1, rfl, x1, s1, rp1, p1⟩ := m
  split at p1
  · rename_i ht
    refine ⟨by rw [hK]; exact tyv s1 rp1 ht, w1, env, rfl, s1, er.mono x1, (Post.bind (Ra := RepL G) p1).mono (fun x H1 m => ?_) fun _ _ _ h => h⟩
    obtain ⟨w2, d2, rfl, x2, s2, rp2, p2⟩ := m
    exact ⟨w2, d1, d2, rfl, s2, Rep.mono x2 _ _ rp1, rp2, p2.calm (c _ _ _)⟩
  · exact p1.elim
theorem q_bm0 {o : Expr} {name : Str} {apos cpos : Pos} {T id : String} {f : D → FN} {mo : ED} (hK : X.K = G.K) (pa : PlainAttrs T) (slot : Slot T name id) (hty : typeOf (.builtin id) = pure (.type "method_descriptor")) (hm : MtR X id (rM G f)) (c : CalmM f) (ho : PE X o (tE G mo Wx))
    (hbase : attributeBase o name X.env (eval o X.env) = eval o X.env := by rfl) (hline : (apos.endLine == cpos.line) = true := by rfl) : PE X (.Call (.Attribute o name apos) [] [] cpos) (tE G (eBM T f mo aNil) Wx) := peI (pe_bm0 pa slot hty hm ho hbase hline) fun σ H Q q => by
  obtain ⟨w, env, rfl, sr, er, p⟩ := q
  refine ⟨w, env, rfl, sr, er, (Post.bind (Ra := Rep G) p).mono (fun x H1 m => ?_) fun _ _ _ h => h⟩
  obtain ⟨w1, d1, rfl, x1, s1, rp1, p1⟩ := m
  split at p1
  · rename_i ht
    exact ⟨by rw [hK]; exact tyv s1 rp1 ht, w1, d1, [], rfl, s1, rp1, by simp [RepL], p1.calm (c _ _ _)⟩
  · exact p1.elim
/-- what stands in the store at n -/
def lstAt (x : D) (S : Store) : Option (Nat × List D) := match x with
  | .obj n => match S[n]? with
    | some (.lst l) => some (n, l)
    | _ => none
  | _ => none
theorem lstAt_rep {x : D} {v : V} {n : Nat} {l : List D} (sr : SRep G w) (r : Rep G w x v) (e : lstAt x w.S = some (n, l)) : ∃ a vs, v = .ref a ∧ w.S[n]? = some (.lst l) ∧ w.mu[n]? = some a ∧ w.H a = some (.lst vs) ∧ RepL G w l vs := by
  cases x with
  | obj m =>
    simp only [Rep] at r
    obtain ⟨a, hm, rfl⟩ := r
    simp only [lstAt] at e
    split at e
    · rename_i l' hn
      cases e
      obtain ⟨vs, h1, h2⟩ := sr.obj _ _ a hn hm
      exact ⟨a, vs, rfl, hn, hm, h1, h2⟩
    · cases e
  | _ => cases e
/-- a list of the store changes -/
theorem set_lst {n : Nat} {a : Addr} {l l' : List D} {vs' : List V} {d : D} {y : V} {Q : VK} {E : Value → Option Addr → Hp → Prop} (sr : SRep G w) (hn : w.S[n]? = some (.lst l)) (ha : w.mu[n]? = some a) (rl : RepL G w l' vs') (rd : Rep G w d y)
    (p : Post G w (.ok d (w.S.set n (.lst l'))) (Rep G) Q E) : Q y (upd w.H a (.lst vs')) := by
  obtain ⟨x, s⟩ := set_obj (ob' := .lst l') (o := .lst vs') sr hn trivial ha fun w' x e => ⟨vs', e, RepL.mono x _ _ rl⟩
  exact p y _ x rfl s (Rep.mono x _ _ rd)
def appendD : D → FN := fun x xs S => match lstAt x S, xs with
  | some (n, l), [y] => if l.length < sizeLine then .ok .non (S.set n (.lst (l ++ [y]))) else .bad
  | _, _ => .bad
theorem c_append : CalmM appendD := fun x xs S => by unfold appendD; repeat' split
                                                     all_goals trivial
theorem o_append : MtR X "list.append" (rM G appendD) := mtI2 mt_append fun x xs H Q q => by
  obtain ⟨w, d, ds, rfl, sr, r1, rl, p⟩ := q
  unfold appendD at p
  split at p
  · rename_i n l y he
    split at p
    · rename_i hz
      obtain ⟨a, vs, rfl, hn, hm, h1, h2⟩ := lstAt_rep sr r1 he
      simp only [RepL] at rl
      obtain ⟨v, r', rfl, ry, rfl⟩ := rl
      exact ⟨a, vs, v, rfl, rfl, h1, by rw [h2.length]; exact hz, set_lst sr hn hm (h2.append (RepL.one ry)) (by simp [Rep]) p⟩
    · exact p.elim
  · exact p.elim

/-! ### o[i] = v -/
def putD {κ : Type} [DecidableEq κ] (kvs : List (κ × D)) (k : κ) (v : D) : List (κ × D) :=
  if (kvs.any fun kv => decide (kv.1 = k)) = true then kvs.map (fun kv => if kv.1 = k then (kv.1, v) else kv) else kvs ++ [(k, v)]
theorem any_put {κ : Type} [DecidableEq κ] (k : κ) : ∀ {kvs : List (κ × D)} {vs : List (κ × V)}, RepKV G w kvs vs → (kvs.any fun kv => decide (kv.1 = k)) = (vs.any fun kv => decide (kv.1 = k))
  | [], vs, h => by
    have : vs = [] := h
    subst this; rfl
  | p :: r, vs, h => by
    obtain ⟨v, y, rfl, h1, h2⟩ := h
    simp only [List.any_cons, any_put k h2]
theorem map_put {κ : Type} [DecidableEq κ] {d : D} {v : V} (k : κ) (rv : Rep G w d v) : ∀ {kvs : List (κ × D)} {vs : List (κ × V)}, RepKV G w kvs vs →
    RepKV G w (kvs.map (fun kv => if kv.1 = k then (kv.1, d) else kv)) (vs.map (fun kv => if kv.1 = k then (kv.1, v) else kv))
  | [], vs, h => by
    have : vs = [] := h
    subst this; rfl
  | p :: r, vs, h => by
    obtain ⟨u, y, rfl, h1, h2⟩ := h
    simp only [List.map_cons]
    by_cases e : p.1 = k
    · rw [if_pos e, if_pos e]; exact ⟨v, _, rfl, rv, map_put k rv h2⟩
    · rw [if_neg e, if_neg e]; exact ⟨u, _, rfl, h1, map_put k rv h2⟩
theorem RepKV.append {κ : Type} : ∀ {a b : List (κ × D)} {x y : List (κ × V)}, RepKV G w a x → RepKV G w b y → RepKV G w (a ++ b) (x ++ y)
  | [], _, x, _, h, h' => by
    have : x = [] := h
    subst this; exact h'
  | p :: r, b, x, y, h, h' => by
    obtain ⟨u, z, rfl, h1, h2⟩ := h
    exact ⟨u, z ++ y, rfl, h1, RepKV.append h2 h'⟩
theorem RepKV.put {κ : Type} [DecidableEq κ] {kvs : List (κ × D)} {vs : List (κ × V)} {d : D} {v : V} (k : κ) (h : RepKV G w kvs vs) (rv : Rep G w d v) : RepKV G w (putD kvs k d) (putK vs k v) := by
  unfold putD putK
  rw [any_put k h]
  split
  · exact map_put k rv h
  · exact h.append ⟨v, [], rfl, rv, rfl⟩
def setD (o i v : D) (S : Store) : Option Store := match o with
  | .obj n => match S[n]? with
    | some (.lst l) => match i with
      | .int k => match ixN l.length k with
        | some j => some (S.set n (.lst (l.set j v)))
        | none => none
      | _ => none
    | some (.dK kvs) => match keyOf i with
      | some k => if kvs.length < sizeLine then some (S.set n (.dK (putD kvs k v))) else none
      | none => none
    | _ => none
  | _ => none
def gSub (mo mi : ED) : GD := fun v env S => match mo env S with
  | .ok o S1 => match mi env S1 with
    | .ok i S2 => match setD o i v S2 with
      | some S3 => .nx env S3
      | none => .bad
    | _ => .bad
  | _ => .bad
/-- by values -/
def tSetD (G : GC) : TSet := fun o i v H k => ∃ w d1 d2 d3 S', w.H = H ∧ SRep G w ∧ Rep G w d1 o ∧ Rep G w d2 i ∧ Rep G w d3 v ∧ setD d1 d2 d3 w.S = some S' ∧ ∀ w', WExt w w' → w'.S = S' → SRep G w' → k w'.H
theorem RepKV.len {κ : Type} : ∀ {kvs : List (κ × D)} {vs : List (κ × V)}, RepKV G w kvs vs → vs.length = kvs.length
  | [], vs, h => by
    have : vs = [] := h
    subst this; rfl
  | p :: r, vs, h => by
    obtain ⟨u, y, rfl, h1, h2⟩ := h
    simp [RepKV.len h2]
theorem o_set (hu : X.A.units + 1 < cLine) : PSet X (tSetD G) := by
  intro pins s σ H o i v ov iv u Q I ro ri ru q
  obtain ⟨w, d1, d2, d3, S', rfl, sr, r1, r2, r3, e, k⟩ := q
  unfold setD at e
  split at e
  · rename_i n
    split at e
    · rename_i l hn
      split at e
      · rename_i j
        split at e
        · rename_i jj hj
          cases e
          simp only [Rep] at r1 r2
          obtain ⟨a, hm, rfl⟩ := r1
          obtain ⟨vs, h1, h2⟩ := sr.obj n _ a hn hm
          refine set_list pins s σ w.H (.ref a) i v ov iv u Q I ro ri ru ⟨a, vs, j, jj, rfl, r2, h1, by rw [h2.length]; exact hj, ?_⟩
          obtain ⟨x, s'⟩ := set_obj (ob' := .lst (l.set jj d3)) (o := .lst (vs.set jj v)) sr hn trivial hm fun w' x e => ⟨_, e, RepL.mono x _ _ (h2.set jj r3)⟩
          exact k _ x rfl s'
        · cases e
      · cases e
    · rename_i kvs hn
      split at e
      · rename_i kk hk
        split at e
        · rename_i hz
          cases e
          have ek := keyOf_rep r2 hk
          subst ek
          simp only [Rep] at r1
          obtain ⟨a, hm, rfl⟩ := r1
          obtain ⟨vs, h1, h2⟩ := sr.obj n _ a hn hm
          refine set_dict hu pins s σ w.H (.ref a) (kV kk) v ov iv u Q I ro ri ru ⟨a, _, rfl, DPut.k h1 (by rw [h2.len]; exact hz), ?_⟩
          obtain ⟨x, s'⟩ := set_obj (ob' := .dK (putD kvs kk d3)) (o := .dK (putK vs kk v)) sr hn trivial hm fun w' x e => ⟨_, e, RepKV.mono x _ _ (h2.put kk r3)⟩
          exact k _ x rfl s'
        · cases e
      · cases e
    · cases e
  · cases e
theorem q_gsub {o i : Expr} {mo mi : ED} (hu : X.A.units + 1 < cLine) (ho : PE X o (tE G mo Wx)) (hi : PE X i (tE G mi Wx))
    (ha : ∀ v, assign (.Subscript o i pos) X.env v = (do
      let ov ← holding [v] (eval o X.env)
      let iv ← holding [v, ov] (eval i X.env)
      standAt pos
      holding [v, ov, iv] (setItem ov iv v)
      release [v, ov, iv] []) := by intro _; rfl) : PG X (.Subscript o i pos) (tG G (gSub mo mi)) := pgI (pg_sub ho hi (o_set hu) ha) fun v σ H Q q => by
  obtain ⟨w, env, d, rfl, sr, er, rp, p⟩ := q
  unfold gSub at p
  cases h1 : mo env w.S with
  | ok o S1 =>
    rw [h1] at p
    refine ⟨w, env, rfl, sr, er, ?_⟩
    rw [h1]
    intro vo w1 x1 e1 s1 ro
    subst e1
    simp only at p
    cases h2 : mi env w1.S with
    | ok i S2 =>
      rw [h2] at p
      refine ⟨w1, env, rfl, s1, er.mono x1, ?_⟩
      rw [h2]
      intro vi w2 x2 e2 s2 ri
      subst e2
      simp only at p
      cases h3 : setD o i d w2.S with
      | some S3 =>
        rw [h3] at p
        refine ⟨w2, o, i, d, S3, rfl, s2, Rep.mono x2 _ _ ro, ri, Rep.mono (WX'.trans x1 x2) _ _ rp, h3, fun w3 x3 e3 s3 => ?_⟩
        exact p σ w3 (WX'.trans (WX'.trans x1 x2) x3) e3 s3 (((er.mono x1).mono x2).mono x3)
      | none => rw [h3] at p; exact p.elim
    | exc _ _ => rw [h2] at p; exact p.elim
    | bad => rw [h2] at p; exact p.elim
  | exc _ _ => rw [h1] at p; exact p.elim
  | bad => rw [h1] at p; exact p.elim
theorem gn_sub {mo mi : ED} : GOk (gSub mo mi) := fun d env S => by
  unfold gSub
  cases mo env S with
  | ok o S1 =>
    simp only
    cases mi env S1 with
    | ok i S2 =>
      simp only
      cases setD o i d S2 with
      | some S3 => exact .inl ⟨_, _, rfl⟩
      | none => exact .inr rfl
    | exc _ _ => exact .inr rfl
    | bad => exact .inr rfl
  | exc _ _ => exact .inr rfl
  | bad => exact .inr rfl

/-! ### a, b = .. -/
theorem gNames_nx : ∀ {is : List Nat} {ds : List D} {env : EnvD} {S : Store}, (∃ env', gNames is ds env S = .nx env' S) ∨ gNames is ds env S = .bad
  | [], [], _, _ => .inl ⟨_, rfl⟩
  | [], _ :: _, _, _ => .inr rfl
  | _ :: _, [], _, _ => .inr rfl
  | i :: is, d :: ds, env, S => gNames_nx (is := is) (ds := ds) (env := env.set i (some d)) (S := S)
def tGs (G : GC) (is : List Nat) : TGs := fun vs σ H Q => ∃ w env ds env', w.H = H ∧ SRep G w ∧ ERep G w env σ ∧ RepL G w ds vs ∧ gNames is ds env w.S = .nx env' w.S ∧ ∀ σ', ERep G w env' σ' → Q σ' H
theorem pgsI {e : List Expr} {t t' : TGs} (h : PGs X e t) (i : ∀ v σ H Q, t' v σ H Q → t v σ H Q) : PGs X e t' := ⟨fun pins s σ H v u Q I r q => h.run pins s σ H v u Q I r (i _ _ _ _ q)⟩
theorem q_gsnil : PGs X [] (tGs G []) := pgsI pgs_nil fun v σ H Q q => by
  obtain ⟨w, env, ds, env', rfl, sr, er, rl, e, k⟩ := q
  cases ds with
  | nil =>
    simp only [RepL] at rl
    cases e
    exact ⟨rl, k σ er⟩
  | cons _ _ => cases e
theorem q_gscons {e : Expr} {es : List Expr} {i : Nat} {is : List Nat} (h1 : PG X e (L2.gName i)) (h2 : PGs X es (tGs G is))
    (hs : (assignEach (e :: es) X.env).map (·.2) = assign e X.env :: (assignEach es X.env).map (·.2) := by rfl) : PGs X (e :: es) (tGs G (i :: is)) := pgsI (pgs_cons h1 h2 hs) fun v σ H Q q => by
  obtain ⟨w, env, ds, env', rfl, sr, er, rl, e, k⟩ := q
  cases ds with
  | nil => cases e
  | cons d ds =>
    simp only [RepL] at rl
    obtain ⟨v, r, rfl, r1, r2⟩ := rl
    exact ⟨v, r, rfl, w, _, ds, env', rfl, sr, er.set i r1, r2, e, k⟩
theorem q_gtup {es : List Expr} {k : Nat} {is : List Nat} (hK : X.K = G.K) (hc : X.calm = true) (h : PGs X es (tGs G is)) (hn : (assignEach es X.env).length = is.length := by rfl) (hst : (assignEach es X.env).findIdx? (·.1) = none := by rfl) :
    PG X (.Tuple es k pos) (tG G (gTup is)) := pgI (pg_tup hc h hn hst) fun v σ H Q q => by
  obtain ⟨w, env, d, rfl, sr, er, rp, p⟩ := q
  cases d with
  | tup l =>
    simp only [Rep] at rp
    obtain ⟨a, vs, rfl, h1, rl⟩ := rp
    simp only [gTup] at p
    have ln : ∀ {is : List Nat} {l : List D} {env env' : EnvD} {S S' : Store}, gNames is l env S = .nx env' S' → l.length = is.length := by
      intro is
      induction is with
      | nil => intro l env env' S S' e; cases l with
        | nil => rfl
        | cons _ _ => cases e
      | cons i is ih => intro l env env' S S' e; cases l with
        | nil => cases e
        | cons d l => simp only [List.length_cons]; rw [ih e]
    rcases gNames_nx (is := is) (ds := l) (env := env) (S := w.S) with ⟨env', e⟩ | e
    · rw [e] at p
      refine ⟨a, vs, rfl, by rw [hK]; exact SqT_of h1, by rw [rl.length]; exact ln e, w, env, l, env', rfl, sr, er, rl, e, fun σ' er' => p σ' w (.refl _) rfl sr er'⟩
    · rw [e] at p; exact p.elim
  | _ => exact p.elim
theorem gn_name {i : Nat} : GOk (gName i) := fun d env S => .inl ⟨_, _, rfl⟩
theorem gn_tup {is : List Nat} : GOk (gTup is) := fun d env S => by
  cases d with
  | tup l =>
    rcases gNames_nx (is := is) (ds := l) (env := env) (S := S) with ⟨env', e⟩ | e
    · exact .inl ⟨env', S, e⟩
    · exact .inr e
  | _ => exact .inr rfl
/-- a, b = x, y: local names -/
def sPar (is : List Nat) (a : AD) : SD := fun env S => (a env S).toS env fun xs S1 => gNames is xs env S1
theorem q_par {i j : Nat} {x y : Str} {a b : Expr} {m : AD} {px py pt : Pos} {kt k2 pt2} (hc : X.calm = true) (hN : X.N.Nodup) (hi : X.N[i]? = some x) (hj : X.N[j]? = some y) (hij : i ≠ j)
    (hx : X.env.scope.names.lookup x = some .local) (hy : X.env.scope.names.lookup y = some .local) (ha : PA X [a, b] (tA G m Wx))
    (hw : swappedStores [.Tuple [.Name x px, .Name y py] kt pt] (.Tuple [a, b] k2 pt2) X.env = pure (some [x, y]))
    (hs : swapsWithSole [.Tuple [.Name x px, .Name y py] kt pt] (.Tuple [a, b] k2 pt2) pos.line X.env = pure false := by rfl) :
    PS X (.Assign [.Tuple [.Name x px, .Name y py] kt pt] (.Tuple [a, b] k2 pt2) pos) (tS G (sPar [i, j] m) Wx) := psI (ps_par hc hN hi hj hij hx hy ha hw hs) fun D σ H q => by
  obtain ⟨w, env, rfl, sr, er, p⟩ := q
  refine ⟨w, env, rfl, sr, er, (PostS.ofR (Ra := RepL G) er p).mono (fun x H1 m => ?_) fun _ _ _ h => h⟩
  obtain ⟨w1, ds, rfl, x1, s1, rl, p1⟩ := m
  match ds, rl with
  | [d1, d2], rl =>
    simp only [RepL] at rl
    obtain ⟨v1, r1, rfl, q1, v2, r2, rfl, q2, rfl⟩ := rl
    exact ⟨v1, v2, rfl, p1 _ w1 (.refl _) rfl s1 (((er.mono x1).set i q1).set j q2)⟩
  | [], _ => exact p1.elim
  | [_], _ => exact p1.elim
  | _ :: _ :: _ :: _, _ => exact p1.elim
theorem q_par3 {i j l : Nat} {x y z : Str} {a b c : Expr} {m : AD} {px py pz pt : Pos} {kt k2 pt2} (hc : X.calm = true) (hN : X.N.Nodup) (hi : X.N[i]? = some x) (hj : X.N[j]? = some y) (hl : X.N[l]? = some z) (hij : i ≠ j) (hil : i ≠ l) (hjl : j ≠ l)
    (hx : X.env.scope.names.lookup x = some .local) (hy : X.env.scope.names.lookup y = some .local) (hz : X.env.scope.names.lookup z = some .local) (ha : PA X [a, b, c] (tA G m Wx))
    (hw : swappedStores [.Tuple [.Name x px, .Name y py, .Name z pz] kt pt] (.Tuple [a, b, c] k2 pt2) X.env = pure (some [x, y, z]))
    (hs : swapsWithSole [.Tuple [.Name x px, .Name y py, .Name z pz] kt pt] (.Tuple [a, b, c] k2 pt2) pos.line X.env = pure false := by rfl) :
    PS X (.Assign [.Tuple [.Name x px, .Name y py, .Name z pz] kt pt] (.Tuple [a, b, c] k2 pt2) pos) (tS G (sPar [i, j, l] m) Wx) := psI (ps_par3 hc hN hi hj hl hij hil hjl hx hy hz ha hw hs) fun D σ H q => by
  obtain ⟨w, env, rfl, sr, er, p⟩ := q
  refine ⟨w, env, rfl, sr, er, (PostS.ofR (Ra := RepL G) er p).mono (fun x H1 m => ?_) fun _ _ _ h => h⟩
  obtain ⟨w1, ds, rfl, x1, s1, rl, p1⟩ := m
  match ds, rl with
  | [d1, d2, d3], rl =>
    simp only [RepL] at rl
    obtain ⟨v1, r1, rfl, q1, v2, r2, rfl, q2, v3, r3, rfl, q3, rfl⟩ := rl
    exact ⟨v1, v2, v3, rfl, p1 _ w1 (.refl _) rfl s1 ((((er.mono x1).set i q1).set j q2).set l q3)⟩
  | [], _ => exact p1.elim
  | [_], _ => exact p1.elim
  | [_, _], _ => exact p1.elim
  | _ :: _ :: _ :: _ :: _, _ => exact p1.elim
end
end L3
namespace L3
open PySem PySem.Spec PyProof.Rows L2
/-! ### callees, constants, names of built-ins -/
structure Cal (P : Program) (w : World) (G : GC) (base : Heap) (k : Nat) (x : Str) (f : Addr) (fd : FuncData) (ps : List Str) (F : FN) : Prop where
  ok : FnG P w G.K G.mg base k f fd ps (spOf G F)
  m : G.mg x = some (.ref f)
  kp : PySem.W.keepIn G.K (.ref f) = true
/-- how the last parameters are filled by defaults -/
def Bnd (G : GC) (fd : FuncData) (ps : List Str) (dds : List D) : Prop := ∃ dvs ds, Vals dvs ds ∧ Binds G.K fd ps ds ∧ ∀ w, RepL G w dds dvs
theorem bnd0 {G : GC} {fd : FuncData} {ps : List Str} (h : Binds G.K fd ps []) : Bnd G fd ps [] := ⟨[], [], .nil, h, fun w => by simp [RepL]⟩
/-- keywords: ds the positional values, es the keywords' values -/
def Kbd (G : GC) (fd : FuncData) (ps : List Str) (n : Nat) (ks : List Str) (gD : List D → List D → List D) : Prop :=
  ∃ g gV, KBn G.K fd ps n ks g gV ∧ ∀ w ds es vs zs, ds.length = n → es.length = ks.length → RepL G w ds vs → RepL G w es zs → RepL G w (gD ds es) (gV vs zs)
def GRep (G : GC) (x : Str) (d : D) : Prop := ∃ u v, G.mg x = some u ∧ RelV v u ∧ ∀ w, Rep G w d v
def kwK (F : FN) (n m : Nat) (gD : List D → List D → List D) : List D → FN := fun xs zs S => if xs.length = n ∧ zs.length = m then F (gD xs zs) S else .bad
/-- f(.., k = v): positional values, then the keywords' -/
def eKw (f : List D → FN) (a b : AD) : ED := fun env S => (a env S).bind fun xs S1 => (b env S1).bind fun zs S2 => f xs zs S2
theorem u65 {k : Nat} {A : Around} (h : RoomG k A) : A.units + 65 < cLine := by have := h.rm.un; omega
theorem u150 {k : Nat} {A : Around} (h : RoomG k A) : A.units + 150 < cLine := by have := h.rm.un; omega
theorem u1 {k : Nat} {A : Around} (h : RoomG k A) : A.units + 1 < cLine := by have := h.rm.un; omega
section
variable {X : Cx} {G : GC} {Wx : WX} {pos p : Pos} {k : Nat} {f : Addr} {fd : FuncData} {ps : List Str} {F : FN} {x : Str} {e : Expr} {es : List Expr} {dds : List D} {m : AD} {P : Program} {w : World} {base : Heap}
/-- a call by place -/
theorem q_fn (c : Cal X.prog X.w G X.base k x f fd ps F) (b : Bnd G fd ps dds) (hr : RoomG k X.A) (hK : X.K = G.K) (hm : X.mg = G.mg) (hg : Gl X x) (tk : Takes X Wx)
    (ha : PA X (e :: es) (tA G m Wx)) (hdb : (x == ("__debug__" : Str)) = false := by decide) (he : starEach (e :: es) X.env = (false, eval e X.env) :: starEach es X.env := by rfl) (hpl : (backTo pos (starEach es X.env)).any (·.1) = false := by rfl) :
    PE X (.Call (.Name x p) (e :: es) [] pos) (tE G (eN (callK F dds) m) Wx) := by
  obtain ⟨dvs, ds, h1, h2, h3⟩ := b
  exact q_call (by rw [hK, hm]; exact c.ok) hr hg (by rw [hm]; exact c.m) (by rw [hK]; exact c.kp) (by rw [hK]; exact h2) h1 h3 tk ha hdb he hpl
theorem q_fn0 (c : Cal X.prog X.w G X.base k x f fd ps F) (b : Bnd G fd ps dds) (hr : RoomG k X.A) (hK : X.K = G.K) (hm : X.mg = G.mg) (hg : Gl X x) (tk : Takes X Wx)
    (hdb : (x == ("__debug__" : Str)) = false := by decide) : PE X (.Call (.Name x p) [] [] pos) (tE G (eN (callK F dds) aNil) Wx) := by
  obtain ⟨dvs, ds, h1, h2, h3⟩ := b
  exact q_call0 (by rw [hK, hm]; exact c.ok) hr hg (by rw [hm]; exact c.m) (by rw [hK]; exact c.kp) (by rw [hK]; exact h2) h1 h3 tk hdb
/-- a call of a name that holds the def x -/
def eFnL (i : Nat) (x : Str) (F : FN) (a : AD) : ED := fun env S => match env[i]? with
  | some (some (.glb y)) => if y = x then (a env S).bind fun xs S1 => F xs S1 else .bad
  | _ => .bad
theorem q_fnL {i : Nat} {y : Str} (c : Cal X.prog X.w G X.base k x f fd ps F) (b : Bnd G fd ps []) (hr : RoomG k X.A) (hK : X.K = G.K) (hm : X.mg = G.mg) (hN : X.N[i]? = some y) (hv : Vis X.env.scope y) (tk : Takes X Wx)
    (ha : PA X (e :: es) (tA G m Wx)) (hdb : (y == ("__debug__" : Str)) = false := by decide) (hcd : (y == ("__classdict__" : Str)) = false := by decide)
    (he : starEach (e :: es) X.env = (false, eval e X.env) :: starEach es X.env := by rfl) (hpl : (backTo pos (starEach es X.env)).any (·.1) = false := by rfl) : PE X (.Call (.Name y p) (e :: es) [] pos) (tE G (eFnL i x F m) Wx) := by
  obtain ⟨dvs, ds, h1, h2, h3⟩ := b
  have e0 : dvs = [] := by
    have := h3 ⟨[], [], fun _ => none, []⟩
    simpa [RepL] using this
  subst e0
  refine ⟨fun pins s σ H Q I q => ?_⟩
  obtain ⟨wd, env, rfl, sr, er, pp⟩ := q
  unfold eFnL at pp
  split at pp
  · rename_i z hz
    split at pp
    · rename_i ez
      subst ez
      obtain ⟨v, hs, rv⟩ := er.at' i _ hz
      simp only [Rep] at rv
      obtain ⟨u, hu, ru⟩ := rv
      rw [c.m] at hu
      cases hu
      have hv' : v = .ref f := by
        cases v <;> first | (obtain ⟨_, q⟩ := ru; cases q) | (cases ru; rfl) | cases ru
      subst hv'
      refine wpAny_Call_Name_kw (thn ((pe_var (pos := p) hN hv hdb hcd).run pins s σ wd.H (fun v H1 => v = .ref f ∧ H1 = wd.H) I ⟨.ref f, hs, rfl, rfl⟩) fun u s1 ⟨v, H1, I1, r1, q1⟩ => ?_)
      obtain ⟨rfl, rfl⟩ := q1
      cases r1
      have kp : PySem.W.keepIn X.K (.ref f) = true := by rw [hK]; exact c.kp
      refine PySem.W.callWith_K (h₀ := X.base) I.ok.mod.kin kp (thn (ha.run pos pins s1 σ _ _ I1 ⟨wd, env, rfl, sr, er, Post.bind pp⟩) fun us s2 ⟨vs, H2, I2, r, q⟩ => ⟨I2.kIn, ?_⟩) he hpl
      obtain ⟨w1, d1, rfl, x1, s1', rp1, p1⟩ := q
      exact FnG.byPlace (E := WE Wx) (sp := spOf G F) (dvs := []) (by rw [hK, hm]; exact c.ok) hr (by rw [hK]; exact h2) h1 (passAt tk σ) I2 r ⟨w1, d1, rfl, s1', by simpa using rp1, p1⟩
    · exact pp.elim
  · exact pp.elim
/-- keywords' values -/
structure QK (X : Cx) (G : GC) (Wx : WX) (kws : List Keyword) (m : AD) : Prop where
  pk : PK X kws (tA G m Wx)
theorem q_knil : QK X G Wx [] aNil := ⟨⟨fun po pins s σ H Q I q => by
  obtain ⟨w, env, rfl, sr, er, p⟩ := q
  exact pk_nil.run po pins s σ w.H Q I (Post.ret (Ra := RepL G) sr (by simp [RepL]) p)⟩⟩
theorem q_kcons {kws : List Keyword} {nm : Option Str} {kpos : Pos} {a : ED} {b : AD} (ha : PE X e (tE G a Wx)) (hr : QK X G Wx kws b) : QK X G Wx (⟨nm, e, kpos⟩ :: kws) (aCons a b) := ⟨⟨fun po pins s σ H Q I q => by
  refine (pk_cons (nm := nm) (kpos := kpos) ha hr.pk).run po pins s σ H Q I ?_
  obtain ⟨w, env, rfl, sr, er, p⟩ := q
  refine ⟨w, env, rfl, sr, er, (Post.bind (Ra := Rep G) p).mono (fun x H1 m => ?_) fun _ _ _ h => h⟩
  obtain ⟨w1, d1, rfl, x1, s1, rp1, p1⟩ := m
  refine ⟨w1, env, rfl, s1, er.mono x1, (Post.bind (Ra := RepL G) p1).mono (fun y H2 m => ?_) fun _ _ _ h => h⟩
  obtain ⟨w2, d2, rfl, x2, s2, rp2, p2⟩ := m
  exact Post.ret (Ra := RepL G) (a := d1 :: d2) s2 (by simp only [RepL]; exact ⟨x, y, rfl, Rep.mono x2 _ _ rp1, rp2⟩) p2⟩⟩
/-- a call with keywords -/
theorem q_fnK {kws : List Keyword} {n : Nat} {ks : List Str} {gD : List D → List D → List D} {b : AD} (c : Cal X.prog X.w G X.base k x f fd ps F) (hb : Kbd G fd ps n ks gD) (hr : RoomG k X.A) (hK : X.K = G.K) (hm : X.mg = G.mg) (hg : Gl X x) (tk : Takes X Wx)
    (ha : PA X (e :: es) (tA G m Wx)) (hkw : QK X G Wx kws b) (hall : (backToKw pos (keywordEach kws X.env)).all (·.1.isSome) = true := by rfl) (hks : (backToKw pos (keywordEach kws X.env)).filterMap (·.1) = ks := by rfl)
    (hdb : (x == ("__debug__" : Str)) = false := by decide) (he : starEach (e :: es) X.env = (false, eval e X.env) :: starEach es X.env := by rfl)
    (hpl : ((backTo pos (starEach (e :: es) X.env)).any (·.1) || (backToKw pos (keywordEach kws X.env)).any (·.1.isNone)) = false := by rfl) :
    PE X (.Call (.Name x p) (e :: es) kws pos) (tE G (eKw (kwK F n ks.length gD) m b) Wx) := by
  obtain ⟨g, gV, hn, hrep⟩ := hb
  have ok := c.ok
  rw [← hK, ← hm] at ok
  have kp : PySem.W.keepIn X.K (.ref f) = true := by rw [hK]; exact c.kp
  rw [← hK] at hn
  refine ⟨fun pins s σ H Q I q => ?_⟩
  obtain ⟨wd, env, rfl, sr, er, pp⟩ := q
  refine wpAny_Call_Name_kw (ld_glob I hg (by rw [hm]; exact c.m) ?_ hdb)
  refine PySem.W.callWith_KW (h₀ := X.base) I.ok.mod.kin kp hall (thn (ha.run pos pins s σ wd.H _ I ⟨wd, env, rfl, sr, er, Post.bind (Ra := RepL G) pp⟩) fun us s1 ⟨vs, H1, I1, r, q⟩ => ?_) hpl he
  obtain ⟨w1, d1, rfl, x1, s1', rp1, p1⟩ := q
  refine thn (hkw.pk.run pos pins s1 σ w1.H _ I1 ⟨w1, env, rfl, s1', er.mono x1, Post.bind (Ra := RepL G) p1⟩) fun ws s2 ⟨zs, H2, I2, rz, q2⟩ => ⟨I2.kIn, ?_⟩
  obtain ⟨w2, d2, rfl, x2, s2', rp2, p2⟩ := q2
  rw [hks]
  unfold kwK at p2
  split at p2
  · rename_i hl
    have r2 := hn.rel r rz
    refine wpAny_call (codeAny_mono (FnG.called (E := WE Wx) ok hr (passAt tk σ) I2 (hn.to s2 us ws I2.kIn ?_ ?_) (hn.rel r rz) ⟨w2, gD d1 d2, rfl, s2', hrep w2 d1 d2 vs zs hl.1 hl.2 (RepL.mono x2 _ _ rp1) rp2, p2⟩) fun r s' hq => ?_)
    · rw [← r.length, rp1.length]; exact hl.1
    · rw [← rz.length, rp2.length]; exact hl.2
    · match r, hq with
      | .error e, hq => exact hq
      | .ok (.ret u), hq => exact hq
  · exact p2.elim
/-- the same with keywords alone -/
theorem q_cst {d : D} (h : GRep G x d) (hm : X.mg = G.mg) (hg : Gl X x) (hd : (x == ("__debug__" : Str)) = false := by decide) : PE X (.Name x pos) (tE G (eK d) Wx) := by
  obtain ⟨u, v, h1, h2, h3⟩ := h
  exact q_const (pe_glob hg (by rw [hm]; exact h1) h2 hd) h3
theorem q_fnv {u : Value} (h : G.mg x = some u) (r : ∃ v, RelV v u) (hm : X.mg = G.mg) (hg : Gl X x) (hd : (x == ("__debug__" : Str)) = false := by decide) : PE X (.Name x pos) (tE G (eK (.glb x)) Wx) := by
  obtain ⟨v, r⟩ := r
  exact q_const (pe_glob hg (by rw [hm]; exact h) r hd) fun w => by simp only [Rep]; exact ⟨u, h, r⟩
theorem q_ty {T : String} (hm : X.mg x = none) (hv : bootBuiltins x = some (.type T)) (hg : Gl X x) (hn : x ≠ "__name__" := by decide) (hd : (x == ("__debug__" : Str)) = false := by decide) : PE X (.Name x pos) (tE G (eK (.ty T)) Wx) :=
  q_const (pe_bltn (v := .ty T) hg hm hv rfl hn hd) fun w => by simp [Rep]
theorem q_tb {e : Expr} {m : TD} (h : PW X e (tT G m Wx)) : PT X e (tT G m Wx) := h.pt
theorem w_and1 {a : Expr} {ma : TD} (h : PT X a (tT G ma Wx)) : PW X (.BoolOp .And [a] pos) (tT G ma Wx) := pw_and1 h
theorem w_or1 {a : Expr} {ma : TD} (h : PT X a (tT G ma Wx)) : PW X (.BoolOp .Or [a] pos) (tT G ma Wx) := pw_or1 h
theorem w_and {a b : Expr} {rest : List Expr} {ma mb : TD} (ha : PT X a (tT G ma Wx)) (hb : PW X (.BoolOp .And (b :: rest) pos) (tT G mb Wx)) : PW X (.BoolOp .And (a :: b :: rest) pos) (tT G (tAnd ma mb) Wx) := pwI (pw_and ha hb) imp_and
theorem w_or {a b : Expr} {rest : List Expr} {ma mb : TD} (ha : PT X a (tT G ma Wx)) (hb : PW X (.BoolOp .Or (b :: rest) pos) (tT G mb Wx)) : PW X (.BoolOp .Or (a :: b :: rest) pos) (tT G (tOr ma mb) Wx) := pwI (pw_or ha hb) imp_or
end
theorem b_len : bootBuiltins "len" = some (.builtin "len") := by decide +kernel
theorem b_isinstance : bootBuiltins "isinstance" = some (.builtin "isinstance") := by decide +kernel
theorem b_all : bootBuiltins "all" = some (.builtin "all") := by decide +kernel
theorem b_any : bootBuiltins "any" = some (.builtin "any") := by decide +kernel
theorem b_sum : bootBuiltins "sum" = some (.builtin "sum") := by decide +kernel
theorem b_max : bootBuiltins "max" = some (.builtin "max") := by decide +kernel
theorem b_min : bootBuiltins "min" = some (.builtin "min") := by decide +kernel
theorem b_abs : bootBuiltins "abs" = some (.builtin "abs") := by decide +kernel
theorem b_int : bootBuiltins "int" = some (.type "int") := by decide +kernel
theorem b_bool : bootBuiltins "bool" = some (.type "bool") := by decide +kernel
theorem b_str : bootBuiltins "str" = some (.type "str") := by decide +kernel
theorem b_tuple : bootBuiltins "tuple" = some (.type "tuple") := by decide +kernel
theorem b_list : bootBuiltins "list" = some (.type "list") := by decide +kernel
theorem b_dict : bootBuiltins "dict" = some (.type "dict") := by decide +kernel
end L3
set_option Elab.async false
set_option linter.all false
set_option maxRecDepth 100000
/-! L3L: dict displays, methods of texts and dicts. -/
namespace L3
open PySem PySem.Spec PyProof.Rows L2

section
variable {G : GC} {X : Cx} {Wx : WX} {pos : Pos} {w : Wd}
/-- what was in the making at p is done: it becomes whatever stands there now -/
theorem tmp_off {w0 w2 : Wd} {p : Addr} {H' : Hp} (s0 : SRep G w0) (hp : w0.H p = none) (x : WX' [p] w0 w2) (s2 : SRep G w2) (tm : p ∈ w2.tmp) (hH : ∀ b, b ≠ p → H' b = w2.H b) :
    WExt w0 ⟨w2.mu, w2.S, H', w0.tmp⟩ ∧ SRep G ⟨w2.mu, w2.S, H', w0.tmp⟩ ∧ (∀ d v, Rep G w2 d v → Rep G ⟨w2.mu, w2.S, H', w0.tmp⟩ d v) ∧ (∀ d v, RepL G w2 d v → RepL G ⟨w2.mu, w2.S, H', w0.tmp⟩ d v) ∧ ¬ Mut ⟨w2.mu, w2.S, H', w0.tmp⟩ p := by
  have np : p ∉ w0.tmp := fun z => by obtain ⟨⟨u, e⟩, _⟩ := s0.tm p z; rw [hp] at e; cases e
  have nm : ¬ MutS w2 p := (s2.tm p tm).2
  have x1 : WX' [p] w2 ⟨w2.mu, w2.S, H', w2.tmp⟩ := ⟨fun _ _ h => h, fun a o h nm ha => ⟨(hH a (by simpa using ha)).trans h, nm⟩, fun a h => .inl h, fun a h => h⟩
  have tk : Tok [p] w2 := fun a h => .inl (by have : a = p := by simpa using h
                                              rw [this]; exact tm)
  have inc : ∀ a, a ∈ w0.tmp → a ∈ w2.tmp := x.tmp'
  have s1 : SRep G ⟨w2.mu, w2.S, H', w0.tmp⟩ := by
    refine ⟨s2.len, s2.inj, fun n ob a h1 h2 => ?_, fun a ha => ?_⟩
    · have h := s2.obj n ob a h1 h2
      exact ORep.untmp (t := w0.tmp) (w := ⟨w2.mu, w2.S, H', w2.tmp⟩) inc (h.keep x1 tk fun lv => hH a fun e => nm (by subst e; exact ⟨n, ob, h1, lv, h2⟩))
    · obtain ⟨⟨u, e⟩, q⟩ := s2.tm a (inc a ha)
      exact ⟨⟨u, (hH a fun z => np (z ▸ ha)).trans e⟩, q⟩
  refine ⟨⟨x.mu, fun a o h nmS _ => ?_, fun a h => .inl h, fun a h => h⟩, s1, fun d v h => Rep.untmp (t := w0.tmp) (w := ⟨w2.mu, w2.S, H', w2.tmp⟩) inc d v (Rep.monoT x1 tk d v h), fun d v h => RepL.untmp (t := w0.tmp) (w := ⟨w2.mu, w2.S, H', w2.tmp⟩) inc d v (RepL.monoT x1 tk d v h), fun m => m.elim nm np⟩
  have ha : a ≠ p := fun e => by rw [e, hp] at h; cases h
  obtain ⟨h1, h2⟩ := x.keep a o h nmS (by simpa using ha)
  exact ⟨(hH a ha).trans h1, h2⟩
/-- something comes to be made at p -/
theorem tmp_on {p : Addr} {o : HO} (s0 : SRep G w) (hp : w.H p = none) : WX' [p] w ⟨w.mu, w.S, upd w.H p o, p :: w.tmp⟩ ∧ SRep G ⟨w.mu, w.S, upd w.H p o, p :: w.tmp⟩ ∧ (∀ d v, Rep G w d v → Rep G ⟨w.mu, w.S, upd w.H p o, p :: w.tmp⟩ d v) := by
  have h0 : WX' [p] w ⟨w.mu, w.S, upd w.H p o, p :: w.tmp⟩ :=
    ⟨fun _ _ h => h, fun a o h nm ha => ⟨(upd_ne (by simpa using ha)).trans h, nm⟩, fun a h => by
      rcases List.mem_cons.mp h with e | h
      · exact .inr (by simp [e])
      · exact .inl h, fun a h => List.mem_cons_of_mem _ h⟩
  have tk : Tok [p] w := fun a h => .inr (by have : a = p := by simpa using h
                                             rw [this]; exact hp)
  have nL : ¬ MutS w p := fun m => by obtain ⟨u, e⟩ := MutS.there s0 m; rw [hp] at e; cases e
  refine ⟨h0, ⟨s0.len, s0.inj, fun n ob a h1 h2 => ?_, fun a ha => ?_⟩, fun d v h => Rep.monoT h0 tk d v h⟩
  · have h := s0.obj n ob a h1 h2
    refine h.keep h0 tk fun lv => ?_
    obtain ⟨u, e⟩ := h.there lv
    exact upd_ne (ne_of_none e hp)
  · rcases List.mem_cons.mp ha with e | ha
    · subst e; exact ⟨⟨_, upd_same⟩, nL⟩
    · obtain ⟨⟨u, e⟩, nm⟩ := s0.tm a ha
      exact ⟨⟨u, (upd_ne (ne_of_none e hp)).trans e⟩, nm⟩

/-! ### {k: v, ..} -/
def mergeD (kvs more : List (Key × D)) : List (Key × D) := more.foldl (fun acc kv => putD acc kv.1 kv.2) kvs
def pairsD : List (ED × ED) → EnvD → Store → R (List (D × D))
  | [], _, S => .ok [] S
  | (k, v) :: r, env, S => (k env S).bind fun x S1 => (v env S1).bind fun y S2 => (pairsD r env S2).bind fun ps S3 => .ok ((x, y) :: ps) S3
def keyed : List (D × D) → Option (List (Key × D))
  | [] => some []
  | p :: r => match keyOf p.1, keyed r with
    | some k, some ks => some ((k, p.2) :: ks)
    | _, _ => none
/-- a dict that stays -/
def eDic (ps : List (ED × ED)) : ED := fun env S => (pairsD ps env S).nox.bind fun xs S1 => match keyed xs with
  | some kvs => if kvs.length ≤ 15 then .ok (.dic ((mergeD [] kvs).map (·.1)) ((mergeD [] kvs).map (·.2))) S1 else .bad
  | none => .bad
/-- a dict that will be changed -/
def eDct (ps : List (ED × ED)) : ED := fun env S => (pairsD ps env S).nox.bind fun xs S1 => match keyed xs with
  | some kvs => if kvs.length ≤ 15 then .ok (.obj S1.length) (S1 ++ [.dK (mergeD [] kvs)]) else .bad
  | none => .bad
theorem RepKV.merge : ∀ {more : List (Key × D)} {mv : List (Key × V)} {kvs : List (Key × D)} {vs : List (Key × V)}, RepKV G w more mv → RepKV G w kvs vs → RepKV G w (mergeD kvs more) (mergeK vs mv)
  | [], mv, kvs, vs, h, h' => by
    have : mv = [] := h
    subst this; exact h'
  | p :: r, mv, kvs, vs, h, h' => by
    obtain ⟨u, z, rfl, h1, h2⟩ := h
    show RepKV G w (mergeD (putD kvs p.1 p.2) r) (mergeK (putK vs p.1 u) z)
    exact RepKV.merge h2 (h'.put p.1 h1)
theorem RepKV.parts {κ : Type} : ∀ {kvs : List (κ × D)} {vs : List (κ × V)}, RepKV G w kvs vs → ∃ us, vs = (kvs.map (·.1)).zip us ∧ RepL G w (kvs.map (·.2)) us
  | [], vs, h => by
    have : vs = [] := h
    subst this; exact ⟨[], rfl, by simp [RepL]⟩
  | p :: r, vs, h => by
    obtain ⟨u, z, rfl, h1, h2⟩ := h
    obtain ⟨us, rfl, h3⟩ := RepKV.parts h2
    exact ⟨u :: us, rfl, by simp only [List.map_cons, RepL]; exact ⟨u, us, rfl, h1, h3⟩⟩
/-- pairs of values -/
def RepP (G : GC) (w : Wd) : List (D × D) → List (V × V) → Prop
  | [], x => x = []
  | p :: r, x => ∃ a b y, x = (a, b) :: y ∧ Rep G w p.1 a ∧ Rep G w p.2 b ∧ RepP G w r y
theorem RepP.mono {w' : Wd} (x : WExt w w') : ∀ {d : List (D × D)} {v : List (V × V)}, RepP G w d v → RepP G w' d v
  | [], v, h => h
  | p :: r, v, h => by
    obtain ⟨a, b, y, rfl, h1, h2, h3⟩ := h
    exact ⟨a, b, y, rfl, Rep.mono x _ _ h1, Rep.mono x _ _ h2, RepP.mono x h3⟩
theorem RepP.keyed : ∀ {ps : List (D × D)} {vs : List (V × V)} {kvs : List (Key × D)}, RepP G w ps vs → keyed ps = some kvs → ∃ ks, vs = ks.map (fun kv => (kV kv.1, kv.2)) ∧ RepKV G w kvs ks
  | [], vs, kvs, h, e => by
    have : vs = [] := h
    cases e
    subst this; exact ⟨[], rfl, rfl⟩
  | p :: r, vs, kvs, h, e => by
    obtain ⟨a, b, y, rfl, h1, h2, h3⟩ := h
    simp only [L3.keyed] at e
    split at e
    · rename_i k ks hk hks
      cases e
      obtain ⟨us, rfl, q⟩ := RepP.keyed h3 hks
      exact ⟨(k, b) :: us, by simp [keyOf_rep h1 hk], ⟨b, us, rfl, h2, q⟩⟩
    · cases e
/-- the pairs of a display -/
structure QP (X : Cx) (G : GC) (Wx : WX) (pos : Pos) (ks : List (Option Expr)) (vs : List Expr) (ps : List (ED × ED)) : Prop where
  ex : ∃ trs, PPs X pos ks vs trs ∧ ∀ σ H Q, (∃ w env, w.H = H ∧ SRep G w ∧ ERep G w env σ ∧ Post G w (pairsD ps env w.S) (RepP G) Q (fun C dx H' => Wx C dx σ H')) → tPairs trs σ H Q
theorem q_pnil : QP X G Wx pos [] [] [] := ⟨[], pps_nil, fun σ H Q ⟨w, env, eH, sr, er, p⟩ => by
  subst eH
  exact Post.ret (Ra := RepP G) (a := []) (b := []) sr (show ([] : List (V × V)) = [] from rfl) p⟩
theorem q_pcons {k v : Expr} {ks : List (Option Expr)} {vs : List Expr} {mk mv : ED} {ps : List (ED × ED)} (hk : PE X k (tE G mk Wx)) (hv : PE X v (tE G mv Wx)) (hr : QP X G Wx pos ks vs ps) : QP X G Wx pos (some k :: ks) (v :: vs) ((mk, mv) :: ps) := by
  obtain ⟨trs, h1, h2⟩ := hr.ex
  refine ⟨_, pps_cons hk hv h1, fun σ H Q ⟨w, env, eH, sr, er, p⟩ => ?_⟩
  subst eH
  refine ⟨w, env, rfl, sr, er, (Post.bind (Ra := Rep G) p).mono (fun x H1 m => ?_) fun _ _ _ h => h⟩
  obtain ⟨w1, d1, rfl, x1, s1, r1, p1⟩ := m
  refine ⟨w1, env, rfl, s1, er.mono x1, (Post.bind (Ra := Rep G) p1).mono (fun y H2 m => ?_) fun _ _ _ h => h⟩
  obtain ⟨w2, d2, rfl, x2, s2, r2, p2⟩ := m
  refine h2 σ w2.H _ ⟨w2, env, rfl, s2, (er.mono x1).mono x2, (Post.bind (Ra := RepP G) p2).mono (fun zs H3 m => ?_) fun _ _ _ h => h⟩
  obtain ⟨w3, d3, rfl, x3, s3, r3, p3⟩ := m
  exact Post.ret (Ra := RepP G) (a := (d1, d2) :: d3) s3 ⟨x, y, zs, rfl, Rep.mono (WX'.trans x2 x3) _ _ r1, Rep.mono x3 _ _ r2, r3⟩ p3
theorem disp_mid {ps : List (ED × ED)} {trs : List (TE × TE)} {f : List (D × D) → Store → R D} (ht : ∀ σ H Q, (∃ w env, w.H = H ∧ SRep G w ∧ ERep G w env σ ∧ Post G w (pairsD ps env w.S) (RepP G) Q (fun C dx H' => Wx C dx σ H')) → tPairs trs σ H Q)
    {σ : L2.St} {Q : VK} {env : EnvD} (sr : SRep G w) (er : ERep G w env σ) (p : Post G w ((pairsD ps env w.S).nox.bind f) (Rep G) Q (fun C dx H' => Wx C dx σ H'))
    (fin : ∀ (a : Addr) (w2 : Wd) (xs : List (D × D)) (vs : List (V × V)), w.H a = none → WX' [a] w w2 → SRep G w2 → a ∈ w2.tmp → w2.H a = some (.dK []) → RepP G w2 xs vs → Post G w (f xs w2.S) (Rep G) Q (fun C dx H' => Wx C dx σ H') →
      ∃ kvs : List (Key × V), vs = kvs.map (fun kv => (kV kv.1, kv.2)) ∧ kvs.length ≤ 15 ∧ Q (.ref a) (upd w2.H a (.dK (mergeK [] kvs)))) : tDisp trs σ w.H Q := by
  intro a ha
  obtain ⟨x0, s0, r0⟩ := tmp_on (o := .dK []) sr ha
  refine ht σ _ _ ⟨⟨w.mu, w.S, upd w.H a (.dK []), a :: w.tmp⟩, env, rfl, s0, ⟨er.len, fun i d e => let ⟨v, h1, h2⟩ := er.at' i d e; ⟨v, h1, r0 d v h2⟩⟩, ?_⟩
  show Post G _ (pairsD ps env w.S) (RepP G) _ _
  cases h : pairsD ps env w.S with
  | ok xs S' =>
    rw [h] at p
    intro vs w2 x2 e2 s2 r2
    subst e2
    have tm : a ∈ w2.tmp := x2.tmp' a (by simp)
    have hp : w2.H a = some (.dK []) := (x2.keep a _ upd_same (s0.tm a (by simp)).2 (by simp)).1
    exact ⟨hp, fin a w2 xs vs ha (WX'.trans x0 (WX'.wide x2)) s2 tm hp r2 p⟩
  | exc e S' => rw [h] at p; exact p.elim
  | bad => rw [h] at p; exact p.elim
theorem q_dic {ks : List (Option Expr)} {vs : List Expr} {ps : List (ED × ED)} (h : QP X G Wx pos ks vs ps) (hall : ks.all (·.isSome) = true) (hl : ks.length = vs.length) (h0 : ks ≠ []) (h15 : ks.length ≤ 15) : PE X (.Dict ks vs pos) (tE G (eDic ps) Wx) := by
  obtain ⟨trs, h1, h2⟩ := h.ex
  refine peI (pe_disp h1 hall hl h0 h15) fun σ H Q q => ?_
  obtain ⟨w, env, rfl, sr, er, p⟩ := q
  refine disp_mid h2 sr er p fun a w2 xs us ha x s2 tm hp r2 p => ?_
  split at p
  · rename_i kvs hk
    split at p
    · rename_i hz
      obtain ⟨ks', rfl, rk⟩ := r2.keyed hk
      have len : ∀ {kvs : List (Key × D)} {ks : List (Key × V)} {w : Wd}, RepKV G w kvs ks → ks.length = kvs.length := by
        intro kvs
        induction kvs with
        | nil => intro ks w h; have : ks = [] := h; subst this; rfl
        | cons p r ih => intro ks w h; obtain ⟨u, z, rfl, _, h2⟩ := h; simp [ih h2]
      refine ⟨ks', rfl, by rw [len rk]; exact hz, ?_⟩
      obtain ⟨us, e1, r3⟩ := (RepKV.merge rk (kvs := []) (vs := []) rfl).parts
      obtain ⟨x1, s1, f1, f2, nm⟩ := tmp_off (H' := upd w2.H a (.dK (mergeK [] ks'))) sr ha x s2 tm fun b hb => upd_ne hb
      refine p (.ref a) _ x1 rfl s1 ?_
      simp only [Rep]
      exact ⟨a, us, rfl, by rw [← e1]; exact upd_same, nm, by simp, f2 _ _ r3⟩
    · exact p.elim
  · exact p.elim
theorem q_dct {ks : List (Option Expr)} {vs : List Expr} {ps : List (ED × ED)} (h : QP X G Wx pos ks vs ps) (hall : ks.all (·.isSome) = true) (hl : ks.length = vs.length) (h0 : ks ≠ []) (h15 : ks.length ≤ 15) : PE X (.Dict ks vs pos) (tE G (eDct ps) Wx) := by
  obtain ⟨trs, h1, h2⟩ := h.ex
  refine peI (pe_disp h1 hall hl h0 h15) fun σ H Q q => ?_
  obtain ⟨w, env, rfl, sr, er, p⟩ := q
  refine disp_mid h2 sr er p fun a w2 xs us ha x s2 tm hp r2 p => ?_
  split at p
  · rename_i kvs hk
    split at p
    · rename_i hz
      obtain ⟨ks', rfl, rk⟩ := r2.keyed hk
      have len : ∀ {kvs : List (Key × D)} {ks : List (Key × V)} {w : Wd}, RepKV G w kvs ks → ks.length = kvs.length := by
        intro kvs
        induction kvs with
        | nil => intro ks w h; have : ks = [] := h; subst this; rfl
        | cons p r ih => intro ks w h; obtain ⟨u, z, rfl, _, h2⟩ := h; simp [ih h2]
      refine ⟨ks', rfl, by rw [len rk]; exact hz, ?_⟩
      have rm := RepKV.merge rk (kvs := []) (vs := []) rfl
      obtain ⟨x1, s1, f1, f2, nm⟩ := tmp_off (H' := fun b => if b = a then none else w2.H b) sr ha x s2 tm fun b hb => if_neg hb
      obtain ⟨us, e1, r3⟩ := rm.parts
      have back : ∀ {kvs : List (Key × D)} {us : List V} {w' : Wd}, RepL G w' (kvs.map (·.2)) us → RepKV G w' kvs ((kvs.map (·.1)).zip us) := by
        intro kvs
        induction kvs with
        | nil => intro us w' _; rfl
        | cons p r ih => intro us w' h; simp only [List.map_cons, RepL] at h; obtain ⟨v, r', rfl, h1, h2⟩ := h; exact ⟨v, _, rfl, h1, ih h2⟩
      have r4 := back (f2 _ _ r3)
      rw [← e1] at r4
      obtain ⟨x2, s2'⟩ := new_obj (w := ⟨w2.mu, w2.S, fun b => if b = a then none else w2.H b, w.tmp⟩) (p := a) (ob := .dK (mergeD [] kvs)) (o := .dK (mergeK [] ks')) s1 (if_pos rfl) fun w' x' e => ⟨_, e, RepKV.mono x' _ _ r4⟩
      have eH : upd (fun b => if b = a then none else w2.H b) a (.dK (mergeK [] ks')) = upd w2.H a (.dK (mergeK [] ks')) := by
        funext b
        unfold upd
        by_cases hb : b = a
        · rw [if_pos hb, if_pos hb]
        · rw [if_neg hb, if_neg hb]; exact if_neg hb
      have q := p (.ref a) _ (WX'.trans x1 x2) rfl s2' (by simp only [Rep]; exact ⟨a, by rw [← s1.len]; simp, rfl⟩)
      rw [← eH]
      exact q
    · exact p.elim
  · exact p.elim

/-! ### {} -/
def eDic0 : ED := fun _ S => .ok (.dic [] []) S
def eDct0 : ED := fun _ S => .ok (.obj S.length) (S ++ [.dK []])
theorem q_dic0 : PE X (.Dict [] [] pos) (tE G eDic0 Wx) := peI pe_dnewK fun σ H Q q => by
  obtain ⟨w, env, rfl, sr, er, p⟩ := q
  intro a ha
  obtain ⟨x, s, nm⟩ := new_ext (o := .dK []) sr ha
  exact p (.ref a) _ x rfl s (by simp only [Rep, RepL]; exact ⟨a, [], rfl, upd_same, nm, rfl, rfl⟩)
theorem q_dct0 : PE X (.Dict [] [] pos) (tE G eDct0 Wx) := peI pe_dnewK fun σ H Q q => by
  obtain ⟨w, env, rfl, sr, er, p⟩ := q
  intro a ha
  obtain ⟨x, s⟩ := new_obj (ob := .dK []) (o := .dK []) sr ha fun w' x e => ⟨[], e, rfl⟩
  exact p (.ref a) _ x rfl s (by simp only [Rep]; exact ⟨a, by rw [← sr.len]; simp, rfl⟩)

/-! ### methods of texts -/
def splitD : D → FN := fun x xs S => match x, xs with
  | .str a, [.str b] => if (b.length == 0) = false ∧ a.length + 2 ≤ sizeLine then .ok (.lst ((Txt.split a b).map .str)) S else .bad
  | _, _ => .bad
theorem c_split : CalmM splitD := fun x xs S => by unfold splitD; repeat' split
                                                   all_goals trivial
theorem RepL_strs {w : Wd} : ∀ {ns : List Str} {vs : List V}, RepL G w (ns.map .str) vs ↔ vs = ns.map V.str
  | [], vs => by simp [RepL]
  | n :: ns, vs => by
    simp only [List.map_cons, RepL, Rep]
    constructor
    · rintro ⟨v, r, rfl, rfl, h⟩; rw [RepL_strs.mp h]
    · rintro rfl; exact ⟨_, _, rfl, rfl, RepL_strs.mpr rfl⟩
theorem o_split : MtR X "str.split" (rM G splitD) := mtI2 mt_split fun x xs H Q q => by
  obtain ⟨w, d, ds, rfl, sr, r1, rl, p⟩ := q
  unfold splitD at p
  split at p
  · rename_i a b
    split at p
    · rename_i hz
      simp only [Rep] at r1
      simp only [RepL, Rep] at rl
      obtain ⟨v, r', rfl, rfl, rfl⟩ := rl
      exact ⟨a, b, r1, rfl, hz.1, hz.2, fun p' hp' => new_lst (S := w.S) sr (RepL_strs.mpr rfl) p p' hp'⟩
    · exact p.elim
  · exact p.elim
end
end L3
set_option Elab.async false
set_option linter.all false
set_option maxRecDepth 100000
/-! L3M: constants of the written part; the end of a law. -/
namespace L3
open PySem PySem.Spec PyProof.Rows L2

section
variable {G : GC} {x : Str} {a : Addr}
/-- a written value stands for a plain one -/
def KVal (G : GC) (d : D) (u : Value) : Prop := ∃ v, RelV v u ∧ ∀ w, Rep G w d v
def KVals (G : GC) : List D → List Value → Prop
  | [], us => us = []
  | d :: ds, us => ∃ u r, us = u :: r ∧ KVal G d u ∧ KVals G ds r
theorem grep_of {d : D} {u : Value} (h : G.mg x = some u) (k : KVal G d u) : GRep G x d := by
  obtain ⟨v, r, f⟩ := k
  exact ⟨u, v, h, r, f⟩
theorem kv_int {i : Int} {t : PySem.Tok} : KVal G (.int i) (.int i t) := ⟨.int i, ⟨t, rfl⟩, fun w => by simp [Rep]⟩
theorem kv_str {i : Str} {t : PySem.Tok} : KVal G (.str i) (.str i t) := ⟨.str i, ⟨t, rfl⟩, fun w => by simp [Rep]⟩
theorem kv_bl {b : Bool} : KVal G (.bl b) (.bool b) := ⟨.bl b, rfl, fun w => by simp [Rep]⟩
theorem kv_non : KVal G .non .none := ⟨.non, rfl, fun w => by simp [Rep]⟩
theorem kv_fn {u : Value} (h : G.mg x = some (.ref a)) : KVal G (.glb x) (.ref a) := ⟨.ref a, rfl, fun w => by simp only [Rep]; exact ⟨_, h, rfl⟩⟩
theorem kvs_nil : KVals G [] [] := rfl
theorem kvs_cons {d : D} {ds : List D} {u : Value} {us : List Value} (h : KVal G d u) (r : KVals G ds us) : KVals G (d :: ds) (u :: us) := ⟨u, us, rfl, h, r⟩
theorem KVals.vals : ∀ {ds : List D} {us : List Value}, KVals G ds us → ∃ vs, Vals vs us ∧ ∀ w, RepL G w ds vs
  | [], us, h => by
    have : us = [] := h
    subst this; exact ⟨[], .nil, fun w => by simp [RepL]⟩
  | d :: ds, us, h => by
    obtain ⟨u, r, rfl, ⟨v, h1, h2⟩, h3⟩ := h
    obtain ⟨vs, q1, q2⟩ := KVals.vals h3
    exact ⟨v :: vs, .cons h1 q1, fun w => by simp only [RepL]; exact ⟨v, vs, rfl, h2 w, q2 w⟩⟩
theorem KVals.len : ∀ {ds : List D} {us : List Value}, KVals G ds us → us.length = ds.length
  | [], us, h => by
    have : us = [] := h
    subst this; rfl
  | d :: ds, us, h => by
    obtain ⟨u, r, rfl, _, h3⟩ := h
    simp [KVals.len h3]
theorem kv_tup {ds : List D} {us : List Value} {dd : Option Addr} {n : Nat} {sl : Array (Option Value)} (l : G.K.lookup a = some ⟨.type "tuple", dd, .seq us.toArray n, sl⟩) (h : KVals G ds us) (hz : ds.length ≤ 1000 := by decide) : KVal G (.tup ds) (.ref a) := by
  obtain ⟨vs, h1, h2⟩ := h.vals
  refine ⟨.ref a, rfl, fun w => ?_⟩
  simp only [Rep]
  exact ⟨a, vs, rfl, .inr ⟨_, us.toArray, n, l, rfl, rfl, by simp only [List.size_toArray]; rw [h.len, sizeLine_eq]; omega, by simpa using h1⟩, h2 w⟩
/-- the entries of a written dict with text keys -/
def KEnt (G : GC) : List DictEntry → List Str → List Value → Prop
  | [], ks, us => ks = [] ∧ us = []
  | e :: es, ks, us => ∃ k kr u ur t, ks = k :: kr ∧ us = u :: ur ∧ e.key = .str k t ∧ e.val = u ∧ e.hash = PyData.keyHash G.w.params k ∧ KEnt G es kr ur
theorem ke_nil : KEnt G [] [] [] := ⟨rfl, rfl⟩
theorem ke_cons {es : List DictEntry} {k : Str} {ks : List Str} {u : Value} {us : List Value} {t : PySem.Tok} {h : Int} (hh : h = PyData.keyHash G.w.params k) (r : KEnt G es ks us) : KEnt G (⟨h, .str k t, u⟩ :: es) (k :: ks) (u :: us) :=
  ⟨k, ks, u, us, t, rfl, rfl, rfl, rfl, hh, r⟩
theorem KEnt.lit : ∀ {es : List DictEntry} {ks : List Str} {us : List Value}, KEnt G es ks us → PySem.W.KeysLit G.w.params es
  | [], _, _, _ => trivial
  | e :: es, _, _, ⟨k, kr, u, ur, t, _, _, h1, _, h2, h3⟩ => ⟨⟨k, t, h1, h2⟩, KEnt.lit h3⟩
theorem KEnt.look (z : Str) : ∀ {es : List DictEntry} {ks : List Str} {us : List Value}, KEnt G es ks us →
    (match es.find? (·.key.isStr z) with
      | some e => (ks.zip us).lookup z = some e.val
      | none => (ks.zip us).lookup z = none ∧ es.any (·.refKey) = false)
  | [], _, _, ⟨rfl, rfl⟩ => ⟨rfl, rfl⟩
  | e :: es, _, _, ⟨k, kr, u, ur, t, rfl, rfl, h1, h2, h3, h4⟩ => by
    have ih := KEnt.look z h4
    have ek : e.key.isStr z = (z == k) := by
      rw [h1]
      show (Value.str k t).isStr z = _
      rw [PySem.W.isStr_of]
      by_cases hz : z = k
      · subst hz; simp [Value.isStrOf]
      · have : (z == k) = false := by simpa using hz
        rw [this]
        simp [Value.isStrOf]
        exact fun e => hz e.symm
    have rk : e.refKey = false := by simp [DictEntry.refKey, h1]
    simp only [List.find?_cons, ek, List.zip_cons_cons, List.lookup]
    cases hz : (z == k) with
    | true => simp only; rw [h2]
    | false =>
      simp only
      cases hf : es.find? (·.key.isStr z) with
      | some e' => rw [hf] at ih; exact ih
      | none => rw [hf] at ih; exact ⟨ih.1, by simp [List.any_cons, rk, ih.2]⟩
theorem kv_kd {ks : List Str} {ds : List D} {es : List DictEntry} {us : List Value} {n : Nat} (l : G.K.lookup a = some ⟨.type "dict", none, .dict es.toArray n, #[]⟩) (low : (a == sysModules) = false) (he : KEnt G es ks us) (h : KVals G ds us) (hl : ks.length = ds.length := by rfl) : KVal G (.kd ks ds) (.ref a) := by
  obtain ⟨vs, h1, h2⟩ := h.vals
  refine ⟨.ref a, rfl, fun w => ?_⟩
  simp only [Rep]
  refine ⟨a, es.toArray, n, vs, us, rfl, ⟨l, by simpa using he.lit, low⟩, fun z => ?_, hl, h1, h2 w⟩
  unfold PySem.W.nsIn
  rw [l]
  have := he.look z
  simp only
  cases hf : es.find? (·.key.isStr z) with
  | some e => rw [hf] at this; simp only at this ⊢; rw [this]
  | none => rw [hf] at this; simp only at this ⊢; rw [this.1, this.2]; rfl

/-! ### the law's own call -/
/-- what a law's def is asked -/
def spLaw (K : PySem.W.Frag) : Sp := fun vs H Q _ => ∃ (a : Addr) (ns : List Int), vs = [.ref a] ∧ ns.length ≤ 63 ∧ Only H ∧ SqL K H a (ns.map V.int) ∧ ∀ H', Q (.bl true) H'
theorem law_ok {P : Program} {w : World} {base : Heap} {k : Nat} {f : Addr} {fd : FuncData} {x : Str} {F : FN} (hF : FnG P w G.K G.mg base k f fd [x] (spOf G F)) (true_ : ∀ ns : List Int, ns.length ≤ 63 → ∃ S, F [.scr ns] [] = .ok (.bl true) S) :
    FnG P w G.K G.mg base k f fd [x] (spLaw G.K) := by
  refine hF.imp fun vs H Q E h => ?_
  obtain ⟨a, ns, rfl, hl, ho, hS, hQ⟩ := h
  obtain ⟨S, e⟩ := true_ ns hl
  refine ⟨⟨[], [], H, []⟩, [.scr ns], rfl, ⟨rfl, fun n m a o o' h => by simp at h, fun n o a h => by simp at h, fun a h => by simp at h⟩, ?_, ?_⟩
  · simp only [RepL, Rep]
    refine ⟨.ref a, [], rfl, ⟨a, rfl, ?_⟩, rfl⟩
    rcases hS with h | h
    · exact .inl ⟨h, fun m => m.elim (fun ⟨n, o, h, _⟩ => by simp at h) fun h => by simp at h⟩
    · exact .inr h
  · rw [e]
    intro v w' x hs s r
    simp only [Rep] at r
    subst r
    exact hQ _
theorem cx_none {P : Program} {w : World} {H : Hp} {s : Shared} {e : Value} {s' : Shared} (h : L2.CX P w [] H s (fun _ _ _ => False) e s') : False := by
  obtain ⟨_, _, _, _, _, _, _, _, _, _, _, _, z⟩ := h
  exact z
/-- a def of the top -/
theorem funD_mk {K : PySem.W.Frag} {x qual : Str} {params : Arguments} {body : List Stmt} {scope : Scope} {kws : List (Str × V)} {f : Addr} {oc : Value} {od an : Option Addr} {osl : Array (Option Value)} {kV doc pm cdv ct : Value}
    (l : K.lookup f = some ⟨oc, od, .func (PySem.W.fnOf x qual params body scope .none kV doc pm an cdv ct), osl⟩) (c : PySem.W.codeIn K cdv qual = true) (k : PySem.W.keepIn K (.ref f) = true) (kw : KwdV K kV kws) :
    FunD K x qual params body scope [] kws f (PySem.W.fnOf x qual params body scope .none kV doc pm an cdv ct) :=
  ⟨⟨oc, od, .none, kV, doc, pm, an, cdv, ct, osl, rfl, l, c, .inl ⟨rfl, rfl⟩, kw⟩, k⟩
theorem kw_none {K : PySem.W.Frag} {kV : Value} : KwdV K kV [] := .inl rfl
def KwL (K : PySem.W.Frag) (a : Addr) (l : List (Str × V)) : Prop := ∀ q ∈ l, ∃ u, PySem.W.nsIn K a q.1 = some (some u) ∧ RelV q.2 u
theorem kw_nil {K : PySem.W.Frag} : KwL K a [] := fun q h => by simp at h
theorem kw_cons {K : PySem.W.Frag} {l : List (Str × V)} {y : Str} {v : V} {u : Value} (e : PySem.W.nsIn K a y = some (some u)) (r : RelV v u) (t : KwL K a l) : KwL K a ((y, v) :: l) := fun q h => by
  rcases List.mem_cons.mp h with rfl | h
  · exact ⟨u, e, r⟩
  · exact t q h
theorem kw_some {K : PySem.W.Frag} {l : List (Str × V)} (h : KwL K a l) : KwdV K (.ref a) l := .inr ⟨a, rfl, h⟩
theorem roomG_caller {k : Nat} (h : Room k callerA) : RoomG k callerA := ⟨h, rfl⟩
/-- the law's def at the heap behind the top, what is tracked told -/
theorem top_core {P : Program} {w : World} {K : PySem.W.Frag} {mg mb : Str → Option Value} {k : Nat} {fa sc : Addr} {fd : FuncData} {x : Str} {sp : Sp} {st : Shared} {its : List Value} {ns : List Int} {H : Hp}
    (inK : K.In st.heap) (main : st.heap.Ns mainGlobals mg) (bns : st.heap.Ns builtinsNs mb) (boot : ∀ y : Str, y ≠ "__name__" → mb y = bootBuiltins y) (nl : st.heap.NoLimit) (ng : st.gens = #[])
    (at_ : st.heap.get? sc = some { cls := .type "list", data := .seq its.toArray }) (room : Room k callerA)
    (mods : ∃ mm, st.heap.Ns sysModules mm) (F : ∀ base : Heap, K.In base → base.Ns mainGlobals mg → (∃ o, base.get? sysModules = some o) → FnG P w K mg base k fa fd [x] sp) (bind : ∀ (s : Shared) (u : Value), BindsTo s fd ⟨[u], []⟩ [(x, u)])
    (only : Only H) (held : HOk P w H st.heap) (alone : ∀ b, H b ≠ none → b = sc) (apart : H sc ≠ none → K.lookup sc = none)
    (want : sp [.ref sc] H (fun v _ => v = .bl true) fun _ _ _ => False) :
    codeAny (model P w) callerA (.call (.ref fa) ⟨[.ref sc], []⟩) (fun r s' => r = .ok (.ret (.bool true)) ∧ OldK st.heap s'.heap ∧ s'.os = st.os ∧ AllBare s'.gens) st := by
  -- nothing but the script is hidden from the base
  have shown : ∀ {b : Addr} {o : Obj}, st.heap.get? b = some o → (b = sc → H sc = none) → (hidT st.heap H).get? b = some o := fun {b o} e n => by
    refine hidT_get e ?_
    by_cases hb : b = sc
    · rw [hb]; exact n hb
    · exact Classical.byContradiction fun z => hb (alone b z)
  have dicts : ∀ {b : Addr} {m : Str → Option Value}, st.heap.Ns b m → (hidT st.heap H).Ns b m := fun {b m} z => by
    obtain ⟨o, es, ep, e, d, q⟩ := z
    refine ⟨o, es, ep, shown e fun hb => ?_, d, q⟩
    rw [hb, at_] at e
    cases e
    cases (show Data.seq its.toArray _ = Data.dict es ep from d)
  have inB : K.In (hidT st.heap H) := fun b o e => shown (inK b o e) fun hb => Classical.byContradiction fun z => by
    rw [hb, apart z] at e; cases e
  obtain ⟨mc, nl1, nl2⟩ := nl
  have world : Mod K mg (hidT st.heap H) := ⟨inB, dicts main, ⟨mb, dicts bns, boot⟩, ⟨mc, dicts nl1, nl2⟩⟩
  have entry : Env0 P w K mg (hidT st.heap H) callerA [] st H :=
    { frames := rfl, mod := world, bs := fun b o e => of_hidT e, bsz := Nat.le_of_eq (hidT_size _ _), funs := trivial, frf := fun b z => (by cases z), hok := held, bare := .of_eq ng }
  have there : ∃ o, (hidT st.heap H).get? sysModules = some o := by
    obtain ⟨mm, z⟩ := mods
    obtain ⟨o, _, _, e, _⟩ := dicts z
    exact ⟨o, e⟩
  have run := (F _ inB (dicts main) there).go callerA [] st H ⟨[.ref sc], []⟩ [.ref sc] [.ref sc] _ _ (roomG_caller room) entry (bind st (.ref sc)) (.cons rfl .nil) want
  refine codeAny_mono run fun r s' z => ?_
  match r, z with
  | .error e, z => exact (cx_none z).elim
  | .ok (.ret u), ⟨v, H', e1, e2, e3, e4, e5, e6⟩ =>
    have e6 : v = .bl true := e6
    subst e6
    obtain rfl : u = Value.bool true := e5
    refine ⟨rfl, OldK.of_keep fun b o e => ?_, e1, e2⟩
    rcases only b with z | ⟨ob, xs, z⟩
    · exact e3.keep b o e z (fun q => by cases q) (fun q => by cases q)
    · have old := (held b _ z).1
      have new := (e4 b _ (e3.frzs b ob _ z)).1
      rw [e] at old
      cases old
      exact new
/-- .. the script tracked where the written part has it not -/
theorem top_call {P : Program} {w : World} {K : PySem.W.Frag} {mg mb : Str → Option Value} {k : Nat} {fa sc : Addr} {fd : FuncData} {x : Str} {sp : Sp} {st : Shared} {its : List Value} {ns : List Int}
    (inK : K.In st.heap) (main : st.heap.Ns mainGlobals mg) (bns : st.heap.Ns builtinsNs mb) (boot : ∀ y : Str, y ≠ "__name__" → mb y = bootBuiltins y) (nl : st.heap.NoLimit) (ng : st.gens = #[])
    (at_ : st.heap.get? sc = some { cls := .type "list", data := .seq its.toArray }) (hi : IntsAre its ns) (size : ns.length ≤ sizeLine) (room : Room k callerA)
    (mods : ∃ mm, st.heap.Ns sysModules mm) (F : ∀ base : Heap, K.In base → base.Ns mainGlobals mg → (∃ o, base.get? sysModules = some o) → FnG P w K mg base k fa fd [x] sp) (bind : ∀ (s : Shared) (u : Value), BindsTo s fd ⟨[u], []⟩ [(x, u)])
    (want : ∀ H : Hp, Only H → SqL K H sc (ns.map V.int) → sp [.ref sc] H (fun v _ => v = .bl true) fun _ _ _ => False) :
    codeAny (model P w) callerA (.call (.ref fa) ⟨[.ref sc], []⟩) (fun r s' => r = .ok (.ret (.bool true)) ∧ OldK st.heap s'.heap ∧ s'.os = st.os ∧ AllBare s'.gens) st := by
  have rel := vals_ints hi
  by_cases hk : ∃ o, K.lookup sc = some o
  · obtain ⟨o, hk⟩ := hk
    obtain rfl : o = _ := Option.some.inj ((inK sc o hk).symm.trans at_)
    have none_ : ∀ b : Addr, (fun _ => none : Hp) b = none := fun _ => rfl
    refine top_core (H := fun _ => none) (ns := ns) inK main bns boot nl ng at_ room mods F bind (fun b => .inl rfl) (fun b u z => ?_) (fun b z => absurd rfl z) (fun z => absurd rfl z) (want _ (fun b => .inl rfl) (.inr ⟨_, its.toArray, _, hk, rfl, rfl, rfl, ?_, by simpa using rel⟩))
    · cases (show (none : Option HO) = some u from z)
    · rw [List.size_toArray, hi.length]; exact size
  · let o0 : Obj := { cls := .type "list", data := .seq its.toArray }
    let H0 : Hp := upd (fun _ => none) sc (.frz o0 (.lst (ns.map V.int)))
    have here : H0 sc = some (.frz o0 (.lst (ns.map V.int))) := upd_same
    have there : ∀ b, b ≠ sc → H0 b = none := fun b hb => upd_ne hb
    have only : Only H0 := fun b => by
      by_cases hb : b = sc
      · rw [hb]; exact .inr ⟨o0, _, here⟩
      · exact .inl (there b hb)
    refine top_core (H := H0) (ns := ns) inK main bns boot nl ng at_ room mods F bind only (fun b u z => ?_) (fun b z => Classical.byContradiction fun hb => z (there b hb)) (fun _ => ?_) (want H0 only (.inl (.inr ⟨o0, here⟩)))
    · by_cases hb : b = sc
      · subst hb
        rw [here] at z
        cases z
        exact ⟨at_, by rw [List.length_map]; exact size, its, _, rel, at_⟩
      · rw [there b hb] at z; cases z
    · cases q : K.lookup sc with
      | none => rfl
      | some o => exact absurd ⟨o, q⟩ hk
theorem walk {l : PySem.W.OpenLaw} {q : Program} {loose : List Str} {XP : (Str → Option Value) → Heap → Prop} {YP : World → Heap → Prop} {d : DefRec} {K : Params → PySem.W.Frag} {k : Nat} {x : Str} (hn : l.most = some 63) (hi : importsNone q = true) (hdf : d.params.defaults = []) (hr : Room k callerA)
    (hY : ∀ (w : World) (h : Heap), YP w h → (K w.params).In h)
    (F : ∀ (w : World) (mg : Str → Option Value) (fa : Addr) (h : Heap), (K w.params).In h → h.Ns mainGlobals mg → mg d.name = some (.ref fa) →
      ∃ fd : FuncData, (∀ (s : Shared) (u : Value), BindsTo s fd ⟨[u], []⟩ [(x, u)]) ∧ ∀ base : Heap, (K w.params).In base → base.Ns mainGlobals mg → (∃ o, base.get? sysModules = some o) → FnG l.prog w (K w.params) mg base k fa fd [x] (spLaw (K w.params))) :
    PySem.W.WalkO q loose XP YP l.row.toRowW d [] (fun f vs => PySem.call f vs) := by
  refine Att.attach_call hn hdf fun w s₀ s₁ mg mb fa o pm cd doc a vs ns G Y ho hd hcd hmg hobj hints hlen hg => ?_
  obtain ⟨fd, hb, hF⟩ := F w mg fa _ (hY w _ Y) G.T.g hmg
  exact top_call (hY w _ Y) G.T.g G.T.b G.T.builtins G.T.nolimit hg hobj hints (Nat.le_trans hlen (by decide)) hr (let ⟨mm, z, _⟩ := (G.T.seer hi).mods; ⟨mm, z⟩) hF hb fun H hO hS => ⟨a, ns, rfl, hlen, hO, hS, fun _ => rfl⟩
end
end L3
set_option Elab.async false
set_option linter.all false
set_option maxRecDepth 100000
/-! L3Q: slices, repr, str, methods of dicts and lists, keywords alone. -/
namespace L3
open PySem PySem.Spec PyProof.Rows L2

/-! ### x[lo:hi] -/
abbrev PD := EnvD → Store → R (Option Int)
def pNo : PD := fun _ S => .ok none S
def pYes (a : ED) : PD := fun env S => (a env S).bind fun x S1 => match x with
  | .int i => .ok (some i) S1
  | _ => .bad
def tO (G : GC) (m : PD) (Wx : WX) : TO := fun σ H Q => ∃ w env, w.H = H ∧ SRep G w ∧ ERep G w env σ ∧ Post G w (m env w.S) (fun _ a b => a = b) Q (fun C dx H' => Wx C dx σ H')
def cutL {α : Type} (xs : List α) (lo hi : Option Int) : List α := (xs.drop (HT.sIx xs.length 0 lo)).take (HT.sIx xs.length xs.length hi - HT.sIx xs.length 0 lo)
def slD (x : D) (lo hi : Option Int) (S : Store) : R D := match x with
  | .tup l => .ok (.tup (cutL l lo hi)) S
  | .str z => if z.length ≤ sizeLine then .ok (.str (cutS z lo hi)) S else .bad
  | x => match asL x S with
    | some l => .ok (.lst (cutL l lo hi)) S
    | none => .bad
def eSl (a : ED) (l h : PD) : ED := fun env S => (a env S).bind fun x S1 => (l env S1).bind fun lo S2 => (h env S2).bind fun hi S3 => slD x lo hi S3
theorem cutL_whole {α : Type} {xs : List α} {lo hi : Option Int} (h : HT.sIx xs.length 0 lo = 0 ∧ HT.sIx xs.length xs.length hi = xs.length) : cutL xs lo hi = xs := by
  unfold cutL
  rw [h.1, h.2]
  simp
section
variable {G : GC} {X : Cx} {Wx : WX} {pos p2 : Pos} {w : Wd}
theorem RepL.cut {l : List D} {vs : List V} (h : RepL G w l vs) (lo hi : Option Int) : RepL G w (cutL l lo hi) (cutV vs lo hi) := by
  unfold cutL cutV
  rw [h.length]
  exact (h.drop _).take _
theorem q_pno : PO X none (tO G pNo Wx) := ⟨fun pins s σ H Q I q => by
  obtain ⟨w, env, rfl, sr, er, p⟩ := q
  exact po_none.run pins s σ w.H Q I (Post.ret (Ra := fun _ (a b : Option Int) => a = b) sr rfl p)⟩
theorem q_pyes {e : Expr} {m : ED} (h : PE X e (tE G m Wx)) : PO X (some e) (tO G (pYes m) Wx) := ⟨fun pins s σ H Q I q => by
  refine (po_some h).run pins s σ H Q I ?_
  obtain ⟨w, env, rfl, sr, er, p⟩ := q
  refine ⟨w, env, rfl, sr, er, (Post.bind (Ra := Rep G) p).mono (fun x H1 m => ?_) fun _ _ _ h => h⟩
  obtain ⟨w1, d1, rfl, x1, s1, rp1, p1⟩ := m
  cases d1 with
  | int i =>
    simp only [Rep] at rp1
    exact ⟨i, rp1, Post.ret (Ra := fun _ (a b : Option Int) => a = b) s1 rfl p1⟩
  | _ => exact p1.elim⟩
theorem q_slice {e : Expr} {lo hi : Option Expr} {m : ED} {ml mh : PD} (hK : X.K = G.K) (he : PE X e (tE G m Wx)) (hl : PO X lo (tO G ml Wx)) (hh : PO X hi (tO G mh Wx)) : PE X (.Subscript e (.Slice lo hi none p2) pos) (tE G (eSl m ml mh) Wx) :=
  peI (pe_slice (sl_tupA.or (sl_str.or sl_list)) he hl hh) fun σ H Q q => by
    obtain ⟨w, env, rfl, sr, er, p⟩ := q
    refine ⟨w, env, rfl, sr, er, (Post.bind (Ra := Rep G) p).mono (fun x H1 m => ?_) fun _ _ _ h => h⟩
    obtain ⟨w1, d1, rfl, x1, s1, rp1, p1⟩ := m
    refine ⟨w1, env, rfl, s1, er.mono x1, (Post.bind (Ra := fun _ (a b : Option Int) => a = b) p1).mono (fun lo H2 m => ?_) fun _ _ _ h => h⟩
    obtain ⟨w2, d2, rfl, x2, s2, rfl, p2⟩ := m
    refine ⟨w2, env, rfl, s2, (er.mono x1).mono x2, (Post.bind (Ra := fun _ (a b : Option Int) => a = b) p2).mono (fun hi H3 m => ?_) fun _ _ _ h => h⟩
    obtain ⟨w3, d3, rfl, x3, s3, rfl, p3⟩ := m
    have r1 := Rep.mono (WX'.trans x2 x3) _ _ rp1
    unfold slD at p3
    split at p3
    · have r1' := r1
      simp only [Rep] at r1
      obtain ⟨a, vs, rfl, h1, h2⟩ := r1
      have hl := h2.length
      refine .inl ⟨a, vs, rfl, by rw [hK]; exact SqT_of h1, fun hw => ?_, fun _ p' hp' => new_tup s3 (h2.cut d2 d3) p3 p' hp'⟩
      rw [cutL_whole (by rw [← hl]; exact hw)] at p3
      exact Post.ret (Ra := Rep G) s3 r1' p3
    · split at p3
      · rename_i hz
        simp only [Rep] at r1
        exact .inr (.inl ⟨_, r1, hz, Post.ret (Ra := Rep G) s3 (by simp [Rep]) p3⟩)
      · exact p3.elim
    · split at p3
      · rename_i l hl
        obtain ⟨a, vs, rfl, h1, h2⟩ := asL_rep s3 r1 hl
        exact .inr (.inr ⟨a, vs, rfl, SqL.of h1, fun p' hp' => new_lst (S := w3.S) s3 (h2.cut d2 d3) p3 p' hp'⟩)
      · exact p3.elim

/-! ### str, join, texts in order -/
def strD : FN := fun xs S => match xs with
  | [.int i] => if i.natAbs.log2 < 1920 then .ok (.str (toString i)) S else .bad
  | [.str z] => .ok (.str z) S
  | _ => .bad
theorem c_str : CalmN strD := fun xs S => by unfold strD; repeat' split
                                             all_goals trivial
theorem o_str : CallR X (.type "str") (rN G strD) := by
  refine caI2 (call_str_int.or SkE.call_str_str) fun xs H Q q => ?_
  obtain ⟨w, ds, rfl, sr, rl, p⟩ := q
  unfold strD at p
  split at p
  · split at p
    · rename_i hz
      simp only [RepL, Rep] at rl
      obtain ⟨v, r', rfl, rfl, rfl⟩ := rl
      exact .inl ⟨_, rfl, hz, Post.ret (Ra := Rep G) sr (by simp [Rep]) p⟩
    · exact p.elim
  · simp only [RepL, Rep] at rl
    obtain ⟨v, r', rfl, rfl, rfl⟩ := rl
    exact .inr ⟨_, rfl, Post.ret (Ra := Rep G) sr (by simp [Rep]) p⟩
  · exact p.elim
def allStrs : List D → Option (List Str)
  | [] => some []
  | .str b :: r => (allStrs r).map (b :: ·)
  | _ => none
theorem allStrs_rep : ∀ {l : List D} {vs : List V} {bs : List Str}, RepL G w l vs → allStrs l = some bs → vs = bs.map V.str
  | [], vs, bs, r, e => by simp only [RepL] at r; cases e; exact r
  | d :: ds, vs, bs, r, e => by
    simp only [RepL] at r
    obtain ⟨v, r', rfl, h1, h2⟩ := r
    cases d with
    | str b =>
      simp only [allStrs, Option.map_eq_some_iff] at e
      obtain ⟨bs', e1, rfl⟩ := e
      simp only [Rep] at h1
      rw [h1, allStrs_rep h2 e1]
      rfl
    | _ => simp [allStrs] at e
/-- the items of a list or a tuple -/
def asS (x : D) (S : Store) : Option (List D) := match x with
  | .tup l => some l
  | x => asL x S
def joinD : D → FN := fun x xs S => match x, xs with
  | .str a, [y] => match (asS y S).bind allStrs with
    | some ys => if (ys.map (·.length)).sum + ys.length * a.length ≤ 16777216 then .ok (.str (Txt.join a ys)) S else .bad
    | none => .bad
  | _, _ => .bad
theorem c_join : CalmM joinD := fun x xs S => by unfold joinD; repeat' split
                                                 all_goals trivial
theorem asS_rep {x : D} {v : V} {l : List D} (sr : SRep G w) (r : Rep G w x v) (e : asS x w.S = some l) : ∃ a vs, v = .ref a ∧ (SqL G.K w.H a vs ∨ SqT G.K w.H a vs) ∧ RepL G w l vs := by
  unfold asS at e
  split at e
  · cases e
    simp only [Rep] at r
    obtain ⟨a, vs, rfl, h1, h2⟩ := r
    exact ⟨a, vs, rfl, .inr (SqT_of h1), h2⟩
  · obtain ⟨a, vs, rfl, h1, h2⟩ := asL_rep sr r e
    exact ⟨a, vs, rfl, .inl (SqL.of h1), h2⟩
theorem o_join (hK : X.K = G.K) : MtR X "str.join" (rM G joinD) := mtI2 mt_join fun x xs H Q q => by
  obtain ⟨w, d, ds, rfl, sr, r1, rl, p⟩ := q
  unfold joinD at p
  split at p
  · rename_i a y
    split at p
    · rename_i ys hy
      split at p
      · rename_i hz
        simp only [Rep] at r1
        simp only [RepL] at rl
        obtain ⟨v, r', rfl, ry, rfl⟩ := rl
        cases hl : asS y w.S with
        | none => rw [hl] at hy; cases hy
        | some l =>
          rw [hl] at hy
          obtain ⟨b, vs, rfl, h1, h2⟩ := asS_rep sr ry hl
          rw [allStrs_rep h2 hy] at h1
          exact ⟨a, b, ys, r1, rfl, by rw [hK]; exact h1, hz, Post.ret (Ra := Rep G) sr (by simp [Rep]) p⟩
      · exact p.elim
    · exact p.elim
  · exact p.elim

/-! ### repr -/
mutual
def toPyR : D → Option PyData
  | .non => some .none
  | .bl b => some (.bool b)
  | .int i => some (.int i)
  | .str s => some (.str s)
  | .tup l => (toPyRL l).map .tuple
  | .lst l => (toPyRL l).map .list
  | .dic ks l => match ks, l with
    | [], [] => some (.dict [])
    | _, _ => none
  | .obj _ => none
  | .glb _ => none
  | .ty _ => none
  | .scr _ => none
  | .kd _ _ => none
def toPyRL : List D → Option (List PyData)
  | [] => some []
  | d :: ds => match toPyR d, toPyRL ds with
    | some x, some xs => some (x :: xs)
    | _, _ => none
end
mutual
theorem reads_of {pins : List (Addr × Obj)} {s : Shared} {σ : L2.St} (hK : X.K = G.K) (hS : w.H sysModules = none) (I : Inv X pins σ w.H s) : ∀ (d : D) (v : V) (u : Value) (x : PyData), Rep G w d v → toPyR d = some x → RelV v u → ∃ as, Reads s.heap u x as ∧ sysModules ∉ as
  | .non, v, u, x, r, e, rv => by simp only [Rep] at r; subst r; cases e; cases rv; exact ⟨[], .none, by simp⟩
  | .bl b, v, u, x, r, e, rv => by simp only [Rep] at r; subst r; cases e; cases rv; exact ⟨[], .bool b, by simp⟩
  | .int i, v, u, x, r, e, rv => by simp only [Rep] at r; subst r; cases e; obtain ⟨t, rfl⟩ := rv; exact ⟨[], .int i t, by simp⟩
  | .str z, v, u, x, r, e, rv => by simp only [Rep] at r; subst r; cases e; obtain ⟨t, rfl⟩ := rv; exact ⟨[], .str z t, by simp⟩
  | .tup l, v, u, x, r, e, rv => by
    simp only [Rep] at r
    obtain ⟨a, vs, rfl, h1, h2⟩ := r
    simp only [toPyR, Option.map_eq_some_iff] at e
    obtain ⟨xs, e1, rfl⟩ := e
    cases rv
    obtain ⟨its, rv, ⟨o, ho, hc, n, hd⟩, _⟩ := I.tuple (xs := vs) (by rw [hK]; exact SqT_of h1)
    obtain ⟨as, h3, h4⟩ := readsL_of hK hS I l vs its xs h2 e1 rv
    exact ⟨as, .tuple ho hc hd h3, h4⟩
  | .lst l, v, u, x, r, e, rv => by
    simp only [Rep] at r
    obtain ⟨a, vs, rfl, h1, _, h2⟩ := r
    simp only [toPyR, Option.map_eq_some_iff] at e
    obtain ⟨xs, e1, rfl⟩ := e
    cases rv
    obtain ⟨its, rv, ⟨o, n, ho, hc, _, hd⟩, _⟩ := I.list (xs := vs) (SqL.of h1)
    obtain ⟨as, h3, h4⟩ := readsL_of hK hS I l vs its xs h2 e1 rv
    exact ⟨_, .list ho hc hd h3, fun h => (List.mem_cons.mp h).elim (fun e => by rw [← e, hS] at h1; cases h1) h4⟩
  | .dic [] [], v, u, x, r, e, rv => by
    simp only [Rep] at r
    obtain ⟨a, vs, rfl, h1, _, _, h2⟩ := r
    cases e
    cases rv
    obtain ⟨_, hs, kvs, k1, o, es, ep, g, ex, dt, _, pr, _⟩ := dk_of I.hok h1
    have k0 : kvs = [] := by
      have := k1.length
      simp at this
      exact List.eq_nil_of_length_eq_zero this.symm
    subst k0
    have e0 : es.toList = [] := by
      generalize es.toList = z at pr
      cases pr; rfl
    refine ⟨_, .dict (kvs := []) (as := []) (bs := []) g ex.1 dt (by rw [e0]; exact .nil) (by rw [e0]; exact .nil), fun h => ?_⟩
    simp at h
    rw [← h] at hs
    simp at hs
  | .dic (_ :: _) _, v, u, x, r, e, rv => by simp [toPyR] at e
  | .dic [] (_ :: _), v, u, x, r, e, rv => by simp [toPyR] at e
  | .obj _, _, _, _, _, e, _ => by simp [toPyR] at e
  | .glb _, _, _, _, _, e, _ => by simp [toPyR] at e
  | .ty _, _, _, _, _, e, _ => by simp [toPyR] at e
  | .scr _, _, _, _, _, e, _ => by simp [toPyR] at e
  | .kd _ _, _, _, _, _, e, _ => by simp [toPyR] at e
theorem readsL_of {pins : List (Addr × Obj)} {s : Shared} {σ : L2.St} (hK : X.K = G.K) (hS : w.H sysModules = none) (I : Inv X pins σ w.H s) : ∀ (d : List D) (v : List V) (u : List Value) (x : List PyData), RepL G w d v → toPyRL d = some x → Vals v u → ∃ as, ReadsAll s.heap u x as ∧ sysModules ∉ as
  | [], v, u, x, r, e, rv => by simp only [RepL] at r; subst r; cases e; cases rv; exact ⟨[], .nil, by simp⟩
  | d :: ds, v, u, x, r, e, rv => by
    simp only [RepL] at r
    obtain ⟨v1, r', rfl, h1, h2⟩ := r
    simp only [toPyRL] at e
    split at e
    · rename_i y ys e1 e2
      cases e
      cases rv with
      | cons ra rb =>
        obtain ⟨as, q1, q2⟩ := reads_of hK hS I d v1 _ y h1 e1 ra
        obtain ⟨bs, q3, q4⟩ := readsL_of hK hS I ds r' _ ys h2 e2 rb
        exact ⟨_, .cons q1 q3, fun z => (List.mem_append.mp z).elim q2 q4⟩
    · cases e
end
/-- what can be shown -/
def showOk (x : PyData) : Bool := x.showable && decide (x.shown.length ≤ sizeLine) && decide (x.depth ≤ 100)
def reprD : FN := fun xs S => match xs with
  | [x] => match toPyR (deref x S) with
    | some a => if showOk a then .ok (.str a.shown) S else .bad
    | none => .bad
  | _ => .bad
theorem c_repr : CalmN reprD := fun xs S => by unfold reprD; repeat' split
                                               all_goals trivial
theorem derefR_rep {pins : List (Addr × Obj)} {s : Shared} {σ : L2.St} (hK : X.K = G.K) (hS : w.H sysModules = none) (I : Inv X pins σ w.H s) {x : D} {v : V} {u : Value} (sr : SRep G w) (r : Rep G w x v) (rv : RelV v u) {y : PyData} (e : toPyR (deref x w.S) = some y) : ∃ as, Reads s.heap u y as ∧ sysModules ∉ as := by
  cases x with
  | obj n =>
    unfold deref at e
    cases hn : w.S[n]? with
    | none => simp [hn, toPyR] at e
    | some o =>
      cases o with
      | lst l =>
        simp only [hn] at e
        obtain ⟨a, vs, rfl, h1, h2⟩ := asL_rep (l := l) sr r (by simp [asL, hn])
        simp only [toPyR, Option.map_eq_some_iff] at e
        obtain ⟨xs, e1, rfl⟩ := e
        cases rv
        obtain ⟨its, rv, ⟨o, n, ho, hc, _, hd⟩, _⟩ := I.list (xs := vs) (SqL.of h1)
        obtain ⟨as, h3, h4⟩ := readsL_of hK hS I l vs its xs h2 e1 rv
        exact ⟨_, .list ho hc hd h3, fun h => (List.mem_cons.mp h).elim (fun e => by rw [← e, hS] at h1; cases h1) h4⟩
      | _ => simp [hn, toPyR] at e
  | _ => exact reads_of hK hS I _ v u y r e rv
theorem o_repr (hK : X.K = G.K) (hM : ∃ o, X.base.get? sysModules = some o) (hg : X.A.guards = some []) (hu : X.A.units + 150 < cLine) : CallR X (.builtin "repr") (rN G reprD) := by
  intro pins s σ H xs us Q I rs q
  obtain ⟨w, ds, rfl, sr, rl, p⟩ := q
  unfold reprD at p
  split at p
  · rename_i x
    split at p
    · rename_i a ha
      split at p
      · rename_i ok
        simp only [showOk, Bool.and_eq_true, decide_eq_true_eq] at ok
        obtain ⟨⟨ok1, ok2⟩, ok3⟩ := ok
        simp only [RepL] at rl
        obtain ⟨v, r', rfl, r1, rfl⟩ := rl
        cases rs with
        | cons rv rt =>
          cases rt
          obtain ⟨o, hM⟩ := hM
          obtain ⟨as, rd, no⟩ := derefR_rep hK (I.bs _ _ hM).2 I sr r1 rv ha
          have fin : ∀ (z : Str) (h' : Heap) (tk : PySem.Tok) (tk' : Nat), z = a.shown → (∀ b o, s.heap.get? b = some o → h'.get? b = some o) → EP X pins σ Q (.str z tk) { s with heap := h', toks := tk' } := fun z h' tk tk' ez k => by
            subst ez
            exact ⟨.str _, w.H, I.kept (t' := tk') k, ⟨tk, rfl⟩, Post.ret (Ra := Rep G) sr (by simp [Rep]) p⟩
          have same : ∀ b o, s.heap.get? b = some o → s.heap.get? b = some o := fun _ _ h => h
          cases rd with
          | none => exact PySem.P.repr_of_none (fin _ s.heap _ _ rfl same)
          | bool b => exact PySem.P.repr_of_bool (fin _ s.heap _ _ (by simp [PyData.shown]) same)
          | int i t => exact PySem.P.repr_of_int (by simpa [PyData.showable] using ok1) (fin _ s.heap _ _ rfl same)
          | str z t => exact PySem.P.repr_of_str (fin _ s.heap _ _ rfl same) (by simpa [PyData.shown] using ok2)
          | list h1 h2 h3 h4 =>
            exact repr_of_reads' (.list h1 h2 h3 h4) ok1 (fun _ => no) hg (by omega) same (fun h' t tk k => fin _ h' t tk rfl k) ok2
          | tuple h1 h2 h3 h4 =>
            exact repr_of_reads' (.tuple h1 h2 h3 h4) ok1 (fun _ => no) hg (by omega) same (fun h' t tk k => fin _ h' t tk rfl k) ok2
          | dict h1 h2 h3 h4 h5 =>
            exact repr_of_reads' (.dict h1 h2 h3 h4 h5) ok1 (fun _ => no) hg (by omega) same (fun h' t tk k => fin _ h' t tk rfl k) ok2
      · exact p.elim
    · exact p.elim
  · exact p.elim
end
end L3
namespace L3
open PySem PySem.Spec PyProof.Rows L2
section
variable {G : GC} {X : Cx} {Wx : WX} {pos p2 : Pos} {w : Wd}
/-! ### dicts: get, update -/
/-- a dict's entries -/
def dkAt (x : D) (S : Store) : Option (List (Key × D)) := match x with
  | .dic ks l => if ks.length = l.length then some (ks.zip l) else none
  | .obj n => match S[n]? with
    | some (.dK kvs) => some kvs
    | _ => none
  | _ => none
theorem dkAt_rep {x : D} {v : V} {kvs : List (Key × D)} (sr : SRep G w) (r : Rep G w x v) (e : dkAt x w.S = some kvs) : ∃ a vs, v = .ref a ∧ w.H a = some (.dK vs) ∧ RepKV G w kvs vs := by
  cases x with
  | dic ks l =>
    simp only [dkAt] at e
    split at e
    · rename_i hl
      cases e
      simp only [Rep] at r
      obtain ⟨a, vs, rfl, h1, _, _, h2⟩ := r
      exact ⟨a, _, rfl, h1, zip_kv hl h2⟩
    · cases e
  | obj n =>
    simp only [dkAt] at e
    split at e
    · rename_i l hn
      cases e
      simp only [Rep] at r
      obtain ⟨a, hm, rfl⟩ := r
      obtain ⟨vs, h1, h2⟩ := sr.obj n _ a hn hm
      exact ⟨a, vs, rfl, h1, h2⟩
    · cases e
  | _ => cases e
def dgetD : D → FN := fun x xs S => match dkAt x S, xs with
  | some kvs, [y] => match keyOf y with
    | some k => .ok ((dGet kvs k).getD .non) S
    | none => .bad
  | some kvs, [y, z] => match keyOf y with
    | some k => .ok ((dGet kvs k).getD z) S
    | none => .bad
  | _, _ => .bad
theorem c_dget : CalmM dgetD := fun x xs S => by unfold dgetD; repeat' split
                                                 all_goals trivial
theorem o_dget (hu : X.A.units + 1 < cLine) : MtR X "dict.get" (rM G dgetD) := by
  intro pins s σ H x xs v us Q I rx rs q
  obtain ⟨w, d, ds, rfl, sr, r1, rl, p⟩ := q
  unfold dgetD at p
  split at p
  · rename_i kvs y he
    split at p
    · rename_i k hk
      obtain ⟨a, vs, rfl, h1, h2⟩ := dkAt_rep sr r1 he
      simp only [RepL] at rl
      obtain ⟨vy, r', rfl, ry, rfl⟩ := rl
      have ek := keyOf_rep ry hk
      subst ek
      cases rx
      cases rs with
      | cons q1 q2 =>
        cases q2
        refine d_get1 hu I (DGet.k h1) q1 fun w' s' I' rw' => ⟨_, w.H, I', rw', ?_⟩
        have := dGet_rep k h2
        cases hg : dGet kvs k with
        | none => rw [hg] at this p; simp only at this; rw [this]; exact Post.ret (Ra := Rep G) sr (by simp [Rep]) p
        | some d => rw [hg] at this p; simp only at this; obtain ⟨z, e1, rz⟩ := this; rw [e1]; exact Post.ret (Ra := Rep G) sr rz p
    · exact p.elim
  · rename_i kvs y z he
    split at p
    · rename_i k hk
      obtain ⟨a, vs, rfl, h1, h2⟩ := dkAt_rep sr r1 he
      simp only [RepL] at rl
      obtain ⟨vy, r', rfl, ry, vz, r'', rfl, rz, rfl⟩ := rl
      have ek := keyOf_rep ry hk
      subst ek
      cases rx
      cases rs with
      | cons q1 q2 =>
        cases q2 with
        | cons q2 q3 =>
          cases q3
          refine d_get2 hu I (DGet.k h1) q1 q2 fun w' s' I' rw' => ⟨_, w.H, I', rw', ?_⟩
          have := dGet_rep k h2
          cases hg : dGet kvs k with
          | none => rw [hg] at this p; simp only at this; rw [this]; exact Post.ret (Ra := Rep G) sr rz p
          | some d => rw [hg] at this p; simp only at this; obtain ⟨y, e1, ry⟩ := this; rw [e1]; exact Post.ret (Ra := Rep G) sr ry p
    · exact p.elim
  · exact p.elim
def isAt (n : Nat) : D → Bool
  | .obj m => decide (m = n)
  | _ => false
def dupdD : D → FN := fun x xs S => match x, xs with
  | .obj n, [y] => match S[n]? with
    | some (.dK kvs) => match dkAt y S with
      | some more => if kvs.length + more.length ≤ sizeLine ∧ isAt n y = false then .ok .non (S.set n (.dK (mergeD kvs more))) else .bad
      | none => .bad
    | _ => .bad
  | _, _ => .bad
theorem c_dupd : CalmM dupdD := fun x xs S => by unfold dupdD; repeat' split
                                                 all_goals trivial
theorem merge_vals : ∀ {mv : List (Key × V)} {more : List (Key × Value)} {kvs : List (Key × V)} {vs : List (Key × Value)}, KV mv more → KV kvs vs → KV (mergeK kvs mv) (merged vs more)
  | _, _, kvs, vs, .nil, h => h
  | _, _, kvs, vs, .cons r t, h => by
    obtain ⟨e, r⟩ := r
    show KV (mergeK (putK kvs _ _) _) (merged (stored vs _ _) _)
    rw [← e]
    exact merge_vals t (h.put _ r)
theorem len_merge : ∀ {mv kvs : List (Key × V)}, (mergeK kvs mv).length ≤ kvs.length + mv.length
  | [], kvs => Nat.le_refl _
  | p :: r, kvs => by
    show (mergeK (putK kvs p.1 p.2) r).length ≤ _
    have h1 := len_merge (mv := r) (kvs := putK kvs p.1 p.2)
    have h2 := length_putK kvs p.1 p.2
    simp only [List.length_cons]
    omega
theorem o_dupd : MtR X "dict.update" (rM G dupdD) := by
  intro pins s σ H x xs v us Q I rx rs q
  obtain ⟨w, d, ds, rfl, sr, r1, rl, p⟩ := q
  unfold dupdD at p
  split at p
  · rename_i n y
    split at p
    · rename_i kvs hn
      split at p
      · rename_i more hy
        split at p
        · rename_i hz
          simp only [Rep] at r1
          obtain ⟨a, hm, rfl⟩ := r1
          obtain ⟨vs, h1, h2⟩ := sr.obj n _ a hn hm
          simp only [RepL] at rl
          obtain ⟨vy, r', rfl, ry, rfl⟩ := rl
          obtain ⟨b, ws, rfl, h3, h4⟩ := dkAt_rep sr ry hy
          have hab : a ≠ b := by
            intro e
            subst e
            cases y with
            | obj m =>
              simp only [Rep] at ry
              obtain ⟨a', hm', e'⟩ := ry
              cases e'
              cases hS : w.S[m]? with
              | none => simp [dkAt, hS] at hy
              | some o =>
                have z := hz.2
                simp only [isAt, decide_eq_false_iff_not] at z
                refine z (sr.inj m n a o _ hS hn ?_ trivial hm' hm)
                cases o with
                | dK _ => trivial
                | _ => simp [dkAt, hS] at hy
            | dic ks l =>
              simp only [Rep] at ry
              obtain ⟨a', _, e', _, nm, _⟩ := ry
              cases e'
              exact nm (.inl ⟨n, _, hn, trivial, hm⟩)
            | _ => simp [dkAt] at hy
          obtain ⟨za, la, va, ka, da⟩ := dk_of I.hok h1
          obtain ⟨zb, lb, vb, kb, db⟩ := dk_of I.hok h3
          cases rx
          cases rs with
          | cons q1 q2 =>
            cases q2
            cases q1
            have hz1 : va.length + vb.length ≤ sizeLine := by rw [← ka.length, ← kb.length, h2.len, h4.len]; exact hz.1
            refine call_meetsIn PySem.F.slot_dict_update da.typeIs PySem.F.entry_dict_update (PySem.F.args_dict_update_2 _ _) (meets_dict_update (mixKind X.prog X.w) a b hab lb)
              ⟨va, vb, da, db, hz1, fun h' d1 d2 sb => ?_⟩
            have hl : (mergeK vs ws).length ≤ sizeLine := by
              have := len_merge (mv := ws) (kvs := vs)
              rw [h2.len, h4.len] at this
              omega
            have he : ∃ q, h'.get? a = some q := let ⟨q, _, _, hq, _⟩ := d1; ⟨q, hq⟩
            have I2 : Inv X pins σ (upd w.H a (.dK (mergeK vs ws))) { s with heap := h' } := d_write I (by rw [h1]; exact True.intro) sb he (dk_new hl la (merge_vals kb ka) d1)
            refine ⟨.non, _, I2, rfl, ?_⟩
            obtain ⟨x', s'⟩ := set_obj (ob' := .dK (mergeD kvs more)) (o := .dK (mergeK vs ws)) sr hn trivial hm fun w' x e => ⟨_, e, RepKV.mono x _ _ (RepKV.merge h4 h2)⟩
            exact p .non _ x' rfl s' (by simp [Rep])
        · exact p.elim
      · exact p.elim
    · exact p.elim
  · exact p.elim
end
end L3
set_option Elab.async false
set_option linter.all false
set_option maxRecDepth 100000
/-! L3R: tuples turned about, keywords in any order. -/
namespace L3
open PySem PySem.Spec PyProof.Rows L2
section
variable {prog : Program} {w : World} {A : Around} {E : Value → Shared → Prop} {s : Shared}
/-- a slice from the end to the front, applied to n places -/
theorem applied_back {sl : Addr} {t : PySem.Tok} {n : Nat} {Q : Int × Int × Nat → Shared → Prop} (at_ : s.heap.IsSliceOf sl .none .none (.int (-1) t)) (h : Q ((n : Int) - 1, -1, n) s) :
    wpAny (model prog w) A (Builtin.Slice.sliceApplied (.ref sl) (pure (n : Int))) Q E s := by
  obtain ⟨ob, e1, _, e2⟩ := id at_
  unfold Builtin.Slice.sliceApplied Builtin.Slice.sliceFields
  refine wpAny_bind (wpAny_bind (wpAny_field e1 e2 (x := .none) rfl (wpAny_bind (wpAny_field e1 e2 (x := .none) rfl (wpAny_bind (wpAny_field e1 e2 (x := .int (-1) t) rfl (wpAny_pure ?_)))))))
  refine wpAny_bind (slicePart_int ?_)
  show wpAny _ _ (if ((-1 : Int) == 0) = true then _ else _) _ _ s
  rw [if_neg (by decide)]
  refine wpAny_bind (slicePart_none (wpAny_bind (slicePart_none (wpAny_bind (wpAny_pure ?_)))))
  have e3 : Builtin.Slice.sliceAdjust none none (-1) (n : Int) = ((n : Int) - 1, -1) := rfl
  have e4 : Builtin.Slice.slicePlaces ((n : Int) - 1) (-1) (-1) = n := by
    unfold Builtin.Slice.slicePlaces
    rw [if_neg (by decide)]
    by_cases h0 : n = 0
    · subst h0; decide
    · rw [if_pos (by omega)]
      have : ((n : Int) - 1 - -1 - 1) / -(-1) + 1 = n := by
        rw [show -(-1 : Int) = 1 by decide, Int.ediv_one]; omega
      rw [this]; rfl
  show wpAny _ _ (match Builtin.Slice.sliceAdjust none none (-1) (n : Int) with | (lo, hi) => pure (lo, (-1 : Int), Builtin.Slice.slicePlaces lo hi (-1))) _ _ s
  rw [e3]
  show wpAny _ _ (pure ((n : Int) - 1, (-1 : Int), Builtin.Slice.slicePlaces ((n : Int) - 1) (-1) (-1))) _ _ s
  rw [e4]
  exact wpAny_pure h
theorem picked_back (xs : Array Value) : ((List.range xs.size).filterMap fun (k : Nat) => xs[((xs.size : Int) - 1 + (k : Int) * -1).toNat]?).toArray = xs.toList.reverse.toArray := by
  have e : ((List.range xs.size).filterMap fun (k : Nat) => xs[((xs.size : Int) - 1 + (k : Int) * -1).toNat]?) = xs.toList.reverse := by
    have fm : (List.range xs.size).filterMap (fun (k : Nat) => xs[((xs.size : Int) - 1 + (k : Int) * -1).toNat]?) = (List.range xs.size).filterMap (fun k => xs.toList.reverse[k]?) := by
      have gen : ∀ l : List Nat, (∀ k ∈ l, k < xs.size) → l.filterMap (fun (k : Nat) => xs[((xs.size : Int) - 1 + (k : Int) * -1).toNat]?) = l.filterMap (fun k => xs.toList.reverse[k]?) := fun l => by
        induction l with
        | nil => intro _; rfl
        | cons k l ih =>
          intro hl
          have hk : k < xs.size := hl k (by simp)
          have e : xs[((xs.size : Int) - 1 + (k : Int) * -1).toNat]? = xs.toList.reverse[k]? := by
            rw [List.getElem?_reverse (by simpa using hk)]
            have : ((xs.size : Int) - 1 + (k : Int) * -1).toNat = xs.toList.length - 1 - k := by simp; omega
            rw [this]; simp
          rw [List.filterMap_cons, List.filterMap_cons, e, ih fun k hk => hl k (List.mem_cons_of_mem _ hk)]
      exact gen _ fun k hk => List.mem_range.mp hk
    rw [fm]
    have all : ∀ l : List Value, (List.range l.length).filterMap (fun k => l[k]?) = l := fun l => by
      induction l with
      | nil => rfl
      | cons a l ih =>
        rw [List.length_cons, List.range_succ_eq_map, List.filterMap_cons]
        simp only [List.getElem?_cons_zero, List.filterMap_map]
        congr 1
    have := all xs.toList.reverse
    rw [List.length_reverse, Array.length_toList] at this
    rw [this]
  rw [e]
theorem tuple_back {t sl : Addr} {items : Array Value} {tk : PySem.Tok} {Q : Value → Shared → Prop} (at_ : IsTup s.heap t items) (ofS : s.heap.IsSliceOf sl .none .none (.int (-1) tk)) (small : items.size ≤ sizeLine)
    (h : Q (.ref s.heap.objs.size) { s with heap := s.heap.push { cls := .type "tuple", data := .seq items.toList.reverse.toArray } }) : wpAny (model prog w) A (getItem (.ref t) (.ref sl)) Q E s := by
  have fits : sizeOk (.seq items.toList.reverse.toArray) := by
    show items.toList.reverse.toArray.size ≤ sizeLine
    rw [List.size_toArray, List.length_reverse, Array.length_toList]; exact small
  have kind : s.TypeIs (.ref sl) "slice" := let ⟨ob, e1, e2, _⟩ := id ofS; ⟨ob, e1, e2⟩
  unfold getItem
  try with_reducible refine wpAny_holding ?_
  first | refine wpAny_bind (wpAny_pure ?_) | skip
  refine wpAny_bind (wpAny_sequenceKey at_.typeIs (by decide) (wpAny_bind (wpAny_callSpecial?_slot (name := Str.ofString "__getitem__") at_.typeIs PyProof.Rows.slot_tuple_getitem
    (wpAny_call_entry PyProof.Rows.slot_tuple_getitem at_.typeIs entry_tuple_getitem ?_ (args_tuple_getitem _ _)))))
  show wpAny _ _ (Builtin.Tuple.tupleItemsOf (.ref t) >>= _) _ _ s
  refine wpAny_bind (tupleItemsOf_ at_ (wpAny_bind (wpAny_typeOf kind ?_)))
  rw [if_pos (by decide)]
  refine wpAny_bind (applied_back (n := items.size) ofS ?_)
  have no : ¬ ((((items.size : Int) - 1) == 0 && (-1 : Int) == 1 && items.size == items.size) = true) := by simp
  show wpAny _ _ (if (((items.size : Int) - 1) == 0 && (-1 : Int) == 1 && items.size == items.size) = true then _ else _) _ _ s
  rw [if_neg no, picked_back]
  first
    | exact wpAny_bind (m := Builtin.Tuple.tupleExact _) (wpAny_newObj_type (wpAny_pure ⟨_, rfl, wpAny_pure h⟩) fits)
    | exact wpAny_bind (m := Builtin.Tuple.tupleExact _) (wpAny_newObj_type (wpAny_bind (wpAny_pure (wpAny_pure ⟨_, rfl, wpAny_pure h⟩))) fits)
    | exact wpAny_bind (wpAny_bind (m := Builtin.Tuple.tupleExact _) (wpAny_newObj_type (wpAny_pure (wpAny_pure ⟨_, rfl, wpAny_pure h⟩)) fits))
    | exact wpAny_bind (wpAny_bind (m := Builtin.Tuple.tupleExact _) (wpAny_newObj_type (wpAny_pure ⟨_, rfl, wpAny_pure h⟩) fits))
end
section
variable {G : GC} {X : Cx} {Wx : WX} {w : Wd}
/-- x[::-1] of a tuple -/
def eBackT (a : ED) : ED := fun env S => (a env S).bind fun x S1 => match x with
  | .tup l => .ok (.tup l.reverse) S1
  | _ => .bad
theorem RepL.rev {l : List D} : ∀ {vs : List V}, RepL G w l vs → RepL G w l.reverse vs.reverse := by
  induction l with
  | nil => intro vs h; simp only [RepL] at h; subst h; simp [RepL]
  | cons d ds ih =>
    intro vs h
    simp only [RepL] at h
    obtain ⟨v, r, rfl, h1, h2⟩ := h
    rw [List.reverse_cons, List.reverse_cons]
    exact (ih h2).append (RepL.one h1)
theorem q_backT {e : Expr} {m : ED} {k : Nat} {p1 p2 p3 pos : Pos} (hK : X.K = G.K) (he : PE X e (tE G m Wx)) : PE X (.Subscript e (.Slice none none (some (.UnaryOp .USub (.Constant (.int 1) k p1) p2)) p3) pos) (tE G (eBackT m) Wx) := by
  refine ⟨fun pins s σ H Q I h => ?_⟩
  obtain ⟨w, env, rfl, sr, er, p⟩ := h
  refine Subscript_ (thn (he.run pins s σ w.H _ I ⟨w, env, rfl, sr, er, Post.bind (Ra := Rep G) p⟩) fun v s1 ⟨x, H1, I1, r1, q1⟩ => ?_)
  obtain ⟨w1, d1, rfl, x1, sr1, rp1, pq⟩ := q1
  cases d1 with
  | tup l =>
    simp only [Rep] at rp1
    obtain ⟨a, vs, rfl, h1, h2⟩ := rp1
    cases r1
    have step : PO X (some (.UnaryOp .USub (.Constant (.int 1) k p1) p2)) (tPart (tUn (rU fun i => .int (-i)) (tC (.int 1)))) := po_some (pe_un un_neg pe_int)
    refine wpAny_Slice (thn (po_none.run pins s1 σ w1.H (fun o H2 => o = none ∧ H2 = w1.H) I1 ⟨rfl, rfl⟩) fun va s2 ⟨oa, H2, I2, pa, ea, ha⟩ => ?_)
    subst ea ha
    refine thn (po_none.run pins s2 σ w1.H (fun o H3 => o = none ∧ H3 = w1.H) I2 ⟨rfl, rfl⟩) fun vb s3 ⟨ob, H3, I3, pb, eb, hb⟩ => ?_
    subst eb hb
    refine thn (step.run pins s3 σ w1.H (fun o H4 => o = some (-1) ∧ H4 = w1.H) I3 ⟨1, rfl, -1, rfl, rfl, rfl⟩) fun vc s4 ⟨oc, H4, I4, pc, ec, hc⟩ => ?_
    subst ec hc
    cases pa
    cases pb
    cases pc with
    | int i t =>
      have I5 : Inv X pins σ w1.H { s4 with heap := s4.heap.push { cls := .type "slice", data := .fields #[.none, .none, .int (-1) t] } } := I4.kept (t' := s4.toks) fun b ob q => Heap.get?_push_of_some _ q
      obtain ⟨its, rv, tp, hz⟩ := I5.tuple (xs := vs) (by rw [hK]; exact SqT_of h1)
      have hl := rv.length
      show wpAny (model X.prog X.w) X.A (subscriptTail e (.Slice none none (some (.UnaryOp .USub (.Constant (.int 1) k p1) p2)) p3) (.ref a) (.ref s4.heap.objs.size)) (EP X pins σ Q) X.xe { s4 with heap := s4.heap.push { cls := .type "slice", data := .fields #[.none, .none, .int (-1) t] } }
      refine tail_any (ops := [.ref a, .ref s4.heap.objs.size]) tp.typeIs PyProof.Rows.slot_tuple_getitem.lookup ?_ (by with_unfolding_all rfl)
      refine tuple_back tp (Heap.IsSliceOf.new _ .none .none (.int (-1) t)) (by rw [List.size_toArray]; omega) ?_
      have hfr := I5.hok.fresh (Nat.le_refl _)
      refine ⟨.ref _, _, I5.laid (t' := s4.toks) (o := .tup vs.reverse) (fun b ob q => Heap.get?_push_of_some _ q) (Nat.le_refl _) ?_, rfl, new_tup sr1 h2.rev pq _ hfr⟩
      exact ⟨by rw [List.length_reverse]; exact hz, its.reverse, rv.reverse, ⟨_, Heap.get?_push_size _ rfl, rfl, _, rfl⟩⟩
  | _ => exact pq.elim
end
end L3
namespace L3
open PySem PySem.Spec PyProof.Rows L2
/-! ### keywords in any order -/
theorem vals_getD : ∀ {vs : List V} {us : List Value}, Vals vs us → ∀ i : Nat, RelV (vs.getD i .non) (us.getD i .none)
  | [], us, h, i => by cases h; exact rfl
  | v :: vs, us, h, 0 => by
    cases h with
    | cons r _ => exact r
  | v :: vs, us, h, i + 1 => by
    cases h with
    | cons _ t => exact vals_getD t i
theorem repl_getD {G : GC} {w : Wd} : ∀ {ds : List D} {vs : List V}, RepL G w ds vs → ∀ i : Nat, Rep G w (ds.getD i .non) (vs.getD i .non)
  | [], vs, h, i => by simp only [RepL] at h; subst h; simp [Rep]
  | d :: ds, vs, h, 0 => by
    simp only [RepL] at h
    obtain ⟨v, r, rfl, h1, _⟩ := h
    exact h1
  | d :: ds, vs, h, i + 1 => by
    simp only [RepL] at h
    obtain ⟨v, r, rfl, _, h2⟩ := h
    exact repl_getD h2 i
/-- from where each parameter comes: the positional values (false) or the keywords' (true) -/
def gath {α : Type} (z : α) (src : List (Bool × Nat)) (us ws : List α) : List α := src.map fun p => if p.1 then ws.getD p.2 z else us.getD p.2 z
theorem gath_vals {vs zs : List V} {us ws : List Value} (h : Vals vs us) (g : Vals zs ws) : ∀ src : List (Bool × Nat), Vals (gath .non src vs zs) (gath .none src us ws)
  | [] => .nil
  | p :: r => by
    refine .cons ?_ (gath_vals h g r)
    show RelV (if p.1 then zs.getD p.2 .non else vs.getD p.2 .non) (if p.1 then ws.getD p.2 .none else us.getD p.2 .none)
    split
    · exact vals_getD g _
    · exact vals_getD h _
theorem gath_reps {G : GC} {w : Wd} {ds es : List D} {vs zs : List V} (h : RepL G w ds vs) (g : RepL G w es zs) : ∀ src : List (Bool × Nat), RepL G w (gath .non src ds es) (gath .non src vs zs)
  | [] => by simp [gath, RepL]
  | p :: r => by
    show RepL G w ((if p.1 then es.getD p.2 .non else ds.getD p.2 .non) :: gath .non r ds es) ((if p.1 then zs.getD p.2 .non else vs.getD p.2 .non) :: gath .non r vs zs)
    simp only [RepL]
    refine ⟨_, _, rfl, ?_, gath_reps h g r⟩
    split
    · exact repl_getD g _
    · exact repl_getD h _
section
variable {X : Cx} {G : GC} {Wx : WX} {pos p : Pos} {k : Nat} {f : Addr} {fd : FuncData} {ps : List Str} {F : FN} {x : Str}
theorem kbd_of {n : Nat} {ks : List Str} (src : List (Bool × Nat)) (h : ∀ (s : Shared) (us ws : List Value), us.length = n → ws.length = ks.length → BindsTo s fd ⟨us, ks.zip ws⟩ (ps.zip (gath .none src us ws))) : Kbd G fd ps n ks (gath .non src) :=
  ⟨gath .none src, gath .non src, ⟨fun s us ws _ h1 h2 => h s us ws h1 h2, fun r1 r2 => gath_vals r1 r2 src⟩, fun w ds es vs zs _ _ r1 r2 => gath_reps r1 r2 src⟩
/-- f(k = v, ..) -/
theorem q_fnK0 {kws : List Keyword} {ks : List Str} {gD : List D → List D → List D} {b : AD} (c : Cal X.prog X.w G X.base k x f fd ps F) (hb : Kbd G fd ps 0 ks gD) (hr : RoomG k X.A) (hK : X.K = G.K) (hm : X.mg = G.mg) (hg : Gl X x) (tk : Takes X Wx)
    (hkw : QK X G Wx kws b) (hall : (backToKw pos (keywordEach kws X.env)).all (·.1.isSome) = true := by rfl) (hks : (backToKw pos (keywordEach kws X.env)).filterMap (·.1) = ks := by rfl)
    (hdb : (x == ("__debug__" : Str)) = false := by decide) (hpl : ((backTo pos (starEach [] X.env)).any (·.1) || (backToKw pos (keywordEach kws X.env)).any (·.1.isNone)) = false := by rfl) :
    PE X (.Call (.Name x p) [] kws pos) (tE G (eKw (kwK F 0 ks.length gD) aNil b) Wx) := by
  obtain ⟨g, gV, hn, hrep⟩ := hb
  have ok := c.ok
  rw [← hK, ← hm] at ok
  have kp : PySem.W.keepIn X.K (.ref f) = true := by rw [hK]; exact c.kp
  rw [← hK] at hn
  refine ⟨fun pins s σ H Q I q => ?_⟩
  obtain ⟨wd, env, rfl, sr, er, pp⟩ := q
  refine wpAny_Call_Name_kw (ld_glob I hg (by rw [hm]; exact c.m) ?_ hdb)
  refine PySem.W.callWith_KW0 (h₀ := X.base) I.ok.mod.kin kp hall ?_ hpl
  refine thn (hkw.pk.run pos pins s σ wd.H _ I ⟨wd, env, rfl, sr, er, Post.bind (Ra := RepL G) pp⟩) fun ws s2 ⟨zs, H2, I2, rz, q2⟩ => ⟨I2.kIn, ?_⟩
  obtain ⟨w2, d2, rfl, x2, s2', rp2, p2⟩ := q2
  rw [hks]
  unfold kwK at p2
  split at p2
  · rename_i hl
    refine wpAny_call (codeAny_mono (FnG.called (E := WE Wx) ok hr (passAt tk σ) I2 (hn.to s2 [] ws I2.kIn rfl ?_) (hn.rel .nil rz) ⟨w2, gD [] d2, rfl, s2', hrep w2 [] d2 [] zs hl.1 hl.2 (by simp [RepL]) rp2, p2⟩) fun r s' hq => ?_)
    · rw [← rz.length, rp2.length]; exact hl.2
    · match r, hq with
      | .error e, hq => exact hq
      | .ok (.ret u), hq => exact hq
  · exact p2.elim
end
theorem b_repr : bootBuiltins "repr" = some (.builtin "repr") := by decide +kernel
theorem b_sorted : bootBuiltins "sorted" = some (.builtin "sorted") := by decide +kernel
end L3
set_option Elab.async false
set_option linter.all false
set_option maxRecDepth 100000
/-! L4A: enumerate. -/
namespace L3
open PySem PySem.Spec PyProof.Rows L2
set_option maxHeartbeats 1000000 in
theorem meets_enum1 {v : Value} {o : Obj} {H : Heap → Prop} (B : Begins v o H) :
    Meets (Builtin.«enumerate.__new__» ⟨[.type "enumerate", v], []⟩) (fun _ R s => H s.heap ∧
      R (.ok (.ret (.ref (s.heap.push o).objs.size))) { s with heap := (s.heap.push o).push { cls := .type "enumerate", data := .fields #[.none, .bool false, .ref s.heap.objs.size, rawInt 0, .none, .none] } }) :=
  .of_wp fun prog w A R s h => by
    obtain ⟨hp, g, d, tk, os⟩ := s; obtain ⟨h1, h⟩ := h
    have hsub := sub_enumerate
    have q1 : ∀ {A' : Around} {E : Value → Shared → Prop} {Q : Value → Shared → Prop}, Q (.ref hp.objs.size) ⟨hp.push o, g, d, tk, os⟩ → wpAny (model prog w) A' (pyIter v) Q E ⟨hp, g, d, tk, os⟩ :=
      fun q => B.iter prog w _ _ ⟨hp, g, d, tk, os⟩ _ h1 q
    wp_walk using q1
    refine wpAny_stack_any fun st => wpAny_pure ?_
    split
    · rename_i c _ _ _ _ _
      cases (c == Value.type "enumerate")
      · wp_walk using q1
        exact ⟨_, rfl, h⟩
      · wp_walk using q1
        exact ⟨_, rfl, h⟩
    · wp_walk using q1
      exact ⟨_, rfl, h⟩
section
variable {prog : Program} {w : World} {A : Around} {E : Value → Shared → Prop} {s : Shared}
theorem enum1 {v : Value} {o : Obj} {H : Heap → Prop} {Q : Value → Shared → Prop} (B : Begins v o H) (h1 : H s.heap)
    (h : ∀ h', IsEnum h' (s.heap.objs.size + 1) s.heap.objs.size 0 .none → h'.get? s.heap.objs.size = some o → h'.objs.size = s.heap.objs.size + 2 →
      (∀ b o, s.heap.get? b = some o → h'.get? b = some o) → Q (.ref (s.heap.objs.size + 1)) { s with heap := h' }) :
    wpAny (model prog w) A (call (.type "enumerate") [v]) Q E s := by
  refine callType_new F.called_enumerate (by decide) (F.typeCall_enumerate_1 _) (F.newCall_enumerate_1 _) (fun obj => F.args_object_init_2 obj _) F.entry_enumerate_new
    (meets_enum1 B) ⟨h1, ?_⟩
  have hz : (s.heap.push o).objs.size = s.heap.objs.size + 1 := Heap.size_push ..
  show _ ∧ _
  rw [hz]
  have he : IsEnum ((s.heap.push o).push { cls := .type "enumerate", data := .fields #[.none, .bool false, .ref s.heap.objs.size, rawInt 0, .none, .none] }) (s.heap.objs.size + 1) s.heap.objs.size 0 .none := by
    have := Heap.get?_push_size (s.heap.push o) (o := { cls := .type "enumerate", data := .fields #[.none, .bool false, .ref s.heap.objs.size, rawInt 0, .none, .none] }) rfl
    rw [hz] at this; exact this
  refine ⟨⟨_, he, rfl⟩, h _ he (Heap.get?_push_of_some _ (Heap.get?_push_size _ B.free)) (by rw [Heap.size_push, hz]) fun b o x => Heap.get?_push_of_some _ (Heap.get?_push_of_some _ x)⟩
end
/-! tuples -/
def Itet (K : PySem.W.Frag) (a : Addr) : It :=
  ⟨fun i H => ∃ (xs : List V) (x : V), SqT K H a xs ∧ xs[i]? = some x, fun i H v H' => ∃ T x, v = .ref T ∧ H T = none ∧ H' = upd H T (.tup [.int (i : Nat), x]) ∧ ∀ xs, SqT K H a xs → xs[i]? = some x, fun i H => ∃ xs : List V, SqT K H a xs ∧ xs.length = i⟩
theorem turn_enumT {P : Program} {w : World} {K : PySem.W.Frag} {elts : List Expr} {kk : Nat} {tpos : Pos} (a e it : Addr) :
    Turn P w K (.Tuple elts kk tpos) (Itet K a) [e, it] e (fun i h => (∃ old, IsEnum h e it ((i : Nat) : Int) old) ∧ h.IsTupleIter it a i ∧ e ≠ it ∧ a ≠ it ∧ a ≠ e) where
  mem := by simp
  obj := fun i h st b hb => by
    obtain ⟨⟨old, he⟩, ⟨o, ho, hc, hd⟩, _⟩ := st
    have e' : b = e ∨ b = it := by simpa using hb
    rcases e' with z | z
    · rw [z]; exact ⟨_, he, fun v q => nomatch q⟩
    · rw [z]; exact ⟨o, ho, fun v q => by rw [hd] at q; cases q⟩
  keep := fun i h h' st k => let ⟨⟨old, he⟩, ⟨o, ho, r⟩, hne⟩ := st; ⟨⟨old, k e (by simp) _ he⟩, ⟨o, k it (by simp) o ho, r⟩, hne⟩
  item := by
    intro X hP hw hK hc i pins s σ H E I hf st hg
    subst hP hw hK
    obtain ⟨⟨old, he⟩, hit, hne, hait, hae⟩ := st
    obtain ⟨xs, x, hq, hx⟩ := hg
    obtain ⟨its, rv, p, hz⟩ := I.tuple hq
    obtain ⟨u, hu, ru⟩ := rv.get hx
    have hel : e < s.heap.objs.size := Heap.lt_size he
    have hil : it < s.heap.objs.size := by obtain ⟨_, q, _⟩ := hit; exact Heap.lt_size q
    have hlt : i < its.toArray.size := by
      have := (List.getElem?_eq_some_iff.mp hu).1
      simpa using this
    have hdn : X.A.in1.handled = none := I.ok.hd hc
    refine wpAny_pyNext_enum_itemD (Draws.tuple hdn it a hait its.toArray) he ⟨hit, (show s.heap.IsTuple a its.toArray from p)⟩ hlt hne (by simp [Ne.symm hae, hne]) fun y h' tk hy ho hit' hT hsz hk => ?_
    have hyu : y = u := by
      have : its.toArray[i]? = some u := by simpa using hu
      rw [this] at hy; exact (Option.some.inj hy).symm
    subst hyu
    refine ⟨_, rfl, wpAny_letOwnedTupleGo_enum (s := { s with heap := h', toks := tk + 1 }) ho fun h'' he' sb => ?_⟩
    have hT2 : h''.get? s.heap.objs.size = some { cls := .type "tuple", data := .seq #[.int i tk, y] } := (sb.2 _ (Nat.ne_of_gt hel)).trans hT
    have new : ObjOk X.prog X.w (upd H s.heap.objs.size (.tup [.int (i : Nat), x])) h'' s.heap.objs.size (.tup [.int (i : Nat), x]) :=
      ⟨by show 2 ≤ sizeLine; decide, [.int i tk, y], .cons ⟨_, rfl⟩ (.cons ru .nil), ⟨_, hT2, rfl, _, rfl⟩⟩
    have I1 : Inv X pins σ (upd H s.heap.objs.size (.tup [.int (i : Nat), x])) { s with heap := h'', toks := tk + 1 } :=
      I.turnedNew (ch := [e, it]) (fun b ob hb q => (sb.2 b (fun z => hb (by simp [z]))).trans (hk b ob (fun z => hb (by simp [z])) (fun z => hb (by simp [z])) q)) hf (Nat.le_refl _) new
    refine ⟨.ref s.heap.objs.size, _, I1, rfl, ⟨_, x, rfl, I.hok.fresh (Nat.le_refl _), rfl, fun ys hy => ?_⟩, ⟨⟨y, ?_⟩, ?_, hne, hait, hae⟩, fun b hb => ?_⟩
    · rw [I.tuple_inj hy hq]; exact hx
    · have e1 : ((i + 1 : Nat) : Int) = (i : Int) + 1 := by omega
      rw [e1]; exact he'
    · obtain ⟨o, ho, r⟩ := hit'.1
      exact ⟨o, (sb.2 it (Ne.symm hne)).trans ho, r⟩
    · have hb' : b < s.heap.objs.size := by
        have e' : b = e ∨ b = it := by simpa using hb
        rcases e' with z | z
        · rw [z]; exact hel
        · rw [z]; exact hil
      rw [upd_ne (Nat.ne_of_lt hb')]
      exact (hf b hb).1
  done := by
    intro X hP hw hK hc i pins s σ H E I hf st hg
    subst hP hw hK
    obtain ⟨⟨old, he⟩, hit, hne, hait, hae⟩ := st
    obtain ⟨xs, hq, hx⟩ := hg
    obtain ⟨its, rv, p, hz⟩ := I.tuple hq
    obtain ⟨f0, f1, f2, f3, f4, f5⟩ := hf it (by simp)
    have hl := rv.length
    have hsz : i = its.toArray.size := by simp; omega
    subst hsz
    exact wpAny_pyNext_enum_endD (Draws.tuple (show X.A.in1.handled = none from I.ok.hd hc) it a hait its.toArray) he ⟨hit, (show s.heap.IsTuple a its.toArray from p)⟩ fun h' eb => ⟨rfl, I.turned (t' := s.toks) (fun b o hb q => eb b o hb q) f0 f1 f3 f4 f5⟩
  self := fun A i s Q E st h => let ⟨⟨_, he⟩, _⟩ := st; wpAny_pyIter_enum he h
def enumL : Nat → List D → List D
  | _, [] => []
  | i, x :: xs => .tup [.int (i : Int), x] :: enumL (i + 1) xs
def enumD (x : D) (S : Store) : R (List D) := match x with
  | .tup l => .ok (enumL 0 l) S
  | .lst l => .ok (enumL 0 l) S
  | .scr ns => .ok (enumL 0 (ns.map .int)) S
  | _ => .bad
theorem enumL_get : ∀ (k : Nat) (l : List D) (i : Nat) (d : D), (enumL k l)[i]? = some d → ∃ x, l[i]? = some x ∧ d = .tup [.int ((k + i : Nat) : Int), x]
  | _, [], i, d, h => by simp [enumL] at h
  | k, x :: xs, 0, d, h => by
    simp only [enumL, List.getElem?_cons_zero, Option.some.injEq] at h
    exact ⟨x, rfl, h.symm⟩
  | k, x :: xs, i + 1, d, h => by
    simp only [enumL, List.getElem?_cons_succ] at h ⊢
    obtain ⟨y, h1, h2⟩ := enumL_get (k + 1) xs i d h
    exact ⟨y, h1, by rw [h2, show k + 1 + i = k + (i + 1) by omega]⟩
theorem enumL_len : ∀ (k : Nat) (l : List D), (enumL k l).length = l.length
  | _, [] => rfl
  | k, x :: xs => by simp [enumL, enumL_len (k + 1) xs]
section
variable {G : GC} {X : Cx} {Wx : WX} {pos : Pos}
theorem new_pair {w : Wd} {T : Addr} {i : Int} {d : D} {v : V} (sr : SRep G w) (hT : w.H T = none) (r : Rep G w d v) :
    ∃ w'', w''.H = upd w.H T (.tup [.int i, v]) ∧ WExt w w'' ∧ w''.S = w.S ∧ SRep G w'' ∧ Rep G w'' (.tup [.int i, d]) (.ref T) := by
  obtain ⟨x, s, nm⟩ := new_ext (o := .tup [.int i, v]) sr hT
  refine ⟨w.put T (.tup [.int i, v]), rfl, x, rfl, s, ?_⟩
  simp only [Rep]
  refine ⟨T, [.int i, v], rfl, .inl ⟨.inl ?_, nm⟩, ?_⟩
  · exact upd_same
  · simp only [RepL, Rep]
    exact ⟨_, _, rfl, rfl, v, [], rfl, Rep.mono x _ _ r, rfl⟩
theorem it_enumT {w : Wd} {a : Addr} {vs : List V} {l : List D} (h : Fz w a (.tup vs) ∨ KT G.K a vs) (r : RepL G w l vs) : ItOk G w (Itet G.K a) (enumL 0 l) := by
  have sq : ∀ (T : List Addr) w', Tok T w → WX' T w w' → SqT G.K w'.H a vs := fun T w' hT x => by
    rcases h with h | h
    · exact .inl (Fz.monoT x hT h).1
    · exact .inr h
  refine ⟨fun T w' hT x s i d e => ?_, fun T w' hT x s => ⟨vs, sq T w' hT x, by rw [enumL_len, r.length]⟩⟩
  obtain ⟨y, e1, rfl⟩ := enumL_get 0 l i d e
  obtain ⟨v, q1, q2⟩ := r.get e1
  refine ⟨⟨vs, v, sq T w' hT x, q1⟩, fun y H'' hy => ?_⟩
  obtain ⟨Tn, z, rfl, hTn, rfl, hy⟩ := hy
  have e2 := hy vs (sq T w' hT x)
  rw [q1] at e2; cases e2
  have := new_pair (i := ((0 + i : Nat) : Int)) s hTn (Rep.monoT x hT _ _ q2)
  rw [show 0 + i = i by omega] at this ⊢
  exact this
theorem it_enum {w : Wd} {a : Addr} {vs : List V} {l : List D} (h : (w.H a = some (.lst vs) ∧ ¬ Mut w a) ∨ Fz w a (.lst vs) ∨ KL G.K a vs) (r : RepL G w l vs) : ItOk G w (Ite G.K a) (enumL 0 l) := by
  have sq : ∀ (T : List Addr) w', Tok T w → WX' T w w' → SqL G.K w'.H a vs := fun T w' hT x => by
    rcases h with ⟨h, nm⟩ | h | h
    · exact .inl (.inl (x.keepM hT h nm).1)
    · exact .inl (Fz.monoT x hT h).1
    · exact .inr h
  refine ⟨fun T w' hT x s i d e => ?_, fun T w' hT x s => ⟨vs, sq T w' hT x, by rw [enumL_len, r.length]; exact Nat.le_refl _⟩⟩
  obtain ⟨y, e1, rfl⟩ := enumL_get 0 l i d e
  obtain ⟨v, q1, q2⟩ := r.get e1
  refine ⟨⟨vs, v, sq T w' hT x, q1⟩, fun y H'' hy => ?_⟩
  obtain ⟨Tn, z, rfl, hTn, rfl, hy⟩ := hy
  have e2 := hy vs (sq T w' hT x)
  rw [q1] at e2; cases e2
  have := new_pair (i := ((0 + i : Nat) : Int)) s hTn (Rep.monoT x hT _ _ q2)
  rw [show 0 + i = i by omega] at this ⊢
  exact this
def enumA : List D → Store → R (List D) := fun xs S => match xs with
  | [x] => enumD x S
  | _ => .bad
/-- for i, x in enumerate(..) -/
theorem q_enum {elts : List Expr} {kk : Nat} {tpos p : Pos} {e : Expr} {m : AD} (hK : X.K = G.K) (hg : Gl X "enumerate") (hm : X.mg "enumerate" = none) (ha : PA X [e] (tA G m Wx)) (hs : starEach [e] X.env = [(false, eval e X.env)] := by rfl) :
    PI X (.Tuple elts kk tpos) (.Call (.Name "enumerate" p) [e] [] pos) (tI G (iArgs enumA m) Wx) := by
  refine ⟨fun pins s σ H R I q => ?_⟩
  obtain ⟨w, env, rfl, sr, er, p⟩ := q
  refine Call_ (ld_blt I hg hm boot_enumerate (PyProof.Rows.callWith_type1 (thn (ha.run pos pins s σ w.H _ I ⟨w, env, rfl, sr, er, Post.bind p⟩) fun us s1 ⟨vs, H1, I1, r1, q1⟩ => ?_) hs rfl))
  obtain ⟨w1, ds, rfl, x1, sr1, rp1, p1⟩ := q1
  unfold enumA at p1
  split at p1
  · rename_i d1
    simp only [RepL] at rp1
    obtain ⟨v, r', rfl, rp1, rfl⟩ := rp1
    cases r1 with
    | cons r rr =>
      cases rr
      have lst : ∀ {a : Addr} {vs : List V}, SqL X.K w1.H a vs → R (Ite G.K a) w1.H → wpAny (model X.prog X.w) X.A (call (.type "enumerate") [.ref a]) (fun v s' => wpAny (model X.prog X.w) X.A (pyIter v) (PIE X pins σ (.Tuple elts kk tpos) R) X.xe s') X.xe s1 := fun {a vs} hq q => by
        obtain ⟨its, rv, p', hz⟩ := I1.list hq
        refine call_enumerate_list p'.isList fun h' he hit hsz hk => wpAny_pyIter_enum he ?_
        have I2 : Inv X pins σ w1.H { s1 with heap := h' } := I1.kept (t' := s1.toks) hk
        refine ⟨s1.heap.objs.size + 1, [s1.heap.objs.size + 1, s1.heap.objs.size], _, _, w1.H, rfl, I2, turn_enum a (s1.heap.objs.size + 1) s1.heap.objs.size, ⟨⟨.none, he⟩, hit, Nat.succ_ne_self _⟩, fun b hb => ?_, by rw [hK]; exact q⟩
        have e' : b = s1.heap.objs.size + 1 ∨ b = s1.heap.objs.size := by simpa using hb
        have hle : s1.heap.objs.size ≤ b := by
          rcases e' with z | z
          · rw [z]; exact Nat.le_add_right _ _
          · rw [z]; exact Nat.le_refl _
        exact I1.fpOk hle (I1.hok.fresh hle)
      unfold enumD at p1
      split at p1
      · rename_i l
        simp only [Rep] at rp1
        obtain ⟨a, vs, rfl, hq, rl⟩ := rp1
        cases r
        have q := p1 (Itet G.K a) w1 (.refl _) rfl sr1 (it_enumT hq rl)
        have hq' : SqT X.K w1.H a vs := by rw [hK]; exact hq.imp (fun z => z.1) id
        obtain ⟨its, rv, p, hz⟩ := I1.tuple hq'
        have hT : s1.heap.IsTuple a its.toArray := p
        have hal : a < s1.heap.objs.size := by obtain ⟨_, q, _⟩ := hT; exact Heap.lt_size q
        refine enum1 (begins_tuple a its.toArray) hT fun h' he hit hsz hk => wpAny_pyIter_enum he ?_
        have I2 : Inv X pins σ w1.H { s1 with heap := h' } := I1.kept (t' := s1.toks) hk
        refine ⟨s1.heap.objs.size + 1, [s1.heap.objs.size + 1, s1.heap.objs.size], _, _, w1.H, rfl, I2, turn_enumT a (s1.heap.objs.size + 1) s1.heap.objs.size, ⟨⟨.none, he⟩, ⟨_, hit, rfl, rfl⟩, Nat.succ_ne_self _, Nat.ne_of_lt hal, Nat.ne_of_lt (Nat.lt_succ_of_lt hal)⟩, fun b hb => ?_, by rw [hK]; exact q⟩
        have e' : b = s1.heap.objs.size + 1 ∨ b = s1.heap.objs.size := by simpa using hb
        have hle : s1.heap.objs.size ≤ b := by
          rcases e' with z | z
          · rw [z]; exact Nat.le_add_right _ _
          · rw [z]; exact Nat.le_refl _
        exact I1.fpOk hle (I1.hok.fresh hle)
      · rename_i l
        simp only [Rep] at rp1
        obtain ⟨a, vs, rfl, hq, nm, rl⟩ := rp1
        cases r
        exact lst (vs := vs) (.inl (.inl hq)) (p1 (Ite G.K a) w1 (.refl _) rfl sr1 (it_enum (.inl ⟨hq, nm⟩) rl))
      · rename_i ns
        simp only [Rep] at rp1
        obtain ⟨a, rfl, hq⟩ := rp1
        cases r
        exact lst (vs := ns.map V.int) (by rw [hK]; exact hq.imp (fun z => z.1) id) (p1 (Ite G.K a) w1 (.refl _) rfl sr1 (it_enum (.inr hq) (RepL_ints.mpr rfl)))
      · exact p1.elim
  · exact p1.elim
end
end L3
set_option Elab.async false
set_option linter.all false
set_option maxRecDepth 100000
/-! L4B: [.. for .. in .. for .. in ..]. -/
namespace L3
open PySem PySem.Spec PyProof.Rows L2
def lcL2 (g : GD) (tt : TD) (mi1 : ID) (vs1 : List Nat) (g1 : GD) (tt1 : TD) (te : ED) (env : EnvD) : List D → Store → R (List D)
  | [], S => .ok [] S
  | x :: xs, S => match g x env S with
    | .nx env1 S1 => (tt env1 S1).nox.bind fun k S2 => match k with
      | true => (mi1 env1 S2).nox.bind fun ys S3 => (lcL g1 tt1 te (wipeD env1 vs1) ys S3).bind fun zs S4 => (lcL2 g tt mi1 vs1 g1 tt1 te env xs S4).bind fun us S5 => .ok (zs ++ us) S5
      | false => lcL2 g tt mi1 vs1 g1 tt1 te env xs S2
    | _ => .bad
def eLc2 (mi : ID) (vs : List Nat) (g : GD) (tt : TD) (mi1 : ID) (vs1 : List Nat) (g1 : GD) (tt1 : TD) (te : ED) : ED := fun env S => (mi env S).bind fun xs S1 =>
  (lcL2 g tt mi1 vs1 g1 tt1 te (wipeD env vs) xs S1).nox.bind fun ys S2 => if ys.length ≤ sizeLine then .ok (.lst ys) S2 else .bad
theorem bind_eq {α β : Type} {r : R α} {f : α → Store → R β} {b : β} {S : Store} (h : r.bind f = .ok b S) : ∃ a S1, r = .ok a S1 ∧ f a S1 = .ok b S := by
  cases r with
  | ok a S1 => exact ⟨a, S1, rfl, h⟩
  | exc e S1 => cases h
  | bad => cases h
theorem nox_eq {α : Type} {r : R α} {b : α} {S : Store} (h : r.nox = .ok b S) : r = .ok b S := by
  cases r with
  | ok a S1 => exact h
  | exc e S1 => cases h
  | bad => cases h
section
variable {G : GC} {X : Cx} {Wx : WX} {pos : Pos}
/-- the list in the making, one more at its end -/
theorem put_end {w : Wd} {L : Addr} {us : List V} {v : V} (s7 : SRep G w) (tm7 : L ∈ w.tmp) : WX' [L] w (w.put L (.lst (us ++ [v]))) ∧ Tok [L] w ∧ SRep G (w.put L (.lst (us ++ [v]))) := by
  have nm7 : ¬ MutS w L := (s7.tm L tm7).2
  have x8 : WX' [L] w (w.put L (.lst (us ++ [v]))) := ⟨fun _ _ h => h, fun a o h nm ha => ⟨(upd_ne (by simpa using ha)).trans h, nm⟩, fun a h => .inl h, fun a h => h⟩
  have t8 : Tok [L] w := fun a h => .inl (by have : a = L := by simpa using h
                                             rw [this]; exact tm7)
  refine ⟨x8, t8, s7.len, s7.inj, fun n ob a h1 h2 => ?_, fun a ha => ?_⟩
  · have h := s7.obj n ob a h1 h2
    exact h.keep x8 t8 fun lv => upd_ne fun e => nm7 (by subst e; exact ⟨n, ob, h1, lv, h2⟩)
  · obtain ⟨⟨u, e⟩, nm⟩ := s7.tm a ha
    by_cases ea : a = L
    · subst ea; exact ⟨⟨_, upd_same⟩, nm⟩
    · exact ⟨⟨u, (upd_ne ea).trans e⟩, nm⟩
theorem imp_lc2 {mi mi1 : ID} {vs vs1 : List Nat} {g g1 : GD} {tt tt1 : TD} {te : ED} : ∀ σ H Q, tE G (eLc2 mi vs g tt mi1 vs1 g1 tt1 te) Wx σ H Q → tLc2 (tI G mi Wx) (tGW G g vs) (tT G tt WF) (tI G mi1 WF) (tGW G g1 vs1) (tT G tt1 WF) (tE G te WF) vs vs1 σ H Q := by
  intro σ H Q q
  obtain ⟨w, env, rfl, sr, er, p⟩ := q
  refine ⟨w, env, rfl, sr, er, (Post.bind (Ra := fun w' xs (J : It) => ItOk G w' J xs) p).mono (fun J H1 m => ?_) fun _ _ _ h => h⟩
  obtain ⟨w1, xs, rfl, x1, s1, io, p1⟩ := m
  intro L hL
  have hfr : ∀ a ∈ [L], w1.H a = none := fun a h => by have : a = L := by simpa using h
                                                       rw [this]; exact hL
  obtain ⟨F, SF, hF, hz⟩ : ∃ F SF, lcL2 g tt mi1 vs1 g1 tt1 te (wipeD env vs) xs w1.S = .ok F SF ∧ F.length ≤ sizeLine := by
    cases h : lcL2 g tt mi1 vs1 g1 tt1 te (wipeD env vs) xs w1.S with
    | ok F SF =>
      rw [h] at p1
      by_cases hz : F.length ≤ sizeLine
      · exact ⟨F, SF, rfl, hz⟩
      · simp only [R.nox, R.bind, if_neg hz] at p1; exact p1.elim
    | exc e S => rw [h] at p1; exact p1.elim
    | bad => rw [h] at p1; exact p1.elim
  rw [hF] at p1
  simp only [R.nox, R.bind, if_pos hz] at p1
  have er1 := (er.mono x1).wipe vs
  have h0 : WX' [L] w1 ⟨w1.mu, w1.S, upd w1.H L (.lst []), L :: w1.tmp⟩ :=
    ⟨fun _ _ h => h, fun a o h nm ha => ⟨(upd_ne (by simpa using ha)).trans h, nm⟩, fun a h => by
      rcases List.mem_cons.mp h with e | h
      · exact .inr (by simp [e])
      · exact .inl h, fun a h => List.mem_cons_of_mem _ h⟩
  have nL : ¬ MutS w1 L := fun m => by obtain ⟨u, e⟩ := MutS.there s1 m; rw [hL] at e; cases e
  have sW : SRep G ⟨w1.mu, w1.S, upd w1.H L (.lst []), L :: w1.tmp⟩ := by
    refine ⟨s1.len, s1.inj, fun n ob a h1 h2 => ?_, fun a ha => ?_⟩
    · have h := s1.obj n ob a h1 h2
      refine h.keep h0 (fr_tok hfr) fun lv => ?_
      obtain ⟨u, e⟩ := h.there lv
      exact upd_ne (ne_of_none e hL)
    · rcases List.mem_cons.mp ha with e | ha
      · subst e; exact ⟨⟨_, upd_same⟩, nL⟩
      · obtain ⟨⟨u, e⟩, nm⟩ := s1.tm a ha
        exact ⟨⟨u, (upd_ne (ne_of_none e hL)).trans e⟩, nm⟩
  refine ⟨fun i m H => ∃ w3 acc us, w3.H = H ∧ SRep G w3 ∧ WX' [L] w1 w3 ∧ L ∈ w3.tmp ∧ w3.H L = some (.lst us) ∧ RepL G w3 acc us ∧ i + m = xs.length ∧
      ((lcL2 g tt mi1 vs1 g1 tt1 te (wipeD env vs) (xs.drop i) w3.S).bind fun ys S2 => .ok (acc ++ ys) S2) = .ok F SF,
    ⟨xs.length, _, [], [], rfl, sW, h0, by simp, upd_same, by simp [RepL], by omega, ?_⟩, fun i m H hW => ?_⟩
  · simp only [List.drop_zero, List.nil_append, R.bind_ok]; exact hF
  obtain ⟨w3, acc, us, rfl, s3, x3, tm3, hL3, ra3, em, eq⟩ := hW
  by_cases hi : i < xs.length
  · have e : xs[i]? = some xs[i] := List.getElem?_eq_getElem hi
    obtain ⟨go, yl⟩ := io.go [L] w3 (fr_tok hfr) x3 s3 i xs[i] e
    refine .inr ⟨go, fun H' => ∃ w5 acc us, w5.H = H' ∧ SRep G w5 ∧ WX' [L] w1 w5 ∧ L ∈ w5.tmp ∧ w5.H L = some (.lst us) ∧ RepL G w5 acc us ∧ (i + 1) + (m - 1) = xs.length ∧
      ((lcL2 g tt mi1 vs1 g1 tt1 te (wipeD env vs) (xs.drop (i + 1)) w5.S).bind fun ys S2 => .ok (acc ++ ys) S2) = .ok F SF, fun H' hN => ⟨m - 1, by omega, hN⟩, fun x H' hy => ?_⟩
    obtain ⟨w4, rfl, x4, eS4, s4, rp4⟩ := yl x H' hy
    have x14 : WX' [L] w1 w4 := WX'.trans x3 (WX'.wide x4)
    refine ⟨w4, wipeD env vs, xs[i], rfl, s4, er1.monoT x14 (fr_tok hfr), rp4, ?_⟩
    rw [List.drop_eq_getElem_cons hi, lcL2] at eq
    rw [eS4]
    cases hg : g xs[i] (wipeD env vs) w3.S with
    | nx env5 S5 =>
      rw [hg] at eq
      simp only at eq
      intro σ5 w5 x5 e5 s5 er5 hw
      subst e5
      refine ⟨hw.trans (wipe_sub fun _ h => h), w5, env5, rfl, s5, er5, ?_⟩
      cases ht : tt env5 w5.S with
      | ok k S6 =>
        rw [ht] at eq
        simp only [R.nox, R.bind] at eq
        intro b w6 x6 e6 s6 hb
        subst hb e6
        have x46 : WExt w4 w6 := WX'.trans x5 x6
        have x16 : WX' [L] w1 w6 := WX'.trans x14 (WX'.wide x46)
        have hL6 : w6.H L = some (.lst us) := (x46.keep L _ ((x4.keep L _ hL3 ((s3.tm L tm3).2) (by simp)).1) ((s4.tm L (x4.tmp' L tm3)).2) (by simp)).1
        have tm6 : L ∈ w6.tmp := x46.tmp' L (x4.tmp' L tm3)
        have ra6 : RepL G w6 acc us := RepL.mono (WX'.trans x4 x46) _ _ ra3
        cases k with
        | false =>
          refine iteF ⟨w6, acc, us, rfl, s6, x16, tm6, hL6, ra6, by omega, ?_⟩
          simpa [R.bind] using eq
        | true =>
          refine iteT ⟨w6, env5, rfl, s6, er5.mono x6, ?_⟩
          simp only at eq
          cases hm1 : mi1 env5 w6.S with
          | ok ys S7 =>
            rw [hm1] at eq
            simp only [R.nox, R.bind] at eq
            intro J1 w7 x7 e7 s7 io1
            subst e7
            have er7 : ERep G w7 env5 σ5 := (er5.mono x6).mono x7
            have x17 : WX' [L] w1 w7 := WX'.trans x16 (WX'.wide x7)
            have hL7 : w7.H L = some (.lst us) := (x7.keep L _ hL6 ((s6.tm L tm6).2) (by simp)).1
            have tm7 : L ∈ w7.tmp := x7.tmp' L tm6
            have ra7 : RepL G w7 acc us := RepL.mono x7 _ _ ra6
            have t7 : Tok [L] w7 := fun a h => .inl (by have : a = L := by simpa using h
                                                        rw [this]; exact tm7)
            have er8 := er7.wipe vs1
            refine ⟨fun j k H => ∃ w8 acc us, w8.H = H ∧ SRep G w8 ∧ WX' [L] w7 w8 ∧ L ∈ w8.tmp ∧ w8.H L = some (.lst us) ∧ RepL G w8 acc us ∧ j + k = ys.length ∧
                ((lcL g1 tt1 te (wipeD env5 vs1) (ys.drop j) w8.S).bind fun zs S4 => (lcL2 g tt mi1 vs1 g1 tt1 te (wipeD env vs) (xs.drop (i + 1)) S4).bind fun us S5 => .ok (acc ++ (zs ++ us)) S5) = .ok F SF,
              ⟨ys.length, w7, acc, us, rfl, s7, ⟨fun _ _ h => h, fun a o h nm _ => ⟨h, nm⟩, fun a h => .inl h, fun a h => h⟩, tm7, hL7, ra7, by omega, ?_⟩, fun j k H hW1 => ?_⟩
            · rw [List.drop_zero]
              rw [← eq]
              simp only [R.bind_assoc]
            obtain ⟨w8, acc8, us8, rfl, s8, x8, tm8, hL8, ra8, ek, eq8⟩ := hW1
            by_cases hj : j < ys.length
            · have e1 : ys[j]? = some ys[j] := List.getElem?_eq_getElem hj
              obtain ⟨go1, yl1⟩ := io1.go [L] w8 t7 x8 s8 j ys[j] e1
              refine .inr ⟨go1, fun H' => ∃ w9 acc us, w9.H = H' ∧ SRep G w9 ∧ WX' [L] w7 w9 ∧ L ∈ w9.tmp ∧ w9.H L = some (.lst us) ∧ RepL G w9 acc us ∧ (j + 1) + (k - 1) = ys.length ∧
                ((lcL g1 tt1 te (wipeD env5 vs1) (ys.drop (j + 1)) w9.S).bind fun zs S4 => (lcL2 g tt mi1 vs1 g1 tt1 te (wipeD env vs) (xs.drop (i + 1)) S4).bind fun us S5 => .ok (acc ++ (zs ++ us)) S5) = .ok F SF, fun H' hN => ⟨k - 1, by omega, hN⟩, fun x H' hy => ?_⟩
              obtain ⟨w9, rfl, x9, eS9, s9, rp9⟩ := yl1 x H' hy
              have x79 : WX' [L] w7 w9 := WX'.trans x8 (WX'.wide x9)
              refine ⟨w9, wipeD env5 vs1, ys[j], rfl, s9, er8.monoT x79 t7, rp9, ?_⟩
              rw [List.drop_eq_getElem_cons hj, lcL] at eq8
              rw [eS9]
              cases hg1 : g1 ys[j] (wipeD env5 vs1) w8.S with
              | nx env10 S10 =>
                rw [hg1] at eq8
                simp only at eq8
                intro σ10 w10 x10 e10 s10 er10 hw10
                subst e10
                refine ⟨hw10.trans (wipe_sub fun _ h => h), w10, env10, rfl, s10, er10, ?_⟩
                cases ht1 : tt1 env10 w10.S with
                | ok k1 S11 =>
                  rw [ht1] at eq8
                  simp only [R.nox, R.bind] at eq8
                  intro b w11 x11 e11 s11 hb
                  subst hb e11
                  have x911 : WExt w9 w11 := WX'.trans x10 x11
                  have x711 : WX' [L] w7 w11 := WX'.trans x79 (WX'.wide x911)
                  have hL11 : w11.H L = some (.lst us8) := (x911.keep L _ ((x9.keep L _ hL8 ((s8.tm L tm8).2) (by simp)).1) ((s9.tm L (x9.tmp' L tm8)).2) (by simp)).1
                  have tm11 : L ∈ w11.tmp := x911.tmp' L (x9.tmp' L tm8)
                  have ra11 : RepL G w11 acc8 us8 := RepL.mono (WX'.trans x9 x911) _ _ ra8
                  cases k1 with
                  | false =>
                    refine iteF ⟨w11, acc8, us8, rfl, s11, x711, tm11, hL11, ra11, by omega, ?_⟩
                    simpa [R.bind] using eq8
                  | true =>
                    refine iteT ⟨w11, env10, rfl, s11, er10.mono x11, ?_⟩
                    simp only at eq8
                    cases hte : te env10 w11.S with
                    | ok y S12 =>
                      rw [hte] at eq8
                      simp only [R.nox, R.bind] at eq8
                      intro v w12 x12 e12 s12 r12
                      subst e12
                      have hL12 : w12.H L = some (.lst us8) := (x12.keep L _ hL11 ((s11.tm L tm11).2) (by simp)).1
                      have tm12 : L ∈ w12.tmp := x12.tmp' L tm11
                      have lu : us8.length = acc8.length := ra11.length
                      have eq9 : ((lcL g1 tt1 te (wipeD env5 vs1) (ys.drop (j + 1)) w12.S).bind fun zs S4 => (lcL2 g tt mi1 vs1 g1 tt1 te (wipeD env vs) (xs.drop (i + 1)) S4).bind fun us S5 => .ok (acc8 ++ [y] ++ (zs ++ us)) S5) = .ok F SF := by
                        rw [← eq8]
                        show _ = ((lcL g1 tt1 te (wipeD env5 vs1) (List.drop (j + 1) ys) w12.S).bind _).bind _
                        cases lcL g1 tt1 te (wipeD env5 vs1) (List.drop (j + 1) ys) w12.S <;> simp [R.bind]
                      have hlt : acc8.length < sizeLine := by
                        obtain ⟨zs, S4, h1, h2⟩ := bind_eq eq9
                        obtain ⟨us', S5, h3, h4⟩ := bind_eq h2
                        have hFe : acc8 ++ [y] ++ (zs ++ us') = F := by cases h4; rfl
                        have hl := congrArg List.length hFe
                        simp only [List.length_append, List.length_cons, List.length_nil] at hl
                        omega
                      obtain ⟨xP, tP, sP⟩ := put_end (us := us8) (v := v) s12 tm12
                      refine ⟨us8, hL12, by omega, ?_⟩
                      refine ⟨_, acc8 ++ [y], us8 ++ [v], rfl, sP, WX'.trans (WX'.trans x711 (WX'.wide x12)) xP, tm12, upd_same, ?_, by omega, eq9⟩
                      exact (RepL.monoT xP tP _ _ (RepL.mono x12 _ _ ra11)).append (RepL.one (Rep.monoT xP tP _ _ r12))
                    | exc ee S12 => rw [hte] at eq8; cases eq8
                    | bad => rw [hte] at eq8; cases eq8
                | exc ee S11 => rw [ht1] at eq8; cases eq8
                | bad => rw [ht1] at eq8; cases eq8
              | ret _ _ => rw [hg1] at eq8; cases eq8
              | brk _ _ => rw [hg1] at eq8; cases eq8
              | ct _ _ => rw [hg1] at eq8; cases eq8
              | exc _ _ _ => rw [hg1] at eq8; cases eq8
              | bad => rw [hg1] at eq8; cases eq8
            · have ej : j = ys.length := by omega
              subst ej
              refine .inl ⟨io1.stop [L] w8 t7 x8 s8, ?_⟩
              rw [List.drop_length] at eq8
              refine ⟨w8, acc8, us8, rfl, s8, WX'.trans x17 x8, tm8, hL8, ra8, by omega, ?_⟩
              simpa [lcL, R.bind] using eq8
          | exc ee S7 => rw [hm1] at eq; cases eq
          | bad => rw [hm1] at eq; cases eq
      | exc ee S6 => rw [ht] at eq; cases eq
      | bad => rw [ht] at eq; cases eq
    | ret _ _ => rw [hg] at eq; cases eq
    | brk _ _ => rw [hg] at eq; cases eq
    | ct _ _ => rw [hg] at eq; cases eq
    | exc _ _ _ => rw [hg] at eq; cases eq
    | bad => rw [hg] at eq; cases eq
  · have ei : i = xs.length := by omega
    subst ei
    refine .inl ⟨io.stop [L] w3 (fr_tok hfr) x3 s3, ?_⟩
    rw [List.drop_length] at eq
    simp only [lcL2, R.bind, List.append_nil, R.ok.injEq] at eq
    obtain ⟨rfl, rfl⟩ := eq
    have we : WExt w1 { w3 with tmp := w1.tmp } := ⟨x3.mu, fun a o h nm _ => x3.keep a o h nm (by
      intro ha
      have : a = L := by simpa using ha
      rw [this, hL] at h; cases h), fun a h => .inl h, fun a h => h⟩
    have tinc : ∀ a, a ∈ w1.tmp → a ∈ w3.tmp := x3.tmp'
    have se : SRep G { w3 with tmp := w1.tmp } := s3.untmp tinc
    have nmL : ¬ Mut { w3 with tmp := w1.tmp } L := fun m => m.elim (s3.tm L tm3).2 fun z => by
      obtain ⟨⟨u, e⟩, _⟩ := s1.tm L z
      rw [hL] at e; cases e
    have hr : Rep G { w3 with tmp := w1.tmp } (.lst acc) (.ref L) := by
      simp only [Rep]
      exact ⟨L, us, rfl, hL3, nmL, RepL.untmp tinc _ _ ra3⟩
    exact p1 (.ref L) { w3 with tmp := w1.tmp } we rfl se hr
/-- [elt for .. in .. if .. for .. in .. if ..] -/
theorem q_lc2 {elt tg iter tg1 iter1 : Expr} {ifs ifs1 : List Expr} {scope : Scope} {own : List (Str × Nat)} {mi mi1 : ID} {vs1 : List Nat} {g g1 : GD} {mt mt1 : TD} {me : ED} (hc : X.calm = true) (hN : X.N.Nodup) (hi : PI X tg iter (tI G mi Wx)) (ok : BlkOk X.N X.env.scope scope own) (hv : ∀ i ∈ vs1, i ∈ own.map (·.2))
    (hg : ∀ (s : Shared) (H : Hp) (C : Addr) (cl : List (Str × Addr)) (fp : List Addr), PG (X.blk s H scope (compEnvC scope cl C X.env) fp) tg (tGW G g (own.map (·.2))))
    (ht : ∀ (s : Shared) (H : Hp) (C : Addr) (cl : List (Str × Addr)) (fp : List Addr), PTs (X.blk s H scope (compEnvC scope cl C X.env) fp) ifs (tT G mt WF))
    (hi1 : ∀ (s : Shared) (H : Hp) (C : Addr) (cl : List (Str × Addr)) (fp : List Addr), PI (X.blk s H scope (compEnvC scope cl C X.env) fp) tg1 iter1 (tI G mi1 WF))
    (hg1 : ∀ (s : Shared) (H : Hp) (C : Addr) (cl : List (Str × Addr)) (fp : List Addr), PG (X.blk s H scope (compEnvC scope cl C X.env) fp) tg1 (tGW G g1 vs1))
    (ht1 : ∀ (s : Shared) (H : Hp) (C : Addr) (cl : List (Str × Addr)) (fp : List Addr), PTs (X.blk s H scope (compEnvC scope cl C X.env) fp) ifs1 (tT G mt1 WF))
    (he : ∀ (s : Shared) (H : Hp) (C : Addr) (cl : List (Str × Addr)) (fp : List Addr), PE (X.blk s H scope (compEnvC scope cl C X.env) fp) elt (tE G me WF)) (hs : ∀ x, foldedSetIterable iter X.env x = pure x := by intro _; rfl) (hs1 : ∀ env x, foldedSetIterable iter1 env x = pure x := by intro _ _; rfl) :
    PE X (.ListComp elt [⟨tg, iter, ifs, 0⟩, ⟨tg1, iter1, ifs1, 0⟩] scope pos) (tE G (eLc2 mi (own.map (·.2)) g mt mi1 vs1 g1 mt1 me) Wx) := peI (pe_lc2 hc hN hi ok hv hg ht hi1 hg1 ht1 he hs hs1) imp_lc2
theorem q_setLc2 {i : Nat} {y : Str} {py : Pos} {elt tg iter tg1 iter1 : Expr} {ifs ifs1 : List Expr} {scope : Scope} {own : List (Str × Nat)} {spos : Pos} {mi mi1 : ID} {vs1 : List Nat} {g g1 : GD} {mt mt1 : TD} {me : ED} (hc : X.calm = true) (hN : X.N.Nodup) (hy : X.N[i]? = some y) (hyl : X.env.scope.names.lookup y = some .local)
    (hsw : swapsWith (.ListComp elt [⟨tg, iter, ifs, 0⟩, ⟨tg1, iter1, ifs1, 0⟩] scope pos) (some (.Name y py)) spos.line X.env = pure true) (hi : PI X tg iter (tI G mi Wx)) (ok : BlkOk X.N X.env.scope scope own) (hv : ∀ i ∈ vs1, i ∈ own.map (·.2))
    (hg : ∀ (s : Shared) (H : Hp) (C : Addr) (cl : List (Str × Addr)) (fp : List Addr), PG (X.blk s H scope (compEnvC scope cl C X.env) fp) tg (tGW G g (own.map (·.2))))
    (ht : ∀ (s : Shared) (H : Hp) (C : Addr) (cl : List (Str × Addr)) (fp : List Addr), PTs (X.blk s H scope (compEnvC scope cl C X.env) fp) ifs (tT G mt WF))
    (hi1 : ∀ (s : Shared) (H : Hp) (C : Addr) (cl : List (Str × Addr)) (fp : List Addr), PI (X.blk s H scope (compEnvC scope cl C X.env) fp) tg1 iter1 (tI G mi1 WF))
    (hg1 : ∀ (s : Shared) (H : Hp) (C : Addr) (cl : List (Str × Addr)) (fp : List Addr), PG (X.blk s H scope (compEnvC scope cl C X.env) fp) tg1 (tGW G g1 vs1))
    (ht1 : ∀ (s : Shared) (H : Hp) (C : Addr) (cl : List (Str × Addr)) (fp : List Addr), PTs (X.blk s H scope (compEnvC scope cl C X.env) fp) ifs1 (tT G mt1 WF))
    (he : ∀ (s : Shared) (H : Hp) (C : Addr) (cl : List (Str × Addr)) (fp : List Addr), PE (X.blk s H scope (compEnvC scope cl C X.env) fp) elt (tE G me WF)) (hs : ∀ x, foldedSetIterable iter X.env x = pure x := by intro _; rfl) (hs1 : ∀ env x, foldedSetIterable iter1 env x = pure x := by intro _ _; rfl) :
    PS X (.Assign [.Name y py] (.ListComp elt [⟨tg, iter, ifs, 0⟩, ⟨tg1, iter1, ifs1, 0⟩] scope pos) spos) (tS G (sAsg (eLc2 mi (own.map (·.2)) g mt mi1 vs1 g1 mt1 me) (gName i)) Wx) := psI (ps_setLc2 hc hN hy hyl hsw hi ok hv hg ht hi1 hg1 ht1 he hs hs1) fun D σ H q => by
  obtain ⟨w, env, rfl, sr, er, p⟩ := q
  refine imp_lc2 (Wx := Wx) σ w.H _ ⟨w, env, rfl, sr, er, (PostS.ofR (Ra := Rep G) er p).mono (fun x H1 m => ?_) fun _ _ _ h => h⟩
  obtain ⟨w1, d1, rfl, x1, s1, rp1, p1⟩ := m
  exact p1 _ w1 (.refl w1) rfl s1 ((er.mono x1).set i rp1)
end
end L3
set_option Elab.async false
set_option linter.all false
set_option maxRecDepth 100000
/-! L4C: lists that change, dicts made of others. -/
namespace L3
open PySem PySem.Spec PyProof.Rows L2
section
variable {G : GC} {X : Cx} {w : Wd}
theorem RepL.dropLast : ∀ {l : List D} {vs : List V}, RepL G w l vs → RepL G w l.dropLast vs.dropLast
  | [], vs, h => by
    have : vs = [] := h
    subst this; exact h
  | [d], vs, h => by
    obtain ⟨v, r, rfl, _, h2⟩ := h
    have : r = [] := h2
    subst this; simp [RepL]
  | d :: e :: l, vs, h => by
    obtain ⟨v, r, rfl, h1, h2⟩ := h
    obtain ⟨v', r', rfl, h3, h4⟩ := id h2
    have := RepL.dropLast h2
    exact ⟨v, _, rfl, h1, this⟩
theorem RepL.eraseIdx : ∀ {l : List D} {vs : List V} (k : Nat), RepL G w l vs → RepL G w (l.eraseIdx k) (vs.eraseIdx k)
  | [], vs, k, h => by
    have : vs = [] := h
    subst this; simpa using h
  | d :: l, vs, 0, h => by
    obtain ⟨v, r, rfl, h1, h2⟩ := h
    exact h2
  | d :: l, vs, k + 1, h => by
    obtain ⟨v, r, rfl, h1, h2⟩ := h
    exact ⟨v, _, rfl, h1, RepL.eraseIdx k h2⟩
def extendD : D → FN := fun x xs S => match lstAt x S, xs with
  | some (n, l), [.lst m] => if l.length + m.length ≤ sizeLine then .ok .non (S.set n (.lst (l ++ m))) else .bad
  | _, _ => .bad
theorem c_extend : CalmM extendD := fun x xs S => by unfold extendD; repeat' split
                                                     all_goals trivial
theorem o_extend : MtR X "list.extend" (rM G extendD) := mtI2 mt_extend fun x xs H Q q => by
  obtain ⟨w, d, ds, rfl, sr, r1, rl, p⟩ := q
  unfold extendD at p
  split at p
  · rename_i n l m he
    split at p
    · rename_i hz
      obtain ⟨a, vs, rfl, hn, hm, h1, h2⟩ := lstAt_rep sr r1 he
      simp only [RepL, Rep] at rl
      obtain ⟨v, r', rfl, ⟨b, ws, rfl, hb, nm, h3⟩, rfl⟩ := rl
      exact ⟨a, b, vs, ws, rfl, rfl, h1, hb, by rw [h2.length, h3.length]; exact hz, set_lst sr hn hm (h2.append h3) (by simp [Rep]) p⟩
    · exact p.elim
  · exact p.elim
def popD : D → FN := fun x xs S => match lstAt x S, xs with
  | some (n, l), [] => match l[l.length - 1]? with
    | some d => .ok d (S.set n (.lst l.dropLast))
    | none => .bad
  | some (n, l), [.int i] => match ixN l.length i with
    | some k => match l[k]? with
      | some d => if -(2 ^ 63) ≤ i ∧ i < 2 ^ 63 then .ok d (S.set n (.lst (l.eraseIdx k))) else .bad
      | none => .bad
    | none => .bad
  | _, _ => .bad
theorem c_pop : CalmM popD := fun x xs S => by unfold popD; repeat' split
                                               all_goals trivial
theorem o_pop : MtR X "list.pop" (rM G popD) := mtI2 (MtR.or mt_pop mt_popAt) fun x xs H Q q => by
  obtain ⟨w, d, ds, rfl, sr, r1, rl, p⟩ := q
  unfold popD at p
  split at p
  · rename_i n l he
    split at p
    · rename_i d hd
      obtain ⟨a, vs, rfl, hn, hm, h1, h2⟩ := lstAt_rep sr r1 he
      have : xs = [] := rl
      subst this
      obtain ⟨v, hv, rv⟩ := h2.get hd
      exact .inl ⟨a, vs, v, rfl, rfl, h1, by rw [h2.length]; exact hv, set_lst sr hn hm h2.dropLast rv p⟩
    · exact p.elim
  · rename_i n l i he
    split at p
    · rename_i k hk
      split at p
      · rename_i d hd
        split at p
        · rename_i hz
          obtain ⟨a, vs, rfl, hn, hm, h1, h2⟩ := lstAt_rep sr r1 he
          simp only [RepL, Rep] at rl
          obtain ⟨v, r', rfl, rfl, rfl⟩ := rl
          obtain ⟨v, hv, rv⟩ := h2.get hd
          refine .inr ⟨a, vs, i, k, v, rfl, rfl, h1, hz.1, hz.2, ?_, hv, set_lst sr hn hm (h2.eraseIdx k) rv p⟩
          rw [h2.length]
          exact (ixN_seq hk).1
        · exact p.elim
      · exact p.elim
    · exact p.elim
  · exact p.elim
def insertD : D → FN := fun x xs S => match lstAt x S, xs with
  | some (n, l), [.int i, y] => if l.length < sizeLine ∧ 0 ≤ i ∧ i < 2 ^ 63 then .ok .non (S.set n (.lst (l.take i.toNat ++ [y] ++ l.drop i.toNat))) else .bad
  | _, _ => .bad
theorem c_insert : CalmM insertD := fun x xs S => by unfold insertD; repeat' split
                                                     all_goals trivial
theorem o_insert : MtR X "list.insert" (rM G insertD) := mtI2 mt_insert fun x xs H Q q => by
  obtain ⟨w, d, ds, rfl, sr, r1, rl, p⟩ := q
  unfold insertD at p
  split at p
  · rename_i n l i y he
    split at p
    · rename_i hz
      obtain ⟨a, vs, rfl, hn, hm, h1, h2⟩ := lstAt_rep sr r1 he
      simp only [RepL, Rep] at rl
      obtain ⟨v, r', rfl, rfl, v', r'', rfl, ry, rfl⟩ := rl
      exact ⟨a, vs, i, v', rfl, rfl, h1, by rw [h2.length]; exact hz.1, hz.2.1, hz.2.2, set_lst sr hn hm (((h2.take _).append (RepL.one ry)).append (h2.drop _)) (by simp [Rep]) p⟩
    · exact p.elim
  · exact p.elim
end
end L3
set_option Elab.async false
set_option linter.all false
set_option maxRecDepth 100000
/-! L4D: {k: v for ..}. -/
namespace L3
open PySem PySem.Spec PyProof.Rows L2
def dcL (g : GD) (tt : TD) (tk tv : ED) (env : EnvD) : List D → List (Key × D) → Store → R (List (Key × D))
  | [], acc, S => .ok acc S
  | x :: xs, acc, S => match g x env S with
    | .nx env1 S1 => (tt env1 S1).nox.bind fun k S2 => match k with
      | true => (tk env1 S2).nox.bind fun y S3 => (tv env1 S3).nox.bind fun z S4 => match keyOf y with
        | some k => dcL g tt tk tv env xs (putD acc k z) S4
        | none => .bad
      | false => dcL g tt tk tv env xs acc S2
    | _ => .bad
def eDc (mi : ID) (vs : List Nat) (g : GD) (tt : TD) (tk tv : ED) : ED := fun env S => (mi env S).bind fun xs S1 =>
  if xs.length ≤ sizeLine then (dcL g tt tk tv (wipeD env vs) xs [] S1).nox.bind fun kvs S2 => .ok (.dic (kvs.map (·.1)) (kvs.map (·.2))) S2 else .bad
section
variable {G : GC} {X : Cx} {Wx : WX} {pos : Pos}
theorem put_len {κ : Type} [DecidableEq κ] (kvs : List (κ × D)) (k : κ) (v : D) : (putD kvs k v).length ≤ kvs.length + 1 := by
  unfold putD; split <;> simp
theorem put_dk {w : Wd} {L : Addr} {o : HO} (s7 : SRep G w) (tm7 : L ∈ w.tmp) : WX' [L] w (w.put L o) ∧ Tok [L] w ∧ SRep G (w.put L o) := by
  have nm7 : ¬ MutS w L := (s7.tm L tm7).2
  have x8 : WX' [L] w (w.put L o) := ⟨fun _ _ h => h, fun a o h nm ha => ⟨(upd_ne (by simpa using ha)).trans h, nm⟩, fun a h => .inl h, fun a h => h⟩
  have t8 : Tok [L] w := fun a h => .inl (by have : a = L := by simpa using h
                                             rw [this]; exact tm7)
  refine ⟨x8, t8, s7.len, s7.inj, fun n ob a h1 h2 => ?_, fun a ha => ?_⟩
  · have h := s7.obj n ob a h1 h2
    exact h.keep x8 t8 fun lv => upd_ne fun e => nm7 (by subst e; exact ⟨n, ob, h1, lv, h2⟩)
  · obtain ⟨⟨u, e⟩, nm⟩ := s7.tm a ha
    by_cases ea : a = L
    · subst ea; exact ⟨⟨_, upd_same⟩, nm⟩
    · exact ⟨⟨u, (upd_ne ea).trans e⟩, nm⟩
theorem imp_dc {mi : ID} {vs : List Nat} {g : GD} {tt : TD} {tk tv : ED} : ∀ σ H Q, tE G (eDc mi vs g tt tk tv) Wx σ H Q → tDc (tI G mi Wx) (tGW G g vs) (tT G tt WF) (tE G tk WF) (tE G tv WF) vs σ H Q := by
  intro σ H Q q
  obtain ⟨w, env, rfl, sr, er, p⟩ := q
  refine ⟨w, env, rfl, sr, er, (Post.bind (Ra := fun w' xs (J : It) => ItOk G w' J xs) p).mono (fun J H1 m => ?_) fun _ _ _ h => h⟩
  obtain ⟨w1, xs, rfl, x1, s1, io, p1⟩ := m
  intro L hL
  have hfr : ∀ a ∈ [L], w1.H a = none := fun a h => by have : a = L := by simpa using h
                                                       rw [this]; exact hL
  by_cases hz : xs.length ≤ sizeLine
  · rw [if_pos hz] at p1
    obtain ⟨F, SF, hF⟩ : ∃ F SF, dcL g tt tk tv (wipeD env vs) xs [] w1.S = .ok F SF := by
      cases h : dcL g tt tk tv (wipeD env vs) xs [] w1.S with
      | ok F SF => exact ⟨F, SF, rfl⟩
      | exc e S => rw [h] at p1; exact p1.elim
      | bad => rw [h] at p1; exact p1.elim
    rw [hF] at p1
    simp only [R.nox, R.bind] at p1
    have er1 := (er.mono x1).wipe vs
    have h0 : WX' [L] w1 ⟨w1.mu, w1.S, upd w1.H L (.dK []), L :: w1.tmp⟩ :=
      ⟨fun _ _ h => h, fun a o h nm ha => ⟨(upd_ne (by simpa using ha)).trans h, nm⟩, fun a h => by
        rcases List.mem_cons.mp h with e | h
        · exact .inr (by simp [e])
        · exact .inl h, fun a h => List.mem_cons_of_mem _ h⟩
    have nL : ¬ MutS w1 L := fun m => by obtain ⟨u, e⟩ := MutS.there s1 m; rw [hL] at e; cases e
    have sW : SRep G ⟨w1.mu, w1.S, upd w1.H L (.dK []), L :: w1.tmp⟩ := by
      refine ⟨s1.len, s1.inj, fun n ob a h1 h2 => ?_, fun a ha => ?_⟩
      · have h := s1.obj n ob a h1 h2
        refine h.keep h0 (fr_tok hfr) fun lv => ?_
        obtain ⟨u, e⟩ := h.there lv
        exact upd_ne (ne_of_none e hL)
      · rcases List.mem_cons.mp ha with e | ha
        · subst e; exact ⟨⟨_, upd_same⟩, nL⟩
        · obtain ⟨⟨u, e⟩, nm⟩ := s1.tm a ha
          exact ⟨⟨u, (upd_ne (ne_of_none e hL)).trans e⟩, nm⟩
    refine ⟨fun i m H => ∃ w3 acc us, w3.H = H ∧ SRep G w3 ∧ WX' [L] w1 w3 ∧ L ∈ w3.tmp ∧ w3.H L = some (.dK us) ∧ RepKV G w3 acc us ∧ acc.length ≤ i ∧ i + m = xs.length ∧
        dcL g tt tk tv (wipeD env vs) (xs.drop i) acc w3.S = .ok F SF,
      ⟨xs.length, _, [], [], rfl, sW, h0, by simp, upd_same, rfl, Nat.le_refl _, by omega, by simpa using hF⟩, fun i m H hW => ?_⟩
    obtain ⟨w3, acc, us, rfl, s3, x3, tm3, hL3, ra3, hlen, em, eq⟩ := hW
    by_cases hi : i < xs.length
    · have e : xs[i]? = some xs[i] := List.getElem?_eq_getElem hi
      obtain ⟨go, yl⟩ := io.go [L] w3 (fr_tok hfr) x3 s3 i xs[i] e
      refine .inr ⟨go, fun H' => ∃ w5 acc us, w5.H = H' ∧ SRep G w5 ∧ WX' [L] w1 w5 ∧ L ∈ w5.tmp ∧ w5.H L = some (.dK us) ∧ RepKV G w5 acc us ∧ acc.length ≤ i + 1 ∧ (i + 1) + (m - 1) = xs.length ∧
        dcL g tt tk tv (wipeD env vs) (xs.drop (i + 1)) acc w5.S = .ok F SF, fun H' hN => ⟨m - 1, by omega, hN⟩, fun x H' hy => ?_⟩
      obtain ⟨w4, rfl, x4, eS4, s4, rp4⟩ := yl x H' hy
      have x14 : WX' [L] w1 w4 := WX'.trans x3 (WX'.wide x4)
      refine ⟨w4, wipeD env vs, xs[i], rfl, s4, er1.monoT x14 (fr_tok hfr), rp4, ?_⟩
      rw [List.drop_eq_getElem_cons hi, dcL] at eq
      rw [eS4]
      cases hg : g xs[i] (wipeD env vs) w3.S with
      | nx env5 S5 =>
        rw [hg] at eq
        simp only at eq
        intro σ5 w5 x5 e5 s5 er5 hw
        subst e5
        refine ⟨hw.trans (wipe_sub fun _ h => h), w5, env5, rfl, s5, er5, ?_⟩
        cases ht : tt env5 w5.S with
        | ok k S6 =>
          rw [ht] at eq
          simp only [R.nox, R.bind] at eq
          intro b w6 x6 e6 s6 hb
          subst hb e6
          have x46 : WExt w4 w6 := WX'.trans x5 x6
          have x16 : WX' [L] w1 w6 := WX'.trans x14 (WX'.wide x46)
          have hL6 : w6.H L = some (.dK us) := (x46.keep L _ ((x4.keep L _ hL3 ((s3.tm L tm3).2) (by simp)).1) ((s4.tm L (x4.tmp' L tm3)).2) (by simp)).1
          have tm6 : L ∈ w6.tmp := x46.tmp' L (x4.tmp' L tm3)
          have ra6 : RepKV G w6 acc us := RepKV.mono (WX'.trans x4 x46) _ _ ra3
          cases k with
          | false => exact iteF ⟨w6, acc, us, rfl, s6, x16, tm6, hL6, ra6, by omega, by omega, eq⟩
          | true =>
            refine iteT ⟨w6, env5, rfl, s6, er5.mono x6, ?_⟩
            simp only at eq
            cases htk : tk env5 w6.S with
            | ok y S7 =>
              rw [htk] at eq
              simp only [R.nox, R.bind] at eq
              intro vy w7 x7 e7 s7 r7
              subst e7
              refine ⟨w7, env5, rfl, s7, (er5.mono x6).mono x7, ?_⟩
              cases htv : tv env5 w7.S with
              | ok z S8 =>
                rw [htv] at eq
                simp only [R.nox, R.bind] at eq
                intro vz w8 x8 e8 s8 r8
                subst e8
                have x68 : WExt w6 w8 := WX'.trans x7 x8
                have hL8 : w8.H L = some (.dK us) := (x68.keep L _ hL6 ((s6.tm L tm6).2) (by simp)).1
                have tm8 : L ∈ w8.tmp := x68.tmp' L tm6
                cases hk : keyOf y with
                | none => rw [hk] at eq; cases eq
                | some k =>
                  rw [hk] at eq
                  simp only at eq
                  have ek : vy = kV k := keyOf_rep r7 hk
                  subst ek
                  have lu : us.length = acc.length := ra6.len
                  have ra8 : RepKV G w8 acc us := RepKV.mono x68 _ _ ra6
                  obtain ⟨xP, tP, sP⟩ := put_dk (o := .dK (putK us k vz)) s8 tm8
                  refine ⟨us, k, rfl, hL8, by omega, ?_⟩
                  refine ⟨_, putD acc k z, putK us k vz, rfl, sP, WX'.trans (WX'.trans x16 (WX'.wide x68)) xP, tm8, upd_same, ?_, Nat.le_trans (put_len _ _ _) (by omega), by omega, eq⟩
                  exact RepKV.monoT xP tP _ _ (ra8.put k r8)
              | exc ee S8 => rw [htv] at eq; cases eq
              | bad => rw [htv] at eq; cases eq
            | exc ee S7 => rw [htk] at eq; cases eq
            | bad => rw [htk] at eq; cases eq
        | exc ee S6 => rw [ht] at eq; cases eq
        | bad => rw [ht] at eq; cases eq
      | ret _ _ => rw [hg] at eq; cases eq
      | brk _ _ => rw [hg] at eq; cases eq
      | ct _ _ => rw [hg] at eq; cases eq
      | exc _ _ _ => rw [hg] at eq; cases eq
      | bad => rw [hg] at eq; cases eq
    · have ei : i = xs.length := by omega
      subst ei
      refine .inl ⟨io.stop [L] w3 (fr_tok hfr) x3 s3, ?_⟩
      rw [List.drop_length] at eq
      simp only [dcL, R.ok.injEq] at eq
      obtain ⟨rfl, rfl⟩ := eq
      have we : WExt w1 { w3 with tmp := w1.tmp } := ⟨x3.mu, fun a o h nm _ => x3.keep a o h nm (by
        intro ha
        have : a = L := by simpa using ha
        rw [this, hL] at h; cases h), fun a h => .inl h, fun a h => h⟩
      have tinc : ∀ a, a ∈ w1.tmp → a ∈ w3.tmp := x3.tmp'
      have se : SRep G { w3 with tmp := w1.tmp } := s3.untmp tinc
      have nmL : ¬ Mut { w3 with tmp := w1.tmp } L := fun m => m.elim (s3.tm L tm3).2 fun z => by
        obtain ⟨⟨u, e⟩, _⟩ := s1.tm L z
        rw [hL] at e; cases e
      obtain ⟨us', eu, ru⟩ := ra3.parts
      have hr : Rep G { w3 with tmp := w1.tmp } (.dic (acc.map (·.1)) (acc.map (·.2))) (.ref L) := by
        simp only [Rep]
        exact ⟨L, us', rfl, by rw [← eu]; exact hL3, nmL, by simp, RepL.untmp tinc _ _ ru⟩
      exact p1 (.ref L) { w3 with tmp := w1.tmp } we rfl se hr
  · rw [if_neg hz] at p1; exact p1.elim
/-- {k: v for .. in .. if ..} -/
theorem q_dc {kx vx tg iter : Expr} {ifs : List Expr} {scope : Scope} {own : List (Str × Nat)} {mi : ID} {g : GD} {mt : TD} {mk mv : ED} (hc : X.calm = true) (hN : X.N.Nodup) (hi : PI X tg iter (tI G mi Wx)) (ok : BlkOk X.N X.env.scope scope own)
    (hg : ∀ (s : Shared) (H : Hp) (C : Addr) (cl : List (Str × Addr)) (fp : List Addr), PG (X.blk s H scope (compEnvC scope cl C X.env) fp) tg (tGW G g (own.map (·.2))))
    (ht : ∀ (s : Shared) (H : Hp) (C : Addr) (cl : List (Str × Addr)) (fp : List Addr), PTs (X.blk s H scope (compEnvC scope cl C X.env) fp) ifs (tT G mt WF))
    (hk : ∀ (s : Shared) (H : Hp) (C : Addr) (cl : List (Str × Addr)) (fp : List Addr), PE (X.blk s H scope (compEnvC scope cl C X.env) fp) kx (tE G mk WF))
    (he : ∀ (s : Shared) (H : Hp) (C : Addr) (cl : List (Str × Addr)) (fp : List Addr), PE (X.blk s H scope (compEnvC scope cl C X.env) fp) vx (tE G mv WF)) (hs : ∀ x, foldedSetIterable iter X.env x = pure x := by intro _; rfl) :
    PE X (.DictComp kx vx [⟨tg, iter, ifs, 0⟩] scope pos) (tE G (eDc mi (own.map (·.2)) g mt mk mv) Wx) := peI (pe_dc hc hN hi ok hg ht hk he hs) imp_dc
theorem sw_trueD {kx vx : Expr} {gs : List Comprehension} {scope : Scope} {pos py : Pos} {y : Str} {l : Nat} {env : Env} (hk : env.scope.kind = .function) (hy : env.scope.names.lookup y = some .local) (hl : (py.line == pos.line) = true)
    (ha : (scope.names.any fun (n, k) => n == y && (k == .local || k == .cell)) = false) : swapsWith (.DictComp kx vx gs scope pos) (some (.Name y py)) l env = pure true := by
  have ky : env.kindOf y = some .local := hy
  have hb : env.blockKind = .function := by unfold Env.blockKind; rw [hk]; rfl
  unfold swapsWith
  simp only [hb, ky, ha, Expr.pos, hl]
  rfl
theorem ps_setDc {i : Nat} {y : Str} {py : Pos} {kx vx tg iter : Expr} {ifs : List Expr} {scope : Scope} {own : List (Str × Nat)} {pos spos : Pos} {wi : TI} {g : TG} {tt : TT} {tk tv : TE} (hc : X.calm = true) (hN : X.N.Nodup) (hy : X.N[i]? = some y) (hyl : X.env.scope.names.lookup y = some .local)
    (hsw : swapsWith (.DictComp kx vx [⟨tg, iter, ifs, 0⟩] scope pos) (some (.Name y py)) spos.line X.env = pure true) (hi : PI X tg iter wi) (ok : BlkOk X.N X.env.scope scope own)
    (hg : ∀ (s : Shared) (H : Hp) (C : Addr) (cl : List (Str × Addr)) (fp : List Addr), PG (X.blk s H scope (compEnvC scope cl C X.env) fp) tg g) (ht : ∀ (s : Shared) (H : Hp) (C : Addr) (cl : List (Str × Addr)) (fp : List Addr), PTs (X.blk s H scope (compEnvC scope cl C X.env) fp) ifs tt)
    (hk : ∀ (s : Shared) (H : Hp) (C : Addr) (cl : List (Str × Addr)) (fp : List Addr), PE (X.blk s H scope (compEnvC scope cl C X.env) fp) kx tk)
    (he : ∀ (s : Shared) (H : Hp) (C : Addr) (cl : List (Str × Addr)) (fp : List Addr), PE (X.blk s H scope (compEnvC scope cl C X.env) fp) vx tv) (hs : ∀ x, foldedSetIterable iter X.env x = pure x := by intro _; rfl) :
    PS X (.Assign [.Name y py] (.DictComp kx vx [⟨tg, iter, ifs, 0⟩] scope pos) spos) (tAsg (tDc wi g tt tk tv (own.map (·.2))) (L2.gName i)) := by
  refine ⟨fun pins s σ H D I h => ?_⟩
  rw [exec_Assign_Name_used _ _ _ _ hsw]
  refine wpAny_bind (wpAny_standAt (wpAny_bind ?_))
  show wpAny _ X.A (do let _ ← comprehension (.DictComp kx vx [⟨tg, iter, ifs, 0⟩] scope pos) scope X.env (firstIterPos [⟨tg, iter, ifs, 0⟩] pos) newDict false (eval iter X.env) (some (assign (.Name y py) X.env))) _ _ s
  have h : tDc wi g tt tk tv (own.map (·.2)) σ H (fun x H1 => L2.gName i x σ H1 D.nx) := h
  refine wpAny_bind (thn (dc_core (use := some (assign (.Name y py) X.env)) (Qf := fun _ s' => SP X pins D .next s') hc hN I hi ok hg ht hk he hs h fun L C s' m H' I' q hn f => ?_) fun _ s' hq => wpAny_pure (wpAny_pure hq))
  show wpAny _ _ (assign (.Name y py) X.env (.ref L)) _ _ _
  refine wpAny_assign_Name (store_ok2 (v := V.ref L) I' hN hy (.inl hyl) rfl (fun s2 I2 ⟨a, sb, ha⟩ => ?_) (.inr hyl))
  obtain ⟨f0, f1, f2, f3, f4, f5⟩ := f
  have haC : C ≠ a := by
    rcases ha with z | z
    · rw [z]; exact f1
    · exact fun e => f4 y a z e.symm
  refine ⟨m, hn.sameBut sb haC, fun h3 sb3 => ?_⟩
  exact ⟨_, H', I2.turned (t' := s2.toks) (fun b o hb e => (sb3.2 b hb).trans e) f0 f1 f3 f4 f5, q⟩
theorem q_setDc {i : Nat} {y : Str} {py : Pos} {kx vx tg iter : Expr} {ifs : List Expr} {scope : Scope} {own : List (Str × Nat)} {spos : Pos} {mi : ID} {g : GD} {mt : TD} {mk mv : ED} (hc : X.calm = true) (hN : X.N.Nodup) (hy : X.N[i]? = some y) (hyl : X.env.scope.names.lookup y = some .local)
    (hsw : swapsWith (.DictComp kx vx [⟨tg, iter, ifs, 0⟩] scope pos) (some (.Name y py)) spos.line X.env = pure true) (hi : PI X tg iter (tI G mi Wx)) (ok : BlkOk X.N X.env.scope scope own)
    (hg : ∀ (s : Shared) (H : Hp) (C : Addr) (cl : List (Str × Addr)) (fp : List Addr), PG (X.blk s H scope (compEnvC scope cl C X.env) fp) tg (tGW G g (own.map (·.2))))
    (ht : ∀ (s : Shared) (H : Hp) (C : Addr) (cl : List (Str × Addr)) (fp : List Addr), PTs (X.blk s H scope (compEnvC scope cl C X.env) fp) ifs (tT G mt WF))
    (hk : ∀ (s : Shared) (H : Hp) (C : Addr) (cl : List (Str × Addr)) (fp : List Addr), PE (X.blk s H scope (compEnvC scope cl C X.env) fp) kx (tE G mk WF))
    (he : ∀ (s : Shared) (H : Hp) (C : Addr) (cl : List (Str × Addr)) (fp : List Addr), PE (X.blk s H scope (compEnvC scope cl C X.env) fp) vx (tE G mv WF)) (hs : ∀ x, foldedSetIterable iter X.env x = pure x := by intro _; rfl) :
    PS X (.Assign [.Name y py] (.DictComp kx vx [⟨tg, iter, ifs, 0⟩] scope pos) spos) (tS G (sAsg (eDc mi (own.map (·.2)) g mt mk mv) (gName i)) Wx) := psI (ps_setDc hc hN hy hyl hsw hi ok hg ht hk he hs) fun D σ H q => by
  obtain ⟨w, env, rfl, sr, er, p⟩ := q
  refine imp_dc (Wx := Wx) σ w.H _ ⟨w, env, rfl, sr, er, (PostS.ofR (Ra := Rep G) er p).mono (fun x H1 m => ?_) fun _ _ _ h => h⟩
  obtain ⟨w1, d1, rfl, x1, s1, rp1, p1⟩ := m
  exact p1 _ w1 (.refl w1) rfl s1 ((er.mono x1).set i rp1)
end
end L3
set_option Elab.async false
set_option linter.all false
set_option maxRecDepth 100000
/-! L4E: instances: made, their attributes, their methods. -/
namespace L3
open PySem PySem.Spec PyProof.Rows L2
def putFD (f : Str) (v : D) : List (Str × D) → List (Str × D)
  | [] => [(f, v)]
  | (g, x) :: r => if g = f then (g, v) :: r else (g, x) :: putFD f v r
section
variable {G : GC} {w : Wd}
theorem RepKV.putF {d : D} {v : V} {f : Str} (rv : Rep G w d v) : ∀ {fs : List (Str × D)} {vs : List (Str × V)}, RepKV G w fs vs → RepKV G w (putFD f d fs) (L2.putF f v vs)
  | [], vs, h => by
    have : vs = [] := h
    subst this
    exact ⟨v, [], rfl, rv, rfl⟩
  | p :: r, vs, h => by
    obtain ⟨u, y, rfl, h1, h2⟩ := h
    obtain ⟨g, x⟩ := p
    show RepKV G w (if g = f then (g, d) :: r else (g, x) :: putFD f d r) (if g = f then (g, v) :: y else (g, u) :: L2.putF f v y)
    by_cases e : g = f
    · rw [if_pos e, if_pos e]; exact ⟨v, y, rfl, rv, h2⟩
    · rw [if_neg e, if_neg e]; exact ⟨u, _, rfl, h1, RepKV.putF rv h2⟩
theorem RepKV.lookup : ∀ {fs : List (Str × D)} {vs : List (Str × V)} {f : Str}, RepKV G w fs vs → (match fs.lookup f with
    | some d => ∃ v, vs.lookup f = some v ∧ Rep G w d v
    | none => vs.lookup f = none)
  | [], vs, f, h => by
    have : vs = [] := h
    subst this; simp
  | p :: r, vs, f, h => by
    obtain ⟨u, y, rfl, h1, h2⟩ := h
    have ih := RepKV.lookup (f := f) h2
    by_cases e : f = p.1
    · have e' : (f == p.1) = true := beq_iff_eq.mpr e
      simp only [List.lookup, e']
      exact ⟨u, rfl, h1⟩
    · have e' : (f == p.1) = false := beq_eq_false_iff_ne.mpr e
      simp only [List.lookup, e']
      exact ih
end
def insAt (x : D) (S : Store) : Option (Nat × Str × List (Str × D)) := match x with
  | .obj n => match S[n]? with
    | some (.ins c fs) => some (n, c, fs)
    | _ => none
  | _ => none
theorem insAt_rep {G : GC} {w : Wd} {x : D} {v : V} {n : Nat} {c : Str} {fs : List (Str × D)} (sr : SRep G w) (r : Rep G w x v) (e : insAt x w.S = some (n, c, fs)) :
    ∃ a C dx vs, x = .obj n ∧ v = .ref a ∧ w.S[n]? = some (.ins c fs) ∧ w.mu[n]? = some a ∧ w.H a = some (.ins C dx vs) ∧ RepKV G w fs vs ∧ G.mg c = some (.ref C) := by
  cases x with
  | obj m =>
    simp only [Rep] at r
    obtain ⟨a, hm, rfl⟩ := r
    simp only [insAt] at e
    split at e
    · rename_i c' fs' hn
      cases e
      obtain ⟨C, dx, vs, h1, h2, h3⟩ := sr.obj _ _ a hn hm
      exact ⟨a, C, dx, vs, rfl, rfl, hn, hm, h1, h2, h3⟩
    · cases e
  | _ => cases e
/-- o.f -/
def fldD (cs : List Str) (f : Str) : F1 := fun x S => match insAt x S with
  | some (_, c, fs) => if c ∈ cs then match fs.lookup f with
    | some d => .ok d S
    | none => .bad
    else .bad
  | none => .bad
def FldOk (G : GC) (cs : List Str) (f : Str) : Prop := ∀ c ∈ cs, ∃ C, G.mg c = some (.ref C) ∧ Cls G.K C ∧ NoAttr G.K C f
/-- o.f = v -/
def sFldD (cs : List Str) (f : Str) (mo mv : ED) : SD := fun env S => (mv env S).toS env fun y S1 => (mo env S1).toS env fun x S2 => match insAt x S2 with
  | some (n, c, fs) => if c ∈ cs ∧ fs.length < 1000 then .nx env (S2.set n (.ins c (putFD f y fs))) else .bad
  | none => .bad
/-- o.m(..) of an instance of c -/
def eMeth (c m : Str) (F : FN) (mo : ED) (ma : AD) : ED := fun env S => (mo env S).bind fun x S1 => match insAt x S1 with
  | some (_, c', fs) => if c' = c ∧ fs.lookup m = none then (ma env S1).bind fun xs S2 => F (x :: xs) S2 else .bad
  | none => .bad
/-- C(..) -/
def mkIns (c : Str) (F : FN) : FN := fun xs S => match F (.obj S.length :: xs) (S ++ [.ins c []]) with
  | .ok d S1 => match d with
    | .non => .ok (.obj S.length) S1
    | _ => .bad
  | .exc e S1 => .exc e S1
  | .bad => .bad
section
variable {G : GC} {X : Cx} {Wx : WX} {pos p apos : Pos} {k : Nat} {f C : Addr} {fd : FuncData} {ps : List Str} {F : FN} {x c m : Str} {o e value : Expr} {es : List Expr} {dds : List D} {mo mv : ED} {ma : AD} {cs : List Str}
theorem q_fld (hK : X.K = G.K) (hf : FldOk G cs x) (ho : PE X o (tE G mo Wx)) (hb : attributeBase o x X.env (eval o X.env) = eval o X.env := by rfl) : PE X (.Attribute o x pos) (tE G (e1 (fldD cs x) mo) Wx) := peI (pe_fld ho hb) fun σ H Q q => by
  obtain ⟨w, env, rfl, sr, er, p⟩ := q
  refine ⟨w, env, rfl, sr, er, (Post.bind p).mono (fun v H1 m => ?_) fun _ _ _ h => h⟩
  obtain ⟨w1, d1, rfl, x1, s1, rp1, p1⟩ := m
  unfold fldD at p1
  split at p1
  · rename_i n c fs he
    split at p1
    · rename_i hc
      split at p1
      · rename_i d hd
        obtain ⟨a, C, dx, vs, rfl, rfl, hn, hm, h1, h2, h3⟩ := insAt_rep s1 rp1 he
        obtain ⟨C', g1, g2, g3⟩ := hf c hc
        have : C' = C := by rw [h3] at g1; cases g1; rfl
        subst this
        have l := RepKV.lookup (f := x) h2
        rw [hd] at l
        obtain ⟨v, l1, l2⟩ := l
        exact ⟨a, C', dx, vs, v, rfl, h1, by rw [hK]; exact g2, by rw [hK]; exact g3, l1, p1 v w1 (.refl _) rfl s1 l2⟩
      · exact p1.elim
    · exact p1.elim
  · exact p1.elim
theorem q_sfld {pos' : Pos} (hK : X.K = G.K) (hf : FldOk G cs x) (ho : PE X o (tE G mo Wx)) (hv : PE X value (tE G mv Wx)) (hs : swapsWith value (some (.Attribute o x pos')) pos.line X.env = pure false := by rfl) : PS X (.Assign [.Attribute o x pos'] value pos) (tS G (sFldD cs x mo mv) Wx) := psI (ps_fld ho hv hs) fun D σ H q => by
  obtain ⟨w, env, rfl, sr, er, p⟩ := q
  refine ⟨w, env, rfl, sr, er, (PostS.ofR (Ra := Rep G) er p).mono (fun y H1 m => ?_) fun _ _ _ h => h⟩
  obtain ⟨w1, d1, rfl, x1, s1, rp1, p1⟩ := m
  refine ⟨w1, env, rfl, s1, er.mono x1, (PostS.ofR (Ra := Rep G) (er.mono x1) p1).mono (fun v H1 m => ?_) fun _ _ _ h => h⟩
  obtain ⟨w2, d2, rfl, x2, s2, rp2, p2⟩ := m
  split at p2
  · rename_i n c fs he
    split at p2
    · rename_i hz
      obtain ⟨a, C, dx, vs, rfl, rfl, hn, hm, h1, h2, h3⟩ := insAt_rep s2 rp2 he
      obtain ⟨C', g1, g2, g3⟩ := hf c hz.1
      have : C' = C := by rw [h3] at g1; cases g1; rfl
      subst this
      refine ⟨a, C', dx, vs, rfl, h1, by rw [hK]; exact g2, by rw [hK]; exact g3, by rw [h2.len]; exact hz.2, ?_⟩
      obtain ⟨xw, sw⟩ := set_obj (ob' := .ins c (putFD x d1 fs)) (o := .ins C' dx (L2.putF x y vs)) s2 hn trivial hm fun w' xe e => ⟨C', dx, _, e, RepKV.putF (Rep.mono xe _ _ (Rep.mono x2 _ _ rp1)) (RepKV.mono xe _ _ h2), h3⟩
      exact p2 σ _ xw rfl sw ((er.mono x1).mono (WX'.trans x2 xw))
    · exact p2.elim
  · exact p2.elim
/-- a method of the class c -/
structure Mtd (P : Program) (w : World) (G : GC) (base : Heap) (k : Nat) (c m : Str) (f : Addr) (fd : FuncData) (ps : List Str) (F : FN) : Prop where
  ok : FnG P w G.K G.mg base k f fd ps (spOf G F)
  cl : ∃ C, G.mg c = some (.ref C) ∧ Cls G.K C ∧ Meth G.K C m f
theorem q_meth {pl : Sem Bool} (M : Mtd X.prog X.w G X.base k c m f fd ps F) (b : Bnd G fd ps dds) (hr : RoomG k X.A) (hK : X.K = G.K) (hmg : X.mg = G.mg) (tk : Takes X Wx) (ho : PE X o (tE G mo Wx)) (ha : PA X (e :: es) (tA G ma Wx))
    (hst : starEach (e :: es) X.env = (false, eval e X.env) :: starEach es X.env := by rfl) (hpl : (backTo pos (starEach es X.env)).any (·.1) = false := by rfl)
    (ht : eval (.Call (.Attribute o m apos) (e :: es) [] pos) X.env = (do
      let ov ← eval o X.env
      standAt apos.atName
      let (f, first) ← holding [ov] (getMethod ov m pl)
      callWith pos f first (backTo pos (starEach (e :: es) X.env)) (backToKw pos (keywordEach [] X.env))) := by rfl) :
    PE X (.Call (.Attribute o m apos) (e :: es) [] pos) (tE G (eMeth c m (callK F dds) mo ma) Wx) := by
  obtain ⟨dvs, ds, b1, b2, b3⟩ := b
  obtain ⟨C, g1, g2, g3⟩ := M.cl
  refine ⟨fun pins s σ H Q I h => ?_⟩
  obtain ⟨w, env, rfl, sr, er, p⟩ := h
  refine PySem.W.methodCall_KW (pl := pl) (thn (ho.run pins s σ w.H _ I ⟨w, env, rfl, sr, er, Post.bind p⟩) fun u s1 ⟨x, H1, I1, rx, q⟩ => ?_) ht
  obtain ⟨w1, d1, rfl, x1, sr1, rp1, p1⟩ := q
  split at p1
  · rename_i n c' fs he
    split at p1
    · rename_i hz
      obtain ⟨rfl, hl⟩ := hz
      obtain ⟨a, C', dx, vs, rfl, rfl, hn, hm, h1, h2, h3⟩ := insAt_rep sr1 rp1 he
      have : C' = C := by rw [h3] at g1; cases g1; rfl
      subst this
      obtain rfl : u = Value.ref a := rx
      have l := RepKV.lookup (f := m) h2
      rw [hl] at l
      refine getmeth_ok I1 h1 (by rw [hK]; exact g2) (by rw [hK]; exact g3) l ?_
      refine PySem.W.callWith_K (first := [.ref a]) (h₀ := X.base) I.ok.mod.kin (by rw [hK]; exact g3.kp) (thn (ha.run pos pins s1 σ w1.H _ I1 ⟨w1, env, rfl, sr1, er.mono x1, Post.bind p1⟩) fun us s2 ⟨vs2, H2, I2, r, q2⟩ => ⟨I2.kIn, ?_⟩) hst hpl
      obtain ⟨w2, d2, rfl, x2, sr2, rp2, p2⟩ := q2
      refine FnG.byPlace (E := WE Wx) (us := .ref a :: us) (vs := .ref a :: vs2) (by rw [hK, hmg]; exact M.ok) hr (by rw [hK]; exact b2) b1 (passAt tk σ) I2 (.cons rfl r) ?_
      refine ⟨w2, (.obj n :: d2) ++ dds, rfl, sr2, ?_, p2⟩
      have : RepL G w2 (.obj n :: d2) (.ref a :: vs2) := ⟨.ref a, vs2, rfl, ⟨a, x2.mu _ _ hm, rfl⟩, rp2⟩
      exact this.append (b3 w2)
    · exact p1.elim
  · exact p1.elim
theorem q_meth0 {pl : Sem Bool} (M : Mtd X.prog X.w G X.base k c m f fd ps F) (b : Bnd G fd ps dds) (hr : RoomG k X.A) (hK : X.K = G.K) (hmg : X.mg = G.mg) (tk : Takes X Wx) (ho : PE X o (tE G mo Wx))
    (ht : eval (.Call (.Attribute o m apos) [] [] pos) X.env = (do
      let ov ← eval o X.env
      standAt apos.atName
      let (f, first) ← holding [ov] (getMethod ov m pl)
      callWith pos f first (backTo pos (starEach [] X.env)) (backToKw pos (keywordEach [] X.env))) := by rfl) :
    PE X (.Call (.Attribute o m apos) [] [] pos) (tE G (eMeth c m (callK F dds) mo aNil) Wx) := by
  obtain ⟨dvs, ds, b1, b2, b3⟩ := b
  obtain ⟨C, g1, g2, g3⟩ := M.cl
  refine ⟨fun pins s σ H Q I h => ?_⟩
  obtain ⟨w, env, rfl, sr, er, p⟩ := h
  refine PySem.W.methodCall_KW (pl := pl) (thn (ho.run pins s σ w.H _ I ⟨w, env, rfl, sr, er, Post.bind p⟩) fun u s1 ⟨x, H1, I1, rx, q⟩ => ?_) ht
  obtain ⟨w1, d1, rfl, x1, sr1, rp1, p1⟩ := q
  split at p1
  · rename_i n c' fs he
    split at p1
    · rename_i hz
      obtain ⟨rfl, hl⟩ := hz
      obtain ⟨a, C', dx, vs, rfl, rfl, hn, hm, h1, h2, h3⟩ := insAt_rep sr1 rp1 he
      have : C' = C := by rw [h3] at g1; cases g1; rfl
      subst this
      obtain rfl : u = Value.ref a := rx
      have l := RepKV.lookup (f := m) h2
      rw [hl] at l
      refine getmeth_ok I1 h1 (by rw [hK]; exact g2) (by rw [hK]; exact g3) l ?_
      refine PySem.W.callWith_K0 (first := [.ref a]) I1.kIn (by rw [hK]; exact g3.kp) ?_
      refine FnG.byPlace (E := WE Wx) (us := [.ref a]) (vs := [.ref a]) (by rw [hK, hmg]; exact M.ok) hr (by rw [hK]; exact b2) b1 (passAt tk σ) I1 (.cons rfl .nil) ?_
      have p1' : Post G w1 (F ([.obj n] ++ dds) w1.S) (Rep G) Q (fun C dx H' => Wx C dx σ H') := p1
      have : RepL G w1 [.obj n] [.ref a] := ⟨.ref a, [], rfl, ⟨a, hm, rfl⟩, rfl⟩
      exact ⟨w1, [.obj n] ++ dds, rfl, sr1, this.append (b3 w1), p1'⟩
    · exact p1.elim
  · exact p1.elim
/-- a class that can be made -/
structure Mak (P : Program) (w : World) (G : GC) (base : Heap) (k : Nat) (c : Str) (C f : Addr) (fd : FuncData) (ps : List Str) (F : FN) : Prop where
  ok : FnG P w G.K G.mg base k f fd ps (spOf G F)
  m : G.mg c = some (.ref C)
  mkr : Mk G.K C f
theorem new_ins {w : Wd} (sr : SRep G w) (hC : G.mg c = some (.ref C)) {x dx : Addr} (hx : w.H x = none) (hdx : w.H dx = none) (hne : dx ≠ x) :
    ∃ w1, w1.H = upd (upd w.H dx (.own x)) x (.ins C dx []) ∧ w1.S = w.S ++ [.ins c []] ∧ WExt w w1 ∧ SRep G w1 ∧ w1.mu[w.S.length]? = some x := by
  obtain ⟨x1, s1, _⟩ := new_ext (o := .own x) sr hdx
  have hx1 : (w.put dx (.own x)).H x = none := (upd_ne (Ne.symm hne)).trans hx
  obtain ⟨x2, s2⟩ := new_obj (o := .ins C dx []) (ob := .ins c []) s1 hx1 fun w' _ e => ⟨C, dx, [], e, rfl, hC⟩
  refine ⟨_, rfl, rfl, WX'.trans x1 x2, s2, ?_⟩
  show (w.mu ++ [x])[w.S.length]? = some x
  rw [← sr.len]; simp
theorem imp_make {dvs : List V} (hC : G.mg c = some (.ref C)) (hdd : ∀ w, RepL G w dds dvs) : ∀ σ H Q, tE G (eN (mkIns c (callK F dds)) ma) Wx σ H Q → tA G ma Wx σ H fun vs H1 => ∀ x dx, H1 x = none → H1 dx = none → dx ≠ x →
    spOf G F (.ref x :: (vs ++ dvs)) (upd (upd H1 dx (.own x)) x (.ins C dx [])) (fun v H2 => v = .non ∧ Q (.ref x) H2) (WE Wx σ) := by
  intro σ H Q q
  obtain ⟨w, env, rfl, sr, er, p⟩ := q
  refine ⟨w, env, rfl, sr, er, (Post.bind p).mono (fun vs H1 m => ?_) fun _ _ _ h => h⟩
  obtain ⟨w1, d1, rfl, x1, s1, rp1, p1⟩ := m
  intro x dx hx hdx hne
  obtain ⟨w2, e2, eS, x2, s2, hm⟩ := new_ins s1 hC hx hdx hne
  refine ⟨w2, .obj w1.S.length :: (d1 ++ dds), e2, s2, ⟨.ref x, _, rfl, ⟨x, hm, rfl⟩, (RepL.mono x2 _ _ rp1).append (hdd w2)⟩, ?_⟩
  unfold mkIns callK at p1
  rw [← eS] at p1
  rw [List.cons_append] at p1
  cases hF : F (.obj w1.S.length :: (d1 ++ dds)) w2.S with
  | ok d S1 =>
    rw [hF] at p1
    simp only at p1
    cases d with
    | non =>
      intro v w3 x3 e3 s3 r3
      subst e3
      refine ⟨by simpa [Rep] using r3, p1 (.ref x) w3 (WX'.trans x2 x3) rfl s3 ⟨x, x3.mu _ _ hm, rfl⟩⟩
    | _ => exact p1.elim
  | exc e S1 =>
    rw [hF] at p1
    intro Ce dxe w3 x3 e3 s3 xr
    exact p1 Ce dxe w3 (WX'.trans x2 x3) e3 s3 xr
  | bad => rw [hF] at p1; exact p1.elim
theorem RoomG.make {A : Around} (r : RoomG (k + 1) A) (C : Addr) (us : List Value) (kw : List (Str × Value)) : RoomG k (A.under (.builtin "type.__call__" ⟨.ref C :: us, kw⟩)) :=
  ⟨r.rm.make C us kw, by
    have e : (Code.builtin "type.__call__" ⟨.ref C :: us, kw⟩).guards = [] := by
      unfold Code.guards
      rw [if_neg]
      show ¬ (guardIds.contains "type.__call__" = true)
      decide
    simp only [Around.under, e, pushGuards]
    exact r.gd⟩
theorem run_makeG {pins : List (Addr × Obj)} {σ : L2.St} {H : Hp} {s : Shared} {Q : VK} {us : List Value} {vs dvs : List V} {ds : List Value} {E : L2.St → XK} (M : Mk X.K C f) (hF : FnG X.prog X.w X.K X.mg X.base k f fd ps (spOf G F)) (hr : RoomG (k + 1) X.A) (hb : Binds X.K fd ps ds) (hd : Vals dvs ds)
    (hx : PassesAt (L2.CX X.prog X.w) X σ (E σ)) (I : Inv X pins σ H s) (r : Vals vs us)
    (h : ∀ x dx, H x = none → H dx = none → dx ≠ x → spOf G F (.ref x :: (vs ++ dvs)) (upd (upd H dx (.own x)) x (.ins C dx [])) (fun v H2 => v = .non ∧ Q (.ref x) H2) (E σ)) :
    wpAny (model X.prog X.w) X.A (call (.ref C) us) (EP X pins σ Q) X.xe s := by
  have hq := h (s.heap.objs.size + 1) s.heap.objs.size (I.hok.fresh (Nat.le_succ _)) (I.hok.fresh (Nat.le_refl _)) (Nat.ne_of_lt (Nat.lt_succ_self _))
  have I2 := Inv.made (C := C) I
  have r2 : Vals (V.ref (s.heap.objs.size + 1) :: (vs ++ dvs)) (Value.ref (s.heap.objs.size + 1) :: (us ++ ds)) := .cons rfl (r.append hd)
  have hl : (Value.ref (s.heap.objs.size + 1) :: us ++ ds).length = ps.length := by
    have e := r2.length
    rw [hF.len _ _ _ _ hq] at e
    exact e.symm
  refine wpAny_call (make_map (f := f) I.kIn M.makes M.init (beq_iff_eq.mp M.fn) (codeAny_mono (hF.go _ X.stack _ _ ⟨Value.ref (s.heap.objs.size + 1) :: us, []⟩ (Value.ref (s.heap.objs.size + 1) :: (us ++ ds)) _ _ (E σ) (hr.make C us [])
    (I2.env0.make C us []) (hb _ (Value.ref (s.heap.objs.size + 1) :: us) I2.kIn hl) r2 hq) fun r s' hq' => ?_))
  cases r with
  | error e => exact hx pins _ _ e s' I2 hq'
  | ok fl =>
    cases fl with
    | ret u =>
      obtain ⟨v, H', I3, rv, ev, q3⟩ := I2.after hq'
      subst ev
      exact ⟨rv, ⟨V.ref (s.heap.objs.size + 1), H', I3, rfl, q3⟩⟩
    | next => exact False.elim hq'
    | brk => exact False.elim hq'
    | cont => exact False.elim hq'
/-- C(e, ..) -/
theorem q_make (M : Mak X.prog X.w G X.base k c C f fd ps F) (b : Bnd G fd ps dds) (hr : RoomG (k + 1) X.A) (hK : X.K = G.K) (hmg : X.mg = G.mg) (hg : Gl X c) (tk : Takes X Wx) (ha : PA X (e :: es) (tA G ma Wx))
    (hdb : (c == ("__debug__" : Str)) = false := by decide) (he : starEach (e :: es) X.env = (false, eval e X.env) :: starEach es X.env := by rfl) (hpl : (backTo pos (starEach es X.env)).any (·.1) = false := by rfl) :
    PE X (.Call (.Name c p) (e :: es) [] pos) (tE G (eN (mkIns c (callK F dds)) ma) Wx) := by
  obtain ⟨dvs, ds, b1, b2, b3⟩ := b
  refine ⟨fun pins s σ H Q I h => ?_⟩
  have h2 := imp_make (C := C) (dvs := dvs) M.m b3 σ H Q h
  refine wpAny_Call_Name_kw (ld_glob I hg (by rw [hmg]; exact M.m) ?_ hdb)
  refine PySem.W.callWith_K (h₀ := X.base) I.ok.mod.kin (by rw [hK]; exact M.mkr.kp) (thn (ha.run pos pins s σ H _ I h2) fun us s1 ⟨vs, H1, I1, r, q⟩ => ⟨I1.kIn, ?_⟩) he hpl
  exact run_makeG (E := WE Wx) (by rw [hK]; exact M.mkr) (by rw [hK, hmg]; exact M.ok) hr (by rw [hK]; exact b2) b1 (passAt tk σ) I1 r q
/-- C() -/
theorem q_make0 (M : Mak X.prog X.w G X.base k c C f fd ps F) (b : Bnd G fd ps dds) (hr : RoomG (k + 1) X.A) (hK : X.K = G.K) (hmg : X.mg = G.mg) (hg : Gl X c) (tk : Takes X Wx) (hdb : (c == ("__debug__" : Str)) = false := by decide) :
    PE X (.Call (.Name c p) [] [] pos) (tE G (eN (mkIns c (callK F dds)) aNil) Wx) := by
  obtain ⟨dvs, ds, b1, b2, b3⟩ := b
  refine ⟨fun pins s σ H Q I h => ?_⟩
  have h2 := imp_make (C := C) (dvs := dvs) M.m b3 σ H Q h
  refine wpAny_Call_Name_kw (ld_glob I hg (by rw [hmg]; exact M.m) ?_ hdb)
  obtain ⟨w1, env, e1, sr, er, p1⟩ := h2
  subst e1
  have q := p1 [] w1 (.refl _) rfl sr rfl
  exact PySem.W.callWith_K0 I.kIn (by rw [hK]; exact M.mkr.kp) (run_makeG (E := WE Wx) (us := []) (vs := []) (by rw [hK]; exact M.mkr) (by rw [hK, hmg]; exact M.ok) hr (by rw [hK]; exact b2) b1 (passAt tk σ) I .nil q)
theorem fld_nil : FldOk G [] x := fun _ h => nomatch h
theorem fld_cons (h : G.mg c = some (.ref C)) (hc : Cls G.K C) (hn : NoAttr G.K C x) (r : FldOk G cs x) : FldOk G (c :: cs) x := fun c' hc' => by
  rcases List.mem_cons.mp hc' with rfl | hc'
  · exact ⟨C, h, hc, hn⟩
  · exact r c' hc'
end
/-- rooms: a call takes one, an instance two -/
def lv : Nat → Nat
  | 0 => 0
  | k + 1 => lv k + 2
end L3
set_option Elab.async false
set_option linter.all false
set_option maxRecDepth 100000
/-! L4F: one of several readings; dicts copied; a list in names, the rest of it in one. -/
namespace L3
open PySem PySem.Spec PyProof.Rows L2
section
variable {G : GC} {X : Cx} {Wx : WX} {pos : Pos}
/-- the first reading that says something -/
def eAlt (a b : ED) : ED := fun env S => match a env S with
  | .bad => b env S
  | r => r
theorem q_alt {e : Expr} {a b : ED} (ha : PE X e (tE G a Wx)) (hb : PE X e (tE G b Wx)) : PE X e (tE G (eAlt a b) Wx) := by
  refine ⟨fun pins s σ H Q I q => ?_⟩
  obtain ⟨w, env, rfl, sr, er, p⟩ := q
  unfold eAlt at p
  cases h : a env w.S with
  | bad => rw [h] at p; exact hb.run pins s σ w.H Q I ⟨w, env, rfl, sr, er, p⟩
  | ok d S => rw [h] at p; exact ha.run pins s σ w.H Q I ⟨w, env, rfl, sr, er, by rw [h]; exact p⟩
  | exc x S => rw [h] at p; exact ha.run pins s σ w.H Q I ⟨w, env, rfl, sr, er, by rw [h]; exact p⟩
/-- an expression that no run reaches -/
def eBad : ED := fun _ _ => .bad
def sBad : SD := fun _ _ => .bad
theorem q_bad {e : Expr} : PE X e (tE G eBad Wx) := ⟨fun pins s σ H Q I q => by
  obtain ⟨w, env, rfl, sr, er, p⟩ := q
  exact p.elim⟩
theorem q_sbad {st : Stmt} : PS X st (tS G sBad Wx) := psI ps_never fun D σ H q => by
  obtain ⟨w, env, rfl, sr, er, p⟩ := q
  exact p.elim
/-! dict(d) -/
def dictV : FN := fun xs S => match xs with
  | [x] => match dkAt x S with
    | some kvs => .ok (.dic (kvs.map (·.1)) (kvs.map (·.2))) S
    | none => .bad
  | _ => .bad
def dictO : FN := fun xs S => match xs with
  | [x] => match dkAt x S with
    | some kvs => .ok (.obj S.length) (S ++ [.dK kvs])
    | none => .bad
  | _ => .bad
theorem c_dictV : CalmN dictV := fun xs S => by unfold dictV; repeat' split
                                                all_goals trivial
theorem o_dictV : CallR X (.type "dict") (rN G dictV) := caI2 call_dictD fun xs H Q q => by
  obtain ⟨w, ds, rfl, sr, rl, p⟩ := q
  unfold dictV at p
  split at p
  · rename_i x
    split at p
    · rename_i kvs hk
      simp only [RepL] at rl
      obtain ⟨v, r', rfl, rx, rfl⟩ := rl
      obtain ⟨a, vs, rfl, h1, h2⟩ := dkAt_rep sr rx hk
      refine ⟨a, vs, rfl, .inl h1, fun p' hp => ?_⟩
      obtain ⟨x1, s1, nm⟩ := new_ext (o := .dK vs) sr hp
      obtain ⟨us, eu, ru⟩ := h2.parts
      refine p (.ref p') (w.put p' (.dK vs)) x1 rfl s1 ?_
      simp only [Rep]
      exact ⟨p', us, rfl, by rw [← eu]; exact upd_same, nm, by simp, RepL.mono x1 _ _ ru⟩
    · exact p.elim
  · exact p.elim
theorem c_dictO : CalmN dictO := fun xs S => by unfold dictO; repeat' split
                                                all_goals trivial
theorem o_dictO : CallR X (.type "dict") (rN G dictO) := caI2 call_dictD fun xs H Q q => by
  obtain ⟨w, ds, rfl, sr, rl, p⟩ := q
  unfold dictO at p
  split at p
  · rename_i x
    split at p
    · rename_i kvs hk
      simp only [RepL] at rl
      obtain ⟨v, r', rfl, rx, rfl⟩ := rl
      obtain ⟨a, vs, rfl, h1, h2⟩ := dkAt_rep sr rx hk
      refine ⟨a, vs, rfl, .inl h1, fun p' hp => ?_⟩
      obtain ⟨x1, s1⟩ := new_obj (o := .dK vs) (ob := .dK kvs) sr hp fun w' xe e => ⟨vs, e, RepKV.mono xe _ _ h2⟩
      refine p (.ref p') _ x1 rfl s1 ?_
      show ∃ a, (w.mu ++ [p'])[w.S.length]? = some a ∧ _
      exact ⟨p', by rw [← sr.len]; simp, rfl⟩
    · exact p.elim
  · exact p.elim
/-! a, b = a list or a tuple -/
def gSeq (is : List Nat) : GD := fun d env S => match d with
  | .tup l => gNames is l env S
  | .lst l => gNames is l env S
  | _ => .bad
theorem gNames_len : ∀ {is : List Nat} {l : List D} {env env' : EnvD} {S S' : Store}, gNames is l env S = .nx env' S' → l.length = is.length
  | [], [], _, _, _, _, _ => rfl
  | [], _ :: _, _, _, _, _, e => nomatch e
  | _ :: _, [], _, _, _, _, e => nomatch e
  | i :: is, d :: l, env, env', S, S', e => by
    have := gNames_len (is := is) (l := l) (env := env.set i (some d)) e
    simp [this]
theorem q_gseq {es : List Expr} {k : Nat} {is : List Nat} (hK : X.K = G.K) (hc : X.calm = true) (h : PGs X es (tGs G is)) (hn : (assignEach es X.env).length = is.length := by rfl) (hst : (assignEach es X.env).findIdx? (·.1) = none := by rfl) :
    PG X (.Tuple es k pos) (tG G (gSeq is)) := by
  refine ⟨fun pins s σ H v u Q I r q => ?_⟩
  obtain ⟨w, env, d, rfl, sr, er, rp, p⟩ := q
  cases d with
  | tup l => exact (q_gtup hK hc h hn hst).run pins s σ w.H v u Q I r ⟨w, env, .tup l, rfl, sr, er, rp, p⟩
  | lst l =>
    simp only [Rep] at rp
    obtain ⟨a, vs, rfl, h1, nm, rl⟩ := rp
    simp only [gSeq] at p
    rcases gNames_nx (is := is) (ds := l) (env := env) (S := w.S) with ⟨env', e⟩ | e
    · rw [e] at p
      exact (pg_lst hc h hn hst).run pins s σ w.H (.ref a) u Q I r ⟨a, vs, rfl, .inl (.inl h1), by rw [rl.length]; exact gNames_len e, w, env, l, env', rfl, sr, er, rl, e, fun σ' er' => p σ' w (.refl _) rfl sr er'⟩
    · rw [e] at p; exact p.elim
  | _ => exact p.elim
/-! a, *b, c = .. -/
theorem starL {prog : Program} {w : World} {A : Around} {E : Value → Shared → Prop} {s : Shared} {l : Addr} {items : Array Value} {n i : Nat} {Q : List Value → Shared → Prop} (hl : s.heap.IsList l items) (hh : A.handled = none) (hi : i < n) (hn : n ≤ items.size + 1) (hz : items.size ≤ 16384)
    (h : ∀ (h' : Heap) (tk : Nat), (∀ b o, s.heap.get? b = some o → h'.get? b = some o) → Q (items.toList.take i ++ [.ref h'.objs.size] ++ (items.toList.drop i).drop (items.size + 1 - n)) { s with heap := h'.push { cls := .type "list", data := .seq ((items.toList.drop i).take (items.size + 1 - n)).toArray }, toks := tk }) :
    wpAny (model prog w) A (unpackItems (.ref l) n (some i)) Q E s := by
  have hlt : l ≠ s.heap.objs.size := by obtain ⟨o, ho, _⟩ := hl; exact Nat.ne_of_lt (Heap.lt_size ho)
  have hll : l < s.heap.objs.size := by obtain ⟨o, ho, _⟩ := hl; exact Heap.lt_size ho
  unfold unpackItems
  refine wpAny_bind ?_
  unfold notIterableAtAll
  refine wpAny_bind (wpAny_specialOf hl.typeIs slot_list_iter.lookup ?_)
  refine wpAny_pure ?_
  simp only [Bool.false_eq_true, if_false]
  refine wpAny_bind (wpAny_holding (wpAny_pyIter_list hl ?_))
  refine wpAny_bind (wpAny_holding (PySem.W.kun_draw hlt i 0 _ _ ⟨_, Heap.get?_push_size _ rfl, rfl, rfl⟩ (hl.push _) (by omega) fun h₁ hit₁ hs₁ => ?_))
  have hl₁ : h₁.IsList l items := (hl.push _).extBut hs₁.extBut hlt
  rw [Nat.zero_add] at hit₁
  have hit₁' := hit₁
  obtain ⟨oi, hoi, _⟩ := hit₁'
  have hl₁' := hl₁
  obtain ⟨ol, hol, _⟩ := hl₁'
  rw [List.drop_zero]
  have hfl : (items.toList.take i).length = i := by rw [List.length_take, Array.length_toList]; omega
  rw [if_neg (show ¬ ((items.toList.take i).length < i) by rw [hfl]; omega)]
  refine wpAny_bind (wpAny_holding (PySem.W.kun_collect (s := { s with heap := h₁ }) (T := "list_iterator") (.inr (.inr (.inl rfl))) (Walks.list (A := A.in1) hh s.heap.objs.size l hlt items) (fun j u st => st.1.typeIs) (k := i) (by omega) ⟨hit₁, hl₁⟩ (Heap.lt_size hoi) (Heap.lt_size hol) (fun h₂ tk hk => ?_) (by rw [sizeLine_eq]; omega)))
  have hrl : (items.toList.drop i).length = items.size - i := by rw [List.length_drop, Array.length_toList]
  have hmid : (items.toList.drop i).length - (n - 1 - i) = items.size + 1 - n := by rw [hrl]; omega
  show wpAny _ _ (if (items.toList.drop i).length < n - 1 - i then _ else _) _ _ _
  rw [if_neg (by rw [hrl]; omega)]
  show wpAny _ _ (newList ((items.toList.drop i).take ((items.toList.drop i).length - (n - 1 - i))) >>= fun d => pure (items.toList.take i ++ [d] ++ (items.toList.drop i).drop ((items.toList.drop i).length - (n - 1 - i)))) _ _ _
  rw [hmid]
  have he : ∀ b o, s.heap.get? b = some o → h₂.get? b = some o := fun b o e => hk b o (Nat.ne_of_lt (Heap.lt_size e)) (hs₁.extBut b o (Nat.ne_of_lt (Heap.lt_size e)) (Heap.get?_push_of_some _ e))
  exact wpAny_bind (wpAny_newList (wpAny_pure (h h₂ tk he)) (by rw [List.length_take, hrl, sizeLine_eq]; omega))
theorem starT {prog : Program} {w : World} {A : Around} {E : Value → Shared → Prop} {s : Shared} {l : Addr} {items : Array Value} {n i : Nat} {Q : List Value → Shared → Prop} (hl : IsTup s.heap l items) (hh : A.handled = none) (hi : i < n) (hn : n ≤ items.size + 1) (hz : items.size ≤ 16384)
    (h : ∀ (h' : Heap) (tk : Nat), (∀ b o, s.heap.get? b = some o → h'.get? b = some o) → Q (items.toList.take i ++ [.ref h'.objs.size] ++ (items.toList.drop i).drop (items.size + 1 - n)) { s with heap := h'.push { cls := .type "list", data := .seq ((items.toList.drop i).take (items.size + 1 - n)).toArray }, toks := tk }) :
    wpAny (model prog w) A (unpackItems (.ref l) n (some i)) Q E s := by
  have hlt : l ≠ s.heap.objs.size := by obtain ⟨o, ho, _⟩ := hl; exact Nat.ne_of_lt (Heap.lt_size ho)
  have hll : l < s.heap.objs.size := by obtain ⟨o, ho, _⟩ := hl; exact Heap.lt_size ho
  unfold unpackItems
  refine wpAny_bind ?_
  unfold notIterableAtAll
  refine wpAny_bind (wpAny_specialOf hl.typeIs slot_tuple_iter.lookup ?_)
  refine wpAny_pure ?_
  simp only [Bool.false_eq_true, if_false]
  refine wpAny_bind (wpAny_holding (iter_tuple hl ?_))
  refine wpAny_bind (wpAny_holding (draw_tuple hlt i 0 _ _ ⟨_, Heap.get?_push_size _ rfl, rfl, rfl⟩ (hl.push _) (by omega) fun h₁ hit₁ hs₁ => ?_))
  have hl₁ : IsTup h₁ l items := (hl.push _).extBut hs₁.extBut hlt
  rw [Nat.zero_add] at hit₁
  have hit₁' := hit₁
  obtain ⟨oi, hoi, _⟩ := hit₁'
  have hl₁' := hl₁
  obtain ⟨ol, hol, _⟩ := hl₁'
  rw [List.drop_zero]
  have hfl : (items.toList.take i).length = i := by rw [List.length_take, Array.length_toList]; omega
  rw [if_neg (show ¬ ((items.toList.take i).length < i) by rw [hfl]; omega)]
  refine wpAny_bind (wpAny_holding (PySem.W.kun_collect (s := { s with heap := h₁ }) (T := "tuple_iterator") (.inr (.inr (.inr rfl))) (Walks.tuple (A := A.in1) hh s.heap.objs.size l hlt items) (fun j u st => st.1.typeIs) (k := i) (by omega) ⟨hit₁, hl₁⟩ (Heap.lt_size hoi) (Heap.lt_size hol) (fun h₂ tk hk => ?_) (by rw [sizeLine_eq]; omega)))
  have hrl : (items.toList.drop i).length = items.size - i := by rw [List.length_drop, Array.length_toList]
  have hmid : (items.toList.drop i).length - (n - 1 - i) = items.size + 1 - n := by rw [hrl]; omega
  show wpAny _ _ (if (items.toList.drop i).length < n - 1 - i then _ else _) _ _ _
  rw [if_neg (by rw [hrl]; omega)]
  show wpAny _ _ (newList ((items.toList.drop i).take ((items.toList.drop i).length - (n - 1 - i))) >>= fun d => pure (items.toList.take i ++ [d] ++ (items.toList.drop i).drop ((items.toList.drop i).length - (n - 1 - i)))) _ _ _
  rw [hmid]
  have he : ∀ b o, s.heap.get? b = some o → h₂.get? b = some o := fun b o e => hk b o (Nat.ne_of_lt (Heap.lt_size e)) (hs₁.extBut b o (Nat.ne_of_lt (Heap.lt_size e)) (Heap.get?_push_of_some _ e))
  exact wpAny_bind (wpAny_newList (wpAny_pure (h h₂ tk he)) (by rw [List.length_take, hrl, sizeLine_eq]; omega))
/-- a list or a tuple in the names is, the rest of it, a new list, in the i-th -/
def gStar (i : Nat) (is : List Nat) : GD := fun d env S => match d with
  | .tup l => if i < is.length ∧ is.length ≤ l.length + 1 ∧ l.length ≤ 16384 then gNames is (l.take i ++ [.lst ((l.drop i).take (l.length + 1 - is.length))] ++ (l.drop i).drop (l.length + 1 - is.length)) env S else .bad
  | .lst l => if i < is.length ∧ is.length ≤ l.length + 1 ∧ l.length ≤ 16384 then gNames is (l.take i ++ [.lst ((l.drop i).take (l.length + 1 - is.length))] ++ (l.drop i).drop (l.length + 1 - is.length)) env S else .bad
  | _ => .bad
theorem q_gsstar {e : Expr} {es : List Expr} {p : Pos} {i : Nat} {is : List Nat} (h1 : PG X e (L2.gName i)) (h2 : PGs X es (tGs G is))
    (hs : (assignEach (.Starred e p :: es) X.env).map (·.2) = assign e X.env :: (assignEach es X.env).map (·.2) := by rfl) : PGs X (.Starred e p :: es) (tGs G (i :: is)) := by
  refine ⟨fun pins s σ H vs us Q I r q => ?_⟩
  obtain ⟨w, env, ds, env', rfl, sr, er, rl, e', k⟩ := q
  cases ds with
  | nil => cases e'
  | cons d ds =>
    simp only [RepL] at rl
    obtain ⟨v, r', rfl, r1, r2⟩ := rl
    cases r with
    | cons rv rr =>
      rw [hs]
      refine assignInOrder_cons (thn (h1.run pins s σ w.H v _ (fun σ' H' => σ' = σ.set i (some v) ∧ H' = w.H) I rv ⟨rfl, rfl⟩) fun _ s1 ⟨σ1, H1, I1, e1, e2⟩ => ?_)
      subst e1 e2
      exact h2.run pins s1 _ w.H r' _ Q I1 rr ⟨w, _, ds, env', rfl, sr, er.set i r1, r2, e', k⟩
theorem vals_parts {xs : List V} {us : List Value} (h : Vals xs us) (n : Nat) : Vals (xs.take n) (us.take n) ∧ Vals (xs.drop n) (us.drop n) := by
  induction h generalizing n with
  | nil => simp only [List.take_nil, List.drop_nil]; exact ⟨.nil, .nil⟩
  | cons r t ih =>
    cases n with
    | zero => exact ⟨.nil, .cons r t⟩
    | succ n => exact ⟨.cons r (ih n).1, (ih n).2⟩
theorem q_gstar {es : List Expr} {k i : Nat} {is : List Nat} (hK : X.K = G.K) (hc : X.calm = true) (h : PGs X es (tGs G is)) (hn : (assignEach es X.env).length = is.length := by rfl) (hst : (assignEach es X.env).findIdx? (·.1) = some i := by rfl) :
    PG X (.Tuple es k pos) (tG G (gStar i is)) := by
  refine ⟨fun pins s σ H v u Q I r q => ?_⟩
  obtain ⟨w, env, d, rfl, sr, er, rp, p⟩ := q
  have fin : ∀ {its : List Value} {vs : List V} {l : List D} {s1 : Shared}, RepL G w l vs → Vals vs its → is.length ≤ l.length + 1 →
      (match gNames is (l.take i ++ [.lst ((l.drop i).take (l.length + 1 - is.length))] ++ (l.drop i).drop (l.length + 1 - is.length)) env w.S with
        | .nx env' S' => ∀ σ' w', WExt w w' → w'.S = S' → SRep G w' → ERep G w' env' σ' → Q σ' w'.H
        | _ => False) → ∀ (h' : Heap) (tk : Nat), (∀ b o, s.heap.get? b = some o → h'.get? b = some o) → l.length ≤ 16384 →
      wpAny (model X.prog X.w) X.A (assignInOrder ((assignEach es X.env).map (·.2)) (its.take i ++ [.ref h'.objs.size] ++ (its.drop i).drop (its.length + 1 - is.length))) (fun _ s' => ∃ σ' H', Inv X pins σ' H' s' ∧ Q σ' H') X.xe
        { s with heap := h'.push { cls := .type "list", data := .seq ((its.drop i).take (its.length + 1 - is.length)).toArray }, toks := tk } := by
    intro its vs l s1 rl rv hle p h' tk hk hz
    rcases gNames_nx (is := is) (ds := l.take i ++ [.lst ((l.drop i).take (l.length + 1 - is.length))] ++ (l.drop i).drop (l.length + 1 - is.length)) (env := env) (S := w.S) with ⟨env', e⟩ | e
    · rw [e] at p
      have lv := rl.length
      have lu := rv.length
      have Ik : Inv X pins σ w.H { s with heap := h', toks := tk } := I.kept (t' := tk) hk
      have hfr : w.H h'.objs.size = none := Ik.hok.fresh (Nat.le_refl _)
      have I2 := Ik.laid (a := h'.objs.size) (o := .lst ((vs.drop i).take (l.length + 1 - is.length))) (h' := h'.push { cls := .type "list", data := .seq ((its.drop i).take (its.length + 1 - is.length)).toArray }) (t' := tk) (fun b u e => Heap.get?_push_of_some _ e) (Nat.le_refl _)
        (show ObjOk X.prog X.w _ _ _ (.lst ((vs.drop i).take (l.length + 1 - is.length))) from ⟨by rw [List.length_take, List.length_drop, sizeLine_eq]; omega, (its.drop i).take (its.length + 1 - is.length), 0, by rw [show its.length = l.length by omega]; exact (vals_parts (vals_parts rv i).2 _).1, Heap.get?_push_size _ rfl⟩)
      obtain ⟨x1, s1, nm⟩ := new_ext (o := .lst ((vs.drop i).take (l.length + 1 - is.length))) sr hfr
      have rl1 := RepL.mono x1 _ _ rl
      have rmid : Rep G (w.put h'.objs.size (.lst ((vs.drop i).take (l.length + 1 - is.length)))) (.lst ((l.drop i).take (l.length + 1 - is.length))) (.ref h'.objs.size) := by
        simp only [Rep]
        exact ⟨_, _, rfl, upd_same, nm, (rl1.drop i).take _⟩
      refine h.run pins _ σ _ (vs.take i ++ [.ref h'.objs.size] ++ (vs.drop i).drop (l.length + 1 - is.length)) _ Q I2 ?_ ⟨w.put h'.objs.size (.lst ((vs.drop i).take (l.length + 1 - is.length))), env, _, env', rfl, s1, er.mono x1, ((rl1.take i).append (RepL.one rmid)).append ((rl1.drop i).drop _), e, fun σ' er' => p σ' _ x1 rfl s1 er'⟩
      rw [show its.length = l.length by omega]
      have one : Vals [V.ref h'.objs.size] [Value.ref h'.objs.size] := .cons rfl .nil
      exact ((vals_parts rv i).1.append one).append (vals_parts (vals_parts rv i).2 _).2
    · rw [e] at p; exact p.elim
  cases d with
  | tup l =>
    simp only [Rep] at rp
    obtain ⟨a, vs, rfl, h1, rl⟩ := rp
    cases r
    simp only [gStar] at p
    by_cases hz : i < is.length ∧ is.length ≤ l.length + 1 ∧ l.length ≤ 16384
    · rw [if_pos hz] at p
      have hq : SqT X.K w.H a vs := by rw [hK]; exact SqT_of h1
      obtain ⟨its, rv, ht, hz2⟩ := I.tuple hq
      have lv := rl.length
      have lu := rv.length
      rw [PyProof.Rows.assign_Tuple]
      refine wpAny_bind (wpAny_standAt ?_)
      unfold unpack
      rw [hn, hst]
      refine wpAny_bind (wpAny_holding (starT (items := its.toArray) ht (I.ok.hd hc) hz.1 (by simp; omega) (by simp; omega) fun h' tk hk => ?_))
      have := fin (s1 := s) rl rv hz.2.1 p h' tk hk hz.2.2
      simpa using this
    · rw [if_neg hz] at p; exact p.elim
  | lst l =>
    simp only [Rep] at rp
    obtain ⟨a, vs, rfl, h1, nm, rl⟩ := rp
    cases r
    simp only [gStar] at p
    by_cases hz : i < is.length ∧ is.length ≤ l.length + 1 ∧ l.length ≤ 16384
    · rw [if_pos hz] at p
      obtain ⟨its, rv, ht, hz2⟩ := I.list (.inl (.inl h1))
      have lv := rl.length
      have lu := rv.length
      rw [PyProof.Rows.assign_Tuple]
      refine wpAny_bind (wpAny_standAt ?_)
      unfold unpack
      rw [hn, hst]
      refine wpAny_bind (wpAny_holding (starL (items := its.toArray) ht.isList (I.ok.hd hc) hz.1 (by simp; omega) (by simp; omega) fun h' tk hk => ?_))
      have := fin (s1 := s) rl rv hz.2.1 p h' tk hk hz.2.2
      simpa using this
    · rw [if_neg hz] at p; exact p.elim
  | _ => exact p.elim
end
end L3
set_option Elab.async false
set_option linter.all false
set_option maxRecDepth 100000
/-! L4G: many new objects at once; list(d.items()), tuple(zip(..)). -/
namespace L3
open PySem PySem.Spec PyProof.Rows L2
def keyD : Key → D
  | .inl i => .int i
  | .inr s => .str s
theorem keyD_rep {G : GC} {w : Wd} : ∀ k : Key, Rep G w (keyD k) (kV k)
  | .inl i => by simp only [keyD, Rep]; rfl
  | .inr s => by simp only [keyD, Rep]; rfl
/-- objects that are new -/
theorem grow_ext {G : GC} {w : Wd} {H' : Hp} (sr : SRep G w) (k : ∀ b o, w.H b = some o → H' b = some o) :
    WExt w { w with H := H' } ∧ SRep G { w with H := H' } ∧ ∀ p, w.H p = none → ¬ Mut { w with H := H' } p := by
  have x : WExt w { w with H := H' } := ⟨fun _ _ h => h, fun a u h nm _ => ⟨k a u h, nm⟩, fun _ h => .inl h, fun _ h => h⟩
  refine ⟨x, ⟨sr.len, sr.inj, fun n ob a h1 h2 => ?_, fun a ha => ?_⟩, fun p hp m => m.elim (fun m => ?_) fun m => ?_⟩
  · have h := sr.obj n ob a h1 h2
    refine h.keep x noT fun lv => ?_
    obtain ⟨u, e⟩ := h.there lv
    exact (k a u e).trans e.symm
  · obtain ⟨⟨u, e⟩, nm⟩ := sr.tm a ha
    exact ⟨⟨u, k a u e⟩, nm⟩
  · obtain ⟨u, e⟩ := MutS.there sr (show MutS w p from m)
    rw [hp] at e; cases e
  · obtain ⟨⟨u, e⟩, _⟩ := sr.tm p m
    rw [hp] at e; cases e
def pairs : List (Key × D) → List D
  | [] => []
  | p :: r => .tup [keyD p.1, p.2] :: pairs r
/-- list(d.items()) -/
def litemsD : F1 := fun x S => match dkAt x S with
  | some kvs => .ok (.lst (pairs kvs)) S
  | none => .bad
def litemsO : F1 := fun x S => match dkAt x S with
  | some kvs => .ok (.obj S.length) (S ++ [.lst (pairs kvs)])
  | none => .bad
theorem pairs_rep {G : GC} {w : Wd} : ∀ {kvs : List (Key × D)} {vs : List (Key × V)} {ts : List Addr}, RepKV G w kvs vs → (∀ t ∈ ts, ¬ Mut w t) → Paired (fun (t : Addr) (q : Key × V) => w.H t = some (.tup [kV q.1, q.2])) ts vs → RepL G w (pairs kvs) (ts.map V.ref)
  | [], vs, ts, h, _, p => by
    have e : vs = [] := h
    subst e
    cases p
    simp [pairs, RepL]
  | q :: kvs, vs, ts, h, nm, p => by
    obtain ⟨v, y, e, h1, h2⟩ := h
    subst e
    cases p with
    | cons r t =>
      rename_i a as
      show RepL G w (.tup [keyD q.1, q.2] :: pairs kvs) (V.ref a :: as.map V.ref)
      simp only [RepL]
      refine ⟨_, _, rfl, ?_, pairs_rep h2 (fun t ht => nm t (List.mem_cons_of_mem _ ht)) t⟩
      simp only [Rep]
      refine ⟨a, _, rfl, .inl ⟨.inl r, nm a List.mem_cons_self⟩, ?_⟩
      simp only [RepL]
      exact ⟨_, _, rfl, keyD_rep _, _, _, rfl, h1, rfl⟩
theorem _root_.LiI.paired_with {α β : Type} {F F' : α → β → Prop} : ∀ {as : List α} {bs : List β}, Paired F as bs → (∀ a ∈ as, ∀ b, F a b → F' a b) → Paired F' as bs
  | _, _, .nil, _ => .nil
  | _, _, .cons h t, k => .cons (k _ List.mem_cons_self _ h) (LiI.paired_with t fun a ha b q => k a (List.mem_cons_of_mem _ ha) b q)
section
variable {G : GC} {X : Cx} {Wx : WX} {e : Expr} {m : ED} {p apos cpos pos : Pos}
theorem q_items (hc : X.calm = true) (he : PE X e (tE G m Wx)) (hg : Gl X "list") (hm : X.mg "list" = none) (hbase : attributeBase e "items" X.env (eval e X.env) = eval e X.env := by rfl) (hline : (apos.endLine == cpos.line) = true := by rfl)
    (hs : starEach [.Call (.Attribute e "items" apos) [] [] cpos] X.env = (false, eval (.Call (.Attribute e "items" apos) [] [] cpos) X.env) :: starEach [] X.env := by rfl) :
    PE X (.Call (.Name "list" p) [.Call (.Attribute e "items" apos) [] [] cpos] [] pos) (tE G (e1 litemsD m) Wx) :=
  peI (LiI.pe_listItems hc he hg hm PyProof.Rows.boot_list hbase hline hs) fun σ H Q q => by
  obtain ⟨w, env, rfl, sr, er, p⟩ := q
  refine ⟨w, env, rfl, sr, er, (Post.bind p).mono (fun v H1 ⟨w1, d, eH, x, s1, r1, p1⟩ => ?_) fun _ _ _ h => h⟩
  subst eH
  simp only [litemsD] at p1
  split at p1
  · rename_i kvs hk
    obtain ⟨a, vs, rfl, h1, h2⟩ := dkAt_rep s1 r1 hk
    refine ⟨a, vs, rfl, h1, fun H' p' ts k hp hts hpt hpH pr => ?_⟩
    obtain ⟨x1, s2, nm⟩ := grow_ext s1 k
    refine p1 (.ref p') { w1 with H := H' } x1 rfl s2 ?_
    simp only [Rep]
    exact ⟨p', _, rfl, hpH, nm p' hp, pairs_rep (RepKV.mono x1 _ _ h2) (fun t ht => nm t (hts t ht)) pr⟩
  · exact p1.elim
theorem new_objL {G : GC} {w : Wd} {H' : Hp} {p : Addr} {o : HO} {ob : O} (sr : SRep G w) (k : ∀ b o, w.H b = some o → H' b = some o) (hp : w.H p = none) (hpH : H' p = some o)
    (hor : ∀ w0 : Wd, WExt w w0 → (∀ b, b ≠ p → w0.H b = H' b) → (∀ q, w.H q = none → ¬ Mut w0 q) → ∀ w', WExt w0 w' → w'.H p = some o → ORep G w' p ob) :
    WExt w ⟨w.mu ++ [p], w.S ++ [ob], H', w.tmp⟩ ∧ SRep G ⟨w.mu ++ [p], w.S ++ [ob], H', w.tmp⟩ := by
  have e : ∃ H0 : Hp, (∀ b o, w.H b = some o → H0 b = some o) ∧ H0 p = none ∧ (∀ b, b ≠ p → H0 b = H' b) ∧ upd H0 p o = H' := by
    refine ⟨fun b => if b = p then none else H' b, fun b o h => ?_, by simp, fun b hb => by simp [hb], ?_⟩
    · have : b ≠ p := fun z => by rw [z, hp] at h; cases h
      simp [this, k b o h]
    · funext b
      by_cases hb : b = p
      · subst hb; rw [upd_same, hpH]
      · rw [upd_ne hb]; simp [hb]
  obtain ⟨H0, k0, hp0, kb, e⟩ := e
  subst e
  obtain ⟨x0, s0, nm0⟩ := grow_ext sr k0
  obtain ⟨x1, s1⟩ := new_obj (w := { w with H := H0 }) (p := p) (o := o) (ob := ob) s0 hp0 (hor _ x0 kb nm0)
  exact ⟨WX'.trans x0 x1, s1⟩
theorem q_itemsO (hc : X.calm = true) (he : PE X e (tE G m Wx)) (hg : Gl X "list") (hm : X.mg "list" = none) (hbase : attributeBase e "items" X.env (eval e X.env) = eval e X.env := by rfl) (hline : (apos.endLine == cpos.line) = true := by rfl)
    (hs : starEach [.Call (.Attribute e "items" apos) [] [] cpos] X.env = (false, eval (.Call (.Attribute e "items" apos) [] [] cpos) X.env) :: starEach [] X.env := by rfl) :
    PE X (.Call (.Name "list" p) [.Call (.Attribute e "items" apos) [] [] cpos] [] pos) (tE G (e1 litemsO m) Wx) :=
  peI (LiI.pe_listItems hc he hg hm PyProof.Rows.boot_list hbase hline hs) fun σ H Q q => by
  obtain ⟨w, env, rfl, sr, er, p⟩ := q
  refine ⟨w, env, rfl, sr, er, (Post.bind p).mono (fun v H1 ⟨w1, d, eH, x, s1, r1, p1⟩ => ?_) fun _ _ _ h => h⟩
  subst eH
  simp only [litemsO] at p1
  split at p1
  · rename_i kvs hk
    obtain ⟨a, vs, rfl, h1, h2⟩ := dkAt_rep s1 r1 hk
    refine ⟨a, vs, rfl, h1, fun H' p' ts k hp hts hpt hpH pr => ?_⟩
    obtain ⟨x1, s2⟩ := new_objL (ob := .lst (pairs kvs)) s1 k hp hpH fun w0 x0 kb nm w' xw ew => ⟨_, ew, RepL.mono xw _ _ (pairs_rep (RepKV.mono x0 _ _ h2) (fun t ht => nm t (hts t ht)) (LiI.paired_with pr fun t ht q h => (kb t fun z => hpt (z ▸ ht)).trans h))⟩
    refine p1 (.ref p') _ x1 rfl s2 ?_
    show ∃ a, (w1.mu ++ [p'])[w1.S.length]? = some a ∧ _
    exact ⟨p', by rw [← s1.len]; simp, rfl⟩
  · exact p1.elim
end
end L3
set_option Elab.async false
set_option linter.all false
set_option maxRecDepth 100000
/-! L4H: tuple(zip(a, b)) of two lists. -/
namespace TZ
open PySem PySem.Spec PyProof.Rows
theorem nolen_zip : typeLookup (.type "zip") "__len__" = pure none := by rw [typeLookup_type, builtinLookup_eq_fast]; kernel_rfl
theorem nohint_zip : typeLookup (.type "zip") "__length_hint__" = pure none := by rw [typeLookup_type, builtinLookup_eq_fast]; kernel_rfl
/-- the zip z of the lists l1 and l2 ahead of its item i, the list S in the making -/
def ZSt (z TI TO i1 i2 l1 l2 S : Addr) (xs ys : Array Value) (i : Nat) (h : Heap) : Prop :=
  IsPair h TI (.ref i1) (.ref i2) ∧ h.IsListIter i1 l1 i ∧ h.IsListIter i2 l2 i ∧ h.IsList l1 xs ∧ h.IsList l2 ys ∧
    ((IsZip h z TI TO .none ∧ ∃ a b, IsPair h TO a b) ∨ ∃ T f oT, IsZipHeld h z TI TO T f ∧ h.get? T = some oT ∧ T ≠ z ∧ T ≠ i1 ∧ T ≠ i2 ∧ T ≠ S)
section
variable {prog : Program} {w : World} {A : Around} {E : Value → Shared → Prop} {s : Shared} {z TI TO i1 i2 l1 l2 S : Addr} {xs ys : Array Value} {i : Nat}
theorem ZSt.keep {h h' : Heap} (st : ZSt z TI TO i1 i2 l1 l2 S xs ys i h) (dz : z ≠ S) (dTI : TI ≠ S) (dTO : TO ≠ S) (d1 : i1 ≠ S) (d2 : i2 ≠ S) (e1 : l1 ≠ S) (e2 : l2 ≠ S)
    (hk : ∀ b o, b ≠ S → h.get? b = some o → h'.get? b = some o) : ZSt z TI TO i1 i2 l1 l2 S xs ys i h' := by
  obtain ⟨hTI, h1, h2, hl1, hl2, hz⟩ := st
  refine ⟨hk _ _ dTI hTI, h1.at fun o e => hk _ o d1 e, h2.at fun o e => hk _ o d2 e, hl1.at fun o e => hk _ o e1 e, hl2.at fun o e => hk _ o e2 e, ?_⟩
  rcases hz with ⟨hz, a, b, hTO⟩ | ⟨T, f, oT, hz, hT, r1, r2, r3, r4⟩
  · exact .inl ⟨hk _ _ dz hz, a, b, hk _ _ dTO hTO⟩
  · exact .inr ⟨T, f, oT, hk _ _ dz hz, hk _ _ r4 hT, r1, r2, r3, r4⟩
theorem ZSt.typeIs (st : ZSt z TI TO i1 i2 l1 l2 S xs ys i s.heap) : s.TypeIs (.ref z) "zip" := by
  obtain ⟨_, _, _, _, _, ⟨hz, _⟩ | ⟨T, f, oT, hz, _⟩⟩ := st
  · exact ⟨_, hz, rfl⟩
  · exact ⟨_, hz, rfl⟩
theorem nxtZ {x y : Value} {Q : Option Value → Shared → Prop} (D : ZipApart z TI TO i1 i2 l1 l2) (st : ZSt z TI TO i1 i2 l1 l2 S xs ys i s.heap) (hS : S < s.heap.objs.size) (ex : xs[i]? = some x) (ey : ys[i]? = some y)
    (hQ : ∀ h', ZSt z TI TO i1 i2 l1 l2 S xs ys (i + 1) h' → IsPair h' s.heap.objs.size x y → (∀ b o, b ≠ z → b ≠ TO → b ≠ i1 → b ≠ i2 → s.heap.get? b = some o → h'.get? b = some o) → Q (some (.ref s.heap.objs.size)) { s with heap := h' }) :
    wpAny (model prog w) A (pyNext (.ref z)) Q E s := by
  obtain ⟨hTI, h1, h2, hl1, hl2, hz⟩ := st
  have lt : ∀ {c o}, s.heap.get? c = some o → s.heap.objs.size ≠ c := fun e => Nat.ne_of_gt (Heap.lt_size e)
  have n1 : s.heap.objs.size ≠ i1 := let ⟨_, e, _⟩ := h1; lt e
  have n2 : s.heap.objs.size ≠ i2 := let ⟨_, e, _⟩ := h2; lt e
  rcases hz with ⟨hz, a, b, hTO⟩ | ⟨T, f, oT, hz, hT, r1, r2, r3, r4⟩
  · refine wpAny_pyNext_zip_item D hz hTI hTO h1 h2 hl1 hl2 ex ey fun h' a1 a2 a3 a4 a5 a6 hk => ?_
    exact hQ h' ⟨hk _ _ D.TIz D.TITO D.TIi1 D.TIi2 hTI, a3, a4, hl1.at fun o e => hk _ o D.l1z D.l1TO D.l1i1 D.l1i2 e, hl2.at fun o e => hk _ o D.l2z D.l2TO D.l2i1 D.l2i2 e,
      .inr ⟨s.heap.objs.size, false, _, a1, a5, lt hz, n1, n2, Nat.ne_of_gt hS⟩⟩ a5 fun c o c1 c2 c3 c4 e => hk c o c1 c2 c3 c4 e
  · refine wpAny_pyNext_zip_item_held D hz hT hTI h1 h2 hl1 hl2 ex ey fun h' a1 a3 a4 a5 a6 hk => ?_
    exact hQ h' ⟨hk _ _ D.TIz D.TIi1 D.TIi2 hTI, a3, a4, hl1.at fun o e => hk _ o D.l1z D.l1i1 D.l1i2 e, hl2.at fun o e => hk _ o D.l2z D.l2i1 D.l2i2 e,
      .inr ⟨T, true, oT, a1, hk _ _ r1 r2 r3 hT, r1, r2, r3, r4⟩⟩ a5 fun c o c1 c2 c3 c4 e => hk c o c1 c3 c4 e
theorem finZ {Q : Option Value → Shared → Prop} (hA : A.handled = none) (D : ZipApart z TI TO i1 i2 l1 l2) (st : ZSt z TI TO i1 i2 l1 l2 S xs ys i s.heap) (hend : xs[i]? = none ∨ ys[i]? = none)
    (hQ : ∀ h', (∀ b o, b ≠ z → b ≠ TO → b ≠ i1 → b ≠ i2 → s.heap.get? b = some o → h'.get? b = some o) → Q none { s with heap := h' }) : wpAny (model prog w) A (pyNext (.ref z)) Q E s := by
  obtain ⟨hTI, h1, h2, hl1, hl2, hz⟩ := st
  rcases hz with ⟨hz, a, b, hTO⟩ | ⟨T, f, oT, hz, hT, r1, r2, r3, r4⟩
  · exact wpAny_pyNext_zip_end hA D hz hTI hTO h1 h2 hl1 hl2 hend fun h' hk => hQ h' fun c o c1 c2 c3 c4 e => hk c o c1 c2 c3 c4 e
  · exact wpAny_pyNext_zip_end_held hA D hz hT hTI h1 h2 hl1 hl2 hend fun h' hk => hQ h' fun c o c1 c2 c3 c4 e => hk c o c1 c3 c4 e
theorem iterZ {Q : Value → Shared → Prop} (st : ZSt z TI TO i1 i2 l1 l2 S xs ys 0 s.heap) (hf : IsZip s.heap z TI TO .none) (h : Q (.ref z) s) : wpAny (model prog w) A (pyIter (.ref z)) Q E s := wpAny_pyIter_zip hf h
end
/-- the pairs that were made -/
structure Pairs (xs ys : Array Value) (lo : Addr) (h : Heap) (as : List Addr) : Prop where
  rise : as.Pairwise (· < ·)
  above : ∀ a ∈ as, lo < a
  pairs : ∀ (j : Nat) (a : Addr), as[j]? = some a → ∃ x y, xs[j]? = some x ∧ ys[j]? = some y ∧ IsPair h a x y
section
variable {prog : Program} {w : World} {A : Around} {s : Shared} {R : Result → Shared → Prop} {xs ys : Array Value} {z TI TO i1 i2 l1 l2 S : Addr}
theorem loopZ (hh : A.handled = none) (D : ZipApart z TI TO i1 i2 l1 l2) (dz : z < S) (dTI : TI < S) (dTO : TO < S) (d1 : i1 < S) (d2 : i2 < S) (e1 : l1 < S) (e2 : l2 < S) (hn : xs.size ≤ sizeLine) (hxy : xs.size = ys.size) (res : Value) {h₁ : Heap}
    (hR : ∀ h' tk acc c as, (∀ b o, b ≠ S → b ≠ z → b ≠ TO → b ≠ i1 → b ≠ i2 → h₁.get? b = some o → h'.get? b = some o) → h'.get? S = some { cls := .type "list", dict := none, data := .seq acc c, slots := #[] } → as.length = xs.size → Pairs xs ys S h' as →
      acc.toList = as.map Value.ref → R (.ok (.ret res)) { s with heap := h', toks := tk }) :
    ∀ (k i : Nat) (h : Heap) (tk c : Nat) (acc : Array Value) (as : List Addr), xs.size - i = k → i ≤ xs.size → ZSt z TI TO i1 i2 l1 l2 S xs ys i h → (∀ b o, b ≠ S → b ≠ z → b ≠ TO → b ≠ i1 → b ≠ i2 → h₁.get? b = some o → h.get? b = some o) →
      h.get? S = some { cls := .type "list", dict := none, data := .seq acc c, slots := #[] } → acc.toList = as.map Value.ref → as.length = i → Pairs xs ys S h as →
      codeAny (model prog w) A (.builtin "list.extend.loop" ⟨[.ref S, .ref z, res], []⟩) R { s with heap := h, toks := tk } := by
  intro k
  induction k with
  | zero =>
    intro i h tk c acc as hk hi hst hkeep hS hacc hal hG
    refine codeAny_builtin PySem.F.entry_extend_loop ?_
    rw [Around.under_plainId PySem.F.plain_extend_loop _]
    show wpAny _ A.in1 (pyNext (.ref z) >>= _) _ _ _
    refine wpAny_bind (finZ (s := { s with heap := h, toks := tk }) (A := A.in1) hh D hst (.inl (Array.getElem?_eq_none (by omega))) fun h' he => ?_)
    have up : ∀ b o, S ≤ b → h.get? b = some o → h'.get? b = some o := fun b o q e => he b o (Nat.ne_of_gt (Nat.lt_of_lt_of_le dz q)) (Nat.ne_of_gt (Nat.lt_of_lt_of_le dTO q)) (Nat.ne_of_gt (Nat.lt_of_lt_of_le d1 q)) (Nat.ne_of_gt (Nat.lt_of_lt_of_le d2 q)) e
    refine wpAny_pure (hR h' tk acc c as (fun b o h1 h2 h3 h4 h5 e => he b o h2 h3 h4 h5 (hkeep b o h1 h2 h3 h4 h5 e)) (up S _ (Nat.le_refl _) hS) (by omega) ⟨hG.rise, hG.above, fun j a hj => ?_⟩ hacc)
    obtain ⟨x, y, q1, q2, q3⟩ := hG.pairs j a hj
    exact ⟨x, y, q1, q2, up a _ (Nat.le_of_lt (hG.above a (List.mem_of_getElem? hj))) q3⟩
  | succ k ih =>
    intro i h tk c acc as hk hi hst hkeep hS hacc hal hG
    have hlt : i < xs.size := by omega
    have hlt2 : i < ys.size := by omega
    have hsz : acc.size = i := by rw [← Array.length_toList, hacc, List.length_map, hal]
    refine codeAny_builtin PySem.F.entry_extend_loop ?_
    rw [Around.under_plainId PySem.F.plain_extend_loop _]
    show wpAny _ A.in1 (pyNext (.ref z) >>= _) _ _ _
    refine wpAny_bind (nxtZ (s := { s with heap := h, toks := tk }) D hst (Heap.lt_size hS) (Array.getElem?_eq_getElem hlt) (Array.getElem?_eq_getElem hlt2) fun h' hst' ht hkp => ?_)
    dsimp only at ht hkp ⊢
    have hSl : S < h.objs.size := Heap.lt_size hS
    have upS : ∀ b o, S ≤ b → h.get? b = some o → h'.get? b = some o := fun b o q e => hkp b o (Nat.ne_of_gt (Nat.lt_of_lt_of_le dz q)) (Nat.ne_of_gt (Nat.lt_of_lt_of_le dTO q)) (Nat.ne_of_gt (Nat.lt_of_lt_of_le d1 q)) (Nat.ne_of_gt (Nat.lt_of_lt_of_le d2 q)) e
    have hS' := upS S _ (Nat.le_refl _) hS
    have up : ∀ b o, b ≠ S → h'.get? b = some o → (h'.update S (Obj.mapSeq (·.push (Value.ref h.objs.size)))).get? b = some o := fun b o hb e => (Heap.get?_update_other _ _ (Ne.symm hb)).trans e
    show wpAny _ A.in1 (updateSeq S (·.push (Value.ref h.objs.size)) >>= _) _ _ _
    refine wpAny_bind ?_
    refine wpAny_updateSeq hS' rfl (wpAny_pure ⟨plainId_quiet PySem.F.plain_extend_loop _, ih (i + 1) _ tk _ (acc.push (Value.ref h.objs.size)) (as ++ [h.objs.size]) (by omega) hlt
      (hst'.keep (Nat.ne_of_lt dz) (Nat.ne_of_lt dTI) (Nat.ne_of_lt dTO) (Nat.ne_of_lt d1) (Nat.ne_of_lt d2) (Nat.ne_of_lt e1) (Nat.ne_of_lt e2) up)
      (fun b o h1 h2 h3 h4 h5 e => up b o h1 (hkp b o h2 h3 h4 h5 (hkeep b o h1 h2 h3 h4 h5 e))) (Heap.get?_update_self _ hS' rfl) (by rw [Array.toList_push, hacc, List.map_append]; rfl) (by rw [List.length_append, hal]; rfl) ⟨?_, ?_, ?_⟩⟩) (by rw [hsz]; omega) (by show (acc.push (Value.ref h.objs.size)).size ≤ sizeLine + 1; rw [Array.size_push, hsz]; omega)
    · refine List.pairwise_append.mpr ⟨hG.rise, List.pairwise_singleton _ _, fun a ha b hb => ?_⟩
      rw [List.mem_singleton.mp hb]
      obtain ⟨j, hj⟩ := List.mem_iff_getElem?.mp ha
      obtain ⟨_, _, _, _, q⟩ := hG.pairs j a hj
      exact Heap.lt_size q
    · intro a ha
      rcases List.mem_append.mp ha with ha | ha
      · exact hG.above a ha
      · rw [List.mem_singleton.mp ha]; exact hSl
    · intro j b hj
      rcases Nat.lt_trichotomy j as.length with h1 | h1 | h1
      · rw [List.getElem?_append_left h1] at hj
        obtain ⟨x, y, q1, q2, q3⟩ := hG.pairs j b hj
        have hb := hG.above b (List.mem_of_getElem? hj)
        exact ⟨x, y, q1, q2, up b _ (Nat.ne_of_gt hb) (upS b _ (Nat.le_of_lt hb) q3)⟩
      · subst h1
        have hb : h.objs.size = b := by simpa using hj
        subst hb
        subst hal
        exact ⟨_, _, Array.getElem?_eq_getElem hlt, Array.getElem?_eq_getElem hlt2, up _ _ (Nat.ne_of_gt hSl) ht⟩
      · have hnone : (as ++ [h.objs.size])[j]? = none := List.getElem?_eq_none (by rw [List.length_append, List.length_singleton]; omega)
        rw [hnone] at hj; cases hj
end
section
variable {prog : Program} {w : World} {A : Around} {E : Value → Shared → Prop} {s : Shared} {xs ys : Array Value} {z TI TO i1 i2 l1 l2 : Addr}
theorem collectZ {Q : List Value → Shared → Prop} (hh : A.handled = none) (D : ZipApart z TI TO i1 i2 l1 l2) (dz : z < s.heap.objs.size) (dTI : TI < s.heap.objs.size) (dTO : TO < s.heap.objs.size) (d1 : i1 < s.heap.objs.size) (d2 : i2 < s.heap.objs.size) (e1 : l1 < s.heap.objs.size) (e2 : l2 < s.heap.objs.size)
    (hn : xs.size ≤ sizeLine) (hxy : xs.size = ys.size) (hz : IsZip s.heap z TI TO .none) (hTI : IsPair s.heap TI (.ref i1) (.ref i2)) (hTO : ∃ a b, IsPair s.heap TO a b) (h1 : s.heap.IsListIter i1 l1 0) (h2 : s.heap.IsListIter i2 l2 0) (hl1 : s.heap.IsList l1 xs) (hl2 : s.heap.IsList l2 ys)
    (hQ : ∀ h' tk as, (∀ b o, b ≠ z → b ≠ TO → b ≠ i1 → b ≠ i2 → s.heap.get? b = some o → h'.get? b = some o) → s.heap.objs.size < h'.objs.size → as.length = xs.size → Pairs xs ys s.heap.objs.size h' as → Q (as.map Value.ref) { s with heap := h', toks := tk }) :
    wpAny (model prog w) A (collect (.ref z)) Q E s := by
  have hSI : s.heap.objs.size ≠ z := Nat.ne_of_gt dz
  unfold collect
  refine wpAny_bind (wpAny_runValue (codeAny_builtin F.entry_proto_collect ?_))
  rw [Around.under_plainId F.plain_proto_collect _]
  show wpAny _ A.in1 (newList [] >>= fun l => again (.builtin "list.__iadd__" ⟨[l, .ref z], []⟩)) _ _ s
  refine wpAny_bind (wpAny_newObj_type ?_)
  refine wpAny_pure ⟨plainId_quiet F.plain_list_iadd _, codeAny_builtin F.entry_list_iadd ?_⟩
  rw [Around.under_plainId F.plain_list_iadd _]
  have pu : ∀ b o, s.heap.get? b = some o → (s.heap.push { cls := .type "list", data := .seq ([] : List Value).toArray }).get? b = some o := fun b o e => Heap.get?_push_of_some _ e
  have hz1 := pu _ _ hz
  have st1 : ZSt z TI TO i1 i2 l1 l2 s.heap.objs.size xs ys 0 (s.heap.push { cls := .type "list", data := .seq ([] : List Value).toArray }) :=
    ⟨pu _ _ hTI, h1.at fun o e => pu _ _ e, h2.at fun o e => pu _ _ e, hl1.at fun o e => pu _ _ e, hl2.at fun o e => pu _ _ e, .inl ⟨hz1, let ⟨a, b, q⟩ := hTO; ⟨a, b, pu _ _ q⟩⟩⟩
  have hT : ({ s with heap := s.heap.push { cls := .type "list", data := .seq ([] : List Value).toArray } } : Shared).TypeIs (.ref z) "zip" := ⟨_, hz1, rfl⟩
  show wpAny _ A.in1 (Builtin.List.listExtendWith (.ref s.heap.objs.size) (.ref z) (.ref s.heap.objs.size)) _ _ _
  unfold Builtin.List.listExtendWith
  refine wpAny_bind (wpAny_typeOf hT ?_)
  have hs1 : Builtin.List.listSameRef (.ref s.heap.objs.size) (.ref z) = false := by simp [Builtin.List.listSameRef, hSI]
  have hs2 : (Value.type "zip" == Value.type "list") = false := by decide
  have hs3 : (Value.type "zip" == Value.type "tuple") = false := by decide
  simp only [hs1, hs2, hs3, Bool.or_false, Bool.false_eq_true, if_false]
  refine wpAny_bind (wpAny_pyIter_zip hz1 ?_)
  refine wpAny_bind (wpAny_holding ?_)
  unfold Builtin.List.listLengthHint
  refine wpAny_bind (wpAny_specialOf hT nolen_zip ?_)
  show wpAny _ A.in1 (specialOf (Value.ref z) (Str.ofString "__length_hint__") >>= _) _ _ _
  refine wpAny_bind (wpAny_specialOf hT nohint_zip ?_)
  refine wpAny_pure ?_
  show wpAny _ A.in1 (rule "list.extend.makes-room" >>= fun _ => Builtin.List.listTouch (.ref s.heap.objs.size) >>= fun _ =>
    again (.builtin "list.extend.loop" ⟨[.ref s.heap.objs.size, .ref z, .ref s.heap.objs.size], []⟩)) _ _ _
  refine wpAny_bind (wpAny_rule ?_)
  have hS₁ : (s.heap.push { cls := .type "list", data := .seq ([] : List Value).toArray }).get? s.heap.objs.size = some { cls := .type "list", data := .seq ([] : List Value).toArray } := Heap.get?_push_size _ rfl
  refine wpAny_bind ?_
  show wpAny _ A.in1 (updateSeq s.heap.objs.size (·.push .none) >>= fun _ => updateSeq s.heap.objs.size (·.pop)) _ _ _
  refine wpAny_bind (wpAny_updateSeq hS₁ rfl ?_)
  have hS₂ := Heap.get?_update_self (Obj.mapSeq (·.push Value.none)) hS₁ rfl
  refine wpAny_updateSeq hS₂ rfl ?_
  have hS₃ := Heap.get?_update_self (Obj.mapSeq (·.pop)) hS₂ rfl
  have oth : ∀ b o, b ≠ s.heap.objs.size → (s.heap.push { cls := .type "list", data := .seq ([] : List Value).toArray }).get? b = some o →
      (((s.heap.push { cls := .type "list", data := .seq ([] : List Value).toArray }).update s.heap.objs.size (Obj.mapSeq (·.push Value.none))).update s.heap.objs.size (Obj.mapSeq (·.pop))).get? b = some o :=
    fun b o hb e => (Heap.get?_update_other _ _ (Ne.symm hb)).trans ((Heap.get?_update_other _ _ (Ne.symm hb)).trans e)
  refine wpAny_pure ⟨plainId_quiet F.plain_extend_loop _, loopZ (h₁ := s.heap) hh D dz dTI dTO d1 d2 e1 e2 hn hxy _ (fun h' tk acc c as hk hS hl hG hacc => ?_) xs.size 0 _ s.toks _ _ [] (Nat.sub_zero _) (Nat.zero_le _)
    (st1.keep (Nat.ne_of_lt dz) (Nat.ne_of_lt dTI) (Nat.ne_of_lt dTO) (Nat.ne_of_lt d1) (Nat.ne_of_lt d2) (Nat.ne_of_lt e1) (Nat.ne_of_lt e2) oth) (fun b o hb _ _ _ _ e => oth b o hb (pu b o e)) hS₃ rfl rfl ⟨List.Pairwise.nil, (fun _ ha => nomatch ha), (fun j a hj => by simp at hj)⟩⟩
  show wpAny _ A (load s.heap.objs.size >>= _) _ _ _
  refine wpAny_bind (wpAny_load hS ?_)
  refine wpAny_pure ?_
  show Q acc.toList _
  rw [hacc]
  exact hQ h' tk as (fun b o h1 h2 h3 h4 e => hk b o (Nat.ne_of_lt (Heap.lt_size e)) h1 h2 h3 h4 e) (Heap.lt_size hS) hl hG
theorem code_tupZ {Q₁ : Value → Shared → Prop} (hh : A.handled = none) (D : ZipApart z TI TO i1 i2 l1 l2) (dz : z < s.heap.objs.size) (dTI : TI < s.heap.objs.size) (dTO : TO < s.heap.objs.size) (d1 : i1 < s.heap.objs.size) (d2 : i2 < s.heap.objs.size) (e1 : l1 < s.heap.objs.size) (e2 : l2 < s.heap.objs.size)
    (hn : xs.size ≤ sizeLine) (hxy : xs.size = ys.size) (hz : IsZip s.heap z TI TO .none) (hTI : IsPair s.heap TI (.ref i1) (.ref i2)) (hTO : ∃ a b, IsPair s.heap TO a b) (h1 : s.heap.IsListIter i1 l1 0) (h2 : s.heap.IsListIter i2 l2 0) (hl1 : s.heap.IsList l1 xs) (hl2 : s.heap.IsList l2 ys)
    (h : ∀ h' tk as, (∀ b o, b ≠ z → b ≠ TO → b ≠ i1 → b ≠ i2 → s.heap.get? b = some o → h'.get? b = some o) → s.heap.objs.size < h'.objs.size → as.length = xs.size → Pairs xs ys s.heap.objs.size h' as →
      Q₁ (.ref h'.objs.size) { s with heap := h'.push { cls := .type "tuple", data := .seq (as.map Value.ref).toArray }, toks := tk }) :
    codeAny (model prog w) A (.call (.builtin "tuple.__new__") ⟨[.type "tuple", .ref z], []⟩) (wants Q₁ E) s := by
  refine codeAny_of_tree ?_
  show wpAny _ A.in1 (do checkBuiltinCall "tuple.__new__" ⟨[.type "tuple", .ref z], []⟩; again (.builtin "tuple.__new__" ⟨[.type "tuple", .ref z], []⟩)) _ _ s
  refine wpAny_bind (wpAny_of_eq (F.newCall_tuple_1 _) (wpAny_pure ⟨plainId_quiet F.plain_tuple_new _, codeAny_builtin F.entry_tuple_new ?_⟩))
  rw [Around.under_plainId F.plain_tuple_new _]
  have hsub := sub_tuple_self
  have hinit := init_tuple_lookup
  have hmh := madeHere_tuple
  have hTI' : s.TypeIs (.ref z) "zip" := ⟨_, hz, rfl⟩
  have hh1 : A.in1.handled = none := hh
  wp_walk using wpAny_typeOf hTI', collectZ (A := A.in1) hh1 D dz dTI dTO d1 d2 e1 e2 hn hxy hz hTI hTO h1 h2 hl1 hl2
  intro h' tk as hk hlt hl hG
  show wpAny _ _ (Builtin.Tuple.tupleExact (as.map Value.ref).toArray >>= fun v => ret v) _ _ _
  unfold Builtin.Tuple.tupleExact
  refine wpAny_bind (wpAny_newObj_type ?_ (by show (as.map Value.ref).toArray.size ≤ sizeLine; simp only [List.size_toArray, List.length_map, hl]; exact hn))
  exact wpAny_pure (h h' tk as hk hlt hl hG)
theorem call_tupZ {Q : Value → Shared → Prop} (hh : A.handled = none) (D : ZipApart z TI TO i1 i2 l1 l2) (dz : z < s.heap.objs.size) (dTI : TI < s.heap.objs.size) (dTO : TO < s.heap.objs.size) (d1 : i1 < s.heap.objs.size) (d2 : i2 < s.heap.objs.size) (e1 : l1 < s.heap.objs.size) (e2 : l2 < s.heap.objs.size)
    (hn : xs.size ≤ sizeLine) (hxy : xs.size = ys.size) (hz : IsZip s.heap z TI TO .none) (hTI : IsPair s.heap TI (.ref i1) (.ref i2)) (hTO : ∃ a b, IsPair s.heap TO a b) (h1 : s.heap.IsListIter i1 l1 0) (h2 : s.heap.IsListIter i2 l2 0) (hl1 : s.heap.IsList l1 xs) (hl2 : s.heap.IsList l2 ys)
    (hQ : ∀ h' tk as, (∀ b o, b ≠ z → b ≠ TO → b ≠ i1 → b ≠ i2 → s.heap.get? b = some o → h'.get? b = some o) → s.heap.objs.size < h'.objs.size → as.length = xs.size → Pairs xs ys s.heap.objs.size h' as →
      Q (.ref h'.objs.size) { s with heap := h'.push { cls := .type "tuple", data := .seq (as.map Value.ref).toArray }, toks := tk }) :
    wpAny (model prog w) A (call (.type "tuple") [.ref z]) Q E s := by
  refine callType_codes (Q₁ := fun obj s₁ => s₁.TypeIs obj "tuple" ∧ Q obj s₁) F.called_tuple (F.typeCall_tuple_1 _) F.entry_object_init
    (code_tupZ (A := A.in1) hh D dz dTI dTO d1 d2 e1 e2 hn hxy hz hTI hTO h1 h2 hl1 hl2 fun h' tk as hk hlt hl hG => ⟨⟨_, Heap.get?_push_size _ rfl, rfl⟩, hQ h' tk as hk hlt hl hG⟩) fun obj s₁ h₁ => ?_
  exact ⟨h₁.1, F.args_object_init_2 obj _, object_init_meets F.called_tuple.init.lookup F.called_tuple.made (by decide) prog w A.in1 _ s₁ ⟨h₁.1, rfl, h₁.2⟩⟩
end
end TZ
namespace L3
open PySem PySem.Spec PyProof.Rows L2
/-- many tracked at once -/
def putH : Hp → List Addr → List HO → Hp
  | H, a :: as, o :: os => putH (upd H a o) as os
  | H, _, _ => H
theorem putH_off {b : Addr} : ∀ (as : List Addr) (os : List HO) (H : Hp), b ∉ as → putH H as os b = H b
  | [], _, _, _ => rfl
  | _ :: _, [], _, _ => rfl
  | a :: as, o :: os, H, h => by
    show putH (upd H a o) as os b = H b
    rw [putH_off as os _ (fun z => h (List.mem_cons_of_mem _ z)), upd_ne (fun z => h (by rw [z]; exact List.mem_cons_self))]
theorem putH_at : ∀ (as : List Addr) (os : List HO) (H : Hp), as.length = os.length → as.Nodup → Paired (fun (t : Addr) (o : HO) => putH H as os t = some o) as os
  | [], [], _, _, _ => .nil
  | [], _ :: _, _, h, _ => by cases h
  | _ :: _, [], _, h, _ => by cases h
  | a :: as, o :: os, H, h, hn => by
    have hn' := List.nodup_cons.mp hn
    refine .cons ?_ (putH_at as os (upd H a o) (Nat.succ.inj h) hn'.2)
    show putH (upd H a o) as os a = some o
    rw [putH_off as os _ hn'.1, upd_same]
theorem laidMany {X : Cx} {pins : List (Addr × Obj)} {σ : L2.St} {H : Hp} {s : Shared} {h' : Heap} {tk : Nat} {as : List Addr} {os : List HO} (I : Inv X pins σ H s)
    (hk : ∀ b o, s.heap.get? b = some o → h'.get? b = some o) (hl : as.length = os.length) (nd : as.Nodup) (lo : ∀ a ∈ as, s.heap.objs.size ≤ a) (hG : ∀ (j : Nat) (a : Addr) (o : HO), as[j]? = some a → os[j]? = some o → ∀ H', ObjOk X.prog X.w H' h' a o) :
    ∃ H' : Hp, (∀ b o, H b = some o → H' b = some o) ∧ (∀ t ∈ as, H t = none) ∧ Paired (fun (t : Addr) (o : HO) => H' t = some o) as os ∧ Inv X pins σ H' { s with heap := h', toks := tk } := by
  have new : ∀ t ∈ as, H t = none := fun t ht => I.hok.fresh (lo t ht)
  have atP := putH_at as os H hl nd
  have off : ∀ b, b ∉ as → putH H as os b = H b := fun b h1 => putH_off as os H h1
  have low : ∀ b o, s.heap.get? b = some o → b ∉ as := fun b o e z => absurd (Heap.lt_size e) (Nat.not_lt.mpr (lo b z))
  have kp : ∀ b u, H b = some u → putH H as os b = some u := fun b u e => by
    rw [off b (fun z => by rw [new b z] at e; cases e)]; exact e
  refine ⟨putH H as os, kp, new, atP, ?_⟩
  refine I.call' (ch := []) rfl ⟨fun b o q _ _ _ => hk b o q, fun b o q _ _ _ => ⟨o.slots, hk b o q⟩, fun b o q n _ => ?_, fun b o q _ => ⟨o, hk b o q⟩, fun b xs q => kp b _ q, fun b o u q => kp b _ q, fun b ps q => ⟨#[], by rw [kp b _ q]; simp⟩⟩ (fun b u q => ?_) I.bare fun b z => by simp at z
  · rw [off b (low b o q)]
    exact n
  · by_cases hb : b ∈ as
    · obtain ⟨j, oj, e1, e2, e3⟩ := LiI.paired_ix atP hb
      rw [e3] at q
      cases q
      exact hG j b _ e1 e2 _
    · rw [off b hb] at q
      exact (I.hok b u q).stay (fun d v _ y => hk d v y) (fun d y => kp d _ y) fun d xs y => kp d _ y
/-- tuple(zip(a, b)) -/
def rZipT (K : PySem.W.Frag) : List V → Hp → VK → Prop := fun vs H Q => ∃ a b xs ys, vs = [.ref a, .ref b] ∧ SqL K H a xs ∧ SqL K H b ys ∧ xs.length = ys.length ∧
  ∀ (H' : Hp) (p : Addr) (ts : List Addr), (∀ b o, H b = some o → H' b = some o) → H p = none → (∀ t ∈ ts, H t = none) → H' p = some (.tup (ts.map V.ref)) → Paired (fun (t : Addr) (q : V × V) => H' t = some (.tup [q.1, q.2])) ts (xs.zip ys) → Q (.ref p) H'
def tZipT (K : PySem.W.Frag) (ta : TA) : TE := fun σ H Q => ta σ H fun vs H1 => rZipT K vs H1 Q
theorem paired_split {α β γ : Type} {F : α → β → Prop} {f : γ → β} : ∀ {as : List α} {cs : List γ}, Paired F as (cs.map f) → Paired (fun a c => F a (f c)) as cs
  | _, [], h => by cases h; exact .nil
  | _, _ :: _, h => by
    cases h with
    | cons q t => exact .cons q (paired_split t)
section
variable {X : Cx} {e e2 : Expr} {ta : TA} {p p2 pos pos2 : Pos}
theorem pe_tupZip (hc : X.calm = true) (hg : Gl X "tuple") (hm : X.mg "tuple" = none) (hg2 : Gl X "zip") (hm2 : X.mg "zip" = none) (ha : PA X [e, e2] ta)
    (hs : starEach [e, e2] X.env = (false, eval e X.env) :: starEach [e2] X.env := by rfl) (hpl : (backTo pos2 (starEach [e2] X.env)).any (·.1) = false := by rfl)
    (hs2 : starEach [.Call (.Name "zip" p2) [e, e2] [] pos2] X.env = (false, eval (.Call (.Name "zip" p2) [e, e2] [] pos2) X.env) :: starEach [] X.env := by rfl) :
    PE X (.Call (.Name "tuple" p) [.Call (.Name "zip" p2) [e, e2] [] pos2] [] pos) (tZipT X.K ta) := by
  refine ⟨fun pins s σ H Q I h => ?_⟩
  refine Call_ (ld_blt I hg hm boot_tuple (PyProof.Rows.callWith_type1 (args_cons (Call_ (ld_blt I hg2 hm2 PyProof.Rows.boot_zip (PyProof.Rows.callWith_type1 (thn (ha.run pos2 pins s σ H _ I h) fun us s1 ⟨vs, H1, I1, r1, q1⟩ => ?_) hs hpl))) hs2) hs2 rfl))
  obtain ⟨a, b, xs, ys, ex, hqx, hqy, hl, q⟩ := q1
  subst ex
  cases r1 with
  | cons r rr =>
    cases rr with
    | cons r' rr =>
      cases rr
      cases r
      cases r'
      obtain ⟨its, rv, p1, hz1⟩ := I1.list hqx
      obtain ⟨its2, rv2, p2', hz2⟩ := I1.list hqy
      have l1 := rv.length
      have l2 := rv2.length
      refine call_zip_2 p1.isList p2'.isList fun h' hz hTI hTO h1 h2 hsz hk => args_nil ?_
      have la : a < s1.heap.objs.size := p1.lt
      have lb : b < s1.heap.objs.size := p2'.lt
      have up0 : s1.heap.objs.size ≤ h'.objs.size := by omega
      refine TZ.call_tupZ (s := { s1 with heap := h' }) (xs := its.toArray) (ys := its2.toArray) (I1.ok.hd hc) (PySem.W.ktu_apart s1.heap.objs.size a b la lb) (by show _ < h'.objs.size; omega) (by show _ < h'.objs.size; omega) (by show _ < h'.objs.size; omega) (by show _ < h'.objs.size; omega) (by show _ < h'.objs.size; omega) (Nat.lt_of_lt_of_le la up0) (Nat.lt_of_lt_of_le lb up0)
        (by simp only [List.size_toArray]; omega) (by simp only [List.size_toArray]; omega) hz hTI ⟨_, _, hTO⟩ h1 h2 (p1.isList.at fun o e => hk _ o e) (p2'.isList.at fun o e => hk _ o e) fun h'' tk as hk2 hlt hla hG => ?_
      dsimp only at hk2 hlt hG ⊢
      have kk : ∀ c o, s1.heap.get? c = some o → (h''.push { cls := .type "tuple", data := .seq (as.map Value.ref).toArray }).get? c = some o := fun c o e => by
        have lc : ∀ k, c ≠ s1.heap.objs.size + k := fun k => Nat.ne_of_lt (Nat.lt_of_lt_of_le (Heap.lt_size e) (Nat.le_add_right _ k))
        exact Heap.get?_push_of_some _ (hk2 c o (lc 4) (lc 3) (lc 0) (lc 1) (hk c o e))
      have nd : as.Nodup := List.Pairwise.imp (fun {a b} (h : a < b) => Nat.ne_of_lt h) hG.rise
      have hla' : as.length = xs.length := by rw [hla, List.size_toArray, l1]
      have there : ∀ a ∈ as, a < h''.objs.size := fun c hc => by
        obtain ⟨j, hj⟩ := List.mem_iff_getElem?.mp hc
        obtain ⟨_, _, _, _, q⟩ := hG.pairs j c hj
        exact Heap.lt_size q
      have ndp : (h''.objs.size :: as).Nodup := List.nodup_cons.mpr ⟨fun z => Nat.lt_irrefl _ (there _ z), nd⟩
      obtain ⟨H', k1, k2, k3, J⟩ := laidMany (tk := tk) (as := h''.objs.size :: as) (os := .tup (as.map V.ref) :: (xs.zip ys).map fun q => .tup [q.1, q.2]) I1 kk (by simp [hla', ← hl]) ndp (fun c hc => by
          rcases List.mem_cons.mp hc with z | z
          · rw [z]; omega
          · exact Nat.le_trans up0 (Nat.le_of_lt (hG.above c z))) (fun j c o e1 e2 H2 => by
          cases j with
          | zero =>
            simp only [List.getElem?_cons_zero, Option.some.injEq] at e1 e2
            subst e1 e2
            exact ⟨by rw [List.length_map, hla']; exact hz1, as.map Value.ref, LiI.vals_refs as, IsTup.new _ _⟩
          | succ j =>
            simp only [List.getElem?_cons_succ] at e1 e2
            obtain ⟨x, y, g1, g2, g3⟩ := hG.pairs j c e1
            rw [List.getElem?_map] at e2
            obtain ⟨⟨x', y'⟩, f1, f2⟩ := Option.map_eq_some_iff.mp e2
            subst f2
            obtain ⟨fx, fy⟩ := List.getElem?_zip_eq_some.mp f1
            obtain ⟨ux, hux, rx⟩ := rv.get fx
            obtain ⟨uy, huy, ry⟩ := rv2.get fy
            have e1' : ux = x := by
              have : its.toArray[j]? = some ux := by simpa using hux
              rw [this] at g1; exact Option.some.inj g1
            have e2' : uy = y := by
              have : its2.toArray[j]? = some uy := by simpa using huy
              rw [this] at g2; exact Option.some.inj g2
            subst e1' e2'
            exact ⟨by show 2 ≤ sizeLine; decide, [ux, uy], .cons rx (.cons ry .nil), ⟨_, Heap.get?_push_of_some _ g3, rfl, _, rfl⟩⟩)
      cases k3 with
      | cons g1 g2 =>
        exact ⟨.ref h''.objs.size, H', J, rfl, q H' _ as k1 (k2 _ List.mem_cons_self) (fun t ht => k2 t (List.mem_cons_of_mem _ ht)) g1 (paired_split (F := fun (t : Addr) (o : HO) => H' t = some o) (f := fun q : V × V => HO.tup [q.1, q.2]) g2)⟩
end
end L3
namespace L3
open PySem PySem.Spec PyProof.Rows L2
section
variable {G : GC} {X : Cx} {Wx : WX} {p p2 pos pos2 : Pos} {e e2 : Expr}
/-- a list, whichever -/
def lsAt (x : D) (S : Store) : Option (List D) := match x with
  | .lst l => some l
  | .obj n => match S[n]? with
    | some (.lst l) => some l
    | _ => none
  | _ => none
theorem lsAt_rep {w : Wd} {x : D} {v : V} {l : List D} (sr : SRep G w) (r : Rep G w x v) (e : lsAt x w.S = some l) : ∃ a vs, v = .ref a ∧ w.H a = some (.lst vs) ∧ RepL G w l vs := by
  unfold lsAt at e
  split at e
  · cases e
    simp only [Rep] at r
    obtain ⟨a, vs, e1, h1, nm, h2⟩ := r
    exact ⟨a, vs, e1, h1, h2⟩
  · rename_i n
    split at e
    · rename_i l' hn
      cases e
      simp only [Rep] at r
      obtain ⟨a, hm, rfl⟩ := r
      obtain ⟨vs, h1, h2⟩ := sr.obj n _ a hn hm
      exact ⟨a, vs, rfl, h1, h2⟩
    · cases e
  · cases e
def pairL : List D → List D → List D
  | a :: as, b :: bs => .tup [a, b] :: pairL as bs
  | _, _ => []
def zipT : FN := fun xs S => match xs with
  | [x, y] => match lsAt x S, lsAt y S with
    | some l, some l' => if l.length = l'.length then .ok (.tup (pairL l l')) S else .bad
    | _, _ => .bad
  | _ => .bad
theorem pairL_rep {w w' : Wd} : ∀ {as bs : List D} {vs us : List V} {ts : List Addr}, WExt w w' → RepL G w as vs → RepL G w bs us → (∀ t ∈ ts, ¬ Mut w' t) → Paired (fun (t : Addr) (q : V × V) => w'.H t = some (.tup [q.1, q.2])) ts (vs.zip us) → RepL G w' (pairL as bs) (ts.map V.ref)
  | [], bs, vs, us, ts, x, h, _, _, p => by
    simp only [RepL] at h
    subst h
    cases p
    simp [pairL, RepL]
  | a :: as, [], vs, us, ts, x, _, h, _, p => by
    simp only [RepL] at h
    subst h
    rw [List.zip_nil_right] at p
    cases p
    simp [pairL, RepL]
  | a :: as, b :: bs, vs, us, ts, x, h, h', nm, p => by
    simp only [RepL] at h h'
    obtain ⟨v, r, e, h1, h2⟩ := h
    obtain ⟨u, r', e', h1', h2'⟩ := h'
    subst e e'
    cases p with
    | cons q t =>
      rename_i c cs
      show RepL G w' (.tup [a, b] :: pairL as bs) (V.ref c :: cs.map V.ref)
      simp only [RepL]
      refine ⟨_, _, rfl, ?_, pairL_rep x h2 h2' (fun t ht => nm t (List.mem_cons_of_mem _ ht)) t⟩
      simp only [Rep]
      refine ⟨c, _, rfl, .inl ⟨.inl q, nm c List.mem_cons_self⟩, ?_⟩
      simp only [RepL]
      exact ⟨_, _, rfl, Rep.mono x _ _ h1, _, _, rfl, Rep.mono x _ _ h1', rfl⟩
theorem q_zipT {m : AD} (hK : X.K = G.K) (hc : X.calm = true) (hg : Gl X "tuple") (hm : X.mg "tuple" = none) (hg2 : Gl X "zip") (hm2 : X.mg "zip" = none) (ha : PA X [e, e2] (tA G m Wx))
    (hs : starEach [e, e2] X.env = (false, eval e X.env) :: starEach [e2] X.env := by rfl) (hpl : (backTo pos2 (starEach [e2] X.env)).any (·.1) = false := by rfl)
    (hs2 : starEach [.Call (.Name "zip" p2) [e, e2] [] pos2] X.env = (false, eval (.Call (.Name "zip" p2) [e, e2] [] pos2) X.env) :: starEach [] X.env := by rfl) :
    PE X (.Call (.Name "tuple" p) [.Call (.Name "zip" p2) [e, e2] [] pos2] [] pos) (tE G (eN zipT m) Wx) :=
  peI (pe_tupZip hc hg hm hg2 hm2 ha hs hpl hs2) fun σ H Q q => by
  obtain ⟨w, env, rfl, sr, er, p⟩ := q
  refine ⟨w, env, rfl, sr, er, (Post.bind p).mono (fun v H1 ⟨w1, d, eH, x, s1, r1, p1⟩ => ?_) fun _ _ _ h => h⟩
  subst eH
  simp only [zipT] at p1
  split at p1
  · rename_i x y
    split at p1
    · rename_i l l' hx hy
      by_cases hl : l.length = l'.length
      · rw [if_pos hl] at p1
        simp only [RepL] at r1
        obtain ⟨v1, r', rfl, rx, v2, r2, rfl, ry, rfl⟩ := r1
        obtain ⟨a, vs, rfl, h1, h2⟩ := lsAt_rep s1 rx hx
        obtain ⟨b, us, rfl, h3, h4⟩ := lsAt_rep s1 ry hy
        refine ⟨a, b, vs, us, rfl, SqL.of h1, SqL.of h3, by rw [h2.length, h4.length, hl], fun H' p' ts k hp hts hpH pr => ?_⟩
        obtain ⟨x1, s2, nm⟩ := grow_ext s1 k
        refine p1 (.ref p') { w1 with H := H' } x1 rfl s2 ?_
        simp only [Rep]
        exact ⟨p', _, rfl, .inl ⟨.inl hpH, nm p' hp⟩, pairL_rep x1 h2 h4 (fun t ht => nm t (hts t ht)) pr⟩
      · rw [if_neg hl] at p1; exact p1.elim
    · exact p1.elim
  · exact p1.elim
end
end L3
set_option Elab.async false
set_option linter.all false
set_option maxRecDepth 100000
/-! L4I: targets, more. -/
namespace L3
open PySem PySem.Spec PyProof.Rows L2
theorem gn_seq {is : List Nat} : GOk (gSeq is) := fun d env S => by
  cases d with
  | tup l =>
    rcases gNames_nx (is := is) (ds := l) (env := env) (S := S) with ⟨env', e⟩ | e
    · exact .inl ⟨env', S, e⟩
    · exact .inr e
  | lst l =>
    rcases gNames_nx (is := is) (ds := l) (env := env) (S := S) with ⟨env', e⟩ | e
    · exact .inl ⟨env', S, e⟩
    · exact .inr e
  | _ => exact .inr rfl
theorem gn_star {i : Nat} {is : List Nat} : GOk (gStar i is) := fun d env S => by
  have k : ∀ l : List D, (∃ env' S', (if i < is.length ∧ is.length ≤ l.length + 1 ∧ l.length ≤ 16384 then gNames is (l.take i ++ [.lst ((l.drop i).take (l.length + 1 - is.length))] ++ (l.drop i).drop (l.length + 1 - is.length)) env S else .bad) = .nx env' S') ∨
      (if i < is.length ∧ is.length ≤ l.length + 1 ∧ l.length ≤ 16384 then gNames is (l.take i ++ [.lst ((l.drop i).take (l.length + 1 - is.length))] ++ (l.drop i).drop (l.length + 1 - is.length)) env S else .bad) = .bad := fun l => by
    by_cases h : i < is.length ∧ is.length ≤ l.length + 1 ∧ l.length ≤ 16384
    · rw [if_pos h]
      rcases gNames_nx (is := is) (ds := l.take i ++ [.lst ((l.drop i).take (l.length + 1 - is.length))] ++ (l.drop i).drop (l.length + 1 - is.length)) (env := env) (S := S) with ⟨env', e⟩ | e
      · exact .inl ⟨env', S, e⟩
      · exact .inr e
    · rw [if_neg h]; exact .inr rfl
  cases d with
  | tup l => exact k l
  | lst l => exact k l
  | _ => exact .inr rfl
section
variable {G : GC} {X : Cx} {Wx : WX} {pos : Pos}
/-- names in a comprehension -/
def tGsW (G : GC) (is vs : List Nat) : TGs := fun us σ H Q => ∃ w env ds env', w.H = H ∧ SRep G w ∧ ERep G w env σ ∧ RepL G w ds us ∧ gNames is ds env w.S = .nx env' w.S ∧ ∀ σ', ERep G w env' σ' → L2.wipe σ' vs = L2.wipe σ vs → Q σ' H
theorem q_gsnW {vs : List Nat} : PGs X [] (tGsW G [] vs) := pgsI pgs_nil fun v σ H Q q => by
  obtain ⟨w, env, ds, env', rfl, sr, er, rl, e, k⟩ := q
  cases ds with
  | nil =>
    simp only [RepL] at rl
    cases e
    exact ⟨rl, k σ er rfl⟩
  | cons _ _ => cases e
theorem q_gscW {e : Expr} {es : List Expr} {i : Nat} {is vs : List Nat} (h1 : PG X e (L2.gName i)) (h2 : PGs X es (tGsW G is vs)) (hv : i ∈ vs := by decide)
    (hs : (assignEach (e :: es) X.env).map (·.2) = assign e X.env :: (assignEach es X.env).map (·.2) := by rfl) : PGs X (e :: es) (tGsW G (i :: is) vs) := pgsI (pgs_cons h1 h2 hs) fun v σ H Q q => by
  obtain ⟨w, env, ds, env', rfl, sr, er, rl, e, k⟩ := q
  cases ds with
  | nil => cases e
  | cons d ds =>
    simp only [RepL] at rl
    obtain ⟨v, r, rfl, r1, r2⟩ := rl
    exact ⟨v, r, rfl, w, _, ds, env', rfl, sr, er.set i r1, r2, e, fun σ' er' hw => k σ' er' (hw.trans (wipe_set hv))⟩
theorem q_gtupW {es : List Expr} {k : Nat} {is vs : List Nat} (hK : X.K = G.K) (hc : X.calm = true) (h : PGs X es (tGsW G is vs)) (hn : (assignEach es X.env).length = is.length := by rfl) (hst : (assignEach es X.env).findIdx? (·.1) = none := by rfl) :
    PG X (.Tuple es k pos) (tGW G (gTup is) vs) := pgI (pg_tup hc h hn hst) fun v σ H Q q => by
  obtain ⟨w, env, d, rfl, sr, er, rp, p⟩ := q
  cases d with
  | tup l =>
    simp only [Rep] at rp
    obtain ⟨a, us, rfl, h1, rl⟩ := rp
    simp only [gTup] at p
    rcases gNames_nx (is := is) (ds := l) (env := env) (S := w.S) with ⟨env', e⟩ | e
    · rw [e] at p
      refine ⟨a, us, rfl, by rw [hK]; exact SqT_of h1, by rw [rl.length]; exact gNames_len e, w, env, l, env', rfl, sr, er, rl, e, fun σ' er' hw => p σ' w (.refl _) rfl sr er' hw⟩
    · rw [e] at p; exact p.elim
  | _ => exact p.elim
end
end L3
set_option Elab.async false
set_option linter.all false
set_option maxRecDepth 100000
/-! L4J: a list or dict that changes no more is taken out of the store. -/
namespace L3
open PySem PySem.Spec PyProof.Rows L2
def frzD : F1 := fun x S => match x with
  | .obj n => match S[n]? with
    | some (.lst l) => .ok (.lst l) (S.set n .dead)
    | some (.dK kvs) => .ok (.dic (kvs.map (·.1)) (kvs.map (·.2))) (S.set n .dead)
    | _ => .bad
  | x => .ok x S
theorem bury {G : GC} {w : Wd} {n : Nat} {a : Addr} {ob : O} (sr : SRep G w) (hn : w.S[n]? = some ob) (lv : ob.live) (hm : w.mu[n]? = some a) :
    WExt w { w with S := w.S.set n .dead } ∧ SRep G { w with S := w.S.set n .dead } ∧ ¬ Mut { w with S := w.S.set n .dead } a := by
  have hl := (List.getElem?_eq_some_iff.mp hn).1
  have back : ∀ (m : Nat) (o : O), (w.S.set n .dead)[m]? = some o → o.live → m ≠ n ∧ w.S[m]? = some o := fun m o h lo => by
    by_cases e : n = m
    · subst e; rw [List.getElem?_set_self hl] at h; cases h; exact lo.elim
    · rw [List.getElem?_set_ne e] at h; exact ⟨fun z => e z.symm, h⟩
  have mb : ∀ b, MutS { w with S := w.S.set n .dead } b → MutS w b := fun b ⟨m, o, h1, l1, h2⟩ => ⟨m, o, (back m o h1 l1).2, l1, h2⟩
  have x : WExt w { w with S := w.S.set n .dead } := ⟨fun _ _ h => h, fun b u h nm _ => ⟨h, fun m => nm (mb b m)⟩, fun _ h => .inl h, fun _ h => h⟩
  refine ⟨x, ⟨by simp [sr.len], fun i j b o1 o2 h1 h2 l1 l2 m1 m2 => sr.inj i j b o1 o2 (back i o1 h1 l1).2 (back j o2 h2 l2).2 l1 l2 m1 m2, fun m o b h1 h2 => ?_, fun b hb => ⟨(sr.tm b hb).1, fun m => (sr.tm b hb).2 (mb b m)⟩⟩, fun m => ?_⟩
  · by_cases e : n = m
    · subst e; rw [List.getElem?_set_self hl] at h1; cases h1; trivial
    · rw [List.getElem?_set_ne e] at h1
      exact (sr.obj m o b h1 h2).keep x noT fun _ => rfl
  · rcases m with ⟨m, o, h1, l1, h2⟩ | m
    · obtain ⟨ne, q⟩ := back m o h1 l1
      exact ne (sr.inj m n a o ob q hn l1 lv h2 hm)
    · exact (sr.tm a m).2 ⟨n, ob, hn, lv, hm⟩
theorem frz_rep {G : GC} {w : Wd} {x y : D} {v : V} {S' : Store} (sr : SRep G w) (r : Rep G w x v) (e : frzD x w.S = .ok y S') : ∃ w', WExt w w' ∧ w'.S = S' ∧ w'.H = w.H ∧ SRep G w' ∧ Rep G w' y v := by
  unfold frzD at e
  split at e
  · rename_i n
    simp only [Rep] at r
    obtain ⟨a, hm, rfl⟩ := r
    split at e
    · rename_i l hn
      cases e
      obtain ⟨vs, h1, h2⟩ := sr.obj n _ a hn hm
      obtain ⟨x, s, nm⟩ := bury sr hn trivial hm
      refine ⟨_, x, rfl, rfl, s, ?_⟩
      simp only [Rep]
      exact ⟨a, vs, rfl, h1, nm, RepL.mono x _ _ h2⟩
    · rename_i kvs hn
      cases e
      obtain ⟨vs, h1, h2⟩ := sr.obj n _ a hn hm
      obtain ⟨x, s, nm⟩ := bury sr hn trivial hm
      obtain ⟨us, eu, ru⟩ := h2.parts
      refine ⟨_, x, rfl, rfl, s, ?_⟩
      simp only [Rep]
      exact ⟨a, us, rfl, by rw [← eu]; exact h1, nm, by simp, RepL.mono x _ _ ru⟩
    · cases e
  · cases e
    exact ⟨w, .refl w, rfl, rfl, sr, r⟩
section
variable {G : GC} {X : Cx} {Wx : WX}
theorem q_frz {e : Expr} {m : ED} (h : PE X e (tE G m Wx)) : PE X e (tE G (e1 frzD m) Wx) := peI h fun σ H Q q => by
  obtain ⟨w, env, rfl, sr, er, p⟩ := q
  refine ⟨w, env, rfl, sr, er, (Post.bind (Ra := Rep G) p).mono (fun v H1 ⟨w1, d, eH, x, s1, r1, p1⟩ => ?_) fun _ _ _ h => h⟩
  subst eH
  replace p1 : Post G w1 (frzD d w1.S) (Rep G) Q (fun C dx H' => Wx C dx σ H') := p1
  cases hf : frzD d w1.S with
  | ok y S' =>
    obtain ⟨w2, x2, e2, eh, s2, r2⟩ := frz_rep s1 r1 hf
    rw [hf] at p1
    have := p1 v w2 x2 e2 s2 r2
    rw [eh] at this
    exact this
  | exc _ _ => simp only [frzD] at hf; split at hf <;> (try split at hf) <;> cases hf
  | bad => rw [hf] at p1; exact p1.elim
/-- ahead of a statement -/
def sFrz (i : Nat) (m : SD) : SD := fun env S => match env[i]? with
  | some (some x) => match frzD x S with
    | .ok y S' => m (env.set i (some y)) S'
    | _ => .bad
  | _ => .bad
theorem q_sfrz {st : Stmt} {i : Nat} {m : SD} (h : PS X st (tS G m Wx)) : PS X st (tS G (sFrz i m) Wx) := psI h fun D σ H q => by
  obtain ⟨w, env, rfl, sr, er, p⟩ := q
  unfold sFrz at p
  split at p
  · rename_i x hx
    split at p
    · rename_i y S' hf
      obtain ⟨v, hv, rv⟩ := er.at' i x hx
      obtain ⟨w2, x2, e2, eh, s2, r2⟩ := frz_rep sr rv hf
      subst e2
      have er2 : ERep G w2 (env.set i (some y)) σ := by
        have := (er.mono x2).set i r2
        have es : σ.set i (some v) = σ := by
          apply List.ext_getElem?
          intro j
          by_cases hj : i = j
          · subst hj
            rw [List.getElem?_set_self (List.getElem?_eq_some_iff.mp hv).1, hv]
          · rw [List.getElem?_set_ne hj]
        rw [es] at this; exact this
      exact ⟨w2, _, eh, s2, er2, PostS.shift (r := m (env.set i (some y)) w2.S) x2 p⟩
    · exact p.elim
  · exact p.elim
end
end L3
set_option Elab.async false
set_option linter.all false
set_option maxRecDepth 100000
set_option maxHeartbeats 4000000
namespace K21
open PySem L2 L3
def fuel : Nat := 100000
def c_ROUNDS : D := (.int 4)
def c_WAYS : D := (.kd ["num", "name", "plus", "times", "most", "less", "below", "if", "say", "row", "let", "each"] [(.glb "num_worth"), (.glb "name_worth"), (.glb "plus_worth"), (.glb "times_worth"), (.glb "most_worth"), (.glb "less_worth"), (.glb "below_worth"), (.glb "if_worth"), (.glb "say_worth"), (.glb "row_worth"), (.glb "let_worth"), (.glb "each_worth")])
def c_WHEEL : D := (.int 9973)
def m_rest_of (F : Nat → FN) : SD :=
    sRet (e2 modD (eVar 0) (eK c_WHEEL))
def m_with_name (F : Nat → FN) : SD :=
    sSeq (sAsg (eN dictO (aCons (eVar 0) (aNil))) (gName 3))
    (sSeq (sAsg (eVar 2) (gSub (eVar 3) (eVar 1)))
    (sRet (eVar 3)))
def m_num_worth (F : Nat → FN) : SD :=
    sRet (e2 ixD (eVar 1) (eK (.int 1)))
def m_name_worth (F : Nat → FN) : SD :=
    sSeq (sIf (tOfE (e2 notInD (e2 ixD (eVar 1) (eK (.int 1))) (eVar 2))) (sBad) (sSkip))
    (sRet (e2 ixD (eVar 2) (e2 ixD (eVar 1) (eK (.int 1)))))
def m_plus_worth (F : Nat → FN) : SD :=
    sRet (eN (callK (F 0) []) (aCons (eN sumD (aCons (eMeth "Going" "part_worths" (callK (F 16) []) (eVar 0) (aCons (eVar 1) (aCons (eVar 2) (aNil)))) (aNil))) (aNil)))
def m_times_worth (F : Nat → FN) : SD :=
    sSeq (sAsg (eK (.int 1)) (gName 3))
    (sSeq (sFor (iSeq (eMeth "Going" "part_worths" (callK (F 16) []) (eVar 0) (aCons (eVar 1) (aCons (eVar 2) (aNil))))) (gName 4) (sAsg (eN (callK (F 0) []) (aCons (e2 mulD (eVar 3) (eVar 4)) (aNil))) (gName 3)))
    (sRet (eVar 3)))
def m_most_worth (F : Nat → FN) : SD :=
    sRet (eN maxD (aCons (eMeth "Going" "part_worths" (callK (F 16) []) (eVar 0) (aCons (eVar 1) (aCons (eVar 2) (aNil)))) (aNil)))
def m_less_worth (F : Nat → FN) : SD :=
    sSeq (sAsg (eMeth "Going" "part_worths" (callK (F 16) []) (eVar 0) (aCons (eVar 1) (aCons (eVar 2) (aNil)))) (gSeq [3, 4]))
    (sRet (eN (callK (F 0) []) (aCons (e2 subD (eVar 3) (eVar 4)) (aNil))))
def m_below_worth (F : Nat → FN) : SD :=
    sSeq (sAsg (eMeth "Going" "part_worths" (callK (F 16) []) (eVar 0) (aCons (eVar 1) (aCons (eVar 2) (aNil)))) (gSeq [3, 4]))
    (sRet (eN intD (aCons (e2 ltD (eVar 3) (eVar 4)) (aNil))))
def m_if_worth (F : Nat → FN) : SD :=
    sSeq (sAsg (e2 ixD (eVar 1) (eK (.int 2))) (gTup [3, 4, 5]))
    (sRet (eMeth "Going" "worth" (callK (F 15) []) (eVar 0) (aCons (eIf (tOfE (e2 neD (eMeth "Going" "worth" (callK (F 15) []) (eVar 0) (aCons (eVar 3) (aCons (eVar 2) (aNil)))) (eK (.int 0)))) (eVar 4) (eVar 5)) (aCons (eVar 2) (aNil)))))
def m_say_worth (F : Nat → FN) : SD :=
    sSeq (sAsg (eMeth "Going" "worth" (callK (F 15) []) (eVar 0) (aCons (e2 ixD (e2 ixD (eVar 1) (eK (.int 2))) (eK (.int 0))) (aCons (eVar 2) (aNil)))) (gName 3))
    (sSeq (sExpr (eBM "list" appendD (e1 (fldD ["Going"] "told_aloud") (eVar 0)) (aCons (eVar 3) (aNil))))
    (sRet (eVar 3)))
def m_row_worth (F : Nat → FN) : SD :=
    sSeq (sAsg (e2 addD (eN mkLst (aCons (eK (.int 0)) (aNil))) (eMeth "Going" "part_worths" (callK (F 16) []) (eVar 0) (aCons (eVar 1) (aCons (eVar 2) (aNil))))) (gStar 0 [3, 4]))
    (sRet (eVar 4))
def m_let_worth (F : Nat → FN) : SD :=
    sSeq (sAsg (e2 ixD (eVar 1) (eK (.int 2))) (gTup [3, 4]))
    (sRet (eMeth "Going" "worth" (callK (F 15) []) (eVar 0) (aCons (eVar 4) (aCons (eN (callK (F 1) []) (aCons (eVar 2) (aCons (e2 ixD (eVar 1) (eK (.int 1))) (aCons (eMeth "Going" "worth" (callK (F 15) []) (eVar 0) (aCons (eVar 3) (aCons (eVar 2) (aNil)))) (aNil))))) (aNil)))))
def m_each_worth (F : Nat → FN) : SD :=
    sSeq (sAsg (e2 ixD (eVar 1) (eK (.int 2))) (gTup [3, 4]))
    (sSeq (sAsg (eK (.int 0)) (gName 5))
    (sSeq (sFor (iArgs range1 (aCons (e2 modD (eMeth "Going" "worth" (callK (F 15) []) (eVar 0) (aCons (eVar 3) (aCons (eVar 2) (aNil)))) (eK c_ROUNDS)) (aNil))) (gName 6) (sAsg (eMeth "Going" "worth" (callK (F 15) []) (eVar 0) (aCons (eVar 4) (aCons (eN (callK (F 1) []) (aCons (eVar 2) (aCons (e2 ixD (eVar 1) (eK (.int 1))) (aCons (eVar 6) (aNil))))) (aNil)))) (gName 5)))
    (sRet (eVar 5))))
def m_Going___init__ (F : Nat → FN) : SD :=
    sFldD ["Going"] "told_aloud" (eVar 0) (eN mkObj (aNil))
def m_Going_worth (F : Nat → FN) : SD :=
    sSeq (sAsg (e2 ixD (eK c_WAYS) (e2 ixD (eVar 1) (eK (.int 0)))) (gName 3))
    (sRet (eAlt (eFnL 3 "num_worth" (F 2) (aCons (eVar 0) (aCons (eVar 1) (aCons (eVar 2) (aNil))))) (eAlt (eFnL 3 "name_worth" (F 3) (aCons (eVar 0) (aCons (eVar 1) (aCons (eVar 2) (aNil))))) (eAlt (eFnL 3 "plus_worth" (F 4) (aCons (eVar 0) (aCons (eVar 1) (aCons (eVar 2) (aNil))))) (eAlt (eFnL 3 "times_worth" (F 5) (aCons (eVar 0) (aCons (eVar 1) (aCons (eVar 2) (aNil))))) (eAlt (eFnL 3 "most_worth" (F 6) (aCons (eVar 0) (aCons (eVar 1) (aCons (eVar 2) (aNil))))) (eAlt (eFnL 3 "less_worth" (F 7) (aCons (eVar 0) (aCons (eVar 1) (aCons (eVar 2) (aNil))))) (eAlt (eFnL 3 "below_worth" (F 8) (aCons (eVar 0) (aCons (eVar 1) (aCons (eVar 2) (aNil))))) (eAlt (eFnL 3 "if_worth" (F 9) (aCons (eVar 0) (aCons (eVar 1) (aCons (eVar 2) (aNil))))) (eAlt (eFnL 3 "say_worth" (F 10) (aCons (eVar 0) (aCons (eVar 1) (aCons (eVar 2) (aNil))))) (eAlt (eFnL 3 "row_worth" (F 11) (aCons (eVar 0) (aCons (eVar 1) (aCons (eVar 2) (aNil))))) (eAlt (eFnL 3 "let_worth" (F 12) (aCons (eVar 0) (aCons (eVar 1) (aCons (eVar 2) (aNil))))) (eFnL 3 "each_worth" (F 13) (aCons (eVar 0) (aCons (eVar 1) (aCons (eVar 2) (aNil)))))))))))))))))
def m_Going_part_worths (F : Nat → FN) : SD :=
    sRet (eLc (iSeq (e2 ixD (eVar 1) (eK (.int 2)))) [3] (gName 3) (tYesD) (eMeth "Going" "worth" (callK (F 15) []) (eVar 0) (aCons (eVar 3) (aCons (eVar 2) (aNil)))))
def m_run (F : Nat → FN) : SD :=
    sSeq (sAsg (eN (mkIns "Going" (callK (F 14) [])) aNil) (gName 2))
    (sSeq (sAsg (eMeth "Going" "worth" (callK (F 15) []) (eVar 2) (aCons (eVar 0) (aCons (eDc (iSeq (eVar 1)) [4, 5] (gTup [4, 5]) (tYesD) (eVar 4) (eVar 5)) (aNil)))) (gName 3))
    (sRet (eN mkTup (aCons (eVar 3) (aCons (eN tupleD (aCons (e1 (fldD ["Going"] "told_aloud") (eVar 2)) (aNil))) (aNil))))))
def m_law_hand (F : Nat → FN) : SD :=
    sSeq (sAsg (e2 addD (e2 mulD (eK (.int 3)) (eVar 1)) (eN lenD (aCons (eVar 0) (aNil)))) (gName 2))
    (sSeq (sIf (tOfE (e2 ltD (eVar 1) (eN lenD (aCons (eVar 0) (aNil))))) (sAsg (e2 ixD (eVar 0) (eVar 1)) (gName 2)) (sSkip))
    (sSeq (sAsg (e2 mulD (e2 modD (eN absD (aCons (eVar 2) (aNil))) (e2 powD (e2 powD (eK (.int 10)) (eK (.int 60))) (eK (.int 5)))) (eN intD (aCons (e2 geD (eN absD (aCons (eVar 2) (aNil))) (e2 powD (eK (.int 10)) (eK (.int 18)))) (aNil)))) (gName 3))
    (sRet (eN mkObj (aCons (eVar 3) (aCons (e2 modD (e2 mulD (e2 addD (e2 addD (e2 modD (eVar 2) (eK (.int 2305843009213693951))) (e2 mulD (e2 mulD (eK (.int 7919)) (eVar 1)) (eVar 1))) (eK (.int 11))) (eK (.int 48271))) (eK (.int 2305843009213693951))) (aNil)))))))
def m_law_take (F : Nat → FN) : SD :=
    sSeq (sIf (tOfE (e2 gtD (e2 ixD (eVar 0) (eK (.int 0))) (eK (.int 0)))) (sSeq (sAsg (e2 modD (e2 ixD (eVar 0) (eK (.int 0))) (eVar 1)) (gName 2))
    (sSeq (sAsg (e2 fdivD (e2 ixD (eVar 0) (eK (.int 0))) (eVar 1)) (gSub (eVar 0) (eK (.int 0))))
    (sRet (eVar 2)))) (sSkip))
    (sSeq (sAsg (e2 modD (e2 addD (e2 mulD (e2 ixD (eVar 0) (eK (.int 1))) (eK (.int 1181783497276652981))) (eK (.int 12345678910987))) (eK (.int 2305843009213693951))) (gSub (eVar 0) (eK (.int 1))))
    (sRet (e2 modD (e2 fdivD (e2 modD (e2 mulD (e2 fdivD (e2 ixD (eVar 0) (eK (.int 1))) (eK (.int 65537))) (e2 addD (e2 modD (e2 ixD (eVar 0) (eK (.int 1))) (eK (.int 65537))) (eK (.int 3)))) (eK (.int 2305843009213693921))) (eK (.int 97))) (eVar 1))))
def m_law_pick (F : Nat → FN) : SD :=
    sRet (e2 ixD (eVar 1) (eN (callK (F 19) []) (aCons (eVar 0) (aCons (eN lenD (aCons (eVar 1) (aNil))) (aNil)))))
def m_law_number (F : Nat → FN) : SD :=
    sRet (eN (callK (F 20) []) (aCons (eVar 0) (aCons (eN mkLst (aCons (eK (.int 0)) (aCons (eK (.int 1)) (aCons (eK (.int 2)) (aCons (eK (.int 3)) (aCons (eK (.int 4)) (aCons (eK (.int 5)) (aCons (eK (.int 9972)) (aCons (eK (.int 9971)) (aCons (eK (.int 4986)) (aCons (eN (callK (F 19) []) (aCons (eVar 0) (aCons (eK (.int 9973)) (aNil)))) (aNil)))))))))))) (aNil))))
def m_law_due (F : Nat → FN) : SD :=
    sSeq (sAsg (eN intD (aCons (e2 eqD (eVar 0) (eK (.str "times"))) (aNil))) (gName 2))
    (sSeq (sFor (iSeq (eVar 1)) (gName 3) (sIf (tOfE (e2 eqD (eVar 0) (eK (.str "plus")))) (sAsg (e2 subD (e2 addD (eVar 2) (eVar 3)) (e2 mulD (eK (.int 9973)) (eN intD (aCons (e2 geD (e2 addD (eVar 2) (eVar 3)) (eK (.int 9973))) (aNil))))) (gName 2)) (sIf (tOfE (e2 eqD (eVar 0) (eK (.str "times")))) (sAsg (e2 subD (e2 mulD (eVar 2) (eVar 3)) (e2 mulD (e2 fdivD (e2 mulD (eVar 2) (eVar 3)) (eK (.int 9973))) (eK (.int 9973)))) (gName 2)) (sIf (tOfE (e2 eqD (eVar 0) (eK (.str "row")))) (sAsg (eVar 3) (gName 2)) (sAsg (eIf (tOfE (e2 gtD (eVar 2) (eVar 3))) (eVar 2) (eVar 3)) (gName 2))))))
    (sRet (eVar 2)))
def m_law_many_right (F : Nat → FN) : SD :=
    sSeq (sFor (iSeq (eN mkTup (aCons (eK (.str "plus")) (aCons (eK (.str "times")) (aCons (eK (.str "most")) (aCons (eK (.str "row")) (aNil))))))) (gName 1) (sSeq (sAsg (eIf (tOfE (e2 eqD (eVar 1) (eK (.str "row")))) (eN (callK (F 19) []) (aCons (eVar 0) (aCons (eK (.int 7)) (aNil)))) (e2 addD (eK (.int 1)) (eN (callK (F 19) []) (aCons (eVar 0) (aCons (eK (.int 6)) (aNil)))))) (gName 2))
    (sSeq (sAsg (eLc (iArgs range1 (aCons (eVar 2) (aNil))) [4] (gName 4) (tYesD) (eN (callK (F 21) []) (aCons (eVar 0) (aNil)))) (gName 3))
    (sSeq (sAsg (eSl (eN mkLst (aCons (eK (.str "a")) (aCons (eK (.str "b")) (aCons (eK (.str "c")) (aCons (eK (.str "d")) (aCons (eK (.str "e")) (aCons (eK (.str "f")) (aNil)))))))) (pNo) (pYes (eN lenD (aCons (eVar 3) (aNil))))) (gName 5))
    (sSeq (sAsg (eN mkTup (aCons (eVar 1) (aCons (eK (.str "")) (aCons (eN tupleD (aCons (eLc (iSeq (eVar 5)) [7] (gName 7) (tYesD) (eN mkTup (aCons (eK (.str "name")) (aCons (eVar 7) (aCons (eN mkTup (aNil)) (aNil)))))) (aNil))) (aNil))))) (gName 6))
    (sSeq (sAsg (eN mkTup (aCons (eVar 1) (aCons (eK (.str "")) (aCons (eN tupleD (aCons (eLc (iSeq (eVar 3)) [9] (gName 9) (tYesD) (eN mkTup (aCons (eK (.str "num")) (aCons (eVar 9) (aCons (eN mkTup (aNil)) (aNil)))))) (aNil))) (aNil))))) (gName 8))
    (sSeq (sAsg (eN reprD (aCons (eN mkTup (aCons (eN (callK (F 22) []) (aCons (eVar 1) (aCons (eVar 3) (aNil)))) (aCons (eN mkTup (aNil)) (aNil)))) (aNil))) (gName 10))
    (sIf (tOr (tOfE (e2 neD (eN reprD (aCons (eN (callK (F 17) []) (aCons (eVar 6) (aCons (eN zipT (aCons (eVar 5) (aCons (eVar 3) (aNil)))) (aNil)))) (aNil))) (eVar 10))) (tOfE (e2 neD (eN reprD (aCons (eN (callK (F 17) []) (aCons (eVar 8) (aCons (eN mkTup (aNil)) (aNil)))) (aNil))) (eVar 10)))) (sRet (eK (.bl false))) (sSkip)))))))))
    (sRet (eK (.bl true)))
def m_law_pairs_right (F : Nat → FN) : SD :=
    sSeq (sPar [1, 2] (aCons (eN (callK (F 21) []) (aCons (eVar 0) (aNil))) (aCons (eN (callK (F 21) []) (aCons (eVar 0) (aNil))) (aNil))))
    (sSeq (sAsg (eN (callK (F 21) []) (aCons (eVar 0) (aNil))) (gName 3))
    (sSeq (sPar [4, 5, 6] (aCons (eN mkTup (aCons (eK (.str "num")) (aCons (eVar 1) (aCons (eN mkTup (aNil)) (aNil))))) (aCons (eN mkTup (aCons (eK (.str "name")) (aCons (eK (.str "b")) (aCons (eN mkTup (aNil)) (aNil))))) (aCons (eN mkTup (aCons (eK (.str "num")) (aCons (eVar 3) (aCons (eN mkTup (aNil)) (aNil))))) (aNil)))))
    (sSeq (sAsg (eN mkTup (aCons (eN mkTup (aCons (eK (.str "b")) (aCons (eVar 2) (aNil)))) (aCons (eN mkTup (aCons (eK (.str "unasked")) (aCons (eK (.int 3)) (aNil)))) (aNil)))) (gName 7))
    (sSeq (sAsg (e2 addD (e2 subD (eVar 1) (eVar 2)) (e2 mulD (eK (.int 9973)) (eN intD (aCons (e2 ltD (eVar 1) (eVar 2)) (aNil))))) (gName 8))
    (sSeq (sAsg (eN mkObj (aCons (eN mkTup (aCons (eN mkTup (aCons (eK (.str "less")) (aCons (eK (.str "")) (aCons (eN mkTup (aCons (eVar 4) (aCons (eVar 5) (aNil)))) (aNil))))) (aCons (eVar 8) (aNil)))) (aCons (eN mkTup (aCons (eN mkTup (aCons (eK (.str "below")) (aCons (eK (.str "")) (aCons (eN mkTup (aCons (eVar 4) (aCons (eVar 5) (aNil)))) (aNil))))) (aCons (eIf (tOfE (e2 ltD (eVar 1) (eVar 2))) (eK (.int 1)) (eK (.int 0))) (aNil)))) (aNil)))) (gName 9))
    (sSeq (sExpr (eBM "list" appendD (eVar 9) (aCons (eN mkTup (aCons (eN mkTup (aCons (eK (.str "if")) (aCons (eK (.str "")) (aCons (eN mkTup (aCons (eVar 5) (aCons (eVar 4) (aCons (eVar 6) (aNil))))) (aNil))))) (aCons (eIf (tOfE (e2 gtD (eVar 2) (eK (.int 0)))) (eVar 1) (eVar 3)) (aNil)))) (aNil))))
    (sSeq (sExpr (eBM "list" appendD (eVar 9) (aCons (eN mkTup (aCons (eN mkTup (aCons (eK (.str "let")) (aCons (eK (.str "b")) (aCons (eN mkTup (aCons (eVar 4) (aCons (eN mkTup (aCons (eK (.str "plus")) (aCons (eK (.str "")) (aCons (eN mkTup (aCons (eVar 5) (aNil))) (aNil))))) (aNil)))) (aNil))))) (aCons (eVar 1) (aNil)))) (aNil))))
    (sSeq (sExpr (eBM "list" appendD (eVar 9) (aCons (eN mkTup (aCons (eN mkTup (aCons (eK (.str "let")) (aCons (eK (.str "x")) (aCons (eN mkTup (aCons (eVar 5) (aCons (eN mkTup (aCons (eK (.str "row")) (aCons (eK (.str "")) (aCons (eN mkTup (aCons (eVar 6) (aCons (eN mkTup (aCons (eK (.str "name")) (aCons (eK (.str "x")) (aCons (eN mkTup (aNil)) (aNil))))) (aNil)))) (aNil))))) (aNil)))) (aNil))))) (aCons (eVar 2) (aNil)))) (aNil))))
    (sRet (eN allD (aCons (eLc (iSeq (e1 frzD (eVar 9))) [11, 10] (gTup [11, 10]) (tYesD) (e2 eqD (eN reprD (aCons (eN (callK (F 17) []) (aCons (eVar 11) (aCons (eVar 7) (aNil)))) (aNil))) (eN reprD (aCons (eN mkTup (aCons (eVar 10) (aCons (eN mkTup (aNil)) (aNil)))) (aNil))))) (aNil))))))))))))
def m_law_each_right (F : Nat → FN) : SD :=
    sSeq (sAsg (eN (callK (F 20) []) (aCons (eVar 0) (aCons (eN mkLst (aCons (eK (.int 0)) (aCons (eK (.int 1)) (aCons (eK (.int 2)) (aCons (eK (.int 3)) (aCons (eK (.int 4)) (aCons (eK (.int 5)) (aCons (eK (.int 7)) (aCons (eK (.int 8)) (aCons (eK (.int 9)) (aCons (eK (.int 9972)) (aCons (eN (callK (F 21) []) (aCons (eVar 0) (aNil))) (aNil))))))))))))) (aNil)))) (gName 1))
    (sSeq (sAsg (eN (callK (F 21) []) (aCons (eVar 0) (aNil))) (gName 2))
    (sSeq (sAsg (eN mkTup (aCons (eK (.str "say")) (aCons (eK (.str "")) (aCons (eN mkTup (aCons (eN mkTup (aCons (eK (.str "plus")) (aCons (eK (.str "")) (aCons (eN mkTup (aCons (eN mkTup (aCons (eK (.str "name")) (aCons (eK (.str "x")) (aCons (eN mkTup (aNil)) (aNil))))) (aCons (eN mkTup (aCons (eK (.str "num")) (aCons (eVar 2) (aCons (eN mkTup (aNil)) (aNil))))) (aNil)))) (aNil))))) (aNil))) (aNil))))) (gName 3))
    (sSeq (sAsg (eN mkTup (aCons (eK (.str "each")) (aCons (eK (.str "x")) (aCons (eN mkTup (aCons (eN mkTup (aCons (eK (.str "num")) (aCons (eVar 1) (aCons (eN mkTup (aNil)) (aNil))))) (aCons (eVar 3) (aNil)))) (aNil))))) (gName 4))
    (sSeq (sAsg (eLc (iArgs range1 (aCons (e2 subD (eVar 1) (e2 mulD (e2 fdivD (eVar 1) (eK (.int 4))) (eK (.int 4)))) (aNil))) [6] (gName 6) (tYesD) (e2 modD (e2 addD (eVar 6) (eVar 2)) (eK (.int 9973)))) (gName 5))
    (sRet (e2 eqD (eN reprD (aCons (eN (callK (F 17) []) (aCons (eVar 4) (aCons (eN mkTup (aCons (eN mkTup (aCons (eK (.str "x")) (aCons (eK (.int 7)) (aNil)))) (aNil))) (aNil)))) (aNil))) (eN reprD (aCons (eN mkTup (aCons (e2 ixD (e2 addD (eN mkLst (aCons (eK (.int 0)) (aNil))) (eVar 5)) (e1 negD (eK (.int 1)))) (aCons (eN tupleD (aCons (eVar 5) (aNil))) (aNil)))) (aNil)))))))))
def m_law (F : Nat → FN) : SD :=
    sSeq (sFor (iArgs range1 (aCons (eN maxD (aCons (eK (.int 1)) (aCons (eN minD (aCons (eN lenD (aCons (eVar 0) (aNil))) (aCons (eK (.int 4)) (aNil)))) (aNil)))) (aNil))) (gName 1) (sSeq (sAsg (eN (callK (F 18) []) (aCons (eVar 0) (aCons (eVar 1) (aNil)))) (gName 2))
    (sFor (iArgs range1 (aCons (eK (.int 3)) (aNil))) (gName 3) (sIf (tOr (tNot (tTruth (eN (callK (F 23) []) (aCons (eVar 2) (aNil))))) (tOr (tNot (tTruth (eN (callK (F 24) []) (aCons (eVar 2) (aNil))))) (tNot (tTruth (eN (callK (F 25) []) (aCons (eVar 2) (aNil))))))) (sRet (eK (.bl false))) (sSkip)))))
    (sRet (eK (.bl true)))
def tab (F : Nat → FN) : List FN := [run 1 1 (m_rest_of F),
  run 3 4 (m_with_name F),
  run 3 3 (m_num_worth F),
  run 3 3 (m_name_worth F),
  run 3 3 (m_plus_worth F),
  run 3 5 (m_times_worth F),
  run 3 3 (m_most_worth F),
  run 3 5 (m_less_worth F),
  run 3 5 (m_below_worth F),
  run 3 6 (m_if_worth F),
  run 3 4 (m_say_worth F),
  run 3 5 (m_row_worth F),
  run 3 5 (m_let_worth F),
  run 3 7 (m_each_worth F),
  run 1 1 (m_Going___init__ F),
  run 3 4 (m_Going_worth F),
  run 3 4 (m_Going_part_worths F),
  run 2 6 (m_run F),
  run 2 4 (m_law_hand F),
  run 2 3 (m_law_take F),
  run 2 2 (m_law_pick F),
  run 1 1 (m_law_number F),
  run 2 4 (m_law_due F),
  run 1 11 (m_law_many_right F),
  run 1 12 (m_law_pairs_right F),
  run 1 7 (m_law_each_right F),
  run 1 4 (m_law F)]
def Fs : Nat → Nat → FN
  | 0, _ => fun _ _ => .bad
  | k + 1, i => (tab (Fs k)).getD i fun _ _ => .bad
theorem Fs_rest_of (k : Nat) : Fs (k + 1) 0 = run 1 1 (m_rest_of (Fs k)) := rfl
theorem Fs_with_name (k : Nat) : Fs (k + 1) 1 = run 3 4 (m_with_name (Fs k)) := rfl
theorem Fs_num_worth (k : Nat) : Fs (k + 1) 2 = run 3 3 (m_num_worth (Fs k)) := rfl
theorem Fs_name_worth (k : Nat) : Fs (k + 1) 3 = run 3 3 (m_name_worth (Fs k)) := rfl
theorem Fs_plus_worth (k : Nat) : Fs (k + 1) 4 = run 3 3 (m_plus_worth (Fs k)) := rfl
theorem Fs_times_worth (k : Nat) : Fs (k + 1) 5 = run 3 5 (m_times_worth (Fs k)) := rfl
theorem Fs_most_worth (k : Nat) : Fs (k + 1) 6 = run 3 3 (m_most_worth (Fs k)) := rfl
theorem Fs_less_worth (k : Nat) : Fs (k + 1) 7 = run 3 5 (m_less_worth (Fs k)) := rfl
theorem Fs_below_worth (k : Nat) : Fs (k + 1) 8 = run 3 5 (m_below_worth (Fs k)) := rfl
theorem Fs_if_worth (k : Nat) : Fs (k + 1) 9 = run 3 6 (m_if_worth (Fs k)) := rfl
theorem Fs_say_worth (k : Nat) : Fs (k + 1) 10 = run 3 4 (m_say_worth (Fs k)) := rfl
theorem Fs_row_worth (k : Nat) : Fs (k + 1) 11 = run 3 5 (m_row_worth (Fs k)) := rfl
theorem Fs_let_worth (k : Nat) : Fs (k + 1) 12 = run 3 5 (m_let_worth (Fs k)) := rfl
theorem Fs_each_worth (k : Nat) : Fs (k + 1) 13 = run 3 7 (m_each_worth (Fs k)) := rfl
theorem Fs_Going___init__ (k : Nat) : Fs (k + 1) 14 = run 1 1 (m_Going___init__ (Fs k)) := rfl
theorem Fs_Going_worth (k : Nat) : Fs (k + 1) 15 = run 3 4 (m_Going_worth (Fs k)) := rfl
theorem Fs_Going_part_worths (k : Nat) : Fs (k + 1) 16 = run 3 4 (m_Going_part_worths (Fs k)) := rfl
theorem Fs_run (k : Nat) : Fs (k + 1) 17 = run 2 6 (m_run (Fs k)) := rfl
theorem Fs_law_hand (k : Nat) : Fs (k + 1) 18 = run 2 4 (m_law_hand (Fs k)) := rfl
theorem Fs_law_take (k : Nat) : Fs (k + 1) 19 = run 2 3 (m_law_take (Fs k)) := rfl
theorem Fs_law_pick (k : Nat) : Fs (k + 1) 20 = run 2 2 (m_law_pick (Fs k)) := rfl
theorem Fs_law_number (k : Nat) : Fs (k + 1) 21 = run 1 1 (m_law_number (Fs k)) := rfl
theorem Fs_law_due (k : Nat) : Fs (k + 1) 22 = run 2 4 (m_law_due (Fs k)) := rfl
theorem Fs_law_many_right (k : Nat) : Fs (k + 1) 23 = run 1 11 (m_law_many_right (Fs k)) := rfl
theorem Fs_law_pairs_right (k : Nat) : Fs (k + 1) 24 = run 1 12 (m_law_pairs_right (Fs k)) := rfl
theorem Fs_law_each_right (k : Nat) : Fs (k + 1) 25 = run 1 7 (m_law_each_right (Fs k)) := rfl
theorem Fs_law (k : Nat) : Fs (k + 1) 26 = run 1 4 (m_law (Fs k)) := rfl
end K21
set_option Elab.async false
set_option linter.all false
set_option maxRecDepth 100000
set_option maxHeartbeats 4000000
namespace K21
open PySem PySem.Spec PyProof.Rows L2 L3
def topS (i : Nat) : Stmt := PySem.Challenge.pw_holepatterns_k21_words_at_their_bounds.main.body.getD i (.Pass ⟨0, 0, 0, 0⟩)
abbrev s_rest_of : Stmt := topS 6
abbrev N_rest_of : List Str := ["number"]
theorem sc_rest_of : FnScope N_rest_of ["number"] (defScope s_rest_of) := ⟨rfl, rfl, rfl, by decide +kernel, rfl, by decide +kernel, by decide +kernel⟩
abbrev s_with_name : Stmt := topS 7
abbrev N_with_name : List Str := ["held", "name", "worth", "found"]
theorem sc_with_name : FnScope N_with_name ["held", "name", "worth"] (defScope s_with_name) := ⟨rfl, rfl, rfl, by decide +kernel, rfl, by decide +kernel, by decide +kernel⟩
abbrev s_num_worth : Stmt := topS 8
abbrev N_num_worth : List Str := ["going", "thing", "held"]
theorem sc_num_worth : FnScope N_num_worth ["going", "thing", "held"] (defScope s_num_worth) := ⟨rfl, rfl, rfl, by decide +kernel, rfl, by decide +kernel, by decide +kernel⟩
abbrev s_name_worth : Stmt := topS 9
abbrev N_name_worth : List Str := ["going", "thing", "held"]
theorem sc_name_worth : FnScope N_name_worth ["going", "thing", "held"] (defScope s_name_worth) := ⟨rfl, rfl, rfl, by decide +kernel, rfl, by decide +kernel, by decide +kernel⟩
abbrev s_plus_worth : Stmt := topS 10
abbrev N_plus_worth : List Str := ["going", "thing", "held"]
theorem sc_plus_worth : FnScope N_plus_worth ["going", "thing", "held"] (defScope s_plus_worth) := ⟨rfl, rfl, rfl, by decide +kernel, rfl, by decide +kernel, by decide +kernel⟩
abbrev s_times_worth : Stmt := topS 11
abbrev N_times_worth : List Str := ["going", "thing", "held", "product", "worth"]
theorem sc_times_worth : FnScope N_times_worth ["going", "thing", "held"] (defScope s_times_worth) := ⟨rfl, rfl, rfl, by decide +kernel, rfl, by decide +kernel, by decide +kernel⟩
abbrev s_most_worth : Stmt := topS 12
abbrev N_most_worth : List Str := ["going", "thing", "held"]
theorem sc_most_worth : FnScope N_most_worth ["going", "thing", "held"] (defScope s_most_worth) := ⟨rfl, rfl, rfl, by decide +kernel, rfl, by decide +kernel, by decide +kernel⟩
abbrev s_less_worth : Stmt := topS 13
abbrev N_less_worth : List Str := ["going", "thing", "held", "one", "other"]
theorem sc_less_worth : FnScope N_less_worth ["going", "thing", "held"] (defScope s_less_worth) := ⟨rfl, rfl, rfl, by decide +kernel, rfl, by decide +kernel, by decide +kernel⟩
abbrev s_below_worth : Stmt := topS 14
abbrev N_below_worth : List Str := ["going", "thing", "held", "one", "other"]
theorem sc_below_worth : FnScope N_below_worth ["going", "thing", "held"] (defScope s_below_worth) := ⟨rfl, rfl, rfl, by decide +kernel, rfl, by decide +kernel, by decide +kernel⟩
abbrev s_if_worth : Stmt := topS 15
abbrev N_if_worth : List Str := ["going", "thing", "held", "asked", "one", "other"]
theorem sc_if_worth : FnScope N_if_worth ["going", "thing", "held"] (defScope s_if_worth) := ⟨rfl, rfl, rfl, by decide +kernel, rfl, by decide +kernel, by decide +kernel⟩
abbrev s_say_worth : Stmt := topS 16
abbrev N_say_worth : List Str := ["going", "thing", "held", "told"]
theorem sc_say_worth : FnScope N_say_worth ["going", "thing", "held"] (defScope s_say_worth) := ⟨rfl, rfl, rfl, by decide +kernel, rfl, by decide +kernel, by decide +kernel⟩
abbrev s_row_worth : Stmt := topS 17
abbrev N_row_worth : List Str := ["going", "thing", "held", "ahead", "last"]
theorem sc_row_worth : FnScope N_row_worth ["going", "thing", "held"] (defScope s_row_worth) := ⟨rfl, rfl, rfl, by decide +kernel, rfl, by decide +kernel, by decide +kernel⟩
abbrev s_let_worth : Stmt := topS 18
abbrev N_let_worth : List Str := ["going", "thing", "held", "given", "inner"]
theorem sc_let_worth : FnScope N_let_worth ["going", "thing", "held"] (defScope s_let_worth) := ⟨rfl, rfl, rfl, by decide +kernel, rfl, by decide +kernel, by decide +kernel⟩
abbrev s_each_worth : Stmt := topS 19
abbrev N_each_worth : List Str := ["going", "thing", "held", "many", "inner", "told", "turn"]
theorem sc_each_worth : FnScope N_each_worth ["going", "thing", "held"] (defScope s_each_worth) := ⟨rfl, rfl, rfl, by decide +kernel, rfl, by decide +kernel, by decide +kernel⟩
abbrev s_Going___init__ : Stmt := inClass (topS 21) 0
abbrev N_Going___init__ : List Str := ["self"]
theorem sc_Going___init__ : FnScope N_Going___init__ ["self"] (defScope s_Going___init__) := ⟨rfl, rfl, rfl, by decide +kernel, rfl, by decide +kernel, by decide +kernel⟩
abbrev s_Going_worth : Stmt := inClass (topS 21) 1
abbrev N_Going_worth : List Str := ["self", "thing", "held", "telling"]
theorem sc_Going_worth : FnScope N_Going_worth ["self", "thing", "held"] (defScope s_Going_worth) := ⟨rfl, rfl, rfl, by decide +kernel, rfl, by decide +kernel, by decide +kernel⟩
abbrev s_Going_part_worths : Stmt := inClass (topS 21) 2
abbrev N_Going_part_worths : List Str := ["self", "thing", "held", "part"]
theorem sc_Going_part_worths : FnScope N_Going_part_worths ["self", "thing", "held"] (defScope s_Going_part_worths) := ⟨rfl, rfl, rfl, by decide +kernel, rfl, by decide +kernel, by decide +kernel⟩
abbrev s_run : Stmt := topS 22
abbrev N_run : List Str := ["program", "inputs", "going", "worth", "name", "told"]
theorem sc_run : FnScope N_run ["program", "inputs"] (defScope s_run) := ⟨rfl, rfl, rfl, by decide +kernel, rfl, by decide +kernel, by decide +kernel⟩
abbrev s_law_hand : Stmt := topS 24
abbrev N_law_hand : List Str := ["_law_script", "_law_k", "_law_cell", "_law_great"]
theorem sc_law_hand : FnScope N_law_hand ["_law_script", "_law_k"] (defScope s_law_hand) := ⟨rfl, rfl, rfl, by decide +kernel, rfl, by decide +kernel, by decide +kernel⟩
abbrev s_law_take : Stmt := topS 25
abbrev N_law_take : List Str := ["_law_hand_here", "_law_many", "_law_digit"]
theorem sc_law_take : FnScope N_law_take ["_law_hand_here", "_law_many"] (defScope s_law_take) := ⟨rfl, rfl, rfl, by decide +kernel, rfl, by decide +kernel, by decide +kernel⟩
abbrev s_law_pick : Stmt := topS 26
abbrev N_law_pick : List Str := ["_law_hand_here", "_law_some"]
theorem sc_law_pick : FnScope N_law_pick ["_law_hand_here", "_law_some"] (defScope s_law_pick) := ⟨rfl, rfl, rfl, by decide +kernel, rfl, by decide +kernel, by decide +kernel⟩
abbrev s_law_number : Stmt := topS 27
abbrev N_law_number : List Str := ["_law_hand_here"]
theorem sc_law_number : FnScope N_law_number ["_law_hand_here"] (defScope s_law_number) := ⟨rfl, rfl, rfl, by decide +kernel, rfl, by decide +kernel, by decide +kernel⟩
abbrev s_law_due : Stmt := topS 28
abbrev N_law_due : List Str := ["_law_word", "_law_worths", "_law_found", "_law_worth"]
theorem sc_law_due : FnScope N_law_due ["_law_word", "_law_worths"] (defScope s_law_due) := ⟨rfl, rfl, rfl, by decide +kernel, rfl, by decide +kernel, by decide +kernel⟩
abbrev s_law_many_right : Stmt := topS 29
abbrev N_law_many_right : List Str := ["_law_hand_here", "_law_word", "_law_many", "_law_worths", "_law_k", "_law_names", "_law_made", "_law_name", "_law_numbers", "_law_worth", "_law_due_here"]
theorem sc_law_many_right : FnScope N_law_many_right ["_law_hand_here"] (defScope s_law_many_right) := ⟨rfl, rfl, rfl, by decide +kernel, rfl, by decide +kernel, by decide +kernel⟩
abbrev s_law_pairs_right : Stmt := topS 30
abbrev N_law_pairs_right : List Str := ["_law_hand_here", "_law_one", "_law_other", "_law_third", "_law_a", "_law_b", "_law_c", "_law_stands", "_law_less", "_law_asks", "_law_due_here", "_law_made"]
theorem sc_law_pairs_right : FnScope N_law_pairs_right ["_law_hand_here"] (defScope s_law_pairs_right) := ⟨rfl, rfl, rfl, by decide +kernel, rfl, by decide +kernel, by decide +kernel⟩
abbrev s_law_each_right : Stmt := topS 31
abbrev N_law_each_right : List Str := ["_law_hand_here", "_law_many", "_law_by", "_law_inner", "_law_made", "_law_said", "_law_turn"]
theorem sc_law_each_right : FnScope N_law_each_right ["_law_hand_here"] (defScope s_law_each_right) := ⟨rfl, rfl, rfl, by decide +kernel, rfl, by decide +kernel, by decide +kernel⟩
abbrev s_law : Stmt := topS 32
abbrev N_law : List Str := ["_law_script", "_law_k", "_law_hand_here", "_law_turn"]
theorem sc_law : FnScope N_law ["_law_script"] (defScope s_law) := ⟨rfl, rfl, rfl, by decide +kernel, rfl, by decide +kernel, by decide +kernel⟩
structure Txt (K : PySem.W.Frag) (w : World) (mg : Str → Option Value) (fa : Nat → Addr) (fd : Nat → FuncData) : Prop where
  z_abs : mg "abs" = none
  z_all : mg "all" = none
  z_dict : mg "dict" = none
  z_int : mg "int" = none
  z_len : mg "len" = none
  z_max : mg "max" = none
  z_min : mg "min" = none
  z_range : mg "range" = none
  z_repr : mg "repr" = none
  z_sum : mg "sum" = none
  z_tuple : mg "tuple" = none
  z_zip : mg "zip" = none
  c_ROUNDS : GRep ⟨K, w, mg⟩ "ROUNDS" c_ROUNDS
  c_WAYS : GRep ⟨K, w, mg⟩ "WAYS" c_WAYS
  c_WHEEL : GRep ⟨K, w, mg⟩ "WHEEL" c_WHEEL
  g_rest_of : mg "rest_of" = some (.ref (fa 0))
  F_rest_of : FunD K "rest_of" "rest_of" (defArgs s_rest_of) (defBody s_rest_of) (defScope s_rest_of) [] [] (fa 0) (fd 0)
  g_with_name : mg "with_name" = some (.ref (fa 1))
  F_with_name : FunD K "with_name" "with_name" (defArgs s_with_name) (defBody s_with_name) (defScope s_with_name) [] [] (fa 1) (fd 1)
  g_num_worth : mg "num_worth" = some (.ref (fa 2))
  F_num_worth : FunD K "num_worth" "num_worth" (defArgs s_num_worth) (defBody s_num_worth) (defScope s_num_worth) [] [] (fa 2) (fd 2)
  g_name_worth : mg "name_worth" = some (.ref (fa 3))
  F_name_worth : FunD K "name_worth" "name_worth" (defArgs s_name_worth) (defBody s_name_worth) (defScope s_name_worth) [] [] (fa 3) (fd 3)
  g_plus_worth : mg "plus_worth" = some (.ref (fa 4))
  F_plus_worth : FunD K "plus_worth" "plus_worth" (defArgs s_plus_worth) (defBody s_plus_worth) (defScope s_plus_worth) [] [] (fa 4) (fd 4)
  g_times_worth : mg "times_worth" = some (.ref (fa 5))
  F_times_worth : FunD K "times_worth" "times_worth" (defArgs s_times_worth) (defBody s_times_worth) (defScope s_times_worth) [] [] (fa 5) (fd 5)
  g_most_worth : mg "most_worth" = some (.ref (fa 6))
  F_most_worth : FunD K "most_worth" "most_worth" (defArgs s_most_worth) (defBody s_most_worth) (defScope s_most_worth) [] [] (fa 6) (fd 6)
  g_less_worth : mg "less_worth" = some (.ref (fa 7))
  F_less_worth : FunD K "less_worth" "less_worth" (defArgs s_less_worth) (defBody s_less_worth) (defScope s_less_worth) [] [] (fa 7) (fd 7)
  g_below_worth : mg "below_worth" = some (.ref (fa 8))
  F_below_worth : FunD K "below_worth" "below_worth" (defArgs s_below_worth) (defBody s_below_worth) (defScope s_below_worth) [] [] (fa 8) (fd 8)
  g_if_worth : mg "if_worth" = some (.ref (fa 9))
  F_if_worth : FunD K "if_worth" "if_worth" (defArgs s_if_worth) (defBody s_if_worth) (defScope s_if_worth) [] [] (fa 9) (fd 9)
  g_say_worth : mg "say_worth" = some (.ref (fa 10))
  F_say_worth : FunD K "say_worth" "say_worth" (defArgs s_say_worth) (defBody s_say_worth) (defScope s_say_worth) [] [] (fa 10) (fd 10)
  g_row_worth : mg "row_worth" = some (.ref (fa 11))
  F_row_worth : FunD K "row_worth" "row_worth" (defArgs s_row_worth) (defBody s_row_worth) (defScope s_row_worth) [] [] (fa 11) (fd 11)
  g_let_worth : mg "let_worth" = some (.ref (fa 12))
  F_let_worth : FunD K "let_worth" "let_worth" (defArgs s_let_worth) (defBody s_let_worth) (defScope s_let_worth) [] [] (fa 12) (fd 12)
  g_each_worth : mg "each_worth" = some (.ref (fa 13))
  F_each_worth : FunD K "each_worth" "each_worth" (defArgs s_each_worth) (defBody s_each_worth) (defScope s_each_worth) [] [] (fa 13) (fd 13)
  F_Going___init__ : FunD K "__init__" "Going.__init__" (defArgs s_Going___init__) (defBody s_Going___init__) (defScope s_Going___init__) [] [] (fa 14) (fd 14)
  F_Going_worth : FunD K "worth" "Going.worth" (defArgs s_Going_worth) (defBody s_Going_worth) (defScope s_Going_worth) [] [] (fa 15) (fd 15)
  F_Going_part_worths : FunD K "part_worths" "Going.part_worths" (defArgs s_Going_part_worths) (defBody s_Going_part_worths) (defScope s_Going_part_worths) [] [] (fa 16) (fd 16)
  g_run : mg "run" = some (.ref (fa 17))
  F_run : FunD K "run" "run" (defArgs s_run) (defBody s_run) (defScope s_run) [] [] (fa 17) (fd 17)
  g_law_hand : mg "_law_hand" = some (.ref (fa 18))
  F_law_hand : FunD K "_law_hand" "_law_hand" (defArgs s_law_hand) (defBody s_law_hand) (defScope s_law_hand) [] [] (fa 18) (fd 18)
  g_law_take : mg "_law_take" = some (.ref (fa 19))
  F_law_take : FunD K "_law_take" "_law_take" (defArgs s_law_take) (defBody s_law_take) (defScope s_law_take) [] [] (fa 19) (fd 19)
  g_law_pick : mg "_law_pick" = some (.ref (fa 20))
  F_law_pick : FunD K "_law_pick" "_law_pick" (defArgs s_law_pick) (defBody s_law_pick) (defScope s_law_pick) [] [] (fa 20) (fd 20)
  g_law_number : mg "_law_number" = some (.ref (fa 21))
  F_law_number : FunD K "_law_number" "_law_number" (defArgs s_law_number) (defBody s_law_number) (defScope s_law_number) [] [] (fa 21) (fd 21)
  g_law_due : mg "_law_due" = some (.ref (fa 22))
  F_law_due : FunD K "_law_due" "_law_due" (defArgs s_law_due) (defBody s_law_due) (defScope s_law_due) [] [] (fa 22) (fd 22)
  g_law_many_right : mg "_law_many_right" = some (.ref (fa 23))
  F_law_many_right : FunD K "_law_many_right" "_law_many_right" (defArgs s_law_many_right) (defBody s_law_many_right) (defScope s_law_many_right) [] [] (fa 23) (fd 23)
  g_law_pairs_right : mg "_law_pairs_right" = some (.ref (fa 24))
  F_law_pairs_right : FunD K "_law_pairs_right" "_law_pairs_right" (defArgs s_law_pairs_right) (defBody s_law_pairs_right) (defScope s_law_pairs_right) [] [] (fa 24) (fd 24)
  g_law_each_right : mg "_law_each_right" = some (.ref (fa 25))
  F_law_each_right : FunD K "_law_each_right" "_law_each_right" (defArgs s_law_each_right) (defBody s_law_each_right) (defScope s_law_each_right) [] [] (fa 25) (fd 25)
  g_law : mg "law" = some (.ref (fa 26))
  F_law : FunD K "law" "law" (defArgs s_law) (defBody s_law) (defScope s_law) [] [] (fa 26) (fd 26)
  ca_Going : mg "Going" = some (.ref (fa 27))
  mk_Going___init__ : Mk K (fa 27) (fa 14)
  mt_Going_worth : ∃ C, mg "Going" = some (.ref C) ∧ Cls K C ∧ Meth K C "worth" (fa 15)
  mt_Going_part_worths : ∃ C, mg "Going" = some (.ref C) ∧ Cls K C ∧ Meth K C "part_worths" (fa 16)
  fo_told_aloud : FldOk ⟨K, w, mg⟩ ["Going"] "told_aloud"
section
variable {P : Program} {K : PySem.W.Frag} {w : World} {mg : Str → Option Value} {base : Heap} {fa : Nat → Addr} {fd : Nat → FuncData}
theorem Txt.bnd_rest_of (T : Txt K w mg fa fd) : Bnd ⟨K, w, mg⟩ (fd 0) ["number"] [] := bnd0 (T.F_rest_of.bindsN fun _ _ _ _ _ _ us hl => match us, hl with | [_], _ => rfl)
theorem Txt.bnd_with_name (T : Txt K w mg fa fd) : Bnd ⟨K, w, mg⟩ (fd 1) ["held", "name", "worth"] [] := bnd0 (T.F_with_name.bindsN fun _ _ _ _ _ _ us hl => match us, hl with | [_, _, _], _ => rfl)
theorem Txt.bnd_num_worth (T : Txt K w mg fa fd) : Bnd ⟨K, w, mg⟩ (fd 2) ["going", "thing", "held"] [] := bnd0 (T.F_num_worth.bindsN fun _ _ _ _ _ _ us hl => match us, hl with | [_, _, _], _ => rfl)
theorem Txt.bnd_name_worth (T : Txt K w mg fa fd) : Bnd ⟨K, w, mg⟩ (fd 3) ["going", "thing", "held"] [] := bnd0 (T.F_name_worth.bindsN fun _ _ _ _ _ _ us hl => match us, hl with | [_, _, _], _ => rfl)
theorem Txt.bnd_plus_worth (T : Txt K w mg fa fd) : Bnd ⟨K, w, mg⟩ (fd 4) ["going", "thing", "held"] [] := bnd0 (T.F_plus_worth.bindsN fun _ _ _ _ _ _ us hl => match us, hl with | [_, _, _], _ => rfl)
theorem Txt.bnd_times_worth (T : Txt K w mg fa fd) : Bnd ⟨K, w, mg⟩ (fd 5) ["going", "thing", "held"] [] := bnd0 (T.F_times_worth.bindsN fun _ _ _ _ _ _ us hl => match us, hl with | [_, _, _], _ => rfl)
theorem Txt.bnd_most_worth (T : Txt K w mg fa fd) : Bnd ⟨K, w, mg⟩ (fd 6) ["going", "thing", "held"] [] := bnd0 (T.F_most_worth.bindsN fun _ _ _ _ _ _ us hl => match us, hl with | [_, _, _], _ => rfl)
theorem Txt.bnd_less_worth (T : Txt K w mg fa fd) : Bnd ⟨K, w, mg⟩ (fd 7) ["going", "thing", "held"] [] := bnd0 (T.F_less_worth.bindsN fun _ _ _ _ _ _ us hl => match us, hl with | [_, _, _], _ => rfl)
theorem Txt.bnd_below_worth (T : Txt K w mg fa fd) : Bnd ⟨K, w, mg⟩ (fd 8) ["going", "thing", "held"] [] := bnd0 (T.F_below_worth.bindsN fun _ _ _ _ _ _ us hl => match us, hl with | [_, _, _], _ => rfl)
theorem Txt.bnd_if_worth (T : Txt K w mg fa fd) : Bnd ⟨K, w, mg⟩ (fd 9) ["going", "thing", "held"] [] := bnd0 (T.F_if_worth.bindsN fun _ _ _ _ _ _ us hl => match us, hl with | [_, _, _], _ => rfl)
theorem Txt.bnd_say_worth (T : Txt K w mg fa fd) : Bnd ⟨K, w, mg⟩ (fd 10) ["going", "thing", "held"] [] := bnd0 (T.F_say_worth.bindsN fun _ _ _ _ _ _ us hl => match us, hl with | [_, _, _], _ => rfl)
theorem Txt.bnd_row_worth (T : Txt K w mg fa fd) : Bnd ⟨K, w, mg⟩ (fd 11) ["going", "thing", "held"] [] := bnd0 (T.F_row_worth.bindsN fun _ _ _ _ _ _ us hl => match us, hl with | [_, _, _], _ => rfl)
theorem Txt.bnd_let_worth (T : Txt K w mg fa fd) : Bnd ⟨K, w, mg⟩ (fd 12) ["going", "thing", "held"] [] := bnd0 (T.F_let_worth.bindsN fun _ _ _ _ _ _ us hl => match us, hl with | [_, _, _], _ => rfl)
theorem Txt.bnd_each_worth (T : Txt K w mg fa fd) : Bnd ⟨K, w, mg⟩ (fd 13) ["going", "thing", "held"] [] := bnd0 (T.F_each_worth.bindsN fun _ _ _ _ _ _ us hl => match us, hl with | [_, _, _], _ => rfl)
theorem Txt.bnd_Going___init__ (T : Txt K w mg fa fd) : Bnd ⟨K, w, mg⟩ (fd 14) ["self"] [] := bnd0 (T.F_Going___init__.bindsN fun _ _ _ _ _ _ us hl => match us, hl with | [_], _ => rfl)
theorem Txt.bnd_Going_worth (T : Txt K w mg fa fd) : Bnd ⟨K, w, mg⟩ (fd 15) ["self", "thing", "held"] [] := bnd0 (T.F_Going_worth.bindsN fun _ _ _ _ _ _ us hl => match us, hl with | [_, _, _], _ => rfl)
theorem Txt.bnd_Going_part_worths (T : Txt K w mg fa fd) : Bnd ⟨K, w, mg⟩ (fd 16) ["self", "thing", "held"] [] := bnd0 (T.F_Going_part_worths.bindsN fun _ _ _ _ _ _ us hl => match us, hl with | [_, _, _], _ => rfl)
theorem Txt.bnd_run (T : Txt K w mg fa fd) : Bnd ⟨K, w, mg⟩ (fd 17) ["program", "inputs"] [] := bnd0 (T.F_run.bindsN fun _ _ _ _ _ _ us hl => match us, hl with | [_, _], _ => rfl)
theorem Txt.bnd_law_hand (T : Txt K w mg fa fd) : Bnd ⟨K, w, mg⟩ (fd 18) ["_law_script", "_law_k"] [] := bnd0 (T.F_law_hand.bindsN fun _ _ _ _ _ _ us hl => match us, hl with | [_, _], _ => rfl)
theorem Txt.bnd_law_take (T : Txt K w mg fa fd) : Bnd ⟨K, w, mg⟩ (fd 19) ["_law_hand_here", "_law_many"] [] := bnd0 (T.F_law_take.bindsN fun _ _ _ _ _ _ us hl => match us, hl with | [_, _], _ => rfl)
theorem Txt.bnd_law_pick (T : Txt K w mg fa fd) : Bnd ⟨K, w, mg⟩ (fd 20) ["_law_hand_here", "_law_some"] [] := bnd0 (T.F_law_pick.bindsN fun _ _ _ _ _ _ us hl => match us, hl with | [_, _], _ => rfl)
theorem Txt.bnd_law_number (T : Txt K w mg fa fd) : Bnd ⟨K, w, mg⟩ (fd 21) ["_law_hand_here"] [] := bnd0 (T.F_law_number.bindsN fun _ _ _ _ _ _ us hl => match us, hl with | [_], _ => rfl)
theorem Txt.bnd_law_due (T : Txt K w mg fa fd) : Bnd ⟨K, w, mg⟩ (fd 22) ["_law_word", "_law_worths"] [] := bnd0 (T.F_law_due.bindsN fun _ _ _ _ _ _ us hl => match us, hl with | [_, _], _ => rfl)
theorem Txt.bnd_law_many_right (T : Txt K w mg fa fd) : Bnd ⟨K, w, mg⟩ (fd 23) ["_law_hand_here"] [] := bnd0 (T.F_law_many_right.bindsN fun _ _ _ _ _ _ us hl => match us, hl with | [_], _ => rfl)
theorem Txt.bnd_law_pairs_right (T : Txt K w mg fa fd) : Bnd ⟨K, w, mg⟩ (fd 24) ["_law_hand_here"] [] := bnd0 (T.F_law_pairs_right.bindsN fun _ _ _ _ _ _ us hl => match us, hl with | [_], _ => rfl)
theorem Txt.bnd_law_each_right (T : Txt K w mg fa fd) : Bnd ⟨K, w, mg⟩ (fd 25) ["_law_hand_here"] [] := bnd0 (T.F_law_each_right.bindsN fun _ _ _ _ _ _ us hl => match us, hl with | [_], _ => rfl)
theorem Txt.bnd_law (T : Txt K w mg fa fd) : Bnd ⟨K, w, mg⟩ (fd 26) ["_law_script"] [] := bnd0 (T.F_law.bindsN fun _ _ _ _ _ _ us hl => match us, hl with | [_], _ => rfl)
end
theorem b_rest_of {P : Program} {K : PySem.W.Frag} {w : World} {mg : Str → Option Value} {base : Heap} {fa : Nat → Addr} {fd : Nat → FuncData} {F : Nat → FN} {k : Nat} (hM : ∃ o, base.get? sysModules = some o) (T : Txt K w mg fa fd) (cdv : Value) (A : Around) (outer : List Env) (s : Shared) (H : Hp) (E : XK)
    (hrM : RoomG (k + 1) (A.deeper (envOfC "rest_of" (defScope s_rest_of) s.heap.objs.size (fa 0) cdv))) :
    PSs (cxOf (L2.CX P w) P w K mg base N_rest_of "rest_of" (defScope s_rest_of) (fa 0) cdv A outer s H E) (defBody s_rest_of) (tS ⟨K, w, mg⟩ (m_rest_of F) (WE0 E)) :=
  have hr := hrM.mono (Nat.le_succ _)
  q_sone (q_ret (q_op o_mod c_mod (q_var (pv 0)) (q_cst T.c_WHEEL (by rfl) (by rfl))))
theorem b_with_name {P : Program} {K : PySem.W.Frag} {w : World} {mg : Str → Option Value} {base : Heap} {fa : Nat → Addr} {fd : Nat → FuncData} {F : Nat → FN} {k : Nat} (hM : ∃ o, base.get? sysModules = some o) (T : Txt K w mg fa fd) (cdv : Value) (A : Around) (outer : List Env) (s : Shared) (H : Hp) (E : XK)
    (hrM : RoomG (k + 1) (A.deeper (envOfC "with_name" (defScope s_with_name) s.heap.objs.size (fa 1) cdv))) :
    PSs (cxOf (L2.CX P w) P w K mg base N_with_name "with_name" (defScope s_with_name) (fa 1) cdv A outer s H E) (defBody s_with_name) (tS ⟨K, w, mg⟩ (m_with_name F) (WE0 E)) :=
  have hr := hrM.mono (Nat.le_succ _)
  q_scons (q_set (i := 3) sc_with_name.nd (by rfl) (.inl (by rfl)) (q_callTy o_dictO c_dictO (by rfl) T.z_dict b_dict (q_cons (q_var (pv 0)) (q_nil))))
    (q_scons (q_asg (q_var (pv 2)) (q_gsub (Wx := WE0 E) (u1 hr) (q_var (pv 3)) (q_var (pv 1))) (gn := gn_sub))
    (q_sone (q_ret (q_var (pv 3)))))
theorem b_num_worth {P : Program} {K : PySem.W.Frag} {w : World} {mg : Str → Option Value} {base : Heap} {fa : Nat → Addr} {fd : Nat → FuncData} {F : Nat → FN} {k : Nat} (hM : ∃ o, base.get? sysModules = some o) (T : Txt K w mg fa fd) (cdv : Value) (A : Around) (outer : List Env) (s : Shared) (H : Hp) (E : XK)
    (hrM : RoomG (k + 1) (A.deeper (envOfC "num_worth" (defScope s_num_worth) s.heap.objs.size (fa 2) cdv))) :
    PSs (cxOf (L2.CX P w) P w K mg base N_num_worth "num_worth" (defScope s_num_worth) (fa 2) cdv A outer s H E) (defBody s_num_worth) (tS ⟨K, w, mg⟩ (m_num_worth F) (WE0 E)) :=
  have hr := hrM.mono (Nat.le_succ _)
  q_sone (q_ret (q_ix (o_ix (by rfl) (by rfl) (u1 hr)) c_ix (q_var (pv 1)) (q_int) (fun _ _ => rfl)))
theorem b_name_worth {P : Program} {K : PySem.W.Frag} {w : World} {mg : Str → Option Value} {base : Heap} {fa : Nat → Addr} {fd : Nat → FuncData} {F : Nat → FN} {k : Nat} (hM : ∃ o, base.get? sysModules = some o) (T : Txt K w mg fa fd) (cdv : Value) (A : Around) (outer : List Env) (s : Shared) (H : Hp) (E : XK)
    (hrM : RoomG (k + 1) (A.deeper (envOfC "name_worth" (defScope s_name_worth) s.heap.objs.size (fa 3) cdv))) :
    PSs (cxOf (L2.CX P w) P w K mg base N_name_worth "name_worth" (defScope s_name_worth) (fa 3) cdv A outer s H E) (defBody s_name_worth) (tS ⟨K, w, mg⟩ (m_name_worth F) (WE0 E)) :=
  have hr := hrM.mono (Nat.le_succ _)
  q_scons (q_if (q_tcmp (o_notIn (by rfl) (by rfl) (u65 hr)) c_notIn (q_ix (o_ix (by rfl) (by rfl) (u1 hr)) c_ix (q_var (pv 1)) (q_int) (fun _ _ => rfl)) (q_var (pv 2)) (by rfl)) (q_sone (q_sbad)) (q_snil))
    (q_sone (q_ret (q_ix (o_ix (by rfl) (by rfl) (u1 hr)) c_ix (q_var (pv 2)) (q_ix (o_ix (by rfl) (by rfl) (u1 hr)) c_ix (q_var (pv 1)) (q_int) (fun _ _ => rfl)) (fun _ _ => rfl))))
theorem b_plus_worth {P : Program} {K : PySem.W.Frag} {w : World} {mg : Str → Option Value} {base : Heap} {fa : Nat → Addr} {fd : Nat → FuncData} {F : Nat → FN} {k : Nat} (hM : ∃ o, base.get? sysModules = some o) (T : Txt K w mg fa fd) (C_Going_part_worths : Mtd P w ⟨K, w, mg⟩ base k "Going" "part_worths" (fa 16) (fd 16) ["self", "thing", "held"] (F 16)) (C_rest_of : Cal P w ⟨K, w, mg⟩ base k "rest_of" (fa 0) (fd 0) ["number"] (F 0)) (cdv : Value) (A : Around) (outer : List Env) (s : Shared) (H : Hp) (E : XK)
    (hrM : RoomG (k + 1) (A.deeper (envOfC "plus_worth" (defScope s_plus_worth) s.heap.objs.size (fa 4) cdv))) :
    PSs (cxOf (L2.CX P w) P w K mg base N_plus_worth "plus_worth" (defScope s_plus_worth) (fa 4) cdv A outer s H E) (defBody s_plus_worth) (tS ⟨K, w, mg⟩ (m_plus_worth F) (WE0 E)) :=
  have hr := hrM.mono (Nat.le_succ _)
  q_sone (q_ret (q_fn C_rest_of T.bnd_rest_of hr (by rfl) (by rfl) (by rfl) tk_body (q_cons (q_callB (o_sum (by rfl)) c_sum (by rfl) T.z_sum b_sum (q_cons (q_meth C_Going_part_worths T.bnd_Going_part_worths hr (by rfl) (by rfl) tk_body (q_var (pv 0)) (q_cons (q_var (pv 1)) (q_cons (q_var (pv 2)) (q_nil)))) (q_nil))) (q_nil))))
theorem b_times_worth {P : Program} {K : PySem.W.Frag} {w : World} {mg : Str → Option Value} {base : Heap} {fa : Nat → Addr} {fd : Nat → FuncData} {F : Nat → FN} {k : Nat} (hM : ∃ o, base.get? sysModules = some o) (T : Txt K w mg fa fd) (C_Going_part_worths : Mtd P w ⟨K, w, mg⟩ base k "Going" "part_worths" (fa 16) (fd 16) ["self", "thing", "held"] (F 16)) (C_rest_of : Cal P w ⟨K, w, mg⟩ base k "rest_of" (fa 0) (fd 0) ["number"] (F 0)) (cdv : Value) (A : Around) (outer : List Env) (s : Shared) (H : Hp) (E : XK)
    (hrM : RoomG (k + 1) (A.deeper (envOfC "times_worth" (defScope s_times_worth) s.heap.objs.size (fa 5) cdv))) :
    PSs (cxOf (L2.CX P w) P w K mg base N_times_worth "times_worth" (defScope s_times_worth) (fa 5) cdv A outer s H E) (defBody s_times_worth) (tS ⟨K, w, mg⟩ (m_times_worth F) (WE0 E)) :=
  have hr := hrM.mono (Nat.le_succ _)
  q_scons (q_set (i := 3) sc_times_worth.nd (by rfl) (.inl (by rfl)) (q_int))
    (q_scons (q_for po_body (by rfl) (q_iter (by rfl) (q_meth C_Going_part_worths T.bnd_Going_part_worths hr (by rfl) (by rfl) tk_body (q_var (pv 0)) (q_cons (q_var (pv 1)) (q_cons (q_var (pv 2)) (q_nil))))) (q_gname (pg_name (i := 4) sc_times_worth.nd (by rfl) (.inl (by rfl)))) (q_sone (q_set (i := 3) sc_times_worth.nd (by rfl) (.inl (by rfl)) (q_fn C_rest_of T.bnd_rest_of hr (by rfl) (by rfl) (by rfl) tk_body (q_cons (q_op o_mul c_mul (q_var (pv 3)) (q_var (pv 4))) (q_nil))))))
    (q_sone (q_ret (q_var (pv 3)))))
theorem b_most_worth {P : Program} {K : PySem.W.Frag} {w : World} {mg : Str → Option Value} {base : Heap} {fa : Nat → Addr} {fd : Nat → FuncData} {F : Nat → FN} {k : Nat} (hM : ∃ o, base.get? sysModules = some o) (T : Txt K w mg fa fd) (C_Going_part_worths : Mtd P w ⟨K, w, mg⟩ base k "Going" "part_worths" (fa 16) (fd 16) ["self", "thing", "held"] (F 16)) (cdv : Value) (A : Around) (outer : List Env) (s : Shared) (H : Hp) (E : XK)
    (hrM : RoomG (k + 1) (A.deeper (envOfC "most_worth" (defScope s_most_worth) s.heap.objs.size (fa 6) cdv))) :
    PSs (cxOf (L2.CX P w) P w K mg base N_most_worth "most_worth" (defScope s_most_worth) (fa 6) cdv A outer s H E) (defBody s_most_worth) (tS ⟨K, w, mg⟩ (m_most_worth F) (WE0 E)) :=
  have hr := hrM.mono (Nat.le_succ _)
  q_sone (q_ret (q_callB (o_max (by rfl)) c_max (by rfl) T.z_max b_max (q_cons (q_meth C_Going_part_worths T.bnd_Going_part_worths hr (by rfl) (by rfl) tk_body (q_var (pv 0)) (q_cons (q_var (pv 1)) (q_cons (q_var (pv 2)) (q_nil)))) (q_nil))))
theorem b_less_worth {P : Program} {K : PySem.W.Frag} {w : World} {mg : Str → Option Value} {base : Heap} {fa : Nat → Addr} {fd : Nat → FuncData} {F : Nat → FN} {k : Nat} (hM : ∃ o, base.get? sysModules = some o) (T : Txt K w mg fa fd) (C_Going_part_worths : Mtd P w ⟨K, w, mg⟩ base k "Going" "part_worths" (fa 16) (fd 16) ["self", "thing", "held"] (F 16)) (C_rest_of : Cal P w ⟨K, w, mg⟩ base k "rest_of" (fa 0) (fd 0) ["number"] (F 0)) (cdv : Value) (A : Around) (outer : List Env) (s : Shared) (H : Hp) (E : XK)
    (hrM : RoomG (k + 1) (A.deeper (envOfC "less_worth" (defScope s_less_worth) s.heap.objs.size (fa 7) cdv))) :
    PSs (cxOf (L2.CX P w) P w K mg base N_less_worth "less_worth" (defScope s_less_worth) (fa 7) cdv A outer s H E) (defBody s_less_worth) (tS ⟨K, w, mg⟩ (m_less_worth F) (WE0 E)) :=
  have hr := hrM.mono (Nat.le_succ _)
  q_scons (q_asg (q_meth C_Going_part_worths T.bnd_Going_part_worths hr (by rfl) (by rfl) tk_body (q_var (pv 0)) (q_cons (q_var (pv 1)) (q_cons (q_var (pv 2)) (q_nil)))) (q_gseq (by rfl) (by rfl) (q_gscons (pg_name (i := 3) sc_less_worth.nd (by rfl) (.inl (by rfl))) (q_gscons (pg_name (i := 4) sc_less_worth.nd (by rfl) (.inl (by rfl))) (q_gsnil)))) (gn := gn_seq))
    (q_sone (q_ret (q_fn C_rest_of T.bnd_rest_of hr (by rfl) (by rfl) (by rfl) tk_body (q_cons (q_op o_sub c_sub (q_var (pv 3)) (q_var (pv 4))) (q_nil)))))
theorem b_below_worth {P : Program} {K : PySem.W.Frag} {w : World} {mg : Str → Option Value} {base : Heap} {fa : Nat → Addr} {fd : Nat → FuncData} {F : Nat → FN} {k : Nat} (hM : ∃ o, base.get? sysModules = some o) (T : Txt K w mg fa fd) (C_Going_part_worths : Mtd P w ⟨K, w, mg⟩ base k "Going" "part_worths" (fa 16) (fd 16) ["self", "thing", "held"] (F 16)) (cdv : Value) (A : Around) (outer : List Env) (s : Shared) (H : Hp) (E : XK)
    (hrM : RoomG (k + 1) (A.deeper (envOfC "below_worth" (defScope s_below_worth) s.heap.objs.size (fa 8) cdv))) :
    PSs (cxOf (L2.CX P w) P w K mg base N_below_worth "below_worth" (defScope s_below_worth) (fa 8) cdv A outer s H E) (defBody s_below_worth) (tS ⟨K, w, mg⟩ (m_below_worth F) (WE0 E)) :=
  have hr := hrM.mono (Nat.le_succ _)
  q_scons (q_asg (q_meth C_Going_part_worths T.bnd_Going_part_worths hr (by rfl) (by rfl) tk_body (q_var (pv 0)) (q_cons (q_var (pv 1)) (q_cons (q_var (pv 2)) (q_nil)))) (q_gseq (by rfl) (by rfl) (q_gscons (pg_name (i := 3) sc_below_worth.nd (by rfl) (.inl (by rfl))) (q_gscons (pg_name (i := 4) sc_below_worth.nd (by rfl) (.inl (by rfl))) (q_gsnil)))) (gn := gn_seq))
    (q_sone (q_ret (q_callTy o_int c_int (by rfl) T.z_int b_int (q_cons (q_cmp o_lt c_lt (q_var (pv 3)) (q_var (pv 4)) (nomark _)) (q_nil)))))
theorem b_if_worth {P : Program} {K : PySem.W.Frag} {w : World} {mg : Str → Option Value} {base : Heap} {fa : Nat → Addr} {fd : Nat → FuncData} {F : Nat → FN} {k : Nat} (hM : ∃ o, base.get? sysModules = some o) (T : Txt K w mg fa fd) (C_Going_worth : Mtd P w ⟨K, w, mg⟩ base k "Going" "worth" (fa 15) (fd 15) ["self", "thing", "held"] (F 15)) (cdv : Value) (A : Around) (outer : List Env) (s : Shared) (H : Hp) (E : XK)
    (hrM : RoomG (k + 1) (A.deeper (envOfC "if_worth" (defScope s_if_worth) s.heap.objs.size (fa 9) cdv))) :
    PSs (cxOf (L2.CX P w) P w K mg base N_if_worth "if_worth" (defScope s_if_worth) (fa 9) cdv A outer s H E) (defBody s_if_worth) (tS ⟨K, w, mg⟩ (m_if_worth F) (WE0 E)) :=
  have hr := hrM.mono (Nat.le_succ _)
  q_scons (q_asg (q_ix (o_ix (by rfl) (by rfl) (u1 hr)) c_ix (q_var (pv 1)) (q_int) (fun _ _ => rfl)) (q_gtup (by rfl) (by rfl) (q_gscons (pg_name (i := 3) sc_if_worth.nd (by rfl) (.inl (by rfl))) (q_gscons (pg_name (i := 4) sc_if_worth.nd (by rfl) (.inl (by rfl))) (q_gscons (pg_name (i := 5) sc_if_worth.nd (by rfl) (.inl (by rfl))) (q_gsnil))))) (gn := gn_tup))
    (q_sone (q_ret (q_meth C_Going_worth T.bnd_Going_worth hr (by rfl) (by rfl) tk_body (q_var (pv 0)) (q_cons (q_ifExp (q_tcmp (o_ne (by rfl) hr.units) c_ne (q_meth C_Going_worth T.bnd_Going_worth hr (by rfl) (by rfl) tk_body (q_var (pv 0)) (q_cons (q_var (pv 3)) (q_cons (q_var (pv 2)) (q_nil)))) (q_int) (nomark _)) (q_var (pv 4)) (q_var (pv 5))) (q_cons (q_var (pv 2)) (q_nil))))))
theorem b_say_worth {P : Program} {K : PySem.W.Frag} {w : World} {mg : Str → Option Value} {base : Heap} {fa : Nat → Addr} {fd : Nat → FuncData} {F : Nat → FN} {k : Nat} (hM : ∃ o, base.get? sysModules = some o) (T : Txt K w mg fa fd) (C_Going_worth : Mtd P w ⟨K, w, mg⟩ base k "Going" "worth" (fa 15) (fd 15) ["self", "thing", "held"] (F 15)) (cdv : Value) (A : Around) (outer : List Env) (s : Shared) (H : Hp) (E : XK)
    (hrM : RoomG (k + 1) (A.deeper (envOfC "say_worth" (defScope s_say_worth) s.heap.objs.size (fa 10) cdv))) :
    PSs (cxOf (L2.CX P w) P w K mg base N_say_worth "say_worth" (defScope s_say_worth) (fa 10) cdv A outer s H E) (defBody s_say_worth) (tS ⟨K, w, mg⟩ (m_say_worth F) (WE0 E)) :=
  have hr := hrM.mono (Nat.le_succ _)
  q_scons (q_set (i := 3) sc_say_worth.nd (by rfl) (.inl (by rfl)) (q_meth C_Going_worth T.bnd_Going_worth hr (by rfl) (by rfl) tk_body (q_var (pv 0)) (q_cons (q_ix (o_ix (by rfl) (by rfl) (u1 hr)) c_ix (q_ix (o_ix (by rfl) (by rfl) (u1 hr)) c_ix (q_var (pv 1)) (q_int) (fun _ _ => rfl)) (q_int) (fun _ _ => rfl)) (q_cons (q_var (pv 2)) (q_nil)))))
    (q_scons (q_expr (q_bm (by rfl) PySem.F.plainAttrs_list PySem.F.slot_list_append PySem.F.type_list_append o_append c_append (q_fld (by rfl) T.fo_told_aloud (q_var (pv 0))) (q_cons (q_var (pv 3)) (q_nil))))
    (q_sone (q_ret (q_var (pv 3)))))
theorem b_row_worth {P : Program} {K : PySem.W.Frag} {w : World} {mg : Str → Option Value} {base : Heap} {fa : Nat → Addr} {fd : Nat → FuncData} {F : Nat → FN} {k : Nat} (hM : ∃ o, base.get? sysModules = some o) (T : Txt K w mg fa fd) (C_Going_part_worths : Mtd P w ⟨K, w, mg⟩ base k "Going" "part_worths" (fa 16) (fd 16) ["self", "thing", "held"] (F 16)) (cdv : Value) (A : Around) (outer : List Env) (s : Shared) (H : Hp) (E : XK)
    (hrM : RoomG (k + 1) (A.deeper (envOfC "row_worth" (defScope s_row_worth) s.heap.objs.size (fa 11) cdv))) :
    PSs (cxOf (L2.CX P w) P w K mg base N_row_worth "row_worth" (defScope s_row_worth) (fa 11) cdv A outer s H E) (defBody s_row_worth) (tS ⟨K, w, mg⟩ (m_row_worth F) (WE0 E)) :=
  have hr := hrM.mono (Nat.le_succ _)
  q_scons (q_asg (q_op (o_add (by rfl)) c_add (q_lst (q_cons (q_int) (q_nil))) (q_meth C_Going_part_worths T.bnd_Going_part_worths hr (by rfl) (by rfl) tk_body (q_var (pv 0)) (q_cons (q_var (pv 1)) (q_cons (q_var (pv 2)) (q_nil))))) (q_gstar (i := 0) (by rfl) (by rfl) (q_gsstar (pg_name (i := 3) sc_row_worth.nd (by rfl) (.inl (by rfl))) (q_gscons (pg_name (i := 4) sc_row_worth.nd (by rfl) (.inl (by rfl))) (q_gsnil)))) (gn := gn_star))
    (q_sone (q_ret (q_var (pv 4))))
theorem b_let_worth {P : Program} {K : PySem.W.Frag} {w : World} {mg : Str → Option Value} {base : Heap} {fa : Nat → Addr} {fd : Nat → FuncData} {F : Nat → FN} {k : Nat} (hM : ∃ o, base.get? sysModules = some o) (T : Txt K w mg fa fd) (C_Going_worth : Mtd P w ⟨K, w, mg⟩ base k "Going" "worth" (fa 15) (fd 15) ["self", "thing", "held"] (F 15)) (C_with_name : Cal P w ⟨K, w, mg⟩ base k "with_name" (fa 1) (fd 1) ["held", "name", "worth"] (F 1)) (cdv : Value) (A : Around) (outer : List Env) (s : Shared) (H : Hp) (E : XK)
    (hrM : RoomG (k + 1) (A.deeper (envOfC "let_worth" (defScope s_let_worth) s.heap.objs.size (fa 12) cdv))) :
    PSs (cxOf (L2.CX P w) P w K mg base N_let_worth "let_worth" (defScope s_let_worth) (fa 12) cdv A outer s H E) (defBody s_let_worth) (tS ⟨K, w, mg⟩ (m_let_worth F) (WE0 E)) :=
  have hr := hrM.mono (Nat.le_succ _)
  q_scons (q_asg (q_ix (o_ix (by rfl) (by rfl) (u1 hr)) c_ix (q_var (pv 1)) (q_int) (fun _ _ => rfl)) (q_gtup (by rfl) (by rfl) (q_gscons (pg_name (i := 3) sc_let_worth.nd (by rfl) (.inl (by rfl))) (q_gscons (pg_name (i := 4) sc_let_worth.nd (by rfl) (.inl (by rfl))) (q_gsnil)))) (gn := gn_tup))
    (q_sone (q_ret (q_meth C_Going_worth T.bnd_Going_worth hr (by rfl) (by rfl) tk_body (q_var (pv 0)) (q_cons (q_var (pv 4)) (q_cons (q_fn C_with_name T.bnd_with_name hr (by rfl) (by rfl) (by rfl) tk_body (q_cons (q_var (pv 2)) (q_cons (q_ix (o_ix (by rfl) (by rfl) (u1 hr)) c_ix (q_var (pv 1)) (q_int) (fun _ _ => rfl)) (q_cons (q_meth C_Going_worth T.bnd_Going_worth hr (by rfl) (by rfl) tk_body (q_var (pv 0)) (q_cons (q_var (pv 3)) (q_cons (q_var (pv 2)) (q_nil)))) (q_nil))))) (q_nil))))))
theorem b_each_worth {P : Program} {K : PySem.W.Frag} {w : World} {mg : Str → Option Value} {base : Heap} {fa : Nat → Addr} {fd : Nat → FuncData} {F : Nat → FN} {k : Nat} (hM : ∃ o, base.get? sysModules = some o) (T : Txt K w mg fa fd) (C_Going_worth : Mtd P w ⟨K, w, mg⟩ base k "Going" "worth" (fa 15) (fd 15) ["self", "thing", "held"] (F 15)) (C_with_name : Cal P w ⟨K, w, mg⟩ base k "with_name" (fa 1) (fd 1) ["held", "name", "worth"] (F 1)) (cdv : Value) (A : Around) (outer : List Env) (s : Shared) (H : Hp) (E : XK)
    (hrM : RoomG (k + 1) (A.deeper (envOfC "each_worth" (defScope s_each_worth) s.heap.objs.size (fa 13) cdv))) :
    PSs (cxOf (L2.CX P w) P w K mg base N_each_worth "each_worth" (defScope s_each_worth) (fa 13) cdv A outer s H E) (defBody s_each_worth) (tS ⟨K, w, mg⟩ (m_each_worth F) (WE0 E)) :=
  have hr := hrM.mono (Nat.le_succ _)
  q_scons (q_asg (q_ix (o_ix (by rfl) (by rfl) (u1 hr)) c_ix (q_var (pv 1)) (q_int) (fun _ _ => rfl)) (q_gtup (by rfl) (by rfl) (q_gscons (pg_name (i := 3) sc_each_worth.nd (by rfl) (.inl (by rfl))) (q_gscons (pg_name (i := 4) sc_each_worth.nd (by rfl) (.inl (by rfl))) (q_gsnil)))) (gn := gn_tup))
    (q_scons (q_set (i := 5) sc_each_worth.nd (by rfl) (.inl (by rfl)) (q_int))
    (q_scons (q_for po_body (by rfl) (q_range1 (by rfl) T.z_range (q_cons (q_op o_mod c_mod (q_meth C_Going_worth T.bnd_Going_worth hr (by rfl) (by rfl) tk_body (q_var (pv 0)) (q_cons (q_var (pv 3)) (q_cons (q_var (pv 2)) (q_nil)))) (q_cst T.c_ROUNDS (by rfl) (by rfl))) (q_nil))) (q_gname (pg_name (i := 6) sc_each_worth.nd (by rfl) (.inl (by rfl)))) (q_sone (q_set (i := 5) sc_each_worth.nd (by rfl) (.inl (by rfl)) (q_meth C_Going_worth T.bnd_Going_worth hr (by rfl) (by rfl) tk_body (q_var (pv 0)) (q_cons (q_var (pv 4)) (q_cons (q_fn C_with_name T.bnd_with_name hr (by rfl) (by rfl) (by rfl) tk_body (q_cons (q_var (pv 2)) (q_cons (q_ix (o_ix (by rfl) (by rfl) (u1 hr)) c_ix (q_var (pv 1)) (q_int) (fun _ _ => rfl)) (q_cons (q_var (pv 6)) (q_nil))))) (q_nil)))))))
    (q_sone (q_ret (q_var (pv 5))))))
theorem b_Going___init__ {P : Program} {K : PySem.W.Frag} {w : World} {mg : Str → Option Value} {base : Heap} {fa : Nat → Addr} {fd : Nat → FuncData} {F : Nat → FN} {k : Nat} (hM : ∃ o, base.get? sysModules = some o) (T : Txt K w mg fa fd) (cdv : Value) (A : Around) (outer : List Env) (s : Shared) (H : Hp) (E : XK)
    (hrM : RoomG (k + 1) (A.deeper (envOfC "Going.__init__" (defScope s_Going___init__) s.heap.objs.size (fa 14) cdv))) :
    PSs (cxOf (L2.CX P w) P w K mg base N_Going___init__ "Going.__init__" (defScope s_Going___init__) (fa 14) cdv A outer s H E) (defBody s_Going___init__) (tS ⟨K, w, mg⟩ (m_Going___init__ F) (WE0 E)) :=
  have hr := hrM.mono (Nat.le_succ _)
  q_sone (q_sfld (by rfl) T.fo_told_aloud (q_var (pv 0)) (q_obj (q_nil)))
theorem b_Going_worth {P : Program} {K : PySem.W.Frag} {w : World} {mg : Str → Option Value} {base : Heap} {fa : Nat → Addr} {fd : Nat → FuncData} {F : Nat → FN} {k : Nat} (hM : ∃ o, base.get? sysModules = some o) (T : Txt K w mg fa fd) (C_below_worth : Cal P w ⟨K, w, mg⟩ base k "below_worth" (fa 8) (fd 8) ["going", "thing", "held"] (F 8)) (C_each_worth : Cal P w ⟨K, w, mg⟩ base k "each_worth" (fa 13) (fd 13) ["going", "thing", "held"] (F 13)) (C_if_worth : Cal P w ⟨K, w, mg⟩ base k "if_worth" (fa 9) (fd 9) ["going", "thing", "held"] (F 9)) (C_less_worth : Cal P w ⟨K, w, mg⟩ base k "less_worth" (fa 7) (fd 7) ["going", "thing", "held"] (F 7)) (C_let_worth : Cal P w ⟨K, w, mg⟩ base k "let_worth" (fa 12) (fd 12) ["going", "thing", "held"] (F 12)) (C_most_worth : Cal P w ⟨K, w, mg⟩ base k "most_worth" (fa 6) (fd 6) ["going", "thing", "held"] (F 6)) (C_name_worth : Cal P w ⟨K, w, mg⟩ base k "name_worth" (fa 3) (fd 3) ["going", "thing", "held"] (F 3)) (C_num_worth : Cal P w ⟨K, w, mg⟩ base k "num_worth" (fa 2) (fd 2) ["going", "thing", "held"] (F 2)) (C_plus_worth : Cal P w ⟨K, w, mg⟩ base k "plus_worth" (fa 4) (fd 4) ["going", "thing", "held"] (F 4)) (C_row_worth : Cal P w ⟨K, w, mg⟩ base k "row_worth" (fa 11) (fd 11) ["going", "thing", "held"] (F 11)) (C_say_worth : Cal P w ⟨K, w, mg⟩ base k "say_worth" (fa 10) (fd 10) ["going", "thing", "held"] (F 10)) (C_times_worth : Cal P w ⟨K, w, mg⟩ base k "times_worth" (fa 5) (fd 5) ["going", "thing", "held"] (F 5)) (cdv : Value) (A : Around) (outer : List Env) (s : Shared) (H : Hp) (E : XK)
    (hrM : RoomG (k + 1) (A.deeper (envOfC "Going.worth" (defScope s_Going_worth) s.heap.objs.size (fa 15) cdv))) :
    PSs (cxOf (L2.CX P w) P w K mg base N_Going_worth "Going.worth" (defScope s_Going_worth) (fa 15) cdv A outer s H E) (defBody s_Going_worth) (tS ⟨K, w, mg⟩ (m_Going_worth F) (WE0 E)) :=
  have hr := hrM.mono (Nat.le_succ _)
  q_scons (q_set (i := 3) sc_Going_worth.nd (by rfl) (.inl (by rfl)) (q_ix (o_ix (by rfl) (by rfl) (u1 hr)) c_ix (q_cst T.c_WAYS (by rfl) (by rfl)) (q_ix (o_ix (by rfl) (by rfl) (u1 hr)) c_ix (q_var (pv 1)) (q_int) (fun _ _ => rfl)) (fun _ _ => rfl)))
    (q_sone (q_ret (q_alt (q_fnL C_num_worth T.bnd_num_worth hr (by rfl) (by rfl) (by rfl) (by first | exact .inl rfl | exact .inr (.inl rfl) | exact .inr (.inr rfl)) tk_body (q_cons (q_var (pv 0)) (q_cons (q_var (pv 1)) (q_cons (q_var (pv 2)) (q_nil))))) (q_alt (q_fnL C_name_worth T.bnd_name_worth hr (by rfl) (by rfl) (by rfl) (by first | exact .inl rfl | exact .inr (.inl rfl) | exact .inr (.inr rfl)) tk_body (q_cons (q_var (pv 0)) (q_cons (q_var (pv 1)) (q_cons (q_var (pv 2)) (q_nil))))) (q_alt (q_fnL C_plus_worth T.bnd_plus_worth hr (by rfl) (by rfl) (by rfl) (by first | exact .inl rfl | exact .inr (.inl rfl) | exact .inr (.inr rfl)) tk_body (q_cons (q_var (pv 0)) (q_cons (q_var (pv 1)) (q_cons (q_var (pv 2)) (q_nil))))) (q_alt (q_fnL C_times_worth T.bnd_times_worth hr (by rfl) (by rfl) (by rfl) (by first | exact .inl rfl | exact .inr (.inl rfl) | exact .inr (.inr rfl)) tk_body (q_cons (q_var (pv 0)) (q_cons (q_var (pv 1)) (q_cons (q_var (pv 2)) (q_nil))))) (q_alt (q_fnL C_most_worth T.bnd_most_worth hr (by rfl) (by rfl) (by rfl) (by first | exact .inl rfl | exact .inr (.inl rfl) | exact .inr (.inr rfl)) tk_body (q_cons (q_var (pv 0)) (q_cons (q_var (pv 1)) (q_cons (q_var (pv 2)) (q_nil))))) (q_alt (q_fnL C_less_worth T.bnd_less_worth hr (by rfl) (by rfl) (by rfl) (by first | exact .inl rfl | exact .inr (.inl rfl) | exact .inr (.inr rfl)) tk_body (q_cons (q_var (pv 0)) (q_cons (q_var (pv 1)) (q_cons (q_var (pv 2)) (q_nil))))) (q_alt (q_fnL C_below_worth T.bnd_below_worth hr (by rfl) (by rfl) (by rfl) (by first | exact .inl rfl | exact .inr (.inl rfl) | exact .inr (.inr rfl)) tk_body (q_cons (q_var (pv 0)) (q_cons (q_var (pv 1)) (q_cons (q_var (pv 2)) (q_nil))))) (q_alt (q_fnL C_if_worth T.bnd_if_worth hr (by rfl) (by rfl) (by rfl) (by first | exact .inl rfl | exact .inr (.inl rfl) | exact .inr (.inr rfl)) tk_body (q_cons (q_var (pv 0)) (q_cons (q_var (pv 1)) (q_cons (q_var (pv 2)) (q_nil))))) (q_alt (q_fnL C_say_worth T.bnd_say_worth hr (by rfl) (by rfl) (by rfl) (by first | exact .inl rfl | exact .inr (.inl rfl) | exact .inr (.inr rfl)) tk_body (q_cons (q_var (pv 0)) (q_cons (q_var (pv 1)) (q_cons (q_var (pv 2)) (q_nil))))) (q_alt (q_fnL C_row_worth T.bnd_row_worth hr (by rfl) (by rfl) (by rfl) (by first | exact .inl rfl | exact .inr (.inl rfl) | exact .inr (.inr rfl)) tk_body (q_cons (q_var (pv 0)) (q_cons (q_var (pv 1)) (q_cons (q_var (pv 2)) (q_nil))))) (q_alt (q_fnL C_let_worth T.bnd_let_worth hr (by rfl) (by rfl) (by rfl) (by first | exact .inl rfl | exact .inr (.inl rfl) | exact .inr (.inr rfl)) tk_body (q_cons (q_var (pv 0)) (q_cons (q_var (pv 1)) (q_cons (q_var (pv 2)) (q_nil))))) (q_fnL C_each_worth T.bnd_each_worth hr (by rfl) (by rfl) (by rfl) (by first | exact .inl rfl | exact .inr (.inl rfl) | exact .inr (.inr rfl)) tk_body (q_cons (q_var (pv 0)) (q_cons (q_var (pv 1)) (q_cons (q_var (pv 2)) (q_nil))))))))))))))))))
theorem b_Going_part_worths {P : Program} {K : PySem.W.Frag} {w : World} {mg : Str → Option Value} {base : Heap} {fa : Nat → Addr} {fd : Nat → FuncData} {F : Nat → FN} {k : Nat} (hM : ∃ o, base.get? sysModules = some o) (T : Txt K w mg fa fd) (C_Going_worth : Mtd P w ⟨K, w, mg⟩ base k "Going" "worth" (fa 15) (fd 15) ["self", "thing", "held"] (F 15)) (cdv : Value) (A : Around) (outer : List Env) (s : Shared) (H : Hp) (E : XK)
    (hrM : RoomG (k + 1) (A.deeper (envOfC "Going.part_worths" (defScope s_Going_part_worths) s.heap.objs.size (fa 16) cdv))) :
    PSs (cxOf (L2.CX P w) P w K mg base N_Going_part_worths "Going.part_worths" (defScope s_Going_part_worths) (fa 16) cdv A outer s H E) (defBody s_Going_part_worths) (tS ⟨K, w, mg⟩ (m_Going_part_worths F) (WE0 E)) :=
  have hr := hrM.mono (Nat.le_succ _)
  q_sone (q_ret (q_lc (own := [("part", 3)]) (by rfl) sc_Going_part_worths.nd (q_iter (by rfl) (q_ix (o_ix (by rfl) (by rfl) (u1 hr)) c_ix (q_var (pv 1)) (q_int) (fun _ _ => rfl))) (blkOk_by (own := [("part", 3)]) (N := N_Going_part_worths) (sc := defScope s_Going_part_worths) (by decide +kernel)) (fun _ _ _ _ _ => q_gnameW (pg_name (i := 3) sc_Going_part_worths.nd (by rfl) (.inl (by rfl))) (by decide)) (fun _ _ _ _ _ => q_tnil) (fun _ _ _ _ _ => q_meth C_Going_worth T.bnd_Going_worth hr (by rfl) (by rfl) tk_blk (q_var (pv 0)) (q_cons (q_var (pv 3)) (q_cons (q_var (pv 2)) (q_nil))))))
theorem b_run {P : Program} {K : PySem.W.Frag} {w : World} {mg : Str → Option Value} {base : Heap} {fa : Nat → Addr} {fd : Nat → FuncData} {F : Nat → FN} {k : Nat} (hM : ∃ o, base.get? sysModules = some o) (T : Txt K w mg fa fd) (C_Going___init__ : Mak P w ⟨K, w, mg⟩ base k "Going" (fa 27) (fa 14) (fd 14) ["self"] (F 14)) (C_Going_worth : Mtd P w ⟨K, w, mg⟩ base k "Going" "worth" (fa 15) (fd 15) ["self", "thing", "held"] (F 15)) (cdv : Value) (A : Around) (outer : List Env) (s : Shared) (H : Hp) (E : XK)
    (hrM : RoomG (k + 1) (A.deeper (envOfC "run" (defScope s_run) s.heap.objs.size (fa 17) cdv))) :
    PSs (cxOf (L2.CX P w) P w K mg base N_run "run" (defScope s_run) (fa 17) cdv A outer s H E) (defBody s_run) (tS ⟨K, w, mg⟩ (m_run F) (WE0 E)) :=
  have hr := hrM.mono (Nat.le_succ _)
  q_scons (q_set (i := 2) sc_run.nd (by rfl) (.inl (by rfl)) (q_make0 C_Going___init__ T.bnd_Going___init__ hrM (by rfl) (by rfl) (by rfl) tk_body))
    (q_scons (q_set (i := 3) sc_run.nd (by rfl) (.inl (by rfl)) (q_meth C_Going_worth T.bnd_Going_worth hr (by rfl) (by rfl) tk_body (q_var (pv 2)) (q_cons (q_var (pv 0)) (q_cons (q_dc (own := [("name", 4), ("told", 5)]) (by rfl) sc_run.nd (q_iter (by rfl) (q_var (pv 1))) (blkOk_by (own := [("name", 4), ("told", 5)]) (N := N_run) (sc := defScope s_run) (by decide +kernel)) (fun _ _ _ _ _ => q_gtupW (by rfl) (by rfl) (q_gscW (pg_name (i := 4) sc_run.nd (by rfl) (.inl (by rfl))) (q_gscW (pg_name (i := 5) sc_run.nd (by rfl) (.inl (by rfl))) (q_gsnW)))) (fun _ _ _ _ _ => q_tnil) (fun _ _ _ _ _ => q_var (pv 4)) (fun _ _ _ _ _ => q_var (pv 5))) (q_nil)))))
    (q_sone (q_ret (q_tup (q_cons (q_var (pv 3)) (q_cons (q_callTy (o_tuple (by rfl)) c_tuple (by rfl) T.z_tuple b_tuple (q_cons (q_fld (by rfl) T.fo_told_aloud (q_var (pv 2))) (q_nil))) (q_nil)))))))
theorem b_law_hand {P : Program} {K : PySem.W.Frag} {w : World} {mg : Str → Option Value} {base : Heap} {fa : Nat → Addr} {fd : Nat → FuncData} {F : Nat → FN} {k : Nat} (hM : ∃ o, base.get? sysModules = some o) (T : Txt K w mg fa fd) (cdv : Value) (A : Around) (outer : List Env) (s : Shared) (H : Hp) (E : XK)
    (hrM : RoomG (k + 1) (A.deeper (envOfC "_law_hand" (defScope s_law_hand) s.heap.objs.size (fa 18) cdv))) :
    PSs (cxOf (L2.CX P w) P w K mg base N_law_hand "_law_hand" (defScope s_law_hand) (fa 18) cdv A outer s H E) (defBody s_law_hand) (tS ⟨K, w, mg⟩ (m_law_hand F) (WE0 E)) :=
  have hr := hrM.mono (Nat.le_succ _)
  q_scons (q_set (i := 2) sc_law_hand.nd (by rfl) (.inl (by rfl)) (q_op (o_add (by rfl)) c_add (q_op o_mul c_mul (q_int) (q_var (pv 1))) (q_callB (o_len (by rfl)) c_len (by rfl) T.z_len b_len (q_cons (q_var (pv 0)) (q_nil)))))
    (q_scons (q_if (q_tcmp o_lt c_lt (q_var (pv 1)) (q_callB (o_len (by rfl)) c_len (by rfl) T.z_len b_len (q_cons (q_var (pv 0)) (q_nil))) (nomark _)) (q_sone (q_set (i := 2) sc_law_hand.nd (by rfl) (.inl (by rfl)) (q_ix (o_ix (by rfl) (by rfl) (u1 hr)) c_ix (q_var (pv 0)) (q_var (pv 1)) (fun _ _ => rfl)))) (q_snil))
    (q_scons (q_set (i := 3) sc_law_hand.nd (by rfl) (.inl (by rfl)) (q_op o_mul c_mul (q_op o_mod c_mod (q_callB o_abs c_abs (by rfl) T.z_abs b_abs (q_cons (q_var (pv 2)) (q_nil))) (q_op o_pow c_pow (q_op o_pow c_pow (q_int) (q_int)) (q_int))) (q_callTy o_int c_int (by rfl) T.z_int b_int (q_cons (q_cmp o_ge c_ge (q_callB o_abs c_abs (by rfl) T.z_abs b_abs (q_cons (q_var (pv 2)) (q_nil))) (q_op o_pow c_pow (q_int) (q_int)) (nomark _)) (q_nil)))))
    (q_sone (q_ret (q_obj (q_cons (q_var (pv 3)) (q_cons (q_op o_mod c_mod (q_op o_mul c_mul (q_op (o_add (by rfl)) c_add (q_op (o_add (by rfl)) c_add (q_op o_mod c_mod (q_var (pv 2)) (q_int)) (q_op o_mul c_mul (q_op o_mul c_mul (q_int) (q_var (pv 1))) (q_var (pv 1)))) (q_int)) (q_int)) (q_int)) (q_nil))))))))
theorem b_law_take {P : Program} {K : PySem.W.Frag} {w : World} {mg : Str → Option Value} {base : Heap} {fa : Nat → Addr} {fd : Nat → FuncData} {F : Nat → FN} {k : Nat} (hM : ∃ o, base.get? sysModules = some o) (T : Txt K w mg fa fd) (cdv : Value) (A : Around) (outer : List Env) (s : Shared) (H : Hp) (E : XK)
    (hrM : RoomG (k + 1) (A.deeper (envOfC "_law_take" (defScope s_law_take) s.heap.objs.size (fa 19) cdv))) :
    PSs (cxOf (L2.CX P w) P w K mg base N_law_take "_law_take" (defScope s_law_take) (fa 19) cdv A outer s H E) (defBody s_law_take) (tS ⟨K, w, mg⟩ (m_law_take F) (WE0 E)) :=
  have hr := hrM.mono (Nat.le_succ _)
  q_scons (q_if (q_tcmp o_gt c_gt (q_ix (o_ix (by rfl) (by rfl) (u1 hr)) c_ix (q_var (pv 0)) (q_int) (fun _ _ => rfl)) (q_int) (nomark _)) (q_scons (q_set (i := 2) sc_law_take.nd (by rfl) (.inl (by rfl)) (q_op o_mod c_mod (q_ix (o_ix (by rfl) (by rfl) (u1 hr)) c_ix (q_var (pv 0)) (q_int) (fun _ _ => rfl)) (q_var (pv 1))))
    (q_scons (q_asg (q_op o_fdiv c_fdiv (q_ix (o_ix (by rfl) (by rfl) (u1 hr)) c_ix (q_var (pv 0)) (q_int) (fun _ _ => rfl)) (q_var (pv 1))) (q_gsub (Wx := WE0 E) (u1 hr) (q_var (pv 0)) (q_int)) (gn := gn_sub))
    (q_sone (q_ret (q_var (pv 2)))))) (q_snil))
    (q_scons (q_asg (q_op o_mod c_mod (q_op (o_add (by rfl)) c_add (q_op o_mul c_mul (q_ix (o_ix (by rfl) (by rfl) (u1 hr)) c_ix (q_var (pv 0)) (q_int) (fun _ _ => rfl)) (q_int)) (q_int)) (q_int)) (q_gsub (Wx := WE0 E) (u1 hr) (q_var (pv 0)) (q_int)) (gn := gn_sub))
    (q_sone (q_ret (q_op o_mod c_mod (q_op o_fdiv c_fdiv (q_op o_mod c_mod (q_op o_mul c_mul (q_op o_fdiv c_fdiv (q_ix (o_ix (by rfl) (by rfl) (u1 hr)) c_ix (q_var (pv 0)) (q_int) (fun _ _ => rfl)) (q_int)) (q_op (o_add (by rfl)) c_add (q_op o_mod c_mod (q_ix (o_ix (by rfl) (by rfl) (u1 hr)) c_ix (q_var (pv 0)) (q_int) (fun _ _ => rfl)) (q_int)) (q_int))) (q_int)) (q_int)) (q_var (pv 1))))))
theorem b_law_pick {P : Program} {K : PySem.W.Frag} {w : World} {mg : Str → Option Value} {base : Heap} {fa : Nat → Addr} {fd : Nat → FuncData} {F : Nat → FN} {k : Nat} (hM : ∃ o, base.get? sysModules = some o) (T : Txt K w mg fa fd) (C_law_take : Cal P w ⟨K, w, mg⟩ base k "_law_take" (fa 19) (fd 19) ["_law_hand_here", "_law_many"] (F 19)) (cdv : Value) (A : Around) (outer : List Env) (s : Shared) (H : Hp) (E : XK)
    (hrM : RoomG (k + 1) (A.deeper (envOfC "_law_pick" (defScope s_law_pick) s.heap.objs.size (fa 20) cdv))) :
    PSs (cxOf (L2.CX P w) P w K mg base N_law_pick "_law_pick" (defScope s_law_pick) (fa 20) cdv A outer s H E) (defBody s_law_pick) (tS ⟨K, w, mg⟩ (m_law_pick F) (WE0 E)) :=
  have hr := hrM.mono (Nat.le_succ _)
  q_sone (q_ret (q_ix (o_ix (by rfl) (by rfl) (u1 hr)) c_ix (q_var (pv 1)) (q_fn C_law_take T.bnd_law_take hr (by rfl) (by rfl) (by rfl) tk_body (q_cons (q_var (pv 0)) (q_cons (q_callB (o_len (by rfl)) c_len (by rfl) T.z_len b_len (q_cons (q_var (pv 1)) (q_nil))) (q_nil)))) (fun _ _ => rfl)))
theorem b_law_number {P : Program} {K : PySem.W.Frag} {w : World} {mg : Str → Option Value} {base : Heap} {fa : Nat → Addr} {fd : Nat → FuncData} {F : Nat → FN} {k : Nat} (hM : ∃ o, base.get? sysModules = some o) (T : Txt K w mg fa fd) (C_law_pick : Cal P w ⟨K, w, mg⟩ base k "_law_pick" (fa 20) (fd 20) ["_law_hand_here", "_law_some"] (F 20)) (C_law_take : Cal P w ⟨K, w, mg⟩ base k "_law_take" (fa 19) (fd 19) ["_law_hand_here", "_law_many"] (F 19)) (cdv : Value) (A : Around) (outer : List Env) (s : Shared) (H : Hp) (E : XK)
    (hrM : RoomG (k + 1) (A.deeper (envOfC "_law_number" (defScope s_law_number) s.heap.objs.size (fa 21) cdv))) :
    PSs (cxOf (L2.CX P w) P w K mg base N_law_number "_law_number" (defScope s_law_number) (fa 21) cdv A outer s H E) (defBody s_law_number) (tS ⟨K, w, mg⟩ (m_law_number F) (WE0 E)) :=
  have hr := hrM.mono (Nat.le_succ _)
  q_sone (q_ret (q_fn C_law_pick T.bnd_law_pick hr (by rfl) (by rfl) (by rfl) tk_body (q_cons (q_var (pv 0)) (q_cons (q_lst (q_cons (q_int) (q_cons (q_int) (q_cons (q_int) (q_cons (q_int) (q_cons (q_int) (q_cons (q_int) (q_cons (q_int) (q_cons (q_int) (q_cons (q_int) (q_cons (q_fn C_law_take T.bnd_law_take hr (by rfl) (by rfl) (by rfl) tk_body (q_cons (q_var (pv 0)) (q_cons (q_int) (q_nil)))) (q_nil)))))))))))) (q_nil)))))
theorem b_law_due {P : Program} {K : PySem.W.Frag} {w : World} {mg : Str → Option Value} {base : Heap} {fa : Nat → Addr} {fd : Nat → FuncData} {F : Nat → FN} {k : Nat} (hM : ∃ o, base.get? sysModules = some o) (T : Txt K w mg fa fd) (cdv : Value) (A : Around) (outer : List Env) (s : Shared) (H : Hp) (E : XK)
    (hrM : RoomG (k + 1) (A.deeper (envOfC "_law_due" (defScope s_law_due) s.heap.objs.size (fa 22) cdv))) :
    PSs (cxOf (L2.CX P w) P w K mg base N_law_due "_law_due" (defScope s_law_due) (fa 22) cdv A outer s H E) (defBody s_law_due) (tS ⟨K, w, mg⟩ (m_law_due F) (WE0 E)) :=
  have hr := hrM.mono (Nat.le_succ _)
  q_scons (q_set (i := 2) sc_law_due.nd (by rfl) (.inl (by rfl)) (q_callTy o_int c_int (by rfl) T.z_int b_int (q_cons (q_cmp (o_eq (by rfl) hr.units) c_eq (q_var (pv 0)) (q_str) (nomark _)) (q_nil))))
    (q_scons (q_for po_body (by rfl) (q_iter (by rfl) (q_var (pv 1))) (q_gname (pg_name (i := 3) sc_law_due.nd (by rfl) (.inl (by rfl)))) (q_sone (q_if (q_tcmp (o_eq (by rfl) hr.units) c_eq (q_var (pv 0)) (q_str) (nomark _)) (q_sone (q_set (i := 2) sc_law_due.nd (by rfl) (.inl (by rfl)) (q_op o_sub c_sub (q_op (o_add (by rfl)) c_add (q_var (pv 2)) (q_var (pv 3))) (q_op o_mul c_mul (q_int) (q_callTy o_int c_int (by rfl) T.z_int b_int (q_cons (q_cmp o_ge c_ge (q_op (o_add (by rfl)) c_add (q_var (pv 2)) (q_var (pv 3))) (q_int) (nomark _)) (q_nil))))))) (q_sone (q_if (q_tcmp (o_eq (by rfl) hr.units) c_eq (q_var (pv 0)) (q_str) (nomark _)) (q_sone (q_set (i := 2) sc_law_due.nd (by rfl) (.inl (by rfl)) (q_op o_sub c_sub (q_op o_mul c_mul (q_var (pv 2)) (q_var (pv 3))) (q_op o_mul c_mul (q_op o_fdiv c_fdiv (q_op o_mul c_mul (q_var (pv 2)) (q_var (pv 3))) (q_int)) (q_int))))) (q_sone (q_if (q_tcmp (o_eq (by rfl) hr.units) c_eq (q_var (pv 0)) (q_str) (nomark _)) (q_sone (q_set (i := 2) sc_law_due.nd (by rfl) (.inl (by rfl)) (q_var (pv 3)))) (q_sone (q_set (i := 2) sc_law_due.nd (by rfl) (.inl (by rfl)) (q_ifExp (q_tcmp o_gt c_gt (q_var (pv 2)) (q_var (pv 3)) (nomark _)) (q_var (pv 2)) (q_var (pv 3))))))))))))
    (q_sone (q_ret (q_var (pv 2)))))
theorem b_law_many_right {P : Program} {K : PySem.W.Frag} {w : World} {mg : Str → Option Value} {base : Heap} {fa : Nat → Addr} {fd : Nat → FuncData} {F : Nat → FN} {k : Nat} (hM : ∃ o, base.get? sysModules = some o) (T : Txt K w mg fa fd) (C_law_due : Cal P w ⟨K, w, mg⟩ base k "_law_due" (fa 22) (fd 22) ["_law_word", "_law_worths"] (F 22)) (C_law_number : Cal P w ⟨K, w, mg⟩ base k "_law_number" (fa 21) (fd 21) ["_law_hand_here"] (F 21)) (C_law_take : Cal P w ⟨K, w, mg⟩ base k "_law_take" (fa 19) (fd 19) ["_law_hand_here", "_law_many"] (F 19)) (C_run : Cal P w ⟨K, w, mg⟩ base k "run" (fa 17) (fd 17) ["program", "inputs"] (F 17)) (cdv : Value) (A : Around) (outer : List Env) (s : Shared) (H : Hp) (E : XK)
    (hrM : RoomG (k + 1) (A.deeper (envOfC "_law_many_right" (defScope s_law_many_right) s.heap.objs.size (fa 23) cdv))) :
    PSs (cxOf (L2.CX P w) P w K mg base N_law_many_right "_law_many_right" (defScope s_law_many_right) (fa 23) cdv A outer s H E) (defBody s_law_many_right) (tS ⟨K, w, mg⟩ (m_law_many_right F) (WE0 E)) :=
  have hr := hrM.mono (Nat.le_succ _)
  q_scons (q_for po_body (by rfl) (q_iter (by rfl) (q_tup (q_cons (q_str) (q_cons (q_str) (q_cons (q_str) (q_cons (q_str) (q_nil))))))) (q_gname (pg_name (i := 1) sc_law_many_right.nd (by rfl) (.inl (by rfl)))) (q_scons (q_set (i := 2) sc_law_many_right.nd (by rfl) (.inl (by rfl)) (q_ifExp (q_tcmp (o_eq (by rfl) hr.units) c_eq (q_var (pv 1)) (q_str) (nomark _)) (q_fn C_law_take T.bnd_law_take hr (by rfl) (by rfl) (by rfl) tk_body (q_cons (q_var (pv 0)) (q_cons (q_int) (q_nil)))) (q_op (o_add (by rfl)) c_add (q_int) (q_fn C_law_take T.bnd_law_take hr (by rfl) (by rfl) (by rfl) tk_body (q_cons (q_var (pv 0)) (q_cons (q_int) (q_nil)))))))
    (q_scons (q_setLc (i := 3) (own := [("_law_k", 4)]) (by rfl) sc_law_many_right.nd (by rfl) (by rfl) (sw_true (by rfl) (by rfl) (by rfl) (by decide +kernel)) (q_range1 (by rfl) T.z_range (q_cons (q_var (pv 2)) (q_nil))) (blkOk_by (own := [("_law_k", 4)]) (N := N_law_many_right) (sc := defScope s_law_many_right) (by decide +kernel)) (fun _ _ _ _ _ => q_gnameW (pg_name (i := 4) sc_law_many_right.nd (by rfl) (.inl (by rfl))) (by decide)) (fun _ _ _ _ _ => q_tnil) (fun _ _ _ _ _ => q_fn C_law_number T.bnd_law_number hr (by rfl) (by rfl) (by rfl) tk_blk (q_cons (q_var (pv 0)) (q_nil))))
    (q_scons (q_set (i := 5) sc_law_many_right.nd (by rfl) (.inl (by rfl)) (q_slice (by rfl) (q_lst (q_cons (q_str) (q_cons (q_str) (q_cons (q_str) (q_cons (q_str) (q_cons (q_str) (q_cons (q_str) (q_nil)))))))) (q_pno) (q_pyes (q_callB (o_len (by rfl)) c_len (by rfl) T.z_len b_len (q_cons (q_var (pv 3)) (q_nil))))))
    (q_scons (q_set (i := 6) sc_law_many_right.nd (by rfl) (.inl (by rfl)) (q_tup (q_cons (q_var (pv 1)) (q_cons (q_str) (q_cons (q_callTy (o_tuple (by rfl)) c_tuple (by rfl) T.z_tuple b_tuple (q_cons (q_lc (own := [("_law_name", 7)]) (by rfl) sc_law_many_right.nd (q_iter (by rfl) (q_var (pv 5))) (blkOk_by (own := [("_law_name", 7)]) (N := N_law_many_right) (sc := defScope s_law_many_right) (by decide +kernel)) (fun _ _ _ _ _ => q_gnameW (pg_name (i := 7) sc_law_many_right.nd (by rfl) (.inl (by rfl))) (by decide)) (fun _ _ _ _ _ => q_tnil) (fun _ _ _ _ _ => q_tup (q_cons (q_str) (q_cons (q_var (pv 7)) (q_cons (q_tup (q_nil)) (q_nil)))))) (q_nil))) (q_nil))))))
    (q_scons (q_set (i := 8) sc_law_many_right.nd (by rfl) (.inl (by rfl)) (q_tup (q_cons (q_var (pv 1)) (q_cons (q_str) (q_cons (q_callTy (o_tuple (by rfl)) c_tuple (by rfl) T.z_tuple b_tuple (q_cons (q_lc (own := [("_law_worth", 9)]) (by rfl) sc_law_many_right.nd (q_iter (by rfl) (q_var (pv 3))) (blkOk_by (own := [("_law_worth", 9)]) (N := N_law_many_right) (sc := defScope s_law_many_right) (by decide +kernel)) (fun _ _ _ _ _ => q_gnameW (pg_name (i := 9) sc_law_many_right.nd (by rfl) (.inl (by rfl))) (by decide)) (fun _ _ _ _ _ => q_tnil) (fun _ _ _ _ _ => q_tup (q_cons (q_str) (q_cons (q_var (pv 9)) (q_cons (q_tup (q_nil)) (q_nil)))))) (q_nil))) (q_nil))))))
    (q_scons (q_set (i := 10) sc_law_many_right.nd (by rfl) (.inl (by rfl)) (q_callB (o_repr (by rfl) hM hr.gd (u150 hr)) c_repr (by rfl) T.z_repr b_repr (q_cons (q_tup (q_cons (q_fn C_law_due T.bnd_law_due hr (by rfl) (by rfl) (by rfl) tk_body (q_cons (q_var (pv 1)) (q_cons (q_var (pv 3)) (q_nil)))) (q_cons (q_tup (q_nil)) (q_nil)))) (q_nil))))
    (q_sone (q_if (q_tb (w_or (q_tcmp (o_ne (by rfl) hr.units) c_ne (q_callB (o_repr (by rfl) hM hr.gd (u150 hr)) c_repr (by rfl) T.z_repr b_repr (q_cons (q_fn C_run T.bnd_run hr (by rfl) (by rfl) (by rfl) tk_body (q_cons (q_var (pv 6)) (q_cons (q_zipT (by rfl) (by rfl) (by rfl) T.z_tuple (by rfl) T.z_zip (q_cons (q_var (pv 5)) (q_cons (q_var (pv 3)) (q_nil)))) (q_nil)))) (q_nil))) (q_var (pv 10)) (nomark _)) (w_or1 (q_tcmp (o_ne (by rfl) hr.units) c_ne (q_callB (o_repr (by rfl) hM hr.gd (u150 hr)) c_repr (by rfl) T.z_repr b_repr (q_cons (q_fn C_run T.bnd_run hr (by rfl) (by rfl) (by rfl) tk_body (q_cons (q_var (pv 8)) (q_cons (q_tup (q_nil)) (q_nil)))) (q_nil))) (q_var (pv 10)) (nomark _))))) (q_sone (q_ret (q_bl))) (q_snil))))))))))
    (q_sone (q_ret (q_bl)))
theorem b_law_pairs_right {P : Program} {K : PySem.W.Frag} {w : World} {mg : Str → Option Value} {base : Heap} {fa : Nat → Addr} {fd : Nat → FuncData} {F : Nat → FN} {k : Nat} (hM : ∃ o, base.get? sysModules = some o) (T : Txt K w mg fa fd) (C_law_number : Cal P w ⟨K, w, mg⟩ base k "_law_number" (fa 21) (fd 21) ["_law_hand_here"] (F 21)) (C_run : Cal P w ⟨K, w, mg⟩ base k "run" (fa 17) (fd 17) ["program", "inputs"] (F 17)) (cdv : Value) (A : Around) (outer : List Env) (s : Shared) (H : Hp) (E : XK)
    (hrM : RoomG (k + 1) (A.deeper (envOfC "_law_pairs_right" (defScope s_law_pairs_right) s.heap.objs.size (fa 24) cdv))) :
    PSs (cxOf (L2.CX P w) P w K mg base N_law_pairs_right "_law_pairs_right" (defScope s_law_pairs_right) (fa 24) cdv A outer s H E) (defBody s_law_pairs_right) (tS ⟨K, w, mg⟩ (m_law_pairs_right F) (WE0 E)) :=
  have hr := hrM.mono (Nat.le_succ _)
  q_scons (q_par (i := 1) (j := 2) (by rfl) sc_law_pairs_right.nd (by rfl) (by rfl) (by decide) (by rfl) (by rfl) (q_cons (q_fn C_law_number T.bnd_law_number hr (by rfl) (by rfl) (by rfl) tk_body (q_cons (q_var (pv 0)) (q_nil))) (q_cons (q_fn C_law_number T.bnd_law_number hr (by rfl) (by rfl) (by rfl) tk_body (q_cons (q_var (pv 0)) (q_nil))) (q_nil))) (by rfl))
    (q_scons (q_set (i := 3) sc_law_pairs_right.nd (by rfl) (.inl (by rfl)) (q_fn C_law_number T.bnd_law_number hr (by rfl) (by rfl) (by rfl) tk_body (q_cons (q_var (pv 0)) (q_nil))))
    (q_scons (q_par3 (i := 4) (j := 5) (l := 6) (by rfl) sc_law_pairs_right.nd (by rfl) (by rfl) (by rfl) (by decide) (by decide) (by decide) (by rfl) (by rfl) (by rfl) (q_cons (q_tup (q_cons (q_str) (q_cons (q_var (pv 1)) (q_cons (q_tup (q_nil)) (q_nil))))) (q_cons (q_tup (q_cons (q_str) (q_cons (q_str) (q_cons (q_tup (q_nil)) (q_nil))))) (q_cons (q_tup (q_cons (q_str) (q_cons (q_var (pv 3)) (q_cons (q_tup (q_nil)) (q_nil))))) (q_nil)))) (by rfl))
    (q_scons (q_set (i := 7) sc_law_pairs_right.nd (by rfl) (.inr (by rfl)) (q_tup (q_cons (q_tup (q_cons (q_str) (q_cons (q_var (pv 2)) (q_nil)))) (q_cons (q_tup (q_cons (q_str) (q_cons (q_int) (q_nil)))) (q_nil)))))
    (q_scons (q_set (i := 8) sc_law_pairs_right.nd (by rfl) (.inl (by rfl)) (q_op (o_add (by rfl)) c_add (q_op o_sub c_sub (q_var (pv 1)) (q_var (pv 2))) (q_op o_mul c_mul (q_int) (q_callTy o_int c_int (by rfl) T.z_int b_int (q_cons (q_cmp o_lt c_lt (q_var (pv 1)) (q_var (pv 2)) (nomark _)) (q_nil))))))
    (q_scons (q_set (i := 9) sc_law_pairs_right.nd (by rfl) (.inl (by rfl)) (q_obj (q_cons (q_tup (q_cons (q_tup (q_cons (q_str) (q_cons (q_str) (q_cons (q_tup (q_cons (q_var (pv 4)) (q_cons (q_var (pv 5)) (q_nil)))) (q_nil))))) (q_cons (q_var (pv 8)) (q_nil)))) (q_cons (q_tup (q_cons (q_tup (q_cons (q_str) (q_cons (q_str) (q_cons (q_tup (q_cons (q_var (pv 4)) (q_cons (q_var (pv 5)) (q_nil)))) (q_nil))))) (q_cons (q_ifExp (q_tcmp o_lt c_lt (q_var (pv 1)) (q_var (pv 2)) (nomark _)) (q_int) (q_int)) (q_nil)))) (q_nil)))))
    (q_scons (q_expr (q_bm (by rfl) PySem.F.plainAttrs_list PySem.F.slot_list_append PySem.F.type_list_append o_append c_append (q_var (pv 9)) (q_cons (q_tup (q_cons (q_tup (q_cons (q_str) (q_cons (q_str) (q_cons (q_tup (q_cons (q_var (pv 5)) (q_cons (q_var (pv 4)) (q_cons (q_var (pv 6)) (q_nil))))) (q_nil))))) (q_cons (q_ifExp (q_tcmp o_gt c_gt (q_var (pv 2)) (q_int) (nomark _)) (q_var (pv 1)) (q_var (pv 3))) (q_nil)))) (q_nil))))
    (q_scons (q_expr (q_bm (by rfl) PySem.F.plainAttrs_list PySem.F.slot_list_append PySem.F.type_list_append o_append c_append (q_var (pv 9)) (q_cons (q_tup (q_cons (q_tup (q_cons (q_str) (q_cons (q_str) (q_cons (q_tup (q_cons (q_var (pv 4)) (q_cons (q_tup (q_cons (q_str) (q_cons (q_str) (q_cons (q_tup (q_cons (q_var (pv 5)) (q_nil))) (q_nil))))) (q_nil)))) (q_nil))))) (q_cons (q_var (pv 1)) (q_nil)))) (q_nil))))
    (q_scons (q_expr (q_bm (by rfl) PySem.F.plainAttrs_list PySem.F.slot_list_append PySem.F.type_list_append o_append c_append (q_var (pv 9)) (q_cons (q_tup (q_cons (q_tup (q_cons (q_str) (q_cons (q_str) (q_cons (q_tup (q_cons (q_var (pv 5)) (q_cons (q_tup (q_cons (q_str) (q_cons (q_str) (q_cons (q_tup (q_cons (q_var (pv 6)) (q_cons (q_tup (q_cons (q_str) (q_cons (q_str) (q_cons (q_tup (q_nil)) (q_nil))))) (q_nil)))) (q_nil))))) (q_nil)))) (q_nil))))) (q_cons (q_var (pv 2)) (q_nil)))) (q_nil))))
    (q_sone (q_ret (q_callB (o_all (by rfl)) c_all (by rfl) T.z_all b_all (q_cons (q_lc (own := [("_law_made", 11), ("_law_due_here", 10)]) (by rfl) sc_law_pairs_right.nd (q_iter (by rfl) (q_frz (q_var (pv 9)))) (blkOk_by (own := [("_law_made", 11), ("_law_due_here", 10)]) (N := N_law_pairs_right) (sc := defScope s_law_pairs_right) (by decide +kernel)) (fun _ _ _ _ _ => q_gtupW (by rfl) (by rfl) (q_gscW (pg_name (i := 11) sc_law_pairs_right.nd (by rfl) (.inl (by rfl))) (q_gscW (pg_name (i := 10) sc_law_pairs_right.nd (by rfl) (.inl (by rfl))) (q_gsnW)))) (fun _ _ _ _ _ => q_tnil) (fun _ _ _ _ _ => q_cmp (o_eq (by rfl) hr.units) c_eq (q_callB (o_repr (by rfl) hM hr.gd (u150 hr)) c_repr (by rfl) T.z_repr b_repr (q_cons (q_fn C_run T.bnd_run hr (by rfl) (by rfl) (by rfl) tk_blk (q_cons (q_var (pv 11)) (q_cons (q_var (pv 7)) (q_nil)))) (q_nil))) (q_callB (o_repr (by rfl) hM hr.gd (u150 hr)) c_repr (by rfl) T.z_repr b_repr (q_cons (q_tup (q_cons (q_var (pv 10)) (q_cons (q_tup (q_nil)) (q_nil)))) (q_nil))) (nomark _))) (q_nil)))))))))))))
theorem b_law_each_right {P : Program} {K : PySem.W.Frag} {w : World} {mg : Str → Option Value} {base : Heap} {fa : Nat → Addr} {fd : Nat → FuncData} {F : Nat → FN} {k : Nat} (hM : ∃ o, base.get? sysModules = some o) (T : Txt K w mg fa fd) (C_law_number : Cal P w ⟨K, w, mg⟩ base k "_law_number" (fa 21) (fd 21) ["_law_hand_here"] (F 21)) (C_law_pick : Cal P w ⟨K, w, mg⟩ base k "_law_pick" (fa 20) (fd 20) ["_law_hand_here", "_law_some"] (F 20)) (C_run : Cal P w ⟨K, w, mg⟩ base k "run" (fa 17) (fd 17) ["program", "inputs"] (F 17)) (cdv : Value) (A : Around) (outer : List Env) (s : Shared) (H : Hp) (E : XK)
    (hrM : RoomG (k + 1) (A.deeper (envOfC "_law_each_right" (defScope s_law_each_right) s.heap.objs.size (fa 25) cdv))) :
    PSs (cxOf (L2.CX P w) P w K mg base N_law_each_right "_law_each_right" (defScope s_law_each_right) (fa 25) cdv A outer s H E) (defBody s_law_each_right) (tS ⟨K, w, mg⟩ (m_law_each_right F) (WE0 E)) :=
  have hr := hrM.mono (Nat.le_succ _)
  q_scons (q_set (i := 1) sc_law_each_right.nd (by rfl) (.inl (by rfl)) (q_fn C_law_pick T.bnd_law_pick hr (by rfl) (by rfl) (by rfl) tk_body (q_cons (q_var (pv 0)) (q_cons (q_lst (q_cons (q_int) (q_cons (q_int) (q_cons (q_int) (q_cons (q_int) (q_cons (q_int) (q_cons (q_int) (q_cons (q_int) (q_cons (q_int) (q_cons (q_int) (q_cons (q_int) (q_cons (q_fn C_law_number T.bnd_law_number hr (by rfl) (by rfl) (by rfl) tk_body (q_cons (q_var (pv 0)) (q_nil))) (q_nil))))))))))))) (q_nil)))))
    (q_scons (q_set (i := 2) sc_law_each_right.nd (by rfl) (.inr (by rfl)) (q_fn C_law_number T.bnd_law_number hr (by rfl) (by rfl) (by rfl) tk_body (q_cons (q_var (pv 0)) (q_nil))))
    (q_scons (q_set (i := 3) sc_law_each_right.nd (by rfl) (.inl (by rfl)) (q_tup (q_cons (q_str) (q_cons (q_str) (q_cons (q_tup (q_cons (q_tup (q_cons (q_str) (q_cons (q_str) (q_cons (q_tup (q_cons (q_tup (q_cons (q_str) (q_cons (q_str) (q_cons (q_tup (q_nil)) (q_nil))))) (q_cons (q_tup (q_cons (q_str) (q_cons (q_var (pv 2)) (q_cons (q_tup (q_nil)) (q_nil))))) (q_nil)))) (q_nil))))) (q_nil))) (q_nil))))))
    (q_scons (q_set (i := 4) sc_law_each_right.nd (by rfl) (.inl (by rfl)) (q_tup (q_cons (q_str) (q_cons (q_str) (q_cons (q_tup (q_cons (q_tup (q_cons (q_str) (q_cons (q_var (pv 1)) (q_cons (q_tup (q_nil)) (q_nil))))) (q_cons (q_var (pv 3)) (q_nil)))) (q_nil))))))
    (q_scons (q_setLc (i := 5) (own := [("_law_turn", 6)]) (by rfl) sc_law_each_right.nd (by rfl) (by rfl) (sw_true (by rfl) (by rfl) (by rfl) (by decide +kernel)) (q_range1 (by rfl) T.z_range (q_cons (q_op o_sub c_sub (q_var (pv 1)) (q_op o_mul c_mul (q_op o_fdiv c_fdiv (q_var (pv 1)) (q_int)) (q_int))) (q_nil))) (blkOk_by (own := [("_law_turn", 6)]) (N := N_law_each_right) (sc := defScope s_law_each_right) (by decide +kernel)) (fun _ _ _ _ _ => q_gnameW (pg_name (i := 6) sc_law_each_right.nd (by rfl) (.inl (by rfl))) (by decide)) (fun _ _ _ _ _ => q_tnil) (fun _ _ _ _ _ => q_op o_mod c_mod (q_op (o_add (by rfl)) c_add (q_var (pv 6)) (q_var (pv 2))) (q_int)))
    (q_sone (q_ret (q_cmp (o_eq (by rfl) hr.units) c_eq (q_callB (o_repr (by rfl) hM hr.gd (u150 hr)) c_repr (by rfl) T.z_repr b_repr (q_cons (q_fn C_run T.bnd_run hr (by rfl) (by rfl) (by rfl) tk_body (q_cons (q_var (pv 4)) (q_cons (q_tup (q_cons (q_tup (q_cons (q_str) (q_cons (q_int) (q_nil)))) (q_nil))) (q_nil)))) (q_nil))) (q_callB (o_repr (by rfl) hM hr.gd (u150 hr)) c_repr (by rfl) T.z_repr b_repr (q_cons (q_tup (q_cons (q_ix (o_ix (by rfl) (by rfl) (u1 hr)) c_ix (q_op (o_add (by rfl)) c_add (q_lst (q_cons (q_int) (q_nil))) (q_var (pv 5))) (q_un o_neg c_neg (q_int)) (fun _ _ => rfl)) (q_cons (q_callTy (o_tuple (by rfl)) c_tuple (by rfl) T.z_tuple b_tuple (q_cons (q_var (pv 5)) (q_nil))) (q_nil)))) (q_nil))) (nomark _))))))))
theorem b_law {P : Program} {K : PySem.W.Frag} {w : World} {mg : Str → Option Value} {base : Heap} {fa : Nat → Addr} {fd : Nat → FuncData} {F : Nat → FN} {k : Nat} (hM : ∃ o, base.get? sysModules = some o) (T : Txt K w mg fa fd) (C_law_each_right : Cal P w ⟨K, w, mg⟩ base k "_law_each_right" (fa 25) (fd 25) ["_law_hand_here"] (F 25)) (C_law_hand : Cal P w ⟨K, w, mg⟩ base k "_law_hand" (fa 18) (fd 18) ["_law_script", "_law_k"] (F 18)) (C_law_many_right : Cal P w ⟨K, w, mg⟩ base k "_law_many_right" (fa 23) (fd 23) ["_law_hand_here"] (F 23)) (C_law_pairs_right : Cal P w ⟨K, w, mg⟩ base k "_law_pairs_right" (fa 24) (fd 24) ["_law_hand_here"] (F 24)) (cdv : Value) (A : Around) (outer : List Env) (s : Shared) (H : Hp) (E : XK)
    (hrM : RoomG (k + 1) (A.deeper (envOfC "law" (defScope s_law) s.heap.objs.size (fa 26) cdv))) :
    PSs (cxOf (L2.CX P w) P w K mg base N_law "law" (defScope s_law) (fa 26) cdv A outer s H E) (defBody s_law) (tS ⟨K, w, mg⟩ (m_law F) (WE0 E)) :=
  have hr := hrM.mono (Nat.le_succ _)
  q_scons (q_for po_body (by rfl) (q_range1 (by rfl) T.z_range (q_cons (q_callB (o_max (by rfl)) c_max (by rfl) T.z_max b_max (q_cons (q_int) (q_cons (q_callB (o_min (by rfl)) c_min (by rfl) T.z_min b_min (q_cons (q_callB (o_len (by rfl)) c_len (by rfl) T.z_len b_len (q_cons (q_var (pv 0)) (q_nil))) (q_cons (q_int) (q_nil)))) (q_nil)))) (q_nil))) (q_gname (pg_name (i := 1) sc_law.nd (by rfl) (.inl (by rfl)))) (q_scons (q_set (i := 2) sc_law.nd (by rfl) (.inl (by rfl)) (q_fn C_law_hand T.bnd_law_hand hr (by rfl) (by rfl) (by rfl) tk_body (q_cons (q_var (pv 0)) (q_cons (q_var (pv 1)) (q_nil)))))
    (q_sone (q_for po_body (by rfl) (q_range1 (by rfl) T.z_range (q_cons (q_int) (q_nil))) (q_gname (pg_name (i := 3) sc_law.nd (by rfl) (.inl (by rfl)))) (q_sone (q_if (q_tb (w_or (q_tnot (q_truth (by rfl) (q_fn C_law_many_right T.bnd_law_many_right hr (by rfl) (by rfl) (by rfl) tk_body (q_cons (q_var (pv 2)) (q_nil))))) (w_or (q_tnot (q_truth (by rfl) (q_fn C_law_pairs_right T.bnd_law_pairs_right hr (by rfl) (by rfl) (by rfl) tk_body (q_cons (q_var (pv 2)) (q_nil))))) (w_or1 (q_tnot (q_truth (by rfl) (q_fn C_law_each_right T.bnd_law_each_right hr (by rfl) (by rfl) (by rfl) tk_body (q_cons (q_var (pv 2)) (q_nil))))))))) (q_sone (q_ret (q_bl))) (q_snil)))))))
    (q_sone (q_ret (q_bl)))
structure Alls (P : Program) (K : PySem.W.Frag) (w : World) (mg : Str → Option Value) (base : Heap) (fa : Nat → Addr) (fd : Nat → FuncData) (k : Nat) (F : Nat → FN) : Prop where
  c_rest_of : Cal P w ⟨K, w, mg⟩ base k "rest_of" (fa 0) (fd 0) ["number"] (F 0)
  c_with_name : Cal P w ⟨K, w, mg⟩ base k "with_name" (fa 1) (fd 1) ["held", "name", "worth"] (F 1)
  c_num_worth : Cal P w ⟨K, w, mg⟩ base k "num_worth" (fa 2) (fd 2) ["going", "thing", "held"] (F 2)
  c_name_worth : Cal P w ⟨K, w, mg⟩ base k "name_worth" (fa 3) (fd 3) ["going", "thing", "held"] (F 3)
  c_plus_worth : Cal P w ⟨K, w, mg⟩ base k "plus_worth" (fa 4) (fd 4) ["going", "thing", "held"] (F 4)
  c_times_worth : Cal P w ⟨K, w, mg⟩ base k "times_worth" (fa 5) (fd 5) ["going", "thing", "held"] (F 5)
  c_most_worth : Cal P w ⟨K, w, mg⟩ base k "most_worth" (fa 6) (fd 6) ["going", "thing", "held"] (F 6)
  c_less_worth : Cal P w ⟨K, w, mg⟩ base k "less_worth" (fa 7) (fd 7) ["going", "thing", "held"] (F 7)
  c_below_worth : Cal P w ⟨K, w, mg⟩ base k "below_worth" (fa 8) (fd 8) ["going", "thing", "held"] (F 8)
  c_if_worth : Cal P w ⟨K, w, mg⟩ base k "if_worth" (fa 9) (fd 9) ["going", "thing", "held"] (F 9)
  c_say_worth : Cal P w ⟨K, w, mg⟩ base k "say_worth" (fa 10) (fd 10) ["going", "thing", "held"] (F 10)
  c_row_worth : Cal P w ⟨K, w, mg⟩ base k "row_worth" (fa 11) (fd 11) ["going", "thing", "held"] (F 11)
  c_let_worth : Cal P w ⟨K, w, mg⟩ base k "let_worth" (fa 12) (fd 12) ["going", "thing", "held"] (F 12)
  c_each_worth : Cal P w ⟨K, w, mg⟩ base k "each_worth" (fa 13) (fd 13) ["going", "thing", "held"] (F 13)
  c_Going___init__ : Mak P w ⟨K, w, mg⟩ base k "Going" (fa 27) (fa 14) (fd 14) ["self"] (F 14)
  c_Going_worth : Mtd P w ⟨K, w, mg⟩ base k "Going" "worth" (fa 15) (fd 15) ["self", "thing", "held"] (F 15)
  c_Going_part_worths : Mtd P w ⟨K, w, mg⟩ base k "Going" "part_worths" (fa 16) (fd 16) ["self", "thing", "held"] (F 16)
  c_run : Cal P w ⟨K, w, mg⟩ base k "run" (fa 17) (fd 17) ["program", "inputs"] (F 17)
  c_law_hand : Cal P w ⟨K, w, mg⟩ base k "_law_hand" (fa 18) (fd 18) ["_law_script", "_law_k"] (F 18)
  c_law_take : Cal P w ⟨K, w, mg⟩ base k "_law_take" (fa 19) (fd 19) ["_law_hand_here", "_law_many"] (F 19)
  c_law_pick : Cal P w ⟨K, w, mg⟩ base k "_law_pick" (fa 20) (fd 20) ["_law_hand_here", "_law_some"] (F 20)
  c_law_number : Cal P w ⟨K, w, mg⟩ base k "_law_number" (fa 21) (fd 21) ["_law_hand_here"] (F 21)
  c_law_due : Cal P w ⟨K, w, mg⟩ base k "_law_due" (fa 22) (fd 22) ["_law_word", "_law_worths"] (F 22)
  c_law_many_right : Cal P w ⟨K, w, mg⟩ base k "_law_many_right" (fa 23) (fd 23) ["_law_hand_here"] (F 23)
  c_law_pairs_right : Cal P w ⟨K, w, mg⟩ base k "_law_pairs_right" (fa 24) (fd 24) ["_law_hand_here"] (F 24)
  c_law_each_right : Cal P w ⟨K, w, mg⟩ base k "_law_each_right" (fa 25) (fd 25) ["_law_hand_here"] (F 25)
  c_law : Cal P w ⟨K, w, mg⟩ base k "law" (fa 26) (fd 26) ["_law_script"] (F 26)
theorem all {P : Program} {K : PySem.W.Frag} {w : World} {mg : Str → Option Value} {base : Heap} {fa : Nat → Addr} {fd : Nat → FuncData} (hM : ∃ o, base.get? sysModules = some o) (T : Txt K w mg fa fd) : ∀ k, Alls P K w mg base fa fd (lv k) (Fs k)
  | 0 => ⟨⟨fn_none, T.g_rest_of, T.F_rest_of.kp⟩, ⟨fn_none, T.g_with_name, T.F_with_name.kp⟩, ⟨fn_none, T.g_num_worth, T.F_num_worth.kp⟩, ⟨fn_none, T.g_name_worth, T.F_name_worth.kp⟩, ⟨fn_none, T.g_plus_worth, T.F_plus_worth.kp⟩, ⟨fn_none, T.g_times_worth, T.F_times_worth.kp⟩, ⟨fn_none, T.g_most_worth, T.F_most_worth.kp⟩, ⟨fn_none, T.g_less_worth, T.F_less_worth.kp⟩, ⟨fn_none, T.g_below_worth, T.F_below_worth.kp⟩, ⟨fn_none, T.g_if_worth, T.F_if_worth.kp⟩, ⟨fn_none, T.g_say_worth, T.F_say_worth.kp⟩, ⟨fn_none, T.g_row_worth, T.F_row_worth.kp⟩, ⟨fn_none, T.g_let_worth, T.F_let_worth.kp⟩, ⟨fn_none, T.g_each_worth, T.F_each_worth.kp⟩, ⟨fn_none, T.ca_Going, T.mk_Going___init__⟩, ⟨fn_none, T.mt_Going_worth⟩, ⟨fn_none, T.mt_Going_part_worths⟩, ⟨fn_none, T.g_run, T.F_run.kp⟩, ⟨fn_none, T.g_law_hand, T.F_law_hand.kp⟩, ⟨fn_none, T.g_law_take, T.F_law_take.kp⟩, ⟨fn_none, T.g_law_pick, T.F_law_pick.kp⟩, ⟨fn_none, T.g_law_number, T.F_law_number.kp⟩, ⟨fn_none, T.g_law_due, T.F_law_due.kp⟩, ⟨fn_none, T.g_law_many_right, T.F_law_many_right.kp⟩, ⟨fn_none, T.g_law_pairs_right, T.F_law_pairs_right.kp⟩, ⟨fn_none, T.g_law_each_right, T.F_law_each_right.kp⟩, ⟨fn_none, T.g_law, T.F_law.kp⟩⟩
  | k + 1 => by
    have ih := all (P := P) (base := base) hM T k
    exact ⟨⟨fn_ok (G := ⟨K, w, mg⟩) T.F_rest_of sc_rest_of (b_rest_of hM T), T.g_rest_of, T.F_rest_of.kp⟩,
      ⟨fn_ok (G := ⟨K, w, mg⟩) T.F_with_name sc_with_name (b_with_name hM T), T.g_with_name, T.F_with_name.kp⟩,
      ⟨fn_ok (G := ⟨K, w, mg⟩) T.F_num_worth sc_num_worth (b_num_worth hM T), T.g_num_worth, T.F_num_worth.kp⟩,
      ⟨fn_ok (G := ⟨K, w, mg⟩) T.F_name_worth sc_name_worth (b_name_worth hM T), T.g_name_worth, T.F_name_worth.kp⟩,
      ⟨fn_ok (G := ⟨K, w, mg⟩) T.F_plus_worth sc_plus_worth (b_plus_worth hM T ih.c_Going_part_worths ih.c_rest_of), T.g_plus_worth, T.F_plus_worth.kp⟩,
      ⟨fn_ok (G := ⟨K, w, mg⟩) T.F_times_worth sc_times_worth (b_times_worth hM T ih.c_Going_part_worths ih.c_rest_of), T.g_times_worth, T.F_times_worth.kp⟩,
      ⟨fn_ok (G := ⟨K, w, mg⟩) T.F_most_worth sc_most_worth (b_most_worth hM T ih.c_Going_part_worths), T.g_most_worth, T.F_most_worth.kp⟩,
      ⟨fn_ok (G := ⟨K, w, mg⟩) T.F_less_worth sc_less_worth (b_less_worth hM T ih.c_Going_part_worths ih.c_rest_of), T.g_less_worth, T.F_less_worth.kp⟩,
      ⟨fn_ok (G := ⟨K, w, mg⟩) T.F_below_worth sc_below_worth (b_below_worth hM T ih.c_Going_part_worths), T.g_below_worth, T.F_below_worth.kp⟩,
      ⟨fn_ok (G := ⟨K, w, mg⟩) T.F_if_worth sc_if_worth (b_if_worth hM T ih.c_Going_worth), T.g_if_worth, T.F_if_worth.kp⟩,
      ⟨fn_ok (G := ⟨K, w, mg⟩) T.F_say_worth sc_say_worth (b_say_worth hM T ih.c_Going_worth), T.g_say_worth, T.F_say_worth.kp⟩,
      ⟨fn_ok (G := ⟨K, w, mg⟩) T.F_row_worth sc_row_worth (b_row_worth hM T ih.c_Going_part_worths), T.g_row_worth, T.F_row_worth.kp⟩,
      ⟨fn_ok (G := ⟨K, w, mg⟩) T.F_let_worth sc_let_worth (b_let_worth hM T ih.c_Going_worth ih.c_with_name), T.g_let_worth, T.F_let_worth.kp⟩,
      ⟨fn_ok (G := ⟨K, w, mg⟩) T.F_each_worth sc_each_worth (b_each_worth hM T ih.c_Going_worth ih.c_with_name), T.g_each_worth, T.F_each_worth.kp⟩,
      ⟨fn_ok (G := ⟨K, w, mg⟩) T.F_Going___init__ sc_Going___init__ (b_Going___init__ hM T), T.ca_Going, T.mk_Going___init__⟩,
      ⟨fn_ok (G := ⟨K, w, mg⟩) T.F_Going_worth sc_Going_worth (b_Going_worth hM T ih.c_below_worth ih.c_each_worth ih.c_if_worth ih.c_less_worth ih.c_let_worth ih.c_most_worth ih.c_name_worth ih.c_num_worth ih.c_plus_worth ih.c_row_worth ih.c_say_worth ih.c_times_worth), T.mt_Going_worth⟩,
      ⟨fn_ok (G := ⟨K, w, mg⟩) T.F_Going_part_worths sc_Going_part_worths (b_Going_part_worths hM T ih.c_Going_worth), T.mt_Going_part_worths⟩,
      ⟨fn_ok (G := ⟨K, w, mg⟩) T.F_run sc_run (b_run hM T ih.c_Going___init__ ih.c_Going_worth), T.g_run, T.F_run.kp⟩,
      ⟨fn_ok (G := ⟨K, w, mg⟩) T.F_law_hand sc_law_hand (b_law_hand hM T), T.g_law_hand, T.F_law_hand.kp⟩,
      ⟨fn_ok (G := ⟨K, w, mg⟩) T.F_law_take sc_law_take (b_law_take hM T), T.g_law_take, T.F_law_take.kp⟩,
      ⟨fn_ok (G := ⟨K, w, mg⟩) T.F_law_pick sc_law_pick (b_law_pick hM T ih.c_law_take), T.g_law_pick, T.F_law_pick.kp⟩,
      ⟨fn_ok (G := ⟨K, w, mg⟩) T.F_law_number sc_law_number (b_law_number hM T ih.c_law_pick ih.c_law_take), T.g_law_number, T.F_law_number.kp⟩,
      ⟨fn_ok (G := ⟨K, w, mg⟩) T.F_law_due sc_law_due (b_law_due hM T), T.g_law_due, T.F_law_due.kp⟩,
      ⟨fn_ok (G := ⟨K, w, mg⟩) T.F_law_many_right sc_law_many_right (b_law_many_right hM T ih.c_law_due ih.c_law_number ih.c_law_take ih.c_run), T.g_law_many_right, T.F_law_many_right.kp⟩,
      ⟨fn_ok (G := ⟨K, w, mg⟩) T.F_law_pairs_right sc_law_pairs_right (b_law_pairs_right hM T ih.c_law_number ih.c_run), T.g_law_pairs_right, T.F_law_pairs_right.kp⟩,
      ⟨fn_ok (G := ⟨K, w, mg⟩) T.F_law_each_right sc_law_each_right (b_law_each_right hM T ih.c_law_number ih.c_law_pick ih.c_run), T.g_law_each_right, T.F_law_each_right.kp⟩,
      ⟨fn_ok (G := ⟨K, w, mg⟩) T.F_law sc_law (b_law hM T ih.c_law_each_right ih.c_law_hand ih.c_law_many_right ih.c_law_pairs_right), T.g_law, T.F_law.kp⟩⟩
end K21
set_option Elab.async false
set_option linter.all false
set_option maxRecDepth 100000
set_option maxHeartbeats 4000000
namespace K21
open PySem PySem.Spec PyProof.Rows L2 L3
def fdOf (d0 : FuncData) (d1 : FuncData) (d2 : FuncData) (d3 : FuncData) (d4 : FuncData) (d5 : FuncData) (d6 : FuncData) (d7 : FuncData) (d8 : FuncData) (d9 : FuncData) (d10 : FuncData) (d11 : FuncData) (d12 : FuncData) (d13 : FuncData) (d14 : FuncData) (d15 : FuncData) (d16 : FuncData) (d17 : FuncData) (d18 : FuncData) (d19 : FuncData) (d20 : FuncData) (d21 : FuncData) (d22 : FuncData) (d23 : FuncData) (d24 : FuncData) (d25 : FuncData) (d26 : FuncData) : Nat → FuncData
  | 0 => d0
  | 1 => d1
  | 2 => d2
  | 3 => d3
  | 4 => d4
  | 5 => d5
  | 6 => d6
  | 7 => d7
  | 8 => d8
  | 9 => d9
  | 10 => d10
  | 11 => d11
  | 12 => d12
  | 13 => d13
  | 14 => d14
  | 15 => d15
  | 16 => d16
  | 17 => d17
  | 18 => d18
  | 19 => d19
  | 20 => d20
  | 21 => d21
  | 22 => d22
  | 23 => d23
  | 24 => d24
  | 25 => d25
  | 26 => d26
  | _ => d0
theorem all_mk {l : PySem.W.OpenLaw} {w : World} {K : PySem.W.Frag} {h : Heap} {mg : Str → Option Value} {fa : Addr} (X : K.In h) (G : h.Ns mainGlobals mg) (hfa : mg "law" = some (.ref fa)) (TT : ∀ ns : List Int, ns.length ≤ 63 → ∃ S, Fs 60 26 [.scr ns] [] = .ok (.bl true) S)
    {C1 f2 f12 f22 f32 f42 f52 f62 f72 f82 f92 f102 f112 f122 f132 f142 f152 f162 f172 f182 f192 f202 f212 f222 f232 f242 f252 f262 a273 : Addr}
    {od3 an4 od13 an14 od23 an24 od33 an34 od43 an44 od53 an54 od63 an64 od73 an74 od83 an84 od93 an94 od103 an104 od113 an114 od123 an124 od133 an134 od143 an144 od153 an154 od163 an164 od173 an174 od183 an184 od193 an194 od203 an204 od213 an214 od223 an224 od233 an234 od243 an244 od253 an254 od263 an264 : Option Addr}
    {sl5 sl15 sl25 sl35 sl45 sl55 sl65 sl75 sl85 sl95 sl105 sl115 sl125 sl135 sl145 sl155 sl165 sl175 sl185 sl195 sl205 sl215 sl225 sl235 sl245 sl255 sl265 : Array (Option Value)}
    {oc6 dc7 pm8 cd9 ct10 kV11 oc16 dc17 pm18 cd19 ct20 kV21 oc26 dc27 pm28 cd29 ct30 kV31 oc36 dc37 pm38 cd39 ct40 kV41 oc46 dc47 pm48 cd49 ct50 kV51 oc56 dc57 pm58 cd59 ct60 kV61 oc66 dc67 pm68 cd69 ct70 kV71 oc76 dc77 pm78 cd79 ct80 kV81 oc86 dc87 pm88 cd89 ct90 kV91 oc96 dc97 pm98 cd99 ct100 kV101 oc106 dc107 pm108 cd109 ct110 kV111 oc116 dc117 pm118 cd119 ct120 kV121 oc126 dc127 pm128 cd129 ct130 kV131 oc136 dc137 pm138 cd139 ct140 kV141 oc146 dc147 pm148 cd149 ct150 kV151 oc156 dc157 pm158 cd159 ct160 kV161 oc166 dc167 pm168 cd169 ct170 kV171 oc176 dc177 pm178 cd179 ct180 kV181 oc186 dc187 pm188 cd189 ct190 kV191 oc196 dc197 pm198 cd199 ct200 kV201 oc206 dc207 pm208 cd209 ct210 kV211 oc216 dc217 pm218 cd219 ct220 kV221 oc226 dc227 pm228 cd229 ct230 kV231 oc236 dc237 pm238 cd239 ct240 kV241 oc246 dc247 pm248 cd249 ct250 kV251 oc256 dc257 pm258 cd259 ct260 kV261 oc266 dc267 pm268 cd269 ct270 kV271 : Value}
    {t272 t275 t277 t279 t281 t283 t285 t287 t289 t291 t293 t295 t297 t299 : PySem.Tok}
    {h274 h276 h278 h280 h282 h284 h286 h288 h290 h292 h294 h296 : Int}
    {n298 : Nat}
    (a_Going : PySem.W.nsIn K mainGlobals "Going" = some (some (.ref C1)))
    (pg_Going : PySem.W.plainGet K C1 Str.empty = true)
    (hd_Going : PySem.W.hasDictIn K C1 = true)
    (po_Going : PySem.W.plainOver K C1 = true)
    (sa_Going : PySem.W.findIn K (.ref C1) "__setattr__" = some (some (.builtin "object.__setattr__")))
    (mk_Going : PySem.W.makesIn K C1 = true)
    (kc_Going : PySem.W.keepIn K (.ref C1) = true)
    (n_Going_told_aloud : PySem.W.findIn K (.ref C1) "told_aloud" = some none)
    (a_rest_of : PySem.W.nsIn K mainGlobals "rest_of" = some (some (.ref f2)))
    (l_rest_of : K.lookup f2 = some ⟨oc6, od3, .func (PySem.W.fnOf "rest_of" "rest_of" (defArgs s_rest_of) (defBody s_rest_of) (defScope s_rest_of) .none kV11 dc7 pm8 an4 cd9 ct10), sl5⟩)
    (c_rest_of : PySem.W.codeIn K cd9 "rest_of" = true)
    (k_rest_of : PySem.W.keepIn K (.ref f2) = true)
    (a_with_name : PySem.W.nsIn K mainGlobals "with_name" = some (some (.ref f12)))
    (l_with_name : K.lookup f12 = some ⟨oc16, od13, .func (PySem.W.fnOf "with_name" "with_name" (defArgs s_with_name) (defBody s_with_name) (defScope s_with_name) .none kV21 dc17 pm18 an14 cd19 ct20), sl15⟩)
    (c_with_name : PySem.W.codeIn K cd19 "with_name" = true)
    (k_with_name : PySem.W.keepIn K (.ref f12) = true)
    (a_num_worth : PySem.W.nsIn K mainGlobals "num_worth" = some (some (.ref f22)))
    (l_num_worth : K.lookup f22 = some ⟨oc26, od23, .func (PySem.W.fnOf "num_worth" "num_worth" (defArgs s_num_worth) (defBody s_num_worth) (defScope s_num_worth) .none kV31 dc27 pm28 an24 cd29 ct30), sl25⟩)
    (c_num_worth : PySem.W.codeIn K cd29 "num_worth" = true)
    (k_num_worth : PySem.W.keepIn K (.ref f22) = true)
    (a_name_worth : PySem.W.nsIn K mainGlobals "name_worth" = some (some (.ref f32)))
    (l_name_worth : K.lookup f32 = some ⟨oc36, od33, .func (PySem.W.fnOf "name_worth" "name_worth" (defArgs s_name_worth) (defBody s_name_worth) (defScope s_name_worth) .none kV41 dc37 pm38 an34 cd39 ct40), sl35⟩)
    (c_name_worth : PySem.W.codeIn K cd39 "name_worth" = true)
    (k_name_worth : PySem.W.keepIn K (.ref f32) = true)
    (a_plus_worth : PySem.W.nsIn K mainGlobals "plus_worth" = some (some (.ref f42)))
    (l_plus_worth : K.lookup f42 = some ⟨oc46, od43, .func (PySem.W.fnOf "plus_worth" "plus_worth" (defArgs s_plus_worth) (defBody s_plus_worth) (defScope s_plus_worth) .none kV51 dc47 pm48 an44 cd49 ct50), sl45⟩)
    (c_plus_worth : PySem.W.codeIn K cd49 "plus_worth" = true)
    (k_plus_worth : PySem.W.keepIn K (.ref f42) = true)
    (a_times_worth : PySem.W.nsIn K mainGlobals "times_worth" = some (some (.ref f52)))
    (l_times_worth : K.lookup f52 = some ⟨oc56, od53, .func (PySem.W.fnOf "times_worth" "times_worth" (defArgs s_times_worth) (defBody s_times_worth) (defScope s_times_worth) .none kV61 dc57 pm58 an54 cd59 ct60), sl55⟩)
    (c_times_worth : PySem.W.codeIn K cd59 "times_worth" = true)
    (k_times_worth : PySem.W.keepIn K (.ref f52) = true)
    (a_most_worth : PySem.W.nsIn K mainGlobals "most_worth" = some (some (.ref f62)))
    (l_most_worth : K.lookup f62 = some ⟨oc66, od63, .func (PySem.W.fnOf "most_worth" "most_worth" (defArgs s_most_worth) (defBody s_most_worth) (defScope s_most_worth) .none kV71 dc67 pm68 an64 cd69 ct70), sl65⟩)
    (c_most_worth : PySem.W.codeIn K cd69 "most_worth" = true)
    (k_most_worth : PySem.W.keepIn K (.ref f62) = true)
    (a_less_worth : PySem.W.nsIn K mainGlobals "less_worth" = some (some (.ref f72)))
    (l_less_worth : K.lookup f72 = some ⟨oc76, od73, .func (PySem.W.fnOf "less_worth" "less_worth" (defArgs s_less_worth) (defBody s_less_worth) (defScope s_less_worth) .none kV81 dc77 pm78 an74 cd79 ct80), sl75⟩)
    (c_less_worth : PySem.W.codeIn K cd79 "less_worth" = true)
    (k_less_worth : PySem.W.keepIn K (.ref f72) = true)
    (a_below_worth : PySem.W.nsIn K mainGlobals "below_worth" = some (some (.ref f82)))
    (l_below_worth : K.lookup f82 = some ⟨oc86, od83, .func (PySem.W.fnOf "below_worth" "below_worth" (defArgs s_below_worth) (defBody s_below_worth) (defScope s_below_worth) .none kV91 dc87 pm88 an84 cd89 ct90), sl85⟩)
    (c_below_worth : PySem.W.codeIn K cd89 "below_worth" = true)
    (k_below_worth : PySem.W.keepIn K (.ref f82) = true)
    (a_if_worth : PySem.W.nsIn K mainGlobals "if_worth" = some (some (.ref f92)))
    (l_if_worth : K.lookup f92 = some ⟨oc96, od93, .func (PySem.W.fnOf "if_worth" "if_worth" (defArgs s_if_worth) (defBody s_if_worth) (defScope s_if_worth) .none kV101 dc97 pm98 an94 cd99 ct100), sl95⟩)
    (c_if_worth : PySem.W.codeIn K cd99 "if_worth" = true)
    (k_if_worth : PySem.W.keepIn K (.ref f92) = true)
    (a_say_worth : PySem.W.nsIn K mainGlobals "say_worth" = some (some (.ref f102)))
    (l_say_worth : K.lookup f102 = some ⟨oc106, od103, .func (PySem.W.fnOf "say_worth" "say_worth" (defArgs s_say_worth) (defBody s_say_worth) (defScope s_say_worth) .none kV111 dc107 pm108 an104 cd109 ct110), sl105⟩)
    (c_say_worth : PySem.W.codeIn K cd109 "say_worth" = true)
    (k_say_worth : PySem.W.keepIn K (.ref f102) = true)
    (a_row_worth : PySem.W.nsIn K mainGlobals "row_worth" = some (some (.ref f112)))
    (l_row_worth : K.lookup f112 = some ⟨oc116, od113, .func (PySem.W.fnOf "row_worth" "row_worth" (defArgs s_row_worth) (defBody s_row_worth) (defScope s_row_worth) .none kV121 dc117 pm118 an114 cd119 ct120), sl115⟩)
    (c_row_worth : PySem.W.codeIn K cd119 "row_worth" = true)
    (k_row_worth : PySem.W.keepIn K (.ref f112) = true)
    (a_let_worth : PySem.W.nsIn K mainGlobals "let_worth" = some (some (.ref f122)))
    (l_let_worth : K.lookup f122 = some ⟨oc126, od123, .func (PySem.W.fnOf "let_worth" "let_worth" (defArgs s_let_worth) (defBody s_let_worth) (defScope s_let_worth) .none kV131 dc127 pm128 an124 cd129 ct130), sl125⟩)
    (c_let_worth : PySem.W.codeIn K cd129 "let_worth" = true)
    (k_let_worth : PySem.W.keepIn K (.ref f122) = true)
    (a_each_worth : PySem.W.nsIn K mainGlobals "each_worth" = some (some (.ref f132)))
    (l_each_worth : K.lookup f132 = some ⟨oc136, od133, .func (PySem.W.fnOf "each_worth" "each_worth" (defArgs s_each_worth) (defBody s_each_worth) (defScope s_each_worth) .none kV141 dc137 pm138 an134 cd139 ct140), sl135⟩)
    (c_each_worth : PySem.W.codeIn K cd139 "each_worth" = true)
    (k_each_worth : PySem.W.keepIn K (.ref f132) = true)
    (a_Going___init__ : PySem.W.findIn K (.ref C1) "__init__" = some (some (.ref f142)))
    (i_Going___init__ : PySem.W.isFn K (.ref f142) = true)
    (l_Going___init__ : K.lookup f142 = some ⟨oc146, od143, .func (PySem.W.fnOf "__init__" "Going.__init__" (defArgs s_Going___init__) (defBody s_Going___init__) (defScope s_Going___init__) .none kV151 dc147 pm148 an144 cd149 ct150), sl145⟩)
    (c_Going___init__ : PySem.W.codeIn K cd149 "Going.__init__" = true)
    (k_Going___init__ : PySem.W.keepIn K (.ref f142) = true)
    (a_Going_worth : PySem.W.findIn K (.ref C1) "worth" = some (some (.ref f152)))
    (i_Going_worth : PySem.W.isFn K (.ref f152) = true)
    (l_Going_worth : K.lookup f152 = some ⟨oc156, od153, .func (PySem.W.fnOf "worth" "Going.worth" (defArgs s_Going_worth) (defBody s_Going_worth) (defScope s_Going_worth) .none kV161 dc157 pm158 an154 cd159 ct160), sl155⟩)
    (c_Going_worth : PySem.W.codeIn K cd159 "Going.worth" = true)
    (k_Going_worth : PySem.W.keepIn K (.ref f152) = true)
    (a_Going_part_worths : PySem.W.findIn K (.ref C1) "part_worths" = some (some (.ref f162)))
    (i_Going_part_worths : PySem.W.isFn K (.ref f162) = true)
    (l_Going_part_worths : K.lookup f162 = some ⟨oc166, od163, .func (PySem.W.fnOf "part_worths" "Going.part_worths" (defArgs s_Going_part_worths) (defBody s_Going_part_worths) (defScope s_Going_part_worths) .none kV171 dc167 pm168 an164 cd169 ct170), sl165⟩)
    (c_Going_part_worths : PySem.W.codeIn K cd169 "Going.part_worths" = true)
    (k_Going_part_worths : PySem.W.keepIn K (.ref f162) = true)
    (a_run : PySem.W.nsIn K mainGlobals "run" = some (some (.ref f172)))
    (l_run : K.lookup f172 = some ⟨oc176, od173, .func (PySem.W.fnOf "run" "run" (defArgs s_run) (defBody s_run) (defScope s_run) .none kV181 dc177 pm178 an174 cd179 ct180), sl175⟩)
    (c_run : PySem.W.codeIn K cd179 "run" = true)
    (k_run : PySem.W.keepIn K (.ref f172) = true)
    (a_law_hand : PySem.W.nsIn K mainGlobals "_law_hand" = some (some (.ref f182)))
    (l_law_hand : K.lookup f182 = some ⟨oc186, od183, .func (PySem.W.fnOf "_law_hand" "_law_hand" (defArgs s_law_hand) (defBody s_law_hand) (defScope s_law_hand) .none kV191 dc187 pm188 an184 cd189 ct190), sl185⟩)
    (c_law_hand : PySem.W.codeIn K cd189 "_law_hand" = true)
    (k_law_hand : PySem.W.keepIn K (.ref f182) = true)
    (a_law_take : PySem.W.nsIn K mainGlobals "_law_take" = some (some (.ref f192)))
    (l_law_take : K.lookup f192 = some ⟨oc196, od193, .func (PySem.W.fnOf "_law_take" "_law_take" (defArgs s_law_take) (defBody s_law_take) (defScope s_law_take) .none kV201 dc197 pm198 an194 cd199 ct200), sl195⟩)
    (c_law_take : PySem.W.codeIn K cd199 "_law_take" = true)
    (k_law_take : PySem.W.keepIn K (.ref f192) = true)
    (a_law_pick : PySem.W.nsIn K mainGlobals "_law_pick" = some (some (.ref f202)))
    (l_law_pick : K.lookup f202 = some ⟨oc206, od203, .func (PySem.W.fnOf "_law_pick" "_law_pick" (defArgs s_law_pick) (defBody s_law_pick) (defScope s_law_pick) .none kV211 dc207 pm208 an204 cd209 ct210), sl205⟩)
    (c_law_pick : PySem.W.codeIn K cd209 "_law_pick" = true)
    (k_law_pick : PySem.W.keepIn K (.ref f202) = true)
    (a_law_number : PySem.W.nsIn K mainGlobals "_law_number" = some (some (.ref f212)))
    (l_law_number : K.lookup f212 = some ⟨oc216, od213, .func (PySem.W.fnOf "_law_number" "_law_number" (defArgs s_law_number) (defBody s_law_number) (defScope s_law_number) .none kV221 dc217 pm218 an214 cd219 ct220), sl215⟩)
    (c_law_number : PySem.W.codeIn K cd219 "_law_number" = true)
    (k_law_number : PySem.W.keepIn K (.ref f212) = true)
    (a_law_due : PySem.W.nsIn K mainGlobals "_law_due" = some (some (.ref f222)))
    (l_law_due : K.lookup f222 = some ⟨oc226, od223, .func (PySem.W.fnOf "_law_due" "_law_due" (defArgs s_law_due) (defBody s_law_due) (defScope s_law_due) .none kV231 dc227 pm228 an224 cd229 ct230), sl225⟩)
    (c_law_due : PySem.W.codeIn K cd229 "_law_due" = true)
    (k_law_due : PySem.W.keepIn K (.ref f222) = true)
    (a_law_many_right : PySem.W.nsIn K mainGlobals "_law_many_right" = some (some (.ref f232)))
    (l_law_many_right : K.lookup f232 = some ⟨oc236, od233, .func (PySem.W.fnOf "_law_many_right" "_law_many_right" (defArgs s_law_many_right) (defBody s_law_many_right) (defScope s_law_many_right) .none kV241 dc237 pm238 an234 cd239 ct240), sl235⟩)
    (c_law_many_right : PySem.W.codeIn K cd239 "_law_many_right" = true)
    (k_law_many_right : PySem.W.keepIn K (.ref f232) = true)
    (a_law_pairs_right : PySem.W.nsIn K mainGlobals "_law_pairs_right" = some (some (.ref f242)))
    (l_law_pairs_right : K.lookup f242 = some ⟨oc246, od243, .func (PySem.W.fnOf "_law_pairs_right" "_law_pairs_right" (defArgs s_law_pairs_right) (defBody s_law_pairs_right) (defScope s_law_pairs_right) .none kV251 dc247 pm248 an244 cd249 ct250), sl245⟩)
    (c_law_pairs_right : PySem.W.codeIn K cd249 "_law_pairs_right" = true)
    (k_law_pairs_right : PySem.W.keepIn K (.ref f242) = true)
    (a_law_each_right : PySem.W.nsIn K mainGlobals "_law_each_right" = some (some (.ref f252)))
    (l_law_each_right : K.lookup f252 = some ⟨oc256, od253, .func (PySem.W.fnOf "_law_each_right" "_law_each_right" (defArgs s_law_each_right) (defBody s_law_each_right) (defScope s_law_each_right) .none kV261 dc257 pm258 an254 cd259 ct260), sl255⟩)
    (c_law_each_right : PySem.W.codeIn K cd259 "_law_each_right" = true)
    (k_law_each_right : PySem.W.keepIn K (.ref f252) = true)
    (a_law : PySem.W.nsIn K mainGlobals "law" = some (some (.ref f262)))
    (l_law : K.lookup f262 = some ⟨oc266, od263, .func (PySem.W.fnOf "law" "law" (defArgs s_law) (defBody s_law) (defScope s_law) .none kV271 dc267 pm268 an264 cd269 ct270), sl265⟩)
    (c_law : PySem.W.codeIn K cd269 "law" = true)
    (k_law : PySem.W.keepIn K (.ref f262) = true)
    (z_abs : PySem.W.nsIn K mainGlobals "abs" = some none)
    (z_all : PySem.W.nsIn K mainGlobals "all" = some none)
    (z_dict : PySem.W.nsIn K mainGlobals "dict" = some none)
    (z_int : PySem.W.nsIn K mainGlobals "int" = some none)
    (z_len : PySem.W.nsIn K mainGlobals "len" = some none)
    (z_max : PySem.W.nsIn K mainGlobals "max" = some none)
    (z_min : PySem.W.nsIn K mainGlobals "min" = some none)
    (z_range : PySem.W.nsIn K mainGlobals "range" = some none)
    (z_repr : PySem.W.nsIn K mainGlobals "repr" = some none)
    (z_sum : PySem.W.nsIn K mainGlobals "sum" = some none)
    (z_tuple : PySem.W.nsIn K mainGlobals "tuple" = some none)
    (z_zip : PySem.W.nsIn K mainGlobals "zip" = some none)
    (x_ROUNDS : PySem.W.nsIn K mainGlobals "ROUNDS" = some (some (.int 4 t272)))
    (x_WAYS : PySem.W.nsIn K mainGlobals "WAYS" = some (some (.ref a273)))
    (l_WAYS : K.lookup a273 = some ⟨.type "dict", none, .dict (List.toArray [⟨h274, .str "num" t275, (.ref f22)⟩, ⟨h276, .str "name" t277, (.ref f32)⟩, ⟨h278, .str "plus" t279, (.ref f42)⟩, ⟨h280, .str "times" t281, (.ref f52)⟩, ⟨h282, .str "most" t283, (.ref f62)⟩, ⟨h284, .str "less" t285, (.ref f72)⟩, ⟨h286, .str "below" t287, (.ref f82)⟩, ⟨h288, .str "if" t289, (.ref f92)⟩, ⟨h290, .str "say" t291, (.ref f102)⟩, ⟨h292, .str "row" t293, (.ref f112)⟩, ⟨h294, .str "let" t295, (.ref f122)⟩, ⟨h296, .str "each" t297, (.ref f132)⟩]) n298, #[]⟩)
    (m_WAYS : (a273 == sysModules) = false)
    (h_WAYS_11 : h296 = PyData.keyHash w.params "each")
    (h_WAYS_10 : h294 = PyData.keyHash w.params "let")
    (h_WAYS_9 : h292 = PyData.keyHash w.params "row")
    (h_WAYS_8 : h290 = PyData.keyHash w.params "say")
    (h_WAYS_7 : h288 = PyData.keyHash w.params "if")
    (h_WAYS_6 : h286 = PyData.keyHash w.params "below")
    (h_WAYS_5 : h284 = PyData.keyHash w.params "less")
    (h_WAYS_4 : h282 = PyData.keyHash w.params "most")
    (h_WAYS_3 : h280 = PyData.keyHash w.params "times")
    (h_WAYS_2 : h278 = PyData.keyHash w.params "plus")
    (h_WAYS_1 : h276 = PyData.keyHash w.params "name")
    (h_WAYS_0 : h274 = PyData.keyHash w.params "num")
    (x_WHEEL : PySem.W.nsIn K mainGlobals "WHEEL" = some (some (.int 9973 t299)))
    : ∃ fd : FuncData, (∀ (s : Shared) (v : Value), BindsTo s fd ⟨[v], []⟩ [("_law_script", v)]) ∧ ∀ base : Heap, K.In base → base.Ns mainGlobals mg → (∃ o, base.get? sysModules = some o) → FnG l.prog w K mg base (lv 60) fa fd ["_law_script"] (spLaw K) := by
  have e := hfa.symm.trans (PySem.W.mg_of X G a_law)
  cases e
  have F_rest_of := funD_mk (K := K) (kws := []) l_rest_of c_rest_of k_rest_of kw_none
  have F_with_name := funD_mk (K := K) (kws := []) l_with_name c_with_name k_with_name kw_none
  have F_num_worth := funD_mk (K := K) (kws := []) l_num_worth c_num_worth k_num_worth kw_none
  have F_name_worth := funD_mk (K := K) (kws := []) l_name_worth c_name_worth k_name_worth kw_none
  have F_plus_worth := funD_mk (K := K) (kws := []) l_plus_worth c_plus_worth k_plus_worth kw_none
  have F_times_worth := funD_mk (K := K) (kws := []) l_times_worth c_times_worth k_times_worth kw_none
  have F_most_worth := funD_mk (K := K) (kws := []) l_most_worth c_most_worth k_most_worth kw_none
  have F_less_worth := funD_mk (K := K) (kws := []) l_less_worth c_less_worth k_less_worth kw_none
  have F_below_worth := funD_mk (K := K) (kws := []) l_below_worth c_below_worth k_below_worth kw_none
  have F_if_worth := funD_mk (K := K) (kws := []) l_if_worth c_if_worth k_if_worth kw_none
  have F_say_worth := funD_mk (K := K) (kws := []) l_say_worth c_say_worth k_say_worth kw_none
  have F_row_worth := funD_mk (K := K) (kws := []) l_row_worth c_row_worth k_row_worth kw_none
  have F_let_worth := funD_mk (K := K) (kws := []) l_let_worth c_let_worth k_let_worth kw_none
  have F_each_worth := funD_mk (K := K) (kws := []) l_each_worth c_each_worth k_each_worth kw_none
  have F_Going___init__ := funD_mk (K := K) (kws := []) l_Going___init__ c_Going___init__ k_Going___init__ kw_none
  have F_Going_worth := funD_mk (K := K) (kws := []) l_Going_worth c_Going_worth k_Going_worth kw_none
  have F_Going_part_worths := funD_mk (K := K) (kws := []) l_Going_part_worths c_Going_part_worths k_Going_part_worths kw_none
  have F_run := funD_mk (K := K) (kws := []) l_run c_run k_run kw_none
  have F_law_hand := funD_mk (K := K) (kws := []) l_law_hand c_law_hand k_law_hand kw_none
  have F_law_take := funD_mk (K := K) (kws := []) l_law_take c_law_take k_law_take kw_none
  have F_law_pick := funD_mk (K := K) (kws := []) l_law_pick c_law_pick k_law_pick kw_none
  have F_law_number := funD_mk (K := K) (kws := []) l_law_number c_law_number k_law_number kw_none
  have F_law_due := funD_mk (K := K) (kws := []) l_law_due c_law_due k_law_due kw_none
  have F_law_many_right := funD_mk (K := K) (kws := []) l_law_many_right c_law_many_right k_law_many_right kw_none
  have F_law_pairs_right := funD_mk (K := K) (kws := []) l_law_pairs_right c_law_pairs_right k_law_pairs_right kw_none
  have F_law_each_right := funD_mk (K := K) (kws := []) l_law_each_right c_law_each_right k_law_each_right kw_none
  have F_law := funD_mk (K := K) (kws := []) l_law c_law k_law kw_none
  have T : Txt K w mg (fun i => ([f2, f12, f22, f32, f42, f52, f62, f72, f82, f92, f102, f112, f122, f132, f142, f152, f162, f172, f182, f192, f202, f212, f222, f232, f242, f252, fa, C1] : List Addr).getD i 0) (fdOf _ _ _ _ _ _ _ _ _ _ _ _ _ _ _ _ _ _ _ _ _ _ _ _ _ _ _) := {
    z_abs := PySem.W.mg_none_of X G z_abs,
    z_all := PySem.W.mg_none_of X G z_all,
    z_dict := PySem.W.mg_none_of X G z_dict,
    z_int := PySem.W.mg_none_of X G z_int,
    z_len := PySem.W.mg_none_of X G z_len,
    z_max := PySem.W.mg_none_of X G z_max,
    z_min := PySem.W.mg_none_of X G z_min,
    z_range := PySem.W.mg_none_of X G z_range,
    z_repr := PySem.W.mg_none_of X G z_repr,
    z_sum := PySem.W.mg_none_of X G z_sum,
    z_tuple := PySem.W.mg_none_of X G z_tuple,
    z_zip := PySem.W.mg_none_of X G z_zip,
    c_ROUNDS := grep_of (PySem.W.mg_of X G x_ROUNDS) kv_int,
    c_WAYS := grep_of (PySem.W.mg_of X G x_WAYS) (kv_kd l_WAYS m_WAYS (ke_cons h_WAYS_0 (ke_cons h_WAYS_1 (ke_cons h_WAYS_2 (ke_cons h_WAYS_3 (ke_cons h_WAYS_4 (ke_cons h_WAYS_5 (ke_cons h_WAYS_6 (ke_cons h_WAYS_7 (ke_cons h_WAYS_8 (ke_cons h_WAYS_9 (ke_cons h_WAYS_10 (ke_cons h_WAYS_11 ke_nil)))))))))))) (kvs_cons (kv_fn (u := Value.none) (PySem.W.mg_of X G a_num_worth)) (kvs_cons (kv_fn (u := Value.none) (PySem.W.mg_of X G a_name_worth)) (kvs_cons (kv_fn (u := Value.none) (PySem.W.mg_of X G a_plus_worth)) (kvs_cons (kv_fn (u := Value.none) (PySem.W.mg_of X G a_times_worth)) (kvs_cons (kv_fn (u := Value.none) (PySem.W.mg_of X G a_most_worth)) (kvs_cons (kv_fn (u := Value.none) (PySem.W.mg_of X G a_less_worth)) (kvs_cons (kv_fn (u := Value.none) (PySem.W.mg_of X G a_below_worth)) (kvs_cons (kv_fn (u := Value.none) (PySem.W.mg_of X G a_if_worth)) (kvs_cons (kv_fn (u := Value.none) (PySem.W.mg_of X G a_say_worth)) (kvs_cons (kv_fn (u := Value.none) (PySem.W.mg_of X G a_row_worth)) (kvs_cons (kv_fn (u := Value.none) (PySem.W.mg_of X G a_let_worth)) (kvs_cons (kv_fn (u := Value.none) (PySem.W.mg_of X G a_each_worth)) kvs_nil))))))))))))),
    c_WHEEL := grep_of (PySem.W.mg_of X G x_WHEEL) kv_int,
    g_rest_of := PySem.W.mg_of X G a_rest_of,
    F_rest_of := F_rest_of,
    g_with_name := PySem.W.mg_of X G a_with_name,
    F_with_name := F_with_name,
    g_num_worth := PySem.W.mg_of X G a_num_worth,
    F_num_worth := F_num_worth,
    g_name_worth := PySem.W.mg_of X G a_name_worth,
    F_name_worth := F_name_worth,
    g_plus_worth := PySem.W.mg_of X G a_plus_worth,
    F_plus_worth := F_plus_worth,
    g_times_worth := PySem.W.mg_of X G a_times_worth,
    F_times_worth := F_times_worth,
    g_most_worth := PySem.W.mg_of X G a_most_worth,
    F_most_worth := F_most_worth,
    g_less_worth := PySem.W.mg_of X G a_less_worth,
    F_less_worth := F_less_worth,
    g_below_worth := PySem.W.mg_of X G a_below_worth,
    F_below_worth := F_below_worth,
    g_if_worth := PySem.W.mg_of X G a_if_worth,
    F_if_worth := F_if_worth,
    g_say_worth := PySem.W.mg_of X G a_say_worth,
    F_say_worth := F_say_worth,
    g_row_worth := PySem.W.mg_of X G a_row_worth,
    F_row_worth := F_row_worth,
    g_let_worth := PySem.W.mg_of X G a_let_worth,
    F_let_worth := F_let_worth,
    g_each_worth := PySem.W.mg_of X G a_each_worth,
    F_each_worth := F_each_worth,
    mk_Going___init__ := ⟨mk_Going, a_Going___init__, i_Going___init__, kc_Going⟩,
    F_Going___init__ := F_Going___init__,
    mt_Going_worth := ⟨_, PySem.W.mg_of X G a_Going, ⟨pg_Going, hd_Going, po_Going, sa_Going⟩, ⟨a_Going_worth, i_Going_worth, k_Going_worth⟩⟩,
    F_Going_worth := F_Going_worth,
    mt_Going_part_worths := ⟨_, PySem.W.mg_of X G a_Going, ⟨pg_Going, hd_Going, po_Going, sa_Going⟩, ⟨a_Going_part_worths, i_Going_part_worths, k_Going_part_worths⟩⟩,
    F_Going_part_worths := F_Going_part_worths,
    g_run := PySem.W.mg_of X G a_run,
    F_run := F_run,
    g_law_hand := PySem.W.mg_of X G a_law_hand,
    F_law_hand := F_law_hand,
    g_law_take := PySem.W.mg_of X G a_law_take,
    F_law_take := F_law_take,
    g_law_pick := PySem.W.mg_of X G a_law_pick,
    F_law_pick := F_law_pick,
    g_law_number := PySem.W.mg_of X G a_law_number,
    F_law_number := F_law_number,
    g_law_due := PySem.W.mg_of X G a_law_due,
    F_law_due := F_law_due,
    g_law_many_right := PySem.W.mg_of X G a_law_many_right,
    F_law_many_right := F_law_many_right,
    g_law_pairs_right := PySem.W.mg_of X G a_law_pairs_right,
    F_law_pairs_right := F_law_pairs_right,
    g_law_each_right := PySem.W.mg_of X G a_law_each_right,
    F_law_each_right := F_law_each_right,
    g_law := PySem.W.mg_of X G a_law,
    F_law := F_law,
    ca_Going := PySem.W.mg_of X G a_Going,
    fo_told_aloud := (fld_cons (PySem.W.mg_of X G a_Going) ⟨pg_Going, hd_Going, po_Going, sa_Going⟩ n_Going_told_aloud fld_nil) }
  exact ⟨_, fun s v => .of_eq rfl, fun base _ _ hM => law_ok (G := ⟨K, w, mg⟩) (all (P := l.prog) (base := base) hM T 60).c_law.1 TT⟩
end K21
set_option Elab.async false
set_option linter.all false
set_option maxRecDepth 100000
/-! L3N: what an answer satisfies (the plain laws are shown by these). -/
namespace L3
open PySem
/-- an equation that simp does not take as one by definition (the kernel would run the terms) -/
theorem nrfl {α : Sort u} {a b : α} (h : a = b) : a = b := h

/-- two lists, item by item -/
inductive All2 {α β : Type} (P : α → β → Prop) : List α → List β → Prop where
  | nil : All2 P [] []
  | cons {x y xs ys} : P x y → All2 P xs ys → All2 P (x :: xs) (y :: ys)
theorem All2.imp {α β : Type} {P R : α → β → Prop} {xs ys} (h : All2 P xs ys) (m : ∀ x ∈ xs, ∀ y, P x y → R x y) : All2 R xs ys := by
  induction h with
  | nil => exact .nil
  | cons p _ ih => exact .cons (m _ (List.mem_cons_self ..) _ p) (ih fun x hx => m x (List.mem_cons_of_mem _ hx))
theorem All2.map_r {α β γ : Type} {P : α → γ → Prop} {f : β → γ} {xs : List α} {ys : List β} (h : All2 (fun x y => P x (f y)) xs ys) : All2 P xs (ys.map f) := by
  induction h with
  | nil => exact .nil
  | cons p _ ih => exact .cons p ih
theorem All2.app {α β : Type} {P : α → β → Prop} {xs xs' ys ys'} (h : All2 P xs ys) (g : All2 P xs' ys') : All2 P (xs ++ xs') (ys ++ ys') := by
  induction h with
  | nil => exact g
  | cons p _ ih => exact .cons p ih
theorem All2.len {α β : Type} {P : α → β → Prop} {xs ys} (h : All2 P xs ys) : ys.length = xs.length := by induction h <;> simp_all
theorem All2.all {α β : Type} {P : α → β → Prop} {R : β → Prop} {xs ys} (h : All2 P xs ys) (m : ∀ x ∈ xs, ∀ y, P x y → R y) : ∀ y ∈ ys, R y := by
  induction h with
  | nil => intro y h; cases h
  | cons p _ ih =>
    intro y h
    rcases List.mem_cons.mp h with rfl | h
    · exact m _ (List.mem_cons_self ..) _ p
    · exact ih (fun x hx => m x (List.mem_cons_of_mem _ hx)) y h
/-- an inductive predicate: nothing unfolds it (a term to be run is not run by a look at its goal) -/
inductive R.sat {α : Type} : R α → (α → Store → Prop) → Prop where
  | mk {a : α} {S : Store} {Q : α → Store → Prop} (h : Q a S) : R.sat (.ok a S) Q
section
variable {α β : Type} {S : Store} {env : EnvD} {d : D}
@[simp] theorem sat_ok {a : α} {Q : α → Store → Prop} : (R.ok a S).sat Q = Q a S := propext ⟨fun h => by cases h; assumption, .mk⟩
@[simp] theorem sat_bad {Q : α → Store → Prop} : (R.bad : R α).sat Q = False := propext ⟨fun h => (by cases h), False.elim⟩
@[simp] theorem sat_exc {e : Ex} {Q : α → Store → Prop} : (R.exc e S : R α).sat Q = False := propext ⟨fun h => (by cases h), False.elim⟩
theorem sat_bind {r : R α} {f : α → Store → R β} {Q : β → Store → Prop} : (r.bind f).sat Q = r.sat fun a S => (f a S).sat Q := by cases r <;> simp [R.bind]
theorem sat_mono {r : R α} {Q Q' : α → Store → Prop} (h : r.sat Q) (m : ∀ a S, Q a S → Q' a S) : r.sat Q' := by cases h with | mk h => exact .mk (m _ _ h)
theorem sat_ex {r : R α} {Q : α → Store → Prop} : r.sat Q ↔ ∃ a S, r = .ok a S ∧ Q a S :=
  ⟨fun h => by cases h with | mk h => exact ⟨_, _, rfl, h⟩, fun ⟨_, _, e, h⟩ => by rw [e]; exact .mk h⟩
theorem sat_if {c : Prop} [Decidable c] {a b : R α} {Q : α → Store → Prop} : (if c then a else b).sat Q = if c then a.sat Q else b.sat Q := by split <;> rfl
theorem sat_if_bad {c : Prop} [Decidable c] {a : R α} {Q : α → Store → Prop} : (if c then a else .bad).sat Q = (c ∧ a.sat Q) := by by_cases h : c <;> simp [h]
def blD (x : D) (S : Store) : R Bool := match x with
  | .bl k => .ok k S
  | _ => .bad
@[simp] theorem blD_bl {k : Bool} : blD (.bl k) S = .ok k S := nrfl rfl
theorem of_sat {r : R α} {x : α} (h : r.sat fun d S' => d = x ∧ S' = S) : r = .ok x S := by
  obtain ⟨a, S', e, rfl, rfl⟩ := sat_ex.mp h
  exact e
theorem to_sat {r : R α} {x : α} {Q : α → Store → Prop} (h : r = .ok x S) (q : Q x S) : r.sat Q := by rw [h]; exact .mk q
/-! expressions -/
variable {Q : D → Store → Prop} {QB : Bool → Store → Prop} {QL : List D → Store → Prop}
@[simp] theorem sat_eVar {i : Nat} : (eVar i env S).sat Q = match env[i]? with
    | some (some d) => Q d S
    | _ => False := by unfold eVar; cases env[i]? with
  | none => simp
  | some o => cases o <;> simp
@[simp] theorem sat_eK : (eK d env S).sat Q = Q d S := sat_ok
@[simp] theorem sat_e1 {f : L3.F1} {a : ED} : (e1 f a env S).sat Q = (a env S).sat fun x S1 => (f x S1).sat Q := sat_bind
@[simp] theorem sat_e2 {f : L3.F2} {a b : ED} : (e2 f a b env S).sat Q = (a env S).sat fun x S1 => (b env S1).sat fun y S2 => (f x y S2).sat Q := by unfold e2; rw [sat_bind]; simp only [sat_bind]
@[simp] theorem sat_aNil : (aNil env S).sat QL = QL [] S := sat_ok
@[simp] theorem sat_aCons {a : ED} {r : AD} : (aCons a r env S).sat QL = (a env S).sat fun x S1 => (r env S1).sat fun xs S2 => QL (x :: xs) S2 := by unfold aCons; rw [sat_bind]; simp only [sat_bind, sat_ok]
@[simp] theorem sat_eN {f : FN} {a : AD} : (eN f a env S).sat Q = (a env S).sat fun xs S1 => (f xs S1).sat Q := sat_bind
@[simp] theorem sat_eIf {c : TD} {a b : ED} : (eIf c a b env S).sat Q = (c env S).sat fun k S1 => if k = true then (a env S1).sat Q else (b env S1).sat Q := by
  unfold eIf; rw [sat_bind]; congr; funext k S1; cases k <;> simp
@[simp] theorem sat_tOfE {a : ED} : (tOfE a env S).sat QB = (a env S).sat fun x S1 => (blD x S1).sat QB := by
  unfold tOfE; rw [sat_bind]; congr
@[simp] theorem sat_tTruth {a : ED} : (tTruth a env S).sat QB = (a env S).sat fun x S1 => (truthD x S1).sat QB := sat_bind
@[simp] theorem truthD_bl {k : Bool} : truthD (.bl k) S = .ok k S := nrfl rfl
@[simp] theorem truthD_non : truthD .non S = .ok false S := nrfl rfl
@[simp] theorem truthD_int {i : Int} : truthD (.int i) S = .ok (i != 0) S := nrfl rfl
@[simp] theorem truthD_tup {l : List D} : truthD (.tup l) S = .ok (!l.isEmpty) S := nrfl rfl
@[simp] theorem truthD_lst {l : List D} : truthD (.lst l) S = .ok (!l.isEmpty) S := nrfl rfl
@[simp] theorem sat_tNot {a : TD} : (tNot a env S).sat QB = (a env S).sat fun k S1 => QB (!k) S1 := by unfold tNot; rw [sat_bind]; simp only [sat_ok]
@[simp] theorem sat_tAnd {a b : TD} : (tAnd a b env S).sat QB = (a env S).sat fun k S1 => if k = true then (b env S1).sat QB else QB false S1 := by
  unfold tAnd; rw [sat_bind]; congr; funext k S1; cases k <;> simp
@[simp] theorem sat_tOr {a b : TD} : (tOr a b env S).sat QB = (a env S).sat fun k S1 => if k = true then QB true S1 else (b env S1).sat QB := by
  unfold tOr; rw [sat_bind]; congr; funext k S1; cases k <;> simp
@[simp] theorem sat_eNot {a : ED} : (eNot a env S).sat Q = (a env S).sat fun x S1 => (blD x S1).sat fun k S2 => Q (.bl (!k)) S2 := by
  unfold eNot; rw [sat_bind, sat_tOfE]; simp only [sat_ok]
@[simp] theorem sat_eAnd {a b : ED} : (eAnd a b env S).sat Q = (a env S).sat fun x S1 => (blD x S1).sat fun k S2 => if k = true then (b env S2).sat Q else Q (.bl false) S2 := by
  unfold eAnd; rw [sat_bind, sat_tOfE]; congr; funext x S1; congr; funext k S2; cases k <;> simp
@[simp] theorem sat_eOr {a b : ED} : (eOr a b env S).sat Q = (a env S).sat fun x S1 => (blD x S1).sat fun k S2 => if k = true then Q (.bl true) S2 else (b env S2).sat Q := by
  unfold eOr; rw [sat_bind, sat_tOfE]; congr; funext x S1; congr; funext k S2; cases k <;> simp
@[simp] theorem sat_eChain {f g : L3.F2} {a b c : ED} : (eChain f g a b c env S).sat Q = (a env S).sat fun x S1 => (b env S1).sat fun y S2 => (f x y S2).sat fun r S3 => (blD r S3).sat fun k S4 => if k = true then (c env S4).sat fun z S5 => (g y z S5).sat Q else Q (.bl false) S4 := by
  unfold eChain; rw [sat_bind]; simp only [sat_bind]; congr; funext x S1; congr; funext y S2; congr; funext r S3
  cases r with
  | bl k => cases k <;> simp [sat_bind]
  | _ => simp [blD]
@[simp] theorem sat_eBM {T : String} {f : D → FN} {o : ED} {a : AD} : (eBM T f o a env S).sat Q = (o env S).sat fun x S1 => (mtD x S1 = some T ∧ (a env S1).sat fun xs S2 => (f x xs S2).sat Q) := by
  unfold eBM; rw [sat_bind]; congr; funext x S1; rw [sat_if_bad, sat_bind]
@[simp] theorem sat_eKw {f : List D → FN} {a b : AD} : (eKw f a b env S).sat Q = (a env S).sat fun xs S1 => (b env S1).sat fun zs S2 => (f xs zs S2).sat Q := by unfold eKw; rw [sat_bind]; simp only [sat_bind]
@[simp] theorem sat_eFnL {i : Nat} {x : Str} {F : FN} {a : AD} : (eFnL i x F a env S).sat Q = match env[i]? with
    | some (some (.glb y)) => y = x ∧ (a env S).sat fun xs S1 => (F xs S1).sat Q
    | _ => False := by
  unfold eFnL
  cases env[i]? with
  | none => simp
  | some o =>
    cases o with
    | none => simp
    | some d =>
      cases d with
      | glb y => simp only []; rw [sat_if_bad, sat_bind]
      | _ => simp
@[simp] theorem callK_eq {F : FN} {dds xs : List D} : callK F dds xs S = F (xs ++ dds) S := nrfl rfl
@[simp] theorem sat_iSeq {a : ED} : (iSeq a env S).sat QL = (a env S).sat fun x S1 => (itemsD x S1).sat QL := sat_bind
@[simp] theorem sat_iArgs {f : List D → Store → R (List D)} {a : AD} : (iArgs f a env S).sat QL = (a env S).sat fun xs S1 => (f xs S1).sat QL := sat_bind
@[simp] theorem itemsD_lst {l : List D} : itemsD (.lst l) S = .ok l S := nrfl rfl
@[simp] theorem itemsD_tup {l : List D} : itemsD (.tup l) S = .ok l S := nrfl rfl
@[simp] theorem sat_range1 {j : Int} : (range1 [.int j] S).sat QL = (okRng j = true ∧ QL (rangeD 0 j) S) := by unfold range1; simp only []; rw [sat_if_bad, sat_ok]
@[simp] theorem sat_range2 {i j : Int} : (range2 [.int i, .int j] S).sat QL = ((okRng i && okRng j) = true ∧ QL (rangeD i j) S) := by unfold range2; simp only []; rw [sat_if_bad, sat_ok]
@[simp] theorem sat_mkTup {xs : List D} : (mkTup xs S).sat Q = (xs.length ≤ sizeLine ∧ Q (.tup xs) S) := by unfold mkTup; rw [sat_if_bad, sat_ok]
@[simp] theorem sat_mkLst {xs : List D} : (mkLst xs S).sat Q = (xs.length ≤ sizeLine ∧ Q (.lst xs) S) := by unfold mkLst; rw [sat_if_bad, sat_ok]
@[simp] theorem sat_mkObj {xs : List D} : (mkObj xs S).sat Q = (xs.length ≤ sizeLine ∧ Q (.obj S.length) (S ++ [.lst xs])) := by unfold mkObj; rw [sat_if_bad, sat_ok]
/-! a list comprehension -/
/-- what one turn gives: kept or not, under the turn's own wish -/
def lcSat (g : GD) (tt : TD) (te : ED) (env : EnvD) : List D → Store → (List D → Store → Prop) → Prop
  | [], S, Q => Q [] S
  | x :: xs, S, Q => match g x env S with
    | .nx env1 S1 => (tt env1 S1).sat fun k S2 => if k = true then (te env1 S2).sat fun y S3 => lcSat g tt te env xs S3 fun ys S4 => Q (y :: ys) S4 else lcSat g tt te env xs S2 Q
    | _ => False
theorem sat_nox {r : R α} {Q : α → Store → Prop} : r.nox.sat Q = r.sat Q := by cases r <;> simp [R.nox]
theorem sat_lcL {g : GD} {tt : TD} {te : ED} {env : EnvD} : ∀ {xs : List D} {S : Store} {Q : List D → Store → Prop}, (lcL g tt te env xs S).sat Q = lcSat g tt te env xs S Q
  | [], _, _ => sat_ok
  | x :: xs, S, Q => by
    unfold lcL lcSat
    cases g x env S with
    | nx env1 S1 =>
      simp only
      rw [sat_bind, sat_nox]
      congr; funext k S2
      cases k with
      | true => simp only [if_true]; rw [sat_bind, sat_nox]; congr; funext y S3; rw [sat_bind, sat_lcL]; simp only [sat_ok]
      | false => simp only [Bool.false_eq_true, if_false]; exact sat_lcL
    | _ => simp
theorem sat_eLc {mi : ID} {vs : List Nat} {g : GD} {tt : TD} {te : ED} : (eLc mi vs g tt te env S).sat Q = (mi env S).sat fun xs S1 => (xs.length ≤ sizeLine ∧ lcSat g tt te (wipeD env vs) xs S1 fun ys S2 => Q (.lst ys) S2) := by
  unfold eLc; rw [sat_bind]; congr; funext xs S1; rw [sat_if_bad, sat_bind, sat_lcL]; simp only [sat_ok]
theorem lcSat_mono {g : GD} {tt : TD} {te : ED} {env : EnvD} : ∀ {xs : List D} {S : Store} {Q Q' : List D → Store → Prop}, lcSat g tt te env xs S Q → (∀ a S, Q a S → Q' a S) → lcSat g tt te env xs S Q'
  | [], _, _, _, h, m => m _ _ h
  | x :: xs, S, Q, Q', h, m => by
    unfold lcSat at h ⊢
    revert h
    cases g x env S with
    | nx env1 S1 =>
      simp only
      refine fun h => sat_mono h fun k S2 h => ?_
      cases k with
      | true => simp only [if_true] at h ⊢; exact sat_mono h fun y S3 h => lcSat_mono h fun ys S4 h => m _ _ h
      | false => simp only [Bool.false_eq_true, if_false] at h ⊢; exact lcSat_mono h m
    | _ => exact fun h => h
/-- with a rule for the turns: from x and the store, an answer y and a store, by I (what holds of the store between turns) and P x y -/
theorem lc_rule {i : Nat} {te : ED} {env : EnvD} (I : Store → Prop) (P : D → D → Prop) : ∀ {xs : List D} {S : Store} {Q : List D → Store → Prop},
    I S → (∀ x ∈ xs, ∀ S, I S → (te (env.set i (some x)) S).sat fun y S' => P x y ∧ I S') → (∀ ys S', I S' → All2 P xs ys → Q ys S') → lcSat (gName i) tYesD te env xs S Q
  | [], S, Q, hI, ht, hQ => hQ [] S hI .nil
  | x :: xs, S, Q, hI, ht, hQ => by
    unfold lcSat
    simp only [gName, tYesD, sat_ok, if_true]
    refine sat_mono (ht x (List.mem_cons_self ..) S hI) fun y S3 h => ?_
    exact lc_rule I P h.2 (fun x hx => ht x (List.mem_cons_of_mem _ hx)) fun ys S' h1 h2 => hQ _ _ h1 (.cons h.1 h2)
/-- where the turns leave the store alone and the answer is a function of the item -/
theorem lc_map {i : Nat} {te : ED} {env : EnvD} (f : D → D) {xs : List D} {S : Store} {Q : List D → Store → Prop}
    (ht : ∀ x ∈ xs, (te (env.set i (some x)) S).sat fun y S' => y = f x ∧ S' = S) (hQ : Q (xs.map f) S) : lcSat (gName i) tYesD te env xs S Q := by
  induction xs generalizing Q with
  | nil => exact hQ
  | cons x xs ih =>
    unfold lcSat
    simp only [gName, tYesD, sat_ok, if_true]
    refine sat_mono (ht x (List.mem_cons_self ..)) fun y S' h => ?_
    obtain ⟨rfl, rfl⟩ := h
    exact ih (fun x hx => ht x (List.mem_cons_of_mem _ hx)) hQ
/-- the same, item by item -/
theorem lc_two {i : Nat} {te : ED} {env : EnvD} {xs ys : List D} {S : Store} {Q : List D → Store → Prop}
    (ht : All2 (fun x y => (te (env.set i (some x)) S).sat fun z S' => z = y ∧ S' = S) xs ys) (hQ : Q ys S) : lcSat (gName i) tYesD te env xs S Q := by
  induction ht generalizing Q with
  | nil => exact hQ
  | @cons x y xs ys p _ ih =>
    unfold lcSat
    simp only [gName, tYesD, sat_ok, if_true]
    refine sat_mono p fun z S' h => ?_
    obtain ⟨rfl, rfl⟩ := h
    exact ih hQ
/-! statements -/
end
inductive SR.sat : SR → (EnvD → Store → Prop) → (D → Store → Prop) → (EnvD → Store → Prop) → (EnvD → Store → Prop) → Prop where
  | nx {e S} {N : EnvD → Store → Prop} {T : D → Store → Prop} {B C : EnvD → Store → Prop} (h : N e S) : SR.sat (.nx e S) N T B C
  | ret {d S} {N : EnvD → Store → Prop} {T : D → Store → Prop} {B C : EnvD → Store → Prop} (h : T d S) : SR.sat (.ret d S) N T B C
  | brk {e S} {N : EnvD → Store → Prop} {T : D → Store → Prop} {B C : EnvD → Store → Prop} (h : B e S) : SR.sat (.brk e S) N T B C
  | ct {e S} {N : EnvD → Store → Prop} {T : D → Store → Prop} {B C : EnvD → Store → Prop} (h : C e S) : SR.sat (.ct e S) N T B C
section
variable {S : Store} {env : EnvD} {d : D} {N B C : EnvD → Store → Prop} {T : D → Store → Prop} {Q : D → Store → Prop}
@[simp] theorem ssat_nx : (SR.nx env S).sat N T B C = N env S := propext ⟨fun h => by cases h; assumption, .nx⟩
@[simp] theorem ssat_ret : (SR.ret d S).sat N T B C = T d S := propext ⟨fun h => by cases h; assumption, .ret⟩
@[simp] theorem ssat_brk : (SR.brk env S).sat N T B C = B env S := propext ⟨fun h => by cases h; assumption, .brk⟩
@[simp] theorem ssat_ct : (SR.ct env S).sat N T B C = C env S := propext ⟨fun h => by cases h; assumption, .ct⟩
@[simp] theorem ssat_bad : SR.bad.sat N T B C = False := propext ⟨fun h => (by cases h), False.elim⟩
@[simp] theorem ssat_exc {e : Ex} : (SR.exc e env S).sat N T B C = False := propext ⟨fun h => (by cases h), False.elim⟩
theorem ssat_toS {α : Type} {r : R α} {k : α → Store → SR} : (r.toS env k).sat N T B C = r.sat fun a S => (k a S).sat N T B C := by cases r <;> simp [R.toS]
theorem ssat_mono {r : SR} {N' B' C' : EnvD → Store → Prop} {T' : D → Store → Prop} (h : r.sat N T B C) (hN : ∀ e S, N e S → N' e S) (hT : ∀ d S, T d S → T' d S) (hB : ∀ e S, B e S → B' e S) (hC : ∀ e S, C e S → C' e S) : r.sat N' T' B' C' := by
  cases h with
  | nx h => exact .nx (hN _ _ h)
  | ret h => exact .ret (hT _ _ h)
  | brk h => exact .brk (hB _ _ h)
  | ct h => exact .ct (hC _ _ h)
@[simp] theorem ssat_skip : (sSkip env S).sat N T B C = N env S := ssat_nx
@[simp] theorem ssat_seq {a b : SD} : (sSeq a b env S).sat N T B C = (a env S).sat (fun e S => (b e S).sat N T B C) T B C := by
  unfold sSeq; cases a env S <;> simp
@[simp] theorem ssat_if {c : TD} {a b : SD} : (sIf c a b env S).sat N T B C = (c env S).sat fun k S1 => if k = true then (a env S1).sat N T B C else (b env S1).sat N T B C := by
  unfold sIf; rw [ssat_toS]; congr; funext k S1; cases k <;> simp
@[simp] theorem ssat_sRet {a : ED} : (sRet a env S).sat N T B C = (a env S).sat T := by unfold sRet; rw [ssat_toS]; simp only [ssat_ret]
@[simp] theorem ssat_sExpr {a : ED} : (sExpr a env S).sat N T B C = (a env S).sat fun _ S1 => N env S1 := by unfold sExpr; rw [ssat_toS]; simp only [ssat_nx]
@[simp] theorem ssat_sBrk : (sBrk env S).sat N T B C = B env S := ssat_brk
@[simp] theorem ssat_sCt : (sCt env S).sat N T B C = C env S := ssat_ct
@[simp] theorem ssat_asg {a : ED} {g : GD} : (sAsg a g env S).sat N T B C = (a env S).sat fun d S1 => (g d env S1).sat N T B C := by unfold sAsg; rw [ssat_toS]
@[simp] theorem gName_eq {i : Nat} : gName i d env S = .nx (env.set i (some d)) S := nrfl rfl
@[simp] theorem gTup_tup {is : List Nat} {l : List D} : gTup is (.tup l) env S = gNames is l env S := nrfl rfl
@[simp] theorem gNames_nil : gNames [] [] env S = .nx env S := nrfl rfl
@[simp] theorem gNames_cons {i : Nat} {is : List Nat} {ds : List D} : gNames (i :: is) (d :: ds) env S = gNames is ds (env.set i (some d)) S := nrfl rfl
@[simp] theorem ssat_par {is : List Nat} {a : AD} : (sPar is a env S).sat N T B C = (a env S).sat fun xs S1 => (gNames is xs env S1).sat N T B C := by unfold sPar; rw [ssat_toS]
theorem ssat_for {mi : ID} {g : GD} {body : SD} : (sFor mi g body env S).sat N T B C = (mi env S).sat fun xs S1 => (forL g body xs env S1).sat N T B C := by unfold sFor; rw [ssat_toS]
@[simp] theorem forL_nil {g : GD} {body : SD} : (forL g body [] env S).sat N T B C = N env S := ssat_nx
theorem forL_cons {g : GD} {body : SD} {x : D} {xs : List D} : (forL g body (x :: xs) env S).sat N T B C = (g x env S).sat (fun e S => (body e S).sat (fun e S => (forL g body xs e S).sat N T B C) T N (fun e S => (forL g body xs e S).sat N T B C)) (fun _ _ => False) (fun _ _ => False) fun _ _ => False := by
  show SR.sat (match g x env S with
    | .nx env1 S1 => match body env1 S1 with
      | .nx env2 S2 => forL g body xs env2 S2
      | .ct env2 S2 => forL g body xs env2 S2
      | .brk env2 S2 => .nx env2 S2
      | .ret d S2 => .ret d S2
      | .exc e env2 S2 => .exc e env2 S2
      | .bad => .bad
    | _ => .bad) N T B C = _
  cases g x env S with
  | nx env1 S1 => simp only [ssat_nx]; cases body env1 S1 <;> simp
  | _ => simp
/-- a for with an invariant over the number of items done -/
theorem for_rule {g : GD} {body : SD} (I : Nat → EnvD → Store → Prop) {xs : List D} (h0 : I 0 env S)
    (hs : ∀ j (hj : j < xs.length) e S, I j e S → (g xs[j] e S).sat (fun e S => (body e S).sat (I (j + 1)) T N (I (j + 1))) (fun _ _ => False) (fun _ _ => False) fun _ _ => False)
    (hN : ∀ e S, I xs.length e S → N e S) : (forL g body xs env S).sat N T B C := by
  induction xs generalizing I env S with
  | nil => exact .nx (hN _ _ h0)
  | cons x xs ih =>
    rw [forL_cons]
    refine ssat_mono (hs 0 (by simp) env S h0) (fun e1 S1 h => ?_) (fun _ _ h => h) (fun _ _ h => h) (fun _ _ h => h)
    have go : ∀ e S, I 1 e S → (forL g body xs e S).sat N T B C := fun e S h =>
      ih (fun j => I (j + 1)) h (fun j hj e S h => by
        have := hs (j + 1) (by simp; omega) e S h
        simpa using this) (fun e S h => hN e S (by simpa using h))
    exact ssat_mono h go (fun _ _ h => h) (fun _ _ h => h) go
theorem while_rule {c : TD} {body : SD} (I : Nat → EnvD → Store → Prop) {m k : Nat} (hk : m < k) (h0 : I m env S)
    (hs : ∀ m e S, I m e S → (c e S).sat fun b S1 => if b = true then (body e S1).sat (fun e S => ∃ m' < m, I m' e S) T N (fun e S => ∃ m' < m, I m' e S) else N e S1) : (sWhile c body k env S).sat N T B C := by
  induction m using Nat.strongRecOn generalizing k env S with
  | _ m ih =>
    cases k with
    | zero => omega
    | succ k =>
      unfold sWhile
      rw [ssat_toS]
      refine sat_mono (hs m env S h0) fun b S1 h => ?_
      cases b with
      | false => simpa using h
      | true =>
        simp only [if_true] at h ⊢
        have go : ∀ e S, (∃ m' < m, I m' e S) → (sWhile c body k e S).sat N T B C := fun e S ⟨m', hm, h⟩ => ih m' hm (by omega) h
        revert h
        cases body env S1 with
        | nx e2 S2 => intro h; rw [ssat_nx] at h; exact go e2 S2 h
        | ct e2 S2 => intro h; rw [ssat_ct] at h; exact go e2 S2 h
        | brk e2 S2 => intro h; rw [ssat_brk] at h; exact .nx h
        | ret d S2 => intro h; rw [ssat_ret] at h; exact .ret h
        | _ => intro h; cases h
theorem sat_run {np n : Nat} {body : SD} {xs : List D} : (run np n body xs S).sat Q = (xs.length = np ∧ (body (xs.map some ++ List.replicate (n - xs.length) none) S).sat (fun _ S => Q .non S) Q (fun _ _ => False) fun _ _ => False) := by
  unfold run; rw [sat_if_bad]; congr
  cases body (xs.map some ++ List.replicate (n - xs.length) none) S <;> simp [SR.fin]
end
/-! operations -/
section
variable {S : Store} {Q : D → Store → Prop}
@[simp] theorem add_int {i j : Int} : addD (.int i) (.int j) S = .ok (.int (i + j)) S := nrfl rfl
@[simp] theorem sub_int {i j : Int} : subD (.int i) (.int j) S = .ok (.int (i - j)) S := nrfl rfl
@[simp] theorem neg_int {i : Int} : negD (.int i) S = .ok (.int (-i)) S := nrfl rfl
@[simp] theorem lt_int {i j : Int} : ltD (.int i) (.int j) S = .ok (.bl (decide (i < j))) S := nrfl rfl
@[simp] theorem le_int {i j : Int} : leD (.int i) (.int j) S = .ok (.bl (decide (i ≤ j))) S := nrfl rfl
@[simp] theorem gt_int {i j : Int} : gtD (.int i) (.int j) S = .ok (.bl (decide (j < i))) S := nrfl rfl
@[simp] theorem ge_int {i j : Int} : geD (.int i) (.int j) S = .ok (.bl (decide (j ≤ i))) S := nrfl rfl
theorem mul_int {i j : Int} : (mulD (.int i) (.int j) S).sat Q = (mulOk i j = true ∧ Q (.int (i * j)) S) := by unfold mulD; simp only []; rw [sat_if_bad, sat_ok]
theorem fdiv_int {i j : Int} : (fdivD (.int i) (.int j) S).sat Q = ((0 < j ∧ j.natAbs.log2 < 9000) ∧ Q (.int (i / j)) S) := by unfold fdivD; simp only []; rw [sat_if_bad, sat_ok]
theorem mod_int {i j : Int} : (modD (.int i) (.int j) S).sat Q = (0 < j ∧ Q (.int (i % j)) S) := by unfold modD; simp only []; rw [sat_if_bad, sat_ok]
theorem ibeq (i j : Int) : (i == j) = decide (i = j) := by rw [Bool.eq_iff_iff]; simp
theorem eq_int {i j : Int} : eqD (.int i) (.int j) S = .ok (.bl (decide (i = j))) S := by
  show (if min 0 0 ≤ 64 then R.ok (D.bl (i == j)) S else .bad) = _
  simp [ibeq]
theorem ne_int {i j : Int} : neD (.int i) (.int j) S = .ok (.bl (decide (i ≠ j))) S := by
  show (if min 0 0 ≤ 64 then R.ok (D.bl (!(i == j))) S else .bad) = _
  simp [ibeq]
@[simp] theorem len_tup {l : List D} : lenD [.tup l] S = .ok (.int l.length) S := nrfl rfl
@[simp] theorem len_lst {l : List D} : lenD [.lst l] S = .ok (.int l.length) S := nrfl rfl
@[simp] theorem len_scr {l : List Int} : lenD [.scr l] S = .ok (.int l.length) S := nrfl rfl
theorem len_obj {n : Nat} {l : List D} (h : S[n]? = some (.lst l)) : lenD [.obj n] S = .ok (.int l.length) S := by simp [lenD, asL, h]
@[simp] theorem tuple_lst {l : List D} : tupleD [.lst l] S = .ok (.tup l) S := nrfl rfl
@[simp] theorem tuple_tup {l : List D} : tupleD [.tup l] S = .ok (.tup l) S := nrfl rfl
theorem mtD_obj {n : Nat} {l : List D} (h : S[n]? = some (.lst l)) : mtD (.obj n) S = some "list" := by simp [mtD, h]
@[simp] theorem rangeD_len {lo hi : Int} : (rangeD lo hi).length = (hi - lo).toNat := by simp [rangeD]
@[simp] theorem rangeD_get {lo hi : Int} {j : Nat} (h : j < (rangeD lo hi).length) : (rangeD lo hi)[j] = .int (lo + j) := by simp [rangeD]
theorem append_obj {n : Nat} {l : List D} {y : D} (h : S[n]? = some (.lst l)) : (appendD (.obj n) [y] S).sat Q = (l.length < sizeLine ∧ Q .non (S.set n (.lst (l ++ [y])))) := by
  unfold appendD; simp only [lstAt, h]; rw [sat_if_bad, sat_ok]
theorem tuple_obj {n : Nat} {l : List D} (h : S[n]? = some (.lst l)) : tupleD [.obj n] S = .ok (.tup l) S := by simp [tupleD, asL, h]
end
end L3
set_option Elab.async false
set_option linter.all false
set_option maxRecDepth 100000
/-! L3P: the laws' hand. -/
namespace L3
open PySem L2
def Hand (n : Nat) (S : Store) : Prop := ∃ g s : Int, S[n]? = some (.lst [.int g, .int s])
/-- only the hand has changed; new objects may have come -/
structure FrH (n : Nat) (S S' : Store) : Prop where
  le : S.length ≤ S'.length
  fr : ∀ m o, m ≠ n → S[m]? = some o → S'[m]? = some o
  hd : Hand n S'
theorem FrH.refl {n : Nat} {S : Store} (h : Hand n S) : FrH n S S := ⟨Nat.le_refl _, fun _ _ _ h => h, h⟩
theorem FrH.trans {n : Nat} {S S' S'' : Store} (h : FrH n S S') (g : FrH n S' S'') : FrH n S S'' := ⟨Nat.le_trans h.le g.le, fun m o hm e => g.fr m o hm (h.fr m o hm e), g.hd⟩
theorem Hand.lt {n : Nat} {S : Store} (h : Hand n S) : n < S.length := by
  obtain ⟨g, s, e⟩ := h
  exact (List.getElem?_eq_some_iff.mp e).1
theorem FrH.set {n : Nat} {S : Store} (h : Hand n S) (g s : Int) : FrH n S (S.set n (.lst [.int g, .int s])) := by
  refine ⟨by simp, fun m o hm e => ?_, ⟨g, s, by simp [List.getElem?_set_self h.lt]⟩⟩
  rw [List.getElem?_set_ne (Ne.symm hm)]; exact e
theorem FrH.app {n : Nat} {S : Store} (h : Hand n S) (o : O) : FrH n S (S ++ [o]) := by
  have e : ∀ (m : Nat) (o' : O), S[m]? = some o' → (S ++ [o])[m]? = some o' := fun m o' e => by
    rw [List.getElem?_append_left (List.getElem?_eq_some_iff.mp e).1]; exact e
  obtain ⟨g, s, q⟩ := h
  exact ⟨by simp, fun m o' _ q => e m o' q, ⟨g, s, e _ _ q⟩⟩
theorem FrH.put {n p : Nat} {S S' : Store} (h : FrH n S S') (hn : Hand n S) (hp : S.length ≤ p) (o : O) : FrH n S (S'.set p o) := by
  have l := hn.lt
  refine ⟨by simp [h.le], fun m o' hm e => ?_, ?_⟩
  · have : m < S.length := (List.getElem?_eq_some_iff.mp e).1
    rw [List.getElem?_set_ne (by omega)]; exact h.fr m o' hm e
  · obtain ⟨g, s, e⟩ := h.hd
    exact ⟨g, s, by rw [List.getElem?_set_ne (by omega)]; exact e⟩
theorem lg_lt {j : Int} {m : Nat} (h : j.natAbs < 2 ^ 64) : j.natAbs.log2 < 9000 := by
  by_cases h0 : j.natAbs = 0
  · rw [h0]; decide
  · exact Nat.lt_trans ((Nat.log2_lt h0).mpr h) (by decide)

/-! digits -/
def mTake : SD :=
    sSeq (sIf (tOfE (e2 gtD (e2 ixD (eVar 0) (eK (.int 0))) (eK (.int 0)))) (sSeq (sAsg (e2 modD (e2 ixD (eVar 0) (eK (.int 0))) (eVar 1)) (gName 2))
    (sSeq (sAsg (e2 fdivD (e2 ixD (eVar 0) (eK (.int 0))) (eVar 1)) (gSub (eVar 0) (eK (.int 0))))
    (sRet (eVar 2)))) (sSkip))
    (sSeq (sAsg (e2 modD (e2 addD (e2 mulD (e2 ixD (eVar 0) (eK (.int 1))) (eK (.int 1181783497276652981))) (eK (.int 12345678910987))) (eK (.int 2305843009213693951))) (gSub (eVar 0) (eK (.int 1))))
    (sRet (e2 modD (e2 fdivD (e2 modD (e2 mulD (e2 fdivD (e2 ixD (eVar 0) (eK (.int 1))) (eK (.int 65537))) (e2 addD (e2 modD (e2 ixD (eVar 0) (eK (.int 1))) (eK (.int 65537))) (eK (.int 3)))) (eK (.int 2305843009213693921))) (eK (.int 97))) (eVar 1))))
section
variable {n : Nat} {S : Store} {Q : D → Store → Prop}
theorem ix0 {g s : Int} (h : S[n]? = some (.lst [.int g, .int s])) : ixD (.obj n) (.int 0) S = .ok (.int g) S := by simp [ixD, h, atI, ixN]
theorem ix1 {g s : Int} (h : S[n]? = some (.lst [.int g, .int s])) : ixD (.obj n) (.int 1) S = .ok (.int s) S := by simp [ixD, h, atI, ixN]
theorem set0 {g s x : Int} (h : S[n]? = some (.lst [.int g, .int s])) : setD (.obj n) (.int 0) (.int x) S = some (S.set n (.lst [.int x, .int s])) := by simp [setD, h, ixN]
theorem set1 {g s x : Int} (h : S[n]? = some (.lst [.int g, .int s])) : setD (.obj n) (.int 1) (.int x) S = some (S.set n (.lst [.int g, .int x])) := by simp [setD, h, ixN]
theorem mulOk_r {i j : Int} (h : -(2 ^ 64) < j ∧ j < 2 ^ 64) : mulOk i j = true := by simp only [mulOk, decide_eq_true_eq]; exact .inl (.inr h)
theorem mulOk_l {i j : Int} (h : -(2 ^ 64) < i ∧ i < 2 ^ 64) : mulOk i j = true := by simp only [mulOk, decide_eq_true_eq]; exact .inl (.inl h)
theorem take_ok (h : Hand n S) {many : Int} (hm : 0 < many) (hb : many < 2 ^ 64) : (run 2 3 mTake [.obj n, .int many] S).sat fun d S' => (∃ i, d = .int i ∧ 0 ≤ i ∧ i < many) ∧ FrH n S S' := by
  obtain ⟨g, s, e⟩ := h
  have h : Hand n S := ⟨g, s, e⟩
  have hlog : many.natAbs.log2 < 9000 := lg_lt (m := 0) (by omega)
  rw [sat_run]
  refine ⟨rfl, ?_⟩
  unfold mTake
  have l2 : ∀ j : Nat, j < 2 ^ 64 → 0 < j → j.log2 < 9000 := fun j hj h0 => Nat.lt_trans ((Nat.log2_lt (by omega)).mpr hj) (by decide)
  by_cases hg : 0 < g
  · simp [ix0 e, hg, mod_int, fdiv_int, hm, hlog, gSub, eVar, eK, set0 e]
    exact ⟨⟨Int.emod_nonneg _ (by omega), Int.emod_lt_of_pos _ hm⟩, .set h _ _⟩
  · have e2 : (S.set n (.lst [.int g, .int ((s * 1181783497276652981 + 12345678910987) % 2305843009213693951)]))[n]? = some (.lst [.int g, .int ((s * 1181783497276652981 + 12345678910987) % 2305843009213693951)]) := by
      simp [List.getElem?_set_self h.lt]
    simp [ix0 e, ix1 e, ix1 e2, hg, mod_int, fdiv_int, mul_int, hm, hlog, gSub, eVar, eK, set1 e, mulOk_r]
    refine ⟨l2 _ (by decide) (by decide), mulOk_r (by omega), l2 _ (by decide) (by decide), ⟨Int.emod_nonneg _ (by omega), Int.emod_lt_of_pos _ hm⟩, .set h _ _⟩
/-- the take of a law -/
def IsTake (tk : FN) : Prop := ∀ (n : Nat) (S : Store) (many : Int), Hand n S → 0 < many → many < 2 ^ 64 → (tk [.obj n, .int many] S).sat fun d S' => (∃ i, d = .int i ∧ 0 ≤ i ∧ i < many) ∧ FrH n S S'
theorem isTake : IsTake (run 2 3 mTake) := fun n S many h h1 h2 => take_ok h h1 h2
def mPick (tk : FN) : SD := sRet (e2 ixD (eVar 1) (eN (callK tk []) (aCons (eVar 0) (aCons (eN lenD (aCons (eVar 1) (aNil))) (aNil)))))
def IsPick (pk : FN) : Prop := ∀ (n : Nat) (S : Store) (l : List D), Hand n S → l ≠ [] → l.length < 2 ^ 32 → ((pk [.obj n, .lst l] S).sat fun d S' => d ∈ l ∧ FrH n S S') ∧ (pk [.obj n, .tup l] S).sat fun d S' => d ∈ l ∧ FrH n S S'
theorem atI_mem {α : Type} {l : List α} {i : Int} (h0 : 0 ≤ i) (h : i < l.length) : ∃ x ∈ l, atI l i = some x := by
  refine ⟨l[i.toNat]'(by omega), List.getElem_mem _, ?_⟩
  simp only [atI, ixN]
  simp [h0, h, show i.toNat < l.length by omega]
theorem isPick {tk : FN} (ht : IsTake tk) : IsPick (run 2 2 (mPick tk)) := fun n S l h h1 h2 => by
  have hl : 0 < l.length := (match l, h1 with | _ :: _, _ => by simp)
  constructor
  all_goals
    rw [sat_run]
    refine ⟨rfl, ?_⟩
    unfold mPick
    simp
    refine sat_mono (ht n S l.length h (by omega) (by omega)) fun d S' q => ?_
    obtain ⟨⟨i, rfl, h0, h3⟩, fr⟩ := q
    obtain ⟨x, hx, e⟩ := atI_mem h0 h3
    simp [ixD, e, hx, fr]
/-! the hand -/
def mHand : SD :=
    sSeq (sAsg (e2 addD (e2 mulD (eK (.int 3)) (eVar 1)) (eN lenD (aCons (eVar 0) (aNil)))) (gName 2))
    (sSeq (sIf (tOfE (e2 ltD (eVar 1) (eN lenD (aCons (eVar 0) (aNil))))) (sAsg (e2 ixD (eVar 0) (eVar 1)) (gName 2)) (sSkip))
    (sSeq (sAsg (e2 mulD (e2 modD (eN absD (aCons (eVar 2) (aNil))) (e2 powD (e2 powD (eK (.int 10)) (eK (.int 60))) (eK (.int 5)))) (eN intD (aCons (e2 geD (eN absD (aCons (eVar 2) (aNil))) (e2 powD (eK (.int 10)) (eK (.int 18)))) (aNil)))) (gName 3))
    (sRet (eN mkObj (aCons (eVar 3) (aCons (e2 modD (e2 mulD (e2 addD (e2 addD (e2 modD (eVar 2) (eK (.int 2305843009213693951))) (e2 mulD (e2 mulD (eK (.int 7919)) (eVar 1)) (eVar 1))) (eK (.int 11))) (eK (.int 48271))) (eK (.int 2305843009213693951))) (aNil)))))))
def IsHand (hd : FN) : Prop := ∀ (S : Store) (ns : List Int) (k : Int), 0 ≤ k → k < 2 ^ 32 → (hd [.scr ns, .int k] S).sat fun d S' => d = .obj S.length ∧ ∃ g s : Int, S' = S ++ [.lst [.int g, .int s]]
def T60 : Int := 10 ^ 60
def T300 : Int := 10 ^ 300
theorem T300_pos : 0 < T300 := by decide +kernel
theorem pw1 : powD (.int 10) (.int 60) S = .ok (.int T60) S := by kernel_rfl
theorem pw2 : powD (.int T60) (.int 5) S = .ok (.int T300) S := by kernel_rfl
theorem pw3 : powD (.int 10) (.int 18) S = .ok (.int 1000000000000000000) S := by kernel_rfl
theorem isHand : IsHand (run 2 4 mHand) := fun S ns k h0 hk => by
  rw [sat_run]
  refine ⟨rfl, ?_⟩
  have key : ∀ c : Int, ((sSeq (sAsg (e2 mulD (e2 modD (eN absD (aCons (eVar 2) (aNil))) (e2 powD (e2 powD (eK (.int 10)) (eK (.int 60))) (eK (.int 5)))) (eN intD (aCons (e2 geD (eN absD (aCons (eVar 2) (aNil))) (e2 powD (eK (.int 10)) (eK (.int 18)))) (aNil)))) (gName 3))
    (sRet (eN mkObj (aCons (eVar 3) (aCons (e2 modD (e2 mulD (e2 addD (e2 addD (e2 modD (eVar 2) (eK (.int 2305843009213693951))) (e2 mulD (e2 mulD (eK (.int 7919)) (eVar 1)) (eVar 1))) (eK (.int 11))) (eK (.int 48271))) (eK (.int 2305843009213693951))) (aNil)))))) [some (.scr ns), some (.int k), some (.int c), none] S).sat
      (fun _ S1 => D.non = .obj S.length ∧ ∃ g s : Int, S1 = S ++ [.lst [.int g, .int s]]) (fun d S' => d = .obj S.length ∧ ∃ g s : Int, S' = S ++ [.lst [.int g, .int s]]) (fun _ _ => False) fun _ _ => False := fun c => by
    simp [pw1, pw2, pw3, absD, intD, mod_int, mul_int, T300_pos]
    refine ⟨mulOk_r (by split <;> omega), mulOk_l (by omega), mulOk_r (by omega), mulOk_r (by omega), by decide⟩
  unfold mHand
  simp only [ssat_seq, ssat_asg, sat_e2, sat_eK, sat_eVar, ssat_if, sat_eN, sat_aCons, sat_aNil]
  simp [mul_int, mulOk_l]
  by_cases hc : k < ns.length
  · obtain ⟨x, hx, e⟩ := atI_mem (l := ns) h0 hc
    simp [hc, ixD, e]
    have := key x
    simpa [mul_int, mulOk_l] using this
  · simp [hc]
    have := key (3 * k + ns.length)
    simpa [mul_int, mulOk_l] using this
end
end L3
set_option Elab.async false
set_option linter.all false
set_option maxRecDepth 100000
set_option maxHeartbeats 4000000
/-! L3S: steps of plain laws, common to all. -/
namespace L3
open PySem L2
section
variable {S : Store} {env : EnvD} {Q : D → Store → Prop}
@[simp] theorem isi_tup {l : List D} : isiD [.tup l, .ty "tuple"] S = .ok (.bl true) S := by kernel_rfl
@[simp] theorem isi_str {s : Str} : isiD [.str s, .ty "str"] S = .ok (.bl true) S := by kernel_rfl
@[simp] theorem isi_bl {b : Bool} : isiD [.bl b, .ty "bool"] S = .ok (.bl true) S := by kernel_rfl
@[simp] theorem isi_lst_tup {l : List D} : isiD [.lst l, .ty "tuple"] S = .ok (.bl false) S := by kernel_rfl
@[simp] theorem isi_dic_tup {k} {l : List D} : isiD [.dic k l, .ty "tuple"] S = .ok (.bl false) S := by kernel_rfl
@[simp] theorem isi_str_tup {l : Str} : isiD [.str l, .ty "tuple"] S = .ok (.bl false) S := by kernel_rfl
@[simp] theorem isi_int_tup {l : Int} : isiD [.int l, .ty "tuple"] S = .ok (.bl false) S := by kernel_rfl
@[simp] theorem isi_bl_tup {l : Bool} : isiD [.bl l, .ty "tuple"] S = .ok (.bl false) S := by kernel_rfl
@[simp] theorem isi_non_tup : isiD [.non, .ty "tuple"] S = .ok (.bl false) S := by kernel_rfl
@[simp] theorem isi_lst_str {l : List D} : isiD [.lst l, .ty "str"] S = .ok (.bl false) S := by kernel_rfl
@[simp] theorem isi_tup_str {l : List D} : isiD [.tup l, .ty "str"] S = .ok (.bl false) S := by kernel_rfl
@[simp] theorem isi_dic_str {k} {l : List D} : isiD [.dic k l, .ty "str"] S = .ok (.bl false) S := by kernel_rfl
@[simp] theorem isi_int_str {l : Int} : isiD [.int l, .ty "str"] S = .ok (.bl false) S := by kernel_rfl
@[simp] theorem isi_bl_str {l : Bool} : isiD [.bl l, .ty "str"] S = .ok (.bl false) S := by kernel_rfl
@[simp] theorem isi_non_str : isiD [.non, .ty "str"] S = .ok (.bl false) S := by kernel_rfl
@[simp] theorem isi_int {l : Int} : isiD [.int l, .ty "int"] S = .ok (.bl true) S := by kernel_rfl
@[simp] theorem isi_bl_int {l : Bool} : isiD [.bl l, .ty "int"] S = .ok (.bl true) S := by kernel_rfl
@[simp] theorem isi_int_bl {l : Int} : isiD [.int l, .ty "bool"] S = .ok (.bl false) S := by kernel_rfl
@[simp] theorem isi_tup_int {l : List D} : isiD [.tup l, .ty "int"] S = .ok (.bl false) S := by kernel_rfl
@[simp] theorem isi_lst_int {l : List D} : isiD [.lst l, .ty "int"] S = .ok (.bl false) S := by kernel_rfl
@[simp] theorem isi_dic_int {k} {l : List D} : isiD [.dic k l, .ty "int"] S = .ok (.bl false) S := by kernel_rfl
@[simp] theorem isi_str_int {l : Str} : isiD [.str l, .ty "int"] S = .ok (.bl false) S := by kernel_rfl
@[simp] theorem isi_non_int : isiD [.non, .ty "int"] S = .ok (.bl false) S := by kernel_rfl
theorem eq_bl {a b : Bool} : eqD (.bl a) (.bl b) S = .ok (.bl (a == b)) S := by cases a <;> cases b <;> kernel_rfl
@[simp] theorem eq_strs {a b : Str} : eqD (.str a) (.str b) S = .ok (.bl (a == b)) S := nrfl rfl
@[simp] theorem ne_strs {a b : Str} : neD (.str a) (.str b) S = .ok (.bl (!(a == b))) S := nrfl rfl
@[simp] theorem eq_tup0 {l : List D} : eqD (.tup l) (.tup []) S = .ok (.bl l.isEmpty) S := nrfl rfl
@[simp] theorem ne_tup0 {l : List D} : neD (.tup l) (.tup []) S = .ok (.bl (!l.isEmpty)) S := nrfl rfl
theorem all_lst : ∀ bs : List Bool, allBls (bs.map D.bl) = some bs
  | [] => rfl
  | b :: bs => by simp [allBls, all_lst bs]
theorem all_bl (bs : List Bool) : allD [.lst (bs.map D.bl)] S = .ok (.bl (bs.all id)) S := by simp [allD, asL, all_lst]
theorem sum_lst : ∀ bs : List Int, allInts (bs.map D.int) = some bs
  | [] => rfl
  | b :: bs => by simp [allInts, sum_lst bs]
theorem sum_int (bs : List Int) : sumD [.lst (bs.map D.int)] S = .ok (.int bs.sum) S := by simp [sumD, asL, sum_lst]
theorem small {n : Nat} (h : n ≤ 1000) : n ≤ sizeLine := Nat.le_trans h (by decide)
theorem add_lst {a b : List D} (h : a.length + b.length ≤ sizeLine) : addD (.lst a) (.lst b) S = .ok (.lst (a ++ b)) S := by simp [addD, asL, h]
theorem add_tup {a b : List D} (h : a.length + b.length ≤ sizeLine) : addD (.tup a) (.tup b) S = .ok (.tup (a ++ b)) S := by simp [addD, h]
theorem add_str {a b : Str} (h : a.length + b.length ≤ sizeLine) : addD (.str a) (.str b) S = .ok (.str (a ++ b)) S := by simp [addD, h]
theorem mem_range {lo hi : Int} {x : D} (h : x ∈ rangeD lo hi) : ∃ i : Int, x = .int i ∧ lo ≤ i ∧ i < hi := by
  simp only [rangeD, List.mem_map, List.mem_range] at h
  obtain ⟨a, ha, rfl⟩ := h
  exact ⟨_, rfl, by omega, by omega⟩
variable {N B C : EnvD → Store → Prop} {T : D → Store → Prop}
theorem for_each {g : GD} {body : SD} (I : EnvD → Store → Prop) {xs : List D} (h0 : I env S)
    (hs : ∀ x ∈ xs, ∀ e S, I e S → (g x e S).sat (fun e S => (body e S).sat I T N I) (fun _ _ => False) (fun _ _ => False) fun _ _ => False)
    (hN : ∀ e S, I e S → N e S) : (forL g body xs env S).sat N T B C :=
  for_rule (fun _ => I) h0 (fun j hj e S h => hs _ (List.getElem_mem hj) e S h) hN
theorem for_n {i : Nat} {body : SD} (I : EnvD → Store → Prop) {xs : List D} (h0 : I env S)
    (hs : ∀ x ∈ xs, ∀ e S, I e S → (body (e.set i (some x)) S).sat I T N I) (hN : ∀ e S, I e S → N e S) : (forL (gName i) body xs env S).sat N T B C :=
  for_each I h0 (fun x hx e S h => by rw [gName_eq, ssat_nx]; exact hs x hx e S h) hN
theorem seq_rule {a b : SD} (M : EnvD → Store → Prop) (h : (a env S).sat M T B C) (k : ∀ e S, M e S → (b e S).sat N T B C) : (sSeq a b env S).sat N T B C := by
  rw [ssat_seq]; exact ssat_mono h k (fun _ _ h => h) (fun _ _ h => h) fun _ _ h => h
/-! slices -/
@[simp] theorem sat_pNo {QO : Option Int → Store → Prop} : (pNo env S).sat QO = QO none S := sat_ok
@[simp] theorem sat_pYes {a : ED} {QO : Option Int → Store → Prop} : (pYes a env S).sat QO = (a env S).sat fun x S1 => ∃ i, x = .int i ∧ QO (some i) S1 := by
  unfold pYes; rw [sat_bind]; congr; funext x S1
  cases x <;> simp
@[simp] theorem sat_eSl {a : ED} {l h : PD} : (eSl a l h env S).sat Q = (a env S).sat fun x S1 => (l env S1).sat fun lo S2 => (h env S2).sat fun hi S3 => (slD x lo hi S3).sat Q := by
  unfold eSl; simp only [sat_bind]
@[simp] theorem sl_tup {l : List D} {lo hi : Option Int} : slD (.tup l) lo hi S = .ok (.tup (cutL l lo hi)) S := nrfl rfl
@[simp] theorem sl_lst {l : List D} {lo hi : Option Int} : slD (.lst l) lo hi S = .ok (.lst (cutL l lo hi)) S := nrfl rfl
@[simp] theorem sat_eBackT {a : ED} : (eBackT a env S).sat Q = (a env S).sat fun x S1 => ∃ l, x = .tup l ∧ Q (.tup l.reverse) S1 := by
  unfold eBackT; rw [sat_bind]; congr; funext x S1
  cases x <;> simp
@[simp] theorem sat_eDic0 : (eDic0 env S).sat Q = Q (.dic [] []) S := sat_ok
@[simp] theorem sat_eDct0 : (eDct0 env S).sat Q = Q (.obj S.length) (S ++ [.dK []]) := sat_ok
end
end L3
set_option Elab.async false
set_option linter.all false
set_option maxRecDepth 100000
/-! L4S: what the constructs of L4 satisfy. -/
namespace L3
open PySem L2
section
variable {S : Store} {env : EnvD} {Q : D → Store → Prop} {QL : List D → Store → Prop} {N B C : EnvD → Store → Prop} {T : D → Store → Prop}
/-! alternatives -/
theorem alt_l {a b : ED} (h : (a env S).sat Q) : (eAlt a b env S).sat Q := by
  obtain ⟨d, S', e, h⟩ := sat_ex.mp h
  have : eAlt a b env S = .ok d S' := by unfold eAlt; rw [e]
  exact to_sat (S := S') this h
theorem alt_r {a b : ED} (h : a env S = .bad) (h2 : (b env S).sat Q) : (eAlt a b env S).sat Q := by
  have : eAlt a b env S = b env S := by unfold eAlt; rw [h]
  rw [this]; exact h2
theorem fnL_no {i : Nat} {x y : Str} {F : FN} {a : AD} (h : env[i]? = some (some (.glb y))) (hn : y ≠ x) : eFnL i x F a env S = .bad := by
  unfold eFnL; rw [h]; simp only []; rw [if_neg hn]
theorem fnL_yes {i : Nat} {x : Str} {F : FN} {a : AD} (h : env[i]? = some (some (.glb x))) (h2 : (a env S).sat fun xs S1 => (F xs S1).sat Q) : (eFnL i x F a env S).sat Q := by
  rw [sat_eFnL, h]; exact ⟨rfl, h2⟩
/-! instances -/
theorem insAt_obj {n : Nat} {c : Str} {fs : List (Str × D)} (h : S[n]? = some (.ins c fs)) : insAt (.obj n) S = some (n, c, fs) := by simp only [insAt, h]
theorem fld_eq {n : Nat} {c f : Str} {fs : List (Str × D)} {cs : List Str} {d : D} (h : S[n]? = some (.ins c fs)) (hc : c ∈ cs) (hf : fs.lookup f = some d) : fldD cs f (.obj n) S = .ok d S := by
  simp only [fldD, insAt_obj h, hc, hf, if_true]
theorem sat_eMeth {c m : Str} {F : FN} {mo : ED} {ma : AD} : (eMeth c m F mo ma env S).sat Q = (mo env S).sat fun x S1 => ∃ n fs, insAt x S1 = some (n, c, fs) ∧ fs.lookup m = none ∧ (ma env S1).sat fun xs S2 => (F (x :: xs) S2).sat Q := by
  unfold eMeth; rw [sat_bind]; congr; funext x S1
  cases h : insAt x S1 with
  | none => simp
  | some v =>
    obtain ⟨n, c', fs⟩ := v
    simp only []
    rw [sat_if_bad, sat_bind]
    apply propext
    constructor
    · rintro ⟨⟨e, h1⟩, h2⟩; subst e; exact ⟨_, _, rfl, h1, h2⟩
    · rintro ⟨n', fs', e, h1, h2⟩; cases e; exact ⟨⟨rfl, h1⟩, h2⟩
theorem sat_mkIns {c : Str} {F : FN} {xs : List D} : (mkIns c F xs S).sat Q = (F (.obj S.length :: xs) (S ++ [.ins c []])).sat fun d S1 => d = .non ∧ Q (.obj S.length) S1 := by
  unfold mkIns
  cases F (.obj S.length :: xs) (S ++ [.ins c []]) with
  | ok d S1 => cases d <;> simp
  | _ => simp
theorem ssat_fldD {cs : List Str} {f : Str} {mo mv : ED} : (sFldD cs f mo mv env S).sat N T B C = (mv env S).sat fun y S1 => (mo env S1).sat fun x S2 => ∃ n c fs, insAt x S2 = some (n, c, fs) ∧ (c ∈ cs ∧ fs.length < 1000) ∧ N env (S2.set n (.ins c (putFD f y fs))) := by
  unfold sFldD; rw [ssat_toS]; congr; funext y S1; rw [ssat_toS]; congr; funext x S2
  cases h : insAt x S2 with
  | none => simp
  | some v =>
    obtain ⟨n, c, fs⟩ := v
    simp only []
    apply propext
    constructor
    · intro h1
      by_cases hc : c ∈ cs ∧ fs.length < 1000
      · rw [if_pos hc, ssat_nx] at h1; exact ⟨_, _, _, rfl, hc, h1⟩
      · rw [if_neg hc, ssat_bad] at h1; exact h1.elim
    · rintro ⟨n', c', fs', e, hc, h1⟩
      cases e
      rw [if_pos hc, ssat_nx]; exact h1
/-! targets -/
@[simp] theorem gSeq_lst {is : List Nat} {l : List D} : gSeq is (.lst l) env S = gNames is l env S := nrfl rfl
@[simp] theorem gSeq_tup {is : List Nat} {l : List D} : gSeq is (.tup l) env S = gNames is l env S := nrfl rfl
theorem gStar_lst {i : Nat} {is : List Nat} {l : List D} (h : i < is.length ∧ is.length ≤ l.length + 1 ∧ l.length ≤ 16384) : gStar i is (.lst l) env S = gNames is (l.take i ++ [.lst ((l.drop i).take (l.length + 1 - is.length))] ++ (l.drop i).drop (l.length + 1 - is.length)) env S := by
  simp only [gStar]; rw [if_pos h]
/-! o[i] = v -/
theorem ssat_gSub {mo mi : ED} {v : D} : (gSub mo mi v env S).sat N T B C = (mo env S).sat fun o S1 => (mi env S1).sat fun i S2 => ∃ S3, setD o i v S2 = some S3 ∧ N env S3 := by
  unfold gSub
  cases mo env S with
  | ok o S1 =>
    simp only [sat_ok]
    cases mi env S1 with
    | ok i S2 =>
      simp only [sat_ok]
      cases setD o i v S2 with
      | some S3 => simp
      | none => simp
    | _ => simp
  | _ => simp
theorem setD_dK {n : Nat} {kvs : List (Key × D)} {i v : D} {k : Key} (h : S[n]? = some (.dK kvs)) (hk : keyOf i = some k) (hz : kvs.length < sizeLine) : setD (.obj n) i v S = some (S.set n (.dK (putD kvs k v))) := by
  simp only [setD, h, hk, hz, if_true]
/-! dicts -/
def dcSat (g : GD) (tt : TD) (tk tv : ED) (env : EnvD) : List D → List (Key × D) → Store → (List (Key × D) → Store → Prop) → Prop
  | [], acc, S, Q => Q acc S
  | x :: xs, acc, S, Q => match g x env S with
    | .nx env1 S1 => (tt env1 S1).sat fun k S2 => if k = true then (tk env1 S2).sat fun y S3 => (tv env1 S3).sat fun z S4 => ∃ key, keyOf y = some key ∧ dcSat g tt tk tv env xs (putD acc key z) S4 Q else dcSat g tt tk tv env xs acc S2 Q
    | _ => False
theorem sat_dcL {g : GD} {tt : TD} {tk tv : ED} {env : EnvD} : ∀ {xs : List D} {acc : List (Key × D)} {S : Store} {Q : List (Key × D) → Store → Prop}, (dcL g tt tk tv env xs acc S).sat Q = dcSat g tt tk tv env xs acc S Q
  | [], _, _, _ => sat_ok
  | x :: xs, acc, S, Q => by
    unfold dcL dcSat
    cases g x env S with
    | nx env1 S1 =>
      simp only
      rw [sat_bind, sat_nox]
      congr; funext k S2
      cases k with
      | true =>
        simp only [if_true]; rw [sat_bind, sat_nox]; congr; funext y S3; rw [sat_bind, sat_nox]; congr; funext z S4
        cases keyOf y with
        | none => simp
        | some key => simp only [sat_dcL]; simp
      | false => simp only [Bool.false_eq_true, if_false]; exact sat_dcL
    | _ => simp
theorem sat_eDc {mi : ID} {vs : List Nat} {g : GD} {tt : TD} {tk tv : ED} : (eDc mi vs g tt tk tv env S).sat Q = (mi env S).sat fun xs S1 => (xs.length ≤ sizeLine ∧ dcSat g tt tk tv (wipeD env vs) xs [] S1 fun kvs S2 => Q (.dic (kvs.map (·.1)) (kvs.map (·.2))) S2) := by
  unfold eDc; rw [sat_bind]; congr; funext xs S1; rw [sat_if_bad, sat_bind, sat_nox, sat_dcL]; simp only [sat_ok]
theorem dictO_eq {x : D} {kvs : List (Key × D)} (h : dkAt x S = some kvs) : dictO [x] S = .ok (.obj S.length) (S ++ [.dK kvs]) := by simp only [dictO, h]
theorem dictV_eq {x : D} {kvs : List (Key × D)} (h : dkAt x S = some kvs) : dictV [x] S = .ok (.dic (kvs.map (·.1)) (kvs.map (·.2))) S := by simp only [dictV, h]
theorem in_dk {x y : D} {kvs : List (Key × D)} {k : Key} (h : dkAt y S = some kvs) (hk : keyOf x = some k) : inD x y S = .ok (.bl (dGet kvs k).isSome) S := by
  unfold dkAt at h
  unfold inD
  cases y with
  | dic ks l =>
    simp only at h
    split at h
    · cases h; simp only [memD, memKey, hk]
    · cases h
  | obj n =>
    simp only at h
    split at h
    · rename_i kv hn; cases h; simp only [memD, hn, memKey, hk]
    · cases h
  | _ => cases h
theorem notIn_dk {x y : D} {kvs : List (Key × D)} {k : Key} (h : dkAt y S = some kvs) (hk : keyOf x = some k) : notInD x y S = .ok (.bl (!(dGet kvs k).isSome)) S := by
  have := in_dk (S := S) h hk
  unfold notInD inD at *
  split at this <;> simp_all
theorem ix_dict {x y : D} {kvs : List (Key × D)} {k : Key} {d : D} (h : dkAt x S = some kvs) (hk : keyOf y = some k) (hd : dGet kvs k = some d) : ixD x y S = .ok d S := by
  unfold dkAt at h
  cases x with
  | dic ks l =>
    simp only at h
    split at h
    · cases h; simp only [ixD, hk, hd]
    · cases h
  | obj n =>
    simp only at h
    split at h
    · rename_i kv hn; cases h; simp only [ixD, hn, hk, hd]
    · cases h
  | _ => cases h
theorem get_map_ne {κ : Type} [DecidableEq κ] {k k' : κ} {v : D} (hk : k ≠ k') : ∀ {kvs : List (κ × D)}, dGet (kvs.map fun kv => if kv.1 = k then (kv.1, v) else kv) k' = dGet kvs k'
  | [] => rfl
  | p :: r => by
    have ih := get_map_ne (v := v) hk (kvs := r)
    unfold dGet at ih ⊢
    simp only [List.map_cons, List.find?_cons]
    by_cases hp : p.1 = k
    · have : ¬ p.1 = k' := fun z => hk (hp.symm.trans z)
      simp only [if_pos hp, this, decide_false]
      exact ih
    · simp only [if_neg hp]
      by_cases h2 : p.1 = k'
      · simp [h2]
      · simp only [h2, decide_false]
        exact ih
theorem get_map_eq {κ : Type} [DecidableEq κ] {k : κ} {v : D} : ∀ {kvs : List (κ × D)}, (kvs.any fun kv => decide (kv.1 = k)) = true → dGet (kvs.map fun kv => if kv.1 = k then (kv.1, v) else kv) k = some v
  | [], h => by simp at h
  | p :: r, h => by
    unfold dGet
    simp only [List.map_cons, List.find?_cons]
    by_cases hp : p.1 = k
    · simp [hp]
    · have ih := get_map_eq (v := v) (kvs := r) (by simpa [hp] using h)
      unfold dGet at ih
      rw [if_neg hp]
      simp only [hp, decide_false]
      exact ih
theorem get_put {κ : Type} [DecidableEq κ] {kvs : List (κ × D)} {k k' : κ} {v : D} : dGet (putD kvs k v) k' = if k = k' then some v else dGet kvs k' := by
  unfold putD
  by_cases ha : (kvs.any fun kv => decide (kv.1 = k)) = true
  · rw [if_pos ha]
    by_cases hk : k = k'
    · subst hk; rw [if_pos rfl, get_map_eq ha]
    · rw [if_neg hk, get_map_ne hk]
  · rw [if_neg ha]
    simp only [dGet, List.find?_append]
    by_cases hk : k = k'
    · subst hk
      have : (kvs.find? fun kv => decide (kv.1 = k)) = none := by
        rw [List.find?_eq_none]
        intro x hx
        simp only [List.any_eq_true, not_exists, not_and] at ha
        exact ha x hx
      simp [this]
    · simp only [if_neg hk]
      cases hf : kvs.find? fun kv => decide (kv.1 = k') with
      | some v => simp
      | none => simp [hk]
end
end L3
set_option Elab.async false
set_option linter.all false
set_option maxRecDepth 100000
set_option maxHeartbeats 4000000
/-! L3T: names, programs as trees, draws. -/
namespace L3
open PySem L2
def WORDS : List Str := ["plus", "times", "most", "row", "say", "less", "below", "if", "let", "each", "num", "name", "any", "rest", "called", "count"]
/-- a sign that is a small letter -/
def isLet (c : Nat) : Bool := decide (97 ≤ c) && decide (c ≤ 122)
structure NameOk (s : Str) : Prop where
  lo : 1 ≤ s.length
  hi : s.length ≤ 8
  lt : s.cps.toList.all isLet = true
  nw : s ∉ WORDS
/-- programs -/
inductive Tm where
  | num (i : Int) | nam (s : Str) | nd (w m : Str) (ps : List Tm)
mutual
def Tm.d : Tm → D
  | .num i => .tup [.str "num", .int i, .tup []]
  | .nam s => .tup [.str "name", .str s, .tup []]
  | .nd w m ps => .tup [.str w, .str m, .tup (Tm.ds ps)]
def Tm.ds : List Tm → List D
  | [] => []
  | t :: ts => t.d :: Tm.ds ts
end
mutual
def Tm.size : Tm → Nat
  | .num _ => 1
  | .nam _ => 1
  | .nd _ _ ps => 1 + Tm.sizes ps
def Tm.sizes : List Tm → Nat
  | [] => 0
  | t :: ts => t.size + Tm.sizes ts
end
mutual
def Tm.dep : Tm → Nat
  | .num _ => 1
  | .nam _ => 1
  | .nd _ _ ps => 1 + Tm.deps ps
def Tm.deps : List Tm → Nat
  | [] => 0
  | t :: ts => max t.dep (Tm.deps ts)
end
theorem Tm.ds_map : ∀ ts : List Tm, Tm.ds ts = ts.map Tm.d
  | [] => rfl
  | t :: ts => by simp [Tm.ds, Tm.ds_map ts]
theorem Tm.ds_len (ts : List Tm) : (Tm.ds ts).length = ts.length := by simp [Tm.ds_map]
theorem Tm.sizes_app : ∀ a b : List Tm, Tm.sizes (a ++ b) = Tm.sizes a + Tm.sizes b
  | [], b => by simp [Tm.sizes]
  | t :: a, b => by simp [Tm.sizes, Tm.sizes_app a b]; omega
theorem Tm.deps_le {B : Nat} : ∀ {ts : List Tm}, Tm.deps ts ≤ B ↔ ∀ t ∈ ts, t.dep ≤ B
  | [] => by simp [Tm.deps]
  | t :: ts => by simp [Tm.deps, Tm.deps_le (ts := ts), Nat.max_le]
theorem Tm.size_pos : ∀ t : Tm, 1 ≤ t.size
  | .num _ => by simp [Tm.size]
  | .nam _ => by simp [Tm.size]
  | .nd _ _ ps => by simp [Tm.size]
theorem Tm.dep_pos : ∀ t : Tm, 1 ≤ t.dep
  | .num _ => by simp [Tm.dep]
  | .nam _ => by simp [Tm.dep]
  | .nd _ _ ps => by simp [Tm.dep]
/-- a word's fewest and most parts, whether it gives a name -/
def shape (w : Str) : Option (Nat × Nat × Bool) :=
  if w = "plus" ∨ w = "times" ∨ w = "most" then some (1, 6, false)
  else if w = "row" then some (0, 6, false)
  else if w = "say" then some (1, 1, false)
  else if w = "less" ∨ w = "below" then some (2, 2, false)
  else if w = "if" then some (3, 3, false)
  else if w = "let" ∨ w = "each" then some (2, 2, true)
  else none
inductive Good : Tm → Prop where
  | num {i : Int} : 0 ≤ i → i ≤ 9972 → Good (.num i)
  | nam {s : Str} : NameOk s → Good (.nam s)
  | nd {w m : Str} {ps : List Tm} {f mo : Nat} {g : Bool} : shape w = some (f, mo, g) → f ≤ ps.length → ps.length ≤ mo → (g = true → NameOk m) → (g = false → m = "") → (∀ p ∈ ps, Good p) → Good (.nd w m ps)
/-! ### the hand's frame, another object apart -/
/-- where a draw is made from -/
inductive Src (n : Nat) (S : Store) : D → List D → Prop where
  | lst (l : List D) : Src n S (.lst l) l
  | tup (l : List D) : Src n S (.tup l) l
  | str (z : Str) : z.length ≤ 1000 → Src n S (.str z) (z.cps.toList.map sgn)
  | obj {q : Nat} {l : List D} : q ≠ n → S[q]? = some (.lst l) → Src n S (.obj q) l
theorem Src.fr {n : Nat} {S S' : Store} {x : D} {l : List D} (h : Src n S x l) (f : FrH n S S') : Src n S' x l := by
  cases h with
  | lst => exact .lst _
  | tup => exact .tup _
  | str _ hz => exact .str _ hz
  | obj hq e => exact .obj hq (f.fr _ _ hq e)
theorem Src.len {n : Nat} {S : Store} {x : D} {l : List D} (h : Src n S x l) : lenD [x] S = .ok (.int l.length) S := by
  cases h with
  | lst => rfl
  | tup => rfl
  | str z hz =>
    unfold lenD
    simp only
    rw [if_pos (small hz)]
    simp [Str.length]
  | obj _ e => exact len_obj e
theorem atI_map {α β : Type} (f : α → β) (l : List α) (i : Int) : atI (l.map f) i = (atI l i).map f := by
  unfold atI
  rw [List.length_map]
  cases ixN l.length i with
  | none => rfl
  | some j => simp
theorem Src.ix {n : Nat} {S : Store} {x : D} {l : List D} (h : Src n S x l) {i : Int} (h0 : 0 ≤ i) (h1 : i < l.length) : ∃ d ∈ l, ixD x (.int i) S = .ok d S := by
  obtain ⟨d, hd, e⟩ := atI_mem h0 h1
  refine ⟨d, hd, ?_⟩
  cases h with
  | lst => simp [ixD, e]
  | tup => simp [ixD, e]
  | str z hz =>
    rw [atI_map] at e
    cases q : atI z.cps.toList i with
    | none => rw [q] at e; cases e
    | some c =>
      rw [q] at e
      cases e
      simp only [ixD]
      rw [if_pos (small hz), q]
  | obj _ e2 => simp [ixD, e2, e]
def IsPick2 (pk : FN) : Prop := ∀ (n : Nat) (S : Store) (x : D) (l : List D), Hand n S → Src n S x l → l ≠ [] → l.length < 2 ^ 32 → (pk [.obj n, x] S).sat fun d S' => d ∈ l ∧ FrH n S S'
theorem isPick2 {tk : FN} (ht : IsTake tk) : IsPick2 (run 2 2 (mPick tk)) := fun n S x l h hs h1 h2 => by
  have hl : 0 < l.length := (match l, h1 with | _ :: _, _ => by simp)
  rw [sat_run]
  refine ⟨rfl, ?_⟩
  unfold mPick
  simp only [ssat_sRet, sat_e2, sat_eVar, sat_eN, sat_aCons, sat_aNil, callK_eq, List.append_nil, List.map_cons, List.map_nil, List.length_cons, List.length_nil, List.replicate, List.getElem?_cons_succ, List.getElem?_cons_zero, List.cons_append, List.nil_append, hs.len, sat_ok]
  refine sat_mono (ht n S l.length h (by omega) (by omega)) fun d S' q => ?_
  obtain ⟨⟨i, rfl, h0, h3⟩, fr⟩ := q
  obtain ⟨d, hd, e⟩ := (hs.fr fr).ix h0 h3
  rw [e, sat_ok]
  exact ⟨hd, fr⟩
/-- a comprehension's turns, what they have made so far told -/
theorem lc_acc {i : Nat} {te : ED} {env : EnvD} (I : List D → Store → Prop) : ∀ {xs : List D} {acc : List D} {S : Store} {Q : List D → Store → Prop},
    I acc S → (∀ x ∈ xs, ∀ acc S, I acc S → (te (env.set i (some x)) S).sat fun y S' => I (acc ++ [y]) S') → (∀ ys S', ys.length = xs.length → I (acc ++ ys) S' → Q ys S') → lcSat (gName i) tYesD te env xs S Q
  | [], acc, S, Q, hI, ht, hQ => hQ [] S rfl (by simpa using hI)
  | x :: xs, acc, S, Q, hI, ht, hQ => by
    unfold lcSat
    simp only [gName, tYesD, sat_ok, if_true]
    refine sat_mono (ht x (List.mem_cons_self ..) acc S hI) fun y S3 h => ?_
    refine lc_acc I (acc := acc ++ [y]) h (fun x hx => ht x (List.mem_cons_of_mem _ hx)) fun ys S' h1 h2 => hQ _ _ (by simp [h1]) (by simpa using h2)
/-! ### letters -/
def LET : Str := "abcdefghijklmnopqrstuvwxyz"
theorem let_ix {i : Int} (h0 : 0 ≤ i) (h1 : i < 26) (S : Store) : ∃ c, isLet c = true ∧ ixD (.str LET) (.int i) S = .ok (.str ⟨#[c]⟩) S := by
  obtain ⟨d, hd, e⟩ := (Src.str (n := 0) (S := S) LET (by decide +kernel)).ix h0 (by rw [show (LET.cps.toList.map sgn).length = 26 by decide +kernel]; omega)
  simp only [List.mem_map] at hd
  obtain ⟨c, hc, rfl⟩ := hd
  have : LET.cps.toList.all isLet = true := by decide +kernel
  exact ⟨c, List.all_eq_true.mp this c hc, e⟩
theorem let_src {n : Nat} {S : Store} : Src n S (.str LET) (LET.cps.toList.map sgn) := .str _ (by decide +kernel)
theorem let_mem {d : D} (h : d ∈ LET.cps.toList.map sgn) : ∃ c, isLet c = true ∧ d = .str ⟨#[c]⟩ := by
  simp only [List.mem_map] at h
  obtain ⟨c, hc, rfl⟩ := h
  have : LET.cps.toList.all isLet = true := by decide +kernel
  exact ⟨c, List.all_eq_true.mp this c hc, rfl⟩
/-- a text of letters of such a length that no word has -/
theorem name_one {c : Nat} (h : isLet c = true) : NameOk ⟨#[c]⟩ := by
  refine ⟨by simp [Str.length], by simp [Str.length], by simp [h], fun hw => ?_⟩
  have : ∀ s ∈ WORDS, s.length ≠ 1 := by decide +kernel
  exact this _ hw rfl
theorem nameWithX {s : Str} (h : s ∈ WORDS) : NameOk (s ++ "x") := by
  have a : WORDS.all (fun s => decide (1 ≤ (s ++ "x").length) && decide ((s ++ "x").length ≤ 8) && (s ++ "x").cps.toList.all isLet && decide ((s ++ "x") ∉ WORDS)) = true := by decide +kernel
  have := List.all_eq_true.mp a s h
  simp only [Bool.and_eq_true, decide_eq_true_eq] at this
  exact ⟨this.1.1.1, this.1.1.2, this.1.2, this.2⟩
end L3
set_option Elab.async false
set_option linter.all false
set_option maxRecDepth 100000
set_option maxHeartbeats 4000000
/-! L3U: drawn names, drawn numbers. -/
namespace L3
open PySem L2
theorem sz0 : ((0 : Nat) ≤ sizeLine) = True := eq_true (by decide)
theorem sz1 : ((1 : Nat) ≤ sizeLine) = True := eq_true (by decide)
theorem sz2 : ((2 : Nat) ≤ sizeLine) = True := eq_true (by decide)
theorem sz3 : ((3 : Nat) ≤ sizeLine) = True := eq_true (by decide)
theorem sz4 : ((4 : Nat) ≤ sizeLine) = True := eq_true (by decide)
theorem sz5 : ((5 : Nat) ≤ sizeLine) = True := eq_true (by decide)
theorem sz6 : ((6 : Nat) ≤ sizeLine) = True := eq_true (by decide)
theorem sz7 : ((7 : Nat) ≤ sizeLine) = True := eq_true (by decide)
theorem sz8 : ((8 : Nat) ≤ sizeLine) = True := eq_true (by decide)
theorem sz10 : ((10 : Nat) ≤ sizeLine) = True := eq_true (by decide)
theorem sz17 : ((17 : Nat) ≤ sizeLine) = True := eq_true (by decide)
-- a step of a plain law: what the terms at hand come to
local macro_rules | `(tactic| open_k) => `(tactic| simp only [ssat_seq, ssat_asg, ssat_sRet, ssat_sExpr, ssat_if, ssat_skip, ssat_par, ssat_nx, ssat_ret, ssat_for, sat_e2, sat_e1, sat_eN, sat_aCons, sat_aNil, sat_eVar, sat_eK, sat_tOfE, sat_tTruth, sat_tNot, sat_tAnd, sat_tOr, sat_eIf, sat_eBM, sat_iSeq, sat_iArgs, sat_eAnd, sat_eOr, sat_eNot, sat_eChain, sat_eSl, sat_pNo, sat_pYes, sat_eLc, sat_eKw, sat_mkTup, sat_mkLst, sat_mkObj, sat_ok, callK_eq, List.append_nil, List.map_cons, List.map_nil, List.length_cons, List.length_nil, List.replicate, List.getElem?_cons_succ, List.getElem?_cons_zero, List.cons_append, List.nil_append, List.set_cons_succ, List.set_cons_zero, gName_eq, gTup_tup, gNames_cons, gNames_nil, Nat.zero_add, Nat.reduceAdd, Nat.reduceSub, sz0, sz1, sz2, sz3, sz4, sz5, sz6, sz7, sz8, sz10, sz17, true_and, add_int, sub_int, neg_int, lt_int, le_int, gt_int, ge_int, eq_int, ne_int, blD_bl, truthD_bl, itemsD_lst, itemsD_tup, wipeD, eq_strs, ne_strs, sl_tup, sl_lst, if_true, if_false, Bool.false_eq_true, sat_range1, sat_range2, tuple_lst, tuple_tup, len_tup, len_lst, len_scr])
def mCalled (tk pk : FN) : SD :=
    sSeq (sAsg (eK (.str "abcdefghijklmnopqrstuvwxyz")) (gName 2))
    (sSeq (sAsg (eBM "str" splitD (eK (.str "plus times most row say less below if let each num name any rest called count")) (aCons (eK (.str " ")) (aNil))) (gName 3))
    (sSeq (sAsg (eN mkTup (aCons (eN (callK tk []) (aCons (eVar 0) (aCons (eK (.int 676)) (aNil)))) (aCons (eN (callK pk []) (aCons (eVar 0) (aCons (eN mkLst (aCons (eK (.int 1)) (aCons (eK (.int 3)) (aCons (eK (.int 7)) (aCons (eK (.int 25)) (aCons (eK (.int 27)) (aCons (eK (.int 51)) (aCons (eK (.int 105)) (aNil))))))))) (aNil)))) (aNil)))) (gTup [4, 5]))
    (sSeq (sIf (tAnd (tOfE (e2 ltD (eVar 1) (eK (.int 27)))) (tOfE (e2 eqD (eN (callK tk []) (aCons (eVar 0) (aCons (eK (.int 6)) (aNil)))) (eK (.int 0))))) (sRet (eLc (iArgs range1 (aCons (eVar 1) (aNil))) [6] (gName 6) (tYesD) (e2 ixD (eVar 2) (e2 modD (e2 addD (eVar 4) (eVar 6)) (eK (.int 26)))))) (sSkip))
    (sSeq (sAsg (eBM "str" joinD (eK (.str "")) (aCons (eLc (iArgs range1 (aCons (eN (callK pk []) (aCons (eVar 0) (aCons (eN mkLst (aCons (eK (.int 0)) (aCons (eK (.int 0)) (aCons (eK (.int 1)) (aCons (eK (.int 2)) (aCons (eK (.int 6)) (aNil))))))) (aNil)))) (aNil))) [6] (gName 6) (tYesD) (eN (callK pk []) (aCons (eVar 0) (aCons (eVar 2) (aNil))))) (aNil))) (gName 7))
    (sSeq (sPar [8, 9] (aCons (eN (callK tk []) (aCons (eVar 0) (aCons (e2 addD (eN lenD (aCons (eVar 7) (aNil))) (eK (.int 1))) (aNil)))) (aCons (eN mkObj (aNil)) (aNil))))
    (sSeq (sFor (iArgs range1 (aCons (eVar 1) (aNil))) (gName 6) (sSeq (sAsg (e2 modD (e2 addD (eVar 4) (e2 mulD (eVar 5) (eVar 6))) (eK (.int 676))) (gName 10))
    (sSeq (sAsg (e2 addD (e2 ixD (eVar 2) (e2 fdivD (eVar 10) (eK (.int 26)))) (e2 ixD (eVar 2) (e2 modD (eVar 10) (eK (.int 26))))) (gName 11))
    (sSeq (sAsg (e2 addD (e2 addD (eSl (eVar 7) (pNo) (pYes (eVar 8))) (eVar 11)) (eSl (eVar 7) (pYes (eVar 8)) (pNo))) (gName 12))
    (sExpr (eBM "list" appendD (eVar 9) (aCons (e2 addD (eVar 12) (e2 mulD (eK (.str "x")) (eN intD (aCons (e2 inD (eVar 12) (eVar 3)) (aNil))))) (aNil))))))))
    (sRet (eVar 9))))))))
def mDigit (tk pk : FN) : SD :=
    sRet (eN (callK pk []) (aCons (eVar 0) (aCons (eN mkLst (aCons (eK (.int 0)) (aCons (eK (.int 1)) (aCons (eK (.int 2)) (aCons (eK (.int 3)) (aCons (eN (callK tk []) (aCons (eVar 0) (aCons (eK (.int 6)) (aNil)))) (aCons (eK (.int 9972)) (aCons (eN (callK tk []) (aCons (eVar 0) (aCons (eK (.int 9973)) (aNil)))) (aNil))))))))) (aNil))))
theorem split_words {S : Store} : splitD (.str "plus times most row say less below if let each num name any rest called count") [.str " "] S = .ok (.lst (WORDS.map .str)) S := by kernel_rfl
theorem mt_str {z : Str} {S : Store} : mtD (.str z) S = some "str" := rfl
/-- names, as a list that stays or one that was made since -/
def PoolV (S S' : Store) (d : D) (l : List Str) : Prop := d = .lst (l.map .str) ∨ ∃ q, S.length ≤ q ∧ d = .obj q ∧ S'[q]? = some (.lst (l.map .str))
theorem in_words {s : Str} {S : Store} (h : s.cps.toList.all isLet = true) : inD (.str s) (.lst (WORDS.map .str)) S = .ok (.bl (decide (s ∈ WORDS))) S := by
  have ok : PyData.strOk s = true := by
    unfold PyData.strOk
    rw [← Array.all_toList, List.all_eq_true]
    intro c hc
    have := List.all_eq_true.mp h c hc
    simp only [isLet, Bool.and_eq_true, decide_eq_true_eq] at this
    simp only [decide_eq_true_eq]; omega
  have ws : toPyL (WORDS.map .str) = some (WORDS.map .str) := by kernel_rfl
  have e : memD (.str s) (.lst (WORDS.map .str)) S = some (decide (s ∈ WORDS)) := by
    simp only [memD, memData, toPy, ok, if_true, ws, Option.map_some]
    rw [if_pos (show (PyData.str s).depth ≤ 64 by simp [PyData.depth])]
    congr 1
    rw [Bool.eq_iff_iff]
    simp only [List.any_map, List.any_eq_true, Function.comp, decide_eq_true_eq, PyData.eqv]
    constructor
    · rintro ⟨x, hx, e⟩
      have : x = s := by simpa using e
      exact this ▸ hx
    · intro hx
      exact ⟨s, hx, by simp⟩
  unfold inD
  rw [e]
theorem join_letters : ∀ (cs : List Nat), Txt.join "" (cs.map fun c => (⟨#[c]⟩ : Str)) = ⟨cs.toArray⟩ := by
  intro cs
  rw [TL.join_eq]
  have : TL.tl (Str.join "" (cs.map fun c => (⟨#[c]⟩ : Str))) = cs := by
    rw [TL.tl_join]
    have e0 : TL.tl "" = [] := by decide +kernel
    rw [e0]
    induction cs with
    | nil => rfl
    | cons c cs ih =>
      cases cs with
      | nil => rfl
      | cons b cs =>
        simp only [List.map_cons, TL.joinL, List.nil_append] at ih ⊢
        rw [ih]
        rfl
  have e : ∀ z : Str, z = ⟨(TL.tl z).toArray⟩ := fun z => by
    cases z with
    | mk a => simp [TL.tl]
  rw [e (Str.join _ _), this]
section
variable {S : Store} {env : EnvD} {N B C : EnvD → Store → Prop} {T : D → Store → Prop} {a b c d e r : SD}
theorem seq2 (M : EnvD → Store → Prop) (h : (sSeq a b env S).sat M T B C) (k : ∀ e S, M e S → (r e S).sat N T B C) : (sSeq a (sSeq b r) env S).sat N T B C := by
  rw [ssat_seq] at h ⊢
  exact ssat_mono h (fun _ _ h => seq_rule M h k) (fun _ _ h => h) (fun _ _ h => h) fun _ _ h => h
theorem seq3 (M : EnvD → Store → Prop) (h : (sSeq a (sSeq b c) env S).sat M T B C) (k : ∀ e S, M e S → (r e S).sat N T B C) : (sSeq a (sSeq b (sSeq c r)) env S).sat N T B C := by
  rw [ssat_seq] at h ⊢
  exact ssat_mono h (fun _ _ h => seq2 M h k) (fun _ _ h => h) (fun _ _ h => h) fun _ _ h => h
theorem seq4 (M : EnvD → Store → Prop) (h : (sSeq a (sSeq b (sSeq c d)) env S).sat M T B C) (k : ∀ e S, M e S → (r e S).sat N T B C) : (sSeq a (sSeq b (sSeq c (sSeq d r))) env S).sat N T B C := by
  rw [ssat_seq] at h ⊢
  exact ssat_mono h (fun _ _ h => seq3 M h k) (fun _ _ h => h) (fun _ _ h => h) fun _ _ h => h
theorem seq5 (M : EnvD → Store → Prop) (h : (sSeq a (sSeq b (sSeq c (sSeq d e))) env S).sat M T B C) (k : ∀ e S, M e S → (r e S).sat N T B C) : (sSeq a (sSeq b (sSeq c (sSeq d (sSeq e r)))) env S).sat N T B C := by
  rw [ssat_seq] at h ⊢
  exact ssat_mono h (fun _ _ h => seq4 M h k) (fun _ _ h => h) (fun _ _ h => h) fun _ _ h => h
end
theorem FrH.mk2 {n : Nat} {S S' : Store} (h : FrH n S S') (o : O) : FrH n S (S' ++ [o]) := h.trans (.app h.hd o)
theorem len_s {z : Str} {S : Store} (h : z.length ≤ 1000) : lenD [.str z] S = .ok (.int z.length) S := by
  unfold lenD; simp only; rw [if_pos (small h)]
theorem sl_str {z : Str} {lo hi : Option Int} {S : Store} (h : z.length ≤ 1000) : slD (.str z) lo hi S = .ok (.str (cutS z lo hi)) S := by
  unfold slD; simp only; rw [if_pos (small h)]
theorem md {i : Int} : 0 ≤ i % 26 ∧ i % 26 < 26 := ⟨Int.emod_nonneg _ (by decide), Int.emod_lt_of_pos _ (by decide)⟩
theorem mulx {b : Bool} {S : Store} : mulD (.str "x") (.int (if b = true then 1 else 0)) S = .ok (.str (if b = true then "x" else "")) S := by cases b <;> kernel_rfl
theorem strs_map : ∀ l : List Str, allStrs (l.map .str) = some l
  | [] => rfl
  | s :: l => by simp [allStrs, strs_map l]
/-- a stem, two letters put into it -/
theorem word_ok {st : List Nat} {a b : Nat} {sp : Nat} (hs : st.all isLet = true) (ha : isLet a = true) (hb : isLet b = true) (hl : st.length ≤ 6) (hsp : sp ≤ st.length) (z : Str) (hz : z = ⟨(st.take sp ++ [a, b] ++ st.drop sp).toArray⟩) :
    z.cps.toList.all isLet = true ∧ z.length ≤ 8 ∧ NameOk (z ++ (if decide (z ∈ WORDS) = true then ("x" : Str) else ("" : Str))) := by
  have e1 : z.cps.toList = st.take sp ++ [a, b] ++ st.drop sp := by rw [hz]
  have l1 : z.length = st.length + 2 := by
    rw [TL.len_tl]
    show z.cps.toList.length = _
    rw [e1]; simp; omega
  have al : z.cps.toList.all isLet = true := by
    rw [e1]
    simp only [List.all_append, List.all_cons, List.all_nil, ha, hb, Bool.and_true, Bool.and_eq_true]
    rw [List.all_eq_true] at hs ⊢
    refine ⟨fun x hx => hs x (List.mem_of_mem_take hx), ?_⟩
    rw [List.all_eq_true]
    exact fun x hx => hs x (List.mem_of_mem_drop hx)
  refine ⟨al, by omega, ?_⟩
  by_cases hw : z ∈ WORDS
  · simp only [hw, decide_true, if_true]
    exact nameWithX hw
  · simp only [hw, decide_false, Bool.false_eq_true, if_false]
    have : z ++ ("" : Str) = z := by
      apply TL.ext_tl
      show (z.cps ++ ("" : Str).cps).toList = z.cps.toList
      rw [Array.toList_append, show ("" : Str).cps.toList = [] by decide +kernel, List.append_nil]
    rw [this]
    exact ⟨by omega, by omega, al, hw⟩
theorem called_ok {tk pk : FN} (ht : IsTake tk) (hp : IsPick2 pk) {n : Nat} {S : Store} (hS : Hand n S) {many : Nat} (hm : many ≤ 1000) : (run 2 13 (mCalled tk pk) [.obj n, .int many] S).sat fun d S' => FrH n S S' ∧ ∃ l : List Str, l.length = many ∧ (∀ s ∈ l, NameOk s) ∧ PoolV S S' d l := by
  rw [sat_run]
  refine ⟨rfl, ?_⟩
  unfold mCalled
  have okm : okRng (many : Int) = true := by simp [okRng]; omega
  refine seq4 (fun e S1 => ∃ f b : Int, e = [some (.obj n), some (.int many), some (.str LET), some (.lst (WORDS.map .str)), some (.int f), some (.int b), none, none, none, none, none, none, none] ∧ 0 ≤ f ∧ 0 ≤ b ∧ FrH n S S1) ?_ ?_
  · open_k
    simp only [mt_str, split_words, sat_ok, true_and]
    refine sat_mono (ht n S 676 hS (by decide) (by decide)) fun d1 S1 ⟨⟨f, e1, f0, f1⟩, fr1⟩ => ?_
    subst e1
    refine sat_mono (hp n S1 _ _ fr1.hd (.lst _) (by simp) (by simp)) fun d2 S2 ⟨hb, fr2⟩ => ?_
    obtain ⟨b, rfl, b0⟩ : ∃ b : Int, d2 = .int b ∧ 0 ≤ b := by
      simp at hb
      rcases hb with rfl | rfl | rfl | rfl | rfl | rfl | rfl <;> exact ⟨_, rfl, by decide⟩
    have fin : ∀ S3, FrH n S S3 → ∃ f_1 b_1 : Int, [some (D.obj n), some (D.int ↑many), some (D.str "abcdefghijklmnopqrstuvwxyz"), some (D.lst (List.map D.str WORDS)), some (D.int f), some (D.int b), none, none, none, none, none, none, none] = [some (.obj n), some (.int many), some (.str LET), some (.lst (WORDS.map .str)), some (.int f_1), some (.int b_1), none, none, none, none, none, none, none] ∧ 0 ≤ f_1 ∧ 0 ≤ b_1 ∧ FrH n S S3 := fun S3 fr => ⟨f, b, rfl, f0, b0, fr⟩
    by_cases h27 : (many : Int) < 27
    · simp only [h27, decide_true, if_true]
      refine sat_mono (ht n S2 6 fr2.hd (by decide) (by decide)) fun d3 S3 ⟨⟨z, e3, _, _⟩, fr3⟩ => ?_
      subst e3
      open_k
      by_cases hz : z = 0
      · simp only [hz, decide_true, if_true]
        refine ⟨okm, by rw [rangeD_len]; exact small (by omega), ?_⟩
        refine lc_rule (fun S' => S' = S3) (fun _ y => ∃ s, y = .str s ∧ NameOk s) rfl (fun x hx S4 e4 => ?_) fun ys S5 e5 hy => ?_
        · subst e4
          obtain ⟨i, rfl, i0, i1⟩ := mem_range hx
          open_k
          simp only [mod_int]
          refine ⟨by decide, ?_⟩
          obtain ⟨c, hc, e⟩ := let_ix (md (i := f + i)).1 (md (i := f + i)).2 S4
          rw [show ("abcdefghijklmnopqrstuvwxyz" : Str) = LET from rfl, e, sat_ok]
          exact ⟨⟨_, rfl, name_one hc⟩, rfl⟩
        · subst e5
          obtain ⟨l, rfl, hl⟩ : ∃ l : List Str, ys = l.map .str ∧ ∀ s ∈ l, NameOk s := by
            clear okm hm h27 fin
            generalize rangeD 0 (many : Int) = xs at hy
            induction hy with
            | nil => exact ⟨[], rfl, by simp⟩
            | cons p _ ih =>
              obtain ⟨s, rfl, hs⟩ := p
              obtain ⟨l, rfl, hl⟩ := ih
              exact ⟨s :: l, rfl, by simpa using ⟨hs, hl⟩⟩
          have := hy.len
          simp at this
          exact ⟨(fr1.trans fr2).trans fr3, l, this, hl, .inl rfl⟩
      · simp only [hz, decide_false, Bool.false_eq_true, if_false]
        exact fin S3 ((fr1.trans fr2).trans fr3)
    · simp only [h27, decide_false, Bool.false_eq_true, if_false]
      exact fin S2 (fr1.trans fr2)
  · rintro e S1 ⟨f, b, rfl, f0, b0, fr⟩
    have hlt := hS.lt
    refine seq2 (fun e S2 => ∃ (st : List Nat) (sp q : Nat), e = [some (.obj n), some (.int many), some (.str LET), some (.lst (WORDS.map .str)), some (.int f), some (.int b), none, some (.str ⟨st.toArray⟩), some (.int sp), some (.obj q), none, none, none] ∧
      st.all isLet = true ∧ st.length ≤ 6 ∧ sp ≤ st.length ∧ FrH n S S2 ∧ S.length ≤ q ∧ S2[q]? = some (.lst [])) ?_ ?_
    · open_k
      simp only [mt_str, true_and]
      refine sat_mono (hp n S1 _ _ fr.hd (.lst _) (by simp) (by simp)) fun d2 S2 ⟨hb, fr2⟩ => ?_
      obtain ⟨L, rfl, hL⟩ : ∃ L : Nat, d2 = .int L ∧ L ≤ 6 := by
        simp at hb
        rcases hb with rfl | rfl | rfl | rfl
        · exact ⟨0, rfl, by decide⟩
        · exact ⟨1, rfl, by decide⟩
        · exact ⟨2, rfl, by decide⟩
        · exact ⟨6, rfl, by decide⟩
      open_k
      refine ⟨by simp [okRng]; omega, by rw [rangeD_len]; exact small (by omega), ?_⟩
      refine lc_rule (FrH n S) (fun _ y => ∃ c, y = .str ⟨#[c]⟩ ∧ isLet c = true) (fr.trans fr2) (fun x hx S4 h4 => ?_) fun ys S5 h5 hy => ?_
      · open_k
        refine sat_mono (hp n S4 _ _ h4.hd let_src (by decide +kernel) (by decide +kernel)) fun d S5 ⟨hd, fr5⟩ => ?_
        obtain ⟨c, hc, rfl⟩ := let_mem hd
        exact ⟨⟨c, rfl, hc⟩, h4.trans fr5⟩
      · obtain ⟨st, rfl, hst⟩ : ∃ st : List Nat, ys = (st.map fun c => (⟨#[c]⟩ : Str)).map .str ∧ st.all isLet = true := by
          clear hb
          generalize rangeD 0 (L : Int) = xs at hy
          induction hy with
          | nil => exact ⟨[], rfl, rfl⟩
          | cons p _ ih =>
            obtain ⟨c, rfl, hc⟩ := p
            obtain ⟨st, rfl, hst⟩ := ih
            exact ⟨c :: st, rfl, by simp only [List.all_cons, hc, hst, Bool.and_self]⟩
        have hl := hy.len
        simp at hl
        have ej : joinD (.str "") [.lst ((st.map fun c => (⟨#[c]⟩ : Str)).map .str)] S5 = .ok (.str ⟨st.toArray⟩) S5 := by
          simp only [joinD, asS, asL, Option.bind_some, strs_map]
          have : (((st.map fun c => (⟨#[c]⟩ : Str)).map (·.length)).sum + (st.map fun c => (⟨#[c]⟩ : Str)).length * Str.length "") ≤ 16777216 := by
            have e0 : Str.length "" = 0 := by decide +kernel
            have e1 : (st.map fun c => (⟨#[c]⟩ : Str)).map (·.length) = st.map fun _ => 1 := by simp [Str.length]
            have es : ∀ l : List Nat, (l.map fun _ => 1).sum = l.length := fun l => by
              induction l with
              | nil => rfl
              | cons a l ih => simp [ih]; omega
            rw [e0, e1, es]
            simp; omega
          rw [if_pos this, join_letters]
        rw [ej]
        have hlen : (⟨st.toArray⟩ : Str).length = st.length := by simp [Str.length]
        simp only [sat_ok, len_s (show (⟨st.toArray⟩ : Str).length ≤ 1000 by rw [hlen]; omega), hlen, add_int]
        refine sat_mono (ht n S5 _ h5.hd (by omega) (by omega)) fun d S6 ⟨⟨z, e6, z0, z1⟩, fr6⟩ => ?_
        subst e6
        have fr7 := h5.trans fr6
        exact ⟨st, z.toNat, S6.length, by rw [Int.toNat_of_nonneg z0], hst, by omega, by omega, fr7.mk2 _, fr7.le, by simp⟩
    · rintro e S2 ⟨st, sp, q, rfl, hst, hl6, hsp, fr2, hq, e2⟩
      have hqn : q ≠ n := by omega
      have hlen : (⟨st.toArray⟩ : Str).length = st.length := by simp [Str.length]
      refine seq_rule (fun e S3 => (∃ a6 a10 a11 a12 : Option D, e = [some (.obj n), some (.int many), some (.str LET), some (.lst (WORDS.map .str)), some (.int f), some (.int b), a6, some (.str ⟨st.toArray⟩), some (.int sp), some (.obj q), a10, a11, a12]) ∧
        FrH n S S3 ∧ ∃ l : List Str, l.length = many ∧ (∀ s ∈ l, NameOk s) ∧ S3[q]? = some (.lst (l.map .str))) ?_ ?_
      · open_k
        refine ⟨okm, ?_⟩
        refine for_rule (fun j e S3 => (∃ a6 a10 a11 a12 : Option D, e = [some (.obj n), some (.int many), some (.str LET), some (.lst (WORDS.map .str)), some (.int f), some (.int b), a6, some (.str ⟨st.toArray⟩), some (.int sp), some (.obj q), a10, a11, a12]) ∧
          FrH n S S3 ∧ ∃ l : List Str, l.length = j ∧ (∀ s ∈ l, NameOk s) ∧ S3[q]? = some (.lst (l.map .str))) ⟨⟨_, _, _, _, rfl⟩, fr2, [], rfl, by simp, e2⟩ ?_ ?_
        · rintro j hj e S3 ⟨⟨a6, a10, a11, a12, rfl⟩, fr3, l, hl, hn, e3⟩
          rw [rangeD_get hj]
          have hj' : j < many := by simpa using hj
          open_k
          rw [mul_int]
          refine ⟨mulOk_r (by omega), ?_⟩
          open_k
          rw [mod_int]
          refine ⟨by decide, ?_⟩
          have m676 : ∀ i : Int, 0 ≤ i % 676 ∧ i % 676 < 676 := fun i => ⟨Int.emod_nonneg _ (by decide), Int.emod_lt_of_pos _ (by decide)⟩
          obtain ⟨v, hv⟩ : ∃ v : Int, (f + b * (0 + (j : Int))) % 676 = v := ⟨_, rfl⟩
          have hv2 := m676 (f + b * (0 + (j : Int)))
          rw [hv] at hv2 ⊢
          rw [fdiv_int]
          refine ⟨by decide, ?_⟩
          obtain ⟨c1, hc1, ec1⟩ := let_ix (i := v / 26) (by omega) (by omega) S3
          rw [ec1, sat_ok, mod_int]
          refine ⟨by decide, ?_⟩
          obtain ⟨c2, hc2, ec2⟩ := let_ix (md (i := v)).1 (md (i := v)).2 S3
          rw [ec2, sat_ok]
          have one : ∀ c : Nat, (⟨#[c]⟩ : Str).length = 1 := fun c => rfl
          rw [add_str (by rw [one, one]; exact small (by decide)), sat_ok]
          have hz1000 : (⟨st.toArray⟩ : Str).length ≤ 1000 := by rw [hlen]; omega
          have elo : cutS ⟨st.toArray⟩ none (some (sp : Int)) = ⟨(st.take sp).toArray⟩ := by
            unfold cutS
            rw [hlen, HT.sIx_none, HT.sIx_nat]
            simp [Nat.min_eq_left hsp]
          have ehi : cutS ⟨st.toArray⟩ (some (sp : Int)) none = ⟨(st.drop sp).toArray⟩ := by
            unfold cutS
            rw [hlen, HT.sIx_none, HT.sIx_nat]
            simp [Nat.min_eq_left hsp]
            rw [List.take_of_length_le (by simp)]
          refine ⟨_, rfl, ?_⟩
          rw [sl_str hz1000, elo, sat_ok]
          have lt : (⟨(st.take sp).toArray⟩ : Str).length ≤ 6 := by simp [Str.length]; omega
          have ld : (⟨(st.drop sp).toArray⟩ : Str).length ≤ 6 := by simp [Str.length]; omega
          have two : ((⟨#[c1]⟩ : Str) ++ (⟨#[c2]⟩ : Str)).length = 2 := rfl
          have app : ∀ a b : Str, (a ++ b).length = a.length + b.length := fun a b => by
            show (a.cps ++ b.cps).size = _
            rw [Array.size_append]; rfl
          rw [add_str (small (by rw [two]; omega)), sat_ok]
          refine ⟨_, rfl, ?_⟩
          rw [sl_str hz1000, ehi, sat_ok, add_str (small (by rw [app, two]; omega)), sat_ok]
          obtain ⟨z, hz⟩ : ∃ z : Str, z = (⟨(st.take sp).toArray⟩ : Str) ++ ((⟨#[c1]⟩ : Str) ++ (⟨#[c2]⟩ : Str)) ++ (⟨(st.drop sp).toArray⟩ : Str) := ⟨_, rfl⟩
          have hz2 : z = ⟨(st.take sp ++ [c1, c2] ++ st.drop sp).toArray⟩ := by
            rw [hz]
            apply TL.ext_tl
            show ((((st.take sp).toArray ++ (#[c1] ++ #[c2])) ++ (st.drop sp).toArray)).toList = _
            simp
          rw [← hz]
          obtain ⟨al, l8, ok⟩ := word_ok hst hc1 hc2 hl6 hsp z hz2
          refine ⟨mtD_obj e3, ?_⟩
          rw [in_words al, sat_ok]
          simp only [intD, sat_ok]
          rw [mulx, sat_ok]
          have lx : ∀ b : Bool, (if b = true then ("x" : Str) else "").length ≤ 1 := fun b => by cases b <;> decide +kernel
          rw [add_str (small (by have := lx (decide (z ∈ WORDS)); omega)), sat_ok, append_obj e3]
          refine ⟨Nat.lt_of_lt_of_le (m := 1000) (by simp; omega) (by decide), ⟨_, _, _, _, rfl⟩, fr3.put hS hq _, l ++ [z ++ (if decide (z ∈ WORDS) = true then ("x" : Str) else ("" : Str))], by simp [hl], ?_, ?_⟩
          · intro s hs
            rcases List.mem_append.mp hs with h | h
            · exact hn s h
            · simp only [List.mem_singleton] at h; rw [h]; exact ok
          · rw [List.getElem?_set_self (List.getElem?_eq_some_iff.mp e3).1]
            simp
        · rintro e S3 ⟨⟨a6, a10, a11, a12, rfl⟩, fr3, l, hl, hn, e3⟩
          simp at hl
          exact ⟨⟨_, _, _, _, rfl⟩, fr3, l, hl, hn, e3⟩
      · rintro e S3 ⟨⟨a6, a10, a11, a12, rfl⟩, fr3, l, hl, hn, e3⟩
        open_k
        exact ⟨fr3, l, hl, hn, .inr ⟨q, hq, rfl, e3⟩⟩
/-! ### drawn numbers -/
def IsDigit (dg : FN) : Prop := ∀ (n : Nat) (S : Store), Hand n S → (dg [.obj n] S).sat fun d S' => (∃ i : Int, d = .int i ∧ 0 ≤ i ∧ i ≤ 9972) ∧ FrH n S S'
theorem isDigit {tk pk : FN} (ht : IsTake tk) (hp : IsPick2 pk) : IsDigit (run 1 1 (mDigit tk pk)) := fun n S hS => by
  rw [sat_run]
  refine ⟨rfl, ?_⟩
  unfold mDigit
  open_k
  refine sat_mono (ht n S 6 hS (by decide) (by decide)) fun d1 S1 ⟨⟨a, e1, a0, a1⟩, fr1⟩ => ?_
  subst e1
  refine sat_mono (ht n S1 9973 fr1.hd (by decide) (by decide)) fun d2 S2 ⟨⟨b, e2, b0, b1⟩, fr2⟩ => ?_
  subst e2
  refine sat_mono (hp n S2 _ _ fr2.hd (.lst _) (by simp) (by simp)) fun d3 S3 ⟨h, fr3⟩ => ⟨?_, (fr1.trans fr2).trans fr3⟩
  simp at h
  rcases h with rfl | rfl | rfl | rfl | rfl | rfl | rfl <;> exact ⟨_, rfl, by omega, by omega⟩
end L3
set_option Elab.async false
set_option linter.all false
set_option maxRecDepth 100000
set_option maxHeartbeats 4000000
/-! L3V: drawn programs. -/
namespace L3
open PySem L2
local macro_rules | `(tactic| open_k) => `(tactic| simp only [ssat_seq, ssat_asg, ssat_sRet, ssat_sExpr, ssat_if, ssat_skip, ssat_par, ssat_nx, ssat_ret, ssat_for, sat_e2, sat_e1, sat_eN, sat_aCons, sat_aNil, sat_eVar, sat_eK, sat_tOfE, sat_tTruth, sat_tNot, sat_tAnd, sat_tOr, sat_eIf, sat_eBM, sat_iSeq, sat_iArgs, sat_eAnd, sat_eOr, sat_eNot, sat_eChain, sat_eSl, sat_pNo, sat_pYes, sat_eLc, sat_eKw, sat_mkTup, sat_mkLst, sat_mkObj, sat_ok, callK_eq, List.append_nil, List.map_cons, List.map_nil, List.length_cons, List.length_nil, List.replicate, List.getElem?_cons_succ, List.getElem?_cons_zero, List.cons_append, List.nil_append, List.set_cons_succ, List.set_cons_zero, gName_eq, gTup_tup, gNames_cons, gNames_nil, Nat.zero_add, Nat.reduceAdd, Nat.reduceSub, sz0, sz1, sz2, sz3, sz4, sz5, sz6, sz7, sz8, sz10, sz17, true_and, add_int, sub_int, neg_int, lt_int, le_int, gt_int, ge_int, eq_int, ne_int, blD_bl, truthD_bl, itemsD_lst, itemsD_tup, wipeD, eq_strs, ne_strs, sl_tup, sl_lst, if_true, if_false, Bool.false_eq_true, sat_range1, sat_range2, tuple_lst, tuple_tup, len_tup, len_lst, len_scr, D.int.injEq, exists_eq_left', mt_str])
def mGrown (tk pk dg gr : FN) : SD :=
    sSeq (sAsg (e2 subD (e2 ixD (eVar 1) (eK (.str "left"))) (eK (.int 1))) (gSub (eVar 1) (eK (.str "left"))))
    (sSeq (sIf (tOr (tOfE (e2 eqD (eVar 3) (eK (.int 0)))) (tOfE (e2 ltD (e2 ixD (eVar 1) (eK (.str "left"))) (eK (.int 4))))) (sSeq (sIf (tOfE (e2 ltD (eN (callK tk []) (aCons (eVar 0) (aCons (eK (.int 5)) (aNil)))) (eK (.int 3)))) (sRet (eN mkTup (aCons (eK (.str "name")) (aCons (eN (callK pk []) (aCons (eVar 0) (aCons (e2 addD (e2 addD (eSl (eVar 2) (pYes (e1 negD (eK (.int 2)))) (pNo)) (eSl (eVar 2) (pYes (e1 negD (eK (.int 2)))) (pNo))) (e2 ixD (eVar 1) (eK (.str "pool")))) (aNil)))) (aCons (eN mkTup (aNil)) (aNil)))))) (sSkip))
    (sRet (eN mkTup (aCons (eK (.str "num")) (aCons (eN (callK dg []) (aCons (eVar 0) (aNil))) (aCons (eN mkTup (aNil)) (aNil))))))) (sSkip))
    (sSeq (sPar [4, 5] (aCons (eN (callK tk []) (aCons (eVar 0) (aCons (eK (.int 13)) (aNil)))) (aCons (eN (callK pk []) (aCons (eVar 0) (aCons (eN mkLst (aCons (eK (.int 2)) (aCons (eK (.int 2)) (aCons (eK (.int 3)) (aCons (eK (.int 1)) (aCons (eK (.int 4)) (aNil))))))) (aNil)))) (aNil))))
    (sSeq (sIf (tOfE (e2 ltD (eVar 4) (eK (.int 4)))) (sSeq (sAsg (e2 ixD (eN mkLst (aCons (eK (.str "plus")) (aCons (eK (.str "times")) (aCons (eK (.str "most")) (aCons (eK (.str "plus")) (aNil)))))) (eVar 4)) (gName 6))
    (sRet (eN mkTup (aCons (eVar 6) (aCons (eK (.str "")) (aCons (eN tupleD (aCons (eLc (iArgs range1 (aCons (eVar 5) (aNil))) [7] (gName 7) (tYesD) (eN (callK gr []) (aCons (eVar 0) (aCons (eVar 1) (aCons (eVar 2) (aCons (e2 subD (eVar 3) (eK (.int 1))) (aNil))))))) (aNil))) (aNil))))))) (sSkip))
    (sSeq (sIf (tOfE (e2 ltD (eVar 4) (eK (.int 7)))) (sSeq (sAsg (eN (callK pk []) (aCons (eVar 0) (aCons (eN mkLst (aCons (eVar 5) (aCons (eK (.int 0)) (aCons (eK (.int 3)) (aCons (eK (.int 4)) (aCons (eK (.int 5)) (aNil))))))) (aNil)))) (gName 5))
    (sRet (eN mkTup (aCons (eK (.str "row")) (aCons (eK (.str "")) (aCons (eN tupleD (aCons (eLc (iArgs range1 (aCons (eVar 5) (aNil))) [7] (gName 7) (tYesD) (eN (callK gr []) (aCons (eVar 0) (aCons (eVar 1) (aCons (eVar 2) (aCons (e2 subD (eVar 3) (eK (.int 1))) (aNil))))))) (aNil))) (aNil))))))) (sSkip))
    (sSeq (sIf (tOfE (e2 ltD (eVar 4) (eK (.int 10)))) (sSeq (sAsg (e2 ixD (eN mkLst (aCons (eK (.str "let")) (aCons (eK (.str "each")) (aCons (eK (.str "let")) (aNil))))) (e2 subD (eVar 4) (eK (.int 7)))) (gName 6))
    (sSeq (sPar [8, 9] (aCons (eN (callK pk []) (aCons (eVar 0) (aCons (e2 ixD (eVar 1) (eK (.str "pool"))) (aNil)))) (aCons (eN (callK gr []) (aCons (eVar 0) (aCons (eVar 1) (aCons (eVar 2) (aCons (e2 subD (eVar 3) (eK (.int 1))) (aNil)))))) (aNil))))
    (sRet (eN mkTup (aCons (eVar 6) (aCons (eVar 8) (aCons (eN mkTup (aCons (eVar 9) (aCons (eN (callK gr []) (aCons (eVar 0) (aCons (eVar 1) (aCons (e2 addD (eVar 2) (eN mkLst (aCons (eVar 8) (aNil)))) (aCons (e2 subD (eVar 3) (eK (.int 1))) (aNil)))))) (aNil)))) (aNil)))))))) (sSkip))
    (sSeq (sAsg (e2 ixD (eN mkLst (aCons (eK (.str "say")) (aCons (eN (callK pk []) (aCons (eVar 0) (aCons (eN mkLst (aCons (eK (.str "less")) (aCons (eK (.str "below")) (aNil)))) (aNil)))) (aCons (eK (.str "if")) (aNil))))) (e2 subD (eVar 4) (eK (.int 10)))) (gName 6))
    (sRet (eN mkTup (aCons (eVar 6) (aCons (eK (.str "")) (aCons (eN tupleD (aCons (eLc (iArgs range1 (aCons (e2 subD (eVar 4) (eK (.int 9))) (aNil))) [7] (gName 7) (tYesD) (eN (callK gr []) (aCons (eVar 0) (aCons (eVar 1) (aCons (eVar 2) (aCons (e2 subD (eVar 3) (eK (.int 1))) (aNil))))))) (aNil))) (aNil))))))))))))
/-- what is still to come, the names to choose from -/
def Pot (p : Nat) (left : Int) (pv : D) (S : Store) : Prop := S[p]? = some (.dK [(.inr "left", .int left), (.inr "pool", pv)])
section
variable {n p : Nat} {S S' S'' : Store} {left x : Int} {pv : D}
theorem pot_left (h : Pot p left pv S) : ixD (.obj p) (.str "left") S = .ok (.int left) S := by
  simp only [ixD, show S[p]? = _ from h]
  kernel_rfl
theorem pot_pool (h : Pot p left pv S) : ixD (.obj p) (.str "pool") S = .ok pv S := by
  simp only [ixD, show S[p]? = _ from h]
  kernel_rfl
theorem pot_set (h : Pot p left pv S) : setD (.obj p) (.str "left") (.int x) S = some (S.set p (.dK [(.inr "left", .int x), (.inr "pool", pv)])) := by
  simp only [setD, show S[p]? = _ from h]
  kernel_rfl
/-- the hand and the pot alone have changed -/
structure FrX (n p : Nat) (S S' : Store) : Prop where
  le : S.length ≤ S'.length
  fr : ∀ m o, m ≠ n → m ≠ p → S[m]? = some o → S'[m]? = some o
  hd : Hand n S'
theorem FrX.of (h : FrH n S S') : FrX n p S S' := ⟨h.le, fun m o hm _ e => h.fr m o hm e, h.hd⟩
theorem FrX.trans (h : FrX n p S S') (g : FrX n p S' S'') : FrX n p S S'' := ⟨Nat.le_trans h.le g.le, fun m o h1 h2 e => g.fr m o h1 h2 (h.fr m o h1 h2 e), g.hd⟩
theorem FrX.toH (h : FrX n p S S') (o : O) (e : S[p]? = some o) (e' : S'[p]? = some o) : FrH n S S' := ⟨h.le, fun m o' hm e1 => by
  by_cases hp : m = p
  · subst hp; rw [e] at e1; cases e1; exact e'
  · exact h.fr m o' hm hp e1, h.hd⟩
theorem Pot.fr (h : Pot p left pv S) (hp : p ≠ n) (f : FrH n S S') : Pot p left pv S' := f.fr _ _ hp h
theorem FrX.set (h : Hand n S) (hp : n ≠ p) (o : O) : FrX n p S (S.set p o) := by
  refine ⟨by simp, fun m o' _ hm e => by rw [List.getElem?_set_ne (Ne.symm hm)]; exact e, ?_⟩
  obtain ⟨g, s, e⟩ := h
  exact ⟨g, s, by rw [List.getElem?_set_ne (Ne.symm hp)]; exact e⟩
/-- the names to choose from -/
inductive Pool (n p : Nat) (S : Store) : D → List Str → Prop where
  | lst (l : List Str) : Pool n p S (.lst (l.map .str)) l
  | obj {q : Nat} {l : List Str} : q ≠ n → q ≠ p → S[q]? = some (.lst (l.map .str)) → Pool n p S (.obj q) l
theorem Pool.fr {l : List Str} (h : Pool n p S pv l) (f : FrX n p S S') : Pool n p S' pv l := by
  cases h with
  | lst => exact .lst _
  | obj h1 h2 e => exact .obj h1 h2 (f.fr _ _ h1 h2 e)
theorem Pool.src {l : List Str} (h : Pool n p S pv l) : Src n S pv (l.map .str) := by
  cases h with
  | lst => exact .lst _
  | obj h1 h2 e => exact .obj h1 e
theorem Pool.add {l : List Str} (h : Pool n p S pv l) {a : List D} (hz : a.length + l.length ≤ sizeLine) : addD (.lst a) pv S = .ok (.lst (a ++ l.map .str)) S := by
  cases h with
  | lst => exact add_lst (by simpa using hz)
  | obj h1 h2 e => simp [addD, asL, e, hz]
theorem gsub_eq {mo mi : ED} {o i v : D} {env : EnvD} (ho : mo env S = .ok o S) (hi : mi env S = .ok i S) (h : setD o i v S = some S') : gSub mo mi v env S = .nx env S' := by simp [gSub, ho, hi, h]
end
theorem cutL_mem {α : Type} {l : List α} {lo hi : Option Int} {x : α} (h : x ∈ cutL l lo hi) : x ∈ l := List.mem_of_mem_drop (List.mem_of_mem_take h)
theorem cutL_len {α : Type} {l : List α} {lo hi : Option Int} : (cutL l lo hi).length ≤ l.length := by
  unfold cutL
  rw [List.length_take, List.length_drop]; omega
def GrownOk (gr : FN) (level : Nat) : Prop := ∀ (n p : Nat) (S : Store) (left : Int) (pv : D) (pool scope : List Str), Hand n S → n ≠ p → Pot p left pv S → Pool n p S pv pool → pool ≠ [] → pool.length ≤ 500 → (∀ s ∈ pool, NameOk s) →
  (∀ s ∈ scope, NameOk s) → scope.length + level ≤ 200 → (gr [.obj n, .obj p, .lst (scope.map .str), .int level] S).sat fun d S' => ∃ t : Tm, d = t.d ∧ Good t ∧ t.dep ≤ level + 1 ∧ FrX n p S S' ∧ Pot p (left - t.size) pv S' ∧
    (left ≤ 4 → t.size = 1) ∧ (5 ≤ left → 3 - 4 * (level : Int) ≤ left - t.size)
theorem kids {gr : FN} {L : Nat} (hg : GrownOk gr L) {n p : Nat} {S : Store} {left : Int} {pv : D} {pool scope : List Str} (hS : Hand n S) (hnp : n ≠ p) (hpot : Pot p left pv S) (hpool : Pool n p S pv pool) (h0 : pool ≠ []) (h1 : pool.length ≤ 500) (hn : ∀ s ∈ pool, NameOk s)
    (hs : ∀ s ∈ scope, NameOk s) (hl : scope.length + L ≤ 200) (hleft : 4 ≤ left) {m : Nat} (hm : m ≤ 5) {env : EnvD} {i : Nat} (hi : 4 ≤ i) (e0 : env[0]? = some (some (.obj n))) (e1 : env[1]? = some (some (.obj p))) (e2' : env[2]? = some (some (.lst (scope.map .str)))) (e3 : env[3]? = some (some (.int ((L + 1 : Nat) : Int))))
    {Q : List D → Store → Prop} (hQ : ∀ ts S', ts.length = m → (∀ t ∈ ts, Good t) → Tm.deps ts ≤ L + 1 → FrX n p S S' → Pot p (left - Tm.sizes ts) pv S' → 3 - 4 * ((L + 1 : Nat) : Int) ≤ left - Tm.sizes ts → Q (Tm.ds ts) S') :
    lcSat (gName i) tYesD (eN (callK gr []) (aCons (eVar 0) (aCons (eVar 1) (aCons (eVar 2) (aCons (e2 subD (eVar 3) (eK (.int 1))) (aNil)))))) env (rangeD 0 m) S Q := by
  refine lc_acc (acc := []) (fun acc S' => ∃ ts, acc = Tm.ds ts ∧ (∀ t ∈ ts, Good t) ∧ Tm.deps ts ≤ L + 1 ∧ FrX n p S S' ∧ Pot p (left - Tm.sizes ts) pv S' ∧ (ts = [] ∨ 3 - 4 * (L : Int) - ((ts.length : Int) - 1) ≤ left - Tm.sizes ts)) ?_ ?_ ?_
  · exact ⟨[], rfl, by simp, by simp [Tm.deps], ⟨Nat.le_refl _, fun _ _ _ _ e => e, hS⟩, by simpa [Tm.sizes] using hpot, .inl rfl⟩
  · rintro x hx acc S1 ⟨ts, rfl, hgood, hdep, fr, pot, hb⟩
    have g : ∀ j : Nat, j < 4 → (env.set i (some x))[j]? = env[j]? := fun j hj => by rw [List.getElem?_set_ne (by omega)]
    simp only [sat_eN, sat_aCons, sat_aNil, sat_eVar, g 0 (by decide), g 1 (by decide), g 2 (by decide), e0, e1, e2', sat_e2, g 3 (by decide), e3, sat_eK, sub_int, sat_ok, callK_eq, List.append_nil]
    rw [show (((L + 1 : Nat) : Int) - 1) = (L : Int) by omega]
    refine sat_mono (hg n p S1 _ pv pool scope fr.hd hnp pot (hpool.fr fr) h0 h1 hn hs hl) fun d S2 q => ?_
    obtain ⟨t, rfl, g1, g2, fr2, pot2, b1, b2⟩ := q
    have es : Tm.sizes (ts ++ [t]) = Tm.sizes ts + t.size := by rw [Tm.sizes_app]; simp [Tm.sizes]
    refine ⟨ts ++ [t], by simp [Tm.ds_map], ?_, ?_, fr.trans fr2, ?_, .inr ?_⟩
    · intro t' ht
      rcases List.mem_append.mp ht with h | h
      · exact hgood t' h
      · simp only [List.mem_singleton] at h; rw [h]; exact g1
    · rw [Tm.deps_le] at hdep ⊢
      intro t' ht
      rcases List.mem_append.mp ht with h | h
      · exact hdep t' h
      · simp only [List.mem_singleton] at h; rw [h]; exact g2
    · rw [es]
      have : left - ((Tm.sizes ts + t.size : Nat) : Int) = left - Tm.sizes ts - t.size := by omega
      rw [this]; exact pot2
    · rw [es]
      have e : left - ((Tm.sizes ts + t.size : Nat) : Int) = left - Tm.sizes ts - t.size := by omega
      rw [e]
      simp only [List.length_append, List.length_cons, List.length_nil]
      have b1 := b1
      have b2 := b2
      by_cases h5 : 5 ≤ left - (Tm.sizes ts : Int)
      · have := b2 h5; omega
      · have := b1 (by omega)
        rcases hb with rfl | hb
        · simp [Tm.sizes] at h5 ⊢; omega
        · omega
  · rintro ys S1 hlen ⟨ts, e, hgood, hdep, fr, pot, hb⟩
    simp only [List.nil_append] at e
    subst e
    have hl2 : ts.length = m := by rw [Tm.ds_len] at hlen; simpa using hlen
    refine hQ ts S1 hl2 hgood hdep fr pot ?_
    rcases hb with rfl | hb
    · simp [Tm.sizes]; omega
    · omega
end L3
set_option Elab.async false
set_option linter.all false
set_option maxRecDepth 100000
set_option maxHeartbeats 4000000
/-! L3W: drawn programs, the law. -/
namespace L3
open PySem L2
local macro_rules | `(tactic| open_k) => `(tactic| simp only [ssat_seq, ssat_asg, ssat_sRet, ssat_sExpr, ssat_if, ssat_skip, ssat_par, ssat_nx, ssat_ret, ssat_for, sat_e2, sat_e1, sat_eN, sat_aCons, sat_aNil, sat_eVar, sat_eK, sat_tOfE, sat_tTruth, sat_tNot, sat_tAnd, sat_tOr, sat_eIf, sat_eBM, sat_iSeq, sat_iArgs, sat_eAnd, sat_eOr, sat_eNot, sat_eChain, sat_eSl, sat_pNo, sat_pYes, sat_eLc, sat_eKw, sat_mkTup, sat_mkLst, sat_mkObj, sat_ok, callK_eq, List.append_nil, List.map_cons, List.map_nil, List.length_cons, List.length_nil, List.replicate, List.getElem?_cons_succ, List.getElem?_cons_zero, List.cons_append, List.nil_append, List.set_cons_succ, List.set_cons_zero, gName_eq, gTup_tup, gNames_cons, gNames_nil, Nat.zero_add, Nat.reduceAdd, Nat.reduceSub, sz0, sz1, sz2, sz3, sz4, sz5, sz6, sz7, sz8, sz10, sz17, true_and, add_int, sub_int, neg_int, lt_int, le_int, gt_int, ge_int, eq_int, ne_int, blD_bl, truthD_bl, itemsD_lst, itemsD_tup, wipeD, eq_strs, ne_strs, sl_tup, sl_lst, if_true, if_false, Bool.false_eq_true, sat_range1, sat_range2, tuple_lst, tuple_tup, len_tup, len_lst, len_scr, D.int.injEq, exists_eq_left', mt_str])
theorem grown_ok {tk pk dg gr : FN} (ht : IsTake tk) (hp : IsPick2 pk) (hd : IsDigit dg) {L : Nat} (ih : L ≠ 0 → GrownOk gr (L - 1)) : GrownOk (run 4 10 (mGrown tk pk dg gr)) L := by
  intro n p S left pv pool scope hS hnp hpot hpool h0 h1 hn hs hl
  rw [sat_run]
  refine ⟨rfl, ?_⟩
  unfold mGrown
  have pl : p < S.length := (List.getElem?_eq_some_iff.mp hpot).1
  refine seq_rule (fun e S1 => e = [some (D.obj n), some (D.obj p), some (D.lst (List.map D.str scope)), some (D.int (L : Int)), none, none, none, none, none, none] ∧ FrX n p S S1 ∧ Pot p (left - 1) pv S1) ?_ ?_
  · open_k
    rw [pot_left hpot]
    open_k
    rw [gsub_eq (o := .obj p) (i := .str "left") (by simp [eVar]) (by simp [eK]) (pot_set hpot)]
    open_k
    exact ⟨FrX.set hS hnp _, by show (S.set p _)[p]? = _; rw [List.getElem?_set_self pl]⟩
  rintro e S1 ⟨rfl, fr1, pot1⟩
  have pool1 := hpool.fr fr1
  refine seq_rule (fun e S2 => e = [some (D.obj n), some (D.obj p), some (D.lst (List.map D.str scope)), some (D.int (L : Int)), none, none, none, none, none, none] ∧ S2 = S1 ∧ L ≠ 0 ∧ 4 ≤ left - 1) ?_ ?_
  · have leaf : (sSeq (sIf (tOfE (e2 ltD (eN (callK tk []) (aCons (eVar 0) (aCons (eK (.int 5)) (aNil)))) (eK (.int 3)))) (sRet (eN mkTup (aCons (eK (.str "name")) (aCons (eN (callK pk []) (aCons (eVar 0) (aCons (e2 addD (e2 addD (eSl (eVar 2) (pYes (e1 negD (eK (.int 2)))) (pNo)) (eSl (eVar 2) (pYes (e1 negD (eK (.int 2)))) (pNo))) (e2 ixD (eVar 1) (eK (.str "pool")))) (aNil)))) (aCons (eN mkTup (aNil)) (aNil)))))) (sSkip))
    (sRet (eN mkTup (aCons (eK (.str "num")) (aCons (eN (callK dg []) (aCons (eVar 0) (aNil))) (aCons (eN mkTup (aNil)) (aNil)))))) [some (D.obj n), some (D.obj p), some (D.lst (List.map D.str scope)), some (D.int (L : Int)), none, none, none, none, none, none] S1).sat (fun _ _ => False) (fun d S' => ∃ t : Tm, d = t.d ∧ Good t ∧ t.size = 1 ∧ t.dep = 1 ∧ FrH n S1 S') (fun _ _ => False) (fun _ _ => False) := by
      open_k
      refine sat_mono (ht n S1 5 fr1.hd (by decide) (by decide)) fun d1 S2 ⟨⟨f, e1, f0, f1⟩, fr2⟩ => ?_
      subst e1
      open_k
      by_cases h3 : f < 3
      · simp only [h3, decide_true, if_true]
        have ec : cutL (scope.map D.str) (some (-2)) none = (cutL scope (some (-2)) none).map D.str := by unfold cutL; simp
        have lc : (cutL scope (some (-2)) none).length ≤ 200 := Nat.le_trans cutL_len (by omega)
        rw [ec, add_lst (small (by simp; omega)), sat_ok, pot_pool (pot1.fr (Ne.symm hnp) fr2), sat_ok]
        rw [← List.map_append, (pool1.fr (.of fr2)).add (small (by simp; omega)), sat_ok, ← List.map_append]
        refine sat_mono (hp n S2 _ _ fr2.hd (.lst _) (by simp [h0]) (by simp; omega)) fun d2 S3 ⟨hb, fr3⟩ => ?_
        simp only [List.mem_map] at hb
        obtain ⟨z, hz, rfl⟩ := hb
        have hz : NameOk z := by
          rcases List.mem_append.mp hz with h | h
          · rcases List.mem_append.mp h with h | h <;> exact hs z (cutL_mem h)
          · exact hn z h
        exact ⟨.nam z, rfl, .nam hz, rfl, rfl, fr2.trans fr3⟩
      · simp only [h3, decide_false, Bool.false_eq_true, if_false]
        refine sat_mono (hd n S2 fr2.hd) fun d2 S3 ⟨⟨i, e2, i0, i1⟩, fr3⟩ => ?_
        subst e2
        exact ⟨.num i, rfl, .num i0 i1, rfl, rfl, fr2.trans fr3⟩
    have fin : ∀ d S', (∃ t : Tm, d = t.d ∧ Good t ∧ t.size = 1 ∧ t.dep = 1 ∧ FrH n S1 S') → ∃ t : Tm, d = t.d ∧ Good t ∧ t.dep ≤ L + 1 ∧ FrX n p S S' ∧ Pot p (left - t.size) pv S' ∧ (left ≤ 4 → t.size = 1) ∧ (5 ≤ left → 3 - 4 * (L : Int) ≤ left - t.size) := by
      rintro d S' ⟨t, e, g, s1, d1, fr⟩
      refine ⟨t, e, g, by omega, fr1.trans (.of fr), ?_, fun _ => s1, fun _ => by rw [s1]; omega⟩
      rw [s1]; exact pot1.fr (Ne.symm hnp) fr
    rw [ssat_if, sat_tOr]
    simp only [sat_tOfE, sat_e2, sat_eVar, sat_eK, List.getElem?_cons_succ, List.getElem?_cons_zero, eq_int, sat_ok, blD_bl]
    by_cases hL : (L : Int) = 0
    · rw [if_pos (decide_eq_true hL)]
      exact ssat_mono leaf (fun _ _ h => h.elim) fin (fun _ _ h => h.elim) (fun _ _ h => h.elim)
    · simp only [hL, decide_false, Bool.false_eq_true, if_false, pot_left pot1, sat_ok, lt_int, blD_bl]
      by_cases h4 : left - 1 < 4
      · rw [if_pos (decide_eq_true h4)]
        exact ssat_mono leaf (fun _ _ h => h.elim) fin (fun _ _ h => h.elim) (fun _ _ h => h.elim)
      · simp only [h4, decide_false, Bool.false_eq_true, if_false, ssat_skip]
        exact ⟨trivial, trivial, by omega, by omega⟩
  rintro e S2 ⟨rfl, rfl, hL, h4⟩
  obtain ⟨L, rfl⟩ : ∃ L', L = L' + 1 := ⟨L - 1, by omega⟩
  have ih := ih (by omega)
  rw [Nat.add_sub_cancel] at ih
  refine seq_rule (fun e S3 => ∃ (lot : Int) (m : Nat), e = [some (D.obj n), some (D.obj p), some (D.lst (List.map D.str scope)), some (D.int ((L + 1 : Nat) : Int)), some (.int lot), some (.int (m : Int)), none, none, none, none] ∧ 0 ≤ lot ∧ lot < 13 ∧ 1 ≤ m ∧ m ≤ 4 ∧ FrX n p S S3 ∧ Pot p (left - 1) pv S3) ?_ ?_
  · open_k
    refine sat_mono (ht n S2 13 fr1.hd (by decide) (by decide)) fun d1 S3 ⟨⟨f, e1, f0, f1⟩, fr2⟩ => ?_
    subst e1
    refine sat_mono (hp n S3 _ _ fr2.hd (.lst _) (by simp) (by simp)) fun d2 S4 ⟨hb, fr3⟩ => ?_
    have : ∃ m : Nat, d2 = .int m ∧ 1 ≤ m ∧ m ≤ 4 := by
      simp at hb
      rcases hb with rfl | rfl | rfl | rfl
      · exact ⟨2, rfl, by decide, by decide⟩
      · exact ⟨3, rfl, by decide, by decide⟩
      · exact ⟨1, rfl, by decide, by decide⟩
      · exact ⟨4, rfl, by decide, by decide⟩
    obtain ⟨m, rfl, m1, m4⟩ := this
    exact ⟨f, m, rfl, f0, f1, m1, m4, fr1.trans (.of (fr2.trans fr3)), pot1.fr (Ne.symm hnp) (fr2.trans fr3)⟩
  rintro e S3 ⟨lot, m, rfl, l0, l1, m1, m4, fr3, pot3⟩
  have pool3 := hpool.fr fr3
  have made : ∀ (w : Str) (ts : List Tm) (S' : Store) (f mo : Nat), shape w = some (f, mo, false) → f ≤ ts.length → ts.length ≤ mo → (∀ t ∈ ts, Good t) → Tm.deps ts ≤ L + 1 → FrX n p S3 S' → Pot p (left - 1 - Tm.sizes ts) pv S' → 3 - 4 * ((L + 1 : Nat) : Int) ≤ left - 1 - Tm.sizes ts →
      ∃ t : Tm, D.tup [.str w, .str "", .tup (Tm.ds ts)] = t.d ∧ Good t ∧ t.dep ≤ L + 1 + 1 ∧ FrX n p S S' ∧ Pot p (left - t.size) pv S' ∧ (left ≤ 4 → t.size = 1) ∧ (5 ≤ left → 3 - 4 * ((L + 1 : Nat) : Int) ≤ left - t.size) := by
    intro w ts S' f mo hw hf hmo hg hdp fr pot b
    have e : left - ((Tm.nd w "" ts).size : Int) = left - 1 - Tm.sizes ts := by simp only [Tm.size]; omega
    refine ⟨.nd w "" ts, rfl, .nd hw hf hmo (fun h => by cases h) (fun _ => rfl) hg, by simp only [Tm.dep]; omega, fr3.trans fr, by rw [e]; exact pot, fun h => by omega, fun _ => by rw [e]; exact b⟩
  have pickW : ∀ (l : List Str) (i : Int) (S : Store), 0 ≤ i → i < l.length → ∃ w ∈ l, ixD (.lst (l.map .str)) (.int i) S = .ok (.str w) S := by
    intro l i S h0 h1
    obtain ⟨d, hd, e⟩ := (Src.lst (n := n) (S := S) (l.map .str)).ix h0 (by simpa using h1)
    simp only [List.mem_map] at hd
    obtain ⟨w, hw, rfl⟩ := hd
    exact ⟨w, hw, e⟩
  rw [ssat_seq, ssat_if]
  simp only [sat_tOfE, sat_e2, sat_eVar, sat_eK, List.getElem?_cons_succ, List.getElem?_cons_zero, lt_int, sat_ok, blD_bl]
  by_cases c4 : lot < 4
  · rw [if_pos (decide_eq_true c4)]
    obtain ⟨w, hw, e⟩ := pickW ["plus", "times", "most", "plus"] lot S3 l0 (by simpa using c4)
    have hsh : shape w = some (1, 6, false) := by
      simp at hw; rcases hw with rfl | rfl | rfl | rfl <;> decide +kernel
    simp only [List.map_cons, List.map_nil] at e
    open_k
    rw [e, sat_ok]
    refine ⟨by simp [okRng]; omega, by rw [rangeD_len]; exact small (by omega), ?_⟩
    refine kids ih fr3.hd hnp pot3 pool3 h0 h1 hn hs (by omega) (by omega) (by omega) (by decide) rfl rfl rfl rfl fun ts S' hlen hg hdp fr pot b => ?_
    exact made w ts S' _ _ hsh (by omega) (by omega) hg hdp fr pot b
  rw [if_neg (by simpa using c4), ssat_skip, ssat_seq, ssat_if]
  simp only [sat_tOfE, sat_e2, sat_eVar, sat_eK, List.getElem?_cons_succ, List.getElem?_cons_zero, lt_int, sat_ok, blD_bl]
  by_cases c7 : lot < 7
  · rw [if_pos (decide_eq_true c7)]
    open_k
    refine sat_mono (hp n S3 _ _ fr3.hd (.lst _) (by simp) (by simp)) fun d2 S4 ⟨hb, fr4⟩ => ?_
    have : ∃ m : Nat, d2 = .int m ∧ m ≤ 5 := by
      simp at hb
      rcases hb with rfl | rfl | rfl | rfl | rfl
      · exact ⟨m, rfl, by omega⟩
      · exact ⟨0, rfl, by decide⟩
      · exact ⟨3, rfl, by decide⟩
      · exact ⟨4, rfl, by decide⟩
      · exact ⟨5, rfl, by decide⟩
    obtain ⟨m, rfl, m5⟩ := this
    open_k
    have fr5 := fr3.trans (.of fr4)
    refine ⟨by simp [okRng]; omega, by rw [rangeD_len]; exact small (by omega), ?_⟩
    refine kids ih fr4.hd hnp (pot3.fr (Ne.symm hnp) fr4) (hpool.fr fr5) h0 h1 hn hs (by omega) (by omega) (by omega) (by decide) rfl rfl rfl rfl fun ts S' hlen hg hdp fr pot b => ?_
    exact made "row" ts S' 0 6 (by decide +kernel) (by omega) (by omega) hg hdp ((FrX.of fr4).trans fr) pot b
  rw [if_neg (by simpa using c7), ssat_skip, ssat_seq, ssat_if]
  simp only [sat_tOfE, sat_e2, sat_eVar, sat_eK, List.getElem?_cons_succ, List.getElem?_cons_zero, lt_int, sat_ok, blD_bl]
  by_cases c10 : lot < 10
  · rw [if_pos (decide_eq_true c10)]
    obtain ⟨w, hw, e⟩ := pickW ["let", "each", "let"] (lot - 7) S3 (by omega) (by simp; omega)
    have hsh : shape w = some (2, 2, true) := by
      simp at hw; rcases hw with rfl | rfl | rfl <;> decide +kernel
    simp only [List.map_cons, List.map_nil] at e
    open_k
    rw [e, sat_ok]
    rw [pot_pool pot3, sat_ok]
    refine sat_mono (hp n S3 _ _ fr3.hd pool3.src (by simp [h0]) (by simp; omega)) fun d2 S4 ⟨hb, fr4⟩ => ?_
    simp only [List.mem_map] at hb
    obtain ⟨z, hz, rfl⟩ := hb
    have fr5 := fr3.trans (.of fr4)
    have el : (((L + 1 : Nat) : Int) - 1) = (L : Int) := by omega
    rw [el]
    refine sat_mono (ih n p S4 _ pv pool scope fr4.hd hnp (pot3.fr (Ne.symm hnp) fr4) (hpool.fr fr5) h0 h1 hn hs (by omega)) fun d3 S5 q => ?_
    obtain ⟨t1, rfl, g1, dp1, fr6, pot6, b1, b2⟩ := q
    rw [show ([D.str z] : List D) = [z].map D.str from rfl, add_lst (small (by simp; omega)), sat_ok, ← List.map_append]
    refine sat_mono (ih n p S5 _ pv pool (scope ++ [z]) fr6.hd hnp pot6 (hpool.fr (fr5.trans fr6)) h0 h1 hn (by
      intro s h
      rcases List.mem_append.mp h with h | h
      · exact hs s h
      · simp only [List.mem_singleton] at h; rw [h]; exact hn z hz) (by simp; omega)) fun d4 S6 q => ?_
    obtain ⟨t2, rfl, g2, dp2, fr7, pot7, b3, b4⟩ := q
    have es : left - ((Tm.nd w z [t1, t2]).size : Int) = left - 1 - t1.size - t2.size := by simp only [Tm.size, Tm.sizes]; omega
    refine ⟨.nd w z [t1, t2], rfl, .nd hsh (by simp) (by simp) (fun _ => hn z hz) (fun h => by cases h) (by simp [g1, g2]), by simp only [Tm.dep, Tm.deps]; omega, (fr5.trans fr6).trans fr7, by rw [es]; exact pot7, fun h => by omega, fun _ => ?_⟩
    rw [es]
    by_cases h5 : 5 ≤ left - 1
    · have := b2 h5
      by_cases h6 : 5 ≤ left - 1 - (t1.size : Int)
      · have := b4 h6; omega
      · have := b3 (by omega); omega
    · have := b1 (by omega)
      have := b3 (by omega)
      omega
  rw [if_neg (by simpa using c10), ssat_skip]
  open_k
  refine sat_mono (hp n S3 _ _ fr3.hd (.lst _) (by simp) (by simp)) fun d2 S4 ⟨hb, fr4⟩ => ?_
  have fr5 := fr3.trans (.of fr4)
  have : ∃ w0 : Str, d2 = .str w0 ∧ (w0 = "less" ∨ w0 = "below") := by
    simp at hb
    rcases hb with rfl | rfl
    · exact ⟨_, rfl, .inl rfl⟩
    · exact ⟨_, rfl, .inr rfl⟩
  obtain ⟨w0, rfl, hw0⟩ := this
  obtain ⟨w, k, ek, e, hsh⟩ : ∃ (w : Str) (k : Nat), lot - 9 = k ∧ ixD (.lst [.str "say", .str w0, .str "if"]) (.int (lot - 10)) S4 = .ok (.str w) S4 ∧ shape w = some (k, k, false) ∧ k ≤ 3 := by
    have : lot = 10 ∨ lot = 11 ∨ lot = 12 := by omega
    rcases this with rfl | rfl | rfl
    · exact ⟨"say", 1, rfl, rfl, by decide +kernel, by decide⟩
    · refine ⟨w0, 2, rfl, rfl, ?_, by decide⟩
      rcases hw0 with rfl | rfl <;> decide +kernel
    · exact ⟨"if", 3, rfl, rfl, by decide +kernel, by decide⟩
  rw [e, sat_ok]
  rw [ek]
  refine ⟨by simp [okRng]; omega, by rw [rangeD_len]; exact small (by omega), ?_⟩
  refine kids ih fr4.hd hnp (pot3.fr (Ne.symm hnp) fr4) (hpool.fr fr5) h0 h1 hn hs (by omega) (by omega) (by omega) (by decide) rfl rfl rfl rfl fun ts S' hlen hg hdp fr pot b => ?_
  exact made w ts S' k k hsh.1 (by omega) (by omega) hg hdp ((FrX.of fr4).trans fr) pot b
theorem grown_all {tk pk dg : FN} {gr : Nat → FN} (ht : IsTake tk) (hp : IsPick2 pk) (hd : IsDigit dg) (hg : ∀ f, gr (f + 1) = run 4 10 (mGrown tk pk dg (gr f))) : ∀ L f, L < f → GrownOk (gr f) L
  | L, 0, h => absurd h (by omega)
  | 0, f + 1, _ => by rw [hg]; exact grown_ok ht hp hd fun h => absurd rfl h
  | L + 1, f + 1, h => by rw [hg]; exact grown_ok ht hp hd fun _ => grown_all ht hp hd hg L f (by omega)
end L3
set_option Elab.async false
set_option linter.all false
set_option maxRecDepth 100000
set_option maxHeartbeats 4000000
/-! L3X: a drawn program, handed out. -/
namespace L3
open PySem L2
local macro_rules | `(tactic| open_k) => `(tactic| simp only [ssat_seq, ssat_asg, ssat_sRet, ssat_sExpr, ssat_if, ssat_skip, ssat_par, ssat_nx, ssat_ret, ssat_for, sat_e2, sat_e1, sat_eN, sat_aCons, sat_aNil, sat_eVar, sat_eK, sat_tOfE, sat_tTruth, sat_tNot, sat_tAnd, sat_tOr, sat_eIf, sat_eBM, sat_iSeq, sat_iArgs, sat_eAnd, sat_eOr, sat_eNot, sat_eChain, sat_eSl, sat_pNo, sat_pYes, sat_eLc, sat_eKw, sat_mkTup, sat_mkLst, sat_mkObj, sat_ok, callK_eq, List.append_nil, List.map_cons, List.map_nil, List.length_cons, List.length_nil, List.replicate, List.getElem?_cons_succ, List.getElem?_cons_zero, List.cons_append, List.nil_append, List.set_cons_succ, List.set_cons_zero, gName_eq, gTup_tup, gNames_cons, gNames_nil, Nat.zero_add, Nat.reduceAdd, Nat.reduceSub, sz0, sz1, sz2, sz3, sz4, sz5, sz6, sz7, sz8, sz10, sz17, true_and, add_int, sub_int, neg_int, lt_int, le_int, gt_int, ge_int, eq_int, ne_int, blD_bl, truthD_bl, itemsD_lst, itemsD_tup, wipeD, eq_strs, ne_strs, sl_tup, sl_lst, if_true, if_false, Bool.false_eq_true, sat_range1, sat_range2, tuple_lst, tuple_tup, len_tup, len_lst, len_scr, D.int.injEq, exists_eq_left', mt_str])
def mCode (tk cl gr : FN) : SD :=
    sSeq (sAsg (eN (callK cl []) (aCons (eVar 0) (aCons (e2 addD (eK (.int 1)) (eN (callK tk []) (aCons (eVar 0) (aCons (eK (.int 5)) (aNil))))) (aNil)))) (gName 2))
    (sRet (eN (callK gr []) (aCons (eVar 0) (aCons (eDct [(eK (.str "left"), eVar 1), (eK (.str "pool"), eVar 2)]) (aCons (eN mkLst (aNil)) (aCons (e2 addD (eK (.int 3)) (eN (callK tk []) (aCons (eVar 0) (aCons (eK (.int 5)) (aNil))))) (aNil)))))))
def IsCalled (cl : FN) : Prop := ∀ (n : Nat) (S : Store) (many : Nat), Hand n S → many ≤ 1000 → (cl [.obj n, .int many] S).sat fun d S' => FrH n S S' ∧ ∃ l : List Str, l.length = many ∧ (∀ s ∈ l, NameOk s) ∧ PoolV S S' d l
theorem isCalled {tk pk : FN} (ht : IsTake tk) (hp : IsPick2 pk) : IsCalled (run 2 13 (mCalled tk pk)) := fun n S many h hm => called_ok ht hp h hm
theorem code_ok {tk cl gr : FN} (ht : IsTake tk) (hc : IsCalled cl) (hg : ∀ L, L ≤ 7 → GrownOk gr L) {n : Nat} {S : Store} (hS : Hand n S) {left : Nat} (h5 : 5 ≤ left) : (run 2 3 (mCode tk cl gr) [.obj n, .int left] S).sat fun d S' => ∃ t : Tm, d = t.d ∧ Good t ∧ t.dep ≤ 8 ∧ t.size ≤ left + 25 ∧ FrH n S S' := by
  rw [sat_run]
  refine ⟨rfl, ?_⟩
  unfold mCode
  refine seq_rule (fun e S1 => ∃ (pv : D) (l : List Str), e = [some (.obj n), some (.int left), some pv] ∧ FrH n S S1 ∧ 1 ≤ l.length ∧ l.length ≤ 5 ∧ (∀ s ∈ l, NameOk s) ∧ PoolV S S1 pv l) ?_ ?_
  · open_k
    refine sat_mono (ht n S 5 hS (by decide) (by decide)) fun d1 S1 ⟨⟨f, e1, f0, f1⟩, fr1⟩ => ?_
    subst e1
    open_k
    have e : (1 + f) = ((1 + f.toNat : Nat) : Int) := by omega
    rw [e]
    refine sat_mono (hc n S1 _ fr1.hd (by omega)) fun d2 S2 ⟨fr2, l, hl, hn, pv⟩ => ?_
    refine ⟨d2, l, rfl, fr1.trans fr2, by omega, by omega, hn, ?_⟩
    rcases pv with h | ⟨q, h1, h2, h3⟩
    · exact .inl h
    · exact .inr ⟨q, Nat.le_trans fr1.le h1, h2, h3⟩
  rintro e S1 ⟨pv, l, rfl, fr1, l1, l5, hn, hpv⟩
  open_k
  have ed : (eDct [(eK (D.str "left"), eVar 1), (eK (D.str "pool"), eVar 2)] [some (D.obj n), some (D.int left), some pv] S1) = .ok (.obj S1.length) (S1 ++ [.dK [(.inr "left", .int left), (.inr "pool", pv)]]) := by
    simp [eDct, pairsD, R.nox, R.bind, eK, eVar]
    kernel_rfl
  rw [ed, sat_ok]
  have fr2 := fr1.mk2 (.dK [(.inr "left", .int left), (.inr "pool", pv)])
  have pot2 : Pot S1.length left pv (S1 ++ [.dK [(.inr "left", .int left), (.inr "pool", pv)]]) := by simp [Pot]
  have nl : n < S1.length := fr1.hd.lt
  have pool2 : Pool n S1.length (S1 ++ [.dK [(.inr "left", .int left), (.inr "pool", pv)]]) pv l := by
    rcases hpv with h | ⟨q, h1, rfl, h3⟩
    · rw [h]; exact .lst l
    · have hq := (List.getElem?_eq_some_iff.mp h3).1
      have := hS.lt
      exact .obj (by omega) (by omega) (by rw [List.getElem?_append_left hq]; exact h3)
  refine sat_mono (ht n _ 5 fr2.hd (by decide) (by decide)) fun d2 S2 ⟨⟨f, e2, f0, f1⟩, fr3⟩ => ?_
  subst e2
  open_k
  have e : (3 + f) = ((3 + f.toNat : Nat) : Int) := by omega
  rw [e]
  have l0 : l ≠ [] := by intro h; rw [h] at l1; simp at l1
  refine sat_mono (hg (3 + f.toNat) (by omega) n S1.length S2 left pv l [] fr3.hd (by omega) (pot2.fr (by omega) fr3) (pool2.fr (.of fr3)) l0 (by omega) hn (by simp) (by simp; omega)) fun d3 S3 q => ?_
  obtain ⟨t, rfl, g1, dp, fr4, pot4, b1, b2⟩ := q
  have := b2 (by omega)
  refine ⟨t, rfl, g1, by omega, by omega, ?_⟩
  have fx : FrH n S S2 := fr2.trans fr3
  exact ⟨Nat.le_trans fx.le fr4.le, fun m o hm e => fr4.fr m o hm (by have := (List.getElem?_eq_some_iff.mp e).1; have := fr1.le; omega) (fx.fr m o hm e), fr4.hd⟩
end L3
set_option Elab.async false
set_option linter.all false
set_option maxRecDepth 100000
set_option maxHeartbeats 4000000
/-! L3Y: any thing, what a program is. -/
namespace L3
open PySem L2
local macro_rules | `(tactic| open_k) => `(tactic| simp only [ssat_seq, ssat_asg, ssat_sRet, ssat_sExpr, ssat_if, ssat_skip, ssat_par, ssat_nx, ssat_ret, ssat_for, sat_e2, sat_e1, sat_eN, sat_aCons, sat_aNil, sat_eVar, sat_eK, sat_tOfE, sat_tTruth, sat_tNot, sat_tAnd, sat_tOr, sat_eIf, sat_eBM, sat_iSeq, sat_iArgs, sat_eAnd, sat_eOr, sat_eNot, sat_eChain, sat_eSl, sat_pNo, sat_pYes, sat_eLc, sat_eKw, sat_mkTup, sat_mkLst, sat_mkObj, sat_ok, callK_eq, List.append_nil, List.map_cons, List.map_nil, List.length_cons, List.length_nil, List.replicate, List.getElem?_cons_succ, List.getElem?_cons_zero, List.cons_append, List.nil_append, List.set_cons_succ, List.set_cons_zero, gName_eq, gTup_tup, gNames_cons, gNames_nil, Nat.zero_add, Nat.reduceAdd, Nat.reduceSub, sz0, sz1, sz2, sz3, sz4, sz5, sz6, sz7, sz8, sz10, sz17, true_and, add_int, sub_int, neg_int, lt_int, le_int, gt_int, ge_int, eq_int, ne_int, blD_bl, truthD_bl, itemsD_lst, itemsD_tup, wipeD, eq_strs, ne_strs, sl_tup, sl_lst, if_true, if_false, Bool.false_eq_true, sat_range1, sat_range2, tuple_lst, tuple_tup, len_tup, len_lst, len_scr, D.int.injEq, exists_eq_left', mt_str])
/-- signs that stand for themselves -/
def asc (s : Str) : Bool := decide (s.length ≤ 9) && s.cps.toList.all fun c => decide (c < 128)
/-- things as the laws hand them out -/
inductive U (B : Nat) : D → Prop where
  | non : U B .non
  | bl (b : Bool) : U B (.bl b)
  | int {i : Int} : -10000 ≤ i → i ≤ 10000 → U B (.int i)
  | str {s : Str} : asc s = true → U B (.str s)
  | tup {l : List D} : l.length ≤ B → (∀ x ∈ l, U B x) → U B (.tup l)
  | lst {l : List D} : l.length ≤ B → (∀ x ∈ l, U B x) → U B (.lst l)
  | dic : U B (.dic [] [])
def isNm : D → Bool
  | .str s => decide (1 ≤ s.length) && decide (s.length ≤ 8) && !decide (s ∈ WORDS) && s.cps.toList.all isLet
  | _ => false
def isNum : D → Bool
  | .int i => decide (0 ≤ i) && decide (i ≤ 9972)
  | _ => false
def isEmp : D → Bool
  | .str s => decide (s = "")
  | _ => false
def fits (w : Str) (m : D) (n : Nat) : Bool := match shape w with
  | some (f, mo, g) => decide (f ≤ n) && decide (n ≤ mo) && (if g = true then isNm m else isEmp m)
  | none => false
/-- a program, so many things deep at most -/
def ok : Nat → D → Bool
  | 0, _ => false
  | k + 1, .tup [.str w, m, .tup ps] =>
    if w = "num" then isNum m && ps.isEmpty
    else if w = "name" then isNm m && ps.isEmpty
    else fits w m ps.length && ps.all (ok k)
  | _ + 1, _ => false
/-- its things -/
def szz : Nat → D → Int
  | 0, _ => 0
  | k + 1, .tup [.str _, _, .tup ps] => 1 + (ps.map (szz k)).sum
  | _ + 1, _ => 0
theorem asc_ok {s : Str} (h : asc s = true) : PyData.strOk s = true := by
  simp only [asc, Bool.and_eq_true, decide_eq_true_eq] at h
  unfold PyData.strOk
  rw [← Array.all_toList, List.all_eq_true]
  intro c hc
  have := List.all_eq_true.mp h.2 c hc
  simp only [decide_eq_true_eq] at this ⊢; omega
theorem asc_len {s : Str} (h : asc s = true) : s.length ≤ 9 := by
  simp only [asc, Bool.and_eq_true, decide_eq_true_eq] at h; exact h.1
theorem name_asc {s : Str} (h : NameOk s) : asc s = true := by
  simp only [asc, Bool.and_eq_true, decide_eq_true_eq]
  refine ⟨by have := h.hi; omega, ?_⟩
  rw [List.all_eq_true]
  intro c hc
  have := List.all_eq_true.mp h.lt c hc
  simp only [isLet, Bool.and_eq_true, decide_eq_true_eq] at this ⊢; omega
theorem words_asc {s : Str} (h : s ∈ WORDS) : asc s = true := by
  have a : WORDS.all asc = true := by decide +kernel
  exact List.all_eq_true.mp a s h
theorem shape_word {w : Str} {f mo : Nat} {g : Bool} (h : shape w = some (f, mo, g)) : w ∈ WORDS ∧ w ≠ "num" ∧ w ≠ "name" := by
  unfold shape at h
  split at h
  · rename_i q; rcases q with rfl | rfl | rfl <;> decide +kernel
  split at h
  · rename_i q; subst q; decide +kernel
  split at h
  · rename_i q; subst q; decide +kernel
  split at h
  · rename_i q; rcases q with rfl | rfl <;> decide +kernel
  split at h
  · rename_i q; subst q; decide +kernel
  split at h
  · rename_i q; rcases q with rfl | rfl <;> decide +kernel
  cases h
theorem shape_most {w : Str} {f mo : Nat} {g : Bool} (h : shape w = some (f, mo, g)) : mo ≤ 6 := by
  unfold shape at h
  repeat' split at h
  all_goals first | (cases h; done) | (cases h; decide)
theorem Good.u : ∀ t : Tm, Good t → U 6 t.d
  | _, .num h0 h1 => by
    simp only [Tm.d]
    refine .tup (by simp) fun x hx => ?_
    simp only [List.mem_cons, List.not_mem_nil, or_false] at hx
    rcases hx with rfl | rfl | rfl
    · exact .str (by decide +kernel)
    · exact .int (by omega) (by omega)
    · exact .tup (by simp) (by simp)
  | _, .nam h => by
    simp only [Tm.d]
    refine .tup (by simp) fun x hx => ?_
    simp only [List.mem_cons, List.not_mem_nil, or_false] at hx
    rcases hx with rfl | rfl | rfl
    · exact .str (by decide +kernel)
    · exact .str (name_asc h)
    · exact .tup (by simp) (by simp)
  | _, .nd (w := w) (m := m) (ps := ps) hw hf hm hg hn hp => by
    simp only [Tm.d]
    refine .tup (by simp) fun x hx => ?_
    simp only [List.mem_cons, List.not_mem_nil, or_false] at hx
    rcases hx with rfl | rfl | rfl
    · exact .str (words_asc (shape_word hw).1)
    · rename_i g
      cases g with
      | true => exact .str (name_asc (hg rfl))
      | false => rw [hn rfl]; exact .str (by decide +kernel)
    · refine .tup (by rw [Tm.ds_len]; exact Nat.le_trans hm (shape_most hw)) fun x hx => ?_
      rw [Tm.ds_map, List.mem_map] at hx
      obtain ⟨t, ht, rfl⟩ := hx
      exact Good.u t (hp t ht)
theorem nm_name {s : Str} (h : NameOk s) : isNm (.str s) = true := by
  simp [isNm, h.lo, h.hi, h.lt, h.nw]
theorem Good.ok : ∀ (k : Nat) (t : Tm), Good t → t.dep ≤ k → ok k t.d = true
  | 0, t, _, h => absurd t.dep_pos (by omega)
  | k + 1, _, .num h0 h1, _ => by simp [Tm.d, L3.ok, isNum, h0, h1]
  | k + 1, _, .nam h, _ => by
    simp only [Tm.d, L3.ok]
    rw [if_neg (by decide +kernel), if_pos trivial, nm_name h]
    rfl
  | k + 1, _, .nd (w := w) (m := m) (ps := ps) (f := f) (mo := mo) (g := g) hw hf hm hg hn hp, hd => by
    simp only [Tm.dep] at hd
    have hd : Tm.deps ps ≤ k := by omega
    rw [Tm.deps_le] at hd
    have hm' : (if g = true then isNm (.str m) else isEmp (.str m)) = true := by
      cases g with
      | true => exact nm_name (hg rfl)
      | false => rw [hn rfl]; rfl
    simp only [Tm.d, L3.ok, if_neg (shape_word hw).2.1, if_neg (shape_word hw).2.2, fits, hw, Tm.ds_len, hm', hf, hm, decide_true, Bool.and_true, Bool.true_and, List.all_eq_true]
    intro x hx
    rw [Tm.ds_map, List.mem_map] at hx
    obtain ⟨t, ht, rfl⟩ := hx
    exact Good.ok k t (hp t ht) (hd t ht)
theorem szz_tm : ∀ (k : Nat) (t : Tm), t.dep ≤ k → szz k t.d = t.size
  | 0, t, h => absurd t.dep_pos (by omega)
  | k + 1, .num _, _ => by simp [Tm.d, szz, Tm.size]
  | k + 1, .nam _, _ => by simp [Tm.d, szz, Tm.size]
  | k + 1, .nd w m ps, h => by
    simp only [Tm.dep] at h
    have hd : Tm.deps ps ≤ k := by omega
    rw [Tm.deps_le] at hd
    have : ∀ ts : List Tm, (∀ t ∈ ts, t.dep ≤ k) → ((ts.map Tm.d).map (szz k)).sum = (Tm.sizes ts : Int) := by
      intro ts
      induction ts with
      | nil => intro _; rfl
      | cons t ts ih =>
        intro h
        simp only [List.map_cons, List.sum_cons, Tm.sizes]
        rw [szz_tm k t (h t (List.mem_cons_self ..)), ih fun t ht => h t (List.mem_cons_of_mem _ ht)]
        omega
    simp only [Tm.d, szz, Tm.ds_map, Tm.size]
    rw [this ps hd]; omega
theorem U.mono {B B' : Nat} (hB : B ≤ B') : ∀ {x : D}, U B x → U B' x
  | _, .non => .non
  | _, .bl b => .bl b
  | _, .int h0 h1 => .int h0 h1
  | _, .str h => .str h
  | _, .tup h hl => .tup (Nat.le_trans h hB) fun x hx => U.mono hB (hl x hx)
  | _, .lst h hl => .lst (Nat.le_trans h hB) fun x hx => U.mono hB (hl x hx)
  | _, .dic => .dic
/-! signs -/
theorem let_list : LET.cps.toList = List.range' 97 26 := by decide +kernel
theorem mem_let (c : Nat) : decide (c ∈ LET.cps.toList) = isLet c := by
  rw [let_list]
  simp only [List.mem_range'_1, isLet]
  rw [Bool.eq_iff_iff]
  simp only [decide_eq_true_eq, Bool.and_eq_true]
  omega
theorem in_let {c : Nat} {S : Store} : inD (sgn c) (.str LET) S = .ok (.bl (isLet c)) S := by
  rw [← mem_let]
  rfl
theorem ge_a {c : Nat} {S : Store} : leD (.str "a") (sgn c) S = .ok (.bl (decide (97 ≤ c))) S := by
  have e : ("a" : Str).cps.toList = [97] := by decide +kernel
  show leD (.str "a") (.str ⟨#[c]⟩) S = _
  simp only [leD, e]
  congr 3
  rw [Bool.eq_iff_iff]
  simp only [Bool.not_eq_true', decide_eq_false_iff_not, decide_eq_true_eq, List.cons_lt_cons_iff, List.not_lt_nil, and_false, or_false, Nat.not_lt]
theorem le_z {c : Nat} {S : Store} : leD (sgn c) (.str "z") S = .ok (.bl (decide (c ≤ 122))) S := by
  have e : ("z" : Str).cps.toList = [122] := by decide +kernel
  show leD (.str ⟨#[c]⟩) (.str "z") S = _
  simp only [leD, e]
  congr 3
  rw [Bool.eq_iff_iff]
  simp only [Bool.not_eq_true', decide_eq_false_iff_not, decide_eq_true_eq, List.cons_lt_cons_iff, List.not_lt_nil, and_false, or_false, Nat.not_lt]
theorem items_str {s : Str} {S : Store} (h : s.length ≤ 1000) : itemsD (.str s) S = .ok (s.cps.toList.map sgn) S := by
  unfold itemsD; simp only
end L3
set_option Elab.async false
set_option linter.all false
set_option maxRecDepth 100000
set_option maxHeartbeats 4000000
/-! L3Z: what any thing is shown as. -/
namespace L3
open PySem L2
mutual
def wt : D → Nat
  | .tup l => 100 + wts l
  | .lst l => 100 + wts l
  | .non => 100 | .bl _ => 100 | .int _ => 100 | .str _ => 100 | .dic _ _ => 100 | .obj _ => 100 | .glb _ => 100 | .ty _ => 100 | .scr _ => 100 | .kd _ _ => 100
def wts : List D → Nat
  | [] => 0
  | x :: xs => wt x + wts xs
end
mutual
def dp : D → Nat
  | .tup l => 1 + dps l
  | .lst l => 1 + dps l
  | .dic _ _ => 1
  | .non => 0 | .bl _ => 0 | .int _ => 0 | .str _ => 0 | .obj _ => 0 | .glb _ => 0 | .ty _ => 0 | .scr _ => 0 | .kd _ _ => 0
def dps : List D → Nat
  | [] => 0
  | x :: xs => max (dp x) (dps xs)
end
theorem int_signs (i : Int) : ∀ c ∈ (toString i).toList, 45 ≤ c.toNat := by
  have nat : ∀ (n : Nat), ∀ c ∈ (Nat.repr n).toList, 45 ≤ c.toNat := by
    intro n c hc
    rw [Nat.toList_repr] at hc
    have h := Nat.isDigit_of_mem_toDigits (by decide) (by decide) hc
    simp only [Char.isDigit, Bool.and_eq_true, decide_eq_true_eq] at h
    have e : c.val.toNat = c.toNat := rfl
    have h2 : 48 ≤ c.val.toNat := by simpa using UInt32.le_iff_toNat_le.mp h.1
    omega
  intro c hc
  rw [Int.toString_eq_repr, Int.repr_eq_if] at hc
  split at hc
  · exact nat _ c hc
  · rw [String.toList_append, List.mem_append] at hc
    rcases hc with hc | hc
    · have : c = '-' := by simpa using hc
      subst this; decide
    · exact nat _ c hc
theorem tl_of (s : String) : (Str.ofString s).cps.toList = s.toList.map Char.toNat := by rw [Str.ofString_eq_toList]
theorem int_not (i : Int) : (((toString i : String) : Str) == "''") = false := by
  rw [beq_eq_false_iff_ne]
  intro h
  have e : (Str.ofString (toString i)).cps.toList = [39, 39] := by rw [h]; decide +kernel
  rw [tl_of] at e
  have : 39 ∈ (toString i).toList.map Char.toNat := by rw [e]; simp
  rw [List.mem_map] at this
  obtain ⟨c, hc, h39⟩ := this
  have := int_signs i c hc
  omega
theorem first_not {a b : Str} {s : Str} (ha : a.cps.toList.head? ≠ some 39) (h0 : a.cps.toList ≠ []) (h : s = a ++ b) : (s == "''") = false := by
  rw [beq_eq_false_iff_ne]
  rintro rfl
  have e : ("''" : Str).cps.toList = [39, 39] := by decide +kernel
  rw [h] at e
  have e : a.cps.toList ++ b.cps.toList = [39, 39] := by rw [← e]; show _ = (a.cps ++ b.cps).toList; simp
  cases q : a.cps.toList with
  | nil => exact h0 q
  | cons c cs =>
    rw [q] at e ha
    simp only [List.cons_append, List.cons.injEq] at e
    exact ha (by simp [e.1])
theorem reprChar_pos (q c : Nat) : 1 ≤ (Builtin.Str.reprChar q c).length := by
  unfold Builtin.Str.reprChar
  simp only []
  repeat' split
  all_goals simp
theorem fold_ge (q : Nat) : ∀ (l : List Nat) (acc : Array Nat), acc.size + l.length ≤ (l.foldl (fun out c => out ++ (Builtin.Str.reprChar q c).toArray) acc).size
  | [], acc => Nat.le_refl _
  | c :: r, acc => by
    have ih := fold_ge q r (acc ++ (Builtin.Str.reprChar q c).toArray)
    have := reprChar_pos q c
    simp only [List.foldl_cons, List.length_cons]
    simp only [Array.size_append, List.size_toArray] at ih
    omega
theorem reprText_ge (x : Str) : x.length + 2 ≤ (reprText x).length := by
  unfold reprText
  show _ ≤ ((x.cps.foldl (fun out c => out ++ (Builtin.Str.reprChar (reprQuote x) c).toArray) #[reprQuote x]).push (reprQuote x)).size
  rw [Array.size_push, ← Array.foldl_toList]
  have := fold_ge (reprQuote x) x.cps.toList #[reprQuote x]
  have e1 : (#[reprQuote x] : Array Nat).size = 1 := rfl
  have e2 : x.cps.toList.length = x.length := by simp [Str.length]
  omega
theorem str_emp (x : Str) : (reprText x == "''") = decide (x = "") := by
  rw [Bool.eq_iff_iff, beq_iff_eq, decide_eq_true_eq]
  constructor
  · intro h
    have := reprText_ge x
    rw [h] at this
    have e : ("''" : Str).length = 2 := by decide +kernel
    have l0 : x.length = 0 := by omega
    apply TL.ext_tl
    show x.cps.toList = ("" : Str).cps.toList
    have : x.cps.toList = [] := by
      have : x.cps.toList.length = 0 := by simpa [Str.length] using l0
      exact List.length_eq_zero_iff.mp this
    rw [this]; decide +kernel
  · rintro rfl; decide +kernel
theorem join_le (ts : List Str) : (Str.join ", " ts).length ≤ piled ts := by
  by_cases h : ts = []
  · subst h; decide +kernel
  · have := join_length_add ts h; omega
mutual
theorem shown_ok {B : Nat} : ∀ {x : D}, U B x → ∃ a, toPyR x = some a ∧ a.showable = true ∧ a.shown.length + 2 ≤ wt x ∧ a.depth ≤ dp x ∧ (a.shown == "''") = isEmp x
  | .non, _ => ⟨.none, rfl, by simp [PyData.showable], by rw [PyData.shown_none]; simp only [wt]; decide +kernel, by simp [PyData.depth, dp], by rw [PyData.shown_none]; simp only [isEmp]; decide +kernel⟩
  | .bl b, _ => ⟨.bool b, rfl, by simp [PyData.showable], by rw [PyData.shown_bool]; simp only [wt]; cases b <;> decide +kernel, by simp [PyData.depth, dp], by rw [PyData.shown_bool]; simp only [isEmp]; cases b <;> decide +kernel⟩
  | .int i, h => by
    cases h with
    | int h0 h1 =>
      have hn : i.natAbs < 10 ^ 5 := by omega
      refine ⟨.int i, rfl, ?_, ?_, by simp [PyData.depth, dp], ?_⟩
      · simp only [PyData.showable, decide_eq_true_eq]
        by_cases z : i.natAbs = 0
        · rw [z]; decide
        · exact Nat.lt_trans ((Nat.log2_lt z).mpr (Nat.lt_trans hn (by decide : (10 : Nat) ^ 5 < 2 ^ 20))) (by decide)
      · rw [PyData.shown_int]
        have := int_text_length_le10 (k := 5) (by decide) hn
        have e : (Str.ofString (toString i)).length = (toString i).length := by
          rw [Str.ofString_eq_toList]
          simp only [Str.length, List.size_toArray, List.length_map]
          first | exact String.length_toList | rfl | simp [String.length]
        simp only [wt]
        omega
      · rw [PyData.shown_int, int_not]; rfl
  | .str s, h => by
    cases h with
    | str hs =>
      refine ⟨.str s, rfl, by simp [PyData.showable], ?_, by simp [PyData.depth, dp], ?_⟩
      · rw [PyData.shown_str]
        have l9 := asc_len hs
        have := StrLaws.reprText_len s (by
          intro c hc
          simp only [asc, Bool.and_eq_true, decide_eq_true_eq] at hs
          have := List.all_eq_true.mp hs.2 c hc
          simp only [decide_eq_true_eq] at this
          exact Nat.lt_trans this (by decide))
        simp only [wt]
        omega
      · rw [PyData.shown_str, str_emp]; rfl
  | .tup l, h => by
    have h : ∀ x ∈ l, U B x := by cases h with | tup _ h => exact h
    obtain ⟨as, e1, e2, e3, e4⟩ := showns_ok h
    refine ⟨.tuple as, by simp only [toPyR, e1]; rfl, by simpa [PyData.showable] using e2, ?_, by simp only [PyData.depth, dp]; omega, ?_⟩
    · rw [PyData.shown_tuple, strLen_append, strLen_append]
      have := join_le (PyData.shownAll as)
      have a1 : (("(" : String) : Str).length = 1 := rfl
      have a2 : (((if as.length == 1 then ",)" else ")" : String) : Str)).length ≤ 2 := by split <;> decide
      simp only [wt]; omega
    · rw [PyData.shown_tuple, Str.append_assoc]
      rw [first_not (a := "(") (by decide +kernel) (by decide +kernel) rfl]; rfl
  | .lst l, h => by
    have h : ∀ x ∈ l, U B x := by cases h with | lst _ h => exact h
    obtain ⟨as, e1, e2, e3, e4⟩ := showns_ok h
    refine ⟨.list as, by simp only [toPyR, e1]; rfl, by simpa [PyData.showable] using e2, ?_, by simp only [PyData.depth, dp]; omega, ?_⟩
    · rw [PyData.shown_list, strLen_append, strLen_append]
      have := join_le (PyData.shownAll as)
      have a1 : (("[" : String) : Str).length = 1 := rfl
      have a2 : (("]" : String) : Str).length = 1 := rfl
      simp only [wt]; omega
    · rw [PyData.shown_list, Str.append_assoc]
      rw [first_not (a := "[") (by decide +kernel) (by decide +kernel) rfl]; rfl
  | .dic ks l, h => by
    cases h with
    | dic =>
      refine ⟨.dict [], rfl, by simp [PyData.showable, PyData.showableKv], ?_, by simp [PyData.depth, PyData.depthKv, dp], ?_⟩
      · rw [PyData.shown_dict, PyData.shownKv_nil]; simp only [wt]; decide +kernel
      · rw [PyData.shown_dict, PyData.shownKv_nil]; simp only [isEmp]; decide +kernel
  | .obj _, h => nomatch h
  | .glb _, h => nomatch h
  | .ty _, h => nomatch h
  | .scr _, h => nomatch h
  | .kd _ _, h => nomatch h
theorem showns_ok {B : Nat} : ∀ {l : List D}, (∀ x ∈ l, U B x) → ∃ as, toPyRL l = some as ∧ PyData.showableAll as = true ∧ piled (PyData.shownAll as) ≤ wts l ∧ PyData.depthAll as ≤ dps l
  | [], _ => ⟨[], rfl, by simp [PyData.showableAll], by simp [PyData.shownAll, piled, wts], by simp [PyData.depthAll, dps]⟩
  | x :: l, h => by
    obtain ⟨a, e1, e2, e3, e4, _⟩ := shown_ok (h x (List.mem_cons_self ..))
    obtain ⟨as, f1, f2, f3, f4⟩ := showns_ok fun y hy => h y (List.mem_cons_of_mem _ hy)
    refine ⟨a :: as, by simp only [toPyRL, e1, f1], by simp [PyData.showableAll, e2, f2], ?_, by simp only [PyData.depthAll, dps]; omega⟩
    simp only [PyData.shownAll, piled_cons, wts]; omega
end
theorem repr_ok {B : Nat} {x : D} (h : U B x) (hw : wt x ≤ 1000000) (hd : dp x ≤ 100) : ∃ z : Str, (∀ S, reprD [x] S = .ok (.str z) S) ∧ (z == "''") = isEmp x := by
  obtain ⟨a, e1, e2, e3, e4, e5⟩ := shown_ok h
  refine ⟨a.shown, fun S => ?_, e5⟩
  have hde : deref x S = x := by cases h <;> rfl
  have hok : showOk a = true := by
    simp only [showOk, e2, Bool.true_and, Bool.and_eq_true, decide_eq_true_eq]
    exact ⟨Nat.le_trans (by omega) (by decide : 1000000 ≤ sizeLine), by omega⟩
  unfold reprD
  simp only [hde, e1]
  rw [if_pos hok]
theorem wt_mem : ∀ {l : List D} {x : D}, x ∈ l → wt x ≤ wts l
  | y :: l, x, h => by
    simp only [wts]
    rcases List.mem_cons.mp h with rfl | h
    · omega
    · have := wt_mem h; omega
theorem dp_mem : ∀ {l : List D} {x : D}, x ∈ l → dp x ≤ dps l
  | y :: l, x, h => by
    simp only [dps]
    rcases List.mem_cons.mp h with rfl | h
    · omega
    · have := dp_mem h; omega
theorem wts_app : ∀ a b : List D, wts (a ++ b) = wts a + wts b
  | [], b => by simp [wts]
  | x :: a, b => by simp only [List.cons_append, wts, wts_app a b]; omega
theorem dps_app : ∀ a b : List D, dps (a ++ b) = max (dps a) (dps b)
  | [], b => by simp [dps]
  | x :: a, b => by simp only [List.cons_append, dps, dps_app a b]; omega
theorem wt_pos (x : D) : 100 ≤ wt x := by cases x <;> simp [wt]
theorem len_wts : ∀ l : List D, 100 * l.length ≤ wts l
  | [] => by simp
  | x :: l => by
    have := wt_pos x
    have := len_wts l
    simp only [wts, List.length_cons]; omega
/-! steps one by one, what follows left alone -/
section
variable {env : EnvD} {S S1 : Store} {N B C : EnvD → Store → Prop} {T : D → Store → Prop} {c : TD} {a : ED} {r s t : SD}
theorem step_ret (hc : c env S = .ok true S1) (h : (a env S1).sat T) : (sSeq (sIf c (sRet a) t) r env S).sat N T B C := by
  rw [ssat_seq, ssat_if, hc, sat_ok, if_pos rfl, ssat_sRet]; exact h
theorem step_no (hc : c env S = .ok false S1) (h : (r env S1).sat N T B C) : (sSeq (sIf c s sSkip) r env S).sat N T B C := by
  rw [ssat_seq, ssat_if, hc, sat_ok, if_neg Bool.false_ne_true, ssat_skip]; exact h
theorem step_yes (hc : c env S = .ok true S1) (h : (sSeq s r env S1).sat N T B C) : (sSeq (sIf c s t) r env S).sat N T B C := by
  rw [ssat_seq, ssat_if, hc, sat_ok, if_pos rfl, ← ssat_seq]; exact h
theorem step_asg {d : D} {g : GD} {env' : EnvD} {S2 : Store} (ha : a env S = .ok d S1) (hg : g d env S1 = .nx env' S2) (h : (r env' S2).sat N T B C) : (sSeq (sAsg a g) r env S).sat N T B C := by
  rw [ssat_seq, ssat_asg, ha, sat_ok, hg, ssat_nx]; exact h
theorem step_expr {d : D} (ha : a env S = .ok d S1) (h : (r env S1).sat N T B C) : (sSeq (sExpr a) r env S).sat N T B C := by
  rw [ssat_seq, ssat_sExpr, ha, sat_ok]; exact h
end
end L3
set_option Elab.async false
set_option linter.all false
set_option maxRecDepth 100000
set_option maxHeartbeats 4000000
/-! L5R: programs run: what a tree is worth and what it says (plain), and the store on the way. -/
namespace L3
open PySem L2
abbrev WEnv := Str → Option Int
abbrev Ev := Tm → WEnv → Option (Int × List Int)
def evs (f : Ev) : List Tm → WEnv → Option (List Int × List Int)
  | [], _ => some ([], [])
  | t :: ts, e => match f t e with
    | some (v, o) => match evs f ts e with
      | some (vs, o') => some (v :: vs, o ++ o')
      | none => none
    | none => none
def upE (e : WEnv) (x : Str) (v : Int) : WEnv := fun y => if x = y then some v else e y
def rnds (f : Ev) (t : Tm) (e : WEnv) (x : Str) : List Int → Int → Option (Int × List Int)
  | [], last => some (last, [])
  | i :: is, _ => match f t (upE e x i) with
    | some (v, o) => match rnds f t e x is v with
      | some (v', o') => some (v', o ++ o')
      | none => none
    | none => none
def turns (n : Int) : List Int := (List.range n.toNat).map fun i : Nat => (i : Int)
def ev : Nat → Ev
  | 0, _, _ => none
  | k + 1, .num i, _ => if 0 ≤ i ∧ i < 9973 then some (i, []) else none
  | k + 1, .nam x, e => (e x).map fun v => (v, [])
  | k + 1, .nd w m ps, e =>
    if 100 < ps.length then none
    else if w = "plus" then (evs (ev k) ps e).map fun r => (r.1.sum % 9973, r.2)
    else if w = "times" then (evs (ev k) ps e).map fun r => (r.1.foldl (fun a b => a * b % 9973) 1, r.2)
    else if w = "most" then match evs (ev k) ps e with
      | some (vs, o) => (maxI vs).map fun v => (v, o)
      | none => none
    else if w = "less" then match evs (ev k) ps e with
      | some ([a, b], o) => some ((a - b) % 9973, o)
      | _ => none
    else if w = "below" then match evs (ev k) ps e with
      | some ([a, b], o) => some (if a < b then 1 else 0, o)
      | _ => none
    else if w = "row" then (evs (ev k) ps e).map fun r => (r.1.getLastD 0, r.2)
    else match ps with
      | [a] => if w = "say" then (ev k a e).map fun r => (r.1, r.2 ++ [r.1]) else none
      | [a, b] => match ev k a e with
        | some (v, o) =>
          if w = "let" then (ev k b (upE e m v)).map fun r => (r.1, o ++ r.2)
          else if w = "each" then (rnds (ev k) b e m (turns (v % 4)) 0).map fun r => (r.1, o ++ r.2)
          else none
        | none => none
      | [a, b, c] => if w = "if" then match ev k a e with
          | some (v, o) => (ev k (if v ≠ 0 then b else c) e).map fun r => (r.1, o ++ r.2)
          | none => none
        else none
      | _ => none
/-- only what is said at m has changed, by o; new objects may have come -/
structure FrT (m : Nat) (S S' : Store) (o : List Int) : Prop where
  le : S.length ≤ S'.length
  fr : ∀ i ob, i ≠ m → S[i]? = some ob → S'[i]? = some ob
  sd : ∀ l, S[m]? = some (.lst l) → S'[m]? = some (.lst (l ++ o.map .int))
theorem FrT.refl (m : Nat) (S : Store) : FrT m S S [] := ⟨Nat.le_refl _, fun _ _ _ h => h, fun l h => by simpa using h⟩
theorem FrT.trans {m : Nat} {S S' S'' : Store} {o o' : List Int} (a : FrT m S S' o) (b : FrT m S' S'' o') : FrT m S S'' (o ++ o') :=
  ⟨Nat.le_trans a.le b.le, fun i ob hi h => b.fr i ob hi (a.fr i ob hi h), fun l h => by
    have := b.sd _ (a.sd l h)
    simpa using this⟩
theorem FrT.app {m : Nat} {S : Store} (ob : O) (hm : m < S.length) : FrT m S (S ++ [ob]) [] :=
  ⟨by simp, fun i o _ h => by rw [List.getElem?_append_left (List.getElem?_eq_some_iff.mp h).1]; exact h, fun l h => by
    rw [List.getElem?_append_left hm]; simpa using h⟩
/-- a new object written -/
theorem FrT.put {m p : Nat} {S S' : Store} {o : List Int} (a : FrT m S S' o) (hp : S.length ≤ p) (hm : m < S.length) (ob : O) : FrT m S (S'.set p ob) o :=
  ⟨by simp [a.le], fun i o' hi h => by
    have := (List.getElem?_eq_some_iff.mp h).1
    rw [List.getElem?_set_ne (by omega)]; exact a.fr i o' hi h, fun l h => by
    rw [List.getElem?_set_ne (by omega)]; exact a.sd l h⟩
/-- who goes: the instance at g, what it has told at m -/
structure Go (g m : Nat) (S : Store) (l : List D) : Prop where
  go : S[g]? = some (.ins "Going" [("told_aloud", .obj m)])
  sd : S[m]? = some (.lst l)
theorem Go.ne {g m : Nat} {S : Store} {l : List D} (h : Go g m S l) : g ≠ m := fun e => by
  have h1 := h.go
  rw [e, h.sd] at h1; cases h1
theorem Go.lt {g m : Nat} {S : Store} {l : List D} (h : Go g m S l) : m < S.length := (List.getElem?_eq_some_iff.mp h.sd).1
theorem Go.mv {g m : Nat} {S S' : Store} {l : List D} {o : List Int} (h : Go g m S l) (f : FrT m S S' o) : Go g m S' (l ++ o.map .int) := ⟨f.fr g _ h.ne h.go, f.sd l h.sd⟩
/-- what is held -/
structure Held (h : D) (S : Store) (e : WEnv) (n : Nat) : Prop where
  at' : ∃ kvs, dkAt h S = some kvs ∧ kvs.length ≤ n ∧ ∀ x, dGet kvs (.inr x) = (e x).map D.int
  ok : ∀ x v, e x = some v → 0 ≤ v ∧ v < 9973
theorem Held.mv {h : D} {S S' : Store} {e : WEnv} {n m : Nat} {o : List Int} {l : List D} (a : Held h S e n) (hm : S[m]? = some (.lst l)) (f : FrT m S S' o) : Held h S' e n := by
  obtain ⟨⟨kvs, h1, h2, h3⟩, ok⟩ := a
  refine ⟨⟨kvs, ?_, h2, h3⟩, ok⟩
  unfold dkAt at h1 ⊢
  cases h with
  | dic ks l => exact h1
  | obj i =>
    simp only at h1 ⊢
    split at h1
    · rename_i kv hn
      have : i ≠ m := fun e => by rw [e, hm] at hn; cases hn
      rw [f.fr i _ this hn]; exact h1
    · cases h1
  | _ => cases h1
theorem keys_inj {x y : Str} : ((.inr x : Key) = .inr y) ↔ x = y := by simp
/-- held with one more -/
theorem Held.up {h : D} {S : Store} {e : WEnv} {n : Nat} {x : Str} {v : Int} {kvs : List (Key × D)} (h1 : dkAt h S = some kvs) (h2 : kvs.length ≤ n) (h3 : ∀ x, dGet kvs (.inr x) = (e x).map D.int) (ok : ∀ x v, e x = some v → 0 ≤ v ∧ v < 9973)
    (hv : 0 ≤ v ∧ v < 9973) {p : Nat} {S' : Store} (hp : S'[p]? = some (.dK (putD kvs (.inr x) (.int v)))) : Held (.obj p) S' (upE e x v) (n + 1) := by
  refine ⟨⟨putD kvs (.inr x) (.int v), by simp only [dkAt, hp], Nat.le_trans (put_len ..) (by omega), fun y => ?_⟩, fun y u hy => ?_⟩
  · rw [get_put]
    unfold upE
    by_cases e : x = y
    · subst e; simp
    · have : ¬ ((.inr x : Key) = .inr y) := fun z => e (keys_inj.mp z)
      rw [if_neg this, if_neg e, h3]
  · unfold upE at hy
    by_cases e : x = y
    · rw [if_pos e] at hy; cases hy; exact hv
    · rw [if_neg e] at hy; exact ok y u hy
end L3
set_option Elab.async false
set_option linter.all false
set_option maxRecDepth 100000
set_option maxHeartbeats 4000000
/-! K21M: the program's functions. -/
namespace K21
open PySem L2 L3
local macro_rules | `(tactic| open_k) => `(tactic| simp only [ssat_seq, ssat_asg, ssat_sRet, ssat_sExpr, ssat_if, ssat_skip, ssat_par, ssat_nx, ssat_ret, ssat_for, sat_e2, sat_e1, sat_eN, sat_aCons, sat_aNil, sat_eVar, sat_eK, sat_tOfE, sat_tTruth, sat_tNot, sat_tAnd, sat_tOr, sat_eIf, sat_eBM, sat_iSeq, sat_iArgs, sat_eAnd, sat_eOr, sat_eNot, sat_eChain, sat_eSl, sat_pNo, sat_pYes, sat_eLc, sat_eKw, sat_mkTup, sat_mkLst, sat_mkObj, sat_ok, callK_eq, List.append_nil, List.map_cons, List.map_nil, List.length_cons, List.length_nil, List.replicate, List.getElem?_cons_succ, List.getElem?_cons_zero, List.cons_append, List.nil_append, List.set_cons_succ, List.set_cons_zero, gName_eq, gTup_tup, gNames_cons, gNames_nil, Nat.zero_add, Nat.reduceAdd, Nat.reduceSub, sz0, sz1, sz2, sz3, sz4, sz5, sz6, sz7, sz8, sz10, sz17, true_and, add_int, sub_int, neg_int, lt_int, le_int, gt_int, ge_int, eq_int, ne_int, blD_bl, truthD_bl, itemsD_lst, itemsD_tup, wipeD, eq_strs, ne_strs, L3.sl_tup, L3.sl_lst, if_true, if_false, Bool.false_eq_true, sat_range1, sat_range2, tuple_lst, tuple_tup, len_tup, len_lst, len_scr, D.int.injEq, exists_eq_left', mt_str, sat_eMeth, sat_mkIns, ssat_fldD, gSeq_lst, ssat_gSub, sat_eDc])
variable {S : Store} {g m n : Nat} {Q : D → Store → Prop}
theorem rest (k : Nat) (i : Int) : Fs (k + 1) 0 [.int i] S = .ok (.int (i % 9973)) S := by
  apply of_sat
  rw [Fs_rest_of, sat_run]
  refine ⟨rfl, ?_⟩
  unfold m_rest_of
  simp [c_WHEEL, mod_int]
/-- one that goes, k calls deep -/
def Spec (f : Ev) (k bd : Nat) : Prop := ∀ (t : Tm) (e : WEnv) (v : Int) (o : List Int), f t e = some (v, o) → ∀ (g m : Nat) (h : D) (S : Store) (l : List D) (n : Nat), Held h S e n → n ≤ bd → Go g m S l → l.length + o.length ≤ 5000 →
  (Fs k 15 [.obj g, t.d, h] S).sat fun r S' => r = .int v ∧ FrT m S S' o ∧ 0 ≤ v ∧ v < 9973
theorem said_ap {l : List D} {o o' : List Int} {b : Nat} (h : l.length + (o ++ o').length ≤ b) : l.length + o.length ≤ b ∧ (l ++ o.map D.int).length + o'.length ≤ b := by
  simp only [List.length_append, List.length_map] at h ⊢; omega
def mWorth (F : FN) : ED := eMeth "Going" "worth" (callK F []) (eVar 0) (aCons (eVar 3) (aCons (eVar 2) (aNil)))
theorem insAt_go {l : List D} (h : Go g m S l) : insAt (.obj g) S = some (g, ("Going" : Str), [(("told_aloud" : Str), D.obj m)]) := insAt_obj h.go
theorem nol1 : List.lookup ("worth" : Str) [("told_aloud", D.obj m)] = none := by
  have : (("worth" : Str) == "told_aloud") = false := by decide +kernel
  simp [List.lookup, this]
theorem nol2 : List.lookup ("part_worths" : Str) [("told_aloud", D.obj m)] = none := by
  have : (("part_worths" : Str) == "told_aloud") = false := by decide +kernel
  simp [List.lookup, this]
theorem parts_lc {f : Ev} {k bd : Nat} (hf : Spec f k bd) {a1 : Option D} {h : D} : ∀ (ps : List Tm) (e : WEnv) (vs : List Int) (o : List Int), evs f ps e = some (vs, o) → ∀ (S : Store) (l : List D) (n : Nat), Held h S e n → n ≤ bd → Go g m S l → l.length + o.length ≤ 5000 →
    lcSat (L3.gName 3) tYesD (mWorth (Fs k 15)) [some (.obj g), a1, some h, none] (Tm.ds ps) S fun ys S' => ys = vs.map D.int ∧ FrT m S S' o ∧ (∀ v ∈ vs, 0 ≤ v ∧ v < 9973) ∧ vs.length = ps.length
  | [], e, vs, o, he, S, l, n, hh, hn, go, hl => by
    simp only [evs, Option.some.injEq, Prod.mk.injEq] at he
    obtain ⟨rfl, rfl⟩ := he
    simp only [Tm.ds, lcSat]
    exact ⟨rfl, .refl _ _, (fun v hv => by cases hv), rfl⟩
  | t :: ts, e, vs, o, he, S, l, n, hh, hn, go, hl => by
    simp only [evs] at he
    split at he
    · rename_i v o1 h1
      split at he
      · rename_i vs2 o2 h2
        cases he
        obtain ⟨b1, b2⟩ := said_ap hl
        simp only [Tm.ds]
        unfold lcSat
        simp only [L3.gName, tYesD, sat_ok, if_true, List.set_cons_succ, List.set_cons_zero]
        unfold mWorth
        rw [sat_eMeth]
        simp only [sat_eVar, List.getElem?_cons_succ, List.getElem?_cons_zero, sat_aCons, sat_aNil, callK_eq, List.append_nil]
        refine ⟨_, _, insAt_go go, nol1, ?_⟩
        refine sat_mono (hf t e v o1 h1 g m h S l n hh hn go b1) fun r S1 ⟨er, fr, rg⟩ => ?_
        subst er
        refine lcSat_mono (parts_lc hf ts e vs2 o2 h2 S1 _ n (hh.mv go.sd fr) hn (go.mv fr) b2) fun ys S2 ⟨ey, fr2, rg2, ln⟩ => ?_
        subst ey
        refine ⟨rfl, fr.trans fr2, fun u hu => ?_, by simp [ln]⟩
        rcases List.mem_cons.mp hu with e | hu
        · rw [e]; exact rg
        · exact rg2 u hu
      · cases he
    · cases he
theorem parts {f : Ev} {k bd : Nat} (hf : Spec f k bd) {w mk : Str} {ps : List Tm} {e : WEnv} {vs o : List Int} {h : D} {l : List D} (he : evs f ps e = some (vs, o)) (hp : ps.length ≤ 100) (hh : Held h S e n) (hn : n ≤ bd) (go : Go g m S l) (hl : l.length + o.length ≤ 5000) :
    (Fs (k + 1) 16 [.obj g, .tup [.str w, .str mk, .tup (Tm.ds ps)], h] S).sat fun r S' => r = .lst (vs.map D.int) ∧ FrT m S S' o ∧ (∀ v ∈ vs, 0 ≤ v ∧ v < 9973) ∧ vs.length = ps.length := by
  rw [Fs_Going_part_worths, sat_run]
  refine ⟨rfl, ?_⟩
  unfold m_Going_part_worths
  open_k
  simp only [ixD, atI, ixN]
  have dl : ∀ ps : List Tm, (Tm.ds ps).length = ps.length := fun ps => by
    induction ps with
    | nil => rfl
    | cons p ps ih => simp [Tm.ds, ih]
  simp
  refine ⟨small (by rw [dl]; omega), ?_⟩
  refine lcSat_mono (parts_lc hf ps e vs o he S l n hh hn go hl) fun ys S' ⟨e1, e2⟩ => ?_
  subst e1
  exact ⟨rfl, e2⟩
end K21
set_option Elab.async false
set_option linter.all false
set_option maxRecDepth 100000
set_option maxHeartbeats 4000000
/-! K21N: which function a word calls. -/
namespace K21
open PySem L2 L3
local macro_rules | `(tactic| open_k) => `(tactic| simp only [ssat_seq, ssat_asg, ssat_sRet, ssat_sExpr, ssat_if, ssat_skip, ssat_par, ssat_nx, ssat_ret, ssat_for, sat_e2, sat_e1, sat_eN, sat_aCons, sat_aNil, sat_eVar, sat_eK, sat_tOfE, sat_tTruth, sat_tNot, sat_tAnd, sat_tOr, sat_eIf, sat_eBM, sat_iSeq, sat_iArgs, sat_eAnd, sat_eOr, sat_eNot, sat_eChain, sat_eSl, sat_pNo, sat_pYes, sat_eLc, sat_eKw, sat_mkTup, sat_mkLst, sat_mkObj, sat_ok, callK_eq, List.append_nil, List.map_cons, List.map_nil, List.length_cons, List.length_nil, List.replicate, List.getElem?_cons_succ, List.getElem?_cons_zero, List.cons_append, List.nil_append, List.set_cons_succ, List.set_cons_zero, gName_eq, gTup_tup, gNames_cons, gNames_nil, Nat.zero_add, Nat.reduceAdd, Nat.reduceSub, sz0, sz1, sz2, sz3, sz4, sz5, sz6, sz7, sz8, sz10, sz17, true_and, add_int, sub_int, neg_int, lt_int, le_int, gt_int, ge_int, eq_int, ne_int, blD_bl, truthD_bl, itemsD_lst, itemsD_tup, wipeD, eq_strs, ne_strs, L3.sl_tup, L3.sl_lst, if_true, if_false, Bool.false_eq_true, sat_range1, sat_range2, tuple_lst, tuple_tup, len_tup, len_lst, len_scr, D.int.injEq, exists_eq_left', mt_str, sat_eMeth, sat_mkIns, ssat_fldD, gSeq_lst, ssat_gSub, sat_eDc])
variable {S : Store} {g m n : Nat} {Q : D → Store → Prop}
theorem ix3 {a b c : D} : ixD (.tup [a, b, c]) (.int 0) S = .ok a S := by simp [ixD, atI, ixN]
theorem disp_num {k : Nat} {mk ps h : D} (H : (Fs k 2 [.obj g, .tup [.str "num", mk, ps], h] S).sat Q) : (Fs (k + 1) 15 [.obj g, .tup [.str "num", mk, ps], h] S).sat Q := by
  have e : ixD c_WAYS (.str "num") S = .ok (.glb "num_worth") S := by kernel_rfl
  rw [Fs_Going_worth, sat_run]
  refine ⟨rfl, ?_⟩
  unfold m_Going_worth
  open_k
  rw [ix3, sat_ok, e, sat_ok]
  have H' : (aCons (eVar 0) (aCons (eVar 1) (aCons (eVar 2) aNil)) [some (.obj g), some (.tup [.str "num", mk, ps]), some h, some (.glb "num_worth")] S).sat fun xs S1 => (Fs k 2 xs S1).sat Q := by
    open_k; exact H
  repeat (first | exact alt_l (fnL_yes rfl H') | exact fnL_yes rfl H' | refine alt_r (fnL_no rfl (by decide +kernel)) ?_)
theorem disp_name {k : Nat} {mk ps h : D} (H : (Fs k 3 [.obj g, .tup [.str "name", mk, ps], h] S).sat Q) : (Fs (k + 1) 15 [.obj g, .tup [.str "name", mk, ps], h] S).sat Q := by
  have e : ixD c_WAYS (.str "name") S = .ok (.glb "name_worth") S := by kernel_rfl
  rw [Fs_Going_worth, sat_run]
  refine ⟨rfl, ?_⟩
  unfold m_Going_worth
  open_k
  rw [ix3, sat_ok, e, sat_ok]
  have H' : (aCons (eVar 0) (aCons (eVar 1) (aCons (eVar 2) aNil)) [some (.obj g), some (.tup [.str "name", mk, ps]), some h, some (.glb "name_worth")] S).sat fun xs S1 => (Fs k 3 xs S1).sat Q := by
    open_k; exact H
  repeat (first | exact alt_l (fnL_yes rfl H') | exact fnL_yes rfl H' | refine alt_r (fnL_no rfl (by decide +kernel)) ?_)
theorem disp_plus {k : Nat} {mk ps h : D} (H : (Fs k 4 [.obj g, .tup [.str "plus", mk, ps], h] S).sat Q) : (Fs (k + 1) 15 [.obj g, .tup [.str "plus", mk, ps], h] S).sat Q := by
  have e : ixD c_WAYS (.str "plus") S = .ok (.glb "plus_worth") S := by kernel_rfl
  rw [Fs_Going_worth, sat_run]
  refine ⟨rfl, ?_⟩
  unfold m_Going_worth
  open_k
  rw [ix3, sat_ok, e, sat_ok]
  have H' : (aCons (eVar 0) (aCons (eVar 1) (aCons (eVar 2) aNil)) [some (.obj g), some (.tup [.str "plus", mk, ps]), some h, some (.glb "plus_worth")] S).sat fun xs S1 => (Fs k 4 xs S1).sat Q := by
    open_k; exact H
  repeat (first | exact alt_l (fnL_yes rfl H') | exact fnL_yes rfl H' | refine alt_r (fnL_no rfl (by decide +kernel)) ?_)
theorem disp_times {k : Nat} {mk ps h : D} (H : (Fs k 5 [.obj g, .tup [.str "times", mk, ps], h] S).sat Q) : (Fs (k + 1) 15 [.obj g, .tup [.str "times", mk, ps], h] S).sat Q := by
  have e : ixD c_WAYS (.str "times") S = .ok (.glb "times_worth") S := by kernel_rfl
  rw [Fs_Going_worth, sat_run]
  refine ⟨rfl, ?_⟩
  unfold m_Going_worth
  open_k
  rw [ix3, sat_ok, e, sat_ok]
  have H' : (aCons (eVar 0) (aCons (eVar 1) (aCons (eVar 2) aNil)) [some (.obj g), some (.tup [.str "times", mk, ps]), some h, some (.glb "times_worth")] S).sat fun xs S1 => (Fs k 5 xs S1).sat Q := by
    open_k; exact H
  repeat (first | exact alt_l (fnL_yes rfl H') | exact fnL_yes rfl H' | refine alt_r (fnL_no rfl (by decide +kernel)) ?_)
theorem disp_most {k : Nat} {mk ps h : D} (H : (Fs k 6 [.obj g, .tup [.str "most", mk, ps], h] S).sat Q) : (Fs (k + 1) 15 [.obj g, .tup [.str "most", mk, ps], h] S).sat Q := by
  have e : ixD c_WAYS (.str "most") S = .ok (.glb "most_worth") S := by kernel_rfl
  rw [Fs_Going_worth, sat_run]
  refine ⟨rfl, ?_⟩
  unfold m_Going_worth
  open_k
  rw [ix3, sat_ok, e, sat_ok]
  have H' : (aCons (eVar 0) (aCons (eVar 1) (aCons (eVar 2) aNil)) [some (.obj g), some (.tup [.str "most", mk, ps]), some h, some (.glb "most_worth")] S).sat fun xs S1 => (Fs k 6 xs S1).sat Q := by
    open_k; exact H
  repeat (first | exact alt_l (fnL_yes rfl H') | exact fnL_yes rfl H' | refine alt_r (fnL_no rfl (by decide +kernel)) ?_)
theorem disp_less {k : Nat} {mk ps h : D} (H : (Fs k 7 [.obj g, .tup [.str "less", mk, ps], h] S).sat Q) : (Fs (k + 1) 15 [.obj g, .tup [.str "less", mk, ps], h] S).sat Q := by
  have e : ixD c_WAYS (.str "less") S = .ok (.glb "less_worth") S := by kernel_rfl
  rw [Fs_Going_worth, sat_run]
  refine ⟨rfl, ?_⟩
  unfold m_Going_worth
  open_k
  rw [ix3, sat_ok, e, sat_ok]
  have H' : (aCons (eVar 0) (aCons (eVar 1) (aCons (eVar 2) aNil)) [some (.obj g), some (.tup [.str "less", mk, ps]), some h, some (.glb "less_worth")] S).sat fun xs S1 => (Fs k 7 xs S1).sat Q := by
    open_k; exact H
  repeat (first | exact alt_l (fnL_yes rfl H') | exact fnL_yes rfl H' | refine alt_r (fnL_no rfl (by decide +kernel)) ?_)
theorem disp_below {k : Nat} {mk ps h : D} (H : (Fs k 8 [.obj g, .tup [.str "below", mk, ps], h] S).sat Q) : (Fs (k + 1) 15 [.obj g, .tup [.str "below", mk, ps], h] S).sat Q := by
  have e : ixD c_WAYS (.str "below") S = .ok (.glb "below_worth") S := by kernel_rfl
  rw [Fs_Going_worth, sat_run]
  refine ⟨rfl, ?_⟩
  unfold m_Going_worth
  open_k
  rw [ix3, sat_ok, e, sat_ok]
  have H' : (aCons (eVar 0) (aCons (eVar 1) (aCons (eVar 2) aNil)) [some (.obj g), some (.tup [.str "below", mk, ps]), some h, some (.glb "below_worth")] S).sat fun xs S1 => (Fs k 8 xs S1).sat Q := by
    open_k; exact H
  repeat (first | exact alt_l (fnL_yes rfl H') | exact fnL_yes rfl H' | refine alt_r (fnL_no rfl (by decide +kernel)) ?_)
theorem disp_if {k : Nat} {mk ps h : D} (H : (Fs k 9 [.obj g, .tup [.str "if", mk, ps], h] S).sat Q) : (Fs (k + 1) 15 [.obj g, .tup [.str "if", mk, ps], h] S).sat Q := by
  have e : ixD c_WAYS (.str "if") S = .ok (.glb "if_worth") S := by kernel_rfl
  rw [Fs_Going_worth, sat_run]
  refine ⟨rfl, ?_⟩
  unfold m_Going_worth
  open_k
  rw [ix3, sat_ok, e, sat_ok]
  have H' : (aCons (eVar 0) (aCons (eVar 1) (aCons (eVar 2) aNil)) [some (.obj g), some (.tup [.str "if", mk, ps]), some h, some (.glb "if_worth")] S).sat fun xs S1 => (Fs k 9 xs S1).sat Q := by
    open_k; exact H
  repeat (first | exact alt_l (fnL_yes rfl H') | exact fnL_yes rfl H' | refine alt_r (fnL_no rfl (by decide +kernel)) ?_)
theorem disp_say {k : Nat} {mk ps h : D} (H : (Fs k 10 [.obj g, .tup [.str "say", mk, ps], h] S).sat Q) : (Fs (k + 1) 15 [.obj g, .tup [.str "say", mk, ps], h] S).sat Q := by
  have e : ixD c_WAYS (.str "say") S = .ok (.glb "say_worth") S := by kernel_rfl
  rw [Fs_Going_worth, sat_run]
  refine ⟨rfl, ?_⟩
  unfold m_Going_worth
  open_k
  rw [ix3, sat_ok, e, sat_ok]
  have H' : (aCons (eVar 0) (aCons (eVar 1) (aCons (eVar 2) aNil)) [some (.obj g), some (.tup [.str "say", mk, ps]), some h, some (.glb "say_worth")] S).sat fun xs S1 => (Fs k 10 xs S1).sat Q := by
    open_k; exact H
  repeat (first | exact alt_l (fnL_yes rfl H') | exact fnL_yes rfl H' | refine alt_r (fnL_no rfl (by decide +kernel)) ?_)
theorem disp_row {k : Nat} {mk ps h : D} (H : (Fs k 11 [.obj g, .tup [.str "row", mk, ps], h] S).sat Q) : (Fs (k + 1) 15 [.obj g, .tup [.str "row", mk, ps], h] S).sat Q := by
  have e : ixD c_WAYS (.str "row") S = .ok (.glb "row_worth") S := by kernel_rfl
  rw [Fs_Going_worth, sat_run]
  refine ⟨rfl, ?_⟩
  unfold m_Going_worth
  open_k
  rw [ix3, sat_ok, e, sat_ok]
  have H' : (aCons (eVar 0) (aCons (eVar 1) (aCons (eVar 2) aNil)) [some (.obj g), some (.tup [.str "row", mk, ps]), some h, some (.glb "row_worth")] S).sat fun xs S1 => (Fs k 11 xs S1).sat Q := by
    open_k; exact H
  repeat (first | exact alt_l (fnL_yes rfl H') | exact fnL_yes rfl H' | refine alt_r (fnL_no rfl (by decide +kernel)) ?_)
theorem disp_let {k : Nat} {mk ps h : D} (H : (Fs k 12 [.obj g, .tup [.str "let", mk, ps], h] S).sat Q) : (Fs (k + 1) 15 [.obj g, .tup [.str "let", mk, ps], h] S).sat Q := by
  have e : ixD c_WAYS (.str "let") S = .ok (.glb "let_worth") S := by kernel_rfl
  rw [Fs_Going_worth, sat_run]
  refine ⟨rfl, ?_⟩
  unfold m_Going_worth
  open_k
  rw [ix3, sat_ok, e, sat_ok]
  have H' : (aCons (eVar 0) (aCons (eVar 1) (aCons (eVar 2) aNil)) [some (.obj g), some (.tup [.str "let", mk, ps]), some h, some (.glb "let_worth")] S).sat fun xs S1 => (Fs k 12 xs S1).sat Q := by
    open_k; exact H
  repeat (first | exact alt_l (fnL_yes rfl H') | exact fnL_yes rfl H' | refine alt_r (fnL_no rfl (by decide +kernel)) ?_)
theorem disp_each {k : Nat} {mk ps h : D} (H : (Fs k 13 [.obj g, .tup [.str "each", mk, ps], h] S).sat Q) : (Fs (k + 1) 15 [.obj g, .tup [.str "each", mk, ps], h] S).sat Q := by
  have e : ixD c_WAYS (.str "each") S = .ok (.glb "each_worth") S := by kernel_rfl
  rw [Fs_Going_worth, sat_run]
  refine ⟨rfl, ?_⟩
  unfold m_Going_worth
  open_k
  rw [ix3, sat_ok, e, sat_ok]
  have H' : (aCons (eVar 0) (aCons (eVar 1) (aCons (eVar 2) aNil)) [some (.obj g), some (.tup [.str "each", mk, ps]), some h, some (.glb "each_worth")] S).sat fun xs S1 => (Fs k 13 xs S1).sat Q := by
    open_k; exact H
  repeat (first | exact alt_l (fnL_yes rfl H') | exact fnL_yes rfl H' | refine alt_r (fnL_no rfl (by decide +kernel)) ?_)
end K21
set_option Elab.async false
set_option linter.all false
set_option maxRecDepth 100000
set_option maxHeartbeats 4000000
/-! K21O: each word's function. -/
namespace K21
open PySem L2 L3
local macro_rules | `(tactic| open_k) => `(tactic| simp only [ssat_seq, ssat_asg, ssat_sRet, ssat_sExpr, ssat_if, ssat_skip, ssat_par, ssat_nx, ssat_ret, ssat_for, sat_e2, sat_e1, sat_eN, sat_aCons, sat_aNil, sat_eVar, sat_eK, sat_tOfE, sat_tTruth, sat_tNot, sat_tAnd, sat_tOr, sat_eIf, sat_eBM, sat_iSeq, sat_iArgs, sat_eAnd, sat_eOr, sat_eNot, sat_eChain, sat_eSl, sat_pNo, sat_pYes, sat_eLc, sat_eKw, sat_mkTup, sat_mkLst, sat_mkObj, sat_ok, callK_eq, List.append_nil, List.map_cons, List.map_nil, List.length_cons, List.length_nil, List.replicate, List.getElem?_cons_succ, List.getElem?_cons_zero, List.cons_append, List.nil_append, List.set_cons_succ, List.set_cons_zero, gName_eq, gTup_tup, gNames_cons, gNames_nil, Nat.zero_add, Nat.reduceAdd, Nat.reduceSub, sz0, sz1, sz2, sz3, sz4, sz5, sz6, sz7, sz8, sz10, sz17, true_and, add_int, sub_int, neg_int, lt_int, le_int, gt_int, ge_int, eq_int, ne_int, blD_bl, truthD_bl, itemsD_lst, itemsD_tup, wipeD, eq_strs, ne_strs, L3.sl_tup, L3.sl_lst, if_true, if_false, Bool.false_eq_true, sat_range1, sat_range2, tuple_lst, tuple_tup, len_tup, len_lst, len_scr, D.int.injEq, exists_eq_left', mt_str, sat_eMeth, sat_mkIns, ssat_fldD, gSeq_lst, ssat_gSub, sat_eDc])
variable {S : Store} {g m n : Nat} {Q : D → Store → Prop} {f : Ev} {k bd : Nat} {w mk : Str} {ps : List Tm} {e : WEnv} {vs o : List Int} {h : D} {l : List D}
abbrev Ans (m : Nat) (S : Store) (v : Int) (o : List Int) : D → Store → Prop := fun r S' => r = .int v ∧ FrT m S S' o ∧ 0 ≤ v ∧ v < 9973
theorem mod_rg (i : Int) : 0 ≤ i % 9973 ∧ i % 9973 < 9973 := ⟨Int.emod_nonneg _ (by decide), Int.emod_lt_of_pos _ (by decide)⟩
theorem plus_ok (hf : Spec f k bd) (he : evs f ps e = some (vs, o)) (hp : ps.length ≤ 100) (hh : Held h S e n) (hn : n ≤ bd) (go : Go g m S l) (hl : l.length + o.length ≤ 5000) :
    (Fs (k + 2) 4 [.obj g, .tup [.str w, .str mk, .tup (Tm.ds ps)], h] S).sat (Ans m S (vs.sum % 9973) o) := by
  rw [Fs_plus_worth, sat_run]
  refine ⟨rfl, ?_⟩
  unfold m_plus_worth
  open_k
  refine ⟨_, _, insAt_go go, nol2, ?_⟩
  refine sat_mono (parts hf he hp hh hn go hl) fun r S1 ⟨er, fr, rg, ln⟩ => ?_
  subst er
  rw [sum_int, sat_ok, rest, sat_ok]
  exact ⟨rfl, fr, mod_rg _⟩
theorem times_loop {N B C : EnvD → Store → Prop} {T : D → Store → Prop} {a b c : Option D} : ∀ (vs : List Int) (p : Int) (a4 : Option D), 0 ≤ p ∧ p < 9973 → (∀ v ∈ vs, 0 ≤ v ∧ v < 9973) →
    (∀ a4', 0 ≤ vs.foldl (fun a b => a * b % 9973) p ∧ vs.foldl (fun a b => a * b % 9973) p < 9973 → N [a, b, c, some (.int (vs.foldl (fun a b => a * b % 9973) p)), a4'] S) →
    (forL (L3.gName 4) (sAsg (eN (callK (Fs (k + 1) 0) []) (aCons (e2 mulD (eVar 3) (eVar 4)) (aNil))) (L3.gName 3)) (vs.map D.int) [a, b, c, some (.int p), a4] S).sat N T B C
  | [], p, a4, hp, hv, hN => by rw [List.map_nil, forL_nil]; exact hN _ hp
  | v :: vs, p, a4, hp, hv, hN => by
    rw [List.map_cons, forL_cons]
    open_k
    rw [mul_int]
    refine ⟨mulOk_r (by have := hv v (List.mem_cons_self ..); omega), ?_⟩
    rw [rest, sat_ok]
    exact times_loop vs _ _ (mod_rg _) (fun u hu => hv u (List.mem_cons_of_mem _ hu)) hN
theorem times_ok (hf : Spec f k bd) (he : evs f ps e = some (vs, o)) (hp : ps.length ≤ 100) (hh : Held h S e n) (hn : n ≤ bd) (go : Go g m S l) (hl : l.length + o.length ≤ 5000) :
    (Fs (k + 2) 5 [.obj g, .tup [.str w, .str mk, .tup (Tm.ds ps)], h] S).sat (Ans m S (vs.foldl (fun a b => a * b % 9973) 1) o) := by
  rw [Fs_times_worth, sat_run]
  refine ⟨rfl, ?_⟩
  unfold m_times_worth
  open_k
  refine ⟨_, _, insAt_go go, nol2, ?_⟩
  refine sat_mono (parts hf he hp hh hn go hl) fun r S1 ⟨er, fr, rg, ln⟩ => ?_
  subst er
  rw [itemsD_lst, sat_ok]
  refine times_loop vs 1 _ (by decide) rg fun a4 h => ?_
  open_k
  exact ⟨rfl, fr, h⟩
theorem max_rg : ∀ {vs : List Int} {v : Int}, maxI vs = some v → (∀ v ∈ vs, 0 ≤ v ∧ v < 9973) → 0 ≤ v ∧ v < 9973
  | [], v, h, _ => by cases h
  | a :: vs, v, h, hv => by
    simp only [maxI, Option.some.injEq] at h
    subst h
    rcases (fold_max vs a).1 with e | e
    · rw [e]; exact hv a (List.mem_cons_self ..)
    · exact hv _ (List.mem_cons_of_mem _ e)
theorem most_ok {v : Int} (hf : Spec f k bd) (he : evs f ps e = some (vs, o)) (hx : maxI vs = some v) (hp : ps.length ≤ 100) (hh : Held h S e n) (hn : n ≤ bd) (go : Go g m S l) (hl : l.length + o.length ≤ 5000) :
    (Fs (k + 2) 6 [.obj g, .tup [.str w, .str mk, .tup (Tm.ds ps)], h] S).sat (Ans m S v o) := by
  rw [Fs_most_worth, sat_run]
  refine ⟨rfl, ?_⟩
  unfold m_most_worth
  open_k
  refine ⟨_, _, insAt_go go, nol2, ?_⟩
  refine sat_mono (parts hf he hp hh hn go hl) fun r S1 ⟨er, fr, rg, ln⟩ => ?_
  subst er
  have : ∀ S, maxD [.lst (vs.map D.int)] S = .ok (.int v) S := fun S => by simp [maxD, asL, sum_lst, hx]
  rw [this, sat_ok]
  exact ⟨rfl, fr, max_rg hx rg⟩
theorem less_ok {a b : Int} (hf : Spec f k bd) (he : evs f ps e = some ([a, b], o)) (hp : ps.length ≤ 100) (hh : Held h S e n) (hn : n ≤ bd) (go : Go g m S l) (hl : l.length + o.length ≤ 5000) :
    (Fs (k + 2) 7 [.obj g, .tup [.str w, .str mk, .tup (Tm.ds ps)], h] S).sat (Ans m S ((a - b) % 9973) o) := by
  rw [Fs_less_worth, sat_run]
  refine ⟨rfl, ?_⟩
  unfold m_less_worth
  open_k
  refine ⟨_, _, insAt_go go, nol2, ?_⟩
  refine sat_mono (parts hf he hp hh hn go hl) fun r S1 ⟨er, fr, rg, ln⟩ => ?_
  subst er
  open_k
  rw [rest, sat_ok]
  exact ⟨rfl, fr, mod_rg _⟩
theorem below_ok {a b : Int} (hf : Spec f k bd) (he : evs f ps e = some ([a, b], o)) (hp : ps.length ≤ 100) (hh : Held h S e n) (hn : n ≤ bd) (go : Go g m S l) (hl : l.length + o.length ≤ 5000) :
    (Fs (k + 2) 8 [.obj g, .tup [.str w, .str mk, .tup (Tm.ds ps)], h] S).sat (Ans m S (if a < b then 1 else 0) o) := by
  rw [Fs_below_worth, sat_run]
  refine ⟨rfl, ?_⟩
  unfold m_below_worth
  open_k
  refine ⟨_, _, insAt_go go, nol2, ?_⟩
  refine sat_mono (parts hf he hp hh hn go hl) fun r S1 ⟨er, fr, rg, ln⟩ => ?_
  subst er
  open_k
  simp only [intD, sat_ok, decide_eq_true_eq]
  refine ⟨rfl, fr, ?_⟩
  split <;> decide
theorem last_drop : ∀ (vs : List Int) (a : Int), ((a :: vs).map D.int).drop vs.length = [.int (vs.getLastD a)]
  | [], a => rfl
  | v :: vs, a => by
    have := last_drop vs v
    simp only [List.map_cons, List.length_cons, List.drop_succ_cons] at this ⊢
    rw [this]
    congr 2
    cases vs <;> rfl
theorem last_rg : ∀ {vs : List Int}, (∀ v ∈ vs, 0 ≤ v ∧ v < 9973) → 0 ≤ vs.getLastD 0 ∧ vs.getLastD 0 < 9973
  | [], _ => by decide
  | v :: vs, h => by
    rw [List.getLastD_cons, List.getLastD_eq_getLast?]
    cases hq : vs.getLast? with
    | none => exact h v (List.mem_cons_self ..)
    | some u => exact h u (List.mem_cons_of_mem _ (List.mem_of_getLast? hq))
theorem row_ok (hf : Spec f k bd) (he : evs f ps e = some (vs, o)) (hp : ps.length ≤ 100) (hh : Held h S e n) (hn : n ≤ bd) (go : Go g m S l) (hl : l.length + o.length ≤ 5000) :
    (Fs (k + 2) 11 [.obj g, .tup [.str w, .str mk, .tup (Tm.ds ps)], h] S).sat (Ans m S (vs.getLastD 0) o) := by
  rw [Fs_row_worth, sat_run]
  refine ⟨rfl, ?_⟩
  unfold m_row_worth
  open_k
  refine ⟨_, _, insAt_go go, nol2, ?_⟩
  refine sat_mono (parts hf he hp hh hn go hl) fun r S1 ⟨er, fr, rg, ln⟩ => ?_
  subst er
  rw [add_lst (by simp only [List.length_map, List.length_cons, List.length_nil]; exact small (by omega)), sat_ok]
  rw [gStar_lst (by simp; omega)]
  have ed : ([D.int 0] ++ vs.map D.int) = ((0 :: vs).map D.int) := rfl
  have ex : ((0 :: vs).map D.int).length + 1 - [3, 4].length = vs.length := by simp
  rw [ed, ex, List.drop_zero, last_drop]
  simp only [List.take_zero, List.nil_append, List.cons_append]
  open_k
  exact ⟨rfl, fr, last_rg rg⟩
end K21
set_option Elab.async false
set_option linter.all false
set_option maxRecDepth 100000
set_option maxHeartbeats 4000000
/-! K21P: words with parts of their own; all trees. -/
namespace K21
open PySem L2 L3
local macro_rules | `(tactic| open_k) => `(tactic| simp only [ssat_seq, ssat_asg, ssat_sRet, ssat_sExpr, ssat_if, ssat_skip, ssat_par, ssat_nx, ssat_ret, ssat_for, sat_e2, sat_e1, sat_eN, sat_aCons, sat_aNil, sat_eVar, sat_eK, sat_tOfE, sat_tTruth, sat_tNot, sat_tAnd, sat_tOr, sat_eIf, sat_eBM, sat_iSeq, sat_iArgs, sat_eAnd, sat_eOr, sat_eNot, sat_eChain, sat_eSl, sat_pNo, sat_pYes, sat_eLc, sat_eKw, sat_mkTup, sat_mkLst, sat_mkObj, sat_ok, callK_eq, List.append_nil, List.map_cons, List.map_nil, List.length_cons, List.length_nil, List.replicate, List.getElem?_cons_succ, List.getElem?_cons_zero, List.cons_append, List.nil_append, List.set_cons_succ, List.set_cons_zero, gName_eq, gTup_tup, gNames_cons, gNames_nil, Nat.zero_add, Nat.reduceAdd, Nat.reduceSub, sz0, sz1, sz2, sz3, sz4, sz5, sz6, sz7, sz8, sz10, sz17, true_and, add_int, sub_int, neg_int, lt_int, le_int, gt_int, ge_int, eq_int, ne_int, blD_bl, truthD_bl, itemsD_lst, itemsD_tup, wipeD, eq_strs, ne_strs, L3.sl_tup, L3.sl_lst, if_true, if_false, Bool.false_eq_true, sat_range1, sat_range2, tuple_lst, tuple_tup, len_tup, len_lst, len_scr, D.int.injEq, exists_eq_left', mt_str, sat_eMeth, sat_mkIns, ssat_fldD, gSeq_lst, ssat_gSub, sat_eDc])
variable {S : Store} {g m n : Nat} {Q : D → Store → Prop} {f : Ev} {k bd : Nat} {w mk : Str} {ps : List Tm} {e : WEnv} {vs o : List Int} {h : D} {l : List D}
theorem ix31 {a b c : D} : ixD (.tup [a, b, c]) (.int 1) S = .ok b S := by simp [ixD, atI, ixN]
theorem ix32 {a b c : D} : ixD (.tup [a, b, c]) (.int 2) S = .ok c S := by simp [ixD, atI, ixN]
theorem ix10 {a : D} : ixD (.tup [a]) (.int 0) S = .ok a S := by simp [ixD, atI, ixN]
theorem num_ok {i : Int} (hi : 0 ≤ i ∧ i < 9973) : (Fs (k + 1) 2 [.obj g, .tup [.str w, .int i, .tup []], h] S).sat (Ans m S i []) := by
  rw [Fs_num_worth, sat_run]
  refine ⟨rfl, ?_⟩
  unfold m_num_worth
  open_k
  rw [ix31, sat_ok]
  exact ⟨rfl, .refl _ _, hi⟩
theorem name_ok {x : Str} {v : Int} (hv : e x = some v) (hh : Held h S e n) : (Fs (k + 1) 3 [.obj g, .tup [.str w, .str x, .tup []], h] S).sat (Ans m S v []) := by
  obtain ⟨⟨kvs, h1, h2, h3⟩, ok⟩ := hh
  have hd : dGet kvs (.inr x) = some (.int v) := by rw [h3, hv]; rfl
  rw [Fs_name_worth, sat_run]
  refine ⟨rfl, ?_⟩
  unfold m_name_worth
  open_k
  rw [ix31, sat_ok, notIn_dk h1 rfl, sat_ok]
  simp only [hd, Option.isSome_some, Bool.not_true, blD_bl, sat_ok, Bool.false_eq_true, if_false, ssat_skip]
  try open_k
  rw [ix31, sat_ok, ix_dict h1 rfl hd, sat_ok]
  exact ⟨rfl, .refl _ _, ok x v hv⟩
theorem FrT.say {v : Int} (hs : S[m]? = some (.lst l)) : FrT m S (S.set m (.lst (l ++ [.int v]))) [v] :=
  ⟨by simp, fun i ob hi h => by rw [List.getElem?_set_ne (Ne.symm hi)]; exact h, fun l' h' => by
    rw [hs] at h'; cases h'
    rw [List.getElem?_set_self (List.getElem?_eq_some_iff.mp hs).1]; rfl⟩
theorem say_ok {a : Tm} {v : Int} (hf : Spec f k bd) (he : f a e = some (v, o)) (hh : Held h S e n) (hn : n ≤ bd) (go : Go g m S l) (hl : l.length + (o ++ [v]).length ≤ 5000) :
    (Fs (k + 1) 10 [.obj g, .tup [.str w, .str mk, .tup [a.d]], h] S).sat (Ans m S v (o ++ [v])) := by
  obtain ⟨b1, b2⟩ := said_ap hl
  rw [Fs_say_worth, sat_run]
  refine ⟨rfl, ?_⟩
  unfold m_say_worth
  open_k
  refine ⟨_, _, insAt_go go, nol1, ?_⟩
  rw [ix32, sat_ok, ix10, sat_ok]
  refine sat_mono (hf a e v o he g m h S l n hh hn go b1) fun r S1 ⟨er, fr, rg⟩ => ?_
  subst er
  have go1 := go.mv fr
  have lk : ([(("told_aloud" : Str), D.obj m)] : List (Str × D)).lookup ("told_aloud" : Str) = some (.obj m) := by simp [List.lookup]
  try open_k
  rw [fld_eq go1.go (by simp) lk, sat_ok]
  refine ⟨mtD_obj go1.sd, ?_⟩
  rw [append_obj go1.sd]
  refine ⟨by have : (5000 : Nat) < sizeLine := by decide
             simp only [List.length_cons, List.length_nil] at b2; omega, ?_⟩
  exact ⟨rfl, fr.trans (K21.FrT.say go1.sd), rg⟩
theorem if_ok {a b c : Tm} {v u : Int} {o' : List Int} (hf : Spec f k bd) (he : f a e = some (v, o)) (he2 : f (if v ≠ 0 then b else c) e = some (u, o')) (hh : Held h S e n) (hn : n ≤ bd) (go : Go g m S l) (hl : l.length + (o ++ o').length ≤ 5000) :
    (Fs (k + 1) 9 [.obj g, .tup [.str w, .str mk, .tup [a.d, b.d, c.d]], h] S).sat (Ans m S u (o ++ o')) := by
  obtain ⟨b1, b2⟩ := said_ap hl
  rw [Fs_if_worth, sat_run]
  refine ⟨rfl, ?_⟩
  unfold m_if_worth
  open_k
  rw [ix32, sat_ok]
  open_k
  refine ⟨_, _, insAt_go go, nol1, ?_⟩
  refine ⟨_, _, insAt_go go, nol1, ?_⟩
  refine sat_mono (hf a e v o he g m h S l n hh hn go b1) fun r S1 ⟨er, fr, rg⟩ => ?_
  subst er
  open_k
  have go1 := go.mv fr
  by_cases hv : v ≠ 0
  · rw [if_pos hv] at he2
    simp only [hv, ne_eq, not_false_eq_true, decide_true, if_true]
    exact sat_mono (hf b e u o' he2 g m h S1 _ n (hh.mv go.sd fr) hn go1 b2) fun r S2 ⟨er, fr2, rg2⟩ => ⟨er, fr.trans fr2, rg2⟩
  · rw [if_neg hv] at he2
    have hv0 : v = 0 := Decidable.not_not.mp hv
    simp only [hv0, ne_eq, not_true_eq_false, decide_false, Bool.false_eq_true, if_false]
    exact sat_mono (hf c e u o' he2 g m h S1 _ n (hh.mv go.sd fr) hn go1 b2) fun r S2 ⟨er, fr2, rg2⟩ => ⟨er, fr.trans fr2, rg2⟩
theorem with_ok {x : Str} {v : Int} (hv : 0 ≤ v ∧ v < 9973) (hh : Held h S e n) (hn : n ≤ 900) (go : Go g m S l) :
    (Fs (k + 1) 1 [h, .str x, .int v] S).sat fun r S' => FrT m S S' [] ∧ Held r S' (upE e x v) (n + 1) := by
  obtain ⟨⟨kvs, h1, h2, h3⟩, ok⟩ := hh
  have nw : (S ++ [O.dK kvs])[S.length]? = some (.dK kvs) := by simp
  rw [Fs_with_name, sat_run]
  refine ⟨rfl, ?_⟩
  unfold m_with_name
  open_k
  rw [dictO_eq h1, sat_ok]
  try open_k
  refine ⟨_, setD_dK nw rfl (Nat.lt_of_le_of_lt h2 (Nat.lt_of_le_of_lt hn (by decide))), ?_⟩
  refine ⟨(FrT.app _ go.lt).put (Nat.le_refl _) go.lt _, Held.up h1 h2 h3 ok hv (p := S.length) ?_⟩
  rw [List.getElem?_set_self (by simp)]
theorem let_ok {a b : Tm} {v u : Int} {o' : List Int} (hf : Spec f (k + 1) bd) (he : f a e = some (v, o)) (he2 : f b (upE e mk v) = some (u, o')) (hh : Held h S e n) (hn : n < bd) (hbd : bd ≤ 900) (go : Go g m S l) (hl : l.length + (o ++ o').length ≤ 5000) :
    (Fs (k + 2) 12 [.obj g, .tup [.str w, .str mk, .tup [a.d, b.d]], h] S).sat (Ans m S u (o ++ o')) := by
  obtain ⟨b1, b2⟩ := said_ap hl
  rw [Fs_let_worth, sat_run]
  refine ⟨rfl, ?_⟩
  unfold m_let_worth
  open_k
  rw [ix32, sat_ok]
  open_k
  refine ⟨_, _, insAt_go go, nol1, ?_⟩
  rw [ix31, sat_ok]
  refine ⟨_, _, insAt_go go, nol1, ?_⟩
  refine sat_mono (hf a e v o he g m h S l n hh (by omega) go b1) fun r S1 ⟨er, fr, rg⟩ => ?_
  subst er
  have go1 := go.mv fr
  refine sat_mono (with_ok rg (hh.mv go.sd fr) (by omega) go1) fun r S2 ⟨fr2, hd⟩ => ?_
  have go2 := go1.mv fr2
  refine sat_mono (hf b (upE e mk v) u o' he2 g m r S2 _ (n + 1) hd (by omega) go2 (by simpa using b2)) fun r S3 ⟨er, fr3, rg3⟩ => ?_
  refine ⟨er, ?_, rg3⟩
  have := (fr.trans fr2).trans fr3
  simpa using this
theorem each_loop {N B C : EnvD → Store → Prop} {T : D → Store → Prop} {b : Tm} {ad : D} (hf : Spec f (k + 1) bd) (hbd : bd ≤ 900) : ∀ (is : List Int) (last u : Int) (o : List Int) (a6 : Option D) (S : Store) (l : List D), rnds f b e mk is last = some (u, o) → (∀ i ∈ is, 0 ≤ i ∧ i < 9973) → 0 ≤ last ∧ last < 9973 →
    Held h S e n → n < bd → Go g m S l → l.length + o.length ≤ 5000 →
    (∀ a6' S', FrT m S S' o → 0 ≤ u ∧ u < 9973 → N [some (.obj g), some (.tup [.str w, .str mk, .tup [ad, b.d]]), some h, some ad, some b.d, some (.int u), a6'] S') →
    (forL (L3.gName 6) (sAsg (eMeth "Going" "worth" (callK (Fs (k + 1) 15) []) (eVar 0) (aCons (eVar 4) (aCons (eN (callK (Fs (k + 1) 1) []) (aCons (eVar 2) (aCons (e2 ixD (eVar 1) (eK (.int 1))) (aCons (eVar 6) (aNil))))) (aNil)))) (L3.gName 5)) (is.map D.int)
      [some (.obj g), some (.tup [.str w, .str mk, .tup [ad, b.d]]), some h, some ad, some b.d, some (.int last), a6] S).sat N T B C
  | [], last, u, o, a6, S, l, he, hi, hl0, hh, hn, go, hl, hN => by
    simp only [rnds, Option.some.injEq, Prod.mk.injEq] at he
    obtain ⟨rfl, rfl⟩ := he
    rw [List.map_nil, forL_nil]
    exact hN _ _ (.refl _ _) hl0
  | i :: is, last, u, o, a6, S, l, he, hi, hl0, hh, hn, go, hl, hN => by
    simp only [rnds] at he
    split at he
    · rename_i v o1 h1
      split at he
      · rename_i v2 o2 h2
        cases he
        obtain ⟨b1, b2⟩ := said_ap hl
        rw [List.map_cons, forL_cons]
        open_k
        refine ⟨_, _, insAt_go go, nol1, ?_⟩
        rw [ix31, sat_ok]
        refine sat_mono (with_ok (hi i (List.mem_cons_self ..)) hh (by omega) go) fun r S2 ⟨fr2, hd⟩ => ?_
        have go2 := go.mv fr2
        refine sat_mono (hf b (upE e mk i) v o1 h1 g m r S2 _ (n + 1) hd (by omega) go2 (by simpa using b1)) fun r S3 ⟨er, fr3, rg3⟩ => ?_
        subst er
        have fr13 : FrT m S S3 o1 := by simpa using fr2.trans fr3
        refine each_loop hf hbd is v u o2 _ S3 _ h2 (fun j hj => hi j (List.mem_cons_of_mem _ hj)) rg3 (hh.mv go.sd fr13) hn (go.mv fr13) b2 fun a6' S' fr4 rg4 => hN a6' S' (fr13.trans fr4) rg4
      · cases he
    · cases he
theorem turns_rg {v : Int} : ∀ i ∈ turns (v % 4), 0 ≤ i ∧ i < 9973 := fun i hi => by
  simp only [turns, List.mem_map, List.mem_range] at hi
  obtain ⟨a, ha, rfl⟩ := hi
  omega
theorem each_ok {a b : Tm} {v u : Int} {o' : List Int} (hf : Spec f (k + 1) bd) (he : f a e = some (v, o)) (he2 : rnds f b e mk (turns (v % 4)) 0 = some (u, o')) (hh : Held h S e n) (hn : n < bd) (hbd : bd ≤ 900) (go : Go g m S l) (hl : l.length + (o ++ o').length ≤ 5000) :
    (Fs (k + 2) 13 [.obj g, .tup [.str w, .str mk, .tup [a.d, b.d]], h] S).sat (Ans m S u (o ++ o')) := by
  obtain ⟨b1, b2⟩ := said_ap hl
  rw [Fs_each_worth, sat_run]
  refine ⟨rfl, ?_⟩
  unfold m_each_worth
  open_k
  rw [ix32, sat_ok]
  open_k
  refine ⟨_, _, insAt_go go, nol1, ?_⟩
  refine sat_mono (hf a e v o he g m h S l n hh (by omega) go b1) fun r S1 ⟨er, fr, rg⟩ => ?_
  subst er
  rw [c_ROUNDS, mod_int]
  refine ⟨by decide, ?_⟩
  rw [sat_range1]
  refine ⟨by simp [okRng]; omega, ?_⟩
  have er : rangeD 0 (v % 4) = (turns (v % 4)).map D.int := by simp [rangeD, turns]
  rw [er]
  refine each_loop hf hbd _ 0 u o' _ S1 _ he2 turns_rg (by decide) (hh.mv go.sd fr) hn (go.mv fr) b2 fun a6' S' fr2 rg2 => ?_
  open_k
  exact ⟨rfl, fr.trans fr2, rg2⟩
theorem spec : ∀ (d k bd : Nat), 3 * d ≤ k → bd + d ≤ 900 → Spec (ev d) k bd
  | 0, k, bd, _, _ => fun t e v o he => by simp [ev] at he
  | d + 1, k, bd, hk, hb => fun t e v o he g m h S l n hh hn go hl => by
    obtain ⟨j, rfl⟩ : ∃ j, k = j + 3 := ⟨k - 3, by omega⟩
    have s0 := fun b h => spec d j b (by omega) h
    have s1 := fun b h => spec d (j + 1) b (by omega) h
    cases t with
    | num i =>
      simp only [ev] at he
      split at he
      · rename_i hi; cases he; exact disp_num (num_ok hi)
      · cases he
    | nam x =>
      simp only [ev, Option.map_eq_some_iff, Prod.mk.injEq] at he
      obtain ⟨u, hu, rfl, rfl⟩ := he
      exact disp_name (name_ok hu hh)
    | nd w mk ps =>
      simp only [ev] at he
      by_cases hp : 100 < ps.length
      · rw [if_pos hp] at he; cases he
      rw [if_neg hp] at he
      have hp' : ps.length ≤ 100 := by omega
      simp only [Tm.d]
      by_cases e1 : w = "plus"
      · subst e1
        simp only [if_true, Option.map_eq_some_iff, Prod.mk.injEq] at he
        obtain ⟨⟨vs, o1⟩, hu, rfl, rfl⟩ := he
        exact disp_plus (plus_ok (s0 bd (by omega)) hu hp' hh hn go hl)
      rw [if_neg e1] at he
      by_cases e2 : w = "times"
      · subst e2
        simp only [if_true, Option.map_eq_some_iff, Prod.mk.injEq] at he
        obtain ⟨⟨vs, o1⟩, hu, rfl, rfl⟩ := he
        exact disp_times (times_ok (s0 bd (by omega)) hu hp' hh hn go hl)
      rw [if_neg e2] at he
      by_cases e3 : w = "most"
      · subst e3
        simp only [if_true] at he
        split at he
        · rename_i vs o1 hu
          simp only [Option.map_eq_some_iff, Prod.mk.injEq] at he
          obtain ⟨u, hx, rfl, rfl⟩ := he
          exact disp_most (most_ok (s0 bd (by omega)) hu hx hp' hh hn go hl)
        · cases he
      rw [if_neg e3] at he
      by_cases e4 : w = "less"
      · subst e4
        simp only [if_true] at he
        split at he
        · rename_i a b o1 hu
          cases he
          exact disp_less (less_ok (s0 bd (by omega)) hu hp' hh hn go hl)
        · cases he
      rw [if_neg e4] at he
      by_cases e5 : w = "below"
      · subst e5
        simp only [if_true] at he
        split at he
        · rename_i a b o1 hu
          cases he
          exact disp_below (below_ok (s0 bd (by omega)) hu hp' hh hn go hl)
        · cases he
      rw [if_neg e5] at he
      by_cases e6 : w = "row"
      · subst e6
        simp only [if_true, Option.map_eq_some_iff, Prod.mk.injEq] at he
        obtain ⟨⟨vs, o1⟩, hu, rfl, rfl⟩ := he
        exact disp_row (row_ok (s0 bd (by omega)) hu hp' hh hn go hl)
      rw [if_neg e6] at he
      split at he
      · rename_i a
        by_cases e7 : w = "say"
        · subst e7
          simp only [if_true, Option.map_eq_some_iff, Prod.mk.injEq] at he
          obtain ⟨⟨u, o1⟩, hu, rfl, rfl⟩ := he
          exact disp_say (say_ok (s1 bd (by omega)) hu hh hn go hl)
        · rw [if_neg e7] at he; cases he
      · rename_i a b
        split at he
        · rename_i u o1 hu
          by_cases e8 : w = "let"
          · subst e8
            simp only [if_true, Option.map_eq_some_iff, Prod.mk.injEq] at he
            obtain ⟨⟨u2, o2⟩, hu2, rfl, rfl⟩ := he
            exact disp_let (let_ok (s1 (bd + 1) (by omega)) hu hu2 hh (by omega) (by omega) go hl)
          · rw [if_neg e8] at he
            by_cases e9 : w = "each"
            · subst e9
              simp only [if_true, Option.map_eq_some_iff, Prod.mk.injEq] at he
              obtain ⟨⟨u2, o2⟩, hu2, rfl, rfl⟩ := he
              exact disp_each (each_ok (s1 (bd + 1) (by omega)) hu hu2 hh (by omega) (by omega) go hl)
            · rw [if_neg e9] at he; cases he
        · cases he
      · rename_i a b c
        by_cases e10 : w = "if"
        · subst e10
          simp only [if_true] at he
          split at he
          · rename_i u o1 hu
            simp only [Option.map_eq_some_iff, Prod.mk.injEq] at he
            obtain ⟨⟨u2, o2⟩, hu2, rfl, rfl⟩ := he
            exact disp_if (if_ok (s1 bd (by omega)) hu hu2 hh hn go hl)
          · cases he
        · rw [if_neg e10] at he; cases he
      · cases he
end K21
set_option Elab.async false
set_option linter.all false
set_option maxRecDepth 100000
set_option maxHeartbeats 4000000
/-! K21Q: run. -/
namespace K21
open PySem L2 L3
local macro_rules | `(tactic| open_k) => `(tactic| simp only [ssat_seq, ssat_asg, ssat_sRet, ssat_sExpr, ssat_if, ssat_skip, ssat_par, ssat_nx, ssat_ret, ssat_for, sat_e2, sat_e1, sat_eN, sat_aCons, sat_aNil, sat_eVar, sat_eK, sat_tOfE, sat_tTruth, sat_tNot, sat_tAnd, sat_tOr, sat_eIf, sat_eBM, sat_iSeq, sat_iArgs, sat_eAnd, sat_eOr, sat_eNot, sat_eChain, sat_eSl, sat_pNo, sat_pYes, sat_eLc, sat_eKw, sat_mkTup, sat_mkLst, sat_mkObj, sat_ok, callK_eq, List.append_nil, List.map_cons, List.map_nil, List.length_cons, List.length_nil, List.replicate, List.getElem?_cons_succ, List.getElem?_cons_zero, List.cons_append, List.nil_append, List.set_cons_succ, List.set_cons_zero, gName_eq, gTup_tup, gNames_cons, gNames_nil, Nat.zero_add, Nat.reduceAdd, Nat.reduceSub, sz0, sz1, sz2, sz3, sz4, sz5, sz6, sz7, sz8, sz10, sz17, true_and, add_int, sub_int, neg_int, lt_int, le_int, gt_int, ge_int, eq_int, ne_int, blD_bl, truthD_bl, itemsD_lst, itemsD_tup, wipeD, eq_strs, ne_strs, L3.sl_tup, L3.sl_lst, if_true, if_false, Bool.false_eq_true, sat_range1, sat_range2, tuple_lst, tuple_tup, len_tup, len_lst, len_scr, D.int.injEq, exists_eq_left', mt_str, sat_eMeth, sat_mkIns, ssat_fldD, gSeq_lst, ssat_gSub, sat_eDc])
variable {S : Store}
/-- old objects stay -/
structure Ext (S S' : Store) : Prop where
  le : S.length ≤ S'.length
  fr : ∀ (i : Nat) (ob : O), S[i]? = some ob → S'[i]? = some ob
theorem Ext.hand {S S' : Store} {n : Nat} (x : Ext S S') (h : Hand n S) : FrH n S S' := ⟨x.le, fun i o _ h => x.fr i o h, let ⟨g, s, e⟩ := h; ⟨g, s, x.fr _ _ e⟩⟩
abbrev Ins := List (Str × Int)
def insD (ins : Ins) : List D := ins.map fun p => .tup [.str p.1, .int p.2]
def envOf (ins : Ins) : WEnv := ins.foldl (fun e p => upE e p.1 p.2) fun _ => none
def kvOf (ins : Ins) (acc : List (Key × D)) : List (Key × D) := ins.foldl (fun a p => putD a (.inr p.1) (.int p.2)) acc
theorem kv_get : ∀ (ins : Ins) (acc : List (Key × D)) (e : WEnv), (∀ x, dGet acc (.inr x) = (e x).map D.int) → ∀ x, dGet (kvOf ins acc) (.inr x) = (ins.foldl (fun e p => upE e p.1 p.2) e x).map D.int
  | [], acc, e, h, x => h x
  | p :: ins, acc, e, h, x => kv_get ins _ (upE e p.1 p.2) (fun y => by
    rw [get_put]
    unfold upE
    by_cases q : p.1 = y
    · subst q; simp
    · rw [if_neg (fun z => q (keys_inj.mp z)), if_neg q, h]) x
theorem kv_len : ∀ (ins : Ins) (acc : List (Key × D)), (kvOf ins acc).length ≤ acc.length + ins.length
  | [], acc => Nat.le_refl _
  | p :: ins, acc => by
    have h1 := kv_len ins (putD acc (.inr p.1) (.int p.2))
    have h2 := put_len acc (.inr p.1 : Key) (.int p.2)
    simp only [List.length_cons]
    exact Nat.le_trans h1 (by omega)
theorem env_ok : ∀ (ins : Ins) (e : WEnv), (∀ x v, e x = some v → 0 ≤ v ∧ v < 9973) → (∀ p ∈ ins, 0 ≤ p.2 ∧ p.2 < 9973) → ∀ x v, ins.foldl (fun e p => upE e p.1 p.2) e x = some v → 0 ≤ v ∧ v < 9973
  | [], e, h, _, x, v, hv => h x v hv
  | p :: ins, e, h, hp, x, v, hv => env_ok ins _ (fun y u hu => by
    simp only [upE] at hu
    split at hu
    · cases hu; exact hp p (List.mem_cons_self ..)
    · exact h y u hu) (fun q hq => hp q (List.mem_cons_of_mem _ hq)) x v hv
theorem dc_ins {a b c d : Option D} : ∀ (ins : Ins) (acc : List (Key × D)) {Q : List (Key × D) → Store → Prop}, Q (kvOf ins acc) S → dcSat (L3.gTup [4, 5]) tYesD (eVar 4) (eVar 5) [a, b, c, d, none, none] (insD ins) acc S Q
  | [], acc, Q, h => h
  | p :: ins, acc, Q, h => by
    show dcSat _ _ _ _ _ (.tup [.str p.1, .int p.2] :: insD ins) acc S Q
    unfold dcSat
    simp only [gTup_tup, gNames_cons, gNames_nil, tYesD, sat_ok, if_true, sat_eVar, List.set_cons_succ, List.set_cons_zero, List.getElem?_cons_succ, List.getElem?_cons_zero, keyOf, Option.some.injEq, exists_eq_left']
    exact dc_ins ins _ h
theorem zip_kv (kvs : List (Key × D)) : (kvs.map (·.1)).zip (kvs.map (·.2)) = kvs := by
  induction kvs with
  | nil => rfl
  | cons p r ih => simp [ih]
theorem held0 {ins : Ins} (hp : ∀ p ∈ ins, 0 ≤ p.2 ∧ p.2 < 9973) : Held (.dic ((kvOf ins []).map (·.1)) ((kvOf ins []).map (·.2))) S (envOf ins) ins.length :=
  ⟨⟨kvOf ins [], by simp only [dkAt, List.length_map, if_true, zip_kv], by have := kv_len ins []; simpa using this, kv_get ins [] _ fun x => rfl⟩, env_ok ins _ (fun x v h => by cases h) hp⟩
theorem run_ok {d k : Nat} {t : Tm} {ins : Ins} {v : Int} {o : List Int} (hd : 3 * d ≤ k) (hd2 : d ≤ 100) (he : ev d t (envOf ins) = some (v, o)) (ho : o.length ≤ 5000) (hl : ins.length ≤ 100) (hp : ∀ p ∈ ins, 0 ≤ p.2 ∧ p.2 < 9973) :
    (Fs (k + 2) 17 [t.d, .tup (insD ins)] S).sat fun r S' => r = .tup [.int v, .tup (o.map D.int)] ∧ Ext S S' := by
  rw [Fs_run, sat_run]
  refine ⟨rfl, ?_⟩
  unfold m_run
  open_k
  rw [Fs_Going___init__, sat_run]
  refine ⟨rfl, ?_⟩
  unfold m_Going___init__
  open_k
  have i0 : insAt (.obj S.length) (S ++ [O.ins "Going" []] ++ [O.lst []]) = some (S.length, ("Going" : Str), []) := insAt_obj (by simp)
  refine ⟨_, _, _, i0, ⟨by simp, by simp⟩, ?_⟩
  have pf : putFD "told_aloud" (D.obj (S ++ [O.ins "Going" []]).length) [] = [(("told_aloud" : Str), D.obj (S ++ [O.ins "Going" []]).length)] := rfl
  rw [pf]
  generalize hS1 : (S ++ [O.ins "Going" []] ++ [O.lst []]).set S.length (.ins "Going" [("told_aloud", D.obj (S ++ [O.ins "Going" []]).length)]) = S1
  have m1 : (S ++ [O.ins "Going" []]).length = S.length + 1 := by simp
  rw [m1] at hS1
  have go : Go S.length (S.length + 1) S1 [] := by
    subst hS1
    refine ⟨by rw [List.getElem?_set_self (by simp)], by rw [List.getElem?_set_ne (by omega)]; simp⟩
  have ex : Ext S S1 := by
    subst hS1
    refine ⟨by simp, fun i ob h => ?_⟩
    have := (List.getElem?_eq_some_iff.mp h).1
    rw [List.getElem?_set_ne (by omega), List.append_assoc, List.getElem?_append_left this]; exact h
  try open_k
  refine ⟨_, _, insAt_go go, nol1, ?_⟩
  have il : (insD ins).length = ins.length := by simp [insD]
  refine ⟨small (by rw [il]; omega), ?_⟩
  refine dc_ins ins [] ?_
  refine sat_mono (spec d (k + 1) ins.length (by omega) (by omega) t (envOf ins) v o he S.length (S.length + 1) _ S1 [] ins.length (held0 hp) (Nat.le_refl _) go (by simpa using ho)) fun r S2 ⟨er, fr, rg⟩ => ?_
  subst er
  have go2 := go.mv fr
  have lk : ([(("told_aloud" : Str), D.obj (S.length + 1))] : List (Str × D)).lookup ("told_aloud" : Str) = some (.obj (S.length + 1)) := by simp [List.lookup]
  try open_k
  rw [fld_eq go2.go (by simp) lk, sat_ok, tuple_obj go2.sd, sat_ok]
  refine ⟨by simp, Nat.le_trans ex.le fr.le, fun i ob h => ?_⟩
  have := (List.getElem?_eq_some_iff.mp h).1
  exact fr.fr i ob (by omega) (ex.fr i ob h)
end K21
set_option Elab.async false
set_option linter.all false
set_option maxRecDepth 100000
set_option maxHeartbeats 4000000
/-! K21R: the law's own reckoning. -/
namespace K21
open PySem L2 L3
local macro_rules | `(tactic| open_k) => `(tactic| simp only [ssat_seq, ssat_asg, ssat_sRet, ssat_sExpr, ssat_if, ssat_skip, ssat_par, ssat_nx, ssat_ret, ssat_for, sat_e2, sat_e1, sat_eN, sat_aCons, sat_aNil, sat_eVar, sat_eK, sat_tOfE, sat_tTruth, sat_tNot, sat_tAnd, sat_tOr, sat_eIf, sat_eBM, sat_iSeq, sat_iArgs, sat_eAnd, sat_eOr, sat_eNot, sat_eChain, sat_eSl, sat_pNo, sat_pYes, sat_eLc, sat_eKw, sat_mkTup, sat_mkLst, sat_mkObj, sat_ok, callK_eq, List.append_nil, List.map_cons, List.map_nil, List.length_cons, List.length_nil, List.replicate, List.getElem?_cons_succ, List.getElem?_cons_zero, List.cons_append, List.nil_append, List.set_cons_succ, List.set_cons_zero, gName_eq, gTup_tup, gNames_cons, gNames_nil, Nat.zero_add, Nat.reduceAdd, Nat.reduceSub, sz0, sz1, sz2, sz3, sz4, sz5, sz6, sz7, sz8, sz10, sz17, true_and, add_int, sub_int, neg_int, lt_int, le_int, gt_int, ge_int, eq_int, ne_int, blD_bl, truthD_bl, itemsD_lst, itemsD_tup, wipeD, eq_strs, ne_strs, L3.sl_tup, L3.sl_lst, if_true, if_false, Bool.false_eq_true, sat_range1, sat_range2, tuple_lst, tuple_tup, len_tup, len_lst, len_scr, D.int.injEq, exists_eq_left', mt_str, sat_eMeth, sat_mkIns, ssat_fldD, gSeq_lst, ssat_gSub, sat_eDc])
variable {S : Store} {n : Nat}
theorem tk (k : Nat) : IsTake (Fs (k + 1) 19) := by rw [Fs_law_take]; exact isTake
theorem pk (k : Nat) : IsPick2 (Fs (k + 2) 20) := by rw [show k + 2 = k + 1 + 1 from rfl, Fs_law_pick]; exact isPick2 (tk k)
theorem nb (k : Nat) (hS : Hand n S) : (Fs (k + 3) 21 [.obj n] S).sat fun d S' => (∃ i : Int, d = .int i ∧ 0 ≤ i ∧ i < 9973) ∧ FrH n S S' := by
  rw [show k + 3 = k + 2 + 1 from rfl, Fs_law_number, sat_run]
  refine ⟨rfl, ?_⟩
  unfold m_law_number
  open_k
  refine sat_mono (tk (k + 1) n S 9973 hS (by decide) (by decide)) fun d1 S1 ⟨⟨a, e1, a0, a1⟩, fr1⟩ => ?_
  subst e1
  refine sat_mono (pk k n S1 _ _ fr1.hd (.lst _) (by simp) (by simp)) fun d3 S3 ⟨h, fr3⟩ => ⟨?_, fr1.trans fr3⟩
  simp at h
  rcases h with rfl | rfl | rfl | rfl | rfl | rfl | rfl | rfl | rfl | rfl <;> exact ⟨_, rfl, by omega, by omega⟩
/-- what a word gives of worths, step by step -/
def dueF (w : Str) (a b : Int) : Int := if w = "plus" then a + b - 9973 * (if 9973 ≤ a + b then 1 else 0) else if w = "times" then a * b - a * b / 9973 * 9973 else if w = "row" then b else if b < a then a else b
def due (w : Str) (vs : List Int) : Int := vs.foldl (dueF w) (if w = "times" then 1 else 0)
theorem due_rg {w : Str} {a b : Int} (ha : 0 ≤ a ∧ a < 9973) (hb : 0 ≤ b ∧ b < 9973) : 0 ≤ dueF w a b ∧ dueF w a b < 9973 := by
  unfold dueF
  split
  · split <;> omega
  · split
    · have h1 := Int.emod_nonneg (a * b) (show (9973 : Int) ≠ 0 by decide)
      have h2 := Int.emod_lt_of_pos (a * b) (show (0 : Int) < 9973 by decide)
      have h3 := Int.emod_def (a * b) 9973
      omega
    · split
      · exact hb
      · split <;> omega
theorem due_loop {N B C : EnvD → Store → Prop} {T : D → Store → Prop} {w : Str} {b : Option D} : ∀ (vs : List Int) (p : Int) (a4 : Option D), 0 ≤ p ∧ p < 9973 → (∀ v ∈ vs, 0 ≤ v ∧ v < 9973) →
    (∀ a4', N [some (.str w), b, some (.int (vs.foldl (dueF w) p)), a4'] S) →
    (forL (L3.gName 3) (sIf (tOfE (e2 eqD (eVar 0) (eK (.str "plus")))) (sAsg (e2 subD (e2 addD (eVar 2) (eVar 3)) (e2 mulD (eK (.int 9973)) (eN intD (aCons (e2 geD (e2 addD (eVar 2) (eVar 3)) (eK (.int 9973))) (aNil))))) (L3.gName 2)) (sIf (tOfE (e2 eqD (eVar 0) (eK (.str "times")))) (sAsg (e2 subD (e2 mulD (eVar 2) (eVar 3)) (e2 mulD (e2 fdivD (e2 mulD (eVar 2) (eVar 3)) (eK (.int 9973))) (eK (.int 9973)))) (L3.gName 2)) (sIf (tOfE (e2 eqD (eVar 0) (eK (.str "row")))) (sAsg (eVar 3) (L3.gName 2)) (sAsg (eIf (tOfE (e2 gtD (eVar 2) (eVar 3))) (eVar 2) (eVar 3)) (L3.gName 2)))))
      (vs.map D.int) [some (.str w), b, some (.int p), a4] S).sat N T B C
  | [], p, a4, hp, hv, hN => by rw [List.map_nil, forL_nil]; exact hN _
  | v :: vs, p, a4, hp, hv, hN => by
    have hv0 := hv v (List.mem_cons_self ..)
    have go := due_loop (N := N) (B := B) (C := C) (T := T) (w := w) (b := b) vs (dueF w p v) (some (.int v)) (due_rg hp hv0) (fun u hu => hv u (List.mem_cons_of_mem _ hu)) hN
    rw [List.map_cons, forL_cons]
    open_k
    unfold dueF at go
    by_cases h1 : w = "plus"
    · subst h1
      simp only [if_true, beq_self_eq_true, intD, sat_ok, mul_int, decide_eq_true_eq, sub_int] at go ⊢
      refine ⟨mulOk_l (by decide), ?_⟩
      try open_k
      exact go
    · have b1 : (w == ("plus" : Str)) = false := by simp [h1]
      simp only [b1, Bool.false_eq_true, if_false, if_neg h1] at go ⊢
      by_cases h2 : w = "times"
      · subst h2
        simp only [if_true, beq_self_eq_true, mul_int, fdiv_int] at go ⊢
        refine ⟨mulOk_l (by omega), mulOk_l (by omega), ⟨by decide, by decide⟩, mulOk_r (by decide), ?_⟩
        open_k
        exact go
      · have b2 : (w == ("times" : Str)) = false := by simp [h2]
        simp only [b2, Bool.false_eq_true, if_false, if_neg h2] at go ⊢
        by_cases h3 : w = "row"
        · subst h3
          simp only [if_true, beq_self_eq_true] at go ⊢
          exact go
        · have b3 : (w == ("row" : Str)) = false := by simp [h3]
          simp only [b3, Bool.false_eq_true, if_false, if_neg h3, decide_eq_true_eq] at go ⊢
          by_cases h4 : v < p
          · rw [if_pos h4] at go ⊢
            try open_k
            exact go
          · rw [if_neg h4] at go ⊢
            try open_k
            exact go
theorem due_ok (k : Nat) {w : Str} {vs : List Int} (hv : ∀ v ∈ vs, 0 ≤ v ∧ v < 9973) : Fs (k + 1) 22 [.str w, .lst (vs.map D.int)] S = .ok (.int (due w vs)) S := by
  apply of_sat
  rw [Fs_law_due, sat_run]
  refine ⟨rfl, ?_⟩
  unfold m_law_due
  open_k
  have e : ∀ S, intD [.bl (w == ("times" : Str))] S = .ok (.int (if w = "times" then 1 else 0)) S := fun S => by
    by_cases h : w = "times" <;> simp [intD, h]
  rw [e, sat_ok]
  try open_k
  refine due_loop vs _ _ (by split <;> decide) hv fun a4 => ?_
  open_k
  exact ⟨rfl, trivial⟩
theorem fold_plus : ∀ (vs : List Int) (p : Int), 0 ≤ p ∧ p < 9973 → (∀ v ∈ vs, 0 ≤ v ∧ v < 9973) → vs.foldl (dueF "plus") p = (p + vs.sum) % 9973
  | [], p, hp, _ => by simp only [List.foldl_nil, List.sum_nil]; omega
  | v :: vs, p, hp, hv => by
    have hv0 := hv v (List.mem_cons_self ..)
    rw [List.foldl_cons, fold_plus vs _ (due_rg hp hv0) fun u hu => hv u (List.mem_cons_of_mem _ hu), List.sum_cons]
    unfold dueF
    rw [if_pos rfl]
    split <;> omega
theorem fold_times : ∀ (vs : List Int) (p : Int), vs.foldl (dueF "times") p = vs.foldl (fun a b => a * b % 9973) p
  | [], p => rfl
  | v :: vs, p => by
    rw [List.foldl_cons, List.foldl_cons, fold_times vs]
    congr 1
    have h3 := Int.emod_def (p * v) 9973
    have n1 : ¬ (("times" : Str) = "plus") := by decide +kernel
    unfold dueF
    rw [if_neg n1, if_pos rfl]
    omega
theorem fold_row : ∀ (vs : List Int) (p : Int), vs.foldl (dueF "row") p = vs.getLastD p
  | [], p => rfl
  | v :: vs, p => by
    have n1 : ¬ (("row" : Str) = "plus") := by decide +kernel
    have n2 : ¬ (("row" : Str) = "times") := by decide +kernel
    have : dueF "row" p v = v := by unfold dueF; rw [if_neg n1, if_neg n2, if_pos rfl]
    rw [List.foldl_cons, this, fold_row vs v, List.getLastD_cons]
theorem fold_most : ∀ (vs : List Int) (p : Int), vs.foldl (dueF "most") p = vs.foldl (fun m x => if x > m then x else m) p
  | [], p => rfl
  | v :: vs, p => by
    have n1 : ¬ (("most" : Str) = "plus") := by decide +kernel
    have n2 : ¬ (("most" : Str) = "times") := by decide +kernel
    have n3 : ¬ (("most" : Str) = "row") := by decide +kernel
    rw [List.foldl_cons, List.foldl_cons, fold_most vs]
    congr 1
    unfold dueF
    rw [if_neg n1, if_neg n2, if_neg n3]
    split <;> split <;> omega
end K21
set_option Elab.async false
set_option linter.all false
set_option maxRecDepth 100000
set_option maxHeartbeats 4000000
/-! K21S: words of many parts. -/
namespace K21
open PySem L2 L3
local macro_rules | `(tactic| open_k) => `(tactic| simp only [ssat_seq, ssat_asg, ssat_sRet, ssat_sExpr, ssat_if, ssat_skip, ssat_par, ssat_nx, ssat_ret, ssat_for, sat_e2, sat_e1, sat_eN, sat_aCons, sat_aNil, sat_eVar, sat_eK, sat_tOfE, sat_tTruth, sat_tNot, sat_tAnd, sat_tOr, sat_eIf, sat_eBM, sat_iSeq, sat_iArgs, sat_eAnd, sat_eOr, sat_eNot, sat_eChain, sat_eSl, sat_pNo, sat_pYes, sat_eLc, sat_eKw, sat_mkTup, sat_mkLst, sat_mkObj, sat_ok, callK_eq, List.append_nil, List.map_cons, List.map_nil, List.length_cons, List.length_nil, List.replicate, List.getElem?_cons_succ, List.getElem?_cons_zero, List.cons_append, List.nil_append, List.set_cons_succ, List.set_cons_zero, gName_eq, gTup_tup, gNames_cons, gNames_nil, Nat.zero_add, Nat.reduceAdd, Nat.reduceSub, sz0, sz1, sz2, sz3, sz4, sz5, sz6, sz7, sz8, sz10, sz17, true_and, add_int, sub_int, neg_int, lt_int, le_int, gt_int, ge_int, eq_int, ne_int, blD_bl, truthD_bl, itemsD_lst, itemsD_tup, wipeD, eq_strs, ne_strs, L3.sl_tup, L3.sl_lst, if_true, if_false, Bool.false_eq_true, sat_range1, sat_range2, tuple_lst, tuple_tup, len_tup, len_lst, len_scr, D.int.injEq, exists_eq_left', mt_str, sat_eMeth, sat_mkIns, ssat_fldD, gSeq_lst, ssat_gSub, sat_eDc])
variable {S : Store} {n : Nat}
/-- the answers of runs have their repr -/
theorem wts_ints : ∀ o : List Int, wts (o.map D.int) = 100 * o.length
  | [] => rfl
  | x :: o => by simp only [List.map_cons, wts, wt, wts_ints o, List.length_cons]; omega
theorem dps_ints : ∀ o : List Int, dps (o.map D.int) = 0
  | [] => rfl
  | x :: o => by simp only [List.map_cons, dps, dp, dps_ints o]; rfl
theorem rep_ok {v : Int} {o : List Int} (hv : 0 ≤ v ∧ v < 9973) (ho : o.length ≤ 100) (hr : ∀ x ∈ o, 0 ≤ x ∧ x < 9973) : ∃ z : Str, ∀ S, reprD [.tup [.int v, .tup (o.map D.int)]] S = .ok (.str z) S := by
  have u : U 200 (.tup [.int v, .tup (o.map D.int)]) := .tup (by simp) fun x hx => by
    simp only [List.mem_cons, List.not_mem_nil, or_false] at hx
    rcases hx with rfl | rfl
    · exact .int (by omega) (by omega)
    · refine .tup (by rw [List.length_map]; omega) fun y hy => ?_
      obtain ⟨i, hi, rfl⟩ := List.mem_map.mp hy
      have := hr i hi
      exact .int (by omega) (by omega)
  obtain ⟨z, hz, _⟩ := repr_ok u (by simp only [wt, wts, wts_ints]; omega) (by simp only [dp, dps, dps_ints]; decide)
  exact ⟨z, hz⟩
def NMS : List Str := ["a", "b", "c", "d", "e", "f"]
def nmT (w : Str) (k : Nat) : Tm := .nd w "" ((NMS.take k).map Tm.nam)
def numT (w : Str) (vs : List Int) : Tm := .nd w "" (vs.map Tm.num)
def many (w : Str) : Bool := w == "plus" || w == "times" || w == "most" || w == "row"
theorem evs_num : ∀ (vs : List Int) (e : WEnv), (∀ v ∈ vs, 0 ≤ v ∧ v < 9973) → evs (ev 1) (vs.map Tm.num) e = some (vs, [])
  | [], e, _ => rfl
  | v :: vs, e, h => by
    have h0 := h v (List.mem_cons_self ..)
    simp only [List.map_cons, evs, ev, if_pos h0, evs_num vs e fun u hu => h u (List.mem_cons_of_mem _ hu), List.append_nil]
theorem evs_nam : ∀ (ns : List Str) (vs : List Int) (e : WEnv), All2 (fun x v => e x = some v) ns vs → evs (ev 1) (ns.map Tm.nam) e = some (vs, [])
  | [], _, e, h => by cases h; rfl
  | x :: ns, _, e, h => by
    cases h with
    | cons p q => simp only [List.map_cons, evs, ev, p, Option.map_some, evs_nam ns _ e q, List.append_nil]
/-- a word of many parts: worth what the law reckons -/
theorem ev_many {w : Str} {ps : List Tm} {vs : List Int} {e : WEnv} (hw : w = "plus" ∨ w = "times" ∨ (w = "most" ∧ vs ≠ []) ∨ w = "row") (hp : ps.length ≤ 100) (hv : ∀ v ∈ vs, 0 ≤ v ∧ v < 9973) (h : evs (ev 1) ps e = some (vs, [])) :
    ev 2 (.nd w "" ps) e = some (due w vs, []) := by
  have hp' : ¬ 100 < ps.length := by omega
  have n1 : ¬ (("times" : Str) = "plus") := by decide +kernel
  have n2 : ¬ (("most" : Str) = "plus") := by decide +kernel
  have n3 : ¬ (("most" : Str) = "times") := by decide +kernel
  have n4 : ¬ (("row" : Str) = "plus") := by decide +kernel
  have n5 : ¬ (("row" : Str) = "times") := by decide +kernel
  have n6 : ¬ (("row" : Str) = "most") := by decide +kernel
  have n7 : ¬ (("row" : Str) = "less") := by decide +kernel
  have n8 : ¬ (("row" : Str) = "below") := by decide +kernel
  rcases hw with rfl | rfl | ⟨rfl, hne⟩ | rfl
  · simp only [ev, if_neg hp', if_true, h, Option.map_some, due, if_neg (fun z : ("plus" : Str) = "times" => n1 z.symm)]
    rw [fold_plus vs 0 (by decide) hv, Int.zero_add]
  · simp only [ev, if_neg hp', if_true, h, Option.map_some, due, if_neg n1]
    rw [fold_times]
  · simp only [ev, if_neg hp', if_true, h, Option.map_some, due, if_neg n2, if_neg n3]
    rw [fold_most]
    cases vs with
    | nil => exact absurd rfl hne
    | cons v vs =>
      have h0 := hv v (List.mem_cons_self ..)
      simp only [maxI, Option.map_some, List.foldl_cons]
      congr 3
      split <;> omega
  · simp only [ev, if_neg hp', if_true, h, Option.map_some, due, if_neg n4, if_neg n5, if_neg n6, if_neg n7, if_neg n8]
    rw [fold_row]
theorem n_ba : (("b" : Str) = "a") = False := eq_false (by decide +kernel)
theorem n_ca : (("c" : Str) = "a") = False := eq_false (by decide +kernel)
theorem n_cb : (("c" : Str) = "b") = False := eq_false (by decide +kernel)
theorem n_da : (("d" : Str) = "a") = False := eq_false (by decide +kernel)
theorem n_db : (("d" : Str) = "b") = False := eq_false (by decide +kernel)
theorem n_dc : (("d" : Str) = "c") = False := eq_false (by decide +kernel)
theorem n_ea : (("e" : Str) = "a") = False := eq_false (by decide +kernel)
theorem n_eb : (("e" : Str) = "b") = False := eq_false (by decide +kernel)
theorem n_ec : (("e" : Str) = "c") = False := eq_false (by decide +kernel)
theorem n_ed : (("e" : Str) = "d") = False := eq_false (by decide +kernel)
theorem n_fa : (("f" : Str) = "a") = False := eq_false (by decide +kernel)
theorem n_fb : (("f" : Str) = "b") = False := eq_false (by decide +kernel)
theorem n_fc : (("f" : Str) = "c") = False := eq_false (by decide +kernel)
theorem n_fd : (("f" : Str) = "d") = False := eq_false (by decide +kernel)
theorem n_fe : (("f" : Str) = "e") = False := eq_false (by decide +kernel)
theorem env_nam : ∀ (vs : List Int), vs.length ≤ 6 → All2 (fun x v => envOf ((NMS.take vs.length).zip vs) x = some v) (NMS.take vs.length) vs
  | [], _ => .nil
  | [a], _ => by
    show All2 _ [_] _
    refine .cons ?_ .nil <;> simp [envOf, NMS, upE, n_ba, n_ca, n_cb, n_da, n_db, n_dc, n_ea, n_eb, n_ec, n_ed, n_fa, n_fb, n_fc, n_fd, n_fe]
  | [a, b], _ => by
    show All2 _ [_, _] _
    refine .cons ?_ (.cons ?_ .nil) <;> simp [envOf, NMS, upE, n_ba, n_ca, n_cb, n_da, n_db, n_dc, n_ea, n_eb, n_ec, n_ed, n_fa, n_fb, n_fc, n_fd, n_fe]
  | [a, b, c], _ => by
    show All2 _ [_, _, _] _
    refine .cons ?_ (.cons ?_ (.cons ?_ .nil)) <;> simp [envOf, NMS, upE, n_ba, n_ca, n_cb, n_da, n_db, n_dc, n_ea, n_eb, n_ec, n_ed, n_fa, n_fb, n_fc, n_fd, n_fe]
  | [a, b, c, d], _ => by
    show All2 _ [_, _, _, _] _
    refine .cons ?_ (.cons ?_ (.cons ?_ (.cons ?_ .nil))) <;> simp [envOf, NMS, upE, n_ba, n_ca, n_cb, n_da, n_db, n_dc, n_ea, n_eb, n_ec, n_ed, n_fa, n_fb, n_fc, n_fd, n_fe]
  | [a, b, c, d, e], _ => by
    show All2 _ [_, _, _, _, _] _
    refine .cons ?_ (.cons ?_ (.cons ?_ (.cons ?_ (.cons ?_ .nil)))) <;> simp [envOf, NMS, upE, n_ba, n_ca, n_cb, n_da, n_db, n_dc, n_ea, n_eb, n_ec, n_ed, n_fa, n_fb, n_fc, n_fd, n_fe]
  | [a, b, c, d, e, f], _ => by
    show All2 _ [_, _, _, _, _, _] _
    refine .cons ?_ (.cons ?_ (.cons ?_ (.cons ?_ (.cons ?_ (.cons ?_ .nil))))) <;> simp [envOf, NMS, upE, n_ba, n_ca, n_cb, n_da, n_db, n_dc, n_ea, n_eb, n_ec, n_ed, n_fa, n_fb, n_fc, n_fd, n_fe]
  | _ :: _ :: _ :: _ :: _ :: _ :: _ :: _, h => by simp at h
theorem pair_ins : ∀ (ns : List Str) (vs : List Int), pairL (ns.map D.str) (vs.map D.int) = insD (ns.zip vs)
  | [], vs => by simp [pairL, insD]
  | n :: ns, [] => by simp [pairL, insD]
  | n :: ns, v :: vs => by
    show D.tup [.str n, .int v] :: pairL (ns.map D.str) (vs.map D.int) = _
    rw [pair_ins ns vs]; rfl
theorem ds_nam : ∀ ns : List Str, Tm.ds (ns.map Tm.nam) = (ns.map D.str).map fun d => .tup [.str "name", d, .tup []]
  | [] => rfl
  | n :: ns => by simp only [List.map_cons, Tm.ds, Tm.d, ds_nam ns]
theorem ds_num : ∀ vs : List Int, Tm.ds (vs.map Tm.num) = (vs.map D.int).map fun d => .tup [.str "num", d, .tup []]
  | [] => rfl
  | n :: ns => by simp only [List.map_cons, Tm.ds, Tm.d, ds_num ns]
end K21
set_option Elab.async false
set_option linter.all false
set_option maxRecDepth 100000
set_option maxHeartbeats 4000000
/-! K21T: the law of many parts. -/
namespace K21
open PySem L2 L3
local macro_rules | `(tactic| open_k) => `(tactic| simp only [ssat_seq, ssat_asg, ssat_sRet, ssat_sExpr, ssat_if, ssat_skip, ssat_par, ssat_nx, ssat_ret, ssat_for, sat_e2, sat_e1, sat_eN, sat_aCons, sat_aNil, sat_eVar, sat_eK, sat_tOfE, sat_tTruth, sat_tNot, sat_tAnd, sat_tOr, sat_eIf, sat_eBM, sat_iSeq, sat_iArgs, sat_eAnd, sat_eOr, sat_eNot, sat_eChain, sat_eSl, sat_pNo, sat_pYes, sat_eLc, sat_eKw, sat_mkTup, sat_mkLst, sat_mkObj, sat_ok, callK_eq, List.append_nil, List.map_cons, List.map_nil, List.length_cons, List.length_nil, List.replicate, List.getElem?_cons_succ, List.getElem?_cons_zero, List.cons_append, List.nil_append, List.set_cons_succ, List.set_cons_zero, gName_eq, gTup_tup, gNames_cons, gNames_nil, Nat.zero_add, Nat.reduceAdd, Nat.reduceSub, sz0, sz1, sz2, sz3, sz4, sz5, sz6, sz7, sz8, sz10, sz17, true_and, add_int, sub_int, neg_int, lt_int, le_int, gt_int, ge_int, eq_int, ne_int, blD_bl, truthD_bl, itemsD_lst, itemsD_tup, wipeD, eq_strs, ne_strs, L3.sl_tup, L3.sl_lst, if_true, if_false, Bool.false_eq_true, sat_range1, sat_range2, tuple_lst, tuple_tup, len_tup, len_lst, len_scr, D.int.injEq, exists_eq_left', mt_str, sat_eMeth, sat_mkIns, ssat_fldD, gSeq_lst, ssat_gSub, sat_eDc])
variable {S : Store} {n : Nat}
theorem all2_ints {α : Type} {R : Int → Prop} : ∀ {xs : List α} {ys : List D}, All2 (fun _ y => ∃ i : Int, y = .int i ∧ R i) xs ys → ∃ vs : List Int, ys = vs.map D.int ∧ vs.length = xs.length ∧ ∀ v ∈ vs, R v
  | _, _, .nil => ⟨[], rfl, rfl, fun v h => by cases h⟩
  | _, _, .cons p q => by
    obtain ⟨i, rfl, hi⟩ := p
    obtain ⟨vs, rfl, h1, h2⟩ := all2_ints q
    exact ⟨i :: vs, rfl, by simp [h1], fun v hv => by
      rcases List.mem_cons.mp hv with rfl | hv
      · exact hi
      · exact h2 v hv⟩
theorem cut_names (k : Nat) (h : k ≤ 6) : cutL (NMS.map D.str) none (some (k : Int)) = (NMS.take k).map D.str := by
  match k, h with
  | 0, _ => rfl
  | 1, _ => rfl
  | 2, _ => rfl
  | 3, _ => rfl
  | 4, _ => rfl
  | 5, _ => rfl
  | 6, _ => rfl
theorem many_right (j : Nat) (hS : Hand n S) : (Fs (j + 9) 23 [.obj n] S).sat fun d S' => d = .bl true ∧ FrH n S S' := by
  rw [show j + 9 = j + 8 + 1 from rfl, Fs_law_many_right, sat_run]
  refine ⟨rfl, ?_⟩
  unfold m_law_many_right
  refine seq_rule (fun e S1 => FrH n S S1) ?_ (fun e S1 fr => by open_k; exact fr)
  simp only [ssat_for, sat_iSeq, sat_eN, sat_aCons, sat_aNil, sat_eK, sat_mkTup, sat_ok, itemsD_tup]
  refine ⟨small (by simp), ?_⟩
  refine for_n (fun e S1 => (∃ a1 a2 a3 a4 a5 a6 a7 a8 a9 a10 : Option D, e = [some (.obj n), a1, a2, a3, a4, a5, a6, a7, a8, a9, a10]) ∧ FrH n S S1) ⟨⟨_, _, _, _, _, _, _, _, _, _, rfl⟩, .refl hS⟩ ?_ (fun e S1 h => h.2)
  rintro x hx e S1 ⟨⟨a1, a2, a3, a4, a5, a6, a7, a8, a9, a10, rfl⟩, fr⟩
  obtain ⟨w, rfl, hw⟩ : ∃ w : Str, x = .str w ∧ (w = "plus" ∨ w = "times" ∨ w = "most" ∨ w = "row") := by
    simp only [List.mem_cons, List.not_mem_nil, or_false] at hx
    rcases hx with rfl | rfl | rfl | rfl
    · exact ⟨_, rfl, .inl rfl⟩
    · exact ⟨_, rfl, .inr (.inl rfl)⟩
    · exact ⟨_, rfl, .inr (.inr (.inl rfl))⟩
    · exact ⟨_, rfl, .inr (.inr (.inr rfl))⟩
  simp only [List.set_cons_succ, List.set_cons_zero]
  refine seq_rule (fun e S2 => ∃ mm : Nat, e = [some (.obj n), some (.str w), some (.int mm), a3, a4, a5, a6, a7, a8, a9, a10] ∧ mm ≤ 6 ∧ (w = "row" ∨ 1 ≤ mm) ∧ FrH n S S2) ?_ ?_
  · open_k
    by_cases h : w = "row"
    · subst h
      simp only [beq_self_eq_true, if_true]
      refine sat_mono (tk (j + 7) n S1 7 fr.hd (by decide) (by decide)) fun d S2 ⟨⟨i, e1, i0, i1⟩, fr2⟩ => ?_
      subst e1
      try open_k
      exact ⟨i.toNat, by rw [Int.toNat_of_nonneg i0], by omega, .inl trivial, fr.trans fr2⟩
    · have b1 : (w == ("row" : Str)) = false := by simp [h]
      simp only [b1, Bool.false_eq_true, if_false]
      refine sat_mono (tk (j + 7) n S1 6 fr.hd (by decide) (by decide)) fun d S2 ⟨⟨i, e1, i0, i1⟩, fr2⟩ => ?_
      subst e1
      open_k
      exact ⟨(1 + i).toNat, by rw [Int.toNat_of_nonneg (by omega)], by omega, .inr (by omega), fr.trans fr2⟩
  rintro e S2 ⟨mm, rfl, hm6, hm1, fr2⟩
  refine seq_rule (fun e S3 => ∃ vs : List Int, (∃ a4 : Option D, e = [some (.obj n), some (.str w), some (.int mm), some (.lst (vs.map D.int)), a4, a5, a6, a7, a8, a9, a10]) ∧ vs.length = mm ∧ (∀ v ∈ vs, 0 ≤ v ∧ v < 9973) ∧ FrH n S S3) ?_ ?_
  · open_k
    refine ⟨by simp [okRng]; omega, small (by simp; omega), ?_⟩
    refine lc_rule (FrH n S) (fun _ y => ∃ i : Int, y = .int i ∧ 0 ≤ i ∧ i < 9973) fr2 (fun x hx S3 fr3 => ?_) fun ys S3 fr3 h => ?_
    · open_k
      exact sat_mono (nb (j + 5) fr3.hd) fun d S4 ⟨⟨i, e1, h1⟩, fr4⟩ => ⟨⟨i, e1, h1⟩, fr3.trans fr4⟩
    · obtain ⟨vs, rfl, h1, h2⟩ := all2_ints h
      exact ⟨vs, ⟨_, rfl⟩, by rw [h1]; simp, h2, fr3⟩
  rintro e S3 ⟨vs, ⟨a4', rfl⟩, hlen, hv, fr3⟩
  have hl6 : vs.length ≤ 6 := by omega
  have ntl : (NMS.take vs.length).length = vs.length := by rw [List.length_take]; exact Nat.min_eq_left hl6
  have il : vs ≠ [] ∨ w = "row" := by
    rcases hm1 with h | h
    · exact .inr h
    · exact .inl fun z => by rw [z] at hlen; simp at hlen; omega
  have hw' : w = "plus" ∨ w = "times" ∨ (w = "most" ∧ vs ≠ []) ∨ w = "row" := by
    rcases hw with h | h | h | h
    · exact .inl h
    · exact .inr (.inl h)
    · refine .inr (.inr (.inl ⟨h, ?_⟩))
      rcases il with i | i
      · exact i
      · rw [h] at i; exact absurd i (by decide +kernel)
    · exact .inr (.inr (.inr h))
  have e1 := ev_many (e := envOf ((NMS.take vs.length).zip vs)) (ps := (NMS.take vs.length).map Tm.nam) hw' (by rw [List.length_map, ntl]; omega) hv (evs_nam _ _ _ (env_nam vs hl6))
  have e2 := ev_many (e := envOf []) (ps := vs.map Tm.num) hw' (by rw [List.length_map]; omega) hv (evs_num _ _ hv)
  refine seq_rule (fun e S4 => (∃ a4 : Option D, e = [some (.obj n), some (.str w), some (.int mm), some (.lst (vs.map D.int)), a4, some (.lst ((NMS.take vs.length).map D.str)), a6, a7, a8, a9, a10]) ∧ S4 = S3) ?_ ?_
  · open_k
    have : cutL [D.str "a", .str "b", .str "c", .str "d", .str "e", .str "f"] none (some ((vs.map D.int).length : Int)) = (NMS.take vs.length).map D.str := by
      rw [List.length_map]; exact cut_names vs.length hl6
    rw [this]
    exact ⟨⟨_, rfl⟩, trivial⟩
  rintro e S4 ⟨⟨a4, rfl⟩, rfl⟩
  refine seq_rule (fun e S5 => (∃ a7 : Option D, e = [some (.obj n), some (.str w), some (.int mm), some (.lst (vs.map D.int)), a4, some (.lst ((NMS.take vs.length).map D.str)), some (Tm.nd w "" ((NMS.take vs.length).map Tm.nam)).d, a7, a8, a9, a10]) ∧ S5 = S4) ?_ ?_
  · open_k
    refine ⟨small (by rw [List.length_map, ntl]; omega), ?_⟩
    refine lc_map (fun d => .tup [.str "name", d, .tup []]) (fun x hx => ?_) ?_
    · open_k
    · open_k
      rw [← ds_nam]
      exact ⟨⟨_, rfl⟩, trivial⟩
  rintro e S5 ⟨⟨a7, rfl⟩, rfl⟩
  refine seq_rule (fun e S6 => (∃ a7 a9 : Option D, e = [some (.obj n), some (.str w), some (.int mm), some (.lst (vs.map D.int)), a4, some (.lst ((NMS.take vs.length).map D.str)), some (Tm.nd w "" ((NMS.take vs.length).map Tm.nam)).d, a7, some (Tm.nd w "" (vs.map Tm.num)).d, a9, a10]) ∧ S6 = S5) ?_ ?_
  · open_k
    refine ⟨small (by rw [List.length_map]; omega), ?_⟩
    refine lc_map (fun d => .tup [.str "num", d, .tup []]) (fun x hx => ?_) ?_
    · open_k
    · open_k
      rw [← ds_num]
      exact ⟨⟨_, _, rfl⟩, trivial⟩
  rintro e S6 ⟨⟨a7, a9, rfl⟩, rfl⟩
  have hdr : 0 ≤ due w vs ∧ due w vs < 9973 := by
    unfold due
    have : ∀ (vs : List Int) (p : Int), 0 ≤ p ∧ p < 9973 → (∀ v ∈ vs, 0 ≤ v ∧ v < 9973) → 0 ≤ vs.foldl (dueF w) p ∧ vs.foldl (dueF w) p < 9973 := by
      intro vs
      induction vs with
      | nil => exact fun p h _ => h
      | cons v vs ih => exact fun p h hv => ih _ (due_rg h (hv v (List.mem_cons_self ..))) fun u hu => hv u (List.mem_cons_of_mem _ hu)
    exact this vs _ (by split <;> decide) hv
  obtain ⟨z, hz⟩ := rep_ok (o := []) hdr (by simp) (by simp)
  refine seq_rule (fun e S7 => e = [some (.obj n), some (.str w), some (.int mm), some (.lst (vs.map D.int)), a4, some (.lst ((NMS.take vs.length).map D.str)), some (Tm.nd w "" ((NMS.take vs.length).map Tm.nam)).d, a7, some (Tm.nd w "" (vs.map Tm.num)).d, a9, some (.str z)] ∧ S7 = S6) ?_ ?_
  · open_k
    rw [show j + 8 = j + 7 + 1 from rfl, due_ok (j + 7) hv, sat_ok]
    try open_k
    rw [show (D.tup []) = .tup (List.map D.int []) from rfl, hz, sat_ok]
    open_k
  rintro e S7 ⟨rfl, rfl⟩
  have zt : zipT [.lst ((NMS.take vs.length).map D.str), .lst (vs.map D.int)] = fun S => .ok (.tup (insD ((NMS.take vs.length).zip vs))) S := by
    funext S
    simp only [zipT, lsAt, List.length_map, ntl, if_true, pair_ins]
  have zv : ∀ p ∈ (NMS.take vs.length).zip vs, 0 ≤ p.2 ∧ p.2 < 9973 := fun p hp => hv _ (List.of_mem_zip hp).2
  open_k
  rw [zt]
  open_k
  refine sat_mono (run_ok (d := 2) (k := j + 6) (by omega) (by decide) e1 (by simp) (by rw [List.length_zip, ntl]; omega) zv) fun r S8 ⟨er, x8⟩ => ?_
  subst er
  rw [hz, sat_ok]
  open_k
  simp only [beq_self_eq_true, Bool.not_true, Bool.false_eq_true, if_false]
  have r2 := run_ok (S := S8) (ins := []) (d := 2) (k := j + 6) (by omega) (by decide) e2 (by simp) (by simp) (by simp)
  refine sat_mono r2 fun r S9 ⟨er, x9⟩ => ?_
  subst er
  rw [hz, sat_ok]
  open_k
  simp only [beq_self_eq_true, Bool.not_true, Bool.false_eq_true, if_false, ssat_skip]
  have f8 := x8.hand fr3.hd
  exact ⟨⟨_, _, _, _, _, _, _, _, _, _, rfl⟩, (fr3.trans f8).trans (x9.hand f8.hd)⟩
end K21
set_option Elab.async false
set_option linter.all false
set_option maxRecDepth 100000
set_option maxHeartbeats 4000000
/-! K21U: the law of pairs. -/
namespace K21
open PySem L2 L3
local macro_rules | `(tactic| open_k) => `(tactic| simp only [ssat_seq, ssat_asg, ssat_sRet, ssat_sExpr, ssat_if, ssat_skip, ssat_par, ssat_nx, ssat_ret, ssat_for, sat_e2, sat_e1, sat_eN, sat_aCons, sat_aNil, sat_eVar, sat_eK, sat_tOfE, sat_tTruth, sat_tNot, sat_tAnd, sat_tOr, sat_eIf, sat_eBM, sat_iSeq, sat_iArgs, sat_eAnd, sat_eOr, sat_eNot, sat_eChain, sat_eSl, sat_pNo, sat_pYes, sat_eLc, sat_eKw, sat_mkTup, sat_mkLst, sat_mkObj, sat_ok, callK_eq, List.append_nil, List.map_cons, List.map_nil, List.length_cons, List.length_nil, List.replicate, List.getElem?_cons_succ, List.getElem?_cons_zero, List.cons_append, List.nil_append, List.set_cons_succ, List.set_cons_zero, gName_eq, gTup_tup, gNames_cons, gNames_nil, Nat.zero_add, Nat.reduceAdd, Nat.reduceSub, sz0, sz1, sz2, sz3, sz4, sz5, sz6, sz7, sz8, sz10, sz17, true_and, add_int, sub_int, neg_int, lt_int, le_int, gt_int, ge_int, eq_int, ne_int, blD_bl, truthD_bl, itemsD_lst, itemsD_tup, wipeD, eq_strs, ne_strs, L3.sl_tup, L3.sl_lst, if_true, if_false, Bool.false_eq_true, sat_range1, sat_range2, tuple_lst, tuple_tup, len_tup, len_lst, len_scr, D.int.injEq, exists_eq_left', mt_str, sat_eMeth, sat_mkIns, ssat_fldD, gSeq_lst, ssat_gSub, sat_eDc])
variable {S : Store} {n : Nat}
def stands (b : Int) : Ins := [("b", b), ("unasked", 3)]
theorem env_b {b : Int} : envOf (stands b) "b" = some b := by
  have h : (("unasked" : Str) = "b") = False := eq_false (by decide +kernel)
  simp [envOf, stands, upE, h]
def mAsk (F : Nat → FN) : ED := e2 eqD (eN reprD (aCons (eN (callK (F 17) []) (aCons (eVar 11) (aCons (eVar 7) (aNil)))) (aNil))) (eN reprD (aCons (eN mkTup (aCons (eVar 10) (aCons (eN mkTup (aNil)) (aNil)))) (aNil)))
theorem ask_ok {j d : Nat} {t : Tm} {v b : Int} {a0 a1 a2 a3 a4 a5 a6 a8 a9 : Option D} (hd : 3 * d ≤ j + 6) (hd2 : d ≤ 100) (he : ev d t (envOf (stands b)) = some (v, [])) (hv : 0 ≤ v ∧ v < 9973) (hb : 0 ≤ b ∧ b < 9973) :
    (mAsk (Fs (j + 8)) [a0, a1, a2, a3, a4, a5, a6, some (.tup (insD (stands b))), a8, a9, some (.int v), some t.d] S).sat fun r S' => r = .bl true ∧ Ext S S' := by
  obtain ⟨z, hz⟩ := rep_ok (o := []) hv (by simp) (by simp)
  unfold mAsk
  open_k
  refine sat_mono (run_ok (d := d) (k := j + 6) hd hd2 he (by simp) (by simp [stands]) (by simp [stands]; omega)) fun r S8 ⟨er, x8⟩ => ?_
  subst er
  rw [hz, sat_ok]
  try open_k
  rw [show (D.tup []) = .tup (List.map D.int []) from rfl, hz, sat_ok]
  open_k
  simp only [beq_self_eq_true]
  exact ⟨trivial, x8⟩
theorem d_lp : (("less" : Str) = "plus") = False := eq_false (by decide +kernel)
theorem d_lt : (("less" : Str) = "times") = False := eq_false (by decide +kernel)
theorem d_lm : (("less" : Str) = "most") = False := eq_false (by decide +kernel)
theorem ev_less {a b : Int} (ha : 0 ≤ a ∧ a < 9973) : ev 2 (.nd "less" "" [.num a, .nam "b"]) (envOf (stands b)) = some ((a - b) % 9973, []) := by
  simp [ev, evs, ha, env_b, d_lp, d_lt, d_lm]
theorem w_below_plus : (("below" : Str) = "plus") = False := eq_false (by decide +kernel)
theorem w_below_times : (("below" : Str) = "times") = False := eq_false (by decide +kernel)
theorem w_below_most : (("below" : Str) = "most") = False := eq_false (by decide +kernel)
theorem w_below_less : (("below" : Str) = "less") = False := eq_false (by decide +kernel)
theorem w_row_plus : (("row" : Str) = "plus") = False := eq_false (by decide +kernel)
theorem w_row_times : (("row" : Str) = "times") = False := eq_false (by decide +kernel)
theorem w_row_most : (("row" : Str) = "most") = False := eq_false (by decide +kernel)
theorem w_row_less : (("row" : Str) = "less") = False := eq_false (by decide +kernel)
theorem w_row_below : (("row" : Str) = "below") = False := eq_false (by decide +kernel)
theorem w_let_plus : (("let" : Str) = "plus") = False := eq_false (by decide +kernel)
theorem w_let_times : (("let" : Str) = "times") = False := eq_false (by decide +kernel)
theorem w_let_most : (("let" : Str) = "most") = False := eq_false (by decide +kernel)
theorem w_let_less : (("let" : Str) = "less") = False := eq_false (by decide +kernel)
theorem w_let_below : (("let" : Str) = "below") = False := eq_false (by decide +kernel)
theorem w_let_row : (("let" : Str) = "row") = False := eq_false (by decide +kernel)
theorem w_if_plus : (("if" : Str) = "plus") = False := eq_false (by decide +kernel)
theorem w_if_times : (("if" : Str) = "times") = False := eq_false (by decide +kernel)
theorem w_if_most : (("if" : Str) = "most") = False := eq_false (by decide +kernel)
theorem w_if_less : (("if" : Str) = "less") = False := eq_false (by decide +kernel)
theorem w_if_below : (("if" : Str) = "below") = False := eq_false (by decide +kernel)
theorem w_if_row : (("if" : Str) = "row") = False := eq_false (by decide +kernel)
theorem w_xb : (("x" : Str) = "b") = False := eq_false (by decide +kernel)
theorem w_bx : (("b" : Str) = "x") = False := eq_false (by decide +kernel)
theorem ev_below {a b : Int} (ha : 0 ≤ a ∧ a < 9973) : ev 2 (.nd "below" "" [.num a, .nam "b"]) (envOf (stands b)) = some (if a < b then 1 else 0, []) := by
  simp [ev, evs, ha, env_b, w_below_plus, w_below_times, w_below_most, w_below_less, w_row_plus, w_row_times, w_row_most, w_row_less, w_row_below, w_let_plus, w_let_times, w_let_most, w_let_less, w_let_below, w_let_row, w_if_plus, w_if_times, w_if_most, w_if_less, w_if_below, w_if_row]
theorem ev_if {a b c : Int} (ha : 0 ≤ a ∧ a < 9973) (hc : 0 ≤ c ∧ c < 9973) : ev 2 (.nd "if" "" [.nam "b", .num a, .num c]) (envOf (stands b)) = some (if b ≠ 0 then a else c, []) := by
  by_cases h : b = 0 <;> simp [ev, ha, hc, env_b, h, w_below_plus, w_below_times, w_below_most, w_below_less, w_row_plus, w_row_times, w_row_most, w_row_less, w_row_below, w_let_plus, w_let_times, w_let_most, w_let_less, w_let_below, w_let_row, w_if_plus, w_if_times, w_if_most, w_if_less, w_if_below, w_if_row]
theorem ev_letb {a b : Int} (ha : 0 ≤ a ∧ a < 9973) : ev 3 (.nd "let" "b" [.num a, .nd "plus" "" [.nam "b"]]) (envOf (stands b)) = some (a % 9973, []) := by
  simp [ev, evs, ha, upE, w_below_plus, w_below_times, w_below_most, w_below_less, w_row_plus, w_row_times, w_row_most, w_row_less, w_row_below, w_let_plus, w_let_times, w_let_most, w_let_less, w_let_below, w_let_row, w_if_plus, w_if_times, w_if_most, w_if_less, w_if_below, w_if_row]
theorem ev_letx {b c : Int} (hc : 0 ≤ c ∧ c < 9973) : ev 3 (.nd "let" "x" [.nam "b", .nd "row" "" [.num c, .nam "x"]]) (envOf (stands b)) = some (b, []) := by
  simp [ev, evs, hc, env_b, upE, w_below_plus, w_below_times, w_below_most, w_below_less, w_row_plus, w_row_times, w_row_most, w_row_less, w_row_below, w_let_plus, w_let_times, w_let_most, w_let_less, w_let_below, w_let_row, w_if_plus, w_if_times, w_if_most, w_if_less, w_if_below, w_if_row]
end K21
set_option Elab.async false
set_option linter.all false
set_option maxRecDepth 100000
set_option maxHeartbeats 4000000
/-! K21V: the law of pairs, whole. -/
namespace K21
open PySem L2 L3
local macro_rules | `(tactic| open_k) => `(tactic| simp only [ssat_seq, ssat_asg, ssat_sRet, ssat_sExpr, ssat_if, ssat_skip, ssat_par, ssat_nx, ssat_ret, ssat_for, sat_e2, sat_e1, sat_eN, sat_aCons, sat_aNil, sat_eVar, sat_eK, sat_tOfE, sat_tTruth, sat_tNot, sat_tAnd, sat_tOr, sat_eIf, sat_eBM, sat_iSeq, sat_iArgs, sat_eAnd, sat_eOr, sat_eNot, sat_eChain, sat_eSl, sat_pNo, sat_pYes, sat_eLc, sat_eKw, sat_mkTup, sat_mkLst, sat_mkObj, sat_ok, callK_eq, List.append_nil, List.map_cons, List.map_nil, List.length_cons, List.length_nil, List.replicate, List.getElem?_cons_succ, List.getElem?_cons_zero, List.cons_append, List.nil_append, List.set_cons_succ, List.set_cons_zero, gName_eq, gTup_tup, gNames_cons, gNames_nil, Nat.zero_add, Nat.reduceAdd, Nat.reduceSub, sz0, sz1, sz2, sz3, sz4, sz5, sz6, sz7, sz8, sz10, sz17, true_and, add_int, sub_int, neg_int, lt_int, le_int, gt_int, ge_int, eq_int, ne_int, blD_bl, truthD_bl, itemsD_lst, itemsD_tup, wipeD, eq_strs, ne_strs, L3.sl_tup, L3.sl_lst, if_true, if_false, Bool.false_eq_true, sat_range1, sat_range2, tuple_lst, tuple_tup, len_tup, len_lst, len_scr, D.int.injEq, exists_eq_left', mt_str, sat_eMeth, sat_mkIns, ssat_fldD, gSeq_lst, ssat_gSub, sat_eDc])
variable {S : Store} {n : Nat}
theorem Ext.refl (S : Store) : Ext S S := ⟨Nat.le_refl _, fun _ _ h => h⟩
theorem Ext.trans {S S' S'' : Store} (a : Ext S S') (b : Ext S' S'') : Ext S S'' := ⟨Nat.le_trans a.le b.le, fun i o h => b.fr i o (a.fr i o h)⟩
def AskOk (b : Int) (p : Tm × Int) : Prop := ∃ d, d ≤ 3 ∧ ev d p.1 (envOf (stands b)) = some (p.2, []) ∧ 0 ≤ p.2 ∧ p.2 < 9973
theorem asks_loop {j : Nat} {b : Int} {a0 a1 a2 a3 a4 a5 a6 a8 a9 a10 a11 : Option D} (hj : 3 ≤ j) (hb : 0 ≤ b ∧ b < 9973) : ∀ (xs : List (Tm × Int)) (S : Store), (∀ p ∈ xs, AskOk b p) →
    lcSat (L3.gTup [11, 10]) tYesD (mAsk (Fs (j + 8))) [a0, a1, a2, a3, a4, a5, a6, some (.tup (insD (stands b))), a8, a9, a10, a11] (xs.map fun p => .tup [p.1.d, .int p.2]) S fun ys S' => ys = (xs.map fun _ => true).map D.bl ∧ Ext S S'
  | [], S, _ => by simp only [List.map_nil, lcSat]; exact ⟨trivial, .refl _⟩
  | p :: xs, S, h => by
    obtain ⟨d, hd, he, hv⟩ := h p (List.mem_cons_self ..)
    rw [List.map_cons]
    unfold lcSat
    simp only [gTup_tup, gNames_cons, gNames_nil, tYesD, sat_ok, if_true, List.set_cons_succ, List.set_cons_zero]
    refine sat_mono (ask_ok (by omega) (by omega) he hv hb) fun r S1 ⟨er, x1⟩ => ?_
    subst er
    refine lcSat_mono (asks_loop hj hb xs S1 fun q hq => h q (List.mem_cons_of_mem _ hq)) fun ys S2 ⟨ey, x2⟩ => ?_
    subst ey
    exact ⟨rfl, x1.trans x2⟩
def askL (a b c : Int) : List D := [.tup [(Tm.nd "less" "" [.num a, .nam "b"]).d, .int ((a - b) % 9973)], .tup [(Tm.nd "below" "" [.num a, .nam "b"]).d, .int (if a < b then 1 else 0)],
  .tup [(Tm.nd "if" "" [.nam "b", .num a, .num c]).d, .int (if 0 < b then a else c)], .tup [(Tm.nd "let" "b" [.num a, .nd "plus" "" [.nam "b"]]).d, .int a], .tup [(Tm.nd "let" "x" [.nam "b", .nd "row" "" [.num c, .nam "x"]]).d, .int b]]
def askT (a b c : Int) : List (Tm × Int) := [(.nd "less" "" [.num a, .nam "b"], (a - b) % 9973), (.nd "below" "" [.num a, .nam "b"], if a < b then 1 else 0),
  (.nd "if" "" [.nam "b", .num a, .num c], if 0 < b then a else c), (.nd "let" "b" [.num a, .nd "plus" "" [.nam "b"]], a), (.nd "let" "x" [.nam "b", .nd "row" "" [.num c, .nam "x"]], b)]
theorem askL_eq {a b c : Int} : ((askT a b c).map fun p => (.tup [p.1.d, .int p.2] : D)) = askL a b c := rfl
theorem askL_ok {a b c : Int} (ha : 0 ≤ a ∧ a < 9973) (hb : 0 ≤ b ∧ b < 9973) (hc : 0 ≤ c ∧ c < 9973) : ∀ p ∈ askT a b c, AskOk b p := by
  intro p hp
  simp only [askT, List.mem_cons, List.not_mem_nil, or_false] at hp
  rcases hp with rfl | rfl | rfl | rfl | rfl
  · exact ⟨2, by decide, ev_less ha, Int.emod_nonneg _ (by decide), Int.emod_lt_of_pos _ (by decide)⟩
  · exact ⟨2, by decide, ev_below ha, by dsimp only; split <;> decide⟩
  · refine ⟨2, by decide, ?_, by dsimp only; split <;> assumption⟩
    have := ev_if (b := b) ha hc
    rw [show (if 0 < b then a else c) = if b ≠ 0 then a else c by split <;> split <;> first | rfl | omega]
    exact this
  · refine ⟨3, by decide, ?_, ha⟩
    have := ev_letb (b := b) ha
    rw [show a % 9973 = a from Int.emod_eq_of_lt ha.1 ha.2] at this
    exact this
  · exact ⟨3, by decide, ev_letx hc, hb⟩
theorem pairs_right (j : Nat) (hj : 3 ≤ j) (hS : Hand n S) : (Fs (j + 9) 24 [.obj n] S).sat fun d S' => d = .bl true ∧ FrH n S S' := by
  rw [show j + 9 = j + 8 + 1 from rfl, Fs_law_pairs_right, sat_run]
  refine ⟨rfl, ?_⟩
  unfold m_law_pairs_right
  refine seq_rule (fun e S1 => ∃ a b : Int, e = [some (.obj n), some (.int a), some (.int b), none, none, none, none, none, none, none, none, none] ∧ (0 ≤ a ∧ a < 9973) ∧ (0 ≤ b ∧ b < 9973) ∧ FrH n S S1) ?_ ?_
  · open_k
    refine sat_mono (nb (j + 5) hS) fun d S1 ⟨⟨a, e1, ha⟩, fr1⟩ => ?_
    subst e1
    refine sat_mono (nb (j + 5) fr1.hd) fun d S2 ⟨⟨b, e2, hb⟩, fr2⟩ => ?_
    subst e2
    try open_k
    exact ⟨a, b, rfl, ha, hb, fr1.trans fr2⟩
  rintro e S1 ⟨a, b, rfl, ha, hb, fr1⟩
  refine seq_rule (fun e S1 => ∃ c : Int, e = [some (.obj n), some (.int a), some (.int b), some (.int c), none, none, none, none, none, none, none, none] ∧ (0 ≤ c ∧ c < 9973) ∧ FrH n S S1) ?_ ?_
  · open_k
    refine sat_mono (nb (j + 5) fr1.hd) fun d S2 ⟨⟨c, e1, hc⟩, fr2⟩ => ?_
    subst e1
    try open_k
    exact ⟨c, rfl, hc, fr1.trans fr2⟩
  rintro e S2 ⟨c, rfl, hc, fr2⟩
  refine seq_rule (fun e S3 => e = [some (.obj n), some (.int a), some (.int b), some (.int c), some (Tm.num a).d, some (Tm.nam "b").d, some (Tm.num c).d, none, none, none, none, none] ∧ S3 = S2) ?_ ?_
  · open_k
    exact ⟨rfl, trivial⟩
  rintro e S3 ⟨rfl, rfl⟩
  refine seq_rule (fun e S4 => e = [some (.obj n), some (.int a), some (.int b), some (.int c), some (Tm.num a).d, some (Tm.nam "b").d, some (Tm.num c).d, some (.tup (insD (stands b))), none, none, none, none] ∧ S4 = S3) ?_ ?_
  · open_k
    exact ⟨rfl, trivial⟩
  rintro e S4 ⟨rfl, rfl⟩
  have dl : 0 ≤ (a - b) % 9973 ∧ (a - b) % 9973 < 9973 := ⟨Int.emod_nonneg _ (by decide), Int.emod_lt_of_pos _ (by decide)⟩
  refine seq_rule (fun e S5 => e = [some (.obj n), some (.int a), some (.int b), some (.int c), some (Tm.num a).d, some (Tm.nam "b").d, some (Tm.num c).d, some (.tup (insD (stands b))), some (.int ((a - b) % 9973)), none, none, none] ∧ S5 = S4) ?_ ?_
  · open_k
    have e : ∀ S, intD [.bl (decide (a < b))] S = .ok (.int (if a < b then 1 else 0)) S := fun S => by by_cases h : a < b <;> simp [intD, h]
    rw [e, sat_ok, mul_int]
    refine ⟨mulOk_l (by decide), ?_⟩
    open_k
    rw [show a - b + 9973 * (if a < b then 1 else 0) = (a - b) % 9973 by split <;> omega]
    exact ⟨rfl, trivial⟩
  rintro e S5 ⟨rfl, rfl⟩
  have asks : ∃ xs : List (Tm × Int), (∀ p ∈ xs, AskOk b p) ∧ (xs.map fun p => (.tup [p.1.d, .int p.2] : D)) = askL a b c := ⟨_, askL_ok ha hb hc, askL_eq⟩
  obtain ⟨xs, hxs, exs⟩ := asks
  have nS : ∀ l : List D, (S5 ++ [O.lst l])[S5.length]? = some (.lst l) := fun l => by simp
  have set_ : ∀ l l' : List D, (S5 ++ [O.lst l]).set S5.length (.lst l') = S5 ++ [.lst l'] := fun l l' => by rw [List.set_append_right _ _ (Nat.le_refl _)]; simp
  have fin : (sRet (eN allD (aCons (eLc (iSeq (e1 frzD (eVar 9))) [11, 10] (L3.gTup [11, 10]) (tYesD) (mAsk (Fs (j + 8)))) (aNil))) [some (.obj n), some (.int a), some (.int b), some (.int c), some (Tm.num a).d, some (Tm.nam "b").d, some (Tm.num c).d, some (.tup (insD (stands b))), some (.int ((a - b) % 9973)), some (.obj S5.length), none, none] (S5 ++ [.lst (askL a b c)])).sat (fun _ S' => D.non = .bl true ∧ FrH n S S') (fun d S' => d = .bl true ∧ FrH n S S') (fun _ _ => False) (fun _ _ => False) := by
    open_k
    have ef : frzD (.obj S5.length) (S5 ++ [O.lst (askL a b c)]) = .ok (.lst (askL a b c)) ((S5 ++ [O.lst (askL a b c)]).set S5.length .dead) := by unfold frzD; simp only [nS]
    rw [ef]
    open_k
    refine ⟨small (by rw [← exs, List.length_map]; have := congrArg List.length exs; rw [List.length_map] at this; rw [this]; simp [askL]), ?_⟩
    rw [← exs]
    refine lcSat_mono (asks_loop hj hb xs _ hxs) fun ys S6 ⟨ey, x6⟩ => ?_
    subst ey
    rw [all_bl, sat_ok]
    have f1 : FrH n S5 ((S5 ++ [O.lst (xs.map fun p => (.tup [p.1.d, .int p.2] : D))]).set S5.length .dead) := FrH.put (FrH.app fr2.hd _) fr2.hd (Nat.le_refl _) _
    refine ⟨?_, fr2.trans (f1.trans (x6.hand f1.hd))⟩
    rw [show (List.map (fun _ => true) xs).all id = true by simp]
  refine seq_rule (fun e S6 => e = [some (.obj n), some (.int a), some (.int b), some (.int c), some (Tm.num a).d, some (Tm.nam "b").d, some (Tm.num c).d, some (.tup (insD (stands b))), some (.int ((a - b) % 9973)), some (.obj S5.length), none, none] ∧ S6 = S5 ++ [.lst ((askL a b c).take 2)]) ?_ ?_
  · open_k
    by_cases h : a < b
    · simp only [h, decide_true, if_true, sat_ok, sat_eK]
      try open_k
      simp only [askL, List.take, h, if_true]
      first | exact ⟨rfl, rfl⟩ | rfl | trivial
    · simp only [h, decide_false, Bool.false_eq_true, if_false, sat_ok, sat_eK]
      try open_k
      simp only [askL, List.take, h, if_false]
      first | exact ⟨rfl, rfl⟩ | rfl | trivial
  rintro e S6 ⟨rfl, rfl⟩
  refine seq_rule (fun e S6 => e = [some (.obj n), some (.int a), some (.int b), some (.int c), some (Tm.num a).d, some (Tm.nam "b").d, some (Tm.num c).d, some (.tup (insD (stands b))), some (.int ((a - b) % 9973)), some (.obj S5.length), none, none] ∧ S6 = S5 ++ [.lst ((askL a b c).take 3)]) ?_ ?_
  · open_k
    refine ⟨mtD_obj (nS _), ?_⟩
    by_cases h : 0 < b
    · simp only [h, decide_true, if_true]
      try open_k
      rw [append_obj (nS _), set_]
      refine ⟨by simp [askL]; decide, ?_⟩
      simp only [askL, List.take, h, if_true]
      first | exact ⟨rfl, rfl⟩ | rfl | trivial
    · simp only [h, decide_false, Bool.false_eq_true, if_false]
      try open_k
      rw [append_obj (nS _), set_]
      refine ⟨by simp [askL]; decide, ?_⟩
      simp only [askL, List.take, h, if_false]
      first | exact ⟨rfl, rfl⟩ | rfl | trivial
  rintro e S6 ⟨rfl, rfl⟩
  refine seq_rule (fun e S6 => e = [some (.obj n), some (.int a), some (.int b), some (.int c), some (Tm.num a).d, some (Tm.nam "b").d, some (Tm.num c).d, some (.tup (insD (stands b))), some (.int ((a - b) % 9973)), some (.obj S5.length), none, none] ∧ S6 = S5 ++ [.lst ((askL a b c).take 4)]) ?_ ?_
  · open_k
    refine ⟨mtD_obj (nS _), ?_⟩
    rw [append_obj (nS _), set_]
    refine ⟨by simp [askL]; decide, ?_⟩
    first | exact ⟨rfl, rfl⟩ | rfl
  rintro e S6 ⟨rfl, rfl⟩
  refine seq_rule (fun e S6 => e = [some (.obj n), some (.int a), some (.int b), some (.int c), some (Tm.num a).d, some (Tm.nam "b").d, some (Tm.num c).d, some (.tup (insD (stands b))), some (.int ((a - b) % 9973)), some (.obj S5.length), none, none] ∧ S6 = S5 ++ [.lst (askL a b c)]) ?_ ?_
  · open_k
    refine ⟨mtD_obj (nS _), ?_⟩
    rw [append_obj (nS _), set_]
    refine ⟨by simp [askL]; decide, ?_⟩
    first | exact ⟨rfl, rfl⟩ | rfl
  rintro e S6 ⟨rfl, rfl⟩
  exact fin
end K21
set_option Elab.async false
set_option linter.all false
set_option maxRecDepth 100000
set_option maxHeartbeats 4000000
/-! K21W: the law of each, whole; the law. -/
namespace K21
open PySem L2 L3
local macro_rules | `(tactic| open_k) => `(tactic| simp only [ssat_seq, ssat_asg, ssat_sRet, ssat_sExpr, ssat_if, ssat_skip, ssat_par, ssat_nx, ssat_ret, ssat_for, sat_e2, sat_e1, sat_eN, sat_aCons, sat_aNil, sat_eVar, sat_eK, sat_tOfE, sat_tTruth, sat_tNot, sat_tAnd, sat_tOr, sat_eIf, sat_eBM, sat_iSeq, sat_iArgs, sat_eAnd, sat_eOr, sat_eNot, sat_eChain, sat_eSl, sat_pNo, sat_pYes, sat_eLc, sat_eKw, sat_mkTup, sat_mkLst, sat_mkObj, sat_ok, callK_eq, List.append_nil, List.map_cons, List.map_nil, List.length_cons, List.length_nil, List.replicate, List.getElem?_cons_succ, List.getElem?_cons_zero, List.cons_append, List.nil_append, List.set_cons_succ, List.set_cons_zero, gName_eq, gTup_tup, gNames_cons, gNames_nil, Nat.zero_add, Nat.reduceAdd, Nat.reduceSub, sz0, sz1, sz2, sz3, sz4, sz5, sz6, sz7, sz8, sz10, sz17, true_and, add_int, sub_int, neg_int, lt_int, le_int, gt_int, ge_int, eq_int, ne_int, blD_bl, truthD_bl, itemsD_lst, itemsD_tup, wipeD, eq_strs, ne_strs, L3.sl_tup, L3.sl_lst, if_true, if_false, Bool.false_eq_true, sat_range1, sat_range2, tuple_lst, tuple_tup, len_tup, len_lst, len_scr, D.int.injEq, exists_eq_left', mt_str, sat_eMeth, sat_mkIns, ssat_fldD, gSeq_lst, ssat_gSub, sat_eDc])
variable {S : Store} {n : Nat}
theorem w_say_plus : (("say" : Str) = "plus") = False := eq_false (by decide +kernel)
theorem w_say_times : (("say" : Str) = "times") = False := eq_false (by decide +kernel)
theorem w_say_most : (("say" : Str) = "most") = False := eq_false (by decide +kernel)
theorem w_say_less : (("say" : Str) = "less") = False := eq_false (by decide +kernel)
theorem w_say_below : (("say" : Str) = "below") = False := eq_false (by decide +kernel)
theorem w_say_row : (("say" : Str) = "row") = False := eq_false (by decide +kernel)
theorem w_each_plus : (("each" : Str) = "plus") = False := eq_false (by decide +kernel)
theorem w_each_times : (("each" : Str) = "times") = False := eq_false (by decide +kernel)
theorem w_each_most : (("each" : Str) = "most") = False := eq_false (by decide +kernel)
theorem w_each_less : (("each" : Str) = "less") = False := eq_false (by decide +kernel)
theorem w_each_below : (("each" : Str) = "below") = False := eq_false (by decide +kernel)
theorem w_each_row : (("each" : Str) = "row") = False := eq_false (by decide +kernel)
theorem w_each_let : (("each" : Str) = "let") = False := eq_false (by decide +kernel)
def inT (y : Int) : Tm := .nd "say" "" [.nd "plus" "" [.nam "x", .num y]]
def saidF (y : Int) (i : Int) : Int := (i + y) % 9973
theorem ev_in {y i : Int} {e : WEnv} (hy : 0 ≤ y ∧ y < 9973) : ev 3 (inT y) (upE e "x" i) = some (saidF y i, [saidF y i]) := by
  simp [inT, saidF, ev, evs, hy, upE, w_say_plus, w_say_times, w_say_most, w_say_less, w_say_below, w_say_row]
theorem rnds_in {y : Int} {e : WEnv} (hy : 0 ≤ y ∧ y < 9973) : ∀ (is : List Int) (last : Int), rnds (ev 3) (inT y) e "x" is last = some ((is.map (saidF y)).getLastD last, is.map (saidF y))
  | [], last => rfl
  | i :: is, last => by
    simp only [rnds, ev_in hy, rnds_in hy is, List.map_cons, List.singleton_append, List.getLastD_cons]
theorem ev_each {m y : Int} {e : WEnv} (hm : 0 ≤ m ∧ m < 9973) (hy : 0 ≤ y ∧ y < 9973) : ev 4 (.nd "each" "x" [.num m, inT y]) e = some (((turns (m % 4)).map (saidF y)).getLastD 0, (turns (m % 4)).map (saidF y)) := by
  have h1 : ev 3 (.num m) e = some (m, []) := by simp [ev, hm]
  show (if 100 < 2 then _ else _) = _
  simp only [w_each_plus, w_each_times, w_each_most, w_each_less, w_each_below, w_each_row, w_each_let, if_false, if_true, h1, rnds_in hy, Option.map_some, List.nil_append]
  simp
theorem last_ints : ∀ (l : List Int) (x : Int), ixD (.lst ((x :: l).map D.int)) (.int (-1)) S = .ok (.int (l.getLastD x)) S := by
  intro l x
  have e : ∃ p, (x :: l).map D.int = p ++ [.int (l.getLastD x)] := by
    rcases List.eq_nil_or_concat l with rfl | ⟨p, y, rfl⟩
    · exact ⟨[], rfl⟩
    · refine ⟨(x :: p).map D.int, ?_⟩
      rw [List.concat_eq_append, List.getLastD_eq_getLast?]
      simp
  obtain ⟨p, e⟩ := e
  rw [e]
  unfold ixD
  simp only [atI_last]
theorem each_right (j : Nat) (hj : 6 ≤ j) (hS : Hand n S) : (Fs (j + 9) 25 [.obj n] S).sat fun d S' => d = .bl true ∧ FrH n S S' := by
  rw [show j + 9 = j + 8 + 1 from rfl, Fs_law_each_right, sat_run]
  refine ⟨rfl, ?_⟩
  unfold m_law_each_right
  refine seq_rule (fun e S1 => ∃ m : Int, e = [some (.obj n), some (.int m), none, none, none, none, none] ∧ (0 ≤ m ∧ m < 9973) ∧ FrH n S S1) ?_ ?_
  · open_k
    refine sat_mono (nb (j + 5) hS) fun d S1 ⟨⟨a, e1, ha⟩, fr1⟩ => ?_
    subst e1
    refine ⟨small (by decide), ?_⟩
    refine sat_mono (pk (j + 6) n S1 _ _ fr1.hd (.lst _) (by simp) (by simp)) fun d3 S3 ⟨h, fr3⟩ => ?_
    simp at h
    rcases h with rfl | rfl | rfl | rfl | rfl | rfl | rfl | rfl | rfl | rfl | rfl <;> exact ⟨_, rfl, by omega, fr1.trans fr3⟩
  rintro e S1 ⟨m, rfl, hm, fr1⟩
  refine seq_rule (fun e S2 => ∃ y : Int, e = [some (.obj n), some (.int m), some (.int y), none, none, none, none] ∧ (0 ≤ y ∧ y < 9973) ∧ FrH n S S2) ?_ ?_
  · open_k
    refine sat_mono (nb (j + 5) fr1.hd) fun d S2 ⟨⟨a, e1, ha⟩, fr2⟩ => ?_
    subst e1
    try open_k
    exact ⟨a, rfl, ha, fr1.trans fr2⟩
  rintro e S2 ⟨y, rfl, hy, fr2⟩
  refine seq_rule (fun e S3 => e = [some (.obj n), some (.int m), some (.int y), some (inT y).d, none, none, none] ∧ S3 = S2) ?_ ?_
  · open_k
    exact ⟨rfl, trivial⟩
  rintro e S3 ⟨rfl, rfl⟩
  refine seq_rule (fun e S4 => e = [some (.obj n), some (.int m), some (.int y), some (inT y).d, some (Tm.nd "each" "x" [.num m, inT y]).d, none, none] ∧ S4 = S3) ?_ ?_
  · open_k
    exact ⟨rfl, trivial⟩
  rintro e S4 ⟨rfl, rfl⟩
  have h4 : 0 ≤ m % 4 ∧ m % 4 < 4 := ⟨Int.emod_nonneg _ (by decide), Int.emod_lt_of_pos _ (by decide)⟩
  refine seq_rule (fun e S5 => (∃ a6 : Option D, e = [some (.obj n), some (.int m), some (.int y), some (inT y).d, some (Tm.nd "each" "x" [.num m, inT y]).d, some (.lst (((turns (m % 4)).map (saidF y)).map D.int)), a6]) ∧ S5 = S4) ?_ ?_
  · open_k
    rw [fdiv_int]
    refine ⟨⟨by decide, by decide⟩, ?_⟩
    rw [mul_int]
    refine ⟨mulOk_r (by decide), ?_⟩
    open_k
    have e4 : m - m / 4 * 4 = m % 4 := by have := Int.emod_def m 4; omega
    rw [e4]
    refine ⟨by simp [okRng]; omega, small (by simp; omega), ?_⟩
    refine lc_map (fun d => match d with | .int i => .int (saidF y i) | d => d) (fun x hx => ?_) ?_
    · obtain ⟨i, rfl, i0, i1⟩ := mem_range hx
      open_k
      rw [mod_int]
      exact ⟨by decide, rfl, rfl⟩
    · open_k
      have er : (rangeD 0 (m % 4)).map (fun d => match d with | .int i => .int (saidF y i) | d => d) = ((turns (m % 4)).map (saidF y)).map D.int := by
        simp only [rangeD, turns, List.map_map, Int.sub_zero]
        refine List.map_congr_left fun i _ => ?_
        simp
      rw [er]
      exact ⟨⟨_, rfl⟩, trivial⟩
  rintro e S5 ⟨⟨a6, rfl⟩, rfl⟩
  have hr : ∀ x ∈ (turns (m % 4)).map (saidF y), 0 ≤ x ∧ x < 9973 := fun x hx => by
    obtain ⟨i, _, rfl⟩ := List.mem_map.mp hx
    exact ⟨Int.emod_nonneg _ (by decide), Int.emod_lt_of_pos _ (by decide)⟩
  have hl : ((turns (m % 4)).map (saidF y)).length ≤ 100 := by simp [turns]; omega
  have hv : 0 ≤ ((turns (m % 4)).map (saidF y)).getLastD 0 ∧ ((turns (m % 4)).map (saidF y)).getLastD 0 < 9973 := by
    cases h : (turns (m % 4)).map (saidF y) with
    | nil => simp
    | cons a l =>
      rw [List.getLastD_cons, List.getLastD_eq_getLast?]
      cases q : l.getLast? with
      | none => simp only [Option.getD_none]; exact hr a (by rw [h]; simp)
      | some b => simp only [Option.getD_some]; exact hr b (by rw [h]; exact List.mem_cons_of_mem _ (List.mem_of_getLast? q))
  obtain ⟨z, hz⟩ := rep_ok hv hl hr
  have rr := run_ok (S := S5) (ins := [("x", 7)]) (d := 4) (k := j + 6) (by omega) (by decide) (ev_each hm hy) (by omega) (by simp) (by simp)
  open_k
  refine sat_mono rr fun r S6 ⟨er, x6⟩ => ?_
  subst er
  rw [hz, sat_ok]
  try open_k
  rw [show (D.lst [.int 0]) = .lst ([(0 : Int)].map D.int) from rfl, add_lst (small (by simp; have := hl; simp at this; omega)), sat_ok]
  rw [← List.map_append, List.singleton_append, last_ints, sat_ok]
  try open_k
  rw [hz, sat_ok]
  open_k
  simp only [beq_self_eq_true]
  exact ⟨trivial, fr2.trans (x6.hand fr2.hd)⟩
theorem law_true (ns : List Int) (hns : ns.length ≤ 63) : ∃ S, Fs 60 26 [.scr ns] [] = .ok (.bl true) S := by
  have key : (Fs 60 26 [.scr ns] []).sat fun d _ => d = .bl true := by
    rw [show (60 : Nat) = 59 + 1 from rfl, Fs_law, sat_run]
    refine ⟨rfl, ?_⟩
    unfold m_law
    refine seq_rule (fun e S => True) ?_ fun e S _ => by simp
    obtain ⟨m, hm, em⟩ : ∃ m : Nat, m ≤ 4 ∧ ∀ S, (eN maxD (aCons (eK (.int 1)) (aCons (eN minD (aCons (eN lenD (aCons (eVar 0) (aNil))) (aCons (eK (.int 4)) (aNil)))) (aNil))) [some (.scr ns), none, none, none] S) = .ok (.int m) S := by
      refine ⟨max 1 (min ns.length 4), by omega, fun S => ?_⟩
      apply of_sat
      simp [minD, maxD]
      repeat' split
      all_goals omega
    simp only [ssat_for, sat_iArgs, sat_aCons, sat_aNil, List.map_cons, List.map_nil, List.cons_append, List.nil_append, List.length_cons, List.length_nil, Nat.zero_add, Nat.reduceSub, List.replicate, em, sat_ok, sat_range1]
    refine ⟨by simp [okRng]; omega, ?_⟩
    refine for_each (fun e S => ∃ a1 a2 a3 : Option D, e = [some (.scr ns), a1, a2, a3]) ⟨_, _, _, rfl⟩ ?_ fun _ _ _ => trivial
    rintro x hx e S ⟨a1, a2, a3, rfl⟩
    obtain ⟨i, rfl, i0, i1⟩ := mem_range hx
    simp only [gName_eq, ssat_nx, List.set_cons_succ, List.set_cons_zero]
    refine seq_rule (fun e S => ∃ n, (∃ a3 : Option D, e = [some (.scr ns), some (.int i), some (.obj n), a3]) ∧ Hand n S) ?_ ?_
    · open_k
      have hd : IsHand (Fs 59 18) := by rw [show (59 : Nat) = 58 + 1 from rfl, Fs_law_hand]; exact isHand
      refine sat_mono (hd S ns i i0 (by omega)) fun d S' ⟨e, g, s, eS⟩ => ?_
      subst e eS
      try open_k
      exact ⟨_, ⟨_, rfl⟩, g, s, by simp⟩
    rintro e S ⟨n, ⟨a3, rfl⟩, hS⟩
    simp only [ssat_for, sat_iArgs, sat_aCons, sat_aNil, sat_eK, sat_range1]
    refine ⟨by decide, ?_⟩
    refine for_each (fun e S => (∃ a3 : Option D, e = [some (.scr ns), some (.int i), some (.obj n), a3]) ∧ Hand n S) ⟨⟨_, rfl⟩, hS⟩ ?_ fun e S ⟨⟨a3, h⟩, hS⟩ => ⟨_, _, _, h⟩
    rintro x hx e S ⟨⟨a3, rfl⟩, hS⟩
    simp only [gName_eq, ssat_nx, List.set_cons_succ, List.set_cons_zero]
    open_k
    refine sat_mono (many_right 50 hS) fun d S1 ⟨e1, fr1⟩ => ?_
    subst e1
    rw [truthD_bl, sat_ok]
    simp only [Bool.not_true, Bool.false_eq_true, if_false]
    refine sat_mono (pairs_right 50 (by decide) fr1.hd) fun d S2 ⟨e1, fr2⟩ => ?_
    subst e1
    rw [truthD_bl, sat_ok]
    simp only [Bool.not_true, Bool.false_eq_true, if_false]
    refine sat_mono (each_right 50 (by decide) fr2.hd) fun d S3 ⟨e1, fr3⟩ => ?_
    subst e1
    rw [truthD_bl, sat_ok]
    simp only [Bool.not_true, Bool.false_eq_true, if_false, ssat_skip]
    exact ⟨⟨_, rfl⟩, fr3.hd⟩
  obtain ⟨d, S, e, rfl⟩ := sat_ex.mp key
  exact ⟨S, e⟩
end K21
set_option Elab.async false
set_option linter.all false
set_option maxRecDepth 100000
set_option maxHeartbeats 4000000
open PySem PySem.W PyProof.Rows in
set_option maxRecDepth 100000 in
set_option maxHeartbeats 0 in
theorem PySem.Challenge.cw_holepatterns_k21_words_at_their_bounds_holds : PySem.Challenge.rw_holepatterns_k21_words_at_their_bounds.Holds := by
  w_on; o_law; k_head; (case hw => w_witness2)
  k_fill
  refine L3.walk (l := PySem.Challenge.rw_holepatterns_k21_words_at_their_bounds) (k := (L3.lv 60)) (x := "_law_script") rfl (by decide +kernel) rfl ⟨rfl, by decide, by decide⟩ (fun w h Y => PySem.W.kIn_of Y) ?F
  case F =>
    intro w mg fa h KX G hmg
    refine' K21.all_mk KX G hmg K21.law_true ?a_Going ?pg_Going ?hd_Going ?po_Going ?sa_Going ?mk_Going ?kc_Going ?n_Going_told_aloud ?a_rest_of ?l_rest_of ?c_rest_of ?k_rest_of ?a_with_name ?l_with_name ?c_with_name ?k_with_name ?a_num_worth ?l_num_worth ?c_num_worth ?k_num_worth ?a_name_worth ?l_name_worth ?c_name_worth ?k_name_worth ?a_plus_worth ?l_plus_worth ?c_plus_worth ?k_plus_worth ?a_times_worth ?l_times_worth ?c_times_worth ?k_times_worth ?a_most_worth ?l_most_worth ?c_most_worth ?k_most_worth ?a_less_worth ?l_less_worth ?c_less_worth ?k_less_worth ?a_below_worth ?l_below_worth ?c_below_worth ?k_below_worth ?a_if_worth ?l_if_worth ?c_if_worth ?k_if_worth ?a_say_worth ?l_say_worth ?c_say_worth ?k_say_worth ?a_row_worth ?l_row_worth ?c_row_worth ?k_row_worth ?a_let_worth ?l_let_worth ?c_let_worth ?k_let_worth ?a_each_worth ?l_each_worth ?c_each_worth ?k_each_worth ?a_Going___init__ ?i_Going___init__ ?l_Going___init__ ?c_Going___init__ ?k_Going___init__ ?a_Going_worth ?i_Going_worth ?l_Going_worth ?c_Going_worth ?k_Going_worth ?a_Going_part_worths ?i_Going_part_worths ?l_Going_part_worths ?c_Going_part_worths ?k_Going_part_worths ?a_run ?l_run ?c_run ?k_run ?a_law_hand ?l_law_hand ?c_law_hand ?k_law_hand ?a_law_take ?l_law_take ?c_law_take ?k_law_take ?a_law_pick ?l_law_pick ?c_law_pick ?k_law_pick ?a_law_number ?l_law_number ?c_law_number ?k_law_number ?a_law_due ?l_law_due ?c_law_due ?k_law_due ?a_law_many_right ?l_law_many_right ?c_law_many_right ?k_law_many_right ?a_law_pairs_right ?l_law_pairs_right ?c_law_pairs_right ?k_law_pairs_right ?a_law_each_right ?l_law_each_right ?c_law_each_right ?k_law_each_right ?a_law ?l_law ?c_law ?k_law ?z_abs ?z_all ?z_dict ?z_int ?z_len ?z_max ?z_min ?z_range ?z_repr ?z_sum ?z_tuple ?z_zip ?x_ROUNDS ?x_WAYS ?l_WAYS ?m_WAYS ?h_WAYS_11 ?h_WAYS_10 ?h_WAYS_9 ?h_WAYS_8 ?h_WAYS_7 ?h_WAYS_6 ?h_WAYS_5 ?h_WAYS_4 ?h_WAYS_3 ?h_WAYS_2 ?h_WAYS_1 ?h_WAYS_0 ?x_WHEEL
    (case a_Going => k_is)
    (case pg_Going => k_is)
    (case hd_Going => k_is)
    (case po_Going => k_is)
    (case sa_Going => k_is)
    (case mk_Going => k_is)
    (case kc_Going => k_is)
    (case n_Going_told_aloud => k_is)
    (case a_rest_of => k_is)
    (case l_rest_of => k_is)
    (case c_rest_of => k_is)
    (case k_rest_of => k_is)
    (case a_with_name => k_is)
    (case l_with_name => k_is)
    (case c_with_name => k_is)
    (case k_with_name => k_is)
    (case a_num_worth => k_is)
    (case l_num_worth => k_is)
    (case c_num_worth => k_is)
    (case k_num_worth => k_is)
    (case a_name_worth => k_is)
    (case l_name_worth => k_is)
    (case c_name_worth => k_is)
    (case k_name_worth => k_is)
    (case a_plus_worth => k_is)
    (case l_plus_worth => k_is)
    (case c_plus_worth => k_is)
    (case k_plus_worth => k_is)
    (case a_times_worth => k_is)
    (case l_times_worth => k_is)
    (case c_times_worth => k_is)
    (case k_times_worth => k_is)
    (case a_most_worth => k_is)
    (case l_most_worth => k_is)
    (case c_most_worth => k_is)
    (case k_most_worth => k_is)
    (case a_less_worth => k_is)
    (case l_less_worth => k_is)
    (case c_less_worth => k_is)
    (case k_less_worth => k_is)
    (case a_below_worth => k_is)
    (case l_below_worth => k_is)
    (case c_below_worth => k_is)
    (case k_below_worth => k_is)
    (case a_if_worth => k_is)
    (case l_if_worth => k_is)
    (case c_if_worth => k_is)
    (case k_if_worth => k_is)
    (case a_say_worth => k_is)
    (case l_say_worth => k_is)
    (case c_say_worth => k_is)
    (case k_say_worth => k_is)
    (case a_row_worth => k_is)
    (case l_row_worth => k_is)
    (case c_row_worth => k_is)
    (case k_row_worth => k_is)
    (case a_let_worth => k_is)
    (case l_let_worth => k_is)
    (case c_let_worth => k_is)
    (case k_let_worth => k_is)
    (case a_each_worth => k_is)
    (case l_each_worth => k_is)
    (case c_each_worth => k_is)
    (case k_each_worth => k_is)
    (case a_Going___init__ => k_is)
    (case i_Going___init__ => k_is)
    (case l_Going___init__ => k_is)
    (case c_Going___init__ => k_is)
    (case k_Going___init__ => k_is)
    (case a_Going_worth => k_is)
    (case i_Going_worth => k_is)
    (case l_Going_worth => k_is)
    (case c_Going_worth => k_is)
    (case k_Going_worth => k_is)
    (case a_Going_part_worths => k_is)
    (case i_Going_part_worths => k_is)
    (case l_Going_part_worths => k_is)
    (case c_Going_part_worths => k_is)
    (case k_Going_part_worths => k_is)
    (case a_run => k_is)
    (case l_run => k_is)
    (case c_run => k_is)
    (case k_run => k_is)
    (case a_law_hand => k_is)
    (case l_law_hand => k_is)
    (case c_law_hand => k_is)
    (case k_law_hand => k_is)
    (case a_law_take => k_is)
    (case l_law_take => k_is)
    (case c_law_take => k_is)
    (case k_law_take => k_is)
    (case a_law_pick => k_is)
    (case l_law_pick => k_is)
    (case c_law_pick => k_is)
    (case k_law_pick => k_is)
    (case a_law_number => k_is)
    (case l_law_number => k_is)
    (case c_law_number => k_is)
    (case k_law_number => k_is)
    (case a_law_due => k_is)
    (case l_law_due => k_is)
    (case c_law_due => k_is)
    (case k_law_due => k_is)
    (case a_law_many_right => k_is)
    (case l_law_many_right => k_is)
    (case c_law_many_right => k_is)
    (case k_law_many_right => k_is)
    (case a_law_pairs_right => k_is)
    (case l_law_pairs_right => k_is)
    (case c_law_pairs_right => k_is)
    (case k_law_pairs_right => k_is)
    (case a_law_each_right => k_is)
    (case l_law_each_right => k_is)
    (case c_law_each_right => k_is)
    (case k_law_each_right => k_is)
    (case a_law => k_is)
    (case l_law => k_is)
    (case c_law => k_is)
    (case k_law => k_is)
    (case z_abs => k_is)
    (case z_all => k_is)
    (case z_dict => k_is)
    (case z_int => k_is)
    (case z_len => k_is)
    (case z_max => k_is)
    (case z_min => k_is)
    (case z_range => k_is)
    (case z_repr => k_is)
    (case z_sum => k_is)
    (case z_tuple => k_is)
    (case z_zip => k_is)
    (case x_ROUNDS => k_is)
    (case x_WAYS => k_is)
    (case l_WAYS => k_is)
    (case m_WAYS => rfl)
    (case h_WAYS_11 => rfl)
    (case h_WAYS_10 => rfl)
    (case h_WAYS_9 => rfl)
    (case h_WAYS_8 => rfl)
    (case h_WAYS_7 => rfl)
    (case h_WAYS_6 => rfl)
    (case h_WAYS_5 => rfl)
    (case h_WAYS_4 => rfl)
    (case h_WAYS_3 => rfl)
    (case h_WAYS_2 => rfl)
    (case h_WAYS_1 => rfl)
    (case h_WAYS_0 => rfl)
    (case x_WHEEL => k_is)
